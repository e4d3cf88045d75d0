import PyProof.Rows.All
import Wide.All
import OpenK.AllK
import Wide.FinOn
import KE.KStateDown
import Lean
import HandS.ForMost
import HandS.Exc
import HandS.Head0
import HandS.Head1
import HandS.Head2
import HandS.HeadEnd
import HandS.HeadHook1
import HandS.HeadHook2
import HandS.HeadHook3
import HandS.TryOnly
import HandS.ExcOwn
import HandS.WordsExc
import HandS.ExcInit
import HandS.ExcField
import HandS.ExcIs
import HandS.IsInst
import HandS.Property
import HandS.Style
import HandS.TupAny
import HandS.TupLe
import HandS.TupMul
import HandS.Wide
import HandS.Zip
import HandS.Flow
import HandS.OwnEq
import HandS.Sort
import HandS.SortRule
import HandS.Text
import HandS.FStr
import KE.KExcIs
import KE.KTupSum
import KE.GoesMore
import KE.SortData
import KE.DataEq
import HandS.TupSets
import HandS.SetFor
import HandS.Conv
import HandS.NoneIn
import HandS.TryMany
import PySem.Challenge.RW_partsjoined_k07_programs_exchanged
set_option Elab.async false
set_option linter.all false
set_option maxRecDepth 100000
set_option maxHeartbeats 2000000
/-! DH: the head's facts: each def by a path of one's own, and one Bool of facts. -/
namespace DH
open PySem PySem.Spec PyProof.Rows L2
/-- a def: how it is come to in the written part, its name, its long name, its statement -/
structure DefQ where
  path : PySem.W.Frag → Addr
  nm : Str
  ql : Str
  st : Stmt
abbrev FW : Type := Option (Str × Str × Arguments × FuncBody × Scope × Addr × List (Str × Addr) × Addr)
def fw (K : PySem.W.Frag) (a : Addr) : FW := (K.lookup a).bind fun o => match o.data with
  | .func fd => some (fd.name, fd.qualname, fd.params, fd.body, fd.scope, fd.globals, fd.closure, fd.builtins)
  | _ => none
def DefQ.val (d : DefQ) : FW := some (d.nm, d.ql, defArgs d.st, .stmts (defBody d.st), defScope d.st, mainGlobals, [], builtinsNs)
def noneB : Value → Bool
  | .none => true
  | _ => false
theorem noneB_ok {v : Value} (h : noneB v = true) : v = .none := by
  cases v <;> first | rfl | (cases h)
def DefQ.ok (K : PySem.W.Frag) (d : DefQ) : Bool := PySem.W.keepIn K (.ref (d.path K)) && match K.lookup (d.path K) with
  | some ⟨_, _, Data.func fd, _⟩ => PySem.W.codeIn K fd.code d.ql && noneB fd.defaults
  | _ => false
theorem DefQ.fun_ {K : PySem.W.Frag} {d : DefQ} (e : fw K (d.path K) = d.val) (c : d.ok K = true) : ∃ fd, Fun K d.nm d.ql d.st (d.path K) fd := by
  obtain ⟨kp, c2⟩ := He.ba c
  unfold fw at e
  cases q : K.lookup (d.path K) with
  | none =>
    rw [q] at c2
    cases c2
  | some o =>
    obtain ⟨oc, od, dt, osl⟩ := o
    rw [q] at c2 e
    cases dt with
    | func fd =>
      obtain ⟨n1, n2, n3, n4, n5, n6, n7, n8, n9, n10, n11, n12, n13, n14, n15⟩ := fd
      have e2 : (some (n1, n2, n3, n4, n5, n6, n7, n15) : FW) = some (d.nm, d.ql, defArgs d.st, .stmts (defBody d.st), defScope d.st, mainGlobals, [], builtinsNs) := e
      simp only [Option.some.injEq, Prod.mk.injEq] at e2
      obtain ⟨h1, h2, h3, h4, h5, h6, h7, h8⟩ := e2
      subst h1 h2 h3 h4 h5 h6 h7 h8
      have c3 : (PySem.W.codeIn K n13 d.ql && noneB n8) = true := c2
      obtain ⟨k1, k2⟩ := He.ba c3
      have k3 := noneB_ok k2
      subst k3
      exact ⟨_, ⟨oc, od, n9, n10, n11, n12, n13, n14, osl, rfl, q, k1⟩, kp⟩
    | _ => cases c2
/-- a table of the text: where it stands, its keys in order -/
abbrev TabQ : Type := (PySem.W.Frag → Addr) × List Str
abbrev AlQ : Type := (Bool × List FW) × List (Option (List (Option (Str × Int))))
def obsQ (fb : PySem.W.Frag → Bool) (fn : List DefQ) (ts : List TabQ) (K : PySem.W.Frag) : AlQ := ((fb K && fn.all fun d => d.ok K, fn.map fun d => fw K (d.path K)), ts.map fun t => He.dicW K (t.1 K))
def valQ (fn : List DefQ) (ts : List TabQ) (w : World) : AlQ := ((true, fn.map DefQ.val), ts.map fun t => some (He.keysIn w.params t.2))
def SaysQ (fb : PySem.W.Frag → Bool) (fn : List DefQ) (ts : List TabQ) (w : World) (K : PySem.W.Frag) : Prop := obsQ fb fn ts K = valQ fn ts w
def asQ (g : Addr → Option Obj) : Nat → List Addr
  | 0 => [mainGlobals, cStatics]
  | n + 1 => He.growD g (asQ g n)
def obsQG (n : Nat) (fb : PySem.W.Frag → Bool) (fn : List DefQ) (ts : List TabQ) (g : Addr → Option Obj) : AlQ := obsQ fb fn ts (He.frG g (asQ g n ++ [sysModules]))
def hookQ (n : Nat) (fb : PySem.W.Frag → Bool) (fn : List DefQ) (ts : List TabQ) : PySem.W.Hook where
  α := AlQ
  obs := fun s => obsQG n fb fn ts s.heap.get?
  val := fun w => valQ fn ts w
  says := fun w h => ∃ K : PySem.W.Frag, K.In h ∧ SaysQ fb fn ts w K
  of := fun _ _ e => ⟨_, He.frG_in, e⟩
  keeps := fun _ _ _ ⟨K, hK, c⟩ k => ⟨K, PySem.W.Frag.In.keeps hK k, c⟩
theorem obsQG_eq {n : Nat} {fb : PySem.W.Frag → Bool} {fn : List DefQ} {ts : List TabQ} {g : Addr → Option Obj} {s : Shared} (h : ∀ a, g a = s.heap.get? a) : obsQG n fb fn ts g = (hookQ n fb fn ts).obs s := by
  have e : g = s.heap.get? := funext h
  rw [e] <;> rfl
section
variable {fb : PySem.W.Frag → Bool} {fn : List DefQ} {ts : List TabQ} {w : World} {K : PySem.W.Frag}
theorem SaysQ.fact (c : SaysQ fb fn ts w K) : fb K = true := (He.ba (show (fb K && fn.all fun d => d.ok K) = true from congrArg (fun z : AlQ => z.1.1) c)).1
theorem SaysQ.def_ (c : SaysQ fb fn ts w K) (i : Nat) {d : DefQ} (h : fn[i]? = some d := by rfl) : ∃ fd, Fun K d.nm d.ql d.st (d.path K) fd := by
  have c2 := (He.ba (show (fb K && fn.all fun d => d.ok K) = true from congrArg (fun z : AlQ => z.1.1) c)).2
  have e : fn.map (fun d => fw K (d.path K)) = fn.map DefQ.val := congrArg (fun z : AlQ => z.1.2) c
  have e2 : (fn.map fun d => fw K (d.path K))[i]? = (fn.map DefQ.val)[i]? := by rw [e]
  rw [List.getElem?_map, List.getElem?_map, h] at e2
  exact DefQ.fun_ (Option.some.inj e2) (List.all_eq_true.mp c2 d (List.mem_of_getElem? h))
theorem SaysQ.tab (c : SaysQ fb fn ts w K) (i : Nat) {t : TabQ} (h : ts[i]? = some t := by rfl) : He.dicW K (t.1 K) = some (He.keysIn w.params t.2) := by
  have e : ts.map (fun t => He.dicW K (t.1 K)) = ts.map fun t => some (He.keysIn w.params t.2) := congrArg (fun z : AlQ => z.2) c
  have e2 : (ts.map fun t => He.dicW K (t.1 K))[i]? = (ts.map fun t => some (He.keysIn w.params t.2))[i]? := by rw [e]
  rw [List.getElem?_map, List.getElem?_map, h] at e2
  exact Option.some.inj e2
end
/-- a static method -/
def pS (C m : Str) : PySem.W.Frag → Addr := fun K => match PySem.W.recIn K (He.ma K (He.ga K C) m) "staticmethod" with
  | some (.ref g :: _) => g
  | _ => 0
/-- paths: a module's name; a class's method; a property's getter -/
def pG (x : Str) : PySem.W.Frag → Addr := fun K => He.ga K x
def pM (C m : Str) : PySem.W.Frag → Addr := fun K => He.ma K (He.ga K C) m
def pP (C m : Str) : PySem.W.Frag → Addr := fun K => match PySem.W.recIn K (He.ma K (He.ga K C) m) "property" with
  | some (.ref g :: _) => g
  | _ => 0
end DH

set_option maxHeartbeats 2000000
/-! DL1: data as trees, cells that change, and how the abstract heap bears them. -/
namespace DL
open PySem PySem.Spec PyProof.Rows L2

/-- data: trees by value; loc n: the n-th cell that may change -/
inductive D where
  | non | bl (b : Bool) | int (i : Int) | str (x : Str)
  | tup (xs : List D) | lst (xs : List D) | fro (xs : List D)
  | dct (ks : List Key) (vs : List D)
  | obj (c : Str) (ns : List Str) (vs : List D)
  | loc (n : Nat)
  | exn (c : Str) (ns : List Str) (vs : List D)
inductive Cell where
  | lst (xs : List D) | dct (ks : List Key) (vs : List D) | ins (c : Str) (ns : List Str) (vs : List D) | dead
abbrev Store := List Cell
/-- the cells' addresses, the cells, the abstract heap -/
structure Wd where
  r : List Addr
  st : Store
  H : Hp
/-- what is written: the part K, where each class of the text stands -/
structure Cn where
  K : PySem.W.Frag
  cl : Str → Addr
  /-- the error that a suite holds: its class, its dict -/
  ex : Addr → Option (Value × Option Addr) := fun _ => none
/-- a cell that may still change stands there -/
def Al (W : Wd) (a : Addr) : Prop := ∃ (n : Nat) (c : Cell), W.r[n]? = some a ∧ W.st[n]? = some c ∧ c ≠ Cell.dead
def Mu (B : Addr → Prop) (W : Wd) (a : Addr) : Prop := B a ∨ Al W a
/-- a list of the written part -/
def Kl (K : PySem.W.Frag) (a : Addr) (xs : List V) : Prop :=
  ∃ (o : Obj) (its : Array Value) (n : Nat), K.lookup a = some o ∧ o.cls = .type "list" ∧ o.dict = none ∧ o.data = .seq its n ∧ its.size ≤ sizeLine ∧ Vals xs its.toList
mutual
inductive Rep (G : Cn) (B : Addr → Prop) (W : Wd) : V → D → Prop
  | non : Rep G B W .non .non
  | bl (b : Bool) : Rep G B W (.bl b) (.bl b)
  | int (i : Int) : Rep G B W (.int i) (.int i)
  | str (x : Str) : Rep G B W (.str x) (.str x)
  | tup {a : Addr} {vs : List V} {ds : List D} (h : SqT G.K W.H a vs) (t : Reps G B W vs ds) : Rep G B W (.ref a) (.tup ds)
  | lst {a : Addr} {vs : List V} {ds : List D} (h : W.H a = some (.lst vs)) (n : ¬ Mu B W a) (t : Reps G B W vs ds) : Rep G B W (.ref a) (.lst ds)
  | fro {a : Addr} {vs : List V} {ds : List D} (h : (∃ o, W.H a = some (.frz o (.lst vs))) ∨ Kl G.K a vs) (t : Reps G B W vs ds) : Rep G B W (.ref a) (.fro ds)
  | dct {a : Addr} {kvs : List (Key × V)} {ks : List Key} {ds : List D} (h : W.H a = some (.dK kvs)) (n : ¬ Mu B W a) (e : kvs.map (·.1) = ks) (t : Reps G B W (kvs.map (·.2)) ds) : Rep G B W (.ref a) (.dct ks ds)
  | obj {a dx : Addr} {c : Str} {fs : List (Str × V)} {ns : List Str} {ds : List D} (h : W.H a = some (.ins (G.cl c) dx fs)) (n : ¬ Mu B W a) (e : fs.map (·.1) = ns) (t : Reps G B W (fs.map (·.2)) ds) : Rep G B W (.ref a) (.obj c ns ds)
  | loc {a : Addr} {n : Nat} (h : W.r[n]? = some a) : Rep G B W (.ref a) (.loc n)
  | exn0 {a : Addr} {c : Str} (h : G.ex a = some (.ref (G.cl c), none)) : Rep G B W (.ref a) (.exn c [] [])
  | exn1 {a d : Addr} {c : Str} {fs : List (Str × V)} {ns : List Str} {ds : List D} (h : G.ex a = some (.ref (G.cl c), some d)) (hx : W.H d = some (.xd fs)) (e : fs.map (·.1) = ns) (t : Reps G B W (fs.map (·.2)) ds) : Rep G B W (.ref a) (.exn c ns ds)
inductive Reps (G : Cn) (B : Addr → Prop) (W : Wd) : List V → List D → Prop
  | nil : Reps G B W [] []
  | cons {v : V} {d : D} {vs : List V} {ds : List D} (h : Rep G B W v d) (t : Reps G B W vs ds) : Reps G B W (v :: vs) (d :: ds)
end
def CellOk (G : Cn) (B : Addr → Prop) (W : Wd) (a : Addr) : Cell → Prop
  | .lst ds => ∃ vs, W.H a = some (.lst vs) ∧ Reps G B W vs ds
  | .dct ks ds => ∃ kvs : List (Key × V), W.H a = some (.dK kvs) ∧ kvs.map (·.1) = ks ∧ Reps G B W (kvs.map (·.2)) ds
  | .ins c ns ds => ∃ (dx : Addr) (fs : List (Str × V)), W.H a = some (.ins (G.cl c) dx fs) ∧ fs.map (·.1) = ns ∧ Reps G B W (fs.map (·.2)) ds
  | .dead => ∃ o, W.H a = some o
/-- the heap bears the cells -/
structure Rel (G : Cn) (B : Addr → Prop) (W : Wd) : Prop where
  len : W.r.length = W.st.length
  nd : W.r.Nodup
  ban : ∀ a, B a → ∃ o, W.H a = some o
  sep : ∀ (n : Nat) (a : Addr) (c : Cell), W.r[n]? = some a → W.st[n]? = some c → c ≠ Cell.dead → ¬ B a
  cell : ∀ (n : Nat) (a : Addr) (c : Cell), W.r[n]? = some a → W.st[n]? = some c → CellOk G B W a c
/-- how a world goes on -/
structure Ext (W W' : Wd) : Prop where
  l0 : W.r.length = W.st.length
  len : W.st.length ≤ W'.st.length
  more : ∃ m, W'.r = W.r ++ m ∧ ∀ a ∈ m, W.H a = none
  dead : ∀ n : Nat, W.st[n]? = some Cell.dead → W'.st[n]? = some Cell.dead
  keep : ∀ a o, W.H a = some o → ¬ Al W a → W'.H a = some o
  dom : ∀ a o, W.H a = some o → ∃ o', W'.H a = some o'
theorem Ext.refl {W : Wd} (h : W.r.length = W.st.length) : Ext W W := ⟨h, Nat.le_refl _, ⟨[], by simp, by simp⟩, fun _ h => h, fun _ _ h _ => h, fun _ o h => ⟨o, h⟩⟩
theorem Ext.al {W W' : Wd} (x : Ext W W') {a : Addr} {o : HO} (h : W.H a = some o) (q : Al W' a) : Al W a := by
  obtain ⟨n, c, h1, h2, h3⟩ := q
  obtain ⟨m, e, hm⟩ := x.more
  rw [e] at h1
  by_cases hn : n < W.r.length
  · rw [List.getElem?_append_left hn] at h1
    have hn2 : n < W.st.length := by rw [← x.l0]; exact hn
    obtain ⟨c0, hc0⟩ : ∃ c0, W.st[n]? = some c0 := ⟨W.st[n], List.getElem?_eq_getElem hn2⟩
    refine ⟨n, c0, h1, hc0, fun z => ?_⟩
    subst z
    rw [x.dead n hc0] at h2
    exact h3 (Option.some.inj h2).symm
  · rw [List.getElem?_append_right (by omega)] at h1
    have := hm a (List.mem_of_getElem? h1)
    rw [h] at this
    cases this
theorem Ext.mu {W W' : Wd} (x : Ext W W') {B : Addr → Prop} {a : Addr} {o : HO} (h : W.H a = some o) (q : Mu B W' a) : Mu B W a := by
  rcases q with q | q
  · exact .inl q
  · exact .inr (x.al h q)
theorem Ext.trans {W W1 W2 : Wd} (x : Ext W W1) (y : Ext W1 W2) : Ext W W2 := by
  refine ⟨x.l0, Nat.le_trans x.len y.len, ?_, fun n h => y.dead n (x.dead n h), fun a o h n => y.keep a o (x.keep a o h n) fun z => n (x.al h z), fun a o h => ?_⟩
  · obtain ⟨m, e, hm⟩ := x.more
    obtain ⟨m', e', hm'⟩ := y.more
    refine ⟨m ++ m', by rw [e', e, List.append_assoc], fun a ha => ?_⟩
    rcases List.mem_append.mp ha with ha | ha
    · exact hm a ha
    · cases q : W.H a with
      | none => rfl
      | some o =>
        obtain ⟨o', e2⟩ := x.dom a o q
        rw [hm' a ha] at e2
        cases e2
  · obtain ⟨o', h'⟩ := x.dom a o h
    exact y.dom a o' h'
/-- what stands at an alive cell -/
def isCell : HO → Bool
  | .lst _ => true
  | .dK _ => true
  | .ins _ _ _ => true
  | _ => false
theorem Rel.al {G : Cn} {B : Addr → Prop} {W : Wd} (R : Rel G B W) {a : Addr} (h : Al W a) : ∃ o, W.H a = some o ∧ isCell o = true := by
  obtain ⟨n, c, h1, h2, h3⟩ := h
  have q := R.cell n a c h1 h2
  cases c with
  | lst ds => obtain ⟨vs, e, _⟩ := q; exact ⟨_, e, rfl⟩
  | dct ks ds => obtain ⟨vs, e, _⟩ := q; exact ⟨_, e, rfl⟩
  | ins c ns ds => obtain ⟨dx, fs, e, _⟩ := q; exact ⟨_, e, rfl⟩
  | dead => exact (h3 rfl).elim
theorem Rel.there {G : Cn} {B : Addr → Prop} {W : Wd} (R : Rel G B W) {n : Nat} {a : Addr} (h : W.r[n]? = some a) : ∃ o, W.H a = some o := by
  have hn : n < W.st.length := by rw [← R.len]; exact (List.getElem?_eq_some_iff.mp h).1
  have q := R.cell n a W.st[n] h (List.getElem?_eq_getElem hn)
  cases e : W.st[n] with
  | lst ds => rw [e] at q; obtain ⟨vs, e, _⟩ := q; exact ⟨_, e⟩
  | dct ks ds => rw [e] at q; obtain ⟨vs, e, _⟩ := q; exact ⟨_, e⟩
  | ins c ns ds => rw [e] at q; obtain ⟨dx, fs, e, _⟩ := q; exact ⟨_, e⟩
  | dead => rw [e] at q; exact q
theorem Rel.notAl {G : Cn} {B : Addr → Prop} {W : Wd} (R : Rel G B W) {a : Addr} {o : HO} (h : W.H a = some o) (n : isCell o = false) : ¬ Al W a := fun z => by
  obtain ⟨o', e, t⟩ := R.al z
  rw [h] at e
  cases e
  rw [n] at t
  cases t
theorem Rel.free {G : Cn} {B : Addr → Prop} {W : Wd} (R : Rel G B W) {a : Addr} (h : W.H a = none) : ¬ Mu B W a := fun z => by
  rcases z with z | z
  · obtain ⟨o, e⟩ := R.ban a z
    rw [h] at e; cases e
  · obtain ⟨o, e, _⟩ := R.al z
    rw [h] at e; cases e
theorem SqT.ext {G : Cn} {B : Addr → Prop} {W W' : Wd} (R : Rel G B W) (x : Ext W W') {a : Addr} {vs : List V} (h : SqT G.K W.H a vs) : SqT G.K W'.H a vs := by
  rcases h with (h | ⟨o, h⟩) | h
  · exact .inl (.inl (x.keep a _ h (R.notAl h rfl)))
  · exact .inl (.inr ⟨o, x.keep a _ h (R.notAl h rfl)⟩)
  · exact .inr h
section
variable {G : Cn} {B : Addr → Prop} {W W' : Wd}
mutual
theorem Rep.ext (R : Rel G B W) (x : Ext W W') : ∀ (d : D) (v : V), Rep G B W v d → Rep G B W' v d
  | .non, _, h => by cases h; exact .non
  | .bl b, _, h => by cases h; exact .bl b
  | .int i, _, h => by cases h; exact .int i
  | .str i, _, h => by cases h; exact .str i
  | .tup ds, _, h => by
    cases h with
    | tup h t => exact .tup (SqT.ext R x h) (Reps.ext R x ds _ t)
  | .lst ds, _, h => by
    cases h with
    | lst h n t => exact .lst (x.keep _ _ h fun z => n (.inr z)) (fun z => n (x.mu h z)) (Reps.ext R x ds _ t)
  | .fro ds, _, h => by
    cases h with
    | fro h t =>
      refine .fro ?_ (Reps.ext R x ds _ t)
      rcases h with ⟨o, h⟩ | h
      · exact .inl ⟨o, x.keep _ _ h (R.notAl h rfl)⟩
      · exact .inr h
  | .dct ks ds, _, h => by
    cases h with
    | dct h n e t => exact .dct (x.keep _ _ h fun z => n (.inr z)) (fun z => n (x.mu h z)) e (Reps.ext R x ds _ t)
  | .obj c ns ds, _, h => by
    cases h with
    | obj h n e t => exact .obj (x.keep _ _ h fun z => n (.inr z)) (fun z => n (x.mu h z)) e (Reps.ext R x ds _ t)
  | .loc n, _, h => by
    cases h with
    | loc h =>
      obtain ⟨m, e, _⟩ := x.more
      exact .loc (by rw [e]; exact List.getElem?_append_left (List.getElem?_eq_some_iff.mp h).1 ▸ h)
  | .exn c ns ds, _, h => by
    cases h with
    | exn0 h => exact .exn0 h
    | exn1 h hx e t => exact .exn1 h (x.keep _ _ hx (R.notAl hx rfl)) e (Reps.ext R x ds _ t)
theorem Reps.ext (R : Rel G B W) (x : Ext W W') : ∀ (ds : List D) (vs : List V), Reps G B W vs ds → Reps G B W' vs ds
  | [], _, h => by cases h; exact .nil
  | d :: ds, _, h => by
    cases h with
    | cons h t => exact .cons (Rep.ext R x d _ h) (Reps.ext R x ds _ t)
end
theorem Reps.length : ∀ {vs : List V} {ds : List D}, Reps G B W vs ds → vs.length = ds.length
  | _, _, .nil => rfl
  | _, _, .cons _ t => congrArg (· + 1) (Reps.length t)
theorem Reps.get : ∀ {vs : List V} {ds : List D} {i : Nat} {d : D}, Reps G B W vs ds → ds[i]? = some d → ∃ v, vs[i]? = some v ∧ Rep G B W v d
  | _, _, _, _, .nil, e => by simp at e
  | _, _, 0, _, .cons h t, e => by simp at e; subst e; exact ⟨_, rfl, h⟩
  | _, _, i + 1, _, .cons h t, e => by
    obtain ⟨v, h1, h2⟩ := Reps.get (i := i) t (by simpa using e)
    exact ⟨v, by simpa using h1, h2⟩
theorem Reps.getV : ∀ {vs : List V} {ds : List D} {i : Nat} {v : V}, Reps G B W vs ds → vs[i]? = some v → ∃ d, ds[i]? = some d ∧ Rep G B W v d
  | _, _, _, _, .nil, e => by simp at e
  | _, _, 0, _, .cons h t, e => by simp at e; subst e; exact ⟨_, rfl, h⟩
  | _, _, i + 1, _, .cons h t, e => by
    obtain ⟨v, h1, h2⟩ := Reps.getV (i := i) t (by simpa using e)
    exact ⟨v, by simpa using h1, h2⟩
theorem Reps.append : ∀ {vs us : List V} {ds es : List D}, Reps G B W vs ds → Reps G B W us es → Reps G B W (vs ++ us) (ds ++ es)
  | _, _, _, _, .nil, s => s
  | _, _, _, _, .cons h t, s => .cons h (Reps.append t s)
theorem Reps.take : ∀ {vs : List V} {ds : List D} (n : Nat), Reps G B W vs ds → Reps G B W (vs.take n) (ds.take n)
  | _, _, 0, _ => .nil
  | _, _, _ + 1, .nil => .nil
  | _, _, n + 1, .cons h t => .cons h (Reps.take n t)
theorem Reps.drop : ∀ {vs : List V} {ds : List D} (n : Nat), Reps G B W vs ds → Reps G B W (vs.drop n) (ds.drop n)
  | _, _, 0, h => h
  | _, _, _ + 1, .nil => .nil
  | _, _, n + 1, .cons _ t => Reps.drop n t
theorem Reps.set {v : V} {d : D} (r : Rep G B W v d) : ∀ {vs : List V} {ds : List D} (i : Nat), Reps G B W vs ds → Reps G B W (vs.set i v) (ds.set i d)
  | _, _, _, .nil => .nil
  | _, _, 0, .cons _ t => .cons r t
  | _, _, i + 1, .cons h t => .cons h (Reps.set r i t)
theorem Reps.erase : ∀ {vs : List V} {ds : List D} (i : Nat), Reps G B W vs ds → Reps G B W (vs.eraseIdx i) (ds.eraseIdx i)
  | _, _, _, .nil => .nil
  | _, _, 0, .cons _ t => t
  | _, _, i + 1, .cons h t => .cons h (Reps.erase i t)
theorem Reps.lookup : ∀ {fs : List (Str × V)} {ds : List D} {f : Str} {d : D}, Reps G B W (fs.map (·.2)) ds → ((fs.map (·.1)).zip ds).lookup f = some d → ∃ v, fs.lookup f = some v ∧ Rep G B W v d
  | [], _, _, _, h, e => by cases h; simp at e
  | (g, x) :: fs, _, f, d, h, e => by
    cases h with
    | cons h t =>
      simp only [List.map_cons, List.zip_cons_cons, List.lookup_cons] at e ⊢
      cases q : f == g with
      | true => rw [q] at e; cases e; exact ⟨_, rfl, h⟩
      | false => rw [q] at e; exact Reps.lookup t e
theorem lookup_none : ∀ {fs : List (Str × V)} {f : Str}, f ∉ fs.map (·.1) → fs.lookup f = none
  | [], _, _ => rfl
  | (g, x) :: fs, f, h => by
    simp only [List.map_cons, List.mem_cons, not_or] at h
    rw [List.lookup_cons]
    cases q : f == g with
    | true => exact (h.1 (eq_of_beq q)).elim
    | false => exact lookup_none h.2
end
end DL

set_option maxHeartbeats 2000000
/-! DL2: what an expression gives, over trees; one rule a construct. -/
namespace DL
open PySem PySem.Spec PyProof.Rows L2

structure Ex where
  c : Str
  ns : List Str
  vs : List D
inductive R (α : Type) where
  | ok (a : α) (s : Store) | exc (e : Ex) (s : Store) | bad
def R.bind {α β : Type} : R α → (α → Store → R β) → R β
  | .ok a s, f => f a s
  | .exc e s, _ => .exc e s
  | .bad, _ => .bad
@[simp] theorem R.bind_ok {α β : Type} (a : α) (s : Store) (f : α → Store → R β) : (R.ok a s).bind f = f a s := rfl
@[simp] theorem R.bind_exc {α β : Type} (e : Ex) (s : Store) (f : α → Store → R β) : (R.exc e s : R α).bind f = .exc e s := rfl
@[simp] theorem R.bind_bad {α β : Type} (f : α → Store → R β) : (R.bad : R α).bind f = .bad := rfl
theorem R.bind_assoc {α β γ : Type} (r : R α) (f : α → Store → R β) (g : β → Store → R γ) : (r.bind f).bind g = r.bind fun a s => (f a s).bind g := by cases r <;> rfl
/-- slots; what an expression means -/
abbrev Sl := List (Option D)
abbrev M (α : Type) := Sl → Store → R α
def RepX (G : Cn) (B : Addr → Prop) (W : Wd) (cls : Value) (dd : Option Addr) (e : Ex) : Prop :=
  cls = .ref (G.cl e.c) ∧ ((e.ns = [] ∧ e.vs = [] ∧ dd = none) ∨ ∃ (a : Addr) (fs : List (Str × V)), dd = some a ∧ W.H a = some (.xd fs) ∧ fs.map (·.1) = e.ns ∧ Reps G B W (fs.map (·.2)) e.vs)
def Out {α : Type} (G : Cn) (B : Addr → Prop) (W : Wd) (E : XK) (r : R α) (Q : α → Wd → Prop) : Prop := match r with
  | .ok a s => ∀ W', Ext W W' → Rel G B W' → W'.st = s → Q a W'
  | .exc e s => ∀ cls dd W', Ext W W' → Rel G B W' → W'.st = s → RepX G B W' cls dd e → E cls dd W'.H
  | .bad => False
section
variable {G : Cn} {B : Addr → Prop} {W W' : Wd} {E : XK} {α β : Type} {r : R α} {Q Q' : α → Wd → Prop}
theorem Rel.refl (R : Rel G B W) : Ext W W := Ext.refl R.len
theorem Out.imp (h : Out G B W E r Q) (i : ∀ a W', Ext W W' → Rel G B W' → Q a W' → Q' a W') : Out G B W E r Q' := by
  cases r with
  | ok a s => exact fun W' x R e => i a W' x R (h W' x R e)
  | exc e s => exact h
  | bad => exact h
theorem Out.bind {k : α → Store → R β} {Qf : β → Wd → Prop} (h : Out G B W E (r.bind k) Qf) : Out G B W E r fun a W1 => Out G B W1 E (k a W1.st) Qf := by
  cases r with
  | ok a s =>
    intro W1 x R e
    subst e
    have h' : Out G B W E (k a W1.st) Qf := h
    cases q : k a W1.st with
    | ok b s2 => rw [q] at h'; exact fun W2 x2 R2 e2 => h' W2 (x.trans x2) R2 e2
    | exc e s2 => rw [q] at h'; exact fun cls dd W2 x2 R2 e2 => h' cls dd W2 (x.trans x2) R2 e2
    | bad => rw [q] at h'; exact h'
  | exc e s => exact h
  | bad => exact h
theorem Out.ret {a : α} (h : Out G B W E (.ok a W.st) Q) (R : Rel G B W) : Q a W := h W R.refl R rfl
theorem Out.retB {a : α} {k : α → Store → DL.R β} {Qf : β → Wd → Prop} (h : Out G B W E ((R.ok a W.st).bind k) Qf) : Out G B W E (k a W.st) Qf := h
theorem Out.at_ {a : α} {s : Store} (h : Out G B W E (.ok a s) Q) (x : Ext W W') (R : Rel G B W') (e : W'.st = s) : Q a W' := h W' x R e
/-- later -/
theorem Out.ext (h : Out G B W E r Q) (x : Ext W W') : Out G B W' E r Q := by
  cases r with
  | ok a s => exact fun W2 x2 R e => h W2 (x.trans x2) R e
  | exc e s => exact fun cls dd W2 x2 R e => h cls dd W2 (x.trans x2) R e
  | bad => exact h
end
def Slots (G : Cn) (B : Addr → Prop) (W : Wd) (σ : L2.St) (env : Sl) : Prop := σ.length = env.length ∧ ∀ (i : Nat) (d : D), env[i]? = some (some d) → ∃ v, σ[i]? = some (some v) ∧ Rep G B W v d
section
variable {G : Cn} {B : Addr → Prop} {W W' : Wd} {σ : L2.St} {env : Sl} {E : XK}
theorem Slots.ext (S : Slots G B W σ env) (R : Rel G B W) (x : Ext W W') : Slots G B W' σ env := ⟨S.1, fun i d e => by
  obtain ⟨v, h1, h2⟩ := S.2 i d e
  exact ⟨v, h1, Rep.ext R x _ _ h2⟩⟩
theorem Slots.set (S : Slots G B W σ env) {v : V} {d : D} (i : Nat) (r : Rep G B W v d) : Slots G B W (σ.set i (some v)) (env.set i (some d)) := ⟨by simp [S.1], fun j d' e => by
  by_cases h : i = j
  · subst h
    by_cases hi : i < env.length
    · rw [List.getElem?_set_self hi] at e
      cases e
      exact ⟨v, List.getElem?_set_self (by rw [S.1]; exact hi), r⟩
    · rw [List.getElem?_eq_none (by simpa using hi)] at e
      cases e
  · rw [List.getElem?_set_ne h] at e
    rw [List.getElem?_set_ne h]
    exact S.2 j d' e⟩
theorem Slots.clear (S : Slots G B W σ env) (i : Nat) (o : Option V) : Slots G B W (σ.set i o) (env.set i none) := ⟨by simp [S.1], fun j d' e => by
  by_cases h : i = j
  · subst h
    by_cases hi : i < env.length
    · rw [List.getElem?_set_self hi] at e
      cases e
    · rw [List.getElem?_eq_none (by simpa using hi)] at e
      cases e
  · rw [List.getElem?_set_ne h] at e
    rw [List.getElem?_set_ne h]
    exact S.2 j d' e⟩
end
/-- the readings; E: what is wished of an exception, by the slots -/
abbrev ES := L2.St → XK
def tE (G : Cn) (E : ES) (m : M D) : TE := fun σ H Q => ∃ B W env, W.H = H ∧ Rel G B W ∧ Slots G B W σ env ∧ Out G B W (E σ) (m env W.st) fun d W' => ∀ v, Rep G B W' v d → Q v W'.H
def tT (G : Cn) (E : ES) (m : M Bool) : TT := fun σ H Q => ∃ B W env, W.H = H ∧ Rel G B W ∧ Slots G B W σ env ∧ Out G B W (E σ) (m env W.st) fun b W' => Q b W'.H
def tA (G : Cn) (E : ES) (m : M (List D)) : TA := fun σ H Q => ∃ B W env, W.H = H ∧ Rel G B W ∧ Slots G B W σ env ∧ Out G B W (E σ) (m env W.st) fun ds W' => ∀ vs, Reps G B W' vs ds → Q vs W'.H
section
variable {G : Cn} {B : Addr → Prop} {W W' : Wd} {σ : L2.St} {env : Sl} {E : ES} {β : Type}
theorem tE_of {m : M D} {Q : VK} {k : D → Store → R β} {Qf : β → Wd → Prop} (R : Rel G B W) (S : Slots G B W σ env) (h : Out G B W (E σ) ((m env W.st).bind k) Qf)
    (q : ∀ d W' v, Ext W W' → Rel G B W' → Slots G B W' σ env → Rep G B W' v d → Out G B W' (E σ) (k d W'.st) Qf → Q v W'.H) : tE G E m σ W.H Q :=
  ⟨B, W, env, rfl, R, S, h.bind.imp fun d W' x R' o v rv => q d W' v x R' (S.ext R x) rv o⟩
theorem tT_of {m : M Bool} {Q : Bool → Hp → Prop} {k : Bool → Store → R β} {Qf : β → Wd → Prop} (R : Rel G B W) (S : Slots G B W σ env) (h : Out G B W (E σ) ((m env W.st).bind k) Qf)
    (q : ∀ b W', Ext W W' → Rel G B W' → Slots G B W' σ env → Out G B W' (E σ) (k b W'.st) Qf → Q b W'.H) : tT G E m σ W.H Q :=
  ⟨B, W, env, rfl, R, S, h.bind.imp fun b W' x R' o => q b W' x R' (S.ext R x) o⟩
theorem tA_of {m : M (List D)} {Q : List V → Hp → Prop} {k : List D → Store → R β} {Qf : β → Wd → Prop} (R : Rel G B W) (S : Slots G B W σ env) (h : Out G B W (E σ) ((m env W.st).bind k) Qf)
    (q : ∀ ds W' vs, Ext W W' → Rel G B W' → Slots G B W' σ env → Reps G B W' vs ds → Out G B W' (E σ) (k ds W'.st) Qf → Q vs W'.H) : tA G E m σ W.H Q :=
  ⟨B, W, env, rfl, R, S, h.bind.imp fun d W' x R' o v rv => q d W' v x R' (S.ext R x) rv o⟩
end
/-! ### weaker readings -/
section
variable {X : Cx}
theorem PE.weak {e : Expr} {t t' : TE} (h : PE X e t) (i : ∀ σ H Q, t' σ H Q → t σ H Q) : PE X e t' := ⟨fun pins s σ H Q I q => h.run pins s σ H Q I (i σ H Q q)⟩
theorem PT.weak {e : Expr} {t t' : TT} (h : PT X e t) (i : ∀ σ H Q, t' σ H Q → t σ H Q) : PT X e t' := ⟨fun pins s σ H Q I q => h.run pins s σ H Q I (i σ H Q q)⟩
theorem PA.weak {e : List Expr} {t t' : TA} (h : PA X e t) (i : ∀ σ H Q, t' σ H Q → t σ H Q) : PA X e t' := ⟨fun pos pins s σ H Q I q => h.run pos pins s σ H Q I (i σ H Q q)⟩
theorem PS.weak {e : Stmt} {t t' : TS} (h : PS X e t) (i : ∀ D σ H, t' D σ H → t D σ H) : PS X e t' := ⟨fun pins s σ H D I q => h.run pins s σ H D I (i D σ H q)⟩
theorem PSs.weak {e : List Stmt} {t t' : TS} (h : PSs X e t) (i : ∀ D σ H, t' D σ H → t D σ H) : PSs X e t' := ⟨fun pins s σ H D I q => h.run pins s σ H D I (i D σ H q)⟩
theorem PI.weak {tg e : Expr} {t t' : TI} (h : PI X tg e t) (i : ∀ σ H Q, t' σ H Q → t σ H Q) : PI X tg e t' := ⟨fun pins s σ H Q I q => h.run pins s σ H Q I (i σ H Q q)⟩
end
/-! ### new objects -/
section
variable {G : Cn} {B : Addr → Prop} {W : Wd}
def Wd.new (W : Wd) (p : Addr) (o : HO) : Wd := ⟨W.r, W.st, upd W.H p o⟩
theorem Ext.new {p : Addr} {o : HO} (l : W.r.length = W.st.length) (h : W.H p = none) : Ext W (W.new p o) := by
  have k : ∀ a u, W.H a = some u → (W.new p o).H a = some u := fun a u e => (upd_ne (ne_of_none e h)).trans e
  exact ⟨l, Nat.le_refl _, ⟨[], by simp [Wd.new], by simp⟩, fun _ q => q, fun a u e _ => k a u e, fun a u e => ⟨u, k a u e⟩⟩
theorem CellOk.ext {W' : Wd} (R : Rel G B W) (x : Ext W W') {a : Addr} {c : Cell} (h : CellOk G B W a c) (e : W'.H a = W.H a) : CellOk G B W' a c := by
  cases c with
  | lst ds =>
    obtain ⟨vs, h1, h2⟩ := h
    exact ⟨vs, e.trans h1, Reps.ext R x _ _ h2⟩
  | dct ks ds =>
    obtain ⟨vs, h1, h2, h3⟩ := h
    exact ⟨vs, e.trans h1, h2, Reps.ext R x _ _ h3⟩
  | ins c ns ds =>
    obtain ⟨dx, vs, h1, h2, h3⟩ := h
    exact ⟨dx, vs, e.trans h1, h2, Reps.ext R x _ _ h3⟩
  | dead =>
    obtain ⟨o, h1⟩ := h
    exact ⟨o, e.trans h1⟩
theorem Rel.new {p : Addr} {o : HO} (R : Rel G B W) (h : W.H p = none) : Rel G B (W.new p o) := by
  refine ⟨R.len, R.nd, fun a ha => ?_, R.sep, fun n a c h1 h2 => ?_⟩
  · obtain ⟨u, e⟩ := R.ban a ha
    exact ⟨u, (upd_ne (ne_of_none e h)).trans e⟩
  · have q := R.cell n a c h1 h2
    obtain ⟨u, e⟩ := R.there h1
    exact q.ext R (Ext.new R.len h) (upd_ne (ne_of_none e h))
theorem Rel.notMu {p : Addr} {o : HO} (R : Rel G B W) (h : W.H p = none) : ¬ Mu B (W.new p o) p := fun z => R.free h z
theorem Reps.new {p : Addr} {o : HO} (R : Rel G B W) (h : W.H p = none) {vs : List V} {ds : List D} (r : Reps G B W vs ds) : Reps G B (W.new p o) vs ds := Reps.ext R (Ext.new R.len h) _ _ r
theorem Rep.newT {p : Addr} (R : Rel G B W) (h : W.H p = none) {vs : List V} {ds : List D} (r : Reps G B W vs ds) : Rep G B (W.new p (.tup vs)) (.ref p) (.tup ds) := .tup (SqT.of upd_same) (r.new R h)
theorem Rep.newL {p : Addr} (R : Rel G B W) (h : W.H p = none) {vs : List V} {ds : List D} (r : Reps G B W vs ds) : Rep G B (W.new p (.lst vs)) (.ref p) (.lst ds) := .lst upd_same (R.notMu h) (r.new R h)
/-- an end that is a new tuple, a new list -/
theorem Out.tupN {E : XK} {Q : D → Wd → Prop} {ds : List D} (o : Out G B W E (.ok (.tup ds) W.st) Q) (R : Rel G B W) {p : Addr} (h : W.H p = none) (vs : List V) : Q (.tup ds) (W.new p (.tup vs)) := o _ (Ext.new R.len h) (R.new h) rfl
theorem Out.lstN {E : XK} {Q : D → Wd → Prop} {ds : List D} (o : Out G B W E (.ok (.lst ds) W.st) Q) (R : Rel G B W) {p : Addr} (h : W.H p = none) (vs : List V) : Q (.lst ds) (W.new p (.lst vs)) := o _ (Ext.new R.len h) (R.new h) rfl
end
/-! ### lists and tuples that are read -/
def asL (st : Store) : D → Option (List D)
  | .lst xs => some xs
  | .fro xs => some xs
  | .loc n => match st[n]? with
    | some (.lst xs) => some xs
    | _ => none
  | _ => none
def asT : D → Option (List D)
  | .tup xs => some xs
  | _ => none
def asS (st : Store) : D → Option (List D)
  | .tup xs => some xs
  | d => asL st d
section
variable {G : Cn} {B : Addr → Prop} {W : Wd}
theorem Rep.asL (R : Rel G B W) {v : V} {d : D} {xs : List D} (h : Rep G B W v d) (e : asL W.st d = some xs) : ∃ a vs, v = .ref a ∧ SqL G.K W.H a vs ∧ Reps G B W vs xs := by
  cases h with
  | lst h n t => cases e; exact ⟨_, _, rfl, SqL.of h, t⟩
  | fro h t =>
    cases e
    rcases h with ⟨o, h⟩ | ⟨o, its, n, k⟩
    · exact ⟨_, _, rfl, .inl (.inr ⟨o, h⟩), t⟩
    · exact ⟨_, _, rfl, .inr ⟨o, its, n, k⟩, t⟩
  | @loc a n h =>
    cases q : W.st[n]? with
    | none => simp only [DL.asL, q] at e; cases e
    | some c =>
      cases c with
      | lst ds =>
        simp only [DL.asL, q] at e
        cases e
        obtain ⟨vs, h1, h2⟩ := R.cell n a _ h q
        exact ⟨_, vs, rfl, SqL.of h1, h2⟩
      | _ => simp only [DL.asL, q] at e; cases e
  | _ => cases e
/-- .. of the call's own: not a locked one, not the text's -/
def asO (st : Store) : D → Option (List D)
  | .fro _ => none
  | d => DL.asL st d
theorem Rep.asO (R : Rel G B W) {v : V} {d : D} {xs : List D} (h : Rep G B W v d) (e : DL.asO W.st d = some xs) : ∃ a vs, v = .ref a ∧ W.H a = some (.lst vs) ∧ Reps G B W vs xs := by
  cases h with
  | lst h n t => cases e; exact ⟨_, _, rfl, h, t⟩
  | @loc a n h =>
    cases q : W.st[n]? with
    | none => simp only [DL.asO, DL.asL, q] at e; cases e
    | some c =>
      cases c with
      | lst ds =>
        simp only [DL.asO, DL.asL, q] at e
        cases e
        obtain ⟨vs, h1, h2⟩ := R.cell n a _ h q
        exact ⟨_, vs, rfl, h1, h2⟩
      | _ => simp only [DL.asO, DL.asL, q] at e; cases e
  | _ => cases e
theorem Rep.asT {v : V} {d : D} {xs : List D} (h : Rep G B W v d) (e : asT d = some xs) : ∃ a vs, v = .ref a ∧ SqT G.K W.H a vs ∧ Reps G B W vs xs := by
  cases h with
  | tup h t => cases e; exact ⟨_, _, rfl, h, t⟩
  | _ => cases e
theorem Rep.asS (R : Rel G B W) {v : V} {d : D} {xs : List D} (h : Rep G B W v d) (e : asS W.st d = some xs) : ∃ a vs, v = .ref a ∧ (SqL G.K W.H a vs ∨ SqT G.K W.H a vs) ∧ Reps G B W vs xs := by
  cases h with
  | tup h t => cases e; exact ⟨_, _, rfl, .inr h, t⟩
  | lst h n t =>
    obtain ⟨a, vs, e1, h1, h2⟩ := Rep.asL R (.lst h n t) (show DL.asL W.st _ = some xs from e)
    exact ⟨a, vs, e1, .inl h1, h2⟩
  | fro h t =>
    obtain ⟨a, vs, e1, h1, h2⟩ := Rep.asL R (.fro h t) (show DL.asL W.st _ = some xs from e)
    exact ⟨a, vs, e1, .inl h1, h2⟩
  | loc h =>
    obtain ⟨a, vs, e1, h1, h2⟩ := Rep.asL R (.loc h) (show DL.asL W.st _ = some xs from e)
    exact ⟨a, vs, e1, .inl h1, h2⟩
  | _ => cases e
end
/-! ### names, constants -/
def mVar (i : Nat) : M D := fun env st => match env[i]? with
  | some (some d) => .ok d st
  | _ => .bad
def mC (d : D) : M D := fun _ st => .ok d st
section
variable {X : Cx} {G : Cn} {E : ES}
theorem je_var (i : Nat) {x : Str} {pos : Pos} (h : PE X (.Name x pos) (tVar i)) : PE X (.Name x pos) (tE G E (mVar i)) := by
  refine PE.weak h fun σ H Q q => ?_
  obtain ⟨B, W, env, rfl, R, S, o⟩ := q
  unfold mVar at o
  cases e : env[i]? with
  | none => rw [e] at o; exact o.elim
  | some od =>
    cases od with
    | none => rw [e] at o; exact o.elim
    | some d =>
      rw [e] at o
      obtain ⟨v, h1, h2⟩ := S.2 i d e
      exact ⟨v, h1, o.ret R v h2⟩
/-- a constant -/
theorem je_c {e : Expr} {v : V} {d : D} (h : PE X e (tC v)) (r : ∀ B W, Rel G B W → Rep G B W v d) : PE X e (tE G E (mC d)) := by
  refine PE.weak h fun σ H Q q => ?_
  obtain ⟨B, W, env, rfl, R, S, o⟩ := q
  exact o.ret R v (r B W R)
theorem je_int {i : Int} {j pos} : PE X (.Constant (.int i) j pos) (tE G E (mC (.int i))) := je_c pe_int fun _ _ _ => .int i
theorem je_bl {i : Bool} {j pos} : PE X (.Constant (.bool i) j pos) (tE G E (mC (.bl i))) := je_c pe_bl fun _ _ _ => .bl i
theorem je_non {j pos} : PE X (.Constant .none j pos) (tE G E (mC .non)) := je_c pe_non fun _ _ _ => .non
theorem je_str {i : Str} {j pos} : PE X (.Constant (.str i) j pos) (tE G E (mC (.str i))) := je_c pe_str fun _ _ _ => .str i
/-- a module's number or text; a module's tuple -/
theorem je_gint {x : Str} {i : Int} {u : Value} {pos : Pos} (hg : Gl X x) (hm : X.mg x = some u) (r : RelV (.int i) u) (hd : (x == ("__debug__" : Str)) = false := by decide) : PE X (.Name x pos) (tE G E (mC (.int i))) := je_c (pe_glob hg hm r hd) fun _ _ _ => .int i
theorem je_gtup {x : Str} {a : Addr} {vs : List V} {ds : List D} {pos : Pos} (hg : Gl X x) (hm : X.mg x = some (.ref a)) (h : ∀ H, SqT G.K H a vs) (r : ∀ B W, Reps G B W vs ds) (hd : (x == ("__debug__" : Str)) = false := by decide) : PE X (.Name x pos) (tE G E (mC (.tup ds))) :=
  je_c (v := .ref a) (pe_glob hg hm rfl hd) fun _ _ _ => .tup (h _) (r _ _)
/-- never come to -/
def mBad {α : Type} : M α := fun _ _ => .bad
theorem je_bad {e : Expr} : PE X e (tE G E mBad) := ⟨fun _ _ _ _ _ _ ⟨_, _, _, _, _, _, o⟩ => o.elim⟩
theorem jt_bad {e : Expr} : PT X e (tT G E mBad) := ⟨fun _ _ _ _ _ _ ⟨_, _, _, _, _, _, o⟩ => o.elim⟩
/-! ### two operands -/
def mOp (f : D → D → Store → R D) (ma mb : M D) : M D := fun env st => (ma env st).bind fun x s1 => (mb env s1).bind fun y s2 => f x y s2
def OpS (G : Cn) (r : R2) (f : D → D → Store → R D) : Prop := ∀ ⦃B : Addr → Prop⦄ ⦃W : Wd⦄ ⦃E : XK⦄ ⦃x y : D⦄ ⦃v u : V⦄ ⦃Q : VK⦄, Rel G B W → Rep G B W v x → Rep G B W u y →
  Out G B W E (f x y W.st) (fun d W' => ∀ z, Rep G B W' z d → Q z W'.H) → r v u W.H Q
theorem op2 {r : R2} {f : D → D → Store → R D} {ma mb : M D} (hs : OpS G r f) {σ : L2.St} {H : Hp} {Q : VK} (h : tE G E (mOp f ma mb) σ H Q) : tOp r (tE G E ma) (tE G E mb) σ H Q := by
  obtain ⟨B, W, env, rfl, R, S, o⟩ := h
  exact tE_of R S o fun x W1 v x1 R1 S1 r1 o1 => tE_of R1 S1 o1 fun y W2 u x2 R2 S2 r2 o2 => hs R2 (Rep.ext R1 x2 _ _ r1) r2 o2
theorem je_op {op : Operator} {a b : Expr} {pos : Pos} {r : R2} {f : D → D → Store → R D} {ma mb : M D} (ho : OpR X (binaryOp op) r) (hs : OpS G r f) (ha : PE X a (tE G E ma)) (hb : PE X b (tE G E mb)) : PE X (.BinOp a op b pos) (tE G E (mOp f ma mb)) :=
  PE.weak (pe_op ho ha hb) fun _ _ _ h => op2 hs h
theorem je_cmp {op : CmpOp} {a b : Expr} {pos : Pos} {r : R2} {f : D → D → Store → R D} {ma mb : M D} (ho : OpR X (compareOp op) r) (hs : OpS G r f) (ha : PE X a (tE G E ma)) (hb : PE X b (tE G E mb)) (hm : behindInMarks op b = false) : PE X (.Compare a [op] [b] pos) (tE G E (mOp f ma mb)) :=
  PE.weak (pe_cmpR ho ha hb hm) fun _ _ _ h => op2 hs h
theorem je_ix {a b : Expr} {pos : Pos} {r : R2} {f : D → D → Store → R D} {ma mb : M D} (ho : IxR X r) (hs : OpS G r f) (ha : PE X a (tE G E ma)) (hb : PE X b (tE G E mb)) (hp : PlainIx b) : PE X (.Subscript a b pos) (tE G E (mOp f ma mb)) :=
  PE.weak (pe_ix ho ha hb hp) fun _ _ _ h => op2 hs h
/-- a value as a test: it is a bool -/
def mTest (m : M D) : M Bool := fun env st => (m env st).bind fun d s => match d with
  | .bl b => .ok b s
  | _ => .bad
theorem jt_cmp {op : CmpOp} {a b : Expr} {pos : Pos} {r : R2} {f : D → D → Store → R D} {ma mb : M D} (ho : OpR X (compareOp op) r) (hs : OpS G r f) (ha : PE X a (tE G E ma)) (hb : PE X b (tE G E mb)) (hm : behindInMarks op b = false) : PT X (.Compare a [op] [b] pos) (tT G E (mTest (mOp f ma mb))) := by
  refine PT.weak (pt_cmpR ho ha hb hm) fun σ H Q h => ?_
  obtain ⟨B, W, env, rfl, R, S, o⟩ := h
  refine op2 (f := f) hs ?_
  refine tE_of R S o fun d W1 v x1 R1 S1 r1 o1 => ?_
  cases d with
  | bl b => cases r1; exact ⟨b, rfl, o1.ret R1⟩
  | _ => exact o1.elim
end
end DL

set_option maxHeartbeats 2000000
/-! DG: a def's promise where no repr or == of a container is on the way (guards []), and the rules of its calls. -/
namespace DL
open PySem PySem.Spec PyProof.Rows L2

structure Rm (k : Nat) (A : Around) : Prop where
  r : Room k A
  g : A.guards = some []
theorem Rm.mono {j k : Nat} {A : Around} (h : Rm k A) (l : j ≤ k) : Rm j A := ⟨h.r.mono l, h.g⟩
theorem Rm.make {k : Nat} {A : Around} (h : Rm (k + 1) A) (C : Addr) (us : List Value) (kw : List (Str × Value)) : Rm k (A.under (.builtin "type.__call__" ⟨.ref C :: us, kw⟩)) := ⟨h.r.make C us kw, by
  show pushGuards (Code.guards (.builtin "type.__call__" ⟨.ref C :: us, kw⟩)) A.guards = some []
  rw [h.g]
  rfl⟩
theorem Rm.in1 {k : Nat} {A : Around} (h : Rm (k + 1) A) : Rm k A.in1 := ⟨h.r.in1, h.g⟩
theorem Rm.units {k : Nat} {A : Around} (h : Rm k A) : A.units + 64 < cLine := h.r.units
structure FnG (P : Program) (w : World) (K : PySem.W.Frag) (mg : Str → Option Value) (base : Heap) (k : Nat) (f : Addr) (fd : FuncData) (ps : List Str) (sp : Sp) : Prop where
  len : ∀ vs H Q E, sp vs H Q E → vs.length = ps.length
  go : ∀ (A : Around) (outer : List Env) (s : Shared) (H : Hp) (args : Args) (us : List Value) (vs : List V) (Q : VK) (E : XK), Rm k A → Env0 P w K mg base A outer s H → BindsTo s fd args (ps.zip us) → Vals vs us → sp vs H Q E →
    codeAny (model P w) A (.call (.ref f) args) (CR (L2.CX P w) outer P w H s Q E) s
theorem FnG.mono {P : Program} {w : World} {K : PySem.W.Frag} {mg : Str → Option Value} {base : Heap} {j k : Nat} {f : Addr} {fd : FuncData} {ps : List Str} {sp : Sp} (F : FnG P w K mg base j f fd ps sp) (h : j ≤ k) : FnG P w K mg base k f fd ps sp :=
  ⟨F.len, fun A outer s H args us vs Q E r => F.go A outer s H args us vs Q E (r.mono h)⟩
theorem FnG.imp {P : Program} {w : World} {K : PySem.W.Frag} {mg : Str → Option Value} {base : Heap} {k : Nat} {f : Addr} {fd : FuncData} {ps : List Str} {sp sp' : Sp} (F : FnG P w K mg base k f fd ps sp) (h : ∀ vs H Q E, sp' vs H Q E → sp vs H Q E) : FnG P w K mg base k f fd ps sp' :=
  ⟨fun vs H Q E q => F.len vs H Q E (h vs H Q E q), fun A outer s H args us vs Q E r e b v q => F.go A outer s H args us vs Q E r e b v (h vs H Q E q)⟩
theorem FnG.ofOk {P : Program} {w : World} {K : PySem.W.Frag} {mg : Str → Option Value} {base : Heap} {k : Nat} {f : Addr} {fd : FuncData} {ps : List Str} {sp : Sp} (F : FnOk P w K mg base (L2.CX P w) k f fd ps sp) : FnG P w K mg base k f fd ps sp :=
  ⟨F.len, fun A outer s H args us vs Q E r e b v q => F.run A outer s H args us vs Q E r.r e b v q⟩
section
variable {P : Program} {w : World} {K : PySem.W.Frag} {mg : Str → Option Value} {base : Heap}
/-- a def by its body -/
theorem fng_of {x qual : Str} {st : Stmt} {f : Addr} {fd : FuncData} {N ps : List Str} {k : Nat} {sp : Sp} (F : Fun K x qual st f fd) (S : FnScope N ps (defScope st)) (len : ∀ vs H Q E, sp vs H Q E → vs.length = ps.length)
    (body : ∀ (cdv : Value) (A : Around) (outer : List Env) (s : Shared) (H : Hp) (vs : List V) (Q : VK) (E : XK), Rm k (A.deeper (envOfC qual (defScope st) s.heap.objs.size f cdv)) → sp vs H Q E →
      ∃ t, PSs (cxOf (L2.CX P w) P w K mg base N qual (defScope st) f cdv A outer s H E) (defBody st) t ∧ t { nx := fun _ H' => Q .non H', rt := Q } (start N vs) H) : FnG P w K mg base (k + 1) f fd ps sp := by
  obtain ⟨oc, od, kV, doc, pm, an, cdv, ct, osl, rfl, lk, hcd⟩ := F.ex
  refine ⟨len, fun A outer s H args us vs Q E rm e0 hb rv hsp => ?_⟩
  have hl : vs.length = ps.length := len _ _ _ _ hsp
  have kx : K.In s.heap := e0.mod.kin.keeps fun b o e => (e0.bs b o e).1
  have lm : s.heap.NoLimit := e0.mod.nolimit.keeps fun b o e => (e0.bs b o e).1
  have kinds : ∀ y ∈ ps.zip us, (defScope st).names.lookup y.1 = some .local ∨ ((defScope st).names.lookup y.1 = some .cell ∧ ((cellsFrom (s.heap.objs.size + 1) (defScope st).names []).lookup y.1).isSome = true) := by
    intro y hy
    rcases S.par y.1 (List.of_mem_zip (show (y.1, y.2) ∈ ps.zip us from hy)).1 with q | q
    · exact .inl q
    · exact .inr ⟨q, PySem.W.cellsFrom_some _ _ _ (.inl q)⟩
  refine codeAny_call_function rm.r.depth (kx _ _ lk) rfl S.co S.gen rfl (PySem.W.codeRec_of kx hcd) (hb _ _ _ _ ?_)
  refine wpAny_newFunctionEnv_cells S.kind kinds fun env he s1 xin => ?_
  subst he
  refine ⟨lm.keeps xin.toInCall.keep, codeAny_func ?_⟩
  obtain ⟨t, ht, hq⟩ := body cdv A outer s H vs Q E ⟨rm.r.deeper _, rm.g⟩ hsp
  have J0 : Inv (cxOf (L2.CX P w) P w K mg base N qual (defScope st) f cdv A outer s H E) [] (start N vs) H s1 := inv_start S rm.r.hd e0 hl rv xin
  refine wpAny_mono (ht.run [] s1 (start N vs) H _ J0 hq) (fun fl s' hs => ?_) fun _ _ hs => hs
  match fl, hs with
  | .ret u, ⟨v, σ', H', J, ru, q⟩ => exact ⟨v, H', J.os, J.bare, J.base, J.hok, ru, q⟩
  | .next, ⟨σ', H', J, q⟩ => exact ⟨V.non, H', J.os, J.bare, J.base, J.hok, rfl, q⟩
  | .brk, ⟨_, _, _, q⟩ => exact q.elim
  | .cont, ⟨_, _, _, q⟩ => exact q.elim
end
section
variable {X : Cx} {k : Nat} {f C : Addr} {fd : FuncData} {ps : List Str} {sp : Sp} {dvs : List V} {ds : List Value} {E : ES} {x m : Str} {p pos apos : Pos} {e o : Expr} {es : List Expr} {ta : TE} {t : TA}
/-- readings of calls -/
def tCallG (sp : Sp) (dvs : List V) (E : ES) (t : TA) : TE := fun σ H Q => t σ H fun vs H1 => sp (vs ++ dvs) H1 Q (E σ)
def tMethG (C : Addr) (m : Str) (sp : Sp) (dvs : List V) (E : ES) (ta : TE) (t : TA) : TE := fun σ H Q => ta σ H fun x H1 => ∃ a dx fs, x = .ref a ∧ H1 a = some (.ins C dx fs) ∧ fs.lookup m = none ∧ t σ H1 fun vs H2 => sp (x :: (vs ++ dvs)) H2 Q (E σ)
def tMakeG (C : Addr) (sp : Sp) (dvs : List V) (E : ES) (t : TA) : TE := fun σ H Q => t σ H fun vs H1 => ∀ x dx, H1 x = none → H1 dx = none → dx ≠ x → sp (.ref x :: (vs ++ dvs)) (upd (upd H1 dx (.own x)) x (.ins C dx [])) (fun v H2 => v = .non ∧ Q (.ref x) H2) (E σ)
/-- how what is raised goes on here -/
def Pss (X : Cx) (E : ES) : Prop := ∀ (pins : List (Addr × Obj)) (σ : L2.St) (H : Hp) (s : Shared) (e : Value) (s' : Shared), Inv X pins σ H s → L2.CX X.prog X.w X.stack H s (E σ) e s' → X.xe e s'
theorem pss_takes {W : WX} (tk : Takes X W) : Pss X (fun σ cls d H => W cls d σ H) := fun pins σ H s e s' I h => passAt tk σ pins H s e s' I h
theorem pss_body {P : Program} {w : World} {K : PySem.W.Frag} {mg : Str → Option Value} {base : Heap} {N : List Str} {qual : Str} {scope : Scope} {cd : Value} {A : Around} {outer : List Env} {s : Shared} {H : Hp} {E : XK} : Pss (cxOf (L2.CX P w) P w K mg base N qual scope f cd A outer s H E) (fun _ => E) :=
  pss_takes (takes_of rfl rfl rfl rfl)
theorem gRun {pins : List (Addr × Obj)} {σ : L2.St} {H : Hp} {s : Shared} {Q : VK} {us : List Value} {vs : List V} (F : FnG X.prog X.w X.K X.mg X.base k f fd ps sp) (rm : Rm k X.A) (hb : Binds X.K fd ps ds) (hd : Vals dvs ds) (hx : Pss X E)
    (I : Inv X pins σ H s) (rv : Vals vs us) (h : sp (vs ++ dvs) H Q (E σ)) : wpAny (model X.prog X.w) X.A (call (.ref f) us) (EP X pins σ Q) X.xe s := by
  have r2 := rv.append hd
  have hl : (us ++ ds).length = ps.length := r2.length.symm.trans (F.len _ _ _ _ h)
  refine wpAny_call (codeAny_mono (F.go X.A X.stack s H ⟨us, []⟩ (us ++ ds) (vs ++ dvs) Q (E σ) rm I.env0 (hb s us I.kIn hl) r2 h) fun r s' hq => ?_)
  match r, hq with
  | .error er, hq => exact hx pins σ H s er s' I hq
  | .ok (.ret u), hq => exact I.after hq
  | .ok .next, hq => exact hq.elim
  | .ok .brk, hq => exact hq.elim
  | .ok .cont, hq => exact hq.elim
theorem gCall (F : FnG X.prog X.w X.K X.mg X.base k f fd ps sp) (rm : Rm k X.A) (hg : Gl X x) (hm : X.mg x = some (.ref f)) (hk : PySem.W.keepIn X.K (.ref f) = true) (hb : Binds X.K fd ps ds) (hd : Vals dvs ds) (hx : Pss X E) (ha : PA X (e :: es) t)
    (hdb : (x == ("__debug__" : Str)) = false := by decide) (he : starEach (e :: es) X.env = (false, eval e X.env) :: starEach es X.env := by rfl) (hpl : (backTo pos (starEach es X.env)).any (·.1) = false := by rfl) : PE X (.Call (.Name x p) (e :: es) [] pos) (tCallG sp dvs E t) :=
  ⟨fun pins s σ H Q I h => wpAny_Call_Name_kw (ld_glob I hg hm
    (PySem.W.callWith_K (h₀ := X.base) I.ok.mod.kin hk (thn (ha.run pos pins s σ H _ I h) fun us s1 ⟨_, _, I1, r, q⟩ => ⟨I1.kIn, gRun F rm hb hd hx I1 r q⟩) he hpl) hdb)⟩
theorem gCall0 (F : FnG X.prog X.w X.K X.mg X.base k f fd ps sp) (rm : Rm k X.A) (hg : Gl X x) (hm : X.mg x = some (.ref f)) (hk : PySem.W.keepIn X.K (.ref f) = true) (hb : Binds X.K fd ps ds) (hd : Vals dvs ds) (hx : Pss X E)
    (hdb : (x == ("__debug__" : Str)) = false := by decide) : PE X (.Call (.Name x p) [] [] pos) (tCallG sp dvs E tNil) :=
  ⟨fun pins s σ H Q I h => wpAny_Call_Name_kw (ld_glob I hg hm (PySem.W.callWith_K0 I.kIn hk (gRun (us := []) F rm hb hd hx I .nil h)) hdb)⟩
/-- o.m(e, ..) -/
theorem gMeth {pl : Sem Bool} (he : PE X o ta) (c : Cls X.K C) (hm : Meth X.K C m f) (F : FnG X.prog X.w X.K X.mg X.base k f fd ps sp) (rm : Rm k X.A) (hb : Binds X.K fd ps ds) (hd : Vals dvs ds) (hx : Pss X E) (ha : PA X (e :: es) t)
    (hst : starEach (e :: es) X.env = (false, eval e X.env) :: starEach es X.env := by rfl) (hpl : (backTo pos (starEach es X.env)).any (·.1) = false := by rfl)
    (ht : eval (.Call (.Attribute o m apos) (e :: es) [] pos) X.env = (do
      let ov ← eval o X.env
      standAt apos.atName
      let (g, first) ← holding [ov] (getMethod ov m pl)
      callWith pos g first (backTo pos (starEach (e :: es) X.env)) (backToKw pos (keywordEach [] X.env))) := by rfl) : PE X (.Call (.Attribute o m apos) (e :: es) [] pos) (tMethG C m sp dvs E ta t) := by
  refine ⟨fun pins s σ H Q I h => PySem.W.methodCall_KW (pl := pl) (thn (he.run pins s σ H _ I h) fun u s1 h1 => ?_) ht⟩
  obtain ⟨xv, H1, I1, rx, a, dx, fs, rfl, ea, l, q⟩ := h1
  cases rx
  exact getmeth_ok I1 ea c hm l (PySem.W.callWith_K (first := [.ref a]) (h₀ := X.base) I.ok.mod.kin hm.kp (thn (ha.run pos pins s1 σ H1 _ I1 q) fun us s2 ⟨vs, H2, I2, r, q2⟩ =>
    ⟨I2.kIn, gRun (us := .ref a :: us) (vs := .ref a :: vs) F rm hb hd hx I2 (.cons rfl r) q2⟩) hst hpl)
theorem gMeth0 {pl : Sem Bool} (he : PE X o ta) (c : Cls X.K C) (hm : Meth X.K C m f) (F : FnG X.prog X.w X.K X.mg X.base k f fd ps sp) (rm : Rm k X.A) (hb : Binds X.K fd ps ds) (hd : Vals dvs ds) (hx : Pss X E)
    (ht : eval (.Call (.Attribute o m apos) [] [] pos) X.env = (do
      let ov ← eval o X.env
      standAt apos.atName
      let (g, first) ← holding [ov] (getMethod ov m pl)
      callWith pos g first (backTo pos (starEach [] X.env)) (backToKw pos (keywordEach [] X.env))) := by rfl) : PE X (.Call (.Attribute o m apos) [] [] pos) (tMethG C m sp dvs E ta tNil) := by
  refine ⟨fun pins s σ H Q I h => PySem.W.methodCall_KW (pl := pl) (thn (he.run pins s σ H _ I h) fun u s1 h1 => ?_) ht⟩
  obtain ⟨xv, H1, I1, rx, a, dx, fs, rfl, ea, l, q⟩ := h1
  cases rx
  exact getmeth_ok I1 ea c hm l (PySem.W.callWith_K0 (first := [.ref a]) I1.kIn hm.kp (gRun (us := [.ref a]) (vs := [.ref a]) F rm hb hd hx I1 (.cons rfl .nil) q))
/-- a new instance -/
theorem gMakeRun {pins : List (Addr × Obj)} {σ : L2.St} {H : Hp} {s : Shared} {Q : VK} {us : List Value} {vs : List V} (Mk0 : Mk X.K C f) (F : FnG X.prog X.w X.K X.mg X.base k f fd ps sp) (rm : Rm (k + 1) X.A) (hb : Binds X.K fd ps ds) (hd : Vals dvs ds) (hx : Pss X E)
    (I : Inv X pins σ H s) (rv : Vals vs us)
    (h : ∀ y dx, H y = none → H dx = none → dx ≠ y → sp (.ref y :: (vs ++ dvs)) (upd (upd H dx (.own y)) y (.ins C dx [])) (fun v H2 => v = .non ∧ Q (.ref y) H2) (E σ)) : wpAny (model X.prog X.w) X.A (call (.ref C) us) (EP X pins σ Q) X.xe s := by
  have n1 : H (s.heap.objs.size + 1) = none := I.hok.fresh (Nat.le_succ _)
  have n0 : H s.heap.objs.size = none := I.hok.fresh (Nat.le_refl _)
  have hq := h (s.heap.objs.size + 1) s.heap.objs.size n1 n0 (Nat.ne_of_lt (Nat.lt_succ_self _))
  have J := Inv.made (C := C) I
  have r2 : Vals (V.ref (s.heap.objs.size + 1) :: (vs ++ dvs)) (Value.ref (s.heap.objs.size + 1) :: (us ++ ds)) := .cons rfl (rv.append hd)
  have hl : (Value.ref (s.heap.objs.size + 1) :: us ++ ds).length = ps.length := r2.length.symm.trans (F.len _ _ _ _ hq)
  have go := F.go _ X.stack _ _ ⟨Value.ref (s.heap.objs.size + 1) :: us, []⟩ (Value.ref (s.heap.objs.size + 1) :: (us ++ ds)) _ _ (E σ) (rm.make C us []) (J.env0.make C us []) (hb _ (Value.ref (s.heap.objs.size + 1) :: us) J.kIn hl) r2 hq
  refine wpAny_call (make_map (f := f) I.kIn Mk0.makes Mk0.init (beq_iff_eq.mp Mk0.fn) (codeAny_mono go fun r s' hr => ?_))
  match r, hr with
  | .error er, hr => exact hx pins σ _ _ er s' J hr
  | .ok (.ret u), hr =>
    obtain ⟨v, H', J3, ru, ev, q3⟩ := J.after hr
    subst ev
    exact ⟨ru, ⟨V.ref (s.heap.objs.size + 1), H', J3, rfl, q3⟩⟩
  | .ok .next, hr => exact hr.elim
  | .ok .brk, hr => exact hr.elim
  | .ok .cont, hr => exact hr.elim
theorem gMake (Mk0 : Mk X.K C f) (F : FnG X.prog X.w X.K X.mg X.base k f fd ps sp) (rm : Rm (k + 1) X.A) (hg : Gl X x) (hm : X.mg x = some (.ref C)) (hb : Binds X.K fd ps ds) (hd : Vals dvs ds) (hx : Pss X E) (ha : PA X (e :: es) t)
    (hdb : (x == ("__debug__" : Str)) = false := by decide) (he : starEach (e :: es) X.env = (false, eval e X.env) :: starEach es X.env := by rfl) (hpl : (backTo pos (starEach es X.env)).any (·.1) = false := by rfl) : PE X (.Call (.Name x p) (e :: es) [] pos) (tMakeG C sp dvs E t) :=
  ⟨fun pins s σ H Q I h => wpAny_Call_Name_kw (ld_glob I hg hm
    (PySem.W.callWith_K (h₀ := X.base) I.ok.mod.kin Mk0.kp (thn (ha.run pos pins s σ H _ I h) fun us s1 ⟨_, _, I1, r, q⟩ => ⟨I1.kIn, gMakeRun Mk0 F rm hb hd hx I1 r q⟩) he hpl) hdb)⟩
theorem gMake0 (Mk0 : Mk X.K C f) (F : FnG X.prog X.w X.K X.mg X.base k f fd ps sp) (rm : Rm (k + 1) X.A) (hg : Gl X x) (hm : X.mg x = some (.ref C)) (hb : Binds X.K fd ps ds) (hd : Vals dvs ds) (hx : Pss X E)
    (hdb : (x == ("__debug__" : Str)) = false := by decide) : PE X (.Call (.Name x p) [] [] pos) (tMakeG C sp dvs E tNil) :=
  ⟨fun pins s σ H Q I h => wpAny_Call_Name_kw (ld_glob I hg hm (PySem.W.callWith_K0 I.kIn Mk0.kp (gMakeRun (us := []) (vs := []) Mk0 F rm hb hd hx I .nil h)) hdb)⟩
/-- a property read -/
theorem gProp {pp : Addr} {fl : Str} (he : PE X o ta) (c : Cls X.K C) (hp : PropOf X.K C fl pp f) (F : FnG X.prog X.w X.K X.mg X.base k f fd ps sp) (rm : Rm (k + 1) X.A) (hb : Binds X.K fd ps ds) (hd : Vals dvs ds)
    (hab : attributeBase o fl X.env (eval o X.env) = eval o X.env := by rfl) : PE X (.Attribute o fl pos) (tProp C sp dvs (fun _ _ _ => False) ta) := by
  refine ⟨fun pins s σ H Q I h => attr_of hab (thn (he.run pins s σ H _ I h) fun u s1 h1 => ?_)⟩
  obtain ⟨xv, H1, I1, rx, a, dx, fs, rfl, ea, q⟩ := h1
  cases rx
  obtain ⟨mA, O, _, _, _, _⟩ := ins_get I1.hok ea
  obtain ⟨od, J, _⟩ := O.look
  obtain ⟨rest, hrec⟩ := hp.rec_
  have I2 := I1.tok (s1.toks + 1)
  have hl : ([Value.ref a] ++ ds).length = ps.length := by
    have := F.len _ _ _ _ q
    have e2 := hd.length
    simp only [List.length_cons, List.length_append, List.length_nil] at this ⊢
    omega
  have hc : (PySem.W.clsIn X.K C).isSome = true := by
    obtain ⟨cd, hc, _⟩ := PySem.W.any_some c.hd
    rw [hc]; rfl
  have go := F.go X.A.in1 X.stack { s1 with toks := s1.toks + 1 } H1 ⟨[.ref a], []⟩ (.ref a :: ds) (.ref a :: dvs) Q _ rm.in1 I2.env0.in1 (hb _ [.ref a] I2.kIn hl) (.cons rfl hd) q
  refine PySem.W.get_bind I1.kIn J (PySem.W.plainGet_of (c.get fl)).1 (PySem.W.findObj_data hc hp.at_ hp.get hp.tak) (PySem.W.plainGet_of (c.get fl)).2 (wpAny_call (PySem.W.prop_get (s := { s1 with toks := s1.toks + 1 }) I1.kIn hrec (codeAny_mono go fun r s' hr => ?_)))
  match r, hr with
  | .error er, hr =>
    obtain ⟨_, _, _, _, _, _, _, _, _, _, _, _, z⟩ := hr
    exact z.elim
  | .ok (.ret u), hr =>
    obtain ⟨v, H', I3, ru, q3⟩ := I2.after hr
    show wpAny _ _ (handedOut u) _ _ _
    rw [PySem.W.handedOut_of (handed_of ru)]
    exact wpAny_pure ⟨v, H', I3, ru, q3⟩
  | .ok .next, hr => exact hr.elim
  | .ok .brk, hr => exact hr.elim
  | .ok .cont, hr => exact hr.elim
/-- C.m(): m a static method of the class of the text that the name x stands for -/
structure Stat (K : PySem.W.Frag) (C : Addr) (m : Str) (pp f : Addr) : Prop where
  ga : PySem.W.specialIn K (.ref C) "__getattribute__" = some (some (.builtin "type.__getattribute__"))
  rd : PySem.W.readsIn K C (.type "type") = true
  at_ : PySem.W.findCls K (.ref C) (.type "type") m = some (.get (.builtin "staticmethod.__get__") (.ref pp) .none (.ref C))
  rc : ∃ rest, PySem.W.recIn K pp "staticmethod" = some (.ref f :: rest)
  kp : PySem.W.keepIn K (.ref f) = true
theorem gStat0 {pl : Sem Bool} {pp : Addr} {p2 : Pos} (hg : Gl X x) (hm : X.mg x = some (.ref C)) (T : Stat X.K C m pp f) (F : FnG X.prog X.w X.K X.mg X.base k f fd ps sp) (rm : Rm k X.A) (hb : Binds X.K fd ps ds) (hd : Vals dvs ds) (hx : Pss X E)
    (ht : eval (.Call (.Attribute (.Name x p2) m apos) [] [] pos) X.env = (do
      let ov ← eval (.Name x p2) X.env
      standAt apos.atName
      let (g, first) ← holding [ov] (getMethod ov m pl)
      callWith pos g first (backTo pos (starEach [] X.env)) (backToKw pos (keywordEach [] X.env))) := by rfl) (hdb : (x == ("__debug__" : Str)) = false := by decide) : PE X (.Call (.Attribute (.Name x p2) m apos) [] [] pos) (tCallG sp dvs E tNil) := by
  refine ⟨fun pins s σ H Q I h => PySem.W.methodCall_KW (pl := pl) (ld_glob I hg hm ?_ hdb) ht⟩
  obtain ⟨rest, hr⟩ := T.rc
  refine PySem.W.method_cls I.kIn T.ga (PySem.W.cls_bind I.kIn T.rd T.at_ (wpAny_call (PySem.W.sm_get (s := { s with toks := s.toks + 1 }) I.kIn hr (PySem.W.handed_on rfl ?_))))
  have I2 := I.tok (s.toks + 1)
  exact PySem.W.callWith_K0 I2.kIn T.kp (gRun (us := []) F rm hb hd hx I2 .nil h)
end
end DL

set_option maxHeartbeats 2000000
/-! DL3: the operations on trees, each with its rule. -/
namespace DL
open PySem PySem.Spec PyProof.Rows L2

/-! ### + - * // % ** -/
def catL (st : Store) (x y : D) : R D := match asO st x, asO st y with
  | some xs, some ys => if xs.length + ys.length ≤ sizeLine then .ok (.lst (xs ++ ys)) st else .bad
  | _, _ => .bad
def opAdd (x y : D) (st : Store) : R D := match x with
  | .int i => (match y with
    | .int j => .ok (.int (i + j)) st
    | _ => .bad)
  | .str a => (match y with
    | .str b => if a.length + b.length ≤ sizeLine then .ok (.str (a ++ b)) st else .bad
    | _ => .bad)
  | .tup xs => (match y with
    | .tup ys => if xs.length + ys.length ≤ sizeLine then .ok (.tup (xs ++ ys)) st else .bad
    | _ => .bad)
  | x => catL st x y
def opI (f : Int → Int → R D) (x y : D) : R D := match x with
  | .int i => (match y with
    | .int j => f i j
    | _ => .bad)
  | _ => .bad
def opSub (x y : D) (st : Store) : R D := opI (fun i j => .ok (.int (i - j)) st) x y
instance {i j : Int} : Decidable (CMul i j) := inferInstanceAs (Decidable (_ ∨ _))
def CMulB (i j : Int) : Prop := CMul i j ∨ CMulW i j
instance {i j : Int} : Decidable (CMulW i j) := inferInstanceAs (Decidable (_ < _))
instance {i j : Int} : Decidable (CMulB i j) := inferInstanceAs (Decidable (_ ∨ _))
instance {i j : Int} : Decidable (CDiv i j) := inferInstanceAs (Decidable (_ ∧ _))
instance {i j : Int} : Decidable (CPow i j) := inferInstanceAs (Decidable (_ ∧ _))
def opMul (x y : D) (st : Store) : R D := opI (fun i j => if CMulB i j then .ok (.int (i * j)) st else .bad) x y
def opDiv (x y : D) (st : Store) : R D := opI (fun i j => if CDiv i j then .ok (.int (i / j)) st else .bad) x y
def opMod (x y : D) (st : Store) : R D := opI (fun i j => if 0 < j then .ok (.int (i % j)) st else .bad) x y
def opPow (x y : D) (st : Store) : R D := opI (fun i j => if CPow i j then .ok (.int (i ^ j.toNat)) st else .bad) x y
def rInt2 (C : Int → Int → Prop) (g : Int → Int → V) : R2 := rI C g
section
variable {G : Cn} {X : Cx}
theorem opI_ok {r : R2} (f : Store → Int → Int → R D) (h : ∀ (B : Addr → Prop) (W : Wd) (E : XK) (i j : Int) (Q : VK), Rel G B W → Out G B W E (f W.st i j) (fun d W' => ∀ z, Rep G B W' z d → Q z W'.H) → r (.int i) (.int j) W.H Q) : OpS G r fun x y st => opI (f st) x y := by
  intro B W E x y v u Q R rx ry o
  cases x with
  | int i =>
    cases y with
    | int j => cases rx; cases ry; exact h B W E i j Q R o
    | _ => exact o.elim
  | _ => exact o.elim
theorem os_sub : OpS G (rI0 fun i j => .int (i - j)) opSub := opI_ok (fun st i j => .ok (.int (i - j)) st) fun _ _ _ _ _ _ R o => ⟨_, _, rfl, rfl, o.ret R _ (.int _)⟩
theorem opI_if {C : Int → Int → Prop} [∀ i j, Decidable (C i j)] {g : Int → Int → Int} : OpS G (rI C fun i j => .int (g i j)) fun x y st => opI (fun i j => if C i j then .ok (.int (g i j)) st else .bad) x y := opI_ok (fun st i j => if C i j then .ok (.int (g i j)) st else .bad) fun B W E i j Q R o => by
  by_cases c : C i j
  · rw [if_pos c] at o
    exact ⟨i, j, rfl, rfl, c, o.ret R _ (.int _)⟩
  · rw [if_neg c] at o
    exact o.elim
theorem op_mulB : OpR X (binaryOp .Mult) (rI CMulB fun i j => .int (i * j)) := by
  have h := OpR.or (op_mul (X := X)) (op_mulW (X := X))
  intro pins s σ H x y v u Q I r1 r2 q
  obtain ⟨i, j, e1, e2, c, q⟩ := q
  rcases c with c | c
  · exact h pins s σ H x y v u Q I r1 r2 (.inl ⟨i, j, e1, e2, c, q⟩)
  · exact h pins s σ H x y v u Q I r1 r2 (.inr ⟨i, j, e1, e2, c, q⟩)
theorem os_mul : OpS G (rI CMulB fun i j => .int (i * j)) opMul := opI_if
theorem os_div : OpS G (rI CDiv fun i j => .int (i / j)) opDiv := opI_if
theorem os_mod : OpS G (rI (fun _ j => 0 < j) fun i j => .int (i % j)) opMod := opI_if
theorem os_pow : OpS G (rI CPow fun i j => .int (i ^ j.toNat)) opPow := opI_if
/-- a new list's, tuple's end -/
theorem catL_ok {B : Addr → Prop} {W : Wd} {E : XK} {x y : D} {v u : V} {Q : VK} (R : Rel G B W) (rx : Rep G B W v x) (ry : Rep G B W u y) (o : Out G B W E (catL W.st x y) fun d W' => ∀ z, Rep G B W' z d → Q z W'.H) : rCat v u W.H Q := by
  unfold catL at o
  cases e1 : asO W.st x with
  | none => rw [e1] at o; exact o.elim
  | some xs =>
    cases e2 : asO W.st y with
    | none => rw [e1, e2] at o; exact o.elim
    | some ys =>
      rw [e1, e2] at o
      obtain ⟨a, vs, rfl, h1, t1⟩ := rx.asO R e1
      obtain ⟨b, us, rfl, h2, t2⟩ := ry.asO R e2
      by_cases c : xs.length + ys.length ≤ sizeLine
      · simp only [if_pos c] at o
        exact ⟨a, b, vs, us, rfl, rfl, h1, h2, by rw [t1.length, t2.length]; exact c, fun p hp => o.lstN R hp (vs ++ us) _ (.newL R hp (t1.append t2))⟩
      · simp only [if_neg c] at o
        exact o.elim
def rAddA (K : PySem.W.Frag) : R2 := fun x y H Q => (rI0 (fun i j => .int (i + j)) x y H Q ∨ (∃ i j, x = .str i ∧ y = .str j ∧ i.length + j.length ≤ sizeLine ∧ Q (.str (i ++ j)) H)) ∨ (rCatA K x y H Q ∨ rCat x y H Q)
theorem op_addA : OpR X (binaryOp .Add) (rAddA X.K) := (op_add.or op_add_str).or (op_catA.or op_cat)
theorem os_add : OpS G (rAddA G.K) opAdd := by
  intro B W E x y v u Q R rx ry o
  cases x with
  | int i =>
    cases y with
    | int j => cases rx; cases ry; exact .inl (.inl ⟨i, j, rfl, rfl, o.ret R _ (.int _)⟩)
    | _ => exact o.elim
  | str a =>
    cases y with
    | str b =>
      cases rx; cases ry
      unfold opAdd at o
      by_cases c : a.length + b.length ≤ sizeLine
      · simp only [if_pos c] at o
        exact .inl (.inr ⟨a, b, rfl, rfl, c, o.ret R _ (.str _)⟩)
      · simp only [if_neg c] at o
        exact o.elim
    | _ => exact o.elim
  | tup xs =>
    cases y with
    | tup ys =>
      cases rx with
      | @tup a vs _ h1 t1 =>
        cases ry with
        | @tup b us _ h2 t2 =>
          unfold opAdd at o
          by_cases c : xs.length + ys.length ≤ sizeLine
          · simp only [if_pos c] at o
            refine .inr (.inl ⟨a, b, vs, us, rfl, rfl, h1, h2, by rw [t1.length, t2.length]; exact c, fun e => ?_, fun _ e => ?_, fun _ _ p hp => o.tupN R hp (vs ++ us) _ (.newT R hp (t1.append t2))⟩)
            · subst e
              cases t1
              exact o.ret R _ (.tup h2 t2)
            · subst e
              cases t2
              rw [List.append_nil] at o
              exact o.ret R _ (.tup h1 t1)
          · simp only [if_neg c] at o
            exact o.elim
    | _ => exact o.elim
  | _ => exact .inr (.inr (catL_ok R rx ry o))
end
/-! ### order of ints -/
def opCmpI (p : Int → Int → Bool) (x y : D) (st : Store) : R D := opI (fun i j => .ok (.bl (p i j)) st) x y
def opLtI : D → D → Store → R D := opCmpI fun i j => decide (i < j)
def opLeI : D → D → Store → R D := opCmpI fun i j => decide (i ≤ j)
def opGtI : D → D → Store → R D := opCmpI fun i j => decide (j < i)
def opGeI : D → D → Store → R D := opCmpI fun i j => decide (j ≤ i)
theorem os_cmpI {G : Cn} {p : Int → Int → Bool} : OpS G (rI0 fun i j => .bl (p i j)) (opCmpI p) := opI_ok (fun st i j => .ok (.bl (p i j)) st) fun _ _ _ _ _ _ R o => ⟨_, _, rfl, rfl, o.ret R _ (.bl _)⟩
/-! ### is None, is True -/
def opIsN (neg : Bool) (x y : D) (st : Store) : R D := match y with
  | .non => .ok (.bl (neg ^^ (match x with
    | .non => true
    | _ => false))) st
  | _ => .bad
theorem os_isN {G : Cn} : OpS G (fun x y H Q => y = .non ∧ Q (.bl (decide (x = .non))) H) (opIsN false) := by
  intro B W E x y v u Q R rx ry o
  cases y with
  | non =>
    cases ry
    refine ⟨rfl, ?_⟩
    cases x <;> cases rx <;> exact o.ret R _ (.bl _)
  | _ => exact o.elim
theorem os_notN {G : Cn} : OpS G (fun x y H Q => y = .non ∧ Q (.bl (!decide (x = .non))) H) (opIsN true) := by
  intro B W E x y v u Q R rx ry o
  cases y with
  | non =>
    cases ry
    refine ⟨rfl, ?_⟩
    cases x <;> cases rx <;> exact o.ret R _ (.bl _)
  | _ => exact o.elim
/-! ### == of data -/
mutual
def D.py : D → Option PyData
  | .non => some .none
  | .bl b => some (.bool b)
  | .int i => some (.int i)
  | .str x => some (.str x)
  | .tup xs => (D.pys xs).map .tuple
  | .lst xs => (D.pys xs).map .list
  | .fro xs => (D.pys xs).map .list
  | .dct _ _ => none
  | .obj _ _ _ => none
  | .loc _ => none
  | .exn _ _ _ => none
def D.pys : List D → Option (List PyData)
  | [] => some []
  | d :: ds => (D.py d).bind fun p => (D.pys ds).map (p :: ·)
end
section
variable {G : Cn} {B : Addr → Prop} {W : Wd}
mutual
theorem Rep.dp : ∀ (d : D) (v : V) (p : PyData), Rep G B W v d → d.py = some p → Dp G.K W.H v p
  | .non, _, _, h, e => by cases h; cases e; exact .non
  | .bl b, _, _, h, e => by cases h; cases e; exact .bl b
  | .int i, _, _, h, e => by cases h; cases e; exact .int i
  | .str x, _, _, h, e => by cases h; cases e; exact .str x
  | .tup xs, _, _, h, e => by
    cases h with
    | tup h t =>
      obtain ⟨ps, e1, e2⟩ := Option.map_eq_some_iff.mp e
      subst e2
      exact .tup h (Reps.dp xs _ _ t e1)
  | .lst xs, _, _, h, e => by
    cases h with
    | lst h n t =>
      obtain ⟨ps, e1, e2⟩ := Option.map_eq_some_iff.mp e
      subst e2
      exact .lst (SqL.of h) (Reps.dp xs _ _ t e1)
  | .fro xs, _, _, h, e => by
    cases h with
    | fro h t =>
      obtain ⟨ps, e1, e2⟩ := Option.map_eq_some_iff.mp e
      subst e2
      rcases h with ⟨o, h⟩ | ⟨o, its, n, k⟩
      · exact .lst (.inl (.inr ⟨o, h⟩)) (Reps.dp xs _ _ t e1)
      · exact .lst (.inr ⟨o, its, n, k⟩) (Reps.dp xs _ _ t e1)
  | .dct _ _, _, _, _, e => by cases e
  | .obj _ _ _, _, _, _, e => by cases e
  | .loc _, _, _, _, e => by cases e
  | .exn _ _ _, _, _, _, e => by cases e
theorem Reps.dp : ∀ (ds : List D) (vs : List V) (ps : List PyData), Reps G B W vs ds → D.pys ds = some ps → DpAll G.K W.H vs ps
  | [], _, _, h, e => by cases h; cases e; exact .nil
  | d :: ds, _, _, h, e => by
    cases h with
    | cons h t =>
      obtain ⟨p, e1, e⟩ := Option.bind_eq_some_iff.mp e
      obtain ⟨ps, e2, e3⟩ := Option.map_eq_some_iff.mp e
      subst e3
      exact .cons (Rep.dp d _ _ h e1) (Reps.dp ds _ _ t e2)
end
/-- a cell that holds a list, read as a list -/
def res (st : Store) : D → D
  | .loc n => match st[n]? with
    | some (.lst xs) => .lst xs
    | _ => .loc n
  | d => d
theorem Rep.dpR (R : Rel G B W) {d : D} {v : V} {p : PyData} (h : Rep G B W v d) (e : (res W.st d).py = some p) : Dp G.K W.H v p := by
  cases d with
  | loc n =>
    cases q : W.st[n]? with
    | none => simp only [res, q] at e; cases e
    | some c =>
      cases c with
      | lst xs =>
        simp only [res, q] at e
        obtain ⟨ps, e1, e2⟩ := Option.map_eq_some_iff.mp e
        subst e2
        cases h with
        | loc h =>
          obtain ⟨vs, h1, h2⟩ := R.cell n _ _ h q
          exact .lst (SqL.of h1) (Reps.dp xs _ _ h2 e1)
      | _ => simp only [res, q] at e; cases e
  | _ => exact Rep.dp _ _ _ h e
end
def opEqD (neg : Bool) (x y : D) (st : Store) : R D := match (res st x).py, (res st y).py with
  | some p, some q => if SeqAt.shaped p = true ∧ SeqAt.shaped q = true then .ok (.bl (neg ^^ PyData.eqv p q)) st else .bad
  | _, _ => .bad
theorem opEqD_inv {G : Cn} {B : Addr → Prop} {W : Wd} {E : XK} {neg : Bool} {x y : D} {v u : V} {Q : D → Wd → Prop} (R : Rel G B W) (rx : Rep G B W v x) (ry : Rep G B W u y) (o : Out G B W E (opEqD neg x y W.st) Q) :
    ∃ p q, Dp G.K W.H v p ∧ Dp G.K W.H u q ∧ SeqAt.shaped p = true ∧ SeqAt.shaped q = true ∧ Q (.bl (neg ^^ PyData.eqv p q)) W := by
  unfold opEqD at o
  cases e1 : (res W.st x).py with
  | none => rw [e1] at o; exact o.elim
  | some p =>
    cases e2 : (res W.st y).py with
    | none => rw [e1, e2] at o; exact o.elim
    | some q =>
      rw [e1, e2] at o
      by_cases c : SeqAt.shaped p = true ∧ SeqAt.shaped q = true
      · simp only [if_pos c] at o
        exact ⟨p, q, rx.dpR R e1, ry.dpR R e2, c.1, c.2, o.ret R⟩
      · simp only [if_neg c] at o
        exact o.elim
theorem os_eqD {G : Cn} : OpS G (rEqD G.K) (opEqD false) := by
  intro B W E x y v u Q R rx ry o
  obtain ⟨p, q, h1, h2, h3, h4, h5⟩ := opEqD_inv R rx ry o
  exact ⟨p, q, h1, h2, h3, h4, by rw [Bool.false_xor] at h5; exact h5 _ (.bl _)⟩
theorem os_neD {G : Cn} : OpS G (rNeD G.K) (opEqD true) := by
  intro B W E x y v u Q R rx ry o
  obtain ⟨p, q, h1, h2, h3, h4, h5⟩ := opEqD_inv R rx ry o
  exact ⟨p, q, h1, h2, h3, h4, by rw [Bool.true_xor] at h5; exact h5 _ (.bl _)⟩
/-! ### x in seq, of flat data -/
def D.flat : D → Bool
  | .non => true
  | .bl _ => true
  | .int _ => true
  | .str _ => true
  | _ => false
/-- the value of a flat datum -/
def D.v : D → V
  | .bl b => .bl b
  | .int i => .int i
  | .str x => .str x
  | _ => .non
def opIn (neg : Bool) (x y : D) (st : Store) : R D := match asS st y with
  | some ys => if x.flat = true ∧ ys.all D.flat = true then .ok (.bl (neg ^^ inV x.v (ys.map D.v))) st else .bad
  | none => .bad
theorem Rep.flat {G : Cn} {B : Addr → Prop} {W : Wd} {v : V} {d : D} (h : Rep G B W v d) (f : d.flat = true) : v = d.v ∧ flatV v = true := by
  cases h <;> first | exact ⟨rfl, rfl⟩ | (cases f)
theorem Reps.flat {G : Cn} {B : Addr → Prop} {W : Wd} : ∀ {vs : List V} {ds : List D}, Reps G B W vs ds → ds.all D.flat = true → vs = ds.map D.v ∧ vs.all flatV = true
  | _, _, .nil, _ => ⟨rfl, rfl⟩
  | _, _, .cons h t, f => by
    rw [List.all_cons, Bool.and_eq_true] at f
    obtain ⟨e1, f1⟩ := h.flat f.1
    obtain ⟨e2, f2⟩ := Reps.flat t f.2
    exact ⟨by rw [List.map_cons, ← e1, ← e2], by rw [List.all_cons, f1, f2]; rfl⟩
theorem os_in {G : Cn} {neg : Bool} : OpS G (rIn G.K neg) (opIn neg) := by
  intro B W E x y v u Q R rx ry o
  unfold opIn at o
  cases e : asS W.st y with
  | none => rw [e] at o; exact o.elim
  | some ys =>
    rw [e] at o
    obtain ⟨a, vs, rfl, h, t⟩ := ry.asS R e
    by_cases c : x.flat = true ∧ ys.all D.flat = true
    · simp only [if_pos c] at o
      obtain ⟨e1, f1⟩ := rx.flat c.1
      obtain ⟨e2, f2⟩ := t.flat c.2
      refine ⟨a, vs, rfl, h, f1, f2, ?_⟩
      have q := o.ret R
      rw [← e1, ← e2] at q
      cases neg with
      | true => rw [Bool.true_xor] at q; exact q _ (.bl _)
      | false => rw [Bool.false_xor] at q; exact q _ (.bl _)
    · simp only [if_neg c] at o
      exact o.elim
/-! ### an item -/
def opIx (x y : D) (st : Store) : R D := match y with
  | .int i => (match x with
    | .str s => (match atI s.cps.toList i with
      | some c => if s.length ≤ sizeLine then .ok (.str ⟨#[c]⟩) st else .bad
      | none => .bad)
    | x => match (asS st x).bind fun xs => atI xs i with
      | some d => .ok d st
      | none => .bad)
  | _ => .bad
theorem atI_reps {G : Cn} {B : Addr → Prop} {W : Wd} {vs : List V} {ds : List D} {i : Int} {d : D} (t : Reps G B W vs ds) (h : atI ds i = some d) : ∃ v, atI vs i = some v ∧ Rep G B W v d := by
  unfold atI at h ⊢
  rw [t.length]
  cases e : ixN ds.length i with
  | none => rw [e] at h; cases h
  | some j =>
    rw [e] at h
    exact t.get h
theorem os_ix {G : Cn} : OpS G (rIx G.K) opIx := by
  intro B W E x y v u Q R rx ry o
  cases y with
  | int i =>
    cases ry
    have seq : ∀ (h : ∀ s, x ≠ .str s), rIx G.K v (.int i) W.H Q := by
      intro h
      have o' : Out G B W E (match (asS W.st x).bind fun xs => atI xs i with
        | some d => .ok d W.st
        | none => .bad) (fun d W' => ∀ z, Rep G B W' z d → Q z W'.H) := by
        cases x with
        | str s => exact (h s rfl).elim
        | _ => exact o
      cases e : (asS W.st x).bind fun xs => atI xs i with
      | none => rw [e] at o'; exact o'.elim
      | some d =>
        rw [e] at o'
        obtain ⟨xs, e1, e2⟩ := Option.bind_eq_some_iff.mp e
        obtain ⟨a, vs, rfl, hs, t⟩ := rx.asS R e1
        obtain ⟨z, h1, h2⟩ := atI_reps t e2
        rcases hs with hs | hs
        · exact .inl ⟨a, vs, i, z, rfl, rfl, hs, h1, o'.ret R z h2⟩
        · exact .inr (.inl ⟨a, vs, i, z, rfl, rfl, hs, h1, o'.ret R z h2⟩)
    cases x with
    | str s =>
      cases rx
      unfold opIx at o
      cases e : atI s.cps.toList i with
      | none => simp only [e] at o; exact o.elim
      | some c =>
        simp only [e] at o
        by_cases z : s.length ≤ sizeLine
        · simp only [if_pos z] at o
          exact .inr (.inr ⟨s, i, c, rfl, rfl, z, e, o.ret R _ (.str _)⟩)
        · simp only [if_neg z] at o
          exact o.elim
    | _ => exact seq (fun s e => by cases e)
  | _ => exact o.elim
end DL

set_option maxHeartbeats 2000000
/-! DL4: displays, tests, calls of built-ins, fields, calls of the text's own defs. -/
namespace DL
open PySem PySem.Spec PyProof.Rows L2

/-! ### argument lists, displays -/
def mNil : M (List D) := fun _ st => .ok [] st
def mCons (m : M D) (ms : M (List D)) : M (List D) := fun env st => (m env st).bind fun d s => (ms env s).bind fun ds s2 => .ok (d :: ds) s2
def mTup (ms : M (List D)) : M D := fun env st => (ms env st).bind fun ds s => if ds.length ≤ sizeLine then .ok (.tup ds) s else .bad
def mLst (ms : M (List D)) : M D := fun env st => (ms env st).bind fun ds s => if ds.length ≤ sizeLine then .ok (.lst ds) s else .bad
/-- a list that will change: a new cell -/
def mLstC (ms : M (List D)) : M D := fun env st => (ms env st).bind fun ds s => if ds.length ≤ sizeLine then .ok (.loc s.length) (s ++ [Cell.lst ds]) else .bad
section
variable {G : Cn} {B : Addr → Prop} {W : Wd}
def Wd.grow (W : Wd) (p : Addr) (c : Cell) (o : HO) : Wd := ⟨W.r ++ [p], W.st ++ [c], upd W.H p o⟩
theorem Ext.grow {p : Addr} {c : Cell} {o : HO} (l : W.r.length = W.st.length) (h : W.H p = none) : Ext W (W.grow p c o) := by
  have k : ∀ a u, W.H a = some u → (W.grow p c o).H a = some u := fun a u e => (upd_ne (ne_of_none e h)).trans e
  refine ⟨l, by simp [Wd.grow], ⟨[p], rfl, by simp [h]⟩, fun n q => ?_, fun a u e _ => k a u e, fun a u e => ⟨u, k a u e⟩⟩
  exact (List.getElem?_append_left (List.getElem?_eq_some_iff.mp q).1).trans q
theorem Rel.grow {p : Addr} {c : Cell} {o : HO} (R : Rel G B W) (h : W.H p = none) (new : CellOk G B (W.grow p c o) p c) : Rel G B (W.grow p c o) := by
  have x : Ext W (W.grow p c o) := Ext.grow R.len h
  have hp : p ∉ W.r := fun z => by
    obtain ⟨n, hn, e⟩ := List.mem_iff_getElem.mp z
    obtain ⟨u, e2⟩ := R.there (n := n) (a := p) (by rw [List.getElem?_eq_getElem hn, e])
    rw [h] at e2; cases e2
  have old : ∀ (n : Nat) (a : Addr) (c' : Cell), (W.grow p c o).r[n]? = some a → (W.grow p c o).st[n]? = some c' → (W.r[n]? = some a ∧ W.st[n]? = some c') ∨ (a = p ∧ c' = c) := fun n a c' h1 h2 => by
    have l := R.len
    by_cases hn : n < W.r.length
    · exact .inl ⟨(List.getElem?_append_left hn).symm.trans h1, (List.getElem?_append_left (by omega)).symm.trans h2⟩
    · have e1 : [p][n - W.r.length]? = some a := (List.getElem?_append_right (by omega)).symm.trans h1
      have e2 : [c][n - W.st.length]? = some c' := (List.getElem?_append_right (by omega)).symm.trans h2
      have z : n - W.r.length = 0 := by
        have := (List.getElem?_eq_some_iff.mp e1).1
        simp only [List.length_cons, List.length_nil] at this
        omega
      rw [z] at e1
      rw [← l, z] at e2
      exact .inr ⟨(Option.some.inj e1).symm, (Option.some.inj e2).symm⟩
  refine ⟨by simp [Wd.grow, R.len], ?_, fun a ha => ?_, fun n a c' h1 h2 h3 => ?_, fun n a c' h1 h2 => ?_⟩
  · exact List.nodup_append.mpr ⟨R.nd, by simp, fun a ha b hb e => hp (by rw [List.mem_singleton] at hb; rw [← hb, ← e]; exact ha)⟩
  · obtain ⟨u, e⟩ := R.ban a ha
    exact ⟨u, (upd_ne (ne_of_none e h)).trans e⟩
  · rcases old n a c' h1 h2 with ⟨q1, q2⟩ | ⟨rfl, rfl⟩
    · exact R.sep n a c' q1 q2 h3
    · exact fun z => R.free h (.inl z)
  · rcases old n a c' h1 h2 with ⟨q1, q2⟩ | ⟨rfl, rfl⟩
    · obtain ⟨u, e⟩ := R.there q1
      exact (R.cell n a c' q1 q2).ext R x (upd_ne (ne_of_none e h))
    · exact new
theorem Rel.growL {p : Addr} (R : Rel G B W) (h : W.H p = none) {vs : List V} {ds : List D} (t : Reps G B W vs ds) : Rel G B (W.grow p (.lst ds) (.lst vs)) := R.grow h ⟨vs, upd_same, Reps.ext R (Ext.grow R.len h) _ _ t⟩
theorem Rep.grown {p : Addr} {c : Cell} {o : HO} (l : W.r.length = W.st.length) : Rep G B (W.grow p c o) (.ref p) (.loc W.st.length) := .loc (by rw [← l]; exact List.getElem?_concat_length)
/-- a cell changes -/
def Wd.put (W : Wd) (n : Nat) (c : Cell) (a : Addr) (o : HO) : Wd := ⟨W.r, W.st.set n c, upd W.H a o⟩
theorem Ext.put {n : Nat} {a : Addr} {c c' : Cell} {o : HO} (l : W.r.length = W.st.length) (hr : W.r[n]? = some a) (hs : W.st[n]? = some c) (hc : c ≠ Cell.dead) : Ext W (W.put n c' a o) := by
  have al : Al W a := ⟨n, c, hr, hs, hc⟩
  refine ⟨l, by simp [Wd.put], ⟨[], by simp [Wd.put], by simp⟩, fun m q => ?_, fun b u e z => ?_, fun b u e => ?_⟩
  · by_cases h : n = m
    · subst h
      rw [hs] at q
      exact (hc (Option.some.inj q)).elim
    · exact (List.getElem?_set_ne h).trans q
  · exact (upd_ne fun w => z (by rw [w]; exact al)).trans e
  · by_cases h : b = a
    · exact ⟨o, by subst h; exact upd_same⟩
    · exact ⟨u, (upd_ne h).trans e⟩
theorem Rel.put {n : Nat} {a : Addr} {c c' : Cell} {o : HO} (R : Rel G B W) (hr : W.r[n]? = some a) (hs : W.st[n]? = some c) (hc : c ≠ Cell.dead) (new : CellOk G B (W.put n c' a o) a c') : Rel G B (W.put n c' a o) := by
  have x : Ext W (W.put n c' a o) := Ext.put R.len hr hs hc
  refine ⟨by simp [Wd.put, R.len], R.nd, fun b hb => ?_, fun m b c2 h1 h2 h3 => ?_, fun m b c2 h1 h2 => ?_⟩
  · obtain ⟨u, e⟩ := R.ban b hb
    exact x.dom b u e
  · by_cases h : n = m
    · subst h
      have e : b = a := Option.some.inj (h1.symm.trans hr)
      subst e
      exact R.sep n b c hr hs hc
    · exact R.sep m b c2 h1 ((List.getElem?_set_ne h).symm.trans h2) h3
  · by_cases h : n = m
    · subst h
      have e : b = a := Option.some.inj (h1.symm.trans hr)
      subst e
      have e2 : c2 = c' := by
        have hn := (List.getElem?_eq_some_iff.mp hs).1
        exact Option.some.inj (h2.symm.trans (List.getElem?_set_self hn))
      subst e2
      exact new
    · have nb : b ≠ a := fun e => h (nd_ix R.nd hr (by rw [← e]; exact h1))
      exact (R.cell m b c2 h1 ((List.getElem?_set_ne h).symm.trans h2)).ext R x (upd_ne nb)
theorem Rel.putL {n : Nat} {a : Addr} {c : Cell} (R : Rel G B W) (hr : W.r[n]? = some a) (hs : W.st[n]? = some c) (hc : c ≠ Cell.dead) {vs : List V} {ds : List D} (t : Reps G B W vs ds) : Rel G B (W.put n (.lst ds) a (.lst vs)) :=
  R.put hr hs hc ⟨vs, upd_same, Reps.ext R (Ext.put R.len hr hs hc) _ _ t⟩
end
section
variable {X : Cx} {G : Cn} {E : ES}
theorem ja_nil : PA X [] (tA G E mNil) := PA.weak pa_nil fun _ _ _ ⟨_, _, _, e, R, _, o⟩ => by subst e; exact o.ret R _ .nil
theorem ja_cons {e : Expr} {es : List Expr} {m : M D} {ms : M (List D)} (ha : PE X e (tE G E m)) (hr : PA X es (tA G E ms)) (hs : starEach (e :: es) X.env = (false, eval e X.env) :: starEach es X.env := by rfl) : PA X (e :: es) (tA G E (mCons m ms)) := by
  refine PA.weak (pa_cons ha hr hs) fun σ H Q ⟨B, W, env, e, R, S, o⟩ => ?_
  subst e
  refine tE_of R S o fun d W1 v x1 R1 S1 r1 o1 => ?_
  refine tA_of R1 S1 o1 fun ds W2 vs x2 R2 S2 r2 o2 => ?_
  exact o2.ret R2 _ (.cons (Rep.ext R1 x2 _ _ r1) r2)
theorem je_tup {es : List Expr} {ms : M (List D)} {x1 pos} (h : PA X es (tA G E ms)) : PE X (.Tuple es x1 pos) (tE G E (mTup ms)) := by
  refine PE.weak (pe_tup h) fun σ H Q ⟨B, W, env, e, R, S, o⟩ => ?_
  subst e
  refine tA_of R S o fun ds W1 vs x1 R1 S1 r1 o1 => ?_
  by_cases c : ds.length ≤ sizeLine
  · simp only [if_pos c] at o1
    exact ⟨by rw [r1.length]; exact c, fun p hp => o1.tupN R1 hp vs _ (.newT R1 hp r1)⟩
  · simp only [if_neg c] at o1
    exact o1.elim
theorem je_lst {es : List Expr} {ms : M (List D)} {pos} (h : PA X es (tA G E ms)) : PE X (.List es pos) (tE G E (mLst ms)) := by
  refine PE.weak (pe_lst h) fun σ H Q ⟨B, W, env, e, R, S, o⟩ => ?_
  subst e
  refine tA_of R S o fun ds W1 vs x1 R1 S1 r1 o1 => ?_
  by_cases c : ds.length ≤ sizeLine
  · simp only [if_pos c] at o1
    exact ⟨by rw [r1.length]; exact c, fun p hp => o1.lstN R1 hp vs _ (.newL R1 hp r1)⟩
  · simp only [if_neg c] at o1
    exact o1.elim
theorem je_lstC {es : List Expr} {ms : M (List D)} {pos} (h : PA X es (tA G E ms)) : PE X (.List es pos) (tE G E (mLstC ms)) := by
  refine PE.weak (pe_lst h) fun σ H Q ⟨B, W, env, e, R, S, o⟩ => ?_
  subst e
  refine tA_of R S o fun ds W1 vs x1 R1 S1 r1 o1 => ?_
  by_cases c : ds.length ≤ sizeLine
  · simp only [if_pos c] at o1
    exact ⟨by rw [r1.length]; exact c, fun p hp => o1 (W1.grow p (.lst ds) (.lst vs)) (Ext.grow R1.len hp) (R1.growL hp r1) rfl _ (.grown R1.len)⟩
  · simp only [if_neg c] at o1
    exact o1.elim
/-! ### truth -/
def tru (st : Store) (d : D) : Option Bool := match d with
  | .non => some false
  | .bl b => some b
  | .int i => some (i != 0)
  | .str x => if x.length ≤ sizeLine then some ((x.length : Int) != 0) else none
  | .dct ks _ => some (!ks.isEmpty)
  | d => (asS st d).map fun xs => !xs.isEmpty
theorem isEmpty_reps {B : Addr → Prop} {W : Wd} {vs : List V} {ds : List D} (t : Reps G B W vs ds) : (!vs.isEmpty) = !ds.isEmpty := by cases t <;> rfl
theorem Rep.tru {B : Addr → Prop} {W : Wd} {v : V} {d : D} {b : Bool} (R : Rel G B W) (r : Rep G B W v d) (e : DL.tru W.st d = some b) : TruV G.K v W.H b := by
  have seq : (DL.asS W.st d).map (fun xs => !xs.isEmpty) = some b → TruV G.K v W.H b := fun e => by
    obtain ⟨xs, e1, e2⟩ := Option.map_eq_some_iff.mp e
    obtain ⟨a, vs, rfl, h, t⟩ := r.asS R e1
    rcases h with h | h
    · exact .inl ⟨vs, h, by rw [isEmpty_reps t]; exact e2.symm⟩
    · exact .inr (.inl ⟨vs, h, by rw [isEmpty_reps t]; exact e2.symm⟩)
  cases d with
  | non => cases r; cases e; rfl
  | bl b => cases r; cases e; rfl
  | int i => cases r; cases e; rfl
  | str x =>
    cases r
    unfold DL.tru at e
    by_cases c : x.length ≤ sizeLine
    · simp only [if_pos c] at e
      exact ⟨c, (Option.some.inj e).symm⟩
    · simp only [if_neg c] at e
      cases e
  | dct ks ds =>
    cases r with
    | @dct a kvs _ _ h n e1 t =>
      cases e
      refine .inr (.inr ⟨kvs, h, ?_⟩)
      subst e1
      cases kvs <;> rfl
  | _ => exact seq e
def mTru (m : M D) : M Bool := fun env st => (m env st).bind fun d s => match tru s d with
  | some b => .ok b s
  | none => .bad
theorem jt_tru {e : Expr} {m : M D} (hK : G.K = X.K) (h : PE X e (tE G E m)) (he : ∀ whole, isTrue e X.env whole = (do let v ← whole; standAt e.pos; holding [v] (truthy v)) := by intro _; rfl) : PT X e (tT G E (mTru m)) := by
  refine PT.weak (pt_truth h he) fun σ H Q ⟨B, W, env, e, R, S, o⟩ => ?_
  subst e
  refine tE_of R S o fun d W1 v x1 R1 S1 r1 o1 => ?_
  cases q : tru W1.st d with
  | none => simp only [q] at o1; exact o1.elim
  | some b =>
    simp only [q] at o1
    exact ⟨b, by rw [← hK]; exact r1.tru R1 q, o1.ret R1⟩
/-! ### and, or, not -/
def mAndT (a b : M Bool) : M Bool := fun env st => (a env st).bind fun c s => if c then b env s else .ok false s
def mOrT (a b : M Bool) : M Bool := fun env st => (a env st).bind fun c s => if c then .ok true s else b env s
def mNotT (a : M Bool) : M Bool := fun env st => (a env st).bind fun c s => .ok (!c) s
section
variable {a b : Expr} {rest : List Expr} {pos : Pos} {ma mb : M Bool} {va vb : M D}
theorem PW.weak {e : Expr} {t t' : TT} (h : PW X e t) (i : ∀ σ H Q, t' σ H Q → t σ H Q) : PW X e t' := ⟨fun wh pins s σ H Q I q => h.run wh pins s σ H Q I (i σ H Q q)⟩
theorem jw_and1 (ha : PT X a (tT G E ma)) : PW X (.BoolOp .And [a] pos) (tT G E ma) := pw_and1 ha
theorem jw_or1 (ha : PT X a (tT G E ma)) : PW X (.BoolOp .Or [a] pos) (tT G E ma) := pw_or1 ha
theorem jw_and (ha : PT X a (tT G E ma)) (hb : PW X (.BoolOp .And (b :: rest) pos) (tT G E mb)) : PW X (.BoolOp .And (a :: b :: rest) pos) (tT G E (mAndT ma mb)) := by
  refine PW.weak (pw_and ha hb) fun σ H Q ⟨B, W, env, e, R, S, o⟩ => ?_
  subst e
  refine tT_of R S o fun c W1 x1 R1 S1 o1 => ?_
  cases c with
  | true => exact ⟨B, W1, env, rfl, R1, S1, o1⟩
  | false => exact o1.ret R1
theorem jw_or (ha : PT X a (tT G E ma)) (hb : PW X (.BoolOp .Or (b :: rest) pos) (tT G E mb)) : PW X (.BoolOp .Or (a :: b :: rest) pos) (tT G E (mOrT ma mb)) := by
  refine PW.weak (pw_or ha hb) fun σ H Q ⟨B, W, env, e, R, S, o⟩ => ?_
  subst e
  refine tT_of R S o fun c W1 x1 R1 S1 o1 => ?_
  cases c with
  | false => exact ⟨B, W1, env, rfl, R1, S1, o1⟩
  | true => exact o1.ret R1
theorem jt_not (ha : PT X a (tT G E ma)) : PT X (.UnaryOp .Not a pos) (tT G E (mNotT ma)) := by
  refine PT.weak (pt_not ha) fun σ H Q ⟨B, W, env, e, R, S, o⟩ => ?_
  subst e
  exact tT_of R S o fun c W1 x1 R1 S1 o1 => o1.ret R1
/-- .. as values: bools -/
def mAnd (a b : M D) : M D := fun env st => (a env st).bind fun x s => match x with
  | .bl true => b env s
  | .bl false => .ok (.bl false) s
  | _ => .bad
def mOr (a b : M D) : M D := fun env st => (a env st).bind fun x s => match x with
  | .bl true => .ok (.bl true) s
  | .bl false => b env s
  | _ => .bad
def mNot (a : M D) : M D := fun env st => (a env st).bind fun x s => match tru s x with
  | some b => .ok (.bl (!b)) s
  | none => .bad
theorem je_one {op} (h : PE X a (tE G E va)) : PE X (.BoolOp op [a] pos) (tE G E va) := pe_one h
theorem je_and (ha : PE X a (tE G E va)) (hb : PE X (.BoolOp .And (b :: rest) pos) (tE G E vb)) : PE X (.BoolOp .And (a :: b :: rest) pos) (tE G E (mAnd va vb)) := by
  refine PE.weak (pe_and ha hb) fun σ H Q ⟨B, W, env, e, R, S, o⟩ => ?_
  subst e
  refine tE_of R S o fun d W1 v x1 R1 S1 r1 o1 => ?_
  cases d with
  | bl c =>
    cases r1
    refine ⟨c, rfl, ?_⟩
    cases c with
    | true => exact ⟨B, W1, env, rfl, R1, S1, o1⟩
    | false => exact o1.ret R1 _ (.bl _)
  | _ => exact o1.elim
theorem je_or (ha : PE X a (tE G E va)) (hb : PE X (.BoolOp .Or (b :: rest) pos) (tE G E vb)) : PE X (.BoolOp .Or (a :: b :: rest) pos) (tE G E (mOr va vb)) := by
  refine PE.weak (pe_or ha hb) fun σ H Q ⟨B, W, env, e, R, S, o⟩ => ?_
  subst e
  refine tE_of R S o fun d W1 v x1 R1 S1 r1 o1 => ?_
  cases d with
  | bl c =>
    cases r1
    refine ⟨c, rfl, ?_⟩
    cases c with
    | false => exact ⟨B, W1, env, rfl, R1, S1, o1⟩
    | true => exact o1.ret R1 _ (.bl _)
  | _ => exact o1.elim
theorem je_not (hK : G.K = X.K) (ha : PE X a (tE G E va)) : PE X (.UnaryOp .Not a pos) (tE G E (mNot va)) := by
  refine PE.weak (pe_notT ha) fun σ H Q ⟨B, W, env, e, R, S, o⟩ => ?_
  subst e
  refine tE_of R S o fun d W1 v x1 R1 S1 r1 o1 => ?_
  cases q : tru W1.st d with
  | none => simp only [q] at o1; exact o1.elim
  | some b =>
    simp only [q] at o1
    exact ⟨b, by rw [← hK]; exact r1.tru R1 q, o1.ret R1 _ (.bl _)⟩
/-- -e -/
def mNeg (a : M D) : M D := fun env st => (a env st).bind fun x s => match x with
  | .int i => .ok (.int (-i)) s
  | _ => .bad
theorem je_neg (ha : PE X a (tE G E va)) : PE X (.UnaryOp .USub a pos) (tE G E (mNeg va)) := by
  refine PE.weak (pe_un un_neg ha) fun σ H Q ⟨B, W, env, e, R, S, o⟩ => ?_
  subst e
  refine tE_of R S o fun d W1 v x1 R1 S1 r1 o1 => ?_
  cases d with
  | int i => cases r1; exact ⟨i, rfl, o1.ret R1 _ (.int _)⟩
  | _ => exact o1.elim
/-- a if c else b -/
def mIf (c : M Bool) (a b : M D) : M D := fun env st => (c env st).bind fun k s => if k then a env s else b env s
theorem je_if {c : Expr} {mc : M Bool} (hc : PT X c (tT G E mc)) (ha : PE X a (tE G E va)) (hb : PE X b (tE G E vb)) : PE X (.IfExp c a b pos) (tE G E (mIf mc va vb)) := by
  refine PE.weak (pe_ifExp hc ha hb) fun σ H Q ⟨B, W, env, e, R, S, o⟩ => ?_
  subst e
  refine tT_of R S o fun k W1 x1 R1 S1 o1 => ?_
  cases k with
  | true => exact ⟨B, W1, env, rfl, R1, S1, o1⟩
  | false => exact ⟨B, W1, env, rfl, R1, S1, o1⟩
/-- a op b op' c -/
def mChain (f f' : D → D → Store → R D) (a b c : M D) : M D := fun env st => (a env st).bind fun x s1 => (b env s1).bind fun y s2 => (f x y s2).bind fun z s3 => match z with
  | .bl true => (c env s3).bind fun w s4 => f' y w s4
  | .bl false => .ok (.bl false) s3
  | _ => .bad
theorem chain2 {r r' : R2} {f f' : D → D → Store → R D} {vc : M D} (hs : OpS G r f) (hs' : OpS G r' f') {σ : L2.St} {H : Hp} {Q : VK} (h : tE G E (mChain f f' va vb vc) σ H Q) : tChain r r' (tE G E va) (tE G E vb) (tE G E vc) σ H Q := by
  obtain ⟨B, W, env, rfl, R, S, o⟩ := h
  refine tE_of R S o fun x W1 v x1 R1 S1 r1 o1 => ?_
  refine tE_of R1 S1 o1 fun y W2 u x2 R2 S2 r2 o2 => ?_
  have r1' := Rep.ext R1 x2 _ _ r1
  refine hs R2 r1' r2 (o2.bind.imp fun z W3 x3 R3 o3 zv rz => ?_)
  have S3 := S2.ext R2 x3
  cases z with
  | bl k =>
    cases rz
    refine ⟨k, rfl, ?_⟩
    cases k with
    | true => exact tE_of (Q := fun zz H4 => r' u zz H4 Q) R3 S3 o3 fun t W4 tv x4 R4 S4 r4 o4 => hs' R4 (Rep.ext R2 (x3.trans x4) _ _ r2) r4 o4
    | false => exact o3.ret R3 _ (.bl _)
  | _ => exact o3.elim
theorem je_chain {c : Expr} {op op' : CmpOp} {r r' : R2} {f f' : D → D → Store → R D} {vc : M D} (ho : OpR X (compareOp op) r) (ho' : OpR X (compareOp op') r') (hs : OpS G r f) (hs' : OpS G r' f') (ha : PE X a (tE G E va)) (hb : PE X b (tE G E vb)) (hc : PE X c (tE G E vc))
    (hm : lastMarks [op, op'] [b, c] = false := by with_unfolding_all rfl) : PE X (.Compare a [op, op'] [b, c] pos) (tE G E (mChain f f' va vb vc)) :=
  PE.weak (pe_chain ho ho' ha hb hc hm) fun _ _ _ h => chain2 hs hs' h
theorem jt_chain {c : Expr} {op op' : CmpOp} {r r' : R2} {f f' : D → D → Store → R D} {vc : M D} (ho : OpR X (compareOp op) r) (ho' : OpR X (compareOp op') r') (hs : OpS G r f) (hs' : OpS G r' f') (ha : PE X a (tE G E va)) (hb : PE X b (tE G E vb)) (hc : PE X c (tE G E vc))
    (hm : lastMarks [op, op'] [b, c] = false := by with_unfolding_all rfl) : PT X (.Compare a [op, op'] [b, c] pos) (tT G E (mTest (mChain f f' va vb vc))) := by
  refine PT.weak (pt_chain ho ho' ha hb hc hm) fun σ H Q ⟨B, W, env, e, R, S, o⟩ => ?_
  subst e
  refine chain2 (f := f) (f' := f') hs hs' ?_
  refine tE_of R S o fun d W1 v x1 R1 S1 r1 o1 => ?_
  cases d with
  | bl b => cases r1; exact ⟨b, rfl, o1.ret R1⟩
  | _ => exact o1.elim
end
end
end DL

set_option maxHeartbeats 2000000
/-! DL5: a def's promise over trees; calls, methods, fields, properties, new objects. -/
namespace DL
open PySem PySem.Spec PyProof.Rows L2

/-! ### data without cells -/
mutual
def D.noLoc : D → Bool
  | .tup xs => D.noLocs xs
  | .lst xs => D.noLocs xs
  | .fro xs => D.noLocs xs
  | .dct _ vs => D.noLocs vs
  | .obj _ _ vs => D.noLocs vs
  | .loc _ => false
  | .exn _ _ _ => false
  | .non => true
  | .bl _ => true
  | .int _ => true
  | .str _ => true
def D.noLocs : List D → Bool
  | [] => true
  | d :: ds => d.noLoc && D.noLocs ds
end
section
variable {G : Cn} {B B' : Addr → Prop} {W W' : Wd}
/- to another world that has all objects -/
mutual
theorem Rep.conv (h1 : ∀ a o, W.H a = some o → W'.H a = some o) (h2 : ∀ a o, W.H a = some o → ¬ Mu B W a → ¬ Mu B' W' a) : ∀ (d : D) (v : V), d.noLoc = true → Rep G B W v d → Rep G B' W' v d
  | .non, _, _, h => by cases h; exact .non
  | .bl b, _, _, h => by cases h; exact .bl b
  | .int i, _, _, h => by cases h; exact .int i
  | .str i, _, _, h => by cases h; exact .str i
  | .tup ds, _, n, h => by
    cases h with
    | tup h t =>
      refine .tup ?_ (Reps.conv h1 h2 ds _ n t)
      rcases h with (h | ⟨o, h⟩) | h
      · exact .inl (.inl (h1 _ _ h))
      · exact .inl (.inr ⟨o, h1 _ _ h⟩)
      · exact .inr h
  | .lst ds, _, n, h => by
    cases h with
    | lst h m t => exact .lst (h1 _ _ h) (h2 _ _ h m) (Reps.conv h1 h2 ds _ n t)
  | .fro ds, _, n, h => by
    cases h with
    | fro h t =>
      refine .fro ?_ (Reps.conv h1 h2 ds _ n t)
      rcases h with ⟨o, h⟩ | h
      · exact .inl ⟨o, h1 _ _ h⟩
      · exact .inr h
  | .dct ks ds, _, n, h => by
    cases h with
    | dct h m e t => exact .dct (h1 _ _ h) (h2 _ _ h m) e (Reps.conv h1 h2 ds _ n t)
  | .obj c ns ds, _, n, h => by
    cases h with
    | obj h m e t => exact .obj (h1 _ _ h) (h2 _ _ h m) e (Reps.conv h1 h2 ds _ n t)
  | .loc _, _, n, _ => by cases n
  | .exn _ _ _, _, n, _ => by cases n
theorem Reps.conv (h1 : ∀ a o, W.H a = some o → W'.H a = some o) (h2 : ∀ a o, W.H a = some o → ¬ Mu B W a → ¬ Mu B' W' a) : ∀ (ds : List D) (vs : List V), D.noLocs ds = true → Reps G B W vs ds → Reps G B' W' vs ds
  | [], _, _, h => by cases h; exact .nil
  | d :: ds, _, n, h => by
    cases h with
    | cons h t =>
      obtain ⟨n1, n2⟩ := Bool.and_eq_true_iff.mp n
      exact .cons (Rep.conv h1 h2 d _ n1 h) (Reps.conv h1 h2 ds _ n2 t)
end
end
/-! ### the promise -/
abbrev Fn := List D → Store → R D
def spOf (G : Cn) (n : Nat) (fn : Fn) : Sp := fun vs H Q E => vs.length = n ∧ ∃ B W ds, W.H = H ∧ Rel G B W ∧ Reps G B W vs ds ∧ Out G B W E (fn ds W.st) fun d W' => ∀ v, Rep G B W' v d → Q v W'.H
/-- a call of its own world: no cell goes in or out -/
def pureF (fn : Fn) : Fn := fun ds st => if D.noLocs ds = true then (match fn ds [] with
  | .ok d _ => if d.noLoc = true then .ok d st else .bad
  | .exc e _ => if D.noLocs e.vs = true then .exc e st else .bad
  | .bad => .bad) else .bad
section
variable {G : Cn} {B : Addr → Prop} {W W2 : Wd} {E : XK}
/-- behind such a call: the same cells over the new heap -/
def Wd.over (W : Wd) (H : Hp) : Wd := ⟨W.r, W.st, H⟩
theorem Ext.over {H : Hp} (l : W.r.length = W.st.length) (k : ∀ a o, W.H a = some o → H a = some o) : Ext W (W.over H) := ⟨l, Nat.le_refl _, ⟨[], by simp [Wd.over], by simp⟩, fun _ q => q, fun a o e _ => k a o e, fun a o e => ⟨o, k a o e⟩⟩
theorem idH : ∀ a o, W2.H a = some o → (W.over W2.H).H a = some o := fun _ _ h => h
theorem Rel.over {H : Hp} (R : Rel G B W) (k : ∀ a o, W.H a = some o → H a = some o) : Rel G B (W.over H) := by
  refine ⟨R.len, R.nd, fun a ha => ?_, R.sep, fun n a c h1 h2 => ?_⟩
  · obtain ⟨o, e⟩ := R.ban a ha
    exact ⟨o, k a o e⟩
  · obtain ⟨o, e⟩ := R.there h1
    exact (R.cell n a c h1 h2).ext R (Ext.over R.len k) ((k a o e).trans e.symm)
theorem RepX.conv {B' : Addr → Prop} {W' : Wd} {cls : Value} {dd : Option Addr} {e : Ex} (h1 : ∀ a o, W.H a = some o → W'.H a = some o) (h2 : ∀ a o, W.H a = some o → ¬ Mu B W a → ¬ Mu B' W' a) (n : D.noLocs e.vs = true) (x : RepX G B W cls dd e) : RepX G B' W' cls dd e := by
  obtain ⟨e1, h⟩ := x
  refine ⟨e1, ?_⟩
  rcases h with h | ⟨a, fs, h3, h4, h5, h6⟩
  · exact .inl h
  · exact .inr ⟨a, fs, h3, h1 _ _ h4, h5, Reps.conv h1 h2 _ _ n h6⟩
theorem sp_pure {n : Nat} {fn : Fn} : ∀ vs H Q E, spOf G n (pureF fn) vs H Q E → spOf G n fn vs H Q E := by
  rintro vs H Q E ⟨hl, B, W, ds, rfl, R, rv, o⟩
  unfold pureF at o
  by_cases hn : D.noLocs ds = true
  · rw [if_pos hn] at o
    have k1 : ∀ a o, W.H a = some o → (⟨[], [], W.H⟩ : Wd).H a = some o := fun _ _ h => h
    have noAl : ∀ a, ¬ Al ⟨[], [], W.H⟩ a := fun a ⟨n, c, h, _⟩ => by simp at h
    refine ⟨hl, Mu B W, ⟨[], [], W.H⟩, ds, rfl, ⟨rfl, List.nodup_nil, fun a ha => ?_, fun n a c h => by simp at h, fun n a c h => by simp at h⟩, Reps.conv k1 (fun a o _ hm z => ?_) ds vs hn rv, ?_⟩
    · rcases ha with ha | ha
      · exact R.ban a ha
      · obtain ⟨o, e, _⟩ := R.al ha
        exact ⟨o, e⟩
    · rcases z with z | z
      · exact hm z
      · exact noAl a z
    · have keep : ∀ {W2 : Wd}, Ext ⟨[], [], W.H⟩ W2 → ∀ a o, W.H a = some o → W2.H a = some o := fun x a o e => x.keep a o e (noAl a)
      have back : ∀ {W2 : Wd} (a : Addr) (o : HO), W2.H a = some o → ¬ Mu (Mu B W) W2 a → ¬ Mu B (W.over W2.H) a := fun a o _ hm z => hm (.inl z)
      show Out G (Mu B W) ⟨[], [], W.H⟩ E (fn ds []) _
      cases q : fn ds [] with
      | ok d s =>
        simp only [q] at o
        by_cases hd : d.noLoc = true
        · rw [if_pos hd] at o
          exact fun W2 x R2 _ v rv2 => o (W.over W2.H) (Ext.over R.len (keep x)) (R.over (keep x)) rfl v (Rep.conv idH back d v hd rv2)
        · rw [if_neg hd] at o
          exact o.elim
      | exc e s =>
        simp only [q] at o
        by_cases hd : D.noLocs e.vs = true
        · rw [if_pos hd] at o
          exact fun cls dd W2 x R2 _ rx => o cls dd (W.over W2.H) (Ext.over R.len (keep x)) (R.over (keep x)) rfl (rx.conv idH back hd)
        · rw [if_neg hd] at o
          exact o.elim
      | bad =>
        simp only [q] at o
        exact o.elim
  · rw [if_neg hn] at o
    exact o.elim
end
/-! ### calls -/
def mCall (f : Fn) (ms : M (List D)) : M D := fun env st => (ms env st).bind f
def CallS (G : Cn) (r : List V → Hp → VK → Prop) (f : Fn) : Prop := ∀ ⦃B : Addr → Prop⦄ ⦃W : Wd⦄ ⦃E : XK⦄ ⦃ds : List D⦄ ⦃vs : List V⦄ ⦃Q : VK⦄, Rel G B W → Reps G B W vs ds → Out G B W E (f ds W.st) (fun d W' => ∀ z, Rep G B W' z d → Q z W'.H) → r vs W.H Q
section
variable {X : Cx} {G : Cn} {E : ES} {x : Str} {p pos apos : Pos} {e o : Expr} {es : List Expr} {ms : M (List D)} {fn : Fn} {mo : M D}
theorem je_callB {id : String} {r : List V → Hp → VK → Prop} (hc : CallR X (.builtin id) r) (hs : CallS G r fn) (hg : Gl X x) (hm : X.mg x = none) (hv : bootBuiltins x = some (.builtin id)) (ha : PA X (e :: es) (tA G E ms)) (hn : x ≠ "__name__" := by decide) (hdb : (x == ("__debug__" : Str)) = false := by decide)
    (he : starEach (e :: es) X.env = (false, eval e X.env) :: starEach es X.env := by rfl) (hpl : (backTo pos (starEach es X.env)).any (·.1) = false := by rfl) : PE X (.Call (.Name x p) (e :: es) [] pos) (tE G E (mCall fn ms)) := by
  refine PE.weak (pe_callB hc hg hm hv ha hn hdb he hpl) fun σ H Q ⟨B, W, env, e, R, S, o⟩ => ?_
  subst e
  exact tA_of R S o fun ds W1 vs x1 R1 S1 r1 o1 => hs R1 r1 o1
theorem je_callT {T : String} {r : List V → Hp → VK → Prop} (hc : CallR X (.type T) r) (hs : CallS G r fn) (hg : Gl X x) (hm : X.mg x = none) (hv : bootBuiltins x = some (.type T)) (ha : PA X (e :: es) (tA G E ms)) (hn : x ≠ "__name__" := by decide) (hdb : (x == ("__debug__" : Str)) = false := by decide)
    (he : starEach (e :: es) X.env = (false, eval e X.env) :: starEach es X.env := by rfl) (hpl : (backTo pos (starEach es X.env)).any (·.1) = false := by rfl) : PE X (.Call (.Name x p) (e :: es) [] pos) (tE G E (mCall fn ms)) := by
  refine PE.weak (pe_callTy hc hg hm hv ha hn hdb he hpl) fun σ H Q ⟨B, W, env, e, R, S, o⟩ => ?_
  subst e
  exact tA_of R S o fun ds W1 vs x1 R1 S1 r1 o1 => hs R1 r1 o1
theorem sp_go {n : Nat} {E : XK} {B : Addr → Prop} {W : Wd} {vs : List V} {ds : List D} {Q : VK} (hn : ds.length = n) (R : Rel G B W) (r : Reps G B W vs ds) (o : Out G B W E (fn ds W.st) fun d W' => ∀ v, Rep G B W' v d → Q v W'.H) : spOf G n fn vs W.H Q E :=
  ⟨r.length.trans hn, B, W, ds, rfl, R, r, o⟩
/-- so many arguments -/
def ar (n : Nat) (fn : Fn) : Fn := fun ds st => if ds.length = n then fn ds st else .bad
theorem sp_ar {n : Nat} {E : XK} {B : Addr → Prop} {W : Wd} {vs : List V} {ds : List D} {Q : VK} (R : Rel G B W) (r : Reps G B W vs ds) (o : Out G B W E (ar n fn ds W.st) fun d W' => ∀ v, Rep G B W' v d → Q v W'.H) : spOf G n fn vs W.H Q E := by
  unfold ar at o
  by_cases c : ds.length = n
  · rw [if_pos c] at o
    exact sp_go c R r o
  · rw [if_neg c] at o
    exact o.elim
variable {k n : Nat} {f C : Addr} {fd : FuncData} {ps : List Str} {m : Str}
/-- f(e, ..) -/
theorem je_call (F : FnG X.prog X.w X.K X.mg X.base k f fd ps (spOf G n fn)) (rm : Rm k X.A) (hg : Gl X x) (hm : X.mg x = some (.ref f)) (hk : PySem.W.keepIn X.K (.ref f) = true) (hb : Binds X.K fd ps []) (hx : Pss X E) (ha : PA X (e :: es) (tA G E ms))
    (hdb : (x == ("__debug__" : Str)) = false := by decide) (he : starEach (e :: es) X.env = (false, eval e X.env) :: starEach es X.env := by rfl) (hpl : (backTo pos (starEach es X.env)).any (·.1) = false := by rfl) : PE X (.Call (.Name x p) (e :: es) [] pos) (tE G E (mCall (ar n fn) ms)) := by
  refine PE.weak (gCall F rm hg hm hk hb .nil hx ha hdb he hpl) fun σ H Q ⟨B, W, env, e, R, S, o⟩ => ?_
  subst e
  exact tA_of R S o fun ds W1 vs x1 R1 S1 r1 o1 => by rw [List.append_nil]; exact sp_ar R1 r1 o1
theorem je_call0 (F : FnG X.prog X.w X.K X.mg X.base k f fd ps (spOf G n fn)) (rm : Rm k X.A) (hg : Gl X x) (hm : X.mg x = some (.ref f)) (hk : PySem.W.keepIn X.K (.ref f) = true) (hb : Binds X.K fd ps []) (hx : Pss X E)
    (hdb : (x == ("__debug__" : Str)) = false := by decide) : PE X (.Call (.Name x p) [] [] pos) (tE G E (mCall (ar n fn) mNil)) := by
  refine PE.weak (gCall0 F rm hg hm hk hb .nil hx hdb) fun σ H Q ⟨B, W, env, e, R, S, o⟩ => ?_
  subst e
  exact sp_ar R .nil o
theorem je_stat0 {pp : Addr} {p2 : Pos} {pl : Sem Bool} (hg : Gl X x) (hm : X.mg x = some (.ref C)) (T : Stat X.K C m pp f) (F : FnG X.prog X.w X.K X.mg X.base k f fd ps (spOf G n fn)) (rm : Rm k X.A) (hb : Binds X.K fd ps []) (hx : Pss X E)
    (ht : eval (.Call (.Attribute (.Name x p2) m apos) [] [] pos) X.env = (do
      let ov ← eval (.Name x p2) X.env
      standAt apos.atName
      let (g, first) ← holding [ov] (getMethod ov m pl)
      callWith pos g first (backTo pos (starEach [] X.env)) (backToKw pos (keywordEach [] X.env))) := by rfl) (hdb : (x == ("__debug__" : Str)) = false := by decide) : PE X (.Call (.Attribute (.Name x p2) m apos) [] [] pos) (tE G E (mCall (ar n fn) mNil)) := by
  refine PE.weak (gStat0 (pl := pl) hg hm T F rm hb .nil hx ht hdb) fun σ H Q ⟨B, W, env, e, R, S, o⟩ => ?_
  subst e
  exact sp_ar R .nil o
/-! ### instances -/
def insOf (st : Store) : D → Option (Str × List Str × List D)
  | .obj c ns vs => some (c, ns, vs)
  | .loc n => match st[n]? with
    | some (.ins c ns vs) => some (c, ns, vs)
    | _ => none
  | _ => none
theorem Rep.ins {B : Addr → Prop} {W : Wd} {v : V} {d : D} {c : Str} {ns : List Str} {vs : List D} (R : Rel G B W) (r : Rep G B W v d) (e : insOf W.st d = some (c, ns, vs)) :
    ∃ a dx fs, v = .ref a ∧ W.H a = some (.ins (G.cl c) dx fs) ∧ fs.map (·.1) = ns ∧ Reps G B W (fs.map (·.2)) vs := by
  cases r with
  | obj h n e1 t => cases e; exact ⟨_, _, _, rfl, h, e1, t⟩
  | @loc a n h =>
    cases q : W.st[n]? with
    | none => simp only [insOf, q] at e; cases e
    | some cc =>
      cases cc with
      | ins c2 ns2 vs2 =>
        simp only [insOf, q] at e
        cases e
        obtain ⟨dx, fs, h1, h2, h3⟩ := R.cell n a _ h q
        exact ⟨a, dx, fs, rfl, h1, h2, h3⟩
      | _ => simp only [insOf, q] at e; cases e
  | _ => cases e
/-- o.f, o of the class c -/
def mFld (c f : Str) (mo : M D) : M D := fun env st => (mo env st).bind fun d s => match insOf s d with
  | some (c', ns, vs) => if c' = c then (match (ns.zip vs).lookup f with
    | some z => .ok z s
    | none => .bad) else .bad
  | none => .bad
theorem je_fld {c fl : Str} (hK : G.K = X.K) (ho : PE X o (tE G E mo)) (hc : Cls G.K (G.cl c)) (hn : NoAttr G.K (G.cl c) fl) (hb : attributeBase o fl X.env (eval o X.env) = eval o X.env := by rfl) : PE X (.Attribute o fl pos) (tE G E (mFld c fl mo)) := by
  refine PE.weak (pe_fld ho hb) fun σ H Q ⟨B, W, env, e, R, S, o⟩ => ?_
  subst e
  refine tE_of R S o fun d W1 v x1 R1 S1 r1 o1 => ?_
  cases q : insOf W1.st d with
  | none => simp only [q] at o1; exact o1.elim
  | some t =>
    obtain ⟨c', ns, vs⟩ := t
    simp only [q] at o1
    by_cases hcc : c' = c
    · subst hcc
      rw [if_pos rfl] at o1
      obtain ⟨a, dx, fs, rfl, h1, h2, h3⟩ := r1.ins R1 q
      cases z : (ns.zip vs).lookup fl with
      | none => simp only [z] at o1; exact o1.elim
      | some w =>
        simp only [z] at o1
        subst h2
        obtain ⟨u, h4, h5⟩ := Reps.lookup h3 z
        exact ⟨a, _, dx, fs, u, rfl, h1, by rw [← hK]; exact hc, by rw [← hK]; exact hn, h4, o1.ret R1 u h5⟩
    · rw [if_neg hcc] at o1
      exact o1.elim
/-- o.m(..), o of the class c -/
def mMeth (c m : Str) (fn : Fn) (mo : M D) (ms : M (List D)) : M D := fun env st => (mo env st).bind fun d s => match insOf s d with
  | some (c', ns, _) => if c' = c ∧ m ∉ ns then (ms env s).bind fun ds s2 => fn (d :: ds) s2 else .bad
  | none => .bad
theorem meth_ok {c : Str} {σ : L2.St} {H : Hp} {Q : VK} (h : tE G E (mMeth c m (ar n fn) mo ms) σ H Q) : tMethG (G.cl c) m (spOf G n fn) [] E (tE G E mo) (tA G E ms) σ H Q := by
  obtain ⟨B, W, env, rfl, R, S, o⟩ := h
  refine tE_of R S o fun d W1 v x1 R1 S1 r1 o1 => ?_
  cases q : insOf W1.st d with
  | none => simp only [q] at o1; exact o1.elim
  | some t =>
    obtain ⟨c', ns, vs⟩ := t
    simp only [q] at o1
    by_cases hcc : c' = c ∧ m ∉ ns
    · rw [if_pos hcc] at o1
      obtain ⟨a, dx, fs, rfl, h1, h2, h3⟩ := r1.ins R1 q
      obtain ⟨e1, e2⟩ := hcc
      subst e1 h2
      exact ⟨a, dx, fs, rfl, h1, lookup_none e2, tA_of R1 S1 o1 fun ds W2 us x2 R2 S2 r2 o2 => by rw [List.append_nil]; exact sp_ar R2 (.cons (Rep.ext R1 x2 _ _ r1) r2) o2⟩
    · rw [if_neg hcc] at o1
      exact o1.elim
theorem je_meth {c : Str} {pl : Sem Bool} (he : PE X o (tE G E mo)) (hc : Cls X.K (G.cl c)) (hm : Meth X.K (G.cl c) m f) (F : FnG X.prog X.w X.K X.mg X.base k f fd ps (spOf G n fn)) (rm : Rm k X.A) (hb : Binds X.K fd ps []) (hx : Pss X E) (ha : PA X (e :: es) (tA G E ms))
    (hst : starEach (e :: es) X.env = (false, eval e X.env) :: starEach es X.env := by rfl) (hpl : (backTo pos (starEach es X.env)).any (·.1) = false := by rfl)
    (ht : eval (.Call (.Attribute o m apos) (e :: es) [] pos) X.env = (do
      let ov ← eval o X.env
      standAt apos.atName
      let (g, first) ← holding [ov] (getMethod ov m pl)
      callWith pos g first (backTo pos (starEach (e :: es) X.env)) (backToKw pos (keywordEach [] X.env))) := by rfl) : PE X (.Call (.Attribute o m apos) (e :: es) [] pos) (tE G E (mMeth c m (ar n fn) mo ms)) :=
  PE.weak (gMeth (pl := pl) he hc hm F rm hb .nil hx ha hst hpl ht) fun _ _ _ h => meth_ok h
theorem je_meth0 {c : Str} {pl : Sem Bool} (he : PE X o (tE G E mo)) (hc : Cls X.K (G.cl c)) (hm : Meth X.K (G.cl c) m f) (F : FnG X.prog X.w X.K X.mg X.base k f fd ps (spOf G n fn)) (rm : Rm k X.A) (hb : Binds X.K fd ps []) (hx : Pss X E)
    (ht : eval (.Call (.Attribute o m apos) [] [] pos) X.env = (do
      let ov ← eval o X.env
      standAt apos.atName
      let (g, first) ← holding [ov] (getMethod ov m pl)
      callWith pos g first (backTo pos (starEach [] X.env)) (backToKw pos (keywordEach [] X.env))) := by rfl) : PE X (.Call (.Attribute o m apos) [] [] pos) (tE G E (mMeth c m (ar n fn) mo mNil)) := by
  refine PE.weak (gMeth0 (pl := pl) he hc hm F rm hb .nil hx ht) fun σ H Q h => ?_
  obtain ⟨B, W, env, rfl, R, S, o⟩ := h
  refine tE_of R S o fun d W1 v x1 R1 S1 r1 o1 => ?_
  cases q : insOf W1.st d with
  | none => simp only [q] at o1; exact o1.elim
  | some t =>
    obtain ⟨c', ns, vs⟩ := t
    simp only [q] at o1
    by_cases hcc : c' = c ∧ m ∉ ns
    · rw [if_pos hcc] at o1
      obtain ⟨a, dx, fs, rfl, h1, h2, h3⟩ := r1.ins R1 q
      obtain ⟨e1, e2⟩ := hcc
      subst e1 h2
      exact ⟨a, dx, fs, rfl, h1, lookup_none e2, sp_ar R1 (.cons r1 .nil) o1⟩
    · rw [if_neg hcc] at o1
      exact o1.elim
/-- a property -/
def mProp (c : Str) (fn : Fn) (mo : M D) : M D := fun env st => (mo env st).bind fun d s => match insOf s d with
  | some (c', _, _) => if c' = c then (match fn [d] s with
    | .ok z s2 => .ok z s2
    | _ => .bad) else .bad
  | none => .bad
theorem je_prop {c fl : Str} {pp : Addr} (he : PE X o (tE G E mo)) (hc : Cls X.K (G.cl c)) (hp : PropOf X.K (G.cl c) fl pp f) (F : FnG X.prog X.w X.K X.mg X.base k f fd ps (spOf G 1 fn)) (rm : Rm (k + 1) X.A) (hb : Binds X.K fd ps [])
    (hab : attributeBase o fl X.env (eval o X.env) = eval o X.env := by rfl) : PE X (.Attribute o fl pos) (tE G E (mProp c fn mo)) := by
  refine PE.weak (gProp he hc hp F rm hb .nil hab) fun σ H Q ⟨B, W, env, e, R, S, o⟩ => ?_
  subst e
  refine tE_of R S o fun d W1 v x1 R1 S1 r1 o1 => ?_
  cases q : insOf W1.st d with
  | none => simp only [q] at o1; exact o1.elim
  | some t =>
    obtain ⟨c', ns, vs⟩ := t
    simp only [q] at o1
    by_cases hcc : c' = c
    · subst hcc
      rw [if_pos rfl] at o1
      obtain ⟨a, dx, fs, rfl, h1, h2, h3⟩ := r1.ins R1 q
      refine ⟨a, dx, fs, rfl, h1, sp_go rfl R1 (.cons r1 .nil) ?_⟩
      cases z : fn [d] W1.st with
      | ok w s2 => simp only [z] at o1; exact o1
      | exc ee s2 => simp only [z] at o1; exact o1.elim
      | bad => simp only [z] at o1; exact o1.elim
    · rw [if_neg hcc] at o1
      exact o1.elim
/-- C(..): a new object, by value: its __init__ in a world of its own -/
def mkV (c : Str) (fn : Fn) : Fn := fun ds st => if D.noLocs ds = true then (match fn (.loc 0 :: ds) [Cell.ins c [] []] with
  | .ok .non s => (match (s : Store)[0]? with
    | some (Cell.ins c' ns vs) => if c' = c ∧ D.noLocs vs = true then .ok (.obj c ns vs) st else .bad
    | _ => .bad)
  | .exc e _ => if D.noLocs e.vs = true then .exc e st else .bad
  | _ => .bad) else .bad
def MadeG (C : Addr) (sp : Sp) (E : XK) (vs : List V) (H : Hp) (Q : VK) : Prop := ∀ x dx, H x = none → H dx = none → dx ≠ x → sp (.ref x :: (vs ++ [])) (upd (upd H dx (.own x)) x (.ins C dx [])) (fun v H2 => v = .non ∧ Q (.ref x) H2) E
theorem make_inV {c : Str} {B : Addr → Prop} {W : Wd} {E : XK} {ds : List D} {vs : List V} {Q : VK} (R : Rel G B W) (r : Reps G B W vs ds) (o : Out G B W E (mkV c (ar n fn) ds W.st) fun d W' => ∀ v, Rep G B W' v d → Q v W'.H) : MadeG (G.cl c) (spOf G n fn) E vs W.H Q := by
  intro y dx hy hdx hne
  rw [List.append_nil]
  unfold mkV at o
  by_cases hn : D.noLocs ds = true
  · rw [if_pos hn] at o
    let W1 : Wd := ⟨[y], [Cell.ins c [] []], upd (upd W.H dx (.own y)) y (.ins (G.cl c) dx [])⟩
    have k1 : ∀ a o, W.H a = some o → W1.H a = some o := fun a o e => by
      show upd (upd W.H dx (.own y)) y (.ins (G.cl c) dx []) a = some o
      rw [upd_ne (ne_of_none e hy), upd_ne (ne_of_none e hdx)]
      exact e
    have al1 : ∀ a, Al W1 a → a = y := fun a ⟨n, c, h, _⟩ => by
      have h' : [y][n]? = some a := h
      cases n with
      | zero => exact (Option.some.inj h').symm
      | succ n => simp at h'
    have R1 : Rel G (Mu B W) W1 := by
      refine ⟨rfl, by simp [W1], fun a ha => ?_, fun n a c2 h1 h2 h3 => ?_, fun n a c2 h1 h2 => ?_⟩
      · rcases ha with ha | ha
        · obtain ⟨o, e⟩ := R.ban a ha
          exact ⟨o, k1 a o e⟩
        · obtain ⟨o, e, _⟩ := R.al ha
          exact ⟨o, k1 a o e⟩
      · rw [al1 a ⟨n, c2, h1, h2, h3⟩]
        exact R.free hy
      · have h1' : [y][n]? = some a := h1
        have h2' : [Cell.ins c [] []][n]? = some c2 := h2
        cases n with
        | zero =>
          cases h1'
          cases h2'
          exact ⟨dx, [], upd_same, rfl, .nil⟩
        | succ n => simp at h1'
    have rs : Reps G (Mu B W) W1 (.ref y :: vs) (.loc 0 :: ds) := .cons (.loc rfl) (Reps.conv k1 (fun a o e hm z => by
      rcases z with z | z
      · exact hm z
      · rw [al1 a z] at e
        rw [hy] at e; cases e) ds vs hn r)
    refine sp_ar R1 rs ?_
    have keep : ∀ {W2 : Wd}, Ext W1 W2 → ∀ a o, W.H a = some o → W2.H a = some o := fun x a o e => x.keep a o (k1 a o e) fun z => by
      rw [al1 a z] at e
      rw [hy] at e; cases e
    have back : ∀ {W2 : Wd} (a : Addr) (o : HO), W2.H a = some o → ¬ Mu (Mu B W) W2 a → ¬ Mu B (W.over W2.H) a := fun a o _ hm z => hm (.inl z)
    show Out G (Mu B W) W1 E (ar n fn (.loc 0 :: ds) [Cell.ins c [] []]) _
    cases q : ar n fn (.loc 0 :: ds) [Cell.ins c [] []] with
    | ok d s =>
      rw [q] at o
      cases d with
      | non =>
        intro W2 x R2 es v rv
        cases rv
        refine ⟨rfl, ?_⟩
        obtain ⟨m, em, _⟩ := x.more
        have hr0 : W2.r[0]? = some y := by rw [em]; rfl
        cases z : s[0]? with
        | none => simp only [z] at o; exact o.elim
        | some c0 =>
          cases c0 with
          | ins c' ns vs' =>
            simp only [z] at o
            by_cases hcc : c' = c ∧ D.noLocs vs' = true
            · rw [if_pos hcc] at o
              obtain ⟨e1, hv⟩ := hcc
              subst e1
              obtain ⟨dx', fs, h1, h2, h3⟩ := R2.cell 0 y _ hr0 (by rw [es]; exact z)
              refine o (W.over W2.H) (Ext.over R.len (keep x)) (R.over (keep x)) rfl _ (.obj h1 (fun zz => ?_) h2 (Reps.conv idH back _ _ hv h3))
              exact R.free hy zz
            · rw [if_neg hcc] at o
              exact o.elim
          | _ => simp only [z] at o; exact o.elim
      | _ => exact o.elim
    | exc e s =>
      rw [q] at o
      simp only at o
      by_cases hd : D.noLocs e.vs = true
      · rw [if_pos hd] at o
        exact fun cls dd W2 x R2 _ rx => o cls dd (W.over W2.H) (Ext.over R.len (keep x)) (R.over (keep x)) rfl (rx.conv idH back hd)
      · rw [if_neg hd] at o
        exact o.elim
    | bad =>
      rw [q] at o
      exact o.elim
  · rw [if_neg hn] at o
    exact o.elim
/-- .. among the cells: as a cell; by value, if it changes no more -/
def mkC (c : Str) (fn : Fn) : Fn := fun ds st => match fn (.loc st.length :: ds) (st ++ [Cell.ins c [] []]) with
  | .ok .non s => .ok (.loc st.length) s
  | .exc e s => .exc e s
  | _ => .bad
def mkG (c : Str) (fn : Fn) : Fn := fun ds st => match fn (.loc st.length :: ds) (st ++ [Cell.ins c [] []]) with
  | .ok .non s => (match (s : Store)[st.length]? with
    | some (Cell.ins c' ns vs) => if c' = c then .ok (.obj c ns vs) (s.set st.length Cell.dead) else .bad
    | _ => .bad)
  | .exc e s => .exc e s
  | _ => .bad
theorem Rel.freeze {n : Nat} {a : Addr} {c : Cell} (R : Rel G B W) (hr : W.r[n]? = some a) (hs : W.st[n]? = some c) (hc : c ≠ Cell.dead) : Rel G B ⟨W.r, W.st.set n Cell.dead, W.H⟩ ∧ Ext W ⟨W.r, W.st.set n Cell.dead, W.H⟩ ∧ ¬ Mu B ⟨W.r, W.st.set n Cell.dead, W.H⟩ a := by
  obtain ⟨o, ho⟩ := R.there hr
  have eH : upd W.H a o = W.H := by
    funext b
    by_cases h : b = a
    · subst h
      rw [upd_same, ho]
    · exact upd_ne h
  have eW : W.put n Cell.dead a o = ⟨W.r, W.st.set n Cell.dead, W.H⟩ := by
    unfold Wd.put
    rw [eH]
  have R2 := Rel.put (c' := Cell.dead) (o := o) R hr hs hc ⟨o, by show upd W.H a o a = some o; exact upd_same⟩
  have x2 := Ext.put (c' := Cell.dead) (o := o) R.len hr hs hc
  rw [eW] at R2 x2
  refine ⟨R2, x2, fun z => ?_⟩
  rcases z with z | ⟨m, c2, h1, h2, h3⟩
  · exact R.sep n a c hr hs hc z
  · have hn := (List.getElem?_eq_some_iff.mp hr).1
    have em : n = m := by
      have h1' : W.r[m]? = some a := h1
      have hm := (List.getElem?_eq_some_iff.mp h1').1
      have q1 := (List.getElem?_eq_some_iff.mp hr).2
      have q2 := (List.getElem?_eq_some_iff.mp h1').2
      exact (List.getElem_inj R.nd).mp (q1.trans q2.symm)
    subst em
    have hn2 : n < W.st.length := (List.getElem?_eq_some_iff.mp hs).1
    have h2' : (W.st.set n Cell.dead)[n]? = some c2 := h2
    rw [List.getElem?_set_self hn2] at h2'
    exact h3 (Option.some.inj h2').symm
theorem make_core {c : Str} {B : Addr → Prop} {W : Wd} {E : XK} {ds : List D} {vs : List V} {Q : VK} (R : Rel G B W) (r : Reps G B W vs ds)
    (hg : ∀ W1 : Wd, Ext W W1 → Rel G B W1 → W1.st = W.st ++ [Cell.ins c [] []] → Out G B W1 E (ar n fn (.loc W.st.length :: ds) W1.st) fun d W2 => d = .non ∧ ∃ y, W2.r[W.st.length]? = some y ∧ W1.r[W.st.length]? = some y ∧ Q (.ref y) W2.H) : MadeG (G.cl c) (spOf G n fn) E vs W.H Q := by
  intro y dx hy hdx hne
  rw [List.append_nil]
  let Wa : Wd := W.new dx (.own y)
  have hya : Wa.H y = none := (upd_ne hne.symm).trans hy
  have Ra : Rel G B Wa := R.new hdx
  let W1 : Wd := Wa.grow y (Cell.ins c [] []) (.ins (G.cl c) dx [])
  have R1 : Rel G B W1 := Ra.grow hya ⟨dx, [], upd_same, rfl, .nil⟩
  have x2 : Ext W W1 := (Ext.new R.len hdx).trans (Ext.grow Ra.len hya)
  have rs : Reps G B W1 (.ref y :: vs) (.loc W.st.length :: ds) := .cons (Rep.grown Ra.len) (Reps.ext R x2 _ _ r)
  have hy1 : W1.r[W.st.length]? = some y := by
    show (W.r ++ [y])[W.st.length]? = some y
    rw [← R.len]
    exact List.getElem?_concat_length
  refine sp_ar R1 rs ((hg W1 x2 R1 rfl).imp fun d W2 x3 R2 q v rv => ?_)
  obtain ⟨rfl, y', h1, h2, q⟩ := q
  cases rv
  refine ⟨rfl, ?_⟩
  rw [hy1] at h2
  cases h2
  exact q
theorem r_at {W W1 W2 : Wd} {a : Nat} (x : Ext W1 W2) (h : a < W1.r.length) : ∃ y, W2.r[a]? = some y ∧ W1.r[a]? = some y := by
  obtain ⟨m, e, _⟩ := x.more
  refine ⟨W1.r[a], ?_, List.getElem?_eq_getElem h⟩
  rw [e, List.getElem?_append_left h]
  exact List.getElem?_eq_getElem h
theorem make_inC {c : Str} {B : Addr → Prop} {W : Wd} {E : XK} {ds : List D} {vs : List V} {Q : VK} (R : Rel G B W) (r : Reps G B W vs ds) (o : Out G B W E (mkC c (ar n fn) ds W.st) fun d W' => ∀ v, Rep G B W' v d → Q v W'.H) : MadeG (G.cl c) (spOf G n fn) E vs W.H Q := by
  refine make_core R r fun W1 x1 R1 es => ?_
  unfold mkC at o
  rw [es]
  have hl : W.st.length < W1.r.length := by
    rw [R1.len, es]
    simp
  cases q : ar n fn (.loc W.st.length :: ds) (W.st ++ [Cell.ins c [] []]) with
  | bad => rw [q] at o; exact o.elim
  | exc e s =>
    rw [q] at o
    exact fun cls dd W2 x2 R2 es2 rx => o cls dd W2 (x1.trans x2) R2 es2 rx
  | ok d s =>
    rw [q] at o
    cases d with
    | non =>
      intro W2 x2 R2 es2
      obtain ⟨y, h1, h2⟩ := r_at (W := W) x2 hl
      exact ⟨rfl, y, h1, h2, o W2 (x1.trans x2) R2 es2 _ (.loc h1)⟩
    | _ => exact o.elim
theorem make_inG {c : Str} {B : Addr → Prop} {W : Wd} {E : XK} {ds : List D} {vs : List V} {Q : VK} (R : Rel G B W) (r : Reps G B W vs ds) (o : Out G B W E (mkG c (ar n fn) ds W.st) fun d W' => ∀ v, Rep G B W' v d → Q v W'.H) : MadeG (G.cl c) (spOf G n fn) E vs W.H Q := by
  refine make_core R r fun W1 x1 R1 es => ?_
  unfold mkG at o
  rw [es]
  have hl : W.st.length < W1.r.length := by
    rw [R1.len, es]
    simp
  cases q : ar n fn (.loc W.st.length :: ds) (W.st ++ [Cell.ins c [] []]) with
  | bad => rw [q] at o; exact o.elim
  | exc e s =>
    rw [q] at o
    exact fun cls dd W2 x2 R2 es2 rx => o cls dd W2 (x1.trans x2) R2 es2 rx
  | ok d s =>
    rw [q] at o
    cases d with
    | non =>
      intro W2 x2 R2 es2
      obtain ⟨y, h1, h2⟩ := r_at (W := W) x2 hl
      simp only at o
      cases z : s[W.st.length]? with
      | none => rw [z] at o; exact o.elim
      | some c0 =>
        cases c0 with
        | ins c' ns vs' =>
          simp only [z] at o
          by_cases hcc : c' = c
          · rw [if_pos hcc] at o
            subst hcc
            have z2 : W2.st[W.st.length]? = some (.ins c' ns vs') := by rw [es2]; exact z
            obtain ⟨R3, x3, nm⟩ := R2.freeze h1 z2 (fun w => by cases w)
            obtain ⟨dx', fs, g1, g2, g3⟩ := R2.cell _ y _ h1 z2
            exact ⟨rfl, y, h1, h2, o ⟨W2.r, W2.st.set W.st.length Cell.dead, W2.H⟩ ((x1.trans x2).trans x3) R3 (by rw [es2]) _ (.obj g1 nm g2 (Reps.ext R2 x3 _ _ g3))⟩
          · rw [if_neg hcc] at o
            exact o.elim
        | _ => simp only [z] at o; exact o.elim
    | _ => exact o.elim
/-- C(..): in a world of its own where no cell goes in, else among the cells -/
def mkF (c : Str) (fn : Fn) : Fn := fun ds st => if D.noLocs ds = true then mkV c fn ds st else mkG c fn ds st
theorem make_ok {c : Str} {σ : L2.St} {H : Hp} {Q : VK} (h : tE G E (mCall (mkF c (ar n fn)) ms) σ H Q) : tMakeG (G.cl c) (spOf G n fn) [] E (tA G E ms) σ H Q := by
  obtain ⟨B, W0, env, rfl, R0, S0, o0⟩ := h
  refine tA_of R0 S0 o0 fun ds W vs x1 R S r o => ?_
  unfold mkF at o
  by_cases c : D.noLocs ds = true
  · rw [if_pos c] at o
    exact make_inV R r o
  · rw [if_neg c] at o
    exact make_inG R r o
theorem make_okC {c : Str} {σ : L2.St} {H : Hp} {Q : VK} (h : tE G E (mCall (mkC c (ar n fn)) ms) σ H Q) : tMakeG (G.cl c) (spOf G n fn) [] E (tA G E ms) σ H Q := by
  obtain ⟨B, W0, env, rfl, R0, S0, o0⟩ := h
  exact tA_of R0 S0 o0 fun ds W vs x1 R S r o => make_inC R r o
theorem je_make {c : Str} (Mk0 : Mk X.K (G.cl c) f) (F : FnG X.prog X.w X.K X.mg X.base k f fd ps (spOf G n fn)) (rm : Rm (k + 1) X.A) (hg : Gl X x) (hm : X.mg x = some (.ref (G.cl c))) (hb : Binds X.K fd ps []) (hx : Pss X E) (ha : PA X (e :: es) (tA G E ms))
    (hdb : (x == ("__debug__" : Str)) = false := by decide) (he : starEach (e :: es) X.env = (false, eval e X.env) :: starEach es X.env := by rfl) (hpl : (backTo pos (starEach es X.env)).any (·.1) = false := by rfl) : PE X (.Call (.Name x p) (e :: es) [] pos) (tE G E (mCall (mkF c (ar n fn)) ms)) :=
  PE.weak (gMake Mk0 F rm hg hm hb .nil hx ha hdb he hpl) fun _ _ _ h => make_ok h
theorem je_makeC {c : Str} (Mk0 : Mk X.K (G.cl c) f) (F : FnG X.prog X.w X.K X.mg X.base k f fd ps (spOf G n fn)) (rm : Rm (k + 1) X.A) (hg : Gl X x) (hm : X.mg x = some (.ref (G.cl c))) (hb : Binds X.K fd ps []) (hx : Pss X E) (ha : PA X (e :: es) (tA G E ms))
    (hdb : (x == ("__debug__" : Str)) = false := by decide) (he : starEach (e :: es) X.env = (false, eval e X.env) :: starEach es X.env := by rfl) (hpl : (backTo pos (starEach es X.env)).any (·.1) = false := by rfl) : PE X (.Call (.Name x p) (e :: es) [] pos) (tE G E (mCall (mkC c (ar n fn)) ms)) :=
  PE.weak (gMake Mk0 F rm hg hm hb .nil hx ha hdb he hpl) fun _ _ _ h => make_okC h
end
end DL

set_option maxHeartbeats 2000000
/-! DL6: statements. -/
namespace DL
open PySem PySem.Spec PyProof.Rows L2

/-- how a statement ends: next, return, break, continue, raised -/
inductive Fl where
  | nx (env : Sl) | rt (d : D) | bk (env : Sl) | ct (env : Sl) | xc (e : Ex) (env : Sl)
abbrev SM := Sl → Store → R Fl
def lift {α : Type} (r : R α) (env : Sl) (k : α → Store → R Fl) : R Fl := match r with
  | .ok a s => k a s
  | .exc e s => .ok (.xc e env) s
  | .bad => .bad
@[simp] theorem lift_ok {α : Type} (a : α) (s : Store) (env : Sl) (k : α → Store → R Fl) : lift (.ok a s) env k = k a s := rfl
@[simp] theorem lift_exc {α : Type} (e : Ex) (s : Store) (env : Sl) (k : α → Store → R Fl) : lift (.exc e s) env k = .ok (.xc e env) s := rfl
@[simp] theorem lift_bad {α : Type} (env : Sl) (k : α → Store → R Fl) : lift .bad env k = .bad := rfl
/-- behind a statement -/
def thenS (r : R Fl) (k : Sl → Store → R Fl) : R Fl := match r with
  | .ok (.nx env) s => k env s
  | r => r
def FlQ (G : Cn) (B : Addr → Prop) (XW : WX) (Dn : Ends) (fl : Fl) (W : Wd) : Prop := match fl with
  | .nx env => ∀ σ, Slots G B W σ env → Dn.nx σ W.H
  | .rt d => ∀ v, Rep G B W v d → Dn.rt v W.H
  | .bk env => ∀ σ, Slots G B W σ env → Dn.bk σ W.H
  | .ct env => ∀ σ, Slots G B W σ env → Dn.ct σ W.H
  | .xc e env => ∀ σ cls dd, Slots G B W σ env → RepX G B W cls dd e → XW cls dd σ W.H
def tS (G : Cn) (XW : WX) (m : SM) : TS := fun Dn σ H => ∃ B W env, W.H = H ∧ Rel G B W ∧ Slots G B W σ env ∧ Out G B W E0 (m env W.st) (FlQ G B XW Dn)
abbrev eX (XW : WX) : ES := fun σ cls d H => XW cls d σ H
section
variable {G : Cn} {B : Addr → Prop} {W : Wd} {XW : WX} {Dn : Ends} {σ : L2.St} {env : Sl}
theorem lift_of {α : Type} {r : R α} {k : α → Store → R Fl} (S : Slots G B W σ env) (R : Rel G B W) (h : Out G B W E0 (lift r env k) (FlQ G B XW Dn)) : Out G B W (eX XW σ) r fun a W1 => Out G B W1 E0 (k a W1.st) (FlQ G B XW Dn) := by
  cases r with
  | ok a s => exact (Out.bind (r := .ok a s) (k := k) h).imp fun _ _ _ _ q => q
  | exc e s => exact fun cls dd W' x R' e' rx => h W' x R' e' σ cls dd (S.ext R x) rx
  | bad => exact h
theorem sE {m : M D} {Q : VK} {k : D → Store → DL.R Fl} (R : Rel G B W) (S : Slots G B W σ env) (h : Out G B W E0 (lift (m env W.st) env k) (FlQ G B XW Dn))
    (q : ∀ d W' v, Ext W W' → Rel G B W' → Slots G B W' σ env → Rep G B W' v d → Out G B W' E0 (k d W'.st) (FlQ G B XW Dn) → Q v W'.H) : tE G (eX XW) m σ W.H Q :=
  ⟨B, W, env, rfl, R, S, (lift_of S R h).imp fun d W' x R' o v rv => q d W' v x R' (S.ext R x) rv o⟩
theorem sT {m : M Bool} {Q : Bool → Hp → Prop} {k : Bool → Store → DL.R Fl} (R : Rel G B W) (S : Slots G B W σ env) (h : Out G B W E0 (lift (m env W.st) env k) (FlQ G B XW Dn))
    (q : ∀ b W', Ext W W' → Rel G B W' → Slots G B W' σ env → Out G B W' E0 (k b W'.st) (FlQ G B XW Dn) → Q b W'.H) : tT G (eX XW) m σ W.H Q :=
  ⟨B, W, env, rfl, R, S, (lift_of S R h).imp fun b W' x R' o => q b W' x R' (S.ext R x) o⟩
theorem sA {m : M (List D)} {Q : List V → Hp → Prop} {k : List D → Store → DL.R Fl} (R : Rel G B W) (S : Slots G B W σ env) (h : Out G B W E0 (lift (m env W.st) env k) (FlQ G B XW Dn))
    (q : ∀ ds W' vs, Ext W W' → Rel G B W' → Slots G B W' σ env → Reps G B W' vs ds → Out G B W' E0 (k ds W'.st) (FlQ G B XW Dn) → Q vs W'.H) : tA G (eX XW) m σ W.H Q :=
  ⟨B, W, env, rfl, R, S, (lift_of S R h).imp fun d W' x R' o v rv => q d W' v x R' (S.ext R x) rv o⟩
end
/-! ### blocks -/
def sNil : SM := fun env st => .ok (.nx env) st
def sSeq (a b : SM) : SM := fun env st => thenS (a env st) b
section
variable {X : Cx} {G : Cn} {XW : WX} {st : Stmt} {rest : List Stmt} {a b : SM} {e : Expr} {m : M D} {pos : Pos}
theorem out_then {B : Addr → Prop} {W : Wd} {Dn : Ends} {r : R Fl} {k : SM} (h : Out G B W E0 (thenS r k) (FlQ G B XW Dn)) : Out G B W E0 r (FlQ G B XW { Dn with nx := tS G XW k Dn }) := by
  cases r with
  | ok fl s =>
    cases fl with
    | nx env => exact fun W' x R e σ S => ⟨B, W', env, rfl, R, S, by subst e; exact Out.ext h x⟩
    | rt d => exact h
    | bk env => exact h
    | ct env => exact h
    | xc e env => exact h
  | exc e s => exact h
  | bad => exact h
theorem js_nil : PSs X [] (tS G XW sNil) := PSs.weak pss_nil fun D σ H ⟨B, W, env, e, R, S, o⟩ => by subst e; exact o.ret R σ S
theorem js_cons (h1 : PS X st (tS G XW a)) (h2 : PSs X rest (tS G XW b)) : PSs X (st :: rest) (tS G XW (sSeq a b)) := PSs.weak (pss_cons h1 h2) fun D σ H ⟨B, W, env, e, R, S, o⟩ => by
  subst e
  exact ⟨B, W, env, rfl, R, S, out_then o⟩
theorem js_one (h1 : PS X st (tS G XW a)) : PSs X [st] (tS G XW a) := pss_one h1
theorem js_pass : PS X (.Pass pos) (tS G XW sNil) := PS.weak ps_pass fun D σ H ⟨B, W, env, e, R, S, o⟩ => by subst e; exact o.ret R σ S
theorem js_doc {x j pos'} : PS X (.Expr (.Constant (.str x) j pos) pos') (tS G XW sNil) := PS.weak ps_doc fun D σ H ⟨B, W, env, e, R, S, o⟩ => by subst e; exact o.ret R σ S
def sBrk : SM := fun env st => .ok (.bk env) st
def sCont : SM := fun env st => .ok (.ct env) st
theorem js_break : PS X (.Break pos) (tS G XW sBrk) := PS.weak ps_break fun D σ H ⟨B, W, env, e, R, S, o⟩ => by subst e; exact o.ret R σ S
theorem js_continue : PS X (.Continue pos) (tS G XW sCont) := PS.weak ps_continue fun D σ H ⟨B, W, env, e, R, S, o⟩ => by subst e; exact o.ret R σ S
def sDrop (m : M D) : SM := fun env st => lift (m env st) env fun _ s => .ok (.nx env) s
theorem js_expr (he : PE X e (tE G (eX XW) m)) (hs : swapsWith e none pos.line X.env = pure false := by rfl) : PS X (.Expr e pos) (tS G XW (sDrop m)) := PS.weak (ps_expr he hs) fun D σ H ⟨B, W, env, e, R, S, o⟩ => by
  subst e
  exact sE R S o fun d W1 v x1 R1 S1 r1 o1 => o1.ret R1 σ S1
def sRet (m : M D) : SM := fun env st => lift (m env st) env fun d s => .ok (.rt d) s
theorem js_ret (he : PE X e (tE G (eX XW) m)) : PS X (.Return (some e) pos) (tS G XW (sRet m)) := PS.weak (ps_ret he) fun D σ H ⟨B, W, env, e, R, S, o⟩ => by
  subst e
  exact sE R S o fun d W1 v x1 R1 S1 r1 o1 => o1.ret R1 v r1
def sRetN : SM := fun _ st => .ok (.rt .non) st
theorem js_retN : PS X (.Return none pos) (tS G XW sRetN) := PS.weak ps_retN fun D σ H ⟨B, W, env, e, R, S, o⟩ => by subst e; exact o.ret R _ .non
def sIf (c : M Bool) (a b : SM) : SM := fun env st => lift (c env st) env fun k s => if k then a env s else b env s
theorem js_if {c : Expr} {p q : List Stmt} {mc : M Bool} (hc : PT X c (tT G (eX XW) mc)) (ha : PSs X p (tS G XW a)) (hb : PSs X q (tS G XW b)) : PS X (.If c p q pos) (tS G XW (sIf mc a b)) := PS.weak (ps_if hc ha hb) fun D σ H ⟨B, W, env, e, R, S, o⟩ => by
  subst e
  refine sT R S o fun k W1 x1 R1 S1 o1 => ?_
  cases k with
  | true => exact ⟨B, W1, env, rfl, R1, S1, o1⟩
  | false => exact ⟨B, W1, env, rfl, R1, S1, o1⟩
def sBad : SM := fun _ _ => .bad
theorem js_bad : PS X st (tS G XW sBad) := ⟨fun _ _ _ _ _ _ ⟨_, _, _, _, _, _, o⟩ => o.elim⟩
theorem jss_bad {sts : List Stmt} : PSs X sts (tS G XW sBad) := ⟨fun _ _ _ _ _ _ ⟨_, _, _, _, _, _, o⟩ => o.elim⟩
/-! ### stores -/
def sSet (i : Nat) (m : M D) : SM := fun env st => lift (m env st) env fun d s => .ok (.nx (env.set i (some d))) s
theorem js_set {i : Nat} {x : Str} {pos' : Pos} (h : PS X (.Assign [.Name x pos'] e pos) (tAsg (tE G (eX XW) m) (gName i))) : PS X (.Assign [.Name x pos'] e pos) (tS G XW (sSet i m)) := PS.weak h fun D σ H ⟨B, W, env, e, R, S, o⟩ => by
  subst e
  exact sE R S o fun d W1 v x1 R1 S1 r1 o1 => o1.ret R1 _ (S1.set i r1)
/-- a, b = x, y -/
def sPar (is : List Nat) (ms : M (List D)) : SM := fun env st => lift (ms env st) env fun ds s => if ds.length = is.length then .ok (.nx ((is.zip ds).foldl (fun env p => env.set p.1 (some p.2)) env)) s else .bad
theorem js_par2 {i j : Nat} {ms : M (List D)} {tg : Expr} {v : Expr} (h : PS X (.Assign [tg] v pos) (tPar i j (tA G (eX XW) ms))) : PS X (.Assign [tg] v pos) (tS G XW (sPar [i, j] ms)) := PS.weak h fun D σ H ⟨B, W, env, e, R, S, o⟩ => by
  subst e
  refine sA R S o fun ds W1 vs x1 R1 S1 r1 o1 => ?_
  by_cases c : ds.length = [i, j].length
  · simp only [if_pos c] at o1
    match ds, c, r1, o1 with
    | [d1, d2], _, .cons h1 (.cons h2 .nil), o1 => exact ⟨_, _, rfl, o1.ret R1 _ ((S1.set i h1).set j h2)⟩
  · simp only [if_neg c] at o1
    exact o1.elim
theorem js_par3 {i j l : Nat} {ms : M (List D)} {tg : Expr} {v : Expr} (h : PS X (.Assign [tg] v pos) (tPar3 i j l (tA G (eX XW) ms))) : PS X (.Assign [tg] v pos) (tS G XW (sPar [i, j, l] ms)) := PS.weak h fun D σ H ⟨B, W, env, e, R, S, o⟩ => by
  subst e
  refine sA R S o fun ds W1 vs x1 R1 S1 r1 o1 => ?_
  by_cases c : ds.length = [i, j, l].length
  · simp only [if_pos c] at o1
    match ds, c, r1, o1 with
    | [d1, d2, d3], _, .cons h1 (.cons h2 (.cons h3 .nil)), o1 => exact ⟨_, _, _, rfl, o1.ret R1 _ (((S1.set i h1).set j h2).set l h3)⟩
  · simp only [if_neg c] at o1
    exact o1.elim
/-- targets: a name, a tuple of targets -/
inductive Tgt where
  | nm (i : Nat) | tu (ts : List Tgt)
mutual
def bindT : Tgt → D → Sl → Option Sl
  | .nm i, d, env => some (env.set i (some d))
  | .tu ts, d, env => match d with
    | .tup ds => bindTs ts ds env
    | .lst ds => bindTs ts ds env
    | _ => none
def bindTs : List Tgt → List D → Sl → Option Sl
  | [], [], env => some env
  | t :: ts, d :: ds, env => (bindT t d env).bind fun env1 => bindTs ts ds env1
  | [], _ :: _, _ => none
  | _ :: _, [], _ => none
end
mutual
def Tgt.sl : Tgt → List Nat
  | .nm i => [i]
  | .tu ts => Tgt.sls ts
def Tgt.sls : List Tgt → List Nat
  | [] => []
  | t :: ts => t.sl ++ Tgt.sls ts
end
mutual
def gT (K : PySem.W.Frag) : Tgt → TG
  | .nm i => gName i
  | .tu ts => fun v σ H Q => gTup K ts.length (gTs K ts) v σ H Q ∨ gLst K ts.length (gTs K ts) v σ H Q
def gTs (K : PySem.W.Frag) : List Tgt → TGs
  | [] => gNil
  | t :: ts => gCons (gT K t) (gTs K ts)
end
theorem PG.or {tg : Expr} {t t' : TG} (h : PG X tg t) (h' : PG X tg t') : PG X tg (fun v σ H Q => t v σ H Q ∨ t' v σ H Q) := ⟨fun pins s σ H v u Q I r q => q.elim (h.run pins s σ H v u Q I r) (h'.run pins s σ H v u Q I r)⟩
theorem jg_nm {i : Nat} {x : Str} (h : PG X (.Name x pos) (gName i)) : PG X (.Name x pos) (gT X.K (.nm i)) := h
theorem jg_nil : PGs X [] (gTs X.K []) := pgs_nil
theorem jg_cons {e : Expr} {es : List Expr} {t : Tgt} {ts : List Tgt} (h1 : PG X e (gT X.K t)) (h2 : PGs X es (gTs X.K ts)) (hs : (assignEach (e :: es) X.env).map (·.2) = assign e X.env :: (assignEach es X.env).map (·.2) := by rfl) : PGs X (e :: es) (gTs X.K (t :: ts)) := pgs_cons h1 h2 hs
theorem jg_tu {es : List Expr} {k : Nat} {ts : List Tgt} (hc : X.calm = true) (h : PGs X es (gTs X.K ts)) (hn : (assignEach es X.env).length = ts.length := by rfl) (hst : (assignEach es X.env).findIdx? (·.1) = none := by rfl) : PG X (.Tuple es k pos) (gT X.K (.tu ts)) :=
  PG.or (pg_tup hc h hn hst) (pg_lst hc h hn hst)
theorem bindTs_len : ∀ {ts : List Tgt} {ds : List D} {env env' : Sl}, bindTs ts ds env = some env' → ts.length = ds.length
  | [], [], _, _, _ => rfl
  | t :: ts, d :: ds, env, env', h => by
    unfold bindTs at h
    obtain ⟨e1, _, h2⟩ := Option.bind_eq_some_iff.mp h
    exact congrArg (· + 1) (bindTs_len h2)
  | [], _ :: _, _, _, h => by cases h
  | _ :: _, [], _, _, h => by cases h
theorem wipe_set {σ : L2.St} {i : Nat} {x : Option V} : ∀ {vs : List Nat}, i ∈ vs → wipe (σ.set i x) vs = wipe σ vs
  | [], h => by cases h
  | v :: vs, h => by
    unfold wipe
    by_cases hv : i ∈ vs
    · rw [wipe_set hv]
    · have e : i = v := by
        rcases List.mem_cons.mp h with h | h
        · exact h
        · exact (hv h).elim
      subst e
      have out : ∀ (vs : List Nat), i ∉ vs → wipe (σ.set i x) vs = (wipe σ vs).set i x := by
        intro vs
        induction vs with
        | nil => intro _; rfl
        | cons w ws ih =>
          intro hw
          rw [List.mem_cons, not_or] at hw
          unfold wipe
          rw [ih hw.2, List.set_comm _ _ hw.1]
      rw [out vs hv, List.set_set]
mutual
theorem gT_ok {B : Addr → Prop} {W : Wd} (R : Rel G B W) : ∀ (t : Tgt) (d : D) (env env' : Sl) (σ : L2.St) (v : V) (Q : L2.St → Hp → Prop), Slots G B W σ env → Rep G B W v d → bindT t d env = some env' →
    (∀ σ', Slots G B W σ' env' → (∀ vs, (∀ i ∈ t.sl, i ∈ vs) → wipe σ' vs = wipe σ vs) → Q σ' W.H) → gT G.K t v σ W.H Q
  | .nm i, d, env, env', σ, v, Q, S, r, h, q => by
    cases h
    exact q _ (S.set i r) fun vs hv => wipe_set (hv i (by simp [Tgt.sl]))
  | .tu ts, d, env, env', σ, v, Q, S, r, h, q => by
    cases d with
    | tup ds =>
      have h' : bindTs ts ds env = some env' := h
      cases r with
      | tup h1 t => exact .inl ⟨_, _, rfl, h1, t.length.trans (bindTs_len h').symm, gTs_ok R ts ds env env' σ _ Q S t h' q⟩
    | lst ds =>
      have h' : bindTs ts ds env = some env' := h
      cases r with
      | lst h1 n t => exact .inr ⟨_, _, rfl, SqL.of h1, t.length.trans (bindTs_len h').symm, gTs_ok R ts ds env env' σ _ Q S t h' q⟩
    | _ => cases h
theorem gTs_ok {B : Addr → Prop} {W : Wd} (R : Rel G B W) : ∀ (ts : List Tgt) (ds : List D) (env env' : Sl) (σ : L2.St) (vs : List V) (Q : L2.St → Hp → Prop), Slots G B W σ env → Reps G B W vs ds → bindTs ts ds env = some env' →
    (∀ σ', Slots G B W σ' env' → (∀ us, (∀ i ∈ Tgt.sls ts, i ∈ us) → wipe σ' us = wipe σ us) → Q σ' W.H) → gTs G.K ts vs σ W.H Q
  | [], [], env, env', σ, vs, Q, S, r, h, q => by
    cases r
    cases h
    exact ⟨rfl, q σ S fun _ _ => rfl⟩
  | t :: ts, d :: ds, env, env', σ, vs, Q, S, r, h, q => by
    cases r with
    | cons h1 t1 =>
      unfold bindTs at h
      obtain ⟨env1, e1, e2⟩ := Option.bind_eq_some_iff.mp h
      refine ⟨_, _, rfl, gT_ok R t d env env1 σ _ _ S h1 e1 fun σ1 S1 w1 => gTs_ok R ts ds env1 env' σ1 _ Q S1 t1 e2 fun σ2 S2 w2 => q σ2 S2 fun us hu => ?_⟩
      rw [w2 us fun i hi => hu i (by simp [Tgt.sls, hi]), w1 us fun i hi => hu i (by simp [Tgt.sls, hi])]
  | [], _ :: _, _, _, _, _, _, _, _, h, _ => by cases h
  | _ :: _, [], _, _, _, _, _, _, _, h, _ => by cases h
end
/-- t = e -/
def sAsg (t : Tgt) (m : M D) : SM := fun env st => lift (m env st) env fun d s => match bindT t d env with
  | some env' => .ok (.nx env') s
  | none => .bad
theorem js_asg {tg : Expr} {t : Tgt} (hK : G.K = X.K) (he : PE X e (tE G (eX XW) m)) (hg : PG X tg (gT X.K t)) (hs : swapsWithSole [tg] e pos.line X.env = pure false := by rfl) (hw : swappedStores [tg] e X.env = pure none := by rfl)
    (h1 : (assignEach [tg] X.env).map (·.2) = [assign tg X.env] := by rfl) : PS X (.Assign [tg] e pos) (tS G XW (sAsg t m)) := PS.weak (ps_asg he hg hs hw h1) fun D σ H ⟨B, W, env, e, R, S, o⟩ => by
  subst e
  refine sE R S o fun d W1 v x1 R1 S1 r1 o1 => ?_
  cases q : bindT t d env with
  | none => simp only [q] at o1; exact o1.elim
  | some env' =>
    simp only [q] at o1
    rw [← hK]
    exact gT_ok R1 t d env env' σ v _ S1 r1 q fun σ' S' _ => o1.ret R1 σ' S'
end
end DL

set_option maxHeartbeats 2000000
/-! DL7: what is walked; for, while, comprehensions. -/
namespace DL
open PySem PySem.Spec PyProof.Rows L2

/-- what a loop walks: the items; the cells that must stay as they are -/
structure Src where
  items : List D
  guard : List (Nat × List D) := []
def Src.okS (s : Src) (st : Store) : Prop := ∀ p ∈ s.guard, st[p.1]? = some (Cell.lst p.2)
def Walks (G : Cn) (B : Addr → Prop) (W0 : Wd) (J : It) (s : Src) : Prop := ∀ W, Ext W0 W → ∀ B', (∀ a, B a → B' a) → Rel G B' W → (∀ v d, Rep G B W0 v d → Rep G B' W v d) → s.okS W.st →
  (∀ (i : Nat) (d : D), s.items[i]? = some d → J.go i W.H ∧ ∀ x H', J.yld i W.H x H' → ∃ W', W'.H = H' ∧ W'.st = W.st ∧ W'.r = W.r ∧ (∀ a o, W.H a = some o → H' a = some o) ∧ Ext W W' ∧ Rel G B' W' ∧ Rep G B' W' x d) ∧
  (∀ i : Nat, s.items.length ≤ i → J.stop i W.H)
def tI (G : Cn) (E : ES) (m : M Src) : TI := fun σ H Q => ∃ B W env, W.H = H ∧ Rel G B W ∧ Slots G B W σ env ∧ Out G B W (E σ) (m env W.st) fun s W' => ∀ J, Walks G B W' J s → Q J W'.H
section
variable {G : Cn} {B B' : Addr → Prop} {W W' W0 : Wd}
theorem Rel.self (R : Rel G B W) : (W' : Wd) → W' = W → Ext W W' ∧ Rel G B W' := fun W' e => by subst e; exact ⟨R.refl, R⟩
/-- a list (or tuple) that stands at a -/
theorem walks_list {a : Addr} {items : List D} {g : List (Nat × List D)} (h : ∀ W, Ext W0 W → ∀ B', (∀ a, B a → B' a) → Rel G B' W → (∀ v d, Rep G B W0 v d → Rep G B' W v d) → Src.okS ⟨items, g⟩ W.st → ∃ vs, SqL G.K W.H a vs ∧ Reps G B' W vs items) : Walks G B W0 (Itl G.K a) ⟨items, g⟩ := by
  intro W x B' hB R hR ok
  obtain ⟨vs, h1, h2⟩ := h W x B' hB R hR ok
  refine ⟨fun i d e => ?_, fun i hi => ⟨vs, h1, by rw [h2.length]; exact hi⟩⟩
  obtain ⟨v, e1, r⟩ := h2.get e
  refine ⟨⟨vs, v, h1, e1⟩, fun z H' y => ?_⟩
  obtain ⟨rfl, y⟩ := y
  have e2 := y vs h1
  rw [e1] at e2
  cases e2
  exact ⟨W, rfl, rfl, rfl, fun _ _ q => q, R.refl, R, r⟩
theorem walks_tup {a : Addr} {items : List D} (h : ∀ W, Ext W0 W → ∀ B', (∀ a, B a → B' a) → Rel G B' W → (∀ v d, Rep G B W0 v d → Rep G B' W v d) → ∃ vs, SqT G.K W.H a vs ∧ Reps G B' W vs items) : Walks G B W0 (Itt G.K a) ⟨items, []⟩ := by
  intro W x B' hB R hR ok
  obtain ⟨vs, h1, h2⟩ := h W x B' hB R hR
  refine ⟨fun i d e => ?_, fun i hi => ⟨vs, h1, by rw [h2.length]; exact hi⟩⟩
  obtain ⟨v, e1, r⟩ := h2.get e
  refine ⟨⟨vs, v, h1, e1⟩, fun z H' y => ?_⟩
  obtain ⟨rfl, y⟩ := y
  have e2 := y vs h1
  rw [e1] at e2
  cases e2
  exact ⟨W, rfl, rfl, rfl, fun _ _ q => q, R.refl, R, r⟩
/-- the numbers lo, lo + 1, .. -/
def intsD (lo : Int) : Nat → List D
  | 0 => []
  | n + 1 => .int lo :: intsD (lo + 1) n
theorem ints_get : ∀ (n : Nat) (lo : Int) (i : Nat) (d : D), (intsD lo n)[i]? = some d → i < n ∧ d = .int (lo + i)
  | 0, _, _, _, e => by simp [intsD] at e
  | n + 1, lo, 0, d, e => by
    simp only [intsD, List.getElem?_cons_zero, Option.some.injEq] at e
    exact ⟨Nat.succ_pos _, by rw [← e]; simp⟩
  | n + 1, lo, i + 1, d, e => by
    simp only [intsD, List.getElem?_cons_succ] at e
    obtain ⟨h1, h2⟩ := ints_get n (lo + 1) i d e
    exact ⟨by omega, by rw [h2]; congr 1; omega⟩
theorem ints_len : ∀ (n : Nat) (lo : Int), (intsD lo n).length = n
  | 0, _ => rfl
  | n + 1, lo => congrArg (· + 1) (ints_len n (lo + 1))
theorem walks_rng {lo : Int} {n : Nat} : Walks G B W0 (Itr lo n) ⟨intsD lo n, []⟩ := by
  intro W x B' hB R hR ok
  refine ⟨fun i d e => ?_, fun i hi => by rw [ints_len] at hi; exact hi⟩
  obtain ⟨h1, h2⟩ := ints_get n lo i d e
  refine ⟨h1, fun z H' y => ?_⟩
  obtain ⟨rfl, rfl⟩ := y
  exact ⟨W, rfl, rfl, rfl, fun _ _ q => q, R.refl, R, by rw [h2]; exact .int _⟩
end
/-- a list or a tuple, walked -/
def srcOf (st : Store) : D → Option Src
  | .tup xs => some ⟨xs, []⟩
  | .lst xs => some ⟨xs, []⟩
  | .fro xs => some ⟨xs, []⟩
  | .loc n => match st[n]? with
    | some (.lst xs) => some ⟨xs, [(n, xs)]⟩
    | _ => none
  | _ => none
def mIt (m : M D) : M Src := fun env st => (m env st).bind fun d s => match srcOf s d with
  | some r => .ok r s
  | none => .bad
theorem Rep.walks {G : Cn} {B : Addr → Prop} {W : Wd} {v : V} {d : D} {r : Src} (R : Rel G B W) (h : Rep G B W v d) (e : srcOf W.st d = some r) :
    (∃ a, v = .ref a ∧ (∃ xs, SqL G.K W.H a xs) ∧ Walks G B W (Itl G.K a) r) ∨ (∃ a, v = .ref a ∧ (∃ xs, SqT G.K W.H a xs) ∧ Walks G B W (Itt G.K a) r) := by
  have rl : ∀ {a : Addr} {xs : List D}, Rep G B W (.ref a) (.lst xs) → Walks G B W (Itl G.K a) ⟨xs, []⟩ := fun {a xs} h => walks_list fun W2 x B' hB R2 hR ok => by
    have z := hR _ _ h
    cases z with
    | lst h' n t => exact ⟨_, SqL.of h', t⟩
  have rf : ∀ {a : Addr} {xs : List D}, Rep G B W (.ref a) (.fro xs) → Walks G B W (Itl G.K a) ⟨xs, []⟩ := fun {a xs} h => walks_list fun W2 x B' hB R2 hR ok => by
    have z := hR _ _ h
    cases z with
    | fro h' t =>
      rcases h' with ⟨o, h'⟩ | ⟨o, its, n, k⟩
      · exact ⟨_, .inl (.inr ⟨o, h'⟩), t⟩
      · exact ⟨_, .inr ⟨o, its, n, k⟩, t⟩
  have rt : ∀ {a : Addr} {xs : List D}, Rep G B W (.ref a) (.tup xs) → Walks G B W (Itt G.K a) ⟨xs, []⟩ := fun {a xs} h => walks_tup fun W2 x B' hB R2 hR => by
    have z := hR _ _ h
    cases z with
    | tup h' t => exact ⟨_, h', t⟩
  cases h with
  | tup h t => cases e; exact .inr ⟨_, rfl, ⟨_, h⟩, rt (.tup h t)⟩
  | lst h n t => cases e; exact .inl ⟨_, rfl, ⟨_, SqL.of h⟩, rl (.lst h n t)⟩
  | fro h t =>
    cases e
    refine .inl ⟨_, rfl, ?_, rf (.fro h t)⟩
    rcases h with ⟨o, h'⟩ | ⟨o, its, n, k⟩
    · exact ⟨_, .inl (.inr ⟨o, h'⟩)⟩
    · exact ⟨_, .inr ⟨o, its, n, k⟩⟩
  | @loc a n h =>
    cases q : W.st[n]? with
    | none => simp only [srcOf, q] at e; cases e
    | some c =>
      cases c with
      | lst xs =>
        simp only [srcOf, q] at e
        cases e
        obtain ⟨vs, h1, h2⟩ := R.cell n a _ h q
        refine .inl ⟨a, rfl, ⟨vs, SqL.of h1⟩, walks_list fun W2 x B' hB R2 hR ok => ?_⟩
        have z := hR _ _ (.loc h)
        have q2 := ok (n, xs) (by simp)
        cases z with
        | loc h' =>
          obtain ⟨us, h3, h4⟩ := R2.cell n a _ h' q2
          exact ⟨us, SqL.of h3, h4⟩
      | _ => simp only [srcOf, q] at e; cases e
  | _ => cases e
section
variable {X : Cx} {G : Cn} {E : ES} {tg e : Expr} {m : M D} {pos p : Pos}
/-- a list or a tuple: which one, its value tells -/
def iSeq (K : PySem.W.Frag) (tl : TE) : TI := fun σ H Q => tl σ H fun x H1 => (∃ a, x = .ref a ∧ (∃ xs, SqL K H1 a xs) ∧ Q (Itl K a) H1) ∨ (∃ a, x = .ref a ∧ (∃ xs, SqT K H1 a xs) ∧ Q (Itt K a) H1)
theorem pi_seq {tl : TE} (hl : PE X e tl) : PI X tg e (iSeq X.K tl) := by
  refine ⟨fun pins s σ H Q I h => thn (hl.run pins s σ H _ I h) fun v s1 hv => ?_⟩
  obtain ⟨x, H1, I1, r1, q1⟩ := hv
  have fp : ∀ b ∈ [s1.heap.objs.size], FpOk X pins H1 b := fun b hb => by
    rw [List.mem_singleton] at hb
    subst hb
    exact I1.fpOk (Nat.le_refl _) (I1.hok.fresh (Nat.le_refl _))
  rcases q1 with ⟨a, rfl, ⟨xs, hq⟩, q⟩ | ⟨a, rfl, ⟨xs, hq⟩, q⟩
  · cases r1
    obtain ⟨its, _, pl, _⟩ := I1.list hq
    exact wpAny_pyIter_list pl.isList ⟨_, [s1.heap.objs.size], _, _, H1, rfl, I1.kept (t' := s1.toks) fun b o e => Heap.get?_push_of_some _ e, turn_list a _, ⟨_, Heap.get?_push_size _ rfl, rfl, rfl⟩, fp, q⟩
  · cases r1
    obtain ⟨its, _, pl, _⟩ := I1.tuple hq
    exact wpAny_pyIter_tuple (show s1.heap.IsTuple a its.toArray from pl) ⟨_, [s1.heap.objs.size], _, _, H1, rfl, I1.kept (t' := s1.toks) fun b o e => Heap.get?_push_of_some _ e, turn_tuple a _, ⟨_, Heap.get?_push_size _ rfl, rfl, rfl⟩, fp, q⟩
theorem ji_seq (hK : G.K = X.K) (he : PE X e (tE G E m)) : PI X tg e (tI G E (mIt m)) := by
  refine PI.weak (pi_seq he) fun σ H Q ⟨B, W, env, e, R, S, o⟩ => ?_
  subst e
  rw [← hK]
  refine tE_of R S o fun d W1 v x1 R1 S1 r1 o1 => ?_
  cases q : srcOf W1.st d with
  | none => simp only [q] at o1; exact o1.elim
  | some r =>
    simp only [q] at o1
    rcases r1.walks R1 q with ⟨a, ea, h1, h2⟩ | ⟨a, ea, h1, h2⟩
    · exact .inl ⟨a, ea, h1, o1.ret R1 _ h2⟩
    · exact .inr ⟨a, ea, h1, o1.ret R1 _ h2⟩
/-- range(n), range(a, b) -/
def mRng1 (ms : M (List D)) : M Src := fun env st => (ms env st).bind fun ds s => match ds with
  | [.int j] => if -(2 ^ 62) ≤ j ∧ j < 2 ^ 62 then .ok ⟨intsD 0 j.toNat, []⟩ s else .bad
  | _ => .bad
def mRng2 (ms : M (List D)) : M Src := fun env st => (ms env st).bind fun ds s => match ds with
  | [.int i, .int j] => if -(2 ^ 62) ≤ i ∧ i < 2 ^ 62 ∧ -(2 ^ 62) ≤ j ∧ j < 2 ^ 62 then .ok ⟨intsD i (j - i).toNat, []⟩ s else .bad
  | _ => .bad
theorem ji_rng1 {ms : M (List D)} (hg : Gl X "range") (hm : X.mg "range" = none) (ha : PA X [e] (tA G E ms)) (hs : starEach [e] X.env = [(false, eval e X.env)] := by rfl) : PI X tg (.Call (.Name "range" p) [e] [] pos) (tI G E (mRng1 ms)) := by
  refine PI.weak (pi_range1 hg hm ha hs) fun σ H Q ⟨B, W, env, e, R, S, o⟩ => ?_
  subst e
  refine tA_of R S o fun ds W1 vs x1 R1 S1 r1 o1 => ?_
  match ds, r1, o1 with
  | [.int j], .cons (.int _) .nil, o1 =>
    by_cases c : -(2 ^ 62) ≤ j ∧ j < 2 ^ 62
    · simp only [if_pos c] at o1
      exact ⟨j, rfl, c.1, c.2, o1.ret R1 _ walks_rng⟩
    · simp only [if_neg c] at o1
      exact o1.elim
theorem ji_rng2 {e2 : Expr} {ms : M (List D)} (hg : Gl X "range") (hm : X.mg "range" = none) (ha : PA X [e, e2] (tA G E ms)) (hs : starEach [e, e2] X.env = [(false, eval e X.env), (false, eval e2 X.env)] := by rfl) (hs2 : starEach [e2] X.env = [(false, eval e2 X.env)] := by rfl) : PI X tg (.Call (.Name "range" p) [e, e2] [] pos) (tI G E (mRng2 ms)) := by
  refine PI.weak (pi_range2 hg hm ha hs hs2) fun σ H Q ⟨B, W, env, e, R, S, o⟩ => ?_
  subst e
  refine tA_of R S o fun ds W1 vs x1 R1 S1 r1 o1 => ?_
  match ds, r1, o1 with
  | [.int i, .int j], .cons (.int _) (.cons (.int _) .nil), o1 =>
    by_cases c : -(2 ^ 62) ≤ i ∧ i < 2 ^ 62 ∧ -(2 ^ 62) ≤ j ∧ j < 2 ^ 62
    · simp only [if_pos c] at o1
      exact ⟨i, j, rfl, c, o1.ret R1 _ walks_rng⟩
    · simp only [if_neg c] at o1
      exact o1.elim
end
/-! ### for -/
open Classical in
noncomputable def forGo (t : Tgt) (body : SM) (src : Src) : List D → Sl → Store → R Fl
  | [], env, st => if src.okS st then .ok (.nx env) st else .bad
  | d :: ds, env, st => if src.okS st then (match bindT t d env with
    | some env1 => (match body env1 st with
      | .ok (.nx env2) s => forGo t body src ds env2 s
      | .ok (.ct env2) s => forGo t body src ds env2 s
      | .ok (.bk env2) s => .ok (.nx env2) s
      | r => r)
    | none => .bad) else .bad
noncomputable def sFor (t : Tgt) (mi : M Src) (body : SM) : SM := fun env st => lift (mi env st) env fun src s => forGo t body src src.items env s
section
variable {X : Cx} {G : Cn} {XW : WX} {tg iter : Expr} {body : List Stmt} {b : SM} {mi : M Src} {t : Tgt} {pos : Pos}
theorem sI {B : Addr → Prop} {W : Wd} {Dn : Ends} {σ : L2.St} {env : Sl} {Q : It → Hp → Prop} {k : Src → Store → DL.R Fl} (R : Rel G B W) (S : Slots G B W σ env) (h : Out G B W E0 (lift (mi env W.st) env k) (FlQ G B XW Dn))
    (q : ∀ s W' J, Ext W W' → Rel G B W' → Slots G B W' σ env → Walks G B W' J s → Out G B W' E0 (k s W'.st) (FlQ G B XW Dn) → Q J W'.H) : tI G (eX XW) mi σ W.H Q :=
  ⟨B, W, env, rfl, R, S, (lift_of S R h).imp fun s W' x R' o J w => q s W' J x R' (S.ext R x) w o⟩
theorem js_for (hK : G.K = X.K) (hp : PassesOwn (model X.prog X.w) X.A X.env X.xe) (hc : X.calm = true) (hi : PI X tg iter (tI G (eX XW) mi)) (hg : PG X tg (gT X.K t)) (hb : PSs X body (tS G XW b))
    (hs : ∀ x, foldedSetIterable iter X.env x = pure x := by intro _; rfl) : PS X (.For tg iter body [] pos) (tS G XW (sFor t mi b)) := PS.weak (ps_for hp hc hi hg hb hs) fun D σ H ⟨B, W, env, e, R, S, o⟩ => by
  subst e
  refine sI R S o fun src W1 J x1 R1 S1 wk o1 => ?_
  have rep : ∀ {W2 : Wd}, Ext W1 W2 → ∀ v d, Rep G B W1 v d → Rep G B W2 v d := fun x v d r => Rep.ext R1 x d v r
  refine ⟨fun i m σ' H' => m = src.items.length - i ∧ i ≤ src.items.length ∧ ∃ W2 env2, W2.H = H' ∧ Ext W1 W2 ∧ Rel G B W2 ∧ Slots G B W2 σ' env2 ∧ Out G B W2 E0 (forGo t b src (src.items.drop i) env2 W2.st) (FlQ G B XW D),
    ⟨_, rfl, Nat.zero_le _, W1, env, rfl, R1.refl, R1, S1, o1⟩, ?_⟩
  rintro i m σ2 H2 ⟨rfl, hi2, W2, env2, rfl, x2, R2, S2, o2⟩
  by_cases ok : src.okS W2.st
  · obtain ⟨w1, w2⟩ := wk W2 x2 B (fun _ h => h) R2 (rep x2) ok
    by_cases hlt : i < src.items.length
    · have ed : src.items.drop i = src.items[i] :: src.items.drop (i + 1) := List.drop_eq_getElem_cons hlt
      rw [ed] at o2
      unfold forGo at o2
      rw [if_pos ok] at o2
      obtain ⟨hgo, hy⟩ := w1 i _ (List.getElem?_eq_getElem hlt)
      refine .inr ⟨hgo, fun σ' H' => ∃ W3 env3, W3.H = H' ∧ Ext W1 W3 ∧ Rel G B W3 ∧ Slots G B W3 σ' env3 ∧ Out G B W3 E0 (forGo t b src (src.items.drop (i + 1)) env3 W3.st) (FlQ G B XW D), fun σ' H' n => ⟨_, ?_, rfl, hlt, n⟩, fun x H' y => ?_⟩
      · omega
      · obtain ⟨W3, rfl, es, er, _, x3, R3, r3⟩ := hy x H' y
        cases eb : bindT t src.items[i] env2 with
        | none => rw [eb] at o2; exact o2.elim
        | some env3 =>
          rw [eb] at o2
          rw [← hK]
          refine gT_ok R3 t _ env2 env3 σ2 x _ (S2.ext R2 x3) r3 eb fun σ3 S3 _ => ?_
          refine ⟨B, W3, env3, rfl, R3, S3, ?_⟩
          rw [es]
          have o3 := Out.ext o2 x3
          simp only at o3
          cases q : b env3 W2.st with
          | ok fl s =>
            rw [q] at o3
            cases fl with
            | nx e4 => exact fun W4 x4 R4 e5 σ4 S4 => ⟨W4, e4, rfl, (x2.trans x3).trans x4, R4, S4, by subst e5; exact Out.ext o3 x4⟩
            | ct e4 => exact fun W4 x4 R4 e5 σ4 S4 => ⟨W4, e4, rfl, (x2.trans x3).trans x4, R4, S4, by subst e5; exact Out.ext o3 x4⟩
            | bk e4 => exact fun W4 x4 R4 e5 σ4 S4 => o3 W4 x4 R4 e5 σ4 S4
            | rt d => exact o3
            | xc e env => exact o3
          | exc e s => rw [q] at o3; exact o3
          | bad => rw [q] at o3; exact o3
    · have e : i = src.items.length := by omega
      subst e
      rw [List.drop_length] at o2
      unfold forGo at o2
      rw [if_pos ok] at o2
      exact .inl ⟨w2 _ (Nat.le_refl _), o2.ret R2 σ2 S2⟩
  · exfalso
    cases q : src.items.drop i with
    | nil => rw [q] at o2; unfold forGo at o2; rw [if_neg ok] at o2; exact o2
    | cons d ds => rw [q] at o2; unfold forGo at o2; rw [if_neg ok] at o2; exact o2
/-! ### while -/
def whileGo (c : M Bool) (b : SM) : Nat → Sl → Store → R Fl
  | 0, _, _ => .bad
  | n + 1, env, st => lift (c env st) env fun k s => if k then (match b env s with
    | .ok (.nx env2) s2 => whileGo c b n env2 s2
    | .ok (.ct env2) s2 => whileGo c b n env2 s2
    | .ok (.bk env2) s2 => .ok (.nx env2) s2
    | r => r) else .ok (.nx env) s
theorem js_while {c : Expr} {mc : M Bool} (n : Nat) (hp : PassesOwn (model X.prog X.w) X.A X.env X.xe) (hc : PT X c (tT G (eX XW) mc)) (hb : PSs X body (tS G XW b)) : PS X (.While c body [] pos) (tS G XW (whileGo mc b n)) := PS.weak (ps_while hp hc hb) fun D σ H ⟨B, W, env, e, R, S, o⟩ => by
  subst e
  refine ⟨fun m σ' H' => ∃ W2 env2, W2.H = H' ∧ Rel G B W2 ∧ Slots G B W2 σ' env2 ∧ Out G B W2 E0 (whileGo mc b m env2 W2.st) (FlQ G B XW D), ⟨n, W, env, rfl, R, S, o⟩, ?_⟩
  rintro m σ2 H2 ⟨W2, env2, rfl, R2, S2, o2⟩
  cases m with
  | zero => exact o2.elim
  | succ m =>
    unfold whileGo at o2
    refine sT R2 S2 o2 fun k W3 x3 R3 S3 o3 => ?_
    cases k with
    | false => exact o3.ret R3 σ2 S3
    | true =>
      rw [if_pos rfl]
      refine ⟨fun σ' H' => ∃ W4 env4, W4.H = H' ∧ Rel G B W4 ∧ Slots G B W4 σ' env4 ∧ Out G B W4 E0 (whileGo mc b m env4 W4.st) (FlQ G B XW D), fun σ' H' q => ⟨m, Nat.lt_succ_self m, q⟩, B, W3, env2, rfl, R3, S3, ?_⟩
      simp only [if_pos] at o3
      cases q : b env2 W3.st with
      | ok fl s =>
        rw [q] at o3
        cases fl with
        | nx e4 => exact fun W4 x4 R4 e5 σ4 S4 => ⟨W4, e4, rfl, R4, S4, by subst e5; exact Out.ext o3 x4⟩
        | ct e4 => exact fun W4 x4 R4 e5 σ4 S4 => ⟨W4, e4, rfl, R4, S4, by subst e5; exact Out.ext o3 x4⟩
        | bk e4 => exact fun W4 x4 R4 e5 σ4 S4 => o3 W4 x4 R4 e5 σ4 S4
        | rt d => exact o3
        | xc e env => exact o3
      | exc e s => rw [q] at o3; exact o3
      | bad => rw [q] at o3; exact o3
end
end DL

set_option maxHeartbeats 2000000
/-! DL8: list comprehensions. -/
namespace DL
open PySem PySem.Spec PyProof.Rows L2

section
variable {G : Cn} {B B' : Addr → Prop} {W W' : Wd}
mutual
theorem Rep.move (ht : ∀ a o, W.H a = some o → isCell o = false → W'.H a = some o) (hm : ∀ a o, W.H a = some o → ¬ Mu B W a → W'.H a = some o ∧ ¬ Mu B' W' a) (hr : ∀ (n : Nat) (a : Addr), W.r[n]? = some a → W'.r[n]? = some a) : ∀ (d : D) (v : V), Rep G B W v d → Rep G B' W' v d
  | .non, _, h => by cases h; exact .non
  | .bl b, _, h => by cases h; exact .bl b
  | .int i, _, h => by cases h; exact .int i
  | .str i, _, h => by cases h; exact .str i
  | .tup ds, _, h => by
    cases h with
    | tup h t =>
      refine .tup ?_ (Reps.move ht hm hr ds _ t)
      rcases h with (h | ⟨o, h⟩) | h
      · exact .inl (.inl (ht _ _ h rfl))
      · exact .inl (.inr ⟨o, ht _ _ h rfl⟩)
      · exact .inr h
  | .lst ds, _, h => by
    cases h with
    | lst h m t => exact .lst (hm _ _ h m).1 (hm _ _ h m).2 (Reps.move ht hm hr ds _ t)
  | .fro ds, _, h => by
    cases h with
    | fro h t =>
      refine .fro ?_ (Reps.move ht hm hr ds _ t)
      rcases h with ⟨o, h⟩ | h
      · exact .inl ⟨o, ht _ _ h rfl⟩
      · exact .inr h
  | .dct ks ds, _, h => by
    cases h with
    | dct h m e t => exact .dct (hm _ _ h m).1 (hm _ _ h m).2 e (Reps.move ht hm hr ds _ t)
  | .obj c ns ds, _, h => by
    cases h with
    | obj h m e t => exact .obj (hm _ _ h m).1 (hm _ _ h m).2 e (Reps.move ht hm hr ds _ t)
  | .loc _, _, h => by
    cases h with
    | loc h => exact .loc (hr _ _ h)
  | .exn _ _ ds, _, h => by
    cases h with
    | exn0 h => exact .exn0 h
    | exn1 h hx e t => exact .exn1 h (ht _ _ hx rfl) e (Reps.move ht hm hr ds _ t)
theorem Reps.move (ht : ∀ a o, W.H a = some o → isCell o = false → W'.H a = some o) (hm : ∀ a o, W.H a = some o → ¬ Mu B W a → W'.H a = some o ∧ ¬ Mu B' W' a) (hr : ∀ (n : Nat) (a : Addr), W.r[n]? = some a → W'.r[n]? = some a) : ∀ (ds : List D) (vs : List V), Reps G B W vs ds → Reps G B' W' vs ds
  | [], _, h => by cases h; exact .nil
  | d :: ds, _, h => by
    cases h with
    | cons h t => exact .cons (Rep.move ht hm hr d _ h) (Reps.move ht hm hr ds _ t)
end
theorem CellOk.move (ht : ∀ a o, W.H a = some o → isCell o = false → W'.H a = some o) (hm : ∀ a o, W.H a = some o → ¬ Mu B W a → W'.H a = some o ∧ ¬ Mu B' W' a) (hr : ∀ (n : Nat) (a : Addr), W.r[n]? = some a → W'.r[n]? = some a) {a : Addr} {c : Cell} (e : W'.H a = W.H a) (h : CellOk G B W a c) : CellOk G B' W' a c := by
  cases c with
  | lst ds =>
    obtain ⟨vs, h1, h2⟩ := h
    exact ⟨vs, e.trans h1, Reps.move ht hm hr _ _ h2⟩
  | dct ks ds =>
    obtain ⟨vs, h1, h2, h3⟩ := h
    exact ⟨vs, e.trans h1, h2, Reps.move ht hm hr _ _ h3⟩
  | ins c ns ds =>
    obtain ⟨dx, vs, h1, h2, h3⟩ := h
    exact ⟨dx, vs, e.trans h1, h2, Reps.move ht hm hr _ _ h3⟩
  | dead =>
    obtain ⟨o, h1⟩ := h
    exact ⟨o, e.trans h1⟩
/-! a list that grows at p, aside: p is banned meanwhile -/
def banP (B : Addr → Prop) (p : Addr) : Addr → Prop := fun a => B a ∨ a = p
/-- the world with the new list at p -/
theorem asideM {p : Addr} {vs : List V} (R : Rel G B W) (h : W.H p = none) : (∀ a o, W.H a = some o → isCell o = false → (W.new p (.lst vs)).H a = some o) ∧ (∀ a o, W.H a = some o → ¬ Mu B W a → (W.new p (.lst vs)).H a = some o ∧ ¬ Mu (banP B p) (W.new p (.lst vs)) a) := by
  have k : ∀ a o, W.H a = some o → (W.new p (.lst vs)).H a = some o := fun a o e => (upd_ne (ne_of_none e h)).trans e
  refine ⟨fun a o e _ => k a o e, fun a o e m => ⟨k a o e, fun z => ?_⟩⟩
  rcases z with (z | z) | z
  · exact m (.inl z)
  · exact ne_of_none e h z
  · exact m (.inr z)
theorem Rel.aside {p : Addr} {vs : List V} (R : Rel G B W) (h : W.H p = none) : Rel G (banP B p) (W.new p (.lst vs)) := by
  obtain ⟨ht, hm⟩ := asideM (vs := vs) R h
  refine ⟨R.len, R.nd, fun a ha => ?_, fun n a c h1 h2 h3 => ?_, fun n a c h1 h2 => ?_⟩
  · rcases ha with ha | ha
    · obtain ⟨u, e⟩ := R.ban a ha
      exact ⟨u, (upd_ne (ne_of_none e h)).trans e⟩
    · subst ha
      exact ⟨_, upd_same⟩
  · intro z
    rcases z with z | z
    · exact R.sep n a c h1 h2 h3 z
    · obtain ⟨u, e⟩ := R.there h1
      exact ne_of_none e h z
  · obtain ⟨u, e⟩ := R.there h1
    exact (R.cell n a c h1 h2).move ht hm (fun _ _ q => q) (upd_ne (ne_of_none e h))
/-- no longer banned -/
theorem unbanM {p : Addr} : (∀ a o, W.H a = some o → isCell o = false → W.H a = some o) ∧ (∀ a o, W.H a = some o → ¬ Mu (banP B p) W a → W.H a = some o ∧ ¬ Mu B W a) :=
  ⟨fun _ _ e _ => e, fun a o e m => ⟨e, fun z => m (z.elim (fun q => .inl (.inl q)) .inr)⟩⟩
theorem Rel.unban {p : Addr} (R : Rel G (banP B p) W) : Rel G B W := by
  obtain ⟨ht, hm⟩ := unbanM (B := B) (W := W) (p := p)
  exact ⟨R.len, R.nd, fun a ha => R.ban a (.inl ha), fun n a c h1 h2 h3 z => R.sep n a c h1 h2 h3 (.inl z), fun n a c h1 h2 => (R.cell n a c h1 h2).move ht hm (fun _ _ q => q) rfl⟩
theorem Rep.unban {p : Addr} {d : D} {v : V} (r : Rep G (banP B p) W v d) : Rep G B W v d := Rep.move (unbanM (B := B) (W := W) (p := p)).1 (unbanM (B := B) (W := W) (p := p)).2 (fun _ _ q => q) d v r
theorem Reps.unban {p : Addr} {d : List D} {v : List V} (r : Reps G (banP B p) W v d) : Reps G B W v d := Reps.move (unbanM (B := B) (W := W) (p := p)).1 (unbanM (B := B) (W := W) (p := p)).2 (fun _ _ q => q) d v r
/-- from a world where p was free -/
theorem bringM {p : Addr} (R : Rel G B W) (h : W.H p = none) (x : Ext W W') : (∀ a o, W.H a = some o → isCell o = false → W'.H a = some o) ∧ (∀ a o, W.H a = some o → ¬ Mu B W a → W'.H a = some o ∧ ¬ Mu (banP B p) W' a) ∧ (∀ (n : Nat) (a : Addr), W.r[n]? = some a → W'.r[n]? = some a) := by
  refine ⟨fun a o e c => x.keep a o e (R.notAl e c), fun a o e m => ⟨x.keep a o e fun z => m (.inr z), fun z => ?_⟩, fun n a e => ?_⟩
  · rcases z with (z | z) | z
    · exact m (.inl z)
    · exact ne_of_none e h z
    · exact m (.inr (x.al e z))
  · obtain ⟨mm, em, _⟩ := x.more
    rw [em]
    exact (List.getElem?_append_left (List.getElem?_eq_some_iff.mp e).1).trans e
theorem Ext.out {p : Addr} {o : HO} (x : Ext W W') (h : W.H p = some o) (d : ∀ n : Nat, W.r[n]? ≠ some p) : ∀ n : Nat, W'.r[n]? ≠ some p := by
  intro n e
  obtain ⟨mm, em, hm⟩ := x.more
  rw [em] at e
  by_cases hn : n < W.r.length
  · rw [List.getElem?_append_left hn] at e
    exact d n e
  · rw [List.getElem?_append_right (by omega)] at e
    have := hm p (List.mem_of_getElem? e)
    rw [h] at this
    cases this
theorem notAl_out {p : Addr} (d : ∀ n : Nat, W.r[n]? ≠ some p) : ¬ Al W p := fun ⟨n, _, e, _⟩ => d n e
theorem Ext.newP {p : Addr} {o : HO} (x : Ext W W') (h : W.H p = none) : Ext W (W'.new p o) := by
  refine ⟨x.l0, x.len, x.more, x.dead, fun a u e n => (upd_ne (ne_of_none e h)).trans (x.keep a u e n), fun a u e => ?_⟩
  obtain ⟨u', e'⟩ := x.dom a u e
  exact ⟨u', (upd_ne (ne_of_none e h)).trans e'⟩
/-- the list at p grows -/
theorem growM {p : Addr} {vs us : List V} (R : Rel G B W) (hB : B p) (h : W.H p = some (.lst vs)) : (∀ a o, W.H a = some o → isCell o = false → (W.new p (.lst us)).H a = some o) ∧ (∀ a o, W.H a = some o → ¬ Mu B W a → (W.new p (.lst us)).H a = some o ∧ ¬ Mu B (W.new p (.lst us)) a) := by
  refine ⟨fun a o e c => (upd_ne fun z => ?_).trans e, fun a o e m => ⟨(upd_ne fun z => m (.inl (by rw [z]; exact hB))).trans e, m⟩⟩
  subst z
  rw [h] at e
  cases e
  cases c
theorem Rel.growP {p : Addr} {vs us : List V} (R : Rel G B W) (hB : B p) (h : W.H p = some (.lst vs)) (dead : ∀ (n : Nat), W.r[n]? ≠ some p) : Rel G B (W.new p (.lst us)) := by
  obtain ⟨ht, hm⟩ := growM (us := us) R hB h
  refine ⟨R.len, R.nd, fun a ha => ?_, R.sep, fun n a c h1 h2 => ?_⟩
  · by_cases e : a = p
    · subst e; exact ⟨_, upd_same⟩
    · obtain ⟨u, q⟩ := R.ban a ha
      exact ⟨u, (upd_ne e).trans q⟩
  · exact (R.cell n a c h1 h2).move ht hm (fun _ _ q => q) (upd_ne fun e => dead n (by rw [← e]; exact h1))
end
open Classical in
noncomputable def lcGo (t : Tgt) (tt : M Bool) (te : M D) (src : Src) (env : Sl) : List D → List D → Store → R D
  | [], acc, st => if src.okS st then .ok (.lst acc) st else .bad
  | d :: ds, acc, st => if src.okS st then (match bindT t d env with
    | some env1 => (match tt env1 st with
      | .ok true s => (match te env1 s with
        | .ok y s2 => if acc.length < sizeLine then lcGo t tt te src env ds (acc ++ [y]) s2 else .bad
        | _ => .bad)
      | .ok false s => lcGo t tt te src env ds acc s
      | _ => .bad)
    | none => .bad) else .bad
def wipeD (env : Sl) : List Nat → Sl
  | [] => env
  | v :: vs => (wipeD env vs).set v none
noncomputable def mLc (t : Tgt) (mi : M Src) (tt : M Bool) (te : M D) (own : List Nat) : M D := fun env st => (mi env st).bind fun src s => lcGo t tt te src (wipeD env own) src.items [] s
abbrev e0 : ES := fun _ _ _ _ => False
def mYes : M Bool := fun _ st => .ok true st
section
variable {X : Cx} {G : Cn} {E : ES} {tg iter elt : Expr} {ifs : List Expr} {mi : M Src} {tt : M Bool} {te : M D} {t : Tgt} {pos : Pos}
theorem Slots.wipe {B : Addr → Prop} {W : Wd} {σ : L2.St} {env : Sl} (S : Slots G B W σ env) : ∀ vs : List Nat, Slots G B W (L2.wipe σ vs) (wipeD env vs)
  | [] => S
  | v :: vs => (Slots.wipe S vs).clear v none
theorem Slots.move {B B' : Addr → Prop} {W W' : Wd} {σ : L2.St} {env : Sl} (ht : ∀ a o, W.H a = some o → isCell o = false → W'.H a = some o) (hm : ∀ a o, W.H a = some o → ¬ Mu B W a → W'.H a = some o ∧ ¬ Mu B' W' a) (hr : ∀ (n : Nat) (a : Addr), W.r[n]? = some a → W'.r[n]? = some a) (S : Slots G B W σ env) : Slots G B' W' σ env :=
  ⟨S.1, fun i d e => let ⟨v, h1, h2⟩ := S.2 i d e; ⟨v, h1, Rep.move ht hm hr _ _ h2⟩⟩
theorem jts_nil : PTs X [] (tT G E mYes) := ⟨fun pins s σ H Q I ⟨B, W, env, e, R, S, o⟩ => pts_nil.run pins s σ H Q I (by subst e; exact o.ret R)⟩
theorem jts_one {c : Expr} {m : M Bool} (h : PT X c (tT G E m)) : PTs X [c] (tT G E m) := pts_one h
theorem wipe_out2 {σ : L2.St} : ∀ (vs us : List Nat), (∀ i ∈ us, i ∈ vs) → wipe (wipe σ us) vs = wipe σ vs
  | vs, [], _ => rfl
  | vs, u :: us, h => by
    show wipe ((wipe σ us).set u none) vs = _
    rw [wipe_set (h u (by simp)), wipe_out2 vs us fun i hi => h i (by simp [hi])]
/-- where the new list stands: at p, aside from all -/
def LcEnd (G : Cn) (B : Addr → Prop) (W : Wd) (Q : VK) (d : D) (W' : Wd) : Prop := ∀ (p : Addr) (us : List V) (acc : List D), d = .lst acc → W.H p = none → Ext W W' → Rel G (banP B p) W' → W'.H p = some (.lst us) → Reps G (banP B p) W' us acc → (∀ n : Nat, W'.r[n]? ≠ some p) → Q (.ref p) W'.H
theorem lc_core {vs : List Nat} (hK : G.K = X.K) (hsl : ∀ i ∈ t.sl, i ∈ vs) {σ : L2.St} {Q : VK} {B : Addr → Prop} {W : Wd} {env : Sl} (R : Rel G B W) (S : Slots G B W σ env) (o : Out G B W (E σ) (mLc t mi tt te vs env W.st) (LcEnd G B W Q)) : tLc (tI G E mi) (gT X.K t) (tT G e0 tt) (tE G e0 te) vs σ W.H Q := by
  refine ⟨B, W, env, rfl, R, S, o.bind.imp fun src W1 x1 R1 o1 J wk => ?_⟩
  have S1 := S.ext R x1
  intro p hp
  rw [← hK]
  have o1' : Out G B W1 (E σ) (lcGo t tt te src (wipeD env vs) src.items [] W1.st) (LcEnd G B W Q) := o1
  let Nx : Nat → Hp → Prop := fun i H' => i ≤ src.items.length ∧ ∃ (W2 : Wd) (acc : List D) (us : List V), W2.H = H' ∧ Ext W1 W2 ∧ Rel G (banP B p) W2 ∧ W2.H p = some (.lst us) ∧ Reps G (banP B p) W2 us acc ∧ (∀ n : Nat, W2.r[n]? ≠ some p) ∧
    Out G B W1 (E σ) (lcGo t tt te src (wipeD env vs) (src.items.drop i) acc W2.st) (LcEnd G B W Q)
  have out1 : ∀ n : Nat, W1.r[n]? ≠ some p := fun n e => by
    obtain ⟨u, q⟩ := R1.there e
    rw [hp] at q; cases q
  refine ⟨fun i m H' => m = src.items.length - i ∧ Nx i H', ⟨_, rfl, Nat.zero_le _, W1.new p (.lst []), [], [], rfl, Ext.new R1.len hp, R1.aside hp, upd_same, .nil, out1, o1'⟩, ?_⟩
  rintro i m H2 ⟨rfl, hi2, W2, acc, us, rfl, x2, R2, hp2, racc, out2, o2⟩
  obtain ⟨bt, bm, br⟩ := bringM (p := p) R1 hp x2
  by_cases okk : src.okS W2.st
  · obtain ⟨w1, w2⟩ := wk W2 x2 (banP B p) (fun _ h => .inl h) R2 (fun v d r => Rep.move bt bm br d v r) okk
    by_cases hlt : i < src.items.length
    · have ed : src.items.drop i = src.items[i] :: src.items.drop (i + 1) := List.drop_eq_getElem_cons hlt
      rw [ed] at o2
      unfold lcGo at o2
      rw [if_pos okk] at o2
      obtain ⟨hgo, hy⟩ := w1 i _ (List.getElem?_eq_getElem hlt)
      refine .inr ⟨hgo, Nx (i + 1), fun H' n => ⟨_, by omega, rfl, n⟩, fun x H' y => ?_⟩
      obtain ⟨W3, rfl, es, er, mono, x3, R3, r3⟩ := hy x H' y
      cases eb : bindT t src.items[i] (wipeD env vs) with
      | none => rw [eb] at o2; exact o2.elim
      | some env1 =>
        rw [eb] at o2
        simp only at o2
        have S2 : Slots G (banP B p) W2 σ env := S1.move bt bm br
        refine gT_ok R3 t _ _ env1 (wipe σ vs) x _ ((S2.ext R2 x3).wipe vs) r3 eb fun σ3 S3 we => ?_
        refine ⟨(we vs hsl).trans (wipe_out2 vs vs fun _ h => h), banP B p, W3, env1, rfl, R3, S3, ?_⟩
        rw [es]
        have hp3 : W3.H p = some (.lst us) := mono p _ hp2
        have out3 : ∀ n : Nat, W3.r[n]? ≠ some p := fun n => by rw [er]; exact out2 n
        cases q : tt env1 W2.st with
        | ok b s =>
          rw [q] at o2
          cases b with
          | false =>
            intro W4 x4 R4 e4
            show if false = true then _ else _
            rw [if_neg Bool.false_ne_true]
            have hp4 := x4.keep p _ hp3 (notAl_out out3)
            exact ⟨hlt, W4, acc, us, rfl, (x2.trans x3).trans x4, R4, hp4, Reps.ext R3 x4 _ _ (Reps.ext R2 x3 _ _ racc), x4.out hp3 out3, by rw [e4]; exact o2⟩
          | true =>
            intro W4 x4 R4 e4
            show if true = true then _ else _
            rw [if_pos rfl]
            refine ⟨banP B p, W4, env1, rfl, R4, S3.ext R3 x4, ?_⟩
            rw [e4]
            simp only at o2
            cases q2 : te env1 s with
            | ok y s2 =>
              rw [q2] at o2
              simp only at o2
              intro W5 x5 R5 e5 v rv
              have hp4 := x4.keep p _ hp3 (notAl_out out3)
              have out4 := x4.out hp3 out3
              have hp5 := x5.keep p _ hp4 (notAl_out out4)
              have out5 := x5.out hp4 out4
              have racc5 := Reps.ext R4 x5 _ _ (Reps.ext R3 x4 _ _ (Reps.ext R2 x3 _ _ racc))
              by_cases hz : acc.length < sizeLine
              · rw [if_pos hz] at o2
                obtain ⟨gt, gm⟩ := growM (us := us ++ [v]) R5 (.inr rfl) hp5
                refine ⟨us, hp5, by rw [racc.length]; exact hz, hlt, W5.new p (.lst (us ++ [v])), acc ++ [y], us ++ [v], rfl, (((x2.trans x3).trans x4).trans x5).newP hp, R5.growP (.inr rfl) hp5 out5, upd_same, Reps.move gt gm (fun _ _ q => q) _ _ (racc5.append (.cons rv .nil)), out5, ?_⟩
                show Out G B W1 (E σ) (lcGo t tt te src (wipeD env vs) (src.items.drop (i + 1)) (acc ++ [y]) W5.st) _
                rw [e5]
                exact o2
              · rw [if_neg hz] at o2
                exact o2.elim
            | exc e s => rw [q2] at o2; exact o2.elim
            | bad => rw [q2] at o2; exact o2.elim
        | exc e s => rw [q] at o2; exact o2.elim
        | bad => rw [q] at o2; exact o2.elim
    · have e : i = src.items.length := by omega
      subst e
      rw [List.drop_length] at o2
      unfold lcGo at o2
      rw [if_pos okk] at o2
      have hp0 : W.H p = none := by
        cases q : W.H p with
        | none => rfl
        | some u =>
          obtain ⟨u', e'⟩ := x1.dom p u q
          rw [hp] at e'; cases e'
      exact .inl ⟨w2 _ (Nat.le_refl _), o2 W2 x2 R2.unban rfl p us acc rfl hp0 (x1.trans x2) R2 hp2 racc out2⟩
  · exfalso
    cases q : src.items.drop i with
    | nil => rw [q] at o2; unfold lcGo at o2; rw [if_neg okk] at o2; exact o2
    | cons d ds => rw [q] at o2; unfold lcGo at o2; rw [if_neg okk] at o2; exact o2
theorem lc_ok {vs : List Nat} (hK : G.K = X.K) (hsl : ∀ i ∈ t.sl, i ∈ vs) {σ : L2.St} {H : Hp} {Q : VK} (hq : tE G E (mLc t mi tt te vs) σ H Q) : tLc (tI G E mi) (gT X.K t) (tT G e0 tt) (tE G e0 te) vs σ H Q := by
  obtain ⟨B, W, env, e, R, S, o⟩ := hq
  subst e
  refine lc_core hK hsl R S (o.imp fun d W2 x R2' q p us acc ed hp x2 R2 hp2 racc out2 => ?_)
  subst ed
  refine q _ (.lst hp2 (fun z => ?_) racc.unban)
  rcases z with z | z
  · exact R.free hp (.inl z)
  · exact notAl_out out2 z
/-- .. as a cell of its own -/
noncomputable def mLcC (t : Tgt) (mi : M Src) (tt : M Bool) (te : M D) (own : List Nat) : M D := fun env st => (mLc t mi tt te own env st).bind fun d s => match d with
  | .lst acc => .ok (.loc s.length) (s ++ [Cell.lst acc])
  | _ => .bad
theorem lc_okC {vs : List Nat} (hK : G.K = X.K) (hsl : ∀ i ∈ t.sl, i ∈ vs) {σ : L2.St} {H : Hp} {Q : VK} (hq : tE G E (mLcC t mi tt te vs) σ H Q) : tLc (tI G E mi) (gT X.K t) (tT G e0 tt) (tE G e0 te) vs σ H Q := by
  obtain ⟨B, W, env, e, R, S, o⟩ := hq
  subst e
  refine lc_core hK hsl R S ?_
  unfold mLcC at o
  cases z : mLc t mi tt te vs env W.st with
  | exc e s => rw [z] at o; exact o
  | bad => rw [z] at o; exact o.elim
  | ok d s =>
  rw [z] at o
  intro W2 x R2' es p us acc ed hp x2 R2 hp2 racc out2
  subst ed es
  have q : Out G B W (E σ) (.ok (.loc W2.st.length) (W2.st ++ [Cell.lst acc])) (fun d W' => ∀ v, Rep G B W' v d → Q v W'.H) := o
  let W3 : Wd := ⟨W2.r ++ [p], W2.st ++ [Cell.lst acc], W2.H⟩
  have al3 : ∀ a, Al W3 a → Al W2 a ∨ a = p := by
    rintro a ⟨n, c, h1, h2, h3⟩
    by_cases hn : n < W2.r.length
    · have hn2 : n < W2.st.length := by rw [← R2.len]; exact hn
      exact .inl ⟨n, c, (List.getElem?_append_left hn).symm.trans h1, (List.getElem?_append_left hn2).symm.trans h2, h3⟩
    · refine .inr ?_
      have h1' : (W2.r ++ [p])[n]? = some a := h1
      rw [List.getElem?_append_right (by omega)] at h1'
      have := List.mem_of_getElem? h1'
      simpa using this
  have ht : ∀ a o, W2.H a = some o → isCell o = false → W3.H a = some o := fun a o e _ => e
  have hm : ∀ a o, W2.H a = some o → ¬ Mu (banP B p) W2 a → W3.H a = some o ∧ ¬ Mu B W3 a := fun a o e m => ⟨e, fun z => m (by
    rcases z with z | z
    · exact .inl (.inl z)
    · rcases al3 a z with z | z
      · exact .inr z
      · exact .inl (.inr z))⟩
  have hr : ∀ (n : Nat) (a : Addr), W2.r[n]? = some a → W3.r[n]? = some a := fun n a e => (List.getElem?_append_left (List.getElem?_eq_some_iff.mp e).1).trans e
  have racc3 : Reps G B W3 us acc := Reps.move ht hm hr _ _ racc
  have R3 : Rel G B W3 := by
    have l := R2.len
    have old : ∀ (n : Nat) (a : Addr) (c : Cell), W3.r[n]? = some a → W3.st[n]? = some c → (W2.r[n]? = some a ∧ W2.st[n]? = some c) ∨ (a = p ∧ c = Cell.lst acc) := fun n a c h1 h2 => by
      by_cases hn : n < W2.r.length
      · have hn2 : n < W2.st.length := by rw [← l]; exact hn
        exact .inl ⟨(List.getElem?_append_left hn).symm.trans h1, (List.getElem?_append_left hn2).symm.trans h2⟩
      · have h1' : (W2.r ++ [p])[n]? = some a := h1
        have h2' : (W2.st ++ [Cell.lst acc])[n]? = some c := h2
        rw [List.getElem?_append_right (by omega)] at h1'
        rw [List.getElem?_append_right (by omega)] at h2'
        have q1 := List.mem_of_getElem? h1'
        have q2 := List.mem_of_getElem? h2'
        exact .inr ⟨by simpa using q1, by simpa using q2⟩
    refine ⟨by simp [W3, l], ?_, fun a ha => R2.ban a (.inl ha), fun n a c h1 h2 h3 hb => ?_, fun n a c h1 h2 => ?_⟩
    · refine List.nodup_append.mpr ⟨R2.nd, by simp, fun a ha b hb e => ?_⟩
      rw [List.mem_singleton] at hb
      subst hb e
      obtain ⟨n, hn, e⟩ := List.mem_iff_getElem.mp ha
      exact out2 n (by rw [List.getElem?_eq_getElem hn, e])
    · rcases old n a c h1 h2 with ⟨h1, h2⟩ | ⟨e1, e2⟩
      · exact R2.sep n a c h1 h2 h3 (.inl hb)
      · subst e1
        exact R.free hp (.inl hb)
    · rcases old n a c h1 h2 with ⟨h1, h2⟩ | ⟨e1, e2⟩
      · exact (R2.cell n a c h1 h2).move ht hm hr rfl
      · subst e1 e2
        exact ⟨us, hp2, racc3⟩
  have x3 : Ext W W3 := by
    refine ⟨x2.l0, Nat.le_trans x2.len (by simp [W3]), ?_, fun n h => ?_, x2.keep, x2.dom⟩
    · obtain ⟨m, e, hm⟩ := x2.more
      refine ⟨m ++ [p], by simp [W3, e], fun a ha => ?_⟩
      rcases List.mem_append.mp ha with ha | ha
      · exact hm a ha
      · rw [List.mem_singleton] at ha
        subst ha
        exact hp
    · have h2 := x2.dead n h
      exact (List.getElem?_append_left (List.getElem?_eq_some_iff.mp h2).1).trans h2
  exact q W3 x3 R3 rfl _ (.loc (by
    show (W2.r ++ [p])[W2.st.length]? = some p
    rw [← R2.len, List.getElem?_append_right (Nat.le_refl _)]
    simp))
theorem je_lc {scope : Scope} {own : List (Str × Nat)} (hK : G.K = X.K) (hc : X.calm = true) (hN : X.N.Nodup) (hi : PI X tg iter (tI G E mi)) (ok : BlkOk X.N X.env.scope scope own) (hsl : ∀ i ∈ t.sl, i ∈ own.map (·.2))
    (hg : ∀ (s : Shared) (H : Hp) (C : Addr) (cl : List (Str × Addr)) (fp : List Addr), PG (X.blk s H scope (compEnvC scope cl C X.env) fp) tg (gT X.K t))
    (ht : ∀ (s : Shared) (H : Hp) (C : Addr) (cl : List (Str × Addr)) (fp : List Addr), PTs (X.blk s H scope (compEnvC scope cl C X.env) fp) ifs (tT G e0 tt))
    (he : ∀ (s : Shared) (H : Hp) (C : Addr) (cl : List (Str × Addr)) (fp : List Addr), PE (X.blk s H scope (compEnvC scope cl C X.env) fp) elt (tE G e0 te))
    (hs : ∀ x, foldedSetIterable iter X.env x = pure x := by intro _; rfl) : PE X (.ListComp elt [⟨tg, iter, ifs, 0⟩] scope pos) (tE G E (mLc t mi tt te (own.map (·.2)))) :=
  PE.weak (pe_lc hc hN hi ok hg ht he hs) fun _ _ _ h => lc_ok hK hsl h
/-- y = [..], y a plain local -/
theorem js_setLc {XW : WX} {i : Nat} {y : Str} {py spos : Pos} {scope : Scope} {own : List (Str × Nat)} (hK : G.K = X.K) (hc : X.calm = true) (hN : X.N.Nodup) (hy : X.N[i]? = some y) (hyl : X.env.scope.names.lookup y = some .local)
    (hsw : swapsWith (.ListComp elt [⟨tg, iter, ifs, 0⟩] scope pos) (some (.Name y py)) spos.line X.env = pure true) (hi : PI X tg iter (tI G (eX XW) mi)) (ok : BlkOk X.N X.env.scope scope own) (hsl : ∀ i ∈ t.sl, i ∈ own.map (·.2))
    (hg : ∀ (s : Shared) (H : Hp) (C : Addr) (cl : List (Str × Addr)) (fp : List Addr), PG (X.blk s H scope (compEnvC scope cl C X.env) fp) tg (gT X.K t))
    (ht : ∀ (s : Shared) (H : Hp) (C : Addr) (cl : List (Str × Addr)) (fp : List Addr), PTs (X.blk s H scope (compEnvC scope cl C X.env) fp) ifs (tT G e0 tt))
    (he : ∀ (s : Shared) (H : Hp) (C : Addr) (cl : List (Str × Addr)) (fp : List Addr), PE (X.blk s H scope (compEnvC scope cl C X.env) fp) elt (tE G e0 te))
    (hs : ∀ x, foldedSetIterable iter X.env x = pure x := by intro _; rfl) : PS X (.Assign [.Name y py] (.ListComp elt [⟨tg, iter, ifs, 0⟩] scope pos) spos) (tS G XW (sSet i (mLc t mi tt te (own.map (·.2))))) :=
  PS.weak (ps_setLc hc hN hy hyl hsw hi ok hg ht he hs) fun D σ H ⟨B, W, env, e, R, S, o⟩ => by
    subst e
    exact lc_ok hK hsl (sE R S o fun d W1 v x1 R1 S1 r1 o1 => o1.ret R1 _ (S1.set i r1))
theorem je_lcC {scope : Scope} {own : List (Str × Nat)} (hK : G.K = X.K) (hc : X.calm = true) (hN : X.N.Nodup) (hi : PI X tg iter (tI G E mi)) (ok : BlkOk X.N X.env.scope scope own) (hsl : ∀ i ∈ t.sl, i ∈ own.map (·.2))
    (hg : ∀ (s : Shared) (H : Hp) (C : Addr) (cl : List (Str × Addr)) (fp : List Addr), PG (X.blk s H scope (compEnvC scope cl C X.env) fp) tg (gT X.K t))
    (ht : ∀ (s : Shared) (H : Hp) (C : Addr) (cl : List (Str × Addr)) (fp : List Addr), PTs (X.blk s H scope (compEnvC scope cl C X.env) fp) ifs (tT G e0 tt))
    (he : ∀ (s : Shared) (H : Hp) (C : Addr) (cl : List (Str × Addr)) (fp : List Addr), PE (X.blk s H scope (compEnvC scope cl C X.env) fp) elt (tE G e0 te))
    (hs : ∀ x, foldedSetIterable iter X.env x = pure x := by intro _; rfl) : PE X (.ListComp elt [⟨tg, iter, ifs, 0⟩] scope pos) (tE G E (mLcC t mi tt te (own.map (·.2)))) :=
  PE.weak (pe_lc hc hN hi ok hg ht he hs) fun _ _ _ h => lc_okC hK hsl h
theorem js_setLcC {XW : WX} {i : Nat} {y : Str} {py spos : Pos} {scope : Scope} {own : List (Str × Nat)} (hK : G.K = X.K) (hc : X.calm = true) (hN : X.N.Nodup) (hy : X.N[i]? = some y) (hyl : X.env.scope.names.lookup y = some .local)
    (hsw : swapsWith (.ListComp elt [⟨tg, iter, ifs, 0⟩] scope pos) (some (.Name y py)) spos.line X.env = pure true) (hi : PI X tg iter (tI G (eX XW) mi)) (ok : BlkOk X.N X.env.scope scope own) (hsl : ∀ i ∈ t.sl, i ∈ own.map (·.2))
    (hg : ∀ (s : Shared) (H : Hp) (C : Addr) (cl : List (Str × Addr)) (fp : List Addr), PG (X.blk s H scope (compEnvC scope cl C X.env) fp) tg (gT X.K t))
    (ht : ∀ (s : Shared) (H : Hp) (C : Addr) (cl : List (Str × Addr)) (fp : List Addr), PTs (X.blk s H scope (compEnvC scope cl C X.env) fp) ifs (tT G e0 tt))
    (he : ∀ (s : Shared) (H : Hp) (C : Addr) (cl : List (Str × Addr)) (fp : List Addr), PE (X.blk s H scope (compEnvC scope cl C X.env) fp) elt (tE G e0 te))
    (hs : ∀ x, foldedSetIterable iter X.env x = pure x := by intro _; rfl) : PS X (.Assign [.Name y py] (.ListComp elt [⟨tg, iter, ifs, 0⟩] scope pos) spos) (tS G XW (sSet i (mLcC t mi tt te (own.map (·.2))))) :=
  PS.weak (ps_setLc hc hN hy hyl hsw hi ok hg ht he hs) fun D σ H ⟨B, W, env, e, R, S, o⟩ => by
    subst e
    exact lc_okC hK hsl (sE R S o fun d W1 v x1 R1 S1 r1 o1 => o1.ret R1 _ (S1.set i r1))
end
end DL

set_option maxHeartbeats 2000000
/-! DL9: cells that change, built-in functions, isinstance, slices, a def. -/
namespace DL
open PySem PySem.Spec PyProof.Rows L2

/-! ### xs.append(e), xs.pop(i) -/
def listAt (st : Store) : D → Option (Nat × List D)
  | .loc n => match st[n]? with
    | some (.lst xs) => some (n, xs)
    | _ => none
  | _ => none
section
variable {G : Cn} {B : Addr → Prop} {W : Wd}
theorem Rep.listAt {v : V} {d : D} {n : Nat} {xs : List D} (R : Rel G B W) (r : Rep G B W v d) (e : DL.listAt W.st d = some (n, xs)) :
    ∃ a vs, v = .ref a ∧ W.r[n]? = some a ∧ W.st[n]? = some (.lst xs) ∧ W.H a = some (.lst vs) ∧ Reps G B W vs xs := by
  cases r with
  | @loc a m h =>
    cases q : W.st[m]? with
    | none => simp only [DL.listAt, q] at e; cases e
    | some c =>
      cases c with
      | lst ys =>
        simp only [DL.listAt, q] at e
        cases e
        obtain ⟨vs, h1, h2⟩ := R.cell _ a _ h q
        exact ⟨a, vs, rfl, h, q, h1, h2⟩
      | _ => simp only [DL.listAt, q] at e; cases e
  | _ => cases e
theorem lst_ne {xs : List D} : Cell.lst xs ≠ Cell.dead := fun h => by cases h
end
def mApp (mo : M D) (ms : M (List D)) : M D := fun env st => (mo env st).bind fun d s => match listAt s d with
  | some _ => (ms env s).bind fun ds s2 => (match listAt s2 d, ds with
    | some (n, xs), [y] => if xs.length < sizeLine then .ok .non (s2.set n (.lst (xs ++ [y]))) else .bad
    | _, _ => .bad)
  | none => .bad
def mPopAt (mo : M D) (ms : M (List D)) : M D := fun env st => (mo env st).bind fun d s => match listAt s d with
  | some _ => (ms env s).bind fun ds s2 => (match listAt s2 d, ds with
    | some (n, xs), [.int i] => if -(2 ^ 63) ≤ i ∧ i < 2 ^ 63 then (match seqIndex? i xs.length with
      | some k => (match xs[k]? with
        | some y => .ok y (s2.set n (.lst (xs.eraseIdx k)))
        | none => .bad)
      | none => .bad) else .bad
    | _, _ => .bad)
  | none => .bad
section
variable {X : Cx} {G : Cn} {E : ES} {o e : Expr} {es : List Expr} {mo : M D} {ms : M (List D)} {apos cpos : Pos}
theorem app_ok (hK : G.K = X.K) {σ : L2.St} {H : Hp} {Q : VK} (h : tE G E (mApp mo ms) σ H Q) : tBM X.K "list" rAppend (tE G E mo) (tA G E ms) σ H Q := by
  obtain ⟨B, W, env, rfl, R, S, o⟩ := h
  refine tE_of R S o fun d W1 v x1 R1 S1 r1 o1 => ?_
  cases q : listAt W1.st d with
  | none => simp only [q] at o1; exact o1.elim
  | some t =>
    obtain ⟨n1, xs1⟩ := t
    simp only [q] at o1
    obtain ⟨a, vs, rfl, h1, h2, h3, h4⟩ := r1.listAt R1 q
    refine ⟨.inl ⟨rfl, vs, SqL.of h3⟩, tA_of R1 S1 o1 fun ds W2 us x2 R2 S2 r2 o2 => ?_⟩
    have r1' := Rep.ext R1 x2 _ _ r1
    cases q2 : listAt W2.st d with
    | none => simp only [q2] at o2; exact o2.elim
    | some t2 =>
      obtain ⟨n, xs⟩ := t2
      simp only [q2] at o2
      obtain ⟨a', ws, ea, k1, k2, k3, k4⟩ := r1'.listAt R2 q2
      cases ea
      match ds, r2, o2 with
      | [y], .cons (v := u) ry .nil, o2 =>
        simp only at o2
        by_cases c : xs.length < sizeLine
        · rw [if_pos c] at o2
          have t' : Reps G B W2 (ws ++ [u]) (xs ++ [y]) := k4.append (.cons ry .nil)
          exact ⟨a, ws, u, rfl, rfl, k3, by rw [k4.length]; exact c, o2 (W2.put n (.lst (xs ++ [y])) a (.lst (ws ++ [u]))) (Ext.put R2.len k1 k2 lst_ne) (R2.putL k1 k2 lst_ne t') rfl _ .non⟩
        · rw [if_neg c] at o2
          exact o2.elim
theorem je_app (hK : G.K = X.K) (ho : PE X o (tE G E mo)) (ha : PA X (e :: es) (tA G E ms)) (h : PE X (.Call (.Attribute o "append" apos) (e :: es) [] cpos) (tBM X.K "list" rAppend (tE G E mo) (tA G E ms))) : PE X (.Call (.Attribute o "append" apos) (e :: es) [] cpos) (tE G E (mApp mo ms)) :=
  PE.weak h fun _ _ _ q => app_ok hK q
theorem popAt_ok (hK : G.K = X.K) {σ : L2.St} {H : Hp} {Q : VK} (h : tE G E (mPopAt mo ms) σ H Q) : tBM X.K "list" rPopAt (tE G E mo) (tA G E ms) σ H Q := by
  obtain ⟨B, W, env, rfl, R, S, o⟩ := h
  refine tE_of R S o fun d W1 v x1 R1 S1 r1 o1 => ?_
  cases q : listAt W1.st d with
  | none => simp only [q] at o1; exact o1.elim
  | some t =>
    obtain ⟨n1, xs1⟩ := t
    simp only [q] at o1
    obtain ⟨a, vs, rfl, h1, h2, h3, h4⟩ := r1.listAt R1 q
    refine ⟨.inl ⟨rfl, vs, SqL.of h3⟩, tA_of R1 S1 o1 fun ds W2 us x2 R2 S2 r2 o2 => ?_⟩
    have r1' := Rep.ext R1 x2 _ _ r1
    cases q2 : listAt W2.st d with
    | none => simp only [q2] at o2; exact o2.elim
    | some t2 =>
      obtain ⟨n, xs⟩ := t2
      simp only [q2] at o2
      obtain ⟨a', ws, ea, k1, k2, k3, k4⟩ := r1'.listAt R2 q2
      cases ea
      match ds, r2, o2 with
      | [.int i], .cons (.int _) .nil, o2 =>
        simp only at o2
        by_cases c : -(2 ^ 63) ≤ i ∧ i < 2 ^ 63
        · rw [if_pos c] at o2
          cases e3 : seqIndex? i xs.length with
          | none => rw [e3] at o2; exact o2.elim
          | some k =>
            rw [e3] at o2
            simp only at o2
            cases e4 : xs[k]? with
            | none => rw [e4] at o2; exact o2.elim
            | some y =>
              rw [e4] at o2
              obtain ⟨u, e5, ru⟩ := k4.get e4
              have t' := k4.erase k
              have x3 : Ext W2 (W2.put n (.lst (xs.eraseIdx k)) a (.lst (ws.eraseIdx k))) := Ext.put R2.len k1 k2 lst_ne
              exact ⟨a, ws, i, k, u, rfl, rfl, k3, c.1, c.2, by rw [k4.length]; exact e3, e5, o2 _ x3 (R2.putL k1 k2 lst_ne t') rfl _ (Rep.ext R2 x3 _ _ ru)⟩
        · rw [if_neg c] at o2
          exact o2.elim
theorem je_popAt (hK : G.K = X.K) (h : PE X (.Call (.Attribute o "pop" apos) (e :: es) [] cpos) (tBM X.K "list" rPopAt (tE G E mo) (tA G E ms))) : PE X (.Call (.Attribute o "pop" apos) (e :: es) [] cpos) (tE G E (mPopAt mo ms)) :=
  PE.weak h fun _ _ _ q => popAt_ok hK q
end
/-! ### xs[i] = e; o.f = e -/
def sSub (mo mi mv : M D) : SM := fun env st => lift (mv env st) env fun d s1 => lift (mo env s1) env fun x s2 => lift (mi env s2) env fun i s3 => match listAt s3 x, i with
  | some (n, xs), .int k => (match ixN xs.length k with
    | some j => .ok (.nx env) (s3.set n (.lst (xs.set j d)))
    | none => .bad)
  | _, _ => .bad
def putN (f : Str) (d : D) : List Str → List D → List Str × List D
  | g :: ns, x :: vs => if g = f then (g :: ns, d :: vs) else (g :: (putN f d ns vs).1, x :: (putN f d ns vs).2)
  | _, _ => ([f], [d])
def sFld (c f : Str) (mo mv : M D) : SM := fun env st => lift (mv env st) env fun d s1 => lift (mo env s1) env fun x s2 => match x with
  | .loc n => (match s2[n]? with
    | some (.ins c' ns vs) => if c' = c ∧ ns.length < 1000 then .ok (.nx env) (s2.set n (.ins c (putN f d ns vs).1 (putN f d ns vs).2)) else .bad
    | _ => .bad)
  | _ => .bad
section
variable {G : Cn} {B : Addr → Prop} {W : Wd}
theorem Reps.putF {f : Str} {d : D} {v : V} (r : Rep G B W v d) : ∀ {fs : List (Str × V)} {vs : List D}, Reps G B W (fs.map (·.2)) vs → (L2.putF f v fs).map (·.1) = (putN f d (fs.map (·.1)) vs).1 ∧ Reps G B W ((L2.putF f v fs).map (·.2)) (putN f d (fs.map (·.1)) vs).2
  | [], _, .nil => ⟨rfl, .cons r .nil⟩
  | (g, x) :: fs, _, h => by
    cases h with
    | cons h t =>
      obtain ⟨i1, i2⟩ := Reps.putF (f := f) r t
      simp only [L2.putF, List.map_cons, putN]
      by_cases c : g = f
      · simp only [if_pos c, List.map_cons]
        exact ⟨trivial, .cons r t⟩
      · simp only [if_neg c, List.map_cons]
        exact ⟨by rw [i1], .cons h i2⟩
end
section
variable {X : Cx} {G : Cn} {XW : WX} {o i e : Expr} {mo mi mv : M D} {pos pos' : Pos}
theorem js_sub (hK : G.K = X.K) (h : PS X (.Assign [.Subscript o i pos'] e pos) (tAsg (tE G (eX XW) mv) (gSub (tE G (eX XW) mo) (tE G (eX XW) mi) rSetL))) : PS X (.Assign [.Subscript o i pos'] e pos) (tS G XW (sSub mo mi mv)) := PS.weak h fun D σ H ⟨B, W, env, e, R, S, o⟩ => by
  subst e
  refine sE R S o fun d W1 v x1 R1 S1 r1 o1 => ?_
  refine sE R1 S1 o1 fun x W2 xv x2 R2 S2 r2 o2 => ?_
  refine sE (Q := fun iv H2 => rSetL xv iv v H2 fun H3 => D.nx σ H3) R2 S2 o2 fun j W3 jv x3 R3 S3 r3 o3 => ?_
  have r1' := Rep.ext R2 x3 _ _ (Rep.ext R1 x2 _ _ r1)
  have r2' := Rep.ext R2 x3 _ _ r2
  cases q : listAt W3.st x with
  | none => simp only [q] at o3; exact o3.elim
  | some t =>
    obtain ⟨n, xs⟩ := t
    cases j with
    | int k =>
      simp only [q] at o3
      cases r3
      obtain ⟨a, vs, rfl, h1, h2, h3, h4⟩ := r2'.listAt R3 q
      cases e : ixN xs.length k with
      | none => rw [e] at o3; exact o3.elim
      | some jj =>
        rw [e] at o3
        have t' := h4.set r1' jj
        have x4 : Ext W3 (W3.put n (.lst (xs.set jj d)) a (.lst (vs.set jj v))) := Ext.put R3.len h1 h2 lst_ne
        exact ⟨a, vs, k, jj, rfl, rfl, h3, by rw [h4.length]; exact e, o3 _ x4 (R3.putL h1 h2 lst_ne t') rfl σ (S3.ext R3 x4)⟩
    | _ => simp only [q] at o3; exact o3.elim
theorem js_fld {c f : Str} (hK : G.K = X.K) (hc : Cls G.K (G.cl c)) (hn : NoAttr G.K (G.cl c) f) (h : PS X (.Assign [.Attribute o f pos'] e pos) (L2.sFld X.K (tE G (eX XW) mo) (tE G (eX XW) mv) f)) : PS X (.Assign [.Attribute o f pos'] e pos) (tS G XW (sFld c f mo mv)) := PS.weak h fun D σ H ⟨B, W, env, e, R, S, o⟩ => by
  subst e
  refine sE R S o fun d W1 v x1 R1 S1 r1 o1 => ?_
  refine sE (Q := fun x H2 => ∃ a C dx fs, x = .ref a ∧ H2 a = some (.ins C dx fs) ∧ Cls X.K C ∧ NoAttr X.K C f ∧ fs.length < 1000 ∧ D.nx σ (upd H2 a (.ins C dx (L2.putF f v fs)))) R1 S1 o1 fun x W2 xv x2 R2 S2 r2 o2 => ?_
  have r1' := Rep.ext R1 x2 _ _ r1
  cases x with
  | loc n =>
    cases r2 with
    | @loc a _ hr =>
      simp only at o2
      cases q : W2.st[n]? with
      | none => simp only [q] at o2; exact o2.elim
      | some cc =>
        cases cc with
        | ins c' ns vs =>
          simp only [q] at o2
          by_cases hcc : c' = c ∧ ns.length < 1000
          · rw [if_pos hcc] at o2
            obtain ⟨e1, hl⟩ := hcc
            subst e1
            obtain ⟨dx, fs, h1, h2, h3⟩ := R2.cell n a _ hr q
            subst h2
            obtain ⟨p1, p2⟩ := Reps.putF (f := f) r1' h3
            have nd : Cell.ins c' (fs.map (·.1)) vs ≠ Cell.dead := fun z => by cases z
            have x3 : Ext W2 (W2.put n (.ins c' (putN f d (fs.map (·.1)) vs).1 (putN f d (fs.map (·.1)) vs).2) a (.ins (G.cl c') dx (L2.putF f v fs))) := Ext.put R2.len hr q nd
            have R3 := R2.put (c' := .ins c' (putN f d (fs.map (·.1)) vs).1 (putN f d (fs.map (·.1)) vs).2) (o := .ins (G.cl c') dx (L2.putF f v fs)) hr q nd ⟨dx, _, upd_same, p1, Reps.ext R2 x3 _ _ p2⟩
            exact ⟨a, _, dx, fs, rfl, h1, by rw [← hK]; exact hc, by rw [← hK]; exact hn, by simpa using hl, o2 _ x3 R3 rfl σ (S2.ext R2 x3)⟩
          · rw [if_neg hcc] at o2
            exact o2.elim
        | _ => simp only [q] at o2; exact o2.elim
  | _ => exact o2.elim
end
/-! ### built-in functions -/
def fLen : Fn := fun ds st => match ds with
  | [.str x] => if x.length ≤ sizeLine then .ok (.int x.length) st else .bad
  | [d] => (match asS st d with
    | some xs => .ok (.int xs.length) st
    | none => .bad)
  | _ => .bad
def fAbs : Fn := fun ds st => match ds with
  | [.int i] => .ok (.int (if i < 0 then -i else i)) st
  | _ => .bad
def fInt : Fn := fun ds st => match ds with
  | [.int i] => .ok (.int i) st
  | [.bl b] => .ok (.int (if b then 1 else 0)) st
  | _ => .bad
def fMax2 : Fn := fun ds st => match ds with
  | [.int i, .int j] => .ok (.int (if j > i then j else i)) st
  | _ => .bad
def fMin2 : Fn := fun ds st => match ds with
  | [.int i, .int j] => .ok (.int (if j < i then j else i)) st
  | _ => .bad
/-- the ints of a list, its bools -/
def toInts : List D → Option (List Int)
  | [] => some []
  | .int i :: ds => (toInts ds).map (i :: ·)
  | _ :: _ => none
def toBls : List D → Option (List Bool)
  | [] => some []
  | .bl b :: ds => (toBls ds).map (b :: ·)
  | _ :: _ => none
section
variable {G : Cn} {B : Addr → Prop} {W : Wd}
theorem Reps.toInts : ∀ {vs : List V} {ds : List D} {ns : List Int}, Reps G B W vs ds → DL.toInts ds = some ns → vs = ns.map V.int
  | _, _, _, .nil, e => by cases e; rfl
  | _, _, _, .cons (d := .int i) h t, e => by
    cases h
    obtain ⟨ms, e1, e2⟩ := Option.map_eq_some_iff.mp e
    subst e2
    rw [List.map_cons, Reps.toInts t e1]
  | _, _, _, .cons (d := .non) _ _, e => by cases e
  | _, _, _, .cons (d := .bl _) _ _, e => by cases e
  | _, _, _, .cons (d := .str _) _ _, e => by cases e
  | _, _, _, .cons (d := .tup _) _ _, e => by cases e
  | _, _, _, .cons (d := .lst _) _ _, e => by cases e
  | _, _, _, .cons (d := .fro _) _ _, e => by cases e
  | _, _, _, .cons (d := .dct _ _) _ _, e => by cases e
  | _, _, _, .cons (d := .obj _ _ _) _ _, e => by cases e
  | _, _, _, .cons (d := .loc _) _ _, e => by cases e
  | _, _, _, .cons (d := .exn _ _ _) _ _, e => by cases e
theorem Reps.toBls : ∀ {vs : List V} {ds : List D} {ns : List Bool}, Reps G B W vs ds → DL.toBls ds = some ns → vs = ns.map V.bl
  | _, _, _, .nil, e => by cases e; rfl
  | _, _, _, .cons (d := .bl i) h t, e => by
    cases h
    obtain ⟨ms, e1, e2⟩ := Option.map_eq_some_iff.mp e
    subst e2
    rw [List.map_cons, Reps.toBls t e1]
  | _, _, _, .cons (d := .non) _ _, e => by cases e
  | _, _, _, .cons (d := .int _) _ _, e => by cases e
  | _, _, _, .cons (d := .str _) _ _, e => by cases e
  | _, _, _, .cons (d := .tup _) _ _, e => by cases e
  | _, _, _, .cons (d := .lst _) _ _, e => by cases e
  | _, _, _, .cons (d := .fro _) _ _, e => by cases e
  | _, _, _, .cons (d := .dct _ _) _ _, e => by cases e
  | _, _, _, .cons (d := .obj _ _ _) _ _, e => by cases e
  | _, _, _, .cons (d := .loc _) _ _, e => by cases e
  | _, _, _, .cons (d := .exn _ _ _) _ _, e => by cases e
theorem cs_abs : CallS G (fun xs H Q => ∃ i, xs = [.int i] ∧ Q (.int (if i < 0 then -i else i)) H) fAbs := by
  intro B W E ds vs Q R r o
  match ds, r, o with
  | [.int i], .cons (.int _) .nil, o => exact ⟨i, rfl, o.ret R _ (.int _)⟩
theorem cs_int : CallS G (fun xs H Q => (∃ i, xs = [.int i] ∧ Q (.int i) H) ∨ ∃ k, xs = [.bl k] ∧ Q (.int (if k then 1 else 0)) H) fInt := by
  intro B W E ds vs Q R r o
  match ds, r, o with
  | [.int i], .cons (.int _) .nil, o => exact .inl ⟨i, rfl, o.ret R _ (.int _)⟩
  | [.bl i], .cons (.bl _) .nil, o => exact .inr ⟨i, rfl, o.ret R _ (.int _)⟩
theorem cs_max2 : CallS G (fun xs H Q => ∃ i j, xs = [.int i, .int j] ∧ Q (.int (if j > i then j else i)) H) fMax2 := by
  intro B W E ds vs Q R r o
  match ds, r, o with
  | [.int i, .int j], .cons (.int _) (.cons (.int _) .nil), o => exact ⟨i, j, rfl, o.ret R _ (.int _)⟩
theorem cs_min2 : CallS G (fun xs H Q => ∃ i j, xs = [.int i, .int j] ∧ Q (.int (if j < i then j else i)) H) fMin2 := by
  intro B W E ds vs Q R r o
  match ds, r, o with
  | [.int i, .int j], .cons (.int _) (.cons (.int _) .nil), o => exact ⟨i, j, rfl, o.ret R _ (.int _)⟩
theorem cs_len : CallS G (fun xs H Q => ∃ x n, xs = [x] ∧ LenV G.K x H n ∧ Q (.int n) H) fLen := by
  intro B W E ds vs Q R r o
  have seq : ∀ {d : D} {v : V}, Rep G B W v d → Out G B W E (match asS W.st d with
    | some xs => .ok (.int xs.length) W.st
    | none => .bad) (fun d W' => ∀ z, Rep G B W' z d → Q z W'.H) → ∃ x n, [v] = [x] ∧ LenV G.K x W.H n ∧ Q (.int n) W.H := fun {d v} r o => by
    cases e : asS W.st d with
    | none => rw [e] at o; exact o.elim
    | some xs =>
      rw [e] at o
      obtain ⟨a, us, rfl, h, t⟩ := r.asS R e
      refine ⟨_, xs.length, rfl, ?_, o.ret R _ (.int _)⟩
      rcases h with h | h
      · exact .inl ⟨us, h, t.length.symm⟩
      · exact .inr ⟨us, h, t.length.symm⟩
  match ds, r, o with
  | [], _, o => exact o.elim
  | _ :: _ :: _, _, o =>
    rename_i d1 d2 ds' _
    cases d1 <;> exact o.elim
  | [d], .cons h .nil, o =>
    cases d with
    | str x =>
      cases h
      simp only [fLen] at o
      by_cases c : x.length ≤ sizeLine
      · rw [if_pos c] at o
        exact ⟨_, x.length, rfl, ⟨c, rfl⟩, o.ret R _ (.int _)⟩
      · rw [if_neg c] at o
        exact o.elim
    | _ => exact seq h o
/-- over a list -/
def fL (g : List D → Store → R D) : Fn := fun ds st => match ds with
  | [d] => (match asL st d with
    | some xs => g xs st
    | none => .bad)
  | _ => .bad
def gSum (xs : List D) (st : Store) : R D := match toInts xs with
  | some ns => .ok (.int ns.sum) st
  | none => .bad
def gAll (xs : List D) (st : Store) : R D := match toBls xs with
  | some ns => .ok (.bl (ns.all id)) st
  | none => .bad
def gAny (xs : List D) (st : Store) : R D := match toBls xs with
  | some ns => .ok (.bl (ns.any id)) st
  | none => .bad
theorem fL_inv {B : Addr → Prop} {W : Wd} {E : XK} {g : List D → Store → DL.R D} {ds : List D} {vs : List V} {Q : D → Wd → Prop} (R : Rel G B W) (r : Reps G B W vs ds) (o : Out G B W E (fL g ds W.st) Q) :
    ∃ a us xs, vs = [.ref a] ∧ SqL G.K W.H a us ∧ Reps G B W us xs ∧ Out G B W E (g xs W.st) Q := by
  match ds, r, o with
  | [], _, o => exact o.elim
  | _ :: _ :: _, _, o => exact o.elim
  | [d], .cons h .nil, o =>
    simp only [fL] at o
    cases e : asL W.st d with
    | none => rw [e] at o; exact o.elim
    | some xs =>
      rw [e] at o
      obtain ⟨a, us, rfl, h1, t⟩ := h.asL R e
      exact ⟨a, us, xs, rfl, h1, t, o⟩
theorem cs_sum : CallS G (rSum G.K) (fL gSum) := by
  intro B W E ds vs Q R r o
  obtain ⟨a, us, xs, rfl, h1, t, o⟩ := fL_inv R r o
  unfold gSum at o
  cases e : toInts xs with
  | none => rw [e] at o; exact o.elim
  | some ns =>
    rw [e] at o
    exact ⟨a, ns, rfl, by rw [← t.toInts e]; exact h1, o.ret R _ (.int _)⟩
theorem cs_all : CallS G (rAll G.K) (fL gAll) := by
  intro B W E ds vs Q R r o
  obtain ⟨a, us, xs, rfl, h1, t, o⟩ := fL_inv R r o
  unfold gAll at o
  cases e : toBls xs with
  | none => rw [e] at o; exact o.elim
  | some ns =>
    rw [e] at o
    exact ⟨a, ns, rfl, by rw [← t.toBls e]; exact h1, o.ret R _ (.bl _)⟩
theorem cs_any : CallS G (rAny G.K) (fL gAny) := by
  intro B W E ds vs Q R r o
  obtain ⟨a, us, xs, rfl, h1, t, o⟩ := fL_inv R r o
  unfold gAny at o
  cases e : toBls xs with
  | none => rw [e] at o; exact o.elim
  | some ns =>
    rw [e] at o
    exact ⟨a, ns, rfl, by rw [← t.toBls e]; exact h1, o.ret R _ (.bl _)⟩
/-- tuple(xs), list(xs) -/
def fTup : Fn := fun ds st => match ds with
  | [d] => (match asS st d with
    | some xs => .ok (.tup xs) st
    | none => .bad)
  | _ => .bad
def fList : Fn := fun ds st => match ds with
  | [d] => (match asS st d with
    | some xs => .ok (.lst xs) st
    | none => .bad)
  | _ => .bad
/-- a list that will change -/
def fListC : Fn := fun ds st => match ds with
  | [d] => (match asS st d with
    | some xs => .ok (.loc st.length) (st ++ [Cell.lst xs])
    | none => .bad)
  | _ => .bad
theorem cs_tup : CallS G (fun xs H Q => ∃ p ys, xs = [.ref p] ∧ ((SqL G.K H p ys ∧ ∀ l, H l = none → Q (.ref l) (upd H l (.tup ys))) ∨ (SqT G.K H p ys ∧ Q (.ref p) H))) fTup := by
  intro B W E ds vs Q R r o
  match ds, r, o with
  | [], _, o => exact o.elim
  | _ :: _ :: _, _, o => exact o.elim
  | [d], .cons h .nil, o =>
    simp only [fTup] at o
    cases e : asS W.st d with
    | none => rw [e] at o; exact o.elim
    | some xs =>
      rw [e] at o
      obtain ⟨a, us, rfl, h1, t⟩ := h.asS R e
      refine ⟨a, us, rfl, ?_⟩
      rcases h1 with h1 | h1
      · exact .inl ⟨h1, fun l hl => o.tupN R hl us _ (.newT R hl t)⟩
      · exact .inr ⟨h1, o.ret R _ (.tup h1 t)⟩
theorem cs_list : CallS G (fun xs H Q => ∃ p ys, xs = [.ref p] ∧ (SqL G.K H p ys ∨ SqT G.K H p ys) ∧ ∀ l, H l = none → Q (.ref l) (upd H l (.lst ys))) fList := by
  intro B W E ds vs Q R r o
  match ds, r, o with
  | [], _, o => exact o.elim
  | _ :: _ :: _, _, o => exact o.elim
  | [d], .cons h .nil, o =>
    simp only [fList] at o
    cases e : asS W.st d with
    | none => rw [e] at o; exact o.elim
    | some xs =>
      rw [e] at o
      obtain ⟨a, us, rfl, h1, t⟩ := h.asS R e
      exact ⟨a, us, rfl, h1, fun l hl => o.lstN R hl us _ (.newL R hl t)⟩
theorem cs_listC : CallS G (fun xs H Q => ∃ p ys, xs = [.ref p] ∧ (SqL G.K H p ys ∨ SqT G.K H p ys) ∧ ∀ l, H l = none → Q (.ref l) (upd H l (.lst ys))) fListC := by
  intro B W E ds vs Q R r o
  match ds, r, o with
  | [], _, o => exact o.elim
  | _ :: _ :: _, _, o => exact o.elim
  | [d], .cons h .nil, o =>
    simp only [fListC] at o
    cases e : asS W.st d with
    | none => rw [e] at o; exact o.elim
    | some xs =>
      rw [e] at o
      obtain ⟨a, us, rfl, h1, t⟩ := h.asS R e
      exact ⟨a, us, rfl, h1, fun l hl => o (W.grow l (.lst xs) (.lst us)) (Ext.grow R.len hl) (R.growL hl t) rfl _ (.grown R.len)⟩
end
/-! ### slices -/
def mPart : Option (M D) → M (Option Int)
  | none => fun _ st => .ok none st
  | some m => fun env st => (m env st).bind fun d s => match d with
    | .int i => .ok (some i) s
    | _ => .bad
def cutD (xs : List D) (lo hi : Option Int) : List D := (xs.drop (HT.sIx xs.length 0 lo)).take (HT.sIx xs.length xs.length hi - HT.sIx xs.length 0 lo)
def mSl (mo : M D) (lo hi : Option (M D)) : M D := fun env st => (mo env st).bind fun d s => (mPart lo env s).bind fun l s2 => (mPart hi env s2).bind fun u s3 => match d with
  | .tup xs => .ok (.tup (cutD xs l u)) s3
  | d => (match asL s3 d with
    | some xs => .ok (.lst (cutD xs l u)) s3
    | none => .bad)
def tO (G : Cn) (E : ES) (m : M (Option Int)) : TO := fun σ H Q => ∃ B W env, W.H = H ∧ Rel G B W ∧ Slots G B W σ env ∧ Out G B W (E σ) (m env W.st) fun o W' => Q o W'.H
section
variable {X : Cx} {G : Cn} {E : ES} {e : Expr} {m : M D}
theorem PO.weak {e : Option Expr} {t t' : TO} (h : PO X e t) (i : ∀ σ H Q, t' σ H Q → t σ H Q) : PO X e t' := ⟨fun pins s σ H Q I q => h.run pins s σ H Q I (i σ H Q q)⟩
theorem jo_none : PO X none (tO G E (mPart none)) := PO.weak po_none fun _ _ _ ⟨_, _, _, e, R, _, o⟩ => by subst e; exact o.ret R
theorem jo_some (h : PE X e (tE G E m)) : PO X (some e) (tO G E (mPart (some m))) := PO.weak (po_some h) fun σ H Q ⟨B, W, env, e, R, S, o⟩ => by
  subst e
  refine tE_of R S o fun d W1 v x1 R1 S1 r1 o1 => ?_
  cases d with
  | int i => cases r1; exact ⟨i, rfl, o1.ret R1⟩
  | _ => exact o1.elim
theorem cut_reps {B : Addr → Prop} {W : Wd} {vs : List V} {ds : List D} {lo hi : Option Int} (t : Reps G B W vs ds) : Reps G B W (cutV vs lo hi) (cutD ds lo hi) := by
  unfold cutV cutD
  rw [t.length]
  exact (t.drop _).take _
theorem cutV_whole {xs : List V} {lo hi : Option Int} (h : HT.sIx xs.length 0 lo = 0 ∧ HT.sIx xs.length xs.length hi = xs.length) : cutV xs lo hi = xs := by
  unfold cutV
  rw [h.1, h.2]
  simp
def rSlB (K : PySem.W.Frag) : V → Option Int → Option Int → Hp → VK → Prop := fun x lo hi H Q => rSlA K x lo hi H Q ∨ rSlL K x lo hi H Q
theorem je_sl {lo hi : Option Expr} {ml mh : Option (M D)} {p2 pos : Pos} (hK : G.K = X.K) (he : PE X e (tE G E m)) (hl : PO X lo (tO G E (mPart ml))) (hu : PO X hi (tO G E (mPart mh))) : PE X (.Subscript e (.Slice lo hi none p2) pos) (tE G E (mSl m ml mh)) := by
  refine PE.weak (pe_slice (r := rSlB X.K) (sl_tupA.or sl_list) he hl hu) fun σ H Q ⟨B, W, env, e, R, S, o⟩ => ?_
  subst e
  refine tE_of R S o fun d W1 v x1 R1 S1 r1 o1 => ?_
  refine ⟨B, W1, env, rfl, R1, S1, o1.bind.imp fun l W2 x2 R2 o2 => ?_⟩
  refine ⟨B, W2, env, rfl, R2, S1.ext R1 x2, o2.bind.imp fun u W3 x3 R3 o3 => ?_⟩
  have r3 := Rep.ext R2 x3 _ _ (Rep.ext R1 x2 _ _ r1)
  rw [← hK]
  have lst : Out G B W3 (E σ) (match asL W3.st d with
    | some xs => .ok (.lst (cutD xs l u)) W3.st
    | none => .bad) (fun d W' => ∀ v, Rep G B W' v d → Q v W'.H) → rSlB G.K v l u W3.H Q := fun o3 => by
    cases e : asL W3.st d with
    | none => rw [e] at o3; exact o3.elim
    | some xs =>
      rw [e] at o3
      obtain ⟨a, us, rfl, h1, t⟩ := r3.asL R3 e
      exact .inr ⟨a, us, rfl, h1, fun p hp => o3.lstN R3 hp _ _ (.newL R3 hp (cut_reps t))⟩
  cases d with
  | tup xs =>
    cases r3 with
    | @tup a us _ h t =>
      have t' := cut_reps (lo := l) (hi := u) t
      refine .inl ⟨a, us, rfl, h, fun hw => ?_, fun _ p hp => o3.tupN R3 hp _ _ (.newT R3 hp t')⟩
      rw [cutV_whole hw] at t'
      exact o3.ret R3 _ (.tup h t')
  | _ => exact lst o3
end
/-! ### a def -/
def fnB (n nn : Nat) (m : SM) : Fn := fun ds st => if ds.length = n then (match m (ds.map some ++ List.replicate (nn - n) none) st with
  | .ok (.nx _) s => .ok .non s
  | .ok (.rt d) s => .ok d s
  | .ok (.xc e _) s => .exc e s
  | _ => .bad) else .bad
theorem Slots.start {G : Cn} {B : Addr → Prop} {W : Wd} {N : List Str} {vs : List V} {ds : List D} (r : Reps G B W vs ds) : Slots G B W (start N vs) (ds.map some ++ List.replicate (N.length - ds.length) none) := by
  have l := r.length
  refine ⟨by simp [L2.start, l], fun i d e => ?_⟩
  by_cases hi : i < ds.length
  · rw [List.getElem?_append_left (by simpa using hi), List.getElem?_map] at e
    obtain ⟨d', e1, e2⟩ := Option.map_eq_some_iff.mp e
    cases e2
    obtain ⟨v, h1, h2⟩ := r.get e1
    exact ⟨v, by unfold L2.start; rw [List.getElem?_append_left (by simpa [l] using hi), List.getElem?_map, h1]; rfl, h2⟩
  · rw [List.getElem?_append_right (by simpa using hi)] at e
    have := List.mem_of_getElem? e
    rw [List.mem_replicate] at this
    cases this.2
theorem fn_def {G : Cn} {P : Program} {w : World} {mg : Str → Option Value} {base : Heap} {x qual : Str} {st : Stmt} {f : Addr} {fd : FuncData} {N ps : List Str} {k : Nat} {m : SM} (F : Fun G.K x qual st f fd) (S : FnScope N ps (defScope st))
    (body : ∀ (cdv : Value) (A : Around) (outer : List Env) (s : Shared) (H : Hp) (E : XK), Rm k (A.deeper (envOfC qual (defScope st) s.heap.objs.size f cdv)) →
      PSs (cxOf (L2.CX P w) P w G.K mg base N qual (defScope st) f cdv A outer s H E) (defBody st) (tS G (fun cls d _ H => E cls d H) m)) : FnG P w G.K mg base (k + 1) f fd ps (spOf G ps.length (fnB ps.length N.length m)) := by
  refine fng_of F S (fun vs H Q E h => h.1) fun cdv A outer s H vs Q E rm h => ⟨_, body cdv A outer s H E rm, ?_⟩
  obtain ⟨hl, B, W, ds, rfl, R, rv, o⟩ := h
  have hd : ds.length = ps.length := rv.length.symm.trans hl
  refine ⟨B, W, _, rfl, R, Slots.start (N := N) rv, ?_⟩
  rw [hd]
  unfold fnB at o
  rw [if_pos hd] at o
  cases q : m (ds.map some ++ List.replicate (N.length - ps.length) none) W.st with
  | ok fl s1 =>
    rw [q] at o
    cases fl with
    | nx env => exact fun W' x R' e σ _ => o W' x R' e _ .non
    | rt d => exact fun W' x R' e v rv => o W' x R' e v rv
    | bk env => exact o.elim
    | ct env => exact o.elim
    | xc e env => exact fun W' x R' e' σ cls dd _ rx => o cls dd W' x R' e' rx
  | exc e s1 => rw [q] at o; exact o.elim
  | bad => rw [q] at o; exact o.elim
end DL

set_option maxHeartbeats 2000000
/-! DLA: isinstance; sum of lists and tuples; what an except suite holds. -/
namespace DL
open PySem PySem.Spec PyProof.Rows L2

/-- classes, as data know them: of the language, of the text, errors of the text -/
inductive Kd where
  | ty (n : String) | own (c : Str) | err (c : Str)
deriving DecidableEq
def Kd.val (G : Cn) : Kd → Value
  | .ty n => .type n
  | .own c => .ref (G.cl c)
  | .err c => .ref (G.cl c)
def Kd.v (G : Cn) : Kd → V
  | .ty n => .ty n
  | .own c => .ref (G.cl c)
  | .err c => .ref (G.cl c)
def kd (st : Store) : D → Option Kd
  | .non => some (.ty "NoneType")
  | .bl _ => some (.ty "bool")
  | .int _ => some (.ty "int")
  | .str _ => some (.ty "str")
  | .tup _ => some (.ty "tuple")
  | .lst _ => some (.ty "list")
  | .fro _ => some (.ty "list")
  | .dct _ _ => some (.ty "dict")
  | .obj c _ _ => some (.own c)
  | .exn c _ _ => some (.err c)
  | .loc n => match st[n]? with
    | some (.lst _) => some (.ty "list")
    | some (.dct _ _) => some (.ty "dict")
    | some (.ins c _ _) => some (.own c)
    | _ => none
abbrev Isa := Kd → Kd → Option Bool
/-- what isinstance asks of a class of the text -/
structure IsaC (K : PySem.W.Frag) (C : Addr) : Prop where
  cl : Cls K C
  ha : PySem.W.findIn K (.ref C) "__class__" = some (some (.builtin "object.__class__"))
  hn : PySem.W.specialIn K (.builtin "object.__class__") "__get__" = some (some (.builtin "getset_descriptor.__get__"))
  ht : PySem.W.takesIn K (.builtin "object.__class__") = some true
  hm : PySem.W.mroIn K C (.type "object") = some true
structure IsaX (K : PySem.W.Frag) (C : Addr) : Prop where
  hc : (PySem.W.clsIn K C).isSome = true
  hg : PySem.W.findIn K (.ref C) "__getattribute__" = some (some (.builtin "BaseException.__getattribute__"))
  hk : PySem.W.findIn K (.ref C) "__getattr__" = some none
  hs : PySem.W.subIn K (.ref C) (.type "BaseException") = some true
  ha : PySem.W.findIn K (.ref C) "__class__" = some (some (.builtin "object.__class__"))
  hn : PySem.W.specialIn K (.builtin "object.__class__") "__get__" = some (some (.builtin "getset_descriptor.__get__"))
  ht : PySem.W.takesIn K (.builtin "object.__class__") = some true
  hm : PySem.W.mroIn K C (.type "object") = some true
structure IsaOk (G : Cn) (isa : Isa) : Prop where
  one : ∀ a b r, isa a b = some r → PySem.W.kitOne G.K (a.val G) (b.val G) = some r
  own : ∀ c b r, isa (.own c) b = some r → IsaC G.K (G.cl c)
  err : ∀ c b r, isa (.err c) b = some r → IsaX G.K (G.cl c)
def isaAny (isa : Isa) (k : Kd) : List Kd → Option Bool
  | [] => some false
  | c :: cs => match isa k c with
    | some true => some true
    | some false => isaAny isa k cs
    | none => none
theorem IsaOk.any {G : Cn} {isa : Isa} (h : IsaOk G isa) {k : Kd} : ∀ {cs : List Kd} {b : Bool}, isaAny isa k cs = some b → PySem.W.kitAny G.K (k.val G) (cs.map fun c => c.val G) = some b
  | [], _, e => e
  | c :: cs, b, e => by
    unfold isaAny at e
    cases q : isa k c with
    | none => rw [q] at e; cases e
    | some r =>
      have z := h.one _ _ _ q
      rw [q] at e
      show (match PySem.W.kitOne G.K (k.val G) (c.val G) with
        | some true => some true
        | some false => PySem.W.kitAny G.K (k.val G) (cs.map fun c => c.val G)
        | none => none) = some b
      rw [z]
      cases r with
      | true => exact e
      | false => exact h.any e
theorem Kd.clsV (G : Cn) : ∀ k : Kd, ClsV (k.v G) (k.val G)
  | .ty n => .ty n
  | .own c => .own _
  | .err c => .own _
theorem Kd.clsVs (G : Cn) : ∀ ks : List Kd, Paired ClsV (ks.map fun k => k.v G) (ks.map fun k => k.val G)
  | [] => .nil
  | k :: ks => .cons (Kd.clsV G k) (Kd.clsVs G ks)
/-- what isaAny's some tells of the kind itself -/
theorem isaAny_own {G : Cn} {isa : Isa} (h : IsaOk G isa) {c : Str} {ks : List Kd} {b : Bool} (hk : ks ≠ []) (e : isaAny isa (.own c) ks = some b) : IsaC G.K (G.cl c) := by
  cases ks with
  | nil => exact (hk rfl).elim
  | cons k ks =>
    unfold isaAny at e
    cases q : isa (.own c) k with
    | none => rw [q] at e; cases e
    | some r => exact h.own _ _ _ q
theorem isaAny_err {G : Cn} {isa : Isa} (h : IsaOk G isa) {c : Str} {ks : List Kd} {b : Bool} (hk : ks ≠ []) (e : isaAny isa (.err c) ks = some b) : IsaX G.K (G.cl c) := by
  cases ks with
  | nil => exact (hk rfl).elim
  | cons k ks =>
    unfold isaAny at e
    cases q : isa (.err c) k with
    | none => rw [q] at e; cases e
    | some r => exact h.err _ _ _ q
section
variable {G : Cn} {B : Addr → Prop} {W : Wd}
theorem tyx_T {a : Addr} {vs : List V} (h : SqT G.K W.H a vs) : TyX G.K W.H (.ref a) (.type "tuple") := by
  rcases h with (h | ⟨o, h⟩) | ⟨o, its, n, h1, h2, _⟩
  · exact .base (.tup h)
  · exact .fTuple h
  · exact .kTuple h1 h2
/-- .. but for an error that a suite holds -/
def isExn : D → Bool
  | .exn _ _ _ => true
  | _ => false
theorem Rep.tyx {isa : Isa} (h : IsaOk G isa) (R : Rel G B W) {v : V} {d : D} {k : Kd} {ks : List Kd} {b : Bool} (hne : ks ≠ []) (r : Rep G B W v d) (hx : isExn d = false) (e : kd W.st d = some k) (q : isaAny isa k ks = some b) : TyX G.K W.H v (k.val G) := by
  cases r with
  | non => cases e; exact .base .non
  | bl x => cases e; exact .base (.bl x)
  | int x => cases e; exact .base (.int x)
  | str x => cases e; exact .base (.str x)
  | tup h t => cases e; exact tyx_T h
  | lst h n t => cases e; exact .base (.lst h)
  | fro h t =>
    cases e
    rcases h with ⟨o, h⟩ | ⟨o, its, n, h1, h2, _⟩
    · exact .base (.frz h)
    · exact .kList h1 h2
  | dct h n e1 t => cases e; exact .base (.dK h)
  | obj h1 n e1 t =>
    cases e
    have I := isaAny_own h hne q
    exact .base (.ins h1 I.cl I.ha I.hn I.ht I.hm)
  | exn0 _ => cases hx
  | exn1 _ _ _ _ => cases hx
  | @loc a n hl =>
    cases z : W.st[n]? with
    | none => simp only [kd, z] at e; cases e
    | some c =>
      cases c with
      | lst ds =>
        simp only [kd, z] at e
        cases e
        obtain ⟨vs, h1, h2⟩ := R.cell n a _ hl z
        exact .base (.lst h1)
      | dct ks ds =>
        simp only [kd, z] at e
        cases e
        obtain ⟨vs, h1, h2⟩ := R.cell n a _ hl z
        exact .base (.dK h1)
      | ins c ns ds =>
        simp only [kd, z] at e
        cases e
        obtain ⟨dx, fs, h1, h2⟩ := R.cell n a _ hl z
        have I := isaAny_own h hne q
        exact .base (.ins h1 I.cl I.ha I.hn I.ht I.hm)
      | dead => simp only [kd, z] at e; cases e
end
/-- isinstance(x, c), isinstance(x, (c, ..)) -/
def mIsi (isa : Isa) (ks : List Kd) (m : M D) : M D := fun env st => (m env st).bind fun d s => match kd s d with
  | some k => (match isaAny isa k ks with
    | some b => .ok (.bl b) s
    | none => .bad)
  | none => .bad
/-- the context's word on isinstance -/
def rI (G : Cn) (isa : Isa) : List V → Hp → VK → Prop := fun xs H Q => ∃ B W v d k b, W.H = H ∧ Rel G B W ∧ Rep G B W v d ∧ kd W.st d = some k ∧
  ((∃ c, xs = [v, c.v G] ∧ isa k c = some b) ∨ ∃ ks tp, ks ≠ [] ∧ xs = [v, .ref tp] ∧ H tp = some (.tup (ks.map fun c => c.v G)) ∧ isaAny isa k ks = some b) ∧ Q (.bl b) H
def IsiX (X : Cx) (G : Cn) (isa : Isa) : Prop := CallR X (.builtin "isinstance") (rI G isa)
theorem isaAny1 {isa : Isa} {k c : Kd} {b : Bool} : isaAny isa k [c] = some b ↔ isa k c = some b := by
  unfold isaAny isaAny
  cases q : isa k c with
  | none => simp
  | some r => cases r <;> cases b <;> simp
section
variable {X : Cx} {G : Cn} {E : ES} {isa : Isa} {m : M D} {e : Expr} {pos : Pos}
theorem Rep.noExn {B : Addr → Prop} {W : Wd} {v : V} {d : D} (hg : G.ex = fun _ => none) (r : Rep G B W v d) : isExn d = false := by
  cases r with
  | exn0 h => rw [hg] at h; cases h
  | exn1 h _ _ _ => rw [hg] at h; cases h
  | _ => rfl
theorem isi_go (hK : G.K = X.K) (h : IsaOk G isa) {pins : List (Addr × Obj)} {s : Shared} {σ : L2.St} {vs : List V} {us : List Value} {Q : VK} {B : Addr → Prop} {W : Wd} {v : V} {d : D} {k : Kd} {b : Bool} (I : Inv X pins σ W.H s) (r : Vals vs us) (R : Rel G B W) (rv : Rep G B W v d) (hx : isExn d = false) (e3 : kd W.st d = some k)
    (c : (∃ c, vs = [v, c.v G] ∧ isa k c = some b) ∨ ∃ ks tp, ks ≠ [] ∧ vs = [v, .ref tp] ∧ W.H tp = some (.tup (ks.map fun c => c.v G)) ∧ isaAny isa k ks = some b) (q : Q (.bl b) W.H) : wpAny (model X.prog X.w) X.A (call (.builtin "isinstance") us) (EP X pins σ Q) X.xe s := by
  rcases c with ⟨c, rfl, hc⟩ | ⟨ks, tp, hn, rfl, et, hc⟩
  · refine call_isi pins s σ _ _ us Q I r ⟨v, c.v G, k.val G, c.val G, b, rfl, Kd.clsV G c, ?_, ?_, q⟩
    · rw [← hK]; exact rv.tyx h R (by simp) hx e3 (isaAny1.mpr hc)
    · rw [← hK]; exact h.one _ _ _ hc
  · refine call_isiT pins s σ _ _ us Q I r ⟨v, tp, _, k.val G, _, b, rfl, et, Kd.clsVs G ks, ?_, ?_, q⟩
    · rw [← hK]; exact rv.tyx h R hn hx e3 hc
    · rw [← hK]; exact h.any hc
/-- no error is held -/
theorem isiX_of (hK : G.K = X.K) (h : IsaOk G isa) (hg : G.ex = fun _ => none) : IsiX X G isa := by
  rintro pins s σ H vs us Q I r ⟨B, W, v, d, k, b, rfl, R, rv, e3, c, q⟩
  exact isi_go hK h I r R rv (rv.noExn hg) e3 c q
/-- the error that a suite holds -/
abbrev Cn.sup (G : Cn) (a : Addr) (cls : Value) (dd : Option Addr) : Cn := { G with ex := fun b => if b = a then some (cls, dd) else none }
theorem isiX_sup {a : Addr} {oe : Obj} {cls : Value} {dd : Option Addr} {pn : List (Addr × Obj)} (hK : G.K = X.K) (h : IsaOk G isa) (hz : Zc cls dd oe) (hf : ∃ vs, oe.data = .fields vs) : IsiX (X.suite a ((a, oe) :: pn)) (G.sup a cls dd) isa := by
  have h' : IsaOk (G.sup a cls dd) isa := ⟨h.one, h.own, h.err⟩
  rintro pins s σ H vs us Q I r ⟨B, W, v, d, k, b, rfl, R, rv, e3, c, q⟩
  cases hx : isExn d with
  | false => exact isi_go (X := X.suite a ((a, oe) :: pn)) (G := G.sup a cls dd) hK h' I r R rv hx e3 c q
  | true =>
    have key : ∃ C od, v = .ref a ∧ k = .err C ∧ PySem.W.InstAt s.heap a oe (G.cl C) od := by
      obtain ⟨hget, _⟩ := I.pin (a, oe) (List.mem_append.mpr (.inl List.mem_cons_self))
      obtain ⟨vs, hv⟩ := hf
      have nc : PySem.W.notCls oe = true := by
        unfold PySem.W.notCls; rw [hv] <;> rfl
      cases rv with
      | @exn0 a' c' h1 =>
        have h2 : (if a' = a then some (cls, dd) else none) = some (Value.ref (G.cl c'), none) := h1
        by_cases ea : a' = a
        · subst ea
          rw [if_pos rfl] at h2
          cases h2
          cases e3
          obtain ⟨z1, z2⟩ := hz
          exact ⟨c', none, rfl, rfl, hget, z1, nc, by rw [z2]; trivial⟩
        · rw [if_neg ea] at h2; cases h2
      | @exn1 a' d1 c' fs ns ds h1 hx1 _ _ =>
        have h2 : (if a' = a then some (cls, dd) else none) = some (Value.ref (G.cl c'), some d1) := h1
        by_cases ea : a' = a
        · subst ea
          rw [if_pos rfl] at h2
          cases h2
          cases e3
          obtain ⟨z1, z2⟩ := hz
          have hx2 : ObjOk X.prog X.w W.H s.heap d1 (.xd fs) := I.hok d1 _ hx1
          obtain ⟨mA, hns, hr⟩ := hx2
          obtain ⟨od, ho, hl⟩ := lookIn_ns hns
          exact ⟨c', some od, rfl, rfl, hget, z1, nc, by rw [z2]; exact ho⟩
        · rw [if_neg ea] at h2; cases h2
      | _ => cases hx
    obtain ⟨C, od, e1, e2, J⟩ := key
    subst e1 e2
    rcases c with ⟨c, rfl, hc⟩ | ⟨ks, tp, hn, rfl, et, hc⟩
    · have Ie := h.err _ _ _ hc
      cases r with
      | cons rx rr =>
        cases rr with
        | cons rt rr =>
          cases rr
          cases rx
          have ec := (Kd.clsV G c).eq rt
          subst ec
          rw [hK] at Ie
          exact PySem.W.kia_one (PySem.W.kitx_exc Ie.hc Ie.hg Ie.hk Ie.hs Ie.ha Ie.hn Ie.ht Ie.hm) I.kIn J (by rw [show (X.suite a ((a, oe) :: pn)).K = G.K from hK.symm]; exact h.one _ _ _ hc) (fun z => nomatch z) fun tk => ⟨.bl b, _, I.kept (t' := tk) fun _ _ z => z, rfl, q⟩
    · have Ie := isaAny_err h hn hc
      cases r with
      | cons rx rr =>
        cases rr with
        | cons rt rr =>
          cases rr
          cases rx
          cases rt
          rw [hK] at Ie
          obtain ⟨its, rv, pl, _⟩ := I.tuple (SqT.of et)
          have ec := ClsV.all (Kd.clsVs G ks) rv
          subst ec
          obtain ⟨dx, n, sl, htp⟩ : ∃ dx n sl, s.heap.get? tp = some ⟨.type "tuple", dx, .seq (ks.map fun c => c.val G).toArray n, sl⟩ := by
            obtain ⟨o, ho, hc, n, hd⟩ := pl
            obtain ⟨o1, o2, o3, o4⟩ := o
            cases hc
            cases hd
            exact ⟨_, _, _, ho⟩
          exact PySem.W.kia_tup (PySem.W.kitx_exc Ie.hc Ie.hg Ie.hk Ie.hs Ie.ha Ie.hn Ie.ht Ie.hm) I.kIn J htp (by rw [show (X.suite a ((a, oe) :: pn)).K = G.K from hK.symm]; exact h.any hc) (fun z => nomatch z) fun tk => ⟨.bl b, _, I.kept (t' := tk) fun _ _ z => z, rfl, q⟩
/-! the expressions -/
theorem je_isi {c : Expr} {k : Kd} {p : Pos} (hi : IsiX X G isa) (hg : Gl X "isinstance") (hm : X.mg "isinstance" = none) (he : PE X e (tE G E m)) (hk : PE X c (tC (k.v G)))
    (hs : starEach [e, c] X.env = (false, eval e X.env) :: starEach [c] X.env := by rfl) (hs2 : starEach [c] X.env = (false, eval c X.env) :: starEach [] X.env := by rfl) (hpl : (backTo pos (starEach [c] X.env)).any (·.1) = false := by rfl) : PE X (.Call (.Name "isinstance" p) [e, c] [] pos) (tE G E (mIsi isa [k] m)) := by
  refine PE.weak (pe_callB hi hg hm PyProof.Rows.boot_isinstance (pa_cons he (pa_cons hk pa_nil hs2) hs) (he := hs) (hpl := hpl)) fun σ H Q ⟨B, W, env, e1, R, S, o⟩ => ?_
  subst e1
  refine tE_of R S o fun d W1 v x1 R1 S1 r1 o1 => ?_
  cases e1 : kd W1.st d with
  | none => simp only [e1] at o1; exact o1.elim
  | some kk =>
    simp only [e1] at o1
    cases e2 : isaAny isa kk [k] with
    | none => simp only [e2] at o1; exact o1.elim
    | some b =>
      simp only [e2] at o1
      exact ⟨B, W1, v, d, kk, b, rfl, R1, r1, e1, .inl ⟨k, rfl, isaAny1.mp e2⟩, o1.ret R1 _ (.bl b)⟩
/-- the classes' expressions -/
inductive ClsEs (X : Cx) (G : Cn) : List Expr → List Kd → Prop
  | nil : ClsEs X G [] []
  | cons {c : Expr} {k : Kd} {cs : List Expr} {ks : List Kd} (h : PE X c (tC (k.v G))) (t : ClsEs X G cs ks) (hs : starEach (c :: cs) X.env = (false, eval c X.env) :: starEach cs X.env := by rfl) : ClsEs X G (c :: cs) (k :: ks)
theorem ClsEs.pa {cs : List Expr} {ks : List Kd} (h : ClsEs X G cs ks) : PA X cs (fun _ H Q => Q (ks.map fun k => k.v G) H) := by
  induction h with
  | nil => exact pa_nil
  | cons h t hs ih => exact pa_cons h ih hs
theorem je_isiT {cs : List Expr} {ks : List Kd} {p : Pos} {z : Nat} {tp : Pos} (hi : IsiX X G isa) (hg : Gl X "isinstance") (hm : X.mg "isinstance" = none) (he : PE X e (tE G E m)) (hk : ClsEs X G cs ks) (hn : ks ≠ [] := by decide) (hl : ks.length ≤ 100 := by decide)
    (hs : starEach [e, .Tuple cs z tp] X.env = (false, eval e X.env) :: starEach [.Tuple cs z tp] X.env := by rfl) (hs2 : starEach [.Tuple cs z tp] X.env = (false, eval (.Tuple cs z tp) X.env) :: starEach [] X.env := by rfl) (hpl : (backTo pos (starEach [.Tuple cs z tp] X.env)).any (·.1) = false := by rfl) : PE X (.Call (.Name "isinstance" p) [e, .Tuple cs z tp] [] pos) (tE G E (mIsi isa ks m)) := by
  refine PE.weak (pe_callB hi hg hm PyProof.Rows.boot_isinstance (pa_cons he (pa_cons (pe_tup hk.pa) pa_nil hs2) hs) (he := hs) (hpl := hpl)) fun σ H Q ⟨B, W, env, e1, R, S, o⟩ => ?_
  subst e1
  refine tE_of R S o fun d W1 v x1 R1 S1 r1 o1 => ⟨by rw [List.length_map, sizeLine_eq]; omega, fun q hq => ?_⟩
  have x2 := Ext.new (o := .tup (ks.map fun k => k.v G)) R1.len hq
  cases e1 : kd W1.st d with
  | none => simp only [e1] at o1; exact o1.elim
  | some kk =>
    simp only [e1] at o1
    cases e2 : isaAny isa kk ks with
    | none => simp only [e2] at o1; exact o1.elim
    | some b =>
      simp only [e2] at o1
      exact ⟨B, W1.new q _, v, d, kk, b, rfl, R1.new hq, Rep.ext R1 x2 _ _ r1, e1, .inr ⟨ks, q, hn, rfl, upd_same, e2⟩, o1 _ x2 (R1.new hq) rfl _ (.bl b)⟩
theorem cls_ty {n : String} {x : Str} {pos : Pos} (hg : Gl X x) (hm : X.mg x = none) (hv : bootBuiltins x = some (.type n)) (hn : x ≠ "__name__" := by decide) (hd : (x == ("__debug__" : Str)) = false := by decide) : PE X (.Name x pos) (tC ((Kd.ty n).v G)) := pe_bltn hg hm hv rfl hn hd
theorem cls_own {c x : Str} {pos : Pos} (hg : Gl X x) (hm : X.mg x = some (.ref (G.cl c))) (hd : (x == ("__debug__" : Str)) = false := by decide) : PE X (.Name x pos) (tC ((Kd.own c).v G)) := pe_glob hg hm rfl hd
theorem cls_err {c x : Str} {pos : Pos} (hg : Gl X x) (hm : X.mg x = some (.ref (G.cl c))) (hd : (x == ("__debug__" : Str)) = false := by decide) : PE X (.Name x pos) (tC ((Kd.err c).v G)) := pe_glob hg hm rfl hd
end
/-! ### sum of a list, a tuple -/
def fS (g : List D → Store → R D) : Fn := fun ds st => match ds with
  | [d] => (match asS st d with
    | some xs => g xs st
    | none => .bad)
  | _ => .bad
theorem fS_inv {G : Cn} {B : Addr → Prop} {W : Wd} {E : XK} {g : List D → Store → DL.R D} {ds : List D} {vs : List V} {Q : D → Wd → Prop} (R : Rel G B W) (r : Reps G B W vs ds) (o : Out G B W E (fS g ds W.st) Q) :
    ∃ a us xs, vs = [.ref a] ∧ (SqL G.K W.H a us ∨ SqT G.K W.H a us) ∧ Reps G B W us xs ∧ Out G B W E (g xs W.st) Q := by
  match ds, r, o with
  | [], _, o => exact o.elim
  | _ :: _ :: _, _, o => exact o.elim
  | [d], .cons h .nil, o =>
    simp only [fS] at o
    cases e : asS W.st d with
    | none => rw [e] at o; exact o.elim
    | some xs =>
      rw [e] at o
      obtain ⟨a, us, rfl, h1, t⟩ := h.asS R e
      exact ⟨a, us, xs, rfl, h1, t, o⟩
theorem sum_rawT {prog : Program} {w : World} {A : Around} {E : Value → Shared → Prop} {s : Shared} {l : Addr} {its : List Value} {ns : List Int} {Q : Value → Shared → Prop} (hh : A.handled = none) (hl : IsTup s.heap l its.toArray) (hi : IntsAre its ns)
    (h : ∀ h' tk t', (∀ b o, s.heap.get? b = some o → h'.get? b = some o) → Q (.int ns.sum t') { s with heap := h', toks := tk }) : wpAny (model prog w) A (call (.builtin "sum") [.ref l]) Q E s := by
  obtain ⟨xs, e⟩ := hi.allInts.items
  have hn : numsOf (intItems xs).toList = ns := by rw [← e]; exact hi.numsOf
  rw [nums_intItems] at hn
  rw [e] at hl
  refine PySem.W.ktm_sumG hh hl fun h' tk t' hk => ?_
  have := h h' tk t' hk
  rw [preSum_eq, List.take_of_length_le (by simp), hn]; exact this
def rSumA (K : PySem.W.Frag) : List V → Hp → VK → Prop := fun vs H Q => ∃ (a : Addr) (ns : List Int), vs = [V.ref a] ∧ (SqL K H a (ns.map V.int) ∨ SqT K H a (ns.map V.int)) ∧ Q (.int ns.sum) H
theorem call_sumA {X : Cx} (hc : X.calm = true) : CallR X (.builtin "sum") (rSumA X.K) := by
  intro pins s σ H vs us Q I r h
  obtain ⟨a, ns, rfl, hs, q⟩ := h
  rcases hs with hs | hs
  · exact cr_sum hc pins s σ H _ us Q I r ⟨a, ns, rfl, hs, q⟩
  · obtain ⟨its, rv, hl, _⟩ := I.tuple hs
    rw [Vals.ref1 r]
    exact sum_rawT (I.ok.hd hc) hl rv.ints fun h' tk t' hk => ⟨.int _, H, I.kept hk, ⟨_, rfl⟩, q⟩
theorem cs_sumA {G : Cn} : CallS G (rSumA G.K) (fS gSum) := by
  intro B W E ds vs Q R r o
  obtain ⟨a, us, xs, rfl, h1, t, o⟩ := fS_inv R r o
  unfold gSum at o
  cases e : toInts xs with
  | none => rw [e] at o; exact o.elim
  | some ns =>
    rw [e] at o
    exact ⟨a, ns, rfl, by rw [← t.toInts e]; exact h1, o.ret R _ (.int _)⟩
end DL

set_option maxHeartbeats 2000000
/-! DLB: errors of the text: made, raised, caught, read. -/
namespace DL
open PySem PySem.Spec PyProof.Rows L2

/-! ### __init__ of an error class: its arguments as fields -/
def spI (C : Addr) (names : List Str) : Sp := fun vs H Q _ => ∃ a ws H1, vs = .ref a :: ws ∧ ws.length = names.length ∧ H1 a = none ∧ H = upd H1 a (exo a C none) ∧
  ∀ d H2, H1 d = none → d ≠ a → H2 a = some (exo a C (some d)) → H2 d = some (exd d (names.zip ws).reverse) → (∀ b, b ≠ a → b ≠ d → H2 b = H1 b) → Q .non H2
theorem upd_at {H : Hp} {a b : Addr} {o : HO} : upd H a o b = if b = a then some o else H b := by
  by_cases h : b = a
  · subst h
    rw [if_pos rfl, upd_same]
  · rw [if_neg h, upd_ne h]
section
variable {P : Program} {w : World} {K : PySem.W.Frag} {mg : Str → Option Value} {base : Heap} {q s p1 p2 f1 f2 : Str} {st : Stmt} {fI C : Addr} {fd : FuncData}
theorem init_ok1 (F : Fun K "__init__" q st fI fd) (S : FnScope [s, p1] [s, p1] (defScope st)) (T : OexC K C) (n1 : PySem.W.findIn K (.ref C) f1 = some none)
    (hb : ∀ (cdv : Value) (A : Around) (outer : List Env) (s1 : Shared) (H : Hp) (E : XK), PSs (cxOf (L2.CX P w) P w K mg base [s, p1] q (defScope st) fI cdv A outer s1 H E) (defBody st) (tOst K f1 (tVar 0) (tVar 1))) :
    FnOk P w K mg base (L2.CX P w) 1 fI fd [s, p1] (spI C [f1]) := by
  refine Fun.okX F S (fun vs H Q E ⟨a, ws, H1, e, l, _⟩ => by subst e; simp [l]) fun cdv A outer s1 H vs Q E _ h => ⟨_, hb cdv A outer s1 H E, ?_⟩
  obtain ⟨a, ws, H1, rfl, l, ha, rfl, h⟩ := h
  match ws, l with
  | [y], _ =>
    refine ⟨y, rfl, .ref a, rfl, a, C, rfl, T, n1, .inl ⟨upd_same, fun d hd hda => ?_⟩⟩
    have hd1 : H1 d = none := by rw [upd_at, if_neg hda] at hd; exact hd
    refine h d _ hd1 hda upd_same ?_ fun b hb1 hb2 => ?_
    · rw [upd_ne hda, upd_same] <;> rfl
    · rw [upd_ne hb1, upd_ne hb2, upd_ne hb1]
theorem init_ok2 (F : Fun K "__init__" q st fI fd) (S : FnScope [s, p1, p2] [s, p1, p2] (defScope st)) (T : OexC K C) (n1 : PySem.W.findIn K (.ref C) f1 = some none) (n2 : PySem.W.findIn K (.ref C) f2 = some none)
    (hb : ∀ (cdv : Value) (A : Around) (outer : List Env) (s1 : Shared) (H : Hp) (E : XK), PSs (cxOf (L2.CX P w) P w K mg base [s, p1, p2] q (defScope st) fI cdv A outer s1 H E) (defBody st) (fun D σ H => tOst K f1 (tVar 0) (tVar 1) { D with nx := tOst K f2 (tVar 0) (tVar 2) D } σ H)) :
    FnOk P w K mg base (L2.CX P w) 1 fI fd [s, p1, p2] (spI C [f1, f2]) := by
  refine Fun.okX F S (fun vs H Q E ⟨a, ws, H1, e, l, _⟩ => by subst e; simp [l]) fun cdv A outer s1 H vs Q E _ h => ⟨_, hb cdv A outer s1 H E, ?_⟩
  obtain ⟨a, ws, H1, rfl, l, ha, rfl, h⟩ := h
  match ws, l with
  | [y, z], _ =>
    refine ⟨y, rfl, .ref a, rfl, a, C, rfl, T, n1, .inl ⟨upd_same, fun d hd hda => ?_⟩⟩
    have hd1 : H1 d = none := by rw [upd_at, if_neg hda] at hd; exact hd
    refine ⟨z, rfl, .ref a, rfl, a, C, rfl, T, n2, .inr ⟨d, _, upd_same, (upd_ne hda).trans upd_same, by simp, ?_⟩⟩
    refine h d _ hd1 hda ?_ ?_ fun b hb1 hb2 => ?_
    · rw [upd_ne (fun e => hda e.symm), upd_same]
    · rw [upd_same] <;> rfl
    · rw [upd_ne hb2, upd_ne hb1, upd_ne hb2, upd_ne hb1]
end
/-! ### raise -/
theorem Reps.rev {G : Cn} {B : Addr → Prop} {W : Wd} : ∀ {vs : List V} {ds : List D}, Reps G B W vs ds → Reps G B W vs.reverse ds.reverse
  | _, _, .nil => .nil
  | _, _, .cons h t => by
    rw [List.reverse_cons, List.reverse_cons]
    exact (Reps.rev t).append (.cons h .nil)
/-- raise c(..) -/
def sRaise (c : Str) (names : List Str) (ms : M (List D)) : SM := fun env st => lift (ms env st) env fun ds s => if ds.length = names.length then .ok (.xc ⟨c, names.reverse, ds.reverse⟩ env) s else .bad
theorem zip_fst {α β : Type} : ∀ {xs : List α} {ys : List β}, ys.length = xs.length → (xs.zip ys).map (·.1) = xs
  | [], [], _ => rfl
  | x :: xs, y :: ys, h => congrArg (x :: ·) (zip_fst (by simpa using h))
theorem zip_snd {α β : Type} : ∀ {xs : List α} {ys : List β}, ys.length = xs.length → (xs.zip ys).map (·.2) = ys
  | [], [], _ => rfl
  | x :: xs, y :: ys, h => congrArg (y :: ·) (zip_snd (by simpa using h))
section
variable {X : Cx} {G : Cn} {XW : WX} {x : Str} {c : Str} {e : Expr} {es : List Expr} {ms : M (List D)} {pos p pos' : Pos} {k : Nat} {fI : Addr} {fd : FuncData} {ps names : List Str}
theorem js_raise (hc : X.calm = true) (tk : Takes X XW) (T : OexC X.K (G.cl c)) (iC : PySem.W.findIn X.K (.ref (G.cl c)) "__init__" = some (some (.ref fI))) (tI : PySem.W.typeIn X.K (.ref fI) = some (.type "function"))
    (F1 : FnOk X.prog X.w X.K X.mg X.base (L2.CX X.prog X.w) k fI fd ps (spI (G.cl c) names)) (hr : Room (k + 1) X.A) (hb : Binds X.K fd ps []) (hg : Gl X x) (hm : X.mg x = some (.ref (G.cl c))) (ha : PA X (e :: es) (tA G (eX XW) ms)) (hn : names.length ≤ 100 := by decide)
    (hdb : (x == ("__debug__" : Str)) = false := by decide) (he : starEach (e :: es) X.env = (false, eval e X.env) :: starEach es X.env := by rfl) (hpl : (backTo pos (starEach es X.env)).any (·.1) = false := by rfl) :
    PS X (.Raise (some (.Call (.Name x p) (e :: es) [] pos)) none pos') (tS G XW (sRaise c names ms)) := by
  refine PS.weak (ps_raise hc tk (pmk_oex T iC tI F1 hr hb .nil passL hg hm ha hdb he hpl)) fun D σ H ⟨B, W, env, e, R, S, o⟩ => ?_
  subst e
  refine sA R S o fun ds W1 vs x1 R1 S1 r1 o1 => ?_
  by_cases hl : ds.length = names.length
  · rw [if_pos hl] at o1
    have hv : vs.length = names.length := r1.length.trans hl
    refine ⟨by omega, fun a ha => ⟨a, vs, W1.H, by rw [List.append_nil], hv, ha, rfl, fun d H2 hd hda e1 e2 e3 => ⟨rfl, d, _, e1, e2, hd, ?_⟩⟩⟩
    have eH : upd (del H2 a) d (.xd (names.zip vs).reverse) = (W1.new d (.xd (names.zip vs).reverse)).H := by
      funext b
      show upd (del H2 a) d _ b = upd W1.H d _ b
      rw [upd_at, upd_at]
      by_cases hb : b = d
      · rw [if_pos hb, if_pos hb]
      · rw [if_neg hb, if_neg hb]
        by_cases hba : b = a
        · subst hba
          rw [del_same, ha]
        · rw [del_ne hba, e3 b hba hb]
    rw [eH]
    have x2 := Ext.new (o := .xd (names.zip vs).reverse) R1.len hd
    refine o1 _ x2 (R1.new hd) rfl σ _ _ (S1.ext R1 x2) ⟨rfl, .inr ⟨d, _, rfl, upd_same, ?_, ?_⟩⟩
    · show ((names.zip vs).reverse).map (·.1) = names.reverse
      rw [List.map_reverse, zip_fst hv]
    · show Reps G B _ (((names.zip vs).reverse).map (·.2)) ds.reverse
      rw [List.map_reverse, zip_snd hv]
      exact Reps.ext R1 x2 _ _ r1.rev
  · rw [if_neg hl] at o1
    exact o1.elim
end
/-! ### data without errors -/
mutual
def D.noX : D → Bool
  | .tup xs => D.noXs xs
  | .lst xs => D.noXs xs
  | .fro xs => D.noXs xs
  | .dct _ vs => D.noXs vs
  | .obj _ _ vs => D.noXs vs
  | .loc _ => true
  | .exn _ _ _ => false
  | .non => true
  | .bl _ => true
  | .int _ => true
  | .str _ => true
def D.noXs : List D → Bool
  | [] => true
  | d :: ds => d.noX && D.noXs ds
end
def Cell.noX : Cell → Bool
  | .lst xs => D.noXs xs
  | .dct _ xs => D.noXs xs
  | .ins _ _ xs => D.noXs xs
  | .dead => true
def stNoX (st : Store) : Bool := st.all Cell.noX
def slNoX (env : Sl) : Bool := env.all fun o => match o with
  | some d => d.noX
  | none => true
section
variable {G : Cn} {B : Addr → Prop} {W : Wd} {ex : Addr → Option (Value × Option Addr)}
mutual
theorem Rep.sup (hg : G.ex = fun _ => none) : ∀ (d : D) (v : V), Rep G B W v d → Rep { G with ex := ex } B W v d
  | .non, _, h => by cases h; exact .non
  | .bl b, _, h => by cases h; exact .bl b
  | .int i, _, h => by cases h; exact .int i
  | .str i, _, h => by cases h; exact .str i
  | .tup ds, _, h => by
    cases h with
    | tup h t => exact .tup (G := { G with ex := ex }) h (Reps.sup hg ds _ t)
  | .lst ds, _, h => by
    cases h with
    | lst h m t => exact .lst h m (Reps.sup hg ds _ t)
  | .fro ds, _, h => by
    cases h with
    | fro h t => exact .fro (G := { G with ex := ex }) h (Reps.sup hg ds _ t)
  | .dct ks ds, _, h => by
    cases h with
    | dct h m e t => exact .dct h m e (Reps.sup hg ds _ t)
  | .obj c ns ds, _, h => by
    cases h with
    | obj h m e t => exact .obj (G := { G with ex := ex }) h m e (Reps.sup hg ds _ t)
  | .loc _, _, h => by
    cases h with
    | loc h => exact .loc h
  | .exn _ _ _, _, h => by
    cases h with
    | exn0 h => rw [hg] at h; cases h
    | exn1 h _ _ _ => rw [hg] at h; cases h
theorem Reps.sup (hg : G.ex = fun _ => none) : ∀ (ds : List D) (vs : List V), Reps G B W vs ds → Reps { G with ex := ex } B W vs ds
  | [], _, h => by cases h; exact .nil
  | d :: ds, _, h => by
    cases h with
    | cons h t => exact .cons (Rep.sup hg d _ h) (Reps.sup hg ds _ t)
end
mutual
theorem Rep.unsup : ∀ (d : D) (v : V), d.noX = true → Rep { G with ex := ex } B W v d → Rep G B W v d
  | .non, _, _, h => by cases h; exact .non
  | .bl b, _, _, h => by cases h; exact .bl b
  | .int i, _, _, h => by cases h; exact .int i
  | .str i, _, _, h => by cases h; exact .str i
  | .tup ds, _, n, h => by
    cases h with
    | tup h t => exact .tup (G := G) h (Reps.unsup ds _ n t)
  | .lst ds, _, n, h => by
    cases h with
    | lst h m t => exact .lst h m (Reps.unsup ds _ n t)
  | .fro ds, _, n, h => by
    cases h with
    | fro h t => exact .fro (G := G) h (Reps.unsup ds _ n t)
  | .dct ks ds, _, n, h => by
    cases h with
    | dct h m e t => exact .dct h m e (Reps.unsup ds _ n t)
  | .obj c ns ds, _, n, h => by
    cases h with
    | obj h m e t => exact .obj (G := G) h m e (Reps.unsup ds _ n t)
  | .loc _, _, _, h => by
    cases h with
    | loc h => exact .loc h
  | .exn _ _ _, _, n, _ => by cases n
theorem Reps.unsup : ∀ (ds : List D) (vs : List V), D.noXs ds = true → Reps { G with ex := ex } B W vs ds → Reps G B W vs ds
  | [], _, _, h => by cases h; exact .nil
  | d :: ds, _, n, h => by
    cases h with
    | cons h t =>
      obtain ⟨n1, n2⟩ := Bool.and_eq_true_iff.mp n
      exact .cons (Rep.unsup d _ n1 h) (Reps.unsup ds _ n2 t)
end
theorem Rel.sup (hg : G.ex = fun _ => none) (R : Rel G B W) : Rel { G with ex := ex } B W := by
  refine ⟨R.len, R.nd, R.ban, R.sep, fun n a c h1 h2 => ?_⟩
  have q := R.cell n a c h1 h2
  cases c with
  | lst ds => obtain ⟨vs, e, t⟩ := q; exact ⟨vs, e, Reps.sup hg _ _ t⟩
  | dct ks ds => obtain ⟨vs, e, k, t⟩ := q; exact ⟨vs, e, k, Reps.sup hg _ _ t⟩
  | ins c ns ds => obtain ⟨dx, vs, e, k, t⟩ := q; exact ⟨dx, vs, e, k, Reps.sup hg _ _ t⟩
  | dead => exact q
theorem Rel.unsup (n : stNoX W.st = true) (R : Rel { G with ex := ex } B W) : Rel G B W := by
  refine ⟨R.len, R.nd, R.ban, R.sep, fun m a c h1 h2 => ?_⟩
  have q := R.cell m a c h1 h2
  have nc := List.all_eq_true.mp n c (List.mem_of_getElem? h2)
  cases c with
  | lst ds => obtain ⟨vs, e, t⟩ := q; exact ⟨vs, e, Reps.unsup _ _ nc t⟩
  | dct ks ds => obtain ⟨vs, e, k, t⟩ := q; exact ⟨vs, e, k, Reps.unsup _ _ nc t⟩
  | ins c ns ds => obtain ⟨dx, vs, e, k, t⟩ := q; exact ⟨dx, vs, e, k, Reps.unsup _ _ nc t⟩
  | dead => exact q
theorem Slots.sup {σ : L2.St} {env : Sl} (hg : G.ex = fun _ => none) (S : Slots G B W σ env) : Slots { G with ex := ex } B W σ env := ⟨S.1, fun i d e => by
  obtain ⟨v, h1, h2⟩ := S.2 i d e
  exact ⟨v, h1, Rep.sup hg _ _ h2⟩⟩
theorem Slots.unsup {σ : L2.St} {env : Sl} (n : slNoX env = true) (S : Slots { G with ex := ex } B W σ env) : Slots G B W σ env := ⟨S.1, fun i d e => by
  obtain ⟨v, h1, h2⟩ := S.2 i d e
  have nd := List.all_eq_true.mp n (some d) (List.mem_of_getElem? e)
  exact ⟨v, h1, Rep.unsup _ _ nd h2⟩⟩
end
section
variable {G : Cn} {B : Addr → Prop} {W : Wd}
mutual
theorem Rep.noX (hg : G.ex = fun _ => none) : ∀ (d : D) (v : V), Rep G B W v d → d.noX = true
  | .non, _, _ => rfl
  | .bl _, _, _ => rfl
  | .int _, _, _ => rfl
  | .str _, _, _ => rfl
  | .loc _, _, _ => rfl
  | .tup ds, _, h => by
    cases h with
    | tup h t => exact Reps.noX hg ds _ t
  | .lst ds, _, h => by
    cases h with
    | lst h m t => exact Reps.noX hg ds _ t
  | .fro ds, _, h => by
    cases h with
    | fro h t => exact Reps.noX hg ds _ t
  | .dct ks ds, _, h => by
    cases h with
    | dct h m e t => exact Reps.noX hg ds _ t
  | .obj c ns ds, _, h => by
    cases h with
    | obj h m e t => exact Reps.noX hg ds _ t
  | .exn _ _ _, _, h => by
    cases h with
    | exn0 h => rw [hg] at h; cases h
    | exn1 h _ _ _ => rw [hg] at h; cases h
theorem Reps.noX (hg : G.ex = fun _ => none) : ∀ (ds : List D) (vs : List V), Reps G B W vs ds → D.noXs ds = true
  | [], _, _ => rfl
  | d :: ds, _, h => by
    cases h with
    | cons h t => exact Bool.and_eq_true_iff.mpr ⟨Rep.noX hg d _ h, Reps.noX hg ds _ t⟩
end
theorem Rel.noX (hg : G.ex = fun _ => none) (R : Rel G B W) : stNoX W.st = true := by
  refine List.all_eq_true.mpr fun c hc => ?_
  obtain ⟨n, hn, e⟩ := List.mem_iff_getElem.mp hc
  have hn2 : n < W.r.length := by rw [R.len]; exact hn
  have q := R.cell n W.r[n] c (List.getElem?_eq_getElem hn2) (by rw [List.getElem?_eq_getElem hn, e])
  cases c with
  | lst ds => obtain ⟨vs, _, t⟩ := q; exact Reps.noX hg _ _ t
  | dct ks ds => obtain ⟨vs, _, _, t⟩ := q; exact Reps.noX hg _ _ t
  | ins c ns ds => obtain ⟨dx, vs, _, _, t⟩ := q; exact Reps.noX hg _ _ t
  | dead => rfl
end
/-! ### try: one handler that names the error -/
open Classical in
/-- behind the suite: the name is gone, no error is left in the data; s0: the store ahead of it, which has none -/
noncomputable def outS (i : Nat) (s0 : Store) : R Fl → R Fl
  | .ok (.nx env) s => if slNoX (env.set i none) = true ∧ (s = s0 ∨ stNoX s = true) then .ok (.nx (env.set i none)) s else .bad
  | .ok (.rt d) s => if d.noX = true ∧ (s = s0 ∨ stNoX s = true) then .ok (.rt d) s else .bad
  | .ok (.bk env) s => if slNoX (env.set i none) = true ∧ (s = s0 ∨ stNoX s = true) then .ok (.bk (env.set i none)) s else .bad
  | .ok (.ct env) s => if slNoX (env.set i none) = true ∧ (s = s0 ∨ stNoX s = true) then .ok (.ct (env.set i none)) s else .bad
  | .ok (.xc _ _) _ => .bad
  | _ => .bad
noncomputable def sTry (hit : Str → Option Bool) (i : Nat) (mb ms : SM) : SM := fun env st => match mb env st with
  | .ok (.xc e env1) s => (match hit e.c with
    | some true => outS i s (ms (env1.set i (some (.exn e.c e.ns e.vs))) s)
    | some false => .ok (.xc e env1) s
    | none => .bad)
  | r => r
abbrev WF : WX := fun _ _ _ _ => False
section
variable {X : Cx} {G : Cn} {XW : WX}
theorem out_sup {B : Addr → Prop} {W : Wd} {ex : Addr → Option (Value × Option Addr)} {D : Ends} {i : Nat} {s0 : Store} {r : DL.R Fl} (n0 : stNoX s0 = true) (o : Out G B W E0 (outS i s0 r) (FlQ G B XW D)) :
    Out { G with ex := ex } B W E0 r (FlQ { G with ex := ex } B WF { nx := fun σ' H' => D.nx (σ'.set i none) H', rt := D.rt, bk := fun σ' H' => D.bk (σ'.set i none) H', ct := fun σ' H' => D.ct (σ'.set i none) H' }) := by
  have cl : ∀ {W' : Wd} {σ' : L2.St} {env : Sl}, slNoX (env.set i none) = true → Slots { G with ex := ex } B W' σ' env → Slots G B W' (σ'.set i none) (env.set i none) := fun n S => Slots.unsup n (S.clear i none)
  cases r with
  | ok fl s =>
    cases fl with
    | nx env =>
      simp only [outS] at o
      by_cases c : slNoX (env.set i none) = true ∧ (s = s0 ∨ stNoX s = true)
      · rw [if_pos c] at o
        exact fun W' x R e σ' S => o W' x (R.unsup (by rw [e]; exact c.2.elim (fun q => q ▸ n0) id)) e _ (cl c.1 S)
      · rw [if_neg c] at o; exact o.elim
    | rt d =>
      simp only [outS] at o
      by_cases c : d.noX = true ∧ (s = s0 ∨ stNoX s = true)
      · rw [if_pos c] at o
        exact fun W' x R e v rv => o W' x (R.unsup (by rw [e]; exact c.2.elim (fun q => q ▸ n0) id)) e v (Rep.unsup _ _ c.1 rv)
      · rw [if_neg c] at o; exact o.elim
    | bk env =>
      simp only [outS] at o
      by_cases c : slNoX (env.set i none) = true ∧ (s = s0 ∨ stNoX s = true)
      · rw [if_pos c] at o
        exact fun W' x R e σ' S => o W' x (R.unsup (by rw [e]; exact c.2.elim (fun q => q ▸ n0) id)) e _ (cl c.1 S)
      · rw [if_neg c] at o; exact o.elim
    | ct env =>
      simp only [outS] at o
      by_cases c : slNoX (env.set i none) = true ∧ (s = s0 ∨ stNoX s = true)
      · rw [if_pos c] at o
        exact fun W' x R e σ' S => o W' x (R.unsup (by rw [e]; exact c.2.elim (fun q => q ▸ n0) id)) e _ (cl c.1 S)
      · rw [if_neg c] at o; exact o.elim
    | xc e env => exact o.elim
  | exc e s => exact o.elim
  | bad => exact o.elim
/-- the classes that a handler takes -/
def HitOk (K : PySem.W.Frag) (G : Cn) (cv : Value) (hit : Str → Option Bool) : Prop := ∀ c b, hit c = some b → PySem.W.exmOne K (.ref (G.cl c)) cv = some b
theorem js_try {x n : Str} {cv : Value} {i : Nat} {body suite : List Stmt} {b0 : Stmt} {np pos pos' : Pos} {hit : Str → Option Bool} {mb ms : SM} (hg : G.ex = fun _ => none) (hs : X.stack = X.env :: X.outer) (hf : X.env.frame = some X.env.locals) (hN : X.N.Nodup) (hi : X.N[i]? = some n) (hln : X.env.kindOf n = some .local) (hc : Names X x cv) (tk : Takes X XW)
    (hh : HitOk X.K G cv hit)
    (hb : ∀ (W : WX) (pn : List (Addr × Obj)) (xe : Value → Shared → Prop), Takes (X.tr pn xe) W → PassesOwn (model X.prog X.w) X.A X.env xe → PSs (X.tr pn xe) body (tS G W mb))
    (hsu : ∀ (a : Addr) (oe : Obj) (cls : Value) (d : Option Addr) (pn : List (Addr × Obj)), Zc cls d oe → (∃ vs, oe.data = .fields vs) → PSs (X.suite a ((a, oe) :: pn)) (b0 :: suite) (tS (G.sup a cls d) WF ms)) :
    PS X (.Try body [.ExceptHandler (some (.Name x np)) (some n) (b0 :: suite) pos'] [] [] pos) (tS G XW (sTry hit i mb ms)) := by
  refine PS.weak (ps_try_as (tb := fun W => tS G W mb) (ts := fun a cls d => tS (G.sup a cls d) WF ms) hs hf hN hi hln hc tk hb hsu) fun D σ H ⟨B, W, env, e, R, S, o⟩ => ?_
  subst e
  refine ⟨B, W, env, rfl, R, S, ?_⟩
  unfold sTry at o
  cases q : mb env W.st with
  | ok fl s =>
    rw [q] at o
    cases fl with
    | nx env1 => exact o
    | rt d => exact o
    | bk env1 => exact o
    | ct env1 => exact o
    | xc e env1 =>
      cases z : hit e.c with
      | none => simp only [z] at o; exact o.elim
      | some b =>
        simp only [z] at o
        intro W' x R1 e1 σ1 cls dd S1 rx
        obtain ⟨ec, rx2⟩ := id rx
        subst ec
        refine ⟨b, hh _ _ z, fun hb1 a ha => ?_, fun hb1 => ?_⟩
        · subst hb1
          subst e1
          have o1 : Out G B W E0 (outS i W'.st (ms (env1.set i (some (.exn e.c e.ns e.vs))) W'.st)) (FlQ G B XW D) := o
          refine ⟨B, W', _, rfl, R1.sup hg, (S1.sup hg).set i (v := .ref a) (d := .exn e.c e.ns e.vs) ?_, out_sup (R1.noX hg) (Out.ext o1 x)⟩
          rcases rx2 with ⟨h1, h2, h3⟩ | ⟨d, fs, h3, h4, h5, h6⟩
          · subst h3
            rw [h1, h2]
            exact .exn0 (show (if a = a then some (Value.ref (G.cl e.c), none) else none) = _ by rw [if_pos rfl])
          · subst h3
            exact .exn1 (G := G.sup a (.ref (G.cl e.c)) (some d)) (show (if a = a then some (Value.ref (G.cl e.c), some d) else none) = _ by rw [if_pos rfl]) h4 h5 (Reps.sup hg _ _ h6)
        · subst hb1
          exact o W' x R1 e1 σ1 _ dd S1 rx
  | exc e s => rw [q] at o; exact o
  | bad => rw [q] at o; exact o.elim
/-- e.f, e the error that the suite holds, of the class c -/
def mXf (c f : Str) (mo : M D) : M D := fun env st => (mo env st).bind fun d s => match d with
  | .exn c' ns vs => if c' = c then (match (ns.zip vs).lookup f with
    | some z => .ok z s
    | none => .bad) else .bad
  | _ => .bad
theorem je_xf {E : ES} {a : Addr} {oe : Obj} {cls : Value} {dd : Option Addr} {pn : List (Addr × Obj)} {e : Expr} {mo : M D} {pos : Pos} {c n : Str} (T : XfC X.K (G.cl c)) (hno : PySem.W.findIn X.K (.ref (G.cl c)) n = some none)
    (hz : Zc cls dd oe) (hf : ∃ vs, oe.data = .fields vs) (he : PE (X.suite a ((a, oe) :: pn)) e (tE (G.sup a cls dd) E mo)) (hb : attributeBase e n X.env (eval e X.env) = eval e X.env := by rfl) :
    PE (X.suite a ((a, oe) :: pn)) (.Attribute e n pos) (tE (G.sup a cls dd) E (mXf c n mo)) := by
  refine PE.weak (pe_xf T hno hz hf he hb) fun σ H Q ⟨B, W, env, e, R, S, o⟩ => ?_
  subst e
  refine tE_of R S o fun d W1 v x1 R1 S1 r1 o1 => ?_
  cases r1 with
  | @exn0 a' c' h =>
    exfalso
    by_cases hcc : c' = c
    · simp only [if_pos hcc] at o1
      exact o1.elim
    · simp only [if_neg hcc] at o1
      exact o1.elim
  | @exn1 a' d1 c' fs ns ds h hx e t =>
    by_cases hcc : c' = c
    · subst hcc
      simp only [if_pos rfl] at o1
      cases z : (ns.zip ds).lookup n with
      | none => simp only [z] at o1; exact o1.elim
      | some w =>
        simp only [z] at o1
        subst e
        obtain ⟨u, h4, h5⟩ := Reps.lookup t z
        have h2 : (if a' = a then some (cls, dd) else none) = some (Value.ref (G.cl c'), some d1) := h
        by_cases ea : a' = a
        · subst ea
          rw [if_pos rfl] at h2
          cases h2
          exact ⟨rfl, rfl, d1, fs, u, rfl, hx, h4, o1.ret R1 u h5⟩
        · rw [if_neg ea] at h2; cases h2
    · simp only [if_neg hcc] at o1
      exact o1.elim
  | _ => exact o1.elim
end
end DL

set_option maxHeartbeats 2000000
/-! DLC: zip, enumerate. -/
namespace DL
open PySem PySem.Spec PyProof.Rows L2

def isT : D → Bool
  | .tup _ => true
  | _ => false
def pairsD : List D → List D → List D
  | x :: xs, y :: ys => .tup [x, y] :: pairsD xs ys
  | _, _ => []
theorem pairs_get : ∀ {xs ys : List D} {i : Nat} {d : D}, (pairsD xs ys)[i]? = some d → ∃ x y, xs[i]? = some x ∧ ys[i]? = some y ∧ d = .tup [x, y]
  | x :: xs, y :: ys, 0, d, e => by
    simp only [pairsD, List.getElem?_cons_zero, Option.some.injEq] at e
    exact ⟨x, y, rfl, rfl, e.symm⟩
  | x :: xs, y :: ys, i + 1, d, e => by
    simp only [pairsD, List.getElem?_cons_succ] at e
    simpa using pairs_get e
  | [], _, _, _, e => by simp [pairsD] at e
  | _ :: _, [], _, _, e => by simp [pairsD] at e
theorem pairs_len : ∀ {xs ys : List D}, (pairsD xs ys).length = min xs.length ys.length
  | x :: xs, y :: ys => by simp only [pairsD, List.length_cons, pairs_len]; omega
  | [], ys => by simp [pairsD]
  | _ :: _, [] => by simp [pairsD]
section
variable {G : Cn} {B B' : Addr → Prop} {W W' W0 : Wd}
/-- what stands at a, in a later world too -/
def StL (G : Cn) (B : Addr → Prop) (W0 : Wd) (a : Addr) (r : Src) : Prop := ∀ W, Ext W0 W → ∀ B', (∀ a, B a → B' a) → Rel G B' W → (∀ v d, Rep G B W0 v d → Rep G B' W v d) → r.okS W.st → ∃ vs, SqL G.K W.H a vs ∧ Reps G B' W vs r.items
def StT (G : Cn) (B : Addr → Prop) (W0 : Wd) (a : Addr) (r : Src) : Prop := ∀ W, Ext W0 W → ∀ B', (∀ a, B a → B' a) → Rel G B' W → (∀ v d, Rep G B W0 v d → Rep G B' W v d) → r.okS W.st → ∃ vs, SqT G.K W.H a vs ∧ Reps G B' W vs r.items
theorem Rep.stands {v : V} {d : D} {r : Src} (R : Rel G B W) (h : Rep G B W v d) (e : srcOf W.st d = some r) :
    (isT d = false ∧ ∃ a, v = .ref a ∧ (∃ xs, SqL G.K W.H a xs) ∧ StL G B W a r) ∨ (isT d = true ∧ ∃ a, v = .ref a ∧ (∃ xs, SqT G.K W.H a xs) ∧ StT G B W a r) := by
  have rl : ∀ {a : Addr} {xs : List D}, Rep G B W (.ref a) (.lst xs) → StL G B W a ⟨xs, []⟩ := fun {a xs} h W2 x B' hB R2 hR ok => by
    have z := hR _ _ h
    cases z with
    | lst h' n t => exact ⟨_, SqL.of h', t⟩
  have rf : ∀ {a : Addr} {xs : List D}, Rep G B W (.ref a) (.fro xs) → StL G B W a ⟨xs, []⟩ := fun {a xs} h W2 x B' hB R2 hR ok => by
    have z := hR _ _ h
    cases z with
    | fro h' t =>
      rcases h' with ⟨o, h'⟩ | ⟨o, its, n, k⟩
      · exact ⟨_, .inl (.inr ⟨o, h'⟩), t⟩
      · exact ⟨_, .inr ⟨o, its, n, k⟩, t⟩
  have rt : ∀ {a : Addr} {xs : List D}, Rep G B W (.ref a) (.tup xs) → StT G B W a ⟨xs, []⟩ := fun {a xs} h W2 x B' hB R2 hR ok => by
    have z := hR _ _ h
    cases z with
    | tup h' t => exact ⟨_, h', t⟩
  cases h with
  | tup h t => cases e; exact .inr ⟨rfl, _, rfl, ⟨_, h⟩, rt (.tup h t)⟩
  | lst h n t => cases e; exact .inl ⟨rfl, _, rfl, ⟨_, SqL.of h⟩, rl (.lst h n t)⟩
  | fro h t =>
    cases e
    refine .inl ⟨rfl, _, rfl, ?_, rf (.fro h t)⟩
    rcases h with ⟨o, h'⟩ | ⟨o, its, n, k⟩
    · exact ⟨_, .inl (.inr ⟨o, h'⟩)⟩
    · exact ⟨_, .inr ⟨o, its, n, k⟩⟩
  | @loc a n h =>
    cases q : W.st[n]? with
    | none => simp only [srcOf, q] at e; cases e
    | some c =>
      cases c with
      | lst xs =>
        simp only [srcOf, q] at e
        cases e
        obtain ⟨vs, h1, h2⟩ := R.cell n a _ h q
        refine .inl ⟨rfl, a, rfl, ⟨vs, SqL.of h1⟩, fun W2 x B' hB R2 hR ok => ?_⟩
        have z := hR _ _ (.loc h)
        have q2 := ok (n, xs) (by simp)
        cases z with
        | loc h' =>
          obtain ⟨us, h3, h4⟩ := R2.cell n a _ h' q2
          exact ⟨us, SqL.of h3, h4⟩
      | _ => simp only [srcOf, q] at e; cases e
  | _ => cases e
theorem okS_app {r s : Src} {items : List D} {st : Store} (h : Src.okS ⟨items, r.guard ++ s.guard⟩ st) : r.okS st ∧ s.okS st :=
  ⟨fun p hp => h p (List.mem_append.mpr (.inl hp)), fun p hp => h p (List.mem_append.mpr (.inr hp))⟩
theorem yields2 {T : Addr} (R : Rel G B W) (hT : W.H T = none) {x y : V} {d e : D} (rx : Rep G B W x d) (ry : Rep G B W y e) :
    ∃ W', W'.H = upd W.H T (.tup [x, y]) ∧ W'.st = W.st ∧ W'.r = W.r ∧ (∀ a o, W.H a = some o → upd W.H T (.tup [x, y]) a = some o) ∧ Ext W W' ∧ Rel G B W' ∧ Rep G B W' (.ref T) (.tup [d, e]) :=
  ⟨W.new T (.tup [x, y]), rfl, rfl, rfl, fun a o q => (upd_ne (ne_of_none q hT)).trans q, Ext.new R.len hT, R.new hT, .newT R hT (.cons rx (.cons ry .nil))⟩
theorem walks_zipL {a b : Addr} {r s : Src} (h1 : StL G B W0 a r) (h2 : StL G B W0 b s) : Walks G B W0 (Itz G.K a b) ⟨pairsD r.items s.items, r.guard ++ s.guard⟩ := by
  intro W x B' hB R hR ok
  obtain ⟨k1, k2⟩ := okS_app ok
  obtain ⟨vs, e1, t1⟩ := h1 W x B' hB R hR k1
  obtain ⟨us, e2, t2⟩ := h2 W x B' hB R hR k2
  refine ⟨fun i d e => ?_, fun i hi => ⟨vs, us, e1, e2, ?_⟩⟩
  · obtain ⟨dx, dy, h3, h4, rfl⟩ := pairs_get e
    obtain ⟨vx, g1, rx⟩ := t1.get h3
    obtain ⟨vy, g2, ry⟩ := t2.get h4
    refine ⟨⟨vs, us, vx, vy, e1, e2, g1, g2⟩, fun z H' y => ?_⟩
    obtain ⟨T, x', y', rfl, hT, rfl, y1, y2⟩ := y
    have q1 := y1 vs e1
    have q2 := y2 us e2
    rw [g1] at q1
    rw [g2] at q2
    cases q1
    cases q2
    exact yields2 R hT rx ry
  · rw [pairs_len] at hi
    rw [t1.length, t2.length]
    omega
theorem walks_zipT {a b : Addr} {r s : Src} (h1 : StT G B W0 a r) (h2 : StT G B W0 b s) : Walks G B W0 (RZ.ItzT G.K a b) ⟨pairsD r.items s.items, r.guard ++ s.guard⟩ := by
  intro W x B' hB R hR ok
  obtain ⟨k1, k2⟩ := okS_app ok
  obtain ⟨vs, e1, t1⟩ := h1 W x B' hB R hR k1
  obtain ⟨us, e2, t2⟩ := h2 W x B' hB R hR k2
  refine ⟨fun i d e => ?_, fun i hi => ⟨vs, us, e1, e2, ?_⟩⟩
  · obtain ⟨dx, dy, h3, h4, rfl⟩ := pairs_get e
    obtain ⟨vx, g1, rx⟩ := t1.get h3
    obtain ⟨vy, g2, ry⟩ := t2.get h4
    refine ⟨⟨vs, us, vx, vy, e1, e2, g1, g2⟩, fun z H' y => ?_⟩
    obtain ⟨T, x', y', rfl, hT, rfl, y1, y2⟩ := y
    have q1 := y1 vs e1
    have q2 := y2 us e2
    rw [g1] at q1
    rw [g2] at q2
    cases q1
    cases q2
    exact yields2 R hT rx ry
  · rw [pairs_len] at hi
    rw [t1.length, t2.length]
    omega
end
/-- zip(x, y): two lists or two tuples -/
def mZip (ms : M (List D)) : M Src := fun env st => (ms env st).bind fun ds s => match ds with
  | [d, e] => if isT d = isT e then (match srcOf s d, srcOf s e with
    | some r, some q => .ok ⟨pairsD r.items q.items, r.guard ++ q.guard⟩ s
    | _, _ => .bad) else .bad
  | _ => .bad
/-- enumerate(x): a list -/
def numD : Nat → List D → List D
  | _, [] => []
  | n, x :: xs => .tup [.int n, x] :: numD (n + 1) xs
theorem num_get : ∀ {xs : List D} {n i : Nat} {d : D}, (numD n xs)[i]? = some d → ∃ x, xs[i]? = some x ∧ d = .tup [.int ((n + i : Nat) : Int), x]
  | x :: xs, n, 0, d, e => by
    simp only [numD, List.getElem?_cons_zero, Option.some.injEq] at e
    exact ⟨x, rfl, e.symm⟩
  | x :: xs, n, i + 1, d, e => by
    simp only [numD, List.getElem?_cons_succ] at e
    obtain ⟨y, h1, h2⟩ := num_get e
    exact ⟨y, by simpa using h1, by rw [h2]; congr 4; omega⟩
  | [], _, _, _, e => by simp [numD] at e
theorem num_len : ∀ {xs : List D} {n : Nat}, (numD n xs).length = xs.length
  | [], _ => rfl
  | x :: xs, n => congrArg (· + 1) num_len
theorem walks_enum {G : Cn} {B : Addr → Prop} {W0 : Wd} {a : Addr} {r : Src} (h1 : StL G B W0 a r) : Walks G B W0 (Ite G.K a) ⟨numD 0 r.items, r.guard⟩ := by
  intro W x B' hB R hR ok
  obtain ⟨vs, e1, t1⟩ := h1 W x B' hB R hR ok
  refine ⟨fun i d e => ?_, fun i hi => ⟨vs, e1, ?_⟩⟩
  · obtain ⟨dx, h3, rfl⟩ := num_get e
    obtain ⟨vx, g1, rx⟩ := t1.get h3
    refine ⟨⟨vs, vx, e1, g1⟩, fun z H' y => ?_⟩
    obtain ⟨T, x', rfl, hT, rfl, y1⟩ := y
    have q1 := y1 vs e1
    rw [g1] at q1
    cases q1
    rw [Nat.zero_add]
    exact yields2 R hT (.int _) rx
  · rw [num_len] at hi
    rw [t1.length]
    exact hi
def mEnum (ms : M (List D)) : M Src := fun env st => (ms env st).bind fun ds s => match ds with
  | [d] => if isT d = false then (match srcOf s d with
    | some r => .ok ⟨numD 0 r.items, r.guard⟩ s
    | none => .bad) else .bad
  | _ => .bad
section
variable {X : Cx} {G : Cn} {E : ES} {e e2 : Expr} {ms : M (List D)} {p pos tpos : Pos} {elts : List Expr} {kk : Nat}
theorem ji_zip (hK : G.K = X.K) (hg : Gl X "zip") (hm : X.mg "zip" = none) (ha : PA X [e, e2] (tA G E ms))
    (hs : starEach [e, e2] X.env = (false, eval e X.env) :: starEach [e2] X.env := by rfl) (hpl : (backTo pos (starEach [e2] X.env)).any (·.1) = false := by rfl) : PI X (.Tuple elts kk tpos) (.Call (.Name "zip" p) [e, e2] [] pos) (tI G E (mZip ms)) := by
  refine PI.weak (RZ.pi_zipA hg hm ha hs hpl) fun σ H Q ⟨B, W, env, e, R, S, o⟩ => ?_
  subst e
  rw [← hK]
  refine tA_of R S o fun ds W1 vs x1 R1 S1 r1 o1 => ?_
  match ds, r1, o1 with
  | [d, f], .cons h1 (.cons h2 .nil), o1 =>
    by_cases c : isT d = isT f
    · simp only [if_pos c] at o1
      cases q1 : srcOf W1.st d with
      | none => simp only [q1] at o1; exact o1.elim
      | some r =>
        cases q2 : srcOf W1.st f with
        | none => simp only [q1, q2] at o1; exact o1.elim
        | some s =>
          simp only [q1, q2] at o1
          rcases h1.stands R1 q1 with ⟨t1, a, rfl, ⟨xs, e1⟩, w1⟩ | ⟨t1, a, rfl, ⟨xs, e1⟩, w1⟩
          · rcases h2.stands R1 q2 with ⟨t2, b, rfl, ⟨ys, e2⟩, w2⟩ | ⟨t2, b, rfl, ⟨ys, e2⟩, w2⟩
            · exact ⟨a, b, xs, ys, rfl, .inl ⟨e1, e2, o1.ret R1 _ (walks_zipL w1 w2)⟩⟩
            · rw [t1, t2] at c; cases c
          · rcases h2.stands R1 q2 with ⟨t2, b, rfl, ⟨ys, e2⟩, w2⟩ | ⟨t2, b, rfl, ⟨ys, e2⟩, w2⟩
            · rw [t1, t2] at c; cases c
            · exact ⟨a, b, xs, ys, rfl, .inr ⟨e1, e2, o1.ret R1 _ (walks_zipT w1 w2)⟩⟩
    · simp only [if_neg c] at o1
      exact o1.elim
theorem ji_enum (hK : G.K = X.K) (hg : Gl X "enumerate") (hm : X.mg "enumerate" = none) (ha : PA X [e] (tA G E ms))
    (hs : starEach [e] X.env = [(false, eval e X.env)] := by rfl) : PI X (.Tuple elts kk tpos) (.Call (.Name "enumerate" p) [e] [] pos) (tI G E (mEnum ms)) := by
  refine PI.weak (pi_enum hg hm ha hs) fun σ H Q ⟨B, W, env, e, R, S, o⟩ => ?_
  subst e
  rw [← hK]
  refine tA_of R S o fun ds W1 vs x1 R1 S1 r1 o1 => ?_
  match ds, r1, o1 with
  | [d], .cons h1 .nil, o1 =>
    by_cases c : isT d = false
    · simp only [if_pos c] at o1
      cases q1 : srcOf W1.st d with
      | none => simp only [q1] at o1; exact o1.elim
      | some r =>
        simp only [q1] at o1
        rcases h1.stands R1 q1 with ⟨t1, a, rfl, ⟨xs, e1⟩, w1⟩ | ⟨t1, a, rfl, ⟨xs, e1⟩, w1⟩
        · exact ⟨a, xs, rfl, e1, o1.ret R1 _ (walks_enum w1)⟩
        · rw [t1] at c; cases c
    · simp only [if_neg c] at o1
      exact o1.elim
end
end DL

set_option maxHeartbeats 4000000
/-! DE: enumerate of a tuple, too. -/
namespace DL
open PySem PySem.Spec PyProof.Rows L2
open Sem (wp)
/-- enumerate(x): what its making leaves -/
abbrev enO (h : Heap) : Obj := { cls := .type "enumerate", data := .fields #[.none, .bool false, .ref h.objs.size, rawInt 0, .none, .none] }
set_option maxHeartbeats 8000000 in
theorem enum_made {v : Value} {ob : Obj} {J : Heap → Prop} (Bg : Begins v ob J) : Meets (Builtin.«enumerate.__new__» ⟨[.type "enumerate", v], []⟩)
    (fun _ R z => J z.heap ∧ R (.ok (.ret (.ref (z.heap.push ob).objs.size))) { z with heap := (z.heap.push ob).push (enO z.heap) }) :=
  .of_wp fun pg wd Ar Rr z hz => by
    obtain ⟨hp, gl, dd, tk, os⟩ := z
    obtain ⟨j1, hz⟩ := hz
    have su := sub_enumerate
    have qq : ∀ {Ar' : Around} {Er Qr : Value → Shared → Prop}, Qr (.ref hp.objs.size) ⟨hp.push ob, gl, dd, tk, os⟩ → wpAny (model pg wd) Ar' (pyIter v) Qr Er ⟨hp, gl, dd, tk, os⟩ := fun q => Bg.iter pg wd _ _ ⟨hp, gl, dd, tk, os⟩ _ j1 q
    wp_walk using qq
    refine wpAny_stack_any fun sk => wpAny_pure ?_
    split
    · rename_i cc _ _ _ _ _
      cases (cc == Value.type "enumerate") <;> (wp_walk using qq; exact ⟨_, rfl, hz⟩)
    · wp_walk using qq
      exact ⟨_, rfl, hz⟩
theorem call_enumT {pg : Program} {wd : World} {Ar : Around} {Er : Value → Shared → Prop} {z : Shared} {t : Addr} {its : Array Value} {Qr : Value → Shared → Prop} (hT : z.heap.IsTuple t its)
    (q : ∀ h', IsEnum h' (z.heap.objs.size + 1) z.heap.objs.size 0 .none → h'.IsTupleIter z.heap.objs.size t 0 → (∀ b o, z.heap.get? b = some o → h'.get? b = some o) → Qr (.ref (z.heap.objs.size + 1)) { z with heap := h' }) :
    wpAny (model pg wd) Ar (call (.type "enumerate") [.ref t]) Qr Er z := by
  refine callType_new F.called_enumerate (by decide) (F.typeCall_enumerate_1 _) (F.newCall_enumerate_1 _) (fun o => F.args_object_init_2 o _) F.entry_enumerate_new (enum_made (begins_tuple t its)) ⟨hT, ?_⟩
  let it : Obj := { cls := .type "tuple_iterator", data := .fields #[.ref t, .int 0 0] }
  have sz : (z.heap.push it).objs.size = z.heap.objs.size + 1 := Heap.size_push ..
  show _ ∧ _
  rw [sz]
  have he : IsEnum ((z.heap.push it).push (enO z.heap)) (z.heap.objs.size + 1) z.heap.objs.size 0 .none := by
    have g := Heap.get?_push_size (z.heap.push it) (o := enO z.heap) rfl
    rw [sz] at g
    exact g
  exact ⟨⟨_, he, rfl⟩, q _ he ⟨_, Heap.get?_push_of_some _ (Heap.get?_push_size _ rfl), rfl, rfl⟩ fun b o x => Heap.get?_push_of_some _ (Heap.get?_push_of_some _ x)⟩
/-- the tuple at a, each item in a new pair -/
def IteT (K : PySem.W.Frag) (a : Addr) : It :=
  ⟨fun i H => ∃ (xs : List V) (x : V), SqT K H a xs ∧ xs[i]? = some x, fun i H v H' => ∃ T x, v = .ref T ∧ H T = none ∧ H' = upd H T (.tup [.int (i : Nat), x]) ∧ ∀ xs, SqT K H a xs → xs[i]? = some x, fun i H => ∃ xs : List V, SqT K H a xs ∧ xs.length ≤ i⟩
theorem turn_enumT {P : Program} {w : World} {K : PySem.W.Frag} {elts : List Expr} {kk : Nat} {tpos : Pos} (a e it : Addr) :
    Turn P w K (.Tuple elts kk tpos) (IteT K a) [e, it] e (fun i h => (∃ old, IsEnum h e it ((i : Nat) : Int) old) ∧ h.IsTupleIter it a i ∧ e ≠ it ∧ a ≠ it ∧ e ≠ a) where
  mem := by simp
  obj := fun i h sn b hb => by
    obtain ⟨⟨old, he⟩, ⟨ob, g1, g2, g3⟩, _⟩ := sn
    have z : b = e ∨ b = it := by simpa using hb
    rcases z with z | z
    · exact ⟨_, z ▸ he, fun v q => by cases q⟩
    · exact ⟨ob, z ▸ g1, fun v q => by rw [g3] at q; cases q⟩
  keep := fun i h h' sn kp => by
    obtain ⟨⟨old, he⟩, hi, rest⟩ := sn
    exact ⟨⟨old, kp e (by simp) _ he⟩, hi.at fun o q => kp it (by simp) o q, rest⟩
  item := by
    intro X hP hw hK hc i pins s σ H E I hf sn hg
    subst hP hw hK
    obtain ⟨⟨old, he⟩, hit, hne, hai, hea⟩ := sn
    obtain ⟨xs, x, hq, hx⟩ := hg
    obtain ⟨its, rv, p, hz⟩ := I.tuple hq
    obtain ⟨u, hu, ru⟩ := rv.get hx
    have hlt : i < its.toArray.size := by
      have := (List.getElem?_eq_some_iff.mp hu).1
      simpa using this
    have hel : e < s.heap.objs.size := Heap.lt_size he
    have hil : it < s.heap.objs.size := by
      obtain ⟨_, q, _⟩ := hit
      exact Heap.lt_size q
    have Dr := Draws.tuple (prog := X.prog) (w := X.w) (A := X.A.in1) (I.ok.hd hc) it a hai its.toArray
    refine wpAny_pyNext_enum_itemD Dr he ⟨hit, p⟩ hlt hne (by simp [hne, hea]) fun y h' tk hy ho hst' hT hsz hk => ?_
    have ey : y = u := by
      have h1 : its[i]? = some y := by simpa using hy
      rw [hu] at h1
      exact (Option.some.inj h1).symm
    subst ey
    refine ⟨_, rfl, wpAny_letOwnedTupleGo_enum (s := { s with heap := h', toks := tk + 1 }) ho fun h'' he' sb => ?_⟩
    have hT2 := (sb.2 _ (Nat.ne_of_gt hel)).trans hT
    have new : ObjOk X.prog X.w (upd H s.heap.objs.size (.tup [.int (i : Nat), x])) h'' s.heap.objs.size (.tup [.int (i : Nat), x]) :=
      ⟨by show 2 ≤ sizeLine; decide, [.int i tk, y], .cons ⟨_, rfl⟩ (.cons ru .nil), ⟨_, hT2, rfl, _, rfl⟩⟩
    have I1 : Inv X pins σ (upd H s.heap.objs.size (.tup [.int (i : Nat), x])) { s with heap := h'', toks := tk + 1 } :=
      I.turnedNew (t' := tk + 1) (ch := [e, it]) (fun b ob hb q => (sb.2 b (fun z => hb (by simp [z]))).trans (hk b ob (fun z => hb (by simp [z])) (fun z => hb (by simp [z])) q)) hf (Nat.le_refl _) new
    refine ⟨.ref s.heap.objs.size, _, I1, rfl, ⟨_, x, rfl, I.hok.fresh (Nat.le_refl _), rfl, fun ys hy => by rw [I.tuple_inj hy hq]; exact hx⟩, ⟨⟨y, ?_⟩, hst'.1.at fun o q => (sb.2 it (Ne.symm hne)).trans q, hne, hai, hea⟩, fun b hb => ?_⟩
    · have e1 : ((i + 1 : Nat) : Int) = (i : Int) + 1 := by omega
      rw [e1]
      exact he'
    · have z : b = e ∨ b = it := by simpa using hb
      have hb' : b < s.heap.objs.size := by
        rcases z with z | z
        · exact z ▸ hel
        · exact z ▸ hil
      rw [upd_ne (Nat.ne_of_lt hb')]
      exact (hf b hb).1
  done := by
    intro X hP hw hK hc i pins s σ H E I hf sn hg
    subst hP hw hK
    obtain ⟨⟨old, he⟩, hit, hne, hai, hea⟩ := sn
    obtain ⟨xs, hq, hx⟩ := hg
    obtain ⟨its, rv, p, hz⟩ := I.tuple hq
    obtain ⟨f0, f1, f2, f3, f4, f5⟩ := hf it (by simp)
    have hl := rv.length
    have Dr : Draws X.prog X.w X.A.in1 it [it, a] i (fun _ _ => True) (fun j h => j = i ∧ h.IsTupleIter it a i ∧ h.IsTuple a its.toArray) :=
      { live := fun j h sn => by obtain ⟨_, ⟨ob, g1, _⟩, _⟩ := sn; exact ⟨ob, g1⟩
        frame := fun j h h' sn hk => ⟨sn.1, sn.2.1.at fun o q => hk it (by simp) o q, sn.2.2.at fun o q => hk a (by simp) o q⟩
        item := fun j s Q E hj sn => by have := sn.1; omega
        done := fun s Q E sn hE => wpAny_nextOf_tuple_end (I.ok.hd hc) sn.2.1 sn.2.2 (by simp; omega) hE }
    exact wpAny_pyNext_enum_endD Dr he ⟨rfl, hit, p⟩ fun h' eb => ⟨rfl, I.turned (t' := s.toks) (fun b o hb q => eb b o hb q) f0 f1 f3 f4 f5⟩
  self := fun A i s Q E sn h => by
    obtain ⟨⟨_, he⟩, _⟩ := sn
    exact wpAny_pyIter_enum he h
def iEnumA (K : PySem.W.Frag) (ta : TA) : TI := fun σ H R => ta σ H fun vs H1 => ∃ a xs, vs = [.ref a] ∧ ((SqL K H1 a xs ∧ R (Ite K a) H1) ∨ (SqT K H1 a xs ∧ R (IteT K a) H1))
theorem pi_enumA {X : Cx} {e : Expr} {ta : TA} {p pos tpos : Pos} {elts : List Expr} {kk : Nat} (hg : Gl X "enumerate") (hm : X.mg "enumerate" = none) (ha : PA X [e] ta) (hs : starEach [e] X.env = [(false, eval e X.env)] := by rfl) :
    PI X (.Tuple elts kk tpos) (.Call (.Name "enumerate" p) [e] [] pos) (iEnumA X.K ta) := by
  refine ⟨fun pins s σ H R I h => Call_ (ld_blt I hg hm boot_enumerate (PyProof.Rows.callWith_type1 (thn (ha.run pos pins s σ H _ I h) fun us s1 ⟨vs, H1, I1, r1, a, xs, ex, q1⟩ => ?_) hs rfl))⟩
  subst ex
  cases r1 with
  | cons r rr =>
    cases rr
    cases r
    have apart : ∀ b, b = s1.heap.objs.size + 1 ∨ b = s1.heap.objs.size → s1.heap.objs.size ≤ b := fun b hb => by
      rcases hb with z | z
      · rw [z]; exact Nat.le_add_right _ _
      · rw [z]; exact Nat.le_refl _
    rcases q1 with ⟨hq, q⟩ | ⟨hq, q⟩
    · obtain ⟨its, rv, p', hz⟩ := I1.list hq
      refine call_enumerate_list p'.isList fun h' he hit hsz hk => wpAny_pyIter_enum he ?_
      have I2 : Inv X pins σ H1 { s1 with heap := h' } := I1.kept (t' := s1.toks) hk
      exact ⟨s1.heap.objs.size + 1, [s1.heap.objs.size + 1, s1.heap.objs.size], _, _, H1, rfl, I2, turn_enum a (s1.heap.objs.size + 1) s1.heap.objs.size, ⟨⟨.none, he⟩, hit, Nat.succ_ne_self _⟩, fun b hb => I1.fpOk (apart b (by simpa using hb)) (I1.hok.fresh (apart b (by simpa using hb))), q⟩
    · obtain ⟨its, rv, p', hz⟩ := I1.tuple hq
      have hal : a < s1.heap.objs.size := by
        obtain ⟨o, g, _⟩ := p'
        exact Heap.lt_size g
      refine call_enumT p' fun h' he hit hk => wpAny_pyIter_enum he ?_
      have I2 : Inv X pins σ H1 { s1 with heap := h' } := I1.kept (t' := s1.toks) hk
      refine ⟨s1.heap.objs.size + 1, [s1.heap.objs.size + 1, s1.heap.objs.size], _, _, H1, rfl, I2, turn_enumT a (s1.heap.objs.size + 1) s1.heap.objs.size, ⟨⟨.none, he⟩, hit, Nat.succ_ne_self _, Nat.ne_of_lt hal, ?_⟩, fun b hb => I1.fpOk (apart b (by simpa using hb)) (I1.hok.fresh (apart b (by simpa using hb))), q⟩
      exact fun z => absurd (z ▸ hal : s1.heap.objs.size + 1 < s1.heap.objs.size) (Nat.not_lt.mpr (Nat.le_add_right _ _))
theorem walks_enumT {G : Cn} {B : Addr → Prop} {W0 : Wd} {a : Addr} {r : Src} (h1 : StT G B W0 a r) : Walks G B W0 (IteT G.K a) ⟨numD 0 r.items, r.guard⟩ := by
  intro W x B' hB R hR ok
  obtain ⟨vs, e1, t1⟩ := h1 W x B' hB R hR ok
  refine ⟨fun i d e => ?_, fun i hi => ⟨vs, e1, by rw [num_len] at hi; rw [t1.length]; exact hi⟩⟩
  obtain ⟨dx, h3, rfl⟩ := num_get e
  obtain ⟨vx, g1, rx⟩ := t1.get h3
  refine ⟨⟨vs, vx, e1, g1⟩, fun z H' y => ?_⟩
  obtain ⟨T, x', rfl, hT, rfl, y1⟩ := y
  have q1 := y1 vs e1
  rw [g1] at q1
  cases q1
  rw [Nat.zero_add]
  exact yields2 R hT (.int _) rx
/-- enumerate(x): a list or a tuple -/
def mEnumA (ms : M (List D)) : M Src := fun env st => (ms env st).bind fun ds s => match ds with
  | [d] => (match srcOf s d with
    | some r => .ok ⟨numD 0 r.items, r.guard⟩ s
    | none => .bad)
  | _ => .bad
section
variable {X : Cx} {G : Cn} {E : ES} {e : Expr} {ms : M (List D)} {p pos tpos : Pos} {elts : List Expr} {kk : Nat}
theorem ji_enumA (hK : G.K = X.K) (hg : Gl X "enumerate") (hm : X.mg "enumerate" = none) (ha : PA X [e] (tA G E ms))
    (hs : starEach [e] X.env = [(false, eval e X.env)] := by rfl) : PI X (.Tuple elts kk tpos) (.Call (.Name "enumerate" p) [e] [] pos) (tI G E (mEnumA ms)) := by
  refine PI.weak (pi_enumA hg hm ha hs) fun σ H Q ⟨B, W, env, e, R, S, o⟩ => ?_
  subst e
  rw [← hK]
  refine tA_of R S o fun ds W1 vs x1 R1 S1 r1 o1 => ?_
  match ds, r1, o1 with
  | [d], .cons h1 .nil, o1 =>
    cases q1 : srcOf W1.st d with
    | none => simp only [q1] at o1; exact o1.elim
    | some r =>
      simp only [q1] at o1
      rcases h1.stands R1 q1 with ⟨t1, a, rfl, ⟨xs, e1⟩, w1⟩ | ⟨t1, a, rfl, ⟨xs, e1⟩, w1⟩
      · exact ⟨a, xs, rfl, .inl ⟨e1, o1.ret R1 _ (walks_enum w1)⟩⟩
      · exact ⟨a, xs, rfl, .inr ⟨e1, o1.ret R1 _ (walks_enumT w1)⟩⟩
end
end DL

set_option maxHeartbeats 2000000
/-! DLZ: the law's call, where its promise is one of FnG; a law's end. -/
namespace DL
open PySem PySem.Spec PyProof.Rows L2

/-- the only thing that may be tracked at the law's call: its script, locked -/
def scrH (on : Bool) (a : Addr) (o : Obj) (xs : List V) : Hp := fun b => bif on && b == a then some (.frz o (.lst xs)) else none
theorem scrH_some {on : Bool} {a b : Addr} {o : Obj} {xs : List V} {u : HO} (h : scrH on a o xs b = some u) : on = true ∧ b = a ∧ u = .frz o (.lst xs) := by
  unfold scrH at h
  cases on with
  | false => cases h
  | true =>
    cases q : b == a with
    | false => rw [q] at h; cases h
    | true => rw [q] at h; cases h; exact ⟨rfl, eq_of_beq q, rfl⟩
theorem scrH_at {a : Addr} {o : Obj} {xs : List V} : scrH true a o xs a = some (.frz o (.lst xs)) := by
  unfold scrH
  rw [beq_self_eq_true] <;> rfl
theorem rm_caller {k : Nat} (h : Room k callerA) : Rm k callerA := ⟨h, rfl⟩
/-- the law's def is called with its script -/
theorem lawG_call {P : Program} {w : World} {K : PySem.W.Frag} {mg mb : Str → Option Value} {k : Nat} {fa a : Addr} {fd : FuncData} {x : Str} {sp : Sp} {sh : Shared} {us : List Value} {zs : List Int}
    (inK : K.In sh.heap) (nG : sh.heap.Ns mainGlobals mg) (nB : sh.heap.Ns builtinsNs mb) (boot : ∀ y : Str, y ≠ "__name__" → mb y = bootBuiltins y) (noL : sh.heap.NoLimit) (noG : sh.gens = #[])
    (at_a : sh.heap.get? a = some { cls := .type "list", data := .seq us.toArray }) (are : IntsAre us zs) (le : zs.length ≤ sizeLine) (room : Room k callerA)
    (F : ∀ base : Heap, K.In base → base.Ns mainGlobals mg → FnG P w K mg base k fa fd [x] sp) (binds : ∀ (s : Shared) (u : Value), BindsTo s fd ⟨[u], []⟩ [(x, u)])
    (goal : ∀ H : Hp, Only H → SqL K H a (zs.map V.int) → sp [.ref a] H (fun v _ => v = .bl true) E0) :
    codeAny (model P w) callerA (.call (.ref fa) ⟨[.ref a], []⟩) (fun r s' => r = .ok (.ret (.bool true)) ∧ OldK sh.heap s'.heap ∧ s'.os = sh.os ∧ AllBare s'.gens) sh := by
  have valsU : Vals (zs.map V.int) us := vals_ints are
  have long : us.length = zs.length := are.length
  obtain ⟨on, hon⟩ : ∃ on : Bool, on = (K.lookup a).isNone := ⟨_, rfl⟩
  let ob : Obj := { cls := .type "list", data := .seq us.toArray }
  let T : Hp := scrH on a ob (zs.map V.int)
  have only : Only T := fun b => by
    cases q : T b with
    | none => exact .inl rfl
    | some u =>
      obtain ⟨_, _, rfl⟩ := scrH_some q
      exact .inr ⟨_, _, rfl⟩
  have reads : SqL K T a (zs.map V.int) := by
    cases hk : K.lookup a with
    | none =>
      rw [hk] at hon
      have e : on = true := hon
      refine .inl (.inr ⟨ob, ?_⟩)
      show scrH on a ob _ a = _
      rw [e]
      exact scrH_at
    | some o =>
      have e := (inK a o hk).symm.trans at_a
      cases e
      exact .inr ⟨_, us.toArray, _, hk, rfl, rfl, rfl, by rw [List.size_toArray, long]; exact le, by simpa using valsU⟩
  have fine : HOk P w T sh.heap := fun b u q => by
    obtain ⟨_, rfl, rfl⟩ := scrH_some q
    exact ⟨at_a, by rw [List.length_map]; exact le, us, _, valsU, at_a⟩
  have bare : ∀ {b : Addr} {o : Obj}, K.lookup b = some o → T b = none := fun {b o} e => by
    cases q : T b with
    | none => rfl
    | some u =>
      obtain ⟨e1, rfl, _⟩ := scrH_some q
      rw [e, e1] at hon
      cases hon
  have nod : ∀ {b : Addr} {o : Obj} {m : Array DictEntry} {n : Nat}, sh.heap.get? b = some o → o.data = .dict m n → T b = none := fun {b o m n} e d => by
    cases q : T b with
    | none => rfl
    | some u =>
      obtain ⟨_, rfl, _⟩ := scrH_some q
      have e2 := e.symm.trans at_a
      cases e2
      cases d
  have seen : ∀ {b : Addr} {m : Str → Option Value}, sh.heap.Ns b m → (hidT sh.heap T).Ns b m := fun h => by
    obtain ⟨o, m1, n1, e, d, r⟩ := h
    exact ⟨o, m1, n1, hidT_get e (nod e d), d, r⟩
  have inB : K.In (hidT sh.heap T) := fun b o e => hidT_get (inK b o e) (bare e)
  obtain ⟨mc, l1, l2⟩ := noL
  have env : Env0 P w K mg (hidT sh.heap T) callerA [] sh T :=
    ⟨rfl, ⟨inB, seen nG, ⟨mb, seen nB, boot⟩, ⟨mc, seen l1, l2⟩⟩, fun b o => of_hidT, Nat.le_of_eq (hidT_size _ _), trivial, fun b hb => (by cases (show b ∈ ([] : List Addr) from hb)), fine, .of_eq noG⟩
  have go := (F _ inB (seen nG)).go callerA [] sh T ⟨[.ref a], []⟩ [.ref a] [.ref a] _ E0 (rm_caller room) env (binds sh (.ref a)) (.cons rfl .nil) (goal T only reads)
  refine codeAny_mono go fun r s' fin => ?_
  match r, fin with
  | .error e, fin =>
    obtain ⟨_, _, _, _, _, _, _, _, _, _, _, _, z⟩ := fin
    exact z.elim
  | .ok (.ret u), fin =>
    obtain ⟨v, T', hos, hba, un, ok', ru, q⟩ := fin
    have q' : v = .bl true := q
    subst q'
    obtain rfl : u = Value.bool true := ru
    refine ⟨rfl, OldK.of_keep fun b o e => ?_, hos, hba⟩
    cases q : T b with
    | none => exact un.keep b o e q (fun z => by cases (show b ∈ ([] : List Addr) from z)) (by simp)
    | some t =>
      obtain ⟨_, _, rfl⟩ := scrH_some q
      have later := (ok' b _ (un.frzs b _ _ q)).1
      have early := (fine b _ q).1
      rw [early] at e
      cases e
      exact later
  | .ok .next, fin => exact fin.elim
  | .ok .brk, fin => exact fin.elim
  | .ok .cont, fin => exact fin.elim
/-- a law by its def's promise -/
theorem lawG {l : PySem.W.OpenLaw} {n k : Nat} {q : Program} {loose : List Str} {XP : (Str → Option Value) → Heap → Prop} {YP : World → Heap → Prop} {d : DefRec} {x : Str} (most : l.most = some n) (le : n ≤ sizeLine) (noD : d.params.defaults = []) (room : Room k callerA)
    (F : ∀ (w : World) (mg : Str → Option Value) (fa : Addr) (h : Heap), YP w h → h.Ns mainGlobals mg → mg d.name = some (.ref fa) →
      ∃ (K : PySem.W.Frag) (fd : FuncData) (sp : Sp), K.In h ∧ (∀ (s : Shared) (u : Value), BindsTo s fd ⟨[u], []⟩ [(x, u)]) ∧
        (∀ (H : Hp) (a : Addr) (zs : List Int), zs.length ≤ n → Only H → SqL K H a (zs.map V.int) → sp [.ref a] H (fun v _ => v = .bl true) E0) ∧
        ∀ base : Heap, K.In base → base.Ns mainGlobals mg → FnG l.prog w K mg base k fa fd [x] sp) :
    PySem.W.WalkO q loose XP YP l.row.toRowW d [] (fun f us => PySem.call f us) := by
  refine Att.attach_call most noD fun w s0 sh mg mb fa o pm cd doc a us zs G Y ho hd hcd hmg at_a are len noG => ?_
  obtain ⟨K, fd, sp, inK, binds, goal, hF⟩ := F w mg fa _ Y G.T.g hmg
  exact lawG_call inK G.T.g G.T.b G.T.builtins G.T.nolimit noG at_a are (Nat.le_trans len le) room hF binds fun H hO hS => goal H a zs len hO hS
/-- the script as data -/
theorem script_rep {G : Cn} {H : Hp} {a : Addr} {zs : List Int} (h0 : Only H) (h : SqL G.K H a (zs.map V.int)) : Rel G (fun _ => False) ⟨[], [], H⟩ ∧ Rep G (fun _ => False) ⟨[], [], H⟩ (.ref a) (.fro (zs.map D.int)) := by
  refine ⟨⟨rfl, List.nodup_nil, fun _ h => h.elim, fun n a c h => by simp at h, fun n a c h => by simp at h⟩, ?_⟩
  have t : ∀ zs : List Int, Reps G (fun _ => False) ⟨[], [], H⟩ (zs.map V.int) (zs.map D.int) := fun zs => by
    induction zs with
    | nil => exact .nil
    | cons z zs ih => exact .cons (.int z) ih
  rcases h with (h | ⟨o, h⟩) | h
  · rcases h0 a with z | ⟨o, xs, z⟩
    · rw [h] at z; cases z
    · rw [h] at z; cases z
  · exact .fro (.inl ⟨o, h⟩) (t zs)
  · exact .fro (.inr h) (t zs)
/-- the law's promise over trees -/
theorem sp_law {G : Cn} {fn : Fn} {n : Nat} (h : ∀ zs : List Int, zs.length ≤ n → ∃ s, fn [.fro (zs.map D.int)] [] = .ok (.bl true) s) : ∀ (H : Hp) (a : Addr) (zs : List Int), zs.length ≤ n → Only H → SqL G.K H a (zs.map V.int) → spOf G 1 fn [.ref a] H (fun v _ => v = .bl true) E0 := by
  intro H a zs hl hO hS
  obtain ⟨R, r⟩ := script_rep (G := G) hO hS
  refine ⟨rfl, _, ⟨[], [], H⟩, [.fro (zs.map D.int)], rfl, R, .cons r .nil, ?_⟩
  obtain ⟨s, e⟩ := h zs hl
  rw [e]
  intro W' x R' es v rv
  cases rv
  rfl
end DL


set_option maxHeartbeats 2000000
/-! DF: what the walks ask of the written part, as facts that the head finds. -/
namespace DL
open PySem PySem.Spec PyProof.Rows L2

def kdv (K : PySem.W.Frag) : Kd → Value
  | .ty n => .type n
  | .own c => .ref (He.ga K c)
  | .err c => .ref (He.ga K c)
inductive Fq where
  | fa (f : He.Fa) | isc (x : Str) | isx (x : Str) | oex (x : Str) | ini (x : Str) | prop (x m : Str) | stat (x m : Str) | isa (a b : Kd) (r : Bool) | xf (x : Str) | same (x y : Str) | isas (rows : List ((Kd × Kd) × Bool)) | hits (x : Str) (rows : List (Str × Bool)) | sys | vals (x : Str) (kvs : List (Str × He.Dv)) | tup (x : Str) (vs : List He.Dv) | fn (b : PySem.W.Frag → Bool)
def eqV (a b : Option Value) : Bool := decide (a = b)
def eqB (a b : Option Bool) : Bool := decide (a = b)
def clsFacts (K : PySem.W.Frag) (C : Addr) : Bool := He.eqO (PySem.W.findIn K (.ref C) "__class__") (some (some (.builtin "object.__class__"))) && (He.eqO (PySem.W.specialIn K (.builtin "object.__class__") "__get__") (some (some (.builtin "getset_descriptor.__get__"))) && (eqB (PySem.W.takesIn K (.builtin "object.__class__")) (some true) && eqB (PySem.W.mroIn K C (.type "object")) (some true)))
def excFacts (K : PySem.W.Frag) (C : Addr) : Bool := (PySem.W.clsIn K C).isSome && (He.eqO (PySem.W.findIn K (.ref C) "__getattribute__") (some (some (.builtin "BaseException.__getattribute__"))) && (He.eqO (PySem.W.findIn K (.ref C) "__getattr__") (some none) && eqB (PySem.W.subIn K (.ref C) (.type "BaseException")) (some true)))
def oexB (K : PySem.W.Frag) (C : Addr) : Bool := match K.lookup C with
  | some ⟨.type "type", _, .cls cd, ⟨[_, _, _, _, some (.builtin n), _]⟩⟩ => (match cd.mro with
    | .ref C' :: bm => decide (C' = C) && (decide (n = "ValueError.__new__") && (cd.hasDict && (!cd.hasDel && PySem.HandSPX.refsVE bm)))
    | _ => false)
  | _ => false
def Fq.ok (K : PySem.W.Frag) : Fq → Bool
  | .fa f => f.ok K
  | .fn b => b K
  | .isc x => (He.Fa.cls x).ok K && clsFacts K (He.ga K x)
  | .isx x => excFacts K (He.ga K x) && clsFacts K (He.ga K x)
  | .oex x => oexB K (He.ga K x) && (He.eqO (PySem.W.findIn K (.ref (He.ga K x)) "__setattr__") (some (some (.builtin "object.__setattr__"))) && (eqB (PySem.W.subIn K (.ref (He.ga K x)) (.type "BaseException")) (some true) && (eqV (PySem.W.typeIn K (.ref (He.ga K x))) (some (.type "type")) && PySem.W.keepIn K (.ref (He.ga K x)))))
  | .ini x => He.eqO (PySem.W.findIn K (.ref (He.ga K x)) "__init__") (some (some (.ref (He.ma K (He.ga K x) "__init__")))) && eqV (PySem.W.typeIn K (.ref (He.ma K (He.ga K x) "__init__"))) (some (.type "function"))
  | .prop x m => He.eqO (PySem.W.findIn K (.ref (He.ga K x)) m) (some (some (.ref (He.ma K (He.ga K x) m)))) && (He.eqO (PySem.W.specialIn K (.ref (He.ma K (He.ga K x) m)) "__get__") (some (some (.builtin "property.__get__"))) && (eqB (PySem.W.takesIn K (.ref (He.ma K (He.ga K x) m))) (some true) && (match PySem.W.recIn K (He.ma K (He.ga K x) m) "property" with
    | some (.ref _ :: _) => true
    | _ => false)))
  | .stat x m => He.eqO (PySem.W.specialIn K (.ref (He.ga K x)) "__getattribute__") (some (some (.builtin "type.__getattribute__"))) && (PySem.W.readsIn K (He.ga K x) (.type "type") && ((match PySem.W.findCls K (.ref (He.ga K x)) (.type "type") m with
    | some (.get (.builtin g) (.ref p) .none (.ref c)) => decide (g = "staticmethod.__get__") && (decide (p = He.ma K (He.ga K x) m) && decide (c = He.ga K x))
    | _ => false) && ((match PySem.W.recIn K (He.ma K (He.ga K x) m) "staticmethod" with
    | some (.ref _ :: _) => true
    | _ => false) && PySem.W.keepIn K (.ref (DH.pS x m K)))))
  | .isa a b r => eqB (PySem.W.kitOne K (kdv K a) (kdv K b)) (some r)
  | .xf x => xfB K (He.ga K x)
  | .sys => (match K.lookup sysModules with
    | some ⟨.type c, _, _, _⟩ => decide (c = "dict")
    | _ => false)
  | .vals x kvs => He.valsB K (He.ga K x) kvs
  | .tup x vs => He.tupB K x vs
  | .same x y => decide (He.ga K x = He.ga K y)
  | .isas rows => (rows.all fun r => eqB (PySem.W.kitOne K (kdv K r.1.1) (kdv K r.1.2)) (some r.2)) && rows.all fun r => match r.1.1 with
    | .own c => (He.Fa.cls c).ok K && clsFacts K (He.ga K c)
    | .err c => excFacts K (He.ga K c) && clsFacts K (He.ga K c)
    | .ty _ => true
  | .hits x rows => rows.all fun r => eqB (PySem.W.exmOne K (.ref (He.ga K r.1)) (.ref (He.ga K x))) (some r.2)
section
variable {K : PySem.W.Frag} {x m : Str}
theorem eqB_ok {a b : Option Bool} (h : eqB a b = true) : a = b := of_decide_eq_true h
theorem eqV_ok {a b : Option Value} (h : eqV a b = true) : a = b := of_decide_eq_true h
theorem isc_ok (h : (Fq.isc x).ok K = true) : IsaC K (He.ga K x) := by
  obtain ⟨h0, h⟩ := He.ba h
  obtain ⟨h1, h⟩ := He.ba h
  obtain ⟨h2, h⟩ := He.ba h
  obtain ⟨h3, h4⟩ := He.ba h
  exact ⟨He.cls_ok h0, He.eqO_ok h1, He.eqO_ok h2, eqB_ok h3, eqB_ok h4⟩
theorem isx_ok (h : (Fq.isx x).ok K = true) : IsaX K (He.ga K x) := by
  obtain ⟨h0, h⟩ := He.ba h
  obtain ⟨h1, h⟩ := He.ba h
  obtain ⟨h2, h⟩ := He.ba h
  obtain ⟨h3, h4⟩ := He.ba h
  obtain ⟨g1, g⟩ := He.ba h0
  obtain ⟨g2, g⟩ := He.ba g
  obtain ⟨g3, g4⟩ := He.ba g
  exact ⟨g1, He.eqO_ok g2, He.eqO_ok g3, eqB_ok g4, He.eqO_ok h1, He.eqO_ok h2, eqB_ok h3, eqB_ok h4⟩
theorem oexB_ok {C : Addr} (h : oexB K C = true) : ∃ nm q N bs bm sn sub ab col dd k0 k1 k2 k3 k5, K.lookup C = some (excClassObj nm q C N bs bm true sn sub ab col dd k0 k1 k2 k3 k5 "ValueError.__new__") ∧ PySem.HandSPX.refsVE bm = true := by
  unfold oexB at h
  split at h
  · rename_i dd cd k0 k1 k2 k3 n k5 ho
    obtain ⟨nm, bs, mro, ns, qn, hd, sn, sub, ab, col, del⟩ := cd
    split at h
    · rename_i C' bm em
      dsimp only at em
      subst em
      obtain ⟨h1, h⟩ := He.ba h
      obtain ⟨h2, h⟩ := He.ba h
      obtain ⟨h3, h⟩ := He.ba h
      obtain ⟨h4, h5⟩ := He.ba h
      have e1 := of_decide_eq_true h1
      have e2 := of_decide_eq_true h2
      subst e1 e2
      have e3 : hd = true := h3
      have e4 : del = false := by simpa using h4
      subst e3 e4
      exact ⟨_, _, _, _, bm, _, _, _, _, _, _, _, _, _, _, ho, h5⟩
    · cases h
  · cases h
theorem oex_ok (h : (Fq.oex x).ok K = true) : OexC K (He.ga K x) := by
  obtain ⟨h0, h⟩ := He.ba h
  obtain ⟨h1, h⟩ := He.ba h
  obtain ⟨h2, h⟩ := He.ba h
  obtain ⟨h3, h4⟩ := He.ba h
  exact ⟨oexB_ok h0, He.eqO_ok h1, eqB_ok h2, eqV_ok h3, h4⟩
theorem ini_ok (h : (Fq.ini x).ok K = true) : PySem.W.findIn K (.ref (He.ga K x)) "__init__" = some (some (.ref (DH.pM x "__init__" K))) ∧ PySem.W.typeIn K (.ref (DH.pM x "__init__" K)) = some (.type "function") := by
  obtain ⟨h0, h⟩ := He.ba h
  exact ⟨He.eqO_ok h0, eqV_ok h⟩
theorem prop_ok (h : (Fq.prop x m).ok K = true) : PropOf K (He.ga K x) m (He.ma K (He.ga K x) m) (DH.pP x m K) := by
  obtain ⟨h0, h⟩ := He.ba h
  obtain ⟨h1, h⟩ := He.ba h
  obtain ⟨h2, h3⟩ := He.ba h
  refine ⟨He.eqO_ok h0, He.eqO_ok h1, eqB_ok h2, ?_⟩
  unfold DH.pP
  split at h3
  · rename_i g rest e
    rw [e]
    exact ⟨_, rfl⟩
  · cases h3
theorem stat_ok (h : (Fq.stat x m).ok K = true) : Stat K (He.ga K x) m (He.ma K (He.ga K x) m) (DH.pS x m K) := by
  obtain ⟨h0, h⟩ := He.ba h
  obtain ⟨h1, h⟩ := He.ba h
  obtain ⟨h2, h⟩ := He.ba h
  obtain ⟨h3, h4⟩ := He.ba h
  refine ⟨He.eqO_ok h0, h1, ?_, ?_, h4⟩
  · split at h2
    · rename_i g p c e
      obtain ⟨g1, h2⟩ := He.ba h2
      obtain ⟨g2, g3⟩ := He.ba h2
      rw [e, of_decide_eq_true g1, of_decide_eq_true g2, of_decide_eq_true g3]
    · cases h2
  · unfold DH.pS
    split at h3
    · rename_i g rest e
      rw [e]
      exact ⟨_, rfl⟩
    · cases h3
theorem isa_ok {a b : Kd} {r : Bool} (h : (Fq.isa a b r).ok K = true) : PySem.W.kitOne K (kdv K a) (kdv K b) = some r := eqB_ok h
end
/-- the constants of a text: its classes are where its globals tell -/
abbrev cnOf (K : PySem.W.Frag) : Cn := { K := K, cl := fun c => He.ga K c }
theorem kdv_eq {K : PySem.W.Frag} : ∀ k : Kd, kdv K k = k.val (cnOf K)
  | .ty _ => rfl
  | .own _ => rfl
  | .err _ => rfl
/-- isinstance by rows -/
def isaR (rows : List ((Kd × Kd) × Bool)) : Isa := fun a b => match a, b with
  | .ty n, .ty m => kitB n m
  | a, b => rows.lookup (a, b)
theorem look_mem {α β : Type} [BEq α] [LawfulBEq α] {k : α} {r : β} : ∀ {l : List (α × β)}, l.lookup k = some r → (k, r) ∈ l
  | [], h => by cases h
  | (a, b) :: l, h => by
    rw [List.lookup_cons] at h
    cases q : k == a with
    | true =>
      rw [q] at h
      cases h
      rw [eq_of_beq q]
      exact List.mem_cons_self
    | false =>
      rw [q] at h
      exact List.mem_cons_of_mem _ (look_mem h)
theorem isaR_look {rows : List ((Kd × Kd) × Bool)} {a b : Kd} {r : Bool} (h : isaR rows a b = some r) : (∃ n m, a = .ty n ∧ b = .ty m ∧ kitB n m = some r) ∨ ((a, b), r) ∈ rows := by
  cases a with
  | ty n =>
    cases b with
    | ty m => exact .inl ⟨n, m, rfl, rfl, h⟩
    | _ => exact .inr (look_mem h)
  | _ => exact .inr (look_mem h)
theorem isaR_ok {K : PySem.W.Frag} {rows : List ((Kd × Kd) × Bool)} (h : (Fq.isas rows).ok K = true) : IsaOk (cnOf K) (isaR rows) := by
  obtain ⟨h1, h2⟩ := He.ba h
  refine ⟨fun a b r e => ?_, fun c b r e => ?_, fun c b r e => ?_⟩
  · rcases isaR_look e with ⟨n, m, rfl, rfl, e⟩ | m
    · exact kit_ty e
    · have z := eqB_ok (List.all_eq_true.mp h1 _ m)
      rw [kdv_eq, kdv_eq] at z
      exact z
  · rcases isaR_look e with ⟨n, m, q, _⟩ | m
    · cases q
    · exact isc_ok (x := c) (List.all_eq_true.mp h2 _ m)
  · rcases isaR_look e with ⟨n, m, q, _⟩ | m
    · cases q
    · exact isx_ok (x := c) (List.all_eq_true.mp h2 _ m)
def hitR (rows : List (Str × Bool)) : Str → Option Bool := fun c => rows.lookup c
theorem hitR_ok {K : PySem.W.Frag} {x : Str} {rows : List (Str × Bool)} (h : (Fq.hits x rows).ok K = true) : HitOk K (cnOf K) (.ref (He.ga K x)) (hitR rows) := fun c b e => eqB_ok (List.all_eq_true.mp h _ (look_mem e))
theorem same_ok {K : PySem.W.Frag} {x y : Str} (h : (Fq.same x y).ok K = true) : He.ga K x = He.ga K y := of_decide_eq_true h
theorem fn_zero {P : Program} {w : World} {G : Cn} {mg : Str → Option Value} {base : Heap} {k n : Nat} {f : Addr} {fd : FuncData} {ps : List Str} (h : n = ps.length) : FnG P w G.K mg base k f fd ps (spOf G n fun _ _ => .bad) :=
  ⟨fun vs H Q E q => q.1.trans h, fun A outer s H args us vs Q E rm e b r ⟨_, _, _, _, _, _, _, o⟩ => o.elim⟩
/-- the table of the modules stands in the written part, a dict -/
def SysD (K : PySem.W.Frag) : Prop := ∃ od dt sl, K.lookup sysModules = some ⟨.type "dict", od, dt, sl⟩
theorem sys_ok {K : PySem.W.Frag} (h : Fq.sys.ok K = true) : SysD K := by
  have h2 : (match K.lookup sysModules with
    | some ⟨.type c, _, _, _⟩ => decide (c = "dict")
    | _ => false) = true := h
  split at h2
  · rename_i c od dt sl e
    have q : c = "dict" := of_decide_eq_true h2
    subst q
    exact ⟨_, _, _, e⟩
  · cases h2
/-! tables of the text: text keys -/
theorem keys_find {P : Params} {z : Str} : ∀ {l : List DictEntry} {ks : List Str}, l.map He.keyOf = He.keysIn P ks → (ks.contains z = false → l.find? (·.key.isStr z) = none) ∧ (ks.contains z = true → ∃ e, l.find? (·.key.isStr z) = some e) ∧ l.any (·.refKey) = false
  | [], [], _ => ⟨fun _ => rfl, fun h => (by cases h), rfl⟩
  | [], _ :: _, h => by cases h
  | e :: l, [], h => by cases h
  | e :: l, k :: ks, h => by
    have h1 : He.keyOf e :: l.map He.keyOf = some (k, PyData.keyHash P k) :: He.keysIn P ks := h
    injection h1 with h2 h3
    obtain ⟨i1, i2, i3⟩ := keys_find (z := z) h3
    have hk : ∃ t, e.key = .str k t := by
      unfold He.keyOf at h2
      split at h2
      · rename_i x t q
        have h4 := Option.some.inj h2
        obtain ⟨h5, h6⟩ := Prod.mk.inj h4
        exact ⟨t, by rw [q, h5]⟩
      · cases h2
    obtain ⟨t, hk⟩ := hk
    have ei : e.key.isStr z = (k == z) := by rw [hk] <;> rfl
    have er : e.refKey = false := by
      unfold DictEntry.refKey
      rw [hk]
    refine ⟨fun c => ?_, fun c => ?_, by simp [er, i3]⟩
    · rw [List.contains_cons, Bool.or_eq_false_iff] at c
      have ne : (k == z) = false := by
        have := c.1
        cases q : k == z with
        | false => rfl
        | true => rw [eq_of_beq q, beq_self_eq_true] at this; cases this
      rw [List.find?_cons, ei, ne]
      exact i1 c.2
    · rw [List.find?_cons, ei]
      cases q : k == z with
      | true => exact ⟨e, rfl⟩
      | false =>
        rw [List.contains_cons] at c
        have nz : (z == k) = false := by
          cases q2 : z == k with
          | false => rfl
          | true => rw [eq_of_beq q2, beq_self_eq_true] at q; cases q
        rw [nz, Bool.false_or] at c
        exact i2 c
theorem tab_ns {K : PySem.W.Frag} {P : Params} {a : Addr} {ks : List Str} (h : He.dicW K a = some (He.keysIn P ks)) (z : Str) : ∃ r, PySem.W.nsIn K a z = some r ∧ r.isSome = ks.contains z := by
  unfold He.dicW at h
  split at h
  · rename_i c es n sl q
    split at h
    · obtain ⟨i1, i2, i3⟩ := keys_find (z := z) (Option.some.inj h)
      unfold PySem.W.nsIn
      rw [q]
      cases hc : ks.contains z with
      | false =>
        simp only [i1 hc, i3]
        exact ⟨none, rfl, rfl⟩
      | true =>
        obtain ⟨e, he⟩ := i2 hc
        simp only [he]
        exact ⟨_, rfl, rfl⟩
    · cases h
  · cases h
/-- x in T, x not in T, T[x] -/
def mInK (neg : Bool) (ks : List Str) (m : M D) : M D := fun env st => (m env st).bind fun d s => match d with
  | .str z => .ok (.bl (neg ^^ ks.contains z)) s
  | _ => .bad
def dvD : He.Dv → Option D
  | .non => some .non
  | .bl b => some (.bl b)
  | .int i => some (.int i)
  | .str x => some (.str x)
  | _ => none
theorem dvD_rep {G : Cn} {B : Addr → Prop} {W : Wd} {v : He.Dv} {d : D} (h : dvD v = some d) : Rep G B W (v.v G.K) d := by
  cases v <;> cases h
  · exact .non
  · exact .bl _
  · exact .int _
  · exact .str _
def mGetK (kvs : List (Str × He.Dv)) (m : M D) : M D := fun env st => (m env st).bind fun d s => match d with
  | .str z => (match (kvs.lookup z).bind dvD with
    | some i => .ok i s
    | none => .bad)
  | _ => .bad
section
variable {X : Cx} {G : Cn} {E : ES} {m : M D} {e : Expr} {x : Str} {a : Addr} {ks : List Str} {pos p : Pos}
theorem j_inK (hT : He.dicW X.K a = some (He.keysIn X.w.params ks)) (hm : X.mg x = some (.ref a)) (he : PE X e (tE G E m)) (hg : Gl X x := by rfl) (hd : (x == ("__debug__" : Str)) = false := by decide) (hb : behindInMarks .In (.Name x p) = false := by rfl) : PE X (.Compare e [.In] [.Name x p] pos) (tE G E (mInK false ks m)) := by
  obtain ⟨es, n, kd⟩ := He.dicW_ok hT
  refine PE.weak (pe_cmpR (op_in_kd kd) he (pe_glob hg hm (v := .ref a) rfl hd) hb) fun σ H Q ⟨B, W, env, e1, R, S, o⟩ => ?_
  subst e1
  refine tE_of R S o fun d W1 v x1 R1 S1 r1 o1 => ?_
  cases d with
  | str z =>
    cases r1
    obtain ⟨r, h1, h2⟩ := tab_ns hT z
    simp only [Bool.false_xor] at o1
    exact ⟨z, r, rfl, rfl, h1, o1.ret R1 _ (by rw [h2]; exact .bl _)⟩
  | _ => exact o1.elim
theorem j_notInK (hT : He.dicW X.K a = some (He.keysIn X.w.params ks)) (hm : X.mg x = some (.ref a)) (he : PE X e (tE G E m)) (hg : Gl X x := by rfl) (hd : (x == ("__debug__" : Str)) = false := by decide) (hb : behindInMarks .NotIn (.Name x p) = false := by rfl) : PE X (.Compare e [.NotIn] [.Name x p] pos) (tE G E (mInK true ks m)) := by
  obtain ⟨es, n, kd⟩ := He.dicW_ok hT
  refine PE.weak (pe_cmpR (op_notIn_kd kd) he (pe_glob hg hm (v := .ref a) rfl hd) hb) fun σ H Q ⟨B, W, env, e1, R, S, o⟩ => ?_
  subst e1
  refine tE_of R S o fun d W1 v x1 R1 S1 r1 o1 => ?_
  cases d with
  | str z =>
    cases r1
    obtain ⟨r, h1, h2⟩ := tab_ns hT z
    simp only [Bool.true_xor] at o1
    exact ⟨z, r, rfl, rfl, h1, o1.ret R1 _ (by rw [h2]; exact .bl _)⟩
  | _ => exact o1.elim
theorem ix_kd {es : Array DictEntry} {n : Nat} (kd : KDict X.K X.w a es n) : IxR X (fun x y H Q => ∃ (z : Str) (u0 : Value) (v0 : V), x = .ref a ∧ y = .str z ∧ PySem.W.nsIn X.K a z = some (some u0) ∧ RelV v0 u0 ∧ Q v0 H) := by
  intro value slice pins s σ H x y v u Q I rx ry h hs
  obtain ⟨z, u0, v0, rfl, rfl, e, r, q⟩ := h
  have hT := kd_type kd I
  cases rx
  exact tail_any hT PySem.F.slot_dict_getitem.lookup (op_item_kd kd pins s σ H (.ref a) (.str z) _ u Q I rfl ry ⟨z, u0, v0, rfl, rfl, e, r, q⟩) hs
theorem j_getK {kvs : List (Str × He.Dv)} (hK : G.K = X.K) (hT : He.dicW X.K a = some (He.keysIn X.w.params ks)) (hV : He.valsB X.K a kvs = true) (hm : X.mg x = some (.ref a)) (he : PE X e (tE G E m)) (hg : Gl X x := by rfl) (hd : (x == ("__debug__" : Str)) = false := by decide) (hp : PlainIx e := by intro _ _; rfl) : PE X (.Subscript (.Name x p) e pos) (tE G E (mGetK kvs m)) := by
  obtain ⟨es, n, kd⟩ := He.dicW_ok hT
  refine PE.weak (pe_ix (ix_kd kd) (pe_glob hg hm (v := .ref a) rfl hd) he hp) fun σ H Q ⟨B, W, env, e1, R, S, o⟩ => ?_
  subst e1
  show tE G E m σ W.H fun y H2 => ∃ (z : Str) (u0 : Value) (v0 : V), V.ref a = .ref a ∧ y = .str z ∧ PySem.W.nsIn X.K a z = some (some u0) ∧ RelV v0 u0 ∧ Q v0 H2
  refine tE_of R S o fun d W1 v x1 R1 S1 r1 o1 => ?_
  cases d with
  | str z =>
    cases r1
    cases q : (kvs.lookup z).bind dvD with
    | none => simp only [q] at o1; exact o1.elim
    | some dd =>
      simp only [q] at o1
      obtain ⟨dv, h1, h2⟩ := Option.bind_eq_some_iff.mp q
      obtain ⟨u, h3, h4⟩ := He.valsB_ok hV (look_mem h1)
      exact ⟨z, u, dv.v X.K, rfl, rfl, h3, h4, o1.ret R1 _ (by rw [← hK]; exact dvD_rep h2)⟩
  | _ => exact o1.elim
end
end DL

set_option maxHeartbeats 2000000
/-! DJ: the rules in short, as a printed walk uses them. -/
namespace DL
open PySem PySem.Spec PyProof.Rows L2

section
variable {X : Cx} {G : Cn} {E : ES} {XW : WX} {a b c e o i : Expr} {es : List Expr} {ma mb mc m mo mi mv : M D} {ms : M (List D)} {pos p p1 p2 apos pos' : Pos}
theorem jv (i : Nat) {x : Str} (hN : X.N[i]? = some x := by rfl) (hv : Vis X.env.scope x := by first | exact Or.inl rfl | exact Or.inr (Or.inl rfl) | exact Or.inr (Or.inr rfl)) (hd : (x == ("__debug__" : Str)) = false := by decide)
    (hcd : (x == ("__classdict__" : Str)) = false := by decide) : PE X (.Name x pos) (tE G E (mVar i)) := je_var i (pe_var hN hv hd hcd)
/-! operators -/
theorem j_add (ha : PE X a (tE G E ma)) (hb : PE X b (tE G E mb)) (hK : G.K = X.K := by rfl) : PE X (.BinOp a .Add b pos) (tE G E (mOp opAdd ma mb)) := je_op op_addA (by rw [← hK]; exact os_add) ha hb
theorem j_sub (ha : PE X a (tE G E ma)) (hb : PE X b (tE G E mb)) : PE X (.BinOp a .Sub b pos) (tE G E (mOp opSub ma mb)) := je_op op_sub os_sub ha hb
theorem j_mul (ha : PE X a (tE G E ma)) (hb : PE X b (tE G E mb)) : PE X (.BinOp a .Mult b pos) (tE G E (mOp opMul ma mb)) := je_op op_mulB os_mul ha hb
theorem j_div (ha : PE X a (tE G E ma)) (hb : PE X b (tE G E mb)) : PE X (.BinOp a .FloorDiv b pos) (tE G E (mOp opDiv ma mb)) := je_op op_fdiv os_div ha hb
theorem j_mod (ha : PE X a (tE G E ma)) (hb : PE X b (tE G E mb)) : PE X (.BinOp a .Mod b pos) (tE G E (mOp opMod ma mb)) := je_op op_mod os_mod ha hb
theorem j_pow (ha : PE X a (tE G E ma)) (hb : PE X b (tE G E mb)) : PE X (.BinOp a .Pow b pos) (tE G E (mOp opPow ma mb)) := je_op op_pow os_pow ha hb
theorem j_ix (ha : PE X a (tE G E ma)) (hb : PE X b (tE G E mb)) (hK : G.K = X.K := by rfl) (hp : PlainIx b := by intro _ _; rfl) : PE X (.Subscript a b pos) (tE G E (mOp opIx ma mb)) := je_ix ix_seq (by rw [← hK]; exact os_ix) ha hb hp
/-! comparisons -/
theorem j_lt (ha : PE X a (tE G E ma)) (hb : PE X b (tE G E mb)) : PE X (.Compare a [.Lt] [b] pos) (tE G E (mOp opLtI ma mb)) := je_cmp op_lt os_cmpI ha hb (nomark _)
theorem j_le (ha : PE X a (tE G E ma)) (hb : PE X b (tE G E mb)) : PE X (.Compare a [.LtE] [b] pos) (tE G E (mOp opLeI ma mb)) := je_cmp op_le os_cmpI ha hb (nomark _)
theorem j_gt (ha : PE X a (tE G E ma)) (hb : PE X b (tE G E mb)) : PE X (.Compare a [.Gt] [b] pos) (tE G E (mOp opGtI ma mb)) := je_cmp op_gt os_cmpI ha hb (nomark _)
theorem j_ge (ha : PE X a (tE G E ma)) (hb : PE X b (tE G E mb)) : PE X (.Compare a [.GtE] [b] pos) (tE G E (mOp opGeI ma mb)) := je_cmp op_ge os_cmpI ha hb (nomark _)
theorem j_isN (ha : PE X a (tE G E ma)) (hb : PE X b (tE G E mb)) : PE X (.Compare a [.Is] [b] pos) (tE G E (mOp (opIsN false) ma mb)) := je_cmp op_isN os_isN ha hb (nomark _)
theorem j_notN (ha : PE X a (tE G E ma)) (hb : PE X b (tE G E mb)) : PE X (.Compare a [.IsNot] [b] pos) (tE G E (mOp (opIsN true) ma mb)) := je_cmp op_notN os_notN ha hb (nomark _)
theorem j_eq (hu : X.A.units + 64 < cLine) (ha : PE X a (tE G E ma)) (hb : PE X b (tE G E mb)) (hK : G.K = X.K := by rfl) : PE X (.Compare a [.Eq] [b] pos) (tE G E (mOp (opEqD false) ma mb)) := je_cmp (op_eqD hu) (by rw [← hK]; exact os_eqD) ha hb (nomark _)
theorem j_ne (hu : X.A.units + 64 < cLine) (ha : PE X a (tE G E ma)) (hb : PE X b (tE G E mb)) (hK : G.K = X.K := by rfl) : PE X (.Compare a [.NotEq] [b] pos) (tE G E (mOp (opEqD true) ma mb)) := je_cmp (op_neD hu) (by rw [← hK]; exact os_neD) ha hb (nomark _)
theorem j_in (ha : PE X a (tE G E ma)) (hb : PE X b (tE G E mb)) (hK : G.K = X.K := by rfl) (hm : behindInMarks .In b = false := by rfl) : PE X (.Compare a [.In] [b] pos) (tE G E (mOp (opIn false) ma mb)) := je_cmp op_in_seq (by rw [← hK]; exact os_in) ha hb hm
theorem j_notIn (ha : PE X a (tE G E ma)) (hb : PE X b (tE G E mb)) (hK : G.K = X.K := by rfl) (hm : behindInMarks .NotIn b = false := by rfl) : PE X (.Compare a [.NotIn] [b] pos) (tE G E (mOp (opIn true) ma mb)) := je_cmp op_notIn_seq (by rw [← hK]; exact os_in) ha hb hm
theorem jt_lt (ha : PE X a (tE G E ma)) (hb : PE X b (tE G E mb)) : PT X (.Compare a [.Lt] [b] pos) (tT G E (mTest (mOp opLtI ma mb))) := jt_cmp op_lt os_cmpI ha hb (nomark _)
theorem jt_le (ha : PE X a (tE G E ma)) (hb : PE X b (tE G E mb)) : PT X (.Compare a [.LtE] [b] pos) (tT G E (mTest (mOp opLeI ma mb))) := jt_cmp op_le os_cmpI ha hb (nomark _)
theorem jt_gt (ha : PE X a (tE G E ma)) (hb : PE X b (tE G E mb)) : PT X (.Compare a [.Gt] [b] pos) (tT G E (mTest (mOp opGtI ma mb))) := jt_cmp op_gt os_cmpI ha hb (nomark _)
theorem jt_ge (ha : PE X a (tE G E ma)) (hb : PE X b (tE G E mb)) : PT X (.Compare a [.GtE] [b] pos) (tT G E (mTest (mOp opGeI ma mb))) := jt_cmp op_ge os_cmpI ha hb (nomark _)
theorem jt_isN (ha : PE X a (tE G E ma)) (hb : PE X b (tE G E mb)) : PT X (.Compare a [.Is] [b] pos) (tT G E (mTest (mOp (opIsN false) ma mb))) := jt_cmp op_isN os_isN ha hb (nomark _)
theorem jt_notN (ha : PE X a (tE G E ma)) (hb : PE X b (tE G E mb)) : PT X (.Compare a [.IsNot] [b] pos) (tT G E (mTest (mOp (opIsN true) ma mb))) := jt_cmp op_notN os_notN ha hb (nomark _)
theorem jt_eq (hu : X.A.units + 64 < cLine) (ha : PE X a (tE G E ma)) (hb : PE X b (tE G E mb)) (hK : G.K = X.K := by rfl) : PT X (.Compare a [.Eq] [b] pos) (tT G E (mTest (mOp (opEqD false) ma mb))) := jt_cmp (op_eqD hu) (by rw [← hK]; exact os_eqD) ha hb (nomark _)
theorem jt_ne (hu : X.A.units + 64 < cLine) (ha : PE X a (tE G E ma)) (hb : PE X b (tE G E mb)) (hK : G.K = X.K := by rfl) : PT X (.Compare a [.NotEq] [b] pos) (tT G E (mTest (mOp (opEqD true) ma mb))) := jt_cmp (op_neD hu) (by rw [← hK]; exact os_neD) ha hb (nomark _)
theorem jt_in (ha : PE X a (tE G E ma)) (hb : PE X b (tE G E mb)) (hK : G.K = X.K := by rfl) (hm : behindInMarks .In b = false := by rfl) : PT X (.Compare a [.In] [b] pos) (tT G E (mTest (mOp (opIn false) ma mb))) := jt_cmp op_in_seq (by rw [← hK]; exact os_in) ha hb hm
theorem jt_notIn (ha : PE X a (tE G E ma)) (hb : PE X b (tE G E mb)) (hK : G.K = X.K := by rfl) (hm : behindInMarks .NotIn b = false := by rfl) : PT X (.Compare a [.NotIn] [b] pos) (tT G E (mTest (mOp (opIn true) ma mb))) := jt_cmp op_notIn_seq (by rw [← hK]; exact os_in) ha hb hm
theorem j_t (h : PE X e (tE G E m)) (hK : G.K = X.K := by rfl) (he : ∀ whole, isTrue e X.env whole = (do let v ← whole; standAt e.pos; holding [v] (truthy v)) := by intro _; rfl) : PT X e (tT G E (mTru m)) := jt_tru hK h he
theorem j_not (ha : PE X a (tE G E ma)) (hK : G.K = X.K := by rfl) : PE X (.UnaryOp .Not a pos) (tE G E (mNot ma)) := je_not hK ha
/-! built-in functions -/
section
variable (ha : PA X (e :: es) (tA G E ms)) (he : starEach (e :: es) X.env = (false, eval e X.env) :: starEach es X.env) (hpl : (backTo pos (starEach es X.env)).any (·.1) = false)
include ha
theorem jb_len (hm : X.mg "len" = none) (hK : G.K = X.K := by rfl) (hg : Gl X "len" := by rfl) (he : starEach (e :: es) X.env = (false, eval e X.env) :: starEach es X.env := by rfl) (hpl : (backTo pos (starEach es X.env)).any (·.1) = false := by rfl) : PE X (.Call (.Name "len" p) (e :: es) [] pos) (tE G E (mCall fLen ms)) := je_callB call_len (by rw [← hK]; exact cs_len) hg hm boot_len ha (he := he) (hpl := hpl)
theorem jb_abs (hm : X.mg "abs" = none) (hg : Gl X "abs" := by rfl) (he : starEach (e :: es) X.env = (false, eval e X.env) :: starEach es X.env := by rfl) (hpl : (backTo pos (starEach es X.env)).any (·.1) = false := by rfl) : PE X (.Call (.Name "abs" p) (e :: es) [] pos) (tE G E (mCall fAbs ms)) := je_callB call_abs cs_abs hg hm (by decide +kernel) ha (he := he) (hpl := hpl)
theorem jb_max (hc : X.calm = true) (hm : X.mg "max" = none) (hg : Gl X "max" := by rfl) (he : starEach (e :: es) X.env = (false, eval e X.env) :: starEach es X.env := by rfl) (hpl : (backTo pos (starEach es X.env)).any (·.1) = false := by rfl) : PE X (.Call (.Name "max" p) (e :: es) [] pos) (tE G E (mCall fMax2 ms)) := je_callB (call_max2 hc) cs_max2 hg hm (by decide +kernel) ha (he := he) (hpl := hpl)
theorem jb_min (hc : X.calm = true) (hm : X.mg "min" = none) (hg : Gl X "min" := by rfl) (he : starEach (e :: es) X.env = (false, eval e X.env) :: starEach es X.env := by rfl) (hpl : (backTo pos (starEach es X.env)).any (·.1) = false := by rfl) : PE X (.Call (.Name "min" p) (e :: es) [] pos) (tE G E (mCall fMin2 ms)) := je_callB (call_min2 hc) cs_min2 hg hm (by decide +kernel) ha (he := he) (hpl := hpl)
theorem jb_sum (hc : X.calm = true) (hm : X.mg "sum" = none) (hK : G.K = X.K := by rfl) (hg : Gl X "sum" := by rfl) (he : starEach (e :: es) X.env = (false, eval e X.env) :: starEach es X.env := by rfl) (hpl : (backTo pos (starEach es X.env)).any (·.1) = false := by rfl) : PE X (.Call (.Name "sum" p) (e :: es) [] pos) (tE G E (mCall (fS gSum) ms)) := je_callB (call_sumA hc) (by rw [← hK]; exact cs_sumA) hg hm (by decide +kernel) ha (he := he) (hpl := hpl)
theorem jb_all (hc : X.calm = true) (hm : X.mg "all" = none) (hK : G.K = X.K := by rfl) (hg : Gl X "all" := by rfl) (he : starEach (e :: es) X.env = (false, eval e X.env) :: starEach es X.env := by rfl) (hpl : (backTo pos (starEach es X.env)).any (·.1) = false := by rfl) : PE X (.Call (.Name "all" p) (e :: es) [] pos) (tE G E (mCall (fL gAll) ms)) := je_callB (cr_all hc) (by rw [← hK]; exact cs_all) hg hm (by decide +kernel) ha (he := he) (hpl := hpl)
theorem jb_any (hc : X.calm = true) (hm : X.mg "any" = none) (hK : G.K = X.K := by rfl) (hg : Gl X "any" := by rfl) (he : starEach (e :: es) X.env = (false, eval e X.env) :: starEach es X.env := by rfl) (hpl : (backTo pos (starEach es X.env)).any (·.1) = false := by rfl) : PE X (.Call (.Name "any" p) (e :: es) [] pos) (tE G E (mCall (fL gAny) ms)) := je_callB (cr_any hc) (by rw [← hK]; exact cs_any) hg hm (by decide +kernel) ha (he := he) (hpl := hpl)
theorem jb_int (hm : X.mg "int" = none) (hg : Gl X "int" := by rfl) (he : starEach (e :: es) X.env = (false, eval e X.env) :: starEach es X.env := by rfl) (hpl : (backTo pos (starEach es X.env)).any (·.1) = false := by rfl) : PE X (.Call (.Name "int" p) (e :: es) [] pos) (tE G E (mCall fInt ms)) := je_callT call_int1 cs_int hg hm (by decide +kernel) ha (he := he) (hpl := hpl)
theorem jb_tuple (hm : X.mg "tuple" = none) (hK : G.K = X.K := by rfl) (hg : Gl X "tuple" := by rfl) (he : starEach (e :: es) X.env = (false, eval e X.env) :: starEach es X.env := by rfl) (hpl : (backTo pos (starEach es X.env)).any (·.1) = false := by rfl) : PE X (.Call (.Name "tuple" p) (e :: es) [] pos) (tE G E (mCall fTup ms)) := je_callT call_tuple_of (by rw [← hK]; exact cs_tup) hg hm (by decide +kernel) ha (he := he) (hpl := hpl)
theorem jb_list (hm : X.mg "list" = none) (hK : G.K = X.K := by rfl) (hg : Gl X "list" := by rfl) (he : starEach (e :: es) X.env = (false, eval e X.env) :: starEach es X.env := by rfl) (hpl : (backTo pos (starEach es X.env)).any (·.1) = false := by rfl) : PE X (.Call (.Name "list" p) (e :: es) [] pos) (tE G E (mCall fList ms)) := je_callT call_list_of (by rw [← hK]; exact cs_list) hg hm (by decide +kernel) ha (he := he) (hpl := hpl)
theorem jb_listC (hm : X.mg "list" = none) (hK : G.K = X.K := by rfl) (hg : Gl X "list" := by rfl) (he : starEach (e :: es) X.env = (false, eval e X.env) :: starEach es X.env := by rfl) (hpl : (backTo pos (starEach es X.env)).any (·.1) = false := by rfl) : PE X (.Call (.Name "list" p) (e :: es) [] pos) (tE G E (mCall fListC ms)) := je_callT call_list_of (by rw [← hK]; exact cs_listC) hg hm (by decide +kernel) ha (he := he) (hpl := hpl)
end
/-! methods of lists -/
theorem j_app (ho : PE X o (tE G E mo)) (ha : PA X (e :: es) (tA G E ms)) (hK : G.K = X.K := by rfl) (hbase : attributeBase o "append" X.env (eval o X.env) = eval o X.env := by rfl)
    (hfew : ((backTo pos (starEach (e :: es) X.env)).all (fun x => !x.1) && (backToKw pos (keywordEach [] X.env)).all (fun x => x.1.isSome)
      && decide ((e :: es).length + ([] : List Keyword).length + (if ([] : List Keyword).isEmpty then 0 else 1) < 30)) = true := by rfl)
    (hline : (apos.endLine == pos.line) = true := by rfl) (hs : starEach (e :: es) X.env = (false, eval e X.env) :: starEach es X.env := by rfl) (hpl : (backTo pos (starEach es X.env)).any (·.1) = false := by rfl) :
    PE X (.Call (.Attribute o "append" apos) (e :: es) [] pos) (tE G E (mApp mo ms)) := je_app hK ho ha (pe_bm PySem.F.plainAttrs_list PySem.F.slot_list_append PySem.F.type_list_append mt_append ho ha hbase hfew hline hs hpl)
theorem j_popAt (ho : PE X o (tE G E mo)) (ha : PA X (e :: es) (tA G E ms)) (hK : G.K = X.K := by rfl) (hbase : attributeBase o "pop" X.env (eval o X.env) = eval o X.env := by rfl)
    (hfew : ((backTo pos (starEach (e :: es) X.env)).all (fun x => !x.1) && (backToKw pos (keywordEach [] X.env)).all (fun x => x.1.isSome)
      && decide ((e :: es).length + ([] : List Keyword).length + (if ([] : List Keyword).isEmpty then 0 else 1) < 30)) = true := by rfl)
    (hline : (apos.endLine == pos.line) = true := by rfl) (hs : starEach (e :: es) X.env = (false, eval e X.env) :: starEach es X.env := by rfl) (hpl : (backTo pos (starEach es X.env)).any (·.1) = false := by rfl) :
    PE X (.Call (.Attribute o "pop" apos) (e :: es) [] pos) (tE G E (mPopAt mo ms)) := je_popAt hK (pe_bm PySem.F.plainAttrs_list PySem.F.slot_list_pop PySem.F.type_list_pop mt_popAt ho ha hbase hfew hline hs hpl)
/-! dicts by value: none, one key -/
theorem Rep.newD {B : Addr → Prop} {W : Wd} {q : Addr} (R : Rel G B W) (h : W.H q = none) {kvs : List (Key × V)} {ks : List Key} {ds : List D} (e : kvs.map (·.1) = ks) (r : Reps G B W (kvs.map (·.2)) ds) : Rep G B (W.new q (.dK kvs)) (.ref q) (.dct ks ds) := .dct upd_same (R.notMu h) e (r.new R h)
theorem j_dnew : PE X (.Dict [] [] pos) (tE G E (mC (.dct [] []))) := PE.weak pe_dnewK fun σ H Q ⟨B, W, env, e, R, S, o⟩ => by
  subst e
  intro q hq
  exact o (W.new q (.dK [])) (Ext.new R.len hq) (R.new hq) rfl _ (Rep.newD R hq rfl .nil)
theorem j_dict1 {k v : Int} {j1 j2} : PE X (.Dict [some (.Constant (.int k) j1 p1)] [.Constant (.int v) j2 p2] pos) (tE G E (mC (.dct [.inl k] [.int v]))) := PE.weak (pe_disp (pps_cons pe_int pe_int pps_nil) rfl rfl (by simp) (by simp)) fun σ H Q ⟨B, W, env, e, R, S, o⟩ => by
  subst e
  intro q hq
  refine ⟨upd_same, [(.inl k, .int v)], rfl, by simp, ?_⟩
  have e2 : upd (upd W.H q (.dK [])) q (.dK (mergeK [] [(.inl k, .int v)])) = (W.new q (.dK [(.inl k, .int v)])).H := by
    funext b
    show _ = upd W.H q _ b
    rw [upd_at, upd_at, upd_at]
    by_cases hb : b = q
    · rw [if_pos hb, if_pos hb]; rfl
    · rw [if_neg hb, if_neg hb, if_neg hb]
  rw [e2]
  exact o _ (Ext.new R.len hq) (R.new hq) rfl _ (Rep.newD R hq rfl (.cons (.int v) .nil))
/-! statements -/
theorem j_set {x : Str} (i : Nat) (hN : X.N.Nodup) (he : PE X e (tE G (eX XW) m)) (hi : X.N[i]? = some x := by rfl) (hx : Loc X.env.scope x := by first | exact Or.inl rfl | exact Or.inr rfl) (hs : swapsWith e (some (.Name x pos')) pos.line X.env = pure false := by rfl)
    (hf : X.fn x = true ∨ X.env.scope.names.lookup x = some .local := by first | exact .inl rfl | exact .inr rfl) : PS X (.Assign [.Name x pos'] e pos) (tS G XW (sSet i m)) := js_set (ps_set hN hi hx he hs hf)
theorem j_subset (hv : PE X e (tE G (eX XW) mv)) (ho : PE X o (tE G (eX XW) mo)) (hi : PE X i (tE G (eX XW) mi)) (hK : G.K = X.K := by rfl) (ha : ∀ v, assign (.Subscript o i pos') X.env v = (do
      let ov ← holding [v] (eval o X.env)
      let iv ← holding [v, ov] (eval i X.env)
      standAt pos'
      holding [v, ov, iv] (setItem ov iv v)
      release [v, ov, iv] []) := by intro _; rfl) (hs : swapsWithSole [.Subscript o i pos'] e pos.line X.env = pure false := by rfl) (hw : swappedStores [.Subscript o i pos'] e X.env = pure none := by rfl)
    (h1 : (assignEach [.Subscript o i pos'] X.env).map (·.2) = [assign (.Subscript o i pos') X.env] := by rfl) : PS X (.Assign [.Subscript o i pos'] e pos) (tS G XW (sSub mo mi mv)) := js_sub hK (ps_asg hv (pg_sub ho hi set_list ha) hs hw h1)
theorem jg_name {x : Str} (i : Nat) (hN : X.N.Nodup) (hi : X.N[i]? = some x := by rfl) (hx : Loc X.env.scope x := by first | exact Or.inl rfl | exact Or.inr rfl) (hf : X.fn x = true ∨ X.env.scope.names.lookup x = some .local := by first | exact .inl rfl | exact .inr rfl) : PG X (.Name x pos) (gT X.K (.nm i)) := jg_nm (pg_name hN hi hx hf)
theorem pss0 : Pss X e0 := fun pins σ H s e s' I h => by
  obtain ⟨_, _, _, _, _, _, _, _, _, _, _, _, z⟩ := h
  exact z.elim
end
/-- a def that may be called -/
def Fk (P : Program) (w : World) (K : PySem.W.Frag) (mg : Str → Option Value) (base : Heap) (k : Nat) (f : Addr) (ps : List Str) (sp : Sp) : Prop := ∃ fd, FnG P w K mg base k f fd ps sp ∧ Binds K fd ps [] ∧ PySem.W.keepIn K (.ref f) = true
section
variable {X : Cx} {G : Cn} {E : ES} {x : Str} {p pos : Pos} {e o : Expr} {es : List Expr} {ms : M (List D)} {fn : Fn} {mo : M D} {k j n : Nat} {f : Addr} {ps : List Str} {m c : Str} {apos : Pos}
theorem j_call (F : Fk X.prog X.w X.K X.mg X.base j f ps (spOf G n fn)) (le : j ≤ k) (rm : Rm k X.A) (hm : X.mg x = some (.ref f)) (hx : Pss X E) (ha : PA X (e :: es) (tA G E ms)) (hg : Gl X x := by rfl)
    (hdb : (x == ("__debug__" : Str)) = false := by decide) (he : starEach (e :: es) X.env = (false, eval e X.env) :: starEach es X.env := by rfl) (hpl : (backTo pos (starEach es X.env)).any (·.1) = false := by rfl) : PE X (.Call (.Name x p) (e :: es) [] pos) (tE G E (mCall (ar n fn) ms)) := by
  obtain ⟨fd, F, b, kp⟩ := F
  exact je_call (F.mono le) rm hg hm kp b hx ha hdb he hpl
theorem j_call0 (F : Fk X.prog X.w X.K X.mg X.base j f ps (spOf G n fn)) (le : j ≤ k) (rm : Rm k X.A) (hm : X.mg x = some (.ref f)) (hx : Pss X E) (hg : Gl X x := by rfl)
    (hdb : (x == ("__debug__" : Str)) = false := by decide) : PE X (.Call (.Name x p) [] [] pos) (tE G E (mCall (ar n fn) mNil)) := by
  obtain ⟨fd, F, b, kp⟩ := F
  exact je_call0 (F.mono le) rm hg hm kp b hx hdb
theorem j_make (F : Fk X.prog X.w X.K X.mg X.base j f ps (spOf G n fn)) (le : j + 1 ≤ k) (rm : Rm k X.A) (Mk0 : Mk X.K (G.cl c) f) (hm : X.mg x = some (.ref (G.cl c))) (hx : Pss X E) (ha : PA X (e :: es) (tA G E ms)) (hg : Gl X x := by rfl)
    (hdb : (x == ("__debug__" : Str)) = false := by decide) (he : starEach (e :: es) X.env = (false, eval e X.env) :: starEach es X.env := by rfl) (hpl : (backTo pos (starEach es X.env)).any (·.1) = false := by rfl) : PE X (.Call (.Name x p) (e :: es) [] pos) (tE G E (mCall (mkF c (ar n fn)) ms)) := by
  obtain ⟨fd, F, b, kp⟩ := F
  exact je_make Mk0 F (rm.mono le) hg hm b hx ha hdb he hpl
theorem j_makeC (F : Fk X.prog X.w X.K X.mg X.base j f ps (spOf G n fn)) (le : j + 1 ≤ k) (rm : Rm k X.A) (Mk0 : Mk X.K (G.cl c) f) (hm : X.mg x = some (.ref (G.cl c))) (hx : Pss X E) (ha : PA X (e :: es) (tA G E ms)) (hg : Gl X x := by rfl)
    (hdb : (x == ("__debug__" : Str)) = false := by decide) (he : starEach (e :: es) X.env = (false, eval e X.env) :: starEach es X.env := by rfl) (hpl : (backTo pos (starEach es X.env)).any (·.1) = false := by rfl) : PE X (.Call (.Name x p) (e :: es) [] pos) (tE G E (mCall (mkC c (ar n fn)) ms)) := by
  obtain ⟨fd, F, b, kp⟩ := F
  exact je_makeC Mk0 F (rm.mono le) hg hm b hx ha hdb he hpl
theorem j_prop {pp : Addr} (F : Fk X.prog X.w X.K X.mg X.base j f ps (spOf G 1 fn)) (le : j + 1 ≤ k) (rm : Rm k X.A) (hc : Cls X.K (G.cl c)) (hp : PropOf X.K (G.cl c) m pp f) (he : PE X o (tE G E mo))
    (hab : attributeBase o m X.env (eval o X.env) = eval o X.env := by rfl) : PE X (.Attribute o m pos) (tE G E (mProp c fn mo)) := by
  obtain ⟨fd, F, b, kp⟩ := F
  exact je_prop he hc hp F (rm.mono le) b hab
theorem j_stat0 {C pp : Addr} {p2 : Pos} {pl : Sem Bool} (F : Fk X.prog X.w X.K X.mg X.base j f ps (spOf G n fn)) (le : j ≤ k) (rm : Rm k X.A) (hg : Gl X x) (hm : X.mg x = some (.ref C)) (T : Stat X.K C m pp f) (hx : Pss X E)
    (ht : eval (.Call (.Attribute (.Name x p2) m apos) [] [] pos) X.env = (do
      let ov ← eval (.Name x p2) X.env
      standAt apos.atName
      let (g, first) ← holding [ov] (getMethod ov m pl)
      callWith pos g first (backTo pos (starEach [] X.env)) (backToKw pos (keywordEach [] X.env))) := by rfl) (hdb : (x == ("__debug__" : Str)) = false := by decide) : PE X (.Call (.Attribute (.Name x p2) m apos) [] [] pos) (tE G E (mCall (ar n fn) mNil)) := by
  obtain ⟨fd, F, b, kp⟩ := F
  exact je_stat0 (pl := pl) hg hm T (F.mono le) rm b hx ht hdb
theorem j_meth {pl : Sem Bool} (F : Fk X.prog X.w X.K X.mg X.base j f ps (spOf G n fn)) (le : j ≤ k) (rm : Rm k X.A) (hc : Cls X.K (G.cl c)) (hm : Meth X.K (G.cl c) m f) (hx : Pss X E) (he : PE X o (tE G E mo)) (ha : PA X (e :: es) (tA G E ms))
    (hst : starEach (e :: es) X.env = (false, eval e X.env) :: starEach es X.env := by rfl) (hpl : (backTo pos (starEach es X.env)).any (·.1) = false := by rfl)
    (ht : eval (.Call (.Attribute o m apos) (e :: es) [] pos) X.env = (do
      let ov ← eval o X.env
      standAt apos.atName
      let (g, first) ← holding [ov] (getMethod ov m pl)
      callWith pos g first (backTo pos (starEach (e :: es) X.env)) (backToKw pos (keywordEach [] X.env))) := by rfl) : PE X (.Call (.Attribute o m apos) (e :: es) [] pos) (tE G E (mMeth c m (ar n fn) mo ms)) := by
  obtain ⟨fd, F, b, kp⟩ := F
  exact je_meth (pl := pl) he hc hm (F.mono le) rm b hx ha hst hpl ht
theorem j_meth0 {pl : Sem Bool} (F : Fk X.prog X.w X.K X.mg X.base j f ps (spOf G n fn)) (le : j ≤ k) (rm : Rm k X.A) (hc : Cls X.K (G.cl c)) (hm : Meth X.K (G.cl c) m f) (hx : Pss X E) (he : PE X o (tE G E mo))
    (ht : eval (.Call (.Attribute o m apos) [] [] pos) X.env = (do
      let ov ← eval o X.env
      standAt apos.atName
      let (g, first) ← holding [ov] (getMethod ov m pl)
      callWith pos g first (backTo pos (starEach [] X.env)) (backToKw pos (keywordEach [] X.env))) := by rfl) : PE X (.Call (.Attribute o m apos) [] [] pos) (tE G E (mMeth c m (ar n fn) mo mNil)) := by
  obtain ⟨fd, F, b, kp⟩ := F
  exact je_meth0 (pl := pl) he hc hm (F.mono le) rm b hx ht
end
end DL

set_option maxHeartbeats 2000000
/-! DR: repr of data. -/
namespace DL
open PySem PySem.Spec PyProof.Rows L2

def keyP : Key → PyData
  | .inl i => .int i
  | .inr x => .str x
mutual
/-- as the library's data, dicts too -/
def D.pyd : D → Option PyData
  | .non => some .none
  | .bl b => some (.bool b)
  | .int i => some (.int i)
  | .str x => some (.str x)
  | .tup xs => (D.pyds xs).map .tuple
  | .lst xs => (D.pyds xs).map .list
  | .fro xs => (D.pyds xs).map .list
  | .dct ks vs => (D.pyds vs).map fun ps => .dict ((ks.map keyP).zip ps)
  | .obj _ _ _ => none
  | .loc _ => none
  | .exn _ _ _ => none
def D.pyds : List D → Option (List PyData)
  | [] => some []
  | d :: ds => (D.pyd d).bind fun p => (D.pyds ds).map (p :: ·)
end
section
variable {X : Cx} {G : Cn} {B : Addr → Prop} {W : Wd} {pins : List (Addr × Obj)} {σ : L2.St} {s : Shared}
theorem not_sys (I : Inv X pins σ W.H s) (hS : SysD X.K) {a : Addr} {o : Obj} (h : s.heap.get? a = some o) (c : o.cls = .type "list") : a ≠ sysModules := fun e => by
  subst e
  obtain ⟨od, dt, sl, q⟩ := hS
  rw [I.kIn _ _ q] at h
  have e2 := Option.some.inj h
  rw [← e2] at c
  have c2 : Value.type "dict" = Value.type "list" := c
  injection c2 with c3
  exact absurd c3 (by decide)
theorem keys_reads {P : Program} {w : World} {h : Heap} : ∀ {es : List DictEntry} {vs : List (Key × Value)}, Pairs (mixKind P w) es vs → ReadsAll h (es.map (·.key)) (vs.map fun q => keyP q.1) [] ∧ es.map (·.val) = vs.map (·.2)
  | _, _, .nil => ⟨.nil, rfl⟩
  | _, _, .cons (e := e) (kv := kv) hk hv t => by
    obtain ⟨i1, i2⟩ := keys_reads (h := h) t
    refine ⟨?_, by rw [List.map_cons, List.map_cons, hv, i2]⟩
    have one : Reads h e.key (keyP kv.1) [] := by
      have hk' : keyIs kv.1 e.key = true := hk
      rcases keyIs_shape hk' with ⟨i, t, e1, e2⟩ | ⟨x, t, e1, e2⟩
      · rw [e1, e2]; exact .int i t
      · rw [e1, e2]; exact .str x t
    exact ReadsAll.cons one i1
mutual
theorem Rep.reads (hK : G.K = X.K) (I : Inv X pins σ W.H s) (hS : SysD X.K) (R : Rel G B W) : ∀ (d : D) (v : V) (u : Value) (p : PyData), Rep G B W v d → d.pyd = some p → RelV v u → ∃ as, Reads s.heap u p as ∧ sysModules ∉ as
  | .non, _, _, _, h, e, r => by cases h; cases e; cases r; exact ⟨_, .none, by simp⟩
  | .bl b, _, _, _, h, e, r => by cases h; cases e; cases r; exact ⟨_, .bool b, by simp⟩
  | .int i, _, _, _, h, e, r => by cases h; cases e; obtain ⟨t, rfl⟩ := r; exact ⟨_, .int i t, by simp⟩
  | .str x, _, _, _, h, e, r => by cases h; cases e; obtain ⟨t, rfl⟩ := r; exact ⟨_, .str x t, by simp⟩
  | .tup ds, _, _, _, h, e, r => by
    cases h with
    | tup h t =>
      obtain ⟨ps, e1, e2⟩ := Option.map_eq_some_iff.mp e
      subst e2
      cases r
      rw [hK] at h
      obtain ⟨its, rv, ⟨o, ho, hc, n, hd⟩, _⟩ := I.tuple h
      obtain ⟨as, q, m⟩ := Reps.reads hK I hS R ds _ its ps t e1 rv
      exact ⟨_, Reads.tuple ho hc hd q, m⟩
  | .lst ds, _, _, _, h, e, r => by
    cases h with
    | lst h n t =>
      obtain ⟨ps, e1, e2⟩ := Option.map_eq_some_iff.mp e
      subst e2
      cases r
      obtain ⟨its, rv, ⟨o, n, ho, hc, _, hd⟩, _⟩ := I.list (SqL.of h)
      obtain ⟨as, q, m⟩ := Reps.reads hK I hS R ds _ its ps t e1 rv
      exact ⟨_, Reads.list ho hc hd q, by simp only [List.mem_cons, not_or]; exact ⟨fun z => not_sys I hS ho hc z.symm, m⟩⟩
  | .fro ds, _, _, _, h, e, r => by
    cases h with
    | @fro a vs _ h t =>
      obtain ⟨ps, e1, e2⟩ := Option.map_eq_some_iff.mp e
      subst e2
      cases r
      have sq : SqL X.K W.H a vs := by
        rcases h with ⟨o, h⟩ | ⟨o, its, n, k⟩
        · exact .inl (.inr ⟨o, h⟩)
        · exact .inr ⟨o, its, n, by rw [← hK]; exact k⟩
      obtain ⟨its, rv, ⟨o, n, ho, hc, _, hd⟩, _⟩ := I.list sq
      obtain ⟨as, q, m⟩ := Reps.reads hK I hS R ds _ its ps t e1 rv
      exact ⟨_, Reads.list ho hc hd q, by simp only [List.mem_cons, not_or]; exact ⟨fun z => not_sys I hS ho hc z.symm, m⟩⟩
  | .dct ks ds, _, _, _, h, e, r => by
    cases h with
    | @dct a kvs _ _ h n e1 t =>
      obtain ⟨ps, e2, e3⟩ := Option.map_eq_some_iff.mp e
      subst e3 e1
      cases r
      obtain ⟨_, hs, vs, rel, o, es, ep, ho, hx, hd, _, hp, _⟩ := dk_of I.hok h
      have rv : ∀ {l : List (Key × V)} {m : List (Key × Value)}, KV l m → Vals (l.map (·.2)) (m.map (·.2)) ∧ l.map (·.1) = m.map (·.1) := fun {l m} q => by
        unfold KV at q
        induction q with
        | nil => exact ⟨.nil, rfl⟩
        | cons hh _ ih => exact ⟨.cons hh.2 ih.1, by rw [List.map_cons, List.map_cons, hh.1, ih.2]⟩
      obtain ⟨rv1, rk⟩ := rv rel
      obtain ⟨bs, q, m⟩ := Reps.reads hK I hS R ds _ _ ps t e2 rv1
      obtain ⟨k1, k2⟩ := keys_reads (h := s.heap) hp
      have len : ((kvs.map (·.1)).map keyP).length = ps.length := by
        have l1 := t.length
        have l2 : ∀ {ds : List D} {ps : List PyData}, D.pyds ds = some ps → ds.length = ps.length := fun {ds} => by
          induction ds with
          | nil => intro ps h; cases h; rfl
          | cons d ds ih =>
            intro ps h
            unfold D.pyds at h
            obtain ⟨p1, _, h2⟩ := Option.bind_eq_some_iff.mp h
            obtain ⟨p2, h3, h4⟩ := Option.map_eq_some_iff.mp h2
            subst h4
            simp [ih h3]
        rw [List.length_map, List.length_map, ← l2 e2, ← l1, List.length_map]
      refine ⟨_, Reads.dict (kvs := ((kvs.map (·.1)).map keyP).zip ps) ho hx.1 hd (as := []) (bs := bs) ?_ ?_, ?_⟩
      · rw [zip_fst len.symm, rk, List.map_map]
        exact k1
      · rw [zip_snd len.symm, k2]
        exact q
      · simp only [List.append_nil, List.cons_append, List.nil_append, List.mem_cons, not_or]
        exact ⟨fun z => (by rw [← z, beq_self_eq_true] at hs; cases hs), m⟩
  | .obj _ _ _, _, _, _, _, e, _ => by cases e
  | .loc _, _, _, _, _, e, _ => by cases e
  | .exn _ _ _, _, _, _, _, e, _ => by cases e
theorem Reps.reads (hK : G.K = X.K) (I : Inv X pins σ W.H s) (hS : SysD X.K) (R : Rel G B W) : ∀ (ds : List D) (vs : List V) (us : List Value) (ps : List PyData), Reps G B W vs ds → D.pyds ds = some ps → Vals vs us → ∃ as, ReadsAll s.heap us ps as ∧ sysModules ∉ as
  | [], _, _, _, h, e, r => by cases h; cases e; cases r; exact ⟨_, .nil, by simp⟩
  | d :: ds, _, _, _, h, e, r => by
    cases h with
    | cons h t =>
      cases r with
      | cons r1 r2 =>
        unfold D.pyds at e
        obtain ⟨p1, e1, e2⟩ := Option.bind_eq_some_iff.mp e
        obtain ⟨p2, e3, e4⟩ := Option.map_eq_some_iff.mp e2
        subst e4
        obtain ⟨as, q1, m1⟩ := Rep.reads hK I hS R d _ _ p1 h e1 r1
        obtain ⟨bs, q2, m2⟩ := Reps.reads hK I hS R ds _ _ p2 t e3 r2
        exact ⟨_, .cons q1 q2, by simp [m1, m2]⟩
end
end
/-- repr of data: res: a cell's list too -/
def D.den (st : Store) (d : D) : Option PyData := (res st d).pyd
theorem Rep.readsR {X : Cx} {G : Cn} {B : Addr → Prop} {W : Wd} {pins : List (Addr × Obj)} {σ : L2.St} {s : Shared} (hK : G.K = X.K) (I : Inv X pins σ W.H s) (hS : SysD X.K) (R : Rel G B W) {d : D} {v : V} {u : Value} {p : PyData} (h : Rep G B W v d) (e : d.den W.st = some p) (r : RelV v u) : ∃ as, Reads s.heap u p as ∧ sysModules ∉ as := by
  unfold D.den at e
  cases d with
  | @loc n =>
    cases q : W.st[n]? with
    | none => simp only [res, q] at e; cases e
    | some c =>
      cases c with
      | lst ds =>
        simp only [res, q] at e
        cases h with
        | loc h =>
          obtain ⟨vs, h1, t⟩ := R.cell n _ _ h q
          obtain ⟨ps, e1, e2⟩ := Option.map_eq_some_iff.mp e
          subst e2
          cases r
          obtain ⟨its, rv, ⟨o, n, ho, hc, _, hd⟩, _⟩ := I.list (SqL.of h1)
          obtain ⟨as, q, m⟩ := Reps.reads hK I hS R ds _ its ps t e1 rv
          exact ⟨_, Reads.list ho hc hd q, by simp only [List.mem_cons, not_or]; exact ⟨fun z => not_sys I hS ho hc z.symm, m⟩⟩
      | _ => simp only [res, q] at e; cases e
  | _ => exact Rep.reads hK I hS R _ _ _ p h e r
/-- the text: numbers of at most some hundred figures -/
def fRepr : Fn := fun ds st => match ds with
  | [d] => (match d.den st with
    | some p => if p.showable = true ∧ p.depth ≤ 40 ∧ p.shown.length ≤ sizeLine then .ok (.str p.shown) st else .bad
    | none => .bad)
  | _ => .bad
theorem repr_go {X : Cx} {G : Cn} {k : Nat} {pins : List (Addr × Obj)} {σ : L2.St} {s : Shared} {B : Addr → Prop} {W : Wd} {d : D} {v : V} {u : Value} {p : PyData} {Q : VK} (hK : G.K = X.K) (rm : Rm k X.A) (hS : SysD X.K) (I : Inv X pins σ W.H s) (R : Rel G B W) (h : Rep G B W v d) (e : d.den W.st = some p) (r : RelV v u) (c : p.showable = true ∧ p.depth ≤ 40 ∧ p.shown.length ≤ sizeLine) (q : Q (.str p.shown) W.H) :
    wpAny (model X.prog X.w) X.A (call (.builtin "repr") [u]) (EP X pins σ Q) X.xe s := by
  obtain ⟨as, hr, hs⟩ := h.readsR hK I hS R e r
  have hu := rm.units
  cases hr with
  | none => exact PySem.P.repr_of_none ⟨.str _, W.H, I.tok _, ⟨_, rfl⟩, q⟩
  | bool b => exact PySem.P.repr_of_bool ⟨.str _, W.H, I.tok _, ⟨_, rfl⟩, q⟩
  | int i t => exact PySem.P.repr_of_int (of_decide_eq_true c.1) ⟨.str _, W.H, I.tok _, ⟨_, rfl⟩, q⟩
  | str x t => exact PySem.P.repr_of_str ⟨.str _, W.H, I.tok _, ⟨_, rfl⟩, q⟩ c.2.2
  | list ho hc hd ha => exact PySem.repr_of_reads' (Reads.list ho hc hd ha) c.1 (fun _ => hs) rm.g (by have := c.2.1; omega) (fun _ _ z => z) (fun h' u' tk hk => ⟨.str _, W.H, I.kept hk, ⟨_, rfl⟩, q⟩) c.2.2
  | tuple ho hc hd ha => exact PySem.repr_of_reads' (Reads.tuple ho hc hd ha) c.1 (fun _ => hs) rm.g (by have := c.2.1; omega) (fun _ _ z => z) (fun h' u' tk hk => ⟨.str _, W.H, I.kept hk, ⟨_, rfl⟩, q⟩) c.2.2
  | dict ho hc hd ha hb => exact PySem.repr_of_reads' (Reads.dict ho hc hd ha hb) c.1 (fun _ => hs) rm.g (by have := c.2.1; omega) (fun _ _ z => z) (fun h' u' tk hk => ⟨.str _, W.H, I.kept hk, ⟨_, rfl⟩, q⟩) c.2.2
def rRepr (G : Cn) : List V → Hp → VK → Prop := fun vs H Q => ∃ B W d v p, W.H = H ∧ vs = [v] ∧ Rel G B W ∧ Rep G B W v d ∧ d.den W.st = some p ∧ (p.showable = true ∧ p.depth ≤ 40 ∧ p.shown.length ≤ sizeLine) ∧ Q (.str p.shown) H
theorem call_reprD {X : Cx} {G : Cn} {k : Nat} (hK : G.K = X.K) (rm : Rm k X.A) (hS : SysD X.K) : CallR X (.builtin "repr") (rRepr G) := by
  rintro pins s σ H vs us Q I r ⟨B, W, d, v, p, rfl, rfl, R, h, e, c, q⟩
  cases r with
  | cons r1 r2 =>
    cases r2
    exact repr_go hK rm hS I R h e r1 c q
theorem cs_repr {G : Cn} : CallS G (rRepr G) fRepr := by
  intro B W E ds vs Q R r o
  match ds, r, o with
  | [], _, o => exact o.elim
  | _ :: _ :: _, _, o => exact o.elim
  | [d], .cons h .nil, o =>
    simp only [fRepr] at o
    cases e : d.den W.st with
    | none => rw [e] at o; exact o.elim
    | some p =>
      rw [e] at o
      simp only at o
      by_cases c : p.showable = true ∧ p.depth ≤ 40 ∧ p.shown.length ≤ sizeLine
      · rw [if_pos c] at o
        exact ⟨B, W, d, _, p, rfl, rfl, R, h, e, c, o.ret R _ (.str _)⟩
      · rw [if_neg c] at o
        exact o.elim
theorem jb_repr {X : Cx} {G : Cn} {E : ES} {k : Nat} {e : Expr} {es : List Expr} {ms : M (List D)} {p pos : Pos} (rm : Rm k X.A) (hS : SysD X.K) (ha : PA X (e :: es) (tA G E ms)) (hm : X.mg "repr" = none) (hK : G.K = X.K := by rfl) (hg : Gl X "repr" := by rfl) (he : starEach (e :: es) X.env = (false, eval e X.env) :: starEach es X.env := by rfl) (hpl : (backTo pos (starEach es X.env)).any (·.1) = false := by rfl) : PE X (.Call (.Name "repr" p) (e :: es) [] pos) (tE G E (mCall fRepr ms)) := je_callB (call_reprD hK rm hS) cs_repr hg hm boot_repr ha (he := he) (hpl := hpl)
/-! tuples of the module -/
theorem dvs_reps {G : Cn} {B : Addr → Prop} {W : Wd} : ∀ {vs : List He.Dv}, (vs.all fun v => (dvD v).isSome) = true → Reps G B W (vs.map (He.Dv.v G.K)) (vs.filterMap dvD)
  | [], _ => .nil
  | v :: vs, h => by
    simp only [List.all_cons, Bool.and_eq_true] at h
    obtain ⟨d, e⟩ := Option.isSome_iff_exists.mp h.1
    rw [List.map_cons, List.filterMap_cons, e]
    exact .cons (dvD_rep e) (dvs_reps h.2)
theorem j_gtup {X : Cx} {G : Cn} {E : ES} {x : Str} {pos : Pos} {vs : List He.Dv} (hm : X.mg x = some (.ref (He.ga X.K x))) (hB : He.tupB X.K x vs = true) (hd : (vs.all fun v => (dvD v).isSome) = true := by decide) (hK : G.K = X.K := by rfl) (hg : Gl X x := by rfl) (hb : (x == ("__debug__" : Str)) = false := by decide) : PE X (.Name x pos) (tE G E (mC (.tup (vs.filterMap dvD)))) :=
  je_gtup hg hm (fun H => by rw [hK]; exact He.tupB_ok hB H) (fun B W => by rw [← hK]; exact dvs_reps hd) hb
theorem j_gstr {X : Cx} {G : Cn} {E : ES} {x : Str} {i : Str} {u : Value} {pos : Pos} (hg : Gl X x) (hm : X.mg x = some u) (r : RelV (.str i) u) (hd : (x == ("__debug__" : Str)) = false := by decide) : PE X (.Name x pos) (tE G E (mC (.str i))) := je_c (pe_glob hg hm r hd) fun _ _ _ => .str i
end DL

set_option maxHeartbeats 2000000
/-! DW: a head that hashes texts: the one choice of the world that it meets, both ways. -/
namespace DL
open PySem PySem.Spec PyProof.Rows L2
def wf (w : World) (b : Bool) : World := { w with params := { w.params with followText := fun s => bif s == "special-get-raises" then b else w.params.followText s } }
theorem wf_self (w : World) : wf w (w.params.followText "special-get-raises") = w := by
  have e : (fun s => bif s == "special-get-raises" then w.params.followText "special-get-raises" else w.params.followText s) = w.params.followText := by
    funext s
    cases q : s == "special-get-raises" with
    | true => rw [eq_of_beq q]; rfl
    | false => rfl
  unfold wf
  rw [e]
theorem both {p : World → Prop} (h1 : ∀ w, p (wf w true)) (h2 : ∀ w, p (wf w false)) (w : World) : p w := by
  rw [← wf_self w]
  cases w.params.followText "special-get-raises" with
  | true => exact h1 w
  | false => exact h2 w
end DL

set_option maxHeartbeats 2000000
/-! DS: dicts by value: d[k], k in d; comparisons as tests. -/
namespace DL
open PySem PySem.Spec PyProof.Rows L2

def keyD : D → Option Key
  | .int i => some (.inl i)
  | .str x => some (.inr x)
  | _ => none
def dctOf (st : Store) : D → Option (List Key × List D)
  | .dct ks vs => some (ks, vs)
  | .loc n => match st[n]? with
    | some (.dct ks vs) => some (ks, vs)
    | _ => none
  | _ => none
def lookD (k : Key) : List Key → List D → Option D
  | k' :: ks, d :: ds => if k' = k then some d else lookD k ks ds
  | _, _ => none
section
variable {G : Cn} {B : Addr → Prop} {W : Wd}
theorem keyD_ok {v : V} {d : D} {k : Key} (r : Rep G B W v d) (h : keyD d = some k) : v = kV k := by
  cases d <;> cases h
  · cases r; rfl
  · cases r; rfl
theorem Rep.dctOf {v : V} {d : D} {ks : List Key} {ds : List D} (R : Rel G B W) (r : Rep G B W v d) (h : DL.dctOf W.st d = some (ks, ds)) : ∃ a kvs, v = .ref a ∧ W.H a = some (.dK kvs) ∧ kvs.map (·.1) = ks ∧ Reps G B W (kvs.map (·.2)) ds := by
  cases r with
  | dct h1 n e t => cases h; exact ⟨_, _, rfl, h1, e, t⟩
  | @loc a n hl =>
    cases q : W.st[n]? with
    | none => simp only [DL.dctOf, q] at h; cases h
    | some c =>
      cases c with
      | dct ks' vs' =>
        simp only [DL.dctOf, q] at h
        cases h
        obtain ⟨kvs, h1, h2, h3⟩ := R.cell n a _ hl q
        exact ⟨a, kvs, rfl, h1, h2, h3⟩
      | _ => simp only [DL.dctOf, q] at h; cases h
  | _ => cases h
theorem look_val {k : Key} : ∀ {kvs : List (Key × V)} {ds : List D}, Reps G B W (kvs.map (·.2)) ds → (∀ d, lookD k (kvs.map (·.1)) ds = some d → ∃ v, valV kvs k = some v ∧ Rep G B W v d) ∧ (lookD k (kvs.map (·.1)) ds = none → valV kvs k = none)
  | [], _, h => by
    cases h
    exact ⟨fun d e => (by cases e), fun _ => rfl⟩
  | (k', v) :: kvs, _, h => by
    cases h with
    | @cons _ d0 _ ds h t =>
      obtain ⟨i1, i2⟩ := look_val (k := k) t
      have e0 : valV ((k', v) :: kvs) k = if k' = k then some v else valV kvs k := by
        unfold valV
        rw [List.find?_cons]
        by_cases c : k' = k
        · rw [if_pos c]; simp [c]
        · rw [if_neg c]; simp [c]
      have e1 : lookD k (((k', v) :: kvs).map (·.1)) (d0 :: ds) = if k' = k then some d0 else lookD k (kvs.map (·.1)) ds := rfl
      rw [e0, e1]
      by_cases c : k' = k
      · rw [if_pos c, if_pos c]
        exact ⟨fun d e => ⟨v, rfl, by cases e; exact h⟩, fun e => by cases e⟩
      · rw [if_neg c, if_neg c]
        exact ⟨i1, i2⟩
end
/-- d[k] -/
def mGetD (mo mi : M D) : M D := fun env st => (mo env st).bind fun x s1 => (mi env s1).bind fun y s2 => match dctOf s2 x, keyD y with
  | some (ks, ds), some k => (match lookD k ks ds with
    | some d => .ok d s2
    | none => .bad)
  | _, _ => .bad
/-- k in d -/
def mInD (neg : Bool) (mi mo : M D) : M D := fun env st => (mi env st).bind fun y s1 => (mo env s1).bind fun x s2 => match dctOf s2 x, keyD y with
  | some (ks, ds), some k => .ok (.bl (neg ^^ (lookD k ks ds).isSome)) s2
  | _, _ => .bad
section
variable {X : Cx} {G : Cn} {E : ES} {o i e : Expr} {mo mi m : M D} {pos p : Pos}
theorem j_getD (hu : X.A.units + 64 < cLine) (ho : PE X o (tE G E mo)) (hi : PE X i (tE G E mi)) (hs : NoSl i := by intro _ _; rfl) : PE X (.Subscript o i pos) (tE G E (mGetD mo mi)) := by
  refine PE.weak (pe_dget (by omega) ho hi hs) fun σ H Q ⟨B, W, env, e1, R, S, o⟩ => ?_
  subst e1
  refine tE_of R S o fun x W1 xv x1 R1 S1 r1 o1 => tE_of R1 S1 o1 fun y W2 yv x2 R2 S2 r2 o2 => ?_
  cases q : dctOf W2.st x with
  | none => simp only [q] at o2; exact o2.elim
  | some t =>
    obtain ⟨ks, ds⟩ := t
    cases qk : keyD y with
    | none => simp only [q, qk] at o2; exact o2.elim
    | some k =>
      simp only [q, qk] at o2
      obtain ⟨a, kvs, rfl, h1, h2, h3⟩ := (Rep.ext R1 x2 _ _ r1).dctOf R2 q
      subst h2
      cases ql : lookD k (kvs.map (·.1)) ds with
      | none => simp only [ql] at o2; exact o2.elim
      | some d =>
        simp only [ql] at o2
        obtain ⟨v, e1, e2⟩ := (look_val (k := k) h3).1 d ql
        exact ⟨a, v, rfl, .inl ⟨kvs, k, .inl h1, keyD_ok r2 qk, e1.symm⟩, o2.ret R2 _ e2⟩
theorem inD_core {neg : Bool} {σ : L2.St} {H : Hp} {Q : VK} (h : tE G E (mInD neg mi mo) σ H Q) : tE G E mi σ H fun y H1 => tE G E mo σ H1 fun x H2 => ∃ a r, x = .ref a ∧ DGet H2 a y r ∧ Q (.bl (neg ^^ r.isSome)) H2 := by
  obtain ⟨B, W, env, e1, R, S, o⟩ := h
  subst e1
  refine tE_of R S o fun y W1 yv x1 R1 S1 r1 o1 => tE_of R1 S1 o1 fun x W2 xv x2 R2 S2 r2 o2 => ?_
  cases q : dctOf W2.st x with
  | none => simp only [q] at o2; exact o2.elim
  | some t =>
    obtain ⟨ks, ds⟩ := t
    cases qk : keyD y with
    | none => simp only [q, qk] at o2; exact o2.elim
    | some k =>
      simp only [q, qk] at o2
      obtain ⟨a, kvs, rfl, h1, h2, h3⟩ := r2.dctOf R2 q
      subst h2
      have hk := keyD_ok (Rep.ext R1 x2 _ _ r1) qk
      cases ql : lookD k (kvs.map (·.1)) ds with
      | none =>
        rw [ql] at o2
        exact ⟨a, none, rfl, .inl ⟨kvs, k, .inl h1, hk, ((look_val (k := k) h3).2 ql).symm⟩, o2.ret R2 _ (.bl _)⟩
      | some d =>
        rw [ql] at o2
        obtain ⟨v, e1, _⟩ := (look_val (k := k) h3).1 d ql
        exact ⟨a, some v, rfl, .inl ⟨kvs, k, .inl h1, hk, e1.symm⟩, o2.ret R2 _ (.bl _)⟩
theorem jc_inD (hu : X.A.units + 64 < cLine) (hi : PE X i (tE G E mi)) (ho : PE X o (tE G E mo)) : PC X .In i o (tE G E (mInD false mi mo)) := ⟨fun pins s σ H Q I h => (pc_din (by omega) hi ho).run pins s σ H Q I (by
  have q := inD_core h
  simp only [Bool.false_xor] at q
  exact q)⟩
theorem jc_notInD (hu : X.A.units + 64 < cLine) (hi : PE X i (tE G E mi)) (ho : PE X o (tE G E mo)) : PC X .NotIn i o (tE G E (mInD true mi mo)) := ⟨fun pins s σ H Q I h => (pc_dnotin (by omega) hi ho).run pins s σ H Q I (by
  have q := inD_core h
  simp only [Bool.true_xor] at q
  exact q)⟩
/-- a comparison as a test -/
theorem jt_pc {op : CmpOp} {a b : Expr} (h : PC X op a b (tE G E m)) (h1 : behindInMarks op b = false := by first | exact nobehind _ (by decide) (by decide) | rfl) : PT X (.Compare a [op] [b] pos) (tT G E (mTest m)) := by
  refine PT.weak (L2.pt_cmp h h1) fun σ H Q ⟨B, W, env, e, R, S, o⟩ => ?_
  subst e
  refine tE_of R S o fun d W1 v x1 R1 S1 r1 o1 => ?_
  cases d with
  | bl b => cases r1; exact ⟨b, rfl, o1.ret R1⟩
  | _ => exact o1.elim
theorem j_inD (hu : X.A.units + 64 < cLine) (hi : PE X i (tE G E mi)) (ho : PE X o (tE G E mo)) (h1 : behindInMarks .In o = false := by rfl) : PE X (.Compare i [.In] [o] pos) (tE G E (mInD false mi mo)) := L2.pe_cmp (jc_inD hu hi ho) h1
theorem j_notInD (hu : X.A.units + 64 < cLine) (hi : PE X i (tE G E mi)) (ho : PE X o (tE G E mo)) (h1 : behindInMarks .NotIn o = false := by rfl) : PE X (.Compare i [.NotIn] [o] pos) (tE G E (mInD true mi mo)) := L2.pe_cmp (jc_notInD hu hi ho) h1
theorem jt_inD (hu : X.A.units + 64 < cLine) (hi : PE X i (tE G E mi)) (ho : PE X o (tE G E mo)) (h1 : behindInMarks .In o = false := by rfl) : PT X (.Compare i [.In] [o] pos) (tT G E (mTest (mInD false mi mo))) := jt_pc (jc_inD hu hi ho) h1
theorem jt_notInD (hu : X.A.units + 64 < cLine) (hi : PE X i (tE G E mi)) (ho : PE X o (tE G E mo)) (h1 : behindInMarks .NotIn o = false := by rfl) : PT X (.Compare i [.NotIn] [o] pos) (tT G E (mTest (mInD true mi mo))) := jt_pc (jc_notInD hu hi ho) h1
/-! tables of the module as tests -/
theorem jc_inK {x : Str} {a : Addr} {ks : List Str} (hT : He.dicW X.K a = some (He.keysIn X.w.params ks)) (hm : X.mg x = some (.ref a)) (he : PE X e (tE G E m)) (hg : Gl X x) (hd : (x == ("__debug__" : Str)) = false) : PC X .In e (.Name x p) (tE G E (mInK false ks m)) := by
  obtain ⟨es, n, kd⟩ := He.dicW_ok hT
  refine ⟨fun pins s σ H Q I ⟨B, W, env, e1, R, S, o⟩ => ?_⟩
  subst e1
  refine thn (he.run pins s σ _ (fun v H1 => ∃ (z : Str) (r : Option Value), v = .str z ∧ PySem.W.nsIn X.K a z = some r ∧ Q (.bl r.isSome) H1) I (tE_of R S o fun d W1 v x1 R1 S1 r1 o1 => ?_)) fun u s1 ⟨v, H1, I1, r1, z, r, ez, en, q⟩ => ?_
  · cases d with
    | str z =>
      cases r1
      obtain ⟨r, h1, h2⟩ := tab_ns hT z
      simp only [Bool.false_xor] at o1
      exact ⟨z, r, rfl, h1, o1.ret R1 _ (by rw [h2]; exact .bl _)⟩
    | _ => exact o1.elim
  · exact ld_glob I1 hg hm (op_in_kd kd pins s1 σ H1 v (.ref a) u _ Q I1 r1 rfl ⟨z, r, ez, rfl, en, q⟩) hd
theorem jc_notInK {x : Str} {a : Addr} {ks : List Str} (hT : He.dicW X.K a = some (He.keysIn X.w.params ks)) (hm : X.mg x = some (.ref a)) (he : PE X e (tE G E m)) (hg : Gl X x) (hd : (x == ("__debug__" : Str)) = false) : PC X .NotIn e (.Name x p) (tE G E (mInK true ks m)) := by
  obtain ⟨es, n, kd⟩ := He.dicW_ok hT
  refine ⟨fun pins s σ H Q I ⟨B, W, env, e1, R, S, o⟩ => ?_⟩
  subst e1
  refine thn (he.run pins s σ _ (fun v H1 => ∃ (z : Str) (r : Option Value), v = .str z ∧ PySem.W.nsIn X.K a z = some r ∧ Q (.bl (!r.isSome)) H1) I (tE_of R S o fun d W1 v x1 R1 S1 r1 o1 => ?_)) fun u s1 ⟨v, H1, I1, r1, z, r, ez, en, q⟩ => ?_
  · cases d with
    | str z =>
      cases r1
      obtain ⟨r, h1, h2⟩ := tab_ns hT z
      simp only [Bool.true_xor] at o1
      exact ⟨z, r, rfl, h1, o1.ret R1 _ (by rw [h2]; exact .bl _)⟩
    | _ => exact o1.elim
  · exact ld_glob I1 hg hm (op_notIn_kd kd pins s1 σ H1 v (.ref a) u _ Q I1 r1 rfl ⟨z, r, ez, rfl, en, q⟩) hd
theorem jt_inK {x : Str} {a : Addr} {ks : List Str} (hT : He.dicW X.K a = some (He.keysIn X.w.params ks)) (hm : X.mg x = some (.ref a)) (he : PE X e (tE G E m)) (hg : Gl X x := by rfl) (hd : (x == ("__debug__" : Str)) = false := by decide) (h1 : behindInMarks .In (.Name x p) = false := by rfl) : PT X (.Compare e [.In] [.Name x p] pos) (tT G E (mTest (mInK false ks m))) := jt_pc (jc_inK hT hm he hg hd) h1
theorem jt_notInK {x : Str} {a : Addr} {ks : List Str} (hT : He.dicW X.K a = some (He.keysIn X.w.params ks)) (hm : X.mg x = some (.ref a)) (he : PE X e (tE G E m)) (hg : Gl X x := by rfl) (hd : (x == ("__debug__" : Str)) = false := by decide) (h1 : behindInMarks .NotIn (.Name x p) = false := by rfl) : PT X (.Compare e [.NotIn] [.Name x p] pos) (tT G E (mTest (mInK true ks m))) := jt_pc (jc_notInK hT hm he hg hd) h1
end
/-! x == (): a tuple of anything -/
def opEq0 (x y : D) (st : Store) : R D := match x, y with
  | .tup xs, .tup [] => .ok (.bl xs.isEmpty) st
  | _, _ => .bad
def rEq0 (K : PySem.W.Frag) : R2 := fun x y H Q => ∃ a b xs, x = .ref a ∧ y = .ref b ∧ SqT K H a xs ∧ SqT K H b [] ∧ Q (.bl xs.isEmpty) H
theorem op_eq0 {X : Cx} (hu : X.A.units + 64 < cLine) : OpR X (compareOp .Eq) (rEq0 X.K) := by
  intro pins s σ H x y v u Q I rx ry h
  obtain ⟨a, b, xs, rfl, rfl, h1, h2, q⟩ := h
  cases rx
  cases ry
  obtain ⟨its, rv, p1, _⟩ := I.tuple h1
  obtain ⟨its2, rv2, p2, _⟩ := I.tuple h2
  cases rv2
  refine SeqAt.eq_tupleAt (e := fun _ => true) (show s.heap.IsTuple a its.toArray from p1) (show s.heap.IsTuple b ([] : List Value).toArray from p2) (by omega) (fun j h1 h2 => by simp at h2) ?_
  have e : ((List.range (min its.toArray.size ([] : List Value).toArray.size)).all (fun _ => true) && its.toArray.size == ([] : List Value).toArray.size) = xs.isEmpty := by
    have l := rv.length
    cases xs with
    | nil =>
      have : its = [] := List.eq_nil_of_length_eq_zero l.symm
      subst this
      rfl
    | cons z zs =>
      cases its with
      | nil => cases l
      | cons w ws => simp
  rw [e]
  exact ⟨.bl _, H, I, rfl, q⟩
theorem os_eq0 {G : Cn} : OpS G (rEq0 G.K) opEq0 := by
  intro B W E x y v u Q R rx ry o
  cases x with
  | tup xs =>
    cases y with
    | tup ys =>
      cases ys with
      | nil =>
        cases rx with
        | @tup _ us _ h1 t1 =>
          cases ry with
          | tup h2 t2 =>
            cases t2
            refine ⟨_, _, _, rfl, rfl, h1, h2, ?_⟩
            have e : us.isEmpty = xs.isEmpty := by
              have l := t1.length
              cases t1 <;> rfl
            rw [e]
            exact o.ret R _ (.bl _)
      | cons _ _ => exact o.elim
    | _ => exact o.elim
  | _ => exact o.elim
/-! x == (), x != (), x == [], x != []: tuples, lists of anything -/
def opE0 (neg : Bool) (x y : D) (st : Store) : R D := match y with
  | .tup [] => (match x with
    | .tup xs => .ok (.bl (neg ^^ xs.isEmpty)) st
    | _ => .bad)
  | .lst [] => (match asL st x with
    | some xs => .ok (.bl (neg ^^ xs.isEmpty)) st
    | none => .bad)
  | _ => .bad
def rE0 (K : PySem.W.Frag) (neg : Bool) : R2 := fun x y H Q => ∃ a b xs, x = .ref a ∧ y = .ref b ∧ ((SqT K H a xs ∧ SqT K H b []) ∨ (SqL K H a xs ∧ SqL K H b [])) ∧ Q (.bl (neg ^^ xs.isEmpty)) H
theorem same_len {xs : List V} {its : List Value} (l : xs.length = its.length) : ((List.range (min its.toArray.size ([] : List Value).toArray.size)).all (fun _ => true) && its.toArray.size == ([] : List Value).toArray.size) = xs.isEmpty := by
  cases xs with
  | nil =>
    have : its = [] := List.eq_nil_of_length_eq_zero l.symm
    subst this
    rfl
  | cons z zs =>
    cases its with
    | nil => cases l
    | cons w ws => simp
theorem op_e0 {X : Cx} (hu : X.A.units + 64 < cLine) : OpR X (compareOp .Eq) (rE0 X.K false) := by
  intro pins s σ H x y v u Q I rx ry h
  obtain ⟨a, b, xs, rfl, rfl, h, q⟩ := h
  cases rx
  cases ry
  rw [Bool.false_xor] at q
  rcases h with ⟨h1, h2⟩ | ⟨h1, h2⟩
  · obtain ⟨its, rv, p1, _⟩ := I.tuple h1
    obtain ⟨its2, rv2, p2, _⟩ := I.tuple h2
    cases rv2
    have z := SeqAt.RcAt.tuples (A := X.A) (e := fun _ => true) p1 (show s.heap.IsTuple b ([] : List Value).toArray from p2) (by omega) (fun j h1 h2 => by simp at h2) X.prog X.w X.xe (EP X pins σ Q)
    rw [same_len rv.length] at z
    exact z ⟨.bl _, H, I, rfl, q⟩
  · obtain ⟨its, rv, p1, _⟩ := I.list h1
    obtain ⟨its2, rv2, p2, _⟩ := I.list h2
    cases rv2
    have l := rv.length
    cases xs with
    | nil =>
      have : its = [] := List.eq_nil_of_length_eq_zero l.symm
      subst this
      exact SeqAt.RcAt.lists (A := X.A) (e := fun _ => true) p1.isList p2.isList rfl (by omega) (fun j h1 h2 => by simp at h2) X.prog X.w X.xe (EP X pins σ Q) ⟨.bl _, H, I, rfl, q⟩
    | cons z zs =>
      exact SeqAt.RcAt.lists_lengths (A := X.A) p1.isList p2.isList (by simp at l ⊢; intro e; rw [e] at l; cases l) (by omega) X.prog X.w X.xe (EP X pins σ Q) ⟨.bl _, H, I, rfl, q⟩
theorem op_n0 {X : Cx} (hu : X.A.units + 64 < cLine) : OpR X (compareOp .NotEq) (rE0 X.K true) := by
  intro pins s σ H x y v u Q I rx ry h
  obtain ⟨a, b, xs, rfl, rfl, h, q⟩ := h
  cases rx
  cases ry
  rw [Bool.true_xor] at q
  rcases h with ⟨h1, h2⟩ | ⟨h1, h2⟩
  · obtain ⟨its, rv, p1, _⟩ := I.tuple h1
    obtain ⟨its2, rv2, p2, _⟩ := I.tuple h2
    cases rv2
    have z := SeqAt.RcNeAt.tuples (A := X.A) (e := fun _ => true) p1 (show s.heap.IsTuple b ([] : List Value).toArray from p2) (by omega) (fun j h1 h2 => by simp at h2) X.prog X.w X.xe (EP X pins σ Q)
    rw [same_len rv.length] at z
    exact z ⟨.bl _, H, I, rfl, q⟩
  · obtain ⟨its, rv, p1, _⟩ := I.list h1
    obtain ⟨its2, rv2, p2, _⟩ := I.list h2
    cases rv2
    have l := rv.length
    cases xs with
    | nil =>
      have : its = [] := List.eq_nil_of_length_eq_zero l.symm
      subst this
      exact SeqAt.RcNeAt.lists (A := X.A) (e := fun _ => true) p1.isList p2.isList rfl (by omega) (fun j h1 h2 => by simp at h2) X.prog X.w X.xe (EP X pins σ Q) ⟨.bl _, H, I, rfl, q⟩
    | cons z zs =>
      exact SeqAt.RcNeAt.lists_lengths (A := X.A) p1.isList p2.isList (by simp at l ⊢; intro e; rw [e] at l; cases l) (by omega) X.prog X.w X.xe (EP X pins σ Q) ⟨.bl _, H, I, rfl, q⟩
theorem os_e0 {G : Cn} {neg : Bool} : OpS G (rE0 G.K neg) (opE0 neg) := by
  intro B W E x y v u Q R rx ry o
  have em : ∀ {us : List V} {xs : List D}, Reps G B W us xs → us.isEmpty = xs.isEmpty := fun t => by cases t <;> rfl
  cases y with
  | tup ys =>
    cases ys with
    | nil =>
      cases x with
      | tup xs =>
        cases rx with
        | tup h1 t1 =>
          cases ry with
          | tup h2 t2 =>
            cases t2
            exact ⟨_, _, _, rfl, rfl, .inl ⟨h1, h2⟩, by rw [em t1]; exact o.ret R _ (.bl _)⟩
      | _ => exact o.elim
    | cons _ _ => exact o.elim
  | lst ys =>
    cases ys with
    | nil =>
      unfold opE0 at o
      cases e : asL W.st x with
      | none => simp only [e] at o; exact o.elim
      | some xs =>
        simp only [e] at o
        obtain ⟨a, us, rfl, h1, t1⟩ := rx.asL R e
        cases ry with
        | lst h2 n t2 =>
          cases t2
          exact ⟨_, _, _, rfl, rfl, .inr ⟨h1, SqL.of h2⟩, by rw [em t1]; exact o.ret R _ (.bl _)⟩
    | cons _ _ => exact o.elim
  | _ => exact o.elim
section
variable {X : Cx} {G : Cn} {E : ES} {a b : Expr} {ma mb : M D} {pos : Pos}
theorem j_e0 (hu : X.A.units + 64 < cLine) (ha : PE X a (tE G E ma)) (hb : PE X b (tE G E mb)) (hK : G.K = X.K := by rfl) : PE X (.Compare a [.Eq] [b] pos) (tE G E (mOp (opE0 false) ma mb)) := je_cmp (op_e0 hu) (by rw [← hK]; exact os_e0) ha hb (nomark _)
theorem jt_e0 (hu : X.A.units + 64 < cLine) (ha : PE X a (tE G E ma)) (hb : PE X b (tE G E mb)) (hK : G.K = X.K := by rfl) : PT X (.Compare a [.Eq] [b] pos) (tT G E (mTest (mOp (opE0 false) ma mb))) := jt_cmp (op_e0 hu) (by rw [← hK]; exact os_e0) ha hb (nomark _)
theorem j_n0 (hu : X.A.units + 64 < cLine) (ha : PE X a (tE G E ma)) (hb : PE X b (tE G E mb)) (hK : G.K = X.K := by rfl) : PE X (.Compare a [.NotEq] [b] pos) (tE G E (mOp (opE0 true) ma mb)) := je_cmp (op_n0 hu) (by rw [← hK]; exact os_e0) ha hb (nomark _)
theorem jt_n0 (hu : X.A.units + 64 < cLine) (ha : PE X a (tE G E ma)) (hb : PE X b (tE G E mb)) (hK : G.K = X.K := by rfl) : PT X (.Compare a [.NotEq] [b] pos) (tT G E (mTest (mOp (opE0 true) ma mb))) := jt_cmp (op_n0 hu) (by rw [← hK]; exact os_e0) ha hb (nomark _)
end
section
variable {X : Cx} {G : Cn} {E : ES} {a b : Expr} {ma mb : M D} {pos : Pos}
theorem j_eq0 (hu : X.A.units + 64 < cLine) (ha : PE X a (tE G E ma)) (hb : PE X b (tE G E mb)) (hK : G.K = X.K := by rfl) : PE X (.Compare a [.Eq] [b] pos) (tE G E (mOp opEq0 ma mb)) := je_cmp (op_eq0 hu) (by rw [← hK]; exact os_eq0) ha hb (nomark _)
theorem jt_eq0 (hu : X.A.units + 64 < cLine) (ha : PE X a (tE G E ma)) (hb : PE X b (tE G E mb)) (hK : G.K = X.K := by rfl) : PT X (.Compare a [.Eq] [b] pos) (tT G E (mTest (mOp opEq0 ma mb))) := jt_cmp (op_eq0 hu) (by rw [← hK]; exact os_eq0) ha hb (nomark _)
/-! {k: v, ..} of constants -/
theorem tPairs_c {σ : L2.St} {H : Hp} {Q : List (V × V) → Hp → Prop} : ∀ {kvs : List (Key × V)}, Q (kvs.map fun kv => (kV kv.1, kv.2)) H → tPairs (kvs.map fun q => (tC (kV q.1), tC q.2)) σ H Q
  | [], h => h
  | _ :: kvs, h => tPairs_c (kvs := kvs) (Q := fun ps H3 => Q (_ :: ps) H3) h
theorem j_dispC {keys : List (Option Expr)} {values : List Expr} (kvs : List (Key × V)) {ks : List Key} {ds : List D} (h : PPs X pos keys values (kvs.map fun q => (tC (kV q.1), tC q.2))) (hk : (mergeK [] kvs).map (·.1) = ks) (hd : ∀ B W, Reps G B W ((mergeK [] kvs).map (·.2)) ds) (hl2 : kvs.length ≤ 15 := by simp)
    (hall : keys.all (·.isSome) = true := by rfl) (hl : keys.length = values.length := by rfl) (h0 : keys ≠ [] := by simp) (h15 : keys.length ≤ 15 := by simp) : PE X (.Dict keys values pos) (tE G E (mC (.dct ks ds))) := PE.weak (pe_disp h hall hl h0 h15) fun σ H Q ⟨B, W, env, e, R, S, o⟩ => by
  subst e
  intro q hq
  refine tPairs_c ⟨upd_same, kvs, rfl, hl2, ?_⟩
  have e2 : upd (upd W.H q (.dK [])) q (.dK (mergeK [] kvs)) = (W.new q (.dK (mergeK [] kvs))).H := by
    funext b
    show _ = upd W.H q _ b
    rw [upd_at, upd_at, upd_at]
    by_cases hb : b = q
    · rw [if_pos hb, if_pos hb]
    · rw [if_neg hb, if_neg hb, if_neg hb]
  rw [e2]
  exact o _ (Ext.new R.len hq) (R.new hq) rfl _ (Rep.newD R hq hk (hd B W))
end
end DL

set_option maxHeartbeats 2000000
/-! DO: the operators of the text's own classes. -/
namespace DL
open PySem PySem.Spec PyProof.Rows L2
/-- the class C has the method m, a def of the text -/
structure Dun (K : PySem.W.Frag) (C : Addr) (m : Str) (f : Addr) : Prop where
  at_ : PySem.W.findIn K (.ref C) m = some (some (.ref f))
  fn : PySem.W.isFn K (.ref f) = true
  fi : PySem.W.fnIn K f = true
def dunB (c m : Str) (K : PySem.W.Frag) : Bool := He.eqO (PySem.W.findIn K (.ref (He.ga K c)) m) (some (some (.ref (He.ma K (He.ga K c) m)))) && (PySem.W.isFn K (.ref (He.ma K (He.ga K c) m)) && PySem.W.fnIn K (He.ma K (He.ga K c) m))
theorem dun_ok {K : PySem.W.Frag} {c m : Str} (h : (Fq.fn (dunB c m)).ok K = true) : Dun K (He.ga K c) m (He.ma K (He.ga K c) m) := by
  obtain ⟨h1, h⟩ := He.ba (show dunB c m K = true from h)
  obtain ⟨h2, h3⟩ := He.ba h
  exact ⟨He.eqO_ok h1, h2, h3⟩
def selfB (c : Str) (K : PySem.W.Frag) : Bool := PySem.W.selfFirst K (He.ga K c)
/-- no class of the language that is asked stands above C -/
def firstB (c : Str) (K : PySem.W.Frag) : Bool := (["NoneType", "bool", "int", "str", "tuple", "list", "dict"] : List String).all fun n => PySem.W.notFirst K (He.ga K c) (.type n)
section
variable {X : Cx} {E : ES} {k : Nat} {f C : Addr} {fd : FuncData} {ps : List Str} {sp : Sp} {pins : List (Addr × Obj)} {σ : L2.St} {H : Hp} {s : Shared} {Q : VK}
theorem gRunA {A' : Around} {us : List Value} {vs : List V} (F : FnG X.prog X.w X.K X.mg X.base k f fd ps sp) (rm : Rm k A') (e0 : Env0 X.prog X.w X.K X.mg X.base A' X.stack s H) (hb : Binds X.K fd ps []) (hx : Pss X E)
    (I : Inv X pins σ H s) (rv : Vals vs us) (h : sp vs H Q (E σ)) : wpAny (model X.prog X.w) A' (call (.ref f) us) (EP X pins σ Q) X.xe s := by
  have hl : (us ++ []).length = ps.length := by
    rw [List.append_nil]
    exact rv.length.symm.trans (F.len _ _ _ _ h)
  have r2 : Vals vs (us ++ []) := by rw [List.append_nil]; exact rv
  refine wpAny_call (codeAny_mono (F.go A' X.stack s H ⟨us, []⟩ (us ++ []) vs Q (E σ) rm e0 (hb s us I.kIn hl) r2 h) fun r s' hq => ?_)
  match r, hq with
  | .error er, hq => exact hx pins σ H s er s' I hq
  | .ok (.ret u), hq => exact I.after hq
  | .ok .next, hq => exact hq.elim
  | .ok .brk, hq => exact hq.elim
  | .ok .cont, hq => exact hq.elim
/-- o[i] by the class's own -/
theorem sub_own {value slice : Expr} {a dx : Addr} {fs : List (Str × V)} {y : V} {u : Value} (T : Dun X.K C "__getitem__" f) (F : FnG X.prog X.w X.K X.mg X.base k f fd ps sp) (rm : Rm (k + 1) X.A) (hb : Binds X.K fd ps []) (hx : Pss X E)
    (I : Inv X pins σ H s) (e : H a = some (.ins C dx fs)) (ry : RelV y u) (h : sp [.ref a, y] H Q (E σ)) (hsl : subscripted slice true (.ref a) u = runValue (.builtin "lifetime.subscript" ⟨[.ref a, u], []⟩)) :
    wpAny (model X.prog X.w) X.A (subscriptTail value slice (.ref a) u) (EP X pins σ Q) X.xe s := by
  obtain ⟨mA, J, _⟩ := ins_get I.hok e
  obtain ⟨od, J, _⟩ := J.look
  obtain ⟨m, hF⟩ := I.fr
  exact PySem.W.sub_K hF I.ok.mod.kin J T.at_ T.fi T.fn (gRunA (us := [.ref a, u]) (vs := [.ref a, y]) F rm.in1 I.env0.in1 hb hx I (.cons rfl (.cons ry .nil)) h) hsl
/-- len(o) -/
theorem len_own {a dx : Addr} {fs : List (Str × V)} (T : Dun X.K C "__len__" f) (F : FnG X.prog X.w X.K X.mg X.base k f fd ps sp) (rm : Rm (k + 1) X.A) (hb : Binds X.K fd ps []) (hx : Pss X E)
    (I : Inv X pins σ H s) (e : H a = some (.ins C dx fs)) (h : sp [.ref a] H (fun v H' => ∃ n : Int, v = .int n ∧ (0 ≤ n ∧ n < 2 ^ 62) ∧ Q v H') (E σ)) : wpAny (model X.prog X.w) X.A (call (.builtin "len") [.ref a]) (EP X pins σ Q) X.xe s := by
  obtain ⟨mA, J, _⟩ := ins_get I.hok e
  obtain ⟨od, J, _⟩ := J.look
  obtain ⟨m, hF⟩ := I.fr
  refine PySem.W.len_K hF I.ok.mod.kin J T.at_ T.fn (wpAny_mono (gRunA (us := [.ref a]) (vs := [.ref a]) F rm.in1 I.env0.in1 hb hx I (.cons rfl .nil) h) (fun r s' hq => ?_) fun _ _ z => z)
  obtain ⟨v, H', I', rv, n, rfl, hn, q⟩ := hq
  obtain ⟨t, rfl⟩ := rv
  exact ⟨⟨hn.1, by omega⟩, .int n, H', I'.tok _, ⟨_, rfl⟩, q⟩
/-- v in o -/
theorem in_own {neg : Bool} {a dx : Addr} {fs : List (Str × V)} {y : V} {u : Value} (T : Dun X.K C "__contains__" f) (F : FnG X.prog X.w X.K X.mg X.base k f fd ps sp) (rm : Rm k X.A) (hb : Binds X.K fd ps []) (hx : Pss X E)
    (I : Inv X pins σ H s) (e : H a = some (.ins C dx fs)) (ry : RelV y u) (h : sp [.ref a, y] H (fun v H' => ∃ b : Bool, v = .bl b ∧ Q (.bl (neg ^^ b)) H') (E σ)) :
    wpAny (model X.prog X.w) X.A (compareOp (if neg then .NotIn else .In) u (.ref a)) (EP X pins σ Q) X.xe s := by
  obtain ⟨mA, J, _⟩ := ins_get I.hok e
  obtain ⟨od, J, _⟩ := J.look
  obtain ⟨m, hF⟩ := I.fr
  have go := gRunA (us := [.ref a, u]) (vs := [.ref a, y]) F rm I.env0 hb hx I (.cons rfl (.cons ry .nil)) h
  cases neg with
  | false =>
    refine PySem.W.in_K hF I.ok.mod.kin J T.at_ T.fn (wpAny_mono go (fun r s' hq => ?_) fun _ _ z => z)
    obtain ⟨v, H', I', rv, b, rfl, q⟩ := hq
    cases rv
    exact wpAny_truthy_bool ⟨.bl _, H', I', rfl, by rw [Bool.false_xor] at q; exact q⟩
  | true =>
    refine PySem.W.notIn_K hF I.ok.mod.kin J T.at_ T.fn (wpAny_mono go (fun r s' hq => ?_) fun _ _ z => z)
    obtain ⟨v, H', I', rv, b, rfl, q⟩ := hq
    cases rv
    exact wpAny_truthy_bool ⟨.bl _, H', I', rfl, by rw [Bool.true_xor] at q; exact q⟩
/-- o + p, both of the class -/
theorem bin_own {op : Operator} {a b dx dy : Addr} {fs gs : List (Str × V)} (T : Dun X.K C (PySem.dunder op.info.2) f) (hs : PySem.W.selfFirst X.K C = true) (F : FnG X.prog X.w X.K X.mg X.base k f fd ps sp) (rm : Rm k X.A) (hb : Binds X.K fd ps []) (hx : Pss X E)
    (I : Inv X pins σ H s) (e : H a = some (.ins C dx fs)) (e2 : H b = some (.ins C dy gs)) (h : sp [.ref a, .ref b] H (fun v H' => (∃ z, v = .ref z) ∧ Q v H') (E σ)) :
    wpAny (model X.prog X.w) X.A (binaryOp op (.ref a) (.ref b)) (EP X pins σ Q) X.xe s := by
  obtain ⟨mA, J, _⟩ := ins_get I.hok e
  obtain ⟨od, J, _⟩ := J.look
  obtain ⟨mB, J2, _⟩ := ins_get I.hok e2
  obtain ⟨od2, J2, _⟩ := J2.look
  obtain ⟨m, hF⟩ := I.fr
  refine PySem.W.binop_K hF I.ok.mod.kin J J2.type hs T.at_ T.fn (wpAny_mono (gRunA (us := [.ref a, .ref b]) (vs := [.ref a, .ref b]) F rm I.env0 hb hx I (.cons rfl (.cons rfl .nil)) h) (fun r s' hq => ?_) fun _ _ z => z)
  obtain ⟨v, H', I', rv, ⟨z, rfl⟩, q⟩ := hq
  cases rv
  exact ⟨.ref z, H', I', rfl, q⟩
end
/-! ### as meanings -/
def dun (c : Str) (fn : Fn) (x y : D) (s : Store) : R D := match insOf s x with
  | some (c', _, _) => if c' = c then fn [x, y] s else .bad
  | none => .bad
def mSubO (c : Str) (fn : Fn) (mo mi : M D) : M D := mOp (dun c fn) mo mi
/-- both of the class; an object comes back -/
def dun2 (c : Str) (fn : Fn) (x y : D) (s : Store) : R D := match insOf s x, insOf s y with
  | some (c1, _, _), some (c2, _, _) => if c1 = c ∧ c2 = c then (fn [x, y] s).bind fun z s2 => (match z with
    | .obj c' ns vs => .ok (.obj c' ns vs) s2
    | .loc n => .ok (.loc n) s2
    | _ => .bad) else .bad
  | _, _ => .bad
def inO (neg : Bool) (c : Str) (fn : Fn) (y x : D) (s : Store) : R D := match insOf s x with
  | some (c', _, _) => if c' = c then (match fn [x, y] s with
    | .ok (.bl b) s2 => .ok (.bl (neg ^^ b)) s2
    | _ => .bad) else .bad
  | none => .bad
def fLenO (c : Str) (fn : Fn) : Fn := fun ds st => match ds with
  | [d] => (match insOf st d with
    | some (c', _, _) => if c' = c then (match fn [d] st with
      | .ok (.int n) s => if 0 ≤ n ∧ n < 1000000000 then .ok (.int n) s else .bad
      | _ => .bad) else .bad
    | none => .bad)
  | _ => .bad
section
variable {X : Cx} {G : Cn} {E : ES} {x : Str} {p pos : Pos} {a b e : Expr} {ma mb : M D} {ms : M (List D)} {fn : Fn} {k j : Nat} {f : Addr} {ps : List Str} {c : Str}
theorem insOf_rep {B : Addr → Prop} {W : Wd} {v : V} {d : D} {c' : Str} {ns : List Str} {vs : List D} (R : Rel G B W) (r : Rep G B W v d) (e : insOf W.st d = some (c', ns, vs)) : ∃ z dx fs, v = .ref z ∧ W.H z = some (.ins (G.cl c') dx fs) := by
  obtain ⟨z, dx, fs, h1, h2, _⟩ := r.ins R e
  exact ⟨z, dx, fs, h1, h2⟩
/-- o[i] -/
theorem j_subO (F : Fk X.prog X.w X.K X.mg X.base j f ps (spOf G 2 fn)) (le : j + 1 ≤ k) (rm : Rm k X.A) (T : Dun X.K (G.cl c) "__getitem__" f) (hx : Pss X E) (ha : PE X a (tE G E ma)) (hb : PE X b (tE G E mb))
    (hs : ∀ v u, subscripted b true v u = runValue (.builtin "lifetime.subscript" ⟨[v, u], []⟩) := by intro _ _; rfl) : PE X (.Subscript a b pos) (tE G E (mSubO c (ar 2 fn) ma mb)) := by
  obtain ⟨fd, F, bd, kp⟩ := F
  refine ⟨fun pins s σ H Q I h => Subscript_ (binT ha hb (R := fun xv yv H2 => ∃ z dx fs, xv = .ref z ∧ H2 z = some (.ins (G.cl c) dx fs) ∧ spOf G 2 fn [.ref z, yv] H2 Q (E σ)) I ?_ fun v u s2 xv yv H2 I2 rx ry q => ?_)⟩
  · obtain ⟨B, W, env, rfl, R, S, o⟩ := h
    refine tE_of R S o fun d W1 v x1 R1 S1 r1 o1 => tE_of R1 S1 o1 fun d2 W2 u x2 R2 S2 r2 o2 => ?_
    unfold dun at o2
    cases q : insOf W2.st d with
    | none => simp only [q] at o2; exact o2.elim
    | some t =>
      obtain ⟨c', ns, vs⟩ := t
      simp only [q] at o2
      by_cases hc : c' = c
      · subst hc
        rw [if_pos rfl] at o2
        have r1' := Rep.ext R1 x2 _ _ r1
        obtain ⟨z, dx, fs, rfl, hz⟩ := insOf_rep R2 r1' q
        exact ⟨z, dx, fs, rfl, hz, sp_ar R2 (.cons r1' (.cons r2 .nil)) o2⟩
      · rw [if_neg hc] at o2
        exact o2.elim
  · obtain ⟨z, dx, fs, rfl, hz, q⟩ := q
    cases rx
    exact sub_own T F (rm.mono le) bd hx I2 hz ry q (hs _ _)
/-- o + p -/
theorem j_binO {op : Operator} (F : Fk X.prog X.w X.K X.mg X.base j f ps (spOf G 2 fn)) (le : j ≤ k) (rm : Rm k X.A) (T : Dun X.K (G.cl c) (PySem.dunder op.info.2) f) (hsf : PySem.W.selfFirst X.K (G.cl c) = true) (hx : Pss X E) (ha : PE X a (tE G E ma)) (hb : PE X b (tE G E mb)) :
    PE X (.BinOp a op b pos) (tE G E (mOp (dun2 c (ar 2 fn)) ma mb)) := by
  obtain ⟨fd, F, bd, kp⟩ := F
  refine ⟨fun pins s σ H Q I h => wpAny_BinOp (binT ha hb (R := fun xv yv H2 => ∃ z dx fs z2 dy gs, xv = .ref z ∧ yv = .ref z2 ∧ H2 z = some (.ins (G.cl c) dx fs) ∧ H2 z2 = some (.ins (G.cl c) dy gs) ∧ spOf G 2 fn [.ref z, .ref z2] H2 (fun v H' => (∃ y, v = .ref y) ∧ Q v H') (E σ)) I ?_ fun v u s2 xv yv H2 I2 rx ry q => ?_)⟩
  · obtain ⟨B, W, env, rfl, R, S, o⟩ := h
    refine tE_of R S o fun d W1 v x1 R1 S1 r1 o1 => tE_of R1 S1 o1 fun d2 W2 u x2 R2 S2 r2 o2 => ?_
    unfold dun2 at o2
    cases q : insOf W2.st d with
    | none => simp only [q] at o2; exact o2.elim
    | some t =>
      cases q2 : insOf W2.st d2 with
      | none => simp only [q, q2] at o2; exact o2.elim
      | some t2 =>
        obtain ⟨c1, ns, vs⟩ := t
        obtain ⟨c2, ns2, vs2⟩ := t2
        simp only [q, q2] at o2
        by_cases hc : c1 = c ∧ c2 = c
        · obtain ⟨hc1, hc2⟩ := hc
          subst hc1
          subst hc2
          rw [if_pos ⟨rfl, rfl⟩] at o2
          have r1' := Rep.ext R1 x2 _ _ r1
          obtain ⟨z, dx, fs, rfl, hz⟩ := insOf_rep R2 r1' q
          obtain ⟨z2, dy, gs, rfl, hz2⟩ := insOf_rep R2 r2 q2
          refine ⟨z, dx, fs, z2, dy, gs, rfl, rfl, hz, hz2, sp_ar R2 (.cons r1' (.cons r2 .nil)) (o2.bind.imp fun y W3 x3 R3 o3 v rv => ?_)⟩
          cases y with
          | obj c' ns' vs' =>
            cases rv with
            | obj h1 h2 h3 h4 => exact ⟨⟨_, rfl⟩, o3.ret R3 _ (.obj h1 h2 h3 h4)⟩
          | loc n =>
            cases rv with
            | loc h1 => exact ⟨⟨_, rfl⟩, o3.ret R3 _ (.loc h1)⟩
          | _ => exact o3.elim
        · rw [if_neg hc] at o2
          exact o2.elim
  · obtain ⟨z, dx, fs, z2, dy, gs, rfl, rfl, hz, hz2, q⟩ := q
    cases rx
    cases ry
    exact bin_own T hsf F (rm.mono le) bd hx I2 hz hz2 q
/-- v in o -/
def rInO (G : Cn) (c : Str) (fn : Fn) (neg : Bool) : R2 := fun yv xv H Q => ∃ z dx fs, xv = .ref z ∧ H z = some (.ins (G.cl c) dx fs) ∧ spOf G 2 fn [.ref z, yv] H (fun v H' => ∃ b : Bool, v = .bl b ∧ Q (.bl (neg ^^ b)) H') (fun _ _ _ => False)
theorem op_inO {neg : Bool} (F : Fk X.prog X.w X.K X.mg X.base j f ps (spOf G 2 fn)) (le : j ≤ k) (rm : Rm k X.A) (T : Dun X.K (G.cl c) "__contains__" f) : OpR X (compareOp (if neg then .NotIn else .In)) (rInO G c fn neg) := by
  obtain ⟨fd, F, bd, kp⟩ := F
  intro pins s σ H y xv u v Q I ry rx h
  obtain ⟨z, dx, fs, rfl, hz, q⟩ := h
  cases rx
  exact in_own (E := fun _ _ _ _ => False) T F (rm.mono le) bd (fun _ _ _ _ _ _ _ h => by obtain ⟨_, _, _, _, _, _, _, _, _, _, _, _, z⟩ := h; exact z.elim) I hz ry q
theorem os_inO {neg : Bool} : OpS G (rInO G c fn neg) (inO neg c (ar 2 fn)) := by
  intro B W E y x u v Q R ry rx o
  unfold inO at o
  cases q : insOf W.st x with
  | none => simp only [q] at o; exact o.elim
  | some t =>
    obtain ⟨c', ns, vs⟩ := t
    simp only [q] at o
    by_cases hc : c' = c
    · subst hc
      rw [if_pos rfl] at o
      obtain ⟨z, dx, fs, rfl, hz⟩ := insOf_rep R rx q
      refine ⟨z, dx, fs, rfl, hz, sp_ar R (.cons rx (.cons ry .nil)) ?_⟩
      cases w : ar 2 fn [x, y] W.st with
      | bad => simp only [w] at o; exact o.elim
      | exc ee s2 => simp only [w] at o; exact o.elim
      | ok d s2 =>
        cases d with
        | bl b =>
          simp only [w] at o
          exact fun W2 x2 R2 es vv rv => by
            cases rv
            exact ⟨b, rfl, o W2 x2 R2 es _ (.bl _)⟩
        | _ => simp only [w] at o; exact o.elim
    · rw [if_neg hc] at o
      exact o.elim
theorem j_inO (F : Fk X.prog X.w X.K X.mg X.base j f ps (spOf G 2 fn)) (le : j ≤ k) (rm : Rm k X.A) (T : Dun X.K (G.cl c) "__contains__" f) (ha : PE X a (tE G E ma)) (hb : PE X b (tE G E mb)) (hm : behindInMarks .In b = false := by rfl) : PE X (.Compare a [.In] [b] pos) (tE G E (mOp (inO false c (ar 2 fn)) ma mb)) := je_cmp (op_inO (neg := false) F le rm T) os_inO ha hb hm
theorem j_notInO (F : Fk X.prog X.w X.K X.mg X.base j f ps (spOf G 2 fn)) (le : j ≤ k) (rm : Rm k X.A) (T : Dun X.K (G.cl c) "__contains__" f) (ha : PE X a (tE G E ma)) (hb : PE X b (tE G E mb)) (hm : behindInMarks .NotIn b = false := by rfl) : PE X (.Compare a [.NotIn] [b] pos) (tE G E (mOp (inO true c (ar 2 fn)) ma mb)) := je_cmp (op_inO (neg := true) F le rm T) os_inO ha hb hm
theorem jt_inO (F : Fk X.prog X.w X.K X.mg X.base j f ps (spOf G 2 fn)) (le : j ≤ k) (rm : Rm k X.A) (T : Dun X.K (G.cl c) "__contains__" f) (ha : PE X a (tE G E ma)) (hb : PE X b (tE G E mb)) (hm : behindInMarks .In b = false := by rfl) : PT X (.Compare a [.In] [b] pos) (tT G E (mTest (mOp (inO false c (ar 2 fn)) ma mb))) := jt_cmp (op_inO (neg := false) F le rm T) os_inO ha hb hm
theorem jt_notInO (F : Fk X.prog X.w X.K X.mg X.base j f ps (spOf G 2 fn)) (le : j ≤ k) (rm : Rm k X.A) (T : Dun X.K (G.cl c) "__contains__" f) (ha : PE X a (tE G E ma)) (hb : PE X b (tE G E mb)) (hm : behindInMarks .NotIn b = false := by rfl) : PT X (.Compare a [.NotIn] [b] pos) (tT G E (mTest (mOp (inO true c (ar 2 fn)) ma mb))) := jt_cmp (op_inO (neg := true) F le rm T) os_inO ha hb hm
/-- len(o) -/
def rLenO (G : Cn) (c : Str) (fn : Fn) : List V → Hp → VK → Prop := fun vs H Q => ∃ z dx fs, vs = [.ref z] ∧ H z = some (.ins (G.cl c) dx fs) ∧ spOf G 1 fn [.ref z] H (fun v H' => ∃ n : Int, v = .int n ∧ (0 ≤ n ∧ n < 2 ^ 62) ∧ Q v H') (fun _ _ _ => False)
theorem call_lenO (F : Fk X.prog X.w X.K X.mg X.base j f ps (spOf G 1 fn)) (le : j + 1 ≤ k) (rm : Rm k X.A) (T : Dun X.K (G.cl c) "__len__" f) : CallR X (.builtin "len") (rLenO G c fn) := by
  obtain ⟨fd, F, bd, kp⟩ := F
  intro pins s σ H vs us Q I rv h
  obtain ⟨z, dx, fs, rfl, hz, q⟩ := h
  obtain ⟨u, rfl, ru⟩ := vals1 rv
  obtain rfl : u = Value.ref z := ru
  exact len_own (E := fun _ _ _ _ => False) T F (rm.mono le) bd (fun _ _ _ _ _ _ _ h => by obtain ⟨_, _, _, _, _, _, _, _, _, _, _, _, z⟩ := h; exact z.elim) I hz q
theorem cs_lenO : CallS G (rLenO G c fn) (fLenO c (ar 1 fn)) := by
  intro B W E ds vs Q R rv o
  match ds, rv, o with
  | [d], .cons r .nil, o =>
    unfold fLenO at o
    cases q : insOf W.st d with
    | none => simp only [q] at o; exact o.elim
    | some t =>
      obtain ⟨c', ns, ws⟩ := t
      simp only [q] at o
      by_cases hc : c' = c
      · subst hc
        rw [if_pos rfl] at o
        obtain ⟨z, dx, fs, rfl, hz⟩ := insOf_rep R r q
        refine ⟨z, dx, fs, rfl, hz, sp_ar R (.cons r .nil) ?_⟩
        cases w : ar 1 fn [d] W.st with
        | bad => simp only [w] at o; exact o.elim
        | exc ee s2 => simp only [w] at o; exact o.elim
        | ok d s2 =>
          cases d with
          | int n =>
            simp only [w] at o
            by_cases hn : 0 ≤ n ∧ n < 1000000000
            · rw [if_pos hn] at o
              exact fun W2 x2 R2 es vv rv => by
                cases rv
                exact ⟨n, rfl, ⟨hn.1, by omega⟩, o W2 x2 R2 es _ (.int _)⟩
            · rw [if_neg hn] at o
              exact o.elim
          | _ => simp only [w] at o; exact o.elim
      · rw [if_neg hc] at o
        exact o.elim
theorem jb_lenO (F : Fk X.prog X.w X.K X.mg X.base j f ps (spOf G 1 fn)) (le : j + 1 ≤ k) (rm : Rm k X.A) (T : Dun X.K (G.cl c) "__len__" f) (ha : PA X [e] (tA G E ms)) (hm : X.mg "len" = none) (hg : Gl X "len" := by rfl)
    (he : starEach [e] X.env = (false, eval e X.env) :: starEach [] X.env := by rfl) (hpl : (backTo pos (starEach [] X.env)).any (·.1) = false := by rfl) : PE X (.Call (.Name "len" p) [e] [] pos) (tE G E (mCall (fLenO c (ar 1 fn)) ms)) :=
  je_callB (call_lenO F le rm T) cs_lenO hg hm boot_len ha (by decide) (by decide) he hpl
/-- o == p, both of the class -/
def eqO (c : Str) (fn : Fn) (x y : D) (s : Store) : R D := match insOf s x, insOf s y with
  | some (c1, _, _), some (c2, _, _) => if c1 = c ∧ c2 = c then (match fn [x, y] s with
    | .ok (.bl b) s2 => .ok (.bl b) s2
    | _ => .bad) else .bad
  | _, _ => .bad
def rEqO (G : Cn) (c : Str) (fn : Fn) : R2 := fun xv yv H Q => ∃ z dx fs z2 dy gs, xv = .ref z ∧ yv = .ref z2 ∧ H z = some (.ins (G.cl c) dx fs) ∧ H z2 = some (.ins (G.cl c) dy gs) ∧ spOf G 2 fn [.ref z, .ref z2] H (fun v H' => ∃ b : Bool, v = .bl b ∧ Q (.bl b) H') (fun _ _ _ => False)
theorem op_eqO (F : Fk X.prog X.w X.K X.mg X.base j f ps (spOf G 2 fn)) (le : j ≤ k) (rm : Rm k X.A) (hu : X.A.units + 64 < cLine) (T : Dun X.K (G.cl c) "__eq__" f) : OpR X (compareOp .Eq) (rEqO G c fn) := by
  obtain ⟨fd, F, bd, kp⟩ := F
  intro pins s σ H xv yv u v Q I rx ry h
  obtain ⟨z, dx, fs, z2, dy, gs, rfl, rfl, hz, hz2, q⟩ := h
  cases rx
  cases ry
  obtain ⟨mA, J, _⟩ := ins_get I.hok hz
  obtain ⟨od, J, _⟩ := J.look
  obtain ⟨mB, J2, _⟩ := ins_get I.hok hz2
  obtain ⟨od2, J2, _⟩ := J2.look
  obtain ⟨m, hF⟩ := I.fr
  have go := gRunA (E := fun _ _ _ _ => False) (us := [.ref z, .ref z2]) (vs := [.ref z, .ref z2]) F (rm.mono le) I.env0 bd (fun _ _ _ _ _ _ _ h => by obtain ⟨_, _, _, _, _, _, _, _, _, _, _, _, z⟩ := h; exact z.elim) I (.cons rfl (.cons rfl .nil)) q
  refine PySem.W.cmp_K (op := .Eq) (tb := .ref (G.cl c)) (by omega) hF I.ok.mod.kin J J2.type (by simp [PySem.W.notFirst]) T.at_ T.fn (wpAny_mono go (fun r s' hq => ?_) fun _ _ z => z)
  obtain ⟨v, H', I', rv, b, rfl, q⟩ := hq
  cases rv
  exact ⟨.bl b, H', I', rfl, q⟩
theorem os_eqO : OpS G (rEqO G c fn) (eqO c (ar 2 fn)) := by
  intro B W E x y u v Q R rx ry o
  unfold eqO at o
  cases q : insOf W.st x with
  | none => simp only [q] at o; exact o.elim
  | some t =>
    cases q2 : insOf W.st y with
    | none => simp only [q, q2] at o; exact o.elim
    | some t2 =>
      obtain ⟨c1, ns, vs⟩ := t
      obtain ⟨c2, ns2, vs2⟩ := t2
      simp only [q, q2] at o
      by_cases hc : c1 = c ∧ c2 = c
      · obtain ⟨hc1, hc2⟩ := hc
        subst hc1
        subst hc2
        rw [if_pos ⟨rfl, rfl⟩] at o
        obtain ⟨z, dx, fs, rfl, hz⟩ := insOf_rep R rx q
        obtain ⟨z2, dy, gs, rfl, hz2⟩ := insOf_rep R ry q2
        refine ⟨z, dx, fs, z2, dy, gs, rfl, rfl, hz, hz2, sp_ar R (.cons rx (.cons ry .nil)) ?_⟩
        cases w : ar 2 fn [x, y] W.st with
        | bad => simp only [w] at o; exact o.elim
        | exc ee s2 => simp only [w] at o; exact o.elim
        | ok d s2 =>
          cases d with
          | bl b =>
            simp only [w] at o
            exact fun W2 x2 R2 es vv rv => by
              cases rv
              exact ⟨b, rfl, o W2 x2 R2 es _ (.bl _)⟩
          | _ => simp only [w] at o; exact o.elim
      · rw [if_neg hc] at o
        exact o.elim
theorem j_eqO (F : Fk X.prog X.w X.K X.mg X.base j f ps (spOf G 2 fn)) (le : j ≤ k) (rm : Rm k X.A) (T : Dun X.K (G.cl c) "__eq__" f) (ha : PE X a (tE G E ma)) (hb : PE X b (tE G E mb)) : PE X (.Compare a [.Eq] [b] pos) (tE G E (mOp (eqO c (ar 2 fn)) ma mb)) := je_cmp (op_eqO F le rm rm.units T) os_eqO ha hb (nomark _)
theorem jt_eqO (F : Fk X.prog X.w X.K X.mg X.base j f ps (spOf G 2 fn)) (le : j ≤ k) (rm : Rm k X.A) (T : Dun X.K (G.cl c) "__eq__" f) (ha : PE X a (tE G E ma)) (hb : PE X b (tE G E mb)) : PT X (.Compare a [.Eq] [b] pos) (tT G E (mTest (mOp (eqO c (ar 2 fn)) ma mb))) := jt_cmp (op_eqO F le rm rm.units T) os_eqO ha hb (nomark _)
end
/-! ### x is True, x is False, x is None -/
def opIs (x y : D) (st : Store) : R D := match y with
  | .non => .ok (.bl (match x with
    | .non => true
    | _ => false)) st
  | .bl b => .ok (.bl (match x with
    | .bl a => a == b
    | _ => false)) st
  | _ => .bad
theorem op_isB {X : Cx} : OpR X (compareOp .Is) (fun x y H Q => ∃ b, y = .bl b ∧ Q (.bl (decide (x = .bl b))) H) := by
  intro pins s σ H x y v u Q I rx ry h
  obtain ⟨b, rfl, q⟩ := h
  cases ry
  cases x with
  | bl a =>
    cases rx
    by_cases e : a = b
    · subst e
      exact wpAny_is_self rfl ⟨.bl true, H, I, rfl, by simpa using q⟩
    · exact wpAny_is_other rfl (fun z => e (Value.bool.inj z)) ⟨.bl false, H, I, rfl, by simpa [e] using q⟩
  | _ => first
    | (cases rx; exact wpAny_is_other rfl (fun z => by cases z) ⟨.bl false, H, I, rfl, by simpa using q⟩)
    | (obtain ⟨t, rfl⟩ := rx; exact wpAny_is_other rfl (fun z => by cases z) ⟨.bl false, H, I, rfl, by simpa using q⟩)
theorem os_isB {G : Cn} : OpS G (fun x y H Q => ∃ b, y = .bl b ∧ Q (.bl (decide (x = .bl b))) H) (fun x y st => match y with
  | .bl b => opIs x (.bl b) st
  | _ => .bad) := by
  intro B W E x y v u Q R rx ry o
  cases y with
  | bl b =>
    cases ry
    refine ⟨b, rfl, ?_⟩
    cases x with
    | bl a =>
      cases rx
      have e : (decide (V.bl a = V.bl b)) = (a == b) := by
        rw [Bool.eq_iff_iff, decide_eq_true_eq, beq_iff_eq]
        exact ⟨fun h => by injection h, fun h => by rw [h]⟩
      rw [e]
      exact o.ret R _ (.bl _)
    | _ => cases rx <;> exact o.ret R _ (.bl _)
  | _ => exact o.elim
def opIsB (x y : D) (st : Store) : R D := match y with
  | .bl b => opIs x (.bl b) st
  | _ => .bad
section
variable {X : Cx} {G : Cn} {E : ES} {a b : Expr} {ma mb : M D} {pos : Pos}
theorem j_isB (ha : PE X a (tE G E ma)) (hb : PE X b (tE G E mb)) : PE X (.Compare a [.Is] [b] pos) (tE G E (mOp opIsB ma mb)) := je_cmp op_isB os_isB ha hb (nomark _)
theorem jt_isB (ha : PE X a (tE G E ma)) (hb : PE X b (tE G E mb)) : PT X (.Compare a [.Is] [b] pos) (tT G E (mTest (mOp opIsB ma mb))) := jt_cmp op_isB os_isB ha hb (nomark _)
end
/-! ### new lists that will change: xs[a:b], xs + ys -/
def mSlC (mo : M D) (lo hi : Option (M D)) : M D := fun env st => (mo env st).bind fun d s => (mPart lo env s).bind fun l s2 => (mPart hi env s2).bind fun u s3 => match asL s3 d with
  | some xs => .ok (.loc s3.length) (s3 ++ [Cell.lst (cutD xs l u)])
  | none => .bad
def opAddC (x y : D) (st : Store) : R D := match asO st x, asO st y with
  | some xs, some ys => if xs.length + ys.length ≤ sizeLine then .ok (.loc st.length) (st ++ [Cell.lst (xs ++ ys)]) else .bad
  | _, _ => .bad
section
variable {X : Cx} {G : Cn} {E : ES} {e a b : Expr} {m ma mb : M D} {pos : Pos}
theorem Out.cellN {B : Addr → Prop} {W : Wd} {E : XK} {Q : VK} {ds : List D} {vs : List V} (o : Out G B W E (.ok (.loc W.st.length) (W.st ++ [Cell.lst ds])) fun d W' => ∀ v, Rep G B W' v d → Q v W'.H) (R : Rel G B W) {p : Addr} (hp : W.H p = none) (t : Reps G B W vs ds) : Q (.ref p) (upd W.H p (.lst vs)) :=
  o (W.grow p (.lst ds) (.lst vs)) (Ext.grow R.len hp) (R.growL hp t) rfl _ (.grown R.len)
theorem je_slC {lo hi : Option Expr} {ml mh : Option (M D)} {p2 pos : Pos} (hK : G.K = X.K) (he : PE X e (tE G E m)) (hl : PO X lo (tO G E (mPart ml))) (hu : PO X hi (tO G E (mPart mh))) : PE X (.Subscript e (.Slice lo hi none p2) pos) (tE G E (mSlC m ml mh)) := by
  refine PE.weak (pe_slice (r := rSlL X.K) sl_list he hl hu) fun σ H Q ⟨B, W, env, e, R, S, o⟩ => ?_
  subst e
  refine tE_of R S o fun d W1 v x1 R1 S1 r1 o1 => ?_
  refine ⟨B, W1, env, rfl, R1, S1, o1.bind.imp fun l W2 x2 R2 o2 => ?_⟩
  refine ⟨B, W2, env, rfl, R2, S1.ext R1 x2, o2.bind.imp fun u W3 x3 R3 o3 => ?_⟩
  have r3 := Rep.ext R2 x3 _ _ (Rep.ext R1 x2 _ _ r1)
  rw [← hK]
  cases q : asL W3.st d with
  | none => rw [q] at o3; exact o3.elim
  | some xs =>
    rw [q] at o3
    obtain ⟨z, us, rfl, h1, t⟩ := r3.asL R3 q
    exact ⟨z, us, rfl, h1, fun p hp => Out.cellN o3 R3 hp (cut_reps t)⟩
theorem os_addC : OpS G rCat opAddC := by
  intro B W E x y v u Q R rx ry o
  unfold opAddC at o
  cases e1 : asO W.st x with
  | none => rw [e1] at o; exact o.elim
  | some xs =>
    cases e2 : asO W.st y with
    | none => rw [e1, e2] at o; exact o.elim
    | some ys =>
      rw [e1, e2] at o
      obtain ⟨z, vs, rfl, h1, t1⟩ := rx.asO R e1
      obtain ⟨w, us, rfl, h2, t2⟩ := ry.asO R e2
      by_cases c : xs.length + ys.length ≤ sizeLine
      · simp only [if_pos c] at o
        exact ⟨z, w, vs, us, rfl, rfl, h1, h2, by rw [t1.length, t2.length]; exact c, fun p hp => Out.cellN o R hp (t1.append t2)⟩
      · simp only [if_neg c] at o
        exact o.elim
theorem j_addC (ha : PE X a (tE G E ma)) (hb : PE X b (tE G E mb)) : PE X (.BinOp a .Add b pos) (tE G E (mOp opAddC ma mb)) := je_op op_cat os_addC ha hb
end
end DL

set_option maxHeartbeats 2000000
/-! DA: sorted of lists of data: all alike, or told apart by their first items. -/
namespace DL
open PySem PySem.Spec PyProof.Rows L2 PySem.W PySem.SeqAt

/-- the two can be ordered: alike, or tuples whose first items are alike; the rest is one if these are equal -/
def Fit (d d' : PyData) : Prop := alike d d' = true ∨ ∃ x r x' r', d = .tuple (x :: r) ∧ d' = .tuple (x' :: r') ∧ alike x x' = true ∧ (PyData.eqv x x' = true → r = r')
section
variable {prog : Program} {w : World} {A : Around} {E : Value → Shared → Prop} {s : Shared}
theorem katLex_same {b fin : Bool} {Q : Bool → Shared → Prop} : ∀ (xs : List PyData) (i : Nat) (vs ws : List Value) (as bs : List Addr), ReadsAll s.heap vs xs as → ReadsAll s.heap ws xs bs → PyData.plainAll xs = true → A.units + PyData.depthAll xs < cLine → Q fin s → KatLex prog w A b fin Q (vs.zip ws) i s
  | [], _, _, _, _, _, ra, rb, _, _, hq => by
    cases ra
    cases rb
    exact kat_nil hq
  | x :: xs, i, _, _, _, _, ra, rb, hp, hu, hq => by
    have hp' : x.plain = true ∧ PyData.plainAll xs = true := by simpa [PyData.plainAll] using hp
    have hu2 : PyData.depthAll (x :: xs) = max x.depth (PyData.depthAll xs) := by rw [PyData.depthAll]
    rw [hu2] at hu
    cases ra with
    | cons r rs =>
      cases rb with
      | cons r' rs' =>
        rw [List.zip_cons_cons]
        refine kat_cons (eqAt_plain x x A s _ _ _ _ r r' hp'.1 hp'.1 (by omega) prog w _ _ ?_)
        rw [eqv_refl_plain x hp'.1]
        exact kat_yes (katLex_same xs (i + 1) _ _ _ _ rs rs' hp'.2 (by omega) hq)
theorem katLex_fit {b fin : Bool} {Q : Bool → Shared → Prop} (x y : PyData) (xs ys : List PyData) (vs ws : List Value) (as bs : List Addr) (ra : ReadsAll s.heap vs (x :: xs) as) (rb : ReadsAll s.heap ws (y :: ys) bs) (h : alike x y = true) (he : PyData.eqv x y = true → xs = ys) (hp : PyData.plainAll xs = true)
    (hu : A.units + max (PyData.depthAll (x :: xs)) (PyData.depthAll (y :: ys)) < cLine) (hb : b = true → ∀ t, x ≠ .tuple t) (hf : fin = decide ((x :: xs).length < (y :: ys).length)) (hq : Q (PyProof.Rows.lexLt itemOrd (keyToksAll (x :: xs)) (keyToksAll (y :: ys))) s) : KatLex prog w A b fin Q (vs.zip ws) 0 s := by
  have u1 : PyData.depthAll (x :: xs) = max x.depth (PyData.depthAll xs) := by rw [PyData.depthAll]
  have u2 : PyData.depthAll (y :: ys) = max y.depth (PyData.depthAll ys) := by rw [PyData.depthAll]
  rw [u1, u2] at hu
  cases ra with
  | cons r rs =>
    cases rb with
    | cons r' rs' =>
      rw [List.zip_cons_cons]
      refine kat_cons (eqAt_alike x y A s _ _ _ _ r r' h (by omega) prog w _ _ ?_)
      cases hx : PyData.eqv x y with
      | true =>
        have e := he hx
        subst e
        rw [dataLt_all_yes h hx, lex_irrefl] at hq
        have e2 : fin = false := by rw [hf]; exact decide_eq_false (by simp)
        subst e2
        exact kat_yes (katLex_same xs 1 _ _ _ _ rs rs' hp (by omega) hq)
      | false =>
        rw [dataLt_all_no h hx] at hq
        refine kat_no (oneLt_alike (fun hbi t => ?_) r r' h (ne_none_of h hx) (by omega) hq)
        rw [Bool.and_eq_true] at hbi
        exact hb hbi.1 t
theorem fit_head {x x' : PyData} {r r' : List PyData} (h : Fit (.tuple (x :: r)) (.tuple (x' :: r'))) : alike x x' = true := by
  rcases h with h | ⟨y, q, y', q', e1, e2, h, _⟩
  · exact (alike_all_cons (by simpa [alike] using h)).1
  · cases e1; cases e2; exact h
theorem kindP {h : Heap} {ds : List PyData} (hp : ∀ d ∈ ds, d.plain = true) {v : Value} {d : PyData} {as : List Addr} (hd : d ∈ ds) (r : Reads h v d as) : (dataKind h ds).keyOf v = some (keyToks d) := by
  have q : ∃ d, d ∈ ds ∧ ∃ as, Reads h v d as := ⟨d, hd, as, r⟩
  have e : (dataKind h ds).keyOf v = some (keyToks q.choose) := by
    show (open Classical in if q : ∃ d, d ∈ ds ∧ ∃ as, Reads h v d as then some (keyToks q.choose) else none) = _
    rw [dif_pos q]
  obtain ⟨h1, as', h2⟩ := q.choose_spec
  rw [e, plain_unique _ _ _ _ _ (hp _ h1) h2 r]
theorem SortsFit {vs : List Value} {ds : List PyData} (e : EachIs (fun v d => ∃ as, Reads s.heap v d as) vs ds) (hp : ∀ d ∈ ds, d.plain = true) (hfit : ∀ d ∈ ds, ∀ d' ∈ ds, Fit d d') (hk : Sortable ds) (hu : ∀ d, d ∈ ds → A.units + d.depth < cLine) : SortsAt prog w A s (dataKind s.heap ds) vs := by
  by_cases ht : ∀ d, d ∈ ds → ∃ x r, d = .tuple (x :: r)
  · refine ⟨fun v hv => ?_, ?_⟩
    · obtain ⟨d, hd, as, r⟩ := e.left v hv
      exact ⟨_, kindP hp hd r⟩
    · cases ds with
      | nil =>
        cases e
        exact ⟨general', fun E x y a b Q ha _ _ => (by
          obtain ⟨d, _, hd, _⟩ := dataKind_inv ha
          exact absurd hd (by simp)), fun h2 => absurd h2 (by simp)⟩
      | cons d₀ ds₀ =>
        obtain ⟨x₀, r₀, e₀⟩ := ht d₀ (List.mem_cons_self ..)
        have hfirst : ∀ x r, PyData.tuple (x :: r) ∈ d₀ :: ds₀ → alike x x₀ = true := by
          intro x r hm
          have q := hfit _ hm d₀ (List.mem_cons_self ..)
          rw [e₀] at q
          exact fit_head q
        refine ⟨tuples' (dataType x₀ != Value.type "tuple"), ?_, fun h2 E Q hq => ?_⟩
        · intro E x y a b Q ha hb hq
          obtain ⟨d, as, hd, ra, rfl⟩ := dataKind_inv ha
          obtain ⟨d', as', hd', rb, rfl⟩ := dataKind_inv hb
          have hdd := hfit d hd d' hd'
          have u1 := hu d hd
          have u2 := hu d' hd'
          obtain ⟨x1, r1, rfl⟩ := ht d hd
          obtain ⟨x2, r2, rfl⟩ := ht d' hd'
          have hq' : Q (dataLt (.tuple (x1 :: r1)) (.tuple (x2 :: r2))) s := hq
          rw [dataLt_tuple] at hq'
          have d1 : (PyData.tuple (x1 :: r1)).depth = PyData.depthAll (x1 :: r1) + 1 := by rw [PyData.depth]
          have d2 : (PyData.tuple (x2 :: r2)).depth = PyData.depthAll (x2 :: r2) + 1 := by rw [PyData.depth]
          have hbt : ((dataType x₀ != Value.type "tuple") = true) → ∀ t, x1 ≠ .tuple t := fun hb t => by
            have q := dataType_alike (hfirst _ _ hd)
            rw [← q] at hb
            exact dataType_tuple hb t
          cases ra with
          | @tuple l o xs n _ _ h1 h2 h3 h4 =>
            cases rb with
            | @tuple l' o' xs' n' _ _ k1 k2 k3 k4 =>
              have n1 : xs.size = (x1 :: r1).length := by simpa using SeqAt.ReadsAll.length _ _ _ h4
              have n2 : xs'.size = (x2 :: r2).length := by simpa using SeqAt.ReadsAll.length _ _ _ k4
              rcases hdd with hdd | ⟨y, q, y', q', e1, e2, hal, heq⟩
              · refine kat_lt h1 h3 k1 k3 (katLex_alike (x1 :: r1) (x2 :: r2) 0 _ _ _ _ h4 k4 (by simpa [alike] using hdd) (by omega) (fun hb _ x r t ex => ?_) (by rw [n1, n2]) hq')
                obtain ⟨rfl, rfl⟩ := List.cons.inj ex
                exact hbt hb t
              · cases e1
                cases e2
                have pl : PyData.plainAll r1 = true := by
                  have := hp _ hd
                  simp only [PyData.plain, PyData.plainAll, Bool.and_eq_true] at this
                  exact this.2
                exact kat_lt h1 h3 k1 k3 (katLex_fit x1 x2 r1 r2 _ _ _ _ h4 k4 hal heq pl (by omega) hbt (by rw [n1, n2]) hq')
        · obtain ⟨fs, t1, t2, t3⟩ := each_katTups e ht
          refine kat_kind (T := dataType x₀) t1 (by omega) (fun f hf => ?_) (beq_self_eq_true _) hq
          obtain ⟨x, r, as, m1, m2⟩ := t3 f hf
          rw [← dataType_alike (hfirst x r m1)]
          exact looks_reads m2
  · refine SortsAt.data e (fun d hd d' hd' => ?_) hk hu
    rcases hfit d hd d' hd' with h | ⟨x, r, x', r', rfl, rfl, _⟩
    · exact h
    · rcases hk with hk | hk
      · exact absurd hk ht
      · exact absurd rfl ((hk _ hd).2 _)
section
variable {β : Type} {vs : List Value} {bs : List β} {enc : β → PyData} {R : Value → β → Prop}
theorem sorted_fit {l : Addr} {Q : Value → Shared → Prop} (hl : s.heap.IsList l vs.toArray) (e : EachIs R vs bs) (er : EachIs (fun v b => ∃ as, Reads s.heap v (enc b) as) vs bs) (hp : ∀ d ∈ bs.map enc, d.plain = true) (hfit : ∀ d ∈ bs.map enc, ∀ d' ∈ bs.map enc, Fit d d') (hk : Sortable (bs.map enc)) (hL : bs.length ≤ sizeLine)
    (hu : ∀ b, b ∈ bs → A.units + 2 + (enc b).depth < cLine) (h : ∀ out, out.length = bs.length → EachIs R out (bs.mergeSort (dataLe false enc)) → Q (.ref (s.heap.objs.size + 1)) { s with heap := sortedAll s.heap vs (List.toArray out) }) :
    wpAny (model prog w) A (call (.builtin "sorted") [.ref l]) Q E s := by
  have er' : EachIs (fun v b => ∃ as, Reads (sortingHeap (copyHeap s.heap vs) (s.heap.objs.size + 1) vs) v (enc b) as) vs bs := er.mono fun _ _ ⟨as, r⟩ => ⟨as, PyProof.Rows.Reads.keeps (fun _ _ => sorting_copy_old) r⟩
  have keys : ∀ {vs : List Value} {ds : List PyData} {h : Heap}, (∀ d ∈ ds, d.plain = true) → EachIs (fun v d => ∃ as, Reads h v d as) vs ds → EachIs (fun v d => (dataKind h ds).keyOf v = some (keyToks d)) vs ds := fun hp e => (each_mem e).mono fun v d ⟨⟨as, r⟩, hd⟩ => kindP hp hd r
  refine sorted_vals hl (SortsFit (s := { s with heap := sortingHeap (copyHeap s.heap vs) (s.heap.objs.size + 1) vs }) (each_map (R := fun v d => ∃ as, Reads (sortingHeap (copyHeap s.heap vs) (s.heap.objs.size + 1) vs) v d as) enc er') hp hfit hk (bound_map hu)) (by rw [e.length]; exact hL) ?_
  exact h _ (by rw [sortVals_length false rfl]; exact e.length) (sortVals_each (κ := dataKind _ (bs.map enc)) (fun b => keyToks (enc b)) e (each_of_map enc (keys hp (each_map (R := fun v d => ∃ as, Reads _ v d as) enc er'))))
end
end
/-! ### over trees -/
/-- as data -/
def D.dat (d : D) : PyData := d.pyd.getD .none
def leD (x y : D) : Bool := dataLe false D.dat x y
structure SortOk (xs : List D) : Prop where
  data : ∀ x ∈ xs, ∃ p, x.pyd = some p ∧ p.plain = true ∧ p.depth ≤ 40
  fit : ∀ x ∈ xs, ∀ y ∈ xs, Fit x.dat y.dat
  kind : (∀ x ∈ xs, ∃ y r, x.dat = .tuple (y :: r)) ∨ ∀ x ∈ xs, x.dat ≠ .none ∧ ∀ ys, x.dat ≠ .tuple ys
open Classical in
noncomputable def fSorted : Fn := fun ds st => match ds with
  | [d] => (match asL st d with
    | some xs => if SortOk xs then .ok (.lst (xs.mergeSort leD)) st else .bad
    | none => .bad)
  | _ => .bad
theorem sort_vals {G : Cn} {B : Addr → Prop} {W : Wd} {le : D → D → Bool} : ∀ {us : List Value} {ds : List D}, EachIs (fun u d => ∃ v, RelV v u ∧ Rep G B W v d) us ds → ∃ vs, Vals vs us ∧ Reps G B W vs ds
  | _, _, .nil => ⟨[], .nil, .nil⟩
  | _, _, .cons ⟨v, h1, h2⟩ t => by
    obtain ⟨vs, h3, h4⟩ := sort_vals (le := le) t
    exact ⟨v :: vs, .cons h1 h3, .cons h2 h4⟩
theorem each_of {G : Cn} {B : Addr → Prop} {W : Wd} : ∀ {vs : List V} {us : List Value} {ds : List D}, Vals vs us → Reps G B W vs ds → EachIs (fun u d => ∃ v, RelV v u ∧ Rep G B W v d) us ds
  | _, _, _, .nil, .nil => .nil
  | _, _, _, .cons h t, .cons h2 t2 => .cons ⟨_, h, h2⟩ (each_of t t2)
def rSorted (G : Cn) : List V → Hp → VK → Prop := fun vs H Q => ∃ B W d v xs, W.H = H ∧ vs = [v] ∧ Rel G B W ∧ Rep G B W v d ∧ asL W.st d = some xs ∧ SortOk xs ∧ ∀ p us, H p = none → Reps G B W us (xs.mergeSort leD) → Q (.ref p) (upd H p (.lst us))
theorem call_sortedD {X : Cx} {G : Cn} {k : Nat} (hK : G.K = X.K) (rm : Rm k X.A) (hS : SysD X.K) : CallR X (.builtin "sorted") (rSorted G) := by
  rintro pins s σ H vs us Q I r ⟨B, W, d, v, xs, rfl, rfl, R, h, e, ok, q⟩
  cases r with
  | cons r1 r2 =>
    cases r2
    obtain ⟨a, vs, rfl, hl, rv⟩ := Rep.asL R h e
    cases r1
    rw [hK] at hl
    obtain ⟨its, rv1, hL, hlen⟩ := I.list hl
    have hu := rm.units
    have ei := each_of rv1 rv
    have lx : xs.length = its.length := ei.length.symm
    have er : EachIs (fun u b => ∃ as, Reads s.heap u (D.dat b) as) its xs := by
      refine (each_mem ei).mono fun u b ⟨⟨v, h1, h2⟩, hb⟩ => ?_
      obtain ⟨p, e1, _⟩ := ok.data b hb
      obtain ⟨as, rd, _⟩ := Rep.reads hK I hS R b v u p h2 e1 h1
      exact ⟨as, by unfold D.dat; rw [e1]; exact rd⟩
    have dat : ∀ b ∈ xs, (D.dat b).plain = true ∧ (D.dat b).depth ≤ 40 := fun b hb => by
      obtain ⟨p, e1, h1, h2⟩ := ok.data b hb
      unfold D.dat
      rw [e1]
      exact ⟨h1, h2⟩
    refine sorted_fit (enc := D.dat) (bs := xs) hL.isList ei er (fun d hd => ?_) (fun d hd d' hd' => ?_) ?_ ?_ (fun b hb => ?_) fun out ho eo => ?_
    · obtain ⟨b, hb, rfl⟩ := List.mem_map.mp hd
      exact (dat b hb).1
    · obtain ⟨b, hb, rfl⟩ := List.mem_map.mp hd
      obtain ⟨b', hb', rfl⟩ := List.mem_map.mp hd'
      exact ok.fit b hb b' hb'
    · rcases ok.kind with k | k
      · refine .inl fun d hd => ?_
        obtain ⟨b, hb, rfl⟩ := List.mem_map.mp hd
        exact k b hb
      · refine .inr fun d hd => ?_
        obtain ⟨b, hb, rfl⟩ := List.mem_map.mp hd
        exact k b hb
    · rw [lx]
      rw [← rv1.length]
      exact hlen
    · have := (dat b hb).2
      omega
    · obtain ⟨vs', k1, k2⟩ := sort_vals (le := leD) eo
      obtain ⟨ep, he'⟩ := PyProof.Rows.sortedAll_at s.heap its out.toArray
      have np : W.H (s.heap.objs.size + 1) = none := I.hok.fresh (Nat.le_succ _)
      refine ⟨.ref _, upd W.H (s.heap.objs.size + 1) (.lst vs'), I.laid (t' := s.toks) (fun _ _ => PyProof.Rows.sortedAll_old) (Nat.le_succ _) ⟨?_, out, ep, k1, he'⟩, rfl, q _ vs' np k2⟩
      rw [k1.length, ho, lx, ← rv1.length]
      exact hlen
theorem cs_sorted {G : Cn} : CallS G (rSorted G) fSorted := by
  intro B W E ds vs Q R r o
  match ds, r, o with
  | [], _, o => exact o.elim
  | _ :: _ :: _, _, o => exact o.elim
  | [d], .cons h .nil, o =>
    simp only [fSorted] at o
    cases e : asL W.st d with
    | none => rw [e] at o; exact o.elim
    | some xs =>
      rw [e] at o
      simp only at o
      by_cases c : SortOk xs
      · rw [if_pos c] at o
        exact ⟨B, W, d, _, xs, rfl, rfl, R, h, e, c, fun p us np ru => o (W.new p (.lst us)) (Ext.new R.len np) (R.new np) rfl _ (Rep.newL R np ru)⟩
      · rw [if_neg c] at o
        exact o.elim
theorem jb_sorted {X : Cx} {G : Cn} {E : ES} {k : Nat} {e : Expr} {es : List Expr} {ms : M (List D)} {p pos : Pos} (rm : Rm k X.A) (hS : SysD X.K) (ha : PA X (e :: es) (tA G E ms)) (hm : X.mg "sorted" = none) (hK : G.K = X.K := by rfl) (hg : Gl X "sorted" := by rfl) (he : starEach (e :: es) X.env = (false, eval e X.env) :: starEach es X.env := by rfl) (hpl : (backTo pos (starEach es X.env)).any (·.1) = false := by rfl) : PE X (.Call (.Name "sorted" p) (e :: es) [] pos) (tE G E (mCall fSorted ms)) := je_callB (call_sortedD hK rm hS) cs_sorted hg hm (by decide +kernel) ha (he := he) (hpl := hpl)
end DL

set_option maxHeartbeats 2000000
/-! DB: str of own objects and ints, f-strings; == of own objects with anything, of tuples that hold such. -/
namespace DL
open PySem PySem.Spec PyProof.Rows L2
section
variable {X : Cx} {E : ES} {k : Nat} {f C : Addr} {fd : FuncData} {ps : List Str} {sp : Sp} {pins : List (Addr × Obj)} {σ : L2.St} {H : Hp} {s : Shared} {Q : VK}
/-- str(o) -/
theorem str_own {a dx : Addr} {fs : List (Str × V)} (T : Dun X.K C "__str__" f) (F : FnG X.prog X.w X.K X.mg X.base k f fd ps sp) (rm : Rm (k + 2) X.A) (hb : Binds X.K fd ps []) (hx : Pss X E)
    (I : Inv X pins σ H s) (e : H a = some (.ins C dx fs)) (h : sp [.ref a] H (fun v H' => ∃ n : Str, v = .str n ∧ Q v H') (E σ)) : wpAny (model X.prog X.w) X.A (call (.type "str") [.ref a]) (EP X pins σ Q) X.xe s := by
  obtain ⟨mA, J, _⟩ := ins_get I.hok e
  obtain ⟨od, J, _⟩ := J.look
  have rm1 : Rm (k + 1) X.A.in1 := rm.in1
  refine PySem.W.kso_call (C := C) (by have := rm1.in1.units; omega) I.kIn J T.at_ T.fn (wpAny_mono (gRunA (us := [.ref a]) (vs := [.ref a]) F rm1.in1 I.env0.in1.in1 hb hx I (.cons rfl .nil) h) (fun r s' hq => ?_) fun _ _ z => z)
  obtain ⟨v, H', I', rv, n, rfl, q⟩ := hq
  obtain ⟨t, rfl⟩ := rv
  exact ⟨.str n, H', I', ⟨_, rfl⟩, q⟩
end
/-- str(o), o of the class; str(i) -/
def fStrO (c : Str) (fn : Fn) : Fn := fun ds st => match ds with
  | [d] => (match insOf st d with
    | some (c', _, _) => if c' = c then (match fn [d] st with
      | .ok (.str n) s => .ok (.str n) s
      | _ => .bad) else .bad
    | none => .bad)
  | _ => .bad
def intShort (i : Int) : Bool := decide (i.natAbs.log2 < 1920)
def fStrI : Fn := fun ds st => match ds with
  | [.int i] => if intShort i = true then .ok (.str (toString i)) st else .bad
  | _ => .bad
section
variable {X : Cx} {G : Cn} {E : ES} {x : Str} {p pos : Pos} {a b e : Expr} {es : List Expr} {ma mb m : M D} {ms : M (List D)} {fn : Fn} {k j : Nat} {f : Addr} {ps : List Str} {c : Str}
def rStrO (G : Cn) (c : Str) (fn : Fn) : List V → Hp → VK → Prop := fun vs H Q => ∃ z dx fs, vs = [.ref z] ∧ H z = some (.ins (G.cl c) dx fs) ∧ spOf G 1 fn [.ref z] H (fun v H' => ∃ n : Str, v = .str n ∧ Q v H') (fun _ _ _ => False)
theorem call_strO (F : Fk X.prog X.w X.K X.mg X.base j f ps (spOf G 1 fn)) (le : j + 2 ≤ k) (rm : Rm k X.A) (T : Dun X.K (G.cl c) "__str__" f) : CallR X (.type "str") (rStrO G c fn) := by
  obtain ⟨fd, F, bd, kp⟩ := F
  intro pins s σ H vs us Q I rv h
  obtain ⟨z, dx, fs, rfl, hz, q⟩ := h
  obtain ⟨u, rfl, ru⟩ := vals1 rv
  obtain rfl : u = Value.ref z := ru
  exact str_own (E := fun _ _ _ _ => False) T F (rm.mono le) bd (fun _ _ _ _ _ _ _ h => by obtain ⟨_, _, _, _, _, _, _, _, _, _, _, _, z⟩ := h; exact z.elim) I hz q
theorem cs_strO : CallS G (rStrO G c fn) (fStrO c (ar 1 fn)) := by
  intro B W E ds vs Q R rv o
  match ds, rv, o with
  | [d], .cons r .nil, o =>
    unfold fStrO at o
    cases q : insOf W.st d with
    | none => simp only [q] at o; exact o.elim
    | some t =>
      obtain ⟨c', ns, ws⟩ := t
      simp only [q] at o
      by_cases hc : c' = c
      · subst hc
        rw [if_pos rfl] at o
        obtain ⟨z, dx, fs, rfl, hz⟩ := insOf_rep R r q
        refine ⟨z, dx, fs, rfl, hz, sp_ar R (.cons r .nil) ?_⟩
        cases w : ar 1 fn [d] W.st with
        | bad => simp only [w] at o; exact o.elim
        | exc ee s2 => simp only [w] at o; exact o.elim
        | ok d s2 =>
          cases d with
          | str n =>
            simp only [w] at o
            exact fun W2 x2 R2 es vv rv => by
              cases rv
              exact ⟨n, rfl, o W2 x2 R2 es _ (.str _)⟩
          | _ => simp only [w] at o; exact o.elim
      · rw [if_neg hc] at o
        exact o.elim
theorem jb_strO (F : Fk X.prog X.w X.K X.mg X.base j f ps (spOf G 1 fn)) (le : j + 2 ≤ k) (rm : Rm k X.A) (T : Dun X.K (G.cl c) "__str__" f) (ha : PA X [e] (tA G E ms)) (hm : X.mg "str" = none) (hg : Gl X "str" := by rfl)
    (he : starEach [e] X.env = (false, eval e X.env) :: starEach [] X.env := by rfl) (hpl : (backTo pos (starEach [] X.env)).any (·.1) = false := by rfl) : PE X (.Call (.Name "str" p) [e] [] pos) (tE G E (mCall (fStrO c (ar 1 fn)) ms)) :=
  je_callT (call_strO F le rm T) cs_strO hg hm (by decide +kernel) ha (by decide) (by decide) he hpl
theorem cs_strI : CallS G (fun xs H Q => ∃ i, xs = [.int i] ∧ i.natAbs.log2 < 1920 ∧ Q (.str (toString i)) H) fStrI := by
  intro B W E ds vs Q R rv o
  match ds, rv, o with
  | [.int i], .cons r .nil, o =>
    cases r
    simp only [fStrI] at o
    by_cases c : intShort i = true
    · rw [if_pos c] at o
      exact ⟨i, rfl, of_decide_eq_true c, o.ret R _ (.str _)⟩
    · rw [if_neg c] at o
      exact o.elim
  | [.non], _, o => exact o.elim
  | [.bl _], _, o => exact o.elim
  | [.str _], _, o => exact o.elim
  | [.tup _], _, o => exact o.elim
  | [.lst _], _, o => exact o.elim
  | [.fro _], _, o => exact o.elim
  | [.dct _ _], _, o => exact o.elim
  | [.obj _ _ _], _, o => exact o.elim
  | [.loc _], _, o => exact o.elim
  | [.exn _ _ _], _, o => exact o.elim
theorem jb_strI (ha : PA X (e :: es) (tA G E ms)) (hm : X.mg "str" = none) (hg : Gl X "str" := by rfl) (he : starEach (e :: es) X.env = (false, eval e X.env) :: starEach es X.env := by rfl) (hpl : (backTo pos (starEach es X.env)).any (·.1) = false := by rfl) : PE X (.Call (.Name "str" p) (e :: es) [] pos) (tE G E (mCall fStrI ms)) :=
  je_callT call_str_int cs_strI hg hm (by decide +kernel) ha (he := he) (hpl := hpl)
/-! ### f-strings -/
def mFmt (m : M D) : M D := fun env st => (m env st).bind fun d s => match d with
  | .str y => if y.length ≤ sizeLine then .ok (.str y) s else .bad
  | .int i => if intShort i = true then .ok (.str (toString i)) s else .bad
  | _ => .bad
def jsGo : List (M D) → Str → M D
  | [], acc => fun _ st => .ok (.str acc) st
  | m :: ms, acc => fun env st => (m env st).bind fun d s => match d with
    | .str y => if (acc ++ y).length ≤ sizeLine then jsGo ms (acc ++ y) env s else .bad
    | _ => .bad
def mJs (ms : List (M D)) : M D := jsGo ms Str.empty
theorem je_fmt (he : PE X e (tE G E m)) : PE X (.FormattedValue e (-1) none pos) (tE G E (mFmt m)) := by
  refine PE.weak (pe_fmt he) fun σ H Q ⟨B, W, env, e1, R, S, o⟩ => ?_
  subst e1
  refine tE_of R S o fun d W1 v x1 R1 S1 r1 o1 => ?_
  cases d with
  | str y =>
    cases r1
    simp only at o1
    by_cases c : y.length ≤ sizeLine
    · rw [if_pos c] at o1
      exact .inl ⟨y, rfl, c, o1.ret R1 _ (.str _)⟩
    · rw [if_neg c] at o1; exact o1.elim
  | int i =>
    cases r1
    simp only at o1
    by_cases c : intShort i = true
    · rw [if_pos c] at o1
      exact .inr ⟨i, rfl, of_decide_eq_true c, o1.ret R1 _ (.str _)⟩
    · rw [if_neg c] at o1; exact o1.elim
  | _ => exact o1.elim
inductive JJ (X : Cx) (G : Cn) (E : ES) : List Expr → List (M D) → Prop where
  | nil : JJ X G E [] []
  | cons {e : Expr} {m : M D} {es : List Expr} {ms : List (M D)} (h : PE X e (tE G E m)) (r : JJ X G E es ms) : JJ X G E (e :: es) (m :: ms)
theorem JJ.pj {es : List Expr} {ms : List (M D)} (h : JJ X G E es ms) : PJ X es (ms.map fun m => tE G E m) := by
  induction h with
  | nil => exact .nil
  | cons h _ ih => exact .cons h ih
theorem js_go : ∀ (ms : List (M D)) (acc : Str) (σ : L2.St) (H : Hp) (Q : VK), tE G E (jsGo ms acc) σ H Q → tJs (ms.map fun m => tE G E m) acc σ H (fun out H1 => Q (.str out) H1)
  | [], acc, σ, H, Q, h => by
    obtain ⟨B, W, env, rfl, R, S, o⟩ := h
    exact o.ret R _ (.str _)
  | m :: ms, acc, σ, H, Q, h => by
    obtain ⟨B, W, env, rfl, R, S, o⟩ := h
    show tE G E m σ W.H (fun x H1 => ∃ y : Str, x = .str y ∧ (acc ++ y).length ≤ sizeLine ∧ tJs (ms.map fun m => tE G E m) (acc ++ y) σ H1 (fun out H1 => Q (.str out) H1))
    refine tE_of R S o fun d W1 v x1 R1 S1 r1 o1 => ?_
    cases d with
    | str y =>
      cases r1
      simp only at o1
      by_cases c : (acc ++ y).length ≤ sizeLine
      · rw [if_pos c] at o1
        exact ⟨y, rfl, c, js_go ms (acc ++ y) σ W1.H Q ⟨B, W1, env, rfl, R1, S1, o1⟩⟩
      · rw [if_neg c] at o1; exact o1.elim
    | _ => exact o1.elim
theorem je_js {v1 v2 : Expr} {rest : List Expr} {ms : List (M D)} (h : JJ X G E (v1 :: v2 :: rest) ms) : PE X (.JoinedStr (v1 :: v2 :: rest) pos) (tE G E (mJs ms)) := PE.weak (pe_joined h.pj) fun σ H Q q => js_go ms Str.empty σ H Q q
/-! ### o == anything -/
/-- no class of these stands ahead of c in a comparison -/
structure First (G : Cn) (c : Str) (os : List Str) : Prop where
  ty : ∀ n ∈ (["NoneType", "bool", "int", "str", "tuple", "list", "dict"] : List String), PySem.W.notFirst G.K (G.cl c) (.type n) = true
  own : ∀ o ∈ os, PySem.W.notFirst G.K (G.cl c) (.ref (G.cl o)) = true
def firstsB (c : Str) (os : List Str) (K : PySem.W.Frag) : Bool := firstB c K && os.all fun o => PySem.W.notFirst K (He.ga K c) (.ref (He.ga K o))
theorem first_ok {K : PySem.W.Frag} {c : Str} {os : List Str} (h : (Fq.fn (firstsB c os)).ok K = true) : First (cnOf K) c os := by
  obtain ⟨h1, h2⟩ := He.ba (show firstsB c os K = true from h)
  exact ⟨fun n hn => List.all_eq_true.mp h1 n hn, fun o ho => List.all_eq_true.mp h2 o ho⟩
def kdData : PyData → String
  | .none => "NoneType"
  | .bool _ => "bool"
  | .int _ => "int"
  | .str _ => "str"
  | .tuple _ => "tuple"
  | .list _ => "list"
  | .dict _ => "dict"
theorem kdData_in (p : PyData) : PySem.W.dataType p = .type (kdData p) ∧ kdData p ∈ (["NoneType", "bool", "int", "str", "tuple", "list", "dict"] : List String) := by
  cases p <;> exact ⟨rfl, by simp [kdData]⟩
def runB (fn : Fn) (x y : D) (s : Store) : R D := match fn [x, y] s with
  | .ok (.bl b) s2 => .ok (.bl b) s2
  | _ => .bad
def eqA (c : Str) (os : List Str) (fn : Fn) (x y : D) (s : Store) : R D := match insOf s x with
  | some (c1, _, _) => if c1 = c then (match insOf s y with
    | some (c2, _, _) => if c2 = c ∨ c2 ∈ os then runB fn x y s else .bad
    | none => (match y.den s with
      | some _ => runB fn x y s
      | none => .bad)) else .bad
  | none => .bad
def rEqA (X : Cx) (G : Cn) (c : Str) (fn : Fn) : R2 := fun xv yv H Q => ∃ z dx fs, xv = .ref z ∧ H z = some (.ins (G.cl c) dx fs) ∧ (∀ (pins : List (Addr × Obj)) (σ : L2.St) (s : Shared) (u : Value), Inv X pins σ H s → RelV yv u → ∃ tb, PySem.W.Looks (model X.prog X.w) s.heap (typeOf u) tb ∧ PySem.W.notFirst G.K (G.cl c) tb = true) ∧
  spOf G 2 fn [.ref z, yv] H (fun v H' => ∃ b : Bool, v = .bl b ∧ Q (.bl b) H') (fun _ _ _ => False)
theorem op_eqA (hK : G.K = X.K) (F : Fk X.prog X.w X.K X.mg X.base j f ps (spOf G 2 fn)) (le : j ≤ k) (rm : Rm k X.A) (hu : X.A.units + 64 < cLine) (T : Dun X.K (G.cl c) "__eq__" f) : OpR X (compareOp .Eq) (rEqA X G c fn) := by
  obtain ⟨fd, F, bd, kp⟩ := F
  intro pins s σ H xv yv u v Q I rx ry h
  obtain ⟨z, dx, fs, rfl, hz, hl, q⟩ := h
  cases rx
  obtain ⟨tb, hb, hn⟩ := hl pins σ s v I ry
  rw [hK] at hn
  obtain ⟨mA, J, _⟩ := ins_get I.hok hz
  obtain ⟨od, J, _⟩ := J.look
  obtain ⟨m, hF⟩ := I.fr
  have go := gRunA (E := fun _ _ _ _ => False) (us := [.ref z, v]) (vs := [.ref z, yv]) F (rm.mono le) I.env0 bd (fun _ _ _ _ _ _ _ h => by obtain ⟨_, _, _, _, _, _, _, _, _, _, _, _, z⟩ := h; exact z.elim) I (.cons rfl (.cons ry .nil)) q
  refine PySem.W.cmp_K (op := .Eq) (tb := tb) (by omega) hF I.ok.mod.kin J hb hn T.at_ T.fn (wpAny_mono go (fun r s' hq => ?_) fun _ _ z => z)
  obtain ⟨v, H', I', rv, b, rfl, q⟩ := hq
  cases rv
  exact ⟨.bl b, H', I', rfl, q⟩
theorem Out.runB {B : Addr → Prop} {W : Wd} {E : XK} {xv yv : V} {x y : D} {Q : VK} (R : Rel G B W) (rx : Rep G B W xv x) (ry : Rep G B W yv y) (o : Out G B W E (runB (ar 2 fn) x y W.st) fun d W' => ∀ z, Rep G B W' z d → Q z W'.H) : spOf G 2 fn [xv, yv] W.H (fun v H' => ∃ b : Bool, v = .bl b ∧ Q (.bl b) H') (fun _ _ _ => False) := by
  refine sp_ar R (.cons rx (.cons ry .nil)) ?_
  unfold DL.runB at o
  cases w : ar 2 fn [x, y] W.st with
  | bad => simp only [w] at o; exact o.elim
  | exc ee s2 => simp only [w] at o; exact o.elim
  | ok d s2 =>
    cases d with
    | bl b =>
      simp only [w] at o
      exact fun W2 x2 R2 es vv rv => by
        cases rv
        exact ⟨b, rfl, o W2 x2 R2 es _ (.bl _)⟩
    | _ => simp only [w] at o; exact o.elim
theorem os_eqA {os : List Str} (hK : G.K = X.K) (hS : SysD X.K) (F1 : First G c os) : OpS G (rEqA X G c fn) (eqA c os (ar 2 fn)) := by
  intro B W E xv yv u v Q R rx ry o
  unfold eqA at o
  cases q : insOf W.st xv with
  | none => simp only [q] at o; exact o.elim
  | some t =>
    obtain ⟨c1, ns, vs⟩ := t
    simp only [q] at o
    by_cases hc : c1 = c
    · subst hc
      rw [if_pos rfl] at o
      obtain ⟨z, dx, fs, rfl, hz⟩ := insOf_rep R rx q
      cases q2 : insOf W.st yv with
      | some t2 =>
        obtain ⟨c2, ns2, vs2⟩ := t2
        simp only [q2] at o
        by_cases hc2 : c2 = c1 ∨ c2 ∈ os
        · rw [if_pos hc2] at o
          obtain ⟨z2, dy, gs, rfl, hz2⟩ := insOf_rep R ry q2
          refine ⟨z, dx, fs, rfl, hz, fun pins σ s u I ru => ?_, o.runB R rx ry⟩
          cases ru
          obtain ⟨mB, J2, _⟩ := ins_get I.hok hz2
          obtain ⟨od2, J2, _⟩ := J2.look
          refine ⟨_, J2.type, ?_⟩
          rcases hc2 with hc2 | hc2
          · subst hc2; simp [PySem.W.notFirst]
          · exact F1.own _ hc2
        · rw [if_neg hc2] at o; exact o.elim
      | none =>
        simp only [q2] at o
        cases e : yv.den W.st with
        | none => simp only [e] at o; exact o.elim
        | some p =>
          simp only [e] at o
          refine ⟨z, dx, fs, rfl, hz, fun pins σ s u I ru => ?_, o.runB R rx ry⟩
          obtain ⟨as, rd, _⟩ := ry.readsR hK I hS R e ru
          obtain ⟨k1, k2⟩ := kdData_in p
          exact ⟨_, PySem.W.looks_reads rd, by rw [k1]; exact F1.ty _ k2⟩
    · rw [if_neg hc] at o
      exact o.elim
theorem j_eqA {os : List Str} (F : Fk X.prog X.w X.K X.mg X.base j f ps (spOf G 2 fn)) (le : j ≤ k) (rm : Rm k X.A) (T : Dun X.K (G.cl c) "__eq__" f) (hS : SysD X.K) (F1 : First G c os) (ha : PE X a (tE G E ma)) (hb : PE X b (tE G E mb)) (hK : G.K = X.K := by rfl) : PE X (.Compare a [.Eq] [b] pos) (tE G E (mOp (eqA c os (ar 2 fn)) ma mb)) := je_cmp (op_eqA hK F le rm rm.units T) (os_eqA hK hS F1) ha hb (nomark _)
theorem jt_eqA {os : List Str} (F : Fk X.prog X.w X.K X.mg X.base j f ps (spOf G 2 fn)) (le : j ≤ k) (rm : Rm k X.A) (T : Dun X.K (G.cl c) "__eq__" f) (hS : SysD X.K) (F1 : First G c os) (ha : PE X a (tE G E ma)) (hb : PE X b (tE G E mb)) (hK : G.K = X.K := by rfl) : PT X (.Compare a [.Eq] [b] pos) (tT G E (mTest (mOp (eqA c os (ar 2 fn)) ma mb))) := jt_cmp (op_eqA hK F le rm rm.units T) (os_eqA hK hS F1) ha hb (nomark _)
end
end DL

set_option maxHeartbeats 4000000
/-! DC: sorted(set(xs)) of tuples of ints. -/
namespace DL
open PySem PySem.Spec PyProof.Rows L2 PySem.W PySem.SeqAt
section
variable {P : Program} {w : World} {A : Around} {E : Value → Shared → Prop} {s : Shared}
theorem set_of_tup {l : Addr} {items : Array Value} (kk : List (Addr × List Int)) {Q : Value → Shared → Prop} (hA : A.handled = none) (hT0 : s.heap.IsTuple l items) (hI0 : items.toList = kk.map fun p => Value.ref p.1)
    (hK0 : ∀ p ∈ kk, IsT P w s.heap p.2 p.1) (fw : kk.length < 64) (hu : A.units + 3 < cLine)
    (h : ∀ (h' : Heap) (tk0 : Nat) L es0 ep0 t, SetTR P w h' s.heap.objs.size L es0 ep0 t → Got kk kk.length L → (∀ b o, s.heap.get? b = some o → h'.get? b = some o) → Q (.ref s.heap.objs.size) { s with heap := h', toks := tk0 }) :
    wpAny (model P w) A (call (.type "set") [.ref l]) Q E s := by
  have hsz0 : items.size = kk.length := by
    have q := congrArg List.length hI0
    rw [Array.length_toList, List.length_map] at q
    exact q
  obtain ⟨c, tl, hmro⟩ := F.called_set.mro
  have hmade := F.called_set.made
  have hsub := F.called_set.sub
  refine wpAny_call (codeAny_of_tree ?_)
  show wpAny _ _ (callAny (.type "set") _) _ _ _
  refine wpAny_pure ⟨Code.quiet_builtin _ (by decide +kernel), codeAny_builtin F.entry_type_call ?_⟩
  rw [Around.under_plain (weight_type_call_type "set" [.ref l] []) rfl]
  have q1 := F.called_set.notType
  have q2 := F.called_set.canCreate
  have q3 := F.typeCall_set_1 (.ref l)
  repeat (any_goals (first | assumption | wp_step))

  refine codeAny_mono (code_set_led1 (.ref l) (E := E) (Q₁ := fun ob0 s₁ => ob0 = .ref s.heap.objs.size ∧ s₁ = { s with heap := s.heap.push { cls := .type "set", dict := none, data := .set #[] 0 (.fresh 0 0 (!w.params.followText "set-order")) } }) ⟨rfl, rfl⟩) fun r s₁ hr0 => ?_
  cases r with
  | error e => exact hr0
  | ok fl =>
    cases fl with
    | ret ob0 =>
      obtain ⟨rfl, rfl⟩ := hr0
      have hN0 : (s.heap.push { cls := .type "set", dict := none, data := .set #[] 0 (.fresh 0 0 (!w.params.followText "set-order")) }).get? s.heap.objs.size = some { cls := .type "set", dict := none, data := .set #[] 0 (.fresh 0 0 (!w.params.followText "set-order")) } := Heap.get?_push_size _ rfl
      have yT : Shared.TypeIs { s with heap := s.heap.push { cls := .type "set", dict := none, data := .set #[] 0 (.fresh 0 0 (!w.params.followText "set-order")) } } (.ref s.heap.objs.size) "set" := ⟨_, hN0, rfl⟩
      have q4 := F.called_set.init.lookup
      have q5 := F.called_set.init.bind (.ref s.heap.objs.size)
      repeat (any_goals (first | assumption | wp_step))

      refine codeAny_mono (codeAny_call_builtin (R := wants (fun r s₂ => r = .none ∧ ∃ h' tk0 L es0 ep0 t, s₂ = { s with heap := h', toks := tk0 } ∧ SetTR P w h' s.heap.objs.size L es0 ep0 t ∧ Got kk kk.length L ∧
          (∀ b o, s.heap.get? b = some o → h'.get? b = some o)) E) F.called_set.init.plain F.entry_set_init (check_set_init_1 yT ?_)) fun r₂ s₂ hr₂ => ?_
      · obtain ⟨ol0, hol0, hcl0, nl0, hdl0⟩ := hT0
        obtain ⟨ocl, odc, oda, osl⟩ := ol0
        simp only at hcl0 hdl0
        subst hcl0; subst hdl0
        have hol1 : (s.heap.push { cls := .type "set", dict := none, data := .set #[] 0 (.fresh 0 0 (!w.params.followText "set-order")) }).get? l = some { cls := .type "tuple", dict := odc, data := .seq items nl0, slots := osl } := Heap.get?_push_of_some _ hol0
        have y1 := F.sub_tuple_set
        have y2 := F.sub_tuple_frozenset
        have y3 : (Value.type "tuple" == Value.type "dict") = false := by decide
        have y4 : (s.heap.push { cls := .type "set", dict := none, data := .set #[] 0 (.fresh 0 0 (!w.params.followText "set-order")) }).IsTuple l items := ⟨_, hol1, rfl, nl0, rfl⟩
        unfold Builtin.«set.__init__» noKeywords Builtin.Frozenset.updateFrom
        generalize hPI : pyIter = PI
        wp_walk
        subst hPI

        refine wpAny_pyIter_tuple y4 ?_
        refine wpAny_bind (wpAny_runValue ?_)
        have y5 : l < s.heap.objs.size := Heap.lt_size hol0
        have y6 : A.in1.in1.in1.handled = none := by simp [hA]
        have y7 : (s.heap.push { cls := .type "set", dict := none, data := .set #[] 0 (.fresh 0 0 (!w.params.followText "set-order")) }).objs.size = s.heap.objs.size + 1 := Heap.size_push ..
        have y8 : l ≠ (s.heap.push { cls := .type "set", dict := none, data := .set #[] 0 (.fresh 0 0 (!w.params.followText "set-order")) }).objs.size := by
          rw [Heap.size_push]; exact Nat.ne_of_lt (Nat.lt_succ_of_lt y5)
        have y9 : s.heap.objs.size ∉ [(s.heap.push { cls := .type "set", dict := none, data := .set #[] 0 (.fresh 0 0 (!w.params.followText "set-order")) }).objs.size, l] := by
          rw [Heap.size_push]; simp only [List.mem_cons, List.mem_singleton, List.not_mem_nil, or_false, not_or]
          exact ⟨Nat.ne_of_lt (Nat.lt_succ_self _), Nat.ne_of_gt y5⟩
        have hv0 : ∀ (i : Nat) (v : Value), items[i]? = some v → ∃ p, kk[i]? = some p ∧ v = .ref p.1 := fun i v hv => by
          have q : items.toList[i]? = some v := by rw [Array.getElem?_toList]; exact hv
          rw [hI0, List.getElem?_map] at q
          cases hq : kk[i]? with
          | none => rw [hq] at q; cases q
          | some p =>
            rw [hq] at q
            exact ⟨p, rfl, (Option.some.inj q).symm⟩
        have fresh0 : ∀ b, s.heap.objs.size ≤ b → s.heap.get? b = none := fun b hb => by
          cases q : s.heap.get? b with
          | none => rfl
          | some o => exact absurd (Nat.lt_of_lt_of_le (Heap.lt_size q) hb) (Nat.lt_irrefl _)
        refine set_update_tups ((Walks.tuple y6 _ l y8 items).toS) s.heap.objs.size
          y9 kk hsz0 fw hv0 s.heap hK0 (fresh0 _ (Nat.le_refl _)) (fun b hb => fresh0 b (by
            rw [List.mem_singleton.mp hb, Heap.size_push]
            exact Nat.le_succ _)) hu (items.size - 0) 0 _ (by omega) (Nat.zero_le _)
          ⟨⟨_, Heap.get?_push_size _ rfl, rfl, rfl⟩, (y4.push _)⟩ (fun b o e => Heap.get?_push_of_some _ (Heap.get?_push_of_some _ e)) ?hS0 ?hR
        case hS0 =>
          have hget : ((s.heap.push { cls := .type "set", dict := none, data := .set #[] 0 (.fresh 0 0 (!w.params.followText "set-order")) }).push { cls := .type "tuple_iterator", data := .fields #[.ref l, .int 0 0] }).get? s.heap.objs.size
              = some { cls := .type "set", dict := none, data := .set #[] 0 (.fresh 0 0 (!w.params.followText "set-order")) } := Heap.get?_push_of_some _ hN0
          exact ⟨[], #[], 0, _, setTR_fresh hget, Got.zero kk⟩
        case hR =>
          intro s' L es0 ep0 t hm0 hS' g' hkp0
          obtain ⟨h', g2, d', tk', os'⟩ := s'
          have eg : g2 = s.gens := hm0.gens
          have ed : d' = s.drawn := hm0.drawn
          have eo : os' = s.os := hm0.os
          subst eg; subst ed; subst eo
          show wpAny _ _ _ _ _ _
          refine wpAny_pure ?_
          show wpAny _ _ (ret Value.none) _ _ _
          rw [hsz0] at g'
          exact wpAny_pure ⟨rfl, h', tk', L, es0, ep0, t, rfl, hS', g', hkp0⟩

      · cases r₂ with
        | error e => exact hr₂
        | ok fl₂ =>
          cases fl₂ with
          | ret r =>
            obtain ⟨rfl, h', tk0, L, es0, ep0, t, rfl, hS', g', hk'⟩ := hr₂
            repeat (any_goals (first | assumption | wp_step))
            exact h _ _ _ _ _ _ hS' g' hk'
          | _ => exact hr₂.elim
    | _ => exact hr0.elim
end
end DL

set_option maxHeartbeats 4000000
/-! DCa: sorted(set(xs)) of tuples of ints, as a rule. -/
namespace DL
open PySem PySem.Spec PyProof.Rows L2 PySem.W PySem.SeqAt
section
variable {P : Program} {w : World} {A : Around} {E : Value → Shared → Prop} {s : Shared}
/-- a tuple of ints as data -/
def tkD (k : List Int) : PyData := .tuple (k.map .int)
theorem isT_reads {h : Heap} {k : List Int} {b : Addr} (x : IsT P w h k b) : Reads h (.ref b) (tkD k) [] := by
  obtain ⟨o, items, n, ho, hc, hd, hi⟩ := x
  refine Reads.tuple ho hc hd ?_
  have go : ∀ {k : List Int} {vs : List Value}, ItemsAre (intKind P w) k vs → ReadsAll h vs (k.map .int) [] := fun {k vs} i => by
    induction i with
    | nil => exact .nil
    | cons h1 _ ih =>
      obtain ⟨t, rfl⟩ := Value.isInt_shape h1
      exact ReadsAll.cons (.int _ _) ih
  exact go hi
theorem alike_tk (a b : List Int) : alike (tkD a) (tkD b) = true := by
  show alike (.tuple _) (.tuple _) = true
  simp only [alike]
  exact alike_ints a b
theorem depth_tk (a : List Int) : (tkD a).depth = 1 := by
  unfold tkD
  rw [PyData.depth, depth_ints]
theorem le_tk (a b : List Int) : (!dataLt (tkD b) (tkD a)) = decide (a ≤ b) := by
  unfold tkD
  rw [dataLt_tuple]
  show (!rowLt (b.map .int) (a.map .int)) = _
  rw [dataLt_ints]
  by_cases h : b < a
  · have h' : ¬ a ≤ b := fun r => List.not_lt.mpr r h
    simp [h, h']
  · have h' : a ≤ b := List.not_lt.mp h
    simp [h, h']
theorem sort_of_set {a : Addr} {L : List (Addr × List Int)} {es : Array (Int × Value)} {ep : Nat} {t : SetTable} {Q : Value → Shared → Prop} (R : SetTR P w s.heap a L es ep t) (hh : A.handled = none) (hu : A.units + 64 < cLine) (hne : ∀ p ∈ L, p.2 ≠ [])
    (hQ : ∀ s' p (out : List Value) (c : Nat) (L' : List (Addr × List Int)), (∀ b o, s.heap.get? b = some o → s'.heap.get? b = some o) → s'.gens = s.gens → s'.os = s.os → s.heap.objs.size ≤ p →
      s'.heap.get? p = some (seqObj "list" out.toArray c) → out = L'.map (fun q => Value.ref q.1) → L'.Perm L → L'.Pairwise (fun q r => q.2 ≤ r.2) → Q (.ref p) s') :
    wpAny (model P w) A (call (.builtin "sorted") [.ref a]) Q E s := by
  obtain ⟨o, ho, hex, hd⟩ := R.ob
  have hsz := R.size
  have few := R.few
  refine Calls.call_function_entry kind_sorted plain_sorted entry_sorted (args_sorted1 _) ?_
  unfold Builtin.«sorted»
  refine wpAny_bind (m := checkCount "sorted" 1 1 _) (wpAny_pure ?_)
  refine wpAny_bind (collect_set (A := A.in1) hh ⟨o, ho, hex.1, hd⟩ R.fits (by unfold scanBound; omega) R.tab.ris R.led fun s1 vs k1 hz g1 o1 pm => ?_)
  have hes : es.toList.map (·.2) = L.map fun q => Value.ref q.1 := by rw [R.rows]; unfold L2.rowsOf; rw [List.map_map]; rfl
  rw [hes] at pm
  have ord : ∀ us : List Value, (∀ v ∈ us, ∃ q ∈ L, v = Value.ref q.1) → ∃ L1 : List (Addr × List Int), us = L1.map (fun q => Value.ref q.1) ∧ ∀ q ∈ L1, q ∈ L := fun us => by
    induction us with
    | nil => exact fun _ => ⟨[], rfl, by simp⟩
    | cons v us ih =>
      intro hv
      obtain ⟨q, hq, e⟩ := hv v (by simp)
      obtain ⟨L1, e1, hs⟩ := ih fun u hu => hv u (by simp [hu])
      exact ⟨q :: L1, by rw [List.map_cons, e, e1], fun r hr => by
        rcases List.mem_cons.mp hr with z | z
        · exact z ▸ hq
        · exact hs r z⟩
  have one : ∀ q ∈ L, ∀ r ∈ L, q.1 = r.1 → q = r := fun q hq r hr e => by
    have a1 := R.tup q hq
    have a2 := R.tup r hr
    rw [e] at a1
    exact Prod.ext e (a1.inj a2)
  have perm_of : ∀ L1 : List (Addr × List Int), (∀ q ∈ L1, q ∈ L) → (L1.map (fun q => Value.ref q.1)).Perm (L.map fun q => Value.ref q.1) → L1.Perm L := fun L1 hs p1 => by
    have nL : L.Nodup := nodup_of_map R.nd
    have nr : (L.map fun q => Value.ref q.1).Nodup := by
      refine List.pairwise_map.mpr (List.Pairwise.imp_of_mem (fun {q r} hq hr n e => ?_) nL)
      injection e with e
      exact n (one q hq r hr e)
    have n1 : L1.Nodup := nodup_of_map (p1.nodup_iff.mpr nr)
    refine (List.perm_ext_iff_of_nodup n1 nL).mpr fun q => ⟨hs q, fun hq => ?_⟩
    obtain ⟨r, hr, e⟩ := List.mem_map.mp (p1.mem_iff.mpr (List.mem_map.mpr ⟨q, hq, rfl⟩))
    injection e with e
    rw [← one r (hs r hr) q hq e]
    exact hr
  have lv : vs.length < 64 := by rw [pm.length_eq, List.length_map]; exact few
  obtain ⟨L1, e1, s1L⟩ := ord vs fun v hv => by
    obtain ⟨q, hq, e⟩ := List.mem_map.mp (pm.mem_iff.mp hv)
    exact ⟨q, hq, e.symm⟩
  have p1 : L1.Perm L := perm_of L1 s1L (by rw [← e1]; exact pm)
  refine wpAny_bind (wpAny_newList ?_ (by rw [sizeLine_eq]; omega))
  have oL : (s1.heap.push (seqObj "list" vs.toArray 0)).get? s1.heap.objs.size = some (seqObj "list" vs.toArray 0) := Heap.get?_push_size _ rfl
  have tp : ∀ q ∈ L, IsT P w (s1.heap.push (seqObj "list" vs.toArray 0)) q.2 q.1 := fun q hq => isT_keep (R.tup q hq) fun b u e => Heap.get?_push_of_some _ (k1 b u e)
  have ei : EachIs (fun v (b : Addr × List Int) => v = Value.ref b.1) vs L1 := by
    rw [e1]
    exact (by
      have : ∀ l : List (Addr × List Int), EachIs (fun v (b : Addr × List Int) => v = Value.ref b.1) (l.map fun q => Value.ref q.1) l := fun l => by
        induction l with
        | nil => exact .nil
        | cons x l ih => exact .cons rfl ih
      exact this L1)
  have er : EachIs (fun v (b : Addr × List Int) => ∃ as, Reads (s1.heap.push (seqObj "list" vs.toArray 0)) v (tkD b.2) as ∧ s1.heap.objs.size ∉ as) vs L1 := (each_mem ei).mono fun v b ⟨hv, hb⟩ => ⟨[], by rw [hv]; exact isT_reads (tp b (s1L b hb)), by simp⟩
  refine wpAny_bind (wpAny_holding (list_sort_data (prog := P) (w := w) (s := { s1 with heap := s1.heap.push (seqObj "list" vs.toArray 0) }) (enc := fun b : Addr × List Int => tkD b.2) oL ei er ?_ ?_ ?_ ?_ fun out lo eo => ?_))
  · exact AllAlike.of fun a b => alike_tk a.2 b.2
  · refine .inl fun d hd => ?_
    obtain ⟨q, hq, rfl⟩ := List.mem_map.mp hd
    have := hne q (s1L q hq)
    cases e : q.2 with
    | nil => exact absurd e this
    | cons x xs => exact ⟨.int x, xs.map .int, rfl⟩
  · rw [← ei.length, sizeLine_eq]
    omega
  · intro b _
    rw [depth_tk]
    show A.in1.units + 1 + 1 < cLine
    have : A.in1.units = A.units + 1 := by rfl
    omega
  · obtain ⟨c, hc⟩ := sortedHeap_at (vs := vs) (out := out.toArray) oL
    have eo2 : out = (L1.mergeSort (dataLe false fun b : Addr × List Int => tkD b.2)).map fun q => Value.ref q.1 := by
      have go : ∀ {us : List Value} {l : List (Addr × List Int)}, EachIs (fun v (b : Addr × List Int) => v = Value.ref b.1) us l → us = l.map fun q => Value.ref q.1 := fun {us l} h => by
        induction h with
        | nil => rfl
        | cons h _ ih => rw [h, ih]; rfl
      exact go eo
    refine wpAny_pure ⟨_, rfl, hQ _ s1.heap.objs.size out c _ (fun b u e => ?_) g1 o1 hz hc eo2 ((List.mergeSort_perm _ _).trans p1) ?_⟩
    · have q := k1 b u e
      have hlt := Heap.lt_size q
      show (sortedHeap (s1.heap.push (seqObj "list" vs.toArray 0)) s1.heap.objs.size vs out.toArray).get? b = some u
      rw [sortedHeap_old (Nat.ne_of_lt hlt) (by rw [size_push']; exact Nat.lt_succ_of_lt hlt)]
      exact Heap.get?_push_of_some _ q
    · have e3 : (dataLe false fun b : Addr × List Int => tkD b.2) = fun p q => decide (p.2 ≤ q.2) := by
        funext p q
        exact le_tk p.2 q.2
      rw [e3]
      refine (List.pairwise_mergeSort (le := fun p q : Addr × List Int => decide (p.2 ≤ q.2)) (fun a b c h1 h2 => ?_) (fun a b => ?_) L1).imp fun h => of_decide_eq_true h
      · exact decide_eq_true (List.le_trans (of_decide_eq_true h1) (of_decide_eq_true h2))
      · rcases List.le_total a.2 b.2 with h | h
        · simp [h]
        · simp [h]
end
/-! ### over trees -/
def tupI (k : List Int) : D := .tup (k.map .int)
theorem tupI_inj {a b : List Int} (h : tupI a = tupI b) : a = b := by
  have h2 : a.map D.int = b.map D.int := by injection h
  exact (List.map_inj_right (fun _ _ e => by injection e)).mp h2
/-- each once, ascending -/
def sortK (ks : List (List Int)) : List (List Int) := (ks.eraseDups).mergeSort fun a b => decide (a ≤ b)
/-- sorted(set(xs)): tuples of ints, none empty -/
def SetOk (ks : List (List Int)) : Prop := ks.length < 64 ∧ ∀ k ∈ ks, k ≠ []
def toKs : List D → Option (List (List Int))
  | [] => some []
  | .tup xs :: ds => (toIs xs).bind fun k => (toKs ds).map (k :: ·)
  | _ => none
where
  toIs : List D → Option (List Int)
  | [] => some []
  | .int i :: ds => (toIs ds).map (i :: ·)
  | _ => none
theorem toIs_eq : ∀ {xs : List D} {k : List Int}, toKs.toIs xs = some k → xs = k.map .int
  | [], _, h => by cases h; rfl
  | .int i :: ds, _, h => by
    obtain ⟨k, h1, h2⟩ := Option.map_eq_some_iff.mp (show (toKs.toIs ds).map (i :: ·) = _ from h)
    subst h2
    rw [toIs_eq h1]
    rfl
  | .non :: _, _, h => by cases h
  | .bl _ :: _, _, h => by cases h
  | .str _ :: _, _, h => by cases h
  | .tup _ :: _, _, h => by cases h
  | .lst _ :: _, _, h => by cases h
  | .fro _ :: _, _, h => by cases h
  | .dct _ _ :: _, _, h => by cases h
  | .obj _ _ _ :: _, _, h => by cases h
  | .loc _ :: _, _, h => by cases h
  | .exn _ _ _ :: _, _, h => by cases h
theorem toKs_eq : ∀ {xs : List D} {k : List (List Int)}, toKs xs = some k → xs = k.map tupI
  | [], _, h => by cases h; rfl
  | .tup xs :: ds, _, h => by
    obtain ⟨k, h1, h2⟩ := Option.bind_eq_some_iff.mp (show (toKs.toIs xs).bind _ = _ from h)
    obtain ⟨ks, h3, h4⟩ := Option.map_eq_some_iff.mp h2
    subst h4
    rw [toIs_eq h1, toKs_eq h3]
    rfl
  | .non :: _, _, h => by cases h
  | .bl _ :: _, _, h => by cases h
  | .str _ :: _, _, h => by cases h
  | .int _ :: _, _, h => by cases h
  | .lst _ :: _, _, h => by cases h
  | .fro _ :: _, _, h => by cases h
  | .dct _ _ :: _, _, h => by cases h
  | .obj _ _ _ :: _, _, h => by cases h
  | .loc _ :: _, _, h => by cases h
  | .exn _ _ _ :: _, _, h => by cases h
theorem toIs_map : ∀ k : List Int, toKs.toIs (k.map .int) = some k
  | [] => rfl
  | i :: k => by show (toKs.toIs (k.map .int)).map (i :: ·) = _; rw [toIs_map k]; rfl
theorem toKs_map : ∀ ks : List (List Int), toKs (ks.map tupI) = some ks
  | [] => rfl
  | k :: ks => by show (toKs.toIs (k.map .int)).bind _ = _; rw [toIs_map k, Option.bind_some, toKs_map ks]; rfl
def setB (ks : List (List Int)) : Bool := decide (ks.length < 64) && ks.all fun k => !k.isEmpty
def fSortSet : Fn := fun ds st => match ds with
  | [d] => (match asS st d with
    | some xs => (match toKs xs with
      | some ks => if setB ks = true then .ok (.lst ((sortK ks).map tupI)) st else .bad
      | none => .bad)
    | none => .bad)
  | _ => .bad
theorem nodup_dups {α : Type} [BEq α] [LawfulBEq α] : ∀ (n : Nat) (l : List α), l.length ≤ n → l.eraseDups.Nodup
  | _, [], _ => by simp
  | 0, _ :: _, h => by simp at h
  | n + 1, a :: l, h => by
    rw [List.eraseDups_cons, List.nodup_cons]
    have hl : (l.filter fun b => !b == a).length ≤ n := Nat.le_trans (List.length_filter_le _ _) (by simpa using h)
    refine ⟨fun hm => ?_, nodup_dups n _ hl⟩
    rw [List.mem_eraseDups, List.mem_filter] at hm
    simp at hm
/-- ascending rows with the same members, none twice, are one -/
theorem rows_uniq : ∀ {a b : List (List Int)}, a.Nodup → b.Nodup → a.Pairwise (· ≤ ·) → b.Pairwise (· ≤ ·) → (∀ k, k ∈ a ↔ k ∈ b) → a = b := fun {a b} na nb pa pb h => by
  have p : a.Perm b := (List.perm_ext_iff_of_nodup na nb).mpr h
  exact p.eq_of_pairwise (fun x y _ _ h1 h2 => List.le_antisymm h1 h2) pa pb
theorem sortK_ok (ks : List (List Int)) : (sortK ks).Nodup ∧ (sortK ks).Pairwise (· ≤ ·) ∧ ∀ k, k ∈ sortK ks ↔ k ∈ ks := by
  refine ⟨?_, ?_, fun k => ?_⟩
  · unfold sortK
    exact (List.mergeSort_perm _ _).nodup_iff.mpr (nodup_dups _ _ (Nat.le_refl _))
  · refine (List.pairwise_mergeSort (le := fun p q : List Int => decide (p ≤ q)) (fun a b c h1 h2 => ?_) (fun a b => ?_) _).imp fun h => of_decide_eq_true h
    · exact decide_eq_true (List.le_trans (of_decide_eq_true h1) (of_decide_eq_true h2))
    · rcases List.le_total a b with h | h
      · simp [h]
      · simp [h]
  · unfold sortK
    rw [(List.mergeSort_perm _ _).mem_iff, List.mem_eraseDups]
section
variable {X : Cx} {G : Cn} {E : ES} {p p2 pos pos2 : Pos} {e : Expr} {ms : M (List D)}
/-- set(xs), set(t) -/
def rSetA (K : PySem.W.Frag) (P : Program) (w : World) : List V → Hp → VK → Prop := fun xs H Q => ∃ (l : Addr) (kz : List (Addr × List Int)), xs = [V.ref l] ∧ (SqL K H l (kz.map fun p => V.ref p.1) ∨ SqT K H l (kz.map fun p => V.ref p.1)) ∧ (∀ p ∈ kz, SqT K H p.1 (p.2.map V.int)) ∧ kz.length < 64 ∧
  ∀ a L, H a = none → (∀ p ∈ L, p ∈ kz) → (∀ p ∈ kz, p.2 ∈ L.map (·.2)) → (L.map (·.2)).Nodup → Q (.ref a) (upd H a (SetTO P w a L))
theorem cr_setA (hc : X.calm = true) (hu : X.A.units + 64 < cLine) : CallR X (.type "set") (rSetA X.K X.prog X.w) := by
  intro pins s σ H xs us Q I r h
  obtain ⟨l, kz, rfl, hl, hk, hf, q⟩ := h
  rw [Vals.ref1 r]
  have hn : H s.heap.objs.size = none := I.hok.fresh (Nat.le_refl _)
  have fin : ∀ (h' : Heap) (tk : Nat) L es ep t, SetTR X.prog X.w h' s.heap.objs.size L es ep t → Got kz kz.length L → (∀ b o, s.heap.get? b = some o → h'.get? b = some o) → EP X pins σ Q (.ref s.heap.objs.size) { s with heap := h', toks := tk } := fun h' tk L es ep t R g kp => by
    refine ⟨.ref s.heap.objs.size, upd H s.heap.objs.size (SetTO X.prog X.w s.heap.objs.size L), I.laid (t' := tk) kp (Nat.le_refl _) (setTO_new R.t0), rfl, q _ L hn (fun p hp => List.mem_of_mem_take (g.sub p hp)) (fun p hp => g.all p (by rw [List.take_length]; exact hp)) R.nd⟩
  rcases hl with hl | hl
  · obtain ⟨its, rv, pl, hz⟩ := I.list hl
    exact call_set_tups (P := X.prog) (w := X.w) kz (I.ok.hd hc) pl.isList (by simpa using refs_of_vals rv) (fun p hp => I.isT (hk p hp)) hf (by omega) fin
  · obtain ⟨its, rv, pl, hz⟩ := I.tuple hl
    exact set_of_tup (P := X.prog) (w := X.w) kz (I.ok.hd hc) (show s.heap.IsTuple l its.toArray from pl) (by simpa using refs_of_vals rv) (fun p hp => I.isT (hk p hp)) hf (by omega) fin
/-- sorted(set) -/
def rSortA (K : PySem.W.Frag) (P : Program) (w : World) : List V → Hp → VK → Prop := fun vs H Q => ∃ (a : Addr) (L : List (Addr × List Int)), vs = [V.ref a] ∧ H a = some (SetTO P w a L) ∧ (∀ p ∈ L, SqT K H p.1 (p.2.map V.int)) ∧ (∀ p ∈ L, p.2 ≠ []) ∧
  ∀ (L' : List (Addr × List Int)) (p : Addr), L'.Perm L → L'.Pairwise (fun q r => q.2 ≤ r.2) → H p = none → Q (.ref p) (upd H p (.lst (L'.map fun q => V.ref q.1)))
theorem cr_sortA (hc : X.calm = true) (hu : X.A.units + 64 < cLine) : CallR X (.builtin "sorted") (rSortA X.K X.prog X.w) := by
  intro pins s σ H vs us Q I r h
  obtain ⟨a, L, rfl, ha, hk, hne, q⟩ := h
  have R0 : SetT0 X.prog X.w s.heap a L := (I.hok a _ ha).1
  obtain ⟨es, ep, t, R⟩ := R0.full fun p hp => I.isT (hk p hp)
  rw [Vals.ref1 r]
  refine sort_of_set R (I.ok.hd hc) hu hne fun s' p out c L' k g o hp hg hout pm pw => ?_
  have few : L'.length < 64 := by rw [pm.length_eq]; exact R.few
  have hlen : (L'.map fun q => V.ref q.1).length ≤ sizeLine := by rw [List.length_map, sizeLine_eq]; omega
  have hn : H p = none := I.hok.fresh hp
  have hv : Vals (L'.map fun q => V.ref q.1) out := by rw [hout]; exact vals_of_refs L'
  have J : Inv X pins σ (upd H p (.lst (L'.map fun q => V.ref q.1))) { s with heap := s'.heap, gens := s'.gens, drawn := s'.drawn, toks := s'.toks } :=
    I.call (ch := []) (Un.laid k hp hn) (I.hok.laid k hp ⟨hlen, out, c, hv, hg⟩) (by rw [g]; exact I.bare) (fun _ z => nomatch z)
  have e : s' = { s with heap := s'.heap, gens := s'.gens, drawn := s'.drawn, toks := s'.toks } := by
    cases s'
    cases s
    cases o
    rfl
  rw [e]
  exact ⟨.ref p, _, J, rfl, q L' p pm pw hn⟩
theorem reps_ints {B : Addr → Prop} {W : Wd} : ∀ {k : List Int} {vs : List V}, Reps G B W vs (k.map .int) → vs = k.map V.int
  | [], _, h => by cases h; rfl
  | i :: k, _, h => by
    have h' : Reps G B W _ (D.int i :: k.map .int) := h
    cases h' with
    | cons h t => cases h; rw [reps_ints t]; rfl
theorem ints_reps {B : Addr → Prop} {W : Wd} : ∀ (k : List Int), Reps G B W (k.map V.int) (k.map .int)
  | [] => .nil
  | i :: k => .cons (.int i) (ints_reps k)
/-- tuples of ints, with where they stand -/
theorem reps_tups {B : Addr → Prop} {W : Wd} : ∀ {ks : List (List Int)} {vs : List V}, Reps G B W vs (ks.map tupI) → ∃ kz : List (Addr × List Int), vs = kz.map (fun p => V.ref p.1) ∧ kz.map (·.2) = ks ∧ ∀ p ∈ kz, SqT G.K W.H p.1 (p.2.map V.int)
  | [], _, h => by cases h; exact ⟨[], rfl, rfl, by simp⟩
  | k :: ks, _, h => by
    have h' : Reps G B W _ (tupI k :: ks.map tupI) := h
    cases h' with
    | cons h t =>
      obtain ⟨kz, e1, e2, e3⟩ := reps_tups t
      cases h with
      | @tup a vs _ h1 h2 =>
        have e4 := reps_ints h2
        subst e4
        refine ⟨(a, k) :: kz, by rw [e1]; rfl, by rw [List.map_cons, e2], fun p hp => ?_⟩
        rcases List.mem_cons.mp hp with rfl | hp
        · exact h1
        · exact e3 p hp
theorem tups_reps {B : Addr → Prop} {W : Wd} : ∀ (kz : List (Addr × List Int)), (∀ p ∈ kz, SqT G.K W.H p.1 (p.2.map V.int)) → Reps G B W (kz.map fun p => V.ref p.1) ((kz.map (·.2)).map tupI)
  | [], _ => .nil
  | p :: kz, h => .cons (.tup (h p (by simp)) (ints_reps p.2)) (tups_reps kz fun q hq => h q (by simp [hq]))
theorem SqT_upd {K : PySem.W.Frag} {H : Hp} {a b : Addr} {o : HO} {vs : List V} (h : SqT K H a vs) (hb : H b = none) : SqT K (upd H b o) a vs := by
  have k : ∀ c u, H c = some u → upd H b o c = some u := fun c u e => (upd_ne (ne_of_none e hb)).trans e
  rcases h with (h | ⟨u, h⟩) | h
  · exact .inl (.inl (k _ _ h))
  · exact .inl (.inr ⟨u, k _ _ h⟩)
  · exact .inr h
theorem j_sortSet {k : Nat} (rm : Rm k X.A) (hc : X.calm = true) (ha : PA X [e] (tA G E ms)) (hm : X.mg "sorted" = none) (hm2 : X.mg "set" = none) (hK : G.K = X.K := by rfl) (hg : Gl X "sorted" := by rfl) (hg2 : Gl X "set" := by rfl)
    (he : starEach [e] X.env = (false, eval e X.env) :: starEach [] X.env := by rfl) (hpl : (backTo pos2 (starEach [] X.env)).any (·.1) = false := by rfl)
    (he2 : starEach [.Call (.Name "set" p2) [e] [] pos2] X.env = (false, eval (.Call (.Name "set" p2) [e] [] pos2) X.env) :: starEach [] X.env := by rfl) (hpl2 : (backTo pos (starEach [] X.env)).any (·.1) = false := by rfl) :
    PE X (.Call (.Name "sorted" p) [.Call (.Name "set" p2) [e] [] pos2] [] pos) (tE G E (mCall fSortSet ms)) := by
  refine PE.weak (pe_callB (cr_sortA hc rm.units) hg hm (by decide +kernel) (pa_cons (pe_callTy (cr_setA hc rm.units) hg2 hm2 (by decide +kernel) ha (he := he) (hpl := hpl)) pa_nil) (he := he2) (hpl := hpl2)) fun σ H Q ⟨B, W, env, e1, R, S, o⟩ => ?_
  subst e1
  show tA G E ms σ W.H fun vs H1 => rSetA X.K X.prog X.w vs H1 fun x H2 => rSortA X.K X.prog X.w [x] H2 Q
  refine tA_of R S o fun ds W1 vs x1 R1 S1 r1 o1 => ?_
  match ds, r1, o1 with
  | [], _, o1 => exact o1.elim
  | _ :: _ :: _, _, o1 => exact o1.elim
  | [d], .cons rd .nil, o1 =>
    simp only [fSortSet] at o1
    cases e1 : asS W1.st d with
    | none => rw [e1] at o1; exact o1.elim
    | some xs =>
      rw [e1] at o1
      simp only at o1
      cases e2 : toKs xs with
      | none => rw [e2] at o1; exact o1.elim
      | some ks =>
        rw [e2] at o1
        simp only at o1
        by_cases c : setB ks = true
        · rw [if_pos c] at o1
          unfold setB at c
          rw [Bool.and_eq_true, decide_eq_true_eq, List.all_eq_true] at c
          have ex := toKs_eq e2
          subst ex
          obtain ⟨a, us, rfl, hs, rs⟩ := Rep.asS R1 rd e1
          obtain ⟨kz, z1, z2, z3⟩ := reps_tups rs
          subst z1
          rw [hK] at hs z3
          refine ⟨a, kz, rfl, hs, z3, by rw [← z2, List.length_map] at c; exact c.1, fun b L hb sub all nd => ?_⟩
          have hT : ∀ p ∈ L, SqT X.K (upd W1.H b (SetTO X.prog X.w b L)) p.1 (p.2.map V.int) := fun p hp => SqT_upd (z3 p (sub p hp)) hb
          refine ⟨b, L, rfl, upd_same, hT, fun p hp he => ?_, fun L' q pm pw hq => ?_⟩
          · have := c.2 p.2 (by rw [← z2]; exact List.mem_map.mpr ⟨p, sub p hp, rfl⟩)
            rw [he] at this
            cases this
          · obtain ⟨s1, s2, s3⟩ := sortK_ok ks
            have eL : L'.map (·.2) = sortK ks := by
              refine rows_uniq ((pm.map (·.2)).nodup_iff.mpr nd) s1 (List.pairwise_map.mpr pw) s2 fun k => ?_
              rw [s3, (pm.map (·.2)).mem_iff, ← z2]
              constructor
              · intro h
                obtain ⟨p, hp, e⟩ := List.mem_map.mp h
                exact List.mem_map.mpr ⟨p, sub p hp, e⟩
              · intro h
                obtain ⟨p, hp, e⟩ := List.mem_map.mp h
                exact e ▸ all p hp
            have W2 := W1.new b (SetTO X.prog X.w b L)
            have x2 := Ext.new (W := W1) (p := b) (o := SetTO X.prog X.w b L) R1.len hb
            have R2 := R1.new (p := b) (o := SetTO X.prog X.w b L) hb
            have x3 := Ext.new (W := W1.new b (SetTO X.prog X.w b L)) (p := q) (o := .lst (L'.map fun q => V.ref q.1)) R2.len hq
            have R3 := R2.new (p := q) (o := .lst (L'.map fun q => V.ref q.1)) hq
            refine o1 ((W1.new b (SetTO X.prog X.w b L)).new q (.lst (L'.map fun q => V.ref q.1))) (x2.trans x3) R3 rfl _ ?_
            refine Rep.newL R2 hq ?_
            have := tups_reps (G := G) (B := B) (W := W1.new b (SetTO X.prog X.w b L)) L' fun p hp => by rw [hK]; exact hT p (pm.mem_iff.mp hp)
            rw [eL] at this
            exact this
        · rw [if_neg c] at o1
          exact o1.elim
end
end DL

set_option maxHeartbeats 4000000
/-! DD: errors of the text under LookupError: made, raised. -/
namespace DL
section
open PySem PySem.HandSPX Builtin Builtin.ObjectAttr
abbrev leTail : List Value := [.type "LookupError", .type "Exception", .type "BaseException", .type "object"]
/-- own classes, then LookupError's mro -/
def refsLE : List Value → Bool
  | .ref _ :: rr => refsLE rr
  | ll => ll == leTail
theorem refsLE_cases : ∀ ll : List Value, refsLE ll = true → (∃ cc rr, ll = .ref cc :: rr ∧ refsLE rr = true) ∨ ll = leTail
  | [], ee => .inr (beq_iff_eq.mp ee)
  | .ref cc :: rr, ee => .inl ⟨cc, rr, rfl, ee⟩
  | .none :: _, ee => .inr (beq_iff_eq.mp ee)
  | .ellipsis :: _, ee => .inr (beq_iff_eq.mp ee)
  | .notImplemented :: _, ee => .inr (beq_iff_eq.mp ee)
  | .bool _ :: _, ee => .inr (beq_iff_eq.mp ee)
  | .int _ _ :: _, ee => .inr (beq_iff_eq.mp ee)
  | .float _ _ :: _, ee => .inr (beq_iff_eq.mp ee)
  | .str _ _ :: _, ee => .inr (beq_iff_eq.mp ee)
  | .bytes _ _ :: _, ee => .inr (beq_iff_eq.mp ee)
  | .type _ :: _, ee => .inr (beq_iff_eq.mp ee)
  | .builtin _ :: _, ee => .inr (beq_iff_eq.mp ee)
theorem refsLE_pass (self : Value) : ∀ ll : List Value, refsLE ll = true → refuseLoop self "__setattr__" ll = pure () := by
  intro ll
  induction ll with
  | nil => intro ee; exact absurd ee (by decide)
  | cons aa rr ih0 =>
    intro ee
    rcases refsLE_cases (aa :: rr) ee with ⟨cc, r', qq, hh⟩ | qq
    · obtain ⟨rfl, rfl⟩ := List.cons.inj qq
      rw [refuseLoop_ref]; exact ih0 hh
    · rw [qq]; exact F.store_LookupError.passes self
theorem refsLE_contains (XN : String) : ∀ ll : List Value, refsLE ll = true → ll.contains (.type XN) = leTail.contains (.type XN) := by
  intro ll
  induction ll with
  | nil => intro ee; exact absurd ee (by decide)
  | cons aa rr ih0 =>
    intro ee
    rcases refsLE_cases (aa :: rr) ee with ⟨cc, r', qq, hh⟩ | qq
    · obtain ⟨rfl, rfl⟩ := List.cons.inj qq
      rw [List.contains_cons, ih0 hh]; rfl
    · rw [qq]
theorem refsLE_ne {ll : List Value} (ee : refsLE ll = true) : ll.isEmpty = false := by
  cases ll with
  | nil => exact absurd ee (by decide)
  | cons _ _ => rfl

end
section
open PySem PySem.HandSPX Builtin Builtin.ObjectAttr PySem.W PySem.Calls PyProof.Rows
variable {prog : Program} {w : World} {A : Around} {E : Value → Shared → Prop} {R : Result → Shared → Prop} {hp : Heap} {g : Array GenState} {d : Drawn} {t : Nat} {os : OsState}
theorem exc_osaL {K : W.Frag} {nme : Str} {tk : Tok} {vv : Value} {x C : Addr} {fv0 : Array Value} {cd0 : ClassData}
    (XX : K.In hp) (hx0 : hp.get? x = some { cls := .ref C, data := .fields fv0 }) (hcd0 : W.clsIn K C = some cd0) (hm0 : refsLE cd0.mro = true) (hh0 : cd0.hasDict = true) (ha0 : W.findIn K (.ref C) nme = some none)
    (hq0 : ∀ hp2 tk2 dx0, (∀ b o, b ≠ x → hp.get? b = some o → hp2.get? b = some o) → hp.objs.size ≤ dx0 → dx0 ≠ x → hp2.get? x = some { cls := .ref C, dict := some dx0, data := .fields fv0 } →
      hp2.Ns1 dx0 (fun y => if y = nme then some vv else none) → R (.ok (.ret .none)) ⟨hp2, g, d, tk2, os⟩) :
    codeAny (model prog w) A (.call (.builtin "object.__setattr__") ⟨[.ref x, .str nme tk, vv], []⟩) R ⟨hp, g, d, t, os⟩ := by
  have I : W.InstAt hp x { cls := .ref C, data := .fields fv0 } C none := ⟨hx0, rfl, rfl, trivial⟩
  have SF0 := F.store_object
  have ne0 := refsLE_ne hm0
  have hob0 : cd0.mro.contains (.type "object") = true := (refsLE_contains "object" _ hm0).trans (by decide +kernel)
  have hxs0 : x ≠ hp.objs.size := Nat.ne_of_lt (Heap.lt_size hx0)
  have sub0 : W.Looks (model prog w) hp (isInstance (.ref x) (.type "object")) true := I.type.andThen (W.looks_mroIn XX (by unfold W.mroIn; rw [hcd0, Option.bind_some, if_neg (by rw [ne0]; decide), hob0]))
  refine codeAny_call_builtin SF0.slot.plain SF0.entry (@W.check_slot (model prog w) _ _ ⟨hp, g, d, t, os⟩ "object.__setattr__" "object" "__setattr__" (.ref x) [.str nme tk, vv] [] _ SF0.kind SF0.split sub0 (SF0.args (.ref x) (.str nme tk) vv) ?_)
  have hmr0 : W.Looks (model prog w) hp (mroOf (.ref C)) cd0.mro := (W.looks_clsIn XX hcd0).andThen .now
  have LL3 : W.Looks (model prog w) hp (storeTaker? none) none := .now
  have hcls0 : W.Looks (model prog w) hp (classData C) cd0 := W.looks_clsIn XX hcd0
  rw [W.osa_eq, refuse_eq]
  refine wpAny_bind (wpAny_bind (I.type.at (wpAny_bind (hmr0.at ?_))))
  rw [refsLE_pass _ _ hm0]
  refine wpAny_pure (wpAny_bind (I.type.at (wpAny_bind ((W.looks_findIn XX ha0).at (wpAny_bind (LL3.at ?_))))))
  show wpAny _ _ (storeInOwnDict (.ref x) (.ref C) (.str nme tk) nme vv false) _ _ _
  obtain ⟨nm0, bs0, mro, ns0, qn, hd, sn, sb, ab, col, del⟩ := cd0
  dsimp only at hh0
  subst hh0
  unfold storeInOwnDict ownDictForStores
  repeat (first | with_reducible refine store_in_new ?_ ?_ | with_reducible refine wpAny_loadPart_at hx0 ?_ | with_reducible refine hcls0.at ?_ | wp_step)
  · exact ⟨_, #[], _, (Heap.get?_update_ne _ _ _ _ hxs0.symm).trans (Heap.get?_push_at rfl rfl), rfl, fun e he => absurd he (by simp), fun _ => rfl⟩
  · intro hp2 tk2 hn2 hs0
    have hx₁ : (hp.push { cls := .type "dict", data := .dict #[] }).get? x = some { cls := .ref C, data := .fields fv0 } := Heap.get?_push_of_some _ hx0
    refine hq0 hp2 tk2 hp.objs.size (fun b o hb ho => ?_) (Nat.le_refl _) hxs0.symm ?_ hn2
    · exact (hs0.2 b (Nat.ne_of_lt (Heap.lt_size ho))).trans ((Heap.get?_update_ne _ _ _ _ hb).trans (Heap.get?_push_of_some _ ho))
    · exact (hs0.2 x hxs0).trans (Heap.get?_update_self _ hx₁ rfl)
end
section
open PySem PySem.Spec PyProof.Rows L2
structure OexL (K : PySem.W.Frag) (C : Addr) : Prop where
  cls : ∃ nm q N bs bm sn sub ab col dd k0 k1 k2 k3 k5, K.lookup C = some (excClassObj nm q C N bs bm true sn sub ab col dd k0 k1 k2 k3 k5 "LookupError.__new__") ∧ refsLE bm = true
  sa : PySem.W.findIn K (.ref C) "__setattr__" = some (some (.builtin "object.__setattr__"))
  exC : PySem.W.subIn K (.ref C) (.type "BaseException") = some true
  tyC : PySem.W.typeIn K (.ref C) = some (.type "type")
  kC : PySem.W.keepIn K (.ref C) = true
section
variable {X : Cx} {pins : List (Addr × Obj)} {σ : L2.St} {H : Hp} {s : Shared} {a C dx : Addr} {f : Str} {y : V} {u : Value} {fs : List (Str × V)} {Q : Unit → Shared → Prop} {E : Value → Shared → Prop} {A : Around}
theorem ost_newL (TT : OexL X.K C) (II : Inv X pins σ H s) (e : H a = some (exo a C none)) (hno0 : PySem.W.findIn X.K (.ref C) f = some none) (ry0 : RelV y u)
    (h : ∀ dx s', H dx = none → dx ≠ a → Inv X pins σ (upd (upd H dx (exd dx [(f, y)])) a (exo a C (some dx))) s' → Q () s') : wpAny (model X.prog X.w) A (setAttr (.ref a) f u) Q E s := by
  obtain ⟨nm0, q9, NN, bs0, bm0, sn, sub, ab, col, dd, k0, k1, k2, k3, k5, hC0, hbm0⟩ := TT.cls
  have hcl0 : PySem.W.clsIn X.K C = some { name := nm0, bases := bs0, mro := .ref C :: bm0, ns := NN, qualname := q9, hasDict := true, slotNames := sn, subclasses := sub, abstract := ab, collection := col, hasDel := false } := by unfold PySem.W.clsIn; rw [hC0] <;> rfl
  obtain ⟨t1, ho0⟩ := exo_at II.hok e
  obtain ⟨hp, g, d, t, os⟩ := s
  refine PySem.W.set_plain II.kIn (ox := { cls := .ref C, dict := none, data := .fields #[.ref t1, .none, .none, .none, .bool false, .none] }) (od := none) ⟨ho0, rfl, rfl, trivial⟩ TT.sa ?_
  refine exc_osaL II.kIn ho0 hcl0 (show refsLE (.ref C :: bm0) = true from hbm0) rfl hno0 (fun h' tk' dx kp dn dne hx1 hn0 => ?_)
  have hnd0 : H dx = none := II.hok.fresh dn
  have nd0 : ∀ {b : Addr} {o9 : Obj}, hp.get? b = some o9 → b ≠ dx := fun {b o9} q9 => Nat.ne_of_lt (Nat.lt_of_lt_of_le (Heap.lt_size q9) dn)
  have na0 : ∀ {b : Addr}, H b = none → b ≠ a := fun {b} n z => by
    rw [z, e] at n
    cases n
  have UU : Un X.fs [] H (upd (upd H dx (exd dx [(f, y)])) a (exo a C (some dx))) hp h' := {
    keep := fun b o9 q9 n _ _ => kp b o9 (na0 n) q9
    slot := fun b o9 q9 n _ _ => ⟨o9.slots, kp b o9 (na0 n) q9⟩
    free := fun b o9 q9 n _ => by rw [upd_ne (na0 n), upd_ne (nd0 q9)]; exact n
    there := fun b o9 q9 _ => by
      by_cases hb : b = a
      · exact ⟨_, by rw [hb]; exact hx1⟩
      · exact ⟨o9, kp b o9 hb q9⟩
    tups := fun b xs q9 => by rw [upd_ne (at_ne e q9 exo_tup), upd_ne (ne_of_none q9 hnd0)]; exact q9
    frzs := fun b o9 v q9 => by rw [upd_ne (at_ne e q9 exo_frz), upd_ne (ne_of_none q9 hnd0)]; exact q9
    tbls := fun b ps q9 => ⟨#[], by rw [upd_ne (at_ne e q9 exo_tbl), upd_ne (ne_of_none q9 hnd0), q9]; simp⟩ }
  refine h dx _ hnd0 dne (II.un (t' := tk') UU fun b o9 q9 => ?_)
  by_cases hb : b = a
  · subst hb
    rw [upd_same] at q9
    cases q9
    exact exo_ok hx1
  · rw [upd_ne hb] at q9
    by_cases hd : b = dx
    · subst hd
      rw [upd_same] at q9
      cases q9
      exact exd_ok hn0 (relO_put (fs := []) ry0 fun g => True.intro)
    · rw [upd_ne hd] at q9
      exact (II.hok b o9 q9).stay (fun c v hc z => kp c v (by
          rcases hc with hc | hc
          · rw [hc]
            exact hb
          · exact at_ne e hc exo_own) z)
        (fun c hc => by rw [upd_ne (at_ne e hc exo_own), upd_ne (ne_of_none hc hnd0)]; exact hc) (fun c xs hc => by rw [upd_ne (at_ne e hc exo_tup), upd_ne (ne_of_none hc hnd0)]; exact hc)
end
/-- self.f = e, the one field -/
def tOstL (K : PySem.W.Frag) (f : Str) (to te : TE) : TS := fun D σ H => te σ H fun y H1 => to σ H1 fun x H2 => ∃ a C : Addr, x = .ref a ∧ OexL K C ∧ PySem.W.findIn K (.ref C) f = some none ∧
  H2 a = some (exo a C none) ∧ ∀ dx, H2 dx = none → dx ≠ a → D.nx σ (upd (upd H2 dx (exd dx [(f, y)])) a (exo a C (some dx)))
section
variable {X : Cx} {o e : Expr} {es : List Expr} {to te : TE} {ta : TA} {f : Str} {p p' p1 p2 pos : Pos}
theorem ps_ostL (ho : PE X o to) (he : PE X e te) (hs : swapsWith e (some (.Attribute o f p')) pos.line X.env = pure false := by rfl) : PS X (.Assign [.Attribute o f p'] e pos) (tOstL X.K f to te) := by
  refine ⟨fun pins s σ H D I h => ?_⟩
  refine plainObj_wpAny_Assign_Attribute (thn (he.run pins s σ H _ I h) fun v s1 ⟨y, H1, I1, r1, q1⟩ => thn (ho.run pins s1 σ H1 _ I1 q1) fun u s2 ⟨x, H2, I2, r2, a, C, ex, T, hno, q⟩ => ?_) hs
  subst ex
  obtain rfl : u = Value.ref a := r2
  obtain ⟨ea, q⟩ := q
  exact ost_newL T I2 ea hno r1 fun dx s' n ne J => ⟨σ, _, J, q dx n ne⟩
theorem pmk_oexL {CX : CXT} {x : Str} {C fI : Addr} {k : Nat} {fd : FuncData} {ps : List Str} {sp : Sp} {ds : List Value} {dvs : List V} (TT : OexL X.K C) (iC0 : PySem.W.findIn X.K (.ref C) "__init__" = some (some (.ref fI))) (tI0 : PySem.W.typeIn X.K (.ref fI) = some (.type "function"))
    (FF1 : FnOk X.prog X.w X.K X.mg X.base CX k fI fd ps sp) (hr0 : Room (k + 1) X.A) (hb0 : Binds X.K fd ps ds) (hd : Vals dvs ds) (hx0 : Passes CX X (fun _ _ _ => False)) (hg0 : Gl X x) (hm0 : X.mg x = some (.ref C)) (ha0 : PA X (e :: es) ta)
    (hdb0 : (x == ("__debug__" : Str)) = false := by decide) (he0 : starEach (e :: es) X.env = (false, eval e X.env) :: starEach es X.env := by rfl) (hpl0 : (backTo pos (starEach es X.env)).any (·.1) = false := by rfl) :
    PMk X (.Call (.Name x p) (e :: es) [] pos) (tMkO C sp dvs ta) := by
  intro pins s σ H Q I h
  obtain ⟨nm, q, N, bs, bm, sn, sub, ab, col, dd, k0, k1, k2, k3, k5, hC, hbm⟩ := TT.cls
  refine wpAny_Call_Name_kw (ld_glob I hg0 hm0 ?_ hdb0)
  refine PySem.W.callWith_K (h₀ := X.base) I.ok.mod.kin TT.kC (thn (ha0.run pos pins s σ H _ I h) fun us s1 ⟨vs, H1, I1, r1, hz0, q1⟩ => ⟨I1.kIn, ?_⟩) he0 hpl0
  show wpAny _ _ (call (.ref C) us) _ _ _
  obtain ⟨hp, g, dr, tk, os⟩ := s1
  have hsz0 : hp.objs.size ≤ hp.objs.size + 1 := Nat.le_succ _
  have hn0 : H1 (hp.objs.size + 1) = none := I1.hok.fresh hsz0
  have hq0 := q1 (hp.objs.size + 1) hn0
  have kk0 : ∀ b o, hp.get? b = some o → ((hp.push (PySem.W.kdv_tup us)).push (PySem.HandSPX.excO C hp.objs.size)).get? b = some o := fun b o e => Heap.get?_push_of_some _ (Heap.get?_push_of_some _ e)
  have hget0 : ((hp.push (PySem.W.kdv_tup us)).push (PySem.HandSPX.excO C hp.objs.size)).get? (hp.objs.size + 1) = some (PySem.HandSPX.excO C hp.objs.size) := by heap_get
  have I20 : Inv X pins σ (upd H1 (hp.objs.size + 1) (exo (hp.objs.size + 1) C none)) ⟨(hp.push (PySem.W.kdv_tup us)).push (PySem.HandSPX.excO C hp.objs.size), g, dr, tk, os⟩ :=
    I1.laid (t' := tk) (a := hp.objs.size + 1) (o := exo (hp.objs.size + 1) C none) (h' := (hp.push (PySem.W.kdv_tup us)).push (PySem.HandSPX.excO C hp.objs.size)) kk0 hsz0 (exo_ok hget0)
  have r20 : Vals (V.ref (hp.objs.size + 1) :: (vs ++ dvs)) (Value.ref (hp.objs.size + 1) :: (us ++ ds)) := .cons rfl (r1.append hd)
  have hl0 : (Value.ref (hp.objs.size + 1) :: us ++ ds).length = ps.length := by
    have e := r20.length
    rw [FF1.len _ _ _ _ hq0] at e
    exact e.symm
  have hus0 : us.length ≤ sizeLine := by
    rw [← Paired.length r1, sizeLine_eq]
    omega
  refine wpAny_call (PySem.HandSPX.call_own F.excBase_LookupError (fun Y => refsLE_contains Y bm hbm) (I1.kIn _ _ hC) (PySem.W.looks_findIn I1.kIn iC0) (fun self => PySem.W.bind_fn I1.kIn self tI0) hus0
    (codeAny_mono (FF1.run _ X.stack _ _ ⟨Value.ref (hp.objs.size + 1) :: us, []⟩ (Value.ref (hp.objs.size + 1) :: (us ++ ds)) _ _ (fun _ _ _ => False) (hr0.make C us []) (I20.env0.make C us []) (hb0 _ (Value.ref (hp.objs.size + 1) :: us) I20.kIn hl0) r20 hq0) fun r s' hq' => ?_))
  cases r with
  | error er => exact hx0 pins σ _ _ er s' I20 hq'
  | ok fl =>
    cases fl with
    | ret u =>
      obtain ⟨v, H2, os2, bare2, un2, hok2, rv, ev, d, fs, ea, ed, hd1, q2⟩ := hq'
      subst ev
      obtain ⟨h2, g2, d2, t2, os'⟩ := s'
      exact ⟨rv, mk_end (raises_own TT.exC TT.tyC) I1 hsz0 kk0 un2 hok2 os2 bare2 ea ed hd1 q2⟩
    | next => exact False.elim hq'
    | brk => exact False.elim hq'
    | cont => exact False.elim hq'
end
/-! ### the class's __init__; raise -/
section
variable {P : Program} {w : World} {K : PySem.W.Frag} {mg : Str → Option Value} {base : Heap} {q s p1 f1 : Str} {st : Stmt} {fI C : Addr} {fd : FuncData}
theorem init_okL (F : Fun K "__init__" q st fI fd) (S : FnScope [s, p1] [s, p1] (defScope st)) (T : OexL K C) (n1 : PySem.W.findIn K (.ref C) f1 = some none)
    (hb : ∀ (cdv : Value) (A : Around) (outer : List Env) (s1 : Shared) (H : Hp) (E : XK), PSs (cxOf (L2.CX P w) P w K mg base [s, p1] q (defScope st) fI cdv A outer s1 H E) (defBody st) (tOstL K f1 (tVar 0) (tVar 1))) :
    FnOk P w K mg base (L2.CX P w) 1 fI fd [s, p1] (spI C [f1]) := by
  refine Fun.okX F S (fun vs H Q E ⟨a, ws, H1, e, l, _⟩ => by subst e; simp [l]) fun cdv A outer s1 H vs Q E _ h => ⟨_, hb cdv A outer s1 H E, ?_⟩
  obtain ⟨a, ws, H1, rfl, l, ha, rfl, h⟩ := h
  match ws, l with
  | [y], _ =>
    refine ⟨y, rfl, .ref a, rfl, a, C, rfl, T, n1, upd_same, fun d hd hda => ?_⟩
    have hd1 : H1 d = none := by rw [upd_at, if_neg hda] at hd; exact hd
    refine h d _ hd1 hda upd_same ?_ fun b hb1 hb2 => ?_
    · rw [upd_ne hda, upd_same] <;> rfl
    · rw [upd_ne hb1, upd_ne hb2, upd_ne hb1]
end
section
variable {X : Cx} {G : Cn} {XW : WX} {x : Str} {c : Str} {e : Expr} {es : List Expr} {ms : M (List D)} {pos p pos' : Pos} {k : Nat} {fI : Addr} {fd : FuncData} {ps names : List Str}
theorem js_raiseL (hc : X.calm = true) (tk : Takes X XW) (T : OexL X.K (G.cl c)) (iC : PySem.W.findIn X.K (.ref (G.cl c)) "__init__" = some (some (.ref fI))) (tI : PySem.W.typeIn X.K (.ref fI) = some (.type "function"))
    (F1 : FnOk X.prog X.w X.K X.mg X.base (L2.CX X.prog X.w) k fI fd ps (spI (G.cl c) names)) (hr : Room (k + 1) X.A) (hb : Binds X.K fd ps []) (hg : Gl X x) (hm : X.mg x = some (.ref (G.cl c))) (ha : PA X (e :: es) (tA G (eX XW) ms)) (hn : names.length ≤ 100 := by decide)
    (hdb : (x == ("__debug__" : Str)) = false := by decide) (he : starEach (e :: es) X.env = (false, eval e X.env) :: starEach es X.env := by rfl) (hpl : (backTo pos (starEach es X.env)).any (·.1) = false := by rfl) :
    PS X (.Raise (some (.Call (.Name x p) (e :: es) [] pos)) none pos') (tS G XW (sRaise c names ms)) := by
  refine PS.weak (ps_raise hc tk (pmk_oexL T iC tI F1 hr hb .nil passL hg hm ha hdb he hpl)) fun Dk σ H ⟨B, W, env, e, R, S, o⟩ => ?_
  subst e
  refine sA R S o fun ds W1 vs x1 R1 S1 r1 o1 => ?_
  by_cases hl : ds.length = names.length
  · rw [if_pos hl] at o1
    have hv : vs.length = names.length := r1.length.trans hl
    refine ⟨by omega, fun a ha => ⟨a, vs, W1.H, by rw [List.append_nil], hv, ha, rfl, fun d H2 hd hda e1 e2 e3 => ⟨rfl, d, _, e1, e2, hd, ?_⟩⟩⟩
    have eH : upd (del H2 a) d (.xd (names.zip vs).reverse) = (W1.new d (.xd (names.zip vs).reverse)).H := by
      funext b
      show upd (del H2 a) d _ b = upd W1.H d _ b
      rw [upd_at, upd_at]
      by_cases hb : b = d
      · rw [if_pos hb, if_pos hb]
      · rw [if_neg hb, if_neg hb]
        by_cases hba : b = a
        · subst hba
          rw [del_same, ha]
        · rw [del_ne hba, e3 b hba hb]
    rw [eH]
    have x2 := DL.Ext.new (o := .xd (names.zip vs).reverse) R1.len hd
    refine o1 _ x2 (R1.new hd) rfl σ _ _ (S1.ext R1 x2) ⟨rfl, .inr ⟨d, _, rfl, upd_same, ?_, ?_⟩⟩
    · show ((names.zip vs).reverse).map (·.1) = names.reverse
      rw [List.map_reverse, zip_fst hv]
    · show Reps G B _ (((names.zip vs).reverse).map (·.2)) ds.reverse
      rw [List.map_reverse, zip_snd hv]
      exact Reps.ext R1 x2 _ _ r1.rev
  · rw [if_neg hl] at o1
    exact o1.elim
end
/-! ### the facts -/
def oexLB (x : Str) (K : PySem.W.Frag) : Bool := (match K.lookup (He.ga K x) with
  | some ⟨.type "type", _, .cls cd, ⟨[_, _, _, _, some (.builtin n), _]⟩⟩ => (match cd.mro with
    | .ref C' :: bm => decide (C' = He.ga K x) && (decide (n = "LookupError.__new__") && (cd.hasDict && (!cd.hasDel && refsLE bm)))
    | _ => false)
  | _ => false) && (He.eqO (PySem.W.findIn K (.ref (He.ga K x)) "__setattr__") (some (some (.builtin "object.__setattr__"))) && (eqB (PySem.W.subIn K (.ref (He.ga K x)) (.type "BaseException")) (some true) && (eqV (PySem.W.typeIn K (.ref (He.ga K x))) (some (.type "type")) && PySem.W.keepIn K (.ref (He.ga K x)))))
theorem oexL_ok {K : PySem.W.Frag} {x : Str} (h : (Fq.fn (oexLB x)).ok K = true) : OexL K (He.ga K x) := by
  obtain ⟨h0, h⟩ := He.ba (show oexLB x K = true from h)
  obtain ⟨g1, h⟩ := He.ba h
  obtain ⟨g2, h⟩ := He.ba h
  obtain ⟨g3, g4⟩ := He.ba h
  refine ⟨?_, He.eqO_ok g1, eqB_ok g2, eqV_ok g3, g4⟩
  split at h0
  · rename_i dd cd k0 k1 k2 k3 n k5 ho
    obtain ⟨nm, bs, mro, ns, qn, hd, sn, sub, ab, col, del⟩ := cd
    split at h0
    · rename_i C' bm em
      dsimp only at em
      subst em
      obtain ⟨h1, h⟩ := He.ba h0
      obtain ⟨h2, h⟩ := He.ba h
      obtain ⟨h3, h⟩ := He.ba h
      obtain ⟨h4, h5⟩ := He.ba h
      have e1 := of_decide_eq_true h1
      have e2 := of_decide_eq_true h2
      subst e1 e2
      have e3 : hd = true := h3
      have e4 : del = false := by simpa using h4
      subst e3 e4
      exact ⟨_, _, _, _, bm, _, _, _, _, _, _, _, _, _, _, ho, h5⟩
    · cases h0
  · cases h0
end
end DL

set_option maxHeartbeats 4000000
/-! DK: lists and tuples times a number; x in c over data; min of numbers; dict(pairs), d.get; list(range). -/
namespace DL
open PySem PySem.Spec PyProof.Rows L2

/-! ### times -/
def repL (k : Int) (xs : List D) : List D := (List.replicate k.toNat xs).flatten
def repOk (k : Int) (xs : List D) (st : Store) : R D := if -1000000 ≤ k ∧ k ≤ 1000000 ∧ xs.length * k.toNat ≤ sizeLine then .ok (.lst (repL k xs)) st else .bad
def opMulA (x y : D) (st : Store) : R D := match y with
  | .int k => (match x with
    | .int i => if CMulB i k then .ok (.int (i * k)) st else .bad
    | .tup xs => if xs ≠ [] ∧ 2 ≤ k ∧ k ≤ 1000 ∧ xs.length ≤ 1000 then .ok (.tup (repL k xs)) st else .bad
    | .lst xs => repOk k xs st
    | .loc n => (match st[n]? with
      | some (.lst xs) => repOk k xs st
      | _ => .bad)
    | _ => .bad)
  | _ => .bad
def rMulA (X : Cx) : R2 := fun x y H Q => L2.rI CMulB (fun i j => .int (i * j)) x y H Q ∨ rRep x y H Q ∨ rRepT X.K x y H Q
theorem op_mulA {X : Cx} : OpR X (binaryOp .Mult) (rMulA X) := by
  intro pins s σ H x y v u Q I r1 r2 q
  rcases q with q | q | q
  · exact op_mulB pins s σ H x y v u Q I r1 r2 q
  · exact op_rep pins s σ H x y v u Q I r1 r2 q
  · exact op_repT pins s σ H x y v u Q I r1 r2 q
section
variable {G : Cn} {B : Addr → Prop} {W : Wd}
theorem reps_rep {vs : List V} {ds : List D} (h : Reps G B W vs ds) : ∀ n : Nat, Reps G B W (List.replicate n vs).flatten (List.replicate n ds).flatten
  | 0 => .nil
  | n + 1 => by
    rw [List.replicate_succ, List.replicate_succ, List.flatten_cons, List.flatten_cons]
    exact h.append (reps_rep h n)
theorem reps_ne {vs : List V} {ds : List D} (h : Reps G B W vs ds) (n : ds ≠ []) : vs ≠ [] := fun e => by
  subst e
  cases h
  exact n rfl
end
theorem rep_go {X : Cx} {G : Cn} {B : Addr → Prop} {W : Wd} {E : XK} {v : V} {x : D} {xs : List D} {k : Int} {Q : VK} (R : Rel G B W) (rx : Rep G B W v x) (e : asO W.st x = some xs) (o : Out G B W E (repOk k xs W.st) fun d' W' => ∀ z, Rep G B W' z d' → Q z W'.H) : rMulA X v (.int k) W.H Q := by
  unfold repOk at o
  by_cases c : -1000000 ≤ k ∧ k ≤ 1000000 ∧ xs.length * k.toNat ≤ sizeLine
  · rw [if_pos c] at o
    obtain ⟨a, vs, rfl, h1, t1⟩ := rx.asO R e
    refine .inr (.inl ⟨a, k, vs, rfl, rfl, h1, by omega, by omega, by rw [t1.length]; exact c.2.2, fun p hp => ?_⟩)
    exact o (W.new p (.lst (List.replicate k.toNat vs).flatten)) (Ext.new R.len hp) (R.new hp) rfl _ (Rep.newL R hp (reps_rep t1 _))
  · rw [if_neg c] at o
    exact o.elim
theorem os_mulA {X : Cx} {G : Cn} (hK : G.K = X.K) : OpS G (rMulA X) opMulA := by
  intro B W E x y v u Q R rx ry o
  unfold opMulA at o
  cases y with
  | int k =>
    cases ry
    cases x with
    | int i =>
      cases rx
      simp only at o
      by_cases c : CMulB i k
      · rw [if_pos c] at o
        exact .inl ⟨i, k, rfl, rfl, c, o.ret R _ (.int _)⟩
      · rw [if_neg c] at o
        exact o.elim
    | tup xs =>
      simp only at o
      by_cases c : xs ≠ [] ∧ 2 ≤ k ∧ k ≤ 1000 ∧ xs.length ≤ 1000
      · rw [if_pos c] at o
        obtain ⟨a, vs, rfl, h1, t1⟩ := Rep.asT rx (show asT (.tup xs) = some xs from rfl)
        rw [hK] at h1
        refine .inr (.inr ⟨a, k, vs, rfl, rfl, h1, reps_ne t1 c.1, c.2.1, c.2.2.1, by rw [t1.length]; exact c.2.2.2, fun p hp => ?_⟩)
        exact o (W.new p (.tup (List.replicate k.toNat vs).flatten)) (Ext.new R.len hp) (R.new hp) rfl _ (Rep.newT R hp (reps_rep t1 _))
      · rw [if_neg c] at o
        exact o.elim
    | lst xs => exact rep_go R rx rfl o
    | loc n =>
      simp only at o
      cases e : W.st[n]? with
      | none => rw [e] at o; exact o.elim
      | some cc =>
        rw [e] at o
        cases cc with
        | lst xs => exact rep_go R rx (by simp [asO, asL, e]) o
        | _ => exact o.elim
    | _ => exact o.elim
  | _ => exact o.elim
section
variable {X : Cx} {G : Cn} {E : ES} {a b e : Expr} {es : List Expr} {ma mb m mo mi : M D} {ms : M (List D)} {p p2 pos pos2 apos : Pos}
theorem j_mulA (ha : PE X a (tE G E ma)) (hb : PE X b (tE G E mb)) (hK : G.K = X.K := by rfl) : PE X (.BinOp a .Mult b pos) (tE G E (mOp opMulA ma mb)) := je_op op_mulA (os_mulA hK) ha hb
end
/-! ### x in c, data of any depth -/
def inData (p : PyData) : PyData → Option Bool
  | .list ps => some (ps.any fun y => PyData.eqv y p)
  | .tuple ps => some (ps.any fun y => PyData.eqv y p)
  | _ => none
def opInD (neg : Bool) (x y : D) (st : Store) : R D := match x.den st, y.den st with
  | some p, some q => if p.plain = true ∧ q.plain = true ∧ p.depth ≤ 40 ∧ q.depth ≤ 40 then (match inData p q with
    | some b => .ok (.bl (neg ^^ b)) st
    | none => .bad) else .bad
  | _, _ => .bad
def rInDat (G : Cn) (neg : Bool) : R2 := fun xv yv H Q => ∃ B W x y p q b, W.H = H ∧ Rel G B W ∧ Rep G B W xv x ∧ Rep G B W yv y ∧ x.den W.st = some p ∧ y.den W.st = some q ∧ (p.plain = true ∧ q.plain = true ∧ p.depth ≤ 40 ∧ q.depth ≤ 40) ∧ inData p q = some b ∧ Q (.bl (neg ^^ b)) H
theorem op_inDat {X : Cx} {G : Cn} {k : Nat} {neg : Bool} (hK : G.K = X.K) (rm : Rm k X.A) (hS : SysD X.K) : OpR X (compareOp (if neg then .NotIn else .In)) (rInDat G neg) := by
  rintro pins s σ H xv yv v u Q I rx ry ⟨B, W, x, y, p, q, b, rfl, R, hx, hy, e1, e2, c, e3, hq⟩
  obtain ⟨as, r1, _⟩ := hx.readsR hK I hS R e1 rx
  obtain ⟨bs, r2, _⟩ := hy.readsR hK I hS R e2 ry
  have hu := rm.units
  have du : ∀ {ps : List PyData}, PyData.depthAll ps ≤ 40 → X.A.units + 1 + min (PyData.depthAll ps) p.depth < cLine := fun h => by omega
  cases q with
  | list ps =>
    have pl : PyData.plainAll ps = true := by simpa [PyData.plain] using c.2.1
    have dd : PyData.depthAll ps ≤ 40 := by have := c.2.2.2; rw [PyData.depth] at this; omega
    cases e3
    cases neg with
    | false => exact PySem.SeqAt.in_list_data r2 r1 pl c.1 (du dd) ⟨.bl _, W.H, I, rfl, by rw [Bool.false_xor] at hq; exact hq⟩
    | true => exact PySem.SeqAt.notIn_list_data r2 r1 pl c.1 (du dd) ⟨.bl _, W.H, I, rfl, by rw [Bool.true_xor] at hq; exact hq⟩
  | tuple ps =>
    have pl : PyData.plainAll ps = true := by simpa [PyData.plain] using c.2.1
    have dd : PyData.depthAll ps ≤ 40 := by have := c.2.2.2; rw [PyData.depth] at this; omega
    cases e3
    cases neg with
    | false => exact PySem.SeqAt.in_tuple_data r2 r1 pl c.1 (du dd) ⟨.bl _, W.H, I, rfl, by rw [Bool.false_xor] at hq; exact hq⟩
    | true => exact PySem.SeqAt.notIn_tuple_data r2 r1 pl c.1 (du dd) ⟨.bl _, W.H, I, rfl, by rw [Bool.true_xor] at hq; exact hq⟩
  | _ => cases e3
theorem os_inDat {G : Cn} {neg : Bool} : OpS G (rInDat G neg) (opInD neg) := by
  intro B W E x y v u Q R rx ry o
  unfold opInD at o
  cases e1 : x.den W.st with
  | none => simp only [e1] at o; exact o.elim
  | some p =>
    cases e2 : y.den W.st with
    | none => simp only [e1, e2] at o; exact o.elim
    | some q =>
      simp only [e1, e2] at o
      by_cases c : p.plain = true ∧ q.plain = true ∧ p.depth ≤ 40 ∧ q.depth ≤ 40
      · rw [if_pos c] at o
        cases e3 : inData p q with
        | none => rw [e3] at o; exact o.elim
        | some b =>
          rw [e3] at o
          exact ⟨B, W, x, y, p, q, b, rfl, R, rx, ry, e1, e2, c, e3, o.ret R _ (.bl _)⟩
      · rw [if_neg c] at o
        exact o.elim
section
variable {X : Cx} {G : Cn} {E : ES} {a b e : Expr} {es : List Expr} {ma mb m mo mi : M D} {ms : M (List D)} {p p2 pos pos2 apos : Pos} {k : Nat}
theorem j_inDat (rm : Rm k X.A) (hS : SysD X.K) (ha : PE X a (tE G E ma)) (hb : PE X b (tE G E mb)) (hK : G.K = X.K := by rfl) (hm : behindInMarks .In b = false := by rfl) : PE X (.Compare a [.In] [b] pos) (tE G E (mOp (opInD false) ma mb)) := je_cmp (op_inDat (neg := false) hK rm hS) os_inDat ha hb hm
theorem j_notInDat (rm : Rm k X.A) (hS : SysD X.K) (ha : PE X a (tE G E ma)) (hb : PE X b (tE G E mb)) (hK : G.K = X.K := by rfl) (hm : behindInMarks .NotIn b = false := by rfl) : PE X (.Compare a [.NotIn] [b] pos) (tE G E (mOp (opInD true) ma mb)) := je_cmp (op_inDat (neg := true) hK rm hS) os_inDat ha hb hm
theorem jt_inDat (rm : Rm k X.A) (hS : SysD X.K) (ha : PE X a (tE G E ma)) (hb : PE X b (tE G E mb)) (hK : G.K = X.K := by rfl) (hm : behindInMarks .In b = false := by rfl) : PT X (.Compare a [.In] [b] pos) (tT G E (mTest (mOp (opInD false) ma mb))) := jt_cmp (op_inDat (neg := false) hK rm hS) os_inDat ha hb hm
theorem jt_notInDat (rm : Rm k X.A) (hS : SysD X.K) (ha : PE X a (tE G E ma)) (hb : PE X b (tE G E mb)) (hK : G.K = X.K := by rfl) (hm : behindInMarks .NotIn b = false := by rfl) : PT X (.Compare a [.NotIn] [b] pos) (tT G E (mTest (mOp (opInD true) ma mb))) := jt_cmp (op_inDat (neg := true) hK rm hS) os_inDat ha hb hm
/-! ### list(range(n)) -/
def mListR (ms : M (List D)) : M D := fun env st => (ms env st).bind fun ds s => match ds with
  | [.int n] => if n ≤ 1000000 ∧ -1000000 ≤ n then .ok (.lst (intsD 0 n.toNat)) s else .bad
  | _ => .bad
theorem rg_reps {B : Addr → Prop} {W : Wd} : ∀ (n : Nat) (a : Int), Reps G B W ((List.range n).map fun (i : Nat) => V.int (a + (i : Int))) (intsD a n)
  | 0, _ => .nil
  | n + 1, a => by
    rw [List.range_succ_eq_map, List.map_cons, List.map_map]
    unfold intsD
    refine .cons (by simp; exact .int _) ?_
    have := rg_reps n (a + 1) (B := B) (W := W)
    have e : ((fun i : Nat => V.int (a + (i : Int))) ∘ Nat.succ) = fun i : Nat => V.int (a + 1 + (i : Int)) := by
      funext i
      simp only [Function.comp_apply]
      congr 1
      omega
    rw [e]
    exact this
theorem j_listR (hc : X.calm = true) (ha : PE X e (tE G E m)) (hm : X.mg "list" = none) (hm2 : X.mg "range" = none) (hg : Gl X "list" := by rfl) (hg2 : Gl X "range" := by rfl) (na : starEach [e] X.env = (false, eval e X.env) :: starEach [] X.env := by rfl)
    (na2 : starEach [.Call (.Name "range" p2) [e] [] pos2] X.env = (false, eval (.Call (.Name "range" p2) [e] [] pos2) X.env) :: starEach [] X.env := by rfl) : PE X (.Call (.Name "list" p) [.Call (.Name "range" p2) [e] [] pos2] [] pos) (tE G E (mListR (mCons m mNil))) := by
  refine PE.weak (pe_listRg hc hg hm (prg_1 hg2 hm2 ha na) na2) fun σ H Q ⟨B, W, env, e1, R, S, o⟩ => ?_
  subst e1
  have o2 : Out G B W (E σ) ((m env W.st).bind fun d s => (match [d] with
    | [.int n] => if n ≤ 1000000 ∧ -1000000 ≤ n then .ok (.lst (intsD 0 n.toNat)) s else .bad
    | _ => .bad : DL.R D)) fun d W' => ∀ z, Rep G B W' z d → Q z W'.H := by
    have : mListR (mCons m mNil) env W.st = (m env W.st).bind fun d s => (match [d] with
      | [.int n] => if n ≤ 1000000 ∧ -1000000 ≤ n then .ok (.lst (intsD 0 n.toNat)) s else .bad
      | _ => .bad : DL.R D) := by
      unfold mListR mCons mNil
      cases m env W.st <;> rfl
    rw [← this]
    exact o
  show tE G E m σ W.H fun x H1 => ∃ n, x = .int n ∧ RgOk 0 n ∧ ∀ q, H1 q = none → Q (.ref q) (upd H1 q (.lst (rgV 0 n)))
  refine tE_of R S o2 fun d W1 v x1 R1 S1 r1 o1 => ?_
  cases d with
  | int n =>
    cases r1
    simp only at o1
    by_cases c : n ≤ 1000000 ∧ -1000000 ≤ n
    · rw [if_pos c] at o1
      refine ⟨n, rfl, ⟨by omega, by omega, by omega, by omega, by omega⟩, fun q hq => ?_⟩
      refine o1 (W1.new q (.lst (rgV 0 n))) (Ext.new R1.len hq) (R1.new hq) rfl _ (Rep.newL R1 hq ?_)
      have := rg_reps (G := G) (B := B) (W := W1) n.toNat 0
      unfold rgV
      simpa using this
    · rw [if_neg c] at o1
      exact o1.elim
  | _ => exact o1.elim
end
end DL

set_option maxHeartbeats 4000000
/-! DM: min of numbers. -/
namespace DL
open PySem PySem.Spec PyProof.Rows L2

/-! ### min(xs), xs numbers -/
def toNums : List D → Option (List Int)
  | [] => some []
  | .int i :: ds => (toNums ds).map (i :: ·)
  | _ => none
theorem toNums_map : ∀ k : List Int, toNums (k.map .int) = some k
  | [] => rfl
  | i :: k => by show (toNums (k.map .int)).map (i :: ·) = _; rw [toNums_map k]; rfl
theorem toNums_eq : ∀ {xs : List D} {k : List Int}, toNums xs = some k → xs = k.map .int
  | [], _, h => by cases h; rfl
  | .int i :: ds, _, h => by
    obtain ⟨k, h1, h2⟩ := Option.map_eq_some_iff.mp (show (toNums ds).map (i :: ·) = _ from h)
    subst h2
    rw [toNums_eq h1]
    rfl
  | .non :: _, _, h => by cases h
  | .bl _ :: _, _, h => by cases h
  | .str _ :: _, _, h => by cases h
  | .tup _ :: _, _, h => by cases h
  | .lst _ :: _, _, h => by cases h
  | .fro _ :: _, _, h => by cases h
  | .dct _ _ :: _, _, h => by cases h
  | .obj _ _ _ :: _, _, h => by cases h
  | .loc _ :: _, _, h => by cases h
  | .exn _ _ _ :: _, _, h => by cases h
/-- the least of i and the others -/
def minI (i : Int) (k : List Int) : Int := k.foldl min i
theorem minI_le : ∀ (k : List Int) (i : Int), minI i k ≤ i ∧ ∀ j ∈ k, minI i k ≤ j
  | [], i => ⟨Int.le_refl _, by simp⟩
  | x :: k, i => by
    have h := minI_le k (min i x)
    have e : minI i (x :: k) = minI (min i x) k := rfl
    rw [e]
    refine ⟨Int.le_trans h.1 (Int.min_le_left _ _), fun j hj => ?_⟩
    rcases List.mem_cons.mp hj with rfl | hj
    · exact Int.le_trans h.1 (Int.min_le_right _ _)
    · exact h.2 j hj
theorem minI_mem : ∀ (k : List Int) (i : Int), minI i k ∈ i :: k
  | [], i => by simp [minI]
  | x :: k, i => by
    have h := minI_mem k (min i x)
    have e : minI i (x :: k) = minI (min i x) k := rfl
    rw [e]
    rcases List.mem_cons.mp h with h | h
    · rw [h]
      rcases Int.le_total i x with c | c
      · rw [Int.min_eq_left c]; simp
      · rw [Int.min_eq_right c]; simp
    · simp [h]
def fMinL : Fn := fun ds st => match ds with
  | [d] => (match (asL st d).bind toNums with
    | some (i :: k) => .ok (.int (minI i k)) st
    | _ => .bad)
  | _ => .bad
theorem reps_int {G : Cn} {B : Addr → Prop} {W : Wd} : ∀ {k : List Int} {vs : List V}, Reps G B W vs (k.map .int) → vs = k.map V.int
  | [], _, h => by cases h; rfl
  | i :: k, _, h => by
    have h' : Reps G B W _ (D.int i :: k.map .int) := h
    cases h' with
    | cons h t => cases h; rw [reps_int t]; rfl
theorem cs_minL {G : Cn} : CallS G (rMin G.K) fMinL := by
  intro B W E ds vs Q R r o
  match ds, r, o with
  | [], _, o => exact o.elim
  | _ :: _ :: _, _, o => exact o.elim
  | [d], .cons h .nil, o =>
    simp only [fMinL] at o
    cases e : asL W.st d with
    | none => rw [e] at o; exact o.elim
    | some xs =>
      rw [e, Option.bind_some] at o
      cases e2 : toNums xs with
      | none => rw [e2] at o; exact o.elim
      | some k =>
        rw [e2] at o
        cases k with
        | nil => exact o.elim
        | cons i k =>
          simp only at o
          obtain ⟨a, us, rfl, h1, t1⟩ := Rep.asL R h e
          have ex := toNums_eq e2
          subst ex
          have eu := reps_int t1
          subst eu
          refine ⟨a, i :: k, rfl, h1, by simp, fun m hm hl => ?_⟩
          have em : m = minI i k := by
            have h2 := minI_le k i
            have h3 := minI_mem k i
            refine Int.le_antisymm (hl _ h3) ?_
            rcases List.mem_cons.mp hm with rfl | hm
            · exact h2.1
            · exact h2.2 m hm
          rw [em]
          exact o.ret R _ (.int _)
section
variable {X : Cx} {G : Cn} {E : ES} {a b e o i : Expr} {es : List Expr} {ma mb m mo mi : M D} {ms : M (List D)} {p p2 pos pos2 apos : Pos} {k : Nat}
theorem jb_minL (hc : X.calm = true) (ha : PA X (e :: es) (tA G E ms)) (hm : X.mg "min" = none) (hK : G.K = X.K := by rfl) (hg : Gl X "min" := by rfl) (he : starEach (e :: es) X.env = (false, eval e X.env) :: starEach es X.env := by rfl) (hpl : (backTo pos (starEach es X.env)).any (·.1) = false := by rfl) : PE X (.Call (.Name "min" p) (e :: es) [] pos) (tE G E (mCall fMinL ms)) := je_callB (cr_min hc) (by rw [← hK]; exact cs_minL) hg hm (by decide +kernel) ha (he := he) (hpl := hpl)
end
end DL

set_option maxHeartbeats 2000000
/-! DN: methods of builtin types: one construct for all; list.count. -/
namespace DL
open PySem PySem.Spec PyProof.Rows L2

/-- the type of the tree, as the method's look-up asks it -/
def tyD (T : String) (st : Store) (d : D) : Bool := match d with
  | .str _ => T == "str"
  | d => T == "list" && (asL st d).isSome
section
variable {G : Cn} {B : Addr → Prop} {W : Wd}
theorem tyD_ok {T : String} (R : Rel G B W) {v : V} {d : D} (r : Rep G B W v d) (h : tyD T W.st d = true) : tyV G.K T v W.H := by
  have li : ∀ {d : D}, Rep G B W v d → (T == "list" && (asL W.st d).isSome) = true → tyV G.K T v W.H := fun {d} r h => by
    rw [Bool.and_eq_true] at h
    obtain ⟨xs, e⟩ := Option.isSome_iff_exists.mp h.2
    obtain ⟨a, vs, rfl, h1, _⟩ := Rep.asL R r e
    exact .inl ⟨eq_of_beq h.1, vs, h1⟩
  cases d with
  | str x =>
    cases r
    exact eq_of_beq h
  | _ => exact li r h
end
/-- o.name(es): a method of a builtin type -/
def mBm (T : String) (fn : Fn) (mo : M D) (ms : M (List D)) : M D := fun env st => (mo env st).bind fun d s => if tyD T s d = true then (ms env s).bind fun ds s2 => fn (d :: ds) s2 else .bad
/-- what a method does is what fn says -/
def MethS (G : Cn) (r : V → List V → Hp → VK → Prop) (fn : Fn) : Prop := ∀ ⦃B : Addr → Prop⦄ ⦃W : Wd⦄ ⦃E : XK⦄ ⦃d : D⦄ ⦃ds : List D⦄ ⦃v : V⦄ ⦃vs : List V⦄ ⦃Q : VK⦄, Rel G B W → Rep G B W v d → Reps G B W vs ds → Out G B W E (fn (d :: ds) W.st) (fun d W' => ∀ z, Rep G B W' z d → Q z W'.H) → r v vs W.H Q
section
variable {X : Cx} {G : Cn} {E : ES} {T id : String} {fn : Fn} {r : V → List V → Hp → VK → Prop} {o e : Expr} {es : List Expr} {mo : M D} {ms : M (List D)} {apos cpos : Pos} {name : Str}
theorem bm_ok (hK : G.K = X.K) (hs : MethS G r fn) {σ : L2.St} {H : Hp} {Q : VK} (h : tE G E (mBm T fn mo ms) σ H Q) : tBM X.K T r (tE G E mo) (tA G E ms) σ H Q := by
  obtain ⟨B, W, env, rfl, R, S, o⟩ := h
  refine tE_of R S o fun d W1 v x1 R1 S1 r1 o1 => ?_
  by_cases c : tyD T W1.st d = true
  · rw [if_pos c] at o1
    refine ⟨hK ▸ tyD_ok R1 r1 c, tA_of R1 S1 o1 fun ds W2 us x2 R2 S2 r2 o2 => ?_⟩
    exact hs R2 (Rep.ext R1 x2 _ _ r1) r2 o2
  · rw [if_neg c] at o1
    exact o1.elim
theorem bm_ok0 (hK : G.K = X.K) (hs : MethS G r fn) {σ : L2.St} {H : Hp} {Q : VK} (h : tE G E (mBm T fn mo mNil) σ H Q) : tBM0 X.K T r (tE G E mo) σ H Q := by
  obtain ⟨B, W, env, rfl, R, S, o⟩ := h
  refine tE_of R S o fun d W1 v x1 R1 S1 r1 o1 => ?_
  by_cases c : tyD T W1.st d = true
  · rw [if_pos c] at o1
    refine ⟨hK ▸ tyD_ok R1 r1 c, ?_⟩
    exact hs R1 r1 .nil o1
  · rw [if_neg c] at o1
    exact o1.elim
theorem je_bm (pa : PlainAttrs T) (slot : Slot T name id) (hty : typeOf (.builtin id) = pure (.type "method_descriptor")) (hm : MtR X id r) (hs : MethS G r fn) (ho : PE X o (tE G E mo)) (ha : PA X (e :: es) (tA G E ms)) (hK : G.K = X.K := by rfl) (hbase : attributeBase o name X.env (eval o X.env) = eval o X.env := by rfl)
    (hfew : ((backTo cpos (starEach (e :: es) X.env)).all (fun x => !x.1) && (backToKw cpos (keywordEach [] X.env)).all (fun x => x.1.isSome)
      && decide ((e :: es).length + ([] : List Keyword).length + (if ([] : List Keyword).isEmpty then 0 else 1) < 30)) = true := by rfl)
    (hline : (apos.endLine == cpos.line) = true := by rfl) (hst : starEach (e :: es) X.env = (false, eval e X.env) :: starEach es X.env := by rfl) (hpl : (backTo cpos (starEach es X.env)).any (·.1) = false := by rfl) :
    PE X (.Call (.Attribute o name apos) (e :: es) [] cpos) (tE G E (mBm T fn mo ms)) :=
  PE.weak (pe_bm pa slot hty hm ho ha hbase hfew hline hst hpl) fun _ _ _ q => bm_ok hK hs q
theorem je_bm0 (pa : PlainAttrs T) (slot : Slot T name id) (hty : typeOf (.builtin id) = pure (.type "method_descriptor")) (hm : MtR X id r) (hs : MethS G r fn) (ho : PE X o (tE G E mo)) (hK : G.K = X.K := by rfl) (hbase : attributeBase o name X.env (eval o X.env) = eval o X.env := by rfl)
    (hline : (apos.endLine == cpos.line) = true := by rfl) : PE X (.Call (.Attribute o name apos) [] [] cpos) (tE G E (mBm T fn mo mNil)) :=
  PE.weak (pe_bm0 pa slot hty hm ho hbase hline) fun _ _ _ q => bm_ok0 hK hs q
end
/-! ### xs.count(i) -/
def fCnt : Fn := fun ds st => match ds with
  | [d, .int k] => (match (asL st d).bind toNums with
    | some ns => .ok (.int (ns.count k : Nat)) st
    | none => .bad)
  | _ => .bad
theorem ms_cnt {G : Cn} : MethS G (rCntI G.K) fCnt := by
  intro B W E d ds v vs Q R rv r o
  match ds, r, o with
  | [.int k], .cons (.int _) .nil, o =>
    simp only [fCnt] at o
    cases e : asL W.st d with
    | none => rw [e] at o; exact o.elim
    | some xs =>
      rw [e, Option.bind_some] at o
      cases e2 : toNums xs with
      | none => rw [e2] at o; exact o.elim
      | some ns =>
        rw [e2] at o
        obtain ⟨a, us, rfl, h1, t1⟩ := Rep.asL R rv e
        have ex := toNums_eq e2
        subst ex
        have eu := reps_int t1
        subst eu
        exact ⟨a, ns, k, rfl, rfl, h1, o.ret R _ (.int _)⟩
theorem j_cnt {X : Cx} {G : Cn} {E : ES} {o e : Expr} {es : List Expr} {mo : M D} {ms : M (List D)} {apos cpos : Pos} (ho : PE X o (tE G E mo)) (ha : PA X (e :: es) (tA G E ms)) (hK : G.K = X.K := by rfl) (hbase : attributeBase o "count" X.env (eval o X.env) = eval o X.env := by rfl)
    (hfew : ((backTo cpos (starEach (e :: es) X.env)).all (fun x => !x.1) && (backToKw cpos (keywordEach [] X.env)).all (fun x => x.1.isSome)
      && decide ((e :: es).length + ([] : List Keyword).length + (if ([] : List Keyword).isEmpty then 0 else 1) < 30)) = true := by rfl)
    (hline : (apos.endLine == cpos.line) = true := by rfl) (hst : starEach (e :: es) X.env = (false, eval e X.env) :: starEach es X.env := by rfl) (hpl : (backTo cpos (starEach es X.env)).any (·.1) = false := by rfl) :
    PE X (.Call (.Attribute o "count" apos) (e :: es) [] cpos) (tE G E (mBm "list" fCnt mo ms)) :=
  je_bm PySem.F.plainAttrs_list PySem.F.slot_list_count PySem.F.type_list_count mt_lcount (by rw [← hK]; exact ms_cnt) ho ha hK hbase hfew hline hst hpl
end DL

set_option maxHeartbeats 2000000
/-! DNt: try: several handlers, each of which names the error. -/
namespace DL
open PySem PySem.Spec PyProof.Rows L2

/-- one clause: its class, the slot of its name, its suite's reading -/
structure Cl where
  c : Value
  i : Nat
  ts : Addr → Value → Option Addr → TS
/-- the ends of a suite, the name gone behind it -/
abbrev gone (i : Nat) (D : Ends) : Ends := { nx := fun σ' H' => D.nx (σ'.set i none) H', rt := D.rt, bk := fun σ' H' => D.bk (σ'.set i none) H', ct := fun σ' H' => D.ct (σ'.set i none) H' }
/-- what the clauses wish of an error of the body, the first one first -/
def wCls (K : PySem.W.Frag) (Wo : WX) (D : Ends) : List Cl → WX
  | [] => Wo
  | q :: r => fun cls d σ H => ∃ b, PySem.W.exmOne K cls q.c = some b ∧ (b = true → ∀ a, H a = none → q.ts a cls d (gone q.i D) (σ.set q.i (some (.ref a))) H) ∧ (b = false → wCls K Wo D r cls d σ H)
inductive ClsOk (X : Cx) : List ExceptHandler → List Cl → Prop
  | nil : ClsOk X [] []
  | cons {x n : Str} {q : Cl} {b0 : Stmt} {suite : List Stmt} {np pos : Pos} {hds : List ExceptHandler} {l : List Cl} (hi : X.N[q.i]? = some n) (hln : X.env.kindOf n = some .local) (hc : Names X x q.c)
      (hsu : ∀ (a : Addr) (oe : Obj) (cls : Value) (d : Option Addr) (pn : List (Addr × Obj)), Zc cls d oe → (∃ vs, oe.data = .fields vs) → PSs (X.suite a ((a, oe) :: pn)) (b0 :: suite) (q.ts a cls d)) (r : ClsOk X hds l) :
      ClsOk X (.ExceptHandler (some (.Name x np)) (some n) (b0 :: suite) pos :: hds) (q :: l)
section
variable {X : Cx} {body : List Stmt} {h0 : ExceptHandler} {hds : List ExceptHandler} {l : List Cl} {pos : Pos} {tb : WX → TS} {Wo : WX}
/-- try, its clauses one after the other, each with a name -/
theorem ps_try_cls (hs : X.stack = X.env :: X.outer) (hf : X.env.frame = some X.env.locals) (hN : X.N.Nodup) (tk : Takes X Wo)
    (hb : ∀ (W : WX) (pn : List (Addr × Obj)) (xe : Value → Shared → Prop), Takes (X.tr pn xe) W → PassesOwn (model X.prog X.w) X.A X.env xe → PSs (X.tr pn xe) body (tb W))
    (hh : ClsOk X (h0 :: hds) l) : PS X (.Try body (h0 :: hds) [] [] pos) (fun D σ H => tb (wCls X.K Wo D l) D σ H) := by
  refine ⟨fun pins s0 σ0 H0 D I0 h => ?_⟩
  have ok := I0.ok
  have frs_ := (show X.A.frames = some (X.env :: X.outer) by rw [ok.frames, hs])
  refine wpAny_Try_except ?_
  refine wpAny_mono ((hb (wCls X.K Wo D l) (X.pn ++ pins) (fun z t1 => wpAny (model X.prog X.w) X.A (noteFrame z X.env) (fun _ t2 => wpAny (model X.prog X.w) X.A (setFlight z none) (fun _ t3 =>
    wpAny (model X.prog X.w) X.A (handleBy z X.env (h0 :: hds)) (SP X pins D) X.xe t3) X.xe t2) X.xe t1) (fun u t ht => ?_) PassesOwn.looking).run [] s0 σ0 H0 D (I0.toTry _) h) (fun f t ht => ?_) (fun z t hz => hz)
  · obtain ⟨x, Bx, tI, ps', σ, H, cl, dx, rfl, Jt, n1, up1, sk, nx, o1, g1, wish⟩ := ht
    have J := Jt.ofTry ok
    have sk' : Sky Bx (X.env :: X.outer) x (Zc cl dx) X.env.locals t.heap := hs ▸ sk
    show wpAny (model X.prog X.w) X.A (noteFrame (.ref x) X.env) _ _ _
    refine Sky.land Zc.steady frs_ hf sk' fun hA fA upA => ?_
    have JA : Inv X pins σ H { t with heap := hA } := J.landed n1 fA.1 (up1.trans upA) o1 g1
    obtain ⟨ox, vx, ex, zx, dtx⟩ := fA.there
    have outF : x ∉ frs (X.env :: X.outer) := fun hm => by
      obtain ⟨_, o', e', hnf⟩ := fA.2.2.1.mem hm
      rw [ex] at e'
      cases e'
      exact hnf _ dtx
    have nLoc : x ≠ X.env.locals := fun z => outF (List.mem_filterMap.mpr ⟨X.env, List.mem_cons_self, by rw [hf, z]⟩)
    have nFs : x ∉ X.fs := fun hm => by
      obtain ⟨e, he, q⟩ := List.mem_filterMap.mp hm
      exact outF (List.mem_filterMap.mpr ⟨e, List.mem_cons_of_mem _ he, q⟩)
    have SA := JA.suite ex dtx nx nLoc nFs
    have one : ∀ {hs2 : List ExceptHandler} {l2 : List Cl}, ClsOk X hs2 l2 → wCls X.K Wo D l2 cl dx σ H → wpAny (model X.prog X.w) X.A (handleBy (.ref x) X.env hs2) (SP X pins D) X.xe { t with heap := hA } := by
      intro hs2 l2 hk
      induction hk with
      | nil =>
        intro wish
        refine wpAny_handleBy_nil ?_
        obtain ⟨_, _, _, oe, vs, T, oT, _, he, hz, hd, hcl, _⟩ := id fA
        unfold PySem.passOn
        refine wpAny_bind (wpAny_field he hd hcl ?_)
        rw [if_neg (show ¬ ((Value.ref T == Value.none) = true) from by simp)]
        have last : wpAny (model X.prog X.w) X.A (setFlight (.ref x) X.env.frame) (fun _ t4 => wpAny (model X.prog X.w) X.A (throw (.ref x) : Sem Flow) (SP X pins D) X.xe t4) X.xe { t with heap := hA } := by
          rw [hf]
          refine HandSPX.setFlight_upZ fA fun hB fB upB => wpAny_throw (tk _ _ ?_)
          exact ⟨x, Bx, tI, pins, σ, H, cl, dx, rfl, J, n1, (up1.trans upA).trans upB, .inr (.inr (hs ▸ fB)), nx, o1, g1, wish⟩
        first
          | exact wpAny_bind (wpAny_pure (wpAny_bind last))
          | exact wpAny_bind last
      | @cons xn n q b0 suite np pos' hds2 l2 hi hln hc hsu r ih =>
        intro wish
        obtain ⟨b, hb1, yes, no⟩ := wish
        have hloc : Loc X.env.scope n := .inl hln
        refine wpAny_handleBy_cons (codeAny_handlers_test ?_) (by intro z; cases z)
        have LT : PySem.W.Looks (model X.prog X.w) hA (typeOf (.ref x)) cl := fun A Q E t2 k z => wpAny_typeOf_ref (k _ _ ex) (by rw [zx.1]; exact z)
        have LM := PySem.W.exm_one (M := model X.prog X.w) JA.kIn LT hb1
        have ask : ∀ {Q : Value → Shared → Prop} {E : Value → Shared → Prop}, Q q.c { t with heap := hA } → wpAny (model X.prog X.w) (X.A.mark (some (.ref x))) (eval (.Name xn np) X.env) Q E { t with heap := hA } := fun {Q E} z => by
          obtain ⟨hg, hdb, hm | ⟨hm, hv, hnn⟩⟩ := hc
          · exact ld_glob (X := X.suite x ((x, ox) :: (X.pn ++ pins))) SA hg hm z hdb
          · exact ld_blt (X := X.suite x ((x, ox) :: (X.pn ++ pins))) SA hg hm hv z hnn hdb
        refine ask (LM.here ?_)
        cases b with
        | false => exact ih (no rfl)
        | true =>
          refine codeAny_handlers_suite_as ?_
          refine HandSPX.lands_againZ fA fun hB fB upB => ?_
          have JB : Inv X pins σ H { t with heap := hB } := J.landed n1 fB.1 ((up1.trans upA).trans upB) o1 g1
          obtain ⟨oy, vy, ey, zy, dty⟩ := fB.there
          have SB := JB.suite ey dty nx nLoc nFs
          refine store_ok (X := X.suite x ((x, oy) :: (X.pn ++ pins))) (v := .ref x) SB hN hi hloc rfl (fun t5 S5 => ?_) (.inr hln)
          refine wpAny_mono ((hsu x oy cl dx (X.pn ++ pins) zy ⟨_, dty⟩).run [] t5 _ H _ S5 (yes rfl x nx)) (fun f t6 h6 => ?_) (fun _ _ z => False.elim z)
          have leave : ∀ {σ6 : L2.St} {H6 : Hp} {Q : Shared → Prop}, Inv (X.suite x ((x, oy) :: (X.pn ++ pins))) [] σ6 H6 t6 → (∀ t7, Inv X pins (σ6.set q.i none) H6 t7 → Q t7) →
              wpAny (model X.prog X.w) X.A (do bindName X.env n .none; unbindBehindTheSuite X.env n pos') (fun _ t7 => Q t7) X.xe t6 := fun {σ6 H6 Q} S6 hq => gone_ok (S6.unsuite ok) hN hi hln hq
          cases f with
          | next =>
            obtain ⟨_, _, S6, q6⟩ := h6
            exact leave S6 fun _ J7 => ⟨_, _, J7, q6⟩
          | brk =>
            obtain ⟨_, _, S6, q6⟩ := h6
            exact leave S6 fun _ J7 => ⟨_, _, J7, q6⟩
          | cont =>
            obtain ⟨_, _, S6, q6⟩ := h6
            exact leave S6 fun _ J7 => ⟨_, _, J7, q6⟩
          | ret u =>
            obtain ⟨_, _, _, S6, r6, q6⟩ := h6
            exact leave S6 fun _ J7 => ⟨_, _, _, J7, r6, q6⟩
    exact one hh wish
  · cases f with
    | next =>
      obtain ⟨_, _, J, q⟩ := ht
      exact wpAny_execs_nil ⟨_, _, J.ofTry ok, q⟩
    | brk =>
      obtain ⟨_, _, J, q⟩ := ht
      exact ⟨_, _, J.ofTry ok, q⟩
    | cont =>
      obtain ⟨_, _, J, q⟩ := ht
      exact ⟨_, _, J.ofTry ok, q⟩
    | ret u =>
      obtain ⟨_, _, _, J, r, q⟩ := ht
      exact ⟨_, _, _, J.ofTry ok, r, q⟩
end
/-- the clauses of a try, over trees -/
noncomputable def goH : List ((Str → Option Bool) × Nat × SM) → Ex → Sl → Store → DL.R Fl
  | [], e, env1, s => .ok (.xc e env1) s
  | (hit, i, ms) :: r, e, env1, s => match hit e.c with
    | some true => outS i s (ms (env1.set i (some (.exn e.c e.ns e.vs))) s)
    | some false => goH r e env1 s
    | none => .bad
noncomputable def sTryN (hs : List ((Str → Option Bool) × Nat × SM)) (mb : SM) : SM := fun env st => match mb env st with
  | .ok (.xc e env1) s => goH hs e env1 s
  | r => r
inductive HsOk (X : Cx) (G : Cn) : List ExceptHandler → List ((Str → Option Bool) × Nat × SM) → List Cl → Prop
  | nil : HsOk X G [] [] []
  | cons {x n : Str} {cv : Value} {i : Nat} {hit : Str → Option Bool} {ms : SM} {b0 : Stmt} {suite : List Stmt} {np pos : Pos} {hds : List ExceptHandler} {l : List ((Str → Option Bool) × Nat × SM)} {q : List Cl} (hi : X.N[i]? = some n) (hln : X.env.kindOf n = some .local) (hc : Names X x cv) (hh : HitOk X.K G cv hit)
      (hsu : ∀ (a : Addr) (oe : Obj) (cls : Value) (d : Option Addr) (pn : List (Addr × Obj)), Zc cls d oe → (∃ vs, oe.data = .fields vs) → PSs (X.suite a ((a, oe) :: pn)) (b0 :: suite) (tS (G.sup a cls d) WF ms)) (r : HsOk X G hds l q) :
      HsOk X G (.ExceptHandler (some (.Name x np)) (some n) (b0 :: suite) pos :: hds) ((hit, i, ms) :: l) (⟨cv, i, fun a cls d => tS (G.sup a cls d) WF ms⟩ :: q)
section
variable {X : Cx} {G : Cn} {XW : WX}
theorem HsOk.cls {hds : List ExceptHandler} {l : List ((Str → Option Bool) × Nat × SM)} {q : List Cl} (h : HsOk X G hds l q) : ClsOk X hds q := by
  induction h with
  | nil => exact .nil
  | cons hi hln hc hh hsu r ih => exact .cons hi hln hc hsu ih
theorem HsOk.wish (hg : G.ex = fun _ => none) {hds : List ExceptHandler} {l : List ((Str → Option Bool) × Nat × SM)} {q : List Cl} (h : HsOk X G hds l q) {B : Addr → Prop} {D : Ends} {e : Ex} {env1 : Sl} {W' : Wd} {σ1 : L2.St} {cls : Value} {dd : Option Addr} (R1 : Rel G B W') (S1 : Slots G B W' σ1 env1)
    (rx : RepX G B W' cls dd e) (o : Out G B W' E0 (goH l e env1 W'.st) (FlQ G B XW D)) : wCls X.K XW D q cls dd σ1 W'.H := by
  induction h with
  | nil => exact o W' (Ext.refl R1.len) R1 rfl σ1 cls dd S1 rx
  | @cons x n cv i hit ms b0 suite np pos hds l q hi hln hc hh hsu r ih =>
    obtain ⟨ec, rx2⟩ := id rx
    unfold goH at o
    cases z : hit e.c with
    | none => simp only [z] at o; exact o.elim
    | some b =>
      simp only [z] at o
      refine ⟨b, by rw [ec]; exact hh _ _ z, fun hb1 a ha => ?_, fun hb1 => ?_⟩
      · subst hb1
        subst ec
        have o1 : Out G B W' E0 (outS i W'.st (ms (env1.set i (some (.exn e.c e.ns e.vs))) W'.st)) (FlQ G B XW D) := o
        refine ⟨B, W', _, rfl, R1.sup hg, (S1.sup hg).set i (v := .ref a) (d := .exn e.c e.ns e.vs) ?_, out_sup (R1.noX hg) o1⟩
        rcases rx2 with ⟨h1, h2, h3⟩ | ⟨d, fs, h3, h4, h5, h6⟩
        · subst h3
          rw [h1, h2]
          exact .exn0 (show (if a = a then some (Value.ref (G.cl e.c), none) else none) = _ by rw [if_pos rfl])
        · subst h3
          exact .exn1 (G := G.sup a (.ref (G.cl e.c)) (some d)) (show (if a = a then some (Value.ref (G.cl e.c), some d) else none) = _ by rw [if_pos rfl]) h4 h5 (Reps.sup hg _ _ h6)
      · subst hb1
        exact ih o
theorem js_tryN {body : List Stmt} {h0 : ExceptHandler} {hds : List ExceptHandler} {l : List ((Str → Option Bool) × Nat × SM)} {q : List Cl} {pos : Pos} {mb : SM} (hg : G.ex = fun _ => none) (hs : X.stack = X.env :: X.outer) (hf : X.env.frame = some X.env.locals) (hN : X.N.Nodup) (tk : Takes X XW)
    (hb : ∀ (W : WX) (pn : List (Addr × Obj)) (xe : Value → Shared → Prop), Takes (X.tr pn xe) W → PassesOwn (model X.prog X.w) X.A X.env xe → PSs (X.tr pn xe) body (tS G W mb))
    (hh : HsOk X G (h0 :: hds) l q) : PS X (.Try body (h0 :: hds) [] [] pos) (tS G XW (sTryN l mb)) := by
  refine PS.weak (ps_try_cls (tb := fun W => tS G W mb) hs hf hN tk hb hh.cls) fun D σ H ⟨B, W, env, e, R, S, o⟩ => ?_
  subst e
  refine ⟨B, W, env, rfl, R, S, ?_⟩
  unfold sTryN at o
  cases q : mb env W.st with
  | ok fl s =>
    rw [q] at o
    cases fl with
    | nx env1 => exact o
    | rt d => exact o
    | bk env1 => exact o
    | ct env1 => exact o
    | xc e env1 =>
      simp only at o
      intro W' x R1 e1 σ1 cls dd S1 rx
      subst e1
      exact hh.wish hg R1 S1 rx (Out.ext o x)
  | exc e s => rw [q] at o; exact o
  | bad => rw [q] at o; exact o.elim
end
end DL

set_option maxHeartbeats 2000000
/-! DP: plain reckoning over the meanings. -/
namespace DL
open PySem PySem.Spec PyProof.Rows L2

/-! isinstance among the language's own -/
@[simp] theorem kb_nonetype_int : kitB "NoneType" "int" = some false := by decide +kernel
@[simp] theorem kb_nonetype_bool : kitB "NoneType" "bool" = some false := by decide +kernel
@[simp] theorem kb_nonetype_str : kitB "NoneType" "str" = some false := by decide +kernel
@[simp] theorem kb_nonetype_tuple : kitB "NoneType" "tuple" = some false := by decide +kernel
@[simp] theorem kb_nonetype_list : kitB "NoneType" "list" = some false := by decide +kernel
@[simp] theorem kb_nonetype_dict : kitB "NoneType" "dict" = some false := by decide +kernel
@[simp] theorem kb_bool_int : kitB "bool" "int" = some true := by decide +kernel
@[simp] theorem kb_bool_bool : kitB "bool" "bool" = some true := by decide +kernel
@[simp] theorem kb_bool_str : kitB "bool" "str" = some false := by decide +kernel
@[simp] theorem kb_bool_tuple : kitB "bool" "tuple" = some false := by decide +kernel
@[simp] theorem kb_bool_list : kitB "bool" "list" = some false := by decide +kernel
@[simp] theorem kb_bool_dict : kitB "bool" "dict" = some false := by decide +kernel
@[simp] theorem kb_int_int : kitB "int" "int" = some true := by decide +kernel
@[simp] theorem kb_int_bool : kitB "int" "bool" = some false := by decide +kernel
@[simp] theorem kb_int_str : kitB "int" "str" = some false := by decide +kernel
@[simp] theorem kb_int_tuple : kitB "int" "tuple" = some false := by decide +kernel
@[simp] theorem kb_int_list : kitB "int" "list" = some false := by decide +kernel
@[simp] theorem kb_int_dict : kitB "int" "dict" = some false := by decide +kernel
@[simp] theorem kb_str_int : kitB "str" "int" = some false := by decide +kernel
@[simp] theorem kb_str_bool : kitB "str" "bool" = some false := by decide +kernel
@[simp] theorem kb_str_str : kitB "str" "str" = some true := by decide +kernel
@[simp] theorem kb_str_tuple : kitB "str" "tuple" = some false := by decide +kernel
@[simp] theorem kb_str_list : kitB "str" "list" = some false := by decide +kernel
@[simp] theorem kb_str_dict : kitB "str" "dict" = some false := by decide +kernel
@[simp] theorem kb_tuple_int : kitB "tuple" "int" = some false := by decide +kernel
@[simp] theorem kb_tuple_bool : kitB "tuple" "bool" = some false := by decide +kernel
@[simp] theorem kb_tuple_str : kitB "tuple" "str" = some false := by decide +kernel
@[simp] theorem kb_tuple_tuple : kitB "tuple" "tuple" = some true := by decide +kernel
@[simp] theorem kb_tuple_list : kitB "tuple" "list" = some false := by decide +kernel
@[simp] theorem kb_tuple_dict : kitB "tuple" "dict" = some false := by decide +kernel
@[simp] theorem kb_list_int : kitB "list" "int" = some false := by decide +kernel
@[simp] theorem kb_list_bool : kitB "list" "bool" = some false := by decide +kernel
@[simp] theorem kb_list_str : kitB "list" "str" = some false := by decide +kernel
@[simp] theorem kb_list_tuple : kitB "list" "tuple" = some false := by decide +kernel
@[simp] theorem kb_list_list : kitB "list" "list" = some true := by decide +kernel
@[simp] theorem kb_list_dict : kitB "list" "dict" = some false := by decide +kernel
@[simp] theorem kb_dict_int : kitB "dict" "int" = some false := by decide +kernel
@[simp] theorem kb_dict_bool : kitB "dict" "bool" = some false := by decide +kernel
@[simp] theorem kb_dict_str : kitB "dict" "str" = some false := by decide +kernel
@[simp] theorem kb_dict_tuple : kitB "dict" "tuple" = some false := by decide +kernel
@[simp] theorem kb_dict_list : kitB "dict" "list" = some false := by decide +kernel
@[simp] theorem kb_dict_dict : kitB "dict" "dict" = some true := by decide +kernel
/-! statements, one by one -/
section
variable {a b : SM} {env env' : Sl} {st st' : Store} {m : M D} {d : D} {i : Nat} {r : R Fl}
theorem seq_nx (h : a env st = .ok (.nx env') st') : sSeq a b env st = b env' st' := by
  show thenS (a env st) b = _
  rw [h] <;> rfl
theorem seq_end (h : a env st = .ok (.rt d) st') : sSeq a b env st = .ok (.rt d) st' := by
  show thenS (a env st) b = _
  rw [h] <;> rfl
theorem seq_xc {e : Ex} (h : a env st = .ok (.xc e env') st') : sSeq a b env st = .ok (.xc e env') st' := by
  show thenS (a env st) b = _
  rw [h] <;> rfl
theorem set_ok (h : m env st = .ok d st') : sSet i m env st = .ok (.nx (env.set i (some d))) st' := by
  show lift (m env st) env _ = _
  rw [h] <;> rfl
theorem ret_ok (h : m env st = .ok d st') : sRet m env st = .ok (.rt d) st' := by
  show lift (m env st) env _ = _
  rw [h] <;> rfl
theorem drop_ok (h : m env st = .ok d st') : sDrop m env st = .ok (.nx env) st' := by
  show lift (m env st) env _ = _
  rw [h] <;> rfl
theorem if_t {c : M Bool} (h : c env st = .ok true st') : sIf c a b env st = a env st' := by
  show lift (c env st) env _ = _
  rw [h] <;> rfl
theorem if_f {c : M Bool} (h : c env st = .ok false st') : sIf c a b env st = b env st' := by
  show lift (c env st) env _ = _
  rw [h] <;> rfl
theorem asg_ok {t : Tgt} (h : m env st = .ok d st') (hb : bindT t d env = some env') : sAsg t m env st = .ok (.nx env') st' := by
  show lift (m env st) env _ = _
  rw [h, lift_ok, hb] <;> rfl
theorem fnB_rt {n nn : Nat} {mm : SM} {ds : List D} (hl : ds.length = n) (h : mm (ds.map some ++ List.replicate (nn - n) none) st = .ok (.rt d) st') : fnB n nn mm ds st = .ok d st' := by
  unfold fnB
  rw [if_pos hl, h]
theorem fnB_nx {n nn : Nat} {mm : SM} {ds : List D} (hl : ds.length = n) (h : mm (ds.map some ++ List.replicate (nn - n) none) st = .ok (.nx env') st') : fnB n nn mm ds st = .ok .non st' := by
  unfold fnB
  rw [if_pos hl, h]
theorem fnB_xc {n nn : Nat} {mm : SM} {ds : List D} {e : Ex} (hl : ds.length = n) (h : mm (ds.map some ++ List.replicate (nn - n) none) st = .ok (.xc e env') st') : fnB n nn mm ds st = .exc e st' := by
  unfold fnB
  rw [if_pos hl, h]
theorem ar_ok {n : Nat} {fn : Fn} {ds : List D} (hl : ds.length = n) : ar n fn ds st = fn ds st := if_pos hl
end
/-! loops by an invariant -/
theorem okS_nil {items : List D} {st : Store} : Src.okS ⟨items, []⟩ st := fun _ h => by cases h
section
variable {t : Tgt} {body : SM} {src : Src}
theorem for_inv (I : Nat → Sl → Store → Prop) : ∀ (ds : List D) (k : Nat) (env : Sl) (st : Store), (∀ j d env s, k ≤ j → ds[j - k]? = some d → I j env s → src.okS s ∧ ∃ env1 env2 s2, bindT t d env = some env1 ∧ (body env1 s = .ok (.nx env2) s2 ∨ body env1 s = .ok (.ct env2) s2) ∧ I (j + 1) env2 s2) →
    (∀ env s, I (k + ds.length) env s → src.okS s) → I k env st → ∃ env2 s2, forGo t body src ds env st = .ok (.nx env2) s2 ∧ I (k + ds.length) env2 s2
  | [], k, env, st, _, hf, h => by
    refine ⟨env, st, ?_, h⟩
    unfold forGo
    rw [if_pos (hf env st h)]
  | d :: ds, k, env, st, step, hf, h => by
    obtain ⟨ok, env1, env2, s2, hb, hr, hI⟩ := step k d env st (Nat.le_refl _) (by simp) h
    have e : k + (d :: ds).length = k + 1 + ds.length := by simp; omega
    obtain ⟨env3, s3, h3, h4⟩ := for_inv I ds (k + 1) env2 s2 (fun j d' env s hj hd hI => step j d' env s (by omega) (by
      have e2 : j - k = (j - (k + 1)) + 1 := by omega
      rw [e2, List.getElem?_cons_succ]; exact hd) hI) (fun env s hI => hf env s (by rw [e]; exact hI)) hI
    refine ⟨env3, s3, ?_, by rw [e]; exact h4⟩
    unfold forGo
    rw [if_pos ok, hb]
    rcases hr with hr | hr <;> simp only [hr] <;> exact h3
theorem forGo_nil {env : Sl} {st : Store} (ok : src.okS st) : forGo t body src [] env st = .ok (.nx env) st := by
  unfold forGo
  rw [if_pos ok]
theorem forGo_nx {d : D} {ds : List D} {env env1 env2 : Sl} {st s : Store} (ok : src.okS st) (hb : bindT t d env = some env1) (h : body env1 st = .ok (.nx env2) s) : forGo t body src (d :: ds) env st = forGo t body src ds env2 s := by
  conv => lhs; unfold forGo
  rw [if_pos ok, hb]
  simp only [h]
theorem forGo_rt {d z : D} {ds : List D} {env env1 : Sl} {st s : Store} (ok : src.okS st) (hb : bindT t d env = some env1) (h : body env1 st = .ok (.rt z) s) : forGo t body src (d :: ds) env st = .ok (.rt z) s := by
  unfold forGo
  rw [if_pos ok, hb]
  simp only [h]
theorem forGo_xc {d : D} {ds : List D} {e : Ex} {env env1 env2 : Sl} {st s : Store} (ok : src.okS st) (hb : bindT t d env = some env1) (h : body env1 st = .ok (.xc e env2) s) : forGo t body src (d :: ds) env st = .ok (.xc e env2) s := by
  unfold forGo
  rw [if_pos ok, hb]
  simp only [h]
theorem sFor_ok {mi : M Src} {env : Sl} {st s1 : Store} (hm : mi env st = .ok src s1) : sFor t mi body env st = forGo t body src src.items env s1 := by
  show lift (mi env st) env _ = _
  rw [hm] <;> rfl
end
section
variable {t : Tgt} {tt : M Bool} {te : M D} {src : Src} {env : Sl}
theorem lc_inv (I : Nat → List D → Store → Prop) : ∀ (ds : List D) (k : Nat) (acc : List D) (st : Store),
    (∀ j d acc s, k ≤ j → ds[j - k]? = some d → I j acc s → src.okS s ∧ ∃ env1, bindT t d env = some env1 ∧ ((∃ s2, tt env1 s = .ok false s2 ∧ I (j + 1) acc s2) ∨ ∃ s2 y s3, tt env1 s = .ok true s2 ∧ te env1 s2 = .ok y s3 ∧ acc.length < sizeLine ∧ I (j + 1) (acc ++ [y]) s3)) →
    (∀ acc s, I (k + ds.length) acc s → src.okS s) → I k acc st → ∃ acc2 s2, lcGo t tt te src env ds acc st = .ok (.lst acc2) s2 ∧ I (k + ds.length) acc2 s2
  | [], k, acc, st, _, hf, h => by
    refine ⟨acc, st, ?_, h⟩
    unfold lcGo
    rw [if_pos (hf acc st h)]
  | d :: ds, k, acc, st, step, hf, h => by
    obtain ⟨ok, env1, hb, hr⟩ := step k d acc st (Nat.le_refl _) (by simp) h
    have e : k + (d :: ds).length = k + 1 + ds.length := by simp; omega
    have next : ∀ acc2 s2, I (k + 1) acc2 s2 → ∃ acc3 s3, lcGo t tt te src env ds acc2 s2 = .ok (.lst acc3) s3 ∧ I (k + 1 + ds.length) acc3 s3 := fun acc2 s2 hI => lc_inv I ds (k + 1) acc2 s2 (fun j d' acc s hj hd hI => step j d' acc s (by omega) (by
      have e2 : j - k = (j - (k + 1)) + 1 := by omega
      rw [e2, List.getElem?_cons_succ]; exact hd) hI) (fun acc s hI => hf acc s (by rw [e]; exact hI)) hI
    unfold lcGo
    rw [if_pos ok, hb]
    rcases hr with ⟨s2, h1, hI⟩ | ⟨s2, y, s3, h1, h2, hl, hI⟩
    · obtain ⟨acc3, s3, h3, h4⟩ := next acc s2 hI
      exact ⟨acc3, s3, by simp only [h1]; exact h3, by rw [e]; exact h4⟩
    · obtain ⟨acc3, s4, h3, h4⟩ := next (acc ++ [y]) s3 hI
      exact ⟨acc3, s4, by simp only [h1, h2, if_pos hl]; exact h3, by rw [e]; exact h4⟩
/-- .. where nothing changes: filtered, then mapped -/
theorem lc_map {p : D → Bool} {g : D → D} {st : Store} (ok : src.okS st) : ∀ (ds : List D) (acc : List D), acc.length + ds.length ≤ sizeLine → (∀ d ∈ ds, ∃ env1, bindT t d env = some env1 ∧ tt env1 st = .ok (p d) st ∧ (p d = true → te env1 st = .ok (g d) st)) →
    lcGo t tt te src env ds acc st = .ok (.lst (acc ++ (ds.filter p).map g)) st
  | [], acc, _, _ => by
    unfold lcGo
    rw [if_pos ok]
    simp
  | d :: ds, acc, hl, h => by
    obtain ⟨env1, hb, h1, h2⟩ := h d (by simp)
    have hl' : acc.length + 1 + ds.length ≤ sizeLine := by simp only [List.length_cons] at hl; omega
    unfold lcGo
    rw [if_pos ok, hb]
    simp only [h1]
    cases q : p d with
    | false => simp only [List.filter_cons, q]; exact lc_map ok ds acc (by omega) fun d' hd => h d' (by simp [hd])
    | true =>
      simp only [h2 q, List.filter_cons, q, if_true, List.map_cons]
      rw [if_pos (by omega), lc_map ok ds (acc ++ [g d]) (by simp; omega) fun d' hd => h d' (by simp [hd]), List.append_assoc]
      rfl
end
theorem lc_ok_of {t : Tgt} {mi : M Src} {tt : M Bool} {te : M D} {own : List Nat} {env : Sl} {st s1 : Store} {src : Src} (hm : mi env st = .ok src s1) : mLc t mi tt te own env st = lcGo t tt te src (wipeD env own) src.items [] s1 := by
  unfold mLc
  rw [hm] <;> rfl
/-! evaluation, for simp -/
namespace Ev
section
variable {a b : SM} {env env' : Sl} {st st' : Store} {m ma mb mc mo mi mv : M D} {ms : M (List D)} {d : D} {i : Nat} {fn : Fn} {ct ca cb : M Bool} {f g : D → D → Store → R D} {k : Sl → Store → R Fl}
@[scoped simp] theorem ev_var : mVar i env st = (match env[i]? with | some (some d) => .ok d st | _ => .bad) := rfl
@[scoped simp] theorem ev_c : mC d env st = .ok d st := rfl
@[scoped simp] theorem ev_op : mOp f ma mb env st = (ma env st).bind fun x s1 => (mb env s1).bind fun y s2 => f x y s2 := rfl
@[scoped simp] theorem ev_nil : mNil env st = .ok [] st := rfl
@[scoped simp] theorem ev_cons : mCons m ms env st = (m env st).bind fun d s => (ms env s).bind fun ds s2 => .ok (d :: ds) s2 := rfl
@[scoped simp] theorem ev_tup : mTup ms env st = (ms env st).bind fun ds s => if ds.length ≤ sizeLine then .ok (.tup ds) s else .bad := rfl
@[scoped simp] theorem ev_lst : mLst ms env st = (ms env st).bind fun ds s => if ds.length ≤ sizeLine then .ok (.lst ds) s else .bad := rfl
@[scoped simp] theorem ev_lstC : mLstC ms env st = (ms env st).bind fun ds s => if ds.length ≤ sizeLine then .ok (.loc s.length) (s ++ [Cell.lst ds]) else .bad := rfl
@[scoped simp] theorem ev_call : mCall fn ms env st = (ms env st).bind fn := rfl
@[scoped simp] theorem ev_test : mTest m env st = (m env st).bind fun d s => match d with | .bl b => .ok b s | _ => .bad := rfl
@[scoped simp] theorem ev_tru : mTru m env st = (m env st).bind fun d s => match tru s d with | some b => .ok b s | none => .bad := rfl
@[scoped simp] theorem ev_andT : mAndT ca cb env st = (ca env st).bind fun c s => if c then cb env s else .ok false s := rfl
@[scoped simp] theorem ev_orT : mOrT ca cb env st = (ca env st).bind fun c s => if c then .ok true s else cb env s := rfl
@[scoped simp] theorem ev_notT : mNotT ca env st = (ca env st).bind fun c s => .ok (!c) s := rfl
@[scoped simp] theorem ev_and : mAnd ma mb env st = (ma env st).bind fun x s => match x with | .bl true => mb env s | .bl false => .ok (.bl false) s | _ => .bad := rfl
@[scoped simp] theorem ev_or : mOr ma mb env st = (ma env st).bind fun x s => match x with | .bl true => .ok (.bl true) s | .bl false => mb env s | _ => .bad := rfl
@[scoped simp] theorem ev_not : mNot ma env st = (ma env st).bind fun x s => match tru s x with | some b => .ok (.bl (!b)) s | none => .bad := rfl
@[scoped simp] theorem ev_neg : mNeg ma env st = (ma env st).bind fun x s => match x with | .int i => .ok (.int (-i)) s | _ => .bad := rfl
@[scoped simp] theorem ev_if : mIf ct ma mb env st = (ct env st).bind fun k s => if k then ma env s else mb env s := rfl
@[scoped simp] theorem ev_chain : mChain f g ma mb mc env st = (ma env st).bind fun x s1 => (mb env s1).bind fun y s2 => (f x y s2).bind fun z s3 => match z with
  | .bl true => (mc env s3).bind fun w s4 => g y w s4
  | .bl false => .ok (.bl false) s3
  | _ => .bad := rfl
@[scoped simp] theorem ev_isi {isa : Isa} {ks : List Kd} : mIsi isa ks m env st = (m env st).bind fun d s => match kd s d with
  | some k => (match isaAny isa k ks with
    | some b => .ok (.bl b) s
    | none => .bad)
  | none => .bad := rfl
@[scoped simp] theorem ev_fld {c f : Str} : mFld c f mo env st = (mo env st).bind fun d s => match insOf s d with
  | some (c', ns, vs) => if c' = c then (match (ns.zip vs).lookup f with
    | some z => .ok z s
    | none => .bad) else .bad
  | none => .bad := rfl
@[scoped simp] theorem ev_seq : sSeq a b env st = thenS (a env st) b := rfl
@[scoped simp] theorem then_nx : thenS (.ok (.nx env) st) k = k env st := rfl
@[scoped simp] theorem then_rt : thenS (.ok (.rt d) st) k = .ok (.rt d) st := rfl
@[scoped simp] theorem then_xc {e : Ex} : thenS (.ok (.xc e env) st) k = .ok (.xc e env) st := rfl
@[scoped simp] theorem then_bk : thenS (.ok (.bk env) st) k = .ok (.bk env) st := rfl
@[scoped simp] theorem then_ct : thenS (.ok (.ct env) st) k = .ok (.ct env) st := rfl
@[scoped simp] theorem ev_sNil : sNil env st = .ok (.nx env) st := rfl
@[scoped simp] theorem ev_set : sSet i m env st = lift (m env st) env fun d s => .ok (.nx (env.set i (some d))) s := rfl
@[scoped simp] theorem ev_ret : sRet m env st = lift (m env st) env fun d s => .ok (.rt d) s := rfl
@[scoped simp] theorem ev_retN : sRetN env st = .ok (.rt .non) st := rfl
@[scoped simp] theorem ev_drop : sDrop m env st = lift (m env st) env fun d s => .ok (.nx env) s := rfl
@[scoped simp] theorem ev_sIf : sIf ct a b env st = lift (ct env st) env fun k s => if k then a env s else b env s := rfl
@[scoped simp] theorem ev_asg {t : Tgt} : sAsg t m env st = lift (m env st) env fun d s => match bindT t d env with
  | some env' => .ok (.nx env') s
  | none => .bad := rfl
@[scoped simp] theorem ev_sub : sSub mo mi mv env st = lift (mv env st) env fun d s1 => lift (mo env s1) env fun x s2 => lift (mi env s2) env fun i s3 => match listAt s3 x, i with
  | some (n, xs), .int k => (match ixN xs.length k with
    | some j => .ok (.nx env) (s3.set n (.lst (xs.set j d)))
    | none => .bad)
  | _, _ => .bad := rfl
@[scoped simp] theorem ev_setF {c f : Str} : DL.sFld c f mo mv env st = lift (mv env st) env fun d s1 => lift (mo env s1) env fun x s2 => match x with
  | .loc n => (match s2[n]? with
    | some (.ins c' ns vs) => if c' = c ∧ ns.length < 1000 then .ok (.nx env) (s2.set n (.ins c (putN f d ns vs).1 (putN f d ns vs).2)) else .bad
    | _ => .bad)
  | _ => .bad := rfl
@[scoped simp] theorem ev_raise {c : Str} {names : List Str} : sRaise c names ms env st = lift (ms env st) env fun ds s => if ds.length = names.length then .ok (.xc ⟨c, names.reverse, ds.reverse⟩ env) s else .bad := rfl
end
end Ev
theorem sz (n : Nat) (h : n ≤ 1000000) : (n ≤ sizeLine) = True := by rw [sizeLine_eq]; simp; omega
open Ev
/-! lists of numbers -/
theorem pys_ints : ∀ zs : List Int, D.pys (zs.map .int) = some (zs.map PyData.int)
  | [] => rfl
  | z :: zs => by simp [D.pys, D.py, pys_ints zs]
theorem lay_ints : ∀ zs : List Int, PyData.canLayAll0 (zs.map PyData.int) = true
  | [] => rfl
  | z :: zs => by simp [PyData.canLayAll0, PyData.canLay0, lay_ints zs]
theorem dep_ints : ∀ zs : List Int, PyData.depthAll (zs.map PyData.int) ≤ 0 + 1
  | [] => by simp [PyData.depthAll]
  | z :: zs => by
    have h := dep_ints zs
    simp only [List.map_cons, PyData.depthAll]
    have : PyData.depth (.int z) ≤ 1 := by simp [PyData.depth]
    omega
theorem shaped_ints (zs : List Int) : SeqAt.shaped (.list (zs.map PyData.int)) = true := by
  unfold SeqAt.shaped
  have h := dep_ints zs
  have e1 : PyData.canLay0 (.list (zs.map PyData.int)) = true := by simp [PyData.canLay0, lay_ints]
  have e2 : PyData.depth (.list (zs.map PyData.int)) = PyData.depthAll (zs.map PyData.int) + 1 := by simp [PyData.depth]
  rw [e1, e2]
  simp
  omega
theorem shaped_nil : SeqAt.shaped (.list []) = true := shaped_ints []
/-- xs != [] -/
theorem neNil {x : D} {st : Store} {zs : List Int} (h : res st x = .lst (zs.map .int)) : opEqD true x (.lst []) st = .ok (.bl (!zs.isEmpty)) st := by
  unfold opEqD
  have e1 : (res st x).py = some (.list (zs.map PyData.int)) := by
    rw [h]
    simp [D.py, pys_ints]
  have e2 : (res st (.lst [])).py = some (.list []) := rfl
  rw [e1, e2]
  simp only [shaped_ints, shaped_nil, and_self, if_true]
  cases zs <;> simp [PyData.eqv, PyData.eqvAll]
/-! range -/
theorem rng1_ok {env : Sl} {st s : Store} {ms : M (List D)} {j : Int} (h : ms env st = .ok [.int j] s) (c : -(2 ^ 62) ≤ j ∧ j < 2 ^ 62) : mRng1 ms env st = .ok ⟨intsD 0 j.toNat, []⟩ s := by
  unfold mRng1
  rw [h]
  exact if_pos c
theorem rng2_ok {env : Sl} {st s : Store} {ms : M (List D)} {i j : Int} (h : ms env st = .ok [.int i, .int j] s) (c : -(2 ^ 62) ≤ i ∧ i < 2 ^ 62 ∧ -(2 ^ 62) ≤ j ∧ j < 2 ^ 62) : mRng2 ms env st = .ok ⟨intsD i (j - i).toNat, []⟩ s := by
  unfold mRng2
  rw [h]
  exact if_pos c
end DL

set_option maxHeartbeats 2000000
/-! DV: data whose repr is short. -/
namespace DL
open PySem PySem.Spec PyProof.Rows L2

/-! every sign of a text is one -/
def SOk (x : Str) : Prop := ∀ c ∈ x.cps.toList, c < 0x110000
theorem sok_app {x y : Str} (h : SOk x) (g : SOk y) : SOk (x ++ y) := fun c hc => by
  have hc : c ∈ (x.cps ++ y.cps).toList := hc
  rw [Array.toList_append, List.mem_append] at hc
  exact hc.elim (h c) (g c)
theorem sok_lit (s : String) : SOk (Str.ofString s) := fun c hc => by
  rw [Str.ofString_eq_toList] at hc
  simp only [List.mem_map] at hc
  obtain ⟨a, _, e⟩ := hc
  subst e
  have := a.valid
  have h : a.toNat < 0x110000 := by
    rcases this with h | h
    · exact Nat.lt_trans h (by decide)
    · exact h.2
  exact h
theorem sok_join {s : Str} (hs : SOk s) : ∀ {ts : List Str}, (∀ t ∈ ts, SOk t) → SOk (Str.join s ts)
  | [], _ => sok_lit ""
  | [x], h => h x (by simp)
  | x :: y :: r, h => by
    show SOk (x ++ s ++ Str.join s (y :: r))
    exact sok_app (sok_app (h x (by simp)) hs) (sok_join hs fun t ht => h t (by simp at ht ⊢; exact .inr ht))
theorem sok_from : ∀ {ts : List Str} {k : Nat} {acc : Str}, SOk acc → (∀ t ∈ ts, SOk t) → SOk (textFrom k acc ts)
  | [], _, _, h, _ => h
  | t :: r, k, acc, h, g => by
    show SOk (textFrom (k + 1) (acc ++ (if k > 0 then ", " else "" : String) ++ t) r)
    exact sok_from (sok_app (sok_app h (sok_lit _)) (g t (by simp))) fun u hu => g u (by simp [hu])
theorem sok_char {q c : Nat} (hq : q < 0x110000) (hc : c < 0x110000) : ∀ d ∈ Builtin.Str.reprChar q c, d < 0x110000 := by
  have hx : ∀ n k, ∀ d ∈ (List.replicate n 48 ++ (Nat.toDigits 16 k).map Char.toNat), d < 0x110000 := by
    intro n k d hd
    rw [List.mem_append] at hd
    rcases hd with hd | hd
    · rw [List.mem_replicate] at hd
      omega
    · obtain ⟨a, _, e⟩ := List.mem_map.mp hd
      subst e
      have := a.valid
      rcases this with h | h
      · exact Nat.lt_trans h (by decide)
      · exact h.2
  intro d hd
  unfold Builtin.Str.reprChar at hd
  dsimp only at hd
  repeat' split at hd
  all_goals simp only [List.mem_append, List.mem_cons, List.not_mem_nil, or_false] at hd
  all_goals first | omega | (rcases hd with hd | hd | hd; · omega; · omega) | skip
  all_goals first
    | (rcases hd with (hd | hd) | hd
       · omega
       · omega
       · exact hx _ _ d (List.mem_append.mpr hd))
    | skip
theorem sok_fold {q : Nat} (hq : q < 0x110000) : ∀ (l : List Nat) (acc : Array Nat), (∀ c ∈ l, c < 0x110000) → (∀ d ∈ acc.toList, d < 0x110000) → ∀ d ∈ (l.foldl (fun out c => out ++ (Builtin.Str.reprChar q c).toArray) acc).toList, d < 0x110000
  | [], _, _, h => h
  | c :: l, acc, hl, h => by
    refine sok_fold hq l _ (fun z hz => hl z (by simp [hz])) fun d hd => ?_
    rw [Array.toList_append, List.mem_append] at hd
    rcases hd with hd | hd
    · exact h d hd
    · exact sok_char hq (hl c (by simp)) d (by simpa using hd)
theorem sok_repr {x : Str} (h : SOk x) : SOk (reprText x) := fun d hd => by
  have hq : reprQuote x < 0x110000 := by unfold reprQuote; split <;> omega
  unfold reprText at hd
  simp only [Array.toList_push, List.mem_append, List.mem_singleton] at hd
  rcases hd with hd | hd
  · rw [← Array.foldl_toList] at hd
    exact sok_fold hq _ _ h (fun d hd => by simp at hd; omega) d hd
  · omega
mutual
def sOk : PyData → Bool
  | .str x => PyData.strOk x
  | .list xs => sOkAll xs
  | .tuple xs => sOkAll xs
  | .dict kvs => sOkKv kvs
  | .none => true
  | .bool _ => true
  | .int _ => true
def sOkAll : List PyData → Bool
  | [] => true
  | x :: xs => sOk x && sOkAll xs
def sOkKv : List (PyData × PyData) → Bool
  | [] => true
  | (k, v) :: r => sOk k && sOk v && sOkKv r
end
theorem sok_of {x : Str} (h : PyData.strOk x = true) : SOk x := fun c hc => by
  unfold PyData.strOk at h
  rw [Array.all_eq_true'] at h
  exact of_decide_eq_true (h c (by simpa using hc))
theorem of_sok {x : Str} (h : SOk x) : PyData.strOk x = true := by
  unfold PyData.strOk
  rw [Array.all_eq_true']
  exact fun c hc => decide_eq_true (h c (by simpa using hc))
mutual
theorem sok_shown : ∀ p : PyData, sOk p = true → SOk p.shown
  | .none, _ => by unfold PyData.shown; exact sok_lit _
  | .bool b, _ => by unfold PyData.shown; split <;> exact sok_lit _
  | .int _, _ => by unfold PyData.shown; exact sok_lit _
  | .str x, h => by unfold PyData.shown; exact sok_repr (sok_of h)
  | .list xs, h => by
    unfold PyData.shown listText
    exact sok_app (sok_from (sok_lit _) (sok_shownA xs h)) (sok_lit _)
  | .tuple xs, h => by
    unfold PyData.shown tupleText
    exact sok_app (sok_app (sok_lit _) (sok_join (sok_lit _) (sok_shownA xs h))) (sok_lit _)
  | .dict kvs, h => by
    unfold PyData.shown dictText
    exact sok_app (sok_app (sok_lit _) (sok_join (sok_lit _) (sok_shownK kvs h))) (sok_lit _)
theorem sok_shownA : ∀ ps : List PyData, sOkAll ps = true → ∀ t ∈ PyData.shownAll ps, SOk t
  | [], _, t, ht => by simp [PyData.shownAll] at ht
  | p :: ps, h, t, ht => by
    unfold sOkAll at h
    rw [Bool.and_eq_true] at h
    unfold PyData.shownAll at ht
    rcases List.mem_cons.mp ht with e | ht
    · rw [e]; exact sok_shown p h.1
    · exact sok_shownA ps h.2 t ht
theorem sok_shownK : ∀ ps : List (PyData × PyData), sOkKv ps = true → ∀ t ∈ PyData.shownKv ps, SOk t
  | [], _, t, ht => by simp [PyData.shownKv] at ht
  | (k, v) :: ps, h, t, ht => by
    unfold sOkKv at h
    rw [Bool.and_eq_true, Bool.and_eq_true] at h
    unfold PyData.shownKv at ht
    rcases List.mem_cons.mp ht with e | ht
    · rw [e]; exact sok_app (sok_app (sok_shown k h.1.1) (sok_lit _)) (sok_shown v h.1.2)
    · exact sok_shownK ps h.2 t ht
end
/-- depth at most k, weight at most W, numbers of at most 40 figures -/
def RV (k W : Nat) (d : D) : Prop := ∃ p, d.pyd = some p ∧ p.showable = true ∧ p.depth ≤ k ∧ p.leavesShort 45 = true ∧ p.weight ≤ W ∧ sOk p = true
def RVs (k W : Nat) (ds : List D) : Prop := ∃ ps, D.pyds ds = some ps ∧ PyData.showableAll ps = true ∧ PyData.depthAll ps ≤ k ∧ PyData.leavesShortAll 45 ps = true ∧ PyData.weightAll ps ≤ W ∧ sOkAll ps = true
theorem RV.tup {k W : Nat} {ds : List D} (h : RVs k W ds) : RV (k + 1) W (.tup ds) := by
  obtain ⟨ps, e, h1, h2, h3, h4, h5⟩ := h
  exact ⟨.tuple ps, by simp [D.pyd, e], by simpa [PyData.showable] using h1, by simp [PyData.depth]; omega, by simpa [PyData.leavesShort] using h3, by simpa [PyData.weight] using h4, by unfold sOk; exact h5⟩
theorem RV.lst {k W : Nat} {ds : List D} (h : RVs k W ds) : RV (k + 1) W (.lst ds) := by
  obtain ⟨ps, e, h1, h2, h3, h4, h5⟩ := h
  exact ⟨.list ps, by simp [D.pyd, e], by simpa [PyData.showable] using h1, by simp [PyData.depth]; omega, by simpa [PyData.leavesShort] using h3, by simpa [PyData.weight] using h4, by unfold sOk; exact h5⟩
theorem RVs.nil {k : Nat} : RVs k 0 [] := ⟨[], rfl, rfl, by simp [PyData.depthAll], rfl, by simp [PyData.weightAll], rfl⟩
theorem RVs.cons {k W W' : Nat} {d : D} {ds : List D} (h : RV k W d) (t : RVs k W' ds) : RVs k (W + 1 + W') (d :: ds) := by
  obtain ⟨p, e, h1, h2, h3, h4, h5⟩ := h
  obtain ⟨ps, e', t1, t2, t3, t4, t5⟩ := t
  exact ⟨p :: ps, by simp [D.pyds, e, e'], by simp [PyData.showableAll, h1, t1], by simp [PyData.depthAll]; omega, by simp [PyData.leavesShortAll, h3, t3], by simp [PyData.weightAll]; omega, by unfold sOkAll; rw [h5, t5]; rfl⟩
theorem RV.le {k W k' W' : Nat} {d : D} (h : RV k W d) (hk : k ≤ k') (hW : W ≤ W') : RV k' W' d := by
  obtain ⟨p, e, h1, h2, h3, h4, h5⟩ := h
  exact ⟨p, e, h1, by omega, h3, by omega, h5⟩
theorem RVs.le {k W k' W' : Nat} {d : List D} (h : RVs k W d) (hk : k ≤ k') (hW : W ≤ W') : RVs k' W' d := by
  obtain ⟨p, e, h1, h2, h3, h4, h5⟩ := h
  exact ⟨p, e, h1, by omega, h3, by omega, h5⟩
/-- as many as n, each of weight W -/
theorem RVs.of {k W : Nat} : ∀ {ds : List D}, (∀ d ∈ ds, RV k W d) → RVs k ((W + 1) * ds.length) ds
  | [], _ => RVs.nil
  | d :: ds, h => by
    have t := RVs.of (ds := ds) fun x hx => h x (by simp [hx])
    refine (RVs.cons (h d (by simp)) t).le (Nat.le_refl _) ?_
    rw [List.length_cons, Nat.mul_succ]
    omega
/-- its repr is a text, the same each time -/
theorem repr_ok {k W : Nat} {d : D} (h : RV k W d) (hk : k ≤ 40) (hW : W ≤ 100000) : ∃ s, PyData.canLay0 (.str s) = true ∧ ∀ st, fRepr [d] st = .ok (.str s) st := by
  obtain ⟨p, e, h1, h2, h3, h4, h5⟩ := h
  have hs : p.shown.length ≤ sizeLine := by
    have q := PyData.shown_le 45 (by omega) p h3
    have : (45 + 2) * p.weight ≤ 47 * 100000 := Nat.mul_le_mul (by omega) (by omega)
    rw [sizeLine_eq]
    omega
  refine ⟨p.shown, by unfold PyData.canLay0; exact of_sok (sok_shown p h5), fun st => ?_⟩
  have hd : d.den st = some p := by
    unfold D.den
    cases d with
    | loc n => cases e
    | _ => exact e
  show (match d.den st with | some p => _ | none => _) = _
  rw [hd]
  exact if_pos ⟨h1, by omega, hs⟩
theorem RV.int {i : Int} (h : i.natAbs < 10 ^ 40) : RV 0 140 (.int i) := by
  have hl : i.natAbs.log2 < 134 := by
    rcases Nat.eq_zero_or_pos i.natAbs with z | z
    · rw [z]; decide
    · exact (Nat.log2_lt (by omega)).mpr (Nat.lt_trans h (by decide))
  refine ⟨.int i, rfl, ?_, ?_, ?_, ?_, rfl⟩
  · simp only [PyData.showable, decide_eq_true_eq]; omega
  · simp [PyData.depth]
  · simp only [PyData.leavesShort, decide_eq_true_eq]
    have e := int_text_length_le10 (k := 40) (by decide) h
    show (Str.ofString (toString i)).length ≤ 45
    rw [PySem.ofString_length]
    omega
  · simp only [PyData.weight]
    split <;> omega
theorem wt_len : ∀ ps : List PyData, ps.length ≤ PyData.weightAll ps
  | [] => by simp
  | p :: ps => by
    have := wt_len ps
    simp only [List.length_cons, PyData.weightAll]
    omega
theorem pyds_len : ∀ {ds : List D} {ps : List PyData}, D.pyds ds = some ps → ps.length = ds.length
  | [], ps, h => by cases h; rfl
  | d :: ds, ps, h => by
    unfold D.pyds at h
    obtain ⟨p, _, h2⟩ := Option.bind_eq_some_iff.mp h
    obtain ⟨qs, h3, rfl⟩ := Option.map_eq_some_iff.mp h2
    simp [pyds_len h3]
theorem RV.len {k W : Nat} {ds : List D} (h : RV k W (.tup ds)) : ds.length ≤ W := by
  obtain ⟨p, e, _, _, _, h4, _⟩ := h
  obtain ⟨ps, e1, rfl⟩ := Option.map_eq_some_iff.mp e
  have h1 := wt_len ps
  have h2 := pyds_len e1
  simp only [PyData.weight] at h4
  omega
theorem pyds_mem : ∀ {ds : List D} {ps : List PyData} {x : D}, D.pyds ds = some ps → x ∈ ds → ∃ p, p ∈ ps ∧ x.pyd = some p
  | [], _, x, _, hx => by cases hx
  | d :: ds, ps, x, h, hx => by
    unfold D.pyds at h
    obtain ⟨p, h1, h2⟩ := Option.bind_eq_some_iff.mp h
    obtain ⟨qs, h3, rfl⟩ := Option.map_eq_some_iff.mp h2
    rcases List.mem_cons.mp hx with rfl | hx
    · exact ⟨p, by simp, h1⟩
    · obtain ⟨q, h4, h5⟩ := pyds_mem h3 hx
      exact ⟨q, by simp [h4], h5⟩
theorem all_mem : ∀ {ps : List PyData} {p : PyData}, p ∈ ps → (PyData.showableAll ps = true → p.showable = true) ∧ p.depth ≤ PyData.depthAll ps ∧ (PyData.leavesShortAll 45 ps = true → p.leavesShort 45 = true) ∧ p.weight ≤ PyData.weightAll ps ∧ (sOkAll ps = true → sOk p = true)
  | [], p, h => by cases h
  | q :: ps, p, h => by
    have ih : p ∈ ps → _ := fun hp => all_mem (ps := ps) hp
    simp only [PyData.showableAll, PyData.depthAll, PyData.leavesShortAll, PyData.weightAll, sOkAll, Bool.and_eq_true]
    rcases List.mem_cons.mp h with rfl | h
    · exact ⟨fun h => h.1, by omega, fun h => h.1, by omega, fun h => h.1⟩
    · obtain ⟨h1, h2, h3, h4, h5⟩ := ih h
      exact ⟨fun h => h1 h.2, by omega, fun h => h3 h.2, by omega, fun h => h5 h.2⟩
theorem RV.mem {k W : Nat} {ds : List D} {x : D} (h : RV k W (.tup ds)) (hx : x ∈ ds) : RV k W x := by
  obtain ⟨p, e, h1, h2, h3, h4, h5⟩ := h
  obtain ⟨ps, e1, rfl⟩ := Option.map_eq_some_iff.mp e
  obtain ⟨q, hq, eq⟩ := pyds_mem e1 hx
  obtain ⟨g1, g2, g3, g4, g5⟩ := all_mem hq
  simp only [PyData.depth] at h2
  simp only [PyData.weight] at h4
  exact ⟨q, eq, g1 (by simpa [PyData.showable] using h1), by omega, g3 (by simpa [PyData.leavesShort] using h3), by omega, g5 (by unfold sOk at h5; exact h5)⟩
end DL

set_option maxHeartbeats 4000000
namespace DL
open PySem PySem.Spec PyProof.Rows L2 DH Ev
section
variable {env : Sl} {st s s2 : Store} {ma mb mc : M D} {ca cb : M Bool} {d : D} {b : Bool} {i : Nat} {f g : D → D → Store → R D}
theorem and_t (h : ma env st = .ok (.bl true) s) : mAnd ma mb env st = mb env s := by simp [h]
theorem and_f (h : ma env st = .ok (.bl false) s) : mAnd ma mb env st = .ok (.bl false) s := by simp [h]
theorem or_t (h : ma env st = .ok (.bl true) s) : mOr ma mb env st = .ok (.bl true) s := by simp [h]
theorem or_f (h : ma env st = .ok (.bl false) s) : mOr ma mb env st = mb env s := by simp [h]
theorem andT_t (h : ca env st = .ok true s) : mAndT ca cb env st = cb env s := by simp [h]
theorem andT_f (h : ca env st = .ok false s) : mAndT ca cb env st = .ok false s := by simp [h]
theorem orT_t (h : ca env st = .ok true s) : mOrT ca cb env st = .ok true s := by simp [h]
theorem orT_f (h : ca env st = .ok false s) : mOrT ca cb env st = cb env s := by simp [h]
theorem notT_ok (h : ca env st = .ok b s) : mNotT ca env st = .ok (!b) s := by simp [h]
theorem test_ok (h : ma env st = .ok (.bl b) s) : mTest ma env st = .ok b s := by simp [h]
theorem tru_bl (h : ma env st = .ok (.bl b) s) : mTru ma env st = .ok b s := by simp [h, tru]
theorem op_ok {x y : D} (h : ma env st = .ok x s) (h2 : mb env s = .ok y s2) : mOp f ma mb env st = f x y s2 := by simp [h, h2]
theorem mIf_t {c : M Bool} (h : c env st = .ok true s) : mIf c ma mb env st = ma env s := by simp [h]
theorem mIf_f {c : M Bool} (h : c env st = .ok false s) : mIf c ma mb env st = mb env s := by simp [h]
theorem call1 {fn : Fn} {x : D} (h : ma env st = .ok x s) : mCall fn (mCons ma mNil) env st = fn [x] s := by simp [h]
theorem call2 {fn : Fn} {x y : D} (h : ma env st = .ok x s) (h2 : mb env s = .ok y s2) : mCall fn (mCons ma (mCons mb mNil)) env st = fn [x, y] s2 := by simp [h, h2]
end
/-! membership in texts and numbers -/
theorem inV_strs {x : Str} : ∀ ws : List Str, inV (.str x) ((ws.map D.str).map D.v) = ws.contains x
  | [] => rfl
  | w :: ws => by
    have ih := inV_strs (x := x) ws
    unfold inV at ih ⊢
    simp only [List.map_cons, List.any_cons, ih, List.contains_cons]
    congr 1
    show (w == x) = (x == w)
    exact Bool.eq_iff_iff.mpr ⟨fun h => by simpa using (by simpa using h : w = x).symm, fun h => by simpa using (by simpa using h : x = w).symm⟩
theorem flat_strs (ws : List Str) : (ws.map D.str).all D.flat = true := by simp [D.flat]
theorem in_strs {neg : Bool} {x : Str} {ws : List Str} {st : Store} : opIn neg (.str x) (.tup (ws.map .str)) st = .ok (.bl (neg ^^ ws.contains x)) st := by
  unfold opIn
  simp only [asS]
  rw [if_pos ⟨rfl, flat_strs ws⟩]
  show R.ok (D.bl (neg ^^ inV (.str x) ((ws.map D.str).map D.v))) st = _
  rw [inV_strs]
theorem inV_ints {x : Int} : ∀ ws : List Int, inV (.int x) ((ws.map D.int).map D.v) = ws.contains x
  | [] => rfl
  | w :: ws => by
    have ih := inV_ints (x := x) ws
    unfold inV at ih ⊢
    simp only [List.map_cons, List.any_cons, ih, List.contains_cons]
    congr 1
    show (w == x) = (x == w)
    exact Bool.eq_iff_iff.mpr ⟨fun h => by simpa using (by simpa using h : w = x).symm, fun h => by simpa using (by simpa using h : x = w).symm⟩
theorem flat_ints (ws : List Int) : (ws.map D.int).all D.flat = true := by simp [D.flat]
theorem in_ints {neg : Bool} {x : Int} {ws : List Int} {st : Store} : opIn neg (.int x) (.tup (ws.map .int)) st = .ok (.bl (neg ^^ ws.contains x)) st := by
  unfold opIn
  simp only [asS]
  rw [if_pos ⟨rfl, flat_ints ws⟩]
  show R.ok (D.bl (neg ^^ inV (.int x) ((ws.map D.int).map D.v))) st = _
  rw [inV_ints]
/-! all over a list, any over a list -/
theorem bls_map (f : D → Bool) : ∀ xs : List D, toBls (xs.map fun d => .bl (f d)) = some (xs.map f)
  | [] => rfl
  | x :: xs => by simp [toBls, bls_map f xs]
theorem lc_bls {env : Sl} {st : Store} {t : Tgt} {mi : M Src} {te : M D} {own : List Nat} {xs : List D} {f : D → Bool} (hm : mi env st = .ok ⟨xs, []⟩ st) (hl : xs.length ≤ 1000000)
    (h : ∀ d ∈ xs, ∃ env1, bindT t d (wipeD env own) = some env1 ∧ te env1 st = .ok (.bl (f d)) st) : mLc t mi mYes te own env st = .ok (.lst (xs.map fun d => .bl (f d))) st := by
  rw [lc_ok_of hm, lc_map (p := fun _ => true) (g := fun d => .bl (f d)) okS_nil _ _ (by rw [sizeLine_eq]; simp; omega)]
  · have : xs.filter (fun _ => true) = xs := List.filter_eq_self.mpr fun _ _ => rfl
    simp only [this, List.nil_append]
  · intro d hd
    obtain ⟨env1, e1, e2⟩ := h d hd
    exact ⟨env1, e1, rfl, fun _ => e2⟩
theorem all_overT {env : Sl} {st : Store} {t : Tgt} {mi : M Src} {te : M D} {own : List Nat} {xs : List D} {f : D → Bool} (hm : mi env st = .ok ⟨xs, []⟩ st) (hl : xs.length ≤ 1000000)
    (h : ∀ d ∈ xs, ∃ env1, bindT t d (wipeD env own) = some env1 ∧ te env1 st = .ok (.bl (f d)) st) : mCall (fL gAll) (mCons (mLc t mi mYes te own) mNil) env st = .ok (.bl (xs.all f)) st := by
  have e1 := lc_bls hm hl h
  have e2 : List.all (xs.map f) id = xs.all f := by rw [List.all_map]; rfl
  simp only [ev_call, ev_cons, e1, R.bind_ok, ev_nil]
  simp only [fL, asL, gAll, bls_map, e2]
theorem any_overT {env : Sl} {st : Store} {t : Tgt} {mi : M Src} {te : M D} {own : List Nat} {xs : List D} {f : D → Bool} (hm : mi env st = .ok ⟨xs, []⟩ st) (hl : xs.length ≤ 1000000)
    (h : ∀ d ∈ xs, ∃ env1, bindT t d (wipeD env own) = some env1 ∧ te env1 st = .ok (.bl (f d)) st) : mCall (fL gAny) (mCons (mLc t mi mYes te own) mNil) env st = .ok (.bl (xs.any f)) st := by
  have e1 := lc_bls hm hl h
  have e2 : List.any (xs.map f) id = xs.any f := by rw [List.any_map]; rfl
  simp only [ev_call, ev_cons, e1, R.bind_ok, ev_nil]
  simp only [fL, asL, gAny, bls_map, e2]
theorem all_over {env : Sl} {st : Store} {i : Nat} {mi : M Src} {te : M D} {own : List Nat} {xs : List D} {f : D → Bool} (hm : mi env st = .ok ⟨xs, []⟩ st) (hl : xs.length ≤ 1000000)
    (h : ∀ d ∈ xs, te ((wipeD env own).set i (some d)) st = .ok (.bl (f d)) st) : mCall (fL gAll) (mCons (mLc (.nm i) mi mYes te own) mNil) env st = .ok (.bl (xs.all f)) st := all_overT hm hl fun d hd => ⟨_, rfl, h d hd⟩
theorem any_over {env : Sl} {st : Store} {i : Nat} {mi : M Src} {te : M D} {own : List Nat} {xs : List D} {f : D → Bool} (hm : mi env st = .ok ⟨xs, []⟩ st) (hl : xs.length ≤ 1000000)
    (h : ∀ d ∈ xs, te ((wipeD env own).set i (some d)) st = .ok (.bl (f d)) st) : mCall (fL gAny) (mCons (mLc (.nm i) mi mYes te own) mNil) env st = .ok (.bl (xs.any f)) st := any_overT hm hl fun d hd => ⟨_, rfl, h d hd⟩
end DL

set_option maxHeartbeats 2000000
/-! DX: what holds behind a piece of code: one rule a construct, the rest kept folded. -/
namespace DL
open PySem PySem.Spec PyProof.Rows L2 DH
def Wp {α : Type} (r : R α) (Q : α → Store → Prop) (X : Ex → Store → Prop) : Prop := match r with
  | .ok a s => Q a s
  | .exc e s => X e s
  | .bad => False
abbrev NoX : Ex → Store → Prop := fun _ _ => False
section
variable {α β : Type} {Q Q' : α → Store → Prop} {X X' : Ex → Store → Prop} {r : R α} {a : α} {s st : Store} {e : Ex}
@[simp ↓] theorem Wp_ok : Wp (.ok a s) Q X = Q a s := id rfl
@[simp ↓] theorem Wp_exc : Wp (.exc e s) Q X = X e s := id rfl
@[simp ↓] theorem Wp_bad : Wp (.bad : R α) Q X = False := id rfl
theorem Wp_bind {f : α → Store → R β} {P : β → Store → Prop} : Wp (r.bind f) P X = Wp r (fun a s => Wp (f a s) P X) X := by cases r <;> rfl
theorem Wp_lift {f : α → Store → R Fl} {env : Sl} {P : Fl → Store → Prop} : Wp (lift r env f) P X = Wp r (fun a s => Wp (f a s) P X) (fun e s => P (.xc e env) s) := by cases r <;> rfl
theorem Wp.use (h : Wp r Q X) (q : ∀ a s, Q a s → Q' a s) (x : ∀ e s, X e s → X' e s) : Wp r Q' X' := by
  cases r with
  | ok a s => exact q _ _ h
  | exc e s => exact x _ _ h
  | bad => exact h
theorem Wp.go (h : Wp r Q NoX) (q : ∀ a s, Q a s → Q' a s) : Wp r Q' X := h.use q fun _ _ z => z.elim
theorem Wp.eq (h : Wp r (fun b s => b = a ∧ s = st) NoX) : r = .ok a st := by
  cases r with
  | ok a s => obtain ⟨h1, h2⟩ := h; rw [h1, h2]
  | exc e s => exact h.elim
  | bad => exact h.elim
theorem Wp.eqX (h : Wp r (fun _ _ => False) (fun b s => b = e ∧ s = st)) : r = .exc e st := by
  cases r with
  | ok a s => exact h.elim
  | exc e s => obtain ⟨h1, h2⟩ := h; rw [h1, h2]
  | bad => exact h.elim
theorem Wp.of_eq (h : r = .ok a st) (q : Q a st) : Wp r Q X := by rw [h]; exact q
theorem Wp.ex (h : Wp r Q NoX) : ∃ a s, r = .ok a s ∧ Q a s := by
  cases r with
  | ok a s => exact ⟨a, s, rfl, h⟩
  | exc e s => exact h.elim
  | bad => exact h.elim
end
/-! ### what waits -/
section
variable {Q : D → Store → Prop} {QB : Bool → Store → Prop} {QL : List D → Store → Prop} {QF : Fl → Store → Prop} {X : Ex → Store → Prop} {env : Sl} {st s : Store}
def KO {α : Type} (P : α → Prop) : Option α → Prop
  | some a => P a
  | none => False
@[simp] theorem KO_some {α : Type} {P : α → Prop} {a : α} : KO P (some a) = P a := rfl
@[simp] theorem KO_none {α : Type} {P : α → Prop} : KO P none = False := rfl
def KVar (Q : D → Store → Prop) (st : Store) : Option (Option D) → Prop
  | some (some d) => Q d st
  | _ => False
@[simp] theorem KVar_some {d : D} : KVar Q st (some (some d)) = Q d st := rfl
@[simp ↓] theorem wp_var {i : Nat} : Wp (mVar i env st) Q X = KVar Q st env[i]? := by
  unfold mVar
  cases env[i]? with
  | none => rfl
  | some o => cases o <;> rfl
@[simp ↓] theorem wp_c {d : D} : Wp (mC d env st) Q X = Q d st := id rfl
def KOp2 (f : D → D → Store → R D) (x : D) (Q : D → Store → Prop) (X : Ex → Store → Prop) (y : D) (s : Store) : Prop := Wp (f x y s) Q X
def KOp (f : D → D → Store → R D) (mb : M D) (env : Sl) (Q : D → Store → Prop) (X : Ex → Store → Prop) (x : D) (s : Store) : Prop := Wp (mb env s) (KOp2 f x Q X) X
@[simp ↓] theorem kop2 {f : D → D → Store → R D} {x y : D} : KOp2 f x Q X y s = Wp (f x y s) Q X := rfl
@[simp ↓] theorem kop {f : D → D → Store → R D} {mb : M D} {x : D} : KOp f mb env Q X x s = Wp (mb env s) (KOp2 f x Q X) X := rfl
@[simp ↓] theorem wp_op {f : D → D → Store → R D} {ma mb : M D} : Wp (mOp f ma mb env st) Q X = Wp (ma env st) (KOp f mb env Q X) X := by
  rw [Ev.ev_op, Wp_bind]
  congr 1
  funext x s
  rw [Wp_bind]
  rfl
@[simp ↓] theorem wp_nil : Wp (mNil env st) QL X = QL [] st := id rfl
def KCons2 (d : D) (Q : List D → Store → Prop) (ds : List D) (s : Store) : Prop := Q (d :: ds) s
def KCons (ms : M (List D)) (env : Sl) (Q : List D → Store → Prop) (X : Ex → Store → Prop) (d : D) (s : Store) : Prop := Wp (ms env s) (KCons2 d Q) X
@[simp ↓] theorem kcons2 {d : D} {ds : List D} : KCons2 d QL ds s = QL (d :: ds) s := rfl
@[simp ↓] theorem kcons {ms : M (List D)} {d : D} : KCons ms env QL X d s = Wp (ms env s) (KCons2 d QL) X := rfl
@[simp ↓] theorem wp_cons {m : M D} {ms : M (List D)} : Wp (mCons m ms env st) QL X = Wp (m env st) (KCons ms env QL X) X := by
  rw [Ev.ev_cons, Wp_bind]
  congr 1
  funext x s
  rw [Wp_bind]
  rfl
theorem wp_szif {c : Prop} [Decidable c] {α : Type} {a : α} {Q : α → Store → Prop} : Wp (if c then .ok a s else .bad) Q X = (c ∧ Q a s) := by
  by_cases h : c <;> simp [h]
def KTup (Q : D → Store → Prop) (ds : List D) (s : Store) : Prop := ds.length ≤ sizeLine ∧ Q (.tup ds) s
def KLst (Q : D → Store → Prop) (ds : List D) (s : Store) : Prop := ds.length ≤ sizeLine ∧ Q (.lst ds) s
def KLstC (Q : D → Store → Prop) (ds : List D) (s : Store) : Prop := ds.length ≤ sizeLine ∧ Q (.loc s.length) (s ++ [Cell.lst ds])
@[simp ↓] theorem ktup {ds : List D} : KTup Q ds s = (ds.length ≤ sizeLine ∧ Q (.tup ds) s) := rfl
@[simp ↓] theorem klst {ds : List D} : KLst Q ds s = (ds.length ≤ sizeLine ∧ Q (.lst ds) s) := rfl
@[simp ↓] theorem klstC {ds : List D} : KLstC Q ds s = (ds.length ≤ sizeLine ∧ Q (.loc s.length) (s ++ [Cell.lst ds])) := rfl
@[simp] theorem szL {n : Nat} : (n ≤ sizeLine) = (n ≤ 16777216) := by rw [sizeLine_eq]
@[simp] theorem sz_nil {α : Type} : (([] : List α).length ≤ sizeLine) = True := by rw [sizeLine_eq]; simp
theorem szcons {α : Type} {a : α} {l : List α} : ((a :: l).length ≤ sizeLine) = (l.length ≤ 16777215) := by rw [sizeLine_eq]; simp
@[simp ↓] theorem wp_tup {ms : M (List D)} : Wp (mTup ms env st) Q X = Wp (ms env st) (KTup Q) X := by
  rw [Ev.ev_tup, Wp_bind]
  congr 1
  funext x s
  rw [wp_szif]
  rfl
@[simp ↓] theorem wp_lst {ms : M (List D)} : Wp (mLst ms env st) Q X = Wp (ms env st) (KLst Q) X := by
  rw [Ev.ev_lst, Wp_bind]
  congr 1
  funext x s
  rw [wp_szif]
  rfl
@[simp ↓] theorem wp_lstC {ms : M (List D)} : Wp (mLstC ms env st) Q X = Wp (ms env st) (KLstC Q) X := by
  rw [Ev.ev_lstC, Wp_bind]
  congr 1
  funext x s
  rw [wp_szif]
  rfl
def KCall (f : Fn) (Q : D → Store → Prop) (X : Ex → Store → Prop) (ds : List D) (s : Store) : Prop := Wp (f ds s) Q X
@[simp ↓] theorem kcall {f : Fn} {ds : List D} : KCall f Q X ds s = Wp (f ds s) Q X := rfl
@[simp ↓ low] theorem wp_call {f : Fn} {ms : M (List D)} : Wp (mCall f ms env st) Q X = Wp (ms env st) (KCall f Q X) X := by
  rw [Ev.ev_call, Wp_bind]
  rfl
def KTest (Q : Bool → Store → Prop) (d : D) (s : Store) : Prop := ∃ b, d = .bl b ∧ Q b s
@[simp ↓] theorem ktest {b : Bool} : KTest QB (.bl b) s = QB b s := by
  refine propext ⟨?_, fun h => ⟨b, rfl, h⟩⟩
  rintro ⟨c, e, h⟩
  cases e
  exact h
@[simp ↓] theorem wp_test {m : M D} : Wp (mTest m env st) QB X = Wp (m env st) (KTest QB) X := by
  rw [Ev.ev_test, Wp_bind]
  congr 1
  funext d s
  refine propext ⟨fun h => ?_, fun h => ?_⟩
  · cases d with
    | bl b => exact ⟨b, rfl, h⟩
    | _ => exact h.elim
  · obtain ⟨b, e, h⟩ := h
    subst e
    exact h
def KTru (Q : Bool → Store → Prop) (d : D) (s : Store) : Prop := KO (fun b => Q b s) (tru s d)
@[simp ↓] theorem ktru_bl {b : Bool} : KTru QB (.bl b) s = QB b s := rfl
@[simp ↓] theorem ktru {d : D} : KTru QB d s = KO (fun b => QB b s) (tru s d) := rfl
@[simp ↓] theorem wp_tru {m : M D} : Wp (mTru m env st) QB X = Wp (m env st) (KTru QB) X := by
  rw [Ev.ev_tru, Wp_bind]
  congr 1
  funext d s
  unfold KTru
  cases tru s d <;> rfl
def KAndT (b : M Bool) (env : Sl) (Q : Bool → Store → Prop) (X : Ex → Store → Prop) (c : Bool) (s : Store) : Prop := if c then Wp (b env s) Q X else Q false s
def KOrT (b : M Bool) (env : Sl) (Q : Bool → Store → Prop) (X : Ex → Store → Prop) (c : Bool) (s : Store) : Prop := if c then Q true s else Wp (b env s) Q X
@[simp ↓] theorem kandT_t {b : M Bool} : KAndT b env QB X true s = Wp (b env s) QB X := rfl
@[simp ↓] theorem kandT_f {b : M Bool} : KAndT b env QB X false s = QB false s := rfl
@[simp ↓] theorem korT_t {b : M Bool} : KOrT b env QB X true s = QB true s := rfl
@[simp ↓] theorem korT_f {b : M Bool} : KOrT b env QB X false s = Wp (b env s) QB X := rfl
@[simp ↓] theorem wp_andT {a b : M Bool} : Wp (mAndT a b env st) QB X = Wp (a env st) (KAndT b env QB X) X := by
  rw [Ev.ev_andT, Wp_bind]
  congr 1
  funext c s
  cases c <;> rfl
@[simp ↓] theorem wp_orT {a b : M Bool} : Wp (mOrT a b env st) QB X = Wp (a env st) (KOrT b env QB X) X := by
  rw [Ev.ev_orT, Wp_bind]
  congr 1
  funext c s
  cases c <;> rfl
def KNotT (Q : Bool → Store → Prop) (c : Bool) (s : Store) : Prop := Q (!c) s
@[simp ↓] theorem knotT {c : Bool} : KNotT QB c s = QB (!c) s := rfl
@[simp ↓] theorem wp_notT {a : M Bool} : Wp (mNotT a env st) QB X = Wp (a env st) (KNotT QB) X := by
  rw [Ev.ev_notT, Wp_bind]
  rfl
def KAnd (b : M D) (env : Sl) (Q : D → Store → Prop) (X : Ex → Store → Prop) (x : D) (s : Store) : Prop := match x with
  | .bl true => Wp (b env s) Q X
  | .bl false => Q (.bl false) s
  | _ => False
def KOr (b : M D) (env : Sl) (Q : D → Store → Prop) (X : Ex → Store → Prop) (x : D) (s : Store) : Prop := match x with
  | .bl true => Q (.bl true) s
  | .bl false => Wp (b env s) Q X
  | _ => False
@[simp ↓] theorem kand_t {b : M D} : KAnd b env Q X (.bl true) s = Wp (b env s) Q X := rfl
@[simp ↓] theorem kand_f {b : M D} : KAnd b env Q X (.bl false) s = Q (.bl false) s := rfl
@[simp ↓] theorem kor_t {b : M D} : KOr b env Q X (.bl true) s = Q (.bl true) s := rfl
@[simp ↓] theorem kor_f {b : M D} : KOr b env Q X (.bl false) s = Wp (b env s) Q X := rfl
@[simp ↓ low] theorem wp_and {a b : M D} : Wp (mAnd a b env st) Q X = Wp (a env st) (KAnd b env Q X) X := by
  rw [Ev.ev_and, Wp_bind]
  congr 1
  funext c s
  cases c with
  | bl b => cases b <;> rfl
  | _ => rfl
@[simp ↓ low] theorem wp_or {a b : M D} : Wp (mOr a b env st) Q X = Wp (a env st) (KOr b env Q X) X := by
  rw [Ev.ev_or, Wp_bind]
  congr 1
  funext c s
  cases c with
  | bl b => cases b <;> rfl
  | _ => rfl
def KNot (Q : D → Store → Prop) (d : D) (s : Store) : Prop := KO (fun b => Q (.bl (!b)) s) (tru s d)
@[simp ↓] theorem knot_bl {b : Bool} : KNot Q (.bl b) s = Q (.bl (!b)) s := rfl
@[simp ↓] theorem knot {d : D} : KNot Q d s = KO (fun b => Q (.bl (!b)) s) (tru s d) := rfl
@[simp ↓] theorem wp_not {m : M D} : Wp (mNot m env st) Q X = Wp (m env st) (KNot Q) X := by
  rw [Ev.ev_not, Wp_bind]
  congr 1
  funext d s
  unfold KNot
  cases tru s d <;> rfl
def KNeg (Q : D → Store → Prop) (d : D) (s : Store) : Prop := ∃ i, d = .int i ∧ Q (.int (-i)) s
@[simp ↓] theorem kneg {i : Int} : KNeg Q (.int i) s = Q (.int (-i)) s := by
  refine propext ⟨?_, fun h => ⟨i, rfl, h⟩⟩
  rintro ⟨c, e, h⟩
  cases e
  exact h
@[simp ↓] theorem wp_neg {m : M D} : Wp (mNeg m env st) Q X = Wp (m env st) (KNeg Q) X := by
  rw [Ev.ev_neg, Wp_bind]
  congr 1
  funext d s
  refine propext ⟨fun h => ?_, fun h => ?_⟩
  · cases d with
    | int b => exact ⟨b, rfl, h⟩
    | _ => exact h.elim
  · obtain ⟨b, e, h⟩ := h
    subst e
    exact h
def KMIf (a b : M D) (env : Sl) (Q : D → Store → Prop) (X : Ex → Store → Prop) (c : Bool) (s : Store) : Prop := if c then Wp (a env s) Q X else Wp (b env s) Q X
@[simp ↓] theorem kmif_t {a b : M D} : KMIf a b env Q X true s = Wp (a env s) Q X := rfl
@[simp ↓] theorem kmif_f {a b : M D} : KMIf a b env Q X false s = Wp (b env s) Q X := rfl
@[simp ↓] theorem wp_mif {c : M Bool} {a b : M D} : Wp (mIf c a b env st) Q X = Wp (c env st) (KMIf a b env Q X) X := by
  rw [Ev.ev_if, Wp_bind]
  congr 1
  funext c s
  cases c <;> rfl
def KCh3 (g : D → D → Store → R D) (y : D) (mc : M D) (env : Sl) (Q : D → Store → Prop) (X : Ex → Store → Prop) (z : D) (s : Store) : Prop := match z with
  | .bl true => Wp (mc env s) (KOp2 g y Q X) X
  | .bl false => Q (.bl false) s
  | _ => False
def KCh2 (f g : D → D → Store → R D) (x : D) (mc : M D) (env : Sl) (Q : D → Store → Prop) (X : Ex → Store → Prop) (y : D) (s : Store) : Prop := Wp (f x y s) (KCh3 g y mc env Q X) X
def KCh1 (f g : D → D → Store → R D) (mb mc : M D) (env : Sl) (Q : D → Store → Prop) (X : Ex → Store → Prop) (x : D) (s : Store) : Prop := Wp (mb env s) (KCh2 f g x mc env Q X) X
@[simp ↓] theorem kch3_t {g : D → D → Store → R D} {y : D} {mc : M D} : KCh3 g y mc env Q X (.bl true) s = Wp (mc env s) (KOp2 g y Q X) X := rfl
@[simp ↓] theorem kch3_f {g : D → D → Store → R D} {y : D} {mc : M D} : KCh3 g y mc env Q X (.bl false) s = Q (.bl false) s := rfl
@[simp ↓] theorem kch2 {f g : D → D → Store → R D} {x y : D} {mc : M D} : KCh2 f g x mc env Q X y s = Wp (f x y s) (KCh3 g y mc env Q X) X := rfl
@[simp ↓] theorem kch1 {f g : D → D → Store → R D} {x : D} {mb mc : M D} : KCh1 f g mb mc env Q X x s = Wp (mb env s) (KCh2 f g x mc env Q X) X := rfl
@[simp ↓] theorem wp_chain {f g : D → D → Store → R D} {ma mb mc : M D} : Wp (mChain f g ma mb mc env st) Q X = Wp (ma env st) (KCh1 f g mb mc env Q X) X := by
  rw [Ev.ev_chain, Wp_bind]
  congr 1
  funext x s
  rw [Wp_bind]
  show Wp _ _ _ = Wp _ _ _
  congr 1
  funext y s
  rw [Wp_bind]
  show Wp _ _ _ = Wp _ _ _
  congr 1
  funext z s
  cases z with
  | bl b => cases b with
    | true => rw [Wp_bind]; rfl
    | false => rfl
  | _ => rfl
/-! isinstance, attributes, methods -/
def KIsi (isa : Isa) (ks : List Kd) (Q : D → Store → Prop) (d : D) (s : Store) : Prop := KO (fun b => Q (.bl b) s) ((kd s d).bind fun k => isaAny isa k ks)
@[simp ↓] theorem kisi {isa : Isa} {ks : List Kd} {d : D} : KIsi isa ks Q d s = KO (fun b => Q (.bl b) s) ((kd s d).bind fun k => isaAny isa k ks) := rfl
@[simp ↓] theorem wp_isi {isa : Isa} {ks : List Kd} {m : M D} : Wp (mIsi isa ks m env st) Q X = Wp (m env st) (KIsi isa ks Q) X := by
  rw [Ev.ev_isi, Wp_bind]
  congr 1
  funext d s
  unfold KIsi
  cases kd s d with
  | none => rfl
  | some k =>
    simp only [Option.bind_some]
    cases isaAny isa k ks <;> rfl
def KFld (c f : Str) (Q : D → Store → Prop) (d : D) (s : Store) : Prop := KO (fun z => z.1 = c ∧ KO (fun x => Q x s) ((z.2.1.zip z.2.2).lookup f)) (insOf s d)
@[simp ↓] theorem kfld {c f : Str} {d : D} : KFld c f Q d s = KO (fun z => z.1 = c ∧ KO (fun x => Q x s) ((z.2.1.zip z.2.2).lookup f)) (insOf s d) := rfl
@[simp ↓] theorem wp_fld {c f : Str} {m : M D} : Wp (mFld c f m env st) Q X = Wp (m env st) (KFld c f Q) X := by
  rw [Ev.ev_fld, Wp_bind]
  congr 1
  funext d s
  unfold KFld
  cases insOf s d with
  | none => rfl
  | some z =>
    obtain ⟨c', ns, vs⟩ := z
    by_cases h : c' = c
    · simp only [if_pos h, KO_some, h, true_and]
      cases (ns.zip vs).lookup f <;> rfl
    · simp only [if_neg h, KO_some, h, false_and]
      rfl
def KProp (c : Str) (fn : Fn) (Q : D → Store → Prop) (d : D) (s : Store) : Prop := KO (fun z => z.1 = c ∧ Wp (fn [d] s) Q NoX) (insOf s d)
@[simp ↓] theorem kprop {c : Str} {fn : Fn} {d : D} : KProp c fn Q d s = KO (fun z => z.1 = c ∧ Wp (fn [d] s) Q NoX) (insOf s d) := rfl
@[simp ↓] theorem wp_prop {c : Str} {fn : Fn} {m : M D} : Wp (mProp c fn m env st) Q X = Wp (m env st) (KProp c fn Q) X := by
  show Wp ((m env st).bind _) Q X = _
  rw [Wp_bind]
  congr 1
  funext d s
  unfold KProp
  cases insOf s d with
  | none => rfl
  | some z =>
    obtain ⟨c', ns, vs⟩ := z
    by_cases h : c' = c
    · simp only [if_pos h, KO_some, h, true_and]
      cases fn [d] s <;> rfl
    · simp only [if_neg h, KO_some, h, false_and]
      rfl
def KMeth2 (fn : Fn) (d : D) (Q : D → Store → Prop) (X : Ex → Store → Prop) (ds : List D) (s : Store) : Prop := Wp (fn (d :: ds) s) Q X
def KMeth (c m : Str) (fn : Fn) (ms : M (List D)) (env : Sl) (Q : D → Store → Prop) (X : Ex → Store → Prop) (d : D) (s : Store) : Prop := KO (fun z => (z.1 = c ∧ m ∉ z.2.1) ∧ Wp (ms env s) (KMeth2 fn d Q X) X) (insOf s d)
@[simp ↓] theorem kmeth2 {fn : Fn} {d : D} {ds : List D} : KMeth2 fn d Q X ds s = Wp (fn (d :: ds) s) Q X := rfl
@[simp ↓] theorem kmeth {c m : Str} {fn : Fn} {ms : M (List D)} {d : D} : KMeth c m fn ms env Q X d s = KO (fun z => (z.1 = c ∧ m ∉ z.2.1) ∧ Wp (ms env s) (KMeth2 fn d Q X) X) (insOf s d) := rfl
@[simp ↓] theorem wp_meth {c m : Str} {fn : Fn} {mo : M D} {ms : M (List D)} : Wp (mMeth c m fn mo ms env st) Q X = Wp (mo env st) (KMeth c m fn ms env Q X) X := by
  show Wp ((mo env st).bind _) Q X = _
  rw [Wp_bind]
  congr 1
  funext d s
  unfold KMeth
  cases insOf s d with
  | none => rfl
  | some z =>
    obtain ⟨c', ns, vs⟩ := z
    by_cases h : c' = c ∧ m ∉ ns
    · simp only [h, KO_some, true_and, not_false_eq_true, and_self, if_true]
      rw [Wp_bind]
      rfl
    · simp only [if_neg h, KO_some, h, false_and]
      rfl
def KXf (c f : Str) (Q : D → Store → Prop) (d : D) (s : Store) : Prop := match d with
  | .exn c' ns vs => c' = c ∧ KO (fun x => Q x s) ((ns.zip vs).lookup f)
  | _ => False
@[simp ↓] theorem kxf {c c' f : Str} {ns : List Str} {vs : List D} : KXf c f Q (.exn c' ns vs) s = (c' = c ∧ KO (fun x => Q x s) ((ns.zip vs).lookup f)) := rfl
@[simp ↓] theorem wp_xf {c f : Str} {m : M D} : Wp (mXf c f m env st) Q X = Wp (m env st) (KXf c f Q) X := by
  show Wp ((m env st).bind _) Q X = _
  rw [Wp_bind]
  congr 1
  funext d s
  unfold KXf
  cases d with
  | exn c' ns vs =>
    by_cases h : c' = c
    · simp only [if_pos h, h, true_and]
      cases (ns.zip vs).lookup f <;> rfl
    · simp only [if_neg h, h, false_and]
      rfl
  | _ => rfl
@[simp ↓] theorem wp_ar {n : Nat} {fn : Fn} {ds : List D} : Wp (ar n fn ds st) Q X = (ds.length = n ∧ Wp (fn ds st) Q X) := by
  unfold ar
  by_cases h : ds.length = n <;> simp [h]
def KMk (c : Str) (st : Store) (Q : D → Store → Prop) (d : D) (s : Store) : Prop := d = .non ∧ match (s : Store)[0]? with
  | some (Cell.ins c' ns vs) => (c' = c ∧ D.noLocs vs = true) ∧ Q (.obj c ns vs) st
  | _ => False
def KMkX (st : Store) (X : Ex → Store → Prop) (e : Ex) (s : Store) : Prop := D.noLocs e.vs = true ∧ X e st
@[simp ↓] theorem kmk {c : Str} {ns : List Str} {vs : List D} {s : Store} {c' : Str} : KMk c st Q .non (Cell.ins c' ns vs :: s) = ((c' = c ∧ D.noLocs vs = true) ∧ Q (.obj c ns vs) st) := by
  simp [KMk]
@[simp ↓] theorem kmkx {e : Ex} : KMkX st X e s = (D.noLocs e.vs = true ∧ X e st) := rfl
theorem wp_mk {c : Str} {fn : Fn} {ds : List D} : Wp (mkV c fn ds st) Q X = (D.noLocs ds = true ∧ Wp (fn (.loc 0 :: ds) [Cell.ins c [] []]) (KMk c st Q) (KMkX st X)) := by
  unfold mkV
  by_cases h : D.noLocs ds = true
  · simp only [if_pos h, h, true_and]
    cases fn (.loc 0 :: ds) [Cell.ins c [] []] with
    | bad => rfl
    | exc e s =>
      by_cases q : D.noLocs e.vs = true <;> simp [KMkX, q]
    | ok d s =>
      cases d with
      | non =>
        simp only [Wp_ok, KMk, true_and]
        cases (s : Store)[0]? with
        | none => rfl
        | some k =>
          cases k with
          | ins c' ns vs =>
            by_cases q : c' = c ∧ D.noLocs vs = true
            · simp only [if_pos q, q, and_self, true_and]
              rfl
            · simp only [if_neg q, q, false_and]
              rfl
          | _ => rfl
      | _ => simp [KMk, Wp]
  · simp only [if_neg h, h, false_and]
    simp
/-! statements -/
def KSeq (b : SM) (Q : Fl → Store → Prop) (X : Ex → Store → Prop) (fl : Fl) (s : Store) : Prop := match fl with
  | .nx env => Wp (b env s) Q X
  | fl => Q fl s
@[simp ↓] theorem kseq_nx {b : SM} : KSeq b QF X (.nx env) s = Wp (b env s) QF X := rfl
@[simp ↓] theorem kseq_rt {b : SM} {d : D} : KSeq b QF X (.rt d) s = QF (.rt d) s := rfl
@[simp ↓] theorem kseq_bk {b : SM} : KSeq b QF X (.bk env) s = QF (.bk env) s := rfl
@[simp ↓] theorem kseq_ct {b : SM} : KSeq b QF X (.ct env) s = QF (.ct env) s := rfl
@[simp ↓] theorem kseq_xc {b : SM} {e : Ex} : KSeq b QF X (.xc e env) s = QF (.xc e env) s := rfl
@[simp ↓] theorem wp_seq {a b : SM} : Wp (sSeq a b env st) QF X = Wp (a env st) (KSeq b QF X) X := by
  show Wp (thenS (a env st) b) QF X = _
  cases a env st with
  | ok fl s => cases fl <;> rfl
  | exc e s => rfl
  | bad => rfl
/-- a statement by what holds behind it, if it goes on -/
theorem Wp.cut {b : SM} {r : R Fl} {Y : Ex → Store → Prop} (P : Sl → Store → Prop) (h : Wp r (fun fl s => ∃ env, fl = .nx env ∧ P env s) NoX) (k : ∀ env s, P env s → Wp (b env s) QF X) : Wp r (KSeq b QF X) Y :=
  h.go fun fl s ⟨env, e, p⟩ => by subst e; exact k env s p
@[simp] theorem nx_ex {P : Sl → Prop} : (∃ e, Fl.nx env = .nx e ∧ P e) = P env := propext ⟨fun ⟨e, h, p⟩ => by cases h; exact p, fun p => ⟨env, rfl, p⟩⟩
def KX (env : Sl) (Q : Fl → Store → Prop) (e : Ex) (s : Store) : Prop := Q (.xc e env) s
@[simp ↓] theorem kx {e : Ex} : KX env QF e s = QF (.xc e env) s := rfl
@[simp ↓] theorem wp_sNil : Wp (sNil env st) QF X = QF (.nx env) st := id rfl
@[simp ↓] theorem wp_sBrk : Wp (sBrk env st) QF X = QF (.bk env) st := id rfl
@[simp ↓] theorem wp_sCont : Wp (sCont env st) QF X = QF (.ct env) st := id rfl
@[simp ↓] theorem wp_retN : Wp (sRetN env st) QF X = QF (.rt .non) st := id rfl
def KSet (i : Nat) (env : Sl) (Q : Fl → Store → Prop) (d : D) (s : Store) : Prop := Q (.nx (env.set i (some d))) s
@[simp ↓] theorem kset {i : Nat} {d : D} : KSet i env QF d s = QF (.nx (env.set i (some d))) s := rfl
@[simp ↓] theorem wp_set {i : Nat} {m : M D} : Wp (sSet i m env st) QF X = Wp (m env st) (KSet i env QF) (KX env QF) := by
  rw [Ev.ev_set, Wp_lift]
  rfl
def KRet (Q : Fl → Store → Prop) (d : D) (s : Store) : Prop := Q (.rt d) s
@[simp ↓] theorem kret {d : D} : KRet QF d s = QF (.rt d) s := rfl
@[simp ↓] theorem wp_ret {m : M D} : Wp (sRet m env st) QF X = Wp (m env st) (KRet QF) (KX env QF) := by
  rw [Ev.ev_ret, Wp_lift]
  rfl
def KDrop (env : Sl) (Q : Fl → Store → Prop) (d : D) (s : Store) : Prop := Q (.nx env) s
@[simp ↓] theorem kdrop {d : D} : KDrop env QF d s = QF (.nx env) s := rfl
@[simp ↓] theorem wp_drop {m : M D} : Wp (sDrop m env st) QF X = Wp (m env st) (KDrop env QF) (KX env QF) := by
  rw [Ev.ev_drop, Wp_lift]
  rfl
def KIf (a b : SM) (env : Sl) (Q : Fl → Store → Prop) (X : Ex → Store → Prop) (c : Bool) (s : Store) : Prop := if c then Wp (a env s) Q X else Wp (b env s) Q X
@[simp ↓] theorem kif_t {a b : SM} : KIf a b env QF X true s = Wp (a env s) QF X := rfl
@[simp ↓] theorem kif_f {a b : SM} : KIf a b env QF X false s = Wp (b env s) QF X := rfl
@[simp ↓] theorem wp_sIf {c : M Bool} {a b : SM} : Wp (sIf c a b env st) QF X = Wp (c env st) (KIf a b env QF X) (KX env QF) := by
  rw [Ev.ev_sIf, Wp_lift]
  show Wp _ _ _ = Wp _ _ _
  congr 1
  funext c s
  cases c <;> rfl
def KPar (is : List Nat) (env : Sl) (Q : Fl → Store → Prop) (ds : List D) (s : Store) : Prop := ds.length = is.length ∧ Q (.nx ((is.zip ds).foldl (fun env p => env.set p.1 (some p.2)) env)) s
@[simp ↓] theorem kpar2 {i j : Nat} {x y : D} : KPar [i, j] env QF [x, y] s = QF (.nx ((env.set i (some x)).set j (some y))) s := by simp [KPar]
@[simp ↓] theorem kpar3 {i j k : Nat} {x y z : D} : KPar [i, j, k] env QF [x, y, z] s = QF (.nx (((env.set i (some x)).set j (some y)).set k (some z))) s := by simp [KPar]
@[simp ↓] theorem wp_par {is : List Nat} {ms : M (List D)} : Wp (sPar is ms env st) QF X = Wp (ms env st) (KPar is env QF) (KX env QF) := by
  show Wp (lift _ _ _) _ _ = _
  rw [Wp_lift]
  show Wp _ _ _ = Wp _ _ _
  congr 1
  funext ds s
  rw [wp_szif]
  rfl
def KAsg (t : Tgt) (env : Sl) (Q : Fl → Store → Prop) (d : D) (s : Store) : Prop := KO (fun env' => Q (.nx env') s) (bindT t d env)
@[simp ↓] theorem kasg {t : Tgt} {d : D} : KAsg t env QF d s = KO (fun env' => QF (.nx env') s) (bindT t d env) := rfl
@[simp ↓] theorem wp_asg {t : Tgt} {m : M D} : Wp (sAsg t m env st) QF X = Wp (m env st) (KAsg t env QF) (KX env QF) := by
  rw [Ev.ev_asg, Wp_lift]
  show Wp _ _ _ = Wp _ _ _
  congr 1
  funext d s
  unfold KAsg
  cases bindT t d env <;> rfl
def KRaise (c : Str) (names : List Str) (env : Sl) (Q : Fl → Store → Prop) (ds : List D) (s : Store) : Prop := ds.length = names.length ∧ Q (.xc ⟨c, names.reverse, ds.reverse⟩ env) s
@[simp ↓] theorem kraise {c : Str} {names : List Str} {ds : List D} : KRaise c names env QF ds s = (ds.length = names.length ∧ QF (.xc ⟨c, names.reverse, ds.reverse⟩ env) s) := rfl
@[simp ↓] theorem wp_raise {c : Str} {names : List Str} {ms : M (List D)} : Wp (sRaise c names ms env st) QF X = Wp (ms env st) (KRaise c names env QF) (KX env QF) := by
  rw [Ev.ev_raise, Wp_lift]
  show Wp _ _ _ = Wp _ _ _
  congr 1
  funext ds s
  rw [wp_szif]
  rfl
/-! cells -/
def KSub3 (x d : D) (env : Sl) (Q : Fl → Store → Prop) (i : D) (s : Store) : Prop := ∃ n xs k j, listAt s x = some (n, xs) ∧ i = .int k ∧ ixN xs.length k = some j ∧ Q (.nx env) (s.set n (.lst (xs.set j d)))
def KSub2 (d : D) (mi : M D) (env : Sl) (Q : Fl → Store → Prop) (x : D) (s : Store) : Prop := Wp (mi env s) (KSub3 x d env Q) (KX env Q)
def KSub1 (mo mi : M D) (env : Sl) (Q : Fl → Store → Prop) (d : D) (s : Store) : Prop := Wp (mo env s) (KSub2 d mi env Q) (KX env Q)
@[simp ↓] theorem ksub1 {mo mi : M D} {d : D} : KSub1 mo mi env QF d s = Wp (mo env s) (KSub2 d mi env QF) (KX env QF) := rfl
@[simp ↓] theorem ksub2 {mi : M D} {d x : D} : KSub2 d mi env QF x s = Wp (mi env s) (KSub3 x d env QF) (KX env QF) := rfl
theorem ksub3 {x d : D} {n j : Nat} {k : Int} {xs : List D} (h : listAt s x = some (n, xs)) (h2 : ixN xs.length k = some j) : KSub3 x d env QF (.int k) s = QF (.nx env) (s.set n (.lst (xs.set j d))) := by
  refine propext ⟨?_, fun q => ⟨n, xs, k, j, h, rfl, h2, q⟩⟩
  rintro ⟨n', xs', k', j', e1, e2, e3, q⟩
  rw [h] at e1
  cases e1
  cases e2
  rw [h2] at e3
  cases e3
  exact q
@[simp ↓] theorem wp_sub {mo mi mv : M D} : Wp (sSub mo mi mv env st) QF X = Wp (mv env st) (KSub1 mo mi env QF) (KX env QF) := by
  rw [Ev.ev_sub, Wp_lift]
  show Wp _ _ _ = Wp _ _ _
  congr 1
  funext d s1
  rw [Wp_lift]
  show Wp _ _ _ = Wp _ _ _
  congr 1
  funext x s2
  rw [Wp_lift]
  show Wp _ _ _ = Wp _ _ _
  congr 1
  funext i s3
  refine propext ⟨fun h => ?_, fun ⟨n, xs, k, j, h1, h2, h3, q⟩ => ?_⟩
  · cases e : listAt s3 x with
    | none => rw [e] at h; exact h.elim
    | some z =>
      obtain ⟨n, xs⟩ := z
      rw [e] at h
      cases i with
      | int k =>
        simp only at h
        cases e2 : ixN xs.length k with
        | none => rw [e2] at h; exact h.elim
        | some j =>
          rw [e2] at h
          exact ⟨n, xs, k, j, e, rfl, e2, h⟩
      | _ => exact h.elim
  · subst h2
    rw [h1]
    simp only [h3]
    exact q
def KApp2 (d : D) (Q : D → Store → Prop) (ds : List D) (s : Store) : Prop := ∃ n xs y, listAt s d = some (n, xs) ∧ ds = [y] ∧ xs.length < sizeLine ∧ Q .non (s.set n (.lst (xs ++ [y])))
def KApp1 (ms : M (List D)) (env : Sl) (Q : D → Store → Prop) (X : Ex → Store → Prop) (d : D) (s : Store) : Prop := (listAt s d).isSome = true ∧ Wp (ms env s) (KApp2 d Q) X
@[simp ↓] theorem kapp1 {ms : M (List D)} {d : D} : KApp1 ms env Q X d s = ((listAt s d).isSome = true ∧ Wp (ms env s) (KApp2 d Q) X) := rfl
theorem kapp2 {d y : D} {n : Nat} {xs : List D} (h : listAt s d = some (n, xs)) (hl : xs.length < sizeLine) : KApp2 d Q [y] s = Q .non (s.set n (.lst (xs ++ [y]))) := by
  refine propext ⟨?_, fun q => ⟨n, xs, y, h, rfl, hl, q⟩⟩
  rintro ⟨n', xs', y', e1, e2, e3, q⟩
  rw [h] at e1
  cases e1
  cases e2
  exact q
@[simp ↓] theorem wp_app {mo : M D} {ms : M (List D)} : Wp (mApp mo ms env st) Q X = Wp (mo env st) (KApp1 ms env Q X) X := by
  show Wp ((mo env st).bind _) Q X = _
  rw [Wp_bind]
  congr 1
  funext d s
  unfold KApp1
  cases e : listAt s d with
  | none => simp
  | some z =>
    simp only [Option.isSome_some, true_and]
    rw [Wp_bind]
    congr 1
    funext ds s2
    refine propext ⟨fun h => ?_, fun ⟨n, xs, y, h1, h2, h3, q⟩ => ?_⟩
    · cases e2 : listAt s2 d with
      | none => simp only [e2] at h; exact h.elim
      | some z =>
        obtain ⟨n, xs⟩ := z
        match ds with
        | [y] =>
          simp only [e2] at h
          rw [wp_szif] at h
          exact ⟨n, xs, y, e2, rfl, h⟩
        | [] => simp only [e2] at h; exact h.elim
        | _ :: _ :: _ => simp only [e2] at h; exact h.elim
    · subst h2
      simp only [h1]
      rw [wp_szif]
      exact ⟨h3, q⟩
/-! slices -/
def KP (Q : Option Int → Store → Prop) (d : D) (s : Store) : Prop := ∃ i, d = .int i ∧ Q (some i) s
@[simp ↓] theorem kp {Q : Option Int → Store → Prop} {i : Int} : KP Q (.int i) s = Q (some i) s := by
  refine propext ⟨?_, fun h => ⟨i, rfl, h⟩⟩
  rintro ⟨c, e, h⟩
  cases e
  exact h
@[simp ↓] theorem wp_partN {Q : Option Int → Store → Prop} : Wp (mPart none env st) Q X = Q none st := id rfl
@[simp ↓] theorem wp_partS {Q : Option Int → Store → Prop} {m : M D} : Wp (mPart (some m) env st) Q X = Wp (m env st) (KP Q) X := by
  show Wp ((m env st).bind _) Q X = _
  rw [Wp_bind]
  congr 1
  funext d s
  refine propext ⟨fun h => ?_, fun ⟨i, e, h⟩ => ?_⟩
  · cases d with
    | int i => exact ⟨i, rfl, h⟩
    | _ => exact h.elim
  · subst e
    exact h
def slD (st : Store) (lo hi : Option Int) : D → R D
  | .tup xs => .ok (.tup (cutD xs lo hi)) st
  | d => (match asL st d with
    | some xs => .ok (.lst (cutD xs lo hi)) st
    | none => .bad)
def KSl3 (d : D) (l : Option Int) (Q : D → Store → Prop) (X : Ex → Store → Prop) (u : Option Int) (s : Store) : Prop := Wp (slD s l u d) Q X
def KSl2 (d : D) (hi : Option (M D)) (env : Sl) (Q : D → Store → Prop) (X : Ex → Store → Prop) (l : Option Int) (s : Store) : Prop := Wp (mPart hi env s) (KSl3 d l Q X) X
def KSl1 (lo hi : Option (M D)) (env : Sl) (Q : D → Store → Prop) (X : Ex → Store → Prop) (d : D) (s : Store) : Prop := Wp (mPart lo env s) (KSl2 d hi env Q X) X
@[simp ↓] theorem ksl1 {lo hi : Option (M D)} {d : D} : KSl1 lo hi env Q X d s = Wp (mPart lo env s) (KSl2 d hi env Q X) X := rfl
@[simp ↓] theorem ksl2 {hi : Option (M D)} {d : D} {l : Option Int} : KSl2 d hi env Q X l s = Wp (mPart hi env s) (KSl3 d l Q X) X := rfl
@[simp ↓] theorem ksl3 {d : D} {l u : Option Int} : KSl3 d l Q X u s = Wp (slD s l u d) Q X := rfl
@[simp] theorem sl_tup {xs : List D} {l u : Option Int} : slD s l u (.tup xs) = .ok (.tup (cutD xs l u)) s := rfl
@[simp] theorem sl_lst {xs : List D} {l u : Option Int} : slD s l u (.lst xs) = .ok (.lst (cutD xs l u)) s := rfl
@[simp ↓] theorem wp_sl {mo : M D} {lo hi : Option (M D)} : Wp (mSl mo lo hi env st) Q X = Wp (mo env st) (KSl1 lo hi env Q X) X := by
  show Wp ((mo env st).bind _) Q X = _
  rw [Wp_bind]
  congr 1
  funext d s
  rw [Wp_bind]
  show Wp _ _ _ = Wp _ _ _
  congr 1
  funext l s2
  rw [Wp_bind]
  show Wp _ _ _ = Wp _ _ _
  congr 1
/-! a def -/
def KFn (Q : D → Store → Prop) (X : Ex → Store → Prop) (fl : Fl) (s : Store) : Prop := match fl with
  | .nx _ => Q .non s
  | .rt d => Q d s
  | .xc e _ => X e s
  | _ => False
@[simp ↓] theorem kfn_nx : KFn Q X (.nx env) s = Q .non s := rfl
@[simp ↓] theorem kfn_rt {d : D} : KFn Q X (.rt d) s = Q d s := rfl
@[simp ↓] theorem kfn_xc {e : Ex} : KFn Q X (.xc e env) s = X e s := rfl
@[simp ↓] theorem wp_fnB {n nn : Nat} {m : SM} {ds : List D} : Wp (fnB n nn m ds st) Q X = (ds.length = n ∧ Wp (m (ds.map some ++ List.replicate (nn - n) none) st) (KFn Q X) NoX) := by
  unfold fnB
  by_cases h : ds.length = n
  · simp only [if_pos h, h, true_and]
    cases m (ds.map some ++ List.replicate (nn - n) none) st with
    | ok fl s => cases fl <;> rfl
    | exc e s => rfl
    | bad => rfl
  · simp only [if_neg h, h, false_and]
    simp
/-! walked -/
def KIt (Q : Src → Store → Prop) (d : D) (s : Store) : Prop := KO (fun r => Q r s) (srcOf s d)
@[simp ↓] theorem kit {Q : Src → Store → Prop} {d : D} : KIt Q d s = KO (fun r => Q r s) (srcOf s d) := rfl
@[simp ↓] theorem wp_it {Q : Src → Store → Prop} {m : M D} : Wp (mIt m env st) Q X = Wp (m env st) (KIt Q) X := by
  show Wp ((m env st).bind _) Q X = _
  rw [Wp_bind]
  congr 1
  funext d s
  unfold KIt
  cases srcOf s d <;> rfl
@[simp] theorem src_tup {xs : List D} : srcOf st (.tup xs) = some ⟨xs, []⟩ := rfl
@[simp] theorem src_lst {xs : List D} : srcOf st (.lst xs) = some ⟨xs, []⟩ := rfl
@[simp] theorem src_fro {xs : List D} : srcOf st (.fro xs) = some ⟨xs, []⟩ := rfl
def KR1 (Q : Src → Store → Prop) (ds : List D) (s : Store) : Prop := ∃ j, ds = [.int j] ∧ (-(2 ^ 62) ≤ j ∧ j < 2 ^ 62) ∧ Q ⟨intsD 0 j.toNat, []⟩ s
theorem kr1 {Q : Src → Store → Prop} {j : Int} (h : -(2 ^ 62) ≤ j ∧ j < 2 ^ 62) : KR1 Q [.int j] s = Q ⟨intsD 0 j.toNat, []⟩ s := by
  refine propext ⟨?_, fun q => ⟨j, rfl, h, q⟩⟩
  rintro ⟨i, e, _, q⟩
  cases e
  exact q
theorem kr1N {Q : Src → Store → Prop} {n : Nat} (h : n < 1000000) : KR1 Q [.int n] s = Q ⟨intsD 0 n, []⟩ s := by
  rw [kr1 ⟨by omega, by omega⟩]
  rfl
@[simp ↓] theorem wp_rng1 {Q : Src → Store → Prop} {ms : M (List D)} : Wp (mRng1 ms env st) Q X = Wp (ms env st) (KR1 Q) X := by
  show Wp ((ms env st).bind _) Q X = _
  rw [Wp_bind]
  congr 1
  funext ds s
  refine propext ⟨fun h => ?_, fun ⟨j, e, h, q⟩ => ?_⟩
  · match ds with
    | [.int j] =>
      have h : Wp (if -(2 ^ 62) ≤ j ∧ j < 2 ^ 62 then .ok _ s else .bad) Q X := h
      rw [wp_szif] at h
      exact ⟨j, rfl, h⟩
    | [] => exact h.elim
    | .int _ :: _ :: _ => exact h.elim
    | .non :: _ => exact h.elim
    | .bl _ :: _ => exact h.elim
    | .str _ :: _ => exact h.elim
    | .tup _ :: _ => exact h.elim
    | .lst _ :: _ => exact h.elim
    | .fro _ :: _ => exact h.elim
    | .dct _ _ :: _ => exact h.elim
    | .obj _ _ _ :: _ => exact h.elim
    | .loc _ :: _ => exact h.elim
    | .exn _ _ _ :: _ => exact h.elim
  · subst e
    show Wp (if -(2 ^ 62) ≤ j ∧ j < 2 ^ 62 then .ok _ s else .bad) Q X
    rw [wp_szif]
    exact ⟨h, q⟩
def KZip (Q : Src → Store → Prop) (ds : List D) (s : Store) : Prop := ∃ d e r q, ds = [d, e] ∧ isT d = isT e ∧ srcOf s d = some r ∧ srcOf s e = some q ∧ Q ⟨pairsD r.items q.items, r.guard ++ q.guard⟩ s
@[simp] theorem kzip_tt {Q : Src → Store → Prop} {xs ys : List D} : KZip Q [.tup xs, .tup ys] s = Q ⟨pairsD xs ys, []⟩ s := by
  refine propext ⟨?_, fun q => ⟨_, _, _, _, rfl, rfl, rfl, rfl, q⟩⟩
  rintro ⟨d, e, r, q, e1, _, e2, e3, h⟩
  cases e1
  cases e2
  cases e3
  exact h
@[simp] theorem kzip_ll {Q : Src → Store → Prop} {xs ys : List D} : KZip Q [.lst xs, .lst ys] s = Q ⟨pairsD xs ys, []⟩ s := by
  refine propext ⟨?_, fun q => ⟨_, _, _, _, rfl, rfl, rfl, rfl, q⟩⟩
  rintro ⟨d, e, r, q, e1, _, e2, e3, h⟩
  cases e1
  cases e2
  cases e3
  exact h
@[simp ↓] theorem wp_zip {Q : Src → Store → Prop} {ms : M (List D)} : Wp (mZip ms env st) Q X = Wp (ms env st) (KZip Q) X := by
  show Wp ((ms env st).bind _) Q X = _
  rw [Wp_bind]
  congr 1
  funext ds s
  refine propext ⟨fun h => ?_, fun ⟨d, e, r, q, e1, e2, e3, e4, h⟩ => ?_⟩
  · match ds with
    | [d, e] =>
      have h : Wp (if isT d = isT e then (match srcOf s d, srcOf s e with
        | some r, some q => .ok ⟨pairsD r.items q.items, r.guard ++ q.guard⟩ s
        | _, _ => .bad) else .bad) Q X := h
      by_cases c : isT d = isT e
      · rw [if_pos c] at h
        cases e3 : srcOf s d with
        | none => rw [e3] at h; exact h.elim
        | some r =>
          cases e4 : srcOf s e with
          | none => rw [e3, e4] at h; exact h.elim
          | some q =>
            rw [e3, e4] at h
            exact ⟨d, e, r, q, rfl, c, e3, e4, h⟩
      · rw [if_neg c] at h
        exact h.elim
    | [] => exact h.elim
    | [_] => exact h.elim
    | _ :: _ :: _ :: _ => exact h.elim
  · subst e1
    show Wp (if isT d = isT e then (match srcOf s d, srcOf s e with
      | some r, some q => .ok ⟨pairsD r.items q.items, r.guard ++ q.guard⟩ s
      | _, _ => .bad) else .bad) Q X
    rw [if_pos e2, e3, e4]
    exact h
def KEnum (Q : Src → Store → Prop) (ds : List D) (s : Store) : Prop := ∃ d r, ds = [d] ∧ isT d = false ∧ srcOf s d = some r ∧ Q ⟨numD 0 r.items, r.guard⟩ s
@[simp] theorem kenum_l {Q : Src → Store → Prop} {xs : List D} : KEnum Q [.lst xs] s = Q ⟨numD 0 xs, []⟩ s := by
  refine propext ⟨?_, fun q => ⟨_, _, rfl, rfl, rfl, q⟩⟩
  rintro ⟨d, r, e1, _, e2, h⟩
  cases e1
  cases e2
  exact h
@[simp ↓] theorem wp_enum {Q : Src → Store → Prop} {ms : M (List D)} : Wp (mEnum ms env st) Q X = Wp (ms env st) (KEnum Q) X := by
  show Wp ((ms env st).bind _) Q X = _
  rw [Wp_bind]
  congr 1
  funext ds s
  refine propext ⟨fun h => ?_, fun ⟨d, r, e1, e2, e3, h⟩ => ?_⟩
  · match ds with
    | [d] =>
      have h : Wp (if isT d = false then (match srcOf s d with
        | some r => .ok ⟨numD 0 r.items, r.guard⟩ s
        | none => .bad) else .bad) Q X := h
      by_cases c : isT d = false
      · rw [if_pos c] at h
        cases e3 : srcOf s d with
        | none => rw [e3] at h; exact h.elim
        | some r =>
          rw [e3] at h
          exact ⟨d, r, rfl, c, e3, h⟩
      · rw [if_neg c] at h
        exact h.elim
    | [] => exact h.elim
    | _ :: _ :: _ => exact h.elim
  · subst e1
    show Wp (if isT d = false then (match srcOf s d with
      | some r => .ok ⟨numD 0 r.items, r.guard⟩ s
      | none => .bad) else .bad) Q X
    rw [if_pos e2, e3]
    exact h
def KEnumA (Q : Src → Store → Prop) (ds : List D) (s : Store) : Prop := ∃ d r, ds = [d] ∧ srcOf s d = some r ∧ Q ⟨numD 0 r.items, r.guard⟩ s
@[simp] theorem kenumA_l {Q : Src → Store → Prop} {xs : List D} : KEnumA Q [.lst xs] s = Q ⟨numD 0 xs, []⟩ s := by
  refine propext ⟨?_, fun q => ⟨_, _, rfl, rfl, q⟩⟩
  rintro ⟨d, r, e1, e2, h⟩
  cases e1
  cases e2
  exact h
@[simp] theorem kenumA_t {Q : Src → Store → Prop} {xs : List D} : KEnumA Q [.tup xs] s = Q ⟨numD 0 xs, []⟩ s := by
  refine propext ⟨?_, fun q => ⟨_, _, rfl, rfl, q⟩⟩
  rintro ⟨d, r, e1, e2, h⟩
  cases e1
  cases e2
  exact h
@[simp ↓] theorem wp_enumA {Q : Src → Store → Prop} {ms : M (List D)} : Wp (mEnumA ms env st) Q X = Wp (ms env st) (KEnumA Q) X := by
  show Wp ((ms env st).bind _) Q X = _
  rw [Wp_bind]
  congr 1
  funext ds s
  refine propext ⟨fun h => ?_, fun ⟨d, r, e1, e3, h⟩ => ?_⟩
  · match ds with
    | [d] =>
      have h : Wp (match srcOf s d with
        | some r => .ok ⟨numD 0 r.items, r.guard⟩ s
        | none => .bad) Q X := h
      cases e3 : srcOf s d with
      | none => rw [e3] at h; exact h.elim
      | some r =>
        rw [e3] at h
        exact ⟨d, r, rfl, e3, h⟩
    | [] => exact h.elim
    | _ :: _ :: _ => exact h.elim
  · subst e1
    show Wp (match srcOf s d with
      | some r => .ok ⟨numD 0 r.items, r.guard⟩ s
      | none => .bad) Q X
    rw [e3]
    exact h
/-! loops, comprehensions -/
def KFor (t : Tgt) (body : SM) (env : Sl) (Q : Fl → Store → Prop) (X : Ex → Store → Prop) (src : Src) (s : Store) : Prop := Wp (forGo t body src src.items env s) Q X
@[simp ↓] theorem kfor {t : Tgt} {body : SM} {src : Src} : KFor t body env QF X src s = Wp (forGo t body src src.items env s) QF X := rfl
@[simp ↓] theorem wp_for {t : Tgt} {mi : M Src} {body : SM} : Wp (sFor t mi body env st) QF X = Wp (mi env st) (KFor t body env QF X) (KX env QF) := by
  show Wp (lift _ _ _) _ _ = _
  rw [Wp_lift]
  rfl
def KLc (t : Tgt) (tt : M Bool) (te : M D) (own : List Nat) (env : Sl) (Q : D → Store → Prop) (X : Ex → Store → Prop) (src : Src) (s : Store) : Prop := Wp (lcGo t tt te src (wipeD env own) src.items [] s) Q X
@[simp ↓] theorem klc {t : Tgt} {tt : M Bool} {te : M D} {own : List Nat} {src : Src} : KLc t tt te own env Q X src s = Wp (lcGo t tt te src (wipeD env own) src.items [] s) Q X := rfl
@[simp ↓] theorem wp_lc {t : Tgt} {mi : M Src} {tt : M Bool} {te : M D} {own : List Nat} : Wp (mLc t mi tt te own env st) Q X = Wp (mi env st) (KLc t tt te own env Q X) X := by
  show Wp ((mi env st).bind _) Q X = _
  rw [Wp_bind]
  rfl
def KLcC (Q : D → Store → Prop) (d : D) (s : Store) : Prop := ∃ acc, d = .lst acc ∧ Q (.loc s.length) (s ++ [Cell.lst acc])
@[simp ↓] theorem klcC {acc : List D} : KLcC Q (.lst acc) s = Q (.loc s.length) (s ++ [Cell.lst acc]) := by
  refine propext ⟨?_, fun h => ⟨acc, rfl, h⟩⟩
  rintro ⟨c, e, h⟩
  cases e
  exact h
@[simp ↓] theorem wp_lcC {t : Tgt} {mi : M Src} {tt : M Bool} {te : M D} {own : List Nat} : Wp (mLcC t mi tt te own env st) Q X = Wp (mLc t mi tt te own env st) (KLcC Q) X := by
  show Wp ((mLc t mi tt te own env st).bind _) Q X = _
  rw [Wp_bind]
  congr 1
  funext d s
  refine propext ⟨fun h => ?_, fun ⟨acc, e, h⟩ => ?_⟩
  · cases d with
    | lst acc => exact ⟨acc, rfl, h⟩
    | _ => exact h.elim
  · subst e
    exact h
end
end DL

set_option maxHeartbeats 2000000
/-! DY: loops, primitive operators, equality, draws. -/
namespace DL
open PySem PySem.Spec PyProof.Rows L2 DH
section
variable {t : Tgt} {body : SM} {src : Src} {Q : Fl → Store → Prop} {X : Ex → Store → Prop}
/-- a loop by what holds ahead of each turn -/
def ForK (I : Nat → Sl → Store → Prop) (Q : Fl → Store → Prop) (k : Nat) (fl : Fl) (s : Store) : Prop := match fl with
  | .nx env => I (k + 1) env s
  | .ct env => I (k + 1) env s
  | .bk env => Q (.nx env) s
  | fl => Q fl s
section
variable {I : Nat → Sl → Store → Prop} {k : Nat} {env : Sl} {s : Store} {d : D} {e : Ex}
@[simp ↓] theorem fork_nx : ForK I Q k (.nx env) s = I (k + 1) env s := rfl
@[simp ↓] theorem fork_ct : ForK I Q k (.ct env) s = I (k + 1) env s := rfl
@[simp ↓] theorem fork_bk : ForK I Q k (.bk env) s = Q (.nx env) s := rfl
@[simp ↓] theorem fork_rt : ForK I Q k (.rt d) s = Q (.rt d) s := rfl
@[simp ↓] theorem fork_xc : ForK I Q k (.xc e env) s = Q (.xc e env) s := rfl
end
theorem Wp.forK (I : Nat → Sl → Store → Prop) : ∀ (ds : List D) (k : Nat) (env : Sl) (st : Store),
    (∀ j d env s, k ≤ j → ds[j - k]? = some d → I j env s → src.okS s ∧ ∃ env1, bindT t d env = some env1 ∧ Wp (body env1 s) (ForK I Q j) NoX) →
    (∀ env s, I (k + ds.length) env s → src.okS s ∧ Q (.nx env) s) → I k env st → Wp (forGo t body src ds env st) Q X
  | [], k, env, st, _, hf, h => by
    unfold forGo
    rw [if_pos (hf env st h).1]
    exact (hf env st h).2
  | d :: ds, k, env, st, step, hf, h => by
    obtain ⟨ok, env1, hb, hr⟩ := step k d env st (Nat.le_refl _) (by simp) h
    have e : k + (d :: ds).length = k + 1 + ds.length := by simp; omega
    have next : ∀ env2 s2, I (k + 1) env2 s2 → Wp (forGo t body src ds env2 s2) Q X := fun env2 s2 hI => Wp.forK I ds (k + 1) env2 s2 (fun j d' env s hj hd hI => step j d' env s (by omega) (by
      have e2 : j - k = (j - (k + 1)) + 1 := by omega
      rw [e2, List.getElem?_cons_succ]; exact hd) hI) (fun env s hI => hf env s (by rw [e]; exact hI)) hI
    unfold forGo
    rw [if_pos ok, hb]
    cases q : body env1 st with
    | ok fl s =>
      rw [q] at hr
      simp only [q]
      cases fl with
      | nx env2 => exact next env2 s hr
      | ct env2 => exact next env2 s hr
      | bk env2 => exact hr
      | rt d => exact hr
      | xc e env2 => exact hr
    | exc e s => rw [q] at hr; exact hr.elim
    | bad => rw [q] at hr; exact hr.elim
theorem okS0 {items : List D} {st : Store} : Src.okS ⟨items, []⟩ st := fun _ h => by cases h
/-- a loop over items that nothing changes -/
theorem Wp.for {items : List D} {env : Sl} {st : Store} (I : Nat → Sl → Store → Prop) (h0 : I 0 env st)
    (step : ∀ j d env s, items[j]? = some d → I j env s → ∃ env1, bindT t d env = some env1 ∧ Wp (body env1 s) (ForK I Q j) NoX)
    (fin : ∀ env s, I items.length env s → Q (.nx env) s) : Wp (forGo t body ⟨items, []⟩ items env st) Q X :=
  Wp.forK I items 0 env st (fun j d env s _ hd hI => ⟨okS0, step j d env s hd hI⟩) (fun env s hI => ⟨okS0, fin env s (by rw [Nat.zero_add] at hI; exact hI)⟩) h0
/-- by name, over numbers -/
theorem Wp.forR {i m : Nat} {env : Sl} {st : Store} (I : Nat → Sl → Store → Prop) (h0 : I 0 env st)
    (step : ∀ j env s, j < m → I j env s → Wp (body (env.set i (some (.int j))) s) (ForK I Q j) NoX)
    (fin : ∀ env s, I m env s → Q (.nx env) s) : Wp (forGo (.nm i) body ⟨intsD 0 m, []⟩ (intsD 0 m) env st) Q X := by
  refine Wp.for I h0 (fun j d env s hd hI => ?_) fun env s hI => fin env s (by rw [ints_len] at hI; exact hI)
  obtain ⟨h1, h2⟩ := ints_get m 0 j d hd
  subst h2
  rw [Int.zero_add]
  exact ⟨_, rfl, step j env s h1 hI⟩
end
section
variable {c : M Bool} {b : SM} {Q : Fl → Store → Prop} {X : Ex → Store → Prop}
def WhK (n : Nat) (I : Nat → Sl → Store → Prop) (Q : Fl → Store → Prop) (fl : Fl) (s : Store) : Prop := match fl with
  | .nx env => ∃ m, m < n ∧ I m env s
  | .ct env => ∃ m, m < n ∧ I m env s
  | .bk env => Q (.nx env) s
  | fl => Q fl s
section
variable {I : Nat → Sl → Store → Prop} {n : Nat} {env : Sl} {s : Store} {d : D} {e : Ex}
@[simp ↓] theorem whk_nx : WhK n I Q (.nx env) s = ∃ m, m < n ∧ I m env s := rfl
@[simp ↓] theorem whk_ct : WhK n I Q (.ct env) s = ∃ m, m < n ∧ I m env s := rfl
@[simp ↓] theorem whk_bk : WhK n I Q (.bk env) s = Q (.nx env) s := rfl
@[simp ↓] theorem whk_rt : WhK n I Q (.rt d) s = Q (.rt d) s := rfl
@[simp ↓] theorem whk_xc : WhK n I Q (.xc e env) s = Q (.xc e env) s := rfl
end
/-- a while by a measure: what is left -/
theorem Wp.while (I : Nat → Sl → Store → Prop) : ∀ (n fuel : Nat) (env : Sl) (st : Store), n < fuel →
    (∀ n env s, I n env s → Wp (c env s) (fun k s2 => if k then Wp (b env s2) (WhK n I Q) NoX else Q (.nx env) s2) NoX) → I n env st → Wp (whileGo c b fuel env st) Q X
  | n, fuel + 1, env, st, hf, step, h => by
    have q := step n env st h
    unfold whileGo
    rw [Wp_lift]
    refine q.go fun k s hk => ?_
    cases k with
    | false => exact hk
    | true =>
      have next : ∀ m env2 s2, m < n → I m env2 s2 → Wp (whileGo c b fuel env2 s2) Q X := fun m env2 s2 hm hI => Wp.while I m fuel env2 s2 (by omega) step hI
      simp only [if_true] at hk ⊢
      cases q2 : b env s with
      | ok fl s3 =>
        rw [q2] at hk
        cases fl with
        | nx env2 => obtain ⟨m, hm, hI⟩ := hk; exact next m env2 s3 hm hI
        | ct env2 => obtain ⟨m, hm, hI⟩ := hk; exact next m env2 s3 hm hI
        | bk env2 => exact hk
        | rt d => exact hk
        | xc e env2 => exact hk
      | exc e s => rw [q2] at hk; exact hk.elim
      | bad => rw [q2] at hk; exact hk.elim
end
section
variable {t : Tgt} {tt : M Bool} {te : M D} {src : Src} {env : Sl} {Q : D → Store → Prop} {X : Ex → Store → Prop}
theorem Wp.lcK (I : Nat → List D → Store → Prop) : ∀ (ds : List D) (k : Nat) (acc : List D) (st : Store),
    (∀ j d acc s, k ≤ j → ds[j - k]? = some d → I j acc s → src.okS s ∧ ∃ env1, bindT t d env = some env1 ∧ Wp (tt env1 s) (fun b s2 => if b then Wp (te env1 s2) (fun y s3 => acc.length < sizeLine ∧ I (j + 1) (acc ++ [y]) s3) NoX else I (j + 1) acc s2) NoX) →
    (∀ acc s, I (k + ds.length) acc s → src.okS s ∧ Q (.lst acc) s) → I k acc st → Wp (lcGo t tt te src env ds acc st) Q X
  | [], k, acc, st, _, hf, h => by
    unfold lcGo
    rw [if_pos (hf acc st h).1]
    exact (hf acc st h).2
  | d :: ds, k, acc, st, step, hf, h => by
    obtain ⟨ok, env1, hb, hr⟩ := step k d acc st (Nat.le_refl _) (by simp) h
    have e : k + (d :: ds).length = k + 1 + ds.length := by simp; omega
    have next : ∀ acc2 s2, I (k + 1) acc2 s2 → Wp (lcGo t tt te src env ds acc2 s2) Q X := fun acc2 s2 hI => Wp.lcK I ds (k + 1) acc2 s2 (fun j d' acc s hj hd hI => step j d' acc s (by omega) (by
      have e2 : j - k = (j - (k + 1)) + 1 := by omega
      rw [e2, List.getElem?_cons_succ]; exact hd) hI) (fun acc s hI => hf acc s (by rw [e]; exact hI)) hI
    unfold lcGo
    rw [if_pos ok, hb]
    cases q : tt env1 st with
    | ok b s =>
      rw [q] at hr
      simp only [q]
      cases b with
      | false => exact next acc s hr
      | true =>
        simp only [Wp_ok, if_true] at hr
        cases q2 : te env1 s with
        | ok y s2 =>
          rw [q2] at hr
          obtain ⟨h1, h2⟩ := hr
          simp only [q2]
          rw [if_pos h1]
          exact next _ _ h2
        | exc e s => rw [q2] at hr; exact hr.elim
        | bad => rw [q2] at hr; exact hr.elim
    | exc e s => rw [q] at hr; exact hr.elim
    | bad => rw [q] at hr; exact hr.elim
/-- where nothing changes: filtered, then mapped -/
theorem Wp.lcM {items : List D} {st : Store} (p : D → Bool) (g : D → D) (hl : items.length ≤ 1000000)
    (h : ∀ d ∈ items, ∃ env1, bindT t d env = some env1 ∧ Wp (tt env1 st) (fun b s => b = p d ∧ s = st) NoX ∧ (p d = true → Wp (te env1 st) (fun y s => y = g d ∧ s = st) NoX))
    (q : Q (.lst ((items.filter p).map g)) st) : Wp (lcGo t tt te ⟨items, []⟩ env items [] st) Q X := by
  have e := lc_map (t := t) (tt := tt) (te := te) (src := ⟨items, []⟩) (env := env) (p := p) (g := g) (st := st) okS0 items [] (by rw [sizeLine_eq]; simp; omega) fun d hd => by
    obtain ⟨env1, h1, h2, h3⟩ := h d hd
    exact ⟨env1, h1, h2.eq, fun hp => (h3 hp).eq⟩
  rw [e, List.nil_append]
  exact q
/-- .. all of them -/
theorem Wp.lcA {items : List D} {st : Store} (g : D → D) (hl : items.length ≤ 1000000)
    (h : ∀ d ∈ items, ∃ env1, bindT t d env = some env1 ∧ Wp (te env1 st) (fun y s => y = g d ∧ s = st) NoX)
    (q : Q (.lst (items.map g)) st) : Wp (lcGo t mYes te ⟨items, []⟩ env items [] st) Q X := by
  refine Wp.lcM (fun _ => true) g hl (fun d hd => ?_) ?_
  · obtain ⟨env1, h1, h2⟩ := h d hd
    exact ⟨env1, h1, ⟨rfl, rfl⟩, fun _ => h2⟩
  · have : items.filter (fun _ => true) = items := List.filter_eq_self.mpr fun _ _ => rfl
    rw [this]
    exact q
/-- .. by name -/
theorem Wp.lcN {i : Nat} {items : List D} {st : Store} (g : D → D) (hl : items.length ≤ 1000000)
    (h : ∀ d ∈ items, Wp (te (env.set i (some d)) st) (fun y s => y = g d ∧ s = st) NoX)
    (q : Q (.lst (items.map g)) st) : Wp (lcGo (.nm i) mYes te ⟨items, []⟩ env items [] st) Q X := Wp.lcA g hl (fun d hd => ⟨_, rfl, h d hd⟩) q
/-- .. kept as they are -/
theorem Wp.lcF {i : Nat} {items : List D} {st : Store} (p : D → Bool) (g : D → D) (hl : items.length ≤ 1000000)
    (h : ∀ d ∈ items, Wp (tt (env.set i (some d)) st) (fun b s => b = p d ∧ s = st) NoX)
    (h2 : ∀ d ∈ items, p d = true → Wp (te (env.set i (some d)) st) (fun y s => y = g d ∧ s = st) NoX)
    (q : Q (.lst ((items.filter p).map g)) st) : Wp (lcGo (.nm i) tt te ⟨items, []⟩ env items [] st) Q X := Wp.lcM p g hl (fun d hd => ⟨_, rfl, h d hd, h2 d hd⟩) q
/-- over a source that stands: item by item, nothing changes -/
theorem Wp.lcG {src : Src} {i : Nat} (P : D → D → Prop) {st : Store} (ok : src.okS st) : ∀ (items acc : List D), acc.length + items.length ≤ 1000000 →
    (∀ d ∈ items, Wp (te (env.set i (some d)) st) (fun y s => P d y ∧ s = st) NoX) →
    (∀ ys : List D, ys.length = items.length → (∀ y ∈ ys, ∃ d ∈ items, P d y) → Q (.lst (acc ++ ys)) st) →
    Wp (lcGo (.nm i) mYes te src env items acc st) Q X
  | [], acc, _, _, q => by
    unfold lcGo
    rw [if_pos ok]
    have := q [] rfl (fun _ h => by cases h)
    rw [List.append_nil] at this
    exact this
  | d :: ds, acc, hl, h, q => by
    have hd := h d (.head _)
    unfold lcGo
    rw [if_pos ok]
    simp only [bindT, mYes]
    cases q2 : te (env.set i (some d)) st with
    | ok y s2 =>
      rw [q2] at hd
      obtain ⟨hp, rfl⟩ := hd
      have lt : acc.length < sizeLine := by rw [sizeLine_eq]; simp at hl; omega
      simp only [q2]
      rw [if_pos lt]
      refine Wp.lcG P ok ds (acc ++ [y]) (by simp at hl ⊢; omega) (fun d hm => h d (.tail _ hm)) fun ys e hy => ?_
      rw [List.append_assoc]
      refine q (y :: ys) (by simp [e]) fun z hz => ?_
      cases hz with
      | head => exact ⟨d, .head _, hp⟩
      | tail _ hz => obtain ⟨d2, m, hp2⟩ := hy z hz; exact ⟨d2, .tail _ m, hp2⟩
    | exc e s => rw [q2] at hd; exact hd.elim
    | bad => rw [q2] at hd; exact hd.elim
/-- typed items: filtered, then mapped; nothing changes -/
theorem Wp.lcT {α : Type} {t : Tgt} {src : Src} (f : α → D) (p : α → Bool) (g : α → D) {st : Store} (ok : src.okS st) : ∀ (xs : List α) (acc : List D), acc.length + xs.length ≤ 1000000 →
    (∀ x ∈ xs, ∃ env1, bindT t (f x) env = some env1 ∧ Wp (tt env1 st) (fun b s => b = p x ∧ s = st) NoX ∧ (p x = true → Wp (te env1 st) (fun y s => y = g x ∧ s = st) NoX)) →
    Q (.lst (acc ++ (xs.filter p).map g)) st → Wp (lcGo t tt te src env (xs.map f) acc st) Q X
  | [], acc, _, _, q => by
    unfold List.map lcGo
    rw [if_pos ok]
    simpa using q
  | x :: xs, acc, hl, h, q => by
    obtain ⟨env1, h1, h2, h3⟩ := h x (.head _)
    have lt : acc.length < sizeLine := by rw [sizeLine_eq]; simp at hl; omega
    have hr : ∀ y ∈ xs, ∃ env1, bindT t (f y) env = some env1 ∧ Wp (tt env1 st) (fun b s => b = p y ∧ s = st) NoX ∧ (p y = true → Wp (te env1 st) (fun y' s => y' = g y ∧ s = st) NoX) := fun y hm => h y (.tail _ hm)
    rw [List.map_cons]
    unfold lcGo
    rw [if_pos ok, h1]
    simp only
    rw [h2.eq]
    cases c : p x with
    | true =>
      simp only
      rw [(h3 c).eq]
      simp only
      rw [if_pos lt]
      refine Wp.lcT f p g ok xs (acc ++ [g x]) (by simp at hl ⊢; omega) hr ?_
      rw [List.filter_cons_of_pos c] at q
      simpa using q
    | false =>
      simp only
      refine Wp.lcT f p g ok xs acc (by simp at hl ⊢; omega) hr ?_
      rw [List.filter_cons_of_neg (by simp [c])] at q
      exact q
/-- .. all of them -/
theorem Wp.lcTA {α : Type} {t : Tgt} {src : Src} (f : α → D) (g : α → D) {st : Store} (ok : src.okS st) (xs : List α) (hl : xs.length ≤ 1000000)
    (h : ∀ x ∈ xs, ∃ env1, bindT t (f x) env = some env1 ∧ Wp (te env1 st) (fun y s => y = g x ∧ s = st) NoX)
    (q : Q (.lst (xs.map g)) st) : Wp (lcGo t mYes te src env (xs.map f) [] st) Q X := by
  refine Wp.lcT f (fun _ => true) g ok xs [] (by simpa using hl) (fun x hx => ?_) ?_
  · obtain ⟨env1, h1, h2⟩ := h x hx
    exact ⟨env1, h1, ⟨rfl, rfl⟩, fun _ => h2⟩
  · have : xs.filter (fun _ => true) = xs := List.filter_eq_self.mpr fun _ _ => rfl
    rw [this]
    simpa using q
end
section
variable {t : Tgt} {tt : M Bool} {te : M D} {items : List D} {env env1 : Sl} {Q : D → Store → Prop} {X : Ex → Store → Prop} {d y : D} {ds acc : List D} {s st : Store}
def KLcE (t : Tgt) (tt : M Bool) (te : M D) (items : List D) (env : Sl) (ds acc : List D) (Q : D → Store → Prop) (X : Ex → Store → Prop) (y : D) (s : Store) : Prop := acc.length < sizeLine ∧ Wp (lcGo t tt te ⟨items, []⟩ env ds (acc ++ [y]) s) Q X
def KLcT (t : Tgt) (tt : M Bool) (te : M D) (items : List D) (env env1 : Sl) (ds acc : List D) (Q : D → Store → Prop) (X : Ex → Store → Prop) (b : Bool) (s : Store) : Prop := match b with
  | true => Wp (te env1 s) (KLcE t tt te items env ds acc Q X) NoX
  | false => Wp (lcGo t tt te ⟨items, []⟩ env ds acc s) Q X
@[simp ↓] theorem klcE : KLcE t tt te items env ds acc Q X y s = (acc.length < sizeLine ∧ Wp (lcGo t tt te ⟨items, []⟩ env ds (acc ++ [y]) s) Q X) := rfl
@[simp ↓] theorem klcT_t : KLcT t tt te items env env1 ds acc Q X true s = Wp (te env1 s) (KLcE t tt te items env ds acc Q X) NoX := rfl
@[simp ↓] theorem klcT_f : KLcT t tt te items env env1 ds acc Q X false s = Wp (lcGo t tt te ⟨items, []⟩ env ds acc s) Q X := rfl
theorem wp_lcNil : Wp (lcGo t tt te ⟨items, []⟩ env [] acc st) Q X = Q (.lst acc) st := by
  unfold lcGo
  rw [if_pos okS0]
  rfl
theorem wp_lcCons : Wp (lcGo t tt te ⟨items, []⟩ env (d :: ds) acc st) Q X = KO (fun env1 => Wp (tt env1 st) (KLcT t tt te items env env1 ds acc Q X) NoX) (bindT t d env) := by
  conv => lhs; unfold lcGo
  rw [if_pos okS0]
  cases bindT t d env with
  | none => rfl
  | some env1 =>
    simp only [KO_some]
    cases tt env1 st with
    | bad => rfl
    | exc e s => rfl
    | ok b s =>
      cases b with
      | false => rfl
      | true =>
        simp only [Wp_ok, klcT_t]
        cases te env1 s with
        | bad => rfl
        | exc e s => rfl
        | ok y s2 =>
          simp only [Wp_ok, klcE]
          by_cases c : acc.length < sizeLine
          · rw [if_pos c]; simp [c]
          · rw [if_neg c]; simp [c]
end
@[simp] theorem szLt {n : Nat} : (n < sizeLine) = (n < 16777216) := by rw [sizeLine_eq]
@[simp] theorem wp_yes {env : Sl} {st : Store} {Q : Bool → Store → Prop} {X : Ex → Store → Prop} : Wp (mYes env st) Q X = Q true st := id rfl
/-! ### primitive operators -/
section
variable {st : Store} {Q : D → Store → Prop} {X : Ex → Store → Prop} {i j : Int} {xs ys : List D} {x y : Str}
@[simp] theorem oAdd : opAdd (.int i) (.int j) st = .ok (.int (i + j)) st := rfl
@[simp] theorem oSub : opSub (.int i) (.int j) st = .ok (.int (i - j)) st := rfl
@[simp] theorem wp_oAddT : Wp (opAdd (.tup xs) (.tup ys) st) Q X = (xs.length + ys.length ≤ sizeLine ∧ Q (.tup (xs ++ ys)) st) := wp_szif
@[simp] theorem wp_oAddL : Wp (opAdd (.lst xs) (.lst ys) st) Q X = (xs.length + ys.length ≤ sizeLine ∧ Q (.lst (xs ++ ys)) st) := wp_szif
@[simp] theorem wp_oAddS : Wp (opAdd (.str x) (.str y) st) Q X = (x.length + y.length ≤ sizeLine ∧ Q (.str (x ++ y)) st) := wp_szif
theorem oMod (h : 0 < j) : opMod (.int i) (.int j) st = .ok (.int (i % j)) st := if_pos h
@[simp] theorem wp_oMod : Wp (opMod (.int i) (.int j) st) Q X = (0 < j ∧ Q (.int (i % j)) st) := wp_szif
@[simp] theorem wp_oMul : Wp (opMul (.int i) (.int j) st) Q X = (CMulB i j ∧ Q (.int (i * j)) st) := wp_szif
@[simp] theorem wp_oDiv : Wp (opDiv (.int i) (.int j) st) Q X = (CDiv i j ∧ Q (.int (i / j)) st) := wp_szif
@[simp] theorem wp_oPow : Wp (opPow (.int i) (.int j) st) Q X = (CPow i j ∧ Q (.int (i ^ j.toNat)) st) := wp_szif
@[simp] theorem cpow30 : CPow 10 30 = True := eq_true (by decide)
@[simp] theorem cpow20 : CPow 10 20 = True := eq_true (by decide)
@[simp] theorem cpow18 : CPow 10 18 = True := eq_true (by decide)
@[simp] theorem oLt : opLtI (.int i) (.int j) st = .ok (.bl (decide (i < j))) st := rfl
@[simp] theorem oLe : opLeI (.int i) (.int j) st = .ok (.bl (decide (i ≤ j))) st := rfl
@[simp] theorem oGt : opGtI (.int i) (.int j) st = .ok (.bl (decide (j < i))) st := rfl
@[simp] theorem oGe : opGeI (.int i) (.int j) st = .ok (.bl (decide (j ≤ i))) st := rfl
@[simp] theorem oE0T {neg : Bool} : opE0 neg (.tup xs) (.tup []) st = .ok (.bl (neg ^^ xs.isEmpty)) st := rfl
@[simp] theorem oE0L {neg : Bool} : opE0 neg (.lst xs) (.lst []) st = .ok (.bl (neg ^^ xs.isEmpty)) st := rfl
theorem oE0C {neg : Bool} {n : Nat} (h : st[n]? = some (.lst xs)) : opE0 neg (.loc n) (.lst []) st = .ok (.bl (neg ^^ xs.isEmpty)) st := by simp [opE0, asL, h]
@[simp] theorem oEq0 : opEq0 (.tup xs) (.tup []) st = .ok (.bl xs.isEmpty) st := rfl
def isNon : D → Bool
  | .non => true
  | _ => false
@[simp] theorem isNon_non : isNon .non = true := rfl
@[simp] theorem isNon_int : isNon (.int i) = false := rfl
@[simp] theorem isNon_str : isNon (.str x) = false := rfl
@[simp] theorem isNon_tup : isNon (.tup xs) = false := rfl
@[simp] theorem isNon_lst : isNon (.lst xs) = false := rfl
@[simp] theorem isNon_bl {b : Bool} : isNon (.bl b) = false := rfl
@[simp] theorem isNon_dct {ks : List Key} : isNon (.dct ks xs) = false := rfl
@[simp] theorem isNon_obj {c : Str} {ns : List Str} : isNon (.obj c ns xs) = false := rfl
@[simp] theorem oIs {d : D} {neg : Bool} : opIsN neg d .non st = .ok (.bl (neg ^^ isNon d)) st := by cases d <;> rfl
@[simp] theorem wp_oIxT : Wp (opIx (.tup xs) (.int i) st) Q X = KO (fun d => Q d st) (atI xs i) := by
  show Wp (match (some xs).bind fun xs => atI xs i with | some d => .ok d st | none => .bad) Q X = _
  rw [Option.bind_some]
  cases atI xs i <;> rfl
@[simp] theorem wp_oIxL : Wp (opIx (.lst xs) (.int i) st) Q X = KO (fun d => Q d st) (atI xs i) := by
  show Wp (match (some xs).bind fun xs => atI xs i with | some d => .ok d st | none => .bad) Q X = _
  rw [Option.bind_some]
  cases atI xs i <;> rfl
theorem wp_oIxC {n : Nat} (h : st[n]? = some (.lst xs)) : Wp (opIx (.loc n) (.int i) st) Q X = KO (fun d => Q d st) (atI xs i) := by
  show Wp (match (asS st (.loc n)).bind fun xs => atI xs i with | some d => .ok d st | none => .bad) Q X = _
  have e : asS st (.loc n) = some xs := by simp [asS, asL, h]
  rw [e, Option.bind_some]
  cases atI xs i <;> rfl
@[simp] theorem at0 {α : Type} {a : α} {l : List α} : atI (a :: l) 0 = some a := by simp [atI, ixN]
@[simp] theorem at1 {α : Type} {a b : α} {l : List α} : atI (a :: b :: l) 1 = some b := by
  have h : (1 : Int) < (l.length : Int) + 1 + 1 := by omega
  simp [atI, ixN, h]
@[simp] theorem at2 {α : Type} {a b c : α} {l : List α} : atI (a :: b :: c :: l) 2 = some c := by
  have h : (2 : Int) < (l.length : Int) + 1 + 1 + 1 := by omega
  simp [atI, ixN, h]
@[simp] theorem at3 {α : Type} {a b c d : α} {l : List α} : atI (a :: b :: c :: d :: l) 3 = some d := by
  have h : (3 : Int) < (l.length : Int) + 1 + 1 + 1 + 1 := by omega
  simp [atI, ixN, h]
@[simp] theorem at4 {α : Type} {a b c d e : α} {l : List α} : atI (a :: b :: c :: d :: e :: l) 4 = some e := by
  have h : (4 : Int) < (l.length : Int) + 1 + 1 + 1 + 1 + 1 := by omega
  simp [atI, ixN, h]
@[simp] theorem at5 {α : Type} {a b c d e f : α} {l : List α} : atI (a :: b :: c :: d :: e :: f :: l) 5 = some f := by
  have h : (5 : Int) < (l.length : Int) + 1 + 1 + 1 + 1 + 1 + 1 := by omega
  simp [atI, ixN, h]
theorem atN {α : Type} {l : List α} {n : Nat} : atI l (n : Int) = l[n]? := by
  unfold atI ixN
  have h : (0 : Int) ≤ n := by omega
  rw [if_pos h]
  by_cases c : (n : Int) < (l.length : Int)
  · rw [if_pos c]
    simp
  · rw [if_neg c]
    have : l.length ≤ n := by omega
    simp [this]
theorem at_in {α : Type} {l : List α} {r : Int} (h0 : 0 ≤ r) (h1 : r < (l.length : Int)) : ∃ x, atI l r = some x ∧ x ∈ l := by
  have e : ((r.toNat : Nat) : Int) = r := by omega
  rw [← e, atN]
  have hr : r.toNat < l.length := by omega
  exact ⟨l[r.toNat], List.getElem?_eq_getElem hr, List.getElem_mem hr⟩
@[simp] theorem fLen_t : fLen [.tup xs] st = .ok (.int xs.length) st := rfl
@[simp] theorem fLen_l : fLen [.lst xs] st = .ok (.int xs.length) st := rfl
theorem fLen_c {n : Nat} (h : st[n]? = some (.lst xs)) : fLen [.loc n] st = .ok (.int xs.length) st := by simp [fLen, asS, asL, h]
@[simp] theorem fTup_t : fTup [.tup xs] st = .ok (.tup xs) st := rfl
@[simp] theorem fTup_l : fTup [.lst xs] st = .ok (.tup xs) st := rfl
theorem fTup_c {n : Nat} (h : st[n]? = some (.lst xs)) : fTup [.loc n] st = .ok (.tup xs) st := by simp [fTup, asS, asL, h]
@[simp] theorem fList_t : fList [.tup xs] st = .ok (.lst xs) st := rfl
@[simp] theorem fList_l : fList [.lst xs] st = .ok (.lst xs) st := rfl
@[simp] theorem fInt_i : fInt [.int i] st = .ok (.int i) st := rfl
@[simp] theorem fInt_b {b : Bool} : fInt [.bl b] st = .ok (.int (if b then 1 else 0)) st := rfl
@[simp] theorem fMin_i : fMin2 [.int i, .int j] st = .ok (.int (if j < i then j else i)) st := rfl
@[simp] theorem fMax_i : fMax2 [.int i, .int j] st = .ok (.int (if j > i then j else i)) st := rfl
@[simp] theorem kd_non : kd st .non = some (.ty "NoneType") := rfl
@[simp] theorem kd_bl {b : Bool} : kd st (.bl b) = some (.ty "bool") := rfl
@[simp] theorem kd_int : kd st (.int i) = some (.ty "int") := rfl
@[simp] theorem kd_str : kd st (.str x) = some (.ty "str") := rfl
@[simp] theorem kd_tup : kd st (.tup xs) = some (.ty "tuple") := rfl
@[simp] theorem kd_lst : kd st (.lst xs) = some (.ty "list") := rfl
@[simp] theorem kd_dct {ks : List Key} : kd st (.dct ks xs) = some (.ty "dict") := rfl
@[simp] theorem kd_obj {c : Str} {ns : List Str} : kd st (.obj c ns xs) = some (.own c) := rfl
@[simp] theorem kd_exn {c : Str} {ns : List Str} : kd st (.exn c ns xs) = some (.err c) := rfl
@[simp] theorem ins_obj {c : Str} {ns : List Str} : insOf st (.obj c ns xs) = some (c, ns, xs) := rfl
@[simp] theorem ins_loc0 {c : Str} {ns : List Str} {s : Store} : insOf (Cell.ins c ns xs :: s) (.loc 0) = some (c, ns, xs) := rfl
@[simp] theorem bt_nm {k : Nat} {d : D} {env : Sl} : bindT (.nm k) d env = some (env.set k (some d)) := rfl
@[simp] theorem bt_tut {ts : List Tgt} {env : Sl} : bindT (.tu ts) (.tup xs) env = bindTs ts xs env := rfl
@[simp] theorem bt_tul {ts : List Tgt} {env : Sl} : bindT (.tu ts) (.lst xs) env = bindTs ts xs env := rfl
@[simp] theorem bts_nil {env : Sl} : bindTs [] [] env = some env := rfl
@[simp] theorem bts_cons {k : Nat} {ts : List Tgt} {d : D} {env : Sl} : bindTs (.nm k :: ts) (d :: xs) env = bindTs ts xs (env.set k (some d)) := rfl
@[simp] theorem tru_bl2 {b : Bool} : tru st (.bl b) = some b := rfl
theorem setF0 {c f : Str} {ns : List Str} {vs : List D} {mo mv : M D} {env : Sl} {QF : Fl → Store → Prop} : True := trivial
@[simp] theorem isaAny_one {isa : Isa} {k c : Kd} : isaAny isa k [c] = isa k c := by
  unfold isaAny isaAny
  cases isa k c with
  | none => rfl
  | some b => cases b <;> rfl
@[simp] theorem isaAny_cons {isa : Isa} {k c c2 : Kd} {cs : List Kd} : isaAny isa k (c :: c2 :: cs) = (isa k c).bind fun b => if b then some true else isaAny isa k (c2 :: cs) := by
  conv => lhs; unfold isaAny
  cases isa k c with
  | none => rfl
  | some b => cases b <;> rfl
theorem isaAny_two {isa : Isa} {k c c2 : Kd} {a b : Bool} (h : isa k c = some a) (h2 : isa k c2 = some b) : isaAny isa k [c, c2] = some (a || b) := by
  unfold isaAny
  rw [h]
  cases a with
  | true => rfl
  | false => rw [isaAny_one, h2]; rfl
end
/-- o.f = e -/
def KFs2 (c f : Str) (d : D) (env : Sl) (Q : Fl → Store → Prop) (x : D) (s : Store) : Prop := ∃ n ns vs, x = .loc n ∧ s[n]? = some (.ins c ns vs) ∧ ns.length < 1000 ∧ Q (.nx env) (s.set n (.ins c (putN f d ns vs).1 (putN f d ns vs).2))
def KFs1 (c f : Str) (mo : M D) (env : Sl) (Q : Fl → Store → Prop) (d : D) (s : Store) : Prop := Wp (mo env s) (KFs2 c f d env Q) (KX env Q)
section
variable {c f : Str} {mo mv : M D} {env : Sl} {Q : Fl → Store → Prop} {X : Ex → Store → Prop} {d : D} {s st : Store} {n : Nat} {ns : List Str} {vs : List D}
@[simp ↓] theorem kfs1 : KFs1 c f mo env Q d s = Wp (mo env s) (KFs2 c f d env Q) (KX env Q) := rfl
theorem kfs2 (h : s[n]? = some (.ins c ns vs)) : KFs2 c f d env Q (.loc n) s = (ns.length < 1000 ∧ Q (.nx env) (s.set n (.ins c (putN f d ns vs).1 (putN f d ns vs).2))) := by
  refine propext ⟨?_, fun ⟨h1, q⟩ => ⟨n, ns, vs, rfl, h, h1, q⟩⟩
  rintro ⟨n', ns', vs', e1, e2, h1, q⟩
  cases e1
  rw [h] at e2
  cases e2
  exact ⟨h1, q⟩
@[simp] theorem kfs2z : KFs2 c f d env Q (.loc 0) (Cell.ins c ns vs :: s) = (ns.length < 1000 ∧ Q (.nx env) (Cell.ins c (putN f d ns vs).1 (putN f d ns vs).2 :: s)) := by
  rw [kfs2 (n := 0) (s := Cell.ins c ns vs :: s) rfl]
  rfl
@[simp ↓] theorem wp_setF : Wp (DL.sFld c f mo mv env st) Q X = Wp (mv env st) (KFs1 c f mo env Q) (KX env Q) := by
  rw [Ev.ev_setF, Wp_lift]
  show Wp _ _ _ = Wp _ _ _
  congr 1
  funext d s1
  rw [Wp_lift]
  show Wp _ _ _ = Wp _ _ _
  congr 1
  funext x s2
  refine propext ⟨fun h => ?_, fun ⟨n, ns, vs, h1, h2, h3, q⟩ => ?_⟩
  · cases x with
    | loc n =>
      cases e : s2[n]? with
      | none => simp only [e] at h; exact h.elim
      | some cc =>
        cases cc with
        | ins c' ns vs =>
          simp only [e] at h
          rw [wp_szif] at h
          obtain ⟨⟨h1, h2⟩, h3⟩ := h
          subst h1
          exact ⟨n, ns, vs, rfl, e, h2, h3⟩
        | _ => simp only [e] at h; exact h.elim
    | _ => exact h.elim
  · subst h1
    simp only [h2]
    rw [wp_szif]
    exact ⟨⟨trivial, h3⟩, q⟩
@[simp] theorem putN_nil : putN f d [] [] = ([f], [d]) := rfl
end
/-! ### equality of data -/
mutual
def dEq : D → D → Bool
  | .non, .non => true
  | .bl a, .bl b => a == b
  | .bl a, .int j => (if a then 1 else 0) == j
  | .int i, .bl b => i == (if b then 1 else 0)
  | .int i, .int j => decide (i = j)
  | .str x, .str y => decide (x = y)
  | .lst xs, .lst ys => dEqs xs ys
  | .tup xs, .tup ys => dEqs xs ys
  | _, _ => false
def dEqs : List D → List D → Bool
  | [], [] => true
  | x :: xs, y :: ys => dEq x y && dEqs xs ys
  | _, _ => false
end
/-- data of the kinds None, bool, int, text, tuple, list, at most k deep -/
def shB : Nat → D → Bool
  | _, .non => true
  | _, .bl _ => true
  | _, .int _ => true
  | _, .str x => PyData.canLay0 (.str x)
  | k + 1, .tup xs => decide (xs.length ≤ 1000000) && xs.all (shB k)
  | k + 1, .lst xs => decide (xs.length ≤ 1000000) && xs.all (shB k)
  | _, _ => false
section
variable {k : Nat} {xs : List D}
@[simp] theorem sh_non : shB k .non = true := by cases k <;> rfl
@[simp] theorem sh_bl {b : Bool} : shB k (.bl b) = true := by cases k <;> rfl
@[simp] theorem sh_int {i : Int} : shB k (.int i) = true := by cases k <;> rfl
theorem sh_str {x : Str} : shB k (.str x) = PyData.canLay0 (.str x) := by cases k <;> rfl
@[simp] theorem sh_tup : shB (k + 1) (.tup xs) = (decide (xs.length ≤ 1000000) && xs.all (shB k)) := rfl
@[simp] theorem sh_lst : shB (k + 1) (.lst xs) = (decide (xs.length ≤ 1000000) && xs.all (shB k)) := rfl
theorem sh_items {k : Nat} {xs : List D} (h : shB (k + 1) (.tup xs) = true ∨ shB (k + 1) (.lst xs) = true) : xs.length ≤ 1000000 ∧ xs.all (shB k) = true := by
  rcases h with h | h <;> · rw [show shB (k + 1) _ = (decide (xs.length ≤ 1000000) && xs.all (shB k)) from rfl, Bool.and_eq_true] at h; exact ⟨of_decide_eq_true h.1, h.2⟩
mutual
theorem sh_py : ∀ (d : D) (k : Nat), shB k d = true → ∃ p, d.py = some p ∧ p.canLay0 = true ∧ p.depth ≤ k
  | .non, k, _ => ⟨_, rfl, rfl, by simp [PyData.depth]⟩
  | .bl _, k, _ => ⟨_, rfl, rfl, by simp [PyData.depth]⟩
  | .int _, k, _ => ⟨_, rfl, rfl, by simp [PyData.depth]⟩
  | .str x, k, h => ⟨_, rfl, by rw [sh_str] at h; exact h, by simp [PyData.depth]⟩
  | .tup xs, 0, h => by cases h
  | .tup xs, k + 1, h => by
    obtain ⟨ps, e, h1, h2⟩ := sh_pys xs k (sh_items (.inl h)).2
    refine ⟨.tuple ps, by simp [D.py, e], by unfold PyData.canLay0; exact h1, by simp [PyData.depth]; omega⟩
  | .lst xs, 0, h => by cases h
  | .lst xs, k + 1, h => by
    obtain ⟨ps, e, h1, h2⟩ := sh_pys xs k (sh_items (.inr h)).2
    refine ⟨.list ps, by simp [D.py, e], by unfold PyData.canLay0; exact h1, by simp [PyData.depth]; omega⟩
  | .fro _, k, h => by cases k <;> cases h
  | .dct _ _, k, h => by cases k <;> cases h
  | .obj _ _ _, k, h => by cases k <;> cases h
  | .loc _, k, h => by cases k <;> cases h
  | .exn _ _ _, k, h => by cases k <;> cases h
theorem sh_pys : ∀ (xs : List D) (k : Nat), xs.all (shB k) = true → ∃ ps, D.pys xs = some ps ∧ PyData.canLayAll0 ps = true ∧ PyData.depthAll ps ≤ k
  | [], k, _ => ⟨[], rfl, rfl, by simp [PyData.depthAll]⟩
  | x :: xs, k, h => by
    rw [List.all_cons, Bool.and_eq_true] at h
    obtain ⟨p, e, h1, h2⟩ := sh_py x k h.1
    obtain ⟨ps, e', h1', h2'⟩ := sh_pys xs k h.2
    refine ⟨p :: ps, by simp [D.pys, e, e'], by unfold PyData.canLayAll0; rw [h1, h1']; rfl, ?_⟩
    simp only [PyData.depthAll]
    omega
end
mutual
theorem eqv_py : ∀ (x y : D) (p q : PyData) (j k : Nat), shB j x = true → shB k y = true → x.py = some p → y.py = some q → PyData.eqv p q = dEq x y
  | .tup xs, .tup ys, p, q, j, k, hx, hy, e, e' => by
    cases j with
    | zero => cases hx
    | succ j =>
      cases k with
      | zero => cases hy
      | succ k =>
        obtain ⟨ps, e1, _⟩ := sh_pys xs j (sh_items (.inl hx)).2
        obtain ⟨qs, e2, _⟩ := sh_pys ys k (sh_items (.inl hy)).2
        simp only [D.py, e1, e2, Option.map_some, Option.some.injEq] at e e'
        subst e e'
        unfold PyData.eqv dEq
        exact eqv_pys xs ys ps qs j k (sh_items (.inl hx)).2 (sh_items (.inl hy)).2 e1 e2
  | .lst xs, .lst ys, p, q, j, k, hx, hy, e, e' => by
    cases j with
    | zero => cases hx
    | succ j =>
      cases k with
      | zero => cases hy
      | succ k =>
        obtain ⟨ps, e1, _⟩ := sh_pys xs j (sh_items (.inr hx)).2
        obtain ⟨qs, e2, _⟩ := sh_pys ys k (sh_items (.inr hy)).2
        simp only [D.py, e1, e2, Option.map_some, Option.some.injEq] at e e'
        subst e e'
        unfold PyData.eqv dEq
        exact eqv_pys xs ys ps qs j k (sh_items (.inr hx)).2 (sh_items (.inr hy)).2 e1 e2
  | .non, y, p, q, j, k, hx, hy, e, e' => by
    cases e
    cases y <;> first | (cases e'; rfl) | (cases k <;> cases hy; done) | (obtain ⟨ps, _, e2⟩ := Option.map_eq_some_iff.mp e'; subst e2; rfl)
  | .bl _, y, p, q, j, k, hx, hy, e, e' => by
    cases e
    cases y <;> first | (cases e'; rfl) | (cases k <;> cases hy; done) | (obtain ⟨ps, _, e2⟩ := Option.map_eq_some_iff.mp e'; subst e2; rfl)
  | .int _, y, p, q, j, k, hx, hy, e, e' => by
    cases e
    cases y <;> first | (cases e'; rfl) | (cases k <;> cases hy; done) | (obtain ⟨ps, _, e2⟩ := Option.map_eq_some_iff.mp e'; subst e2; rfl)
  | .str _, y, p, q, j, k, hx, hy, e, e' => by
    cases e
    cases y <;> first | (cases e'; rfl) | (cases k <;> cases hy; done) | (obtain ⟨ps, _, e2⟩ := Option.map_eq_some_iff.mp e'; subst e2; rfl)
  | .tup xs, .non, p, q, j, k, hx, hy, e, e' => by obtain ⟨ps, _, e2⟩ := Option.map_eq_some_iff.mp e; subst e2; cases e'; rfl
  | .tup xs, .bl _, p, q, j, k, hx, hy, e, e' => by obtain ⟨ps, _, e2⟩ := Option.map_eq_some_iff.mp e; subst e2; cases e'; rfl
  | .tup xs, .int _, p, q, j, k, hx, hy, e, e' => by obtain ⟨ps, _, e2⟩ := Option.map_eq_some_iff.mp e; subst e2; cases e'; rfl
  | .tup xs, .str _, p, q, j, k, hx, hy, e, e' => by obtain ⟨ps, _, e2⟩ := Option.map_eq_some_iff.mp e; subst e2; cases e'; rfl
  | .tup xs, .lst _, p, q, j, k, hx, hy, e, e' => by obtain ⟨ps, _, e2⟩ := Option.map_eq_some_iff.mp e; subst e2; obtain ⟨ps, _, e2⟩ := Option.map_eq_some_iff.mp e'; subst e2; rfl
  | .lst xs, .non, p, q, j, k, hx, hy, e, e' => by obtain ⟨ps, _, e2⟩ := Option.map_eq_some_iff.mp e; subst e2; cases e'; rfl
  | .lst xs, .bl _, p, q, j, k, hx, hy, e, e' => by obtain ⟨ps, _, e2⟩ := Option.map_eq_some_iff.mp e; subst e2; cases e'; rfl
  | .lst xs, .int _, p, q, j, k, hx, hy, e, e' => by obtain ⟨ps, _, e2⟩ := Option.map_eq_some_iff.mp e; subst e2; cases e'; rfl
  | .lst xs, .str _, p, q, j, k, hx, hy, e, e' => by obtain ⟨ps, _, e2⟩ := Option.map_eq_some_iff.mp e; subst e2; cases e'; rfl
  | .lst xs, .tup _, p, q, j, k, hx, hy, e, e' => by obtain ⟨ps, _, e2⟩ := Option.map_eq_some_iff.mp e; subst e2; obtain ⟨ps, _, e2⟩ := Option.map_eq_some_iff.mp e'; subst e2; rfl
  | .tup xs, .fro _, p, q, j, k, hx, hy, e, e' => by cases k <;> cases hy
  | .tup xs, .dct _ _, p, q, j, k, hx, hy, e, e' => by cases k <;> cases hy
  | .tup xs, .obj _ _ _, p, q, j, k, hx, hy, e, e' => by cases k <;> cases hy
  | .tup xs, .loc _, p, q, j, k, hx, hy, e, e' => by cases k <;> cases hy
  | .tup xs, .exn _ _ _, p, q, j, k, hx, hy, e, e' => by cases k <;> cases hy
  | .lst xs, .fro _, p, q, j, k, hx, hy, e, e' => by cases k <;> cases hy
  | .lst xs, .dct _ _, p, q, j, k, hx, hy, e, e' => by cases k <;> cases hy
  | .lst xs, .obj _ _ _, p, q, j, k, hx, hy, e, e' => by cases k <;> cases hy
  | .lst xs, .loc _, p, q, j, k, hx, hy, e, e' => by cases k <;> cases hy
  | .lst xs, .exn _ _ _, p, q, j, k, hx, hy, e, e' => by cases k <;> cases hy
  | .fro _, _, p, q, j, k, hx, hy, e, e' => by cases j <;> cases hx
  | .dct _ _, _, p, q, j, k, hx, hy, e, e' => by cases j <;> cases hx
  | .obj _ _ _, _, p, q, j, k, hx, hy, e, e' => by cases j <;> cases hx
  | .loc _, _, p, q, j, k, hx, hy, e, e' => by cases j <;> cases hx
  | .exn _ _ _, _, p, q, j, k, hx, hy, e, e' => by cases j <;> cases hx
theorem eqv_pys : ∀ (xs ys : List D) (ps qs : List PyData) (j k : Nat), xs.all (shB j) = true → ys.all (shB k) = true → D.pys xs = some ps → D.pys ys = some qs → PyData.eqvAll ps qs = dEqs xs ys
  | [], [], _, _, _, _, _, _, e, e' => by cases e; cases e'; rfl
  | [], y :: ys, _, qs, j, k, _, hy, e, e' => by
    cases e
    rw [List.all_cons, Bool.and_eq_true] at hy
    obtain ⟨q, e3, _⟩ := sh_py y k hy.1
    obtain ⟨qs, e4, _⟩ := sh_pys ys k hy.2
    simp only [D.pys, e3, e4, Option.bind_some, Option.map_some, Option.some.injEq] at e'
    subst e'
    rfl
  | x :: xs, [], ps, _, j, k, hx, _, e, e' => by
    cases e'
    rw [List.all_cons, Bool.and_eq_true] at hx
    obtain ⟨q, e3, _⟩ := sh_py x j hx.1
    obtain ⟨qs, e4, _⟩ := sh_pys xs j hx.2
    simp only [D.pys, e3, e4, Option.bind_some, Option.map_some, Option.some.injEq] at e
    subst e
    rfl
  | x :: xs, y :: ys, ps, qs, j, k, hx, hy, e, e' => by
    rw [List.all_cons, Bool.and_eq_true] at hx hy
    obtain ⟨p, e1, _⟩ := sh_py x j hx.1
    obtain ⟨ps, e2, _⟩ := sh_pys xs j hx.2
    obtain ⟨q, e3, _⟩ := sh_py y k hy.1
    obtain ⟨qs, e4, _⟩ := sh_pys ys k hy.2
    simp only [D.pys, e1, e2, e3, e4, Option.bind_some, Option.map_some, Option.some.injEq] at e e'
    subst e e'
    unfold PyData.eqvAll dEqs
    rw [eqv_py x y p q j k hx.1 hy.1 e1 e3, eqv_pys xs ys ps qs j k hx.2 hy.2 e2 e4]
end
end
/-- a cell's list too -/
theorem oEqR {neg : Bool} {x y : D} {st : Store} (hx : shB 64 (res st x) = true) (hy : shB 64 (res st y) = true) : opEqD neg x y st = .ok (.bl (neg ^^ dEq (res st x) (res st y))) st := by
  obtain ⟨p, e1, h1, h2⟩ := sh_py _ _ hx
  obtain ⟨q, e2, h3, h4⟩ := sh_py _ _ hy
  unfold opEqD
  rw [e1, e2]
  have s1 : SeqAt.shaped p = true := by unfold SeqAt.shaped; rw [h1]; simpa using h2
  have s2 : SeqAt.shaped q = true := by unfold SeqAt.shaped; rw [h3]; simpa using h4
  simp only [s1, s2, and_self, if_true]
  rw [eqv_py _ _ p q 64 64 hx hy e1 e2]
theorem sh_res {k : Nat} {st : Store} {x : D} (h : shB k x = true) : res st x = x := by
  cases x with
  | loc n => cases k <;> cases h
  | _ => rfl
theorem sh_le : ∀ (j : Nat) {k : Nat} (_ : j ≤ k) {d : D}, shB j d = true → shB k d = true
  | 0, k, _, d, h => by cases d <;> first | (cases h; done) | (simp; done) | (rw [sh_str] at h ⊢; exact h)
  | j + 1, k, hk, d, h => by
    obtain ⟨k, rfl⟩ : ∃ k', k = k' + 1 := ⟨k - 1, by omega⟩
    cases d with
    | tup xs => rw [sh_tup, Bool.and_eq_true, List.all_eq_true] at *; exact ⟨h.1, fun x hx => sh_le j (by omega) (h.2 x hx)⟩
    | lst xs => rw [sh_lst, Bool.and_eq_true, List.all_eq_true] at *; exact ⟨h.1, fun x hx => sh_le j (by omega) (h.2 x hx)⟩
    | _ => first | (cases h; done) | (simp; done) | (rw [sh_str] at h ⊢; exact h)
theorem oEq {neg : Bool} {x y : D} {st : Store} (j k : Nat) (hx : shB j x = true) (hy : shB k y = true) (hj : j ≤ 64 := by decide) (hk : k ≤ 64 := by decide) : opEqD neg x y st = .ok (.bl (neg ^^ dEq x y)) st := by
  have h1 := sh_le j hj hx
  have h2 := sh_le k hk hy
  have q := oEqR (neg := neg) (st := st) (x := x) (y := y) (by rw [sh_res h1]; exact h1) (by rw [sh_res h2]; exact h2)
  rw [sh_res h1, sh_res h2] at q
  exact q
section
variable {neg : Bool} {st : Store} {i j : Int} {a b : Bool} {x y : Str}
@[simp] theorem oEq_int : opEqD neg (.int i) (.int j) st = .ok (.bl (neg ^^ decide (i = j))) st := oEq 0 0 sh_int sh_int
@[simp] theorem oEq_bl : opEqD neg (.bl a) (.bl b) st = .ok (.bl (neg ^^ (a == b))) st := oEq 0 0 sh_bl sh_bl
@[simp] theorem oEq_str (h : PyData.canLay0 (.str x) = true) (h2 : PyData.canLay0 (.str y) = true) : opEqD neg (.str x) (.str y) st = .ok (.bl (neg ^^ decide (x = y))) st := oEq 0 0 (by rw [sh_str]; exact h) (by rw [sh_str]; exact h2)
@[simp] theorem oEq_ni : opEqD neg .non (.int j) st = .ok (.bl neg) st := by
  have := oEq (neg := neg) (st := st) (x := .non) (y := .int j) 0 0 sh_non sh_int
  simpa [dEq] using this
@[simp] theorem oEq_in : opEqD neg (.int j) .non st = .ok (.bl neg) st := by
  have := oEq (neg := neg) (st := st) (x := .int j) (y := .non) 0 0 sh_int sh_non
  simpa [dEq] using this
end
mutual
theorem dEq_refl : ∀ (k : Nat) (d : D), shB k d = true → dEq d d = true
  | _, .non, _ => rfl
  | _, .bl _, _ => by simp [dEq]
  | _, .int _, _ => by simp [dEq]
  | _, .str _, _ => by simp [dEq]
  | 0, .tup _, h => by cases h
  | k + 1, .tup xs, h => by unfold dEq; exact dEqs_refl k xs (sh_items (.inl h)).2
  | 0, .lst _, h => by cases h
  | k + 1, .lst xs, h => by unfold dEq; exact dEqs_refl k xs (sh_items (.inr h)).2
  | k, .fro _, h => by cases k <;> cases h
  | k, .dct _ _, h => by cases k <;> cases h
  | k, .obj _ _ _, h => by cases k <;> cases h
  | k, .loc _, h => by cases k <;> cases h
  | k, .exn _ _ _, h => by cases k <;> cases h
theorem dEqs_refl : ∀ (k : Nat) (ds : List D), ds.all (shB k) = true → dEqs ds ds = true
  | _, [], _ => rfl
  | k, d :: ds, h => by
    rw [List.all_cons, Bool.and_eq_true] at h
    unfold dEqs
    rw [dEq_refl k d h.1, dEqs_refl k ds h.2]
    rfl
end
/-! ### draws -/
structure Deck (T : Nat) (st : Store) : Prop where
  ex : ∃ (bigs cells : List Int) (t : Int), st[0]? = some (.lst (bigs.map .int)) ∧ st[1]? = some (.lst [.loc 0, .lst (cells.map .int), .int t]) ∧ bigs.length ≤ 63 ∧ cells ≠ [] ∧ cells.length ≤ 64 ∧ 0 ≤ t ∧ t ≤ T
  small : T ≤ 1000000000
/-- so many draws are left -/
def Dk (n : Nat) (st : Store) : Prop := ∃ T, Deck T st ∧ T + n ≤ 1000000000
structure Go (n : Nat) (st st' : Store) : Prop where
  dk : Dk n st'
  two : 2 ≤ st.length
  len : st.length ≤ st'.length
  keep : ∀ k, 2 ≤ k → k < st.length → st'[k]? = st[k]?
theorem Deck.len {T : Nat} {st : Store} (h : Deck T st) : 2 ≤ st.length := by
  obtain ⟨⟨bigs, cells, t, c0, c1, _⟩, _⟩ := h
  have := (List.getElem?_eq_some_iff.mp c1).1
  omega
theorem Dk.len {n : Nat} {st : Store} (h : Dk n st) : 2 ≤ st.length := by
  obtain ⟨T, h, _⟩ := h
  exact h.len
theorem Go.refl {n : Nat} {st : Store} (h : Dk n st) : Go n st st := ⟨h, h.len, Nat.le_refl _, fun _ _ _ => rfl⟩
theorem Go.trans {n m : Nat} {s1 s2 s3 : Store} (h : Go n s1 s2) (g : Go m s2 s3) : Go m s1 s3 := ⟨g.dk, h.two, Nat.le_trans h.len g.len, fun k h2 hk => (g.keep k h2 (Nat.lt_of_lt_of_le hk h.len)).trans (h.keep k h2 hk)⟩
theorem Deck.le {T U : Nat} {st : Store} (h : Deck T st) (l : T ≤ U) (hU : U ≤ 1000000000) : Deck U st := by
  obtain ⟨⟨bigs, cells, t, c0, c1, hb, hc, hcl, t0, tT⟩, _⟩ := h
  exact ⟨⟨bigs, cells, t, c0, c1, hb, hc, hcl, t0, by omega⟩, hU⟩
theorem Dk.le {n m : Nat} {st : Store} (h : Dk n st) (l : m ≤ n) : Dk m st := by
  obtain ⟨T, h, hT⟩ := h
  exact ⟨T, h, by omega⟩
theorem Go.le {n m : Nat} {st s : Store} (h : Go n st s) (l : m ≤ n) : Go m st s := ⟨h.dk.le l, h.two, h.len, h.keep⟩
theorem Deck.more {T : Nat} {st : Store} (h : Deck T st) (c : Cell) : Deck T (st ++ [c]) := by
  obtain ⟨⟨bigs, cells, t, c0, c1, r⟩, s⟩ := h
  have l1 := (List.getElem?_eq_some_iff.mp c1).1
  exact ⟨⟨bigs, cells, t, by rw [List.getElem?_append_left (by omega)]; exact c0, by rw [List.getElem?_append_left (by omega)]; exact c1, r⟩, s⟩
theorem Deck.putAt {T : Nat} {st : Store} (h : Deck T st) (n : Nat) (hn : 2 ≤ n) (c : Cell) : Deck T (st.set n c) := by
  obtain ⟨⟨bigs, cells, t, c0, c1, r⟩, s⟩ := h
  exact ⟨⟨bigs, cells, t, by rw [List.getElem?_set_ne (by omega)]; exact c0, by rw [List.getElem?_set_ne (by omega)]; exact c1, r⟩, s⟩
/-- a new cell; a cell of one's own changed -/
theorem Go.more {n : Nat} {st s : Store} (h : Go n st s) (c : Cell) : Go n st (s ++ [c]) := by
  obtain ⟨⟨T, d, hT⟩, h2, hl, hk⟩ := h
  refine ⟨⟨T, d.more c, hT⟩, h2, by simp; omega, fun k h2 hk2 => ?_⟩
  rw [List.getElem?_append_left (by omega)]
  exact hk k h2 hk2
theorem Go.putAt {n j : Nat} {st s : Store} (h : Go n st s) (hj : st.length ≤ j) (c : Cell) : Go n st (s.set j c) := by
  obtain ⟨⟨T, d, hT⟩, h2, hl, hk⟩ := h
  refine ⟨⟨T, d.putAt j (by omega) c, hT⟩, h2, by simp; exact hl, fun k h2 hk2 => ?_⟩
  rw [List.getElem?_set_ne (by omega)]
  exact hk k h2 hk2
/-- one of a list, drawn -/
theorem KO_pick {xs : List D} {r : Int} {K : D → Prop} (P : D → Prop) (h0 : 0 ≤ r) (h1 : r < (xs.length : Int)) (hP : ∀ x ∈ xs, P x) (k : ∀ x, P x → K x) : KO K (atI xs r) := by
  obtain ⟨x, e, hx⟩ := at_in h0 h1
  rw [e]
  exact k x (hP x hx)
section
variable {t : Tgt} {te : M D} {env : Sl} {Q : D → Store → Prop} {X : Ex → Store → Prop}
/-- drawn items -/
theorem Wp.lcD {n : Nat} {items : List D} {s0 : Store} (c : Nat) (P : D → Prop) (h : Dk (n + c * items.length) s0) (hm : items.length ≤ 1000000)
    (one : ∀ x k s, x ∈ items → Go (k + c) s0 s → ∃ env1, bindT t x env = some env1 ∧ Wp (te env1 s) (fun y s' => P y ∧ Go k s s') NoX)
    (q : ∀ ys s', ys.length = items.length → (∀ y ∈ ys, P y) → Go n s0 s' → Q (.lst ys) s') : Wp (lcGo t mYes te ⟨items, []⟩ env items [] s0) Q X := by
  refine Wp.lcK (fun j acc s => j ≤ items.length → acc.length = j ∧ (∀ y ∈ acc, P y) ∧ Go (n + c * (items.length - j)) s0 s) items 0 [] s0 (fun j d acc s _ hd hI => ?_) (fun acc s hI => ⟨okS0, ?_⟩) (fun _ => ⟨rfl, by simp, Go.refl h⟩)
  · have hj := (List.getElem?_eq_some_iff.mp hd).1
    obtain ⟨e1, e2, g⟩ := hI (by omega)
    have e : n + c * (items.length - j) = (n + c * (items.length - (j + 1))) + c := by
      have : items.length - j = (items.length - (j + 1)) + 1 := by omega
      rw [this, Nat.mul_succ]
      omega
    rw [e] at g
    obtain ⟨env1, hb, hw⟩ := one d _ s (List.mem_of_getElem? hd) g
    refine ⟨okS0, env1, hb, ?_⟩
    simp only [wp_yes, if_true]
    refine hw.go fun y s2 ⟨hy, g2⟩ => ⟨by rw [e1, sizeLine_eq]; omega, fun _ => ⟨by simp [e1], fun z hz => ?_, g.trans g2⟩⟩
    rcases List.mem_append.mp hz with hz | hz
    · exact e2 z hz
    · rw [List.mem_singleton] at hz
      subst hz
      exact hy
  · rw [Nat.zero_add] at hI
    obtain ⟨e1, e2, g⟩ := hI (Nat.le_refl _)
    rw [Nat.sub_self, Nat.mul_zero] at g
    exact q acc s e1 e2 g
/-- .. by name, over numbers -/
theorem Wp.lcR {n i m : Nat} {s0 : Store} (c : Nat) (P : D → Prop) (h : Dk (n + c * m) s0) (hm : m ≤ 1000000)
    (one : ∀ (j : Nat) k s, j < m → Go (k + c) s0 s → Wp (te (env.set i (some (.int j))) s) (fun y s' => P y ∧ Go k s s') NoX)
    (q : ∀ ys s', ys.length = m → (∀ y ∈ ys, P y) → Go n s0 s' → Q (.lst ys) s') : Wp (lcGo (.nm i) mYes te ⟨intsD 0 m, []⟩ env (intsD 0 m) [] s0) Q X := by
  refine Wp.lcD c P (by rw [ints_len]; exact h) (by rw [ints_len]; exact hm) (fun x k s hx g => ⟨_, rfl, ?_⟩) (fun ys s' e => q ys s' (by rw [ints_len] at e; exact e))
  obtain ⟨j, hj⟩ := List.getElem?_of_mem hx
  obtain ⟨h1, h2⟩ := ints_get m 0 j x hj
  subst h2
  rw [Int.zero_add]
  exact one j k s h1 g
end
/-- all of a list have a form -/
theorem list_of {α : Type} {f : α → D} {P : α → Prop} : ∀ {ys : List D}, (∀ y ∈ ys, ∃ a, y = f a ∧ P a) → ∃ xs : List α, ys = xs.map f ∧ ∀ x ∈ xs, P x
  | [], _ => ⟨[], rfl, by simp⟩
  | y :: ys, h => by
    obtain ⟨a, e, p⟩ := h y (by simp)
    obtain ⟨xs, e2, p2⟩ := list_of (ys := ys) fun z hz => h z (by simp [hz])
    refine ⟨a :: xs, by rw [e, e2]; rfl, fun x hx => ?_⟩
    rcases List.mem_cons.mp hx with hx | hx
    · subst hx; exact p
    · exact p2 x hx
/-! ### membership -/
theorem inV_d {x : D} (fx : x.flat = true) : ∀ ys : List D, ys.all D.flat = true → inV x.v (ys.map D.v) = ys.any fun y => dEq y x
  | [], _ => rfl
  | y :: ys, h => by
    rw [List.all_cons, Bool.and_eq_true] at h
    have ih := inV_d fx ys h.2
    unfold inV at ih ⊢
    simp only [List.map_cons, List.any_cons, ih]
    congr 1
    cases x <;> first | (cases fx; done) | (cases y <;> first | (cases h.1; done) | rfl | (simp [D.v, eqV, dEq]; done) | (simp only [D.v, eqV, dEq]; rw [Bool.eq_iff_iff]; simp))
theorem oIn {neg : Bool} {x : D} {ys : List D} {st : Store} (fx : x.flat = true) (fy : ys.all D.flat = true) : opIn neg x (.tup ys) st = .ok (.bl (neg ^^ ys.any fun y => dEq y x)) st := by
  unfold opIn
  simp only [asS]
  rw [if_pos ⟨fx, fy⟩, inV_d fx ys fy]
theorem oInL {neg : Bool} {x : D} {ys : List D} {st : Store} (fx : x.flat = true) (fy : ys.all D.flat = true) : opIn neg x (.lst ys) st = .ok (.bl (neg ^^ ys.any fun y => dEq y x)) st := by
  unfold opIn
  simp only [asS, asL]
  rw [if_pos ⟨fx, fy⟩, inV_d fx ys fy]
section
variable {neg : Bool} {st : Store} {x a b c d : Str} {i j k l : Int}
@[simp] theorem oIn_s1 : opIn neg (.str x) (.tup [.str a]) st = .ok (.bl (neg ^^ decide (a = x))) st := by rw [oIn rfl rfl]; simp [dEq]
@[simp] theorem oIn_s2 : opIn neg (.str x) (.tup [.str a, .str b]) st = .ok (.bl (neg ^^ (decide (a = x) || decide (b = x)))) st := by rw [oIn rfl rfl]; simp [dEq]
@[simp] theorem oIn_s3 : opIn neg (.str x) (.tup [.str a, .str b, .str c]) st = .ok (.bl (neg ^^ (decide (a = x) || (decide (b = x) || decide (c = x))))) st := by rw [oIn rfl rfl]; simp [dEq]
@[simp] theorem oIn_s4 : opIn neg (.str x) (.tup [.str a, .str b, .str c, .str d]) st = .ok (.bl (neg ^^ (decide (a = x) || (decide (b = x) || (decide (c = x) || decide (d = x)))))) st := by rw [oIn rfl rfl]; simp [dEq]
@[simp] theorem oIn_i2 : opIn neg (.int i) (.tup [.int j, .int k]) st = .ok (.bl (neg ^^ (decide (j = i) || decide (k = i)))) st := by rw [oIn rfl rfl]; simp [dEq]
@[simp] theorem oIn_i3 : opIn neg (.int i) (.tup [.int j, .int k, .int l]) st = .ok (.bl (neg ^^ (decide (j = i) || (decide (k = i) || decide (l = i))))) st := by rw [oIn rfl rfl]; simp [dEq]
theorem oIn_strs {ws : List Str} : opIn neg (.str x) (.tup (ws.map .str)) st = .ok (.bl (neg ^^ decide (x ∈ ws))) st := by
  rw [oIn rfl (by simp [D.flat])]
  congr 3
  rw [Bool.eq_iff_iff]
  simp [dEq]
theorem oIn_intsL {ws : List Int} : opIn neg (.int i) (.lst (ws.map .int)) st = .ok (.bl (neg ^^ decide (i ∈ ws))) st := by
  rw [oInL rfl (by simp [D.flat])]
  congr 3
  rw [Bool.eq_iff_iff]
  simp [dEq]
theorem oIn_intsT {ws : List Int} : opIn neg (.int i) (.tup (ws.map .int)) st = .ok (.bl (neg ^^ decide (i ∈ ws))) st := by
  rw [oIn rfl (by simp [D.flat])]
  congr 3
  rw [Bool.eq_iff_iff]
  simp [dEq]
end
/-! ### tables, dicts -/
def KStr (P : Str → Prop) (d : D) : Prop := ∃ z, d = .str z ∧ P z
@[simp] theorem kstr {P : Str → Prop} {z : Str} : KStr P (.str z) = P z := by
  refine propext ⟨?_, fun h => ⟨z, rfl, h⟩⟩
  rintro ⟨c, e, h⟩
  cases e
  exact h
def KInK (neg : Bool) (ks : List Str) (Q : D → Store → Prop) (d : D) (s : Store) : Prop := KStr (fun z => Q (.bl (neg ^^ ks.contains z)) s) d
def KGetK (kvs : List (Str × He.Dv)) (Q : D → Store → Prop) (d : D) (s : Store) : Prop := KStr (fun z => KO (fun i => Q i s) ((kvs.lookup z).bind dvD)) d
section
variable {neg : Bool} {ks : List Str} {kvs : List (Str × He.Dv)} {Q : D → Store → Prop} {X : Ex → Store → Prop} {d : D} {s st : Store} {m mo : M D} {env : Sl}
@[simp ↓] theorem kinK : KInK neg ks Q d s = KStr (fun z => Q (.bl (neg ^^ ks.contains z)) s) d := rfl
@[simp ↓] theorem kgetK : KGetK kvs Q d s = KStr (fun z => KO (fun i => Q i s) ((kvs.lookup z).bind dvD)) d := rfl
@[simp ↓] theorem wp_inK : Wp (mInK neg ks m env st) Q X = Wp (m env st) (KInK neg ks Q) X := by
  show Wp ((m env st).bind _) Q X = _
  rw [Wp_bind]
  congr 1
  funext d s
  refine propext ⟨fun h => ?_, fun ⟨z, e, h⟩ => ?_⟩
  · cases d with
    | str z => exact ⟨z, rfl, h⟩
    | _ => exact h.elim
  · subst e
    exact h
@[simp ↓] theorem wp_getK : Wp (mGetK kvs m env st) Q X = Wp (m env st) (KGetK kvs Q) X := by
  show Wp ((m env st).bind _) Q X = _
  rw [Wp_bind]
  congr 1
  funext d s
  refine propext ⟨fun h => ?_, fun ⟨z, e, h⟩ => ?_⟩
  · cases d with
    | str z =>
      refine ⟨z, rfl, ?_⟩
      show KO (fun i => Q i s) ((kvs.lookup z).bind dvD)
      cases e : (kvs.lookup z).bind dvD with
      | none => simp only [e] at h; exact h.elim
      | some i => simp only [e] at h; exact h
    | _ => exact h.elim
  · subst e
    have h : KO (fun i => Q i s) ((kvs.lookup z).bind dvD) := h
    cases e : (kvs.lookup z).bind dvD with
    | none => rw [e] at h; exact h.elim
    | some i => rw [e] at h; simp only [e]; exact h
def KInD2 (neg : Bool) (y : D) (Q : D → Store → Prop) (x : D) (s : Store) : Prop := KO (fun z => KO (fun k => Q (.bl (neg ^^ (lookD k z.1 z.2).isSome)) s) (keyD y)) (dctOf s x)
def KInD1 (neg : Bool) (mo : M D) (env : Sl) (Q : D → Store → Prop) (X : Ex → Store → Prop) (y : D) (s : Store) : Prop := Wp (mo env s) (KInD2 neg y Q) X
@[simp ↓] theorem kinD1 : KInD1 neg mo env Q X d s = Wp (mo env s) (KInD2 neg d Q) X := rfl
@[simp ↓] theorem kinD2 {y : D} : KInD2 neg y Q d s = KO (fun z => KO (fun k => Q (.bl (neg ^^ (lookD k z.1 z.2).isSome)) s) (keyD y)) (dctOf s d) := rfl
@[simp ↓] theorem wp_inD : Wp (mInD neg m mo env st) Q X = Wp (m env st) (KInD1 neg mo env Q X) X := by
  show Wp ((m env st).bind _) Q X = _
  rw [Wp_bind]
  congr 1
  funext y s
  rw [Wp_bind]
  show Wp _ _ _ = Wp _ _ _
  congr 1
  funext x s2
  unfold KInD2
  cases dctOf s2 x with
  | none => rfl
  | some z => cases keyD y <;> rfl
def KGetD2 (x : D) (Q : D → Store → Prop) (y : D) (s : Store) : Prop := KO (fun z => KO (fun k => KO (fun d => Q d s) (lookD k z.1 z.2)) (keyD y)) (dctOf s x)
def KGetD1 (mi : M D) (env : Sl) (Q : D → Store → Prop) (X : Ex → Store → Prop) (x : D) (s : Store) : Prop := Wp (mi env s) (KGetD2 x Q) X
@[simp ↓] theorem kgetD1 : KGetD1 m env Q X d s = Wp (m env s) (KGetD2 d Q) X := rfl
@[simp ↓] theorem kgetD2 {x : D} : KGetD2 x Q d s = KO (fun z => KO (fun k => KO (fun d => Q d s) (lookD k z.1 z.2)) (keyD d)) (dctOf s x) := rfl
@[simp ↓] theorem wp_getD : Wp (mGetD mo m env st) Q X = Wp (mo env st) (KGetD1 m env Q X) X := by
  show Wp ((mo env st).bind _) Q X = _
  rw [Wp_bind]
  congr 1
  funext x s
  rw [Wp_bind]
  show Wp _ _ _ = Wp _ _ _
  congr 1
  funext y s2
  unfold KGetD2
  cases dctOf s2 x with
  | none => rfl
  | some z =>
    obtain ⟨ks, vs⟩ := z
    cases keyD y with
    | none => rfl
    | some k =>
      simp only [KO_some]
      cases lookD k ks vs <;> rfl
@[simp] theorem keyD_str {x : Str} : keyD (.str x) = some (.inr x) := rfl
@[simp] theorem keyD_int {x : Int} : keyD (.int x) = some (.inl x) := rfl
@[simp] theorem dctOf_d {ks : List Key} {vs : List D} : dctOf st (.dct ks vs) = some (ks, vs) := rfl
@[simp] theorem dvD_int {i : Int} : dvD (.int i) = some (.int i) := rfl
@[simp] theorem dvD_bl {i : Bool} : dvD (.bl i) = some (.bl i) := rfl
@[simp] theorem dvD_str {i : Str} : dvD (.str i) = some (.str i) := rfl
theorem lookD_cons {k k' : Key} {ks : List Key} {d : D} {ds : List D} : lookD k (k' :: ks) (d :: ds) = if k' = k then some d else lookD k ks ds := rfl
@[simp] theorem lookD_nil {k : Key} : lookD k [] [] = none := rfl
@[simp] theorem lookD_s {x y : Str} {ks : List Key} {d : D} {ds : List D} : lookD (.inr x) (.inr y :: ks) (d :: ds) = if y = x then some d else lookD (.inr x) ks ds := by
  rw [lookD_cons]
  congr 1
  exact propext ⟨fun h => by injection h, fun h => by rw [h]⟩
end
/-! ### try -/
section
variable {hit : Str → Option Bool} {i : Nat} {mb ms : SM} {env : Sl} {st : Store} {Q : Fl → Store → Prop} {X : Ex → Store → Prop}
/-- behind the suite: no error is left in what goes on -/
def KOut (i : Nat) (s0 : Store) (Q : Fl → Store → Prop) (fl : Fl) (s : Store) : Prop := match fl with
  | .nx env => (slNoX (env.set i none) = true ∧ (s = s0 ∨ stNoX s = true)) ∧ Q (.nx (env.set i none)) s
  | .rt d => (d.noX = true ∧ (s = s0 ∨ stNoX s = true)) ∧ Q (.rt d) s
  | .bk env => (slNoX (env.set i none) = true ∧ (s = s0 ∨ stNoX s = true)) ∧ Q (.bk (env.set i none)) s
  | .ct env => (slNoX (env.set i none) = true ∧ (s = s0 ∨ stNoX s = true)) ∧ Q (.ct (env.set i none)) s
  | .xc _ _ => False
def KTry (hit : Str → Option Bool) (i : Nat) (ms : SM) (Q : Fl → Store → Prop) (fl : Fl) (s : Store) : Prop := match fl with
  | .xc e env1 => (hit e.c = some true ∧ Wp (ms (env1.set i (some (.exn e.c e.ns e.vs))) s) (KOut i s Q) NoX) ∨ (hit e.c = some false ∧ Q (.xc e env1) s)
  | fl => Q fl s
section
variable {e : Ex} {s s0 : Store} {d : D}
@[simp ↓] theorem ktry_nx : KTry hit i ms Q (.nx env) s = Q (.nx env) s := rfl
@[simp ↓] theorem ktry_rt : KTry hit i ms Q (.rt d) s = Q (.rt d) s := rfl
@[simp ↓] theorem ktry_bk : KTry hit i ms Q (.bk env) s = Q (.bk env) s := rfl
@[simp ↓] theorem ktry_ct : KTry hit i ms Q (.ct env) s = Q (.ct env) s := rfl
@[simp ↓] theorem ktry_xc : KTry hit i ms Q (.xc e env) s = ((hit e.c = some true ∧ Wp (ms (env.set i (some (.exn e.c e.ns e.vs))) s) (KOut i s Q) NoX) ∨ (hit e.c = some false ∧ Q (.xc e env) s)) := rfl
@[simp ↓] theorem kout_nx : KOut i s0 Q (.nx env) s = ((slNoX (env.set i none) = true ∧ (s = s0 ∨ stNoX s = true)) ∧ Q (.nx (env.set i none)) s) := rfl
@[simp ↓] theorem kout_rt : KOut i s0 Q (.rt d) s = ((d.noX = true ∧ (s = s0 ∨ stNoX s = true)) ∧ Q (.rt d) s) := rfl
end
open Classical in
@[simp ↓] theorem wp_try : Wp (sTry hit i mb ms env st) Q X = Wp (mb env st) (KTry hit i ms Q) X := by
  show Wp (match mb env st with
    | .ok (.xc e env1) s => (match hit e.c with
      | some true => outS i s (ms (env1.set i (some (.exn e.c e.ns e.vs))) s)
      | some false => .ok (.xc e env1) s
      | none => .bad)
    | r => r) Q X = _
  cases mb env st with
  | bad => rfl
  | exc e s => rfl
  | ok fl s =>
    cases fl with
    | xc e env1 =>
      show Wp (match hit e.c with
        | some true => outS i s (ms (env1.set i (some (.exn e.c e.ns e.vs))) s)
        | some false => .ok (.xc e env1) s
        | none => .bad) Q X = ((hit e.c = some true ∧ Wp (ms (env1.set i (some (.exn e.c e.ns e.vs))) s) (KOut i s Q) NoX) ∨ (hit e.c = some false ∧ Q (.xc e env1) s))
      cases hit e.c with
      | none => simp
      | some b =>
        cases b with
        | false => simp
        | true =>
          simp only [true_and, Option.some.injEq, Bool.true_eq_false, false_and, or_false]
          cases ms (env1.set i (some (.exn e.c e.ns e.vs))) s with
          | bad => rfl
          | exc e2 s2 => rfl
          | ok fl s2 =>
            cases fl with
            | xc e3 env3 => rfl
            | rt d => simp only [outS, Wp_ok, KOut]; rw [wp_szif]
            | nx env3 => simp only [outS, Wp_ok, KOut]; rw [wp_szif]
            | bk env3 => simp only [outS, Wp_ok, KOut]; rw [wp_szif]
            | ct env3 => simp only [outS, Wp_ok, KOut]; rw [wp_szif]
    | _ => rfl
end
/-- what is made -/
theorem mk_ok {c : Str} {fn : Fn} {ds : List D} {st : Store} {ns : List Str} {vs : List D} (h : D.noLocs ds = true) (e : Wp (fn (.loc 0 :: ds) [Cell.ins c [] []]) (fun d s => d = .non ∧ s = [Cell.ins c ns vs]) NoX) (hv : D.noLocs vs = true) : mkF c fn ds st = .ok (.obj c ns vs) st := by
  unfold mkF
  rw [if_pos h]
  refine Wp.eq ?_
  rw [wp_mk]
  refine ⟨h, e.go ?_⟩
  rintro _ _ ⟨rfl, rfl⟩
  simp [hv]
theorem mk_exc {c : Str} {fn : Fn} {ds : List D} {st : Store} {e : Ex} (h : D.noLocs ds = true) (q : Wp (fn (.loc 0 :: ds) [Cell.ins c [] []]) (fun _ _ => False) (fun x _ => x = e)) (hv : D.noLocs e.vs = true) : mkF c fn ds st = .exc e st := by
  unfold mkF
  rw [if_pos h]
  refine Wp.eqX ?_
  rw [wp_mk]
  refine ⟨h, q.use (fun _ _ z => z.elim) ?_⟩
  rintro _ _ rfl
  exact ⟨hv, rfl, rfl⟩
/-- .. where a cell goes in: what is raised -/
theorem mk_excG {c : Str} {fn : Fn} {ds : List D} {st : Store} {e : Ex} (h : D.noLocs ds = false) (q : Wp (fn (.loc st.length :: ds) (st ++ [Cell.ins c [] []])) (fun _ _ => False) (fun x s => x = e ∧ s = st ++ [Cell.ins c [] []])) : mkF c fn ds st = .exc e (st ++ [Cell.ins c [] []]) := by
  unfold mkF
  rw [if_neg (by rw [h]; exact Bool.false_ne_true)]
  unfold mkG
  have e2 := q.eqX
  rw [e2]
def KMkC (n : Nat) (Q : D → Store → Prop) (d : D) (s : Store) : Prop := d = .non ∧ Q (.loc n) s
@[simp ↓] theorem kmkC {n : Nat} {Q : D → Store → Prop} {s : Store} : KMkC n Q .non s = Q (.loc n) s := by simp [KMkC]
@[simp ↓] theorem wp_mkC {c : Str} {fn : Fn} {ds : List D} {st : Store} {Q : D → Store → Prop} {X : Ex → Store → Prop} : Wp (mkC c fn ds st) Q X = Wp (fn (.loc st.length :: ds) (st ++ [Cell.ins c [] []])) (KMkC st.length Q) X := by
  unfold mkC
  cases fn (.loc st.length :: ds) (st ++ [Cell.ins c [] []]) with
  | bad => rfl
  | exc e s => rfl
  | ok d s => cases d <;> simp [KMkC, Wp]
/-! ### own operators -/
section
variable {c : Str} {fn : Fn} {x y : D} {s st : Store} {ns ns2 : List Str} {vs vs2 : List D} {Q : D → Store → Prop} {X : Ex → Store → Prop} {neg : Bool}
def KBl (neg : Bool) (Q : D → Store → Prop) (d : D) (s : Store) : Prop := ∃ b, d = .bl b ∧ Q (.bl (neg ^^ b)) s
@[simp ↓] theorem kbl {b : Bool} : KBl neg Q (.bl b) s = Q (.bl (neg ^^ b)) s := by
  refine propext ⟨?_, fun h => ⟨b, rfl, h⟩⟩
  rintro ⟨a, e, h⟩
  cases e
  exact h
def KLen (Q : D → Store → Prop) (d : D) (s : Store) : Prop := ∃ n : Int, d = .int n ∧ (0 ≤ n ∧ n < 1000000000) ∧ Q (.int n) s
@[simp ↓] theorem klen {n : Int} : KLen Q (.int n) s = ((0 ≤ n ∧ n < 1000000000) ∧ Q (.int n) s) := by
  refine propext ⟨?_, fun h => ⟨n, rfl, h⟩⟩
  rintro ⟨a, e, h⟩
  cases e
  exact h
def KObj (Q : D → Store → Prop) (d : D) (s : Store) : Prop := match d with
  | .obj c ns vs => Q (.obj c ns vs) s
  | .loc n => Q (.loc n) s
  | _ => False
@[simp ↓] theorem kobj : KObj Q (.obj c ns vs) s = Q (.obj c ns vs) s := rfl
@[simp ↓] theorem kobjL {n : Nat} : KObj Q (.loc n) s = Q (.loc n) s := rfl
@[simp] theorem wp_dun : Wp (dun c fn (.obj c ns vs) y s) Q X = Wp (fn [.obj c ns vs, y] s) Q X := by simp [dun]
@[simp ↓] theorem wp_subO {mo mi : M D} {env : Sl} : Wp (mSubO c fn mo mi env st) Q X = Wp (mo env st) (KOp (dun c fn) mi env Q X) X := wp_op
@[simp] theorem wp_dun2 : Wp (dun2 c fn (.obj c ns vs) (.obj c ns2 vs2) s) Q X = Wp (fn [.obj c ns vs, .obj c ns2 vs2] s) (KObj Q) X := by
  unfold dun2
  simp only [ins_obj, and_self, if_true]
  rw [Wp_bind]
  congr 1
  funext z s2
  cases z <;> rfl
@[simp] theorem wp_inO : Wp (inO neg c fn y (.obj c ns vs) s) Q X = Wp (fn [.obj c ns vs, y] s) (KBl neg Q) NoX := by
  unfold inO
  simp only [ins_obj, if_true]
  cases fn [.obj c ns vs, y] s with
  | bad => rfl
  | exc e s2 => rfl
  | ok d s2 => cases d <;> simp [KBl, Wp]
@[simp] theorem wp_eqO : Wp (eqO c fn (.obj c ns vs) (.obj c ns2 vs2) s) Q X = Wp (fn [.obj c ns vs, .obj c ns2 vs2] s) (KBl false Q) NoX := by
  unfold eqO
  simp only [ins_obj, and_self, if_true]
  cases fn [.obj c ns vs, .obj c ns2 vs2] s with
  | bad => rfl
  | exc e s2 => rfl
  | ok d s2 => cases d <;> simp [KBl, Wp]
@[simp] theorem wp_lenO : Wp (fLenO c fn [.obj c ns vs] s) Q X = Wp (fn [.obj c ns vs] s) (KLen Q) NoX := by
  unfold fLenO
  simp only [ins_obj, if_true]
  cases fn [.obj c ns vs] s with
  | bad => rfl
  | exc e s2 => rfl
  | ok d s2 =>
    cases d with
    | int n =>
      by_cases h : 0 ≤ n ∧ n < 1000000000
      · simp [h, KLen, Wp]
      · simp [h, KLen, Wp]
    | _ => simp [KLen, Wp]
def isBlV (b : Bool) : D → Bool
  | .bl a => a == b
  | _ => false
@[simp] theorem oIsB {b : Bool} {d : D} : opIsB d (.bl b) st = .ok (.bl (isBlV b d)) st := by cases d <;> rfl
@[simp] theorem isBlV_bl {a b : Bool} : isBlV b (.bl a) = (a == b) := rfl
@[simp] theorem isBlV_non {b : Bool} : isBlV b .non = false := rfl
@[simp] theorem isBlV_int {b : Bool} {i : Int} : isBlV b (.int i) = false := rfl
@[simp] theorem isBlV_str {b : Bool} {x : Str} : isBlV b (.str x) = false := rfl
@[simp] theorem isBlV_tup {b : Bool} {xs : List D} : isBlV b (.tup xs) = false := rfl
@[simp] theorem isBlV_lst {b : Bool} {xs : List D} : isBlV b (.lst xs) = false := rfl
def KSlC3 (d : D) (l : Option Int) (Q : D → Store → Prop) (u : Option Int) (s : Store) : Prop := KO (fun xs => Q (.loc s.length) (s ++ [Cell.lst (cutD xs l u)])) (asL s d)
def KSlC2 (d : D) (hi : Option (M D)) (env : Sl) (Q : D → Store → Prop) (X : Ex → Store → Prop) (l : Option Int) (s : Store) : Prop := Wp (mPart hi env s) (KSlC3 d l Q) X
def KSlC1 (lo hi : Option (M D)) (env : Sl) (Q : D → Store → Prop) (X : Ex → Store → Prop) (d : D) (s : Store) : Prop := Wp (mPart lo env s) (KSlC2 d hi env Q X) X
section
variable {lo hi : Option (M D)} {env : Sl} {l u : Option Int} {d : D} {mo : M D}
@[simp ↓] theorem kslC1 : KSlC1 lo hi env Q X d s = Wp (mPart lo env s) (KSlC2 d hi env Q X) X := rfl
@[simp ↓] theorem kslC2 : KSlC2 d hi env Q X l s = Wp (mPart hi env s) (KSlC3 d l Q) X := rfl
@[simp ↓] theorem kslC3 : KSlC3 d l Q u s = KO (fun xs => Q (.loc s.length) (s ++ [Cell.lst (cutD xs l u)])) (asL s d) := rfl
@[simp ↓] theorem wp_slC : Wp (mSlC mo lo hi env st) Q X = Wp (mo env st) (KSlC1 lo hi env Q X) X := by
  show Wp ((mo env st).bind _) Q X = _
  rw [Wp_bind]
  congr 1
  funext d s
  rw [Wp_bind]
  show Wp _ _ _ = Wp _ _ _
  congr 1
  funext l s2
  rw [Wp_bind]
  show Wp _ _ _ = Wp _ _ _
  congr 1
  funext u s3
  unfold KSlC3
  cases asL s3 d <;> rfl
@[simp] theorem asL_lst {xs : List D} : asL st (.lst xs) = some xs := rfl
theorem asL_c {n : Nat} {xs : List D} (h : st[n]? = some (.lst xs)) : asL st (.loc n) = some xs := by simp [asL, h]
theorem asO_c {n : Nat} {xs : List D} (h : st[n]? = some (.lst xs)) : asO st (.loc n) = some xs := by simp [asO, asL, h]
/-- xs + ys, xs a cell -/
theorem wp_oAddCL {n : Nat} {xs ys : List D} (h : st[n]? = some (.lst xs)) : Wp (opAdd (.loc n) (.lst ys) st) Q X = (xs.length + ys.length ≤ sizeLine ∧ Q (.lst (xs ++ ys)) st) := by
  have e : opAdd (.loc n) (.lst ys) st = if xs.length + ys.length ≤ sizeLine then .ok (.lst (xs ++ ys)) st else .bad := by
    simp only [opAdd, catL, asO_c h]
    rfl
  rw [e]
  exact wp_szif
end
end
theorem listAt_c {st : Store} {n : Nat} {xs : List D} (h : st[n]? = some (.lst xs)) : listAt st (.loc n) = some (n, xs) := by simp [DL.listAt, h]
/-- a cell of one's own stays over draws -/
@[simp] theorem fListC_t {xs : List D} {st : Store} : fListC [.tup xs] st = .ok (.loc st.length) (st ++ [Cell.lst xs]) := rfl
@[simp] theorem fListC_l {xs : List D} {st : Store} : fListC [.lst xs] st = .ok (.loc st.length) (st ++ [Cell.lst xs]) := rfl
theorem Go.cell {n m : Nat} {st s : Store} {c : Cell} (g : Go n st s) (h : st[m]? = some c) (hm : 2 ≤ m) : s[m]? = some c := by
  rw [g.keep m hm (List.getElem?_eq_some_iff.mp h).1]
  exact h
theorem cell_lt {st : Store} {m : Nat} {c : Cell} (h : st[m]? = some c) : m < st.length := (List.getElem?_eq_some_iff.mp h).1
theorem cell_last {st : Store} {c : Cell} : (st ++ [c])[st.length]? = some c := List.getElem?_concat_length
theorem cell_set {st : Store} {m : Nat} {c c' : Cell} (h : st[m]? = some c) : (st.set m c')[m]? = some c' := List.getElem?_set_self (cell_lt h)
end DL

set_option maxHeartbeats 2000000
/-! DU: the words that occur. -/
namespace DL
open PySem PySem.Spec PyProof.Rows L2 DH
theorem ofS_inj {a b : String} : (Str.ofString a = Str.ofString b) = (a = b) := by
  refine propext ⟨fun h => ?_, fun h => by rw [h]⟩
  rw [Str.ofString_eq_toList, Str.ofString_eq_toList] at h
  have h2 : (a.toList.map Char.toNat) = (b.toList.map Char.toNat) := by
    have := congrArg (fun s => s.cps.toList) h
    simpa using this
  have h3 : a.toList = b.toList := by
    refine (List.map_inj_right ?_).mp h2
    intro x y e
    exact Char.toNat_inj.mp e
  exact String.toList_inj.mp h3
@[simp] theorem ofS_eq {a b : String} : (Str.ofString a = Str.ofString b) = (a = b) := ofS_inj
@[simp] theorem ofS_beq {a b : String} : (Str.ofString a == Str.ofString b) = (a == b) := by
  rw [Bool.eq_iff_iff, beq_iff_eq, beq_iff_eq, ofS_inj]

@[simp] theorem lookW {α : Type} {a b : String} {v : α} {es : List (Str × α)} : List.lookup (Str.ofString a) ((Str.ofString b, v) :: es) = if a = b then some v else es.lookup (Str.ofString a) := by
  rw [List.lookup_cons, ofS_beq]
  by_cases h : a = b
  · subst h
    simp
  · have e : (a == b) = false := beq_false_of_ne h
    rw [e, if_neg h]
@[simp] theorem lay_w0 : PyData.canLay0 (.str (Str.ofString "begin")) = true := by decide +kernel
@[simp] theorem lay_w1 : PyData.canLay0 (.str (Str.ofString "lay")) = true := by decide +kernel
@[simp] theorem lay_w2 : PyData.canLay0 (.str (Str.ofString "join")) = true := by decide +kernel
@[simp] theorem lay_w3 : PyData.canLay0 (.str (Str.ofString "throw")) = true := by decide +kernel
@[simp] theorem lay_w4 : PyData.canLay0 (.str (Str.ofString "look")) = true := by decide +kernel
@[simp] theorem lay_w5 : PyData.canLay0 (.str (Str.ofString "find")) = true := by decide +kernel
@[simp] theorem lay_w6 : PyData.canLay0 (.str (Str.ofString "go")) = true := by decide +kernel
@[simp] theorem lay_w7 : PyData.canLay0 (.str (Str.ofString "any")) = true := by decide +kernel
@[simp] theorem lay_w8 : PyData.canLay0 (.str (Str.ofString "none")) = true := by decide +kernel
@[simp] theorem lay_w9 : PyData.canLay0 (.str (Str.ofString "same")) = true := by decide +kernel
@[simp] theorem lay_w10 : PyData.canLay0 (.str (Str.ofString "ok")) = true := by decide +kernel
@[simp] theorem lay_w11 : PyData.canLay0 (.str (Str.ofString "no")) = true := by decide +kernel
@[simp] theorem lay_w12 : PyData.canLay0 (.str (Str.ofString "lost")) = true := by decide +kernel
@[simp] theorem lay_w13 : PyData.canLay0 (.str (Str.ofString "part")) = true := by decide +kernel
@[simp] theorem lay_w14 : PyData.canLay0 (.str (Str.ofString "piece")) = true := by decide +kernel
@[simp] theorem lay_w15 : PyData.canLay0 (.str (Str.ofString "edition")) = true := by decide +kernel
@[simp] theorem lay_w16 : PyData.canLay0 (.str (Str.ofString "checked")) = true := by decide +kernel
@[simp] theorem lay_w17 : PyData.canLay0 (.str (Str.ofString "when")) = true := by decide +kernel
@[simp] theorem lay_w18 : PyData.canLay0 (.str (Str.ofString "line")) = true := by decide +kernel
@[simp] theorem lay_w19 : PyData.canLay0 (.str (Str.ofString "outcomes")) = true := by decide +kernel
@[simp] theorem lay_w20 : PyData.canLay0 (.str (Str.ofString "step")) = true := by decide +kernel
@[simp] theorem lay_w21 : PyData.canLay0 (.str (Str.ofString "items")) = true := by decide +kernel
@[simp] theorem lay_w22 : PyData.canLay0 (.str (Str.ofString "unasked")) = true := by decide +kernel
@[simp] theorem lay_w23 : PyData.canLay0 (.str (Str.ofString "unheard")) = true := by decide +kernel
@[simp] theorem lay_w24 : PyData.canLay0 (.str (Str.ofString "late")) = true := by decide +kernel
@[simp] theorem lay_w25 : PyData.canLay0 (.str (Str.ofString "double")) = true := by decide +kernel
@[simp] theorem lay_w26 : PyData.canLay0 (.str (Str.ofString "land")) = true := by decide +kernel
@[simp] theorem lay_w27 : PyData.canLay0 (.str (Str.ofString "fall")) = true := by decide +kernel
@[simp] theorem lay_w28 : PyData.canLay0 (.str (Str.ofString "done")) = true := by decide +kernel
@[simp] theorem lay_w29 : PyData.canLay0 (.str (Str.ofString "a program is not walked over")) = true := by decide +kernel
@[simp] theorem lay_w30 : PyData.canLay0 (.str (Str.ofString "program of ")) = true := by decide +kernel
@[simp] theorem lay_w31 : PyData.canLay0 (.str (Str.ofString " steps")) = true := by decide +kernel
@[simp] theorem lay_w32 : PyData.canLay0 (.str (Str.ofString "lost ")) = true := by decide +kernel
@[simp] theorem lay_w33 : PyData.canLay0 (.str (Str.ofString ", late ")) = true := by decide +kernel
@[simp] theorem lay_w34 : PyData.canLay0 (.str (Str.ofString ", falls ")) = true := by decide +kernel
@[simp] theorem lay_w35 : PyData.canLay0 (.str (Str.ofString ", sweeps ")) = true := by decide +kernel
@[simp] theorem lay_w36 : PyData.canLay0 (.str (Str.ofString "fresh numbers")) = true := by decide +kernel
@[simp] theorem lay_w37 : PyData.canLay0 (.str (Str.ofString "numbers given again")) = true := by decide +kernel
@[simp] theorem lay_w38 : PyData.canLay0 (.str (Str.ofString " hands, ")) = true := by decide +kernel
@[simp] theorem lay_w39 : PyData.canLay0 (.str (Str.ofString " wishes, ")) = true := by decide +kernel
@[simp] theorem lay_w40 : PyData.canLay0 (.str (Str.ofString "told")) = true := by decide +kernel
@[simp] theorem lay_w41 : PyData.canLay0 (.str (Str.ofString "steps")) = true := by decide +kernel
@[simp] theorem lay_w42 : PyData.canLay0 (.str (Str.ofString "programs")) = true := by decide +kernel
@[simp] theorem lay_w43 : PyData.canLay0 (.str (Str.ofString "faults")) = true := by decide +kernel
@[simp] theorem lay_w44 : PyData.canLay0 (.str (Str.ofString "wishes")) = true := by decide +kernel
@[simp] theorem lay_w45 : PyData.canLay0 (.str (Str.ofString "fresh")) = true := by decide +kernel
@[simp] theorem lay_w46 : PyData.canLay0 (.str (Str.ofString "sweep")) = true := by decide +kernel
@[simp] theorem lay_w47 : PyData.canLay0 (.str (Str.ofString "0")) = true := by decide +kernel
@[simp] theorem lay_w48 : PyData.canLay0 (.str (Str.ofString "many")) = true := by decide +kernel
@[simp] theorem lay_w49 : PyData.canLay0 (.str (Str.ofString "hand")) = true := by decide +kernel
@[simp] theorem lay_w50 : PyData.canLay0 (.str (Str.ofString "0123456789")) = true := by decide +kernel
@[simp] theorem lay_w51 : PyData.canLay0 (.str (Str.ofString "again")) = true := by decide +kernel
@[simp] theorem lay_w52 : PyData.canLay0 (.str (Str.ofString "unchecked")) = true := by decide +kernel
@[simp] theorem lay_w53 : PyData.canLay0 (.str (Str.ofString "")) = true := by decide +kernel
@[simp] theorem lay_w54 : PyData.canLay0 (.str (Str.ofString "numbers fresh")) = true := by decide +kernel
@[simp] theorem lay_w55 : PyData.canLay0 (.str (Str.ofString "numbers again")) = true := by decide +kernel
@[simp] theorem lay_w56 : PyData.canLay0 (.str (Str.ofString "faults ")) = true := by decide +kernel
@[simp] theorem lay_w57 : PyData.canLay0 (.str (Str.ofString " ")) = true := by decide +kernel
@[simp] theorem lay_w58 : PyData.canLay0 (.str (Str.ofString "wish")) = true := by decide +kernel
@[simp] theorem lay_w59 : PyData.canLay0 (.str (Str.ofString "numbers")) = true := by decide +kernel
@[simp] theorem lay_w60 : PyData.canLay0 (.str (Str.ofString "  ")) = true := by decide +kernel
@[simp] theorem lay_w61 : PyData.canLay0 (.str (Str.ofString "   ")) = true := by decide +kernel
@[simp] theorem lay_w62 : PyData.canLay0 (.str (Str.ofString "#")) = true := by decide +kernel
@[simp] theorem lay_w63 : PyData.canLay0 (.str (Str.ofString " # x")) = true := by decide +kernel
@[simp] theorem lay_w64 : PyData.canLay0 (.str (Str.ofString "# 4 any")) = true := by decide +kernel
@[simp] theorem lay_w65 : PyData.canLay0 (.str (Str.ofString "##")) = true := by decide +kernel
@[simp] theorem lay_w66 : PyData.canLay0 (.str (Str.ofString "whole")) = true := by decide +kernel
@[simp] theorem lay_w67 : PyData.canLay0 (.str (Str.ofString "clean")) = true := by decide +kernel
@[simp] theorem lay_w68 : PyData.canLay0 (.str (Str.ofString "laid")) = true := by decide +kernel
@[simp] theorem lay_w69 : PyData.canLay0 (.str (Str.ofString "set_step")) = true := by decide +kernel
@[simp] theorem lay_w70 : PyData.canLay0 (.str (Str.ofString "set_program")) = true := by decide +kernel
@[simp] theorem lay_w71 : PyData.canLay0 (.str (Str.ofString "set_faults")) = true := by decide +kernel
@[simp] theorem lay_w72 : PyData.canLay0 (.str (Str.ofString "set_wishes")) = true := by decide +kernel
@[simp] theorem lay_w73 : PyData.canLay0 (.str (Str.ofString "set")) = true := by decide +kernel
@[simp] theorem lay_w74 : PyData.canLay0 (.str (Str.ofString "a bench is not walked over")) = true := by decide +kernel
@[simp] theorem lay_w75 : PyData.canLay0 (.str (Str.ofString "undo")) = true := by decide +kernel
@[simp] theorem lay_w76 : PyData.canLay0 (.str (Str.ofString "run")) = true := by decide +kernel
@[simp] theorem lay_w77 : PyData.canLay0 (.str (Str.ofString "bench at version ")) = true := by decide +kernel
@[simp] theorem lay_w78 : PyData.canLay0 (.str (Str.ofString "BadProgram")) = true := by decide +kernel
@[simp] theorem lay_w79 : PyData.canLay0 (.str (Str.ofString "TooMany")) = true := by decide +kernel
@[simp] theorem lay_w80 : PyData.canLay0 (.str (Str.ofString "Breach")) = true := by decide +kernel
@[simp] theorem lay_w81 : PyData.canLay0 (.str (Str.ofString "BadGuards")) = true := by decide +kernel
@[simp] theorem lay_w82 : PyData.canLay0 (.str (Str.ofString "Full")) = true := by decide +kernel
@[simp] theorem lay_w83 : PyData.canLay0 (.str (Str.ofString "other")) = true := by decide +kernel
@[simp] theorem lay_w84 : PyData.canLay0 (.str (Str.ofString "NoHand")) = true := by decide +kernel
@[simp] theorem lay_w85 : PyData.canLay0 (.str (Str.ofString "NoLine")) = true := by decide +kernel
@[simp] theorem lay_w86 : PyData.canLay0 (.str (Str.ofString "BadEdit")) = true := by decide +kernel
@[simp] theorem lay_w87 : PyData.canLay0 (.str (Str.ofString "BadCase")) = true := by decide +kernel
@[simp] theorem lay_w88 : PyData.canLay0 (.str (Str.ofString "Rejected")) = true := by decide +kernel
@[simp] theorem lay_w89 : PyData.canLay0 (.str (Str.ofString "BadEdits")) = true := by decide +kernel
@[simp] theorem lay_w90 : PyData.canLay0 (.str (Str.ofString "program")) = true := by decide +kernel
@[simp] theorem lay_w91 : PyData.canLay0 (.str (Str.ofString "NothingToUndo")) = true := by decide +kernel
@[simp] theorem lay_w92 : PyData.canLay0 (.str (Str.ofString "Set_wishes")) = true := by decide +kernel
@[simp] theorem lay_w93 : PyData.canLay0 (.str (Str.ofString "kept")) = true := by decide +kernel
@[simp] theorem lay_w94 : PyData.canLay0 (.str (Str.ofString "1")) = true := by decide +kernel
@[simp] theorem lay_w95 : PyData.canLay0 (.str (Str.ofString "Look")) = true := by decide +kernel
@[simp] theorem lay_w96 : PyData.canLay0 (.str (Str.ofString "maybe")) = true := by decide +kernel
@[simp] theorem lay_w97 : PyData.canLay0 (.str (Str.ofString "all")) = true := by decide +kernel
@[simp] theorem lay_w98 : PyData.canLay0 (.str (Str.ofString "set_guards")) = true := by decide +kernel
@[simp] theorem lay_w99 : PyData.canLay0 (.str (Str.ofString "twin")) = true := by decide +kernel
@[simp] theorem lay_w100 : PyData.canLay0 (.str (Str.ofString "what")) = true := by decide +kernel
@[simp] theorem lay_w101 : PyData.canLay0 (.str (Str.ofString "-")) = true := by decide +kernel
@[simp] theorem lay_w102 : PyData.canLay0 (.str (Str.ofString "BadFaults")) = true := by decide +kernel
@[simp] theorem lay_w103 : PyData.canLay0 (.str (Str.ofString "ok ")) = true := by decide +kernel
@[simp] theorem lay_w104 : PyData.canLay0 (.str (Str.ofString "ends")) = true := by decide +kernel
@[simp] theorem lay_w105 : PyData.canLay0 (.str (Str.ofString ", ")) = true := by decide +kernel
@[simp] theorem lay_w106 : PyData.canLay0 (.str (Str.ofString "breach")) = true := by decide +kernel
@[simp] theorem lay_w107 : PyData.canLay0 (.str (Str.ofString "; ")) = true := by decide +kernel
@[simp] theorem lay_w108 : PyData.canLay0 (.str (Str.ofString "no ")) = true := by decide +kernel
@[simp] theorem lay_w109 : PyData.canLay0 (.str (Str.ofString "2")) = true := by decide +kernel
@[simp] theorem lay_w110 : PyData.canLay0 (.str (Str.ofString "3")) = true := by decide +kernel
@[simp] theorem lay_w111 : PyData.canLay0 (.str (Str.ofString "4")) = true := by decide +kernel
@[simp] theorem lay_w112 : PyData.canLay0 (.str (Str.ofString "9")) = true := by decide +kernel
@[simp] theorem lay_w113 : PyData.canLay0 (.str (Str.ofString "10")) = true := by decide +kernel
@[simp] theorem lay_w114 : PyData.canLay0 (.str (Str.ofString "13")) = true := by decide +kernel
@[simp] theorem lay_w115 : PyData.canLay0 (.str (Str.ofString "03")) = true := by decide +kernel
@[simp] theorem lay_w116 : PyData.canLay0 (.str (Str.ofString "100")) = true := by decide +kernel
@[simp] theorem lay_w117 : PyData.canLay0 (.str (Str.ofString "-1")) = true := by decide +kernel
@[simp] theorem lay_w118 : PyData.canLay0 (.str (Str.ofString "+1")) = true := by decide +kernel
@[simp] theorem lay_w119 : PyData.canLay0 (.str (Str.ofString "x")) = true := by decide +kernel
@[simp] theorem lay_w120 : PyData.canLay0 (.str (Str.ofString "no BadFaults")) = true := by decide +kernel
@[simp] theorem lay_w121 : PyData.canLay0 (.str (Str.ofString "no TooMany")) = true := by decide +kernel
@[simp] theorem lay_w122 : PyData.canLay0 (.str (Str.ofString "1.0")) = true := by decide +kernel
@[simp] theorem lay_w123 : PyData.canLay0 (.str (Str.ofString "Begin")) = true := by decide +kernel
@[simp] theorem lay_w124 : PyData.canLay0 (.str (Str.ofString "4,")) = true := by decide +kernel
@[simp] theorem lay_w125 : PyData.canLay0 (.str (Str.ofString "no NoHand")) = true := by decide +kernel
@[simp] theorem lay_w126 : PyData.canLay0 (.str (Str.ofString "no NoLine")) = true := by decide +kernel
@[simp] theorem lay_w127 : PyData.canLay0 (.str (Str.ofString "no BadProgram")) = true := by decide +kernel
@[simp] theorem lay_w128 : PyData.canLay0 (.str (Str.ofString "7")) = true := by decide +kernel
@[simp] theorem lay_w129 : PyData.canLay0 (.str (Str.ofString "99")) = true := by decide +kernel
@[simp] theorem lay_w130 : PyData.canLay0 (.str (Str.ofString "no NothingToUndo")) = true := by decide +kernel
@[simp] theorem lay_w131 : PyData.canLay0 (.str (Str.ofString "always")) = true := by decide +kernel
@[simp] theorem lay_w132 : PyData.canLay0 (.str (Str.ofString "list")) = true := by decide +kernel
@[simp] theorem lay_w133 : PyData.canLay0 (.str (Str.ofString "kept #")) = true := by decide +kernel
@[simp] theorem lay_w134 : PyData.canLay0 (.str (Str.ofString "Kept")) = true := by decide +kernel
@[simp] theorem lay_w135 : PyData.canLay0 (.str (Str.ofString "breach all")) = true := by decide +kernel
@[simp] theorem lay_w136 : PyData.canLay0 (.str (Str.ofString "many many")) = true := by decide +kernel
@[simp] theorem lay_w137 : PyData.canLay0 (.str (Str.ofString "faults 0 0 0")) = true := by decide +kernel
@[simp] theorem lay_w138 : PyData.canLay0 (.str (Str.ofString "step 0 0")) = true := by decide +kernel
@[simp] theorem lay_w139 : PyData.canLay0 (.str (Str.ofString "program 00")) = true := by decide +kernel
@[simp] theorem lay_w140 : PyData.canLay0 (.str (Str.ofString ",")) = true := by decide +kernel
@[simp] theorem lay_w141 : PyData.canLay0 (.str (Str.ofString "BadText")) = true := by decide +kernel
@[simp] theorem lay_w142 : PyData.canLay0 (.str (Str.ofString "NoBack")) = true := by decide +kernel
@[simp] theorem lay_w143 : PyData.canLay0 (.str (Str.ofString "NoEvent")) = true := by decide +kernel
@[simp] theorem lay_w144 : PyData.canLay0 (.str (Str.ofString "step 0 0 look")) = true := by decide +kernel
@[simp] theorem lay_w145 : PyData.canLay0 (.str (Str.ofString "step 9 9 look")) = true := by decide +kernel
@[simp] theorem lay_w146 : PyData.canLay0 (.str (Str.ofString "faults 0 0 0 0")) = true := by decide +kernel
@[simp] theorem lay_w147 : PyData.canLay0 (.str (Str.ofString "faults 9 0 0 0")) = true := by decide +kernel
@[simp] theorem lay_w148 : PyData.canLay0 (.str (Str.ofString "no Breach")) = true := by decide +kernel
@[simp] theorem lay_w149 : PyData.canLay0 (.str (Str.ofString "ok 29")) = true := by decide +kernel
@[simp] theorem lay_w150 : PyData.canLay0 (.str (Str.ofString "ok 28")) = true := by decide +kernel
@[simp] theorem lay_w151 : PyData.canLay0 (.str (Str.ofString "no Full")) = true := by decide +kernel
@[simp] theorem lay_w152 : PyData.canLay0 (.str (Str.ofString "# begin")) = true := by decide +kernel
end DL

set_option maxHeartbeats 2000000
/-! DT: values, steps, as types. -/
namespace DL
open PySem PySem.Spec PyProof.Rows L2 DH
/-! values: no objects, no cells -/
mutual
def okD : D → Bool
  | .str x => SeqAt.shaped (.str x)
  | .tup xs => okDs xs
  | .lst xs => okDs xs
  | .dct _ vs => okDs vs
  | .non => true
  | .bl _ => true
  | .int _ => true
  | .obj _ _ _ => false
  | .fro _ => false
  | .loc _ => false
  | .exn _ _ _ => false
def okDs : List D → Bool
  | [] => true
  | d :: ds => okD d && okDs ds
end
def rvB (k W : Nat) (d : D) : Bool := match d.pyd with
  | some p => p.showable && (decide (p.depth ≤ k) && (p.leavesShort 45 && (decide (p.weight ≤ W) && sOk p)))
  | none => false
theorem rv_of {k W : Nat} {d : D} (h : rvB k W d = true) : RV k W d := by
  unfold rvB at h
  cases e : d.pyd with
  | none => rw [e] at h; cases h
  | some p =>
    rw [e] at h
    simp only [Bool.and_eq_true, decide_eq_true_eq] at h
    exact ⟨p, e, h.1, h.2.1, h.2.2.1, h.2.2.2.1, h.2.2.2.2⟩
/-- an item of a value -/
def It (d : D) : Prop := okD d = true ∧ RV 4 423 d
theorem It.int {i : Int} (h : i.natAbs < 10 ^ 40) : It (.int i) := ⟨rfl, (RV.int h).le (by omega) (by omega)⟩
/-- a value of the law -/
structure Vv (d : D) : Prop where
  ok : okD d = true
  rv : RV 5 5088 d
  tup : ∀ ds, d = .tup ds → ds.length ≤ 12 ∧ ∀ x ∈ ds, It x
theorem okDs_all : ∀ {ds : List D}, (∀ x ∈ ds, okD x = true) → okDs ds = true
  | [], _ => rfl
  | d :: ds, h => by
    unfold okDs
    rw [h d (by simp), okDs_all fun x hx => h x (by simp [hx])]
    rfl
theorem Vv.of_tup {ds : List D} (hl : ds.length ≤ 12) (h : ∀ x ∈ ds, It x) : Vv (.tup ds) := by
  refine ⟨by unfold okD; exact okDs_all fun x hx => (h x hx).1, ?_, fun es e => by cases e; exact ⟨hl, h⟩⟩
  refine (RV.tup (RVs.of (W := 423) fun x hx => (h x hx).2)).le (by omega) ?_
  calc 424 * ds.length ≤ 424 * 12 := Nat.mul_le_mul_left _ hl
    _ ≤ 5088 := by omega
theorem Vv.of_lst {ds : List D} (hl : ds.length ≤ 12) (h : ∀ x ∈ ds, It x) : Vv (.lst ds) := by
  refine ⟨by unfold okD; exact okDs_all fun x hx => (h x hx).1, ?_, fun es e => by cases e⟩
  refine (RV.lst (RVs.of (W := 423) fun x hx => (h x hx).2)).le (by omega) ?_
  calc 424 * ds.length ≤ 424 * 12 := Nat.mul_le_mul_left _ hl
    _ ≤ 5088 := by omega
def itB (d : D) : Bool := okD d && rvB 4 423 d
theorem it_of {d : D} (h : itB d = true) : It d := by
  obtain ⟨h1, h2⟩ := Bool.and_eq_true_iff.mp h
  exact ⟨h1, rv_of h2⟩
def vvB (d : D) : Bool := itB d && (match d with
  | .tup ds => decide (ds.length ≤ 12) && ds.all itB
  | _ => true)
theorem cut_mem {xs : List D} {lo hi : Option Int} {x : D} (h : x ∈ DL.cutD xs lo hi) : x ∈ xs := List.mem_of_mem_drop (List.mem_of_mem_take h)
theorem cut_len {xs : List D} {lo hi : Option Int} : (DL.cutD xs lo hi).length ≤ xs.length := by
  unfold DL.cutD
  rw [List.length_take, List.length_drop]
  omega
mutual
theorem ok_noLoc : ∀ d : D, okD d = true → d.noLoc = true
  | .non, _ => rfl
  | .bl _, _ => rfl
  | .int _, _ => rfl
  | .str _, _ => rfl
  | .tup xs, h => oks_noLoc xs h
  | .lst xs, h => oks_noLoc xs h
  | .dct _ vs, h => oks_noLoc vs h
  | .fro _, h => by cases h
  | .obj _ _ _, h => by cases h
  | .loc _, h => by cases h
  | .exn _ _ _, h => by cases h
theorem oks_noLoc : ∀ ds : List D, okDs ds = true → D.noLocs ds = true
  | [], _ => rfl
  | d :: ds, h => by
    unfold okDs at h
    obtain ⟨h1, h2⟩ := Bool.and_eq_true_iff.mp h
    exact Bool.and_eq_true_iff.mpr ⟨ok_noLoc d h1, oks_noLoc ds h2⟩
end
theorem oks_mem : ∀ {ds : List D}, okDs ds = true → ∀ d ∈ ds, okD d = true
  | [], _, d, h => by cases h
  | x :: xs, h, d, hd => by
    unfold okDs at h
    obtain ⟨h1, h2⟩ := Bool.and_eq_true_iff.mp h
    rcases List.mem_cons.mp hd with e | hd
    · exact e ▸ h1
    · exact oks_mem h2 d hd
/-- a tuple of at most n items; else no tuple -/
structure Vn (n : Nat) (d : D) : Prop where
  v : Vv d
  few : ∀ ds, d = .tup ds → ds.length ≤ n
theorem cut_two {xs : List D} {b : Int} (h0 : 0 ≤ b) (h1 : b < (xs.length : Int) + 1) : (DL.cutD xs none (some b)).length + (DL.cutD xs (some (b + 1)) none).length ≤ xs.length := by
  unfold DL.cutD
  rw [List.length_take, List.length_drop, List.length_take, List.length_drop]
  show min ((if b < 0 then (b + (xs.length : Int)).toNat else min b.toNat xs.length) - 0) (xs.length - 0) + min (xs.length - (if b + 1 < 0 then (b + 1 + (xs.length : Int)).toNat else min (b + 1).toNat xs.length)) (xs.length - (if b + 1 < 0 then (b + 1 + (xs.length : Int)).toNat else min (b + 1).toNat xs.length)) ≤ xs.length
  rw [if_neg (by omega), if_neg (by omega)]
  omega
/-! alike, kinds and all -/
mutual
def idB : D → D → Bool
  | .non, .non => true
  | .bl a, .bl b => a == b
  | .int i, .int j => decide (i = j)
  | .str x, .str y => decide (x = y)
  | .lst xs, .lst ys => idBs xs ys
  | .tup xs, .tup ys => idBs xs ys
  | _, _ => false
def idBs : List D → List D → Bool
  | [], [] => true
  | x :: xs, y :: ys => idB x y && idBs xs ys
  | _, _ => false
end
mutual
theorem idB_eq : ∀ {x y : D}, idB x y = true → x = y
  | .non, y, h => by cases y <;> first | rfl | cases h
  | .bl a, y, h => by cases y <;> first | (cases h; done) | (simp [idB] at h; rw [h])
  | .int a, y, h => by cases y <;> first | (cases h; done) | (simp [idB] at h; rw [h])
  | .str a, y, h => by cases y <;> first | (cases h; done) | (simp [idB] at h; rw [h])
  | .lst a, y, h => by cases y <;> first | (cases h; done) | (unfold idB at h; rw [idBs_eq h])
  | .tup a, y, h => by cases y <;> first | (cases h; done) | (unfold idB at h; rw [idBs_eq h])
  | .fro _, y, h => by cases y <;> cases h
  | .dct _ _, y, h => by cases y <;> cases h
  | .obj _ _ _, y, h => by cases y <;> cases h
  | .loc _, y, h => by cases y <;> cases h
  | .exn _ _ _, y, h => by cases y <;> cases h
theorem idBs_eq : ∀ {xs ys : List D}, idBs xs ys = true → xs = ys
  | [], [], _ => rfl
  | [], _ :: _, h => by cases h
  | _ :: _, [], h => by cases h
  | x :: xs, y :: ys, h => by
    unfold idBs at h
    rw [Bool.and_eq_true] at h
    rw [idB_eq h.1, idBs_eq h.2]
end
mutual
theorem idB_refl : ∀ (k : Nat) (d : D), shB k d = true → idB d d = true
  | _, .non, _ => rfl
  | _, .bl _, _ => by simp [idB]
  | _, .int _, _ => by simp [idB]
  | _, .str _, _ => by simp [idB]
  | 0, .tup _, h => by cases h
  | k + 1, .tup xs, h => by unfold idB; exact idBs_refl k xs (sh_items (.inl h)).2
  | 0, .lst _, h => by cases h
  | k + 1, .lst xs, h => by unfold idB; exact idBs_refl k xs (sh_items (.inr h)).2
  | k, .fro _, h => by cases k <;> cases h
  | k, .dct _ _, h => by cases k <;> cases h
  | k, .obj _ _ _, h => by cases k <;> cases h
  | k, .loc _, h => by cases k <;> cases h
  | k, .exn _ _ _, h => by cases k <;> cases h
theorem idBs_refl : ∀ (k : Nat) (ds : List D), ds.all (shB k) = true → idBs ds ds = true
  | _, [], _ => rfl
  | k, d :: ds, h => by
    rw [List.all_cons, Bool.and_eq_true] at h
    unfold idBs
    rw [idB_refl k d h.1, idBs_refl k ds h.2]
    rfl
end
theorem idB_iff {k : Nat} {x y : D} (h : shB k y = true) : idB x y = true ↔ x = y := ⟨idB_eq, fun e => by rw [e]; exact idB_refl k y h⟩
theorem idB_len {xs ys : List D} (h : xs.length ≠ ys.length) : idBs xs ys = false := by
  cases q : idBs xs ys with
  | false => rfl
  | true => exact absurd (congrArg List.length (idBs_eq q)) h
def idP : D → Bool
  | .tup [x, y] => idB x y
  | _ => false
theorem idB_pairs : ∀ (xs ys : List D), xs.length = ys.length → (pairsD xs ys).all idP = idBs xs ys
  | [], [], _ => rfl
  | x :: xs, y :: ys, h => by
    have ih := idB_pairs xs ys (by simpa using h)
    simp only [pairsD, List.all_cons, ih, idP]
    conv => rhs; unfold idBs
  | [], _ :: _, h => by cases h
  | _ :: _, [], h => by cases h
/-! editions, steps -/
def IsEd (ps : List Int) : Prop := 1 ≤ ps.length ∧ ps.length ≤ 3 ∧ ∀ p ∈ ps, 0 ≤ p ∧ p ≤ 9
def edD (ps : List Int) : D := .tup (ps.map .int)
inductive Stp where
  | begin | throw | look | find
  | lay (a b : Int)
  | join (e : List Int) (c : Bool) (w : Str)
  | go (l : Int) (o : List Str)
def strsD (ws : List Str) : D := .tup (ws.map .str)
def Stp.d : Stp → D
  | .begin => .tup [.str "begin"]
  | .throw => .tup [.str "throw"]
  | .look => .tup [.str "look"]
  | .find => .tup [.str "find"]
  | .lay a b => .tup [.str "lay", .int a, .int b]
  | .join e c w => .tup [.str "join", edD e, .bl c, .str w]
  | .go l o => .tup [.str "go", .int l, strsD o]
def rows7 : List (List Str) := [["ok"], ["no"], ["lost"], ["ok", "no"], ["ok", "lost"], ["no", "lost"], ["ok", "no", "lost"]]
def whens : List Str := ["any", "none", "same"]
def OUT : List Str := ["ok", "no", "lost"]
def Stp.ok (lines : Int) : Stp → Prop
  | .lay a b => (1 ≤ a ∧ a ≤ 3) ∧ (0 ≤ b ∧ b ≤ 9)
  | .join e _ w => IsEd e ∧ w ∈ whens
  | .go l o => (0 ≤ l ∧ l ≤ lines) ∧ o ∈ rows7
  | _ => True
theorem RV.str {x : Str} (h : (PyData.str x).showable = true ∧ (PyData.str x).leavesShort 45 = true ∧ (PyData.str x).weight ≤ 140 ∧ sOk (.str x) = true := by decide +kernel) : RV 0 140 (.str x) := ⟨.str x, rfl, h.1, by simp [PyData.depth], h.2.1, h.2.2.1, h.2.2.2⟩
theorem RV.bl {b : Bool} : RV 0 140 (.bl b) := by cases b <;> exact rv_of (by decide +kernel)
theorem RV.non : RV 0 140 .non := rv_of (by decide +kernel)
theorem IsEd.rv {ps : List Int} (h : IsEd ps) : RV 1 423 (edD ps) := by
  refine (RV.tup (RVs.of (W := 140) fun d hd => ?_)).le (Nat.le_refl _) (by rw [List.length_map]; have := h.2.1; omega)
  obtain ⟨p, hp, rfl⟩ := List.mem_map.mp hd
  have := h.2.2 p hp
  exact RV.int (by omega)
theorem IsEd.sh {ps : List Int} (h : IsEd ps) : shB 1 (edD ps) = true := by
  show (decide ((ps.map D.int).length ≤ 1000000) && (ps.map D.int).all (shB 0)) = true
  rw [Bool.and_eq_true, List.all_eq_true]
  refine ⟨by rw [List.length_map]; have := h.2.1; simp; omega, ?_⟩
  intro d hd
  obtain ⟨p, hp, rfl⟩ := List.mem_map.mp hd
  rfl
mutual
theorem sh_ok : ∀ (k : Nat) (d : D), shB k d = true → okD d = true
  | _, .non, _ => rfl
  | _, .bl _, _ => rfl
  | _, .int _, _ => rfl
  | k, .str x, h => by
    rw [sh_str] at h
    show SeqAt.shaped (.str x) = true
    unfold SeqAt.shaped
    rw [h]
    simp [PyData.depth]
  | 0, .tup _, h => by cases h
  | k + 1, .tup xs, h => by unfold okD; exact shs_ok k xs (sh_items (.inl h)).2
  | 0, .lst _, h => by cases h
  | k + 1, .lst xs, h => by unfold okD; exact shs_ok k xs (sh_items (.inr h)).2
  | k, .fro _, h => by cases k <;> cases h
  | k, .dct _ _, h => by cases k <;> cases h
  | k, .obj _ _ _, h => by cases k <;> cases h
  | k, .loc _, h => by cases k <;> cases h
  | k, .exn _ _ _, h => by cases k <;> cases h
theorem shs_ok : ∀ (k : Nat) (ds : List D), ds.all (shB k) = true → okDs ds = true
  | _, [], _ => rfl
  | k, d :: ds, h => by
    rw [List.all_cons, Bool.and_eq_true] at h
    unfold okDs
    rw [sh_ok k d h.1, shs_ok k ds h.2]
    rfl
end
theorem rows_sh : ∀ o ∈ rows7, shB 1 (strsD o) = true ∧ RV 1 423 (strsD o) := by
  have h : (rows7.all fun o => shB 1 (strsD o) && rvB 1 423 (strsD o)) = true := by decide +kernel
  intro o ho
  have := List.all_eq_true.mp h o ho
  rw [Bool.and_eq_true] at this
  exact ⟨this.1, rv_of this.2⟩
theorem whens_sh : ∀ w ∈ whens, shB 0 (.str w) = true ∧ RV 0 140 (.str w) := by
  have h : (whens.all fun o => shB 0 (.str o) && rvB 0 140 (.str o)) = true := by decide +kernel
  intro o ho
  have := List.all_eq_true.mp h o ho
  rw [Bool.and_eq_true] at this
  exact ⟨this.1, rv_of this.2⟩
/-- the items of a step: short data -/
theorem Stp.items {lines : Int} (hl : lines ≤ 10 ^ 30) {p : Stp} (h : p.ok lines) : ∃ ds, p.d = .tup ds ∧ 1 ≤ ds.length ∧ ds.length ≤ 4 ∧ ∀ d ∈ ds, shB 1 d = true ∧ RV 1 423 d := by
  have s : ∀ {x : Str} (_ : shB 1 (.str x) = true ∧ RV 0 140 (.str x)), shB 1 (.str x) = true ∧ RV 1 423 (.str x) := fun h => ⟨h.1, h.2.le (by omega) (by omega)⟩
  have i : ∀ {x : Int} (_ : x.natAbs < 10 ^ 40), shB 1 (.int x) = true ∧ RV 1 423 (.int x) := fun h => ⟨rfl, (RV.int h).le (by omega) (by omega)⟩
  cases p with
  | begin => exact ⟨_, rfl, by decide, by decide, by simp; exact s ⟨by decide +kernel, RV.str⟩⟩
  | throw => exact ⟨_, rfl, by decide, by decide, by simp; exact s ⟨by decide +kernel, RV.str⟩⟩
  | look => exact ⟨_, rfl, by decide, by decide, by simp; exact s ⟨by decide +kernel, RV.str⟩⟩
  | find => exact ⟨_, rfl, by decide, by decide, by simp; exact s ⟨by decide +kernel, RV.str⟩⟩
  | lay a b =>
    obtain ⟨⟨h1, h2⟩, h3, h4⟩ := h
    refine ⟨_, rfl, by simp, by simp, ?_⟩
    simp only [List.mem_cons, List.not_mem_nil, or_false, forall_eq_or_imp, forall_eq]
    exact ⟨s ⟨by decide +kernel, RV.str⟩, i (by omega), i (by omega)⟩
  | join e c w =>
    obtain ⟨h1, h2⟩ := h
    refine ⟨_, rfl, by simp, by simp, ?_⟩
    simp only [List.mem_cons, List.not_mem_nil, or_false, forall_eq_or_imp, forall_eq]
    exact ⟨s ⟨by decide +kernel, RV.str⟩, ⟨h1.sh, h1.rv⟩, ⟨rfl, RV.bl.le (by omega) (by omega)⟩, s ⟨sh_le 0 (by omega) (whens_sh w h2).1, (whens_sh w h2).2⟩⟩
  | go l o =>
    obtain ⟨⟨h1, h2⟩, h3⟩ := h
    refine ⟨_, rfl, by simp, by simp, ?_⟩
    simp only [List.mem_cons, List.not_mem_nil, or_false, forall_eq_or_imp, forall_eq]
    exact ⟨s ⟨by decide +kernel, RV.str⟩, i (by omega), rows_sh o h3⟩
@[simp] theorem fAll_map {α : Type} {f : α → Bool} {xs : List α} {st : Store} : fL gAll [.lst (xs.map fun d => .bl (f d))] st = .ok (.bl (xs.all f)) st := by
  have h : ∀ xs : List α, toBls (xs.map fun d => .bl (f d)) = some (xs.map f) := fun xs => by
    induction xs with
    | nil => rfl
    | cons x xs ih => simp [toBls, ih]
  simp [fL, asL, gAll, h]
@[simp] theorem fAny_map {α : Type} {f : α → Bool} {xs : List α} {st : Store} : fL gAny [.lst (xs.map fun d => .bl (f d))] st = .ok (.bl (xs.any f)) st := by
  have h : ∀ xs : List α, toBls (xs.map fun d => .bl (f d)) = some (xs.map f) := fun xs => by
    induction xs with
    | nil => rfl
    | cons x xs ih => simp [toBls, ih]
  simp [fL, asL, gAny, h]
def isI : D → Bool
  | .int _ => true
  | _ => false
@[simp] theorem isI_int {i : Int} : isI (.int i) = true := rfl
/-! programs -/
def stepsD (ps : List Stp) : D := .tup (ps.map Stp.d)
def progD (ps : List Stp) : D := .obj "Program" ["listed"] [stepsD ps]
def PrOk (ps : List Stp) : Prop := 1 ≤ ps.length ∧ ps.length ≤ 12 ∧ ∀ p ∈ ps, p.ok (ps.length : Nat)
theorem Stp.up {l m : Int} (h : l ≤ m) {p : Stp} (q : p.ok l) : p.ok m := by
  cases p with
  | go a o => exact ⟨⟨q.1.1, by have := q.1.2; omega⟩, q.2⟩
  | _ => exact q
theorem cutD_take {xs : List D} {k : Int} (h : 0 ≤ k) : cutD xs none (some k) = xs.take k.toNat := by
  unfold cutD
  show ((xs.drop 0).take ((if k < 0 then (k + (xs.length : Int)).toNat else min k.toNat xs.length) - 0)) = _
  rw [if_neg (by omega), List.drop_zero, Nat.sub_zero]
  by_cases c : k.toNat ≤ xs.length
  · rw [Nat.min_eq_left c]
  · rw [Nat.min_eq_right (by omega), List.take_of_length_le (Nat.le_refl _), List.take_of_length_le (by omega)]
theorem cutD_drop {xs : List D} {k : Int} (h : 0 ≤ k) : cutD xs (some k) none = xs.drop k.toNat := by
  unfold cutD
  show ((xs.drop (if k < 0 then (k + (xs.length : Int)).toNat else min k.toNat xs.length)).take (xs.length - (if k < 0 then (k + (xs.length : Int)).toNat else min k.toNat xs.length))) = _
  rw [if_neg (by omega)]
  by_cases c : k.toNat ≤ xs.length
  · rw [Nat.min_eq_left c, List.take_of_length_le (by simp)]
  · rw [Nat.min_eq_right (by omega), List.drop_of_length_le (Nat.le_refl _), List.drop_of_length_le (by omega)]
    simp
end DL

set_option maxHeartbeats 2000000
/-! DZ: what holds behind the further constructs. -/
namespace DL
open PySem PySem.Spec PyProof.Rows L2 DH
section
variable {Q : D → Store → Prop} {X : Ex → Store → Prop} {env : Sl} {st s : Store} {m : M D} {ms : List (M D)} {acc : Str}
/-! f-strings -/
def fmtS : D → Option Str
  | .str y => if y.length ≤ sizeLine then some y else none
  | .int i => if intShort i = true then some (toString i) else none
  | _ => none
def KFmt (Q : D → Store → Prop) (d : D) (s : Store) : Prop := KO (fun y => Q (.str y) s) (fmtS d)
@[simp ↓] theorem kfmt {d : D} : KFmt Q d s = KO (fun y => Q (.str y) s) (fmtS d) := rfl
@[simp ↓] theorem wp_fmt : Wp (mFmt m env st) Q X = Wp (m env st) (KFmt Q) X := by
  show Wp ((m env st).bind _) Q X = _
  rw [Wp_bind]
  congr 1
  funext d s
  unfold KFmt
  cases d with
  | str y => by_cases c : y.length ≤ sizeLine <;> simp only [fmtS, c, if_true, if_false] <;> rfl
  | int y => by_cases c : intShort y = true <;> simp only [fmtS, c, if_true, if_false] <;> rfl
  | _ => rfl
theorem fmtS_int {i : Int} (h : intShort i = true) : fmtS (.int i) = some (Str.ofString (toString i)) := by simp only [fmtS, h, if_true]
def KJs (ms : List (M D)) (acc : Str) (env : Sl) (Q : D → Store → Prop) (X : Ex → Store → Prop) (d : D) (s : Store) : Prop := KStr (fun y => (acc ++ y).length ≤ sizeLine ∧ Wp (jsGo ms (acc ++ y) env s) Q X) d
@[simp ↓] theorem kjs {d : D} : KJs ms acc env Q X d s = KStr (fun y => (acc ++ y).length ≤ sizeLine ∧ Wp (jsGo ms (acc ++ y) env s) Q X) d := rfl
@[simp ↓] theorem wp_jsNil : Wp (jsGo [] acc env st) Q X = Q (.str acc) st := id rfl
@[simp ↓] theorem wp_jsCons : Wp (jsGo (m :: ms) acc env st) Q X = Wp (m env st) (KJs ms acc env Q X) X := by
  show Wp ((m env st).bind _) Q X = _
  rw [Wp_bind]
  congr 1
  funext d s
  unfold KJs
  cases d with
  | str y =>
    rw [kstr]
    by_cases c : (acc ++ y).length ≤ sizeLine
    · simp only [c, if_true, true_and]
    · simp only [c, if_false, false_and]
      rfl
  | _ =>
    refine propext ⟨fun h => h.elim, ?_⟩
    rintro ⟨z, e, _⟩
    cases e
@[simp ↓] theorem wp_js : Wp (mJs ms env st) Q X = Wp (jsGo ms Str.empty env st) Q X := id rfl
/-! str -/
@[simp] theorem fStrI_ok {i : Int} (h : intShort i = true) : fStrI [.int i] st = .ok (.str (Str.ofString (toString i))) st := by simp only [fStrI, h, if_true]
def KS1 (Q : D → Store → Prop) (d : D) (s : Store) : Prop := KStr (fun y => Q (.str y) s) d
@[simp ↓] theorem ks1 {d : D} : KS1 Q d s = KStr (fun y => Q (.str y) s) d := rfl
@[simp] theorem wp_strO {c : Str} {fn : Fn} {ns : List Str} {vs : List D} : Wp (fStrO c fn [.obj c ns vs] s) Q X = Wp (fn [.obj c ns vs] s) (KS1 Q) NoX := by
  unfold fStrO
  simp only [ins_obj, if_true]
  cases fn [.obj c ns vs] s with
  | bad => rfl
  | exc e s2 => rfl
  | ok d s2 =>
    cases d with
    | str n => simp [KS1, Wp]
    | _ => simp [KS1, Wp, KStr]
/-! own == anything -/
theorem wp_runB {fn : Fn} {x y : D} : Wp (runB fn x y s) Q X = Wp (fn [x, y] s) (KBl false Q) NoX := by
  unfold runB
  cases fn [x, y] s with
  | bad => rfl
  | exc e s2 => rfl
  | ok d s2 => cases d <;> simp [KBl, Wp]
theorem wp_eqA {c : Str} {os : List Str} {fn : Fn} {ns : List Str} {vs : List D} {y : D} (hy : insOf s y = none) (hd : (y.den s).isSome = true) : Wp (eqA c os fn (.obj c ns vs) y s) Q X = Wp (fn [.obj c ns vs, y] s) (KBl false Q) NoX := by
  obtain ⟨p, hp⟩ := Option.isSome_iff_exists.mp hd
  unfold eqA
  simp only [ins_obj, if_true, hy, hp]
  exact wp_runB
theorem wp_eqAO {c : Str} {os : List Str} {fn : Fn} {ns ns2 : List Str} {vs vs2 : List D} : Wp (eqA c os fn (.obj c ns vs) (.obj c ns2 vs2) s) Q X = Wp (fn [.obj c ns vs, .obj c ns2 vs2] s) (KBl false Q) NoX := by
  unfold eqA
  simp only [ins_obj, if_true, true_or]
  exact wp_runB
/-! sorted -/
theorem fSorted_ok {d : D} {xs : List D} (h : asL st d = some xs) (ok : SortOk xs) : fSorted [d] st = .ok (.lst (xs.mergeSort leD)) st := by
  unfold fSorted
  simp only [h, if_pos ok]
/-- a typed list: ordered by what orders its items -/
theorem sort_map {α : Type} {f : α → D} {le : α → α → Bool} {xs : List α} (h : ∀ a ∈ xs, ∀ b ∈ xs, le a b = leD (f a) (f b)) : (xs.map f).mergeSort leD = (xs.mergeSort le).map f := (List.map_mergeSort h).symm
theorem fSortSet_ok {d : D} {ks : List (List Int)} (h : asS st d = some (ks.map tupI)) (ok : setB ks = true) : fSortSet [d] st = .ok (.lst ((sortK ks).map tupI)) st := by
  unfold fSortSet
  simp only [h, toKs_map, ok, if_true]
theorem fMinL_ok {i : Int} {k : List Int} {d : D} (h : asL st d = some ((i :: k).map .int)) : fMinL [d] st = .ok (.int (minI i k)) st := by
  unfold fMinL
  simp only [h, Option.bind_some, toNums_map]
/-! times, list(range) -/
@[simp] theorem wp_mulA_l {xs : List D} {k : Int} : Wp (opMulA (.lst xs) (.int k) st) Q X = ((-1000000 ≤ k ∧ k ≤ 1000000 ∧ xs.length * k.toNat ≤ sizeLine) ∧ Q (.lst (repL k xs)) st) := wp_szif
@[simp] theorem wp_mulA_t {xs : List D} {k : Int} : Wp (opMulA (.tup xs) (.int k) st) Q X = ((xs ≠ [] ∧ 2 ≤ k ∧ k ≤ 1000 ∧ xs.length ≤ 1000) ∧ Q (.tup (repL k xs)) st) := wp_szif
def KLR (Q : D → Store → Prop) (ds : List D) (s : Store) : Prop := ∃ n : Int, ds = [.int n] ∧ (n ≤ 1000000 ∧ -1000000 ≤ n) ∧ Q (.lst (intsD 0 n.toNat)) s
theorem klr {n : Int} (h : n ≤ 1000000 ∧ -1000000 ≤ n) : KLR Q [.int n] s = Q (.lst (intsD 0 n.toNat)) s := by
  refine propext ⟨?_, fun q => ⟨n, rfl, h, q⟩⟩
  rintro ⟨m, e, _, q⟩
  cases e
  exact q
@[simp ↓] theorem wp_listR {mm : M (List D)} : Wp (mListR mm env st) Q X = Wp (mm env st) (KLR Q) X := by
  show Wp ((mm env st).bind _) Q X = _
  rw [Wp_bind]
  congr 1
  funext ds s
  refine propext ⟨fun h => ?_, ?_⟩
  · match ds with
    | [.int n] =>
      have h : Wp (if n ≤ 1000000 ∧ -1000000 ≤ n then .ok (.lst (intsD 0 n.toNat)) s else .bad) Q X := h
      rw [wp_szif] at h
      exact ⟨n, rfl, h⟩
    | [] => exact h.elim
    | .int _ :: _ :: _ => exact h.elim
    | .non :: _ => exact h.elim
    | .bl _ :: _ => exact h.elim
    | .str _ :: _ => exact h.elim
    | .tup _ :: _ => exact h.elim
    | .lst _ :: _ => exact h.elim
    | .fro _ :: _ => exact h.elim
    | .dct _ _ :: _ => exact h.elim
    | .obj _ _ _ :: _ => exact h.elim
    | .loc _ :: _ => exact h.elim
    | .exn _ _ _ :: _ => exact h.elim
  · rintro ⟨n, rfl, h, q⟩
    show Wp (if n ≤ 1000000 ∧ -1000000 ≤ n then .ok (.lst (intsD 0 n.toNat)) s else .bad) Q X
    rw [wp_szif]
    exact ⟨h, q⟩
end
/-! texts: every sign is one -/
theorem lay_sok {x : Str} (h : SOk x) : PyData.canLay0 (.str x) = true := by
  have := of_sok h
  unfold PyData.canLay0
  exact this
theorem sh_sok {x : Str} {k : Nat} (h : SOk x) : shB k (.str x) = true := by
  rw [sh_str]
  exact lay_sok h
/-! a loop over written items, turn by turn -/
section
variable {t : Tgt} {body : SM} {items : List D} {env env1 : Sl} {Q : Fl → Store → Prop} {X : Ex → Store → Prop} {d : D} {ds : List D} {s st : Store} {e : Ex}
def KForN (t : Tgt) (body : SM) (items ds : List D) (Q : Fl → Store → Prop) (X : Ex → Store → Prop) (fl : Fl) (s : Store) : Prop := match fl with
  | .nx env => Wp (forGo t body ⟨items, []⟩ ds env s) Q X
  | .ct env => Wp (forGo t body ⟨items, []⟩ ds env s) Q X
  | .bk env => Q (.nx env) s
  | fl => Q fl s
@[simp ↓] theorem kforN_nx : KForN t body items ds Q X (.nx env) s = Wp (forGo t body ⟨items, []⟩ ds env s) Q X := rfl
@[simp ↓] theorem kforN_ct : KForN t body items ds Q X (.ct env) s = Wp (forGo t body ⟨items, []⟩ ds env s) Q X := rfl
@[simp ↓] theorem kforN_bk : KForN t body items ds Q X (.bk env) s = Q (.nx env) s := rfl
@[simp ↓] theorem kforN_rt : KForN t body items ds Q X (.rt d) s = Q (.rt d) s := rfl
@[simp ↓] theorem kforN_xc : KForN t body items ds Q X (.xc e env) s = Q (.xc e env) s := rfl
theorem wp_forNil : Wp (forGo t body ⟨items, []⟩ [] env st) Q X = Q (.nx env) st := by
  unfold forGo
  rw [if_pos okS0]
  rfl
theorem wp_forCons : Wp (forGo t body ⟨items, []⟩ (d :: ds) env st) Q X = KO (fun env1 => Wp (body env1 st) (KForN t body items ds Q X) X) (bindT t d env) := by
  conv => lhs; unfold forGo
  rw [if_pos okS0]
  cases bindT t d env with
  | none => rfl
  | some env1 =>
    simp only [KO_some]
    cases body env1 st with
    | bad => rfl
    | exc e s => rfl
    | ok fl s => cases fl <;> rfl
end
theorem rgD1 : intsD 0 1 = [.int 0] := rfl
theorem rgD2 : intsD 0 2 = [.int 0, .int 1] := rfl
theorem rgD3 : intsD 0 3 = [.int 0, .int 1, .int 2] := rfl
theorem rgD4 : intsD 0 4 = [.int 0, .int 1, .int 2, .int 3] := rfl
theorem rgD5 : intsD 0 5 = [.int 0, .int 1, .int 2, .int 3, .int 4] := rfl
theorem rgD6 : intsD 0 6 = [.int 0, .int 1, .int 2, .int 3, .int 4, .int 5] := rfl
theorem rgD7 : intsD 0 7 = [.int 0, .int 1, .int 2, .int 3, .int 4, .int 5, .int 6] := rfl
theorem rgD8 : intsD 0 8 = [.int 0, .int 1, .int 2, .int 3, .int 4, .int 5, .int 6, .int 7] := rfl
/-! methods of builtin types -/
section
variable {T : String} {fn : Fn} {mo : M D} {ms : M (List D)} {env : Sl} {st s : Store} {Q : D → Store → Prop} {X : Ex → Store → Prop}
def KBm (T : String) (fn : Fn) (ms : M (List D)) (env : Sl) (Q : D → Store → Prop) (X : Ex → Store → Prop) (d : D) (s : Store) : Prop := tyD T s d = true ∧ Wp (ms env s) (KCall (fun ds => fn (d :: ds)) Q X) X
@[simp ↓] theorem kbm {d : D} : KBm T fn ms env Q X d s = (tyD T s d = true ∧ Wp (ms env s) (KCall (fun ds => fn (d :: ds)) Q X) X) := rfl
@[simp ↓] theorem wp_bm : Wp (mBm T fn mo ms env st) Q X = Wp (mo env st) (KBm T fn ms env Q X) X := by
  show Wp ((mo env st).bind _) Q X = _
  rw [Wp_bind]
  congr 1
  funext d s
  by_cases c : tyD T s d = true
  · simp only [kbm, c, if_true, true_and, Wp_bind]
    rfl
  · rw [if_neg c, kbm]
    simp only [c, Bool.false_eq_true, false_and]
    rfl
@[simp] theorem tyD_lst {xs : List D} : tyD "list" st (.lst xs) = true := rfl
@[simp] theorem tyD_str {x : Str} : tyD "str" st (.str x) = true := rfl
end
theorem fCnt_ok {st : Store} {d : D} {ns : List Int} {k : Int} (h : asL st d = some (ns.map .int)) : fCnt [d, .int k] st = .ok (.int (ns.count k : Nat)) st := by
  unfold fCnt
  simp only [h, Option.bind_some, toNums_map]
/-! several handlers -/
section
variable {hs : List ((Str → Option Bool) × Nat × SM)} {hit : Str → Option Bool} {i : Nat} {mb ms : SM} {env : Sl} {st : Store} {Q : Fl → Store → Prop} {X : Ex → Store → Prop} {e : Ex} {s : Store} {d : D}
@[simp ↓] theorem wp_goNil : Wp (goH [] e env s) Q X = Q (.xc e env) s := by
  unfold goH
  rfl
open Classical in
@[simp ↓] theorem wp_goCons : Wp (goH ((hit, i, ms) :: hs) e env s) Q X = ((hit e.c = some true ∧ Wp (ms (env.set i (some (.exn e.c e.ns e.vs))) s) (KOut i s Q) NoX) ∨ (hit e.c = some false ∧ Wp (goH hs e env s) Q X)) := by
  rw [goH]
  cases hit e.c with
  | none => simp
  | some b =>
    cases b with
    | false => simp
    | true =>
      simp only [true_and, Option.some.injEq, Bool.true_eq_false, false_and, or_false]
      cases ms (env.set i (some (.exn e.c e.ns e.vs))) s with
      | bad => rfl
      | exc e2 s2 => rfl
      | ok fl s2 =>
        cases fl with
        | xc e3 env3 => rfl
        | rt d => simp only [outS, Wp_ok, KOut]; rw [wp_szif]
        | nx env3 => simp only [outS, Wp_ok, KOut]; rw [wp_szif]
        | bk env3 => simp only [outS, Wp_ok, KOut]; rw [wp_szif]
        | ct env3 => simp only [outS, Wp_ok, KOut]; rw [wp_szif]
def KTryN (hs : List ((Str → Option Bool) × Nat × SM)) (Q : Fl → Store → Prop) (X : Ex → Store → Prop) (fl : Fl) (s : Store) : Prop := match fl with
  | .xc e env1 => Wp (goH hs e env1 s) Q X
  | fl => Q fl s
@[simp ↓] theorem ktryn_nx : KTryN hs Q X (.nx env) s = Q (.nx env) s := rfl
@[simp ↓] theorem ktryn_rt : KTryN hs Q X (.rt d) s = Q (.rt d) s := rfl
@[simp ↓] theorem ktryn_bk : KTryN hs Q X (.bk env) s = Q (.bk env) s := rfl
@[simp ↓] theorem ktryn_ct : KTryN hs Q X (.ct env) s = Q (.ct env) s := rfl
@[simp ↓] theorem ktryn_xc : KTryN hs Q X (.xc e env) s = Wp (goH hs e env s) Q X := rfl
@[simp ↓] theorem wp_tryN : Wp (sTryN hs mb env st) Q X = Wp (mb env st) (KTryN hs Q X) X := by
  show Wp (match mb env st with
    | .ok (.xc e env1) s => goH hs e env1 s
    | r => r) Q X = _
  cases mb env st with
  | bad => rfl
  | exc e s => rfl
  | ok fl s => cases fl <;> rfl
end
/-! `if not f(..): return ..` that does not hit: one step, told as a plain equation -/
section
variable {a b r : SM} {env : Sl} {Q : Fl → Store → Prop} {X Y : Ex → Store → Prop} {s : Store}
@[simp ↓ high] theorem kt_miss : KTru (KNotT (KIf a sNil env (KSeq r Q X) Y)) (.bl true) s = Wp (r env s) Q X := id rfl
@[simp ↓ high] theorem kt_else : KTru (KNotT (KIf a b env Q X)) (.bl true) s = Wp (b env s) Q X := id rfl
end
end DL

set_option maxHeartbeats 2000000
namespace K07
open PySem PySem.Spec PyProof.Rows L2 DH DL
def top (i : Nat) : Stmt := PySem.Challenge.pw_partsjoined_k07_programs_exchanged.main.body.getD i (.Pass ⟨0, 0, 0, 0⟩)
abbrev d_BadProgram_init : DefQ := ⟨pM "BadProgram" "__init__", "__init__", "BadProgram.__init__", inClass (top 4) 0⟩
abbrev d_is_word : DefQ := ⟨pG "is_word", "is_word", "is_word", top 11⟩
abbrev d_are_outcomes : DefQ := ⟨pG "are_outcomes", "are_outcomes", "are_outcomes", top 20⟩
abbrev d_is_whole : DefQ := ⟨pG "is_whole", "is_whole", "is_whole", top 8⟩
abbrev d_is_within : DefQ := ⟨pG "is_within", "is_within", "is_within", top 9⟩
abbrev d_go_error : DefQ := ⟨pG "go_error", "go_error", "go_error", top 23⟩
abbrev d_is_piece : DefQ := ⟨pG "is_piece", "is_piece", "is_piece", top 17⟩
abbrev d_is_edition : DefQ := ⟨pG "is_edition", "is_edition", "is_edition", top 19⟩
abbrev d_join_error : DefQ := ⟨pG "join_error", "join_error", "join_error", top 22⟩
abbrev d_is_part : DefQ := ⟨pG "is_part", "is_part", "is_part", top 18⟩
abbrev d_lay_error : DefQ := ⟨pG "lay_error", "lay_error", "lay_error", top 21⟩
abbrev d_step_error : DefQ := ⟨pG "step_error", "step_error", "step_error", top 24⟩
abbrev d_Program_init : DefQ := ⟨pM "Program" "__init__", "__init__", "Program.__init__", inClass (top 26) 0⟩
abbrev d_Program_joins : DefQ := ⟨pM "Program" "joins", "joins", "Program.joins", inClass (top 26) 10⟩
abbrev d_Program_checking : DefQ := ⟨pM "Program" "checking", "checking", "Program.checking", inClass (top 26) 11⟩
abbrev d_Program_steps : DefQ := ⟨pP "Program" "steps", "steps", "Program.steps", inClass (top 26) 1⟩
abbrev d__law_next : DefQ := ⟨pG "_law_next", "_law_next", "_law_next", top 29⟩
abbrev d__law_odd : DefQ := ⟨pG "_law_odd", "_law_odd", "_law_odd", top 32⟩
abbrev d__law_bent : DefQ := ⟨pG "_law_bent", "_law_bent", "_law_bent", top 41⟩
abbrev d__law_deck : DefQ := ⟨pG "_law_deck", "_law_deck", "_law_deck", top 28⟩
abbrev d__law_moved : DefQ := ⟨pG "_law_moved", "_law_moved", "_law_moved", top 44⟩
abbrev d__law_whole : DefQ := ⟨pG "_law_whole", "_law_whole", "_law_whole", top 31⟩
abbrev d__law_edited : DefQ := ⟨pG "_law_edited", "_law_edited", "_law_edited", top 39⟩
abbrev d__law_same : DefQ := ⟨pG "_law_same", "_law_same", "_law_same", top 30⟩
abbrev d__law_reason : DefQ := ⟨pG "_law_reason", "_law_reason", "_law_reason", top 40⟩
abbrev d__law_edition : DefQ := ⟨pG "_law_edition", "_law_edition", "_law_edition", top 33⟩
abbrev d__law_outcomes : DefQ := ⟨pG "_law_outcomes", "_law_outcomes", "_law_outcomes", top 34⟩
abbrev d__law_step : DefQ := ⟨pG "_law_step", "_law_step", "_law_step", top 35⟩
abbrev d__law_usual : DefQ := ⟨pG "_law_usual", "_law_usual", "_law_usual", top 36⟩
abbrev d__law_within : DefQ := ⟨pG "_law_within", "_law_within", "_law_within", top 37⟩
abbrev d__law_steps : DefQ := ⟨pG "_law_steps", "_law_steps", "_law_steps", top 38⟩
abbrev d_TooMany_init : DefQ := ⟨pM "TooMany" "__init__", "__init__", "TooMany.__init__", inClass (top 5) 0⟩
abbrev d_moved : DefQ := ⟨pG "moved", "moved", "moved", top 25⟩
abbrev d_Program_add : DefQ := ⟨pM "Program" "__add__", "__add__", "Program.__add__", inClass (top 26) 8⟩
abbrev d__law_sum : DefQ := ⟨pG "_law_sum", "_law_sum", "_law_sum", top 42⟩
abbrev d_NoLine_init : DefQ := ⟨pM "NoLine" "__init__", "__init__", "NoLine.__init__", inClass (top 6) 0⟩
abbrev d_is_index : DefQ := ⟨pG "is_index", "is_index", "is_index", top 10⟩
abbrev d_Program_with_step : DefQ := ⟨pM "Program" "with_step", "with_step", "Program.with_step", inClass (top 26) 9⟩
abbrev d__law_with : DefQ := ⟨pG "_law_with", "_law_with", "_law_with", top 43⟩
abbrev d_law : DefQ := ⟨pG "law", "law", "law", top 45⟩
def fnl : List DefQ := [d_BadProgram_init, d_is_word, d_are_outcomes, d_is_whole, d_is_within, d_go_error, d_is_piece, d_is_edition, d_join_error, d_is_part, d_lay_error, d_step_error, d_Program_init, d_Program_joins, d_Program_checking, d_Program_steps, d__law_next, d__law_odd, d__law_bent, d__law_deck, d__law_moved, d__law_whole, d__law_edited, d__law_same, d__law_reason, d__law_edition, d__law_outcomes, d__law_step, d__law_usual, d__law_within, d__law_steps, d_TooMany_init, d_moved, d_Program_add, d__law_sum, d_NoLine_init, d_is_index, d_Program_with_step, d__law_with, d_law]
def tabs : List TabQ := [(fun K => He.ga K "ITEMS", ["begin", "lay", "join", "throw", "look", "find", "go"])]
def rows : List ((Kd × Kd) × Bool) := [((.own "Program", .ty "tuple"), false), ((.own "Program", .ty "str"), false), ((.own "Program", .ty "int"), false), ((.own "Program", .ty "bool"), false), ((.own "Program", .ty "list"), false), ((.own "Program", .ty "dict"), false)]
def isa : Isa := isaR rows
def hit_TooMany : Str → Option Bool := hitR [("BadProgram", false), ("NoLine", false), ("TooMany", true)]
def hit_NoLine : Str → Option Bool := hitR [("BadProgram", false), ("NoLine", true), ("TooMany", false)]
def hit_BadProgram : Str → Option Bool := hitR [("BadProgram", true), ("NoLine", false), ("TooMany", false)]
def facts : List Fq := [.fa (.glo "_law_deck"),
  .fa (.free "range"),
  .fa (.glo "_law_steps"),
  .fa (.mkr "Program"),
  .fa (.glo "Program"),
  .fa (.free "len"),
  .fa (.glo "_law_moved"),
  .fa (.free "tuple"),
  .fa (.glo "_law_same"),
  .fa (.glo "_law_sum"),
  .fa (.glo "_law_next"),
  .fa (.glo "_law_odd"),
  .fa (.free "max"),
  .fa (.glo "_law_step"),
  .fa (.glo "_law_bent"),
  .fa (.glo "_law_whole"),
  .fa (.glo "_law_reason"),
  .fa (.glo "_law_with"),
  .fa (.free "list"),
  .fa (.cls "Program"),
  .fa (.meth "Program" "checking"),
  .prop "Program" "steps",
  .fa (.noat "Program" "listed"),
  .fa (.meth "Program" "joins"),
  .fa (.free "isinstance"),
  .fa (.int "MAX_STEPS" (12)),
  .oex "BadProgram",
  .ini "BadProgram",
  .fa (.glo "BadProgram"),
  .fa (.free "enumerate"),
  .fa (.glo "step_error"),
  .fa (.free "str"),
  .fa (.glo "ITEMS"),
  .vals "ITEMS" [("begin", .int (1)), ("lay", .int (3)), ("join", .int (4)), ("throw", .int (1)), ("look", .int (1)), ("find", .int (1)), ("go", .int (3))],
  .fa (.glo "lay_error"),
  .fa (.glo "join_error"),
  .fa (.glo "go_error"),
  .fa (.glo "is_within"),
  .fa (.glo "are_outcomes"),
  .fa (.glo "is_word"),
  .tup "OUTCOMES" [.str "ok", .str "no", .str "lost"],
  .fa (.glo "OUTCOMES"),
  .fa (.free "all"),
  .fa (.glo "is_whole"),
  .fa (.free "int"),
  .fa (.free "bool"),
  .fa (.glo "is_edition"),
  .tup "WHENS" [.str "any", .str "none", .str "same"],
  .fa (.glo "WHENS"),
  .fa (.int "MAX_PARTS" (3)),
  .fa (.glo "is_piece"),
  .fa (.glo "is_part"),
  .fa (.free "abs"),
  .fa (.glo "_law_edited"),
  .fa (.free "any"),
  .fa (.free "zip"),
  .fa (.free "dict"),
  .sys,
  .fa (.free "repr"),
  .fa (.glo "_law_edition"),
  .fa (.glo "_law_outcomes"),
  .fa (.glo "_law_usual"),
  .fa (.glo "_law_within"),
  .fa (.free "min"),
  .fn (dunB "Program" "__add__"),
  .fn (selfB "Program"),
  .xf "TooMany",
  .fa (.noat "TooMany" "limit"),
  .fa (.glo "TooMany"),
  .oex "TooMany",
  .ini "TooMany",
  .fa (.glo "moved"),
  .fa (.meth "Program" "with_step"),
  .xf "NoLine",
  .fa (.noat "NoLine" "index"),
  .xf "BadProgram",
  .fa (.noat "BadProgram" "index"),
  .fa (.noat "BadProgram" "reason"),
  .fa (.glo "NoLine"),
  .fa (.glo "is_index"),
  .fn (oexLB "NoLine"),
  .ini "NoLine",
  .fa (.glo "law"),
  .isas rows,
  .hits "TooMany" [("BadProgram", false), ("NoLine", false), ("TooMany", true)],
  .hits "NoLine" [("BadProgram", false), ("NoLine", true), ("TooMany", false)],
  .hits "BadProgram" [("BadProgram", true), ("NoLine", false), ("TooMany", false)]]
def fb (K : PySem.W.Frag) : Bool := facts.all fun f => f.ok K
structure Ok (K : PySem.W.Frag) (mg : Str → Option Value) : Prop where
  g__law_deck : mg "_law_deck" = some (.ref (He.ga K "_law_deck"))
  g_range : mg "range" = none
  g__law_steps : mg "_law_steps" = some (.ref (He.ga K "_law_steps"))
  mk_Program : Mk K (He.ga K "Program") (pM "Program" "__init__" K)
  g_Program : mg "Program" = some (.ref (He.ga K "Program"))
  g_len : mg "len" = none
  g__law_moved : mg "_law_moved" = some (.ref (He.ga K "_law_moved"))
  g_tuple : mg "tuple" = none
  g__law_same : mg "_law_same" = some (.ref (He.ga K "_law_same"))
  g__law_sum : mg "_law_sum" = some (.ref (He.ga K "_law_sum"))
  g__law_next : mg "_law_next" = some (.ref (He.ga K "_law_next"))
  g__law_odd : mg "_law_odd" = some (.ref (He.ga K "_law_odd"))
  g_max : mg "max" = none
  g__law_step : mg "_law_step" = some (.ref (He.ga K "_law_step"))
  g__law_bent : mg "_law_bent" = some (.ref (He.ga K "_law_bent"))
  g__law_whole : mg "_law_whole" = some (.ref (He.ga K "_law_whole"))
  g__law_reason : mg "_law_reason" = some (.ref (He.ga K "_law_reason"))
  g__law_with : mg "_law_with" = some (.ref (He.ga K "_law_with"))
  g_list : mg "list" = none
  cls_Program : Cls K (He.ga K "Program")
  meth_Program_checking : Meth K (He.ga K "Program") "checking" (pM "Program" "checking" K)
  prop_Program_steps : PropOf K (He.ga K "Program") "steps" (He.ma K (He.ga K "Program") "steps") (pP "Program" "steps" K)
  noat_Program_listed : NoAttr K (He.ga K "Program") "listed"
  meth_Program_joins : Meth K (He.ga K "Program") "joins" (pM "Program" "joins" K)
  g_isinstance : mg "isinstance" = none
  c_MAX_STEPS : ∃ t, mg "MAX_STEPS" = some (.int (12) t)
  oex_BadProgram : OexC K (He.ga K "BadProgram")
  ini_BadProgram : PySem.W.findIn K (.ref (He.ga K "BadProgram")) "__init__" = some (some (.ref (pM "BadProgram" "__init__" K))) ∧ PySem.W.typeIn K (.ref (pM "BadProgram" "__init__" K)) = some (.type "function")
  g_BadProgram : mg "BadProgram" = some (.ref (He.ga K "BadProgram"))
  g_enumerate : mg "enumerate" = none
  g_step_error : mg "step_error" = some (.ref (He.ga K "step_error"))
  g_str : mg "str" = none
  g_ITEMS : mg "ITEMS" = some (.ref (He.ga K "ITEMS"))
  v_ITEMS : He.valsB K (He.ga K "ITEMS") [("begin", .int (1)), ("lay", .int (3)), ("join", .int (4)), ("throw", .int (1)), ("look", .int (1)), ("find", .int (1)), ("go", .int (3))] = true
  g_lay_error : mg "lay_error" = some (.ref (He.ga K "lay_error"))
  g_join_error : mg "join_error" = some (.ref (He.ga K "join_error"))
  g_go_error : mg "go_error" = some (.ref (He.ga K "go_error"))
  g_is_within : mg "is_within" = some (.ref (He.ga K "is_within"))
  g_are_outcomes : mg "are_outcomes" = some (.ref (He.ga K "are_outcomes"))
  g_is_word : mg "is_word" = some (.ref (He.ga K "is_word"))
  t_OUTCOMES : He.tupB K ("OUTCOMES") [.str "ok", .str "no", .str "lost"] = true
  g_OUTCOMES : mg "OUTCOMES" = some (.ref (He.ga K "OUTCOMES"))
  g_all : mg "all" = none
  g_is_whole : mg "is_whole" = some (.ref (He.ga K "is_whole"))
  g_int : mg "int" = none
  g_bool : mg "bool" = none
  g_is_edition : mg "is_edition" = some (.ref (He.ga K "is_edition"))
  t_WHENS : He.tupB K ("WHENS") [.str "any", .str "none", .str "same"] = true
  g_WHENS : mg "WHENS" = some (.ref (He.ga K "WHENS"))
  c_MAX_PARTS : ∃ t, mg "MAX_PARTS" = some (.int (3) t)
  g_is_piece : mg "is_piece" = some (.ref (He.ga K "is_piece"))
  g_is_part : mg "is_part" = some (.ref (He.ga K "is_part"))
  g_abs : mg "abs" = none
  g__law_edited : mg "_law_edited" = some (.ref (He.ga K "_law_edited"))
  g_any : mg "any" = none
  g_zip : mg "zip" = none
  g_dict : mg "dict" = none
  sys : SysD K
  g_repr : mg "repr" = none
  g__law_edition : mg "_law_edition" = some (.ref (He.ga K "_law_edition"))
  g__law_outcomes : mg "_law_outcomes" = some (.ref (He.ga K "_law_outcomes"))
  g__law_usual : mg "_law_usual" = some (.ref (He.ga K "_law_usual"))
  g__law_within : mg "_law_within" = some (.ref (He.ga K "_law_within"))
  g_min : mg "min" = none
  dun_Program_add : Dun K (He.ga K "Program") "__add__" (pM "Program" "__add__" K)
  self_Program : PySem.W.selfFirst K (He.ga K "Program") = true
  xf_TooMany : XfC K (He.ga K "TooMany")
  noat_TooMany_limit : NoAttr K (He.ga K "TooMany") "limit"
  g_TooMany : mg "TooMany" = some (.ref (He.ga K "TooMany"))
  oex_TooMany : OexC K (He.ga K "TooMany")
  ini_TooMany : PySem.W.findIn K (.ref (He.ga K "TooMany")) "__init__" = some (some (.ref (pM "TooMany" "__init__" K))) ∧ PySem.W.typeIn K (.ref (pM "TooMany" "__init__" K)) = some (.type "function")
  g_moved : mg "moved" = some (.ref (He.ga K "moved"))
  meth_Program_with_step : Meth K (He.ga K "Program") "with_step" (pM "Program" "with_step" K)
  xf_NoLine : XfC K (He.ga K "NoLine")
  noat_NoLine_index : NoAttr K (He.ga K "NoLine") "index"
  xf_BadProgram : XfC K (He.ga K "BadProgram")
  noat_BadProgram_index : NoAttr K (He.ga K "BadProgram") "index"
  noat_BadProgram_reason : NoAttr K (He.ga K "BadProgram") "reason"
  g_NoLine : mg "NoLine" = some (.ref (He.ga K "NoLine"))
  g_is_index : mg "is_index" = some (.ref (He.ga K "is_index"))
  oexL_NoLine : OexL K (He.ga K "NoLine")
  ini_NoLine : PySem.W.findIn K (.ref (He.ga K "NoLine")) "__init__" = some (some (.ref (pM "NoLine" "__init__" K))) ∧ PySem.W.typeIn K (.ref (pM "NoLine" "__init__" K)) = some (.type "function")
  g_law : mg "law" = some (.ref (He.ga K "law"))
  isa : IsaOk (cnOf K) isa
  hit_TooMany : HitOk K (cnOf K) (.ref (He.ga K "TooMany")) hit_TooMany
  hit_NoLine : HitOk K (cnOf K) (.ref (He.ga K "NoLine")) hit_NoLine
  hit_BadProgram : HitOk K (cnOf K) (.ref (He.ga K "BadProgram")) hit_BadProgram
theorem ok_of {w : World} {K : PySem.W.Frag} {mg : Str → Option Value} {base : Heap} (X : K.In base) (N : base.Ns mainGlobals mg) (c : SaysQ fb fnl tabs w K) : Ok K mg := by
  have hf : ∀ (i : Nat) (f : Fq), facts[i]? = some f → f.ok K = true := fun i f h => List.all_eq_true.mp c.fact f (List.mem_of_getElem? h)
  exact ⟨He.glo_ok X N (hf 0 (.fa (.glo "_law_deck")) rfl), He.free_ok X N (hf 1 (.fa (.free "range")) rfl), He.glo_ok X N (hf 2 (.fa (.glo "_law_steps")) rfl), He.mkr_ok (hf 3 (.fa (.mkr "Program")) rfl), He.glo_ok X N (hf 4 (.fa (.glo "Program")) rfl), He.free_ok X N (hf 5 (.fa (.free "len")) rfl), He.glo_ok X N (hf 6 (.fa (.glo "_law_moved")) rfl), He.free_ok X N (hf 7 (.fa (.free "tuple")) rfl), He.glo_ok X N (hf 8 (.fa (.glo "_law_same")) rfl), He.glo_ok X N (hf 9 (.fa (.glo "_law_sum")) rfl), He.glo_ok X N (hf 10 (.fa (.glo "_law_next")) rfl), He.glo_ok X N (hf 11 (.fa (.glo "_law_odd")) rfl), He.free_ok X N (hf 12 (.fa (.free "max")) rfl), He.glo_ok X N (hf 13 (.fa (.glo "_law_step")) rfl), He.glo_ok X N (hf 14 (.fa (.glo "_law_bent")) rfl), He.glo_ok X N (hf 15 (.fa (.glo "_law_whole")) rfl), He.glo_ok X N (hf 16 (.fa (.glo "_law_reason")) rfl), He.glo_ok X N (hf 17 (.fa (.glo "_law_with")) rfl), He.free_ok X N (hf 18 (.fa (.free "list")) rfl), He.cls_ok (hf 19 (.fa (.cls "Program")) rfl), He.meth_ok (hf 20 (.fa (.meth "Program" "checking")) rfl), prop_ok (hf 21 (.prop "Program" "steps") rfl), He.noat_ok (hf 22 (.fa (.noat "Program" "listed")) rfl), He.meth_ok (hf 23 (.fa (.meth "Program" "joins")) rfl), He.free_ok X N (hf 24 (.fa (.free "isinstance")) rfl), He.int_ok X N (hf 25 (.fa (.int "MAX_STEPS" (12))) rfl), oex_ok (hf 26 (.oex "BadProgram") rfl), ini_ok (hf 27 (.ini "BadProgram") rfl), He.glo_ok X N (hf 28 (.fa (.glo "BadProgram")) rfl), He.free_ok X N (hf 29 (.fa (.free "enumerate")) rfl), He.glo_ok X N (hf 30 (.fa (.glo "step_error")) rfl), He.free_ok X N (hf 31 (.fa (.free "str")) rfl), He.glo_ok X N (hf 32 (.fa (.glo "ITEMS")) rfl), (hf 33 (.vals "ITEMS" [("begin", .int (1)), ("lay", .int (3)), ("join", .int (4)), ("throw", .int (1)), ("look", .int (1)), ("find", .int (1)), ("go", .int (3))]) rfl), He.glo_ok X N (hf 34 (.fa (.glo "lay_error")) rfl), He.glo_ok X N (hf 35 (.fa (.glo "join_error")) rfl), He.glo_ok X N (hf 36 (.fa (.glo "go_error")) rfl), He.glo_ok X N (hf 37 (.fa (.glo "is_within")) rfl), He.glo_ok X N (hf 38 (.fa (.glo "are_outcomes")) rfl), He.glo_ok X N (hf 39 (.fa (.glo "is_word")) rfl), (hf 40 (.tup "OUTCOMES" [.str "ok", .str "no", .str "lost"]) rfl), He.glo_ok X N (hf 41 (.fa (.glo "OUTCOMES")) rfl), He.free_ok X N (hf 42 (.fa (.free "all")) rfl), He.glo_ok X N (hf 43 (.fa (.glo "is_whole")) rfl), He.free_ok X N (hf 44 (.fa (.free "int")) rfl), He.free_ok X N (hf 45 (.fa (.free "bool")) rfl), He.glo_ok X N (hf 46 (.fa (.glo "is_edition")) rfl), (hf 47 (.tup "WHENS" [.str "any", .str "none", .str "same"]) rfl), He.glo_ok X N (hf 48 (.fa (.glo "WHENS")) rfl), He.int_ok X N (hf 49 (.fa (.int "MAX_PARTS" (3))) rfl), He.glo_ok X N (hf 50 (.fa (.glo "is_piece")) rfl), He.glo_ok X N (hf 51 (.fa (.glo "is_part")) rfl), He.free_ok X N (hf 52 (.fa (.free "abs")) rfl), He.glo_ok X N (hf 53 (.fa (.glo "_law_edited")) rfl), He.free_ok X N (hf 54 (.fa (.free "any")) rfl), He.free_ok X N (hf 55 (.fa (.free "zip")) rfl), He.free_ok X N (hf 56 (.fa (.free "dict")) rfl), sys_ok (hf 57 (.sys) rfl), He.free_ok X N (hf 58 (.fa (.free "repr")) rfl), He.glo_ok X N (hf 59 (.fa (.glo "_law_edition")) rfl), He.glo_ok X N (hf 60 (.fa (.glo "_law_outcomes")) rfl), He.glo_ok X N (hf 61 (.fa (.glo "_law_usual")) rfl), He.glo_ok X N (hf 62 (.fa (.glo "_law_within")) rfl), He.free_ok X N (hf 63 (.fa (.free "min")) rfl), dun_ok (hf 64 (.fn (dunB "Program" "__add__")) rfl), (hf 65 (.fn (selfB "Program")) rfl), xfB_ok (hf 66 (.xf "TooMany") rfl), He.noat_ok (hf 67 (.fa (.noat "TooMany" "limit")) rfl), He.glo_ok X N (hf 68 (.fa (.glo "TooMany")) rfl), oex_ok (hf 69 (.oex "TooMany") rfl), ini_ok (hf 70 (.ini "TooMany") rfl), He.glo_ok X N (hf 71 (.fa (.glo "moved")) rfl), He.meth_ok (hf 72 (.fa (.meth "Program" "with_step")) rfl), xfB_ok (hf 73 (.xf "NoLine") rfl), He.noat_ok (hf 74 (.fa (.noat "NoLine" "index")) rfl), xfB_ok (hf 75 (.xf "BadProgram") rfl), He.noat_ok (hf 76 (.fa (.noat "BadProgram" "index")) rfl), He.noat_ok (hf 77 (.fa (.noat "BadProgram" "reason")) rfl), He.glo_ok X N (hf 78 (.fa (.glo "NoLine")) rfl), He.glo_ok X N (hf 79 (.fa (.glo "is_index")) rfl), oexL_ok (hf 80 (.fn (oexLB "NoLine")) rfl), ini_ok (hf 81 (.ini "NoLine") rfl), He.glo_ok X N (hf 82 (.fa (.glo "law")) rfl), isaR_ok (hf 83 (.isas rows) rfl), hitR_ok (hf 84 (.hits "TooMany" [("BadProgram", false), ("NoLine", false), ("TooMany", true)]) rfl), hitR_ok (hf 85 (.hits "NoLine" [("BadProgram", false), ("NoLine", true), ("TooMany", false)]) rfl), hitR_ok (hf 86 (.hits "BadProgram" [("BadProgram", true), ("NoLine", false), ("TooMany", false)]) rfl)⟩
section
variable {P : Program} {w : World} {K : PySem.W.Frag} {mg : Str → Option Value} {base : Heap}
abbrev N_BadProgram_init : List Str := ["self", "index", "reason"]
theorem sc_BadProgram_init : FnScope ["self", "index", "reason"] ["self", "index", "reason"] (defScope d_BadProgram_init.st) := ⟨rfl, rfl, rfl, by decide +kernel, rfl, by decide +kernel, by decide +kernel⟩
theorem w_BadProgram_init (O : Ok K mg) (c : SaysQ fb fnl tabs w K) : ∃ fd, FnOk P w K mg base (L2.CX P w) 1 (d_BadProgram_init.path K) fd ["self", "index", "reason"] (spI (He.ga K "BadProgram") ["index", "reason"]) ∧ Binds K fd ["self", "index", "reason"] [] ∧ PySem.W.keepIn K (.ref (d_BadProgram_init.path K)) = true := by
  obtain ⟨fd, F⟩ := c.def_ 0 (d := d_BadProgram_init)
  exact ⟨fd, init_ok2 F sc_BadProgram_init O.oex_BadProgram O.noat_BadProgram_index O.noat_BadProgram_reason (fun cdv A outer s1 H E => (pss_cons (ps_ost (pv 0) (pv 1)) (pss_one (ps_ost (pv 0) (pv 2))))), F.binds fun _ _ _ _ _ _ us hl => match us, hl with | [_, _, _], _ => rfl, F.kp⟩
abbrev N_is_word : List Str := ["value", "words"]
theorem sc_is_word : FnScope ["value", "words"] ["value", "words"] (defScope d_is_word.st) := ⟨rfl, rfl, rfl, by decide +kernel, rfl, by decide +kernel, by decide +kernel⟩
noncomputable def m_is_word : SM :=
    (sRet (mAnd (mIsi isa [.ty "str"] (mVar 0)) (mOp (opIn false) (mVar 0) (mVar 1))))
noncomputable def f_is_word : Fn := fnB 2 2 m_is_word
theorem w_is_word (O : Ok K mg) (c : SaysQ fb fnl tabs w K) : Fk P w K mg base 1 (d_is_word.path K) ["value", "words"] (spOf (cnOf K) 2 f_is_word) := by
  obtain ⟨fd, F⟩ := c.def_ 1 (d := d_is_word)
  have b : L2.Binds K fd ["value", "words"] [] := F.binds fun _ _ _ _ _ _ us hl => match us, hl with | [_, _], _ => rfl
  have z := fn_def (P := P) (w := w) (mg := mg) (base := base) (k := 0) (G := cnOf K) (m := m_is_word) F sc_is_word fun cdv A outer s H E rm =>
    (js_one (js_ret (je_and (je_isi (isiX_of rfl O.isa rfl) rfl O.g_isinstance (jv 0) (cls_ty rfl O.g_str (by decide +kernel))) (je_one (j_in (jv 0) (jv 1))))))
  exact ⟨fd, z, b, F.kp⟩
abbrev N_are_outcomes : List Str := ["value", "item", "word"]
theorem sc_are_outcomes : FnScope ["value", "item", "word"] ["value"] (defScope d_are_outcomes.st) := ⟨rfl, rfl, rfl, by decide +kernel, rfl, by decide +kernel, by decide +kernel⟩
noncomputable def m_are_outcomes : SM :=
    (sSeq (sIf (mOrT (mNotT (mTru (mIsi isa [.ty "tuple"] (mVar 0)))) (mOrT (mTest (mOp (opE0 false) (mVar 0) (mTup mNil))) (mNotT (mTru (mCall (fL gAll) (mCons (mLc (.nm 1) (mIt (mVar 0)) mYes (mCall (ar 2 f_is_word) (mCons (mVar 1) (mCons (mC (.tup [.str "ok", .str "no", .str "lost"])) mNil))) [1]) mNil))))))
    (sRet (mC (.bl false)))
    sNil)
    (sRet (mOp (opEqD false) (mVar 0) (mCall fTup (mCons (mLc (.nm 2) (mIt (mC (.tup [.str "ok", .str "no", .str "lost"]))) (mTest (mOp (opIn false) (mVar 2) (mVar 0))) (mVar 2) [2]) mNil)))))
noncomputable def f_are_outcomes : Fn := fnB 1 3 m_are_outcomes
theorem w_are_outcomes (O : Ok K mg) (c : SaysQ fb fnl tabs w K) : Fk P w K mg base 2 (d_are_outcomes.path K) ["value"] (spOf (cnOf K) 1 f_are_outcomes) := by
  have W_is_word := w_is_word (P := P) (w := w) (base := base) O c
  obtain ⟨fd, F⟩ := c.def_ 2 (d := d_are_outcomes)
  have b : L2.Binds K fd ["value"] [] := F.binds fun _ _ _ _ _ _ us hl => match us, hl with | [_], _ => rfl
  have z := fn_def (P := P) (w := w) (mg := mg) (base := base) (k := 1) (G := cnOf K) (m := m_are_outcomes) F sc_are_outcomes fun cdv A outer s H E rm =>
    (js_cons (js_if (PW.pt (jw_or (jt_not (j_t (je_isi (isiX_of rfl O.isa rfl) rfl O.g_isinstance (jv 0) (cls_ty rfl O.g_tuple (by decide +kernel))))) (jw_or (jt_e0 rm.units (jv 0) (je_tup ja_nil)) (jw_or1 (jt_not (j_t (jb_all (ja_cons (je_lc (own := [("item", 1)]) (t := (.nm 1)) rfl rfl sc_are_outcomes.nd (ji_seq rfl (jv 0)) (blkOk_by (N := N_are_outcomes) (sc := defScope d_are_outcomes.st) (by decide +kernel)) (by decide) (fun _ _ _ _ _ => (jg_name 1 sc_are_outcomes.nd)) (fun _ _ _ _ _ => jts_nil) (fun _ _ _ _ _ => (j_call W_is_word (by decide) rm O.g_is_word pss0 (ja_cons (jv 1) (ja_cons (j_gtup (vs := [.str "ok", .str "no", .str "lost"]) O.g_OUTCOMES O.t_OUTCOMES) ja_nil))))) ja_nil) rfl O.g_all)))))))
    (js_one (js_ret je_bl))
    js_nil)
    (js_one (js_ret (j_eq rm.units (jv 0) (jb_tuple (ja_cons (je_lc (own := [("word", 2)]) (t := (.nm 2)) rfl rfl sc_are_outcomes.nd (ji_seq rfl (j_gtup (vs := [.str "ok", .str "no", .str "lost"]) O.g_OUTCOMES O.t_OUTCOMES)) (blkOk_by (N := N_are_outcomes) (sc := defScope d_are_outcomes.st) (by decide +kernel)) (by decide) (fun _ _ _ _ _ => (jg_name 2 sc_are_outcomes.nd)) (fun _ _ _ _ _ => (jts_one (jt_in (jv 2) (jv 0)))) (fun _ _ _ _ _ => (jv 2))) ja_nil) O.g_tuple)))))
  exact ⟨fd, z, b, F.kp⟩
abbrev N_is_whole : List Str := ["value"]
theorem sc_is_whole : FnScope ["value"] ["value"] (defScope d_is_whole.st) := ⟨rfl, rfl, rfl, by decide +kernel, rfl, by decide +kernel, by decide +kernel⟩
noncomputable def m_is_whole : SM :=
    (sRet (mAnd (mIsi isa [.ty "int"] (mVar 0)) (mNot (mIsi isa [.ty "bool"] (mVar 0)))))
noncomputable def f_is_whole : Fn := fnB 1 1 m_is_whole
theorem w_is_whole (O : Ok K mg) (c : SaysQ fb fnl tabs w K) : Fk P w K mg base 1 (d_is_whole.path K) ["value"] (spOf (cnOf K) 1 f_is_whole) := by
  obtain ⟨fd, F⟩ := c.def_ 3 (d := d_is_whole)
  have b : L2.Binds K fd ["value"] [] := F.binds fun _ _ _ _ _ _ us hl => match us, hl with | [_], _ => rfl
  have z := fn_def (P := P) (w := w) (mg := mg) (base := base) (k := 0) (G := cnOf K) (m := m_is_whole) F sc_is_whole fun cdv A outer s H E rm =>
    (js_one (js_ret (je_and (je_isi (isiX_of rfl O.isa rfl) rfl O.g_isinstance (jv 0) (cls_ty rfl O.g_int (by decide +kernel))) (je_one (j_not (je_isi (isiX_of rfl O.isa rfl) rfl O.g_isinstance (jv 0) (cls_ty rfl O.g_bool (by decide +kernel))))))))
  exact ⟨fd, z, b, F.kp⟩
abbrev N_is_within : List Str := ["value", "low", "high"]
theorem sc_is_within : FnScope ["value", "low", "high"] ["value", "low", "high"] (defScope d_is_within.st) := ⟨rfl, rfl, rfl, by decide +kernel, rfl, by decide +kernel, by decide +kernel⟩
noncomputable def m_is_within : SM :=
    (sRet (mAnd (mCall (ar 1 f_is_whole) (mCons (mVar 0) mNil)) (mChain opLeI opLeI (mVar 1) (mVar 0) (mVar 2))))
noncomputable def f_is_within : Fn := fnB 3 3 m_is_within
theorem w_is_within (O : Ok K mg) (c : SaysQ fb fnl tabs w K) : Fk P w K mg base 2 (d_is_within.path K) ["value", "low", "high"] (spOf (cnOf K) 3 f_is_within) := by
  have W_is_whole := w_is_whole (P := P) (w := w) (base := base) O c
  obtain ⟨fd, F⟩ := c.def_ 4 (d := d_is_within)
  have b : L2.Binds K fd ["value", "low", "high"] [] := F.binds fun _ _ _ _ _ _ us hl => match us, hl with | [_, _, _], _ => rfl
  have z := fn_def (P := P) (w := w) (mg := mg) (base := base) (k := 1) (G := cnOf K) (m := m_is_within) F sc_is_within fun cdv A outer s H E rm =>
    (js_one (js_ret (je_and (j_call W_is_whole (by decide) rm O.g_is_whole pss_body (ja_cons (jv 0) ja_nil)) (je_one (je_chain op_le op_le os_cmpI os_cmpI (jv 1) (jv 0) (jv 2))))))
  exact ⟨fd, z, b, F.kp⟩
abbrev N_go_error : List Str := ["step", "lines"]
theorem sc_go_error : FnScope ["step", "lines"] ["step", "lines"] (defScope d_go_error.st) := ⟨rfl, rfl, rfl, by decide +kernel, rfl, by decide +kernel, by decide +kernel⟩
noncomputable def m_go_error : SM :=
    (sSeq (sIf (mNotT (mTru (mCall (ar 3 f_is_within) (mCons (mOp opIx (mVar 0) (mC (.int 1))) (mCons (mC (.int 0)) (mCons (mVar 1) mNil))))))
    (sRet (mC (.str "line")))
    sNil)
    (sRet (mIf (mTru (mCall (ar 1 f_are_outcomes) (mCons (mOp opIx (mVar 0) (mC (.int 2))) mNil))) (mC .non) (mC (.str "outcomes")))))
noncomputable def f_go_error : Fn := fnB 2 2 m_go_error
theorem w_go_error (O : Ok K mg) (c : SaysQ fb fnl tabs w K) : Fk P w K mg base 3 (d_go_error.path K) ["step", "lines"] (spOf (cnOf K) 2 f_go_error) := by
  have W_are_outcomes := w_are_outcomes (P := P) (w := w) (base := base) O c
  have W_is_within := w_is_within (P := P) (w := w) (base := base) O c
  obtain ⟨fd, F⟩ := c.def_ 5 (d := d_go_error)
  have b : L2.Binds K fd ["step", "lines"] [] := F.binds fun _ _ _ _ _ _ us hl => match us, hl with | [_, _], _ => rfl
  have z := fn_def (P := P) (w := w) (mg := mg) (base := base) (k := 2) (G := cnOf K) (m := m_go_error) F sc_go_error fun cdv A outer s H E rm =>
    (js_cons (js_if (jt_not (j_t (j_call W_is_within (by decide) rm O.g_is_within pss_body (ja_cons (j_ix (jv 0) je_int) (ja_cons je_int (ja_cons (jv 1) ja_nil))))))
    (js_one (js_ret je_str))
    js_nil)
    (js_one (js_ret (je_if (j_t (j_call W_are_outcomes (by decide) rm O.g_are_outcomes pss_body (ja_cons (j_ix (jv 0) je_int) ja_nil))) je_non je_str))))
  exact ⟨fd, z, b, F.kp⟩
abbrev N_is_piece : List Str := ["value"]
theorem sc_is_piece : FnScope ["value"] ["value"] (defScope d_is_piece.st) := ⟨rfl, rfl, rfl, by decide +kernel, rfl, by decide +kernel, by decide +kernel⟩
noncomputable def m_is_piece : SM :=
    (sRet (mCall (ar 3 f_is_within) (mCons (mVar 0) (mCons (mC (.int 0)) (mCons (mC (.int 9)) mNil)))))
noncomputable def f_is_piece : Fn := fnB 1 1 m_is_piece
theorem w_is_piece (O : Ok K mg) (c : SaysQ fb fnl tabs w K) : Fk P w K mg base 3 (d_is_piece.path K) ["value"] (spOf (cnOf K) 1 f_is_piece) := by
  have W_is_within := w_is_within (P := P) (w := w) (base := base) O c
  obtain ⟨fd, F⟩ := c.def_ 6 (d := d_is_piece)
  have b : L2.Binds K fd ["value"] [] := F.binds fun _ _ _ _ _ _ us hl => match us, hl with | [_], _ => rfl
  have z := fn_def (P := P) (w := w) (mg := mg) (base := base) (k := 2) (G := cnOf K) (m := m_is_piece) F sc_is_piece fun cdv A outer s H E rm =>
    (js_one (js_ret (j_call W_is_within (by decide) rm O.g_is_within pss_body (ja_cons (jv 0) (ja_cons je_int (ja_cons je_int ja_nil))))))
  exact ⟨fd, z, b, F.kp⟩
abbrev N_is_edition : List Str := ["value", "piece"]
theorem sc_is_edition : FnScope ["value", "piece"] ["value"] (defScope d_is_edition.st) := ⟨rfl, rfl, rfl, by decide +kernel, rfl, by decide +kernel, by decide +kernel⟩
noncomputable def m_is_edition : SM :=
    (sRet (mAnd (mIsi isa [.ty "tuple"] (mVar 0)) (mAnd (mChain opLeI opLeI (mC (.int 1)) (mCall fLen (mCons (mVar 0) mNil)) (mC (.int (3)))) (mCall (fL gAll) (mCons (mLc (.nm 1) (mIt (mVar 0)) mYes (mCall (ar 1 f_is_piece) (mCons (mVar 1) mNil)) [1]) mNil)))))
noncomputable def f_is_edition : Fn := fnB 1 2 m_is_edition
theorem w_is_edition (O : Ok K mg) (c : SaysQ fb fnl tabs w K) : Fk P w K mg base 4 (d_is_edition.path K) ["value"] (spOf (cnOf K) 1 f_is_edition) := by
  have W_is_piece := w_is_piece (P := P) (w := w) (base := base) O c
  obtain ⟨fd, F⟩ := c.def_ 7 (d := d_is_edition)
  have b : L2.Binds K fd ["value"] [] := F.binds fun _ _ _ _ _ _ us hl => match us, hl with | [_], _ => rfl
  have z := fn_def (P := P) (w := w) (mg := mg) (base := base) (k := 3) (G := cnOf K) (m := m_is_edition) F sc_is_edition fun cdv A outer s H E rm =>
    (js_one (js_ret (je_and (je_isi (isiX_of rfl O.isa rfl) rfl O.g_isinstance (jv 0) (cls_ty rfl O.g_tuple (by decide +kernel))) (je_and (je_chain op_le op_le os_cmpI os_cmpI je_int (jb_len (ja_cons (jv 0) ja_nil) O.g_len) (by obtain ⟨t, h⟩ := O.c_MAX_PARTS; exact je_gint rfl h ⟨t, rfl⟩)) (je_one (jb_all (ja_cons (je_lc (own := [("piece", 1)]) (t := (.nm 1)) rfl rfl sc_is_edition.nd (ji_seq rfl (jv 0)) (blkOk_by (N := N_is_edition) (sc := defScope d_is_edition.st) (by decide +kernel)) (by decide) (fun _ _ _ _ _ => (jg_name 1 sc_is_edition.nd)) (fun _ _ _ _ _ => jts_nil) (fun _ _ _ _ _ => (j_call W_is_piece (by decide) rm O.g_is_piece pss0 (ja_cons (jv 1) ja_nil)))) ja_nil) rfl O.g_all))))))
  exact ⟨fd, z, b, F.kp⟩
abbrev N_join_error : List Str := ["step"]
theorem sc_join_error : FnScope ["step"] ["step"] (defScope d_join_error.st) := ⟨rfl, rfl, rfl, by decide +kernel, rfl, by decide +kernel, by decide +kernel⟩
noncomputable def m_join_error : SM :=
    (sSeq (sIf (mNotT (mTru (mCall (ar 1 f_is_edition) (mCons (mOp opIx (mVar 0) (mC (.int 1))) mNil))))
    (sRet (mC (.str "edition")))
    sNil)
    (sSeq (sIf (mNotT (mTru (mIsi isa [.ty "bool"] (mOp opIx (mVar 0) (mC (.int 2))))))
    (sRet (mC (.str "checked")))
    sNil)
    (sRet (mIf (mTru (mCall (ar 2 f_is_word) (mCons (mOp opIx (mVar 0) (mC (.int 3))) (mCons (mC (.tup [.str "any", .str "none", .str "same"])) mNil)))) (mC .non) (mC (.str "when"))))))
noncomputable def f_join_error : Fn := fnB 1 1 m_join_error
theorem w_join_error (O : Ok K mg) (c : SaysQ fb fnl tabs w K) : Fk P w K mg base 5 (d_join_error.path K) ["step"] (spOf (cnOf K) 1 f_join_error) := by
  have W_is_edition := w_is_edition (P := P) (w := w) (base := base) O c
  have W_is_word := w_is_word (P := P) (w := w) (base := base) O c
  obtain ⟨fd, F⟩ := c.def_ 8 (d := d_join_error)
  have b : L2.Binds K fd ["step"] [] := F.binds fun _ _ _ _ _ _ us hl => match us, hl with | [_], _ => rfl
  have z := fn_def (P := P) (w := w) (mg := mg) (base := base) (k := 4) (G := cnOf K) (m := m_join_error) F sc_join_error fun cdv A outer s H E rm =>
    (js_cons (js_if (jt_not (j_t (j_call W_is_edition (by decide) rm O.g_is_edition pss_body (ja_cons (j_ix (jv 0) je_int) ja_nil))))
    (js_one (js_ret je_str))
    js_nil)
    (js_cons (js_if (jt_not (j_t (je_isi (isiX_of rfl O.isa rfl) rfl O.g_isinstance (j_ix (jv 0) je_int) (cls_ty rfl O.g_bool (by decide +kernel)))))
    (js_one (js_ret je_str))
    js_nil)
    (js_one (js_ret (je_if (j_t (j_call W_is_word (by decide) rm O.g_is_word pss_body (ja_cons (j_ix (jv 0) je_int) (ja_cons (j_gtup (vs := [.str "any", .str "none", .str "same"]) O.g_WHENS O.t_WHENS) ja_nil)))) je_non je_str)))))
  exact ⟨fd, z, b, F.kp⟩
abbrev N_is_part : List Str := ["value"]
theorem sc_is_part : FnScope ["value"] ["value"] (defScope d_is_part.st) := ⟨rfl, rfl, rfl, by decide +kernel, rfl, by decide +kernel, by decide +kernel⟩
noncomputable def m_is_part : SM :=
    (sRet (mCall (ar 3 f_is_within) (mCons (mVar 0) (mCons (mC (.int 1)) (mCons (mC (.int (3))) mNil)))))
noncomputable def f_is_part : Fn := fnB 1 1 m_is_part
theorem w_is_part (O : Ok K mg) (c : SaysQ fb fnl tabs w K) : Fk P w K mg base 3 (d_is_part.path K) ["value"] (spOf (cnOf K) 1 f_is_part) := by
  have W_is_within := w_is_within (P := P) (w := w) (base := base) O c
  obtain ⟨fd, F⟩ := c.def_ 9 (d := d_is_part)
  have b : L2.Binds K fd ["value"] [] := F.binds fun _ _ _ _ _ _ us hl => match us, hl with | [_], _ => rfl
  have z := fn_def (P := P) (w := w) (mg := mg) (base := base) (k := 2) (G := cnOf K) (m := m_is_part) F sc_is_part fun cdv A outer s H E rm =>
    (js_one (js_ret (j_call W_is_within (by decide) rm O.g_is_within pss_body (ja_cons (jv 0) (ja_cons je_int (ja_cons (by obtain ⟨t, h⟩ := O.c_MAX_PARTS; exact je_gint rfl h ⟨t, rfl⟩) ja_nil))))))
  exact ⟨fd, z, b, F.kp⟩
abbrev N_lay_error : List Str := ["step"]
theorem sc_lay_error : FnScope ["step"] ["step"] (defScope d_lay_error.st) := ⟨rfl, rfl, rfl, by decide +kernel, rfl, by decide +kernel, by decide +kernel⟩
noncomputable def m_lay_error : SM :=
    (sSeq (sIf (mNotT (mTru (mCall (ar 1 f_is_part) (mCons (mOp opIx (mVar 0) (mC (.int 1))) mNil))))
    (sRet (mC (.str "part")))
    sNil)
    (sRet (mIf (mTru (mCall (ar 1 f_is_piece) (mCons (mOp opIx (mVar 0) (mC (.int 2))) mNil))) (mC .non) (mC (.str "piece")))))
noncomputable def f_lay_error : Fn := fnB 1 1 m_lay_error
theorem w_lay_error (O : Ok K mg) (c : SaysQ fb fnl tabs w K) : Fk P w K mg base 4 (d_lay_error.path K) ["step"] (spOf (cnOf K) 1 f_lay_error) := by
  have W_is_part := w_is_part (P := P) (w := w) (base := base) O c
  have W_is_piece := w_is_piece (P := P) (w := w) (base := base) O c
  obtain ⟨fd, F⟩ := c.def_ 10 (d := d_lay_error)
  have b : L2.Binds K fd ["step"] [] := F.binds fun _ _ _ _ _ _ us hl => match us, hl with | [_], _ => rfl
  have z := fn_def (P := P) (w := w) (mg := mg) (base := base) (k := 3) (G := cnOf K) (m := m_lay_error) F sc_lay_error fun cdv A outer s H E rm =>
    (js_cons (js_if (jt_not (j_t (j_call W_is_part (by decide) rm O.g_is_part pss_body (ja_cons (j_ix (jv 0) je_int) ja_nil))))
    (js_one (js_ret je_str))
    js_nil)
    (js_one (js_ret (je_if (j_t (j_call W_is_piece (by decide) rm O.g_is_piece pss_body (ja_cons (j_ix (jv 0) je_int) ja_nil))) je_non je_str))))
  exact ⟨fd, z, b, F.kp⟩
abbrev N_step_error : List Str := ["value", "lines", "word"]
theorem sc_step_error : FnScope ["value", "lines", "word"] ["value", "lines"] (defScope d_step_error.st) := ⟨rfl, rfl, rfl, by decide +kernel, rfl, by decide +kernel, by decide +kernel⟩
noncomputable def m_step_error : SM :=
    (sSeq (sIf (mOrT (mNotT (mTru (mIsi isa [.ty "tuple"] (mVar 0)))) (mOrT (mTest (mOp (opE0 false) (mVar 0) (mTup mNil))) (mOrT (mNotT (mTru (mIsi isa [.ty "str"] (mOp opIx (mVar 0) (mC (.int 0)))))) (mTest (mInK true ["begin", "lay", "join", "throw", "look", "find", "go"] (mOp opIx (mVar 0) (mC (.int 0))))))))
    (sRet (mC (.str "step")))
    sNil)
    (sSeq (sSet 2 (mOp opIx (mVar 0) (mC (.int 0))))
    (sSeq (sIf (mTest (mOp (opEqD true) (mCall fLen (mCons (mVar 0) mNil)) (mGetK [("begin", .int (1)), ("lay", .int (3)), ("join", .int (4)), ("throw", .int (1)), ("look", .int (1)), ("find", .int (1)), ("go", .int (3))] (mVar 2))))
    (sRet (mC (.str "items")))
    sNil)
    (sSeq (sIf (mTest (mOp (opEqD false) (mVar 2) (mC (.str "lay"))))
    (sRet (mCall (ar 1 f_lay_error) (mCons (mVar 0) mNil)))
    sNil)
    (sSeq (sIf (mTest (mOp (opEqD false) (mVar 2) (mC (.str "join"))))
    (sRet (mCall (ar 1 f_join_error) (mCons (mVar 0) mNil)))
    sNil)
    (sSeq (sIf (mTest (mOp (opEqD false) (mVar 2) (mC (.str "go"))))
    (sRet (mCall (ar 2 f_go_error) (mCons (mVar 0) (mCons (mVar 1) mNil))))
    sNil)
    (sRet (mC .non))))))))
noncomputable def f_step_error : Fn := fnB 2 3 m_step_error
theorem w_step_error (O : Ok K mg) (c : SaysQ fb fnl tabs w K) : Fk P w K mg base 6 (d_step_error.path K) ["value", "lines"] (spOf (cnOf K) 2 f_step_error) := by
  have W_go_error := w_go_error (P := P) (w := w) (base := base) O c
  have W_join_error := w_join_error (P := P) (w := w) (base := base) O c
  have W_lay_error := w_lay_error (P := P) (w := w) (base := base) O c
  obtain ⟨fd, F⟩ := c.def_ 11 (d := d_step_error)
  have b : L2.Binds K fd ["value", "lines"] [] := F.binds fun _ _ _ _ _ _ us hl => match us, hl with | [_, _], _ => rfl
  have z := fn_def (P := P) (w := w) (mg := mg) (base := base) (k := 5) (G := cnOf K) (m := m_step_error) F sc_step_error fun cdv A outer s H E rm =>
    (js_cons (js_if (PW.pt (jw_or (jt_not (j_t (je_isi (isiX_of rfl O.isa rfl) rfl O.g_isinstance (jv 0) (cls_ty rfl O.g_tuple (by decide +kernel))))) (jw_or (jt_e0 rm.units (jv 0) (je_tup ja_nil)) (jw_or (jt_not (j_t (je_isi (isiX_of rfl O.isa rfl) rfl O.g_isinstance (j_ix (jv 0) je_int) (cls_ty rfl O.g_str (by decide +kernel))))) (jw_or1 (jt_notInK (c.tab 0 (t := (fun K => He.ga K "ITEMS", ["begin", "lay", "join", "throw", "look", "find", "go"])) rfl) O.g_ITEMS (j_ix (jv 0) je_int)))))))
    (js_one (js_ret je_str))
    js_nil)
    (js_cons (j_set 2 sc_step_error.nd (j_ix (jv 0) je_int))
    (js_cons (js_if (jt_ne rm.units (jb_len (ja_cons (jv 0) ja_nil) O.g_len) (j_getK rfl (c.tab 0 (t := (fun K => He.ga K "ITEMS", ["begin", "lay", "join", "throw", "look", "find", "go"])) rfl) O.v_ITEMS O.g_ITEMS (jv 2)))
    (js_one (js_ret je_str))
    js_nil)
    (js_cons (js_if (jt_eq rm.units (jv 2) je_str)
    (js_one (js_ret (j_call W_lay_error (by decide) rm O.g_lay_error pss_body (ja_cons (jv 0) ja_nil))))
    js_nil)
    (js_cons (js_if (jt_eq rm.units (jv 2) je_str)
    (js_one (js_ret (j_call W_join_error (by decide) rm O.g_join_error pss_body (ja_cons (jv 0) ja_nil))))
    js_nil)
    (js_cons (js_if (jt_eq rm.units (jv 2) je_str)
    (js_one (js_ret (j_call W_go_error (by decide) rm O.g_go_error pss_body (ja_cons (jv 0) (ja_cons (jv 1) ja_nil)))))
    js_nil)
    (js_one (js_ret je_non))))))))
  exact ⟨fd, z, b, F.kp⟩
abbrev N_Program_init : List Str := ["self", "steps", "index", "step", "reason"]
theorem sc_Program_init : FnScope ["self", "steps", "index", "step", "reason"] ["self", "steps"] (defScope d_Program_init.st) := ⟨rfl, rfl, rfl, by decide +kernel, rfl, by decide +kernel, by decide +kernel⟩
noncomputable def m_Program_init : SM :=
    (sSeq (sIf (mOrT (mNotT (mTru (mIsi isa [.ty "tuple"] (mVar 1)))) (mNotT (mTest (mChain opLeI opLeI (mC (.int 1)) (mCall fLen (mCons (mVar 1) mNil)) (mC (.int (12)))))))
    (sRaise "BadProgram" ["index", "reason"] (mCons (mC .non) (mCons (mC (.str "steps")) mNil)))
    sNil)
    (sSeq (sFor (.tu [(.nm 2), (.nm 3)]) (mEnumA (mCons (mVar 1) mNil))
    (sSeq (sSet 4 (mCall (ar 2 f_step_error) (mCons (mVar 3) (mCons (mCall fLen (mCons (mVar 1) mNil)) mNil))))
    (sIf (mTest (mOp (opIsN true) (mVar 4) (mC .non)))
    (sRaise "BadProgram" ["index", "reason"] (mCons (mVar 2) (mCons (mVar 4) mNil)))
    sNil)))
    (DL.sFld "Program" "listed" (mVar 0) (mVar 1))))
noncomputable def f_Program_init : Fn := fnB 2 5 m_Program_init
theorem w_Program_init (O : Ok K mg) (c : SaysQ fb fnl tabs w K) : Fk P w K mg base 7 (d_Program_init.path K) ["self", "steps"] (spOf (cnOf K) 2 f_Program_init) := by
  have W_BadProgram_init := w_BadProgram_init (P := P) (w := w) (base := base) O c
  have W_step_error := w_step_error (P := P) (w := w) (base := base) O c
  obtain ⟨fd, F⟩ := c.def_ 12 (d := d_Program_init)
  have b : L2.Binds K fd ["self", "steps"] [] := F.binds fun _ _ _ _ _ _ us hl => match us, hl with | [_, _], _ => rfl
  have z := fn_def (P := P) (w := w) (mg := mg) (base := base) (k := 6) (G := cnOf K) (m := m_Program_init) F sc_Program_init fun cdv A outer s H E rm =>
    (js_cons (js_if (PW.pt (jw_or (jt_not (j_t (je_isi (isiX_of rfl O.isa rfl) rfl O.g_isinstance (jv 1) (cls_ty rfl O.g_tuple (by decide +kernel))))) (jw_or1 (jt_not (jt_chain op_le op_le os_cmpI os_cmpI je_int (jb_len (ja_cons (jv 1) ja_nil) O.g_len) (by obtain ⟨t, h⟩ := O.c_MAX_STEPS; exact je_gint rfl h ⟨t, rfl⟩))))))
    (js_one (by obtain ⟨fd, F1, b1, kp1⟩ := W_BadProgram_init; exact js_raise (c := "BadProgram") rfl (takes_of rfl rfl rfl rfl) O.oex_BadProgram O.ini_BadProgram.1 O.ini_BadProgram.2 F1 (rm.r.mono (by decide)) b1 rfl O.g_BadProgram (ja_cons je_non (ja_cons je_str ja_nil))))
    js_nil)
    (js_cons (js_for rfl (passes_of rfl) rfl (ji_enumA rfl rfl O.g_enumerate (ja_cons (jv 1) ja_nil)) (jg_tu rfl (jg_cons (jg_name 2 sc_Program_init.nd) (jg_cons (jg_name 3 sc_Program_init.nd) jg_nil)))
    (js_cons (j_set 4 sc_Program_init.nd (j_call W_step_error (by decide) rm O.g_step_error pss_body (ja_cons (jv 3) (ja_cons (jb_len (ja_cons (jv 1) ja_nil) O.g_len) ja_nil))))
    (js_one (js_if (jt_notN (jv 4) je_non)
    (js_one (by obtain ⟨fd, F1, b1, kp1⟩ := W_BadProgram_init; exact js_raise (c := "BadProgram") rfl (takes_of rfl rfl rfl rfl) O.oex_BadProgram O.ini_BadProgram.1 O.ini_BadProgram.2 F1 (rm.r.mono (by decide)) b1 rfl O.g_BadProgram (ja_cons (jv 2) (ja_cons (jv 4) ja_nil))))
    js_nil))))
    (js_one (js_fld (c := "Program") rfl O.cls_Program O.noat_Program_listed (ps_fld (jv 0) (jv 1) rfl)))))
  exact ⟨fd, z, b, F.kp⟩
abbrev N_Program_joins : List Str := ["self", "index", "step"]
theorem sc_Program_joins : FnScope ["self", "index", "step"] ["self"] (defScope d_Program_joins.st) := ⟨rfl, rfl, rfl, by decide +kernel, rfl, by decide +kernel, by decide +kernel⟩
noncomputable def m_Program_joins : SM :=
    (sRet (mCall fTup (mCons (mLc (.tu [(.nm 1), (.nm 2)]) (mEnumA (mCons (mFld "Program" "listed" (mVar 0)) mNil)) (mTest (mOp (opEqD false) (mOp opIx (mVar 2) (mC (.int 0))) (mC (.str "join")))) (mVar 1) [1, 2]) mNil)))
noncomputable def f_Program_joins : Fn := fnB 1 3 m_Program_joins
theorem w_Program_joins (O : Ok K mg) (c : SaysQ fb fnl tabs w K) : Fk P w K mg base 1 (d_Program_joins.path K) ["self"] (spOf (cnOf K) 1 f_Program_joins) := by
  obtain ⟨fd, F⟩ := c.def_ 13 (d := d_Program_joins)
  have b : L2.Binds K fd ["self"] [] := F.binds fun _ _ _ _ _ _ us hl => match us, hl with | [_], _ => rfl
  have z := fn_def (P := P) (w := w) (mg := mg) (base := base) (k := 0) (G := cnOf K) (m := m_Program_joins) F sc_Program_joins fun cdv A outer s H E rm =>
    (js_one (js_ret (jb_tuple (ja_cons (je_lc (own := [("index", 1), ("step", 2)]) (t := (.tu [(.nm 1), (.nm 2)])) rfl rfl sc_Program_joins.nd (ji_enumA rfl rfl O.g_enumerate (ja_cons (je_fld (c := "Program") rfl (jv 0) O.cls_Program O.noat_Program_listed) ja_nil)) (blkOk_by (N := N_Program_joins) (sc := defScope d_Program_joins.st) (by decide +kernel)) (by decide) (fun _ _ _ _ _ => (jg_tu rfl (jg_cons (jg_name 1 sc_Program_joins.nd) (jg_cons (jg_name 2 sc_Program_joins.nd) jg_nil)))) (fun _ _ _ _ _ => (jts_one (jt_eq rm.units (j_ix (jv 2) je_int) je_str))) (fun _ _ _ _ _ => (jv 1))) ja_nil) O.g_tuple)))
  exact ⟨fd, z, b, F.kp⟩
abbrev N_Program_checking : List Str := ["self", "indexes", "found", "index", "word", "edition", "checked", "when"]
theorem sc_Program_checking : FnScope ["self", "indexes", "found", "index", "word", "edition", "checked", "when"] ["self", "indexes"] (defScope d_Program_checking.st) := ⟨rfl, rfl, rfl, by decide +kernel, rfl, by decide +kernel, by decide +kernel⟩
noncomputable def m_Program_checking : SM :=
    (sSeq (sSet 2 (mCall fListC (mCons (mFld "Program" "listed" (mVar 0)) mNil)))
    (sSeq (sFor (.nm 3) (mIt (mMeth "Program" "joins" (ar 1 f_Program_joins) (mVar 0) mNil))
    (sSeq (sAsg (.tu [(.nm 4), (.nm 5), (.nm 6), (.nm 7)]) (mOp opIx (mVar 2) (mVar 3)))
    (sSub (mVar 2) (mVar 3) (mTup (mCons (mVar 4) (mCons (mVar 5) (mCons (mOp (opIn false) (mVar 3) (mVar 1)) (mCons (mVar 7) mNil))))))))
    (sRet (mCall (mkF "Program" (ar 2 f_Program_init)) (mCons (mCall fTup (mCons (mVar 2) mNil)) mNil)))))
noncomputable def f_Program_checking : Fn := fnB 2 8 m_Program_checking
theorem w_Program_checking (O : Ok K mg) (c : SaysQ fb fnl tabs w K) : Fk P w K mg base 9 (d_Program_checking.path K) ["self", "indexes"] (spOf (cnOf K) 2 f_Program_checking) := by
  have W_Program_init := w_Program_init (P := P) (w := w) (base := base) O c
  have W_Program_joins := w_Program_joins (P := P) (w := w) (base := base) O c
  obtain ⟨fd, F⟩ := c.def_ 14 (d := d_Program_checking)
  have b : L2.Binds K fd ["self", "indexes"] [] := F.binds fun _ _ _ _ _ _ us hl => match us, hl with | [_, _], _ => rfl
  have z := fn_def (P := P) (w := w) (mg := mg) (base := base) (k := 8) (G := cnOf K) (m := m_Program_checking) F sc_Program_checking fun cdv A outer s H E rm =>
    (js_cons (j_set 2 sc_Program_checking.nd (jb_listC (ja_cons (je_fld (c := "Program") rfl (jv 0) O.cls_Program O.noat_Program_listed) ja_nil) O.g_list))
    (js_cons (js_for rfl (passes_of rfl) rfl (ji_seq rfl (j_meth0 (c := "Program") W_Program_joins (by decide) rm O.cls_Program O.meth_Program_joins pss_body (jv 0))) (jg_name 3 sc_Program_checking.nd)
    (js_cons (js_asg rfl (j_ix (jv 2) (jv 3)) (jg_tu rfl (jg_cons (jg_name 4 sc_Program_checking.nd) (jg_cons (jg_name 5 sc_Program_checking.nd) (jg_cons (jg_name 6 sc_Program_checking.nd) (jg_cons (jg_name 7 sc_Program_checking.nd) jg_nil))))))
    (js_one (j_subset (je_tup (ja_cons (jv 4) (ja_cons (jv 5) (ja_cons (j_in (jv 3) (jv 1)) (ja_cons (jv 7) ja_nil))))) (jv 2) (jv 3)))))
    (js_one (js_ret (j_make (c := "Program") W_Program_init (by decide) rm O.mk_Program O.g_Program pss_body (ja_cons (jb_tuple (ja_cons (jv 2) ja_nil) O.g_tuple) ja_nil))))))
  exact ⟨fd, z, b, F.kp⟩
abbrev N_Program_steps : List Str := ["self"]
theorem sc_Program_steps : FnScope ["self"] ["self"] (defScope d_Program_steps.st) := ⟨rfl, rfl, rfl, by decide +kernel, rfl, by decide +kernel, by decide +kernel⟩
noncomputable def m_Program_steps : SM :=
    (sRet (mFld "Program" "listed" (mVar 0)))
noncomputable def f_Program_steps : Fn := fnB 1 1 m_Program_steps
theorem w_Program_steps (O : Ok K mg) (c : SaysQ fb fnl tabs w K) : Fk P w K mg base 1 (d_Program_steps.path K) ["self"] (spOf (cnOf K) 1 f_Program_steps) := by
  obtain ⟨fd, F⟩ := c.def_ 15 (d := d_Program_steps)
  have b : L2.Binds K fd ["self"] [] := F.binds fun _ _ _ _ _ _ us hl => match us, hl with | [_], _ => rfl
  have z := fn_def (P := P) (w := w) (mg := mg) (base := base) (k := 0) (G := cnOf K) (m := m_Program_steps) F sc_Program_steps fun cdv A outer s H E rm =>
    (js_one (js_ret (je_fld (c := "Program") rfl (jv 0) O.cls_Program O.noat_Program_listed)))
  exact ⟨fd, z, b, F.kp⟩
abbrev N__law_next : List Str := ["_law_deck_here", "_law_many", "_law_rest", "_law_turn", "_law_number", "_law_mixed"]
theorem sc__law_next : FnScope ["_law_deck_here", "_law_many", "_law_rest", "_law_turn", "_law_number", "_law_mixed"] ["_law_deck_here", "_law_many"] (defScope d__law_next.st) := ⟨rfl, rfl, rfl, by decide +kernel, rfl, by decide +kernel, by decide +kernel⟩
noncomputable def m__law_next : SM :=
    (sSeq (whileGo (mTest (mOp (opE0 true) (mOp opIx (mVar 0) (mC (.int 0))) (mLst mNil)))
    (sSeq (sSet 2 (mOp opIx (mOp opIx (mVar 0) (mC (.int 0))) (mC (.int 0))))
    (sSeq (sIf (mTest (mOp opGtI (mVar 2) (mC (.int 0))))
    (sSeq (sSub (mOp opIx (mVar 0) (mC (.int 0))) (mC (.int 0)) (mOp opDiv (mVar 2) (mVar 1)))
    (sRet (mOp opMod (mCall fInt (mCons (mVar 2) mNil)) (mVar 1))))
    sNil)
    (sDrop (mPopAt (mOp opIx (mVar 0) (mC (.int 0))) (mCons (mC (.int 0)) mNil))))) 64)
    (sSeq (sSub (mVar 0) (mC (.int 2)) (mOp opAdd (mOp opIx (mVar 0) (mC (.int 2))) (mC (.int 1))))
    (sSeq (sSet 3 (mOp opIx (mVar 0) (mC (.int 2))))
    (sSeq (sSet 4 (mOp opMod (mCall fInt (mCons (mOp opIx (mOp opIx (mVar 0) (mC (.int 1))) (mOp opMod (mCall fInt (mCons (mVar 3) mNil)) (mCall fLen (mCons (mOp opIx (mVar 0) (mC (.int 1))) mNil)))) mNil)) (mC (.int 2147483629))))
    (sSeq (sSet 5 (mOp opMod (mCall fInt (mCons (mOp opAdd (mOp opAdd (mOp opMul (mVar 4) (mOp opAdd (mC (.int 50331)) (mOp opMul (mC (.int 68111)) (mVar 3)))) (mOp opMul (mOp opMul (mC (.int 41287)) (mVar 3)) (mVar 3))) (mC (.int 19))) mNil)) (mC (.int 2147483587))))
    (sRet (mOp opMod (mOp opDiv (mOp opMod (mCall fInt (mCons (mOp opMul (mVar 5) (mVar 5)) mNil)) (mC (.int 2147483579))) (mC (.int 16))) (mVar 1))))))))
noncomputable def f__law_next : Fn := fnB 2 6 m__law_next
theorem w__law_next (O : Ok K mg) (c : SaysQ fb fnl tabs w K) : Fk P w K mg base 1 (d__law_next.path K) ["_law_deck_here", "_law_many"] (spOf (cnOf K) 2 f__law_next) := by
  obtain ⟨fd, F⟩ := c.def_ 16 (d := d__law_next)
  have b : L2.Binds K fd ["_law_deck_here", "_law_many"] [] := F.binds fun _ _ _ _ _ _ us hl => match us, hl with | [_, _], _ => rfl
  have z := fn_def (P := P) (w := w) (mg := mg) (base := base) (k := 0) (G := cnOf K) (m := m__law_next) F sc__law_next fun cdv A outer s H E rm =>
    (js_cons (js_while 64 (passes_of rfl) (jt_n0 rm.units (j_ix (jv 0) je_int) (je_lst ja_nil))
    (js_cons (j_set 2 sc__law_next.nd (j_ix (j_ix (jv 0) je_int) je_int))
    (js_cons (js_if (jt_gt (jv 2) je_int)
    (js_cons (j_subset (j_div (jv 2) (jv 1)) (j_ix (jv 0) je_int) je_int)
    (js_one (js_ret (j_mod (jb_int (ja_cons (jv 2) ja_nil) O.g_int) (jv 1)))))
    js_nil)
    (js_one (js_expr (j_popAt (j_ix (jv 0) je_int) (ja_cons je_int ja_nil)))))))
    (js_cons (j_subset (j_add (j_ix (jv 0) je_int) je_int) (jv 0) je_int)
    (js_cons (j_set 3 sc__law_next.nd (j_ix (jv 0) je_int))
    (js_cons (j_set 4 sc__law_next.nd (j_mod (jb_int (ja_cons (j_ix (j_ix (jv 0) je_int) (j_mod (jb_int (ja_cons (jv 3) ja_nil) O.g_int) (jb_len (ja_cons (j_ix (jv 0) je_int) ja_nil) O.g_len))) ja_nil) O.g_int) je_int))
    (js_cons (j_set 5 sc__law_next.nd (j_mod (jb_int (ja_cons (j_add (j_add (j_mul (jv 4) (j_add je_int (j_mul je_int (jv 3)))) (j_mul (j_mul je_int (jv 3)) (jv 3))) je_int) ja_nil) O.g_int) je_int))
    (js_one (js_ret (j_mod (j_div (j_mod (jb_int (ja_cons (j_mul (jv 5) (jv 5)) ja_nil) O.g_int) je_int) je_int) (jv 1)))))))))
  exact ⟨fd, z, b, F.kp⟩
abbrev N__law_odd : List Str := ["_law_deck_here", "_law_some"]
theorem sc__law_odd : FnScope ["_law_deck_here", "_law_some"] ["_law_deck_here"] (defScope d__law_odd.st) := ⟨rfl, rfl, rfl, by decide +kernel, rfl, by decide +kernel, by decide +kernel⟩
noncomputable def m__law_odd : SM :=
    (sSeq (sSet 1 (mLst (mCons (mC .non) (mCons (mC (.bl true)) (mCons (mC (.bl false)) (mCons (mC (.int 0)) (mCons (mC (.int 1)) (mCons (mC (.int 2)) (mCons (mC (.int 3)) (mCons (mC (.int 4)) (mCons (mNeg (mC (.int 1))) (mCons (mC (.int 9)) (mCons (mC (.int 10)) (mCons (mC (.int 13)) (mCons (mOp opPow (mC (.int 10)) (mC (.int 30))) (mCons (mC (.str "")) (mCons (mC (.str "0")) (mCons (mC (.str "ok")) (mCons (mC (.str "go")) (mCons (mC (.str "begin")) (mCons (mC (.str "any")) (mCons (mTup mNil) (mCons (mLst mNil) mNil)))))))))))))))))))))))
    (sSeq (sSet 1 (mOp opAdd (mVar 1) (mLst (mCons (mTup (mCons (mC (.int 0)) mNil)) (mCons (mTup (mCons (mC (.int 0)) (mCons (mC (.int 1)) mNil))) (mCons (mLst (mCons (mC (.int 0)) (mCons (mC (.int 1)) mNil))) (mCons (mTup (mCons (mC .non) mNil)) (mCons (mTup (mCons (mC (.str "begin")) mNil)) (mCons (mLst (mCons (mC (.str "begin")) mNil)) (mCons (mTup (mCons (mC (.str "ok")) mNil)) (mCons (mLst (mCons (mC (.str "ok")) mNil)) (mCons (mTup (mCons (mC (.str "lost")) (mCons (mC (.str "ok")) mNil))) (mCons (mTup (mCons (mC (.int 4)) (mCons (mC (.int 7)) mNil))) (mCons (mC (.dct [] [])) mNil))))))))))))))
    (sSeq (sSet 1 (mOp opAdd (mVar 1) (mLst (mCons (mTup (mCons (mC (.bl true)) mNil)) (mCons (mTup (mCons (mC (.str "begin")) (mCons (mC (.int 0)) mNil))) (mCons (mTup (mCons (mC (.str "step")) (mCons (mC (.int 0)) (mCons (mC (.str "done")) mNil)))) (mCons (mTup (mCons (mC (.int 4)) (mCons (mLst (mCons (mC (.int 7)) mNil)) mNil))) (mCons (mTup (mCons (mC (.dct [] [])) mNil)) (mCons (mTup (mCons (mC (.str "ok")) (mCons (mC (.str "ok")) mNil))) (mCons (mTup (mCons (mC (.int 10)) mNil)) (mCons (mTup (mCons (mC (.int 4)) (mCons (mC (.int 7)) (mCons (mC (.int 0)) (mCons (mC (.int 9)) mNil))))) mNil)))))))))))
    (sSeq (sSet 1 (mOp opAdd (mVar 1) (mLst (mCons (mC (.dct [.inl 0] [.int 1])) (mCons (mC (.str "lost")) (mCons (mTup (mCons (mNeg (mC (.int 1))) mNil)) (mCons (mTup (mCons (mC (.int 4)) (mCons (mNeg (mC (.int 1))) mNil))) (mCons (mTup (mCons (mC (.int 0)) (mCons (mC (.int 10)) mNil))) mNil))))))))
    (sRet (mOp opIx (mVar 1) (mCall (ar 2 f__law_next) (mCons (mVar 0) (mCons (mCall fLen (mCons (mVar 1) mNil)) mNil)))))))))
noncomputable def f__law_odd : Fn := fnB 1 2 m__law_odd
theorem w__law_odd (O : Ok K mg) (c : SaysQ fb fnl tabs w K) : Fk P w K mg base 2 (d__law_odd.path K) ["_law_deck_here"] (spOf (cnOf K) 1 f__law_odd) := by
  have W__law_next := w__law_next (P := P) (w := w) (base := base) O c
  obtain ⟨fd, F⟩ := c.def_ 17 (d := d__law_odd)
  have b : L2.Binds K fd ["_law_deck_here"] [] := F.binds fun _ _ _ _ _ _ us hl => match us, hl with | [_], _ => rfl
  have z := fn_def (P := P) (w := w) (mg := mg) (base := base) (k := 1) (G := cnOf K) (m := m__law_odd) F sc__law_odd fun cdv A outer s H E rm =>
    (js_cons (j_set 1 sc__law_odd.nd (je_lst (ja_cons je_non (ja_cons je_bl (ja_cons je_bl (ja_cons je_int (ja_cons je_int (ja_cons je_int (ja_cons je_int (ja_cons je_int (ja_cons (je_neg je_int) (ja_cons je_int (ja_cons je_int (ja_cons je_int (ja_cons (j_pow je_int je_int) (ja_cons je_str (ja_cons je_str (ja_cons je_str (ja_cons je_str (ja_cons je_str (ja_cons je_str (ja_cons (je_tup ja_nil) (ja_cons (je_lst ja_nil) ja_nil)))))))))))))))))))))))
    (js_cons (j_set 1 sc__law_odd.nd (j_add (jv 1) (je_lst (ja_cons (je_tup (ja_cons je_int ja_nil)) (ja_cons (je_tup (ja_cons je_int (ja_cons je_int ja_nil))) (ja_cons (je_lst (ja_cons je_int (ja_cons je_int ja_nil))) (ja_cons (je_tup (ja_cons je_non ja_nil)) (ja_cons (je_tup (ja_cons je_str ja_nil)) (ja_cons (je_lst (ja_cons je_str ja_nil)) (ja_cons (je_tup (ja_cons je_str ja_nil)) (ja_cons (je_lst (ja_cons je_str ja_nil)) (ja_cons (je_tup (ja_cons je_str (ja_cons je_str ja_nil))) (ja_cons (je_tup (ja_cons je_int (ja_cons je_int ja_nil))) (ja_cons j_dnew ja_nil))))))))))))))
    (js_cons (j_set 1 sc__law_odd.nd (j_add (jv 1) (je_lst (ja_cons (je_tup (ja_cons je_bl ja_nil)) (ja_cons (je_tup (ja_cons je_str (ja_cons je_int ja_nil))) (ja_cons (je_tup (ja_cons je_str (ja_cons je_int (ja_cons je_str ja_nil)))) (ja_cons (je_tup (ja_cons je_int (ja_cons (je_lst (ja_cons je_int ja_nil)) ja_nil))) (ja_cons (je_tup (ja_cons j_dnew ja_nil)) (ja_cons (je_tup (ja_cons je_str (ja_cons je_str ja_nil))) (ja_cons (je_tup (ja_cons je_int ja_nil)) (ja_cons (je_tup (ja_cons je_int (ja_cons je_int (ja_cons je_int (ja_cons je_int ja_nil))))) ja_nil)))))))))))
    (js_cons (j_set 1 sc__law_odd.nd (j_add (jv 1) (je_lst (ja_cons j_dict1 (ja_cons je_str (ja_cons (je_tup (ja_cons (je_neg je_int) ja_nil)) (ja_cons (je_tup (ja_cons je_int (ja_cons (je_neg je_int) ja_nil))) (ja_cons (je_tup (ja_cons je_int (ja_cons je_int ja_nil))) ja_nil))))))))
    (js_one (js_ret (j_ix (jv 1) (j_call W__law_next (by decide) rm O.g__law_next pss_body (ja_cons (jv 0) (ja_cons (jb_len (ja_cons (jv 1) ja_nil) O.g_len) ja_nil))))))))))
  exact ⟨fd, z, b, F.kp⟩
abbrev N__law_bent : List Str := ["_law_deck_here", "_law_step_here", "_law_kind", "_law_at", "_law_odd_here"]
theorem sc__law_bent : FnScope ["_law_deck_here", "_law_step_here", "_law_kind", "_law_at", "_law_odd_here"] ["_law_deck_here", "_law_step_here"] (defScope d__law_bent.st) := ⟨rfl, rfl, rfl, by decide +kernel, rfl, by decide +kernel, by decide +kernel⟩
noncomputable def m__law_bent : SM :=
    (sSeq (sPar [2, 3, 4] (mCons (mCall (ar 2 f__law_next) (mCons (mVar 0) (mCons (mC (.int 9)) mNil))) (mCons (mCall (ar 2 f__law_next) (mCons (mVar 0) (mCons (mC (.int 5)) mNil))) (mCons (mCall (ar 1 f__law_odd) (mCons (mVar 0) mNil)) mNil))))
    (sSeq (sIf (mOrT (mNotT (mTru (mIsi isa [.ty "tuple"] (mVar 1)))) (mTest (mOp (opEqD false) (mVar 2) (mC (.int 0)))))
    (sRet (mVar 4))
    sNil)
    (sSeq (sIf (mTest (mOp opLtI (mVar 2) (mC (.int 6))))
    (sSeq (sSet 3 (mOp opMod (mVar 3) (mOp opAdd (mCall fLen (mCons (mVar 1) mNil)) (mC (.int 1)))))
    (sRet (mOp opAdd (mOp opAdd (mSl (mVar 1) none (some (mVar 3))) (mTup (mCons (mVar 4) mNil))) (mSl (mVar 1) (some (mOp opAdd (mVar 3) (mC (.int 1)))) none))))
    sNil)
    (sRet (mOp opIx (mLst (mCons (mOp opAdd (mVar 1) (mTup (mCons (mVar 4) mNil))) (mCons (mSl (mVar 1) none (some (mNeg (mC (.int 1))))) (mCons (mCall fList (mCons (mVar 1) mNil)) mNil)))) (mOp opSub (mVar 2) (mC (.int 6))))))))
noncomputable def f__law_bent : Fn := fnB 2 5 m__law_bent
theorem w__law_bent (O : Ok K mg) (c : SaysQ fb fnl tabs w K) : Fk P w K mg base 3 (d__law_bent.path K) ["_law_deck_here", "_law_step_here"] (spOf (cnOf K) 2 f__law_bent) := by
  have W__law_next := w__law_next (P := P) (w := w) (base := base) O c
  have W__law_odd := w__law_odd (P := P) (w := w) (base := base) O c
  obtain ⟨fd, F⟩ := c.def_ 18 (d := d__law_bent)
  have b : L2.Binds K fd ["_law_deck_here", "_law_step_here"] [] := F.binds fun _ _ _ _ _ _ us hl => match us, hl with | [_, _], _ => rfl
  have z := fn_def (P := P) (w := w) (mg := mg) (base := base) (k := 2) (G := cnOf K) (m := m__law_bent) F sc__law_bent fun cdv A outer s H E rm =>
    (js_cons (js_par3 (ps_par3 (i := 2) (j := 3) (l := 4) (by rfl) sc__law_bent.nd rfl rfl rfl (by decide) (by decide) (by decide) rfl rfl rfl (ja_cons (j_call W__law_next (by decide) rm O.g__law_next pss_body (ja_cons (jv 0) (ja_cons je_int ja_nil))) (ja_cons (j_call W__law_next (by decide) rm O.g__law_next pss_body (ja_cons (jv 0) (ja_cons je_int ja_nil))) (ja_cons (j_call W__law_odd (by decide) rm O.g__law_odd pss_body (ja_cons (jv 0) ja_nil)) ja_nil))) (by rfl)))
    (js_cons (js_if (PW.pt (jw_or (jt_not (j_t (je_isi (isiX_of rfl O.isa rfl) rfl O.g_isinstance (jv 1) (cls_ty rfl O.g_tuple (by decide +kernel))))) (jw_or1 (jt_eq rm.units (jv 2) je_int))))
    (js_one (js_ret (jv 4)))
    js_nil)
    (js_cons (js_if (jt_lt (jv 2) je_int)
    (js_cons (j_set 3 sc__law_bent.nd (j_mod (jv 3) (j_add (jb_len (ja_cons (jv 1) ja_nil) O.g_len) je_int)))
    (js_one (js_ret (j_add (j_add (je_sl rfl (jv 1) jo_none (jo_some (jv 3))) (je_tup (ja_cons (jv 4) ja_nil))) (je_sl rfl (jv 1) (jo_some (j_add (jv 3) je_int)) jo_none)))))
    js_nil)
    (js_one (js_ret (j_ix (je_lst (ja_cons (j_add (jv 1) (je_tup (ja_cons (jv 4) ja_nil))) (ja_cons (je_sl rfl (jv 1) jo_none (jo_some (je_neg je_int))) (ja_cons (jb_list (ja_cons (jv 1) ja_nil) O.g_list) ja_nil)))) (j_sub (jv 2) je_int)))))))
  exact ⟨fd, z, b, F.kp⟩
abbrev N__law_deck : List Str := ["_law_script", "_law_cells", "_law_number"]
theorem sc__law_deck : FnScope ["_law_script", "_law_cells", "_law_number"] ["_law_script"] (defScope d__law_deck.st) := ⟨rfl, rfl, rfl, by decide +kernel, rfl, by decide +kernel, by decide +kernel⟩
noncomputable def m__law_deck : SM :=
    (sSeq (sSet 1 (mLc (.nm 2) (mIt (mVar 0)) mYes (mCall fAbs (mCons (mVar 2) mNil)) [2]))
    (sRet (mLstC (mCons (mLcC (.nm 2) (mIt (mVar 1)) (mTest (mOp opGeI (mVar 2) (mOp opPow (mC (.int 10)) (mC (.int 18))))) (mVar 2) [2]) (mCons (mOp opAdd (mVar 1) (mLst (mCons (mOp opAdd (mCall fLen (mCons (mVar 1) mNil)) (mC (.int 5))) mNil))) (mCons (mC (.int 0)) mNil))))))
noncomputable def f__law_deck : Fn := fnB 1 3 m__law_deck
theorem w__law_deck (O : Ok K mg) (c : SaysQ fb fnl tabs w K) : Fk P w K mg base 1 (d__law_deck.path K) ["_law_script"] (spOf (cnOf K) 1 f__law_deck) := by
  obtain ⟨fd, F⟩ := c.def_ 19 (d := d__law_deck)
  have b : L2.Binds K fd ["_law_script"] [] := F.binds fun _ _ _ _ _ _ us hl => match us, hl with | [_], _ => rfl
  have z := fn_def (P := P) (w := w) (mg := mg) (base := base) (k := 0) (G := cnOf K) (m := m__law_deck) F sc__law_deck fun cdv A outer s H E rm =>
    (js_cons (js_setLc (i := 1) (own := [("_law_number", 2)]) (t := (.nm 2)) rfl rfl sc__law_deck.nd rfl rfl (sw_true rfl rfl rfl (by decide +kernel)) (ji_seq rfl (jv 0)) (blkOk_by (N := N__law_deck) (sc := defScope d__law_deck.st) (by decide +kernel)) (by decide) (fun _ _ _ _ _ => (jg_name 2 sc__law_deck.nd)) (fun _ _ _ _ _ => jts_nil) (fun _ _ _ _ _ => (jb_abs (ja_cons (jv 2) ja_nil) O.g_abs)))
    (js_one (js_ret (je_lstC (ja_cons (je_lcC (own := [("_law_number", 2)]) (t := (.nm 2)) rfl rfl sc__law_deck.nd (ji_seq rfl (jv 1)) (blkOk_by (N := N__law_deck) (sc := defScope d__law_deck.st) (by decide +kernel)) (by decide) (fun _ _ _ _ _ => (jg_name 2 sc__law_deck.nd)) (fun _ _ _ _ _ => (jts_one (jt_ge (jv 2) (j_pow je_int je_int)))) (fun _ _ _ _ _ => (jv 2))) (ja_cons (j_add (jv 1) (je_lst (ja_cons (j_add (jb_len (ja_cons (jv 1) ja_nil) O.g_len) je_int) ja_nil))) (ja_cons je_int ja_nil)))))))
  exact ⟨fd, z, b, F.kp⟩
abbrev N__law_moved : List Str := ["_law_step_here", "_law_by"]
theorem sc__law_moved : FnScope ["_law_step_here", "_law_by"] ["_law_step_here", "_law_by"] (defScope d__law_moved.st) := ⟨rfl, rfl, rfl, by decide +kernel, rfl, by decide +kernel, by decide +kernel⟩
noncomputable def m__law_moved : SM :=
    (sRet (mIf (mTest (mOp (opEqD false) (mOp opIx (mVar 0) (mC (.int 0))) (mC (.str "go")))) (mTup (mCons (mC (.str "go")) (mCons (mOp opAdd (mOp opIx (mVar 0) (mC (.int 1))) (mVar 1)) (mCons (mOp opIx (mVar 0) (mC (.int 2))) mNil)))) (mVar 0)))
noncomputable def f__law_moved : Fn := fnB 2 2 m__law_moved
theorem w__law_moved (O : Ok K mg) (c : SaysQ fb fnl tabs w K) : Fk P w K mg base 1 (d__law_moved.path K) ["_law_step_here", "_law_by"] (spOf (cnOf K) 2 f__law_moved) := by
  obtain ⟨fd, F⟩ := c.def_ 20 (d := d__law_moved)
  have b : L2.Binds K fd ["_law_step_here", "_law_by"] [] := F.binds fun _ _ _ _ _ _ us hl => match us, hl with | [_, _], _ => rfl
  have z := fn_def (P := P) (w := w) (mg := mg) (base := base) (k := 0) (G := cnOf K) (m := m__law_moved) F sc__law_moved fun cdv A outer s H E rm =>
    (js_one (js_ret (je_if (jt_eq rm.units (j_ix (jv 0) je_int) je_str) (je_tup (ja_cons je_str (ja_cons (j_add (j_ix (jv 0) je_int) (jv 1)) (ja_cons (j_ix (jv 0) je_int) ja_nil)))) (jv 0))))
  exact ⟨fd, z, b, F.kp⟩
abbrev N__law_whole : List Str := ["_law_value"]
theorem sc__law_whole : FnScope ["_law_value"] ["_law_value"] (defScope d__law_whole.st) := ⟨rfl, rfl, rfl, by decide +kernel, rfl, by decide +kernel, by decide +kernel⟩
noncomputable def m__law_whole : SM :=
    (sRet (mAnd (mIsi isa [.ty "int"] (mVar 0)) (mNot (mIsi isa [.ty "bool"] (mVar 0)))))
noncomputable def f__law_whole : Fn := fnB 1 1 m__law_whole
theorem w__law_whole (O : Ok K mg) (c : SaysQ fb fnl tabs w K) : Fk P w K mg base 1 (d__law_whole.path K) ["_law_value"] (spOf (cnOf K) 1 f__law_whole) := by
  obtain ⟨fd, F⟩ := c.def_ 21 (d := d__law_whole)
  have b : L2.Binds K fd ["_law_value"] [] := F.binds fun _ _ _ _ _ _ us hl => match us, hl with | [_], _ => rfl
  have z := fn_def (P := P) (w := w) (mg := mg) (base := base) (k := 0) (G := cnOf K) (m := m__law_whole) F sc__law_whole fun cdv A outer s H E rm =>
    (js_one (js_ret (je_and (je_isi (isiX_of rfl O.isa rfl) rfl O.g_isinstance (jv 0) (cls_ty rfl O.g_int (by decide +kernel))) (je_one (j_not (je_isi (isiX_of rfl O.isa rfl) rfl O.g_isinstance (jv 0) (cls_ty rfl O.g_bool (by decide +kernel))))))))
  exact ⟨fd, z, b, F.kp⟩
abbrev N__law_edited : List Str := ["_law_value", "_law_piece"]
theorem sc__law_edited : FnScope ["_law_value", "_law_piece"] ["_law_value"] (defScope d__law_edited.st) := ⟨rfl, rfl, rfl, by decide +kernel, rfl, by decide +kernel, by decide +kernel⟩
noncomputable def m__law_edited : SM :=
    (sSeq (sIf (mOrT (mNotT (mTru (mIsi isa [.ty "tuple"] (mVar 0)))) (mTest (mOp (opIn true) (mCall fLen (mCons (mVar 0) mNil)) (mTup (mCons (mC (.int 1)) (mCons (mC (.int 2)) (mCons (mC (.int 3)) mNil)))))))
    (sRet (mC (.bl false)))
    sNil)
    (sRet (mCall (fL gAll) (mCons (mLc (.nm 1) (mIt (mVar 0)) mYes (mAnd (mCall (ar 1 f__law_whole) (mCons (mVar 1) mNil)) (mChain opLeI opLeI (mC (.int 0)) (mVar 1) (mC (.int 9)))) [1]) mNil))))
noncomputable def f__law_edited : Fn := fnB 1 2 m__law_edited
theorem w__law_edited (O : Ok K mg) (c : SaysQ fb fnl tabs w K) : Fk P w K mg base 2 (d__law_edited.path K) ["_law_value"] (spOf (cnOf K) 1 f__law_edited) := by
  have W__law_whole := w__law_whole (P := P) (w := w) (base := base) O c
  obtain ⟨fd, F⟩ := c.def_ 22 (d := d__law_edited)
  have b : L2.Binds K fd ["_law_value"] [] := F.binds fun _ _ _ _ _ _ us hl => match us, hl with | [_], _ => rfl
  have z := fn_def (P := P) (w := w) (mg := mg) (base := base) (k := 1) (G := cnOf K) (m := m__law_edited) F sc__law_edited fun cdv A outer s H E rm =>
    (js_cons (js_if (PW.pt (jw_or (jt_not (j_t (je_isi (isiX_of rfl O.isa rfl) rfl O.g_isinstance (jv 0) (cls_ty rfl O.g_tuple (by decide +kernel))))) (jw_or1 (jt_notIn (jb_len (ja_cons (jv 0) ja_nil) O.g_len) (je_tup (ja_cons je_int (ja_cons je_int (ja_cons je_int ja_nil))))))))
    (js_one (js_ret je_bl))
    js_nil)
    (js_one (js_ret (jb_all (ja_cons (je_lc (own := [("_law_piece", 1)]) (t := (.nm 1)) rfl rfl sc__law_edited.nd (ji_seq rfl (jv 0)) (blkOk_by (N := N__law_edited) (sc := defScope d__law_edited.st) (by decide +kernel)) (by decide) (fun _ _ _ _ _ => (jg_name 1 sc__law_edited.nd)) (fun _ _ _ _ _ => jts_nil) (fun _ _ _ _ _ => (je_and (j_call W__law_whole (by decide) rm O.g__law_whole pss0 (ja_cons (jv 1) ja_nil)) (je_one (je_chain op_le op_le os_cmpI os_cmpI je_int (jv 1) je_int))))) ja_nil) rfl O.g_all))))
  exact ⟨fd, z, b, F.kp⟩
abbrev N__law_same : List Str := ["_law_found", "_law_due", "_law_one", "_law_other"]
theorem sc__law_same : FnScope ["_law_found", "_law_due", "_law_one", "_law_other"] ["_law_found", "_law_due"] (defScope d__law_same.st) := ⟨rfl, rfl, rfl, by decide +kernel, rfl, by decide +kernel, by decide +kernel⟩
noncomputable def m__law_same (rec : Fn) : SM :=
    (sSeq (sIf (mTru (mIsi isa [.ty "tuple", .ty "list"] (mVar 1)))
    (sSeq (sIf (mOrT (mTest (mOp (opEqD true) (mIsi isa [.ty "tuple"] (mVar 1)) (mIsi isa [.ty "tuple"] (mVar 0)))) (mTest (mOp (opEqD true) (mIsi isa [.ty "list"] (mVar 1)) (mIsi isa [.ty "list"] (mVar 0)))))
    (sRet (mC (.bl false)))
    sNil)
    (sRet (mAnd (mOp (opEqD false) (mCall fLen (mCons (mVar 0) mNil)) (mCall fLen (mCons (mVar 1) mNil))) (mCall (fL gAll) (mCons (mLc (.tu [(.nm 2), (.nm 3)]) (mZip (mCons (mVar 0) (mCons (mVar 1) mNil))) mYes (mCall (ar 2 rec) (mCons (mVar 2) (mCons (mVar 3) mNil))) [2, 3]) mNil)))))
    sNil)
    (sSeq (sIf (mTest (mOp (opIsN false) (mVar 1) (mC .non)))
    (sRet (mOp (opIsN false) (mVar 0) (mC .non)))
    sNil)
    (sSeq (sIf (mTru (mIsi isa [.ty "str"] (mVar 1)))
    (sRet (mAnd (mIsi isa [.ty "str"] (mVar 0)) (mOp (opEqD false) (mVar 0) (mVar 1))))
    sNil)
    (sSeq (sIf (mOrT (mTru (mIsi isa [.ty "bool"] (mVar 1))) (mTru (mIsi isa [.ty "bool"] (mVar 0))))
    (sRet (mAnd (mIsi isa [.ty "bool"] (mVar 0)) (mAnd (mIsi isa [.ty "bool"] (mVar 1)) (mOp (opEqD false) (mVar 0) (mVar 1)))))
    sNil)
    (sSeq (sIf (mTru (mIsi isa [.ty "int"] (mVar 1)))
    (sRet (mAnd (mIsi isa [.ty "int"] (mVar 0)) (mOp (opEqD false) (mVar 0) (mVar 1))))
    sNil)
    (sRet (mAnd (mIsi isa [.ty "dict"] (mVar 1)) (mAnd (mIsi isa [.ty "dict"] (mVar 0)) (mOp (opEqD false) (mCall fRepr (mCons (mVar 0) mNil)) (mCall fRepr (mCons (mVar 1) mNil)))))))))))
noncomputable def f__law_same : Nat → Fn
  | 0 => fun _ _ => .bad
  | n + 1 => fnB 2 4 (m__law_same (f__law_same n))
theorem w__law_same (O : Ok K mg) (c : SaysQ fb fnl tabs w K) (n : Nat) : Fk P w K mg base (1 + n) (d__law_same.path K) ["_law_found", "_law_due"] (spOf (cnOf K) 2 (f__law_same n)) := by
  obtain ⟨fd, F⟩ := c.def_ 23 (d := d__law_same)
  have b : L2.Binds K fd ["_law_found", "_law_due"] [] := F.binds fun _ _ _ _ _ _ us hl => match us, hl with | [_, _], _ => rfl
  induction n with
  | zero => exact ⟨fd, fn_zero (G := cnOf K) (n := 2) rfl, b, F.kp⟩
  | succ n W =>
    have z := fn_def (P := P) (w := w) (mg := mg) (base := base) (k := 1 + n) (G := cnOf K) (m := m__law_same (f__law_same n)) F sc__law_same fun cdv A outer s H E rm =>
      (js_cons (js_if (j_t (je_isiT (isiX_of rfl O.isa rfl) rfl O.g_isinstance (jv 1) (.cons (cls_ty rfl O.g_tuple (by decide +kernel)) (.cons (cls_ty rfl O.g_list (by decide +kernel)) .nil))))
    (js_cons (js_if (PW.pt (jw_or (jt_ne rm.units (je_isi (isiX_of rfl O.isa rfl) rfl O.g_isinstance (jv 1) (cls_ty rfl O.g_tuple (by decide +kernel))) (je_isi (isiX_of rfl O.isa rfl) rfl O.g_isinstance (jv 0) (cls_ty rfl O.g_tuple (by decide +kernel)))) (jw_or1 (jt_ne rm.units (je_isi (isiX_of rfl O.isa rfl) rfl O.g_isinstance (jv 1) (cls_ty rfl O.g_list (by decide +kernel))) (je_isi (isiX_of rfl O.isa rfl) rfl O.g_isinstance (jv 0) (cls_ty rfl O.g_list (by decide +kernel)))))))
    (js_one (js_ret je_bl))
    js_nil)
    (js_one (js_ret (je_and (j_eq rm.units (jb_len (ja_cons (jv 0) ja_nil) O.g_len) (jb_len (ja_cons (jv 1) ja_nil) O.g_len)) (je_one (jb_all (ja_cons (je_lc (own := [("_law_one", 2), ("_law_other", 3)]) (t := (.tu [(.nm 2), (.nm 3)])) rfl rfl sc__law_same.nd (ji_zip rfl rfl O.g_zip (ja_cons (jv 0) (ja_cons (jv 1) ja_nil))) (blkOk_by (N := N__law_same) (sc := defScope d__law_same.st) (by decide +kernel)) (by decide) (fun _ _ _ _ _ => (jg_tu rfl (jg_cons (jg_name 2 sc__law_same.nd) (jg_cons (jg_name 3 sc__law_same.nd) jg_nil)))) (fun _ _ _ _ _ => jts_nil) (fun _ _ _ _ _ => (j_call W (by omega) rm O.g__law_same pss0 (ja_cons (jv 2) (ja_cons (jv 3) ja_nil))))) ja_nil) rfl O.g_all))))))
    js_nil)
    (js_cons (js_if (jt_isN (jv 1) je_non)
    (js_one (js_ret (j_isN (jv 0) je_non)))
    js_nil)
    (js_cons (js_if (j_t (je_isi (isiX_of rfl O.isa rfl) rfl O.g_isinstance (jv 1) (cls_ty rfl O.g_str (by decide +kernel))))
    (js_one (js_ret (je_and (je_isi (isiX_of rfl O.isa rfl) rfl O.g_isinstance (jv 0) (cls_ty rfl O.g_str (by decide +kernel))) (je_one (j_eq rm.units (jv 0) (jv 1))))))
    js_nil)
    (js_cons (js_if (PW.pt (jw_or (j_t (je_isi (isiX_of rfl O.isa rfl) rfl O.g_isinstance (jv 1) (cls_ty rfl O.g_bool (by decide +kernel)))) (jw_or1 (j_t (je_isi (isiX_of rfl O.isa rfl) rfl O.g_isinstance (jv 0) (cls_ty rfl O.g_bool (by decide +kernel)))))))
    (js_one (js_ret (je_and (je_isi (isiX_of rfl O.isa rfl) rfl O.g_isinstance (jv 0) (cls_ty rfl O.g_bool (by decide +kernel))) (je_and (je_isi (isiX_of rfl O.isa rfl) rfl O.g_isinstance (jv 1) (cls_ty rfl O.g_bool (by decide +kernel))) (je_one (j_eq rm.units (jv 0) (jv 1)))))))
    js_nil)
    (js_cons (js_if (j_t (je_isi (isiX_of rfl O.isa rfl) rfl O.g_isinstance (jv 1) (cls_ty rfl O.g_int (by decide +kernel))))
    (js_one (js_ret (je_and (je_isi (isiX_of rfl O.isa rfl) rfl O.g_isinstance (jv 0) (cls_ty rfl O.g_int (by decide +kernel))) (je_one (j_eq rm.units (jv 0) (jv 1))))))
    js_nil)
    (js_one (js_ret (je_and (je_isi (isiX_of rfl O.isa rfl) rfl O.g_isinstance (jv 1) (cls_ty rfl O.g_dict (by decide +kernel))) (je_and (je_isi (isiX_of rfl O.isa rfl) rfl O.g_isinstance (jv 0) (cls_ty rfl O.g_dict (by decide +kernel))) (je_one (j_eq rm.units (jb_repr rm O.sys (ja_cons (jv 0) ja_nil) O.g_repr) (jb_repr rm O.sys (ja_cons (jv 1) ja_nil) O.g_repr))))))))))))
    exact ⟨fd, z, b, F.kp⟩
abbrev N__law_reason : List Str := ["_law_value", "_law_lines", "_law_sizes", "_law_found", "_law_right", "_law_wrong", "_law_row", "_law_name", "_law_fine"]
theorem sc__law_reason : FnScope ["_law_value", "_law_lines", "_law_sizes", "_law_found", "_law_right", "_law_wrong", "_law_row", "_law_name", "_law_fine"] ["_law_value", "_law_lines"] (defScope d__law_reason.st) := ⟨rfl, rfl, rfl, by decide +kernel, rfl, by decide +kernel, by decide +kernel⟩
noncomputable def m__law_reason : SM :=
    (sSeq (sSet 2 (mC (.dct [.inr "begin", .inr "lay", .inr "join", .inr "throw", .inr "look", .inr "find", .inr "go"] [.int (1), .int (3), .int (4), .int (1), .int (1), .int (1), .int (3)])))
    (sSeq (sIf (mOrT (mNotT (mTru (mIsi isa [.ty "tuple"] (mVar 0)))) (mOrT (mTest (mOp (opE0 false) (mVar 0) (mTup mNil))) (mOrT (mNotT (mTru (mIsi isa [.ty "str"] (mOp opIx (mVar 0) (mC (.int 0)))))) (mTest (mInD true (mOp opIx (mVar 0) (mC (.int 0))) (mVar 2))))))
    (sRet (mC (.str "step")))
    sNil)
    (sSeq (sIf (mTest (mOp (opEqD true) (mCall fLen (mCons (mVar 0) mNil)) (mGetD (mVar 2) (mOp opIx (mVar 0) (mC (.int 0))))))
    (sRet (mC (.str "items")))
    sNil)
    (sSeq (sSet 3 (mLst mNil))
    (sSeq (sIf (mTest (mOp (opEqD false) (mOp opIx (mVar 0) (mC (.int 0))) (mC (.str "lay"))))
    (sSeq (sSet 3 (mLst (mCons (mTup (mCons (mC (.str "part")) (mCons (mAnd (mCall (ar 1 f__law_whole) (mCons (mOp opIx (mVar 0) (mC (.int 1))) mNil)) (mChain opLeI opLeI (mC (.int 1)) (mOp opIx (mVar 0) (mC (.int 1))) (mC (.int 3)))) mNil))) mNil)))
    (sSet 3 (mOp opAdd (mVar 3) (mLst (mCons (mTup (mCons (mC (.str "piece")) (mCons (mAnd (mCall (ar 1 f__law_whole) (mCons (mOp opIx (mVar 0) (mC (.int 2))) mNil)) (mChain opLeI opLeI (mC (.int 0)) (mOp opIx (mVar 0) (mC (.int 2))) (mC (.int 9)))) mNil))) mNil)))))
    sNil)
    (sSeq (sIf (mTest (mOp (opEqD false) (mOp opIx (mVar 0) (mC (.int 0))) (mC (.str "join"))))
    (sSeq (sSet 3 (mLst (mCons (mTup (mCons (mC (.str "edition")) (mCons (mCall (ar 1 f__law_edited) (mCons (mOp opIx (mVar 0) (mC (.int 1))) mNil)) mNil))) (mCons (mTup (mCons (mC (.str "checked")) (mCons (mIsi isa [.ty "bool"] (mOp opIx (mVar 0) (mC (.int 2)))) mNil))) mNil))))
    (sSet 3 (mOp opAdd (mVar 3) (mLst (mCons (mTup (mCons (mC (.str "when")) (mCons (mAnd (mIsi isa [.ty "str"] (mOp opIx (mVar 0) (mC (.int 3)))) (mOp (opIn false) (mOp opIx (mVar 0) (mC (.int 3))) (mTup (mCons (mC (.str "any")) (mCons (mC (.str "none")) (mCons (mC (.str "same")) mNil)))))) mNil))) mNil)))))
    sNil)
    (sSeq (sIf (mTest (mOp (opEqD false) (mOp opIx (mVar 0) (mC (.int 0))) (mC (.str "go"))))
    (sSeq (sSet 4 (mLst (mCons (mTup (mCons (mC (.str "ok")) mNil)) (mCons (mTup (mCons (mC (.str "no")) mNil)) (mCons (mTup (mCons (mC (.str "lost")) mNil)) (mCons (mTup (mCons (mC (.str "ok")) (mCons (mC (.str "no")) mNil))) (mCons (mTup (mCons (mC (.str "ok")) (mCons (mC (.str "lost")) mNil))) (mCons (mTup (mCons (mC (.str "no")) (mCons (mC (.str "lost")) mNil))) (mCons (mTup (mCons (mC (.str "ok")) (mCons (mC (.str "no")) (mCons (mC (.str "lost")) mNil)))) mNil)))))))))
    (sSeq (sSet 3 (mLst (mCons (mTup (mCons (mC (.str "line")) (mCons (mAnd (mCall (ar 1 f__law_whole) (mCons (mOp opIx (mVar 0) (mC (.int 1))) mNil)) (mChain opLeI opLeI (mC (.int 0)) (mOp opIx (mVar 0) (mC (.int 1))) (mVar 1))) mNil))) mNil)))
    (sSet 3 (mOp opAdd (mVar 3) (mLst (mCons (mTup (mCons (mC (.str "outcomes")) (mCons (mCall (fL gAny) (mCons (mLc (.nm 6) (mIt (mVar 4)) mYes (mCall (ar 2 (f__law_same 6)) (mCons (mOp opIx (mVar 0) (mC (.int 2))) (mCons (mVar 6) mNil))) [6]) mNil)) mNil))) mNil))))))
    sNil)
    (sSeq (sSet 5 (mLc (.tu [(.nm 7), (.nm 8)]) (mIt (mVar 3)) (mNotT (mTru (mVar 8))) (mVar 7) [7, 8]))
    (sRet (mOp opIx (mOp opAdd (mVar 5) (mLst (mCons (mC .non) mNil))) (mC (.int 0))))))))))))
noncomputable def f__law_reason : Fn := fnB 2 9 m__law_reason
theorem w__law_reason (O : Ok K mg) (c : SaysQ fb fnl tabs w K) : Fk P w K mg base 8 (d__law_reason.path K) ["_law_value", "_law_lines"] (spOf (cnOf K) 2 f__law_reason) := by
  have W__law_edited := w__law_edited (P := P) (w := w) (base := base) O c
  have W__law_same := w__law_same (P := P) (w := w) (base := base) O c 6
  have W__law_whole := w__law_whole (P := P) (w := w) (base := base) O c
  obtain ⟨fd, F⟩ := c.def_ 24 (d := d__law_reason)
  have b : L2.Binds K fd ["_law_value", "_law_lines"] [] := F.binds fun _ _ _ _ _ _ us hl => match us, hl with | [_, _], _ => rfl
  have z := fn_def (P := P) (w := w) (mg := mg) (base := base) (k := 7) (G := cnOf K) (m := m__law_reason) F sc__law_reason fun cdv A outer s H E rm =>
    (js_cons (j_set 2 sc__law_reason.nd (j_dispC [(.inr "begin", .int (1)), (.inr "lay", .int (3)), (.inr "join", .int (4)), (.inr "throw", .int (1)), (.inr "look", .int (1)), (.inr "find", .int (1)), (.inr "go", .int (3))] (pps_cons pe_str pe_int (pps_cons pe_str pe_int (pps_cons pe_str pe_int (pps_cons pe_str pe_int (pps_cons pe_str pe_int (pps_cons pe_str pe_int (pps_cons pe_str pe_int pps_nil))))))) rfl (fun _ _ => (.cons (.int _) (.cons (.int _) (.cons (.int _) (.cons (.int _) (.cons (.int _) (.cons (.int _) (.cons (.int _) .nil))))))))))
    (js_cons (js_if (PW.pt (jw_or (jt_not (j_t (je_isi (isiX_of rfl O.isa rfl) rfl O.g_isinstance (jv 0) (cls_ty rfl O.g_tuple (by decide +kernel))))) (jw_or (jt_e0 rm.units (jv 0) (je_tup ja_nil)) (jw_or (jt_not (j_t (je_isi (isiX_of rfl O.isa rfl) rfl O.g_isinstance (j_ix (jv 0) je_int) (cls_ty rfl O.g_str (by decide +kernel))))) (jw_or1 (jt_notInD rm.units (j_ix (jv 0) je_int) (jv 2)))))))
    (js_one (js_ret je_str))
    js_nil)
    (js_cons (js_if (jt_ne rm.units (jb_len (ja_cons (jv 0) ja_nil) O.g_len) (j_getD rm.units (jv 2) (j_ix (jv 0) je_int)))
    (js_one (js_ret je_str))
    js_nil)
    (js_cons (j_set 3 sc__law_reason.nd (je_lst ja_nil))
    (js_cons (js_if (jt_eq rm.units (j_ix (jv 0) je_int) je_str)
    (js_cons (j_set 3 sc__law_reason.nd (je_lst (ja_cons (je_tup (ja_cons je_str (ja_cons (je_and (j_call W__law_whole (by decide) rm O.g__law_whole pss_body (ja_cons (j_ix (jv 0) je_int) ja_nil)) (je_one (je_chain op_le op_le os_cmpI os_cmpI je_int (j_ix (jv 0) je_int) je_int))) ja_nil))) ja_nil)))
    (js_one (j_set 3 sc__law_reason.nd (j_add (jv 3) (je_lst (ja_cons (je_tup (ja_cons je_str (ja_cons (je_and (j_call W__law_whole (by decide) rm O.g__law_whole pss_body (ja_cons (j_ix (jv 0) je_int) ja_nil)) (je_one (je_chain op_le op_le os_cmpI os_cmpI je_int (j_ix (jv 0) je_int) je_int))) ja_nil))) ja_nil))))))
    js_nil)
    (js_cons (js_if (jt_eq rm.units (j_ix (jv 0) je_int) je_str)
    (js_cons (j_set 3 sc__law_reason.nd (je_lst (ja_cons (je_tup (ja_cons je_str (ja_cons (j_call W__law_edited (by decide) rm O.g__law_edited pss_body (ja_cons (j_ix (jv 0) je_int) ja_nil)) ja_nil))) (ja_cons (je_tup (ja_cons je_str (ja_cons (je_isi (isiX_of rfl O.isa rfl) rfl O.g_isinstance (j_ix (jv 0) je_int) (cls_ty rfl O.g_bool (by decide +kernel))) ja_nil))) ja_nil))))
    (js_one (j_set 3 sc__law_reason.nd (j_add (jv 3) (je_lst (ja_cons (je_tup (ja_cons je_str (ja_cons (je_and (je_isi (isiX_of rfl O.isa rfl) rfl O.g_isinstance (j_ix (jv 0) je_int) (cls_ty rfl O.g_str (by decide +kernel))) (je_one (j_in (j_ix (jv 0) je_int) (je_tup (ja_cons je_str (ja_cons je_str (ja_cons je_str ja_nil))))))) ja_nil))) ja_nil))))))
    js_nil)
    (js_cons (js_if (jt_eq rm.units (j_ix (jv 0) je_int) je_str)
    (js_cons (j_set 4 sc__law_reason.nd (je_lst (ja_cons (je_tup (ja_cons je_str ja_nil)) (ja_cons (je_tup (ja_cons je_str ja_nil)) (ja_cons (je_tup (ja_cons je_str ja_nil)) (ja_cons (je_tup (ja_cons je_str (ja_cons je_str ja_nil))) (ja_cons (je_tup (ja_cons je_str (ja_cons je_str ja_nil))) (ja_cons (je_tup (ja_cons je_str (ja_cons je_str ja_nil))) (ja_cons (je_tup (ja_cons je_str (ja_cons je_str (ja_cons je_str ja_nil)))) ja_nil)))))))))
    (js_cons (j_set 3 sc__law_reason.nd (je_lst (ja_cons (je_tup (ja_cons je_str (ja_cons (je_and (j_call W__law_whole (by decide) rm O.g__law_whole pss_body (ja_cons (j_ix (jv 0) je_int) ja_nil)) (je_one (je_chain op_le op_le os_cmpI os_cmpI je_int (j_ix (jv 0) je_int) (jv 1)))) ja_nil))) ja_nil)))
    (js_one (j_set 3 sc__law_reason.nd (j_add (jv 3) (je_lst (ja_cons (je_tup (ja_cons je_str (ja_cons (jb_any (ja_cons (je_lc (own := [("_law_row", 6)]) (t := (.nm 6)) rfl rfl sc__law_reason.nd (ji_seq rfl (jv 4)) (blkOk_by (N := N__law_reason) (sc := defScope d__law_reason.st) (by decide +kernel)) (by decide) (fun _ _ _ _ _ => (jg_name 6 sc__law_reason.nd)) (fun _ _ _ _ _ => jts_nil) (fun _ _ _ _ _ => (j_call W__law_same (by decide) rm O.g__law_same pss0 (ja_cons (j_ix (jv 0) je_int) (ja_cons (jv 6) ja_nil))))) ja_nil) rfl O.g_any) ja_nil))) ja_nil)))))))
    js_nil)
    (js_cons (js_setLc (i := 5) (own := [("_law_name", 7), ("_law_fine", 8)]) (t := (.tu [(.nm 7), (.nm 8)])) rfl rfl sc__law_reason.nd rfl rfl (sw_true rfl rfl rfl (by decide +kernel)) (ji_seq rfl (jv 3)) (blkOk_by (N := N__law_reason) (sc := defScope d__law_reason.st) (by decide +kernel)) (by decide) (fun _ _ _ _ _ => (jg_tu rfl (jg_cons (jg_name 7 sc__law_reason.nd) (jg_cons (jg_name 8 sc__law_reason.nd) jg_nil)))) (fun _ _ _ _ _ => (jts_one (jt_not (j_t (jv 8))))) (fun _ _ _ _ _ => (jv 7)))
    (js_one (js_ret (j_ix (j_add (jv 5) (je_lst (ja_cons je_non ja_nil))) je_int)))))))))))
  exact ⟨fd, z, b, F.kp⟩
abbrev N__law_edition : List Str := ["_law_deck_here", "_law_turn"]
theorem sc__law_edition : FnScope ["_law_deck_here", "_law_turn"] ["_law_deck_here"] (defScope d__law_edition.st) := ⟨rfl, rfl, rfl, by decide +kernel, rfl, by decide +kernel, by decide +kernel⟩
noncomputable def m__law_edition : SM :=
    (sRet (mCall fTup (mCons (mLc (.nm 1) (mRng1 (mCons (mOp opAdd (mC (.int 1)) (mOp opIx (mLst (mCons (mC (.int 0)) (mCons (mC (.int 1)) (mCons (mC (.int 1)) (mCons (mC (.int 2)) mNil))))) (mCall (ar 2 f__law_next) (mCons (mVar 0) (mCons (mC (.int 4)) mNil))))) mNil)) mYes (mOp opIx (mLst (mCons (mC (.int 4)) (mCons (mC (.int 7)) (mCons (mC (.int 0)) (mCons (mC (.int 9)) mNil))))) (mCall (ar 2 f__law_next) (mCons (mVar 0) (mCons (mC (.int 4)) mNil)))) [1]) mNil)))
noncomputable def f__law_edition : Fn := fnB 1 2 m__law_edition
theorem w__law_edition (O : Ok K mg) (c : SaysQ fb fnl tabs w K) : Fk P w K mg base 2 (d__law_edition.path K) ["_law_deck_here"] (spOf (cnOf K) 1 f__law_edition) := by
  have W__law_next := w__law_next (P := P) (w := w) (base := base) O c
  obtain ⟨fd, F⟩ := c.def_ 25 (d := d__law_edition)
  have b : L2.Binds K fd ["_law_deck_here"] [] := F.binds fun _ _ _ _ _ _ us hl => match us, hl with | [_], _ => rfl
  have z := fn_def (P := P) (w := w) (mg := mg) (base := base) (k := 1) (G := cnOf K) (m := m__law_edition) F sc__law_edition fun cdv A outer s H E rm =>
    (js_one (js_ret (jb_tuple (ja_cons (je_lc (own := [("_law_turn", 1)]) (t := (.nm 1)) rfl rfl sc__law_edition.nd (ji_rng1 rfl O.g_range (ja_cons (j_add je_int (j_ix (je_lst (ja_cons je_int (ja_cons je_int (ja_cons je_int (ja_cons je_int ja_nil))))) (j_call W__law_next (by decide) rm O.g__law_next pss_body (ja_cons (jv 0) (ja_cons je_int ja_nil))))) ja_nil)) (blkOk_by (N := N__law_edition) (sc := defScope d__law_edition.st) (by decide +kernel)) (by decide) (fun _ _ _ _ _ => (jg_name 1 sc__law_edition.nd)) (fun _ _ _ _ _ => jts_nil) (fun _ _ _ _ _ => (j_ix (je_lst (ja_cons je_int (ja_cons je_int (ja_cons je_int (ja_cons je_int ja_nil))))) (j_call W__law_next (by decide) rm O.g__law_next pss0 (ja_cons (jv 0) (ja_cons je_int ja_nil)))))) ja_nil) O.g_tuple)))
  exact ⟨fd, z, b, F.kp⟩
abbrev N__law_outcomes : List Str := ["_law_deck_here", "_law_some"]
theorem sc__law_outcomes : FnScope ["_law_deck_here", "_law_some"] ["_law_deck_here"] (defScope d__law_outcomes.st) := ⟨rfl, rfl, rfl, by decide +kernel, rfl, by decide +kernel, by decide +kernel⟩
noncomputable def m__law_outcomes : SM :=
    (sSeq (sSet 1 (mLst (mCons (mTup (mCons (mC (.str "lost")) mNil)) (mCons (mTup (mCons (mC (.str "no")) mNil)) (mCons (mTup (mCons (mC (.str "ok")) (mCons (mC (.str "no")) (mCons (mC (.str "lost")) mNil)))) (mCons (mTup (mCons (mC (.str "no")) (mCons (mC (.str "lost")) mNil))) (mCons (mTup (mCons (mC (.str "ok")) mNil)) (mCons (mTup (mCons (mC (.str "ok")) (mCons (mC (.str "lost")) mNil))) (mCons (mTup (mCons (mC (.str "lost")) mNil)) mNil)))))))))
    (sRet (mOp opIx (mVar 1) (mCall (ar 2 f__law_next) (mCons (mVar 0) (mCons (mC (.int 7)) mNil))))))
noncomputable def f__law_outcomes : Fn := fnB 1 2 m__law_outcomes
theorem w__law_outcomes (O : Ok K mg) (c : SaysQ fb fnl tabs w K) : Fk P w K mg base 2 (d__law_outcomes.path K) ["_law_deck_here"] (spOf (cnOf K) 1 f__law_outcomes) := by
  have W__law_next := w__law_next (P := P) (w := w) (base := base) O c
  obtain ⟨fd, F⟩ := c.def_ 26 (d := d__law_outcomes)
  have b : L2.Binds K fd ["_law_deck_here"] [] := F.binds fun _ _ _ _ _ _ us hl => match us, hl with | [_], _ => rfl
  have z := fn_def (P := P) (w := w) (mg := mg) (base := base) (k := 1) (G := cnOf K) (m := m__law_outcomes) F sc__law_outcomes fun cdv A outer s H E rm =>
    (js_cons (j_set 1 sc__law_outcomes.nd (je_lst (ja_cons (je_tup (ja_cons je_str ja_nil)) (ja_cons (je_tup (ja_cons je_str ja_nil)) (ja_cons (je_tup (ja_cons je_str (ja_cons je_str (ja_cons je_str ja_nil)))) (ja_cons (je_tup (ja_cons je_str (ja_cons je_str ja_nil))) (ja_cons (je_tup (ja_cons je_str ja_nil)) (ja_cons (je_tup (ja_cons je_str (ja_cons je_str ja_nil))) (ja_cons (je_tup (ja_cons je_str ja_nil)) ja_nil)))))))))
    (js_one (js_ret (j_ix (jv 1) (j_call W__law_next (by decide) rm O.g__law_next pss_body (ja_cons (jv 0) (ja_cons je_int ja_nil)))))))
  exact ⟨fd, z, b, F.kp⟩
abbrev N__law_step : List Str := ["_law_deck_here", "_law_lines", "_law_kind", "_law_when"]
theorem sc__law_step : FnScope ["_law_deck_here", "_law_lines", "_law_kind", "_law_when"] ["_law_deck_here", "_law_lines"] (defScope d__law_step.st) := ⟨rfl, rfl, rfl, by decide +kernel, rfl, by decide +kernel, by decide +kernel⟩
noncomputable def m__law_step : SM :=
    (sSeq (sPar [2, 3] (mCons (mCall (ar 2 f__law_next) (mCons (mVar 0) (mCons (mC (.int 12)) mNil))) (mCons (mOp opIx (mLst (mCons (mC (.str "any")) (mCons (mC (.str "none")) (mCons (mC (.str "same")) mNil)))) (mCall (ar 2 f__law_next) (mCons (mVar 0) (mCons (mC (.int 3)) mNil)))) mNil)))
    (sSeq (sIf (mTest (mOp opLtI (mVar 2) (mC (.int 4))))
    (sRet (mOp opIx (mLst (mCons (mTup (mCons (mC (.str "begin")) mNil)) (mCons (mTup (mCons (mC (.str "throw")) mNil)) (mCons (mTup (mCons (mC (.str "look")) mNil)) (mCons (mTup (mCons (mC (.str "find")) mNil)) mNil))))) (mVar 2)))
    sNil)
    (sSeq (sIf (mTest (mOp opLtI (mVar 2) (mC (.int 7))))
    (sRet (mTup (mCons (mC (.str "lay")) (mCons (mOp opAdd (mC (.int 1)) (mOp opIx (mLst (mCons (mC (.int 0)) (mCons (mC (.int 0)) (mCons (mC (.int 1)) (mCons (mC (.int 2)) mNil))))) (mCall (ar 2 f__law_next) (mCons (mVar 0) (mCons (mC (.int 4)) mNil))))) (mCons (mOp opIx (mLst (mCons (mC (.int 4)) (mCons (mC (.int 7)) (mCons (mC (.int 0)) (mCons (mC (.int 9)) mNil))))) (mCall (ar 2 f__law_next) (mCons (mVar 0) (mCons (mC (.int 4)) mNil)))) mNil)))))
    sNil)
    (sSeq (sIf (mTest (mOp opLtI (mVar 2) (mC (.int 9))))
    (sRet (mTup (mCons (mC (.str "join")) (mCons (mCall (ar 1 f__law_edition) (mCons (mVar 0) mNil)) (mCons (mOp (opEqD false) (mCall (ar 2 f__law_next) (mCons (mVar 0) (mCons (mC (.int 2)) mNil))) (mC (.int 0))) (mCons (mVar 3) mNil))))))
    sNil)
    (sRet (mTup (mCons (mC (.str "go")) (mCons (mCall (ar 2 f__law_next) (mCons (mVar 0) (mCons (mOp opAdd (mVar 1) (mC (.int 1))) mNil))) (mCons (mCall (ar 1 f__law_outcomes) (mCons (mVar 0) mNil)) mNil)))))))))
noncomputable def f__law_step : Fn := fnB 2 4 m__law_step
theorem w__law_step (O : Ok K mg) (c : SaysQ fb fnl tabs w K) : Fk P w K mg base 3 (d__law_step.path K) ["_law_deck_here", "_law_lines"] (spOf (cnOf K) 2 f__law_step) := by
  have W__law_edition := w__law_edition (P := P) (w := w) (base := base) O c
  have W__law_next := w__law_next (P := P) (w := w) (base := base) O c
  have W__law_outcomes := w__law_outcomes (P := P) (w := w) (base := base) O c
  obtain ⟨fd, F⟩ := c.def_ 27 (d := d__law_step)
  have b : L2.Binds K fd ["_law_deck_here", "_law_lines"] [] := F.binds fun _ _ _ _ _ _ us hl => match us, hl with | [_, _], _ => rfl
  have z := fn_def (P := P) (w := w) (mg := mg) (base := base) (k := 2) (G := cnOf K) (m := m__law_step) F sc__law_step fun cdv A outer s H E rm =>
    (js_cons (js_par2 (ps_par (i := 2) (j := 3) (by rfl) sc__law_step.nd rfl rfl (by decide) rfl rfl (ja_cons (j_call W__law_next (by decide) rm O.g__law_next pss_body (ja_cons (jv 0) (ja_cons je_int ja_nil))) (ja_cons (j_ix (je_lst (ja_cons je_str (ja_cons je_str (ja_cons je_str ja_nil)))) (j_call W__law_next (by decide) rm O.g__law_next pss_body (ja_cons (jv 0) (ja_cons je_int ja_nil)))) ja_nil)) (by rfl)))
    (js_cons (js_if (jt_lt (jv 2) je_int)
    (js_one (js_ret (j_ix (je_lst (ja_cons (je_tup (ja_cons je_str ja_nil)) (ja_cons (je_tup (ja_cons je_str ja_nil)) (ja_cons (je_tup (ja_cons je_str ja_nil)) (ja_cons (je_tup (ja_cons je_str ja_nil)) ja_nil))))) (jv 2))))
    js_nil)
    (js_cons (js_if (jt_lt (jv 2) je_int)
    (js_one (js_ret (je_tup (ja_cons je_str (ja_cons (j_add je_int (j_ix (je_lst (ja_cons je_int (ja_cons je_int (ja_cons je_int (ja_cons je_int ja_nil))))) (j_call W__law_next (by decide) rm O.g__law_next pss_body (ja_cons (jv 0) (ja_cons je_int ja_nil))))) (ja_cons (j_ix (je_lst (ja_cons je_int (ja_cons je_int (ja_cons je_int (ja_cons je_int ja_nil))))) (j_call W__law_next (by decide) rm O.g__law_next pss_body (ja_cons (jv 0) (ja_cons je_int ja_nil)))) ja_nil))))))
    js_nil)
    (js_cons (js_if (jt_lt (jv 2) je_int)
    (js_one (js_ret (je_tup (ja_cons je_str (ja_cons (j_call W__law_edition (by decide) rm O.g__law_edition pss_body (ja_cons (jv 0) ja_nil)) (ja_cons (j_eq rm.units (j_call W__law_next (by decide) rm O.g__law_next pss_body (ja_cons (jv 0) (ja_cons je_int ja_nil))) je_int) (ja_cons (jv 3) ja_nil)))))))
    js_nil)
    (js_one (js_ret (je_tup (ja_cons je_str (ja_cons (j_call W__law_next (by decide) rm O.g__law_next pss_body (ja_cons (jv 0) (ja_cons (j_add (jv 1) je_int) ja_nil))) (ja_cons (j_call W__law_outcomes (by decide) rm O.g__law_outcomes pss_body (ja_cons (jv 0) ja_nil)) ja_nil))))))))))
  exact ⟨fd, z, b, F.kp⟩
abbrev N__law_usual : List Str := ["_law_deck_here", "_law_edition_here", "_law_steps_here", "_law_part", "_law_piece", "_law_more"]
theorem sc__law_usual : FnScope ["_law_deck_here", "_law_edition_here", "_law_steps_here", "_law_part", "_law_piece", "_law_more"] ["_law_deck_here"] (defScope d__law_usual.st) := ⟨rfl, rfl, rfl, by decide +kernel, rfl, by decide +kernel, by decide +kernel⟩
noncomputable def m__law_usual : SM :=
    (sSeq (sPar [1, 2] (mCons (mCall (ar 1 f__law_edition) (mCons (mVar 0) mNil)) (mCons (mLstC (mCons (mTup (mCons (mC (.str "begin")) mNil)) mNil)) mNil)))
    (sSeq (sIf (mTest (mOp (opEqD false) (mCall (ar 2 f__law_next) (mCons (mVar 0) (mCons (mC (.int 3)) mNil))) (mC (.int 0))))
    (sDrop (mApp (mVar 2) (mCons (mTup (mCons (mC (.str "go")) (mCons (mC (.int 0)) (mCons (mTup (mCons (mC (.str "lost")) mNil)) mNil)))) mNil)))
    sNil)
    (sSeq (sFor (.tu [(.nm 3), (.nm 4)]) (mEnumA (mCons (mVar 1) mNil))
    (sSeq (sDrop (mApp (mVar 2) (mCons (mTup (mCons (mC (.str "lay")) (mCons (mOp opAdd (mVar 3) (mC (.int 1))) (mCons (mVar 4) mNil)))) mNil)))
    (sIf (mTest (mOp (opEqD false) (mCall (ar 2 f__law_next) (mCons (mVar 0) (mCons (mC (.int 4)) mNil))) (mC (.int 0))))
    (sDrop (mApp (mVar 2) (mCons (mTup (mCons (mC (.str "go")) (mCons (mOp opSub (mCall fLen (mCons (mVar 2) mNil)) (mC (.int 1))) (mCons (mTup (mCons (mC (.str "lost")) mNil)) mNil)))) mNil)))
    sNil)))
    (sSeq (sDrop (mApp (mVar 2) (mCons (mTup (mCons (mC (.str "join")) (mCons (mVar 1) (mCons (mOp (opEqD false) (mCall (ar 2 f__law_next) (mCons (mVar 0) (mCons (mC (.int 2)) mNil))) (mC (.int 0))) (mCons (mOp opIx (mLst (mCons (mC (.str "any")) (mCons (mC (.str "any")) (mCons (mC (.str "none")) (mCons (mC (.str "same")) mNil))))) (mCall (ar 2 f__law_next) (mCons (mVar 0) (mCons (mC (.int 4)) mNil)))) mNil))))) mNil)))
    (sSeq (sSet 5 (mLst (mCons (mLst mNil) (mCons (mLst (mCons (mTup (mCons (mC (.str "throw")) mNil)) mNil)) (mCons (mLst (mCons (mTup (mCons (mC (.str "go")) (mCons (mOp opSub (mCall fLen (mCons (mVar 2) mNil)) (mC (.int 1))) (mCons (mTup (mCons (mC (.str "lost")) mNil)) mNil)))) mNil)) (mCons (mLst (mCons (mTup (mCons (mC (.str "look")) mNil)) mNil)) (mCons (mLst (mCons (mTup (mCons (mC (.str "find")) mNil)) (mCons (mTup (mCons (mC (.str "throw")) mNil)) mNil))) mNil)))))))
    (sRet (mOp opAdd (mVar 2) (mOp opIx (mVar 5) (mCall (ar 2 f__law_next) (mCons (mVar 0) (mCons (mC (.int 5)) mNil)))))))))))
noncomputable def f__law_usual : Fn := fnB 1 6 m__law_usual
theorem w__law_usual (O : Ok K mg) (c : SaysQ fb fnl tabs w K) : Fk P w K mg base 3 (d__law_usual.path K) ["_law_deck_here"] (spOf (cnOf K) 1 f__law_usual) := by
  have W__law_edition := w__law_edition (P := P) (w := w) (base := base) O c
  have W__law_next := w__law_next (P := P) (w := w) (base := base) O c
  obtain ⟨fd, F⟩ := c.def_ 28 (d := d__law_usual)
  have b : L2.Binds K fd ["_law_deck_here"] [] := F.binds fun _ _ _ _ _ _ us hl => match us, hl with | [_], _ => rfl
  have z := fn_def (P := P) (w := w) (mg := mg) (base := base) (k := 2) (G := cnOf K) (m := m__law_usual) F sc__law_usual fun cdv A outer s H E rm =>
    (js_cons (js_par2 (ps_par (i := 1) (j := 2) (by rfl) sc__law_usual.nd rfl rfl (by decide) rfl rfl (ja_cons (j_call W__law_edition (by decide) rm O.g__law_edition pss_body (ja_cons (jv 0) ja_nil)) (ja_cons (je_lstC (ja_cons (je_tup (ja_cons je_str ja_nil)) ja_nil)) ja_nil)) (by rfl)))
    (js_cons (js_if (jt_eq rm.units (j_call W__law_next (by decide) rm O.g__law_next pss_body (ja_cons (jv 0) (ja_cons je_int ja_nil))) je_int)
    (js_one (js_expr (j_app (jv 2) (ja_cons (je_tup (ja_cons je_str (ja_cons je_int (ja_cons (je_tup (ja_cons je_str ja_nil)) ja_nil)))) ja_nil))))
    js_nil)
    (js_cons (js_for rfl (passes_of rfl) rfl (ji_enumA rfl rfl O.g_enumerate (ja_cons (jv 1) ja_nil)) (jg_tu rfl (jg_cons (jg_name 3 sc__law_usual.nd) (jg_cons (jg_name 4 sc__law_usual.nd) jg_nil)))
    (js_cons (js_expr (j_app (jv 2) (ja_cons (je_tup (ja_cons je_str (ja_cons (j_add (jv 3) je_int) (ja_cons (jv 4) ja_nil)))) ja_nil)))
    (js_one (js_if (jt_eq rm.units (j_call W__law_next (by decide) rm O.g__law_next pss_body (ja_cons (jv 0) (ja_cons je_int ja_nil))) je_int)
    (js_one (js_expr (j_app (jv 2) (ja_cons (je_tup (ja_cons je_str (ja_cons (j_sub (jb_len (ja_cons (jv 2) ja_nil) O.g_len) je_int) (ja_cons (je_tup (ja_cons je_str ja_nil)) ja_nil)))) ja_nil))))
    js_nil))))
    (js_cons (js_expr (j_app (jv 2) (ja_cons (je_tup (ja_cons je_str (ja_cons (jv 1) (ja_cons (j_eq rm.units (j_call W__law_next (by decide) rm O.g__law_next pss_body (ja_cons (jv 0) (ja_cons je_int ja_nil))) je_int) (ja_cons (j_ix (je_lst (ja_cons je_str (ja_cons je_str (ja_cons je_str (ja_cons je_str ja_nil))))) (j_call W__law_next (by decide) rm O.g__law_next pss_body (ja_cons (jv 0) (ja_cons je_int ja_nil)))) ja_nil))))) ja_nil)))
    (js_cons (j_set 5 sc__law_usual.nd (je_lst (ja_cons (je_lst ja_nil) (ja_cons (je_lst (ja_cons (je_tup (ja_cons je_str ja_nil)) ja_nil)) (ja_cons (je_lst (ja_cons (je_tup (ja_cons je_str (ja_cons (j_sub (jb_len (ja_cons (jv 2) ja_nil) O.g_len) je_int) (ja_cons (je_tup (ja_cons je_str ja_nil)) ja_nil)))) ja_nil)) (ja_cons (je_lst (ja_cons (je_tup (ja_cons je_str ja_nil)) ja_nil)) (ja_cons (je_lst (ja_cons (je_tup (ja_cons je_str ja_nil)) (ja_cons (je_tup (ja_cons je_str ja_nil)) ja_nil))) ja_nil)))))))
    (js_one (js_ret (j_add (jv 2) (j_ix (jv 5) (j_call W__law_next (by decide) rm O.g__law_next pss_body (ja_cons (jv 0) (ja_cons je_int ja_nil))))))))))))
  exact ⟨fd, z, b, F.kp⟩
abbrev N__law_within : List Str := ["_law_step_here", "_law_lines"]
theorem sc__law_within : FnScope ["_law_step_here", "_law_lines"] ["_law_step_here", "_law_lines"] (defScope d__law_within.st) := ⟨rfl, rfl, rfl, by decide +kernel, rfl, by decide +kernel, by decide +kernel⟩
noncomputable def m__law_within : SM :=
    (sSeq (sIf (mTest (mOp (opEqD false) (mOp opIx (mVar 0) (mC (.int 0))) (mC (.str "go"))))
    (sRet (mTup (mCons (mC (.str "go")) (mCons (mCall fMin2 (mCons (mOp opIx (mVar 0) (mC (.int 1))) (mCons (mVar 1) mNil))) (mCons (mOp opIx (mVar 0) (mC (.int 2))) mNil)))))
    sNil)
    (sRet (mVar 0)))
noncomputable def f__law_within : Fn := fnB 2 2 m__law_within
theorem w__law_within (O : Ok K mg) (c : SaysQ fb fnl tabs w K) : Fk P w K mg base 1 (d__law_within.path K) ["_law_step_here", "_law_lines"] (spOf (cnOf K) 2 f__law_within) := by
  obtain ⟨fd, F⟩ := c.def_ 29 (d := d__law_within)
  have b : L2.Binds K fd ["_law_step_here", "_law_lines"] [] := F.binds fun _ _ _ _ _ _ us hl => match us, hl with | [_, _], _ => rfl
  have z := fn_def (P := P) (w := w) (mg := mg) (base := base) (k := 0) (G := cnOf K) (m := m__law_within) F sc__law_within fun cdv A outer s H E rm =>
    (js_cons (js_if (jt_eq rm.units (j_ix (jv 0) je_int) je_str)
    (js_one (js_ret (je_tup (ja_cons je_str (ja_cons (jb_min (ja_cons (j_ix (jv 0) je_int) (ja_cons (jv 1) ja_nil)) rfl O.g_min) (ja_cons (j_ix (jv 0) je_int) ja_nil))))))
    js_nil)
    (js_one (js_ret (jv 0))))
  exact ⟨fd, z, b, F.kp⟩
abbrev N__law_steps : List Str := ["_law_deck_here", "_law_most", "_law_kind", "_law_many", "_law_steps_here", "_law_turn", "_law_step_here"]
theorem sc__law_steps : FnScope ["_law_deck_here", "_law_most", "_law_kind", "_law_many", "_law_steps_here", "_law_turn", "_law_step_here"] ["_law_deck_here", "_law_most"] (defScope d__law_steps.st) := ⟨rfl, rfl, rfl, by decide +kernel, rfl, by decide +kernel, by decide +kernel⟩
noncomputable def m__law_steps : SM :=
    (sSeq (sAsg (.tu [(.nm 2), (.nm 3)]) (mTup (mCons (mCall (ar 2 f__law_next) (mCons (mVar 0) (mCons (mC (.int 4)) mNil))) (mCons (mOp opAdd (mC (.int 1)) (mCall (ar 2 f__law_next) (mCons (mVar 0) (mCons (mVar 1) mNil)))) mNil))))
    (sSeq (sIf (mTest (mOp (opEqD false) (mVar 2) (mC (.int 0))))
    (sRet (mCall fTup (mCons (mLc (.nm 5) (mRng1 (mCons (mVar 3) mNil)) mYes (mCall (ar 2 f__law_step) (mCons (mVar 0) (mCons (mVar 3) mNil))) [5]) mNil)))
    sNil)
    (sSeq (sSet 4 (mSlC (mCall (ar 1 f__law_usual) (mCons (mVar 0) mNil)) none (some (mVar 1))))
    (sSeq (sIf (mTest (mOp (opEqD false) (mVar 2) (mC (.int 1))))
    (sSub (mVar 4) (mCall (ar 2 f__law_next) (mCons (mVar 0) (mCons (mCall fLen (mCons (mVar 4) mNil)) mNil))) (mCall (ar 2 f__law_step) (mCons (mVar 0) (mCons (mCall fLen (mCons (mVar 4) mNil)) mNil))))
    sNil)
    (sRet (mCall fTup (mCons (mLc (.nm 6) (mIt (mVar 4)) mYes (mCall (ar 2 f__law_within) (mCons (mVar 6) (mCons (mCall fLen (mCons (mVar 4) mNil)) mNil))) [6]) mNil)))))))
noncomputable def f__law_steps : Fn := fnB 2 7 m__law_steps
theorem w__law_steps (O : Ok K mg) (c : SaysQ fb fnl tabs w K) : Fk P w K mg base 4 (d__law_steps.path K) ["_law_deck_here", "_law_most"] (spOf (cnOf K) 2 f__law_steps) := by
  have W__law_next := w__law_next (P := P) (w := w) (base := base) O c
  have W__law_step := w__law_step (P := P) (w := w) (base := base) O c
  have W__law_usual := w__law_usual (P := P) (w := w) (base := base) O c
  have W__law_within := w__law_within (P := P) (w := w) (base := base) O c
  obtain ⟨fd, F⟩ := c.def_ 30 (d := d__law_steps)
  have b : L2.Binds K fd ["_law_deck_here", "_law_most"] [] := F.binds fun _ _ _ _ _ _ us hl => match us, hl with | [_, _], _ => rfl
  have z := fn_def (P := P) (w := w) (mg := mg) (base := base) (k := 3) (G := cnOf K) (m := m__law_steps) F sc__law_steps fun cdv A outer s H E rm =>
    (js_cons (js_asg rfl (je_tup (ja_cons (j_call W__law_next (by decide) rm O.g__law_next pss_body (ja_cons (jv 0) (ja_cons je_int ja_nil))) (ja_cons (j_add je_int (j_call W__law_next (by decide) rm O.g__law_next pss_body (ja_cons (jv 0) (ja_cons (jv 1) ja_nil)))) ja_nil))) (jg_tu rfl (jg_cons (jg_name 2 sc__law_steps.nd) (jg_cons (jg_name 3 sc__law_steps.nd) jg_nil))))
    (js_cons (js_if (jt_eq rm.units (jv 2) je_int)
    (js_one (js_ret (jb_tuple (ja_cons (je_lc (own := [("_law_turn", 5)]) (t := (.nm 5)) rfl rfl sc__law_steps.nd (ji_rng1 rfl O.g_range (ja_cons (jv 3) ja_nil)) (blkOk_by (N := N__law_steps) (sc := defScope d__law_steps.st) (by decide +kernel)) (by decide) (fun _ _ _ _ _ => (jg_name 5 sc__law_steps.nd)) (fun _ _ _ _ _ => jts_nil) (fun _ _ _ _ _ => (j_call W__law_step (by decide) rm O.g__law_step pss0 (ja_cons (jv 0) (ja_cons (jv 3) ja_nil))))) ja_nil) O.g_tuple)))
    js_nil)
    (js_cons (j_set 4 sc__law_steps.nd (je_slC rfl (j_call W__law_usual (by decide) rm O.g__law_usual pss_body (ja_cons (jv 0) ja_nil)) jo_none (jo_some (jv 1))))
    (js_cons (js_if (jt_eq rm.units (jv 2) je_int)
    (js_one (j_subset (j_call W__law_step (by decide) rm O.g__law_step pss_body (ja_cons (jv 0) (ja_cons (jb_len (ja_cons (jv 4) ja_nil) O.g_len) ja_nil))) (jv 4) (j_call W__law_next (by decide) rm O.g__law_next pss_body (ja_cons (jv 0) (ja_cons (jb_len (ja_cons (jv 4) ja_nil) O.g_len) ja_nil)))))
    js_nil)
    (js_one (js_ret (jb_tuple (ja_cons (je_lc (own := [("_law_step_here", 6)]) (t := (.nm 6)) rfl rfl sc__law_steps.nd (ji_seq rfl (jv 4)) (blkOk_by (N := N__law_steps) (sc := defScope d__law_steps.st) (by decide +kernel)) (by decide) (fun _ _ _ _ _ => (jg_name 6 sc__law_steps.nd)) (fun _ _ _ _ _ => jts_nil) (fun _ _ _ _ _ => (j_call W__law_within (by decide) rm O.g__law_within pss0 (ja_cons (jv 6) (ja_cons (jb_len (ja_cons (jv 4) ja_nil) O.g_len) ja_nil))))) ja_nil) O.g_tuple)))))))
  exact ⟨fd, z, b, F.kp⟩
abbrev N_TooMany_init : List Str := ["self", "limit"]
theorem sc_TooMany_init : FnScope ["self", "limit"] ["self", "limit"] (defScope d_TooMany_init.st) := ⟨rfl, rfl, rfl, by decide +kernel, rfl, by decide +kernel, by decide +kernel⟩
theorem w_TooMany_init (O : Ok K mg) (c : SaysQ fb fnl tabs w K) : ∃ fd, FnOk P w K mg base (L2.CX P w) 1 (d_TooMany_init.path K) fd ["self", "limit"] (spI (He.ga K "TooMany") ["limit"]) ∧ Binds K fd ["self", "limit"] [] ∧ PySem.W.keepIn K (.ref (d_TooMany_init.path K)) = true := by
  obtain ⟨fd, F⟩ := c.def_ 31 (d := d_TooMany_init)
  exact ⟨fd, init_ok1 F sc_TooMany_init O.oex_TooMany O.noat_TooMany_limit (fun cdv A outer s1 H E => (pss_one (ps_ost (pv 0) (pv 1)))), F.binds fun _ _ _ _ _ _ us hl => match us, hl with | [_, _], _ => rfl, F.kp⟩
abbrev N_moved : List Str := ["step", "by"]
theorem sc_moved : FnScope ["step", "by"] ["step", "by"] (defScope d_moved.st) := ⟨rfl, rfl, rfl, by decide +kernel, rfl, by decide +kernel, by decide +kernel⟩
noncomputable def m_moved : SM :=
    (sRet (mIf (mTest (mOp (opEqD false) (mOp opIx (mVar 0) (mC (.int 0))) (mC (.str "go")))) (mTup (mCons (mC (.str "go")) (mCons (mOp opAdd (mOp opIx (mVar 0) (mC (.int 1))) (mVar 1)) (mCons (mOp opIx (mVar 0) (mC (.int 2))) mNil)))) (mVar 0)))
noncomputable def f_moved : Fn := fnB 2 2 m_moved
theorem w_moved (O : Ok K mg) (c : SaysQ fb fnl tabs w K) : Fk P w K mg base 1 (d_moved.path K) ["step", "by"] (spOf (cnOf K) 2 f_moved) := by
  obtain ⟨fd, F⟩ := c.def_ 32 (d := d_moved)
  have b : L2.Binds K fd ["step", "by"] [] := F.binds fun _ _ _ _ _ _ us hl => match us, hl with | [_, _], _ => rfl
  have z := fn_def (P := P) (w := w) (mg := mg) (base := base) (k := 0) (G := cnOf K) (m := m_moved) F sc_moved fun cdv A outer s H E rm =>
    (js_one (js_ret (je_if (jt_eq rm.units (j_ix (jv 0) je_int) je_str) (je_tup (ja_cons je_str (ja_cons (j_add (j_ix (jv 0) je_int) (jv 1)) (ja_cons (j_ix (jv 0) je_int) ja_nil)))) (jv 0))))
  exact ⟨fd, z, b, F.kp⟩
abbrev N_Program_add : List Str := ["self", "other", "many", "step"]
theorem sc_Program_add : FnScope ["self", "other", "many", "step"] ["self", "other"] (defScope d_Program_add.st) := ⟨rfl, rfl, rfl, by decide +kernel, rfl, by decide +kernel, by decide +kernel⟩
noncomputable def m_Program_add : SM :=
    (sSeq (sSet 2 (mCall fLen (mCons (mFld "Program" "listed" (mVar 0)) mNil)))
    (sSeq (sIf (mTest (mOp opGtI (mOp opAdd (mVar 2) (mCall fLen (mCons (mFld "Program" "listed" (mVar 1)) mNil))) (mC (.int (12)))))
    (sRaise "TooMany" ["limit"] (mCons (mC (.int (12))) mNil))
    sNil)
    (sRet (mCall (mkF "Program" (ar 2 f_Program_init)) (mCons (mOp opAdd (mFld "Program" "listed" (mVar 0)) (mCall fTup (mCons (mLc (.nm 3) (mIt (mFld "Program" "listed" (mVar 1))) mYes (mCall (ar 2 f_moved) (mCons (mVar 3) (mCons (mVar 2) mNil))) [3]) mNil))) mNil)))))
noncomputable def f_Program_add : Fn := fnB 2 4 m_Program_add
theorem w_Program_add (O : Ok K mg) (c : SaysQ fb fnl tabs w K) : Fk P w K mg base 9 (d_Program_add.path K) ["self", "other"] (spOf (cnOf K) 2 f_Program_add) := by
  have W_Program_init := w_Program_init (P := P) (w := w) (base := base) O c
  have W_TooMany_init := w_TooMany_init (P := P) (w := w) (base := base) O c
  have W_moved := w_moved (P := P) (w := w) (base := base) O c
  obtain ⟨fd, F⟩ := c.def_ 33 (d := d_Program_add)
  have b : L2.Binds K fd ["self", "other"] [] := F.binds fun _ _ _ _ _ _ us hl => match us, hl with | [_, _], _ => rfl
  have z := fn_def (P := P) (w := w) (mg := mg) (base := base) (k := 8) (G := cnOf K) (m := m_Program_add) F sc_Program_add fun cdv A outer s H E rm =>
    (js_cons (j_set 2 sc_Program_add.nd (jb_len (ja_cons (je_fld (c := "Program") rfl (jv 0) O.cls_Program O.noat_Program_listed) ja_nil) O.g_len))
    (js_cons (js_if (jt_gt (j_add (jv 2) (jb_len (ja_cons (je_fld (c := "Program") rfl (jv 1) O.cls_Program O.noat_Program_listed) ja_nil) O.g_len)) (by obtain ⟨t, h⟩ := O.c_MAX_STEPS; exact je_gint rfl h ⟨t, rfl⟩))
    (js_one (by obtain ⟨fd, F1, b1, kp1⟩ := W_TooMany_init; exact js_raise (c := "TooMany") rfl (takes_of rfl rfl rfl rfl) O.oex_TooMany O.ini_TooMany.1 O.ini_TooMany.2 F1 (rm.r.mono (by decide)) b1 rfl O.g_TooMany (ja_cons (by obtain ⟨t, h⟩ := O.c_MAX_STEPS; exact je_gint rfl h ⟨t, rfl⟩) ja_nil)))
    js_nil)
    (js_one (js_ret (j_make (c := "Program") W_Program_init (by decide) rm O.mk_Program O.g_Program pss_body (ja_cons (j_add (je_fld (c := "Program") rfl (jv 0) O.cls_Program O.noat_Program_listed) (jb_tuple (ja_cons (je_lc (own := [("step", 3)]) (t := (.nm 3)) rfl rfl sc_Program_add.nd (ji_seq rfl (je_fld (c := "Program") rfl (jv 1) O.cls_Program O.noat_Program_listed)) (blkOk_by (N := N_Program_add) (sc := defScope d_Program_add.st) (by decide +kernel)) (by decide) (fun _ _ _ _ _ => (jg_name 3 sc_Program_add.nd)) (fun _ _ _ _ _ => jts_nil) (fun _ _ _ _ _ => (j_call W_moved (by decide) rm O.g_moved pss0 (ja_cons (jv 3) (ja_cons (jv 2) ja_nil))))) ja_nil) O.g_tuple)) ja_nil))))))
  exact ⟨fd, z, b, F.kp⟩
abbrev N__law_sum : List Str := ["_law_one", "_law_other", "_law_found", "error"]
theorem sc__law_sum : FnScope ["_law_one", "_law_other", "_law_found", "error"] ["_law_one", "_law_other"] (defScope d__law_sum.st) := ⟨rfl, rfl, rfl, by decide +kernel, rfl, by decide +kernel, by decide +kernel⟩
noncomputable def m__law_sum : SM :=
    (sSeq (sTry hit_TooMany 3
    (sSet 2 (mProp "Program" f_Program_steps (mOp (dun2 "Program" (ar 2 f_Program_add)) (mVar 0) (mVar 1))))
    (sRet (mXf "TooMany" "limit" (mVar 3))))
    (sRet (mVar 2)))
noncomputable def f__law_sum : Fn := fnB 2 4 m__law_sum
theorem w__law_sum (O : Ok K mg) (c : SaysQ fb fnl tabs w K) : Fk P w K mg base 10 (d__law_sum.path K) ["_law_one", "_law_other"] (spOf (cnOf K) 2 f__law_sum) := by
  have W_Program_add := w_Program_add (P := P) (w := w) (base := base) O c
  have W_Program_steps := w_Program_steps (P := P) (w := w) (base := base) O c
  obtain ⟨fd, F⟩ := c.def_ 34 (d := d__law_sum)
  have b : L2.Binds K fd ["_law_one", "_law_other"] [] := F.binds fun _ _ _ _ _ _ us hl => match us, hl with | [_, _], _ => rfl
  have z := fn_def (P := P) (w := w) (mg := mg) (base := base) (k := 9) (G := cnOf K) (m := m__law_sum) F sc__law_sum fun cdv A outer s H E rm =>
    (js_cons (js_try (i := 3) (hit := hit_TooMany) rfl rfl rfl sc__law_sum.nd rfl rfl ⟨rfl, by decide, .inl O.g_TooMany⟩ (takes_of rfl rfl rfl rfl) O.hit_TooMany (fun W pn xe tk po => (js_one (j_set 2 sc__law_sum.nd (j_prop (c := "Program") W_Program_steps (by decide) rm O.cls_Program O.prop_Program_steps (j_binO (c := "Program") W_Program_add (by decide) rm O.dun_Program_add O.self_Program (pss_takes tk) (jv 0) (jv 1))))))
    (fun a oe cls d pn hz hf => (js_one (js_ret (je_xf (c := "TooMany") O.xf_TooMany O.noat_TooMany_limit hz hf (jv 3))))))
    (js_one (js_ret (jv 2))))
  exact ⟨fd, z, b, F.kp⟩
abbrev N_NoLine_init : List Str := ["self", "index"]
theorem sc_NoLine_init : FnScope ["self", "index"] ["self", "index"] (defScope d_NoLine_init.st) := ⟨rfl, rfl, rfl, by decide +kernel, rfl, by decide +kernel, by decide +kernel⟩
theorem w_NoLine_init (O : Ok K mg) (c : SaysQ fb fnl tabs w K) : ∃ fd, FnOk P w K mg base (L2.CX P w) 1 (d_NoLine_init.path K) fd ["self", "index"] (spI (He.ga K "NoLine") ["index"]) ∧ Binds K fd ["self", "index"] [] ∧ PySem.W.keepIn K (.ref (d_NoLine_init.path K)) = true := by
  obtain ⟨fd, F⟩ := c.def_ 35 (d := d_NoLine_init)
  exact ⟨fd, init_okL F sc_NoLine_init O.oexL_NoLine O.noat_NoLine_index (fun cdv A outer s1 H E => (pss_one (ps_ostL (pv 0) (pv 1)))), F.binds fun _ _ _ _ _ _ us hl => match us, hl with | [_, _], _ => rfl, F.kp⟩
abbrev N_is_index : List Str := ["value", "many"]
theorem sc_is_index : FnScope ["value", "many"] ["value", "many"] (defScope d_is_index.st) := ⟨rfl, rfl, rfl, by decide +kernel, rfl, by decide +kernel, by decide +kernel⟩
noncomputable def m_is_index : SM :=
    (sRet (mCall (ar 3 f_is_within) (mCons (mVar 0) (mCons (mC (.int 0)) (mCons (mOp opSub (mVar 1) (mC (.int 1))) mNil)))))
noncomputable def f_is_index : Fn := fnB 2 2 m_is_index
theorem w_is_index (O : Ok K mg) (c : SaysQ fb fnl tabs w K) : Fk P w K mg base 3 (d_is_index.path K) ["value", "many"] (spOf (cnOf K) 2 f_is_index) := by
  have W_is_within := w_is_within (P := P) (w := w) (base := base) O c
  obtain ⟨fd, F⟩ := c.def_ 36 (d := d_is_index)
  have b : L2.Binds K fd ["value", "many"] [] := F.binds fun _ _ _ _ _ _ us hl => match us, hl with | [_, _], _ => rfl
  have z := fn_def (P := P) (w := w) (mg := mg) (base := base) (k := 2) (G := cnOf K) (m := m_is_index) F sc_is_index fun cdv A outer s H E rm =>
    (js_one (js_ret (j_call W_is_within (by decide) rm O.g_is_within pss_body (ja_cons (jv 0) (ja_cons je_int (ja_cons (j_sub (jv 1) je_int) ja_nil))))))
  exact ⟨fd, z, b, F.kp⟩
abbrev N_Program_with_step : List Str := ["self", "index", "value"]
theorem sc_Program_with_step : FnScope ["self", "index", "value"] ["self", "index", "value"] (defScope d_Program_with_step.st) := ⟨rfl, rfl, rfl, by decide +kernel, rfl, by decide +kernel, by decide +kernel⟩
noncomputable def m_Program_with_step : SM :=
    (sSeq (sIf (mNotT (mTru (mCall (ar 2 f_is_index) (mCons (mVar 1) (mCons (mCall fLen (mCons (mFld "Program" "listed" (mVar 0)) mNil)) mNil)))))
    (sRaise "NoLine" ["index"] (mCons (mVar 1) mNil))
    sNil)
    (sRet (mCall (mkF "Program" (ar 2 f_Program_init)) (mCons (mOp opAdd (mOp opAdd (mSl (mFld "Program" "listed" (mVar 0)) none (some (mVar 1))) (mTup (mCons (mVar 2) mNil))) (mSl (mFld "Program" "listed" (mVar 0)) (some (mOp opAdd (mVar 1) (mC (.int 1)))) none)) mNil))))
noncomputable def f_Program_with_step : Fn := fnB 3 3 m_Program_with_step
theorem w_Program_with_step (O : Ok K mg) (c : SaysQ fb fnl tabs w K) : Fk P w K mg base 9 (d_Program_with_step.path K) ["self", "index", "value"] (spOf (cnOf K) 3 f_Program_with_step) := by
  have W_NoLine_init := w_NoLine_init (P := P) (w := w) (base := base) O c
  have W_Program_init := w_Program_init (P := P) (w := w) (base := base) O c
  have W_is_index := w_is_index (P := P) (w := w) (base := base) O c
  obtain ⟨fd, F⟩ := c.def_ 37 (d := d_Program_with_step)
  have b : L2.Binds K fd ["self", "index", "value"] [] := F.binds fun _ _ _ _ _ _ us hl => match us, hl with | [_, _, _], _ => rfl
  have z := fn_def (P := P) (w := w) (mg := mg) (base := base) (k := 8) (G := cnOf K) (m := m_Program_with_step) F sc_Program_with_step fun cdv A outer s H E rm =>
    (js_cons (js_if (jt_not (j_t (j_call W_is_index (by decide) rm O.g_is_index pss_body (ja_cons (jv 1) (ja_cons (jb_len (ja_cons (je_fld (c := "Program") rfl (jv 0) O.cls_Program O.noat_Program_listed) ja_nil) O.g_len) ja_nil)))))
    (js_one (by obtain ⟨fd, F1, b1, kp1⟩ := W_NoLine_init; exact js_raiseL (c := "NoLine") rfl (takes_of rfl rfl rfl rfl) O.oexL_NoLine O.ini_NoLine.1 O.ini_NoLine.2 F1 (rm.r.mono (by decide)) b1 rfl O.g_NoLine (ja_cons (jv 1) ja_nil)))
    js_nil)
    (js_one (js_ret (j_make (c := "Program") W_Program_init (by decide) rm O.mk_Program O.g_Program pss_body (ja_cons (j_add (j_add (je_sl rfl (je_fld (c := "Program") rfl (jv 0) O.cls_Program O.noat_Program_listed) jo_none (jo_some (jv 1))) (je_tup (ja_cons (jv 2) ja_nil))) (je_sl rfl (je_fld (c := "Program") rfl (jv 0) O.cls_Program O.noat_Program_listed) (jo_some (j_add (jv 1) je_int)) jo_none)) ja_nil)))))
  exact ⟨fd, z, b, F.kp⟩
abbrev N__law_with : List Str := ["_law_program", "_law_index", "_law_value", "_law_found", "error"]
theorem sc__law_with : FnScope ["_law_program", "_law_index", "_law_value", "_law_found", "error"] ["_law_program", "_law_index", "_law_value"] (defScope d__law_with.st) := ⟨rfl, rfl, rfl, by decide +kernel, rfl, by decide +kernel, by decide +kernel⟩
noncomputable def m__law_with : SM :=
    (sSeq (sTryN [(hit_NoLine, 4, (sRet (mLst (mCons (mC (.str "line")) (mCons (mXf "NoLine" "index" (mVar 4)) mNil))))), (hit_BadProgram, 4, (sRet (mLst (mCons (mC (.str "step")) (mCons (mXf "BadProgram" "index" (mVar 4)) (mCons (mXf "BadProgram" "reason" (mVar 4)) mNil))))))]
    (sSet 3 (mProp "Program" f_Program_steps (mMeth "Program" "with_step" (ar 3 f_Program_with_step) (mVar 0) (mCons (mVar 1) (mCons (mVar 2) mNil))))))
    (sRet (mVar 3)))
noncomputable def f__law_with : Fn := fnB 3 5 m__law_with
theorem w__law_with (O : Ok K mg) (c : SaysQ fb fnl tabs w K) : Fk P w K mg base 10 (d__law_with.path K) ["_law_program", "_law_index", "_law_value"] (spOf (cnOf K) 3 f__law_with) := by
  have W_Program_steps := w_Program_steps (P := P) (w := w) (base := base) O c
  have W_Program_with_step := w_Program_with_step (P := P) (w := w) (base := base) O c
  obtain ⟨fd, F⟩ := c.def_ 38 (d := d__law_with)
  have b : L2.Binds K fd ["_law_program", "_law_index", "_law_value"] [] := F.binds fun _ _ _ _ _ _ us hl => match us, hl with | [_, _, _], _ => rfl
  have z := fn_def (P := P) (w := w) (mg := mg) (base := base) (k := 9) (G := cnOf K) (m := m__law_with) F sc__law_with fun cdv A outer s H E rm =>
    (js_cons (js_tryN rfl rfl rfl sc__law_with.nd (takes_of rfl rfl rfl rfl) (fun W pn xe tk po => (js_one (j_set 3 sc__law_with.nd (j_prop (c := "Program") W_Program_steps (by decide) rm O.cls_Program O.prop_Program_steps (j_meth (c := "Program") W_Program_with_step (by decide) rm O.cls_Program O.meth_Program_with_step (pss_takes tk) (jv 0) (ja_cons (jv 1) (ja_cons (jv 2) ja_nil)))))))
    (.cons (i := 4) (hit := hit_NoLine) rfl rfl ⟨rfl, by decide, .inl O.g_NoLine⟩ O.hit_NoLine
    (fun a oe cls d pn hz hf => (js_one (js_ret (je_lst (ja_cons je_str (ja_cons (je_xf (c := "NoLine") O.xf_NoLine O.noat_NoLine_index hz hf (jv 4)) ja_nil))))))
    (.cons (i := 4) (hit := hit_BadProgram) rfl rfl ⟨rfl, by decide, .inl O.g_BadProgram⟩ O.hit_BadProgram
    (fun a oe cls d pn hz hf => (js_one (js_ret (je_lst (ja_cons je_str (ja_cons (je_xf (c := "BadProgram") O.xf_BadProgram O.noat_BadProgram_index hz hf (jv 4)) (ja_cons (je_xf (c := "BadProgram") O.xf_BadProgram O.noat_BadProgram_reason hz hf (jv 4)) ja_nil)))))))
    .nil)))
    (js_one (js_ret (jv 3))))
  exact ⟨fd, z, b, F.kp⟩
abbrev N_law : List Str := ["_law_script", "_law_deck_here", "_law_turn", "_law_steps_here", "_law_more", "_law_one", "_law_other", "_law_many", "_law_due", "_law_some", "_law_index", "_law_value", "_law_change", "_law_right", "_law_reason_here", "_law_where", "_law_found", "_law_k", "_law_told", "_law_step_here"]
theorem sc_law : FnScope ["_law_script", "_law_deck_here", "_law_turn", "_law_steps_here", "_law_more", "_law_one", "_law_other", "_law_many", "_law_due", "_law_some", "_law_index", "_law_value", "_law_change", "_law_right", "_law_reason_here", "_law_where", "_law_found", "_law_k", "_law_told", "_law_step_here"] ["_law_script"] (defScope d_law.st) := ⟨rfl, rfl, rfl, by decide +kernel, rfl, by decide +kernel, by decide +kernel⟩
noncomputable def m_law : SM :=
    (sSeq (sSet 1 (mCall (ar 1 f__law_deck) (mCons (mVar 0) mNil)))
    (sSeq (sFor (.nm 2) (mRng1 (mCons (mC (.int 4)) mNil))
    (sSeq (sAsg (.tu [(.nm 3), (.nm 4)]) (mTup (mCons (mCall (ar 2 f__law_steps) (mCons (mVar 1) (mCons (mC (.int 8)) mNil))) (mCons (mCall (ar 2 f__law_steps) (mCons (mVar 1) (mCons (mC (.int 8)) mNil))) mNil))))
    (sSeq (sAsg (.tu [(.nm 5), (.nm 6), (.nm 7)]) (mTup (mCons (mCall (mkF "Program" (ar 2 f_Program_init)) (mCons (mVar 3) mNil)) (mCons (mCall (mkF "Program" (ar 2 f_Program_init)) (mCons (mVar 4) mNil)) (mCons (mCall fLen (mCons (mVar 3) mNil)) mNil)))))
    (sSeq (sSet 8 (mOp opAdd (mVar 3) (mCall fTup (mCons (mLc (.nm 19) (mIt (mVar 4)) mYes (mCall (ar 2 f__law_moved) (mCons (mVar 19) (mCons (mVar 7) mNil))) [19]) mNil))))
    (sSeq (sIf (mNotT (mTru (mCall (ar 2 (f__law_same 6)) (mCons (mCall (ar 2 f__law_sum) (mCons (mVar 5) (mCons (mVar 6) mNil))) (mCons (mIf (mTest (mOp opLeI (mCall fLen (mCons (mVar 8) mNil)) (mC (.int 12)))) (mVar 8) (mC (.int 12))) mNil)))))
    (sRet (mC (.bl false)))
    sNil)
    (sSeq (sSet 9 (mLst (mCons (mCall (ar 2 f__law_next) (mCons (mVar 1) (mCons (mVar 7) mNil))) (mCons (mVar 7) (mCons (mNeg (mC (.int 1))) (mCons (mC (.bl true)) (mCons (mC .non) (mCons (mCall (ar 1 f__law_odd) (mCons (mVar 1) mNil)) mNil))))))))
    (sSeq (sSet 10 (mOp opIx (mVar 9) (mCall fMax2 (mCons (mC (.int 0)) (mCons (mOp opSub (mCall (ar 2 f__law_next) (mCons (mVar 1) (mCons (mC (.int 10)) mNil))) (mC (.int 4))) mNil)))))
    (sSeq (sSet 11 (mCall (ar 2 f__law_step) (mCons (mVar 1) (mCons (mVar 7) mNil))))
    (sSeq (sFor (.nm 12) (mRng1 (mCons (mCall (ar 2 f__law_next) (mCons (mVar 1) (mCons (mC (.int 3)) mNil))) mNil))
    (sSet 11 (mCall (ar 2 f__law_bent) (mCons (mVar 1) (mCons (mVar 11) mNil)))))
    (sSeq (sSet 13 (mAnd (mCall (ar 1 f__law_whole) (mCons (mVar 10) mNil)) (mChain opLeI opLtI (mC (.int 0)) (mVar 10) (mVar 7))))
    (sSeq (sSet 14 (mCall (ar 2 f__law_reason) (mCons (mVar 11) (mCons (mVar 7) mNil))))
    (sSeq (sSet 8 (mLst (mCons (mC (.str "line")) (mCons (mVar 10) mNil))))
    (sSeq (sIf (mAndT (mTru (mVar 13)) (mTest (mOp (opIsN false) (mVar 14) (mC .non))))
    (sSet 8 (mOp opAdd (mOp opAdd (mSl (mVar 3) none (some (mVar 10))) (mTup (mCons (mVar 11) mNil))) (mSl (mVar 3) (some (mOp opAdd (mVar 10) (mC (.int 1)))) none)))
    (sIf (mTru (mVar 13))
    (sSet 8 (mLst (mCons (mC (.str "step")) (mCons (mVar 10) (mCons (mVar 14) mNil)))))
    sNil))
    (sSeq (sIf (mNotT (mTru (mCall (ar 2 (f__law_same 6)) (mCons (mCall (ar 3 f__law_with) (mCons (mVar 5) (mCons (mVar 10) (mCons (mVar 11) mNil)))) (mCons (mVar 8) mNil)))))
    (sRet (mC (.bl false)))
    sNil)
    (sSeq (sSet 15 (mLc (.nm 17) (mRng1 (mCons (mVar 7) mNil)) (mTest (mOp (opEqD false) (mOp opIx (mOp opIx (mVar 3) (mVar 17)) (mC (.int 0))) (mC (.str "join")))) (mVar 17) [17]))
    (sSeq (sSet 9 (mCall fTup (mCons (mLc (.nm 17) (mIt (mVar 15)) (mTest (mOp (opEqD false) (mCall (ar 2 f__law_next) (mCons (mVar 1) (mCons (mC (.int 2)) mNil))) (mC (.int 0)))) (mVar 17) [17]) mNil)))
    (sSeq (sSet 16 (mCall fListC (mCons (mVar 3) mNil)))
    (sSeq (sFor (.nm 17) (mIt (mVar 15))
    (sSub (mVar 16) (mVar 17) (mTup (mCons (mC (.str "join")) (mCons (mOp opIx (mOp opIx (mVar 3) (mVar 17)) (mC (.int 1))) (mCons (mOp (opIn false) (mVar 17) (mVar 9)) (mCons (mOp opIx (mOp opIx (mVar 3) (mVar 17)) (mC (.int 3))) mNil)))))))
    (sSeq (sSet 18 (mProp "Program" f_Program_steps (mMeth "Program" "checking" (ar 2 f_Program_checking) (mVar 5) (mCons (mVar 9) mNil))))
    (sIf (mNotT (mTru (mCall (ar 2 (f__law_same 6)) (mCons (mLst (mCons (mVar 18) (mCons (mProp "Program" f_Program_steps (mVar 5)) mNil))) (mCons (mLst (mCons (mCall fTup (mCons (mVar 16) mNil)) (mCons (mVar 3) mNil))) mNil)))))
    (sRet (mC (.bl false)))
    sNil))))))))))))))))))))
    (sRet (mC (.bl true)))))
noncomputable def f_law : Fn := fnB 1 20 m_law
theorem w_law (O : Ok K mg) (c : SaysQ fb fnl tabs w K) {fd : FuncData} (F : Fun K "law" "law" d_law.st (d_law.path K) fd) : FnG P w K mg base 11 (d_law.path K) fd ["_law_script"] (spOf (cnOf K) 1 f_law) := by
  have W_Program_checking := w_Program_checking (P := P) (w := w) (base := base) O c
  have W_Program_init := w_Program_init (P := P) (w := w) (base := base) O c
  have W_Program_steps := w_Program_steps (P := P) (w := w) (base := base) O c
  have W__law_bent := w__law_bent (P := P) (w := w) (base := base) O c
  have W__law_deck := w__law_deck (P := P) (w := w) (base := base) O c
  have W__law_moved := w__law_moved (P := P) (w := w) (base := base) O c
  have W__law_next := w__law_next (P := P) (w := w) (base := base) O c
  have W__law_odd := w__law_odd (P := P) (w := w) (base := base) O c
  have W__law_reason := w__law_reason (P := P) (w := w) (base := base) O c
  have W__law_same := w__law_same (P := P) (w := w) (base := base) O c 6
  have W__law_step := w__law_step (P := P) (w := w) (base := base) O c
  have W__law_steps := w__law_steps (P := P) (w := w) (base := base) O c
  have W__law_sum := w__law_sum (P := P) (w := w) (base := base) O c
  have W__law_whole := w__law_whole (P := P) (w := w) (base := base) O c
  have W__law_with := w__law_with (P := P) (w := w) (base := base) O c
  have z := fn_def (P := P) (w := w) (mg := mg) (base := base) (k := 10) (G := cnOf K) (m := m_law) F sc_law fun cdv A outer s H E rm =>
    (js_cons (j_set 1 sc_law.nd (j_call W__law_deck (by decide) rm O.g__law_deck pss_body (ja_cons (jv 0) ja_nil)))
    (js_cons (js_for rfl (passes_of rfl) rfl (ji_rng1 rfl O.g_range (ja_cons je_int ja_nil)) (jg_name 2 sc_law.nd)
    (js_cons (js_asg rfl (je_tup (ja_cons (j_call W__law_steps (by decide) rm O.g__law_steps pss_body (ja_cons (jv 1) (ja_cons je_int ja_nil))) (ja_cons (j_call W__law_steps (by decide) rm O.g__law_steps pss_body (ja_cons (jv 1) (ja_cons je_int ja_nil))) ja_nil))) (jg_tu rfl (jg_cons (jg_name 3 sc_law.nd) (jg_cons (jg_name 4 sc_law.nd) jg_nil))))
    (js_cons (js_asg rfl (je_tup (ja_cons (j_make (c := "Program") W_Program_init (by decide) rm O.mk_Program O.g_Program pss_body (ja_cons (jv 3) ja_nil)) (ja_cons (j_make (c := "Program") W_Program_init (by decide) rm O.mk_Program O.g_Program pss_body (ja_cons (jv 4) ja_nil)) (ja_cons (jb_len (ja_cons (jv 3) ja_nil) O.g_len) ja_nil)))) (jg_tu rfl (jg_cons (jg_name 5 sc_law.nd) (jg_cons (jg_name 6 sc_law.nd) (jg_cons (jg_name 7 sc_law.nd) jg_nil)))))
    (js_cons (j_set 8 sc_law.nd (j_add (jv 3) (jb_tuple (ja_cons (je_lc (own := [("_law_step_here", 19)]) (t := (.nm 19)) rfl rfl sc_law.nd (ji_seq rfl (jv 4)) (blkOk_by (N := N_law) (sc := defScope d_law.st) (by decide +kernel)) (by decide) (fun _ _ _ _ _ => (jg_name 19 sc_law.nd)) (fun _ _ _ _ _ => jts_nil) (fun _ _ _ _ _ => (j_call W__law_moved (by decide) rm O.g__law_moved pss0 (ja_cons (jv 19) (ja_cons (jv 7) ja_nil))))) ja_nil) O.g_tuple)))
    (js_cons (js_if (jt_not (j_t (j_call W__law_same (by decide) rm O.g__law_same pss_body (ja_cons (j_call W__law_sum (by decide) rm O.g__law_sum pss_body (ja_cons (jv 5) (ja_cons (jv 6) ja_nil))) (ja_cons (je_if (jt_le (jb_len (ja_cons (jv 8) ja_nil) O.g_len) je_int) (jv 8) je_int) ja_nil)))))
    (js_one (js_ret je_bl))
    js_nil)
    (js_cons (j_set 9 sc_law.nd (je_lst (ja_cons (j_call W__law_next (by decide) rm O.g__law_next pss_body (ja_cons (jv 1) (ja_cons (jv 7) ja_nil))) (ja_cons (jv 7) (ja_cons (je_neg je_int) (ja_cons je_bl (ja_cons je_non (ja_cons (j_call W__law_odd (by decide) rm O.g__law_odd pss_body (ja_cons (jv 1) ja_nil)) ja_nil))))))))
    (js_cons (j_set 10 sc_law.nd (j_ix (jv 9) (jb_max (ja_cons je_int (ja_cons (j_sub (j_call W__law_next (by decide) rm O.g__law_next pss_body (ja_cons (jv 1) (ja_cons je_int ja_nil))) je_int) ja_nil)) rfl O.g_max)))
    (js_cons (j_set 11 sc_law.nd (j_call W__law_step (by decide) rm O.g__law_step pss_body (ja_cons (jv 1) (ja_cons (jv 7) ja_nil))))
    (js_cons (js_for rfl (passes_of rfl) rfl (ji_rng1 rfl O.g_range (ja_cons (j_call W__law_next (by decide) rm O.g__law_next pss_body (ja_cons (jv 1) (ja_cons je_int ja_nil))) ja_nil)) (jg_name 12 sc_law.nd)
    (js_one (j_set 11 sc_law.nd (j_call W__law_bent (by decide) rm O.g__law_bent pss_body (ja_cons (jv 1) (ja_cons (jv 11) ja_nil))))))
    (js_cons (j_set 13 sc_law.nd (je_and (j_call W__law_whole (by decide) rm O.g__law_whole pss_body (ja_cons (jv 10) ja_nil)) (je_one (je_chain op_le op_lt os_cmpI os_cmpI je_int (jv 10) (jv 7)))))
    (js_cons (j_set 14 sc_law.nd (j_call W__law_reason (by decide) rm O.g__law_reason pss_body (ja_cons (jv 11) (ja_cons (jv 7) ja_nil))))
    (js_cons (j_set 8 sc_law.nd (je_lst (ja_cons je_str (ja_cons (jv 10) ja_nil))))
    (js_cons (js_if (PW.pt (jw_and (j_t (jv 13)) (jw_and1 (jt_isN (jv 14) je_non))))
    (js_one (j_set 8 sc_law.nd (j_add (j_add (je_sl rfl (jv 3) jo_none (jo_some (jv 10))) (je_tup (ja_cons (jv 11) ja_nil))) (je_sl rfl (jv 3) (jo_some (j_add (jv 10) je_int)) jo_none))))
    (js_one (js_if (j_t (jv 13))
    (js_one (j_set 8 sc_law.nd (je_lst (ja_cons je_str (ja_cons (jv 10) (ja_cons (jv 14) ja_nil))))))
    js_nil)))
    (js_cons (js_if (jt_not (j_t (j_call W__law_same (by decide) rm O.g__law_same pss_body (ja_cons (j_call W__law_with (by decide) rm O.g__law_with pss_body (ja_cons (jv 5) (ja_cons (jv 10) (ja_cons (jv 11) ja_nil)))) (ja_cons (jv 8) ja_nil)))))
    (js_one (js_ret je_bl))
    js_nil)
    (js_cons (js_setLc (i := 15) (own := [("_law_k", 17)]) (t := (.nm 17)) rfl rfl sc_law.nd rfl rfl (sw_true rfl rfl rfl (by decide +kernel)) (ji_rng1 rfl O.g_range (ja_cons (jv 7) ja_nil)) (blkOk_by (N := N_law) (sc := defScope d_law.st) (by decide +kernel)) (by decide) (fun _ _ _ _ _ => (jg_name 17 sc_law.nd)) (fun _ _ _ _ _ => (jts_one (jt_eq rm.units (j_ix (j_ix (jv 3) (jv 17)) je_int) je_str))) (fun _ _ _ _ _ => (jv 17)))
    (js_cons (j_set 9 sc_law.nd (jb_tuple (ja_cons (je_lc (own := [("_law_k", 17)]) (t := (.nm 17)) rfl rfl sc_law.nd (ji_seq rfl (jv 15)) (blkOk_by (N := N_law) (sc := defScope d_law.st) (by decide +kernel)) (by decide) (fun _ _ _ _ _ => (jg_name 17 sc_law.nd)) (fun _ _ _ _ _ => (jts_one (jt_eq rm.units (j_call W__law_next (by decide) rm O.g__law_next pss0 (ja_cons (jv 1) (ja_cons je_int ja_nil))) je_int))) (fun _ _ _ _ _ => (jv 17))) ja_nil) O.g_tuple))
    (js_cons (j_set 16 sc_law.nd (jb_listC (ja_cons (jv 3) ja_nil) O.g_list))
    (js_cons (js_for rfl (passes_of rfl) rfl (ji_seq rfl (jv 15)) (jg_name 17 sc_law.nd)
    (js_one (j_subset (je_tup (ja_cons je_str (ja_cons (j_ix (j_ix (jv 3) (jv 17)) je_int) (ja_cons (j_in (jv 17) (jv 9)) (ja_cons (j_ix (j_ix (jv 3) (jv 17)) je_int) ja_nil))))) (jv 16) (jv 17))))
    (js_cons (j_set 18 sc_law.nd (j_prop (c := "Program") W_Program_steps (by decide) rm O.cls_Program O.prop_Program_steps (j_meth (c := "Program") W_Program_checking (by decide) rm O.cls_Program O.meth_Program_checking pss_body (jv 5) (ja_cons (jv 9) ja_nil))))
    (js_one (js_if (jt_not (j_t (j_call W__law_same (by decide) rm O.g__law_same pss_body (ja_cons (je_lst (ja_cons (jv 18) (ja_cons (j_prop (c := "Program") W_Program_steps (by decide) rm O.cls_Program O.prop_Program_steps (jv 5)) ja_nil))) (ja_cons (je_lst (ja_cons (jb_tuple (ja_cons (jv 16) ja_nil) O.g_tuple) (ja_cons (jv 3) ja_nil))) ja_nil)))))
    (js_one (js_ret je_bl))
    js_nil)))))))))))))))))))))
    (js_one (js_ret je_bl))))
  exact z
end
end K07

set_option maxHeartbeats 1000000
namespace K07
open PySem PySem.Spec PyProof.Rows L2 DH DL
@[simp] theorem isa_ty {a b : String} : isa (.ty a) (.ty b) = kitB a b := by rfl
section
open DL.Ev
/-! the deck: numbers are drawn from it -/
theorem sl64 {n : Nat} (h : n ≤ 1000) : n ≤ sizeLine := by rw [sizeLine_eq]; omega
theorem deck_ok (zs : List Int) (h : zs.length ≤ 63) : ∃ st, f__law_deck [.fro (zs.map .int)] [] = .ok (.loc 1) st ∧ Deck 0 st ∧ st.length = 2 := by
  let ab : Int → Int := fun i => if i < 0 then -i else i
  let cells := zs.map ab
  let bigs := cells.filter fun i => decide ((10 : Int) ^ 18 ≤ i)
  have hl : cells.length ≤ 63 := by simp [cells]; omega
  refine ⟨[.lst (bigs.map .int), .lst [.loc 0, .lst ((cells ++ [(cells.length : Int) + 5]).map .int), .int 0]], ?_, ⟨⟨bigs, cells ++ [(cells.length : Int) + 5], 0, rfl, rfl, ?_, by simp, by simp; omega, Int.le_refl _, by simp⟩, by omega⟩, rfl⟩
  · refine fnB_rt rfl ?_
    show m__law_deck [some (.fro (zs.map .int)), none, none] [] = _
    unfold m__law_deck
    have e1 : mLc (.nm 2) (mIt (mVar 0)) mYes (mCall fAbs (mCons (mVar 2) mNil)) [2] [some (.fro (zs.map .int)), none, none] [] = .ok (.lst (cells.map .int)) [] := by
      rw [lc_ok_of (src := ⟨zs.map .int, []⟩) (s1 := []) rfl, lc_map (p := fun _ => true) (g := fun d => match d with | .int i => .int (ab i) | d => d) okS_nil _ _ (by simp; exact sl64 (by omega))]
      · have : (zs.map D.int).filter (fun _ => true) = zs.map D.int := List.filter_eq_self.mpr fun _ _ => rfl
        simp only [this, List.map_map, List.nil_append, cells]
        rfl
      · intro d hd
        obtain ⟨i, _, rfl⟩ := List.mem_map.mp hd
        exact ⟨_, rfl, rfl, fun _ => rfl⟩
    have e2 : mLcC (.nm 2) (mIt (mVar 1)) (mTest (mOp opGeI (mVar 2) (mOp opPow (mC (.int 10)) (mC (.int 18))))) (mVar 2) [2] [some (.fro (zs.map .int)), some (.lst (cells.map .int)), none] [] = .ok (.loc 0) [.lst (bigs.map .int)] := by
      unfold mLcC
      rw [lc_ok_of (src := ⟨cells.map .int, []⟩) (s1 := []) rfl, lc_map (p := fun d => match d with | .int i => decide ((10 : Int) ^ 18 ≤ i) | d => false) (g := id) okS_nil _ _ (by simp [-sizeLine_eq]; exact sl64 (by omega))]
      · have : ((cells.map D.int).filter fun d => match d with | .int i => decide ((10 : Int) ^ 18 ≤ i) | d => false) = bigs.map .int := by
          rw [List.filter_map]
          rfl
        simp only [List.nil_append, List.map_id, this]
        rfl
      · intro d hd
        obtain ⟨i, _, rfl⟩ := List.mem_map.mp hd
        refine ⟨_, rfl, ?_, fun _ => rfl⟩
        have hp : CPow 10 18 := by decide
        simp [wipeD, opPow, DL.opI, hp, opGeI, opCmpI]
    have h2 : ∀ n, n ≤ 1000 → n ≤ sizeLine := fun n => sl64
    have h3 : cells.length ≤ 16777215 := by omega
    have h4 : 3 ≤ sizeLine := sl64 (by omega)
    have h5 : 1 ≤ sizeLine := sl64 (by omega)
    rw [seq_nx (set_ok e1)]
    refine ret_ok ?_
    show mLstC _ [some (.fro (zs.map .int)), some (.lst (cells.map .int)), none] [] = _
    simp [e2, fLen, asS, asL, asO, opAdd, catL, h3, h4, h5]
  · exact Nat.le_trans (List.length_filter_le _ _) hl
/-- the deck with its big numbers written anew -/
structure DeckAt (st : Store) (bigs cells : List Int) (t : Int) : Prop where
  c0 : st[0]? = some (.lst (bigs.map .int))
  c1 : st[1]? = some (.lst [.loc 0, .lst (cells.map .int), .int t])
theorem DeckAt.put {st : Store} {bigs cells : List Int} {t : Int} (h : DeckAt st bigs cells t) (bigs' : List Int) : DeckAt (st.set 0 (.lst (bigs'.map .int))) bigs' cells t := by
  have l0 : 0 < st.length := (List.getElem?_eq_some_iff.mp h.c0).1
  exact ⟨by rw [List.getElem?_set_self l0], by rw [List.getElem?_set_ne (by omega)]; exact h.c1⟩
abbrev nxCond : M Bool := mTest (mOp (opE0 true) (mOp opIx (mVar 0) (mC (.int 0))) (mLst mNil))
abbrev nxBody : SM := sSeq (sSet 2 (mOp opIx (mOp opIx (mVar 0) (mC (.int 0))) (mC (.int 0))))
    (sSeq (sIf (mTest (mOp opGtI (mVar 2) (mC (.int 0))))
    (sSeq (sSub (mOp opIx (mVar 0) (mC (.int 0))) (mC (.int 0)) (mOp opDiv (mVar 2) (mVar 1)))
    (sRet (mOp opMod (mCall fInt (mCons (mVar 2) mNil)) (mVar 1))))
    sNil)
    (sDrop (mPopAt (mOp opIx (mVar 0) (mC (.int 0))) (mCons (mC (.int 0)) mNil))))
section
variable {st : Store} {bigs cells : List Int} {t many : Int} {e2 : Option D}
theorem atI0 {α : Type} (x : α) (xs : List α) : atI (x :: xs) 0 = some x := by simp [atI, ixN]
theorem at0 (h : DeckAt st bigs cells t) : asS st (.loc 1) = some [.loc 0, .lst (cells.map .int), .int t] := by simp [asS, asL, h.c1]
theorem ix0 (h : DeckAt st bigs cells t) : opIx (.loc 1) (.int 0) st = .ok (.loc 0) st := by simp [opIx, at0 h, atI0]
theorem sizeZ : (0 ≤ sizeLine) = True := by simp
theorem cond_ok (h : DeckAt st bigs cells t) : nxCond [some (.loc 1), some (.int many), e2, none, none, none] st = .ok (!bigs.isEmpty) st := by
  have r := oE0C (neg := true) (st := st) h.c0
  simp [ix0 h, r]
theorem body_pos {b : Int} {bs : List Int} (h : DeckAt st (b :: bs) cells t) (hb : 0 < b) (h1 : 0 < many) (h2 : many < 1073741824) : nxBody [some (.loc 1), some (.int many), e2, none, none, none] st = .ok (.rt (.int (b % many))) (st.set 0 (.lst ((b / many :: bs).map .int))) := by
  have l0 : asS st (.loc 0) = some ((b :: bs).map .int) := by simp [asS, asL, h.c0]
  have hd : CDiv b many := ⟨h1, h2⟩
  have i1 : opIx (.loc 0) (.int 0) st = .ok (.int b) st := by simp [opIx, l0, atI0]
  have x0 : ixN (bs.length + 1) 0 = some 0 := by simp [ixN]
  have la : listAt st (.loc 0) = some (0, (b :: bs).map .int) := by simp [DL.listAt, h.c0]
  simp [ix0 h, i1, opGtI, opCmpI, DL.opI, hb, opDiv, hd, la, x0, fInt, opMod, h1]
theorem body_neg {b : Int} {bs : List Int} (h : DeckAt st (b :: bs) cells t) (hb : ¬ 0 < b) : nxBody [some (.loc 1), some (.int many), e2, none, none, none] st = .ok (.nx [some (.loc 1), some (.int many), some (.int b), none, none, none]) (st.set 0 (.lst (bs.map .int))) := by
  have l0 : asS st (.loc 0) = some ((b :: bs).map .int) := by simp [asS, asL, h.c0]
  have i1 : opIx (.loc 0) (.int 0) st = .ok (.int b) st := by simp [opIx, l0, atI0]
  have la : listAt st (.loc 0) = some (0, (b :: bs).map .int) := by simp [DL.listAt, h.c0]
  have sx : PySem.seqIndex? 0 (bs.length + 1) = some 0 := by simp [PySem.seqIndex?]
  simp [ix0 h, i1, opGtI, opCmpI, DL.opI, hb, mPopAt, la, sx]
theorem while_ok (h1 : 0 < many) (h2 : many < 1073741824) : ∀ (bigs : List Int) (n : Nat) (e2 : Option D) (st : Store), bigs.length < n → DeckAt st bigs cells t →
    (∃ (r : Int) (bigs' : List Int), whileGo nxCond nxBody n [some (.loc 1), some (.int many), e2, none, none, none] st = .ok (.rt (.int r)) (st.set 0 (.lst (bigs'.map .int))) ∧ 0 ≤ r ∧ r < many ∧ bigs'.length ≤ bigs.length) ∨
    (∃ e2', whileGo nxCond nxBody n [some (.loc 1), some (.int many), e2, none, none, none] st = .ok (.nx [some (.loc 1), some (.int many), e2', none, none, none]) (st.set 0 (.lst [])))
  | [], n + 1, e2, st, _, h => by
    refine .inr ⟨e2, ?_⟩
    have l0 : 0 < st.length := (List.getElem?_eq_some_iff.mp h.c0).1
    have q : st[0]'l0 = .lst [] := (List.getElem?_eq_some_iff.mp h.c0).2
    have e : st.set 0 (.lst []) = st := (congrArg (st.set 0) q.symm).trans (List.set_getElem_self l0)
    rw [e]
    unfold whileGo
    rw [cond_ok h]
    rfl
  | b :: bs, n + 1, e2, st, hn, h => by
    have ec : whileGo nxCond nxBody (n + 1) [some (.loc 1), some (.int many), e2, none, none, none] st = (match nxBody [some (.loc 1), some (.int many), e2, none, none, none] st with
      | .ok (.nx env2) s2 => whileGo nxCond nxBody n env2 s2
      | .ok (.ct env2) s2 => whileGo nxCond nxBody n env2 s2
      | .ok (.bk env2) s2 => .ok (.nx env2) s2
      | r => r) := by
      conv => lhs; unfold whileGo
      rw [cond_ok h]
      rfl
    by_cases hb : 0 < b
    · refine .inl ⟨b % many, b / many :: bs, ?_, Int.emod_nonneg _ (by omega), Int.emod_lt_of_pos _ h1, by simp⟩
      rw [ec, body_pos h hb h1 h2]
    · rw [ec, body_neg h hb]
      have l0 : 0 < st.length := (List.getElem?_eq_some_iff.mp h.c0).1
      have ih := while_ok h1 h2 bs n (some (.int b)) (st.set 0 (.lst (bs.map .int))) (by simp at hn; omega) (h.put bs)
      simp only [List.set_set] at ih
      rcases ih with ⟨r, bigs', e, q1, q2, q3⟩ | ⟨e2', e⟩
      · exact .inl ⟨r, bigs', e, q1, q2, by simp; omega⟩
      · exact .inr ⟨e2', e⟩
end
/-- a drawn number -/
theorem next_ok {T : Nat} {st : Store} {many : Int} (h : Deck T st) (h1 : 0 < many) (h2 : many < 1073741824) (hT : T + 1 ≤ 1000000000) : ∃ r st', f__law_next [.loc 1, .int many] st = .ok (.int r) st' ∧ 0 ≤ r ∧ r < many ∧ Deck (T + 1) st' ∧ st'.length = st.length ∧ ∀ n, 2 ≤ n → st'[n]? = st[n]? := by
  obtain ⟨⟨bigs, cells, t, c0, c1, hb, hc, hcl, t0, tT⟩, _⟩ := h
  have D0 : DeckAt st bigs cells t := ⟨c0, c1⟩
  have l0 : 0 < st.length := (List.getElem?_eq_some_iff.mp c0).1
  have l1 : 1 < st.length := (List.getElem?_eq_some_iff.mp c1).1
  rcases while_ok (e2 := none) h1 h2 bigs 64 st (by omega) D0 with ⟨r, bigs', e, q1, q2, q3⟩ | ⟨e2', e⟩
  · refine ⟨r, _, fnB_rt rfl (seq_end e), q1, q2, ⟨⟨bigs', cells, t, (D0.put bigs').c0, (D0.put bigs').c1, by omega, hc, hcl, t0, by omega⟩, hT⟩, by simp, fun n hn => by rw [List.getElem?_set_ne (by omega)]⟩
  · have D1 := D0.put []
    let st1 : Store := st.set 0 (.lst [])
    have k0 : st1[0]? = some (.lst []) := D1.c0
    have k1 : st1[1]? = some (.lst [.loc 0, .lst (cells.map .int), .int t]) := D1.c1
    have m1 : 1 < st1.length := by simp only [st1, List.length_set]; exact l1
    let t1 : Int := t + 1
    let st2 : Store := st1.set 1 (.lst [.loc 0, .lst (cells.map .int), .int t1])
    have g1 : st2[1]? = some (.lst [.loc 0, .lst (cells.map .int), .int t1]) := List.getElem?_set_self m1
    have a1 : asS st1 (.loc 1) = some [.loc 0, .lst (cells.map .int), .int t] := by simp [asS, asL, k1]
    have a2 : asS st2 (.loc 1) = some [.loc 0, .lst (cells.map .int), .int t1] := by simp [asS, asL, g1]
    have v1 : opIx (.loc 1) (.int 2) st1 = .ok (.int t) st1 := by simp [opIx, a1, atI, ixN]
    have v2 : opIx (.loc 1) (.int 2) st2 = .ok (.int t1) st2 := by simp [opIx, a2, atI, ixN]
    have v3 : opIx (.loc 1) (.int 1) st2 = .ok (.lst (cells.map .int)) st2 := by simp [opIx, a2, atI, ixN]
    have la : DL.listAt st1 (.loc 1) = some (1, [.loc 0, .lst (cells.map .int), .int t]) := by simp [DL.listAt, k1]
    have lp : 0 < (cells.length : Int) := by
      cases cells with
      | nil => exact absurd rfl hc
      | cons a l => simp only [List.length_cons]; omega
    have lpn : 0 < cells.length := by omega
    have i0 : 0 ≤ t1 % (cells.length : Int) := Int.emod_nonneg _ (by omega)
    have i1 : t1 % (cells.length : Int) < cells.length := Int.emod_lt_of_pos _ lp
    obtain ⟨c, hcc⟩ : ∃ c, cells[(t1 % (cells.length : Int)).toNat]? = some c := ⟨_, List.getElem?_eq_getElem (by omega)⟩
    have v4 : opIx (.lst (cells.map .int)) (.int (t1 % (cells.length : Int))) st2 = .ok (.int c) st2 := by
      simp [opIx, asS, asL, atI, ixN, i0, i1]
      exact (List.getElem?_eq_some_iff.mp hcc).2
    let num : Int := c % 2147483629
    have n0 : 0 ≤ num := Int.emod_nonneg _ (by omega)
    have n1 : num < 2147483629 := Int.emod_lt_of_pos _ (by omega)
    let mix : Int := (num * (50331 + 68111 * t1) + 41287 * t1 * t1 + 19) % 2147483587
    have x0 : 0 ≤ mix := Int.emod_nonneg _ (by omega)
    have x1 : mix < 2147483587 := Int.emod_lt_of_pos _ (by omega)
    have tb : 0 < t1 ∧ t1 ≤ 1000000001 := by simp only [t1]; omega
    have u1 : CMulB 68111 t1 := .inl (.inl (by omega))
    have u2 : CMulB num (50331 + 68111 * t1) := .inl (.inl (by omega))
    have u3 : CMulB 41287 t1 := .inl (.inl (by omega))
    have u4 : CMulB (41287 * t1) t1 := .inl (.inr (by omega))
    have u5 : CMulB mix mix := .inl (.inl (by omega))
    let r : Int := mix * mix % 2147483579 / 16 % many
    have ud : CDiv (mix * mix % 2147483579) 16 := ⟨by omega, by omega⟩
    refine ⟨r, st2, fnB_rt rfl ?_, Int.emod_nonneg _ (by omega), Int.emod_lt_of_pos _ h1, ⟨⟨[], cells, t1, ?_, g1, by simp, hc, hcl, by omega, by simp only [t1]; omega⟩, hT⟩, by simp [st2, st1], fun n hn => ?_⟩
    · refine (seq_nx e).trans ?_
      have s1 : sSub (mVar 0) (mC (.int 2)) (mOp opAdd (mOp opIx (mVar 0) (mC (.int 2))) (mC (.int 1))) [some (.loc 1), some (.int many), e2', none, none, none] st1 = .ok (.nx [some (.loc 1), some (.int many), e2', none, none, none]) st2 := by
        simp [v1, opAdd, la, ixN, st2, t1]
      rw [seq_nx s1]
      have s2 : mOp opIx (mVar 0) (mC (.int 2)) [some (.loc 1), some (.int many), e2', none, none, none] st2 = .ok (.int t1) st2 := by simp [v2]
      rw [seq_nx (set_ok s2)]
      have s3 : mOp opMod (mCall fInt (mCons (mOp opIx (mOp opIx (mVar 0) (mC (.int 1))) (mOp opMod (mCall fInt (mCons (mVar 3) mNil)) (mCall fLen (mCons (mOp opIx (mVar 0) (mC (.int 1))) mNil)))) mNil)) (mC (.int 2147483629)) [some (.loc 1), some (.int many), e2', some (.int t1), none, none] st2 = .ok (.int num) st2 := by
        simp [v3, fInt, fLen, asS, asL, opMod, DL.opI, lp, lpn, v4, num]
      rw [List.set, List.set, List.set, List.set, seq_nx (set_ok s3)]
      have s4 : mOp opMod (mCall fInt (mCons (mOp opAdd (mOp opAdd (mOp opMul (mVar 4) (mOp opAdd (mC (.int 50331)) (mOp opMul (mC (.int 68111)) (mVar 3)))) (mOp opMul (mOp opMul (mC (.int 41287)) (mVar 3)) (mVar 3))) (mC (.int 19))) mNil)) (mC (.int 2147483587)) [some (.loc 1), some (.int many), e2', some (.int t1), some (.int num), none] st2 = .ok (.int mix) st2 := by
        simp [opMul, DL.opI, u1, u2, u3, u4, opAdd, fInt, opMod, mix]
      rw [List.set, List.set, List.set, List.set, List.set, seq_nx (set_ok s4)]
      refine ret_ok ?_
      simp [opMul, DL.opI, u5, fInt, opMod, opDiv, ud, h1, r]
    · show (st1.set 1 _)[0]? = _
      rw [List.getElem?_set_ne (by omega)]
      exact k0
    · show ((st.set 0 _).set 1 _)[n]? = _
      rw [List.getElem?_set_ne (by omega), List.getElem?_set_ne (by omega)]

end
/-- a number is drawn -/
theorem next_wp {n : Nat} {st : Store} {many : Int} (h : Dk (n + 1) st) (h1 : 0 < many) (h2 : many < 1073741824) : Wp (f__law_next [.loc 1, .int many] st) (fun d s => ∃ r, d = .int r ∧ 0 ≤ r ∧ r < many ∧ Go n st s) NoX := by
  obtain ⟨T, h, hT⟩ := h
  obtain ⟨r, s, e, r0, r1, hD, hl, hk⟩ := next_ok h h1 h2 (by omega)
  rw [e]
  exact ⟨r, rfl, r0, r1, ⟨T + 1, hD, by omega⟩, h.len, by omega, fun k hk1 _ => hk k hk1⟩
theorem deck_wp (zs : List Int) (h : zs.length ≤ 63) : Wp (f__law_deck [.fro (zs.map .int)] []) (fun d s => d = .loc 1 ∧ Dk 1000000000 s ∧ s.length = 2) NoX := by
  obtain ⟨st, e, hD, hl⟩ := deck_ok zs h
  rw [e]
  exact ⟨rfl, ⟨0, hD, by omega⟩, hl⟩
end K07

set_option maxHeartbeats 1000000
namespace K07
open PySem PySem.Spec PyProof.Rows L2 DH DL
/-! editions, outcomes, steps, drawn -/
theorem edition_wp {n : Nat} {st : Store} (h : Dk (n + 4) st) : Wp (f__law_edition [.loc 1] st) (fun d s => ∃ ps, d = edD ps ∧ IsEd ps ∧ Go n st s) NoX := by
  simp [f__law_edition, m__law_edition]
  refine (next_wp h (by decide) (by decide)).go ?_
  rintro _ s1 ⟨r, rfl, r0, r1, g1⟩
  try simp
  refine KO_pick (fun d => ∃ m : Int, d = .int m ∧ 0 ≤ m ∧ m ≤ 2) r0 r1 (by simp) ?_
  rintro _ ⟨m, rfl, m0, m1⟩
  try simp
  rw [kr1 (by omega)]
  simp [wipeD]
  refine Wp.lcR (n := n) 1 (fun d => ∃ p, d = .int p ∧ 0 ≤ p ∧ p ≤ 9) (g1.dk.le (by omega)) (by omega) (fun j k s _ g => ?_) fun ys s e hy g => ?_
  · simp [szL]
    refine (next_wp g.dk (by decide) (by decide)).go ?_
    rintro _ s1 ⟨r, rfl, r0, r1, g1⟩
    try simp
    refine KO_pick (fun d => ∃ p : Int, d = .int p ∧ 0 ≤ p ∧ p ≤ 9) r0 r1 (by simp) ?_
    rintro _ ⟨p, rfl, p0, p1⟩
    exact ⟨⟨p, rfl, p0, p1⟩, g1⟩
  · obtain ⟨ps, rfl, hp⟩ := list_of hy
    simp at e
    simp
    exact ⟨ps, rfl, ⟨by omega, by omega, hp⟩, g1.trans g⟩
theorem outcomes_wp {n : Nat} {st : Store} (h : Dk (n + 1) st) : Wp (f__law_outcomes [.loc 1] st) (fun d s => ∃ o, d = strsD o ∧ o ∈ rows7 ∧ Go n st s) NoX := by
  simp [f__law_outcomes, m__law_outcomes]
  refine (next_wp h (by decide) (by decide)).go ?_
  rintro _ s1 ⟨r, rfl, r0, r1, g1⟩
  try simp
  refine KO_pick (fun d => ∃ o, d = strsD o ∧ o ∈ rows7) r0 r1 ?_ ?_
  · simp only [List.mem_cons, List.not_mem_nil, or_false, forall_eq_or_imp, forall_eq]
    exact ⟨⟨["lost"], rfl, by simp [rows7]⟩, ⟨["no"], rfl, by simp [rows7]⟩, ⟨["ok", "no", "lost"], rfl, by simp [rows7]⟩, ⟨["no", "lost"], rfl, by simp [rows7]⟩, ⟨["ok"], rfl, by simp [rows7]⟩, ⟨["ok", "lost"], rfl, by simp [rows7]⟩, ⟨["lost"], rfl, by simp [rows7]⟩⟩
  · rintro _ ⟨o, rfl, ho⟩
    exact ⟨o, rfl, ho, g1⟩
theorem step_wp {n : Nat} {st : Store} {lines : Int} (h : Dk (n + 8) st) (hl : 0 ≤ lines) (hl2 : lines ≤ 1000) : Wp (f__law_step [.loc 1, .int lines] st) (fun d s => ∃ p : Stp, d = p.d ∧ p.ok lines ∧ Go n st s) NoX := by
  simp [f__law_step, m__law_step]
  refine (next_wp h (by decide) (by decide)).go ?_
  rintro _ s1 ⟨k, rfl, k0, k1, g1⟩
  try simp
  refine (next_wp g1.dk (by decide) (by decide)).go ?_
  rintro _ s2 ⟨r, rfl, r0, r1, g2⟩
  try simp
  refine KO_pick (fun d => ∃ w, d = .str w ∧ w ∈ whens) r0 r1 (by simp [whens]) ?_
  rintro _ ⟨w, rfl, hw⟩
  try simp
  have g := g1.trans g2
  by_cases c1 : k < 4
  · simp [c1]
    refine KO_pick (fun d => ∃ p : Stp, d = p.d ∧ p.ok lines) k0 c1 ?_ ?_
    · simp only [List.mem_cons, List.not_mem_nil, or_false, forall_eq_or_imp, forall_eq]
      exact ⟨⟨.begin, rfl, trivial⟩, ⟨.throw, rfl, trivial⟩, ⟨.look, rfl, trivial⟩, ⟨.find, rfl, trivial⟩⟩
    · rintro _ ⟨p, rfl, hp⟩
      exact ⟨p, rfl, hp, g.le (by omega)⟩
  · by_cases c2 : k < 7
    · simp [c1, c2]
      refine (next_wp g2.dk (by decide) (by decide)).go ?_
      rintro _ s3 ⟨r, rfl, r0, r1, g3⟩
      try simp
      refine KO_pick (fun d => ∃ a, d = .int a ∧ 0 ≤ a ∧ a ≤ 2) r0 r1 (by simp) ?_
      rintro _ ⟨a, rfl, a0, a1⟩
      simp [szL]
      refine (next_wp g3.dk (by decide) (by decide)).go ?_
      rintro _ s4 ⟨r, rfl, r0, r1, g4⟩
      try simp
      refine KO_pick (fun d => ∃ b, d = .int b ∧ 0 ≤ b ∧ b ≤ 9) r0 r1 (by simp) ?_
      rintro _ ⟨b, rfl, b0, b1⟩
      try simp
      exact ⟨.lay (1 + a) b, rfl, ⟨⟨by omega, by omega⟩, b0, b1⟩, ((g.trans g3).trans g4).le (by omega)⟩
    · by_cases c3 : k < 9
      · simp [c1, c2, c3]
        refine (edition_wp (n := n + 2) (g2.dk.le (by omega))).go ?_
        rintro _ s3 ⟨e, rfl, he, g3⟩
        try simp
        refine (next_wp g3.dk (by decide) (by decide)).go ?_
        rintro _ s4 ⟨r, rfl, r0, r1, g4⟩
        try simp
        exact ⟨.join e (r == 0) w, rfl, ⟨he, hw⟩, ((g.trans g3).trans g4).le (by omega)⟩
      · simp [c1, c2, c3]
        refine (next_wp g2.dk (by omega) (by omega)).go ?_
        rintro _ s3 ⟨l, rfl, l0, l1, g3⟩
        try simp
        refine (outcomes_wp g3.dk).go ?_
        rintro _ s4 ⟨o, rfl, ho, g4⟩
        try simp
        exact ⟨.go l o, rfl, ⟨⟨l0, by omega⟩, ho⟩, ((g.trans g3).trans g4).le (by omega)⟩
end K07

set_option maxHeartbeats 1000000
namespace K07
open PySem PySem.Spec PyProof.Rows L2 DH DL
/-! alike, kinds and all -/
theorem same_eq : ∀ (n k : Nat) (x y : D) (st : Store), okD x = true → shB k y = true → k < n → f__law_same n [x, y] st = .ok (.bl (idB x y)) st
  | 0, k, x, y, st, _, _, h => by omega
  | n + 1, k, x, y, st, hx, hy, hk => by
    refine Wp.eq ?_
    have seq : ∀ xs ys : List D, (∀ k', ys.length ≤ 1000000 → ys.all (shB k') = true → k' < n → okDs xs = true → xs.length = ys.length → ∀ x y, D.tup [x, y] ∈ pairsD xs ys → f__law_same n [x, y] st = .ok (.bl (idB x y)) st) := by
      intro xs ys k' hl hs hk' ho he x y hm
      obtain ⟨i, hi⟩ := List.getElem?_of_mem hm
      obtain ⟨a, b, h1, h2, e⟩ := pairs_get hi
      cases e
      exact same_eq n k' x y st (oks_mem ho x (List.mem_of_getElem? h1)) (List.all_eq_true.mp hs y (List.mem_of_getElem? h2)) hk'
    show Wp (fnB 2 4 (m__law_same (f__law_same n)) [x, y] st) _ _
    cases y with
    | tup ys =>
      obtain ⟨k, rfl⟩ : ∃ k', k = k' + 1 := by cases k with | zero => cases hy | succ k => exact ⟨k, rfl⟩
      obtain ⟨hl, hs⟩ := sh_items (.inl hy)
      cases x with
      | tup xs =>
        have ho : okDs xs = true := hx
        simp [m__law_same]
        by_cases e : xs.length = ys.length
        · simp [e]
          refine Wp.lcA (fun p => .bl (idP p)) (by rw [DL.pairs_len]; omega) (fun p hp => ?_) ?_
          · obtain ⟨i, hi⟩ := List.getElem?_of_mem hp
            obtain ⟨a, b, h1, h2, rfl⟩ := pairs_get hi
            refine ⟨_, rfl, ?_⟩
            simp [wipeD, seq xs ys k hl hs (by omega) ho e a b hp, idP]
          · simp [idB_pairs xs ys e, idB]
        · have e2 : ¬ (xs.length : Int) = (ys.length : Int) := by omega
          simp [e2, idB, idB_len e]
      | _ => first | (cases hx; done) | simp [m__law_same, idB]
    | lst ys =>
      obtain ⟨k, rfl⟩ : ∃ k', k = k' + 1 := by cases k with | zero => cases hy | succ k => exact ⟨k, rfl⟩
      obtain ⟨hl, hs⟩ := sh_items (.inr hy)
      cases x with
      | lst xs =>
        have ho : okDs xs = true := hx
        simp [m__law_same]
        by_cases e : xs.length = ys.length
        · simp [e]
          refine Wp.lcA (fun p => .bl (idP p)) (by rw [DL.pairs_len]; omega) (fun p hp => ?_) ?_
          · obtain ⟨i, hi⟩ := List.getElem?_of_mem hp
            obtain ⟨a, b, h1, h2, rfl⟩ := pairs_get hi
            refine ⟨_, rfl, ?_⟩
            simp [wipeD, seq xs ys k hl hs (by omega) ho e a b hp, idP]
          · simp [idB_pairs xs ys e, idB]
        · have e2 : ¬ (xs.length : Int) = (ys.length : Int) := by omega
          simp [e2, idB, idB_len e]
      | _ => first | (cases hx; done) | simp [m__law_same, idB]
    | str y =>
      rw [sh_str] at hy
      cases x with
      | str x =>
        have hx2 : PyData.canLay0 (.str x) = true := SeqAt.canLay_of_shaped hx
        simp [m__law_same, idB, oEq_str hx2 hy]
      | _ => first | (cases hx; done) | simp [m__law_same, idB]
    | non => cases x <;> first | (cases hx; done) | simp [m__law_same, idB]
    | bl b => cases x <;> first | (cases hx; done) | simp [m__law_same, idB]
    | int b => cases x <;> first | (cases hx; done) | simp [m__law_same, idB]
    | _ => cases k <;> cases hy
/-- a value without dicts, beside itself -/
theorem same_self {n k : Nat} {x : D} {st : Store} (h : shB k x = true) (hk : k < n) : f__law_same n [x, x] st = .ok (.bl true) st := by
  rw [same_eq n k x x st (sh_ok k x h) h hk, idB_refl k x h]
end K07

set_option maxHeartbeats 1000000
namespace K07
open PySem PySem.Spec PyProof.Rows L2 DH DL
/-! a value beside itself, dicts too -/
def saB : Nat → D → Bool
  | _, .non => true
  | _, .bl _ => true
  | _, .int _ => true
  | _, .str x => PyData.canLay0 (.str x)
  | k + 1, .tup xs => decide (xs.length ≤ 1000000) && xs.all (saB k)
  | k + 1, .lst xs => decide (xs.length ≤ 1000000) && xs.all (saB k)
  | _, .dct ks vs => rvB 4 423 (.dct ks vs)
  | _, _ => false
@[simp] theorem sa_non {k : Nat} : saB k .non = true := by cases k <;> rfl
@[simp] theorem sa_bl {k : Nat} {b : Bool} : saB k (.bl b) = true := by cases k <;> rfl
@[simp] theorem sa_int {k : Nat} {i : Int} : saB k (.int i) = true := by cases k <;> rfl
theorem sa_str {k : Nat} {x : Str} : saB k (.str x) = PyData.canLay0 (.str x) := by cases k <;> rfl
@[simp] theorem sa_tup {k : Nat} {xs : List D} : saB (k + 1) (.tup xs) = (decide (xs.length ≤ 1000000) && xs.all (saB k)) := rfl
@[simp] theorem sa_lst {k : Nat} {xs : List D} : saB (k + 1) (.lst xs) = (decide (xs.length ≤ 1000000) && xs.all (saB k)) := rfl
theorem sa_sh : ∀ {k : Nat} {x : D}, shB k x = true → saB k x = true
  | k, .non, _ => sa_non
  | k, .bl b, _ => sa_bl
  | k, .int i, _ => sa_int
  | k, .str x, h => by rw [sa_str]; rwa [sh_str] at h
  | 0, .tup _, h => by cases h
  | 0, .lst _, h => by cases h
  | k + 1, .tup xs, h => by
    obtain ⟨h1, h2⟩ := sh_items (.inl h)
    rw [sa_tup, Bool.and_eq_true, List.all_eq_true]
    exact ⟨decide_eq_true h1, fun x hx => sa_sh (List.all_eq_true.mp h2 x hx)⟩
  | k + 1, .lst xs, h => by
    obtain ⟨h1, h2⟩ := sh_items (.inr h)
    rw [sa_lst, Bool.and_eq_true, List.all_eq_true]
    exact ⟨decide_eq_true h1, fun x hx => sa_sh (List.all_eq_true.mp h2 x hx)⟩
  | 0, .dct _ _, h => by cases h
  | 0, .obj _ _ _, h => by cases h
  | 0, .fro _, h => by cases h
  | 0, .loc _, h => by cases h
  | 0, .exn _ _ _, h => by cases h
  | k + 1, .dct _ _, h => by cases h
  | k + 1, .obj _ _ _, h => by cases h
  | k + 1, .fro _, h => by cases h
  | k + 1, .loc _, h => by cases h
  | k + 1, .exn _ _ _, h => by cases h
theorem same_sa : ∀ (n k : Nat) (x : D) (st : Store), saB k x = true → k < n → f__law_same n [x, x] st = .ok (.bl true) st
  | 0, k, x, st, _, h => by omega
  | n + 1, k, x, st, hx, hk => by
    refine Wp.eq ?_
    have seq : ∀ (xs : List D) (k' : Nat), xs.all (saB k') = true → k' < n → ∀ p, p ∈ pairsD xs xs → ∃ x, p = .tup [x, x] ∧ f__law_same n [x, x] st = .ok (.bl true) st := by
      intro xs k' hs hk' p hm
      obtain ⟨i, hi⟩ := List.getElem?_of_mem hm
      obtain ⟨a, b, h1, h2, e⟩ := pairs_get hi
      rw [h1] at h2
      cases h2
      exact ⟨a, e, same_sa n k' a st (List.all_eq_true.mp hs a (List.mem_of_getElem? h1)) hk'⟩
    have al : ∀ xs : List D, (pairsD xs xs).all (fun _ => true) = true := fun xs => by simp
    show Wp (fnB 2 4 (m__law_same (f__law_same n)) [x, x] st) _ _
    cases x with
    | tup xs =>
      obtain ⟨k, rfl⟩ : ∃ k', k = k' + 1 := by cases k with | zero => cases hx | succ k => exact ⟨k, rfl⟩
      rw [sa_tup, Bool.and_eq_true] at hx
      have hl := of_decide_eq_true hx.1
      simp [m__law_same]
      refine Wp.lcA (fun p => .bl true) (by rw [DL.pairs_len]; omega) (fun p hp => ?_) ?_
      · obtain ⟨x, rfl, e⟩ := seq xs k hx.2 (by omega) p hp
        refine ⟨_, rfl, ?_⟩
        simp [wipeD, e]
      · have fa : ∀ s, fL gAll [.lst ((pairsD xs xs).map fun p => .bl true)] s = .ok (.bl true) s := fun s => by rw [fAll_map (f := fun _ => true), al]
        simp only [kcons, wp_nil, kcons2, kcall, fa, Wp_ok]
        simp
    | lst xs =>
      obtain ⟨k, rfl⟩ : ∃ k', k = k' + 1 := by cases k with | zero => cases hx | succ k => exact ⟨k, rfl⟩
      rw [sa_lst, Bool.and_eq_true] at hx
      have hl := of_decide_eq_true hx.1
      simp [m__law_same]
      refine Wp.lcA (fun p => .bl true) (by rw [DL.pairs_len]; omega) (fun p hp => ?_) ?_
      · obtain ⟨x, rfl, e⟩ := seq xs k hx.2 (by omega) p hp
        refine ⟨_, rfl, ?_⟩
        simp [wipeD, e]
      · have fa : ∀ s, fL gAll [.lst ((pairsD xs xs).map fun p => .bl true)] s = .ok (.bl true) s := fun s => by rw [fAll_map (f := fun _ => true), al]
        simp only [kcons, wp_nil, kcons2, kcall, fa, Wp_ok]
        simp
    | str y =>
      rw [sa_str] at hx
      simp [m__law_same, oEq_str hx hx]
    | non => simp [m__law_same]
    | bl b => simp [m__law_same]
    | int b => simp [m__law_same]
    | dct ks vs =>
      have hr : rvB 4 423 (.dct ks vs) = true := by cases k <;> exact hx
      obtain ⟨s, h1, h2⟩ := repr_ok (rv_of hr) (by decide) (by decide)
      simp [m__law_same, h2, oEq_str h1 h1]
    | _ => cases k <;> cases hx
theorem sa_le : ∀ (j : Nat) {k : Nat} (_ : j ≤ k) {d : D}, saB j d = true → saB k d = true
  | _, _, _, .non, _ => sa_non
  | _, _, _, .bl _, _ => sa_bl
  | _, _, _, .int _, _ => sa_int
  | _, _, _, .str _, h => by rw [sa_str] at h ⊢; exact h
  | j, k, l, .dct ks vs, h => by
    have e : ∀ n, saB n (.dct ks vs) = rvB 4 423 (.dct ks vs) := fun n => by cases n <;> rfl
    rw [e] at h ⊢
    exact h
  | j + 1, k + 1, l, .tup xs, h => by
    rw [sa_tup, Bool.and_eq_true, List.all_eq_true] at h ⊢
    exact ⟨h.1, fun x hx => sa_le j (by omega) (h.2 x hx)⟩
  | j + 1, k + 1, l, .lst xs, h => by
    rw [sa_lst, Bool.and_eq_true, List.all_eq_true] at h ⊢
    exact ⟨h.1, fun x hx => sa_le j (by omega) (h.2 x hx)⟩
  | 0, _, _, .tup _, h => by cases h
  | 0, _, _, .lst _, h => by cases h
  | j + 1, 0, l, _, _ => by omega
  | 0, _, _, .obj _ _ _, h => by cases h
  | 0, _, _, .fro _, h => by cases h
  | 0, _, _, .loc _, h => by cases h
  | 0, _, _, .exn _ _ _, h => by cases h
  | j + 1, _, _, .obj _ _ _, h => by cases h
  | j + 1, _, _, .fro _, h => by cases h
  | j + 1, _, _, .loc _, h => by cases h
  | j + 1, _, _, .exn _ _ _, h => by cases h
end K07

set_option maxHeartbeats 1000000
namespace K07
open PySem PySem.Spec PyProof.Rows L2 DH DL
/-! the odd values -/
def odd0 : List D := [.non, .bl true, .bl false, .int 0, .int 1, .int 2, .int 3, .int 4, .int (-1), .int 9, .int 10, .int 13, .int (10 ^ 30), .str "", .str "0", .str "ok", .str "go", .str "begin", .str "any", .tup [], .lst []]
def odd1 : List D := [.tup [.int 0], .tup [.int 0, .int 1], .lst [.int 0, .int 1], .tup [.non], .tup [.str "begin"], .lst [.str "begin"], .tup [.str "ok"], .lst [.str "ok"], .tup [.str "lost", .str "ok"], .tup [.int 4, .int 7], .dct [] []]
def odd2 : List D := [.tup [.bl true], .tup [.str "begin", .int 0], .tup [.str "step", .int 0, .str "done"], .tup [.int 4, .lst [.int 7]], .tup [.dct [] []], .tup [.str "ok", .str "ok"], .tup [.int 10], .tup [.int 4, .int 7, .int 0, .int 9]]
def odd3 : List D := [.dct [.inl 0] [.int 1], .str "lost", .tup [.int (-1)], .tup [.int 4, .int (-1)], .tup [.int 0, .int 10]]
def odds : List D := odd0 ++ odd1 ++ odd2 ++ odd3
theorem odds_v : ∀ d ∈ odds, It d ∧ Vv d := by
  have h : (odds.all vvB) = true := by decide +kernel
  intro d hd
  have q := List.all_eq_true.mp h d hd
  obtain ⟨h1, h2⟩ := Bool.and_eq_true_iff.mp q
  have i := it_of h1
  refine ⟨i, i.1, i.2.le (by omega) (by omega), fun ds e => ?_⟩
  subst e
  obtain ⟨h3, h4⟩ := Bool.and_eq_true_iff.mp h2
  exact ⟨of_decide_eq_true h3, fun x hx => it_of (List.all_eq_true.mp h4 x hx)⟩
theorem odds_few : ∀ d ∈ odds, ∀ ds, d = .tup ds → ds.length ≤ 8 := by
  have h : (odds.all fun d => match d with
    | .tup ds => decide (ds.length ≤ 8)
    | _ => true) = true := by decide +kernel
  intro d hd ds e
  subst e
  exact of_decide_eq_true (List.all_eq_true.mp h _ hd)
theorem odd_wp {n : Nat} {st : Store} (h : Dk (n + 1) st) : Wp (f__law_odd [.loc 1] st) (fun d s => d ∈ odds ∧ Go n st s) NoX := by
  simp [f__law_odd, m__law_odd]
  refine (next_wp h (by decide) (by decide)).go ?_
  rintro _ s1 ⟨r, rfl, r0, r1, g1⟩
  simp
  refine KO_pick (fun d => d ∈ odds) r0 r1 (fun x hx => hx) fun x hx => ?_
  exact ⟨hx, g1⟩
end K07

set_option maxHeartbeats 1000000
namespace K07
open PySem PySem.Spec PyProof.Rows L2 DH DL
/-! bent steps -/
theorem bent_wp {n m : Nat} {st : Store} {v : D} (h : Dk (n + 3) st) (hv : Vn m v) (hm : m + 1 ≤ 12) (hm8 : 8 ≤ m) : Wp (f__law_bent [.loc 1, v] st) (fun d s => Vn (m + 1) d ∧ Go n st s) NoX := by
  simp [f__law_bent, m__law_bent]
  refine (next_wp h (by decide) (by decide)).go ?_
  rintro _ s1 ⟨k, rfl, k0, k1, g1⟩
  try simp
  refine (next_wp g1.dk (by decide) (by decide)).go ?_
  rintro _ s2 ⟨a, rfl, a0, a1, g2⟩
  try simp
  refine (odd_wp g2.dk).go ?_
  rintro od s3 ⟨ho, g3⟩
  have g := (g1.trans g2).trans g3
  obtain ⟨oi, ov⟩ := odds_v od ho
  have vodd : Vn (m + 1) od := ⟨ov, fun ds e => Nat.le_trans (odds_few _ ho ds e) (by omega)⟩
  cases v with
  | tup ds =>
    have hl := hv.few ds rfl
    have hi := (hv.v.tup ds rfl).2
    simp
    by_cases ck : k = 0
    · subst ck
      simp
      exact ⟨vodd, g⟩
    · simp [ck]
      by_cases c6 : k < 6
      · have hm0 : 0 ≤ a % ((ds.length : Int) + 1) := Int.emod_nonneg _ (by omega)
        have hm1 : a % ((ds.length : Int) + 1) < (ds.length : Int) + 1 := Int.emod_lt_of_pos _ (by omega)
        simp [c6]
        generalize a % ((ds.length : Int) + 1) = b at hm0 hm1
        have l1 := cut_two (xs := ds) hm0 hm1
        refine ⟨by omega, by omega, ⟨Vv.of_tup ?_ ?_, ?_⟩, g⟩
        · simp
          omega
        · intro x hx
          simp only [List.mem_append, List.mem_cons, List.not_mem_nil, or_false] at hx
          rcases hx with hx | hx | hx
          · exact hi x (cut_mem hx)
          · subst hx
            exact oi
          · exact hi x (cut_mem hx)
        · intro es e
          injection e with e
          subst e
          simp
          omega
      · simp [c6]
        refine ⟨by omega, ?_⟩
        have l1 := cut_len (xs := ds) (lo := none) (hi := some (-1))
        refine KO_pick (fun d => Vn (m + 1) d) (by omega) (by simp; omega) ?_ fun x hx => ⟨hx, g⟩
        simp only [List.mem_cons, List.not_mem_nil, or_false, forall_eq_or_imp, forall_eq]
        refine ⟨⟨Vv.of_tup (by simp; omega) ?_, ?_⟩, ⟨Vv.of_tup (by omega) fun x hx => hi x (cut_mem hx), ?_⟩, ⟨Vv.of_lst (by omega) hi, fun es e => by cases e⟩⟩
        · intro x hx
          simp only [List.mem_append, List.mem_cons, List.not_mem_nil, or_false] at hx
          rcases hx with hx | hx
          · exact hi x hx
          · subst hx
            exact oi
        · intro es e
          injection e with e
          subst e
          simp
          omega
        · intro es e
          injection e with e
          subst e
          omega
  | _ => first | (cases hv.v.ok; done) | (simp; exact ⟨vodd, g⟩)
end K07

set_option maxHeartbeats 1000000
namespace K07
open PySem PySem.Spec PyProof.Rows L2 DH DL
/-! the usual steps -/
theorem usual_wp {n : Nat} {st : Store} (h : Dk (n + 20) st) : Wp (f__law_usual [.loc 1] st) (fun d s => ∃ ps : List Stp, d = .lst (ps.map Stp.d) ∧ 1 ≤ ps.length ∧ ps.length ≤ 12 ∧ (∀ p ∈ ps, p.ok 100) ∧ Go n st s) NoX := by
  have lost : ∀ l : Int, 0 ≤ l → l ≤ 100 → (Stp.go l ["lost"]).ok 100 := fun l h1 h2 => ⟨⟨h1, h2⟩, by simp [rows7]⟩
  simp [f__law_usual, m__law_usual]
  refine (edition_wp (n := n + 16) h).go ?_
  rintro _ s1 ⟨ed, rfl, he, g1⟩
  simp [-wp_sIf]
  have L2 := g1.dk.len
  have lL := g1.len
  have c1 : (s1 ++ [Cell.lst [D.tup [D.str "begin"]]])[s1.length]? = some (.lst ([Stp.begin].map Stp.d)) := cell_last
  have g1 := g1.more (Cell.lst [D.tup [D.str "begin"]])
  generalize s1 ++ [Cell.lst [D.tup [D.str "begin"]]] = s2 at c1 g1
  generalize s1.length = L at c1 L2 lL
  refine Wp.cut (fun env s => env = [some (.loc 1), some (edD ed), some (.loc L), none, none, none] ∧ Go (n + 15) st s ∧ ∃ ps : List Stp, s[L]? = some (.lst (ps.map Stp.d)) ∧ 1 ≤ ps.length ∧ ps.length ≤ 2 ∧ ∀ p ∈ ps, p.ok 100) ?_ ?_
  · simp
    refine (next_wp (n := n + 15) g1.dk (by decide) (by decide)).go ?_
    rintro _ s3 ⟨r, rfl, r0, r1, g3⟩
    have c3 := g3.cell c1 L2
    have g3 := g1.trans g3
    by_cases c : r = 0
    · simp [c, listAt_c c3]
      rw [kapp2 (listAt_c c3) (by simp)]
      simp
      exact ⟨g3.putAt lL _, [.begin, .go 0 ["lost"]], by rw [cell_set c3]; rfl, by simp, by simp, by simp; exact ⟨trivial, lost 0 (by omega) (by omega)⟩⟩
    · simp [c]
      exact ⟨g3, [.begin], c3, by simp, by simp, by simp; exact trivial⟩
  rintro _ s3 ⟨rfl, g3, ps, c3, h1, h2, hp⟩
  simp [edD]
  have hed := he.2.1
  refine Wp.for (fun j env s => (∃ x3 x4, env = [some (.loc 1), some (edD ed), some (.loc L), x3, x4, none]) ∧ Go (n + 15 - j) st s ∧ ∃ ps : List Stp, s[L]? = some (.lst (ps.map Stp.d)) ∧ 1 ≤ ps.length ∧ ps.length ≤ 2 + 2 * j ∧ ∀ p ∈ ps, p.ok 100) ⟨⟨_, _, rfl⟩, g3, ps, c3, h1, by omega, hp⟩ ?_ ?_
  · rintro j d env s hd ⟨⟨x3, x4, rfl⟩, g, ps, hc, h1, h2, hp⟩
    obtain ⟨x, hj, rfl⟩ := num_get hd
    have hj3 : j < ed.length := by
      have := (List.getElem?_eq_some_iff.mp hj).1
      simpa using this
    obtain ⟨b, hb, rfl⟩ : ∃ b, b ∈ ed ∧ x = .int b := by
      obtain ⟨b, hb, e⟩ := List.mem_map.mp (List.mem_of_getElem? hj)
      exact ⟨b, hb, e.symm⟩
    have hb2 := he.2.2 b hb
    refine ⟨_, rfl, ?_⟩
    simp [listAt_c hc]
    rw [kapp2 (listAt_c hc) (by simp; omega)]
    simp
    have hlay : (Stp.lay ((j : Int) + 1) b).ok 100 := ⟨⟨by omega, by omega⟩, hb2.1, hb2.2⟩
    have c4 : (s.set L (.lst (ps.map Stp.d ++ [D.tup [D.str "lay", D.int ((j : Int) + 1), D.int b]])))[L]? = some (.lst ((ps ++ [Stp.lay ((j : Int) + 1) b]).map Stp.d)) := by
      rw [cell_set hc]
      simp [Stp.d]
    have g4 := g.putAt lL (.lst (ps.map Stp.d ++ [D.tup [D.str "lay", D.int ((j : Int) + 1), D.int b]]))
    generalize s.set L (.lst (ps.map Stp.d ++ [D.tup [D.str "lay", D.int ((j : Int) + 1), D.int b]])) = s4 at c4 g4
    refine (next_wp (n := n + 15 - (j + 1)) (g4.dk.le (by omega)) (by decide) (by decide)).go ?_
    rintro _ s5 ⟨r, rfl, r0, r1, g5⟩
    have c5 := g5.cell c4 L2
    have g5 := (g4.le (m := n + 15 - (j + 1) + 1) (by omega)).trans g5
    have hp2 : ∀ p ∈ ps ++ [Stp.lay ((j : Int) + 1) b], p.ok 100 := fun p hm => by
      rcases List.mem_append.mp hm with hm | hm
      · exact hp p hm
      · rw [List.mem_singleton] at hm
        subst hm
        exact hlay
    by_cases c : r = 0
    · simp [c, listAt_c c5, fLen_c c5]
      rw [kapp2 (listAt_c c5) (by simp; omega)]
      simp
      refine ⟨(g5.putAt lL _).le (by omega), ps ++ [Stp.lay ((j : Int) + 1) b] ++ [.go ps.length ["lost"]], by rw [cell_set c5]; simp [Stp.d, strsD], by simp, by simp; omega, fun p hm => ?_⟩
      rcases List.mem_append.mp hm with hm | hm
      · exact hp2 p hm
      · rw [List.mem_singleton] at hm
        subst hm
        exact lost _ (by omega) (by omega)
    · simp [c]
      exact ⟨g5.le (by omega), ps ++ [Stp.lay ((j : Int) + 1) b], c5, by simp, by simp; omega, hp2⟩
  · rintro env s ⟨⟨x3, x4, rfl⟩, g, ps, hc, h1, h2, hp⟩
    have hl : ps.length ≤ 8 := by
      rw [num_len, List.length_map] at h2
      omega
    have g : Go (n + 12) st s := g.le (by rw [num_len, List.length_map]; omega)
    simp [listAt_c hc]
    refine (next_wp (n := n + 11) g.dk (by decide) (by decide)).go ?_
    rintro _ s5 ⟨r, rfl, r0, r1, g5⟩
    have c5 := g5.cell hc L2
    have g5 := g.trans g5
    simp
    refine (next_wp (n := n + 10) g5.dk (by decide) (by decide)).go ?_
    rintro _ s6 ⟨r2, rfl, r20, r21, g6⟩
    have c6 := g6.cell c5 L2
    have g6 := g5.trans g6
    simp
    refine KO_pick (fun d => ∃ w, d = .str w ∧ w ∈ whens) r20 r21 (by simp [whens]) ?_
    rintro _ ⟨w, rfl, hw⟩
    try simp
    rw [kapp2 (listAt_c c6) (by simp; omega)]
    have hj : (Stp.join ed (decide (r = 0)) w).ok 100 := ⟨he, hw⟩
    have c7 : (s6.set L (.lst (ps.map Stp.d ++ [D.tup [D.str "join", edD ed, D.bl (decide (r = 0)), D.str w]])))[L]? = some (.lst ((ps ++ [Stp.join ed (decide (r = 0)) w]).map Stp.d)) := by
      rw [cell_set c6]
      simp [Stp.d]
    have g7 := g6.putAt lL (.lst (ps.map Stp.d ++ [D.tup [D.str "join", edD ed, D.bl (decide (r = 0)), D.str w]]))
    generalize s6.set L (.lst (ps.map Stp.d ++ [D.tup [D.str "join", edD ed, D.bl (decide (r = 0)), D.str w]])) = s7 at c7 g7
    have hp2 : ∀ p ∈ ps ++ [Stp.join ed (decide (r = 0)) w], p.ok 100 := fun p hm => by
      rcases List.mem_append.mp hm with hm | hm
      · exact hp p hm
      · rw [List.mem_singleton] at hm
        subst hm
        exact hj
    have hl2 : (ps ++ [Stp.join ed (decide (r = 0)) w]).length ≤ 9 := by simp; omega
    have h12 : 1 ≤ (ps ++ [Stp.join ed (decide (r = 0)) w]).length := by simp
    generalize ps ++ [Stp.join ed (decide (r = 0)) w] = qs at c7 hp2 hl2 h12
    simp [fLen_c c7]

    refine (next_wp (n := n + 9) g7.dk (by decide) (by decide)).go ?_
    rintro _ s8 ⟨r3, rfl, r30, r31, g8⟩
    have c8 := g8.cell c7 L2
    have g8 := g7.trans g8
    simp
    refine KO_pick (fun d => ∃ es : List Stp, d = .lst (es.map Stp.d) ∧ es.length ≤ 2 ∧ ∀ p ∈ es, p.ok 100) r30 r31 ?_ ?_
    · simp only [List.mem_cons, List.not_mem_nil, or_false, forall_eq_or_imp, forall_eq]
      refine ⟨⟨[], rfl, by simp, by simp⟩, ⟨[.throw], rfl, by simp, by simp; trivial⟩, ⟨[.go (qs.length - 1) ["lost"]], rfl, by simp, ?_⟩, ⟨[.look], rfl, by simp, by simp; trivial⟩, ⟨[.find, .throw], rfl, by simp, by simp; exact ⟨trivial, trivial⟩⟩⟩
      simp
      exact lost _ (by omega) (by omega)
    · rintro _ ⟨es, rfl, he2, hp3⟩
      try simp
      rw [wp_oAddCL c8]
      simp
      refine ⟨by omega, qs ++ es, by simp, by simp; omega, by simp; omega, fun p hm => ?_, g8.le (by omega)⟩
      rcases List.mem_append.mp hm with hm | hm
      · exact hp2 p hm
      · exact hp3 p hm
end K07

set_option maxHeartbeats 1000000
namespace K07
open PySem PySem.Spec PyProof.Rows L2 DH DL
/-! drawn programs -/
theorem within_eq {p : Stp} {l : Int} {st : Store} (hp : p.ok 100) (h : 0 ≤ l) : ∃ q : Stp, f__law_within [p.d, .int l] st = .ok q.d st ∧ q.ok l := by
  have same : ∀ q : Stp, q = p → q.ok l → (Wp (f__law_within [q.d, .int l] st) (fun d s => d = q.d ∧ s = st) NoX) → ∃ q : Stp, f__law_within [p.d, .int l] st = .ok q.d st ∧ q.ok l := fun q e hq w => by
    subst e
    exact ⟨q, w.eq, hq⟩
  cases p with
  | go a o =>
    refine ⟨.go (if l < a then l else a) o, Wp.eq ?_, ⟨⟨?_, ?_⟩, hp.2⟩⟩
    · simp [f__law_within, m__law_within, Stp.d]
    · have := hp.1.1
      split <;> omega
    · split <;> omega
  | begin => exact same .begin rfl trivial (by simp [f__law_within, m__law_within, Stp.d])
  | throw => exact same .throw rfl trivial (by simp [f__law_within, m__law_within, Stp.d])
  | look => exact same .look rfl trivial (by simp [f__law_within, m__law_within, Stp.d])
  | find => exact same .find rfl trivial (by simp [f__law_within, m__law_within, Stp.d])
  | lay a b => exact same (.lay a b) rfl hp (by simp [f__law_within, m__law_within, Stp.d])
  | join a b c => exact same (.join a b c) rfl hp (by simp [f__law_within, m__law_within, Stp.d])
theorem steps_wp {n : Nat} {most : Int} {st : Store} (h : Dk (n + 200) st) (m1 : 1 ≤ most) (m2 : most ≤ 12) : Wp (f__law_steps [.loc 1, .int most] st) (fun d s => ∃ ps : List Stp, d = stepsD ps ∧ PrOk ps ∧ (ps.length : Int) ≤ most ∧ Go n st s) NoX := by
  simp [f__law_steps, m__law_steps]
  refine (next_wp (n := n + 199) h (by decide) (by decide)).go ?_
  rintro _ s1 ⟨k, rfl, k0, k1, g1⟩
  try simp
  refine (next_wp (n := n + 198) g1.dk (by omega) (by omega)).go ?_
  rintro _ s2 ⟨r, rfl, r0, r1, g2⟩
  have g := g1.trans g2
  by_cases c0 : k = 0
  · simp [c0]
    obtain ⟨m, rfl⟩ : ∃ m : Nat, r = m := ⟨r.toNat, by omega⟩
    rw [kr1 (by omega)]
    have em : (1 + (m : Int)).toNat = m + 1 := by omega
    rw [em]
    simp [wipeD]
    refine Wp.lcR (n := n + 10) 8 (fun d => ∃ p : Stp, d = p.d ∧ p.ok (1 + (m : Int))) (g.dk.le (by omega)) (by omega) (fun j k s _ g => ?_) fun ys s e hy g3 => ?_
    · simp
      refine (step_wp g.dk (by omega) (by omega)).go ?_
      rintro _ s3 ⟨p, rfl, hp, g3⟩
      exact ⟨⟨p, rfl, hp⟩, g3⟩
    · obtain ⟨ps, rfl, hp⟩ := list_of hy
      rw [List.length_map] at e
      simp
      refine ⟨ps, rfl, ⟨by omega, by omega, fun p hm => ?_⟩, by omega, (g.trans g3).le (by omega)⟩
      have := hp p hm
      rw [e]
      exact Stp.up (by omega) this
  · simp [c0]
    refine (usual_wp (n := n + 170) (g.dk.le (by omega))).go ?_
    rintro _ s3 ⟨ps, rfl, h1, h2, hp, g3⟩
    have g3 := (g.le (m := n + 190) (by omega)).trans g3
    simp [-wp_sIf]
    have L2 := g3.dk.len
    have lL := g3.len
    rw [cutD_take (by omega), ← List.map_take]
    obtain ⟨qs, eqs⟩ : ∃ qs, qs = ps.take most.toNat := ⟨_, rfl⟩
    have q1 : 1 ≤ qs.length := by rw [eqs, List.length_take]; omega
    have q2 : (qs.length : Int) ≤ most := by rw [eqs, List.length_take]; omega
    have hq : ∀ p ∈ qs, p.ok 100 := fun p hm => hp p (by rw [eqs] at hm; exact List.mem_of_mem_take hm)
    rw [← eqs]
    have c3 : (s3 ++ [Cell.lst (qs.map Stp.d)])[s3.length]? = some (.lst (qs.map Stp.d)) := cell_last
    have g4 := g3.more (Cell.lst (qs.map Stp.d))
    generalize s3 ++ [Cell.lst (qs.map Stp.d)] = s4 at c3 g4
    generalize s3.length = L at c3 L2 lL
    clear eqs
    refine Wp.cut (fun env s => env = [some (.loc 1), some (.int most), some (.int k), some (.int (1 + r)), some (.loc L), none, none] ∧ Go (n + 160) st s ∧ ∃ qs : List Stp, s[L]? = some (.lst (qs.map Stp.d)) ∧ 1 ≤ qs.length ∧ (qs.length : Int) ≤ most ∧ ∀ p ∈ qs, p.ok 100) ?_ ?_
    · by_cases c1 : k = 1
      · simp [c1, fLen_c c3]
        refine (step_wp (n := n + 162) (g4.dk.le (by omega)) (by omega) (by omega)).go ?_
        rintro _ s5 ⟨p, rfl, hp5, g5⟩
        have c5 := g5.cell c3 L2
        have g5 := g4.trans g5
        simp [fLen_c c5]
        refine (next_wp (n := n + 161) g5.dk (by omega) (by omega)).go ?_
        rintro _ s6 ⟨r2, rfl, r20, r21, g6⟩
        have c6 := g6.cell c5 L2
        have g6 := g5.trans g6
        have hi : ixN (qs.map Stp.d).length r2 = some r2.toNat := by unfold ixN; rw [if_pos r20, if_pos (by simpa using r21)]
        rw [ksub3 (listAt_c c6) hi]
        simp
        refine ⟨(g6.putAt lL _).le (by omega), qs.set r2.toNat p, by rw [cell_set c6, List.map_set], by simpa using q1, by simpa using q2, fun z hz => ?_⟩
        rcases List.mem_or_eq_of_mem_set hz with hz | rfl
        · exact hq z hz
        · exact Stp.up (by omega) hp5
      · simp [c1]
        exact ⟨g4.le (by omega), qs, c3, q1, q2, hq⟩
    · rintro _ s5 ⟨rfl, g5, qs, c5, q1, q2, hq⟩
      have es : srcOf s5 (.loc L) = some ⟨qs.map Stp.d, [(L, qs.map Stp.d)]⟩ := by simp [srcOf, c5]
      simp [es, wipeD]
      refine Wp.lcG (fun d y => ∃ q : Stp, y = q.d ∧ q.ok qs.length) (by intro p hp; simp at hp; subst hp; exact c5) _ _ (by simp; omega) (fun d hd => ?_) fun ys e hy => ?_
      · obtain ⟨p, hm, rfl⟩ := List.mem_map.mp hd
        obtain ⟨q, e, hok⟩ := within_eq (l := qs.length) (st := s5) (hq p hm) (by omega)
        simp [fLen_c c5, e]
        exact ⟨q, rfl, hok⟩
      · obtain ⟨ps, rfl, hp⟩ := list_of (f := Stp.d) (P := fun q => q.ok qs.length) fun y hm => by obtain ⟨_, _, h⟩ := hy y hm; exact h
        simp at e
        simp
        refine ⟨ps, rfl, ⟨by omega, by omega, fun p hm => ?_⟩, by omega, g5.le (by omega)⟩
        rw [e]
        exact hp p hm
end K07

set_option maxHeartbeats 1000000
namespace K07
open PySem PySem.Spec PyProof.Rows L2 DH DL
/-! kinds of values -/
theorem whole2_ok (d : D) (st : Store) (h : okD d = true) : f_is_whole [d] st = .ok (.bl (isI d)) st := by
  refine Wp.eq ?_
  cases d <;> first | (cases h; done) | simp [f_is_whole, m_is_whole, isI]
/-- an integer from lo to hi -/
def inR (lo hi : Int) : D → Bool
  | .int i => decide (lo ≤ i) && decide (i ≤ hi)
  | _ => false
@[simp] theorem inR_int {lo hi i : Int} : inR lo hi (.int i) = (decide (lo ≤ i) && decide (i ≤ hi)) := rfl
theorem within_ok (d : D) (lo hi : Int) (st : Store) (h : okD d = true) : f_is_within [d, .int lo, .int hi] st = .ok (.bl (inR lo hi d)) st := by
  have w := whole2_ok d st h
  refine Wp.eq ?_
  cases d with
  | int i => by_cases c : lo ≤ i <;> simp [f_is_within, m_is_within, w, isI, c]
  | _ => first | (cases h; done) | simp [f_is_within, m_is_within, w, isI, inR]
/-- one of some texts -/
def wrd (ws : List Str) : D → Bool
  | .str x => decide (x ∈ ws)
  | _ => false
@[simp] theorem wrd_str {ws : List Str} {x : Str} : wrd ws (.str x) = decide (x ∈ ws) := rfl
theorem word_ok (d : D) (ws : List Str) (st : Store) (h : okD d = true) : f_is_word [d, .tup (ws.map .str)] st = .ok (.bl (wrd ws d)) st := by
  refine Wp.eq ?_
  cases d <;> first | (cases h; done) | simp [f_is_word, m_is_word, oIn_strs, wrd]
/-! editions -/
def edB : D → Bool
  | .tup ds => decide (1 ≤ ds.length ∧ ds.length ≤ 3) && ds.all (inR 0 9)
  | _ => false
theorem piece_ok (d : D) (st : Store) (h : okD d = true) : f_is_piece [d] st = .ok (.bl (inR 0 9 d)) st := by
  refine Wp.eq ?_
  simp [f_is_piece, m_is_piece, within_ok d 0 9 st h]
theorem part_ok (d : D) (st : Store) (h : okD d = true) : f_is_part [d] st = .ok (.bl (inR 1 3 d)) st := by
  refine Wp.eq ?_
  simp [f_is_part, m_is_part, within_ok d 1 3 st h]
theorem isEd_ok (d : D) (st : Store) (h : okD d = true) : f_is_edition [d] st = .ok (.bl (edB d)) st := by
  refine Wp.eq ?_
  cases d with
  | tup ds =>
    have ho : okDs ds = true := h
    by_cases c1 : 1 ≤ ds.length
    · have c1' : (1 : Int) ≤ (ds.length : Int) := by omega
      by_cases c2 : ds.length ≤ 3
      · have c2' : (ds.length : Int) ≤ 3 := by omega
        simp [f_is_edition, m_is_edition, c1', c2', wipeD]
        refine Wp.lcN (fun d => .bl (inR 0 9 d)) (by omega) (fun d hd => ?_) ?_
        · simp [piece_ok d st (oks_mem ho d hd)]
        · simp [edB, c1, c2]
      · have c2' : ¬ (ds.length : Int) ≤ 3 := by omega
        simp [f_is_edition, m_is_edition, c1', c2', edB, c2]
    · have c1' : ¬ (1 : Int) ≤ (ds.length : Int) := by omega
      simp [f_is_edition, m_is_edition, c1', edB, c1]
  | _ => first | (cases h; done) | simp [f_is_edition, m_is_edition, edB]
end K07

set_option maxHeartbeats 1000000
namespace K07
open PySem PySem.Spec PyProof.Rows L2 DH DL
theorem whole_ok (d : D) (st : Store) (h : okD d = true) : f__law_whole [d] st = .ok (.bl (isI d)) st := by
  refine Wp.eq ?_
  cases d <;> first | (cases h; done) | simp [f__law_whole, m__law_whole, isI]
end K07

set_option maxHeartbeats 1000000
namespace K07
open PySem PySem.Spec PyProof.Rows L2 DH DL
/-! the law's own tests of kinds -/
/-- the law's test of an item: a whole number from lo to hi -/
theorem lawR_ok {m mlo mhi : M D} {env : Sl} {st : Store} {d : D} {lo hi : Int} (hm : m env st = .ok d st) (h : okD d = true) (h1 : mlo env st = .ok (.int lo) st) (h2 : mhi env st = .ok (.int hi) st) :
    mAnd (mCall (ar 1 f__law_whole) (mCons m mNil)) (mChain opLeI opLeI mlo m mhi) env st = .ok (.bl (inR lo hi d)) st := by
  have w := whole_ok d st h
  refine Wp.eq ?_
  cases d with
  | int i => by_cases c : lo ≤ i <;> simp [hm, h1, h2, w, isI, c]
  | _ => first | (cases h; done) | simp [hm, w, isI, inR]
theorem edited_ok (d : D) (st : Store) (h : okD d = true) : f__law_edited [d] st = .ok (.bl (edB d)) st := by
  refine Wp.eq ?_
  cases d with
  | tup ds =>
    have ho : okDs ds = true := h
    have e : (decide ((1 : Int) = ds.length) || (decide ((2 : Int) = ds.length) || decide ((3 : Int) = ds.length))) = decide (1 ≤ ds.length ∧ ds.length ≤ 3) := by
      rw [Bool.eq_iff_iff]
      simp
      omega
    simp only [f__law_edited, m__law_edited]
    simp [-Bool.not_or]
    rw [e]
    by_cases c : 1 ≤ ds.length ∧ ds.length ≤ 3
    · simp [c, wipeD]
      refine Wp.lcN (fun d => .bl (inR 0 9 d)) (by omega) (fun d hd => ?_) ?_
      · rw [lawR_ok (d := d) (lo := 0) (hi := 9) rfl (oks_mem ho d hd) rfl rfl]
        exact ⟨rfl, rfl⟩
      · simp [edB, c]
    · simp [edB, c]
  | _ => first | (cases h; done) | simp [f__law_edited, m__law_edited, edB]
end K07

set_option maxHeartbeats 1000000
namespace K07
open PySem PySem.Spec PyProof.Rows L2 DH DL
/-! outcomes -/
def outB (d : D) : Bool := rows7.any fun o => idB d (strsD o)
theorem idBs_strs : ∀ {xs ys : List Str}, idBs (xs.map .str) (ys.map .str) = decide (xs = ys)
  | [], [] => rfl
  | [], _ :: _ => by simp [idBs]
  | _ :: _, [] => by simp [idBs]
  | x :: xs, y :: ys => by simp only [List.map_cons, idBs, idB, idBs_strs (xs := xs) (ys := ys)]; rw [Bool.eq_iff_iff]; simp
theorem idB_strs {xs ys : List Str} : idB (strsD xs) (strsD ys) = decide (xs = ys) := idBs_strs
theorem rows_out : ∀ r ∈ rows7, ∀ w ∈ r, w ∈ OUT := by decide +kernel
theorem out_sh : ∀ w ∈ OUT, PyData.canLay0 (.str w) = true := by decide +kernel
/-- all words, some -/
theorem all_words : ∀ {ds : List D}, ds.all (wrd OUT) = true → ∃ xs : List Str, ds = xs.map .str ∧ ∀ x ∈ xs, x ∈ OUT
  | [], _ => ⟨[], rfl, by simp⟩
  | d :: ds, h => by
    rw [List.all_cons, Bool.and_eq_true] at h
    obtain ⟨xs, e, hx⟩ := all_words h.2
    cases d with
    | str x =>
      refine ⟨x :: xs, by rw [e]; rfl, fun y hy => ?_⟩
      rcases List.mem_cons.mp hy with hy | hy
      · subst hy
        exact of_decide_eq_true h.1
      · exact hx y hy
    | _ => cases h.1
theorem out_rows (xs : List Str) (h : xs ≠ []) : decide (xs = OUT.filter fun w => decide (w ∈ xs)) = rows7.any fun r => decide (xs = r) := by
  rw [Bool.eq_iff_iff, List.any_eq_true]
  simp only [decide_eq_true_eq]
  constructor
  · intro e
    have key : ∀ a b c : Bool, OUT.filter (fun w : Str => if w = ("ok" : Str) then a else if w = ("no" : Str) then b else c) = [] ∨ OUT.filter (fun w : Str => if w = ("ok" : Str) then a else if w = ("no" : Str) then b else c) ∈ rows7 := by decide +kernel
    have e2 : (OUT.filter fun w => decide (w ∈ xs)) = OUT.filter (fun w : Str => if w = ("ok" : Str) then decide (("ok" : Str) ∈ xs) else if w = ("no" : Str) then decide (("no" : Str) ∈ xs) else decide (("lost" : Str) ∈ xs)) := by
      refine List.filter_congr fun w hw => ?_
      simp only [OUT, List.mem_cons, List.not_mem_nil, or_false] at hw
      rcases hw with e | e | e <;> subst e <;> simp
    rcases key (decide (("ok" : Str) ∈ xs)) (decide (("no" : Str) ∈ xs)) (decide (("lost" : Str) ∈ xs)) with k | k
    · rw [← e2, ← e] at k
      exact absurd k h
    · rw [← e2, ← e] at k
      exact ⟨xs, k, rfl⟩
  · rintro ⟨r, hr, q⟩
    subst q
    have all : ∀ r ∈ rows7, r = OUT.filter fun w => decide (w ∈ r) := by decide +kernel
    exact all xs hr
theorem strs_sh {xs : List Str} (h : ∀ x ∈ xs, PyData.canLay0 (.str x) = true) (hl : xs.length ≤ 1000000) : shB 1 (strsD xs) = true := by
  show (decide ((xs.map D.str).length ≤ 1000000) && (xs.map D.str).all (shB 0)) = true
  rw [Bool.and_eq_true, List.all_eq_true]
  refine ⟨by rw [List.length_map]; exact decide_eq_true hl, fun d hd => ?_⟩
  obtain ⟨x, hx, rfl⟩ := List.mem_map.mp hd
  rw [sh_str]
  exact h x hx
theorem dEqs_strs : ∀ {xs ys : List Str}, dEqs (xs.map .str) (ys.map .str) = decide (xs = ys)
  | [], [] => rfl
  | [], _ :: _ => by simp [dEqs]
  | _ :: _, [] => by simp [dEqs]
  | x :: xs, y :: ys => by simp only [List.map_cons, dEqs, dEq, dEqs_strs (xs := xs) (ys := ys)]; rw [Bool.eq_iff_iff]; simp
theorem oEq_strs {neg : Bool} {xs ys : List Str} {st : Store} (h : ∀ x ∈ xs, PyData.canLay0 (.str x) = true) (hl : xs.length ≤ 1000000) (h2 : ∀ x ∈ ys, PyData.canLay0 (.str x) = true) (hl2 : ys.length ≤ 1000000) : opEqD neg (.tup (xs.map .str)) (.tup (ys.map .str)) st = .ok (.bl (neg ^^ decide (xs = ys))) st := by
  have e := oEq (neg := neg) (st := st) 1 1 (strs_sh h hl) (strs_sh h2 hl2)
  have q : dEq (strsD xs) (strsD ys) = decide (xs = ys) := by unfold strsD dEq; exact dEqs_strs
  rw [q] at e
  exact e
theorem outs_ok (d : D) (st : Store) (h : okD d = true) (hl : ∀ ds, d = .tup ds → ds.length ≤ 1000000) : f_are_outcomes [d] st = .ok (.bl (outB d)) st := by
  refine Wp.eq ?_
  cases d with
  | tup ds =>
    have ho : okDs ds = true := h
    have hl := hl ds rfl
    by_cases c : ds = []
    · subst c
      simp [f_are_outcomes, m_are_outcomes]
      decide +kernel
    · have c' : ds.isEmpty = false := by cases ds <;> simp_all
      simp [f_are_outcomes, m_are_outcomes, c', wipeD]
      refine Wp.lcN (fun d => .bl (wrd OUT d)) hl (fun d hd => ?_) ?_
      · have q : f_is_word [d, .tup [.str "ok", .str "no", .str "lost"]] st = .ok (.bl (wrd OUT d)) st := word_ok d OUT st (oks_mem ho d hd)
        simp [q]
      · rw [kcons, wp_nil, kcons2, kcall, fAll_map]
        by_cases cw : ds.all (wrd OUT) = true
        · simp only [cw]
          obtain ⟨xs, e, hx⟩ := all_words cw
          subst e
          have hne : xs ≠ [] := fun e => c (by rw [e]; rfl)
          simp [wipeD]
          refine Wp.lcF (fun d => match d with
            | .str w => decide (w ∈ xs)
            | _ => false) id (by simp) (fun d hd => ?_) (fun d hd _ => ?_) ?_
          · obtain ⟨w, hw, rfl⟩ : ∃ w, w ∈ OUT ∧ d = .str w := by
              obtain ⟨w, hw, e⟩ := List.mem_map.mp (show d ∈ OUT.map D.str from hd)
              exact ⟨w, hw, e.symm⟩
            simp [oIn_strs]
          · simp
          · have e1 : (([D.str ("ok" : Str), .str ("no" : Str), .str ("lost" : Str)] : List D).filter fun d => match d with
              | .str w => decide (w ∈ xs)
              | _ => false) = (OUT.filter fun w => decide (w ∈ xs)).map .str := by
              show (OUT.map D.str).filter _ = _
              rw [List.filter_map]
              rfl
            rw [e1]
            have hx2 : ∀ x ∈ xs, PyData.canLay0 (.str x) = true := fun x hx' => out_sh x (hx x hx')
            have q := oEq_strs (neg := false) (st := st) (xs := xs) (ys := OUT.filter fun w => decide (w ∈ xs)) hx2 (by simpa using hl) (fun z hz => out_sh z (List.mem_filter.mp hz).1) (Nat.le_trans (List.length_filter_le _ _) (by simp [OUT]))
            simp only [List.map_id, kcons, wp_nil, kcons2, kcall, fTup_l, Wp_ok, kop2, q, kret, kfn_rt, Bool.false_xor]
            refine ⟨?_, trivial⟩
            rw [out_rows xs hne]
            unfold outB
            congr 1
            congr 1
            funext r
            exact idB_strs.symm
        · have cw' : ds.all (wrd OUT) = false := by simpa using cw
          simp only [cw']
          have : outB (.tup ds) = false := by
            unfold outB
            rw [List.any_eq_false]
            intro r hr q
            have q := idBs_eq (show idBs ds (r.map .str) = true from q)
            subst q
            apply cw
            rw [List.all_eq_true]
            intro d hd
            obtain ⟨w, hw, e⟩ := List.mem_map.mp hd
            subst e
            exact decide_eq_true (rows_out r hr w hw)
          simp [this]
  | _ => first | (cases h; done) | (simp [f_are_outcomes, m_are_outcomes]; decide +kernel) | (simp [f_are_outcomes, m_are_outcomes, outB, strsD, idB])
/-! the first reason against a step -/
def isBl : D → Bool
  | .bl _ => true
  | _ => false
def rsD : Option Str → D
  | none => .non
  | some w => .str w
def layR : D → D → Option Str := fun a b => if inR 1 3 a then (if inR 0 9 b then none else some "piece") else some "part"
def joinR : D → D → D → Option Str := fun a b c => if edB a then (if isBl b then (if wrd whens c then none else some "when") else some "checked") else some "edition"
def goR (lines : Int) : D → D → Option Str := fun a b => if inR 0 lines a then (if outB b then none else some "outcomes") else some "line"
def reasonR (lines : Int) : D → Option Str
  | .tup (.str w :: ds) =>
    if w = "begin" ∨ w = "throw" ∨ w = "look" ∨ w = "find" then (match ds with
      | [] => none
      | _ => some "items")
    else if w = "lay" then (match ds with
      | [a, b] => layR a b
      | _ => some "items")
    else if w = "join" then (match ds with
      | [a, b, c] => joinR a b c
      | _ => some "items")
    else if w = "go" then (match ds with
      | [a, b] => goR lines a b
      | _ => some "items")
    else some "step"
  | _ => some "step"
/-- a value that is asked -/
structure Ask (d : D) : Prop where
  ok : okD d = true
  few : ∀ ds, d = .tup ds → ds.length ≤ 1000000 ∧ ∀ x ∈ ds, ∀ es, x = .tup es → es.length ≤ 1000000
theorem seven (w : Str) : w = "begin" ∨ w = "lay" ∨ w = "join" ∨ w = "throw" ∨ w = "look" ∨ w = "find" ∨ w = "go" ∨ (w ≠ "begin" ∧ w ≠ "lay" ∧ w ≠ "join" ∧ w ≠ "throw" ∧ w ≠ "look" ∧ w ≠ "find" ∧ w ≠ "go") := by
  by_cases h1 : w = "begin"
  · exact .inl h1
  by_cases h2 : w = "lay"
  · exact .inr (.inl h2)
  by_cases h3 : w = "join"
  · exact .inr (.inr (.inl h3))
  by_cases h4 : w = "throw"
  · exact .inr (.inr (.inr (.inl h4)))
  by_cases h5 : w = "look"
  · exact .inr (.inr (.inr (.inr (.inl h5))))
  by_cases h6 : w = "find"
  · exact .inr (.inr (.inr (.inr (.inr (.inl h6)))))
  by_cases h7 : w = "go"
  · exact .inr (.inr (.inr (.inr (.inr (.inr (.inl h7))))))
  exact .inr (.inr (.inr (.inr (.inr (.inr (.inr ⟨h1, h2, h3, h4, h5, h6, h7⟩))))))
theorem lay_error_ok (x a b : D) (st : Store) (ha : okD a = true) (hb : okD b = true) : f_lay_error [.tup [x, a, b]] st = .ok (rsD (layR a b)) st := by
  refine Wp.eq ?_
  simp [f_lay_error, m_lay_error, part_ok a st ha, piece_ok b st hb]
  cases h1 : inR 1 3 a <;> cases h2 : inR 0 9 b <;> simp [layR, h1, h2, rsD, piece_ok b st hb]
theorem join_error_ok (x a b c : D) (st : Store) (ha : okD a = true) (hb : okD b = true) (hc : okD c = true) : f_join_error [.tup [x, a, b, c]] st = .ok (rsD (joinR a b c)) st := by
  have q : f_is_word [c, .tup [.str "any", .str "none", .str "same"]] st = .ok (.bl (wrd whens c)) st := word_ok c whens st hc
  have qb : ∀ k, kd st b = some k → isa k (.ty "bool") = some (isBl b) := by
    intro k hk
    cases b <;> first | (cases hb; done) | (cases hk; simp [isBl])
  refine Wp.eq ?_
  obtain ⟨k, hk⟩ : ∃ k, kd st b = some k := by cases b <;> first | (cases hb; done) | exact ⟨_, rfl⟩
  simp [f_join_error, m_join_error, isEd_ok a st ha, q, hk, qb k hk]
  cases h1 : edB a <;> cases h2 : isBl b <;> cases h3 : wrd whens c <;> simp [joinR, h1, h2, h3, rsD, isEd_ok a st ha, q, hk, qb k hk]
theorem go_error_ok (x a b : D) (lines : Int) (st : Store) (ha : okD a = true) (hb : okD b = true) (hl : ∀ es, b = .tup es → es.length ≤ 1000000) : f_go_error [.tup [x, a, b], .int lines] st = .ok (rsD (goR lines a b)) st := by
  refine Wp.eq ?_
  simp [f_go_error, m_go_error, within_ok a 0 lines st ha]
  cases h1 : inR 0 lines a <;> cases h2 : outB b <;> simp [goR, h1, h2, rsD, outs_ok b st hb hl]
theorem step_error_ok (d : D) (lines : Int) (st : Store) (h : Ask d) : f_step_error [d, .int lines] st = .ok (rsD (reasonR lines d)) st := by
  have e1 : ∀ n : Nat, ((n : Int) + 1 + 1 = 1) = False := fun n => eq_false (by omega)
  have e3 : ∀ n : Nat, ((n : Int) + 1 + 1 + 1 + 1 = 3) = False := fun n => eq_false (by omega)
  have e4 : ∀ n : Nat, ((n : Int) + 1 + 1 + 1 + 1 + 1 = 4) = False := fun n => eq_false (by omega)
  refine Wp.eq ?_
  have ok := h.ok
  cases d with
  | tup ds =>
    obtain ⟨hl, hx⟩ := h.few ds rfl
    have ho : ∀ x ∈ ds, okD x = true := oks_mem ok
    match ds with
    | [] => simp [f_step_error, m_step_error, reasonR, rsD]
    | .str w :: ds =>
      have ho' : ∀ x ∈ ds, okD x = true := fun x hx => ho x (by simp [hx])
      rcases seven w with e | e | e | e | e | e | e | ⟨n1, n2, n3, n4, n5, n6, n7⟩
      · subst e
        match ds with
        | [] => simp [f_step_error, m_step_error, reasonR, rsD]
        | _ :: _ => simp [f_step_error, m_step_error, reasonR, rsD, e1]
      · subst e
        match ds with
        | [] => simp [f_step_error, m_step_error, reasonR, rsD]
        | [_] => simp [f_step_error, m_step_error, reasonR, rsD]
        | [a, b] => simp [f_step_error, m_step_error, reasonR, lay_error_ok _ a b st (ho' a (by simp)) (ho' b (by simp))]
        | _ :: _ :: _ :: _ => simp [f_step_error, m_step_error, reasonR, rsD, e3]
      · subst e
        match ds with
        | [] => simp [f_step_error, m_step_error, reasonR, rsD]
        | [_] => simp [f_step_error, m_step_error, reasonR, rsD]
        | [_, _] => simp [f_step_error, m_step_error, reasonR, rsD]
        | [a, b, c] => simp [f_step_error, m_step_error, reasonR, join_error_ok _ a b c st (ho' a (by simp)) (ho' b (by simp)) (ho' c (by simp))]
        | _ :: _ :: _ :: _ :: _ => simp [f_step_error, m_step_error, reasonR, rsD, e4]
      · subst e
        match ds with
        | [] => simp [f_step_error, m_step_error, reasonR, rsD]
        | _ :: _ => simp [f_step_error, m_step_error, reasonR, rsD, e1]
      · subst e
        match ds with
        | [] => simp [f_step_error, m_step_error, reasonR, rsD]
        | _ :: _ => simp [f_step_error, m_step_error, reasonR, rsD, e1]
      · subst e
        match ds with
        | [] => simp [f_step_error, m_step_error, reasonR, rsD]
        | _ :: _ => simp [f_step_error, m_step_error, reasonR, rsD, e1]
      · subst e
        match ds with
        | [] => simp [f_step_error, m_step_error, reasonR, rsD]
        | [_] => simp [f_step_error, m_step_error, reasonR, rsD]
        | [a, b] => simp [f_step_error, m_step_error, reasonR, go_error_ok _ a b lines st (ho' a (by simp)) (ho' b (by simp)) (hx b (by simp))]
        | _ :: _ :: _ :: _ => simp [f_step_error, m_step_error, reasonR, rsD, e3]
      · simp [f_step_error, m_step_error, reasonR, rsD, n1, n2, n3, n4, n5, n6, n7]
    | .non :: ds => simp [f_step_error, m_step_error, reasonR, rsD]
    | .bl _ :: ds => simp [f_step_error, m_step_error, reasonR, rsD]
    | .int _ :: ds => simp [f_step_error, m_step_error, reasonR, rsD]
    | .tup _ :: ds => simp [f_step_error, m_step_error, reasonR, rsD]
    | .lst _ :: ds => simp [f_step_error, m_step_error, reasonR, rsD]
    | .dct _ _ :: ds => simp [f_step_error, m_step_error, reasonR, rsD]
    | .fro _ :: ds => cases ho _ (List.mem_cons_self)
    | .obj _ _ _ :: ds => cases ho _ (List.mem_cons_self)
    | .loc _ :: ds => cases ho _ (List.mem_cons_self)
    | .exn _ _ _ :: ds => cases ho _ (List.mem_cons_self)
  | _ => first | (cases ok; done) | simp [f_step_error, m_step_error, reasonR, rsD]
end K07

set_option maxHeartbeats 1000000
namespace K07
open PySem PySem.Spec PyProof.Rows L2 DH DL
theorem wp_rng {a : D} {lo hi : Int} (h : okD a = true) {m : M D} {env : Sl} {st : Store} {Q : D → Store → Prop} {X : Ex → Store → Prop} (hm : Wp (m env st) (fun x s => x = a ∧ s = st) NoX) :
    Wp (mAnd (mCall (ar 1 f__law_whole) (mCons m mNil)) (mChain opLeI opLeI (mC (.int lo)) m (mC (.int hi))) env st) Q X = Q (.bl (inR lo hi a)) st := by
  rw [lawR_ok hm.eq h rfl rfl]
  rfl
theorem wp_rngV {a : D} {lo hi : Int} (h : okD a = true) {m : M D} {j : Nat} {env : Sl} {st : Store} {Q : D → Store → Prop} {X : Ex → Store → Prop} (hm : Wp (m env st) (fun x s => x = a ∧ s = st) NoX) (h2 : Wp (mVar j env st) (fun x s => x = .int hi ∧ s = st) NoX) :
    Wp (mAnd (mCall (ar 1 f__law_whole) (mCons m mNil)) (mChain opLeI opLeI (mC (.int lo)) m (mVar j)) env st) Q X = Q (.bl (inR lo hi a)) st := by
  rw [lawR_ok hm.eq h rfl h2.eq]
  rfl
theorem isBl_kd {a : D} {st : Store} (h : okD a = true) : ∃ k, kd st a = some k ∧ isa k (.ty "bool") = some (isBl a) := by
  cases a <;> first | (cases h; done) | (refine ⟨_, rfl, ?_⟩; simp [isBl])
theorem wp_word {a x y z : D} {ws : List Str} (h : okD a = true) (e : D.tup (ws.map .str) = .tup [x, y, z]) {m : M D} {env : Sl} {st : Store} {Q : D → Store → Prop} {X : Ex → Store → Prop} (hm : Wp (m env st) (fun x s => x = a ∧ s = st) NoX) :
    Wp (mAnd (mIsi isa [.ty "str"] m) (mOp (opIn false) m (mTup (mCons (mC x) (mCons (mC y) (mCons (mC z) mNil))))) env st) Q X = Q (.bl (wrd ws a)) st := by
  have hm := hm.eq
  cases a with
  | str w =>
    have q := oIn_strs (neg := false) (x := w) (ws := ws) (st := st)
    rw [e] at q
    simp [hm, q]
  | _ => first | (cases h; done) | simp [hm, wrd]
theorem law_reason_ok (d : D) (lines : Int) (st : Store) (h : Ask d) : f__law_reason [d, .int lines] st = .ok (rsD (reasonR lines d)) st := by
  have e1 : ∀ n : Nat, ((n : Int) + 1 + 1 = 1) = False := fun n => eq_false (by omega)
  have e3 : ∀ n : Nat, ((n : Int) + 1 + 1 + 1 + 1 = 3) = False := fun n => eq_false (by omega)
  have e4 : ∀ n : Nat, ((n : Int) + 1 + 1 + 1 + 1 + 1 = 4) = False := fun n => eq_false (by omega)
  refine Wp.eq ?_
  have ok := h.ok
  cases d with
  | tup ds =>
    obtain ⟨hl, hx⟩ := h.few ds rfl
    have ho : ∀ x ∈ ds, okD x = true := oks_mem ok
    match ds with
    | [] => simp [f__law_reason, m__law_reason, reasonR, rsD]
    | .str w :: ds =>
      have ho' : ∀ x ∈ ds, okD x = true := fun x hx => ho x (by simp [hx])
      rcases seven w with e | e | e | e | e | e | e | ⟨n1, n2, n3, n4, n5, n6, n7⟩
      · subst e
        match ds with
        | [] => simp [f__law_reason, m__law_reason, reasonR, rsD, wp_lcNil]
        | _ :: _ => simp [f__law_reason, m__law_reason, reasonR, rsD, e1]
      · subst e
        match ds with
        | [] => simp [f__law_reason, m__law_reason, reasonR, rsD]
        | [_] => simp [f__law_reason, m__law_reason, reasonR, rsD]
        | [a, b] =>
          cases h1 : inR 1 3 a <;> cases h2 : inR 0 9 b <;> simp [f__law_reason, m__law_reason, reasonR, layR, rsD, wp_lcNil, wp_lcCons, wipeD, ↓wp_rng (a := a) (lo := 1) (hi := 3) (ho' a (by simp)), ↓wp_rng (a := b) (lo := 0) (hi := 9) (ho' b (by simp)), h1, h2]
        | _ :: _ :: _ :: _ => simp [f__law_reason, m__law_reason, reasonR, rsD, e3]
      · subst e
        match ds with
        | [] => simp [f__law_reason, m__law_reason, reasonR, rsD]
        | [_] => simp [f__law_reason, m__law_reason, reasonR, rsD]
        | [_, _] => simp [f__law_reason, m__law_reason, reasonR, rsD]
        | [a, b, c] =>
          have ea := edited_ok a st (ho' a (by simp))
          obtain ⟨kb, kb1, kb2⟩ := isBl_kd (st := st) (ho' b (by simp))
          cases h1 : edB a <;> cases h2 : isBl b <;> cases h3 : wrd whens c <;> simp [f__law_reason, m__law_reason, reasonR, joinR, rsD, ea, kb1, kb2, h1, h2, h3, wp_lcNil, wp_lcCons, wipeD, ↓wp_word (a := c) (ws := whens) (ho' c (by simp)) rfl]
        | _ :: _ :: _ :: _ :: _ => simp [f__law_reason, m__law_reason, reasonR, rsD, e4]
      · subst e
        match ds with
        | [] => simp [f__law_reason, m__law_reason, reasonR, rsD, wp_lcNil]
        | _ :: _ => simp [f__law_reason, m__law_reason, reasonR, rsD, e1]
      · subst e
        match ds with
        | [] => simp [f__law_reason, m__law_reason, reasonR, rsD, wp_lcNil]
        | _ :: _ => simp [f__law_reason, m__law_reason, reasonR, rsD, e1]
      · subst e
        match ds with
        | [] => simp [f__law_reason, m__law_reason, reasonR, rsD, wp_lcNil]
        | _ :: _ => simp [f__law_reason, m__law_reason, reasonR, rsD, e1]
      · subst e
        match ds with
        | [] => simp [f__law_reason, m__law_reason, reasonR, rsD]
        | [_] => simp [f__law_reason, m__law_reason, reasonR, rsD]
        | [a, b] =>
          have ob := ho' b (by simp)
          simp [f__law_reason, m__law_reason, wipeD, ↓wp_rngV (a := a) (lo := 0) (hi := lines) (ho' a (by simp))]
          refine Wp.lcN (fun r => .bl (idB b r)) (by simp) (fun r hr => ?_) ?_
          · obtain ⟨o, ho1, rfl⟩ : ∃ o, o ∈ rows7 ∧ r = strsD o := by
              obtain ⟨o, ho1, e⟩ := List.mem_map.mp (show r ∈ rows7.map strsD from hr)
              exact ⟨o, ho1, e.symm⟩
            first | (simp [same_eq 4 1 b (strsD o) st ob (rows_sh o ho1).1 (by omega)]; done) | simp [same_eq 6 1 b (strsD o) st ob (rows_sh o ho1).1 (by omega)]
          · have e : ([D.tup [D.str ("ok" : Str)], .tup [D.str ("no" : Str)], .tup [D.str ("lost" : Str)], .tup [D.str ("ok" : Str), D.str ("no" : Str)], .tup [D.str ("ok" : Str), D.str ("lost" : Str)], .tup [D.str ("no" : Str), D.str ("lost" : Str)], .tup [D.str ("ok" : Str), D.str ("no" : Str), D.str ("lost" : Str)]].any fun r => idB b r) = outB b := rfl
            rw [kcons, wp_nil, kcons2, kcall, fAny_map, e]
            cases h1 : inR 0 lines a <;> cases h2 : outB b <;> simp [reasonR, goR, rsD, wp_lcNil, wp_lcCons, wipeD, h1, h2]
        | _ :: _ :: _ :: _ => simp [f__law_reason, m__law_reason, reasonR, rsD, e3]
      · have : (w = "begin" ∨ w = "throw" ∨ w = "look" ∨ w = "find") = False := by simp [n1, n4, n5, n6]
        simp [f__law_reason, m__law_reason, reasonR, rsD, n1, n2, n3, n4, n5, n6, n7, Ne.symm n1, Ne.symm n2, Ne.symm n3, Ne.symm n4, Ne.symm n5, Ne.symm n6, Ne.symm n7]
    | .non :: ds => simp [f__law_reason, m__law_reason, reasonR, rsD]
    | .bl _ :: ds => simp [f__law_reason, m__law_reason, reasonR, rsD]
    | .int _ :: ds => simp [f__law_reason, m__law_reason, reasonR, rsD]
    | .tup _ :: ds => simp [f__law_reason, m__law_reason, reasonR, rsD]
    | .lst _ :: ds => simp [f__law_reason, m__law_reason, reasonR, rsD]
    | .dct _ _ :: ds => simp [f__law_reason, m__law_reason, reasonR, rsD]
    | .fro _ :: ds => cases ho _ (List.mem_cons_self)
    | .obj _ _ _ :: ds => cases ho _ (List.mem_cons_self)
    | .loc _ :: ds => cases ho _ (List.mem_cons_self)
    | .exn _ _ _ :: ds => cases ho _ (List.mem_cons_self)
  | _ => first | (cases ok; done) | simp [f__law_reason, m__law_reason, reasonR, rsD]
end K07

set_option maxHeartbeats 1000000
namespace K07
open PySem PySem.Spec PyProof.Rows L2 DH DL
/-! values that are asked -/
theorem Stp.vn {lines : Int} (hl : lines ≤ 10 ^ 30) {p : Stp} (h : p.ok lines) : Vn 8 p.d := by
  obtain ⟨ds, e, h1, h2, h3⟩ := Stp.items hl h
  rw [e]
  exact ⟨Vv.of_tup (by omega) fun x hx => ⟨sh_ok 1 x (h3 x hx).1, (h3 x hx).2.le (by omega) (by omega)⟩, fun es e => by cases e; omega⟩
theorem Stp.mono {l m : Int} (h : l ≤ m) {p : Stp} (q : p.ok l) : p.ok m := by
  cases p with
  | go a o => exact ⟨⟨q.1.1, by have := q.1.2; omega⟩, q.2⟩
  | _ => exact q
theorem ask_of {n : Nat} {d : D} (h : Vn n d) : Ask d := ⟨h.v.ok, fun ds e => ⟨by have := (h.v.tup ds e).1; omega, fun x hx es e2 => by
  have := ((h.v.tup ds e).2 x hx).2
  subst e2
  have := this.len
  omega⟩⟩
theorem Vn.mono {n m : Nat} {d : D} (h : Vn n d) (l : n ≤ m) : Vn m d := ⟨h.v, fun ds e => Nat.le_trans (h.few ds e) l⟩
def reasons : List Str := ["step", "items", "part", "piece", "edition", "checked", "when", "line", "outcomes"]
theorem reason_mem (lines : Int) (d : D) : reasonR lines d = none ∨ ∃ w ∈ reasons, reasonR lines d = some w := by
  unfold reasonR layR joinR goR
  repeat' split
  all_goals first | exact .inl rfl | exact .inr ⟨_, by simp [reasons], rfl⟩
theorem reason_sh (lines : Int) (d : D) : shB 0 (rsD (reasonR lines d)) = true := by
  have h : (reasons.all fun w => shB 0 (.str w)) = true := by decide +kernel
  rcases reason_mem lines d with e | ⟨w, hw, e⟩ <;> rw [e]
  · rfl
  · exact List.all_eq_true.mp h w hw
end K07

set_option maxHeartbeats 1000000
namespace K07
open PySem PySem.Spec PyProof.Rows L2 DH DL
/-! a step that is none wrong is a step -/
theorem inR_of {lo hi : Int} {d : D} (h : inR lo hi d = true) : ∃ i, d = .int i ∧ lo ≤ i ∧ i ≤ hi := by
  cases d with
  | int i =>
    simp only [inR_int, Bool.and_eq_true, decide_eq_true_eq] at h
    exact ⟨i, rfl, h.1, h.2⟩
  | _ => cases h
theorem edB_of {d : D} (h : edB d = true) : ∃ ps, d = edD ps ∧ IsEd ps := by
  cases d with
  | tup ds =>
    unfold edB at h
    rw [Bool.and_eq_true, decide_eq_true_eq, List.all_eq_true] at h
    obtain ⟨⟨h1, h2⟩, h3⟩ := h
    obtain ⟨ps, rfl, hp⟩ := list_of (f := D.int) (P := fun p => 0 ≤ p ∧ p ≤ 9) (ys := ds) fun y hy => by
      obtain ⟨i, e, a, b⟩ := inR_of (h3 y hy)
      exact ⟨i, e, a, b⟩
    rw [List.length_map] at h1 h2
    exact ⟨ps, rfl, h1, h2, hp⟩
  | _ => cases h
theorem outB_of {d : D} (h : outB d = true) : ∃ o, d = strsD o ∧ o ∈ rows7 := by
  unfold outB at h
  rw [List.any_eq_true] at h
  obtain ⟨o, ho, e⟩ := h
  exact ⟨o, idB_eq e, ho⟩
theorem wrd_of {ws : List Str} {d : D} (h : wrd ws d = true) : ∃ w, d = .str w ∧ w ∈ ws := by
  cases d with
  | str x => exact ⟨x, rfl, of_decide_eq_true h⟩
  | _ => cases h
theorem isBl_of {d : D} (h : isBl d = true) : ∃ b, d = .bl b := by
  cases d with
  | bl b => exact ⟨b, rfl⟩
  | _ => cases h
theorem edB_ed {ps : List Int} (h : IsEd ps) : edB (edD ps) = true := by
  unfold edD edB
  rw [Bool.and_eq_true, decide_eq_true_eq, List.all_eq_true, List.length_map]
  refine ⟨⟨h.1, h.2.1⟩, fun d hd => ?_⟩
  obtain ⟨p, hp, rfl⟩ := List.mem_map.mp hd
  have := h.2.2 p hp
  simp [this]
theorem outB_out {o : List Str} (h : o ∈ rows7) : outB (strsD o) = true := by
  unfold outB
  rw [List.any_eq_true]
  exact ⟨o, h, by rw [idB_strs]; simp⟩
theorem reason_valid {lines : Int} {p : Stp} (h : p.ok lines) : reasonR lines p.d = none := by
  cases p with
  | begin => rfl
  | throw => rfl
  | look => rfl
  | find => rfl
  | lay a b => simp [Stp.d, reasonR, layR, h.1.1, h.1.2, h.2.1, h.2.2]
  | join e c w => simp [Stp.d, reasonR, joinR, edB_ed h.1, isBl, h.2]
  | go l o => simp [Stp.d, reasonR, goR, h.1.1, h.1.2, outB_out h.2]
theorem reason_none {lines : Int} {d : D} (h : reasonR lines d = none) : ∃ p : Stp, d = p.d ∧ p.ok lines := by
  match d with
  | .tup (.str w :: ds) =>
    rcases seven w with e | e | e | e | e | e | e | ⟨n1, n2, n3, n4, n5, n6, n7⟩
    · subst e
      match ds with
      | [] => exact ⟨.begin, rfl, trivial⟩
      | _ :: _ => simp [reasonR] at h
    · subst e
      match ds with
      | [a, b] =>
        cases h1 : inR 1 3 a with
        | false => simp [reasonR, layR, h1] at h
        | true =>
        cases h2 : inR 0 9 b with
        | false => simp [reasonR, layR, h1, h2] at h
        | true =>
        obtain ⟨i, rfl, i1, i2⟩ := inR_of h1
        obtain ⟨j, rfl, j1, j2⟩ := inR_of h2
        exact ⟨.lay i j, rfl, ⟨i1, i2⟩, j1, j2⟩
      | [] => simp [reasonR] at h
      | [_] => simp [reasonR] at h
      | _ :: _ :: _ :: _ => simp [reasonR] at h
    · subst e
      match ds with
      | [a, b, c] =>
        cases h1 : edB a with
        | false => simp [reasonR, joinR, h1] at h
        | true =>
        cases h2 : isBl b with
        | false => simp [reasonR, joinR, h1, h2] at h
        | true =>
        cases h3 : wrd whens c with
        | false => simp [reasonR, joinR, h1, h2, h3] at h
        | true =>
        obtain ⟨ps, rfl, hp⟩ := edB_of h1
        obtain ⟨b, rfl⟩ := isBl_of h2
        obtain ⟨w, rfl, hw⟩ := wrd_of h3
        exact ⟨.join ps b w, rfl, hp, hw⟩
      | [] => simp [reasonR] at h
      | [_] => simp [reasonR] at h
      | [_, _] => simp [reasonR] at h
      | _ :: _ :: _ :: _ :: _ => simp [reasonR] at h
    · subst e
      match ds with
      | [] => exact ⟨.throw, rfl, trivial⟩
      | _ :: _ => simp [reasonR] at h
    · subst e
      match ds with
      | [] => exact ⟨.look, rfl, trivial⟩
      | _ :: _ => simp [reasonR] at h
    · subst e
      match ds with
      | [] => exact ⟨.find, rfl, trivial⟩
      | _ :: _ => simp [reasonR] at h
    · subst e
      match ds with
      | [a, b] =>
        cases h1 : inR 0 lines a with
        | false => simp [reasonR, goR, h1] at h
        | true =>
        cases h2 : outB b with
        | false => simp [reasonR, goR, h1, h2] at h
        | true =>
        obtain ⟨l, rfl, l1, l2⟩ := inR_of h1
        obtain ⟨o, rfl, ho⟩ := outB_of h2
        exact ⟨.go l o, rfl, ⟨l1, l2⟩, ho⟩
      | [] => simp [reasonR] at h
      | [_] => simp [reasonR] at h
      | _ :: _ :: _ :: _ => simp [reasonR] at h
    · simp [reasonR, n1, n2, n3, n4, n5, n6, n7] at h
  | .tup [] => simp [reasonR] at h
  | .tup (.non :: _) => simp [reasonR] at h
  | .tup (.bl _ :: _) => simp [reasonR] at h
  | .tup (.int _ :: _) => simp [reasonR] at h
  | .tup (.tup _ :: _) => simp [reasonR] at h
  | .tup (.lst _ :: _) => simp [reasonR] at h
  | .tup (.fro _ :: _) => simp [reasonR] at h
  | .tup (.dct _ _ :: _) => simp [reasonR] at h
  | .tup (.obj _ _ _ :: _) => simp [reasonR] at h
  | .tup (.loc _ :: _) => simp [reasonR] at h
  | .tup (.exn _ _ _ :: _) => simp [reasonR] at h
  | .non => simp [reasonR] at h
  | .bl _ => simp [reasonR] at h
  | .int _ => simp [reasonR] at h
  | .str _ => simp [reasonR] at h
  | .lst _ => simp [reasonR] at h
  | .fro _ => simp [reasonR] at h
  | .dct _ _ => simp [reasonR] at h
  | .obj _ _ _ => simp [reasonR] at h
  | .loc _ => simp [reasonR] at h
  | .exn _ _ _ => simp [reasonR] at h
end K07

set_option maxHeartbeats 1000000
namespace K07
open PySem PySem.Spec PyProof.Rows L2 DH DL
/-! a program is made -/
/-- a value that is asked, item by item -/
structure AskT (v : D) : Prop where
  ok : okD v = true
  items : ∀ ds, v = .tup ds → ds.length ≤ 1000000 ∧ ∀ x ∈ ds, Ask x
def badP (i : D) (w : Str) : Ex := ⟨"BadProgram", ["reason", "index"], [.str w, i]⟩
def firstR (lines : Int) : Nat → List D → Option (Nat × Str)
  | _, [] => none
  | k, d :: ds => match reasonR lines d with
    | some w => some (k, w)
    | none => firstR lines (k + 1) ds
def progE : D → Option Ex
  | .tup ds => if 1 ≤ ds.length ∧ ds.length ≤ 12 then (firstR ds.length 0 ds).map fun p => badP (.int p.1) p.2 else some (badP .non "steps")
  | _ => some (badP .non "steps")
theorem firstR_drop {lines : Int} : ∀ {ds : List D} {k i : Nat} {x : D}, ds[i]? = some x → firstR lines (k + i) (ds.drop i) = match reasonR lines x with
    | some w => some (k + i, w)
    | none => firstR lines (k + (i + 1)) (ds.drop (i + 1))
  | [], k, i, x, h => by simp at h
  | d :: ds, k, 0, x, h => by
    simp at h
    subst h
    rfl
  | d :: ds, k, i + 1, x, h => by
    have ih := firstR_drop (lines := lines) (ds := ds) (k := k + 1) (i := i) (x := x) (by simpa using h)
    have e1 : k + 1 + i = k + (i + 1) := by omega
    have e2 : k + 1 + (i + 1) = k + (i + 1 + 1) := by omega
    rw [e1, e2] at ih
    exact ih
theorem prog_init {v : D} {st : Store} {n : Nat} (hv : AskT v) (hn : st[n]? = some (.ins "Program" [] [])) :
    Wp (f_Program_init [.loc n, v] st) (fun d s => progE v = none ∧ d = .non ∧ s = st.set n (.ins "Program" ["listed"] [v])) (fun e s => progE v = some e ∧ s = st) := by
  have ok := hv.ok
  cases v with
  | tup ds =>
    obtain ⟨hl, hx⟩ := hv.items ds rfl
    simp [f_Program_init, m_Program_init]
    by_cases c1 : 1 ≤ ds.length
    · have c1' : (1 : Int) ≤ (ds.length : Int) := by omega
      by_cases c2 : ds.length ≤ 12
      · have c2' : (ds.length : Int) ≤ 12 := by omega
        simp [c1', c2']
        refine Wp.for (fun j env s => s = st ∧ (∃ x2 x3 x4, env = [some (.loc n), some (.tup ds), x2, x3, x4]) ∧ firstR ds.length 0 ds = firstR ds.length (0 + j) (ds.drop j)) ⟨rfl, ⟨_, _, _, rfl⟩, rfl⟩ ?_ ?_
        · rintro j d env s hd ⟨rfl, ⟨x2, x3, x4, rfl⟩, hI⟩
          obtain ⟨x, hj, rfl⟩ := num_get hd
          refine ⟨_, rfl, ?_⟩
          have hm := List.mem_of_getElem? hj
          have e := step_error_ok x ds.length s (hx x hm)
          have fd := firstR_drop (lines := ds.length) (k := 0) hj
          simp [e]
          cases q : reasonR ds.length x with
          | none =>
            simp [rsD]
            rw [hI, fd, q]
            simp
          | some w =>
            simp [rsD]
            rw [progE, if_pos ⟨c1, c2⟩, hI, fd, q]
            simp [badP]
        · rintro env s ⟨rfl, ⟨x2, x3, x4, rfl⟩, hI⟩
          have e : firstR ds.length 0 ds = none := by
            rw [hI, num_len, List.drop_length]
            rfl
          simp [kfs2 hn, progE, e, c1, c2]
      · have c2' : ¬ (ds.length : Int) ≤ 12 := by omega
        simp [c1', c2', progE, c2, badP]
    · have c1' : ¬ (1 : Int) ≤ (ds.length : Int) := by omega
      simp [c1', progE, c1, badP]
  | _ => first | (cases ok; done) | simp [f_Program_init, m_Program_init, progE, badP]
theorem mk_prog {v : D} {st : Store} (hv : AskT v) : mkF "Program" (ar 2 f_Program_init) [v] st = match progE v with
    | none => .ok (.obj "Program" ["listed"] [v]) st
    | some e => .exc e st := by
  have hn : D.noLocs [v] = true := by simp [D.noLocs, ok_noLoc v hv.ok]
  have q := prog_init (st := [Cell.ins "Program" [] []]) (n := 0) hv rfl
  cases e : progE v with
  | none =>
    refine mk_ok hn ?_ hn
    simp
    exact q.use (fun d s ⟨_, h1, h2⟩ => ⟨h1, h2⟩) fun x s ⟨h1, _⟩ => by rw [e] at h1; cases h1
  | some x =>
    have hx : D.noLocs x.vs = true := by
      unfold progE at e
      split at e
      · split at e
        · obtain ⟨p, _, rfl⟩ := Option.map_eq_some_iff.mp e
          rfl
        · cases e; rfl
      · cases e; rfl
    refine mk_exc hn ?_ hx
    simp
    exact q.use (fun d s ⟨h1, _⟩ => by rw [e] at h1; cases h1) fun y s ⟨h1, _⟩ => by rw [e] at h1; exact (Option.some.inj h1).symm
end K07

set_option maxHeartbeats 1000000
namespace K07
open PySem PySem.Spec PyProof.Rows L2 DH DL
/-! programs, typed -/
theorem stp_sh {lines : Int} (hl : lines ≤ 10 ^ 30) {p : Stp} (h : p.ok lines) : shB 2 p.d = true := by
  obtain ⟨ds, e, h1, h2, h3⟩ := Stp.items hl h
  rw [e, sh_tup, Bool.and_eq_true, List.all_eq_true]
  exact ⟨by simp; omega, fun x hx => (h3 x hx).1⟩
theorem steps_sh {ps : List Stp} (h : PrOk ps) : shB 3 (stepsD ps) = true := by
  unfold stepsD
  rw [sh_tup, Bool.and_eq_true, List.all_eq_true]
  refine ⟨by simp; have := h.2.1; omega, fun x hx => ?_⟩
  obtain ⟨p, hp, rfl⟩ := List.mem_map.mp hx
  exact stp_sh (by have := h.2.1; omega) (h.2.2 p hp)
theorem firstR_ok {lines : Int} : ∀ {k : Nat} {ds : List D}, (∀ d ∈ ds, reasonR lines d = none) → firstR lines k ds = none
  | _, [], _ => rfl
  | k, x :: xs, h => by
    simp only [firstR, h x (by simp)]
    exact firstR_ok fun d hd => h d (by simp [hd])
theorem prog_askT {ps : List Stp} (h : PrOk ps) : AskT (stepsD ps) := by
  refine ⟨sh_ok 3 _ (steps_sh h), fun ds e => ?_⟩
  cases e
  refine ⟨by simp; have := h.2.1; omega, fun x hx => ?_⟩
  obtain ⟨p, hp, rfl⟩ := List.mem_map.mp hx
  exact ask_of (Stp.vn (by have := h.2.1; omega) (h.2.2 p hp))
theorem mk_ps {ps : List Stp} {st : Store} (h : PrOk ps) : mkF "Program" (ar 2 f_Program_init) [stepsD ps] st = .ok (progD ps) st := by
  rw [mk_prog (prog_askT h)]
  have e : progE (stepsD ps) = none := by
    have h1 := h.1
    have h2 := h.2.1
    simp only [stepsD, progE, if_pos (show 1 ≤ (ps.map Stp.d).length ∧ (ps.map Stp.d).length ≤ 12 by simp; omega)]
    rw [firstR_ok]
    · rfl
    · intro d hd
      obtain ⟨p, hp, rfl⟩ := List.mem_map.mp hd
      simpa using reason_valid (h.2.2 p hp)
  rw [e]
  rfl
def mvS (k : Int) : Stp → Stp
  | .go l o => .go (l + k) o
  | p => p
def isJ : Stp → Bool
  | .join _ _ _ => true
  | _ => false
theorem mv_ok {l k m : Int} (hk : 0 ≤ k) (h : l + k ≤ m) {p : Stp} (q : p.ok l) : (mvS k p).ok m := by
  cases p with
  | go a o => exact ⟨⟨by have := q.1.1; omega, by have := q.1.2; omega⟩, q.2⟩
  | _ => exact q
theorem steps_ok {ps : List Stp} {st : Store} : f_Program_steps [progD ps] st = .ok (stepsD ps) st := by
  refine Wp.eq ?_
  simp [f_Program_steps, m_Program_steps, progD]
end K07

set_option maxHeartbeats 1000000
namespace K07
open PySem PySem.Spec PyProof.Rows L2 DH DL
/-! sums of programs, typed -/
theorem moved_ok {p : Stp} {k : Int} {st : Store} : f_moved [p.d, .int k] st = .ok (mvS k p).d st := by
  refine Wp.eq ?_
  cases p <;> simp [f_moved, m_moved, Stp.d, mvS]
theorem padd_ok' {ps qs : List Stp} (h : PrOk ps) (g : PrOk qs) (l : ps.length + qs.length ≤ 12) : PrOk (ps ++ qs.map (mvS ps.length)) := by
  refine ⟨by simp; have := h.1; omega, by simp; omega, fun p hp => ?_⟩
  rw [List.length_append, List.length_map]
  rcases List.mem_append.mp hp with hp | hp
  · exact Stp.up (by omega) (h.2.2 p hp)
  · obtain ⟨q, hq, rfl⟩ := List.mem_map.mp hp
    exact mv_ok (by omega) (by omega) (g.2.2 q hq)
theorem padd_ok {ps qs : List Stp} {st : Store} (h : PrOk ps) (g : PrOk qs) (l : ps.length + qs.length ≤ 12) : f_Program_add [progD ps, progD qs] st = .ok (progD (ps ++ qs.map (mvS ps.length))) st := by
  refine Wp.eq ?_
  have hl : ¬ (12 : Int) < (ps.length : Int) + (qs.length : Int) := by omega
  simp [f_Program_add, m_Program_add, progD, stepsD, hl, wipeD]
  refine Wp.lcTA Stp.d (fun p => (mvS ps.length p).d) okS0 qs (by have := g.2.1; omega) (fun p hp => ⟨_, rfl, ?_⟩) ?_
  · simp [moved_ok]
  · have e := mk_ps (st := st) (padd_ok' h g l)
    simp [stepsD] at e
    simp [Function.comp_def] at e ⊢
    rw [e]
    simp [progD, stepsD, Function.comp_def]
    omega
end K07

set_option maxHeartbeats 1000000
namespace K07
open PySem PySem.Spec PyProof.Rows L2 DH DL
/-! joins, checking, one step -/
def numS : Nat → List Stp → List (Nat × Stp)
  | _, [] => []
  | k, p :: ps => (k, p) :: numS (k + 1) ps
def numSD (z : Nat × Stp) : D := .tup [.int z.1, z.2.d]
theorem num_S : ∀ {k : Nat} {ps : List Stp}, numD k (ps.map Stp.d) = (numS k ps).map numSD
  | _, [] => rfl
  | k, p :: ps => by simp only [List.map_cons, numD, numS, num_S (k := k + 1) (ps := ps)]; rfl
theorem numS_len : ∀ {k : Nat} {ps : List Stp}, (numS k ps).length = ps.length
  | _, [] => rfl
  | k, p :: ps => by simp [numS, numS_len]
theorem numS_mem : ∀ {k : Nat} {ps : List Stp} {i : Nat} {p : Stp}, (i, p) ∈ numS k ps ↔ k ≤ i ∧ ps[i - k]? = some p
  | k, [], i, p => by simp [numS]
  | k, q :: ps, i, p => by
    simp only [numS, List.mem_cons, Prod.mk.injEq, numS_mem (k := k + 1) (ps := ps)]
    by_cases c : i = k
    · subst c
      simp
      constructor
      · rintro (rfl | ⟨h, _⟩)
        · rfl
        · omega
      · rintro rfl
        exact .inl rfl
    · constructor
      · rintro (⟨h, _⟩ | ⟨h, h2⟩)
        · exact absurd h c
        · refine ⟨by omega, ?_⟩
          have e : i - k = (i - (k + 1)) + 1 := by omega
          rw [e, List.getElem?_cons_succ]
          exact h2
      · rintro ⟨h, h2⟩
        refine .inr ⟨by omega, ?_⟩
        have e : i - k = (i - (k + 1)) + 1 := by omega
        rw [e, List.getElem?_cons_succ] at h2
        exact h2
theorem numS_app : ∀ {k : Nat} {ps qs : List Stp}, numS k (ps ++ qs) = numS k ps ++ numS (k + ps.length) qs
  | k, [], qs => by simp [numS]
  | k, p :: ps, qs => by
    have e : k + (p :: ps).length = k + 1 + ps.length := by simp; omega
    simp only [List.cons_append, numS, numS_app (k := k + 1), e]
def jnsF (k : Nat) (ps : List Stp) : List Int := ((numS k ps).filter fun z => isJ z.2).map fun z => (z.1 : Int)
def jns (ps : List Stp) : List Int := jnsF 0 ps
def natsD (is : List Int) : D := .tup (is.map .int)
theorem jns_mem {ps : List Stp} {i : Int} : i ∈ jns ps ↔ ∃ (n : Nat) (p : Stp), i = n ∧ ps[n]? = some p ∧ isJ p = true := by
  unfold jns jnsF
  simp only [List.mem_map, List.mem_filter]
  constructor
  · rintro ⟨⟨n, p⟩, ⟨h1, h2⟩, rfl⟩
    exact ⟨n, p, rfl, by simpa using (numS_mem.mp h1).2, h2⟩
  · rintro ⟨n, p, rfl, h1, h2⟩
    exact ⟨⟨n, p⟩, ⟨numS_mem.mpr ⟨Nat.zero_le _, by simpa using h1⟩, h2⟩, rfl⟩
theorem jns_len {ps : List Stp} : (jns ps).length ≤ ps.length := by
  unfold jns jnsF
  rw [List.length_map]
  exact Nat.le_trans (List.length_filter_le _ _) (by rw [numS_len]; exact Nat.le_refl _)
theorem jns_mv {k : Nat} {m : Int} : ∀ {j : Nat} {ps : List Stp}, jnsF (j + k) (ps.map (mvS m)) = (jnsF j ps).map (· + (k : Int))
  | j, [] => rfl
  | j, p :: ps => by
    have ih := jns_mv (k := k) (m := m) (j := j + 1) (ps := ps)
    have e : j + 1 + k = j + k + 1 := by omega
    rw [e] at ih
    unfold jnsF at ih ⊢
    have ej : isJ (mvS m p) = isJ p := by cases p <;> rfl
    simp only [List.map_cons, numS, List.filter_cons, ej]
    cases isJ p <;> simp [ih]
theorem jns_app {ps qs : List Stp} {m : Int} : jns (ps ++ qs.map (mvS m)) = jns ps ++ (jns qs).map (· + (ps.length : Int)) := by
  have e := jns_mv (k := ps.length) (m := m) (j := 0) (ps := qs)
  unfold jns
  rw [← e]
  unfold jnsF
  rw [numS_app, List.filter_append, List.map_append, Nat.zero_add]
theorem pjoins_ok {ps : List Stp} {st : Store} (h : PrOk ps) : f_Program_joins [progD ps] st = .ok (natsD (jns ps)) st := by
  have h2 := h.2.1
  refine Wp.eq ?_
  simp [f_Program_joins, m_Program_joins, progD, stepsD, wipeD]
  rw [num_S]
  have key : ∀ Q : D → Store → Prop, Q (.lst ([] ++ ((numS 0 ps).filter fun z => isJ z.2).map fun z => D.int (z.1 : Int))) st → ∀ X, Wp (lcGo (.tu [.nm 1, .nm 2]) (mTest (mOp (opEqD false) (mOp opIx (mVar 2) (mC (.int 0))) (mC (.str "join")))) (mVar 1) ⟨(numS 0 ps).map numSD, []⟩ [some (progD ps), none, none] ((numS 0 ps).map numSD) [] st) Q X := fun Q q X => by
    refine Wp.lcT numSD (fun z => isJ z.2) (fun z => .int (z.1 : Int)) okS0 (numS 0 ps) [] (by simp [numS_len]; omega) (fun z hz => ?_) q
    refine ⟨_, rfl, ?_, fun _ => ?_⟩
    · obtain ⟨i, p⟩ := z
      cases p <;> simp [Stp.d, isJ]
    · simp
  refine key _ ?_ _
  simp [natsD, jns, jnsF, Function.comp_def]
end K07

set_option maxHeartbeats 1000000
namespace K07
open PySem PySem.Spec PyProof.Rows L2 DH DL
/-! p[i], typed -/
theorem ixN_nat {n i : Nat} (h : i < n) : ixN n (i : Int) = some i := by
  unfold ixN
  rw [if_pos (by omega), if_pos (by omega)]
  rfl
theorem atI_nat {α : Type} {xs : List α} {i : Nat} {x : α} (h : xs[i]? = some x) : atI xs (i : Int) = some x := by
  have := (List.getElem?_eq_some_iff.mp h).1
  unfold atI
  rw [ixN_nat this]
  exact h
theorem index_ok {k l : Int} {st : Store} (h0 : 0 ≤ k) (h1 : k < l) : f_is_index [.int k, .int l] st = .ok (.bl true) st := by
  refine Wp.eq ?_
  have e := within_ok (.int k) 0 (l - 1) st rfl
  have e2 : inR 0 (l - 1) (.int k) = true := by simp; omega
  rw [e2] at e
  simp [f_is_index, m_is_index, e]
end K07

set_option maxHeartbeats 1000000
namespace K07
open PySem PySem.Spec PyProof.Rows L2 DH DL
/-! checking, one step in another's place -/
def chg (is : List Int) (i : Nat) : Stp → Stp
  | .join e _ w => .join e (decide ((i : Int) ∈ is)) w
  | p => p
def chk (is : List Int) (ps : List Stp) : List Stp := ps.mapIdx (chg is)
theorem chg_ok {is : List Int} {i : Nat} {l : Int} {p : Stp} (h : p.ok l) : (chg is i p).ok l := by
  cases p <;> exact h
theorem chk_ok {is : List Int} {ps : List Stp} (h : PrOk ps) : PrOk (chk is ps) := by
  have e : (chk is ps).length = ps.length := List.length_mapIdx
  refine ⟨by rw [e]; exact h.1, by rw [e]; exact h.2.1, fun p hp => ?_⟩
  rw [e]
  obtain ⟨i, hi⟩ := List.getElem?_of_mem hp
  rw [chk, List.getElem?_mapIdx] at hi
  obtain ⟨q, hq, rfl⟩ := Option.map_eq_some_iff.mp hi
  exact chg_ok (h.2.2 q (List.mem_of_getElem? hq))
theorem pchk_wp {n : Nat} {ps : List Stp} {is : List Int} {st : Store} (h : PrOk ps) (hd : Dk n st) : Wp (f_Program_checking [progD ps, natsD is] st) (fun d s => d = progD (chk is ps) ∧ Go n st s) NoX := by
  have e0 : ∀ s, f_Program_joins [.obj "Program" ["listed"] [.tup (ps.map Stp.d)]] s = .ok (natsD (jns ps)) s := fun s => pjoins_ok h
  have cl : (st ++ [Cell.lst (ps.map Stp.d)])[st.length]? = some (.lst (ps.map Stp.d)) := cell_last
  have g0 := (Go.refl hd).more (Cell.lst (ps.map Stp.d))
  simp [f_Program_checking, m_Program_checking, progD, stepsD]
  generalize st ++ [Cell.lst (ps.map Stp.d)] = s1 at cl g0
  obtain ⟨L, hL⟩ : ∃ L, L = st.length := ⟨_, rfl⟩
  rw [← hL] at cl ⊢
  simp [e0, natsD]
  refine Wp.for (fun j env s => (∃ x3 x4 x5 x6 x7, env = [some (progD ps), some (natsD is), some (.loc L), x3, x4, x5, x6, x7]) ∧ Go n st s ∧ ∃ qs : List Stp, s[L]? = some (.lst (qs.map Stp.d)) ∧ qs.length = ps.length ∧ ∀ (i : Nat) (p : Stp), ps[i]? = some p → qs[i]? = some (if (i : Int) ∈ (jns ps).take j then chg is i p else p)) ⟨⟨_, _, _, _, _, rfl⟩, g0, ps, cl, rfl, fun i p hp => by simp [hp]⟩ ?_ ?_
  · rintro j d env s hj ⟨⟨x3, x4, x5, x6, x7, rfl⟩, g, qs, c, el, hq⟩
    rw [List.getElem?_map] at hj
    obtain ⟨z, hz, rfl⟩ := Option.map_eq_some_iff.mp hj
    obtain ⟨i, p, rfl, hp, hpj⟩ := jns_mem.mp (List.mem_of_getElem? hz)
    have hi := (List.getElem?_eq_some_iff.mp hp).1
    refine ⟨_, rfl, ?_⟩
    obtain ⟨e, c1, w, hqi⟩ : ∃ e c1 w, qs[i]? = some (.join e c1 w) ∧ chg is i p = .join e (decide ((i : Int) ∈ is)) w := by
      have := hq i p hp
      cases p with
      | join e c w =>
        by_cases cc : (i : Int) ∈ (jns ps).take j
        · exact ⟨e, _, w, by rw [this, if_pos cc]; rfl, rfl⟩
        · exact ⟨e, _, w, by rw [this, if_neg cc], rfl⟩
      | _ => cases hpj
    have ha : atI (qs.map Stp.d) (i : Int) = some (.tup [.str "join", edD e, .bl c1, .str w]) := atI_nat (by rw [List.getElem?_map, hqi.1]; rfl)
    simp [wp_oIxC c, ha, natsD, oIn_intsT]
    rw [ksub3 (listAt_c c) (ixN_nat (by rw [List.length_map]; omega))]
    simp
    refine ⟨g.putAt (by omega) _, qs.set i (chg is i p), ?_, by simpa using el, fun k q hk => ?_⟩
    · rw [cell_set c, List.map_set, hqi.2]
      rfl
    · have e2 : (jns ps).take (j + 1) = (jns ps).take j ++ [(i : Int)] := by rw [List.take_add_one, hz]; rfl
      rw [e2]
      by_cases ck : k = i
      · subst ck
        rw [hp] at hk
        cases hk
        rw [List.getElem?_set_self (by omega)]
        simp
      · rw [List.getElem?_set_ne (by omega), hq k q hk]
        have : ((k : Int) ∈ (jns ps).take j ++ [(i : Int)]) ↔ (k : Int) ∈ (jns ps).take j := by
          rw [List.mem_append]
          simp
          intro hh
          exact absurd (by omega) ck
        simp only [this]
  · rintro env s ⟨⟨x3, x4, x5, x6, x7, rfl⟩, g, qs, c, el, hq⟩
    have eq : qs = chk is ps := by
      apply List.ext_getElem?
      intro i
      rw [chk, List.getElem?_mapIdx]
      cases hp : ps[i]? with
      | none =>
        rw [List.getElem?_eq_none_iff] at hp
        rw [Option.map_none, List.getElem?_eq_none_iff]
        omega
      | some p =>
        rw [hq i p hp, Option.map_some]
        congr 1
        rw [List.take_of_length_le (by simp)]
        by_cases c : isJ p = true
        · rw [if_pos (jns_mem.mpr ⟨i, p, rfl, hp, c⟩)]
        · have : chg is i p = p := by cases p <;> first | rfl | exact absurd rfl c
          rw [this, ite_self]
    subst eq
    have e1 : ∀ s, mkF "Program" (ar 2 f_Program_init) [.tup ((chk is ps).map Stp.d)] s = .ok (progD (chk is ps)) s := fun s => mk_ps (chk_ok h)
    simp [fTup_c c, e1]
    exact ⟨rfl, g⟩
theorem set_ok {ps : List Stp} {i : Nat} {p : Stp} (h : PrOk ps) (hp : p.ok ps.length) : PrOk (ps.set i p) := by
  refine ⟨by simpa using h.1, by simpa using h.2.1, fun q hq => ?_⟩
  rw [List.length_set]
  rcases List.mem_or_eq_of_mem_set hq with hq | rfl
  · exact h.2.2 q hq
  · exact hp
theorem pwith_ok {ps : List Stp} {i : Nat} {p : Stp} {st : Store} (h : PrOk ps) (hi : i < ps.length) (hp : p.ok ps.length) : f_Program_with_step [progD ps, .int i, p.d] st = .ok (progD (ps.set i p)) st := by
  have e1 : ∀ s, mkF "Program" (ar 2 f_Program_init) [stepsD (ps.set i p)] s = .ok (progD (ps.set i p)) s := fun s => mk_ps (set_ok h hp)
  have e2 : stepsD (ps.set i p) = .tup ((ps.map Stp.d).take i ++ ([p.d] ++ (ps.map Stp.d).drop (i + 1))) := by
    unfold stepsD
    rw [List.map_set, List.set_eq_take_append_cons_drop, if_pos (by simpa using hi)]
    rfl
  rw [e2] at e1
  have h12 := h.2.1
  have c1 : cutD (ps.map Stp.d) none (some (i : Int)) = (ps.map Stp.d).take i := by rw [cutD_take (by omega)]; rfl
  have c2 : cutD (ps.map Stp.d) (some ((i : Int) + 1)) none = (ps.map Stp.d).drop (i + 1) := by rw [cutD_drop (by omega)]; rfl
  refine Wp.eq ?_
  simp only [List.singleton_append] at e1
  simp [f_Program_with_step, m_Program_with_step, progD, stepsD, index_ok (k := (i : Int)) (l := (ps.length : Int)) (by omega) (by omega), c1, c2]
  refine ⟨by omega, by omega, ?_⟩
  rw [e1]
  simp [progD, stepsD]
end K07

set_option maxHeartbeats 1000000
namespace K07
open PySem PySem.Spec PyProof.Rows L2 DH DL
/-! numbers from nought -/
def upI (n : Nat) : List Int := (List.range n).map Int.ofNat
theorem upI_succ {n : Nat} : upI (n + 1) = upI n ++ [(n : Int)] := by simp [upI, List.range_succ]
theorem upI_len {n : Nat} : (upI n).length = n := by simp [upI]
theorem upI_mem {n : Nat} {i : Int} : i ∈ upI n ↔ 0 ≤ i ∧ i < n := by
  constructor
  · intro h
    obtain ⟨k, hk, rfl⟩ := List.mem_map.mp h
    have := List.mem_range.mp hk
    exact ⟨Int.natCast_nonneg _, Int.ofNat_lt.mpr this⟩
  · rintro ⟨h1, h2⟩
    exact List.mem_map.mpr ⟨i.toNat, List.mem_range.mpr (by omega), by simp; omega⟩
theorem ints_up : ∀ {n : Nat}, intsD 0 n = (upI n).map .int := fun {n} => by
  refine List.ext_getElem? fun i => ?_
  rcases Nat.lt_or_ge i n with h | h
  · obtain ⟨d, hd⟩ : ∃ d, (intsD 0 n)[i]? = some d := ⟨_, List.getElem?_eq_getElem (by rw [ints_len]; exact h)⟩
    obtain ⟨h1, h2⟩ := ints_get n 0 i d hd
    rw [hd, h2]
    simp [upI, h]
  · rw [List.getElem?_eq_none (by rw [ints_len]; exact h), List.getElem?_eq_none (by rw [List.length_map, upI_len]; exact h)]
end K07

set_option maxHeartbeats 1000000
namespace K07
open PySem PySem.Spec PyProof.Rows L2 DH DL
/-! indexes of any kind -/
theorem isIndex_ok {d : D} {l : Int} {st : Store} (h : okD d = true) : f_is_index [d, .int l] st = .ok (.bl (inR 0 (l - 1) d)) st := by
  have e := fun s => within_ok d 0 (l - 1) s h
  refine Wp.eq ?_
  simp [f_is_index, m_is_index, e]
end K07

set_option maxHeartbeats 1000000
namespace K07
open PySem PySem.Spec PyProof.Rows L2 DH DL
/-! values hold no error -/
mutual
theorem ok_noX : ∀ d : D, okD d = true → d.noX = true
  | .non, _ => rfl
  | .bl _, _ => rfl
  | .int _, _ => rfl
  | .str _, _ => rfl
  | .tup xs, h => oks_noX xs h
  | .lst xs, h => oks_noX xs h
  | .dct _ vs, h => oks_noX vs h
  | .fro _, h => by cases h
  | .obj _ _ _, h => by cases h
  | .loc _, h => by cases h
  | .exn _ _ _, h => by cases h
theorem oks_noX : ∀ ds : List D, okDs ds = true → D.noXs ds = true
  | [], _ => rfl
  | d :: ds, h => by
    unfold okDs at h
    obtain ⟨h1, h2⟩ := Bool.and_eq_true_iff.mp h
    exact Bool.and_eq_true_iff.mpr ⟨ok_noX d h1, oks_noX ds h2⟩
end
end K07

set_option maxHeartbeats 1000000
namespace K07
open PySem PySem.Spec PyProof.Rows L2 DH DL
/-! odd values beside themselves -/
theorem odds_sa : ∀ d ∈ odds, saB 2 d = true := by
  have h : (odds.all (saB 2)) = true := by decide +kernel
  exact fun d hd => List.all_eq_true.mp h d hd
/-- an index that is tried -/
structure Ix (d : D) : Prop where
  ok : okD d = true
  sa : saB 2 d = true
theorem odd_ix {d : D} (h : d ∈ odds) : Ix d := ⟨(odds_v d h).1.1, odds_sa d h⟩
theorem int_ix {i : Int} : Ix (.int i) := ⟨rfl, by simp⟩
end K07

set_option maxHeartbeats 1000000
namespace K07
open PySem PySem.Spec PyProof.Rows L2 DH DL
/-! where joins stand -/
def jAt (ps : List Stp) (k : Int) : Bool := match ps[k.toNat]? with
  | some p => isJ p
  | none => false
theorem jns_up (f : Nat → Bool) : ∀ (ps : List Stp) (k : Nat), (∀ i p, ps[i]? = some p → f (k + i) = isJ p) → jnsF k ps = ((List.range' k ps.length).filter f).map Int.ofNat
  | [], k, _ => rfl
  | p :: ps, k, h => by
    have ih := jns_up f ps (k + 1) fun i q hq => by
      have := h (i + 1) q (by simpa using hq)
      rw [← this]
      congr 1
      omega
    have h0 : f k = isJ p := h 0 p rfl
    unfold jnsF at ih ⊢
    rw [List.length_cons, List.range'_succ, numS, List.filter_cons, List.filter_cons, h0]
    cases isJ p <;> simp [ih]
theorem jns_where {ps : List Stp} : (upI ps.length).filter (jAt ps) = jns ps := by
  unfold jns
  rw [jns_up (fun i => jAt ps (i : Int)) ps 0 fun i p hp => by simp [jAt, hp]]
  rw [upI, List.filter_map, List.range_eq_range']
  rfl
end K07

set_option maxHeartbeats 1000000
namespace K07
open PySem PySem.Spec PyProof.Rows L2 DH DL
/-! a step in another's place: any index, any value -/
theorem firstR_set {lines : Int} {v : D} : ∀ {ps : List Stp} {i k : Nat}, (∀ p ∈ ps, reasonR lines p.d = none) → i < ps.length → firstR lines k ((ps.map Stp.d).set i v) = (reasonR lines v).map fun w => (k + i, w)
  | [], i, k, _, h => by simp at h
  | p :: ps, 0, k, h, _ => by
    simp only [List.map_cons, List.set_cons_zero, firstR]
    cases reasonR lines v with
    | some w => rfl
    | none =>
      refine firstR_ok fun d hd => ?_
      obtain ⟨q, hq, rfl⟩ := List.mem_map.mp hd
      exact h q (by simp [hq])
  | p :: ps, i + 1, k, h, hi => by
    have ih := firstR_set (lines := lines) (v := v) (ps := ps) (i := i) (k := k + 1) (fun q hq => h q (by simp [hq])) (by simpa using hi)
    simp only [List.map_cons, List.set_cons_succ, firstR, h p (by simp)]
    rw [ih]
    cases reasonR lines v with
    | none => rfl
    | some w => simp; omega
theorem pwith_any {ps : List Stp} {i : Nat} {v : D} {st : Store} {m : Nat} (h : PrOk ps) (hi : i < ps.length) (hv : Vn m v) (hm : m ≤ 12) : f_Program_with_step [progD ps, .int i, v] st = match reasonR ps.length v with
    | none => .ok (.obj "Program" ["listed"] [.tup ((ps.map Stp.d).set i v)]) st
    | some w => .exc (badP (.int i) w) st := by
  have l12 := h.2.1
  have ask : AskT (.tup ((ps.map Stp.d).set i v)) := by
    refine ⟨okDs_all fun x hx => ?_, fun ds e => ?_⟩
    · rcases List.mem_or_eq_of_mem_set hx with hx | rfl
      · obtain ⟨p, hp, rfl⟩ := List.mem_map.mp hx
        exact (Stp.vn (by omega) (h.2.2 p hp)).v.ok
      · exact hv.v.ok
    · cases e
      refine ⟨by simp; omega, fun x hx => ?_⟩
      rcases List.mem_or_eq_of_mem_set hx with hx | rfl
      · obtain ⟨p, hp, rfl⟩ := List.mem_map.mp hx
        exact ask_of (Stp.vn (by omega) (h.2.2 p hp))
      · exact ask_of hv
  have mk : ∀ s, mkF "Program" (ar 2 f_Program_init) [.tup ((ps.map Stp.d).set i v)] s = match reasonR ps.length v with
      | none => .ok (.obj "Program" ["listed"] [.tup ((ps.map Stp.d).set i v)]) s
      | some w => .exc (badP (.int i) w) s := fun s => by
    rw [mk_prog ask]
    have e : progE (.tup ((ps.map Stp.d).set i v)) = (reasonR ps.length v).map fun w => badP (.int i) w := by
      have := h.1
      simp only [progE, List.length_set, List.length_map, if_pos (show 1 ≤ ps.length ∧ ps.length ≤ 12 by omega)]
      rw [firstR_set (fun p hp => reason_valid (h.2.2 p hp)) hi, Nat.zero_add]
      cases reasonR ps.length v <;> rfl
    rw [e]
    cases reasonR ps.length v <;> rfl
  have e2 : (ps.map Stp.d).set i v = (ps.map Stp.d).take i ++ (v :: (ps.map Stp.d).drop (i + 1)) := by
    rw [List.set_eq_take_append_cons_drop, if_pos (by simpa using hi)]
  rw [e2] at mk ⊢
  have c1 : cutD (ps.map Stp.d) none (some (i : Int)) = (ps.map Stp.d).take i := by rw [cutD_take (by omega)]; rfl
  have c2 : cutD (ps.map Stp.d) (some ((i : Int) + 1)) none = (ps.map Stp.d).drop (i + 1) := by rw [cutD_drop (by omega)]; rfl
  cases hr : reasonR ps.length v with
  | none =>
    rw [hr] at mk
    simp only at mk
    refine Wp.eq ?_
    simp [f_Program_with_step, m_Program_with_step, progD, stepsD, index_ok (k := (i : Int)) (l := (ps.length : Int)) (by omega) (by omega), c1, c2, mk]
    omega
  | some w =>
    rw [hr] at mk
    simp only at mk
    refine Wp.eqX ?_
    simp [f_Program_with_step, m_Program_with_step, progD, stepsD, index_ok (k := (i : Int)) (l := (ps.length : Int)) (by omega) (by omega), c1, c2, mk]
    omega
def noLineE (d : D) : Ex := ⟨"NoLine", ["index"], [d]⟩
theorem pwith_bad {ps : List Stp} {d v : D} {st : Store} (hd : okD d = true) (h : inR 0 ((ps.length : Int) - 1) d = false) : f_Program_with_step [progD ps, d, v] st = .exc (noLineE d) st := by
  have e := fun s => isIndex_ok (l := (ps.length : Int)) (st := s) hd
  refine Wp.eqX ?_
  simp [f_Program_with_step, m_Program_with_step, progD, stepsD, e, h, noLineE]
/-- what an exchange tells -/
def withD (ps : List Stp) (d v : D) : D := if inR 0 ((ps.length : Int) - 1) d = true then (match reasonR ps.length v with
    | none => .tup ((ps.map Stp.d).set (match d with | .int i => i.toNat | _ => 0) v)
    | some w => .lst [.str "step", d, .str w]) else .lst [.str "line", d]
theorem with_out {ps : List Stp} {d v : D} (h : inR 0 ((ps.length : Int) - 1) d = false) : withD ps d v = .lst [.str "line", d] := by
  unfold withD
  rw [h]
  rfl
theorem with_in {ps : List Stp} {i : Nat} {v : D} (h : i < ps.length) : withD ps (.int i) v = match reasonR ps.length v with
    | none => .tup ((ps.map Stp.d).set i v)
    | some w => .lst [.str "step", .int i, .str w] := by
  have : inR 0 ((ps.length : Int) - 1) (.int i) = true := by simp; omega
  unfold withD
  rw [if_pos this]
  rfl
theorem idx_cases {n : Nat} {d : D} : (∃ i : Nat, d = .int i ∧ i < n) ∨ inR 0 ((n : Int) - 1) d = false := by
  cases e : inR 0 ((n : Int) - 1) d with
  | false => exact .inr rfl
  | true =>
    obtain ⟨i, rfl, h1, h2⟩ := inR_of e
    exact .inl ⟨i.toNat, by congr 1; omega, by omega⟩
@[simp] theorem insP {a : List Stp} {s : Store} : insOf s (progD a) = some (("Program" : Str), ([("listed" : Str)], [stepsD a])) := id rfl
theorem lwith_ok {ps : List Stp} {d v : D} {st : Store} {m : Nat} (h : PrOk ps) (hd : okD d = true) (hv : Vn m v) (hm : m ≤ 12) : f__law_with [progD ps, d, v] st = .ok (withD ps d v) st := by
  have t1 : hit_NoLine "NoLine" = some true := by decide +kernel
  have t2 : hit_NoLine "BadProgram" = some false := by decide +kernel
  have t3 : hit_BadProgram "BadProgram" = some true := by decide +kernel
  rcases idx_cases (n := ps.length) (d := d) with ⟨i, rfl, hi⟩ | hb
  · rw [with_in hi]
    cases hr : reasonR ps.length v with
    | none =>
      have w : ∀ s, f_Program_with_step [progD ps, .int i, v] s = .ok (.obj "Program" ["listed"] [.tup ((ps.map Stp.d).set i v)]) s := fun s => by
        have := pwith_any (st := s) h hi hv hm
        rw [hr] at this
        exact this
      refine Wp.eq ?_
      simp [f__law_with, m__law_with, w, f_Program_steps, m_Program_steps]
    | some z =>
      have w : ∀ s, f_Program_with_step [progD ps, .int i, v] s = .exc (badP (.int i) z) s := fun s => by
        have := pwith_any (st := s) h hi hv hm
        rw [hr] at this
        exact this
      refine Wp.eq ?_
      simp [f__law_with, m__law_with, w, badP, t2, t3]
      rfl
  · rw [with_out hb]
    have w : ∀ s, f_Program_with_step [progD ps, d, v] s = .exc (noLineE d) s := fun s => pwith_bad hd hb
    have hx : (D.lst [.str "line", d]).noX = true := by
      unfold D.noX D.noXs D.noXs
      rw [ok_noX d hd]
      rfl
    refine Wp.eq ?_
    simp [f__law_with, m__law_with, w, noLineE, t1, hx]
end K07

set_option maxHeartbeats 1000000
namespace K07
open PySem PySem.Spec PyProof.Rows L2 DH DL
/-! the law -/
theorem withD_sa {ps : List Stp} (h : PrOk ps) {d v : D} (hd : Ix d) {m : Nat} (hv : Vn m v) : saB 4 (withD ps d v) = true := by
  have l12 := h.2.1
  rcases idx_cases (n := ps.length) (d := d) with ⟨i, rfl, hi⟩ | hb
  · rw [with_in hi]
    cases hr : reasonR ps.length v with
    | none =>
      obtain ⟨p, rfl, hp⟩ := reason_none hr
      have := steps_sh (set_ok (i := i) h hp)
      unfold stepsD at this
      rw [List.map_set] at this
      exact sa_sh (sh_le 3 (by omega) this)
    | some w =>
      have := reason_sh ps.length v
      rw [hr] at this
      have s : shB 3 (.lst [.str "step", .int i, .str w]) = true := by
        have e1 : shB 2 (.str "step") = true := by decide +kernel
        have e2 : shB 2 (.str w) = true := sh_le 0 (by omega) this
        simp [e1, e2]
      exact sa_sh (sh_le 3 (by omega) s)
  · rw [with_out hb]
    have e1 : saB 2 (.str "line") = true := by decide +kernel
    have : saB 3 (.lst [.str "line", d]) = true := by simp [e1, hd.sa]
    exact sa_le 3 (by omega) this
theorem lmoved_ok {p : Stp} {k : Int} {st : Store} : f__law_moved [p.d, .int k] st = .ok (mvS k p).d st := by
  refine Wp.eq ?_
  cases p <;> simp [f__law_moved, m__law_moved, Stp.d, mvS]
def sumD (a b : List Stp) : D := if a.length + b.length ≤ 12 then stepsD (a ++ b.map (mvS a.length)) else .int 12
theorem lsum_ok {a b : List Stp} {st : Store} (h : PrOk a) (g : PrOk b) : f__law_sum [progD a, progD b] st = .ok (sumD a b) st := by
  have t1 : hit_TooMany "TooMany" = some true := by decide +kernel
  by_cases c : a.length + b.length ≤ 12
  · have q : ∀ s, f_Program_add [.obj "Program" ["listed"] [stepsD a], .obj "Program" ["listed"] [stepsD b]] s = .ok (.obj "Program" ["listed"] [stepsD (a ++ b.map (mvS a.length))]) s := fun s => padd_ok h g c
    refine Wp.eq ?_
    have e : sumD a b = stepsD (a ++ b.map (mvS a.length)) := if_pos c
    rw [e]
    simp [f__law_sum, m__law_sum, progD, q, f_Program_steps, m_Program_steps]
  · have q : ∀ s, f_Program_add [.obj "Program" ["listed"] [stepsD a], .obj "Program" ["listed"] [stepsD b]] s = .exc ⟨"TooMany", ["limit"], [.int 12]⟩ s := fun s => by
      refine Wp.eqX ?_
      have l1 := h.2.1
      have c2 : 12 < (a.length : Int) + b.length := by omega
      simp [f_Program_add, m_Program_add, stepsD, c2]
    refine Wp.eq ?_
    have e : sumD a b = .int 12 := if_neg c
    rw [e]
    simp [f__law_sum, m__law_sum, progD, q, t1]
    rfl
noncomputable def mid (rest : SM) : SM := (sSeq (sSet 13 (mAnd (mCall (ar 1 f__law_whole) (mCons (mVar 10) mNil)) (mChain opLeI opLtI (mC (.int 0)) (mVar 10) (mVar 7))))
    (sSeq (sSet 14 (mCall (ar 2 f__law_reason) (mCons (mVar 11) (mCons (mVar 7) mNil))))
    (sSeq (sSet 8 (mLst (mCons (mC (.str "line")) (mCons (mVar 10) mNil))))
    (sSeq (sIf (mAndT (mTru (mVar 13)) (mTest (mOp (opIsN false) (mVar 14) (mC .non))))
    (sSet 8 (mOp opAdd (mOp opAdd (mSl (mVar 3) none (some (mVar 10))) (mTup (mCons (mVar 11) mNil))) (mSl (mVar 3) (some (mOp opAdd (mVar 10) (mC (.int 1)))) none)))
    (sIf (mTru (mVar 13))
    (sSet 8 (mLst (mCons (mC (.str "step")) (mCons (mVar 10) (mCons (mVar 14) mNil)))))
    sNil))
    rest))))
theorem mid_ok {ps : List Stp} (h : PrOk ps) {d v : D} (hd : okD d = true) {m : Nat} (hv : Vn m v) {rest : SM} {a0 a1 a2 a4 a5 a6 a8 a9 a12 a13 a14 a15 a16 a17 a18 a19 : Option D} {st : Store} {Q : Fl → Store → Prop} {X : Ex → Store → Prop}
    (q : ∀ a13 a14, Wp (rest [a0, a1, a2, some (stepsD ps), a4, a5, a6, some (.int ps.length), some (withD ps d v), a9, some d, some v, a12, a13, a14, a15, a16, a17, a18, a19] st) Q X) :
    Wp (mid rest [a0, a1, a2, some (stepsD ps), a4, a5, a6, some (.int ps.length), a8, a9, some d, some v, a12, a13, a14, a15, a16, a17, a18, a19] st) Q X := by
  have w := fun s => whole_ok d s hd
  have r : ∀ s, f__law_reason [v, .int ps.length] s = .ok (rsD (reasonR ps.length v)) s := fun s => law_reason_ok v ps.length s (ask_of hv)
  have l12 := h.2.1
  rcases idx_cases (n := ps.length) (d := d) with ⟨i, rfl, hi⟩ | hb
  · rw [with_in hi] at q
    have c1 : (0 : Int) ≤ i := by omega
    have c2 : (i : Int) < ps.length := by omega
    cases hr : reasonR ps.length v with
    | none =>
      rw [hr] at r q
      simp only at q
      have e2 : (ps.map Stp.d).set i v = (ps.map Stp.d).take i ++ (v :: (ps.map Stp.d).drop (i + 1)) := by
        rw [List.set_eq_take_append_cons_drop, if_pos (by simpa using hi)]
      rw [e2] at q
      have k1 : cutD (ps.map Stp.d) none (some (i : Int)) = (ps.map Stp.d).take i := by rw [cutD_take (by omega)]; rfl
      have k2 : cutD (ps.map Stp.d) (some ((i : Int) + 1)) none = (ps.map Stp.d).drop (i + 1) := by rw [cutD_drop (by omega)]; rfl
      simp [mid, w, isI, c1, c2, r, rsD]
      have e3 : stepsD ps = .tup (ps.map Stp.d) := rfl
      rw [e3] at q ⊢
      simp [k1, k2]
      exact ⟨by omega, by omega, q _ _⟩
    | some z =>
      rw [hr] at r q
      simp only at q
      simp [mid, w, isI, c1, c2, r, rsD]
      exact q _ _
  · rw [with_out hb] at q
    cases d with
    | int i =>
      simp at hb
      by_cases c : 0 ≤ i
      · have c2 : ¬ i < (ps.length : Int) := by have := hb c; omega
        simp [mid, w, isI, c, c2, r]
        exact q _ _
      · simp [mid, w, isI, c, r]
        exact q _ _
    | _ => first | (cases hd; done) | (simp [mid, w, isI, r]; exact q _ _)
end K07

set_option maxHeartbeats 1000000
namespace K07
open PySem PySem.Spec PyProof.Rows L2 DH DL
theorem plain (zs : List Int) (h : zs.length ≤ 63) : ∃ s, f_law [.fro (zs.map D.int)] [] = .ok (.bl true) s := by
  suffices h : Wp (f_law [.fro (zs.map D.int)] []) (fun d _ => d = .bl true) NoX by
    obtain ⟨d, s, e, q⟩ := h.ex
    exact ⟨s, by rw [e, q]⟩
  unfold f_law m_law
  simp
  refine (deck_wp zs h).go ?_
  rintro _ s0 ⟨rfl, d0, l0⟩
  simp
  rw [kr1 (by omega)]
  simp
  refine Wp.forR (fun j env s => (∃ x2 x3 x4 x5 x6 x7 x8 x9 x10 x11 x12 x13 x14 x15 x16 x17 x18 x19, env = [some (.fro (zs.map D.int)), some (.loc 1), x2, x3, x4, x5, x6, x7, x8, x9, x10, x11, x12, x13, x14, x15, x16, x17, x18, x19]) ∧ Go (2000 * (4 - j)) s0 s) ⟨⟨_, _, _, _, _, _, _, _, _, _, _, _, _, _, _, _, _, _, rfl⟩, Go.refl (d0.le (by omega))⟩ ?_ ?_
  · rintro j env s hj ⟨⟨x2, x3, x4, x5, x6, x7, x8, x9, x10, x11, x12, x13, x14, x15, x16, x17, x18, x19, rfl⟩, g⟩
    obtain ⟨n, hn⟩ : ∃ n, n = 2000 * (4 - (j + 1)) := ⟨_, rfl⟩
    have g : Go (n + 2000) s0 s := g.le (by omega)
    simp
    refine (steps_wp (n := n + 1700) (g.dk.le (by omega)) (by omega) (by omega)).go ?_
    rintro _ s1 ⟨ps, rfl, hp, lp, g1⟩
    have g := g.trans g1
    simp
    refine (steps_wp (n := n + 1400) (g.dk.le (by omega)) (by omega) (by omega)).go ?_
    rintro _ s2 ⟨qs, rfl, hq, lq, g2⟩
    have g := g.trans g2
    have lp1 := hp.1
    have lq1 := hq.1
    have l12 := hp.2.1
    have l12q := hq.2.1
    have mkp : ∀ s, mkF "Program" (ar 2 f_Program_init) [stepsD ps] s = .ok (progD ps) s := fun s => mk_ps hp
    have mkq : ∀ s, mkF "Program" (ar 2 f_Program_init) [stepsD qs] s = .ok (progD qs) s := fun s => mk_ps hq
    have fl : ∀ s, fLen [stepsD ps] s = .ok (.int ps.length) s := fun s => Wp.eq (by simp [stepsD])
    have it : ∀ s, srcOf s (stepsD qs) = some ⟨qs.map Stp.d, []⟩ := fun s => rfl
    have lsum : ∀ s, f__law_sum [progD ps, progD qs] s = .ok (sumD ps qs) s := fun s => lsum_ok hp hq
    simp [mkp, mkq, fl, it, wipeD]
    refine Wp.lcTA Stp.d (fun p => (mvS ps.length p).d) okS0 qs (by omega) (fun p hp => ⟨_, rfl, by simp [lmoved_ok, wipeD]⟩) ?_
    have ad : ∀ s, opAdd (stepsD ps) (.tup (qs.map fun p => (mvS ps.length p).d)) s = .ok (stepsD (ps ++ qs.map (mvS ps.length))) s := fun s => by
      refine Wp.eq ?_
      simp [stepsD, Function.comp_def]
      omega
    have fl2 : ∀ s, fLen [stepsD (ps ++ qs.map (mvS ps.length))] s = .ok (.int (ps.length + qs.length : Nat)) s := fun s => Wp.eq (by simp [stepsD])
    have sm : ∀ s, f__law_same 6 [sumD ps qs, sumD ps qs] s = .ok (.bl true) s := fun s => same_self (k := 3) (by
      unfold sumD
      split
      · exact steps_sh (padd_ok' hp hq (by omega))
      · simp) (by omega)
    have e8 : ∀ X Q s, Wp (mIf (mTest (mOp opLeI (mCall fLen (mCons (mVar 8) mNil)) (mC (.int 12)))) (mVar 8) (mC (.int 12)) [some (.fro (zs.map D.int)), some (.loc 1), some (.int j), some (stepsD ps), some (stepsD qs), some (progD ps), some (progD qs), some (.int ps.length), some (stepsD (ps ++ qs.map (mvS ps.length))), x9, x10, x11, x12, x13, x14, x15, x16, x17, x18, x19] s) Q X = Q (sumD ps qs) s := fun X Q s => by
      by_cases c : ps.length + qs.length ≤ 12
      · have c2 : (ps.length : Int) + qs.length ≤ 12 := by omega
        simp [fl2, sumD, c, c2]
      · have c2 : ¬ (ps.length : Int) + qs.length ≤ 12 := by omega
        simp [fl2, sumD, c, c2]
    simp [ad, lsum, wipeD, -wp_mif]
    rw [e8]
    simp [sm]
    refine (next_wp (n := n + 1300) (g.dk.le (by omega)) (by omega) (by omega)).go ?_
    rintro _ s3 ⟨r, rfl, r0, r1, g3⟩
    have g := g.trans g3
    simp
    refine (odd_wp (n := n + 1299) (g.dk.le (by omega))).go ?_
    rintro o s4 ⟨ho, g4⟩
    have g := g.trans g4
    simp
    refine (next_wp (n := n + 1298) (g.dk.le (by omega)) (by omega) (by omega)).go ?_
    rintro _ s5 ⟨r2, rfl, r20, r21, g5⟩
    have g := g.trans g5
    simp
    refine KO_pick (fun d => Ix d) (by split <;> omega) (by simp; split <;> omega) (fun x hx => ?_) fun d hd => ?_
    · simp at hx
      rcases hx with rfl | rfl | rfl | rfl | rfl | rfl
      · exact int_ix
      · exact int_ix
      · exact int_ix
      · exact ⟨rfl, by simp⟩
      · exact ⟨rfl, by simp⟩
      · exact odd_ix ho
    refine (step_wp (n := n + 1200) (g.dk.le (by omega)) (by omega) (by omega)).go ?_
    rintro _ s6 ⟨p, rfl, hpo, g6⟩
    have g := g.trans g6
    simp
    refine (next_wp (n := n + 1199) (g.dk.le (by omega)) (by omega) (by omega)).go ?_
    rintro _ s7 ⟨r3, rfl, r30, r31, g7⟩
    have g := g.trans g7
    simp
    rw [kr1 (by omega)]
    simp
    refine Wp.forR (fun i env s => (∃ v x12, env = [some (.fro (zs.map D.int)), some (.loc 1), some (.int j), some (stepsD ps), some (stepsD qs), some (progD ps), some (progD qs), some (.int ps.length), some (stepsD (ps ++ qs.map (mvS ps.length))), some (.lst [.int r, .int ps.length, .int (-1), .bl true, .non, o]), some d, some v, x12, x13, x14, x15, x16, x17, x18, x19] ∧ Vn (8 + i) v) ∧ Go (n + 1100 + (10 * (2 - i))) s0 s) ⟨⟨_, _, rfl, Stp.vn (by omega) hpo⟩, g.le (by omega)⟩ ?_ ?_
    · rintro i env s hi ⟨⟨v, x12, rfl, hv⟩, g⟩
      simp
      refine (bent_wp (n := n + 1100 + (10 * (2 - (i + 1)))) (g.dk.le (by omega)) hv (by omega) (by omega)).go ?_
      rintro v2 s8 ⟨hv2, g8⟩
      exact ⟨⟨v2, ⟨_, rfl⟩, hv2⟩, g.trans g8⟩
    rintro env s ⟨⟨v, x12, rfl, hv⟩, g⟩
    have hm : 8 + r3.toNat ≤ 12 := by omega
    generalize 8 + r3.toNat = m at hv hm
    have g : Go (n + 1100) s0 s := g.le (by omega)
    rw [kseq_nx]
    refine mid_ok hp hd.ok hv fun a13 a14 => ?_
    have lw : ∀ s, f__law_with [progD ps, d, v] s = .ok (withD ps d v) s := fun s => lwith_ok hp hd.ok hv hm
    have sw : ∀ s, f__law_same 6 [withD ps d v, withD ps d v] s = .ok (.bl true) s := fun s => same_sa 6 4 _ s (withD_sa hp hd hv) (by omega)
    simp [lw, sw]
    rw [kr1N (by omega)]
    have eu : intsD 0 ps.length = (upI ps.length).map .int := ints_up
    rw [eu]
    simp [wipeD]
    refine Wp.lcT D.int (jAt ps) D.int okS0 (upI ps.length) [] (by rw [upI_len]; simp; omega) (fun k hk => ?_) ?_
    · obtain ⟨k0, k1⟩ := upI_mem.mp hk
      obtain ⟨m, rfl⟩ : ∃ m : Nat, k = m := ⟨k.toNat, by omega⟩
      obtain ⟨p, hpm⟩ : ∃ p, ps[m]? = some p := ⟨_, List.getElem?_eq_getElem (by omega)⟩
      have ha : atI (ps.map Stp.d) (m : Int) = some p.d := atI_nat (by rw [List.getElem?_map, hpm]; rfl)
      have eS : ∀ s, opIx (stepsD ps) (.int m) s = .ok p.d s := fun s => Wp.eq (by simp [stepsD, ha])
      refine ⟨_, rfl, ?_, fun _ => by simp⟩
      simp [eS, jAt, hpm]
      cases p <;> simp [Stp.d, isJ]
    rw [List.nil_append, jns_where]
    have lJ := jns_len (ps := ps)
    simp [wipeD]
    refine Wp.lcK (fun i acc s' => (∃ ss : List Int, acc = ss.map .int ∧ ss.length ≤ i) ∧ Go (n + 1000 + (20 - i)) s0 s') ((jns ps).map .int) 0 [] s ?_ ?_ ⟨⟨[], rfl, Nat.le_refl _⟩, g.le (by omega)⟩
    · rintro i d acc s' _ hd ⟨⟨ss, rfl, hl⟩, g⟩
      have hi : i < 8 := by
        have := (List.getElem?_eq_some_iff.mp hd).1
        rw [List.length_map] at this
        omega
      rw [List.getElem?_map] at hd
      obtain ⟨k, _, rfl⟩ := Option.map_eq_some_iff.mp hd
      refine ⟨okS0, _, rfl, ?_⟩
      simp
      refine (next_wp (n := n + 1000 + (20 - (i + 1))) (g.dk.le (by omega)) (by omega) (by omega)).go ?_
      rintro _ s3 ⟨r, rfl, r0, r1, g3⟩
      have g := g.trans g3
      by_cases c0 : r = 0
      · simp [c0]
        refine ⟨by omega, ⟨ss ++ [k], by simp, by simp; omega⟩, g.le (by omega)⟩
      · simp [c0]
        exact ⟨⟨ss, rfl, by omega⟩, g.le (by omega)⟩
    rintro acc s' ⟨⟨S, rfl, lS⟩, g⟩
    have g : Go (n + 1000) s0 s' := g.le (by omega)
    refine ⟨okS0, ?_⟩
    simp
    have fc : ∀ s, fListC [stepsD ps] s = .ok (.loc s.length) (s ++ [Cell.lst (ps.map Stp.d)]) := fun s => rfl
    have cl : (s' ++ [Cell.lst (ps.map Stp.d)])[s'.length]? = some (.lst (ps.map Stp.d)) := cell_last
    have g0 := g.more (Cell.lst (ps.map Stp.d))
    have hL2 := g.len
    simp [fc]
    generalize s' ++ [Cell.lst (ps.map Stp.d)] = s1 at cl g0
    obtain ⟨L, hL⟩ : ∃ L, L = s'.length := ⟨_, rfl⟩
    rw [← hL] at cl ⊢
    refine Wp.for (fun j2 env s => (∃ x17, env = [some (.fro (zs.map D.int)), some (.loc 1), some (.int j), some (stepsD ps), some (stepsD qs), some (progD ps), some (progD qs), some (.int ps.length), some (withD ps d v), some (.tup (S.map .int)), some d, some v, x12, a13, a14, some (.lst ((jns ps).map .int)), some (.loc L), x17, x18, x19]) ∧ Go (n + 1000) s0 s ∧ ∃ qs : List Stp, s[L]? = some (.lst (qs.map Stp.d)) ∧ qs.length = ps.length ∧ ∀ (i : Nat) (p : Stp), ps[i]? = some p → qs[i]? = some (if (i : Int) ∈ (jns ps).take j2 then chg S i p else p)) ⟨⟨_, rfl⟩, g0, ps, cl, rfl, fun i p hp => by simp [hp]⟩ ?_ ?_
    · rintro j2 d2 env s hj ⟨⟨x17, rfl⟩, g, qs, c, el, hq⟩
      rw [List.getElem?_map] at hj
      obtain ⟨z, hz, rfl⟩ := Option.map_eq_some_iff.mp hj
      obtain ⟨i, p, rfl, hpi, hpj⟩ := jns_mem.mp (List.mem_of_getElem? hz)
      have hi := (List.getElem?_eq_some_iff.mp hpi).1
      refine ⟨_, rfl, ?_⟩
      obtain ⟨e, c0, w, rfl⟩ : ∃ e c0 w, p = .join e c0 w := by
        cases p with
        | join e c w => exact ⟨e, c, w, rfl⟩
        | _ => cases hpj
      have ha : ∀ s, opIx (stepsD ps) (.int i) s = .ok (.tup [.str "join", edD e, .bl c0, .str w]) s := fun s => Wp.eq (by
        have : atI (ps.map Stp.d) (i : Int) = some (.tup [.str "join", edD e, .bl c0, .str w]) := atI_nat (by rw [List.getElem?_map, hpi]; rfl)
        simp [stepsD, this])
      simp [ha, oIn_intsT]
      rw [ksub3 (listAt_c c) (ixN_nat (by rw [List.length_map]; omega))]
      simp
      refine ⟨g.putAt (by omega) _, qs.set i (chg S i (.join e c0 w)), ?_, by simpa using el, fun k q hk => ?_⟩
      · rw [cell_set c, List.map_set]
        rfl
      · have e2 : (jns ps).take (j2 + 1) = (jns ps).take j2 ++ [(i : Int)] := by rw [List.take_add_one, hz]; rfl
        rw [e2]
        by_cases ck : k = i
        · subst ck
          rw [hpi] at hk
          cases hk
          rw [List.getElem?_set_self (by omega)]
          simp
        · rw [List.getElem?_set_ne (by omega), hq k q hk]
          have : ((k : Int) ∈ (jns ps).take j2 ++ [(i : Int)]) ↔ (k : Int) ∈ (jns ps).take j2 := by
            rw [List.mem_append]
            simp
            intro hh
            exact absurd (by omega) ck
          simp only [this]
    rintro env s ⟨⟨x17, rfl⟩, g, rs, c, el, hq⟩
    have eq : rs = chk S ps := by
      apply List.ext_getElem?
      intro i
      rw [chk, List.getElem?_mapIdx]
      cases hp : ps[i]? with
      | none =>
        rw [List.getElem?_eq_none_iff] at hp
        rw [Option.map_none, List.getElem?_eq_none_iff]
        omega
      | some p =>
        rw [hq i p hp, Option.map_some]
        congr 1
        rw [List.take_of_length_le (by simp)]
        by_cases c : isJ p = true
        · rw [if_pos (jns_mem.mpr ⟨i, p, rfl, hp, c⟩)]
        · have : chg S i p = p := by cases p <;> first | rfl | exact absurd rfl c
          rw [this, ite_self]
    subst eq
    have pc : ∀ {is : List Int} {n : Nat} {st : Store}, Dk n st → Wp (f_Program_checking [progD ps, .tup (is.map .int)] st) (fun d s => d = progD (chk is ps) ∧ Go n st s) NoX := fun {is n st} hd => pchk_wp (is := is) hp hd
    simp
    refine (pc (is := S) (n := n + 900) (g.dk.le (by omega))).go ?_
    rintro _ s9 ⟨rfl, g9⟩
    have c9 := g9.cell c (by omega)
    have g := g.trans g9
    have st1 : ∀ s, f_Program_steps [progD ps] s = .ok (stepsD ps) s := fun s => steps_ok
    have st2 : ∀ s, f_Program_steps [progD (chk S ps)] s = .ok (stepsD (chk S ps)) s := fun s => steps_ok
    have hc := chk_ok (is := S) hp
    have sl : ∀ s, f__law_same 6 [.lst [stepsD (chk S ps), stepsD ps], .lst [stepsD (chk S ps), stepsD ps]] s = .ok (.bl true) s := fun s => same_self (k := 4) (by simp [steps_sh hc, steps_sh hp]) (by omega)
    have ft : fTup [.loc L] s9 = .ok (stepsD (chk S ps)) s9 := fTup_c c9
    simp [st1, st2, ft, sl]
    exact g.le (by omega)
  · rintro env s ⟨⟨x2, x3, x4, x5, x6, x7, x8, x9, x10, x11, x12, x13, x14, x15, x16, x17, x18, x19, rfl⟩, g⟩
    simp
end K07

set_option maxHeartbeats 0
namespace K07
open PySem PySem.Spec PyProof.Rows L2 DH DL
abbrev R : PySem.W.OpenRow := PySem.W.OpenLaw.row PySem.Challenge.rw_partsjoined_k07_programs_exchanged
abbrev hk : PySem.W.Hook := hookQ 7 fb fnl tabs
def ob (s : PySem.W.SharedT) : AlQ := obsQG 7 fb fnl tabs (HandSHeadRun.getT s)
theorem ob_eq (s : PySem.W.SharedT) : ob s = hk.obs s.abs := obsQG_eq (HandSHeadRun.getT_eq s)
def names : List PySem.Str := [("MAX_PARTS" : PySem.Str), ("MAX_STEPS" : PySem.Str), ("PartsError" : PySem.Str), ("BadProgram" : PySem.Str), ("TooMany" : PySem.Str), ("NoLine" : PySem.Str), ("is_whole" : PySem.Str), ("is_within" : PySem.Str), ("is_index" : PySem.Str), ("is_word" : PySem.Str), ("is_same" : PySem.Str), ("ITEMS" : PySem.Str), ("WHENS" : PySem.Str), ("OUTCOMES" : PySem.Str), ("is_piece" : PySem.Str), ("is_part" : PySem.Str), ("is_edition" : PySem.Str), ("are_outcomes" : PySem.Str), ("lay_error" : PySem.Str), ("join_error" : PySem.Str), ("go_error" : PySem.Str), ("step_error" : PySem.Str), ("moved" : PySem.Str), ("Program" : PySem.Str), ("_law_deck" : PySem.Str), ("_law_next" : PySem.Str), ("_law_same" : PySem.Str), ("_law_whole" : PySem.Str), ("_law_odd" : PySem.Str), ("_law_edition" : PySem.Str), ("_law_outcomes" : PySem.Str), ("_law_step" : PySem.Str), ("_law_usual" : PySem.Str), ("_law_within" : PySem.Str), ("_law_steps" : PySem.Str), ("_law_edited" : PySem.Str), ("_law_reason" : PySem.Str), ("_law_bent" : PySem.Str), ("_law_sum" : PySem.Str), ("_law_with" : PySem.Str), ("_law_moved" : PySem.Str)]
theorem run1 (w : World) : HandSHeadRun.RunEq R (PySem.W.view R.prog [45]) hk ob 3000 names (wf w true) := by
  intro os
  kernel_rfl
theorem run2 (w : World) : HandSHeadRun.RunEq R (PySem.W.view R.prog [45]) hk ob 3000 names (wf w false) := by
  intro os
  kernel_rfl
theorem run (w : World) : HandSHeadRun.RunEq R (PySem.W.view R.prog [45]) hk ob 3000 names w := both (p := fun w => HandSHeadRun.RunEq R (PySem.W.view R.prog [45]) hk ob 3000 names w) run1 run2 w
theorem whole {P : Program} {w : World} {K : PySem.W.Frag} {h : Heap} {mg : Str → Option Value} {fa : Addr} (X : K.In h) (N : h.Ns mainGlobals mg) (hfa : mg ("law" : Str) = some (.ref fa)) (c : SaysQ fb fnl tabs w K) :
    ∃ (fd : FuncData), (∀ (s : Shared) (u : Value), BindsTo s fd ⟨[u], []⟩ [("_law_script", u)]) ∧ ∀ base : Heap, K.In base → base.Ns mainGlobals mg → FnG P w K mg base 11 fa fd ["_law_script"] (spOf (cnOf K) 1 f_law) := by
  have e : fa = d_law.path K := by
    have z := (ok_of X N c).g_law
    exact Value.ref.inj (Option.some.inj (hfa.symm.trans z))
  subst e
  obtain ⟨fd, F⟩ := c.def_ 39 (d := d_law)
  refine ⟨fd, fun s u => ?_, fun base Xb Nb => w_law (ok_of Xb Nb c) c F⟩
  have b : L2.Binds K fd ["_law_script"] [] := F.binds fun _ _ _ _ _ _ us hl => match us, hl with | [_], _ => rfl
  obtain ⟨oc, od, kV, doc, pm, an, cdv, ct, osl, rfl, lk, hcd⟩ := F.ex
  exact BindsTo.of_eq rfl
end K07
open PySem PySem.W PySem.Calls PyProof.Rows
theorem PySem.Challenge.cw_partsjoined_k07_programs_exchanged_holds : PySem.Challenge.rw_partsjoined_k07_programs_exchanged.Holds := by
  w_on; o_law
  refine HandSHeadRun.head_any (r := OpenLaw.row PySem.Challenge.rw_partsjoined_k07_programs_exchanged) (q := view (OpenLaw.row PySem.Challenge.rw_partsjoined_k07_programs_exchanged).prog [45]) (H := K07.hk) (ob := K07.ob) (M := 3000) (loose := K07.names) (d := HandSHeadRun.topDef (OpenLaw.row PySem.Challenge.rw_partsjoined_k07_programs_exchanged).prog 45) (kwd := []) K07.ob_eq
    (by kernel_rfl) (fun s => by kernel_rfl) K07.run (by kernel_rfl) (by kernel_rfl) (by kernel_rfl) (by rfl) (by first | assumption | decide +kernel) (by decide +kernel) ⟨rfl, rfl, rfl, rfl, rfl, by decide +kernel⟩ ?hw ?hc
  case hw => w_witness2
  case hc =>
    refine DL.lawG (l := PySem.Challenge.rw_partsjoined_k07_programs_exchanged) (n := 63) (k := 11) (x := "_law_script") rfl (by decide) (by kernel_rfl) ⟨rfl, by decide, by decide⟩ ?F
    intro w mg fa h Y N hmg0
    obtain ⟨K, X, c⟩ := Y
    have hmg : mg ("law" : PySem.Str) = some (.ref fa) := by
      have e : (HandSHeadRun.topDef (OpenLaw.row PySem.Challenge.rw_partsjoined_k07_programs_exchanged).prog 45).name = ("law" : PySem.Str) := by kernel_rfl
      rw [← e]
      exact hmg0
    obtain ⟨fd, hb, hF⟩ := K07.whole (P := (PySem.Challenge.rw_partsjoined_k07_programs_exchanged).prog) (w := w) X N hmg c
    exact ⟨K, fd, _, X, hb, DL.sp_law (G := DL.cnOf K) (fn := K07.f_law) K07.plain, hF⟩

