import PyProof.Rows.All
import Wide.All
import Open.Line
import PySem.Challenge.RW_xm0593_01
set_option bootstrap.genMatcherCode false

section
set_option backward.match.sparseCases false
open PySem PySem.W PySem.Calls PyProof.Rows
set_option Elab.async false
namespace Mine

noncomputable abbrev pw : Program := PySem.Challenge.pw_xm0593_01
theorem fa_tr {P : Prop} (h : false = true) : P := nomatch h
/-- abstract data -/
inductive D where
  | none | bool (b : Bool) | int (i : Int) | str (s : Str) | ty (n : String)
  | tup (l : List D) | lst (l : List D) | dct (k : List Str) (v : List D)
  | src | noted | rel (k : List Str) (v : List D) | bod (l b : List D)

/-- what stands before the call -/
structure Gl where
  w : World
  hb : Heap
  mg : Str → Option Value
  CR : Addr
  CB : Addr
  mR : Str → Option Value
  mB : Str → Option Value
  /-- the table of the codes within regions_in, and the name of the one in it -/
  ta : Addr
  nq : Str

/-- the addresses of the things that may change: the source, the noted list, the pairs -/
structure Sp where
  sa : Option Addr
  fa : Option Addr
  pa : Option Addr
  ta : Option Addr
noncomputable def Sp.mu (sp : Sp) (a : Addr) : Prop := sp.sa = some a ∨ sp.fa = some a ∨ sp.pa = some a ∨ sp.ta = some a
/-- what they hold -/
structure Mu where
  fnd : List D
  prs : List D

structure Kp (sp : Sp) (h h' : Heap) : Prop where
  keep : ∀ b o, h.get? b = some o → ¬ sp.mu b → h'.get? b = some o
  alive : ∀ b o, h.get? b = some o → ∃ o', h'.get? b = some o'
theorem Kp.refl {sp : Sp} (h : Heap) : Kp sp h h := ⟨fun _ _ e _ => e, fun _ o e => ⟨o, e⟩⟩
theorem Kp.trans {sp : Sp} {h h' h'' : Heap} (x : Kp sp h h') (y : Kp sp h' h'') : Kp sp h h'' := ⟨fun b o e n => y.keep b o (x.keep b o e n) n, fun b o e => let ⟨o', e'⟩ := x.alive b o e; y.alive b o' e'⟩
theorem Kp.of_keep {sp : Sp} {h h' : Heap} (k : ∀ b o, h.get? b = some o → h'.get? b = some o) : Kp sp h h' := ⟨fun b o e _ => k b o e, fun b o e => ⟨o, k b o e⟩⟩
theorem Kp.push {sp : Sp} (h : Heap) (o : Obj) : Kp sp h (h.push o) := .of_keep fun _ _ e => Heap.get?_push_of_some _ e

noncomputable abbrev tupO (vs : List Value) (n : Nat) : Obj := { cls := .type "tuple", data := .seq vs.toArray n }
noncomputable abbrev lstO (vs : List Value) (n : Nat) : Obj := { cls := .type "list", data := .seq vs.toArray n }

/-- a def's parts, found by its name -/
noncomputable def defIn (body : List Stmt) (n : Str) : Arguments × List Stmt × Scope :=
  ((body.filterMap fun st => match st with | .FunctionDef m a b _ _ _ sc .. => some (m, a, b, sc) | _ => Option.none).lookup n).getD (⟨[], [], Option.none, [], [], Option.none, []⟩, [], default)
noncomputable def top : List Stmt := PySem.Challenge.pw_xm0593_01.main.body
noncomputable def notedD : Arguments × List Stmt × Scope := defIn (defIn top (Str.ofString "regions_in")).2.1 (Str.ofString "noted")

/-- the function noted of a call of regions_in: its cell holds the list at a -/
inductive NotedAt (h : Heap) (bad : Addr → Prop) (f a : Addr) : Prop
  | mk (o : Obj) (c cd : Addr) (nm qn : Str) (ct pm doc : Value) (q1 : h.get? f = some o) (q2 : ¬ bad f) (q3 : o.data = .func { name := nm, qualname := qn, params := notedD.1, body := .stmts notedD.2.1, scope := notedD.2.2, globals := mainGlobals, closure := [(Str.ofString "found", c)], defaults := .none, kwdefaults := .none, doc, pyModule := pm, code := .ref cd, closureTuple := ct, builtins := builtinsNs }) (q4 : h.IsCell c (some (.ref a))) (q5 : ¬ bad c) (q6 : h.CodeRec (.ref cd) qn) (q7 : ¬ bad cd)

noncomputable def notedPos : Pos := match ((defIn top (Str.ofString "regions_in")).2.1.getD 1 (.Pass default)) with
  | .FunctionDef _ _ _ _ _ _ _ _ _ p => p
  | _ => default
/-- the table at a: empty yet, or it holds the code of noted -/
inductive TabOk (nq : Str) (bad : Addr → Prop) (h : Heap) (a : Addr) : Prop
  | mk (ps : _) (q1 : h.get? a = some { cls := .none, data := .fields ps }) (q2 : (ps = #[] ∨ ∃ c, ps = #[rawInt notedPos.line, rawInt notedPos.col, .ref c] ∧ ¬ bad c ∧ h.CodeRec (.ref c) nq))
/-- an object whose dict is nobody's to change -/
inductive InstB (h : Heap) (bad : Addr → Prop) (x C : Addr) (mA : Str → Option Value) : Prop
  | mk (o : Obj) (dx : Addr) (q1 : h.get? x = some o) (q2 : o.cls = .ref C) (q3 : (∀ c, o.data ≠ .cls c)) (q4 : o.dict = some dx) (q5 : dx ≠ x) (q6 : h.Ns1 dx mA) (q7 : ¬ bad x) (q8 : ¬ bad dx)
theorem InstB.inst {h : Heap} {bad : Addr → Prop} {x C : Addr} {mA : Str → Option Value} (I : InstB h bad x C mA) : h.Inst x C mA :=
  let ⟨o, dx, a, b, c, d, e, f, _, _⟩ := I; ⟨o, a, b, c, .inr ⟨dx, d, e, f⟩⟩

noncomputable def relM (v : Value) (a : Addr) : Str → Option Value := fun y => if y = Str.ofString "pairs" then some (.ref a) else if y = Str.ofString "varied" then some v else none

mutual
inductive Rep (g : Gl) (sp : Sp) (bad : Addr → Prop) (h : Heap) : Value → D → Prop
  | none : Rep g sp bad h .none .none
  | bool (b : Bool) : Rep g sp bad h (.bool b) (.bool b)
  | int (i : Int) (t : Tok) : Rep g sp bad h (.int i t) (.int i)
  | str (x : Str) (t : Tok) : Rep g sp bad h (.str x t) (.str x)
  | ty (n : String) : Rep g sp bad h (.type n) (.ty n)
  | tup {a : Addr} {vs : List Value} {n : Nat} {ds : List D} : h.get? a = some (tupO vs n) → ¬ bad a → RepAll g sp bad h vs ds → Rep g sp bad h (.ref a) (.tup ds)
  | lst {a : Addr} {vs : List Value} {n : Nat} {ds : List D} : h.get? a = some (lstO vs n) → ¬ bad a → RepAll g sp bad h vs ds → Rep g sp bad h (.ref a) (.lst ds)
  | dct {a : Addr} {ks : List Str} {vs : List Value} {ds : List D} : h.DictOf (strKind pw g.w) a (ks.zip vs) → ¬ bad a → ks.length = vs.length → RepAll g sp bad h vs ds → Rep g sp bad h (.ref a) (.dct ks ds)
  | src {a : Addr} : sp.sa = some a → Rep g sp bad h (.ref a) .src
  | noted {f a : Addr} : sp.fa = some a → NotedAt h bad f a → Rep g sp bad h (.ref f) .noted
  | rel {x a : Addr} {v : Value} {ks : List Str} {ds : List D} : sp.pa = some a → InstB h bad x g.CR (relM v a) → Rep g sp bad h v (.dct ks ds) → Rep g sp bad h (.ref x) (.rel ks ds)
  | bod {x : Addr} {v1 v2 : Value} {m : Str → Option Value} {ls bs : List D} : InstB h bad x g.CB m → m (Str.ofString "locals") = some v1 → m (Str.ofString "blocks") = some v2 → Rep g sp bad h v1 (.lst ls) → Rep g sp bad h v2 (.lst bs) → Rep g sp bad h (.ref x) (.bod ls bs)
inductive RepAll (g : Gl) (sp : Sp) (bad : Addr → Prop) (h : Heap) : List Value → List D → Prop
  | nil : RepAll g sp bad h [] []
  | cons {v d vs ds} : Rep g sp bad h v d → RepAll g sp bad h vs ds → RepAll g sp bad h (v :: vs) (d :: ds)
end

/-- h' is as h wherever it is not bad, and what is bad' there was bad -/
structure Up (bad bad' : Addr → Prop) (h h' : Heap) : Prop where
  keep : ∀ b o, h.get? b = some o → ¬ bad b → h'.get? b = some o
  bad : ∀ b o, h.get? b = some o → bad' b → bad b
theorem Up.no {bad bad' : Addr → Prop} {h h' : Heap} (u : Up bad bad' h h') {a : Addr} {o : Obj} (e : h.get? a = some o) (n : ¬ bad a) : ¬ bad' a := fun q => n (u.bad a o e q)

theorem ns_up {bad bad' : Addr → Prop} {h h' : Heap} (u : Up bad bad' h h') {a : Addr} {m : Str → Option Value} (x : h.Ns a m) (n : ¬ bad a) : h'.Ns a m :=
  let ⟨o, es, ep, e, r⟩ := x; ⟨o, es, ep, u.keep _ _ e n, r⟩
theorem cell_up {bad bad' : Addr → Prop} {h h' : Heap} (u : Up bad bad' h h') {a : Addr} {v : Option Value} (x : h.IsCell a v) (n : ¬ bad a) : h'.IsCell a v ∧ ¬ bad' a :=
  let ⟨o, e, r⟩ := x; ⟨⟨o, u.keep _ _ e n, r⟩, u.no e n⟩
theorem noted_up {bad bad' : Addr → Prop} {h h' : Heap} (u : Up bad bad' h h') {f a : Addr} (x : NotedAt h bad f a) : NotedAt h' bad' f a := by
  obtain ⟨o, c, cd, nm, qn, ct, pm, doc, e, nf, d, hc, nc, ⟨c', o', vs, t, e1, e2, e3, e4⟩, ncd⟩ := x
  cases e1
  have := cell_up u hc nc
  exact ⟨o, c, cd, nm, qn, ct, pm, doc, u.keep _ _ e nf, u.no e nf, d, this.1, this.2, ⟨cd, o', vs, t, rfl, u.keep _ _ e2 ncd, e3, e4⟩, u.no e2 ncd⟩
theorem TabOk.up {nq : Str} {bad bad' : Addr → Prop} {h h' : Heap} {a : Addr} (x : TabOk nq bad h a) (k : ∀ o, h.get? a = some o → h'.get? a = some o) (u : Up bad bad' h h') : TabOk nq bad' h' a := by
  obtain ⟨ps, e, q⟩ := x
  refine ⟨ps, k _ e, q.imp id ?_⟩
  rintro ⟨c, e1, nb, c2, o, vs, t, e2, e3, e4⟩
  cases e2
  exact ⟨c, e1, u.no e3 nb, c, o, vs, t, rfl, u.keep _ _ e3 nb, e4⟩
theorem inst_up {bad bad' : Addr → Prop} {h h' : Heap} (u : Up bad bad' h h') {x C : Addr} {mA : Str → Option Value} (I : InstB h bad x C mA) : InstB h' bad' x C mA := by
  obtain ⟨o, dx, e, c, n, d, ne, ns, nx, nd⟩ := I
  obtain ⟨od, es, ep, e', r⟩ := ns
  exact ⟨o, dx, u.keep _ _ e nx, c, n, d, ne, ⟨od, es, ep, u.keep _ _ e' nd, r⟩, u.no e nx, u.no e' nd⟩

theorem dict_up {g : Gl} {bad bad' : Addr → Prop} {h h' : Heap} (u : Up bad bad' h h') {a : Addr} {kvs : List (Str × Value)} (x : h.DictOf (strKind pw g.w) a kvs) (n : ¬ bad a) : h'.DictOf (strKind pw g.w) a kvs ∧ ¬ bad' a :=
  let ⟨o, es, ep, e, r⟩ := x; ⟨⟨o, es, ep, u.keep _ _ e n, r⟩, u.no e n⟩
theorem Rep.both {g : Gl} {sp : Sp} {bad : Addr → Prop} {h : Heap} {m1 : Value → D → Prop} {m2 : List Value → List D → Prop} (h1 : m1 .none .none) (h2 : ∀ b, m1 (.bool b) (.bool b)) (h3 : ∀ i t, m1 (.int i t) (.int i)) (h4 : ∀ x t, m1 (.str x t) (.str x)) (h5 : ∀ n, m1 (.type n) (.ty n))
    (h6 : ∀ {a vs n ds}, h.get? a = some (tupO vs n) → ¬ bad a → RepAll g sp bad h vs ds → m2 vs ds → m1 (.ref a) (.tup ds)) (h7 : ∀ {a vs n ds}, h.get? a = some (lstO vs n) → ¬ bad a → RepAll g sp bad h vs ds → m2 vs ds → m1 (.ref a) (.lst ds))
    (h8 : ∀ {a} {ks : List Str} {vs ds}, h.DictOf (strKind pw g.w) a (ks.zip vs) → ¬ bad a → ks.length = vs.length → RepAll g sp bad h vs ds → m2 vs ds → m1 (.ref a) (.dct ks ds)) (h9 : ∀ {a}, sp.sa = some a → m1 (.ref a) .src) (h10 : ∀ {f a}, sp.fa = some a → NotedAt h bad f a → m1 (.ref f) .noted)
    (h11 : ∀ {x a : Addr} {v : Value} {ks : List Str} {ds : List D}, sp.pa = some a → InstB h bad x g.CR (relM v a) → Rep g sp bad h v (.dct ks ds) → m1 v (.dct ks ds) → m1 (.ref x) (.rel ks ds))
    (h12 : ∀ {x : Addr} {v1 v2 : Value} {m : Str → Option Value} {ls bs : List D}, InstB h bad x g.CB m → m (Str.ofString "locals") = some v1 → m (Str.ofString "blocks") = some v2 → Rep g sp bad h v1 (.lst ls) → Rep g sp bad h v2 (.lst bs) → m1 v1 (.lst ls) → m1 v2 (.lst bs) → m1 (.ref x) (.bod ls bs))
    (n : m2 [] []) (c : ∀ {v d vs ds}, Rep g sp bad h v d → RepAll g sp bad h vs ds → m1 v d → m2 vs ds → m2 (v :: vs) (d :: ds)) : (∀ {v d}, Rep g sp bad h v d → m1 v d) ∧ (∀ {vs ds}, RepAll g sp bad h vs ds → m2 vs ds) :=
  ⟨fun r => Rep.rec (motive_1 := fun v d _ => m1 v d) (motive_2 := fun vs ds _ => m2 vs ds) h1 h2 h3 h4 h5 h6 h7 h8 h9 h10 h11 h12 n c r,
    fun r => RepAll.rec (motive_1 := fun v d _ => m1 v d) (motive_2 := fun vs ds _ => m2 vs ds) h1 h2 h3 h4 h5 h6 h7 h8 h9 h10 h11 h12 n c r⟩
theorem RepAll.ind {g : Gl} {sp : Sp} {bad : Addr → Prop} {h : Heap} {m2 : List Value → List D → Prop} {vs : List Value} {ds : List D} (r : RepAll g sp bad h vs ds) (n : m2 [] []) (c : ∀ {v d vs ds}, Rep g sp bad h v d → RepAll g sp bad h vs ds → m2 vs ds → m2 (v :: vs) (d :: ds)) : m2 vs ds :=
  (Rep.both (m1 := fun _ _ => True) trivial (fun _ => trivial) (fun _ _ => trivial) (fun _ _ => trivial) (fun _ => trivial) (fun _ _ _ _ => trivial) (fun _ _ _ _ => trivial) (fun _ _ _ _ _ => trivial) (fun _ => trivial) (fun _ _ => trivial) (fun _ _ _ _ => trivial) (fun _ _ _ _ _ _ _ => trivial) n fun a r _ q => c a r q).2 r
section
variable {g : Gl} {sp : Sp} {bad bad' : Addr → Prop} {h h' : Heap} (u : Up bad bad' h h')
include u
theorem rep_ups : (∀ {v d}, Rep g sp bad h v d → Rep g sp bad' h' v d) ∧ (∀ {vs ds}, RepAll g sp bad h vs ds → RepAll g sp bad' h' vs ds) :=
  Rep.both .none .bool .int .str .ty (fun e n _ q => .tup (u.keep _ _ e n) (u.no e n) q) (fun e n _ q => .lst (u.keep _ _ e n) (u.no e n) q) (fun e n ns _ q => .dct (dict_up u e n).1 (dict_up u e n).2 ns q) .src (fun e n => .noted e (noted_up u n))
    (fun e i _ q => .rel e (inst_up u i) q) (fun i e1 e2 _ _ q1 q2 => .bod (inst_up u i) e1 e2 q1 q2) .nil fun _ _ a r => .cons a r
theorem Rep.up {v : Value} {d : D} (r : Rep g sp bad h v d) : Rep g sp bad' h' v d := (rep_ups u).1 r
theorem RepAll.up {vs : List Value} {ds : List D} (r : RepAll g sp bad h vs ds) : RepAll g sp bad' h' vs ds := (rep_ups u).2 r
end
theorem Kp.up {sp : Sp} {bad : Addr → Prop} {h h' : Heap} (k : Kp sp h h') (hm : ∀ a, sp.mu a → bad a) : Up bad bad h h' := ⟨fun b o e n => k.keep b o e fun q => n (hm b q), fun _ _ _ q => q⟩

section
variable {g : Gl} {sp : Sp} {bad : Addr → Prop} {h : Heap}
theorem RepAll.length {vs : List Value} {ds : List D} (r : RepAll g sp bad h vs ds) : vs.length = ds.length := RepAll.ind (m2 := fun vs ds => vs.length = ds.length) r rfl fun _ _ q => congrArg (· + 1) q
theorem RepAll.get {vs : List Value} {ds : List D} {i : Nat} {d : D} (r : RepAll g sp bad h vs ds) : ds[i]? = some d → ∃ v, vs[i]? = some v ∧ Rep g sp bad h v d :=
  RepAll.ind (m2 := fun vs ds => ∀ i : Nat, ds[i]? = some d → ∃ v, vs[i]? = some v ∧ Rep g sp bad h v d) r (fun _ e => nomatch e) (fun a _ q i e => by
    cases i with
    | zero => exact ⟨_, rfl, Option.some.inj e ▸ a⟩
    | succ i => exact q i e) i
theorem RepAll.append {vs ws : List Value} {ds es : List D} (r : RepAll g sp bad h vs ds) (b : RepAll g sp bad h ws es) : RepAll g sp bad h (vs ++ ws) (ds ++ es) :=
  RepAll.ind (m2 := fun vs ds => RepAll g sp bad h (vs ++ ws) (ds ++ es)) r b fun a _ q => .cons a q
theorem RepAll.take {vs : List Value} {ds : List D} (r : RepAll g sp bad h vs ds) (n : Nat) : RepAll g sp bad h (vs.take n) (ds.take n) :=
  RepAll.ind (m2 := fun vs ds => ∀ n, RepAll g sp bad h (vs.take n) (ds.take n)) r (fun n => by rw [List.take_nil, List.take_nil]; exact .nil) (fun a _ q n => by
    cases n with
    | zero => exact .nil
    | succ n => exact .cons a (q n)) n
end

mutual
noncomputable def D.py : D → PyData
  | .none => .none | .bool b => .bool b | .int i => .int i | .str s => .str s
  | .tup l => .tuple (pys l) | .lst l => .list (pys l)
  | _ => .none
noncomputable def pys : List D → List PyData
  | [] => []
  | d :: r => d.py :: pys r
end
mutual
noncomputable def D.ok : D → Bool
  | .none => true | .bool _ => true | .int _ => true | .str s => PyData.strOk s
  | .tup l => oks l | .lst l => oks l
  | _ => false
noncomputable def oks : List D → Bool
  | [] => true
  | d :: r => d.ok && oks r
end
theorem rep_reads {g : Gl} {sp : Sp} {bad : Addr → Prop} {h : Heap} : (∀ {v d}, Rep g sp bad h v d → d.ok = true → ∃ as, Reads h v d.py as) ∧ (∀ {vs ds}, RepAll g sp bad h vs ds → oks ds = true → ∃ as, ReadsAll h vs (pys ds) as) :=
  Rep.both (fun _ => ⟨_, .none⟩) (fun b _ => ⟨_, .bool b⟩) (fun i t _ => ⟨_, .int i t⟩) (fun x t _ => ⟨_, .str x t⟩) (fun _ k => fa_tr k) (fun e _ _ q k => let ⟨as, q⟩ := q k; ⟨as, reads_tuple_at e rfl rfl (by simpa using q)⟩)
    (fun e _ _ q k => let ⟨as, q⟩ := q k; ⟨_, reads_list_at e rfl rfl (by simpa using q)⟩) (fun _ _ _ _ _ k => fa_tr k) (fun _ k => fa_tr k) (fun _ _ k => fa_tr k) (fun _ _ _ _ k => fa_tr k) (fun _ _ _ _ _ _ _ k => fa_tr k) (fun _ => ⟨_, .nil⟩)
    fun _ _ a r k => let ⟨as, q⟩ := a (Bool.and_eq_true_iff.mp k).1; let ⟨bs, p⟩ := r (Bool.and_eq_true_iff.mp k).2; ⟨_, .cons q p⟩
theorem Rep.reads {g : Gl} {sp : Sp} {bad : Addr → Prop} {h : Heap} {v : Value} {d : D} (r : Rep g sp bad h v d) (k : d.ok = true) : ∃ as, Reads h v d.py as := rep_reads.1 r k
theorem RepAll.reads {g : Gl} {sp : Sp} {bad : Addr → Prop} {h : Heap} {vs : List Value} {ds : List D} (r : RepAll g sp bad h vs ds) (k : oks ds = true) : ∃ as, ReadsAll h vs (pys ds) as := rep_reads.2 r k
mutual
theorem D.lay0 {d : D} (k : d.ok = true) : d.py.canLay0 = true := by
  cases d with
  | none => rfl
  | bool _ => rfl
  | int _ => rfl
  | str _ => exact k
  | tup l => exact lays0 (l := l) k
  | lst l => exact lays0 (l := l) k
  | _ => exact fa_tr k
theorem lays0 {l : List D} (k : oks l = true) : PyData.canLayAll0 (pys l) = true := by
  cases l with
  | nil => rfl
  | cons d r =>
    have k := Bool.and_eq_true_iff.mp (show (d.ok && oks r) = true from k)
    exact Bool.and_eq_true_iff.mpr ⟨D.lay0 k.1, lays0 k.2⟩
end
end Mine
end

section
set_option backward.match.sparseCases false
open PySem PySem.W PySem.Calls PyProof.Rows
set_option Elab.async false
namespace Mine

/-- a frame: its scope, its names, its own lists that may grow -/
structure Fm where
  sc : Scope
  loc : List (Str × D)
  own : List (Str × List D)
noncomputable def setL {α : Type} : List (Str × α) → Str → α → List (Str × α)
  | [], x, d => [(x, d)]
  | (y, e) :: r, x, d => match y == x with | true => (x, d) :: r | false => (y, e) :: setL r x d
noncomputable def delL {α : Type} : List (Str × α) → Str → List (Str × α)
  | [], _ => []
  | (y, e) :: r, x => match y == x with | true => delL r x | false => (y, e) :: delL r x
noncomputable def Fm.set (f : Fm) (x : Str) (d : D) : Fm := { f with loc := setL f.loc x d, own := delL f.own x }
noncomputable def Fm.setO (f : Fm) (x : Str) (l : List D) : Fm := { f with loc := delL f.loc x, own := setL f.own x l }
noncomputable def Fm.frz (f : Fm) : List Str → Fm
  | [] => f
  | x :: r => match f.own.lookup x with
    | some l => (f.set x (.lst l)).frz r
    | none => f.frz r

noncomputable abbrev KE := D → Mu → Prop
structure Ev where
  E : Expr → Fm → Mu → KE → Prop
  T : Expr → Fm → Mu → (Bool → Mu → Prop) → Prop
noncomputable abbrev Phi := Str → List D → Mu → KE → Prop

noncomputable def forceL {α : Type} : List (Str × α) → (List (Str × α) → Prop) → Prop
  | [], K => K []
  | (x, d) :: r, K => forceL r fun r' => K ((x, d) :: r')
noncomputable def forceF (f : Fm) (K : Fm → Prop) : Prop := match f with
  | ⟨sc, loc, own⟩ => forceL loc fun l => forceL own fun o => K ⟨sc, l, o⟩
theorem forceL_eq {α : Type} : ∀ (l : List (Str × α)) (K : List (Str × α) → Prop), forceL l K = K l
  | [], _ => rfl
  | (_, _) :: r, _ => forceL_eq r _
theorem forceF_eq (f : Fm) (K : Fm → Prop) : forceF f K = K f := by
  obtain ⟨sc, loc, own⟩ := f
  show forceL loc _ = _
  rw [forceL_eq, forceL_eq]
noncomputable def optP {α : Type} (o : Option α) (P : Prop) (Q : α → Prop) : Prop := match o with
  | some x => Q x
  | none => P
theorem forceF_mp {f : Fm} {K : Fm → Prop} (h : forceF f K) : K f := forceF_eq f K ▸ h
/-- an expression that is no *x, no slice, no set -/
noncomputable def asName (e : Expr) : Option Str := match e with
  | .Name x _ => some x
  | _ => none
noncomputable def asTup (e : Expr) : Option (List Expr) := match e with
  | .Tuple es _ _ => some es
  | _ => none
noncomputable def asList (e : Expr) : Option (List Expr) := match e with
  | .List es _ => some es
  | _ => none
noncomputable def asStr (e : Expr) : Option Str := match e with
  | .Constant c _ _ => (match c with | .str s => some s | _ => none)
  | _ => none
noncomputable def strOf (e : Option Expr) : Option Str := match e with
  | some e => asStr e
  | none => none
noncomputable def okN (x : Str) : Bool := !(x == Str.ofString "__debug__") && !(x == Str.ofString "__classdict__") && !(x == Str.ofString "__name__")
noncomputable def guardO {α : Type} (b : Bool) (o : Option α) : Option α := match b with
  | true => o
  | false => none
noncomputable def one1 {α : Type} (l : List α) : Option α := match l with
  | [] => none
  | a :: r => match r with
    | [] => some a
    | _ :: _ => none
/-- x.pairs -/
noncomputable def asAttr (e : Expr) : Option (Expr × Str × Pos) := match e with
  | .Attribute o m p => some (o, m, p)
  | _ => none
noncomputable def asCall (e : Expr) : Option (Expr × List Expr × List Keyword × Pos) := match e with
  | .Call fn as ks p => some (fn, as, ks, p)
  | _ => none
noncomputable def asPrs (e : Expr) : Option Str := (asAttr e).bind fun q => (asName q.1).bind fun x => guardO (okN x && q.2.1 == Str.ofString "pairs") (some x)
/-- x(a) -/
noncomputable def call1 (e : Expr) : Option (Str × Expr) := (asCall e).bind fun q => (asName q.1).bind fun x => (one1 q.2.1).bind fun a => guardO q.2.2.1.isEmpty (some (x, a))
noncomputable def pl : Expr → Bool
  | .Starred .. => false | .Slice .. => false | .Set .. => false | _ => true
noncomputable def allE (r : Ev) : List Expr → Fm → Mu → (List D → Mu → Prop) → Prop
  | [], _, M, K => K [] M
  | e :: es, f, M, K => r.E e f M fun d M1 => allE r es f M1 fun ds M2 => K (d :: ds) M2
noncomputable def plAll (es : List Expr) : Bool := es.all pl && Nat.ble es.length 1000

noncomputable def constP (c : Const) (M : Mu) (K : KE) : Prop := match c with
  | .none => K .none M
  | .bool b => K (.bool b) M
  | .int i => K (.int i) M
  | .str s => K (.str s) M
  | _ => False
noncomputable def nameP (f : Fm) (x : Str) (M : Mu) (K : KE) : Prop := match okN x with
  | false => False
  | true => match f.loc.lookup x with
    | some d => K d M
    | none => match f.sc.names.lookup x, x == Str.ofString "int" with
      | some .globalImplicit, true => K (.ty "int") M
      | _, _ => False
noncomputable def seqOf : D → Option (List D)
  | .tup l => some l
  | .lst l => some l
  | _ => none
/-- a demand beside what comes -/
noncomputable def withSide (s : Option Prop) : Prop → Prop := match s with
  | none => fun q => q
  | some p => fun q => p ∧ q
noncomputable def intBin (op : Operator) (a b : Int) : Option (Option Prop × D) := match op with
  | .Add => some (none, .int (a + b))
  | .Sub => some (none, .int (a - b))
  | .Mult => some (some (IntMulOk a b), .int (a * b))
  | .Mod => some (some (b ≠ 0), .int (a.fmod b))
  | .FloorDiv => some (some (b ≠ 0 ∧ b.natAbs < 1073741824), .int (a.fdiv b))
  | .Pow => some (some (0 ≤ b ∧ b ≤ 1000000 ∧ a.natAbs < 2 ^ 64), .int (a ^ b.toNat))
  | _ => none
noncomputable def seqBin (op : Operator) (mk : List D → D) (a b : List D) : Option (Option Prop × D) := match op with
  | .Add => some (some (a.length + b.length ≤ 100000), mk (a ++ b))
  | _ => none
noncomputable def binV (op : Operator) (a b : D) : Option (Option Prop × D) := match a with
  | .int a => (match b with | .int b => intBin op a b | _ => none)
  | .lst a => (match b with | .lst b => seqBin op .lst a b | _ => none)
  | .tup a => (match b with | .tup b => seqBin op .tup a b | _ => none)
  | _ => none
noncomputable def binP (op : Operator) (a b : D) (K : D → Prop) : Prop := match binV op a b with
  | some (s, d) => withSide s (K d)
  | none => False
noncomputable def idx (l : List D) (k : Int) : Option D := if -(2 ^ 63) ≤ k ∧ k < 2 ^ 63 then (seqIndex? k l.length).bind (l[·]?) else none
noncomputable def getK (ks : List Str) (vs : List D) (x : Str) : Option D := match ks, vs with
  | k :: ks, v :: vs => match k == x with | true => some v | false => getK ks vs x
  | _, _ => none
/-- what stands in the source -/
noncomputable def srcAt (k : Int) (K : D → Prop) : Prop := match k with
  | .ofNat 0 => ∀ x : Int, 0 ≤ x → K (.int x)
  | .ofNat 1 => ∀ y : Int, 0 ≤ y → y < 2147483647 → K (.int y)
  | _ => False
/-- what may be put into the source -/
noncomputable def srcTo (k z : Int) : Prop := match k with
  | .ofNat 0 => 0 ≤ z
  | .ofNat 1 => 0 ≤ z ∧ z < 2147483647
  | _ => False
noncomputable def subV (d i : D) : Option D := match d with
  | .tup l => (match i with | .int k => idx l k | _ => none)
  | .lst l => (match i with | .int k => idx l k | _ => none)
  | .dct ks vs => (match i with | .str x => getK ks vs x | _ => none)
  | _ => none
noncomputable def subP (d i : D) (K : D → Prop) : Prop := match subV d i with
  | some x => K x
  | none => False
/-- what == may be asked of -/
noncomputable def eqOk (a b : D) : Prop := a.ok = true ∧ b.ok = true ∧ a.py.depth ≤ 40 ∧ b.py.depth ≤ 40
noncomputable def eqS (a b : D) : Option Prop := match a with
  | .str _ => (match b with | .str _ => none | _ => some (eqOk a b))
  | .int _ => (match b with | .int _ => none | _ => some (eqOk a b))
  | _ => some (eqOk a b)
noncomputable def eqV (a b : D) : Bool := match a with
  | .str x => (match b with | .str y => x == y | _ => PyData.eqv a.py b.py)
  | .int x => (match b with | .int y => x == y | _ => PyData.eqv a.py b.py)
  | _ => PyData.eqv a.py b.py
noncomputable def eqP (a b : D) (K : Bool → Prop) : Prop := withSide (eqS a b) (K (eqV a b))
noncomputable def inP (a : D) (l : List D) (K : Bool → Prop) : Prop := eqOk a (.lst l) ∧ K ((pys l).any fun y => PyData.eqv y a.py)
noncomputable def intP (a b : D) (K : Int → Int → Prop) : Prop := match a with
  | .int i => (match b with | .int j => K i j | _ => False)
  | _ => False
noncomputable def cmpP (op : CmpOp) (a b : D) (K : Bool → Prop) : Prop := match op with
  | .Eq => eqP a b K
  | .NotEq => eqP a b fun c => K (!c)
  | .Lt => intP a b fun a b => K (decide (a < b))
  | .Gt => intP a b fun a b => K (decide (b < a))
  | .GtE => intP a b fun a b => K (decide (b ≤ a))
  | .In => optP (seqOf b) False fun l => inP a l K
  | .NotIn => optP (seqOf b) False fun l => inP a l fun c => K (!c)
  | _ => False

/-- x, a list that grows -/
noncomputable def ownAt (f : Fm) (e : Expr) : Option (Str × List D) := (asName e).bind fun x => guardO (okN x) ((f.own.lookup x).bind fun l => some (x, l))
noncomputable def isNotIn (op : CmpOp) : Bool := match op with | .NotIn => true | _ => false
noncomputable def isEq (op : CmpOp) : Bool := match op with | .Eq => true | _ => false
/-- the pairs of a relation on the left -/
noncomputable def prsAt (op : CmpOp) (e : Expr) : Option Str := match isEq op with
  | true => asPrs e
  | false => none
noncomputable def isRel : Option D → Bool
  | some (.rel ..) => true
  | _ => false
/-- «.. not in x.pairs» -/
noncomputable def prsIn (f : Fm) (e : Expr) : Bool := match asPrs e with
  | some x => isRel (f.loc.lookup x)
  | none => false
noncomputable def relP (o : Option D) (P : Prop) : Prop := match isRel o with
  | true => P
  | false => False
noncomputable def ninP (r : Ev) (a : D) (e : Expr) (f : Fm) (M : Mu) (K : Bool → Mu → Prop) (N : Prop) : Prop :=
  optP (ownAt f e) (match prsIn f e with
    | true => inP a M.prs fun c => K (!c) M
    | false => N) fun q => match q with | (_, l) => inP a l fun c => K (!c) M
noncomputable def cmpE (r : Ev) (l : Expr) (op : CmpOp) (e : Expr) (f : Fm) (M : Mu) (K : Bool → Mu → Prop) : Prop := match pl e with
  | false => False
  | true => optP (prsAt op l) (r.E l f M fun a M1 => match isNotIn op with
      | true => ninP r a e f M1 K (r.E e f M1 fun b M2 => cmpP op a b fun c => K c M2)
      | false => r.E e f M1 fun b M2 => cmpP op a b fun c => K c M2)
    fun x => match isRel (f.loc.lookup x) with
      | true => r.E e f M fun b M1 => eqP (.lst M1.prs) b fun c => K c M1
      | false => False

inductive Blt where | len | tuple | max | isinstance
noncomputable def bltOf (x : Str) : Option Blt := ([(Str.ofString "len", Blt.len), (Str.ofString "tuple", .tuple), (Str.ofString "max", .max), (Str.ofString "isinstance", .isinstance)] : List (Str × Blt)).lookup x
noncomputable def intsOf : List D → Option (List Int)
  | [] => some []
  | .int i :: r => (intsOf r).map (i :: ·)
  | _ => none
noncomputable def isI : D → Option Bool
  | .int _ => some true
  | .str _ => some false
  | .none => some false
  | _ => none
noncomputable def tupR (d : D) : Option (Option Prop × D) := match d with
  | .lst l => some (some (l.length ≤ 100000), .tup l)
  | .tup l => some (none, .tup l)
  | _ => none
noncomputable def maxR (d : D) : Option (Option Prop × D) := match d with
  | .lst l => (match intsOf l with
    | some is => (match is with | i :: is => some (none, .int (is.foldl max i)) | [] => none)
    | none => none)
  | _ => none
noncomputable def isR (d t : D) : Option (Option Prop × D) := match t with
  | .ty n => (isI d).map fun c => (some (n = "int"), .bool c)
  | _ => none
noncomputable def bltR (b : Blt) (ds : List D) : Option (Option Prop × D) := match ds with
  | [d] => (match b with
    | .len => (seqOf d).map fun l => (some (l.length ≤ 100000), .int l.length)
    | .tuple => tupR d
    | .max => maxR d
    | .isinstance => none)
  | [d, t] => (match b with | .isinstance => isR d t | _ => none)
  | _ => none
noncomputable def bltP (b : Blt) (ds : List D) (K : D → Prop) : Prop := match bltR b ds with
  | some (s, d) => withSide s (K d)
  | none => False
/-- what a global name that is called stands for -/
inductive Kd where | blt (b : Blt) | fn | cls
noncomputable def fnNames : List Str := [Str.ofString "parts_of", Str.ofString "rebuilt", Str.ofString "with_regions", Str.ofString "regions_in", Str.ofString "inner_way", Str.ofString "rvalue_regions", Str.ofString "callee_regions", Str.ofString "greatest_region",
  Str.ofString "_law_pool", Str.ofString "_law_take", Str.ofString "_law_one", Str.ofString "_law_region", Str.ofString "_law_type", Str.ofString "_law_kept", Str.ofString "_law_beside", Str.ofString "_law_met", Str.ofString "_law_pairs_of", Str.ofString "_law_reference",
  Str.ofString "_law_structs_right", Str.ofString "_law_pairs_right", Str.ofString "_law_rvalue", Str.ofString "_law_callee", Str.ofString "_law_body_right", Str.ofString "_law_told_right"]
noncomputable def kdOf (x : Str) : Option Kd := match bltOf x with
  | some b => some (.blt b)
  | none => match fnNames.contains x with
    | true => some .fn
    | false => match x == Str.ofString "Relation" || x == Str.ofString "Body" with | true => some .cls | false => none
noncomputable def callG (Φ : Phi) (r : Ev) (x : Str) (as : List Expr) (f : Fm) (M : Mu) (K : KE) : Prop := match kdOf x with
  | some (.blt b) => allE r as f M fun ds M1 => bltP b ds fun d => K d M1
  | some .fn => allE r as f M fun ds M1 => Φ x ds M1 K
  | some .cls => match as with
    | [] => False
    | e :: es => allE r (e :: es) f M fun ds M1 => Φ x ds M1 K
  | none => False
noncomputable def methNames : List Str := [Str.ofString "outlives", Str.ofString "region", Str.ofString "below", Str.ofString "parts_below"]
noncomputable def isName (e : Expr) : Bool := (asName e).isSome
noncomputable def callE (Φ : Phi) (r : Ev) (fn : Expr) (as : List Expr) (pos : Pos) (f : Fm) (M : Mu) (K : KE) : Prop := match fn with
  | .Name x _ => match okN x with | false => False | true => match f.loc.lookup x with
    | some .noted => match as with
      | [e] => match pl e with | false => False | true => r.E e f M fun d M1 => M1.fnd.length ≤ 10000 ∧ K d { M1 with fnd := M1.fnd ++ [d] }
      | _ => False
    | some _ => False
    | none => match f.sc.names.lookup x with
      | some .globalImplicit => (match plAll as with | true => callG Φ r x as f M K | false => False)
      | _ => False
  | .Attribute o m apos => match isName o && apos.endLine == pos.line && Nat.blt as.length 20 && methNames.contains m && plAll as with
    | true => r.E o f M fun d M1 => match d with
      | .rel ks vs => allE r as f M1 fun ds M2 => Φ m (.rel ks vs :: ds) M2 K
      | _ => False
    | false => False
  | _ => False
noncomputable def attrP (d : D) (a : Str) (K : D → Prop) : Prop := match d with
  | .rel ks vs => match a == Str.ofString "varied" with | true => K (.dct ks vs) | false => False
  | .bod l b => match a == Str.ofString "locals" with
    | true => K (.lst l)
    | false => match a == Str.ofString "blocks" with | true => K (.lst b) | false => False
  | _ => False
/-- is it the source? -/
noncomputable def isSrc : Option D → Bool
  | some .src => true
  | _ => false
noncomputable def srcIs (f : Fm) (e : Expr) : Bool := match asName e with
  | some x => isSrc (f.loc.lookup x)
  | none => false
noncomputable def srcP (d k : D) (K : D → Prop) : Prop := match d with
  | .src => (match k with | .int j => srcAt j K | _ => False)
  | _ => False
noncomputable def subE (r : Ev) (v i : Expr) (f : Fm) (M : Mu) (K : KE) : Prop := match pl i with
  | false => False
  | true => optP (ownAt f v) (match srcIs f v with
      | true => r.E v f M fun d M1 => r.E i f M1 fun k M2 => srcP d k fun x => K x M2
      | false => r.E v f M fun d M1 => r.E i f M1 fun k M2 => subP d k fun x => K x M2)
    fun q => match q with | (_, l) => r.E i f M fun k M1 => subP (.lst l) k fun d => K d M1
noncomputable def keysOf : List (Option Expr) → Option (List Str)
  | [] => some []
  | k :: r => (strOf k).bind fun s => (keysOf r).bind fun l => some (s :: l)
noncomputable def nodupS : List Str → Bool
  | [] => true
  | x :: r => !r.contains x && nodupS r
noncomputable def dictP (r : Ev) (ks : List (Option Expr)) (vs : List Expr) (f : Fm) (M : Mu) (K : KE) : Prop :=
  optP (keysOf ks) False fun xs => match nodupS xs && xs.length == vs.length && Nat.ble xs.length 8 with
    | true => allE r vs f M fun ds M1 => K (.dct xs ds) M1
    | false => False

-- targets
noncomputable def isLoc (k : Option NameKind) : Bool := match k with
  | some k => (match k with | .local => true | _ => false)
  | none => false
mutual
noncomputable def bindT (fuel : Nat) (t : Expr) (d : D) (f : Fm) (K : Fm → Prop) : Prop := match fuel with
  | 0 => False
  | n + 1 => match t with
    | .Name x _ => match isLoc (f.sc.names.lookup x) with | true => K (f.set x d) | false => False
    | .Tuple ts _ _ => optP (seqOf d) False fun ds => match ts.length == ds.length && ts.all pl with | true => bindTs n ts ds f K | false => False
    | _ => False
noncomputable def bindTs (fuel : Nat) (ts : List Expr) (ds : List D) (f : Fm) (K : Fm → Prop) : Prop := match fuel with
  | 0 => False
  | n + 1 => match ts with
    | [] => (match ds with
      | [] => K f
      | _ :: _ => False)
    | t :: ts => (match ds with
      | [] => False
      | d :: ds => bindT n t d f fun f1 => bindTs n ts ds f1 K)
end

noncomputable def testsP (r : Ev) : List Expr → Fm → Mu → (Bool → Mu → Prop) → Prop
  | [], _, M, K => K true M
  | [e], f, M, K => r.T e f M K
  | _, _, _, _ => False
noncomputable def rangeFrom (a : Int) : Nat → List D
  | 0 => []
  | n + 1 => .int a :: rangeFrom (a + 1) n
noncomputable def enumFrom (a : Int) : List D → List D
  | [] => []
  | d :: r => .tup [.int a, d] :: enumFrom (a + 1) r
noncomputable def isTup (e : Expr) : Bool := (asTup e).isSome
noncomputable def seqP (d : D) (K : List D → Prop) : Prop := optP (seqOf d) False fun l => l.length ≤ 100000 ∧ K l
noncomputable def plainP (r : Ev) (e : Expr) (f : Fm) (M : Mu) (K : List D → Mu → Prop) : Prop := match pl e with
  | true => r.E e f M fun d M1 => seqP d fun l => K l M1
  | false => False
noncomputable def isGI (k : Option NameKind) : Bool := match k with
  | some k => (match k with | .globalImplicit => true | _ => false)
  | none => false
/-- what a for goes over: range(e), or a list or tuple -/
noncomputable def iterP (r : Ev) (e : Expr) (f : Fm) (M : Mu) (K : List D → Mu → Prop) : Prop :=
  optP (call1 e) (plainP r e f M K) fun q => match q with
    | (x, a) => match isGI (f.sc.names.lookup x) && (x == Str.ofString "range" && pl a) with
      | true => r.E a f M fun d M1 => match d with | .int k => (0 ≤ k ∧ k ≤ 100000) ∧ K (rangeFrom 0 k.toNat) M1 | _ => False
      | false => plainP r e f M K
mutual
noncomputable def tnm : Nat → Expr → List Str
  | 0, _ => []
  | n + 1, e => match e with | .Name x _ => [x] | .Tuple ts _ _ => tnmS n ts | _ => []
noncomputable def tnmS : Nat → List Expr → List Str
  | 0, _ => []
  | n + 1, es => match es with | [] => [] | t :: ts => tnm n t ++ tnmS n ts
end
noncomputable def freshT (t : Expr) (f : Fm) : Bool := (tnm 8 t).all fun x => (f.loc.lookup x).isNone
noncomputable abbrev CK := Mu → List D → (List D → Mu → Prop) → Prop
noncomputable def compL (body : Fm → CK) (r : Ev) (t : Expr) (ifs : List Expr) (f : Fm) : List D → CK
  | [], M, acc, K => K acc M
  | x :: xs, M, acc, K => bindT 8 t x f fun f0 => forceF f0 fun f1 => testsP r ifs f1 M fun b M1 => match b with
    | true => body f1 M1 acc fun acc2 M2 => compL body r t ifs f xs M2 acc2 K
    | false => compL body r t ifs f xs M1 acc K
noncomputable def compG (body : Fm → CK) (r : Ev) (t : Expr) (ifs : List Expr) (f : Fm) (xs : List D) : CK := fun M acc K => match freshT t f with
  | true => compL body r t ifs f xs M acc K
  | false => False
noncomputable def compOk (sc : Scope) (f : Fm) : Bool := sc.kind == .function && sc.names.all fun p => match p.2 with
  | .free => (f.loc.lookup p.1).isSome && (match f.sc.names.lookup p.1 with | some .cell => true | some .free => true | _ => false)
  | .cell => false
  | .local => sc.names.lookup p.1 == some .local
  | _ => true
noncomputable def compF (sc : Scope) (f : Fm) : Fm := { sc := sc, loc := f.loc.filter fun p => sc.names.lookup p.1 == some .free, own := [] }
noncomputable def lastB (r : Ev) (elt : Expr) : Fm → CK := fun f1 M1 acc K1 => r.E elt f1 M1 fun d M2 => acc.length ≤ 100000 ∧ K1 (acc ++ [d]) M2
noncomputable def comp1 (r : Ev) (elt : Expr) (g : Comprehension) (sc : Scope) (f : Fm) (M : Mu) (K : KE) : Prop := match g with
  | ⟨t, it, ifs, k⟩ => match k == 0 with
    | true => iterP r it f M fun xs M1 => compG (lastB r elt) r t ifs (compF sc f) xs M1 [] fun acc M2 => K (.lst acc) M2
    | false => False
noncomputable def comp2 (r : Ev) (elt : Expr) (g g2 : Comprehension) (sc : Scope) (f : Fm) (M : Mu) (K : KE) : Prop := match g with
  | ⟨t, it, ifs, k⟩ => match ifs with
    | _ :: _ => False
    | [] => match k == 0 with
      | false => False
      | true => match g2 with
        | ⟨t2, it2, ifs2, k2⟩ => match ifs2 with
          | _ :: _ => False
          | [] => match k2 == 0 with
            | false => False
            | true => iterP r it f M fun xs M1 =>
              compG (fun f1 M1 acc K1 => iterP r it2 f1 M1 fun ys M2 => compG (lastB r elt) r t2 [] f1 ys M2 acc K1) r t [] (compF sc f) xs M1 [] fun acc M2 => K (.lst acc) M2
noncomputable def compE (r : Ev) (elt : Expr) (gens : List Comprehension) (sc : Scope) (f : Fm) (M : Mu) (K : KE) : Prop := match compOk sc f with
  | false => False
  | true => match gens with
    | [] => False
    | g :: gs => match gs with
      | [] => comp1 r elt g sc f M K
      | g2 :: gs => match gs with
        | [] => comp2 r elt g g2 sc f M K
        | _ :: _ => False

noncomputable def stepE (Φ : Phi) (r : Ev) : Expr → Fm → Mu → KE → Prop
  | .Constant c _ _, _, M, K => constP c M K
  | .Name x _, f, M, K => nameP f x M K
  | .BoolOp op es _, f, M, K => match op, es with
    | .And, [a, b] => r.E a f M fun d M1 => match d with | .bool c => (match c with | true => r.E b f M1 K | false => K (.bool false) M1) | _ => False
    | _, _ => False
  | .BinOp l op e _, f, M, K => r.E l f M fun a M1 => r.E e f M1 fun b M2 => binP op a b fun d => K d M2
  | .UnaryOp op x _, f, M, K => match op with
    | .USub => r.E x f M fun d M1 => match d with | .int i => K (.int (-i)) M1 | _ => False
    | _ => False
  | .IfExp t b o _, f, M, K => r.T t f M fun c M1 => match c with | true => r.E b f M1 K | false => r.E o f M1 K
  | .Dict ks vs _, f, M, K => dictP r ks vs f M K
  | .List es _, f, M, K => match plAll es with | true => allE r es f M fun ds M1 => K (.lst ds) M1 | false => False
  | .Tuple es _ _, f, M, K => match plAll es with | true => allE r es f M fun ds M1 => K (.tup ds) M1 | false => False
  | .ListComp elt gens sc _, f, M, K => compE r elt gens sc f M K
  | .Compare l ops rs _, f, M, K => match ops, rs with
    | [op], [e] => cmpE r l op e f M fun c M1 => K (.bool c) M1
    | _, _ => False
  | .Call fn as ks pos, f, M, K => match ks with | [] => callE Φ r fn as pos f M K | _ => False
  | .Attribute v a _, f, M, K => match isName v with | true => r.E v f M fun d M1 => attrP d a fun x => K x M1 | false => False
  | .Subscript v i _, f, M, K => subE r v i f M K
  | _, _, _, _ => False
noncomputable def andT (r : Ev) : List Expr → Fm → Mu → (Bool → Mu → Prop) → Prop
  | [], _, M, K => K true M
  | e :: es, f, M, K => r.T e f M fun c M1 => match c with | true => andT r es f M1 K | false => K false M1
noncomputable def orT (r : Ev) : List Expr → Fm → Mu → (Bool → Mu → Prop) → Prop
  | [], _, M, K => K false M
  | e :: es, f, M, K => r.T e f M fun c M1 => match c with | true => K true M1 | false => orT r es f M1 K
noncomputable def stepT (r : Ev) (e : Expr) (f : Fm) (M : Mu) (K : Bool → Mu → Prop) : Prop := match e with
  | .UnaryOp .Not x _ => r.T x f M fun c M1 => K (!c) M1
  | .BoolOp op es _ => match op with | .And => andT r es f M K | .Or => orT r es f M K
  | .Compare l ops rs _ => match ops, rs with
    | [op], [e] => cmpE r l op e f M K
    | _, _ => False
  | .Call .. => r.E e f M fun d M1 => match d with | .bool c => K c M1 | _ => False
  | .Subscript .. => r.E e f M fun d M1 => match d with | .bool c => K c M1 | _ => False
  | _ => False
noncomputable def ev (Φ : Phi) : Nat → Ev
  | 0 => ⟨fun _ _ _ _ => False, fun _ _ _ _ => False⟩
  | n + 1 => ⟨stepE Φ (ev Φ n), stepT (ev Φ n)⟩

inductive Fl where | next | ret (d : D)
noncomputable abbrev KS := Fl → Fm → Mu → Prop

/-- the names read in an expression (not as the base of a subscript) -/
noncomputable def nms : Nat → Expr → List Str
  | 0, _ => []
  | n + 1, e => match e with
    | .Name x _ => [x]
    | .BinOp l _ r _ => nms n l ++ nms n r
    | .Tuple es _ _ => es.flatMap (nms n)
    | .List es _ => es.flatMap (nms n)
    | .Call _ as _ _ => as.flatMap (nms n)
    | .Compare l _ rs _ => nms n l ++ rs.flatMap (nms n)
    | .IfExp _ b o _ => nms n b ++ nms n o
    | .BoolOp _ es _ => es.flatMap (nms n)
    | .ListComp _ gs _ _ => match gs with | g :: _ => nms n g.iter | [] => []
    | _ => []
noncomputable def namesOf : List Expr → Option (List Str)
  | [] => some []
  | e :: r => (asName e).bind fun x => (namesOf r).bind fun l => some (x :: l)
/-- a value, or a new list that may grow -/
inductive VO where | v (d : D) | o (l : List D)
noncomputable def mixE (r : Ev) (ow : List Str) : List Str → List Expr → Fm → Mu → (List VO → Mu → Prop) → Prop
  | [], es => match es with
    | [] => fun _ M K => K [] M
    | _ :: _ => fun _ _ _ => False
  | x :: xs, es => match es with
    | [] => fun _ _ _ => False
    | e :: es => fun f M K => match ow.contains x with
      | true => optP (asList e) False fun es' => match plAll es' with
        | true => allE r es' f M fun ds M1 => mixE r ow xs es f M1 fun rs M2 => K (.o ds :: rs) M2
        | false => False
      | false => r.E e f M fun d M1 => mixE r ow xs es f M1 fun rs M2 => K (.v d :: rs) M2
noncomputable def setMany (f : Fm) : List Str → List VO → Fm
  | x :: xs, .v d :: rs => setMany (f.set x d) xs rs
  | x :: xs, .o l :: rs => setMany (f.setO x l) xs rs
  | _, _ => f
noncomputable def sameLine (ts : List Expr) : Bool := ts.all fun e => match e with | .Name _ p => p.line == (ts.head?.map (·.pos.line)).getD 0 | _ => false
noncomputable def swapOk (ts es : List Expr) (xs : List Str) : Bool := (ts.length == 2 || ts.length == 3) && es.length == ts.length && es.all pl && sameLine ts && xs.eraseDups.length == xs.length && !(es.all (foldedForSure 8)) && !(es.all (constantsAlone 8))
noncomputable def notTup : Expr → Bool
  | .Tuple .. => false
  | _ => true
noncomputable def localsAll (sc : Scope) (xs : List Str) : Bool := xs.all fun x => sc.names.lookup x == some .local
noncomputable def notComp : Expr → Bool
  | .ListComp .. => false | .SetComp .. => false | .DictComp .. => false | _ => true
noncomputable def ownP (r : Ev) (x : Str) (v : Expr) (f : Fm) (M : Mu) (K : Fm → Mu → Prop) : Prop := match v with
  | .List es _ => (match plAll es with | true => allE r es f M fun ds M1 => K (f.setO x ds) M1 | false => False)
  | .Subscript l s _ => (match l with
    | .List es _ => (match s with
      | .Slice a b c _ => (match a with
        | none => (match b with
          | some e => (match c with
            | none => (match plAll es with | true => allE r es f M fun ds M1 => r.E e f M1 fun d M2 => (match d with | .int k => (0 ≤ k ∧ k ≤ ds.length) ∧ K (f.setO x (ds.take k.toNat)) M2 | _ => False) | false => False)
            | some _ => False)
          | none => False)
        | some _ => False)
      | _ => False)
    | _ => False)
  | _ => False
noncomputable def nameA (r : Ev) (ow : List Str) (x : Str) (v : Expr) (f : Fm) (M : Mu) (K : Fm → Mu → Prop) : Prop := match localsAll f.sc [x] with
  | true => (match ow.contains x with | true => ownP r x v f M K | false => r.E v f M fun d M1 => K (f.set x d) M1)
  | false => False
noncomputable def swapA (r : Ev) (ow : List Str) (ts : List Expr) (tk : Nat) (tp : Pos) (v : Expr) (es : List Expr) (f : Fm) (M : Mu) (K : Fm → Mu → Prop) : Prop :=
  optP (namesOf ts) (match Nat.blt 3 ts.length with
    | true => r.E v f M fun d M1 => bindT 8 (.Tuple ts tk tp) d f fun f1 => K f1 M1
    | false => False) fun xs => match localsAll f.sc xs && swapOk ts es xs with
    | true => mixE r ow xs es f M fun rs M1 => K (setMany f xs.reverse rs.reverse) M1
    | false => False
noncomputable def tupA (r : Ev) (ow : List Str) (ts : List Expr) (tk : Nat) (tp : Pos) (v : Expr) (f : Fm) (M : Mu) (K : Fm → Mu → Prop) : Prop :=
  optP (asTup v) (r.E v f M fun d M1 => bindT 8 (.Tuple ts tk tp) d f fun f1 => K f1 M1) fun es => swapA r ow ts tk tp v es f M K
noncomputable def srcA (r : Ev) (t i v : Expr) (f : Fm) (M : Mu) (K : Fm → Mu → Prop) : Prop := match t with
  | .Name x _ => (match i with
    | .Constant c _ _ => (match c with
      | .int k => (match okN x && (isSrc (f.loc.lookup x) && notComp v) with
        | true => r.E v f M fun d M1 => (match d with | .int z => srcTo k z ∧ K f M1 | _ => False)
        | false => False)
      | _ => False)
    | _ => False)
  | _ => False
noncomputable def assignP (r : Ev) (ow : List Str) (ts : List Expr) (v : Expr) (f0 : Fm) (M : Mu) (K : Fm → Mu → Prop) : Prop :=
  forceF (f0.frz (nms 12 v)) fun f =>
  match ts with
  | [] => False
  | t :: r' => (match r' with
    | [] => (match t with
      | .Name x _ => nameA r ow x v f M K
      | .Tuple ts tk tp => tupA r ow ts tk tp v f M K
      | .Subscript t i _ => srcA r t i v f M K
      | _ => False)
    | _ :: _ => False)
/-- o.m(a) -/
noncomputable def callM (e : Expr) : Option (Expr × Str × Expr) := (asCall e).bind fun z => (asAttr z.1).bind fun q => (one1 z.2.1).bind fun a =>
  guardO (z.2.2.1.isEmpty && (q.2.2.endLine == z.2.2.2.line && pl a)) (some (q.1, q.2.1, a))
/-- what grows: x.append(e), x.extend(e) -/
noncomputable def growOf (f : Fm) (o : Expr) (m : Str) : Option (Str × List D × Bool) := (ownAt f o).bind fun q => match q with
  | (x, l) => match m == Str.ofString "append" with
    | true => some (x, l, true)
    | false => guardO (m == Str.ofString "extend") (some (x, l, false))
/-- x.pairs.append(e) -/
noncomputable def prsGrow (f : Fm) (o : Expr) (m : Str) : Bool := prsIn f o && m == Str.ofString "append"
noncomputable def dropP (r : Ev) (e : Expr) (f : Fm) (M : Mu) (K : Fm → Mu → Prop) : Prop := match notComp e with
  | true => r.E e f M fun _ M1 => K f M1
  | false => False
noncomputable def growP (r : Ev) (x : Str) (l : List D) (b : Bool) (a : Expr) (f : Fm) (M : Mu) (K : Fm → Mu → Prop) : Prop := match b with
  | true => l.length ≤ 100000 ∧ r.E a f M fun d M1 => K (f.setO x (l ++ [d])) M1
  | false => l.length ≤ 100000 ∧ r.E a f M fun d M1 => match d with | .lst l2 => l2.length ≤ 100000 ∧ K (f.setO x (l ++ l2)) M1 | _ => False
noncomputable def exprP (r : Ev) (e : Expr) (f : Fm) (M : Mu) (K : Fm → Mu → Prop) : Prop :=
  optP (callM e) (dropP r e f M K) fun q => match q with
    | (o, m, a) => optP (growOf f o m) (match prsGrow f o m with
      | true => r.E a f M fun d M1 => M1.prs.length ≤ 10000 ∧ K f { M1 with prs := M1.prs ++ [d] }
      | false => dropP r e f M K) fun q => match q with | (x, l, b) => growP r x l b a f M K
/-- the items of a for statement: enumerate too -/
noncomputable def itemsP (r : Ev) (t : Expr) (e : Expr) (f : Fm) (M : Mu) (K : List D → Mu → Prop) : Prop :=
  optP (call1 e) (iterP r e f M K) fun q => match q with
    | (x, a) => match isGI (f.sc.names.lookup x) && (x == Str.ofString "enumerate" && (isTup t && pl a)) with
      | true => r.E a f M fun d M1 => match d with
        | .tup l => l.length ≤ 100000 ∧ K (enumFrom 0 l) M1
        | _ => False
      | false => iterP r e f M K
noncomputable def forP (t : Expr) (body : Fm → Mu → KS → Prop) : List D → Fm → Mu → KS → Prop
  | [], f, M, K => K .next f M
  | x :: xs, f, M, K => bindT 8 t x f fun f0 => forceF f0 fun f1 => body f1 M fun fl f2 M2 => match fl with
    | .next => forP t body xs f2 M2 K
    | .ret d => K (.ret d) f2 M2
noncomputable def stmtP (r : Ev) (ow : List Str) (S : List Stmt → Fm → Mu → KS → Prop) (st : Stmt) (f : Fm) (M : Mu) (K : KS) : Prop := match st with
  | .Assign ts v _ => assignP r ow ts v f M fun f1 M1 => K .next f1 M1
  | .Expr e _ => exprP r e f M fun f1 M1 => K .next f1 M1
  | .If t b o _ => r.T t f M fun c M1 => match c with | true => S b f M1 K | false => S o f M1 K
  | .For t it b o _ => match o with
    | [] => itemsP r t it f M fun xs M1 => forP t (fun f1 M2 K2 => S b f1 M2 K2) xs f M1 K
    | _ => False
  | .Return v _ => match v with
    | some e => forceF (f.frz (nms 12 e)) fun f1 => r.E e f1 M fun d M1 => K (.ret d) f1 M1
    | none => K (.ret .none) f M
  | _ => False
noncomputable def evS (Φ : Phi) (ow : List Str) : Nat → List Stmt → Fm → Mu → KS → Prop
  | 0, _, _, _, _ => False
  | n + 1, ss, f, M, K => match ss with
    | [] => K .next f M
    | st :: rest => stmtP (ev Φ 30) ow (evS Φ ow n) st f M fun fl f1 M1 => match fl with
      | .next => forceF f1 fun f2 => evS Φ ow n rest f2 M1 K
      | .ret d => K (.ret d) f1 M1
/-- the names that grow in a body -/
noncomputable def growS : Nat → List Stmt → List Str
  | 0, _ => []
  | n + 1, ss => ss.flatMap fun st => match st with
    | .Expr (.Call (.Attribute (.Name x _) m _) _ _ _) _ => match m == Str.ofString "append" || m == Str.ofString "extend" with | true => [x] | false => []
    | .For _ _ b _ _ => growS n b
    | .If _ b o _ => growS n b ++ growS n o
    | _ => []
noncomputable def argNames (a : Arguments) : List Str := a.args.map (·.arg)
/-- a call of a def: its arguments, what it hands back -/
noncomputable def evF (Φ : Phi) (d : Arguments × List Stmt × Scope) (ds : List D) (M : Mu) (K : KE) : Prop :=
  match (argNames d.1).length == ds.length with
  | true => evS Φ (growS 8 d.2.1) 40 d.2.1 { sc := d.2.2, loc := (argNames d.1).zip ds, own := [] } M fun fl _ M1 => match fl with | .next => K .none M1 | .ret x => K x M1
  | false => False
-- what a match tells
theorem none_some {α : Type} {x : α} {P : Prop} (h : (none : Option α) = some x) : P := nomatch h
theorem bind_inv {α β : Type} {o : Option α} {F : α → Option β} {y : β} (h : o.bind F = some y) : ∃ x, o = some x ∧ F x = some y := by
  cases o with
  | none => exact none_some h
  | some x => exact ⟨x, rfl, h⟩
theorem guardO_inv {α : Type} {b : Bool} {o : Option α} {y : α} (h : guardO b o = some y) : b = true ∧ o = some y := by
  cases b with
  | false => exact none_some h
  | true => exact ⟨rfl, h⟩
theorem one1_inv {α : Type} {l : List α} {a : α} (h : one1 l = some a) : l = [a] := by
  cases l with
  | nil => exact none_some h
  | cons b r =>
    cases r with
    | nil => exact Option.some.inj h ▸ rfl
    | cons _ _ => exact none_some h
theorem emp_inv {α : Type} {l : List α} (h : l.isEmpty = true) : l = [] := by
  cases l with
  | nil => rfl
  | cons _ _ => exact fa_tr h
section
variable {e : Expr}
theorem asName_el {x : Str} {P : Expr → Prop} (h : asName e = some x) (k : ∀ y p, x = y → P (.Name y p)) : P e := by
  cases e with
  | Name y p => exact k y p (Option.some.inj h).symm
  | _ => exact none_some h
theorem asTup_el {es : List Expr} {P : Expr → Prop} (h : asTup e = some es) (k : ∀ fs n p, es = fs → P (.Tuple fs n p)) : P e := by
  cases e with
  | Tuple es' n p => exact k _ _ _ (Option.some.inj h).symm
  | _ => exact none_some h
theorem asList_el {es : List Expr} {P : Expr → Prop} (h : asList e = some es) (k : ∀ fs p, es = fs → P (.List fs p)) : P e := by
  cases e with
  | List es' p => exact k _ _ (Option.some.inj h).symm
  | _ => exact none_some h
theorem asAttr_el {q : Expr × Str × Pos} {P : Expr → Prop} (h : asAttr e = some q) (k : ∀ o m p, q = (o, m, p) → P (.Attribute o m p)) : P e := by
  cases e with
  | Attribute o' m' p' => exact k _ _ _ (Option.some.inj h).symm
  | _ => exact none_some h
theorem asCall_el {q : Expr × List Expr × List Keyword × Pos} {P : Expr → Prop} (h : asCall e = some q) (k : ∀ fn as ks p, q = (fn, as, ks, p) → P (.Call fn as ks p)) : P e := by
  cases e with
  | Call fn as ks p => exact k _ _ _ _ (Option.some.inj h).symm
  | _ => exact none_some h
theorem asName_inv {x : Str} (h : asName e = some x) : ∃ p, e = .Name x p := asName_el (P := fun e => ∃ p, e = .Name x p) h fun _ p e => ⟨p, e ▸ rfl⟩
theorem asTup_inv {es : List Expr} (h : asTup e = some es) : ∃ k p, e = .Tuple es k p := asTup_el (P := fun e => ∃ k p, e = .Tuple es k p) h fun _ k p e => ⟨k, p, e ▸ rfl⟩
theorem asList_inv {es : List Expr} (h : asList e = some es) : ∃ p, e = .List es p := asList_el (P := fun e => ∃ p, e = .List es p) h fun _ p e => ⟨p, e ▸ rfl⟩
theorem asAttr_inv {q : Expr × Str × Pos} (h : asAttr e = some q) : e = .Attribute q.1 q.2.1 q.2.2 := asAttr_el (P := fun e => e = .Attribute q.1 q.2.1 q.2.2) h fun _ _ _ e => e ▸ rfl
theorem asCall_inv {q : Expr × List Expr × List Keyword × Pos} (h : asCall e = some q) : e = .Call q.1 q.2.1 q.2.2.1 q.2.2.2 := asCall_el (P := fun e => e = .Call q.1 q.2.1 q.2.2.1 q.2.2.2) h fun _ _ _ _ e => e ▸ rfl
theorem asPrs_inv {x : Str} (h : asPrs e = some x) : okN x = true ∧ ∃ p1 p2, e = .Attribute (.Name x p1) (Str.ofString "pairs") p2 := by
  obtain ⟨⟨o, a, p⟩, h0, h⟩ := bind_inv (o := asAttr e) h
  obtain ⟨y, h1, h⟩ := bind_inv (o := asName o) h
  obtain ⟨h2, h9⟩ := guardO_inv h
  obtain ⟨q, h3⟩ := asName_inv h1
  rw [Bool.and_eq_true] at h2
  have e2 : a = Str.ofString "pairs" := eq_of_beq h2.2
  have e3 : y = x := Option.some.inj h9
  have e1 : e = .Attribute o a p := asAttr_inv h0
  exact ⟨e3 ▸ h2.1, q, p, by rw [e1, h3, e2, e3]⟩
theorem call1_inv {x : Str} {a : Expr} (h : call1 e = some (x, a)) : ∃ p q, e = .Call (.Name x p) [a] [] q := by
  obtain ⟨⟨fn, as, ks, p⟩, h0, h⟩ := bind_inv (o := asCall e) h
  obtain ⟨y, h1, h⟩ := bind_inv (o := asName fn) h
  obtain ⟨b, h2, h⟩ := bind_inv (o := one1 as) h
  obtain ⟨h3, h9⟩ := guardO_inv h
  obtain ⟨q, h4⟩ := asName_inv h1
  have e1 : (y, b) = (x, a) := Option.some.inj h9
  have e2 : e = .Call fn as ks p := asCall_inv h0
  exact ⟨q, p, by rw [e2, h4, show as = [b] from one1_inv h2, show ks = [] from emp_inv h3, show y = x from congrArg Prod.fst e1, show b = a from congrArg Prod.snd e1]⟩
theorem callM_inv {o a : Expr} {m : Str} (h : callM e = some (o, m, a)) : pl a = true ∧ ∃ ap p, (ap.endLine == p.line) = true ∧ e = .Call (.Attribute o m ap) [a] [] p := by
  obtain ⟨⟨fn, as, ks, p⟩, h0, h⟩ := bind_inv (o := asCall e) h
  obtain ⟨⟨o', m', ap⟩, h1, h⟩ := bind_inv (o := asAttr fn) h
  obtain ⟨b, h2, h⟩ := bind_inv (o := one1 as) h
  obtain ⟨h3, h9⟩ := guardO_inv h
  have e1 : (o', m', b) = (o, m, a) := Option.some.inj h9
  have e2 : e = .Call fn as ks p := asCall_inv h0
  have e3 : fn = .Attribute o' m' ap := asAttr_inv h1
  have e4 : b = a := congrArg (·.2.2) e1
  rw [Bool.and_eq_true, Bool.and_eq_true] at h3
  exact ⟨e4 ▸ h3.2.2, ap, p, h3.2.1, by rw [e2, e3, show as = [b] from one1_inv h2, show ks = [] from emp_inv h3.1, e4, show o' = o from congrArg (·.1) e1, show m' = m from congrArg (·.2.1) e1]⟩
theorem asStr_el {s : Str} {P : Expr → Prop} (h : asStr e = some s) (k : ∀ t n p, s = t → P (.Constant (.str t) n p)) : P e := by
  cases e with
  | Constant c n p =>
    cases c with
    | str s' => exact k _ _ _ (Option.some.inj h).symm
    | _ => exact none_some h
  | _ => exact none_some h
theorem strOf_inv {k : Option Expr} {s : Str} (h : strOf k = some s) : ∃ a p, k = some (.Constant (.str s) a p) := by
  cases k with
  | none => exact none_some h
  | some e => exact asStr_el (P := fun e => ∃ a p, some e = some (.Constant (.str s) a p)) (e := e) h fun _ n p e => ⟨n, p, e ▸ rfl⟩
end
theorem keysOf_inv {k : Option Expr} {r : List (Option Expr)} {xs : List Str} (h : keysOf (k :: r) = some xs) : ∃ s a p l, k = some (.Constant (.str s) a p) ∧ keysOf r = some l ∧ xs = s :: l := by
  obtain ⟨s, h1, h⟩ := bind_inv (o := strOf k) h
  obtain ⟨l, h2, h9⟩ := bind_inv (o := keysOf r) h
  obtain ⟨a, p, rfl⟩ := strOf_inv h1
  exact ⟨s, a, p, l, rfl, h2, (Option.some.inj h9).symm⟩
theorem namesOf_cons {e : Expr} {r : List Expr} {xs : List Str} (h : namesOf (e :: r) = some xs) : ∃ x p l, e = .Name x p ∧ namesOf r = some l ∧ xs = x :: l := by
  obtain ⟨x, h1, h⟩ := bind_inv (o := asName e) h
  obtain ⟨l, h2, h9⟩ := bind_inv (o := namesOf r) h
  obtain ⟨p, rfl⟩ := asName_inv h1
  exact ⟨x, p, l, rfl, h2, (Option.some.inj h9).symm⟩
theorem own_at {f : Fm} {e : Expr} {x : Str} {l : List D} (h : ownAt f e = some (x, l)) : ∃ pos, e = .Name x pos ∧ okN x = true ∧ f.own.lookup x = some l := by
  obtain ⟨y, h1, h⟩ := bind_inv (o := asName e) h
  obtain ⟨h2, h⟩ := guardO_inv h
  obtain ⟨l', h3, h9⟩ := bind_inv (o := f.own.lookup y) h
  obtain ⟨p, rfl⟩ := asName_inv h1
  injection Option.some.inj h9 with h4 h5
  subst h4 h5
  exact ⟨p, rfl, h2, h3⟩
theorem isName_inv {e : Expr} (h : isName e = true) : ∃ x p, e = .Name x p := by
  unfold isName at h
  cases ha : asName e with
  | none => rw [ha] at h; exact fa_tr h
  | some x => exact ⟨x, asName_inv ha⟩
theorem isTup_inv {e : Expr} (h : isTup e = true) : ∃ ts k p, e = .Tuple ts k p := by
  unfold isTup at h
  cases ha : asTup e with
  | none => rw [ha] at h; exact fa_tr h
  | some ts => exact ⟨ts, asTup_inv ha⟩
theorem isRel_inv {o : Option D} (h : isRel o = true) : ∃ ks ds, o = some (.rel ks ds) := by
  cases o with
  | none => exact fa_tr h
  | some d =>
    cases d with
    | rel ks ds => exact ⟨ks, ds, rfl⟩
    | _ => exact fa_tr h
theorem isSrc_inv {o : Option D} (h : isSrc o = true) : o = some .src := by
  cases o with
  | none => exact fa_tr h
  | some d =>
    cases d with
    | src => rfl
    | _ => exact fa_tr h
theorem prsIn_inv {f : Fm} {e : Expr} (h : prsIn f e = true) : ∃ x p1 p2, okN x = true ∧ isRel (f.loc.lookup x) = true ∧ e = .Attribute (.Name x p1) (Str.ofString "pairs") p2 := by
  unfold prsIn at h
  cases ha : asPrs e with
  | none => rw [ha] at h; exact fa_tr h
  | some x =>
    rw [ha] at h
    obtain ⟨h1, p1, p2, h2⟩ := asPrs_inv ha
    exact ⟨x, p1, p2, h1, h, h2⟩
theorem isLoc_inv {k : Option NameKind} (h : isLoc k = true) : k = some .local := by
  cases k with
  | none => exact fa_tr h
  | some k =>
    cases k with
    | «local» => rfl
    | _ => exact fa_tr h
theorem isGI_inv {k : Option NameKind} (h : isGI k = true) : k = some .globalImplicit := by
  cases k with
  | none => exact fa_tr h
  | some k =>
    cases k with
    | globalImplicit => rfl
    | _ => exact fa_tr h
theorem tr_inv {b : Bool} {P : Prop} (h : match b with | true => P | false => False) : b = true ∧ P := by
  cases b with
  | true => exact ⟨rfl, h⟩
  | false => exact h.elim
theorem rt_inv {b : Bool} {P : Prop} (h : match b with | false => False | true => P) : b = true ∧ P := by
  cases b with
  | true => exact ⟨rfl, h⟩
  | false => exact h.elim
theorem bl_inv {b : Bool} {P Q : Prop} (h : match b with | true => P | false => Q) : b = true ∧ P ∨ b = false ∧ Q := by
  cases b with
  | true => exact .inl ⟨rfl, h⟩
  | false => exact .inr ⟨rfl, h⟩
theorem some_inv {α : Type} {o : Option α} {Q : α → Prop} (h : match o with | some x => Q x | none => False) : ∃ x, o = some x ∧ Q x := by
  cases o with
  | some x => exact ⟨x, rfl, h⟩
  | none => exact h.elim
theorem op_inv {α : Type} {o : Option α} {Q : α → Prop} {P : Prop} (h : optP o P Q) : (∃ x, o = some x ∧ Q x) ∨ o = none ∧ P := by
  cases o with
  | some x => exact .inl ⟨x, rfl, h⟩
  | none => exact .inr ⟨rfl, h⟩
theorem guard_inv {b : Bool} {α : Type} {x y : α} (h : (match b with | true => some x | false => none) = some y) : b = true ∧ x = y := by
  cases b with
  | true => exact ⟨rfl, Option.some.inj h⟩
  | false => exact none_some h
theorem bool_inv {d : D} {Q : Bool → Prop} (h : match d with | .bool c => Q c | _ => False) : ∃ c, d = .bool c ∧ Q c := by
  cases d with
  | bool c => exact ⟨c, rfl, h⟩
  | _ => exact h.elim
theorem int_inv {d : D} {Q : Int → Prop} (h : match d with | .int c => Q c | _ => False) : ∃ c, d = .int c ∧ Q c := by
  cases d with
  | int c => exact ⟨c, rfl, h⟩
  | _ => exact h.elim
theorem tup_inv {d : D} {Q : List D → Prop} (h : match d with | .tup c => Q c | _ => False) : ∃ c, d = .tup c ∧ Q c := by
  cases d with
  | tup c => exact ⟨c, rfl, h⟩
  | _ => exact h.elim
theorem lst_inv {d : D} {Q : List D → Prop} (h : match d with | .lst c => Q c | _ => False) : ∃ c, d = .lst c ∧ Q c := by
  cases d with
  | lst c => exact ⟨c, rfl, h⟩
  | _ => exact h.elim
end Mine
end

section
set_option backward.match.sparseCases false
open PySem PySem.W PySem.Calls PyProof.Rows
set_option Elab.async false
namespace Mine


structure W (g : Gl) (sp : Sp) (bad : Addr → Prop) (h : Heap) : Prop where
  base : ∀ b o, g.hb.get? b = some o → h.get? b = some o
  al : ∀ a, bad a → ∃ o, h.get? a = some o
  mu : ∀ a, sp.mu a → bad a
  muHb : ∀ a, bad a → g.hb.get? a = none
  s1 : ∀ a, sp.sa = some a → sp.fa ≠ some a ∧ sp.pa ≠ some a
  s2 : (∀ a, sp.fa = some a → sp.pa ≠ some a) ∧ sp.ta = some g.ta ∧ sp.sa ≠ some g.ta ∧ sp.fa ≠ some g.ta ∧ sp.pa ≠ some g.ta
theorem W.next {g : Gl} {sp : Sp} {bad : Addr → Prop} {h h' : Heap} (x : W g sp bad h) (k : Kp sp h h') : W g sp bad h' :=
  ⟨fun b o e => k.keep b o (x.base b o e) fun q => (by rw [x.muHb b (x.mu b q)] at e; cases e), fun a q => let ⟨o, e⟩ := x.al a q; k.alive a o e, x.mu, x.muHb, x.s1, x.s2⟩

structure Cx where
  sp : Sp
  bad : Addr → Prop
  env : Env
  m : Str → Option Value
  ow : List (Str × Addr)

/-- the name x of the frame holds v -/
noncomputable def VarIs (c : Cx) (h : Heap) (x : Str) (v : Value) : Prop :=
  (c.env.kindOf x = some .local ∧ c.m x = some v) ∨ ((c.env.kindOf x = some .cell ∨ c.env.kindOf x = some .free) ∧ ∃ a, c.env.cells.lookup x = some a ∧ ¬ c.sp.mu a ∧ h.IsCell a (some v))
theorem VarIs.next {c : Cx} {h h' : Heap} {x : Str} {v : Value} (q : VarIs c h x v) (k : Kp c.sp h h') : VarIs c h' x v :=
  q.imp id fun ⟨a, b, e, n, o, ho, hd⟩ => ⟨a, b, e, n, o, k.keep _ _ ho n, hd⟩

/-- a list of the frame's own that may grow -/
inductive OwnAt (g : Gl) (c : Cx) (h : Heap) (x : Str) (l : List D) : Prop
  | mk (a : Addr) (vs : List Value) (n : Nat) (vi : VarIs c h x (.ref a)) (ow : c.ow.lookup x = some a) (e : h.get? a = some (lstO vs n)) (b : c.bad a) (nm : ¬ c.sp.mu a) (nl : a ≠ c.env.locals) (rs : RepAll g c.sp c.bad h vs l)
structure St (g : Gl) (c : Cx) (f : Fm) (h : Heap) : Prop where
  w : W g c.sp c.bad h
  kind : c.env.scope.kind = .function
  glob : c.env.globals = mainGlobals
  blt : c.env.builtins = builtinsNs
  ns : h.Ns c.env.locals c.m
  nL : ¬ c.sp.mu c.env.locals
  gl : ∀ x, f.sc.names.lookup x = some .globalImplicit → c.env.kindOf x = some .globalImplicit
  lo : ∀ x, f.sc.names.lookup x = some .local → c.env.kindOf x = some .local
  ce : ∀ x, (f.sc.names.lookup x = some .cell ∨ f.sc.names.lookup x = some .free) → c.env.kindOf x = some .cell ∨ c.env.kindOf x = some .free
  loc : ∀ x d, f.loc.lookup x = some d → ∃ v, VarIs c h x v ∧ Rep g c.sp c.bad h v d
  own : ∀ x l, f.own.lookup x = some l → OwnAt g c h x l
theorem ns_next {sp : Sp} {h h' : Heap} (k : Kp sp h h') {a : Addr} {m : Str → Option Value} (x : h.Ns a m) (n : ¬ sp.mu a) : h'.Ns a m :=
  let ⟨o, es, ep, e, r⟩ := x; ⟨o, es, ep, k.keep _ _ e n, r⟩
theorem St.next {g : Gl} {c : Cx} {f : Fm} {h h' : Heap} (x : St g c f h) (k : Kp c.sp h h') : St g c f h' where
  w := x.w.next k
  kind := x.kind
  glob := x.glob
  blt := x.blt
  ns := ns_next k x.ns x.nL
  nL := x.nL
  gl := x.gl
  lo := x.lo
  ce := x.ce
  loc := fun y d e => let ⟨v, a, b⟩ := x.loc y d e; ⟨v, a.next k, b.up (k.up x.w.mu)⟩
  own := fun y l e => let ⟨a, vs, n, p, q, r, s, t, u, z⟩ := x.own y l e; ⟨a, vs, n, p.next k, q, k.keep _ _ r t, s, t, u, z.up (k.up x.w.mu)⟩

/-- what the source may hold -/
noncomputable def SrcOk (x y : Int) : Prop := 0 ≤ x ∧ 0 ≤ y ∧ y < 2147483647
inductive LAt (g : Gl) (sp : Sp) (bad : Addr → Prop) (h : Heap) (a : Addr) (l : List D) : Prop
  | mk (vs : List Value) (n : Nat) (e : h.get? a = some (lstO vs n)) (r : RepAll g sp bad h vs l)
structure MuOk (g : Gl) (sp : Sp) (bad : Addr → Prop) (h : Heap) (M : Mu) : Prop where
  src : ∀ a, sp.sa = some a → ∃ x y t u, h.IsList a [Value.int x t, .int y u].toArray ∧ SrcOk x y
  fnd : ∀ a, sp.fa = some a → LAt g sp bad h a M.fnd
  prs : ∀ a, sp.pa = some a → LAt g sp bad h a M.prs
  tab : ∀ a, sp.ta = some a → TabOk g.nq bad h a
/-- a step that changes nothing keeps what the changing things hold -/
theorem MuOk.up {g : Gl} {sp : Sp} {bad bad' : Addr → Prop} {h h' : Heap} {M : Mu} (x : MuOk g sp bad h M) (k : ∀ b o, h.get? b = some o → h'.get? b = some o) (u : Up bad bad' h h') : MuOk g sp bad' h' M where
  src := fun a e => let ⟨x, y, t, u, ⟨o, h1, r⟩, h2⟩ := x.src a e; ⟨x, y, t, u, ⟨o, k _ _ h1, r⟩, h2⟩
  fnd := fun a e => let ⟨vs, n, h1, h2⟩ := x.fnd a e; ⟨vs, n, k _ _ h1, h2.up u⟩
  prs := fun a e => let ⟨vs, n, h1, h2⟩ := x.prs a e; ⟨vs, n, k _ _ h1, h2.up u⟩
  tab := fun a e => (x.tab a e).up (k _) u

noncomputable def Room (A : Around) (n : Nat) : Prop := A.depth + n < recursionLimit ∧ A.units + 40 * n + 200 < cLine ∧ A.handled = none
theorem Room.le {A : Around} {n m : Nat} (r : Room A n) (h : m ≤ n) : Room A m := ⟨by have := r.1; omega, by have := r.2.1; omega, r.2.2⟩

/-- what a tree hands back and leaves -/
inductive Fin (g : Gl) (sp : Sp) (bad : Addr → Prop) (s : Shared) {α β : Type} (R : Heap → α → β → Prop) (K : β → Mu → Prop) (v : α) (s' : Shared) : Prop
  | mk (h' : Heap) (tk : Nat) (e : s' = { s with heap := h', toks := tk }) (k : Kp sp s.heap h') (d : β) (M' : Mu) (hK : K d M') (hR : R h' v d) (m : MuOk g sp bad h' M')
@[elab_as_elim] theorem Fin.el {g : Gl} {sp : Sp} {bad : Addr → Prop} {s : Shared} {α β : Type} {R : Heap → α → β → Prop} {K : β → Mu → Prop} {v : α} {P : Shared → Prop} {s' : Shared} (h : Fin g sp bad s R K v s')
    (k : ∀ (h' : Heap) (tk : Nat) (d : β) (M' : Mu), Kp sp s.heap h' → K d M' → R h' v d → MuOk g sp bad h' M' → P { s with heap := h', toks := tk }) : P s' := by
  cases h with
  | mk h' tk e kp d M' hK hR m => subst e; exact k h' tk d M' kp hK hR m
/-- from s the tree t hands back a v and leaves a heap: K of what they are -/
noncomputable def Ex (g : Gl) (c : Cx) (A : Around) (s : Shared) {α β : Type} (t : Sem α) (R : Heap → α → β → Prop) (K : β → Mu → Prop) : Prop :=
  wpAny (model pw g.w) A t (Fin g c.sp c.bad s R K) (fun _ _ => False) s
noncomputable abbrev RV (g : Gl) (c : Cx) : Heap → Value → D → Prop := fun h v d => Rep g c.sp c.bad h v d
noncomputable abbrev RVs (g : Gl) (c : Cx) : Heap → List Value → List D → Prop := fun h v d => RepAll g c.sp c.bad h v d
noncomputable abbrev RB : Heap → Bool → Bool → Prop := fun _ a b => a = b

section
variable {g : Gl} {c : Cx} {A : Around} {s : Shared} {α β γ δ : Type}
theorem Ex.of_wp {t : Sem α} {R : Heap → α → β → Prop} {K : β → Mu → Prop}
    (h : wpAny (model pw g.w) A t (Fin g c.sp c.bad s R K) (fun _ _ => False) s) : Ex g c A s t R K := h
/-- go on behind a tree: any later tree that is reached by wpAny's own rules -/
theorem Ex.then {t : Sem α} {R : Heap → α → β → Prop} {K : β → Mu → Prop} {Q : α → Shared → Prop} {E : Value → Shared → Prop} (h : Ex g c A s t R K)
    (k : ∀ v h' tk d M', Kp c.sp s.heap h' → K d M' → R h' v d → MuOk g c.sp c.bad h' M' → Q v { s with heap := h', toks := tk }) : wpAny (model pw g.w) A t Q E s :=
  wpAny_mono h (fun v _ q => q.el (k v)) fun _ _ x => x.elim
/-- what is reached behind a step is reached -/
theorem Ex.glue {t : Sem γ} {R : Heap → γ → δ → Prop} {K : δ → Mu → Prop} {h' : Heap} {tk : Nat} (k : Kp c.sp s.heap h') (h : Ex g c A { s with heap := h', toks := tk } t R K) :
    wpAny (model pw g.w) A t (Fin g c.sp c.bad s R K) (fun _ _ => False) { s with heap := h', toks := tk } :=
  wpAny_mono h (fun v _ q => by
    cases q with
    | mk h2 tk2 e k2 d M' hK hR m => exact ⟨h2, tk2, e, k.trans k2, d, M', hK, hR, m⟩) fun _ _ x => x
theorem Ex.done {R : Heap → α → β → Prop} {K : β → Mu → Prop} {v : α} {d : β} {M : Mu} {h' : Heap} {tk : Nat} (k : Kp c.sp s.heap h') (hK : K d M) (hR : R h' v d) (m : MuOk g c.sp c.bad h' M) :
    Fin g c.sp c.bad s R K v { s with heap := h', toks := tk } :=
  ⟨h', tk, rfl, k, d, M, hK, hR, m⟩
end

/-- the deal of a call of f with what ds say -/
noncomputable def CallOk (g : Gl) (n : Nat) (f : Value) (ds : List D) (M : Mu) (K : KE) : Prop :=
  ∀ (sp : Sp) (bad : Addr → Prop) (A : Around) (s : Shared) (vs : List Value), W g sp bad s.heap → MuOk g sp bad s.heap M → RepAll g sp bad s.heap vs ds → Room A n →
    wpAny (model pw g.w) A (call f vs) (Fin g sp bad s (fun h' v d => Rep g sp bad h' v d) K) (fun _ _ => False) s
theorem CallOk.le {g : Gl} {n m : Nat} {f : Value} {ds : List D} {M : Mu} {K : KE} (h : CallOk g n f ds M K) (hm : n ≤ m) : CallOk g m f ds M K :=
  fun sp bad A s vs a b d r => h sp bad A s vs a b d (r.le hm)

/-- f is a def's object that stands before the call -/
noncomputable def FnAt (g : Gl) (a : Addr) : Prop := ∃ (o : Obj) (fd : FuncData), g.hb.get? a = some o ∧ o.cls = .type "function" ∧ o.data = .func fd
/-- what stands before the call, as far as it is asked -/
structure GlOk (g : Gl) : Prop where
  ns : g.hb.Ns mainGlobals g.mg
  bns : ∃ mb, g.hb.Ns builtinsNs mb ∧ ∀ x : Str, x ≠ Str.ofString "__name__" → mb x = bootBuiltins x
  nolim : g.hb.NoLimit
  free : ∀ x ∈ [Str.ofString "len", Str.ofString "tuple", Str.ofString "max", Str.ofString "isinstance", Str.ofString "int", Str.ofString "range", Str.ofString "enumerate", Str.ofString "list"], g.mg x = none
  clsR : ∃ N, ClsAt g.hb g.CR N g.mR
  clsB : ∃ N, ClsAt g.hb g.CB N g.mB
  noR : ∀ x ∈ [Str.ofString "__getattribute__", Str.ofString "__getattr__", Str.ofString "__setattr__", Str.ofString "varied", Str.ofString "pairs"], g.mR x = none
  noB : ∀ x ∈ [Str.ofString "__getattribute__", Str.ofString "__getattr__", Str.ofString "__setattr__", Str.ofString "name", Str.ofString "arg_count", Str.ofString "locals", Str.ofString "blocks", Str.ofString "spots"], g.mB x = none
  fns : ∀ x, kdOf x = some .fn → ∃ a, g.mg x = some (.ref a) ∧ ∃ (o : Obj) (fd : FuncData), g.hb.get? a = some o ∧ o.data = .func fd
  mgR : g.mg (Str.ofString "Relation") = some (.ref g.CR)
  mgB : g.mg (Str.ofString "Body") = some (.ref g.CB)
  meths : ∀ x, methNames.contains x = true → ∃ a, g.mR x = some (.ref a) ∧ FnAt g a
/-- the deals that the evaluation may lean on: of the text's defs and classes, and of the methods of Relation -/
structure PhiOk (g : Gl) (n : Nat) (Φ : Phi) : Prop where
  fn : ∀ x a ds M K, (kdOf x = some .fn ∨ kdOf x = some .cls) → g.mg x = some (.ref a) → Φ x ds M K → CallOk g n (.ref a) ds M K
  meth : ∀ x a ds M K, methNames.contains x = true → g.mR x = some (.ref a) → Φ x ds M K → CallOk g n (.ref a) ds M K
end Mine
end

section
set_option backward.match.sparseCases false
open PySem PySem.W PySem.Calls PyProof.Rows
set_option Elab.async false
namespace Mine

-- the built-ins' rules, over a bare heap
section
variable {prog : Program} {w : World} {A : Around} {E : Value → Shared → Prop} {s : Shared} {Q : Value → Shared → Prop}
theorem lst_is {h : Heap} {a : Addr} {vs : List Value} {n : Nat} (e : h.get? a = some (lstO vs n)) : h.IsList a vs.toArray := ⟨_, e, rfl, n, rfl⟩
theorem tup_is {h : Heap} {a : Addr} {vs : List Value} {n : Nat} (e : h.get? a = some (tupO vs n)) : IsTup h a vs.toArray := ⟨_, e, rfl, n, rfl⟩
theorem size_le {n : Nat} (h : n ≤ 100000) : n ≤ sizeLine := by rw [sizeLine_eq]; omega

theorem addL {l b : Addr} {vs ws : List Value} {n n2 : Nat} (ho : s.heap.get? l = some (lstO vs n)) (ho2 : s.heap.get? b = some (lstO ws n2)) (hsz : vs.length + ws.length ≤ 100000)
    (h : Q (.ref s.heap.objs.size) { s with heap := s.heap.push (lstO (vs ++ ws) 0) }) : wpAny (model prog w) A (binaryOp .Add (.ref l) (.ref b)) Q E s := by
  have e : vs.toArray ++ ws.toArray = (vs ++ ws).toArray := by simp
  refine concat_meets ⟨_, ho, rfl⟩ ⟨_, ho2, rfl⟩ noFill_list_add seq_list_add PySem.F.slot_list_add PySem.F.entry_list_add (PySem.F.args_list_add_2 _ _) (list_addW l b vs.toArray ws.toArray n n2 none none #[] #[] (by simpa using size_le hsz)) ⟨ho, ho2, ?_⟩
  rw [e]
  exact h
theorem addT {t b : Addr} {vs ws : List Value} {n n2 : Nat} (ho : s.heap.get? t = some (tupO vs n)) (ho2 : s.heap.get? b = some (tupO ws n2)) (hsz : vs.length + ws.length ≤ 100000)
    (h0 : vs = [] → Q (.ref b) s) (h1 : ws = [] → Q (.ref t) s)
    (h2 : Q (.ref s.heap.objs.size) { s with heap := s.heap.push (tupO (vs ++ ws) 0) }) : wpAny (model prog w) A (binaryOp .Add (.ref t) (.ref b)) Q E s := by
  have e : vs.toArray ++ ws.toArray = (vs ++ ws).toArray := by simp
  by_cases hv : vs = []
  · exact concat_meets ⟨_, ho, rfl⟩ ⟨_, ho2, rfl⟩ noFill_tuple_add seq_tuple_add PySem.F.slot_tuple_add PySem.F.entry_tuple_add (PySem.F.args_tuple_add_2 _ _)
      (tuple_addW0 t b vs.toArray ws.toArray n n2 none none #[] #[] (by simp [hv])) ⟨ho, ho2, h0 hv⟩
  · by_cases hw : ws = []
    · exact concat_meets ⟨_, ho, rfl⟩ ⟨_, ho2, rfl⟩ noFill_tuple_add seq_tuple_add PySem.F.slot_tuple_add PySem.F.entry_tuple_add (PySem.F.args_tuple_add_2 _ _)
        (tuple_addW1 t b vs.toArray ws.toArray n n2 none none #[] #[] (by simpa using hv) (by simp [hw])) ⟨ho, ho2, h1 hw⟩
    · refine concat_meets ⟨_, ho, rfl⟩ ⟨_, ho2, rfl⟩ noFill_tuple_add seq_tuple_add PySem.F.slot_tuple_add PySem.F.entry_tuple_add (PySem.F.args_tuple_add_2 _ _)
        (tuple_addW2 t b vs.toArray ws.toArray n n2 none none #[] #[] (by simpa using hv) (by simpa using hw) (by simpa using size_le hsz)) ⟨ho, ho2, ?_⟩
      rw [e]
      exact h2
theorem lenL {l : Addr} {vs : List Value} {n : Nat} (ho : s.heap.get? l = some (lstO vs n)) (hsz : vs.length ≤ 100000)
    (h : Q (.int vs.length (s.toks + 1)) { s with toks := s.toks + 1 + 1 }) : wpAny (model prog w) A (call (.builtin "len") [.ref l]) Q E s :=
  len_list (lst_is ho) (by rw [List.size_toArray]; omega) (by simpa using h)
theorem lenT {l : Addr} {vs : List Value} {n : Nat} (ho : s.heap.get? l = some (tupO vs n)) (hsz : vs.length ≤ 100000)
    (h : Q (.int vs.length (s.toks + 1)) { s with toks := s.toks + 1 + 1 }) : wpAny (model prog w) A (call (.builtin "len") [.ref l]) Q E s :=
  len_tuple (tup_is ho) (by rw [List.size_toArray]; omega) (by simpa using h)
theorem tupL {l : Addr} {vs : List Value} {n : Nat} (ho : s.heap.get? l = some (lstO vs n)) (hsz : vs.length ≤ 100000)
    (h : ∀ h' : Heap, (∀ b o', s.heap.get? b = some o' → h'.get? b = some o') → Q (.ref h'.objs.size) { s with heap := h'.push (tupO vs 0) }) : wpAny (model prog w) A (call (.type "tuple") [.ref l]) Q E s :=
  call_tuple_list (lst_is ho) h (by simpa using size_le hsz)
theorem tupT {l : Addr} {vs : List Value} {n : Nat} (ho : s.heap.get? l = some (tupO vs n)) (h : Q (.ref l) s) : wpAny (model prog w) A (call (.type "tuple") [.ref l]) Q E s :=
  call_tuple_tup (tup_is ho) h
theorem maxL {l : Addr} {vs : List Value} {ns : List Int} {n : Nat} (hh : A.handled = none) (ho : s.heap.get? l = some (lstO vs n)) (hi : IntsAre vs ns) (hne : 0 < ns.length)
    (h : ∀ h' M (t : Tok) tk, (∀ b o, s.heap.get? b = some o → h'.get? b = some o) → M ∈ ns → (∀ a, a ∈ ns → a ≤ M) → Q (.int M t) { s with heap := h', toks := tk }) :
    wpAny (model prog w) A (call (.builtin "max") [.ref l]) Q E s := by
  have hl := lst_is ho
  obtain ⟨xs, e⟩ := hi.allInts.items
  have hns : ns = xs.toList.map (·.1) := by rw [← hi.numsOf, ← nums_intItems, ← e]
  have hsz : 0 < xs.size := by
    have h3 := hne; rw [hns, List.length_map, Array.length_toList] at h3; exact h3
  rw [e] at hl
  refine max_intList hh hl hsz fun v h' tk hv hk => ?_
  obtain ⟨t, rfl⟩ := intItems_at hv
  obtain ⟨h1, h2⟩ := argBest_gt (numAt xs) (xs.size - 1)
  refine h _ _ t tk hk ?_ fun a ha => ?_
  · rw [hns, numAt_eq]; exact getD_mem (by rw [List.length_map, Array.length_toList]; omega)
  · rw [hns] at ha
    obtain ⟨j, hj, rfl⟩ := mem_getD ha
    rw [List.length_map, Array.length_toList] at hj
    rw [← numAt_eq]; exact h2 j (by omega)
theorem isi_int {n : Int} {t : Tok} (h : Q (.bool true) s) : wpAny (model prog w) A (call (.builtin "isinstance") [.int n t, .type "int"]) Q E s :=
  call_isinstance_yes (Tx := "int") rfl meta_int sub_int_int h
theorem isi_str {x : Str} {t : Tok} (h : ∀ tk, Q (.bool false) { s with toks := tk }) : wpAny (model prog w) A (call (.builtin "isinstance") [.str x t, .type "int"]) Q E s :=
  call_isinstance (PySem.isinstance_false_str (by decide) meta_int sub_str_int) (h _)
theorem isi_none (h : ∀ tk, Q (.bool false) { s with toks := tk }) : wpAny (model prog w) A (call (.builtin "isinstance") [.none, .type "int"]) Q E s :=
  call_isinstance (PySem.isinstance_false_none (by decide) meta_int (by rw [isSubtype_type]; kernel_rfl)) (h _)
theorem itemT {value slice : Expr} {a : Addr} {vs : List Value} {n : Nat} {k : Int} {u : Tok} {j : Nat} {x : Value} (ho : s.heap.get? a = some (tupO vs n)) (hlo : -(2 ^ 63) ≤ k) (hhi : k < 2 ^ 63) (hj : seqIndex? k vs.length = some j) (hx : vs[j]? = some x)
    (hs : subscripted slice false (.ref a) (.int k u) = operate [.ref a, .int k u] (getItem (.ref a) (.int k u))) (h : Q x s) : wpAny (model prog w) A (subscriptTail value slice (.ref a) (.int k u)) Q E s :=
  item_tupleT (tup_is ho) hlo hhi hj hx h hs
theorem itemS {value slice : Expr} {a : Addr} {vs : Array Value} {k : Nat} {u : Tok} {x : Value} (ho : s.heap.IsList a vs) (hhi : (k : Int) < 2 ^ 63) (hx : vs[k]? = some x)
    (hs : subscripted slice false (.ref a) (.int k u) = operate [.ref a, .int k u] (getItem (.ref a) (.int k u))) (h : Q x s) : wpAny (model prog w) A (subscriptTail value slice (.ref a) (.int k u)) Q E s := by
  refine tail_any ho.typeIs slot_list_getitem.lookup ?_ hs
  exact wpAny_getItem_list ho (Int.natCast_nonneg k) hhi (x := x) (by simpa using hx) h
theorem itemL {value slice : Expr} {a : Addr} {vs : List Value} {n : Nat} {k : Int} {u : Tok} {j : Nat} {x : Value} (ho : s.heap.get? a = some (lstO vs n)) (hlo : -(2 ^ 63) ≤ k) (hhi : k < 2 ^ 63) (hj : seqIndex? k vs.length = some j) (hx : vs[j]? = some x)
    (hs : subscripted slice false (.ref a) (.int k u) = operate [.ref a, .int k u] (getItem (.ref a) (.int k u))) (h : Q x s) : wpAny (model prog w) A (subscriptTail value slice (.ref a) (.int k u)) Q E s := by
  refine tail_any (lst_is ho).typeIs slot_list_getitem.lookup ?_ hs
  unfold seqIndex? at hj
  by_cases h0 : k < 0
  · simp only [h0, if_true] at hj
    split at hj
    · rename_i hh
      refine wpAny_getItem_list_neg (lst_is ho) h0 ?_ hlo ?_ h
      · simp only [List.size_toArray]; simp at hh; omega
      · obtain rfl := Option.some.inj hj
        simp only [List.size_toArray]
        simpa using hx
    · cases hj
  · simp only [h0, if_false] at hj
    split at hj
    · obtain rfl := Option.some.inj hj
      exact wpAny_getItem_list (lst_is ho) (by omega) hhi (by simpa using hx) h
    · cases hj
end
end Mine
end

section
set_option backward.match.sparseCases false
open PySem PySem.W PySem.Calls PyProof.Rows
set_option Elab.async false
namespace Mine

theorem up_keep {bad : Addr → Prop} {h h' : Heap} (k : ∀ b o, h.get? b = some o → h'.get? b = some o) : Up bad bad h h' := ⟨fun b o e _ => k b o e, fun _ _ _ q => q⟩
theorem get_size (h : Heap) : h.get? h.objs.size = none := by
  cases e : h.get? h.objs.size with
  | none => rfl
  | some o => exact absurd (Heap.lt_size e) (Nat.lt_irrefl _)
theorem push_keep (h : Heap) (o : Obj) : ∀ b x, h.get? b = some x → (h.push o).get? b = some x := fun _ _ e => Heap.get?_push_of_some _ e

section
variable {g : Gl} {sp : Sp} {bad : Addr → Prop} {h : Heap} {M : Mu}
theorem W.new (x : W g sp bad h) : ¬ bad h.objs.size := fun q => by
  obtain ⟨o, e⟩ := x.al _ q
  rw [get_size] at e; cases e
theorem W.keep {h' : Heap} (x : W g sp bad h) (k : ∀ b o, h.get? b = some o → h'.get? b = some o) : W g sp bad h' := x.next (.of_keep k)
theorem MuOk.keep {h' : Heap} (m : MuOk g sp bad h M) (k : ∀ b o, h.get? b = some o → h'.get? b = some o) : MuOk g sp bad h' M := m.up k (up_keep k)
theorem Rep.keep {h' : Heap} {v : Value} {d : D} (r : Rep g sp bad h v d) (k : ∀ b o, h.get? b = some o → h'.get? b = some o) : Rep g sp bad h' v d := r.up (up_keep k)
theorem RepAll.keep {h' : Heap} {v : List Value} {d : List D} (r : RepAll g sp bad h v d) (k : ∀ b o, h.get? b = some o → h'.get? b = some o) : RepAll g sp bad h' v d := r.up (up_keep k)
theorem new_tup {vs : List Value} {ds : List D} {n : Nat} (x : W g sp bad h) (r : RepAll g sp bad h vs ds) : Rep g sp bad (h.push (tupO vs n)) (.ref h.objs.size) (.tup ds) :=
  .tup (Heap.get?_push_size _ rfl) x.new (r.keep (push_keep _ _))
theorem new_lst {vs : List Value} {ds : List D} {n : Nat} (x : W g sp bad h) (r : RepAll g sp bad h vs ds) : Rep g sp bad (h.push (lstO vs n)) (.ref h.objs.size) (.lst ds) :=
  .lst (Heap.get?_push_size _ rfl) x.new (r.keep (push_keep _ _))
end

section
variable {g : Gl} {c : Cx} {f : Fm} {A : Around} {s : Shared} {M : Mu}

theorem const_ok {k : Const} {n : Nat} {pos : Pos} {K : KE} (m : MuOk g c.sp c.bad s.heap M) (h : constP k M K) : Ex g c A s (eval (.Constant k n pos) c.env) (RV g c) K := by
  cases k <;> simp only [constP] at h
  case none => exact Constant_none (Ex.done (.refl _) h .none m)
  case bool b => exact Constant_bool (Ex.done (.refl _) h (.bool b) m)
  case int i => exact wpAny_Constant_int (Ex.done (h' := s.heap) (.refl _) h (.int i _) m)
  case str x => exact Constant_str (Ex.done (h' := s.heap) (.refl _) h (.str x _) m)

theorem load_ok {x : Str} {v : Value} {Q : Value → Shared → Prop} {E : Value → Shared → Prop} (X : St g c f s.heap) (q : VarIs c s.heap x v) (hd : (x == Str.ofString "__classdict__") = false) (h : Q v s) : wpAny (model pw g.w) A (loadName c.env x) Q E s := by
  rcases q with ⟨k, e⟩ | ⟨k, a, e, _, hc⟩
  · exact wpAny_loadName_local X.kind k X.ns e h
  · rcases k with k | k
    · exact wpAny_loadName_cell X.kind k e hc h
    · exact wpAny_loadName_free X.kind k e hc h hd
/-- a name of the frame, read -/
theorem var_ok {x : Str} {pos : Pos} {v : Value} {Q : Value → Shared → Prop} {E : Value → Shared → Prop} (X : St g c f s.heap) (q : VarIs c s.heap x v) (hb : (x == Str.ofString "__debug__") = false) (hd : (x == Str.ofString "__classdict__") = false) (h : Q v s) :
    wpAny (model pw g.w) A (eval (.Name x pos) c.env) Q E s := wpAny_Name (load_ok X q hd h) hb
theorem glob_ok {x : Str} {pos : Pos} {v : Value} {Q : Value → Shared → Prop} {E : Value → Shared → Prop} (G : GlOk g) (X : St g c f s.heap) (hk : f.sc.names.lookup x = some .globalImplicit) (hb : (x == Str.ofString "__debug__") = false) (e : g.mg x = some v) (h : Q v s) :
    wpAny (model pw g.w) A (eval (.Name x pos) c.env) Q E s :=
  Name_function_global X.kind (X.gl x hk) (loadGlobal_global (by rw [X.glob]; exact G.ns.keeps X.w.base) e h) hb
theorem blt_ok {x : Str} {pos : Pos} {v : Value} {Q : Value → Shared → Prop} {E : Value → Shared → Prop} (G : GlOk g) (X : St g c f s.heap) (hk : f.sc.names.lookup x = some .globalImplicit) (hb : (x == Str.ofString "__debug__") = false) (hn : x ≠ Str.ofString "__name__")
    (e : g.mg x = none) (ev : bootBuiltins x = some v) (h : Q v s) : wpAny (model pw g.w) A (eval (.Name x pos) c.env) Q E s := by
  obtain ⟨mb, hb1, hb2⟩ := G.bns
  exact Name_function_global X.kind (X.gl x hk) (loadGlobal_builtin (by rw [X.glob]; exact G.ns.keeps X.w.base) e (by rw [X.blt]; exact hb1.keeps X.w.base) ((hb2 x hn).trans ev) h) hb
end
end Mine
end

section
set_option backward.match.sparseCases false
open PySem PySem.W PySem.Calls PyProof.Rows
set_option Elab.async false
namespace Mine

section
variable {g : Gl} {c : Cx} {A : Around} {s : Shared} {M : Mu}


/- the same, case by case -/
inductive BinC (K : D → Prop) : Operator → D → D → Prop
  | add {a b : Int} : K (.int (a + b)) → BinC K .Add (.int a) (.int b)
  | sub {a b : Int} : K (.int (a - b)) → BinC K .Sub (.int a) (.int b)
  | mul {a b : Int} : IntMulOk a b → K (.int (a * b)) → BinC K .Mult (.int a) (.int b)
  | mod {a b : Int} : b ≠ 0 → K (.int (a.fmod b)) → BinC K .Mod (.int a) (.int b)
  | fdiv {a b : Int} : b ≠ 0 ∧ b.natAbs < 1073741824 → K (.int (a.fdiv b)) → BinC K .FloorDiv (.int a) (.int b)
  | pow {a b : Int} : 0 ≤ b ∧ b ≤ 1000000 ∧ a.natAbs < 2 ^ 64 → K (.int (a ^ b.toNat)) → BinC K .Pow (.int a) (.int b)
  | lst {a b : List D} : a.length + b.length ≤ 100000 → K (.lst (a ++ b)) → BinC K .Add (.lst a) (.lst b)
  | tup {a b : List D} : a.length + b.length ≤ 100000 → K (.tup (a ++ b)) → BinC K .Add (.tup a) (.tup b)
inductive SubC (K : D → Prop) : D → D → Prop
  | tup {l : List D} {k : Int} {x : D} : idx l k = some x → K x → SubC K (.tup l) (.int k)
  | lst {l : List D} {k : Int} {x : D} : idx l k = some x → K x → SubC K (.lst l) (.int k)
  | dct {ks : List Str} {vs : List D} {k : Str} {x : D} : getK ks vs k = some x → K x → SubC K (.dct ks vs) (.str k)
inductive EqC (K : Bool → Prop) : D → D → Prop
  | str {x y : Str} : K (x == y) → EqC K (.str x) (.str y)
  | int {x y : Int} : K (x == y) → EqC K (.int x) (.int y)
  | dat {a b : D} : eqOk a b → K (PyData.eqv a.py b.py) → EqC K a b
inductive BltC (K : D → Prop) : Blt → List D → Prop
  | lenL {l : List D} : l.length ≤ 100000 → K (.int l.length) → BltC K .len [.lst l]
  | lenT {l : List D} : l.length ≤ 100000 → K (.int l.length) → BltC K .len [.tup l]
  | tupL {l : List D} : l.length ≤ 100000 → K (.tup l) → BltC K .tuple [.lst l]
  | tupT {l : List D} : K (.tup l) → BltC K .tuple [.tup l]
  | max {l : List D} {i : Int} {is : List Int} : intsOf l = some (i :: is) → K (.int (is.foldl max i)) → BltC K .max [.lst l]
  | isI {i : Int} {n : String} : n = "int" → K (.bool true) → BltC K .isinstance [.int i, .ty n]
  | isS {i : Str} {n : String} : n = "int" → K (.bool false) → BltC K .isinstance [.str i, .ty n]
  | isN {n : String} : n = "int" → K (.bool false) → BltC K .isinstance [.none, .ty n]

theorem bin_old {op : Operator} {a b : D} {K : D → Prop} (h : binP op a b K) : BinC K op a b := by
  cases a with
  | int x =>
    cases b with
    | int y =>
      cases op with
      | Add => exact .add h
      | Sub => exact .sub h
      | Mult => exact .mul h.1 h.2
      | Mod => exact .mod h.1 h.2
      | FloorDiv => exact .fdiv h.1 h.2
      | Pow => exact .pow h.1 h.2
      | _ => exact False.elim h
    | _ => exact False.elim h
  | lst x =>
    cases b with
    | lst y =>
      cases op with
      | Add => exact .lst h.1 h.2
      | _ => exact False.elim h
    | _ => exact False.elim h
  | tup x =>
    cases b with
    | tup y =>
      cases op with
      | Add => exact .tup h.1 h.2
      | _ => exact False.elim h
    | _ => exact False.elim h
  | _ => exact False.elim h
theorem sub_of {o : Option D} {K : D → Prop} {P : Prop} (h : match o with | some x => K x | none => False) (k : ∀ x, o = some x → K x → P) : P := by
  cases o with
  | none => exact h.elim
  | some x => exact k x rfl h
theorem sub_old {a b : D} {K : D → Prop} (h : subP a b K) : SubC K a b := by
  cases a with
  | tup l =>
    cases b with
    | int k => exact sub_of h fun _ e h => .tup e h
    | _ => exact False.elim h
  | lst l =>
    cases b with
    | int k => exact sub_of h fun _ e h => .lst e h
    | _ => exact False.elim h
  | dct ks vs =>
    cases b with
    | str k => exact sub_of h fun _ e h => .dct e h
    | _ => exact False.elim h
  | _ => exact False.elim h
theorem eq_old {a b : D} {K : Bool → Prop} (h : eqP a b K) : EqC K a b := by
  cases a with
  | str x =>
    cases b with
    | str y => exact .str h
    | _ => exact .dat h.1 h.2
  | int x =>
    cases b with
    | int y => exact .int h
    | _ => exact .dat h.1 h.2
  | _ => exact .dat h.1 h.2
theorem max_old {l : List D} {K : D → Prop} (h : bltP .max [.lst l] K) : BltC K .max [.lst l] := by
  have h : (match (match intsOf l with | some is => (match is with | i :: is => some ((none : Option Prop), D.int (is.foldl max i)) | [] => none) | none => none) with | some (s, d) => withSide s (K d) | none => False) := h
  cases e : intsOf l with
  | none => rw [e] at h; exact False.elim h
  | some is =>
    rw [e] at h
    cases is with
    | nil => exact False.elim h
    | cons i is => exact .max e h
theorem blt_old {b : Blt} {ds : List D} {K : D → Prop} (h : bltP b ds K) : BltC K b ds := by
  cases ds with
  | nil => exact False.elim h
  | cons d r =>
    cases r with
    | nil =>
      cases b with
      | len =>
        cases d with
        | lst l => exact .lenL h.1 h.2
        | tup l => exact .lenT h.1 h.2
        | _ => exact False.elim h
      | tuple =>
        cases d with
        | lst l => exact .tupL h.1 h.2
        | tup l => exact .tupT h
        | _ => exact False.elim h
      | max =>
        cases d with
        | lst l => exact max_old h
        | _ => exact False.elim h
      | isinstance => exact False.elim h
    | cons t r =>
      cases r with
      | cons _ _ => exact False.elim h
      | nil =>
        cases b with
        | isinstance =>
          cases t with
          | ty n =>
            cases d with
            | int i => exact .isI h.1 h.2
            | str i => exact .isS h.1 h.2
            | none => exact .isN h.1 h.2
            | _ => exact False.elim h
          | _ => exact False.elim h
        | _ => exact False.elim h

/-- what v is, by what it stands for -/
noncomputable def RepI (g : Gl) (sp : Sp) (bad : Addr → Prop) (h : Heap) (v : Value) : D → Prop
  | .none => v = .none
  | .bool b => v = .bool b
  | .int i => ∃ t, v = .int i t
  | .str x => ∃ t, v = .str x t
  | .ty n => v = .type n
  | .tup l => ∀ P : Value → Prop, (∀ (a : Addr) (vs : List Value) (n : Nat), h.get? a = some (tupO vs n) → ¬ bad a → RepAll g sp bad h vs l → P (.ref a)) → P v
  | .lst l => ∀ P : Value → Prop, (∀ (a : Addr) (vs : List Value) (n : Nat), h.get? a = some (lstO vs n) → ¬ bad a → RepAll g sp bad h vs l → P (.ref a)) → P v
  | .src => ∀ P : Value → Prop, (∀ a : Addr, sp.sa = some a → P (.ref a)) → P v
  | .noted => ∀ P : Value → Prop, (∀ f a : Addr, sp.fa = some a → NotedAt h bad f a → P (.ref f)) → P v
  | .dct ks ds => ∀ P : Value → Prop, (∀ (a : Addr) (vs : List Value), h.DictOf (strKind pw g.w) a (ks.zip vs) → ¬ bad a → ks.length = vs.length → RepAll g sp bad h vs ds → P (.ref a)) → P v
  | .rel ks ds => ∀ P : Value → Prop, (∀ (x a : Addr) (v : Value), sp.pa = some a → InstB h bad x g.CR (relM v a) → Rep g sp bad h v (.dct ks ds) → P (.ref x)) → P v
  | .bod ls bs => ∀ P : Value → Prop, (∀ (x : Addr) (v1 v2 : Value) (m : Str → Option Value), InstB h bad x g.CB m → m (Str.ofString "locals") = some v1 → m (Str.ofString "blocks") = some v2 → Rep g sp bad h v1 (.lst ls) → Rep g sp bad h v2 (.lst bs) → P (.ref x)) → P v
theorem Rep.inv {sp : Sp} {bad : Addr → Prop} {h : Heap} {v : Value} {d : D} (r : Rep g sp bad h v d) : RepI g sp bad h v d := by
  cases r with
  | none => exact rfl
  | bool b => exact rfl
  | int i t => exact ⟨t, rfl⟩
  | str x t => exact ⟨t, rfl⟩
  | ty n => exact rfl
  | tup e n r => exact fun P k => k _ _ _ e n r
  | lst e n r => exact fun P k => k _ _ _ e n r
  | dct e n ns r => exact fun P k => k _ _ e n ns r
  | src e => exact fun P k => k _ e
  | noted e n => exact fun P k => k _ _ e n
  | rel e i r => exact fun P k => k _ _ _ e i r
  | bod i e1 e2 r1 r2 => exact fun P k => k _ _ _ _ i e1 e2 r1 r2
section
variable {sp : Sp} {bad : Addr → Prop} {h : Heap} {v : Value} {P : Value → Prop}
@[elab_as_elim] theorem Rep.int_el {i : Int} (r : Rep g sp bad h v (.int i)) (k : ∀ t, P (.int i t)) : P v := let ⟨t, e⟩ := (show ∃ t, v = .int i t from r.inv); e ▸ k t
@[elab_as_elim] theorem Rep.str_el {i : Str} (r : Rep g sp bad h v (.str i)) (k : ∀ t, P (.str i t)) : P v := let ⟨t, e⟩ := (show ∃ t, v = .str i t from r.inv); e ▸ k t
@[elab_as_elim] theorem Rep.bool_el {i : Bool} (r : Rep g sp bad h v (.bool i)) (k : P (.bool i)) : P v := (show v = .bool i from r.inv) ▸ k
@[elab_as_elim] theorem Rep.none_el (r : Rep g sp bad h v .none) (k : P .none) : P v := (show v = .none from r.inv) ▸ k
@[elab_as_elim] theorem Rep.ty_el {n : String} (r : Rep g sp bad h v (.ty n)) (k : P (.type n)) : P v := (show v = .type n from r.inv) ▸ k
@[elab_as_elim] theorem Rep.lst_el {l : List D} (r : Rep g sp bad h v (.lst l)) (k : ∀ (a : Addr) (vs : List Value) (n : Nat), h.get? a = some (lstO vs n) → ¬ bad a → RepAll g sp bad h vs l → P (.ref a)) : P v := r.inv P k
@[elab_as_elim] theorem Rep.tup_el {l : List D} (r : Rep g sp bad h v (.tup l)) (k : ∀ (a : Addr) (vs : List Value) (n : Nat), h.get? a = some (tupO vs n) → ¬ bad a → RepAll g sp bad h vs l → P (.ref a)) : P v := r.inv P k
@[elab_as_elim] theorem Rep.src_el (r : Rep g sp bad h v .src) (k : ∀ a : Addr, sp.sa = some a → P (.ref a)) : P v := r.inv P k
@[elab_as_elim] theorem Rep.noted_el (r : Rep g sp bad h v .noted) (k : ∀ f a : Addr, sp.fa = some a → NotedAt h bad f a → P (.ref f)) : P v := r.inv P k
@[elab_as_elim] theorem Rep.dct_el {ks : List Str} {ds : List D} (r : Rep g sp bad h v (.dct ks ds)) (k : ∀ (a : Addr) (vs : List Value), h.DictOf (strKind pw g.w) a (ks.zip vs) → ¬ bad a → ks.length = vs.length → RepAll g sp bad h vs ds → P (.ref a)) : P v := r.inv P k
@[elab_as_elim] theorem Rep.rel_el {ks : List Str} {ds : List D} (r : Rep g sp bad h v (.rel ks ds)) (k : ∀ (x a : Addr) (v : Value), sp.pa = some a → InstB h bad x g.CR (relM v a) → Rep g sp bad h v (.dct ks ds) → P (.ref x)) : P v := r.inv P k
@[elab_as_elim] theorem Rep.bod_el {ls bs : List D} (r : Rep g sp bad h v (.bod ls bs)) (k : ∀ (x : Addr) (v1 v2 : Value) (m : Str → Option Value), InstB h bad x g.CB m → m (Str.ofString "locals") = some v1 → m (Str.ofString "blocks") = some v2 → Rep g sp bad h v1 (.lst ls) → Rep g sp bad h v2 (.lst bs) → P (.ref x)) : P v := r.inv P k
theorem Rep.inv_int {i : Int} (r : Rep g sp bad h v (.int i)) : ∃ t, v = .int i t := r.int_el fun t => ⟨t, rfl⟩
theorem Rep.inv_bool {i : Bool} (r : Rep g sp bad h v (.bool i)) : v = .bool i := r.bool_el rfl
theorem Rep.inv_lst {l : List D} (r : Rep g sp bad h v (.lst l)) : ∃ a vs n, v = .ref a ∧ h.get? a = some (lstO vs n) ∧ ¬ bad a ∧ RepAll g sp bad h vs l := r.lst_el fun a vs n e nb r => ⟨a, vs, n, rfl, e, nb, r⟩
/-- the parts of values -/
noncomputable def RepAllI (g : Gl) (sp : Sp) (bad : Addr → Prop) (h : Heap) (vs : List Value) : List D → Prop
  | [] => vs = []
  | d :: ds => ∃ v r, vs = v :: r ∧ Rep g sp bad h v d ∧ RepAll g sp bad h r ds
theorem RepAll.inv {vs : List Value} {ds : List D} (r : RepAll g sp bad h vs ds) : RepAllI g sp bad h vs ds := by
  cases r with
  | nil => exact rfl
  | cons a r => exact ⟨_, _, rfl, a, r⟩
@[elab_as_elim] theorem RepAll.nil_el {P : List Value → Prop} {vs : List Value} (r : RepAll g sp bad h vs []) (k : P []) : P vs := (show vs = [] from r.inv) ▸ k
@[elab_as_elim] theorem RepAll.cons_el {P : List Value → Prop} {vs : List Value} {d : D} {ds : List D} (r : RepAll g sp bad h vs (d :: ds)) (k : ∀ v vs, Rep g sp bad h v d → RepAll g sp bad h vs ds → P (v :: vs)) : P vs :=
  let ⟨v, w, e, a, b⟩ := (show ∃ v w, vs = v :: w ∧ Rep g sp bad h v d ∧ RepAll g sp bad h w ds from r.inv); e ▸ k v w a b
@[elab_as_elim] theorem RepAll.one_el {P : List Value → Prop} {vs : List Value} {d : D} (r : RepAll g sp bad h vs [d]) (k : ∀ v, Rep g sp bad h v d → P [v]) : P vs := r.cons_el fun v _ a b => b.nil_el (k v a)
@[elab_as_elim] theorem RepAll.two_el {P : List Value → Prop} {vs : List Value} {d e : D} (r : RepAll g sp bad h vs [d, e]) (k : ∀ v w, Rep g sp bad h v d → Rep g sp bad h w e → P [v, w]) : P vs := r.cons_el fun v _ a b => b.one_el (k v · a)
end

theorem bin_ok {op : Operator} {a b : Value} {x y : D} {K : D → Prop} {K' : KE} (w : W g c.sp c.bad s.heap) (m : MuOk g c.sp c.bad s.heap M) (ra : Rep g c.sp c.bad s.heap a x) (rb : Rep g c.sp c.bad s.heap b y) (h : binP op x y K) (hK : ∀ d, K d → K' d M) :
    Ex g c A s (binaryOp op a b) (RV g c) K' := by
  cases bin_old h with
  | add q =>
    refine ra.int_el fun t => ?_
    refine rb.int_el fun u => ?_
    exact add_int (Ex.done (h' := s.heap) (.refl _) (hK _ q) (.int _ _) m)
  | sub q =>
    refine ra.int_el fun t => ?_
    refine rb.int_el fun u => ?_
    exact sub_int (Ex.done (h' := s.heap) (.refl _) (hK _ q) (.int _ _) m)
  | mul h1 q =>
    refine ra.int_el fun t => ?_
    refine rb.int_el fun u => ?_
    exact mul_int (Ex.done (h' := s.heap) (.refl _) (hK _ q) (.int _ _) m) h1
  | mod h1 q =>
    refine ra.int_el fun t => ?_
    refine rb.int_el fun u => ?_
    exact mod_int h1 (Ex.done (h' := s.heap) (.refl _) (hK _ q) (.int _ _) m)
  | fdiv h1 q =>
    refine ra.int_el fun t => ?_
    refine rb.int_el fun u => ?_
    exact floordiv_int h1.1 (Ex.done (h' := s.heap) (.refl _) (hK _ q) (.int _ _) m) (.inl (PyProof.noPylong_small h1.2))
  | pow h1 q =>
    refine ra.int_el fun t => ?_
    refine rb.int_el fun u => ?_
    exact pow_int_small h1.1 h1.2.1 h1.2.2 (Ex.done (h' := s.heap) (.refl _) (hK _ q) (.int _ _) m)
  | lst h1 q =>
    refine ra.lst_el fun l vs n e nb r => ?_
    refine rb.lst_el fun l2 vs2 n2 e2 nb2 r2 => ?_
    exact addL e e2 (by rw [r.length, r2.length]; exact h1) (Ex.done (.push _ _) (hK _ q) (new_lst w (r.append r2)) (m.keep (push_keep _ _)))
  | tup h1 q =>
    refine ra.tup_el fun l vs n e nb r => ?_
    refine rb.tup_el fun l2 vs2 n2 e2 nb2 r2 => ?_
    refine addT e e2 (by rw [r.length, r2.length]; exact h1) (fun z => ?_) (fun z => ?_) (Ex.done (.push _ _) (hK _ q) (new_tup w (r.append r2)) (m.keep (push_keep _ _)))
    · subst z
      cases r
      exact Ex.done (.refl _) (hK _ q) (.tup e2 nb2 r2) m
    · subst z
      cases r2
      exact Ex.done (.refl _) (hK _ q) (by rw [List.append_nil]; exact .tup e nb r) m

theorem idx_some {l : List D} {k : Int} {x : D} (h : idx l k = some x) : -(2 ^ 63) ≤ k ∧ k < 2 ^ 63 ∧ ∃ j, seqIndex? k l.length = some j ∧ l[j]? = some x := by
  unfold idx at h
  split at h
  · rename_i q
    obtain ⟨j, h1, h2⟩ := Option.bind_eq_some_iff.mp h
    exact ⟨q.1, q.2, j, h1, h2⟩
  · cases h
theorem zip_get {sp : Sp} {bad : Addr → Prop} {h : Heap} {ks : List Str} {vs : List Value} {ds : List D} {x : Str} {d : D} (l : ks.length = vs.length) (r : RepAll g sp bad h vs ds) (e : getK ks ds x = some d) :
    ∃ v, valueAt (ks.zip vs) x = some v ∧ Rep g sp bad h v d := by
  refine RepAll.ind (m2 := fun vs ds => ∀ ks : List Str, ks.length = vs.length → getK ks ds x = some d → ∃ v, valueAt (ks.zip vs) x = some v ∧ Rep g sp bad h v d) r (fun ks l e => ?_) (fun {v d1 vs ds} a _ ih ks l e => ?_) ks l e
  · cases ks with
    | nil => exact none_some e
    | cons _ _ => exact none_some e
  · cases ks with
    | nil => exact none_some e
    | cons y ks =>
      have e : (match y == x with | true => some d1 | false => getK ks ds x) = some d := e
      unfold valueAt
      rw [List.zip_cons_cons]
      cases z : (y == x) with
      | true =>
        rw [z] at e
        refine ⟨v, ?_, Option.some.inj e ▸ a⟩
        rw [List.find?_cons_of_pos (by simpa using z)]; rfl
      | false =>
        rw [z] at e
        obtain ⟨u, h1, h2⟩ := ih ks (Nat.succ.inj l) e
        refine ⟨u, ?_, h2⟩
        rw [List.find?_cons_of_neg (by simpa using z)]; exact h1
theorem sub_ok {v i : Expr} {a b : Value} {x y : D} {K : D → Prop} {K' : KE} (m : MuOk g c.sp c.bad s.heap M) (ra : Rep g c.sp c.bad s.heap a x) (rb : Rep g c.sp c.bad s.heap b y) (h : subP x y K) (hK : ∀ d, K d → K' d M)
    (hs : ∀ a b, subscripted i false a b = operate [a, b] (getItem a b)) : Ex g c A s (subscriptTail v i a b) (RV g c) K' := by
  cases sub_old h with
  | tup hx q =>
    obtain ⟨h1, h2, j, h3, h4⟩ := idx_some hx
    refine ra.tup_el fun l vs n e nb r => ?_
    refine rb.int_el fun t => ?_
    obtain ⟨y, h5, h6⟩ := r.get h4
    exact itemT e h1 h2 (by rw [r.length]; exact h3) h5 (hs _ _) (Ex.done (.refl _) (hK _ q) h6 m)
  | lst hx q =>
    obtain ⟨h1, h2, j, h3, h4⟩ := idx_some hx
    refine ra.lst_el fun l vs n e nb r => ?_
    refine rb.int_el fun t => ?_
    obtain ⟨y, h5, h6⟩ := r.get h4
    exact itemL e h1 h2 (by rw [r.length]; exact h3) h5 (hs _ _) (Ex.done (.refl _) (hK _ q) h6 m)
  | dct hx q =>
    refine ra.dct_el fun a vs e nb ns r => ?_
    · refine rb.str_el fun t => ?_
      obtain ⟨u, h1, h2⟩ := zip_get ns r hx
      exact tail_any e.typeIs slot_dict_getitem.lookup (wpAny_getItem_of (strKind_is pw g.w _ t) e.mapOf (v := u) h1 (Ex.done (h' := s.heap) (.refl _) (hK _ q) h2 m)) (hs _ _)

theorem srcAt_inv {k : Int} {K : D → Prop} (h : srcAt k K) : (k = 0 ∧ ∀ x : Int, 0 ≤ x → K (.int x)) ∨ (k = 1 ∧ ∀ y : Int, 0 ≤ y → y < 2147483647 → K (.int y)) := by
  cases k with
  | negSucc _ => exact False.elim h
  | ofNat j =>
    cases j with
    | zero => exact .inl ⟨rfl, h⟩
    | succ j =>
      cases j with
      | zero => exact .inr ⟨rfl, h⟩
      | succ _ => exact False.elim h
theorem src_ok {v i : Expr} {a b : Value} {j : Int} {K' : KE} (m : MuOk g c.sp c.bad s.heap M) (ra : Rep g c.sp c.bad s.heap a .src) (rb : Rep g c.sp c.bad s.heap b (.int j)) (h : srcAt j fun d => K' d M)
    (hs : ∀ a b, subscripted i false a b = operate [a, b] (getItem a b)) : Ex g c A s (subscriptTail v i a b) (RV g c) K' := by
  refine ra.src_el fun a hsa => ?_
  · refine rb.int_el fun t => ?_
    obtain ⟨x, y, t1, u1, e, ok⟩ := m.src _ hsa
    rcases srcAt_inv h with ⟨rfl, h⟩ | ⟨rfl, h⟩
    · exact itemS (k := 0) e (by decide) rfl (hs _ _) (Ex.done (h' := s.heap) (.refl _) (h x ok.1) (.int _ _) m)
    · exact itemS (k := 1) e (by decide) rfl (hs _ _) (Ex.done (h' := s.heap) (.refl _) (h y ok.2.1 ok.2.2) (.int _ _) m)

theorem shaped_of {d : D} (h : d.ok = true) (k : d.py.depth ≤ 40) : SeqAt.shaped d.py = true := by
  unfold SeqAt.shaped
  rw [D.lay0 h, Bool.true_and]
  exact decide_eq_true (by omega)
theorem eq_ok {a b : Value} {x y : D} {K : Bool → Prop} {Q : Value → Shared → Prop} {E : Value → Shared → Prop} (hA : A.units + 200 < cLine) (ra : Rep g c.sp c.bad s.heap a x) (rb : Rep g c.sp c.bad s.heap b y) (h : eqP x y K) (hK : ∀ r, K r → Q (.bool r) s) :
    wpAny (model pw g.w) A (compareOp .Eq a b) Q E s := by
  cases eq_old h with
  | str q =>
    refine ra.str_el fun t => ?_
    refine rb.str_el fun u => ?_
    exact eq_str (hK _ q)
  | int q =>
    refine ra.int_el fun t => ?_
    refine rb.int_el fun u => ?_
    exact eq_int (hK _ q)
  | dat h1 q =>
    obtain ⟨o1, o2, d1, d2⟩ := h1
    obtain ⟨as, r1⟩ := ra.reads o1
    obtain ⟨bs, r2⟩ := rb.reads o2
    exact eq_dataH r1 r2 (shaped_of o1 d1) (shaped_of o2 d2) (by omega) (hK _ q)
theorem ne_ok {a b : Value} {x y : D} {K : Bool → Prop} {Q : Value → Shared → Prop} {E : Value → Shared → Prop} (hA : A.units + 200 < cLine) (ra : Rep g c.sp c.bad s.heap a x) (rb : Rep g c.sp c.bad s.heap b y) (h : eqP x y K) (hK : ∀ r, K r → Q (.bool (!r)) s) :
    wpAny (model pw g.w) A (compareOp .NotEq a b) Q E s := by
  cases eq_old h with
  | str q =>
    refine ra.str_el fun t => ?_
    refine rb.str_el fun u => ?_
    exact ne_str (hK _ q)
  | int q =>
    refine ra.int_el fun t => ?_
    refine rb.int_el fun u => ?_
    exact ne_int (hK _ q)
  | dat h1 q =>
    obtain ⟨o1, o2, d1, d2⟩ := h1
    obtain ⟨as, r1⟩ := ra.reads o1
    obtain ⟨bs, r2⟩ := rb.reads o2
    exact ne_dataH r1 r2 (shaped_of o1 d1) (shaped_of o2 d2) (by omega) (hK _ q)
theorem in_ok {a b : Value} {x : D} {l : List D} {K : Bool → Prop} {Q : Value → Shared → Prop} {E : Value → Shared → Prop} (hA : A.units + 200 < cLine) (ra : Rep g c.sp c.bad s.heap a x) (rb : Rep g c.sp c.bad s.heap b (.lst l) ∨ Rep g c.sp c.bad s.heap b (.tup l)) (h : inP x l K) (hK : ∀ r, K r → Q (.bool r) s) :
    wpAny (model pw g.w) A (compareOp .In a b) Q E s := by
  obtain ⟨⟨o1, o2, d1, d2⟩, h⟩ := h
  obtain ⟨as, r1⟩ := ra.reads o1
  have l2 : oks l = true := o2
  have l3 := lays0 l2
  have hd : A.units + 1 + min (PyData.depthAll (pys l)) x.py.depth < cLine := by
    have := Nat.min_le_right (PyData.depthAll (pys l)) x.py.depth
    omega
  rcases rb with rb | rb
  · obtain ⟨bs, r2⟩ := rb.reads o2
    exact SeqAt.in_list_reads r2 r1 l3 (D.lay0 o1) hd (hK _ h)
  · obtain ⟨bs, r2⟩ := rb.reads (l2)
    exact SeqAt.in_tuple_reads r2 r1 l3 (D.lay0 o1) hd (hK _ h)
theorem notIn_ok {a b : Value} {x : D} {l : List D} {K : Bool → Prop} {Q : Value → Shared → Prop} {E : Value → Shared → Prop} (hA : A.units + 200 < cLine) (ra : Rep g c.sp c.bad s.heap a x) (rb : (∃ as, Reads s.heap b (.list (pys l)) as) ∨ Rep g c.sp c.bad s.heap b (.tup l)) (h : inP x l K) (hK : ∀ r, K r → Q (.bool (!r)) s) :
    wpAny (model pw g.w) A (compareOp .NotIn a b) Q E s := by
  obtain ⟨⟨o1, o2, d1, d2⟩, h⟩ := h
  obtain ⟨as, r1⟩ := ra.reads o1
  have l2 : oks l = true := o2
  have l3 := lays0 l2
  have hd : A.units + 1 + min (PyData.depthAll (pys l)) x.py.depth < cLine := by
    have := Nat.min_le_right (PyData.depthAll (pys l)) x.py.depth
    omega
  rcases rb with ⟨bs, r2⟩ | rb
  · exact SeqAt.notIn_list_reads r2 r1 l3 (D.lay0 o1) hd (hK _ h)
  · obtain ⟨bs, r2⟩ := rb.reads (l2)
    exact SeqAt.notIn_tuple_reads r2 r1 l3 (D.lay0 o1) hd (hK _ h)
theorem reads_lst {sp bad h} {b : Value} {l : List D} (rb : Rep g sp bad h b (.lst l)) (o : oks l = true) : ∃ as, Reads h b (.list (pys l)) as := by
  obtain ⟨bs, r2⟩ := rb.reads (o)
  exact ⟨bs, r2⟩
theorem ints_inv {a b : D} {K : Int → Int → Prop} (h : intP a b K) : ∃ i j, a = .int i ∧ b = .int j ∧ K i j := by
  cases a with
  | int i =>
    cases b with
    | int j => exact ⟨i, j, rfl, rfl, h⟩
    | _ => exact False.elim h
  | _ => exact False.elim h
theorem seq_inv {a : D} {Q : List D → Prop} (h : optP (seqOf a) False Q) : ∃ l, (a = .lst l ∨ a = .tup l) ∧ Q l := by
  cases a with
  | lst l => exact ⟨l, .inl rfl, h⟩
  | tup l => exact ⟨l, .inr rfl, h⟩
  | _ => exact False.elim h
theorem cmp_ok {op : CmpOp} {a b : Value} {x y : D} {K : Bool → Prop} {Q : Value → Shared → Prop} {E : Value → Shared → Prop} (hA : A.units + 200 < cLine) (ra : Rep g c.sp c.bad s.heap a x) (rb : Rep g c.sp c.bad s.heap b y) (h : cmpP op x y K) (hK : ∀ r, K r → Q (.bool r) s) :
    wpAny (model pw g.w) A (compareOp op a b) Q E s := by
  cases op with
  | Eq => exact eq_ok hA ra rb h hK
  | NotEq => exact ne_ok (K := fun c => K (!c)) hA ra rb h fun r q => hK _ q
  | Lt =>
    obtain ⟨i, j, rfl, rfl, q⟩ := ints_inv h
    exact ra.int_el fun t => rb.int_el fun u => lt_int (hK _ q)
  | Gt =>
    obtain ⟨i, j, rfl, rfl, q⟩ := ints_inv h
    exact ra.int_el fun t => rb.int_el fun u => gt_int (hK _ q)
  | GtE =>
    obtain ⟨i, j, rfl, rfl, q⟩ := ints_inv h
    exact ra.int_el fun t => rb.int_el fun u => ge_int (hK _ q)
  | In =>
    obtain ⟨l, rfl | rfl, q⟩ := seq_inv h
    · exact in_ok hA ra (.inl rb) q hK
    · exact in_ok hA ra (.inr rb) q hK
  | NotIn =>
    obtain ⟨l, rfl | rfl, q⟩ := seq_inv h
    · exact notIn_ok hA ra (.inl (reads_lst rb (q.1.2.1))) q fun r q => hK _ q
    · exact notIn_ok hA ra (.inr rb) q fun r q => hK _ q
  | _ => exact False.elim h

theorem ints_are {sp bad h} {vs : List Value} {l : List D} {ns : List Int} (r : RepAll g sp bad h vs l) (e : intsOf l = some ns) : IntsAre vs ns := by
  refine RepAll.ind (m2 := fun vs l => ∀ ns, intsOf l = some ns → IntsAre vs ns) r (fun ns e => Option.some.inj e ▸ .nil) (fun {v d vs ds} a _ ih ns e => ?_) ns e
  cases d with
  | int i =>
    obtain ⟨ms, h1, h2⟩ := Option.map_eq_some_iff.mp (show (intsOf ds).map (i :: ·) = some ns from e)
    exact h2 ▸ a.int_el fun t => .cons _ _ (ih ms h1)
  | _ => exact none_some e
theorem max_is : ∀ (is : List Int) (i m : Int), m ∈ i :: is → (∀ a ∈ i :: is, a ≤ m) → m = is.foldl max i
  | [], i, m, h, _ => by simpa using h
  | j :: r, i, m, h, k => by
    rw [List.foldl_cons]
    refine max_is r (max i j) m ?_ fun a ha => ?_
    · have hi := k i (.head _)
      have hj := k j (.tail _ (.head _))
      simp only [List.mem_cons] at h ⊢
      rcases h with rfl | rfl | h
      · exact .inl (by omega)
      · exact .inl (by omega)
      · exact .inr h
    · have hi := k i (.head _)
      have hj := k j (.tail _ (.head _))
      rcases List.mem_cons.mp ha with rfl | ha
      · omega
      · exact k a (.tail _ (.tail _ ha))
noncomputable def bltV : Blt → Value
  | .len => .builtin "len" | .tuple => .type "tuple" | .max => .builtin "max" | .isinstance => .builtin "isinstance"
theorem bltP_ok {b : Blt} {vs : List Value} {ds : List D} {K : D → Prop} {K' : KE} (hh : A.handled = none) (w : W g c.sp c.bad s.heap) (m : MuOk g c.sp c.bad s.heap M) (r : RepAll g c.sp c.bad s.heap vs ds) (h : bltP b ds K) (hK : ∀ d, K d → K' d M) : Ex g c A s (call (bltV b) vs) (RV g c) K' := by
  cases blt_old h with
  | lenL h1 q =>
    refine r.one_el fun v r1 => ?_
    · clear r
      refine r1.lst_el fun l vs n e nb r => ?_
      exact lenL e (by rw [r.length]; exact h1) (Ex.done (h' := s.heap) (.refl _) (hK _ q) (by rw [r.length]; exact .int _ _) m)
  | lenT h1 q =>
    refine r.one_el fun v r1 => ?_
    · clear r
      refine r1.tup_el fun l vs n e nb r => ?_
      exact lenT e (by rw [r.length]; exact h1) (Ex.done (h' := s.heap) (.refl _) (hK _ q) (by rw [r.length]; exact .int _ _) m)
  | tupL h1 q =>
    refine r.one_el fun v r1 => ?_
    · clear r
      refine r1.lst_el fun l vs n e nb r => ?_
      exact tupL e (by rw [r.length]; exact h1) fun h' k => Ex.done ((Kp.of_keep k).trans (.push _ _)) (hK _ q) (new_tup (w.keep k) (r.keep k)) ((m.keep k).keep (push_keep _ _))
  | tupT q =>
    refine r.one_el fun v r1 => ?_
    · clear r
      refine r1.tup_el fun l vs n e nb r => ?_
      exact tupT e (Ex.done (h' := s.heap) (.refl _) (hK _ q) (.tup e nb r) m)
  | max hi q =>
    refine r.one_el fun v r1 => ?_
    · clear r
      refine r1.lst_el fun l vs n e nb r => ?_
      refine maxL hh e (ints_are r hi) (by simp) fun h' x t tk k hx hm => ?_
      exact Ex.done (.of_keep k) (hK _ q) (by rw [max_is _ _ x hx hm]; exact .int _ _) (m.keep k)
  | isI h1 q =>
    subst h1
    exact r.two_el fun v w r1 r2 => r1.int_el fun _ => r2.ty_el (isi_int (Ex.done (h' := s.heap) (.refl _) (hK _ q) (.bool _) m))
  | isS h1 q =>
    subst h1
    exact r.two_el fun v w r1 r2 => r1.str_el fun _ => r2.ty_el (isi_str fun tk => Ex.done (h' := s.heap) (.refl _) (hK _ q) (.bool _) m)
  | isN h1 q =>
    subst h1
    exact r.two_el fun v w r1 r2 => r1.none_el (r2.ty_el (isi_none fun tk => Ex.done (h' := s.heap) (.refl _) (hK _ q) (.bool _) m))
end
end Mine
end

section
set_option backward.match.sparseCases false
open PySem PySem.W PySem.Calls PyProof.Rows
set_option Elab.async false
namespace Mine

/-- what r says of expressions is so -/
structure Snd (g : Gl) (n : Nat) (r : Ev) : Prop where
  E : ∀ (e : Expr) (c : Cx) (f : Fm) (A : Around) (s : Shared) (M : Mu) (K : KE), St g c f s.heap → MuOk g c.sp c.bad s.heap M → Room A n → r.E e f M K → Ex g c A s (eval e c.env) (RV g c) K
  T : ∀ (e : Expr) (c : Cx) (f : Fm) (A : Around) (s : Shared) (M : Mu) (K : Bool → Mu → Prop), St g c f s.heap → MuOk g c.sp c.bad s.heap M → Room A n → r.T e f M K → Ex g c A s (isTrue e c.env (eval e c.env)) RB K

theorem room_units {A : Around} {n : Nat} (r : Room A n) : A.units + 200 < cLine := by have := r.2.1; omega
theorem star_pl {e : Expr} (h : pl e = true) (es : List Expr) (env : Env) : starEach (e :: es) env = (false, eval e env) :: starEach es env := by cases e <;> first | rfl | exact fa_tr h
theorem slice_pl {e : Expr} (h : pl e = true) (a b : Value) : subscripted e false a b = operate [a, b] (getItem a b) := by cases e <;> first | rfl | exact fa_tr h
theorem marks_pl {e : Expr} {op : CmpOp} (h : pl e = true) : behindInMarks op e = false := by cases e <;> first | rfl | exact fa_tr h
theorem back_cons {e : Expr} (h : pl e = true) (es : List Expr) (env : Env) (pos : Pos) : backTo pos (starEach (e :: es) env) = (false, eval e env) :: backTo pos (starEach es env) := by
  rw [star_pl h]; rfl
theorem back_plain (env : Env) (pos : Pos) : ∀ {es : List Expr}, es.all pl = true → (backTo pos (starEach es env)).any (·.1) = false
  | [], _ => rfl
  | e :: es, h => by
    rw [List.all_cons, Bool.and_eq_true] at h
    rw [back_cons h.1, List.any_cons, back_plain env pos h.2]; rfl
theorem plAll_all {es : List Expr} (h : plAll es = true) : es.all pl = true ∧ es.length ≤ 1000 := by
  unfold plAll at h
  rw [Bool.and_eq_true] at h
  exact ⟨h.1, Nat.le_of_ble_eq_true h.2⟩

section
variable {g : Gl} {c : Cx} {f : Fm} {A : Around} {s : Shared} {M : Mu} {n : Nat} {r : Ev}

noncomputable abbrev RVn (g : Gl) (c : Cx) (k : Nat) : Heap → List Value → List D → Prop := fun h v d => RepAll g c.sp c.bad h v d ∧ v.length = k
/-- the arguments, or the items of a display -/
theorem all_ok (S : Snd g n r) (pos : Pos) (R : Room A n) : ∀ {es : List Expr} {s : Shared} {M : Mu} {K : List D → Mu → Prop}, es.all pl = true → St g c f s.heap → MuOk g c.sp c.bad s.heap M → allE r es f M K → Ex g c A s (spliced (backTo pos (starEach es c.env))) (RVn g c es.length) K
  | [], s, M, K, _, X, m, h => spliced_nil (Ex.done (.refl _) h ⟨.nil, rfl⟩ m)
  | e :: es, s, M, K, hp, X, m, h => by
    rw [allE] at h
    rw [List.all_cons, Bool.and_eq_true] at hp
    rw [back_cons hp.1]
    refine spliced_cons ((S.E _ _ _ _ _ _ _ X m R h).then fun v h' tk d M' k h r1 m' => ?_)
    refine (all_ok S pos R hp.2 (X.next k) m' h).then fun vs h'' tk' ds M'' k' h r2 m'' => ?_
    exact Ex.done (k.trans k') h ⟨.cons (r1.up (k'.up X.w.mu)) r2.1, by rw [List.length_cons, List.length_cons, r2.2]⟩ m''

theorem tuple_ok (S : Snd g n r) {es : List Expr} {k : Nat} {pos : Pos} {K : KE} (X : St g c f s.heap) (m : MuOk g c.sp c.bad s.heap M) (R : Room A n) (hl : plAll es = true) (h : allE r es f M fun ds M1 => K (.tup ds) M1) :
    Ex g c A s (eval (.Tuple es k pos) c.env) (RV g c) K := by
  refine Tuple_ ((all_ok S pos R (plAll_all hl).1 X m h).then fun vs h' tk ds M' k h rs m' => ?_)
  exact wpAny_newTuple (Ex.done (k.trans (.push _ _)) h (new_tup (X.w.next k) rs.1) (m'.keep (push_keep _ _))) (by have := (plAll_all hl).2; rw [rs.2, sizeLine_eq]; omega)
theorem list_ok (S : Snd g n r) {es : List Expr} {pos : Pos} {K : KE} (X : St g c f s.heap) (m : MuOk g c.sp c.bad s.heap M) (R : Room A n) (hl : plAll es = true) (h : allE r es f M fun ds M1 => K (.lst ds) M1) :
    Ex g c A s (eval (.List es pos) c.env) (RV g c) K := by
  refine List_ ((all_ok S pos R (plAll_all hl).1 X m h).then fun vs h' tk ds M' k h rs m' => ?_)
  exact wpAny_newList (Ex.done (k.trans (.push _ _)) h (new_lst (X.w.next k) rs.1) (m'.keep (push_keep _ _))) (by have := (plAll_all hl).2; rw [rs.2, sizeLine_eq]; omega)
theorem binop_ok (S : Snd g n r) {l e : Expr} {op : Operator} {pos : Pos} {K : KE} (X : St g c f s.heap) (m : MuOk g c.sp c.bad s.heap M) (R : Room A n) (h : r.E l f M fun a M1 => r.E e f M1 fun b M2 => binP op a b fun d => K d M2) :
    Ex g c A s (eval (.BinOp l op e pos) c.env) (RV g c) K := by
  refine wpAny_BinOp ((S.E _ _ _ _ _ _ _ X m R h).then fun a h' tk x M' k h ra m' => ?_)
  refine (S.E _ _ _ _ _ _ _ (X.next k) m' R h).then fun b h'' tk' y M'' k' h rb m'' => ?_
  exact (bin_ok (s := { s with heap := h'', toks := tk' }) ((X.w.next k).next k') m'' (ra.up (k'.up X.w.mu)) rb h fun _ q => q).glue (k.trans k')
theorem ifexp_ok (S : Snd g n r) {t b o : Expr} {pos : Pos} {K : KE} (X : St g c f s.heap) (m : MuOk g c.sp c.bad s.heap M) (R : Room A n) (h : r.T t f M fun c M1 => match c with | true => r.E b f M1 K | false => r.E o f M1 K) :
    Ex g c A s (eval (.IfExp t b o pos) c.env) (RV g c) K := by
  refine IfExp_ ((S.T _ _ _ _ _ _ _ X m R h).then fun v h' tk d M' k h e m' => ?_)
  cases e
  cases v
  · exact (S.E _ _ _ _ _ _ _ (X.next k) m' R h).glue k
  · exact (S.E _ _ _ _ _ _ _ (X.next k) m' R h).glue k
theorem truthy_b {b : Bool} {Q : Bool → Shared → Prop} {E : Value → Shared → Prop} (h : Q b s) : wpAny (model pw g.w) A (truthy (.bool b)) Q E s := wpAny_truthy_bool h
theorem and_ok (S : Snd g n r) {a b : Expr} {pos : Pos} {K : KE} (X : St g c f s.heap) (m : MuOk g c.sp c.bad s.heap M) (R : Room A n) (h : r.E a f M fun d M1 => match d with | .bool c => (match c with | true => r.E b f M1 K | false => K (.bool false) M1) | _ => False) :
    Ex g c A s (eval (.BoolOp .And [a, b] pos) c.env) (RV g c) K := by
  refine BoolOp_and ((S.E _ _ _ _ _ _ _ X m R h).then fun v h' tk d M' k h rv m' => ?_)
  obtain ⟨q, rfl, h⟩ := bool_inv (Q := fun c => match c with | true => r.E b f M' K | false => K (.bool false) M') h
  refine rv.bool_el (truthy_b ?_)
  cases q
  · exact Ex.done k h (.bool _) m'
  · exact BoolOp_one ((S.E _ _ _ _ _ _ _ (X.next k) m' R h).glue k)
theorem usub_ok (S : Snd g n r) {x : Expr} {pos : Pos} {K : KE} (X : St g c f s.heap) (m : MuOk g c.sp c.bad s.heap M) (R : Room A n) (h : r.E x f M fun d M1 => match d with | .int i => K (.int (-i)) M1 | _ => False) :
    Ex g c A s (eval (.UnaryOp .USub x pos) c.env) (RV g c) K := by
  refine UnaryOp_ ((S.E _ _ _ _ _ _ _ X m R h).then fun v h' tk d M' k h rv m' => ?_)
  obtain ⟨i, rfl, h⟩ := int_inv (Q := fun i => K (.int (-i)) M') h
  exact rv.int_el fun t => neg_int (Ex.done (h' := h') k h (.int _ _) m')
theorem okN_of {x : Str} (h : okN x = true) : (x == Str.ofString "__debug__") = false ∧ (x == Str.ofString "__classdict__") = false ∧ x ≠ Str.ofString "__name__" := by
  unfold okN at h
  simp only [Bool.and_eq_true, Bool.not_eq_true'] at h
  exact ⟨h.1.1, h.1.2, fun e => by subst e; simp at h⟩
/-- a list that grows, read as what it holds now -/
theorem own_var {x : Str} {pos : Pos} {l : List D} {Q : Value → Shared → Prop} {E : Value → Shared → Prop} (X : St g c f s.heap) (ho : f.own.lookup x = some l) (hn : okN x = true)
    (h : ∀ a vs n, s.heap.get? a = some (lstO vs n) → c.bad a → ¬ c.sp.mu a → RepAll g c.sp c.bad s.heap vs l → Q (.ref a) s) : wpAny (model pw g.w) A (eval (.Name x pos) c.env) Q E s := by
  obtain ⟨a, vs, n, q, _, e, b, nm, _, rs⟩ := X.own x l ho
  have o := okN_of hn
  exact var_ok X q o.1 o.2.1 (h a vs n e b nm rs)
theorem srcP_inv {d k : D} {K : D → Prop} (h : srcP d k K) : d = .src ∧ ∃ j, k = .int j ∧ srcAt j K := by
  cases d with
  | src =>
    cases k with
    | int j => exact ⟨rfl, j, rfl, h⟩
    | _ => exact False.elim h
  | _ => exact False.elim h
theorem rel_inv {sp bad h} {v : Value} {ks : List Str} {vs : List D} (rv : Rep g sp bad h v (.rel ks vs)) : ∃ x a u, v = .ref x ∧ sp.pa = some a ∧ InstB h bad x g.CR (relM u a) ∧ Rep g sp bad h u (.dct ks vs) := rv.rel_el fun x a u h1 h2 h3 => ⟨x, a, u, rfl, h1, h2, h3⟩
theorem subscript_ok (S : Snd g n r) {v i : Expr} {pos : Pos} {K : KE} (X : St g c f s.heap) (m : MuOk g c.sp c.bad s.heap M) (R : Room A n) (h : subE r v i f M K) : Ex g c A s (eval (.Subscript v i pos) c.env) (RV g c) K := by
  obtain ⟨hp, h⟩ := rt_inv (b := pl i) h
  rcases op_inv h with ⟨⟨x, l⟩, ho, h7⟩ | ⟨_, h⟩
  · clear h
    obtain ⟨p2, rfl, hn, hl⟩ := own_at ho
    refine Subscript_ (own_var X hl hn fun a vs n0 e b nm rs => ?_)
    refine (S.E _ _ _ _ _ _ _ X m R h7).then fun b h' tk y M' k h rb m' => ?_
    -- what the list holds now is as good as a list that nobody changes
    cases sub_old h with
    | lst hx hk =>
      obtain ⟨h1, h2, j, h3, h4⟩ := idx_some hx
      refine rb.int_el fun t => ?_
      obtain ⟨y, h5, h6⟩ := (rs.up (k.up X.w.mu)).get h4
      exact itemL (s := { s with heap := h', toks := tk }) (k.keep _ _ e nm) h1 h2 (by rw [rs.length]; exact h3) h5 (slice_pl hp _ _) (Ex.done k hk h6 m')
  · rcases bl_inv (b := srcIs f v) h with ⟨_, h⟩ | ⟨_, h⟩
    · refine Subscript_ ((S.E _ _ _ _ _ _ _ X m R h).then fun a h' tk x M' k h ra m' => ?_)
      refine (S.E _ _ _ _ _ _ _ (X.next k) m' R h).then fun b h'' tk' y M'' k' h rb m'' => ?_
      obtain ⟨rfl, j, rfl, h7⟩ := srcP_inv h
      exact (src_ok (s := { s with heap := h'', toks := tk' }) m'' (ra.up (k'.up X.w.mu)) rb h7 (slice_pl hp)).glue (k.trans k')
    · refine Subscript_ ((S.E _ _ _ _ _ _ _ X m R h).then fun a h' tk x M' k h ra m' => ?_)
      refine (S.E _ _ _ _ _ _ _ (X.next k) m' R h).then fun b h'' tk' y M'' k' h rb m'' => ?_
      exact (sub_ok (s := { s with heap := h'', toks := tk' }) m'' (ra.up (k'.up X.w.mu)) rb h (fun _ q => q) (slice_pl hp)).glue (k.trans k')
end
end Mine
end

section
set_option backward.match.sparseCases false
open PySem PySem.W PySem.Calls PyProof.Rows
set_option Elab.async false
namespace Mine

section
variable {g : Gl} {c : Cx} {f : Fm} {A : Around} {s : Shared} {M : Mu} {n : Nat} {r : Ev} {Φ : Phi}

theorem handed_ref (a : Addr) : handedOut (.ref a) = pure (.ref a) := rfl
theorem obj_varied : typeLookup (.type "object") (Str.ofString "varied") = pure none := by rw [typeLookup_type, builtinLookup_eq_fast]; kernel_rfl
theorem obj_pairs : typeLookup (.type "object") (Str.ofString "pairs") = pure none := by rw [typeLookup_type, builtinLookup_eq_fast]; kernel_rfl
theorem obj_locals : typeLookup (.type "object") (Str.ofString "locals") = pure none := by rw [typeLookup_type, builtinLookup_eq_fast]; kernel_rfl
theorem obj_blocks : typeLookup (.type "object") (Str.ofString "blocks") = pure none := by rw [typeLookup_type, builtinLookup_eq_fast]; kernel_rfl
theorem str_ne {a b : String} (h : (Str.ofString a == Str.ofString b) = false) : Str.ofString a ≠ Str.ofString b := beq_eq_false_iff_ne.mp h
theorem relM_pairs (v : Value) (a : Addr) : relM v a (Str.ofString "pairs") = some (.ref a) := if_pos rfl
theorem relM_varied (v : Value) (a : Addr) : relM v a (Str.ofString "varied") = some v := by
  unfold relM
  rw [if_neg (str_ne (by decide +kernel)), if_pos rfl]
theorem get_rel {x a : Addr} {u : Value} {name : Str} {v : Value} {bad : Addr → Prop} {Q : Value → Shared → Prop} {E : Value → Shared → Prop} (G : GlOk g) (w : W g c.sp c.bad s.heap) (I : InstB s.heap bad x g.CR (relM u a)) (hv : relM u a name = some v) (hh : handedOut v = pure v)
    (hm : g.mR name = none) (hB : typeLookup (.type "object") name = pure none) (h : Q v { s with toks := s.toks + 1 }) : wpAny (model pw g.w) A (getAttr (.ref x) name true) Q E s := by
  obtain ⟨N, X⟩ := G.clsR
  have X := X.keeps w.base
  obtain ⟨hh', g', d, t, os⟩ := s
  obtain ⟨nm, q, bs, sn, sub, col, dd, k0, k1, k2, k3, k5, hC⟩ := X.obj
  exact load_attr hC X.ns (G.noR _ (.head _)) hm hB I.inst hv hh h
theorem get_bod {x : Addr} {mA : Str → Option Value} {name : Str} {v : Value} {bad : Addr → Prop} {Q : Value → Shared → Prop} {E : Value → Shared → Prop} (G : GlOk g) (w : W g c.sp c.bad s.heap) (I : InstB s.heap bad x g.CB mA) (hv : mA name = some v) (hh : handedOut v = pure v)
    (hm : g.mB name = none) (hB : typeLookup (.type "object") name = pure none) (h : Q v { s with toks := s.toks + 1 }) : wpAny (model pw g.w) A (getAttr (.ref x) name true) Q E s := by
  obtain ⟨N, X⟩ := G.clsB
  have X := X.keeps w.base
  obtain ⟨hh', g', d, t, os⟩ := s
  obtain ⟨nm, q, bs, sn, sub, col, dd, k0, k1, k2, k3, k5, hC⟩ := X.obj
  exact load_attr hC X.ns (G.noB _ (.head _)) hm hB I.inst hv hh h

theorem attribute_ok (G : GlOk g) (S : Snd g n r) {v : Expr} {a : Str} {pos : Pos} {K : KE} (X : St g c f s.heap) (m : MuOk g c.sp c.bad s.heap M) (R : Room A n) (hn : isName v = true) (h : r.E v f M fun d M1 => attrP d a fun x => K x M1) :
    Ex g c A s (eval (.Attribute v a pos) c.env) (RV g c) K := by
  obtain ⟨x, px, rfl⟩ := isName_inv hn
  refine Attribute_name ((S.E _ _ _ _ _ _ _ X m R h).then fun v h' tk d M' k h2 rv m' => ?_)
  clear h
  have w' := X.w.next k
  cases d with
  | rel ks ds =>
    obtain ⟨ha, h⟩ := tr_inv (b := a == Str.ofString "varied") h2
    · obtain rfl := eq_of_beq ha
      refine rv.rel_el fun x pa u e i rd => ?_
      have hh : handedOut u = pure u := rd.dct_el fun _ _ _ _ _ _ => rfl
      exact get_rel (s := { s with heap := h', toks := tk }) G w' i (relM_varied _ _) hh (G.noR _ (by simp)) obj_varied (Ex.done (h' := h') k h rd m')
  | bod ls bs =>
    refine rv.bod_el fun x v1 v2 mA i e1 e2 r1 r2 => ?_
    rcases bl_inv (b := a == Str.ofString "locals") h2 with ⟨ha, h⟩ | ⟨_, h⟩
    · obtain rfl := eq_of_beq ha
      have hh : handedOut v1 = pure v1 := r1.lst_el fun _ _ _ _ _ _ => rfl
      exact get_bod (s := { s with heap := h', toks := tk }) G w' i e1 hh (G.noB _ (by simp)) obj_locals (Ex.done (h' := h') k h r1 m')
    · obtain ⟨hb, h⟩ := tr_inv (b := a == Str.ofString "blocks") h
      · obtain rfl := eq_of_beq hb
        have hh : handedOut v2 = pure v2 := r2.lst_el fun _ _ _ _ _ _ => rfl
        exact get_bod (s := { s with heap := h', toks := tk }) G w' i e2 hh (G.noB _ (by simp)) obj_blocks (Ex.done (h' := h') k h r2 m')
  | _ => exact False.elim h2

theorem prs_at {op : CmpOp} {e : Expr} {x : Str} (h : prsAt op e = some x) : op = .Eq ∧ okN x = true ∧ ∃ p1 p2, e = .Attribute (.Name x p1) (Str.ofString "pairs") p2 := by
  cases op with
  | Eq => exact ⟨rfl, asPrs_inv h⟩
  | _ => exact none_some h
theorem isNotIn_inv {op : CmpOp} (h : isNotIn op = true) : op = .NotIn := by
  cases op with
  | NotIn => rfl
  | _ => exact fa_tr h
/-- the operands, then the comparison: what both readings of a comparison share -/
theorem cmp_core (G : GlOk g) (S : Snd g n r) {l e : Expr} {op : CmpOp} {K : Bool → Mu → Prop} (X : St g c f s.heap) (m : MuOk g c.sp c.bad s.heap M) (R : Room A n) (h : cmpE r l op e f M K) :
    pl e = true ∧ wpAny (model pw g.w) A (eval l c.env) (fun a s₁ => wpAny (model pw g.w) A (eval e c.env) (fun b s₂ => wpAny (model pw g.w) A (compareOp op a b)
      (Fin g c.sp c.bad s (fun _ v d => v = .bool d) K) (fun _ _ => False) s₂) (fun _ _ => False) s₁) (fun _ _ => False) s := by
  have hu := room_units R
  obtain ⟨hpl, h6⟩ := rt_inv (b := pl e) h
  clear h
  refine ⟨hpl, ?_⟩
  rcases op_inv h6 with ⟨x, hp, h7⟩ | ⟨_, h7⟩
  · clear h6
    obtain ⟨hr, h⟩ := tr_inv (b := isRel (f.loc.lookup x)) h7
    clear h7
    obtain ⟨he, hn, p1, p2, hl9⟩ := prs_at hp
    clear hp
    subst he hl9
    obtain ⟨ks, ds, hl⟩ := isRel_inv hr
    obtain ⟨v, q, rv⟩ := X.loc x _ hl
    have o := okN_of hn
    refine Attribute_name (var_ok X q o.1 o.2.1 (rv.rel_el fun y pa u hpa i rd => get_rel G X.w i (relM_pairs _ _) (handed_ref _) (G.noR _ (by simp)) obj_pairs ?_))
    refine (S.E _ _ _ _ { s with toks := s.toks + 1 } _ _ X m R h).then fun b h' tk d M' k h rb m' => ?_
    obtain ⟨vs, n0, e1, rs⟩ := m'.prs pa hpa
    cases eq_old h with
    | dat ho hk =>
      obtain ⟨o1, o2, d1, d2⟩ := ho
      obtain ⟨as, q1⟩ := rs.reads o1
      obtain ⟨bs, q2⟩ := rb.reads o2
      have q1' : Reads h' (.ref pa) (D.lst M'.prs).py (pa :: as) := reads_list_at e1 rfl rfl (by simpa using q1)
      exact eq_dataH (s := { s with heap := h', toks := tk }) q1' q2 (shaped_of o1 d1) (shaped_of o2 d2) (by omega) ⟨h', tk, rfl, k, _, _, hk, rfl, m'⟩
  · clear h6
    refine (S.E _ _ _ _ _ _ _ X m R h7).then fun a h' tk d M' k h ra m' => ?_
    clear h7
    have two : (r.E e f M' fun b M2 => cmpP op d b fun c => K c M2) → wpAny (model pw g.w) A (eval e c.env) (fun b s₂ => wpAny (model pw g.w) A (compareOp op a b) (Fin g c.sp c.bad s (fun _ v d => v = .bool d) K) (fun _ _ => False) s₂) (fun _ _ => False) { s with heap := h', toks := tk } := fun h => by
      refine (S.E _ _ _ _ _ _ _ (X.next k) m' R h).then fun b h'' tk' y M'' k' h rb m'' => ?_
      exact cmp_ok (c := c) (s := { s with heap := h'', toks := tk' }) hu (ra.up (k'.up X.w.mu)) rb h fun r q => ⟨h'', tk', rfl, k.trans k', _, _, q, rfl, m''⟩
    rcases bl_inv (b := isNotIn op) h with ⟨hni, h7⟩ | ⟨_, h⟩
    · clear h
      obtain rfl := isNotIn_inv hni
      rcases op_inv h7 with ⟨⟨x, l⟩, ho, h⟩ | ⟨_, h8⟩
      · clear h7 two
        obtain ⟨p, he9, hn, hl⟩ := own_at ho
        clear ho
        subst he9
        refine own_var (s := { s with heap := h', toks := tk }) (X.next k) hl hn fun a2 vs n0 e b nm rs => ?_
        obtain ⟨as, q1⟩ := rs.reads h.1.2.1
        exact notIn_ok (c := c) (s := { s with heap := h', toks := tk }) hu ra (.inl ⟨_, reads_list_at e rfl rfl (by simpa using q1)⟩) h fun r q => ⟨h', tk, rfl, k, _, _, q, rfl, m'⟩
      · clear h7
        rcases bl_inv (b := prsIn f e) h8 with ⟨hq, h⟩ | ⟨_, h⟩
        · clear h8 two
          obtain ⟨x, p1, p2, hn, hr, he9⟩ := prsIn_inv hq
          clear hq
          subst he9
          obtain ⟨ks, ds, hl⟩ := isRel_inv hr
          obtain ⟨v, q, rv⟩ := (X.next k).loc x _ hl
          have o := okN_of hn
          refine Attribute_name (var_ok (s := { s with heap := h', toks := tk }) (X.next k) q o.1 o.2.1 (rv.rel_el fun y pa u hpa i rd => get_rel (s := { s with heap := h', toks := tk }) G (X.next k).w i (relM_pairs _ _) (handed_ref _) (G.noR _ (by simp)) obj_pairs ?_))
          obtain ⟨vs, n0, e1, rs⟩ := m'.prs pa hpa
          obtain ⟨as, q1⟩ := rs.reads h.1.2.1
          exact notIn_ok (c := c) (s := { s with heap := h', toks := tk + 1 }) hu ra (.inl ⟨_, reads_list_at e1 rfl rfl (by simpa using q1)⟩) h fun r q => ⟨h', tk + 1, rfl, k, _, _, q, rfl, m'⟩
        · exact two h
    · exact two h
theorem compare_ok (G : GlOk g) (S : Snd g n r) {l e : Expr} {op : CmpOp} {pos : Pos} {K : KE} (X : St g c f s.heap) (m : MuOk g c.sp c.bad s.heap M) (R : Room A n) (h : cmpE r l op e f M fun b M1 => K (.bool b) M1) :
    Ex g c A s (eval (.Compare l [op] [e] pos) c.env) (RV g c) K := by
  obtain ⟨hp, h⟩ := cmp_core G S X m R h
  refine wpAny_Compare1 (wpAny_mono h (fun a s₁ h₁ => wpAny_mono h₁ (fun b s₂ h₂ => wpAny_mono h₂ (fun v s₃ h₃ => ?_) fun _ _ x => x) fun _ _ x => x) fun _ _ x => x) (marks_pl hp)
  refine h₃.el fun h' tk d M' k a e m' => ?_
  subst e
  exact Ex.done k a (.bool _) m'
theorem test_ok (G : GlOk g) (S : Snd g n r) {l e : Expr} {op : CmpOp} {pos : Pos} {whole : Sem Value} {K : Bool → Mu → Prop} (X : St g c f s.heap) (m : MuOk g c.sp c.bad s.heap M) (R : Room A n) (h : cmpE r l op e f M K) :
    Ex g c A s (isTrue (.Compare l [op] [e] pos) c.env whole) RB K := by
  obtain ⟨hp, h⟩ := cmp_core G S X m R h
  refine wpAny_isTrue_Compare1 (wpAny_mono h (fun a s₁ h₁ => wpAny_mono h₁ (fun b s₂ h₂ => wpAny_mono h₂ (fun v s₃ h₃ => ?_) fun _ _ x => x) fun _ _ x => x) fun _ _ x => x) (marks_pl hp)
  refine h₃.el fun h' tk d M' k a e m' => ?_
  subst e
  exact truthy_b (Ex.done k a rfl m')
end
end Mine
end

section
set_option backward.match.sparseCases false
open PySem PySem.W PySem.Calls PyProof.Rows
set_option Elab.async false
namespace Mine

section
variable {g : Gl} {c : Cx} {f : Fm} {A : Around} {s : Shared} {M : Mu} {n : Nat} {r : Ev} {Φ : Phi}

theorem evalArgs_any {fv : Value} {es : List Expr} {env : Env} {pos : Pos} {Q : Args → Shared → Prop} {E : Value → Shared → Prop} (hp : es.all pl = true)
    (h : wpAny (model pw g.w) A (spliced (backTo pos (starEach es env))) (fun vs s' => Q ⟨vs, []⟩ s') E s) : wpAny (model pw g.w) A (evalArgs fv true (backTo pos (starEach es env)) []) Q E s := by
  cases es with
  | nil =>
    show wpAny _ _ (evalArgs fv true [] []) _ _ _
    unfold evalArgs
    show wpAny _ A (spliced [] >>= _) Q E s
    refine wpAny_bind (wpAny_mono h (fun vs s' h' => ?_) fun _ _ x => x)
    refine wpAny_bind (wpAny_pure ?_)
    refine wpAny_holding ?_
    exact wpAny_bind (wpAny_pure (wpAny_bind (wpAny_pure (wpAny_pure h'))))
  | cons e es =>
    rw [List.all_cons, Bool.and_eq_true] at hp
    rw [back_cons hp.1] at h ⊢
    exact evalArgs_plain h
theorem callW_machine {fv : Value} {first : List Value} {es : List Expr} {env : Env} {pos : Pos} {Q : Value → Shared → Prop} {E : Value → Shared → Prop} (hp : es.all pl = true) (hk : keeperOf fv = pure .machine)
    (h : wpAny (model pw g.w) A (spliced (backTo pos (starEach es env))) (fun vs s₁ => wpAny (model pw g.w) A (call fv (first ++ vs)) Q E s₁) E s) :
    wpAny (model pw g.w) A (callWith pos fv first (backTo pos (starEach es env)) []) Q E s := by
  unfold callWith
  refine wpAny_bind (wpAny_holding (wpAny_mono (evalArgs_any (Q := fun a s₁ => wpAny (model pw g.w) A (call fv (first ++ a.pos) a.kw) Q E s₁) hp h) (fun a s₁ h₁ => wpAny_bind (wpAny_standAt ?_)) fun _ _ x => x))
  simp only [back_plain env pos hp, List.any_nil, Bool.or_false]
  rw [hk]
  refine wpAny_bind (wpAny_pure ?_)
  exact wpAny_bind (wpAny_mono h₁ (fun r s₂ hr => wpAny_bind (wpAny_holding (wpAny_point (wpAny_pure hr)))) fun _ _ x => x)
theorem callW_fn {a : Addr} {o : Obj} {fd : FuncData} {first : List Value} {es : List Expr} {env : Env} {pos : Pos} {Q : Value → Shared → Prop} {E : Value → Shared → Prop} (hp : es.all pl = true) (hd : o.data = .func fd)
    (h : wpAny (model pw g.w) A (spliced (backTo pos (starEach es env))) (fun vs s₁ => s₁.heap.get? a = some o ∧ wpAny (model pw g.w) A (call (.ref a) (first ++ vs)) Q E s₁) E s) :
    wpAny (model pw g.w) A (callWith pos (.ref a) first (backTo pos (starEach es env)) []) Q E s :=
  Calls.callWith_function (o := o) (fd := fd) (evalArgs_any (Q := fun x s₁ => (s₁.heap.get? a = some o ∧ o.data = .func fd) ∧ wpAny (model pw g.w) A (call (.ref a) (first ++ x.pos) x.kw) Q E s₁) hp
    (wpAny_mono h (fun vs s₁ h₁ => ⟨⟨h₁.1, hd⟩, h₁.2⟩) fun _ _ x => x))
theorem keeper_blt (b : Blt) : keeperOf (bltV b) = pure .machine := by cases b <;> rfl
theorem boot_blt {x : Str} {b : Blt} (h : bltOf x = some b) : x ∈ [Str.ofString "len", Str.ofString "tuple", Str.ofString "max", Str.ofString "isinstance", Str.ofString "int", Str.ofString "range", Str.ofString "enumerate", Str.ofString "list"] ∧ bootBuiltins x = some (bltV b) := by
  unfold bltOf at h
  simp only [List.lookup_cons, List.lookup_nil] at h
  split at h
  · rename_i q
    obtain rfl := eq_of_beq q
    cases h
    exact ⟨by simp, by decide +kernel⟩
  · split at h
    · rename_i q
      obtain rfl := eq_of_beq q
      cases h
      exact ⟨by simp, by decide +kernel⟩
    · split at h
      · rename_i q
        obtain rfl := eq_of_beq q
        cases h
        exact ⟨by simp, by decide +kernel⟩
      · split at h
        · rename_i q
          obtain rfl := eq_of_beq q
          cases h
          exact ⟨by simp, by decide +kernel⟩
        · cases h
theorem kd_blt {x : Str} {b : Blt} (h : kdOf x = some (.blt b)) : bltOf x = some b := by
  unfold kdOf at h
  split at h
  · cases h; assumption
  · split at h
    · cases h
    · split at h <;> cases h
theorem kd_cls {x : Str} (h : kdOf x = some .cls) : x = Str.ofString "Relation" ∨ x = Str.ofString "Body" := by
  unfold kdOf at h
  split at h
  · cases h
  · split at h
    · cases h
    · split at h
      · rename_i q
        rcases Bool.or_eq_true_iff.mp q with q | q
        · exact .inl (eq_of_beq q)
        · exact .inr (eq_of_beq q)
      · cases h
/-- a deal, met where the walk stands -/
theorem CallOk.at {fv : Value} {ds : List D} {vs : List Value} {K : KE} (C : CallOk g n fv ds M K) (X : St g c f s.heap) (m : MuOk g c.sp c.bad s.heap M) (R : Room A n) (rs : RepAll g c.sp c.bad s.heap vs ds) : Ex g c A s (call fv vs) (RV g c) K :=
  C c.sp c.bad A s vs X.w m rs R
theorem callname_ok (G : GlOk g) (P : PhiOk g n Φ) (S : Snd g n r) {x : Str} {xp pos : Pos} {as : List Expr} {K : KE} (X : St g c f s.heap) (m : MuOk g c.sp c.bad s.heap M) (R : Room A n) (hn : okN x = true) (hk : f.sc.names.lookup x = some .globalImplicit) (hp : plAll as = true)
    (h : callG Φ r x as f M K) : Ex g c A s (eval (.Call (.Name x xp) as [] pos) c.env) (RV g c) K := by
  have o := okN_of hn
  have hp := (plAll_all hp).1
  show Ex g c A s (do callWith pos (← eval (.Name x xp) c.env) [] (backTo pos (starEach as c.env)) []) _ _
  refine wpAny_bind ?_
  unfold callG at h
  split at h
  · rename_i b hb
    obtain ⟨h1, h2⟩ := boot_blt (kd_blt hb)
    refine blt_ok G X hk o.1 o.2.2 (G.free _ h1) h2 (callW_machine hp (keeper_blt b) ?_)
    refine (all_ok S pos R hp X m h).then fun vs h' tk ds M' k h rs m' => ?_
    exact (bltP_ok (s := { s with heap := h', toks := tk }) R.2.2 (X.w.next k) m' rs.1 h fun _ q => q).glue k
  · rename_i hb
    obtain ⟨a, e, ob, fd, h1, h3⟩ := G.fns x hb
    refine glob_ok G X hk o.1 e (callW_fn (o := ob) (fd := fd) hp h3 ?_)
    refine (all_ok S pos R hp X m h).then fun vs h' tk ds M' k h rs m' => ?_
    have X' := X.next k
    exact ⟨X'.w.base _ _ h1, ((P.fn _ a _ _ _ (.inl hb) e h).at (s := { s with heap := h', toks := tk }) X' m' R rs.1).glue k⟩
  · rename_i hb
    cases as with
    | nil => cases h
    | cons e1 es =>
      have key : ∀ C N mN, g.mg x = some (.ref C) → ClsAt g.hb C N mN → wpAny (model pw g.w) A (eval (.Name x xp) c.env) (fun v s' => wpAny (model pw g.w) A (callWith pos v [] (backTo pos (starEach (e1 :: es) c.env)) []) (Fin g c.sp c.bad s (RV g c) K) (fun _ _ => False) s') (fun _ _ => False) s := fun C N mN e Y => by
        rw [List.all_cons, Bool.and_eq_true] at hp
        refine glob_ok G X hk o.1 e (callWith_cls Y ?_ (star_pl hp.1 _ _) (back_plain _ _ hp.2))
        refine (all_ok S pos R (by rw [List.all_cons, Bool.and_eq_true]; exact hp) X m h).then fun vs h' tk ds M' k h rs m' => ?_
        have X' := X.next k
        exact ⟨X'.w.base, ((P.fn _ C _ _ _ (.inr hb) e h).at (s := { s with heap := h', toks := tk }) X' m' R rs.1).glue k⟩
      rcases kd_cls hb with rfl | rfl
      · obtain ⟨N, Y⟩ := G.clsR
        exact key _ _ _ G.mgR Y
      · obtain ⟨N, Y⟩ := G.clsB
        exact key _ _ _ G.mgB Y
  · cases h
end
end Mine
end

section
set_option backward.match.sparseCases false
open PySem PySem.W PySem.Calls PyProof.Rows
set_option Elab.async false
namespace Mine

section
variable {g : Gl} {c : Cx} {f : Fm} {A : Around} {s : Shared} {M : Mu} {n : Nat} {r : Ev} {Φ : Phi}

theorem meth_name {m : Str} (h : methNames.contains m = true) : typeLookup (.type "object") m = pure none ∧ ∀ u a, relM u a m = none := by
  have h : m ∈ methNames := List.contains_iff_mem.mp h
  simp only [methNames, List.mem_cons, List.not_mem_nil, or_false] at h
  have key : ∀ x : String, (Str.ofString x == Str.ofString "pairs") = false → (Str.ofString x == Str.ofString "varied") = false → ∀ u a, relM u a (Str.ofString x) = none := fun x h1 h2 u a => by
    unfold relM
    rw [if_neg (str_ne h1), if_neg (str_ne h2)]
  rcases h with rfl | rfl | rfl | rfl <;> exact ⟨by rw [typeLookup_type, builtinLookup_eq_fast]; kernel_rfl, key _ (by decide +kernel) (by decide +kernel)⟩

theorem callmeth_ok (G : GlOk g) (P : PhiOk g n Φ) (S : Snd g n r) {o : Expr} {m : Str} {apos pos : Pos} {as : List Expr} {K : KE} (X : St g c f s.heap) (mu : MuOk g c.sp c.bad s.heap M) (R : Room A n) (ho : isName o = true) (hl : (apos.endLine == pos.line) = true) (hlen : Nat.blt as.length 20 = true)
    (hm : methNames.contains m = true) (hp : plAll as = true)
    (h : r.E o f M fun d M1 => match d with | .rel ks vs => allE r as f M1 fun ds M2 => Φ m (.rel ks vs :: ds) M2 K | _ => False) : Ex g c A s (eval (.Call (.Attribute o m apos) as [] pos) c.env) (RV g c) K := by
  cases o <;> simp only [isName] at ho <;> try cases ho
  have hp := (plAll_all hp).1
  have hlen : as.length < 20 := by simpa [Nat.blt_eq] using hlen
  rw [arm_eval_Call]
  refine wpAny_bind ((S.E _ _ _ _ _ _ _ X mu R h).then fun v h' tk d M' k h2 rv m' => ?_)
  clear h
  have h := h2
  clear h2
  cases rv <;> try exact h.elim
  case rel x a u ks ds e i rd =>
  have X' := X.next k
  refine wpAny_bind (wpAny_standAt ?_)
  have hplain := back_plain c.env pos hp
  have hform : methodCallForm (as.length + ([] : List Keyword).length) (backTo pos (starEach as c.env)) (backToKw pos (keywordEach [] c.env)) = true := by
    have h1 : (backTo pos (starEach as c.env)).all (fun x => !x.1) = true := by
      rw [List.all_eq_true]
      intro x hx
      have := (List.any_eq_false.mp hplain) x hx
      simpa using this
    unfold methodCallForm
    rw [h1]
    show (true && true && decide (as.length + 0 + 0 < 30)) = true
    rw [Bool.and_self, Bool.true_and]
    exact decide_eq_true (by omega)
  obtain ⟨fa, e1, ob, fd, h1, h2, h3⟩ := G.meths m hm
  obtain ⟨N, Y⟩ := G.clsR
  have Y := Y.keeps X'.w.base
  obtain ⟨nm, q, bs, sn, sub, col, dd, k0, k1, k2, k3, k5, hC⟩ := Y.obj
  have mn := meth_name hm
  unfold methodCall
  rw [hform]
  refine wpAny_bind (wpAny_holding ?_)
  show wpAny _ _ (getMethod (.ref x) m _) _ _ { heap := h', gens := s.gens, drawn := s.drawn, toks := tk, os := s.os }
  refine method_of hC Y.ns (G.noR _ (.head _)) (G.noR _ (.tail _ (.head _))) e1 (X'.w.base _ _ h1) h2 mn.1 i.inst (mn.2 _ _) ?_
  have hpos : ∀ o2, methodCallPos true o2 c.env apos pos = pure pos := fun o2 => by unfold methodCallPos; simp [hl]
  refine wpAny_bind (wpAny_of_eq (hpos _) ?_)
  refine callW_fn (o := ob) (fd := fd) hp h3 ?_
  refine (all_ok (s := { s with heap := h', toks := tk }) S pos R hp X' m' h).then fun vs h'' tk' ds M'' k' h rs m'' => ?_
  have X'' := X'.next k'
  exact ⟨X''.w.base _ _ h1, ((P.meth _ fa _ _ _ hm e1 h).at (s := { s with heap := h'', toks := tk' }) X'' m'' R (.cons ((Rep.rel e i rd).up (k'.up X'.w.mu)) rs.1)).glue (k.trans k')⟩
end
end Mine
end

section
set_option backward.match.sparseCases false
open PySem PySem.W PySem.Calls PyProof.Rows
set_option Elab.async false
namespace Mine

section
variable {g : Gl} {sp : Sp} {bad : Addr → Prop} {h h' : Heap} {M : Mu}
theorem up_but {a : Addr} (ha : bad a) (k : ∀ b o, b ≠ a → h.get? b = some o → h'.get? b = some o) : Up bad bad h h' := ⟨fun b o e n => k b o (fun q => n (q ▸ ha)) e, fun _ _ _ q => q⟩
theorem kp_but {a : Addr} {o : Obj} (ha : sp.mu a) (e' : h'.get? a = some o) (k : ∀ b o, b ≠ a → h.get? b = some o → h'.get? b = some o) : Kp sp h h' :=
  ⟨fun b o e n => k b o (fun q => n (q ▸ ha)) e, fun b ob e => by
    by_cases q : b = a
    · subst q; exact ⟨o, e'⟩
    · exact ⟨ob, k b ob q e⟩⟩
theorem MuOk.fndTo {a : Addr} {vs : List Value} {n : Nat} {l : List D} (x : W g sp bad h) (m : MuOk g sp bad h M) (ha : sp.fa = some a) (e : h'.get? a = some (lstO vs n)) (k : ∀ b o, b ≠ a → h.get? b = some o → h'.get? b = some o) (r : RepAll g sp bad h vs l) :
    MuOk g sp bad h' { M with fnd := l } := by
  have u := up_but (x.mu a (.inr (.inl ha))) k
  refine ⟨fun b q => ?_, fun b q => ?_, fun b q => ?_, fun b q => ?_⟩
  · obtain ⟨x1, y1, t, u1, ⟨o, h1, r⟩, h2⟩ := m.src b q
    exact ⟨x1, y1, t, u1, ⟨o, k _ _ (fun z => (x.s1 b q).1 (z ▸ ha)) h1, r⟩, h2⟩
  · obtain rfl := Option.some.inj (ha.symm.trans q)
    exact ⟨vs, n, e, r.up u⟩
  · obtain ⟨ws, n1, h1, h2⟩ := m.prs b q
    exact ⟨ws, n1, k _ _ (fun z => x.s2.1 a ha (z ▸ q)) h1, h2.up u⟩
  · obtain rfl := Option.some.inj (x.s2.2.1.symm.trans q)
    exact (m.tab _ q).up (fun o e => k _ o (fun z => x.s2.2.2.2.1 (z ▸ ha)) e) u
theorem MuOk.prsTo {a : Addr} {vs : List Value} {n : Nat} {l : List D} (x : W g sp bad h) (m : MuOk g sp bad h M) (ha : sp.pa = some a) (e : h'.get? a = some (lstO vs n)) (k : ∀ b o, b ≠ a → h.get? b = some o → h'.get? b = some o) (r : RepAll g sp bad h vs l) :
    MuOk g sp bad h' { M with prs := l } := by
  have u := up_but (x.mu a (.inr (.inr (.inl ha)))) k
  refine ⟨fun b q => ?_, fun b q => ?_, fun b q => ?_, fun b q => ?_⟩
  · obtain ⟨x1, y1, t, u1, ⟨o, h1, r⟩, h2⟩ := m.src b q
    exact ⟨x1, y1, t, u1, ⟨o, k _ _ (fun z => (x.s1 b q).2 (z ▸ ha)) h1, r⟩, h2⟩
  · obtain ⟨ws, n1, h1, h2⟩ := m.fnd b q
    exact ⟨ws, n1, k _ _ (fun z => x.s2.1 b q (z ▸ ha)) h1, h2.up u⟩
  · obtain rfl := Option.some.inj (ha.symm.trans q)
    exact ⟨vs, n, e, r.up u⟩
  · obtain rfl := Option.some.inj (x.s2.2.1.symm.trans q)
    exact (m.tab _ q).up (fun o e => k _ o (fun z => x.s2.2.2.2.2 (z ▸ ha)) e) u
theorem MuOk.srcTo {a : Addr} {x1 y1 : Int} {t u1 : Tok} (x : W g sp bad h) (m : MuOk g sp bad h M) (ha : sp.sa = some a) (e : h'.IsList a [Value.int x1 t, .int y1 u1].toArray) (hs : SrcOk x1 y1) (k : ∀ b o, b ≠ a → h.get? b = some o → h'.get? b = some o) : MuOk g sp bad h' M := by
  have u := up_but (x.mu a (.inl ha)) k
  refine ⟨fun b q => ?_, fun b q => ?_, fun b q => ?_, fun b q => ?_⟩
  · obtain rfl := Option.some.inj (ha.symm.trans q)
    exact ⟨_, _, _, _, e, hs⟩
  · obtain ⟨ws, n1, h1, h2⟩ := m.fnd b q
    exact ⟨ws, n1, k _ _ (fun z => (x.s1 a ha).1 (z ▸ q)) h1, h2.up u⟩
  · obtain ⟨ws, n1, h1, h2⟩ := m.prs b q
    exact ⟨ws, n1, k _ _ (fun z => (x.s1 a ha).2 (z ▸ q)) h1, h2.up u⟩
  · obtain rfl := Option.some.inj (x.s2.2.1.symm.trans q)
    exact (m.tab _ q).up (fun o e => k _ o (fun z => x.s2.2.2.1 (z ▸ ha)) e) u
end

section
variable {g : Gl} {sp : Sp} {bad : Addr → Prop} {A : Around} {s : Shared} {M : Mu}
theorem noted_body : ∃ p1 p2 p3 p4 p5 p6 p7, notedD.2.1 = [Stmt.Expr (.Call (.Attribute (.Name (Str.ofString "found") p1) (Str.ofString "append") p2) [.Name (Str.ofString "region") p3] [] p4) p5, Stmt.Return (some (.Name (Str.ofString "region") p6)) p7] ∧ (p2.endLine == p4.line) = true :=
  ⟨_, _, _, _, _, _, _, rfl, rfl⟩
theorem noted_args (fd : FuncData) (v : Value) (h : fd.params = notedD.1) (hd : fd.defaults = .none) (hk : fd.kwdefaults = .none) : bindArgs fd ⟨[v], []⟩ = pure [(Str.ofString "region", v)] := by
  obtain ⟨a1, a2, a3, a4, a5, a6, a7, a8, a9, a10, a11, a12, a13, a14, a15⟩ := fd
  dsimp only at h hd hk
  subst h hd hk
  rfl

theorem callEnv_kind (fd : FuncData) (L a : Addr) (x : Str) : (callEnv fd L a).kindOf x = fd.scope.names.lookup x := rfl
theorem noted_call (G : GlOk g) (w : W g sp bad s.heap) (m : MuOk g sp bad s.heap M) (R : Room A 1) {f a : Addr} {v : Value} {d : D} (hfa : sp.fa = some a) (N : NotedAt s.heap bad f a) (rv : Rep g sp bad s.heap v d) (hlen : M.fnd.length ≤ 10000) :
    wpAny (model pw g.w) A (call (.ref f) [v]) (fun v' s' => ∃ h' tk, s' = { s with heap := h', toks := tk } ∧ Kp sp s.heap h' ∧ v' = v ∧ MuOk g sp bad h' { M with fnd := M.fnd ++ [d] }) (fun _ _ => False) s := by
  obtain ⟨o, cc, cd, nm, qn, ct, pm, doc, ho, nf, hd, hc, ncc, hcode, ncd⟩ := N
  obtain ⟨vs, n0, ea, rs⟩ := m.fnd a hfa
  have hk : notedD.2.2.kind = .function := rfl
  refine wpAny_call (codeAny_call_def (o := o) (body := notedD.2.1) (binds := [(Str.ofString "region", v)]) (by have := R.1; omega) ho hd (G.nolim.keeps w.base) hcode rfl (.of_eq (noted_args _ v rfl rfl rfl)) ?_ ?_ ?_ rfl rfl rfl)
  · intro x hx
    have e : notedD.2.2.names = [(Str.ofString "region", .local), (Str.ofString "found", .free)] := rfl
    rw [e] at hx
    simp only [List.mem_cons, List.not_mem_nil, or_false] at hx
    rcases hx with rfl | rfl <;> decide
  · intro x hx
    obtain rfl := List.mem_singleton.mp hx
    rfl
  · intro h₁ hns hk₁
    generalize hfd : ({ name := nm, qualname := qn, params := notedD.1, body := .stmts notedD.2.1, scope := notedD.2.2, globals := mainGlobals, closure := [(Str.ofString "found", cc)], defaults := .none, kwdefaults := .none, doc, pyModule := pm, code := .ref cd, closureTuple := ct, builtins := builtinsNs } : FuncData) = fd
    have sc : fd.scope = notedD.2.2 := by subst hfd; rfl
    have hcl : fd.closure = [(Str.ofString "found", cc)] := by subst hfd; rfl
    have k1 : (callEnv fd s.heap.objs.size f).kindOf (Str.ofString "found") = some .free := by rw [callEnv_kind, sc]; rfl
    have k2 : (callEnv fd s.heap.objs.size f).kindOf (Str.ofString "region") = some .local := by rw [callEnv_kind, sc]; rfl
    have kf : (callEnv fd s.heap.objs.size f).scope.kind = .function := by show fd.scope.kind = _; rw [sc]; rfl
    obtain ⟨p1, p2, p3, p4, p5, p6, p7, eb, el⟩ := noted_body
    have nl : s.heap.objs.size ≠ a := fun q => by rw [← q, get_size] at ea; cases ea
    rw [eb]
    refine wpAny_mono (E := fun _ _ => False) ?_ (fun _ _ x => x) fun _ _ x => x.elim
    refine wpAny_execs_cons (wpAny_Expr_any (wpAny_Call_append rfl rfl el rfl ?_) (by
        unfold interactive
        rw [kf]; rfl) rfl)
    refine wpAny_Name (wpAny_loadName_free kf k1 (c := cc) (by show fd.closure.lookup _ = _; rw [hcl]; rfl) (hc.keeps hk₁) ?_) (by decide +kernel)
    refine ⟨a, vs.toArray, rfl, ⟨_, n0, hk₁ _ _ ea, rfl, rfl, rfl⟩, ?_⟩
    refine wpAny_Name (wpAny_loadName_local kf k2 hns rfl ?_) (by decide +kernel)
    refine wpAny_list_append_plain (items := vs.toArray) ⟨n0, hk₁ _ _ ea⟩ (fun h' hp hs => ?_) (by rw [List.size_toArray, rs.length, sizeLine_eq]; omega)
    refine wpAny_execs_cons (wpAny_Return_some (wpAny_Name (wpAny_loadName_local kf k2 (hns.sameBut hs nl) rfl ?_) (by decide +kernel)))
    obtain ⟨n1, e1⟩ := hp
    have e2 : h'.get? a = some (lstO (vs ++ [v]) n1) := by rw [e1]; simp
    have kk : ∀ b ob, b ≠ a → s.heap.get? b = some ob → h'.get? b = some ob := fun b ob hb e => (hs.2 b hb).trans (hk₁ _ _ e)
    exact ⟨h', _, rfl, kp_but (.inr (.inl hfa)) e2 kk, rfl, m.fndTo w hfa e2 kk (rs.append (.cons rv .nil))⟩
end
end Mine
end

section
set_option backward.match.sparseCases false
open PySem PySem.W PySem.Calls PyProof.Rows
set_option Elab.async false
namespace Mine

section
variable {g : Gl} {c : Cx} {f : Fm} {A : Around} {s : Shared} {M : Mu} {n : Nat} {r : Ev} {Φ : Phi}

theorem callnoted_ok (G : GlOk g) (S : Snd g n r) (h1n : 1 ≤ n) {x : Str} {xp pos : Pos} {e : Expr} {K : KE} (X : St g c f s.heap) (m : MuOk g c.sp c.bad s.heap M) (R : Room A n) (hn : okN x = true) (hl : f.loc.lookup x = some .noted) (hp : pl e = true)
    (h : r.E e f M fun d M1 => M1.fnd.length ≤ 10000 ∧ K d { M1 with fnd := M1.fnd ++ [d] }) : Ex g c A s (eval (.Call (.Name x xp) [e] [] pos) c.env) (RV g c) K := by
  have o := okN_of hn
  show Ex g c A s (do callWith pos (← eval (.Name x xp) c.env) [] (backTo pos (starEach [e] c.env)) []) _ _
  refine wpAny_bind ?_
  obtain ⟨v, q, rv⟩ := X.loc x _ hl
  cases rv
  case noted fn a hfa N =>
  refine var_ok X q o.1 o.2.1 ?_
  obtain ⟨ob, cc, cd, nm, qn, ct, pm, doc, ho, nf, hd, _⟩ := id N
  have hp1 : [e].all pl = true := by rw [List.all_cons, hp]; rfl
  refine callW_fn (o := ob) (fd := _) hp1 hd ?_
  rw [back_cons hp]
  refine spliced_cons ((S.E _ _ _ _ _ _ _ X m R h).then fun v h' tk d M' k h2 rv m' => spliced_nil ?_)
  have X' := X.next k
  refine ⟨k.keep _ _ ho fun q => nf (X.w.mu _ q), ?_⟩
  refine wpAny_mono (noted_call (s := { s with heap := h', toks := tk }) G X'.w m' (R.le h1n) hfa (noted_up (k.up X.w.mu) N) rv h2.1) (fun v' s' hh => ?_) fun _ _ x => x
  obtain ⟨h'', tk', rfl, k', rfl, m''⟩ := hh
  exact Ex.done (k.trans k') h2.2 (rv.up (k'.up X'.w.mu)) m''

theorem call_ok (G : GlOk g) (P : PhiOk g n Φ) (S : Snd g n r) (h1n : 1 ≤ n) {fn : Expr} {pos : Pos} {as : List Expr} {K : KE} (X : St g c f s.heap) (m : MuOk g c.sp c.bad s.heap M) (R : Room A n) (h : callE Φ r fn as pos f M K) :
    Ex g c A s (eval (.Call fn as [] pos) c.env) (RV g c) K := by
  unfold callE at h
  cases fn with
  | Name x xp =>
    simp only at h
    cases hn : okN x with
    | false => simp only [hn] at h
    | true =>
      simp only [hn] at h
      cases hl : f.loc.lookup x with
      | some d =>
        simp only [hl] at h
        cases d <;> simp only at h
        cases as with
        | nil => cases h
        | cons e es =>
          cases es with
          | cons _ _ => cases h
          | nil =>
            simp only at h
            cases hp : pl e with
            | false => simp only [hp] at h
            | true =>
              simp only [hp] at h
              exact callnoted_ok G S h1n X m R hn hl hp h
      | none =>
        simp only [hl] at h
        cases hk : f.sc.names.lookup x with
        | none => simp only [hk] at h
        | some kd =>
          simp only [hk] at h
          cases kd <;> simp only at h
          cases hp : plAll as with
          | false => simp only [hp] at h
          | true =>
            simp only [hp] at h
            exact callname_ok G P S X m R hn hk hp h
  | Attribute o m2 apos =>
    simp only at h
    cases hb : (isName o && apos.endLine == pos.line && Nat.blt as.length 20 && methNames.contains m2 && plAll as) with
    | false => simp only [hb] at h
    | true =>
      simp only [hb] at h
      simp only [Bool.and_eq_true] at hb
      obtain ⟨⟨⟨⟨b1, b2⟩, b3⟩, b4⟩, b5⟩ := hb
      exact callmeth_ok G P S X m R b1 b2 b3 b4 b5 h
  | _ => cases h
theorem name_ok (G : GlOk g) {x : Str} {pos : Pos} {K : KE} (X : St g c f s.heap) (m : MuOk g c.sp c.bad s.heap M) (h : nameP f x M K) : Ex g c A s (eval (.Name x pos) c.env) (RV g c) K := by
  unfold nameP at h
  cases hn : okN x with
  | false => simp only [hn] at h
  | true =>
    simp only [hn] at h
    have o := okN_of hn
    cases hl : f.loc.lookup x with
    | some d =>
      simp only [hl] at h
      obtain ⟨v, q, rv⟩ := X.loc x _ hl
      exact var_ok X q o.1 o.2.1 (Ex.done (.refl _) h rv m)
    | none =>
      simp only [hl] at h
      split at h
      · rename_i hk hi
        obtain rfl := eq_of_beq hi
        exact blt_ok G X hk o.1 o.2.2 (G.free _ (by simp)) (v := .type "int") (by decide +kernel) (Ex.done (.refl _) h (.ty _) m)
      · cases h

/-- an object of the walk's own: bad for all that is met behind -/
noncomputable def Cx.priv (c : Cx) (a : Addr) : Cx := { c with bad := fun b => c.bad b ∨ b = a }
theorem up_priv {c : Cx} {h h' : Heap} {a : Addr} (ha : h.get? a = none) (k : ∀ b o, h.get? b = some o → h'.get? b = some o) : Up c.bad (c.priv a).bad h h' :=
  ⟨fun b o e _ => k b o e, fun b o e q => q.elim id fun z => by subst z; rw [ha] at e; cases e⟩
theorem up_unpriv {c : Cx} {h h' : Heap} {a : Addr} (k : ∀ b o, b ≠ a → h.get? b = some o → h'.get? b = some o) : Up (c.priv a).bad c.bad h h' :=
  ⟨fun b o e n => k b o (fun q => n (.inr q)) e, fun _ _ _ q => .inl q⟩
theorem W.priv {h h' : Heap} {a : Addr} {o : Obj} (x : W g c.sp c.bad h) (ha : h.get? a = none) (e : h'.get? a = some o) (k : ∀ b o, h.get? b = some o → h'.get? b = some o) : W g c.sp (c.priv a).bad h' :=
  ⟨fun b o e => k b o (x.base b o e), fun b q => q.elim (fun z => let ⟨o, e⟩ := x.al b z; ⟨o, k b o e⟩) fun z => ⟨o, z ▸ e⟩, fun b q => .inl (x.mu b q), fun b q => q.elim (x.muHb b) fun z => (by
    subst z
    cases e2 : g.hb.get? b with
    | none => rfl
    | some o => rw [x.base b o e2] at ha; cases ha), x.s1, x.s2⟩
theorem VarIs.keep {h h' : Heap} {x : Str} {v : Value} (q : VarIs c h x v) (k : ∀ b o, h.get? b = some o → h'.get? b = some o) : VarIs c h' x v := q.next (.of_keep k)
theorem St.priv {h h' : Heap} {a : Addr} {o : Obj} (X : St g c f h) (ha : h.get? a = none) (e : h'.get? a = some o) (k : ∀ b o, h.get? b = some o → h'.get? b = some o) : St g (c.priv a) f h' where
  w := X.w.priv ha e k
  kind := X.kind
  glob := X.glob
  blt := X.blt
  ns := X.ns.keeps k
  nL := X.nL
  gl := X.gl
  lo := X.lo
  ce := X.ce
  loc := fun y d e => let ⟨v, p, q⟩ := X.loc y d e; ⟨v, p.keep k, q.up (up_priv ha k)⟩
  own := fun y l e => let ⟨b, vs, n, p, q, r, s, t, u, z⟩ := X.own y l e; ⟨b, vs, n, p.keep k, q, k _ _ r, .inl s, t, u, z.up (up_priv ha k)⟩
end
end Mine
end

section
set_option backward.match.sparseCases false
open PySem PySem.W PySem.Calls PyProof.Rows
set_option Elab.async false
namespace Mine

theorem MuOk.up2 {g : Gl} {sp : Sp} {bad bad' : Addr → Prop} {h h' : Heap} {M : Mu} (x : MuOk g sp bad h M) (k : ∀ b o, sp.mu b → h.get? b = some o → h'.get? b = some o) (u : Up bad bad' h h') : MuOk g sp bad' h' M where
  src := fun a e => let ⟨x, y, t, u, ⟨o, h1, r⟩, h2⟩ := x.src a e; ⟨x, y, t, u, ⟨o, k _ _ (.inl e) h1, r⟩, h2⟩
  fnd := fun a e => let ⟨vs, n, h1, h2⟩ := x.fnd a e; ⟨vs, n, k _ _ (.inr (.inl e)) h1, h2.up u⟩
  prs := fun a e => let ⟨vs, n, h1, h2⟩ := x.prs a e; ⟨vs, n, k _ _ (.inr (.inr (.inl e))) h1, h2.up u⟩
  tab := fun a e => (x.tab a e).up (fun o => k _ o (.inr (.inr (.inr e)))) u

theorem nodup_of : ∀ {xs : List Str}, nodupS xs = true → xs.Nodup
  | [], _ => .nil
  | x :: r, h => by
    simp only [nodupS, Bool.and_eq_true, Bool.not_eq_true', List.contains_eq_mem, decide_eq_false_iff_not] at h
    exact List.nodup_cons.mpr ⟨h.1, nodup_of h.2⟩
theorem merged_nodup : ∀ (kvs acc : List (Str × Value)), ((acc ++ kvs).map (·.1)).Nodup → merged acc kvs = acc ++ kvs
  | [], acc, _ => by simp [merged]
  | (k, v) :: r, acc, h => by
    have hn : acc.any (fun kv => kv.1 = k) = false := by
      rw [List.any_eq_false]
      intro x hx q
      simp only [decide_eq_true_eq] at q
      rw [List.map_append, List.nodup_append] at h
      exact h.2.2 x.1 (List.mem_map_of_mem hx) k (by simp) q
    have e : stored acc k v = acc ++ [(k, v)] := by
      unfold stored
      rw [if_neg (by rw [hn]; decide)]
    have : merged acc ((k, v) :: r) = merged (stored acc k v) r := rfl
    rw [this, e, merged_nodup r (acc ++ [(k, v)]) (by simpa using h), List.append_assoc]; rfl

section
variable {g : Gl} {c : Cx} {f : Fm} {A : Around} {s : Shared} {M : Mu} {n : Nat} {r : Ev} {Φ : Phi}

noncomputable abbrev RPs (g : Gl) (c : Cx) (xs : List Str) : Heap → List (Value × Value) → List D → Prop := fun h ps ds => ∃ vs, RepAll g c.sp c.bad h vs ds ∧ xs.length = vs.length ∧ Carries (strKind pw g.w) ps (xs.zip vs)
theorem pairs_ok (S : Snd g n r) (pos : Pos) (R : Room A n) (ks : List (Option Expr)) : ∀ {xs : List Str} {vs : List Expr} {s : Shared} {M : Mu} {K : List D → Mu → Prop}, keysOf ks = some xs → xs.length = vs.length → St g c f s.heap → MuOk g c.sp c.bad s.heap M → allE r vs f M K →
    Ex g c A s (evalPairs (pairTrees ks vs c.env pos)) (RPs g c xs) K := by
  induction ks with
  | nil =>
    intro xs vs s M K hk hl X m h
    obtain rfl : [] = xs := Option.some.inj hk
    cases vs with
    | cons _ _ => exact nomatch hl
    | nil => exact wpAny_pure (Ex.done (.refl _) h ⟨[], .nil, rfl, trivial⟩ m)
  | cons k ks ih =>
    intro xs vs s M K hk hl X m h
    obtain ⟨x, k2, p2, ys, e1, hk2, e2⟩ := keysOf_inv hk
    clear hk
    subst e1 e2
    cases vs with
    | nil => exact nomatch hl
    | cons e es =>
      show Ex g c A s (evalPairs ((eval (.Constant (.str x) k2 p2) c.env, do let x ← eval e c.env; standAt pos; pure x) :: pairTrees ks es c.env pos)) _ _
      rw [evalPairs]
      refine wpAny_bind (Constant_str (wpAny_bind (wpAny_holding (wpAny_bind ((S.E _ _ _ _ { s with toks := s.toks + 1 } _ _ X m R h).then fun v h' tk d M' k h rv m' => ?_)))))
      refine wpAny_bind (wpAny_standAt (wpAny_pure (wpAny_bind (wpAny_holding ?_))))
      refine (ih (xs := ys) (s := { s with heap := h', toks := tk }) hk2 (Nat.succ.inj hl) (X.next k) m' h).then fun ps h'' tk' ds M'' k' h rp m'' => ?_
      obtain ⟨vs, r1, r2, r3⟩ := rp
      exact wpAny_pure (Ex.done (k.trans k') h ⟨v :: vs, .cons (rv.up (k'.up X.w.mu)) r1, congrArg (· + 1) r2, strKind_is pw g.w _ _, rfl, r3⟩ m'')
theorem keys_all (ks : List (Option Expr)) : ∀ {xs : List Str}, keysOf ks = some xs → ks.all (·.isSome) = true ∧ ks.length = xs.length := by
  induction ks with
  | nil => exact fun h => ⟨rfl, Option.some.inj h ▸ rfl⟩
  | cons k ks ih =>
    intro xs h
    obtain ⟨x, k2, p2, ys, rfl, hk2, rfl⟩ := keysOf_inv h
    exact ⟨(ih hk2).1, congrArg (· + 1) (ih hk2).2⟩
theorem dict_ok (S : Snd g n r) {ks : List (Option Expr)} {vs : List Expr} {pos : Pos} {K : KE} (X : St g c f s.heap) (m : MuOk g c.sp c.bad s.heap M) (R : Room A n) (h : dictP r ks vs f M K) : Ex g c A s (eval (.Dict ks vs pos) c.env) (RV g c) K := by
  rcases op_inv h with ⟨xs, hk, h7⟩ | ⟨_, h7⟩
  rotate_left
  · exact h7.elim
  clear h
  obtain ⟨hb, h⟩ := tr_inv (b := nodupS xs && xs.length == vs.length && Nat.ble xs.length 8) h7
  clear h7
  · · simp only [Bool.and_eq_true, beq_iff_eq] at hb
      obtain ⟨⟨b1, b2⟩, b3⟩ := hb
      have b3 := Nat.le_of_ble_eq_true b3
      obtain ⟨ka, kl⟩ := keys_all _ hk
      have hD := get_size s.heap
      have eD : (s.heap.push { cls := .type "dict", data := .dict #[] }).get? s.heap.objs.size = some { cls := .type "dict", data := .dict #[] } := Heap.get?_push_size _ rfl
      have dn := Heap.DictOf.new (knd := strKind pw g.w) s.heap
      cases ks with
      | nil =>
        cases hk
        cases vs with
        | cons _ _ => simp at b2
        | nil =>
          exact wpAny_Dict_empty (Ex.done (.push _ _) h (.dct (vs := []) dn X.w.new rfl .nil) (m.keep (push_keep _ _)))
      | cons k0 ks =>
        have X1 : St g (c.priv s.heap.objs.size) f (s.heap.push { cls := .type "dict", data := .dict #[] }) := X.priv hD eD (push_keep _ _)
        have m1 : MuOk g (c.priv s.heap.objs.size).sp (c.priv s.heap.objs.size).bad (s.heap.push { cls := .type "dict", data := .dict #[] }) M := m.up (push_keep _ _) (up_priv hD (push_keep _ _))
        refine wpAny_Dict_any ka (by rw [kl, b2]) (by simp) (by rw [kl]; omega) ?_
        refine (pairs_ok (c := c.priv s.heap.objs.size) (s := { s with heap := s.heap.push { cls := .type "dict", data := .dict #[] } }) S pos R _ hk b2 X1 m1 h).then fun ps h' tk ds M' k h rp m' => ?_
        obtain ⟨us, r1, r2, r3⟩ := rp
        have nmu : ¬ c.sp.mu s.heap.objs.size := fun q => X.w.new (X.w.mu _ q)
        have dn' : h'.DictOf (strKind pw g.w) s.heap.objs.size [] := dn.at fun o e => k.keep _ _ e nmu
        refine wpAny_storeAll (knd := strKind pw g.w) ps (xs.zip us) [] _ _ r3 dn' (by rw [List.length_zip, sizeLine_eq]; simp; omega) fun h2 d2 s2 => ?_
        have hkk : ∀ b o, b ≠ s.heap.objs.size → h'.get? b = some o → h2.get? b = some o := fun b o hb e => (s2.2 b hb).trans e
        rw [merged_nodup _ _ (by rw [List.nil_append, List.map_fst_zip (by omega)]; exact nodup_of b1)] at d2
        have nd : ∀ b o, s.heap.get? b = some o → b ≠ s.heap.objs.size := fun b o e q => by rw [q, hD] at e; cases e
        have kp : Kp c.sp s.heap h2 := ⟨fun b o e nb => hkk b o (nd b o e) (k.keep _ _ (push_keep _ _ _ _ e) nb), fun b o e => let ⟨o', e'⟩ := k.alive _ _ (push_keep s.heap _ _ _ e); ⟨o', hkk b o' (nd b o e) e'⟩⟩
        exact Ex.done kp h (.dct d2 X.w.new r2 (r1.up (up_unpriv hkk))) (m'.up2 (fun b o q e => hkk b o (fun z => nmu (z ▸ q)) e) (up_unpriv hkk))
end
end Mine
end

section
set_option backward.match.sparseCases false
open PySem PySem.W PySem.Calls PyProof.Rows
open Builtin Builtin.Str
open AutoSeq1 (wpAny_loadPart')
set_option Elab.async false
set_option maxRecDepth 100000
namespace Mine

-- enumerate over a tuple
theorem meets_enum_tup (l : Addr) (items : Array Value) (n : Nat) :
    Meets (Builtin.«enumerate.__new__» ⟨[.type "enumerate", .ref l], []⟩) (fun _ R s => s.heap.get? l = some { cls := .type "tuple", dict := none, data := .seq items n, slots := #[] } ∧
      R (.ok (.ret (.ref (s.heap.push { cls := .type "tuple_iterator", data := .fields #[.ref l, .int 0 0] }).objs.size)))
        { s with heap := (s.heap.push { cls := .type "tuple_iterator", data := .fields #[.ref l, .int 0 0] }).push { cls := .type "enumerate", data := .fields #[.none, .bool false, .ref s.heap.objs.size, rawInt 0, .none, .none] } }) :=
  .of_wp fun prog w A R s h => by
    obtain ⟨hp, g, d, tk, os⟩ := s; obtain ⟨hl, h⟩ := h
    have hsub := sub_enumerate
    have hL : Heap.IsTuple (Shared.heap ⟨hp, g, d, tk, os⟩) l items := ⟨_, hl, rfl, n, rfl⟩
    wp_walk using wpAny_loadPart' hl
    refine wpAny_stack_any fun st => wpAny_pure ?_
    split
    · rename_i c _ _ _ _ _
      cases (c == Value.type "enumerate")
      · wp_walk using wpAny_loadPart' hl, wpAny_pyIter_tuple hL
        exact ⟨_, rfl, h⟩
      · wp_walk using wpAny_loadPart' hl, wpAny_pyIter_tuple hL
        exact ⟨_, rfl, h⟩
    · wp_walk using wpAny_loadPart' hl, wpAny_pyIter_tuple hL
      exact ⟨_, rfl, h⟩

section
variable {prog : Program} {w : World} {A : Around} {E : Value → Shared → Prop} {s : Shared}
theorem call_enum_tup {l : Addr} {items : Array Value} {n : Nat} {Q : Value → Shared → Prop}
    (hl : s.heap.get? l = some { cls := .type "tuple", dict := none, data := .seq items n, slots := #[] })
    (h : ∀ h', IsEnum h' (s.heap.objs.size + 1) s.heap.objs.size 0 .none → h'.IsTupleIter s.heap.objs.size l 0 → h'.objs.size = s.heap.objs.size + 2 →
      (∀ b o, s.heap.get? b = some o → h'.get? b = some o) → Q (.ref (s.heap.objs.size + 1)) { s with heap := h' }) :
    wpAny (model prog w) A (call (.type "enumerate") [.ref l]) Q E s := by
  refine callType_new F.called_enumerate (by decide) (F.typeCall_enumerate_1 _) (F.newCall_enumerate_1 _) (fun obj => F.args_object_init_2 obj _) F.entry_enumerate_new
    (meets_enum_tup l items n) ⟨hl, ?_⟩
  have hz : (s.heap.push { cls := .type "tuple_iterator", data := .fields #[.ref l, .int 0 0] }).objs.size = s.heap.objs.size + 1 := Heap.size_push ..
  show _ ∧ _
  rw [hz]
  have he : IsEnum ((s.heap.push { cls := .type "tuple_iterator", data := .fields #[.ref l, .int 0 0] }).push
      { cls := .type "enumerate", data := .fields #[.none, .bool false, .ref s.heap.objs.size, rawInt 0, .none, .none] }) (s.heap.objs.size + 1) s.heap.objs.size 0 .none := by
    have := Heap.get?_push_size (s.heap.push { cls := .type "tuple_iterator", data := .fields #[.ref l, .int 0 0] })
      (o := { cls := .type "enumerate", data := .fields #[.none, .bool false, .ref s.heap.objs.size, rawInt 0, .none, .none] }) rfl
    rw [hz] at this; exact this
  refine ⟨⟨_, he, rfl⟩, h _ he ⟨_, Heap.get?_push_of_some _ (Heap.get?_push_size _ rfl), rfl, rfl⟩ (by rw [Heap.size_push, hz]) fun b o x => Heap.get?_push_of_some _ (Heap.get?_push_of_some _ x)⟩

theorem nextOf_tup_item {it l : Addr} {i : Nat} {items} {x : Value} {Q : Value → Shared → Prop} (hit : s.heap.IsTupleIter it l i)
    (hl : s.heap.IsTuple l items) (hx : items[i]? = some x)
    (hQ : ∀ h', h'.IsTupleIter it l (i + 1) → Heap.SameBut it s.heap h' → Q x { s with heap := h' }) :
    wpAny (model prog w) A (Builtin.SmallTypes.nextOf (.ref it)) Q E s := by
  obtain ⟨o, ho, hc, hd⟩ := id hit
  obtain ⟨ol, hol, _, nl, hdl⟩ := hl
  unfold Builtin.SmallTypes.nextOf
  refine wpAny_bind (wpAny_callSpecial?_slot (name := Str.ofString "__next__") hit.typeIs F.slot_tuple_iterator_next
    (wpAny_call_entry F.slot_tuple_iterator_next hit.typeIs F.entry_tuple_iterator_next ?_ (F.args_tuple_iterator_next_1 _)))
  show wpAny _ _ (field (.ref it) 0 >>= _) _ _ s
  refine wpAny_bind (wpAny_field ho hd (x := .ref l) rfl ?_)
  show wpAny _ _ (if (Value.ref l == Value.none) = true then _ else _) _ _ s
  rw [if_neg (show ¬ ((Value.ref l == Value.none) = true) from Bool.false_ne_true)]
  show wpAny _ _ (field (.ref it) 1 >>= _) _ _ s
  refine wpAny_bind (wpAny_field ho hd (x := .int i 0) rfl ?_)
  show wpAny _ _ (seqItems? (.ref l) >>= _) _ _ s
  refine wpAny_bind (wpAny_seqItems hol hdl ?_)
  simp only [Int.toNat_natCast, hx]
  refine wpAny_bind (wpAny_setField ho hd (by simp) (wpAny_pure ⟨x, rfl, wpAny_pure (hQ _ ?_ (Heap.SameBut.update ..))⟩))
  exact ⟨_, Heap.get?_update_self _ ho (Obj.isFreed_of_fields (Obj.data_mapFields hd _)), (Obj.cls_mapFields ..).trans hc, by
    rw [Obj.data_mapFields hd]; simp [rawInt]⟩

theorem nextOf_tup_end {it l : Addr} {i : Nat} {items} {Q : Value → Shared → Prop} (hh : A.handled = none)
    (hit : s.heap.IsTupleIter it l i) (hl : s.heap.IsTuple l items) (hx : items[i]? = none)
    (hE : ∀ h' e, Heap.ExtBut it s.heap h' → (∃ o, h'.get? e = some o ∧ o.cls = .type "StopIteration") → E (.ref e) { s with heap := h' }) :
    wpAny (model prog w) A (Builtin.SmallTypes.nextOf (.ref it)) Q E s := by
  obtain ⟨o, ho, hc, hd⟩ := id hit
  obtain ⟨ol, hol, _, nl, hdl⟩ := hl
  unfold Builtin.SmallTypes.nextOf
  refine wpAny_bind (wpAny_callSpecial?_slot (name := Str.ofString "__next__") hit.typeIs F.slot_tuple_iterator_next
    (wpAny_call_entry F.slot_tuple_iterator_next hit.typeIs F.entry_tuple_iterator_next ?_ (F.args_tuple_iterator_next_1 _)))
  show wpAny _ _ (field (.ref it) 0 >>= _) _ _ s
  refine wpAny_bind (wpAny_field ho hd (x := .ref l) rfl ?_)
  show wpAny _ _ (if (Value.ref l == Value.none) = true then _ else _) _ _ s
  rw [if_neg (show ¬ ((Value.ref l == Value.none) = true) from Bool.false_ne_true)]
  show wpAny _ _ (field (.ref it) 1 >>= _) _ _ s
  refine wpAny_bind (wpAny_field ho hd (x := .int i 0) rfl ?_)
  show wpAny _ _ (seqItems? (.ref l) >>= _) _ _ s
  refine wpAny_bind (wpAny_seqItems hol hdl ?_)
  simp only [Int.toNat_natCast, hx]
  refine wpAny_bind (wpAny_rule (wpAny_bind (wpAny_setField ho hd (by simp) ?_)))
  show wpAny _ _ (newExc (.type "StopIteration") [] >>= _) _ _ _
  refine wpAny_bind ?_
  simp only [newExc, newTuple]
  refine wpAny_bind (wpAny_newObj_type ?_ (by size_fits))
  refine wpAny_bind (m := firstArgMember _ _) (wpAny_of_eq (a := Value.none) (by first | rfl | (simp only [firstArgMember]; rfl)) ?_)
  refine wpAny_newObj_type ?_ (by size_fits)
  simp only [raiseNew]
  refine wpAny_bind (wpAny_handled ?_)
  first | rw [show A.in1.handled = none from hh] | rw [hh]
  refine wpAny_bind (wpAny_pure (wpAny_throw ?_))
  exact hE _ _ (((Heap.SameBut.update ..).extBut.push _).push _) ⟨_, Heap.get?_push_size _ rfl, rfl⟩
end
theorem draws_tup {prog : Program} {w : World} {A : Around} (hh : A.handled = none) (it l : Addr) (hne : l ≠ it) (items : Array Value) :
    Draws prog w A it [it, l] items.size (fun i v => items[i]? = some v) (fun i h => h.IsTupleIter it l i ∧ h.IsTuple l items) where
  live := fun _ _ st => let ⟨o, ho, _⟩ := st.1; ⟨o, ho⟩
  frame := fun _ _ _ st hk => ⟨st.1.at fun o e => hk it (by simp) o e, st.2.at fun o e => hk l (by simp) o e⟩
  item := fun i s Q E hi st hQ => by
    refine nextOf_tup_item st.1 st.2 (x := items[i]) (by simp [hi]) fun h' hit' hs' => ?_
    exact hQ _ h' s.toks (by simp [hi]) ⟨hit', st.2.extBut hs'.extBut hne⟩ hs'
  done := fun s Q E st hE => nextOf_tup_end hh st.1 st.2 (by simp) hE
end Mine
end

section
set_option backward.match.sparseCases false
open PySem PySem.W PySem.Calls PyProof.Rows
set_option Elab.async false
set_option maxRecDepth 100000
namespace Mine

/-- the iterator I (with its inner one J) still hands out xs -/
inductive Itr (g : Gl) (sp : Sp) (bad : Addr → Prop) (h : Heap) (I J : Addr) : Bool → List D → Prop
  | lst {ax i : Nat} {vs : List Value} {n : Nat} {xs : List D} : h.IsListIter I ax i → h.get? ax = some (lstO vs n) → ¬ bad ax → RepAll g sp bad h (vs.drop i) xs → Itr g sp bad h I J false xs
  | tup {ax i : Nat} {vs : List Value} {n : Nat} {xs : List D} : h.IsTupleIter I ax i → h.get? ax = some (tupO vs n) → ¬ bad ax → RepAll g sp bad h (vs.drop i) xs → Itr g sp bad h I J false xs
  | rng {a : Int} {m : Nat} : IsRangeIter h I a m 1 → Itr g sp bad h I J false (rangeFrom a m)
  | enm {ax i : Nat} {vs : List Value} {n : Nat} {xs : List D} {old : Value} : I ≠ J → i ≤ vs.length → IsEnum h I J (i : Int) old → h.IsTupleIter J ax i → h.get? ax = some (tupO vs n) → ¬ bad ax → RepAll g sp bad h (vs.drop i) xs → Itr g sp bad h I J true (enumFrom (i : Int) xs)
/-- the same, with a pair of enumerate's handed out -/
inductive ItrO (g : Gl) (sp : Sp) (bad : Addr → Prop) (h : Heap) (I J : Addr) : Bool → Value → List D → Prop
  | plain {v xs} : Itr g sp bad h I J false xs → ItrO g sp bad h I J false v xs
  | enm {ax i : Nat} {vs : List Value} {n : Nat} {xs : List D} {x : Value} {T : Addr} : I ≠ J → i + 1 ≤ vs.length → IsEnumOut h I J ((i + 1 : Nat) : Int) x T → h.IsTupleIter J ax (i + 1) → h.get? ax = some (tupO vs n) → ¬ bad ax → RepAll g sp bad h (vs.drop (i + 1)) xs → ItrO g sp bad h I J true (.ref T) (enumFrom ((i + 1 : Nat) : Int) xs)

section
variable {g : Gl} {sp : Sp} {bad bad' : Addr → Prop} {h h' : Heap} {I J : Addr} {b : Bool} {xs : List D}
theorem Itr.up (u : Up bad bad' h h') (kI : ∀ o, h.get? I = some o → h'.get? I = some o) (kJ : ∀ o, h.get? J = some o → h'.get? J = some o) (it : Itr g sp bad h I J b xs) : Itr g sp bad' h' I J b xs := by
  cases it with
  | lst a e n r => exact .lst (a.at kI) (u.keep _ _ e n) (u.no e n) (r.up u)
  | tup a e n r => exact .tup (a.at kI) (u.keep _ _ e n) (u.no e n) (r.up u)
  | rng a => exact .rng (kI _ a)
  | enm ne li a c e n r => exact .enm ne li (kI _ a) (c.at kJ) (u.keep _ _ e n) (u.no e n) (r.up u)
theorem Itr.liveI (it : Itr g sp bad h I J b xs) : ∃ o, h.get? I = some o := by
  cases it with
  | lst a _ _ _ => exact ⟨_, a.choose_spec.1⟩
  | tup a _ _ _ => exact ⟨_, a.choose_spec.1⟩
  | rng a => exact ⟨_, a⟩
  | enm _ _ a _ _ _ _ => exact ⟨_, a⟩
theorem isL_of {vs : List Value} {n : Nat} {a : Addr} (e : h.get? a = some (lstO vs n)) : h.IsList a vs.toArray := ⟨_, e, rfl, n, rfl⟩
theorem isT_of {vs : List Value} {n : Nat} {a : Addr} (e : h.get? a = some (tupO vs n)) : h.IsTuple a vs.toArray := ⟨_, e, rfl, n, rfl⟩
theorem drop_cons {x : D} {vs : List Value} {i : Nat} (r : RepAll g sp bad h (vs.drop i) (x :: xs)) : ∃ v, vs[i]? = some v ∧ Rep g sp bad h v x ∧ RepAll g sp bad h (vs.drop (i + 1)) xs ∧ i < vs.length := by
  have hl : i < vs.length := by
    have := r.length
    rw [List.length_drop, List.length_cons] at this; omega
  rw [List.drop_eq_getElem_cons hl] at r
  cases r with | cons a q => exact ⟨_, List.getElem?_eq_getElem hl, a, q, hl⟩
theorem drop_nil {vs : List Value} {i : Nat} (r : RepAll g sp bad h (vs.drop i) []) : vs.length ≤ i := by
  have := r.length
  rw [List.length_drop] at this
  simp at this; omega
end

section
variable {g : Gl} {sp : Sp} {bad : Addr → Prop} {I J : Addr} {b : Bool} {xs : List D} {A : Around} {s : Shared} {E : Value → Shared → Prop}

theorem sb_up {h h' : Heap} (bI : bad I) (k : Heap.SameBut I h h') : Up bad bad h h' := ⟨fun c o e n => k.extBut c o (fun q => n (q ▸ bI)) e, fun _ _ _ q => q⟩
theorem Itr.next {x : D} {Q : Option Value → Shared → Prop} (al : ∀ a, bad a → ∃ o, s.heap.get? a = some o) (bI : bad I) (bJ : bad J) (hh : A.handled = none) (it : Itr g sp bad s.heap I J b (x :: xs))
    (hQ : ∀ v h' tk, Rep g sp bad h' v x → ItrO g sp bad h' I J b v xs → (∀ a o, a ≠ I → a ≠ J → s.heap.get? a = some o → h'.get? a = some o) → Q (some v) { s with heap := h', toks := tk }) :
    wpAny (model pw g.w) A (pyNext (.ref I)) Q E s := by
  generalize hl : x :: xs = l at it
  cases it with
  | lst a e n r =>
    subst hl
    obtain ⟨v, h1, h2, h3, h4⟩ := drop_cons r
    refine wpAny_pyNext_list_item a (isL_of e) (x := v) (by simpa using h1) fun h' hi k => ?_
    have u := sb_up bI k
    exact hQ v h' s.toks (h2.up u) (.plain (.lst hi (u.keep _ _ e n) n (h3.up u))) fun a o ha _ e => k.extBut a o ha e
  | tup a e n r =>
    subst hl
    obtain ⟨v, h1, h2, h3, h4⟩ := drop_cons r
    refine wpAny_pyNext_tuple_item a (isT_of e) (x := v) (by simpa using h1) fun h' hi k => ?_
    have u := sb_up bI k
    exact hQ v h' s.toks (h2.up u) (.plain (.tup hi (u.keep _ _ e n) n (h3.up u))) fun a o ha _ e => k.extBut a o ha e
  | @rng a m i =>
    cases m with
    | zero => cases hl
    | succ m =>
      cases hl
      refine wpAny_pyNext_range_item i (by omega) fun h' hi k => ?_
      refine hQ _ h' _ (.int _ _) (.plain (.rng (a := a + 1) (m := m) ?_)) fun a o ha _ e => k.extBut a o ha e
      have : ((m + 1 : Nat) : Int) - 1 = (m : Int) := by omega
      rw [this] at hi; exact hi
  | @enm ax i vs n ys old ne li he a e nb r =>
    cases ys with
    | nil => cases hl
    | cons y ys =>
      cases hl
      obtain ⟨v, h1, h2, h3, h4⟩ := drop_cons r
      have hax : ax ≠ J := fun q => by
        obtain ⟨o, ho, _, hd⟩ := a
        rw [q, ho] at e; cases e; cases hd
      have hxI : ax ≠ I := fun q => by
        rw [q] at e
        exact absurd (congrArg Obj.cls (Option.some.inj ((show s.heap.get? I = _ from he).symm.trans e))) (by simp)
      refine wpAny_pyNext_enum_itemD (draws_tup (A := A.in1) hh J ax hax vs.toArray) he ⟨a, isT_of e⟩ (by simpa using h4) ne (by simp [ne]; exact fun q => hxI q.symm) fun v' h' tk hv heo hst hT hz hk => ?_
      have : v' = v := by simp [h1] at hv; exact hv.symm
      subst this
      have u : Up bad bad s.heap h' := ⟨fun c o e n => hk c o (fun q => n (q ▸ bI)) (fun q => n (q ▸ bJ)) e, fun _ _ _ q => q⟩
      have nT : ¬ bad s.heap.objs.size := fun q => by
        obtain ⟨o, ho⟩ := al _ q
        rw [get_size] at ho; cases ho
      refine hQ _ h' _ (.tup (vs := [.int (i : Int) tk, v']) (n := 0) hT nT (.cons (.int _ _) (.cons (h2.up u) .nil))) ?_ fun a o h1 h2 e => hk a o h1 h2 e
      have e1 : ((i : Int) + 1) = ((i + 1 : Nat) : Int) := by omega
      rw [e1] at heo ⊢
      exact .enm ne h4 heo hst.1 (u.keep _ _ e nb) nb (h3.up u)
theorem Itr.stop {Q : Option Value → Shared → Prop} (hh : A.handled = none) (it : Itr g sp bad s.heap I J b [])
    (hQ : ∀ h', (∀ a o, a ≠ I → a ≠ J → s.heap.get? a = some o → h'.get? a = some o) → Q none { s with heap := h' }) :
    wpAny (model pw g.w) A (pyNext (.ref I)) Q E s := by
  generalize hl : ([] : List D) = l at it
  cases it with
  | @lst ax i vs n xs a e nb r =>
    subst hl
    exact wpAny_pyNext_list_end hh a (isL_of e) (by simpa using drop_nil r) fun h' k => hQ h' fun a o ha _ e => k a o ha e
  | tup a e n r =>
    subst hl
    exact wpAny_pyNext_tuple_end hh a (isT_of e) (by simpa using drop_nil r) fun h' k => hQ h' fun a o ha _ e => k a o ha e
  | @rng a m i =>
    cases m with
    | zero => exact wpAny_pyNext_range_end hh i (by omega) fun h' k => hQ h' fun a o ha _ e => k a o ha e
    | succ m => cases hl
  | @enm ax i vs n ys old ne li he a e nb r =>
    cases ys with
    | cons _ _ => cases hl
    | nil =>
      have hax : ax ≠ J := fun q => by
        obtain ⟨o, ho, _, hd⟩ := a
        rw [q, ho] at e; cases e; cases hd
      have hi : i = vs.toArray.size := by
        have := drop_nil r
        rw [List.size_toArray]; omega
      exact wpAny_pyNext_enum_endD (draws_tup (A := A.in1) hh J ax hax vs.toArray) he (n := vs.toArray.size) ⟨hi ▸ a, isT_of e⟩ fun h' k => hQ h' fun a o _ ha e => k a o ha e
theorem ItrO.go {t : Expr} {v : Value} {Q : Unit → Shared → Prop} (bI : bad I) (it : ItrO g sp bad s.heap I J b v xs) (ht : b = true → isTup t = true)
    (hQ : ∀ h', Itr g sp bad h' I J b xs → (∀ a o, a ≠ I → s.heap.get? a = some o → h'.get? a = some o) → Q () { s with heap := h' }) :
    wpAny (model pw g.w) A (letOwnedTupleGo t (.ref I) v) Q E s := by
  cases it with
  | plain it =>
    have key : ∃ o n, s.heap.get? I = some o ∧ o.cls = .type n ∧ ["enumerate", "zip", "dict_itemiterator", "dict_reverseitemiterator", "odict_iterator", "itertools.zip_longest", "itertools.pairwise"].contains n = false := by
      cases it with
      | lst a _ _ _ => obtain ⟨o, h1, h2, _⟩ := a; exact ⟨o, _, h1, h2, by decide⟩
      | tup a _ _ _ => obtain ⟨o, h1, h2, _⟩ := a; exact ⟨o, _, h1, h2, by decide⟩
      | rng a => exact ⟨_, _, a, rfl, by decide⟩
    obtain ⟨o, n, h1, h2, h3⟩ := key
    have hq : Q () s := hQ s.heap it fun _ _ _ e => e
    have tup : ∀ ts k p, wpAny (model pw g.w) A (letOwnedTupleGo (.Tuple ts k p) (.ref I) v) Q E s := fun ts k p => by
      cases v with
      | ref a =>
        refine wpAny_bind (wpAny_load h1 ?_)
        rw [h2]
        generalize o.data = d
        cases d with
        | fields us =>
          show wpAny _ _ (if (_ && _) = true then _ else _) _ _ _
          rw [h3, Bool.false_and]
          exact wpAny_pure hq
        | _ => exact wpAny_pure hq
      | _ => exact wpAny_pure hq
    cases t with
    | Tuple ts k p => exact tup ts k p
    | List ts p => exact tup [] 0 p
    | _ => exact wpAny_pure hq
  | @enm ax i vs n ys x T ne li he a e nb r =>
    have ht := ht rfl
    obtain ⟨_, _, _, rfl⟩ := isTup_inv ht
    refine wpAny_letOwnedTupleGo_enum he fun h' he' k => ?_
    have u := sb_up (bad := bad) bI k
    exact hQ h' (.enm ne li he' (a.at fun o e => k.extBut J o (Ne.symm ne) e) (u.keep _ _ e nb) nb (r.up u)) fun a o ha e => k.extBut a o ha e
end
end Mine
end

section
set_option backward.match.sparseCases false
open PySem PySem.W PySem.Calls PyProof.Rows
set_option Elab.async false
set_option maxRecDepth 100000
namespace Mine

theorem lookup_setL {α : Type} : ∀ (l : List (Str × α)) (x y : Str) (d : α), (setL l x d).lookup y = if y = x then some d else l.lookup y
  | [], x, y, d => by
    unfold setL
    by_cases h : y = x
    · subst h; simp
    · rw [if_neg h, List.lookup_cons, beq_eq_false_iff_ne.mpr h]
  | (k, e) :: r, x, y, d => by
    unfold setL
    cases hk : k == x with
    | true =>
      obtain rfl := eq_of_beq hk
      by_cases h : y = k
      · subst h; simp
      · simp only [List.lookup_cons, beq_eq_false_iff_ne.mpr h, if_neg h]
    | false =>
      have hk := beq_eq_false_iff_ne.mp hk
      simp only [List.lookup_cons]
      cases hy : y == k with
      | true =>
        obtain rfl := eq_of_beq hy
        simp [hk]
      | false => simp only [lookup_setL r x y d]
theorem lookup_delL {α : Type} : ∀ (l : List (Str × α)) (x y : Str), (delL l x).lookup y = if y = x then none else l.lookup y
  | [], x, y => by simp [delL]
  | (k, e) :: r, x, y => by
    unfold delL
    cases hk : k == x with
    | true =>
      obtain rfl := eq_of_beq hk
      simp only [lookup_delL r k y, List.lookup_cons]
      by_cases h : y = k
      · simp [h]
      · simp only [if_neg h, beq_eq_false_iff_ne.mpr h]
    | false =>
      have hk := beq_eq_false_iff_ne.mp hk
      simp only [List.lookup_cons, lookup_delL r x y]
      cases hy : y == k with
      | true =>
        obtain rfl := eq_of_beq hy
        simp [hk]
      | false => rfl

theorem cell_ne_ns {h : Heap} {a b : Addr} {v : Option Value} {m : Str → Option Value} (c : h.IsCell a v) (n : h.Ns b m) : a ≠ b := fun q => by
  subst q
  obtain ⟨o, e, d⟩ := c
  obtain ⟨o', es, ep, e', d', _⟩ := n
  rw [e] at e'; cases e'
  rw [d] at d'; cases d'

section
variable {g : Gl} {c : Cx} {f : Fm} {A : Around} {s : Shared} {M : Mu}

noncomputable abbrev Cx.put (c : Cx) (m : Str → Option Value) : Cx := { c with m := m }
theorem St.store {h h' : Heap} {x : Str} {v : Value} {d : D} (X : St g c f h) (bL : c.bad c.env.locals) (hx : f.sc.names.lookup x = some .local) (rv : Rep g c.sp c.bad h v d)
    (hn : h'.Ns c.env.locals (fun y => if y = x then some v else c.m y)) (k : ∀ b o, b ≠ c.env.locals → h.get? b = some o → h'.get? b = some o) : St g (c.put fun y => if y = x then some v else c.m y) (f.set x d) h' := by
  have u : Up c.bad c.bad h h' := ⟨fun b o e n => k b o (fun q => n (q ▸ bL)) e, fun _ _ _ q => q⟩
  have aL : ∃ o, h'.get? c.env.locals = some o := let ⟨o, _, _, e, _⟩ := hn; ⟨o, e⟩
  have nc : ∀ {a : Addr} {u : Option Value}, h.IsCell a u → h'.IsCell a u := fun {a u} z => by
    have := cell_ne_ns z X.ns
    obtain ⟨o, e, d⟩ := z
    exact ⟨o, k _ _ this e, d⟩
  have hk := X.lo x hx
  have vi : ∀ {y u}, y ≠ x → VarIs c h y u → VarIs (c.put fun y => if y = x then some v else c.m y) h' y u := fun {y u} ny q =>
    q.imp (fun ⟨a, b⟩ => ⟨a, (if_neg ny).trans b⟩) fun ⟨a, b, e, n, z⟩ => ⟨a, b, e, n, nc z⟩
  exact {
    w := ⟨fun b o e => k _ _ (fun q => by rw [q, X.w.muHb _ bL] at e; cases e) (X.w.base b o e), fun a q => by
        by_cases z : a = c.env.locals
        · exact z ▸ aL
        · obtain ⟨o, e⟩ := X.w.al a q
          exact ⟨o, k _ _ z e⟩, X.w.mu, X.w.muHb, X.w.s1, X.w.s2⟩
    kind := X.kind
    glob := X.glob
    blt := X.blt
    ns := hn
    nL := X.nL
    gl := X.gl
    lo := X.lo
    ce := X.ce
    loc := fun y d' e => by
      have e : (setL f.loc x d).lookup y = some d' := e
      rw [lookup_setL] at e
      by_cases hy : y = x
      · rw [if_pos hy] at e
        cases e
        exact ⟨v, .inl ⟨hy ▸ hk, if_pos hy⟩, rv.up u⟩
      · rw [if_neg hy] at e
        obtain ⟨v', a, b⟩ := X.loc y d' e
        exact ⟨v', vi hy a, b.up u⟩
    own := fun y l e => by
      have e : (delL f.own x).lookup y = some l := e
      rw [lookup_delL] at e
      by_cases hy : y = x
      · rw [if_pos hy] at e; cases e
      · rw [if_neg hy] at e
        obtain ⟨a, vs, n, p, q, r, b, nm, nl, z⟩ := X.own y l e
        exact ⟨a, vs, n, vi hy p, q, k _ _ nl r, b, nm, nl, z.up u⟩ }
end
end Mine
end

section
set_option backward.match.sparseCases false
open PySem PySem.W PySem.Calls PyProof.Rows
set_option Elab.async false
set_option maxRecDepth 100000
namespace Mine

section
variable {g : Gl} {sp : Sp} {bad : Addr → Prop} {I J : Addr} {A : Around} {E : Value → Shared → Prop}

theorem ItrO.plainly {h : Heap} {v : Value} {xs : List D} (it : ItrO g sp bad h I J false v xs) : Itr g sp bad h I J false xs := by
  generalize hb : false = b at it
  cases it with
  | plain i => exact i
  | enm _ _ _ _ _ _ _ => cases hb
theorem draw_ok (bI : bad I) (hh : A.handled = none) : ∀ (ds : List D) (s : Shared) (Q : List Value → Shared → Prop), (∀ a, bad a → ∃ o, s.heap.get? a = some o) → Itr g sp bad s.heap I I false ds →
    (∀ h' tk vs, RepAll g sp bad h' vs ds → Itr g sp bad h' I I false [] → (∀ b o, b ≠ I → s.heap.get? b = some o → h'.get? b = some o) → Q vs { s with heap := h', toks := tk }) → wpAny (model pw g.w) A (draw (.ref I) ds.length) Q E s
  | [], s, Q, al, it, hQ => wpAny_pure (hQ s.heap s.toks [] .nil it fun _ _ _ e => e)
  | d :: ds, s, Q, al, it, hQ => by
    show wpAny _ _ (pyNext (.ref I) >>= _) Q E s
    refine wpAny_bind (it.next al bI bI hh fun v h1 tk1 rv ito k1 => ?_)
    have it1 := ito.plainly
    refine wpAny_bind (wpAny_holding (draw_ok bI hh ds { s with heap := h1, toks := tk1 } _ (fun a q => by
      by_cases z : a = I
      · subst z; exact it1.liveI
      · obtain ⟨o, e⟩ := al a q
        exact ⟨o, k1 a o z z e⟩) it1 fun h2 tk2 vs rvs it2 k2 => wpAny_pure ?_))
    have u : Up bad bad h1 h2 := ⟨fun b o e n => k2 b o (fun q => n (q ▸ bI)) e, fun _ _ _ q => q⟩
    exact hQ h2 tk2 (v :: vs) (.cons (rv.up u) rvs) it2 fun b o hb e => k2 b o hb (k1 b o hb hb e)
end

section
variable {g : Gl} {sp : Sp} {bad : Addr → Prop} {A : Around} {s : Shared} {E : Value → Shared → Prop}
/-- a new iterator over a list or a tuple -/
theorem iter_new {bad' : Addr → Prop} (hb : ∀ b o, s.heap.get? b = some o → bad' b → bad b) {v : Value} {ds : List D} {Q : Value → Shared → Prop} (rv : Rep g sp bad s.heap v (.lst ds) ∨ Rep g sp bad s.heap v (.tup ds))
    (hQ : ∀ o, Itr g sp bad' (s.heap.push o) s.heap.objs.size s.heap.objs.size false ds → Q (.ref s.heap.objs.size) { s with heap := s.heap.push o }) : wpAny (model pw g.w) A (pyIter v) Q E s := by
  have u : ∀ o, Up bad bad' s.heap (s.heap.push o) := fun o => ⟨fun b o' e _ => push_keep _ _ _ _ e, hb⟩
  rcases rv with rv | rv
  · refine rv.lst_el fun a vs n e nb rs => ?_
    exact wpAny_pyIter_list (isL_of e) (hQ _ (.lst ⟨_, Heap.get?_push_size _ rfl, rfl, rfl⟩ (push_keep _ _ _ _ e) ((u default).no e nb) (by simpa using rs.up (u _))))
  · refine rv.tup_el fun a vs n e nb rs => ?_
    exact wpAny_pyIter_tuple (isT_of e) (hQ _ (.tup ⟨_, Heap.get?_push_size _ rfl, rfl, rfl⟩ (push_keep _ _ _ _ e) ((u default).no e nb) (by simpa using rs.up (u _))))
theorem seq_iterable {v : Value} {ds : List D} {Q : Bool → Shared → Prop} (rv : Rep g sp bad s.heap v (.lst ds) ∨ Rep g sp bad s.heap v (.tup ds)) (hQ : Q false s) : wpAny (model pw g.w) A (notIterableAtAll v) Q E s := by
  unfold notIterableAtAll
  rcases rv with rv | rv
  · refine rv.lst_el fun a vs n e nb rs => ?_
    exact wpAny_bind (wpAny_specialOf (isL_of e).typeIs slot_list_iter.lookup (wpAny_pure hQ))
  · refine rv.tup_el fun a vs n e nb rs => ?_
    exact wpAny_bind (wpAny_specialOf (isT_of e).typeIs F.slot_tuple_iter.lookup (wpAny_pure hQ))
theorem unpack_ok {v : Value} {ds : List D} {Q : List Value → Shared → Prop} (w : W g sp bad s.heap) (hh : A.handled = none) (rv : Rep g sp bad s.heap v (.lst ds) ∨ Rep g sp bad s.heap v (.tup ds))
    (hQ : ∀ h' tk vs, RepAll g sp bad h' vs ds → (∀ b o, s.heap.get? b = some o → h'.get? b = some o) → Q vs { s with heap := h', toks := tk }) : wpAny (model pw g.w) A (unpackItems v ds.length none) Q E s := by
  unfold unpackItems
  refine wpAny_bind (seq_iterable rv ?_)
  simp only [Bool.false_eq_true, if_false]
  have ne : ∀ b o, s.heap.get? b = some o → b ≠ s.heap.objs.size := fun b o e q => by rw [q, get_size] at e; cases e
  have alI : ∀ h' : Heap, (∃ o, h'.get? s.heap.objs.size = some o) → (∀ b o, s.heap.get? b = some o → ∃ o, h'.get? b = some o) → ∀ a, (bad a ∨ a = s.heap.objs.size) → ∃ o, h'.get? a = some o := fun h' e1 k a q =>
    q.elim (fun z => let ⟨o, e⟩ := w.al a z; k a o e) fun z => z ▸ e1
  refine wpAny_bind (wpAny_holding (iter_new (bad' := fun b => bad b ∨ b = s.heap.objs.size) (fun b o e q => q.elim id fun z => (ne b o e z).elim) rv fun o it => ?_))
  refine wpAny_bind (wpAny_holding (draw_ok (.inr rfl) hh ds _ _ (alI _ it.liveI fun b o e => ⟨_, push_keep _ _ _ _ e⟩) it fun h1 tk1 vs rvs it1 k1 => ?_))
  rw [if_neg (by rw [rvs.length]; simp)]
  refine wpAny_bind (wpAny_holding (it1.stop hh fun h2 k2 => ?_))
  simp only [Option.isSome_none, Bool.false_eq_true, if_false]
  refine wpAny_pure (hQ h2 tk1 vs (rvs.up ⟨fun b o e n => k2 b o (fun q => n (.inr q)) (fun q => n (.inr q)) e, fun b o e q => .inl q⟩) fun b o e => ?_)
  have := ne b o e
  exact k2 b o this this (k1 b o this (push_keep _ _ _ _ e))
end
end Mine
end

section
set_option backward.match.sparseCases false
open PySem PySem.W PySem.Calls PyProof.Rows
set_option Elab.async false
set_option maxRecDepth 100000
namespace Mine

section
variable {g : Gl} {c : Cx} {f : Fm} {A : Around} {s : Shared} {M : Mu}

theorem blockKind_fn {env : Env} (h : env.scope.kind = .function) : (env.scope.kind == .class || (env.scope.kind == .module && env.locals != env.globals)) = false := by
  rw [h]; rfl
/-- what is so when names are bound -/
inductive Bound (g : Gl) (c : Cx) (f : Fm) (s : Shared) (ns : List Str) (K : Fm → Prop) (u : Unit) (s' : Shared) : Prop
  | mk (f' : Fm) (h' : Heap) (tk : Nat) (m' : Str → Option Value) (e : s' = { s with heap := h', toks := tk }) (hK : K f') (X : St g (c.put m') f' h') (k : ∀ b o, b ≠ c.env.locals → s.heap.get? b = some o → h'.get? b = some o)
    (y : ∀ y, y ∉ ns → m' y = c.m y ∧ f'.loc.lookup y = f.loc.lookup y) (ho : f.own = [] → f'.own = []) (hs : f'.sc = f.sc)
@[elab_as_elim] theorem Bound.el {g : Gl} {c : Cx} {f : Fm} {s : Shared} {ns : List Str} {K : Fm → Prop} {u : Unit} {P : Shared → Prop} {s' : Shared} (h : Bound g c f s ns K u s')
    (k : ∀ (f' : Fm) (h' : Heap) (tk : Nat) (m' : Str → Option Value), K f' → St g (c.put m') f' h' → (∀ b o, b ≠ c.env.locals → s.heap.get? b = some o → h'.get? b = some o) → (∀ y, y ∉ ns → m' y = c.m y ∧ f'.loc.lookup y = f.loc.lookup y) → (f.own = [] → f'.own = []) → f'.sc = f.sc → P { s with heap := h', toks := tk }) : P s' := by
  cases h with
  | mk f' h' tk m' e hK X kk y ho hs => subst e; exact k f' h' tk m' hK X kk y ho hs

theorem bind_name (X : St g c f s.heap) (bL : c.bad c.env.locals) {x : Str} {v : Value} {d : D} {pos : Pos} {K : Fm → Prop} (hx : f.sc.names.lookup x = some .local) (rv : Rep g c.sp c.bad s.heap v d) (h : K (f.set x d)) :
    wpAny (model pw g.w) A (assign (.Name x pos) c.env v) (Bound g c f s [x] K) (fun _ _ => False) s := by
  refine wpAny_assign_Name (wpAny_storeName_local (X.lo x hx) X.ns (fun h' hn k => ?_) (blockKind_fn X.kind))
  have kk : ∀ b o, b ≠ c.env.locals → s.heap.get? b = some o → h'.get? b = some o := fun b o hb e => k.extBut b o hb e
  refine ⟨_, h', _, _, rfl, h, X.store bL hx rv hn kk, kk, fun y hy => ?_, fun q => ?_, rfl⟩
  · have hy : y ≠ x := by simpa using hy
    exact ⟨if_neg hy, by
      show (setL f.loc x d).lookup y = _
      rw [lookup_setL, if_neg hy]⟩
  · show delL f.own x = []
    rw [q]; rfl
theorem each_pl (env : Env) : ∀ {ts : List Expr}, ts.all pl = true → assignEach ts env = ts.map fun t => (false, assign t env)
  | [], _ => rfl
  | t :: ts, h => by
    rw [List.all_cons, Bool.and_eq_true] at h
    have : assignEach (t :: ts) env = (false, assign t env) :: assignEach ts env := by
      cases t <;> first | rfl | exact fa_tr h.1
    rw [this, each_pl env h.2]; rfl
theorem bind_ok (hh : A.handled = none) (n : Nat) :
    (∀ (t : Expr) (d : D) (c : Cx) (f : Fm) (s : Shared) (v : Value) (K : Fm → Prop), St g c f s.heap → c.bad c.env.locals → Rep g c.sp c.bad s.heap v d → bindT n t d f K →
      wpAny (model pw g.w) A (assign t c.env v) (Bound g c f s (tnm n t) K) (fun _ _ => False) s) ∧
    (∀ (ts : List Expr) (ds : List D) (c : Cx) (f : Fm) (s : Shared) (vs : List Value) (K : Fm → Prop), St g c f s.heap → c.bad c.env.locals → RepAll g c.sp c.bad s.heap vs ds → bindTs n ts ds f K →
      wpAny (model pw g.w) A (assignInOrder (ts.map fun t => assign t c.env) vs) (Bound g c f s (tnmS n ts) K) (fun _ _ => False) s) := by
  induction n with
  | zero => exact ⟨fun _ _ _ _ _ _ _ _ _ _ h => False.elim h, fun _ _ _ _ _ _ _ _ _ _ h => False.elim h⟩
  | succ n ih =>
    obtain ⟨ihT, ihS⟩ := ih
    constructor
    · intro t d c f s v K X bL rv h
      cases t with
      | Name x p =>
        obtain ⟨hx, h⟩ := tr_inv (b := isLoc (f.sc.names.lookup x)) h
        exact bind_name X bL (isLoc_inv hx) rv h
      | Tuple ts k p =>
        obtain ⟨ds, hd, h⟩ := seq_inv h
        obtain ⟨hl, h⟩ := tr_inv (b := ts.length == ds.length && ts.all pl) h
        have hd2 : Rep g c.sp c.bad s.heap v (.lst ds) ∨ Rep g c.sp c.bad s.heap v (.tup ds) := hd.elim (fun e => .inl (e ▸ rv)) fun e => .inr (e ▸ rv)
        rw [arm_assign_Tuple]
        refine wpAny_bind (wpAny_standAt ?_)
        rw [Bool.and_eq_true, beq_iff_eq] at hl
        unfold unpack
        have e1 : (ts.map fun t => (false, assign t c.env)).length = ds.length := by rw [List.length_map, hl.1]
        have e2 : (ts.map fun t => (false, assign t c.env)).findIdx? (·.1) = none := by simp
        have e3 : (ts.map fun t => (false, assign t c.env)).map (·.2) = ts.map fun t => assign t c.env := by rw [List.map_map]; rfl
        rw [each_pl _ hl.2, e1, e2, e3]
        refine wpAny_bind (wpAny_holding (unpack_ok X.w hh hd2 fun h' tk vs rvs kk => ?_))
        have X' : St g c f h' := X.next (.of_keep kk)
        refine wpAny_mono (ihS ts ds c f { s with heap := h', toks := tk } vs K X' bL rvs h) (fun _ s' hb => ?_) fun _ _ x => x
        cases hb with
        | mk f' h'' tk' m' e hK hS k' y ho hs => exact ⟨f', h'', tk', m', e, hK, hS, fun b o hb e => k' b o hb (kk b o e), y, ho, hs⟩
      | _ => exact False.elim h
    · intro ts ds c f s vs K X bL rvs h
      cases ts with
      | nil =>
        cases ds with
        | cons _ _ => exact h.elim
        | nil =>
          refine rvs.nil_el (wpAny_pure ?_)
          exact ⟨f, s.heap, s.toks, c.m, rfl, h, X, fun _ _ _ e => e, fun _ _ => ⟨rfl, rfl⟩, id, rfl⟩
      | cons t ts =>
        cases ds with
        | nil => exact h.elim
        | cons d ds =>
          refine rvs.cons_el fun v vs rv rvs => ?_
          show wpAny _ A (do holding vs (assign t c.env v); assignInOrder (ts.map fun t => assign t c.env) vs) _ _ s
          refine wpAny_bind (wpAny_holding (wpAny_mono (ihT t d c f s v _ X bL rv h) (fun _ s' hb => ?_) fun _ _ x => x))
          refine hb.el fun f1 h1 tk1 m1 hK hS k1 hy ho hc => ?_
          clear hb
          have u : Up c.bad c.bad s.heap h1 := ⟨fun b o e n => k1 b o (fun q => n (q ▸ bL)) e, fun _ _ _ q => q⟩
          refine wpAny_mono (ihS ts ds (c.put m1) f1 { s with heap := h1, toks := tk1 } vs K hS bL (rvs.up u) hK) (fun _ s' hb => ?_) fun _ _ x => x
          refine hb.el fun f2 h2 tk2 m2 hK2 hS2 k2 hy2 ho2 hc2 => ?_
          clear hb
          refine ⟨f2, h2, tk2, m2, rfl, hK2, hS2, fun b o hb e => k2 b o hb (k1 b o hb e), fun y q => ?_, fun q => ho2 (ho q), hc2.trans hc⟩
          have q : y ∉ tnm n t ∧ y ∉ tnmS n ts := by
            have : tnmS (n + 1) (t :: ts) = tnm n t ++ tnmS n ts := by rw [tnmS]
            rw [this, List.mem_append, not_or] at q
            exact q
          exact ⟨(hy2 y q.2).1.trans (hy y q.1).1, (hy2 y q.2).2.trans (hy y q.1).2⟩
end
end Mine
end

section
set_option backward.match.sparseCases false
open PySem PySem.W PySem.Calls PyProof.Rows
set_option Elab.async false
set_option maxRecDepth 100000
namespace Mine

section
variable {g : Gl} {c : Cx} {f : Fm} {A : Around} {s : Shared} {M : Mu} {n : Nat} {r : Ev}

/-- a new iterator stands at I (its inner one at J) -/
structure ItNew (g : Gl) (c : Cx) (h0 h' : Heap) (I J : Addr) (b : Bool) (xs : List D) (M : Mu) : Prop where
  kp : Kp c.sp h0 h'
  nI : h0.get? I = none
  nJ : h0.get? J = none
  lI : ∃ o, h'.get? I = some o
  lJ : ∃ o, h'.get? J = some o
  mu : ∀ bad' : Addr → Prop, (∀ a o, a ≠ I → a ≠ J → h'.get? a = some o → bad' a → c.bad a) → MuOk g c.sp bad' h' M
  it : ∀ bad' : Addr → Prop, (∀ a o, a ≠ I → a ≠ J → h'.get? a = some o → bad' a → c.bad a) → Itr g c.sp bad' h' I J b xs
theorem pl_folded {e : Expr} (h : pl e = true) (env : Env) (x : Value) : foldedSetIterable e env x = pure x := by cases e <;> first | rfl | exact fa_tr h
theorem new_ne {h0 : Heap} {b : Addr} {o : Obj} (e : h0.get? b = some o) : b ≠ h0.objs.size := fun q => by rw [q, get_size] at e; cases e
theorem seq_itnew {h0 h1 : Heap} {o : Obj} {xs : List D} (k : Kp c.sp h0 h1) (m : MuOk g c.sp c.bad h1 M) (hz : h0.get? h1.objs.size = none)
    (it : ∀ bad' : Addr → Prop, (∀ b o, h1.get? b = some o → bad' b → c.bad b) → Itr g c.sp bad' (h1.push o) h1.objs.size h1.objs.size false xs) : ItNew g c h0 (h1.push o) h1.objs.size h1.objs.size false xs M where
  kp := k.trans (.push _ _)
  nI := hz
  nJ := hz
  lI := (it (fun _ => False) fun _ _ _ q => q.elim).liveI
  lJ := (it (fun _ => False) fun _ _ _ q => q.elim).liveI
  mu := fun bad' hb => m.up (push_keep _ _) ⟨fun b o' e _ => push_keep _ _ _ _ e, fun b o' e q => hb b o' (new_ne e) (new_ne e) (push_keep _ _ _ _ e) q⟩
  it := fun bad' hb => it bad' fun b o' e q => hb b o' (new_ne e) (new_ne e) (push_keep _ _ _ _ e) q
theorem none_of_alive {h0 h1 : Heap} {a : Addr} (k : ∀ b o, h0.get? b = some o → ∃ o', h1.get? b = some o') (e : h1.get? a = none) : h0.get? a = none := by
  cases q : h0.get? a with
  | none => rfl
  | some o =>
    obtain ⟨o', e'⟩ := k a o q
    rw [e] at e'; cases e'
theorem iterP_ok (G : GlOk g) (S : Snd g n r) {it : Expr} {K : List D → Mu → Prop} {Q : Value → Shared → Prop} {E : Value → Shared → Prop} (X : St g c f s.heap) (m : MuOk g c.sp c.bad s.heap M) (R : Room A n) (h : iterP r it f M K)
    (hQ : ∀ h' tk I xs M', K xs M' → ItNew g c s.heap h' I I false xs M' → Q (.ref I) { s with heap := h', toks := tk }) :
    wpAny (model pw g.w) A (eval it c.env) (fun xv s₁ => wpAny (model pw g.w) A (pyIter xv) Q E s₁) E s ∧ pl it = true := by
  have plain : plainP r it f M K → wpAny (model pw g.w) A (eval it c.env) (fun xv s₁ => wpAny (model pw g.w) A (pyIter xv) Q E s₁) E s ∧ pl it = true := fun h => by
    obtain ⟨hp, h⟩ := tr_inv (b := pl it) h
    refine ⟨(S.E _ _ _ _ _ _ _ X m R h).then fun v h' tk d M' k h rv m' => ?_, hp⟩
    obtain ⟨l, hd, _, hK⟩ := seq_inv h
    have e0 := none_of_alive (fun b o e => k.alive b o e) (get_size h')
    have ex : ∀ o, (∀ bad' : Addr → Prop, (∀ b o, h'.get? b = some o → bad' b → c.bad b) → Itr g c.sp bad' (h'.push o) h'.objs.size h'.objs.size false l) → Q (.ref h'.objs.size) { s with heap := h'.push o, toks := tk } :=
      fun o it => hQ _ _ _ l M' hK (seq_itnew k m' e0 it)
    rcases hd with rfl | rfl
    · refine rv.lst_el fun a vs n e nb rs => ?_
      refine wpAny_pyIter_list (isL_of e) (ex _ fun bad' hb => ?_)
      have u : ∀ o, Up c.bad bad' h' (h'.push o) := fun o => ⟨fun b o' e _ => push_keep _ _ _ _ e, hb⟩
      exact .lst ⟨_, Heap.get?_push_size _ rfl, rfl, rfl⟩ (push_keep _ _ _ _ e) ((u default).no e nb) (rs.up (u _))
    · refine rv.tup_el fun a vs n e nb rs => ?_
      refine wpAny_pyIter_tuple (isT_of e) (ex _ fun bad' hb => ?_)
      have u : ∀ o, Up c.bad bad' h' (h'.push o) := fun o => ⟨fun b o' e _ => push_keep _ _ _ _ e, hb⟩
      exact .tup ⟨_, Heap.get?_push_size _ rfl, rfl, rfl⟩ (push_keep _ _ _ _ e) ((u default).no e nb) (rs.up (u _))
  rcases op_inv h with ⟨⟨x, a⟩, hc, h7⟩ | ⟨_, h7⟩
  · clear h
    rcases bl_inv (b := isGI (f.sc.names.lookup x) && (x == Str.ofString "range" && pl a)) h7 with ⟨hx, h⟩ | ⟨_, h⟩
    · clear h7 plain
      obtain ⟨xp, pos, rfl⟩ := call1_inv hc
      clear hc
      rw [Bool.and_eq_true, Bool.and_eq_true] at hx
      obtain ⟨hk, he, hp⟩ := hx
      have hk := isGI_inv hk
      obtain rfl := eq_of_beq he
      refine ⟨?_, rfl⟩
      show wpAny _ _ (do callWith pos (← eval (.Name (Str.ofString "range") xp) c.env) [] (backTo pos (starEach [a] c.env)) []) _ _ _
      refine wpAny_bind ?_
      refine blt_ok G X hk (by decide +kernel) (by decide +kernel) (G.free _ (by simp)) (v := .type "range") (by decide +kernel) ?_
      refine callW_machine (by rw [List.all_cons, hp]; rfl) rfl ?_
      rw [back_cons hp]
      refine spliced_cons ((S.E _ _ _ _ _ _ _ X m R h).then fun v h' tk d M' k h8 rv m' => spliced_nil ?_)
      clear h
      obtain ⟨i, rfl, h⟩ := int_inv (Q := fun i => (0 ≤ i ∧ i ≤ 100000) ∧ K (rangeFrom 0 i.toNat) M') h8
      clear h8
      refine rv.int_el fun t => ?_
      refine call_range_1 ?_
      refine wpAny_pyIter_range (IsRange.new _ _ _ _ _ _ _) (small_one (by omega) (by omega) ?_ ?_) ?_
      · have := h.1.1; omega
      · have := h.1.2; omega
      · have e1 : Builtin.Range.rangeSize 0 i 1 = ((i.toNat : Nat) : Int) := by
          rw [rangeSize_one]
          split <;> omega
        rw [e1]
        generalize ho : ({ cls := .type "range", data := .fields #[.int 0 tk, .int i t, .int 1 (tk + 1)] } : Obj) = o
        have kp : Kp c.sp s.heap (h'.push o) := k.trans (.push _ _)
        have e0 := none_of_alive (fun b o e => kp.alive b o e) (get_size (h'.push o))
        exact hQ _ _ _ _ M' h.2 (seq_itnew kp (m'.keep (push_keep _ _)) e0 fun bad' hb => .rng (Heap.get?_push_size _ rfl))
    · exact plain h
  · exact plain h7
end
end Mine
end

section
set_option backward.match.sparseCases false
open PySem PySem.W PySem.Calls PyProof.Rows
set_option Elab.async false
set_option maxRecDepth 100000
namespace Mine

section
variable {g : Gl} {c : Cx} {f : Fm} {A : Around} {s : Shared} {M : Mu} {n : Nat} {r : Ev}

/-- one of the frame's own objects changes: no name knows it -/
theorem St.other {h h' : Heap} {a : Addr} {o : Obj} (X : St g c f h) (own : f.own = []) (ea : h.get? a = some o) (ho : ∀ v, o.data ≠ .cell v) (ba : c.bad a) (na : a ≠ c.env.locals) (a' : ∃ o, h'.get? a = some o) (k : ∀ b o, b ≠ a → h.get? b = some o → h'.get? b = some o) : St g c f h' := by
  have u : Up c.bad c.bad h h' := ⟨fun b o e n => k b o (fun q => n (q ▸ ba)) e, fun _ _ _ q => q⟩
  have nc : ∀ {b : Addr} {u : Option Value}, h.IsCell b u → h'.IsCell b u := fun {b u} ⟨o', e, d⟩ => ⟨o', k _ _ (fun q => by
    rw [q, ea] at e; cases e; exact ho _ d) e, d⟩
  exact {
    w := ⟨fun b o e => k _ _ (fun q => by rw [q, X.w.muHb _ ba] at e; cases e) (X.w.base b o e), fun b q => by
        by_cases z : b = a
        · exact z ▸ a'
        · obtain ⟨o, e⟩ := X.w.al b q
          exact ⟨o, k _ _ z e⟩, X.w.mu, X.w.muHb, X.w.s1, X.w.s2⟩
    kind := X.kind
    glob := X.glob
    blt := X.blt
    ns := let ⟨o, es, ep, e, q⟩ := X.ns; ⟨o, es, ep, k _ _ (Ne.symm na) e, q⟩
    nL := X.nL
    gl := X.gl
    lo := X.lo
    ce := X.ce
    loc := fun y d e => let ⟨v, p, q⟩ := X.loc y d e; ⟨v, p.imp id fun ⟨x, b, e, n, z⟩ => ⟨x, b, e, n, nc z⟩, q.up u⟩
    own := fun y l e => by rw [own] at e; cases e }

/-- the list that a comprehension fills -/
inductive AccAt (g : Gl) (c : Cx) (dd : Addr) (h : Heap) (acc : List D) : Prop
  | mk (vs : List Value) (n : Nat) (e : h.get? dd = some (lstO vs n)) (r : RepAll g c.sp c.bad h vs acc)
structure Dd (c : Cx) (dd : Addr) : Prop where
  bad : c.bad dd
  nm : ¬ c.sp.mu dd
  nL : dd ≠ c.env.locals
  bL : c.bad c.env.locals
  nmL : ¬ c.sp.mu c.env.locals
/-- only the frame's names, its list and the iterators X change -/
noncomputable def Kc (c : Cx) (dd : Addr) (X : Addr → Prop) (h h' : Heap) : Prop := (∀ b o, ¬ c.sp.mu b → b ≠ c.env.locals → b ≠ dd → ¬ X b → h.get? b = some o → h'.get? b = some o) ∧ ∀ b o, ¬ X b → h.get? b = some o → ∃ o', h'.get? b = some o'

inductive CEnd (g : Gl) (c : Cx) (dd : Addr) (X : Addr → Prop) (f : Fm) (s : Shared) (K : List D → Mu → Prop) (s' : Shared) : Prop
  | mk (h' : Heap) (tk : Nat) (acc : List D) (M : Mu) (m : Str → Option Value) (e : s' = { s with heap := h', toks := tk }) (hK : K acc M) (ac : AccAt g c dd h' acc) (mo : MuOk g c.sp c.bad h' M) (k : Kc c dd X s.heap h') (S : St g (c.put m) f h')
@[elab_as_elim] theorem CEnd.el {g : Gl} {c : Cx} {dd : Addr} {X : Addr → Prop} {f : Fm} {s : Shared} {K : List D → Mu → Prop} {P : Shared → Prop} {s' : Shared} (h : CEnd g c dd X f s K s')
    (k : ∀ (h' : Heap) (tk : Nat) (acc : List D) (M : Mu) (m : Str → Option Value), K acc M → AccAt g c dd h' acc → MuOk g c.sp c.bad h' M → Kc c dd X s.heap h' → St g (c.put m) f h' → P { s with heap := h', toks := tk }) : P s' := by
  cases h with
  | mk h' tk acc M m e hK ac mo kc S => subst e; exact k h' tk acc M m hK ac mo kc S
/-- what one turn's last part does is as body says -/
noncomputable def BodyOk (g : Gl) (c : Cx) (A : Around) (dd : Addr) (T : Sem Unit) (body : Fm → CK) : Prop :=
  ∀ (f : Fm) (M : Mu) (acc : List D) (K : List D → Mu → Prop) (m : Str → Option Value) (s : Shared), f.own = [] → St g (c.put m) f s.heap → AccAt g c dd s.heap acc → MuOk g c.sp c.bad s.heap M → body f M acc K →
    wpAny (model pw g.w) A T (fun _ s' => CEnd g c dd (fun a => s.heap.get? a = none) f s K s') (fun _ _ => False) s

theorem tests_ok (S : Snd g n r) {ifs : List Expr} {K : Bool → Mu → Prop} (X : St g c f s.heap) (m : MuOk g c.sp c.bad s.heap M) (R : Room A n) (h : testsP r ifs f M K) :
    Ex g c A s (forIn ifs true fun e r => if r = true then do let ok ← isTrue e c.env (eval e c.env); pure (ForInStep.yield ok) else pure (ForInStep.yield r)) RB K := by
  match ifs, h with
  | [], h => exact wpAny_tests_nil (Ex.done (.refl _) h rfl m)
  | [e], h => exact wpAny_tests_one (S.T _ _ _ _ _ _ _ X m R h)
  | _ :: _ :: _, h => exact h.elim

theorem St.less {f1 : Fm} {h : Heap} (X : St g c f1 h) (own : f.own = []) (sc : f1.sc = f.sc) (e : ∀ x d, f.loc.lookup x = some d → f1.loc.lookup x = some d) : St g c f h where
  w := X.w
  kind := X.kind
  glob := X.glob
  blt := X.blt
  ns := X.ns
  nL := X.nL
  gl := fun x q => X.gl x (by rw [sc]; exact q)
  lo := fun x q => X.lo x (by rw [sc]; exact q)
  ce := fun x q => X.ce x (by rw [sc]; exact q)
  loc := fun y d q => X.loc y d (e y d q)
  own := fun y l q => by rw [own] at q; cases q

theorem last_ok (S : Snd g n r) (R : Room A n) {dd : Addr} (dk : Dd c dd) {elt : Expr} : BodyOk g c A dd (do let _ ← call (.builtin "list.append") [.ref dd, ← eval elt c.env]) (lastB r elt) := by
  intro f M acc K m s own X ac mo h
  unfold lastB at h
  refine wpAny_bind ((S.E elt (c.put m) f A s M _ X mo R h).then fun v h1 tk1 d M1 k1 hd rv m1 => ?_)
  obtain ⟨vs, n0, ea, ra⟩ := ac
  have ea1 := k1.keep _ _ ea dk.nm
  refine wpAny_bind (wpAny_list_append_plain (items := vs.toArray) ⟨n0, ea1⟩ (fun h2 hp hs => wpAny_pure ?_) (by rw [List.size_toArray, ra.length, sizeLine_eq]; omega))
  obtain ⟨n1, e1⟩ := hp
  have e2 : h2.get? dd = some (lstO (vs ++ [v]) n1) := by rw [e1]; simp
  have kk : ∀ b o, b ≠ dd → h1.get? b = some o → h2.get? b = some o := fun b o hb e => (hs.2 b hb).trans e
  have u1 : Up c.bad c.bad s.heap h1 := k1.up X.w.mu
  have u : Up c.bad c.bad h1 h2 := ⟨fun b o e n => kk b o (fun q => n (q ▸ dk.bad)) e, fun _ _ _ q => q⟩
  refine ⟨h2, tk1, acc ++ [d], M1, m, rfl, hd.2, ⟨vs ++ [v], n1, e2, ((ra.up u1).up u).append (.cons (rv.up u) .nil)⟩, m1.up2 (fun b o q e => kk b o (fun z => dk.nm (z ▸ q)) e) u, ⟨fun b o q nl nd _ e => kk b o nd (k1.keep b o e q), fun b o _ e => ?_⟩, ?_⟩
  · obtain ⟨o', e'⟩ := k1.alive b o e
    by_cases z : b = dd
    · exact ⟨_, z ▸ e2⟩
    · exact ⟨o', kk b o' z e'⟩
  · exact (X.next (c := c.put m) k1).other own ea1 (fun v => by simp) dk.bad dk.nL ⟨_, e2⟩ kk
end
end Mine
end

section
set_option backward.match.sparseCases false
open PySem PySem.W PySem.Calls PyProof.Rows
set_option Elab.async false
set_option maxRecDepth 100000
namespace Mine

section
variable {g : Gl} {c : Cx} {f : Fm} {A : Around} {s : Shared} {M : Mu} {n : Nat} {r : Ev}

theorem Itr.noCell {sp : Sp} {bad : Addr → Prop} {h : Heap} {I J : Addr} {b : Bool} {xs : List D} (it : Itr g sp bad h I J b xs) : ∃ o, h.get? I = some o ∧ ∀ v, o.data ≠ .cell v := by
  cases it with
  | lst a _ _ _ => obtain ⟨o, e, _, d⟩ := a; exact ⟨o, e, fun v q => by rw [d] at q; cases q⟩
  | tup a _ _ _ => obtain ⟨o, e, _, d⟩ := a; exact ⟨o, e, fun v q => by rw [d] at q; cases q⟩
  | rng a => exact ⟨_, a, fun v q => by cases q⟩
  | enm _ _ a _ _ _ _ => exact ⟨_, a, fun v q => by cases q⟩
theorem St.unpriv {h h' : Heap} {a : Addr} {o : Obj} (X : St g (c.priv a) f h) (own : f.own = []) (ea : h.get? a = some o) (ho : ∀ v, o.data ≠ .cell v) (na : a ≠ c.env.locals) (nb : ¬ c.bad a) (nh : g.hb.get? a = none) (mub : ∀ a, c.sp.mu a → c.bad a) (k : ∀ b o, b ≠ a → h.get? b = some o → h'.get? b = some o) : St g c f h' := by
  have u : Up (c.priv a).bad c.bad h h' := up_unpriv k
  exact {
    w := ⟨fun b o e => k _ _ (fun q => by rw [q, nh] at e; cases e) (X.w.base b o e), fun b q => by
        obtain ⟨o, e⟩ := X.w.al b (.inl q)
        exact ⟨o, k _ _ (fun z => nb (z ▸ q)) e⟩, mub, fun b q => X.w.muHb b (.inl q), X.w.s1, X.w.s2⟩
    kind := X.kind
    glob := X.glob
    blt := X.blt
    ns := let ⟨o, es, ep, e, q⟩ := X.ns; ⟨o, es, ep, k _ _ (Ne.symm na) e, q⟩
    nL := X.nL
    gl := X.gl
    lo := X.lo
    ce := X.ce
    loc := fun y d e => let ⟨v, p, q⟩ := X.loc y d e; ⟨v, p.imp id fun ⟨x, b, e, n, o', e', z⟩ => ⟨x, b, e, n, o', k _ _ (fun w => by
      rw [w, ea] at e'; cases e'; exact ho _ z) e', z⟩, q.up u⟩
    own := fun y l e => by rw [own] at e; cases e }

/-- the loop's own standing things -/
structure Lk (g : Gl) (c : Cx) (dd I : Addr) : Prop where
  dk : Dd c dd
  nb : ¬ c.bad I
  nh : g.hb.get? I = none
  mub : ∀ a, c.sp.mu a → c.bad a
theorem Lk.nm {dd I : Addr} (k : Lk g c dd I) : ¬ c.sp.mu I := fun q => k.nb (k.mub I q)
theorem Lk.nL {dd I : Addr} (k : Lk g c dd I) : I ≠ c.env.locals := fun q => k.nb (q ▸ k.dk.bL)
theorem Lk.nD {dd I : Addr} (k : Lk g c dd I) : dd ≠ I := fun q => k.nb (q ▸ k.dk.bad)
theorem Lk.dk2 {dd I : Addr} (k : Lk g c dd I) : Dd (c.priv I) dd := ⟨.inl k.dk.bad, k.dk.nm, k.dk.nL, .inl k.dk.bL, k.dk.nmL⟩
theorem Lk.bI {dd I : Addr} : (c.priv I).bad I ∧ Lk g c dd I → (c.priv I).bad I := And.left

theorem fresh_keeps {t : Expr} {f1 : Fm} (hf : freshT t f = true) (hy : ∀ y, y ∉ tnm 8 t → f1.loc.lookup y = f.loc.lookup y) : ∀ x d, f.loc.lookup x = some d → f1.loc.lookup x = some d := fun x d q => by
  rw [hy x fun z => ?_]
  · exact q
  · unfold freshT at hf
    rw [List.all_eq_true] at hf
    have := hf x z
    rw [q] at this; cases this

inductive LInv (g : Gl) (c : Cx) (f : Fm) (s : Shared) (dd I : Addr) (r : Ev) (t : Expr) (ifs : List Expr) (body : Fm → CK) (K : List D → Mu → Prop) (k : Nat) (s' : Shared) : Prop
  | mk (h' : Heap) (tk : Nat) (xs acc : List D) (M : Mu) (m : Str → Option Value) (e : s' = { s with heap := h', toks := tk }) (hk : k = xs.length) (h : compL body r t ifs f xs M acc K) (X : St g ((c.priv I).put m) f h') (ac : AccAt g (c.priv I) dd h' acc) (mo : MuOk g c.sp (c.priv I).bad h' M)
    (it : Itr g c.sp (c.priv I).bad h' I I false xs) (kc : Kc c dd (fun a => a = I) s.heap h')
@[elab_as_elim] theorem LInv.el {dd I : Addr} {t : Expr} {ifs : List Expr} {body : Fm → CK} {K : List D → Mu → Prop} {P : Nat → Shared → Prop} {k : Nat} {s' : Shared} (h : LInv g c f s dd I r t ifs body K k s')
    (e : ∀ (h' : Heap) (tk : Nat) (xs acc : List D) (M : Mu) (m : Str → Option Value), compL body r t ifs f xs M acc K → St g ((c.priv I).put m) f h' → AccAt g (c.priv I) dd h' acc → MuOk g c.sp (c.priv I).bad h' M → Itr g c.sp (c.priv I).bad h' I I false xs → Kc c dd (fun a => a = I) s.heap h' → P xs.length { s with heap := h', toks := tk }) : P k s' := by
  cases h with
  | mk h' tk xs acc M m es ek h X ac mo it kc => subst es ek; exact e h' tk xs acc M m h X ac mo it kc

theorem loop_ok (S : Snd g n r) (R : Room A n) {dd I : Addr} (lk : Lk g c dd I) {elt t iter : Expr} {gens : List Comprehension} {sc : Scope} {pos : Pos} {depth : Nat} {ifs : List Expr} {T : Sem Unit} {body : Fm → CK} (hT : BodyOk g (c.priv I) A dd T body)
    (turn : compTurn (.ListComp elt gens sc pos) depth (.ref I) (.ref dd) c.env = (do
      standAt iter.pos
      match ← pyNext (.ref I) with
      | none => pure (.done .next)
      | some v =>
        letOwnedTupleGo t (.ref I) v
        assign t c.env v
        let ok ← forIn ifs true fun e r => if r = true then do let ok ← isTrue e c.env (eval e c.env); pure (ForInStep.yield ok) else pure (ForInStep.yield r)
        if ok then T
        again (.compLoop (.ListComp elt gens sc pos) depth (.ref I) (.ref dd) c.env)))
    (hf : freshT t f = true) (own : f.own = []) {xs : List D} {acc : List D} {K : List D → Mu → Prop} {m : Str → Option Value} (h : compL body r t ifs f xs M acc K) (X : St g ((c.priv I).put m) f s.heap) (ac : AccAt g (c.priv I) dd s.heap acc)
    (mo : MuOk g c.sp (c.priv I).bad s.heap M) (it : Itr g c.sp (c.priv I).bad s.heap I I false xs) :
    codeAny (model pw g.w) A (.compLoop (.ListComp elt gens sc pos) depth (.ref I) (.ref dd) c.env) (fun r s' => r = .ok .next ∧ CEnd g c dd (fun a => a = I) f s K s') s := by
  have bI : (c.priv I).bad I := .inr rfl
  refine codeAny_loop rfl (LInv g c f s dd I r t ifs body K) (fun k s' hI => ?_) xs.length ⟨s.heap, s.toks, xs, acc, M, m, rfl, rfl, h, X, ac, mo, it, fun _ _ _ _ _ _ e => e, fun _ o _ e => ⟨o, e⟩⟩
  clear h X ac mo it
  refine hI.el fun h0 tk0 xs acc M m h X ac mo it kc => ?_
  clear hI
  show wpAny _ A ((compTurn (.ListComp elt gens sc pos) depth (.ref I) (.ref dd) c.env).onRaise (fun x => do noteFrame x c.env; theTreesLotGoes x)) _ _ _
  refine wpAny_noted ?_
  rw [turn]
  refine wpAny_bind (wpAny_standAt (wpAny_bind ?_))
  obtain ⟨oI, eI, hoI⟩ := it.noCell
  obtain ⟨vs, n0, ea, ra⟩ := ac
  cases xs with
  | nil =>
    refine it.stop (s := { s with heap := h0, toks := tk0 }) R.2.2 fun h1 k1 => wpAny_pure ?_
    have k1 : ∀ b o, b ≠ I → h0.get? b = some o → h1.get? b = some o := fun b o hb e => k1 b o hb hb e
    have u : Up (c.priv I).bad c.bad h0 h1 := up_unpriv k1
    refine ⟨rfl, h1, tk0, acc, M, m, rfl, h, ⟨vs, n0, k1 _ _ lk.nD ea, ra.up u⟩, mo.up2 (fun b o q e => k1 b o (fun z => lk.nm (z ▸ q)) e) u, ⟨fun b o a1 a2 a3 a4 e => k1 b o a4 (kc.1 b o a1 a2 a3 a4 e), fun b o a4 e => ?_⟩, ?_⟩
    · obtain ⟨o', e'⟩ := kc.2 b o a4 e
      exact ⟨o', k1 _ _ a4 e'⟩
    · exact St.unpriv (c := c.put m) X own eI hoI lk.nL lk.nb lk.nh lk.mub k1
  | cons x xs =>
    rw [compL] at h
    simp only [forceF_eq] at h
    refine it.next (s := { s with heap := h0, toks := tk0 }) X.w.al bI bI R.2.2 fun v h1 tk1 rv ito k1 => ?_
    have k1 : ∀ b o, b ≠ I → h0.get? b = some o → h1.get? b = some o := fun b o hb e => k1 b o hb hb e
    refine wpAny_bind (ito.go (s := { s with heap := h1, toks := tk1 }) bI (fun q => by cases q) fun h2 it2 k2 => ?_)
    have k2' : ∀ b o, b ≠ I → h0.get? b = some o → h2.get? b = some o := fun b o hb e => k2 b o hb (k1 b o hb e)
    have X2 : St g ((c.priv I).put m) f h2 := X.other own eI hoI bI lk.nL it2.liveI k2'
    have u2 : Up (c.priv I).bad (c.priv I).bad h0 h2 := ⟨fun b o e n => k2' b o (fun q => n (q ▸ bI)) e, fun _ _ _ q => q⟩
    have rv2 : Rep g c.sp (c.priv I).bad h2 v x := rv.up ⟨fun b o e n => k2 b o (fun q => n (q ▸ bI)) e, fun _ _ _ q => q⟩
    have mo2 : MuOk g c.sp (c.priv I).bad h2 M := mo.up2 (fun b o q e => k2' b o (fun z => lk.nm (z ▸ q)) e) u2
    have bL : (c.priv I).bad c.env.locals := .inl lk.dk.bL
    refine wpAny_bind (wpAny_mono ((bind_ok R.2.2 8).1 t x ((c.priv I).put m) f { s with heap := h2, toks := tk1 } v _ X2 bL rv2 h) (fun _ s' hb => ?_) fun _ _ x => x.elim)
    refine hb.el fun f1 h3 tk3 m3 hK X3 k3 hy ho hsc => ?_
    clear hb
    have k3 : ∀ b o, b ≠ c.env.locals → h2.get? b = some o → h3.get? b = some o := k3
    have X3 : St g ((c.priv I).put m3) f1 h3 := X3
    have u3 : Up (c.priv I).bad (c.priv I).bad h2 h3 := ⟨fun b o e n => k3 b o (fun q => n (q ▸ bL)) e, fun _ _ _ q => q⟩
    have mo3 : MuOk g c.sp (c.priv I).bad h3 M := mo2.up2 (fun b o q e => k3 b o (fun z => lk.dk.nmL (z ▸ q)) e) u3
    refine wpAny_bind ((tests_ok (c := (c.priv I).put m3) (s := { s with heap := h3, toks := tk3 }) S X3 mo3 R hK).then fun ok h4 tk4 b M4 k4 hK4 hb4 mo4 => ?_)
    cases hb4
    have X4 : St g ((c.priv I).put m3) f1 h4 := X3.next k4
    have u4 : Up (c.priv I).bad (c.priv I).bad h3 h4 := k4.up X3.w.mu
    have it4 : Itr g c.sp (c.priv I).bad h4 I I false xs := by
      have h := it2.up u3 (fun o e => k3 I o lk.nL e) (fun o e => k3 I o lk.nL e)
      exact h.up u4 (fun o e => k4.keep I o e lk.nm) (fun o e => k4.keep I o e lk.nm)
    have ac4 : AccAt g (c.priv I) dd h4 acc := ⟨vs, n0, k4.keep _ _ (k3 _ _ lk.dk.nL (k2' _ _ lk.nD ea)) lk.dk.nm, ((ra.up u2).up u3).up u4⟩
    have kc4 : Kc c dd (fun a => a = I) s.heap h4 := ⟨fun b o a1 a2 a3 a4 e => k4.keep b o (k3 b o a2 (k2' b o a4 (kc.1 b o a1 a2 a3 a4 e))) a1, fun b o a4 e => by
      obtain ⟨o1, e1⟩ := kc.2 b o a4 e
      by_cases z : b = c.env.locals
      · obtain ⟨ol, _, _, el, _⟩ := X3.ns
        have el : h3.get? c.env.locals = some ol := el
        exact k4.alive b ol (z ▸ el)
      · exact k4.alive b o1 (k3 b o1 z (k2' b o1 a4 e1))⟩
    have back : ∀ {h5 : Heap} {m5}, St g ((c.priv I).put m5) f1 h5 → St g ((c.priv I).put m5) f h5 := fun X => X.less own hsc (fresh_keeps hf fun y q => (hy y q).2)
    cases ok with
    | false =>
      exact wpAny_bind (wpAny_pure (wpAny_pure ⟨rfl, xs.length, by simp, h4, tk4, xs, acc, M4, m3, rfl, rfl, hK4, back X4, ac4, mo4, it4, kc4⟩))
    | true =>
      refine wpAny_bind (wpAny_mono (hT f1 M4 acc _ m3 { s with heap := h4, toks := tk4 } (ho own) X4 ac4 mo4 hK4) (fun _ s' hb => ?_) fun _ _ x => x.elim)
      refine hb.el fun h5 tk5 acc5 M5 m5 hK5 ac5 mo5 k5 X5 => ?_
      clear hb
      have u5 : Up (c.priv I).bad (c.priv I).bad h4 h5 := ⟨fun b o e n => k5.1 b o (fun q => n (.inl (lk.mub _ q))) (fun q => n (q ▸ bL)) (fun q => n (.inl (q ▸ lk.dk.bad))) (fun q => nomatch e.symm.trans q) e, fun _ _ _ q => q⟩
      have kI : ∀ o, h4.get? I = some o → h5.get? I = some o := fun o e => k5.1 I o lk.nm lk.nL lk.nD.symm (fun q => nomatch e.symm.trans q) e
      refine wpAny_pure ⟨rfl, xs.length, by simp, h5, tk5, xs, acc5, M5, m5, rfl, rfl, hK5, back X5, ac5, mo5, it4.up u5 kI kI, ⟨fun b o a1 a2 a3 a4 e => ?_, fun b o a4 e => ?_⟩⟩
      · have e4 := kc4.1 b o a1 a2 a3 a4 e
        exact k5.1 b o a1 a2 a3 (fun q => nomatch e4.symm.trans q) e4
      · obtain ⟨o4, e4⟩ := kc4.2 b o a4 e
        exact k5.2 b o4 (fun q => nomatch e4.symm.trans q) e4
end
end Mine
end

section
set_option backward.match.sparseCases false
open PySem PySem.W PySem.Calls PyProof.Rows
set_option Elab.async false
set_option maxRecDepth 100000
namespace Mine

theorem lookup_mem {α : Type} : ∀ {l : List (Str × α)} {x : Str} {d : α}, l.lookup x = some d → (x, d) ∈ l
  | [], _, _, h => by simp at h
  | (k, e) :: r, x, d, h => by
    rw [List.lookup_cons] at h
    cases hx : x == k with
    | true =>
      rw [hx] at h
      cases h
      obtain rfl := eq_of_beq hx
      exact List.mem_cons_self
    | false =>
      rw [hx] at h
      exact List.mem_cons_of_mem _ (lookup_mem h)
theorem lookup_of_mem {α : Type} : ∀ {l : List (Str × α)} {x : Str} {d : α}, (x, d) ∈ l → ∃ e, l.lookup x = some e
  | [], _, _, h => by simp at h
  | (k, e) :: r, x, d, h => by
    rw [List.lookup_cons]
    cases hx : x == k with
    | true => exact ⟨_, rfl⟩
    | false =>
      rcases List.mem_cons.mp h with q | q
      · cases q; simp at hx
      · exact lookup_of_mem q
theorem lookup_filter {α : Type} (P : Str → Bool) : ∀ {l : List (Str × α)} {x : Str} {d : α}, (l.filter fun p => P p.1).lookup x = some d → P x = true ∧ l.lookup x = some d
  | [], _, _, h => by simp at h
  | (k, e) :: r, x, d, h => by
    rw [List.filter_cons] at h
    cases hx : x == k with
    | true =>
      obtain rfl := eq_of_beq hx
      cases hp : P x with
      | true => simp only [hp, if_true, List.lookup_cons, hx] at h; exact ⟨rfl, by rw [List.lookup_cons, hx]; exact h⟩
      | false =>
        simp only [hp, Bool.false_eq_true, if_false] at h
        have := (lookup_filter P h).1
        rw [hp] at this; cases this
    | false =>
      cases hp : P k with
      | true =>
        simp only [hp, if_true, List.lookup_cons, hx] at h
        have := lookup_filter P h
        exact ⟨this.1, by rw [List.lookup_cons, hx]; exact this.2⟩
      | false =>
        simp only [hp, Bool.false_eq_true, if_false] at h
        have := lookup_filter P h
        exact ⟨this.1, by rw [List.lookup_cons, hx]; exact this.2⟩
theorem lookup_relabel {env : Env} : ∀ {names : List (Str × NameKind)} {x : Str} {k : NameKind}, names.lookup x = some k →
    (names.map fun (n, k) => if (k == NameKind.free && env.scope.kind == .function && env.kindOf n == some .cell) then (n, NameKind.cell) else (n, k)).lookup x = some k ∨
    (k = .free ∧ (names.map fun (n, k) => if (k == NameKind.free && env.scope.kind == .function && env.kindOf n == some .cell) then (n, NameKind.cell) else (n, k)).lookup x = some .cell)
  | [], _, _, h => by simp at h
  | (n, k) :: r, x, k2, h => by
    have ih := @lookup_relabel env r x k2
    rw [List.map_cons]
    cases hx : x == n with
    | true =>
      simp only [List.lookup_cons, hx] at h
      cases h
      by_cases hc : (k == NameKind.free && env.scope.kind == .function && env.kindOf n == some .cell) = true
      · refine .inr ⟨?_, by simp only [if_pos hc, List.lookup_cons, hx]⟩
        simp only [Bool.and_eq_true, beq_iff_eq] at hc
        exact hc.1.1
      · exact .inl (by simp only [if_neg hc, List.lookup_cons, hx])
    | false =>
      simp only [List.lookup_cons, hx] at h
      by_cases hc : (k == NameKind.free && env.scope.kind == .function && env.kindOf n == some .cell) = true
      · simp only [if_pos hc, List.lookup_cons, hx]; exact ih h
      · simp only [if_neg hc, List.lookup_cons, hx]; exact ih h

theorem closure_ok (env : Env) : ∀ (names : List (Str × NameKind)) (cs : List (Str × Addr)), (∀ p ∈ names, p.2 = .free → ∃ a, env.cells.lookup p.1 = some a) → (∀ q ∈ cs, env.cells.lookup q.1 = some q.2) →
    ∃ cl, (forIn names cs fun (p : Str × NameKind) cs => (match p with | (name, kind) => if kind == .free then do let a ← cellOf env name; pure (ForInStep.yield ((name, a) :: cs)) else pure (ForInStep.yield cs) : Sem (ForInStep (List (Str × Addr))))) = pure cl ∧
      (∀ q ∈ cl, env.cells.lookup q.1 = some q.2) ∧ (∀ p ∈ names, p.2 = .free → ∃ a, (p.1, a) ∈ cl) ∧ ∀ q ∈ cs, q ∈ cl
  | [], cs, _, hc => ⟨cs, rfl, hc, fun p hp => by simp at hp, fun q hq => hq⟩
  | (name, kind) :: r, cs, h, hc => by
    rw [List.forIn_cons]
    cases hk : kind == NameKind.free with
    | false =>
      obtain ⟨cl, e, a, b, d⟩ := closure_ok env r cs (fun p hp => h p (List.mem_cons_of_mem _ hp)) hc
      refine ⟨cl, ?_, a, fun p hp q => ?_, d⟩
      · simp only [hk, Bool.false_eq_true, if_false]
        exact e
      · rcases List.mem_cons.mp hp with z | z
        · subst z
          have q : kind = .free := q
          rw [q] at hk; cases hk
        · exact b p z q
    | true =>
      have q : kind = .free := eq_of_beq hk
      obtain ⟨a, ha⟩ := h (name, kind) List.mem_cons_self q
      have ha : env.cells.lookup name = some a := ha
      obtain ⟨cl, e, b1, b2, d⟩ := closure_ok env r ((name, a) :: cs) (fun p hp => h p (List.mem_cons_of_mem _ hp)) (fun q hq => by
        rcases List.mem_cons.mp hq with z | z
        · subst z; exact ha
        · exact hc q z)
      refine ⟨cl, ?_, b1, fun p hp q => ?_, fun q hq => d q (List.mem_cons_of_mem _ hq)⟩
      · simp only [hk, if_true]
        have : cellOf env name = pure a := by unfold cellOf; rw [ha]
        rw [this]
        exact e
      · rcases List.mem_cons.mp hp with z | z
        · subst z; exact ⟨a, d _ List.mem_cons_self⟩
        · exact b2 p z q
theorem closureFor_ok {scope : Scope} {env : Env} (h : ∀ p ∈ scope.names, p.2 = .free → ∃ a, env.cells.lookup p.1 = some a) : ∃ cl, closureFor scope env = pure cl ∧ ∀ x, scope.names.lookup x = some .free → cl.lookup x = env.cells.lookup x := by
  obtain ⟨cl, e, a, b, _⟩ := closure_ok env scope.names [] h (by simp)
  refine ⟨cl, ?_, fun x hx => ?_⟩
  · unfold closureFor
    first | exact e | (rw [show ∀ (x : Sem (List (Str × Addr))), (x >>= pure) = x from fun x => bind_pure x] at *; exact e)
  · obtain ⟨y, hy⟩ := b _ (lookup_mem hx) rfl
    obtain ⟨z, hz⟩ := lookup_of_mem hy
    rw [hz, a _ (lookup_mem hz)]

theorem Itr.self {g : Gl} {sp : Sp} {bad : Addr → Prop} {I J : Addr} {b : Bool} {xs : List D} {A : Around} {s : Shared} {Q : Value → Shared → Prop} {E : Value → Shared → Prop} (it : Itr g sp bad s.heap I J b xs) (h : Q (.ref I) s) : wpAny (model pw g.w) A (pyIter (.ref I)) Q E s := by
  cases it with
  | lst a _ _ _ => exact wpAny_pyIter_listiter a h
  | tup a _ _ _ => exact wpAny_pyIter_tupleiter a h
  | rng a => exact wpAny_pyIter_rangeiter a h
  | enm _ _ a _ _ _ _ => exact wpAny_pyIter_enum a h
end Mine
end

section
set_option backward.match.sparseCases false
open PySem PySem.W PySem.Calls PyProof.Rows
set_option Elab.async false
set_option maxRecDepth 100000
namespace Mine

theorem compOk_inv {sc : Scope} {f : Fm} (h : compOk sc f = true) : sc.kind = .function ∧ (∀ y ∈ sc.names, y.2 ≠ .cell) ∧ (∀ y ∈ sc.names, y.2 = .local → sc.names.lookup y.1 = some .local) ∧
    ∀ p ∈ sc.names, p.2 = .free → (∃ d, f.loc.lookup p.1 = some d) ∧ (f.sc.names.lookup p.1 = some .cell ∨ f.sc.names.lookup p.1 = some .free) := by
  unfold compOk at h
  rw [Bool.and_eq_true, beq_iff_eq, List.all_eq_true] at h
  obtain ⟨h1, h2⟩ := h
  refine ⟨h1, fun y hy q => ?_, fun y hy q => ?_, fun y hy q => ?_⟩
  · have := h2 y hy
    rw [q] at this; cases this
  · have := h2 y hy
    rw [q] at this
    exact eq_of_beq this
  · have := h2 y hy
    rw [q] at this
    simp only [Bool.and_eq_true] at this
    refine ⟨Option.isSome_iff_exists.mp this.1, ?_⟩
    have z := this.2
    split at z
    · exact .inl ‹_›
    · exact .inr ‹_›
    · cases z

section
variable {g : Gl} {c : Cx} {f : Fm} {A : Around} {s : Shared} {M : Mu} {n : Nat} {r : Ev}

/-- the standing of a comprehension's own frame -/
noncomputable abbrev Cx.comp (c : Cx) (sc : Scope) (cl : List (Str × Addr)) (dd C : Addr) : Cx := { sp := c.sp, bad := fun b => c.bad b ∨ b = dd ∨ b = C, env := compEnvC sc cl C c.env, m := fun _ => none, ow := [] }
/-- what a comprehension leaves -/
inductive CompOut (g : Gl) (c : Cx) (s s' : Shared) (K : List D → Mu → Prop) (dd C : Addr) : Prop
  | mk (h' : Heap) (tk : Nat) (acc : List D) (M : Mu) (m : Str → Option Value) (e : s' = { s with heap := h', toks := tk }) (k : Kp c.sp s.heap h') (hK : K acc M) (rv : Rep g c.sp (c.priv C).bad h' (.ref dd) (.lst acc)) (mo : MuOk g c.sp (c.priv C).bad h' M) (ns : h'.Ns C m)
structure CompEnd (g : Gl) (c : Cx) (s s' : Shared) (K : List D → Mu → Prop) (dd C : Addr) : Prop where
  out : CompOut g c s s' K dd C
  nd : s.heap.get? dd = none
  nC : s.heap.get? C = none
  ne : dd ≠ C

theorem comp_frame (X : St g c f s.heap) {sc : Scope} {cl : List (Str × Addr)} {h3 : Heap} {dd C I : Addr} {m : Str → Option Value} (ok : compOk sc f = true) (hcl : ∀ x, sc.names.lookup x = some .free → cl.lookup x = c.env.cells.lookup x)
    (k : Kp c.sp s.heap h3) (nd : s.heap.get? dd = none) (nC : s.heap.get? C = none) (nI : s.heap.get? I = none) (ld : ∃ o, h3.get? dd = some o) (lI : ∃ o, h3.get? I = some o) (ns : h3.Ns C m) :
    St g (((c.comp sc cl dd C).priv I).put m) (compF sc f) h3 := by
  obtain ⟨o1, _, _, _⟩ := compOk_inv ok
  have fr : ∀ {a : Addr}, s.heap.get? a = none → g.hb.get? a = none := fun {a} e => by
    cases e2 : g.hb.get? a with
    | none => rfl
    | some o => rw [X.w.base _ o e2] at e; cases e
  have u : Up c.bad (((c.comp sc cl dd C).priv I).put m).bad s.heap h3 := ⟨fun b o e n => k.keep b o e fun q => n (X.w.mu b q), fun b o e q => by
    rcases q with (q | q | q) | q
    · exact q
    · rw [q, nd] at e; cases e
    · rw [q, nC] at e; cases e
    · rw [q, nI] at e; cases e⟩
  exact {
    w := ⟨(X.w.next k).base, fun b q => by
        rcases q with (q | q | q) | q
        · exact (X.w.next k).al b q
        · exact q ▸ ld
        · obtain ⟨o, _, _, e, _⟩ := ns; exact ⟨o, q ▸ e⟩
        · exact q ▸ lI, fun b q => .inl (.inl (X.w.mu b q)), fun b q => by
        rcases q with (q | q | q) | q
        · exact X.w.muHb b q
        · exact q ▸ fr nd
        · exact q ▸ fr nC
        · exact q ▸ fr nI, X.w.s1, X.w.s2⟩
    kind := o1
    glob := X.glob
    blt := X.blt
    ns := ns
    nL := fun q => by
      obtain ⟨o, e⟩ := X.w.al _ (X.w.mu _ q)
      have e : s.heap.get? C = some o := e
      rw [nC] at e; cases e
    gl := fun x q => by
      rcases lookup_relabel (env := c.env) q with z | z
      · exact z
      · cases z.1
    lo := fun x q => by
      rcases lookup_relabel (env := c.env) q with z | z
      · exact z
      · cases z.1
    ce := fun x q => by
      rcases q with q | q
      · rcases lookup_relabel (env := c.env) q with z | z
        · exact .inl z
        · cases z.1
      · rcases lookup_relabel (env := c.env) q with z | z
        · exact .inr z
        · exact .inl z.2
    loc := fun x d q => by
      have q : (f.loc.filter fun p => sc.names.lookup p.1 == some .free).lookup x = some d := q
      obtain ⟨q1, q2⟩ := lookup_filter (fun y => sc.names.lookup y == some .free) q
      have q1 : sc.names.lookup x = some .free := eq_of_beq q1
      obtain ⟨v, vi, rv⟩ := X.loc x d q2
      obtain ⟨_, _, _, o4⟩ := compOk_inv ok
      have kd := X.ce x (o4 (x, .free) (lookup_mem q1) rfl).2
      refine ⟨v, .inr ⟨?_, ?_⟩, rv.up u⟩
      · rcases lookup_relabel (env := c.env) q1 with z | z
        · exact .inr z
        · exact .inl z.2
      · rcases vi with ⟨z, _⟩ | ⟨_, a, ea, nm, ca⟩
        · rcases kd with kd | kd <;> (rw [z] at kd; cases kd)
        · exact ⟨a, by show cl.lookup x = _; rw [hcl x q1]; exact ea, nm, let ⟨o, e, d⟩ := ca; ⟨o, k.keep _ _ e nm, d⟩⟩
    own := fun x l q => by cases q }

theorem comp_open (G : GlOk g) (S : Snd g n r) (R : Room A n) (X : St g c f s.heap) (m : MuOk g c.sp c.bad s.heap M) {elt t it : Expr} {ifs : List Expr} {gs : List Comprehension} {sc : Scope} {pos pos2 : Pos} (ok : compOk sc f = true)
    {K1 : List D → Mu → Prop} {K : List D → Mu → Prop} (hi : iterP r it f M K1) {use : Option (Value → Sem Unit)} {Q : Value → Shared → Prop} {E : Value → Shared → Prop}
    (run : ∀ h3 tk3 I dd C m3 xs M1 cl, K1 xs M1 → Lk g (c.comp sc cl dd C) dd I → St g (((c.comp sc cl dd C).priv I).put m3) (compF sc f) h3 → AccAt g ((c.comp sc cl dd C).priv I) dd h3 [] →
      MuOk g c.sp ((c.comp sc cl dd C).priv I).bad h3 M1 → Itr g c.sp ((c.comp sc cl dd C).priv I).bad h3 I I false xs →
      codeAny (model pw g.w) A (.compLoop (.ListComp elt (⟨t, it, ifs, 0⟩ :: gs) sc pos) 0 (.ref I) (.ref dd) (c.comp sc cl dd C).env)
        (fun r s' => r = .ok .next ∧ CEnd g (c.comp sc cl dd C) dd (fun a => a = I) (compF sc f) { s with heap := h3, toks := tk3 } K s') { s with heap := h3, toks := tk3 })
    (hpost : ∀ s' C dd, CompEnd g c s s' K dd C → compPost (model pw g.w) A E use Q (.ref dd) C (.ok .next) s') :
    wpAny (model pw g.w) A (comprehension (.ListComp elt (⟨t, it, ifs, 0⟩ :: gs) sc pos) sc c.env pos2 (newList []) false (eval it c.env) use) Q E s := by
  obtain ⟨o1, o2, o3, o4⟩ := compOk_inv ok
  obtain ⟨cl, hclos, hcl⟩ := closureFor_ok (scope := sc) (env := c.env) fun p hp q => by
    obtain ⟨⟨d, hd⟩, kd⟩ := o4 p hp q
    obtain ⟨v, vi, rv⟩ := X.loc _ _ hd
    have kd := X.ce _ kd
    rcases vi with ⟨z, _⟩ | ⟨_, a, ea, _⟩
    · rcases kd with kd | kd <;> (rw [z] at kd; cases kd)
    · exact ⟨a, ea⟩
  have plit := (iterP_ok (E := E) G S X m R hi (Q := fun _ _ => True) (fun _ _ _ _ _ _ _ => trivial)).2
  refine wpAny_comprehension_free (g := ⟨t, it, ifs, 0⟩) rfl (pl_folded plit c.env) hclos o1 o3 (iterP_ok G S X m R hi fun h1 tk1 I xs M1 hK itn => ?_).1
  have fz : ∀ {h : Heap}, (∀ b o, s.heap.get? b = some o → ∃ o', h.get? b = some o') → s.heap.get? h.objs.size = none := fun {h} k => none_of_alive k (get_size h)
  refine wpAny_newObj_type (wpAny_newFunctionEnv o2 (by intro y hy; simp at hy) (fun h3 ns3 sb3 => ?_) o1)
  dsimp only at ns3 sb3 ⊢
  obtain ⟨h2, hH2⟩ : ∃ h2, h2 = h1.push { cls := .type "list", dict := none, data := .seq ([] : List Value).toArray } := ⟨_, rfl⟩
  obtain ⟨dd, hdd⟩ : ∃ dd, dd = h1.objs.size := ⟨_, rfl⟩
  obtain ⟨C, hC⟩ : ∃ C, C = h2.objs.size := ⟨_, rfl⟩
  rw [← hH2, ← hC] at ns3 sb3 ⊢
  rw [← hdd]
  have ed2 : h2.get? dd = some (lstO [] 0) := by rw [hH2, hdd]; exact Heap.get?_push_size _ rfl
  have k12 : ∀ b o, h1.get? b = some o → h2.get? b = some o := fun b o e => by rw [hH2]; exact push_keep _ _ _ _ e
  have nC2 : h2.get? C = none := by rw [hC, get_size]
  have k23 : ∀ b o, h2.get? b = some o → h3.get? b = some o := fun b o e => by
    have nb : b ≠ C := fun q => by rw [q, nC2] at e; cases e
    exact sb3.extBut b o nb (push_keep _ _ _ _ e)
  have k13 : ∀ b o, h1.get? b = some o → h3.get? b = some o := fun b o e => k23 b o (k12 b o e)
  have kp : Kp c.sp s.heap h3 := itn.kp.trans (.of_keep k13)
  have nd : s.heap.get? dd = none := by rw [hdd]; exact fz itn.kp.alive
  have nd1 : h1.get? dd = none := by rw [hdd, get_size]
  have nC : s.heap.get? C = none := none_of_alive (fun b o e => let ⟨o', e'⟩ := itn.kp.alive b o e; ⟨o', k12 _ _ e'⟩) nC2
  have neDC : dd ≠ C := fun q => by rw [q, nC2] at ed2; cases ed2
  obtain ⟨oI, eI⟩ := itn.lI
  have neID : I ≠ dd := fun q => by rw [q, nd1] at eI; cases eI
  have neIC : I ≠ C := fun q => by have := k12 _ _ eI; rw [q, nC2] at this; cases this
  have X3 := comp_frame (I := I) X ok hcl kp nd nC itn.nI ⟨_, k23 _ _ ed2⟩ ⟨oI, k13 _ _ eI⟩ ns3
  have bn : ∀ a, s.heap.get? a = none → ¬ c.bad a := fun a e q => by
    obtain ⟨o, e'⟩ := X.w.al a q
    rw [e] at e'; cases e'
  have hb : ∀ a o, a ≠ I → h1.get? a = some o → ((c.comp sc cl dd C).priv I).bad a → c.bad a := fun a o ne e q => by
    rcases q with (q | q | q) | q
    · exact q
    · rw [q, nd1] at e; cases e
    · have := k12 _ _ e; rw [q, nC2] at this; cases this
    · exact (ne q).elim
  have lk : Lk g (c.comp sc cl dd C) dd I := ⟨⟨.inr (.inl rfl), fun q => bn _ nd (X.w.mu _ q), neDC, .inr (.inr rfl), fun q => bn _ nC (X.w.mu _ q)⟩, fun q => by
      rcases q with q | q | q
      · exact bn _ itn.nI q
      · exact neID q
      · exact neIC q, (by
      cases e2 : g.hb.get? I with
      | none => rfl
      | some o => have := X.w.base _ o e2; rw [itn.nI] at this; cases this), fun a q => .inl (X.w.mu a q)⟩
  have it1 := itn.it ((c.comp sc cl dd C).priv I).bad fun a o ne _ e q => hb a o ne e q
  have it3 : Itr g c.sp ((c.comp sc cl dd C).priv I).bad h3 I I false xs := it1.up ⟨fun b o e _ => k13 b o e, fun _ _ _ q => q⟩ (fun o e => k13 _ _ e) (fun o e => k13 _ _ e)
  have mo3 : MuOk g c.sp ((c.comp sc cl dd C).priv I).bad h3 M1 := (itn.mu ((c.comp sc cl dd C).priv I).bad fun a o ne _ e q => hb a o ne e q).keep k13
  have loop := run h3 (tk1 + 0) I dd C _ xs M1 cl hK lk X3 ⟨[], 0, k23 _ _ ed2, .nil⟩ mo3 it3
  have fin : codeAny (model pw g.w) A (.compLoop (.ListComp elt (⟨t, it, ifs, 0⟩ :: gs) sc pos) 0 (.ref I) (.ref dd) (c.comp sc cl dd C).env) (compPost (model pw g.w) A E use Q (.ref dd) C) { s with heap := h3, toks := tk1 + 0 } := by
    refine codeAny_mono loop fun r s' hr => ?_
    obtain ⟨rfl, h4, tk4, acc, M4, m4, rfl, hK4, ⟨vs, n0, ed4, ra⟩, mo4, kc, X4⟩ := hr
    refine hpost _ C dd ⟨⟨h4, tk4, acc, M4, m4, rfl, ?_, hK4, ?_, ?_, X4.ns⟩, nd, nC, neDC⟩
    · exact ⟨fun b o e nb => kc.1 b o nb (fun q => by have q : b = C := q; rw [q, nC] at e; cases e) (fun q => by rw [q, nd] at e; cases e) (fun q => by have q : b = I := q; rw [q, itn.nI] at e; cases e) (kp.keep b o e nb), fun b o e =>
        let ⟨o', e'⟩ := kp.alive b o e; kc.2 b o' (fun q => by have q : b = I := q; rw [q, itn.nI] at e; cases e) e'⟩
    · have u : Up (c.comp sc cl dd C).bad (c.priv C).bad h4 h4 := ⟨fun _ _ e _ => e, fun _ _ _ q => q.elim .inl fun z => .inr (.inr z)⟩
      exact .lst ed4 (fun q => q.elim (bn _ nd) neDC) (ra.up u)
    · exact mo4.up (fun _ _ e => e) ⟨fun _ _ e _ => e, fun _ _ _ q => q.elim .inl fun z => .inr (.inr z)⟩
  exact codeAny_compStart_list fin (it3.self fin)
end
end Mine
end

section
set_option backward.match.sparseCases false
open PySem PySem.W PySem.Calls PyProof.Rows
set_option Elab.async false
set_option maxRecDepth 100000
namespace Mine

theorem turn_one (elt target iter : Expr) (ifs : List Expr) (scope : Scope) (pos : Pos) (I acc : Value) (env : Env) :
    compTurn (.ListComp elt [⟨target, iter, ifs, 0⟩] scope pos) 0 I acc env = (do
      standAt iter.pos
      match ← pyNext I with
      | none => pure (.done .next)
      | some v =>
        letOwnedTupleGo target I v
        assign target env v
        let ok ← forIn ifs true fun e r => if r = true then do let ok ← isTrue e env (eval e env); pure (ForInStep.yield ok) else pure (ForInStep.yield r)
        if ok then (do let _ ← call (.builtin "list.append") [acc, ← eval elt env])
        again (.compLoop (.ListComp elt [⟨target, iter, ifs, 0⟩] scope pos) 0 I acc env)) := by rfl
theorem turn_last (elt target iter t0 i0 : Expr) (scope : Scope) (pos : Pos) (I acc : Value) (env : Env) :
    compTurn (.ListComp elt [⟨t0, i0, [], 0⟩, ⟨target, iter, [], 0⟩] scope pos) 1 I acc env = (do
      standAt iter.pos
      match ← pyNext I with
      | none => pure (.done .next)
      | some v =>
        letOwnedTupleGo target I v
        assign target env v
        let ok ← forIn [] true fun e r => if r = true then do let ok ← isTrue e env (eval e env); pure (ForInStep.yield ok) else pure (ForInStep.yield r)
        if ok then (do let _ ← call (.builtin "list.append") [acc, ← eval elt env])
        again (.compLoop (.ListComp elt [⟨t0, i0, [], 0⟩, ⟨target, iter, [], 0⟩] scope pos) 1 I acc env)) := by rfl
noncomputable def innerT (elt t0 i0 t iter : Expr) (scope : Scope) (pos : Pos) (acc : Value) (env : Env) : Sem Unit := do
  let x ← eval iter env
  standAt iter.pos
  let x ← foldedSetIterable iter env x
  let it ← holding [x] (pyIter x)
  let _ ← runOwn (.compStart (.ListComp elt [⟨t0, i0, [], 0⟩, ⟨t, iter, [], 0⟩] scope pos) 1 it acc env) env
theorem turn_outer (elt target iter t0 i0 : Expr) (scope : Scope) (pos : Pos) (I acc : Value) (env : Env) :
    compTurn (.ListComp elt [⟨t0, i0, [], 0⟩, ⟨target, iter, [], 0⟩] scope pos) 0 I acc env = (do
      standAt i0.pos
      match ← pyNext I with
      | none => pure (.done .next)
      | some v =>
        letOwnedTupleGo t0 I v
        assign t0 env v
        let ok ← forIn [] true fun e r => if r = true then do let ok ← isTrue e env (eval e env); pure (ForInStep.yield ok) else pure (ForInStep.yield r)
        if ok then innerT elt t0 i0 target iter scope pos acc env
        again (.compLoop (.ListComp elt [⟨t0, i0, [], 0⟩, ⟨target, iter, [], 0⟩] scope pos) 0 I acc env)) := by
  first
    | rfl
    | (unfold compTurn innerT
       simp
       rfl)

section
variable {g : Gl} {c : Cx} {f : Fm} {A : Around} {s : Shared} {M : Mu} {n : Nat} {r : Ev}

theorem compStart_one {e : Expr} {elt t0 i0 t iter : Expr} {scope : Scope} {pos : Pos} {it acc : Value} {env : Env} {R : Result → Shared → Prop} (he : e = .ListComp elt [⟨t0, i0, [], 0⟩, ⟨t, iter, [], 0⟩] scope pos)
    (h0 : codeAny (model pw g.w) A (.compLoop e 1 it acc env) R s)
    (h : wpAny (model pw g.w) A (pyIter it) (fun it' s' => codeAny (model pw g.w) A (.compLoop e 1 it' acc env) R s') (notedBy (model pw g.w) A env fun x s' => R (.error x) s') s) :
    codeAny (model pw g.w) A (.compStart e 1 it acc env) R s := by
  subst he
  refine codeAny_of_tree ?_
  show wpAny _ _ ((compStart (.ListComp elt [⟨t0, i0, [], 0⟩, ⟨t, iter, [], 0⟩] scope pos) 1 it acc env).onRaise (fun x => do noteFrame x env; standAt theWindowsPlace)) _ _ s
  refine wpAny_notedAt ?_
  unfold compStart
  show wpAny _ _ (ask >>= _) _ _ s
  refine wpAny_bind (wpAny_askSetting (wpAny_ite ?_))
  split
  · first
      | exact wpAny_bind (wpAny_pure (wpAny_pure (And.intro rfl h0)))
      | exact wpAny_pure (And.intro rfl h0)
  · first
      | exact wpAny_bind (wpAny_rule (wpAny_bind (wpAny_standAt (wpAny_bind (wpAny_mono h (fun it' s' h' => wpAny_pure (And.intro rfl h')) fun _ _ x => x)))))
      | (refine wpAny_bind (wpAny_rule ?_); show wpAny _ _ (standAt iter.pos >>= _) _ _ s; exact wpAny_bind (wpAny_standAt (wpAny_bind (wpAny_mono h (fun it' s' h' => wpAny_pure (And.intro rfl h')) fun _ _ x => x))))

theorem St.priv2 {h h' : Heap} {a : Addr} {o : Obj} (X : St g c f h) (ha : h.get? a = none) (e : h'.get? a = some o) (k : Kp c.sp h h') : St g (c.priv a) f h' := by
  have u : Up c.bad (c.priv a).bad h h' := ⟨fun b o e n => k.keep b o e fun q => n (X.w.mu b q), fun b o e q => q.elim id fun z => by rw [z, ha] at e; cases e⟩
  have Y := X.next k
  exact {
    w := ⟨Y.w.base, fun b q => q.elim (Y.w.al b) fun z => ⟨o, z ▸ e⟩, fun b q => .inl (X.w.mu b q), fun b q => q.elim (X.w.muHb b) fun z => (by
      subst z
      cases e2 : g.hb.get? b with
      | none => rfl
      | some o => rw [X.w.base b o e2] at ha; cases ha), X.w.s1, X.w.s2⟩
    kind := X.kind
    glob := X.glob
    blt := X.blt
    ns := Y.ns
    nL := X.nL
    gl := X.gl
    lo := X.lo
    ce := X.ce
    loc := fun y d e => let ⟨v, p, q⟩ := X.loc y d e; ⟨v, p.next k, q.up u⟩
    own := fun y l e => let ⟨b, vs, n, p, q, r, s, t, u', z⟩ := X.own y l e; ⟨b, vs, n, p.next k, q, k.keep _ _ r t, .inl s, t, u', z.up u⟩ }

inductive InnQ (g : Gl) (c : Cx) (s : Shared) (K : List D → Mu → Prop) (it : Value) (s2 : Shared) : Prop
  | mk (h1 : Heap) (tk1 : Nat) (I : Addr) (xs : List D) (M1 : Mu) (e1 : it = .ref I) (e2 : s2 = { s with heap := h1, toks := tk1 }) (hK : K xs M1) (itn : ItNew g c s.heap h1 I I false xs M1)
@[elab_as_elim] theorem InnQ.el {K : List D → Mu → Prop} {P : Value → Shared → Prop} {it : Value} {s2 : Shared} (h : InnQ g c s K it s2) (k : ∀ (h1 : Heap) (tk1 : Nat) (I : Addr) (xs : List D) (M1 : Mu), K xs M1 → ItNew g c s.heap h1 I I false xs M1 → P (.ref I) { s with heap := h1, toks := tk1 }) : P it s2 := by
  cases h with
  | mk h1 tk1 I xs M1 e1 e2 hK itn => subst e1 e2; exact k h1 tk1 I xs M1 hK itn
theorem inner_ok (G : GlOk g) (S : Snd g n r) (R : Room A n) {dd : Addr} (dk : Dd c dd) {elt t0 i0 t iter : Expr} {sc : Scope} {pos : Pos} :
    BodyOk g c A dd (innerT elt t0 i0 t iter sc pos (.ref dd) c.env) (fun f1 M1 acc K1 => iterP r iter f1 M1 fun ys M2 => compG (lastB r elt) r t [] f1 ys M2 acc K1) := by
  intro f M acc K m s own X ac mo h
  have plit := (iterP_ok (E := fun _ _ => False) G S X mo R h (Q := fun _ _ => True) (fun _ _ _ _ _ _ _ => trivial)).2
  unfold innerT
  refine wpAny_bind (wpAny_mono (iterP_ok (E := fun _ _ => False) G S X mo R h (Q := InnQ g (c.put m) s fun xs M1 => compG (lastB r elt) r t [] f xs M1 acc K) (fun h1 tk1 I xs M1 hK itn => ⟨h1, tk1, I, xs, M1, rfl, rfl, hK, itn⟩)).1 (fun x s1 h1 => ?_) fun _ _ x => x)
  refine wpAny_bind (wpAny_standAt ?_)
  refine wpAny_bind (wpAny_of_eq (pl_folded plit c.env x) ?_)
  refine wpAny_bind (wpAny_holding (wpAny_mono h1 (fun it s2 h2 => ?_) fun _ _ x => x))
  refine h2.el fun h1 tk1 I xs M1 hK itn => ?_
  clear h2
  obtain ⟨hf, hK⟩ := tr_inv (b := freshT t f) hK
  obtain ⟨oI, eI⟩ := itn.lI
  have nbI : ¬ c.bad I := fun q => by
    obtain ⟨o, e⟩ := X.w.al I q
    rw [itn.nI] at e; cases e
  have lk : Lk g c dd I := ⟨dk, nbI, (by
    cases e2 : g.hb.get? I with
    | none => rfl
    | some o =>
      have := X.w.base _ o e2
      rw [itn.nI] at this; cases this), X.w.mu⟩
  have hb : ∀ a o, a ≠ I → a ≠ I → h1.get? a = some o → (c.priv I).bad a → c.bad a := fun a o ne _ _ q => q.elim id fun z => (ne z).elim
  have X2 : St g ((c.priv I).put m) f h1 := X.priv2 (c := c.put m) itn.nI eI itn.kp
  obtain ⟨vs, n0, ea, ra⟩ := ac
  have u : Up c.bad (c.priv I).bad s.heap h1 := ⟨fun b o e n => itn.kp.keep b o e fun q => n (X.w.mu b q), fun b o e q => q.elim id fun z => by rw [z, itn.nI] at e; cases e⟩
  have ac2 : AccAt g (c.priv I) dd h1 acc := ⟨vs, n0, itn.kp.keep _ _ ea dk.nm, ra.up u⟩
  have loop := loop_ok (s := { s with heap := h1, toks := tk1 }) S R lk (last_ok (c := c.priv I) S R lk.dk2) (turn_last elt t iter t0 i0 sc pos (.ref I) (.ref dd) c.env) hf own hK X2 ac2 (itn.mu _ hb) (itn.it _ hb)
  refine wpAny_bind (wpAny_mono (Q := fun _ s' => CEnd g c dd (fun a => s.heap.get? a = none) f s K s') (E := fun _ _ => False) (wpAny_runOwn ?_) (fun _ s' h => wpAny_pure h) fun _ _ x => x)
  have fin : codeAny (model pw g.w) A (.compLoop (.ListComp elt [⟨t0, i0, [], 0⟩, ⟨t, iter, [], 0⟩] sc pos) 1 (.ref I) (.ref dd) c.env)
      (fun r s' => match r with | .ok _ => CEnd g c dd (fun a => s.heap.get? a = none) f s K s' | .error e => cameBackBy (model pw g.w) A c.env (fun _ _ => False) e s') { s with heap := h1, toks := tk1 } := by
    refine codeAny_mono loop fun r s' hr => ?_
    obtain ⟨rfl, h4, tk4, acc4, M4, m4, rfl, hK4, ac4, mo4, kc, X4⟩ := hr
    refine ⟨h4, tk4, acc4, M4, m4, rfl, hK4, ac4, mo4, ⟨fun b o a1 a2 a3 a4 e => ?_, fun b o a4 e => ?_⟩, X4⟩
    · exact kc.1 b o a1 a2 a3 (fun q => by have q : b = I := q; rw [q, itn.nI] at e; cases e) (itn.kp.keep b o e a1)
    · obtain ⟨o', e'⟩ := itn.kp.alive b o e
      exact kc.2 b o' (fun q => by have q : b = I := q; rw [q, itn.nI] at e; cases e) e'
  exact compStart_one rfl fin ((itn.it (fun _ => False) (fun _ _ _ _ _ q => q.elim)).self fin)

theorem comp_ok (G : GlOk g) (S : Snd g n r) (R : Room A n) (X : St g c f s.heap) (m : MuOk g c.sp c.bad s.heap M) {elt : Expr} {gens : List Comprehension} {sc : Scope} {pos pos2 : Pos} {K : KE} (h : compE r elt gens sc f M K) :
    ∃ t it ifs gs, gens = ⟨t, it, ifs, 0⟩ :: gs ∧ ∀ {use : Option (Value → Sem Unit)} {Q : Value → Shared → Prop} {E : Value → Shared → Prop}, (∀ s' C dd, CompEnd g c s s' (fun acc M => K (.lst acc) M) dd C → compPost (model pw g.w) A E use Q (.ref dd) C (.ok .next) s') →
      wpAny (model pw g.w) A (comprehension (.ListComp elt gens sc pos) sc c.env pos2 (newList []) false (eval it c.env) use) Q E s := by
  obtain ⟨ok, h⟩ := rt_inv (b := compOk sc f) h
  cases gens with
  | nil => exact False.elim h
  | cons g1 gs =>
    cases gs with
    | nil =>
      obtain ⟨t, it, ifs, k⟩ := g1
      obtain ⟨e, h7⟩ := tr_inv (b := k == 0) h
      clear h
      obtain rfl := eq_of_beq e
      refine ⟨t, it, ifs, [], rfl, fun hpost => comp_open G S R X m ok h7 (fun h3 tk3 I dd C m3 xs M1 cl hK lk X3 ac3 mo3 it3 => ?_) hpost⟩
      obtain ⟨hf, hK⟩ := tr_inv (b := freshT t (compF sc f)) hK
      exact loop_ok (s := { s with heap := h3, toks := tk3 }) S R lk (last_ok (c := (c.comp sc cl dd C).priv I) S R lk.dk2) (turn_one elt t it ifs sc pos (.ref I) (.ref dd) (c.comp sc cl dd C).env) hf rfl hK X3 ac3 mo3 it3
    | cons g2 gs =>
      cases gs with
      | cons _ _ => exact False.elim h
      | nil =>
        obtain ⟨t, it, ifs, k⟩ := g1
        cases ifs with
        | cons _ _ => exact False.elim h
        | nil =>
          obtain ⟨e, h6⟩ := rt_inv (b := k == 0) h
          clear h
          obtain rfl := eq_of_beq e
          obtain ⟨t2, it2, ifs2, k2⟩ := g2
          cases ifs2 with
          | cons _ _ => exact False.elim h6
          | nil =>
            obtain ⟨e, h7⟩ := rt_inv (b := k2 == 0) h6
            clear h6
            obtain rfl := eq_of_beq e
            refine ⟨t, it, [], _, rfl, fun hpost => comp_open G S R X m ok h7 (fun h3 tk3 I dd C m3 xs M1 cl hK lk X3 ac3 mo3 it3 => ?_) hpost⟩
            obtain ⟨hf, hK⟩ := tr_inv (b := freshT t (compF sc f)) hK
            exact loop_ok (s := { s with heap := h3, toks := tk3 }) S R lk (inner_ok (c := (c.comp sc cl dd C).priv I) G S R lk.dk2) (turn_outer elt t2 it2 t it sc pos (.ref I) (.ref dd) (c.comp sc cl dd C).env) hf rfl hK X3 ac3 mo3 it3

theorem listcomp_ok (G : GlOk g) (S : Snd g n r) (R : Room A n) (X : St g c f s.heap) (m : MuOk g c.sp c.bad s.heap M) {elt : Expr} {gens : List Comprehension} {sc : Scope} {pos : Pos} {K : KE} (h : compE r elt gens sc f M K) :
    Ex g c A s (eval (.ListComp elt gens sc pos) c.env) (RV g c) K := by
  obtain ⟨t, it, ifs, gs, rfl, run⟩ := comp_ok (pos := pos) (pos2 := firstIterPos gens pos) G S R X m h
  rw [eval_ListComp]
  refine run fun s' C dd ce => ?_
  obtain ⟨⟨h', tk, acc, M', m', rfl, kp, hK, rv, mo, ns⟩, nd, nC, ne⟩ := ce
  refine ⟨m', ns, fun h'' sb => ?_⟩
  have kk : ∀ b o, b ≠ C → h'.get? b = some o → h''.get? b = some o := fun b o hb e => sb.extBut b o hb e
  have u : Up (c.priv C).bad c.bad h' h'' := up_unpriv kk
  have nC' : ∀ b o, s.heap.get? b = some o → b ≠ C := fun b o e q => by rw [q, nC] at e; cases e
  exact Ex.done ⟨fun b o e n => kk b o (nC' b o e) (kp.keep b o e n), fun b o e => let ⟨o', e'⟩ := kp.alive b o e; ⟨o', kk b o' (nC' b o e) e'⟩⟩ hK (rv.up u) (mo.up2 (fun b o q e => kk b o (fun z => by
    obtain ⟨o', e'⟩ := X.w.al b (X.w.mu b q)
    exact nC' b o' e' z) e) u)
end
end Mine
end

section
set_option backward.match.sparseCases false
open PySem PySem.W PySem.Calls PyProof.Rows
set_option Elab.async false
set_option maxRecDepth 100000
namespace Mine
section
variable {g : Gl} {c : Cx} {f : Fm} {A : Around} {s : Shared} {M : Mu} {n : Nat} {r : Ev} {Φ : Phi}

theorem andT_ok (S : Snd g n r) (R : Room A n) {pos : Pos} {whole : Sem Value} {K : Bool → Mu → Prop} (es : List Expr) : ∀ {s : Shared} {M : Mu}, St g c f s.heap → MuOk g c.sp c.bad s.heap M → andT r es f M K →
    Ex g c A s (isTrue (.BoolOp .And es pos) c.env whole) RB K := by
  induction es with
  | nil => exact fun X m h => isTrue_and_nil (Ex.done (.refl _) h rfl m)
  | cons e es ih =>
    refine fun X m h => isTrue_and ((S.T _ _ _ _ _ _ _ X m R h).then fun v h' tk d M' k h2 e m' => ?_)
    cases e
    cases v with
    | true => exact (ih (X.next k) m' h2).glue k
    | false => exact Ex.done k h2 rfl m'
theorem orT_ok (S : Snd g n r) (R : Room A n) {pos : Pos} {whole : Sem Value} {K : Bool → Mu → Prop} (es : List Expr) : ∀ {s : Shared} {M : Mu}, St g c f s.heap → MuOk g c.sp c.bad s.heap M → orT r es f M K →
    Ex g c A s (isTrue (.BoolOp .Or es pos) c.env whole) RB K := by
  induction es with
  | nil => exact fun X m h => isTrue_or_nil (Ex.done (.refl _) h rfl m)
  | cons e es ih =>
    refine fun X m h => isTrue_or ((S.T _ _ _ _ _ _ _ X m R h).then fun v h' tk d M' k h2 e m' => ?_)
    cases e
    cases v with
    | false => exact (ih (X.next k) m' h2).glue k
    | true => exact Ex.done k h2 rfl m'
theorem plainT_ok (S : Snd g n r) (R : Room A n) {e : Expr} {K : Bool → Mu → Prop} (X : St g c f s.heap) (m : MuOk g c.sp c.bad s.heap M) (h : r.E e f M fun d M1 => match d with | .bool c => K c M1 | _ => False)
    (he : isTrue e c.env (eval e c.env) = (do let v ← eval e c.env; standAt e.pos; holding [v] (truthy v))) : Ex g c A s (isTrue e c.env (eval e c.env)) RB K := by
  refine isTrue_plain ((S.E _ _ _ _ _ _ _ X m R h).then fun v h' tk d M' k h2 rv m' => ?_) he
  obtain ⟨b, rfl, h2⟩ := bool_inv h2
  refine rv.bool_el ?_
  exact truthy_b (Ex.done k h2 rfl m')
theorem stepE_ok (G : GlOk g) (P : PhiOk g n Φ) (h1n : 1 ≤ n) (S : Snd g n r) {e : Expr} {K : KE} (X : St g c f s.heap) (m : MuOk g c.sp c.bad s.heap M) (R : Room A n) (h : stepE Φ r e f M K) : Ex g c A s (eval e c.env) (RV g c) K := by
  cases e with
  | Constant => exact const_ok m h
  | Name => exact name_ok G X m h
  | BoolOp op es pos =>
    cases op with
    | Or => exact False.elim h
    | And =>
      cases es with
      | nil => exact False.elim h
      | cons a es =>
        cases es with
        | nil => exact False.elim h
        | cons b es =>
          cases es with
          | nil => exact and_ok S X m R h
          | cons _ _ => exact False.elim h
  | BinOp => exact binop_ok S X m R h
  | UnaryOp op x pos =>
    cases op with
    | USub => exact usub_ok S X m R h
    | _ => exact False.elim h
  | IfExp => exact ifexp_ok S X m R h
  | Dict => exact dict_ok S X m R h
  | List es _ => exact list_ok S X m R (tr_inv (b := plAll es) h).1 (tr_inv (b := plAll es) h).2
  | Tuple es _ => exact tuple_ok S X m R (tr_inv (b := plAll es) h).1 (tr_inv (b := plAll es) h).2
  | ListComp => exact listcomp_ok G S R X m h
  | Compare l ops rs _ =>
    cases ops with
    | nil => exact False.elim h
    | cons op ops =>
      cases ops with
      | cons _ _ => exact False.elim h
      | nil =>
        cases rs with
        | nil => exact False.elim h
        | cons e rs =>
          cases rs with
          | cons _ _ => exact False.elim h
          | nil => exact compare_ok G S X m R h
  | Call fn as ks _ =>
    cases ks with
    | cons _ _ => exact False.elim h
    | nil => exact call_ok G P S h1n X m R h
  | Attribute v => exact attribute_ok G S X m R (tr_inv (b := isName v) h).1 (tr_inv (b := isName v) h).2
  | Subscript => exact subscript_ok S X m R h
  | _ => exact False.elim h
theorem stepT_ok (G : GlOk g) (S : Snd g n r) {e : Expr} {K : Bool → Mu → Prop} (X : St g c f s.heap) (m : MuOk g c.sp c.bad s.heap M) (R : Room A n) (h : stepT r e f M K) : Ex g c A s (isTrue e c.env (eval e c.env)) RB K := by
  cases e with
  | UnaryOp op x =>
    cases op with
    | Not => exact isTrue_not ((S.T _ _ _ _ _ _ _ X m R h).then fun v h' tk d M' k h2 e m' => by cases e; exact Ex.done k h2 rfl m')
    | _ => exact False.elim h
  | BoolOp op =>
    cases op with
    | And => exact andT_ok S R _ X m h
    | Or => exact orT_ok S R _ X m h
  | Compare l ops rs _ =>
    cases ops with
    | nil => exact False.elim h
    | cons op ops =>
      cases ops with
      | cons _ _ => exact False.elim h
      | nil =>
        cases rs with
        | nil => exact False.elim h
        | cons e rs =>
          cases rs with
          | cons _ _ => exact False.elim h
          | nil => exact test_ok G S X m R h
  | Call => exact plainT_ok S R X m h rfl
  | Subscript => exact plainT_ok S R X m h rfl
  | _ => exact False.elim h
theorem ev_ok (G : GlOk g) (P : PhiOk g n Φ) (h1n : 1 ≤ n) (k : Nat) : Snd g n (ev Φ k) := by
  induction k with
  | zero => exact ⟨fun _ _ _ _ _ _ _ _ _ _ h => h.elim, fun _ _ _ _ _ _ _ _ _ _ h => h.elim⟩
  | succ k S => exact ⟨fun _ _ _ _ _ _ _ X m R h => stepE_ok G P h1n S X m R h, fun _ _ _ _ _ _ _ X m R h => stepT_ok G S X m R h⟩
end
end Mine
end

section
set_option backward.match.sparseCases false
open PySem PySem.W PySem.Calls PyProof.Rows
set_option Elab.async false
set_option maxRecDepth 100000
namespace Mine

noncomputable def Own (c : Cx) (a : Addr) : Prop := ∃ x, c.ow.lookup x = some a
/-- a statement's standing: b0 is what is bad to it and its callers; its own lists are bad besides -/
structure Sf (g : Gl) (b0 : Addr → Prop) (c : Cx) (f : Fm) (h : Heap) : Prop where
  st : St g c f h
  hb : ∀ a, c.bad a ↔ b0 a ∨ Own c a
  nb : ∀ a, Own c a → ¬ b0 a
  inj : ∀ x y a, c.ow.lookup x = some a → c.ow.lookup y = some a → x = y
  bL : b0 c.env.locals
  mb : ∀ a, c.sp.mu a → b0 a
structure Nx (b0 : Addr → Prop) (c : Cx) (h : Heap) (c' : Cx) (h' : Heap) : Prop where
  sp : c'.sp = c.sp
  env : c'.env = c.env
  keep : ∀ a o, h.get? a = some o → ¬ c.sp.mu a → a ≠ c.env.locals → ¬ Own c a → h'.get? a = some o
  alive : ∀ a o, h.get? a = some o → ∃ o', h'.get? a = some o'
  own : ∀ a, Own c' a → Own c a ∨ h.get? a = none

section
variable {g : Gl} {b0 : Addr → Prop} {c c' c'' : Cx} {f : Fm} {h h' h'' : Heap} {M : Mu}
theorem Nx.refl : Nx b0 c h c h := ⟨rfl, rfl, fun _ _ e _ _ _ => e, fun _ o e => ⟨o, e⟩, fun _ q => .inl q⟩
theorem Nx.trans (x : Nx b0 c h c' h') (y : Nx b0 c' h' c'' h'') : Nx b0 c h c'' h'' where
  sp := y.sp.trans x.sp
  env := y.env.trans x.env
  keep := fun a o e n1 n2 n3 => y.keep a o (x.keep a o e n1 n2 n3) (by rw [x.sp]; exact n1) (by rw [x.env]; exact n2) fun q => (x.own a q).elim n3 fun z => by rw [e] at z; cases z
  alive := fun a o e => let ⟨o', e'⟩ := x.alive a o e; y.alive a o' e'
  own := fun a q => (y.own a q).elim (x.own a) fun z => .inr (none_of_alive x.alive z)
theorem Nx.up (x : Nx b0 c h c' h') (F : Sf g b0 c f h) (hb' : ∀ a, c'.bad a ↔ b0 a ∨ Own c' a) : Up c.bad c'.bad h h' where
  keep := fun a o e n => x.keep a o e (fun q => n ((F.hb a).mpr (.inl (F.mb a q)))) (fun q => n ((F.hb a).mpr (.inl (q ▸ F.bL)))) fun q => n ((F.hb a).mpr (.inr q))
  bad := fun a o e q => (F.hb a).mpr (((hb' a).mp q).imp id fun z => (x.own a z).elim id fun w => by rw [e] at w; cases w)
/-- an expression's step -/
theorem Sf.expr (F : Sf g b0 c f h) (k : Kp c.sp h h') : Sf g b0 c f h' ∧ Nx b0 c h c h' :=
  ⟨⟨F.st.next k, F.hb, F.nb, F.inj, F.bL, F.mb⟩, ⟨rfl, rfl, fun a o e n _ _ => k.keep a o e n, k.alive, fun _ q => .inl q⟩⟩

theorem own_del {c : Cx} {x : Str} {a : Addr} (e : c.ow.lookup x = some a) (inj : ∀ x y a, c.ow.lookup x = some a → c.ow.lookup y = some a → x = y) : ∀ b, Own { c with ow := delL c.ow x } b ↔ Own c b ∧ b ≠ a := fun b => by
  constructor
  · rintro ⟨y, hy⟩
    have hy : (delL c.ow x).lookup y = some b := hy
    rw [lookup_delL] at hy
    by_cases q : y = x
    · rw [if_pos q] at hy; cases hy
    · rw [if_neg q] at hy
      exact ⟨⟨y, hy⟩, fun z => q (inj y x a (z ▸ hy) e)⟩
  · rintro ⟨⟨y, hy⟩, ne⟩
    refine ⟨y, ?_⟩
    show (delL c.ow x).lookup y = some b
    rw [lookup_delL, if_neg (fun q => ne ?_), hy]
    rw [q, e] at hy; cases hy; rfl
/-- a list that grows is let be from now on -/
theorem Sf.freeze (F : Sf g b0 c f h) (m : MuOk g c.sp c.bad h M) {x : Str} {l : List D} (hx : f.own.lookup x = some l) : ∃ c', Nx b0 c h c' h ∧ Sf g b0 c' (f.set x (.lst l)) h ∧ MuOk g c'.sp c'.bad h M := by
  obtain ⟨a, vs, n, vi, ea, ga, ba, nm, nl, rs⟩ := F.st.own x l hx
  let c' : Cx := { c with bad := fun b => b0 b ∨ Own { c with ow := delL c.ow x } b, ow := delL c.ow x }
  have od := own_del ea F.inj
  have na : ¬ c'.bad a := fun q => q.elim (F.nb a ⟨x, ea⟩) fun z => ((od a).mp z).2 rfl
  have u : Up c.bad c'.bad h h := ⟨fun _ _ e _ => e, fun b o e q => (F.hb b).mpr (q.imp id fun z => ((od b).mp z).1)⟩
  have nx : Nx b0 c h c' h := ⟨rfl, rfl, fun _ _ e _ _ _ => e, fun _ o e => ⟨o, e⟩, fun b q => .inl ((od b).mp q).1⟩
  refine ⟨c', nx, ⟨?_, fun _ => Iff.rfl, fun b q => F.nb b ((od b).mp q).1, fun y z b h1 h2 => ?_, F.bL, F.mb⟩, m.up (fun _ _ e => e) u⟩
  · exact {
      w := ⟨F.st.w.base, fun b q => F.st.w.al b ((F.hb b).mpr (q.imp id fun z => ((od b).mp z).1)), fun b q => .inl (F.mb b q), fun b q => F.st.w.muHb b ((F.hb b).mpr (q.imp id fun z => ((od b).mp z).1)), F.st.w.s1, F.st.w.s2⟩
      kind := F.st.kind
      glob := F.st.glob
      blt := F.st.blt
      ns := F.st.ns
      nL := F.st.nL
      gl := F.st.gl
      lo := F.st.lo
      ce := F.st.ce
      loc := fun y d e => by
        have e : (setL f.loc x (.lst l)).lookup y = some d := e
        rw [lookup_setL] at e
        by_cases q : y = x
        · rw [if_pos q] at e
          cases e
          exact ⟨_, q ▸ vi, .lst ga na (rs.up u)⟩
        · rw [if_neg q] at e
          obtain ⟨v, p1, p2⟩ := F.st.loc y d e
          exact ⟨v, p1, p2.up u⟩
      own := fun y l2 e => by
        have e : (delL f.own x).lookup y = some l2 := e
        rw [lookup_delL] at e
        by_cases q : y = x
        · rw [if_pos q] at e; cases e
        · rw [if_neg q] at e
          obtain ⟨b, us, k, p1, p2, p3, p4, p5, p6, p7⟩ := F.st.own y l2 e
          have e2 : (delL c.ow x).lookup y = some b := by rw [lookup_delL, if_neg q, p2]
          exact ⟨b, us, k, p1, e2, p3, .inr ⟨y, e2⟩, p5, p6, p7.up u⟩ }
  · have h1 : (delL c.ow x).lookup y = some b := h1
    have h2 : (delL c.ow x).lookup z = some b := h2
    rw [lookup_delL] at h1 h2
    by_cases q : y = x
    · rw [if_pos q] at h1; cases h1
    · by_cases q2 : z = x
      · rw [if_pos q2] at h2; cases h2
      · rw [if_neg q] at h1
        rw [if_neg q2] at h2
        exact F.inj y z b h1 h2
theorem Sf.frz : ∀ (xs : List Str) {c : Cx} {f : Fm}, Sf g b0 c f h → MuOk g c.sp c.bad h M → ∃ c', Nx b0 c h c' h ∧ Sf g b0 c' (f.frz xs) h ∧ MuOk g c'.sp c'.bad h M
  | [], c, f, F, m => ⟨c, .refl, F, m⟩
  | x :: xs, c, f, F, m => by
    unfold Fm.frz
    cases hx : f.own.lookup x with
    | none => exact Sf.frz xs F m
    | some l =>
      obtain ⟨c1, n1, F1, m1⟩ := F.freeze m hx
      obtain ⟨c2, n2, F2, m2⟩ := Sf.frz xs F1 m1
      exact ⟨c2, n1.trans n2, F2, m2⟩
end
end Mine
end

section
set_option backward.match.sparseCases false
open PySem PySem.W PySem.Calls PyProof.Rows
set_option Elab.async false
set_option maxRecDepth 100000
namespace Mine

inductive SEnd (g : Gl) (b0 : Addr → Prop) (c : Cx) (s : Shared) (K : KS) (fl : Flow) (s' : Shared) : Prop
  | mk (h' : Heap) (tk : Nat) (c' : Cx) (f' : Fm) (M' : Mu) (e : s' = { s with heap := h', toks := tk }) (nx : Nx b0 c s.heap c' h') (F : Sf g b0 c' f' h') (m : MuOk g c'.sp c'.bad h' M')
    (hf : match (generalizing := false) fl with | .next => K .next f' M' | .ret v => ∃ d, Rep g c'.sp c'.bad h' v d ∧ K (.ret d) f' M' | _ => False)
@[elab_as_elim] theorem SEnd.el {g : Gl} {b0 : Addr → Prop} {c : Cx} {s : Shared} {K : KS} {fl : Flow} {P : Shared → Prop} {s' : Shared} (h : SEnd g b0 c s K fl s')
    (k : ∀ (h' : Heap) (tk : Nat) (c' : Cx) (f' : Fm) (M' : Mu), Nx b0 c s.heap c' h' → Sf g b0 c' f' h' → MuOk g c'.sp c'.bad h' M' → (match (generalizing := false) fl with | .next => K .next f' M' | .ret v => ∃ d, Rep g c'.sp c'.bad h' v d ∧ K (.ret d) f' M' | _ => False) → P { s with heap := h', toks := tk }) : P s' := by
  cases h with
  | mk h' tk c' f' M' e nx F m hf => subst e; exact k h' tk c' f' M' nx F m hf
theorem SEnd.glue {g : Gl} {b0 : Addr → Prop} {c c1 : Cx} {s : Shared} {h1 : Heap} {tk1 : Nat} {K : KS} {fl : Flow} {s' : Shared} (n : Nx b0 c s.heap c1 h1) (h : SEnd g b0 c1 { s with heap := h1, toks := tk1 } K fl s') : SEnd g b0 c s K fl s' := by
  cases h with
  | mk h' tk c' f' M' e n' F m r => exact ⟨h', tk, c', f', M', e, n.trans n', F, m, r⟩

section
variable {g : Gl} {b0 : Addr → Prop} {c : Cx} {f : Fm} {A : Around} {s : Shared} {M : Mu} {n : Nat} {r : Ev} {Φ : Phi}

theorem Sf.put {m : Str → Option Value} {f' : Fm} {h h' : Heap} (F : Sf g b0 c f h) (X : St g (c.put m) f' h') : Sf g b0 (c.put m) f' h' := ⟨X, F.hb, F.nb, F.inj, F.bL, F.mb⟩
theorem Sf.cL {h : Heap} (F : Sf g b0 c f h) : c.bad c.env.locals := (F.hb _).mpr (.inl F.bL)
theorem nx_locals {m : Str → Option Value} {f' : Fm} {h h' : Heap} (k : ∀ b o, b ≠ c.env.locals → h.get? b = some o → h'.get? b = some o) (X : St g (c.put m) f' h') : Nx b0 c h (c.put m) h' :=
  ⟨rfl, rfl, fun a o e _ n _ => k a o n e, fun a o e => by
    by_cases q : a = c.env.locals
    · obtain ⟨o', _, _, e', _⟩ := X.ns; exact ⟨o', q ▸ e'⟩
    · exact ⟨o, k a o q e⟩, fun _ q => .inl q⟩
theorem mu_locals {h h' : Heap} (F : Sf g b0 c f h) (m : MuOk g c.sp c.bad h M) (k : ∀ b o, b ≠ c.env.locals → h.get? b = some o → h'.get? b = some o) : MuOk g c.sp c.bad h' M :=
  m.up2 (fun b o q e => k b o (fun z => F.st.nL (z ▸ q)) e) ⟨fun b o e n => k b o (fun q => n (q ▸ F.cL)) e, fun _ _ _ q => q⟩

theorem return_ok (S : Snd g n r) (R : Room A n) {e : Expr} {pos : Pos} {K : KS} (F : Sf g b0 c f s.heap) (m : MuOk g c.sp c.bad s.heap M) (h : r.E e (f.frz (nms 12 e)) M fun d M1 => K (.ret d) (f.frz (nms 12 e)) M1) :
    wpAny (model pw g.w) A (exec (.Return (some e) pos) c.env) (SEnd g b0 c s K) (fun _ _ => False) s := by
  obtain ⟨c1, n1, F1, m1⟩ := F.frz (nms 12 e) m
  rw [← n1.env]
  refine wpAny_Return_some ((S.E _ _ _ _ _ _ _ F1.st m1 R h).then fun v h' tk d M' k hK rv m' => ?_)
  have := F1.expr k
  exact ⟨h', tk, c1, _, M', rfl, n1.trans this.2, this.1, m', d, rv, hK⟩
theorem interactive_fn {env : Env} (h : env.scope.kind = .function) : interactive env = false := by
  unfold interactive; rw [h]; rfl
theorem drop_ok (S : Snd g n r) (R : Room A n) {e : Expr} {pos : Pos} {K : KS} (F : Sf g b0 c f s.heap) (m : MuOk g c.sp c.bad s.heap M) (hs : swapsWith e none pos.line c.env = pure false) (h : r.E e f M fun _ M1 => K .next f M1) :
    wpAny (model pw g.w) A (exec (.Expr e pos) c.env) (SEnd g b0 c s K) (fun _ _ => False) s := by
  refine wpAny_Expr_any ((S.E _ _ _ _ _ _ _ F.st m R h).then fun v h' tk d M' k hK rv m' => ?_) (interactive_fn F.st.kind) hs
  have := F.expr k
  exact ⟨h', tk, c, f, M', rfl, this.2, this.1, m', hK⟩

/-- a value stored under a local name -/
theorem store_ok {x : Str} {v : Value} {d : D} {Q : Unit → Shared → Prop} {E : Value → Shared → Prop} (F : Sf g b0 c f s.heap) (m : MuOk g c.sp c.bad s.heap M) (hx : f.sc.names.lookup x = some .local) (rv : Rep g c.sp c.bad s.heap v d)
    (hQ : ∀ h' tk m', Nx b0 c s.heap (c.put m') h' → Sf g b0 (c.put m') (f.set x d) h' → MuOk g c.sp c.bad h' M → Q () { s with heap := h', toks := tk }) : wpAny (model pw g.w) A (storeName c.env x v) Q E s := by
  refine wpAny_storeName_local (F.st.lo x hx) F.st.ns (fun h' hn k => ?_) (blockKind_fn F.st.kind)
  have kk : ∀ b o, b ≠ c.env.locals → s.heap.get? b = some o → h'.get? b = some o := fun b o hb e => k.extBut b o hb e
  have X := F.st.store F.cL hx rv hn kk
  exact hQ h' _ _ (nx_locals kk X) (F.put X) (mu_locals F m kk)

theorem name_assign_ok (S : Snd g n r) (R : Room A n) {x : Str} {p pos : Pos} {v : Expr} {K : KS} (F : Sf g b0 c f s.heap) (m : MuOk g c.sp c.bad s.heap M) (hx : f.sc.names.lookup x = some .local)
    (hs : swapsWith v (some (.Name x p)) pos.line c.env = pure false) (h : r.E v f M fun d M1 => K .next (f.set x d) M1) :
    wpAny (model pw g.w) A (exec (.Assign [.Name x p] v pos) c.env) (SEnd g b0 c s K) (fun _ _ => False) s := by
  refine wpAny_Assign_Name ((S.E _ _ _ _ _ _ _ F.st m R h).then fun v h' tk d M' k hK rv m' => ?_) hs
  obtain ⟨F1, n1⟩ := F.expr k
  refine store_ok (s := { s with heap := h', toks := tk }) F1 m' hx rv fun h2 tk2 m2 n2 F2 mo2 => ?_
  exact ⟨h2, tk2, _, _, M', rfl, n1.trans n2, F2, mo2, hK⟩

theorem St.unpriv2 {h h' : Heap} {a : Addr} {o : Obj} (X : St g (c.priv a) f h) (hown : ∀ b, Own c b → c.bad b ∧ b ≠ a) (ea : h.get? a = some o) (ho : ∀ v, o.data ≠ .cell v) (na : a ≠ c.env.locals) (nb : ¬ c.bad a) (nh : g.hb.get? a = none) (mub : ∀ a, c.sp.mu a → c.bad a) (k : ∀ b o, b ≠ a → h.get? b = some o → h'.get? b = some o) : St g c f h' := by
  have u : Up (c.priv a).bad c.bad h h' := up_unpriv k
  exact {
    w := ⟨fun b o e => k _ _ (fun q => by rw [q, nh] at e; cases e) (X.w.base b o e), fun b q => by
        obtain ⟨o, e⟩ := X.w.al b (.inl q)
        exact ⟨o, k _ _ (fun z => nb (z ▸ q)) e⟩, mub, fun b q => X.w.muHb b (.inl q), X.w.s1, X.w.s2⟩
    kind := X.kind
    glob := X.glob
    blt := X.blt
    ns := let ⟨o, es, ep, e, q⟩ := X.ns; ⟨o, es, ep, k _ _ (Ne.symm na) e, q⟩
    nL := X.nL
    gl := X.gl
    lo := X.lo
    ce := X.ce
    loc := fun y d e => let ⟨v, p, q⟩ := X.loc y d e; ⟨v, p.imp id fun ⟨x, b, e, n, o', e', z⟩ => ⟨x, b, e, n, o', k _ _ (fun w => by
      rw [w, ea] at e'; cases e'; exact ho _ z) e', z⟩, q.up u⟩
    own := fun y l e => let ⟨b, vs, n, p, q, r, s, t, w, z⟩ := X.own y l e; 
      have hb := hown b ⟨y, q⟩
      ⟨b, vs, n, p.imp id fun ⟨x, b, e, n, o', e', z⟩ => ⟨x, b, e, n, o', k _ _ (fun w => by
      rw [w, ea] at e'; cases e'; exact ho _ z) e', z⟩, q, k _ _ hb.2 r, hb.1, t, w, z.up u⟩ }

theorem comp_assign_ok (G : GlOk g) (S : Snd g n r) (R : Room A n) {x : Str} {p pos lpos : Pos} {elt : Expr} {gens : List Comprehension} {sc : Scope} {K : KS} (F : Sf g b0 c f s.heap) (m : MuOk g c.sp c.bad s.heap M) (hx : f.sc.names.lookup x = some .local)
    (hs : swapsWith (.ListComp elt gens sc lpos) (some (.Name x p)) pos.line c.env = pure true) (h : compE r elt gens sc f M fun d M1 => K .next (f.set x d) M1) :
    wpAny (model pw g.w) A (exec (.Assign [.Name x p] (.ListComp elt gens sc lpos) pos) c.env) (SEnd g b0 c s K) (fun _ _ => False) s := by
  obtain ⟨t, it, ifs, gs, rfl, run⟩ := comp_ok (pos := lpos) (pos2 := firstIterPos gens lpos) G S R F.st m h
  rw [exec_Assign_Name_used _ _ _ _ hs]
  refine wpAny_bind (wpAny_standAt (wpAny_bind ?_))
  show wpAny _ A (do let _ ← comprehension (.ListComp elt (⟨t, it, ifs, 0⟩ :: gs) sc lpos) sc c.env _ (newList []) false (eval it c.env) (some (assign (.Name x p) c.env))) _ _ s
  refine wpAny_bind (wpAny_mono (run (use := some (assign (.Name x p) c.env)) (Q := fun _ s' => SEnd g b0 c s K .next s') (E := fun _ _ => False) fun s' C dd ce => ?_) (fun _ s' hq => wpAny_pure (wpAny_pure hq)) fun _ _ e => e)
  obtain ⟨⟨h', tk, acc, M', m', rfl, kp, hK, rv, mo, ns⟩, nd, nC, ne⟩ := ce
  show wpAny _ A (assign (.Name x p) c.env (.ref dd)) _ _ _
  have nC' : ∀ b o, s.heap.get? b = some o → b ≠ C := fun b o e q => by rw [q, nC] at e; cases e
  have nbC : ¬ c.bad C := fun q => by
    obtain ⟨o, e⟩ := F.st.w.al C q
    exact nC' _ _ e rfl
  obtain ⟨oC, esC, epC, eC, dC, rC⟩ := ns
  have X1 : St g (c.priv C) f h' := F.st.priv2 nC eC kp
  have LC : c.env.locals ≠ C := fun q => nbC (q ▸ F.cL)
  have hown : ∀ b, Own c b → c.bad b ∧ b ≠ C := fun b q => ⟨(F.hb b).mpr (.inr q), fun z => nbC (z ▸ (F.hb b).mpr (.inr q))⟩
  have nhC : g.hb.get? C = none := by
    cases e2 : g.hb.get? C with
    | none => rfl
    | some o => have := F.st.w.base _ o e2; rw [nC] at this; cases this
  refine wpAny_assign_Name (wpAny_storeName_local (F.st.lo x hx) X1.ns (fun h2 hn k2 => ?_) (blockKind_fn F.st.kind))
  have kk2 : ∀ b o, b ≠ c.env.locals → h'.get? b = some o → h2.get? b = some o := fun b o hb e => k2.extBut b o hb e
  have X2 := X1.store (.inl F.cL) hx rv hn kk2
  have eC2 := kk2 C oC LC.symm eC
  refine ⟨m', ⟨oC, esC, epC, eC2, dC, rC⟩, fun h3 k3 => ?_⟩
  have kk3 : ∀ b o, b ≠ C → h2.get? b = some o → h3.get? b = some o := fun b o hb e => k3.extBut b o hb e
  have X3 := St.unpriv2 (c := c.put fun y => if y = x then some (.ref dd) else c.m y) X2 hown eC2 (fun v q => by rw [dC] at q; cases q) LC.symm nbC nhC F.st.w.mu kk3
  have mo2 : MuOk g c.sp (c.priv C).bad h2 M' := mo.up2 (fun b o q e => kk2 b o (fun z => F.st.nL (z ▸ q)) e) ⟨fun b o e n => kk2 b o (fun q => n (.inl (q ▸ F.cL))) e, fun _ _ _ q => q⟩
  have mo3 : MuOk g c.sp c.bad h3 M' := mo2.up2 (fun b o q e => kk3 b o (fun z => nbC (z ▸ F.st.w.mu b q)) e) (up_unpriv kk3)
  refine ⟨h3, _, (c.put fun y => if y = x then some (.ref dd) else c.m y), _, M', rfl, ⟨rfl, rfl, fun a o e n1 n2 _ => kk3 a o (nC' a o e) (kk2 a o n2 (kp.keep a o e n1)), fun a o e => ?_, fun _ q => .inl q⟩, F.put X3, mo3, hK⟩
  by_cases q : a = c.env.locals
  · obtain ⟨o', _, _, e', _⟩ := X3.ns; exact ⟨o', q ▸ e'⟩
  · obtain ⟨o', e'⟩ := kp.alive a o e
    exact ⟨o', kk3 a o' (nC' a o e) (kk2 a o' q e')⟩
end
end Mine
end

section
set_option backward.match.sparseCases false
open PySem PySem.W PySem.Calls PyProof.Rows
set_option Elab.async false
set_option maxRecDepth 100000
namespace Mine

noncomputable abbrev Cx.privs (c : Cx) (as : List Addr) : Cx := { c with bad := fun b => c.bad b ∨ b ∈ as }
noncomputable abbrev Cx.putO (c : Cx) (m : Str → Option Value) (x : Str) (a : Addr) : Cx := { c with m := m, ow := setL c.ow x a }
section
variable {g : Gl} {b0 : Addr → Prop} {c : Cx} {f : Fm} {A : Around} {s : Shared} {M : Mu} {n : Nat} {r : Ev} {Φ : Phi}

theorem St.storeO {h h' : Heap} {x : Str} {a : Addr} {us : List Value} {k0 : Nat} {l : List D} (X : St g c f h) (bL : c.bad c.env.locals) (hx : f.sc.names.lookup x = some .local) (ea : h.get? a = some (lstO us k0)) (ba : c.bad a) (nm : ¬ c.sp.mu a) (nl : a ≠ c.env.locals) (rs : RepAll g c.sp c.bad h us l)
    (hn : h'.Ns c.env.locals (fun y => if y = x then some (.ref a) else c.m y)) (k : ∀ b o, b ≠ c.env.locals → h.get? b = some o → h'.get? b = some o) : St g (c.putO (fun y => if y = x then some (.ref a) else c.m y) x a) (f.setO x l) h' := by
  have u : Up c.bad c.bad h h' := ⟨fun b o e n => k b o (fun q => n (q ▸ bL)) e, fun _ _ _ q => q⟩
  have aL : ∃ o, h'.get? c.env.locals = some o := let ⟨o, _, _, e, _⟩ := hn; ⟨o, e⟩
  have nc : ∀ {a : Addr} {u : Option Value}, h.IsCell a u → h'.IsCell a u := fun {a u} z => by
    have := cell_ne_ns z X.ns
    obtain ⟨o, e, d⟩ := z
    exact ⟨o, k _ _ this e, d⟩
  have hk := X.lo x hx
  have vi : ∀ {y u}, y ≠ x → VarIs c h y u → VarIs (c.putO (fun y => if y = x then some (.ref a) else c.m y) x a) h' y u := fun {y u} ny q =>
    q.imp (fun ⟨a, b⟩ => ⟨a, (if_neg ny).trans b⟩) fun ⟨a, b, e, n, z⟩ => ⟨a, b, e, n, nc z⟩
  exact {
    w := ⟨fun b o e => k _ _ (fun q => by rw [q, X.w.muHb _ bL] at e; cases e) (X.w.base b o e), fun a q => by
        by_cases z : a = c.env.locals
        · exact z ▸ aL
        · obtain ⟨o, e⟩ := X.w.al a q
          exact ⟨o, k _ _ z e⟩, X.w.mu, X.w.muHb, X.w.s1, X.w.s2⟩
    kind := X.kind
    glob := X.glob
    blt := X.blt
    ns := hn
    nL := X.nL
    gl := X.gl
    lo := X.lo
    ce := X.ce
    loc := fun y d' e => by
      have e : (delL f.loc x).lookup y = some d' := e
      rw [lookup_delL] at e
      by_cases hy : y = x
      · rw [if_pos hy] at e; cases e
      · rw [if_neg hy] at e
        obtain ⟨v', a, b⟩ := X.loc y d' e
        exact ⟨v', vi hy a, b.up u⟩
    own := fun y l2 e => by
      have e : (setL f.own x l).lookup y = some l2 := e
      rw [lookup_setL] at e
      by_cases hy : y = x
      · rw [if_pos hy] at e
        cases e
        refine ⟨a, us, k0, .inl ⟨hy ▸ hk, if_pos hy⟩, ?_, k _ _ nl ea, ba, nm, nl, rs.up u⟩
        show (setL c.ow x a).lookup y = some a
        rw [lookup_setL, if_pos hy]
      · rw [if_neg hy] at e
        obtain ⟨a', vs, n, p, q, r, b, nm, nl, z⟩ := X.own y l2 e
        refine ⟨a', vs, n, vi hy p, ?_, k _ _ nl r, b, nm, nl, z.up u⟩
        show (setL c.ow x a).lookup y = some a'
        rw [lookup_setL, if_neg hy, q] }

/-- values, and new lists that may grow, on their way to their names -/
inductive WR (g : Gl) (c : Cx) (h : Heap) : List Value → List VO → List Addr → Prop
  | nil : WR g c h [] [] []
  | v {v d vs rs as} : Rep g c.sp c.bad h v d → WR g c h vs rs as → WR g c h (v :: vs) (.v d :: rs) as
  | o {a : Addr} {us n l vs rs as} : h.get? a = some (lstO us n) → RepAll g c.sp c.bad h us l → c.bad a → ¬ c.sp.mu a → a ≠ c.env.locals → WR g c h vs rs as → WR g c h (.ref a :: vs) (.o l :: rs) (a :: as)
theorem WR.append {h : Heap} {vs ws : List Value} {rs qs : List VO} {as bs : List Addr} (x : WR g c h vs rs as) (y : WR g c h ws qs bs) : WR g c h (vs ++ ws) (rs ++ qs) (as ++ bs) := by
  induction x with
  | nil => exact y
  | v a _ ih => exact .v a ih
  | o a b c d e _ ih => exact .o a b c d e ih
theorem WR.reverse {h : Heap} {vs : List Value} {rs : List VO} {as : List Addr} (x : WR g c h vs rs as) : WR g c h vs.reverse rs.reverse as.reverse := by
  induction x with
  | nil => exact .nil
  | v a _ ih => rw [List.reverse_cons, List.reverse_cons]; simpa using ih.append (.v a .nil)
  | o a b c d e _ ih => rw [List.reverse_cons, List.reverse_cons, List.reverse_cons]; exact ih.append (.o a b c d e .nil)
theorem WR.next {c' : Cx} {h h' : Heap} {vs : List Value} {rs : List VO} {as : List Addr} (u : Up c.bad c'.bad h h') (ka : ∀ a ∈ as, ∀ o, h.get? a = some o → h'.get? a = some o) (kb : ∀ a ∈ as, c'.bad a) (e1 : c'.sp = c.sp) (e2 : c'.env = c.env) (x : WR g c h vs rs as) : WR g c' h' vs rs as := by
  induction x with
  | nil => exact .nil
  | v a _ ih => exact .v (by rw [e1]; exact a.up u) (ih ka kb)
  | o a b c d e _ ih => exact .o (ka _ List.mem_cons_self _ a) (by rw [e1]; exact b.up u) (kb _ List.mem_cons_self) (by rw [e1]; exact d) (by rw [e2]; exact e) (ih (fun b hb => ka b (List.mem_cons_of_mem _ hb)) fun b hb => kb b (List.mem_cons_of_mem _ hb))
theorem WR.al {h : Heap} {vs : List Value} {rs : List VO} {as : List Addr} (x : WR g c h vs rs as) : ∀ a ∈ as, a ≠ c.env.locals ∧ c.bad a := by
  induction x with
  | nil => intro a ha; simp at ha
  | v a w ih => exact ih
  | o a b d e f w ih =>
    intro x hx
    rcases List.mem_cons.mp hx with q | q
    · exact q ▸ ⟨f, d⟩
    · exact ih x q
theorem WR.length {h : Heap} {vs : List Value} {rs : List VO} {as : List Addr} (x : WR g c h vs rs as) : vs.length = rs.length := by
  induction x with
  | nil => rfl
  | v a _ ih => simp [ih]
  | o a b c d e _ ih => simp [ih]

noncomputable def Inj (c : Cx) : Prop := ∀ x y a, c.ow.lookup x = some a → c.ow.lookup y = some a → x = y
theorem own_put {m : Str → Option Value} {x : Str} {a b : Addr} (q : Own (c.putO m x a) b) : Own c b ∨ b = a := by
  obtain ⟨y, hy⟩ := q
  have hy : (setL c.ow x a).lookup y = some b := hy
  rw [lookup_setL] at hy
  by_cases z : y = x
  · rw [if_pos z] at hy; cases hy; exact .inr rfl
  · rw [if_neg z] at hy; exact .inl ⟨y, hy⟩
theorem inj_put {m : Str → Option Value} {x : Str} {a : Addr} (i : Inj c) (n : ¬ Own c a) : Inj (c.putO m x a) := fun y z b h1 h2 => by
  have h1 : (setL c.ow x a).lookup y = some b := h1
  have h2 : (setL c.ow x a).lookup z = some b := h2
  rw [lookup_setL] at h1 h2
  by_cases q : y = x
  · rw [if_pos q] at h1
    cases h1
    by_cases q2 : z = x
    · rw [q, q2]
    · rw [if_neg q2] at h2; exact (n ⟨z, h2⟩).elim
  · rw [if_neg q] at h1
    by_cases q2 : z = x
    · rw [if_pos q2] at h2; cases h2; exact (n ⟨y, h1⟩).elim
    · rw [if_neg q2] at h2; exact i y z b h1 h2

theorem stores_ok : ∀ (xs : List Str) (vs : List Value) (rs : List VO) (as : List Addr) (c : Cx) (f : Fm) (s : Shared) (Q : Unit → Shared → Prop) (E : Value → Shared → Prop), xs.length = vs.length → WR g c s.heap vs rs as → as.Nodup → (∀ a ∈ as, ¬ Own c a) → Inj c → St g c f s.heap → c.bad c.env.locals →
    (∀ x ∈ xs, f.sc.names.lookup x = some .local) → MuOk g c.sp c.bad s.heap M →
    (∀ h' tk c', St g c' (setMany f xs rs) h' → c'.bad = c.bad → c'.sp = c.sp → c'.env = c.env → (∀ b, Own c' b → Own c b ∨ b ∈ as) → Inj c' → (∀ b o, b ≠ c.env.locals → s.heap.get? b = some o → h'.get? b = some o) → MuOk g c.sp c.bad h' M → Q () { s with heap := h', toks := tk }) →
    wpAny (model pw g.w) A (assignInOrder (xs.map fun x => bindName c.env x) vs) Q E s
  | [], vs, rs, as, c, f, s, Q, E, hl, w, nd, no, ij, X, bL, hx, m, hQ => by
    cases vs with
    | cons _ _ => simp at hl
    | nil =>
      cases w
      exact wpAny_pure (hQ s.heap s.toks c X rfl rfl rfl (fun b q => .inl q) ij (fun _ _ _ e => e) m)
  | x :: xs, vs, rs, as, c, f, s, Q, E, hl, w, nd, no, ij, X, bL, hx, m, hQ => by
    cases vs with
    | nil => simp at hl
    | cons v vs =>
      have hl1 : xs.length = vs.length := by simpa using hl
      have hx0 := hx x List.mem_cons_self
      show wpAny _ A (do holding vs (bindName c.env x v); assignInOrder (xs.map fun x => bindName c.env x) vs) Q E s
      refine wpAny_bind (wpAny_holding (wpAny_bindName (wpAny_storeName_local (X.lo x hx0) X.ns (fun h1 hn k => ?_) (blockKind_fn X.kind))))
      have kk : ∀ b o, b ≠ c.env.locals → s.heap.get? b = some o → h1.get? b = some o := fun b o hb e => k.extBut b o hb e
      have u : Up c.bad c.bad s.heap h1 := ⟨fun b o e n => kk b o (fun q => n (q ▸ bL)) e, fun _ _ _ q => q⟩
      have m1 : MuOk g c.sp c.bad h1 M := m.up2 (fun b o q e => kk b o (fun z => X.nL (z ▸ q)) e) u
      cases w with
      | @v _ d _ rs _ rv w =>
        have X1 := X.store bL hx0 rv hn kk
        have w1 : WR g (c.put fun y => if y = x then some v else c.m y) h1 vs rs as := by
          have hal := w.al
          exact WR.next (c' := c.put fun y => if y = x then some v else c.m y) u (fun a ha o e => kk a o (hal a ha).1 e) (fun a ha => (hal a ha).2) rfl rfl w
        refine stores_ok xs vs rs as (c.put fun y => if y = x then some v else c.m y) (f.set x d) { s with heap := h1, toks := s.toks + 1 } Q E hl1 w1 nd no ij X1 bL (fun y hy => hx y (List.mem_cons_of_mem _ hy)) m1 fun h' tk c' Y e1 e2 e3 e4 e5 e6 e7 => ?_
        exact hQ h' tk c' Y e1 e2 e3 e4 e5 (fun b o hb e => e6 b o hb (kk b o hb e)) e7
      | @o a us k0 l _ rs as ea rl ba nm nl w =>
        have X1 := X.storeO bL hx0 ea ba nm nl rl hn kk
        have nd := List.nodup_cons.mp nd
        have w1 : WR g (c.putO (fun y => if y = x then some (.ref a) else c.m y) x a) h1 vs rs as := by
          have hal := w.al
          exact WR.next (c' := c.putO (fun y => if y = x then some (.ref a) else c.m y) x a) u (fun a ha o e => kk a o (hal a ha).1 e) (fun a ha => (hal a ha).2) rfl rfl w
        refine stores_ok xs vs rs as (c.putO (fun y => if y = x then some (.ref a) else c.m y) x a) (f.setO x l) { s with heap := h1, toks := s.toks + 1 } Q E hl1 w1 nd.2 (fun b hb q => (own_put q).elim (no b (List.mem_cons_of_mem _ hb)) fun z => nd.1 (z ▸ hb)) (inj_put ij (no a List.mem_cons_self)) X1 bL (fun y hy => hx y (List.mem_cons_of_mem _ hy)) m1 fun h' tk c' Y e1 e2 e3 e4 e5 e6 e7 => ?_
        exact hQ h' tk c' Y e1 e2 e3 (fun b q => (e4 b q).elim (fun z => (own_put z).elim .inl fun z => .inr (z ▸ List.mem_cons_self)) fun z => .inr (List.mem_cons_of_mem _ z)) e5 (fun b o hb e => e6 b o hb (kk b o hb e)) e7
end
end Mine
end

section
set_option backward.match.sparseCases false
open PySem PySem.W PySem.Calls PyProof.Rows
set_option Elab.async false
set_option maxRecDepth 100000
namespace Mine

section
variable {g : Gl} {b0 : Addr → Prop} {c : Cx} {f : Fm} {A : Around} {s : Shared} {M : Mu} {n : Nat} {r : Ev} {Φ : Phi}

theorem Sf.rebad {c' : Cx} {f' : Fm} {h0 h' : Heap} (F : Sf g b0 c f h0) (X : St g c' f' h') (esp : c'.sp = c.sp) (een : c'.env = c.env) (hbad : ∀ b, Own c' b → c'.bad b) (hb0 : ∀ b, b0 b → c'.bad b) (own : ∀ b, Own c' b → Own c b ∨ h0.get? b = none) (ij : Inj c')
    (keep : ∀ a o, h0.get? a = some o → ¬ c.sp.mu a → a ≠ c.env.locals → h'.get? a = some o) (alive : ∀ a o, h0.get? a = some o → ∃ o', h'.get? a = some o') (m : MuOk g c'.sp c'.bad h' M) : ∃ c'', Nx b0 c h0 c'' h' ∧ Sf g b0 c'' f' h' ∧ MuOk g c''.sp c''.bad h' M := by
  let c'' : Cx := { c' with bad := fun b => b0 b ∨ Own c' b }
  have sub : ∀ b, c''.bad b → c'.bad b := fun b q => q.elim (hb0 b) (hbad b)
  have u : Up c'.bad c''.bad h' h' := ⟨fun _ _ e _ => e, fun b _ _ q => sub b q⟩
  refine ⟨c'', ⟨esp, een, fun a o e n1 n2 _ => keep a o e n1 n2, alive, own⟩, ⟨?_, fun _ => Iff.rfl, fun b q => (own b q).elim (F.nb b) fun e z => ?_, ij, by show b0 c'.env.locals; rw [een]; exact F.bL, fun a q => F.mb a (by rw [← esp]; exact q)⟩, m.up (fun _ _ e => e) u⟩
  · exact {
      w := ⟨X.w.base, fun b q => X.w.al b (sub b q), fun b q => .inl (F.mb b (by rw [← esp]; exact q)), fun b q => X.w.muHb b (sub b q), X.w.s1, X.w.s2⟩
      kind := X.kind
      glob := X.glob
      blt := X.blt
      ns := X.ns
      nL := X.nL
      gl := X.gl
      lo := X.lo
      ce := X.ce
      loc := fun y d e => let ⟨v, p, q⟩ := X.loc y d e; ⟨v, p, q.up u⟩
      own := fun y l e => let ⟨b, vs, n, p, q, r, s, t, w, z⟩ := X.own y l e; ⟨b, vs, n, p, q, r, .inr ⟨y, q⟩, t, w, z.up u⟩ }
  · obtain ⟨o, e'⟩ := F.st.w.al b ((F.hb b).mpr (.inl z))
    rw [e] at e'; cases e'

theorem privs_nil : c.privs [] = c := by
  show { c with bad := fun b => c.bad b ∨ b ∈ [] } = c
  have : (fun b => c.bad b ∨ b ∈ ([] : List Addr)) = c.bad := funext fun b => by simp
  rw [this]
theorem privs_cons {a : Addr} {as : List Addr} : (c.priv a).privs as = c.privs (a :: as) := by
  show ({ c with bad := fun b => (c.bad b ∨ b = a) ∨ b ∈ as } : Cx) = { c with bad := fun b => c.bad b ∨ b ∈ a :: as }
  have : (fun b => (c.bad b ∨ b = a) ∨ b ∈ as) = fun b => c.bad b ∨ b ∈ a :: as := funext fun b => by rw [List.mem_cons, or_assoc]
  rw [this]

/-- what the right side of an assignment leaves -/
inductive MixQ (g : Gl) (c : Cx) (f : Fm) (s : Shared) (xs : List Str) (n : Nat) (K : List VO → Mu → Prop) (vs : List Value) (s' : Shared) : Prop
  | mk (h' : Heap) (tk : Nat) (as : List Addr) (rs : List VO) (M' : Mu) (e : s' = { s with heap := h', toks := tk }) (k : Kp c.sp s.heap h') (hK : K rs M') (w : WR g (c.privs as) h' vs rs as) (fr : ∀ a ∈ as, s.heap.get? a = none) (nd : as.Nodup)
    (m : MuOk g c.sp (c.privs as).bad h' M') (X : St g (c.privs as) f h') (vl : vs.length = n) (xl : xs.length = n)
@[elab_as_elim] theorem MixQ.el {xs : List Str} {n : Nat} {K : List VO → Mu → Prop} {vs : List Value} {P : Shared → Prop} {s' : Shared} (h : MixQ g c f s xs n K vs s')
    (k : ∀ (h' : Heap) (tk : Nat) (as : List Addr) (rs : List VO) (M' : Mu), Kp c.sp s.heap h' → K rs M' → WR g (c.privs as) h' vs rs as → (∀ a ∈ as, s.heap.get? a = none) → as.Nodup → MuOk g c.sp (c.privs as).bad h' M' → St g (c.privs as) f h' → vs.length = n → xs.length = n → P { s with heap := h', toks := tk }) : P s' := by
  cases h with
  | mk h' tk as rs M' e kk hK w fr nd m X vl xl => subst e; exact k h' tk as rs M' kk hK w fr nd m X vl xl
theorem mix_ok (S : Snd g n r) (R : Room A n) (pos : Pos) {ow : List Str} (xs : List Str) : ∀ (es : List Expr) (c : Cx) (s : Shared) (M : Mu) (K : List VO → Mu → Prop), es.all pl = true → mixE r ow xs es f M K → St g c f s.heap → MuOk g c.sp c.bad s.heap M →
    wpAny (model pw g.w) A (spliced (backTo pos (starEach es c.env))) (MixQ g c f s xs es.length K) (fun _ _ => False) s := by
  induction xs with
  | nil =>
    intro es c s M K _ h X m
    cases es with
    | nil =>
      have q : MixQ g c f s [] 0 K [] s := ⟨s.heap, s.toks, [], [], M, rfl, .refl _, h, .nil, (fun _ q => nomatch q), .nil, by rw [privs_nil]; exact m, by rw [privs_nil]; exact X, rfl, rfl⟩
      exact spliced_nil q
    | cons _ _ => exact False.elim h
  | cons x xs ih =>
    intro es c s M K hp h X m
    cases es with
    | nil => exact False.elim h
    | cons e es =>
    rw [List.all_cons, Bool.and_eq_true] at hp
    rw [back_cons hp.1]
    rcases bl_inv (b := ow.contains x) h with ⟨_, h7⟩ | ⟨_, h7⟩
    · clear h
      rcases op_inv h7 with ⟨es', he, h⟩ | ⟨_, h⟩
      rotate_left
      · exact h.elim
      clear h7
      obtain ⟨p, rfl⟩ := asList_inv he
      clear he
      obtain ⟨hpl, h⟩ := tr_inv (b := plAll es') h
      refine spliced_cons (List_ ((all_ok S p R (plAll_all hpl).1 X m h).then fun us h1 tk1 ds M1 k1 h1' rs1 m1 => ?_))
      clear h
      refine wpAny_newList ?_ (by have := (plAll_all hpl).2; rw [rs1.2, sizeLine_eq]; omega)
      have X1 := X.next k1
      have ha := get_size h1
      have kk := push_keep h1 (lstO us 0)
      have ea : (h1.push (lstO us 0)).get? h1.objs.size = some (lstO us 0) := Heap.get?_push_size _ rfl
      generalize h1.push (lstO us 0) = h2 at kk ea ⊢
      generalize h1.objs.size = a at ha ea ⊢
      have X2 : St g (c.priv a) f h2 := X1.priv ha ea kk
      have m2 : MuOk g c.sp (c.priv a).bad h2 M1 := m1.up kk (up_priv ha kk)
      refine wpAny_mono (ih es (c.priv a) { s with heap := h2, toks := tk1 } M1 _ hp.2 h1' X2 m2) (fun vs s' hq => ?_) fun _ _ x => x
      refine hq.el fun h3 tk3 as rs M3 k3 hK w fr nd m3 X3 hl hl2 => ?_
      clear hq
      have k3 : Kp c.sp h2 h3 := k3
      have fr : ∀ b ∈ as, h2.get? b = none := fr
      have aliv : ∀ b, c.bad b → ∃ o, h1.get? b = some o := X1.w.al
      have nma : ¬ c.sp.mu a := fun q => by
        obtain ⟨o, e⟩ := aliv a (X.w.mu a q)
        rw [ha] at e; cases e
      have nla : a ≠ c.env.locals := fun q => by
        obtain ⟨o, _, _, e, _⟩ := X1.ns
        rw [← q, ha] at e; cases e
      have u : Up c.bad (c.privs (a :: as)).bad h1 h3 := ⟨fun b o e n => k3.keep b o (kk b o e) fun q => n (X.w.mu b q), fun b o e q => q.elim id fun z => by
        rcases List.mem_cons.mp z with z | z
        · rw [z, ha] at e; cases e
        · have := fr b z; rw [kk b o e] at this; cases this⟩
      rw [privs_cons] at w m3 X3
      refine ⟨h3, tk3, a :: as, .o ds :: rs, M3, rfl, k1.trans ((Kp.of_keep kk).trans k3), hK, .o (k3.keep _ _ ea nma) (rs1.1.up u) (.inr List.mem_cons_self) nma nla w, fun b hb => ?_, List.nodup_cons.mpr ⟨fun q => ?_, nd⟩, m3, X3, congrArg (· + 1) hl, congrArg (· + 1) hl2⟩
      · rcases List.mem_cons.mp hb with z | z
        · exact none_of_alive k1.alive (z ▸ ha)
        · exact none_of_alive (fun b o e => let ⟨o', e'⟩ := k1.alive b o e; ⟨o', kk _ _ e'⟩) (fr b z)
      · have := fr a q; rw [ea] at this; cases this
    · clear h
      refine spliced_cons ((S.E _ _ _ _ _ _ _ X m R h7).then fun v h1 tk1 d M1 k1 h1' rv m1 => ?_)
      clear h7
      refine wpAny_mono (ih es c { s with heap := h1, toks := tk1 } M1 _ hp.2 h1' (X.next k1) m1) (fun vs s' hq => ?_) fun _ _ x => x
      refine hq.el fun h3 tk3 as rs M3 k3 hK w fr nd m3 X3 hl hl2 => ?_
      clear hq
      have fr : ∀ b ∈ as, h1.get? b = none := fr
      have u : Up c.bad (c.privs as).bad h1 h3 := ⟨fun b o e n => k3.keep b o e fun q => n (X.w.mu b q), fun b o e q => q.elim id fun z => by
        have := fr b z; rw [e] at this; cases this⟩
      exact ⟨h3, tk3, as, .v d :: rs, M3, rfl, k1.trans k3, hK, .v (rv.up u) w, fun b hb => none_of_alive k1.alive (fr b hb), nd, m3, X3, congrArg (· + 1) hl, congrArg (· + 1) hl2⟩
end
end Mine
end

section
set_option backward.match.sparseCases false
open PySem PySem.W PySem.Calls PyProof.Rows
set_option Elab.async false
set_option maxRecDepth 100000
namespace Mine

section
variable {g : Gl} {b0 : Addr → Prop} {c : Cx} {f : Fm} {A : Around} {s : Shared} {M : Mu} {n : Nat} {r : Ev} {Φ : Phi}

/-- a new list, put under a name to grow there -/
theorem own_store {h0 : Heap} {x : Str} {a : Addr} {us : List Value} {k0 : Nat} {l : List D} {s : Shared} (F : Sf g b0 c f h0) (X : St g (c.priv a) f s.heap) (m : MuOk g c.sp (c.priv a).bad s.heap M) (hx : f.sc.names.lookup x = some .local)
    (kp : Kp c.sp h0 s.heap) (fr : h0.get? a = none) (ea : s.heap.get? a = some (lstO us k0)) (rs : RepAll g c.sp (c.priv a).bad s.heap us l) {Q : Unit → Shared → Prop} {E : Value → Shared → Prop}
    (hQ : ∀ h' tk c' , Nx b0 c h0 c' h' → Sf g b0 c' (f.setO x l) h' → MuOk g c'.sp c'.bad h' M → Q () { s with heap := h', toks := tk }) : wpAny (model pw g.w) A (storeName c.env x (.ref a)) Q E s := by
  have nbA : ¬ c.bad a := fun q => by
    obtain ⟨o, e⟩ := F.st.w.al a q
    rw [fr] at e; cases e
  have nla : a ≠ c.env.locals := fun q => nbA (q ▸ F.cL)
  refine wpAny_storeName_local (X.lo x hx) X.ns (fun h1 hn k => ?_) (blockKind_fn X.kind)
  have kk : ∀ b o, b ≠ c.env.locals → s.heap.get? b = some o → h1.get? b = some o := fun b o hb e => k.extBut b o hb e
  have u : Up (c.priv a).bad (c.priv a).bad s.heap h1 := ⟨fun b o e n => kk b o (fun q => n (.inl (q ▸ F.cL))) e, fun _ _ _ q => q⟩
  have m1 : MuOk g c.sp (c.priv a).bad h1 M := m.up2 (fun b o q e => kk b o (fun z => X.nL (z ▸ q)) e) u
  have X1 := X.storeO (.inl F.cL) hx ea (.inr rfl) (fun q => nbA (F.st.w.mu a q)) nla rs hn kk
  obtain ⟨c'', n1, F1, m2⟩ := F.rebad X1 rfl rfl (fun b q => (own_put (c := c.priv a) q).elim (fun z => .inl ((F.hb b).mpr (.inr z))) fun z => .inr z) (fun b q => .inl ((F.hb b).mpr (.inl q))) (fun b q => (own_put (c := c.priv a) q).elim .inl fun z => .inr (z ▸ fr))
    (inj_put (c := c.priv a) F.inj fun q => nbA ((F.hb a).mpr (.inr q))) (fun b o e n1 n2 => kk b o n2 (kp.keep b o e n1)) (fun b o e => by
      obtain ⟨o', e'⟩ := kp.alive b o e
      by_cases q : b = c.env.locals
      · obtain ⟨o2, _, _, e2, _⟩ := X1.ns; exact ⟨o2, q ▸ e2⟩
      · exact ⟨o', kk b o' q e'⟩) m1
  exact hQ h1 _ c'' n1 F1 m2

theorem own_assign_ok (S : Snd g n r) (R : Room A n) {x : Str} {p pos lp : Pos} {es : List Expr} {K : KS} (F : Sf g b0 c f s.heap) (m : MuOk g c.sp c.bad s.heap M) (hx : f.sc.names.lookup x = some .local) (hl : plAll es = true)
    (h : allE r es f M fun ds M1 => K .next (f.setO x ds) M1) : wpAny (model pw g.w) A (exec (.Assign [.Name x p] (.List es lp) pos) c.env) (SEnd g b0 c s K) (fun _ _ => False) s := by
  refine wpAny_Assign_Name (List_ ((all_ok S lp R (plAll_all hl).1 F.st m h).then fun us h1 tk1 ds M1 k1 hK rs m1 => ?_)) rfl
  refine wpAny_newList ?_ (by have := (plAll_all hl).2; rw [rs.2, sizeLine_eq]; omega)
  have ha := get_size h1
  have ea : (h1.push (lstO us 0)).get? h1.objs.size = some (lstO us 0) := Heap.get?_push_size _ rfl
  have X2 : St g (c.priv h1.objs.size) f (h1.push (lstO us 0)) := (F.st.next k1).priv ha ea (push_keep _ _)
  have u : Up c.bad (c.priv h1.objs.size).bad h1 (h1.push (lstO us 0)) := up_priv ha (push_keep _ _)
  refine own_store (s := { s with heap := h1.push (lstO us 0), toks := tk1 }) F X2 (m1.up (push_keep _ _) u) hx (k1.trans (.push _ _)) (none_of_alive k1.alive ha) ea (rs.1.up u) fun h' tk c' n1 F1 m2 => ?_
  exact ⟨h', tk, c', _, M1, rfl, n1, F1, m2, hK⟩

theorem namesOf_inv (ts : List Expr) : ∀ {xs : List Str}, namesOf ts = some xs → xs.length = ts.length ∧ ∀ (F : Expr → Option Str), (∀ x p, Expr.Name x p ∈ ts → F (.Name x p) = some x) → ts.filterMap F = xs := by
  induction ts with
  | nil => exact fun h => Option.some.inj h ▸ ⟨rfl, fun _ _ => rfl⟩
  | cons t ts ih =>
    intro xs h
    obtain ⟨x, p, ys, rfl, h1, rfl⟩ := namesOf_cons h
    obtain ⟨h2, h3⟩ := ih h1
    exact ⟨congrArg (· + 1) h2, fun F hF => by
      rw [List.filterMap_cons, hF _ _ List.mem_cons_self, h3 F fun x p hm => hF x p (List.mem_cons_of_mem _ hm)]⟩
theorem namesOf_mem (ts : List Expr) {x : Str} {p : Pos} : ∀ {xs : List Str}, namesOf ts = some xs → Expr.Name x p ∈ ts → x ∈ xs := by
  induction ts with
  | nil => exact fun _ hm => nomatch hm
  | cons t ts ih =>
    intro xs h hm
    obtain ⟨y, q, ys, rfl, h1, rfl⟩ := namesOf_cons h
    rcases List.mem_cons.mp hm with z | z
    · injection z with z; subst z; exact List.mem_cons_self
    · exact List.mem_cons_of_mem _ (ih h1 z)

theorem swapped_ok {env : Env} {ts es : List Expr} {xs : List Str} {k k2 : Nat} {p p2 : Pos} (hk : env.scope.kind = .function) (hn : namesOf ts = some xs) (hl : ∀ x ∈ xs, env.kindOf x = some .local) (h : swapOk ts es xs = true) :
    swappedStores [.Tuple ts k p] (.Tuple es k2 p2) env = pure (some xs) := by
  unfold swapOk at h
  simp only [Bool.and_eq_true, Bool.not_eq_true', beq_iff_eq] at h
  obtain ⟨⟨⟨⟨⟨⟨h1, h2⟩, h3⟩, h4⟩, h5⟩, h6⟩, h7⟩ := h
  obtain ⟨n1, n2⟩ := namesOf_inv _ hn
  have bk : env.blockKind = .function := by unfold Env.blockKind; rw [hk]; rfl
  unfold swappedStores
  simp only [bk]
  rw [show (!(ts.length == 2 || ts.length == 3) || es.length != ts.length || (ScopeKind.function != ScopeKind.function)) = false by
    rw [h1, h2]; simp]
  simp only [Bool.false_eq_true, if_false]
  rw [if_neg (by
    rw [Bool.not_eq_true, List.any_eq_false]
    intro x hx
    rw [List.all_eq_true] at h3
    have := h3 x hx
    cases x <;> simp_all [pl])]
  rw [n2 _ (fun x q hm => by
      unfold sameLine at h4
      rw [List.all_eq_true] at h4
      have := h4 _ hm
      have hkx := hl x (namesOf_mem _ hn hm)
      simp only [hkx, beq_self_eq_true, Bool.true_and]
      exact if_pos this)]
  rw [h5, n1, h6, h7]
  simp
end
end Mine
end

section
set_option backward.match.sparseCases false
open PySem PySem.W PySem.Calls PyProof.Rows
set_option Elab.async false
set_option maxRecDepth 100000
namespace Mine

section
variable {g : Gl} {b0 : Addr → Prop} {c : Cx} {f : Fm} {A : Around} {s : Shared} {M : Mu} {n : Nat} {r : Ev} {Φ : Phi}

theorem tup_swap_ok (S : Snd g n r) (R : Room A n) {ow : List Str} {ts es : List Expr} {xs : List Str} {k k2 : Nat} {p p2 pos : Pos} {K : KS} (F : Sf g b0 c f s.heap) (m : MuOk g c.sp c.bad s.heap M) (hn : namesOf ts = some xs) (hl : localsAll f.sc xs = true) (hw : swapOk ts es xs = true)
    (h : mixE r ow xs es f M fun rs M1 => K .next (setMany f xs.reverse rs.reverse) M1) : wpAny (model pw g.w) A (exec (.Assign [.Tuple ts k p] (.Tuple es k2 p2) pos) c.env) (SEnd g b0 c s K) (fun _ _ => False) s := by
  have hx : ∀ x ∈ xs, f.sc.names.lookup x = some .local := fun x hx => by
    unfold localsAll at hl
    rw [List.all_eq_true] at hl
    exact eq_of_beq (hl x hx)
  have hpl : es.all pl = true ∧ es.length = ts.length ∧ ts.length ≤ 3 := by
    unfold swapOk at hw
    simp only [Bool.and_eq_true, Bool.or_eq_true, beq_iff_eq] at hw
    exact ⟨hw.1.1.1.1.2, hw.1.1.1.1.1.2, by have := hw.1.1.1.1.1.1; omega⟩
  have nl := (namesOf_inv _ hn).1
  refine Assign_Tuple_swapped (names := xs) (Tuple_ (wpAny_mono (mix_ok S R p2 xs es c s M _ hpl.1 h F.st m) (fun vs s1 h1 => ?_) fun _ _ x => x)) rfl (swapped_ok F.st.kind hn (fun x q => F.st.lo x (hx x q)) hw)
  refine h1.el fun h1 tk1 as rs M1 k1 hK w1 fr nd m1 X1 vl xl => ?_
  refine wpAny_newTuple ?_ (by rw [vl, hpl.2.1, sizeLine_eq]; omega)
  obtain ⟨h2, hh2⟩ : ∃ h2, h2 = h1.push (tupO vs 0) := ⟨_, rfl⟩
  obtain ⟨T, hT⟩ : ∃ T, T = h1.objs.size := ⟨_, rfl⟩
  have kk2 : ∀ b o, h1.get? b = some o → h2.get? b = some o := fun b o e => by rw [hh2]; exact push_keep _ _ _ _ e
  have eT : h2.get? T = some (tupO vs 0) := by rw [hh2, hT]; exact Heap.get?_push_size _ rfl
  have hsz : xs.length = vs.toArray.size := by rw [List.size_toArray, vl]; exact xl
  rw [← hT, ← hh2, hsz]
  refine wpAny_unpackItems_tuple (s := { s with heap := h2, toks := tk1 }) R.2.2 (isT_of eT) fun h3 x3 => ?_
  have kk3 : ∀ b o, h2.get? b = some o → h3.get? b = some o := fun b o e => x3 b o (new_ne e) e
  have kk : ∀ b o, h1.get? b = some o → h3.get? b = some o := fun b o e => kk3 b o (kk2 b o e)
  have X3 : St g (c.privs as) f h3 := X1.next (c := c.privs as) (.of_keep kk)
  have m3 := m1.keep kk
  have w3 : WR g (c.privs as) h3 vs rs as := w1.next (up_keep kk) (fun a _ o e => kk a o e) (fun a ha => .inr ha) rfl rfl
  have kp : Kp c.sp s.heap h3 := k1.trans (.of_keep kk)
  have nob : ∀ a ∈ as, ¬ c.bad a := fun a ha q => by
    obtain ⟨o, e⟩ := F.st.w.al a q
    rw [fr a ha] at e; cases e
  show wpAny _ A (assignInOrder (xs.reverse.map fun n => bindName c.env n) vs.toArray.toList.reverse) _ _ _
  have evs : vs.toArray.toList.reverse = vs.reverse := by simp
  rw [evs]
  have nd' : as.reverse.Nodup := by
    unfold List.Nodup at nd ⊢
    rw [List.pairwise_reverse]
    exact nd.imp fun h => Ne.symm h
  refine stores_ok xs.reverse vs.reverse rs.reverse as.reverse (c.privs as) f { s with heap := h3, toks := tk1 } _ _ (by simp [vl, xl]) w3.reverse nd' (fun a ha q => nob a (List.mem_reverse.mp ha) ((F.hb a).mpr (.inr q))) F.inj X3 (.inl F.cL) (fun x q => hx x (List.mem_reverse.mp q)) m3 fun h4 tk4 c4 X4 e1 e2 e3 e4 e5 e6 m4 => ?_
  have ob : ∀ b, Own c4 b → c4.bad b := fun b q => by
    rw [e1]
    exact (e4 b q).elim (fun z => .inl ((F.hb b).mpr (.inr z))) fun z => .inr (List.mem_reverse.mp z)
  obtain ⟨c5, n5, F5, m5⟩ := F.rebad X4 e2 e3 ob (fun b q => by rw [e1]; exact .inl ((F.hb b).mpr (.inl q))) (fun b q => (e4 b q).elim .inl fun z => .inr (fr b (List.mem_reverse.mp z))) e5
    (fun b o e n1 n2 => e6 b o n2 (kp.keep b o e n1)) (fun b o e => by
      obtain ⟨o', e'⟩ := kp.alive b o e
      by_cases q : b = c.env.locals
      · obtain ⟨o2, _, _, e2', _⟩ := X4.ns
        rw [e3] at e2'
        exact ⟨o2, q ▸ e2'⟩
      · exact ⟨o', e6 b o' q e'⟩) (by rw [e1, e2]; exact m4)
  exact ⟨h4, tk4, c5, _, M1, rfl, n5, F5, m5, hK⟩

inductive BEnd (g : Gl) (b0 : Addr → Prop) (c : Cx) (s : Shared) (M : Mu) (K : Fm → Prop) (s' : Shared) : Prop
  | mk (h' : Heap) (tk : Nat) (c' : Cx) (f' : Fm) (e : s' = { s with heap := h', toks := tk }) (hK : K f') (n : Nx b0 c s.heap c' h') (F : Sf g b0 c' f' h') (m : MuOk g c'.sp c'.bad h' M)
@[elab_as_elim] theorem BEnd.el {K : Fm → Prop} {P : Shared → Prop} {s' : Shared} (h : BEnd g b0 c s M K s') (k : ∀ (h' : Heap) (tk : Nat) (c' : Cx) (f' : Fm), K f' → Nx b0 c s.heap c' h' → Sf g b0 c' f' h' → MuOk g c'.sp c'.bad h' M → P { s with heap := h', toks := tk }) : P s' := by
  cases h with
  | mk h' tk c' f' e hK n F m => subst e; exact k h' tk c' f' hK n F m
theorem Sf.bound {ns : List Str} {K : Fm → Prop} {s' : Shared} (F : Sf g b0 c f s.heap) (m : MuOk g c.sp c.bad s.heap M) (h : Bound g c f s ns K () s') : BEnd g b0 c s M K s' := by
  obtain ⟨f', h', tk, m', rfl, hK, X, k, _, _, _⟩ := h
  exact ⟨h', tk, c.put m', f', rfl, hK, nx_locals k X, F.put X, mu_locals (c := c) F m k⟩

theorem tup_bind_ok (S : Snd g n r) (R : Room A n) {ts : List Expr} {v : Expr} {k : Nat} {p pos : Pos} {K : KS} (F : Sf g b0 c f s.heap) (m : MuOk g c.sp c.bad s.heap M) (hs : swapsWithSole [.Tuple ts k p] v pos.line c.env = pure false) (hw : swappedStores [.Tuple ts k p] v c.env = pure none)
    (h : r.E v f M fun d M1 => bindT 8 (.Tuple ts k p) d f fun f1 => K .next f1 M1) : wpAny (model pw g.w) A (exec (.Assign [.Tuple ts k p] v pos) c.env) (SEnd g b0 c s K) (fun _ _ => False) s := by
  refine Assign_Tuple ((S.E _ _ _ _ _ _ _ F.st m R h).then fun a h' tk d M' k hK rv m' => ?_) hs hw
  obtain ⟨F1, n1⟩ := F.expr k
  refine wpAny_mono ((bind_ok R.2.2 8).1 _ d c f { s with heap := h', toks := tk } a _ F1.st F1.cL rv hK) (fun _ s' hb => ?_) fun _ _ x => x
  refine (Sf.bound F1 m' hb).el fun h2 tk2 c2 f2 hK2 n2 F2 m2 => ?_
  exact ⟨h2, tk2, c2, f2, M', rfl, n1.trans n2, F2, m2, hK2⟩

/-- a list of the frame's own gets other things -/
theorem Sf.grow {x : Str} {l l2 : List D} {a : Addr} {us : List Value} {k0 : Nat} {h h' : Heap} (F : Sf g b0 c f h) (m : MuOk g c.sp c.bad h M) (_ : f.own.lookup x = some l) (vi : VarIs c h x (.ref a)) (ow : c.ow.lookup x = some a) (ea : h.get? a = some (lstO us k0)) {vs : List Value} {k1 : Nat}
    (ea' : h'.get? a = some (lstO vs k1)) (kk : ∀ b o, b ≠ a → h.get? b = some o → h'.get? b = some o) (rs : RepAll g c.sp c.bad h vs l2) : Nx b0 c h c h' ∧ Sf g b0 c (f.setO x l2) h' ∧ MuOk g c.sp c.bad h' M := by
  have oa : Own c a := ⟨x, ow⟩
  have ba : c.bad a := (F.hb a).mpr (.inr oa)
  have nb := F.nb a oa
  have nm : ¬ c.sp.mu a := fun q => nb (F.mb a q)
  have nl : a ≠ c.env.locals := fun q => nb (q ▸ F.bL)
  have u : Up c.bad c.bad h h' := ⟨fun b o e n => kk b o (fun q => n (q ▸ ba)) e, fun _ _ _ q => q⟩
  have nc : ∀ {b : Addr} {u : Option Value}, h.IsCell b u → h'.IsCell b u := fun {b u} ⟨o', e, d⟩ => ⟨o', kk _ _ (fun q => by
    rw [q, ea] at e; cases e; cases d) e, d⟩
  have vk : ∀ {y u}, VarIs c h y u → VarIs c h' y u := fun q => q.imp id fun ⟨x, b, e, n, z⟩ => ⟨x, b, e, n, nc z⟩
  refine ⟨⟨rfl, rfl, fun b o e _ _ no => kk b o (fun q => no (q ▸ oa)) e, fun b o e => by
      by_cases z : b = a
      · exact ⟨_, z ▸ ea'⟩
      · exact ⟨o, kk b o z e⟩, fun _ q => .inl q⟩, ⟨?_, F.hb, F.nb, F.inj, F.bL, F.mb⟩, m.up2 (fun b o q e => kk b o (fun z => nm (z ▸ q)) e) u⟩
  exact {
    w := ⟨fun b o e => kk _ _ (fun q => by rw [q, F.st.w.muHb _ ba] at e; cases e) (F.st.w.base b o e), fun b q => by
        by_cases z : b = a
        · exact ⟨_, z ▸ ea'⟩
        · obtain ⟨o, e⟩ := F.st.w.al b q
          exact ⟨o, kk _ _ z e⟩, F.st.w.mu, F.st.w.muHb, F.st.w.s1, F.st.w.s2⟩
    kind := F.st.kind
    glob := F.st.glob
    blt := F.st.blt
    ns := let ⟨o, es, ep, e, q⟩ := F.st.ns; ⟨o, es, ep, kk _ _ (Ne.symm nl) e, q⟩
    nL := F.st.nL
    gl := F.st.gl
    lo := F.st.lo
    ce := F.st.ce
    loc := fun y d e => by
      have e : (delL f.loc x).lookup y = some d := e
      rw [lookup_delL] at e
      by_cases hy : y = x
      · rw [if_pos hy] at e; cases e
      · rw [if_neg hy] at e
        obtain ⟨v, p, q⟩ := F.st.loc y d e
        exact ⟨v, vk p, q.up u⟩
    own := fun y l3 e => by
      have e : (setL f.own x l2).lookup y = some l3 := e
      rw [lookup_setL] at e
      by_cases hy : y = x
      · rw [if_pos hy] at e
        cases e
        exact ⟨a, vs, k1, hy ▸ vk vi, hy ▸ ow, ea', ba, nm, nl, rs.up u⟩
      · rw [if_neg hy] at e
        obtain ⟨b, ws, k, p1, p2, p3, p4, p5, p6, p7⟩ := F.st.own y l3 e
        exact ⟨b, ws, k, vk p1, p2, kk _ _ (fun q => hy (F.inj y x a (q ▸ p2) ow)) p3, p4, p5, p6, p7.up u⟩ }
end
end Mine
end

section
set_option backward.match.sparseCases false
open PySem PySem.W PySem.Calls PyProof.Rows
set_option Elab.async false
set_option maxRecDepth 100000
namespace Mine

theorem ext_getattr : typeLookup (.type "list") (Str.ofString "extend") = pure (some (.builtin "list.extend")) := by rw [typeLookup_type, builtinLookup_eq_fast]; kernel_rfl
theorem ext_type : typeOf (.builtin "list.extend") = pure (.type "method_descriptor") := by show builtinType _ = _; rw [builtinType_eq_fast]; kernel_rfl
section
variable {prog : Program} {w : World} {A : Around} {E : Value → Shared → Prop} {s : Shared} {env : Env}
theorem getMethod_ext {l : Addr} {o : Obj} {pl : Sem Bool} {Q : Value × List Value → Shared → Prop} (ho : s.heap.get? l = some o) (hc : o.cls = .type "list") (hd : o.dict = none)
    (h : Q (.builtin "list.extend", [.ref l]) s) : wpAny (model prog w) A (getMethod (.ref l) (Str.ofString "extend") pl) Q E s := by
  have hT : s.TypeIs (.ref l) "list" := ⟨o, ho, hc⟩
  unfold getMethod
  refine wpAny_bind (wpAny_specialOf hT list_getattribute ?_)
  show wpAny _ A (if (Manifest.canonical "list.__getattribute__" != "object.__getattribute__") = true then _ else _) Q E s
  rw [canon_list_getattribute, if_neg Bool.false_ne_true]
  refine wpAny_bind (wpAny_specialOf hT list_getattr_none ?_)
  refine wpAny_bind (wpAny_specialOf hT ext_getattr ?_)
  refine wpAny_bind (wpAny_of_eq ext_type ?_)
  refine wpAny_bind (wpAny_load ho ?_)
  rw [hd]
  exact wpAny_bind (wpAny_rule (wpAny_pure h))
theorem call_extend {o elt : Expr} {apos pos : Pos} {Q : Value → Shared → Prop}
    (hbase : attributeBase o (Str.ofString "extend") env (eval o env) = eval o env)
    (hfew : ((backTo pos (starEach [elt] env)).all (fun x => !x.1) && (backToKw pos (keywordEach [] env)).all (fun x => x.1.isSome)
      && decide (([elt] : List Expr).length + ([] : List Keyword).length + (if ([] : List Keyword).isEmpty then 0 else 1) < 30)) = true)
    (hline : (apos.endLine == pos.line) = true)
    (htrees : backTo pos (starEach [elt] env) = [(false, eval elt env)])
    (h : wpAny (model prog w) A (eval o env) (fun ov s₁ => ∃ D ob, ov = .ref D ∧ s₁.heap.get? D = some ob ∧ ob.cls = .type "list" ∧ ob.dict = none ∧
      wpAny (model prog w) A (eval elt env) (fun y s₂ => wpAny (model prog w) A (call (.builtin "list.extend") [.ref D, y]) Q E s₂) E s₁) E s) :
    wpAny (model prog w) A (eval (.Call (.Attribute o (Str.ofString "extend") apos) [elt] [] pos) env) Q E s := by
  rw [arm_eval_Call, hbase]
  refine wpAny_bind (wpAny_mono h (fun ov s₁ h₁ => ?_) fun _ _ e => e)
  obtain ⟨D, ob, rfl, hob, hc, hd, hcall⟩ := h₁
  refine wpAny_bind (wpAny_standAt ?_)
  have fin : wpAny (model prog w) A (callWith pos (.builtin "list.extend") [.ref D] (backTo pos (starEach [elt] env)) []) Q E s₁ := by
    rw [htrees]
    exact Calls.callWith_builtin rfl (Calls.evalArgs_plain (Calls.spliced_cons (wpAny_mono hcall (fun y s₂ h₂ => Calls.spliced_nil h₂) fun _ _ e => e)))
  have hform : methodCallForm (([elt] : List Expr).length + ([] : List Keyword).length) (backTo pos (starEach [elt] env)) (backToKw pos (keywordEach [] env)) = true := hfew
  have hpos : methodCallPos true o env apos pos = pure pos := by unfold methodCallPos; simp [hline]
  unfold methodCall
  rw [hform]
  refine wpAny_bind (wpAny_holding (getMethod_ext hob hc hd ?_))
  exact wpAny_bind (wpAny_of_eq hpos fin)
end

section
variable {g : Gl} {b0 : Addr → Prop} {c : Cx} {f : Fm} {A : Around} {s : Shared} {M : Mu} {n : Nat} {r : Ev} {Φ : Phi}

theorem back_one {e : Expr} (h : pl e = true) (env : Env) (pos : Pos) : backTo pos (starEach [e] env) = [(false, eval e env)] := by rw [back_cons h]; rfl
theorem append_ok (S : Snd g n r) (R : Room A n) {x : Str} {xp ap pos p2 : Pos} {a : Expr} {l : List D} {K : KS} (F : Sf g b0 c f s.heap) (m : MuOk g c.sp c.bad s.heap M) (ho : f.own.lookup x = some l) (hn : okN x = true) (hp : pl a = true) (hline : (ap.endLine == pos.line) = true)
    (h : l.length ≤ 100000 ∧ r.E a f M fun d M1 => K .next (f.setO x (l ++ [d])) M1) :
    wpAny (model pw g.w) A (exec (.Expr (.Call (.Attribute (.Name x xp) (Str.ofString "append") ap) [a] [] pos) p2) c.env) (SEnd g b0 c s K) (fun _ _ => False) s := by
  obtain ⟨D0, us, k0, vi, ow, ea, ba, nm, nl, rs⟩ := F.st.own x l ho
  have o := okN_of hn
  refine wpAny_Expr_any (wpAny_Call_append rfl (by rw [back_one hp]; rfl) hline (back_one hp _ _) ?_) (interactive_fn F.st.kind) rfl
  refine var_ok F.st vi o.1 o.2.1 ⟨D0, us.toArray, rfl, ⟨_, k0, ea, rfl, rfl, rfl⟩, ?_⟩
  refine (S.E _ _ _ _ _ _ _ F.st m R h.2).then fun v h1 tk1 d M1 k1 hK rv m1 => ?_
  have ea1 := k1.keep _ _ ea nm
  refine wpAny_list_append_plain (items := us.toArray) ⟨k0, ea1⟩ (fun h2 hpl hs => ?_) (by rw [List.size_toArray, rs.length, sizeLine_eq]; omega)
  obtain ⟨n1, e1⟩ := hpl
  have e2 : h2.get? D0 = some (lstO (us ++ [v]) n1) := by rw [e1]; simp
  obtain ⟨F1, nx1⟩ := F.expr k1
  have kk : ∀ b o, b ≠ D0 → h1.get? b = some o → h2.get? b = some o := fun b o hb e => (hs.2 b hb).trans e
  obtain ⟨nx2, F2, m2⟩ := F1.grow m1 ho (vi.next k1) ow ea1 e2 kk ((rs.up (k1.up F.st.w.mu)).append (.cons rv .nil))
  exact ⟨h2, tk1, c, _, M1, rfl, nx1.trans nx2, F2, m2, hK⟩
theorem extend_ok (S : Snd g n r) (R : Room A n) {x : Str} {xp ap pos p2 : Pos} {a : Expr} {l : List D} {K : KS} (F : Sf g b0 c f s.heap) (m : MuOk g c.sp c.bad s.heap M) (ho : f.own.lookup x = some l) (hn : okN x = true) (hp : pl a = true) (hline : (ap.endLine == pos.line) = true)
    (h : l.length ≤ 100000 ∧ r.E a f M fun d M1 => match d with | .lst l2 => l2.length ≤ 100000 ∧ K .next (f.setO x (l ++ l2)) M1 | _ => False) :
    wpAny (model pw g.w) A (exec (.Expr (.Call (.Attribute (.Name x xp) (Str.ofString "extend") ap) [a] [] pos) p2) c.env) (SEnd g b0 c s K) (fun _ _ => False) s := by
  obtain ⟨D0, us, k0, vi, ow, ea, ba, nm, nl, rs⟩ := F.st.own x l ho
  have o := okN_of hn
  refine wpAny_Expr_any (call_extend rfl (by rw [back_one hp]; rfl) hline (back_one hp _ _) ?_) (interactive_fn F.st.kind) rfl
  refine var_ok F.st vi o.1 o.2.1 ⟨D0, _, rfl, ea, rfl, rfl, ?_⟩
  refine (S.E _ _ _ _ _ _ _ F.st m R h.2).then fun v h1 tk1 d M1 k1 hK rv m1 => ?_
  cases d <;> try exact hK.elim
  rename_i l2
  simp only at hK
  refine rv.lst_el fun b ws kb eb nb rs2 => ?_
  have ea1 := k1.keep _ _ ea nm
  have hsz : us.toArray.size + ws.toArray.size ≤ sizeLine := by rw [List.size_toArray, List.size_toArray, rs.length, rs2.length, sizeLine_eq]; omega
  refine call_meets PySem.F.slot_list_extend ⟨_, ea1, rfl⟩ PySem.F.entry_list_extend (PySem.F.args_list_extend_2 _ _) (AutoSeq1.list_extend_list_list_0 D0 us.toArray k0 b ws.toArray kb (extend_door hsz) (Nat.le_trans (Nat.le_add_right _ _) hsz) (Nat.le_succ_of_le hsz)) ⟨ea1, eb, ?_⟩
  have e : us.toArray ++ ws.toArray = (us ++ ws).toArray := by simp
  obtain ⟨h2, hh2⟩ : ∃ h2, h2 = h1.update D0 (Obj.mapSeq fun x => x ++ ws.toArray) := ⟨_, rfl⟩
  rw [← hh2]
  have e2 : ∃ k2, h2.get? D0 = some (lstO (us ++ ws) k2) := by
    rw [hh2]
    exact ⟨_, by rw [Heap.get?_update_self _ ea1 (by rw [mapSeq_app]; rfl), mapSeq_app, e]⟩
  obtain ⟨k2, e2⟩ := e2
  have hs : Heap.SameBut D0 h1 h2 := by rw [hh2]; exact Heap.SameBut.update ..
  obtain ⟨F1, nx1⟩ := F.expr k1
  have kk : ∀ b o, b ≠ D0 → h1.get? b = some o → h2.get? b = some o := fun b o hb e => (hs.2 b hb).trans e
  obtain ⟨nx2, F2, m2⟩ := F1.grow m1 ho (vi.next k1) ow ea1 e2 kk ((rs.up (k1.up F.st.w.mu)).append rs2)
  show SEnd g b0 c s K .next _
  exact ⟨h2, tk1, c, _, M1, rfl, nx1.trans nx2, F2, m2, hK.2⟩
end
end Mine
end

section
set_option backward.match.sparseCases false
open PySem PySem.W PySem.Calls PyProof.Rows
set_option Elab.async false
set_option maxRecDepth 100000
namespace Mine

section
variable {g : Gl} {b0 : Addr → Prop} {c : Cx} {f : Fm} {A : Around} {s : Shared} {M : Mu} {n : Nat} {r : Ev} {Φ : Phi}

theorem items_ok (G : GlOk g) (S : Snd g n r) {t it : Expr} {K : List D → Mu → Prop} {Q : Value → Shared → Prop} {E : Value → Shared → Prop} (X : St g c f s.heap) (m : MuOk g c.sp c.bad s.heap M) (R : Room A n) (h : itemsP r t it f M K)
    (hQ : ∀ h' tk I J b xs M', (b = true → isTup t = true) → (b = false → I = J) → K xs M' → ItNew g c s.heap h' I J b xs M' → Q (.ref I) { s with heap := h', toks := tk }) :
    wpAny (model pw g.w) A (eval it c.env) (fun xv s₁ => wpAny (model pw g.w) A (pyIter xv) Q E s₁) E s ∧ pl it = true := by
  have plain : iterP r it f M K → wpAny (model pw g.w) A (eval it c.env) (fun xv s₁ => wpAny (model pw g.w) A (pyIter xv) Q E s₁) E s ∧ pl it = true := fun h =>
    iterP_ok G S X m R h fun h' tk I xs M' hK itn => hQ h' tk I I false xs M' (fun q => by cases q) (fun _ => rfl) hK itn
  rcases op_inv h with ⟨⟨x, a⟩, hc, h7⟩ | ⟨_, h7⟩
  · clear h
    rcases bl_inv (b := isGI (f.sc.names.lookup x) && (x == Str.ofString "enumerate" && (isTup t && pl a))) h7 with ⟨hx, h⟩ | ⟨_, h⟩
    · clear h7 plain
      obtain ⟨xp, pos, rfl⟩ := call1_inv hc
      clear hc
      simp only [Bool.and_eq_true] at hx
      obtain ⟨hk, hx1, hx2, hx3⟩ := hx
      have hk := isGI_inv hk
      obtain rfl := eq_of_beq hx1
      refine ⟨?_, rfl⟩
      show wpAny _ _ (do callWith pos (← eval (.Name (Str.ofString "enumerate") xp) c.env) [] (backTo pos (starEach [a] c.env)) []) _ _ _
      refine wpAny_bind ?_
      refine blt_ok G X hk (by decide +kernel) (by decide +kernel) (G.free _ (by simp)) (v := .type "enumerate") (by decide +kernel) ?_
      refine callW_machine (by rw [List.all_cons, hx3]; rfl) rfl ?_
      rw [back_cons hx3]
      refine spliced_cons ((S.E _ _ _ _ _ _ _ X m R h).then fun v h1 tk1 d M1 k1 h2 rv m1 => spliced_nil ?_)
      obtain ⟨l, rfl, h2⟩ := tup_inv (Q := fun l => l.length ≤ 100000 ∧ K (enumFrom 0 l) M1) h2
      refine rv.tup_el fun ax vs n0 e nb rs => ?_
      refine call_enum_tup e fun h3 he hi hz kk => ?_
      refine wpAny_pyIter_enum he ?_
      have nJ1 := get_size h1
      have nI1 : h1.get? (h1.objs.size + 1) = none := by
        cases q : h1.get? (h1.objs.size + 1) with
        | none => rfl
        | some o => exact (Nat.lt_irrefl _ (Nat.lt_of_succ_lt (Heap.lt_size q))).elim
      refine hQ h3 tk1 (h1.objs.size + 1) h1.objs.size true _ M1 (fun _ => hx2) (fun q => by cases q) h2.2 ⟨k1.trans (.of_keep kk), none_of_alive k1.alive nI1, none_of_alive k1.alive nJ1, ⟨_, he⟩, ?_, fun bad' hb => ?_, fun bad' hb => ?_⟩
      · obtain ⟨o, e, _⟩ := hi; exact ⟨o, e⟩
      · exact m1.up kk ⟨fun b o e _ => kk b o e, fun b o e q => hb b o (fun z => by rw [z, nI1] at e; cases e) (fun z => by rw [z, nJ1] at e; cases e) (kk b o e) q⟩
      · have u : Up c.bad bad' h1 h3 := ⟨fun b o e _ => kk b o e, fun b o e q => hb b o (fun z => by rw [z, nI1] at e; cases e) (fun z => by rw [z, nJ1] at e; cases e) (kk b o e) q⟩
        exact .enm (i := 0) (Nat.succ_ne_self _) (Nat.zero_le _) he hi (kk _ _ e) (u.no e nb) (by simpa using rs.up u)
    · exact plain h
  · exact plain h7

/-- private addresses, new since h -/
noncomputable abbrev Cx.with (c : Cx) (P : Addr → Prop) : Cx := { c with bad := fun b => c.bad b ∨ P b }
theorem Sf.privP {h h' : Heap} {P : Addr → Prop} (F : Sf g b0 c f h) (k : Kp c.sp h h') (fr : ∀ a, P a → h.get? a = none) (al : ∀ a, P a → ∃ o, h'.get? a = some o) : Sf g (fun b => b0 b ∨ P b) (c.with P) f h' := by
  have u : Up c.bad (c.with P).bad h h' := ⟨fun b o e n => k.keep b o e fun q => n (F.st.w.mu b q), fun b o e q => q.elim id fun z => by rw [fr b z] at e; cases e⟩
  have Y := F.st.next k
  refine ⟨{
    w := ⟨Y.w.base, fun b q => q.elim (Y.w.al b) (al b), fun b q => .inl (F.st.w.mu b q), fun b q => q.elim (F.st.w.muHb b) fun z => (by
      cases e2 : g.hb.get? b with
      | none => rfl
      | some o => have := F.st.w.base b o e2; rw [fr b z] at this; cases this), F.st.w.s1, F.st.w.s2⟩
    kind := F.st.kind
    glob := F.st.glob
    blt := F.st.blt
    ns := Y.ns
    nL := F.st.nL
    gl := F.st.gl
    lo := F.st.lo
    ce := F.st.ce
    loc := fun y d e => let ⟨v, p, q⟩ := F.st.loc y d e; ⟨v, p.next k, q.up u⟩
    own := fun y l e => let ⟨b, vs, n, p, q, r, s, t, u', z⟩ := F.st.own y l e; ⟨b, vs, n, p.next k, q, k.keep _ _ r t, .inl s, t, u', z.up u⟩ },
    fun a => ?_, fun a q z => ?_, F.inj, .inl F.bL, fun a q => .inl (F.mb a q)⟩
  · show (c.bad a ∨ P a) ↔ (b0 a ∨ P a) ∨ Own c a
    rw [F.hb a]
    constructor
    · rintro ((q | q) | q)
      · exact .inl (.inl q)
      · exact .inr q
      · exact .inl (.inr q)
    · rintro ((q | q) | q)
      · exact .inl (.inl q)
      · exact .inr q
      · exact .inl (.inr q)
  · rcases z with z | z
    · exact F.nb a q z
    · obtain ⟨o, e⟩ := F.st.w.al a ((F.hb a).mpr (.inr q))
      rw [fr a z] at e; cases e
/-- private things change, and are given up -/
structure Pv (g : Gl) (b0 : Addr → Prop) (c : Cx) (h : Heap) (P : Addr → Prop) : Prop where
  nc : ∀ a, P a → ∃ o, h.get? a = some o ∧ ∀ v, o.data ≠ .cell v
  nb : ∀ a, P a → ¬ b0 a
  nh : ∀ a, P a → g.hb.get? a = none
theorem Sf.unprivP {h h' : Heap} {P : Addr → Prop} (F : Sf g (fun b => b0 b ∨ P b) c f h) (pv : Pv g b0 c h P) (bL : b0 c.env.locals) (mb : ∀ a, c.sp.mu a → b0 a) (kk : ∀ b o, ¬ P b → h.get? b = some o → h'.get? b = some o) :
    Sf g b0 { c with bad := fun b => b0 b ∨ Own c b } f h' ∧ Up c.bad (fun b => b0 b ∨ Own c b) h h' := by
  have np : ∀ b, (b0 b ∨ Own c b) → ¬ P b := fun b q z => q.elim (pv.nb b z) fun w => F.nb b w (.inr z)
  have sub : ∀ b, (b0 b ∨ Own c b) → c.bad b := fun b q => (F.hb b).mpr (q.elim (fun z => .inl (.inl z)) .inr)
  have u : Up c.bad (fun b => b0 b ∨ Own c b) h h' := ⟨fun b o e n => kk b o (fun q => n ((F.hb b).mpr (.inl (.inr q)))) e, fun b _ _ q => sub b q⟩
  have nc : ∀ {b : Addr} {u : Option Value}, h.IsCell b u → h'.IsCell b u := fun {b u} ⟨o', e, d⟩ => ⟨o', kk _ _ (fun q => by
    obtain ⟨o, e2, hn⟩ := pv.nc b q
    rw [e2] at e; cases e; exact hn _ d) e, d⟩
  have vk : ∀ {y u}, VarIs c h y u → VarIs c h' y u := fun q => q.imp id fun ⟨x, b, e, n, z⟩ => ⟨x, b, e, n, nc z⟩
  refine ⟨⟨{
    w := ⟨fun b o e => kk b o (fun q => by rw [pv.nh b q] at e; cases e) (F.st.w.base b o e), fun b q => let ⟨o, e⟩ := F.st.w.al b (sub b q); ⟨o, kk b o (np b q) e⟩, fun b q => .inl (mb b q), fun b q => F.st.w.muHb b (sub b q), F.st.w.s1, F.st.w.s2⟩
    kind := F.st.kind
    glob := F.st.glob
    blt := F.st.blt
    ns := let ⟨o, es, ep, e, q⟩ := F.st.ns; ⟨o, es, ep, kk _ _ (np _ (.inl bL)) e, q⟩
    nL := F.st.nL
    gl := F.st.gl
    lo := F.st.lo
    ce := F.st.ce
    loc := fun y d e => let ⟨v, p, q⟩ := F.st.loc y d e; ⟨v, vk p, q.up u⟩
    own := fun y l e => let ⟨b, vs, n, p, q, r, s, t, u', z⟩ := F.st.own y l e; ⟨b, vs, n, vk p, q, kk _ _ (np b (.inr ⟨y, q⟩)) r, .inr ⟨y, q⟩, t, u', z.up u⟩ },
    fun _ => Iff.rfl, fun a q z => F.nb a q (.inl z), F.inj, bL, mb⟩, u⟩
theorem Sf.touch {h h' : Heap} {P : Addr → Prop} (F : Sf g (fun b => b0 b ∨ P b) c f h) (pv : Pv g b0 c h P) (bL : b0 c.env.locals) (al : ∀ a, P a → ∃ o, h'.get? a = some o) (kk : ∀ b o, ¬ P b → h.get? b = some o → h'.get? b = some o) :
    Sf g (fun b => b0 b ∨ P b) c f h' ∧ Up c.bad c.bad h h' := by
  have npo : ∀ b, (b0 b ∨ Own c b) → ¬ P b := fun b q z => q.elim (pv.nb b z) fun w => F.nb b w (.inr z)
  have u : Up c.bad c.bad h h' := ⟨fun b o e n => kk b o (fun q => n ((F.hb b).mpr (.inl (.inr q)))) e, fun _ _ _ q => q⟩
  have nc : ∀ {b : Addr} {u : Option Value}, h.IsCell b u → h'.IsCell b u := fun {b u} ⟨o', e, d⟩ => ⟨o', kk _ _ (fun q => by
    obtain ⟨o, e2, hn⟩ := pv.nc b q
    rw [e2] at e; cases e; exact hn _ d) e, d⟩
  have vk : ∀ {y u}, VarIs c h y u → VarIs c h' y u := fun q => q.imp id fun ⟨x, b, e, n, z⟩ => ⟨x, b, e, n, nc z⟩
  refine ⟨⟨{
    w := ⟨fun b o e => kk b o (fun q => by rw [pv.nh b q] at e; cases e) (F.st.w.base b o e), fun b q => by
        rcases (F.hb b).mp q with (z | z) | z
        · obtain ⟨o, e⟩ := F.st.w.al b q; exact ⟨o, kk b o (npo b (.inl z)) e⟩
        · exact al b z
        · obtain ⟨o, e⟩ := F.st.w.al b q; exact ⟨o, kk b o (npo b (.inr z)) e⟩, F.st.w.mu, F.st.w.muHb, F.st.w.s1, F.st.w.s2⟩
    kind := F.st.kind
    glob := F.st.glob
    blt := F.st.blt
    ns := let ⟨o, es, ep, e, q⟩ := F.st.ns; ⟨o, es, ep, kk _ _ (npo _ (.inl bL)) e, q⟩
    nL := F.st.nL
    gl := F.st.gl
    lo := F.st.lo
    ce := F.st.ce
    loc := fun y d e => let ⟨v, p, q⟩ := F.st.loc y d e; ⟨v, vk p, q.up u⟩
    own := fun y l e => let ⟨b, vs, n, p, q, r, s, t, u', z⟩ := F.st.own y l e; ⟨b, vs, n, vk p, q, kk _ _ (npo b (.inr ⟨y, q⟩)) r, s, t, u', z.up u⟩ },
    F.hb, F.nb, F.inj, F.bL, F.mb⟩, u⟩
theorem Itr.noCellJ {sp : Sp} {bad : Addr → Prop} {h : Heap} {I J : Addr} {b : Bool} {xs : List D} (it : Itr g sp bad h I J b xs) : b = true → ∃ o, h.get? J = some o ∧ ∀ v, o.data ≠ .cell v := by
  intro hb
  cases it with
  | lst _ _ _ _ => cases hb
  | tup _ _ _ _ => cases hb
  | rng _ => cases hb
  | enm _ _ _ a _ _ _ => obtain ⟨o, e, _, d⟩ := a; exact ⟨o, e, fun v q => by rw [d] at q; cases q⟩
theorem Itr.eqJ {sp : Sp} {bad : Addr → Prop} {h : Heap} {I J : Addr} {b : Bool} {xs : List D} (it : Itr g sp bad h I J b xs) (hj : b = false → I = J) : ∃ o, h.get? J = some o ∧ ∀ v, o.data ≠ .cell v := by
  cases b with
  | true => exact it.noCellJ rfl
  | false => exact hj rfl ▸ it.noCell
end
end Mine
end

section
set_option backward.match.sparseCases false
open PySem PySem.W PySem.Calls PyProof.Rows
set_option Elab.async false
set_option maxRecDepth 100000
namespace Mine

section
variable {g : Gl} {b0 : Addr → Prop} {c : Cx} {f : Fm} {A : Around} {s : Shared} {M : Mu} {n : Nat} {r : Ev} {Φ : Phi}

/-- a block is as P says -/
noncomputable def BlkOk (g : Gl) (A : Around) (t : Env → Sem Flow) (P : Fm → Mu → KS → Prop) : Prop :=
  ∀ (b0 : Addr → Prop) (c : Cx) (f : Fm) (s : Shared) (M : Mu) (K : KS), Sf g b0 c f s.heap → MuOk g c.sp c.bad s.heap M → P f M K → wpAny (model pw g.w) A (t c.env) (SEnd g b0 c s K) (fun _ _ => False) s

inductive FInv (g : Gl) (b0 : Addr → Prop) (c : Cx) (s : Shared) (P0 : Addr → Prop) (t : Expr) (P : Fm → Mu → KS → Prop) (K : KS) (I J : Addr) (b : Bool) (k : Nat) (s' : Shared) : Prop
  | mk (h' : Heap) (tk : Nat) (xs : List D) (f' : Fm) (M' : Mu) (c' : Cx) (e : s' = { s with heap := h', toks := tk }) (hk : k = xs.length) (hK : forP t P xs f' M' K) (F : Sf g (fun b => b0 b ∨ P0 b) c' f' h') (m : MuOk g c'.sp c'.bad h' M') (nx : Nx b0 c s.heap c' h') (it : Itr g c'.sp c'.bad h' I J b xs)
@[elab_as_elim] theorem FInv.el {P0 : Addr → Prop} {t : Expr} {P : Fm → Mu → KS → Prop} {K : KS} {I J : Addr} {b : Bool} {G : Nat → Shared → Prop} {k : Nat} {s' : Shared} (h : FInv g b0 c s P0 t P K I J b k s')
    (e : ∀ (h' : Heap) (tk : Nat) (xs : List D) (f' : Fm) (M' : Mu) (c' : Cx), forP t P xs f' M' K → Sf g (fun b => b0 b ∨ P0 b) c' f' h' → MuOk g c'.sp c'.bad h' M' → Nx b0 c s.heap c' h' → Itr g c'.sp c'.bad h' I J b xs → G xs.length { s with heap := h', toks := tk }) : G k s' := by
  cases h with
  | mk h' tk xs f' M' c' es ek hK F m nx it => subst es ek; exact e h' tk xs f' M' c' hK F m nx it

theorem for_ok (G : GlOk g) (S : Snd g n r) (R : Room A n) {t it : Expr} {body : List Stmt} {pos : Pos} {P : Fm → Mu → KS → Prop} {K : KS} (hB : BlkOk g A (execs body) P) (F : Sf g b0 c f s.heap) (m : MuOk g c.sp c.bad s.heap M)
    (h : itemsP r t it f M fun xs M1 => forP t P xs f M1 K) : wpAny (model pw g.w) A (exec (.For t it body [] pos) c.env) (SEnd g b0 c s K) (fun _ _ => False) s := by
  have plit := (items_ok (E := fun _ _ => False) G S F.st m R h (Q := fun _ _ => True) (fun _ _ _ _ _ _ _ _ _ _ _ => trivial)).2
  refine wpAny_For (items_ok G S F.st m R h fun h1 tk1 I J b xs M1 hb hj hK itn => ?_).1 (pl_folded plit c.env)
  let P0 : Addr → Prop := fun a => a = I ∨ a = J
  have frP : ∀ a, P0 a → s.heap.get? a = none := fun a q => q.elim (fun z => z ▸ itn.nI) fun z => z ▸ itn.nJ
  have F1 : Sf g (fun b => b0 b ∨ P0 b) (c.with P0) f h1 := F.privP itn.kp frP fun a q => q.elim (fun z => z ▸ itn.lI) fun z => z ▸ itn.lJ
  have hbb : ∀ a o, a ≠ I → a ≠ J → h1.get? a = some o → (c.with P0).bad a → c.bad a := fun a o n1 n2 _ q => q.elim id fun z => (z.elim n1 n2).elim
  have bfr : ∀ a, P0 a → ¬ b0 a := fun a q z => by
    obtain ⟨o, e⟩ := F.st.w.al a ((F.hb a).mpr (.inl z))
    rw [frP a q] at e; cases e
  have hfr : ∀ a, P0 a → g.hb.get? a = none := fun a q => by
    cases e2 : g.hb.get? a with
    | none => rfl
    | some o => have := F.st.w.base a o e2; rw [frP a q] at this; cases this
  refine codeAny_forLoop_any (FInv g b0 c s P0 t P K I J b) (fun k s' hI => ?_) xs.length
    ⟨h1, tk1, xs, f, M1, c.with P0, rfl, rfl, hK, F1, itn.mu _ hbb, ⟨rfl, rfl, fun a o e n1 _ _ => itn.kp.keep a o e n1, itn.kp.alive, fun a q => .inl q⟩, itn.it _ hbb⟩
  clear hK itn
  refine hI.el fun h0 tk0 xs f0 M0 c0 hK F0 m0 n0 it0 => ?_
  clear hI
  have bL0 : b0 c0.env.locals := by rw [n0.env]; exact F.bL
  have mb0 : ∀ a, c0.sp.mu a → b0 a := fun a q => F.mb a (by rw [← n0.sp]; exact q)
  have pv0 : Pv g b0 c0 h0 P0 := ⟨fun a q => q.elim (fun z => z ▸ it0.noCell) fun z => z ▸ it0.eqJ hj, bfr, hfr⟩
  have nmP : ∀ a, P0 a → ¬ c0.sp.mu a := fun a q z => bfr a q (mb0 a z)
  have nlP : ∀ a, P0 a → a ≠ c0.env.locals := fun a q z => bfr a q (z ▸ bL0)
  have bI : c0.bad I := (F0.hb I).mpr (.inl (.inr (.inl rfl)))
  have bJ : c0.bad J := (F0.hb J).mpr (.inl (.inr (.inr rfl)))
  cases xs with
  | nil =>
    refine it0.stop (s := { s with heap := h0, toks := tk0 }) R.2.2 fun h2 k2 => wpAny_execs_nil ?_
    have kk : ∀ b o, ¬ P0 b → h0.get? b = some o → h2.get? b = some o := fun b o q e => k2 b o (fun z => q (.inl z)) (fun z => q (.inr z)) e
    obtain ⟨F2, u2⟩ := F0.unprivP pv0 bL0 mb0 kk
    refine ⟨h2, tk0, { c0 with bad := fun b => b0 b ∨ Own c0 b }, f0, M0, rfl, ⟨n0.sp, n0.env, fun a o e n1 n2 n3 => kk a o (fun q => by rw [frP a q] at e; cases e) (n0.keep a o e n1 n2 n3), fun a o e => ?_, n0.own⟩, F2, m0.up2 (fun b o q e => kk b o (fun z => nmP b z q) e) u2, hK⟩
    obtain ⟨o', e'⟩ := n0.alive a o e
    exact ⟨o', kk a o' (fun q => by rw [frP a q] at e; cases e) e'⟩
  | cons x xs =>
    rw [forP] at hK
    simp only [forceF_eq] at hK
    refine it0.next (s := { s with heap := h0, toks := tk0 }) F0.st.w.al bI bJ R.2.2 fun v h2 tk2 rv ito k2 => ?_
    refine ito.go (s := { s with heap := h2, toks := tk2 }) bI hb fun h3 it3 k3 => ?_
    have kk : ∀ b o, ¬ P0 b → h0.get? b = some o → h3.get? b = some o := fun b o q e => k3 b o (fun z => q (.inl z)) (k2 b o (fun z => q (.inl z)) (fun z => q (.inr z)) e)
    have lI3 := it3.liveI
    have lJ3 : ∃ o, h3.get? J = some o := let ⟨o, e, _⟩ := it3.eqJ hj; ⟨o, e⟩
    obtain ⟨F3, u3⟩ := F0.touch pv0 bL0 (fun a q => q.elim (fun z => z ▸ lI3) fun z => z ▸ lJ3) kk
    have n3 : Nx b0 c s.heap c0 h3 := ⟨n0.sp, n0.env, fun a o e n1 n2 n3 => kk a o (fun q => by rw [frP a q] at e; cases e) (n0.keep a o e n1 n2 n3), fun a o e => by
      obtain ⟨o', e'⟩ := n0.alive a o e
      exact ⟨o', kk a o' (fun q => by rw [frP a q] at e; cases e) e'⟩, n0.own⟩
    have rv3 : Rep g c0.sp c0.bad h3 v x := rv.up ⟨fun b o e n => k3 b o (fun q => n (q ▸ bI)) e, fun _ _ _ q => q⟩
    have m3 : MuOk g c0.sp c0.bad h3 M0 := m0.up2 (fun b o q e => kk b o (fun z => nmP b z q) e) u3
    rw [← n0.env]
    refine wpAny_mono ((bind_ok R.2.2 8).1 t x c0 f0 { s with heap := h3, toks := tk2 } v _ F3.st F3.cL rv3 hK) (fun _ s' hq => ?_) fun _ _ x => x.elim
    refine (Sf.bound F3 m3 hq).el fun h4 tk4 c4 f4 hK4 n4 F4 m4 => ?_
    clear hq
    have hb4 : ∀ a, c4.bad a ↔ (b0 a ∨ P0 a) ∨ Own c4 a := F4.hb
    have u4 := n4.up F3 hb4
    have keepP : ∀ {c1 c2 : Cx} {ha hb : Heap} {f1 : Fm}, Sf g (fun b => b0 b ∨ P0 b) c1 f1 ha → c1.sp = c0.sp → c1.env = c0.env → Nx (fun b => b0 b ∨ P0 b) c1 ha c2 hb → ∀ a, P0 a → ∀ o, ha.get? a = some o → hb.get? a = some o := fun {c1 c2 ha hb f1} F1 e1 e2 n a q o e =>
      n.keep a o e (by rw [e1]; exact nmP a q) (by rw [e2]; exact nlP a q) fun z => F1.nb a z (.inr q)
    have it4 : Itr g c4.sp c4.bad h4 I J b xs := by
      rw [n4.sp]
      exact it3.up u4 (fun o e => keepP F3 rfl rfl n4 I (.inl rfl) o e) (fun o e => keepP F3 rfl rfl n4 J (.inr rfl) o e)
    rw [← n4.env]
    refine wpAny_mono (hB _ c4 f4 { s with heap := h4, toks := tk4 } M0 _ F4 m4 hK4) (fun fl s' hq => ?_) fun _ _ x => x.elim
    refine SEnd.el hq fun h5 tk5 c5 f5 M5 n5 F5 m5 hf => ?_
    clear hq
    have nn : Nx b0 c s.heap c5 h5 := by
      have h34 : Nx b0 c0 h3 c4 h4 := ⟨n4.sp, n4.env, n4.keep, n4.alive, n4.own⟩
      have h45 : Nx b0 c4 h4 c5 h5 := ⟨n5.sp, n5.env, n5.keep, n5.alive, n5.own⟩
      exact (n3.trans h34).trans h45
    have it5 : Itr g c5.sp c5.bad h5 I J b xs := by
      rw [n5.sp]
      exact it4.up (n5.up F4 F5.hb) (fun o e => keepP F4 n4.sp n4.env n5 I (.inl rfl) o e) (fun o e => keepP F4 n4.sp n4.env n5 J (.inr rfl) o e)
    cases fl with
    | next => exact ⟨xs.length, by simp, h5, tk5, xs, f5, M5, c5, rfl, rfl, hf, F5, m5, nn, it5⟩
    | ret v =>
      obtain ⟨d, rv5, hK5⟩ := hf
      have bL5 : b0 c5.env.locals := by rw [nn.env]; exact F.bL
      have mb5 : ∀ a, c5.sp.mu a → b0 a := fun a q => F.mb a (by rw [← nn.sp]; exact q)
      have pv5 : Pv g b0 c5 h5 P0 := ⟨fun a q => q.elim (fun z => z ▸ it5.noCell) fun z => z ▸ it5.eqJ hj, bfr, hfr⟩
      obtain ⟨F6, u6⟩ := F5.unprivP pv5 bL5 mb5 (fun _ _ _ e => e)
      exact ⟨h5, tk5, { c5 with bad := fun b => b0 b ∨ Own c5 b }, f5, M5, rfl, ⟨nn.sp, nn.env, nn.keep, nn.alive, nn.own⟩, F6, m5.up (fun _ _ e => e) u6, d, rv5.up u6, hK5⟩
    | brk => exact hf.elim
    | cont => exact hf.elim
end
end Mine
end

section
set_option backward.match.sparseCases false
open PySem PySem.W PySem.Calls PyProof.Rows
set_option Elab.async false
set_option maxRecDepth 100000
namespace Mine

section
variable {g : Gl} {b0 : Addr → Prop} {c : Cx} {f : Fm} {A : Around} {s : Shared} {M : Mu} {n : Nat} {r : Ev} {Φ : Phi}

theorem slice_assign_ok (S : Snd g n r) (R : Room A n) {x : Str} {p pos lp sp2 p3 : Pos} {es : List Expr} {e : Expr} {K : KS} (F : Sf g b0 c f s.heap) (m : MuOk g c.sp c.bad s.heap M) (hx : f.sc.names.lookup x = some .local) (hl : plAll es = true)
    (h : allE r es f M fun ds M1 => r.E e f M1 fun d M2 => (match d with | .int k => (0 ≤ k ∧ k ≤ ds.length) ∧ K .next (f.setO x (ds.take k.toNat)) M2 | _ => False)) :
    wpAny (model pw g.w) A (exec (.Assign [.Name x p] (.Subscript (.List es lp) (.Slice none (some e) none sp2) p3) pos) c.env) (SEnd g b0 c s K) (fun _ _ => False) s := by
  refine wpAny_Assign_Name (Subscript_ (List_ ((all_ok S lp R (plAll_all hl).1 F.st m h).then fun us h1 tk1 ds M1 k1 h1' rs m1 => ?_))) rfl
  refine wpAny_newList ?_ (by have := (plAll_all hl).2; rw [rs.2, sizeLine_eq]; omega)
  have rv := new_lst (n := 0) (F.st.w.next k1) rs.1
  have kk1 : Kp c.sp s.heap (h1.push (lstO us 0)) := k1.trans (.push _ _)
  refine wpAny_Slice (wpAny_pure ?_)
  refine (S.E e c f A { s with heap := h1.push (lstO us 0), toks := tk1 } M1 _ (F.st.next kk1) (m1.keep (push_keep _ _)) R h1').then fun v h2 tk2 d M2 k2 hd rk m2 => wpAny_pure ?_
  obtain ⟨k, ek, hd7⟩ := int_inv (Q := fun k => (0 ≤ k ∧ k ≤ ds.length) ∧ K .next (f.setO x (ds.take k.toNat)) M2) hd
  clear hd
  have hd := hd7
  clear hd7
  subst ek
  refine rk.int_el fun t => ?_
  obtain ⟨a, vs, n0, hra, ea, nb, rs2⟩ := (rv.up (k2.up F.st.w.mu)).inv_lst
  cases hra
  have elen : vs.length = ds.length := rs2.length
  obtain ⟨j, rfl⟩ : ∃ j : Nat, k = (j : Int) := ⟨k.toNat, by omega⟩
  have hj : j ≤ vs.length := by have := hd.1.2; omega
  have es1 : ∀ o, (h2.push o).get? h1.objs.size = some (lstO vs n0) := fun o => push_keep _ _ _ _ ea
  refine tail_any (ops := [.ref h2.objs.size, .ref h1.objs.size]) (isL_of (es1 _)).typeIs slot_list_getitem.lookup (wpAny_getItem_list_slice (isL_of (es1 _)) (Heap.IsSliceOf.new _ _ _ _) .none (.int _ t) .none (by decide) ?_ (by rw [List.size_toArray, elen]; have := rs.2; have := rs.1.length; have := (plAll_all hl).2; rw [sizeLine_eq]; omega)) rfl
  rw [slicePick_upto vs.toArray j (by simpa using hj)]
  generalize ({ cls := .type "slice", data := .fields #[.none, .int (j : Int) t, .none] } : Obj) = so
  have etake : (List.take j vs.toArray.toList).toArray = (vs.take j).toArray := by simp
  rw [etake]
  have kk3 : Kp c.sp s.heap (h2.push so) := (kk1.trans k2).trans (.push _ _)
  have ha := get_size (h2.push so)
  have eA : ((h2.push so).push (lstO (vs.take j) 0)).get? (h2.push so).objs.size = some (lstO (vs.take j) 0) := Heap.get?_push_size _ rfl
  have X3 : St g (c.priv (h2.push so).objs.size) f ((h2.push so).push (lstO (vs.take j) 0)) := (F.st.next kk3).priv ha eA (push_keep _ _)
  have u : Up c.bad (c.priv (h2.push so).objs.size).bad (h2.push so) ((h2.push so).push (lstO (vs.take j) 0)) := up_priv ha (push_keep _ _)
  have hjn : ((j : Int)).toNat = j := by omega
  rw [hjn] at hd
  refine own_store (s := { s with heap := (h2.push so).push (lstO (vs.take j) 0), toks := tk2 }) F X3 ((m2.keep (push_keep _ _)).up (push_keep _ _) u) hx (kk3.trans (.push _ _)) (none_of_alive kk3.alive ha) eA (((rs2.take j).keep (push_keep _ _)).up u) fun h' tk c' n1 F1 m3 => ?_
  exact ⟨h', tk, c', _, M2, rfl, n1, F1, m3, hd.2⟩

theorem swaps_some (v : Expr) (x : Str) (p : Pos) (line : Nat) (env : Env) : (swapsWith v (some (.Name x p)) line env = pure false) ∨ (swapsWith v (some (.Name x p)) line env = pure true ∧ ((∃ a b c d, v = .ListComp a b c d) ∨ (∃ a b c d, v = .SetComp a b c d) ∨ ∃ a b c d e, v = .DictComp a b c d e)) := by
  cases v
  case ListComp a b c d =>
    cases q : (env.blockKind == .function && env.kindOf x == some .local && p.line == (Expr.ListComp a b c d).pos.line && !(c.names.any fun (n, k) => n == x && (k == .local || k == .cell))) with
    | false => exact .inl (by show pure _ = _; rw [q])
    | true => exact .inr ⟨by show pure _ = _; rw [q], .inl ⟨_, _, _, _, rfl⟩⟩
  case SetComp a b c d =>
    cases q : (env.blockKind == .function && env.kindOf x == some .local && p.line == (Expr.SetComp a b c d).pos.line && !(c.names.any fun (n, k) => n == x && (k == .local || k == .cell))) with
    | false => exact .inl (by show pure _ = _; rw [q])
    | true => exact .inr ⟨by show pure _ = _; rw [q], .inr (.inl ⟨_, _, _, _, rfl⟩)⟩
  case DictComp a b c d e =>
    cases q : (env.blockKind == .function && env.kindOf x == some .local && p.line == (Expr.DictComp a b c d e).pos.line && !(d.names.any fun (n, k) => n == x && (k == .local || k == .cell))) with
    | false => exact .inl (by show pure _ = _; rw [q])
    | true => exact .inr ⟨by show pure _ = _; rw [q], .inr (.inr ⟨_, _, _, _, _, rfl⟩)⟩
  all_goals exact .inl rfl
theorem drops_none {v : Expr} (h : notComp v = true) (line : Nat) (env : Env) : swapsWith v none line env = pure false := by cases v <;> first | rfl | exact fa_tr h
theorem sole_tuple (v : Expr) (ts : List Expr) (k : Nat) (p : Pos) (line : Nat) (env : Env) : swapsWithSole [.Tuple ts k p] v line env = pure false := by cases v <;> rfl
theorem stores_none {v : Expr} (h : ∀ es k p, v ≠ .Tuple es k p) (ts : List Expr) (k : Nat) (p : Pos) (env : Env) : swappedStores [.Tuple ts k p] v env = pure none := by
  cases v <;> first | rfl | exact (h _ _ _ rfl).elim
theorem stores_many {ts es : List Expr} {k k2 : Nat} {p p2 : Pos} {env : Env} (h : 3 < ts.length) : swappedStores [.Tuple ts k p] (.Tuple es k2 p2) env = pure none := by
  unfold swappedStores
  have : (ts.length == 2 || ts.length == 3) = false := by
    rw [Bool.or_eq_false_iff]
    exact ⟨beq_eq_false_iff_ne.mpr (by omega), beq_eq_false_iff_ne.mpr (by omega)⟩
  simp only [this, Bool.not_false, Bool.true_or, if_true]

theorem src_inv {sp bad h} {v : Value} (rv : Rep g sp bad h v .src) : ∃ a, v = .ref a ∧ sp.sa = some a := rv.src_el fun a e => ⟨a, rfl, e⟩
theorem swaps_not {v t : Expr} (h : notComp v = true) (line : Nat) (env : Env) : swapsWith v (some t) line env = pure false := by cases v <;> first | rfl | exact fa_tr h
theorem srcTo_inv {k z : Int} (h : srcTo k z) : (k = 0 ∧ 0 ≤ z) ∨ (k = 1 ∧ 0 ≤ z ∧ z < 2147483647) := by
  cases k with
  | negSucc _ => exact False.elim h
  | ofNat j =>
    cases j with
    | zero => exact .inl ⟨rfl, h⟩
    | succ j =>
      cases j with
      | zero => exact .inr ⟨rfl, h⟩
      | succ _ => exact False.elim h
/-- source[k] = v -/
theorem src_store_ok (S : Snd g n r) (R : Room A n) {x : Str} {xp p2 p3 pos : Pos} {k : Int} {ck : Nat} {v : Expr} {K : KS} (F : Sf g b0 c f s.heap) (m : MuOk g c.sp c.bad s.heap M) (hn : okN x = true) (hl : f.loc.lookup x = some .src) (hv : notComp v = true)
    (h : r.E v f M fun d M1 => match d with | .int z => srcTo k z ∧ K .next f M1 | _ => False) :
    wpAny (model pw g.w) A (exec (.Assign [.Subscript (.Name x xp) (.Constant (.int k) ck p2) p3] v pos) c.env) (SEnd g b0 c s K) (fun _ _ => False) s := by
  refine wpAny_Assign_Subscript ((S.E _ _ _ _ _ _ _ F.st m R h).then fun w h1 tk1 d M1 k1 hK rv m1 => ?_) (swaps_not hv _ _)
  obtain ⟨z, rfl, hz, hK⟩ := int_inv (Q := fun z => srcTo k z ∧ K .next f M1) hK
  refine rv.int_el fun t => ?_
  have X1 := F.st.next k1
  obtain ⟨u, q, ru⟩ := X1.loc x _ hl
  obtain ⟨a, hra, ha⟩ := src_inv ru
  subst hra
  have o := okN_of hn
  obtain ⟨x0, y0, t1, u1, e, ok⟩ := m1.src a ha
  refine var_ok (s := { s with heap := h1, toks := tk1 }) X1 q o.1 o.2.1 (wpAny_Constant_int ?_)
  obtain ⟨F1, nx1⟩ := F.expr k1
  have fin : ∀ h2 tk2 (x1 y1 : Int) t2 u2, h2.IsList a [Value.int x1 t2, .int y1 u2].toArray → SrcOk x1 y1 → (∀ b o, b ≠ a → h1.get? b = some o → h2.get? b = some o) → SEnd g b0 c s K .next { s with heap := h2, toks := tk2 } := fun h2 tk2 x1 y1 t2 u2 e2 ok2 kk => by
    have kp : Kp c.sp h1 h2 := let ⟨o, e3, _⟩ := e2; kp_but (.inl ha) e3 kk
    obtain ⟨F2, nx2⟩ := F1.expr kp
    exact ⟨h2, tk2, c, f, M1, rfl, nx1.trans nx2, F2, m1.srcTo F1.st.w ha e2 ok2 kk, hK⟩
  rcases srcTo_inv hz with ⟨rfl, hz⟩ | ⟨rfl, hz⟩
  · exact wpAny_setItem_list (k := (0 : Nat)) e (by decide) (by decide) (show (0 : Int) < 2 by decide) fun h2 il hs => fin h2 _ z y0 t u1 il ⟨hz, ok.2⟩ fun b o hb e => (hs.2 b hb).trans e
  · exact wpAny_setItem_list (k := (1 : Nat)) e (by decide) (by decide) (show (1 : Int) < 2 by decide) fun h2 il hs => fin h2 _ x0 z t1 t il ⟨ok.1, hz⟩ fun b o hb e => (hs.2 b hb).trans e
/-- x.pairs.append(e) -/
theorem prs_append_ok (G : GlOk g) (S : Snd g n r) (R : Room A n) {x : Str} {xp atp ap pos p2 : Pos} {a : Expr} {K : KS} (F : Sf g b0 c f s.heap) (m : MuOk g c.sp c.bad s.heap M) (hr : isRel (f.loc.lookup x) = true) (hn : okN x = true) (hp : pl a = true) (hline : (ap.endLine == pos.line) = true)
    (h : r.E a f M fun d M1 => M1.prs.length ≤ 10000 ∧ K .next f { M1 with prs := M1.prs ++ [d] }) :
    wpAny (model pw g.w) A (exec (.Expr (.Call (.Attribute (.Attribute (.Name x xp) (Str.ofString "pairs") atp) (Str.ofString "append") ap) [a] [] pos) p2) c.env) (SEnd g b0 c s K) (fun _ _ => False) s := by
  obtain ⟨ks, ds, hl⟩ := isRel_inv hr
  · obtain ⟨v, q, rv⟩ := F.st.loc x _ hl
    obtain ⟨y, D0, u, rfl, hpa, i, rd⟩ := rel_inv rv
    have o := okN_of hn
    obtain ⟨us0, k00, ea0, rs0⟩ := m.prs D0 hpa
    refine wpAny_Expr_any (wpAny_Call_append rfl (by rw [back_one hp]; rfl) hline (back_one hp _ _) ?_) (interactive_fn F.st.kind) rfl
    refine Attribute_name (var_ok F.st q o.1 o.2.1 (get_rel G F.st.w i (relM_pairs _ _) (handed_ref _) (G.noR _ (by simp)) obj_pairs ?_))
    refine ⟨D0, us0.toArray, rfl, ⟨_, k00, ea0, rfl, rfl, rfl⟩, ?_⟩
    refine (S.E _ _ _ _ { s with toks := s.toks + 1 } _ _ F.st m R h).then fun v h1 tk1 d M1 k1 hK rv m1 => ?_
    obtain ⟨us, k0, ea1, rs⟩ := m1.prs D0 hpa
    refine wpAny_list_append_plain (items := us.toArray) ⟨k0, ea1⟩ (fun h2 hpl hs => ?_) (by rw [List.size_toArray, rs.length, sizeLine_eq]; omega)
    obtain ⟨n1, e1⟩ := hpl
    have e2 : h2.get? D0 = some (lstO (us ++ [v]) n1) := by rw [e1]; simp
    have kk : ∀ b o, b ≠ D0 → h1.get? b = some o → h2.get? b = some o := fun b o hb e => (hs.2 b hb).trans e
    obtain ⟨F1, nx1⟩ := F.expr k1
    obtain ⟨F2, nx2⟩ := F1.expr (kp_but (.inr (.inr (.inl hpa))) e2 kk)
    exact ⟨h2, tk1, c, f, _, rfl, nx1.trans nx2, F2, m1.prsTo F1.st.w hpa e2 kk (rs.append (.cons rv .nil)), hK.2⟩

theorem own_any_ok (S : Snd g n r) (R : Room A n) {x : Str} {p pos : Pos} {v : Expr} {K : KS} (F : Sf g b0 c f s.heap) (m : MuOk g c.sp c.bad s.heap M) (hx : f.sc.names.lookup x = some .local) (h : ownP r x v f M fun f1 M1 => K .next f1 M1) :
    wpAny (model pw g.w) A (exec (.Assign [.Name x p] v pos) c.env) (SEnd g b0 c s K) (fun _ _ => False) s := by
  generalize hQ : SEnd g b0 c s K = Q
  generalize hs : s = s'
  cases v with
  | List es _ =>
    subst hs hQ
    exact own_assign_ok S R F m hx (tr_inv (b := plAll es) h).1 (tr_inv (b := plAll es) h).2
  | Subscript l i _ =>
    cases l with
    | List es _ =>
      cases i with
      | Slice a b d _ =>
        cases a with
        | some _ => exact False.elim h
        | none =>
          cases b with
          | none => exact False.elim h
          | some e =>
            cases d with
            | some _ => exact False.elim h
            | none =>
              subst hs hQ
              exact slice_assign_ok S R F m hx (tr_inv (b := plAll es) h).1 (tr_inv (b := plAll es) h).2
      | _ => exact False.elim h
    | _ => exact False.elim h
  | _ => exact False.elim h
theorem assign_ok (G : GlOk g) (P : PhiOk g n Φ) (h1n : 1 ≤ n) (R : Room A n) {ow : List Str} {ts : List Expr} {v : Expr} {pos : Pos} {K : KS} (F0 : Sf g b0 c f s.heap) (m0 : MuOk g c.sp c.bad s.heap M) (h : assignP (ev Φ 30) ow ts v f M fun f1 M1 => K .next f1 M1) :
    wpAny (model pw g.w) A (exec (.Assign ts v pos) c.env) (SEnd g b0 c s K) (fun _ _ => False) s := by
  have S := ev_ok G P h1n 30
  replace h := forceF_mp (f := f.frz (nms 12 v)) h
  obtain ⟨c1, n1, F, m⟩ := F0.frz (nms 12 v) m0
  rw [← n1.env]
  refine wpAny_mono (Q := SEnd g b0 c1 s K) ?_ (fun fl s' hq => SEnd.glue (s := s) (h1 := s.heap) (tk1 := s.toks) n1 hq) fun _ _ x => x
  generalize f.frz (nms 12 v) = f1 at h F
  clear F0 m0
  cases ts with
  | nil => exact False.elim h
  | cons t r' =>
    cases r' with
    | cons _ _ => exact False.elim h
    | nil =>
      cases t with
      | Name x p =>
        obtain ⟨hx, h⟩ := tr_inv (b := localsAll f1.sc [x]) h
        have hx' : f1.sc.names.lookup x = some .local := by
          unfold localsAll at hx
          rw [List.all_cons, Bool.and_eq_true] at hx
          exact eq_of_beq hx.1
        rcases bl_inv (b := ow.contains x) h with ⟨_, h⟩ | ⟨_, h⟩
        · exact own_any_ok S R F m hx' h
        · rcases swaps_some v x p pos.line c1.env with q | ⟨q, q2⟩
          · exact name_assign_ok S R F m hx' q h
          · rcases q2 with ⟨a, b, d, e, rfl⟩ | ⟨a, b, d, e, rfl⟩ | ⟨a, b, d, e, e2, rfl⟩
            · exact comp_assign_ok G (ev_ok G P h1n 29) R F m hx' q h
            · exact (show False from h).elim
            · exact (show False from h).elim
      | Tuple tts tk tp =>
        rcases op_inv (o := asTup v) h with ⟨es, he, h⟩ | ⟨he, h⟩
        · obtain ⟨k, p, rfl⟩ := asTup_inv he
          rcases op_inv (o := namesOf tts) h with ⟨xs, hn, h⟩ | ⟨_, h⟩
          · obtain ⟨hb, h⟩ := tr_inv (b := localsAll f1.sc xs && swapOk tts es xs) h
            rw [Bool.and_eq_true] at hb
            exact tup_swap_ok S R F m hn hb.1 hb.2 h
          · obtain ⟨hb, h⟩ := tr_inv (b := Nat.blt 3 tts.length) h
            exact tup_bind_ok S R F m (sole_tuple _ _ _ _ _ _) (stores_many (Nat.le_of_ble_eq_true hb)) h
        · exact tup_bind_ok S R F m (sole_tuple _ _ _ _ _ _) (stores_none (fun es k p z => by rw [z] at he; exact nomatch he) _ _ _ _) h
      | Subscript t i _ =>
        cases t with
        | Name x _ =>
          cases i with
          | Constant k _ _ =>
            cases k with
            | int k =>
              obtain ⟨hb, h⟩ := tr_inv (b := okN x && (isSrc (f1.loc.lookup x) && notComp v)) h
              simp only [Bool.and_eq_true] at hb
              exact src_store_ok S R F m hb.1 (isSrc_inv hb.2.1) hb.2.2 h
            | _ => exact False.elim h
          | _ => exact False.elim h
        | _ => exact False.elim h
      | _ => exact False.elim h

theorem growOf_inv {o : Expr} {m x : Str} {l : List D} {b : Bool} (h : growOf f o m = some (x, l, b)) : f.own.lookup x = some l ∧ okN x = true ∧ m = (if b then Str.ofString "append" else Str.ofString "extend") ∧ ∃ xp, o = .Name x xp := by
  obtain ⟨⟨y, l'⟩, h1, h2⟩ := bind_inv (o := ownAt f o) h
  obtain ⟨p, h3, h4, h5⟩ := own_at h1
  have h2 : (match m == Str.ofString "append" with | true => some (y, l', true) | false => guardO (m == Str.ofString "extend") (some (y, l', false))) = some (x, l, b) := h2
  cases h6 : m == Str.ofString "append" with
  | true =>
    rw [h6] at h2
    have e := Option.some.inj h2
    injection e with e1 e2
    injection e2 with e2 e3
    subst e1 e2 e3
    exact ⟨h5, h4, eq_of_beq h6, p, h3⟩
  | false =>
    rw [h6] at h2
    obtain ⟨h7, h8⟩ := guardO_inv h2
    have e := Option.some.inj h8
    injection e with e1 e2
    injection e2 with e2 e3
    subst e1 e2 e3
    exact ⟨h5, h4, eq_of_beq h7, p, h3⟩
theorem prsGrow_inv {o : Expr} {m : Str} (h : prsGrow f o m = true) : m = Str.ofString "append" ∧ ∃ x xp atp, isRel (f.loc.lookup x) = true ∧ okN x = true ∧ o = .Attribute (.Name x xp) (Str.ofString "pairs") atp := by
  have h := Bool.and_eq_true_iff.mp h
  obtain ⟨x, p1, p2, h1, h2, h3⟩ := prsIn_inv h.1
  exact ⟨eq_of_beq h.2, x, p1, p2, h2, h1, h3⟩
theorem expr_ok (G : GlOk g) (S : Snd g n r) (R : Room A n) {e : Expr} {pos : Pos} {K : KS} (F : Sf g b0 c f s.heap) (m : MuOk g c.sp c.bad s.heap M) (h : exprP r e f M fun f1 M1 => K .next f1 M1) : wpAny (model pw g.w) A (exec (.Expr e pos) c.env) (SEnd g b0 c s K) (fun _ _ => False) s := by
  have dr : (dropP r e f M fun f1 M1 => K .next f1 M1) → wpAny (model pw g.w) A (exec (.Expr e pos) c.env) (SEnd g b0 c s K) (fun _ _ => False) s := fun h => by
    obtain ⟨hc, h⟩ := tr_inv (b := notComp e) h
    exact drop_ok S R F m (drops_none hc _ _) h
  rcases op_inv (o := callM e) h with ⟨⟨o, z, a⟩, hc, h1⟩ | ⟨_, h1⟩
  · clear h
    obtain ⟨hp, ap, p, hl, rfl⟩ := callM_inv hc
    clear hc
    rcases op_inv (o := growOf f o z) h1 with ⟨⟨x, l, b⟩, hg, h2⟩ | ⟨_, h2⟩
    · clear h1 dr
      obtain ⟨q1, q2, rfl, xp, rfl⟩ := growOf_inv hg
      cases b with
      | true => exact append_ok S R F m q1 q2 hp hl h2
      | false => exact extend_ok S R F m q1 q2 hp hl h2
    · clear h1
      rcases bl_inv (b := prsGrow f o z) h2 with ⟨hq, h3⟩ | ⟨_, h3⟩
      · clear h2 dr
        obtain ⟨rfl, x, xp, atp, q1, q2, rfl⟩ := prsGrow_inv hq
        exact prs_append_ok G S R F m q1 q2 hp hl h3
      · exact dr h3
  · exact dr h1

theorem stmts_ok (G : GlOk g) (P : PhiOk g n Φ) (h1n : 1 ≤ n) (R : Room A n) (ow : List Str) (k : Nat) : ∀ ss : List Stmt, BlkOk g A (execs ss) (fun f M K => evS Φ ow k ss f M K) := by
  induction k with
  | zero => exact fun ss b0 c f s M K F m h => False.elim h
  | succ k ih =>
    intro ss b0 c f s M K F m h
    have S := ev_ok G P h1n 30
    cases ss with
    | nil => exact wpAny_execs_nil ⟨s.heap, s.toks, c, f, M, rfl, .refl, F, m, h⟩
    | cons st rest =>
      have h : stmtP (ev Φ 30) ow (evS Φ ow k) st f M (fun fl f1 M1 => match fl with | .next => forceF f1 (fun f2 => evS Φ ow k rest f2 M1 K) | .ret d => K (.ret d) f1 M1) := h
      refine wpAny_execs_cons (wpAny_mono (Q := SEnd g b0 c s fun fl f1 M1 => match fl with | .next => forceF f1 (fun f2 => evS Φ ow k rest f2 M1 K) | .ret d => K (.ret d) f1 M1) ?_ (fun fl s1 h1 => ?_) fun _ _ x => x)
      · generalize (fun (fl : Fl) (f1 : Fm) (M1 : Mu) => match fl with | .next => forceF f1 (fun f2 => evS Φ ow k rest f2 M1 K) | .ret d => K (.ret d) f1 M1) = K' at h
        cases st with
        | Assign ts v _ => exact assign_ok G P h1n R F m h
        | Expr e p => exact expr_ok G S R F m h
        | If t b o p =>
          refine wpAny_If ((S.T _ _ _ _ _ _ _ F.st m R h).then fun v h1 tk1 d M1 k1 hK e m1 => ?_)
          cases e
          obtain ⟨F1, n1⟩ := F.expr k1
          cases v with
          | true => exact wpAny_mono (ih b b0 c f { s with heap := h1, toks := tk1 } M1 _ F1 m1 hK) (fun _ _ hq => SEnd.glue n1 hq) fun _ _ x => x
          | false => exact wpAny_mono (ih o b0 c f { s with heap := h1, toks := tk1 } M1 _ F1 m1 hK) (fun _ _ hq => SEnd.glue n1 hq) fun _ _ x => x
        | For t it b o p =>
          cases o with
          | cons _ _ => exact False.elim h
          | nil => exact for_ok G S R (ih b) F m h
        | Return v p =>
          cases v with
          | none => exact wpAny_Return_none ⟨s.heap, s.toks, c, f, M, rfl, .refl, F, m, .none, .none, h⟩
          | some e => exact return_ok S R F m (forceF_mp (f := f.frz (nms 12 e)) (K := fun f1 => (ev Φ 30).E e f1 M fun d M1 => K' (.ret d) f1 M1) h)
        | _ => exact False.elim h
      · obtain ⟨h', tk, c', f', M', rfl, nx, F', m', hf⟩ := h1
        cases fl with
        | next =>
          have hf := forceF_mp (f := f') (K := fun f2 => evS Φ ow k rest f2 M' K) hf
          rw [← nx.env]
          exact wpAny_mono (ih rest b0 c' f' { s with heap := h', toks := tk } M' _ F' m' hf) (fun _ _ hq => SEnd.glue nx hq) fun _ _ x => x
        | ret v => exact ⟨h', tk, c', f', M', rfl, nx, F', m', hf⟩
        | brk => exact hf.elim
        | cont => exact hf.elim
end
end Mine
end

section
open PySem PySem.W PySem.Calls PyProof.Rows
set_option Elab.async false
set_option maxRecDepth 100000
namespace Mine

noncomputable abbrev Dfn := Arguments × List Stmt × Scope
/-- the object at a is the def d -/
inductive DefIs (g : Gl) (a : Addr) (d : Dfn) : Prop
  | mk (o : Obj) (fd : FuncData) (q1 : g.hb.get? a = some o) (q2 : o.data = .func fd) (q3 : fd.params = d.1) (q4 : fd.body = .stmts d.2.1) (q5 : fd.scope = d.2.2) (q6 : fd.globals = mainGlobals) (q7 : fd.builtins = builtinsNs) (q8 : fd.closure = []) (q9 : g.hb.CodeRec fd.code fd.qualname) (q10 : (∀ (s : Shared) (vs : List Value), (∀ b o, g.hb.get? b = some o → s.heap.get? b = some o) → vs.length = (argNames d.1).length → BindsTo s fd ⟨vs, []⟩ ((argNames d.1).zip vs)))
/-- what is asked of the text of a def -/
structure DefOk (d : Dfn) : Prop where
  kind : d.2.2.kind = .function
  co : d.2.2.isCoroutine = false
  gen : d.2.2.isGenerator = false
  nd : nodupS (argNames d.1) = true
  args : ∀ x ∈ argNames d.1, d.2.2.names.lookup x = some .local ∨ d.2.2.names.lookup x = some .cell
  bind : ∀ (fd : FuncData) (vs : List Value), fd.params = d.1 → fd.defaults = .none → fd.kwdefaults = .none → vs.length = (argNames d.1).length → bindArgs fd ⟨vs, []⟩ = pure ((argNames d.1).zip vs)

theorem cellsFrom_acc : ∀ (names : List (Str × NameKind)) (n : Nat) (acc : List (Str × Addr)) (x : Str), (∃ a, (x, a) ∈ acc) → ∃ a, (x, a) ∈ cellsFrom n names acc
  | [], _, _, _, h => h
  | (y, k) :: r, n, acc, x, h => by
    unfold cellsFrom
    split
    · exact cellsFrom_acc r _ _ _ (let ⟨a, q⟩ := h; ⟨a, List.mem_cons_of_mem _ q⟩)
    · exact cellsFrom_acc r _ _ _ h
theorem cellsFrom_has : ∀ (names : List (Str × NameKind)) (n : Nat) (acc : List (Str × Addr)) (x : Str), (x, NameKind.cell) ∈ names → ∃ a, (x, a) ∈ cellsFrom n names acc
  | [], _, _, _, h => by simp at h
  | (y, k) :: r, n, acc, x, h => by
    unfold cellsFrom
    rcases List.mem_cons.mp h with q | q
    · cases q
      rw [if_pos (by decide)]
      exact cellsFrom_acc r _ _ _ ⟨n, List.mem_cons_self⟩
    · split
      · exact cellsFrom_has r _ _ _ q
      · exact cellsFrom_has r _ _ _ q

theorem bindL_not (kindOf : Str → Option NameKind) : ∀ (bs : List (Str × Value)) (m : Str → Option Value) (x : Str), x ∉ bs.map (·.1) → bindL kindOf bs m x = m x
  | [], _, _, _ => rfl
  | (n, v) :: r, m, x, h => by
    rw [List.map_cons, List.mem_cons, not_or] at h
    unfold bindL
    rw [bindL_not kindOf r _ x h.2]
    split
    · exact if_neg h.1
    · rfl
theorem bindC_not (kindOf : Str → Option NameKind) : ∀ (bs : List (Str × Value)) (m : Str → Option Value) (x : Str), x ∉ bs.map (·.1) → bindC kindOf bs m x = m x
  | [], _, _, _ => rfl
  | (n, v) :: r, m, x, h => by
    rw [List.map_cons, List.mem_cons, not_or] at h
    unfold bindC
    rw [bindC_not kindOf r _ x h.2]
    split
    · rfl
    · exact if_neg h.1
theorem zip_keys : ∀ {xs : List Str} {vs : List Value}, ∀ x, x ∈ (xs.zip vs).map (·.1) → x ∈ xs
  | [], _, _, h => by simp at h
  | _ :: _, [], _, h => by simp at h
  | y :: xs, v :: vs, x, h => by
    rw [List.zip_cons_cons, List.map_cons, List.mem_cons] at h
    exact h.elim (fun q => q ▸ List.mem_cons_self) fun q => List.mem_cons_of_mem _ (zip_keys x q)
theorem args_at {g : Gl} {sp : Sp} {bad : Addr → Prop} {h : Heap} (kindOf : Str → Option NameKind) : ∀ {xs : List Str} {vs : List Value} {ds : List D} (m cm : Str → Option Value), xs.Nodup → xs.length = ds.length → RepAll g sp bad h vs ds → ∀ x d, (xs.zip ds).lookup x = some d →
    ∃ v, Rep g sp bad h v d ∧ x ∈ xs ∧ (kindOf x = some .local → bindL kindOf (xs.zip vs) m x = some v) ∧ (kindOf x ≠ some .local → bindC kindOf (xs.zip vs) cm x = some v)
  | [], _, _, _, _, _, _, _, x, d, q => by simp at q
  | _ :: _, _, [], _, _, _, hl, _, _, _, _ => by simp at hl
  | y :: xs, v :: vs, d0 :: ds, m, cm, nd, hl, .cons rv rs, x, d, q => by
    have nd := List.nodup_cons.mp nd
    rw [List.zip_cons_cons, List.lookup_cons] at q
    have nk : y ∉ (xs.zip vs).map (·.1) := fun z => nd.1 (zip_keys y z)
    cases hx : x == y with
    | true =>
      rw [hx] at q
      cases q
      obtain rfl := eq_of_beq hx
      refine ⟨v, rv, List.mem_cons_self, fun k => ?_, fun k => ?_⟩
      · rw [List.zip_cons_cons, bindL, bindL_not _ _ _ _ nk, if_pos k]; exact if_pos rfl
      · rw [List.zip_cons_cons, bindC, bindC_not _ _ _ _ nk, if_neg k]; exact if_pos rfl
    | false =>
      rw [hx] at q
      obtain ⟨u, r1, r2, r3, r4⟩ := args_at kindOf (if kindOf y = some .local then fun z => if z = y then some v else m z else m) (if kindOf y = some .local then cm else fun z => if z = y then some v else cm z) nd.2 (by simpa using hl) rs x d q
      exact ⟨u, r1, List.mem_cons_of_mem _ r2, r3, r4⟩

theorem call_cellsB {prog : Program} {w : World} {A : Around} {s : Shared} {R : Result → Shared → Prop} {a : Addr} {o : Obj} {fd : FuncData} {body : List Stmt} {vals : List Value} {binds : List (Str × Value)}
    (hroom : A.depth < recursionLimit) (ho : s.heap.get? a = some o) (hdata : o.data = .func fd) (hlim : s.heap.NoLimit) (hcd : s.heap.CodeRec fd.code fd.qualname)
    (hbody : fd.body = .stmts body) (hbind : BindsTo s fd ⟨vals, []⟩ binds) (hclo : fd.closure = [])
    (hkind : ∀ x ∈ binds, fd.scope.names.lookup x.1 = some .local ∨ (fd.scope.names.lookup x.1 = some .cell ∧ ((cellsFrom (s.heap.objs.size + 1) fd.scope.names []).lookup x.1).isSome = true))
    (h : ∀ s₁, InCallC s (callEnvC fd s.heap.objs.size a).locals (bindL (callEnvC fd s.heap.objs.size a).kindOf binds fun _ => none) (callEnvC fd s.heap.objs.size a).cells
        (bindC (callEnvC fd s.heap.objs.size a).kindOf binds fun _ => none) s₁ →
      wpAny (model prog w) (A.deeper (callEnvC fd s.heap.objs.size a)) (execs body (callEnvC fd s.heap.objs.size a)) (fun f s' => R (.ok (.ret (match f with | .ret v => v | _ => .none))) s')
        (fun _ _ => False) s₁)
    (hco : fd.scope.isCoroutine = false) (hgen : fd.scope.isGenerator = false) (hk : fd.scope.kind = .function) :
    codeAny (model prog w) A (.call (.ref a) ⟨vals, []⟩) R s := by
  refine codeAny_call_function hroom ho hdata hco hgen hbody hcd (hbind _ _ _ _ ?_)
  rw [hclo]
  refine wpAny_newFunctionEnv_cells hk hkind fun env he s' x => ?_
  subst he
  exact ⟨hlim.keeps x.toInCall.keep, codeAny_func (wpAny_mono (h s' x) (fun _ _ y => y) fun _ _ y => y.elim)⟩

section
variable {g : Gl} {Φ : Phi} {n : Nat}
/-- a call of a def: what the evaluator says of its text is so -/
theorem fn_ok (G : GlOk g) (P : PhiOk g n Φ) (h1n : 1 ≤ n) {a : Addr} {d : Dfn} (Di : DefIs g a d) (Do : DefOk d) {ds : List D} {M : Mu} {K : KE} (h : evF Φ d ds M K) : CallOk g (n + 1) (.ref a) ds M K := by
  intro sp bad A s vs w m rs R
  unfold evF at h
  cases hl : ((argNames d.1).length == ds.length) with
  | false => rw [hl] at h; exact h.elim
  | true =>
  rw [hl] at h
  have hl := eq_of_beq hl
  obtain ⟨o, fd, ho, hd, e1, e2, e3, e4, e5, e6, e7, e8⟩ := Di
  have vl : vs.length = (argNames d.1).length := by rw [rs.length, hl]
  have kof : ∀ x, (callEnvC fd s.heap.objs.size a).kindOf x = d.2.2.names.lookup x := fun x => by show fd.scope.names.lookup x = _; rw [e3]
  refine wpAny_call (call_cellsB (o := o) (fd := fd) (body := d.2.1) (binds := (argNames d.1).zip vs) (by have := R.1; omega) (w.base _ _ ho) hd (G.nolim.keeps w.base) (e7.keeps w.base) e2 (e8 s vs w.base vl) e6 ?_ ?_ (by rw [e3]; exact Do.co) (by rw [e3]; exact Do.gen) (by rw [e3]; exact Do.kind))
  · intro x hx
    have hm : x.1 ∈ argNames d.1 := zip_keys x.1 (List.mem_map_of_mem hx)
    rw [e3]
    refine (Do.args x.1 hm).imp id fun q => ⟨q, ?_⟩
    obtain ⟨c, hc⟩ := cellsFrom_has d.2.2.names (s.heap.objs.size + 1) [] x.1 (lookup_mem q)
    obtain ⟨z, hz⟩ := lookup_of_mem hc
    rw [hz]; rfl
  · intro s₁ ic
    obtain ⟨h1, tk1, rfl⟩ := ic.toInCall.same
    have keep : ∀ b o, s.heap.get? b = some o → h1.get? b = some o := ic.toInCall.keep
    have ns : h1.Ns s.heap.objs.size (bindL (callEnvC fd s.heap.objs.size a).kindOf ((argNames d.1).zip vs) fun _ => none) := ic.toInCall.ns
    generalize hL : s.heap.objs.size = L at *
    have fL : s.heap.get? L = none := by rw [← hL, get_size]
    let P0 : Addr → Prop := fun b => b = L
    have u : Up bad (fun b => bad b ∨ P0 b) s.heap h1 := ⟨fun b o e _ => keep b o e, fun b o e q => q.elim id fun z => by
      have z : b = L := z
      rw [z, fL] at e; cases e⟩
    have nmL : ¬ sp.mu L := fun q => by
      obtain ⟨o, e⟩ := w.al L (w.mu L q)
      rw [fL] at e; cases e
    let c : Cx := { sp := sp, bad := fun b => bad b ∨ P0 b, env := callEnvC fd L a, m := bindL (callEnvC fd L a).kindOf ((argNames d.1).zip vs) fun _ => none, ow := [] }
    let f0 : Fm := { sc := d.2.2, loc := (argNames d.1).zip ds, own := [] }
    have no : ∀ b, ¬ Own c b := fun b ⟨x, q⟩ => by simp [c] at q
    have X : St g c f0 h1 := {
      w := ⟨fun b o e => keep b o (w.base b o e), fun b q => q.elim (fun z => let ⟨o, e⟩ := w.al b z; ⟨o, keep b o e⟩) fun z => by
          obtain ⟨o, _, _, e, _⟩ := ns
          exact ⟨o, z ▸ e⟩, fun b q => .inl (w.mu b q), fun b q => q.elim (w.muHb b) fun z => (by
          cases e : g.hb.get? b with
          | none => rfl
          | some o =>
            have := w.base b o e
            have z : b = L := z
            rw [z, fL] at this; cases this), w.s1, w.s2⟩
      kind := by show fd.scope.kind = _; rw [e3]; exact Do.kind
      glob := e4
      blt := e5
      ns := ns
      nL := nmL
      gl := fun x q => (kof x).trans q
      lo := fun x q => (kof x).trans q
      ce := fun x q => q.imp (fun z => (kof x).trans z) fun z => (kof x).trans z
      loc := fun x dd q => by
        obtain ⟨v, r1, r2, r3, r4⟩ := args_at (callEnvC fd L a).kindOf (fun _ => none) (fun _ => none) (nodup_of Do.nd) hl rs x dd q
        refine ⟨v, ?_, r1.up u⟩
        rcases Do.args x r2 with k | k
        · exact .inl ⟨(kof x).trans k, r3 ((kof x).trans k)⟩
        · have kx := (kof x).trans k
          obtain ⟨cc, hc⟩ := cellsFrom_has d.2.2.names (L + 1) [] x (lookup_mem k)
          obtain ⟨z, hz⟩ := lookup_of_mem hc
          have hz' : (callEnvC fd L a).cells.lookup x = some z := by show (cellsFrom (L + 1) fd.scope.names []).lookup x = _; rw [e3]; exact hz
          have cell := ic.cell x z hz'
          rw [r4 (by rw [kx]; decide)] at cell
          have lt := ic.above x z (lookup_mem hz')
          refine .inr ⟨.inl kx, z, hz', fun q => ?_, cell⟩
          obtain ⟨o, e⟩ := w.al z (w.mu z q)
          have := Heap.lt_size e
          rw [hL] at this
          exact Nat.lt_irrefl _ (Nat.lt_trans this lt)
      own := fun x l q => by cases q }
    have F : Sf g (fun b => bad b ∨ P0 b) c f0 h1 := ⟨X, fun b => ⟨.inl, fun q => q.elim id fun z => (no b z).elim⟩, fun b q => (no b q).elim, fun x y b q => by simp [c] at q, .inr rfl, fun b q => .inl (w.mu b q)⟩
    have R' : Room (A.deeper c.env) n := ⟨by have := R.1; show A.depth + 1 + n < _; omega, by have := R.2.1; show A.units + 3 + 40 * n + 200 < _; omega, R.2.2⟩
    refine wpAny_mono (stmts_ok G P h1n R' _ 40 d.2.1 _ c f0 { s with heap := h1, toks := tk1 } M _ F (m.up keep u) h) (fun fl s' hq => ?_) fun _ _ x => x.elim
    refine SEnd.el hq fun h2 tk2 c2 f2 M2 nx F2 m2 hf => ?_
    clear hq
    have fz : ∀ b o, s.heap.get? b = some o → b ≠ L := fun b o e q => by rw [q, fL] at e; cases e
    have kp : Kp sp s.heap h2 := ⟨fun b o e nb => nx.keep b o (keep b o e) nb (fz b o e) (no b), fun b o e => nx.alive b o (keep b o e)⟩
    have u2 : Up c2.bad bad h2 h2 := ⟨fun _ _ e _ => e, fun b _ _ q => (F2.hb b).mpr (.inl (.inl q))⟩
    have esp : c2.sp = sp := nx.sp
    rw [esp] at m2
    cases fl with
    | next => exact ⟨h2, tk2, rfl, kp, .none, M2, hf, .none, m2.up (fun _ _ e => e) u2⟩
    | ret v =>
      obtain ⟨dd, rv, hK⟩ := hf
      rw [esp] at rv
      exact ⟨h2, tk2, rfl, kp, dd, M2, hK, rv.up u2, m2.up (fun _ _ e => e) u2⟩
    | brk => exact hf.elim
    | cont => exact hf.elim
end
end Mine
end

section
set_option backward.match.sparseCases false
open PySem PySem.W PySem.Calls PyProof.Rows
set_option Elab.async false
set_option maxRecDepth 100000
namespace Mine

noncomputable abbrev S' (s : String) : Str := Str.ofString s
/-- the method m of the class C -/
noncomputable def clsIn (body : List Stmt) (n : Str) : List Stmt := ((body.filterMap fun st => match st with | .ClassDef m _ _ b .. => some (m, b) | _ => Option.none).lookup n).getD []
/-- the contract of a name: what its object, called, does -/
noncomputable def PhiS (g : Gl) (k : Nat) : Phi := fun x ds M K => ∀ a, (match methNames.contains x with | true => g.mR x | false => g.mg x) = some (.ref a) → CallOk g k (.ref a) ds M K
theorem fnNames_ok : ∀ x ∈ fnNames, methNames.contains x = false := by decide +kernel
theorem kd_fn {x : Str} (h : kdOf x = some .fn) : x ∈ fnNames := by
  unfold kdOf at h
  split at h
  · cases h
  · split at h
    · rename_i q
      exact List.contains_iff_mem.mp q
    · split at h <;> cases h
theorem phi_ok (g : Gl) (k : Nat) : PhiOk g k (PhiS g k) where
  fn := fun x a ds M K hx ha h => h a (by
    have : methNames.contains x = false := by
      rcases hx with q | q
      · exact fnNames_ok x (kd_fn q)
      · rcases kd_cls q with rfl | rfl <;> decide +kernel
    rw [this]; exact ha)
  meth := fun x a ds M K hx ha h => h a (by rw [hx]; exact ha)
theorem PhiS.le {g : Gl} {k l : Nat} {x : Str} {ds : List D} {M : Mu} {K : KE} (h : PhiS g k x ds M K) (hk : k ≤ l) : PhiS g l x ds M K := fun a ha => (h a ha).le hk

/-- the defs that the evaluator walks -/
noncomputable def walked : List Str := [S' "parts_of", S' "rebuilt", S' "with_regions", S' "inner_way", S' "rvalue_regions", S' "callee_regions", S' "greatest_region",
  S' "_law_one", S' "_law_region", S' "_law_type", S' "_law_kept", S' "_law_beside", S' "_law_met", S' "_law_pairs_of", S' "_law_reference", S' "_law_rvalue", S' "_law_callee", S' "_law_body_right",
  S' "_law_take", S' "_law_pool", S' "regions_in", S' "_law_pairs_right", S' "_law_structs_right", S' "_law_told_right", S' "law"]
noncomputable def walkedM : List Str := [S' "region", S' "parts_below", S' "outlives", S' "below"]
noncomputable def defM (x : Str) : Dfn := defIn (clsIn top (S' "Relation")) x
structure Base (g : Gl) : Prop where
  gl : GlOk g
  fn : ∀ x ∈ walked, ∀ a, g.mg x = some (.ref a) → DefIs g a (defIn top x)
  meth : ∀ x ∈ walkedM, ∀ a, g.mR x = some (.ref a) → DefIs g a (defM x)

noncomputable def shapeOk (d : Dfn) : Bool := d.2.2.kind == .function && !d.2.2.isCoroutine && !d.2.2.isGenerator && nodupS (argNames d.1) && (argNames d.1).all fun x => d.2.2.names.lookup x == some .local || d.2.2.names.lookup x == some .cell

theorem shape_ok {d : Dfn} (h : shapeOk d = true) (b : ∀ (fd : FuncData) (vs : List Value), fd.params = d.1 → fd.defaults = .none → fd.kwdefaults = .none → vs.length = (argNames d.1).length → bindArgs fd ⟨vs, []⟩ = pure ((argNames d.1).zip vs)) : DefOk d := by
  unfold shapeOk at h
  simp only [Bool.and_eq_true, Bool.not_eq_true', beq_iff_eq, List.all_eq_true, Bool.or_eq_true] at h
  exact ⟨h.1.1.1.1, h.1.1.1.2, h.1.1.2, h.1.2, h.2, b⟩
theorem len1 {vs : List Value} (h : vs.length = 1) : ∃ a, vs = [a] := by
  match vs, h with | [a], _ => exact ⟨a, rfl⟩
theorem len2 {vs : List Value} (h : vs.length = 2) : ∃ a b, vs = [a, b] := by
  match vs, h with | [a, b], _ => exact ⟨a, b, rfl⟩
theorem len3 {vs : List Value} (h : vs.length = 3) : ∃ a b c, vs = [a, b, c] := by
  match vs, h with | [a, b, c], _ => exact ⟨a, b, c, rfl⟩
theorem len4 {vs : List Value} (h : vs.length = 4) : ∃ a b c d, vs = [a, b, c, d] := by
  match vs, h with | [a, b, c, d], _ => exact ⟨a, b, c, d, rfl⟩
theorem ok_parts_of : DefOk (defIn top (S' "parts_of")) := shape_ok (by kernel_rfl) fun fd vs h1 h2 h3 h4 => by
  obtain ⟨v0, rfl⟩ := len1 h4
  obtain ⟨a1, a2, a3, a4, a5, a6, a7, a8, a9, a10, a11, a12, a13, a14, a15⟩ := fd
  dsimp only at h1 h2 h3
  subst h1 h2 h3
  kernel_rfl
theorem ok_rebuilt : DefOk (defIn top (S' "rebuilt")) := shape_ok (by kernel_rfl) fun fd vs h1 h2 h3 h4 => by
  obtain ⟨v0,v1, rfl⟩ := len2 h4
  obtain ⟨a1, a2, a3, a4, a5, a6, a7, a8, a9, a10, a11, a12, a13, a14, a15⟩ := fd
  dsimp only at h1 h2 h3
  subst h1 h2 h3
  kernel_rfl
theorem ok_with_regions : DefOk (defIn top (S' "with_regions")) := shape_ok (by kernel_rfl) fun fd vs h1 h2 h3 h4 => by
  obtain ⟨v0,v1, rfl⟩ := len2 h4
  obtain ⟨a1, a2, a3, a4, a5, a6, a7, a8, a9, a10, a11, a12, a13, a14, a15⟩ := fd
  dsimp only at h1 h2 h3
  subst h1 h2 h3
  kernel_rfl
theorem ok_inner_way : DefOk (defIn top (S' "inner_way")) := shape_ok (by kernel_rfl) fun fd vs h1 h2 h3 h4 => by
  obtain ⟨v0,v1, rfl⟩ := len2 h4
  obtain ⟨a1, a2, a3, a4, a5, a6, a7, a8, a9, a10, a11, a12, a13, a14, a15⟩ := fd
  dsimp only at h1 h2 h3
  subst h1 h2 h3
  kernel_rfl
theorem ok_rvalue_regions : DefOk (defIn top (S' "rvalue_regions")) := shape_ok (by kernel_rfl) fun fd vs h1 h2 h3 h4 => by
  obtain ⟨v0, rfl⟩ := len1 h4
  obtain ⟨a1, a2, a3, a4, a5, a6, a7, a8, a9, a10, a11, a12, a13, a14, a15⟩ := fd
  dsimp only at h1 h2 h3
  subst h1 h2 h3
  kernel_rfl
theorem ok_callee_regions : DefOk (defIn top (S' "callee_regions")) := shape_ok (by kernel_rfl) fun fd vs h1 h2 h3 h4 => by
  obtain ⟨v0, rfl⟩ := len1 h4
  obtain ⟨a1, a2, a3, a4, a5, a6, a7, a8, a9, a10, a11, a12, a13, a14, a15⟩ := fd
  dsimp only at h1 h2 h3
  subst h1 h2 h3
  kernel_rfl
theorem ok_greatest_region : DefOk (defIn top (S' "greatest_region")) := shape_ok (by kernel_rfl) fun fd vs h1 h2 h3 h4 => by
  obtain ⟨v0, rfl⟩ := len1 h4
  obtain ⟨a1, a2, a3, a4, a5, a6, a7, a8, a9, a10, a11, a12, a13, a14, a15⟩ := fd
  dsimp only at h1 h2 h3
  subst h1 h2 h3
  kernel_rfl
theorem ok__law_one : DefOk (defIn top (S' "_law_one")) := shape_ok (by kernel_rfl) fun fd vs h1 h2 h3 h4 => by
  obtain ⟨v0,v1, rfl⟩ := len2 h4
  obtain ⟨a1, a2, a3, a4, a5, a6, a7, a8, a9, a10, a11, a12, a13, a14, a15⟩ := fd
  dsimp only at h1 h2 h3
  subst h1 h2 h3
  kernel_rfl
theorem ok__law_region : DefOk (defIn top (S' "_law_region")) := shape_ok (by kernel_rfl) fun fd vs h1 h2 h3 h4 => by
  obtain ⟨v0, rfl⟩ := len1 h4
  obtain ⟨a1, a2, a3, a4, a5, a6, a7, a8, a9, a10, a11, a12, a13, a14, a15⟩ := fd
  dsimp only at h1 h2 h3
  subst h1 h2 h3
  kernel_rfl
theorem ok__law_type : DefOk (defIn top (S' "_law_type")) := shape_ok (by kernel_rfl) fun fd vs h1 h2 h3 h4 => by
  obtain ⟨v0,v1, rfl⟩ := len2 h4
  obtain ⟨a1, a2, a3, a4, a5, a6, a7, a8, a9, a10, a11, a12, a13, a14, a15⟩ := fd
  dsimp only at h1 h2 h3
  subst h1 h2 h3
  kernel_rfl
theorem ok__law_kept : DefOk (defIn top (S' "_law_kept")) := shape_ok (by kernel_rfl) fun fd vs h1 h2 h3 h4 => by
  obtain ⟨v0, rfl⟩ := len1 h4
  obtain ⟨a1, a2, a3, a4, a5, a6, a7, a8, a9, a10, a11, a12, a13, a14, a15⟩ := fd
  dsimp only at h1 h2 h3
  subst h1 h2 h3
  kernel_rfl
theorem ok__law_beside : DefOk (defIn top (S' "_law_beside")) := shape_ok (by kernel_rfl) fun fd vs h1 h2 h3 h4 => by
  obtain ⟨v0,v1,v2, rfl⟩ := len3 h4
  obtain ⟨a1, a2, a3, a4, a5, a6, a7, a8, a9, a10, a11, a12, a13, a14, a15⟩ := fd
  dsimp only at h1 h2 h3
  subst h1 h2 h3
  kernel_rfl
theorem ok__law_met : DefOk (defIn top (S' "_law_met")) := shape_ok (by kernel_rfl) fun fd vs h1 h2 h3 h4 => by
  obtain ⟨v0,v1, rfl⟩ := len2 h4
  obtain ⟨a1, a2, a3, a4, a5, a6, a7, a8, a9, a10, a11, a12, a13, a14, a15⟩ := fd
  dsimp only at h1 h2 h3
  subst h1 h2 h3
  kernel_rfl
theorem ok__law_pairs_of : DefOk (defIn top (S' "_law_pairs_of")) := shape_ok (by kernel_rfl) fun fd vs h1 h2 h3 h4 => by
  obtain ⟨v0,v1,v2, rfl⟩ := len3 h4
  obtain ⟨a1, a2, a3, a4, a5, a6, a7, a8, a9, a10, a11, a12, a13, a14, a15⟩ := fd
  dsimp only at h1 h2 h3
  subst h1 h2 h3
  kernel_rfl
theorem ok__law_reference : DefOk (defIn top (S' "_law_reference")) := shape_ok (by kernel_rfl) fun fd vs h1 h2 h3 h4 => by
  obtain ⟨v0, rfl⟩ := len1 h4
  obtain ⟨a1, a2, a3, a4, a5, a6, a7, a8, a9, a10, a11, a12, a13, a14, a15⟩ := fd
  dsimp only at h1 h2 h3
  subst h1 h2 h3
  kernel_rfl
theorem ok__law_rvalue : DefOk (defIn top (S' "_law_rvalue")) := shape_ok (by kernel_rfl) fun fd vs h1 h2 h3 h4 => by
  obtain ⟨v0, rfl⟩ := len1 h4
  obtain ⟨a1, a2, a3, a4, a5, a6, a7, a8, a9, a10, a11, a12, a13, a14, a15⟩ := fd
  dsimp only at h1 h2 h3
  subst h1 h2 h3
  kernel_rfl
theorem ok__law_callee : DefOk (defIn top (S' "_law_callee")) := shape_ok (by kernel_rfl) fun fd vs h1 h2 h3 h4 => by
  obtain ⟨v0, rfl⟩ := len1 h4
  obtain ⟨a1, a2, a3, a4, a5, a6, a7, a8, a9, a10, a11, a12, a13, a14, a15⟩ := fd
  dsimp only at h1 h2 h3
  subst h1 h2 h3
  kernel_rfl
theorem ok__law_body_right : DefOk (defIn top (S' "_law_body_right")) := shape_ok (by kernel_rfl) fun fd vs h1 h2 h3 h4 => by
  obtain ⟨v0, rfl⟩ := len1 h4
  obtain ⟨a1, a2, a3, a4, a5, a6, a7, a8, a9, a10, a11, a12, a13, a14, a15⟩ := fd
  dsimp only at h1 h2 h3
  subst h1 h2 h3
  kernel_rfl
theorem ok_m_region : DefOk (defM (S' "region")) := shape_ok (by kernel_rfl) fun fd vs h1 h2 h3 h4 => by
  obtain ⟨v0,v1,v2,v3, rfl⟩ := len4 h4
  obtain ⟨a1, a2, a3, a4, a5, a6, a7, a8, a9, a10, a11, a12, a13, a14, a15⟩ := fd
  dsimp only at h1 h2 h3
  subst h1 h2 h3
  kernel_rfl
theorem ok_m_parts_below : DefOk (defM (S' "parts_below")) := shape_ok (by kernel_rfl) fun fd vs h1 h2 h3 h4 => by
  obtain ⟨v0,v1,v2,v3, rfl⟩ := len4 h4
  obtain ⟨a1, a2, a3, a4, a5, a6, a7, a8, a9, a10, a11, a12, a13, a14, a15⟩ := fd
  dsimp only at h1 h2 h3
  subst h1 h2 h3
  kernel_rfl

theorem len0 {vs : List Value} (h : vs.length = 0) : vs = [] := List.length_eq_zero_iff.mp h
theorem ok__law_take : DefOk (defIn top (S' "_law_take")) := shape_ok (by kernel_rfl) fun fd vs h1 h2 h3 h4 => by
  obtain ⟨v0,v1, rfl⟩ := len2 h4
  obtain ⟨a1, a2, a3, a4, a5, a6, a7, a8, a9, a10, a11, a12, a13, a14, a15⟩ := fd
  dsimp only at h1 h2 h3
  subst h1 h2 h3
  kernel_rfl
theorem ok__law_pool : DefOk (defIn top (S' "_law_pool")) := shape_ok (by kernel_rfl) fun fd vs h1 h2 h3 h4 => by
  obtain ⟨v0, rfl⟩ := len1 h4
  obtain ⟨a1, a2, a3, a4, a5, a6, a7, a8, a9, a10, a11, a12, a13, a14, a15⟩ := fd
  dsimp only at h1 h2 h3
  subst h1 h2 h3
  kernel_rfl
theorem ok_regions_in : DefOk (defIn top (S' "regions_in")) := shape_ok (by kernel_rfl) fun fd vs h1 h2 h3 h4 => by
  obtain ⟨v0, rfl⟩ := len1 h4
  obtain ⟨a1, a2, a3, a4, a5, a6, a7, a8, a9, a10, a11, a12, a13, a14, a15⟩ := fd
  dsimp only at h1 h2 h3
  subst h1 h2 h3
  kernel_rfl
theorem ok__law_pairs_right : DefOk (defIn top (S' "_law_pairs_right")) := shape_ok (by kernel_rfl) fun fd vs h1 h2 h3 h4 => by
  obtain ⟨v0, rfl⟩ := len1 h4
  obtain ⟨a1, a2, a3, a4, a5, a6, a7, a8, a9, a10, a11, a12, a13, a14, a15⟩ := fd
  dsimp only at h1 h2 h3
  subst h1 h2 h3
  kernel_rfl
theorem ok__law_structs_right : DefOk (defIn top (S' "_law_structs_right")) := shape_ok (by kernel_rfl) fun fd vs h1 h2 h3 h4 => by
  obtain ⟨v0, rfl⟩ := len1 h4
  obtain ⟨a1, a2, a3, a4, a5, a6, a7, a8, a9, a10, a11, a12, a13, a14, a15⟩ := fd
  dsimp only at h1 h2 h3
  subst h1 h2 h3
  kernel_rfl
theorem ok__law_told_right : DefOk (defIn top (S' "_law_told_right")) := shape_ok (by kernel_rfl) fun fd vs h1 h2 h3 h4 => by
  obtain rfl := len0 h4
  obtain ⟨a1, a2, a3, a4, a5, a6, a7, a8, a9, a10, a11, a12, a13, a14, a15⟩ := fd
  dsimp only at h1 h2 h3
  subst h1 h2 h3
  kernel_rfl
theorem ok_law : DefOk (defIn top (S' "law")) := shape_ok (by kernel_rfl) fun fd vs h1 h2 h3 h4 => by
  obtain ⟨v0, rfl⟩ := len1 h4
  obtain ⟨a1, a2, a3, a4, a5, a6, a7, a8, a9, a10, a11, a12, a13, a14, a15⟩ := fd
  dsimp only at h1 h2 h3
  subst h1 h2 h3
  kernel_rfl
theorem ok_m_outlives : DefOk (defM (S' "outlives")) := shape_ok (by kernel_rfl) fun fd vs h1 h2 h3 h4 => by
  obtain ⟨v0,v1,v2, rfl⟩ := len3 h4
  obtain ⟨a1, a2, a3, a4, a5, a6, a7, a8, a9, a10, a11, a12, a13, a14, a15⟩ := fd
  dsimp only at h1 h2 h3
  subst h1 h2 h3
  kernel_rfl
theorem ok_m_below : DefOk (defM (S' "below")) := shape_ok (by kernel_rfl) fun fd vs h1 h2 h3 h4 => by
  obtain ⟨v0,v1,v2,v3, rfl⟩ := len4 h4
  obtain ⟨a1, a2, a3, a4, a5, a6, a7, a8, a9, a10, a11, a12, a13, a14, a15⟩ := fd
  dsimp only at h1 h2 h3
  subst h1 h2 h3
  kernel_rfl
theorem ok_walkedM : ∀ x ∈ walkedM, DefOk (defM x) := by
  intro x hx
  unfold walkedM at hx
  simp only [List.mem_cons, List.not_mem_nil, or_false] at hx
  rcases hx with rfl | rfl | rfl | rfl
  · exact ok_m_region
  · exact ok_m_parts_below
  · exact ok_m_outlives
  · exact ok_m_below

theorem ok_walked : ∀ x ∈ walked, DefOk (defIn top x) := by
  intro x hx
  unfold walked at hx
  simp only [List.mem_cons, List.not_mem_nil, or_false] at hx
  rcases hx with rfl | rfl | rfl | rfl | rfl | rfl | rfl | rfl | rfl | rfl | rfl | rfl | rfl | rfl | rfl | rfl | rfl | rfl | rfl | rfl | rfl | rfl | rfl | rfl | rfl
  · exact ok_parts_of
  · exact ok_rebuilt
  · exact ok_with_regions
  · exact ok_inner_way
  · exact ok_rvalue_regions
  · exact ok_callee_regions
  · exact ok_greatest_region
  · exact ok__law_one
  · exact ok__law_region
  · exact ok__law_type
  · exact ok__law_kept
  · exact ok__law_beside
  · exact ok__law_met
  · exact ok__law_pairs_of
  · exact ok__law_reference
  · exact ok__law_rvalue
  · exact ok__law_callee
  · exact ok__law_body_right
  · exact ok__law_take
  · exact ok__law_pool
  · exact ok_regions_in
  · exact ok__law_pairs_right
  · exact ok__law_structs_right
  · exact ok__law_told_right
  · exact ok_law
/-- a contract of a walked def: what the evaluator says of its text -/
theorem Base.step {g : Gl} {k : Nat} (B : Base g) (h1 : 1 ≤ k) {x : Str} {ds : List D} {M : Mu} {K : KE} (hx : walked.contains x = true) (h : evF (PhiS g k) (defIn top x) ds M K) : PhiS g (k + 1) x ds M K := fun a ha => by
  have hx := List.contains_iff_mem.mp hx
  have hm : methNames.contains x = false := by
    have : ∀ x ∈ walked, methNames.contains x = false := by decide +kernel
    exact this x hx
  rw [hm] at ha
  exact fn_ok B.gl (phi_ok g k) h1 (B.fn x hx a ha) (ok_walked x hx) h
theorem Base.stepM {g : Gl} {k : Nat} (B : Base g) (h1 : 1 ≤ k) {x : Str} {ds : List D} {M : Mu} {K : KE} (hx : walkedM.contains x = true) (h : evF (PhiS g k) (defM x) ds M K) : PhiS g (k + 1) x ds M K := fun a ha => by
  have hx := List.contains_iff_mem.mp hx
  have hm : methNames.contains x = true := by
    have : ∀ x ∈ walkedM, methNames.contains x = true := by decide +kernel
    exact this x hx
  rw [hm] at ha
  exact fn_ok B.gl (phi_ok g k) h1 (B.meth x hx a ha) (ok_walkedM x hx) h
end Mine
end

section
set_option backward.match.sparseCases false
open PySem PySem.W PySem.Calls PyProof.Rows
set_option Elab.async false
set_option maxRecDepth 100000
namespace Mine

/-- the types that the law builds -/
inductive Ty | bool | int8 | param | never | ref (r : D) (m : Bool) (t : Ty) | box (t : Ty) | arr (t : Ty) | tup (a b : Ty) | adt (r : D) (a b : Ty)
noncomputable abbrev st (s : String) : D := .str (S' s)
noncomputable def told : Ty → D
  | .bool => .tup [st "bool"]
  | .int8 => .tup [st "int", st "u8"]
  | .param => .tup [st "param", st "T"]
  | .never => .tup [st "never"]
  | .ref r m t => .tup [st "ref", r, .bool m, told t]
  | .box t => .tup [st "box", told t]
  | .arr t => .tup [st "array", told t, .int 3]
  | .tup a b => .tup [st "tuple", .tup [told a, told b]]
  | .adt r a b => .tup [st "adt", st "P", .tup [r, .int 5], .tup [told a, told b]]
noncomputable def regs : Ty → List D
  | .ref r _ t => r :: regs t
  | .box t => regs t
  | .arr t => regs t
  | .tup a b => regs a ++ regs b
  | .adt r a b => r :: .int 5 :: (regs a ++ regs b)
  | _ => []
noncomputable def parts : Ty → List Ty
  | .ref _ _ t => [t]
  | .box t => [t]
  | .arr t => [t]
  | .tup a b => [a, b]
  | .adt _ a b => [a, b]
  | _ => []
noncomputable def hgt : Ty → Nat
  | .ref _ _ t => hgt t + 1
  | .box t => hgt t + 1
  | .arr t => hgt t + 1
  | .tup a b => max (hgt a) (hgt b) + 1
  | .adt _ a b => max (hgt a) (hgt b) + 1
  | _ => 0

section
variable {g : Gl} {k : Nat} (B : Base g) {M : Mu} {K : KE}
include B
theorem sp_parts_of (h1 : 1 ≤ k) (t : Ty) (h : K (.tup ((parts t).map told)) M) : PhiS g (k + 1) (S' "parts_of") [told t] M K := by
  refine B.step h1 rfl ?_
  cases t <;> exact h
theorem sp_rebuilt (h1 : 1 ≤ k) (t : Ty) (h : K (told t) M) : PhiS g (k + 1) (S' "rebuilt") [told t, .lst ((parts t).map told)] M K := by
  refine B.step h1 rfl ?_
  cases t
  case tup => exact ⟨show 2 ≤ 100000 by decide, h⟩
  case adt => exact ⟨show 2 ≤ 100000 by decide, h⟩
  all_goals exact h
theorem sp_with_regions : ∀ (t : Ty) (k : Nat) (M : Mu) (K : KE), 2 * hgt t + 3 ≤ k → M.fnd.length + (regs t).length ≤ 10000 → K (told t) { M with fnd := M.fnd ++ regs t } → PhiS g k (S' "with_regions") [told t, .noted] M K := by
  intro t
  induction t with
  | ref r m t ih =>
    intro k M K hk hl h
    obtain ⟨k, rfl⟩ : ∃ j, k = j + 1 + 1 := ⟨k - 2, by simp [hgt] at hk; omega⟩
    have hk : 2 * hgt t + 3 ≤ k + 1 := by simp [hgt] at hk; omega
    have hl : M.fnd.length + 1 + (regs t).length ≤ 10000 := by simp [regs] at hl; omega
    refine B.step (by omega) rfl ?_
    refine ⟨by omega, ?_⟩
    refine (sp_parts_of B (by omega) (.ref r m t) ?_)
    refine ⟨show 1 ≤ 100000 by decide, ?_⟩
    refine ih (k + 1) _ _ hk (by simp; omega) ?_
    refine ⟨show 0 ≤ 100000 by decide, ?_⟩
    refine sp_rebuilt B (by omega) (.ref r m t) ?_
    simpa [regs] using h
  | box t ih =>
    intro k M K hk hl h
    obtain ⟨k, rfl⟩ : ∃ j, k = j + 1 + 1 := ⟨k - 2, by simp [hgt] at hk; omega⟩
    have hk : 2 * hgt t + 3 ≤ k + 1 := by simp [hgt] at hk; omega
    refine B.step (by omega) rfl ?_
    refine (sp_parts_of B (by omega) (.box t) ?_)
    refine ⟨show 1 ≤ 100000 by decide, ?_⟩
    refine ih (k + 1) _ _ hk hl ?_
    refine ⟨show 0 ≤ 100000 by decide, ?_⟩
    exact sp_rebuilt B (by omega) (.box t) h
  | arr t ih =>
    intro k M K hk hl h
    obtain ⟨k, rfl⟩ : ∃ j, k = j + 1 + 1 := ⟨k - 2, by simp [hgt] at hk; omega⟩
    have hk : 2 * hgt t + 3 ≤ k + 1 := by simp [hgt] at hk; omega
    refine B.step (by omega) rfl ?_
    refine (sp_parts_of B (by omega) (.arr t) ?_)
    refine ⟨show 1 ≤ 100000 by decide, ?_⟩
    refine ih (k + 1) _ _ hk hl ?_
    refine ⟨show 0 ≤ 100000 by decide, ?_⟩
    exact sp_rebuilt B (by omega) (.arr t) h
  | tup a b iha ihb =>
    intro k M K hk hl h
    obtain ⟨k, rfl⟩ : ∃ j, k = j + 1 + 1 := ⟨k - 2, by simp [hgt] at hk; omega⟩
    have hka : 2 * hgt a + 3 ≤ k + 1 := by simp [hgt] at hk; omega
    have hkb : 2 * hgt b + 3 ≤ k + 1 := by simp [hgt] at hk; omega
    have hl : M.fnd.length + (regs a).length + (regs b).length ≤ 10000 := by simp [regs] at hl; omega
    refine B.step (by omega) rfl ?_
    refine (sp_parts_of B (by omega) (.tup a b) ?_)
    refine ⟨show 2 ≤ 100000 by decide, ?_⟩
    refine iha (k + 1) _ _ hka (by omega) ?_
    refine ⟨show 0 ≤ 100000 by decide, ?_⟩
    refine ihb (k + 1) _ _ hkb (by simp; omega) ?_
    refine ⟨show 1 ≤ 100000 by decide, ?_⟩
    refine sp_rebuilt B (by omega) (.tup a b) ?_
    simpa [regs] using h
  | adt r a b iha ihb =>
    intro k M K hk hl h
    obtain ⟨k, rfl⟩ : ∃ j, k = j + 1 + 1 := ⟨k - 2, by simp [hgt] at hk; omega⟩
    have hka : 2 * hgt a + 3 ≤ k + 1 := by simp [hgt] at hk; omega
    have hkb : 2 * hgt b + 3 ≤ k + 1 := by simp [hgt] at hk; omega
    have hl : M.fnd.length + 2 + (regs a).length + (regs b).length ≤ 10000 := by simp [regs] at hl; omega
    refine B.step (by omega) rfl ?_
    refine ⟨show 2 ≤ 100000 by decide, ?_⟩
    refine ⟨by omega, ?_⟩
    refine ⟨show 0 ≤ 100000 by decide, ?_⟩
    refine ⟨by simp; omega, ?_⟩
    refine ⟨show 1 ≤ 100000 by decide, ?_⟩
    refine ⟨show 2 ≤ 100000 by decide, ?_⟩
    refine (sp_parts_of B (by omega) (.adt r a b) ?_)
    refine ⟨show 2 ≤ 100000 by decide, ?_⟩
    refine iha (k + 1) _ _ hka (by simp; omega) ?_
    refine ⟨show 0 ≤ 100000 by decide, ?_⟩
    refine ihb (k + 1) _ _ hkb (by simp; omega) ?_
    refine ⟨show 1 ≤ 100000 by decide, ?_⟩
    refine sp_rebuilt B (by omega) (.adt r a b) ?_
    simpa [regs] using h
  | bool =>
    intro k M K hk hl h
    obtain ⟨k, rfl⟩ : ∃ j, k = j + 1 + 1 := ⟨k - 2, by simp [hgt] at hk; omega⟩
    refine B.step (by omega) rfl ?_
    refine (sp_parts_of B (by omega) .bool ?_)
    refine ⟨show 0 ≤ 100000 by decide, ?_⟩
    refine sp_rebuilt B (by omega) .bool ?_
    simpa [regs] using h
  | int8 =>
    intro k M K hk hl h
    obtain ⟨k, rfl⟩ : ∃ j, k = j + 1 + 1 := ⟨k - 2, by simp [hgt] at hk; omega⟩
    refine B.step (by omega) rfl ?_
    refine (sp_parts_of B (by omega) .int8 ?_)
    refine ⟨show 0 ≤ 100000 by decide, ?_⟩
    refine sp_rebuilt B (by omega) .int8 ?_
    simpa [regs] using h
  | param =>
    intro k M K hk hl h
    obtain ⟨k, rfl⟩ : ∃ j, k = j + 1 + 1 := ⟨k - 2, by simp [hgt] at hk; omega⟩
    refine B.step (by omega) rfl ?_
    refine (sp_parts_of B (by omega) .param ?_)
    refine ⟨show 0 ≤ 100000 by decide, ?_⟩
    refine sp_rebuilt B (by omega) .param ?_
    simpa [regs] using h
  | never =>
    intro k M K hk hl h
    obtain ⟨k, rfl⟩ : ∃ j, k = j + 1 + 1 := ⟨k - 2, by simp [hgt] at hk; omega⟩
    refine B.step (by omega) rfl ?_
    refine (sp_parts_of B (by omega) .never ?_)
    refine ⟨show 0 ≤ 100000 by decide, ?_⟩
    refine sp_rebuilt B (by omega) .never ?_
    simpa [regs] using h
end
end Mine
end

section
open PySem PySem.W PySem.Calls PyProof.Rows
set_option Elab.async false
set_option maxRecDepth 100000
set_option maxHeartbeats 4000000
namespace Mine

noncomputable def isReg (d : D) : Prop := d = .none ∨ d = st "'a" ∨ d = st "'static" ∨ ∃ i, 0 ≤ i ∧ i < 40 ∧ d = .int i
noncomputable def Reg (l : List D) : Prop := ∀ d ∈ l, isReg d

/-- what is shown by walks of their own -/
structure Man (g : Gl) : Prop where
  take : ∀ (k : Nat) (M : Mu) (K : KE) (n : Int), 2 ≤ k → 1 ≤ n → n ≤ 100 → (∀ i, 0 ≤ i → i < n → K (.int i) M) → PhiS g k (S' "_law_take") [.src, .int n] M K
  regions : ∀ (t : Ty) (k : Nat) (M : Mu) (K : KE), 2 * hgt t + 4 ≤ k → (regs t).length ≤ 1000 → (∀ d ∈ regs t, isReg d) → K (.lst (regs t)) M → PhiS g k (S' "regions_in") [told t] M K
  body : ∀ (k : Nat) (M : Mu) (K : KE) (n : Str) (i : Int) (ls bs : List D), 2 ≤ k → ls.length ≤ 1000 → K (.bod ls bs) M → PhiS g k (S' "Body") [.str n, .int i, .lst ls, .lst bs] M K

theorem idx_at {l : List D} {i : Int} (h0 : 0 ≤ i) (h1 : i < l.length) (hl : l.length ≤ 1000) : ∃ x, x ∈ l ∧ idx l i = some x := by
  have hi : i.toNat < l.length := by omega
  refine ⟨l[i.toNat], List.getElem_mem hi, ?_⟩
  unfold idx
  rw [if_pos ⟨by omega, by omega⟩]
  have : seqIndex? i l.length = some i.toNat := by
    unfold seqIndex?
    have h2 : ¬ i < 0 := by omega
    simp only [h2, if_false]
    split
    · rfl
    · rename_i hc
      simp at hc
      omega
  rw [this]
  simp [hi]

section
variable {g : Gl} {k : Nat} (B : Base g) (N : Man g) {M : Mu} {K : KE}
include B N
theorem sp_one (h1 : 3 ≤ k) (l : List D) (hl : 1 ≤ l.length) (hl2 : l.length ≤ 100) (h : ∀ x ∈ l, K x M) : PhiS g k (S' "_law_one") [.src, .lst l] M K := by
  obtain ⟨k, rfl⟩ : ∃ j, k = j + 1 := ⟨k - 1, by omega⟩
  refine B.step (by omega) rfl ?_
  refine ⟨by omega, ?_⟩
  refine N.take k _ _ _ (by omega) (by omega) (by omega) fun i h0 h2 => ?_
  obtain ⟨x, hx, e⟩ := idx_at h0 h2 (by omega)
  show match idx l i with | some x => K x M | none => False
  rw [e]
  exact h x hx
theorem sp_region (h1 : 4 ≤ k) (h : ∀ d, isReg d → K d M) : PhiS g k (S' "_law_region") [.src] M K := by
  obtain ⟨k, rfl⟩ : ∃ j, k = j + 1 := ⟨k - 1, by omega⟩
  refine B.step (by omega) rfl ?_
  refine N.take k _ _ _ (by omega) (by decide) (by decide) fun i h0 h2 => ?_
  refine sp_one B N (by omega) _ (show 1 ≤ 8 by decide) (show 8 ≤ 100 by decide) fun x hx => h x ?_
  simp only [List.mem_cons, List.not_mem_nil, or_false] at hx
  rcases hx with rfl | rfl | rfl | rfl | rfl | rfl | rfl | rfl
  · exact .inl rfl
  · exact .inr (.inl rfl)
  · exact .inr (.inr (.inl rfl))
  · exact .inr (.inr (.inr ⟨0, by decide, by decide, rfl⟩))
  · exact .inr (.inr (.inr ⟨1, by decide, by decide, rfl⟩))
  · exact .inr (.inr (.inr ⟨2, by decide, by decide, rfl⟩))
  · exact .inr (.inr (.inr ⟨7, by decide, by decide, rfl⟩))
  · exact .inr (.inr (.inr ⟨i, h0, h2, rfl⟩))
theorem sp_type0 (h1 : 4 ≤ k) (h : ∀ t, hgt t ≤ 0 → regs t = [] → K (.tup [told t, .lst (regs t)]) M) : PhiS g k (S' "_law_type") [.src, .int 0] M K := by
  obtain ⟨k, rfl⟩ : ∃ j, k = j + 1 := ⟨k - 1, by omega⟩
  refine B.step (by omega) rfl ?_
  refine sp_one B N (by omega) _ (by decide) (by decide) fun x hx => ?_
  simp only [List.mem_cons, List.not_mem_nil, or_false] at hx
  rcases hx with rfl | rfl | rfl | rfl
  · exact h .bool (Nat.le_refl _) rfl
  · exact h .int8 (Nat.le_refl _) rfl
  · exact h .param (Nat.le_refl _) rfl
  · exact h .never (Nat.le_refl _) rfl
theorem sp_type0' (h1 : 4 ≤ k) (h : ∀ t, hgt t ≤ 0 → Reg (regs t) → (regs t).length ≤ 0 → K (.tup [told t, .lst (regs t)]) M) : PhiS g k (S' "_law_type") [.src, .int 0] M K :=
  sp_type0 B N h1 fun t h1 h2 => h t h1 (by rw [h2]; intro d hd; simp at hd) (by rw [h2]; exact Nat.le_refl _)
theorem sp_type1 (h1 : 6 ≤ k) (h : ∀ t, hgt t ≤ 1 → Reg (regs t) → (regs t).length ≤ 2 → K (.tup [told t, .lst (regs t)]) M) : PhiS g k (S' "_law_type") [.src, .int 1] M K := by
  obtain ⟨k, rfl⟩ : ∃ j, k = j + 1 := ⟨k - 1, by omega⟩
  refine B.step (by omega) rfl ?_
  refine sp_type0' B N (by omega) fun t hT hR hL => ?_
  refine sp_region B N (by omega) fun r hr => ?_
  refine N.take k _ _ _ (by omega) (by decide) (by decide) fun i h0 h2 => ?_
  have hreg : ∀ m, Reg (regs (.ref r m t)) := fun m d hd => by
    rcases List.mem_cons.mp hd with q | q
    · exact q ▸ hr
    · exact hR d q
  rcases (show i = 0 ∨ i = 1 ∨ i = 2 ∨ i = 3 ∨ i = 4 ∨ i = 5 by omega) with rfl | rfl | rfl | rfl | rfl | rfl
  · refine ⟨show 1 + (regs t).length ≤ 100000 by omega, ?_⟩
    exact h (.ref r true t) (Nat.succ_le_succ hT) (hreg _) (by simp only [regs, List.length_cons]; omega)
  · refine ⟨show 1 + (regs t).length ≤ 100000 by omega, ?_⟩
    exact h (.ref r false t) (Nat.succ_le_succ hT) (hreg _) (by simp only [regs, List.length_cons]; omega)
  · exact h (.box t) (Nat.succ_le_succ hT) hR (by simp only [regs]; omega)
  · exact h (.arr t) (Nat.succ_le_succ hT) hR (by simp only [regs]; omega)
  · refine sp_type0' B N (by omega) fun u hT2 hR2 hL2 => ?_
    refine ⟨show (regs t).length + (regs u).length ≤ 100000 by omega, ?_⟩
    exact h (.tup t u) (Nat.succ_le_succ (Nat.max_le.mpr ⟨hT, hT2⟩)) (fun d hd => (List.mem_append.mp hd).elim (hR d) (hR2 d)) (by simp only [regs, List.length_append]; omega)
  · refine sp_type0' B N (by omega) fun u hT2 hR2 hL2 => ?_
    refine ⟨show 2 + (regs t).length ≤ 100000 by omega, ?_⟩
    refine ⟨show (r :: .int 5 :: (regs t)).length + (regs u).length ≤ 100000 by simp only [List.length_cons]; omega, ?_⟩
    refine h (.adt r t u) (Nat.succ_le_succ (Nat.max_le.mpr ⟨hT, hT2⟩)) (fun d hd => ?_) (by simp only [regs, List.length_append, List.length_cons]; omega)
    rcases List.mem_cons.mp hd with q | q
    · exact q ▸ hr
    · rcases List.mem_cons.mp q with q | q
      · exact .inr (.inr (.inr ⟨5, by decide, by decide, q⟩))
      · exact (List.mem_append.mp q).elim (hR d) (hR2 d)
theorem sp_type2 (h1 : 7 ≤ k) (h : ∀ t, hgt t ≤ 2 → Reg (regs t) → (regs t).length ≤ 6 → K (.tup [told t, .lst (regs t)]) M) : PhiS g k (S' "_law_type") [.src, .int 2] M K := by
  obtain ⟨k, rfl⟩ : ∃ j, k = j + 1 := ⟨k - 1, by omega⟩
  refine B.step (by omega) rfl ?_
  refine sp_type1 B N (by omega) fun t hT hR hL => ?_
  refine sp_region B N (by omega) fun r hr => ?_
  refine N.take k _ _ _ (by omega) (by decide) (by decide) fun i h0 h2 => ?_
  have hreg : ∀ m, Reg (regs (.ref r m t)) := fun m d hd => by
    rcases List.mem_cons.mp hd with q | q
    · exact q ▸ hr
    · exact hR d q
  rcases (show i = 0 ∨ i = 1 ∨ i = 2 ∨ i = 3 ∨ i = 4 ∨ i = 5 by omega) with rfl | rfl | rfl | rfl | rfl | rfl
  · refine ⟨show 1 + (regs t).length ≤ 100000 by omega, ?_⟩
    exact h (.ref r true t) (Nat.succ_le_succ hT) (hreg _) (by simp only [regs, List.length_cons]; omega)
  · refine ⟨show 1 + (regs t).length ≤ 100000 by omega, ?_⟩
    exact h (.ref r false t) (Nat.succ_le_succ hT) (hreg _) (by simp only [regs, List.length_cons]; omega)
  · exact h (.box t) (Nat.succ_le_succ hT) hR (by simp only [regs]; omega)
  · exact h (.arr t) (Nat.succ_le_succ hT) hR (by simp only [regs]; omega)
  · refine sp_type1 B N (by omega) fun u hT2 hR2 hL2 => ?_
    refine ⟨show (regs t).length + (regs u).length ≤ 100000 by omega, ?_⟩
    exact h (.tup t u) (Nat.succ_le_succ (Nat.max_le.mpr ⟨hT, hT2⟩)) (fun d hd => (List.mem_append.mp hd).elim (hR d) (hR2 d)) (by simp only [regs, List.length_append]; omega)
  · refine sp_type1 B N (by omega) fun u hT2 hR2 hL2 => ?_
    refine ⟨show 2 + (regs t).length ≤ 100000 by omega, ?_⟩
    refine ⟨show (r :: .int 5 :: (regs t)).length + (regs u).length ≤ 100000 by simp only [List.length_cons]; omega, ?_⟩
    refine h (.adt r t u) (Nat.succ_le_succ (Nat.max_le.mpr ⟨hT, hT2⟩)) (fun d hd => ?_) (by simp only [regs, List.length_append, List.length_cons]; omega)
    rcases List.mem_cons.mp hd with q | q
    · exact q ▸ hr
    · rcases List.mem_cons.mp q with q | q
      · exact .inr (.inr (.inr ⟨5, by decide, by decide, q⟩))
      · exact (List.mem_append.mp q).elim (hR d) (hR2 d)
end
end Mine
end

section
set_option backward.match.sparseCases false
open PySem PySem.W PySem.Calls PyProof.Rows
set_option Elab.async false
set_option maxRecDepth 100000
set_option maxHeartbeats 4000000
set_option smartUnfolding false
namespace Mine

theorem setL_at {α : Type} (l : List (Str × α)) (x : Str) (d : α) : (setL l x d).lookup x = some d := by rw [lookup_setL, if_pos rfl]
/-- what an rvalue tells -/
noncomputable def RvOk (g : Gl) (rv : D) (rs : List D) : Prop := Reg rs ∧ rs.length ≤ 6 ∧ ∀ (k : Nat) (M : Mu) (K : KE), 12 ≤ k → K (.lst rs) M → PhiS g k (S' "rvalue_regions") [rv] M K
/-- what a callee tells -/
noncomputable def CaOk (g : Gl) (ca : D) (rs : List D) : Prop := Reg rs ∧ rs.length ≤ 12 ∧ ∀ (k : Nat) (M : Mu) (K : KE), 12 ≤ k → K (.lst rs) M → PhiS g k (S' "callee_regions") [ca] M K

section
variable {g : Gl} {k : Nat} (B : Base g) (N : Man g) {M : Mu} {K : KE}
include B N
theorem rv_use (a : D) : RvOk g (.tup [st "use", a]) [] := by
  refine ⟨fun d hd => by simp at hd, by simp, fun k M K hk h => ?_⟩
  obtain ⟨k, rfl⟩ : ∃ j, k = j + 1 := ⟨k - 1, by omega⟩
  refine B.step (by omega) rfl ?_
  exact h
theorem rv_box (a : D) : RvOk g (.tup [st "box", a]) [] := by
  refine ⟨fun d hd => by simp at hd, by simp, fun k M K hk h => ?_⟩
  obtain ⟨k, rfl⟩ : ∃ j, k = j + 1 := ⟨k - 1, by omega⟩
  refine B.step (by omega) rfl ?_
  exact h
theorem rv_tuple (a : D) : RvOk g (.tup [st "tuple", a]) [] := by
  refine ⟨fun d hd => by simp at hd, by simp, fun k M K hk h => ?_⟩
  obtain ⟨k, rfl⟩ : ∃ j, k = j + 1 := ⟨k - 1, by omega⟩
  refine B.step (by omega) rfl ?_
  exact h
theorem rv_discriminant (a : D) : RvOk g (.tup [st "discriminant", a]) [] := by
  refine ⟨fun d hd => by simp at hd, by simp, fun k M K hk h => ?_⟩
  obtain ⟨k, rfl⟩ : ∃ j, k = j + 1 := ⟨k - 1, by omega⟩
  refine B.step (by omega) rfl ?_
  exact h
theorem rv_binary (a b c : D) : RvOk g (.tup [st "binary", a, b, c]) [] := by
  refine ⟨fun d hd => by simp at hd, by simp, fun k M K hk h => ?_⟩
  obtain ⟨k, rfl⟩ : ∃ j, k = j + 1 := ⟨k - 1, by omega⟩
  refine B.step (by omega) rfl ?_
  exact h
theorem rv_unary (a b : D) : RvOk g (.tup [st "unary", a, b]) [] := by
  refine ⟨fun d hd => by simp at hd, by simp, fun k M K hk h => ?_⟩
  obtain ⟨k, rfl⟩ : ∃ j, k = j + 1 := ⟨k - 1, by omega⟩
  refine B.step (by omega) rfl ?_
  exact h
theorem rv_array (a : D) : RvOk g (.tup [st "array", a]) [] := by
  refine ⟨fun d hd => by simp at hd, by simp, fun k M K hk h => ?_⟩
  obtain ⟨k, rfl⟩ : ∃ j, k = j + 1 := ⟨k - 1, by omega⟩
  refine B.step (by omega) rfl ?_
  exact h
theorem sp_rvalue (h1 : 9 ≤ k) (h : ∀ rv rs, RvOk g rv rs → K (.tup [rv, .lst rs]) M) : PhiS g k (S' "_law_rvalue") [.src] M K := by
  obtain ⟨k, rfl⟩ : ∃ j, k = j + 1 := ⟨k - 1, by omega⟩
  refine B.step (by omega) rfl ?_
  refine sp_type2 B N (by omega) fun t hT hR hL => ?_
  refine sp_region B N (by omega) fun r hr => ?_
  refine sp_one B N (by omega) _ (show 1 ≤ 10 by decide) (show 10 ≤ 100 by decide) fun x hx => ?_
  simp only [List.mem_cons, List.not_mem_nil, or_false] at hx
  rcases hx with rfl | rfl | rfl | rfl | rfl | rfl | rfl | rfl | rfl | rfl
  · refine h _ [r] ⟨fun d hd => by rw [List.mem_singleton.mp hd]; exact hr, by simp, fun k M K hk h => ?_⟩
    obtain ⟨k, rfl⟩ : ∃ j, k = j + 1 := ⟨k - 1, by omega⟩
    refine B.step (by omega) rfl ?_
    exact h
  · refine h _ (regs t) ⟨hR, by omega, fun k M K hk h => ?_⟩
    obtain ⟨k, rfl⟩ : ∃ j, k = j + 1 := ⟨k - 1, by omega⟩
    refine B.step (by omega) rfl ?_
    exact N.regions t k M K (by omega) (by omega) hR h
  · refine h _ (regs t) ⟨hR, by omega, fun k M K hk h => ?_⟩
    obtain ⟨k, rfl⟩ : ∃ j, k = j + 1 := ⟨k - 1, by omega⟩
    refine B.step (by omega) rfl ?_
    exact N.regions t k M K (by omega) (by omega) hR h
  · exact h _ [] (rv_use B N _)
  · exact h _ [] (rv_box B N _)
  · exact h _ [] (rv_tuple B N _)
  · exact h _ [] (rv_discriminant B N _)
  · exact h _ [] (rv_binary B N _ _ _)
  · exact h _ [] (rv_unary B N _ _)
  · exact h _ [] (rv_array B N _)
end
end Mine
end

section
open PySem PySem.W PySem.Calls PyProof.Rows
set_option Elab.async false
set_option maxRecDepth 100000
set_option maxHeartbeats 4000000
set_option smartUnfolding false
namespace Mine

/-- a loop that hands on what it meets -/
theorem id_loop2 {r : Ev} {x : Str} {p p2 : Pos} {f : Fm} {K : List D → Mu → Prop} (hx : f.sc.names.lookup x = some .local) (hr : ∀ (d : D) (M : Mu) (K : KE), K d M → r.E (.Name x p) (f.set x d) M K) : ∀ (xs : List D) (M : Mu) (acc : List D), acc.length + xs.length ≤ 100000 → K (acc ++ xs) M →
    compL (lastB r (.Name x p)) r (.Name x p2) [] f xs M acc K
  | [], M, acc, _, h => by rw [List.append_nil] at h; exact h
  | d :: xs, M, acc, hl, h => by
    rw [List.length_cons] at hl
    rw [compL]
    simp only [forceF_eq]
    show (match isLoc (f.sc.names.lookup x) with | true => (fun f1 => testsP r [] f1 M fun b M1 => match b with
          | true => lastB r (.Name x p) f1 M1 acc fun acc2 M2 => compL (lastB r (.Name x p)) r (.Name x p2) [] f xs M2 acc2 K
          | false => compL (lastB r (.Name x p)) r (.Name x p2) [] f xs M1 acc K) (f.set x d) | false => False)
    rw [hx]
    show r.E (.Name x p) (f.set x d) M (fun d2 M2 => acc.length ≤ 100000 ∧ compL (lastB r (.Name x p)) r (.Name x p2) [] f xs M2 (acc ++ [d2]) K)
    refine hr d M _ ⟨by omega, ?_⟩
    exact id_loop2 hx hr xs M (acc ++ [d]) (by simp; omega) (by simpa using h)
theorem name_hr {f : Fm} {x : Str} (hn : okN x = true) (d : D) (M : Mu) (K : KE) (h : K d M) : nameP (f.set x d) x M K := by
  unfold nameP
  rw [hn]
  have e : (f.set x d).loc.lookup x = some d := setL_at f.loc x d
  simp only [e]
  exact h
theorem id_comp {r : Ev} {x : Str} {p p2 : Pos} {f : Fm} {K : List D → Mu → Prop} {xs : List D} {M : Mu} {acc : List D} (hf : freshT (.Name x p2) f = true) (hx : f.sc.names.lookup x = some .local) (hr : ∀ (d : D) (M : Mu) (K : KE), K d M → r.E (.Name x p) (f.set x d) M K) (hl : acc.length + xs.length ≤ 100000) (h : K (acc ++ xs) M) :
    compG (lastB r (.Name x p)) r (.Name x p2) [] f xs M acc K := by
  unfold compG
  rw [hf]
  exact id_loop2 hx hr xs M acc hl h

section
variable {g : Gl} {k : Nat} (B : Base g) (N : Man g) {M : Mu} {K : KE}
include B N
theorem sp_cr_fn (h1 : 12 ≤ k) (ts : List Ty) (hl : ts.length ≤ 2) (hs : ∀ t ∈ ts, hgt t ≤ 1 ∧ (regs t).length ≤ 2 ∧ Reg (regs t)) (h : K (.lst (ts.flatMap regs)) M) : PhiS g k (S' "callee_regions") [.tup [st "fn", st "f", .tup (ts.map told)]] M K := by
  obtain ⟨k, rfl⟩ : ∃ j, k = j + 1 := ⟨k - 1, by omega⟩
  match ts, hl with
  | [], _ =>
    refine B.step (by omega) rfl ?_
    refine ⟨show 0 ≤ 100000 by decide, ?_⟩
    exact h
  | [t], _ =>
    obtain ⟨a1, a2, a3⟩ := hs t (by simp)
    refine B.step (by omega) rfl ?_
    refine ⟨show 1 ≤ 100000 by decide, ?_⟩
    refine N.regions t k _ _ (by omega) (by omega) a3 ?_
    refine ⟨show (regs t).length ≤ 100000 by omega, ?_⟩
    refine id_comp ?_ ?_ ?_ ?_ ?_
    · rfl
    · rfl
    · exact fun d M K h => h
    · simp; omega
    have e : [t].flatMap regs = [] ++ regs t := by simp
    rw [e] at h
    exact h
  | [t, u], _ =>
    obtain ⟨a1, a2, a3⟩ := hs t (by simp)
    obtain ⟨b1, b2, b3⟩ := hs u (by simp)
    refine B.step (by omega) rfl ?_
    refine ⟨show 2 ≤ 100000 by decide, ?_⟩
    refine N.regions t k _ _ (by omega) (by omega) a3 ?_
    refine ⟨show (regs t).length ≤ 100000 by omega, ?_⟩
    refine id_comp ?_ ?_ ?_ ?_ ?_
    · rfl
    · rfl
    · exact fun d M K h => h
    · simp; omega
    refine N.regions u k _ _ (by omega) (by omega) b3 ?_
    refine ⟨show (regs u).length ≤ 100000 by omega, ?_⟩
    refine id_comp ?_ ?_ ?_ ?_ ?_
    · rfl
    · rfl
    · exact fun d M K h => h
    · simp; omega
    have e : [t, u].flatMap regs = ([] ++ regs t) ++ regs u := by simp
    rw [e] at h
    exact h

theorem sp_cr_meth (h1 : 12 ≤ k) (t0 : Ty) (ts : List Ty) (hl : ts.length ≤ 2) (hs0 : hgt t0 ≤ 1 ∧ (regs t0).length ≤ 2 ∧ Reg (regs t0)) (hs : ∀ t ∈ ts, hgt t ≤ 1 ∧ (regs t).length ≤ 2 ∧ Reg (regs t)) (h : K (.lst (regs t0 ++ ts.flatMap regs)) M) : PhiS g k (S' "callee_regions") [.tup [st "method", st "Tr", st "go", told t0, .tup (ts.map told)]] M K := by
  obtain ⟨k, rfl⟩ : ∃ j, k = j + 1 := ⟨k - 1, by omega⟩
  obtain ⟨c1, c2, c3⟩ := hs0
  match ts, hl with
  | [], _ =>
    refine B.step (by omega) rfl ?_
    refine ⟨show 1 ≤ 100000 by decide, ?_⟩
    refine ⟨show 1 ≤ 100000 by decide, ?_⟩
    refine N.regions t0 k _ _ (by omega) (by omega) c3 ?_
    refine ⟨show (regs t0).length ≤ 100000 by omega, ?_⟩
    refine id_comp ?_ ?_ ?_ ?_ ?_
    · rfl
    · rfl
    · exact fun d M K h => h
    · simp; omega
    have e : regs t0 ++ [].flatMap regs = [] ++ regs t0 := by simp
    rw [e] at h
    exact h
  | [t], _ =>
    obtain ⟨a1, a2, a3⟩ := hs t (by simp)
    refine B.step (by omega) rfl ?_
    refine ⟨show 2 ≤ 100000 by decide, ?_⟩
    refine ⟨show 2 ≤ 100000 by decide, ?_⟩
    refine N.regions t0 k _ _ (by omega) (by omega) c3 ?_
    refine ⟨show (regs t0).length ≤ 100000 by omega, ?_⟩
    refine id_comp ?_ ?_ ?_ ?_ ?_
    · rfl
    · rfl
    · exact fun d M K h => h
    · simp; omega
    refine N.regions t k _ _ (by omega) (by omega) a3 ?_
    refine ⟨show (regs t).length ≤ 100000 by omega, ?_⟩
    refine id_comp ?_ ?_ ?_ ?_ ?_
    · rfl
    · rfl
    · exact fun d M K h => h
    · simp; omega
    have e : regs t0 ++ [t].flatMap regs = ([] ++ regs t0) ++ regs t := by simp
    rw [e] at h
    exact h
  | [t, u], _ =>
    obtain ⟨a1, a2, a3⟩ := hs t (by simp)
    obtain ⟨b1, b2, b3⟩ := hs u (by simp)
    refine B.step (by omega) rfl ?_
    refine ⟨show 3 ≤ 100000 by decide, ?_⟩
    refine ⟨show 3 ≤ 100000 by decide, ?_⟩
    refine N.regions t0 k _ _ (by omega) (by omega) c3 ?_
    refine ⟨show (regs t0).length ≤ 100000 by omega, ?_⟩
    refine id_comp ?_ ?_ ?_ ?_ ?_
    · rfl
    · rfl
    · exact fun d M K h => h
    · simp; omega
    refine N.regions t k _ _ (by omega) (by omega) a3 ?_
    refine ⟨show (regs t).length ≤ 100000 by omega, ?_⟩
    refine id_comp ?_ ?_ ?_ ?_ ?_
    · rfl
    · rfl
    · exact fun d M K h => h
    · simp; omega
    refine N.regions u k _ _ (by omega) (by omega) b3 ?_
    refine ⟨show (regs u).length ≤ 100000 by omega, ?_⟩
    refine id_comp ?_ ?_ ?_ ?_ ?_
    · rfl
    · rfl
    · exact fun d M K h => h
    · simp; omega
    have e : regs t0 ++ [t, u].flatMap regs = (([] ++ regs t0) ++ regs t) ++ regs u := by simp
    rw [e] at h
    exact h
end

/-- a list of draws -/
theorem draw_loop {r : Ev} {elt : Expr} {x : Str} {p2 : Pos} {f : Fm} {K : List D → Mu → Prop} (P : D → Prop) (M : Mu) (hx : f.sc.names.lookup x = some .local) (hb : ∀ (d : D) (K : KE), (∀ y, P y → K y M) → r.E elt (f.set x d) M K) : ∀ (n : Nat) (a : Int) (acc : List D), acc.length + n ≤ 100000 →
    (∀ xs : List D, xs.length = n → (∀ y ∈ xs, P y) → K (acc ++ xs) M) → compL (lastB r elt) r (.Name x p2) [] f (rangeFrom a n) M acc K
  | 0, a, acc, _, h => by
    have := h [] rfl (fun y hy => by simp at hy)
    rw [List.append_nil] at this
    exact this
  | n + 1, a, acc, hl, h => by
    rw [rangeFrom, compL]
    simp only [forceF_eq]
    show (match isLoc (f.sc.names.lookup x) with | true => (fun f1 => testsP r [] f1 M fun b M1 => match b with
          | true => lastB r elt f1 M1 acc fun acc2 M2 => compL (lastB r elt) r (.Name x p2) [] f (rangeFrom (a + 1) n) M2 acc2 K
          | false => compL (lastB r elt) r (.Name x p2) [] f (rangeFrom (a + 1) n) M1 acc K) (f.set x (.int a)) | false => False)
    rw [hx]
    show r.E elt (f.set x (.int a)) M (fun d2 M2 => acc.length ≤ 100000 ∧ compL (lastB r elt) r (.Name x p2) [] f (rangeFrom (a + 1) n) M2 (acc ++ [d2]) K)
    refine hb _ _ fun y hy => ⟨by omega, ?_⟩
    refine draw_loop P M hx hb n (a + 1) (acc ++ [y]) (by simp; omega) fun xs hn hp => ?_
    have := h (y :: xs) (by simp [hn]) (fun z hz => (List.mem_cons.mp hz).elim (fun q => q ▸ hy) (hp z))
    simpa using this
theorem draw_comp {r : Ev} {elt : Expr} {x : Str} {p2 : Pos} {f : Fm} {K : List D → Mu → Prop} {M : Mu} {n : Nat} (P : D → Prop) (hf : freshT (.Name x p2) f = true) (hx : f.sc.names.lookup x = some .local) (hb : ∀ (d : D) (K : KE), (∀ y, P y → K y M) → r.E elt (f.set x d) M K) (hn : n ≤ 100000)
    (h : ∀ xs : List D, xs.length = n → (∀ y ∈ xs, P y) → K xs M) : compG (lastB r elt) r (.Name x p2) [] f (rangeFrom 0 n) M [] K := by
  unfold compG
  rw [hf]
  exact draw_loop P M hx hb n 0 [] (by simpa using hn) fun xs h1 h2 => by simpa using h xs h1 h2
end Mine
end

section
open PySem PySem.W PySem.Calls PyProof.Rows
set_option Elab.async false
set_option maxRecDepth 100000
set_option maxHeartbeats 4000000
set_option smartUnfolding false
namespace Mine

theorem list_of {α : Type} {P : D → Prop} {Q : α → Prop} {F : α → D} (h : ∀ y, P y → ∃ t, y = F t ∧ Q t) : ∀ {xs : List D}, (∀ y ∈ xs, P y) → ∃ ts : List α, xs = ts.map F ∧ ts.length = xs.length ∧ ∀ t ∈ ts, Q t
  | [], _ => ⟨[], rfl, rfl, fun t ht => by simp at ht⟩
  | x :: xs, hx => by
    obtain ⟨t, rfl, q⟩ := h x (hx x List.mem_cons_self)
    obtain ⟨ts, rfl, e, q2⟩ := list_of h (xs := xs) fun y hy => hx y (List.mem_cons_of_mem _ hy)
    exact ⟨t :: ts, rfl, by simp, fun u hu => (List.mem_cons.mp hu).elim (fun z => z ▸ q) (q2 u)⟩

noncomputable abbrev Small (t : Ty) : Prop := hgt t ≤ 1 ∧ Reg (regs t) ∧ (regs t).length ≤ 2
noncomputable abbrev pairT (t : Ty) : D := .tup [told t, .lst (regs t)]
theorem Reg.app {a b : List D} (x : Reg a) (y : Reg b) : Reg (a ++ b) := fun d hd => (List.mem_append.mp hd).elim (x d) (y d)
theorem Reg.nil : Reg [] := fun d hd => by simp at hd

section
variable {g : Gl} {k : Nat} (B : Base g) (N : Man g) {M : Mu} {K : KE}
include B N
theorem ca_fn (ts : List Ty) (hl : ts.length ≤ 2) (hs : ∀ t ∈ ts, Small t) {rs : List D} (he : rs = ts.flatMap regs) (hR : Reg rs) (hL : rs.length ≤ 12) : CaOk g (.tup [st "fn", st "f", .tup (ts.map told)]) rs :=
  ⟨hR, hL, fun k M K hk h => sp_cr_fn B N hk ts hl (fun t ht => ⟨(hs t ht).1, (hs t ht).2.2, (hs t ht).2.1⟩) (he ▸ h)⟩
theorem ca_meth (t0 : Ty) (ts : List Ty) (hl : ts.length ≤ 2) (h0 : Small t0) (hs : ∀ t ∈ ts, Small t) {rs : List D} (he : rs = regs t0 ++ ts.flatMap regs) (hR : Reg rs) (hL : rs.length ≤ 12) : CaOk g (.tup [st "method", st "Tr", st "go", told t0, .tup (ts.map told)]) rs :=
  ⟨hR, hL, fun k M K hk h => sp_cr_meth B N hk t0 ts hl ⟨h0.1, h0.2.2, h0.2.1⟩ (fun t ht => ⟨(hs t ht).1, (hs t ht).2.2, (hs t ht).2.1⟩) (he ▸ h)⟩
theorem sp_callee (h1 : 9 ≤ k) (h : ∀ ca rs, CaOk g ca rs → K (.tup [ca, .lst rs]) M) : PhiS g k (S' "_law_callee") [.src] M K := by
  obtain ⟨k, rfl⟩ : ∃ j, k = j + 1 := ⟨k - 1, by omega⟩
  refine B.step (by omega) rfl ?_
  refine N.take k _ _ _ (by omega) (by decide) (by decide) fun i h0 h2 => ?_
  refine ⟨⟨h0, by omega⟩, ?_⟩
  refine draw_comp (fun y => ∃ t : Ty, y = pairT t ∧ Small t) ?_ ?_ ?_ ?_ ?_
  · rfl
  · rfl
  · exact fun d K h => sp_type1 B N (by omega) fun t a b c => h _ ⟨t, rfl, a, b, c⟩
  · omega
  intro xs hn hp
  obtain ⟨ts, rfl, e, hs⟩ := list_of (fun y h => h) hp
  have hts : ts.length ≤ 2 := by omega
  match ts, hts with
  | [], _ =>
    refine ⟨show 0 ≤ 100000 by decide, ?_⟩
    refine ⟨show 0 ≤ 100000 by decide, ?_⟩
    refine ⟨show 0 ≤ 100000 by decide, ?_⟩
    refine N.take k _ _ _ (by omega) (by decide) (by decide) fun j j0 j2 => ?_
    rcases (show j = 0 ∨ j = 1 by omega) with rfl | rfl
    · exact h _ _ (ca_fn B N [] (by decide) hs rfl Reg.nil (by decide))
    · refine sp_type1 B N (by omega) fun t a b c => ?_
      refine ⟨show (regs t).length + 0 ≤ 100000 by omega, ?_⟩
      exact h _ _ (ca_meth B N t [] (by decide) ⟨a, b, c⟩ hs rfl (b.app Reg.nil) (by simp; omega))
  | [t], _ =>
    obtain ⟨a1, b1, c1⟩ := hs t (by simp)
    refine ⟨show 1 ≤ 100000 by decide, ?_⟩
    refine ⟨show 0 ≤ 100000 by decide, ?_⟩
    refine ⟨show 1 ≤ 100000 by decide, ?_⟩
    refine ⟨show 1 ≤ 100000 by decide, ?_⟩
    refine ⟨show (regs t).length ≤ 100000 by omega, ?_⟩
    refine id_comp ?_ ?_ ?_ ?_ ?_
    · rfl
    · rfl
    · exact fun d M K h => h
    · simp; omega
    refine N.take k _ _ _ (by omega) (by decide) (by decide) fun j j0 j2 => ?_
    rcases (show j = 0 ∨ j = 1 by omega) with rfl | rfl
    · exact h _ _ (ca_fn B N [t] (by simp) hs (by simp) (Reg.nil.app b1) (by simp; omega))
    · refine sp_type1 B N (by omega) fun t0 a b c => ?_
      refine ⟨show (regs t0).length + ([] ++ regs t).length ≤ 100000 by simp; omega, ?_⟩
      exact h _ _ (ca_meth B N t0 [t] (by simp) ⟨a, b, c⟩ hs (by simp) (b.app (Reg.nil.app b1)) (by simp; omega))
  | [t, u], _ =>
    obtain ⟨a1, b1, c1⟩ := hs t (by simp)
    obtain ⟨a2, b2, c2⟩ := hs u (by simp)
    refine ⟨show 2 ≤ 100000 by decide, ?_⟩
    refine ⟨show 0 ≤ 100000 by decide, ?_⟩
    refine ⟨show 1 ≤ 100000 by decide, ?_⟩
    refine ⟨show 2 ≤ 100000 by decide, ?_⟩
    refine ⟨show 2 ≤ 100000 by decide, ?_⟩
    refine ⟨show (regs t).length ≤ 100000 by omega, ?_⟩
    refine id_comp ?_ ?_ ?_ ?_ ?_
    · rfl
    · rfl
    · exact fun d M K h => h
    · simp; omega
    refine ⟨show (regs u).length ≤ 100000 by omega, ?_⟩
    refine id_comp ?_ ?_ ?_ ?_ ?_
    · rfl
    · rfl
    · exact fun d M K h => h
    · simp; omega
    refine N.take k _ _ _ (by omega) (by decide) (by decide) fun j j0 j2 => ?_
    rcases (show j = 0 ∨ j = 1 by omega) with rfl | rfl
    · exact h _ _ (ca_fn B N [t, u] (by simp) hs (by simp) ((Reg.nil.app b1).app b2) (by simp; omega))
    · refine sp_type1 B N (by omega) fun t0 a b c => ?_
      refine ⟨show (regs t0).length + (([] ++ regs t) ++ regs u).length ≤ 100000 by simp; omega, ?_⟩
      exact h _ _ (ca_meth B N t0 [t, u] (by simp) ⟨a, b, c⟩ hs (by simp) (b.app ((Reg.nil.app b1).app b2)) (by simp; omega))
end
end Mine
end

section
open PySem PySem.W PySem.Calls PyProof.Rows
set_option Elab.async false
set_option maxRecDepth 100000
set_option maxHeartbeats 4000000
set_option linter.unusedVariables false
set_option smartUnfolding false
namespace Mine

noncomputable def forParts (s : Stmt) : Expr × List Stmt := match s with | .For t _ b _ _ => (t, b) | _ => (.Constant .none 0 default, [])
noncomputable def nth (ss : List Stmt) (i : Nat) : Stmt := ss.getD i (.Pass default)
noncomputable def grS : Scope := (defIn top (S' "greatest_region")).2.2
noncomputable def grI : Stmt := nth (forParts (nth (defIn top (S' "greatest_region")).2.1 2)).2 0

/-- statements of a block, and the regions that they tell -/
inductive SsOk (g : Gl) : List D → List D → Prop
  | nil : SsOk g [] []
  | live {ss rs} : SsOk g ss rs → SsOk g (.tup [st "live", .int 99] :: ss) rs
  | nop {ss rs} : SsOk g ss rs → SsOk g (.tup [st "nop"] :: ss) rs
  | prt {a ss rs} : SsOk g ss rs → SsOk g (.tup [st "print", a] :: ss) rs
  | asg {p rv r ss rs} : RvOk g rv r → SsOk g ss rs → SsOk g (.tup [st "assign", p, rv] :: ss) (r ++ rs)
theorem SsOk.reg {g : Gl} {ss rs : List D} (h : SsOk g ss rs) : Reg rs := by
  induction h with
  | nil => exact Reg.nil
  | live _ ih => exact ih
  | nop _ ih => exact ih
  | prt _ ih => exact ih
  | asg a _ ih => exact a.1.app ih
theorem SsOk.append {g : Gl} {ss rs us vs : List D} (h : SsOk g ss rs) (h2 : SsOk g us vs) : SsOk g (ss ++ us) (rs ++ vs) := by
  induction h with
  | nil => exact h2
  | live _ ih => exact .live ih
  | nop _ ih => exact .nop ih
  | prt _ ih => exact .prt ih
  | asg a _ ih => rw [List.append_assoc]; exact .asg a ih
noncomputable def EndOk (g : Gl) (e : D) (rs : List D) : Prop := (e = .tup [st "return"] ∧ rs = []) ∨ ∃ ca x y z, e = .tup [st "call", ca, x, y, z] ∧ CaOk g ca rs
theorem EndOk.reg {g : Gl} {e : D} {rs : List D} (h : EndOk g e rs) : Reg rs ∧ rs.length ≤ 12 := by
  rcases h with ⟨_, rfl⟩ | ⟨_, _, _, _, _, h⟩
  · exact ⟨Reg.nil, by decide⟩
  · exact ⟨h.1, h.2.1⟩

noncomputable abbrev grF (bd row S T s0 : D) (l : List D) : Fm := ⟨grS, [(S' "body", bd), (S' "row", row), (S' "statements", S), (S' "terminator", T), (S' "statement", s0)], [(S' "found", l)]⟩
noncomputable abbrev grF0 (bd row S T : D) (l : List D) : Fm := ⟨grS, [(S' "body", bd), (S' "row", row), (S' "statements", S), (S' "terminator", T)], [(S' "found", l)]⟩
theorem gr_inner {g : Gl} {k n : Nat} (hk : 12 ≤ k) {ow : List Str} {bd row S T : D} {M : Mu} {K : KS} {ss rs : List D} (h : SsOk g ss rs) : ∀ (s0 : D) (l : List D), l.length + rs.length ≤ 10000 → (∀ s1, K .next (grF bd row S T s1 (l ++ rs)) M) →
    forP (forParts grI).1 (fun f1 M2 K2 => evS (PhiS g k) ow (n + 5) (forParts grI).2 f1 M2 K2) ss (grF bd row S T s0 l) M K := by
  induction h with
  | nil => intro s0 l hl h; rw [List.append_nil] at h; exact h s0
  | live _ ih => intro s0 l hl h; exact ih _ l hl h
  | nop _ ih => intro s0 l hl h; exact ih _ l hl h
  | prt _ ih => intro s0 l hl h; exact ih _ l hl h
  | asg a _ ih =>
    intro s0 l hl h
    rw [List.length_append] at hl
    refine ⟨by omega, ?_⟩
    refine a.2.2 k _ _ hk ?_
    refine ⟨by omega, ?_⟩
    exact ih _ (l ++ _) (by rw [List.length_append]; omega) fun s1 => by rw [List.append_assoc]; exact h s1
theorem gr_inner0 {g : Gl} {k n : Nat} (hk : 12 ≤ k) {ow : List Str} {bd row S T : D} {M : Mu} {K : KS} {ss rs : List D} (h : SsOk g ss rs) (l : List D) (hl : l.length + rs.length ≤ 10000) (hK : ∀ f, (f = grF0 bd row S T (l ++ rs) ∨ ∃ s1, f = grF bd row S T s1 (l ++ rs)) → K .next f M) :
    forP (forParts grI).1 (fun f1 M2 K2 => evS (PhiS g k) ow (n + 5) (forParts grI).2 f1 M2 K2) ss (grF0 bd row S T l) M K := by
  cases h with
  | nil => rw [List.append_nil] at hK; exact hK _ (.inl rfl)
  | live h => exact gr_inner hk h _ l hl fun s1 => hK _ (.inr ⟨s1, rfl⟩)
  | nop h => exact gr_inner hk h _ l hl fun s1 => hK _ (.inr ⟨s1, rfl⟩)
  | prt h => exact gr_inner hk h _ l hl fun s1 => hK _ (.inr ⟨s1, rfl⟩)
  | asg a h =>
    rw [List.length_append] at hl
    refine ⟨by omega, ?_⟩
    refine a.2.2 k _ _ hk ?_
    refine ⟨by omega, ?_⟩
    exact gr_inner hk h _ (l ++ _) (by rw [List.length_append]; omega) fun s1 => by rw [List.append_assoc]; exact hK _ (.inr ⟨s1, rfl⟩)

noncomputable def isIntD : D → Bool
  | .int _ => true
  | _ => false
/-- a list, filtered -/
theorem int_loop {r : Ev} {x : Str} {c : Expr} {p p2 : Pos} {f : Fm} {K : List D → Mu → Prop} {M : Mu} (hx : f.sc.names.lookup x = some .local) (hr : ∀ (d : D) (M : Mu) (K : KE), K d M → r.E (.Name x p) (f.set x d) M K) (hc : ∀ (d : D) (K : Bool → Mu → Prop), isReg d → K (isIntD d) M → testsP r [c] (f.set x d) M K) : ∀ (xs : List D) (acc : List D), Reg xs → acc.length + xs.length ≤ 100000 → K (acc ++ xs.filter isIntD) M →
    compL (lastB r (.Name x p)) r (.Name x p2) [c] f xs M acc K
  | [], acc, _, _, h => by rw [List.filter_nil, List.append_nil] at h; exact h
  | d :: xs, acc, hR, hl, h => by
    rw [List.length_cons] at hl
    rw [compL]
    simp only [forceF_eq]
    show (match isLoc (f.sc.names.lookup x) with | true => (fun f1 => testsP r [c] f1 M fun b M1 => match b with
          | true => lastB r (.Name x p) f1 M1 acc fun acc2 M2 => compL (lastB r (.Name x p)) r (.Name x p2) [c] f xs M2 acc2 K
          | false => compL (lastB r (.Name x p)) r (.Name x p2) [c] f xs M1 acc K) (f.set x d) | false => False)
    rw [hx]
    refine hc d _ (hR d List.mem_cons_self) ?_
    have hR2 : Reg xs := fun y hy => hR y (List.mem_cons_of_mem _ hy)
    cases hi : isIntD d with
    | true =>
      rw [List.filter_cons_of_pos (by rw [hi])] at h
      show r.E (.Name x p) (f.set x d) M (fun d2 M2 => acc.length ≤ 100000 ∧ compL (lastB r (.Name x p)) r (.Name x p2) [c] f xs M2 (acc ++ [d2]) K)
      refine hr d M _ ⟨by omega, ?_⟩
      exact int_loop hx hr hc xs (acc ++ [d]) hR2 (by simp; omega) (by simpa using h)
    | false =>
      rw [List.filter_cons_of_neg (by rw [hi]; decide)] at h
      exact int_loop hx hr hc xs acc hR2 (by omega) h
theorem int_comp {r : Ev} {x : Str} {c : Expr} {p p2 : Pos} {f : Fm} {K : List D → Mu → Prop} {M : Mu} {xs : List D} (hf : freshT (.Name x p2) f = true) (hx : f.sc.names.lookup x = some .local) (hr : ∀ (d : D) (M : Mu) (K : KE), K d M → r.E (.Name x p) (f.set x d) M K) (hc : ∀ (d : D) (K : Bool → Mu → Prop), isReg d → K (isIntD d) M → testsP r [c] (f.set x d) M K)
    (hR : Reg xs) (hl : xs.length ≤ 100000) (h : ∀ ys, ys = xs.filter isIntD → K ys M) : compG (lastB r (.Name x p)) r (.Name x p2) [c] f xs M [] K := by
  unfold compG
  rw [hf]
  exact int_loop hx hr hc xs [] hR (by simpa using hl) (h _ (by simp))

/-- the greatest of the ints of a list that begins with 0 -/
noncomputable def mxD (l : List D) : Int := match intsOf (l.filter isIntD) with | some (i :: is) => is.foldl max i | _ => 0
theorem intsOf_some : ∀ l : List D, ∃ is, intsOf (l.filter isIntD) = some is
  | [] => ⟨[], rfl⟩
  | d :: l => by
    obtain ⟨is, h⟩ := intsOf_some l
    cases d
    case int i => exact ⟨i :: is, by rw [List.filter_cons_of_pos rfl, intsOf, h]; rfl⟩
    all_goals exact ⟨is, by rw [List.filter_cons_of_neg (by simp [isIntD]), h]⟩
theorem max_of {ys xs l : List D} {K : D → Prop} (e : ys = xs.filter isIntD) (e2 : xs = .int 0 :: l) (h : K (.int (mxD (.int 0 :: l)))) : bltP .max [.lst ys] K := by
  subst e e2
  obtain ⟨is, hi⟩ := intsOf_some l
  have e3 : intsOf ((D.int 0 :: l).filter isIntD) = some (0 :: is) := by rw [List.filter_cons_of_pos rfl, intsOf, hi]; rfl
  unfold mxD at h
  rw [e3] at h
  show (match (match intsOf ((D.int 0 :: l).filter isIntD) with | some is => (match is with | i :: is => some ((none : Option Prop), D.int (is.foldl max i)) | [] => none) | none => none) with | some (s, d) => withSide s (K d) | none => False)
  rw [e3]
  exact h
theorem zero_reg : isReg (.int 0) := .inr (.inr (.inr ⟨0, by decide, by decide, rfl⟩))

section
variable {g : Gl} {k : Nat} (B : Base g) (N : Man g) {M : Mu} {K : KE}
include B N
noncomputable abbrev grX (bd x S T : D) (ex : List (Str × D)) (l : List D) : Fm := ⟨grS, [(S' "body", bd), (S' "row", x), (S' "statements", S), (S' "terminator", T)] ++ ex, [(S' "found", l)]⟩
noncomputable def grT : Stmt := nth (defIn top (S' "greatest_region")).2.1 2
theorem gr_ret {ow : List Str} {bd x S T : D} {ex : List (Str × D)} (hex : ex = [] ∨ ∃ s1, ex = [(S' "statement", s1)]) {l l' : List D} (e : l = .int 0 :: l') (hR : Reg l) (hl : l.length ≤ 100000) (h : K (.int (mxD (.int 0 :: l'))) M) :
    evS (PhiS g k) ow 37 ((defIn top (S' "greatest_region")).2.1.drop 3) (grX bd x S T ex l) M (fun fl _ M1 => match fl with | .next => K .none M1 | .ret x => K x M1) := by
  rcases hex with rfl | ⟨s1, rfl⟩
  all_goals
    refine ⟨hl, ?_⟩
    refine int_comp ?_ ?_ ?_ ?_ hR hl ?_
    · rfl
    · rfl
    · exact fun d M K h => h
    · rintro d K (rfl | rfl | rfl | ⟨i, _, _, rfl⟩) h <;> exact ⟨rfl, h⟩
    exact fun ys hy => max_of hy e h
theorem gr_tail {ow : List Str} {n : Nat} {bd x S T : D} {ex : List (Str × D)} {tail : List D} (ht : tail = [] ∨ tail = [.lst [.lst [], .tup [st "return"]]]) (hex : ex = [] ∨ ∃ s1, ex = [(S' "statement", s1)]) {l : List D} {K' : KS}
    (h : ∀ S T, K' .next (grX bd x S T ex l) M) : forP (forParts grT).1 (fun f1 M2 K2 => evS (PhiS g k) ow (n + 8) (forParts grT).2 f1 M2 K2) tail (grX bd x S T ex l) M K' := by
  rcases ht with rfl | rfl
  · exact h _ _
  · rcases hex with rfl | ⟨s1, rfl⟩
    · exact ⟨show 0 ≤ 100000 by decide, h _ _⟩
    · exact ⟨show 0 ≤ 100000 by decide, h _ _⟩
theorem gr_rest (hk : 12 ≤ k) {ow : List Str} {ls : List D} {x : D} {ss rs l' l : List D} {e : D} {es : List D} {tail : List D} (hs : SsOk g ss rs) (he : EndOk g e es) (ht : tail = [] ∨ tail = [.lst [.lst [], .tup [st "return"]]]) (hl : l = .int 0 :: l') (hR : Reg l') (hlen : l'.length + rs.length ≤ 1000) (hss : ss.length ≤ 1000)
    (h : K (.int (mxD (.int 0 :: (l' ++ rs ++ es)))) M) :
    evS (PhiS g k) ow 38 ((defIn top (S' "greatest_region")).2.1.drop 2) ⟨grS, [(S' "body", .bod ls (.lst [.lst ss, e] :: tail)), (S' "row", x)], [(S' "found", l)]⟩ M (fun fl _ M1 => match fl with | .next => K .none M1 | .ret x => K x M1) := by
  have ll : l.length = l'.length + 1 := by rw [hl]; rfl
  have e1 : l ++ rs ++ es = .int 0 :: (l' ++ rs ++ es) := by rw [hl]; rfl
  have hes := he.reg
  have hR1 : Reg (l ++ rs ++ es) := by rw [e1]; exact fun d hd => (List.mem_cons.mp hd).elim (fun q => q ▸ zero_reg) (((hR.app hs.reg).app hes.1) d)
  have hlen1 : (l ++ rs).length + es.length ≤ 5000 := by simp only [List.length_append]; omega
  have fin : ∀ {bd x S T : D} {ex : List (Str × D)} {l : List D}, l = .int 0 :: (l' ++ rs ++ es) → Reg l → l.length ≤ 100000 → (ex = [] ∨ ∃ s1, ex = [(S' "statement", s1)]) → evS (PhiS g k) ow 37 ((defIn top (S' "greatest_region")).2.1.drop 3) (grX bd x S T ex l) M (fun fl _ M1 => match fl with | .next => K .none M1 | .ret x => K x M1) :=
    fun e hR hl hex => gr_ret B N hex e hR hl h
  refine ⟨show tail.length + 1 ≤ 100000 by rcases ht with rfl | rfl <;> decide, ?_⟩
  refine ⟨show ss.length ≤ 100000 by omega, ?_⟩
  refine gr_inner0 hk hs l (by omega) ?_
  generalize l ++ rs = L at e1 hR1 hlen1 ⊢
  clear hR hlen hss hl ll h hs
  rintro f (rfl | ⟨s1, rfl⟩)
  · rcases he with ⟨rfl, rfl⟩ | ⟨ca, y1, y2, y3, rfl, hc⟩
    · rw [List.append_nil] at e1 hR1
      refine gr_tail (ex := []) B N ht (.inl rfl) fun S T => ?_
      exact fin e1 hR1 (by omega) (.inl rfl)
    · refine ⟨show L.length ≤ 100000 by omega, ?_⟩
      refine hc.2.2 k _ _ hk ?_
      refine ⟨show es.length ≤ 100000 by omega, ?_⟩
      refine gr_tail (ex := []) B N ht (.inl rfl) fun S T => ?_
      exact fin e1 hR1 (by rw [List.length_append]; omega) (.inl rfl)
  · rcases he with ⟨rfl, rfl⟩ | ⟨ca, y1, y2, y3, rfl, hc⟩
    · rw [List.append_nil] at e1 hR1
      refine gr_tail (ex := [(S' "statement", s1)]) B N ht (.inr ⟨_, rfl⟩) fun S T => ?_
      exact fin e1 hR1 (by omega) (.inr ⟨_, rfl⟩)
    · refine ⟨show L.length ≤ 100000 by omega, ?_⟩
      refine hc.2.2 k _ _ hk ?_
      refine ⟨show es.length ≤ 100000 by omega, ?_⟩
      refine gr_tail (ex := [(S' "statement", s1)]) B N ht (.inr ⟨_, rfl⟩) fun S T => ?_
      exact fin e1 hR1 (by rw [List.length_append]; omega) (.inr ⟨_, rfl⟩)
end
end Mine
end

section
set_option backward.match.sparseCases false
open PySem PySem.W PySem.Calls PyProof.Rows
set_option Elab.async false
set_option maxRecDepth 100000
set_option maxHeartbeats 4000000
set_option linter.unusedVariables false
set_option linter.unusedSimpArgs false
set_option linter.unusedSectionVars false
set_option smartUnfolding false
namespace Mine

noncomputable abbrev rowT (t : Ty) : D := .tup [told t, .bool true, .none]
noncomputable abbrev Mid (t : Ty) : Prop := hgt t ≤ 2 ∧ Reg (regs t) ∧ (regs t).length ≤ 6
section
variable {g : Gl} {k : Nat} (B : Base g) (N : Man g) {M : Mu} {K : KE}
include B N
theorem sp_great1 (hk : 13 ≤ k) {t : Ty} (h1 : Mid t) {ss rs : List D} {e : D} {es : List D} {tail : List D} (hs : SsOk g ss rs) (he : EndOk g e es) (ht : tail = [] ∨ tail = [.lst [.lst [], .tup [st "return"]]]) (hlen : rs.length ≤ 100) (hss : ss.length ≤ 100)
    (h : K (.int (mxD (.int 0 :: (regs t ++ rs ++ es)))) M) : PhiS g k (S' "greatest_region") [.bod [rowT t] (.lst [.lst ss, e] :: tail)] M K := by
  obtain ⟨k, rfl⟩ : ∃ j, k = j + 1 := ⟨k - 1, by omega⟩
  obtain ⟨a1, a2, a3⟩ := h1
  refine B.step (by omega) rfl ?_
  refine ⟨show 1 ≤ 100000 by decide, ?_⟩
  refine ⟨show 1 ≤ 100000 by decide, ?_⟩
  refine N.regions t k _ _ (by omega) (by omega) a2 ?_
  refine ⟨show (regs t).length ≤ 100000 by omega, ?_⟩
  exact gr_rest (l' := regs t) B N (by omega) hs he ht rfl a2 (by omega) (by omega) h
theorem sp_great2 (hk : 13 ≤ k) {t u : Ty} (h1 : Mid t) (h2 : Mid u) {ss rs : List D} {e : D} {es : List D} {tail : List D} (hs : SsOk g ss rs) (he : EndOk g e es) (ht : tail = [] ∨ tail = [.lst [.lst [], .tup [st "return"]]]) (hlen : rs.length ≤ 100) (hss : ss.length ≤ 100)
    (h : K (.int (mxD (.int 0 :: ((regs t ++ regs u) ++ rs ++ es)))) M) : PhiS g k (S' "greatest_region") [.bod [rowT t, rowT u] (.lst [.lst ss, e] :: tail)] M K := by
  obtain ⟨k, rfl⟩ : ∃ j, k = j + 1 := ⟨k - 1, by omega⟩
  obtain ⟨a1, a2, a3⟩ := h1
  obtain ⟨b1, b2, b3⟩ := h2
  refine B.step (by omega) rfl ?_
  refine ⟨show 2 ≤ 100000 by decide, ?_⟩
  refine ⟨show 1 ≤ 100000 by decide, ?_⟩
  refine N.regions t k _ _ (by omega) (by omega) a2 ?_
  refine ⟨show (regs t).length ≤ 100000 by omega, ?_⟩
  refine ⟨show (regs t).length + 1 ≤ 100000 by omega, ?_⟩
  refine N.regions u k _ _ (by omega) (by omega) b2 ?_
  refine ⟨show (regs u).length ≤ 100000 by omega, ?_⟩
  exact gr_rest (l' := regs t ++ regs u) B N (by omega) hs he ht rfl (a2.app b2) (by rw [List.length_append]; omega) (by omega) h
end
theorem take_ok {g : Gl} {a : D} : ∀ n : Nat, SsOk g ([.tup [st "live", .int 99], .tup [st "nop"], .tup [st "print", a]].take n) []
  | 0 => .nil
  | 1 => .live .nil
  | 2 => .live (.nop .nil)
  | _ + 3 => by simpa using SsOk.live (.nop (.prt .nil))
theorem eq_fin {M : Mu} {K : KE} {a b : Int} (e : a = b) (h : K (.bool true) M) : K (.bool (a == b)) M := by
  rw [e, beq_self_eq_true]; exact h

noncomputable abbrev regL : D := .lst [.none, st "'a", st "'static"]
theorem eqOk_none : eqOk .none regL := ⟨rfl, by decide +kernel, by decide +kernel, by decide +kernel⟩
theorem eqOk_a : eqOk (st "'a") regL := ⟨by decide +kernel, by decide +kernel, by decide +kernel, by decide +kernel⟩
theorem eqOk_s : eqOk (st "'static") regL := ⟨by decide +kernel, by decide +kernel, by decide +kernel, by decide +kernel⟩
theorem eqOk_int (i : Int) : eqOk (.int i) regL := ⟨rfl, by decide +kernel, show (0 : Nat) ≤ 40 by decide, by decide +kernel⟩
theorem rangeFrom_length : ∀ (n : Nat) (a : Int), (rangeFrom a n).length = n
  | 0, _ => rfl
  | n + 1, a => congrArg (· + 1) (rangeFrom_length n (a + 1))
noncomputable abbrev boB : List Stmt := (defIn top (S' "_law_body_right")).2.1
noncomputable abbrev boS : Scope := (defIn top (S' "_law_body_right")).2.2
noncomputable abbrev boF (t u : Ty) (L F rows : List D) (ex : List (Str × D)) : Fm := ⟨boS, [(S' "source", .src), (S' "regions", .lst L), (S' "blocks", .lst []), (S' "at", .int 1), (S' "told", told u), (S' "found", .lst F)] ++ ex, [(S' "locals_told", [rowT t, rowT u]), (S' "rows", rows)]⟩
section
variable {g : Gl} {k : Nat} (B : Base g) (N : Man g) {M : Mu} {K : KE}
include B N
theorem body_ret (hk : 15 ≤ k) (h : K (.bool true) M) {t u : Ty} (h1 : Mid t) (h2 : Mid u) {rows rs es F : List D} {e ca : D} (hs : SsOk g rows rs) (hl : rs.length ≤ 100) (hss : rows.length ≤ 100) (he : EndOk g e es) (hes : es.length ≤ 100) {ex : List (Str × D)} (hex : ex = [] ∨ ∃ a b, ex = [(S' "turn", a), (S' "rvalue", b)]) :
    evS (PhiS g k) (growS 8 boB) 33 (boB.drop 7) (boF t u ([D.int 0] ++ regs t ++ regs u ++ rs ++ es) F rows (ex ++ [(S' "callee", ca), (S' "end", e)])) M (fun fl _ M1 => match fl with | .next => K .none M1 | .ret x => K x M1) := by
  obtain ⟨-, a2, a3⟩ := id h1
  obtain ⟨-, b2, b3⟩ := id h2
  have hR : Reg ([D.int 0] ++ regs t ++ regs u ++ rs ++ es) := ((((Reg.app (a := [D.int 0]) (fun d hd => by rw [List.mem_singleton.mp hd]; exact zero_reg) a2).app b2).app hs.reg).app he.reg.1)
  have hL : ([D.int 0] ++ regs t ++ regs u ++ rs ++ es).length ≤ 100000 := by simp only [List.length_append, List.length_cons, List.length_nil]; omega
  have hE : [D.int 0] ++ regs t ++ regs u ++ rs ++ es = .int 0 :: ((regs t ++ regs u) ++ rs ++ es) := by simp
  generalize [D.int 0] ++ regs t ++ regs u ++ rs ++ es = L at hR hL hE ⊢
  rcases hex with rfl | ⟨a, b, rfl⟩
  all_goals
    show PhiS g k (S' "Body") [.str (S' "f"), .int 0, .lst [rowT t, rowT u], .lst [.lst [.lst rows, e], .lst [.lst [], .tup [st "return"]]]] M _
    refine N.body k _ _ _ _ _ _ (by omega) (show 2 ≤ 1000 by decide) ?_
    refine sp_great2 (k := k) (ss := rows) B N (by omega) h1 h2 hs he (.inr rfl) hl hss ?_
    refine ⟨hL, ?_⟩
    refine int_comp ?_ ?_ ?_ ?_ hR hL ?_
    · rfl
    · rfl
    · exact fun d M K h => h
    · rintro d K (rfl | rfl | rfl | ⟨i, _, _, rfl⟩) h
      · exact ⟨eqOk_none, h⟩
      · exact ⟨eqOk_a, h⟩
      · exact ⟨eqOk_s, h⟩
      · exact ⟨eqOk_int _, h⟩
    intro ys hy
    refine max_of hy hE ?_
    exact eq_fin rfl h
theorem body_end (hk : 15 ≤ k) (h : K (.bool true) M) {t u : Ty} (h1 : Mid t) (h2 : Mid u) {L rows rs F : List D} (eL : L = [D.int 0] ++ regs t ++ regs u ++ rs) (hs : SsOk g rows rs) (hl : rs.length ≤ 100) (hss : rows.length ≤ 100) {ex : List (Str × D)} (hex : ex = [] ∨ ∃ a b, ex = [(S' "turn", a), (S' "rvalue", b)]) :
    evS (PhiS g k) (growS 8 boB) 36 (boB.drop 4) (boF t u L F rows ex) M (fun fl _ M1 => match fl with | .next => K .none M1 | .ret x => K x M1) := by
  have hL : L.length ≤ 1000 := by have := h1.2.2; have := h2.2.2; simp only [eL]; simp only [List.length_append, List.length_cons, List.length_nil]; omega
  have fin : ∀ (ca e : D) (cs es : List D), EndOk g e es → es.length ≤ 100 → evS (PhiS g k) (growS 8 boB) 33 (boB.drop 7) (boF t u (L ++ es) cs rows (ex ++ [(S' "callee", ca), (S' "end", e)])) M (fun fl _ M1 => match fl with | .next => K .none M1 | .ret x => K x M1) :=
    fun ca e cs es he hes => by rw [eL]; exact body_ret B N hk h h1 h2 hs hl hss he hes hex
  clear h1 h2 hs hl hss eL
  rcases hex with rfl | ⟨a, b, rfl⟩
  all_goals
    refine sp_callee B N (by omega) fun ca cs qc => ?_
    have qcl := qc.2.1
    refine sp_one B N (by omega) _ (show 1 ≤ 2 by decide) (show 2 ≤ 100 by decide) fun x hx => ?_
    rcases List.mem_cons.mp hx with rfl | hx
    · refine ⟨show L.length + 0 ≤ 100000 by omega, ?_⟩
      exact fin ca _ cs [] (.inl ⟨rfl, rfl⟩) (by decide)
    · obtain rfl := List.mem_singleton.mp hx
      refine ⟨show L.length + cs.length ≤ 100000 by omega, ?_⟩
      exact fin ca _ cs cs (.inr ⟨_, _, _, _, rfl, qc⟩) (by omega)
noncomputable def boL : Stmt := nth boB 3
theorem body_loop (hk : 15 ≤ k) {t u : Ty} {L0 : List D} (h0 : L0.length ≤ 100) {K' : KS} (xs : List D) : ∀ {L rows rs F : List D} {ex : List (Str × D)}, L = L0 ++ rs → SsOk g rows rs → rs.length + 6 * xs.length ≤ 100 → rows.length + xs.length ≤ 100 → (ex = [] ∨ ∃ a b, ex = [(S' "turn", a), (S' "rvalue", b)]) →
    (∀ {L rows rs F : List D} {ex : List (Str × D)}, L = L0 ++ rs → SsOk g rows rs → rs.length ≤ 100 → rows.length ≤ 100 → (ex = [] ∨ ∃ a b, ex = [(S' "turn", a), (S' "rvalue", b)]) → K' .next (boF t u L F rows ex) M) →
    forP (forParts boL).1 (fun f1 M2 K2 => evS (PhiS g k) (growS 8 boB) 36 (forParts boL).2 f1 M2 K2) xs (boF t u L F rows ex) M K' := by
  induction xs with
  | nil => exact fun e hs hl hr hex h => h e hs hl hr hex
  | cons x xs ih =>
    intro L rows rs F ex e hs hl hr hex h
    rw [List.length_cons] at hl hr
    have hL : L.length ≤ 1000 := by rw [e, List.length_append]; omega
    have go : ∀ v r, RvOk g v r → forP (forParts boL).1 (fun f1 M2 K2 => evS (PhiS g k) (growS 8 boB) 36 (forParts boL).2 f1 M2 K2) xs (boF t u (L ++ r) r (rows ++ [.tup [st "assign", .tup [.int 0, .tup []], v]]) [(S' "turn", x), (S' "rvalue", v)]) M K' := fun v r q => by
      have := q.2.1
      refine ih (rs := rs ++ r) ?_ ?_ ?_ ?_ (.inr ⟨_, _, rfl⟩) h
      · rw [e, List.append_assoc]
      · exact hs.append (List.append_nil r ▸ .asg q .nil)
      · rw [List.length_append]; omega
      · rw [List.length_append]; simp only [List.length_cons, List.length_nil]; omega
    clear ih h e hs
    rcases hex with rfl | ⟨a, b, rfl⟩
    all_goals
      refine sp_rvalue B N (by omega) fun v r q => ?_
      have := q.2.1
      refine ⟨show rows.length ≤ 100000 by omega, ?_⟩
      refine ⟨show L.length + r.length ≤ 100000 by omega, ?_⟩
      exact go v r q
end
theorem sp_body {g : Gl} {k : Nat} {M : Mu} {K : KE} (B : Base g) (N : Man g) (hk : 16 ≤ k) (h : K (.bool true) M) : PhiS g k (S' "_law_body_right") [.src] M K := by
  obtain ⟨k, rfl⟩ : ∃ j, k = j + 1 := ⟨k - 1, by omega⟩
  refine B.step (by omega) rfl ?_
  refine ⟨⟨by decide, by decide⟩, ?_⟩
  refine sp_type2 B N (by omega) fun t t1 t2 t3 => ?_
  refine ⟨show 0 ≤ 100000 by decide, ?_⟩
  refine ⟨show 1 + (regs t).length ≤ 100000 by omega, ?_⟩
  refine sp_type2 B N (by omega) fun u u1 u2 u3 => ?_
  refine ⟨show 1 ≤ 100000 by decide, ?_⟩
  refine ⟨show ([D.int 0] ++ regs t).length + (regs u).length ≤ 100000 by simp; omega, ?_⟩
  refine N.take k _ _ _ (by omega) (by decide) (by decide) fun i i0 i2 => ?_
  refine ⟨⟨i0, show i ≤ 3 by omega⟩, ?_⟩
  refine N.take k _ _ _ (by omega) (by decide) (by decide) fun j j0 j2 => ?_
  refine ⟨⟨j0, by omega⟩, ?_⟩
  have hT := take_ok (g := g) (a := .tup [st "const", .tup [st "ref", .int 98, .bool false, .tup [st "bool"]], .int 0]) i.toNat
  have hTl : ([.tup [st "live", .int 99], .tup [st "nop"], .tup [st "print", .tup [st "const", .tup [st "ref", .int 98, .bool false, .tup [st "bool"]], .int 0]]].take i.toNat : List D).length ≤ 3 := by simp; omega
  have hx : (rangeFrom 0 j.toNat).length ≤ 2 := by rw [rangeFrom_length]; omega
  refine body_loop (k := k) (t := t) (u := u) (L0 := [D.int 0] ++ regs t ++ regs u) (rs := []) (ex := []) B N (by omega) (by simp only [List.length_append, List.length_cons, List.length_nil]; omega) (rangeFrom 0 j.toNat) (by rw [List.append_nil]) hT (by simp only [List.length_nil]; omega) (Nat.le_trans (Nat.add_le_add hTl hx) (by decide)) (.inl rfl) ?_
  intro L rows rs F ex e hs hl hr hex
  rcases hex with rfl | ⟨a, b, rfl⟩
  · exact body_end (k := k) B N (by omega) h ⟨t1, t2, t3⟩ ⟨u1, u2, u3⟩ e hs hl hr (.inl rfl)
  · exact body_end (k := k) B N (by omega) h ⟨t1, t2, t3⟩ ⟨u1, u2, u3⟩ e hs hl hr (.inr ⟨_, _, rfl⟩)
end Mine
end

section
open PySem PySem.W PySem.Calls PyProof.Rows
set_option Elab.async false
set_option maxRecDepth 100000
set_option maxHeartbeats 4000000
set_option linter.unusedVariables false
set_option linter.unusedSectionVars false
set_option linter.unusedSimpArgs false
namespace Mine

inductive Way | co | inn | bi
noncomputable def wD : Way → D
  | .co => st "co"
  | .inn => st "in"
  | .bi => st "bi"
noncomputable def met : Way → Way → Way
  | _, .bi => .bi
  | .co, .co => .co
  | .bi, .co => .co
  | _, _ => .inn
noncomputable def beside (a b : D) : Way → List D
  | .co => [.tup [a, b]]
  | .inn => [.tup [a, b], .tup [b, a]]
  | .bi => []
/-- a region of a pair -/
noncomputable def rg (d : D) : Prop := d = st "'a" ∨ ∃ i, d = .int i
noncomputable def isIn (l : List D) (p : D) : Bool := (pys l).any fun y => PyData.eqv y p.py
noncomputable def add (l : List D) (a b : D) : List D := match eqV a b with
  | true => l
  | false => match isIn l (.tup [a, b]) with
    | true => l
    | false => l ++ [.tup [a, b]]
noncomputable def addP (l : List D) (p : D) : List D := match p with
  | .tup [a, b] => add l a b
  | _ => l
noncomputable def addAll (l : List D) (ps : List D) : List D := ps.foldl addP l
/-- pairs of regions -/
noncomputable def PP (l : List D) : Prop := ∀ p ∈ l, ∃ a b, rg a ∧ rg b ∧ p = .tup [a, b]
theorem PP.nil : PP [] := fun p hp => by simp at hp
theorem PP.app {a b : List D} (x : PP a) (y : PP b) : PP (a ++ b) := fun p hp => (List.mem_append.mp hp).elim (x p) (y p)
theorem PP.one {a b : D} (x : rg a) (y : rg b) : PP [.tup [a, b]] := fun p hp => ⟨a, b, x, y, List.mem_singleton.mp hp⟩
theorem PP.add {l : List D} {a b : D} (h : PP l) (x : rg a) (y : rg b) : PP (add l a b) := by
  unfold Mine.add
  split
  · exact h
  · split
    · exact h
    · exact h.app (.one x y)
theorem PP.beside {a b : D} (x : rg a) (y : rg b) (w : Way) : PP (Mine.beside a b w) := by
  cases w
  · exact .one x y
  · intro p hp
    rcases List.mem_cons.mp hp with q | q
    · exact ⟨a, b, x, y, q⟩
    · exact ⟨b, a, y, x, List.mem_singleton.mp q⟩
  · exact .nil
theorem PP.addAll {ps : List D} (hp : PP ps) : ∀ {l : List D}, PP l → PP (addAll l ps) := by
  induction ps with
  | nil => exact fun h => h
  | cons p ps ih =>
    intro l h
    obtain ⟨a, b, x, y, rfl⟩ := hp p List.mem_cons_self
    exact ih (fun q hq => hp q (List.mem_cons_of_mem _ hq)) (h.add x y)
theorem add_length (l : List D) (a b : D) : (add l a b).length ≤ l.length + 1 := by
  unfold add
  split
  · omega
  · split
    · omega
    · simp
theorem addAll_length {ps : List D} : ∀ {l : List D}, (addAll l ps).length ≤ l.length + ps.length := by
  induction ps with
  | nil => intro l; exact Nat.le_refl _
  | cons p ps ih =>
    intro l
    have h1 : (addP l p).length ≤ l.length + 1 := by
      unfold addP
      split
      · exact add_length _ _ _
      · omega
    have := ih (l := addP l p)
    rw [List.length_cons]
    show (addAll (addP l p) ps).length ≤ _
    omega
theorem addAll_app (l ps qs : List D) : addAll l (ps ++ qs) = addAll (addAll l ps) qs := by
  unfold addAll; rw [List.foldl_append]

theorem rg_ok {a : D} (h : rg a) : a.ok = true := by
  rcases h with rfl | ⟨i, rfl⟩
  · decide +kernel
  · rfl
theorem rg_depth {a : D} (h : rg a) : a.py.depth = 0 := by
  rcases h with rfl | ⟨i, rfl⟩ <;> rfl
theorem PP.oks {l : List D} (h : PP l) : oks l = true := by
  induction l with
  | nil => rfl
  | cons p l ih =>
    obtain ⟨a, b, x, y, rfl⟩ := h p List.mem_cons_self
    have := ih fun q hq => h q (List.mem_cons_of_mem _ hq)
    simp only [Mine.oks, D.ok, rg_ok x, rg_ok y, this, Bool.and_self]
theorem PP.depth {l : List D} (h : PP l) : PyData.depthAll (pys l) ≤ 1 := by
  induction l with
  | nil => exact Nat.zero_le _
  | cons p l ih =>
    obtain ⟨a, b, x, y, rfl⟩ := h p List.mem_cons_self
    have := ih fun q hq => h q (List.mem_cons_of_mem _ hq)
    simp only [pys, PyData.depthAll, D.py, PyData.depth, rg_depth x, rg_depth y]
    omega
theorem PP.ok {l : List D} (h : PP l) : (D.lst l).ok = true := by simpa [D.ok] using h.oks
theorem PP.dep {l : List D} (h : PP l) : (D.lst l).py.depth ≤ 40 := by
  have := h.depth
  simp only [D.py, PyData.depth]
  omega
theorem eqOk_in {a b : D} {l : List D} (x : rg a) (y : rg b) (h : PP l) : eqOk (.tup [a, b]) (.lst l) :=
  ⟨by simp only [D.ok, Mine.oks, rg_ok x, rg_ok y, Bool.and_self], h.ok, by simp only [D.py, pys, PyData.depth, PyData.depthAll, rg_depth x, rg_depth y]; decide, h.dep⟩
theorem eqOk_rg {a b : D} (x : rg a) (y : rg b) : eqOk a b := ⟨rg_ok x, rg_ok y, by rw [rg_depth x]; decide, by rw [rg_depth y]; decide⟩
theorem eq_rg {a b : D} {P : Prop} (x : rg a) (y : rg b) (h : P) : withSide (eqS a b) P := by
  rcases id x with rfl | ⟨i, rfl⟩ <;> rcases id y with rfl | ⟨j, rfl⟩
  · exact h
  · exact ⟨eqOk_rg x y, h⟩
  · exact ⟨eqOk_rg x y, h⟩
  · exact h
theorem eqOk_same {l : List D} (h : PP l) : eqOk (.lst l) (.lst l) := ⟨h.ok, h.ok, h.dep, h.dep⟩
theorem eqv_same {l : List D} (h : (D.lst l).ok = true) : PyData.eqv (D.lst l).py (D.lst l).py = true := SeqAt.eqv_refl _ (D.lay0 h)
theorem add_eq {l : List D} {a b : D} (h : eqV a b = true) : add l a b = l := by unfold add; rw [h]
theorem add_in {l : List D} {a b : D} (h : eqV a b = false) (h2 : isIn l (.tup [a, b]) = true) : add l a b = l := by unfold add; rw [h, h2]
theorem add_new {l : List D} {a b : D} (h : eqV a b = false) (h2 : isIn l (.tup [a, b]) = false) : add l a b = l ++ [.tup [a, b]] := by unfold add; rw [h, h2]

set_option smartUnfolding false
noncomputable def ktS : Scope := (defIn top (S' "_law_kept")).2.2
noncomputable def ktI : Stmt := nth (defIn top (S' "_law_kept")).2.1 1
noncomputable abbrev ktF (P a b : D) (l : List D) : Fm := ⟨ktS, [(S' "pairs", P), (S' "one", a), (S' "other", b)], [(S' "found", l)]⟩
noncomputable abbrev ktF0 (P : D) (l : List D) : Fm := ⟨ktS, [(S' "pairs", P)], [(S' "found", l)]⟩
theorem kept_loop {Φ : Phi} {n : Nat} {ow : List Str} {P : D} {M : Mu} {K : KS} : ∀ (ps : List D), PP ps → ∀ (a b : D) (l : List D), PP l → l.length + ps.length ≤ 100000 → (∀ a b, K .next (ktF P a b (addAll l ps)) M) →
    forP (forParts ktI).1 (fun f1 M2 K2 => evS Φ ow (n + 5) (forParts ktI).2 f1 M2 K2) ps (ktF P a b l) M K
  | [], _, a, b, l, _, _, h => h a b
  | p :: ps, hp, a, b, l, hl, hn, h => by
    obtain ⟨x, y, hx, hy, rfl⟩ := hp p List.mem_cons_self
    have hp2 : PP ps := fun q hq => hp q (List.mem_cons_of_mem _ hq)
    rw [List.length_cons] at hn
    have h : ∀ a b, K .next (ktF P a b (addAll (add l x y) ps)) M := h
    refine eq_rg hx hy ?_
    cases e : eqV x y
    case true =>
      rw [add_eq e] at h
      exact kept_loop ps hp2 x y l hl (by omega) h
    case false =>
      refine ⟨eqOk_in hx hy hl, ?_⟩
      cases e2 : (pys l).any fun z => PyData.eqv z (D.tup [x, y]).py
      rotate_left
      · rw [add_in e e2] at h
        exact kept_loop ps hp2 x y l hl (by omega) h
      · rw [add_new e e2] at h
        refine ⟨by omega, ?_⟩
        exact kept_loop ps hp2 x y (l ++ [.tup [x, y]]) (hl.app (.one hx hy)) (by simp; omega) h
theorem kept_loop0 {Φ : Phi} {n : Nat} {ow : List Str} {P : D} {M : Mu} {K : KS} (ps : List D) (hp : PP ps) (hn : ps.length ≤ 10000) (h : ∀ f, (f = ktF0 P (addAll [] ps) ∨ ∃ a b, f = ktF P a b (addAll [] ps)) → K .next f M) :
    forP (forParts ktI).1 (fun f1 M2 K2 => evS Φ ow (n + 5) (forParts ktI).2 f1 M2 K2) ps (ktF0 P []) M K := by
  cases ps with
  | nil => exact h _ (.inl rfl)
  | cons p ps =>
    obtain ⟨x, y, hx, hy, rfl⟩ := hp p List.mem_cons_self
    have hp2 : PP ps := fun q hq => hp q (List.mem_cons_of_mem _ hq)
    rw [List.length_cons] at hn
    have h : ∀ a b, K .next (ktF P a b (addAll (add [] x y) ps)) M := fun a b => h _ (.inr ⟨a, b, rfl⟩)
    refine eq_rg hx hy ?_
    cases e : eqV x y
    case true =>
      rw [add_eq e] at h
      exact kept_loop ps hp2 x y [] .nil (by simp; omega) h
    case false =>
      refine ⟨eqOk_in hx hy .nil, ?_⟩
      cases e2 : (pys []).any fun z => PyData.eqv z (D.tup [x, y]).py
      rotate_left
      · rw [add_in e e2] at h
        exact kept_loop ps hp2 x y [] .nil (by simp; omega) h
      · rw [add_new e e2] at h
        refine ⟨show 0 ≤ 100000 by decide, ?_⟩
        exact kept_loop ps hp2 x y ([] ++ [.tup [x, y]]) (.one hx hy) (by simp; omega) h

section
variable {g : Gl} {k : Nat} (B : Base g) {M : Mu} {K : KE}
include B
theorem sp_kept (h1 : 2 ≤ k) {ps : List D} (hp : PP ps) (hn : ps.length ≤ 10000) (h : K (.lst (addAll [] ps)) M) : PhiS g k (S' "_law_kept") [.lst ps] M K := by
  obtain ⟨k, rfl⟩ : ∃ j, k = j + 1 := ⟨k - 1, by omega⟩
  refine B.step (by omega) rfl ?_
  refine ⟨show ps.length ≤ 100000 by omega, ?_⟩
  refine kept_loop0 ps hp hn ?_
  rintro f (rfl | ⟨a, b, rfl⟩) <;> exact h
theorem sp_inner (h1 : 2 ≤ k) (a b : Way) (h : K (wD (met a b)) M) : PhiS g k (S' "inner_way") [wD a, wD b] M K := by
  obtain ⟨k, rfl⟩ : ∃ j, k = j + 1 := ⟨k - 1, by omega⟩
  refine B.step (by omega) rfl ?_
  cases a <;> cases b <;> first | exact h | exact ⟨⟨by decide +kernel, by decide +kernel, by decide +kernel, by decide +kernel⟩, h⟩
theorem sp_met (h1 : 2 ≤ k) (a b : Way) (h : K (wD (met a b)) M) : PhiS g k (S' "_law_met") [wD a, wD b] M K := by
  obtain ⟨k, rfl⟩ : ∃ j, k = j + 1 := ⟨k - 1, by omega⟩
  refine B.step (by omega) rfl ?_
  cases a <;> cases b <;> exact h
theorem sp_beside (h1 : 2 ≤ k) (a b : D) (w : Way) (h : K (.lst (beside a b w)) M) : PhiS g k (S' "_law_beside") [a, b, wD w] M K := by
  obtain ⟨k, rfl⟩ : ∃ j, k = j + 1 := ⟨k - 1, by omega⟩
  refine B.step (by omega) rfl ?_
  cases w <;> exact h
theorem sp_outlives (h1 : 2 ≤ k) {ks : List Str} {vs : List D} {a b : D} (x : rg a) (y : rg b) (hM : PP M.prs) (hl : M.prs.length ≤ 10000) (h : K .none { M with prs := add M.prs a b }) : PhiS g k (S' "outlives") [.rel ks vs, a, b] M K := by
  obtain ⟨k, rfl⟩ : ∃ j, k = j + 1 := ⟨k - 1, by omega⟩
  refine B.stepM (by omega) rfl ?_
  refine eq_rg x y ?_
  cases e : eqV a b
  case true => rw [add_eq e] at h; exact h
  case false =>
    refine ⟨eqOk_in x y hM, ?_⟩
    cases e2 : (pys M.prs).any fun z => PyData.eqv z (D.tup [a, b]).py
    rotate_left
    · rw [add_in e e2] at h; exact h
    · rw [add_new e e2] at h
      exact ⟨hl, h⟩
theorem sp_region2 (h1 : 4 ≤ k) {ks : List Str} {vs : List D} {a b : D} (x : rg a) (y : rg b) (w : Way) (hM : PP M.prs) (hl : M.prs.length ≤ 5000) (h : K .none { M with prs := addAll M.prs (beside a b w) }) : PhiS g k (S' "region") [.rel ks vs, a, b, wD w] M K := by
  obtain ⟨k, rfl⟩ : ∃ j, k = j + 1 := ⟨k - 1, by omega⟩
  refine B.stepM (by omega) rfl ?_
  cases w
  · exact sp_outlives B (by omega) x y hM (by omega) h
  · refine sp_outlives B (by omega) x y hM (by omega) ?_
    have := add_length M.prs a b
    exact sp_outlives B (by omega) y x (hM.add x y) (by show (add M.prs a b).length ≤ _; omega) h
  · exact h
end
end Mine
end

section
set_option backward.match.sparseCases false
open PySem PySem.W PySem.Calls PyProof.Rows
set_option Elab.async false
set_option maxRecDepth 100000
set_option maxHeartbeats 4000000
set_option linter.unusedVariables false
set_option linter.unusedSectionVars false
set_option linter.unusedSimpArgs false
namespace Mine

inductive Rf0 | bool | ref (r : Int)
inductive Rf | bool | ref (r : Int) (m : Bool) (i : Rf0)
noncomputable abbrev boolD : D := .tup [st "bool"]
noncomputable def rf0D : Rf0 → D
  | .bool => boolD
  | .ref r => .tup [st "ref", .int r, .bool false, boolD]
noncomputable def rfD : Rf → D
  | .bool => boolD
  | .ref r m i => .tup [st "ref", .int r, .bool m, rf0D i]
noncomputable def inW (m : Bool) (w : Way) : Way := match m with | true => .inn | false => w
noncomputable def prs0 : Rf0 → Rf0 → Way → List D
  | .ref a, .ref b, w => beside (.int a) (.int b) w
  | _, _, _ => []
noncomputable def prsOf : Rf → Rf → Way → List D
  | .ref r _ i, .ref s m j, w => match w with
    | .bi => []
    | w => beside (.int r) (.int s) w ++ prs0 i j (inW m w)
  | _, _, _ => []
inductive Like : Rf → Rf → Prop
  | bool : Like .bool .bool
  | ref {a b c d e f} : Like (.ref a b c) (.ref d e f)

theorem rg_int (i : Int) : rg (.int i) := .inr ⟨i, rfl⟩
theorem beside_length (a b : D) (w : Way) : (beside a b w).length ≤ 2 := by cases w <;> simp [beside]
theorem PP.prs0 (a b : Rf0) (w : Way) : PP (prs0 a b w) := by
  unfold Mine.prs0
  split
  · exact .beside (rg_int _) (rg_int _) _
  · exact .nil
theorem prs0_length (a b : Rf0) (w : Way) : (prs0 a b w).length ≤ 2 := by
  unfold Mine.prs0
  split
  · exact beside_length _ _ _
  · exact Nat.zero_le _
theorem PP.prsOf (a b : Rf) (w : Way) : PP (prsOf a b w) := by
  unfold Mine.prsOf
  split
  · split
    · exact .nil
    · exact (PP.beside (rg_int _) (rg_int _) _).app (.prs0 _ _ _)
  · exact .nil
theorem prsOf_length (a b : Rf) (w : Way) : (prsOf a b w).length ≤ 4 := by
  cases a with
  | bool => simp [Mine.prsOf]
  | ref r m0 i =>
    cases b with
    | bool => simp [Mine.prsOf]
    | ref s m j =>
      have h2 := prs0_length i j (inW m w)
      have h1 := beside_length (.int r) (.int s) w
      cases w
      · simp only [Mine.prsOf, List.length_append]; omega
      · simp only [Mine.prsOf, List.length_append]; omega
      · exact Nat.zero_le _
/-- pairs, not too many -/
noncomputable def Ok (l : List D) (n : Nat) : Prop := PP l ∧ l.length ≤ n
theorem Ok.step {l ps : List D} {n : Nat} (h : Ok l n) (hp : PP ps) (hn : ps.length ≤ 4) : Ok (addAll l ps) (n + 4) := ⟨hp.addAll h.1, Nat.le_trans addAll_length (Nat.add_le_add h.2 hn)⟩
theorem Ok.bes {l : List D} {n : Nat} {a b : D} (h : Ok l n) (x : rg a) (y : rg b) (w : Way) : Ok (addAll l (beside a b w)) (n + 4) := h.step (.beside x y w) (Nat.le_trans (beside_length _ _ _) (by decide))
theorem Ok.prs {l : List D} {n : Nat} (h : Ok l n) (a b : Rf) (w : Way) : Ok (addAll l (prsOf a b w)) (n + 4) := h.step (.prsOf a b w) (prsOf_length _ _ _)
theorem Ok.prs0 {l : List D} {n : Nat} (h : Ok l n) (a b : Rf0) (w : Way) : Ok (addAll l (Mine.prs0 a b w)) (n + 4) := h.step (.prs0 a b w) (Nat.le_trans (prs0_length _ _ _) (by decide))

noncomputable def dueR : List D → List D → List Way → Way → List D
  | r :: rs, s :: ss, w :: ws, a => beside r s (met a w) ++ dueR rs ss ws a
  | _, _, _, _ => []
noncomputable def dueT : List Rf → List Rf → List Way → Way → List D
  | r :: rs, s :: ss, w :: ws, a => prsOf r s (met a w) ++ dueT rs ss ws a
  | _, _, _, _ => []

set_option smartUnfolding false
section
variable {g : Gl} {k : Nat} (B : Base g) {M : Mu} {K : KE}
include B
theorem sp_region3 (h1 : 4 ≤ k) {ks : List Str} {vs : List D} {a b : D} {n : Nat} (x : rg a) (y : rg b) (w : Way) (hM : Ok M.prs n) (hl : n ≤ 5000) (h : K .none { M with prs := addAll M.prs (beside a b w) }) : PhiS g k (S' "region") [.rel ks vs, a, b, wD w] M K :=
  sp_region2 B h1 x y w hM.1 (Nat.le_trans hM.2 hl) h
theorem sp_belowB (h1 : 2 ≤ k) {ks : List Str} {vs : List D} (w : Way) (h : K .none M) : PhiS g k (S' "below") [.rel ks vs, boolD, boolD, wD w] M K := by
  obtain ⟨k, rfl⟩ : ∃ j, k = j + 1 := ⟨k - 1, by omega⟩
  refine B.stepM (by omega) rfl ?_
  cases w <;> exact h
theorem sp_below0 (h1 : 6 ≤ k) {ks : List Str} {vs : List D} {n : Nat} (a b : Rf0) (w : Way) (hM : Ok M.prs n) (hl : n ≤ 5000) (h : K .none { M with prs := addAll M.prs (prs0 a b w) }) : PhiS g k (S' "below") [.rel ks vs, rf0D a, rf0D b, wD w] M K := by
  obtain ⟨k, rfl⟩ : ∃ j, k = j + 1 := ⟨k - 1, by omega⟩
  refine B.stepM (by omega) rfl ?_
  cases a
  case bool => cases b <;> cases w <;> exact h
  case ref r =>
    cases b
    case bool => cases w <;> exact h
    case ref s =>
      cases w
      case bi => exact h
      case co =>
        refine sp_region3 B (by omega) (rg_int r) (rg_int s) .co hM hl ?_
        exact sp_belowB B (by omega) .co h
      case inn =>
        refine sp_region3 B (by omega) (rg_int r) (rg_int s) .inn hM hl ?_
        exact sp_belowB B (by omega) .inn h
theorem sp_below (h1 : 7 ≤ k) {ks : List Str} {vs : List D} {n : Nat} (a b : Rf) (w : Way) (hM : Ok M.prs n) (hl : n ≤ 4000) (h : K .none { M with prs := addAll M.prs (prsOf a b w) }) : PhiS g k (S' "below") [.rel ks vs, rfD a, rfD b, wD w] M K := by
  obtain ⟨k, rfl⟩ : ∃ j, k = j + 1 := ⟨k - 1, by omega⟩
  refine B.stepM (by omega) rfl ?_
  cases a
  case bool => cases b <;> cases w <;> exact h
  case ref r m0 i =>
    cases b
    case bool => cases w <;> exact h
    case ref s m j =>
      cases w
      case bi => exact h
      case co =>
        have h : K .none { M with prs := addAll M.prs (beside (.int r) (.int s) .co ++ prs0 i j (inW m .co)) } := h
        rw [addAll_app] at h
        refine sp_region3 B (by omega) (rg_int r) (rg_int s) .co hM (by omega) ?_
        cases m
        · exact sp_below0 B (by omega) i j .co (hM.bes (rg_int r) (rg_int s) .co) (by omega) h
        · exact sp_below0 B (by omega) i j .inn (hM.bes (rg_int r) (rg_int s) .co) (by omega) h
      case inn =>
        have h : K .none { M with prs := addAll M.prs (beside (.int r) (.int s) .inn ++ prs0 i j (inW m .inn)) } := h
        rw [addAll_app] at h
        refine sp_region3 B (by omega) (rg_int r) (rg_int s) .inn hM (by omega) ?_
        cases m
        · exact sp_below0 B (by omega) i j .inn (hM.bes (rg_int r) (rg_int s) .inn) (by omega) h
        · exact sp_below0 B (by omega) i j .inn (hM.bes (rg_int r) (rg_int s) .inn) (by omega) h
theorem sp_pairs_of (h1 : 4 ≤ k) (a b : Rf) (w : Way) (hL : Like a b) (h : K (.lst (prsOf a b w)) M) : PhiS g k (S' "_law_pairs_of") [rfD a, rfD b, wD w] M K := by
  obtain ⟨k, rfl⟩ : ∃ j, k = j + 1 := ⟨k - 1, by omega⟩
  refine B.step (by omega) rfl ?_
  cases hL
  case bool => cases w <;> exact h
  case ref r m0 i s m j =>
    cases w
    case bi => exact h
    case co =>
      have h : K (.lst (beside (.int r) (.int s) .co ++ prs0 i j (inW m .co))) M := h
      refine sp_beside B (by omega) (.int r) (.int s) .co ?_
      have := beside_length (.int r) (.int s) .co
      cases i with
      | bool => exact (by rw [show beside (.int r) (.int s) .co ++ prs0 .bool j (inW m .co) = beside (.int r) (.int s) .co from List.append_nil _] at h; exact h)
      | ref i =>
        cases j with
        | bool => exact (by rw [show beside (.int r) (.int s) .co ++ prs0 (.ref i) .bool (inW m .co) = beside (.int r) (.int s) .co from List.append_nil _] at h; exact h)
        | ref j =>
          cases m
          · refine sp_beside B (by omega) (.int i) (.int j) .co ?_
            exact ⟨show 1 + 1 ≤ 100000 by decide, h⟩
          · refine sp_beside B (by omega) (.int i) (.int j) .inn ?_
            exact ⟨show 1 + 2 ≤ 100000 by decide, h⟩
    case inn =>
      have h : K (.lst (beside (.int r) (.int s) .inn ++ prs0 i j (inW m .inn))) M := h
      refine sp_beside B (by omega) (.int r) (.int s) .inn ?_
      cases i with
      | bool => exact (by rw [show beside (.int r) (.int s) .inn ++ prs0 .bool j (inW m .inn) = beside (.int r) (.int s) .inn from List.append_nil _] at h; exact h)
      | ref i =>
        cases j with
        | bool => exact (by rw [show beside (.int r) (.int s) .inn ++ prs0 (.ref i) .bool (inW m .inn) = beside (.int r) (.int s) .inn from List.append_nil _] at h; exact h)
        | ref j =>
          cases m
          · refine sp_beside B (by omega) (.int i) (.int j) .inn ?_
            exact ⟨show 2 + 2 ≤ 100000 by decide, h⟩
          · refine sp_beside B (by omega) (.int i) (.int j) .inn ?_
            exact ⟨show 2 + 2 ≤ 100000 by decide, h⟩
theorem sp_reference (N : Man g) (h1 : 5 ≤ k) (h : ∀ t : Rf, K (rfD t) M) : PhiS g k (S' "_law_reference") [.src] M K := by
  obtain ⟨k, rfl⟩ : ∃ j, k = j + 1 := ⟨k - 1, by omega⟩
  refine B.step (by omega) rfl ?_
  refine N.take k _ _ _ (by omega) (by decide) (by decide) fun i i0 i2 => ?_
  refine sp_one B N (by omega) _ (show 1 ≤ 2 by decide) (show 2 ≤ 100 by decide) fun x hx => ?_
  simp only [List.mem_cons, List.not_mem_nil, or_false] at hx
  refine N.take k _ _ _ (by omega) (by decide) (by decide) fun j j0 j2 => ?_
  refine N.take k _ _ _ (by omega) (by decide) (by decide) fun l l0 l2 => ?_
  refine sp_one B N (by omega) _ (show 1 ≤ 2 by decide) (show 2 ≤ 100 by decide) fun y hy => ?_
  simp only [List.mem_cons, List.not_mem_nil, or_false] at hy
  rcases hy with rfl | rfl
  · exact h .bool
  · rcases hx with rfl | rfl
    · exact h (.ref j _ .bool)
    · exact h (.ref j _ (.ref i))
end
end Mine
end

section
open PySem PySem.W PySem.Calls PyProof.Rows
set_option Elab.async false
set_option maxRecDepth 100000
set_option maxHeartbeats 4000000
set_option linter.unusedVariables false
set_option linter.unusedSectionVars false
set_option linter.unusedSimpArgs false
set_option smartUnfolding false
namespace Mine

noncomputable abbrev adtS (rs : List D) (ts : List Rf) : D := .tup [st "adt", st "S", .tup rs, .tup (ts.map rfD)]
section
variable {g : Gl} {k : Nat} (B : Base g) {M : Mu} {K : KE}
include B
theorem sp_parts00 (h1 : 9 ≤ k) (a : Way) {n : Nat} (hM : Ok M.prs n) (hl : n ≤ 1000) (h : K .none { M with prs := M.prs }) : PhiS g k (S' "parts_below") [.rel [S' "S"] [.tup []], adtS [] [], adtS [] [], wD a] M K := by
  obtain ⟨k, rfl⟩ : ∃ j, k = j + 1 := ⟨k - 1, by omega⟩
  refine B.stepM (by omega) rfl ?_
  refine ⟨show 0 ≤ 100000 by decide, ?_⟩
  refine ⟨show 0 ≤ 100000 by decide, ?_⟩
  exact h
theorem sp_parts01 (h1 : 9 ≤ k) (t0 u0 : Rf) (v0 : Way) (a : Way) {n : Nat} (hM : Ok M.prs n) (hl : n ≤ 1000) (h : K .none { M with prs := (addAll M.prs (prsOf t0 u0 (met a v0))) }) : PhiS g k (S' "parts_below") [.rel [S' "S"] [.tup [wD v0]], adtS [] [t0], adtS [] [u0], wD a] M K := by
  obtain ⟨k, rfl⟩ : ∃ j, k = j + 1 := ⟨k - 1, by omega⟩
  refine B.stepM (by omega) rfl ?_
  refine ⟨show 0 ≤ 100000 by decide, ?_⟩
  refine ⟨show 1 ≤ 100000 by decide, ?_⟩
  refine ⟨show 0 ≤ 100000 by decide, ?_⟩
  generalize hq : (((([] : List D).length : Nat)) : Int) = q
  obtain rfl : q = 0 := hq.symm
  refine sp_inner B (by omega) a v0 ?_
  refine sp_below B (by omega) t0 u0 (met a v0) hM (by omega) ?_
  exact h
theorem sp_parts02 (h1 : 9 ≤ k) (t0 t1 u0 u1 : Rf) (v0 v1 : Way) (a : Way) {n : Nat} (hM : Ok M.prs n) (hl : n ≤ 1000) (h : K .none { M with prs := (addAll (addAll M.prs (prsOf t0 u0 (met a v0))) (prsOf t1 u1 (met a v1))) }) : PhiS g k (S' "parts_below") [.rel [S' "S"] [.tup [wD v0, wD v1]], adtS [] [t0, t1], adtS [] [u0, u1], wD a] M K := by
  obtain ⟨k, rfl⟩ : ∃ j, k = j + 1 := ⟨k - 1, by omega⟩
  refine B.stepM (by omega) rfl ?_
  refine ⟨show 0 ≤ 100000 by decide, ?_⟩
  refine ⟨show 2 ≤ 100000 by decide, ?_⟩
  refine ⟨show 0 ≤ 100000 by decide, ?_⟩
  generalize hq : (((([] : List D).length : Nat)) : Int) = q
  obtain rfl : q = 0 := hq.symm
  refine sp_inner B (by omega) a v0 ?_
  refine sp_below B (by omega) t0 u0 (met a v0) hM (by omega) ?_
  refine ⟨show 0 ≤ 100000 by decide, ?_⟩
  generalize hq : (((([] : List D).length : Nat)) : Int) = q
  obtain rfl : q = 0 := hq.symm
  refine sp_inner B (by omega) a v1 ?_
  refine sp_below B (by omega) t1 u1 (met a v1) (hM.prs t0 u0 (met a v0)) (by omega) ?_
  exact h
theorem sp_parts10 (h1 : 9 ≤ k) {r0 s0 : D} (hr0 : rg r0) (hs0 : rg s0) (w0 : Way) (a : Way) {n : Nat} (hM : Ok M.prs n) (hl : n ≤ 1000) (h : K .none { M with prs := (addAll M.prs (beside r0 s0 (met a w0))) }) : PhiS g k (S' "parts_below") [.rel [S' "S"] [.tup [wD w0]], adtS [r0] [], adtS [s0] [], wD a] M K := by
  obtain ⟨k, rfl⟩ : ∃ j, k = j + 1 := ⟨k - 1, by omega⟩
  refine B.stepM (by omega) rfl ?_
  refine ⟨show 1 ≤ 100000 by decide, ?_⟩
  refine sp_inner B (by omega) a w0 ?_
  refine sp_region3 B (by omega) hr0 hs0 (met a w0) hM (by omega) ?_
  refine ⟨show 0 ≤ 100000 by decide, ?_⟩
  exact h
theorem sp_parts11 (h1 : 9 ≤ k) {r0 s0 : D} (hr0 : rg r0) (hs0 : rg s0) (w0 : Way) (t0 u0 : Rf) (v0 : Way) (a : Way) {n : Nat} (hM : Ok M.prs n) (hl : n ≤ 1000) (h : K .none { M with prs := (addAll (addAll M.prs (beside r0 s0 (met a w0))) (prsOf t0 u0 (met a v0))) }) : PhiS g k (S' "parts_below") [.rel [S' "S"] [.tup [wD w0, wD v0]], adtS [r0] [t0], adtS [s0] [u0], wD a] M K := by
  obtain ⟨k, rfl⟩ : ∃ j, k = j + 1 := ⟨k - 1, by omega⟩
  refine B.stepM (by omega) rfl ?_
  refine ⟨show 1 ≤ 100000 by decide, ?_⟩
  refine sp_inner B (by omega) a w0 ?_
  refine sp_region3 B (by omega) hr0 hs0 (met a w0) hM (by omega) ?_
  refine ⟨show 1 ≤ 100000 by decide, ?_⟩
  refine ⟨show 1 ≤ 100000 by decide, ?_⟩
  generalize hq : (((([r0] : List D).length : Nat)) : Int) = q
  obtain rfl : q = 1 := hq.symm
  refine sp_inner B (by omega) a v0 ?_
  refine sp_below B (by omega) t0 u0 (met a v0) (hM.bes hr0 hs0 (met a w0)) (by omega) ?_
  exact h
theorem sp_parts12 (h1 : 9 ≤ k) {r0 s0 : D} (hr0 : rg r0) (hs0 : rg s0) (w0 : Way) (t0 t1 u0 u1 : Rf) (v0 v1 : Way) (a : Way) {n : Nat} (hM : Ok M.prs n) (hl : n ≤ 1000) (h : K .none { M with prs := (addAll (addAll (addAll M.prs (beside r0 s0 (met a w0))) (prsOf t0 u0 (met a v0))) (prsOf t1 u1 (met a v1))) }) : PhiS g k (S' "parts_below") [.rel [S' "S"] [.tup [wD w0, wD v0, wD v1]], adtS [r0] [t0, t1], adtS [s0] [u0, u1], wD a] M K := by
  obtain ⟨k, rfl⟩ : ∃ j, k = j + 1 := ⟨k - 1, by omega⟩
  refine B.stepM (by omega) rfl ?_
  refine ⟨show 1 ≤ 100000 by decide, ?_⟩
  refine sp_inner B (by omega) a w0 ?_
  refine sp_region3 B (by omega) hr0 hs0 (met a w0) hM (by omega) ?_
  refine ⟨show 2 ≤ 100000 by decide, ?_⟩
  refine ⟨show 1 ≤ 100000 by decide, ?_⟩
  generalize hq : (((([r0] : List D).length : Nat)) : Int) = q
  obtain rfl : q = 1 := hq.symm
  refine sp_inner B (by omega) a v0 ?_
  refine sp_below B (by omega) t0 u0 (met a v0) (hM.bes hr0 hs0 (met a w0)) (by omega) ?_
  refine ⟨show 1 ≤ 100000 by decide, ?_⟩
  generalize hq : (((([r0] : List D).length : Nat)) : Int) = q
  obtain rfl : q = 1 := hq.symm
  refine sp_inner B (by omega) a v1 ?_
  refine sp_below B (by omega) t1 u1 (met a v1) ((hM.bes hr0 hs0 (met a w0)).prs t0 u0 (met a v0)) (by omega) ?_
  exact h
theorem sp_parts20 (h1 : 9 ≤ k) {r0 r1 s0 s1 : D} (hr0 : rg r0) (hr1 : rg r1) (hs0 : rg s0) (hs1 : rg s1) (w0 w1 : Way) (a : Way) {n : Nat} (hM : Ok M.prs n) (hl : n ≤ 1000) (h : K .none { M with prs := (addAll (addAll M.prs (beside r0 s0 (met a w0))) (beside r1 s1 (met a w1))) }) : PhiS g k (S' "parts_below") [.rel [S' "S"] [.tup [wD w0, wD w1]], adtS [r0, r1] [], adtS [s0, s1] [], wD a] M K := by
  obtain ⟨k, rfl⟩ : ∃ j, k = j + 1 := ⟨k - 1, by omega⟩
  refine B.stepM (by omega) rfl ?_
  refine ⟨show 2 ≤ 100000 by decide, ?_⟩
  refine sp_inner B (by omega) a w0 ?_
  refine sp_region3 B (by omega) hr0 hs0 (met a w0) hM (by omega) ?_
  refine sp_inner B (by omega) a w1 ?_
  refine sp_region3 B (by omega) hr1 hs1 (met a w1) (hM.bes hr0 hs0 (met a w0)) (by omega) ?_
  refine ⟨show 0 ≤ 100000 by decide, ?_⟩
  exact h
theorem sp_parts21 (h1 : 9 ≤ k) {r0 r1 s0 s1 : D} (hr0 : rg r0) (hr1 : rg r1) (hs0 : rg s0) (hs1 : rg s1) (w0 w1 : Way) (t0 u0 : Rf) (v0 : Way) (a : Way) {n : Nat} (hM : Ok M.prs n) (hl : n ≤ 1000) (h : K .none { M with prs := (addAll (addAll (addAll M.prs (beside r0 s0 (met a w0))) (beside r1 s1 (met a w1))) (prsOf t0 u0 (met a v0))) }) : PhiS g k (S' "parts_below") [.rel [S' "S"] [.tup [wD w0, wD w1, wD v0]], adtS [r0, r1] [t0], adtS [s0, s1] [u0], wD a] M K := by
  obtain ⟨k, rfl⟩ : ∃ j, k = j + 1 := ⟨k - 1, by omega⟩
  refine B.stepM (by omega) rfl ?_
  refine ⟨show 2 ≤ 100000 by decide, ?_⟩
  refine sp_inner B (by omega) a w0 ?_
  refine sp_region3 B (by omega) hr0 hs0 (met a w0) hM (by omega) ?_
  refine sp_inner B (by omega) a w1 ?_
  refine sp_region3 B (by omega) hr1 hs1 (met a w1) (hM.bes hr0 hs0 (met a w0)) (by omega) ?_
  refine ⟨show 1 ≤ 100000 by decide, ?_⟩
  refine ⟨show 2 ≤ 100000 by decide, ?_⟩
  generalize hq : (((([r0, r1] : List D).length : Nat)) : Int) = q
  obtain rfl : q = 2 := hq.symm
  refine sp_inner B (by omega) a v0 ?_
  refine sp_below B (by omega) t0 u0 (met a v0) ((hM.bes hr0 hs0 (met a w0)).bes hr1 hs1 (met a w1)) (by omega) ?_
  exact h
theorem sp_parts22 (h1 : 9 ≤ k) {r0 r1 s0 s1 : D} (hr0 : rg r0) (hr1 : rg r1) (hs0 : rg s0) (hs1 : rg s1) (w0 w1 : Way) (t0 t1 u0 u1 : Rf) (v0 v1 : Way) (a : Way) {n : Nat} (hM : Ok M.prs n) (hl : n ≤ 1000) (h : K .none { M with prs := (addAll (addAll (addAll (addAll M.prs (beside r0 s0 (met a w0))) (beside r1 s1 (met a w1))) (prsOf t0 u0 (met a v0))) (prsOf t1 u1 (met a v1))) }) : PhiS g k (S' "parts_below") [.rel [S' "S"] [.tup [wD w0, wD w1, wD v0, wD v1]], adtS [r0, r1] [t0, t1], adtS [s0, s1] [u0, u1], wD a] M K := by
  obtain ⟨k, rfl⟩ : ∃ j, k = j + 1 := ⟨k - 1, by omega⟩
  refine B.stepM (by omega) rfl ?_
  refine ⟨show 2 ≤ 100000 by decide, ?_⟩
  refine sp_inner B (by omega) a w0 ?_
  refine sp_region3 B (by omega) hr0 hs0 (met a w0) hM (by omega) ?_
  refine sp_inner B (by omega) a w1 ?_
  refine sp_region3 B (by omega) hr1 hs1 (met a w1) (hM.bes hr0 hs0 (met a w0)) (by omega) ?_
  refine ⟨show 2 ≤ 100000 by decide, ?_⟩
  refine ⟨show 2 ≤ 100000 by decide, ?_⟩
  generalize hq : (((([r0, r1] : List D).length : Nat)) : Int) = q
  obtain rfl : q = 2 := hq.symm
  refine sp_inner B (by omega) a v0 ?_
  refine sp_below B (by omega) t0 u0 (met a v0) ((hM.bes hr0 hs0 (met a w0)).bes hr1 hs1 (met a w1)) (by omega) ?_
  refine ⟨show 2 ≤ 100000 by decide, ?_⟩
  generalize hq : (((([r0, r1] : List D).length : Nat)) : Int) = q
  obtain rfl : q = 2 := hq.symm
  refine sp_inner B (by omega) a v1 ?_
  refine sp_below B (by omega) t1 u1 (met a v1) (((hM.bes hr0 hs0 (met a w0)).bes hr1 hs1 (met a w1)).prs t0 u0 (met a v0)) (by omega) ?_
  exact h
end
end Mine
end

section
open PySem PySem.W PySem.Calls PyProof.Rows
set_option Elab.async false
set_option maxRecDepth 100000
set_option linter.unusedVariables false
namespace Mine

section
variable {g : Gl} {n : Nat}
/-- into a call of a def -/
theorem fn_enter (G : GlOk g) {a : Addr} {d : Dfn} (Di : DefIs g a d) (Do : DefOk d) {ds : List D} {M : Mu} (hl : (argNames d.1).length = ds.length) {sp : Sp} {bad : Addr → Prop} {A : Around} {s : Shared} {vs : List Value} (w : W g sp bad s.heap) (m : MuOk g sp bad s.heap M)
    (rs : RepAll g sp bad s.heap vs ds) (R : Room A (n + 1)) {Q : Value → Shared → Prop}
    (h : ∀ (fd : FuncData) (o : Obj) (c : Cx) (h1 : Heap) (tk1 : Nat), g.hb.get? a = some o → o.data = .func fd → c.sp = sp → c.env = callEnvC fd s.heap.objs.size a → c.ow = [] → c.m = bindL (callEnvC fd s.heap.objs.size a).kindOf ((argNames d.1).zip vs) (fun _ => none) →
      Sf g (fun b => bad b ∨ b = s.heap.objs.size) c { sc := d.2.2, loc := (argNames d.1).zip ds, own := [] } h1 → MuOk g sp c.bad h1 M → (∀ b o, s.heap.get? b = some o → h1.get? b = some o) → Room (A.deeper c.env) n →
      (∀ x z, c.env.cells.lookup x = some z → h1.IsCell z (bindC (callEnvC fd s.heap.objs.size a).kindOf ((argNames d.1).zip vs) (fun _ => none) x) ∧ s.heap.objs.size < z ∧ s.heap.get? z = none) →
      wpAny (model pw g.w) (A.deeper c.env) (execs d.2.1 c.env) (fun fl s' => Q (match fl with | .ret v => v | _ => .none) s') (fun _ _ => False) { s with heap := h1, toks := tk1 }) :
    wpAny (model pw g.w) A (call (.ref a) vs) Q (fun _ _ => False) s := by
  obtain ⟨o, fd, ho, hd, e1, e2, e3, e4, e5, e6, e7, e8⟩ := Di
  have vl : vs.length = (argNames d.1).length := by rw [rs.length, hl]
  have kof : ∀ x, (callEnvC fd s.heap.objs.size a).kindOf x = d.2.2.names.lookup x := fun x => by show fd.scope.names.lookup x = _; rw [e3]
  refine wpAny_call (call_cellsB (o := o) (fd := fd) (body := d.2.1) (binds := (argNames d.1).zip vs) (by have := R.1; omega) (w.base _ _ ho) hd (G.nolim.keeps w.base) (e7.keeps w.base) e2 (e8 s vs w.base vl) e6 ?_ ?_ (by rw [e3]; exact Do.co) (by rw [e3]; exact Do.gen) (by rw [e3]; exact Do.kind))
  · intro x hx
    have hm : x.1 ∈ argNames d.1 := zip_keys x.1 (List.mem_map_of_mem hx)
    rw [e3]
    refine (Do.args x.1 hm).imp id fun q => ⟨q, ?_⟩
    obtain ⟨c, hc⟩ := cellsFrom_has d.2.2.names (s.heap.objs.size + 1) [] x.1 (lookup_mem q)
    obtain ⟨z, hz⟩ := lookup_of_mem hc
    rw [hz]; rfl
  · intro s₁ ic
    obtain ⟨h1, tk1, rfl⟩ := ic.toInCall.same
    have keep : ∀ b o, s.heap.get? b = some o → h1.get? b = some o := ic.toInCall.keep
    have ns : h1.Ns s.heap.objs.size (bindL (callEnvC fd s.heap.objs.size a).kindOf ((argNames d.1).zip vs) fun _ => none) := ic.toInCall.ns
    generalize hL : s.heap.objs.size = L at *
    have fL : s.heap.get? L = none := by rw [← hL, get_size]
    let P0 : Addr → Prop := fun b => b = L
    have u : Up bad (fun b => bad b ∨ P0 b) s.heap h1 := ⟨fun b o e _ => keep b o e, fun b o e q => q.elim id fun z => by
      have z : b = L := z
      rw [z, fL] at e; cases e⟩
    have nmL : ¬ sp.mu L := fun q => by
      obtain ⟨o, e⟩ := w.al L (w.mu L q)
      rw [fL] at e; cases e
    let c : Cx := { sp := sp, bad := fun b => bad b ∨ P0 b, env := callEnvC fd L a, m := bindL (callEnvC fd L a).kindOf ((argNames d.1).zip vs) fun _ => none, ow := [] }
    let f0 : Fm := { sc := d.2.2, loc := (argNames d.1).zip ds, own := [] }
    have no : ∀ b, ¬ Own c b := fun b ⟨x, q⟩ => by simp [c] at q
    have X : St g c f0 h1 := {
      w := ⟨fun b o e => keep b o (w.base b o e), fun b q => q.elim (fun z => let ⟨o, e⟩ := w.al b z; ⟨o, keep b o e⟩) fun z => by
          obtain ⟨o, _, _, e, _⟩ := ns
          exact ⟨o, z ▸ e⟩, fun b q => .inl (w.mu b q), fun b q => q.elim (w.muHb b) fun z => (by
          cases e : g.hb.get? b with
          | none => rfl
          | some o =>
            have := w.base b o e
            have z : b = L := z
            rw [z, fL] at this; cases this), w.s1, w.s2⟩
      kind := by show fd.scope.kind = _; rw [e3]; exact Do.kind
      glob := e4
      blt := e5
      ns := ns
      nL := nmL
      gl := fun x q => (kof x).trans q
      lo := fun x q => (kof x).trans q
      ce := fun x q => q.imp (fun z => (kof x).trans z) fun z => (kof x).trans z
      loc := fun x dd q => by
        obtain ⟨v, r1, r2, r3, r4⟩ := args_at (callEnvC fd L a).kindOf (fun _ => none) (fun _ => none) (nodup_of Do.nd) hl rs x dd q
        refine ⟨v, ?_, r1.up u⟩
        rcases Do.args x r2 with k | k
        · exact .inl ⟨(kof x).trans k, r3 ((kof x).trans k)⟩
        · have kx := (kof x).trans k
          obtain ⟨cc, hc⟩ := cellsFrom_has d.2.2.names (L + 1) [] x (lookup_mem k)
          obtain ⟨z, hz⟩ := lookup_of_mem hc
          have hz' : (callEnvC fd L a).cells.lookup x = some z := by show (cellsFrom (L + 1) fd.scope.names []).lookup x = _; rw [e3]; exact hz
          have cell := ic.cell x z hz'
          rw [r4 (by rw [kx]; decide)] at cell
          have lt := ic.above x z (lookup_mem hz')
          refine .inr ⟨.inl kx, z, hz', fun q => ?_, cell⟩
          obtain ⟨o, e⟩ := w.al z (w.mu z q)
          have := Heap.lt_size e
          rw [hL] at this
          exact Nat.lt_irrefl _ (Nat.lt_trans this lt)
      own := fun x l q => by cases q }
    have F : Sf g (fun b => bad b ∨ P0 b) c f0 h1 := ⟨X, fun b => ⟨.inl, fun q => q.elim id fun z => (no b z).elim⟩, fun b q => (no b q).elim, fun x y b q => by simp [c] at q, .inr rfl, fun b q => .inl (w.mu b q)⟩
    have R' : Room (A.deeper c.env) n := ⟨by have := R.1; show A.depth + 1 + n < _; omega, by have := R.2.1; show A.units + 3 + 40 * n + 200 < _; omega, R.2.2⟩
    exact h fd o c h1 tk1 ho hd rfl rfl rfl rfl F (m.up keep u) keep R' fun x z hz => by
      have lt := ic.above x z (lookup_mem hz)
      refine ⟨ic.cell x z hz, lt, ?_⟩
      cases e : s.heap.get? z with
      | none => rfl
      | some o =>
        have := Heap.lt_size e
        rw [hL] at this
        exact (Nat.lt_irrefl _ (Nat.lt_trans this lt)).elim
end

theorem rep_resp {g : Gl} {sp sp' : Sp} {bad : Addr → Prop} {h : Heap} : (∀ {v d}, Rep g sp bad h v d → d.ok = true → Rep g sp' bad h v d) ∧ (∀ {vs ds}, RepAll g sp bad h vs ds → oks ds = true → RepAll g sp' bad h vs ds) :=
  Rep.both (fun _ => .none) (fun b _ => .bool b) (fun i t _ => .int i t) (fun x t _ => .str x t) (fun _ k => fa_tr k) (fun e n _ q k => .tup e n (q k)) (fun e n _ q k => .lst e n (q k)) (fun _ _ _ _ _ k => fa_tr k) (fun _ k => fa_tr k) (fun _ _ k => fa_tr k) (fun _ _ _ _ k => fa_tr k) (fun _ _ _ _ _ _ _ k => fa_tr k)
    (fun _ => .nil) fun _ _ a r k => .cons (a (Bool.and_eq_true_iff.mp k).1) (r (Bool.and_eq_true_iff.mp k).2)
theorem Rep.resp {g : Gl} {sp sp' : Sp} {bad : Addr → Prop} {h : Heap} {v : Value} {d : D} (r : Rep g sp bad h v d) (k : d.ok = true) : Rep g sp' bad h v d := rep_resp.1 r k
theorem RepAll.resp {g : Gl} {sp sp' : Sp} {bad : Addr → Prop} {h : Heap} {vs : List Value} {ds : List D} (r : RepAll g sp bad h vs ds) (k : oks ds = true) : RepAll g sp' bad h vs ds := rep_resp.2 r k
end Mine
end

section
open PySem PySem.W PySem.Calls PyProof.Rows
set_option Elab.async false
set_option maxRecDepth 100000
set_option linter.unusedVariables false
namespace Mine

theorem make_ok {prog : Program} {w : World} {A : Around} {s : Shared} {C N : Addr} {mN : Str → Option Value} {fI : Addr} {oI : Obj} {fd : FuncData} {body : List Stmt} {vals : List Value} {binds : Value → List (Str × Value)} {Q : Value → Shared → Prop}
    (X : ClsAt s.heap C N mN) (hi : mN (Str.ofString "__init__") = some (.ref fI)) (ho : s.heap.get? fI = some oI) (hfc : oI.cls = .type "function") (hdat : oI.data = .func fd) (hbody : fd.body = .stmts body) (hlim : s.heap.NoLimit) (hcd : s.heap.CodeRec fd.code fd.qualname) (hroom : A.depth + 2 < recursionLimit)
    (hb : ∀ x (s' : Shared), (∀ b o, s.heap.get? b = some o → s'.heap.get? b = some o) → BindsTo s' fd ⟨x :: vals, []⟩ (binds x)) (hcell : ∀ x ∈ fd.scope.names, x.2 ≠ .cell) (hloc : ∀ x, ∀ y ∈ binds x, fd.scope.names.lookup y.1 = some .local)
    (hco : fd.scope.isCoroutine = false) (hgen : fd.scope.isGenerator = false) (hk : fd.scope.kind = .function)
    (h : ∀ x dx L h₁ tk, Fr s.heap L h₁ (fun y => (binds (.ref x)).reverse.lookup y) → InstsFk s.heap L h₁ [(x, dx, C, fun _ => none)] →
      wpAny (model prog w) ((A.under (.builtin "type.__call__" ⟨.ref C :: vals, []⟩)).deeper (callEnv fd L fI)) (execs body (callEnv fd L fI)) (fun fl s' => (match fl with | .ret v => v | _ => .none) = .none ∧ Q (.ref x) s') (fun _ _ => False) { s with heap := h₁, toks := tk }) :
    wpAny (model prog w) A (call (.ref C) vals) Q (fun _ _ => False) s := by
  obtain ⟨hh, g, d, t, os⟩ := s
  obtain ⟨nm, q, bs, sn, sub, col, dd, k0, k1, k2, k3, k5, hC⟩ := X.obj
  refine wpAny_call_obj_initFk PySem.F.objNew hC X.ns hi ho hfc fun h' x dx Mk => ?_
  refine wpAny_call (codeAny_call_def (fd := fd) (body := body) (binds := binds (.ref x)) (by show A.depth + 1 < _; omega) (Mk.keeps _ _ ho) hdat (hlim.keeps Mk.keeps) (hcd.keeps Mk.keeps) hbody (hb _ _ Mk.keeps) hcell (hloc _)
    (fun h₁ hns hk₁ => ?_) hco hgen hk)
  obtain ⟨ox, hx, hcx, hncx, hdx⟩ := Mk.inst
  have hdd := Mk.dict ox hx
  have hq : h'.Ns1 dx (fun _ => none) ∧ dx ≠ x ∧ h'.ExactDictFk dx := by
    rcases hdx with ⟨hn0, _⟩ | ⟨d', hd', ne', hns', ex'⟩
    · rw [hn0] at hdd; cases hdd
    · obtain rfl := Option.some.inj (hd'.symm.trans hdd); exact ⟨hns', ne', ex'⟩
  have F₁ : Fr hh h'.objs.size h₁ (fun y => (binds (.ref x)).reverse.lookup y) := ⟨hns, fun b o e => hk₁ _ _ (Mk.keeps _ _ e), Mk.grows⟩
  have I₁ : InstsFk hh h'.objs.size h₁ [(x, dx, C, fun _ => none)] := by
    intro p hp
    obtain rfl := List.mem_singleton.mp hp
    exact ⟨⟨ox, hk₁ _ _ hx, hcx, hdd, hncx⟩, hq.1.keeps hk₁, hq.2.1, Nat.ne_of_lt (Heap.lt_size hx), Nat.ne_of_lt hq.1.lt, Mk.newX, Mk.newD, hq.2.2.keeps hk₁⟩
  exact wpAny_mono (h x dx h'.objs.size h₁ _ F₁ I₁) (fun fl s' hl => hl) fun _ _ y => y.elim
end Mine
end

section
open PySem PySem.W PySem.Calls PyProof.Rows
set_option Elab.async false
set_option maxRecDepth 100000
set_option linter.unusedVariables false
namespace Mine

noncomputable def initR : Dfn := defM (S' "__init__")
noncomputable def initB : Dfn := defIn (clsIn top (S' "Body")) (S' "__init__")
/-- the class's __init__ is the text's -/
inductive InitOk (g : Gl) (m : Str → Option Value) (d : Dfn) (bs : List Value → List (Str × Value)) (n : Nat) : Prop
  | mk (f : Addr) (o : Obj) (fd : FuncData) (q1 : m (S' "__init__") = some (.ref f)) (q2 : g.hb.get? f = some o) (q3 : o.cls = .type "function") (q4 : o.data = .func fd) (q5 : fd.body = .stmts d.2.1) (q6 : fd.scope = d.2.2) (q7 : fd.globals = mainGlobals) (q8 : fd.builtins = builtinsNs) (q9 : g.hb.CodeRec fd.code fd.qualname) (q10 : ∀ (s : Shared) (vs : List Value), (∀ b o, g.hb.get? b = some o → s.heap.get? b = some o) → vs.length = n → BindsTo s fd ⟨vs, []⟩ (bs vs))
noncomputable abbrev bindsR (vs : List Value) : List (Str × Value) := [S' "self", S' "varied"].zip vs
noncomputable abbrev bindsB (vs : List Value) : List (Str × Value) := [S' "self", S' "name", S' "arg_count", S' "locals_told", S' "blocks", S' "spots"].zip (vs ++ [.none])

theorem initR_body : ∃ p1 p2 p3 p4 p5 p6 p7 p8, initR.2.1 = [Stmt.Assign [.Attribute (.Name (S' "self") p1) (S' "varied") p2] (.Name (S' "varied") p3) p4, Stmt.Assign [.Attribute (.Name (S' "self") p5) (S' "pairs") p6] (.List [] p7) p8] :=
  ⟨_, _, _, _, _, _, _, _, rfl⟩
theorem initB_body : ∃ p1 p2 p3 p4 p5 p6 p7 p8 p9 q1 q2 q3 q4 q5 q6 q7 q8 q9 r1 r2 r3 r4 r5 r6 r7 r8 r9 t1 t2 t3 t4 t5 n1 n2, initB.2.1 = [Stmt.Assign [.Attribute (.Name (S' "self") p1) (S' "name") p2] (.Name (S' "name") p3) p4, Stmt.Assign [.Attribute (.Name (S' "self") p5) (S' "arg_count") p6] (.Name (S' "arg_count") p7) p8,
    Stmt.Assign [.Attribute (.Name (S' "self") p9) (S' "locals") q1] (.Call (.Name (S' "list") q2) [.Name (S' "locals_told") q3] [] q4) q5,
    Stmt.Assign [.Attribute (.Name (S' "self") q6) (S' "blocks") q7] (.IfExp (.Compare (.Name (S' "blocks") q8) [.Is] [.Constant .none n1 q9] r1) (.List [] r2) (.Name (S' "blocks") r3) r4) r5,
    Stmt.Assign [.Attribute (.Name (S' "self") r6) (S' "spots") r7] (.IfExp (.Compare (.Name (S' "spots") r8) [.Is] [.Constant .none n2 r9] t1) (.Dict [] [] t2) (.Name (S' "spots") t3) t4) t5] :=
  ⟨_, _, _, _, _, _, _, _, _, _, _, _, _, _, _, _, _, _, _, _, _, _, _, _, _, _, _, _, _, _, _, _, _, _, rfl⟩

theorem obj_none {x : Str} (h : x ∈ [S' "varied", S' "pairs", S' "name", S' "arg_count", S' "locals", S' "blocks", S' "spots"]) : typeLookup (.type "object") x = pure none := by
  simp only [List.mem_cons, List.not_mem_nil, or_false] at h
  rcases h with rfl | rfl | rfl | rfl | rfl | rfl | rfl <;> (rw [typeLookup_type, builtinLookup_eq_fast]; kernel_rfl)

section
variable {g : Gl} {A : Around} {s : Shared}
/-- a frame's local name, read -/
theorem rd {A : Around} {s : Shared} {h₀ : Heap} {L : Addr} {m : Str → Option Value} {env : Env} {x : Str} {pos : Pos} {v : Value} {Q : Value → Shared → Prop} {E : Value → Shared → Prop} (F : Fr h₀ L s.heap m) (hL : env.locals = L) (hk : env.scope.kind = .function) (hl : env.kindOf x = some .local) (hm : m x = some v) (h : Q v s) (hd : (x == Str.ofString "__debug__") = false) :
    wpAny (model pw g.w) A (eval (.Name x pos) env) Q E s := wpAny_Name (wpAny_loadName_local hk hl (hL ▸ F.ns) hm h) hd

/-- x.name = v on a new object -/
theorem set_ok {h₀ : Heap} {L x dx C N : Addr} {mN mA : Str → Option Value} {name : Str} {v : Value} {ns : List Str} {Q : Unit → Shared → Prop} {E : Value → Shared → Prop} (I : InstAtFk h₀ L s.heap x dx C mA) (X : ClsAt s.heap C N mN) (hxC : x ≠ C)
    (hns : mN (S' "__setattr__") = none) (hna : mN name = none) (hB : typeLookup (.type "object") name = pure none) (hw : Within mA ns) (hsz : ns.length ≤ sizeLine)
    (h : ∀ h' tk, InstAtFk h₀ L h' x dx C (fun y => if y = name then some v else mA y) → (∀ b o, b ≠ x → b ≠ dx → s.heap.get? b = some o → h'.get? b = some o) → Q () { s with heap := h', toks := tk }) : wpAny (model pw g.w) A (setAttr (.ref x) name v) Q E s := by
  obtain ⟨hh, gg, d, t, os⟩ := s
  obtain ⟨nm, q, bs, sn, sub, col, dd, k0, k1, k2, k3, k5, hC⟩ := X.obj
  obtain ⟨ox, hx, hcx, hdx, hncx⟩ := I.obj
  refine store_attrFk PySem.F.store_object hC X.ns hns hna hB hxC I.inst (fun h' tk' I' hk hsame => ?_) hw hsz
  have kk : ∀ b o, b ≠ x → b ≠ dx → hh.get? b = some o → h'.get? b = some o := fun b o h1 h2 e => hk b o h1 (fun o₀ d' e₀ ed => by
    obtain rfl := Option.some.inj (hx.symm.trans e₀); obtain rfl := Option.some.inj (hdx.symm.trans ed); exact h2) e
  refine h h' tk' ?_ kk
  obtain ⟨o₁, e₁, c₁, dt₁, _, dk₁⟩ := hsame ox hx
  obtain ⟨o', e', _, _, hd'⟩ := I'
  obtain rfl := Option.some.inj (e₁.symm.trans e')
  rcases hd' with ⟨hn0, _⟩ | ⟨d', hd', _, hns', hex'⟩
  · rw [dk₁ dx hdx] at hn0; cases hn0
  · obtain rfl := Option.some.inj ((dk₁ dx hdx).symm.trans hd')
    exact ⟨⟨o₁, e₁, c₁.trans hcx, dk₁ _ hdx, fun c => dt₁ ▸ hncx c⟩, hns', I.apart, I.xL, I.dL, I.newX, I.newD, hex'⟩
/-- where a constructor stands: its frame at L, its object at x, what stood before -/
structure Ini (g : Gl) (h0 : Heap) (L x dx C : Addr) (mL mA : Str → Option Value) (h : Heap) : Prop where
  ns : h.Ns L mL
  keep : ∀ b o, h0.get? b = some o → h.get? b = some o
  inst : InstAtFk h0 L h x dx C mA
theorem Ini.more {h0 h h' : Heap} {L x dx C : Addr} {mL mA : Str → Option Value} (I : Ini g h0 L x dx C mL mA h) (k : ∀ b o, h.get? b = some o → h'.get? b = some o) : Ini g h0 L x dx C mL mA h' :=
  ⟨I.ns.keeps k, fun b o e => k _ _ (I.keep b o e), I.inst.of_keeps fun b o _ e => k b o e⟩
theorem Ini.set {h0 : Heap} {L x dx C N : Addr} {mL mN mA : Str → Option Value} {name : Str} {v : Value} {ns : List Str} {Q : Unit → Shared → Prop} {E : Value → Shared → Prop} (I : Ini g h0 L x dx C mL mA s.heap) (X : ClsAt h0 C N mN)
    (hns : mN (S' "__setattr__") = none) (hna : mN name = none) (hB : typeLookup (.type "object") name = pure none) (hw : Within mA ns) (hsz : ns.length ≤ sizeLine)
    (h : ∀ h' tk, Ini g h0 L x dx C mL (fun y => if y = name then some v else mA y) h' → (∀ b o, b ≠ x → b ≠ dx → s.heap.get? b = some o → h'.get? b = some o) → Q () { s with heap := h', toks := tk }) : wpAny (model pw g.w) A (setAttr (.ref x) name v) Q E s := by
  have hxC : x ≠ C := by
    obtain ⟨nm, q, bs, sn, sub, col, dd, k0, k1, k2, k3, k5, hC⟩ := X.obj
    rintro rfl
    rw [I.inst.newX] at hC; cases hC
  refine set_ok I.inst (X.keeps I.keep) hxC hns hna hB hw hsz fun h' tk I' kk => h h' tk ⟨?_, fun b o e => kk b o (fun q => by rw [q, I.inst.newX] at e; cases e) (fun q => by rw [q, I.inst.newD] at e; cases e) (I.keep b o e), I'⟩ kk
  obtain ⟨o, es, ep, e, r⟩ := I.ns
  exact ⟨o, es, ep, kk _ _ (Ne.symm I.inst.xL) (Ne.symm I.inst.dL) e, r⟩
theorem Ini.rd {h0 : Heap} {L x dx C : Addr} {mL mA : Str → Option Value} {env : Env} {y : Str} {pos : Pos} {v : Value} {Q : Value → Shared → Prop} {E : Value → Shared → Prop} (I : Ini g h0 L x dx C mL mA s.heap) (hL : env.locals = L) (hk : env.scope.kind = .function) (hl : env.kindOf y = some .local) (hm : mL y = some v) (h : Q v s) (hd : (y == Str.ofString "__debug__") = false) :
    wpAny (model pw g.w) A (eval (.Name y pos) env) Q E s := wpAny_Name (wpAny_loadName_local hk hl (hL ▸ I.ns) hm h) hd

inductive NewRel (g : Gl) (s : Shared) (v : Value) (r : Value) (s' : Shared) : Prop
  | mk (h' : _) (tk : _) (x : _) (dx : _) (a : _) (k : _) (q1 : r = .ref x) (q2 : s' = { s with heap := h', toks := tk }) (q3 : (∀ b o, s.heap.get? b = some o → h'.get? b = some o)) (q4 : s.heap.get? x = none) (q5 : s.heap.get? dx = none) (q6 : s.heap.get? a = none) (q7 : a ≠ x) (q8 : a ≠ dx) (q9 : h'.get? a = some (lstO [] k)) (q10 : (∃ o, h'.get? x = some o ∧ o.cls = .ref g.CR ∧ (∀ c, o.data ≠ .cls c) ∧ o.dict = some dx)) (q11 : dx ≠ x) (q12 : h'.Ns1 dx (relM v a))
theorem rel_call (G : GlOk g) (I : InitOk g g.mR initR bindsR 2) (base : ∀ b o, g.hb.get? b = some o → s.heap.get? b = some o) (hroom : A.depth + 2 < recursionLimit) (v : Value) :
    wpAny (model pw g.w) A (call (.ref g.CR) [v]) (NewRel g s v) (fun _ _ => False) s := by
  obtain ⟨f, o, fd, hi, ho, hfc, hd, e2, e3, e4, e5, e6, hb⟩ := I
  obtain ⟨N, X⟩ := G.clsR
  have esc : fd.scope.names = [(S' "self", .local), (S' "varied", .local)] := by rw [e3]; rfl
  refine make_ok (body := initR.2.1) (binds := fun x => bindsR [x, v]) (X.keeps base) hi (base _ _ ho) hfc hd e2 (G.nolim.keeps base) (e6.keeps base) hroom (fun x s' k => hb s' [x, v] (fun b o e => k b o (base b o e)) rfl) ?_ ?_ (by rw [e3]; rfl) (by rw [e3]; rfl) (by rw [e3]; rfl) ?_
  · rw [esc]; intro y hy
    simp only [List.mem_cons, List.not_mem_nil, or_false] at hy
    rcases hy with rfl | rfl <;> decide
  · rw [esc]; intro x y hy
    have hy : y ∈ [(S' "self", x), (S' "varied", v)] := hy
    simp only [List.mem_cons, List.not_mem_nil, or_false] at hy
    rcases hy with rfl | rfl <;> rfl
  · intro x dx L h1 tk F I
    obtain ⟨p1, p2, p3, p4, p5, p6, p7, p8, eb⟩ := initR_body
    rw [eb]
    have kf : (callEnv fd L f).scope.kind = .function := by show fd.scope.kind = _; rw [e3]; rfl
    have ks : (callEnv fd L f).kindOf (S' "self") = some .local := by rw [callEnv_kind, esc]; rfl
    have kv : (callEnv fd L f).kindOf (S' "varied") = some .local := by rw [callEnv_kind, esc]; rfl
    have X0 : ClsAt s.heap g.CR N g.mR := X.keeps base
    have I0 : Ini g s.heap L x dx g.CR _ (fun _ => none) h1 := ⟨F.ns, F.keep, I _ (.head _)⟩
    refine wpAny_execs_cons (plainObj_wpAny_Assign_Attribute (Ini.rd (s := { s with heap := h1, toks := tk }) I0 rfl kf kv rfl (Ini.rd (s := { s with heap := h1, toks := tk }) I0 rfl kf ks rfl ?_ (by decide +kernel)) (by decide +kernel)))
    refine Ini.set (s := { s with heap := h1, toks := tk }) I0 X0 (G.noR _ (by simp)) (G.noR _ (by simp)) (obj_none (by simp)) .nil (by decide) fun h2 tk2 I2 _ => ?_
    refine wpAny_execs_cons (plainObj_wpAny_Assign_Attribute (List_ (spliced_nil (wpAny_newList ?_ (by decide)))))
    have I3 := I2.more (push_keep h2 { cls := .type "list", data := .seq #[] })
    refine Ini.rd I3 rfl kf ks rfl ?_ (by decide +kernel)
    refine Ini.set (s := { s with heap := h2.push { cls := .type "list", data := .seq #[] }, toks := tk2 }) I3 X0 (G.noR _ (by simp)) (G.noR _ (by simp)) (obj_none (by simp)) (.cons _ _ .nil) (by decide) fun h4 tk4 I5 kk => ?_
    refine wpAny_execs_nil ⟨rfl, h4, tk4, x, dx, h2.objs.size, 0, rfl, rfl, I5.keep, I5.inst.newX, I5.inst.newD, ?_, ?_, ?_, ?_, ?_, I5.inst.apart, ?_⟩
    · cases e : s.heap.get? h2.objs.size with
      | none => rfl
      | some o => have := I2.keep _ _ e; rw [get_size] at this; cases this
    · intro q
      obtain ⟨o, e, _⟩ := I2.inst.obj
      rw [← q, get_size] at e; cases e
    · intro q
      obtain ⟨o, es, ep, e, _⟩ := I2.inst.ns
      rw [← q, get_size] at e; cases e
    · exact kk _ _ (fun q => by obtain ⟨o, e, _⟩ := I2.inst.obj; rw [← q, get_size] at e; cases e) (fun q => by obtain ⟨o, es, ep, e, _⟩ := I2.inst.ns; rw [← q, get_size] at e; cases e) (Heap.get?_push_size _ rfl)
    · obtain ⟨o, e1, e2, e3, e4⟩ := I5.inst.obj
      exact ⟨o, e1, e2, e4, e3⟩
    · exact I5.inst.ns
end
end Mine
end

section
open PySem PySem.W PySem.Calls PyProof.Rows
set_option Elab.async false
set_option maxRecDepth 100000
set_option linter.unusedVariables false
namespace Mine

section
variable {g : Gl} {A : Around} {s : Shared}
theorem kl : keeperOf (.type "list") = pure .machine := rfl
theorem nest_ne {x y : Str} {v : Value} {m : Str → Option Value} (h : (x == y) = false) : (fun z => if z = y then some v else m z) x = m x := if_neg (beq_eq_false_iff_ne.mp h)

theorem bod_call (G : GlOk g) (I : InitOk g g.mB initB bindsB 5) {sp : Sp} {bad : Addr → Prop} {M : Mu} (w : W g sp bad s.heap) (m : MuOk g sp bad s.heap M) (hroom : A.depth + 2 < recursionLimit) {v1 v2 v3 v4 : Value} {ls bs : List D} (hl : ls.length ≤ 1000) (r3 : Rep g sp bad s.heap v3 (.lst ls)) (r4 : Rep g sp bad s.heap v4 (.lst bs)) :
    wpAny (model pw g.w) A (call (.ref g.CB) [v1, v2, v3, v4]) (fun r s' => ∃ h' tk, s' = { s with heap := h', toks := tk } ∧ Kp sp s.heap h' ∧ Rep g sp bad h' r (.bod ls bs) ∧ MuOk g sp bad h' M) (fun _ _ => False) s := by
  obtain ⟨f, o, fd, hi, ho, hfc, hd, e2, e3, e4, e5, e6, hb⟩ := I
  obtain ⟨N, X⟩ := G.clsB
  have esc : fd.scope.names = [(S' "self", .local), (S' "name", .local), (S' "arg_count", .local), (S' "locals_told", .local), (S' "blocks", .local), (S' "spots", .local), (S' "list", .globalImplicit)] := by rw [e3]; rfl
  refine make_ok (body := initB.2.1) (binds := fun x => bindsB [x, v1, v2, v3, v4]) (X.keeps w.base) hi (w.base _ _ ho) hfc hd e2 (G.nolim.keeps w.base) (e6.keeps w.base) hroom (fun x s' k => hb s' [x, v1, v2, v3, v4] (fun b o e => k b o (w.base b o e)) rfl) ?_ ?_ (by rw [e3]; rfl) (by rw [e3]; rfl) (by rw [e3]; rfl) ?_
  · rw [esc]; intro y hy
    simp only [List.mem_cons, List.not_mem_nil, or_false] at hy
    rcases hy with rfl | rfl | rfl | rfl | rfl | rfl | rfl <;> decide
  · rw [esc]; intro x y hy
    have hy : y ∈ [(S' "self", x), (S' "name", v1), (S' "arg_count", v2), (S' "locals_told", v3), (S' "blocks", v4), (S' "spots", .none)] := hy
    simp only [List.mem_cons, List.not_mem_nil, or_false] at hy
    rcases hy with rfl | rfl | rfl | rfl | rfl | rfl <;> rfl
  · intro x dx L h1 tk F I
    obtain ⟨p1, p2, p3, p4, p5, p6, p7, p8, p9, q1, q2, q3, q4, q5, q6, q7, q8, q9, x1, x2, x3, x4, x5, x6, x7, x8, x9, t1, t2, t3, t4, t5, n1, n2, eb⟩ := initB_body
    rw [eb]
    have kf : (callEnv fd L f).scope.kind = .function := by show fd.scope.kind = _; rw [e3]; rfl
    have kk : ∀ y, (callEnv fd L f).kindOf y = fd.scope.names.lookup y := fun y => callEnv_kind fd L f y
    have X0 : ClsAt s.heap g.CB N g.mB := X.keeps w.base
    have I0 : Ini g s.heap L x dx g.CB _ (fun _ => none) h1 := ⟨F.ns, F.keep, I _ (.head _)⟩
    have ks : (callEnv fd L f).kindOf (S' "self") = some .local := by rw [kk, esc]; rfl
    refine wpAny_execs_cons (plainObj_wpAny_Assign_Attribute (Ini.rd (s := { s with heap := h1, toks := tk }) I0 rfl kf (by rw [kk, esc]; rfl) rfl (Ini.rd (s := { s with heap := h1, toks := tk }) I0 rfl kf ks rfl ?_ (by decide +kernel)) (by decide +kernel)))
    refine Ini.set (s := { s with heap := h1, toks := tk }) I0 X0 (G.noB _ (by simp)) (G.noB _ (by simp)) (obj_none (by simp)) .nil (by decide) fun h2 tk2 I2 _ => ?_
    refine wpAny_execs_cons (plainObj_wpAny_Assign_Attribute (Ini.rd (s := { s with heap := h2, toks := tk2 }) I2 rfl kf (by rw [kk, esc]; rfl) rfl (Ini.rd (s := { s with heap := h2, toks := tk2 }) I2 rfl kf ks rfl ?_ (by decide +kernel)) (by decide +kernel)))
    refine Ini.set (s := { s with heap := h2, toks := tk2 }) I2 X0 (G.noB _ (by simp)) (G.noB _ (by simp)) (obj_none (by simp)) (.cons _ _ .nil) (by decide) fun h3 tk3 I3 _ => ?_
    obtain ⟨a3, vs3, n3, rfl, ea3, nb3, rs3⟩ := r3.inv_lst
    obtain ⟨a4, vs4, n4, rfl, ea4, nb4, rs4⟩ := r4.inv_lst
    -- self.locals = list(locals_told)
    refine wpAny_execs_cons (plainObj_wpAny_Assign_Attribute ?_)
    show wpAny _ _ (do callWith q4 (← eval (.Name (S' "list") q2) (callEnv fd L f)) [] (backTo q4 (starEach [.Name (S' "locals_told") q3] (callEnv fd L f))) []) _ _ _
    refine wpAny_bind ?_
    obtain ⟨mb, hb1, hb2⟩ := G.bns
    have base3 : ∀ b o, g.hb.get? b = some o → h3.get? b = some o := fun b o e => I3.keep _ _ (w.base b o e)
    refine Name_function_global kf (by rw [kk, esc]; rfl) (loadGlobal_builtin (s := { s with heap := h3, toks := tk3 }) (by show h3.Ns fd.globals _; rw [e4]; exact G.ns.keeps base3) (G.free _ (by simp)) (by show h3.Ns fd.builtins _; rw [e5]; exact hb1.keeps base3) ((hb2 (Str.ofString "list") (by decide +kernel)).trans (c := some (.type "list")) (by decide +kernel)) ?_) (by decide +kernel)
    refine callW_machine (es := [.Name (S' "locals_told") q3]) rfl kl ?_
    rw [back_cons rfl]
    refine spliced_cons (Ini.rd (s := { s with heap := h3, toks := tk3 }) I3 rfl kf (by rw [kk, esc]; rfl) rfl (spliced_nil ?_) (by decide +kernel))
    refine call_list_seq (s := { s with heap := h3, toks := tk3 }) a3 (.inl rfl) (I3.keep _ _ ea3) rfl rfl (fun h4 c4 k4 e4' => ?_) (by rw [List.size_toArray, rs3.length, sizeLine_eq]; omega)
    have I4 := I3.more k4
    refine Ini.rd (s := { s with heap := h4, toks := tk3 }) I4 rfl kf ks rfl ?_ (by decide +kernel)
    refine Ini.set (s := { s with heap := h4, toks := tk3 }) I4 X0 (G.noB _ (by simp)) (G.noB _ (by simp)) (obj_none (by simp)) (.cons _ _ (.cons _ _ .nil)) (by decide) fun h5 tk5 I5 kk5 => ?_
    -- self.blocks
    refine wpAny_execs_cons (plainObj_wpAny_Assign_Attribute (IfExp_ (wpAny_isTrue_Compare1 (Ini.rd (s := { s with heap := h5, toks := tk5 }) I5 rfl kf (by rw [kk, esc]; rfl) rfl (Constant_none (is_ref_none (truthy_b ?_))) (by decide +kernel)) rfl)))
    refine Ini.rd (s := { s with heap := h5, toks := tk5 }) I5 rfl kf (by rw [kk, esc]; rfl) rfl (Ini.rd (s := { s with heap := h5, toks := tk5 }) I5 rfl kf ks rfl ?_ (by decide +kernel)) (by decide +kernel)
    refine Ini.set (s := { s with heap := h5, toks := tk5 }) I5 X0 (G.noB _ (by simp)) (G.noB _ (by simp)) (obj_none (by simp)) (.cons _ _ (.cons _ _ (.cons _ _ .nil))) (by decide) fun h6 tk6 I6 kk6 => ?_
    -- self.spots
    refine wpAny_execs_cons (plainObj_wpAny_Assign_Attribute (IfExp_ (wpAny_isTrue_Compare1 (Ini.rd (s := { s with heap := h6, toks := tk6 }) I6 rfl kf (by rw [kk, esc]; rfl) rfl (Constant_none (wpAny_is_self rfl (truthy_b ?_))) (by decide +kernel)) rfl)))
    refine wpAny_Dict_empty ?_
    have I7 := I6.more (push_keep h6 { cls := .type "dict", data := .dict #[] })
    refine Ini.rd I7 rfl kf ks rfl ?_ (by decide +kernel)
    refine Ini.set (s := { s with heap := h6.push { cls := .type "dict", data := .dict #[] }, toks := tk6 }) I7 X0 (G.noB _ (by simp)) (G.noB _ (by simp)) (obj_none (by simp)) (.cons _ _ (.cons _ _ (.cons _ _ (.cons _ _ .nil)))) (by decide) fun h8 tk8 I8 kk8 => ?_
    refine wpAny_execs_nil ⟨rfl, h8, tk8, rfl, .of_keep I8.keep, ?_, m.keep I8.keep⟩
    have nx : ∀ {b : Addr} {o : Obj}, s.heap.get? b = none → bad b → False := fun {b o} e q => by
      obtain ⟨o', e'⟩ := w.al b q
      rw [e] at e'; cases e'
    have u : Up bad bad s.heap h8 := up_keep I8.keep
    -- the new list of locals
    have nl : ¬ bad h3.objs.size := fun q => by
      obtain ⟨o', e'⟩ := w.al _ q
      have := I3.keep _ _ e'
      rw [get_size] at this; cases this
    have xl : h3.objs.size ≠ x := fun q => by
      obtain ⟨o, e, _⟩ := I3.inst.obj
      rw [← q, get_size] at e; cases e
    have dl : h3.objs.size ≠ dx := fun q => by
      obtain ⟨o, es, ep, e, _⟩ := I3.inst.ns
      rw [← q, get_size] at e; cases e
    have el : h8.get? h3.objs.size = some (lstO vs3 c4) := kk8 _ _ xl dl (push_keep _ _ _ _ (kk6 _ _ xl dl (kk5 _ _ xl dl e4')))
    obtain ⟨ox, ex, c1, c2, c3⟩ := I8.inst.obj
    refine .bod (v1 := .ref h3.objs.size) (v2 := .ref a4) ⟨ox, dx, ex, c1, c3, c2, I8.inst.apart, I8.inst.ns, fun q => nx (o := ox) I8.inst.newX q, fun q => nx (o := ox) I8.inst.newD q⟩ ?_ ?_ (.lst el nl (rs3.up u)) (r4.up u)
    · exact (if_neg (str_ne (by decide +kernel))).trans ((if_neg (str_ne (by decide +kernel))).trans (if_pos rfl))
    · exact (if_neg (str_ne (by decide +kernel))).trans (if_pos rfl)
end

theorem bsplit {b : Bool} {P Q : Prop} (ht : b = true → P) (hf : b = false → Q) : @Bool.rec (fun _ => Prop) Q P b := by
  cases b with
  | true => exact ht rfl
  | false => exact hf rfl
theorem mul_small {a b : Int} (h : a.natAbs < 2 ^ 63) : IntMulOk a b := by
  exact .of_left (intBits_le_64 (by omega) (by omega))
set_option smartUnfolding false in
set_option maxHeartbeats 4000000 in
theorem sp_take {g : Gl} {k : Nat} {M : Mu} {K : KE} (B : Base g) (h1 : 2 ≤ k) (n : Int) (n1 : 1 ≤ n) (n2 : n ≤ 100) (h : ∀ i : Int, 0 ≤ i → i < n → K (.int i) M) : PhiS g k (S' "_law_take") [.src, .int n] M K := by
  obtain ⟨k, rfl⟩ : ∃ j, k = j + 1 := ⟨k - 1, by omega⟩
  have n0 : n ≠ 0 := by omega
  have na : n.natAbs < 1073741824 := by omega
  refine B.step (by omega) rfl ?_
  intro x hx
  refine bsplit (fun hd => ?_) fun hd => ?_
  · intro x1 hx1
    refine ⟨n0, ?_⟩
    intro x2 hx2
    refine ⟨⟨n0, na⟩, ?_⟩
    refine ⟨Int.fdiv_nonneg hx2 (by omega), ?_⟩
    exact h _ (Int.fmod_nonneg_of_pos _ (by omega)) (Int.fmod_lt_of_pos _ (by omega))
  · intro y hy1 hy2
    refine ⟨mul_small (by omega), ?_⟩
    refine ⟨by decide, ?_⟩
    refine ⟨⟨Int.fmod_nonneg_of_pos _ (by decide), Int.fmod_lt_of_pos _ (by decide)⟩, ?_⟩
    intro z hz1 hz2 z2 hz3 hz4
    refine ⟨mul_small (by omega), ?_⟩
    refine ⟨by decide, ?_⟩
    refine ⟨⟨by decide, by decide⟩, ?_⟩
    refine ⟨n0, ?_⟩
    exact h _ (Int.fmod_nonneg_of_pos _ (by omega)) (Int.fmod_lt_of_pos _ (by omega))
end Mine
end

section
open PySem PySem.W PySem.Calls PyProof.Rows
set_option Elab.async false
set_option maxRecDepth 100000
set_option maxHeartbeats 1000000
set_option linter.unusedVariables false
namespace Mine

/-- the code of regions_in, and where its table stands -/
inductive CodeAt (h : Heap) (c P : Addr) : Prop
  | mk (o : _) (vs : _) (file : _) (tf : _) (flags : _) (tg : _) (inF : _) (text : _) (tt : _) (q1 : h.get? c = some o) (q2 : o.cls = .type "code") (q3 : o.data = .fields vs) (q4 : vs[11]? = some (.ref P)) (q5 : vs.getD 11 .none = .ref P) (q6 : vs.getD 18 .none = .str file tf) (q7 : vs.getD 7 .none = .int flags tg) (q8 : vs.getD 9 .none = .bool inF) (q9 : vs.getD 10 .none = .int text tt) (q10 : c ≠ P)
theorem CodeAt.keeps {h h' : Heap} {c P : Addr} (x : CodeAt h c P) (k : ∀ b o, h.get? b = some o → h'.get? b = some o) : CodeAt h' c P :=
  by cases x with | mk o vs file tf flags tg inF text tt e1 e2 e3 e4 e5 e6 e7 e8 e9 e10 => exact ⟨o, vs, file, tf, flags, tg, inF, text, tt, k _ _ e1, e2, e3, e4, e5, e6, e7, e8, e9, e10⟩
theorem CodeAt.code {h : Heap} {c P : Addr} {ps : Array Value} (x : CodeAt h c P) (e : h.get? P = some { cls := .none, data := .fields ps }) (t : TriplesOk ps.toList) : h.IsCode c P ps :=
  by cases x with | mk o vs file tf flags tg inF text tt e1 _ e3 _ e5 e6 e7 e8 e9 e10 => exact ⟨o, vs, file, tf, flags, tg, inF, text, tt, _, e1, e3, e5, e6, e7, e8, e9, e, rfl, t, e10⟩
theorem CodeAt.tab {h : Heap} {c P : Addr} {ps : Array Value} (x : CodeAt h c P) (e : h.get? P = some { cls := .none, data := .fields ps }) : h.TableAt c P ps :=
  by cases x with | mk o vs _ _ _ _ _ _ _ e1 e2 e3 e4 => exact ⟨⟨o, vs, e1, e2, e3, e4⟩, e⟩

noncomputable abbrev notedObj (qn : Str) (z : Addr) (pm doc ctv : Value) (cd : Addr) : Obj := { cls := .type "function", data := .func { name := S' "noted", qualname := qn, params := notedD.1, body := .stmts notedD.2.1, scope := notedD.2.2, globals := mainGlobals, closure := [(S' "found", z)], defaults := .none, kwdefaults := .none, doc, pyModule := pm, code := .ref cd, closureTuple := ctv, builtins := builtinsNs } }

theorem noted_closure {env : Env} {z : Addr} (hz : env.cells.lookup (S' "found") = some z) : closureFor notedD.2.2 env = pure [(S' "found", z)] := by
  have e : notedD.2.2.names = [(S' "region", .local), (S' "found", .free)] := rfl
  have hc : cellOf env (S' "found") = pure z := by unfold cellOf; rw [hz]
  unfold closureFor
  rw [e]
  simp only [List.forIn_cons, List.forIn_nil]
  rw [hc]
  rfl
theorem among_hit (c : Addr) : codeAmong notedPos [rawInt notedPos.line, rawInt notedPos.col, .ref c] = some (.ref c) := rfl

section
variable {M : Model} {A : Around} {E : Value → Shared → Prop} {s : Shared}
theorem noted_make {env : Env} {z c P : Addr} {qn : Str} {bad : Addr → Prop} {mg : Str → Option Value} {line : Nat} {Q : Value → Shared → Prop} (hz : env.cells.lookup (S' "found") = some z) (hge : env.globals = mainGlobals) (hg : s.heap.Ns mainGlobals mg) (hcode : env.code = .ref c) (C : CodeAt s.heap c P)
    (T : TabOk qn bad s.heap P) (hgP : mainGlobals ≠ P) (hb : ∃ bm o, mg (S' "__builtins__") = some (.ref bm) ∧ bm ≠ builtinsNs ∧ bm ≠ P ∧ s.heap.get? bm = some o ∧ o.cls = .type "module" ∧ o.dict = some builtinsNs ∧ o.data = .plain) (hal : ∀ a, bad a → ∃ o, s.heap.get? a = some o)
    (h : ∀ f h' tk pm doc ctv cd, Heap.ExtBut P s.heap h' → s.heap.get? f = none → TabOk qn bad h' P → h'.get? f = some (notedObj qn z pm doc ctv cd) → h'.CodeRec (.ref cd) qn → ¬ bad cd → Q (.ref f) { s with heap := h', toks := tk }) :
    wpAny M A (makeFunction (S' "noted") qn notedD.1 (.stmts notedD.2.1) notedD.2.2 env [] [] [] notedPos line) Q E s := by
  obtain ⟨bm, ob, hbm, hne0, hneP, hbo, hcls, hdict, hdata⟩ := hb
  obtain ⟨ps, eP, tp⟩ := T
  have hdoc : docOf notedD.2.1 = none := rfl
  rw [makeFunction_eq]
  simp only [List.zip_nil_right, List.filterMap_nil, List.isEmpty_nil, if_true, pure_bind]
  unfold makeTail
  rw [noted_closure hz, hge]
  refine wpAny_bind (wpAny_pure ?_)
  simp only [List.isEmpty_cons, Bool.false_eq_true, if_false]
  refine wpAny_bind (wpAny_newTextTuple ?_)
  generalize hS : s.heap.push _ = H
  have kH : ∀ b o, s.heap.get? b = some o → H.get? b = some o := fun b o e => by rw [← hS]; exact push_keep _ _ _ _ e
  have szH : s.heap.objs.size ≤ H.objs.size := by rw [← hS, Heap.size_push]; omega
  have new : ∀ {b : Addr}, s.heap.objs.size ≤ b → s.heap.get? b = none := fun {b} hb => Heap.get?_none_of_le hb
  have nbad : ∀ {b : Addr}, s.heap.objs.size ≤ b → ¬ bad b := fun {b} hb q => by
    obtain ⟨o, e⟩ := hal _ q
    rw [new hb] at e; cases e
  rcases tp with rfl | ⟨c0, rfl, nb0, hrec0⟩
  · refine wpAny_bind (wpAny_functionCodeX hcode ((C.keeps kH).code (kH _ _ eP) trivial) ((C.keeps kH).tab (kH _ _ eP)) rfl fun c' h' tk hx hge' hlt _ hrec htb _ => ?_)
    have hg' := (hg.keeps kH).extBut hx hgP
    refine wpAny_bind (wpAny_builtinsFor hg' hbm hne0 (hx _ _ hneP (kH _ _ hbo)) hcls hdict hdata ?_)
    refine wpAny_bind (wpAny_nsGet hg' ?_)
    rw [hdoc]
    refine wpAny_bind (wpAny_pure (wpAny_newObj_type ?_ (by size_fits)))
    have hszP : P < H.objs.size := Heap.lt_size (kH _ _ eP)
    have c's : s.heap.objs.size ≤ c' := Nat.le_trans szH hge'
    have hsz : s.heap.objs.size ≤ h'.objs.size := Nat.le_trans c's (Nat.le_of_lt hlt)
    refine h h'.objs.size _ tk _ _ _ c' (fun b o hb e => push_keep _ _ _ _ (hx b o hb (kH _ _ e))) (new hsz) ⟨_, push_keep _ _ _ _ htb.2, .inr ⟨c', rfl, nbad c's, hrec.push _⟩⟩ (Heap.get?_push_size _ rfl) (hrec.push _) (nbad c's)
  · refine wpAny_bind (wpAny_functionCode_hit hcode ((C.keeps kH).code (kH _ _ eP) trivial) (among_hit c0) ?_)
    refine wpAny_bind (wpAny_builtinsFor (hg.keeps kH) hbm hne0 (kH _ _ hbo) hcls hdict hdata ?_)
    refine wpAny_bind (wpAny_nsGet (hg.keeps kH) ?_)
    rw [hdoc]
    refine wpAny_bind (wpAny_pure (wpAny_newObj_type ?_ (by size_fits)))
    have rec' := (hrec0.keeps kH).push { cls := .type "function", data := .func { name := S' "noted", qualname := qn, params := notedD.1, body := .stmts notedD.2.1, scope := notedD.2.2, globals := mainGlobals, closure := [(S' "found", z)], defaults := .none, kwdefaults := .none, doc := .none, pyModule := .none, code := .ref c0, closureTuple := .none, builtins := builtinsNs } }
    refine h H.objs.size _ _ _ _ _ c0 (fun b o _ e => push_keep _ _ _ _ (kH _ _ e)) (new szH) ⟨_, push_keep _ _ _ _ (kH _ _ eP), .inr ⟨c0, rfl, nb0, (hrec0.keeps kH).push _⟩⟩ (Heap.get?_push_size _ rfl) ((hrec0.keeps kH).push _) nb0
end
end Mine
end

section
open PySem PySem.W PySem.Calls PyProof.Rows
set_option Elab.async false
set_option maxRecDepth 100000
set_option maxHeartbeats 2000000
set_option linter.unusedVariables false
namespace Mine

noncomputable def riD : Dfn := defIn top (S' "regions_in")
/-- what stands of regions_in -/
structure RegOk (g : Gl) : Prop where
  at_ : ∀ (a : Addr) (o : Obj) (fd : FuncData), g.mg (S' "regions_in") = some (.ref a) → g.hb.get? a = some o → o.data = .func fd → ∃ c, fd.code = .ref c ∧ CodeAt g.hb c g.ta ∧ fd.qualname ++ ".<locals>." ++ S' "noted" = g.nq
  blt : ∃ bm o, g.mg (S' "__builtins__") = some (.ref bm) ∧ bm ≠ builtinsNs ∧ bm ≠ g.ta ∧ g.hb.get? bm = some o ∧ o.cls = .type "module" ∧ o.dict = some builtinsNs ∧ o.data = .plain
  glb : mainGlobals ≠ g.ta
theorem ri_body : ∃ p1 p2 p3 p4 p5 p6 p7, riD.2.1 = [Stmt.Assign [.Name (S' "found") p1] (.List [] p2) p3, .FunctionDef (S' "noted") notedD.1 notedD.2.1 [] none [] notedD.2.2 none (S' "noted") notedPos, p4, .Return (some (.Name (S' "found") p5)) p6] ∧ p4 = nth riD.2.1 2 ∧ p7 = p6 := ⟨_, _, _, _, _, _, _, rfl, rfl, rfl⟩
theorem ri_names : riD.2.2.names = [(S' "told", .local), (S' "noted", .local), (S' "found", .cell), (S' "with_regions", .globalImplicit)] := rfl

theorem reg_oks : ∀ {l : List D}, (∀ d ∈ l, isReg d) → oks l = true
  | [], _ => rfl
  | d :: l, h => by
    have : d.ok = true := by
      rcases h d List.mem_cons_self with rfl | rfl | rfl | ⟨i, _, _, rfl⟩
      · rfl
      · decide +kernel
      · decide +kernel
      · rfl
    simp only [oks, this, reg_oks fun x hx => h x (List.mem_cons_of_mem _ hx), Bool.and_self]
theorem oks_app : ∀ {a b : List D}, oks (a ++ b) = true → oks a = true ∧ oks b = true
  | [], _, h => ⟨rfl, h⟩
  | d :: a, b, h => by
    simp only [List.cons_append, oks, Bool.and_eq_true] at h ⊢
    exact ⟨⟨h.1, (oks_app h.2).1⟩, (oks_app h.2).2⟩
theorem told_ok : ∀ t : Ty, oks (regs t) = true → (told t).ok = true
  | .bool, _ => by decide +kernel
  | .int8, _ => by decide +kernel
  | .param, _ => by decide +kernel
  | .never, _ => by decide +kernel
  | .ref r m t, h => by
    simp only [regs, oks, Bool.and_eq_true] at h
    have e : (st "ref").ok = true := by decide +kernel
    simp only [told, D.ok, oks, told_ok t h.2, h.1, Bool.and_self, Bool.and_true, Bool.true_and]
    exact e
  | .box t, h => by
    have e : (st "box").ok = true := by decide +kernel
    simp only [told, D.ok, oks, told_ok t h, Bool.and_self, Bool.and_true]
    exact e
  | .arr t, h => by
    have e : (st "array").ok = true := by decide +kernel
    simp only [told, D.ok, oks, told_ok t h, Bool.and_self, Bool.and_true]
    exact e
  | .tup a b, h => by
    obtain ⟨h1, h2⟩ := oks_app h
    have e : (st "tuple").ok = true := by decide +kernel
    simp only [told, D.ok, oks, told_ok a h1, told_ok b h2, Bool.and_self, Bool.and_true]
    exact e
  | .adt r a b, h => by
    simp only [regs, oks, Bool.and_eq_true] at h
    obtain ⟨h1, h2⟩ := oks_app h.2.2
    have e : (st "adt").ok = true := by decide +kernel
    have e2 : (st "P").ok = true := by decide +kernel
    have e3 : (st "adt").ok = true ∧ (st "P").ok = true := ⟨e, e2⟩
    simp only [told, D.ok, oks, told_ok a h1, told_ok b h2, h.1, Bool.and_self, Bool.and_true, Bool.true_and, Bool.and_eq_true]
    exact e3

noncomputable def riE : Expr := match nth riD.2.1 2 with | .Expr e _ => e | _ => .Constant .none 0 default
noncomputable abbrev riF (t : Ty) : Fm := ⟨riD.2.2, [(S' "told", told t), (S' "noted", .noted)], []⟩
set_option smartUnfolding false in
theorem ri_call {g : Gl} {k : Nat} {t : Ty} {M : Mu} {K : KE} (h : PhiS g k (S' "with_regions") [told t, .noted] M K) : (ev (PhiS g k) 30).E riE (riF t) M K := h
theorem ri_stmt : ∃ p, nth riD.2.1 2 = .Expr riE p := ⟨_, rfl⟩
theorem riE_plain : notComp riE = true := rfl

theorem sp_regions {g : Gl} (B : Base g) (RO : RegOk g) (t : Ty) {k : Nat} {M : Mu} {K : KE} (hk : 2 * hgt t + 4 ≤ k) (hl : (regs t).length ≤ 1000) (hR : ∀ d ∈ regs t, isReg d) (h : K (.lst (regs t)) M) : PhiS g k (S' "regions_in") [told t] M K := by
  obtain ⟨k, rfl⟩ : ∃ j, k = j + 1 := ⟨k - 1, by omega⟩
  intro a ha sp bad A s vs w m rs R
  have hm : methNames.contains (S' "regions_in") = false := by decide +kernel
  rw [hm] at ha
  have hin : S' "regions_in" ∈ walked := List.contains_iff_mem.mp (by decide +kernel)
  have Di := B.fn _ hin a ha
  refine fn_enter B.gl Di (ok_walked _ hin) rfl w m rs R fun fd o c h1 tk1 ho hd esp een eow ecm F m1 keep R' cells => ?_
  obtain ⟨cc, hcode, hC, hqn⟩ := RO.at_ a o fd ha ho hd
  obtain ⟨o2, fd2, ho2, hd2, e1, e2, e3, e4, e5, e6, e7, e8⟩ := id Di
  rw [ho] at ho2; cases ho2
  rw [hd] at hd2; cases hd2
  obtain ⟨p1, p2, p3, p4, p5, p6, p7, eb, ep4, _⟩ := ri_body
  show wpAny _ _ (execs riD.2.1 c.env) _ _ _
  rw [eb]
  generalize hL : s.heap.objs.size = L at *
  have fL : s.heap.get? L = none := by rw [← hL, get_size]
  have kof : ∀ x, c.env.kindOf x = riD.2.2.names.lookup x := fun x => by rw [een]; show fd.scope.names.lookup x = _; rw [e3]; rfl
  have kfound : c.env.kindOf (S' "found") = some .cell := by rw [kof]; rfl
  have knoted : c.env.kindOf (S' "noted") = some .local := by rw [kof]; rfl
  have eL : c.env.locals = L := by rw [een]; rfl
  have kf := F.st.kind
  obtain ⟨z, hz⟩ : ∃ z, c.env.cells.lookup (S' "found") = some z := by
    rw [een]
    show ∃ z, (cellsFrom (L + 1) fd.scope.names []).lookup (S' "found") = some z
    rw [e3]
    exact ⟨L + 1, rfl⟩
  obtain ⟨hzc, hzL, hzn⟩ := cells _ z hz
  have ePT : sp.ta = some g.ta := w.s2.2.1
  have bT : bad g.ta := w.mu _ (.inr (.inr (.inr ePT)))
  obtain ⟨oT, eT⟩ := w.al _ bT
  have neT : ∀ {b : Addr}, s.heap.get? b = none → b ≠ g.ta := fun {b} e q => by rw [q, eT] at e; cases e
  have Lz : L ≠ z := Nat.ne_of_lt hzL
  have nzb : ¬ bad z := fun q => by
    obtain ⟨o, e⟩ := w.al z q
    rw [hzn] at e; cases e
  have nLb : ¬ bad L := fun q => by
    obtain ⟨o, e⟩ := w.al L q
    rw [fL] at e; cases e
  -- found = []
  refine wpAny_execs_cons (wpAny_Assign_Name (List_ (spliced_nil (wpAny_newList ?_ (by decide)))) rfl)
  obtain ⟨fa, hfa⟩ : ∃ fa, fa = h1.objs.size := ⟨_, rfl⟩
  obtain ⟨h2, hh2⟩ : ∃ h2, h2 = h1.push (lstO [] 0) := ⟨_, rfl⟩
  have k2 : ∀ b o, h1.get? b = some o → h2.get? b = some o := fun b o e => by rw [hh2]; exact push_keep _ _ _ _ e
  have ef2 : h2.get? fa = some (lstO [] 0) := by rw [hh2, hfa]; exact Heap.get?_push_size _ rfl
  have fn1 : h1.get? fa = none := by rw [hfa, get_size]
  have fn0 : s.heap.get? fa = none := by
    cases e : s.heap.get? fa with
    | none => rfl
    | some o => have := keep _ _ e; rw [fn1] at this; cases this
  have nfb : ¬ bad fa := fun q => by
    obtain ⟨o, e⟩ := w.al fa q
    rw [fn0] at e; cases e
  have fz : fa ≠ z := fun q => by
    obtain ⟨o, e, _⟩ := hzc
    rw [← q, fn1] at e; cases e
  have fL1 : fa ≠ L := fun q => by
    obtain ⟨o, es, ep, e, _⟩ := F.st.ns
    rw [eL, ← q, fn1] at e; cases e
  show wpAny _ _ (storeName c.env (S' "found") (.ref h1.objs.size)) _ _ { s with heap := h1.push (lstO [] 0), toks := tk1 }
  rw [← hfa, ← hh2]
  refine wpAny_storeName_cell kf kfound hz (hzc.keeps k2) fun h3 hc3 hs3 => ?_
  have k3 : ∀ b o, b ≠ z → h2.get? b = some o → h3.get? b = some o := fun b o hb e => (hs3.2 b hb).trans e
  have ns3 : h3.Ns L c.m := ((eL ▸ F.st.ns : h1.Ns L c.m).keeps k2).sameBut hs3 Lz
  -- def noted
  have base3 : ∀ b o, g.hb.get? b = some o → h3.get? b = some o := fun b o e => k3 b o (fun q => by rw [q] at e; have := w.base _ _ e; rw [hzn] at this; cases this) (k2 _ _ (keep _ _ (w.base b o e)))
  have hqual : qualnameIn c.env (S' "noted") (S' "noted") = g.nq := by
    unfold qualnameIn
    rw [if_neg (by rw [knoted]; decide), een]
    exact hqn
  have T3 : TabOk g.nq bad h3 g.ta := by
    have := m.tab _ ePT
    refine this.up (fun o e => k3 _ _ (fun q => neT hzn q.symm) (k2 _ _ (keep _ _ e))) ⟨fun b o e _ => k3 _ _ (fun q => by rw [q, hzn] at e; cases e) (k2 _ _ (keep _ _ e)), fun b o e q => q⟩
  obtain ⟨bm, ob, hbm1, hbm2, hbm3, hbm4, hbm5⟩ := RO.blt
  refine wpAny_execs_cons ?_
  rw [exec_def, hqual]
  refine wpAny_bind (wpAny_standAt (wpAny_bind (wpAny_holding ?_)))
  refine wpAny_bind (wpAny_pure ?_)
  refine wpAny_bind (wpAny_holding (wpAny_pure ?_))
  refine wpAny_holding ?_
  refine wpAny_bind (wpAny_pure ?_)
  have een2 : c.env.code = .ref cc := by rw [een]; exact hcode
  refine noted_make (s := { s with heap := h3, toks := tk1 }) (P := g.ta) (bad := bad) hz F.st.glob (B.gl.ns.keeps base3) een2 (hC.keeps base3) T3 RO.glb ⟨bm, ob, hbm1, hbm2, hbm3, base3 _ _ hbm4, hbm5⟩ (fun b q => let ⟨o, e⟩ := w.al b q; ⟨o, k3 _ _ (fun q => by rw [q, hzn] at e; cases e) (k2 _ _ (keep _ _ e))⟩) fun f h4 tk4 pm doc ctv cd x4 fn3 T4 ef4 rec4 ncd => ?_
  have fn3 : h3.get? f = none := fn3
  have k4 : ∀ b o, b ≠ g.ta → h3.get? b = some o → h4.get? b = some o := fun b o hb e => x4 b o hb e
  have ns4 : h4.Ns L c.m := ns3.extBut x4 (neT fL)
  refine wpAny_bind (wpAny_standAt (wpAny_bind (wpAny_bindName (wpAny_storeName_local (s := { s with heap := h4, toks := tk4 }) knoted (eL ▸ ns4) (fun h5 hn5 k5 => wpAny_pure ?_) (blockKind_fn kf)))))
  have k5 : ∀ b o, b ≠ L → h4.get? b = some o → h5.get? b = some o := fun b o hb e => k5.extBut b o (eL ▸ hb) e
  have hn5 : h5.Ns L (fun y => if y = S' "noted" then some (.ref f) else c.m y) := eL ▸ hn5
  have chain : ∀ b o, s.heap.get? b = some o → b ≠ g.ta → h5.get? b = some o := fun b o e nT =>
    k5 _ _ (fun q => by rw [q, fL] at e; cases e) (k4 _ _ nT (k3 _ _ (fun q => by rw [q, hzn] at e; cases e) (k2 _ _ (keep _ _ e))))
  have alive5 : ∀ b o, s.heap.get? b = some o → ∃ o', h5.get? b = some o' := fun b o e => by
    by_cases q : b = g.ta
    · obtain ⟨ps, e4, _⟩ := id T4
      exact ⟨_, q ▸ k5 _ _ (fun z => neT fL z.symm) e4⟩
    · exact ⟨o, chain b o e q⟩
  have h3f : ∀ b o, h3.get? b = some o → f ≠ b := fun b o e q => by rw [← q, fn3] at e; cases e
  have fL2 : f ≠ L := fun q => by
    obtain ⟨o, es, ep, e, _⟩ := ns3
    exact h3f _ _ e q
  have ef3 : h3.get? fa = some (lstO [] 0) := k3 _ _ fz ef2
  have ef5 : h5.get? fa = some (lstO [] 0) := k5 _ _ fL1 (k4 _ _ (neT fn0) ef3)
  have ffn : h5.get? f = some (notedObj g.nq z pm doc ctv cd) := k5 _ _ fL2 ef4
  have cz5 : h5.IsCell z (some (.ref fa)) := by
    obtain ⟨o, e, d⟩ := hc3
    exact ⟨o, k5 _ _ (Ne.symm Lz) (k4 _ _ (neT hzn) e), d⟩
  let sp' : Sp := { sa := sp.sa, fa := some fa, pa := none, ta := sp.ta }
  let bad' : Addr → Prop := fun b => (bad b ∨ b = L) ∨ b = fa
  let c5 : Cx := { sp := sp', bad := bad', env := c.env, m := fun y => if y = S' "noted" then some (.ref f) else c.m y, ow := [] }
  have nbf : ¬ bad' f := by
    rintro ((q | q) | q)
    · obtain ⟨o, e⟩ := w.al f q
      have := k3 _ _ (fun q => by rw [q, hzn] at e; cases e) (k2 _ _ (keep _ _ e))
      rw [fn3] at this; cases this
    · exact fL2 q
    · exact h3f _ _ ef3 q
  have nbz : ¬ bad' z := by
    rintro ((q | q) | q)
    · exact nzb q
    · exact Lz q.symm
    · exact fz q.symm
  have cdl : ∃ o, h4.get? cd = some o := let ⟨c9, o, vs9, t9, e9, e, _⟩ := rec4; by cases e9; exact ⟨o, e⟩
  have code_ok : ∀ cd, ¬ bad cd → h4.CodeRec (.ref cd) g.nq → ¬ bad' cd ∧ h5.CodeRec (.ref cd) g.nq := fun cd ncd rec4 => by
    obtain ⟨c9, o9, vs9, t9, e9, e10, d9, e11⟩ := rec4
    cases e9
    have nL : cd ≠ L := fun q => by
      obtain ⟨o, es, ep, e, d, _⟩ := ns4
      rw [← q, e10] at e; cases e; rw [d9] at d; cases d
    have nf : cd ≠ fa := fun q => by
      have e := k4 _ _ (neT fn0) ef3
      rw [← q, e10] at e; cases e; cases d9
    refine ⟨?_, cd, o9, vs9, t9, rfl, k5 _ _ nL e10, d9, e11⟩
    rintro ((q | q) | q)
    · exact ncd q
    · exact nL q
    · exact nf q
  obtain ⟨ncd', rec5⟩ := code_ok cd ncd rec4
  have N5 : NotedAt h5 bad' f fa := ⟨_, z, cd, _, g.nq, ctv, pm, doc, ffn, nbf, rfl, cz5, nbz, rec5, ncd'⟩
  have hbn : ∀ {b : Addr}, s.heap.get? b = none → g.hb.get? b = none := fun {b} e => by
    cases q : g.hb.get? b with
    | none => rfl
    | some o => have := w.base b o q; rw [e] at this; cases this
  have mu' : ∀ b, sp'.mu b → bad' b := by
    rintro b (q | q | q | q)
    · exact .inl (.inl (w.mu b (.inl q)))
    · exact .inr (Option.some.inj q).symm
    · cases q
    · exact .inl (.inl (w.mu b (.inr (.inr (.inr q)))))
  have W5 : W g sp' bad' h5 := ⟨fun b o e => chain b o (w.base b o e) (fun q => by rw [q, w.muHb _ bT] at e; cases e), by
      rintro b ((q | q) | q)
      · obtain ⟨o, e⟩ := w.al b q; exact alive5 b o e
      · obtain ⟨o, _, _, e, _⟩ := hn5; exact ⟨o, q ▸ e⟩
      · exact ⟨_, q ▸ ef5⟩, mu', by
      rintro b ((q | q) | q)
      · exact w.muHb b q
      · rw [q]; exact hbn fL
      · rw [q]; exact hbn fn0, fun b e => ⟨fun q => (by
        obtain ⟨o, e2⟩ := w.al b (w.mu b (.inl e))
        rw [← Option.some.inj q, fn0] at e2; cases e2), fun q => (by cases q)⟩,
      ⟨fun b e q => (by cases q), ePT, w.s2.2.2.1, fun q => neT fn0 (Option.some.inj q), fun q => (by cases q)⟩⟩
  have u5 : Up bad bad' s.heap h5 := ⟨fun b o e nb => chain b o e fun q => nb (q ▸ bT), fun b o e q => by
    rcases q with (q | q) | q
    · exact q
    · rw [q, fL] at e; cases e
    · rw [q, fn0] at e; cases e⟩
  have hoks : oks (regs t) = true := reg_oks hR
  obtain ⟨v0, evs, r0⟩ : ∃ v0, vs = [v0] ∧ Rep g sp bad s.heap v0 (told t) := by
    cases rs with
    | cons a r => cases r; exact ⟨_, rfl, a⟩
  have r5 : Rep g sp' bad' h5 v0 (told t) := (r0.resp (told_ok t hoks)).up u5
  have ktold : c.env.kindOf (S' "told") = some .local := by rw [kof]; rfl
  have mtold : c.m (S' "told") = some v0 := by
    rw [ecm, evs]
    show bindL _ [(S' "told", v0)] _ _ = _
    unfold bindL
    rw [← een, if_pos ktold]
    show (if S' "told" = S' "told" then some v0 else none) = some v0
    exact if_pos rfl
  have X5 : St g c5 (riF t) h5 := {
    w := W5
    kind := kf
    glob := F.st.glob
    blt := F.st.blt
    ns := by show h5.Ns c.env.locals _; rw [eL]; exact hn5
    nL := by
      show ¬ sp'.mu c.env.locals
      rw [eL]
      rintro (q | q | q | q)
      · exact nLb (w.mu _ (.inl q))
      · exact fL1 (Option.some.inj q)
      · cases q
      · exact nLb (w.mu _ (.inr (.inr (.inr q))))
    gl := F.st.gl
    lo := F.st.lo
    ce := F.st.ce
    loc := fun x d q => by
      have q : [(S' "told", told t), (S' "noted", D.noted)].lookup x = some d := q
      rw [List.lookup_cons] at q
      cases hx : x == S' "told" with
      | true =>
        rw [hx] at q
        cases q
        obtain rfl := eq_of_beq hx
        have e : (if S' "told" = S' "noted" then some (.ref f) else c.m (S' "told")) = some v0 := (if_neg (str_ne (by decide +kernel))).trans mtold
        exact ⟨v0, .inl ⟨ktold, e⟩, r5⟩
      | false =>
        rw [hx, List.lookup_cons] at q
        cases hy : x == S' "noted" with
        | true =>
          rw [hy] at q
          cases q
          obtain rfl := eq_of_beq hy
          have e : (if S' "noted" = S' "noted" then some (.ref f) else c.m (S' "noted")) = some (.ref f) := if_pos rfl
          exact ⟨.ref f, .inl ⟨knoted, e⟩, .noted rfl N5⟩
        | false => rw [hy] at q; cases q
    own := fun x l q => by cases q }
  have no5 : ∀ b, ¬ Own c5 b := fun b ⟨x, q⟩ => by simp [c5] at q
  have F5 : Sf g bad' c5 (riF t) h5 := ⟨X5, fun b => ⟨.inl, fun q => q.elim id fun z => (no5 b z).elim⟩, fun b q => (no5 b q).elim, fun x y b q => by simp [c5] at q, by show bad' c.env.locals; rw [eL]; exact .inl (.inr rfl), mu'⟩
  have m5 : MuOk g sp' bad' h5 { M with fnd := [] } := {
    src := fun b e => by
      obtain ⟨x, y, t1, u1, ⟨o, q1, q2⟩, q3⟩ := m.src b e
      exact ⟨x, y, t1, u1, ⟨o, chain b o q1 (fun q => w.s2.2.2.1 (q ▸ e)), q2⟩, q3⟩
    fnd := fun b e => by
      obtain rfl := Option.some.inj e
      exact ⟨[], 0, ef5, .nil⟩
    prs := fun b e => by cases e
    tab := fun b e => by
      obtain rfl := Option.some.inj (ePT.symm.trans e)
      obtain ⟨ps, e4, q⟩ := id T4
      exact ⟨ps, k5 _ _ (fun q => neT fL q.symm) e4, q.imp id fun ⟨c, e, nb, rec⟩ => ⟨c, e, (code_ok c nb rec).1, (code_ok c nb rec).2⟩⟩ }
  -- with_regions(told, noted)
  obtain ⟨p8, ep8⟩ := ri_stmt
  rw [ep4, ep8]
  refine wpAny_execs_cons ?_
  let K5 : KS := fun fl f1 M1 => fl = .next ∧ M1 = { M with fnd := regs t }
  have hcall : (ev (PhiS g k) 30).E riE (riF t) { M with fnd := [] } fun _ M1 => K5 .next (riF t) M1 := by
    refine ri_call (sp_with_regions B t k _ _ (by omega) (by simp; omega) ?_)
    exact ⟨rfl, by simp⟩
  have Sx := ev_ok B.gl (phi_ok g k) (by omega) 30
  refine wpAny_mono (drop_ok (s := { s with heap := h5, toks := tk4 + 1 }) (K := K5) (c := c5) (b0 := bad') Sx R' F5 m5 (drops_none riE_plain _ _) hcall) (fun fl s' hq => ?_) fun _ _ x => x.elim
  refine SEnd.el hq fun h6 tk6 c6 f6 M6 n6 F6 m6 hK => ?_
  clear hq
  have esp6 : c6.sp = sp' := n6.sp
  rw [esp6] at m6
  cases fl with
  | brk => exact hK.elim
  | cont => exact hK.elim
  | ret v => obtain ⟨d, _, q, _⟩ := hK; cases q
  | next =>
  obtain ⟨_, rfl⟩ := hK
  have keep6 : ∀ b o, h5.get? b = some o → ¬ sp'.mu b → b ≠ L → h6.get? b = some o := fun b o e n1 n2 => n6.keep b o e n1 (by show b ≠ c.env.locals; rw [eL]; exact n2) (no5 b)
  have cz6 : h6.IsCell z (some (.ref fa)) := by
    obtain ⟨o, e, d⟩ := cz5
    exact ⟨o, keep6 _ _ e (fun q => nbz (mu' _ q)) (Ne.symm Lz), d⟩
  refine wpAny_execs_cons (wpAny_Return_some (wpAny_Name (wpAny_loadName_cell kf kfound hz cz6 ?_) (by decide +kernel)))
  have chain6 : ∀ b o, s.heap.get? b = some o → ¬ sp'.mu b → h6.get? b = some o := fun b o e nm => keep6 b o (chain b o e fun q => nm (.inr (.inr (.inr (q ▸ ePT))))) nm fun q => by rw [q, fL] at e; cases e
  have mu6 : ∀ b o, s.heap.get? b = some o → ¬ sp.mu b → ¬ sp'.mu b := by
    rintro b o e nm (q | q | q | q)
    · exact nm (.inl q)
    · rw [← Option.some.inj q, fn0] at e; cases e
    · cases q
    · exact nm (.inr (.inr (.inr q)))
  have u6 : Up bad bad s.heap h6 := ⟨fun b o e nb => chain6 b o e (mu6 b o e fun q => nb (w.mu b q)), fun _ _ _ q => q⟩
  have kp6 : Kp sp s.heap h6 := ⟨fun b o e nm => chain6 b o e (mu6 b o e nm), fun b o e => let ⟨o', e'⟩ := alive5 b o e; n6.alive b o' e'⟩
  have bb : ∀ b, bad b → c6.bad b := fun b q => (F6.hb b).mpr (.inl (.inl (.inl q)))
  obtain ⟨vs6, n6', ef6, rs6⟩ := m6.fnd fa rfl
  have rs6' : RepAll g sp bad h6 vs6 (regs t) := (rs6.resp hoks).up ⟨fun _ _ e _ => e, fun b _ _ q => bb b q⟩
  refine ⟨h6, tk6, rfl, kp6, .lst (regs t), M, h, .lst ef6 nfb rs6', ?_⟩
  refine ⟨fun b e => ?_, fun b e => ?_, fun b e => ?_, fun b e => ?_⟩
  · exact m6.src b e
  · obtain ⟨vs7, n7, e7, r7⟩ := m.fnd b e
    refine ⟨vs7, n7, chain6 b _ e7 ?_, r7.up u6⟩
    rintro (q | q | q | q)
    · exact (w.s1 b q).1 e
    · rw [← Option.some.inj q, fn0] at e7; cases e7
    · cases q
    · exact w.s2.2.2.2.1 (by rw [e, ← q]; exact ePT)
  · obtain ⟨vs7, n7, e7, r7⟩ := m.prs b e
    refine ⟨vs7, n7, chain6 b _ e7 ?_, r7.up u6⟩
    rintro (q | q | q | q)
    · exact (w.s1 b q).2 e
    · rw [← Option.some.inj q, fn0] at e7; cases e7
    · cases q
    · exact w.s2.2.2.2.2 (by rw [e, ← q]; exact ePT)
  · exact (m6.tab b e).up (fun _ e => e) ⟨fun _ _ e _ => e, fun b _ _ q => bb b q⟩
end Mine
end

section
open PySem PySem.W PySem.Calls PyProof.Rows
set_option Elab.async false
set_option maxRecDepth 100000
set_option maxHeartbeats 2000000
set_option linter.unusedVariables false
namespace Mine

theorem man_of {g : Gl} (B : Base g) (RO : RegOk g) (IB : InitOk g g.mB initB bindsB 5) : Man g where
  take := fun k M K n hk h1 h2 h => sp_take B hk n h1 h2 h
  regions := fun t k M K h1 h2 h3 h4 => sp_regions B RO t h1 h2 h3 h4
  body := fun k M K n i ls bs hk hl h a ha sp bad A s vs w m rs R => by
    have hm : methNames.contains (S' "Body") = false := by decide +kernel
    rw [hm] at ha
    have ha : g.mg (S' "Body") = some (.ref a) := ha
    rw [B.gl.mgB] at ha
    cases ha
    cases rs with
    | cons r1 rs =>
    cases rs with
    | cons r2 rs =>
    cases rs with
    | cons r3 rs =>
    cases rs with
    | cons r4 rs =>
    cases rs
    refine wpAny_mono (bod_call B.gl IB w m (by have := R.1; omega) hl r3 r4) (fun r s' hq => ?_) fun _ _ x => x
    obtain ⟨h', tk, rfl, kp, rb, m'⟩ := hq
    exact ⟨h', tk, rfl, kp, _, M, h, rb, m'⟩

theorem dct_resp {g : Gl} {sp sp' : Sp} {bad bad' : Addr → Prop} {h h' : Heap} {v : Value} {ks : List Str} {ds : List D} (r : Rep g sp bad h v (.dct ks ds)) (o : oks ds = true) (u : Up bad bad' h h') : Rep g sp' bad' h' v (.dct ks ds) := by
  cases r with
  | dct e n hl rs => exact .dct (dict_up u e n).1 (dict_up u e n).2 hl ((rs.resp o).up u)

noncomputable abbrev Sp.withR (sp : Sp) (a : Addr) : Sp := { sa := sp.sa, fa := none, pa := some a, ta := sp.ta }
/-- the frame f2 knows no more than f, and of plain things only -/
structure Weak (f f2 : Fm) : Prop where
  sc : f2.sc = f.sc
  own : f2.own = []
  loc : ∀ x d, f2.loc.lookup x = some d → f.loc.lookup x = some d ∧ (d.ok = true ∨ d = .src)

section
variable {g : Gl} {b0 : Addr → Prop} {c : Cx} {f f2 : Fm} {A : Around} {s : Shared} {M : Mu} {n : Nat}
theorem rel_new (G : GlOk g) (IR : InitOk g g.mR initR bindsR 2) (F : Sf g b0 c f s.heap) (m : MuOk g c.sp c.bad s.heap M) {v : Value} {ks : List Str} {ds : List D} (rv : Rep g c.sp c.bad s.heap v (.dct ks ds)) (hds : oks ds = true) (hw : Weak f f2) (R : Room A 2) {Q : Value → Shared → Prop}
    (h : ∀ (h' : Heap) (tk : Nat) (x a : Addr), s.heap.get? a = none → (∀ b o, s.heap.get? b = some o → h'.get? b = some o) →
      Sf g (fun b => b0 b ∨ b = a) { c with sp := c.sp.withR a, bad := fun b => c.bad b ∨ b = a } f2 h' → MuOk g (c.sp.withR a) (fun b => c.bad b ∨ b = a) h' { M with prs := [] } →
      Rep g (c.sp.withR a) (fun b => c.bad b ∨ b = a) h' (.ref x) (.rel ks ds) → Q (.ref x) { s with heap := h', toks := tk }) :
    wpAny (model pw g.w) A (call (.ref g.CR) [v]) Q (fun _ _ => False) s := by
  refine wpAny_mono (rel_call G IR F.st.w.base (by have := R.1; omega) v) (fun r s' hr => ?_) fun _ _ x => x
  obtain ⟨h', tk, x, dx, a, k, rfl, rfl, keep, nx, nd, na, ax, ad, ea, hx, dne, hns⟩ := hr
  have w := F.st.w
  have ta := w.s2.2.1
  have bT : c.bad g.ta := w.mu _ (.inr (.inr (.inr ta)))
  have dead : ∀ {b : Addr}, s.heap.get? b = none → ¬ c.bad b := fun {b} e q => by
    obtain ⟨o, e'⟩ := w.al b q
    rw [e] at e'; cases e'
  have u : Up c.bad (fun b => c.bad b ∨ b = a) s.heap h' := ⟨fun b o e _ => keep b o e, fun b o e q => q.elim id fun z => by rw [z, na] at e; cases e⟩
  have hbn : g.hb.get? a = none := by
    cases q : g.hb.get? a with
    | none => rfl
    | some o => have := w.base a o q; rw [na] at this; cases this
  have mu' : ∀ b, (c.sp.withR a).mu b → b0 b ∨ b = a := by
    rintro b (q | q | q | q)
    · exact .inl (F.mb b (.inl q))
    · cases q
    · exact .inr (Option.some.inj q).symm
    · exact .inl (F.mb b (.inr (.inr (.inr q))))
  have nae : ∀ {b : Addr}, c.bad b → b ≠ a := fun {b} q z => dead na (z ▸ q)
  have W' : W g (c.sp.withR a) (fun b => c.bad b ∨ b = a) h' := ⟨fun b o e => keep b o (w.base b o e), fun b q => q.elim (fun z => let ⟨o, e⟩ := w.al b z; ⟨o, keep b o e⟩) fun z => ⟨_, z ▸ ea⟩,
    fun b q => (mu' b q).imp (fun z => (F.hb b).mpr (.inl z)) id, fun b q => q.elim (w.muHb b) fun z => z ▸ hbn,
    fun b e => ⟨fun q => (by cases q), fun q => nae (w.mu b (.inl e)) (Option.some.inj q).symm⟩,
    ⟨fun b e => (by cases e), ta, w.s2.2.2.1, fun q => (by cases q), fun q => nae bT (Option.some.inj q).symm⟩⟩
  have hb' : ∀ b, (c.bad b ∨ b = a) ↔ (b0 b ∨ b = a) ∨ Own c b := fun b => by
    constructor
    · rintro (q | q)
      · exact ((F.hb b).mp q).imp .inl id
      · exact .inl (.inr q)
    · rintro ((q | q) | q)
      · exact .inl ((F.hb b).mpr (.inl q))
      · exact .inr q
      · exact .inl ((F.hb b).mpr (.inr q))
  refine h h' tk x a na keep ⟨?_, hb', fun b q z => z.elim (F.nb b q) fun z => nae ((F.hb b).mpr (.inr q)) z, F.inj, .inl F.bL, fun b q => mu' b q⟩ ?_ ?_
  · exact {
      w := W'
      kind := F.st.kind
      glob := F.st.glob
      blt := F.st.blt
      ns := F.st.ns.keeps keep
      nL := by
        rintro (q | q | q | q)
        · exact F.st.nL (.inl q)
        · cases q
        · exact nae F.cL (Option.some.inj q).symm
        · exact F.st.nL (.inr (.inr (.inr q)))
      gl := fun x q => F.st.gl x (hw.sc ▸ q)
      lo := fun x q => F.st.lo x (hw.sc ▸ q)
      ce := fun x q => F.st.ce x (hw.sc ▸ q)
      loc := fun x d e => by
        obtain ⟨e1, e2⟩ := hw.loc x d e
        obtain ⟨v, p, q⟩ := F.st.loc x d e1
        have p' : VarIs { c with sp := c.sp.withR a, bad := fun b => c.bad b ∨ b = a } h' x v := p.imp id fun q3 => by
          obtain ⟨k1, b, e3, n3, z⟩ := q3
          refine ⟨k1, b, e3, ?_, z.keeps keep⟩
          rintro (q | q | q | q)
          · exact n3 (.inl q)
          · cases q
          · obtain ⟨o, ez, _⟩ := z
            rw [← Option.some.inj q, na] at ez; cases ez
          · exact n3 (.inr (.inr (.inr q)))
        refine ⟨v, p', ?_⟩
        rcases e2 with e2 | e2
        · exact (q.resp e2).up u
        · rw [e2] at q ⊢
          obtain ⟨a9, rfl, e9⟩ := src_inv q
          exact .src e9
      own := fun x l e => by rw [hw.own] at e; cases e }
  · refine ⟨fun b e => ?_, fun b e => (by cases e), fun b e => ?_, fun b e => ?_⟩
    · obtain ⟨x1, y1, t1, u1, ⟨o, q1, q2⟩, q3⟩ := m.src b e
      exact ⟨x1, y1, t1, u1, ⟨o, keep _ _ q1, q2⟩, q3⟩
    · obtain rfl := Option.some.inj e
      exact ⟨[], k, ea, .nil⟩
    · exact (m.tab b e).up (keep _) u
  · obtain ⟨o, e1, e2, e3, e4⟩ := hx
    exact .rel rfl ⟨o, dx, e1, e2, e3, e4, dne, hns, fun q => q.elim (dead nx) (Ne.symm ax), fun q => q.elim (dead nd) (Ne.symm ad)⟩ (dct_resp rv hds u)

/-- the end of a statement that makes a relation -/
inductive REnd (g : Gl) (b0 : Addr → Prop) (c : Cx) (s : Shared) (M : Mu) (Pf : Fm → Prop) (s' : Shared) : Prop
  | mk (hm : _) (h' : _) (tk : _) (a : _) (c' : _) (fr : _) (q1 : s' = { s with heap := h', toks := tk }) (q2 : Kp c.sp s.heap hm) (q3 : MuOk g c.sp c.bad hm M) (q4 : (∀ b o, hm.get? b = some o → ¬ (c.sp.withR a).mu b → b ≠ c.env.locals → ¬ Own c b → h'.get? b = some o)) (q5 : (∀ b o, hm.get? b = some o → ∃ o', h'.get? b = some o')) (q6 : hm.get? a = none) (q7 : c'.sp = c.sp.withR a) (q8 : c'.env = c.env) (q9 : (∀ b, Own c' b → Own c b ∨ hm.get? b = none)) (q10 : Sf g (fun b => b0 b ∨ b = a) c' fr h') (q11 : MuOk g c'.sp c'.bad h' { M with prs := [] }) (q12 : Pf fr)

@[elab_as_elim] theorem REnd.el {g : Gl} {b0 : Addr → Prop} {c : Cx} {s : Shared} {M : Mu} {Pf : Fm → Prop} {P : Shared → Prop} {s' : Shared} (x : REnd g b0 c s M Pf s')
    (k : ∀ (hm h' : Heap) (tk : Nat) (a : Addr) (c' : Cx) (fr : Fm), Kp c.sp s.heap hm → MuOk g c.sp c.bad hm M → (∀ b o, hm.get? b = some o → ¬ (c.sp.withR a).mu b → b ≠ c.env.locals → ¬ Own c b → h'.get? b = some o) → (∀ b o, hm.get? b = some o → ∃ o', h'.get? b = some o') → hm.get? a = none →
      c'.sp = c.sp.withR a → c'.env = c.env → (∀ b, Own c' b → Own c b ∨ hm.get? b = none) → Sf g (fun b => b0 b ∨ b = a) c' fr h' → MuOk g c'.sp c'.bad h' { M with prs := [] } → Pf fr → P { s with heap := h', toks := tk }) : P s' := by
  cases x with
  | mk hm h' tk a c' fr e e2 e3 e4 e5 e6 e7 e8 e9 e10 e11 e12 => subst e; exact k hm h' tk a c' fr e2 e3 e4 e5 e6 e7 e8 e9 e10 e11 e12

theorem rel_eval {r : Ev} (G : GlOk g) (IR : InitOk g g.mR initR bindsR 2) (S : Snd g n r) (R : Room A n) (h2n : 2 ≤ n) (F : Sf g b0 c f s.heap) (m : MuOk g c.sp c.bad s.heap M) {e : Expr} {xp pos : Pos} (hp : pl e = true) (hk : f.sc.names.lookup (S' "Relation") = some .globalImplicit)
    {P : List Str → List D → Prop} (he : r.E e f M fun d M1 => M1 = M ∧ ∃ ks ds, d = .dct ks ds ∧ oks ds = true ∧ P ks ds) (hw : Weak f f2) {Q : Value → Shared → Prop}
    (h : ∀ (hm h' : Heap) (tk : Nat) (x a : Addr) (ks : List Str) (ds : List D), P ks ds → Kp c.sp s.heap hm → MuOk g c.sp c.bad hm M → (∀ b o, hm.get? b = some o → h'.get? b = some o) → hm.get? a = none →
      Sf g (fun b => b0 b ∨ b = a) { c with sp := c.sp.withR a, bad := fun b => c.bad b ∨ b = a } f2 h' → MuOk g (c.sp.withR a) (fun b => c.bad b ∨ b = a) h' { M with prs := [] } →
      Rep g (c.sp.withR a) (fun b => c.bad b ∨ b = a) h' (.ref x) (.rel ks ds) → Q (.ref x) { s with heap := h', toks := tk }) :
    wpAny (model pw g.w) A (eval (.Call (.Name (S' "Relation") xp) [e] [] pos) c.env) Q (fun _ _ => False) s := by
  show wpAny _ A (do callWith pos (← eval (.Name (S' "Relation") xp) c.env) [] (backTo pos (starEach [e] c.env)) []) _ _ _
  refine wpAny_bind ?_
  obtain ⟨N, Y⟩ := G.clsR
  have hp1 : [e].all pl = true := by rw [List.all_cons, hp]; rfl
  refine glob_ok G F.st hk (by decide +kernel) G.mgR (callWith_cls Y ?_ (star_pl hp _ _) (back_plain _ _ rfl))
  rw [back_cons hp]
  refine spliced_cons ((S.E _ _ _ _ _ _ _ F.st m R he).then fun v h1 tk1 d M1 k1 hd rv m1 => spliced_nil ?_)
  obtain ⟨rfl, ks, ds, rfl, ho, hP⟩ := hd
  obtain ⟨F1, n1⟩ := F.expr k1
  exact ⟨F1.st.w.base, rel_new (s := { s with heap := h1, toks := tk1 }) G IR F1 m1 rv ho hw (R.le h2n) fun h' tk x a na keep F' m' r' => h h1 h' tk x a ks ds hP k1 m1 keep na F' m' r'⟩

theorem rel_assign {r : Ev} (G : GlOk g) (IR : InitOk g g.mR initR bindsR 2) (S : Snd g n r) (R : Room A n) (h2n : 2 ≤ n) (F : Sf g b0 c f s.heap) (m : MuOk g c.sp c.bad s.heap M) {e : Expr} {y : Str} {yp xp pos pos2 : Pos} (hp : pl e = true) (hk : f.sc.names.lookup (S' "Relation") = some .globalImplicit) (hy : f.sc.names.lookup y = some .local)
    {P : List Str → List D → Prop} (he : r.E e f M fun d M1 => M1 = M ∧ ∃ ks ds, d = .dct ks ds ∧ oks ds = true ∧ P ks ds) (hw : Weak f f2) :
    wpAny (model pw g.w) A (exec (.Assign [.Name y yp] (.Call (.Name (S' "Relation") xp) [e] [] pos) pos2) c.env) (fun fl s' => fl = .next ∧ REnd g b0 c s M (fun fr => ∃ ks ds, P ks ds ∧ fr = f2.set y (.rel ks ds)) s') (fun _ _ => False) s := by
  refine wpAny_Assign_Name (rel_eval G IR S R h2n F m hp hk he hw fun hm h' tk x a ks ds hP kp mm keep na F' m' r' => ?_) rfl
  refine store_ok (c := { c with sp := c.sp.withR a, bad := fun b => c.bad b ∨ b = a }) (s := { s with heap := h', toks := tk }) F' m' (hw.sc ▸ hy) r' fun h2 tk2 m2 n2 F2 mo2 => ⟨rfl, ?_⟩
  exact ⟨hm, h2, tk2, a, _, _, rfl, kp, mm, fun b o e n1 n3 n4 => n2.keep b o (keep b o e) n1 n3 n4, fun b o e => n2.alive b o (keep b o e), na, n2.sp, n2.env, fun b q => .inl q, F2, mo2, ks, ds, hP, rfl⟩

theorem rel_swap {r : Ev} (G : GlOk g) (IR : InitOk g g.mR initR bindsR 2) (S : Snd g n r) (R : Room A n) (h2n : 2 ≤ n) (F : Sf g b0 c f s.heap) (m : MuOk g c.sp c.bad s.heap M) {ow : List Str} {ts : List Expr} {e e2 : Expr} {x1 x2 : Str} {k k2 : Nat} {xp pos p p2 pos2 : Pos} (hp : pl e = true) (hp2 : pl e2 = true) (hk : f.sc.names.lookup (S' "Relation") = some .globalImplicit)
    (hn : namesOf ts = some [x1, x2]) (hl : localsAll f.sc [x1, x2] = true) (hsw : swapOk ts [.Call (.Name (S' "Relation") xp) [e] [] pos, e2] [x1, x2] = true)
    {P : List Str → List D → Prop} {P2 : List VO → Prop} (he : r.E e f M fun d M1 => M1 = M ∧ ∃ ks ds, d = .dct ks ds ∧ oks ds = true ∧ P ks ds) (hw : Weak f f2)
    (h2 : mixE r ow [x2] [e2] f2 { M with prs := [] } fun rs M1 => M1 = { M with prs := [] } ∧ P2 rs) :
    wpAny (model pw g.w) A (exec (.Assign [.Tuple ts k p] (.Tuple [.Call (.Name (S' "Relation") xp) [e] [] pos, e2] k2 p2) pos2) c.env) (fun fl s' => fl = .next ∧ REnd g b0 c s M (fun fr => ∃ ks ds rs, P ks ds ∧ P2 rs ∧ fr = setMany f2 [x2, x1] (VO.v (.rel ks ds) :: rs).reverse) s') (fun _ _ => False) s := by
  have hx : ∀ x ∈ [x1, x2], f.sc.names.lookup x = some .local := fun x hx => by
    unfold localsAll at hl
    rw [List.all_eq_true] at hl
    exact eq_of_beq (hl x hx)
  refine Assign_Tuple_swapped (names := [x1, x2]) (Tuple_ ?_) rfl (swapped_ok F.st.kind hn (fun x q => F.st.lo x (hx x q)) hsw)
  rw [back_cons (by rfl)]
  refine spliced_cons (rel_eval G IR S R h2n F m hp hk he hw fun hm h' tk x a ks ds hP kp mm keep na F' m' r' => ?_)
  generalize hc' : ({ c with sp := c.sp.withR a, bad := fun b => c.bad b ∨ b = a } : Cx) = c' at *
  have esp : c'.sp = c.sp.withR a := by rw [← hc']
  have een : c'.env = c.env := by rw [← hc']
  have ebad : c'.bad = fun b => c.bad b ∨ b = a := by rw [← hc']
  have eow : c'.ow = c.ow := by rw [← hc']
  have m' : MuOk g c'.sp c'.bad h' { M with prs := [] } := by rw [esp, ebad]; exact m'
  have r' : Rep g c'.sp c'.bad h' (.ref x) (.rel ks ds) := by rw [esp, ebad]; exact r'
  rw [← een]
  have F0 := F'
  refine wpAny_mono (mix_ok (s := { s with heap := h', toks := tk }) S R p2 [x2] [e2] c' _ _ (by rw [List.all_cons, hp2]; rfl) h2 F0.st m') (fun vs s1 h1 => ?_) fun _ _ x => x
  obtain ⟨h1, tk1, as, rs, M1, rfl, k1, hK, w1, fr, nd, m1, X1, vl, xl⟩ := h1
  obtain ⟨rfl, hP2⟩ := hK
  have vl : vs.length = 1 := vl
  refine wpAny_newTuple ?_ (by rw [List.length_cons, vl, sizeLine_eq]; decide)
  obtain ⟨h2', hh2⟩ : ∃ h2', h2' = h1.push (tupO (.ref x :: vs) 0) := ⟨_, rfl⟩
  obtain ⟨T, hT⟩ : ∃ T, T = h1.objs.size := ⟨_, rfl⟩
  have kk2 : ∀ b o, h1.get? b = some o → h2'.get? b = some o := fun b o e => by rw [hh2]; exact push_keep _ _ _ _ e
  have eT : h2'.get? T = some (tupO (.ref x :: vs) 0) := by rw [hh2, hT]; exact Heap.get?_push_size _ rfl
  have hsz : ([x1, x2] : List Str).length = (Value.ref x :: vs).toArray.size := by simp [vl]
  rw [← hT, ← hh2, hsz]
  refine wpAny_unpackItems_tuple (s := { s with heap := h2', toks := tk1 }) R.2.2 (isT_of eT) fun h3 x3 => ?_
  have kk3 : ∀ b o, h2'.get? b = some o → h3.get? b = some o := fun b o e => x3 b o (new_ne e) e
  have kk : ∀ b o, h1.get? b = some o → h3.get? b = some o := fun b o e => kk3 b o (kk2 b o e)
  have X3 : St g (c'.privs as) f2 h3 := X1.next (c := c'.privs as) (.of_keep kk)
  have m3 := m1.keep kk
  have up1 : Up c'.bad (c'.privs as).bad h' h1 := ⟨fun b o e nb => k1.keep b o e fun q => nb (F0.st.w.mu b q), fun b o e q => q.elim id fun z => by rw [fr b z] at e; cases e⟩
  have wx : WR g (c'.privs as) h1 (.ref x :: vs) (.v (.rel ks ds) :: rs) as := .v (r'.up up1) w1
  have w3 : WR g (c'.privs as) h3 (.ref x :: vs) (.v (.rel ks ds) :: rs) as := wx.next (up_keep kk) (fun a _ o e => kk a o e) (fun a ha => .inr ha) rfl rfl
  have kp3 : Kp c'.sp h' h3 := k1.trans (.of_keep kk)
  have nob : ∀ a ∈ as, ¬ c'.bad a := fun a ha q => by
    obtain ⟨o, e⟩ := F0.st.w.al a q
    rw [fr a ha] at e; cases e
  show wpAny _ A (assignInOrder ([x2, x1].map fun n => bindName c'.env n) (Value.ref x :: vs).toArray.toList.reverse) _ _ _
  have evs : (Value.ref x :: vs).toArray.toList.reverse = (Value.ref x :: vs).reverse := by simp
  rw [evs]
  have nd' : as.reverse.Nodup := by
    unfold List.Nodup at nd ⊢
    rw [List.pairwise_reverse]
    exact nd.imp fun h => Ne.symm h
  refine stores_ok [x2, x1] (Value.ref x :: vs).reverse (VO.v (.rel ks ds) :: rs).reverse as.reverse (c'.privs as) f2 { s with heap := h3, toks := tk1 } _ _ (by simp [vl]) w3.reverse nd' (fun a ha q => nob a (List.mem_reverse.mp ha) ((F0.hb a).mpr (.inr q))) F0.inj X3 (.inl F0.cL) (fun x q => by
    rw [hw.sc]
    simp only [List.mem_cons, List.not_mem_nil, or_false] at q
    exact hx x (by simp only [List.mem_cons, List.not_mem_nil, or_false]; exact q.symm)) m3 fun h4 tk4 c4 X4 e1 e2 e3 e4 e5 e6 m4 => ?_
  have ob : ∀ b, Own c4 b → c4.bad b := fun b q => by
    rw [e1]
    exact (e4 b q).elim (fun z => .inl ((F0.hb b).mpr (.inr z))) fun z => .inr (List.mem_reverse.mp z)
  obtain ⟨c5, n5, F5, m5⟩ := F0.rebad X4 e2 e3 ob (fun b q => by rw [e1]; exact .inl ((F0.hb b).mpr (.inl q))) (fun b q => (e4 b q).elim .inl fun z => .inr (fr b (List.mem_reverse.mp z))) e5
    (fun b o e n1 n2 => e6 b o n2 (kp3.keep b o e n1)) (fun b o e => by
      obtain ⟨o', e'⟩ := kp3.alive b o e
      by_cases q : b = c'.env.locals
      · obtain ⟨o2, _, _, e2', _⟩ := X4.ns
        rw [e3] at e2'
        exact ⟨o2, q ▸ e2'⟩
      · exact ⟨o', e6 b o' q e'⟩) (by rw [e1, e2]; exact m4)
  have oc : ∀ {b : Addr}, Own c' b → Own c b := fun {b} ⟨z, q⟩ => ⟨z, by rw [← eow]; exact q⟩
  refine ⟨rfl, hm, h4, tk4, a, c5, _, rfl, kp, mm, fun b o e n1 n3 n4 => n5.keep b o (keep b o e) (by rw [esp]; exact n1) (by rw [een]; exact n3) fun q => n4 (oc q), fun b o e => n5.alive b o (keep b o e), na, n5.sp.trans esp, n5.env.trans een, fun b q => (n5.own b q).imp oc fun z => ?_, F5, m5, ks, ds, rs, hP, hP2, rfl⟩
  cases e9 : hm.get? b with
  | none => rfl
  | some o => have := keep b o e9; rw [z] at this; cases this
end
end Mine
end

section
open PySem PySem.W PySem.Calls PyProof.Rows
set_option Elab.async false
set_option maxRecDepth 100000
set_option maxHeartbeats 4000000
set_option linter.unusedVariables false
namespace Mine

theorem wp_execs_app {M : Model} {Γ : Ctx} {env : Env} {rest : List Stmt} {Q : Flow → Pos → Shared → Prop} {E : Value → Pos → Shared → Prop} : ∀ (pre : List Stmt) (p : Pos) (s : Shared),
    Sem.wp M Γ (execs pre env) (fun f p' s' => match f with | .next => Sem.wp M Γ (execs rest env) Q E p' s' | f => Q f p' s') E p s → Sem.wp M Γ (execs (pre ++ rest) env) Q E p s
  | [], p, s, h => by
    rw [execs_nil, Sem.wp_pure'] at h
    exact h
  | st :: pre, p, s, h => by
    rw [execs_cons, Sem.wp_bind'] at h
    rw [List.cons_append, execs_cons, Sem.wp_bind']
    refine Sem.wp_mono M Γ _ (fun f p' s' h' => ?_) (fun _ _ _ h' => h') _ _ h
    cases f with
    | next => exact wp_execs_app pre p' s' h'
    | brk => rw [Sem.wp_pure'] at h'; exact h'
    | cont => rw [Sem.wp_pure'] at h'; exact h'
    | ret v => rw [Sem.wp_pure'] at h'; exact h'
theorem execs_app {M : Model} {A : Around} {env : Env} {s : Shared} {pre rest : List Stmt} {Q : Flow → Shared → Prop} {E : Value → Shared → Prop}
    (h : wpAny M A (execs pre env) (fun f s' => match f with | .next => wpAny M A (execs rest env) Q E s' | f => Q f s') E s) : wpAny M A (execs (pre ++ rest) env) Q E s := fun Γ p hΓ => by
  refine wp_execs_app pre p s (Sem.wp_mono M Γ _ (fun f p' s' h' => ?_) (fun _ _ _ h' => h') _ _ (h Γ p hΓ))
  cases f with
  | next => exact h' Γ p' hΓ
  | brk => exact h'
  | cont => exact h'
  | ret v => exact h'

/-- a def that makes a relation in its middle -/
theorem rel_def {g : Gl} (B : Base g) {x : Str} (hin : walked.contains x = true) {ds : List D} {M : Mu} {K : KE} {k : Nat} (hk : 2 ≤ k) {pre post : List Stmt} {st : Stmt} (hb : (defIn top x).2.1 = pre ++ st :: post) (hl : (argNames (defIn top x).1).length = ds.length) {Pre Pf : Fm → Prop} (ow ow2 : List Str)
    (hpre : evS (PhiS g k) ow 40 pre { sc := (defIn top x).2.2, loc := (argNames (defIn top x).1).zip ds, own := [] } M fun fl f1 M1 => fl = .next ∧ M1 = M ∧ Pre f1)
    (hst : ∀ (b0 : Addr → Prop) (c : Cx) (f : Fm) (A : Around) (s : Shared), Room A k → Pre f → Sf g b0 c f s.heap → MuOk g c.sp c.bad s.heap M → wpAny (model pw g.w) A (exec st c.env) (fun fl s' => fl = .next ∧ REnd g b0 c s M Pf s') (fun _ _ => False) s)
    (hpost : ∀ fr, Pf fr → evS (PhiS g k) ow2 40 post fr { M with prs := [] } fun fl _ _ => fl = .ret (.bool true)) (hK : K (.bool true) M) : PhiS g (k + 1) x ds M K := by
  intro a ha sp bad A s vs w m rs R
  have hin' : x ∈ walked := List.contains_iff_mem.mp hin
  have hm : methNames.contains x = false := by
    have : ∀ x ∈ walked, methNames.contains x = false := by decide +kernel
    exact this x hin'
  rw [hm] at ha
  refine fn_enter B.gl (B.fn x hin' a ha) (ok_walked x hin') hl w m rs R fun fd o c h1 tk1 ho hd esp een eow ecm F m1 keep R' cells => ?_
  rw [hb]
  generalize hL : s.heap.objs.size = L at *
  have fL : s.heap.get? L = none := by rw [← hL, get_size]
  have eL : c.env.locals = L := by rw [een]; rfl
  have nc : ∀ b, ¬ Own c b := fun b ⟨y, q⟩ => by rw [eow] at q; simp at q
  refine execs_app (wpAny_mono (stmts_ok B.gl (phi_ok g k) (by omega) R' ow 40 pre (fun b => bad b ∨ b = L) c _ { s with heap := h1, toks := tk1 } M _ F (by rw [esp]; exact m1) hpre) (fun fl s' hq => ?_) fun _ _ x => x.elim)
  refine SEnd.el hq fun h2 tk2 c2 f2 M2 n2 F2 m2 hf => ?_
  clear hq
  cases fl with
  | brk => exact hf.elim
  | cont => exact hf.elim
  | ret v => obtain ⟨d, _, q, _⟩ := hf; cases q
  | next =>
  obtain ⟨_, hM2, hP⟩ := hf
  rw [hM2] at m2
  show wpAny _ _ (execs (st :: post) c.env) _ _ { s with heap := h2, toks := tk2 }
  rw [← n2.env]
  refine wpAny_execs_cons (wpAny_mono (hst _ c2 f2 _ { s with heap := h2, toks := tk2 } (by rw [n2.env]; exact R') hP F2 m2) (fun fl s' hq => ?_) fun _ _ x => x.elim)
  obtain ⟨rfl, hr⟩ := hq
  refine hr.el fun hm2 h3 tk3 ra c3 fr kp mm kk al3 na esp3 een3 ow3 F3 m3 hPf => ?_
  clear hr
  show wpAny _ _ (execs post c2.env) _ _ { s with heap := h3, toks := tk3 }
  rw [← een3]
  refine wpAny_mono (stmts_ok B.gl (phi_ok g k) (by omega) (by rw [een3, n2.env]; exact R') ow2 40 post _ c3 fr { s with heap := h3, toks := tk3 } _ _ F3 m3 (hpost fr hPf)) (fun fl s' hq => ?_) fun _ _ x => x.elim
  refine SEnd.el hq fun h4 tk4 c4 f4 M4 n4 F4 m4 hf => ?_
  clear hq
  have esp2 : c2.sp = sp := n2.sp.trans esp
  have esp4 : c4.sp = sp.withR ra := by rw [n4.sp, esp3, esp2]
  have eL2 : c2.env.locals = L := by rw [n2.env]; exact eL
  have eL3 : c3.env.locals = L := by rw [een3]; exact eL2
  cases fl with
  | brk => exact hf.elim
  | cont => exact hf.elim
  | next => cases (show Fl.next = Fl.ret _ from hf)
  | ret v =>
  obtain ⟨d, rv, hd4⟩ := hf
  cases hd4
  refine rv.bool_el ?_
  -- what stands from the start to the end
  have alive2 : ∀ b o, s.heap.get? b = some o → ∃ o', hm2.get? b = some o' := fun b o e => let ⟨o1, e1⟩ := n2.alive b o (keep b o e); kp.alive b o1 e1
  have mid : ∀ b o, s.heap.get? b = some o → ¬ sp.mu b → hm2.get? b = some o := fun b o e nm => by
    refine kp.keep b o (n2.keep b o (keep b o e) (by rw [esp]; exact nm) (fun q => ?_) (nc b)) (by rw [esp2]; exact nm)
    rw [eL] at q; rw [q, fL] at e; cases e
  have ow2n : ∀ b, Own c2 b → h1.get? b = none := fun b q => (n2.own b q).elim (fun z => (nc b z).elim) id
  have ow3n : ∀ b, Own c3 b → h1.get? b = none := fun b q => (ow3 b q).elim (ow2n b) fun z => by
    cases e : h1.get? b with
    | none => rfl
    | some o =>
      obtain ⟨o1, e1⟩ := n2.alive b o e
      obtain ⟨o2, e2⟩ := kp.alive b o1 e1
      rw [z] at e2; cases e2
  have fin : ∀ b o, (∃ o1, s.heap.get? b = some o1) → hm2.get? b = some o → ¬ (sp.withR ra).mu b → h4.get? b = some o := fun b o ⟨o1, e1⟩ e nm => by
    have bL : b ≠ L := fun q => by rw [q, fL] at e1; cases e1
    have no2 : ¬ Own c2 b := fun q => by have := ow2n b q; rw [keep b o1 e1] at this; cases this
    have no3 : ¬ Own c3 b := fun q => by have := ow3n b q; rw [keep b o1 e1] at this; cases this
    refine n4.keep b o (kk b o e (by rw [esp2]; exact nm) (by rw [eL2]; exact bL) no2) (by rw [esp3, esp2]; exact nm) (by rw [eL3]; exact bL) no3
  have na0 : ∀ b o, s.heap.get? b = some o → b ≠ ra := fun b o e q => by
    obtain ⟨o2, e2⟩ := alive2 b o e
    rw [q, na] at e2; cases e2
  have mu' : ∀ b o, s.heap.get? b = some o → ¬ sp.mu b → ¬ (sp.withR ra).mu b := by
    rintro b o e nm (q | q | q | q)
    · exact nm (.inl q)
    · cases q
    · exact na0 b o e (Option.some.inj q).symm
    · exact nm (.inr (.inr (.inr q)))
  have kp4 : Kp sp s.heap h4 := ⟨fun b o e nm => fin b o ⟨o, e⟩ (mid b o e nm) (mu' b o e nm), fun b o e => by
    obtain ⟨o2, e2⟩ := alive2 b o e
    obtain ⟨o3, e3⟩ := al3 b o2 e2
    exact n4.alive b o3 e3⟩
  have u : Up bad bad s.heap h4 := kp4.up w.mu
  have u2 : Up c2.bad bad hm2 h4 := ⟨fun b o e nb => by
    have nm : ¬ sp.mu b := fun q => nb ((F2.hb b).mpr (.inl (.inl (w.mu b q))))
    have nm' : ¬ (sp.withR ra).mu b := by
      rintro (q | q | q | q)
      · exact nm (.inl q)
      · cases q
      · rw [← Option.some.inj q, na] at e; cases e
      · exact nm (.inr (.inr (.inr q)))
    have bL : b ≠ L := fun q => nb ((F2.hb b).mpr (.inl (.inr q)))
    have no2 : ¬ Own c2 b := fun q => nb ((F2.hb b).mpr (.inr q))
    have no3 : ¬ Own c3 b := fun q => (ow3 b q).elim no2 fun z => by rw [e] at z; cases z
    exact n4.keep b o (kk b o e (by rw [esp2]; exact nm') (by rw [eL2]; exact bL) no2) (by rw [esp3, esp2]; exact nm') (by rw [eL3]; exact bL) no3, fun b o e q => (F2.hb b).mpr (.inl (.inl q))⟩
  refine ⟨h4, tk4, rfl, kp4, .bool true, M, hK, .bool true, ?_⟩
  refine ⟨fun b e => ?_, fun b e => ?_, fun b e => ?_, fun b e => ?_⟩
  · exact m4.src b (by rw [esp4]; exact e)
  · rw [← esp2] at e
    obtain ⟨vs7, n7, e7, r7⟩ := mm.fnd b e
    rw [esp2] at e r7
    obtain ⟨o1, e1⟩ := w.al b (w.mu b (.inr (.inl e)))
    refine ⟨vs7, n7, fin b _ ⟨o1, e1⟩ e7 ?_, r7.up u2⟩
    rintro (q | q | q | q)
    · exact (w.s1 b q).1 e
    · cases q
    · exact na0 b o1 e1 (Option.some.inj q).symm
    · exact w.s2.2.2.2.1 (by rw [e, ← q]; exact w.s2.2.1)
  · rw [← esp2] at e
    obtain ⟨vs7, n7, e7, r7⟩ := mm.prs b e
    rw [esp2] at e r7
    obtain ⟨o1, e1⟩ := w.al b (w.mu b (.inr (.inr (.inl e))))
    refine ⟨vs7, n7, fin b _ ⟨o1, e1⟩ e7 ?_, r7.up u2⟩
    rintro (q | q | q | q)
    · exact (w.s1 b q).2 e
    · cases q
    · exact na0 b o1 e1 (Option.some.inj q).symm
    · exact w.s2.2.2.2.2 (by rw [e, ← q]; exact w.s2.2.1)
  · have ht := m4.tab b (by rw [esp4]; exact e)
    exact ht.up (fun _ e => e) ⟨fun _ _ e _ => e, fun b _ _ q => (F4.hb b).mpr (.inl (.inl (.inl q)))⟩
end Mine
end

section
open PySem PySem.W PySem.Calls PyProof.Rows
set_option Elab.async false
set_option maxRecDepth 100000
set_option maxHeartbeats 4000000
set_option linter.unusedVariables false
set_option linter.unusedSectionVars false
set_option linter.unusedSimpArgs false
set_option smartUnfolding false
namespace Mine

theorem Ok.nil : Ok [] 0 := ⟨.nil, Nat.le_refl _⟩
theorem Ok.add {l : List D} {n : Nat} {a b : D} (h : Ok l n) (x : rg a) (y : rg b) : Ok (Mine.add l a b) (n + 1) := ⟨h.1.add x y, Nat.le_trans (add_length _ _ _) (Nat.succ_le_succ h.2)⟩
theorem rg_of {x : D} {i : Int} (h : x ∈ [D.int i, st "'a"]) : rg x := by
  rcases List.mem_cons.mp h with q | q
  · exact .inr ⟨i, q⟩
  · exact .inl (List.mem_singleton.mp q)
theorem PP.cons {a b : D} {l : List D} (x : rg a) (y : rg b) (h : PP l) : PP (.tup [a, b] :: l) := fun p hp => (List.mem_cons.mp hp).elim (fun q => ⟨a, b, x, y, q⟩) (h p)

noncomputable def prB : List Stmt := (defIn top (S' "_law_pairs_right")).2.1
noncomputable def prS : Scope := (defIn top (S' "_law_pairs_right")).2.2
set_option smartUnfolding true in
theorem idx_last (l : List D) (x : D) (h : l.length ≤ 1000) : idx (l ++ [x]) (-1) = some x := by
  unfold idx
  rw [if_pos ⟨by decide, by decide⟩]
  have e : seqIndex? (-1) (l ++ [x]).length = some l.length := by
    unfold seqIndex?
    simp only [List.length_append, List.length_cons, List.length_nil]
    have h1 : (-1 : Int) < 0 := by decide
    simp only [h1, if_true]
    split
    · exact congrArg some (by omega)
    · rename_i q
      simp at q
      omega
  rw [e]
  simp
theorem opt_split {o : Option D} {x : D} {P : D → Prop} {Q : Prop} (e : o = some x) (h : P x) : @Option.rec D (fun _ => Prop) Q P o := by
  subst e
  exact h
noncomputable def prI : Stmt := nth prB 1
noncomputable abbrev prF (l : List D) (d : D) : Fm := ⟨prS, [(S' "source", .src), (S' "relation", .rel [] []), (S' "turn", d)], [(S' "due", l)]⟩
noncomputable abbrev prF0 (l : List D) : Fm := ⟨prS, [(S' "source", .src), (S' "relation", .rel [] [])], [(S' "due", l)]⟩
section
variable {g : Gl} {k : Nat} (B : Base g) (N : Man g) (IR : InitOk g g.mR initR bindsR 2) {M : Mu} {K : KE}
include B N

theorem pairs_loop (hk : 6 ≤ k) {ow : List Str} {m : Nat} {fd : List D} {KK : KS} : ∀ (n : Nat) (a : Int) (d : D) (ps : List D), PP ps → ps.length + n ≤ 100 → (∀ (d : D) (qs : List D), PP qs → qs.length ≤ 100 → KK .next (prF qs d) ⟨fd, addAll [] qs⟩) →
    forP (forParts prI).1 (fun f1 M2 K2 => evS (PhiS g k) ow (m + 5) (forParts prI).2 f1 M2 K2) (rangeFrom a n) (prF ps d) ⟨fd, addAll [] ps⟩ KK
  | 0, a, d, ps, hp, hn, h => h d ps hp (by omega)
  | n + 1, a, d, ps, hp, hn, h => by
    refine ⟨show ps.length ≤ 100000 by omega, ?_⟩
    refine N.take k _ _ _ (by omega) (by decide) (by decide) fun i _ _ => ?_
    refine N.take k _ _ _ (by omega) (by decide) (by decide) fun j _ _ => ?_
    refine sp_one B N (by omega) _ (show 1 ≤ 2 by decide) (show 2 ≤ 100 by decide) fun x hx => ?_
    have r := rg_of hx
    clear hx
    refine opt_split (o := idx (ps ++ [.tup [.int i, x]]) (-1)) (idx_last _ _ (by omega)) ?_
    refine opt_split (o := idx (ps ++ [.tup [.int i, x]]) (-1)) (idx_last _ _ (by omega)) ?_
    have hl : (addAll [] ps).length ≤ 0 + ps.length := addAll_length
    refine sp_outlives B (by omega) (rg_int i) r (hp.addAll .nil) (by show (addAll [] ps).length ≤ _; omega) ?_
    have e : add (addAll [] ps) (.int i) x = addAll [] (ps ++ [.tup [.int i, x]]) := by rw [addAll_app]; rfl
    have g1 := pairs_loop hk (ow := ow) (m := m) n (a + 1) (.int a) (ps ++ [.tup [.int i, x]]) (hp.app (.one (rg_int i) r)) (by simp; omega) h
    rw [← e] at g1
    exact g1
theorem pairs_post (hk : 6 ≤ k) (ow : List Str) (M : Mu) : evS (PhiS g k) ow 40 (prB.drop 1) (prF0 []) { M with prs := [] } fun fl _ _ => fl = .ret (.bool true) := by
  refine ⟨⟨by decide, by decide⟩, ?_⟩
  -- the first turn
  refine ⟨show 0 ≤ 100000 by decide, ?_⟩
  refine N.take k _ _ _ (by omega) (by decide) (by decide) fun i _ _ => ?_
  refine N.take k _ _ _ (by omega) (by decide) (by decide) fun j _ _ => ?_
  refine sp_one B N (by omega) _ (show 1 ≤ 2 by decide) (show 2 ≤ 100 by decide) fun x hx => ?_
  have r := rg_of hx
  clear hx
  refine sp_outlives B (by omega) (rg_int i) r .nil (show 0 ≤ 10000 by decide) ?_
  refine pairs_loop B N hk (fd := M.fnd) 7 1 (.int 0) [.tup [.int i, x]] (.one (rg_int i) r) (show 1 + 7 ≤ 100 by decide) fun d qs hq hl => ?_
  refine sp_kept B (by omega) hq (by omega) ?_
  refine ⟨eqOk_same (hq.addAll .nil), ?_⟩
  have e := eqv_same (hq.addAll .nil).ok
  exact congrArg (fun b => Fl.ret (.bool b)) e
end
end Mine
end

section
open PySem PySem.W PySem.Calls PyProof.Rows
set_option Elab.async false
set_option maxRecDepth 100000
set_option maxHeartbeats 4000000
set_option linter.unusedVariables false
set_option linter.unusedSectionVars false
set_option linter.unusedSimpArgs false
set_option smartUnfolding false
namespace Mine

theorem REnd.mono {g : Gl} {b0 : Addr → Prop} {c : Cx} {s : Shared} {M : Mu} {Pf Pf' : Fm → Prop} {s' : Shared} (x : REnd g b0 c s M Pf s') (h : ∀ fr, Pf fr → Pf' fr) : REnd g b0 c s M Pf' s' :=
  by
  cases x with
  | mk hm h' tk a c' fr e1 e2 e3 e4 e5 e6 e7 e8 e9 e10 e11 e12 => exact ⟨hm, h', tk, a, c', fr, e1, e2, e3, e4, e5, e6, e7, e8, e9, e10, e11, h fr e12⟩
theorem weak_nil (sc : Scope) : Weak ⟨sc, [], []⟩ ⟨sc, [], []⟩ := ⟨rfl, rfl, fun x d e => by cases e⟩
theorem weak_src (sc : Scope) : Weak ⟨sc, [(S' "source", .src)], []⟩ ⟨sc, [(S' "source", .src)], []⟩ := ⟨rfl, rfl, fun x d e => ⟨e, by
  have e : [(S' "source", D.src)].lookup x = some d := e
  rw [List.lookup_cons] at e
  cases hx : x == S' "source" with
  | true => rw [hx] at e; cases e; exact .inr rfl
  | false => rw [hx] at e; cases e⟩⟩

noncomputable def trB : List Stmt := (defIn top (S' "_law_told_right")).2.1
noncomputable def trS : Scope := (defIn top (S' "_law_told_right")).2.2
theorem prSt : ∃ ts k e xp pos e2 k2 p p2 pos2, nth prB 0 = .Assign [.Tuple ts k p] (.Tuple [.Call (.Name (S' "Relation") xp) [e] [] pos, e2] k2 p2) pos2 ∧ pl e = true ∧ pl e2 = true ∧ namesOf ts = some [S' "relation", S' "due"] ∧ swapOk ts [.Call (.Name (S' "Relation") xp) [e] [] pos, e2] [S' "relation", S' "due"] = true ∧
    (∀ (Φ : Phi) (M : Mu) (K : KE), K (.dct [] []) M → (ev Φ 30).E e ⟨prS, [(S' "source", .src)], []⟩ M K) ∧ (∀ (Φ : Phi) (M : Mu) (K : List VO → Mu → Prop), K [.o []] M → mixE (ev Φ 30) [S' "due"] [S' "due"] [e2] ⟨prS, [(S' "source", .src)], []⟩ M K) :=
  ⟨_, _, _, _, _, _, _, _, _, _, rfl, rfl, rfl, rfl, by decide +kernel, fun Φ M K h => h, fun Φ M K h => h⟩
noncomputable abbrev waysT : D := .tup [wD .co, wD .inn, wD .bi, wD .co]
theorem trSt : ∃ ts k e xp pos e2 k2 p p2 pos2, nth trB 0 = .Assign [.Tuple ts k p] (.Tuple [.Call (.Name (S' "Relation") xp) [e] [] pos, e2] k2 p2) pos2 ∧ pl e = true ∧ pl e2 = true ∧ namesOf ts = some [S' "relation", S' "plain_here"] ∧ swapOk ts [.Call (.Name (S' "Relation") xp) [e] [] pos, e2] [S' "relation", S' "plain_here"] = true ∧
    (∀ (Φ : Phi) (M : Mu) (K : KE), K (.dct [S' "S"] [waysT]) M → (ev Φ 30).E e ⟨trS, [], []⟩ M K) ∧ (∀ (Φ : Phi) (M : Mu) (K : List VO → Mu → Prop), K [.v boolD] M → mixE (ev Φ 30) [] [S' "plain_here"] [e2] ⟨trS, [], []⟩ M K) :=
  ⟨_, _, _, _, _, _, _, _, _, _, rfl, rfl, rfl, rfl, by decide +kernel, fun Φ M K h => h, fun Φ M K h => h⟩
noncomputable abbrev trF : Fm := ⟨trS, [(S' "plain_here", boolD), (S' "relation", .rel [S' "S"] [waysT])], []⟩
noncomputable abbrev r3 : Rf := .ref 3 false .bool
noncomputable abbrev r4 : Rf := .ref 4 false .bool
noncomputable abbrev r7 : Rf := .ref 7 false .bool
noncomputable abbrev r8 : Rf := .ref 8 false .bool
noncomputable def toldPrs : List D := addAll (addAll (addAll (addAll [] (beside (.int 1) (.int 5) (met .co .co))) (beside (.int 2) (.int 6) (met .co .inn))) (prsOf r3 r7 (met .co .bi))) (prsOf r4 r8 (met .co .co))
noncomputable abbrev wantPrs : List D := [.tup [.int 1, .int 5], .tup [.int 2, .int 6], .tup [.int 6, .int 2], .tup [.int 4, .int 8]]
theorem told_prs : toldPrs = wantPrs := by kernel_rfl
theorem want_eq : PyData.eqv (D.lst wantPrs).py (D.lst wantPrs).py = true := by decide +kernel
theorem want_ok : eqOk (.lst wantPrs) (.lst wantPrs) := ⟨by decide +kernel, by decide +kernel, by decide +kernel, by decide +kernel⟩
theorem reg4 : Mid (.ref (.int 4) false .bool) := ⟨by decide, fun d hd => (List.mem_singleton.mp hd) ▸ .inr (.inr (.inr ⟨4, by decide, by decide, rfl⟩)), by decide⟩
section
variable {g : Gl} {k : Nat} (B : Base g) (N : Man g) (IR : InitOk g g.mR initR bindsR 2) {M : Mu} {K : KE}
include B N IR
theorem sp_pairs (hk : 7 ≤ k) (h : K (.bool true) M) : PhiS g k (S' "_law_pairs_right") [.src] M K := by
  obtain ⟨k, rfl⟩ : ∃ j, k = j + 1 := ⟨k - 1, by omega⟩
  refine rel_def B rfl (by omega) (pre := []) (st := nth prB 0) (post := prB.drop 1) rfl rfl (Pre := fun f => f = ⟨prS, [(S' "source", .src)], []⟩) (Pf := fun fr => fr = prF0 []) [] [] ⟨rfl, rfl, rfl⟩ ?_ (fun fr e => by rw [e]; exact pairs_post B N (by omega) [] M) h
  intro b0 c f A s R hf F m
  subst hf
  have S := ev_ok B.gl (phi_ok g k) (by omega) 30
  obtain ⟨ts, k1, e, xp, pos, e2, k2, p, p2, pos2, q1, q2, q3, q4, q5, q6, q7⟩ := prSt
  rw [q1]
  refine wpAny_mono (rel_swap (ow := [S' "due"]) (P := fun ks ds => ks = [] ∧ ds = []) (P2 := fun rs => rs = [.o []]) B.gl IR S R (by omega) F m q2 q3 rfl q4 rfl q5 (q6 _ _ _ ⟨rfl, [], [], rfl, rfl, rfl, rfl⟩) (weak_src _) (q7 _ _ _ ⟨rfl, rfl⟩)) (fun fl s' hq => ⟨hq.1, hq.2.mono ?_⟩) fun _ _ x => x
  rintro fr ⟨ks, ds, rs, ⟨rfl, rfl⟩, rfl, rfl⟩
  rfl

theorem rv_cast11 {p : D} : RvOk g (.tup [st "cast", p, told (.ref (.int 11) false .bool)]) [.int 11] := by
  have hR : Reg [D.int 11] := fun d hd => (List.mem_singleton.mp hd) ▸ .inr (.inr (.inr ⟨11, by decide, by decide, rfl⟩))
  refine ⟨hR, by decide, fun k M K hk h => ?_⟩
  obtain ⟨k, rfl⟩ : ∃ j, k = j + 1 := ⟨k - 1, by omega⟩
  refine B.step (by omega) rfl ?_
  exact N.regions (.ref (.int 11) false .bool) k M K (by show 2 * 1 + 4 ≤ k; omega) (by decide) hR h
theorem told_post (hk : 15 ≤ k) (M : Mu) : evS (PhiS g k) [] 40 (trB.drop 1) trF { M with prs := [] } fun fl _ _ => fl = .ret (.bool true) := by
  refine sp_parts22 (k := k) (M := { M with prs := [] }) B (by omega) (rg_int 1) (rg_int 2) (rg_int 5) (rg_int 6) .co .inn r3 r4 r7 r8 .bi .co .co Ok.nil (by decide) ?_
  refine N.body k _ _ _ _ _ _ (by omega) (show 1 ≤ 1000 by decide) ?_
  have e : toldPrs = wantPrs := told_prs
  unfold toldPrs at e
  rw [e]
  refine ⟨want_ok, ?_⟩
  refine sp_great1 (k := k) (ss := [.tup [st "assign", .tup [.int 0, .tup []], .tup [st "cast", .tup [st "copy", .tup [.int 0, .tup []]], told (.ref (.int 11) false .bool)]]]) B N (by omega) reg4 (.asg (rv_cast11 B N IR) .nil) (.inl ⟨rfl, rfl⟩) (.inl rfl) (by decide) (by decide) ?_
  have e11 : mxD (.int 0 :: (regs (.ref (.int 4) false .bool) ++ ([.int 11] ++ []) ++ [])) = 11 := by decide +kernel
  show (Fl.ret (.bool (mxD (.int 0 :: (regs (.ref (.int 4) false .bool) ++ ([.int 11] ++ []) ++ [])) == 11))) = Fl.ret (.bool true)
  rw [e11]
  rfl
theorem sp_told (hk : 16 ≤ k) (h : K (.bool true) M) : PhiS g k (S' "_law_told_right") [] M K := by
  obtain ⟨k, rfl⟩ : ∃ j, k = j + 1 := ⟨k - 1, by omega⟩
  refine rel_def B rfl (by omega) (pre := []) (st := nth trB 0) (post := trB.drop 1) rfl rfl (Pre := fun f => f = ⟨trS, [], []⟩) (Pf := fun fr => fr = trF) [] [] ⟨rfl, rfl, rfl⟩ ?_ (fun fr e => by rw [e]; exact told_post B N IR (by omega) M) h
  intro b0 c f A s R hf F m
  subst hf
  have S := ev_ok B.gl (phi_ok g k) (by omega) 30
  obtain ⟨ts, k1, e, xp, pos, e2, k2, p, p2, pos2, q1, q2, q3, q4, q5, q6, q7⟩ := trSt
  rw [q1]
  refine wpAny_mono (rel_swap (ow := []) (P := fun ks ds => ks = [S' "S"] ∧ ds = [waysT]) (P2 := fun rs => rs = [.v boolD]) B.gl IR S R (by omega) F m q2 q3 rfl q4 rfl q5 (q6 _ _ _ ⟨rfl, _, _, rfl, by decide +kernel, rfl, rfl⟩) (weak_nil _) (q7 _ _ _ ⟨rfl, rfl⟩)) (fun fl s' hq => ⟨hq.1, hq.2.mono ?_⟩) fun _ _ x => x
  rintro fr ⟨ks, ds, rs, ⟨rfl, rfl⟩, rfl, rfl⟩
  rfl
end
end Mine
end

section
open PySem PySem.W PySem.Calls PyProof.Rows
set_option Elab.async false
set_option maxRecDepth 100000
set_option maxHeartbeats 4000000
set_option linter.unusedVariables false
set_option linter.unusedSectionVars false
set_option linter.unusedSimpArgs false
namespace Mine

theorem l0 {α : Type} {l : List α} (h : l.length = 0) : l = [] := List.length_eq_zero_iff.mp h
theorem l1 {α : Type} {l : List α} (h : l.length = 1) : ∃ a, l = [a] := by match l, h with | [a], _ => exact ⟨a, rfl⟩
theorem l2 {α : Type} {l : List α} (h : l.length = 2) : ∃ a b, l = [a, b] := by match l, h with | [a, b], _ => exact ⟨a, b, rfl⟩
theorem l3 {α : Type} {l : List α} (h : l.length = 3) : ∃ a b c, l = [a, b, c] := by match l, h with | [a, b, c], _ => exact ⟨a, b, c, rfl⟩
theorem l4 {α : Type} {l : List α} (h : l.length = 4) : ∃ a b c d, l = [a, b, c, d] := by match l, h with | [a, b, c, d], _ => exact ⟨a, b, c, d, rfl⟩
theorem way_of {x : D} (h : x ∈ [st "co", st "in", st "bi"]) : ∃ w : Way, x = wD w := by
  simp only [List.mem_cons, List.not_mem_nil, or_false] at h
  rcases h with rfl | rfl | rfl
  · exact ⟨.co, rfl⟩
  · exact ⟨.inn, rfl⟩
  · exact ⟨.bi, rfl⟩
theorem way_of2 {x : D} (h : x ∈ [st "co", st "in"]) : ∃ w : Way, x = wD w := by
  simp only [List.mem_cons, List.not_mem_nil, or_false] at h
  rcases h with rfl | rfl
  · exact ⟨.co, rfl⟩
  · exact ⟨.inn, rfl⟩
theorem Like.refl (t : Rf) : Like t t := by cases t <;> constructor
theorem wD_ok (w : Way) : (wD w).ok = true := by cases w <;> decide +kernel
theorem rf0D_ok (t : Rf0) : (rf0D t).ok = true := by
  have e : boolD.ok = true := by decide +kernel
  have e2 : (st "ref").ok = true := by decide +kernel
  cases t with
  | bool => exact e
  | ref r =>
    have : (D.tup [st "ref", .int r, .bool false, boolD]).ok = ((st "ref").ok && (boolD.ok && true)) := rfl
    show (D.tup [st "ref", .int r, .bool false, boolD]).ok = true
    rw [this, e, e2]; rfl
theorem rfD_ok (t : Rf) : (rfD t).ok = true := by
  have e2 : (st "ref").ok = true := by decide +kernel
  cases t with
  | bool => exact (by decide +kernel : boolD.ok = true)
  | ref r m i =>
    have : (D.tup [st "ref", .int r, .bool m, rf0D i]).ok = ((st "ref").ok && ((rf0D i).ok && true)) := rfl
    show (D.tup [st "ref", .int r, .bool m, rf0D i]).ok = true
    rw [this, e2, rf0D_ok]; rfl
theorem rg_oks : ∀ {l : List D}, (∀ d ∈ l, rg d) → oks l = true
  | [], _ => rfl
  | d :: l, h => by simp only [oks, rg_ok (h d List.mem_cons_self), rg_oks fun x hx => h x (List.mem_cons_of_mem _ hx), Bool.and_self]
theorem rf_oks : ∀ l : List Rf, oks (l.map rfD) = true
  | [] => rfl
  | d :: l => by simp only [List.map_cons, oks, rfD_ok, rf_oks l, Bool.and_self]
theorem wD_oks : ∀ l : List Way, oks (l.map wD) = true
  | [] => rfl
  | d :: l => by simp only [List.map_cons, oks, wD_ok, wD_oks l, Bool.and_self]
theorem adtS_ok {rs : List D} {ts : List Rf} (h : ∀ d ∈ rs, rg d) : (adtS rs ts).ok = true := by
  have e1 : (st "adt").ok = true := by decide +kernel
  have e2 : (st "S").ok = true := by decide +kernel
  have : (adtS rs ts).ok = ((st "adt").ok && ((st "S").ok && (oks rs && (oks (ts.map rfD) && true)))) := rfl
  rw [this, e1, e2, rg_oks h, rf_oks]; rfl

noncomputable def stB : List Stmt := (defIn top (S' "_law_structs_right")).2.1
noncomputable def stS : Scope := (defIn top (S' "_law_structs_right")).2.2
noncomputable def stE : Expr := match nth stB 10 with | .Assign _ (.Call _ [e] _ _) _ => e | _ => .Constant .none 0 default
noncomputable abbrev stF2 (one other : D) (a : Way) (due : List D) : Fm := ⟨stS, [(S' "one", one), (S' "other", other), (S' "around", wD a), (S' "due", .lst due)], []⟩
theorem weak4 {f : Fm} {one other : D} {a : Way} {due : List D} (h0 : f.sc = stS) (h1 : f.loc.lookup (S' "one") = some one) (h2 : f.loc.lookup (S' "other") = some other) (h3 : f.loc.lookup (S' "around") = some (wD a)) (h4 : f.loc.lookup (S' "due") = some (.lst due))
    (o1 : one.ok = true) (o2 : other.ok = true) (o4 : PP due) : Weak f (stF2 one other a due) := ⟨h0.symm, rfl, fun x d q => by
  have q : [(S' "one", one), (S' "other", other), (S' "around", wD a), (S' "due", D.lst due)].lookup x = some d := q
  rw [List.lookup_cons] at q
  cases hx : x == S' "one" with
  | true => rw [hx] at q; cases q; obtain rfl := eq_of_beq hx; exact ⟨h1, .inl o1⟩
  | false =>
  rw [hx, List.lookup_cons] at q
  cases hy : x == S' "other" with
  | true => rw [hy] at q; cases q; obtain rfl := eq_of_beq hy; exact ⟨h2, .inl o2⟩
  | false =>
  rw [hy, List.lookup_cons] at q
  cases hz : x == S' "around" with
  | true => rw [hz] at q; cases q; obtain rfl := eq_of_beq hz; exact ⟨h3, .inl (wD_ok a)⟩
  | false =>
  rw [hz, List.lookup_cons] at q
  cases hw : x == S' "due" with
  | true => rw [hw] at q; cases q; obtain rfl := eq_of_beq hw; exact ⟨h4, .inl o4.ok⟩
  | false => rw [hw] at q; cases q⟩
/-- what stands before the relation is made -/
inductive StPre (g : Gl) (k : Nat) (M : Mu) (f : Fm) : Prop
  | mk (one other : D) (a : Way) (due wsD : List D) (h1 : ∀ K : KE, K (.dct [S' "S"] [.tup wsD]) M → (ev (PhiS g k) 30).E stE f M K) (h2 : Weak f (stF2 one other a due)) (h3 : PP due) (h4 : due.length ≤ 100) (h5 : oks wsD = true)
    (h6 : ∀ (M' : Mu) (K : KE), M'.prs = [] → K .none { M' with prs := addAll [] due } → PhiS g k (S' "parts_below") [.rel [S' "S"] [.tup wsD], one, other, wD a] M' K)

noncomputable def stI : Stmt := nth stB 4
noncomputable abbrev tyF0 (m p W O RG : D) : Fm := ⟨stS, [(S' "source", .src), (S' "parts", p), (S' "many", m), (S' "ways", W), (S' "one", O), (S' "regions", RG)], [(S' "types", [])]⟩
noncomputable abbrev tyF (m p W O RG at_ lk ot : D) (us : List D) : Fm := ⟨stS, [(S' "source", .src), (S' "parts", p), (S' "many", m), (S' "ways", W), (S' "one", O), (S' "regions", RG), (S' "at", at_), (S' "like", lk), (S' "other", ot)], [(S' "types", us)]⟩
set_option smartUnfolding false
section
variable {g : Gl} {k : Nat} (B : Base g) (N : Man g) {M : Mu}
include B N
theorem ty_step1 (hk : 6 ≤ k) {ow : List Str} {n : Nat} {K : KS} {m p W RG a1 lk ot u : D} {rs : List D} {t0 t1 : Rf} (how : ow = [S' "types"]) (h : ∀ (at_ lk ot : D) (u1 : Rf), Like t1 u1 → K .next (tyF m p W (adtS rs [t0, t1]) RG at_ lk ot [u, rfD u1]) M) :
    forP (forParts stI).1 (fun f1 M2 K2 => evS (PhiS g k) ow (n + 6) (forParts stI).2 f1 M2 K2) [.int 1] (tyF m p W (adtS rs [t0, t1]) RG a1 lk ot [u]) M K := by
  subst how
  refine sp_reference B N (by omega) fun o => ?_
  cases t1 with
  | bool =>
    cases o with
    | bool => exact ⟨show 1 ≤ 100000 by decide, h (.int 1) (rfD .bool) (rfD .bool) .bool .bool⟩
    | ref r2 m2 i2 => exact ⟨show 1 ≤ 100000 by decide, h (.int 1) (rfD .bool) (rfD (.ref r2 m2 i2)) .bool .bool⟩
  | ref r1 m1 i1 =>
    cases o with
    | bool => exact ⟨show 1 ≤ 100000 by decide, h (.int 1) (rfD (.ref r1 m1 i1)) (rfD .bool) (.ref r1 m1 i1) .ref⟩
    | ref r2 m2 i2 => exact ⟨show 1 ≤ 100000 by decide, h (.int 1) (rfD (.ref r1 m1 i1)) (rfD (.ref r2 m2 i2)) (.ref r2 m2 i2) .ref⟩
theorem ty_loop1 (hk : 6 ≤ k) {ow : List Str} {n : Nat} {K : KS} {m p W RG : D} {rs : List D} {t0 : Rf} (how : ow = [S' "types"]) (h : ∀ (at_ lk ot : D) (u0 : Rf), Like t0 u0 → K .next (tyF m p W (adtS rs [t0]) RG at_ lk ot [rfD u0]) M) :
    forP (forParts stI).1 (fun f1 M2 K2 => evS (PhiS g k) ow (n + 6) (forParts stI).2 f1 M2 K2) [.int 0] (tyF0 m p W (adtS rs [t0]) RG) M K := by
  subst how
  refine sp_reference B N (by omega) fun o => ?_
  cases t0 with
  | bool =>
    cases o with
    | bool => exact ⟨show 0 ≤ 100000 by decide, h (.int 0) (rfD .bool) (rfD .bool) .bool .bool⟩
    | ref r2 m2 i2 => exact ⟨show 0 ≤ 100000 by decide, h (.int 0) (rfD .bool) (rfD (.ref r2 m2 i2)) .bool .bool⟩
  | ref r1 m1 i1 =>
    cases o with
    | bool => exact ⟨show 0 ≤ 100000 by decide, h (.int 0) (rfD (.ref r1 m1 i1)) (rfD .bool) (.ref r1 m1 i1) .ref⟩
    | ref r2 m2 i2 => exact ⟨show 0 ≤ 100000 by decide, h (.int 0) (rfD (.ref r1 m1 i1)) (rfD (.ref r2 m2 i2)) (.ref r2 m2 i2) .ref⟩
theorem ty_loop2 (hk : 6 ≤ k) {xs : List D} (hxs : xs = [.int 1]) {ow : List Str} {n : Nat} {K : KS} {m p W RG : D} {rs : List D} {t0 t1 : Rf} (how : ow = [S' "types"]) (h : ∀ (at_ lk ot : D) (u0 u1 : Rf), Like t0 u0 → Like t1 u1 → K .next (tyF m p W (adtS rs [t0, t1]) RG at_ lk ot [rfD u0, rfD u1]) M) :
    forP (forParts stI).1 (fun f1 M2 K2 => evS (PhiS g k) ow (n + 6) (forParts stI).2 f1 M2 K2) (.int 0 :: xs) (tyF0 m p W (adtS rs [t0, t1]) RG) M K := by
  have fin : ∀ (a1 lk ot : D) (u0 : Rf), Like t0 u0 → forP (forParts stI).1 (fun f1 M2 K2 => evS (PhiS g k) ow (n + 6) (forParts stI).2 f1 M2 K2) xs (tyF m p W (adtS rs [t0, t1]) RG a1 lk ot [rfD u0]) M K := fun a1 lk ot u0 L0 => hxs ▸ ty_step1 B N hk how fun at_ lk ot u1 L1 => h at_ lk ot u0 u1 L0 L1
  subst how
  refine sp_reference B N (by omega) fun o => ?_
  cases t0 with
  | bool =>
    cases o with
    | bool => exact ⟨show 0 ≤ 100000 by decide, fin (.int 0) (rfD .bool) (rfD .bool) .bool .bool⟩
    | ref r2 m2 i2 => exact ⟨show 0 ≤ 100000 by decide, fin (.int 0) (rfD .bool) (rfD (.ref r2 m2 i2)) .bool .bool⟩
  | ref r1 m1 i1 =>
    cases o with
    | bool => exact ⟨show 0 ≤ 100000 by decide, fin (.int 0) (rfD (.ref r1 m1 i1)) (rfD .bool) (.ref r1 m1 i1) .ref⟩
    | ref r2 m2 i2 => exact ⟨show 0 ≤ 100000 by decide, fin (.int 0) (rfD (.ref r1 m1 i1)) (rfD (.ref r2 m2 i2)) (.ref r2 m2 i2) .ref⟩
end
end Mine
end

section
open PySem PySem.W PySem.Calls PyProof.Rows
set_option Elab.async false
set_option maxRecDepth 100000
set_option maxHeartbeats 4000000
set_option linter.unusedVariables false
set_option linter.unusedSectionVars false
set_option linter.unusedSimpArgs false
set_option smartUnfolding false
namespace Mine
section
variable {g : Gl} {k : Nat} (B : Base g) (N : Man g) (M : Mu)
include B N
theorem struct_draw (hk : 9 ≤ k) {i j : Int} (i0 : 0 ≤ i) (i2 : i < 3) (j0 : 0 ≤ j) (j2 : j < 3) {K' : KS} (h : ∀ (ws : List Way) (rs : List Int) (ts : List Rf) (qs : List Int), ws.length = (i + j).toNat → rs.length = i.toNat → ts.length = j.toNat → qs.length = i.toNat →
    evS (PhiS g k) [S' "types"] 36 ((stB.take 10).drop 4) (tyF0 (.int i) (.int j) (.lst (ws.map wD)) (adtS (rs.map .int) ts) (.lst (qs.map .int))) M K') : evS (PhiS g k) [S' "types"] 39 ((stB.take 10).drop 1) ⟨stS, [(S' "source", .src), (S' "parts", .int j), (S' "many", .int i)], []⟩ M K' := by
  have tk : ∀ (d : D) (K : KE), (∀ y, (∃ i : Int, y = .int i) → K y M) → PhiS g k (S' "_law_take") [.src, .int 4] M K := fun d K h => N.take k _ _ _ (by omega) (by decide) (by decide) fun i _ _ => h _ ⟨i, rfl⟩
  refine ⟨⟨show 0 ≤ i + j by omega, show i + j ≤ 100000 by omega⟩, ?_⟩
  refine draw_comp (n := (i + j).toNat) (fun y => ∃ w : Way, y = wD w) ?_ ?_ ?_ (by omega) ?_
  · rfl
  · rfl
  · exact fun d K h => sp_one B N (by omega) _ (show 1 ≤ 3 by decide) (show 3 ≤ 100 by decide) fun x hx => h x (way_of hx)
  intro ws0 hn0 hp0
  obtain ⟨ws, rfl, e0, _⟩ := list_of (Q := fun _ : Way => True) (F := wD) (fun y ⟨w, h⟩ => ⟨w, h, trivial⟩) hp0
  refine ⟨⟨show 0 ≤ i by omega, show i ≤ 100000 by omega⟩, ?_⟩
  refine draw_comp (n := i.toNat) (fun y => ∃ i : Int, y = .int i) ?_ ?_ ?_ (by omega) ?_
  · rfl
  · rfl
  · exact tk
  intro rs0 hn1 hp1
  obtain ⟨rs, rfl, e1, _⟩ := list_of (Q := fun _ : Int => True) (F := D.int) (fun y ⟨w, h⟩ => ⟨w, h, trivial⟩) hp1
  refine ⟨show (rs.map D.int).length ≤ 100000 by rw [hn1]; omega, ?_⟩
  refine ⟨⟨show 0 ≤ j by omega, show j ≤ 100000 by omega⟩, ?_⟩
  refine draw_comp (n := j.toNat) (fun y => ∃ t : Rf, y = rfD t) ?_ ?_ ?_ (by omega) ?_
  · rfl
  · rfl
  · exact fun d K h => sp_reference B N (by omega) fun t => h _ ⟨t, rfl⟩
  intro ts0 hn2 hp2
  obtain ⟨ts, rfl, e2, _⟩ := list_of (Q := fun _ : Rf => True) (F := rfD) (fun y ⟨w, h⟩ => ⟨w, h, trivial⟩) hp2
  refine ⟨show (ts.map rfD).length ≤ 100000 by rw [hn2]; omega, ?_⟩
  refine ⟨⟨show 0 ≤ i by omega, show i ≤ 100000 by omega⟩, ?_⟩
  refine draw_comp (n := i.toNat) (fun y => ∃ i : Int, y = .int i) ?_ ?_ ?_ (by omega) ?_
  · rfl
  · rfl
  · exact tk
  intro qs0 hn3 hp3
  obtain ⟨qs, rfl, e3, _⟩ := list_of (Q := fun _ : Int => True) (F := D.int) (fun y ⟨w, h⟩ => ⟨w, h, trivial⟩) hp3
  exact h ws rs ts qs (e0.trans hn0) (e1.trans hn1) (e2.trans hn2) (e3.trans hn3)
theorem struct00 (hk : 9 ≤ k) : evS (PhiS g k) [S' "types"] 39 ((stB.take 10).drop 1) ⟨stS, [(S' "source", .src), (S' "parts", .int 0), (S' "many", .int 0)], []⟩ M fun fl f1 M1 => fl = .next ∧ M1 = M ∧ StPre g k M f1 := by
  refine struct_draw B N M hk (i := 0) (j := 0) (by decide) (by decide) (by decide) (by decide) fun ws rs ts qs hw hr ht hq => ?_
  obtain rfl := l0 (hw.trans (rfl : _ = 0))
  obtain rfl := l0 (hr.trans (rfl : _ = 0))
  obtain rfl := l0 (ht.trans (rfl : _ = 0))
  obtain rfl := l0 (hq.trans (rfl : _ = 0))
  refine ⟨⟨by decide, by decide⟩, ?_⟩
  refine ⟨show 0 ≤ 100000 by decide, ?_⟩
  refine ⟨show 0 ≤ 100000 by decide, ?_⟩
  refine sp_one B N (by omega) _ (show 1 ≤ 3 by decide) (show 3 ≤ 100 by decide) fun x hx => ?_
  have hx : x ∈ [adtS [] [], adtS [] [], adtS [] []] := hx
  obtain rfl : x = adtS [] [] := by
    simp only [List.mem_cons, List.not_mem_nil, or_false] at hx
    rcases hx with rfl | rfl | rfl
    · exact rfl
    · exact rfl
    · exact rfl
  clear hx
  refine sp_one B N (by omega) _ (show 1 ≤ 2 by decide) (show 2 ≤ 100 by decide) fun x hx => ?_
  obtain ⟨a, rfl⟩ := way_of2 hx
  clear hx
  refine ⟨⟨by decide, by decide⟩, ?_⟩
  refine ⟨⟨by decide, by decide⟩, ?_⟩
  have hpp : PP ([] : List D) := PP.nil
  have ok1 : (adtS [] []).ok = true := adtS_ok (fun d hd => by simp at hd)
  have ok2 : (adtS [] []).ok = true := adtS_ok (fun d hd => by simp at hd)
  refine ⟨rfl, rfl, adtS [] [], adtS [] [], a, ([] : List D), [], ?_, weak4 rfl rfl rfl rfl rfl ok1 ok2 hpp, hpp, ?_, wD_oks [], ?_⟩
  · exact fun K h => ⟨show 0 ≤ 100000 by decide, h⟩
  · simp only [List.length_append, List.length_nil]; omega
  · intro M' K hM h
    obtain ⟨fd, pr⟩ := M'
    have hM : pr = [] := hM
    subst hM
    simp only [addAll_app] at h
    exact sp_parts00 (k := k) (M := ⟨fd, []⟩) B (by omega) a Ok.nil (by decide) h
theorem struct01 (hk : 9 ≤ k) : evS (PhiS g k) [S' "types"] 39 ((stB.take 10).drop 1) ⟨stS, [(S' "source", .src), (S' "parts", .int 1), (S' "many", .int 0)], []⟩ M fun fl f1 M1 => fl = .next ∧ M1 = M ∧ StPre g k M f1 := by
  refine struct_draw B N M hk (i := 0) (j := 1) (by decide) (by decide) (by decide) (by decide) fun ws rs ts qs hw hr ht hq => ?_
  obtain ⟨v0, rfl⟩ := l1 (hw.trans (rfl : _ = 1))
  obtain rfl := l0 (hr.trans (rfl : _ = 0))
  obtain ⟨t0, rfl⟩ := l1 (ht.trans (rfl : _ = 1))
  obtain rfl := l0 (hq.trans (rfl : _ = 0))
  refine ⟨⟨by decide, by decide⟩, ?_⟩
  refine ty_loop1 (k := k) (t0 := t0) (m := .int 0) (p := .int 1) (W := .lst [wD v0]) (RG := .lst []) (rs := []) B N (by omega) rfl ?_
  intro at_ lk ot o0 L0
  refine ⟨show 0 ≤ 100000 by decide, ?_⟩
  refine ⟨show 1 ≤ 100000 by decide, ?_⟩
  refine sp_one B N (by omega) _ (show 1 ≤ 3 by decide) (show 3 ≤ 100 by decide) fun x hx => ?_
  have hx : x ∈ [adtS [] [t0], adtS [] [o0], adtS [] [o0]] := hx
  obtain ⟨u0, rfl, K0⟩ : ∃ (u0 : Rf), x = adtS [] [u0] ∧ Like t0 u0 := by
    simp only [List.mem_cons, List.not_mem_nil, or_false] at hx
    rcases hx with rfl | rfl | rfl
    · exact ⟨_, rfl, Like.refl _⟩
    · exact ⟨_, rfl, L0⟩
    · exact ⟨_, rfl, L0⟩
  clear hx
  refine sp_one B N (by omega) _ (show 1 ≤ 2 by decide) (show 2 ≤ 100 by decide) fun x hx => ?_
  obtain ⟨a, rfl⟩ := way_of2 hx
  clear hx
  have c0 := prsOf_length t0 u0 (met a v0)
  refine ⟨⟨by decide, by decide⟩, ?_⟩
  refine ⟨⟨by decide, by decide⟩, ?_⟩
  refine sp_met B (by omega) a v0 ?_
  refine sp_pairs_of B (by omega) t0 u0 (met a v0) K0 ?_
  refine ⟨show ([] : List D).length + (prsOf t0 u0 (met a v0)).length ≤ 100000 by simp only [List.length_append, List.length_nil]; omega, ?_⟩
  have hpp : PP (([] : List D) ++ (prsOf t0 u0 (met a v0))) := (PP.nil.app (.prsOf _ _ _))
  have ok1 : (adtS [] [t0]).ok = true := adtS_ok (fun d hd => by simp at hd)
  have ok2 : (adtS [] [u0]).ok = true := adtS_ok (fun d hd => by simp at hd)
  refine ⟨rfl, rfl, adtS [] [t0], adtS [] [u0], a, (([] : List D) ++ (prsOf t0 u0 (met a v0))), [wD v0], ?_, weak4 rfl rfl rfl rfl rfl ok1 ok2 hpp, hpp, ?_, wD_oks [v0], ?_⟩
  · exact fun K h => ⟨show 1 ≤ 100000 by decide, h⟩
  · simp only [List.length_append, List.length_nil]; omega
  · intro M' K hM h
    obtain ⟨fd, pr⟩ := M'
    have hM : pr = [] := hM
    subst hM
    simp only [addAll_app] at h
    exact sp_parts01 (k := k) (M := ⟨fd, []⟩) B (by omega) t0 u0 v0 a Ok.nil (by decide) h
theorem struct02 (hk : 9 ≤ k) : evS (PhiS g k) [S' "types"] 39 ((stB.take 10).drop 1) ⟨stS, [(S' "source", .src), (S' "parts", .int 2), (S' "many", .int 0)], []⟩ M fun fl f1 M1 => fl = .next ∧ M1 = M ∧ StPre g k M f1 := by
  refine struct_draw B N M hk (i := 0) (j := 2) (by decide) (by decide) (by decide) (by decide) fun ws rs ts qs hw hr ht hq => ?_
  obtain ⟨v0, v1, rfl⟩ := l2 (hw.trans (rfl : _ = 2))
  obtain rfl := l0 (hr.trans (rfl : _ = 0))
  obtain ⟨t0, t1, rfl⟩ := l2 (ht.trans (rfl : _ = 2))
  obtain rfl := l0 (hq.trans (rfl : _ = 0))
  refine ⟨⟨by decide, by decide⟩, ?_⟩
  refine ty_loop2 (k := k) (xs := [.int 1]) (t0 := t0) (t1 := t1) (m := .int 0) (p := .int 2) (W := .lst [wD v0, wD v1]) (RG := .lst []) (rs := []) B N (by omega) rfl rfl ?_
  intro at_ lk ot o0 o1 L0 L1
  refine ⟨show 0 ≤ 100000 by decide, ?_⟩
  refine ⟨show 2 ≤ 100000 by decide, ?_⟩
  refine sp_one B N (by omega) _ (show 1 ≤ 3 by decide) (show 3 ≤ 100 by decide) fun x hx => ?_
  have hx : x ∈ [adtS [] [t0, t1], adtS [] [o0, o1], adtS [] [o0, o1]] := hx
  obtain ⟨u0, u1, rfl, K0, K1⟩ : ∃ (u0 : Rf) (u1 : Rf), x = adtS [] [u0, u1] ∧ Like t0 u0 ∧ Like t1 u1 := by
    simp only [List.mem_cons, List.not_mem_nil, or_false] at hx
    rcases hx with rfl | rfl | rfl
    · exact ⟨_, _, rfl, Like.refl _, Like.refl _⟩
    · exact ⟨_, _, rfl, L0, L1⟩
    · exact ⟨_, _, rfl, L0, L1⟩
  clear hx
  refine sp_one B N (by omega) _ (show 1 ≤ 2 by decide) (show 2 ≤ 100 by decide) fun x hx => ?_
  obtain ⟨a, rfl⟩ := way_of2 hx
  clear hx
  have c0 := prsOf_length t0 u0 (met a v0)
  have c1 := prsOf_length t1 u1 (met a v1)
  refine ⟨⟨by decide, by decide⟩, ?_⟩
  refine ⟨⟨by decide, by decide⟩, ?_⟩
  refine sp_met B (by omega) a v0 ?_
  refine sp_pairs_of B (by omega) t0 u0 (met a v0) K0 ?_
  refine ⟨show ([] : List D).length + (prsOf t0 u0 (met a v0)).length ≤ 100000 by simp only [List.length_append, List.length_nil]; omega, ?_⟩
  refine sp_met B (by omega) a v1 ?_
  refine sp_pairs_of B (by omega) t1 u1 (met a v1) K1 ?_
  refine ⟨show (([] : List D) ++ (prsOf t0 u0 (met a v0))).length + (prsOf t1 u1 (met a v1)).length ≤ 100000 by simp only [List.length_append, List.length_nil]; omega, ?_⟩
  have hpp : PP ((([] : List D) ++ (prsOf t0 u0 (met a v0))) ++ (prsOf t1 u1 (met a v1))) := ((PP.nil.app (.prsOf _ _ _)).app (.prsOf _ _ _))
  have ok1 : (adtS [] [t0, t1]).ok = true := adtS_ok (fun d hd => by simp at hd)
  have ok2 : (adtS [] [u0, u1]).ok = true := adtS_ok (fun d hd => by simp at hd)
  refine ⟨rfl, rfl, adtS [] [t0, t1], adtS [] [u0, u1], a, ((([] : List D) ++ (prsOf t0 u0 (met a v0))) ++ (prsOf t1 u1 (met a v1))), [wD v0, wD v1], ?_, weak4 rfl rfl rfl rfl rfl ok1 ok2 hpp, hpp, ?_, wD_oks [v0, v1], ?_⟩
  · exact fun K h => ⟨show 2 ≤ 100000 by decide, h⟩
  · simp only [List.length_append, List.length_nil]; omega
  · intro M' K hM h
    obtain ⟨fd, pr⟩ := M'
    have hM : pr = [] := hM
    subst hM
    simp only [addAll_app] at h
    exact sp_parts02 (k := k) (M := ⟨fd, []⟩) B (by omega) t0 t1 u0 u1 v0 v1 a Ok.nil (by decide) h
theorem struct10 (hk : 9 ≤ k) : evS (PhiS g k) [S' "types"] 39 ((stB.take 10).drop 1) ⟨stS, [(S' "source", .src), (S' "parts", .int 0), (S' "many", .int 1)], []⟩ M fun fl f1 M1 => fl = .next ∧ M1 = M ∧ StPre g k M f1 := by
  refine struct_draw B N M hk (i := 1) (j := 0) (by decide) (by decide) (by decide) (by decide) fun ws rs ts qs hw hr ht hq => ?_
  obtain ⟨w0, rfl⟩ := l1 (hw.trans (rfl : _ = 1))
  obtain ⟨r0, rfl⟩ := l1 (hr.trans (rfl : _ = 1))
  obtain rfl := l0 (ht.trans (rfl : _ = 0))
  obtain ⟨q0, rfl⟩ := l1 (hq.trans (rfl : _ = 1))
  refine ⟨⟨by decide, by decide⟩, ?_⟩
  refine ⟨show 1 ≤ 100000 by decide, ?_⟩
  refine ⟨show 0 ≤ 100000 by decide, ?_⟩
  refine sp_one B N (by omega) _ (show 1 ≤ 3 by decide) (show 3 ≤ 100 by decide) fun x hx => ?_
  have hx : x ∈ [adtS [.int r0] [], adtS [.int q0] [], adtS [.int q0] []] := hx
  obtain ⟨s0, rfl, hs0⟩ : ∃ (s0 : D), x = adtS [s0] [] ∧ rg s0 := by
    simp only [List.mem_cons, List.not_mem_nil, or_false] at hx
    rcases hx with rfl | rfl | rfl
    · exact ⟨_, rfl, rg_int _⟩
    · exact ⟨_, rfl, rg_int _⟩
    · exact ⟨_, rfl, rg_int _⟩
  clear hx
  refine sp_one B N (by omega) _ (show 1 ≤ 2 by decide) (show 2 ≤ 100 by decide) fun x hx => ?_
  obtain ⟨a, rfl⟩ := way_of2 hx
  clear hx
  have b0 := beside_length (.int r0) s0 (met a w0)
  refine ⟨⟨by decide, by decide⟩, ?_⟩
  refine sp_met B (by omega) a w0 ?_
  refine sp_beside B (by omega) (.int r0) s0 (met a w0) ?_
  refine ⟨show ([] : List D).length + (beside (.int r0) s0 (met a w0)).length ≤ 100000 by simp only [List.length_append, List.length_nil]; omega, ?_⟩
  refine ⟨⟨by decide, by decide⟩, ?_⟩
  have hpp : PP (([] : List D) ++ (beside (.int r0) s0 (met a w0))) := (PP.nil.app (.beside (rg_int _) hs0 _))
  have ok1 : (adtS [.int r0] []).ok = true := adtS_ok (fun d hd => by simp only [List.mem_cons, List.not_mem_nil, or_false] at hd; rcases hd with rfl <;> first | exact rg_int _ | assumption)
  have ok2 : (adtS [s0] []).ok = true := adtS_ok (fun d hd => by simp only [List.mem_cons, List.not_mem_nil, or_false] at hd; rcases hd with rfl <;> first | exact rg_int _ | assumption)
  refine ⟨rfl, rfl, adtS [.int r0] [], adtS [s0] [], a, (([] : List D) ++ (beside (.int r0) s0 (met a w0))), [wD w0], ?_, weak4 rfl rfl rfl rfl rfl ok1 ok2 hpp, hpp, ?_, wD_oks [w0], ?_⟩
  · exact fun K h => ⟨show 1 ≤ 100000 by decide, h⟩
  · simp only [List.length_append, List.length_nil]; omega
  · intro M' K hM h
    obtain ⟨fd, pr⟩ := M'
    have hM : pr = [] := hM
    subst hM
    simp only [addAll_app] at h
    exact sp_parts10 (k := k) (M := ⟨fd, []⟩) B (by omega) (rg_int r0) hs0 w0 a Ok.nil (by decide) h
theorem struct11 (hk : 9 ≤ k) : evS (PhiS g k) [S' "types"] 39 ((stB.take 10).drop 1) ⟨stS, [(S' "source", .src), (S' "parts", .int 1), (S' "many", .int 1)], []⟩ M fun fl f1 M1 => fl = .next ∧ M1 = M ∧ StPre g k M f1 := by
  refine struct_draw B N M hk (i := 1) (j := 1) (by decide) (by decide) (by decide) (by decide) fun ws rs ts qs hw hr ht hq => ?_
  obtain ⟨w0, v0, rfl⟩ := l2 (hw.trans (rfl : _ = 2))
  obtain ⟨r0, rfl⟩ := l1 (hr.trans (rfl : _ = 1))
  obtain ⟨t0, rfl⟩ := l1 (ht.trans (rfl : _ = 1))
  obtain ⟨q0, rfl⟩ := l1 (hq.trans (rfl : _ = 1))
  refine ⟨⟨by decide, by decide⟩, ?_⟩
  refine ty_loop1 (k := k) (t0 := t0) (m := .int 1) (p := .int 1) (W := .lst [wD w0, wD v0]) (RG := .lst [.int q0]) (rs := [.int r0]) B N (by omega) rfl ?_
  intro at_ lk ot o0 L0
  refine ⟨show 1 ≤ 100000 by decide, ?_⟩
  refine ⟨show 1 ≤ 100000 by decide, ?_⟩
  refine sp_one B N (by omega) _ (show 1 ≤ 3 by decide) (show 3 ≤ 100 by decide) fun x hx => ?_
  have hx : x ∈ [adtS [.int r0] [t0], adtS [.int q0] [o0], adtS [.int q0] [o0]] := hx
  obtain ⟨s0, u0, rfl, hs0, K0⟩ : ∃ (s0 : D) (u0 : Rf), x = adtS [s0] [u0] ∧ rg s0 ∧ Like t0 u0 := by
    simp only [List.mem_cons, List.not_mem_nil, or_false] at hx
    rcases hx with rfl | rfl | rfl
    · exact ⟨_, _, rfl, rg_int _, Like.refl _⟩
    · exact ⟨_, _, rfl, rg_int _, L0⟩
    · exact ⟨_, _, rfl, rg_int _, L0⟩
  clear hx
  refine sp_one B N (by omega) _ (show 1 ≤ 2 by decide) (show 2 ≤ 100 by decide) fun x hx => ?_
  obtain ⟨a, rfl⟩ := way_of2 hx
  clear hx
  have b0 := beside_length (.int r0) s0 (met a w0)
  have c0 := prsOf_length t0 u0 (met a v0)
  refine ⟨⟨by decide, by decide⟩, ?_⟩
  refine sp_met B (by omega) a w0 ?_
  refine sp_beside B (by omega) (.int r0) s0 (met a w0) ?_
  refine ⟨show ([] : List D).length + (beside (.int r0) s0 (met a w0)).length ≤ 100000 by simp only [List.length_append, List.length_nil]; omega, ?_⟩
  refine ⟨⟨by decide, by decide⟩, ?_⟩
  refine sp_met B (by omega) a v0 ?_
  refine sp_pairs_of B (by omega) t0 u0 (met a v0) K0 ?_
  refine ⟨show (([] : List D) ++ (beside (.int r0) s0 (met a w0))).length + (prsOf t0 u0 (met a v0)).length ≤ 100000 by simp only [List.length_append, List.length_nil]; omega, ?_⟩
  have hpp : PP ((([] : List D) ++ (beside (.int r0) s0 (met a w0))) ++ (prsOf t0 u0 (met a v0))) := ((PP.nil.app (.beside (rg_int _) hs0 _)).app (.prsOf _ _ _))
  have ok1 : (adtS [.int r0] [t0]).ok = true := adtS_ok (fun d hd => by simp only [List.mem_cons, List.not_mem_nil, or_false] at hd; rcases hd with rfl <;> first | exact rg_int _ | assumption)
  have ok2 : (adtS [s0] [u0]).ok = true := adtS_ok (fun d hd => by simp only [List.mem_cons, List.not_mem_nil, or_false] at hd; rcases hd with rfl <;> first | exact rg_int _ | assumption)
  refine ⟨rfl, rfl, adtS [.int r0] [t0], adtS [s0] [u0], a, ((([] : List D) ++ (beside (.int r0) s0 (met a w0))) ++ (prsOf t0 u0 (met a v0))), [wD w0, wD v0], ?_, weak4 rfl rfl rfl rfl rfl ok1 ok2 hpp, hpp, ?_, wD_oks [w0, v0], ?_⟩
  · exact fun K h => ⟨show 2 ≤ 100000 by decide, h⟩
  · simp only [List.length_append, List.length_nil]; omega
  · intro M' K hM h
    obtain ⟨fd, pr⟩ := M'
    have hM : pr = [] := hM
    subst hM
    simp only [addAll_app] at h
    exact sp_parts11 (k := k) (M := ⟨fd, []⟩) B (by omega) (rg_int r0) hs0 w0 t0 u0 v0 a Ok.nil (by decide) h
theorem struct12 (hk : 9 ≤ k) : evS (PhiS g k) [S' "types"] 39 ((stB.take 10).drop 1) ⟨stS, [(S' "source", .src), (S' "parts", .int 2), (S' "many", .int 1)], []⟩ M fun fl f1 M1 => fl = .next ∧ M1 = M ∧ StPre g k M f1 := by
  refine struct_draw B N M hk (i := 1) (j := 2) (by decide) (by decide) (by decide) (by decide) fun ws rs ts qs hw hr ht hq => ?_
  obtain ⟨w0, v0, v1, rfl⟩ := l3 (hw.trans (rfl : _ = 3))
  obtain ⟨r0, rfl⟩ := l1 (hr.trans (rfl : _ = 1))
  obtain ⟨t0, t1, rfl⟩ := l2 (ht.trans (rfl : _ = 2))
  obtain ⟨q0, rfl⟩ := l1 (hq.trans (rfl : _ = 1))
  refine ⟨⟨by decide, by decide⟩, ?_⟩
  refine ty_loop2 (k := k) (xs := [.int 1]) (t0 := t0) (t1 := t1) (m := .int 1) (p := .int 2) (W := .lst [wD w0, wD v0, wD v1]) (RG := .lst [.int q0]) (rs := [.int r0]) B N (by omega) rfl rfl ?_
  intro at_ lk ot o0 o1 L0 L1
  refine ⟨show 1 ≤ 100000 by decide, ?_⟩
  refine ⟨show 2 ≤ 100000 by decide, ?_⟩
  refine sp_one B N (by omega) _ (show 1 ≤ 3 by decide) (show 3 ≤ 100 by decide) fun x hx => ?_
  have hx : x ∈ [adtS [.int r0] [t0, t1], adtS [.int q0] [o0, o1], adtS [.int q0] [o0, o1]] := hx
  obtain ⟨s0, u0, u1, rfl, hs0, K0, K1⟩ : ∃ (s0 : D) (u0 : Rf) (u1 : Rf), x = adtS [s0] [u0, u1] ∧ rg s0 ∧ Like t0 u0 ∧ Like t1 u1 := by
    simp only [List.mem_cons, List.not_mem_nil, or_false] at hx
    rcases hx with rfl | rfl | rfl
    · exact ⟨_, _, _, rfl, rg_int _, Like.refl _, Like.refl _⟩
    · exact ⟨_, _, _, rfl, rg_int _, L0, L1⟩
    · exact ⟨_, _, _, rfl, rg_int _, L0, L1⟩
  clear hx
  refine sp_one B N (by omega) _ (show 1 ≤ 2 by decide) (show 2 ≤ 100 by decide) fun x hx => ?_
  obtain ⟨a, rfl⟩ := way_of2 hx
  clear hx
  have b0 := beside_length (.int r0) s0 (met a w0)
  have c0 := prsOf_length t0 u0 (met a v0)
  have c1 := prsOf_length t1 u1 (met a v1)
  refine ⟨⟨by decide, by decide⟩, ?_⟩
  refine sp_met B (by omega) a w0 ?_
  refine sp_beside B (by omega) (.int r0) s0 (met a w0) ?_
  refine ⟨show ([] : List D).length + (beside (.int r0) s0 (met a w0)).length ≤ 100000 by simp only [List.length_append, List.length_nil]; omega, ?_⟩
  refine ⟨⟨by decide, by decide⟩, ?_⟩
  refine sp_met B (by omega) a v0 ?_
  refine sp_pairs_of B (by omega) t0 u0 (met a v0) K0 ?_
  refine ⟨show (([] : List D) ++ (beside (.int r0) s0 (met a w0))).length + (prsOf t0 u0 (met a v0)).length ≤ 100000 by simp only [List.length_append, List.length_nil]; omega, ?_⟩
  refine sp_met B (by omega) a v1 ?_
  refine sp_pairs_of B (by omega) t1 u1 (met a v1) K1 ?_
  refine ⟨show ((([] : List D) ++ (beside (.int r0) s0 (met a w0))) ++ (prsOf t0 u0 (met a v0))).length + (prsOf t1 u1 (met a v1)).length ≤ 100000 by simp only [List.length_append, List.length_nil]; omega, ?_⟩
  have hpp : PP (((([] : List D) ++ (beside (.int r0) s0 (met a w0))) ++ (prsOf t0 u0 (met a v0))) ++ (prsOf t1 u1 (met a v1))) := (((PP.nil.app (.beside (rg_int _) hs0 _)).app (.prsOf _ _ _)).app (.prsOf _ _ _))
  have ok1 : (adtS [.int r0] [t0, t1]).ok = true := adtS_ok (fun d hd => by simp only [List.mem_cons, List.not_mem_nil, or_false] at hd; rcases hd with rfl <;> first | exact rg_int _ | assumption)
  have ok2 : (adtS [s0] [u0, u1]).ok = true := adtS_ok (fun d hd => by simp only [List.mem_cons, List.not_mem_nil, or_false] at hd; rcases hd with rfl <;> first | exact rg_int _ | assumption)
  refine ⟨rfl, rfl, adtS [.int r0] [t0, t1], adtS [s0] [u0, u1], a, (((([] : List D) ++ (beside (.int r0) s0 (met a w0))) ++ (prsOf t0 u0 (met a v0))) ++ (prsOf t1 u1 (met a v1))), [wD w0, wD v0, wD v1], ?_, weak4 rfl rfl rfl rfl rfl ok1 ok2 hpp, hpp, ?_, wD_oks [w0, v0, v1], ?_⟩
  · exact fun K h => ⟨show 3 ≤ 100000 by decide, h⟩
  · simp only [List.length_append, List.length_nil]; omega
  · intro M' K hM h
    obtain ⟨fd, pr⟩ := M'
    have hM : pr = [] := hM
    subst hM
    simp only [addAll_app] at h
    exact sp_parts12 (k := k) (M := ⟨fd, []⟩) B (by omega) (rg_int r0) hs0 w0 t0 t1 u0 u1 v0 v1 a Ok.nil (by decide) h
theorem struct20 (hk : 9 ≤ k) : evS (PhiS g k) [S' "types"] 39 ((stB.take 10).drop 1) ⟨stS, [(S' "source", .src), (S' "parts", .int 0), (S' "many", .int 2)], []⟩ M fun fl f1 M1 => fl = .next ∧ M1 = M ∧ StPre g k M f1 := by
  refine struct_draw B N M hk (i := 2) (j := 0) (by decide) (by decide) (by decide) (by decide) fun ws rs ts qs hw hr ht hq => ?_
  obtain ⟨w0, w1, rfl⟩ := l2 (hw.trans (rfl : _ = 2))
  obtain ⟨r0, r1, rfl⟩ := l2 (hr.trans (rfl : _ = 2))
  obtain rfl := l0 (ht.trans (rfl : _ = 0))
  obtain ⟨q0, q1, rfl⟩ := l2 (hq.trans (rfl : _ = 2))
  refine ⟨⟨by decide, by decide⟩, ?_⟩
  refine ⟨show 2 ≤ 100000 by decide, ?_⟩
  refine ⟨show 0 ≤ 100000 by decide, ?_⟩
  refine sp_one B N (by omega) _ (show 1 ≤ 3 by decide) (show 3 ≤ 100 by decide) fun x hx => ?_
  have hx : x ∈ [adtS [.int r0, .int r1] [], adtS [.int q0, .int q1] [], adtS [.int q0, .int q1] []] := hx
  obtain ⟨s0, s1, rfl, hs0, hs1⟩ : ∃ (s0 : D) (s1 : D), x = adtS [s0, s1] [] ∧ rg s0 ∧ rg s1 := by
    simp only [List.mem_cons, List.not_mem_nil, or_false] at hx
    rcases hx with rfl | rfl | rfl
    · exact ⟨_, _, rfl, rg_int _, rg_int _⟩
    · exact ⟨_, _, rfl, rg_int _, rg_int _⟩
    · exact ⟨_, _, rfl, rg_int _, rg_int _⟩
  clear hx
  refine sp_one B N (by omega) _ (show 1 ≤ 2 by decide) (show 2 ≤ 100 by decide) fun x hx => ?_
  obtain ⟨a, rfl⟩ := way_of2 hx
  clear hx
  have b0 := beside_length (.int r0) s0 (met a w0)
  have b1 := beside_length (.int r1) s1 (met a w1)
  refine ⟨⟨by decide, by decide⟩, ?_⟩
  refine sp_met B (by omega) a w0 ?_
  refine sp_beside B (by omega) (.int r0) s0 (met a w0) ?_
  refine ⟨show ([] : List D).length + (beside (.int r0) s0 (met a w0)).length ≤ 100000 by simp only [List.length_append, List.length_nil]; omega, ?_⟩
  refine sp_met B (by omega) a w1 ?_
  refine sp_beside B (by omega) (.int r1) s1 (met a w1) ?_
  refine ⟨show (([] : List D) ++ (beside (.int r0) s0 (met a w0))).length + (beside (.int r1) s1 (met a w1)).length ≤ 100000 by simp only [List.length_append, List.length_nil]; omega, ?_⟩
  refine ⟨⟨by decide, by decide⟩, ?_⟩
  have hpp : PP ((([] : List D) ++ (beside (.int r0) s0 (met a w0))) ++ (beside (.int r1) s1 (met a w1))) := ((PP.nil.app (.beside (rg_int _) hs0 _)).app (.beside (rg_int _) hs1 _))
  have ok1 : (adtS [.int r0, .int r1] []).ok = true := adtS_ok (fun d hd => by simp only [List.mem_cons, List.not_mem_nil, or_false] at hd; rcases hd with rfl | rfl <;> first | exact rg_int _ | assumption)
  have ok2 : (adtS [s0, s1] []).ok = true := adtS_ok (fun d hd => by simp only [List.mem_cons, List.not_mem_nil, or_false] at hd; rcases hd with rfl | rfl <;> first | exact rg_int _ | assumption)
  refine ⟨rfl, rfl, adtS [.int r0, .int r1] [], adtS [s0, s1] [], a, ((([] : List D) ++ (beside (.int r0) s0 (met a w0))) ++ (beside (.int r1) s1 (met a w1))), [wD w0, wD w1], ?_, weak4 rfl rfl rfl rfl rfl ok1 ok2 hpp, hpp, ?_, wD_oks [w0, w1], ?_⟩
  · exact fun K h => ⟨show 2 ≤ 100000 by decide, h⟩
  · simp only [List.length_append, List.length_nil]; omega
  · intro M' K hM h
    obtain ⟨fd, pr⟩ := M'
    have hM : pr = [] := hM
    subst hM
    simp only [addAll_app] at h
    exact sp_parts20 (k := k) (M := ⟨fd, []⟩) B (by omega) (rg_int r0) (rg_int r1) hs0 hs1 w0 w1 a Ok.nil (by decide) h
theorem struct21 (hk : 9 ≤ k) : evS (PhiS g k) [S' "types"] 39 ((stB.take 10).drop 1) ⟨stS, [(S' "source", .src), (S' "parts", .int 1), (S' "many", .int 2)], []⟩ M fun fl f1 M1 => fl = .next ∧ M1 = M ∧ StPre g k M f1 := by
  refine struct_draw B N M hk (i := 2) (j := 1) (by decide) (by decide) (by decide) (by decide) fun ws rs ts qs hw hr ht hq => ?_
  obtain ⟨w0, w1, v0, rfl⟩ := l3 (hw.trans (rfl : _ = 3))
  obtain ⟨r0, r1, rfl⟩ := l2 (hr.trans (rfl : _ = 2))
  obtain ⟨t0, rfl⟩ := l1 (ht.trans (rfl : _ = 1))
  obtain ⟨q0, q1, rfl⟩ := l2 (hq.trans (rfl : _ = 2))
  refine ⟨⟨by decide, by decide⟩, ?_⟩
  refine ty_loop1 (k := k) (t0 := t0) (m := .int 2) (p := .int 1) (W := .lst [wD w0, wD w1, wD v0]) (RG := .lst [.int q0, .int q1]) (rs := [.int r0, .int r1]) B N (by omega) rfl ?_
  intro at_ lk ot o0 L0
  refine ⟨show 2 ≤ 100000 by decide, ?_⟩
  refine ⟨show 1 ≤ 100000 by decide, ?_⟩
  refine sp_one B N (by omega) _ (show 1 ≤ 3 by decide) (show 3 ≤ 100 by decide) fun x hx => ?_
  have hx : x ∈ [adtS [.int r0, .int r1] [t0], adtS [.int q0, .int q1] [o0], adtS [.int q0, .int q1] [o0]] := hx
  obtain ⟨s0, s1, u0, rfl, hs0, hs1, K0⟩ : ∃ (s0 : D) (s1 : D) (u0 : Rf), x = adtS [s0, s1] [u0] ∧ rg s0 ∧ rg s1 ∧ Like t0 u0 := by
    simp only [List.mem_cons, List.not_mem_nil, or_false] at hx
    rcases hx with rfl | rfl | rfl
    · exact ⟨_, _, _, rfl, rg_int _, rg_int _, Like.refl _⟩
    · exact ⟨_, _, _, rfl, rg_int _, rg_int _, L0⟩
    · exact ⟨_, _, _, rfl, rg_int _, rg_int _, L0⟩
  clear hx
  refine sp_one B N (by omega) _ (show 1 ≤ 2 by decide) (show 2 ≤ 100 by decide) fun x hx => ?_
  obtain ⟨a, rfl⟩ := way_of2 hx
  clear hx
  have b0 := beside_length (.int r0) s0 (met a w0)
  have b1 := beside_length (.int r1) s1 (met a w1)
  have c0 := prsOf_length t0 u0 (met a v0)
  refine ⟨⟨by decide, by decide⟩, ?_⟩
  refine sp_met B (by omega) a w0 ?_
  refine sp_beside B (by omega) (.int r0) s0 (met a w0) ?_
  refine ⟨show ([] : List D).length + (beside (.int r0) s0 (met a w0)).length ≤ 100000 by simp only [List.length_append, List.length_nil]; omega, ?_⟩
  refine sp_met B (by omega) a w1 ?_
  refine sp_beside B (by omega) (.int r1) s1 (met a w1) ?_
  refine ⟨show (([] : List D) ++ (beside (.int r0) s0 (met a w0))).length + (beside (.int r1) s1 (met a w1)).length ≤ 100000 by simp only [List.length_append, List.length_nil]; omega, ?_⟩
  refine ⟨⟨by decide, by decide⟩, ?_⟩
  refine sp_met B (by omega) a v0 ?_
  refine sp_pairs_of B (by omega) t0 u0 (met a v0) K0 ?_
  refine ⟨show ((([] : List D) ++ (beside (.int r0) s0 (met a w0))) ++ (beside (.int r1) s1 (met a w1))).length + (prsOf t0 u0 (met a v0)).length ≤ 100000 by simp only [List.length_append, List.length_nil]; omega, ?_⟩
  have hpp : PP (((([] : List D) ++ (beside (.int r0) s0 (met a w0))) ++ (beside (.int r1) s1 (met a w1))) ++ (prsOf t0 u0 (met a v0))) := (((PP.nil.app (.beside (rg_int _) hs0 _)).app (.beside (rg_int _) hs1 _)).app (.prsOf _ _ _))
  have ok1 : (adtS [.int r0, .int r1] [t0]).ok = true := adtS_ok (fun d hd => by simp only [List.mem_cons, List.not_mem_nil, or_false] at hd; rcases hd with rfl | rfl <;> first | exact rg_int _ | assumption)
  have ok2 : (adtS [s0, s1] [u0]).ok = true := adtS_ok (fun d hd => by simp only [List.mem_cons, List.not_mem_nil, or_false] at hd; rcases hd with rfl | rfl <;> first | exact rg_int _ | assumption)
  refine ⟨rfl, rfl, adtS [.int r0, .int r1] [t0], adtS [s0, s1] [u0], a, (((([] : List D) ++ (beside (.int r0) s0 (met a w0))) ++ (beside (.int r1) s1 (met a w1))) ++ (prsOf t0 u0 (met a v0))), [wD w0, wD w1, wD v0], ?_, weak4 rfl rfl rfl rfl rfl ok1 ok2 hpp, hpp, ?_, wD_oks [w0, w1, v0], ?_⟩
  · exact fun K h => ⟨show 3 ≤ 100000 by decide, h⟩
  · simp only [List.length_append, List.length_nil]; omega
  · intro M' K hM h
    obtain ⟨fd, pr⟩ := M'
    have hM : pr = [] := hM
    subst hM
    simp only [addAll_app] at h
    exact sp_parts21 (k := k) (M := ⟨fd, []⟩) B (by omega) (rg_int r0) (rg_int r1) hs0 hs1 w0 w1 t0 u0 v0 a Ok.nil (by decide) h
theorem struct22 (hk : 9 ≤ k) : evS (PhiS g k) [S' "types"] 39 ((stB.take 10).drop 1) ⟨stS, [(S' "source", .src), (S' "parts", .int 2), (S' "many", .int 2)], []⟩ M fun fl f1 M1 => fl = .next ∧ M1 = M ∧ StPre g k M f1 := by
  refine struct_draw B N M hk (i := 2) (j := 2) (by decide) (by decide) (by decide) (by decide) fun ws rs ts qs hw hr ht hq => ?_
  obtain ⟨w0, w1, v0, v1, rfl⟩ := l4 (hw.trans (rfl : _ = 4))
  obtain ⟨r0, r1, rfl⟩ := l2 (hr.trans (rfl : _ = 2))
  obtain ⟨t0, t1, rfl⟩ := l2 (ht.trans (rfl : _ = 2))
  obtain ⟨q0, q1, rfl⟩ := l2 (hq.trans (rfl : _ = 2))
  refine ⟨⟨by decide, by decide⟩, ?_⟩
  refine ty_loop2 (k := k) (xs := [.int 1]) (t0 := t0) (t1 := t1) (m := .int 2) (p := .int 2) (W := .lst [wD w0, wD w1, wD v0, wD v1]) (RG := .lst [.int q0, .int q1]) (rs := [.int r0, .int r1]) B N (by omega) rfl rfl ?_
  intro at_ lk ot o0 o1 L0 L1
  refine ⟨show 2 ≤ 100000 by decide, ?_⟩
  refine ⟨show 2 ≤ 100000 by decide, ?_⟩
  refine sp_one B N (by omega) _ (show 1 ≤ 3 by decide) (show 3 ≤ 100 by decide) fun x hx => ?_
  have hx : x ∈ [adtS [.int r0, .int r1] [t0, t1], adtS [.int q0, .int q1] [o0, o1], adtS [.int q0, .int q1] [o0, o1]] := hx
  obtain ⟨s0, s1, u0, u1, rfl, hs0, hs1, K0, K1⟩ : ∃ (s0 : D) (s1 : D) (u0 : Rf) (u1 : Rf), x = adtS [s0, s1] [u0, u1] ∧ rg s0 ∧ rg s1 ∧ Like t0 u0 ∧ Like t1 u1 := by
    simp only [List.mem_cons, List.not_mem_nil, or_false] at hx
    rcases hx with rfl | rfl | rfl
    · exact ⟨_, _, _, _, rfl, rg_int _, rg_int _, Like.refl _, Like.refl _⟩
    · exact ⟨_, _, _, _, rfl, rg_int _, rg_int _, L0, L1⟩
    · exact ⟨_, _, _, _, rfl, rg_int _, rg_int _, L0, L1⟩
  clear hx
  refine sp_one B N (by omega) _ (show 1 ≤ 2 by decide) (show 2 ≤ 100 by decide) fun x hx => ?_
  obtain ⟨a, rfl⟩ := way_of2 hx
  clear hx
  have b0 := beside_length (.int r0) s0 (met a w0)
  have b1 := beside_length (.int r1) s1 (met a w1)
  have c0 := prsOf_length t0 u0 (met a v0)
  have c1 := prsOf_length t1 u1 (met a v1)
  refine ⟨⟨by decide, by decide⟩, ?_⟩
  refine sp_met B (by omega) a w0 ?_
  refine sp_beside B (by omega) (.int r0) s0 (met a w0) ?_
  refine ⟨show ([] : List D).length + (beside (.int r0) s0 (met a w0)).length ≤ 100000 by simp only [List.length_append, List.length_nil]; omega, ?_⟩
  refine sp_met B (by omega) a w1 ?_
  refine sp_beside B (by omega) (.int r1) s1 (met a w1) ?_
  refine ⟨show (([] : List D) ++ (beside (.int r0) s0 (met a w0))).length + (beside (.int r1) s1 (met a w1)).length ≤ 100000 by simp only [List.length_append, List.length_nil]; omega, ?_⟩
  refine ⟨⟨by decide, by decide⟩, ?_⟩
  refine sp_met B (by omega) a v0 ?_
  refine sp_pairs_of B (by omega) t0 u0 (met a v0) K0 ?_
  refine ⟨show ((([] : List D) ++ (beside (.int r0) s0 (met a w0))) ++ (beside (.int r1) s1 (met a w1))).length + (prsOf t0 u0 (met a v0)).length ≤ 100000 by simp only [List.length_append, List.length_nil]; omega, ?_⟩
  refine sp_met B (by omega) a v1 ?_
  refine sp_pairs_of B (by omega) t1 u1 (met a v1) K1 ?_
  refine ⟨show (((([] : List D) ++ (beside (.int r0) s0 (met a w0))) ++ (beside (.int r1) s1 (met a w1))) ++ (prsOf t0 u0 (met a v0))).length + (prsOf t1 u1 (met a v1)).length ≤ 100000 by simp only [List.length_append, List.length_nil]; omega, ?_⟩
  have hpp : PP ((((([] : List D) ++ (beside (.int r0) s0 (met a w0))) ++ (beside (.int r1) s1 (met a w1))) ++ (prsOf t0 u0 (met a v0))) ++ (prsOf t1 u1 (met a v1))) := ((((PP.nil.app (.beside (rg_int _) hs0 _)).app (.beside (rg_int _) hs1 _)).app (.prsOf _ _ _)).app (.prsOf _ _ _))
  have ok1 : (adtS [.int r0, .int r1] [t0, t1]).ok = true := adtS_ok (fun d hd => by simp only [List.mem_cons, List.not_mem_nil, or_false] at hd; rcases hd with rfl | rfl <;> first | exact rg_int _ | assumption)
  have ok2 : (adtS [s0, s1] [u0, u1]).ok = true := adtS_ok (fun d hd => by simp only [List.mem_cons, List.not_mem_nil, or_false] at hd; rcases hd with rfl | rfl <;> first | exact rg_int _ | assumption)
  refine ⟨rfl, rfl, adtS [.int r0, .int r1] [t0, t1], adtS [s0, s1] [u0, u1], a, ((((([] : List D) ++ (beside (.int r0) s0 (met a w0))) ++ (beside (.int r1) s1 (met a w1))) ++ (prsOf t0 u0 (met a v0))) ++ (prsOf t1 u1 (met a v1))), [wD w0, wD w1, wD v0, wD v1], ?_, weak4 rfl rfl rfl rfl rfl ok1 ok2 hpp, hpp, ?_, wD_oks [w0, w1, v0, v1], ?_⟩
  · exact fun K h => ⟨show 4 ≤ 100000 by decide, h⟩
  · simp only [List.length_append, List.length_nil]; omega
  · intro M' K hM h
    obtain ⟨fd, pr⟩ := M'
    have hM : pr = [] := hM
    subst hM
    simp only [addAll_app] at h
    exact sp_parts22 (k := k) (M := ⟨fd, []⟩) B (by omega) (rg_int r0) (rg_int r1) hs0 hs1 w0 w1 t0 t1 u0 u1 v0 v1 a Ok.nil (by decide) h
end
end Mine
end

section
open PySem PySem.W PySem.Calls PyProof.Rows
set_option Elab.async false
set_option maxRecDepth 100000
set_option maxHeartbeats 4000000
set_option linter.unusedVariables false
set_option linter.unusedSectionVars false
set_option linter.unusedSimpArgs false
set_option smartUnfolding false
namespace Mine
theorem st0_split {Φ : Phi} {ow : List Str} {f : Fm} {M : Mu} {K : KS} (h : stmtP (ev Φ 30) ow (evS Φ ow 39) (nth stB 0) f M fun fl f1 M1 => match fl with | .next => forceF f1 fun f2 => evS Φ ow 39 ((stB.take 10).drop 1) f2 M1 K | .ret d => K (.ret d) f1 M1) : evS Φ ow 40 (stB.take 10) f M K := h
theorem stSt : ∃ y e yp xp pos pos2, nth stB 10 = .Assign [.Name (S' "relation") yp] (.Call (.Name (S' "Relation") xp) [e] [] pos) pos2 ∧ pl e = true ∧ e = stE ∧ y = S' "relation" := ⟨_, _, _, _, _, _, rfl, rfl, rfl, rfl⟩
section
variable {g : Gl} {k : Nat} (B : Base g) (N : Man g) (IR : InitOk g g.mR initR bindsR 2) {M : Mu} {K : KE}
include B N IR
theorem structs_pre (hk : 9 ≤ k) : evS (PhiS g k) [S' "types"] 40 (stB.take 10) ⟨stS, [(S' "source", .src)], []⟩ M fun fl f1 M1 => fl = .next ∧ M1 = M ∧ StPre g k M f1 := by
  refine N.take k _ _ _ (by omega) (by decide) (by decide) fun i i0 i2 => ?_
  refine N.take k _ _ _ (by omega) (by decide) (by decide) fun j j0 j2 => ?_
  rcases (show i = 0 ∨ i = 1 ∨ i = 2 by omega) with rfl | rfl | rfl <;> rcases (show j = 0 ∨ j = 1 ∨ j = 2 by omega) with rfl | rfl | rfl
  · exact struct00 B N M hk
  · exact struct01 B N M hk
  · exact struct02 B N M hk
  · exact struct10 B N M hk
  · exact struct11 B N M hk
  · exact struct12 B N M hk
  · exact struct20 B N M hk
  · exact struct21 B N M hk
  · exact struct22 B N M hk
/-- the frame once the relation is made -/
noncomputable def StPost (g : Gl) (k : Nat) (fr : Fm) : Prop := ∃ (one other : D) (a : Way) (due wsD : List D), fr = (stF2 one other a due).set (S' "relation") (.rel [S' "S"] [.tup wsD]) ∧ PP due ∧ due.length ≤ 100 ∧
  ∀ (M' : Mu) (K : KE), M'.prs = [] → K .none { M' with prs := addAll [] due } → PhiS g k (S' "parts_below") [.rel [S' "S"] [.tup wsD], one, other, wD a] M' K
theorem structs_post (hk : 9 ≤ k) (fr : Fm) (h : StPost g k fr) : evS (PhiS g k) [] 40 (stB.drop 11) fr { M with prs := [] } fun fl _ _ => fl = .ret (.bool true) := by
  obtain ⟨one, other, a, due, wsD, rfl, hp, hl, hc⟩ := h
  refine hc { M with prs := [] } _ rfl ?_
  refine sp_kept B (by omega) hp (by omega) ?_
  refine ⟨eqOk_same (hp.addAll .nil), ?_⟩
  have e := eqv_same (hp.addAll .nil).ok
  exact congrArg (fun b => Fl.ret (.bool b)) e
theorem sp_structs (hk : 10 ≤ k) (h : K (.bool true) M) : PhiS g k (S' "_law_structs_right") [.src] M K := by
  obtain ⟨k, rfl⟩ : ∃ j, k = j + 1 := ⟨k - 1, by omega⟩
  refine rel_def B rfl (by omega) (pre := stB.take 10) (st := nth stB 10) (post := stB.drop 11) rfl rfl (Pre := StPre g k M) (Pf := StPost g k) [S' "types"] [] (structs_pre B N IR (by omega)) ?_ (fun fr e => structs_post B N IR (by omega) fr e) h
  intro b0 c f A s R hf F m
  obtain ⟨one, other, a, due, wsD, h1, h2, h3, h4, h5, h6⟩ := hf
  have S := ev_ok B.gl (phi_ok g k) (by omega) 30
  obtain ⟨y, e, yp, xp, pos, pos2, q1, q2, q3, q4⟩ := stSt
  rw [q1]
  have esc : f.sc = stS := h2.sc.symm
  have hoks : oks [D.tup wsD] = true := by
    have : oks [D.tup wsD] = (oks wsD && true) := rfl
    rw [this, h5]; rfl
  refine wpAny_mono (rel_assign (P := fun ks ds => ks = [S' "S"] ∧ ds = [.tup wsD]) B.gl IR S R (by omega) F m q2 (by rw [esc]; rfl) (by rw [esc]; rfl) (q3 ▸ h1 _ ⟨rfl, _, _, rfl, hoks, rfl, rfl⟩) h2) (fun fl s' hq => ⟨hq.1, hq.2.mono ?_⟩) fun _ _ x => x
  rintro fr ⟨ks, ds, ⟨rfl, rfl⟩, rfl⟩
  exact ⟨one, other, a, due, wsD, rfl, h3, h4, h6⟩
end
end Mine
end

section
open PySem PySem.W PySem.Calls PyProof.Rows
set_option Elab.async false
set_option maxRecDepth 100000
set_option maxHeartbeats 4000000
set_option linter.unusedVariables false
set_option linter.unusedSectionVars false
set_option linter.unusedSimpArgs false
namespace Mine

noncomputable def plB : List Stmt := (defIn top (S' "_law_pool")).2.1
noncomputable def plS : Scope := (defIn top (S' "_law_pool")).2.2
noncomputable abbrev plF (l : List D) (c z : Int) : Fm := ⟨plS, [(S' "script", .lst l), (S' "cell", .int c), (S' "size", .int z)], []⟩
theorem idx_zero (x : D) (l : List D) : idx (x :: l) 0 = some x := by
  unfold idx
  rw [if_pos ⟨by decide, by decide⟩]
  have e : seqIndex? 0 (x :: l).length = some 0 := by
    unfold seqIndex?
    simp
  rw [e]
  rfl
theorem plRet : ∃ e1 e2 p1 p2, nth plB 2 = .Return (some (.List [e1, e2] p1)) p2 ∧ plAll [e1, e2] = true ∧ plB = plB.take 2 ++ [nth plB 2] := ⟨_, _, _, _, rfl, rfl, rfl⟩
noncomputable def plE : List Expr := match nth plB 2 with | .Return (some (.List es _)) _ => es | _ => []
section
variable {g : Gl} {k : Nat} (B : Base g) {M : Mu}
include B
set_option smartUnfolding false in
theorem pool_pre (hk : 1 ≤ k) (l : List Int) (hl : l.length ≤ 100) : evS (PhiS g k) [] 40 (plB.take 2) ⟨plS, [(S' "script", .lst (l.map .int))], []⟩ M fun fl f1 M1 => fl = .next ∧ M1 = M ∧ ∃ c z : Int, f1 = plF (l.map .int) c z ∧ 0 ≤ z := by
  cases l with
  | nil =>
    refine ⟨show 0 ≤ 100000 by decide, ?_⟩
    exact ⟨rfl, rfl, 0, 0, rfl, by decide⟩
  | cons x l =>
    rw [List.length_cons] at hl
    refine ⟨show ((x :: l).map D.int).length ≤ 100000 by rw [List.length_map, List.length_cons]; omega, ?_⟩
    have hpos : (0 : Int) < ((((x :: l).map D.int).length : Nat) : Int) := by rw [List.length_map, List.length_cons]; omega
    revert hpos
    generalize ((((x :: l).map D.int).length : Nat) : Int) = q
    intro hpos
    refine bsplit (fun h => ?_) fun h => ?_
    · refine opt_split (o := subV (.lst ((x :: l).map D.int)) (.int 0)) (idx_zero _ _) ?_
      refine bsplit (b := decide ((0 : Int) ≤ x)) (fun h => ?_) fun h => ?_
      · exact ⟨rfl, rfl, x, x, rfl, of_decide_eq_true h⟩
      · have := of_decide_eq_false h
        exact ⟨rfl, rfl, x, -1 - x, rfl, by omega⟩
    · have h : decide ((0 : Int) < q) = false := h
      have := of_decide_eq_false h
      omega
set_option smartUnfolding false in
theorem pool_ret (hk : 1 ≤ k) (l : List D) (c z : Int) (hz : 0 ≤ z) {K : List D → Mu → Prop} (h : ∀ x y : Int, SrcOk x y → K [.int x, .int y] M) : allE (ev (PhiS g k) 30) plE (plF l c z) M K := by
  have h1 := Int.fmod_nonneg_of_pos z (b := 2147483629) (by decide)
  have h2 := Int.fmod_lt_of_pos z (b := 2147483629) (by decide)
  refine ⟨⟨by decide, by decide, by decide⟩, ?_⟩
  generalize (10 : Int) ^ ((18 : Int)).toNat = q
  refine bsplit (fun _ => ?_) fun _ => ?_
  · refine ⟨by decide, ?_⟩
    refine ⟨mul_small (by omega), ?_⟩
    refine ⟨by decide, ?_⟩
    exact h _ _ ⟨hz, Int.fmod_nonneg_of_pos _ (by decide), Int.fmod_lt_of_pos _ (by decide)⟩
  · refine ⟨by decide, ?_⟩
    refine ⟨mul_small (by omega), ?_⟩
    refine ⟨by decide, ?_⟩
    exact h _ _ ⟨by decide, Int.fmod_nonneg_of_pos _ (by decide), Int.fmod_lt_of_pos _ (by decide)⟩
end
end Mine
end

section
open PySem PySem.W PySem.Calls PyProof.Rows
set_option Elab.async false
set_option maxRecDepth 100000
set_option maxHeartbeats 4000000
set_option linter.unusedVariables false
set_option linter.unusedSectionVars false
set_option linter.unusedSimpArgs false
namespace Mine

theorem reg_depth : ∀ {l : List D}, Reg l → PyData.depthAll (pys l) = 0
  | [], _ => rfl
  | d :: l, h => by
    have e : d.py.depth = 0 := by
      rcases h d List.mem_cons_self with rfl | rfl | rfl | ⟨i, _, _, rfl⟩ <;> rfl
    simp only [pys, PyData.depthAll, e, reg_depth fun x hx => h x (List.mem_cons_of_mem _ hx)]
    rfl
theorem reg_ok {l : List D} (h : Reg l) : (D.lst l).ok = true := by
  have := reg_oks h
  simpa [D.ok] using this
theorem eqOk_regs {l : List D} (h : Reg l) : eqOk (.lst l) (.lst l) := by
  have : (D.lst l).py.depth ≤ 40 := by simp only [D.py, PyData.depth, reg_depth h]; decide
  exact ⟨reg_ok h, reg_ok h, this, this⟩

theorem eqV_same {l : List D} (h : Reg l) : eqV (.lst l) (.lst l) = true := eqv_same (reg_ok h)
noncomputable def lwB : List Stmt := (defIn top (S' "law")).2.1
noncomputable def lwS : Scope := (defIn top (S' "law")).2.2
noncomputable abbrev lwF0 : Fm := ⟨lwS, [(S' "source", .src)], []⟩
noncomputable abbrev lwF (t rv rg ca : D) : Fm := ⟨lwS, [(S' "source", .src), (S' "turn", t), (S' "rvalue", rv), (S' "regions", rg), (S' "callee", ca)], []⟩
noncomputable def lwI : Stmt := nth lwB 6
theorem small9 : ∀ t ∈ [Ty.ref (.int 9) false .bool], Small t := fun t ht => by
  rw [List.mem_singleton.mp ht]
  exact ⟨by decide, fun d hd => (List.mem_singleton.mp hd) ▸ .inr (.inr (.inr ⟨9, by decide, by decide, rfl⟩)), by decide⟩
set_option smartUnfolding false
section
variable {g : Gl} {k : Nat} (B : Base g) (N : Man g) (IR : InitOk g g.mR initR bindsR 2) {M : Mu}
include B N IR
theorem lw_loop (hk : 16 ≤ k) {ow : List Str} {m : Nat} {K : KS} (how : ow = []) : ∀ (n : Nat) (a : Int) (t rv rg ca : D), (∀ t rv rg ca, K .next (lwF t rv rg ca) M) →
    forP (forParts lwI).1 (fun f1 M2 K2 => evS (PhiS g k) ow (m + 8) (forParts lwI).2 f1 M2 K2) (rangeFrom a n) (lwF t rv rg ca) M K
  | 0, a, t, rv, rg, ca, h => h t rv rg ca
  | n + 1, a, t, rv, rg, ca, h => by
    have ih := fun t rv rg ca => lw_loop hk (ow := ow) (m := m) how n (a + 1) t rv rg ca h
    subst how
    refine sp_rvalue B N (by omega) fun r rs hr => ?_
    refine hr.2.2 k _ _ (by omega) ?_
    refine ⟨eqOk_regs hr.1, ?_⟩
    rw [eqV_same hr.1]
    refine sp_callee B N (by omega) fun c cs hc => ?_
    refine bsplit (b := decide (a < 3)) (fun _ => ?_) fun _ => ?_
    · refine hc.2.2 k _ _ (by omega) ?_
      refine ⟨eqOk_regs hc.1, ?_⟩
      rw [eqV_same hc.1]
      exact ih (.int a) r (.lst cs) c
    · exact ih (.int a) r (.lst cs) c
theorem lw_post (hk : 17 ≤ k) : evS (PhiS g k) [] 40 (lwB.drop 5) lwF0 M fun fl _ _ => fl = .ret (.bool true) := by
  refine sp_pairs B N IR (by omega) ?_
  refine sp_structs B N IR (by omega) ?_
  refine ⟨⟨by decide, by decide⟩, ?_⟩
  refine sp_rvalue B N (by omega) fun r rs hr => ?_
  refine hr.2.2 k _ _ (by omega) ?_
  refine ⟨eqOk_regs hr.1, ?_⟩
  rw [eqV_same hr.1]
  refine sp_callee B N (by omega) fun c cs hc => ?_
  refine hc.2.2 k _ _ (by omega) ?_
  refine ⟨eqOk_regs hc.1, ?_⟩
  rw [eqV_same hc.1]
  refine lw_loop B N IR (by omega) rfl 3 1 (.int 0) r (.lst cs) c fun t rv rg ca => ?_
  exact sp_body B N (by omega) rfl
theorem lw_pre (hk : 17 ≤ k) (sc : D) : evS (PhiS g k) [] 40 (lwB.take 4) ⟨lwS, [(S' "script", sc)], []⟩ M fun fl f1 M1 => fl = .next ∧ M1 = M ∧ f1.loc.lookup (S' "script") = some sc ∧ f1.sc = lwS := by
  refine N.body k _ _ _ _ _ _ (by omega) (show 1 ≤ 1000 by decide) ?_
  refine sp_great1 (k := k) (ss := []) B N (by omega) reg4 .nil (.inr ⟨_, _, _, _, rfl, ca_fn B N [.ref (.int 9) false .bool] (by decide) small9 rfl (small9 _ List.mem_cons_self).2.1 (by decide)⟩) (.inl rfl) (by decide) (by decide) ?_
  have e9 : mxD (.int 0 :: (regs (.ref (.int 4) false .bool) ++ [] ++ [Ty.ref (.int 9) false .bool].flatMap regs)) = 9 := by decide +kernel
  rw [e9]
  refine sp_told B N IR (by omega) ?_
  refine ⟨show 3 ≤ 100000 by decide, ?_⟩
  refine ⟨show 3 ≤ 100000 by decide, ?_⟩
  refine sp_inner B (by omega) .co .co (sp_met B (by omega) .co .co ?_)
  refine sp_inner B (by omega) .co .inn (sp_met B (by omega) .co .inn ?_)
  refine sp_inner B (by omega) .co .bi (sp_met B (by omega) .co .bi ?_)
  refine ⟨show 3 ≤ 100000 by decide, ?_⟩
  refine sp_inner B (by omega) .inn .co (sp_met B (by omega) .inn .co ?_)
  refine sp_inner B (by omega) .inn .inn (sp_met B (by omega) .inn .inn ?_)
  refine sp_inner B (by omega) .inn .bi (sp_met B (by omega) .inn .bi ?_)
  refine ⟨show 3 ≤ 100000 by decide, ?_⟩
  refine sp_inner B (by omega) .bi .co (sp_met B (by omega) .bi .co ?_)
  refine sp_inner B (by omega) .bi .inn (sp_met B (by omega) .bi .inn ?_)
  refine sp_inner B (by omega) .bi .bi (sp_met B (by omega) .bi .bi ?_)
  exact ⟨rfl, rfl, rfl, rfl⟩
end
end Mine
end

section
open PySem PySem.W PySem.Calls PyProof.Rows
set_option Elab.async false
set_option maxRecDepth 100000
set_option maxHeartbeats 4000000
set_option linter.unusedVariables false
namespace Mine

theorem plRet2 : ∃ e1 e2 p1 p2, nth plB 2 = .Return (some (.List [e1, e2] p1)) p2 ∧ plAll [e1, e2] = true ∧ plE = [e1, e2] := ⟨_, _, _, _, rfl, rfl, rfl⟩
theorem plB_split : plB = plB.take 2 ++ [nth plB 2] := rfl
section
variable {g : Gl} {A : Around} {s : Shared} {M : Mu}
theorem pool_call (B : Base g) {a : Addr} (ha : g.mg (S' "_law_pool") = some (.ref a)) {sp : Sp} {bad : Addr → Prop} (w : W g sp bad s.heap) (m : MuOk g sp bad s.heap M) {v : Value} {l : List Int} (hl : l.length ≤ 100) (rv : Rep g sp bad s.heap v (.lst (l.map .int))) (R : Room A 2) :
    wpAny (model pw g.w) A (call (.ref a) [v]) (fun r s' => ∃ h' tk fa x y t u, r = .ref fa ∧ s' = { s with heap := h', toks := tk } ∧ Kp sp s.heap h' ∧ s.heap.get? fa = none ∧ h'.get? fa = some (lstO [.int x t, .int y u] 0) ∧ SrcOk x y ∧ MuOk g sp bad h' M) (fun _ _ => False) s := by
  have hin : S' "_law_pool" ∈ walked := List.contains_iff_mem.mp (by decide +kernel)
  refine fn_enter (n := 1) (d := defIn top (S' "_law_pool")) (ds := [.lst (l.map .int)]) B.gl (B.fn _ hin a ha) (ok_walked _ hin) rfl w m (.cons rv .nil) R fun fd o c h1 tk1 ho hd esp een eow ecm F m1 keep R' cells => ?_
  show wpAny _ _ (execs plB c.env) _ _ _
  rw [plB_split]
  generalize hL : s.heap.objs.size = L at *
  have fL : s.heap.get? L = none := by rw [← hL, get_size]
  have eL : c.env.locals = L := by rw [een]; rfl
  have nc : ∀ b, ¬ Own c b := fun b ⟨y, q⟩ => by rw [eow] at q; simp at q
  refine execs_app (wpAny_mono (stmts_ok B.gl (phi_ok g 1) (Nat.le_refl 1) R' [] 40 (plB.take 2) (fun b => bad b ∨ b = L) c _ { s with heap := h1, toks := tk1 } M _ F (by rw [esp]; exact m1) (pool_pre B (Nat.le_refl 1) l hl)) (fun fl s' hq => ?_) fun _ _ x => x.elim)
  refine SEnd.el hq fun h2 tk2 c2 f2 M2 n2 F2 m2 hf => ?_
  clear hq
  cases fl with
  | brk => exact hf.elim
  | cont => exact hf.elim
  | ret v => obtain ⟨d, _, q, _⟩ := hf; cases q
  | next =>
  obtain ⟨_, hM2, cc, z, rfl, hz⟩ := hf
  rw [hM2] at m2
  obtain ⟨e1, e2, p1, p2, q1, q2, q3⟩ := plRet2
  show wpAny _ _ (execs [nth plB 2] c.env) _ _ { s with heap := h2, toks := tk2 }
  rw [q1, ← n2.env]
  have Sx := ev_ok B.gl (phi_ok g 1) (Nat.le_refl 1) 30
  have R2 : Room (A.deeper c2.env) 1 := by rw [n2.env]; exact R'
  have hret := pool_ret (M := M) B (Nat.le_refl 1) (l.map .int) cc z hz (K := fun ds M1 => M1 = M ∧ ∃ x y : Int, SrcOk x y ∧ ds = [.int x, .int y]) fun x y h => ⟨rfl, x, y, h, rfl⟩
  rw [q3] at hret
  refine wpAny_execs_cons (wpAny_Return_some (List_ ((all_ok (s := { s with heap := h2, toks := tk2 }) Sx p1 R2 (plAll_all q2).1 F2.st m2 hret).then fun us h3 tk3 ds M3 k3 hK rs m3 => ?_)))
  obtain ⟨rfl, x, y, hs, rfl⟩ := hK
  have hus : ∃ t u, us = [.int x t, .int y u] := by
    cases rs.1 with
    | cons r1 r2 =>
      cases r2 with
      | cons r2 r3 =>
        cases r3
        refine r1.int_el fun t => ?_
        refine r2.int_el fun u => ?_
        exact ⟨t, u, rfl⟩
  obtain ⟨t, u, rfl⟩ := hus
  refine wpAny_newList ?_ (by show 2 ≤ sizeLine; rw [sizeLine_eq]; decide)
  have esp2 : c2.sp = sp := n2.sp.trans esp
  rw [esp2] at k3 m3
  have alive3 : ∀ b o, s.heap.get? b = some o → ∃ o', h3.get? b = some o' := fun b o e => let ⟨o1, e1⟩ := n2.alive b o (keep b o e); k3.alive b o1 e1
  have kp : Kp sp s.heap h3 := ⟨fun b o e nm => k3.keep b o (n2.keep b o (keep b o e) (by rw [esp]; exact nm) (fun q => by rw [eL] at q; rw [q, fL] at e; cases e) (nc b)) nm, alive3⟩
  refine ⟨_, _, _, x, y, t, u, rfl, rfl, kp.trans (.push _ _), ?_, Heap.get?_push_size _ rfl, hs, ?_⟩
  · cases e : s.heap.get? h3.objs.size with
    | none => rfl
    | some o =>
      obtain ⟨o', e'⟩ := alive3 _ _ e
      rw [get_size] at e'; cases e'
  · exact (m3.up (fun _ _ e => e) ⟨fun _ _ e _ => e, fun b _ _ q => (F2.hb b).mpr (.inl (.inl q))⟩).keep (push_keep _ _)

noncomputable abbrev sp0 (g : Gl) : Sp := ⟨none, none, none, some g.ta⟩
noncomputable abbrev sp1 (g : Gl) (fa : Addr) : Sp := ⟨some fa, none, none, some g.ta⟩
/-- from now on the list at fa is the source -/
theorem src_new {b0 : Addr → Prop} {c : Cx} {f : Fm} {h : Heap} (F : Sf g b0 c f h) (m : MuOk g c.sp c.bad h M) (esp : c.sp = sp0 g) {fa : Addr} {x y : Int} {t u : Tok} (ef : h.get? fa = some (lstO [.int x t, .int y u] 0)) (hs : SrcOk x y) (nf : ¬ c.bad fa) (nh : g.hb.get? fa = none) :
    Sf g (fun b => b0 b ∨ b = fa) { c with sp := sp1 g fa, bad := fun b => c.bad b ∨ b = fa } ⟨f.sc, [], []⟩ h ∧ MuOk g (sp1 g fa) (fun b => c.bad b ∨ b = fa) h M := by
  have w := F.st.w
  have bT : c.bad g.ta := w.mu _ (.inr (.inr (.inr w.s2.2.1)))
  have fT : fa ≠ g.ta := fun q => nf (q ▸ bT)
  have mu' : ∀ b, (sp1 g fa).mu b → b0 b ∨ b = fa := by
    rintro b (q | q | q | q)
    · exact .inr (Option.some.inj q).symm
    · cases q
    · cases q
    · exact .inl (F.mb b (.inr (.inr (.inr (by rw [w.s2.2.1]; exact q)))))
  have W' : W g (sp1 g fa) (fun b => c.bad b ∨ b = fa) h := ⟨w.base, fun b q => q.elim (w.al b) fun z => ⟨_, z ▸ ef⟩, fun b q => (mu' b q).imp (fun z => (F.hb b).mpr (.inl z)) id, fun b q => q.elim (w.muHb b) fun z => z ▸ nh,
    fun b e => ⟨fun q => (by cases q), fun q => (by cases q)⟩, ⟨fun b e => (by cases e), rfl, fun q => fT (Option.some.inj q), fun q => (by cases q), fun q => (by cases q)⟩⟩
  refine ⟨⟨?_, fun b => ?_, fun b q z => z.elim (F.nb b q) fun z => nf (z ▸ (F.hb b).mpr (.inr q)), F.inj, .inl F.bL, mu'⟩, ?_⟩
  · exact {
      w := W'
      kind := F.st.kind
      glob := F.st.glob
      blt := F.st.blt
      ns := F.st.ns
      nL := by
        rintro (q | q | q | q)
        · exact nf (by rw [Option.some.inj q]; exact F.cL)
        · cases q
        · cases q
        · exact F.st.nL (.inr (.inr (.inr (by rw [w.s2.2.1]; exact q))))
      gl := F.st.gl
      lo := F.st.lo
      ce := F.st.ce
      loc := fun x d e => by cases e
      own := fun x l e => by cases e }
  · constructor
    · rintro (q | q)
      · exact ((F.hb b).mp q).imp .inl id
      · exact .inl (.inr q)
    · rintro ((q | q) | q)
      · exact .inl ((F.hb b).mpr (.inl q))
      · exact .inr q
      · exact .inl ((F.hb b).mpr (.inr q))
  · refine ⟨fun b e => ?_, fun b e => (by cases e), fun b e => (by cases e), fun b e => ?_⟩
    · obtain rfl := Option.some.inj e
      exact ⟨x, y, t, u, lst_is ef, hs⟩
    · obtain rfl := Option.some.inj e
      obtain ⟨ps, e9, q9⟩ := m.tab _ w.s2.2.1
      refine ⟨ps, e9, q9.imp id fun ⟨c9, e1, nb, rec⟩ => ⟨c9, e1, fun q => q.elim nb fun z => ?_, rec⟩⟩
      obtain ⟨c8, o8, vs8, t8, e2, e3, e4, _⟩ := rec
      cases e2
      rw [z, ef] at e3
      cases e3
      cases e4
theorem lw_pool : lwS.names.lookup (S' "_law_pool") = some .globalImplicit := by kernel_rfl
theorem lw_source : lwS.names.lookup (S' "source") = some .local := by kernel_rfl
theorem lwSt : ∃ yp xp ap pos pos2, nth lwB 4 = .Assign [.Name (S' "source") yp] (.Call (.Name (S' "_law_pool") xp) [.Name (S' "script") ap] [] pos) pos2 := ⟨_, _, _, _, _, rfl⟩
theorem lwB_split : lwB = lwB.take 4 ++ nth lwB 4 :: lwB.drop 5 := rfl
theorem stmts_run {g : Gl} (B : Base g) {n : Nat} (hn : 1 ≤ n) {A : Around} (R : Room A n) {b0 : Addr → Prop} {c : Cx} {f : Fm} {s : Shared} {M : Mu} {K : KS} {ow : List Str} {ss : List Stmt} (F : Sf g b0 c f s.heap) (m : MuOk g c.sp c.bad s.heap M) (h : evS (PhiS g n) ow 40 ss f M K) :
    wpAny (model pw g.w) A (execs ss c.env) (SEnd g b0 c s K) (fun _ _ => False) s := stmts_ok B.gl (phi_ok g n) hn R ow 40 ss b0 c f s M K F m h
theorem law_call0 (B : Base g) {a : Addr} {d : Dfn} (Di : DefIs g a d) (Do : DefOk d) {pre post : List Stmt} {st : Stmt} {sc0 : Scope} (e1 : argNames d.1 = [S' "script"]) (e2 : d.2.1 = pre ++ st :: post) (e3 : d.2.2 = sc0)
    (q0 : ∃ yp xp ap pos pos2, st = .Assign [.Name (S' "source") yp] (.Call (.Name (S' "_law_pool") xp) [.Name (S' "script") ap] [] pos) pos2) (lw_pool : sc0.names.lookup (S' "_law_pool") = some .globalImplicit) (lw_source : sc0.names.lookup (S' "source") = some .local)
    (hpre : ∀ sc, evS (PhiS g 17) [] 40 pre ⟨sc0, [(S' "script", sc)], []⟩ M fun fl f1 M1 => fl = .next ∧ M1 = M ∧ f1.loc.lookup (S' "script") = some sc ∧ f1.sc = sc0)
    (hpost : evS (PhiS g 17) [] 40 post ⟨sc0, [(S' "source", .src)], []⟩ M fun fl _ _ => fl = .ret (.bool true)) (w : W g (sp0 g) (fun b => b = g.ta) s.heap) (m : MuOk g (sp0 g) (fun b => b = g.ta) s.heap M) {v : Value} {l : List Int} (hl : l.length ≤ 63) (rv : Rep g (sp0 g) (fun b => b = g.ta) s.heap v (.lst (l.map .int))) (R : Room A 18) :
    wpAny (model pw g.w) A (call (.ref a) [v]) (fun r s' => r = .bool true ∧ ∃ h' tk, s' = { s with heap := h', toks := tk } ∧ (∀ b o, s.heap.get? b = some o → b ≠ g.ta → h'.get? b = some o) ∧ TabOk g.nq (fun b => b = g.ta) h' g.ta) (fun _ _ => False) s := by
  refine fn_enter (n := 17) (ds := [.lst (l.map .int)]) B.gl Di Do (by rw [e1]; rfl) w m (.cons rv .nil) R fun fd o c h1 tk1 ho hd esp een eow ecm F m1 keep R' cells => ?_
  rw [e2]
  rw [e1, e3] at F
  generalize hL : s.heap.objs.size = L at *
  have fL : s.heap.get? L = none := by rw [← hL, get_size]
  have eL : c.env.locals = L := by rw [een]; rfl
  have nc : ∀ b, ¬ Own c b := fun b ⟨y, q⟩ => by rw [eow] at q; simp at q
  have F' : Sf g (fun b => b = g.ta ∨ b = L) c ⟨sc0, [(S' "script", .lst (l.map .int))], []⟩ h1 := F
  have m1' : MuOk g c.sp c.bad h1 M := by rw [esp]; exact m1
  have run := stmts_run (s := { s with heap := h1, toks := tk1 }) B (by decide : 1 ≤ 17) R' F' m1' (hpre _)
  refine execs_app (wpAny_mono run (fun fl s' hq => ?_) fun _ _ x => x.elim)
  refine SEnd.el hq fun h2 tk2 c2 f2 M2 n2 F2 m2 hf => ?_
  clear hq
  cases fl with
  | brk => exact hf.elim
  | cont => exact hf.elim
  | ret v => obtain ⟨d, _, q, _⟩ := hf; cases q
  | next =>
  obtain ⟨_, hM2, hsc, hfs⟩ := hf
  rw [hM2] at m2
  have esp2 : c2.sp = sp0 g := n2.sp.trans esp
  show wpAny _ _ (execs (st :: post) c.env) _ _ { s with heap := h2, toks := tk2 }
  have R2 : Room (A.deeper c2.env) 17 := by rw [n2.env]; exact R'
  obtain ⟨yp, xp, ap, pos, pos2, q1⟩ := q0
  rw [q1, ← n2.env]
  refine wpAny_execs_cons (wpAny_Assign_Name ?_ rfl)
  show wpAny _ _ (do callWith pos (← eval (.Name (S' "_law_pool") xp) c2.env) [] (backTo pos (starEach [.Name (S' "script") ap] c2.env)) []) _ _ _
  refine wpAny_bind ?_
  obtain ⟨pa, epa, op, fdp, hp1, hp3⟩ := B.gl.fns (S' "_law_pool") (by kernel_rfl)
  refine glob_ok (s := { s with heap := h2, toks := tk2 }) B.gl F2.st (by rw [hfs]; exact lw_pool) (by decide +kernel) epa (callW_fn (o := op) (fd := fdp) (es := [.Name (S' "script") ap]) rfl hp3 ?_)
  rw [back_cons rfl]
  obtain ⟨v2, vi, rv2⟩ := F2.st.loc _ _ hsc
  refine spliced_cons (var_ok (s := { s with heap := h2, toks := tk2 }) F2.st vi (by decide +kernel) (by decide +kernel) (spliced_nil ⟨F2.st.w.base _ _ hp1, ?_⟩))
  refine wpAny_mono (pool_call (s := { s with heap := h2, toks := tk2 }) B epa F2.st.w m2 (by omega) rv2 (R2.le (by decide))) (fun r s' hq => ?_) fun _ _ x => x
  obtain ⟨h3, tk3, fa, x, y, t, u, rfl, rfl, kp3, fa2, efa, hs, m3⟩ := hq
  have kp3 : Kp c2.sp h2 h3 := kp3
  have fa2 : h2.get? fa = none := fa2
  obtain ⟨F3, n3⟩ := F2.expr kp3
  have dead : ¬ c2.bad fa := fun q => by
    obtain ⟨o, e⟩ := F2.st.w.al fa q
    rw [fa2] at e; cases e
  have hbn : g.hb.get? fa = none := by
    cases q : g.hb.get? fa with
    | none => rfl
    | some o => have := F2.st.w.base fa o q; rw [fa2] at this; cases this
  obtain ⟨F4, m4⟩ := src_new F3 m3 esp2 efa hs dead hbn
  refine store_ok (c := { c2 with sp := sp1 g fa, bad := fun b => c2.bad b ∨ b = fa }) (d := .src) (s := { s with heap := h3, toks := tk3 }) F4 m4 (by show f2.sc.names.lookup _ = _; rw [hfs]; exact lw_source) (.src rfl) fun h5 tk5 mm5 n5 F5 m5 => ?_
  have ef : (Fm.set ⟨f2.sc, [], []⟩ (S' "source") .src) = ⟨sc0, [(S' "source", .src)], []⟩ := by rw [hfs]; rfl
  rw [ef] at F5
  have run2 := stmts_run (s := { s with heap := h5, toks := tk5 }) B (by decide : 1 ≤ 17) (show Room (A.deeper c2.env) 17 from R2) F5 m5 hpost
  refine wpAny_mono run2 (fun fl s' hq => ?_) fun _ _ x => x.elim
  refine SEnd.el hq fun h6 tk6 c6 f6 M6 n6 F6 m6 hf => ?_
  clear hq
  cases fl with
  | brk => exact hf.elim
  | cont => exact hf.elim
  | next => cases (show Fl.next = Fl.ret _ from hf)
  | ret v =>
  obtain ⟨d, rv6, hd6⟩ := hf
  cases hd6
  refine rv6.bool_el ?_
  have alive2 : ∀ b o, s.heap.get? b = some o → b ≠ fa := fun b o e q => by
    obtain ⟨o1, e1⟩ := n2.alive b o (keep b o e)
    rw [q, fa2] at e1; cases e1
  have n2o : ∀ b o, s.heap.get? b = some o → ¬ Own c2 b := fun b o e q => (n2.own b q).elim (nc b) fun z => by rw [show h1.get? b = some o from keep b o e] at z; cases z
  have mu1 : ∀ b o, s.heap.get? b = some o → b ≠ g.ta → ¬ (sp1 g fa).mu b := by
    rintro b o e nT (q | q | q | q)
    · exact alive2 b o e (Option.some.inj q).symm
    · cases q
    · cases q
    · exact nT (Option.some.inj q).symm
  have mu0 : ∀ b, b ≠ g.ta → ¬ (sp0 g).mu b := by
    rintro b nT (q | q | q | q)
    · cases q
    · cases q
    · cases q
    · exact nT (Option.some.inj q).symm
  have eL2 : c2.env.locals = L := by rw [n2.env]; exact eL
  refine ⟨rfl, h6, tk6, rfl, fun b o e nT => ?_, ?_⟩
  · have bL : b ≠ L := fun q => by rw [q, fL] at e; cases e
    have e2 : h2.get? b = some o := n2.keep b o (keep b o e) (by rw [esp]; exact mu0 b nT) (by rw [eL]; exact bL) (nc b)
    have e3 : h3.get? b = some o := kp3.keep b o e2 (by rw [esp2]; exact mu0 b nT)
    have e5 : h5.get? b = some o := n5.keep b o e3 (mu1 b o e nT) (by show b ≠ c2.env.locals; rw [eL2]; exact bL) (n2o b o e)
    exact n6.keep b o e5 (mu1 b o e nT) (by show b ≠ c2.env.locals; rw [eL2]; exact bL) (n2o b o e)
  · have esp6 : c6.sp = sp1 g fa := n6.sp
    have bT : c6.bad g.ta := (F6.hb _).mpr (.inl (.inl (.inl rfl)))
    exact (m6.tab g.ta (by rw [esp6])).up (fun _ e => e) ⟨fun _ _ e _ => e, fun b _ _ q => q ▸ bT⟩
-- JOIN
theorem law_call (B : Base g) (N : Man g) (IR : InitOk g g.mR initR bindsR 2) {a : Addr} (ha : g.mg (S' "law") = some (.ref a)) (w : W g (sp0 g) (fun b => b = g.ta) s.heap) (m : MuOk g (sp0 g) (fun b => b = g.ta) s.heap M) {v : Value} {l : List Int} (hl : l.length ≤ 63) (rv : Rep g (sp0 g) (fun b => b = g.ta) s.heap v (.lst (l.map .int))) (R : Room A 18) :
    wpAny (model pw g.w) A (call (.ref a) [v]) (fun r s' => r = .bool true ∧ ∃ h' tk, s' = { s with heap := h', toks := tk } ∧ (∀ b o, s.heap.get? b = some o → b ≠ g.ta → h'.get? b = some o) ∧ TabOk g.nq (fun b => b = g.ta) h' g.ta) (fun _ _ => False) s := by
  have hin : S' "law" ∈ walked := List.contains_iff_mem.mp (by decide +kernel)
  exact law_call0 (d := defIn top (S' "law")) (pre := lwB.take 4) (post := lwB.drop 5) (st := nth lwB 4) (sc0 := lwS) B (B.fn _ hin a ha) (ok_walked _ hin) (by kernel_rfl) lwB_split rfl lwSt lw_pool lw_source (fun sc => lw_pre (M := M) B N IR (k := 17) (by decide) sc) (lw_post (M := M) B N IR (k := 17) (by decide)) w m hl rv R
end
end Mine
end

section
open PySem PySem.W PySem.Calls PyProof.Rows
set_option Elab.async false
set_option maxRecDepth 100000
set_option maxHeartbeats 4000000
set_option linter.unusedVariables false
namespace Mine

theorem below_bind {fd : FuncData} {s : Shared} {T : Addr} {o : Obj} {d0 : Value} {n : Nat} {v0 v1 v2 v3 : Value} (h1 : fd.params = (defM (S' "below")).1) (h2 : fd.defaults = .ref T) (h3 : fd.kwdefaults = .none) (ho : s.heap.get? T = some o) (hs : o.data = .seq #[d0] n) :
    BindsTo s fd ⟨[v0, v1, v2, v3], []⟩ ((argNames (defM (S' "below")).1).zip [v0, v1, v2, v3]) := by
  obtain ⟨a1, a2, a3, a4, a5, a6, a7, a8, a9, a10, a11, a12, a13, a14, a15⟩ := fd
  dsimp only at h1 h2 h3
  subst h1 h2 h3
  exact BindsTo.of_defaults rfl ho hs rfl rfl
theorem initB_bind {fd : FuncData} {s : Shared} {T : Addr} {o : Obj} {n : Nat} {v0 v1 v2 v3 v4 : Value} (h1 : fd.params = initB.1) (h2 : fd.defaults = .ref T) (h3 : fd.kwdefaults = .none) (ho : s.heap.get? T = some o) (hs : o.data = .seq #[.none, .none] n) :
    BindsTo s fd ⟨[v0, v1, v2, v3, v4], []⟩ (bindsB [v0, v1, v2, v3, v4]) := by
  obtain ⟨a1, a2, a3, a4, a5, a6, a7, a8, a9, a10, a11, a12, a13, a14, a15⟩ := fd
  dsimp only at h1 h2 h3
  subst h1 h2 h3
  exact BindsTo.of_defaults rfl ho hs rfl rfl
theorem initR_bind {fd : FuncData} {s : Shared} {v0 v1 : Value} (h1 : fd.params = initR.1) (h2 : fd.defaults = .none) (h3 : fd.kwdefaults = .none) : BindsTo s fd ⟨[v0, v1], []⟩ (bindsR [v0, v1]) := by
  obtain ⟨a1, a2, a3, a4, a5, a6, a7, a8, a9, a10, a11, a12, a13, a14, a15⟩ := fd
  dsimp only at h1 h2 h3
  subst h1 h2 h3
  exact .of_eq rfl

section
variable {h : Heap} {P : Addr}
noncomputable abbrev IsTab (h : Heap) (P : Addr) : Prop := h.get? P = some { cls := .none, data := .fields #[] }
theorem hid (t : IsTab h P) {b : Addr} {o : Obj} (e : h.get? b = some o) (n : o.data ≠ .fields #[]) : (h.hide P).get? b = some o := by
  rw [Heap.hide_ne]
  · exact e
  · rintro rfl
    rw [t] at e
    cases e
    exact n rfl
theorem ns_hid (t : IsTab h P) {a : Addr} {m : Str → Option Value} (x : h.Ns a m) : (h.hide P).Ns a m :=
  let ⟨o, es, ep, e, d, r⟩ := x; ⟨o, es, ep, hid t e (by rw [d]; exact fun q => by cases q), d, r⟩
theorem code_hid (t : IsTab h P) {cd : Value} {q : Str} (x : h.CodeRec cd q) : (h.hide P).CodeRec cd q :=
  let ⟨c, o, vs, t1, e0, e, d, r⟩ := x; ⟨c, o, vs, t1, e0, hid t e (by rw [d]; intro z; injection z with z; subst z; simp at r), d, r⟩
theorem cls_hid (t : IsTab h P) {C N : Addr} {m : Str → Option Value} (x : ClsAt h C N m) : ClsAt (h.hide P) C N m :=
  by
  obtain ⟨nm, q, bs, sn, sub, col, dd, k0, k1, k2, k3, k5, e⟩ := x.obj
  exact ⟨⟨nm, q, bs, sn, sub, col, dd, k0, k1, k2, k3, k5, hid t e (fun q => by cases q)⟩, ns_hid t x.ns⟩

/-- the class n of the text, as the pins see it -/
noncomputable def clsV (q : Program) (n : Str) : Option (List Str × List (Str × Dfn)) := ((dclssOf q []).map fun c => (c.name, c.quiet, c.meths.map fun m => (m.name, m.params, m.body, m.scope))).lookup n
theorem rd1 {h : Heap} {vs : List Value} {d : PyData} {as : List Addr} (r : ReadsAll h vs [d] as) : ∃ v, vs = [v] := by
  cases r with
  | cons a b => cases b; exact ⟨_, rfl⟩
theorem rd2 {h : Heap} {vs : List Value} {as : List Addr} (r : ReadsAll h vs [.none, .none] as) : vs = [.none, .none] := by
  cases r with
  | cons a b =>
    cases b with
    | cons a' b' => cases b'; cases a; cases a'; rfl
theorem lookup_memG {α : Type} : ∀ {l : List (Str × α)} {x : Str} {v : α}, l.lookup x = some v → (x, v) ∈ l
  | [], _, _, e => by cases e
  | (y, w) :: r, x, v, e => by
    rw [List.lookup_cons] at e
    split at e
    · rename_i q
      cases e
      rw [eq_of_beq q]
      exact List.mem_cons_self
    · exact List.mem_cons_of_mem _ (lookup_memG e)
theorem cls_at {q : Program} {mg : Str → Option Value} {n : Str} {qs names : List Str} {df : Str → Dfn} (K : TopCD q [] mg h) (e : ((clsV q n).map fun c => (qs.all c.1.contains, names.map fun x => c.2.lookup x)) = some (true, names.map fun x => some (df x))) :
    ∃ C N mN, mg n = some (.ref C) ∧ ClsAt h C N mN ∧ (∀ x ∈ qs, mN x = none) ∧ ∀ x ∈ names, ∃ f o pm cd doc dV, mN x = some (.ref f) ∧ h.get? f = some o ∧ o.cls = .type "function" ∧ o.data = .func (methDefD x (n ++ "." ++ x) (df x).1 (df x).2.1 (df x).2.2 pm cd doc dV) ∧
      h.CodeRec cd (n ++ "." ++ x) ∧ DefaultsOk 0 h (df x).1 dV := by
  obtain ⟨⟨qu, ms⟩, e1, e2⟩ := Option.map_eq_some_iff.mp e
  obtain ⟨c, hc, e3⟩ := List.mem_map.mp (lookup_memG e1)
  obtain ⟨rfl, rfl, rfl⟩ : c.name = n ∧ c.quiet = qu ∧ _ = ms := by
    injection e3 with a b
    injection b with b d
    exact ⟨a, b, d⟩
  injection e2 with e4 e5
  obtain ⟨C, N, mN, h1, PA⟩ := K c hc
  refine ⟨C, N, mN, h1, PA.cls, fun x hx => PA.quiet x (List.contains_iff_mem.mp (List.all_eq_true.mp e4 x hx)), fun x hx => ?_⟩
  have e6 := List.map_inj_left.mp e5 x hx
  obtain ⟨m, hm, e7⟩ := List.mem_map.mp (lookup_memG e6)
  injection e7 with a1 a2
  obtain ⟨f, o, pm, cd, doc, dV, q1, q2, q3, q4, q5, q6⟩ := PA.meths m hm
  rw [a1] at q1 q4 q5
  have b1 : m.params = (df x).1 := by rw [← a2]
  have b2 : m.body = (df x).2.1 := by rw [← a2]
  have b3 : m.scope = (df x).2.2 := by rw [← a2]
  rw [b1, b2, b3] at q4
  rw [b1] at q6
  exact ⟨f, o, pm, cd, doc, dV, q1, q2, q3, q4, q5, q6⟩
end
noncomputable abbrev freeN : List Str := [S' "len", S' "tuple", S' "max", S' "isinstance", S' "int", S' "range", S' "enumerate", S' "list"]
noncomputable abbrev quR : List Str := [S' "__getattribute__", S' "__getattr__", S' "__setattr__", S' "varied", S' "pairs"]
noncomputable abbrev quB : List Str := [S' "__getattribute__", S' "__getattr__", S' "__setattr__", S' "name", S' "arg_count", S' "locals", S' "blocks", S' "spots"]
noncomputable abbrev msR : List Str := [S' "__init__", S' "region", S' "parts_below", S' "outlives", S' "below"]
/-- what the view must say -/
structure QOk (q : Program) : Prop where
  rec_ : (walked.map fun x => ((recsOf q).map fun d => (d.name, d.params, d.body, d.scope)).lookup x) = walked.map fun x => some (defIn top x)
  fr : (freeN.all fun x => !(startupNames ++ looseW q [] ++ (recsOf q).map (·.name) ++ (litsOf q).map (·.1) ++ (clssOf q (looseW q [])).map (·.name)).contains x) = true
  cR : ((clsV q (S' "Relation")).map fun c => (quR.all c.1.contains, msR.map fun x => c.2.lookup x)) = some (true, msR.map fun x => some (defM x))
  cB : ((clsV q (S' "Body")).map fun c => (quB.all c.1.contains, [S' "__init__"].map fun x => c.2.lookup x)) = some (true, [S' "__init__"].map fun x => some (defIn (clsIn top (S' "Body")) x))
theorem fn_walked : ∀ x ∈ fnNames, walked.contains x = true := by decide +kernel
theorem meth_walked : ∀ x ∈ methNames, x ∈ walkedM := by decide +kernel
theorem below_dflt : litsOf? (defM (S' "below")).1.defaults = some [.str (S' "co")] := by kernel_rfl
theorem initB_dflt : litsOf? initB.1.defaults = some [.none, .none] := by kernel_rfl
theorem initB_ne : initB.1.defaults.isEmpty = false := by kernel_rfl
theorem initR_dflt : initR.1.defaults = [] := rfl
theorem nodflt : ([S' "region", S' "parts_below", S' "outlives"].all fun x => (defM x).1.defaults.isEmpty) = true := by decide +kernel
theorem len4b : (argNames (defM (S' "below")).1).length = 4 := by kernel_rfl
theorem ground {q : Program} (Q : QOk q) {XP : (Str → Option Value) → Heap → Prop} {R : WRecords} {w : World} {s₀ : Shared} {mg mb : Str → Option Value} {h : Heap} (G : Ground q [] R XP w s₀ mg mb h) :
    ∃ g : Gl, g.w = w ∧ g.hb = h.hide g.ta ∧ g.mg = mg ∧ IsTab h g.ta ∧ isCodeTable h g.ta ∧ Base g ∧ RegOk g ∧ InitOk g g.mR initR bindsR 2 ∧ InitOk g g.mB initB bindsB 5 := by
  have T := G.T
  have recAt : ∀ x ∈ walked, ∃ d ∈ recsOf q, d.name = x ∧ (d.params, d.body, d.scope) = defIn top x := fun x hx => by
    have e := List.map_inj_left.mp Q.rec_ x hx
    obtain ⟨d, hd, e2⟩ := List.mem_map.mp (lookup_memG e)
    injection e2 with a b
    exact ⟨d, hd, a, b⟩
  obtain ⟨dr, hdr, enr, _⟩ := recAt (S' "regions_in") (List.contains_iff_mem.mp (by decide +kernel))
  obtain ⟨ar, orr, fdr, cr, P, t1, t2, t3, t4, t5, t6⟩ := T.tab dr hdr
  have tb : IsTab h P := t6.2
  obtain ⟨CR, NR, mR, r1, r2, r3, r4⟩ := cls_at G.TD Q.cR
  obtain ⟨CB, NB, mB, b1, b2, b3, b4⟩ := cls_at G.TD Q.cB
  refine ⟨⟨w, h.hide P, mg, CR, CB, mR, mB, P, S' "regions_in" ++ ".<locals>." ++ S' "noted"⟩, rfl, rfl, rfl, tb, t6.isCodeTable, ?_, ?_, ?_, ?_⟩
  · refine ⟨?_, fun x hx a ha => ?_, fun x hx a ha => ?_⟩
    · exact {
        ns := ns_hid tb T.g
        bns := ⟨mb, ns_hid tb T.b, T.builtins⟩
        nolim := let ⟨mc, a, b⟩ := T.nolimit; ⟨mc, ns_hid tb a, b⟩
        free := fun x hx => by
          have e := List.all_eq_true.mp Q.fr x hx
          simp only [List.contains_eq_mem, Bool.not_eq_true', decide_eq_false_iff_not, List.mem_append, not_or] at e
          exact T.free x e.1.1.1.1 e.1.1.1.2 e.1.1.2 e.1.2 e.2
        clsR := ⟨NR, cls_hid tb r2⟩
        clsB := ⟨NB, cls_hid tb b2⟩
        noR := r3
        noB := b3
        fns := fun x hx => by
          obtain ⟨d, hd, en, _⟩ := recAt x (List.contains_iff_mem.mp (fn_walked x (kd_fn hx)))
          obtain ⟨a, o, pm, code, doc, q1, q2, q3, q4⟩ := T.fn d hd
          rw [en] at q1
          exact ⟨a, q1, o, _, hid tb q2 (by rw [q3]; exact fun z => by cases z), q3⟩
        mgR := r1
        mgB := b1
        meths := fun x hx => by
          have hw := meth_walked x (List.contains_iff_mem.mp hx)
          obtain ⟨f, o, pm, cd, doc, dV, q1, q2, q3, q4, q5, q6⟩ := r4 x (List.mem_cons_of_mem _ hw)
          exact ⟨f, q1, o, _, hid tb q2 (by rw [q4]; exact fun z => by cases z), q3, q4⟩ }
    · obtain ⟨d, hd, en, ed⟩ := recAt x hx
      obtain ⟨a', o, pm, code, doc, q1, q2, q3, q4⟩ := T.fn d hd
      rw [en] at q1
      have ha : mg x = some (.ref a) := ha
      rw [ha] at q1; cases q1
      rw [← ed]
      refine ⟨o, _, hid tb q2 (by rw [q3]; exact fun z => by cases z), q3, rfl, rfl, rfl, rfl, rfl, rfl, code_hid tb q4, fun s vs _ hl => .of_eq ?_⟩
      have k := (ok_walked x hx).bind (docDef d.name d.params d.body d.scope pm code doc) vs (by rw [← ed]; rfl) rfl rfl (by rw [← ed]; exact hl)
      rw [← ed] at k
      exact k
    · obtain ⟨f, o, pm, cd, doc, dV, q1, q2, q3, q4, q5, q6⟩ := r4 x (List.mem_cons_of_mem _ hx)
      have ha : mR x = some (.ref a) := ha
      rw [ha] at q1; cases q1
      refine ⟨o, _, hid tb q2 (by rw [q4]; exact fun z => by cases z), q4, rfl, rfl, rfl, rfl, rfl, rfl, code_hid tb q5, fun s vs hk hl => ?_⟩
      rcases q6 with ⟨_, rfl⟩ | ⟨q7, aT, oT, vT, nT, ds, rfl, _, q8, q9, q10, q11, q12⟩
      · exact .of_eq ((ok_walkedM x hx).bind _ vs rfl rfl rfl hl)
      · have hx4 : x = S' "below" := by
          rcases List.mem_append.mp (show x ∈ [S' "region", S' "parts_below", S' "outlives"] ++ [S' "below"] from hx) with z | z
          · exact (q7 (List.isEmpty_iff.mp (List.all_eq_true.mp nodflt x z))).elim
          · exact List.mem_singleton.mp z
        subst hx4
        rw [below_dflt] at q11
        obtain rfl := Option.some.inj q11
        obtain ⟨v0, v1, v2, v3, rfl⟩ := len4 (hl.trans len4b)
        obtain ⟨vl⟩ := vT
        obtain ⟨y, rfl⟩ := rd1 (q12 h)
        exact below_bind rfl rfl rfl (hk _ _ (hid tb q8 (by rw [q10]; exact fun z => by cases z))) q10
  · refine ⟨fun a o fd h1 h2 h3 => ?_, ?_, ?_⟩
    · have h1 : mg (S' "regions_in") = some (.ref a) := h1
      rw [enr] at t1
      rw [h1] at t1; cases t1
      rw [Heap.of_hide h2] at t2; cases t2
      rw [h3] at t3; cases t3
      obtain ⟨d, hd, en, ed⟩ := recAt (S' "regions_in") (List.contains_iff_mem.mp (by decide +kernel))
      obtain ⟨a', o', pm, code, doc, q1, q2, q3, q4⟩ := T.fn d hd
      rw [en, h1] at q1; cases q1
      rw [Heap.of_hide h2] at q2; cases q2
      rw [h3] at q3; cases q3
      refine ⟨cr, t4, ?_, by rw [← en]; rfl⟩
      obtain ⟨⟨oc, vs, e1, e2, e3, e4⟩, _⟩ := t6
      obtain ⟨oc', vs', file, tf, flags, tg, inF, text, tt, op, u1, u2, u3, u4, u5, u6, u7, u8, u9, u10, u11⟩ := t5
      rw [e1] at u1; cases u1
      rw [e3] at u2; cases u2
      exact ⟨oc, vs, file, tf, flags, tg, inF, text, tt, hid tb e1 (by rw [e3]; intro z; injection z with z; subst z; simp at e4), e2, e3, e4, u3, u4, u5, u6, u7, u11⟩
    · obtain ⟨bm, ob, c1, c2, c3, c4, c5, c6⟩ := T.bmain
      refine ⟨bm, ob, c1, c2, ?_, hid tb c3 (by rw [c6]; exact fun z => by cases z), c4, c5, c6⟩
      rintro rfl
      rw [tb] at c3; cases c3; cases c6
    · rintro z
      obtain ⟨o, es, ep, e, d, _⟩ := T.g
      rw [show mainGlobals = P from z, tb] at e
      cases e; cases d
  · obtain ⟨f, o, pm, cd, doc, dV, q1, q2, q3, q4, q5, q6⟩ := r4 (S' "__init__") List.mem_cons_self
    refine ⟨f, o, _, q1, hid tb q2 (by rw [q4]; exact fun z => by cases z), q3, q4, rfl, rfl, rfl, rfl, code_hid tb q5, fun s vs hk hl => ?_⟩
    rcases q6 with ⟨_, rfl⟩ | ⟨q7, _⟩
    · obtain ⟨v0, v1, rfl⟩ := len2 hl
      exact initR_bind rfl rfl rfl
    · exact (q7 initR_dflt).elim
  · obtain ⟨f, o, pm, cd, doc, dV, q1, q2, q3, q4, q5, q6⟩ := b4 (S' "__init__") List.mem_cons_self
    refine ⟨f, o, _, q1, hid tb q2 (by rw [q4]; exact fun z => by cases z), q3, q4, rfl, rfl, rfl, rfl, code_hid tb q5, fun s vs hk hl => ?_⟩
    rcases q6 with ⟨q7, _⟩ | ⟨q7, aT, oT, vT, nT, ds, rfl, _, q8, q9, q10, q11, q12⟩
    · have z := initB_ne
      rw [show initB.1.defaults = [] from q7] at z
      cases z
    · have q11 : litsOf? initB.1.defaults = some ds := q11
      rw [initB_dflt] at q11
      obtain rfl := Option.some.inj q11
      obtain ⟨v0, v1, v2, v3, v4, rfl⟩ : ∃ v0 v1 v2 v3 v4, vs = [v0, v1, v2, v3, v4] := by
        match vs, hl with | [a, b, c, d, e], _ => exact ⟨a, b, c, d, e, rfl⟩
      obtain ⟨vl⟩ := vT
      obtain rfl := rd2 (q12 h)
      exact initB_bind rfl rfl rfl (hk _ _ (hid tb q8 (by rw [q10]; exact fun z => by cases z))) q10
end Mine
end

section
open PySem PySem.W PySem.Calls PyProof.Rows PySem.Challenge
set_option Elab.async false
set_option maxRecDepth 100000
set_option maxHeartbeats 4000000
set_option linter.unusedVariables false
namespace Mine
theorem ints_rep {g : Gl} {sp : Sp} {bad : Addr → Prop} {P : Params} {h : Heap} : ∀ {l : List Int} {vs : List Value}, WellAll P h vs (ofPys (l.map .int)) → RepAll g sp bad h vs (l.map .int)
  | [], vs, w => by
    have w : WellAll P h vs [] := w
    cases w
    exact .nil
  | i :: l, vs, w => by
    have w : WellAll P h vs (.int i :: ofPys (l.map .int)) := w
    cases w with
    | cons a b =>
      cases a with
      | int i t => exact .cons (.int i t) (ints_rep b)
theorem args_law {cl : Str → Option Addr} {P : Params} {h : Heap} {args : List WData} {vals : List Value} {as : List Addr} (hpre : rw_xm0593_01.row.claim.pre args = true) (hlay : WData.layableAll args = true) (hrd : ReadsAllW rw_xm0593_01.row.records cl h vals args as) (hwl : WellAll P h vals args) (hlo : ∀ a ∈ as, (a == sysModules) = false) :
    ∃ (l : List Int) (v : Value), vals = [v] ∧ l.length ≤ 63 ∧ ∃ a vs, v = .ref a ∧ h.get? a = some (lstO vs 0) ∧ WellAll P h vs (ofPys (l.map .int)) := by
  wrow_args hpre hlay hrd hwl hlo
  rename_i l _ _ _ _ _ _ _ b _ _ _ _ w1 _ _ _ hc _
  have w1 : Well P h (.ref b) (.list (ofPys (l.map .int))) := w1
  refine ⟨l, .ref b, rfl, by omega, b, ?_⟩
  cases w1 with
  | list e w => exact ⟨_, rfl, e, w⟩
theorem law_end {q : Program} (Q : QOk q) {XP : (Str → Option Value) → Heap → Prop} {R : WRecords} {w : World} {s₀ s₁ : Shared} {mg mb : Str → Option Value} (G : Ground q [] R XP w s₀ mg mb s₁.heap) {a : Addr} (hmg : mg (S' "law") = some (.ref a)) (hgens : s₁.gens = #[])
    {cl : Str → Option Addr} {mean : ExcName → Option Value} {args : List WData} {vals : List Value} {as : List Addr} (hpre : rw_xm0593_01.row.claim.pre args = true) (hlay : WData.layableAll args = true) (hrd : ReadsAllW rw_xm0593_01.row.records cl s₁.heap vals args as) (hwl : WellAll w.params s₁.heap vals args) (hlo : ∀ a ∈ as, (a == sysModules) = false) :
    wpAny (model pw w) callerA (call (.ref a) vals) (fun v s' => GoodWG rw_xm0593_01.row.claim cl mean args s₁ (.ok (.ret v)) s') (fun e s' => GoodWG rw_xm0593_01.row.claim cl mean args s₁ (.error e) s') s₁ := by
  obtain ⟨l, v, rfl, hl, b, vs, rfl, eb, hv⟩ := args_law hpre hlay hrd hwl hlo
  obtain ⟨g, g1, g2, g3, g4, g5, B, RO, IR, IB⟩ := ground Q G
  have N := man_of B RO IB
  subst g1
  have W0 : W g (sp0 g) (fun b => b = g.ta) s₁.heap := by
    refine ⟨fun b o e => Heap.of_hide (by rw [← g2]; exact e), fun b e => ⟨_, e ▸ g4⟩, ?_, fun b e => ?_, fun b e => (by cases e), ⟨fun b e => (by cases e), rfl, fun e => (by cases e), fun e => (by cases e), fun e => (by cases e)⟩⟩
    · rintro b (e | e | e | e)
      · cases e
      · cases e
      · cases e
      · exact (Option.some.inj e).symm
    · have e : b = g.ta := e
      rw [g2, e]
      exact Heap.hide_self _ _
  have m0 : MuOk g (sp0 g) (fun b => b = g.ta) s₁.heap ⟨[], []⟩ := ⟨fun b e => (by cases e), fun b e => (by cases e), fun b e => (by cases e), fun b e => by
    obtain rfl := Option.some.inj e
    exact ⟨#[], g4, .inl rfl⟩⟩
  have nb : ¬ b = g.ta := fun z => by rw [z, g4] at eb; cases eb
  have rv : Rep g (sp0 g) (fun b => b = g.ta) s₁.heap (.ref b) (.lst (l.map .int)) := .lst eb nb (ints_rep hv)
  have Rm : Room callerA 18 := ⟨by decide +kernel, by decide +kernel, rfl⟩
  refine wpAny_mono (law_call B N IR (g3 ▸ hmg) W0 m0 hl rv Rm) (fun r s' hq => ?_) fun _ _ x => x.elim
  obtain ⟨rfl, h', tk, rfl, hk, ht⟩ := hq
  obtain ⟨ps, e, _⟩ := ht
  refine ⟨.inl ⟨_, .bool true, [], rfl, fun _ => rfl, .bool true, ?_, fun _ => ⟨List.nodup_nil, fun _ z => by cases z⟩⟩, ⟨fun b o eo => ?_, fun b o eo => ?_⟩, rfl, hgens ▸ .empty⟩
  · exact postW_of rfl rfl (same_self _)
  · by_cases z : b = g.ta
    · subst z
      rw [g4] at eo; cases eo
      exact .inr (.inl ⟨g5, rfl, #[], ps, rfl, by rw [e]; simp⟩)
    · exact .inl (hk b o eo z)
  · by_cases z : b = g.ta
    · exact ⟨_, z ▸ e⟩
    · exact ⟨o, hk b o eo z⟩
end Mine
end

open PySem PySem.W PyProof.Rows
set_option Elab.async false
set_option maxRecDepth 100000 in
set_option maxHeartbeats 8000000 in
theorem PySem.Challenge.cw_xm0593_01_holds : PySem.Challenge.rw_xm0593_01.Holds := by
  w_on
  refine holds_law ?hs fun said => ?_
  case hs =>
    unfold OpenLaw.wellSaid OpenRow.wellSaid OpenRow.partSaid looksOpen
    repeat' (with_reducible refine look_both ?_ ?_)
    all_goals decide +kernel
  o_head (Hook.none)
  (case hw => w_witness2)
  intro w s₀ s₁ mg mb G Y a o pm cd doc dV kV ho hd hcd hdf hmg hgens args vals as hpre hlay hrd hwell hsys
  refine Mine.law_end ⟨?_, ?_, ?_, ?_⟩ G hmg hgens hpre hlay hrd hwell hsys
  · kernel_rfl
  · kernel_rfl
  · kernel_rfl
  · kernel_rfl
