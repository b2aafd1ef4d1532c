import PyProof.Rows.All
import Wide.All
import OpenK.AllK
import Wide.FinOn
import PySem.Challenge.RW_zu0018_01
open PySem PySem.W PyProof.Rows PySem.Calls
set_option Elab.async false
set_option linter.all false
set_option maxHeartbeats 4000000
set_option maxRecDepth 10000
set_option genSizeOfSpec false
set_option bootstrap.genMatcherCode false
set_option compiler.extract_closed false
namespace Mine
-- Base0
def nd (k : Lean.Name) (x : List Lean.Syntax) : Lean.Syntax := .node .none k x.toArray
def sq (t : Lean.Syntax) : Lean.Syntax := nd `Lean.Parser.Tactic.tacticSeq [nd `Lean.Parser.Tactic.tacticSeq1Indented [nd `null [t]]]
def fst (x : List Lean.Syntax) : Lean.Syntax := sq (nd `Lean.Parser.Tactic.first [.atom .none "first", nd `null (x.map fun t => nd `group [.atom .none "|", t])])
def refT (x : Lean.Syntax) : Lean.Syntax := sq (nd `Lean.Parser.Tactic.withUnfoldingAll [.atom .none "with_unfolding_all", sq (nd `Lean.Parser.Tactic.exact [.atom .none "exact", nd `Lean.Parser.Term.app [Lean.mkIdent `Eq.refl, nd `null [x]]])])
def krK : Lean.Syntax := sq (nd `PyProof.Rows.«tacticKernel_rfl!» [.atom .none "kernel_rfl!"])
def trT : Lean.Syntax := fst [refT (Lean.mkIdent `true), krK]
def flT : Lean.Syntax := fst [refT (Lean.mkIdent `false), krK]
def krT : Lean.Syntax := fst [sq (nd `Lean.Parser.Tactic.withUnfoldingAll [.atom .none "with_unfolding_all", sq (nd `Lean.Parser.Tactic.exact [.atom .none "exact", Lean.mkIdent `rfl])]), krK]
def krP : Lean.Syntax := sq (nd `tacticKernel_rfl [.atom .none "kernel_rfl"])
def dcT : Lean.Syntax := sq (nd `Lean.Parser.Tactic.decide [.atom .none "decide", nd `Lean.Parser.Tactic.optConfig [nd `null []]])
def dcK : Lean.Syntax := sq (nd `Lean.Parser.Tactic.decide [.atom .none "decide", nd `Lean.Parser.Tactic.optConfig [nd `null [nd `Lean.Parser.Tactic.configItem [nd `Lean.Parser.Tactic.posConfigItem [.atom .none "+", (Lean.mkIdent `kernel).raw]]]]])
def asK : Lean.Syntax := fst [sq (nd `Lean.Parser.Tactic.assumption [.atom .none "assumption"]), krT]
def rfT : Lean.Syntax := sq (nd `Lean.Parser.Tactic.tacticRfl [.atom .none "rfl"])
@[elab_as_elim] theorem rwl {α : Sort u} {a b : α} {P : α → Prop} (h : a = b) (g : P b) : P a := h ▸ g
@[elab_as_elim] theorem rwr {α : Sort u} {a b : α} {P : α → Prop} (h : b = a) (g : P b) : P a := h ▸ g
/- A rewriting told by rwl and rwr where they serve: their terms are smaller. -/
def rwS (s : Lean.Syntax) : Lean.Syntax :=
  let t (r : Lean.Syntax) := nd `Lean.Parser.Tactic.refine [.atom .none "refine", nd `Lean.Parser.Term.app [Lean.mkIdent (if r[0].getNumArgs == 0 then `Mine.rwl else `Mine.rwr), nd `null [r[1], nd `Lean.Parser.Term.syntheticHole [.atom .none "?", .atom .none "_"]]]]
  let w (t : Lean.Syntax) := sq (nd `Lean.Parser.Tactic.withReducible [.atom .none "with_reducible", sq t])
  let x := s[1].getSepArgs.toList.map fun r => (fst [w (t r), sq (nd `Lean.Parser.Tactic.rewriteSeq [.atom .none "rewrite", nd `Lean.Parser.Tactic.optConfig [nd `null []], nd `Lean.Parser.Tactic.rwRuleSeq [.atom .none "[", nd `null [r], .atom .none "]"], nd `null []])])[0][0][0]
  let x := x ++ [nd `Lean.Parser.Tactic.tacticTry_ [.atom .none "try", w (nd `Lean.Parser.Tactic.tacticRfl [.atom .none "rfl"])]]
  nd `Lean.Parser.Tactic.paren [.atom .none "(", nd `Lean.Parser.Tactic.tacticSeq [nd `Lean.Parser.Tactic.tacticSeq1Indented [nd `null (x.intersperse (.atom .none ";"))]], .atom .none ")"]
set_option tactic.hygienic false
local macro_rules | `(tactic| cases $h:ident) => `(tactic| first | contradiction | (have hz := Option.some.inj $h; subst hz))
local macro_rules | `(tactic| rw $s:rwRuleSeq) => pure (rwS s)
-- Base1

/- An abstract value. -/
inductive AV where
  | dat (d : PyData)
  | ref (a : Addr)
  | val (v : Value)
  | flat (V T : AV)
  | funs (F M : AV)
  | rng (a b : Int)

/- What an owned (mutable) object holds. -/
inductive OB where
  | lst (xs : List PyData)
  | dI (kvs : List (Int × AV))
  | dS (kvs : List (Str × AV))
  | dT (kvs : List (PyData × Int))

structure Cx where
  prog : Program
  w : World
  h0 : Heap
  os0 : OsState
  cFlat : Addr
  cFun : Addr
  fn : Str → Addr

noncomputable def flatNames : List Str := ["vars", "tolds", "goal", "shown"]
noncomputable def funsNames : List Str := ["flat", "made", "partial"]

/- x is an object of C whose dict is dx, with the attributes mA, none but the named. -/
inductive InstOf (h : Heap) (S : List Addr) (C x : Addr) (names : List Str) (mA : Str → Option Value) : Prop
  | mk (dx : Addr) : h.get? x = some ⟨.ref C, some dx, .plain, #[]⟩ → h.Ns1 dx mA → dx ∉ S → (∀ n, n ∉ names → mA n = none) → InstOf h S C x names mA

mutual
/- A value that stands for data, its tuples plain. -/
inductive Rd (h : Heap) : Value → PyData → List Addr → Prop
  | none : Rd h .none .none []
  | bool (b) : Rd h (.bool b) (.bool b) []
  | int (i t) : Rd h (.int i t) (.int i) []
  | str (x t) : Rd h (.str x t) (.str x) []
  | list {a o vs n xs as} : h.get? a = some o → o.cls = .type "list" → o.data = .seq vs n → RdAll h vs.toList xs as → o.dict = none → Rd h (.ref a) (.list xs) (a :: as)
  | tuple {a o vs n xs as} : h.get? a = some o → o.cls = .type "tuple" → o.data = .seq vs n → RdAll h vs.toList xs as → o.dict = none → Rd h (.ref a) (.tuple xs) as
inductive RdAll (h : Heap) : List Value → List PyData → List Addr → Prop
  | nil : RdAll h [] [] []
  | cons {v vs d ds as bs} : Rd h v d as → RdAll h vs ds bs → RdAll h (v :: vs) (d :: ds) (as ++ bs)
end
theorem Rd.reads {h : Heap} {v : Value} {d : PyData} {as : List Addr} (r : Rd h v d as) : Reads h v d as :=
  Rd.rec (motive_1 := fun v d as J => Reads h v d as) (motive_2 := fun v d as J => ReadsAll h v d as) .none .bool .int .str (fun a b c J J e => .list a b c e) (fun a b c J J e => .tuple a b c e) .nil (fun J J a b => .cons a b) r
theorem RdAll.reads {h : Heap} {v : List Value} {d : List PyData} {as : List Addr} (r : RdAll h v d as) : ReadsAll h v d as :=
  RdAll.rec (motive_1 := fun v d as J => Reads h v d as) (motive_2 := fun v d as J => ReadsAll h v d as) .none .bool .int .str (fun a b c J J e => .list a b c e) (fun a b c J J e => .tuple a b c e) .nil (fun J J a b => .cons a b) r

inductive RdTup (h : Heap) (xs : List PyData) (as : List Addr) (v : Value) : Prop
  | mk (a : Addr) (o : Obj) (vs : Array Value) (n : Nat) : v = .ref a → h.get? a = some o → o.cls = .type "tuple" → o.data = .seq vs n → RdAll h vs.toList xs as → o.dict = none → RdTup h xs as v
inductive RdLst (h : Heap) (xs : List PyData) (as : List Addr) (v : Value) : Prop
  | mk (a : Addr) (o : Obj) (vs : Array Value) (n : Nat) (bs : List Addr) : v = .ref a → as = a :: bs → h.get? a = some o → o.cls = .type "list" → o.data = .seq vs n → RdAll h vs.toList xs bs → o.dict = none → RdLst h xs as v
theorem rd_inv {h : Heap} {v : Value} {d : PyData} {as : List Addr} (r : Rd h v d as) : match d with | .tuple xs => RdTup h xs as v | .list xs => RdLst h xs as v | .int i => ∃ t, v = .int i t | .str x => ∃ t, v = .str x t | .bool b => v = .bool b | _ => True :=
  Rd.rec (motive_1 := fun v d as J => match d with | .tuple xs => RdTup h xs as v | .list xs => RdLst h xs as v | .int i => ∃ t, v = .int i t | .str x => ∃ t, v = .str x t | .bool b => v = .bool b | _ => True) (motive_2 := fun J J J J => True)
    trivial (fun J => rfl) (fun J t => ⟨t, rfl⟩) (fun J t => ⟨t, rfl⟩) (fun a b c d e J => ⟨_, _, _, _, _, rfl, rfl, a, b, c, d, e⟩) (fun a b c d e J => ⟨_, _, _, _, rfl, a, b, c, d, e⟩) trivial (fun J J J J => trivial) r
theorem rd_tup {h : Heap} {v : Value} {xs : List PyData} {as : List Addr} (r : Rd h v (.tuple xs) as) : RdTup h xs as v := rd_inv r
theorem rd_lst {h : Heap} {v : Value} {xs : List PyData} {as : List Addr} (r : Rd h v (.list xs) as) : RdLst h xs as v := rd_inv r
theorem rd_int {h : Heap} {v : Value} {i : Int} {as : List Addr} (r : Rd h v (.int i) as) : ∃ t, v = .int i t := rd_inv r

inductive RdC (h : Heap) (d : PyData) (ds : List PyData) (vs : List Value) : Prop
  | mk (v : Value) (us : List Value) (a b : List Addr) : vs = v :: us → Rd h v d a → RdAll h us ds b → RdC h d ds vs
theorem rdAll_inv {h : Heap} {vs : List Value} {ds : List PyData} {as : List Addr} (r : RdAll h vs ds as) : match ds with | [] => vs = [] | d :: ds => RdC h d ds vs :=
  RdAll.rec (motive_1 := fun J J J J => True) (motive_2 := fun vs ds J J => match ds with | [] => vs = [] | d :: ds => RdC h d ds vs) trivial (fun J => trivial) (fun J J => trivial) (fun J J => trivial) (fun J J J J J J => trivial) (fun J J J J J J => trivial) rfl (fun p q J J => ⟨_, _, _, _, rfl, p, q⟩) r
theorem rdAll_cons {h : Heap} {vs : List Value} {d : PyData} {ds : List PyData} {as : List Addr} (r : RdAll h vs (d :: ds) as) : RdC h d ds vs := rdAll_inv r
theorem rdAll_nil {h : Heap} {vs : List Value} {as : List Addr} (r : RdAll h vs [] as) : vs = [] := rdAll_inv r
theorem rdAll_ints2 {h : Heap} {vs : List Value} {i j : Int} {as : List Addr} (r : RdAll h vs [.int i, .int j] as) : ∃ t u, vs = [.int i t, .int j u] := by
  obtain ⟨v, us, J, J, rfl, p, q⟩ := rdAll_cons r
  obtain ⟨w, ws, J, J, rfl, p', q'⟩ := rdAll_cons q
  obtain ⟨t, rfl⟩ := rd_int p
  obtain ⟨u, rfl⟩ := rd_int p'
  have e := rdAll_nil q'
  exact ⟨t, u, by rw [e]⟩

inductive RdS (h : Heap) (S : List Addr) (d : PyData) (v : Value) : Prop
  | mk (as : List Addr) : Rd h v d as → (∀ a ∈ as, a ∉ S) → RdS h S d v
inductive Rp2 (h : Heap) (S : List Addr) (C : Addr) (names : List Str) (n1 n2 : Str) (P1 P2 : Value → Prop) (v : Value) : Prop
  | mk (x : Addr) (mA : Str → Option Value) (v1 v2 : Value) : v = .ref x → InstOf h S C x names mA → mA n1 = some v1 → mA n2 = some v2 → P1 v1 → P2 v2 → Rp2 h S C names n1 n2 P1 P2 v
inductive RpR (h : Heap) (S : List Addr) (a b : Int) (v : Value) : Prop
  | mk (r : Addr) (t u w : Tok) : v = .ref r → r ∉ S → IsRange h r a b 1 t u w → RpR h S a b v
noncomputable def Rp (c : Cx) (h : Heap) (S : List Addr) : AV → Value → Prop
  | .dat d, v => RdS h S d v
  | .ref a, v => v = .ref a
  | .val u, v => v = u
  | .flat V T, v => Rp2 h S c.cFlat flatNames "vars" "tolds" (Rp c h S V) (Rp c h S T) v
  | .funs F M, v => Rp2 h S c.cFun funsNames "flat" "made" (Rp c h S F) (Rp c h S M) v
  | .rng a b, v => RpR h S a b v

noncomputable def Mut (o : Obj) : Prop := o.cls = .type "list" ∨ (∃ es ep, o.data = .dict es ep) ∨ (∃ v, o.data = .cell v) ∨ ∃ vs, o.data = .fields vs

inductive MutAt (h : Heap) (a : Addr) : Prop
  | mk (o : Obj) : h.get? a = some o → Mut o → MutAt h a

/- h' keeps of h all that is not mutable or not in S; what is new in S' was not there. -/
structure Stays (h : Heap) (S : List Addr) (h' : Heap) (S' : List Addr) : Prop where
  keep : ∀ a o, h.get? a = some o → (a ∉ S ∨ ¬ Mut o) → h'.get? a = some o
  new : ∀ a ∈ S', a ∈ S ∨ h.get? a = none

theorem Stays.refl (h : Heap) (S : List Addr) : Stays h S h S := ⟨fun J J e J => e, fun J h => .inl h⟩

theorem Stays.not {h h' S S'} (x : Stays h S h' S') {a : Addr} {o : Obj} (e : h.get? a = some o) (n : a ∉ S) : a ∉ S' := fun m => by
  rcases x.new a m with q | q
  · exact n q
  · rw [e] at q; cases q

theorem notMut_tuple {o : Obj} {vs n} (hc : o.cls = .type "tuple") (hd : o.data = .seq vs n) : ¬ Mut o := by
  rintro (q | ⟨_, _, q⟩ | ⟨_, q⟩ | ⟨_, q⟩)
  · rw [hc] at q; revert q; decide
  · rw [hd] at q; cases q
  · rw [hd] at q; cases q
  · rw [hd] at q; cases q
theorem notMut_inst {C dx : Addr} : ¬ Mut ⟨.ref C, some dx, .plain, #[]⟩ := by
  rintro (q | ⟨_, _, q⟩ | ⟨_, q⟩ | ⟨_, q⟩) <;> cases q

theorem reads_stays {h h' S S'} (x : Stays h S h' S') {v : Value} {d : PyData} {as : List Addr} (r : Reads h v d as) : (∀ a ∈ as, a ∉ S) → Reads h' v d as :=
  Reads.rec (motive_1 := fun v d as J => (∀ a ∈ as, a ∉ S) → Reads h' v d as) (motive_2 := fun v d as J => (∀ a ∈ as, a ∉ S) → ReadsAll h' v d as)
    (fun J => .none) (fun b J => .bool b) (fun i t J => .int i t) (fun i t J => .str i t)
    (fun ho hc hd J ih n => .list (x.keep _ _ ho (.inl (n _ (.head _)))) hc hd (ih fun a m => n a (.tail _ m)))
    (fun ho hc hd J ih n => .tuple (x.keep _ _ ho (.inr (notMut_tuple hc hd))) hc hd (ih n))
    (fun ho hc hd J J i1 i2 n => .dict (x.keep _ _ ho (.inl (n _ (.head _)))) hc hd (i1 fun a m => n a (.tail _ (List.mem_append_left _ m))) (i2 fun a m => n a (.tail _ (List.mem_append_right _ m))))
    (fun J => .nil) (fun J J i1 i2 n => .cons (i1 fun a m => n a (List.mem_append_left _ m)) (i2 fun a m => n a (List.mem_append_right _ m))) r
theorem forall_app {α : Type} {P : α → Prop} {l r : List α} (x : ∀ a ∈ l, P a) (y : ∀ a ∈ r, P a) : ∀ a ∈ l ++ r, P a := List.forall_mem_append.mpr ⟨x, y⟩
theorem forall_cons {α : Type} {P : α → Prop} {b : α} {r : List α} (x : P b) (y : ∀ a ∈ r, P a) : ∀ a ∈ b :: r, P a := List.forall_mem_cons.mpr ⟨x, y⟩
theorem rd_there {h : Heap} {v d as} (r : Rd h v d as) : ∀ a ∈ as, ∃ o, h.get? a = some o :=
  Rd.rec (motive_1 := fun J J as J => ∀ a ∈ as, ∃ o, h.get? a = some o) (motive_2 := fun J J as J => ∀ a ∈ as, ∃ o, h.get? a = some o)
    (fun J m => nomatch m) (fun J J m => nomatch m) (fun J J J m => nomatch m) (fun J J J m => nomatch m) (fun ho J J J J i => forall_cons ⟨_, ho⟩ i) (fun J J J J J i => i) (fun J m => nomatch m) (fun J J i j => forall_app i j) r
theorem rdAll_there {h : Heap} {v d as} (r : RdAll h v d as) : ∀ a ∈ as, ∃ o, h.get? a = some o :=
  RdAll.rec (motive_1 := fun J J as J => ∀ a ∈ as, ∃ o, h.get? a = some o) (motive_2 := fun J J as J => ∀ a ∈ as, ∃ o, h.get? a = some o)
    (fun J m => nomatch m) (fun J J m => nomatch m) (fun J J J m => nomatch m) (fun J J J m => nomatch m) (fun ho J J J J i => forall_cons ⟨_, ho⟩ i) (fun J J J J J i => i) (fun J m => nomatch m) (fun J J i j => forall_app i j) r
theorem rd_stays {h h' S S'} (x : Stays h S h' S') {v : Value} {d : PyData} {as : List Addr} (r : Rd h v d as) : (∀ a ∈ as, a ∉ S) → Rd h' v d as :=
  Rd.rec (motive_1 := fun v d as J => (∀ a ∈ as, a ∉ S) → Rd h' v d as) (motive_2 := fun v d as J => (∀ a ∈ as, a ∉ S) → RdAll h' v d as)
    (fun J => .none) (fun b J => .bool b) (fun i t J => .int i t) (fun i t J => .str i t)
    (fun ho hc hd J nd ih n => .list (x.keep _ _ ho (.inl (n _ (.head _)))) hc hd (ih fun a m => n a (.tail _ m)) nd)
    (fun ho hc hd J nd ih n => .tuple (x.keep _ _ ho (.inr (notMut_tuple hc hd))) hc hd (ih n) nd)
    (fun J => .nil) (fun J J i1 i2 n => .cons (i1 fun a m => n a (List.mem_append_left _ m)) (i2 fun a m => n a (List.mem_append_right _ m))) r
theorem rdAll_stays {h h' S S'} (x : Stays h S h' S') {v : List Value} {d : List PyData} {as : List Addr} (r : RdAll h v d as) : (∀ a ∈ as, a ∉ S) → RdAll h' v d as :=
  RdAll.rec (motive_1 := fun v d as J => (∀ a ∈ as, a ∉ S) → Rd h' v d as) (motive_2 := fun v d as J => (∀ a ∈ as, a ∉ S) → RdAll h' v d as)
    (fun J => .none) (fun b J => .bool b) (fun i t J => .int i t) (fun i t J => .str i t)
    (fun ho hc hd J nd ih n => .list (x.keep _ _ ho (.inl (n _ (.head _)))) hc hd (ih fun a m => n a (.tail _ m)) nd)
    (fun ho hc hd J nd ih n => .tuple (x.keep _ _ ho (.inr (notMut_tuple hc hd))) hc hd (ih n) nd)
    (fun J => .nil) (fun J J i1 i2 n => .cons (i1 fun a m => n a (List.mem_append_left _ m)) (i2 fun a m => n a (List.mem_append_right _ m))) r

theorem nsn {α : Type} {x : Option α} {a : α} (e : x = some a) (n : x = none) : False := by rw [n] at e; cases e
theorem InstOf.stays {h h' S S'} (x : Stays h S h' S') {C y names mA} (i : InstOf h S C y names mA) : InstOf h' S' C y names mA := by
  obtain ⟨dx, hx, hd, nd, ho⟩ := i
  refine ⟨dx, x.keep _ _ hx (.inr notMut_inst), hd.at fun o e => x.keep _ _ e (.inl nd), ?_, ho⟩
  obtain ⟨J, J, J, e, J⟩ := hd
  exact x.not e nd
theorem Rp2.stays {h h' S S'} (x : Stays h S h' S') {C names n1 n2 v} {P1 P2 R1 R2 : Value → Prop} (f : ∀ v, P1 v → R1 v) (g : ∀ v, P2 v → R2 v) (r : Rp2 h S C names n1 n2 P1 P2 v) : Rp2 h' S' C names n1 n2 R1 R2 v := by
  obtain ⟨y, mA, v1, v2, e, i, h1, h2, h3, h4⟩ := r
  exact ⟨y, mA, v1, v2, e, i.stays x, h1, h2, f _ h3, g _ h4⟩
theorem RdS.stays {h h' S S'} (x : Stays h S h' S') {d v} (r : RdS h S d v) : RdS h' S' d v := by
  obtain ⟨as, r, n⟩ := r
  exact ⟨as, rd_stays x r n, fun a ha => (rd_there r a ha).elim fun J e => x.not e (n a ha)⟩
theorem RpR.stays {h h' S S'} (x : Stays h S h' S') {a b v} (r : RpR h S a b v) : RpR h' S' a b v := by
  obtain ⟨r, t, u, w, e, n, hr⟩ := r
  exact ⟨r, t, u, w, e, x.not hr n, x.keep _ _ hr (.inl n)⟩
theorem Rp.stays {c : Cx} {h h' S S'} (x : Stays h S h' S') {y : AV} : ∀ {v : Value}, Rp c h S y v → Rp c h' S' y v :=
  AV.rec (motive := fun y => ∀ {v : Value}, Rp c h S y v → Rp c h' S' y v) (fun J {J} r => RdS.stays x r) (fun J {J} r => r) (fun J {J} r => r) (fun J J i j {J} r => Rp2.stays x (fun J z => i z) (fun J z => j z) r) (fun J J i j {J} r => Rp2.stays x (fun J z => i z) (fun J z => j z) r) (fun J J {J} r => RpR.stays x r) y

theorem Rp.sub {c : Cx} {h S S'} (x : ∀ a ∈ S', a ∈ S) : ∀ {y : AV} {v : Value}, Rp c h S y v → Rp c h S' y v :=
  fun r => r.stays ⟨fun J J e J => e, fun a m => .inl (x a m)⟩

theorem Stays.trans {h h' h'' S S' S''} (x : Stays h S h' S') (y : Stays h' S' h'' S'') : Stays h S h'' S'' where
  keep := fun a o e n => y.keep a o (x.keep a o e n) (by
    rcases n with n | n
    · exact .inl (x.not e n)
    · exact .inr n)
  new := fun a m => by
    rcases y.new a m with q | q
    · exact x.new a q
    · cases e : h.get? a with
      | none => exact .inr rfl
      | some o =>
        by_cases hm : a ∈ S
        · exact .inl hm
        · rw [x.keep a o e (.inl hm)] at q; cases q

-- Key1

/- The keys of «made»: ints, strs, tuples of them, at most n deep. -/
noncomputable def kOk : Nat → PyData → Bool
  | _, .int _ => true
  | _, .str x => PyData.strOk x
  | n + 1, .tuple xs => xs.all (kOk n)
  | _, _ => false

noncomputable def hashD (w : World) : Nat → PyData → Int
  | _, .int i => hashInt i
  | _, .str x => hashStr w x
  | n + 1, .tuple xs => reduceHash (Builtin.Tuple.tupleHashOf (xs.map (hashD w n)))
  | _, _ => 0

noncomputable def drawsD : Nat → PyData → Nat
  | _, .int _ => 1
  | _, .str _ => 1
  | n + 1, .tuple xs => (xs.map (drawsD n)).sum + 1
  | _, _ => 0

inductive KeyD : Nat → PyData → Prop
  | int (n i) : KeyD n (.int i)
  | str (n x) : PyData.strOk x = true → KeyD n (.str x)
  | tuple {n xs} : (∀ x ∈ xs, KeyD n x) → KeyD (n + 1) (.tuple xs)
theorem keyD_of (n : Nat) : ∀ d, kOk n d = true → KeyD n d := by
  induction n with
  | zero => intro d h; cases d with
    | int i => exact .int _ _
    | str x => exact .str _ _ h
    | _ => cases h
  | succ n ih => intro d h; cases d with
    | int i => exact .int _ _
    | str x => exact .str _ _ h
    | tuple xs => exact .tuple fun x m => ih x (List.all_eq_true.mp h x m)
    | _ => cases h
theorem lay_all {n : Nat} : ∀ xs : List PyData, (∀ x ∈ xs, x.canLay0 = true ∧ x.depth ≤ n) → PyData.canLayAll0 xs = true ∧ PyData.depthAll xs ≤ n := by
  intro xs
  induction xs with
  | nil => intro J; exact ⟨by simp only [PyData.canLayAll0], by simp only [PyData.depthAll]; exact Nat.zero_le _⟩
  | cons x r ih =>
    intro h
    have a := h x (.head _)
    have p := ih fun y hy => h y (.tail _ hy)
    exact ⟨by simp only [PyData.canLayAll0, a.1, p.1, Bool.and_self], by simp only [PyData.depthAll]; exact Nat.max_le.mpr ⟨a.2, p.2⟩⟩
theorem keyD_lay {n : Nat} {d : PyData} (h : KeyD n d) : d.canLay0 = true ∧ d.depth ≤ n := by
  induction h with
  | int n i => exact ⟨by simp only [PyData.canLay0], by simp only [PyData.depth]; exact Nat.zero_le _⟩
  | str n x h => exact ⟨by simpa only [PyData.canLay0] using h, by simp only [PyData.depth]; exact Nat.zero_le _⟩
  | tuple J ih =>
    have := lay_all _ ih
    exact ⟨by simpa only [PyData.canLay0] using this.1, by simp only [PyData.depth]; lia⟩
theorem kOk_lay (n : Nat) (d : PyData) (h : kOk n d = true) : d.canLay0 = true ∧ d.depth ≤ n := keyD_lay (keyD_of n d h)
theorem eqv_all : ∀ (xs ys : List PyData), (∀ x ∈ xs, ∀ y ∈ ys, PyData.eqv x y = true ↔ x = y) → (PyData.eqvAll xs ys = true ↔ xs = ys) := by
  intro xs
  induction xs with
  | nil => intro ys J; cases ys <;> simp [PyData.eqvAll]
  | cons x r ih =>
    intro ys h
    cases ys with
    | nil => simp [PyData.eqvAll]
    | cons y t => simp only [PyData.eqvAll, Bool.and_eq_true, h x (.head _) y (.head _), ih t fun a m b m' => h a (.tail _ m) b (.tail _ m'), List.cons.injEq]
theorem keyD_eqv {n : Nat} {d : PyData} (h : KeyD n d) : ∀ {m : Nat} {e : PyData}, KeyD m e → (PyData.eqv d e = true ↔ d = e) := by
  induction h with
  | int n i => intro m e h; cases h with | _ => simp [PyData.eqv]
  | str n i => intro m e h; cases h with | _ => simp [PyData.eqv]
  | tuple J ih =>
    intro m e h
    cases h with
    | int => simp [PyData.eqv]
    | str => simp [PyData.eqv]
    | tuple h' => simpa only [PyData.eqv, PyData.tuple.injEq] using eqv_all _ _ fun x m y m' => ih x m (h' y m')
inductive ReadsT (h : Heap) (xs : List PyData) (as : List Addr) (v : Value) : Prop
  | mk (a : Addr) (o : Obj) (vs : Array Value) (n : Nat) : v = .ref a → h.get? a = some o → o.cls = .type "tuple" → o.data = .seq vs n → ReadsAll h vs.toList xs as → ReadsT h xs as v
theorem reads_inv {h : Heap} {v : Value} {d : PyData} {as : List Addr} (r : Reads h v d as) : match d with | .int i => ∃ t, v = .int i t | .str x => ∃ t, v = .str x t | .tuple xs => ReadsT h xs as v | _ => True :=
  Reads.rec (motive_1 := fun v d as J => match d with | .int i => ∃ t, v = .int i t | .str x => ∃ t, v = .str x t | .tuple xs => ReadsT h xs as v | _ => True) (motive_2 := fun J J J J => True)
    trivial (fun J => trivial) (fun J t => ⟨t, rfl⟩) (fun J t => ⟨t, rfl⟩) (fun J J J J J => trivial) (fun a b c d J => ⟨_, _, _, _, rfl, a, b, c, d⟩) (fun J J J J J J J => trivial) trivial (fun J J J J => trivial) r
inductive ReadsC (h : Heap) (v : Value) (vs : List Value) (ds : List PyData) : Prop
  | mk (d : PyData) (es : List PyData) (a b : List Addr) : ds = d :: es → Reads h v d a → ReadsAll h vs es b → ReadsC h v vs ds
theorem readsAll_inv {h : Heap} {vs : List Value} {ds : List PyData} {as : List Addr} (r : ReadsAll h vs ds as) : match vs with | [] => ds = [] | v :: vs => ReadsC h v vs ds :=
  ReadsAll.rec (motive_1 := fun J J J J => True) (motive_2 := fun vs ds J J => match vs with | [] => ds = [] | v :: vs => ReadsC h v vs ds)
    trivial (fun J => trivial) (fun J J => trivial) (fun J J => trivial) (fun J J J J J => trivial) (fun J J J J J => trivial) (fun J J J J J J J => trivial) rfl (fun p q J J => ⟨_, _, _, _, rfl, p, q⟩) r

section
variable {prog : Program} {w : World}

inductive HashI (w : World) (n : Nat) (s : Shared) (ks : List PyData) (rest : List Value) (b : Array Int) (s' : Shared) : Prop
  | mk (done left : List PyData) (as' : List Addr) : ks = done ++ left → ReadsAll s.heap rest left as' → b.toList = done.map (hashD w n) → s' = { s with toks := s.toks + (done.map (drawsD n)).sum } → HashI w n s ks rest b s'
theorem keyD_hash {n : Nat} {d : PyData} (hk : KeyD n d) : ∀ {A : Around} {E : Value → Shared → Prop} {s : Shared} {v : Value} {as : List Addr} {Q : Int → Shared → Prop}, A.units + n < cLine → Reads s.heap v d as →
    Q (hashD w n d) { s with toks := s.toks + drawsD n d } → wpAny (model prog w) A (pyHash v) Q E s := by
  induction hk with
  | int n i =>
    intro A E s v as Q J r h
    obtain ⟨t, rfl⟩ := reads_inv r
    exact wpAny_pyHash_int ((show hashD w n (.int i) = hashInt i by cases n <;> rfl) ▸ (show drawsD n (.int i) = 1 by cases n <;> rfl) ▸ h)
  | str n i =>
    intro A E s v as Q J r h
    obtain ⟨t, rfl⟩ := reads_inv r
    exact wpAny_pyHash_str ((show hashD w n (.str i) = hashStr w i by cases n <;> rfl) ▸ (show drawsD n (.str i) = 1 by cases n <;> rfl) ▸ h)
  | @tuple n ks hks ih =>
    intro A E s v as Q hu r h
    obtain ⟨a, o, items, m, rfl, ho, hc, hd, hi⟩ := reads_inv r
    have hT : s.TypeIs (.ref a) "tuple" := ⟨o, ho, hc⟩
    have hu1 : A.units < cLine := by lia
    have hu2 : A.in1.units + n < cLine := by show A.units + 1 + n < cLine; lia
    unfold pyHash
    first | unfold pyHashByItsType | skip
    first | refine wpAny_bind (wpAny_cRoomFor_or (.inr hu1) ?_) | skip
    refine wpAny_bind (wpAny_specialOf hT F.slot_tuple_hash.lookup ?_)
    show wpAny _ _ (if (some (Value.builtin "tuple.__hash__") == some Value.none) = true then _ else _) Q E s
    rw [if_neg (by rw [beq_builtin_none]; exact Bool.false_ne_true)]
    refine wpAny_bind (wpAny_specialOf hT F.slot_tuple_hash.lookup ?_)
    show wpAny _ _ (callSpecialIfBoundUnlessNone? (.ref a) "__hash__" _ >>= _) Q E s
    refine wpAny_bind (wpAny_callSpecialIfBoundUnlessNone?_slot hT F.slot_tuple_hash (wpAny_call_entry F.slot_tuple_hash hT F.entry_tuple_hash ?_ (F.args_tuple_hash_1 _)))
    show wpAny _ _ (Builtin.Tuple.tupleItemsOf (.ref a) >>= _) _ _ s
    refine wpAny_bind (wpAny_tupleItemsOf ho hd ?_)
    refine wpAny_bind ?_
    rw [← Array.forIn_toList]
    refine wpAny_forIn_list _ (HashI w n s ks) _ ?_ ?_ _ _ ⟨[], ks, as, rfl, hi, rfl, rfl⟩
    · intro x rest b s' hz
      obtain ⟨done, left, as', rfl, hl, hb, rfl⟩ := hz
      obtain ⟨k, ks', a1, a2, rfl, h1, hl'⟩ := readsAll_inv hl
      refine wpAny_bind (ih k (by simp) hu2 h1 ?_)
      have e : { s with toks := s.toks + (done.map (drawsD n)).sum + drawsD n k } = { s with toks := s.toks + ((done ++ [k]).map (drawsD n)).sum } := by
        simp [Nat.add_assoc]
      first
        | exact wpAny_pure ⟨done ++ [k], ks', a2, by simp, hl', by simp [hb], e⟩
        | exact wpAny_bind (wpAny_pure (wpAny_pure ⟨done ++ [k], ks', a2, by simp, hl', by simp [hb], e⟩))
    · intro b s' hz
      obtain ⟨done, left, as', hks', hl, hb, rfl⟩ := hz
      rw [show left = [] from readsAll_inv hl, List.append_nil] at hks'
      rw [hks'] at h
      show wpAny _ _ (retInt (Builtin.Tuple.tupleHashOf b.toList)) _ _ _
      rw [hb]
      refine wpAny_ret_mkInt ?_
      show wpAny _ _ (if (decide (-(2 : Int) ^ 63 ≤ Builtin.Tuple.tupleHashOf (done.map (hashD w n))) && decide (Builtin.Tuple.tupleHashOf (done.map (hashD w n)) < 2 ^ 63)) = true then _ else _) Q E _
      unfold hashD reduceHash at h
      by_cases hr : (decide (-(2 : Int) ^ 63 ≤ Builtin.Tuple.tupleHashOf (done.map (hashD w n))) && decide (Builtin.Tuple.tupleHashOf (done.map (hashD w n)) < 2 ^ 63)) = true
      · rw [if_pos hr]
        rw [if_pos hr] at h
        exact wpAny_pure (by simpa [drawsD, Nat.add_assoc] using h)
      · rw [if_neg hr]
        rw [if_neg hr] at h
        exact wpAny_bind (wpAny_rule (wpAny_pure (by simpa [drawsD, Nat.add_assoc] using h)))
inductive QuietI (P : PyData → Prop) (s : Shared) (rest : List Value) (r : Option Bool × PUnit) (s' : Shared) : Prop
  | mk (left : List PyData) (as' : List Addr) : r.1 = none → s' = s → ReadsAll s.heap rest left as' → (∀ x ∈ left, P x) → QuietI P s rest r s'
theorem keyD_quiet {n : Nat} {d : PyData} (hk : KeyD n d) : ∀ {A : Around} {E : Value → Shared → Prop} {s : Shared} {v : Value} {as : List Addr} {Q : Bool → Shared → Prop}, Reads s.heap v d as → Q true s → wpAny (model prog w) A (eqIsQuiet n v) Q E s := by
  induction hk with
  | int n i =>
    intro A E s v as Q r h
    obtain ⟨t, rfl⟩ := reads_inv r
    rw [eqIsQuiet_byValue n rfl]; exact wpAny_pure h
  | str n i =>
    intro A E s v as Q r h
    obtain ⟨t, rfl⟩ := reads_inv r
    rw [eqIsQuiet_byValue n rfl]; exact wpAny_pure h
  | @tuple n ks hks ih =>
    intro A E s v as Q r h
    obtain ⟨a, o, items, m, rfl, ho, hc, hd, hi⟩ := reads_inv r
    have hT : s.TypeIs (.ref a) "tuple" := ⟨o, ho, hc⟩
    unfold eqIsQuiet
    refine wpAny_bind (wpAny_specialOf hT F.slot_tuple_eq.lookup ?_)
    show wpAny _ _ (isInstance (.ref a) (.type "tuple") >>= _) _ _ s
    refine wpAny_bind (wpAny_isInstance hT isSubtype_tuple_tuple ?_)
    simp only [Bool.not_true, Bool.false_eq_true, if_false]
    refine wpAny_bind (wpAny_seqItems ho hd ?_)
    refine wpAny_bind ?_
    show wpAny _ _ (forIn items _ _) _ _ s
    rw [← Array.forIn_toList]
    refine wpAny_forIn_list _ (QuietI (fun x => x ∈ ks) s) _ ?_ ?_ _ _ ⟨ks, as, rfl, rfl, hi, fun J m => m⟩
    · intro v rest r s' hz
      obtain ⟨left, as', hr, rfl, hl, hall⟩ := hz
      obtain ⟨k, ks', a1, a2, rfl, h1, hl'⟩ := readsAll_inv hl
      refine wpAny_bind (ih k (hall k (.head _)) h1 ?_)
      simp only [Bool.not_true, Bool.false_eq_true, if_false]
      exact wpAny_pure ⟨ks', a2, rfl, rfl, hl', fun u hu' => hall u (List.mem_cons_of_mem _ hu')⟩
    · intro rr s' hz
      obtain ⟨left, as', hr, rfl, J, J⟩ := hz
      obtain ⟨r1, r2⟩ := rr
      obtain rfl : r1 = none := hr
      exact wpAny_pure h
end

noncomputable def decPD : DecidableEq PyData := fun a b => Classical.propDecidable (a = b)
noncomputable local instance : DecidableEq PyData := decPD

/- What a key is in a heap. -/
noncomputable def IsKey (h : Heap) (k : PyData) (a : Addr) : Prop := kOk 8 k = true ∧ Reads h (.ref a) k []

theorem isKey_stays {h h' S S'} (x : Stays h S h' S') {k a} (y : IsKey h k a) : IsKey h' k a := ⟨y.1, reads_stays x y.2 fun J m => nomatch m⟩

noncomputable def keyKind (prog : Program) (w : World) : HeapKind prog w PyData where
  is := IsKey
  hash := hashD w 8
  draws := drawsD 8
  room := fun A => A.units + 8 < cLine
  inj := fun {h a x y} hx hy => PySem.SeqAt.Reads.unique x y _ _ _ (kOk_lay 8 x hx.1).1 hx.2 hy.2
  keeps := fun {h h' k a d o es ep} x ho hd hs => by
    refine isKey_stays (S := [d]) (S' := []) ⟨fun b ob e n => ?_, fun J m => nomatch m⟩ x
    by_cases hb : b = d
    · exact (n.elim (fun n => n (hb ▸ .head _)) fun n => n (.inr (.inl ⟨_, _, Option.some.inj (ho.symm.trans (hb ▸ e)) ▸ hd⟩))).elim
    · exact (hs.2 b hb).trans e
  pyHash := fun {A E s k a Q} hu hk h => keyD_hash (keyD_of 8 k hk.1) hu hk.2 h
  eqBool := fun {A E s x y a b Q} hu hx hy h => by
    refine PySem.SeqAt.eqBoolOverData _ _ _ _ _ _ _ _ _ _ _ Q hx.2 hy.2 (kOk_lay 8 x hx.1).1 (kOk_lay 8 y hy.1).1 ?_ ?_
    · have := (kOk_lay 8 x hx.1).2
      lia
    · have e := keyD_eqv (keyD_of 8 x hx.1) (keyD_of 8 y hy.1)
      have : PyData.eqv x y = decide (x = y) := by
        by_cases q : x = y
        · rw [e.mpr q, decide_eq_true q]
        · cases z : PyData.eqv x y with
          | true => exact absurd (e.mp z) q
          | false => rw [decide_eq_false q]
      rw [this]; exact h
  quiet := fun {A E s k a Q} hk h => keyD_quiet (keyD_of 8 k hk.1) hk.2 h

-- Base2


noncomputable abbrev Sg := List (Addr × OB)
noncomputable abbrev own (σ : Sg) : List Addr := σ.map (·.1)
noncomputable abbrev Bs := List (Str × AV)

/- Pairs with like keys, their values matched. -/
noncomputable def Pr2 {α β γ : Type} (G : β → γ → Prop) : List (α × β) → List (α × γ) → Prop
  | [], [] => True
  | (k, v) :: r, (k', x) :: r' => k = k' ∧ G v x ∧ Pr2 G r r'
  | _, _ => False

theorem Pr2.mono {α β γ : Type} {G G' : β → γ → Prop} (h : ∀ v x, G v x → G' v x) {l : List (α × β)} : ∀ {r : List (α × γ)}, Pr2 G l r → Pr2 G' l r := by
  induction l with
  | nil => intro r q; cases r with
    | nil => trivial
    | cons J J => exact q.elim
  | cons p l ih => intro r q; cases r with
    | nil => exact q.elim
    | cons t r => exact ⟨q.1, h _ _ q.2.1, ih q.2.2⟩

noncomputable def Holds (c : Cx) (h : Heap) (S : List Addr) (a : Addr) : OB → Prop
  | .lst xs => ∃ vs as, h.PlainList a vs ∧ RdAll h vs.toList xs as ∧ ∀ b ∈ as, b ∉ S
  | .dI kvs => ∃ ps, h.DictOf (intKind c.prog c.w) a ps ∧ Pr2 (fun v x => Rp c h S x v) ps kvs
  | .dS kvs => ∃ ps, h.DictOf (strKind c.prog c.w) a ps ∧ Pr2 (fun v x => Rp c h S x v) ps kvs
  | .dT kvs => ∃ ps : List (PyData × Addr × Value), h.DictOfH (keyKind c.prog c.w) a ps ∧ Pr2 (fun (p : Addr × Value) i => ∃ t, p.2 = .int i t) ps kvs

theorem mutLst {h : Heap} {a vs} (p : h.PlainList a vs) : MutAt h a := by obtain ⟨J, e⟩ := p; exact ⟨_, e, .inl rfl⟩
theorem mutD {h : Heap} {a : Addr} {o : Obj} {es : Array DictEntry} {ep : Nat} (e : h.get? a = some o) (d : o.data = .dict es ep) : MutAt h a := ⟨_, e, .inr (.inl ⟨_, _, d⟩)⟩
theorem Holds.mut {c h S a} {o : OB} (x : Holds c h S a o) : MutAt h a := by
  cases o with
  | lst J => obtain ⟨J, J, p, J⟩ := x; exact mutLst p
  | dI J => obtain ⟨J, ⟨J, J, J, e, J, d, J⟩, J⟩ := x; exact mutD e d
  | dS J => obtain ⟨J, ⟨J, J, J, e, J, d, J⟩, J⟩ := x; exact mutD e d
  | dT J => obtain ⟨J, ⟨J, J, J, e, J, d, J⟩, J⟩ := x; exact mutD e d

theorem Holds.stays {c h S h' S' a} (x : Stays h S h' S') (k : ∀ o, h.get? a = some o → h'.get? a = some o) {o : OB} (y : Holds c h S a o) : Holds c h' S' a o := by
  cases o with
  | lst J => obtain ⟨vs, as, p, r, n⟩ := y; exact ⟨vs, as, p.at k, rdAll_stays x r n, fun b m => (rdAll_there r b m).elim fun J e => x.not e (n b m)⟩
  | dI J => obtain ⟨ps, ⟨o, es, ep, e, q⟩, r⟩ := y; exact ⟨ps, ⟨o, es, ep, k _ e, q⟩, r.mono fun J J z => z.stays x⟩
  | dS J => obtain ⟨ps, ⟨o, es, ep, e, q⟩, r⟩ := y; exact ⟨ps, ⟨o, es, ep, k _ e, q⟩, r.mono fun J J z => z.stays x⟩
  | dT J => obtain ⟨ps, ⟨o, es, ep, e, q1, q2, q3, q4, q5⟩, r⟩ := y; exact ⟨ps, ⟨o, es, ep, k _ e, q1, q2, q3, fun y m => isKey_stays x (q4 y m), q5⟩, r⟩

structure St (c : Cx) (F : List Addr) (σ : Sg) (s : Shared) : Prop where
  base : ∀ a o, c.h0.get? a = some o → s.heap.get? a = some o
  gens : s.gens = #[]
  os : s.os = c.os0
  apart : ∀ a ∈ F ++ own σ, c.h0.get? a = none
  nodup : (own σ).Nodup
  disj : ∀ a ∈ F, a ∉ own σ
  live : ∀ a ∈ F, MutAt s.heap a
  holds : ∀ p ∈ σ, Holds c s.heap (F ++ own σ) p.1 p.2

structure Evo (σ : Sg) (h : Heap) (σ' : Sg) (h' : Heap) : Prop where
  keep : ∀ a o, h.get? a = some o → a ∉ own σ → h'.get? a = some o
  new : ∀ a ∈ own σ', a ∈ own σ ∨ h.get? a = none

theorem Evo.refl (σ : Sg) (h : Heap) : Evo σ h σ h := ⟨fun J J e J => e, fun J m => .inl m⟩
theorem nb {lo hi w : Int} {N : Nat} (a : lo.natAbs ≤ N) (b : hi.natAbs ≤ N) (h1 : lo ≤ w) (h2 : w ≤ hi) : w.natAbs ≤ N := by lia
theorem nadd {a b : Int} {M N : Nat} (x : a.natAbs ≤ M) (y : b.natAbs ≤ N) : (a + b).natAbs ≤ M + N := Nat.le_trans (Int.natAbs_add_le a b) (Nat.add_le_add x y)
theorem nmin {a b : Int} {N : Nat} (x : a.natAbs ≤ N) (y : b.natAbs ≤ N) : (min a b).natAbs ≤ N := (Int.le_total a b).elim (fun h => (Int.min_eq_left h).symm ▸ x) fun h => (Int.min_eq_right h).symm ▸ y
theorem nmax {a b : Int} {N : Nat} (x : a.natAbs ≤ N) (y : b.natAbs ≤ N) : (max a b).natAbs ≤ N := (Int.le_total a b).elim (fun h => (Int.max_eq_right h).symm ▸ y) fun h => (Int.max_eq_left h).symm ▸ x
theorem wid {lo hi : Int} (a : lo.natAbs ≤ 2 ^ 18) (b : hi.natAbs ≤ 2 ^ 18) : (hi + 1 - lo).toNat ≤ 2 ^ 19 + 1 := by omega
theorem lt7 {p : Int} (h : 0 ≤ p ∧ p < 7) : p = 0 ∨ p = 1 ∨ p = 2 ∨ p = 3 ∨ p = 4 ∨ p = 5 ∨ p = 6 := by
  obtain ⟨n, rfl⟩ := Int.eq_ofNat_of_zero_le h.1
  have : ∀ n : Nat, n < 7 → ((n : Int) = 0 ∨ (n : Int) = 1 ∨ (n : Int) = 2 ∨ (n : Int) = 3 ∨ (n : Int) = 4 ∨ (n : Int) = 5 ∨ (n : Int) = 6) := by decide
  exact this n (Int.ofNat_lt.mp h.2)
theorem absent {h h' : Heap} {a : Addr} {P : Prop} (k : ∀ o, h.get? a = some o → ¬P → ∃ o', h'.get? a = some o') (q : h'.get? a = none) : P ∨ h.get? a = none := by
  by_cases p : P
  · exact .inl p
  · cases e : h.get? a with
    | none => exact .inr rfl
    | some o => exact ((k o e p).elim fun J z => nsn z q).elim
theorem MutAt.ex {h a} (m : MutAt h a) : ∃ o, h.get? a = some o := by obtain ⟨o, e, J⟩ := m; exact ⟨o, e⟩
theorem MutAt.to {h h' a} (m : MutAt h a) (k : ∀ o, h.get? a = some o → h'.get? a = some o) : MutAt h' a := by obtain ⟨o, e, q⟩ := m; exact ⟨o, k o e, q⟩
theorem Evo.trans {σ h σ' h' σ'' h''} (x : Evo σ h σ' h') (y : Evo σ' h' σ'' h'') : Evo σ h σ'' h'' where
  keep := fun a o e n => y.keep a o (x.keep a o e n) fun m => (x.new a m).elim n (nsn e)
  new := fun a m => (y.new a m).elim (x.new a) (absent fun o e hm => ⟨_, x.keep a o e hm⟩)

theorem St.owned {c F σ s} (x : St c F σ s) {a : Addr} (m : a ∈ own σ) : MutAt s.heap a := by
  obtain ⟨p, hp, rfl⟩ := List.mem_map.mp m
  exact (x.holds p hp).mut

theorem St.mutOf {c F σ s} (x : St c F σ s) {a : Addr} {o : Obj} (m : a ∈ F ++ own σ) (e : s.heap.get? a = some o) : Mut o := by
  have : MutAt s.heap a := (List.mem_append.mp m).elim (x.live a) x.owned
  obtain ⟨o', e', q⟩ := this
  exact Option.some.inj (e'.symm.trans e) ▸ q
theorem St.notIn {c F σ s} (x : St c F σ s) {a : Addr} {o : Obj} (e : s.heap.get? a = some o) (n : a ∉ F ++ own σ ∨ ¬ Mut o) : a ∉ F ++ own σ := fun m => n.elim (fun q => q m) fun q => q (x.mutOf m e)
theorem St.fresh {c F σ s} (x : St c F σ s) {a : Addr} (e : s.heap.get? a = none) : a ∉ F ∧ a ∉ own σ ∧ c.h0.get? a = none :=
  ⟨fun m => (x.live a m).ex.elim fun J q => nsn q e, fun m => (x.owned m).ex.elim fun J q => nsn q e, (absent (P := False) (fun o q J => ⟨o, x.base a o q⟩) e).elim False.elim id⟩
theorem St.stays {c F σ s σ' h'} (x : St c F σ s) (y : Evo σ s.heap σ' h') : Stays s.heap (F ++ own σ) h' (F ++ own σ') where
  keep := fun a o e n => y.keep a o e fun m => x.notIn e n (List.mem_append_right _ m)
  new := fun a m => (List.mem_append.mp m).elim (fun m => .inl (List.mem_append_left _ m)) fun m => (y.new a m).imp (List.mem_append_right _) id

theorem St.notF {c F σ s σ' h'} (x : St c F σ s) (y : Evo σ s.heap σ' h') : ∀ a ∈ F, a ∉ own σ' := fun a m q => (y.new a q).elim (x.disj a m) fun q => (x.fresh q).1 m

/- The state with other forbidden objects, some of which have changed. -/
theorem St.move {c F F' σ s s'} (st : St c F σ s) (X : List Addr) (hX : ∀ a ∈ X, a ∈ F) (k : ∀ a o, a ∉ X → s.heap.get? a = some o → s'.heap.get? a = some o) (lv : ∀ a ∈ X, a ∈ F' → MutAt s'.heap a)
    (new : ∀ a ∈ F', a ∈ F ∨ (s.heap.get? a = none ∧ MutAt s'.heap a)) (g : autoParam (s'.gens = s.gens) rfT) (o : autoParam (s'.os = s.os) rfT) : St c F' σ s' ∧ Stays s.heap (F ++ own σ) s'.heap (F' ++ own σ) := by
  have sty : Stays s.heap (F ++ own σ) s'.heap (F' ++ own σ) := ⟨fun a o e n => k a o (fun m => st.notIn e n (List.mem_append_left _ (hX a m))) e,
    fun a m => (List.mem_append.mp m).elim (fun m => (new a m).imp (List.mem_append_left _) And.left) fun m => .inl (List.mem_append_right _ m)⟩
  exact ⟨{
    base := fun a o e => k a o (fun m => nsn e (st.apart a (List.mem_append_left _ (hX a m)))) (st.base a o e)
    gens := g.trans st.gens
    os := o.trans st.os
    apart := fun a m => (List.mem_append.mp m).elim (fun m => (new a m).elim (fun q => st.apart a (List.mem_append_left _ q)) fun q => (st.fresh q.1).2.2) fun m => st.apart a (List.mem_append_right _ m)
    nodup := st.nodup
    disj := fun a m => (new a m).elim (st.disj a) fun q => (st.fresh q.1).2.1
    live := fun a m => (new a m).elim (fun q => (Classical.em (a ∈ X)).elim (fun x => lv a x m) fun x => (st.live a q).to fun o => k a o x) And.right
    holds := fun p m => (st.holds p m).stays sty fun o e => k _ o (fun z => st.disj _ (hX _ z) (List.mem_map.mpr ⟨p, m, rfl⟩)) e }, sty⟩

/- The state behind a step that has kept all. -/
theorem St.on {c F σ s} (x : St c F σ s) {h' : Heap} {tk : Nat} (k : ∀ a o, s.heap.get? a = some o → h'.get? a = some o) : St c F σ { s with heap := h', toks := tk } where
  base := fun a o e => k a o (x.base a o e)
  gens := x.gens
  os := x.os
  apart := x.apart
  nodup := x.nodup
  disj := x.disj
  live := fun a m => (x.live a m).to (k a)
  holds := fun p m => (x.holds p m).stays ⟨fun a o e J => k a o e, fun J m => .inl m⟩ fun o e => k _ o e
theorem St.tok {c F σ s} (x : St c F σ s) {tk : Nat} : St c F σ { s with toks := tk } := x.on fun J J e => e
theorem Evo.on (σ : Sg) {h h' : Heap} (k : ∀ a o, h.get? a = some o → h'.get? a = some o) : Evo σ h σ h' := ⟨fun a o e J => k a o e, fun J m => .inl m⟩

structure EnvOK (sc : Scope) (env : Env) : Prop where
  scope : env.scope = sc
  kind : sc.kind = .function
  g : env.globals = mainGlobals
  b : env.builtins = builtinsNs
  cl : ∀ n, sc.names.lookup n = some .cell → (env.cells.lookup n).isSome = true
  fs : sc.names.lookup (".0" : Str) = none → env.func.isSome = true

theorem EnvOK.ki {sc env} (x : EnvOK sc env) (n : Str) : env.kindOf n = sc.names.lookup n := by unfold Env.kindOf; rw [x.scope]

noncomputable def fenv (env : Env) : List Addr := env.locals :: env.cells.filterMap fun p => env.cells.lookup p.1

/- What the frame's own statements may change. -/
noncomputable def wenv (env : Env) : List Addr := env.locals :: (if env.func.isSome then env.cells.filterMap fun p => env.cells.lookup p.1 else [])
theorem wenv_sub {env : Env} {a : Addr} (h : a ∈ wenv env) : a ∈ fenv env := by
  unfold wenv at h; unfold fenv
  rcases List.mem_cons.mp h with h | h
  · exact h ▸ List.mem_cons_self ..
  · split at h
    · exact .tail _ h
    · cases h
theorem mem_wenv {env : Env} {n : Str} {a : Addr} (hf : env.func.isSome = true) (e : env.cells.lookup n = some a) : a ∈ wenv env := by
  unfold wenv; rw [if_pos hf]
  exact .tail _ (List.mem_filterMap.mpr ⟨_, mem_of_lookup e, e⟩)

inductive FrmNs (c : Cx) (env : Env) (B : Bs) (S : List Addr) (h : Heap) : Prop
  | mk (m : Str → Option Value) : h.Ns env.locals m → (∀ n x, B.lookup n = some x → env.kindOf n = some .local → ∃ v, m n = some v ∧ Rp c h S x v) → FrmNs c env B S h
inductive FrmCl (c : Cx) (env : Env) (S : List Addr) (h : Heap) (n : Str) (x : AV) : Prop
  | mk (a : Addr) (v : Value) : env.cells.lookup n = some a → h.IsCell a (some v) → Rp c h S x v → FrmCl c env S h n x
structure Frm (c : Cx) (env : Env) (B : Bs) (S : List Addr) (h : Heap) : Prop where
  ns : FrmNs c env B S h
  cell : ∀ n x, B.lookup n = some x → (env.kindOf n = some .cell ∨ env.kindOf n = some .free) → FrmCl c env S h n x
  cells : ∀ n a, env.cells.lookup n = some a → ∃ x, h.IsCell a x
  cnd : ∀ n m a, env.cells.lookup n = some a → env.cells.lookup m = some a → n = m

theorem mem_fenv {env : Env} {n : Str} {a : Addr} (e : env.cells.lookup n = some a) : a ∈ fenv env := .tail _ (List.mem_filterMap.mpr ⟨_, mem_of_lookup e, e⟩)
theorem fenv_cases {env : Env} {a : Addr} (h : a ∈ fenv env) : a = env.locals ∨ ∃ n, env.cells.lookup n = some a := by
  rcases List.mem_cons.mp h with h | h
  · exact .inl h
  · obtain ⟨p, J, e⟩ := List.mem_filterMap.mp h; exact .inr ⟨_, e⟩

theorem cell_at {h h' : Heap} {a : Addr} {v : Option Value} (x : h.IsCell a v) (k : ∀ o, h.get? a = some o → h'.get? a = some o) : h'.IsCell a v := by
  obtain ⟨o, r, r'⟩ := x; exact ⟨o, k o r, r'⟩
theorem Frm.move {c env B S S' h h'} (f : Frm c env B S h) (y : Stays h S h' S') (k : ∀ a ∈ fenv env, ∀ o, h.get? a = some o → h'.get? a = some o) : Frm c env B S' h' := by
  obtain ⟨⟨m, q, r⟩, cl, cs, cnd⟩ := f
  exact {
    ns := ⟨m, q.at' (k _ (List.mem_cons_self ..)), fun n u e kk => (r n u e kk).elim fun v z => ⟨v, z.1, z.2.stays y⟩⟩
    cell := fun n u e kk => by obtain ⟨a, v, q, r, t⟩ := cl n u e kk; exact ⟨a, v, q, cell_at r (k _ (mem_fenv q)), t.stays y⟩
    cells := fun n a q => (cs n a q).elim fun x r => ⟨x, cell_at r (k _ (mem_fenv q))⟩
    cnd := cnd }
theorem Frm.evo {c env B F σ s σ' h'} (x : Frm c env B (F ++ own σ) s.heap) (y : St c F σ s) (z : Evo σ s.heap σ' h') (hF : ∀ a ∈ fenv env, a ∈ F) : Frm c env B (F ++ own σ') h' :=
  x.move (y.stays z) fun a m o e => z.keep a o e (y.disj a (hF a m))

/- B' says nothing beyond B. -/
noncomputable def Cov (B : Bs) : Bs → Prop
  | [] => True
  | (n, x) :: r => B.lookup n = some x ∧ Cov B r
theorem lk_split {n k : Str} {x u : AV} {B : Bs} (e : ((n, x) :: B).lookup k = some u) : (k = n ∧ u = x) ∨ (k ≠ n ∧ B.lookup k = some u) := by
  rw [List.lookup_cons] at e
  cases q : k == n with
  | true => rw [q] at e; exact .inl ⟨eq_of_beq q, (Option.some.inj e).symm⟩
  | false => rw [q] at e; exact .inr ⟨fun z => (by rw [z, beq_self_eq_true] at q; cases q), e⟩
theorem Cov.at {B : Bs} {B' : Bs} : Cov B B' → ∀ n x, B'.lookup n = some x → B.lookup n = some x := by
  induction B' with
  | nil => intro J n x e; cases e
  | cons p r ih =>
    intro h n x e
    obtain ⟨k, y⟩ := p
    exact (lk_split e).elim (fun q => q.1 ▸ q.2 ▸ h.1) fun q => ih h.2 n x q.2
theorem Frm.cov {c env B B' S h} (x : Frm c env B S h) (y : Cov B B') : Frm c env B' S h where
  ns := by obtain ⟨m, q, r⟩ := x.ns; exact ⟨m, q, fun n u e k => r n u (y.at n u e) k⟩
  cell := fun n u e k => x.cell n u (y.at n u e) k
  cells := x.cells
  cnd := x.cnd

theorem get_inj {h : Heap} {a b : Addr} {o o' : Obj} (e : h.get? a = some o) (z : a = b) (e' : h.get? b = some o') : o = o' := by subst z; exact Option.some.inj (e.symm.trans e')
theorem ne_of {h : Heap} {a b : Addr} {o : Obj} (e : h.get? a = some o) (n : h.get? b = none) : a ≠ b := fun z => nsn (z ▸ e) n
structure Room (d : Nat) (A : Around) : Prop where
  handled : A.handled = none
  depth : A.depth + 8 * d < 900
  units : A.units + 100 * d < 9000
theorem Room.deeper {d A} (x : Room (d + 1) A) (env : Env) : Room d (A.deeper env) := ⟨x.handled, by have := x.depth; show A.depth + 1 + _ < _; lia, by have := x.units; show A.units + 3 + _ < _; lia⟩
theorem Room.le {d d' A} (x : Room d A) (h : d' ≤ d) : Room d' A := ⟨x.handled, by have := x.depth; lia, by have := x.units; lia⟩
theorem Room.cl {d A} (x : Room d A) : A.units + 800 < cLine := by have := x.units; show _ < 9900; lia
theorem Room.rl {d A} (x : Room d A) : A.depth < recursionLimit := by have := x.depth; show _ < 1000; lia

noncomputable abbrev Cx.M (c : Cx) : Model := model c.prog c.w
noncomputable abbrev nope : Value → Shared → Prop := fun J J => False

inductive Post (c : Cx) (F : List Addr) (σ : Sg) (s : Shared) (Q : AV → Sg → Prop) (v : Value) (s' : Shared) : Prop
  | mk (x : AV) (σ' : Sg) : St c F σ' s' → Evo σ s.heap σ' s'.heap → Rp c s'.heap (F ++ own σ') x v → Q x σ' → Post c F σ s Q v s'

noncomputable def RpAll (c : Cx) (h : Heap) (S : List Addr) : List AV → List Value → Prop
  | [], [] => True
  | x :: xs, v :: vs => Rp c h S x v ∧ RpAll c h S xs vs
  | _, _ => False
theorem RpAll.stays {c h S h' S'} (y : Stays h S h' S') {xs : List AV} : ∀ {vs : List Value}, RpAll c h S xs vs → RpAll c h' S' xs vs := by
  induction xs with
  | nil => intro vs r; cases vs with
    | nil => trivial
    | cons J J => exact r.elim
  | cons x xs ih => intro vs r; cases vs with
    | nil => exact r.elim
    | cons v vs => exact ⟨r.1.stays y, ih r.2⟩

inductive Two (P Q : Value → Prop) (vs : List Value) : Prop
  | mk (v w : Value) : vs = [v, w] → P v → Q w → Two P Q vs
inductive Three (P Q R : Value → Prop) (vs : List Value) : Prop
  | mk (v w u : Value) : vs = [v, w, u] → P v → Q w → R u → Three P Q R vs
theorem rpAll_cons {c h S x} {xs : List AV} {vs : List Value} (r : RpAll c h S (x :: xs) vs) : ∃ v us, vs = v :: us ∧ Rp c h S x v ∧ RpAll c h S xs us := by
  cases vs with
  | nil => exact r.elim
  | cons v us => exact ⟨v, us, rfl, r⟩
theorem rpAll_nil {c h S} {vs : List Value} (r : RpAll c h S [] vs) : vs = [] := by
  cases vs with
  | nil => rfl
  | cons v us => exact r.elim
theorem rpAll_one {c h S x} {vs : List Value} (r : RpAll c h S [x] vs) : ∃ v, vs = [v] ∧ Rp c h S x v := by
  obtain ⟨v, us, rfl, a, b⟩ := rpAll_cons r
  exact ⟨v, by rw [rpAll_nil b], a⟩
theorem rpAll_two {c h S x y} {vs : List Value} (r : RpAll c h S [x, y] vs) : Two (Rp c h S x) (Rp c h S y) vs := by
  obtain ⟨v, us, rfl, a, b⟩ := rpAll_cons r
  obtain ⟨w, rfl, b'⟩ := rpAll_one b
  exact ⟨v, w, rfl, a, b'⟩
theorem rpAll_three {c h S x y z} {vs : List Value} (r : RpAll c h S [x, y, z] vs) : Three (Rp c h S x) (Rp c h S y) (Rp c h S z) vs := by
  obtain ⟨v, us, rfl, a, b⟩ := rpAll_cons r
  obtain ⟨w, u, rfl, b', e⟩ := rpAll_two b
  exact ⟨v, w, u, rfl, a, b', e⟩
inductive PostL (c : Cx) (F : List Addr) (σ : Sg) (s : Shared) (Q : List AV → Sg → Prop) (vs : List Value) (s' : Shared) : Prop
  | mk (xs : List AV) (σ' : Sg) : St c F σ' s' → Evo σ s.heap σ' s'.heap → RpAll c s'.heap (F ++ own σ') xs vs → Q xs σ' → PostL c F σ s Q vs s'

inductive PostB {α : Type} (c : Cx) (F : List Addr) (σ : Sg) (s : Shared) (Q : α → Sg → Prop) (b : α) (s' : Shared) : Prop
  | mk (σ' : Sg) : St c F σ' s' → Evo σ s.heap σ' s'.heap → Q b σ' → PostB c F σ s Q b s'

/- Expressions. -/
noncomputable def EvalP (c : Cx) (d : Nat) (sc : Scope) (B : Bs) (σ : Sg) (e : Expr) (Q : AV → Sg → Prop) : Prop :=
  ∀ (A : Around) (s : Shared) (env : Env) (F : List Addr), Room d A → EnvOK sc env → (∀ a ∈ fenv env, a ∈ F) → St c F σ s → Frm c env B (F ++ own σ) s.heap →
    wpAny c.M A (eval e env) (Post c F σ s Q) nope s

noncomputable def EvalsP (c : Cx) (d : Nat) (sc : Scope) (B : Bs) (σ : Sg) (es : List Expr) (Q : List AV → Sg → Prop) : Prop :=
  ∀ (A : Around) (s : Shared) (env : Env) (F : List Addr) (pos : Pos), Room d A → EnvOK sc env → (∀ a ∈ fenv env, a ∈ F) → St c F σ s → Frm c env B (F ++ own σ) s.heap →
    wpAny c.M A (spliced (backTo pos (starEach es env))) (PostL c F σ s Q) nope s

noncomputable def TestP (c : Cx) (d : Nat) (sc : Scope) (B : Bs) (σ : Sg) (e : Expr) (Q : Bool → Sg → Prop) : Prop :=
  ∀ (A : Around) (s : Shared) (env : Env) (F : List Addr), Room d A → EnvOK sc env → (∀ a ∈ fenv env, a ∈ F) → St c F σ s → Frm c env B (F ++ own σ) s.heap →
    wpAny c.M A (isTrue e env (eval e env)) (PostB c F σ s Q) nope s

/- An operation upon values. -/
noncomputable def ValP (c : Cx) (d : Nat) (σ : Sg) (xs : List AV) (t : List Value → Sem Value) (Q : AV → Sg → Prop) : Prop :=
  ∀ (A : Around) (s : Shared) (F : List Addr) (vs : List Value), Room d A → St c F σ s → RpAll c s.heap (F ++ own σ) xs vs → wpAny c.M A (t vs) (Post c F σ s Q) nope s

noncomputable abbrev CallP (c : Cx) (d : Nat) (f : AV) (xs : List AV) (σ : Sg) (Q : AV → Sg → Prop) : Prop :=
  ValP c d σ (f :: xs) (fun | f :: vs => call f vs | [] => unsupported "") Q

structure FrmPost (c : Cx) (F : List Addr) (env : Env) (σ : Sg) (h : Heap) (B' : Bs) (σ' : Sg) (s' : Shared) : Prop where
  st : St c F σ' s'
  keep : ∀ a o, h.get? a = some o → a ∉ own σ → a ∉ wenv env → s'.heap.get? a = some o
  new : ∀ a ∈ own σ', a ∈ own σ ∨ h.get? a = none
  frm : Frm c env B' (F ++ own σ') s'.heap

inductive PostN (c : Cx) (F : List Addr) (env : Env) (σ : Sg) (h : Heap) (N : Bs → Sg → Prop) (s' : Shared) : Prop
  | mk (B' : Bs) (σ' : Sg) : FrmPost c F env σ h B' σ' s' → N B' σ' → PostN c F env σ h N s'
inductive PostV (c : Cx) (F : List Addr) (env : Env) (σ : Sg) (h : Heap) (R : AV → Sg → Prop) (v : Value) (s' : Shared) : Prop
  | mk (x : AV) (B' : Bs) (σ' : Sg) : FrmPost c F env σ h B' σ' s' → Rp c s'.heap (F ++ own σ') x v → R x σ' → PostV c F env σ h R v s'
/- Statements: N behind a plain end, R behind a return. -/
noncomputable def PostS (c : Cx) (F : List Addr) (env : Env) (σ : Sg) (s : Shared) (N : Bs → Sg → Prop) (R : AV → Sg → Prop) : Flow → Shared → Prop := fun f s' =>
  match f with
  | .next => PostN c F env σ s.heap N s'
  | .ret v => PostV c F env σ s.heap R v s'
  | _ => False

noncomputable def ExecP (c : Cx) (d : Nat) (sc : Scope) (B : Bs) (σ : Sg) (st : Stmt) (N : Bs → Sg → Prop) (R : AV → Sg → Prop) : Prop :=
  ∀ (A : Around) (s : Shared) (env : Env) (F : List Addr), Room d A → EnvOK sc env → (∀ a ∈ fenv env, a ∈ F) → St c F σ s → Frm c env B (F ++ own σ) s.heap →
    wpAny c.M A (exec st env) (PostS c F env σ s N R) nope s
noncomputable def ExecsP (c : Cx) (d : Nat) (sc : Scope) (B : Bs) (σ : Sg) (sts : List Stmt) (N : Bs → Sg → Prop) (R : AV → Sg → Prop) : Prop :=
  ∀ (A : Around) (s : Shared) (env : Env) (F : List Addr), Room d A → EnvOK sc env → (∀ a ∈ fenv env, a ∈ F) → St c F σ s → Frm c env B (F ++ own σ) s.heap →
    wpAny c.M A (execs sts env) (PostS c F env σ s N R) nope s
/- A target takes a value. -/
noncomputable def AsgP (c : Cx) (d : Nat) (sc : Scope) (B : Bs) (σ : Sg) (t : Expr) (x : AV) (N : Bs → Sg → Prop) : Prop :=
  ∀ (A : Around) (s : Shared) (env : Env) (F : List Addr) (v : Value), Room d A → EnvOK sc env → (∀ a ∈ fenv env, a ∈ F) → St c F σ s → Frm c env B (F ++ own σ) s.heap → Rp c s.heap (F ++ own σ) x v →
    wpAny c.M A (assign t env v) (fun J s' => PostN c F env σ s.heap N s') nope s

theorem Post.trans {c F σ s σ₁ s₁} {Q : AV → Sg → Prop} (e : Evo σ s.heap σ₁ s₁.heap) {v : Value} {s' : Shared} (h : Post c F σ₁ s₁ Q v s') : Post c F σ s Q v s' :=
  by obtain ⟨x, σ', a, b, q, r⟩ := h; exact ⟨x, σ', a, e.trans b, q, r⟩
theorem PostB.trans {α c F σ s σ₁ s₁} {Q : α → Sg → Prop} (e : Evo σ s.heap σ₁ s₁.heap) {v : α} {s' : Shared} (h : PostB c F σ₁ s₁ Q v s') : PostB c F σ s Q v s' :=
  by obtain ⟨σ', a, b, r⟩ := h; exact ⟨σ', a, e.trans b, r⟩
theorem PostL.trans {c F σ s σ₁ s₁} {Q : List AV → Sg → Prop} (e : Evo σ s.heap σ₁ s₁.heap) {v : List Value} {s' : Shared} (h : PostL c F σ₁ s₁ Q v s') : PostL c F σ s Q v s' :=
  by obtain ⟨x, σ', a, b, q, r⟩ := h; exact ⟨x, σ', a, e.trans b, q, r⟩
theorem FrmPost.trans {c F env σ h σ₁ s₁ B₁ B' σ' s'} (hF : ∀ a ∈ fenv env, a ∈ F) (e : FrmPost c F env σ h B₁ σ₁ s₁) (y : FrmPost c F env σ₁ s₁.heap B' σ' s') : FrmPost c F env σ h B' σ' s' where
  st := y.st
  frm := y.frm
  keep := fun a o q n f => y.keep a o (e.keep a o q n f) (fun m => (e.new a m).elim n (nsn q)) f
  new := fun a m => (y.new a m).elim (e.new a) (absent fun o z hm => (Classical.em (a ∈ wenv env)).elim (fun hf => (e.st.live a (hF a (wenv_sub hf))).ex) fun hf => ⟨o, e.keep a o z hm hf⟩)
/- A step of an expression, as one of a statement. -/
theorem FrmPost.of {c F env σ s σ' s' B} (hF : ∀ a ∈ fenv env, a ∈ F) (x : St c F σ s) (f : Frm c env B (F ++ own σ) s.heap) (y : St c F σ' s') (e : Evo σ s.heap σ' s'.heap) : FrmPost c F env σ s.heap B σ' s' where
  st := y
  frm := f.evo x e hF
  keep := fun a o q n J => e.keep a o q n
  new := e.new
theorem FrmPost.stays {c F env σ s σ' s' B} (hF : ∀ a ∈ fenv env, a ∈ F) (x : St c F σ s) (y : FrmPost c F env σ s.heap B σ' s') : Stays s.heap (F ++ own σ) s'.heap (F ++ own σ') where
  keep := fun a o e n => y.keep a o e (fun m => x.notIn e n (List.mem_append_right _ m)) fun m => x.notIn e n (List.mem_append_left _ (hF a (wenv_sub m)))
  new := fun a m => (List.mem_append.mp m).elim (fun m => .inl (List.mem_append_left _ m)) fun m => (y.new a m).imp (List.mem_append_right _) id
-- Base3

/- The two ways of a truth. -/
noncomputable abbrev Br (z : Bool) (P R : Prop) : Prop := (z = true → P) ∧ (z = false → R)
noncomputable abbrev Br' (z : Bool) (P R : Prop) : Prop := (z = false → P) ∧ (z = true → R)
section
variable {c : Cx} {d : Nat} {sc : Scope} {B : Bs} {σ : Sg}

noncomputable abbrev I (i : Int) : AV := .dat (.int i)
noncomputable abbrev Bo (b : Bool) : AV := .dat (.bool b)
noncomputable abbrev BoE (z : AV) (P : Bool → Prop) : Prop := ∃ b, z = Bo b ∧ P b
noncomputable abbrev DatE (xs : List AV) (P : List PyData → Prop) : Prop := ∃ ds : List PyData, xs = ds.map .dat ∧ decide (ds.length ≤ 100) = true ∧ P ds
noncomputable abbrev S' (x : Str) : AV := .dat (.str x)
noncomputable abbrev Tu (xs : List PyData) : AV := .dat (.tuple xs)
noncomputable abbrev Li (xs : List PyData) : AV := .dat (.list xs)

theorem rp_int {h S i t} : Rp c h S (I i) (.int i t) := ⟨[], .int i t, fun J m => nomatch m⟩
theorem rp_bool {h S b} : Rp c h S (Bo b) (.bool b) := ⟨[], .bool b, fun J m => nomatch m⟩
theorem rp_none {h S} : Rp c h S (.dat .none) .none := ⟨[], .none, fun J m => nomatch m⟩
theorem rp_str {h S x t} : Rp c h S (S' x) (.str x t) := ⟨[], .str x t, fun J m => nomatch m⟩
theorem rp_int' {h S i v} (r : Rp c h S (I i) v) : ∃ t, v = .int i t := by obtain ⟨as, r, J⟩ := r; cases r; exact ⟨_, rfl⟩
theorem rp_bool' {h S b v} (r : Rp c h S (Bo b) v) : v = .bool b := by obtain ⟨as, r, J⟩ := r; cases r; rfl
theorem rp_str' {h S x v} (r : Rp c h S (S' x) v) : ∃ t, v = .str x t := by obtain ⟨as, r, J⟩ := r; cases r; exact ⟨_, rfl⟩

theorem Post.pure {F σ s tk} {Q : AV → Sg → Prop} {x : AV} {v : Value} (st : St c F σ s) (r : Rp c s.heap (F ++ own σ) x v) (h : Q x σ) : Post c F σ s Q v { s with toks := tk } :=
  ⟨x, σ, st.tok, .refl _ _, r, h⟩
theorem Post.here {F σ s} {Q : AV → Sg → Prop} {x : AV} {v : Value} (st : St c F σ s) (r : Rp c s.heap (F ++ own σ) x v) (h : Q x σ) : Post c F σ s Q v s :=
  ⟨x, σ, st, .refl _ _, r, h⟩
theorem PostB.here {α : Type} {F σ s} {Q : α → Sg → Prop} {v : α} (st : St c F σ s) (h : Q v σ) : PostB c F σ s Q v s := ⟨σ, st, .refl _ _, h⟩
theorem PostB.pure {α : Type} {F σ s tk} {Q : α → Sg → Prop} {v : α} (st : St c F σ s) (h : Q v σ) : PostB c F σ s Q v { s with toks := tk } := ⟨σ, st.tok, .refl _ _, h⟩

theorem EvalP.mono {e : Expr} {Q Q' : AV → Sg → Prop} (h : EvalP c d sc B σ e Q) (m : ∀ x σ', Q x σ' → Q' x σ') : EvalP c d sc B σ e Q' := fun A s env F r k hF st f =>
  wpAny_mono (h A s env F r k hF st f) (fun J J ⟨x, σ', a, b, q, z⟩ => ⟨x, σ', a, b, q, m _ _ z⟩) fun J J z => z
theorem TestP.mono {e : Expr} {Q Q' : Bool → Sg → Prop} (h : TestP c d sc B σ e Q) (m : ∀ x σ', Q x σ' → Q' x σ') : TestP c d sc B σ e Q' := fun A s env F r k hF st f =>
  wpAny_mono (h A s env F r k hF st f) (fun J J ⟨σ', a, b, z⟩ => ⟨σ', a, b, m _ _ z⟩) fun J J z => z
theorem ValP.mono {xs t} {Q Q' : AV → Sg → Prop} (h : ValP c d σ xs t Q) (m : ∀ x σ', Q x σ' → Q' x σ') : ValP c d σ xs t Q' := fun A s F vs r st rp =>
  wpAny_mono (h A s F vs r st rp) (fun J J ⟨x, σ', a, b, q, z⟩ => ⟨x, σ', a, b, q, m _ _ z⟩) fun J J z => z
theorem ValP.le {xs t d'} {Q : AV → Sg → Prop} (h : ValP c d' σ xs t Q) (m : d' ≤ d) : ValP c d σ xs t Q := fun A s F vs r st rp => h A s F vs (r.le m) st rp

theorem EvalP.int {i k pos} {Q : AV → Sg → Prop} (h : Q (I i) σ) : EvalP c d sc B σ (.Constant (.int i) k pos) Q := fun A s env F r hk hF st f =>
  wpAny_Constant_int (.pure st rp_int h)
theorem EvalP.str {x k pos} {Q : AV → Sg → Prop} (h : Q (S' x) σ) : EvalP c d sc B σ (.Constant (.str x) k pos) Q := fun A s env F r hk hF st f =>
  wpAny_Constant_str (.pure st rp_str h)
theorem EvalP.bool {b k pos} {Q : AV → Sg → Prop} (h : Q (Bo b) σ) : EvalP c d sc B σ (.Constant (.bool b) k pos) Q := fun A s env F r hk hF st f =>
  wpAny_Constant_bool (.here st rp_bool h)
theorem EvalP.none {k pos} {Q : AV → Sg → Prop} (h : Q (.dat .none) σ) : EvalP c d sc B σ (.Constant .none k pos) Q := fun A s env F r hk hF st f =>
  wpAny_Constant_none (.here st rp_none h)

/- A name of the frame. -/
theorem EvalP.name {n pos k} {x : AV} {Q : AV → Sg → Prop} (hk : sc.names.lookup n = some k) (hx : B.lookup n = some x) (h : Q x σ)
    (hl : k = .local ∨ k = .cell ∨ k = .free := by first | exact .inl rfl | exact .inr (.inl rfl) | exact .inr (.inr rfl)) (hd : autoParam ((n == ("__debug__" : Str)) = false) dcT)
    (hc : autoParam ((n == ("__classdict__" : Str)) = false) dcT) :
    EvalP c d sc B σ (.Name n pos) Q := fun A s env F r k' hF st f => by
  have e := (k'.ki n).trans hk
  have ek : env.scope.kind = .function := by rw [k'.scope]; exact k'.kind
  refine wpAny_Name ?_ hd
  rcases hl with rfl | rfl | rfl
  · obtain ⟨m, q, r⟩ := f.ns
    obtain ⟨v, a, b⟩ := r n x hx e
    exact wpAny_loadName_local ek e q a (.here st b h)
  · obtain ⟨a, v, q, r, t⟩ := f.cell n x hx (.inl e)
    exact wpAny_loadName_cell ek e q r (.here st t h)
  · obtain ⟨a, v, q, r, t⟩ := f.cell n x hx (.inr e)
    exact wpAny_loadName_free ek e q r (.here st t h) hc

noncomputable abbrev binT (op : Operator) : List Value → Sem Value := fun | [v, w] => binaryOp op v w | _ => unsupported ""
noncomputable abbrev unT (op : UnaryOp) : List Value → Sem Value := fun | [v] => unaryOp op v | _ => unsupported ""
theorem EvalP.binop {l r : Expr} {op pos} {Q : AV → Sg → Prop}
    (h : EvalP c d sc B σ l fun x σ₁ => EvalP c d sc B σ₁ r fun y σ₂ => ValP c d σ₂ [x, y] (binT op) Q) : EvalP c d sc B σ (.BinOp l op r pos) Q := fun A s env F rm k hF st f => by
  refine wpAny_BinOp (wpAny_mono (h A s env F rm k hF st f) (fun v s₁ h₁ => ?_) fun J J z => z)
  obtain ⟨x, σ₁, st₁, e₁, r₁, h₁⟩ := h₁
  refine wpAny_mono (h₁ A s₁ env F rm k hF st₁ (f.evo st e₁ hF)) (fun w s₂ h₂ => ?_) fun J J z => z
  obtain ⟨y, σ₂, st₂, e₂, r₂, h₂⟩ := h₂
  exact wpAny_mono (h₂ A s₂ F [v, w] rm st₂ ⟨r₁.stays (st₁.stays e₂), r₂, trivial⟩) (fun J J z => .trans (e₁.trans e₂) z) fun J J z => z

theorem EvalP.unop {e : Expr} {op pos} {Q : AV → Sg → Prop}
    (h : EvalP c d sc B σ e fun x σ₁ => ValP c d σ₁ [x] (unT op) Q) : EvalP c d sc B σ (.UnaryOp op e pos) Q := fun A s env F rm k hF st f => by
  refine wpAny_UnaryOp (wpAny_mono (h A s env F rm k hF st f) (fun v s₁ h₁ => ?_) fun J J z => z)
  obtain ⟨x, σ₁, st₁, e₁, r₁, h₁⟩ := h₁
  exact wpAny_mono (h₁ A s₁ F [v] rm st₁ ⟨r₁, trivial⟩) (fun J J z => .trans e₁ z) fun J J z => z

noncomputable abbrev cmpT (op : CmpOp) : List Value → Sem Value := fun | [v, w] => compareOp op v w | _ => unsupported ""

theorem EvalP.compare {l r : Expr} {op pos} {Q : AV → Sg → Prop}
    (h : EvalP c d sc B σ l fun x σ₁ => EvalP c d sc B σ₁ r fun y σ₂ => ValP c d σ₂ [x, y] (cmpT op) Q) (hb : autoParam (behindInMarks op r = false) flT) : EvalP c d sc B σ (.Compare l [op] [r] pos) Q := fun A s env F rm k hF st f => by
  refine wpAny_Compare1 (hm := hb) (wpAny_mono (h A s env F rm k hF st f) (fun v s₁ h₁ => ?_) fun J J z => z)
  obtain ⟨x, σ₁, st₁, e₁, r₁, h₁⟩ := h₁
  refine wpAny_mono (h₁ A s₁ env F rm k hF st₁ (f.evo st e₁ hF)) (fun w s₂ h₂ => ?_) fun J J z => z
  obtain ⟨y, σ₂, st₂, e₂, r₂, h₂⟩ := h₂
  exact wpAny_mono (h₂ A s₂ F [v, w] rm st₂ ⟨r₁.stays (st₁.stays e₂), r₂, trivial⟩) (fun J J z => .trans (e₁.trans e₂) z) fun J J z => z

/- A truth, known. -/
theorem TestP.compare {l r : Expr} {op pos} {Q : Bool → Sg → Prop}
    (h : EvalP c d sc B σ l fun x σ₁ => EvalP c d sc B σ₁ r fun y σ₂ => ValP c d σ₂ [x, y] (cmpT op) fun z σ₃ => BoE z fun b => Q b σ₃) (hb : autoParam (behindInMarks op r = false) flT) : TestP c d sc B σ (.Compare l [op] [r] pos) Q := fun A s env F rm k hF st f => by
  refine wpAny_isTrue_Compare1 (hm := hb) (wpAny_mono (h A s env F rm k hF st f) (fun v s₁ h₁ => ?_) fun J J z => z)
  obtain ⟨x, σ₁, st₁, e₁, r₁, h₁⟩ := h₁
  refine wpAny_mono (h₁ A s₁ env F rm k hF st₁ (f.evo st e₁ hF)) (fun w s₂ h₂ => ?_) fun J J z => z
  obtain ⟨y, σ₂, st₂, e₂, r₂, h₂⟩ := h₂
  refine wpAny_mono (h₂ A s₂ F [v, w] rm st₂ ⟨r₁.stays (st₁.stays e₂), r₂, trivial⟩) (fun u s₃ h₃ => ?_) fun J J z => z
  obtain ⟨z, σ₃, st₃, e₃, r₃, b, rfl, h₃⟩ := h₃
  rw [rp_bool' r₃]
  exact wpAny_truthy_bool ⟨σ₃, st₃, (e₁.trans e₂).trans e₃, h₃⟩

theorem TestP.not {x : Expr} {pos} {Q : Bool → Sg → Prop} (h : TestP c d sc B σ x fun b σ₁ => Q (!b) σ₁) : TestP c d sc B σ (.UnaryOp .Not x pos) Q := fun A s env F rm k hF st f =>
  wpAny_isTrue_Not (wpAny_mono (h A s env F rm k hF st f) (fun J J ⟨σ', a, b, z⟩ => ⟨σ', a, b, z⟩) fun J J z => z)

/- A test that is no compare, no bool's word: the value's truth. -/
noncomputable def plainTest : Expr → Bool
  | .UnaryOp .Not _ _ => false
  | .BoolOp .. => false
  | .IfExp .. => false
  | .Compare .. => false
  | _ => true

noncomputable def TruP (c : Cx) (d : Nat) (σ : Sg) (x : AV) (Q : Bool → Sg → Prop) : Prop :=
  ∀ (A : Around) (s : Shared) (F : List Addr) (v : Value), Room d A → St c F σ s → Rp c s.heap (F ++ own σ) x v → wpAny c.M A (truthy v) (PostB c F σ s Q) nope s
theorem TruP.bool {b} {Q : Bool → Sg → Prop} (h : Q b σ) : TruP c d σ (Bo b) Q := fun A s F v rm st r => by
  rw [rp_bool' r]; exact wpAny_truthy_bool (.here st h)

set_option tactic.hygienic true in
theorem isTrue_plain {e : Expr} (env : Env) (hp : plainTest e = true) : PySem.isTrue e env (eval e env) = (eval e env >>= fun v => standAt e.pos >>= fun J => holding [v] (truthy v)) := by
  cases e <;> first | rfl | cases hp | (rename_i op _ _; cases op <;> first | rfl | cases hp)
theorem star_cons {e : Expr} (es : List Expr) (env : Env) (pos : Pos) (he : isStarred e = false) : backTo pos (starEach (e :: es) env) = (false, eval e env) :: backTo pos (starEach es env) := by
  cases e <;> first | rfl | cases he
theorem star_not {e : Expr} {es : List Expr} (h : ((e :: es).all fun t => !isStarred t) = true) : isStarred e = false ∧ (es.all fun t => !isStarred t) = true := by
  have := Bool.and_eq_true_iff.mp (show (!isStarred e && es.all fun t => !isStarred t) = true from h)
  exact ⟨Bool.not_eq_true' _ ▸ this.1, this.2⟩
theorem star_any (env : Env) (pos : Pos) : ∀ es : List Expr, (es.all fun t => !isStarred t) = true → (backTo pos (starEach es env)).any (·.1) = false
  | [], _ => rfl
  | e :: es, h => by rw [star_cons es env pos (star_not h).1]; exact star_any env pos es (star_not h).2
theorem star_all (env : Env) (pos : Pos) : ∀ es : List Expr, (es.all fun t => !isStarred t) = true → (backTo pos (starEach es env)).all (!·.1) = true
  | [], _ => rfl
  | e :: es, h => by rw [star_cons es env pos (star_not h).1]; exact star_all env pos es (star_not h).2
theorem star_plain (env : Env) (pos : Pos) (es : List Expr) (h : (es.all fun t => !isStarred t) = true) : ((backTo pos (starEach es env)).any (·.1) || ([] : List (Option Str × Sem Value)).any (·.1.isNone)) = false := by
  rw [star_any env pos es h]; rfl

theorem TestP.value {e : Expr} {Q : Bool → Sg → Prop} (h : EvalP c d sc B σ e fun x σ₁ => TruP c d σ₁ x Q)
    (hp : autoParam (plainTest e = true) trT) : TestP c d sc B σ e Q := fun A s env F rm k hF st f => by
  have key : wpAny c.M A (eval e env >>= fun v => standAt e.pos >>= fun J => holding [v] (truthy v)) (PostB c F σ s Q) nope s := by
    refine wpAny_bind (wpAny_mono (h A s env F rm k hF st f) (fun v s₁ h₁ => ?_) fun J J z => z)
    obtain ⟨x, σ₁, st₁, e₁, r₁, h₁⟩ := h₁
    exact wpAny_bind (wpAny_standAt (wpAny_holding (wpAny_mono (h₁ A s₁ F v rm st₁ r₁) (fun J J z => .trans e₁ z) fun J J z => z)))
  exact (isTrue_plain env hp).symm ▸ key

theorem EvalP.ifexp {t b o : Expr} {pos} {Q : AV → Sg → Prop} (h : TestP c d sc B σ t fun z σ₁ => Br z (EvalP c d sc B σ₁ b Q) (EvalP c d sc B σ₁ o Q)) : EvalP c d sc B σ (.IfExp t b o pos) Q := fun A s env F rm k hF st f => by
  refine wpAny_IfExp (wpAny_mono (h A s env F rm k hF st f) (fun z s₁ h₁ => ?_) fun J J z => z)
  obtain ⟨σ₁, st₁, e₁, h₁, h₂⟩ := h₁
  cases z
  · exact wpAny_mono (h₂ rfl A s₁ env F rm k hF st₁ (f.evo st e₁ hF)) (fun J J z => .trans e₁ z) fun J J z => z
  · exact wpAny_mono (h₁ rfl A s₁ env F rm k hF st₁ (f.evo st e₁ hF)) (fun J J z => .trans e₁ z) fun J J z => z

/- Tests joined by and, or. -/
theorem TestP.and2 {x y : Expr} {pos} {Q : Bool → Sg → Prop} (h : TestP c d sc B σ x fun z σ₁ => Br z (TestP c d sc B σ₁ y Q) (Q false σ₁)) : TestP c d sc B σ (.BoolOp .And [x, y] pos) Q := fun A s env F rm k hF st f => by
  refine wpAny_isTrue_BoolOp (wpAny_allTrue_And_cons (wpAny_mono (h A s env F rm k hF st f) (fun z s₁ h₁ => ?_) fun J J z => z))
  obtain ⟨σ₁, st₁, e₁, h₁, h₂⟩ := h₁
  cases z
  · exact ⟨σ₁, st₁, e₁, h₂ rfl⟩
  · refine wpAny_allTrue_And_cons (wpAny_mono (h₁ rfl A s₁ env F rm k hF st₁ (f.evo st e₁ hF)) (fun z s₂ h₂ => ?_) fun J J z => z)
    have := PostB.trans e₁ h₂
    cases z
    · exact this
    · exact wpAny_allTrue_And_nil this
theorem TestP.or2 {x y : Expr} {pos} {Q : Bool → Sg → Prop} (h : TestP c d sc B σ x fun z σ₁ => Br' z (TestP c d sc B σ₁ y Q) (Q true σ₁)) : TestP c d sc B σ (.BoolOp .Or [x, y] pos) Q := fun A s env F rm k hF st f => by
  refine wpAny_isTrue_BoolOp (wpAny_allTrue_Or_cons (wpAny_mono (h A s env F rm k hF st f) (fun z s₁ h₁ => ?_) fun J J z => z))
  obtain ⟨σ₁, st₁, e₁, h₁, h₂⟩ := h₁
  cases z
  · refine wpAny_allTrue_Or_cons (wpAny_mono (h₁ rfl A s₁ env F rm k hF st₁ (f.evo st e₁ hF)) (fun z s₂ h₂ => ?_) fun J J z => z)
    have := PostB.trans e₁ h₂
    cases z
    · exact wpAny_allTrue_Or_nil this
    · exact this
  · exact ⟨σ₁, st₁, e₁, h₂ rfl⟩
theorem TestP.and3 {x y w : Expr} {pos} {Q : Bool → Sg → Prop} (h : TestP c d sc B σ x fun z σ₁ => Br z (TestP c d sc B σ₁ y fun z σ₂ => Br z (TestP c d sc B σ₂ w Q) (Q false σ₂)) (Q false σ₁)) :
    TestP c d sc B σ (.BoolOp .And [x, y, w] pos) Q := fun A s env F rm k hF st f => by
  refine wpAny_isTrue_BoolOp (wpAny_allTrue_And_cons (wpAny_mono (h A s env F rm k hF st f) (fun z s₁ h₁ => ?_) fun J J z => z))
  obtain ⟨σ₁, st₁, e₁, h₁, h₂⟩ := h₁
  cases z
  · exact ⟨σ₁, st₁, e₁, h₂ rfl⟩
  · refine wpAny_allTrue_And_cons (wpAny_mono (h₁ rfl A s₁ env F rm k hF st₁ (f.evo st e₁ hF)) (fun z s₂ h₂ => ?_) fun J J z => z)
    obtain ⟨σ₂, st₂, e₂, h₃, h₄⟩ := h₂
    cases z
    · exact ⟨σ₂, st₂, e₁.trans e₂, h₄ rfl⟩
    · refine wpAny_allTrue_And_cons (wpAny_mono (h₃ rfl A s₂ env F rm k hF st₂ ((f.evo st e₁ hF).evo st₁ e₂ hF)) (fun z s₃ h₃ => ?_) fun J J z => z)
      have := PostB.trans (e₁.trans e₂) h₃
      cases z
      · exact this
      · exact wpAny_allTrue_And_nil this

/- Values joined by and, or: what is left of known truths. -/
theorem EvalP.and2 {x y : Expr} {pos} {Q : AV → Sg → Prop} (h : EvalP c d sc B σ x fun u σ₁ => TruP c d σ₁ u fun z σ₂ => Br z (EvalP c d sc B σ₂ y Q) (Q u σ₂))
    : EvalP c d sc B σ (.BoolOp .And [x, y] pos) Q := fun A s env F rm k hF st f => by
  refine wpAny_And2 (wpAny_mono (h A s env F rm k hF st f) (fun v s₁ h₁ => ?_) fun J J z => z)
  obtain ⟨u, σ₁, st₁, e₁, r₁, h₁⟩ := h₁
  refine wpAny_mono (h₁ A s₁ F v rm st₁ r₁) (fun b s₂ h₂ => ?_) fun J J z => z
  obtain ⟨σ₂, st₂, e₂, h₂, h₃⟩ := h₂
  cases b
  · exact ⟨u, σ₂, st₂, e₁.trans e₂, r₁.stays (st₁.stays e₂), h₃ rfl⟩
  · exact wpAny_mono (h₂ rfl A s₂ env F rm k hF st₂ ((f.evo st e₁ hF).evo st₁ e₂ hF)) (fun J J z => .trans (e₁.trans e₂) z) fun J J z => z
theorem EvalP.or2 {x y : Expr} {pos} {Q : AV → Sg → Prop} (h : EvalP c d sc B σ x fun u σ₁ => TruP c d σ₁ u fun z σ₂ => Br' z (EvalP c d sc B σ₂ y Q) (Q u σ₂))
    : EvalP c d sc B σ (.BoolOp .Or [x, y] pos) Q := fun A s env F rm k hF st f => by
  refine wpAny_Or2 (wpAny_mono (h A s env F rm k hF st f) (fun v s₁ h₁ => ?_) fun J J z => z)
  obtain ⟨u, σ₁, st₁, e₁, r₁, h₁⟩ := h₁
  refine wpAny_mono (h₁ A s₁ F v rm st₁ r₁) (fun b s₂ h₂ => ?_) fun J J z => z
  obtain ⟨σ₂, st₂, e₂, h₂, h₃⟩ := h₂
  cases b
  · exact wpAny_mono (h₂ rfl A s₂ env F rm k hF st₂ ((f.evo st e₁ hF).evo st₁ e₂ hF)) (fun J J z => .trans (e₁.trans e₂) z) fun J J z => z
  · exact ⟨u, σ₂, st₂, e₁.trans e₂, r₁.stays (st₁.stays e₂), h₃ rfl⟩

theorem EvalsP.nil {Q : List AV → Sg → Prop} (h : Q [] σ) : EvalsP c d sc B σ [] Q := fun A s env F pos rm k hF st f => wpAny_items_nil ⟨[], σ, st, .refl _ _, trivial, h⟩
theorem EvalsP.cons {e : Expr} {es : List Expr} {Q : List AV → Sg → Prop} (h : EvalP c d sc B σ e fun x σ₁ => EvalsP c d sc B σ₁ es fun xs σ₂ => Q (x :: xs) σ₂) (he : autoParam (isStarred e = false) flT) :
    EvalsP c d sc B σ (e :: es) Q := fun A s env F pos rm k hF st f => by
  rw [star_cons es env pos he]
  refine Calls.spliced_cons (wpAny_mono (h A s env F rm k hF st f) (fun v s₁ h₁ => ?_) fun J J z => z)
  obtain ⟨x, σ₁, st₁, e₁, r₁, h₁⟩ := h₁
  refine wpAny_mono (h₁ A s₁ env F pos rm k hF st₁ (f.evo st e₁ hF)) (fun vs s₂ h₂ => ?_) fun J J z => z
  obtain ⟨xs, σ₂, st₂, e₂, r₂, h₂⟩ := h₂
  exact ⟨x :: xs, σ₂, st₂, e₁.trans e₂, ⟨r₁.stays (st₁.stays e₂), r₂⟩, h₂⟩
end
-- Base4

section
variable {c : Cx} {d : Nat} {sc : Scope} {B : Bs} {σ : Sg} {N : Bs → Sg → Prop} {R : AV → Sg → Prop}

theorem PostS.next {F env s B' σ' s'} (h : FrmPost c F env σ s.heap B' σ' s') (n : N B' σ') : PostS c F env σ s N R .next s' := ⟨B', σ', h, n⟩
theorem PostS.trans {F env s σ₁ s₁ B₁} (hF : ∀ a ∈ fenv env, a ∈ F) (e : FrmPost c F env σ s.heap B₁ σ₁ s₁) {f : Flow} {s' : Shared} (h : PostS c F env σ₁ s₁ N R f s') : PostS c F env σ s N R f s' := by
  cases f with
  | next => obtain ⟨B', σ', a, b⟩ := h; exact ⟨B', σ', e.trans hF a, b⟩
  | ret v => obtain ⟨x, B', σ', a, b, r⟩ := h; exact ⟨x, B', σ', e.trans hF a, b, r⟩
  | brk => exact h
  | cont => exact h

theorem ExecsP.nil (h : N B σ) : ExecsP c d sc B σ [] N R := fun A s env F rm k hF st f =>
  wpAny_execs_nil (.next (.of hF st f st (.refl _ _)) h)
theorem ExecsP.cons {st : Stmt} {rest : List Stmt} (h : ExecP c d sc B σ st (fun B' σ' => ExecsP c d sc B' σ' rest N R) R) : ExecsP c d sc B σ (st :: rest) N R := fun A s env F rm k hF sx f => by
  refine wpAny_execs_cons (wpAny_mono (h A s env F rm k hF sx f) (fun fl s₁ h₁ => ?_) fun J J z => z)
  cases fl with
  | next =>
    obtain ⟨B', σ', a, b⟩ := h₁
    exact wpAny_mono (b A s₁ env F rm k hF a.st a.frm) (fun J J z => .trans hF a z) fun J J z => z
  | ret v => exact h₁
  | brk => exact h₁
  | cont => exact h₁

theorem ExecsP.mono {sts : List Stmt} {N' R'} (h : ExecsP c d sc B σ sts N R) (hN : ∀ B' σ', N B' σ' → N' B' σ') (hR : ∀ x σ', R x σ' → R' x σ') : ExecsP c d sc B σ sts N' R' := fun A s env F rm k hF st f =>
  wpAny_mono (h A s env F rm k hF st f) (fun fl s₁ h₁ => by
    cases fl with
    | next => obtain ⟨B', σ', a, b⟩ := h₁; exact ⟨B', σ', a, hN _ _ b⟩
    | ret v => obtain ⟨x, B', σ', a, b, r⟩ := h₁; exact ⟨x, B', σ', a, b, hR _ _ r⟩
    | brk => exact h₁
    | cont => exact h₁) fun J J z => z

theorem ExecP.ret {e pos} (h : EvalP c d sc B σ e R) : ExecP c d sc B σ (.Return (some e) pos) N R := fun A s env F rm k hF st f => by
  refine wpAny_Return_some (wpAny_mono (h A s env F rm k hF st f) (fun v s₁ h₁ => ?_) fun J J z => z)
  obtain ⟨x, σ₁, st₁, e₁, r₁, h₁⟩ := h₁
  exact ⟨x, B, σ₁, .of hF st f st₁ e₁, r₁, h₁⟩
theorem ExecP.ret0 {pos} (h : R (.dat .none) σ) : ExecP c d sc B σ (.Return none pos) N R := fun A s env F rm k hF st f => by
  exact wpAny_Return_none ⟨_, B, σ, .of hF st f st (.refl _ _), rp_none, h⟩

theorem ExecP.if_ {t b o pos} (h : TestP c d sc B σ t fun z σ₁ => Br z (ExecsP c d sc B σ₁ b N R) (ExecsP c d sc B σ₁ o N R)) : ExecP c d sc B σ (.If t b o pos) N R := fun A s env F rm k hF st f => by
  refine wpAny_If (wpAny_mono (h A s env F rm k hF st f) (fun z s₁ h₁ => ?_) fun J J z => z)
  obtain ⟨σ₁, st₁, e₁, h₁, h₂⟩ := h₁
  have fp : FrmPost c F env σ s.heap B σ₁ s₁ := .of hF st f st₁ e₁
  cases z
  · rw [if_neg (by decide)]
    exact wpAny_mono (h₂ rfl A s₁ env F rm k hF st₁ fp.frm) (fun J J z => .trans hF fp z) fun J J z => z
  · rw [if_pos rfl]
    exact wpAny_mono (h₁ rfl A s₁ env F rm k hF st₁ fp.frm) (fun J J z => .trans hF fp z) fun J J z => z

theorem interactive_no {env : Env} (k : EnvOK sc env) : interactive env = false := by
  have : env.scope.kind = .function := by rw [k.scope]; exact k.kind
  unfold interactive; rw [this]; rfl

noncomputable def notComp : Expr → Bool
  | .ListComp .. => false
  | .SetComp .. => false
  | .DictComp .. => false
  | _ => true
theorem assign_cons {t : Expr} (r : List Expr) (env : Env) (h : isStarred t = false) : assignEach (t :: r) env = (false, PySem.assign t env) :: assignEach r env := by
  cases t <;> first | rfl | cases h
theorem assign_one {t : Expr} (env : Env) (h : isStarred t = false) : (assignEach [t] env).map (·.2) = [PySem.assign t env] := congrArg (List.map (·.2)) (assign_cons [] env h)
theorem noSwap {e : Expr} {t line env} (h : notComp e = true) : swapsWith e t line env = pure false := by
  cases e <;> first | rfl | cases h

theorem ExecP.expr {e pos} (h : EvalP c d sc B σ e fun J σ' => N B σ') (hc : autoParam (notComp e = true) trT) : ExecP c d sc B σ (.Expr e pos) N R := fun A s env F rm k hF st f => by
  refine wpAny_Expr_any (wpAny_mono (h A s env F rm k hF st f) (fun v s₁ h₁ => ?_) fun J J z => z) (interactive_no k) (noSwap hc)
  obtain ⟨x, σ₁, st₁, e₁, r₁, h₁⟩ := h₁
  exact .next (.of hF st f st₁ e₁) h₁

/- The frame behind a store. -/
theorem frm_store {F env s h' n x v} (st : St c F σ s) (f : Frm c env B (F ++ own σ) s.heap) (hF : ∀ a ∈ fenv env, a ∈ F) (r : Rp c s.heap (F ++ own σ) x v) {tk : Nat}
    {a : Addr} (ha : a ∈ wenv env) (hs : Heap.SameBut a s.heap h') (hm : MutAt h' a)
    (hb : (a = env.locals ∧ env.kindOf n = some .local ∧ ∃ m, s.heap.Ns env.locals m ∧ h'.Ns env.locals (fun y => if y = n then some v else m y) ∧ ∀ k u, B.lookup k = some u → env.kindOf k = some .local → ∃ v, m k = some v ∧ Rp c s.heap (F ++ own σ) u v) ∨
      (env.cells.lookup n = some a ∧ (env.kindOf n = some .cell) ∧ h'.IsCell a (some v))) :
    FrmPost c F env σ s.heap ((n, x) :: B) σ { s with heap := h', toks := tk } := by
  have haF := hF _ (wenv_sub ha)
  have keep : ∀ b o, b ≠ a → s.heap.get? b = some o → h'.get? b = some o := fun b o q e => (hs.2 b q).trans e
  obtain ⟨st', sty⟩ := st.move (F' := F) (s' := { s with heap := h', toks := tk }) [a] (fun b m => List.mem_singleton.mp m ▸ haF) (fun b o nb => keep b o fun z => nb (z ▸ .head _)) (fun b m J => List.mem_singleton.mp m ▸ hm) fun J m => .inl m
  refine ⟨st', fun b o e J nf => keep b o (fun q => nf (q ▸ ha)) e, fun b m => .inl m, ?_⟩
  obtain ⟨m, q, rr⟩ := f.ns
  have hL : ∀ k b, env.cells.lookup k = some b → b ≠ env.locals := fun k b e z => by
    obtain ⟨u, o, e1, e2⟩ := f.cells k b e
    obtain ⟨o', J, J, e3, e4, J⟩ := q
    rw [get_inj e1 z e3, e4] at e2; cases e2
  rcases hb with ⟨rfl, hk, m', q', q'', rr'⟩ | ⟨hl, hk, hc⟩
  · exact ⟨⟨_, q'', fun k u e kk => (lk_split e).elim (fun z => ⟨v, if_pos z.1, z.2 ▸ r.stays sty⟩) fun z => (rr' k u z.2 kk).elim fun w y => ⟨w, (if_neg z.1).trans y.1, y.2.stays sty⟩⟩,
      fun k u e kk => (lk_split e).elim (fun z => by rw [z.1, hk] at kk; exact kk.elim nofun nofun) fun z => by
        obtain ⟨b, w, a1, a2, a4⟩ := f.cell k u z.2 kk
        exact ⟨b, w, a1, cell_at a2 fun o => keep b o (hL k b a1), a4.stays sty⟩,
      fun k b e => (f.cells k b e).elim fun w y => ⟨w, cell_at y fun o => keep b o (hL k b e)⟩, f.cnd⟩
  · exact ⟨⟨m, q.at' fun o => keep _ o fun z => hL n a hl z.symm, fun k u e kk => (lk_split e).elim (fun z => by rw [z.1, hk] at kk; cases kk) fun z => (rr k u z.2 kk).elim fun w y => ⟨w, y.1, y.2.stays sty⟩⟩,
      fun k u e kk => (lk_split e).elim (fun z => ⟨a, v, z.1 ▸ hl, hc, z.2 ▸ r.stays sty⟩) fun z => by
        obtain ⟨b, w, a1, a2, a4⟩ := f.cell k u z.2 kk
        exact ⟨b, w, a1, cell_at a2 fun o => keep b o fun y => z.1 (f.cnd _ _ _ a1 (y ▸ hl)), a4.stays sty⟩,
      fun k b e => (Classical.em (b = a)).elim (fun y => ⟨_, y ▸ hc⟩) fun y => (f.cells k b e).elim fun w z => ⟨w, cell_at z fun o => keep b o y⟩, f.cnd⟩

theorem storeP {n : Str} {k : NameKind} {x : AV} (hk : sc.names.lookup n = some k) (h : N ((n, x) :: B) σ) (hl : k = .local ∨ (k = .cell ∧ sc.names.lookup (".0" : Str) = none))
    {A s env F v} (rm : Room d A) (ke : EnvOK sc env) (hF : ∀ a ∈ fenv env, a ∈ F) (st : St c F σ s) (f : Frm c env B (F ++ own σ) s.heap) (r : Rp c s.heap (F ++ own σ) x v) :
    wpAny c.M A (storeName env n v) (fun J s' => PostN c F env σ s.heap N s') nope s := by
  have e := (ke.ki n).trans hk
  have ek : env.scope.kind = .function := by rw [ke.scope]; exact ke.kind
  rcases hl with rfl | ⟨rfl, h0⟩
  · obtain ⟨m, q, rr⟩ := f.ns
    refine wpAny_storeName_local e q (fun h' hn hs => ⟨_, σ, frm_store st f hF r (List.mem_cons_self ..) hs ?_ (.inl ⟨rfl, e, m, q, hn, rr⟩), h⟩) (by rw [ek]; rfl)
    obtain ⟨o, es, ep, ho, hd, J⟩ := hn
    exact ⟨o, ho, .inr (.inl ⟨_, _, hd⟩)⟩
  · obtain ⟨a, ha⟩ := Option.isSome_iff_exists.mp (ke.cl n hk)
    obtain ⟨v0, hv0⟩ := f.cells n a ha
    refine wpAny_storeName_cell ek e ha hv0 fun h' hc' hs => ⟨_, σ, frm_store st f hF r (mem_wenv (ke.fs h0) ha) hs ?_ (.inr ⟨ha, e, hc'⟩), h⟩
    obtain ⟨o, ho, hd⟩ := hc'
    exact ⟨o, ho, .inr (.inr (.inl ⟨_, hd⟩))⟩

theorem AsgP.name {n : Str} {k : NameKind} {x : AV} {pos} (hk : sc.names.lookup n = some k) (h : N ((n, x) :: B) σ) (hl : k = .local ∨ (k = .cell ∧ sc.names.lookup (".0" : Str) = none) := by first | exact .inl rfl | exact .inr ⟨rfl, rfl⟩) :
    AsgP c d sc B σ (.Name n pos) x N := fun A s env F v rm ke hF st f r => assign_Name (storeP hk h hl rm ke hF st f r)

/- Several targets take several values, in their order. -/
noncomputable def AsgsP (c : Cx) (d : Nat) (sc : Scope) (B : Bs) (σ : Sg) (ts : List Expr) (xs : List AV) (N : Bs → Sg → Prop) : Prop :=
  ∀ (A : Around) (s : Shared) (env : Env) (F : List Addr) (vs : List Value), Room d A → EnvOK sc env → (∀ a ∈ fenv env, a ∈ F) → St c F σ s → Frm c env B (F ++ own σ) s.heap → RpAll c s.heap (F ++ own σ) xs vs →
    wpAny c.M A (assignInOrder (ts.map fun t => assign t env) vs) (fun J s' => PostN c F env σ s.heap N s') nope s

theorem AsgsP.nil (h : N B σ) : AsgsP c d sc B σ [] [] N := fun A s env F vs rm ke hF st f r => by
  cases vs with
  | nil => exact wpAny_pure ⟨B, σ, .of hF st f st (.refl _ _), h⟩
  | cons J J => exact r.elim
theorem AsgsP.cons {t : Expr} {ts : List Expr} {x : AV} {xs : List AV} (h : AsgP c d sc B σ t x fun B₁ σ₁ => AsgsP c d sc B₁ σ₁ ts xs N) : AsgsP c d sc B σ (t :: ts) (x :: xs) N := fun A s env F vs rm ke hF st f r => by
  cases vs with
  | nil => exact r.elim
  | cons v vs =>
    show wpAny _ _ (holding vs (assign t env v) >>= fun J => assignInOrder _ vs) _ _ _
    refine wpAny_bind (wpAny_holding (wpAny_mono (h A s env F v rm ke hF st f r.1) (fun J s₁ h₁ => ?_) fun J J z => z))
    obtain ⟨B₁, σ₁, f₁, h₁⟩ := h₁
    refine wpAny_mono (h₁ A s₁ env F vs rm ke hF f₁.st f₁.frm (r.2.stays (f₁.stays hF st))) (fun J s₂ h₂ => ?_) fun J J z => z
    obtain ⟨B₂, σ₂, f₂, h₂⟩ := h₂
    exact ⟨B₂, σ₂, f₁.trans hF f₂, h₂⟩

theorem starFree : ∀ {ts : List Expr}, (ts.all fun t => !isStarred t) = true → ∀ env, assignEach ts env = ts.map fun t => (false, assign t env)
  | [], _, _ => rfl
  | t :: r, h, env => by
    rw [assign_cons r env (star_not h).1, starFree (star_not h).2 env]; rfl

theorem rpAll_of {h S} {vs : List Value} {ds : List PyData} {as : List Addr} (r : RdAll h vs ds as) : (∀ a ∈ as, a ∉ S) → RpAll c h S (ds.map .dat) vs :=
  RdAll.rec (motive_1 := fun J J J J => True) (motive_2 := fun vs ds as J => (∀ a ∈ as, a ∉ S) → RpAll c h S (ds.map .dat) vs) trivial (fun J => trivial) (fun J J => trivial) (fun J J => trivial) (fun J J J J J J => trivial) (fun J J J J J J => trivial)
    (fun J => trivial) (fun r J J ih n => ⟨⟨_, r, fun a m => n a (List.mem_append_left _ m)⟩, ih fun a m => n a (List.mem_append_right _ m)⟩) r

/- A tuple's items are handed to as many targets. -/
theorem AsgP.tuple {ts : List Expr} {k pos} {ds : List PyData} (h : AsgsP c d sc B σ ts (ds.map .dat) N) (hn : autoParam (ts.length = ds.length) krT) (hs : autoParam ((ts.all fun t => !isStarred t) = true) trT) :
    AsgP c d sc B σ (.Tuple ts k pos) (Tu ds) N := fun A s env F v rm ke hF st f r => by
  obtain ⟨as, r, na⟩ := r
  cases r with
  | @tuple a o vs n _ _ ho hc hd ra =>
    have e1 := starFree hs env
    refine wpAny_assign_Tuple rm.handled ⟨o, ho, hc, n, hd⟩ ?_ ?_ fun h' hx => ?_
    · rw [e1, List.length_map, hn]
      rw [← PySem.SeqAt.ReadsAll.length _ _ _ ra.reads, Array.length_toList]
    · rw [e1]
      rw [List.findIdx?_eq_none_iff]
      intro x hx
      obtain ⟨t, J, rfl⟩ := List.mem_map.mp hx
      rfl
    · have kp : ∀ b o, s.heap.get? b = some o → h'.get? b = some o := fun b o e => hx b o (Nat.ne_of_lt (Heap.lt_size e)) e
      rw [e1, List.map_map]
      have st' : St c F σ { s with heap := h' } := st.on kp
      have ev : Evo σ s.heap σ h' := .on σ kp
      refine wpAny_mono (h A { s with heap := h' } env F vs.toList rm ke hF st' (f.evo st ev hF) ((rpAll_of ra na).stays (st.stays ev))) (fun J s₂ h₂ => ?_) fun J J z => z
      obtain ⟨B₂, σ₂, f₂, h₂⟩ := h₂
      exact ⟨B₂, σ₂, (FrmPost.of hF st f st' ev).trans hF f₂, h₂⟩

theorem swappedStores_env (ts : List Expr) (v : Expr) (env : Env) : swappedStores ts v env = swappedStores ts v { (default : Env) with scope := env.scope } := rfl

/- One target takes a value that is no comprehension, no tuple display. -/
theorem ExecP.assign {t e : Expr} {pos} (h : EvalP c d sc B σ e fun x σ₁ => AsgP c d sc B σ₁ t x N) (hc : autoParam (notComp e = true) trT)
    (hw : autoParam (swappedStores [t] e { (default : Env) with scope := sc } = pure none) krT) (hs : autoParam (isStarred t = false) flT) : ExecP c d sc B σ (.Assign [t] e pos) N R := fun A s env F rm ke hF st f => by
  rw [exec_Assign]
  refine wpAny_bind (wpAny_standAt ?_)
  have e1 : swapsWithSole [t] e pos.line env = pure false := by show swapsWith e (some t) pos.line env = _; exact noSwap hc
  rw [e1]
  refine wpAny_bind (wpAny_pure ?_)
  rw [if_neg (by decide)]
  refine wpAny_bind (wpAny_mono (h A s env F rm ke hF st f) (fun v s₁ h₁ => ?_) fun J J z => z)
  obtain ⟨x, σ₁, st₁, e₁, r₁, h₁⟩ := h₁
  have e2 : swappedStores [t] e env = pure none := by rw [swappedStores_env, ke.scope]; exact hw
  rw [e2]
  refine wpAny_bind (wpAny_pure ?_)
  have fp : FrmPost c F env σ s.heap B σ₁ s₁ := .of hF st f st₁ e₁
  have e3 := assign_one env hs
  have key : wpAny c.M A (PySem.assign t env v) (fun J s' => PostS c F env σ s N R .next s') nope s₁ :=
    wpAny_mono (h₁ A s₁ env F v rm ke hF st₁ fp.frm r₁) (fun J s₂ h₂ => by
      obtain ⟨B₂, σ₂, f₂, h₂⟩ := h₂
      exact ⟨B₂, σ₂, fp.trans hF f₂, h₂⟩) fun J J z => z
  rw [e3]
  exact wpAny_bind (wpAny_mono key (fun J J x => wpAny_pure x) fun J J x => x)

theorem le_line {n m : Nat} (h : decide (n ≤ 100) = true) (e : n = m) : m ≤ sizeLine := by
  subst e; exact Nat.le_trans (of_decide_eq_true h) (by decide)

theorem rpAll_len {h S} : ∀ {xs : List AV} {vs : List Value}, RpAll c h S xs vs → xs.length = vs.length
  | [], [], _ => rfl
  | _ :: _, _ :: _, ⟨_, b⟩ => by simp [rpAll_len b]
  | [], _ :: _, q => q.elim
  | _ :: _, [], q => q.elim

/- A tuple's display handed to as many targets at once. -/
theorem ExecP.assigns {ts es : List Expr} {k k' pos pos' pos''} (h : EvalsP c d sc B σ es fun xs σ₁ => AsgsP c d sc B σ₁ ts xs N ∧ ts.length = xs.length)
    (hw : autoParam (swappedStores [.Tuple ts k pos'] (.Tuple es k' pos'') { (default : Env) with scope := sc } = pure none) krT) (hs : autoParam ((ts.all fun t => !isStarred t) = true) trT) (hz : autoParam (decide (ts.length ≤ 100) = true) trT) :
    ExecP c d sc B σ (.Assign [.Tuple ts k pos'] (.Tuple es k' pos'') pos) N R := fun A s env F rm ke hF st f => by
  refine Assign_Tuple ?_ rfl (by rw [swappedStores_env, ke.scope]; exact hw)
  refine wpAny_Tuple_spliced (wpAny_mono (h A s env F pos'' rm ke hF st f) (fun vs s₁ h₁ => ?_) fun J J z => z)
  obtain ⟨xs, σ₁, st₁, e₁, r₁, h₁, hl⟩ := h₁
  have hvl := rpAll_len r₁
  refine ⟨le_line hz (by first | exact hl.trans hvl | exact hl'.trans hvl), ?_⟩
  have kp : ∀ b o, s₁.heap.get? b = some o → (s₁.heap.push { cls := .type "tuple", data := .seq vs.toArray }).get? b = some o := fun b o e => Heap.get?_push_of_some _ e
  have e1 := starFree hs env
  refine wpAny_assign_Tuple rm.handled (items := vs.toArray) ⟨_, Heap.get?_push_size _ rfl, rfl, 0, rfl⟩ (by rw [e1]; simp [hl, hvl]) ?_ fun h' hx => ?_
  · rw [e1, List.findIdx?_eq_none_iff]
    intro x hx
    obtain ⟨t, J, rfl⟩ := List.mem_map.mp hx
    rfl
  · have kp' : ∀ b o, s₁.heap.get? b = some o → h'.get? b = some o := fun b o e => hx b o (Nat.ne_of_lt (Nat.lt_of_lt_of_le (Heap.lt_size e) (by show _ ≤ (Heap.push _ _).objs.size; rw [Heap.size_push]; exact Nat.le_succ _))) (kp b o e)
    rw [e1, List.map_map]
    have st' : St c F σ₁ { s₁ with heap := h' } := st₁.on kp'
    have ev : Evo σ₁ s₁.heap σ₁ h' := .on σ₁ kp'
    have fp : FrmPost c F env σ s.heap B σ₁ { s₁ with heap := h' } := .of hF st f st' (e₁.trans ev)
    refine wpAny_mono (h₁ A { s₁ with heap := h' } env F vs rm ke hF st' fp.frm (r₁.stays (st₁.stays ev))) (fun J s₂ h₂ => ?_) fun J J z => z
    obtain ⟨B₂, σ₂, f₂, h₂⟩ := h₂
    exact ⟨B₂, σ₂, fp.trans hF f₂, h₂⟩

/- Values stored under names of the frame, one behind the other. -/
theorem storesP {F} {A : Around} {env : Env} (rm : Room d A) (ke : EnvOK sc env) (hF : ∀ a ∈ fenv env, a ∈ F) (ns : List Str) : ∀ (xs : List AV) (vs : List Value) (s : Shared) (B : Bs), (ns.all fun n => sc.names.lookup n == some .local) = true → ns.length = xs.length →
    St c F σ s → Frm c env B (F ++ own σ) s.heap → RpAll c s.heap (F ++ own σ) xs vs → wpAny c.M A (assignInOrder (ns.map fun n => bindName env n) vs) (fun J s' => FrmPost c F env σ s.heap ((ns.zip xs).reverse ++ B) σ s') nope s := by
  induction ns with
  | nil =>
    intro xs vs s B J hn st f r
    cases xs with
    | nil =>
      cases vs with
      | nil => exact wpAny_pure (.of hF st f st (.refl _ _))
      | cons J J => exact r.elim
    | cons J J => simp at hn
  | cons n ns ih =>
    intro xs vs s B hl hn st f r
    cases xs with
    | nil => simp at hn
    | cons x xs =>
    cases vs with
    | nil => exact r.elim
    | cons v vs =>
      obtain ⟨h1, h2⟩ := Bool.and_eq_true_iff.mp (show ((sc.names.lookup n == some .local) && ns.all fun n => sc.names.lookup n == some .local) = true from hl)
      show wpAny _ _ (holding vs (bindName env n v) >>= fun J => assignInOrder _ vs) _ _ _
      refine wpAny_bind (wpAny_holding (bindName_ (wpAny_mono (storeP (N := fun B' σ' => B' = (n, x) :: B ∧ σ' = σ) (eq_of_beq h1) ⟨rfl, rfl⟩ (.inl rfl) rm ke hF st f r.1) (fun J s₁ h₁ => ?_) fun J J z => z)))
      obtain ⟨J, J, f₁, rfl, rfl⟩ := h₁
      refine wpAny_mono (ih xs vs s₁ _ h2 (by simpa using hn) f₁.st f₁.frm (r.2.stays (f₁.stays hF st))) (fun J s₂ h₂ => ?_) fun J J z => z
      have := f₁.trans hF h₂
      simpa [List.zip_cons_cons, List.reverse_cons, List.append_assoc] using this

theorem zip_rev {α β : Type} : ∀ {l : List α} {r : List β}, l.length = r.length → l.reverse.zip r.reverse = (l.zip r).reverse
  | [], [], _ => rfl
  | a :: l, b :: r, h => by
    have hl : l.length = r.length := by simpa using h
    rw [List.reverse_cons, List.reverse_cons, List.zip_append (by simpa using hl), zip_rev hl]; simp
  | [], _ :: _, h => by simp at h
  | _ :: _, [], h => by simp at h

theorem rpAll_rev {h S} : ∀ {xs : List AV} {vs : List Value} {ys : List AV} {us : List Value}, RpAll c h S xs vs → RpAll c h S ys us → RpAll c h S (xs.reverseAux ys) (vs.reverseAux us)
  | [], [], _, _, _, h' => h'
  | x :: _, v :: _, ys, us, h, h' => rpAll_rev (ys := x :: ys) (us := v :: us) h.2 ⟨h.1, h'⟩
  | [], _ :: _, _, _, q, _ => q.elim
  | _ :: _, [], _, _, q, _ => q.elim

/- The same where all targets are names of the frame: stored last to first. -/
theorem ExecP.swapped {ts es : List Expr} {ns : List Str} {k k' pos pos' pos''} (h : EvalsP c d sc B σ es fun xs σ₁ => N (ns.zip xs ++ B) σ₁ ∧ ns.length = xs.length)
    (hw : autoParam (swappedStores [.Tuple ts k pos'] (.Tuple es k' pos'') { (default : Env) with scope := sc } = pure (some ns)) krT) (hz : autoParam (decide (ns.length ≤ 100) = true) trT)
    (hl : autoParam ((ns.all fun n => sc.names.lookup n == some .local) = true) trT) :
    ExecP c d sc B σ (.Assign [.Tuple ts k pos'] (.Tuple es k' pos'') pos) N R := fun A s env F rm ke hF st f => by
  refine Assign_Tuple_swapped (names := ns) ?_ rfl (by rw [swappedStores_env, ke.scope]; exact hw)
  refine wpAny_Tuple_spliced (wpAny_mono (h A s env F pos'' rm ke hF st f) (fun vs s₁ h₁ => ?_) fun J J z => z)
  obtain ⟨xs, σ₁, st₁, e₁, r₁, h₁, hl'⟩ := h₁
  have hvl := rpAll_len r₁
  refine ⟨le_line hz (by first | exact hl.trans hvl | exact hl'.trans hvl), ?_⟩
  have kp : ∀ b o, s₁.heap.get? b = some o → (s₁.heap.push { cls := .type "tuple", data := .seq vs.toArray }).get? b = some o := fun b o e => Heap.get?_push_of_some _ e
  have hsz : ns.length = vs.toArray.size := by simp [hl', hvl]
  rw [hsz]
  refine wpAny_unpackItems_tuple rm.handled (items := vs.toArray) ⟨_, Heap.get?_push_size _ rfl, rfl, 0, rfl⟩ fun h' hx => ?_
  have kp' : ∀ b o, s₁.heap.get? b = some o → h'.get? b = some o := fun b o e => hx b o (Nat.ne_of_lt (Nat.lt_of_lt_of_le (Heap.lt_size e) (by show _ ≤ (Heap.push _ _).objs.size; rw [Heap.size_push]; exact Nat.le_succ _))) (kp b o e)
  have st' : St c F σ₁ { s₁ with heap := h' } := st₁.on kp'
  have ev : Evo σ₁ s₁.heap σ₁ h' := .on σ₁ kp'
  have fp : FrmPost c F env σ s.heap B σ₁ { s₁ with heap := h' } := .of hF st f st' (e₁.trans ev)
  have rr : RpAll c s₁.heap (F ++ own σ₁) xs.reverse vs.reverse := by
    have := rpAll_rev (ys := []) (us := []) r₁ trivial
    rwa [List.reverseAux_eq, List.reverseAux_eq, List.append_nil, List.append_nil] at this
  have hz : ns.reverse.zip xs.reverse = (ns.zip xs).reverse := zip_rev hl'
  refine wpAny_mono (storesP rm ke hF ns.reverse xs.reverse vs.reverse { s₁ with heap := h' } B (by rw [List.all_reverse]; exact hl) (by simpa using hl') st' fp.frm (rr.stays (st₁.stays ev))) (fun J s₂ h₂ => ?_) fun J J z => z
  rw [hz, List.reverse_reverse] at h₂
  exact ⟨_, _, fp.trans hF h₂, h₁⟩
end
-- Base5

theorem cellsFrom_some : ∀ (names : List (Str × NameKind)) (n : Nat) (acc : List (Str × Addr)) (x : Str), (names.lookup x = some .cell ∨ (acc.lookup x).isSome = true) → ((cellsFrom n names acc).lookup x).isSome = true
  | [], n, acc, x, h => by
    rcases h with h | h
    · cases h
    · exact h
  | (y, k) :: r, n, acc, x, h => by
    unfold cellsFrom
    by_cases hk : (k == NameKind.cell) = true
    · rw [if_pos hk]
      refine cellsFrom_some r _ _ x ?_
      by_cases e : x = y
      · subst e; right; simp [List.lookup_cons]
      · have q : (x == y) = false := by simpa using e
        rcases h with h | h
        · rw [List.lookup_cons, q] at h; exact .inl h
        · right; rw [List.lookup_cons, q]; exact h
    · rw [if_neg hk]
      refine cellsFrom_some r _ _ x ?_
      rcases h with h | h
      · rw [List.lookup_cons] at h
        cases q : x == y with
        | true => rw [q] at h; cases h; exact absurd rfl hk
        | false => rw [q] at h; exact .inl h
      · exact .inr h

theorem bindL_other {ko : Str → Option NameKind} : ∀ (b : List (Str × Value)) (m : Str → Option Value) (x : Str), x ∉ b.map (·.1) → bindL ko b m x = m x
  | [], _, _, _ => rfl
  | (n, v) :: r, m, x, h => by
    unfold bindL
    rw [bindL_other r _ x fun q => h (.tail _ q)]
    split
    · exact if_neg fun q => h (by rw [q]; exact .head _)
    · rfl
theorem bindC_other {ko : Str → Option NameKind} : ∀ (b : List (Str × Value)) (m : Str → Option Value) (x : Str), x ∉ b.map (·.1) → bindC ko b m x = m x
  | [], _, _, _ => rfl
  | (n, v) :: r, m, x, h => by
    unfold bindC
    rw [bindC_other r _ x fun q => h (.tail _ q)]
    split
    · rfl
    · exact if_neg fun q => h (by rw [q]; exact .head _)

section
variable {c : Cx} {d : Nat} {σ : Sg} {h : Heap} {S : List Addr}

/- What the parameters' names bear. -/
theorem bound {ko : Str → Option NameKind} : ∀ (ns : List Str) (xs : List AV) (vs : List Value) (m cm : Str → Option Value), ns.Nodup → RpAll c h S xs vs → ∀ n x, (ns.zip xs).lookup n = some x →
    ∃ v, Rp c h S x v ∧ (ko n = some .local → bindL ko (ns.zip vs) m n = some v) ∧ (ko n ≠ some .local → bindC ko (ns.zip vs) cm n = some v)
  | [], _, _, _, _, _, _, _, _, e => by simp at e
  | _ :: _, [], _, _, _, _, _, _, _, e => by simp at e
  | _ :: _, _ :: _, [], _, _, _, r, _, _, _ => r.elim
  | y :: ns, x' :: xs, v :: vs, m, cm, hd, r, n, x, e => by
    obtain ⟨h1, h2⟩ := List.nodup_cons.mp hd
    rw [List.zip_cons_cons, List.lookup_cons] at e
    have nm : n = y → n ∉ (ns.zip vs).map (·.1) := fun q m => by
      obtain ⟨p, hp, e⟩ := List.mem_map.mp m
      exact h1 (by rw [← q, ← e]; exact (List.of_mem_zip (a := p.1) (b := p.2) hp).1)
    cases q : n == y with
    | true =>
      rw [q] at e; cases e
      have q' := eq_of_beq q
      refine ⟨v, r.1, fun k => ?_, fun k => ?_⟩
      · rw [List.zip_cons_cons]; unfold bindL
        rw [bindL_other _ _ _ (nm q'), ← q', if_pos k, if_pos rfl]
      · rw [List.zip_cons_cons]; unfold bindC
        rw [bindC_other _ _ _ (nm q'), ← q', if_neg k, if_pos rfl]
    | false =>
      rw [q] at e
      rw [List.zip_cons_cons]
      unfold bindL bindC
      exact bound ns xs vs _ _ h2 r.2 n x e

structure FnAt (c : Cx) (f : Addr) (P : Arguments) (body : List Stmt) (sc : Scope) : Prop where
  at_ : ∃ (oc : Value) (od : Option Addr) (osl : Array (Option Value)) (name qual : Str) (doc pm : Value) (an : Option Addr) (cdv ct : Value),
    c.h0.get? f = some ⟨oc, od, .func (fnOf name qual P body sc .none .none doc pm an cdv ct), osl⟩ ∧ c.h0.CodeRec cdv qual

noncomputable def BindsP (P : Arguments) (n : Nat) : Prop := ∀ (body : List Stmt) (sc : Scope) (name qual : Str) (doc pm : Value) (an : Option Addr) (cdv ct : Value) (vs : List Value), vs.length = n →
  bindArgs (fnOf name qual P body sc .none .none doc pm an cdv ct) ⟨vs, []⟩ = pure ((P.args.map (·.arg)).zip vs)

theorem nope_elim {α : Type} {M : Model} {A : Around} {t : Sem α} {Q : α → Shared → Prop} {E : Value → Shared → Prop} {s : Shared} (h : wpAny M A t Q nope s) : wpAny M A t Q E s := wpAny_mono h (fun J J z => z) fun J J z => z.elim

theorem Holds.sub {S' : List Addr} {a} {o : OB} (x : ∀ a ∈ S', a ∈ S) (y : Holds c h S a o) : Holds c h S' a o := y.stays ⟨fun J J e J => e, fun a m => .inl (x a m)⟩ fun J e => e

/- A call of a def of the text, out of its body. -/
theorem envC_ok {name qual : Str} {P : Arguments} {body : List Stmt} {sc : Scope} {doc pm an cdv ct} {L f : Addr} (hk : sc.kind = .function) (hcs : ∀ n, sc.names.lookup n = some .cell → ((cellsFrom (L + 1) sc.names []).lookup n).isSome = true) :
    EnvOK sc (callEnvC (fnOf name qual P body sc .none .none doc pm an cdv ct) L f) ∧ (callEnvC (fnOf name qual P body sc .none .none doc pm an cdv ct) L f).locals = L := ⟨⟨rfl, hk, rfl, rfl, fun n e => hcs n e, fun J => rfl⟩, rfl⟩
theorem CallP.of_body {f : Addr} {P : Arguments} {body : List Stmt} {sc : Scope} {xs : List AV} {Q : AV → Sg → Prop} (lim : c.h0.NoLimit) (T : FnAt c f P body sc) (hb : BindsP P xs.length)
    (h : ExecsP c d sc ((P.args.map (·.arg)).zip xs) σ body (fun J σ' => Q (.dat .none) σ') Q)
    (hn : autoParam ((P.args.map (·.arg)).length = xs.length) krT) (hnd : autoParam ((P.args.map (·.arg)).Nodup) dcT)
    (hks : autoParam (((P.args.map (·.arg)).all fun n => sc.names.lookup n == some .local || sc.names.lookup n == some .cell) = true) trT)
    (hk : autoParam (sc.kind = .function) krT) (hco : autoParam (sc.isCoroutine = false) flT) (hgen : autoParam (sc.isGenerator = false) flT) : CallP c (d + 1) (.ref f) xs σ Q := fun A s F vs rm st rp => by
  obtain ⟨fv, vs', rfl, rp1, rp2⟩ := rpAll_cons rp
  obtain rfl : fv = .ref f := rp1
  clear rp
  rename List Value => vs
  have rp := rp2
  obtain ⟨oc, od, osl, name, qual, doc, pm, an, cdv, ct, ho, hcd⟩ := T.at_
  have hvl := rpAll_len rp
  show wpAny _ _ (call (.ref f) vs) _ _ _
  have hlk : ∀ x ∈ (P.args.map (·.arg)).zip vs, sc.names.lookup x.1 = some .local ∨ sc.names.lookup x.1 = some .cell := fun x hx => by
    have := List.all_eq_true.mp hks x.1 (List.of_mem_zip (a := x.1) (b := x.2) hx).1
    rcases (Bool.or_eq_true _ _).mp this with q | q
    · exact .inl (eq_of_beq q)
    · exact .inr (eq_of_beq q)
  have hcs : ∀ n, sc.names.lookup n = some .cell → ((cellsFrom (s.heap.objs.size + 1) sc.names []).lookup n).isSome = true := fun n e => cellsFrom_some _ _ _ _ (.inl e)
  refine wpAny_call (codeAny_call_cells (fd := fnOf name qual P body sc .none .none doc pm an cdv ct) (body := body) (vals := vs) rm.rl (st.base _ _ ho) rfl (lim.keeps st.base) (hcd.keeps st.base) rfl
    (hb body sc name qual doc pm an cdv ct vs (by simpa using hvl.symm)) rfl (fun x hx => ?_) (fun s₁ x => ?_) hco hgen hk)
  · rcases hlk x hx with q | q
    · exact .inl q
    · exact .inr ⟨q, hcs _ q⟩
  · obtain ⟨ke, hL⟩ := envC_ok (name := name) (qual := qual) (P := P) (body := body) (doc := doc) (pm := pm) (an := an) (cdv := cdv) (ct := ct) (f := f) hk hcs
    generalize callEnvC (fnOf name qual P body sc .none .none doc pm an cdv ct) s.heap.objs.size f = env at x ke hL ⊢
    obtain ⟨h₁, tk, rfl⟩ := x.toInCall.same
    have kp := x.toInCall.keep
    have fresh : ∀ a ∈ fenv env, s.heap.objs.size ≤ a := fun a m => by
      rcases fenv_cases m with rfl | ⟨n, m⟩
      · rw [hL]; exact Nat.le_refl _
      · have := x.above n a (mem_of_lookup m)
        rw [hL] at this; exact Nat.le_of_lt this
    have none_ : ∀ a ∈ fenv env, s.heap.get? a = none := fun a m => Option.eq_none_iff_forall_ne_some.mpr fun o e => Nat.not_lt.mpr (fresh a m) (Heap.lt_size e)
    have lv : ∀ a ∈ fenv env, MutAt h₁ a := fun a m => (fenv_cases m).elim (fun z => by
        obtain ⟨o, es, ep, e1, e2, J⟩ := x.toInCall.ns
        exact z ▸ mutD e1 e2) fun z => z.elim fun n m => (x.cell n a m).elim fun o z => ⟨o, z.1, .inr (.inr (.inl ⟨_, z.2⟩))⟩
    obtain ⟨st₁, sty⟩ := st.move (F' := fenv env ++ F) (s' := { s with heap := h₁, toks := tk }) [] (fun J m => nomatch m) (fun a o J => kp a o) (fun J m => nomatch m) (forall_app (fun a m => .inr ⟨none_ a m, lv a m⟩) fun a m => .inl m)
    have bd := bound (c := c) (h := s.heap) (S := F ++ own σ) (ko := env.kindOf) (P.args.map (·.arg)) xs vs (fun J => none) (fun J => none) hnd rp
    have f : Frm c env ((P.args.map (·.arg)).zip xs) ((fenv env ++ F) ++ own σ) h₁ := {
      ns := ⟨_, x.toInCall.ns, fun n y e k => by obtain ⟨v, a, b, J⟩ := bd n y e; exact ⟨v, b k, a.stays sty⟩⟩
      cell := fun n y e k => by
        obtain ⟨v, a, J, b⟩ := bd n y e
        have k' : env.kindOf n ≠ some .local := by rcases k with k | k <;> rw [k] <;> decide
        have kc : env.kindOf n = some .cell := by
          rcases k with k | k
          · exact k
          · exfalso
            have hm : n ∈ P.args.map (·.arg) := (List.of_mem_zip (mem_of_lookup e)).1
            have := List.all_eq_true.mp hks n hm
            rw [ke.ki] at k
            rw [k] at this; revert this; decide
        obtain ⟨ad, had⟩ := Option.isSome_iff_exists.mp (ke.cl n ((ke.ki n).symm.trans kc))
        have := x.cell n ad had
        rw [b k'] at this
        exact ⟨ad, v, had, this, a.stays sty⟩
      cells := fun n a e => ⟨_, x.cell n a e⟩
      cnd := fun n m a e e' => name_of_addr x.apart (mem_of_lookup e) (mem_of_lookup e') }
    refine wpAny_mono (h (A.deeper env) _ env (fenv env ++ F) (rm.deeper env) ke (fun a m => List.mem_append_left _ m) st₁ f) (fun fl s₂ h₂ => ?_) fun J J z => z.elim
    have fin : ∀ {B' σ' v y}, FrmPost c (fenv env ++ F) env σ h₁ B' σ' s₂ → Rp c s₂.heap ((fenv env ++ F) ++ own σ') y v → Q y σ' → Post c F σ s Q v s₂ := fun {B' σ' v y} fp r q => by
      obtain ⟨st₂, sty₂⟩ := fp.st.move (F' := F) (s' := s₂) [] (fun J m => nomatch m) (fun J J J e => e) (fun J m => nomatch m) fun J m => .inl (List.mem_append_right _ m)
      exact ⟨y, σ', st₂, ⟨fun a o e n => fp.keep a o (kp a o e) n fun m => nsn e (none_ a (wenv_sub m)), fun a m => (fp.new a m).elim .inl (absent fun o e J => ⟨o, kp a o e⟩)⟩, r.stays sty₂, q⟩
    cases fl with
    | next => obtain ⟨B', σ', fp, q⟩ := h₂; exact fin fp rp_none q
    | ret v => obtain ⟨y, B', σ', fp, r, q⟩ := h₂; exact fin fp r q
    | brk => exact h₂.elim
    | cont => exact h₂.elim
end
-- Base6
section
open PySem PySem.W PyProof.Rows PySem.Calls PySem.Builtin.ObjectAttr

structure ClsOK (c : Cx) (C : Addr) (names : List Str) : Prop where
  cls : ∃ oc cd, c.h0.get? C = some oc ∧ oc.data = .cls cd ∧ cd.hasDict = true
  ga : Looks c.M c.h0 (typeLookup (.ref C) "__getattribute__") (some (.builtin "object.__getattribute__"))
  gh : Looks c.M c.h0 (typeLookup (.ref C) "__getattr__") none
  own : ∀ n ∈ names, Looks c.M c.h0 (typeLookup (.ref C) n) none

structure MethAt (c : Cx) (C : Addr) (n : Str) (f : Addr) : Prop where
  find : Looks c.M c.h0 (typeLookup (.ref C) n) (some (.ref f))
  fn : ∃ o, c.h0.get? f = some o ∧ o.cls = .type "function"

section
variable {c : Cx} {d : Nat} {sc : Scope} {B : Bs} {σ : Sg}

theorem inst_type {h S C x names mA} (y : InstOf h S C x names mA) : Looks c.M h (typeOf (.ref x)) (.ref C) := by
  obtain ⟨dx, hx, J⟩ := y
  exact (Looks.ld hx).andThen .now

theorem inst_find {h S C x names mA n v} (k : ∀ a o, c.h0.get? a = some o → h.get? a = some o) (T : ClsOK c C names) (y : InstOf h S C x names mA) (hn : n ∈ names) (hv : mA n = some v) :
    Looks c.M h (find (.ref x) (.ref C) n) (.value v) := by
  obtain ⟨oc, cd, hc, hcd, hd⟩ := T.cls
  obtain ⟨dx, hx, hns, J⟩ := y
  have L1 : Looks c.M h (typeLookup (.ref C) n) none := (T.own n hn).keeps k
  have own : Looks c.M h (inOwnDict n (.ref x)) (some v) := by
    intro A Q E s k' q
    refine wpAny_bind (wpAny_bind (wpAny_loadPart (k' _ _ hx) ?_))
    dsimp only
    unfold instanceDict
    refine wpAny_bind (wpAny_loadPart (k' _ _ hx) ?_)
    dsimp only
    refine wpAny_bind ?_
    unfold classData
    refine wpAny_bind (wpAny_load (k' _ _ (k _ _ hc)) ?_)
    rw [hcd]
    refine wpAny_pure ?_
    rw [hd, if_neg (by decide)]
    refine wpAny_pure (a := some dx) ?_
    refine wpAny_nsGet (m := mA) (hns.ns.keeps k') ?_
    rw [hv]; exact q
  have rest : Looks c.M h (ownThenClass (.ref x) n none none) (.value v) := own.andThen (Looks.tag .now)
  exact L1.andThen ((Looks.now (a := none)).andThen (Looks.now.andThen rest))

theorem inst_attr {s S C x names mA n v expr} {A : Around} {Q : Value → Shared → Prop} (k : ∀ a o, c.h0.get? a = some o → s.heap.get? a = some o) (T : ClsOK c C names) (y : InstOf s.heap S C x names mA) (hn : n ∈ names) (hv : mA n = some v)
    (hh : handedIn v = true) (q : Q v { s with toks := s.toks + 1 }) : wpAny c.M A (getAttr (.ref x) n expr) Q nope s := by
  have L0 := inst_type (c := c) y
  have L1 : Looks c.M s.heap (typeLookup (.ref C) "__getattribute__") _ := T.ga.keeps k
  have L2 := inst_find k T y hn hv
  obtain ⟨hh', g, dr, t, os⟩ := s
  unfold getAttr getAttrBy
  refine wpAny_bind (wpAny_mkText (wpAny_holding (wpAny_bind (L0.at (wpAny_bind (L1.at ?_))))))
  show wpAny _ _ (getAttrEveryday _ _ _) _ _ _
  refine wpAny_bind (wpAny_onRaise (wpAny_runValue (codeAny_builtin F.plainObj_entry_getattr_hooked (wpAny_bind (wpAny_pure (wpAny_bind (L0.at (wpAny_bind (L2.at ?_)))))))))
  refine wpAny_pure ?_
  show wpAny _ _ (handedOut v) _ _ _
  rw [handedOut_of hh]; exact wpAny_pure q

theorem inst_meth {s S C x names mA n f} {pl : Sem Bool} {A : Around} {Q : Value × List Value → Shared → Prop} (k : ∀ a o, c.h0.get? a = some o → s.heap.get? a = some o) (T : ClsOK c C names) (M : MethAt c C n f) (y : InstOf s.heap S C x names mA)
    (hv : mA n = none) (q : Q (.ref f, [.ref x]) s) : wpAny c.M A (getMethod (.ref x) n pl) Q nope s := by
  have hcan := PySem.F.canon_object_ga
  have L0 := inst_type (c := c) y
  have L1 : Looks c.M s.heap (typeLookup (.ref C) "__getattribute__") _ := T.ga.keeps k
  have L2 : Looks c.M s.heap (typeLookup (.ref C) "__getattr__") _ := T.gh.keeps k
  have L3 : Looks c.M s.heap (typeLookup (.ref C) n) _ := M.find.keeps k
  obtain ⟨of, ho, hc⟩ := M.fn
  obtain ⟨dx, hx, hns, J⟩ := y
  have L4 : Looks c.M s.heap (typeOf (.ref f)) (.type "function") := hc ▸ (Looks.ld (k _ _ ho)).andThen .now
  unfold getMethod specialOf
  refine wpAny_bind (wpAny_bind (L0.here (L1.here ?_)))
  dsimp only
  rw [hcan, if_neg (by decide)]
  refine wpAny_bind (wpAny_bind (L0.here (L2.here ?_)))
  refine wpAny_bind (wpAny_bind (L0.here (L3.here (wpAny_bind (L4.here ?_)))))
  rw [if_neg (by decide +kernel)]
  refine wpAny_bind (wpAny_loadPart hx ?_)
  dsimp only
  refine wpAny_bind (wpAny_nsGet hns.ns ?_)
  rw [hv]
  exact wpAny_bind (wpAny_rule (wpAny_pure q))

/- How the machine keeps what it calls. -/
noncomputable def KeepOK (c : Cx) (f : AV) : Prop := ∀ (h : Heap) (S : List Addr) (v : Value), (∀ a o, c.h0.get? a = some o → h.get? a = some o) → Rp c h S f v →
  ∃ k, (k = Keeper.frame ∨ k = Keeper.machine ∨ k = Keeper.boundFrame) ∧ Looks c.M h (keeperOf v) k
theorem KeepOK.fn {f P body sc} (T : FnAt c f P body sc) : KeepOK c (.ref f) := fun h S v k r => by
  obtain ⟨oc, od, osl, name, qual, doc, pm, an, cdv, ct, ho, J⟩ := T.at_
  have r' : v = .ref f := r
  subst r'
  exact ⟨.frame, .inl rfl, (Looks.ld (part := none) (k _ _ ho)).andThen .now⟩
theorem KeepOK.builtin {i} : KeepOK c (.val (.builtin i)) := fun h S v k r => by
  have r' : v = .builtin i := r
  subst r'
  exact ⟨.machine, .inr (.inl rfl), .of_pure rfl⟩
theorem KeepOK.type {i} : KeepOK c (.val (.type i)) := fun h S v k r => by
  have r' : v = .type i := r
  subst r'
  exact ⟨.machine, .inr (.inl rfl), .of_pure rfl⟩

theorem evalsP_args {es : List Expr} {Q : List AV → Sg → Prop} (h : EvalsP c d sc B σ es Q) (hs : (es.all fun t => !isStarred t) = true) {A s env F pos} {fv : Value} (rm : Room d A) (k : EnvOK sc env) (hF : ∀ a ∈ fenv env, a ∈ F) (st : St c F σ s)
    (f : Frm c env B (F ++ own σ) s.heap) : wpAny c.M A (evalArgs fv true (backTo pos (starEach es env)) []) (fun a s' => a.kw = [] ∧ PostL c F σ s Q a.pos s') nope s := by
  have := h A s env F pos rm k hF st f
  cases es with
  | nil =>
    have h1 : wpAny c.M A (pure [] : Sem (List Value)) (PostL c F σ s Q) nope s := this
    intro Γ p hΓ
    exact (evalArgs_nil3 ⟨rfl, h1 Γ p hΓ⟩ : wpAny c.M A (evalArgs fv true [] []) _ nope s) Γ p hΓ
  | cons e es =>
    rw [star_cons es env pos (star_not hs).1] at this ⊢
    exact evalArgs_plain (wpAny_mono this (fun vs s' z => ⟨rfl, z⟩) fun J J z => z)

theorem rpAll_app {h S} : ∀ {xs : List AV} {vs : List Value} {ys : List AV} {us : List Value}, RpAll c h S xs vs → RpAll c h S ys us → RpAll c h S (xs ++ ys) (vs ++ us)
  | [], [], _, _, _, h' => h'
  | _ :: _, _ :: _, _, _, h, h' => ⟨h.1, rpAll_app h.2 h'⟩
  | [], _ :: _, _, _, q, _ => q.elim
  | _ :: _, [], _, _, q, _ => q.elim

/- What is called is known; its arguments are reckoned, then it is called. -/
theorem callWithP {f : AV} {first : List AV} {es : List Expr} {Q : AV → Sg → Prop} (hk : KeepOK c f) (h : EvalsP c d sc B σ es fun ys σ₁ => CallP c d f (first ++ ys) σ₁ Q) (hs : (es.all fun t => !isStarred t) = true)
    {A s env F pos} {fv : Value} {fvs : List Value} (rm : Room d A) (k : EnvOK sc env) (hF : ∀ a ∈ fenv env, a ∈ F) (st : St c F σ s) (fr : Frm c env B (F ++ own σ) s.heap)
    (rf : Rp c s.heap (F ++ own σ) f fv) (rfs : RpAll c s.heap (F ++ own σ) first fvs) : wpAny c.M A (callWith pos fv fvs (backTo pos (starEach es env)) []) (Post c F σ s Q) nope s := by
  have hplain := star_plain env pos es hs
  refine callWith_of (P := fun h => (∀ a o, c.h0.get? a = some o → h.get? a = some o) ∧ ∃ S, Rp c h S f fv) hplain (fun h ⟨b, S, r⟩ => hk h S fv b r) (wpAny_mono (evalsP_args h hs rm k hF st fr) (fun a s₁ h₁ => ?_) fun J J z => z)
  obtain ⟨kw, ys, σ₁, st₁, e₁, r₁, h₁⟩ := h₁
  have rf' := rf.stays (st.stays e₁)
  refine ⟨⟨st₁.base, _, rf'⟩, ?_⟩
  rw [kw]
  exact wpAny_mono (h₁ A s₁ F (fv :: (fvs ++ a.pos)) rm st₁ ⟨rf', rpAll_app (rfs.stays (st.stays e₁)) r₁⟩) (fun J J z => .trans e₁ z) fun J J z => z

theorem eval_Call_Name {n : Str} {p args pos env} : eval (.Call (.Name n p) args [] pos) env = (do callWith pos (← eval (.Name n p) env) [] (backTo pos (starEach args env)) (backToKw pos (keywordEach [] env))) := rfl

theorem EvalP.call {n : Str} {p args pos} {Q : AV → Sg → Prop} (h : EvalP c d sc B σ (.Name n p) fun f σ₁ => KeepOK c f ∧ EvalsP c d sc B σ₁ args fun ys σ₂ => CallP c d f ys σ₂ Q)
    (hs : autoParam ((args.all fun t => !isStarred t) = true) trT) : EvalP c d sc B σ (.Call (.Name n p) args [] pos) Q := fun A s env F rm k hF st f => by
  rw [eval_Call_Name]
  refine wpAny_bind (wpAny_mono (h A s env F rm k hF st f) (fun v s₁ h₁ => ?_) fun J J z => z)
  obtain ⟨x, σ₁, st₁, e₁, r₁, hk, h₁⟩ := h₁
  exact wpAny_mono (callWithP (first := []) hk h₁ hs rm k hF st₁ (f.evo st e₁ hF) r₁ trivial) (fun J J z => .trans e₁ z) fun J J z => z

/- What a method's name gives of a value: what is called, and what stands ahead of its arguments. -/
noncomputable def MethP (c : Cx) (d : Nat) (σ : Sg) (x : AV) (n : Str) (f : AV) (first : List AV) : Prop :=
  ∀ (A : Around) (s : Shared) (F : List Addr) (v : Value) (pl : Sem Bool) (Q : Value × List Value → Shared → Prop), Room d A → St c F σ s → Rp c s.heap (F ++ own σ) x v →
    (∀ fv fvs, Rp c s.heap (F ++ own σ) f fv → RpAll c s.heap (F ++ own σ) first fvs → Q (fv, fvs) s) → wpAny c.M A (getMethod v n pl) Q nope s

noncomputable def notSuper : Expr → Bool
  | .Call (.Name ..) [] [] _ => false
  | _ => true
theorem base_of {o : Expr} {n env w} (h : notSuper o = true) : attributeBase o n env w = w := by
  cases o with
  | Call f as ks pos =>
    cases f with
    | Name i p =>
      cases as with
      | nil =>
        cases ks with
        | nil => exact Bool.noConfusion h
        | cons J J => rfl
      | cons J J => rfl
    | _ => rfl
  | _ => rfl

noncomputable abbrev MethE (c : Cx) (d : Nat) (sc : Scope) (B : Bs) (σ : Sg) (x : AV) (n : Str) (args : List Expr) (Q : AV → Sg → Prop) : Prop := ∃ f first, MethP c d σ x n f first ∧ KeepOK c f ∧ EvalsP c d sc B σ args fun ys σ₂ => CallP c d f (first ++ ys) σ₂ Q
theorem EvalP.method {o : Expr} {n : Str} {apos args pos} {Q : AV → Sg → Prop} (h : EvalP c d sc B σ o fun x σ₁ => MethE c d sc B σ₁ x n args Q)
    (ho : autoParam (notSuper o = true) trT) (hs : autoParam ((args.all fun t => !isStarred t) = true) trT) (hl : autoParam ((apos.endLine == pos.line) = true) trT) (hz : autoParam (decide (args.length < 29) = true) trT) : EvalP c d sc B σ (.Call (.Attribute o n apos) args [] pos) Q := fun A s env F rm k hF st f => by
  rw [arm_eval_Call, base_of ho]
  refine wpAny_bind (wpAny_mono (h A s env F rm k hF st f) (fun v s₁ h₁ => ?_) fun J J z => z)
  obtain ⟨x, σ₁, st₁, e₁, r₁, g, first, hm, hk, h₁⟩ := h₁
  refine wpAny_bind (wpAny_standAt ?_)
  have hform : methodCallForm (args.length + ([] : List Keyword).length) (backTo pos (starEach args env)) (backToKw pos (keywordEach [] env)) = true := by
    unfold methodCallForm
    rw [star_all env pos args hs]
    have := of_decide_eq_true hz
    show (true && (true && decide (args.length + 0 + 0 < 30))) = true
    simp; lia
  have hpos : methodCallPos true o env apos pos = pure pos := by unfold methodCallPos; simp [hl]
  unfold methodCall
  rw [hform]
  refine wpAny_bind (wpAny_holding (hm A s₁ F v _ _ rm st₁ r₁ fun fv fvs rf rfs => ?_))
  refine wpAny_bind (wpAny_of_eq hpos ?_)
  exact wpAny_mono (callWithP hk h₁ hs rm k hF st₁ (f.evo st e₁ hF) rf rfs) (fun J J z => .trans e₁ z) fun J J z => z

noncomputable abbrev attrT (n : Str) : List Value → Sem Value := fun | [v] => getAttr v n true | _ => unsupported ""

theorem EvalP.attr {o : Expr} {n : Str} {pos} {Q : AV → Sg → Prop} (h : EvalP c d sc B σ o fun x σ₁ => ValP c d σ₁ [x] (attrT n) Q) (ho : autoParam (notSuper o = true) trT) : EvalP c d sc B σ (.Attribute o n pos) Q := fun A s env F rm k hF st f => by
  rw [arm_eval_Attribute, base_of ho]
  refine wpAny_bind (wpAny_mono (h A s env F rm k hF st f) (fun v s₁ h₁ => ?_) fun J J z => z)
  obtain ⟨x, σ₁, st₁, e₁, r₁, h₁⟩ := h₁
  refine wpAny_bind (wpAny_standAt (wpAny_bind (wpAny_holding (wpAny_mono (h₁ A s₁ F [v] rm st₁ ⟨r₁, trivial⟩) (fun r s₂ h₂ => ?_) fun J J z => z))))
  exact wpAny_bind (wpAny_letTemporaryGo (wpAny_pure (.trans e₁ h₂)))

theorem handed_ref {v : Value} (h : ∃ x, v = .ref x) : handedIn v = true := by obtain ⟨x, rfl⟩ := h; rfl
theorem Rp2.ref {h S C names n1 n2 P1 P2 v} (r : Rp2 h S C names n1 n2 P1 P2 v) : ∃ x, v = .ref x := by obtain ⟨x, J, J, J, e, J, J, J, J, J⟩ := r; exact ⟨x, e⟩
inductive RpF (h : Heap) (S : List Addr) (C : Addr) (names : List Str) (n : Str) (P : Value → Prop) (v : Value) : Prop
  | mk (a : Addr) (mA : Str → Option Value) (w : Value) : v = .ref a → InstOf h S C a names mA → mA n = some w → P w → RpF h S C names n P v
theorem Rp2.fst {h S C names n1 n2 P1 P2 v} (r : Rp2 h S C names n1 n2 P1 P2 v) : RpF h S C names n1 P1 v := by obtain ⟨x, mA, v1, J, e, I, g1, J, p1, J⟩ := r; exact ⟨x, mA, v1, e, I, g1, p1⟩
theorem Rp2.snd {h S C names n1 n2 P1 P2 v} (r : Rp2 h S C names n1 n2 P1 P2 v) : RpF h S C names n2 P2 v := by obtain ⟨x, mA, J, v2, e, I, J, g2, J, p2⟩ := r; exact ⟨x, mA, v2, e, I, g2, p2⟩
theorem rp_handed {h S} : ∀ {x : AV} {v : Value}, (∀ u, x ≠ .val u) → Rp c h S x v → handedIn v = true
  | .dat d, v, _, ⟨as, r, _⟩ => by cases r <;> rfl
  | .ref a, v, _, r => by cases (show v = .ref a from r); rfl
  | .val u, v, n, _ => absurd rfl (n u)
  | .flat _ _, v, _, r => handed_ref r.ref
  | .funs _ _, v, _, r => handed_ref r.ref
  | .rng _ _, v, _, ⟨x, _, _, _, e, _, _⟩ => handed_ref ⟨x, e⟩

theorem ValP.one {x : AV} {t : List Value → Sem Value} {Q : AV → Sg → Prop} (h : ∀ (A : Around) (s : Shared) (F : List Addr) (v : Value), Room d A → St c F σ s → Rp c s.heap (F ++ own σ) x v → wpAny c.M A (t [v]) (Post c F σ s Q) nope s) : ValP c d σ [x] t Q := fun A s F vs rm st r => by
  obtain ⟨v, rfl, a⟩ := rpAll_one r
  exact h A s F v rm st a
theorem ValP.two {x y : AV} {t : List Value → Sem Value} {Q : AV → Sg → Prop} (h : ∀ (A : Around) (s : Shared) (F : List Addr) (v w : Value), Room d A → St c F σ s → Rp c s.heap (F ++ own σ) x v → Rp c s.heap (F ++ own σ) y w → wpAny c.M A (t [v, w]) (Post c F σ s Q) nope s) : ValP c d σ [x, y] t Q := fun A s F vs rm st r => by
  obtain ⟨v, w, rfl, a, b⟩ := rpAll_two r
  exact h A s F v w rm st a b
theorem ValP.three {x y z : AV} {t : List Value → Sem Value} {Q : AV → Sg → Prop} (h : ∀ (A : Around) (s : Shared) (F : List Addr) (v w u : Value), Room d A → St c F σ s → Rp c s.heap (F ++ own σ) x v → Rp c s.heap (F ++ own σ) y w → Rp c s.heap (F ++ own σ) z u →
    wpAny c.M A (t [v, w, u]) (Post c F σ s Q) nope s) : ValP c d σ [x, y, z] t Q := fun A s F vs rm st r => by
  obtain ⟨v, w, u, rfl, a, b, e⟩ := rpAll_three r
  exact h A s F v w u rm st a b e

theorem ValP.attr_inst {x : AV} {C : Addr} {names : List Str} {n : Str} {y : AV} {Q : AV → Sg → Prop} (T : ClsOK c C names) (hn : n ∈ names) (hy : ∀ u, y ≠ .val u)
    (hi : ∀ h S v, Rp c h S x v → RpF h S C names n (Rp c h S y) v) (h : Q y σ) : ValP c d σ [x] (attrT n) Q :=
  .one fun A s F v rm st r => by
    obtain ⟨a, mA, w, e, I, h1, h2⟩ := hi _ _ _ r
    subst e
    exact inst_attr st.base T I hn h1 (rp_handed hy h2) (.pure st h2 h)

theorem ValP.attr_flatOf {F M : AV} {Q : AV → Sg → Prop} (T : ClsOK c c.cFun funsNames) (hn : ∀ u, F ≠ .val u) (h : Q F σ) : ValP c d σ [.funs F M] (attrT "flat") Q :=
  .attr_inst T (.head _) hn (fun J J J r => Rp2.fst r) h
theorem ValP.attr_made {F M : AV} {Q : AV → Sg → Prop} (T : ClsOK c c.cFun funsNames) (hn : ∀ u, M ≠ .val u) (h : Q M σ) : ValP c d σ [.funs F M] (attrT "made") Q :=
  .attr_inst T (.tail _ (.head _)) hn (fun J J J r => Rp2.snd r) h
theorem ValP.attr_vars {F M : AV} {Q : AV → Sg → Prop} (T : ClsOK c c.cFlat flatNames) (hn : ∀ u, F ≠ .val u) (h : Q F σ) : ValP c d σ [.flat F M] (attrT "vars") Q :=
  .attr_inst T (.head _) hn (fun J J J r => Rp2.fst r) h
theorem ValP.attr_tolds {F M : AV} {Q : AV → Sg → Prop} (T : ClsOK c c.cFlat flatNames) (hn : ∀ u, M ≠ .val u) (h : Q M σ) : ValP c d σ [.flat F M] (attrT "tolds") Q :=
  .attr_inst T (.tail _ (.head _)) hn (fun J J J r => Rp2.snd r) h

theorem MethP.funs {F M : AV} {n : Str} {f : Addr} (T : ClsOK c c.cFun funsNames) (hm : MethAt c c.cFun n f) (hn : autoParam (n ∉ funsNames) dcT) : MethP c d σ (.funs F M) n (.ref f) [.funs F M] := fun A s Fs v pl Q rm st r q => by
  have r' := r
  obtain ⟨y, mA, fv, mv, e, I, J⟩ := r
  subst e
  obtain ⟨dx, J, J, J, ho⟩ := id I
  exact inst_meth st.base T hm I (ho n hn) (q _ _ rfl ⟨r', trivial⟩)
theorem MethP.flat {F M : AV} {n : Str} {f : Addr} (T : ClsOK c c.cFlat flatNames) (hm : MethAt c c.cFlat n f) (hn : autoParam (n ∉ flatNames) dcT) : MethP c d σ (.flat F M) n (.ref f) [.flat F M] := fun A s Fs v pl Q rm st r q => by
  have r' := r
  obtain ⟨y, mA, fv, mv, e, I, J⟩ := r
  subst e
  obtain ⟨dx, J, J, J, ho⟩ := id I
  exact inst_meth st.base T hm I (ho n hn) (q _ _ rfl ⟨r', trivial⟩)
end
end
-- Base7

section
variable {c : Cx} {d : Nat} {sc : Scope} {B : Bs} {σ : Sg} {Q : AV → Sg → Prop}

noncomputable abbrev callT : List Value → Sem Value := fun | f :: vs => call f vs | [] => unsupported ""
noncomputable abbrev subT : List Value → Sem Value := fun | [v, w] => getItem v w | _ => unsupported ""

theorem ValP.add {a b : Int} (h : Q (I (a + b)) σ) : ValP c d σ [I a, I b] (binT .Add) Q := .two fun A s F v w rm st r r' => by
  obtain ⟨t, rfl⟩ := rp_int' r; obtain ⟨u, rfl⟩ := rp_int' r'
  exact PyProof.Rows.add_int (.pure st rp_int h)
theorem ValP.sub {a b : Int} (h : Q (I (a - b)) σ) : ValP c d σ [I a, I b] (binT .Sub) Q := .two fun A s F v w rm st r r' => by
  obtain ⟨t, rfl⟩ := rp_int' r; obtain ⟨u, rfl⟩ := rp_int' r'
  exact PyProof.Rows.sub_int (.pure st rp_int h)
theorem mulOk {a b : Int} (ha : a.natAbs < 2 ^ 60) : IntMulOk a b := by
  have : Builtin.Int.intBits a ≤ 64 := intBits_le_64 (by lia) (by lia)
  intro h
  simp only [Bool.and_eq_true, decide_eq_true_eq] at h
  have h1 := h.1.1
  have : shortFactorBits = 64 := rfl
  lia
theorem ValP.mul {a b : Int} (ha : a.natAbs < 2 ^ 60) (h : Q (I (a * b)) σ) : ValP c d σ [I a, I b] (binT .Mult) Q := .two fun A s F v w rm st r r' => by
  obtain ⟨t, rfl⟩ := rp_int' r; obtain ⟨u, rfl⟩ := rp_int' r'
  exact PyProof.Rows.mul_int (.pure st rp_int h) (mulOk ha)
theorem ValP.fdiv {a b : Int} (hb : b ≠ 0) (hs : b.natAbs < 1073741824) (h : Q (I (a.fdiv b)) σ) : ValP c d σ [I a, I b] (binT .FloorDiv) Q := .two fun A s F v w rm st r r' => by
  obtain ⟨t, rfl⟩ := rp_int' r; obtain ⟨u, rfl⟩ := rp_int' r'
  exact PyProof.Rows.floordiv_int (hp := .inl (PyProof.noPylong_small hs)) hb (.pure st rp_int h)
theorem ValP.fmod {a b : Int} (hb : b ≠ 0) (h : Q (I (a.fmod b)) σ) : ValP c d σ [I a, I b] (binT .Mod) Q := .two fun A s F v w rm st r r' => by
  obtain ⟨t, rfl⟩ := rp_int' r; obtain ⟨u, rfl⟩ := rp_int' r'
  exact PyProof.Rows.mod_int' hb (.pure st rp_int h)
theorem ValP.pow {a n : Int} (hn : 0 ≤ n) (hn2 : n ≤ 1000000) (ha : a.natAbs < 2 ^ 64) (h : Q (I (a ^ n.toNat)) σ) : ValP c d σ [I a, I n] (binT .Pow) Q := .two fun A s F v w rm st r r' => by
  obtain ⟨t, rfl⟩ := rp_int' r; obtain ⟨u, rfl⟩ := rp_int' r'
  exact PyProof.Rows.pow_int_small hn hn2 ha (.pure st rp_int h)
theorem ValP.neg {a : Int} (h : Q (I (-a)) σ) : ValP c d σ [I a] (unT .USub) Q := .one fun A s F v rm st r => by
  obtain ⟨t, rfl⟩ := rp_int' r
  exact PyProof.Rows.neg_int (.pure st rp_int h)
theorem ValP.not {x : AV} (h : TruP c d σ x fun b σ' => Q (Bo !b) σ') : ValP c d σ [x] (unT .Not) Q := .one fun A s F v rm st r => by
  refine not_value (wpAny_mono (h A s F v rm st r) (fun b s' h' => ?_) fun J J z => z)
  obtain ⟨σ', st', e, q⟩ := h'
  exact ⟨_, σ', st', e, rp_bool, q⟩

theorem ValP.lt {a b : Int} (h : Q (Bo (decide (a < b))) σ) : ValP c d σ [I a, I b] (cmpT .Lt) Q := .two fun A s F v w rm st r r' => by
  obtain ⟨t, rfl⟩ := rp_int' r; obtain ⟨u, rfl⟩ := rp_int' r'
  exact PyProof.Rows.lt_int (.here st rp_bool h)
theorem ValP.le' {a b : Int} (h : Q (Bo (decide (a ≤ b))) σ) : ValP c d σ [I a, I b] (cmpT .LtE) Q := .two fun A s F v w rm st r r' => by
  obtain ⟨t, rfl⟩ := rp_int' r; obtain ⟨u, rfl⟩ := rp_int' r'
  exact PyProof.Rows.le_int (.here st rp_bool h)
theorem ValP.gt {a b : Int} (h : Q (Bo (decide (b < a))) σ) : ValP c d σ [I a, I b] (cmpT .Gt) Q := .two fun A s F v w rm st r r' => by
  obtain ⟨t, rfl⟩ := rp_int' r; obtain ⟨u, rfl⟩ := rp_int' r'
  exact PyProof.Rows.gt_int (.here st rp_bool h)
theorem ValP.ge {a b : Int} (h : Q (Bo (decide (b ≤ a))) σ) : ValP c d σ [I a, I b] (cmpT .GtE) Q := .two fun A s F v w rm st r r' => by
  obtain ⟨t, rfl⟩ := rp_int' r; obtain ⟨u, rfl⟩ := rp_int' r'
  exact PyProof.Rows.ge_int (.here st rp_bool h)

noncomputable abbrev Sh (x : PyData) : Prop := SeqAt.shaped x = true

theorem ValP.eq {x y : PyData} (hx : Sh x) (hy : Sh y) (h : Q (Bo (PyData.eqv x y)) σ) : ValP c d σ [.dat x, .dat y] (cmpT .Eq) Q := .two fun A s F v w rm st ⟨as, r, J⟩ ⟨bs, r', J⟩ =>
  SeqAt.compareEq_shaped r.reads r'.reads hx hy (by have := rm.cl; lia) (.here st rp_bool h)
theorem ValP.ne {x y : PyData} (hx : Sh x) (hy : Sh y) (h : Q (Bo (!PyData.eqv x y)) σ) : ValP c d σ [.dat x, .dat y] (cmpT .NotEq) Q := .two fun A s F v w rm st ⟨as, r, J⟩ ⟨bs, r', J⟩ =>
  SeqAt.compareNe_shaped r.reads r'.reads hx hy (by have := rm.cl; lia) (.here st rp_bool h)
theorem ValP.inL {x : PyData} {xs : List PyData} (hx : Sh x) (hy : Sh (.list xs)) (h : Q (Bo (xs.any fun y => PyData.eqv y x)) σ) : ValP c d σ [.dat x, Li xs] (cmpT .In) Q := .two fun A s F v w rm st ⟨as, r, J⟩ ⟨bs, r', J⟩ =>
  SeqAt.in_list_reads r'.reads r.reads (by have := SeqAt.canLay_of_shaped hy; simpa only [PyData.canLay0] using this) (SeqAt.canLay_of_shaped hx) (by have := rm.cl; have := SeqAt.depth_of_shaped hx; lia) (.here st rp_bool h)
theorem ValP.inT {x : PyData} {xs : List PyData} (hx : Sh x) (hy : Sh (.tuple xs)) (h : Q (Bo (xs.any fun y => PyData.eqv y x)) σ) : ValP c d σ [.dat x, Tu xs] (cmpT .In) Q := .two fun A s F v w rm st ⟨as, r, J⟩ ⟨bs, r', J⟩ =>
  SeqAt.in_tuple_reads r'.reads r.reads (by have := SeqAt.canLay_of_shaped hy; simpa only [PyData.canLay0] using this) (SeqAt.canLay_of_shaped hx) (by have := rm.cl; have := SeqAt.depth_of_shaped hx; lia) (.here st rp_bool h)

/- The built-in type of what stands for x. -/
noncomputable def TypeP (c : Cx) (σ : Sg) (x : AV) (T : String) : Prop := ∀ F s v, St c F σ s → Rp c s.heap (F ++ own σ) x v → s.TypeIs v T
theorem TypeP.list {xs} : TypeP c σ (Li xs) "list" := fun F s v st ⟨as, r, J⟩ => by cases r with | list h1 h2 _ _ => exact ⟨_, h1, h2⟩
theorem TypeP.tuple {xs} : TypeP c σ (Tu xs) "tuple" := fun F s v st ⟨as, r, J⟩ => by cases r with | tuple h1 h2 _ _ => exact ⟨_, h1, h2⟩
theorem TypeP.str {x} : TypeP c σ (S' x) "str" := fun F s v st r => by obtain ⟨t, rfl⟩ := rp_str' r; exact rfl
theorem St.at_ {F s a ob} (st : St c F σ s) (m : (a, ob) ∈ σ) : Holds c s.heap (F ++ own σ) a ob := st.holds _ m
theorem TypeP.lst {a xs} (m : (a, OB.lst xs) ∈ σ) : TypeP c σ (.ref a) "list" := fun F s v st r => by
  obtain ⟨vs, as, ⟨n, e⟩, J⟩ := st.at_ m
  cases (show v = .ref a from r); exact ⟨_, e, rfl⟩
theorem TypeP.dI {a xs} (m : (a, OB.dI xs) ∈ σ) : TypeP c σ (.ref a) "dict" := fun F s v st r => by
  obtain ⟨ps, ⟨o, J, J, e, q, J⟩, J⟩ := st.at_ m
  cases (show v = .ref a from r); exact ⟨_, e, q.1⟩
theorem TypeP.dS {a xs} (m : (a, OB.dS xs) ∈ σ) : TypeP c σ (.ref a) "dict" := fun F s v st r => by
  obtain ⟨ps, ⟨o, J, J, e, q, J⟩, J⟩ := st.at_ m
  cases (show v = .ref a from r); exact ⟨_, e, q.1⟩
theorem TypeP.dT {a xs} (m : (a, OB.dT xs) ∈ σ) : TypeP c σ (.ref a) "dict" := fun F s v st r => by
  obtain ⟨ps, ⟨o, J, J, e, q, J⟩, J⟩ := st.at_ m
  cases (show v = .ref a from r); exact ⟨_, e, q.1⟩

noncomputable def SubT (T : String) : Prop := ∃ id, typeLookup (.type T) "__getitem__" = pure (some (.builtin id))
theorem subT_list : SubT "list" := ⟨_, slot_list_getitem.lookup⟩
theorem subT_tuple : SubT "tuple" := ⟨_, PySem.F.slot_tuple_getitem.lookup⟩
theorem subT_dict : SubT "dict" := ⟨_, PySem.F.slot_dict_getitem.lookup⟩
theorem subT_str : SubT "str" := ⟨_, PySem.F.slot_str_getitem.lookup⟩

noncomputable def notSlice : Expr → Bool
  | .Slice .. => false
  | _ => true

theorem subscriptTail_any {value slice : Expr} {o i : Value} {T : String} {A : Around} {s : Shared} {Q : Value → Shared → Prop} (hT : s.TypeIs o T)
    (hl : SubT T) (h : wpAny c.M A (subscripted slice false o i) Q nope s) : wpAny c.M A (subscriptTail value slice o i) Q nope s := by
  obtain ⟨id, hl⟩ := hl
  unfold subscriptTail
  refine wpAny_bind ?_
  rw [getitemInPython_of_ne hT.not_modules]
  refine wpAny_bind (wpAny_specialOf hT hl ?_)
  have fin : wpAny c.M A (subscripted slice false o i) (fun r s₃ => wpAny c.M A (letTemporaryGo value o r >>= fun J => pure r) Q nope s₃) nope s :=
    wpAny_mono h (fun r s₃ h₃ => wpAny_bind (wpAny_letTemporaryGo (wpAny_pure h₃))) fun J J x => x
  first
    | exact wpAny_pure (wpAny_bind fin)
    | exact wpAny_bind (wpAny_pure (wpAny_bind fin))
    | exact wpAny_bind fin

theorem sub_plain {slice : Expr} {v w : Value} (hs : notSlice slice = true) : subscripted slice false v w = operate [v, w] (getItem v w) := by cases slice <;> first | rfl | cases hs
noncomputable abbrev SubE (c : Cx) (d : Nat) (σ : Sg) (x y : AV) (Q : AV → Sg → Prop) : Prop := (∃ T, TypeP c σ x T ∧ SubT T) ∧ ValP c d σ [x, y] subT Q
theorem EvalP.sub {value slice : Expr} {pos} (h : EvalP c d sc B σ value fun x σ₁ => EvalP c d sc B σ₁ slice fun y σ₂ => SubE c d σ₂ x y Q)
    (hs : autoParam (notSlice slice = true) trT) : EvalP c d sc B σ (.Subscript value slice pos) Q := fun A s env F rm k hF st f => by
  refine Subscript_ (wpAny_mono (h A s env F rm k hF st f) (fun v s₁ h₁ => ?_) fun J J z => z)
  obtain ⟨x, σ₁, st₁, e₁, r₁, h₁⟩ := h₁
  refine wpAny_mono (h₁ A s₁ env F rm k hF st₁ (f.evo st e₁ hF)) (fun w s₂ h₂ => ?_) fun J J z => z
  obtain ⟨y, σ₂, st₂, e₂, r₂, ⟨T, hT, hl⟩, h₂⟩ := h₂
  have r₁' := r₁.stays (st₁.stays e₂)
  refine subscriptTail_any (hT _ _ _ st₂ r₁') hl ?_
  rw [sub_plain hs]
  exact wpAny_operating (wpAny_mono (h₂ A s₂ F [v, w] rm st₂ ⟨r₁', r₂, trivial⟩) (fun J J z => .trans (e₁.trans e₂) z) fun J J z => z)

theorem rp_dat {h S} {x : PyData} {as v} (r : Rd h v x as) (n : ∀ a ∈ as, a ∉ S) : Rp c h S (.dat x) v := ⟨as, r, n⟩

theorem readsAll_get {h : Heap} {vs : List Value} {ds : List PyData} {as : List Addr} {j : Nat} {x : PyData} (r : RdAll h vs ds as) : ds[j]? = some x → ∃ v bs, vs[j]? = some v ∧ Rd h v x bs ∧ ∀ a ∈ bs, a ∈ as :=
  RdAll.rec (motive_1 := fun J J J J => True) (motive_2 := fun vs ds as J => ∀ j, ds[j]? = some x → ∃ v bs, vs[j]? = some v ∧ Rd h v x bs ∧ ∀ a ∈ bs, a ∈ as) trivial (fun J => trivial) (fun J J => trivial) (fun J J => trivial) (fun J J J J J J => trivial) (fun J J J J J J => trivial)
    (fun j e => by simp at e) (fun r J J ih j e => by
      cases j with
      | zero =>
        simp at e; subst e
        exact ⟨_, _, rfl, r, fun a m => List.mem_append_left _ m⟩
      | succ j =>
        obtain ⟨v, bs, a, b, q⟩ := ih j (by simpa using e)
        exact ⟨v, bs, by simpa using a, b, fun z m => List.mem_append_right _ (q z m)⟩) r j

theorem ValP.itemT {ds : List PyData} {k : Int} {j : Nat} {x : PyData} (hj : seqIndex? k ds.length = some j) (hx : ds[j]? = some x) (h : Q (.dat x) σ) (hk : autoParam (-(2 ^ 63) ≤ k ∧ k < 2 ^ 63) dcT) : ValP c d σ [Tu ds, I k] subT Q := .two fun A s F v w rm st ⟨as, r, n⟩ r' => by
  obtain ⟨u, rfl⟩ := rp_int' r'
  cases r with
  | tuple h1 h2 h3 h4 =>
    obtain ⟨y, bs, a, b, q⟩ := readsAll_get h4 hx
    have hl := PySem.SeqAt.ReadsAll.length _ _ _ h4.reads
    refine PyProof.Rows.getItem_tuple ⟨_, h1, h2, _, h3⟩ hk.1 hk.2 (by rw [← Array.length_toList, hl]; exact hj) (by rw [← Array.getElem?_toList]; exact a) (.here st (rp_dat b fun z m => n z (q z m)) h)
theorem ValP.itemL {ds : List PyData} {k : Int} {x : PyData} (h0 : 0 ≤ k) (hx : ds[k.toNat]? = some x) (h : Q (.dat x) σ) (hk : autoParam (k < 2 ^ 63) dcT) : ValP c d σ [Li ds, I k] subT Q := .two fun A s F v w rm st ⟨as, r, n⟩ r' => by
  obtain ⟨u, rfl⟩ := rp_int' r'
  cases r with
  | list h1 h2 h3 h4 =>
    obtain ⟨y, bs, a, b, q⟩ := readsAll_get h4 hx
    exact wpAny_getItem_list ⟨_, h1, h2, _, h3⟩ h0 hk (by rw [← Array.getElem?_toList]; exact a) (.here st (rp_dat b fun z m => n z (List.mem_cons_of_mem _ (q z m))) h)
theorem ValP.itemLneg {ds : List PyData} {k : Int} {x : PyData} (h0 : k < 0) (h1 : -(ds.length : Int) ≤ k) (hx : ds[(k + ds.length).toNat]? = some x) (h : Q (.dat x) σ) (hk : autoParam (-2 ^ 63 ≤ k) dcT) : ValP c d σ [Li ds, I k] subT Q := .two fun A s F v w rm st ⟨as, r, n⟩ r' => by
  obtain ⟨u, rfl⟩ := rp_int' r'
  cases r with
  | list e1 e2 e3 e4 =>
    obtain ⟨y, bs, a, b, q⟩ := readsAll_get e4 hx
    have hl := PySem.SeqAt.ReadsAll.length _ _ _ e4.reads
    rw [Array.length_toList] at hl
    exact wpAny_getItem_list_neg ⟨_, e1, e2, _, e3⟩ h0 (by rw [hl]; exact h1) hk (by rw [← Array.getElem?_toList, hl]; exact a) (.here st (rp_dat b fun z m => n z (List.mem_cons_of_mem _ (q z m))) h)
/- An item of an owned list. -/
theorem ValP.itemO {l : Addr} {ds : List PyData} {k : Int} {x : PyData} (m : (l, OB.lst ds) ∈ σ) (h0 : 0 ≤ k) (hx : ds[k.toNat]? = some x) (h : Q (.dat x) σ) (hk : autoParam (k < 2 ^ 63) dcT) : ValP c d σ [.ref l, I k] subT Q := .two fun A s F v w rm st r r' => by
  obtain ⟨u, rfl⟩ := rp_int' r'
  cases (show v = .ref l from r)
  obtain ⟨vs, as, pl, ra, n⟩ := st.at_ m
  obtain ⟨y, bs, a, b, q⟩ := readsAll_get ra hx
  exact wpAny_getItem_list pl.isList h0 hk (by rw [← Array.getElem?_toList]; exact a) (.here st (rp_dat b fun z m => n z (q z m)) h)
theorem ValP.itemOneg {l : Addr} {ds : List PyData} {k : Int} {x : PyData} (m : (l, OB.lst ds) ∈ σ) (h0 : k < 0) (h1 : -(ds.length : Int) ≤ k) (hx : ds[(k + ds.length).toNat]? = some x) (h : Q (.dat x) σ) (hk : autoParam (-2 ^ 63 ≤ k) dcT) : ValP c d σ [.ref l, I k] subT Q := .two fun A s F v w rm st r r' => by
  obtain ⟨u, rfl⟩ := rp_int' r'
  cases (show v = .ref l from r)
  obtain ⟨vs, as, pl, ra, n⟩ := st.at_ m
  obtain ⟨y, bs, a, b, q⟩ := readsAll_get ra hx
  have hl := PySem.SeqAt.ReadsAll.length _ _ _ ra.reads
  rw [Array.length_toList] at hl
  exact wpAny_getItem_list_neg pl.isList h0 (by rw [hl]; exact h1) hk (by rw [← Array.getElem?_toList, hl]; exact a) (.here st (rp_dat b fun z m => n z (q z m)) h)

/- A new object that nothing mutable bears. -/
theorem Post.push {F s} {x : AV} {v : Value} {o : Obj} {tk : Nat} (st : St c F σ s) (r : Rp c (s.heap.push o) (F ++ own σ) x v) (h : Q x σ) : Post c F σ s Q v { s with heap := s.heap.push o, toks := tk } :=
  ⟨x, σ, st.on fun J J e => Heap.get?_push_of_some _ e, .on σ fun J J e => Heap.get?_push_of_some _ e, r, h⟩
theorem Stays.push {h : Heap} {S : List Addr} (o : Obj) : Stays h S (h.push o) S := ⟨fun J J e J => Heap.get?_push_of_some _ e, fun J m => .inl m⟩

theorem readsAll_dats {h S} : ∀ {ds : List PyData} {vs : List Value}, RpAll c h S (ds.map .dat) vs → ∃ as, RdAll h vs ds as ∧ ∀ a ∈ as, a ∉ S
  | [], [], _ => ⟨[], .nil, fun J m => nomatch m⟩
  | d :: ds, v :: vs, ⟨⟨as, r, n⟩, q⟩ => by
    obtain ⟨bs, r', n'⟩ := readsAll_dats q
    exact ⟨as ++ bs, .cons r r', fun a m => (List.mem_append.mp m).elim (n a) (n' a)⟩
  | [], _ :: _, q => q.elim
  | _ :: _, [], q => q.elim

theorem fresh_notin {F s} (st : St c F σ s) : s.heap.objs.size ∉ F ++ own σ := fun m => by
  obtain ⟨o, e⟩ := ((List.mem_append.mp m).elim (st.live _) st.owned).ex
  exact Nat.lt_irrefl _ (Heap.lt_size e)

theorem rp_newTuple {F s} (st : St c F σ s) {ds : List PyData} {vs : List Value} (r : RpAll c s.heap (F ++ own σ) (ds.map .dat) vs) :
    Rp c (s.heap.push { cls := .type "tuple", data := .seq vs.toArray }) (F ++ own σ) (Tu ds) (.ref s.heap.objs.size) := by
  obtain ⟨as, r, n⟩ := readsAll_dats r
  exact ⟨as, .tuple (Heap.get?_push_size _ rfl) rfl rfl (rdAll_stays (.push _) r n) rfl, n⟩
theorem rp_newList {F s} (st : St c F σ s) {ds : List PyData} {vs : List Value} (r : RpAll c s.heap (F ++ own σ) (ds.map .dat) vs) :
    Rp c (s.heap.push { cls := .type "list", data := .seq vs.toArray }) (F ++ own σ) (Li ds) (.ref s.heap.objs.size) := by
  obtain ⟨as, r, n⟩ := readsAll_dats r
  exact ⟨_ :: as, .list (Heap.get?_push_size _ rfl) rfl rfl (rdAll_stays (.push _) r n) rfl, fun a m => by
    rcases List.mem_cons.mp m with rfl | m
    · exact fresh_notin st
    · exact n a m⟩

theorem EvalP.tuple {es : List Expr} {k pos} (h : EvalsP c d sc B σ es fun xs σ₁ => DatE xs fun ds => Q (Tu ds) σ₁) : EvalP c d sc B σ (.Tuple es k pos) Q := fun A s env F rm ke hF st f => by
  refine wpAny_Tuple_spliced (wpAny_mono (h A s env F pos rm ke hF st f) (fun vs s₁ h₁ => ?_) fun J J z => z)
  obtain ⟨xs, σ₁, st₁, e₁, r₁, ds, rfl, hz, h₁⟩ := h₁
  exact ⟨le_line hz (by simpa using rpAll_len r₁), .trans e₁ (.push st₁ (rp_newTuple st₁ r₁) h₁)⟩
/- A list's display, never changed again. -/
theorem EvalP.list {es : List Expr} {pos} (h : EvalsP c d sc B σ es fun xs σ₁ => DatE xs fun ds => Q (Li ds) σ₁) : EvalP c d sc B σ (.List es pos) Q := fun A s env F rm ke hF st f => by
  refine wpAny_List_spliced (wpAny_mono (h A s env F pos rm ke hF st f) (fun vs s₁ h₁ => ?_) fun J J z => z)
  obtain ⟨xs, σ₁, st₁, e₁, r₁, ds, rfl, hz, h₁⟩ := h₁
  exact ⟨le_line hz (by simpa using rpAll_len r₁), .trans e₁ (.push st₁ (rp_newList st₁ r₁) h₁)⟩

/- A new owned object. -/
theorem Post.own {F s} {ob : OB} {o : Obj} {tk : Nat} (st : St c F σ s) (hm : Mut o) (hf : o.isFreed = false) (hh : ∀ S', (∀ a ∈ S', a ∈ F ++ Mine.own σ ∨ a = s.heap.objs.size) → Holds c (s.heap.push o) S' s.heap.objs.size ob)
    (h : ∀ a, a ∉ Mine.own σ → Q (.ref a) ((a, ob) :: σ)) : Post c F σ s Q (.ref s.heap.objs.size) { s with heap := s.heap.push o, toks := tk } := by
  have nf := fresh_notin st
  have none_ : s.heap.get? s.heap.objs.size = none := by
    cases e : s.heap.get? s.heap.objs.size with
    | none => rfl
    | some o => exact absurd (Heap.lt_size e) (Nat.lt_irrefl _)
  have no : s.heap.objs.size ∉ Mine.own σ := fun m => nf (List.mem_append_right _ m)
  have kp : ∀ a q, s.heap.get? a = some q → (s.heap.push o).get? a = some q := fun J J e => Heap.get?_push_of_some _ e
  have sty : Stays s.heap (F ++ Mine.own σ) (s.heap.push o) (F ++ Mine.own ((s.heap.objs.size, ob) :: σ)) := ⟨fun a q e J => kp a q e, fun a m => by
    rcases List.mem_append.mp m with m | m
    · exact .inl (List.mem_append_left _ m)
    · rcases List.mem_cons.mp m with rfl | m
      · exact .inr none_
      · exact .inl (List.mem_append_right _ m)⟩
  refine ⟨.ref _, (s.heap.objs.size, ob) :: σ, ?_, ⟨fun a q e J => kp a q e, fun a m => ?_⟩, rfl, h _ no⟩
  · exact {
      base := fun a q e => kp a q (st.base a q e)
      gens := st.gens
      os := st.os
      apart := fun a m => by
        rcases List.mem_append.mp m with m | m
        · exact st.apart a (List.mem_append_left _ m)
        · rcases List.mem_cons.mp m with rfl | m
          · show c.h0.get? s.heap.objs.size = none
            cases e : c.h0.get? s.heap.objs.size with
            | none => rfl
            | some q => have := st.base _ _ e; rw [none_] at this; cases this
          · exact st.apart a (List.mem_append_right _ m)
      nodup := List.nodup_cons.mpr ⟨no, st.nodup⟩
      disj := fun a m q => by
        rcases List.mem_cons.mp q with rfl | q
        · exact nf (List.mem_append_left _ m)
        · exact st.disj a m q
      live := fun a m => let ⟨q, e, z⟩ := st.live a m; ⟨q, kp a q e, z⟩
      holds := fun p m => by
        rcases List.mem_cons.mp m with rfl | m
        · refine hh _ fun a m => ?_
          rcases List.mem_append.mp m with m | m
          · exact .inl (List.mem_append_left _ m)
          · rcases List.mem_cons.mp m with rfl | m
            · exact .inr rfl
            · exact .inl (List.mem_append_right _ m)
        · exact (st.holds p m).stays sty fun q e => kp _ q e }
  · rcases List.mem_cons.mp m with rfl | m
    · exact .inr none_
    · exact .inl m
end
-- Base8

noncomputable def plainIter (o : Obj) : Prop := ∃ n vs, o.cls = .type n ∧ o.data = .fields vs ∧ (["enumerate", "zip", "dict_itemiterator", "dict_reverseitemiterator", "odict_iterator", "itertools.zip_longest", "itertools.pairwise"].contains n) = false

theorem plainIter.mut {o : Obj} (x : plainIter o) : Mut o := let ⟨_, _, _, e, _⟩ := x; .inr (.inr (.inr ⟨_, e⟩))

theorem letOwned_plain {M : Model} {A : Around} {E : Value → Shared → Prop} {s : Shared} {target : Expr} {I : Addr} {v : Value} {o : Obj} {Q : Unit → Shared → Prop} (ho : s.heap.get? I = some o) (hp : plainIter o) (hQ : Q () s) :
    wpAny M A (letOwnedTupleGo target (.ref I) v) Q E s := by
  obtain ⟨n, vs, hc, hd, hn⟩ := hp
  have key : ∀ a : Addr, wpAny M A (letOwnedTupleGo (.List [] ⟨0, 0, 0, 0⟩) (.ref I) (.ref a)) Q E s := fun a => by
    show wpAny M A (load I >>= _) Q E s
    refine wpAny_bind (wpAny_load ho ?_)
    rw [hc, hd]
    dsimp only
    rw [hn]
    exact wpAny_pure hQ
  cases target with
  | Tuple es k p => cases v with
    | ref a => exact key a
    | _ => exact wpAny_pure hQ
  | List es p => cases v with
    | ref a => exact key a
    | _ => exact wpAny_pure hQ
  | _ => exact wpAny_pure hQ

/- An iterator that is about to walk over the items. -/
structure WalkAt (c : Cx) (A : Around) (F : List Addr) (σ : Sg) (h : Heap) (I : Addr) (items : List AV) : Prop where
  it : ∃ (fp : List Addr) (P : Nat → Value → Prop) (X : Nat → Heap → Prop), Walks c.prog c.w A I fp [I] items.length P X ∧ X 0 h ∧ (∀ b ∈ fp, b ≠ I → b ∉ F ++ own σ ∧ ∃ o, h.get? b = some o) ∧
    (∀ i v, i < items.length → P i v → ∃ x, items[i]? = some x ∧ Rp c h (I :: (F ++ own σ)) x v) ∧ (∀ i h, X i h → ∃ o, h.get? I = some o ∧ plainIter o)

noncomputable def IterP (c : Cx) (d : Nat) (σ : Sg) (x : AV) (items : List AV) : Prop := ∀ (A : Around) (s : Shared) (F : List Addr) (v : Value) (Q : Value → Shared → Prop), Room d A → St c F σ s → Rp c s.heap (F ++ own σ) x v →
  (∀ I h' tk, s.heap.get? I = none → (∀ a o, s.heap.get? a = some o → h'.get? a = some o) → WalkAt c A F σ h' I items → Q (.ref I) { s with heap := h', toks := tk }) → wpAny c.M A (pyIter v) Q nope s

section
variable {c : Cx} {d : Nat} {sc : Scope} {B : Bs} {σ : Sg} {N : Bs → Sg → Prop} {R : AV → Sg → Prop}

theorem size_none (h : Heap) : h.get? h.objs.size = none := by
  cases e : h.get? h.objs.size with
  | none => rfl
  | some o => exact absurd (Heap.lt_size e) (Nat.lt_irrefl _)

theorem items_rp {h : Heap} {S S'} {vs : List Value} {ds : List PyData} {as : List Addr} (r : RdAll h vs ds as) (n : ∀ a ∈ as, a ∉ S) {h' : Heap} (y : Stays h S h' S') :
    ∀ (i : Nat) (v : Value), i < (ds.map AV.dat).length → vs[i]? = some v → ∃ x, (ds.map AV.dat)[i]? = some x ∧ Rp c h' S' x v := fun i v hi e => by
  rw [List.length_map] at hi
  obtain ⟨w, bs, a, b, q⟩ := readsAll_get r (List.getElem?_eq_getElem hi)
  rw [e] at a; cases a
  refine ⟨.dat ds[i], by simp [hi], Rp.stays y (rp_dat b fun z m => n z (q z m))⟩

theorem IterP.tuple {ds : List PyData} : IterP c d σ (Tu ds) (ds.map .dat) := fun A s F v Q rm st r q => by
  obtain ⟨as, r, n⟩ := r
  obtain ⟨a, o, vs, k, rfl, h1, h2, h3, h4, J⟩ := rd_tup r
  have ht : s.heap.IsTuple a vs := ⟨o, h1, h2, k, h3⟩
  have hl := PySem.SeqAt.ReadsAll.length _ _ _ h4.reads
  rw [Array.length_toList] at hl
  have kp : ∀ b o, s.heap.get? b = some o → (s.heap.push { cls := .type "tuple_iterator", data := .fields #[.ref a, .int 0 0] }).get? b = some o := fun J J e => Heap.get?_push_of_some _ e
  have W := Walks.tuple (prog := c.prog) (w := c.w) rm.handled s.heap.objs.size a (Nat.ne_of_lt (Heap.lt_size h1)) vs
  rw [hl, ← List.length_map (f := AV.dat)] at W
  refine wpAny_pyIter_tuple ht (q _ _ s.toks (size_none _) kp ⟨_, _, _, W, ⟨⟨_, Heap.get?_push_size _ rfl, rfl, rfl⟩, ht.push _⟩, fun b m nb => ?_, fun i v hi e => ?_, fun i h x => ?_⟩)
  · have : b = a := (List.mem_cons.mp m).elim (fun z => (nb z).elim) List.mem_singleton.mp
    rw [this]
    exact ⟨fun m => notMut_tuple h2 h3 (st.mutOf m h1), o, kp _ _ h1⟩
  · exact items_rp h4 n (S' := s.heap.objs.size :: (F ++ own σ)) (Stays.mk (fun b o e J => kp b o e) (forall_cons (.inr (size_none _)) fun b m => .inl m)) i v hi (by rw [Array.getElem?_toList]; exact e)
  · obtain ⟨⟨o, e, hc, hd⟩, J⟩ := x
    exact ⟨o, e, _, _, hc, hd, by decide⟩

theorem IterP.list {ds : List PyData} : IterP c d σ (Li ds) (ds.map .dat) := fun A s F v Q rm st r q => by
  obtain ⟨as, r, n⟩ := r
  obtain ⟨a, o, vs, k, bs, rfl, rfl, h1, h2, h3, h4, J⟩ := rd_lst r
  have ht : s.heap.IsList a vs := ⟨o, h1, h2, k, h3⟩
  have hl := PySem.SeqAt.ReadsAll.length _ _ _ h4.reads
  rw [Array.length_toList] at hl
  have kp : ∀ b o, s.heap.get? b = some o → (s.heap.push { cls := .type "list_iterator", data := .fields #[.ref a, .int 0 0] }).get? b = some o := fun J J e => Heap.get?_push_of_some _ e
  have W := Walks.list (prog := c.prog) (w := c.w) rm.handled s.heap.objs.size a (Nat.ne_of_lt (Heap.lt_size h1)) vs
  rw [hl, ← List.length_map (f := AV.dat)] at W
  refine wpAny_pyIter_list ht (q _ _ s.toks (size_none _) kp ⟨_, _, _, W, ⟨⟨_, Heap.get?_push_size _ rfl, rfl, rfl⟩, ht.push _⟩, fun b m nb => ?_, fun i v hi e => ?_, fun i h x => ?_⟩)
  · have : b = a := (List.mem_cons.mp m).elim (fun z => (nb z).elim) List.mem_singleton.mp
    rw [this]
    exact ⟨n _ (.head _), o, kp _ _ h1⟩
  · exact items_rp h4 (fun b m => n b (.tail _ m)) (S' := s.heap.objs.size :: (F ++ own σ)) (Stays.mk (fun b o e J => kp b o e) (forall_cons (.inr (size_none _)) fun b m => .inl m)) i v hi (by rw [Array.getElem?_toList]; exact e)
  · obtain ⟨⟨o, e, hc, hd⟩, J⟩ := x
    exact ⟨o, e, _, _, hc, hd, by decide⟩


noncomputable def numsOn (a b : Int) : List Int := (List.range (b - a).toNat).map fun (i : Nat) => a + (i : Int)

theorem small1 {a b : Int} (ha : -(2 ^ 60) ≤ a) (ha' : a < 2 ^ 60) (hb : -(2 ^ 60) ≤ b) (hb' : b < 2 ^ 60) : Builtin.Range.small a b 1 = true := by
  unfold Builtin.Range.small Builtin.Range.rangeFitsLong
  rw [rangeSize_one]
  split <;> simp <;> lia

theorem IterP.rng {a b : Int} (ha : -(2 ^ 60) ≤ a) (ha' : a < 2 ^ 60) (hb : -(2 ^ 60) ≤ b) (hb' : b < 2 ^ 60) : IterP c d σ (.rng a b) ((numsOn a b).map I) := fun A s F v Q rm st ⟨r, t, u, w, e, n, hr⟩ q => by
  subst e
  have kp : ∀ b o ob, s.heap.get? b = some ob → (s.heap.push o).get? b = some ob := fun J J J e => Heap.get?_push_of_some _ e
  have hlen : ((numsOn a b).map I).length = (b - a).toNat := by simp [numsOn]
  refine wpAny_pyIter_range hr (small1 ha ha' hb hb') ?_
  have W := Walks.range (prog := c.prog) (w := c.w) rm.handled s.heap.objs.size a 1 (b - a).toNat
  rw [← hlen] at W
  refine q _ _ s.toks (size_none _) (fun b o e => kp b _ o e) ⟨_, _, _, W, ?_, fun x m nb => ?_, fun i v hi e => ?_, fun i h x => ?_⟩
  · rw [hlen]
    show IsRangeIter _ _ (a + ((0 : Nat) : Int) * 1) (((b - a).toNat : Int) - ((0 : Nat) : Int)) 1
    have h1 : a + ((0 : Nat) : Int) * 1 = a := by simp
    have h2 : (((b - a).toNat : Int) - ((0 : Nat) : Int)) = Builtin.Range.rangeSize a b 1 := by rw [rangeSize_one]; split <;> lia
    rw [h1, h2]
    exact Heap.get?_push_size _ rfl
  · exact absurd (List.mem_singleton.mp m) nb
  · rw [hlen] at hi
    obtain ⟨t, rfl⟩ := e
    refine ⟨I (a + (i : Int)), by simp [numsOn, hi], ?_⟩
    rw [Int.mul_one]
    exact rp_int
  · exact ⟨_, x, _, _, rfl, rfl, by decide⟩

theorem rp_rng {h S} {a b : Int} {r t u w} (n : r ∉ S) (e : IsRange h r a b 1 t u w) : Rp c h S (.rng a b) (.ref r) := ⟨r, t, u, w, rfl, n, e⟩

theorem CallP.range1 {n : Int} {Q : AV → Sg → Prop} (h : Q (.rng 0 n) σ) : CallP c d (.val (.type "range")) [I n] σ Q := .two fun A s F v w rm st r r' => by
  cases (show v = .type "range" from r)
  obtain ⟨t, rfl⟩ := rp_int' r'
  refine call_range_1 (.push st (rp_rng (fresh_notin st) (Heap.get?_push_size _ rfl)) h)
theorem CallP.range2 {a b : Int} {Q : AV → Sg → Prop} (h : Q (.rng a b) σ) : CallP c d (.val (.type "range")) [I a, I b] σ Q := .three fun A s F v w u rm st r r' r'' => by
  cases (show v = .type "range" from r)
  obtain ⟨t, rfl⟩ := rp_int' r'
  obtain ⟨t, rfl⟩ := rp_int' r''
  refine call_range_2 (.push st (rp_rng (fresh_notin st) (Heap.get?_push_size _ rfl)) h)
end
-- Base9

section
variable {c : Cx} {d : Nat} {sc : Scope} {B : Bs} {σ : Sg} {N : Bs → Sg → Prop} {R : AV → Sg → Prop}

/- Where a loop stands whose iterator is it. -/
structure LoopAt (c : Cx) (F : List Addr) (env : Env) (it : Addr) (X : List Addr) (σ : Sg) (h : Heap) (B' : Bs) (σ' : Sg) (s' : Shared) : Prop where
  st : St c (it :: F) σ' s'
  keep : ∀ a o, h.get? a = some o → a ∉ own σ → a ∉ wenv env → a ∉ X → s'.heap.get? a = some o
  new : ∀ a ∈ own σ', a ∈ own σ ∨ h.get? a = none
  frm : Frm c env B' ((it :: F) ++ own σ') s'.heap
  mem : it ∈ X
  sub : ∀ a ∈ X, a ∈ it :: F

theorem LoopAt.there {F env it X h B₁ σ₁ s₁} (hF : ∀ a ∈ fenv env, a ∈ F) (x : LoopAt c F env it X σ h B₁ σ₁ s₁) {a o} (e : h.get? a = some o) (n : a ∉ own σ) : ∃ o', s₁.heap.get? a = some o' :=
  (Classical.em (a ∈ wenv env)).elim (fun hf => (x.st.live a (.tail _ (hF a (wenv_sub hf)))).ex) fun hf => (Classical.em (a ∈ X)).elim (fun hi => (x.st.live a (x.sub a hi)).ex) fun hi => ⟨o, x.keep a o e n hf hi⟩
theorem LoopAt.step {F env it X h B₁ σ₁ s₁ B₂ σ₂ s₂} (hF : ∀ a ∈ fenv env, a ∈ F) (x : LoopAt c F env it X σ h B₁ σ₁ s₁) (y : FrmPost c (it :: F) env σ₁ s₁.heap B₂ σ₂ s₂) : LoopAt c F env it X σ h B₂ σ₂ s₂ where
  st := y.st
  frm := y.frm
  mem := x.mem
  sub := x.sub
  keep := fun a o e n f ni => y.keep a o (x.keep a o e n f ni) (fun m => (x.new a m).elim n (nsn e)) f
  new := fun a m => (y.new a m).elim (x.new a) (absent fun o z hm => x.there hF z hm)

theorem LoopAt.stays {F env it X s B' σ' s'} (hF : ∀ a ∈ fenv env, a ∈ F) (st : St c (it :: F) σ s) (x : LoopAt c F env it X σ s.heap B' σ' s') : Stays s.heap ((it :: F) ++ own σ) s'.heap ((it :: F) ++ own σ') where
  keep := fun a o e n =>
    have na := st.notIn e n
    x.keep a o e (fun m => na (List.mem_append_right _ m)) (fun m => na (List.mem_append_left _ (.tail _ (hF a (wenv_sub m))))) fun m => na (List.mem_append_left _ (x.sub a m))
  new := fun a m => (List.mem_append.mp m).elim (fun m => .inl (List.mem_append_left _ m)) fun m => (x.new a m).imp (List.mem_append_right _) id

/- The iterator has gone on; all else stands. -/
theorem one_of {b it : Addr} (h : b ≠ it) : b ∉ [it] := fun m => h (List.mem_singleton.mp m)
theorem LoopAt.iter {F env it X h B' σ' s'} (hF : ∀ a ∈ fenv env, a ∈ F) (hit : it ∉ F) (x : LoopAt c F env it X σ h B' σ' s') {h' : Heap} {tk : Nat} (k : ∀ b o, b ∉ [it] → s'.heap.get? b = some o → h'.get? b = some o) (hi : MutAt h' it) :
    LoopAt c F env it X σ h B' σ' { s' with heap := h', toks := tk } := by
  obtain ⟨st, sty⟩ := x.st.move (F' := it :: F) (s' := { s' with heap := h', toks := tk }) [it] (fun a m => List.mem_singleton.mp m ▸ .head _) k (fun a m J => List.mem_singleton.mp m ▸ hi) fun J m => .inl m
  exact ⟨st, fun a o e n f ni => k a o (one_of fun z => ni (z ▸ x.mem)) (x.keep a o e n f ni), x.new, x.frm.move sty fun a m o e => k a o (one_of fun z => hit (z ▸ hF a m)) e, x.mem, x.sub⟩

theorem St.less {F F' : List Addr} {s} (st : St c F' σ s) (hs : ∀ a ∈ F, a ∈ F') : St c F σ s := by
  have sb : ∀ a ∈ F ++ own σ, a ∈ F' ++ own σ := fun a m => (List.mem_append.mp m).elim (fun m => List.mem_append_left _ (hs a m)) fun m => List.mem_append_right _ m
  exact { base := st.base, gens := st.gens, os := st.os, apart := fun a m => st.apart a (sb a m), nodup := st.nodup, disj := fun a m => st.disj a (hs a m), live := fun a m => st.live a (hs a m), holds := fun p m => (st.holds p m).sub sb }
theorem Frm.less {env : Env} {S S' : List Addr} {h} (f : Frm c env B S' h) (hs : ∀ a ∈ S, a ∈ S') : Frm c env B S h := f.move ⟨fun J J e J => e, fun a m => .inl (hs a m)⟩ fun J J J e => e

/- A new forbidden address. -/
theorem St.more {F : List Addr} {s it h' tk} (st : St c F σ s) (n : s.heap.get? it = none) (k : ∀ a o, s.heap.get? a = some o → h'.get? a = some o) (hi : MutAt h' it) : St c (it :: F) σ { s with heap := h', toks := tk } :=
  (st.move (s' := { s with heap := h', toks := tk }) [] (fun J m => nomatch m) (fun a o J => k a o) (fun J m => nomatch m) (forall_cons (.inr ⟨n, hi⟩) fun J m => .inl m)).1

/- The iterator is done: all else stands. -/
structure LoopEnd (c : Cx) (F : List Addr) (env : Env) (it : Addr) (X : List Addr) (σ : Sg) (h : Heap) (B' : Bs) (σ' : Sg) (s' : Shared) : Prop where
  st : St c F σ' s'
  keep : ∀ a o, h.get? a = some o → a ∉ own σ → a ∉ wenv env → a ∉ X → s'.heap.get? a = some o
  new : ∀ a ∈ own σ', a ∈ own σ ∨ h.get? a = none
  frm : Frm c env B' (F ++ own σ') s'.heap
theorem LoopAt.out {F env it X h B' σ' s'} (x : LoopAt c F env it X σ h B' σ' s') : LoopEnd c F env it X σ h B' σ' s' := ⟨x.st.less fun a m => .tail _ m, x.keep, x.new, x.frm.less fun a m => .tail _ m⟩
theorem LoopAt.last {F env it X h B' σ' s'} (hF : ∀ a ∈ fenv env, a ∈ F) (hit : it ∉ F) (x : LoopAt c F env it X σ h B' σ' s') {h' : Heap} {tk : Nat} (k : ∀ b o, b ∉ [it] → s'.heap.get? b = some o → h'.get? b = some o) :
    LoopEnd c F env it X σ h B' σ' { s' with heap := h', toks := tk } := by
  obtain ⟨st, sty⟩ := x.st.move (F' := F) (s' := { s' with heap := h', toks := tk }) [it] (fun a m => List.mem_singleton.mp m ▸ .head _) k (fun a m q => (hit (List.mem_singleton.mp m ▸ q)).elim) fun J m => .inl (.tail _ m)
  exact ⟨st, fun a o e n f ni => k a o (one_of fun z => ni (z ▸ x.mem)) (x.keep a o e n f ni), x.new, x.frm.move sty fun a m o e => k a o (one_of fun z => hit (z ▸ hF a m)) e⟩

/- The frame, with one more forbidden address. -/
theorem Frm.more {env S it h h'} (f : Frm c env B S h) (n : h.get? it = none) (kp : ∀ a o, h.get? a = some o → h'.get? a = some o) : Frm c env B (it :: S) h' :=
  f.move ⟨fun a o e J => kp a o e, forall_cons (.inr n) fun J m => .inl m⟩ fun a J o e => kp a o e

/- What stood ahead of a loop, seen from behind it. -/
theorem LoopEnd.post {F env it D σ₁ B' σ' s'} {s s₁ h₂ : Heap} {X : List Addr} (e₁ : Evo σ s σ₁ s₁) (kp : ∀ a o, s₁.get? a = some o → h₂.get? a = some o) (hX : ∀ a ∈ X, a = D ∨ s₁.get? a = none) (y : LoopEnd c F env it X σ₁ h₂ B' σ' s') :
    (∀ a o, s.get? a = some o → a ∉ own σ → a ∉ wenv env → a ≠ D → s'.heap.get? a = some o) ∧ (∀ a ∈ own σ', a ∈ own σ ∨ s.get? a = none) :=
  ⟨fun a o e n nf nd =>
    have e' := e₁.keep a o e n
    y.keep a o (kp a o e') (fun m => (e₁.new a m).elim n (nsn e)) nf fun z => (hX a z).elim nd (nsn e'),
   fun a m => (y.new a m).elim (e₁.new a) (absent fun o e hm => ⟨o, kp a o (e₁.keep a o e hm)⟩)⟩

theorem mark_none (A : Around) : A.mark none = A := by obtain ⟨hd, J, J, J, J⟩ := A; rfl
theorem exec_For (target iter : Expr) (body orelse : List Stmt) (pos : Pos) (env : Env) : exec (.For target iter body orelse pos) env = (do
    standAt pos
    let x ← foldedSetIterable iter env (← eval iter env)
    standAt iter.pos
    runOwn (.forLoop target (← holding [x] (pyIter x)) body orelse env) env) := rfl

/- Going over an iterable: its items, and what holds ahead of each turn. -/
inductive IterI (c : Cx) (d : Nat) (σ : Sg) (x : AV) {α : Type} (start : (α → Sg → Prop) → Prop) (T : (Nat → α → Sg → Prop) → Nat → AV → α → Sg → Prop) (N : α → Sg → Prop) : Prop
  | mk (items : List AV) (Iv : Nat → α → Sg → Prop) : IterP c d σ x items → start (Iv 0) → (∀ i y z σ', items[i]? = some y → Iv i z σ' → T Iv i y z σ') → (∀ z σ', Iv items.length z σ' → N z σ') → IterI c d σ x start T N
/- A loop's turns that raise nothing; what follows a turn is told by letters. -/
theorem codeAny_for_ab {A : Around} {s : Shared} {R : Result → Shared → Prop} {target : Expr} {it : Value} {body : List Stmt} {env : Env} (I : Nat → Shared → Prop)
    (turn : ∀ n s, I n s → ∀ (Q0 Qn : Shared → Prop) (Qr : Value → Shared → Prop), (∀ s, R (.ok .next) s → Q0 s) → (∀ m s, m < n → I m s → Qn s) → (∀ v s, R (.ok (.ret v)) s → Qr v s) →
      wpAny c.M A (pyNext it) (fun r s₁ => match r with
        | none => Q0 s₁
        | some v => wpAny c.M A (letOwnedTupleGo target it v) (fun J s₂ => wpAny c.M A (assign target env v) (fun J s₃ => wpAny c.M A (execs body env) (fun f s₄ => match f with
          | .next => Qn s₄
          | .ret v => Qr v s₄
          | _ => False) nope s₃) nope s₂) nope s₁) nope s)
    (n : Nat) (h : I n s) : codeAny c.M A (.forLoop target it body [] env) R s := by
  refine codeAny_forLoop_any I (fun n s hI => nope_elim (wpAny_mono (turn n s hI (R (.ok .next)) (fun s => ∃ m, m < n ∧ I m s) (fun v => R (.ok (.ret v))) (fun J x => x) (fun m s h1 h2 => ⟨m, h1, h2⟩) (fun J J x => x)) (fun r s₁ h₁ => ?_) fun J J z => z)) n h
  cases r with
  | none => exact wpAny_execs_nil h₁
  | some v =>
    refine nope_elim (wpAny_mono h₁ (fun J s₂ h₂ => nope_elim (wpAny_mono h₂ (fun J s₃ h₃ => nope_elim (wpAny_mono h₃ (fun f s₄ h₄ => ?_) fun J J z => z)) fun J J z => z)) fun J J z => z)
    cases f with
    | next => exact h₄
    | ret v => exact h₄
    | brk => exact h₄.elim
    | cont => exact h₄.elim
inductive ForJ (c : Cx) (F : List Addr) (env : Env) (it : Addr) (σ : Sg) (h : Heap) (X : Nat → Heap → Prop) (Iv : Nat → Bs → Sg → Prop) (m n : Nat) (s' : Shared) : Prop
  | mk (i : Nat) (B' : Bs) (σ' : Sg) : LoopAt c F env it [it] σ h B' σ' s' → X i s'.heap → Iv i B' σ' → i ≤ m → n = m + 1 - i → ForJ c F env it σ h X Iv m n s'
theorem ExecP.for_ {target iter : Expr} {body : List Stmt} {pos}
    (h : EvalP c d sc B σ iter fun x σ₁ => IterI c d σ₁ x (fun I0 => I0 B σ₁) (fun Iv i x B' σ' => AsgP c d sc B' σ' target x fun B₂ σ₂ => ExecsP c d sc B₂ σ₂ body (Iv (i + 1)) R) N)
    (hs : ∀ env x, foldedSetIterable iter env x = pure x := by intros; rfl) : ExecP c d sc B σ (.For target iter body [] pos) N R := fun A s env F rm ke hF st f => by
  rw [exec_For]
  refine wpAny_bind (wpAny_standAt (wpAny_bind (wpAny_mono (h A s env F rm ke hF st f) (fun v s₁ h₁ => ?_) fun J J z => z)))
  obtain ⟨x, σ₁, st₁, e₁, r₁, items, Iv, hit, h0, hturn, hend⟩ := h₁
  rw [hs]
  refine wpAny_bind (wpAny_pure (wpAny_bind (wpAny_standAt (wpAny_bind (wpAny_holding (hit A s₁ F v _ rm st₁ r₁ fun it h₂ tk₂ hnone kp W => ?_))))))
  obtain ⟨fp, P, X, W, hX, hfp, hP, hpl⟩ := W.it
  have hitF : it ∉ F := (st₁.fresh hnone).1
  have hio : MutAt h₂ it := (hpl 0 h₂ hX).elim fun o z => ⟨o, z.1, z.2.mut⟩
  have stI : St c (it :: F) σ₁ { s₁ with heap := h₂, toks := tk₂ } := st₁.more hnone kp hio
  have f₂ : Frm c env B ((it :: F) ++ own σ₁) h₂ := (f.evo st e₁ hF).more hnone kp
  have start : LoopAt c F env it [it] σ₁ h₂ B σ₁ { s₁ with heap := h₂, toks := tk₂ } := ⟨stI, fun J J e J J J => e, fun J m => .inl m, f₂, .head _, fun a m => List.mem_singleton.mp m ▸ .head _⟩
  have fin : ∀ {B' σ' s'}, LoopEnd c F env it [it] σ₁ h₂ B' σ' s' → FrmPost c F env σ s.heap B' σ' s' := fun {B' σ' s'} y =>
    have z := y.post (D := it) e₁ kp fun a m => .inr (List.mem_singleton.mp m ▸ hnone)
    ⟨y.st, fun a o e n nf => (Classical.em (a = it)).elim (fun q => (nsn (q ▸ e₁.keep a o e n) hnone).elim) (z.1 a o e n nf), z.2, y.frm⟩
  refine wpAny_runOwn ?_
  show codeAny _ _ _ _ _
  refine codeAny_mono (R := fun r s' => match r with | .ok fl => PostS c F env σ s N R fl s' | .error _ => False) ?_ (fun r s' h => by cases r with
    | ok fl => exact h
    | error e => exact h.elim)
  rw [mark_none A]
  refine codeAny_for_ab (ForJ c F env it σ₁ h₂ X Iv items.length) ?_ (items.length + 1) ⟨0, B, σ₁, start, hX, h0, Nat.zero_le _, rfl⟩
  rintro k s' ⟨i, B', σ', lo, hXi, hi, hle, rfl⟩ Q0 Qn Qr g0 gn gr
  by_cases hlt : i < items.length
  · refine W.item i s' _ _ hlt hXi fun v' h₃ tk₃ hPv hX₃ hk₃ => ?_
    obtain ⟨o₃, ho₃, hp₃⟩ := hpl _ _ hX₃
    have lo₃ := lo.iter hF hitF (tk := tk₃) hk₃ ⟨o₃, ho₃, hp₃.mut⟩
    obtain ⟨y, hy, hr⟩ := hP i v' hlt hPv
    have hr' := hr.stays (lo₃.stays hF stI)
    refine letOwned_plain ho₃ hp₃ ?_
    refine nope_elim (wpAny_mono (hturn i y B' σ' hy hi A _ env (it :: F) v' rm ke (fun a m => .tail _ (hF a m)) lo₃.st lo₃.frm hr') (fun J s₄ h₄ => ?_) fun J J z => z)
    obtain ⟨B₄, σ₄, f₄, h₄⟩ := h₄
    have lo₄ := lo₃.step hF f₄
    refine nope_elim (wpAny_mono (h₄ A s₄ env (it :: F) rm ke (fun a m => .tail _ (hF a m)) lo₄.st lo₄.frm) (fun fl s₅ h₅ => ?_) fun J J z => z)
    cases fl with
    | next =>
      obtain ⟨B₅, σ₅, f₅, h₅⟩ := h₅
      have lo₅ := lo₄.step hF f₅
      refine gn (items.length + 1 - (i + 1)) _ (by lia) ⟨i + 1, B₅, σ₅, lo₅, ?_, h₅, hlt, rfl⟩
      refine W.frame _ _ _ hX₃ fun b hb o e => ?_
      by_cases hbi : b = it
      · rw [hbi] at e ⊢
        exact f₅.keep it o (f₄.keep it o e (lo₃.st.disj it (.head _)) fun m => hitF (hF it (wenv_sub m))) (lo₄.st.disj it (.head _)) fun m => hitF (hF it (wenv_sub m))
      · obtain ⟨nb, ob, eb⟩ := hfp b hb hbi
        have n1 : b ∉ own σ₁ := fun m => nb (List.mem_append_right _ m)
        have n2 : b ∉ wenv env := fun m => nb (List.mem_append_left _ (hF b (wenv_sub m)))
        have hbi' : b ∉ [it] := fun z => hbi (List.mem_singleton.mp z)
        exact Option.some.inj ((lo₃.keep b ob eb n1 n2 hbi').symm.trans e) ▸ lo₅.keep b ob eb n1 n2 hbi'
    | ret u =>
      obtain ⟨y, B₅, σ₅, f₅, r₅, h₅⟩ := h₅
      have lo₅ := lo₄.step hF f₅
      exact gr _ _ ⟨y, B₅, σ₅, fin lo₅.out, r₅.sub fun a m => .tail _ m, h₅⟩
    | brk => exact h₅.elim
    | cont => exact h₅.elim
  · have hin : i = items.length := by lia
    subst hin
    refine W.done s' _ _ hXi fun h₃ tk₃ hk₃ => ?_
    exact g0 _ ⟨B', σ', fin (lo.last hF hitF hk₃), hend _ _ hi⟩
end
-- Base10

noncomputable def relS (scope sc : Scope) : Scope :=
  { scope with names := scope.names.map fun (n, k) => if (k == .free && sc.kind == .function && sc.names.lookup n == some .cell) then (n, .cell) else (n, k) }
theorem relS_eq {scope sc : Scope} {env : Env} (k : EnvOK sc env) : relabel scope env = relS scope sc := by
  unfold relabel relS
  rw [k.scope]
  simp only [k.ki]

noncomputable def clOf (env : Env) : List (Str × NameKind) → List (Str × Addr) → List (Str × Addr)
  | [], acc => acc
  | (n, k) :: r, acc => if k == .free then clOf env r ((n, (env.cells.lookup n).getD 0) :: acc) else clOf env r acc

theorem closure_eq {env : Env} {scope : Scope} (h : ∀ x ∈ scope.names, x.2 = .free → (env.cells.lookup x.1).isSome = true) : closureFor scope env = pure (clOf env scope.names []) := by
  unfold closureFor
  have : ∀ (l : List (Str × NameKind)) (acc : List (Str × Addr)), (∀ x ∈ l, x.2 = .free → (env.cells.lookup x.1).isSome = true) →
      (forIn l acc fun x r => match x with
        | (name, kind) => if (kind == NameKind.free) = true then (do let y ← cellOf env name; pure (ForInStep.yield ((name, y) :: r))) else pure (ForInStep.yield r) : Sem _) = pure (clOf env l acc) := by
    intro l
    induction l with
    | nil => intro acc J; rfl
    | cons x l ih =>
      intro acc h
      obtain ⟨n, k⟩ := x
      rw [List.forIn_cons]
      by_cases hk : (k == NameKind.free) = true
      · obtain ⟨a, ha⟩ := Option.isSome_iff_exists.mp (h _ (.head _) (eq_of_beq hk))
        have e1 : cellOf env n = pure a := by unfold cellOf; rw [show env.cells.lookup n = some a from ha]
        simp only [hk, if_true, e1]
        have := ih ((n, a) :: acc) fun x m => h x (.tail _ m)
        have e2 : clOf env ((n, k) :: l) acc = clOf env l ((n, a) :: acc) := by
          rw [clOf, if_pos hk, show env.cells.lookup n = some a from ha]; rfl
        rw [e2]
        exact this
      · simp only [hk]
        have := ih acc fun x m => h x (.tail _ m)
        have e2 : clOf env ((n, k) :: l) acc = clOf env l acc := by rw [clOf, if_neg hk]
        rw [e2]
        exact this
  have := this scope.names [] h
  first
    | exact this
    | (refine Eq.trans ?_ this; simp)
    | (rw [← this]; rfl)

theorem clOf_some {env : Env} : ∀ (l : List (Str × NameKind)) (acc : List (Str × Addr)) (n : Str), ((n, NameKind.free) ∈ l ∨ (acc.lookup n).isSome = true) → ((clOf env l acc).lookup n).isSome = true
  | [], acc, n, h => by
    rcases h with h | h
    · cases h
    · exact h
  | (m, k) :: r, acc, n, h => by
    unfold clOf
    by_cases hk : (k == NameKind.free) = true
    · rw [if_pos hk]
      refine clOf_some r _ n ?_
      by_cases e : n = m
      · subst e; right; simp
      · have q : (n == m) = false := by simpa using e
        rcases h with h | h
        · rcases List.mem_cons.mp h with h | h
          · cases h; exact absurd rfl e
          · exact .inl h
        · right; rw [List.lookup_cons, q]; exact h
    · rw [if_neg hk]
      refine clOf_some r acc n ?_
      rcases h with h | h
      · rcases List.mem_cons.mp h with h | h
        · cases h; exact absurd rfl hk
        · exact .inl h
      · exact .inr h

theorem clOf_at {env : Env} : ∀ (l : List (Str × NameKind)) (acc : List (Str × Addr)), (∀ x ∈ l, x.2 = .free → (env.cells.lookup x.1).isSome = true) → (∀ n a, acc.lookup n = some a → env.cells.lookup n = some a) →
    ∀ n a, (clOf env l acc).lookup n = some a → env.cells.lookup n = some a
  | [], acc, _, h, n, a, e => h n a e
  | (m, k) :: r, acc, hl, h, n, a, e => by
    unfold clOf at e
    by_cases hk : (k == NameKind.free) = true
    · rw [if_pos hk] at e
      refine clOf_at r _ (fun x m => hl x (.tail _ m)) (fun n' a' e' => ?_) n a e
      rw [List.lookup_cons] at e'
      cases q : n' == m with
      | true =>
        rw [q] at e'; cases e'
        rw [eq_of_beq q]
        obtain ⟨b, hb⟩ := Option.isSome_iff_exists.mp (hl (m, k) (.head _) (eq_of_beq hk))
        rw [show env.cells.lookup m = some b from hb]; rfl
      | false => rw [q] at e'; exact h n' a' e'
    · rw [if_neg hk] at e
      exact clOf_at r acc (fun x m => hl x (.tail _ m)) h n a e

section
variable {c : Cx} {d : Nat} {sc : Scope} {B : Bs} {σ : Sg}

noncomputable def IfsP (c : Cx) (d : Nat) (sc : Scope) (B : Bs) (σ : Sg) : List Expr → (Bool → Sg → Prop) → Prop
  | [], Q => Q true σ
  | [t], Q => TestP c d sc B σ t Q
  | _, _ => False

/- What a comprehension's clauses make, the rest of them, behind what it has made. -/
noncomputable def GenP (c : Cx) (d : Nat) (sc : Scope) (elt : Expr) : List Comprehension → Bs → Sg → List PyData → (List PyData → Sg → Prop) → Prop
  | [], B, σ, zs, N => EvalP c d sc B σ elt fun y σ' => ∃ z, y = .dat z ∧ zs.length ≤ 1000000 ∧ N (zs ++ [z]) σ'
  | g :: gs, B, σ, zs, N => (g.is_async = 0 ∧ ∀ env x, foldedSetIterable g.iter env x = pure x) ∧ EvalP c d sc B σ g.iter fun x σ₁ => IterI c d σ₁ x (fun I0 => I0 zs σ₁)
      (fun Iv i y zs' σ' => AsgP c d sc B σ' g.target y fun B₂ σ₂ => Cov B₂ B ∧ IfsP c d sc B₂ σ₂ g.ifs fun ok σ₃ => Br ok (GenP c d sc elt gs B₂ σ₃ zs' (Iv (i + 1))) (Iv (i + 1) zs' σ₃)) N

/- The made list. -/
inductive AccIs (h : Heap) (S : List Addr) (D : Addr) (zs : List PyData) : Prop
  | mk (vs : Array Value) (as : List Addr) : h.PlainList D vs → RdAll h vs.toList zs as → (∀ a ∈ as, a ∉ S) → AccIs h S D zs
theorem AccIs.stays {h S h' S' D zs} (x : Stays h S h' S') (k : ∀ o, h.get? D = some o → h'.get? D = some o) (y : AccIs h S D zs) : AccIs h' S' D zs := by
  obtain ⟨vs, as, p, r, n⟩ := y
  exact ⟨vs, as, p.at k, rdAll_stays x r n, fun a m => (rdAll_there r a m).elim fun J e => x.not e (n a m)⟩

theorem ifs_ok {ts : List Expr} {Q : Bool → Sg → Prop} {A s env F} (h : IfsP c d sc B σ ts Q) (rm : Room d A) (k : EnvOK sc env) (hF : ∀ a ∈ fenv env, a ∈ F) (st : St c F σ s) (f : Frm c env B (F ++ own σ) s.heap) :
    wpAny c.M A (forIn ts true fun c r => if r = true then do let ok ← PySem.isTrue c env (eval c env); pure (ForInStep.yield ok) else pure (ForInStep.yield r)) (PostB c F σ s Q) nope s := by
  match ts, h with
  | [], h => exact wpAny_pure (.here st h)
  | [t], h =>
    rw [List.forIn_cons]
    refine wpAny_bind ?_
    rw [if_pos rfl]
    refine wpAny_bind (wpAny_mono (h A s env F rm k hF st f) (fun ok s' h' => wpAny_pure ?_) fun J J z => z)
    show wpAny _ _ (pure ok) _ _ _
    exact wpAny_pure h'

/- What a turn does behind its conditions. -/
noncomputable def turnRest (elt : Expr) (gens : List Comprehension) (scope : Scope) (pos : Pos) (k : Nat) (it acc : Value) (env : Env) : Sem PySem.Fin :=
  match gens[k + 1]? with
              | some g' => do
                let x ← eval g'.iter env
                standAt g'.iter.pos
                let x ← if g'.is_async != 0 then foldedIterable g'.iter x else foldedSetIterable g'.iter env x
                let _ ← runOwn (.compStart (.ListComp elt gens scope pos) (k + 1) (← holding [x] (if g'.is_async != 0 then asyncIter x else pyIter x)) acc env) env
                again (.compLoop (.ListComp elt gens scope pos) k it acc env)
              | none => (eval elt env >>= fun x => call (.builtin "list.append") [acc, x] >>= fun J => pure ()) >>= fun J => again (.compLoop (.ListComp elt gens scope pos) k it acc env)
theorem turnRest_nil {elt : Expr} {gens : List Comprehension} {scope : Scope} {pos : Pos} {k : Nat} {it acc : Value} {env : Env} (h : gens[k + 1]? = none) :
    turnRest elt gens scope pos k it acc env = (eval elt env >>= fun x => call (.builtin "list.append") [acc, x] >>= fun J => pure ()) >>= fun J => again (.compLoop (.ListComp elt gens scope pos) k it acc env) := by unfold turnRest; rw [h]
theorem wpAb {α : Type} {M : Model} {A : Around} {t : Sem α} {Q : α → Shared → Prop} {E s} (h : ∀ Q' : α → Shared → Prop, (∀ v s, Q v s → Q' v s) → wpAny M A t Q' E s) : wpAny M A t Q E s := h Q fun J J x => x
theorem compTurn_gen (elt : Expr) (gens : List Comprehension) (scope : Scope) (pos : Pos) (k : Nat) (it acc : Value) (env : Env) (target iter : Expr) (ifs : List Expr) (hg : gens[k]? = some ⟨target, iter, ifs, 0⟩) :
    compTurn (.ListComp elt gens scope pos) k it acc env = (standAt iter.pos >>= fun J => pyNext it >>= fun r => match r with
      | none => pure (.done .next)
      | some v => letOwnedTupleGo target it v >>= fun J => assign target env v >>= fun J =>
        (forIn ifs true fun c r => if r = true then do let ok ← PySem.isTrue c env (eval c env); pure (ForInStep.yield ok) else pure (ForInStep.yield r)) >>= fun ok =>
          if ok = true then turnRest elt gens scope pos k it acc env
          else again (.compLoop (.ListComp elt gens scope pos) k it acc env)) := by
  unfold compTurn
  dsimp only
  rw [hg]
  dsimp only
  refine congrArg (fun f => standAt iter.pos >>= f) (funext fun J => congrArg (fun f => pyNext it >>= f) (funext fun r => ?_))
  cases r with
  | none => rfl
  | some v =>
    refine congrArg (fun f => letOwnedTupleGo target it v >>= f) (funext fun J => congrArg (fun f => assign target env v >>= f) (funext fun J => congrArg (fun f => (forIn ifs true _) >>= f) (funext fun ok => ?_)))
    cases ok with
    | false => rfl
    | true =>
      rw [if_pos rfl, if_pos rfl]
      unfold turnRest
      cases gens[k + 1]? with
      | none => rfl
      | some g' => rfl

theorem rdAll_app {h : Heap} {vs : List Value} {ds : List PyData} {as : List Addr} {us : List Value} {es : List PyData} {bs : List Addr} (r : RdAll h vs ds as) (r' : RdAll h us es bs) : RdAll h (vs ++ us) (ds ++ es) (as ++ bs) :=
  RdAll.rec (motive_1 := fun J J J J => True) (motive_2 := fun vs ds as J => RdAll h (vs ++ us) (ds ++ es) (as ++ bs)) trivial (fun J => trivial) (fun J J => trivial) (fun J J => trivial) (fun J J J J J J => trivial) (fun J J J J J J => trivial)
    r' (fun p J J ih => (List.append_assoc _ _ _).symm ▸ RdAll.cons p ih) r
theorem rdAll_snoc' {h : Heap} {v : Value} {d : PyData} {bs : List Addr} (r' : Rd h v d bs) {vs : List Value} {ds : List PyData} {as : List Addr} (r : RdAll h vs ds as) : RdAll h (vs ++ [v]) (ds ++ [d]) (as ++ bs) := by
  have := rdAll_app r (RdAll.cons r' (RdAll.nil (h := h))); rwa [List.append_nil] at this
theorem accAppend {F s A D zs z} {v : Value} (rm : Room d A) (st : St c F σ s) (hD : D ∈ F) (ha : AccIs s.heap (F ++ own σ) D zs) (hz : zs.length ≤ 1000000) (r : Rp c s.heap (F ++ own σ) (.dat z) v) {Q : Value → Shared → Prop}
    (h : ∀ h', (∀ b o, b ≠ D → s.heap.get? b = some o → h'.get? b = some o) → AccIs h' (F ++ own σ) D (zs ++ [z]) → Q .none { s with heap := h' }) : wpAny c.M A (call (.builtin "list.append") [.ref D, v]) Q nope s := by
  obtain ⟨vs, as, pl, ra, n⟩ := ha
  obtain ⟨bs, rz, nz⟩ := r
  have hl := PySem.SeqAt.ReadsAll.length _ _ _ ra.reads
  rw [Array.length_toList] at hl
  refine wpAny_list_append_plain pl (fun h' pl' hs => ?_) (by rw [hl]; exact Nat.le_trans hz (by decide))
  have kp : ∀ b o, b ≠ D → s.heap.get? b = some o → h'.get? b = some o := fun b o nb e => (hs.2 b nb).trans e
  have sty : Stays s.heap (F ++ own σ) h' (F ++ own σ) := ⟨fun b o e q => kp b o (fun z => st.notIn e q (List.mem_append_left _ (z ▸ hD))) e, fun J m => .inl m⟩
  refine h h' kp ⟨_, as ++ bs, pl', ?_, fun a m => (List.mem_append.mp m).elim (n a) (nz a)⟩
  rw [Array.toList_push]
  exact rdAll_snoc' (rd_stays sty rz nz) (rdAll_stays sty ra n)

/- The state behind a change of a forbidden object that is no part of the frame. -/
theorem St.at_F {F s D h'} {tk : Nat} (st : St c F σ s) (hD : D ∈ F) (kp : ∀ b o, b ≠ D → s.heap.get? b = some o → h'.get? b = some o) (hm : MutAt h' D) : St c F σ { s with heap := h', toks := tk } ∧ Stays s.heap (F ++ own σ) h' (F ++ own σ) :=
  st.move (s' := { s with heap := h', toks := tk }) [D] (fun a m => List.mem_singleton.mp m ▸ hD) (fun a o n => kp a o fun z => n (z ▸ .head _)) (fun a m J => List.mem_singleton.mp m ▸ hm) fun J m => .inl m
theorem Frm.at_F {F env D h'} {s : Shared} (f : Frm c env B (F ++ own σ) s.heap) (nD : D ∉ fenv env) (kp : ∀ b o, b ≠ D → s.heap.get? b = some o → h'.get? b = some o) (sty : Stays s.heap (F ++ own σ) h' (F ++ own σ)) : Frm c env B (F ++ own σ) h' :=
  f.move sty fun a m o e => kp a o (fun z => nD (z ▸ m)) e

theorem LoopAt.accs {F env it X h B' σ' s' D h'} {tk : Nat} (x : LoopAt c F env it X σ h B' σ' s') (hX : D ∈ X) (nD : D ∉ fenv env) (kp : ∀ b o, b ≠ D → s'.heap.get? b = some o → h'.get? b = some o) (hm : MutAt h' D) :
    LoopAt c F env it X σ h B' σ' { s' with heap := h', toks := tk } := by
  obtain ⟨st, sty⟩ := x.st.at_F (tk := tk) (x.sub D hX) kp hm
  exact ⟨st, fun a o e n f ni => kp a o (fun z => ni (z ▸ hX)) (x.keep a o e n f ni), x.new, x.frm.at_F nD kp sty, x.mem, x.sub⟩

/- An inner clause's end, seen from the outer one. -/
theorem LoopAt.inner {F env it it₂ X h B₁ σ₁ s₁ h₂ B₂ σ₂ s₂ D} (x : LoopAt c F env it X σ h B₁ σ₁ s₁) (hD : D ∈ X) (hn : s₁.heap.get? it₂ = none) (kp : ∀ a o, s₁.heap.get? a = some o → h₂.get? a = some o)
    (y : LoopEnd c (it :: F) env it₂ [it₂, D] σ₁ h₂ B₂ σ₂ s₂) (hF : ∀ a ∈ fenv env, a ∈ F) : LoopAt c F env it X σ h B₂ σ₂ s₂ where
  st := y.st
  frm := y.frm
  mem := x.mem
  sub := x.sub
  keep := fun a o e n f ni =>
    have e1 := x.keep a o e n f ni
    y.keep a o (kp a o e1) (fun m => (x.new a m).elim n (nsn e)) f fun m => (List.mem_cons.mp m).elim (fun z => nsn (z ▸ e1) hn) fun m => ni (List.mem_singleton.mp m ▸ hD)
  new := fun a m => (y.new a m).elim (x.new a) (absent fun o z hm => (x.there hF z hm).elim fun o' e => ⟨o', kp a o' e⟩)

/- What holds where a clause has come to its end. -/
inductive GenPost (c : Cx) (F : List Addr) (env : Env) (it D : Addr) (B : Bs) (σ : Sg) (h : Heap) (N : List PyData → Sg → Prop) (r : Result) (s' : Shared) : Prop
  | mk (σ' : Sg) (zs' : List PyData) : r = .ok .next → LoopEnd c F env it [it, D] σ h B σ' s' → AccIs s'.heap (F ++ own σ') D zs' → N zs' σ' → GenPost c F env it D B σ h N r s'
inductive TurnPost (c : Cx) (F : List Addr) (env : Env) (it D : Addr) (B : Bs) (σ : Sg) (h h₃ : Heap) (I : List PyData → Sg → Prop) (cd : Code) (fin : PySem.Fin) (s' : Shared) : Prop
  | mk (e : fin = .again cd) (σ' : Sg) (zs' : List PyData) : LoopAt c F env it [it, D] σ h B σ' s' → (∀ o, h₃.get? it = some o → s'.heap.get? it = some o) → AccIs s'.heap ((it :: F) ++ own σ') D zs' → I zs' σ' → TurnPost c F env it D B σ h h₃ I cd fin s'

theorem compStart_gen {elt : Expr} {gens : List Comprehension} {scope : Scope} {pos : Pos} {k : Nat} {g : Comprehension} (hg : gens[k]? = some g) (ha : g.is_async = 0) {A : Around} {s : Shared} {it acc : Value} {env : Env} {R : Result → Shared → Prop}
    (h0 : codeAny c.M A (.compLoop (.ListComp elt gens scope pos) k it acc env) R s) (h : wpAny c.M A (pyIter it) (fun it' s' => codeAny c.M A (.compLoop (.ListComp elt gens scope pos) k it' acc env) R s') nope s) :
    codeAny c.M A (.compStart (.ListComp elt gens scope pos) k it acc env) R s := by
  have hA : A.under (Code.compStart (.ListComp elt gens scope pos) k it acc env) = A := Around.under_of_weight (by cases k <;> rfl) (by cases k <;> rfl)
  have hden : c.M.den (Code.compStart (.ListComp elt gens scope pos) k it acc env) = (compStart (.ListComp elt gens scope pos) k it acc env).onRaise (fun x => do noteFrame x env; standAt theWindowsPlace) := by
    cases k <;> rfl
  refine codeAny_of_tree ?_
  rw [hA, hden]
  refine wpAny_notedAt ?_
  unfold compStart
  have hcl : (clausesOf (.ListComp elt gens scope pos))[k]? = some g := hg
  rw [hcl]
  show wpAny _ _ (if (g.is_async != 0) = true then _ else _) _ _ _
  rw [ha, if_neg (by decide)]
  refine wpAny_bind (wpAny_askSetting (wpAny_ite ?_))
  split
  · first
      | exact wpAny_bind (wpAny_pure (wpAny_pure (And.intro rfl h0)))
      | exact wpAny_pure (And.intro rfl h0)
  · have hE := nope_elim (E := notedBy c.M A env fun x s' => R (.error x) s') h
    first
      | exact wpAny_bind (wpAny_rule (wpAny_bind (wpAny_standAt (wpAny_bind (wpAny_mono hE (fun it' s' h' => wpAny_pure (And.intro rfl h')) fun J J x => x)))))
      | (refine wpAny_bind (wpAny_rule ?_); exact wpAny_bind (wpAny_standAt (wpAny_bind (wpAny_mono hE (fun it' s' h' => wpAny_pure (And.intro rfl h')) fun J J x => x))))

theorem under_loop (elt : Expr) (gens : List Comprehension) (scope : Scope) (pos : Pos) (k : Nat) (it acc : Value) (env : Env) (A : Around) : A.under (Code.compLoop (.ListComp elt gens scope pos) k it acc env) = A :=
  Around.under_of_weight (by cases k <;> rfl) (by cases k <;> rfl)
theorem den_loop (c : Cx) (elt : Expr) (gens : List Comprehension) (scope : Scope) (pos : Pos) (k : Nat) (it acc : Value) (env : Env) :
    c.M.den (Code.compLoop (.ListComp elt gens scope pos) k it acc env) = (compTurn (.ListComp elt gens scope pos) k it acc env).onRaise (fun x => do noteFrame x env; theTreesLotGoes x) := by cases k <;> rfl
inductive LoopI (c : Cx) (F : List Addr) (env : Env) (it D : Addr) (B : Bs) (σ : Sg) (h : Heap) (X : Nat → Heap → Prop) (Iv : Nat → List PyData → Sg → Prop) (m : Nat) (n : Nat) (s' : Shared) : Prop
  | mk (i : Nat) (σ' : Sg) (zs' : List PyData) : LoopAt c F env it [it, D] σ h B σ' s' → AccIs s'.heap ((it :: F) ++ own σ') D zs' → X i s'.heap → Iv i zs' σ' → i ≤ m → n = m + 1 - i → LoopI c F env it D B σ h X Iv m n s'
theorem LoopAt.mutIt {F env it X h B₁ σ₁ s₁ h' S'} (x : LoopAt c F env it X σ h B₁ σ₁ s₁) (k : ∀ b o, b ∉ [it] → s₁.heap.get? b = some o → h'.get? b = some o) (hS : ∀ a ∈ S', a ∈ (it :: F) ++ own σ₁) : Stays s₁.heap ((it :: F) ++ own σ₁) h' S' :=
  ⟨fun a o e q => k a o (fun m => x.st.notIn e q (List.mem_singleton.mp m ▸ .head _)) e, fun a m => .inl (hS a m)⟩
theorem LoopAt.coved {F env it X h B₁ B₂ σ₁ s₁} (x : LoopAt c F env it X σ h B₁ σ₁ s₁) (y : Cov B₁ B₂) : LoopAt c F env it X σ h B₂ σ₁ s₁ := ⟨x.st, x.keep, x.new, x.frm.cov y, x.mem, x.sub⟩
theorem LoopAt.walk {F env it h B₁ B₂ σ₁ σ₂ s₁ s₂ fp} {X' : List Addr} {items : List AV} {P : Nat → Value → Prop} {X : Nat → Heap → Prop} {i A} (W : Walks c.prog c.w A it fp [it] items.length P X) (hfp : ∀ b ∈ fp, b ≠ it → b ∉ F ++ own σ ∧ ∃ o, h.get? b = some o) (hF : ∀ a ∈ fenv env, a ∈ F)
    (hX : ∀ m ∈ X', m = it ∨ m ∈ F) (x : LoopAt c F env it X' σ h B₁ σ₁ s₁) (y : LoopAt c F env it X' σ h B₂ σ₂ s₂) (hi : ∀ o, s₁.heap.get? it = some o → s₂.heap.get? it = some o) (hx : X i s₁.heap) : X i s₂.heap := by
  refine W.frame _ _ _ hx fun b hb o e => ?_
  by_cases hbi : b = it
  · rw [hbi] at e ⊢; exact hi o e
  · obtain ⟨nb, ob, eb⟩ := hfp b hb hbi
    have n1 : b ∉ own σ := fun m => nb (List.mem_append_right _ m)
    have n2 : b ∉ wenv env := fun m => nb (List.mem_append_left _ (hF b (wenv_sub m)))
    have n3 : b ∉ X' := fun m => (hX b m).elim hbi fun m => nb (List.mem_append_left _ m)
    exact Option.some.inj ((x.keep b ob eb n1 n2 n3).symm.trans e) ▸ y.keep b ob eb n1 n2 n3
/- One clause's loop; its body by what is given. -/
theorem compLoop_by {elt : Expr} {gens : List Comprehension} {scope : Scope} {pos : Pos} (gs : List Comprehension) (k : Nat) (g : Comprehension) (B : Bs) (σ : Sg) (zs : List PyData) (items : List AV) (Iv : Nat → List PyData → Sg → Prop) (N : List PyData → Sg → Prop)
    (hg : gens[k]? = some g) (hga : g.is_async = 0) (h0 : Iv 0 zs σ)
    (hturn : ∀ i y zs' σ', items[i]? = some y → Iv i zs' σ' → AsgP c d sc B σ' g.target y fun B₂ σ₂ => Cov B₂ B ∧ IfsP c d sc B₂ σ₂ g.ifs fun ok σ₃ => Br ok (GenP c d sc elt gs B₂ σ₃ zs' (Iv (i + 1))) (Iv (i + 1) zs' σ₃))
    (hend : ∀ zs' σ', Iv items.length zs' σ' → N zs' σ')
    (A : Around) (s : Shared) (env : Env) (F : List Addr) (it D : Addr) (rm : Room d A) (ke : EnvOK sc env) (hF : ∀ a ∈ fenv env, a ∈ F) (hit : it ∉ F) (hD : D ∈ F) (nD : D ∉ fenv env) (st : St c (it :: F) σ s) (f : Frm c env B ((it :: F) ++ own σ) s.heap)
    (hacc : AccIs s.heap ((it :: F) ++ own σ) D zs) (W : WalkAt c A F σ s.heap it items)
    (hbody : ∀ (i : Nat) (zs' : List PyData) (B₂ : Bs) (σ₃ : Sg) (s₃ : Shared), LoopAt c F env it [it, D] σ s.heap B₂ σ₃ s₃ → AccIs s₃.heap ((it :: F) ++ own σ₃) D zs' → GenP c d sc elt gs B₂ σ₃ zs' (Iv (i + 1)) →
      wpAny c.M A (turnRest elt gens scope pos k (.ref it) (.ref D) env)
        (TurnPost c F env it D B₂ σ s.heap s₃.heap (Iv (i + 1)) (.compLoop (.ListComp elt gens scope pos) k (.ref it) (.ref D) env)) nope s₃) :
    codeAny c.M A (.compLoop (.ListComp elt gens scope pos) k (.ref it) (.ref D) env) (GenPost c F env it D B σ s.heap N) s := by
  obtain ⟨target, iter, ifs, asy⟩ := g
  dsimp only at hga hturn
  subst hga
  obtain ⟨fp, P, X, W, hX, hfp, hP, hpl⟩ := W.it
  have start : LoopAt c F env it [it, D] σ s.heap B σ s := ⟨st, fun J J e J J J => e, fun J m => .inl m, f, .head _, forall_cons (.head _) fun a m => List.mem_singleton.mp m ▸ .tail _ hD⟩
  have hden := den_loop c elt gens scope pos k (.ref it) (.ref D) env
  have hA := under_loop elt gens scope pos k (.ref it) (.ref D) env A
  have hDX : D ∈ ([it, D] : List Addr) := .tail _ (.head _)
  have itD : it ≠ D := fun z => hit (z ▸ hD)
  refine codeAny_loop (by cases k <;> rfl) (LoopI c F env it D B σ s.heap X Iv items.length) ?_ (items.length + 1)
    ⟨0, σ, zs, start, hacc, hX, h0, Nat.zero_le _, rfl⟩
  rintro n s' ⟨i, σ', zs', lo, ac, hXi, hi, hle, rfl⟩
  rw [hA, hden, compTurn_gen elt gens scope pos k (.ref it) (.ref D) env target iter ifs hg]
  refine wpAny_noted (nope_elim (wpAb fun Q' hQ => ?_))
  refine wpAny_bind (wpAny_standAt (wpAny_bind ?_))
  by_cases hlt : i < items.length
  · refine W.item i s' _ _ hlt hXi fun v' h₃ tk₃ hPv hX₃ hk₃ => ?_
    obtain ⟨o₃, ho₃, hp₃⟩ := hpl _ _ hX₃
    have lo₃ := lo.iter hF hit (tk := tk₃) hk₃ ⟨o₃, ho₃, hp₃.mut⟩
    have k₃ : ∀ o, s'.heap.get? D = some o → h₃.get? D = some o := fun o e => hk₃ D o (fun m => itD (List.mem_singleton.mp m).symm) e
    have ac₃ : AccIs h₃ ((it :: F) ++ own σ') D zs' := ac.stays (lo.mutIt hk₃ fun J m => m) k₃
    obtain ⟨y, hy, hr⟩ := hP i v' hlt hPv
    have hr' := hr.stays (lo₃.stays hF st)
    refine wpAny_bind (letOwned_plain ho₃ hp₃ ?_)
    refine wpAny_bind (nope_elim (wpAny_mono (hturn i y zs' σ' hy hi A _ env (it :: F) v' rm ke (fun a m => .tail _ (hF a m)) lo₃.st lo₃.frm hr') (fun J s₄ h₄ => ?_) fun J J z => z))
    obtain ⟨B₄, σ₄, f₄, hcov, h₄⟩ := h₄
    have lo₄ := lo₃.step hF f₄
    have nDo : D ∉ own σ' := lo₃.st.disj D (.tail _ hD)
    have ac₄ : AccIs s₄.heap ((it :: F) ++ own σ₄) D zs' := ac₃.stays (f₄.stays (fun a m => .tail _ (hF a m)) lo₃.st) fun o e => f₄.keep D o e nDo fun m => nD (wenv_sub m)
    refine wpAny_bind (nope_elim (wpAny_mono (ifs_ok h₄ rm ke (fun a m => .tail _ (hF a m)) lo₄.st lo₄.frm) (fun ok s₅ h₅ => ?_) fun J J z => z))
    obtain ⟨σ₅, st₅, e₅, h₅, h₅'⟩ := h₅
    have f₅ : FrmPost c (it :: F) env σ₄ s₄.heap B₄ σ₅ s₅ := .of (fun a m => .tail _ (hF a m)) lo₄.st lo₄.frm st₅ e₅
    have lo₅ := lo₄.step hF f₅
    have ac₅ : AccIs s₅.heap ((it :: F) ++ own σ₅) D zs' := ac₄.stays (f₅.stays (fun a m => .tail _ (hF a m)) lo₄.st) fun o e => f₅.keep D o e (lo₄.st.disj D (.tail _ hD)) fun m => nD (wenv_sub m)
    -- the walk's own objects stand
    have hXD : ∀ m ∈ ([it, D] : List Addr), m = it ∨ m ∈ F := forall_cons (.inl rfl) fun a m => .inr (List.mem_singleton.mp m ▸ hD)
    have it₅ : ∀ o, h₃.get? it = some o → s₅.heap.get? it = some o := fun o e => f₅.keep it o (f₄.keep it o e (lo₃.st.disj it (.head _)) (fun m => hit (hF it (wenv_sub m)))) (lo₄.st.disj it (.head _)) (fun m => hit (hF it (wenv_sub m)))
    cases ok with
    | false =>
      rw [if_neg (by decide)]
      refine wpAny_pure (hQ _ _ ⟨rfl, items.length + 1 - (i + 1), by lia, i + 1, σ₅, zs', lo₅.coved hcov, ac₅, lo₃.walk W hfp hF hXD lo₅ it₅ hX₃, h₅' rfl, hlt, rfl⟩)
    | true =>
      rw [if_pos rfl]
      refine nope_elim (wpAny_mono (hbody i zs' B₄ σ₅ s₅ lo₅ ac₅ (h₅ rfl)) (fun fin s₆ h₆ => ?_) fun J J z => z)
      obtain ⟨rfl, σ₆, zs₆, lo₆, k₆, ac₆, h₆⟩ := h₆
      refine hQ _ _ ⟨rfl, items.length + 1 - (i + 1), by lia, i + 1, σ₆, zs₆, lo₆.coved hcov, ac₆, lo₃.walk W hfp hF hXD lo₆ (fun o e => k₆ o (it₅ o e)) hX₃, h₆, hlt, rfl⟩
  · have hin : i = items.length := by lia
    subst hin
    refine W.done s' _ _ hXi fun h₃ tk₃ hk₃ => ?_
    refine wpAny_pure ?_
    have le := lo.last hF hit (tk := tk₃) hk₃
    exact hQ _ _ ⟨σ', zs', rfl, le, ac.stays (lo.mutIt hk₃ fun J m => .tail _ m) fun o e => hk₃ D o (one_of fun m => itD m.symm) e, hend _ _ hi⟩

theorem compLoop_ok {elt : Expr} {gens : List Comprehension} {scope : Scope} {pos : Pos} : ∀ (gs : List Comprehension) (k : Nat) (g : Comprehension) (B : Bs) (σ : Sg) (zs : List PyData) (items : List AV) (Iv : Nat → List PyData → Sg → Prop) (N : List PyData → Sg → Prop),
    gens[k]? = some g → g.is_async = 0 → gens.drop (k + 1) = gs → Iv 0 zs σ →
    (∀ i y zs' σ', items[i]? = some y → Iv i zs' σ' → AsgP c d sc B σ' g.target y fun B₂ σ₂ => Cov B₂ B ∧ IfsP c d sc B₂ σ₂ g.ifs fun ok σ₃ => Br ok (GenP c d sc elt gs B₂ σ₃ zs' (Iv (i + 1))) (Iv (i + 1) zs' σ₃)) →
    (∀ zs' σ', Iv items.length zs' σ' → N zs' σ') →
    ∀ (A : Around) (s : Shared) (env : Env) (F : List Addr) (it D : Addr), Room d A → EnvOK sc env → (∀ a ∈ fenv env, a ∈ F) → it ∉ F → D ∈ F → D ∉ fenv env → St c (it :: F) σ s → Frm c env B ((it :: F) ++ own σ) s.heap → AccIs s.heap ((it :: F) ++ own σ) D zs →
      WalkAt c A F σ s.heap it items →
      codeAny c.M A (.compLoop (.ListComp elt gens scope pos) k (.ref it) (.ref D) env) (GenPost c F env it D B σ s.heap N) s := by
  intro gs
  induction gs with
  | nil =>
    intro k g B σ zs items Iv N hg hga hd h0 hturn hend A s env F it D rm ke hF hit hD nD st f hacc W
    have hnext : gens[k + 1]? = none := by
      have := congrArg (fun l => l[0]?) hd
      simpa [List.getElem?_drop] using this
    refine compLoop_by [] k g B σ zs items Iv N hg hga h0 hturn hend A s env F it D rm ke hF hit hD nD st f hacc W fun i zs' B₂ σ₃ s₃ lo ac hgen => ?_
    rw [turnRest_nil hnext]
    refine wpAb fun Q' hQ => ?_
    have hF' : ∀ a ∈ fenv env, a ∈ it :: F := fun a m => .tail _ (hF a m)
    refine wpAny_bind (wpAny_bind (wpAny_mono (hgen A s₃ env (it :: F) rm ke hF' lo.st lo.frm) (fun v s₄ h₄ => ?_) fun J J z => z))
    obtain ⟨y, σ₄, st₄, e₄, r₄, z, rfl, hz, h₄⟩ := h₄
    have f₄ : FrmPost c (it :: F) env σ₃ s₃.heap B₂ σ₄ s₄ := .of hF' lo.st lo.frm st₄ e₄
    have lo₄ := lo.step hF f₄
    have ac₄ : AccIs s₄.heap ((it :: F) ++ own σ₄) D zs' := ac.stays (f₄.stays hF' lo.st) fun o e => f₄.keep D o e (lo.st.disj D (.tail _ hD)) fun m => nD (wenv_sub m)
    refine wpAny_bind (accAppend (F := it :: F) rm st₄ (.tail _ hD) ac₄ hz r₄ fun h' kp ac' => ?_)
    refine wpAny_pure (wpAny_pure (hQ _ _ ⟨rfl, σ₄, zs' ++ [z], ?_, fun o e => ?_, ac', h₄⟩))
    · refine lo₄.accs (.tail _ (.head _)) nD kp ?_
      obtain ⟨vs, as, p, J, J⟩ := ac'
      exact mutLst p
    · exact kp it o (fun z => hit (z ▸ hD)) (f₄.keep it o e (lo.st.disj it (.head _)) (fun m => hit (hF it (wenv_sub m))))
  | cons g' gs ih =>
    intro k g B σ zs items Iv N hg hga hd h0 hturn hend A s env F it D rm ke hF hit hD nD st f hacc W
    have hnext : gens[k + 1]? = some g' := by
      have := congrArg (fun l => l[0]?) hd
      simpa [List.getElem?_drop] using this
    have hd' : gens.drop (k + 1 + 1) = gs := by
      have := congrArg (fun l => l.drop 1) hd
      simpa [List.drop_drop, Nat.add_comm] using this
    refine compLoop_by (g' :: gs) k g B σ zs items Iv N hg hga h0 hturn hend A s env F it D rm ke hF hit hD nD st f hacc W fun i zs' B₂ σ₃ s₃ lo ac hgen => ?_
    unfold turnRest
    rw [hnext]
    have hF' : ∀ a ∈ fenv env, a ∈ it :: F := fun a m => .tail _ (hF a m)
    obtain ⟨⟨ha', hs'⟩, hgen⟩ := hgen
    refine wpAny_bind (wpAny_mono (hgen A s₃ env (it :: F) rm ke hF' lo.st lo.frm) (fun v s₄ h₄ => ?_) fun J J z => z)
    obtain ⟨x, σ₄, st₄, e₄, r₄, items', Iv', hit', h0', hturn', hend'⟩ := h₄
    have f₄ : FrmPost c (it :: F) env σ₃ s₃.heap B₂ σ₄ s₄ := .of hF' lo.st lo.frm st₄ e₄
    have lo₄ := lo.step hF f₄
    have ac₄ : AccIs s₄.heap ((it :: F) ++ own σ₄) D zs' := ac.stays (f₄.stays hF' lo.st) fun o e => f₄.keep D o e (lo.st.disj D (.tail _ hD)) fun m => nD (wenv_sub m)
    refine wpAny_bind (wpAny_standAt ?_)
    dsimp only
    rw [ha', if_neg (by decide), hs']
    refine wpAny_bind (wpAny_pure ?_)
    rw [if_neg (by decide)]
    refine wpAny_bind (wpAny_holding (hit' A s₄ (it :: F) v _ rm st₄ r₄ fun it₂ h₅ tk₅ hnone kp W₂ => ?_))
    obtain ⟨fp₂, P₂, X₂, W₂', hX₂, J, J, hpl₂⟩ := W₂.it
    obtain ⟨o₅, ho₅, hp₅⟩ := hpl₂ 0 _ hX₂
    have st₅ : St c (it₂ :: it :: F) σ₄ { s₄ with heap := h₅, toks := tk₅ } := st₄.more hnone kp ⟨o₅, ho₅, hp₅.mut⟩
    have fr₅ : Frm c env B₂ ((it₂ :: it :: F) ++ own σ₄) h₅ := lo₄.frm.more hnone kp
    have sty₅ : Stays s₄.heap ((it :: F) ++ own σ₄) h₅ ((it₂ :: it :: F) ++ own σ₄) := ⟨fun a o e J => kp a o e, forall_cons (.inr hnone) fun a m => .inl m⟩
    have hit₂ : it₂ ∉ it :: F := (st₄.fresh hnone).1
    have inner := ih (k + 1) g' B₂ σ₄ zs' items' Iv' (Iv (i + 1)) hnext ha' hd' h0' hturn' hend' A { s₄ with heap := h₅, toks := tk₅ } env (it :: F) it₂ D rm ke hF' hit₂ (.tail _ hD) nD st₅ fr₅ (ac₄.stays sty₅ fun o e => kp D o e) W₂
    refine wpAny_bind (wpAny_runOwn ?_)
    rw [mark_none A]
    have post : ∀ r s', GenPost c (it :: F) env it₂ D B₂ σ₄ h₅ (Iv (i + 1)) r s' → (match r with
        | .ok fl => wpAny c.M A (again (.compLoop (.ListComp elt gens scope pos) k (.ref it) (.ref D) env)) (TurnPost c F env it D B₂ σ s.heap s₃.heap (Iv (i + 1)) (.compLoop (.ListComp elt gens scope pos) k (.ref it) (.ref D) env)) nope s'
        | .error e => cameBackBy c.M A env nope e s') := fun r s' h => by
      obtain ⟨σ₆, zs₆, rfl, le, ac₆, h₆⟩ := h
      refine wpAny_pure ⟨rfl, σ₆, zs₆, lo₄.inner (.tail _ (.head _)) hnone kp le hF, fun o e => ?_, ac₆, h₆⟩
      have e1 := f₄.keep it o e (lo.st.disj it (.head _)) (fun m => hit (hF it (wenv_sub m)))
      exact le.keep it o (kp it o e1) (lo₄.st.disj it (.head _)) (fun m => hit (hF it (wenv_sub m))) fun m => (List.mem_cons.mp m).elim (fun m => hit₂ (m ▸ .head _)) fun m => hit (List.mem_singleton.mp m ▸ hD)
    refine codeAny_mono (compStart_gen hnext ha' inner ?_) post
    exact W₂'.self 0 _ _ _ hX₂ inner
end
-- Base11

section
variable {c : Cx} {d : Nat} {sc : Scope} {B : Bs} {σ : Sg}

/- A forbidden object is let go, changed or not. -/
theorem St.drop {F C s h'} {tk : Nat} (st : St c (C :: F) σ s) (hC : C ∉ F) (kp : ∀ b o, b ≠ C → s.heap.get? b = some o → h'.get? b = some o) : St c F σ { s with heap := h', toks := tk } ∧ Stays s.heap ((C :: F) ++ own σ) h' (F ++ own σ) :=
  st.move (s' := { s with heap := h', toks := tk }) [C] (fun a m => List.mem_singleton.mp m ▸ .head _) (fun a o n => kp a o fun z => n (z ▸ .head _)) (fun a m q => (hC (List.mem_singleton.mp m ▸ q)).elim) fun J m => .inl (.tail _ m)

/- A comprehension's clauses over its first iterable's items. -/
noncomputable def CompP (c : Cx) (d : Nat) (sc : Scope) (B : Bs) (elt : Expr) (g : Comprehension) (gs : List Comprehension) (x : AV) (σ : Sg) (N : List PyData → Sg → Prop) : Prop :=
  IterI c d σ x (fun I0 => I0 [] σ) (fun Iv i y zs' σ' => AsgP c d sc B σ' g.target y fun B₂ σ₂ => Cov B₂ B ∧ IfsP c d sc B₂ σ₂ g.ifs fun ok σ₃ => Br ok (GenP c d sc elt gs B₂ σ₃ zs' (Iv (i + 1))) (Iv (i + 1) zs' σ₃)) N

structure CompOK (sc scope : Scope) (B' : Bs) : Prop where
  kind : scope.kind = .function
  loc : (scope.names.all fun x => x.2 != .local || scope.names.lookup x.1 == some .local) = true
  cell : (scope.names.all fun x => x.2 != .cell) = true
  free : (scope.names.all fun x => x.2 != .free || sc.names.lookup x.1 == some .cell) = true
  bs : (B'.all fun p => sc.names.lookup p.1 == some .cell && (relS scope sc).names.lookup p.1 == some .cell) = true
  dot : ((relS scope sc).names.lookup (".0" : Str) != none) = true

/- What is had where a comprehension has made its list, its own frame not yet let go. -/
structure CompMid (c : Cx) (F : List Addr) (σ : Sg) (h : Heap) (C D : Addr) (σ' : Sg) (zs : List PyData) (s' : Shared) : Prop where
  st : St c (C :: D :: F) σ' s'
  notC : C ∉ D :: F
  notD : D ∉ F
  oldC : ∀ o, h.get? C = some o → C ∈ own σ
  oldD : ∀ o, h.get? D = some o → D ∈ own σ
  keep : ∀ a o, h.get? a = some o → a ∉ own σ → s'.heap.get? a = some o
  new : ∀ a ∈ own σ', a ∈ own σ ∨ h.get? a = none
  acc : AccIs s'.heap ((C :: D :: F) ++ own σ') D zs
  ns : ∃ m, s'.heap.Ns C m

/- What is reckoned and then gone over: its iterator is new. -/
noncomputable def EvItP (c : Cx) (d : Nat) (sc : Scope) (B : Bs) (σ : Sg) (e : Expr) (K : List AV → Sg → Prop) : Prop := ∀ (A : Around) (s : Shared) (env : Env) (F : List Addr) (Q : Value → Shared → Prop), Room d A → EnvOK sc env → (∀ a ∈ fenv env, a ∈ F) → St c F σ s → Frm c env B (F ++ own σ) s.heap →
  (∀ I s₂ σ₁ items, I ∉ F → St c (I :: F) σ₁ s₂ → Evo σ s.heap σ₁ s₂.heap → (s.heap.get? I = none ∨ I ∈ own σ) → WalkAt c A F σ₁ s₂.heap I items → K items σ₁ → Q (.ref I) s₂) →
  wpAny c.M A (eval e env) (fun v s₁ => wpAny c.M A (pyIter v) Q nope s₁) nope s
theorem EvItP.of {e : Expr} {K : List AV → Sg → Prop} (h : EvalP c d sc B σ e fun x σ₁ => ∃ items, IterP c d σ₁ x items ∧ K items σ₁) : EvItP c d sc B σ e K := fun A s env F Q rm ke hF st f hQ => by
  refine wpAny_mono (h A s env F rm ke hF st f) (fun v s₁ h₁ => ?_) fun J J z => z
  obtain ⟨x, σ₁, st₁, e₁, r₁, items, hit, hK⟩ := h₁
  refine hit A s₁ F v _ rm st₁ r₁ fun it h₂ tk₂ hnone kp₂ W => ?_
  obtain ⟨fp, P, X, W', hX, hfp, hP, hpl⟩ := W.it
  exact hQ it _ σ₁ items (st₁.fresh hnone).1 (st₁.more hnone kp₂ ((hpl 0 h₂ hX).elim fun o z => ⟨o, z.1, z.2.mut⟩)) (e₁.trans (.on σ₁ kp₂)) (absent (fun o e n => ⟨o, e₁.keep it o e n⟩) hnone).symm W hK
/- What a comprehension does with the items. -/
noncomputable def CompK (c : Cx) (d : Nat) (sc : Scope) (B : Bs) (elt : Expr) (g : Comprehension) (gs : List Comprehension) (N : List PyData → Sg → Prop) (items : List AV) (σ : Sg) : Prop :=
  ∃ (Iv : Nat → List PyData → Sg → Prop), Iv 0 [] σ ∧
    (∀ i y zs' σ', items[i]? = some y → Iv i zs' σ' → AsgP c d sc B σ' g.target y fun B₂ σ₂ => Cov B₂ B ∧ IfsP c d sc B₂ σ₂ g.ifs fun ok σ₃ => Br ok (GenP c d sc elt gs B₂ σ₃ zs' (Iv (i + 1))) (Iv (i + 1) zs' σ₃)) ∧
    (∀ zs' σ', Iv items.length zs' σ' → N zs' σ')
theorem CompP.k {B : Bs} {elt : Expr} {g : Comprehension} {gs : List Comprehension} {x : AV} {σ : Sg} {N : List PyData → Sg → Prop} (h : CompP c d sc B elt g gs x σ N) : ∃ items, IterP c d σ x items ∧ CompK c d sc B elt g gs N items σ := by
  obtain ⟨items, Iv, h1, h2, h3, h4⟩ := h; exact ⟨items, h1, Iv, h2, h3, h4⟩

noncomputable abbrev compEnv (scope : Scope) (C : Addr) (env : Env) : Env := { newEnv scope C env.globals (clOf env scope.names []) env.qual none Value.none (some env) builtinsNs with scope := relabel scope env }
theorem CompOK.hfr {scope : Scope} {B' : Bs} {env : Env} (ok : CompOK sc scope B') (ke : EnvOK sc env) : ∀ x ∈ scope.names, x.2 = .free → (env.cells.lookup x.1).isSome = true := fun x m e => ke.cl _ (by
  have := List.all_eq_true.mp ok.free x m
  rw [e] at this
  simpa using this)
theorem CompOK.hloc {scope : Scope} {B' : Bs} (ok : CompOK sc scope B') : ∀ x ∈ scope.names, x.2 = .local → scope.names.lookup x.1 = some .local := fun x m e => by
  have := List.all_eq_true.mp ok.loc x m
  rw [e] at this
  simpa using this
theorem comp_at {scope : Scope} {B' : Bs} {env : Env} (ok : CompOK sc scope B') (ke : EnvOK sc env) {n : Str} {a : Addr} : (clOf env scope.names []).lookup n = some a → env.cells.lookup n = some a := clOf_at scope.names [] (ok.hfr ke) (fun n a e => by simp at e) n a
theorem rel_free {n : Str} : ∀ l : List (Str × NameKind), (l.all fun x => x.2 != .cell) = true → (l.map fun (n, k) => if (k == NameKind.free && sc.kind == .function && sc.names.lookup n == some .cell) then (n, NameKind.cell) else (n, k)).lookup n = some .cell → (n, NameKind.free) ∈ l := by
  intro l
  induction l with
  | nil => intro J e; simp at e
  | cons x l ih =>
    obtain ⟨m, k⟩ := x
    intro hc e
    obtain ⟨h1, h2⟩ := Bool.and_eq_true_iff.mp (show ((k != NameKind.cell) && l.all fun x => x.2 != .cell) = true from hc)
    rw [List.map_cons] at e
    dsimp only at e
    split at e
    · rename_i hk
      rw [List.lookup_cons] at e
      cases q : n == m with
      | true => rw [eq_of_beq q, show k = .free from eq_of_beq (Bool.and_eq_true_iff.mp (Bool.and_eq_true_iff.mp hk).1).1]; exact .head _
      | false => rw [q] at e; exact .tail _ (ih h2 e)
    · rw [List.lookup_cons] at e
      cases q : n == m with
      | true => rw [q] at e; rw [show k = .cell from Option.some.inj e] at h1; exact absurd h1 (by decide)
      | false => rw [q] at e; exact .tail _ (ih h2 e)
theorem comp_kce {scope : Scope} {B' : Bs} {env : Env} (ok : CompOK sc scope B') (ke : EnvOK sc env) (C : Addr) : EnvOK (relS scope sc) (compEnv scope C env) where
  scope := relS_eq ke
  kind := ok.kind
  g := ke.g
  b := ke.b
  cl := fun n e => clOf_some _ _ _ (.inl (rel_free scope.names ok.cell e))
  fs := fun e => by
    have := ok.dot
    rw [e] at this; simp at this
theorem comp_fen {scope : Scope} {B' : Bs} {env : Env} (ok : CompOK sc scope B') (ke : EnvOK sc env) {a C : Addr} (m : a ∈ fenv (compEnv scope C env)) : a = C ∨ a ∈ fenv env := (fenv_cases m).imp id fun z => z.elim fun n e => mem_fenv (comp_at ok ke e)
theorem comp_frm {scope : Scope} {B' : Bs} {env : Env} {S S' h h' C m} (ok : CompOK sc scope B') (ke : EnvOK sc env) (hcov : Cov B B') (f : Frm c env B S h) (y : Stays h S h' S') (k : ∀ a ∈ fenv env, ∀ o, h.get? a = some o → h'.get? a = some o) (ns : h'.Ns C m) :
    Frm c (compEnv scope C env) B' S' h' where
  ns := ⟨_, ns, fun n u e k => by
    have := (Bool.and_eq_true_iff.mp (List.all_eq_true.mp ok.bs (n, u) (mem_of_lookup e))).2
    rw [(comp_kce ok ke C).ki] at k
    rw [show (relS scope sc).names.lookup (n, u).1 = some .local from k] at this
    simp at this⟩
  cell := fun n u e J => by
    obtain ⟨h1, h2⟩ := Bool.and_eq_true_iff.mp (List.all_eq_true.mp ok.bs (n, u) (mem_of_lookup e))
    obtain ⟨a, v, q, r, t⟩ := f.cell n u (hcov.at n u e) (.inl ((ke.ki n).trans (eq_of_beq h1)))
    obtain ⟨b, hb⟩ := Option.isSome_iff_exists.mp ((comp_kce ok ke C).cl n (eq_of_beq h2))
    have := Option.some.inj (q.symm.trans (comp_at ok ke hb))
    exact ⟨_, v, hb, this ▸ cell_at r (k _ (mem_fenv q)), t.stays y⟩
  cells := fun n a e => (f.cells n a (comp_at ok ke e)).elim fun x r => ⟨x, cell_at r (k _ (mem_fenv (comp_at ok ke e)))⟩
  cnd := fun n m a e e' => f.cnd n m a (comp_at ok ke e) (comp_at ok ke e')
theorem WalkAt.move {A F F' σ h h' I items} (W : WalkAt c A F σ h I items) (kp : ∀ a o, h.get? a = some o → h'.get? a = some o) (hF' : ∀ a ∈ F', a ∈ F ∨ h.get? a = none) : WalkAt c A F' σ h' I items := by
  obtain ⟨fp, P, X, W, hX, hfp, hP, hpl⟩ := W.it
  have sty : Stays h (I :: (F ++ own σ)) h' (I :: (F' ++ own σ)) := ⟨fun a o e J => kp a o e, forall_cons (.inl (.head _)) (forall_app (fun a m => (hF' a m).imp (fun m => .tail _ (List.mem_append_left _ m)) id) fun a m => .inl (.tail _ (List.mem_append_right _ m)))⟩
  exact ⟨fp, P, X, W, W.frame _ _ _ hX (fun b J o e => kp b o e), fun b m nb => (hfp b m nb).elim fun n1 x => x.elim fun o e => ⟨fun q => (List.mem_append.mp q).elim (fun q => (hF' b q).elim (fun q => n1 (List.mem_append_left _ q)) (nsn e)) fun q => n1 (List.mem_append_right _ q), o, kp b o e⟩,
    fun i v hi hp => (hP i v hi hp).elim fun x z => ⟨x, z.1, z.2.stays sty⟩, hpl⟩
theorem evo_post {σ σ₁ σ' : Sg} {s s₁ h₂ : Heap} (e₁ : Evo σ s σ₁ s₁) (kp : ∀ a o, s₁.get? a = some o → h₂.get? a = some o) (new : ∀ a ∈ own σ', a ∈ own σ₁ ∨ h₂.get? a = none) : ∀ a ∈ own σ', a ∈ own σ ∨ s.get? a = none :=
  fun a m => (new a m).elim (e₁.new a) (absent fun o e hm => ⟨o, kp a o (e₁.keep a o e hm)⟩)

theorem comp_mid {elt : Expr} {g : Comprehension} {gs : List Comprehension} {scope : Scope} {pos cpos : Pos} {B' : Bs} {use : Option (Value → Sem Unit)} {N : List PyData → Sg → Prop} (hcov : Cov B B') (ok : CompOK sc scope B')
    (h : EvItP c d sc B σ g.iter (CompK c d (relS scope sc) B' elt g gs N)) (ha : g.is_async = 0) (hs : ∀ env x, foldedSetIterable g.iter env x = pure x)
    {A s env F} (rm : Room d A) (ke : EnvOK sc env) (hF : ∀ a ∈ fenv env, a ∈ F) (st : St c F σ s) (f : Frm c env B (F ++ own σ) s.heap) {Q : Value → Shared → Prop}
    (hQ : ∀ C D σ' zs s', CompMid c F σ s.heap C D σ' zs s' → N zs σ' → compPost c.M A nope use Q (.ref D) C (.ok .next) s') :
    wpAny c.M A (comprehension (.ListComp elt (g :: gs) scope pos) scope env cpos (newList []) false (eval g.iter env) use) Q nope s := by
  refine wpAny_comprehension_free (cl := clOf env scope.names []) rfl (hs env) (closure_eq (ok.hfr ke)) ok.kind ok.hloc ?_
  refine h A s env F _ rm ke hF st f fun it s₁ σ₁ items nitF stI₀ e₁ hnew W hK => ?_
  obtain ⟨Iv, h0, hturn, hend⟩ := hK
  obtain ⟨h₂, gn₂, dr₂, tk₂, os₂⟩ := s₁
  dsimp only at stI₀ e₁ W ⊢
  refine wpAny_newObj_type ?_
  have sty₀ : Stays s.heap (F ++ own σ) h₂ ((it :: F) ++ own σ₁) := ⟨(st.stays e₁).keep, forall_cons (hnew.symm.imp (List.mem_append_right _) id) (st.stays e₁).new⟩
  generalize hD : h₂.objs.size = D
  generalize hh₃ : h₂.push { cls := .type "list", dict := none, data := .seq ([] : List Value).toArray } = h₃
  have kp₃ : ∀ a o, h₂.get? a = some o → h₃.get? a = some o := fun a o e => hh₃ ▸ Heap.get?_push_of_some _ e
  have gD : h₃.get? D = some { cls := .type "list", dict := none, data := .seq ([] : List Value).toArray } := by rw [← hh₃, ← hD]; exact Heap.get?_push_size _ rfl
  have nD₂ : h₂.get? D = none := by rw [← hD]; exact size_none _
  refine wpAny_newFunctionEnv (fun x m => by simpa using List.all_eq_true.mp ok.cell x m) (fun x m => nomatch m) (fun h₄ hns hsb => ?_) ok.kind
  dsimp only at hns hsb ⊢
  generalize hC : h₃.objs.size = C at hns hsb ⊢
  have nC₃ : h₃.get? C = none := by rw [← hC]; exact size_none _
  have kp₄ : ∀ a o, h₃.get? a = some o → h₄.get? a = some o := fun a o e => (hsb.2 a fun z => nsn (z ▸ e) nC₃).trans (Heap.get?_push_of_some _ e)
  have nC₁ : h₂.get? C = none := (absent (P := False) (fun o e J => ⟨o, kp₃ C o e⟩) nC₃).elim False.elim id
  have kp₁₄ : ∀ a o, h₂.get? a = some o → h₄.get? a = some o := fun a o e => kp₄ a o (kp₃ a o e)
  have nDF : D ∉ F := fun m => (stI₀.fresh nD₂).1 (.tail _ m)
  have nCF : C ∉ D :: F := fun m => (List.mem_cons.mp m).elim (fun z => nsn gD (z ▸ nC₃)) fun m => (stI₀.fresh nC₁).1 (.tail _ m)
  have hit := W.it
  obtain ⟨fp, P, X, W', hX, -, -, hpl⟩ := hit
  obtain ⟨oi, hoi, hpi⟩ := hpl 0 h₂ hX
  have mD : MutAt h₄ D := ⟨_, kp₄ _ _ gD, .inl rfl⟩
  have mC : MutAt h₄ C := by obtain ⟨oC, esC, epC, gC, dC, J⟩ := hns; exact mutD gC dC
  obtain ⟨stI, sty₁⟩ := stI₀.move (F' := it :: C :: D :: F) (s' := { heap := h₄, gens := gn₂, drawn := dr₂, toks := tk₂ + ([] : List (Str × Value)).length, os := os₂ }) [] (fun J m => nomatch m) (fun a o J => kp₁₄ a o) (fun J m => nomatch m)
    (forall_cons (.inl (.head _)) (forall_cons (.inr ⟨nC₁, mC⟩) (forall_cons (.inr ⟨nD₂, mD⟩) fun a m => .inl (.tail _ m))))
  have it_old : it ∉ C :: D :: F := fun m => (List.mem_cons.mp m).elim (fun z => nsn (z ▸ hoi) nC₁) fun m => (List.mem_cons.mp m).elim (fun z => nsn (z ▸ hoi) nD₂) nitF
  have hcF : ∀ a ∈ fenv (compEnv scope C env), a ∈ C :: D :: F := fun a m => (comp_fen ok ke m).elim (fun z => z ▸ .head _) fun m => .tail _ (.tail _ (hF a m))
  have nDc : D ∉ fenv (compEnv scope C env) := fun m => (comp_fen ok ke m).elim (fun z => nCF (z ▸ .head _)) fun m => nDF (hF D m)
  have fr : Frm c (compEnv scope C env) B' ((it :: C :: D :: F) ++ own σ₁) h₄ := comp_frm ok ke hcov f (sty₀.trans sty₁) (fun a m o e => kp₁₄ a o (e₁.keep a o e (st.disj a (hF a m)))) hns
  have ac : AccIs h₄ ((it :: C :: D :: F) ++ own σ₁) D [] := ⟨#[], [], ⟨0, kp₄ _ _ gD⟩, .nil, fun J m => nomatch m⟩
  have Wt : WalkAt c A (C :: D :: F) σ₁ h₄ it items := W.move kp₁₄ (forall_cons (.inr nC₁) (forall_cons (.inr nD₂) fun a m => .inl m))
  have inner := compLoop_ok (sc := relS scope sc) (gens := g :: gs) (scope := scope) (pos := pos) gs 0 g B' σ₁ [] items Iv N rfl ha rfl h0 hturn hend A { heap := h₄, gens := gn₂, drawn := dr₂, toks := tk₂ + ([] : List (Str × Value)).length, os := os₂ } (compEnv scope C env) (C :: D :: F) it D rm (comp_kce ok ke C) hcF it_old (.tail _ (.head _)) nDc stI fr ac Wt
  refine codeAny_mono (compStart_gen rfl ha inner (W'.self 0 _ _ _ (W'.frame _ _ _ hX (fun b J o e => kp₁₄ b o e)) inner)) fun r s' hr => ?_
  obtain ⟨σ', zs', rfl, le, ac', hN⟩ := hr
  refine hQ C D σ' zs' s' ⟨le.st, nCF, nDF, fun o e => Classical.byContradiction fun n => nsn (e₁.keep C o e n) nC₁, fun o e => Classical.byContradiction fun n => nsn (e₁.keep D o e n) nD₂, fun a o e n => ?_, evo_post e₁ kp₁₄ le.new, ac', ?_⟩ hN
  · have e1 := e₁.keep a o e n
    refine le.keep a o (kp₁₄ a o e1) (fun m => (e₁.new a m).elim n (nsn e)) (fun m => nsn (List.mem_singleton.mp (show a ∈ [C] from m) ▸ e1) nC₁) fun m => ?_
    exact (List.mem_cons.mp m).elim (fun z => hnew.elim (fun q => nsn e (z ▸ q)) fun q => n (z ▸ q)) fun m => nsn (List.mem_singleton.mp m ▸ e1) nD₂
  · obtain ⟨m, q, J⟩ := le.frm.ns
    exact ⟨m, q⟩

theorem comp_out {F σ' zs C D} {s s' : Shared} {h' : Heap} (y : CompMid c F σ s.heap C D σ' zs s') (hs : ∀ b o, b ≠ C → s'.heap.get? b = some o → h'.get? b = some o) :
    St c F σ' { s' with heap := h' } ∧ Rp c h' (F ++ own σ') (Li zs) (.ref D) := by
  obtain ⟨st₁, sty₁⟩ := y.st.drop (tk := s'.toks) y.notC hs
  obtain ⟨st₂, sty₂⟩ := st₁.drop (h' := h') (tk := s'.toks) y.notD (fun J J J e => e)
  refine ⟨st₂, ?_⟩
  have hDC : D ≠ C := fun z => y.notC (z ▸ List.mem_cons_self ..)
  have ac := (y.acc.stays sty₁ fun o e => hs D o hDC e)
  obtain ⟨vs, as, ⟨n, e⟩, ra, na⟩ := ac
  exact ⟨D :: as, .list e rfl rfl ra rfl, forall_cons (fun q => (List.mem_append.mp q).elim y.notD (st₁.disj _ (.head _))) fun a m q => na a m (.tail _ q)⟩

theorem eval_ListComp_ (elt : Expr) (gens : List Comprehension) (scope : Scope) (pos : Pos) (env : Env) : eval (.ListComp elt gens scope pos) env =
    comprehension (.ListComp elt gens scope pos) scope env (firstIterPos gens pos) (newList []) (firstAsync gens) (firstIter gens env) := rfl

theorem first_async {g : Comprehension} {gs : List Comprehension} (ha : g.is_async = 0) : firstAsync (g :: gs) = false := by obtain ⟨t, i, fs, a⟩ := g; simp only at ha; subst ha; rfl
theorem first_iter {g : Comprehension} {gs : List Comprehension} (env : Env) : firstIter (g :: gs) env = eval g.iter env := by obtain ⟨t, i, fs, a⟩ := g; rfl
theorem EvalP.comp {elt : Expr} {g : Comprehension} {gs : List Comprehension} {scope : Scope} {pos : Pos} (B' : Bs) {Q : AV → Sg → Prop} (hcov : Cov B B') (ok : CompOK sc scope B')
    (h : EvalP c d sc B σ g.iter fun x σ₁ => CompP c d (relS scope sc) B' elt g gs x σ₁ fun zs σ' => Q (Li zs) σ') (ha : autoParam (g.is_async = 0) krT) (hs : ∀ env x, foldedSetIterable g.iter env x = pure x := by intros; rfl) :
    EvalP c d sc B σ (.ListComp elt (g :: gs) scope pos) Q := fun A s env F rm ke hF st f => by
  rw [eval_ListComp_]
  have e1 : firstAsync (g :: gs) = false := first_async ha
  have e2 := first_iter (g := g) (gs := gs) env
  rw [e1, e2]
  refine comp_mid hcov ok (EvItP.of (h.mono fun J J z => z.k)) ha hs rm ke hF st f fun C D σ' zs s' y q => ?_
  obtain ⟨m, hm⟩ := y.ns
  refine ⟨m, hm, fun h' hsb => ?_⟩
  have kp : ∀ b o, b ≠ C → s'.heap.get? b = some o → h'.get? b = some o := fun b o n e => (hsb.2 b n).trans e
  obtain ⟨st', r⟩ := comp_out y kp
  refine ⟨Li zs, σ', st', ⟨fun a o e n => kp a o (fun z => n (z ▸ y.oldC o (z ▸ e))) (y.keep a o e n), y.new⟩, r, q⟩

theorem swap_yes {e : Expr} {n : Str} {p line} {env : Env} (k : EnvOK sc env) (h : swapsWith e (some (.Name n p)) line { (default : Env) with scope := sc } = pure true) : swapsWith e (some (.Name n p)) line env = pure true := by
  have : swapsWith e (some (.Name n p)) line env = swapsWith e (some (.Name n p)) line { (default : Env) with scope := env.scope } := rfl
  rw [this, k.scope]; exact h

/- A name takes a comprehension's list, on one row: stored ahead of the clauses' names being let go. -/
theorem ExecP.comp {elt : Expr} {g : Comprehension} {gs : List Comprehension} {scope : Scope} {pos pos' pos'' : Pos} {n : Str} (B' : Bs) {N : Bs → Sg → Prop} {R : AV → Sg → Prop} (hcov : Cov B B') (ok : CompOK sc scope B')
    (h : EvalP c d sc B σ g.iter fun x σ₁ => CompP c d (relS scope sc) B' elt g gs x σ₁ fun zs σ' => N ((n, Li zs) :: B) σ') (hn : autoParam (sc.names.lookup n = some .local) krT)
    (hw : autoParam (swapsWith (.ListComp elt (g :: gs) scope pos) (some (.Name n pos')) pos''.line { (default : Env) with scope := sc } = pure true) krT) (ha : autoParam (g.is_async = 0) krT) (hs : ∀ env x, foldedSetIterable g.iter env x = pure x := by intros; rfl) :
    ExecP c d sc B σ (.Assign [.Name n pos'] (.ListComp elt (g :: gs) scope pos) pos'') N R := fun A s env F rm ke hF st f => by
  rw [exec_Assign]
  refine wpAny_bind (wpAny_standAt ?_)
  have e0 : swapsWithSole [.Name n pos'] (.ListComp elt (g :: gs) scope pos) pos''.line env = pure true := swap_yes ke hw
  rw [e0]
  refine wpAny_bind (wpAny_pure ?_)
  rw [if_pos rfl]
  have e1 : firstAsync (g :: gs) = false := first_async ha
  have e2 := first_iter (g := g) (gs := gs) env
  have e3 : evalThenUse (.ListComp elt (g :: gs) scope pos) env (fun v => assignAll v ((assignEach [.Name n pos'] env).map (·.2))) =
      (comprehension (.ListComp elt (g :: gs) scope pos) scope env (firstIterPos (g :: gs) pos) (newList []) (firstAsync (g :: gs)) (firstIter (g :: gs) env) (some fun v => PySem.assign (.Name n pos') env v) >>= fun J => pure ()) := rfl
  rw [e3, e1, e2]
  refine wpAny_bind (wpAny_bind (wpAny_mono (comp_mid (Q := fun J s' => PostS c F env σ s N R .next s') hcov ok (EvItP.of (h.mono fun J J z => z.k)) ha hs rm ke hF st f fun C D σ' zs s' y q => ?_) (fun J s' z => wpAny_pure (wpAny_pure z)) fun J J z => z))
  have ey : Evo σ s.heap σ' s'.heap := ⟨y.keep, y.new⟩
  have sty : Stays s.heap (F ++ own σ) s'.heap ((C :: F) ++ own σ') := ⟨(st.stays ey).keep, forall_cons ((Classical.em (C ∈ own σ)).elim (fun m => .inl (List.mem_append_right _ m)) fun n => .inr (Option.eq_none_iff_forall_ne_some.mpr fun o e => n (y.oldC o e))) (st.stays ey).new⟩
  have nCF : C ∉ F := fun m => y.notC (.tail _ m)
  have hDC : D ≠ C := fun z => y.notC (z ▸ List.mem_cons_self ..)
  have stC : St c (C :: F) σ' s' := y.st.less (forall_cons (.head _) fun a m => .tail _ (.tail _ m))
  have fr : Frm c env B ((C :: F) ++ own σ') s'.heap := f.move sty fun a m o e => y.keep a o e (st.disj a (hF a m))
  have rD : Rp c s'.heap ((C :: F) ++ own σ') (Li zs) (.ref D) := by
    obtain ⟨vs, as, ⟨n, e⟩, ra, na⟩ := y.acc
    exact ⟨D :: as, .list e rfl rfl ra rfl, forall_cons (fun z => (List.mem_cons.mp z).elim hDC fun z => (List.mem_append.mp z).elim y.notD (y.st.disj _ (.tail _ (.head _)))) fun a m z => na a m ((List.mem_cons.mp z).elim (fun z => z ▸ .head _) fun z => .tail _ (.tail _ z))⟩
  obtain ⟨mC, hmC⟩ := y.ns
  refine wpAny_mono (assign_Name (storeP (N := N) hn q (.inl rfl) rm ke (F := C :: F) (fun a m => .tail _ (hF a m)) stC fr rD)) (fun J s₂ h₂ => ?_) fun J J z => z
  obtain ⟨B₂, σ₂, f₂, h₂⟩ := h₂
  have nCo : C ∉ own σ' := stC.disj C (.head _)
  have nCw : C ∉ wenv env := fun m => nCF (hF C (wenv_sub m))
  refine ⟨mC, hmC.at' fun o e => f₂.keep C o e nCo nCw, fun h' hsb => ?_⟩
  have kp : ∀ b o, b ≠ C → s₂.heap.get? b = some o → h'.get? b = some o := fun b o n e => (hsb.2 b n).trans e
  obtain ⟨st₃, sty₃⟩ := f₂.st.drop (tk := s₂.toks) nCF kp
  exact ⟨B₂, σ₂, ⟨st₃, fun a o e n nf => kp a o (fun z => n (z ▸ y.oldC o (z ▸ e))) (f₂.keep a o (y.keep a o e n) (fun m => (y.new a m).elim n (nsn e)) nf), evo_post ey (fun J J e => e) f₂.new, f₂.frm.move sty₃ fun a m o e => kp a o (fun z => nCF (hF C (z ▸ m))) e⟩, h₂⟩
end
-- Base12

-- the text's parts
noncomputable def nthS : List Stmt → Nat → Stmt
  | [], _ => .Pass ⟨0, 0, 0, 0⟩
  | s :: _, 0 => s
  | _ :: r, n + 1 => nthS r n
noncomputable def fArgs : Stmt → Arguments
  | .FunctionDef _ a .. => a
  | _ => ⟨[], [], none, [], [], none, []⟩
noncomputable def fBody : Stmt → List Stmt
  | .FunctionDef _ _ b .. => b
  | .ClassDef _ _ _ b .. => b
  | .For _ _ b _ _ => b
  | _ => []
noncomputable def fScope : Stmt → Scope
  | .FunctionDef _ _ _ _ _ _ s .. => s
  | _ => default
noncomputable def fName : Stmt → Str
  | .FunctionDef n .. => n
  | .ClassDef n .. => n
  | _ => ""
noncomputable def topS (i : Nat) : Stmt := nthS PySem.Challenge.pw_zu0018_01.main.body i
noncomputable def inS (i j : Nat) : Stmt := nthS (fBody (topS i)) j

noncomputable def fnList : List Str := ["range_of", "least", "greatest", "is_array", "row_of", "within_figures", "is_made", "is_truth", "is_known", "sum_of", "plus", "contrary", "common_of",
  "_law_next", "_law_things", "_law_worth", "_law_about", "_law_holds", "_law_ways"]
noncomputable def biList : List (Str × Value) := [("len", .builtin "len"), ("abs", .builtin "abs"), ("min", .builtin "min"), ("max", .builtin "max"), ("isinstance", .builtin "isinstance"), ("sorted", .builtin "sorted"), ("sum", .builtin "sum"),
  ("int", .type "int"), ("bool", .type "bool"), ("tuple", .type "tuple"), ("list", .type "list"), ("dict", .type "dict"), ("set", .type "set"), ("range", .type "range"), ("zip", .type "zip"), ("super", .type "super")]
noncomputable def truthsD : PyData := .tuple [.tuple [.int 0, .int 1]]

/- What a class of the text lets be stored in its objects. -/
structure StoreOK (K : Frag) (C : Addr) (names : List Str) : Prop where
  sa : findIn K (.ref C) "__setattr__" = some (some (.builtin "object.__setattr__"))
  over : plainOver K C = true
  dict : (clsIn K C).any (·.hasDict) = true
  take : ∀ n ∈ names, takerIn K C n = some none

structure NewK (c : Cx) (K : Frag) (fF fG fT cc cda : Addr) : Prop where
  inn : K.In c.h0
  lim : c.h0.NoLimit
  mkF : makesIn K c.cFun = true
  mkT : makesIn K c.cFlat = true
  inF : findIn K (.ref c.cFun) "__init__" = some (some (.ref fF))
  inT : findIn K (.ref c.cFlat) "__init__" = some (some (.ref fT))
  tyF : typeIn K (.ref fF) = some (.type "function")
  tyT : typeIn K (.ref fT) = some (.type "function")
  kpF : keepIn K (.ref c.cFun) = true
  kpT : keepIn K (.ref c.cFlat) = true
  stF : StoreOK K c.cFun funsNames
  stT : StoreOK K c.cFlat flatNames
  fnG : FnAt c fG (fArgs (inS 24 0)) (fBody (inS 24 0)) (fScope (inS 24 0))
  fnGc : ∃ o, c.h0.get? fG = some o ∧ o.cls = .type "function"
  fnT : FnAt c fT (fArgs (inS 9 0)) (fBody (inS 9 0)) (fScope (inS 9 0))
  clo : ∃ (oc : Value) (od : Option Addr) (osl : Array (Option Value)) (name qual : Str) (doc pm : Value) (an : Option Addr) (ct : Value),
    c.h0.get? fF = some ⟨oc, od, .func (ksFn name qual (fArgs (inS 25 0)) (fBody (inS 25 0)) (fScope (inS 25 0)) .none .none doc pm an (.ref cda) ct cc), osl⟩ ∧ c.h0.CodeRec (.ref cda) qual
  code : ∃ oc vs, c.h0.get? cda = some oc ∧ oc.data = .fields vs ∧ ∃ (file : Str) (tf : Tok), vs[2]? = some (.str file tf) ∧ ((c.prog.main.file : Str) == file) = true
  cell : ∃ o, c.h0.get? cc = some o ∧ o.data = .cell (some (.ref c.cFun))
  ctop : (c.prog.main.scope.names.lookup ("super" : Str)).isSome = false
  cls : ∃ cd, clsIn K c.cFun = some cd
  sub : mroIn K c.cFun (.ref c.cFun) = some true
  opq : nsIn K cStatics "thirdparty.any" = some none
  sup : ks_superIn K c.cFun c.cFun "__init__" = some (some (.ref fG))
  glob : ∃ mg mb, c.h0.Ns mainGlobals mg ∧ c.h0.Ns builtinsNs mb ∧ mg "Flat" = some (.ref c.cFlat) ∧ mg "Functions" = some (.ref c.cFun) ∧ mg "super" = none ∧ mb "super" = some (.type "super")

structure TopOK (c : Cx) : Prop where
  lim : c.h0.NoLimit
  mods : ∃ o, c.h0.get? sysModules = some o
  names : ∃ mg mb, c.h0.Ns mainGlobals mg ∧ c.h0.Ns builtinsNs mb ∧ (∀ n ∈ fnList, mg n = some (.ref (c.fn n))) ∧ (∀ n v, (n, v) ∈ biList → mg n = none ∧ mb n = some v) ∧
    (∃ t, mg "MOST_SHOWN" = some (.int 1000 t)) ∧ (∃ v, mg "TRUTHS" = some v ∧ Rd c.h0 v truthsD []) ∧ mg "Functions" = some (.ref c.cFun)
  fns : ∀ i ∈ [2, 3, 4, 12, 13, 14, 17, 18, 19, 20, 21, 22, 23, 27, 28, 29, 30, 31, 32], FnAt c (c.fn (fName (topS i))) (fArgs (topS i)) (fBody (topS i)) (fScope (topS i))
  ins : ∀ p ∈ [(9, 1), (9, 2), (9, 3), (9, 4), (24, 1), (24, 2), (24, 3), (24, 4), (24, 6), (24, 7), (24, 8), (24, 11), (24, 12), (24, 13), (25, 2), (25, 13), (25, 21)], FnAt c (c.fn (fName (inS p.1 p.2))) (fArgs (inS p.1 p.2)) (fBody (inS p.1 p.2)) (fScope (inS p.1 p.2))
  flat : ClsOK c c.cFlat flatNames
  funs : ClsOK c c.cFun funsNames
  mFlat : ∀ n ∈ (["new_var", "post", "size", "domain_of"] : List Str), MethAt c c.cFlat n (c.fn n)
  mFuns : ∀ n ∈ (["once", "bounds", "var_of", "vars_of", "row", "row_truth", "told_truth", "unlike", "require_some", "require_row", "made_number", "equal", "many_of"] : List Str), MethAt c c.cFun n (c.fn n)
  new : ∃ K fF fG fT cc cda, NewK c K fF fG fT cc cda

theorem lk_here {α : Type} {n : Str} {x : α} {r : List (Str × α)} : List.lookup n ((n, x) :: r) = some x := by rw [List.lookup_cons, beq_self_eq_true]
theorem lk_next {α : Type} {n m : Str} {x y : α} {r : List (Str × α)} (h : (n == m) = false) (h' : List.lookup n r = some y) : List.lookup n ((m, x) :: r) = some y := by rw [List.lookup_cons, h]; exact h'

section
variable {c : Cx} {d : Nat} {sc : Scope} {B : Bs} {σ : Sg} {Q : AV → Sg → Prop}

theorem EvalP.loc {n pos} {x : AV} (hx : B.lookup n = some x) (h : Q x σ)
    (hk : autoParam ((sc.names.lookup n == some .local || sc.names.lookup n == some .cell || sc.names.lookup n == some .free) = true) trT)
    (hd : autoParam (((n == ("__debug__" : Str)) || (n == ("__classdict__" : Str))) = false) flT) : EvalP c d sc B σ (.Name n pos) Q := by
  have h1 : (n == ("__debug__" : Str)) = false := by cases e : n == ("__debug__" : Str) <;> simp_all
  have h2 : (n == ("__classdict__" : Str)) = false := by cases e : n == ("__classdict__" : Str) <;> simp_all
  simp only [Bool.or_eq_true, beq_iff_eq] at hk
  rcases hk with (hk | hk) | hk
  · exact .name hk hx h (.inl rfl) h1 h2
  · exact .name hk hx h (.inr (.inl rfl)) h1 h2
  · exact .name hk hx h (.inr (.inr rfl)) h1 h2

theorem evalP_glob {n pos} {x : AV} (T : ∃ mg mb, c.h0.Ns mainGlobals mg ∧ c.h0.Ns builtinsNs mb ∧ ∃ v, (mg n = some v ∨ (mg n = none ∧ mb n = some v)) ∧ ∀ h S, (∀ a o, c.h0.get? a = some o → h.get? a = some o) → Rp c h S x v) (h : Q x σ)
    (hk : (sc.names.lookup n == some .globalImplicit) = true) (hd : (n == ("__debug__" : Str)) = false) : EvalP c d sc B σ (.Name n pos) Q := fun A s env F r k hF st f => by
  obtain ⟨mg, mb, hg, hb, v, hv, hr⟩ := T
  have e : env.kindOf n = some .globalImplicit := (k.ki n).trans (eq_of_beq hk)
  have ek : env.scope.kind = .function := by rw [k.scope]; exact k.kind
  refine Name_function_global ek e ?_ hd
  have hg' : s.heap.Ns env.globals mg := by rw [k.g]; exact hg.keeps st.base
  have hb' : s.heap.Ns env.builtins mb := by rw [k.b]; exact hb.keeps st.base
  have fin : Post c F σ s Q v s := .here st (hr _ _ st.base) h
  rcases hv with hv | ⟨h1, h2⟩
  · exact loadGlobal_global hg' hv fin
  · exact loadGlobal_builtin hg' h1 hb' h2 fin

theorem EvalP.gfn {n pos} (T : TopOK c) (h : Q (.ref (c.fn n)) σ) (hn : autoParam (decide (n ∈ fnList) = true) trT)
    (hk : autoParam ((sc.names.lookup n == some .globalImplicit) = true) trT) (hd : autoParam ((n == ("__debug__" : Str)) = false) flT) : EvalP c d sc B σ (.Name n pos) Q := by
  have hn := of_decide_eq_true hn
  obtain ⟨mg, mb, hg, hb, h1, J⟩ := T.names
  exact evalP_glob (x := .ref (c.fn n)) ⟨mg, mb, hg, hb, _, .inl (h1 n hn), fun J J J => rfl⟩ h hk hd
theorem EvalP.gbi {n v pos} (T : TopOK c) (hn : (n, v) ∈ biList) (h : Q (.val v) σ)
    (hk : (sc.names.lookup n == some .globalImplicit) = true) (hd : (n == ("__debug__" : Str)) = false) : EvalP c d sc B σ (.Name n pos) Q := by
  obtain ⟨mg, mb, hg, hb, J, h2, J⟩ := T.names
  exact evalP_glob (x := .val v) ⟨mg, mb, hg, hb, _, .inr (h2 n v hn), fun J J J => rfl⟩ h hk hd
theorem EvalP.gtruths {pos} (T : TopOK c) (h : Q (.dat truthsD) σ)
    (hk : autoParam ((sc.names.lookup ("TRUTHS" : Str) == some .globalImplicit) = true) trT) (hd : autoParam ((("TRUTHS" : Str) == ("__debug__" : Str)) = false) flT) : EvalP c d sc B σ (.Name "TRUTHS" pos) Q := by
  obtain ⟨mg, mb, hg, hb, J, J, J, ⟨v, h2, h3⟩, J⟩ := T.names
  exact evalP_glob (x := .dat truthsD) ⟨mg, mb, hg, hb, _, .inl h2, fun h S k => ⟨[], rd_stays ⟨fun a o e J => k a o e, fun J m => .inl m⟩ h3 (S := []) (S' := []) (fun J m => nomatch m), fun J m => nomatch m⟩⟩ h hk hd
theorem EvalP.gmost {pos} (T : TopOK c) (h : Q (I 1000) σ)
    (hk : autoParam ((sc.names.lookup ("MOST_SHOWN" : Str) == some .globalImplicit) = true) trT) (hd : autoParam ((("MOST_SHOWN" : Str) == ("__debug__" : Str)) = false) flT) : EvalP c d sc B σ (.Name "MOST_SHOWN" pos) Q := by
  obtain ⟨mg, mb, hg, hb, J, J, ⟨t, h2⟩, J⟩ := T.names
  exact evalP_glob (x := I 1000) ⟨mg, mb, hg, hb, _, .inl h2, fun h S k => rp_int⟩ h hk hd

theorem KeepOK.top {i : Nat} (T : TopOK c) (hi : i ∈ [2, 3, 4, 12, 13, 14, 17, 18, 19, 20, 21, 22, 23, 27, 28, 29, 30, 31, 32]) : KeepOK c (.ref (c.fn (fName (topS i)))) := KeepOK.fn (T.fns i hi)
theorem fn_names : (fnList.all fun n => [2, 3, 4, 12, 13, 14, 17, 18, 19, 20, 21, 22, 23, 27, 28, 29, 30, 31, 32].any fun i => fName (topS i) == n) = true := by decide +kernel
theorem KeepOK.gfn {n : Str} (T : TopOK c) (hn : n ∈ fnList) : KeepOK c (.ref (c.fn n)) := by
  have := List.all_eq_true.mp fn_names n hn
  obtain ⟨i, hi, e⟩ := List.any_eq_true.mp this
  rw [← eq_of_beq e]
  exact KeepOK.top T hi

/- A call of a def of the text by its name. -/
theorem EvalP.callF {n p args pos} (T : TopOK c) (h : EvalsP c d sc B σ args fun ys σ₂ => CallP c d (.ref (c.fn n)) ys σ₂ Q) (hn : autoParam (decide (n ∈ fnList) = true) trT)
    (hs : autoParam ((args.all fun t => !isStarred t) = true) trT)
    (hk : autoParam ((sc.names.lookup n == some .globalImplicit) = true) trT) (hd : autoParam ((n == ("__debug__" : Str)) = false) flT) : EvalP c d sc B σ (.Call (.Name n p) args [] pos) Q :=
  .call (.gfn T ⟨.gfn T (of_decide_eq_true hn), h⟩ hn hk hd) hs
/- A call of a builtin. -/
theorem EvalP.callB {n p args pos} (i : String) (T : TopOK c) (hn : (n, Value.builtin i) ∈ biList) (h : EvalsP c d sc B σ args fun ys σ₂ => CallP c d (.val (.builtin i)) ys σ₂ Q)
    (hs : autoParam ((args.all fun t => !isStarred t) = true) trT)
    (hk : autoParam ((sc.names.lookup n == some .globalImplicit) = true) trT) (hd : autoParam ((n == ("__debug__" : Str)) = false) flT) : EvalP c d sc B σ (.Call (.Name n p) args [] pos) Q :=
  .call (.gbi T hn ⟨.builtin, h⟩ hk hd) hs
theorem EvalP.callT {n p args pos} (i : String) (T : TopOK c) (hn : (n, Value.type i) ∈ biList) (h : EvalsP c d sc B σ args fun ys σ₂ => CallP c d (.val (.type i)) ys σ₂ Q)
    (hs : autoParam ((args.all fun t => !isStarred t) = true) trT)
    (hk : autoParam ((sc.names.lookup n == some .globalImplicit) = true) trT) (hd : autoParam ((n == ("__debug__" : Str)) = false) flT) : EvalP c d sc B σ (.Call (.Name n p) args [] pos) Q :=
  .call (.gbi T hn ⟨.type, h⟩ hk hd) hs

theorem CallP.isaYes {x : AV} {Tx Ty : String} (hx : TypeP c σ x Tx) (hty : typeOf (.type Ty) = pure (.type "type")) (hsub : isSubtype (.type Tx) (.type Ty) = pure true) (h : Q (Bo true) σ) :
    CallP c d (.val (.builtin "isinstance")) [x, .val (.type Ty)] σ Q := .three fun A s F v w u rm st r r' r'' => by
  cases (show v = _ from r); cases (show u = _ from r'')
  exact call_isinstance_yes (hx _ _ _ st r') hty hsub (.here st rp_bool h)
theorem CallP.isaInt {i : Int} {Ty : String} (hne : (Value.type "int" == Value.type Ty) = false) (hty : typeOf (.type Ty) = pure (.type "type")) (hsub : isSubtype (.type "int") (.type Ty) = pure false) (h : Q (Bo false) σ) :
    CallP c d (.val (.builtin "isinstance")) [I i, .val (.type Ty)] σ Q := .three fun A s F v w u rm st r r' r'' => by
  cases (show v = _ from r); cases (show u = _ from r''); obtain ⟨t, rfl⟩ := rp_int' r'
  exact call_isinstance (isinstance_false_int hne hty hsub) (Post.pure st rp_bool h)
theorem CallP.isaBool {i : Bool} {Ty : String} (hne : (Value.type "bool" == Value.type Ty) = false) (hty : typeOf (.type Ty) = pure (.type "type")) (hsub : isSubtype (.type "bool") (.type Ty) = pure false) (h : Q (Bo false) σ) :
    CallP c d (.val (.builtin "isinstance")) [Bo i, .val (.type Ty)] σ Q := .three fun A s F v w u rm st r r' r'' => by
  cases (show v = _ from r); cases (show u = _ from r''); cases rp_bool' r'
  exact call_isinstance (isinstance_false_bool hne hty hsub) (Post.pure st rp_bool h)
theorem CallP.isaTup {xs : List PyData} {Ty : String} (hne : (Value.type "tuple" == Value.type Ty) = false) (hty : typeOf (.type Ty) = pure (.type "type")) (hsub : isSubtype (.type "tuple") (.type Ty) = pure false) (h : Q (Bo false) σ) :
    CallP c d (.val (.builtin "isinstance")) [Tu xs, .val (.type Ty)] σ Q := .three fun A s F v w u rm st r r' r'' => by
  cases (show v = _ from r); cases (show u = _ from r''); obtain ⟨as, r', n⟩ := r'
  cases r' with
  | tuple h1 h2 h3 h4 => exact call_isinstance (isinstance_false_tuple hne hty hsub) ⟨⟨_, h1, h2⟩, Post.pure st rp_bool h⟩

theorem meta_tuple : typeOf (.type "tuple") = pure (.type "type") := by first | kernel_rfl | rfl
theorem meta_int' : typeOf (.type "int") = pure (.type "type") := by first | kernel_rfl | rfl
theorem meta_list : typeOf (.type "list") = pure (.type "type") := by first | kernel_rfl | rfl
theorem meta_bool' : typeOf (.type "bool") = pure (.type "type") := by first | kernel_rfl | rfl
theorem TypeP.int {i} : TypeP c σ (I i) "int" := fun F s v st r => by obtain ⟨t, rfl⟩ := rp_int' r; exact rfl
theorem TypeP.bool {i} : TypeP c σ (Bo i) "bool" := fun F s v st r => by cases rp_bool' r; exact rfl

theorem CallP.tup_tup {xs} (h : Q (Bo true) σ) : CallP c d (.val (.builtin "isinstance")) [Tu xs, .val (.type "tuple")] σ Q := .isaYes .tuple meta_tuple (by rw [isSubtype_type]; kernel_rfl) h
theorem CallP.tup_int {xs} (h : Q (Bo false) σ) : CallP c d (.val (.builtin "isinstance")) [Tu xs, .val (.type "int")] σ Q := .isaTup (by kernel_rfl!) meta_int' (by rw [isSubtype_type]; kernel_rfl) h
theorem CallP.tup_bool {xs} (h : Q (Bo false) σ) : CallP c d (.val (.builtin "isinstance")) [Tu xs, .val (.type "bool")] σ Q := .isaTup (by kernel_rfl!) meta_bool' (by rw [isSubtype_type]; kernel_rfl) h
theorem CallP.int_tup {i} (h : Q (Bo false) σ) : CallP c d (.val (.builtin "isinstance")) [I i, .val (.type "tuple")] σ Q := .isaInt (by kernel_rfl!) meta_tuple (by rw [isSubtype_type]; kernel_rfl) h
theorem CallP.int_int {i} (h : Q (Bo true) σ) : CallP c d (.val (.builtin "isinstance")) [I i, .val (.type "int")] σ Q := .isaYes .int meta_int' (by rw [isSubtype_type]; kernel_rfl) h
theorem CallP.int_bool {i} (h : Q (Bo false) σ) : CallP c d (.val (.builtin "isinstance")) [I i, .val (.type "bool")] σ Q := .isaInt (by kernel_rfl!) meta_bool' (by rw [isSubtype_type]; kernel_rfl) h
theorem CallP.bool_tup {i} (h : Q (Bo false) σ) : CallP c d (.val (.builtin "isinstance")) [Bo i, .val (.type "tuple")] σ Q := .isaBool (by kernel_rfl!) meta_tuple (by rw [isSubtype_type]; kernel_rfl) h
theorem CallP.bool_int {i} (h : Q (Bo true) σ) : CallP c d (.val (.builtin "isinstance")) [Bo i, .val (.type "int")] σ Q := .isaYes .bool meta_int' (by rw [isSubtype_type]; kernel_rfl) h
theorem CallP.bool_bool {i} (h : Q (Bo true) σ) : CallP c d (.val (.builtin "isinstance")) [Bo i, .val (.type "bool")] σ Q := .isaYes .bool meta_bool' (by rw [isSubtype_type]; kernel_rfl) h
theorem CallP.list_list {xs} (h : Q (Bo true) σ) : CallP c d (.val (.builtin "isinstance")) [Li xs, .val (.type "list")] σ Q := .isaYes .list meta_list (by rw [isSubtype_type]; kernel_rfl) h

theorem CallP.lenT {xs : List PyData} (h : Q (I xs.length) σ) (hz : xs.length < 2 ^ 63) : CallP c d (.val (.builtin "len")) [Tu xs] σ Q := .two fun A s F v w rm st r r' => by
  cases (show v = _ from r); obtain ⟨as, r', n⟩ := r'
  cases r' with
  | tuple h1 h2 h3 h4 =>
    have hl := PySem.SeqAt.ReadsAll.length _ _ _ h4.reads
    rw [Array.length_toList] at hl
    refine PyProof.Rows.len_tuple ⟨_, h1, h2, _, h3⟩ (by rw [hl]; exact_mod_cast hz) ?_
    exact .pure st (by rw [hl]; exact rp_int) h
theorem CallP.lenL {xs : List PyData} (h : Q (I xs.length) σ) (hz : xs.length < 2 ^ 63) : CallP c d (.val (.builtin "len")) [Li xs] σ Q := .two fun A s F v w rm st r r' => by
  cases (show v = _ from r); obtain ⟨as, r', n⟩ := r'
  cases r' with
  | list h1 h2 h3 h4 =>
    have hl := PySem.SeqAt.ReadsAll.length _ _ _ h4.reads
    rw [Array.length_toList] at hl
    refine PyProof.Rows.len_list ⟨_, h1, h2, _, h3⟩ (by rw [hl]; exact_mod_cast hz) ?_
    exact .pure st (by rw [hl]; exact rp_int) h
theorem CallP.lenO {l : Addr} {xs : List PyData} (m : (l, OB.lst xs) ∈ σ) (h : Q (I xs.length) σ) (hz : xs.length < 2 ^ 63) : CallP c d (.val (.builtin "len")) [.ref l] σ Q := .two fun A s F v w rm st r r' => by
  cases (show v = _ from r); cases (show w = _ from r')
  obtain ⟨vs, as, pl, ra, n⟩ := st.at_ m
  have hl := PySem.SeqAt.ReadsAll.length _ _ _ ra.reads
  rw [Array.length_toList] at hl
  refine PyProof.Rows.len_list pl.isList (by rw [hl]; exact_mod_cast hz) ?_
  exact .pure st (by rw [hl]; exact rp_int) h
theorem CallP.abs {a : Int} (h : Q (I (a.natAbs : Int)) σ) : CallP c d (.val (.builtin "abs")) [I a] σ Q := .two fun A s F v w rm st r r' => by
  cases (show v = _ from r); obtain ⟨t, rfl⟩ := rp_int' r'
  refine PyProof.Rows.call_abs_int fun u tk => ?_
  have : (if a < 0 then -a else a) = (a.natAbs : Int) := by split <;> lia
  rw [this]
  exact .pure st rp_int h
theorem CallP.intI {a : Int} (h : Q (I a) σ) : CallP c d (.val (.type "int")) [I a] σ Q := .two fun A s F v w rm st r r' => by
  cases (show v = _ from r); obtain ⟨t, rfl⟩ := rp_int' r'
  exact PySem.call_int_int (.here st rp_int h)
theorem CallP.intB {b : Bool} (h : Q (I (if b then 1 else 0)) σ) : CallP c d (.val (.type "int")) [Bo b] σ Q := .two fun A s F v w rm st r r' => by
  cases (show v = _ from r); cases rp_bool' r'
  exact PySem.call_int_bool (.pure st rp_int h)
theorem CallP.max2 {a b : Int} (h : Q (I (max a b)) σ) : CallP c d (.val (.builtin "max")) [I a, I b] σ Q := .three fun A s F v w u rm st r r' r'' => by
  cases (show v = _ from r); obtain ⟨t, rfl⟩ := rp_int' r'; obtain ⟨t', rfl⟩ := rp_int' r''
  refine PySem.max_two_ints rm.handled fun h' tk k => ?_
  refine ⟨_, σ, st.on k, .on σ k, ?_, h⟩
  split
  · have : max a b = b := by lia
    rw [this]; exact rp_int
  · have : max a b = a := by lia
    rw [this]; exact rp_int
theorem CallP.min2 {a b : Int} (h : Q (I (min a b)) σ) : CallP c d (.val (.builtin "min")) [I a, I b] σ Q := .three fun A s F v w u rm st r r' r'' => by
  cases (show v = _ from r); obtain ⟨t, rfl⟩ := rp_int' r'; obtain ⟨t', rfl⟩ := rp_int' r''
  refine PySem.min_two_ints rm.handled fun h' tk k => ?_
  refine ⟨_, σ, st.on k, .on σ k, ?_, h⟩
  split
  · have : min a b = b := by lia
    rw [this]; exact rp_int
  · have : min a b = a := by lia
    rw [this]; exact rp_int
end
-- Hd1

noncomputable abbrev pw : Program := PySem.Challenge.pw_zu0018_01
noncomputable def vw : Program := view pw [0, 2, 3, 4, 6, 7, 9, 11, 12, 13, 14, 16, 17, 18, 19, 20, 21, 22, 23, 24, 25, 27, 28, 29, 30, 31, 32, 33]

/- The top's run over a heap laid as a tree. -/
noncomputable def topRunT (tb : String → Option Builtin) (p : Program) (w : World) (n₀ : Nat) (ann : Option Value) : Nat → SharedT → Thread → Option SharedT
  | 0, _, _ => none
  | n + 1, s, t => match through t with
    | true => some s
    | false => match stepOk n₀ ann t with
      | false => none
      | true => match stepT (denote tb) p w s t with
        | some (s', t') => topRunT tb p w n₀ ann n s' t'
        | none => none
theorem topRun_of {tb : String → Option Builtin} {p : Program} {w : World} {n₀ : Nat} {ann : Option Value} : ∀ {n : Nat} {s s' : SharedT} {t : Thread}, topRunT tb p w n₀ ann n s t = some s' → topRun tb p w n₀ ann n s.abs t = some s'.abs
  | 0, _, _, _, h => by cases h
  | n + 1, s, s', t, h => by
    unfold topRunT at h
    unfold topRun
    cases he : through t with
    | true => rw [he] at h; cases h; rfl
    | false =>
      rw [he] at h
      cases hk : stepOk n₀ ann t with
      | false => rw [hk] at h; cases h
      | true =>
        rw [hk] at h
        cases hs : stepT (denote tb) p w s t with
        | none => rw [hs] at h; cases h
        | some r => obtain ⟨s₂, t₂⟩ := r; rw [hs] at h; rw [stepT_spec hs]; exact topRun_of h
noncomputable def treeOf (l : List Obj) : BT := (l.zipIdx.foldl (fun t p => t.ins p.2 p.1) .nil)
noncomputable abbrev T0 (P : Params) : BT := treeOf (boot_heap P).objs.toList
noncomputable abbrev m0 : Nat := 11
noncomputable abbrev ann0 : Option Value := some (.ref 6)
theorem abs0 (P : Params) : absHeap (T0 P) m0 (boot_heap P).life = boot_heap P := by kernel_rfl
noncomputable abbrev S0 (w : World) (os : OsState) : SharedT := ⟨T0 w.params, m0, (boot_heap w.params).life, Array.mk [], boot_drawn, boot_toks, os⟩
theorem size0 (w : World) : ((boot_heap w.params).isNs mainGlobals && (Array.mk [] : Array GenState).size == 0, (boot_heap w.params).objs.size, (boot_heap w.params).nsMap mainGlobals "__annotations__") = (true, m0, ann0) := by kernel_rfl
noncomputable def looks1 (p : Program) (h₀ : Heap) (s : Shared) : Bool := staticsOk (importedModules p.main.body) h₀ s.heap && namesBound p s.heap && gensDone s && laidKept h₀ s.heap
theorem left_gen {p q : Program} {loose : List Str} {α : Type} {Yf : Shared → α} {Ya : World → α} {Xt : Shared → Bool} {N m : Nat} {ann : Option Value} {H₀ : Params → Heap} {T₀ : Params → BT} {d₀ : Drawn} {k₀ : Nat}
    (open_ : ∀ w : World, (fencedOpening treeTable p w N).map (fun s => (s.heap, s.gens, s.drawn, s.toks)) = some (H₀ w.params, Array.mk [], d₀, k₀))
    (size : ∀ w : World, ((H₀ w.params).isNs mainGlobals && (Array.mk [] : Array GenState).size == 0, (H₀ w.params).objs.size, (H₀ w.params).nsMap mainGlobals "__annotations__") = (true, m, ann))
    (abs : ∀ P, absHeap (T₀ P) m (H₀ P).life = H₀ P)
    (run : ∀ (w : World) (os : OsState), (topRunT treeTable p w m ann N ⟨T₀ w.params, m, (H₀ w.params).life, Array.mk [], d₀, k₀, os⟩ (topStub p)).map (fun s => (looks1 p (H₀ w.params) s.abs, openSeen q loose (importedModules p.main.body) Xt true s.abs, Yf s.abs)) = some (true, openGood q loose, Ya w)) :
    LeftO p q loose Xt Yf Ya N := fun w => by
  obtain ⟨⟨h, gs, d, k, os⟩, e, e'⟩ := Option.map_eq_some_iff.mp (open_ w)
  obtain ⟨rfl, rfl, rfl, rfl⟩ : h = H₀ w.params ∧ gs = Array.mk [] ∧ d = d₀ ∧ k = k₀ := by simpa using e'
  obtain ⟨z1, z2, z3⟩ : _ ∧ _ ∧ _ := by simpa only [Prod.mk.injEq] using size w
  obtain ⟨s', r, l⟩ := Option.map_eq_some_iff.mp (run w os)
  obtain ⟨l1, l2, l3⟩ : _ ∧ _ ∧ _ := by simpa only [Prod.mk.injEq] using l
  have r' := topRun_of r
  have e0 : SharedT.abs ⟨T₀ w.params, m, (H₀ w.params).life, Array.mk [], d, k, os⟩ = ⟨H₀ w.params, Array.mk [], d, k, os⟩ := by
    show Shared.mk (absHeap (T₀ w.params) m (H₀ w.params).life) _ _ _ _ = _
    rw [abs]
  rw [e0] at r'
  have t : topFrom treeTable p w N ⟨H₀ w.params, Array.mk [], d, k, os⟩ = some s'.abs := by
    unfold topFrom
    dsimp only
    rw [z1, z2, z3, r']
    show (match looks1 p (H₀ w.params) s'.abs with | true => _ | false => _) = _
    rw [l1]
  unfold openEnds
  rw [e]
  show (topFrom treeTable p w N _).map _ = _
  rw [t]
  exact congrArg some (Prod.ext l2 l3)

/- What stands at some addresses. -/
noncomputable def KF (as : List Addr) (h : Heap) : Frag := as.filterMap fun a => (h.get? a).map fun o => (a, o)
theorem KF_in {h : Heap} : ∀ {as : List Addr}, (KF as h).In h
  | [], a, o, e => by cases e
  | b :: as, a, o, e => by
    unfold KF at e
    rw [List.filterMap_cons] at e
    cases q : h.get? b with
    | none => rw [q] at e; exact KF_in a o e
    | some o' =>
      rw [q] at e
      simp only [Option.map_some, List.lookup_cons] at e
      split at e
      · rename_i k; cases e; rw [beq_iff_eq.mp k]; exact q
      · exact KF_in a o e

noncomputable def topIx : List Nat := [2, 3, 4, 12, 13, 14, 17, 18, 19, 20, 21, 22, 23, 27, 28, 29, 30, 31, 32]
noncomputable def inIx : List (Nat × Nat) := [(9, 1), (9, 2), (9, 3), (9, 4), (24, 1), (24, 2), (24, 3), (24, 4), (24, 6), (24, 7), (24, 8), (24, 11), (24, 12), (24, 13), (25, 2), (25, 13), (25, 21)]
noncomputable def fnTab1 : List (Str × Addr) := (["range_of", "least", "greatest", "is_array", "row_of", "within_figures", "is_made", "is_truth", "is_known", "sum_of", "plus", "contrary", "common_of", "_law_next", "_law_things", "_law_worth", "_law_about", "_law_holds", "_law_ways"] : List Str).zip [28, 35, 42, 139, 146, 153, 162, 169, 174, 181, 186, 193, 200, 482, 489, 494, 501, 506, 511]
noncomputable def fnTab2 : List (Str × Addr) := (["new_var", "post", "size", "domain_of", "once", "bounds", "var_of", "vars_of", "row", "row_truth", "told_truth", "unlike", "require_some", "require_row", "made_number", "equal", "many_of"] : List Str).zip [104, 111, 118, 125, 221, 228, 233, 238, 250, 255, 262, 283, 288, 295, 332, 407, 463]
noncomputable def fnTab : List (Str × Addr) := fnTab1 ++ fnTab2
noncomputable def fnAd (n : Str) : Addr := (fnTab.lookup n).getD 0
noncomputable abbrev FS := Addr × Stmt × List (Str × Addr)
noncomputable def fs1 : List FS := topIx.map fun i => ((fnAd (fName (topS i)), topS i, []) : FS)
noncomputable def fs2 : List FS := inIx.map fun p => ((fnAd (fName (inS p.1 p.2)), inS p.1 p.2, []) : FS)
noncomputable def fs3 : List FS := [(97, inS 9 0, []), (214, inS 24 0, []), (318, inS 25 0, [(("__class__" : Str), 306)])]
noncomputable def fnSpec : List FS := fs1 ++ (fs2 ++ fs3)
noncomputable abbrev FD := Option (Arguments × FuncBody × Scope × Addr × List (Str × Addr) × Value × Value × Addr)
-- parts of an object's data
noncomputable def dFunc : Data → Option FuncData
  | .func f => some f
  | _ => none
noncomputable def dFields : Data → Option (Array Value)
  | .fields vs => some vs
  | _ => none
noncomputable def dCell : Data → Option Value
  | .cell v => v
  | _ => none
noncomputable def dSeq : Data → Option (Array Value)
  | .seq vs _ => some vs
  | _ => none
noncomputable def vStr : Value → Option Str
  | .str f _ => some f
  | _ => none
noncomputable def vRef : Value → Option Addr
  | .ref a => some a
  | _ => none
noncomputable def l1 : List Value → Option Value
  | [a] => some a
  | _ => none
noncomputable def l2 : List Value → Option (Value × Value)
  | [a, b] => some (a, b)
  | _ => none
noncomputable def fdOf (K : Frag) (a : Addr) : FD := (K.lookup a).bind fun o => (dFunc o.data).map fun fd => (fd.params, fd.body, fd.scope, fd.globals, fd.closure, fd.defaults, fd.kwdefaults, fd.builtins)
noncomputable def codeOk (K : Frag) (a : Addr) : Bool := (K.lookup a).any fun o => (dFunc o.data).any fun fd => codeIn K fd.code fd.qualname
noncomputable def codeAtK (K : Frag) (a : Addr) : Option Value := (K.lookup a).bind fun o => (dFunc o.data).map (·.code)
noncomputable def fileOf (K : Frag) (a : Addr) : Option Str := (K.lookup a).bind fun o => (dFields o.data).bind fun vs => (vs[2]? : Option Value).bind vStr
noncomputable def cellOf (K : Frag) (a : Addr) : Option Value := (K.lookup a).bind fun o => dCell o.data
noncomputable def tupAt (K : Frag) (v : Value) : Option (List Value) := (vRef v).bind fun a => (K.lookup a).bind fun o => if (o.cls == .type "tuple" && o.dict.isNone) = true then (dSeq o.data).map Array.toList else none
noncomputable def intV (i : Int) : Value → Bool
  | .int j _ => j == i
  | _ => false
noncomputable def truthsOk (K : Frag) (v : Value) : Bool := ((tupAt K v).bind l1).any fun v1 => ((tupAt K v1).bind l2).any fun p => intV 0 p.1 && intV 1 p.2
noncomputable def someV (f : Value → Bool) (x : Option (Option Value)) : Bool := (x.bind id).any f
noncomputable def clsChk (K : Frag) (C : Addr) (ns : List Str) : Bool := (clsIn K C).any (·.hasDict) && (findIn K (.ref C) "__getattribute__" == some (some (.builtin "object.__getattribute__")) && (findIn K (.ref C) "__getattr__" == some none && ns.all fun n => findIn K (.ref C) n == some none))
noncomputable def methChk (K : Frag) (C : Addr) (ns : List Str) : Bool := ns.all fun n => findIn K (.ref C) n == some (some (.ref (fnAd n))) && typeIn K (.ref (fnAd n)) == some (.type "function")
noncomputable def storeChk (K : Frag) (C : Addr) (ns : List Str) : Bool := findIn K (.ref C) "__setattr__" == some (some (.builtin "object.__setattr__")) && (plainOver K C && ns.all fun n => takerIn K C n == some none)
noncomputable def flatMs : List Str := ["new_var", "post", "size", "domain_of"]
noncomputable def funsMs : List Str := ["once", "bounds", "var_of", "vars_of", "row", "row_truth", "told_truth", "unlike", "require_some", "require_row", "made_number", "equal", "many_of"]
noncomputable def chk1 (K : Frag) : Bool := (K.lookup sysModules).isSome && (fnList.all (fun n => nsIn K mainGlobals n == some (some (.ref (fnAd n)))) && (biList.all (fun p => nsIn K mainGlobals p.1 == some none) && (someV (intV 1000) (nsIn K mainGlobals "MOST_SHOWN") && (someV (truthsOk K) (nsIn K mainGlobals "TRUTHS") &&
  (nsIn K mainGlobals "Functions" == some (some (.ref 473)) && nsIn K mainGlobals "Flat" == some (some (.ref 128)))))))
noncomputable def chk2 (K : Frag) : Bool := fnSpec.all (fun p => codeOk K p.1) && (clsChk K 128 flatNames && (clsChk K 473 funsNames && (methChk K 128 flatMs && (methChk K 473 funsMs && (storeChk K 128 flatNames && storeChk K 473 funsNames)))))
noncomputable def chk3 (K : Frag) : Bool := makesIn K 473 && (makesIn K 128 && (findIn K (.ref 473) "__init__" == some (some (.ref 318)) && (findIn K (.ref 128) "__init__" == some (some (.ref 97)) && (typeIn K (.ref 318) == some (.type "function") && (typeIn K (.ref 97) == some (.type "function") && (typeIn K (.ref 214) == some (.type "function") &&
  (keepIn K (.ref 473) && (keepIn K (.ref 128) && (codeAtK K 318 == some (.ref 317) && (fileOf K 317 == some pw.main.file && (cellOf K 306 == some (.ref 473) && (mroIn K 473 (.ref 473) == some true && (nsIn K cStatics "thirdparty.any" == some none && ks_superIn K 473 473 "__init__" == some (some (.ref 214)))))))))))))))
noncomputable def addrs : List Addr := [sysModules, cStatics, mainGlobals, 127, 128, 154, 155, 297, 298, 306, 472, 473, 317, 318, 213, 214, 96, 97, 27, 28, 34, 35, 41, 42, 138, 139, 145, 146, 152, 153, 161, 162, 168, 169, 173, 174, 180, 181, 185, 186, 192, 193, 199, 200, 481, 482, 488, 489, 493, 494, 500, 501, 505, 506, 510, 511,
  103, 104, 110, 111, 117, 118, 124, 125, 220, 221, 227, 228, 232, 233, 237, 238, 249, 250, 254, 255, 261, 262, 282, 283, 287, 288, 294, 295, 331, 332, 406, 407, 462, 463]
noncomputable def expd : List FD := fnSpec.map fun p => some (fArgs p.2.1, .stmts (fBody p.2.1), fScope p.2.1, mainGlobals, p.2.2, .none, .none, builtinsNs)
noncomputable def seenK (K : Frag) : Bool × Bool × Bool × List FD := (chk1 K, chk2 K, chk3 K, fnSpec.map fun p => fdOf K p.1)
noncomputable def Said (h : Heap) : Prop := ∃ K : Frag, K.In h ∧ seenK K = (true, true, true, expd)
noncomputable def myHook : Hook where
  α := Bool × Bool × Bool × List FD
  obs := fun s => seenK (KF addrs s.heap)
  val := fun J => (true, true, true, expd)
  says := fun J h => Said h
  of := fun w s e => ⟨_, KF_in, e⟩
  keeps := fun w h h' ⟨K, a, b⟩ k => ⟨K, a.keeps k, b⟩
-- Hd2

theorem dFunc_inv {d : Data} {f : FuncData} (h : dFunc d = some f) : d = .func f := by
  cases d with
  | func g => exact congrArg Data.func (Option.some.inj h)
  | _ => exact nomatch h
theorem dFields_inv {d : Data} {f} (h : dFields d = some f) : d = .fields f := by
  cases d with
  | fields g => exact congrArg Data.fields (Option.some.inj h)
  | _ => exact nomatch h
theorem dCell_inv {d : Data} {f} (h : dCell d = some f) : d = .cell (some f) := by
  cases d with
  | cell g => exact congrArg Data.cell h
  | _ => exact nomatch h
theorem dSeq_inv {d : Data} {f} (h : dSeq d = some f) : ∃ n, d = .seq f n := by
  cases d with
  | seq g n => exact ⟨n, congrArg (Data.seq · n) (Option.some.inj h)⟩
  | _ => exact nomatch h
theorem vStr_inv {v : Value} {f} (h : vStr v = some f) : ∃ t, v = .str f t := by
  cases v with
  | str g t => exact ⟨t, congrArg (Value.str · t) (Option.some.inj h)⟩
  | _ => exact nomatch h
theorem vRef_inv {v : Value} {f} (h : vRef v = some f) : v = .ref f := by
  cases v with
  | ref a => exact congrArg Value.ref (Option.some.inj h)
  | _ => exact nomatch h
theorem l1_inv {l : List Value} {a} (h : l1 l = some a) : l = [a] := by
  cases l with
  | nil => exact nomatch h
  | cons x r => cases r with
    | nil => exact congrArg (fun y => [y]) (Option.some.inj h)
    | cons J J => exact nomatch h
theorem l2_inv {l : List Value} {p} (h : l2 l = some p) : l = [p.1, p.2] := by
  cases l with
  | nil => exact nomatch h
  | cons x r => cases r with
    | nil => exact nomatch h
    | cons y r => cases r with
      | nil => exact congrArg (fun y : Value × Value => [y.1, y.2]) (Option.some.inj h)
      | cons J J => exact nomatch h
theorem fd_of {K : Frag} {a : Addr} {P : Arguments} {b : FuncBody} {sc : Scope} {cl : List (Str × Addr)} (e : fdOf K a = some (P, b, sc, mainGlobals, cl, .none, .none, builtinsNs)) :
    ∃ (oc : Value) (od : Option Addr) (osl : Array (Option Value)) (name qual : Str) (doc pm : Value) (an : Option Addr) (cdv ct : Value),
      K.lookup a = some ⟨oc, od, .func { name, qualname := qual, params := P, body := b, scope := sc, globals := mainGlobals, closure := cl, defaults := .none, kwdefaults := .none, doc, pyModule := pm, annotations := an, code := cdv, closureTuple := ct, builtins := builtinsNs }, osl⟩ := by
  obtain ⟨⟨oc, od, dt, osl⟩, h, e⟩ := Option.bind_eq_some_iff.mp e
  obtain ⟨fd, hf, e⟩ := Option.map_eq_some_iff.mp e
  obtain rfl : dt = .func fd := dFunc_inv hf
  obtain ⟨n, q, p, b', sc', g, cl', dv, kv, doc, pm, an, cdv, ct, bn⟩ := fd
  simp only [Prod.mk.injEq] at e
  obtain ⟨rfl, rfl, rfl, rfl, rfl, rfl, rfl, rfl⟩ := e
  exact ⟨oc, od, osl, n, q, doc, pm, an, cdv, ct, h⟩

section
variable {K : Frag} {c : Cx}
theorem cls_of {C : Addr} {ns : List Str} (X : K.In c.h0) (e : clsChk K C ns = true) : ClsOK c C ns := by
  unfold clsChk at e
  simp only [Bool.and_eq_true, beq_iff_eq, List.all_eq_true] at e
  obtain ⟨e1, e2, e3, e4⟩ := e
  refine ⟨?_, looks_findIn X e2, looks_findIn X e3, fun n m => looks_findIn X (e4 n m)⟩
  obtain ⟨cd, hc, hd⟩ := any_some e1
  unfold clsIn at hc
  split at hc
  · rename_i ho; cases hc; exact ⟨_, _, X _ _ ho, rfl, hd⟩
  · cases hc
theorem fn_cls {a : Addr} (X : K.In c.h0) (e : typeIn K (.ref a) = some (.type "function")) : ∃ o, c.h0.get? a = some o ∧ o.cls = .type "function" := by
  have e' : (K.lookup a).map (·.cls) = some (.type "function") := e
  cases z : K.lookup a with
  | none => rw [z] at e'; cases e'
  | some o => rw [z] at e'; exact ⟨o, X _ _ z, Option.some.inj e'⟩
theorem meth_of {C : Addr} {ns : List Str} (X : K.In c.h0) (hf : c.fn = fnAd) (e : methChk K C ns = true) : ∀ n ∈ ns, MethAt c C n (c.fn n) := fun n m => by
  unfold methChk at e
  rw [List.all_eq_true] at e
  have := e n m
  simp only [Bool.and_eq_true, beq_iff_eq] at this
  rw [hf]
  exact ⟨looks_findIn X this.1, fn_cls X this.2⟩
theorem store_of {C : Addr} {ns : List Str} (hd : (clsIn K C).any (·.hasDict) = true) (e : storeChk K C ns = true) : StoreOK K C ns := by
  unfold storeChk at e
  simp only [Bool.and_eq_true, beq_iff_eq, List.all_eq_true] at e
  exact ⟨e.1, e.2.1, hd, e.2.2⟩
theorem fnAt_of {a : Addr} {s : Stmt} (X : K.In c.h0) (e : fdOf K a = some (fArgs s, .stmts (fBody s), fScope s, mainGlobals, [], .none, .none, builtinsNs)) (hc : codeOk K a = true) : FnAt c a (fArgs s) (fBody s) (fScope s) := by
  obtain ⟨oc, od, osl, name, qual, doc, pm, an, cdv, ct, h⟩ := fd_of e
  refine ⟨oc, od, osl, name, qual, doc, pm, an, cdv, ct, X _ _ h, codeRec_of X ?_⟩
  unfold codeOk at hc
  rw [h] at hc
  exact hc
theorem truths_of {h : Heap} {v : Value} (X : K.In h) (e : truthsOk K v = true) : Rd h v truthsD [] := by
  have tup : ∀ {v : Value} {l : List Value} {ds : List PyData}, tupAt K v = some l → RdAll h l ds [] → Rd h v (.tuple ds) [] := fun {v l ds} e r => by
    obtain ⟨a, ha, e⟩ := Option.bind_eq_some_iff.mp e
    obtain rfl : v = .ref a := vRef_inv ha
    have e : (K.lookup a).bind _ = some l := e
    obtain ⟨⟨oc, od, dt, sl⟩, ho, e⟩ := Option.bind_eq_some_iff.mp e
    by_cases q : (oc == .type "tuple" && od.isNone) = true
    · rw [if_pos q] at e
      obtain ⟨vs, hs, e9⟩ := Option.map_eq_some_iff.mp e
      obtain ⟨n, rfl⟩ : ∃ n, dt = .seq vs n := dSeq_inv hs
      obtain ⟨q1, q2⟩ := Bool.and_eq_true_iff.mp q
      obtain rfl := eq_of_beq q1
      obtain rfl := Option.isNone_iff_eq_none.mp q2
      exact .tuple (X _ _ ho) rfl rfl (e9.symm ▸ r) rfl
    · rw [if_neg q] at e; cases e
  have int : ∀ {i : Int} {v : Value}, intV i v = true → Rd h v (.int i) [] := fun {i v} e => by
    cases v with
    | int j t => have : j = i := beq_iff_eq.mp e; subst this; exact .int j t
    | _ => cases e
  obtain ⟨v1, e1, e⟩ := any_some e
  obtain ⟨⟨a, b⟩, e2, e⟩ := any_some e
  obtain ⟨w1, h1, e1⟩ := Option.bind_eq_some_iff.mp e1
  obtain ⟨w2, h2, e2⟩ := Option.bind_eq_some_iff.mp e2
  obtain rfl := l1_inv e1
  obtain rfl := l2_inv e2
  rw [Bool.and_eq_true] at e
  exact tup h1 (.cons (tup h2 (.cons (int e.1) (.cons (int e.2) .nil))) .nil)
end

theorem mem1 {i : Nat} (h : i ∈ topIx) : ((fnAd (fName (topS i)), topS i, []) : FS) ∈ fnSpec := List.mem_append_left _ (List.mem_map.mpr ⟨i, h, rfl⟩)
theorem mem2 {p : Nat × Nat} (h : p ∈ inIx) : ((fnAd (fName (inS p.1 p.2)), inS p.1 p.2, []) : FS) ∈ fnSpec := List.mem_append_right _ (List.mem_append_left _ (List.mem_map.mpr ⟨p, h, rfl⟩))
theorem mem3 {p : FS} (h : p ∈ fs3) : p ∈ fnSpec := List.mem_append_right _ (List.mem_append_right _ h)

theorem topOK_of {w : World} {h : Heap} {os : OsState} {mg mb : Str → Option Value} (S : Said h) (lim : h.NoLimit) (hg : h.Ns mainGlobals mg) (hb : h.Ns builtinsNs mb) (hbi : ∀ x : Str, x ≠ "__name__" → mb x = bootBuiltins x) :
    TopOK ⟨pw, w, h, os, 128, 473, fnAd⟩ := by
  obtain ⟨K, X, e⟩ := S
  simp only [seenK, Prod.mk.injEq] at e
  obtain ⟨e1, e2, e3, e4⟩ := e
  have e5 : ∀ p ∈ fnSpec, fdOf K p.1 = some (fArgs p.2.1, .stmts (fBody p.2.1), fScope p.2.1, mainGlobals, p.2.2, .none, .none, builtinsNs) := List.map_inj_left.mp e4
  unfold chk1 at e1
  simp only [Bool.and_eq_true, List.all_eq_true, beq_iff_eq] at e1
  obtain ⟨a1, a2, a3, a4, a5, a6, a7⟩ := e1
  unfold chk2 at e2
  simp only [Bool.and_eq_true] at e2
  obtain ⟨b1, b2, b3, b4, b5, b6, b7⟩ := e2
  rw [List.all_eq_true] at b1
  unfold chk3 at e3
  simp only [Bool.and_eq_true, beq_iff_eq] at e3
  obtain ⟨c1, c2, c3, c4, c5, c6, c7, c8, c9, c10, c11, c12, c13, c14, c15⟩ := e3
  have boot : ∀ p ∈ biList, bootBuiltins p.1 = some p.2 ∧ p.1 ≠ ("__name__" : Str) := by
    have : (biList.all fun p => bootBuiltins p.1 == some p.2 && !(p.1 == ("__name__" : Str))) = true := by kernel_rfl
    intro p m
    have := List.all_eq_true.mp this p m
    simp only [Bool.and_eq_true, beq_iff_eq, Bool.not_eq_true', beq_eq_false_iff_ne] at this
    exact this
  have hd : ∀ {C ns}, clsChk K C ns = true → (clsIn K C).any (·.hasDict) = true := fun {C ns} q => by
    unfold clsChk at q; rw [Bool.and_eq_true] at q; exact q.1
  have sm : ∀ {f : Value → Bool} {x : Option (Option Value)}, someV f x = true → ∃ v, x = some (some v) ∧ f v = true := fun {f x} q => by
    obtain ⟨v, h1, h2⟩ := any_some q
    obtain ⟨y, h3, h4⟩ := Option.bind_eq_some_iff.mp h1
    exact ⟨v, h3.trans (congrArg some h4), h2⟩
  refine ⟨lim, ?_, ⟨mg, mb, hg, hb, fun n m => mg_of X hg (a2 n m), fun n v m => ⟨mg_none_of X hg (a3 (n, v) m), ?_⟩, ?_, ?_, mg_of X hg a6⟩, fun i m => ?_, fun p m => ?_, cls_of X b2, cls_of X b3, meth_of X rfl b4, meth_of X rfl b5, ?_⟩
  · obtain ⟨o, ho⟩ := Option.isSome_iff_exists.mp a1
    exact ⟨o, X _ _ ho⟩
  · obtain ⟨q1, q2⟩ := boot (n, v) m
    exact (hbi n q2).trans q1
  · obtain ⟨v, q1, q2⟩ := sm a4
    cases v with
    | int j t =>
      have : j = 1000 := beq_iff_eq.mp q2
      subst this
      exact ⟨t, mg_of X hg q1⟩
    | _ => cases q2
  · obtain ⟨v, q1, q2⟩ := sm a5
    exact ⟨v, mg_of X hg q1, truths_of X q2⟩
  · exact fnAt_of X (e5 _ (mem1 m)) (b1 _ (mem1 m))
  · exact fnAt_of X (e5 _ (mem2 m)) (b1 _ (mem2 m))
  · refine ⟨K, 318, 214, 97, 306, 317, ?_⟩
    have m97 : ((97, inS 9 0, []) : FS) ∈ fnSpec := mem3 (.head _)
    have m214 : ((214, inS 24 0, []) : FS) ∈ fnSpec := mem3 (.tail _ (.head _))
    have m318 : ((318, inS 25 0, [(("__class__" : Str), 306)]) : FS) ∈ fnSpec := mem3 (.tail _ (.tail _ (.head _)))
    exact {
      inn := X
      lim := lim
      mkF := c1
      mkT := c2
      inF := c3
      inT := c4
      tyF := c5
      tyT := c6
      kpF := c8
      kpT := c9
      stF := store_of (hd b3) b7
      stT := store_of (hd b2) b6
      fnG := fnAt_of X (e5 _ m214) (b1 _ m214)
      fnGc := fn_cls (c := ⟨pw, w, h, os, 128, 473, fnAd⟩) X c7
      fnT := fnAt_of X (e5 _ m97) (b1 _ m97)
      clo := by
        obtain ⟨oc, od, osl, name, qual, doc, pm, an, cdv, ct, hl⟩ := fd_of (e5 _ m318)
        have hcd : cdv = .ref 317 := by
          unfold codeAtK at c10
          rw [hl] at c10
          exact Option.some.inj c10
        subst hcd
        have := b1 _ m318
        unfold codeOk at this
        rw [hl] at this
        exact ⟨oc, od, osl, name, qual, doc, pm, an, ct, X _ _ hl, codeRec_of X this⟩
      code := by
        obtain ⟨⟨oc, od, dt, sl⟩, hl, k1⟩ := Option.bind_eq_some_iff.mp c11
        obtain ⟨vs, hv, k2⟩ := Option.bind_eq_some_iff.mp (show (dFields dt).bind (fun vs => (vs[2]? : Option Value).bind vStr) = some pw.main.file from k1)
        obtain rfl : dt = .fields vs := dFields_inv hv
        obtain ⟨v, hw, k3⟩ := Option.bind_eq_some_iff.mp (show (vs[2]? : Option Value).bind vStr = some pw.main.file from k2)
        obtain ⟨tf, rfl⟩ : ∃ t, v = .str pw.main.file t := vStr_inv k3
        exact ⟨_, vs, X _ _ hl, rfl, _, tf, hw, beq_self_eq_true _⟩
      cell := by
        obtain ⟨⟨oc, od, dt, sl⟩, hl, c12⟩ := Option.bind_eq_some_iff.mp c12
        obtain rfl : dt = .cell (some _) := dCell_inv c12
        exact ⟨_, X _ _ hl, rfl⟩
      ctop := by kernel_rfl
      cls := by
        obtain ⟨cd, hc, J⟩ := any_some (hd b3)
        exact ⟨cd, hc⟩
      sub := c13
      opq := c14
      sup := c15
      glob := ⟨mg, mb, hg, hb, mg_of X hg a7, mg_of X hg a6, mg_none_of X hg (a3 ("super", .type "super") (by decide +kernel)), (hbi "super" (boot ("super", .type "super") (by decide +kernel)).2).trans (boot ("super", .type "super") (by decide +kernel)).1⟩ }
-- Hd3
noncomputable abbrev rwL : OpenLaw := PySem.Challenge.rw_zu0018_01
noncomputable abbrev XT : Shared → Bool := fun s => xlAt vw [] s && recOk (RowW.records PySem.Challenge.rw_zu0018_01.row.toRowW) s
noncomputable abbrev runT (w : World) (os : OsState) : Option SharedT := topRunT treeTable pw w m0 ann0 6420 (S0 w os) (topStub pw)
theorem runAB (w : World) (os : OsState) : (runT w os).map (fun s => (looks1 pw (boot_heap w.params) s.abs, openSeen vw [] (importedModules pw.main.body) XT true s.abs)) = some (true, openGood vw []) := by kernel_rfl
theorem runC (w : World) (os : OsState) : (runT w os).map (fun s => seenK (KF addrs s.abs.heap)) = some (true, true, true, expd) := by kernel_rfl
theorem map_two {α β γ δ : Type} {x : Option α} {f : α → β} {g : α → γ} {k : α → δ} {b : β} {c : γ} {d : δ} (h1 : x.map (fun s => (f s, g s)) = some (b, c)) (h2 : x.map k = some d) : x.map (fun s => (f s, g s, k s)) = some (b, c, d) := by
  cases x with
  | none => cases h1
  | some a =>
    simp only [Option.map_some, Option.some.injEq, Prod.mk.injEq] at h1 h2 ⊢
    exact ⟨h1.1, h1.2, h2⟩
theorem left : LeftO pw vw [] XT (Hook.obs myHook) (Hook.val myHook) 6420 :=
  left_gen (boot_open (p := pw) (N := 6420) (by kernel_rfl) (by decide) (fun s => by kernel_rfl)) size0 abs0 (fun w os => map_two (runAB w os) (runC w os))
theorem wit : (PySem.Challenge.rw_zu0018_01).row.toRowW.promised := by w_witness2
theorem holds_it (call : WalkO vw [] (XL vw []) (Hook.says myHook) rwL.row.toRowW ⟨"law", fArgs (topS 33), fBody (topS 33), fScope (topS 33), ⟨321, 0, 363, 15⟩⟩ [] fun f vs => PySem.call f vs) : rwL.Holds := by
  refine holds_law (by kernel_rfl) fun said => ?_
  exact holds_open (q := vw) (loose := []) (Xt := XT) (XP := XL vw []) (Yf := Hook.obs myHook) (Ya := Hook.val myHook) (YP := Hook.says myHook) (N := 6420) left (Hook.of myHook) (Hook.keeps myHook) (fun s e => xl_of s (Bool.and_eq_true_iff.mp e).1) XL.keeps (by kernel_rfl) (by kernel_rfl) (by kernel_rfl) (fun s e => recFacts_of (Bool.and_eq_true_iff.mp e).2) (by kernel_rfl) said (by kernel_rfl) ⟨rfl, rfl, rfl, rfl, rfl, by decide +kernel⟩ wit call
-- Base13

theorem BindsP.b0 {P} (h : ∀ (body : List Stmt) (sc : Scope) (name qual : Str) (doc pm : Value) (an : Option Addr) (cdv ct : Value), bindArgs (fnOf name qual P body sc .none .none doc pm an cdv ct) ⟨[], []⟩ = pure ((P.args.map (·.arg)).zip [])) : BindsP P 0 := fun body sc name qual doc pm an cdv ct vs hv => by
  cases vs with
  | nil => exact h ..
  | cons J J => cases hv
theorem BindsP.b1 {P} (h : ∀ (body : List Stmt) (sc : Scope) (name qual : Str) (doc pm : Value) (an : Option Addr) (cdv ct : Value) (v), bindArgs (fnOf name qual P body sc .none .none doc pm an cdv ct) ⟨[v], []⟩ = pure ((P.args.map (·.arg)).zip [v])) : BindsP P 1 := fun body sc name qual doc pm an cdv ct vs hv => by
  rcases vs with J | ⟨v, J | ⟨J, J⟩⟩ <;> first | exact h .. | cases hv
theorem BindsP.b2 {P} (h : ∀ (body : List Stmt) (sc : Scope) (name qual : Str) (doc pm : Value) (an : Option Addr) (cdv ct : Value) (v w), bindArgs (fnOf name qual P body sc .none .none doc pm an cdv ct) ⟨[v, w], []⟩ = pure ((P.args.map (·.arg)).zip [v, w])) : BindsP P 2 := fun body sc name qual doc pm an cdv ct vs hv => by
  rcases vs with J | ⟨v, J | ⟨J, J | ⟨J, J⟩⟩⟩ <;> first | exact h .. | cases hv
theorem BindsP.b3 {P} (h : ∀ (body : List Stmt) (sc : Scope) (name qual : Str) (doc pm : Value) (an : Option Addr) (cdv ct : Value) (v w u), bindArgs (fnOf name qual P body sc .none .none doc pm an cdv ct) ⟨[v, w, u], []⟩ = pure ((P.args.map (·.arg)).zip [v, w, u])) : BindsP P 3 := fun body sc name qual doc pm an cdv ct vs hv => by
  rcases vs with J | ⟨v, J | ⟨J, J | ⟨J, J | ⟨J, J⟩⟩⟩⟩ <;> first | exact h .. | cases hv

section
variable {c : Cx} {d : Nat} {sc : Scope} {B : Bs} {σ : Sg} {Q : AV → Sg → Prop}

/- A call of a def at the top, out of its body. -/
theorem CallP.top (i : Nat) (B : Bs) {nm : Str} {xs : List AV} {Q : AV → Sg → Prop} (T : TopOK c)
    {st : Stmt} {rest : List Stmt} (hbd : fBody (topS i) = st :: rest) (h : ExecsP c d (fScope (topS i)) B σ (st :: rest) (fun J σ' => Q (.dat .none) σ') Q)
    (hi : autoParam (decide (i ∈ [2, 3, 4, 12, 13, 14, 17, 18, 19, 20, 21, 22, 23, 27, 28, 29, 30, 31, 32]) = true) trT)
    (hB : autoParam (((fArgs (topS i)).args.map (·.arg)).zip xs = B) rfT)
    (hb : BindsP (fArgs (topS i)) xs.length := by first | exact .b1 (by intros; rfl) | exact .b2 (by intros; rfl) | exact .b3 (by intros; rfl) | exact .b0 (by intros; rfl))
    (hnm : autoParam (fName (topS i) = nm) krT)
    (hn : autoParam (((fArgs (topS i)).args.map (·.arg)).length = xs.length) krT) (hnd : autoParam (decide (((fArgs (topS i)).args.map (·.arg)).Nodup) = true) trT)
    (hks : autoParam ((((fArgs (topS i)).args.map (·.arg)).all fun n => (fScope (topS i)).names.lookup n == some .local || (fScope (topS i)).names.lookup n == some .cell) = true) trT)
    (hk : autoParam ((fScope (topS i)).kind = .function) krP) (hco : autoParam ((fScope (topS i)).isCoroutine = false) flT) (hgen : autoParam ((fScope (topS i)).isGenerator = false) flT) :
    CallP c (d + 1) (.ref (c.fn nm)) xs σ Q := by
  have hi := of_decide_eq_true hi
  have hnd := of_decide_eq_true hnd
  subst hnm
  exact .of_body T.lim (T.fns i hi) hb (by rw [hB, hbd]; exact h) hn hnd hks hk hco hgen
/- A call of a method's def. -/
theorem CallP.inn (i j : Nat) (B : Bs) {nm : Str} {xs : List AV} {Q : AV → Sg → Prop} (T : TopOK c)
    {st : Stmt} {rest : List Stmt} (hbd : fBody (inS i j) = st :: rest) (h : ExecsP c d (fScope (inS i j)) B σ (st :: rest) (fun J σ' => Q (.dat .none) σ') Q)
    (hi : autoParam (decide ((i, j) ∈ [(9, 1), (9, 2), (9, 3), (9, 4), (24, 1), (24, 2), (24, 3), (24, 4), (24, 6), (24, 7), (24, 8), (24, 11), (24, 12), (24, 13), (25, 2), (25, 13), (25, 21)]) = true) trT)
    (hB : autoParam (((fArgs (inS i j)).args.map (·.arg)).zip xs = B) rfT)
    (hb : BindsP (fArgs (inS i j)) xs.length := by first | exact .b1 (by intros; rfl) | exact .b2 (by intros; rfl) | exact .b3 (by intros; rfl) | exact .b0 (by intros; rfl))
    (hnm : autoParam (fName (inS i j) = nm) krT)
    (hn : autoParam (((fArgs (inS i j)).args.map (·.arg)).length = xs.length) krT) (hnd : autoParam (decide (((fArgs (inS i j)).args.map (·.arg)).Nodup) = true) trT)
    (hks : autoParam ((((fArgs (inS i j)).args.map (·.arg)).all fun n => (fScope (inS i j)).names.lookup n == some .local || (fScope (inS i j)).names.lookup n == some .cell) = true) trT)
    (hk : autoParam ((fScope (inS i j)).kind = .function) krP) (hco : autoParam ((fScope (inS i j)).isCoroutine = false) flT) (hgen : autoParam ((fScope (inS i j)).isGenerator = false) flT) :
    CallP c (d + 1) (.ref (c.fn nm)) xs σ Q := by
  have hi := of_decide_eq_true hi
  have hnd := of_decide_eq_true hnd
  subst hnm
  exact .of_body T.lim (T.ins (i, j) hi) hb (by rw [hB, hbd]; exact h) hn hnd hks hk hco hgen

-- what may be compared
noncomputable def ShN (n : Nat) (d : PyData) : Prop := d.canLay0 = true ∧ d.depth ≤ n
theorem ShN.sh {n d} (h : ShN n d) (hn : autoParam (n ≤ 64) dcT) : Sh d := by
  unfold Sh SeqAt.shaped
  rw [h.1, Bool.true_and]
  exact decide_eq_true (Nat.le_trans h.2 hn)
theorem ShN.int {n i} : ShN n (.int i) := ⟨by simp only [PyData.canLay0], by simp only [PyData.depth]; lia⟩
theorem ShN.bool {n i} : ShN n (.bool i) := ⟨by simp only [PyData.canLay0], by simp only [PyData.depth]; lia⟩
theorem ShN.none {n} : ShN n .none := ⟨by simp only [PyData.canLay0], by simp only [PyData.depth]; lia⟩
theorem ShN.str {n x} (h : autoParam (PyData.strOk x = true) trT) : ShN n (.str x) := ⟨by simpa only [PyData.canLay0] using h, by simp only [PyData.depth]; lia⟩
theorem ShN.all {n} : ∀ {xs : List PyData}, (∀ x ∈ xs, ShN n x) → PyData.canLayAll0 xs = true ∧ PyData.depthAll xs ≤ n
  | [], _ => ⟨by simp only [PyData.canLayAll0], by simp only [PyData.depthAll]; lia⟩
  | x :: r, h => by
    obtain ⟨a, b⟩ := h x (.head _)
    obtain ⟨p, q⟩ := ShN.all fun y m => h y (.tail _ m)
    exact ⟨by simp only [PyData.canLayAll0, a, p, Bool.and_self], by simp only [PyData.depthAll]; lia⟩
theorem ShN.tuple {n xs} (h : ∀ x ∈ xs, ShN n x) : ShN (n + 1) (.tuple xs) := by
  obtain ⟨a, b⟩ := ShN.all h
  exact ⟨by simpa only [PyData.canLay0] using a, by simp only [PyData.depth]; lia⟩
theorem ShN.list {n xs} (h : ∀ x ∈ xs, ShN n x) : ShN (n + 1) (.list xs) := by
  obtain ⟨a, b⟩ := ShN.all h
  exact ⟨by simpa only [PyData.canLay0] using a, by simp only [PyData.depth]; lia⟩
theorem ShN.le {n m d} (h : ShN n d) (l : n ≤ m) : ShN m d := ⟨h.1, Nat.le_trans h.2 l⟩

theorem ValP.itemTp {ds : List PyData} {k : Int} {x : PyData} (h0 : 0 ≤ k) (hx : ds[k.toNat]? = some x) (h : Q (.dat x) σ) (hk : autoParam (k < 2 ^ 63) dcT) : ValP c d σ [Tu ds, I k] subT Q := by
  obtain ⟨hl, J⟩ := List.getElem?_eq_some_iff.mp hx
  refine .itemT (j := k.toNat) ?_ hx h ⟨by lia, hk⟩
  unfold seqIndex?
  have h1 : ¬ k < 0 := by lia
  rw [if_neg h1]
  have h2 : (decide (0 ≤ k) && decide (k < (ds.length : Int))) = true := by simp; lia
  simp only [h2, if_true]
theorem ValP.itemTneg {ds : List PyData} {k : Int} {x : PyData} (h0 : k < 0) (h1 : -(ds.length : Int) ≤ k) (hx : ds[(k + ds.length).toNat]? = some x) (h : Q (.dat x) σ) (hk : autoParam (-2 ^ 63 ≤ k) dcT) : ValP c d σ [Tu ds, I k] subT Q := by
  obtain ⟨hl, J⟩ := List.getElem?_eq_some_iff.mp hx
  refine .itemT (j := (k + ds.length).toNat) ?_ hx h ⟨hk, by lia⟩
  unfold seqIndex?
  rw [if_pos h0]
  have h2 : (decide (0 ≤ k + (ds.length : Int)) && decide (k + (ds.length : Int) < (ds.length : Int))) = true := by simp; lia
  simp only [h2, if_true]

theorem subTp {ds : List PyData} {k : Int} {x : PyData} (hx : ds[k.toNat]? = some x) (h : Q (.dat x) σ) (h0 : autoParam (decide (0 ≤ k) = true) trT) (hk : autoParam (decide (k < 2 ^ 63) = true) trT) : SubE c d σ (Tu ds) (I k) Q := ⟨⟨_, .tuple, subT_tuple⟩, .itemTp (of_decide_eq_true h0) hx h (of_decide_eq_true hk)⟩
theorem subTn {ds : List PyData} {k : Int} {x : PyData} (hx : ds[(k + ds.length).toNat]? = some x) (h1 : -(ds.length : Int) ≤ k) (h : Q (.dat x) σ) (h0 : autoParam (decide (k < 0) = true) trT) (hk : autoParam (decide (-2 ^ 63 ≤ k) = true) trT) : SubE c d σ (Tu ds) (I k) Q := ⟨⟨_, .tuple, subT_tuple⟩, .itemTneg (of_decide_eq_true h0) h1 hx h (of_decide_eq_true hk)⟩
theorem subLp {ds : List PyData} {k : Int} {x : PyData} (hx : ds[k.toNat]? = some x) (h : Q (.dat x) σ) (h0 : autoParam (decide (0 ≤ k) = true) trT) (hk : autoParam (decide (k < 2 ^ 63) = true) trT) : SubE c d σ (Li ds) (I k) Q := ⟨⟨_, .list, subT_list⟩, .itemL (of_decide_eq_true h0) hx h (of_decide_eq_true hk)⟩
theorem subLn {ds : List PyData} {k : Int} {x : PyData} (hx : ds[(k + ds.length).toNat]? = some x) (h1 : -(ds.length : Int) ≤ k) (h : Q (.dat x) σ) (h0 : autoParam (decide (k < 0) = true) trT) (hk : autoParam (decide (-2 ^ 63 ≤ k) = true) trT) : SubE c d σ (Li ds) (I k) Q := ⟨⟨_, .list, subT_list⟩, .itemLneg (of_decide_eq_true h0) h1 hx h (of_decide_eq_true hk)⟩
theorem subOp {l : Addr} {ds : List PyData} {k : Int} {x : PyData} (m : (l, OB.lst ds) ∈ σ) (hx : ds[k.toNat]? = some x) (h : Q (.dat x) σ) (h0 : autoParam (decide (0 ≤ k) = true) trT) (hk : autoParam (decide (k < 2 ^ 63) = true) trT) : SubE c d σ (.ref l) (I k) Q := ⟨⟨_, .lst m, subT_list⟩, .itemO m (of_decide_eq_true h0) hx h (of_decide_eq_true hk)⟩
theorem subOn {l : Addr} {ds : List PyData} {k : Int} {x : PyData} (m : (l, OB.lst ds) ∈ σ) (hx : ds[(k + ds.length).toNat]? = some x) (h1 : -(ds.length : Int) ≤ k) (h : Q (.dat x) σ) (h0 : autoParam (decide (k < 0) = true) trT) (hk : autoParam (decide (-2 ^ 63 ≤ k) = true) trT) : SubE c d σ (.ref l) (I k) Q := ⟨⟨_, .lst m, subT_list⟩, .itemOneg m (of_decide_eq_true h0) h1 hx h (of_decide_eq_true hk)⟩

theorem TruP.of {b : Bool} {Q : Bool → Sg → Prop} (h : Q b σ) : TruP c d σ (Bo b) Q := .bool h
/- A test by a value that is a bool. -/
theorem TestP.val {e : Expr} {Q : Bool → Sg → Prop} (h : EvalP c d sc B σ e fun x σ₁ => BoE x fun b => Q b σ₁) (hp : autoParam (plainTest e = true) trT) : TestP c d sc B σ e Q :=
  .value (h.mono fun x σ' ⟨b, e, q⟩ => by subst e; exact .bool q) hp
theorem ExecP.retv {e pos} {N : Bs → Sg → Prop} {R : AV → Sg → Prop} (h : EvalP c d sc B σ e R) : ExecP c d sc B σ (.Return (some e) pos) N R := .ret h

/- A method of the things' own class. -/
theorem methFuns (T : TopOK c) {F M : AV} {n : Str} (hn : n ∈ (["once", "bounds", "var_of", "vars_of", "row", "row_truth", "told_truth", "unlike", "require_some", "require_row", "made_number", "equal", "many_of"] : List Str))
    {es : List Expr} (h : EvalsP c d sc B σ es fun ys σ₂ => CallP c d (.ref (c.fn n)) (.funs F M :: ys) σ₂ Q) (hk : KeepOK c (.ref (c.fn n))) (hm : n ∉ funsNames) :
    MethE c d sc B σ (.funs F M) n es Q :=
  ⟨_, _, .funs T.funs (T.mFuns n hn) hm, hk, h⟩
theorem methFlat (T : TopOK c) {F M : AV} {n : Str} (hn : n ∈ (["new_var", "post", "size", "domain_of"] : List Str))
    {es : List Expr} (h : EvalsP c d sc B σ es fun ys σ₂ => CallP c d (.ref (c.fn n)) (.flat F M :: ys) σ₂ Q) (hk : KeepOK c (.ref (c.fn n))) (hm : n ∉ flatNames) :
    MethE c d sc B σ (.flat F M) n es Q :=
  ⟨_, _, .flat T.flat (T.mFlat n hn) hm, hk, h⟩
theorem in_names : ((["once", "bounds", "var_of", "vars_of", "row", "row_truth", "told_truth", "unlike", "require_some", "require_row", "made_number", "equal", "many_of", "new_var", "post", "size", "domain_of"] : List Str).all fun n =>
    [(9, 1), (9, 2), (9, 3), (9, 4), (24, 1), (24, 2), (24, 3), (24, 4), (24, 6), (24, 7), (24, 8), (24, 11), (24, 12), (24, 13), (25, 2), (25, 13), (25, 21)].any fun p => fName (inS p.1 p.2) == n) = true := by decide +kernel
theorem KeepOK.inn {n : Str} (T : TopOK c) (hn : n ∈ (["once", "bounds", "var_of", "vars_of", "row", "row_truth", "told_truth", "unlike", "require_some", "require_row", "made_number", "equal", "many_of", "new_var", "post", "size", "domain_of"] : List Str)) : KeepOK c (.ref (c.fn n)) := by
  have := List.all_eq_true.mp in_names n hn
  obtain ⟨i, hi, e⟩ := List.any_eq_true.mp this
  rw [← eq_of_beq e]
  exact KeepOK.fn (T.ins i hi)
theorem EvalP.callFuns {o : Expr} {n : Str} {F M : AV} {apos args pos} (T : TopOK c) (h : EvalP c d sc B σ o fun x σ₁ => x = .funs F M ∧ EvalsP c d sc B σ₁ args fun ys σ₂ => CallP c d (.ref (c.fn n)) (.funs F M :: ys) σ₂ Q)
    (hn : autoParam (decide (n ∈ (["once", "bounds", "var_of", "vars_of", "row", "row_truth", "told_truth", "unlike", "require_some", "require_row", "made_number", "equal", "many_of"] : List Str)) = true) trT) (ho : autoParam (notSuper o = true) trT) (hs : autoParam ((args.all fun t => !isStarred t) = true) trT) (hl : autoParam ((apos.endLine == pos.line) = true) trT) (hz : autoParam (decide (args.length < 29) = true) trT) :
    EvalP c d sc B σ (.Call (.Attribute o n apos) args [] pos) Q :=
  .method (h.mono fun x σ' ⟨e, q⟩ => by
    have hn := of_decide_eq_true hn
    subst e
    refine methFuns T hn q (.inn T ?_) ?_
    · exact (show (["once", "bounds", "var_of", "vars_of", "row", "row_truth", "told_truth", "unlike", "require_some", "require_row", "made_number", "equal", "many_of"] : List Str) ⊆ _ by decide +kernel) hn
    · exact (show ∀ n ∈ (["once", "bounds", "var_of", "vars_of", "row", "row_truth", "told_truth", "unlike", "require_some", "require_row", "made_number", "equal", "many_of"] : List Str), n ∉ funsNames by decide +kernel) n hn) ho hs hl hz
theorem EvalP.callFlat {o : Expr} {n : Str} {F M : AV} {apos args pos} (T : TopOK c) (h : EvalP c d sc B σ o fun x σ₁ => x = .flat F M ∧ EvalsP c d sc B σ₁ args fun ys σ₂ => CallP c d (.ref (c.fn n)) (.flat F M :: ys) σ₂ Q)
    (hn : autoParam (decide (n ∈ (["new_var", "post", "size", "domain_of"] : List Str)) = true) trT) (ho : autoParam (notSuper o = true) trT) (hs : autoParam ((args.all fun t => !isStarred t) = true) trT) (hl : autoParam ((apos.endLine == pos.line) = true) trT) (hz : autoParam (decide (args.length < 29) = true) trT) :
    EvalP c d sc B σ (.Call (.Attribute o n apos) args [] pos) Q :=
  .method (h.mono fun x σ' ⟨e, q⟩ => by
    have hn := of_decide_eq_true hn
    subst e
    refine methFlat T hn q (.inn T ?_) ?_
    · exact (show (["new_var", "post", "size", "domain_of"] : List Str) ⊆ _ by decide +kernel) hn
    · exact (show ∀ n ∈ (["new_var", "post", "size", "domain_of"] : List Str), n ∉ flatNames by decide +kernel) n hn) ho hs hl hz

theorem EvalP.and3 {x y w : Expr} {pos} {Q : AV → Sg → Prop} (h : EvalP c d sc B σ x fun u σ₁ => TruP c d σ₁ u fun z σ₂ => Br z (EvalP c d sc B σ₂ y fun u σ₁ => TruP c d σ₁ u fun z σ₂ => Br z (EvalP c d sc B σ₂ w Q) (Q u σ₂)) (Q u σ₂))
    : EvalP c d sc B σ (.BoolOp .And [x, y, w] pos) Q := fun A s env F rm k hF st f => by
  refine BoolOp_and (wpAny_mono (h A s env F rm k hF st f) (fun v s₁ h₁ => ?_) fun J J z => z)
  obtain ⟨u, σ₁, st₁, e₁, r₁, h₁⟩ := h₁
  refine wpAny_mono (h₁ A s₁ F v rm st₁ r₁) (fun b s₂ h₂ => ?_) fun J J z => z
  obtain ⟨σ₂, st₂, e₂, h₂, h₃⟩ := h₂
  cases b
  · exact ⟨u, σ₂, st₂, e₁.trans e₂, r₁.stays (st₁.stays e₂), h₃ rfl⟩
  · exact wpAny_mono (EvalP.and2 (h₂ rfl) A s₂ env F rm k hF st₂ ((f.evo st e₁ hF).evo st₁ e₂ hF)) (fun J J z => .trans (e₁.trans e₂) z) fun J J z => z

-- builtins by their names
noncomputable def biV (n : Str) : Value := ((biList.lookup n).getD .none)
noncomputable def biOk (n : Str) : Bool := biList.any fun p => p.1 == n
theorem biV_mem : ∀ {n : Str}, biOk n = true → (n, biV n) ∈ biList := by
  intro n h
  unfold biOk biV at *
  generalize biList = l at *
  induction l with
  | nil => cases h
  | cons p r ih =>
    obtain ⟨m, v⟩ := p
    cases e : n == m with
    | true => rw [List.lookup_cons, e]; rw [eq_of_beq e]; exact .head _
    | false =>
      rw [List.lookup_cons, e]
      have e' : (m == n) = false := by
        cases q : m == n with
        | false => rfl
        | true => rw [eq_of_beq q, beq_self_eq_true] at e; cases e
      rw [List.any_cons, e', Bool.false_or] at h
      exact .tail _ (ih h)
theorem biV_kind : ∀ {n : Str}, biOk n = true → (∃ i, biV n = .builtin i) ∨ ∃ i, biV n = .type i := by
  intro n h
  have := biV_mem h
  generalize biV n = v at this
  unfold biList at this
  simp only [List.mem_cons, Prod.mk.injEq, List.not_mem_nil, or_false] at this
  rcases this with ⟨J, h⟩ | ⟨J, h⟩ | ⟨J, h⟩ | ⟨J, h⟩ | ⟨J, h⟩ | ⟨J, h⟩ | ⟨J, h⟩ | ⟨J, h⟩ | ⟨J, h⟩ | ⟨J, h⟩ | ⟨J, h⟩ | ⟨J, h⟩ | ⟨J, h⟩ | ⟨J, h⟩ | ⟨J, h⟩ | ⟨J, h⟩ <;> first | exact .inl ⟨_, h⟩ | exact .inr ⟨_, h⟩
theorem KeepOK.bi {n : Str} (h : biOk n = true) : KeepOK c (.val (biV n)) := by
  rcases biV_kind h with ⟨i, e⟩ | ⟨i, e⟩ <;> rw [e]
  · exact .builtin
  · exact .type
theorem EvalP.gbV {n pos} (T : TopOK c) (h : Q (.val (biV n)) σ) (hn : autoParam (biOk n = true) trT)
    (hk : autoParam ((sc.names.lookup n == some .globalImplicit) = true) trT) (hd : autoParam ((n == ("__debug__" : Str)) = false) flT) : EvalP c d sc B σ (.Name n pos) Q := .gbi T (biV_mem hn) h hk hd
theorem EvalP.callV {n p args pos} (T : TopOK c) (h : EvalsP c d sc B σ args fun ys σ₂ => CallP c d (.val (biV n)) ys σ₂ Q) (hn : autoParam (biOk n = true) trT)
    (hs : autoParam ((args.all fun t => !isStarred t) = true) trT)
    (hk : autoParam ((sc.names.lookup n == some .globalImplicit) = true) trT) (hd : autoParam ((n == ("__debug__" : Str)) = false) flT) : EvalP c d sc B σ (.Call (.Name n p) args [] pos) Q :=
  .call (.gbV T ⟨.bi hn, h⟩ hn hk hd) hs

theorem biV_len : biV "len" = .builtin "len" := by kernel_rfl
theorem biV_abs : biV "abs" = .builtin "abs" := by kernel_rfl
theorem biV_min : biV "min" = .builtin "min" := by kernel_rfl
theorem biV_max : biV "max" = .builtin "max" := by kernel_rfl
theorem biV_isi : biV "isinstance" = .builtin "isinstance" := by kernel_rfl
theorem biV_sorted : biV "sorted" = .builtin "sorted" := by kernel_rfl
theorem biV_sum : biV "sum" = .builtin "sum" := by kernel_rfl
theorem biV_int : biV "int" = .type "int" := by kernel_rfl
theorem biV_bool : biV "bool" = .type "bool" := by kernel_rfl
theorem biV_tuple : biV "tuple" = .type "tuple" := by kernel_rfl
theorem biV_list : biV "list" = .type "list" := by kernel_rfl
theorem biV_dict : biV "dict" = .type "dict" := by kernel_rfl
theorem biV_set : biV "set" = .type "set" := by kernel_rfl
theorem biV_range : biV "range" = .type "range" := by kernel_rfl
theorem biV_zip : biV "zip" = .type "zip" := by kernel_rfl

theorem bi_tt {xs} (h : Q (Bo true) σ) : CallP c d (.val (biV "isinstance")) [Tu xs, .val (biV "tuple")] σ Q := by rw [biV_isi, biV_tuple]; exact .tup_tup h
theorem bi_ti {xs} (h : Q (Bo false) σ) : CallP c d (.val (biV "isinstance")) [Tu xs, .val (biV "int")] σ Q := by rw [biV_isi, biV_int]; exact .tup_int h
theorem bi_tb {xs} (h : Q (Bo false) σ) : CallP c d (.val (biV "isinstance")) [Tu xs, .val (biV "bool")] σ Q := by rw [biV_isi, biV_bool]; exact .tup_bool h
theorem bi_it {xs} (h : Q (Bo false) σ) : CallP c d (.val (biV "isinstance")) [I xs, .val (biV "tuple")] σ Q := by rw [biV_isi, biV_tuple]; exact .int_tup h
theorem bi_ii {xs} (h : Q (Bo true) σ) : CallP c d (.val (biV "isinstance")) [I xs, .val (biV "int")] σ Q := by rw [biV_isi, biV_int]; exact .int_int h
theorem bi_ib {xs} (h : Q (Bo false) σ) : CallP c d (.val (biV "isinstance")) [I xs, .val (biV "bool")] σ Q := by rw [biV_isi, biV_bool]; exact .int_bool h
theorem bi_bt {xs} (h : Q (Bo false) σ) : CallP c d (.val (biV "isinstance")) [Bo xs, .val (biV "tuple")] σ Q := by rw [biV_isi, biV_tuple]; exact .bool_tup h
theorem bi_bi {xs} (h : Q (Bo true) σ) : CallP c d (.val (biV "isinstance")) [Bo xs, .val (biV "int")] σ Q := by rw [biV_isi, biV_int]; exact .bool_int h
theorem bi_bb {xs} (h : Q (Bo true) σ) : CallP c d (.val (biV "isinstance")) [Bo xs, .val (biV "bool")] σ Q := by rw [biV_isi, biV_bool]; exact .bool_bool h
theorem bi_ll {xs} (h : Q (Bo true) σ) : CallP c d (.val (biV "isinstance")) [Li xs, .val (biV "list")] σ Q := by rw [biV_isi, biV_list]; exact .list_list h
theorem bi_lenT {xs : List PyData} (hz : xs.length < 2 ^ 63) (h : Q (I xs.length) σ) : CallP c d (.val (biV "len")) [Tu xs] σ Q := by rw [biV_len]; exact .lenT h hz
theorem bi_lenL {xs : List PyData} (hz : xs.length < 2 ^ 63) (h : Q (I xs.length) σ) : CallP c d (.val (biV "len")) [Li xs] σ Q := by rw [biV_len]; exact .lenL h hz
theorem bi_lenO {l : Addr} {xs : List PyData} (m : (l, OB.lst xs) ∈ σ) (hz : xs.length < 2 ^ 63) (h : Q (I xs.length) σ) : CallP c d (.val (biV "len")) [.ref l] σ Q := by rw [biV_len]; exact .lenO m h hz
theorem bi_abs {a : Int} (h : Q (I (a.natAbs : Int)) σ) : CallP c d (.val (biV "abs")) [I a] σ Q := by rw [biV_abs]; exact .abs h
theorem bi_intI {a : Int} (h : Q (I a) σ) : CallP c d (.val (biV "int")) [I a] σ Q := by rw [biV_int]; exact .intI h
theorem bi_intB {b : Bool} (h : Q (I (if b then 1 else 0)) σ) : CallP c d (.val (biV "int")) [Bo b] σ Q := by rw [biV_int]; exact .intB h
theorem bi_max2 {a b : Int} (h : Q (I (max a b)) σ) : CallP c d (.val (biV "max")) [I a, I b] σ Q := by rw [biV_max]; exact .max2 h
theorem bi_min2 {a b : Int} (h : Q (I (min a b)) σ) : CallP c d (.val (biV "min")) [I a, I b] σ Q := by rw [biV_min]; exact .min2 h
theorem bi_range1 {n : Int} (h : Q (.rng 0 n) σ) : CallP c d (.val (biV "range")) [I n] σ Q := by rw [biV_range]; exact .range1 h
theorem bi_range2 {a b : Int} (h : Q (.rng a b) σ) : CallP c d (.val (biV "range")) [I a, I b] σ Q := by rw [biV_range]; exact .range2 h
end
-- Base14
section
variable {c : Cx} {d : Nat} {sc : Scope} {B : Bs} {σ : Sg} {Q : AV → Sg → Prop}

theorem ValP.eqI {a b : Int} (h : Q (Bo (decide (a = b))) σ) : ValP c d σ [I a, I b] (cmpT .Eq) Q := .eq (ShN.int (n := 0)).sh (ShN.int (n := 0)).sh (by
  have : PyData.eqv (.int a) (.int b) = decide (a = b) := by simp only [PyData.eqv]; rfl
  rw [this]; exact h)
theorem ValP.neI {a b : Int} (h : Q (Bo (decide (a ≠ b))) σ) : ValP c d σ [I a, I b] (cmpT .NotEq) Q := .ne (ShN.int (n := 0)).sh (ShN.int (n := 0)).sh (by
  have : (!PyData.eqv (.int a) (.int b)) = decide (a ≠ b) := by
    have : PyData.eqv (.int a) (.int b) = decide (a = b) := by simp only [PyData.eqv]; rfl
    rw [this, decide_not]
  rw [this]; exact h)
theorem ValP.eqS {a b : Str} (h : Q (Bo (a == b)) σ) (ha : autoParam (PyData.strOk a = true) trT) (hb : autoParam (PyData.strOk b = true) trT) : ValP c d σ [S' a, S' b] (cmpT .Eq) Q := .eq (ShN.str (n := 0) ha).sh (ShN.str (n := 0) hb).sh (by
  have : PyData.eqv (.str a) (.str b) = (a == b) := by simp only [PyData.eqv]
  rw [this]; exact h)
theorem ValP.neS {a b : Str} (h : Q (Bo (!(a == b))) σ) (ha : autoParam (PyData.strOk a = true) trT) (hb : autoParam (PyData.strOk b = true) trT) : ValP c d σ [S' a, S' b] (cmpT .NotEq) Q := .ne (ShN.str (n := 0) ha).sh (ShN.str (n := 0) hb).sh (by
  have : PyData.eqv (.str a) (.str b) = (a == b) := by simp only [PyData.eqv]
  rw [this]; exact h)
theorem ValP.eqB {a b : Bool} (h : Q (Bo (a == b)) σ) : ValP c d σ [Bo a, Bo b] (cmpT .Eq) Q := .eq (ShN.bool (n := 0)).sh (ShN.bool (n := 0)).sh (by
  have : PyData.eqv (.bool a) (.bool b) = (a == b) := by simp only [PyData.eqv]
  rw [this]; exact h)
theorem ValP.neB {a b : Bool} (h : Q (Bo (!(a == b))) σ) : ValP c d σ [Bo a, Bo b] (cmpT .NotEq) Q := .ne (ShN.bool (n := 0)).sh (ShN.bool (n := 0)).sh (by
  have : PyData.eqv (.bool a) (.bool b) = (a == b) := by simp only [PyData.eqv]
  rw [this]; exact h)
theorem brT {P R : Prop} (h : P) : Br true (P) (R) := ⟨fun J => h, fun e => by cases e⟩
theorem brF {P R : Prop} (h : R) : Br false (P) (R) := ⟨(fun e => by cases e), fun J => h⟩
theorem brF' {P R : Prop} (h : P) : Br' false (P) (R) := ⟨fun J => h, fun e => by cases e⟩
theorem brT' {P R : Prop} (h : R) : Br' true (P) (R) := ⟨(fun e => by cases e), fun J => h⟩
noncomputable def zapp (ns : List Str) (xs : List AV) (r : Bs) : Bs := ns.zip xs ++ r
theorem lk_zhere {n : Str} {ns : List Str} {x : AV} {xs : List AV} {r : Bs} : List.lookup n (zapp (n :: ns) (x :: xs) r) = some x := lk_here
theorem lk_znext {n m : Str} {ns : List Str} {x y : AV} {xs : List AV} {r : Bs} (h : (n == m) = false) (h' : List.lookup n (zapp ns xs r) = some y) : List.lookup n (zapp (m :: ns) (x :: xs) r) = some y := lk_next h h'
theorem lk_znil {n : Str} {y : AV} {r : Bs} (h' : List.lookup n r = some y) : List.lookup n (zapp [] [] r) = some y := h'
theorem lk_zlast {n m : Str} {x y : AV} {r : Bs} (h : (n == m) = false) (h' : List.lookup n r = some y) : List.lookup n (zapp [m] [x] r) = some y := lk_next h h'
theorem ExecP.swap2 {N : Bs → Sg → Prop} {R : AV → Sg → Prop} {n1 n2 : Str} {p1 p2 : Pos} {es : List Expr} {k k' pos pos' pos''} (h : EvalsP c d sc B σ es fun xs σ₁ => N (zapp [n1, n2] xs B) σ₁ ∧ 2 = xs.length)
    (hl : autoParam (([n1, n2].all fun n => sc.names.lookup n == some .local) = true) trT)
    (hw : autoParam (swappedStores [.Tuple [.Name n1 p1, .Name n2 p2] k pos'] (.Tuple es k' pos'') { (default : Env) with scope := sc } = pure (some [n1, n2])) krT) :
    ExecP c d sc B σ (.Assign [.Tuple [.Name n1 p1, .Name n2 p2] k pos'] (.Tuple es k' pos'') pos) N R := ExecP.swapped h hw rfl hl
theorem ExecP.swap3 {N : Bs → Sg → Prop} {R : AV → Sg → Prop} {n1 n2 n3 : Str} {p1 p2 p3 : Pos} {es : List Expr} {k k' pos pos' pos''} (h : EvalsP c d sc B σ es fun xs σ₁ => N (zapp [n1, n2, n3] xs B) σ₁ ∧ 3 = xs.length)
    (hl : autoParam (([n1, n2, n3].all fun n => sc.names.lookup n == some .local) = true) trT)
    (hw : autoParam (swappedStores [.Tuple [.Name n1 p1, .Name n2 p2, .Name n3 p3] k pos'] (.Tuple es k' pos'') { (default : Env) with scope := sc } = pure (some [n1, n2, n3])) krT) :
    ExecP c d sc B σ (.Assign [.Tuple [.Name n1 p1, .Name n2 p2, .Name n3 p3] k pos'] (.Tuple es k' pos'') pos) N R := ExecP.swapped h hw rfl hl
theorem asgs2 {P : Prop} {n : Nat} (h : P) (e : n = n) : P ∧ n = n := ⟨h, e⟩
theorem brDT {b : Bool} {P R : Prop} (hb : b = true) (h : P) : Br b (P) (R) := ⟨fun J => h, fun e => by rw [hb] at e; cases e⟩
theorem brDF {b : Bool} {P R : Prop} (hb : b = false) (h : R) : Br b (P) (R) := ⟨(fun e => by rw [hb] at e; cases e), fun J => h⟩
theorem brDT' {b : Bool} {P R : Prop} (hb : b = true) (h : R) : Br' b (P) (R) := ⟨(fun e => by rw [hb] at e; cases e), fun J => h⟩
theorem brDF' {b : Bool} {P R : Prop} (hb : b = false) (h : P) : Br' b (P) (R) := ⟨fun J => h, fun e => by rw [hb] at e; cases e⟩
theorem bi_len0 (h : Q (I 0) σ) : CallP c d (.val (biV "len")) [Tu []] σ Q := bi_lenT (by decide) h
theorem bi_len1 {x : PyData} (h : Q (I 1) σ) : CallP c d (.val (biV "len")) [Tu [x]] σ Q := bi_lenT (show 1 < 2 ^ 63 by decide) h
theorem bi_len2 {x y : PyData} (h : Q (I 2) σ) : CallP c d (.val (biV "len")) [Tu [x, y]] σ Q := bi_lenT (show 2 < 2 ^ 63 by decide) h
theorem bi_len3 {x y z : PyData} (h : Q (I 3) σ) : CallP c d (.val (biV "len")) [Tu [x, y, z]] σ Q := bi_lenT (show 3 < 2 ^ 63 by decide) h
theorem bi_len4 {x y z w : PyData} (h : Q (I 4) σ) : CallP c d (.val (biV "len")) [Tu [x, y, z, w]] σ Q := bi_lenT (show 4 < 2 ^ 63 by decide) h
theorem exB {b : Bool} {P : Bool → Prop} (h : P b) : BoE (Bo b) P := ⟨b, rfl, h⟩
theorem exD {x : PyData} {P : PyData → Prop} (h : P x) : ∃ z, AV.dat x = .dat z ∧ P z := ⟨x, rfl, h⟩
theorem exT {x : List AV} {P : List PyData → Prop} (ds : List PyData) (e : x = ds.map .dat) (hz : decide (ds.length ≤ 100) = true) (h : P ds) : DatE x P := ⟨ds, e, hz, h⟩
end

noncomputable def P1000 : Int := 10 ^ 1000
theorem P1000_big : (2 : Int) ^ 60 < P1000 := by
  have h : (10 : Nat) ^ 20 ≤ 10 ^ 1000 := Nat.pow_le_pow_right (by decide) (by decide)
  have h' : ((10 ^ 20 : Nat) : Int) ≤ ((10 ^ 1000 : Nat) : Int) := Int.ofNat_le.mpr h
  have e : ((10 ^ 1000 : Nat) : Int) = P1000 := by unfold P1000; rw [Int.natCast_pow]; rfl
  rw [e] at h'
  exact Int.lt_of_lt_of_le (by decide) h'
theorem ValP.powM {c : Cx} {d : Nat} {σ : Sg} {Q : AV → Sg → Prop} (h : Q (I P1000) σ) : ValP c d σ [I 10, I 1000] (binT .Pow) Q := by
  refine .pow (by decide) (by decide) (by decide) ?_
  have e : (10 : Int) ^ (1000 : Int).toNat = P1000 := by
    have : (1000 : Int).toNat = 1000 := by decide
    rw [this]; unfold P1000; with_reducible rfl
  rw [e]; exact h

inductive Th where
  | bo (v : Bool)
  | it (v : Int)
  | su (ps : List (Int × Int)) (v : Int)
  | bi (x : Int) (v : Bool)
noncomputable def prD (ps : List (Int × Int)) : List PyData := ps.map fun p => .tuple [.int p.1, .int p.2]
noncomputable abbrev sumD (ps : List (Int × Int)) (k : Int) : PyData := .tuple [.str "sum", .tuple (prD ps), .int k]
noncomputable abbrev Th.d : Th → PyData
  | .bo v => .bool v
  | .it v => .int v
  | .su ps v => .tuple [.str "sum", .tuple (prD ps), .int v]
  | .bi x v => .tuple [.str "bit", .int x, .bool v]
noncomputable def Th.ps : Th → List (Int × Int)
  | .bo _ => []
  | .it _ => []
  | .su ps _ => ps
  | .bi x true => [(x, 1)]
  | .bi x false => [(x, -1)]
noncomputable def Th.k : Th → Int
  | .bo true => 1
  | .bo false => 0
  | .it v => v
  | .su _ v => v
  | .bi _ true => 0
  | .bi _ false => 1
noncomputable def Th.isS : Th → Bool
  | .su .. => true
  | _ => false
noncomputable def Th.isT : Th → Bool
  | .bi .. => true
  | _ => false
noncomputable def Th.isB : Th → Bool
  | .bo .. => true
  | _ => false
-- Base15

/- An owned object holds something else. -/
noncomputable def upd (σ : Sg) (a : Addr) (ob : OB) : Sg := σ.map fun p => if p.1 = a then (p.1, ob) else p
theorem own_upd (σ : Sg) (a : Addr) (ob : OB) : own (upd σ a ob) = own σ := by
  unfold own upd
  rw [List.map_map]
  refine List.map_congr_left fun p J => ?_
  simp only [Function.comp]
  split <;> rfl
theorem mem_upd {σ : Sg} {a : Addr} {ob : OB} (h : a ∈ own σ) : (a, ob) ∈ upd σ a ob := by
  obtain ⟨p, hp, rfl⟩ := List.mem_map.mp h
  exact List.mem_map.mpr ⟨p, hp, if_pos rfl⟩
theorem mem_upd_ne {σ : Sg} {a : Addr} {ob : OB} {p : Addr × OB} (h : p ∈ σ) (n : p.1 ≠ a) : p ∈ upd σ a ob := List.mem_map.mpr ⟨p, h, if_neg n⟩
theorem mem_own {σ : Sg} {a : Addr} {ob : OB} (h : (a, ob) ∈ σ) : a ∈ own σ := List.mem_map.mpr ⟨_, h, rfl⟩

/- What is owned beyond X stays as it was. -/
structure Ext (X : List Addr) (σ σ' : Sg) : Prop where
  keep : ∀ p ∈ σ, p.1 ∉ X → p ∈ σ'
  own : ∀ a ∈ own σ, a ∈ Mine.own σ'
theorem Ext.refl (X : List Addr) (σ : Sg) : Ext X σ σ := ⟨fun J h J => h, fun J h => h⟩
theorem Ext.trans {X σ σ' σ''} (x : Ext X σ σ') (y : Ext X σ' σ'') : Ext X σ σ'' := ⟨fun p h n => y.keep p (x.keep p h n) n, fun a h => y.own a (x.own a h)⟩
theorem Ext.mono {X Y σ σ'} (x : Ext X σ σ') (h : ∀ a ∈ X, a ∈ Y) : Ext Y σ σ' := ⟨fun p m n => x.keep p m fun q => n (h _ q), x.own⟩
theorem Ext.upd {X σ a ob} (h : a ∈ X) : Ext X σ (upd σ a ob) := ⟨fun p m n => mem_upd_ne m fun e => n (e ▸ h), fun b m => by rw [own_upd]; exact m⟩
theorem Ext.cons {X σ q} : Ext X σ (q :: σ) := ⟨fun p m J => .tail _ m, fun a m => .tail _ m⟩
theorem Ext.nil {σ σ'} (x : Ext [] σ σ') (X : List Addr) : Ext X σ σ' := x.mono fun J m => nomatch m

section
variable {c : Cx} {d : Nat} {sc : Scope} {B : Bs} {σ : Sg} {Q : AV → Sg → Prop}

theorem St.set {F s a ob h'} {tk : Nat} (st : St c F σ s) (m : a ∈ own σ) (hs : ∀ b o, b ≠ a → s.heap.get? b = some o → h'.get? b = some o)
    (hh : Stays s.heap (F ++ own σ) h' (F ++ own σ) → Holds c h' (F ++ own σ) a ob) : St c F (upd σ a ob) { s with heap := h', toks := tk } ∧ Evo σ s.heap (upd σ a ob) h' := by
  have sty : Stays s.heap (F ++ own σ) h' (F ++ own σ) := ⟨fun b o e q => hs b o (fun z => st.notIn e q (List.mem_append_right _ (z ▸ m))) e, fun J m => .inl m⟩
  have ow := own_upd (σ := σ) (a := a) (ob := ob)
  exact ⟨{
    base := fun b o e => hs b o (fun z => nsn (z ▸ e) (st.apart a (List.mem_append_right _ m))) (st.base b o e)
    gens := st.gens
    os := st.os
    apart := ow.symm ▸ st.apart
    nodup := ow.symm ▸ st.nodup
    disj := ow.symm ▸ st.disj
    live := fun b mb => (st.live b mb).to fun o => hs b o fun z => st.disj b mb (z ▸ m)
    holds := fun p mp => by
      rw [ow]
      obtain ⟨q, mq, e⟩ := List.mem_map.mp mp
      by_cases hq : q.1 = a
      · rw [if_pos hq] at e
        rw [← e, hq]; exact hh sty
      · rw [if_neg hq] at e
        rw [← e]
        exact (st.holds q mq).stays sty fun o e => hs _ o hq e }, ⟨fun b o e n => hs b o (fun z => n (z ▸ m)) e, fun b mb => .inl (ow ▸ mb)⟩⟩

theorem post_set {F s a ob h' x v} {tk : Nat} (st : St c F σ s) (m : a ∈ own σ) (hs : ∀ b o, b ≠ a → s.heap.get? b = some o → h'.get? b = some o)
    (hh : Stays s.heap (F ++ own σ) h' (F ++ own σ) → Holds c h' (F ++ own σ) a ob) (r : Rp c s.heap (F ++ own σ) x v) (h : Q x (upd σ a ob)) : Post c F σ s Q v { s with heap := h', toks := tk } := by
  obtain ⟨a1, a2⟩ := st.set (tk := tk) m hs hh
  exact ⟨x, _, a1, a2, r.stays (st.stays a2), h⟩

theorem rdAll_snoc {h : Heap} {vs : List Value} {ds : List PyData} {as : List Addr} {v : Value} {d : PyData} {bs : List Addr} (r : RdAll h vs ds as) (r' : Rd h v d bs) : RdAll h (vs ++ [v]) (ds ++ [d]) (as ++ bs) := rdAll_snoc' r' r

theorem holds_mut {F s a ob} (st : St c F σ s) (m : (a, ob) ∈ σ) : a ∈ F ++ own σ := List.mem_append_right _ (mem_own m)

/- list.append. -/
theorem MethP.append {l : Addr} {xs : List PyData} (m : (l, OB.lst xs) ∈ σ) : MethP c d σ (.ref l) "append" (.val (.builtin "list.append")) [.ref l] := fun A s F v pl Q rm st r q => by
  obtain ⟨vs, as, ⟨n, e⟩, J⟩ := st.at_ m
  cases (show v = .ref l from r)
  exact Calls.getMethod_list_append e rfl rfl (q _ _ rfl ⟨rfl, trivial⟩)
theorem CallP.append {l : Addr} {xs : List PyData} {x : PyData} (m : (l, OB.lst xs) ∈ σ) (hz : xs.length ≤ 1000000) (h : Q (.dat .none) (upd σ l (.lst (xs ++ [x])))) : CallP c d (.val (.builtin "list.append")) [.ref l, .dat x] σ Q := .three fun A s F v w u rm st r r' r'' => by
  cases (show v = _ from r); cases (show w = _ from r')
  obtain ⟨vs, as, pl, ra, n⟩ := st.at_ m
  obtain ⟨bs, rz, nz⟩ := r''
  have hl := PySem.SeqAt.ReadsAll.length _ _ _ ra.reads
  rw [Array.length_toList] at hl
  refine wpAny_list_append_plain pl (fun h' pl' hs => ?_) (by rw [hl]; exact Nat.le_trans hz (by decide))
  refine post_set st (mem_own m) (fun b o nb e => (hs.2 b nb).trans e) (fun sty => ?_) rp_none h
  refine ⟨_, as ++ bs, pl', ?_, fun a m => (List.mem_append.mp m).elim (n a) (nz a)⟩
  rw [Array.toList_push]
  exact rdAll_snoc (rdAll_stays sty ra n) (rd_stays sty rz nz)

theorem not_modules {F s a} (T : ∃ o, c.h0.get? sysModules = some o) (st : St c F σ s) (m : a ∈ own σ) : (a == sysModules) = false := by
  obtain ⟨o, e⟩ := T
  refine beq_eq_false_iff_ne.mpr fun z => ?_
  exact nsn (z ▸ e) (z ▸ st.apart a (List.mem_append_right _ m))

noncomputable def put {α β : Type} [DecidableEq α] (kvs : List (α × β)) (k : α) (x : β) : List (α × β) := if kvs.any (fun p => p.1 = k) then kvs.map (fun p => if p.1 = k then (p.1, x) else p) else kvs ++ [(k, x)]
noncomputable def at? {α β : Type} [DecidableEq α] (kvs : List (α × β)) (k : α) : Option β := (kvs.find? fun p => p.1 = k).map (·.2)

theorem Pr2.at {α β γ : Type} [DecidableEq α] {G : β → γ → Prop} : ∀ {ps : List (α × β)} {kvs : List (α × γ)} (k : α), Pr2 G ps kvs → (at? ps k = none ∧ at? kvs k = none) ∨ ∃ v x, at? ps k = some v ∧ at? kvs k = some x ∧ G v x
  | [], [], k, _ => .inl ⟨rfl, rfl⟩
  | (a, v) :: r, (b, x) :: r', k, ⟨e, g, q⟩ => by
    subst e
    by_cases h : a = k
    · exact .inr ⟨v, x, by simp [at?, h], by simp [at?, h], g⟩
    · have e1 : at? ((a, v) :: r) k = at? r k := by simp [at?, h]
      have e2 : at? ((a, x) :: r') k = at? r' k := by simp [at?, h]
      rw [e1, e2]; exact Pr2.at k q
  | [], _ :: _, _, q => q.elim
  | _ :: _, [], _, q => q.elim
theorem Pr2.any {α β γ : Type} [DecidableEq α] {G : β → γ → Prop} : ∀ {ps : List (α × β)} {kvs : List (α × γ)} (k : α), Pr2 G ps kvs → (ps.any (fun p => p.1 = k)) = kvs.any (fun p => p.1 = k)
  | [], [], k, _ => rfl
  | (a, v) :: r, (b, x) :: r', k, ⟨e, g, q⟩ => by subst e; simp only [List.any_cons, Pr2.any k q]
  | [], _ :: _, _, q => q.elim
  | _ :: _, [], _, q => q.elim
theorem Pr2.snoc {α β γ : Type} {G : β → γ → Prop} {ps : List (α × β)} {kvs : List (α × γ)} {k : α} {v : β} {x : γ} (q : Pr2 G ps kvs) (g : G v x) : Pr2 G (ps ++ [(k, v)]) (kvs ++ [(k, x)]) := by
  induction ps generalizing kvs with
  | nil => cases kvs with
    | nil => exact ⟨rfl, g, trivial⟩
    | cons J J => exact q.elim
  | cons p ps ih => cases kvs with
    | nil => exact q.elim
    | cons t r => exact ⟨q.1, q.2.1, ih q.2.2⟩
theorem Pr2.mapk {α β γ : Type} [DecidableEq α] {G : β → γ → Prop} {f : α → β → β} {g : α → γ → γ} (h : ∀ k v x, G v x → G (f k v) (g k x)) : ∀ {ps : List (α × β)} {kvs : List (α × γ)}, Pr2 G ps kvs → Pr2 G (ps.map fun p => (p.1, f p.1 p.2)) (kvs.map fun p => (p.1, g p.1 p.2))
  | [], [], _ => trivial
  | (_, _) :: _, (_, _) :: _, ⟨e, g', q⟩ => by subst e; exact ⟨rfl, h _ _ _ g', Pr2.mapk h q⟩
  | [], _ :: _, q => q.elim
  | _ :: _, [], q => q.elim
theorem Pr2.put {α β γ : Type} [DecidableEq α] {G : β → γ → Prop} {ps : List (α × β)} {kvs : List (α × γ)} {k : α} {v : β} {x : γ} (h : Pr2 G ps kvs) (g : G v x) : Pr2 G (put ps k v) (put kvs k x) := by
  unfold Mine.put
  rw [h.any k]
  split
  · have e1 : (ps.map fun p => if p.1 = k then (p.1, v) else p) = ps.map fun p => (p.1, if p.1 = k then v else p.2) := List.map_congr_left fun p J => by split <;> rfl
    have e2 : (kvs.map fun p => if p.1 = k then (p.1, x) else p) = kvs.map fun p => (p.1, if p.1 = k then x else p.2) := List.map_congr_left fun p J => by split <;> rfl
    rw [e1, e2]
    refine Pr2.mapk (f := fun a b => if a = k then v else b) (g := fun a b => if a = k then x else b) (fun a b y gg => ?_) h
    show G (if a = k then v else b) (if a = k then x else y)
    split
    · exact g
    · exact gg
  · exact h.snoc g
theorem Pr2.len {α β γ : Type} {G : β → γ → Prop} : ∀ {ps : List (α × β)} {kvs : List (α × γ)}, Pr2 G ps kvs → ps.length = kvs.length
  | [], [], _ => rfl
  | (_, _) :: _, (_, _) :: _, ⟨_, _, q⟩ => by simp [Pr2.len q]
  | [], _ :: _, q => q.elim
  | _ :: _, [], q => q.elim

-- dicts with int keys
theorem ValP.inI {a : Addr} {kvs : List (Int × AV)} {k : Int} (T : ∃ o, c.h0.get? sysModules = some o) (m : (a, OB.dI kvs) ∈ σ) (h : Q (Bo (at? kvs k).isSome) σ) : ValP c d σ [I k, .ref a] (cmpT .In) Q := .two fun A s F v w rm st r r' => by
  obtain ⟨t, rfl⟩ := rp_int' r; cases (show w = _ from r')
  obtain ⟨ps, hd, hp⟩ := st.at_ m
  refine wpAny_in_of (intKind_is c.prog c.w k t) (not_modules T st (mem_own m)) hd.mapOf ?_
  have : (valueAt ps k).isSome = (at? kvs k).isSome := by
    show (at? ps k).isSome = _
    rcases hp.at k with ⟨e1, e2⟩ | ⟨J, J, e1, e2, J⟩ <;> rw [e1, e2] <;> rfl
  rw [this]
  exact .pure st rp_bool h
theorem ValP.getI {a : Addr} {kvs : List (Int × AV)} {k : Int} {x : AV} (m : (a, OB.dI kvs) ∈ σ) (e : at? kvs k = some x) (h : Q x σ) : ValP c d σ [.ref a, I k] subT Q := .two fun A s F v w rm st r r' => by
  obtain ⟨t, rfl⟩ := rp_int' r'; cases (show v = _ from r)
  obtain ⟨ps, hd, hp⟩ := st.at_ m
  rcases hp.at k with ⟨e1, e2⟩ | ⟨v, y, e1, e2, g⟩
  · rw [e] at e2; cases e2
  · rw [e] at e2; cases e2
    exact wpAny_getItem_of (intKind_is c.prog c.w k t) hd.mapOf e1 (.pure st g h)
theorem ValP.getS {a : Addr} {kvs : List (Str × AV)} {k : Str} {x : AV} (m : (a, OB.dS kvs) ∈ σ) (e : at? kvs k = some x) (h : Q x σ) : ValP c d σ [.ref a, S' k] subT Q := .two fun A s F v w rm st r r' => by
  obtain ⟨t, rfl⟩ := rp_str' r'; cases (show v = _ from r)
  obtain ⟨ps, hd, hp⟩ := st.at_ m
  rcases hp.at k with ⟨e1, e2⟩ | ⟨v, y, e1, e2, g⟩
  · rw [e] at e2; cases e2
  · rw [e] at e2; cases e2
    exact wpAny_getItem_of (strKind_is c.prog c.w k t) hd.mapOf e1 (.pure st g h)
theorem subI {a : Addr} {kvs : List (Int × AV)} {k : Int} {x : AV} (m : (a, OB.dI kvs) ∈ σ) (e : at? kvs k = some x) (h : Q x σ) : SubE c d σ (.ref a) (I k) Q := ⟨⟨_, .dI m, subT_dict⟩, .getI m e h⟩
theorem subS {a : Addr} {kvs : List (Str × AV)} {k : Str} {x : AV} (m : (a, OB.dS kvs) ∈ σ) (e : at? kvs k = some x) (h : Q x σ) : SubE c d σ (.ref a) (S' k) Q := ⟨⟨_, .dS m, subT_dict⟩, .getS m e h⟩

/- dict.get with a default. -/
theorem MethP.get {a : Addr} {kvs : List (Int × AV)} (m : (a, OB.dI kvs) ∈ σ) : MethP c d σ (.ref a) "get" (.val (.builtin "dict.get")) [.ref a] := fun A s F v pl Q rm st r q => by
  obtain ⟨ps, hd, J⟩ := st.at_ m
  cases (show v = .ref a from r)
  exact getMethod_builtin hd.typeIs PySem.F.plainAttrs_dict PySem.F.slot_dict_get (by first | kernel_rfl | rfl) hd.mapOf.noDict (q _ _ rfl ⟨rfl, trivial⟩)
theorem CallP.get {a : Addr} {kvs : List (Int × AV)} {k : Int} {x : AV} (T : ∃ o, c.h0.get? sysModules = some o) (m : (a, OB.dI kvs) ∈ σ) (h : Q ((at? kvs k).getD x) σ) : CallP c d (.val (.builtin "dict.get")) [.ref a, I k, x] σ Q := fun A s F vs rm st r => by
  rcases vs with J | ⟨f, J | ⟨v, J | ⟨w, J | ⟨u, J | ⟨J, J⟩⟩⟩⟩⟩
  · exact r.elim
  · exact r.2.elim
  · exact r.2.2.elim
  · exact r.2.2.2.elim
  · obtain ⟨r0, r1, r2, r3, J⟩ := r
    cases (show f = _ from r0); cases (show v = _ from r1); obtain ⟨t, rfl⟩ := rp_int' r2
    obtain ⟨ps, hd, hp⟩ := st.at_ m
    refine call_meetsIn PySem.F.slot_dict_get hd.typeIs PySem.F.entry_dict_get (PySem.F.args_dict_get_3 _ _ _) (meets_dict_get_default (intKind c.prog c.w) a (intKind_is c.prog c.w k t) (not_modules T st (mem_own m)) u) ⟨_, hd.mapOf, ?_⟩
    show Post c F σ s Q ((at? ps k).getD u) _
    rcases hp.at k with ⟨e1, e2⟩ | ⟨v, y, e1, e2, g⟩
    · rw [e1]; rw [e2] at h; exact .pure st r3 h
    · rw [e1]; rw [e2] at h; exact .pure st g h
  · exact r.2.2.2.2.elim

theorem stored_put {K : Type} [DecidableEq K] (ps : List (K × Value)) (k : K) (v : Value) : stored ps k v = put ps k v := by unfold stored Mine.put; rfl

/- A subscript takes a value. -/
theorem frmPost_of {F env s σ' h'} {tk : Nat} (hF : ∀ a ∈ fenv env, a ∈ F) (st : St c F σ s) (f : Frm c env B (F ++ own σ) s.heap) (y : St c F σ' { s with heap := h', toks := tk } ∧ Evo σ s.heap σ' h') : FrmPost c F env σ s.heap B σ' { s with heap := h', toks := tk } :=
  .of hF st f y.1 y.2
theorem setI_ok {a : Addr} {kvs : List (Int × AV)} {k : Int} {t : Tok} {x : AV} {v : Value} {A s F env} (m : (a, OB.dI kvs) ∈ σ) (hz : kvs.length ≤ 1000000) (hF : ∀ a ∈ fenv env, a ∈ F) (st : St c F σ s) (f : Frm c env B (F ++ own σ) s.heap) (r : Rp c s.heap (F ++ own σ) x v) :
    wpAny c.M A (setItem (.ref a) (.int k t) v) (fun J s' => FrmPost c F env σ s.heap B (upd σ a (.dI (put kvs k x))) s') nope s := by
  obtain ⟨ps, hd, hp⟩ := st.at_ m
  refine wpAny_setItem_pairs (intKind_is c.prog c.w k t) hd (fun h' hd' hs => ?_) (by rw [hp.len]; exact Nat.le_trans hz (by decide))
  refine frmPost_of hF st f (st.set (mem_own m) (fun b o nb e => (hs.2 b nb).trans e) fun sty => ⟨_, hd', ?_⟩)
  rw [stored_put]
  exact (hp.mono fun J J z => z.stays sty).put (r.stays sty)
theorem setS_ok {a : Addr} {kvs : List (Str × AV)} {k : Str} {t : Tok} {x : AV} {v : Value} {A s F env} (m : (a, OB.dS kvs) ∈ σ) (hz : kvs.length ≤ 1000000) (hF : ∀ a ∈ fenv env, a ∈ F) (st : St c F σ s) (f : Frm c env B (F ++ own σ) s.heap) (r : Rp c s.heap (F ++ own σ) x v) :
    wpAny c.M A (setItem (.ref a) (.str k t) v) (fun J s' => FrmPost c F env σ s.heap B (upd σ a (.dS (put kvs k x))) s') nope s := by
  obtain ⟨ps, hd, hp⟩ := st.at_ m
  refine wpAny_setItem_pairs (strKind_is c.prog c.w k t) hd (fun h' hd' hs => ?_) (by rw [hp.len]; exact Nat.le_trans hz (by decide))
  refine frmPost_of hF st f (st.set (mem_own m) (fun b o nb e => (hs.2 b nb).trans e) fun sty => ⟨_, hd', ?_⟩)
  rw [stored_put]
  exact (hp.mono fun J J z => z.stays sty).put (r.stays sty)

-- dicts with tuple keys
theorem isKey_of {h : Heap} {S : List Addr} {k : List PyData} {v : Value} (hk : kOk 8 (.tuple k) = true) (r : Rp c h S (Tu k) v) : ∃ a, v = .ref a ∧ IsKey h (.tuple k) a := by
  obtain ⟨as, r, J⟩ := r
  have noAddr : ∀ {n : Nat} {v : Value} {d : PyData} {as : List Addr}, kOk n d = true → Rd h v d as → as = [] := by
    intro n
    induction n with
    | zero => intro v d as hk r; cases r <;> first | rfl | (simp [kOk] at hk)
    | succ n ih =>
      intro v d as hk r
      cases r with
      | none => rfl
      | bool => rfl
      | int => rfl
      | str => rfl
      | list => simp [kOk] at hk
      | tuple h1 h2 h3 h4 =>
        have : ∀ {vs : List Value} {xs : List PyData} {as : List Addr}, (∀ x ∈ xs, kOk n x = true) → RdAll h vs xs as → as = [] := by
          intro vs
          induction vs with
          | nil => intro xs as J q; cases q; rfl
          | cons v vs ihh =>
            intro xs as hx q
            cases q with
            | cons p q => rw [ih (hx _ (.head _)) p, ihh (fun x m => hx x (.tail _ m)) q]; rfl
        exact this (by simpa only [kOk, List.all_eq_true] using hk) h4
  cases r with
  | tuple h1 h2 h3 h4 h5 =>
    have e := noAddr hk (.tuple h1 h2 h3 h4 h5)
    subst e
    exact ⟨_, rfl, hk, (Rd.tuple h1 h2 h3 h4 h5).reads⟩
theorem atKey_at {ps : List (PyData × Addr × Value)} {k : PyData} : atKey ps k = at? ps k := rfl
theorem ValP.inK {a : Addr} {kvs : List (PyData × Int)} {k : List PyData} (T : ∃ o, c.h0.get? sysModules = some o) (hk : kOk 8 (.tuple k) = true) (m : (a, OB.dT kvs) ∈ σ) (b : Bool) (hb : b = (at? kvs (.tuple k)).isSome) (h : Q (Bo b) σ) : ValP c d σ [Tu k, .ref a] (cmpT .In) Q := .two fun A s F v w rm st r r' => by
  cases (show w = _ from r')
  obtain ⟨ka, rfl, hka⟩ := isKey_of hk r
  obtain ⟨ps, hd, hp⟩ := st.at_ m
  refine wpAny_in_heap (knd := keyKind c.prog c.w) (k := .tuple k) (by have := rm.cl; show A.units + 1 + 8 < _; lia) hka (not_modules T st (mem_own m)) hd ?_
  have : (atKey ps (.tuple k)).isSome = b := by
    rw [hb]
    show (at? ps (.tuple k)).isSome = _
    rcases hp.at (PyData.tuple k) with ⟨e1, e2⟩ | ⟨J, J, e1, e2, J⟩ <;> rw [e1, e2] <;> rfl
  rw [this]
  exact .pure st rp_bool h
theorem ValP.inNK {a : Addr} {kvs : List (PyData × Int)} {k : List PyData} (T : ∃ o, c.h0.get? sysModules = some o) (hk : kOk 8 (.tuple k) = true) (m : (a, OB.dT kvs) ∈ σ) (b : Bool) (hb : b = (at? kvs (.tuple k)).isSome) (h : Q (Bo (!b)) σ) : ValP c d σ [Tu k, .ref a] (cmpT .NotIn) Q := .two fun A s F v w rm st r r' => by
  have h1 : wpAny c.M A (contains w v >>= fun x => (pure (Value.bool x) : Sem Value)) (Post c F σ s fun x σ' => x = Bo b ∧ σ' = σ) nope s := ValP.inK (Q := fun x σ' => x = Bo b ∧ σ' = σ) T hk m b hb ⟨rfl, rfl⟩ A s F [v, w] rm st ⟨r, r', trivial⟩
  show wpAny c.M A (contains w v >>= fun x => (pure (Value.bool (!x)) : Sem Value)) _ _ _
  intro Γ p hΓ
  have h2 := h1 Γ p hΓ
  simp only [Sem.wp_bind', Sem.wp_pure'] at h2 ⊢
  refine Sem.wp_mono c.M Γ _ (fun x p₁ s₁ ⟨y, σ', a1, a2, a3, e1, e2⟩ => ?_) (fun J J J z => z) _ _ h2
  subst e1; subst e2
  cases rp_bool' a3
  exact ⟨_, _, a1, a2, rp_bool, h⟩

theorem ValP.getK {a : Addr} {kvs : List (PyData × Int)} {k : List PyData} {i : Int} (hk : kOk 8 (.tuple k) = true) (m : (a, OB.dT kvs) ∈ σ) (e : at? kvs (.tuple k) = some i) (h : Q (I i) σ) : ValP c d σ [.ref a, Tu k] subT Q := .two fun A s F v w rm st r r' => by
  cases (show v = _ from r)
  obtain ⟨ka, rfl, hka⟩ := isKey_of hk r'
  obtain ⟨ps, hd, hp⟩ := st.at_ m
  rcases hp.at (PyData.tuple k) with ⟨e1, e2⟩ | ⟨p, y, e1, e2, t, g⟩
  · rw [e] at e2; cases e2
  · rw [e] at e2; cases e2
    refine wpAny_getItem_heap (knd := keyKind c.prog c.w) (k := .tuple k) (by have := rm.cl; show A.units + 1 + 8 < _; lia) hka hd e1 ?_
    rw [g]
    exact .pure st rp_int h
theorem subK {a : Addr} {kvs : List (PyData × Int)} {k : List PyData} {i : Int} (hk : kOk 8 (.tuple k) = true) (m : (a, OB.dT kvs) ∈ σ) (e : at? kvs (.tuple k) = some i) (h : Q (I i) σ) : SubE c d σ (.ref a) (Tu k) Q := ⟨⟨_, .dT m, subT_dict⟩, .getK hk m e h⟩

theorem pr2_storedH {G : Addr × Value → Int → Prop} {ps : List (PyData × Addr × Value)} {kvs : List (PyData × Int)} {k : PyData} {a : Addr} {v : Value} {x : Int} (h : Pr2 G ps kvs) (g : ∀ b, G (b, v) x) : Pr2 G (PySem.storedH ps k a v) (Mine.put kvs k x) := by
  unfold PySem.storedH Mine.put
  have e0 : (atKey ps k).isSome = ps.any fun p => p.1 = k := by
    rw [atKey_at]
    unfold at?
    rw [Option.isSome_map]
    clear h
    induction ps with
    | nil => rfl
    | cons q r ih =>
      rw [List.find?_cons, List.any_cons]
      cases decide (q.1 = k) with
      | true => rfl
      | false => rw [Bool.false_or, ← ih]
  rw [e0, h.any k]
  split
  · have e1 : ps.map (putAt k v) = ps.map fun p => (p.1, if p.1 = k then (p.2.1, v) else p.2) := List.map_congr_left fun p J => by unfold putAt; split <;> rfl
    have e2 : (kvs.map fun p => if p.1 = k then (p.1, x) else p) = kvs.map fun p => (p.1, if p.1 = k then x else p.2) := List.map_congr_left fun p J => by split <;> rfl
    rw [e1, e2]
    refine Pr2.mapk (f := fun a b => if a = k then (b.1, v) else b) (g := fun a b => if a = k then x else b) (fun a b y gg => ?_) h
    show G (if a = k then (b.1, v) else b) (if a = k then x else y)
    split
    · exact g _
    · exact gg
  · exact h.snoc (g _)

inductive PostM (c : Cx) (F : List Addr) (env : Env) (σ : Sg) (h : Heap) (B : Bs) (N : Sg → Prop) (s' : Shared) : Prop
  | mk (σ' : Sg) : FrmPost c F env σ h B σ' s' → N σ' → PostM c F env σ h B N s'
noncomputable def SetP (c : Cx) (d : Nat) (B : Bs) (σ : Sg) (y z x : AV) (N : Bs → Sg → Prop) : Prop := ∀ (A : Around) (s : Shared) (env : Env) (F : List Addr) (yv zv v : Value), Room d A → (∀ a ∈ fenv env, a ∈ F) → St c F σ s → Frm c env B (F ++ own σ) s.heap →
  Rp c s.heap (F ++ own σ) y yv → Rp c s.heap (F ++ own σ) z zv → Rp c s.heap (F ++ own σ) x v → wpAny c.M A (setItem yv zv v) (fun J s' => PostM c F env σ s.heap B (N B) s') nope s
theorem SetP.i {a : Addr} {kvs : List (Int × AV)} {k : Int} {x : AV} {N : Bs → Sg → Prop} (m : (a, OB.dI kvs) ∈ σ) (hz : kvs.length ≤ 1000000) (h : N B (upd σ a (.dI (put kvs k x)))) : SetP c d B σ (.ref a) (I k) x N := fun A s env F yv zv v rm hF st f r r' r'' => by
  cases (show yv = _ from r); obtain ⟨t, rfl⟩ := rp_int' r'
  exact wpAny_mono (setI_ok m hz hF st f r'') (fun J J z => ⟨_, z, h⟩) fun J J z => z
theorem SetP.s {a : Addr} {kvs : List (Str × AV)} {k : Str} {x : AV} {N : Bs → Sg → Prop} (m : (a, OB.dS kvs) ∈ σ) (hz : kvs.length ≤ 1000000) (h : N B (upd σ a (.dS (put kvs k x)))) : SetP c d B σ (.ref a) (S' k) x N := fun A s env F yv zv v rm hF st f r r' r'' => by
  cases (show yv = _ from r); obtain ⟨t, rfl⟩ := rp_str' r'
  exact wpAny_mono (setS_ok m hz hF st f r'') (fun J J z => ⟨_, z, h⟩) fun J J z => z
theorem SetP.k {a : Addr} {kvs : List (PyData × Int)} {k : List PyData} {x : Int} {N : Bs → Sg → Prop} (hk : kOk 8 (.tuple k) = true) (m : (a, OB.dT kvs) ∈ σ) (hz : kvs.length ≤ 1000000) (h : N B (upd σ a (.dT (put kvs (.tuple k) x)))) : SetP c d B σ (.ref a) (Tu k) (I x) N := fun A s env F yv zv v rm hF st f r r' r'' => by
  cases (show yv = _ from r); obtain ⟨t, rfl⟩ := rp_int' r''
  obtain ⟨ka, rfl, hka⟩ := isKey_of hk r'
  obtain ⟨ps, hd, hp⟩ := st.at_ m
  refine wpAny_setItem_heap (knd := keyKind c.prog c.w) (k := .tuple k) (by have := rm.cl; show A.units + 1 + 8 < _; lia) hka hd (fun h' hd' hs => ?_) (by rw [hp.len]; exact Nat.le_trans hz (by decide))
  refine ⟨_, frmPost_of hF st f (st.set (mem_own m) (fun b o nb e => (hs.2 b nb).trans e) fun sty => (show Holds c h' (F ++ own σ) a (.dT _) from ⟨_, hd', ?_⟩)), h⟩
  exact pr2_storedH hp fun b => ⟨t, rfl⟩

theorem AsgP.sub {o i : Expr} {x : AV} {pos} {N : Bs → Sg → Prop} (h : EvalP c d sc B σ o fun y σ₁ => EvalP c d sc B σ₁ i fun z σ₂ => SetP c d B σ₂ y z x N) : AsgP c d sc B σ (.Subscript o i pos) x N := fun A s env F v rm ke hF st f r => by
  rw [assign_Subscript]
  refine wpAny_bind (wpAny_holding (wpAny_mono (h A s env F rm ke hF st f) (fun yv s₁ h₁ => ?_) fun J J z => z))
  obtain ⟨y, σ₁, st₁, e₁, r₁, h₁⟩ := h₁
  have f₁ := f.evo st e₁ hF
  refine wpAny_bind (wpAny_holding (wpAny_mono (h₁ A s₁ env F rm ke hF st₁ f₁) (fun zv s₂ h₂ => ?_) fun J J z => z))
  obtain ⟨z, σ₂, st₂, e₂, r₂, h₂⟩ := h₂
  refine wpAny_bind (wpAny_standAt (wpAny_bind (wpAny_holding (wpAny_mono (h₂ A s₂ env F yv zv v rm hF st₂ (f₁.evo st₁ e₂ hF) (r₁.stays (st₁.stays e₂)) r₂ (r.stays ((st.stays e₁).trans (st₁.stays e₂)))) (fun J s₃ h₃ => ?_) fun J J z => z))))
  obtain ⟨σ₃, f₃, h₃⟩ := h₃
  exact wpAny_release (⟨B, σ₃, (FrmPost.of hF st f st₂ (e₁.trans e₂)).trans hF f₃, h₃⟩)

/- dict.setdefault. -/
theorem MethP.setd {a : Addr} {kvs : List (Int × AV)} (m : (a, OB.dI kvs) ∈ σ) : MethP c d σ (.ref a) "setdefault" (.val (.builtin "dict.setdefault")) [.ref a] := fun A s F v pl Q rm st r q => by
  obtain ⟨ps, hd, J⟩ := st.at_ m
  cases (show v = .ref a from r)
  exact getMethod_builtin hd.typeIs PySem.F.plainAttrs_dict PySem.F.slot_dict_setdefault (by first | kernel_rfl | rfl) hd.mapOf.noDict (q _ _ rfl ⟨rfl, trivial⟩)
theorem CallP.setd {a : Addr} {kvs : List (Int × AV)} {k : Int} {x : AV} (T : ∃ o, c.h0.get? sysModules = some o) (m : (a, OB.dI kvs) ∈ σ) (hz : kvs.length ≤ 1000000)
    (h1 : ∀ y, at? kvs k = some y → Q y σ) (h2 : at? kvs k = none → Q x (upd σ a (.dI (kvs ++ [(k, x)])))) : CallP c d (.val (.builtin "dict.setdefault")) [.ref a, I k, x] σ Q := fun A s F vs rm st r => by
  rcases vs with J | ⟨f, J | ⟨v, J | ⟨w, J | ⟨u, J | ⟨J, J⟩⟩⟩⟩⟩
  · exact r.elim
  · exact r.2.elim
  · exact r.2.2.elim
  · exact r.2.2.2.elim
  · obtain ⟨r0, r1, r2, r3, J⟩ := r
    cases (show f = _ from r0); cases (show v = _ from r1); obtain ⟨t, rfl⟩ := rp_int' r2
    obtain ⟨ps, hd, hp⟩ := st.at_ m
    refine call_meetsIn PySem.F.slot_dict_setdefault hd.typeIs PySem.F.entry_dict_setdefault (PySem.F.args_dict_setdefault_3 _ _ _) (kt_meets_setdefault (intKind c.prog c.w) a (intKind_is c.prog c.w k t) (not_modules T st (mem_own m)) u)
      ⟨ps, hd, by rw [hp.len]; exact Nat.le_trans hz (by decide), fun v hv => ?_, fun hn h' hd' hs => ?_⟩
    · rcases hp.at k with ⟨e1, e2⟩ | ⟨v', y, e1, e2, g⟩
      · have : at? ps k = some v := hv
        rw [e1] at this; cases this
      · have : at? ps k = some v := hv
        rw [e1] at this; cases this
        exact .pure st g (h1 _ e2)
    · rcases hp.at k with ⟨e1, e2⟩ | ⟨v', y, e1, e2, g⟩
      · refine post_set st (mem_own m) (fun b o nb e => (hs.2 b nb).trans e) (fun sty => (show Holds c h' (F ++ own σ) a (.dI _) from ⟨_, hd', ?_⟩)) r3 (h2 e2)
        have ha : (ps.any fun p => p.1 = k) = false := by
          cases q : ps.any fun p => p.1 = k with
          | false => rfl
          | true =>
            obtain ⟨p, hp1, hp2⟩ := List.any_eq_true.mp q
            have e1' : at? ps k = none := e1
            unfold at? at e1'
            rw [Option.map_eq_none_iff, List.find?_eq_none] at e1'
            exact absurd hp2 (e1' p hp1)
        have e3 : stored ps k u = ps ++ [(k, u)] := by
          unfold stored; rw [if_neg (by rw [ha]; decide)]
        rw [e3]
        exact (hp.mono fun J J z => z.stays sty).snoc (r3.stays sty)
      · have : at? ps k = none := hn
        rw [e1] at this; cases this
  · exact r.2.2.2.2.elim

/- A new dict, a new list. -/
theorem st_own {F s} {ob : OB} {o : Obj} {tk : Nat} (st : St c F σ s) (hm : Mut o) (hf : o.isFreed = false) (hh : ∀ S', Holds c (s.heap.push o) S' s.heap.objs.size ob) :
    s.heap.objs.size ∉ own σ ∧ St c F ((s.heap.objs.size, ob) :: σ) { s with heap := s.heap.push o, toks := tk } ∧ Evo σ s.heap ((s.heap.objs.size, ob) :: σ) (s.heap.push o) := by
  obtain ⟨x, σ', a1, a2, a3, a4, a5⟩ := Post.own (tk := tk) (Q := fun x σ' => ∃ a, x = .ref a ∧ a ∉ own σ ∧ σ' = (a, ob) :: σ) st hm hf (fun S' J => hh S') fun a n => ⟨a, rfl, n, rfl⟩
  obtain ⟨rfl, n, rfl⟩ := a5
  have e : Value.ref s.heap.objs.size = .ref a4 := a3
  cases e
  exact ⟨n, a1, a2⟩
theorem EvalP.dict0 {pos} (ob : OB) (ho : ob = .dI [] ∨ ob = .dT [] ∨ ob = .dS []) (h : ∀ a, a ∉ own σ → Q (.ref a) ((a, ob) :: σ)) : EvalP c d sc B σ (.Dict [] [] pos) Q := fun A s env F r k hF st f => by
  refine wpAny_Dict_empty (Post.own st (.inr (.inl ⟨_, _, rfl⟩)) rfl (fun S' J => ?_) h)
  rcases ho with rfl | rfl | rfl
  · exact ⟨[], Heap.DictOf.new _, trivial⟩
  · exact ⟨[], Heap.DictOfH.new _, trivial⟩
  · exact ⟨[], Heap.DictOf.new _, trivial⟩
theorem EvalP.list0 {pos} (h : ∀ a, a ∉ own σ → Q (.ref a) ((a, .lst []) :: σ)) : EvalP c d sc B σ (.List [] pos) Q := fun A s env F r k hF st f => by
  refine wpAny_List_spliced (pos := pos) (wpAny_items_nil ⟨by decide, ?_⟩)
  exact Post.own st (.inl rfl) rfl (fun S' J => (show Holds c _ S' _ (.lst []) from ⟨#[], [], ⟨0, Heap.get?_push_size _ rfl⟩, .nil, fun J m => nomatch m⟩)) h
theorem EvalP.dict2 {k1 k2 : Str} {c1 c2 : Nat} {p1 p2 : Pos} {e1 e2 : Expr} {pos} (hk : (k2 == k1) = false) (h : ∀ a, a ∉ own σ → EvalP c d sc B ((a, .dS []) :: σ) e1 fun x σ₁ => EvalP c d sc B σ₁ e2 fun y σ₂ => (a, .dS []) ∈ σ₂ ∧ Q (.ref a) (upd σ₂ a (.dS [(k1, x), (k2, y)]))) :
    EvalP c d sc B σ (.Dict [some (.Constant (.str k1) c1 p1), some (.Constant (.str k2) c2 p2)] [e1, e2] pos) Q := fun A s env F r k hF st f => by
  refine wpAny_Dict_any rfl rfl (by simp) (show 2 ≤ 15 by decide) ?_
  obtain ⟨n, st₁, ev⟩ := st_own (tk := s.toks) (ob := .dS []) st (o := { cls := .type "dict", data := .dict #[] }) (.inr (.inl ⟨_, _, rfl⟩)) rfl fun S' => ⟨[], Heap.DictOf.new _, trivial⟩
  have f₁ := f.evo st ev hF
  show wpAny _ _ (eval (.Constant (.str k1) c1 p1) env >>= _) _ _ _
  refine wpAny_bind (wpAny_Constant_str ?_)
  have st₂ := st₁.tok (tk := s.toks + 1)
  refine wpAny_bind (wpAny_holding (wpAny_bind (wpAny_mono (h _ n A _ env F r k hF st₂ f₁) (fun v s₁ h₁ => ?_) fun J J z => z)))
  obtain ⟨x, σ₁, st₃, ev₁, r₁, h₁⟩ := h₁
  have f₃ := f₁.evo st₂ ev₁ hF
  refine wpAny_bind (wpAny_standAt (wpAny_pure (wpAny_bind (wpAny_holding ?_))))
  show wpAny _ _ (eval (.Constant (.str k2) c2 p2) env >>= _) _ _ _
  refine wpAny_bind (wpAny_Constant_str ?_)
  have st₄ := st₃.tok (tk := s₁.toks + 1)
  refine wpAny_bind (wpAny_holding (wpAny_bind (wpAny_mono (h₁ A _ env F r k hF st₄ f₃) (fun w s₂ h₂ => ?_) fun J J z => z)))
  obtain ⟨y, σ₂, st₅, ev₂, r₂, hm, h₂⟩ := h₂
  refine wpAny_bind (wpAny_standAt (wpAny_pure (wpAny_bind (wpAny_holding (wpAny_pure (wpAny_pure (wpAny_pure ?_)))))))
  unfold storeAll
  have r₁' := r₁.stays (st₄.stays ev₂)
  obtain ⟨ps, hd, hp⟩ := st₅.at_ hm
  have hps : ps = [] := by cases ps with | nil => rfl | cons _ _ => exact hp.elim
  subst hps
  rw [List.forIn_cons]
  refine wpAny_bind (wpAny_bind (wpAny_dictSet_pairs (strKind_is c.prog c.w k1 _) hd (fun h' hd' hs => wpAny_pure ?_) (by decide)))
  dsimp only
  rw [List.forIn_cons]
  refine wpAny_bind (wpAny_bind (wpAny_dictSet_pairs (strKind_is c.prog c.w k2 _) hd' (fun h'' hd'' hs' => wpAny_pure ?_) (show 1 ≤ sizeLine by decide)))
  dsimp only
  rw [List.forIn_nil]
  refine wpAny_pure ?_
  have kp : ∀ b o, b ≠ s.heap.objs.size → s₂.heap.get? b = some o → h''.get? b = some o := fun b o nb e => (hs'.2 b nb).trans ((hs.2 b nb).trans e)
  have nk : ¬ (k1 = k2) := fun e => by rw [e, beq_self_eq_true] at hk; cases hk
  have es : stored (stored [] k1 v) k2 w = [(k1, v), (k2, w)] := by simp [stored, nk]
  rw [es] at hd''
  refine Post.trans (ev.trans (ev₁.trans ev₂)) (post_set (x := .ref s.heap.objs.size) st₅ (mem_own hm) kp (fun sty => (show Holds c h'' (F ++ own σ₂) _ (.dS [(k1, x), (k2, y)]) from ⟨_, hd'', rfl, r₁'.stays sty, rfl, r₂.stays sty, trivial⟩)) rfl h₂)
end
-- Base16

section
variable {c : Cx} {d : Nat} {sc : Scope} {B : Bs} {σ : Sg} {Q : AV → Sg → Prop}

theorem Room.in1 {d A} (x : Room (d + 1) A) : Room d A.in1 := ⟨x.handled, by have := x.depth; show A.depth + _ < _; lia, by have := x.units; show A.units + 1 + _ < _; lia⟩

theorem walks_bound {prog w A I fp wr n P X} (W : Walks prog w A I fp wr n P X) : Walks prog w A I fp wr n (fun i v => i < n ∧ P i v) X where
  sub := W.sub
  frame := W.frame
  item := fun i s Q E hi st h => W.item i s Q E hi st fun v h' tk hP => h v h' tk ⟨hi, hP⟩
  done := W.done
  self := W.self

/- All items are walked over by a builtin. -/
theorem IterP.use {x : AV} {items : List AV} (hit : IterP c d σ x items) {A s F v} (rm : Room d A) (st : St c F σ s) (r : Rp c s.heap (F ++ own σ) x v) {Q : Value → Shared → Prop}
    (K : ∀ I h' tk fp P X, s.heap.get? I = none → (∀ a o, s.heap.get? a = some o → h'.get? a = some o) → Walks c.prog c.w A I fp [I] items.length P X → X 0 h' → (∀ b ∈ fp, b < h'.objs.size ∧ (b ≠ I → b ∉ F ++ own σ)) → (MutAt h' I) →
      (∀ i v, P i v → ∃ y, items[i]? = some y ∧ Rp c h' (I :: (F ++ own σ)) y v) → Q (.ref I) { s with heap := h', toks := tk }) : wpAny c.M A (pyIter v) Q nope s :=
  hit A s F v Q rm st r fun I h' tk n kp W => by
    obtain ⟨fp, P, X, W, hX, hfp, hP, hpl⟩ := W.it
    obtain ⟨oi, hoi, hpi⟩ := hpl 0 h' hX
    refine K I h' tk fp _ X n kp (walks_bound W) hX (fun b m => ?_) ⟨oi, hoi, hpi.mut⟩ fun i v ⟨hi, h⟩ => hP i v hi h
    by_cases e : b = I
    · rw [e]; exact ⟨Heap.lt_size hoi, fun z => absurd rfl z⟩
    · obtain ⟨z, o, h⟩ := hfp b m e
      exact ⟨Heap.lt_size h, fun J => z⟩

theorem ints_at {h S} {ns : List Int} {i : Nat} {v : Value} {y : AV} (e : (ns.map I)[i]? = some y) (r : Rp c h S y v) : ∃ t, v = .int (ns.getD i 0) t := by
  rw [List.getElem?_map] at e
  cases q : ns[i]? with
  | none => rw [q] at e; cases e
  | some n =>
    rw [q] at e; cases e
    obtain ⟨t, rfl⟩ := rp_int' r
    exact ⟨t, by rw [List.getD_eq_getElem?_getD, q]; rfl⟩

theorem kept_of {h h' h'' : Heap} {I : Addr} (n : h.get? I = none) (k : ∀ a o, h.get? a = some o → h'.get? a = some o) (k' : ∀ b o, b ∉ [I] → h'.get? b = some o → h''.get? b = some o) : ∀ a o, h.get? a = some o → h''.get? a = some o := fun a o e =>
  k' a o (fun m => by rw [List.mem_singleton.mp m, n] at e; cases e) (k a o e)

theorem CallP.maxW {x : AV} {ns : List Int} (hit : IterP c d σ x (ns.map I)) (hn : ns ≠ []) (h : ∀ m, m ∈ ns → (∀ a ∈ ns, a ≤ m) → Q (I m) σ) : CallP c (d + 1) (.val (.builtin "max")) [x] σ Q := .two fun A s F v w rm st r r' => by
  cases (show v = _ from r)
  have h0 : 0 < ns.length := List.length_pos_iff.mpr hn
  refine call_max_walk (hit.use rm.in1 st r' fun I h' tk fp P X n kp W hX hfp J hP => ⟨I, fp, [I], _, P, X, _, rfl, W, hX, (fun b m => (hfp b m).1), by simpa using h0, CmpOf.ints_gt (fun i => ns.getD i 0) (fun i v hp => ?_), fun v h'' tk' hp kp' => ?_⟩)
  · obtain ⟨y, e, r⟩ := hP i v hp; exact ints_at e r
  · obtain ⟨y, e, r⟩ := hP _ v hp
    obtain ⟨t, rfl⟩ := ints_at e r
    rw [List.length_map]
    obtain ⟨a1, a2⟩ := argBest_gt (fun i => ns.getD i 0) (ns.length - 1)
    have kk := kept_of n kp kp'
    refine ⟨_, σ, st.on kk, .on σ kk, rp_int, h _ ?_ fun a ha => ?_⟩
    · exact getD_mem (by lia)
    · obtain ⟨j, hj, rfl⟩ := mem_getD ha
      exact a2 j (by lia)
theorem CallP.minW {x : AV} {ns : List Int} (hit : IterP c d σ x (ns.map I)) (hn : ns ≠ []) (h : ∀ m, m ∈ ns → (∀ a ∈ ns, m ≤ a) → Q (I m) σ) : CallP c (d + 1) (.val (.builtin "min")) [x] σ Q := .two fun A s F v w rm st r r' => by
  cases (show v = _ from r)
  have h0 : 0 < ns.length := List.length_pos_iff.mpr hn
  refine call_min_walk (hit.use rm.in1 st r' fun I h' tk fp P X n kp W hX hfp J hP => ⟨I, fp, [I], _, P, X, _, rfl, W, hX, (fun b m => (hfp b m).1), by simpa using h0, CmpOf.ints_lt (fun i => ns.getD i 0) (fun i v hp => ?_), fun v h'' tk' hp kp' => ?_⟩)
  · obtain ⟨y, e, r⟩ := hP i v hp; exact ints_at e r
  · obtain ⟨y, e, r⟩ := hP _ v hp
    obtain ⟨t, rfl⟩ := ints_at e r
    rw [List.length_map]
    obtain ⟨a1, a2⟩ := argBest_lt (fun i => ns.getD i 0) (ns.length - 1)
    have kk := kept_of n kp kp'
    refine ⟨_, σ, st.on kk, .on σ kk, rp_int, h _ ?_ fun a ha => ?_⟩
    · exact getD_mem (by lia)
    · obtain ⟨j, hj, rfl⟩ := mem_getD ha
      exact a2 j (by lia)

theorem preSum_take (ns : List Int) : ∀ n, n ≤ ns.length → preSum (fun i => ns.getD i 0) n = (ns.take n).sum
  | 0, _ => rfl
  | n + 1, h => by
    have e := preSum_take ns n (by lia)
    have hn : n < ns.length := by lia
    rw [preSum, e, List.take_succ, List.sum_append, List.getD_eq_getElem?_getD, List.getElem?_eq_getElem hn]
    simp
theorem CallP.sumW {x : AV} {ns : List Int} {b : Nat} (hit : IterP c d σ x (ns.map I)) (hb : ∀ a ∈ ns, a.natAbs ≤ b) (hz : b * ns.length < 2 ^ 60) (h : Q (I ns.sum) σ) : CallP c (d + 1) (.val (.builtin "sum")) [x] σ Q := .two fun A s F v w rm st r r' => by
  cases (show v = _ from r)
  have bound : ∀ l : List Int, (∀ a ∈ l, a.natAbs ≤ b) → l.sum.natAbs ≤ b * l.length := by
    intro l
    induction l with
    | nil => intro J; simp
    | cons a l ih =>
      intro hl
      rw [List.sum_cons, List.length_cons, Nat.mul_succ, Nat.add_comm]
      exact nadd (hl a (.head _)) (ih fun y m => hl y (.tail _ m))
  refine call_sum_walk (hit.use rm.in1 st r' fun I h' tk fp P X n kp W hX hfp J hP => ⟨I, fp, [I], _, P, X, (fun i => ns.getD i 0), rfl, W, hX, (fun b m => (hfp b m).1), (fun i v hp => ?_), fun j hj => ?_, fun h'' tk' t' kp' => ?_⟩)
  · obtain ⟨y, e, r⟩ := hP i v hp; exact ints_at e r
  · rw [List.length_map] at hj
    have e := preSum_take ns (j + 1) hj
    have h1 := bound (ns.take (j + 1)) fun a m => hb a (List.mem_of_mem_take m)
    have h2 : (ns.take (j + 1)).length ≤ ns.length := by rw [List.length_take]; lia
    have h3 : b * (ns.take (j + 1)).length ≤ b * ns.length := Nat.mul_le_mul_left _ h2
    have h4 : (ns.getD j 0).natAbs ≤ b := hb _ (getD_mem (by lia))
    have h5 : b ≤ b * ns.length := by
      have : 1 ≤ ns.length := by lia
      calc b = b * 1 := (Nat.mul_one b).symm
        _ ≤ _ := Nat.mul_le_mul_left _ this
    unfold InLong
    rw [e]
    show (-(2 ^ 63) ≤ ns.getD j 0 ∧ ns.getD j 0 < 2 ^ 63) ∧ _
    constructor <;> constructor <;> omega
  · rw [List.length_map, preSum_take ns _ (Nat.le_refl _), List.take_length]
    have kk := kept_of n kp kp'
    exact ⟨_, σ, st.on kk, .on σ kk, rp_int, h⟩

theorem CallP.tupleL {xs : List PyData} (hz : xs.length ≤ 1000000) (h : Q (Tu xs) σ) : CallP c d (.val (.type "tuple")) [Li xs] σ Q := .two fun A s F v w rm st r r' => by
  cases (show v = _ from r)
  obtain ⟨as, r', n⟩ := r'
  cases r' with
  | list h1 h2 h3 h4 =>
    have hl := PySem.SeqAt.ReadsAll.length _ _ _ h4.reads
    rw [Array.length_toList] at hl
    refine call_tuple_list ⟨_, h1, h2, _, h3⟩ (fun h' kp => ?_) (by rw [hl]; exact Nat.le_trans hz (by decide))
    have kk : ∀ ob a o, s.heap.get? a = some o → (h'.push ob).get? a = some o := fun ob a o e => Heap.get?_push_of_some _ (kp a o e)
    refine ⟨Tu xs, σ, st.on (kk _), .on σ (kk _), ⟨_, .tuple (Heap.get?_push_size _ rfl) rfl rfl (rdAll_stays ⟨fun a o e J => kk _ a o e, fun J m => .inl m⟩ h4 (S := F ++ own σ) (S' := F ++ own σ) fun a m => n a (.tail _ m)) rfl, fun a m => n a (.tail _ m)⟩, h⟩
/- A list's copy, never changed again. -/
theorem CallP.listL {xs : List PyData} (hz : xs.length ≤ 1000000) (h : Q (Li xs) σ) : CallP c d (.val (.type "list")) [Li xs] σ Q := .two fun A s F v w rm st r r' => by
  cases (show v = _ from r)
  obtain ⟨as, r', n⟩ := r'
  cases r' with
  | list h1 h2 h3 h4 =>
    have hl := PySem.SeqAt.ReadsAll.length _ _ _ h4.reads
    rw [Array.length_toList] at hl
    refine call_list_seq _ (.inl rfl) h1 h2 h3 (fun h' c' kk e => ?_) (by rw [hl]; exact Nat.le_trans hz (by decide))
    refine ⟨Li xs, σ, st.on kk, .on σ kk, ⟨_, .list e rfl rfl (rdAll_stays ⟨fun a o e J => kk a o e, fun J m => .inl m⟩ h4 (S := F ++ own σ) (S' := F ++ own σ) fun a m => n a (.tail _ m)) rfl, fun a m => ?_⟩, h⟩
    rcases List.mem_cons.mp m with rfl | m
    · exact fresh_notin st
    · exact n a (.tail _ m)

theorem rdAll_ints {h : Heap} {ns : List Int} : ∀ {vs : List Value} {as : List Addr}, RdAll h vs (ns.map PyData.int) as → IntsAre vs ns := by
  induction ns with
  | nil => intro vs as r; obtain rfl := rdAll_nil r; exact .nil
  | cons n ns ih =>
    intro vs as r
    obtain ⟨v, us, J, J, rfl, p, q⟩ := rdAll_cons r
    obtain ⟨t, rfl⟩ := rd_int p
    exact .cons n t (ih q)
theorem MethP.count {xs : List PyData} : MethP c d σ (Li xs) "count" (.val (.builtin "list.count")) [Li xs] := fun A s F v pl Q rm st r q => by
  have r0 := r
  obtain ⟨as, r', n⟩ := r
  cases r' with
  | list h1 h2 h3 h4 h5 =>
    refine getMethod_list_of PySem.F.slot_list_count PySem.F.type_list_count ⟨_, h1, h2, _, h3⟩ ⟨_, h1, h5⟩ (q _ _ rfl ⟨r0, trivial⟩)
theorem CallP.count {ns : List Int} {k : Int} (h : Q (I (ns.count k : Nat)) σ) : CallP c d (.val (.builtin "list.count")) [Li (ns.map .int), I k] σ Q := .three fun A s F v w u rm st r r' r'' => by
  cases (show v = _ from r); obtain ⟨t, rfl⟩ := rp_int' r''
  obtain ⟨as, r', n⟩ := r'
  cases r' with
  | list h1 h2 h3 h4 =>
    exact count_list_ints ⟨_, h1, h2, _, by rw [h3]⟩ (rdAll_ints h4) (.pure st rp_int h)

theorem ValP.addT {xs ys : List PyData} (hz : xs.length + ys.length ≤ 1000000) (h : Q (Tu (xs ++ ys)) σ) : ValP c d σ [Tu xs, Tu ys] (binT .Add) Q := .two fun A s F v w rm st rp rp' => by
  obtain ⟨as, r, n⟩ := rp
  obtain ⟨bs, r', n'⟩ := rp'
  cases r with
  | @tuple a o vs k _ _ h1 h2 h3 h4 h5 =>
  cases r' with
  | @tuple b o' us k' _ _ g1 g2 g3 g4 g5 =>
  have hl := PySem.SeqAt.ReadsAll.length _ _ _ h4.reads
  have hl' := PySem.SeqAt.ReadsAll.length _ _ _ g4.reads
  rw [Array.length_toList] at hl hl'
  obtain ⟨cls, dd, data, sl⟩ := o
  obtain ⟨cls2, dd2, data2, sl2⟩ := o'
  simp only at h2 h3 h5 g2 g3 g5
  subst h2 h3 h5 g2 g3 g5
  have nl : ∀ {vs : Array Value} {ds as}, RdAll s.heap vs.toList ds as → vs = #[] → ds = [] := fun r e => by subst e; cases r; rfl
  by_cases hv : vs = #[]
  · have e := nl h4 hv
    subst e
    exact concat_meets ⟨_, h1, rfl⟩ ⟨_, g1, rfl⟩ noFill_tuple_add seq_tuple_add PySem.F.slot_tuple_add PySem.F.entry_tuple_add (PySem.F.args_tuple_add_2 _ _)
      (tuple_addW0 a b vs us k k' none none sl sl2 (by simp [hv])) ⟨h1, g1, .pure (x := Tu _) st ⟨_, .tuple g1 rfl rfl g4 rfl, n'⟩ h⟩
  · by_cases hw : us = #[]
    · have e := nl g4 hw
      subst e
      rw [List.append_nil] at h
      exact concat_meets ⟨_, h1, rfl⟩ ⟨_, g1, rfl⟩ noFill_tuple_add seq_tuple_add PySem.F.slot_tuple_add PySem.F.entry_tuple_add (PySem.F.args_tuple_add_2 _ _)
        (tuple_addW1 a b vs us k k' none none sl sl2 (by simpa using hv) (by simp [hw])) ⟨h1, g1, .pure (x := Tu _) st ⟨_, .tuple h1 rfl rfl h4 rfl, n⟩ h⟩
    · refine concat_meets ⟨_, h1, rfl⟩ ⟨_, g1, rfl⟩ noFill_tuple_add seq_tuple_add PySem.F.slot_tuple_add PySem.F.entry_tuple_add (PySem.F.args_tuple_add_2 _ _)
        (tuple_addW2 a b vs us k k' none none sl sl2 (by simpa using hv) (by simpa using hw) (by rw [hl, hl']; exact Nat.le_trans hz (by decide))) ⟨h1, g1, .push (x := Tu (xs ++ ys)) st ⟨as ++ bs, .tuple (Heap.get?_push_size _ rfl) rfl rfl ?_ rfl, fun a m => (List.mem_append.mp m).elim (n a) (n' a)⟩ h⟩
      rw [Array.toList_append]
      exact rdAll_app (rdAll_stays (.push _) h4 n) (rdAll_stays (.push _) g4 n')
theorem ValP.addL {xs ys : List PyData} (hz : xs.length + ys.length ≤ 1000000) (h : Q (Li (xs ++ ys)) σ) : ValP c d σ [Li xs, Li ys] (binT .Add) Q := .two fun A s F v w rm st rp rp' => by
  obtain ⟨as, r, n⟩ := rp
  obtain ⟨bs, r', n'⟩ := rp'
  cases r with
  | @list a o vs k _ as h1 h2 h3 h4 h5 =>
  cases r' with
  | @list b o' us k' _ bs g1 g2 g3 g4 g5 =>
  have hl := PySem.SeqAt.ReadsAll.length _ _ _ h4.reads
  have hl' := PySem.SeqAt.ReadsAll.length _ _ _ g4.reads
  rw [Array.length_toList] at hl hl'
  obtain ⟨cls, dd, data, sl⟩ := o
  obtain ⟨cls2, dd2, data2, sl2⟩ := o'
  simp only at h2 h3 h5 g2 g3 g5
  subst h2 h3 h5 g2 g3 g5
  refine concat_meets ⟨_, h1, rfl⟩ ⟨_, g1, rfl⟩ noFill_list_add seq_list_add PySem.F.slot_list_add PySem.F.entry_list_add (PySem.F.args_list_add_2 _ _) (list_addW a b vs us k k' none none sl sl2 (by rw [hl, hl']; exact Nat.le_trans hz (by decide))) ⟨h1, g1, .push (x := Li (xs ++ ys)) st ⟨_, .list (Heap.get?_push_size _ rfl) rfl rfl (as := as ++ bs) ?_ rfl, fun a m => ?_⟩ h⟩
  · rw [Array.toList_append]
    exact rdAll_app (rdAll_stays (.push _) h4 fun a m => n a (.tail _ m)) (rdAll_stays (.push _) g4 fun a m => n' a (.tail _ m))
  · rcases List.mem_cons.mp m with rfl | m
    · exact fresh_notin st
    · exact (List.mem_append.mp m).elim (fun m => n a (.tail _ m)) fun m => n' a (.tail _ m)
end
-- Base17

section
variable {c : Cx} {d : Nat} {sc : Scope} {B : Bs} {σ : Sg} {Q : AV → Sg → Prop} {N : Bs → Sg → Prop} {R : AV → Sg → Prop}

/- A text with a number in it. -/
theorem EvalP.hash {x : Str} {k : Nat} {p p' pos : Pos} {e : Expr} (h : EvalP c d sc B σ e fun y σ₁ => ∃ n : Int, y = I n ∧ n.natAbs < 2 ^ 60 ∧ ∀ z, Q (S' z) σ₁) (hx : autoParam (x.length ≤ 100) krT) :
    EvalP c d sc B σ (.JoinedStr [.Constant (.str x) k p, .FormattedValue e (-1) Option.none p'] pos) Q := fun A s env F rm ke hF st f => by
  refine JoinedStr_many (joinParts_cons (wpAny_Constant_str ?_))
  have el : (Str.empty ++ x).length = x.length := by rw [strLen_append]; show 0 + _ = _; lia
  refine ⟨by rw [el]; exact Nat.le_trans hx (by decide), joinParts_cons (FormattedValue_plain ?_)⟩
  have st₁ := st.tok (tk := s.toks + 1)
  refine wpAny_mono (h A _ env F rm ke hF st₁ f) (fun v s₁ h₁ => ?_) fun J J z => z
  obtain ⟨y, σ₁, st₂, ev, r, n, rfl, hn, hq⟩ := h₁
  obtain ⟨t, rfl⟩ := rp_int' r
  have hlog : n.natAbs.log2 < 1920 := by
    by_cases h0 : n.natAbs = 0
    · rw [h0]; decide
    · exact Nat.lt_trans ((Nat.log2_lt h0).mpr hn) (by decide)
  refine formatField_int_small hlog ?_
  have hl := int_text_length_le (k := 1920) (by decide) hlog
  refine ⟨?_, ?_⟩
  · rw [strLen_append, el, PySem.ofString_length, sizeLine_eq]; lia
  · refine joinParts_nil ?_ ?_
    · exact ⟨_, σ₁, st₂.tok, ev.trans (.refl _ _), rp_str, hq _⟩
    · rw [strLen_append, el, PySem.ofString_length, sizeLine_eq]; lia

/- A loop that goes on while a test holds: n falls at each turn. -/
theorem ExecP.while_ {test : Expr} {body : List Stmt} {pos} (Iv : Nat → Bs → Sg → Prop) (n : Nat) (h0 : Iv n B σ)
    (h : ∀ n B' σ', Iv n B' σ' → TestP c d sc B' σ' test fun b σ₁ => Br b (ExecsP c d sc B' σ₁ body (fun B₂ σ₂ => ∃ m, m < n ∧ Iv m B₂ σ₂) R) (N B' σ₁)) :
    ExecP c d sc B σ (.While test body [] pos) N R := fun A s env F rm ke hF st f => by
  refine wpAny_While ?_
  refine codeAny_mono (R := fun r s' => match r with | .ok fl => PostS c F env σ s N R fl s' | .error _ => False) ?_ (fun r s' h => by cases r with
    | ok fl => exact h
    | error e => exact h.elim)
  refine codeAny_whileLoop (fun n s' => PostN c F env σ s.heap (Iv n) s') ?_ n ⟨B, σ, .of hF st f st (.refl _ _), h0⟩
  rintro n s' ⟨B', σ', fp, hi⟩
  refine nope_elim (wpAny_mono (h n B' σ' hi A s' env F rm ke hF fp.st fp.frm) (fun b s₂ h₂ => ?_) fun J J z => z)
  obtain ⟨σ₂, st₂, ev, h1, h2⟩ := h₂
  have fp₂ : FrmPost c F env σ s.heap B' σ₂ s₂ := fp.trans hF (.of hF fp.st fp.frm st₂ ev)
  cases b
  · rw [if_neg (by decide)]
    exact wpAny_execs_nil ⟨B', σ₂, fp₂, h2 rfl⟩
  · rw [if_pos rfl]
    refine nope_elim (wpAny_mono (h1 rfl A s₂ env F rm ke hF st₂ fp₂.frm) (fun fl s₃ h₃ => ?_) fun J J z => z)
    cases fl with
    | next =>
      obtain ⟨B₃, σ₃, f₃, m, hm, hv⟩ := h₃
      exact ⟨m, hm, B₃, σ₃, fp₂.trans hF f₃, hv⟩
    | ret v =>
      obtain ⟨y, B₃, σ₃, f₃, r, hv⟩ := h₃
      exact ⟨y, B₃, σ₃, fp₂.trans hF f₃, r, hv⟩
    | brk => exact h₃.elim
    | cont => exact h₃.elim

/- The head of a text. -/
noncomputable def headS (x : Str) (n : Int) : Str := if ((slicePicked x none (some (n, 0)) none).length == x.length) = true then x else ⟨((slicePicked x none (some (n, 0)) none).filterMap (x.cps[·]?)).toArray⟩
theorem EvalP.headS {e : Expr} {n : Int} {x : Str} {k : Nat} {p p' pos : Pos} (y : Str) (h : EvalP c d sc B σ e fun z σ₁ => z = S' x ∧ Q (S' y) σ₁) (hy : autoParam ((Mine.headS x n == y) = true) trT) (hyl : autoParam (y.length ≤ 100) krT)
    (ht : ∀ o r, letTemporaryGo e o r = pure () := by intro J J; rfl) : EvalP c d sc B σ (.Subscript e (.Slice Option.none (some (.Constant (.int n) k p)) Option.none p') pos) Q := fun A s env F rm ke hF st f => by
  refine wpAny_Subscript_str_slice (wpAny_mono (h A s env F rm ke hF st f) (fun v s₁ h₁ => ?_) fun J J z => z) ht
  obtain ⟨z, σ₁, st₁, ev, r, rfl, hq⟩ := h₁
  obtain ⟨t, rfl⟩ := rp_str' r
  rw [evalPart_none]
  refine wpAny_pure ?_
  rw [evalPart_some]
  refine wpAny_Constant_int ?_
  refine ⟨x, t, Option.none, some (n, s₁.toks), rfl, rfl, rfl, ?_⟩
  have hy' : Mine.headS x n = y := eq_of_beq hy
  have kp : ∀ a o, s₁.heap.get? a = some o → (s₁.heap.push { cls := .type "slice", data := .fields #[.none, .int n s₁.toks, .none] }).get? a = some o := fun a o e => Heap.get?_push_of_some _ e
  unfold sliceMade
  have e1 : ((Option.none : Option (Int × Tok)).map (·.1)).getD 1 = 1 := rfl
  have e2 : slicePicked x Option.none (some (n, s₁.toks)) Option.none = slicePicked x Option.none (some (n, 0)) Option.none := rfl
  rw [e1, e2]
  have e3 : ((1 : Int) == 1) = true := by decide
  rw [e3, Bool.true_and]
  unfold Mine.headS at hy'
  split
  · rename_i hc
    rw [if_pos hc] at hy'
    subst hy'
    exact .trans ev ⟨_, σ₁, st₁.on kp, .on σ₁ kp, rp_str, hq⟩
  · rename_i hc
    rw [if_neg hc] at hy'
    rw [hy']
    exact ⟨Nat.le_trans hyl (by decide), .trans ev ⟨_, σ₁, st₁.on kp, .on σ₁ kp, rp_str, hq⟩⟩

theorem filterMap_range (vs : Array Value) : ∀ m, m ≤ vs.size → (List.range m).filterMap (fun i => vs[i]?) = vs.toList.take m
  | 0, _ => by simp
  | m + 1, h => by
    have hm : m < vs.size := h
    rw [List.range_succ, List.filterMap_append, filterMap_range vs m (by lia), List.take_succ]
    congr 1
    simp [List.filterMap, hm]
theorem slicePick_take (vs : Array Value) (n : Nat) : (slicePick vs Option.none (some (n : Int)) Option.none).toList = vs.toList.take n := by
  have e : sliceBounds Option.none (some (n : Int)) Option.none vs.size = (0, ((min n vs.size : Nat) : Int), 1) := by
    unfold sliceBounds
    have h1 : ¬ (n : Int) < 0 := by lia
    simp only [Option.getD_none, h1, if_false]
    refine Prod.ext rfl (Prod.ext ?_ rfl)
    show (if (1 : Int) > 0 then max 0 (min (n : Int) vs.size) else max (-1) (min (n : Int) ((vs.size : Int) - 1))) = ((min n vs.size : Nat) : Int)
    rw [if_pos (by decide)]
    omega
  unfold slicePick
  rw [e]
  have e2 : sliceRange 0 ((min n vs.size : Nat) : Int) 1 = List.range (min n vs.size) := by
    unfold sliceRange
    dsimp only
    rw [if_pos (by decide)]
    have hc : (if (0 : Int) < ((min n vs.size : Nat) : Int) then (((min n vs.size : Nat) : Int) - 0 + 1 - 1) / 1 else 0) = ((min n vs.size : Nat) : Int) := by
      split <;> lia
    rw [hc, Int.toNat_natCast]
    conv => rhs; rw [← List.map_id (List.range (min n vs.size))]
    refine List.map_congr_left fun k J => ?_
    show (0 + 1 * (k : Int)).toNat = k
    lia
  dsimp only
  rw [e2]
  show (List.filterMap (fun i => vs[i]?) _) = _
  rw [filterMap_range vs _ (Nat.min_le_right _ _)]
  by_cases hn : n ≤ vs.size
  · rw [Nat.min_eq_left hn]
  · rw [Nat.min_eq_right (by lia), List.take_of_length_le (by simp), List.take_of_length_le (by simp; lia)]

theorem readsAll_take {h : Heap} {vs : List Value} {ds : List PyData} {as : List Addr} (n : Nat) (r : RdAll h vs ds as) : ∃ bs, RdAll h (vs.take n) (ds.take n) bs ∧ ∀ a ∈ bs, a ∈ as :=
  RdAll.rec (motive_1 := fun J J J J => True) (motive_2 := fun vs ds as J => ∀ n, ∃ bs, RdAll h (vs.take n) (ds.take n) bs ∧ ∀ a ∈ bs, a ∈ as) trivial (fun J => trivial) (fun J J => trivial) (fun J J => trivial) (fun J J J J J J => trivial) (fun J J J J J J => trivial)
    (fun n => ⟨[], by simpa using RdAll.nil, fun J m => m⟩) (fun r J J ih n => by
      cases n with
      | zero => exact ⟨[], by simpa using RdAll.nil, fun J m => nomatch m⟩
      | succ n =>
        obtain ⟨bs, q, z⟩ := ih n
        exact ⟨_, .cons r q, fun a m => (List.mem_append.mp m).elim (fun m => List.mem_append_left _ m) fun m => List.mem_append_right _ (z a m)⟩) r n
theorem EvalP.headL {e : Expr} {n : Nat} {xs : List PyData} {k : Nat} {p p' pos : Pos} (hz : xs.length ≤ 1000000) (h : EvalP c d sc B σ e fun z σ₁ => z = Li xs ∧ Q (Li (xs.take n)) σ₁)
    (ht : ∀ o r, letTemporaryGo e o r = pure () := by intro J J; rfl) : EvalP c d sc B σ (.Subscript e (.Slice Option.none (some (.Constant (.int (n : Int)) k p)) Option.none p') pos) Q := fun A s env F rm ke hF st f => by
  refine wpAny_Subscript_list_slice (wpAny_mono (h A s env F rm ke hF st f) (fun v s₁ h₁ => ?_) fun J J z => z) ht
  obtain ⟨z, σ₁, st₁, ev, r, rfl, hq⟩ := h₁
  obtain ⟨as, r, na⟩ := r
  cases r with
  | @list a o vs m _ as' h1 h2 h3 h4 h5 =>
  have hl := PySem.SeqAt.ReadsAll.length _ _ _ h4.reads
  rw [Array.length_toList] at hl
  rw [evalPart_none]
  refine wpAny_pure ?_
  rw [evalPart_some]
  refine wpAny_Constant_int ⟨a, vs, Option.none, some (n : Int), rfl, ⟨_, h1, h2, _, h3⟩, by rw [hl]; exact Nat.le_trans hz (by decide), .none, .int _ _, ?_⟩
  have e : (slicePick vs Option.none (some (n : Int)) Option.none).toList = vs.toList.take n := slicePick_take vs n
  obtain ⟨bs, q, z⟩ := readsAll_take n h4
  have kp : ∀ ob ob' a o, s₁.heap.get? a = some o → ((s₁.heap.push ob).push ob').get? a = some o := fun ob ob' a o e => Heap.get?_push_of_some _ (Heap.get?_push_of_some _ e)
  refine .trans ev ⟨Li (xs.take n), σ₁, st₁.on (kp _ _), .on σ₁ (kp _ _), ⟨_, .list (by rw [← Heap.size_push s₁.heap]; exact Heap.get?_push_size _ rfl) rfl rfl (as := bs) ?_ rfl, fun b m => ?_⟩, hq⟩
  · rw [e]
    exact rdAll_stays ⟨fun a o e J => kp _ _ a o e, fun J m => .inl m⟩ q (S := F ++ own σ₁) (S' := F ++ own σ₁) fun b m => na b (.tail _ (z b m))
  · rcases List.mem_cons.mp m with rfl | m
    · intro q
      have : ∃ o, s₁.heap.get? (s₁.heap.objs.size + 1) = some o := by
        rcases List.mem_append.mp q with q | q
        · obtain ⟨o, e, J⟩ := st₁.live _ q; exact ⟨o, e⟩
        · obtain ⟨o, e, J⟩ := st₁.owned q; exact ⟨o, e⟩
      obtain ⟨o, e⟩ := this
      exact absurd (Heap.lt_size e) (Nat.not_lt.mpr (Nat.le_succ _))
    · exact na b (.tail _ (z b m))
end
-- Dct1
section
open Sem (wp)

theorem tuple_no_keys : typeLookup (.type "tuple") "keys" = pure none := by rw [typeLookup_type, builtinLookup_eq_fast]; kernel_rfl
theorem keys_plain : (["__module__", "__name__", "__qualname__", "__doc__", "__annotations__"] : List Str).contains ("keys" : Str) = false := by decide +kernel

theorem getAttrQ_miss {prog : Program} {w : World} {A : Around} {E : Value → Shared → Prop} {s : Shared} {a : Addr} {xs : Array Value} {k : Nat} {sl : Array (Option Value)} {Q : Option Value → Shared → Prop}
    (hx : s.heap.get? a = some { cls := .type "tuple", dict := none, data := .seq xs k, slots := sl }) (hA : A.handled = none)
    (h : ∀ h' tk, (∀ b o, s.heap.get? b = some o → h'.get? b = some o) → Q none { s with heap := h', toks := tk }) :
    wpAny (model prog w) A (getAttr? (.ref a) "keys") Q E s := by
  obtain ⟨hp, g, d, tk, os⟩ := s
  have hT : ∀ tk', (⟨hp, g, d, tk', os⟩ : Shared).TypeIs (.ref a) "tuple" := fun J => ⟨_, hx, rfl⟩
  have f1 := sub_AttributeError
  have f3 := F.slot_tuple_getattribute.lookup
  have f4 := F.slot_tuple_getattribute.bind (.ref a)
  have f5 := am_tuple_getattr_none
  unfold getAttr? getAttrBy? getAttrBy
  repeat (any_goals (first | assumption | exact hT _ | ((with_reducible show wpAny _ _ (call (Value.builtin "tuple.__getattribute__") _ _) _ _ _); refine call_meets F.slot_tuple_getattribute (hT _) am_entry_tuple_getattribute (F.args_tuple_getattribute_2 _ _) (meets_getattribute_miss_tuple a xs k sl "keys" _ tuple_no_keys keys_plain (by decide)) ⟨hx, hA, fun h' tk' e hx' => ?_⟩) | wp_step))
  obtain ⟨t', u', he⟩ := hx'.there
  show wpAny _ _ (getattributeRaised _ _ _ _ _ _ _) _ _ _
  unfold getattributeRaised
  have key : ∀ tk'', (⟨h', g, d, tk'', os⟩ : Shared).TypeIs (.ref e) "AttributeError" := fun J => ⟨_, he, rfl⟩
  repeat (any_goals (first | assumption | exact key _ | wp_step))
  exact h _ _ hx'.of.keeps

theorem plain_upd_loop : plainId "dict.update.loop" = true := by decide +kernel
theorem entry_upd_loop : entryFor table "dict.update.loop" = some Builtin.«dict.update.loop» := entryFor_of_tree (by kernel_rfl)

section
variable {c : Cx} {d : Nat} {σ : Sg} {Q : AV → Sg → Prop}

inductive PairV (K : Addr → Obj → Prop) (v : Value) (p : Int × Int) : Prop
  | mk (a : Addr) (o : Obj) (t u : Tok) (m : Nat) : v = .ref a → K a o → o.cls = .type "tuple" → o.data = .seq #[.int p.1 t, .int p.2 u] m → PairV K v p
inductive DInts (c : Cx) (h : Heap) (D : Addr) (l : List (Int × Int)) (i : Nat) : Prop
  | mk (kvs : List (Int × Value)) : h.DictOf (intKind c.prog c.w) D kvs → Pr2 (fun v (i : Int) => ∃ t, v = .int i t) kvs l → kvs.length ≤ i → DInts c h D l i
theorem dictOf_at {c : Cx} {h h' : Heap} {D : Addr} {kvs : List (Int × Value)} (x : h.DictOf (intKind c.prog c.w) D kvs) (k : ∀ o, h.get? D = some o → h'.get? D = some o) : h'.DictOf (intKind c.prog c.w) D kvs := by
  obtain ⟨o, es, ep, e, r⟩ := x; exact ⟨o, es, ep, k o e, r⟩
/- The rest of the pairs is put into the dict. -/
theorem upd_loop {A : Around} {I D : Addr} {fp : List Addr} {n : Nat} {P : Nat → Value → Prop} {X : Nat → Heap → Prop} (W : Walks c.prog c.w A.in1 I fp [I] n P X) (ps : List (Int × Int)) (hn : n = ps.length) (hz : ps.length ≤ 100000)
    (K : Addr → Obj → Prop) (hP : ∀ i v, P i v → ∃ p, ps[i]? = some p ∧ PairV K v p) (hDI : D ≠ I) (hDf : D ∉ fp)
    (hD0 : ∀ o, ¬ K D o) (hI0 : ∀ o, ¬ K I o) (rest : Value) (R : Result → Shared → Prop) : ∀ (k i : Nat) (s : Shared) (tk : Tok), n - i = k → i ≤ n → X i s.heap → (∀ a o, K a o → s.heap.get? a = some o) →
    DInts c s.heap D ((ps.take i).foldl (fun acc p => put acc p.1 p.2) []) i →
    (∀ h' tk', (∀ a o, K a o → h'.get? a = some o) → DInts c h' D (ps.foldl (fun acc p => put acc p.1 p.2) []) n → R (.ok (.ret rest)) { s with heap := h', toks := tk' }) →
    codeAny (model c.prog c.w) A (.builtin "dict.update.loop" ⟨[.ref D, .ref I, .int i tk, rest], []⟩) R s := by
  intro k
  induction k with
  | zero =>
    intro i s tk hk hi hX h0 hD hR
    have hin : i = n := by lia
    refine codeAny_builtin entry_upd_loop ?_
    rw [Around.under_plainId plain_upd_loop _]
    show wpAny _ A.in1 (pyNext (.ref I) >>= _) _ _ s
    rw [hin] at hX
    refine wpAny_bind (W.done s _ _ hX fun h' tk' hk' => ?_)
    show wpAny _ _ (Builtin.Dict.addKeywords D [] >>= fun J => ret rest) _ _ _
    refine wpAny_bind (wpAny_pure (wpAny_pure (hR h' tk' (fun a o e => hk' a o (fun m => hI0 o (List.mem_singleton.mp m ▸ e)) (h0 a o e)) ?_)))
    obtain ⟨kvs, hd, hp, hl⟩ := hD
    rw [hin, hn, List.take_length] at hp
    exact ⟨kvs, dictOf_at hd fun o => hk' _ o (one_of hDI), hp, Nat.le_trans hl hi⟩
  | succ k ih =>
    intro i s tk hk hi hX h0 hD hR
    have hlt : i < n := by lia
    refine codeAny_builtin entry_upd_loop ?_
    rw [Around.under_plainId plain_upd_loop _]
    show wpAny _ A.in1 (pyNext (.ref I) >>= _) _ _ s
    refine wpAny_bind (W.item i s _ _ hlt hX fun v h' tk' hPv hX' hk' => ?_)
    obtain ⟨p, hp, a, o, t, u, m, rfl, ho, hc, hdat⟩ := hP i v hPv
    have h0' : ∀ a o, K a o → h'.get? a = some o := fun a o e => hk' a o (fun m => hI0 o (List.mem_singleton.mp m ▸ e)) (h0 a o e)
    obtain ⟨kvs, hd, hpr, hlen⟩ := hD
    have hd' : h'.DictOf (intKind c.prog c.w) D kvs := dictOf_at hd fun o => hk' _ o (one_of hDI)
    refine wpAny_bind (wpAny_holding ?_)
    have hT : (⟨h', s.gens, s.drawn, tk', s.os⟩ : Shared).TypeIs (.ref a) "tuple" := ⟨o, h0' _ _ ho, hc⟩
    refine wpAny_bind (wpAny_tryCatch ?_)
    unfold Builtin.Dict.pairItems
    refine wpAny_bind (wpAny_typeOf hT ?_)
    rw [if_pos (by decide)]
    refine wpAny_bind ?_
    refine wpAny_seqItems (h0' _ _ ho) hdat ?_
    refine wpAny_pure ?_
    show wpAny _ _ (holding [.int p.1 t, .int p.2 u] (dictSet D (.int p.1 t) (.int p.2 u))) _ _ _
    refine wpAny_holding (wpAny_dictSet_pairs (intKind_is c.prog c.w p.1 t) hd' (fun h'' hd'' hs => ?_) (Nat.le_trans hlen (Nat.le_trans hi (by rw [hn]; exact Nat.le_trans hz (by decide)))))
    have h0'' : ∀ a o, K a o → h''.get? a = some o := fun a o e => (hs.2 a (fun z => hD0 o (z ▸ e))).trans (h0' a o e)
    refine wpAny_pure ⟨plainId_quiet plain_upd_loop _, ?_⟩
    have e1 : ((i : Int) + 1) = ((i + 1 : Nat) : Int) := by lia
    have : rawInt ((i : Int) + 1) = .int ((i + 1 : Nat) : Int) 0 := by rw [← e1]; rfl
    rw [this]
    refine ih (i + 1) _ _ (by lia) hlt ?_ h0'' ⟨_, hd'', ?_, ?_⟩ ?_
    · exact W.frame _ _ _ hX' fun b hb o e => (hs.2 b (fun z => hDf (z ▸ hb))).trans e
    · have hi' : i < ps.length := by lia
      have e2 : p = ps[i] := by rw [List.getElem?_eq_getElem hi'] at hp; exact (Option.some.inj hp).symm
      rw [List.take_succ, hp, Option.toList_some, List.foldl_append, stored_put]
      exact hpr.put ⟨u, rfl⟩
    · unfold stored
      split
      · rw [List.length_map]; lia
      · rw [List.length_append]; simp; lia
    · exact fun h3 tk3 a b => hR h3 tk3 a b

theorem pr2_ints {h S} : ∀ {a : List (Int × Value)} {b : List (Int × Int)}, Pr2 (fun v (i : Int) => ∃ t, v = .int i t) a b → Pr2 (fun v x => Rp c h S x v) a (b.map fun p => (p.1, Mine.I p.2)) := by
  intro a
  induction a with
  | nil => intro b q; cases b with | nil => trivial | cons _ _ => exact q.elim
  | cons x a ih =>
    intro b q
    cases b with
    | nil => exact q.elim
    | cons y b => exact ⟨q.1, q.2.1.elim fun t e => e ▸ rp_int, ih q.2.2⟩
theorem CallP.dictT {ps : List (Int × Int)} (hz : ps.length ≤ 100000) (h : ∀ a, a ∉ own σ → Q (.ref a) ((a, .dI ((ps.foldl (fun acc p => put acc p.1 p.2) []).map fun p => (p.1, I p.2))) :: σ)) : CallP c (d + 2) (.val (.type "dict")) [Tu (prD ps)] σ Q := .two fun A s F v w rm st r r' => by
  cases (show v = _ from r)
  have r0 := r'
  obtain ⟨as, r', na⟩ := r'
  obtain ⟨t, o, vs, m, rfl, h1, h2, h3, h4, h5⟩ := rd_tup r'
  obtain ⟨cls, dd, data, sl⟩ := o
  simp only at h2 h3 h5
  subst h2 h3 h5
  obtain ⟨n, st₁, ev⟩ := st_own (tk := s.toks) (ob := .dI []) st (o := { cls := .type "dict", data := .dict #[] }) (.inr (.inl ⟨_, _, rfl⟩)) rfl fun S' => ⟨[], Heap.DictOf.new _, trivial⟩
  have hD : (s.heap.push { cls := .type "dict", data := .dict #[] }).get? s.heap.objs.size = some { cls := .type "dict", data := .dict #[] } := Heap.get?_push_size _ rfl
  generalize hDe : s.heap.objs.size = D at n st₁ ev hD
  generalize hhe : s.heap.push { cls := .type "dict", data := .dict #[] } = hp₁ at st₁ ev hD
  refine callType_codes (Q₁ := fun obj s₁ => obj = .ref D ∧ s₁ = { s with heap := hp₁ }) PySem.F.kt_called_dict (PySem.F.kt_typeCall_dict_1 _) PySem.F.entry_dict_init (kt_code_dict_new _ ⟨by rw [hDe], by rw [hhe]⟩) ?_
  rintro obj s₁ ⟨rfl, rfl⟩
  have hTD : (⟨hp₁, s.gens, s.drawn, s.toks, s.os⟩ : Shared).TypeIs (.ref D) "dict" := ⟨_, hD, rfl⟩
  refine ⟨hTD, PySem.F.args_dict_init_2 _ _, ?_⟩
  unfold Builtin.«dict.__init__»
  refine wpAny_bind ?_
  unfold Builtin.Dict.selfAndRest
  refine wpAny_bind (wpAny_notOrdered_dict hTD ?_)
  show wpAny _ _ (pure (D, [Value.ref t])) _ _ _
  refine wpAny_pure ?_
  show wpAny _ _ (Builtin.Dict.updateFrom "dict.__init__" D (.ref t) [] .none) _ _ _
  have h1' : hp₁.get? t = some { cls := .type "tuple", dict := none, data := .seq vs m, slots := sl } := ev.keep _ _ h1 fun q => notMut_tuple rfl rfl (st.mutOf (List.mem_append_right _ q) h1)
  have hTt : (⟨hp₁, s.gens, s.drawn, s.toks, s.os⟩ : Shared).TypeIs (.ref t) "tuple" := ⟨_, h1', rfl⟩
  unfold Builtin.Dict.updateFrom
  refine wpAny_bind (wpAny_typeOf hTt ?_)
  rw [if_pos (by decide)]
  refine wpAny_bind (getAttrQ_miss (s := { s with heap := hp₁ }) h1' rm.handled fun h' tk' kp => ?_)
  have st₂ := st₁.on (tk := tk') kp
  have ev₂ := ev.trans (Evo.on _ kp)
  have r₂ : Rp c h' (F ++ own ((D, OB.dI []) :: σ)) (Tu (prD ps)) (.ref t) := r0.stays (st.stays ev₂)
  show wpAny _ _ (if (Option.none : Option Value).isNone = true then _ else _) _ _ _
  rw [if_pos (show (Option.none : Option Value).isNone = true from rfl)]
  refine wpAny_bind (wpAny_rule (wpAny_bind ?_))
  have hitems : ((prD ps).map AV.dat).length = ps.length := by simp [prD]
  refine nope_elim ((IterP.tuple (c := c) (d := d) (σ := (D, OB.dI []) :: σ) (ds := prD ps)).use (A := A.in1.in1) (s := ⟨h', s.gens, s.drawn, tk', s.os⟩) rm.in1.in1 st₂ r₂ fun I h₃ tk₃ fp P X a1 a2 a3 a4 a5 a6 a7 => ?_)
  have hD' : h'.get? D = some { cls := .type "dict", data := .dict #[] } := kp _ _ hD
  have hDI : D ≠ I := fun e => nsn (e ▸ hD') a1
  have hDo : D ∈ own ((D, OB.dI []) :: σ) := .head _
  refine wpAny_pure ⟨plainId_quiet plain_upd_loop _, ?_⟩
  refine upd_loop (A := A.in1) a3 ps hitems hz (fun a o => h₃.get? a = some o ∧ a ≠ D ∧ a ≠ I) (fun i v hv => ?_) hDI (fun q => (a5 D q).2 hDI (List.mem_append_right _ hDo)) (fun o z => z.2.1 rfl) (fun o z => z.2.2 rfl) .none _ ps.length 0 _ 0 (by lia) (Nat.zero_le _) a4 (fun a o z => z.1) ⟨[], ?_, trivial, Nat.le_refl _⟩ fun h₄ tk₄ kk hd => ?_
  · obtain ⟨y, e, ry⟩ := a7 i v hv
    simp only [prD, List.map_map, List.getElem?_map, Option.map_eq_some_iff] at e
    obtain ⟨p, hp, rfl⟩ := e
    obtain ⟨bs, ry, J⟩ := ry
    obtain ⟨b, o, us, m', rfl, g1, g2, g3, g4, g5⟩ := rd_tup ry
    obtain ⟨t', u', e⟩ := rdAll_ints2 g4
    have e : us = #[.int p.1 t', .int p.2 u'] := Array.toList_inj.mp e
    subst e
    refine ⟨p, hp, b, o, t', u', m', rfl, ⟨g1, fun z => ?_, fun z => ?_⟩, g2, g3⟩
    · rw [get_inj g1 z (a2 _ _ hD')] at g3; cases g3
    · obtain ⟨o', z1, z2⟩ := a6
      exact notMut_tuple g2 g3 (get_inj g1 z z1 ▸ z2)
  · exact ⟨_, #[], 0, a2 _ _ (kp _ _ hD), ⟨rfl, rfl, rfl⟩, rfl, fun J he => by simp at he, .nil, List.nodup_nil⟩
  · refine ⟨rfl, Post.trans (s₁ := ⟨h', s.gens, s.drawn, tk', s.os⟩) ev₂ ?_⟩
    have hu : upd ((D, OB.dI []) :: σ) D (.dI ((ps.foldl (fun acc p => put acc p.1 p.2) []).map fun p => (p.1, Mine.I p.2))) = (D, .dI ((ps.foldl (fun acc p => put acc p.1 p.2) []).map fun p => (p.1, Mine.I p.2))) :: σ := by
      unfold upd
      rw [List.map_cons, if_pos rfl]
      congr 1
      conv => rhs; rw [← List.map_id σ]
      refine List.map_congr_left fun p hp => ?_
      have : p.1 ≠ D := fun e => n (by rw [← e]; exact List.mem_map.mpr ⟨p, hp, rfl⟩)
      rw [if_neg this]; rfl
    have hq := h D n
    rw [← hu] at hq
    refine post_set (x := .ref D) st₂ hDo (fun b o nb e => kk b o ⟨a2 b o e, nb, fun z => nsn (z ▸ e) a1⟩) (fun sty => ?_) rfl hq
    obtain ⟨kvs, hd, hp, J⟩ := hd
    refine (show Holds c h₄ _ D (.dI _) from ⟨kvs, hd, ?_⟩)
    exact pr2_ints hp
end
end
-- Srt1

section
variable {c : Cx} {d : Nat} {σ : Sg} {Q : AV → Sg → Prop}

theorem rdAll_of_ints {h : Heap} {vs : List Value} {ns : List Int} (q : IntsAre vs ns) : RdAll h vs (ns.map PyData.int) [] := by
  induction q with
  | nil => exact .nil
  | cons n t J ih =>
    have := RdAll.cons (Rd.int (h := h) n t) ih
    rwa [List.append_nil] at this

/- What is collected is sorted into a new list. -/
theorem sorted_src {T : String} {r dd : Addr} {n : Nat} {P : Nat → Value → Prop} {OK : Heap → Prop} (K : KdlSrc c.prog c.w T r dd n P OK) {ns : List Int} (hn : ns.length = n) (hP : ∀ i v, P i v → ∃ t, v = .int (ns.getD i 0) t) (h64 : n < 64)
    {A : Around} {s : Shared} {F : List Addr} (hh : A.handled = none) (hok : OK s.heap) (st : St c F σ s) (h : ∀ ms : List Int, ms.Perm ns → ms.Pairwise (· ≤ ·) → Q (Li (ms.map .int)) σ) :
    wpAny c.M A (call (.builtin "sorted") [.ref r]) (Post c F σ s Q) nope s := by
  refine Calls.call_function_entry kind_sorted plain_sorted entry_sorted (args_sorted1 _) ?_
  unfold Builtin.«sorted»
  refine wpAny_bind (m := checkCount "sorted" 1 1 _) (wpAny_pure ?_)
  have hz : n ≤ sizeLine := Nat.le_trans (Nat.le_of_lt h64) (by decide)
  refine wpAny_bind (kdu_collect (A := A.in1) K hh hok hz fun h' tk acc kp hacc => ?_)
  have hl : acc.toList.length = n := by rw [Array.length_toList]; exact hacc.1
  have hI : IntsAre acc.toList ns := by
    have key : ∀ (vs : List Value) (ms : List Int), vs.length = ms.length → (∀ (i : Nat) (v : Value), vs[i]? = some v → ∃ t : Tok, v = Value.int (ms.getD i 0) t) → IntsAre vs ms := by
      intro vs
      induction vs with
      | nil => intro ms e J; cases ms with | nil => exact .nil | cons _ _ => cases e
      | cons v vs ih =>
        intro ms e hv
        cases ms with
        | nil => cases e
        | cons m ms =>
          obtain ⟨t, rfl⟩ := hv 0 v rfl
          exact .cons m t (ih ms (by simpa using e) fun i v q => hv (i + 1) v q)
    exact key _ _ (hl.trans hn.symm) fun i v e => hP i v (hacc.2 i v (by rw [← Array.getElem?_toList]; exact e))
  refine wpAny_bind (wpAny_newList ?_ (by rw [hl]; exact hz))
  have hoL : (h'.push { cls := .type "list", data := .seq acc.toList.toArray }).get? h'.objs.size = some (seqObj "list" acc.toList.toArray 0) := Heap.get?_push_size _ rfl
  refine wpAny_bind (wpAny_holding (wpAny_call_entry slot_list_sort ⟨_, hoL, rfl⟩ entry_list_sort (list_sort_tree hoL hI (by rw [hl]; exact h64) fun out ms a1 a2 a3 => ⟨_, rfl, ?_⟩) (args_list_sort _)))
  refine wpAny_pure ⟨_, rfl, ?_⟩
  have nF := fresh_notin st
  have kpA : ∀ b o, s.heap.get? b = some o → b ≠ h'.objs.size ∧ (h'.push { cls := .type "list", data := .seq acc.toList.toArray }).get? b = some o := fun b o e => ⟨fun z => by
    have := Heap.lt_size (kp b o e)
    rw [z] at this; exact Nat.lt_irrefl _ this, Heap.get?_push_of_some _ (kp b o e)⟩
  have kpB : ∀ b o, s.heap.get? b = some o → (sortedHeap (h'.push { cls := .type "list", data := .seq acc.toList.toArray }) h'.objs.size acc.toList out).get? b = some o := fun b o e => by
    obtain ⟨e1, e2⟩ := kpA b o e
    unfold sortedHeap
    refine (Heap.get?_update_other _ _ (Ne.symm e1)).trans ?_
    refine Heap.get?_push_of_some _ (Heap.get?_push_of_some _ ?_)
    exact (Heap.get?_update_other _ _ (Ne.symm e1)).trans e2
  obtain ⟨k, hr⟩ : ∃ k, (sortedHeap (h'.push { cls := .type "list", data := .seq acc.toList.toArray }) h'.objs.size acc.toList out).get? h'.objs.size = some (seqObj "list" out k) := by
    unfold sortedHeap
    exact ⟨_, get?_update_seq (Heap.get?_push_of_some _ (Heap.get?_push_of_some _ (get?_update_seq hoL fun J => #[]))) fun J => out⟩
  refine ⟨Li (ms.map .int), σ, st.on kpB, .on σ kpB, ⟨[h'.objs.size], .list hr rfl rfl (rdAll_of_ints a1) rfl, fun b m q => ?_⟩, h ms a2 a3⟩
  rw [List.mem_singleton.mp m] at q
  have : ∃ o, s.heap.get? h'.objs.size = some o := by
    rcases List.mem_append.mp q with q | q
    · obtain ⟨o, e, J⟩ := st.live _ q; exact ⟨o, e⟩
    · obtain ⟨o, e, J⟩ := st.owned q; exact ⟨o, e⟩
  obtain ⟨o, e⟩ := this
  exact (kpA _ o e).1 rfl

theorem CallP.sortedD {a : Addr} {kvs : List (Int × AV)} (T : ∃ o, c.h0.get? sysModules = some o) (m : (a, OB.dI kvs) ∈ σ) (hz : kvs.length < 64) (h : ∀ ms : List Int, ms.Perm (kvs.map (·.1)) → ms.Pairwise (· ≤ ·) → Q (Li (ms.map .int)) σ) : CallP c d (.val (.builtin "sorted")) [.ref a] σ Q := .two fun A s F v w rm st r r' => by
  cases (show v = _ from r); cases (show w = _ from r')
  obtain ⟨ps, hd, hp⟩ := st.at_ m
  obtain ⟨ep, hat⟩ := hd.dictAt
  have hlen := hp.len
  have keys : ∀ {ps : List (Int × Value)} {kvs : List (Int × AV)}, Pr2 (fun v x => Rp c s.heap (F ++ own σ) x v) ps kvs → ps.map (·.1) = kvs.map (·.1) := by
    intro ps
    induction ps with
    | nil => intro kvs q; cases kvs with | nil => rfl | cons _ _ => exact q.elim
    | cons x ps ih =>
      intro kvs q
      cases kvs with
      | nil => exact q.elim
      | cons y kvs =>
        obtain ⟨k, v⟩ := x
        obtain ⟨k', x⟩ := y
        obtain ⟨e, J, q⟩ := q
        rw [List.map_cons, List.map_cons, ih q, e]
  refine sorted_src (kdl_dict (knd := intKind c.prog c.w) (kvs := ps) (ep := ep) (not_modules T st (mem_own m))) (ns := kvs.map (·.1)) (by rw [List.length_map, hlen]) (fun i v hv => ?_) (by rw [hlen]; exact hz) rm.handled hat st h
  obtain ⟨k, x, hx, hk⟩ := hv
  have e : (kvs.map (·.1))[i]? = some k := by rw [← keys hp, List.getElem?_map, hx]; rfl
  obtain ⟨t, rfl⟩ : ∃ t, v = .int k t := by
    have : v.isInt k = true := hk
    cases v <;> simp [Value.isInt] at this
    subst this; exact ⟨_, rfl⟩
  exact ⟨t, by rw [List.getD_eq_getElem?_getD, e]; rfl⟩
end
-- Base18

section
variable {c : Cx} {d : Nat} {sc : Scope} {B : Bs} {σ : Sg} {Q : AV → Sg → Prop} {N : Bs → Sg → Prop} {R : AV → Sg → Prop}

theorem FrmPost.cov {F env h B' B₀ σ' s'} (x : FrmPost c F env σ h B' σ' s') (y : Cov B' B₀) : FrmPost c F env σ h B₀ σ' s' := ⟨x.st, x.keep, x.new, x.frm.cov y⟩
theorem ExecsP.cov {B₀ : Bs} {sts : List Stmt} (y : Cov B B₀) (h : ExecsP c d sc B₀ σ sts N R) : ExecsP c d sc B σ sts N R := fun A s env F rm k hF st f => h A s env F rm k hF st (f.cov y)
theorem AsgP.cov {B₀ : Bs} {t : Expr} {x : AV} (y : Cov B B₀) (h : AsgP c d sc B₀ σ t x N) : AsgP c d sc B σ t x N := fun A s env F v rm k hF st f r => h A s env F v rm k hF st (f.cov y) r
theorem EvalP.cov {B₀ : Bs} {e : Expr} (y : Cov B B₀) (h : EvalP c d sc B₀ σ e Q) : EvalP c d sc B σ e Q := fun A s env F rm k hF st f => h A s env F rm k hF st (f.cov y)
theorem TestP.cov {B₀ : Bs} {e : Expr} {Q : Bool → Sg → Prop} (y : Cov B B₀) (h : TestP c d sc B₀ σ e Q) : TestP c d sc B σ e Q := fun A s env F rm k hF st f => h A s env F rm k hF st (f.cov y)
theorem PostS.covN {F env s fl s'} (h : PostS c F env σ s (fun B' σ' => ∃ B₀, Cov B' B₀ ∧ N B₀ σ') R fl s') : PostS c F env σ s N R fl s' := by
  cases fl with
  | next => obtain ⟨B', σ', f, B₀, y, n⟩ := h; exact ⟨B₀, σ', f.cov y, n⟩
  | ret v => exact h
  | brk => exact h
  | cont => exact h
theorem ExecP.covN {st : Stmt} (h : ExecP c d sc B σ st (fun B' σ' => ∃ B₀, Cov B' B₀ ∧ N B₀ σ') R) : ExecP c d sc B σ st N R := fun A s env F rm k hF sx f => wpAny_mono (h A s env F rm k hF sx f) (fun J J z => z.covN) fun J J z => z

/- A loop whose frame is told anew at each turn. -/
inductive CovI (B : Bs) (P : Bs → Prop) : Prop
  | mk (B₀ : Bs) : Cov B B₀ → P B₀ → CovI B P
noncomputable abbrev ForE (c : Cx) (d : Nat) (sc : Scope) (B : Bs) (σ : Sg) (x : AV) (target : Expr) (body : List Stmt) (N : Bs → Sg → Prop) (R : AV → Sg → Prop) : Prop :=
  IterI c d σ x (fun I0 => CovI B fun B₀ => I0 B₀ σ) (fun Iv i x B' σ' => AsgP c d sc B' σ' target x fun B₂ σ₂ => ExecsP c d sc B₂ σ₂ body (fun B₃ σ₃ => CovI B₃ fun B₀ => Iv (i + 1) B₀ σ₃) R) N
theorem ExecP.forC {target iter : Expr} {body : List Stmt} {pos}
    (h : EvalP c d sc B σ iter fun x σ₁ => ForE c d sc B σ₁ x target body N R)
    (hs : ∀ env x, foldedSetIterable iter env x = pure x := by intros; rfl) : ExecP c d sc B σ (.For target iter body [] pos) N R :=
  .covN (.for_ (h.mono fun x σ' q => by
    obtain ⟨items, Iv, h1, h2, h3, h4⟩ := q
    refine ⟨items, fun i B' σ' => CovI B' fun B₀ => Iv i B₀ σ', h1, h2, fun i x B' σ' e q => ?_, fun B' σ' q => ?_⟩
    · obtain ⟨B₀, y, z⟩ := q
      exact (h3 i x B₀ σ' e z).cov y
    · obtain ⟨B₀, y, z⟩ := q
      exact ⟨B₀, y, h4 _ _ z⟩) hs)
theorem ExecP.whileC {test : Expr} {body : List Stmt} {pos} (Iv : Nat → Bs → Sg → Prop) (n : Nat) (h0 : ∃ B₀, Cov B B₀ ∧ Iv n B₀ σ)
    (h : ∀ n B' σ', Iv n B' σ' → TestP c d sc B' σ' test fun b σ₁ => Br b (ExecsP c d sc B' σ₁ body (fun B₂ σ₂ => ∃ m, m < n ∧ ∃ B₀, Cov B₂ B₀ ∧ Iv m B₀ σ₂) R) (N B' σ₁)) :
    ExecP c d sc B σ (.While test body [] pos) N R := .covN (.while_ (fun n B' σ' => ∃ B₀, Cov B' B₀ ∧ Iv n B₀ σ') n h0 fun n B' σ' ⟨B₀, y, z⟩ => by
  refine TestP.cov y ?_
  refine (h n B₀ σ' z).mono fun b σ₁ ⟨h1, h2⟩ => ⟨fun e => (h1 e).cov y, fun e => ⟨B₀, y, h2 e⟩⟩)

theorem ext_updN {σ σ' : Sg} {a : Addr} {ob : OB} (x : Ext [] σ σ') (n : a ∉ own σ) : Ext [] σ (upd σ' a ob) := ⟨fun p m q => mem_upd_ne (x.keep p m q) fun e => n (by rw [← e]; exact List.mem_map.mpr ⟨p, m, rfl⟩), fun b m => by rw [own_upd]; exact x.own b m⟩
theorem AsgsP.consM {t : Expr} {ts : List Expr} {x : PyData} {xs : List PyData} (h : AsgP c d sc B σ t (.dat x) fun B₁ σ₁ => AsgsP c d sc B₁ σ₁ ts (xs.map .dat) N) : AsgsP c d sc B σ (t :: ts) ((x :: xs).map .dat) N := .cons h
theorem AsgsP.nilM (h : N B σ) : AsgsP c d sc B σ [] (([] : List PyData).map .dat) N := .nil h
theorem bi_dictT {ps : List (Int × Int)} (hz : ps.length ≤ 100000) (h : ∀ a, a ∉ own σ → Q (.ref a) ((a, .dI ((ps.foldl (fun acc p => put acc p.1 p.2) []).map fun p => (p.1, I p.2))) :: σ)) : CallP c (d + 2) (.val (biV "dict")) [Tu (prD ps)] σ Q := by rw [biV_dict]; exact .dictT hz h
theorem bi_sortedD {a : Addr} {kvs : List (Int × AV)} (T : ∃ o, c.h0.get? sysModules = some o) (m : (a, OB.dI kvs) ∈ σ) (hz : kvs.length < 64) (h : ∀ ms : List Int, ms.Perm (kvs.map (·.1)) → ms.Pairwise (· ≤ ·) → Q (Li (ms.map .int)) σ) : CallP c d (.val (biV "sorted")) [.ref a] σ Q := by rw [biV_sorted]; exact .sortedD T m hz h
theorem bi_tupleL {xs : List PyData} (hz : xs.length ≤ 1000000) (h : Q (Tu xs) σ) : CallP c d (.val (biV "tuple")) [Li xs] σ Q := by rw [biV_tuple]; exact .tupleL hz h
theorem bi_listL {xs : List PyData} (hz : xs.length ≤ 1000000) (h : Q (Li xs) σ) : CallP c d (.val (biV "list")) [Li xs] σ Q := by rw [biV_list]; exact .listL hz h
theorem bi_maxW {x : AV} {ns : List Int} (hit : IterP c d σ x (ns.map I)) (hn : ns ≠ []) (h : ∀ m, m ∈ ns → (∀ a ∈ ns, a ≤ m) → Q (I m) σ) : CallP c (d + 1) (.val (biV "max")) [x] σ Q := by rw [biV_max]; exact .maxW hit hn h
theorem bi_minW {x : AV} {ns : List Int} (hit : IterP c d σ x (ns.map I)) (hn : ns ≠ []) (h : ∀ m, m ∈ ns → (∀ a ∈ ns, m ≤ a) → Q (I m) σ) : CallP c (d + 1) (.val (biV "min")) [x] σ Q := by rw [biV_min]; exact .minW hit hn h
theorem bi_sumW {x : AV} {ns : List Int} {b : Nat} (hit : IterP c d σ x (ns.map I)) (hb : ∀ a ∈ ns, a.natAbs ≤ b) (hz : b * ns.length < 2 ^ 60) (h : Q (I ns.sum) σ) : CallP c (d + 1) (.val (biV "sum")) [x] σ Q := by rw [biV_sum]; exact .sumW hit hb hz h
end
-- Pl1

section
variable {β : Type}
theorem put_cons_ne {y x : Int} {b c : β} {r : List (Int × β)} (h : y ≠ x) : put ((y, b) :: r) x c = (y, b) :: put r x c := by
  unfold put
  have : decide (y = x) = false := by simpa using h
  simp only [List.any_cons, this, Bool.false_or, List.map_cons, if_neg h]
  split <;> rfl
theorem put_cons_eq {x : Int} {b c : β} {r : List (Int × β)} (h : x ∉ r.map (·.1)) : put ((x, b) :: r) x c = (x, c) :: r := by
  unfold put
  rw [if_pos (by simp)]
  rw [List.map_cons, if_pos rfl]
  congr 1
  conv => rhs; rw [← List.map_id r]
  refine List.map_congr_left fun p hp => ?_
  rw [if_neg (fun e => h (by rw [← e]; exact List.mem_map.mpr ⟨p, hp, rfl⟩))]; rfl
theorem put_nil {x : Int} {c : β} : put ([] : List (Int × β)) x c = [(x, c)] := by simp [put]
theorem at_nil {x : Int} : at? ([] : List (Int × β)) x = none := rfl
theorem at_cons_eq {x : Int} {b : β} {r : List (Int × β)} : at? ((x, b) :: r) x = some b := by simp [at?]
theorem at_cons_ne {x y : Int} {b : β} {r : List (Int × β)} (h : y ≠ x) : at? ((y, b) :: r) x = at? r x := by simp [at?, h]
theorem at_mem {x : Int} {b : β} : ∀ {r : List (Int × β)}, at? r x = some b → (x, b) ∈ r
  | [], h => by cases h
  | (y, a) :: r, h => by
    by_cases e : y = x
    · subst e; rw [at_cons_eq] at h; cases h; exact .head _
    · rw [at_cons_ne e] at h; exact .tail _ (at_mem h)
theorem at_of_mem {x : Int} {b : β} : ∀ {r : List (Int × β)}, (r.map (·.1)).Nodup → (x, b) ∈ r → at? r x = some b
  | [], _, h => by cases h
  | (y, a) :: r, hn, h => by
    obtain ⟨h1, h2⟩ := List.nodup_cons.mp hn
    rcases List.mem_cons.mp h with e | h
    · cases e; exact at_cons_eq
    · have : y ≠ x := fun e => h1 (e ▸ List.mem_map.mpr ⟨_, h, rfl⟩)
      rw [at_cons_ne this]; exact at_of_mem h2 h
theorem mem_put {x : Int} {c : β} : ∀ {r : List (Int × β)} {p : Int × β}, (r.map (·.1)).Nodup → p ∈ put r x c → p = (x, c) ∨ p ∈ r
  | [], p, _, h => by rw [put_nil] at h; exact .inl (List.mem_singleton.mp h)
  | (y, a) :: r, p, hn, h => by
    obtain ⟨h1, h2⟩ := List.nodup_cons.mp hn
    by_cases e : y = x
    · subst e
      rw [put_cons_eq h1] at h
      rcases List.mem_cons.mp h with h | h
      · exact .inl h
      · exact .inr (.tail _ h)
    · rw [put_cons_ne e] at h
      rcases List.mem_cons.mp h with h | h
      · exact .inr (h ▸ .head _)
      · rcases mem_put h2 h with h | h
        · exact .inl h
        · exact .inr (.tail _ h)
theorem nodup_put {x : Int} {c : β} : ∀ {r : List (Int × β)}, (r.map (·.1)).Nodup → ((put r x c).map (·.1)).Nodup
  | [], _ => by rw [put_nil]; simp
  | (y, a) :: r, hn => by
    obtain ⟨h1, h2⟩ := List.nodup_cons.mp hn
    by_cases e : y = x
    · subst e
      rw [put_cons_eq h1]; exact hn
    · rw [put_cons_ne e]
      refine List.nodup_cons.mpr ⟨fun m => ?_, nodup_put h2⟩
      obtain ⟨p, hp, e'⟩ := List.mem_map.mp m
      rcases mem_put h2 hp with rfl | hp
      · exact e e'.symm
      · exact h1 (List.mem_map.mpr ⟨p, hp, e'⟩)
theorem len_put {x : Int} {c : β} : ∀ {r : List (Int × β)}, (r.map (·.1)).Nodup → (put r x c).length ≤ r.length + 1
  | [], _ => by rw [put_nil]; simp
  | (y, a) :: r, hn => by
    obtain ⟨h1, h2⟩ := List.nodup_cons.mp hn
    by_cases e : y = x
    · subst e
      rw [put_cons_eq h1]; simp
    · rw [put_cons_ne e]
      have := len_put (c := c) (x := x) h2
      simp only [List.length_cons]; lia
end

/- What parts come to. -/
noncomputable def den (W : Int → Int) (ps : List (Int × Int)) : Int := (ps.map fun p => p.2 * W p.1).sum
theorem den_nil {W} : den W [] = 0 := rfl
theorem den_cons {W p ps} : den W (p :: ps) = p.2 * W p.1 + den W ps := by simp [den]
theorem den_append {W ps qs} : den W (ps ++ qs) = den W ps + den W qs := by simp [den]
theorem den_put {W : Int → Int} {x c : Int} : ∀ {r : List (Int × Int)}, (r.map (·.1)).Nodup → den W (put r x c) = den W r + (c - (at? r x).getD 0) * W x
  | [], _ => by rw [put_nil, at_nil, den_cons, den_nil]; simp
  | (y, a) :: r, hn => by
    obtain ⟨h1, h2⟩ := List.nodup_cons.mp hn
    by_cases e : y = x
    · subst e
      rw [put_cons_eq h1, at_cons_eq, den_cons, den_cons]
      show c * W y + den W r = a * W y + den W r + (c - a) * W y
      rw [Int.sub_mul]; lia
    · rw [put_cons_ne e, at_cons_ne e, den_cons, den_cons, den_put h2]
      lia
noncomputable def addP (f : Int) (acc : List (Int × Int)) (p : Int × Int) : List (Int × Int) := put acc p.1 ((at? acc p.1).getD 0 + f * p.2)
structure AddOK (f : Int) (D0 vs D : List (Int × Int)) : Prop where
  nodup : (D.map (·.1)).Nodup
  den : ∀ W, Mine.den W D = Mine.den W D0 + f * Mine.den W vs
  vars : ∀ p ∈ D, p.1 ∈ D0.map (·.1) ∨ p.1 ∈ vs.map (·.1)
  len : D.length ≤ D0.length + vs.length
  bd : ∀ K L : Nat, (∀ p ∈ D0, p.2.natAbs ≤ K) → (∀ p ∈ vs, p.2.natAbs ≤ L) → ∀ p ∈ D, p.2.natAbs ≤ K + f.natAbs * L * vs.length
theorem AddOK.nil {f D0} (h : (D0.map (·.1)).Nodup) : AddOK f D0 [] D0 := ⟨h, fun W => by rw [den_nil]; simp, fun p m => .inl (List.mem_map.mpr ⟨p, m, rfl⟩), by simp, fun K L h1 J p m => by have := h1 p m; simp; lia⟩
theorem AddOK.snoc {f : Int} {D0 vs D : List (Int × Int)} {q : Int × Int} (h : AddOK f D0 vs D) : AddOK f D0 (vs ++ [q]) (addP f D q) where
  nodup := nodup_put h.nodup
  den := fun W => by
    unfold addP
    rw [den_put h.nodup, h.den W, den_append, den_cons, den_nil]
    have e : (at? D q.1).getD 0 + f * q.2 - (at? D q.1).getD 0 = f * q.2 := by lia
    rw [e, Int.add_zero, Int.mul_add, Int.mul_assoc, Int.add_assoc]
  vars := fun p m => by
    rcases mem_put h.nodup m with rfl | m
    · exact .inr (by simp)
    · rcases h.vars p m with z | z
      · exact .inl z
      · exact .inr (by rw [List.map_append]; exact List.mem_append_left _ z)
  len := by
    have := len_put (x := q.1) (c := (at? D q.1).getD 0 + f * q.2) h.nodup
    have := h.len
    unfold addP
    rw [List.length_append, List.length_singleton]; lia
  bd := fun K L h1 h2 p m => by
    have hb := h.bd K L h1 fun p m => h2 p (List.mem_append_left _ m)
    have hq : q.2.natAbs ≤ L := h2 q (List.mem_append_right _ (.head _))
    rw [List.length_append, List.length_singleton, Nat.mul_succ]
    rcases mem_put h.nodup m with rfl | m
    · have h3 : ((at? D q.1).getD 0).natAbs ≤ K + f.natAbs * L * vs.length := by
        cases e : at? D q.1 with
        | none => simp
        | some b => exact hb _ (at_mem e)
      have h4 : (f * q.2).natAbs ≤ f.natAbs * L := by rw [Int.natAbs_mul]; exact Nat.mul_le_mul_left _ hq
      rw [← Nat.add_assoc]
      exact nadd h3 h4
    · exact Nat.le_trans (hb p m) (Nat.add_le_add_left (Nat.le_add_right _ _) _)
theorem put_new {β : Type} {x : Int} {c : β} {r : List (Int × β)} (h : x ∉ r.map (·.1)) : put r x c = r ++ [(x, c)] := by
  unfold put
  rw [if_neg]
  intro e
  obtain ⟨p, hp, e⟩ := List.any_eq_true.mp e
  exact h (List.mem_map.mpr ⟨p, hp, of_decide_eq_true e⟩)
theorem fold_put {β : Type} : ∀ (ps acc : List (Int × β)), ((acc ++ ps).map (·.1)).Nodup → ps.foldl (fun acc p => put acc p.1 p.2) acc = acc ++ ps
  | [], acc, _ => by simp
  | p :: ps, acc, h => by
    have h1 : p.1 ∉ acc.map (·.1) := by
      rw [List.map_append, List.map_cons, List.nodup_append] at h
      intro m
      exact h.2.2 _ m _ (.head _) rfl
    rw [List.foldl_cons, put_new h1, fold_put ps _ (by simpa using h)]
    simp
theorem at_map {x : Int} : ∀ {r : List (Int × Int)}, at? (r.map fun p => (p.1, I p.2)) x = (at? r x).map I
  | [] => rfl
  | (y, a) :: r => by
    by_cases e : y = x
    · subst e; rw [List.map_cons, at_cons_eq, at_cons_eq]; rfl
    · rw [List.map_cons, at_cons_ne e, at_cons_ne e, at_map]
theorem put_map {x c : Int} {r : List (Int × Int)} : put (r.map fun p => (p.1, I p.2)) x (I c) = (put r x c).map fun p => (p.1, I p.2) := by
  unfold put
  have e : ((r.map fun p => (p.1, I p.2)).any fun p => decide (p.1 = x)) = r.any fun p => decide (p.1 = x) := by rw [List.any_map]; rfl
  rw [e]
  split
  · rw [List.map_map, List.map_map]
    refine List.map_congr_left fun p J => ?_
    simp only [Function.comp]
    split <;> rfl
  · simp
/- The parts that are left, in their order. -/
noncomputable def outP (D : List (Int × Int)) (ms : List Int) : List (Int × Int) := (ms.map fun x => (x, (at? D x).getD 0)).filter fun p => p.2 != 0
theorem den_filter {W} : ∀ (ps : List (Int × Int)), den W (ps.filter fun p => p.2 != 0) = den W ps
  | [] => rfl
  | p :: ps => by
    rw [List.filter_cons]
    split
    · rw [den_cons, den_cons, den_filter ps]
    · rename_i h
      have : p.2 = 0 := by simpa using h
      rw [den_cons, this, den_filter ps]; simp
theorem den_perm {W} {ps qs : List (Int × Int)} (h : ps.Perm qs) : den W ps = den W qs := by
  induction h with
  | nil => rfl
  | cons x J ih => rw [den_cons, den_cons, ih]
  | swap x y l => rw [den_cons, den_cons, den_cons, den_cons]; lia
  | trans J J a b => rw [a, b]
theorem den_outP {W} {D : List (Int × Int)} {ms : List Int} (hn : (D.map (·.1)).Nodup) (hp : ms.Perm (D.map (·.1))) : den W (outP D ms) = den W D := by
  unfold outP
  rw [den_filter, den_perm (hp.map fun x => (x, (at? D x).getD 0))]
  congr 1
  rw [List.map_map]
  conv => rhs; rw [← List.map_id D]
  refine List.map_congr_left fun p hp => ?_
  have := at_of_mem hn (show (p.1, p.2) ∈ D from hp)
  simp [this]
theorem outP_mem {D : List (Int × Int)} {ms : List Int} (hn : (D.map (·.1)).Nodup) (hp : ms.Perm (D.map (·.1))) : ∀ p ∈ outP D ms, p ∈ D ∧ p.2 ≠ 0 := fun p m => by
  unfold outP at m
  obtain ⟨m, h0⟩ := List.mem_filter.mp m
  obtain ⟨x, hx, rfl⟩ := List.mem_map.mp m
  obtain ⟨q, hq, rfl⟩ := List.mem_map.mp (hp.mem_iff.mp hx)
  have := at_of_mem hn (show (q.1, q.2) ∈ D from hq)
  refine ⟨by rw [this]; exact hq, by simpa using h0⟩
theorem outP_nodup {D : List (Int × Int)} {ms : List Int} (hn : (D.map (·.1)).Nodup) (hp : ms.Perm (D.map (·.1))) : ((outP D ms).map (·.1)).Nodup := by
  have h1 : ms.Nodup := hp.nodup_iff.mpr hn
  unfold outP
  have : ((ms.map fun x => (x, (at? D x).getD 0)).map (·.1)) = ms := by
    rw [List.map_map]
    conv => rhs; rw [← List.map_id ms]
    exact List.map_congr_left fun x J => rfl
  refine List.Nodup.sublist ((List.filter_sublist).map _) ?_
  rw [this]; exact h1
theorem mem_put_self {β : Type} {x : Int} {c : β} : ∀ {r : List (Int × β)}, (r.map (·.1)).Nodup → (x, c) ∈ put r x c
  | [], _ => by rw [put_nil]; exact .head _
  | (y, a) :: r, hn => by
    obtain ⟨h1, h2⟩ := List.nodup_cons.mp hn
    by_cases e : y = x
    · subst e; rw [put_cons_eq h1]; exact .head _
    · rw [put_cons_ne e]; exact .tail _ (mem_put_self h2)
theorem outP_snoc {D : List (Int × Int)} {ms : List Int} {x : Int} : outP D (ms ++ [x]) = outP D ms ++ (if (at? D x).getD 0 = 0 then [] else [(x, (at? D x).getD 0)]) := by
  unfold outP
  rw [List.map_append, List.filter_append]
  congr 1
  by_cases h : (at? D x).getD 0 = 0
  · simp [h]
  · simp [h]
-- Disp
section
variable {c : Cx} {d : Nat} {sc : Scope} {B : Bs} {σ : Sg} {Q : AV → Sg → Prop} {Qb : Bool → Sg → Prop} {Ql : List AV → Sg → Prop} {N : Bs → Sg → Prop} {R : AV → Sg → Prop}
theorem EvalP.ab {e} (h : ∀ Q' : AV → Sg → Prop, (∀ x σ', Q x σ' → Q' x σ') → EvalP c d sc B σ e Q') : EvalP c d sc B σ e Q := h Q fun J J x => x
theorem EvalsP.ab {e} (h : ∀ Q' : List AV → Sg → Prop, (∀ x σ', Ql x σ' → Q' x σ') → EvalsP c d sc B σ e Q') : EvalsP c d sc B σ e Ql := h Ql fun J J x => x
theorem TestP.ab {e} (h : ∀ Q' : Bool → Sg → Prop, (∀ x σ', Qb x σ' → Q' x σ') → TestP c d sc B σ e Q') : TestP c d sc B σ e Qb := h Qb fun J J x => x
theorem CallP.ab {f xs} (h : ∀ Q' : AV → Sg → Prop, (∀ x σ', Q x σ' → Q' x σ') → CallP c d f xs σ Q') : CallP c d f xs σ Q := h Q fun J J x => x
theorem ExecP.ab {s} (h : ∀ N' : Bs → Sg → Prop, (∀ B' σ', N B' σ' → N' B' σ') → ExecP c d sc B σ s N' R) : ExecP c d sc B σ s N R := h N fun J J x => x
theorem ExecsP.ab {s} (h : ∀ N' : Bs → Sg → Prop, (∀ B' σ', N B' σ' → N' B' σ') → ExecsP c d sc B σ s N' R) : ExecsP c d sc B σ s N R := h N fun J J x => x
theorem AsgP.bd {t x ss} (h : ∀ N' : Bs → Sg → Prop, (∀ B' σ', N B' σ' → N' B' σ') → AsgP c d sc B σ t x fun B₂ σ₂ => ExecsP c d sc B₂ σ₂ ss N' R) : AsgP c d sc B σ t x fun B₂ σ₂ => ExecsP c d sc B₂ σ₂ ss N R := h N fun J J x => x
theorem AsgP.ab {t x} (h : ∀ N' : Bs → Sg → Prop, (∀ B' σ', N B' σ' → N' B' σ') → AsgP c d sc B σ t x N') : AsgP c d sc B σ t x N := h N fun J J x => x
end
theorem isEx {α : Type} {p : α → Prop} (h : ∃ x, p x) : ∃ x, p x := h
theorem isAnd {a b : Prop} (h : a ∧ b) : a ∧ b := h
noncomputable def notVal : AV → Bool
  | .val _ => false
  | _ => true
theorem notVal_ne {F : AV} (h : notVal F = true) : ∀ u, F ≠ .val u := fun u e => Bool.noConfusion ((e ▸ h : notVal (.val u) = true) : false = true)
noncomputable def locOk (sc : Scope) (n : Str) : Bool := (sc.names.lookup n == some .local || sc.names.lookup n == some .cell || sc.names.lookup n == some .free) && !((n == ("__debug__" : Str)) || (n == ("__classdict__" : Str)))
/- A name of the frame, or a constant. -/
inductive Simp (sc : Scope) (B : Bs) : Expr → AV → Prop
  | loc {n pos x} : B.lookup n = some x → locOk sc n = true → Simp sc B (.Name n pos) x
  | int (i k pos) : Simp sc B (.Constant (.int i) k pos) (I i)
  | str (x k pos) : Simp sc B (.Constant (.str x) k pos) (S' x)
  | bool (b k pos) : Simp sc B (.Constant (.bool b) k pos) (Bo b)
  | none (k pos) : Simp sc B (.Constant .none k pos) (.dat .none)
theorem Simp.locA {sc : Scope} {B : Bs} {n pos x} (ok : locOk sc n = true) (h : B.lookup n = some x) : Simp sc B (.Name n pos) x := .loc h ok
inductive Simps (sc : Scope) (B : Bs) : List Expr → List AV → Prop
  | nil : Simps sc B [] []
  | cons {e x es xs} : Simp sc B e x → Simps sc B es xs → Simps sc B (e :: es) (x :: xs)
section
variable {c : Cx} {d : Nat} {sc : Scope} {B : Bs} {σ : Sg} {Q : AV → Sg → Prop} {Qb : Bool → Sg → Prop} {Ql : List AV → Sg → Prop}
theorem Simp.eval {e : Expr} {x : AV} (h : Simp sc B e x) (q : Q x σ) : EvalP c d sc B σ e Q := by
  cases h with
  | loc hx ok =>
    have := Bool.and_eq_true_iff.mp ok
    exact .loc hx q this.1 ((Bool.not_eq_true' _).mp this.2)
  | int => exact .int q
  | str => exact .str q
  | bool => exact .bool q
  | none => exact .none q
theorem Simp.star {e : Expr} {x : AV} (h : Simp sc B e x) : isStarred e = false := by cases h with | _ => rfl
theorem EvalsP.simp {es : List Expr} {xs : List AV} (h : Simps sc B es xs) (q : Ql xs σ) : EvalsP c d sc B σ es Ql := by
  induction h generalizing Ql with
  | nil => exact .nil q
  | cons p J ih => exact .cons (p.eval (ih q)) p.star
theorem EvalP.binopS {l r : Expr} {x y : AV} {op pos} (hl : Simp sc B l x) (hr : Simp sc B r y) (h : ValP c d σ [x, y] (binT op) Q) : EvalP c d sc B σ (.BinOp l op r pos) Q := .binop (hl.eval (hr.eval h))
theorem EvalP.compareS {l r : Expr} {x y : AV} {op pos} (hl : Simp sc B l x) (hr : Simp sc B r y) (h : ValP c d σ [x, y] (cmpT op) Q) (hb : autoParam (behindInMarks op r = false) flT) : EvalP c d sc B σ (.Compare l [op] [r] pos) Q := .compare (hl.eval (hr.eval h)) hb
theorem TestP.compareS {l r : Expr} {x y : AV} {op pos} (hl : Simp sc B l x) (hr : Simp sc B r y) (h : ValP c d σ [x, y] (cmpT op) fun z σ₃ => BoE z fun b => Qb b σ₃) (hb : autoParam (behindInMarks op r = false) flT) : TestP c d sc B σ (.Compare l [op] [r] pos) Qb := .compare (hl.eval (hr.eval h)) hb
theorem EvalP.subS {l r : Expr} {x y : AV} {pos} (hl : Simp sc B l x) (hr : Simp sc B r y) (h : SubE c d σ x y Q) (hs : autoParam (notSlice r = true) trT) : EvalP c d sc B σ (.Subscript l r pos) Q := .sub (hl.eval (hr.eval h)) hs
theorem AsgP.nameL {n : Str} {x : AV} {pos} (h : N ((n, x) :: B) σ) (hk : autoParam (sc.names.lookup n = some .local) krT) : AsgP c d sc B σ (.Name n pos) x N := .name hk h (.inl rfl)
theorem AsgP.nameC {n : Str} {x : AV} {pos} (h : N ((n, x) :: B) σ) (hk : autoParam (sc.names.lookup n = some .cell) krT) (h0 : autoParam (sc.names.lookup (".0" : Str) = Option.none) krT) : AsgP c d sc B σ (.Name n pos) x N := .name hk h (.inr ⟨rfl, h0⟩)
theorem aVars {F M : AV} (T : TopOK c) (h : Q F σ) (hn : autoParam (notVal F = true) trT) : ValP c d σ [.flat F M] (attrT "vars") Q := .attr_vars T.flat (notVal_ne hn) h
theorem aTolds {F M : AV} (T : TopOK c) (h : Q M σ) (hn : autoParam (notVal M = true) trT) : ValP c d σ [.flat F M] (attrT "tolds") Q := .attr_tolds T.flat (notVal_ne hn) h
theorem aFlat {F M : AV} (T : TopOK c) (h : Q F σ) (hn : autoParam (notVal F = true) trT) : ValP c d σ [.funs F M] (attrT "flat") Q := .attr_flatOf T.funs (notVal_ne hn) h
theorem aMade {F M : AV} (T : TopOK c) (h : Q M σ) (hn : autoParam (notVal M = true) trT) : ValP c d σ [.funs F M] (attrT "made") Q := .attr_made T.funs (notVal_ne hn) h
end
theorem exTt0 {P : List PyData → Prop} (h : P []) : DatE [] P := ⟨[], rfl, rfl, h⟩
theorem exTt1 {P : List PyData → Prop} {a} (h : P [a]) : DatE [.dat a] P := ⟨[a], rfl, rfl, h⟩
theorem exTt2 {P : List PyData → Prop} {a b} (h : P [a, b]) : DatE [.dat a, .dat b] P := ⟨[a, b], rfl, rfl, h⟩
theorem exTt3 {P : List PyData → Prop} {a b c} (h : P [a, b, c]) : DatE [.dat a, .dat b, .dat c] P := ⟨[a, b, c], rfl, rfl, h⟩
theorem exTt4 {P : List PyData → Prop} {a b c d} (h : P [a, b, c, d]) : DatE [.dat a, .dat b, .dat c, .dat d] P := ⟨[a, b, c, d], rfl, rfl, h⟩
theorem brA {b : Bool} {P R : Prop} (h : P) (hb : autoParam (b = true) asK) : Br b (P) (R) := brDT hb h
theorem brB {b : Bool} {P R : Prop} (h : R) (hb : autoParam (b = false) asK) : Br b (P) (R) := brDF hb h
theorem brA' {b : Bool} {P R : Prop} (h : R) (hb : autoParam (b = true) asK) : Br' b (P) (R) := brDT' hb h
theorem brB' {b : Bool} {P R : Prop} (h : P) (hb : autoParam (b = false) asK) : Br' b (P) (R) := brDF' hb h
/- The rules told by a row of names, each with signs for what it is given. -/
def rows (s : String) : Lean.MacroM (List Lean.Syntax) := do
  let q ← `(?_)
  let k ← `(tactic| ktr_rel)
  let m ← `(tactic| assumption)
  let w ← `(tactic| with_unfolding_all rfl)
  let l ← `(some _)
  let a := ('?', q.raw) :: ('-', nd `Lean.Parser.Term.hole [.atom .none "_"]) :: ('~', nd `Lean.Parser.Term.ellipsis [.atom .none ".."]) :: [('$', sq k), ('*', sq m), ('%', sq w), ('!', flT), ('^', trT), ('@', refT l)].map fun p => (p.1, nd `Lean.Parser.Term.byTactic [.atom .none "by", p.2])
  let z : List Lean.Syntax × String × List Lean.Syntax := ([], "", [])
  pure (s.toList.foldl (fun p c => if c == ' ' then (p.1 ++ [if p.2.2.isEmpty then (Lean.mkIdent p.2.1.toName).raw else nd `Lean.Parser.Term.app [Lean.mkIdent p.2.1.toName, nd `null p.2.2]], "", []) else (a.lookup c).elim (p.1, p.2.1.push c, p.2.2) fun t => (p.1, p.2.1, p.2.2 ++ [t])) z).1
def firsts (k : String) (x : List Lean.Syntax) : Lean.TSyntax `tactic := ⟨nd `Lean.Parser.Tactic.first [.atom .none "first", nd `null (x.map fun t => nd `group [.atom .none "|", sq (if k == "" then t else nd (`Lean.Parser.Tactic ++ k.toName) [.atom .none k, t])])]⟩
/- The rules for one form of goal: its name, then theirs. -/
def steps (s : String) : Lean.MacroM Lean.Syntax := do
  let x ← rows s
  let a : Lean.Term := ⟨x.head!⟩
  let f := firsts "refine" x.tail
  `(tactic| (show $a; $f))
-- Con1
local macro_rules
  | `(tactic| ktr_rel) => do
    let x ← rows "Simps.nil Simps.cons Simp.int--- Simp.str--- Simp.bool--- Simp.none-- Simp.loc@^ lk_here lk_zhere lk_next! lk_zlast! lk_znext! "
    let x := firsts "apply" x
    `(tactic| ((repeat $x:tactic); done))
  | `(tactic| trivial) => do
    let t ← ["EvalP~ EvalP.loc@? EvalP.loc$? EvalP.gbV*? EvalP.gtruths*? EvalP.gmost*? EvalP.int? EvalP.str? EvalP.bool? EvalP.none? EvalP.callSelf*@? EvalP.callFl*@? evalP_tss*@? EvalP.callF*? EvalP.callV*? EvalP.and3? EvalP.and2? EvalP.or2? EvalP.binopS$$? EvalP.compareS$$? EvalP.subS$$? EvalP.binop? EvalP.unop? EvalP.compare? EvalP.ifexp? EvalP.sub? EvalP.tuple? EvalP.list? EvalP.attr? ", "EvalsP~ EvalsP.simp$? EvalsP.nil? EvalsP.cons? ", "CallP~ is_truth_ok*-? is_made_sum*-? is_made_bit*-? sum_of_ok*-? bi_tt? bi_ti? bi_tb? bi_it? bi_ii? bi_ib? bi_bt? bi_bi? bi_bb? bi_ll? bi_abs? bi_intI? bi_intB? bi_max2? bi_min2? bi_range1? bi_range2? bi_len0? bi_len1? bi_len2? bi_len3? bi_len4? bi_lenT*? bi_lenL*? bi_lenO**? ", "ValP~ ValP.add? ValP.powM? ValP.sub? ValP.neg? ValP.lt? ValP.le'? ValP.gt? ValP.ge? ValP.not? ValP.eqI? ValP.neI? ValP.eqB? ValP.neB? ValP.eqS? ValP.neS? aVars*? aTolds*? aFlat*? aMade*? ", "TestP~ TestP.compareS$$? TestP.compare? TestP.not? TestP.and2? TestP.or2? TestP.and3? TestP.val? ", "TruP~ TruP.bool? ", "ExecP~ ExecP.ret? ExecP.ret0? ExecP.if_? ExecP.swap2? ExecP.swap3? ExecP.assigns? ExecP.assign? ExecP.expr? ", "ExecsP~ ExecsP.nil? ExecsP.cons? ", "AsgP~ AsgP.nameL? AsgP.nameC? AsgP.tuple? ", "AsgsP~ AsgsP.nilM? AsgsP.consM? AsgsP.nil? AsgsP.cons? ", "BoE~ exB? ", "Exists~ exD? ", "DatE~ exTt0? exTt1? exTt2? exTt3? exTt4? ", "SubE~ subTp%? subLp%? subOp*%? ", "Br~ brT? brF? brA? brB? ", "Br'~ brT'? brF'? brA'? brB'? "].mapM steps
    let x ← rows "rfl "
    let x := firsts "" (firsts "exact" x :: t)
    `(tactic| first
      | with_reducible $x:tactic
      | ((with_reducible refine And.intro ?_ ?_) <;> trivial))
section
variable {c : Cx} {d : Nat} {sc : Scope} {B : Bs} {σ : Sg} {Q : AV → Sg → Prop}

theorem least_ok (T : TopOK c) {a b : Int} {r : List PyData} (h : Q (I a) σ) : CallP c (d + 1) (.ref (c.fn "least")) [Tu (.tuple [.int a, .int b] :: r)] σ Q := by
  refine CallP.top 3 [("d", Tu (.tuple [.int a, .int b] :: r))] T rfl ?_
  repeat trivial
theorem range_of_ok (T : TopOK c) {a b : Int} (h : Q (Tu (if a ≤ b then [.tuple [.int a, .int b]] else [])) σ) : CallP c (d + 1) (.ref (c.fn "range_of")) [I a, I b] σ Q := by
  refine CallP.top 2 [("low", I a), ("high", I b)] T rfl ?_
  repeat trivial
  refine ⟨fun e => ?_, fun e => ?_⟩
  · rw [if_pos (of_decide_eq_true e)] at h
    repeat trivial
  · rw [if_neg (of_decide_eq_false e)] at h
    repeat trivial
theorem is_made_sum (T : TopOK c) (t : Th) (h : Q (Bo t.isS) σ) : CallP c (d + 1) (.ref (c.fn "is_made")) [.dat t.d, S' "sum"] σ Q := by
  refine CallP.top 17 [("value", .dat t.d), ("kind", S' "sum")] T rfl ?_
  cases t
  all_goals repeat trivial
theorem is_made_bit (T : TopOK c) (t : Th) (h : Q (Bo t.isT) σ) : CallP c (d + 1) (.ref (c.fn "is_made")) [.dat t.d, S' "bit"] σ Q := by
  refine CallP.top 17 [("value", .dat t.d), ("kind", S' "bit")] T rfl ?_
  cases t
  all_goals repeat trivial

theorem is_truth_ok (T : TopOK c) (t : Th) (h : Q (Bo (t.isB || t.isT)) σ) : CallP c (d + 2) (.ref (c.fn "is_truth")) [.dat t.d] σ Q := by
  refine CallP.top 18 [("value", .dat t.d)] T rfl ?_
  repeat trivial
  cases t
  all_goals repeat trivial
theorem within_ok (T : TopOK c) {n : Int} (hn : n.natAbs < 2 ^ 60) (h : Q (I n) σ) : CallP c (d + 1) (.ref (c.fn "within_figures")) [I n] σ Q := by
  refine CallP.top 14 [("number", I n)] T rfl ?_
  have hb : decide (P1000 ≤ (n.natAbs : Int)) = false := by
    have := P1000_big
    exact decide_eq_false (by lia)
  repeat trivial
theorem row_of_ok (T : TopOK c) {xs : List PyData} (hz : xs.length < 2 ^ 63) (h : Q (Tu [.tuple [.tuple [.int 1, .int xs.length]], .list xs]) σ) : CallP c (d + 1) (.ref (c.fn "row_of")) [Li xs] σ Q := by
  refine CallP.top 13 [("some", Li xs)] T rfl ?_
  repeat trivial
theorem is_array_ok (T : TopOK c) (t : Th) (h : Q (Bo false) σ) : CallP c (d + 1) (.ref (c.fn "is_array")) [.dat t.d] σ Q := by
  refine CallP.top 12 [("value", .dat t.d)] T rfl ?_
  repeat trivial
  cases t
  all_goals repeat trivial
theorem is_array_yes (T : TopOK c) (x : PyData) (xs : List PyData) (h : Q (Bo true) σ) : CallP c (d + 1) (.ref (c.fn "is_array")) [Tu [x, .list xs]] σ Q := by
  refine CallP.top 12 [("value", Tu [x, .list xs])] T rfl ?_
  repeat trivial
theorem sum_of_ok (T : TopOK c) (t : Th) (h : Q (.dat (sumD t.ps t.k)) σ) : CallP c (d + 2) (.ref (c.fn "sum_of")) [.dat t.d] σ Q := by
  refine CallP.top 20 [("value", .dat t.d)] T rfl ?_
  cases t with
  | bo v => cases v <;> repeat trivial
  | it v => repeat trivial
  | su ps v => repeat trivial
  | bi x v => cases v <;> repeat trivial
noncomputable def Th.neg : Th → Th
  | .bo v => .bo (!v)
  | .bi x v => .bi x (!v)
  | t => t
theorem contrary_ok (T : TopOK c) (t : Th) (ht : t.isB = true ∨ t.isT = true) (h : Q (.dat t.neg.d) σ) : CallP c (d + 2) (.ref (c.fn "contrary")) [.dat t.d] σ Q := by
  refine CallP.top 22 [("truth", .dat t.d)] T rfl ?_
  cases t with
  | bo v => repeat trivial
  | it v => rcases ht with e | e <;> cases e
  | su ps v => rcases ht with e | e <;> cases e
  | bi x v => repeat trivial
theorem is_known_ok (T : TopOK c) (t : Th) (h : Q (Bo (!t.isS && !t.isT)) σ) : CallP c (d + 2) (.ref (c.fn "is_known")) [.dat t.d] σ Q := by
  refine CallP.top 19 [("value", .dat t.d)] T rfl ?_
  repeat trivial
  refine is_array_ok T t ?_
  repeat trivial
  cases t
  all_goals repeat trivial
end
-- Con2


noncomputable def compChk (sc scope : Scope) (ns : List Str) : Bool := scope.kind == .function && (scope.names.all fun x => x.2 != .local || scope.names.lookup x.1 == some .local) && (scope.names.all fun x => x.2 != .cell) &&
  (scope.names.all fun x => x.2 != .free || sc.names.lookup x.1 == some .cell) && (ns.all fun p => sc.names.lookup p == some .cell && (relS scope sc).names.lookup p == some .cell) && ((relS scope sc).names.lookup (".0" : Str) != none)
theorem compOK_of {sc scope : Scope} {B' : Bs} (ns : List Str) (hB : B'.map (·.1) = ns) (h : compChk sc scope ns = true) : CompOK sc scope B' := by
  subst hB
  unfold compChk at h
  simp only [Bool.and_eq_true] at h
  obtain ⟨⟨⟨⟨⟨h1, h2⟩, h3⟩, h4⟩, h5⟩, h6⟩ := h
  exact ⟨eq_of_beq h1, h2, h3, h4, by rw [List.all_map] at h5; exact h5, h6⟩

section
variable {c : Cx} {d : Nat} {sc : Scope} {B : Bs} {σ : Sg} {Q : AV → Sg → Prop}


theorem prD_get {ps : List (Int × Int)} {i : Nat} {x : AV} (h : ((prD ps).map AV.dat)[i]? = some x) : ∃ p, ps[i]? = some p ∧ x = Tu [.int p.1, .int p.2] := by
  simp only [prD, List.map_map, List.getElem?_map, Option.map_eq_some_iff] at h
  obtain ⟨p, hp, rfl⟩ := h
  exact ⟨p, hp, rfl⟩
theorem take_snoc {α : Type} {l : List α} {i : Nat} {p : α} (h : l[i]? = some p) : l.take (i + 1) = l.take i ++ [p] := by rw [List.take_succ, h]; rfl
theorem plus_ok (T : TopOK c) (u v : Th) (f : Int) (K L : Nat) (hn : (u.ps.map (·.1)).Nodup) (hl : u.ps.length + v.ps.length < 64) (hu : ∀ p ∈ u.ps, p.2.natAbs ≤ K) (hv : ∀ p ∈ v.ps, p.2.natAbs ≤ L) (hf : f.natAbs < 2 ^ 20) (hK : K + f.natAbs * L * 64 < 2 ^ 59)
    (hk : (u.k + f * v.k).natAbs < 2 ^ 59)
    (h : ∀ D ms, AddOK f u.ps v.ps D → ms.Perm (D.map (·.1)) → ∀ σ', Ext [] σ σ' → Q (.dat (if outP D ms = [] then (Th.it (u.k + f * v.k)) else .su (outP D ms) (u.k + f * v.k)).d) σ') : CallP c (d + 6) (.ref (c.fn "plus")) [.dat u.d, .dat v.d, I f] σ Q := by
  refine CallP.top 21 [("one", .dat u.d), ("other", .dat v.d), ("factor", I f)] T rfl ?_
  repeat trivial
  refine bi_dictT (by lia) fun a na => ?_
  rw [fold_put u.ps [] (by simpa using hn), List.nil_append]
  repeat trivial
  refine ValP.mul (by lia) ?_
  repeat trivial
  refine within_ok T (by lia) ?_
  repeat trivial
  refine ExecP.forC ?_ (by intros; rfl)
  repeat trivial
  refine ⟨_, fun i B' σ' => B' = ([("parts", .ref a), ("constant", I (u.k + f * v.k)), ("factor", I f)] : Bs) ∧ Ext [] σ σ' ∧ ∃ D, AddOK f u.ps (v.ps.take i) D ∧ (a, OB.dI (D.map fun p => (p.1, I p.2))) ∈ σ', .tuple, ⟨_, ?_, rfl, .cons, u.ps, by rw [List.take_zero]; exact .nil hn, .head _⟩, ?_, ?_⟩
  · exact ⟨by repeat trivial, by repeat trivial, by repeat trivial, trivial⟩
  · rintro i x B' σ' hx ⟨rfl, ext, D, hD, hm⟩
    obtain ⟨p, hp, rfl⟩ := prD_get hx
    have hD' := hD.snoc (q := p)
    rw [← take_snoc hp] at hD'
    have hb := hD'.bd K L hu fun q m => hv q (List.mem_of_mem_take m)
    have hlt : (v.ps.take (i + 1)).length ≤ 64 := by rw [List.length_take]; lia
    have hb2 : K + f.natAbs * L * (v.ps.take (i + 1)).length < 2 ^ 59 := Nat.lt_of_le_of_lt (Nat.add_le_add_left (Nat.mul_le_mul_left _ hlt) _) hK
    have hval : ((at? D p.1).getD 0 + f * p.2).natAbs < 2 ^ 60 := by
      have : (p.1, (at? D p.1).getD 0 + f * p.2) ∈ addP f D p := mem_put_self hD.nodup
      have := hb _ this
      lia
    have hzl : (D.map fun p => (p.1, I p.2)).length ≤ 1000000 := by
      have := hD.len
      rw [List.length_map]
      rw [List.length_take] at this; lia
    refine AsgP.bd fun N' hN => ?_
    repeat trivial
    refine EvalP.method ?_ (by with_unfolding_all rfl) (by with_unfolding_all rfl) (by with_unfolding_all rfl) (by with_unfolding_all rfl)
    repeat trivial
    refine ⟨_, _, .get hm, .builtin, ?_⟩
    repeat trivial
    refine CallP.get T.mods hm ?_
    rw [at_map]
    have e : ((at? D p.1).map I).getD (I 0) = I ((at? D p.1).getD 0) := by cases at? D p.1 <;> rfl
    rw [e]
    repeat trivial
    refine ValP.mul (by lia) ?_
    repeat trivial
    refine within_ok T hval ?_
    refine AsgP.sub ?_
    repeat trivial
    refine SetP.i hm hzl ?_
    rw [put_map]
    refine ExecsP.nil (hN _ _ ⟨_, ?_, rfl, ext_updN ext na, _, hD', mem_upd (mem_own hm)⟩)
    exact ⟨by repeat trivial, by repeat trivial, by repeat trivial, trivial⟩
  · rintro B' σ' ⟨rfl, ext, D, hD, hm⟩
    have hlen : (List.map AV.dat (prD v.ps)).length = v.ps.length := by simp [prD]
    rw [hlen, List.take_length] at hD
    repeat trivial
    refine EvalP.comp [("parts", .ref a)] ?_ (compOK_of ["parts"] rfl (by kernel_rfl!)) ?_ rfl (by intros; rfl)
    · exact ⟨by repeat trivial, trivial⟩
    repeat trivial
    refine bi_sortedD T.mods hm (by rw [List.length_map]; have := hD.len; lia) fun ms hp hs => ?_
    rw [List.map_map] at hp
    have hp' : ms.Perm (D.map (·.1)) := hp
    refine ⟨_, fun i zs σ'' => σ'' = σ' ∧ zs = prD (outP D (ms.take i)), .list, ⟨rfl, rfl⟩, ?_, ?_⟩
    · rintro i y zs σ'' hy ⟨rfl, rfl⟩
      simp only [List.getElem?_map, Option.map_eq_some_iff] at hy
      obtain ⟨J, ⟨x, hx, rfl⟩, rfl⟩ := hy
      obtain ⟨b, hb⟩ : ∃ b, at? D x = some b := by
        obtain ⟨q, hq, e⟩ := List.mem_map.mp (hp'.mem_iff.mp (List.mem_of_getElem? hx))
        exact ⟨q.2, at_of_mem hD.nodup (by rw [← e]; exact hq)⟩
      have hat : at? (D.map fun p => (p.1, I p.2)) x = some (I b) := by rw [at_map, hb]; rfl
      have e1 := outP_snoc (D := D) (ms := ms.take i) (x := x)
      rw [← take_snoc hx, hb] at e1
      refine AsgP.name (k := .local) (by kernel_rfl!) ?_ (.inl rfl)
      refine ⟨⟨by repeat trivial, trivial⟩, ?_⟩
      show TestP _ _ _ _ _ _ _
      repeat trivial
      refine subI hm hat ?_
      repeat trivial
      refine ⟨fun hb0 => ?_, fun hb0 => ?_⟩
      · have hb0 : b ≠ 0 := of_decide_eq_true hb0
        show EvalP _ _ _ _ _ _ _
        repeat trivial
        refine subI hm hat ?_
        repeat trivial
        refine ⟨?_, rfl, ?_⟩
        · have h1 : (outP D (ms.take i)).length ≤ ms.length := by
            unfold outP
            refine Nat.le_trans (List.length_filter_le ..) ?_
            rw [List.length_map, List.length_take]; lia
          have h2 := hp'.length_eq
          have h3 := hD.len
          rw [List.length_map] at h2
          show (prD _).length ≤ _
          unfold prD
          rw [List.length_map]; lia
        · rw [e1]
          show prD _ ++ [_] = prD (_ ++ (if b = 0 then [] else [(x, b)]))
          rw [if_neg hb0]
          simp [prD]
      · have hb0 : b = 0 := by simpa using hb0
        refine ⟨rfl, ?_⟩
        rw [e1, hb0]; simp
    · rintro zs σ'' ⟨rfl, rfl⟩
      have hlen2 : ((ms.map PyData.int).map AV.dat).length = ms.length := by simp
      rw [hlen2, List.take_length]
      repeat trivial
      have h1 : (outP D ms).length ≤ ms.length := by
        unfold outP
        refine Nat.le_trans (List.length_filter_le ..) ?_
        rw [List.length_map]; lia
      have h2 := hp'.length_eq
      have h3 := hD.len
      rw [List.length_map] at h2
      have h4 : (prD (outP D ms)).length = (outP D ms).length := by unfold prD; rw [List.length_map]
      refine bi_tupleL (by lia) ?_
      repeat trivial
      have hsh : Sh (.tuple (prD (outP D ms))) := (ShN.tuple (n := 1) fun x m => by
        obtain ⟨p, J, rfl⟩ := List.mem_map.mp m
        exact ShN.tuple fun y my => by
          rcases List.mem_cons.mp my with rfl | my
          · exact ShN.int
          · rcases List.mem_singleton.mp my with rfl
            exact ShN.int).sh
      refine ValP.ne hsh (ShN.tuple (n := 0) (xs := []) (fun x m => by cases m)).sh ?_
      have hh := h D ms hD hp' σ'' ext
      by_cases hq : outP D ms = []
      · rw [if_pos hq] at hh
        rw [hq]
        repeat trivial
      · rw [if_neg hq] at hh
        have hne : (!PyData.eqv (.tuple (prD (outP D ms))) (.tuple [])) = true := by
          cases e : outP D ms with
          | nil => exact absurd e hq
          | cons p r => simp [prD, PyData.eqv, PyData.eqvAll]
        rw [hne]
        repeat trivial
end
-- Con3
section
variable {c : Cx} {d : Nat} {sc : Scope} {B : Bs} {σ : Sg} {Q : AV → Sg → Prop}

noncomputable def gcdOf (ns : List Int) : Nat := ns.foldl (fun g a => Nat.gcd a.natAbs g) 0
theorem ints_get {ns : List Int} {i : Nat} {x : AV} (h : ((ns.map PyData.int).map AV.dat)[i]? = some x) : ∃ n, ns[i]? = some n ∧ x = I n := by
  simp only [List.map_map, List.getElem?_map, Option.map_eq_some_iff] at h
  obtain ⟨p, hp, rfl⟩ := h
  exact ⟨p, hp, rfl⟩

theorem common_of_ok (T : TopOK c) (ns : List Int) (h : Q (I (gcdOf ns)) σ) : CallP c (d + 2) (.ref (c.fn "common_of")) [Li (ns.map .int)] σ Q := by
  refine CallP.top 23 [("numbers", Li (ns.map .int))] T rfl ?_
  repeat trivial
  refine ExecP.forC ?_ (by intros; rfl)
  repeat trivial
  refine ⟨_, fun i B' σ' => B' = ([("found", I (gcdOf (ns.take i)))] : Bs) ∧ σ' = σ, .list, ⟨_, ?_, rfl, rfl⟩, ?_, ?_⟩
  · exact ⟨by repeat trivial, trivial⟩
  · rintro i x B' σ' hx ⟨rfl, rfl⟩
    obtain ⟨n, hn, rfl⟩ := ints_get hx
    repeat trivial
    refine ExecP.whileC (fun m B' σ'' => ∃ f r : Nat, B' = ([("found", I f), ("rest", I r)] : Bs) ∧ σ'' = σ' ∧ Nat.gcd f r = gcdOf (ns.take (i + 1)) ∧ m = r) _ ⟨_, ?_, n.natAbs, gcdOf (ns.take i), rfl, rfl, ?_, rfl⟩ ?_
    · exact ⟨by repeat trivial, by repeat trivial, trivial⟩
    · rw [take_snoc hn]; unfold gcdOf; rw [List.foldl_append]; rfl
    · rintro m B' σ'' ⟨f, r, rfl, rfl, hg, rfl⟩
      repeat trivial
      refine ⟨fun h0 => ?_, fun h0 => ?_⟩
      · have h0 : 0 < m := by have := of_decide_eq_true h0; lia
        have hm : ((f : Int).fmod (m : Int)) = ((f % m : Nat) : Int) := by
          rw [Int.fmod_eq_emod_of_nonneg _ (by lia)]; rfl
        repeat trivial
        refine ValP.fmod (by lia) ?_
        rw [hm]
        repeat trivial
        refine ⟨f % m, Nat.mod_lt _ h0, _, ?_, m, f % m, rfl, rfl, ?_, rfl⟩
        · exact ⟨by repeat trivial, by repeat trivial, trivial⟩
        · rw [← hg, Nat.gcd_comm f m]
          rw [Nat.gcd_comm m (f % m)]
          exact (Nat.gcd_rec m f).symm
      · have h0 : m = 0 := by have := of_decide_eq_false h0; lia
        subst h0
        rw [Nat.gcd_zero_right] at hg
        refine ExecsP.nil ⟨_, ?_, rfl, rfl⟩
        rw [← hg]
        exact ⟨by repeat trivial, trivial⟩
  · rintro B' σ' ⟨rfl, rfl⟩
    have hlen : ((ns.map PyData.int).map AV.dat).length = ns.length := by simp
    rw [hlen, List.take_length]
    repeat trivial
end
-- Con4

section
variable {c : Cx} {d : Nat} {sc : Scope} {B : Bs} {σ : Sg} {Q : AV → Sg → Prop} {va ta ma : Addr} {vs ts : List PyData}

theorem size_ok (T : TopOK c) {U : AV} (m : (va, OB.lst vs) ∈ σ) (hz : vs.length < 2 ^ 63) (h : Q (I vs.length) σ) : CallP c (d + 1) (.ref (c.fn "size")) [.flat (.ref va) U] σ Q := by
  refine CallP.inn 9 3 [("self", .flat (.ref va) U)] T rfl ?_
  repeat trivial
theorem domain_of_ok (T : TopOK c) {U : AV} {x : Int} {nm dom : PyData} (m : (va, OB.lst vs) ∈ σ) (h0 : 0 ≤ x) (hx : vs[x.toNat]? = some (.tuple [nm, dom])) (hb : x < 2 ^ 63) (h : Q (.dat dom) σ) : CallP c (d + 1) (.ref (c.fn "domain_of")) [.flat (.ref va) U, I x] σ Q := by
  refine CallP.inn 9 4 [("self", .flat (.ref va) U), ("x", I x)] T rfl ?_
  repeat trivial
  refine subOp m hx ?_ (decide_eq_true h0) (decide_eq_true hb)
  repeat trivial
theorem post_ok (T : TopOK c) {told : PyData} (m : (ta, OB.lst ts) ∈ σ) (hz : ts.length ≤ 1000000) (h : Q (.dat .none) (upd σ ta (.lst (ts ++ [told])))) : CallP c (d + 1) (.ref (c.fn "post")) [.flat (.ref va) (.ref ta), .dat told] σ Q := by
  refine CallP.inn 9 2 [("self", .flat (.ref va) (.ref ta)), ("told", .dat told)] T rfl ?_
  repeat trivial
  refine EvalP.method ?_ (by with_unfolding_all rfl) (by with_unfolding_all rfl) (by with_unfolding_all rfl) (by with_unfolding_all rfl)
  repeat trivial
  refine ⟨_, _, .append m, .builtin, ?_⟩
  repeat trivial
  refine CallP.append m hz ?_
  repeat trivial
theorem new_var_ok (T : TopOK c) {nm dom : PyData} (m : (va, OB.lst vs) ∈ σ) (hz : vs.length ≤ 1000000) (h : Q (I vs.length) (upd σ va (.lst (vs ++ [.tuple [nm, dom]])))) : CallP c (d + 1) (.ref (c.fn "new_var")) [.flat (.ref va) (.ref ta), .dat nm, .dat dom] σ Q := by
  refine CallP.inn 9 1 [("self", .flat (.ref va) (.ref ta)), ("name", .dat nm), ("domain", .dat dom)] T rfl ?_
  repeat trivial
  refine EvalP.method ?_ (by with_unfolding_all rfl) (by with_unfolding_all rfl) (by with_unfolding_all rfl) (by with_unfolding_all rfl)
  repeat trivial
  refine ⟨_, _, .append m, .builtin, ?_⟩
  repeat trivial
  refine CallP.append m hz ?_
  have m2 := mem_upd (ob := .lst (vs ++ [.tuple [nm, dom]])) (mem_own m)
  have hz2 : (vs ++ [PyData.tuple [nm, dom]]).length < 2 ^ 63 := by rw [List.length_append]; exact Nat.lt_of_le_of_lt (Nat.add_le_add_right hz 1) (by decide)
  have e : (((vs ++ [PyData.tuple [nm, dom]]).length : Int) - 1) = (vs.length : Int) := by rw [List.length_append]; simp
  repeat trivial
  rw [e]; exact h
end
-- Con5
section
variable {c : Cx} {d : Nat} {sc : Scope} {B : Bs} {σ : Sg} {Q : AV → Sg → Prop} {va ta ma : Addr} {vs ts : List PyData} {md : List (PyData × Int)}

noncomputable abbrev Fu (va ta ma : Addr) : AV := .funs (.flat (.ref va) (.ref ta)) (.ref ma)

theorem at_put {β : Type} {md : List (PyData × β)} {k : PyData} {x : β} (e : at? md k = none) : at? (put md k x) k = some x := by
  have h0 : (md.find? fun p => decide (p.1 = k)) = none := by
    unfold at? at e
    rwa [Option.map_eq_none_iff] at e
  unfold put at?
  rw [if_neg]
  · rw [List.find?_append, h0]; simp
  · intro h
    obtain ⟨p, hp, q⟩ := List.any_eq_true.mp h
    exact (List.find?_eq_none.mp h0) p hp q
theorem once_ok (T : TopOK c) {k : List PyData} {dl : List (Int × Int)} (hv : (va, OB.lst vs) ∈ σ) (hm : (ma, OB.dT md) ∈ σ) (hne : va ≠ ma) (hz : vs.length ≤ 100000) (hzm : md.length ≤ 100000) (hk : kOk 8 (.tuple k) = true)
    (hd : ∀ p ∈ dl, p.1.natAbs < 2 ^ 60 ∧ p.2.natAbs < 2 ^ 60)
    (h1 : ∀ z, at? md (.tuple k) = some z → Q (Tu [.int z, .bool false]) σ)
    (h2 : at? md (.tuple k) = none → ∀ nm, Q (Tu [.int vs.length, .bool true]) (upd (upd σ va (.lst (vs ++ [.tuple [.str nm, .tuple (prD dl)]]))) ma (.dT (put md (.tuple k) vs.length)))) :
    CallP c (d + 3) (.ref (c.fn "once")) [Fu va ta ma, Tu k, Tu (prD dl)] σ Q := by
  refine CallP.inn 24 1 [("self", Fu va ta ma), ("key", Tu k), ("domain", Tu (prD dl))] T rfl ?_
  repeat trivial
  cases e : at? md (.tuple k) with
  | some z =>
    refine ValP.inNK T.mods hk hm true (by rw [e]; rfl) ?_
    repeat trivial
    refine subK hk hm e ?_
    repeat trivial
    exact h1 z e
  | none =>
    refine ValP.inNK T.mods hk hm false (by rw [e]; rfl) ?_
    repeat trivial
    refine ExecP.forC ?_ (by intros; rfl)
    repeat trivial
    refine ⟨_, fun i B' σ' => B' = ([("is_new", Bo !false), ("self", Fu va ta ma), ("key", Tu k), ("domain", Tu (prD dl))] : Bs) ∧ σ' = σ, .tuple, ⟨_, ?_, rfl, rfl⟩, ?_, ?_⟩
    · exact ⟨by repeat trivial, by repeat trivial, by repeat trivial, by repeat trivial, trivial⟩
    · rintro i x B' σ' hx ⟨rfl, rfl⟩
      obtain ⟨p, hp, rfl⟩ := prD_get hx
      obtain ⟨b1, b2⟩ := hd p (List.mem_of_getElem? hp)
      repeat trivial
      refine within_ok T (by omega) ?_
      refine ExecsP.nil ⟨_, ?_, rfl, rfl⟩
      exact ⟨by repeat trivial, by repeat trivial, by repeat trivial, by repeat trivial, trivial⟩
    · rintro B' σ' ⟨rfl, rfl⟩
      refine ExecsP.cons (ExecP.assign ?_ (by with_unfolding_all rfl) (by with_unfolding_all rfl) (by with_unfolding_all rfl))
      refine EvalP.callFlat (F := .ref va) (M := .ref ta) T ?_ (by decide +kernel) (by with_unfolding_all rfl) (by with_unfolding_all rfl) (by with_unfolding_all rfl) (by with_unfolding_all rfl)
      repeat trivial
      refine EvalP.hash ?_ (by decide +kernel)
      refine EvalP.callFlat (F := .ref va) (M := .ref ta) T ?_ (by decide +kernel) (by with_unfolding_all rfl) (by with_unfolding_all rfl) (by with_unfolding_all rfl) (by with_unfolding_all rfl)
      repeat trivial
      refine size_ok T hv (Nat.lt_of_le_of_lt hz (by decide)) ?_
      refine ⟨vs.length, rfl, ?_, fun nm => ?_⟩
      · exact Nat.lt_of_le_of_lt hz (by decide)
      repeat trivial
      refine new_var_ok T hv (Nat.le_trans hz (by decide)) ?_
      have hm2 : (ma, OB.dT md) ∈ upd σ' va (.lst (vs ++ [.tuple [.str nm, .tuple (prD dl)]])) := mem_upd_ne hm (Ne.symm hne)
      refine AsgP.sub ?_
      repeat trivial
      refine SetP.k hk hm2 (Nat.le_trans hzm (by decide)) ?_
      have hm3 := mem_upd (ob := .dT (put md (.tuple k) vs.length)) (mem_own hm2)
      have hat : at? (put md (.tuple k) (vs.length : Int)) (.tuple k) = some (vs.length : Int) := at_put e
      repeat trivial
      refine subK hk hm3 hat ?_
      repeat trivial
      exact h2 e nm
end
-- Con6
section
variable {c : Cx} {d : Nat} {sc : Scope} {B : Bs} {σ : Sg} {Q : AV → Sg → Prop} {va ta ma : Addr} {vs ts : List PyData} {md : List (PyData × Int)}

/- The ends of a var's domain. -/
noncomputable def EndsAt (vs : List PyData) (x lo hi : Int) : Prop := 0 ≤ x ∧ ∃ nm dl a b r, vs[x.toNat]? = some (.tuple [nm, .tuple (prD dl)]) ∧ dl = (lo, a) :: r ∧ dl.getLast? = some (b, hi)

theorem greatest_ok (T : TopOK c) {dl : List (Int × Int)} {b hi : Int} (hl : dl.getLast? = some (b, hi)) (h : Q (I hi) σ) : CallP c (d + 1) (.ref (c.fn "greatest")) [Tu (prD dl)] σ Q := by
  refine CallP.top 4 [("d", Tu (prD dl))] T rfl ?_
  repeat trivial
  have hlen : dl ≠ [] := fun e => by subst e; cases hl
  have h0 : 0 < dl.length := List.length_pos_iff.mpr hlen
  refine subTn (x := .tuple [.int b, .int hi]) ?_ ?_ ?_
  · have e : ((-1 : Int) + ((prD dl).length : Int)).toNat = dl.length - 1 := by
      have : (prD dl).length = dl.length := by simp [prD]
      rw [this]; lia
    rw [e]
    unfold prD
    rw [List.getElem?_map, ← List.getLast?_eq_getElem?, hl]; rfl
  · have : (prD dl).length = dl.length := by simp [prD]
    rw [this]; lia
  repeat trivial

theorem least_ok' (T : TopOK c) {dl : List (Int × Int)} {a b : Int} {r} (hl : dl = (a, b) :: r) (h : Q (I a) σ) : CallP c (d + 1) (.ref (c.fn "least")) [Tu (prD dl)] σ Q := by
  subst hl
  exact least_ok T h
noncomputable def loB (E : Int → Int × Int) (ps : List (Int × Int)) : Int := (ps.map fun p => min (p.2 * (E p.1).1) (p.2 * (E p.1).2)).sum
noncomputable def hiB (E : Int → Int × Int) (ps : List (Int × Int)) : Int := (ps.map fun p => max (p.2 * (E p.1).1) (p.2 * (E p.1).2)).sum
theorem bounds_ok (T : TopOK c) (t : Th) (E : Int → Int × Int) (hv : (va, OB.lst vs) ∈ σ) (hb : ∀ p ∈ t.ps, p.2.natAbs < 2 ^ 60) (hE : ∀ p ∈ t.ps, EndsAt vs p.1 (E p.1).1 (E p.1).2 ∧ p.1 < 2 ^ 60)
    (h : Q (Tu [.int (t.k + loB E t.ps), .int (t.k + hiB E t.ps)]) σ) : CallP c (d + 4) (.ref (c.fn "bounds")) [Fu va ta ma, .dat t.d] σ Q := by
  refine CallP.inn 24 2 [("self", Fu va ta ma), ("value", .dat t.d)] T rfl ?_
  repeat trivial
  refine ExecP.forC ?_ (by intros; rfl)
  repeat trivial
  refine ⟨_, fun i B' σ' => B' = ([("self", Fu va ta ma), ("low", I (t.k + loB E (t.ps.take i))), ("high", I (t.k + hiB E (t.ps.take i)))] : Bs) ∧ σ' = σ, .tuple, ⟨_, ?_, rfl, rfl⟩, ?_, ?_⟩
  · exact ⟨by repeat trivial, by show _ = some (I (t.k + 0)); rw [Int.add_zero]; repeat trivial, by show _ = some (I (t.k + 0)); rw [Int.add_zero]; repeat trivial, trivial⟩
  · rintro i x B' σ' hx ⟨rfl, rfl⟩
    obtain ⟨p, hp, rfl⟩ := prD_get hx
    obtain ⟨⟨h0, nm, dl, a, b, r, e1, e2, e3⟩, hlt⟩ := hE p (List.mem_of_getElem? hp)
    have hpb := hb p (List.mem_of_getElem? hp)
    refine AsgP.bd fun N' hN => ?_
    repeat trivial
    refine EvalP.callFlat (F := .ref va) (M := .ref ta) T ?_ (by decide +kernel) (by with_unfolding_all rfl) (by with_unfolding_all rfl) (by with_unfolding_all rfl) (by with_unfolding_all rfl)
    repeat trivial
    refine domain_of_ok T hv h0 e1 (by lia) ?_
    repeat trivial
    refine least_ok' T e2 ?_
    refine ValP.mul hpb ?_
    repeat trivial
    refine EvalP.callFlat (F := .ref va) (M := .ref ta) T ?_ (by decide +kernel) (by with_unfolding_all rfl) (by with_unfolding_all rfl) (by with_unfolding_all rfl) (by with_unfolding_all rfl)
    repeat trivial
    refine domain_of_ok T hv h0 e1 (by lia) ?_
    repeat trivial
    refine greatest_ok T e3 ?_
    refine ValP.mul hpb ?_
    repeat trivial
    refine bi_minW (ns := [p.2 * (E p.1).1, p.2 * (E p.1).2]) .tuple (by simp) fun mn m1 m2 => ?_
    repeat trivial
    refine bi_maxW (ns := [p.2 * (E p.1).1, p.2 * (E p.1).2]) .tuple (by simp) fun mx m3 m4 => ?_
    repeat trivial
    have q1 : mn = min (p.2 * (E p.1).1) (p.2 * (E p.1).2) := by
      have := m2 _ (.head _); have := m2 _ (.tail _ (.head _))
      rcases List.mem_cons.mp m1 with e | e
      · lia
      · have := List.mem_singleton.mp e; lia
    have q2 : mx = max (p.2 * (E p.1).1) (p.2 * (E p.1).2) := by
      have := m4 _ (.head _); have := m4 _ (.tail _ (.head _))
      rcases List.mem_cons.mp m3 with e | e
      · lia
      · have := List.mem_singleton.mp e; lia
    have s1 : t.k + loB E (t.ps.take i) + mn = t.k + loB E (t.ps.take (i + 1)) := by
      rw [take_snoc hp, q1]; unfold loB; rw [List.map_append, List.sum_append]; simp; lia
    have s2 : t.k + hiB E (t.ps.take i) + mx = t.k + hiB E (t.ps.take (i + 1)) := by
      rw [take_snoc hp, q2]; unfold hiB; rw [List.map_append, List.sum_append]; simp; lia
    rw [s1, s2]
    refine hN _ _ ⟨_, ?_, rfl, rfl⟩
    exact ⟨by repeat trivial, by repeat trivial, by repeat trivial, trivial⟩
  · rintro B' σ' ⟨rfl, rfl⟩
    have hlen : (List.map AV.dat (prD t.ps)).length = t.ps.length := by simp [prD]
    rw [hlen, List.take_length]
    repeat trivial
end
-- Sem1

noncomputable abbrev Vl := Int → Int
noncomputable def Th.val (w : Vl) (t : Th) : Int := t.k + den w t.ps

inductive Kd | eq | ne | le deriving DecidableEq
noncomputable def Kd.s : Kd → Str
  | .eq => "linear_eq"
  | .ne => "linear_ne"
  | .le => "linear_le"
noncomputable def Kd.rel (k : Kd) (a b : Int) : Bool := match k with
  | .eq => decide (a = b)
  | .ne => decide (a ≠ b)
  | .le => decide (a ≤ b)

noncomputable abbrev lits (xs : List Int) : List PyData := xs.map PyData.int
/- What is told. -/
inductive Tl
  | lin (kd : Kd) (ps : List (Int × Int)) (c : Int)
  | reif (b : Int) (ps : List (Int × Int)) (c : Int)
  | cnt (xs : List Int) (v z : Int)
  | cls (us ds : List Int)
noncomputable abbrev linD (kd : Kd) (ps : List (Int × Int)) (c : Int) : PyData := .tuple [.str kd.s, .tuple (lits (ps.map (·.2))), .tuple (lits (ps.map (·.1))), .int c]
noncomputable def Tl.d : Tl → PyData
  | .lin kd ps c => linD kd ps c
  | .reif b ps c => .tuple [.str "reif", .int b, linD .eq ps c]
  | .cnt xs v z => .tuple [.str "count", .tuple (lits xs), .int v, .int z]
  | .cls us ds => .tuple [.str "clause", .tuple (lits us), .tuple (lits ds)]
noncomputable def Tl.about : Tl → List Int
  | .lin _ ps _ => ps.map (·.1)
  | .reif b ps _ => b :: ps.map (·.1)
  | .cnt xs _ z => xs ++ [z]
  | .cls us ds => us ++ ds
noncomputable def Tl.holds (w : Vl) : Tl → Bool
  | .lin kd ps c => kd.rel (den w ps) c
  | .reif b ps c => decide (den w ps = c) == decide (w b = 1)
  | .cnt xs v z => decide (((xs.map w).count v : Int) = w z)
  | .cls us ds => decide (1 ∈ us.map w) || decide (0 ∈ ds.map w)

theorem den_congr {w w' : Vl} {ps : List (Int × Int)} (h : ∀ p ∈ ps, w p.1 = w' p.1) : den w ps = den w' ps := by
  unfold den
  congr 1
  exact List.map_congr_left fun p m => by rw [h p m]
theorem Tl.holds_congr {w w' : Vl} (t : Tl) (h : ∀ x ∈ t.about, w x = w' x) : t.holds w = t.holds w' := by
  cases t with
  | lin kd ps c =>
    have := den_congr (w := w) (w' := w') (ps := ps) fun p m => h _ (List.mem_map.mpr ⟨p, m, rfl⟩)
    simp only [Tl.holds, this]
  | reif b ps c =>
    have := den_congr (w := w) (w' := w') (ps := ps) fun p m => h _ (.tail _ (List.mem_map.mpr ⟨p, m, rfl⟩))
    simp only [Tl.holds, this, h b (.head _)]
  | cnt xs v z =>
    have e : xs.map w = xs.map w' := List.map_congr_left fun x m => h x (List.mem_append_left _ m)
    simp only [Tl.holds, e, h z (List.mem_append_right _ (.head _))]
  | cls us ds =>
    have e : us.map w = us.map w' := List.map_congr_left fun x m => h x (List.mem_append_left _ m)
    have e' : ds.map w = ds.map w' := List.map_congr_left fun x m => h x (List.mem_append_right _ m)
    simp only [Tl.holds, e, e']

noncomputable def Tl.ok : Tl → Prop
  | .lin _ ps _ => (∀ p ∈ ps, p.2.natAbs ≤ 2 ^ 20) ∧ ps.length ≤ 1001
  | .reif _ ps _ => (∀ p ∈ ps, p.2.natAbs ≤ 2 ^ 20) ∧ ps.length ≤ 1001
  | .cnt xs _ _ => xs.length ≤ 1000
  | .cls us ds => us.length ≤ 1000 ∧ ds.length ≤ 1000
noncomputable abbrev Dl := List (Int × Int)
noncomputable def InDom (dl : Dl) (v : Int) : Prop := ∃ p ∈ dl, p.1 ≤ v ∧ v ≤ p.2
noncomputable def ends (dl : Dl) : Int × Int := ((dl.head?.getD (0, 0)).1, (dl.getLast?.getD (0, 0)).2)
structure DomOK (dl : Dl) : Prop where
  ne : dl ≠ []
  inn : ∀ v, InDom dl v → (ends dl).1 ≤ v ∧ v ≤ (ends dl).2
  bd : ∀ p ∈ dl, p.1.natAbs ≤ 2 ^ 18 ∧ p.2.natAbs ≤ 2 ^ 18
theorem DomOK.one {lo hi : Int} (h : lo.natAbs ≤ 2 ^ 18) (h' : hi.natAbs ≤ 2 ^ 18) : DomOK [(lo, hi)] := ⟨by simp, fun v ⟨p, m, a, b⟩ => by
  rcases List.mem_singleton.mp m with rfl
  exact ⟨a, b⟩, fun p m => by rcases List.mem_singleton.mp m with rfl; exact ⟨h, h'⟩⟩
theorem inDom_one {lo hi v : Int} : InDom [(lo, hi)] v ↔ lo ≤ v ∧ v ≤ hi := ⟨fun ⟨p, m, a, b⟩ => by
  rcases List.mem_singleton.mp m with rfl
  exact ⟨a, b⟩, fun h => ⟨_, .head _, h⟩⟩

noncomputable abbrev Vr := Str × Dl
noncomputable def vD (v : Vr) : PyData := .tuple [.str v.1, .tuple (prD v.2)]
noncomputable def top (xs : List Int) : Int := xs.foldl max (-1)
noncomputable def at1 (w : Vl) (i v : Int) : Vl := fun j => if j = i then v else w j

noncomputable abbrev reifK (ps : List (Int × Int)) (c : Int) : PyData := .tuple [.str "reif", linD .eq ps c]
noncomputable abbrev cntK (xs : List Int) (v : Int) : PyData := .tuple [.str "count", .tuple (lits xs), .int v]

/- What has been made. -/
structure Mo (ι : Type) where
  W : ι → Vl
  vs : List Vr
  ts : List Tl
  md : List (PyData × Int)

section
variable {ι : Type}
noncomputable def Mo.dl (m : Mo ι) (x : Int) : Dl := ((m.vs[x.toNat]?).getD ("", [])).2
noncomputable def Mo.E (m : Mo ι) (x : Int) : Int × Int := ends (m.dl x)
noncomputable def Mo.has (m : Mo ι) (x : Int) : Prop := 0 ≤ x ∧ x < m.vs.length
/- What a key says of its var. -/
noncomputable def Mo.says (m : Mo ι) (k : PyData) (z : Int) : Prop :=
  (∀ ps c, k = sumD ps c → (∀ p ∈ ps, m.has p.1) → ∀ ρ, m.W ρ z = c + den (m.W ρ) ps) ∧
  (∀ ps c, k = reifK ps c → m.dl z = [(0, 1)] ∧ ((∀ p ∈ ps, m.has p.1) → ∀ ρ, m.W ρ z = if den (m.W ρ) ps = c then 1 else 0)) ∧
  (∀ xs v, k = cntK xs v → (∀ x ∈ xs, m.has x) → ∀ ρ, m.W ρ z = ((xs.map (m.W ρ)).count v : Nat)) ∧
  (∃ b : List Int, (∀ x ∈ b, m.has x) ∧ ((∃ ps c, k = sumD ps c ∧ b = ps.map (·.1)) ∨ (∃ ps c, k = reifK ps c ∧ b = ps.map (·.1)) ∨ ∃ xs v, k = cntK xs v ∧ b = xs))

structure Inv (m : Mo ι) : Prop where
  n3 : 3 ≤ m.vs.length
  dom : ∀ x, m.has x → DomOK (m.dl x) ∧ ∀ ρ, InDom (m.dl x) (m.W ρ x)
  tld : ∀ t ∈ m.ts, (∀ x ∈ t.about, m.has x) ∧ ∀ ρ, t.holds (m.W ρ) = true
  det : ∀ x, m.has x → 3 ≤ x → ∀ ρ v, InDom (m.dl x) v → (∀ t ∈ m.ts, top t.about = x → t.holds (at1 (m.W ρ) x v) = true) → v = m.W ρ x
  key : ∀ k z, at? m.md k = some z → m.has z ∧ m.says k z
  len : m.md.length ≤ m.vs.length
  tlen : m.ts.length ≤ m.vs.length
  one : ∀ x, m.has x → 3 ≤ x → ∃ lo hi, m.dl x = [(lo, hi)]
  tok : ∀ t ∈ m.ts, t.ok

structure Gr (k : Nat) (m m' : Mo ι) : Prop where
  len : m'.vs.length ≤ m.vs.length + k
  le : m.vs.length ≤ m'.vs.length
  at_ : ∀ i, i < m.vs.length → m'.vs[i]? = m.vs[i]?
  W : ∀ ρ x, m.has x → m'.W ρ x = m.W ρ x
theorem Gr.refl (m : Mo ι) : Gr 0 m m := ⟨by lia, by lia, fun J J => rfl, fun J J J => rfl⟩
theorem Gr.has {k} {m m' : Mo ι} (g : Gr k m m') {x : Int} (h : m.has x) : m'.has x := ⟨h.1, by have := g.le; have := h.2; lia⟩
theorem Gr.trans {k k'} {m m' m'' : Mo ι} (g : Gr k m m') (g' : Gr k' m' m'') : Gr (k + k') m m'' := ⟨by have := g.len; have := g'.len; lia, by have := g.le; have := g'.le; lia,
  fun i h => by rw [g'.at_ i (by have := g.le; lia), g.at_ i h], fun ρ x h => by rw [g'.W ρ x (g.has h), g.W ρ x h]⟩
theorem Gr.mono {k k'} {m m' : Mo ι} (g : Gr k m m') (h : k ≤ k') : Gr k' m m' := ⟨by have := g.len; lia, g.le, g.at_, g.W⟩
theorem Gr.dl {k} {m m' : Mo ι} (g : Gr k m m') {x : Int} (h : m.has x) : m'.dl x = m.dl x := by
  unfold Mo.dl; rw [g.at_ _ (by have := h.1; have := h.2; lia)]
theorem Gr.E {k} {m m' : Mo ι} (g : Gr k m m') {x : Int} (h : m.has x) : m'.E x = m.E x := by
  unfold Mo.E; rw [g.dl h]

structure TOk (m : Mo ι) (t : Th) : Prop where
  has : ∀ p ∈ t.ps, m.has p.1
  nz : ∀ p ∈ t.ps, p.2 ≠ 0
  nd : (t.ps.map (·.1)).Nodup
  bit : t.isT = true → ∀ p ∈ t.ps, m.dl p.1 = [(0, 1)]
theorem Gr.tok {k} {m m' : Mo ι} (g : Gr k m m') {t : Th} (h : TOk m t) : TOk m' t := ⟨fun p q => g.has (h.has p q), h.nz, h.nd, fun e p q => by rw [g.dl (h.has p q)]; exact h.bit e p q⟩
theorem Gr.den {k} {m m' : Mo ι} (g : Gr k m m') {ps : List (Int × Int)} (h : ∀ p ∈ ps, m.has p.1) (ρ : ι) : den (m'.W ρ) ps = den (m.W ρ) ps := den_congr fun p q => g.W ρ _ (h p q)
theorem Gr.val {k} {m m' : Mo ι} (g : Gr k m m') {t : Th} (h : TOk m t) (ρ : ι) : t.val (m'.W ρ) = t.val (m.W ρ) := by
  unfold Th.val; rw [g.den h.has]

/- Bounds: coefficients, how many parts, the constant. -/
structure TB (K L N : Nat) (t : Th) : Prop where
  co : ∀ p ∈ t.ps, p.2.natAbs ≤ K
  len : t.ps.length ≤ L
  k : t.k.natAbs ≤ N
theorem TB.mono {K L N K' L' N' t} (h : TB K L N t) (a : K ≤ K') (b : L ≤ L') (e : N ≤ N') : TB K' L' N' t := ⟨fun p m => Nat.le_trans (h.co p m) a, Nat.le_trans h.len b, Nat.le_trans h.k e⟩

/- The state bears what has been made. -/
structure Ok (σ : Sg) (va ta ma : Addr) (m : Mo ι) : Prop where
  hv : (va, OB.lst (m.vs.map vD)) ∈ σ
  ht : (ta, OB.lst (m.ts.map Tl.d)) ∈ σ
  hm : (ma, OB.dT m.md) ∈ σ
  vt : va ≠ ta
  vm : va ≠ ma
  tm : ta ≠ ma
  inv : Inv m
theorem Ok.ext {σ σ' : Sg} {va ta ma : Addr} {m : Mo ι} (o : Ok σ va ta ma m) (e : Ext [] σ σ') : Ok σ' va ta ma m := ⟨e.keep _ o.hv (by simp), e.keep _ o.ht (by simp), e.keep _ o.hm (by simp), o.vt, o.vm, o.tm, o.inv⟩
theorem Ok.extX {σ σ' : Sg} {va ta ma : Addr} {m : Mo ι} (o : Ok σ va ta ma m) {X : List Addr} (e : Ext X σ σ') (h1 : va ∉ X) (h2 : ta ∉ X) (h3 : ma ∉ X) : Ok σ' va ta ma m := ⟨e.keep _ o.hv h1, e.keep _ o.ht h2, e.keep _ o.hm h3, o.vt, o.vm, o.tm, o.inv⟩

theorem Mo.dl_at {m : Mo ι} {x : Int} (h : m.has x) : ∃ nm, m.vs[x.toNat]? = some (nm, m.dl x) := by
  obtain ⟨h0, h1⟩ := h
  have : x.toNat < m.vs.length := by lia
  refine ⟨(m.vs[x.toNat]).1, ?_⟩
  unfold Mo.dl
  rw [List.getElem?_eq_getElem this]; rfl
theorem endsAt_of {m : Mo ι} (I : Inv m) {x : Int} (h : m.has x) : EndsAt (m.vs.map vD) x (m.E x).1 (m.E x).2 := by
  obtain ⟨nm, e⟩ := m.dl_at h
  have hd := (I.dom x h).1
  obtain ⟨p, r, hp⟩ := List.exists_cons_of_ne_nil hd.ne
  obtain ⟨q, hq⟩ : ∃ q, (m.dl x).getLast? = some q := by rw [hp]; exact ⟨_, List.getLast?_cons ..⟩
  refine ⟨h.1, .str nm, m.dl x, p.2, q.1, r, ?_, ?_, ?_⟩
  · rw [List.getElem?_map, e]; rfl
  · unfold Mo.E ends; rw [hp]; rfl
  · unfold Mo.E ends; rw [hq]; rfl
theorem E_in {m : Mo ι} (I : Inv m) {x : Int} (h : m.has x) (ρ : ι) : (m.E x).1 ≤ m.W ρ x ∧ m.W ρ x ≤ (m.E x).2 := (I.dom x h).1.inn _ ((I.dom x h).2 ρ)
theorem E_bd {m : Mo ι} (I : Inv m) {x : Int} (h : m.has x) : (m.E x).1.natAbs ≤ 2 ^ 18 ∧ (m.E x).2.natAbs ≤ 2 ^ 18 := by
  have hd := (I.dom x h).1
  obtain ⟨p, r, hp⟩ := List.exists_cons_of_ne_nil hd.ne
  obtain ⟨q, hq⟩ : ∃ q, (m.dl x).getLast? = some q := by rw [hp]; exact ⟨_, List.getLast?_cons ..⟩
  unfold Mo.E ends
  rw [hq, hp]
  exact ⟨(hd.bd p (by rw [hp]; exact .head _)).1, (hd.bd q (List.mem_of_getLast? hq)).2⟩

theorem mul_between {a lo hi w : Int} (h1 : lo ≤ w) (h2 : w ≤ hi) : min (a * lo) (a * hi) ≤ a * w ∧ a * w ≤ max (a * lo) (a * hi) := by
  rcases Int.le_total 0 a with h | h
  · have := Int.mul_le_mul_of_nonneg_left h1 h
    have := Int.mul_le_mul_of_nonneg_left h2 h
    omega
  · have := Int.mul_le_mul_of_nonpos_left h h1
    have := Int.mul_le_mul_of_nonpos_left h h2
    omega
theorem lo_hi {E : Int → Int × Int} {w : Vl} : ∀ {ps : List (Int × Int)}, (∀ p ∈ ps, (E p.1).1 ≤ w p.1 ∧ w p.1 ≤ (E p.1).2) → loB E ps ≤ den w ps ∧ den w ps ≤ hiB E ps
  | [], _ => by simp [loB, hiB, den]
  | p :: ps, h => by
    have := lo_hi (ps := ps) fun q m => h q (.tail _ m)
    have := mul_between (a := p.2) (h p (.head _)).1 (h p (.head _)).2
    rw [den_cons]
    simp only [loB, hiB, List.map_cons, List.sum_cons] at *
    lia
theorem Inv.lohi {m : Mo ι} (I : Inv m) {ps : List (Int × Int)} (h : ∀ p ∈ ps, m.has p.1) (ρ : ι) : loB m.E ps ≤ den (m.W ρ) ps ∧ den (m.W ρ) ps ≤ hiB m.E ps := lo_hi fun p q => E_in I (h p q) ρ
theorem lo_congr {E E' : Int → Int × Int} {ps : List (Int × Int)} (h : ∀ p ∈ ps, E p.1 = E' p.1) : loB E ps = loB E' ps ∧ hiB E ps = hiB E' ps := by
  unfold loB hiB
  constructor <;> (congr 1; exact List.map_congr_left fun p m => by rw [h p m])

theorem top_ge {xs : List Int} {x : Int} (h : x ∈ xs) : x ≤ top xs := by
  have key : ∀ (xs : List Int) (a : Int), (a ≤ xs.foldl max a) ∧ ∀ x ∈ xs, x ≤ xs.foldl max a := by
    intro xs
    induction xs with
    | nil => exact fun a => ⟨Int.le_refl _, fun J m => nomatch m⟩
    | cons y r ih =>
      intro a
      obtain ⟨p, q⟩ := ih (max a y)
      refine ⟨by rw [List.foldl_cons]; lia, fun x m => ?_⟩
      rw [List.foldl_cons]
      rcases List.mem_cons.mp m with rfl | m
      · lia
      · exact q x m
  exact (key xs _).2 x h
theorem top_le {xs : List Int} {b : Int} (h : ∀ x ∈ xs, x ≤ b) (hb : -1 ≤ b) : top xs ≤ b := by
  have key : ∀ (xs : List Int) (a : Int), a ≤ b → (∀ x ∈ xs, x ≤ b) → xs.foldl max a ≤ b := by
    intro xs
    induction xs with
    | nil => exact fun a h J => h
    | cons y r ih => exact fun a h h' => ih _ (by have := h' y (.head _); lia) fun x m => h' x (.tail _ m)
  exact key xs _ hb h
theorem top_is {xs : List Int} {b : Int} (h : ∀ x ∈ xs, x ≤ b) (hm : b ∈ xs) (hb : -1 ≤ b) : top xs = b := by
  have := top_le h hb; have := top_ge hm; lia
theorem top_mem {xs : List Int} : top xs = -1 ∨ top xs ∈ xs := by
  have key : ∀ (xs : List Int) (a : Int), xs.foldl max a = a ∨ xs.foldl max a ∈ xs := by
    intro xs
    induction xs with
    | nil => exact fun a => .inl rfl
    | cons y r ih =>
      intro a
      rw [List.foldl_cons]
      rcases ih (max a y) with h | h
      · rw [h]
        rcases Int.le_total a y with q | q
        · right; rw [Int.max_eq_right q]; exact .head _
        · left; exact Int.max_eq_left q
      · exact .inr (.tail _ h)
  exact key xs _

theorem at_append {β : Type} {md : List (PyData × β)} {k k' : PyData} {z : β} (h : at? md k = none) : at? (put md k z) k' = if k' = k then some z else at? md k' := by
  by_cases e : k' = k
  · subst e; rw [if_pos rfl]; exact at_put h
  · rw [if_neg e]
    have h0 : md.any (fun p => decide (p.1 = k)) = false := by
      unfold at? at h
      rw [Option.map_eq_none_iff, List.find?_eq_none] at h
      rw [List.any_eq_false]; exact h
    unfold put
    rw [if_neg (by rw [h0]; decide)]
    unfold at?
    rw [List.find?_append]
    cases md.find? (fun p => decide (p.1 = k')) with
    | some p => rfl
    | none => simp [Ne.symm e]

/- A new var. -/
noncomputable def Mo.more (m : Mo ι) (nm : Str) (lo hi : Int) (g : ι → Int) (T : List Tl) (k : PyData) : Mo ι :=
  ⟨fun ρ => at1 (m.W ρ) m.vs.length (g ρ), m.vs ++ [(nm, [(lo, hi)])], m.ts ++ T, put m.md k m.vs.length⟩
theorem more_gr {m : Mo ι} {nm lo hi g T k} : Gr 1 m (m.more nm lo hi g T k) := ⟨by simp [Mo.more], by simp [Mo.more], fun i h => by simp [Mo.more, List.getElem?_append_left h], fun ρ x h => by
  show (if x = _ then _ else _) = _
  rw [if_neg (by have := h.2; lia)]⟩
theorem more_W {m : Mo ι} {nm lo hi g T k} {ρ : ι} : (m.more nm lo hi g T k).W ρ m.vs.length = g ρ := if_pos rfl
theorem more_dl {m : Mo ι} {nm lo hi g T k} : (m.more nm lo hi g T k).dl m.vs.length = [(lo, hi)] := by
  unfold Mo.dl Mo.more
  simp
theorem more_has {m : Mo ι} {nm lo hi g T k} : (m.more nm lo hi g T k).has m.vs.length := ⟨by lia, by simp [Mo.more]; lia⟩
theorem lits_inj : ∀ {a b : List Int}, lits a = lits b → a = b
  | [], [], _ => rfl
  | x :: a, y :: b, h => by
    simp only [lits, List.map_cons, List.cons.injEq, PyData.int.injEq] at h
    rw [h.1, lits_inj h.2]
  | [], _ :: _, h => by simp [lits] at h
  | _ :: _, [], h => by simp [lits] at h
theorem prD_inj : ∀ {a b : List (Int × Int)}, prD a = prD b → a = b
  | [], [], _ => rfl
  | x :: a, y :: b, h => by
    simp only [prD, List.map_cons, List.cons.injEq, PyData.tuple.injEq, PyData.int.injEq, and_true] at h
    obtain ⟨⟨q1, q2⟩, q3⟩ := h
    rw [Prod.ext q1 q2, prD_inj q3]
  | [], _ :: _, h => by simp [prD] at h
  | _ :: _, [], h => by simp [prD] at h
theorem key_sr {ps c ps' c'} : sumD ps c ≠ reifK ps' c' := fun e => by simp at e
theorem key_sc {ps c xs v} : sumD ps c ≠ cntK xs v := fun e => by
  simp only [PyData.tuple.injEq, List.cons.injEq, PyData.str.injEq] at e
  exact absurd e.1 (by decide +kernel)
theorem key_rc {ps c xs v} : reifK ps c ≠ cntK xs v := fun e => by simp at e
theorem says_gr {n} {m m' : Mo ι} (g : Gr n m m') {k z} (hz : m.has z) (h : m.says k z) : m'.says k z := by
  obtain ⟨h1, h2, h3, b, hb, h4⟩ := h
  refine ⟨fun ps c e q ρ => ?_, fun ps c e => ⟨?_, fun q ρ => ?_⟩, fun xs v e q ρ => ?_, b, fun x q => g.has (hb x q), h4⟩
  · rcases h4 with ⟨ps', c', e', rfl⟩ | ⟨ps', c', e', rfl⟩ | ⟨xs', v', e', rfl⟩
    · have e2 := e.symm.trans e'
      simp only [PyData.tuple.injEq, List.cons.injEq, PyData.int.injEq, and_true, true_and] at e2
      have e3 := prD_inj e2.1
      subst e3
      have hh : ∀ p ∈ ps, m.has p.1 := fun p q => hb _ (List.mem_map.mpr ⟨p, q, rfl⟩)
      rw [g.W ρ z hz, h1 ps c e hh, g.den hh]
    · exact absurd (e.symm.trans e') key_sr
    · exact absurd (e.symm.trans e') key_sc
  · rw [g.dl hz]; exact (h2 ps c e).1
  · rcases h4 with ⟨ps', c', e', rfl⟩ | ⟨ps', c', e', rfl⟩ | ⟨xs', v', e', rfl⟩
    · exact absurd (e'.symm.trans e) key_sr
    · have e2 := e.symm.trans e'
      simp only [PyData.tuple.injEq, List.cons.injEq, PyData.int.injEq, and_true, true_and] at e2
      have hh : ∀ p ∈ ps, m.has p.1 := fun p q => by
        have : p.1 ∈ ps'.map (·.1) := by rw [← lits_inj e2.2.1]; exact List.mem_map.mpr ⟨p, q, rfl⟩
        exact hb _ this
      rw [g.W ρ z hz, (h2 ps c e).2 hh, g.den hh]
    · exact absurd (e.symm.trans e') key_rc
  · rcases h4 with ⟨ps', c', e', rfl⟩ | ⟨ps', c', e', rfl⟩ | ⟨xs', v', e', rfl⟩
    · exact absurd (e'.symm.trans e) key_sc
    · exact absurd (e'.symm.trans e) key_rc
    · have e2 := e.symm.trans e'
      simp only [PyData.tuple.injEq, List.cons.injEq, PyData.int.injEq, and_true, true_and] at e2
      have e3 := lits_inj e2.1
      subst e3
      have : xs.map (m'.W ρ) = xs.map (m.W ρ) := List.map_congr_left fun x q => g.W ρ x (hb x q)
      rw [g.W ρ z hz, this, h3 xs v e hb]

theorem Inv.new {m : Mo ι} (I : Inv m) {nm : Str} {lo hi : Int} {g : ι → Int} {T : List Tl} {k : PyData} (hk : at? m.md k = none) (hlo : lo.natAbs ≤ 2 ^ 18) (hhi : hi.natAbs ≤ 2 ^ 18) (hg : ∀ ρ, lo ≤ g ρ ∧ g ρ ≤ hi)
    (hT : T.length ≤ 1) (hTa : ∀ t ∈ T, ∀ x ∈ t.about, 0 ≤ x ∧ x ≤ m.vs.length) (hTh : ∀ t ∈ T, ∀ ρ, t.holds (at1 (m.W ρ) m.vs.length (g ρ)) = true)
    (hd : ∀ ρ v, lo ≤ v → v ≤ hi → (∀ t ∈ T, t.holds (at1 (m.W ρ) m.vs.length v) = true) → v = g ρ) (hTt : ∀ t ∈ T, (m.vs.length : Int) ∈ t.about) (hTo : ∀ t ∈ T, t.ok)
    (hs : (m.more nm lo hi g T k).says k m.vs.length) : Inv (m.more nm lo hi g T k) := by
  have G : Gr 1 m (m.more nm lo hi g T k) := more_gr
  have hn : (m.more nm lo hi g T k).vs.length = m.vs.length + 1 := by simp [Mo.more]
  have cs : ∀ x, (m.more nm lo hi g T k).has x → m.has x ∨ x = m.vs.length := fun x h => by
    obtain ⟨a, b⟩ := h
    rw [hn] at b
    by_cases e : x = m.vs.length
    · exact .inr e
    · exact .inl ⟨a, by lia⟩
  constructor
  · rw [hn]; have := I.n3; lia
  · intro x h
    rcases cs x h with h | rfl
    · rw [G.dl h]
      exact ⟨(I.dom x h).1, fun ρ => by rw [G.W ρ x h]; exact (I.dom x h).2 ρ⟩
    · rw [more_dl]
      exact ⟨.one hlo hhi, fun ρ => by rw [more_W]; exact inDom_one.mpr (hg ρ)⟩
  · intro t ht
    rcases List.mem_append.mp ht with ht | ht
    · obtain ⟨h1, h2⟩ := I.tld t ht
      refine ⟨fun x q => G.has (h1 x q), fun ρ => ?_⟩
      rw [t.holds_congr (w' := m.W ρ) fun x q => G.W ρ x (h1 x q)]
      exact h2 ρ
    · exact ⟨fun x q => ⟨(hTa t ht x q).1, by rw [hn]; have := (hTa t ht x q).2; lia⟩, fun ρ => hTh t ht ρ⟩
  · intro x h h3 ρ v hv hall
    rcases cs x h with h | rfl
    · rw [G.dl h] at hv
      rw [G.W ρ x h]
      refine I.det x h h3 ρ v hv fun t ht e => ?_
      have := hall t (List.mem_append_left _ ht) e
      rw [← this]
      refine t.holds_congr fun y q => ?_
      unfold at1
      by_cases e2 : y = x
      · rw [if_pos e2, if_pos e2]
      · rw [if_neg e2, if_neg e2]
        exact (G.W ρ y ((I.tld t ht).1 y q)).symm
    · rw [more_dl] at hv
      obtain ⟨a, b⟩ := inDom_one.mp hv
      rw [more_W]
      refine hd ρ v a b fun t ht => ?_
      have e : top t.about = m.vs.length := top_is (fun x q => (hTa t ht x q).2) (hTt t ht) (by lia)
      have := hall t (List.mem_append_right _ ht) e
      rw [← this]
      refine t.holds_congr fun y q => ?_
      show at1 _ _ _ _ = at1 (at1 _ _ _) _ _ _
      unfold at1
      split <;> rfl
  · intro k' z h
    have h' : at? (put m.md k (m.vs.length : Int)) k' = some z := h
    rw [at_append hk] at h'
    split at h'
    · rename_i e
      cases h'; subst e
      exact ⟨more_has, hs⟩
    · obtain ⟨h1, h2⟩ := I.key k' z h'
      exact ⟨G.has h1, says_gr G h1 h2⟩
  · rw [hn]
    show (put m.md k (m.vs.length : Int)).length ≤ _
    have : (put m.md k (m.vs.length : Int)).length ≤ m.md.length + 1 := by
      unfold put; split <;> simp
    have := I.len; lia
  · rw [hn]
    show (m.ts ++ T).length ≤ _
    have := I.tlen
    rw [List.length_append]; lia
  · intro x h h3
    rcases cs x h with h | rfl
    · rw [G.dl h]; exact I.one x h h3
    · exact ⟨lo, hi, more_dl⟩
  · intro t ht
    rcases List.mem_append.mp ht with ht | ht
    · exact I.tok t ht
    · exact hTo t ht
end
-- Sem2
section
variable {ι : Type} {m : Mo ι}

theorem den_at1 {w : Vl} {n v : Int} {ps : List (Int × Int)} (h : ∀ p ∈ ps, p.1 ≠ n) : den (at1 w n v) ps = den w ps := den_congr fun p q => if_neg (h p q)
theorem Mo.has.ne {x : Int} (h : m.has x) : x ≠ m.vs.length := fun e => by have := h.2; lia
theorem has_lt {ps : List (Int × Int)} (h : ∀ p ∈ ps, m.has p.1) : ∀ p ∈ ps, p.1 ≠ (m.vs.length : Int) := fun p q => (h p q).ne
theorem at1_self {w : Vl} {n v : Int} : at1 w n v n = v := if_pos rfl

theorem lo_le_hi {E : Int → Int × Int} : ∀ {ps : List (Int × Int)}, loB E ps ≤ hiB E ps
  | [] => by simp [loB, hiB]
  | p :: ps => by
    have := lo_le_hi (E := E) (ps := ps)
    simp only [loB, hiB, List.map_cons, List.sum_cons] at *
    lia

/- var_of makes a new var. -/
theorem inv_sum (I : Inv m) {nm : Str} {t : Th} (hb : (∀ p ∈ t.ps, p.2.natAbs ≤ 2 ^ 20) ∧ t.ps.length ≤ 1000) (ht : ∀ p ∈ t.ps, m.has p.1) (hk : at? m.md (sumD t.ps t.k) = none) (hlo : (t.k + loB m.E t.ps).natAbs ≤ 2 ^ 18) (hhi : (t.k + hiB m.E t.ps).natAbs ≤ 2 ^ 18) :
    Inv (m.more nm (t.k + loB m.E t.ps) (t.k + hiB m.E t.ps) (fun ρ => t.val (m.W ρ)) (if t.ps = [] then [] else [.lin .eq (t.ps ++ [((m.vs.length : Int), -1)]) (-t.k)]) (sumD t.ps t.k)) := by
  have hne := has_lt ht
  have hden : ∀ ρ v, den (at1 (m.W ρ) m.vs.length v) (t.ps ++ [((m.vs.length : Int), -1)]) = den (m.W ρ) t.ps - v := fun ρ v => by
    rw [den_append, den_at1 hne, den_cons, den_nil, at1_self]; lia
  have hT : ∀ T ∈ (if t.ps = [] then [] else [Tl.lin .eq (t.ps ++ [((m.vs.length : Int), -1)]) (-t.k)]), T = Tl.lin .eq (t.ps ++ [((m.vs.length : Int), -1)]) (-t.k) := fun T q => by
    split at q
    · cases q
    · exact List.mem_singleton.mp q
  refine Inv.new I hk hlo hhi (fun ρ => ?_) (by split <;> simp) (fun T q x hx => ?_) (fun T q ρ => ?_) (fun ρ v h1 h2 hall => ?_) (fun T q => ?_) (fun T q => ?_) ?_
  · have := I.lohi ht ρ
    show _ ≤ t.k + _ ∧ t.k + _ ≤ _
    lia
  · rw [hT T q] at hx
    obtain ⟨p, hp, rfl⟩ := List.mem_map.mp hx
    rcases List.mem_append.mp hp with hp | hp
    · have := ht p hp; exact ⟨this.1, by have := this.2; lia⟩
    · rcases List.mem_singleton.mp hp with rfl
      exact ⟨by lia, by lia⟩
  · rw [hT T q]
    show decide (den _ _ = _) = true
    rw [hden]; unfold Th.val; exact decide_eq_true (by lia)
  · by_cases e : t.ps = []
    · simp only [e, loB, hiB, Th.val, den, List.map_nil, List.sum_nil] at *
      lia
    · rw [if_neg e] at hall
      have := hall _ (.head _)
      have := of_decide_eq_true (show decide (den _ _ = _) = true from this)
      rw [hden] at this
      unfold Th.val; lia
  · rw [hT T q]
    show _ ∈ List.map _ _
    simp
  · rw [hT T q]
    refine ⟨fun p q => ?_, ?_⟩
    · rcases List.mem_append.mp q with q | q
      · exact hb.1 p q
      · rcases List.mem_singleton.mp q with rfl
        show (-1 : Int).natAbs ≤ _
        decide
    · rw [List.length_append]; have := hb.2; show _ + 1 ≤ _; lia
  · have hh : ∀ ps c, sumD t.ps t.k = sumD ps c → ps = t.ps ∧ c = t.k := fun ps c e => by
      simp only [PyData.tuple.injEq, List.cons.injEq, PyData.int.injEq, and_true, true_and] at e
      exact ⟨(prD_inj e.1).symm, e.2.symm⟩
    refine ⟨fun ps c e q ρ => ?_, fun ps c e => absurd e key_sr, fun xs v e => absurd e key_sc, t.ps.map (·.1), fun x q => ?_, .inl ⟨t.ps, t.k, rfl, rfl⟩⟩
    · obtain ⟨rfl, rfl⟩ := hh ps c e
      rw [more_W]
      show _ = t.k + den (at1 _ _ _) _
      rw [den_at1 hne]; rfl
    · obtain ⟨p, hp, rfl⟩ := List.mem_map.mp q
      exact more_gr.has (ht p hp)
/- told_truth makes a new var. -/
theorem inv_reif (I : Inv m) {nm : Str} {ps : List (Int × Int)} {c : Int} (hb : (∀ p ∈ ps, p.2.natAbs ≤ 2 ^ 20) ∧ ps.length ≤ 1000) (ht : ∀ p ∈ ps, m.has p.1) (hk : at? m.md (reifK ps c) = none) :
    Inv (m.more nm 0 1 (fun ρ => if den (m.W ρ) ps = c then 1 else 0) [.reif m.vs.length ps c] (reifK ps c)) := by
  have hne := has_lt ht
  have hh : ∀ ρ v, (Tl.reif m.vs.length ps c).holds (at1 (m.W ρ) m.vs.length v) = (decide (den (m.W ρ) ps = c) == decide (v = 1)) := fun ρ v => by
    show (decide (den _ _ = _) == decide (at1 _ _ _ _ = _)) = _
    rw [den_at1 hne, at1_self]
  refine Inv.new I hk (by decide) (by decide) (fun ρ => ?_) (by simp) (fun T q x hx => ?_) (fun T q ρ => ?_) (fun ρ v h1 h2 hall => ?_) (fun T q => ?_) (fun T q => ?_) ?_
  · show (0:Int) ≤ (if den (m.W ρ) ps = c then 1 else 0) ∧ (if den (m.W ρ) ps = c then (1:Int) else 0) ≤ 1
    split <;> lia
  · rcases List.mem_singleton.mp q with rfl
    rcases List.mem_cons.mp hx with rfl | hx
    · exact ⟨by lia, by lia⟩
    · obtain ⟨p, hp, rfl⟩ := List.mem_map.mp hx
      have := ht p hp; exact ⟨this.1, by have := this.2; lia⟩
  · rcases List.mem_singleton.mp q with rfl
    rw [hh]
    show (_ == decide ((if den (m.W ρ) ps = c then (1:Int) else 0) = (1 : Int))) = true
    split <;> simp [*]
  · have := hall _ (.head _)
    rw [hh] at this
    show v = if den (m.W ρ) ps = c then (1:Int) else 0
    split
    · rename_i e; simpa [e] using this
    · rename_i e
      have : v ≠ 1 := by simpa [e] using this
      lia
  · rcases List.mem_singleton.mp q with rfl
    exact .head _
  · rcases List.mem_singleton.mp q with rfl
    exact ⟨hb.1, Nat.le_succ_of_le hb.2⟩
  · refine ⟨fun ps c e => absurd e.symm key_sr, fun ps' c' e => ?_, fun xs v e => absurd e key_rc, ps.map (·.1), fun x q => ?_, .inr (.inl ⟨ps, c, rfl, rfl⟩)⟩
    · refine ⟨more_dl, fun q ρ => ?_⟩
      simp only [PyData.tuple.injEq, List.cons.injEq, PyData.int.injEq, and_true, true_and] at e
      obtain ⟨e1, e2, rfl⟩ := e
      have e3 : ps = ps' := by
        have a1 := lits_inj e1; have a2 := lits_inj e2
        clear hh hne ht hk q e1 e2 hb
        induction ps generalizing ps' with
        | nil => cases ps' with
          | nil => rfl
          | cons J J => simp at a1
        | cons p r ih => cases ps' with
          | nil => simp at a1
          | cons p' r' =>
            simp only [List.map_cons, List.cons.injEq] at a1 a2
            rw [Prod.ext a2.1 a1.1, ih r' a1.2 a2.2]
      subst e3
      rw [more_W]
      show _ = if den (at1 (m.W ρ) _ _) ps = c then (1:Int) else 0
      rw [den_at1 hne]
    · obtain ⟨p, hp, rfl⟩ := List.mem_map.mp q
      exact more_gr.has (ht p hp)
/- made_number makes a new var. -/
theorem inv_cnt (I : Inv m) {nm : Str} {xs : List Int} {v : Int} (ht : ∀ x ∈ xs, m.has x) (hl : xs.length ≤ 1000) (hk : at? m.md (cntK xs v) = none) :
    Inv (m.more nm 0 xs.length (fun ρ => ((xs.map (m.W ρ)).count v : Nat)) [.cnt xs v m.vs.length] (cntK xs v)) := by
  have hmap : ∀ ρ u, xs.map (at1 (m.W ρ) m.vs.length u) = xs.map (m.W ρ) := fun ρ u => List.map_congr_left fun x q => if_neg (ht x q).ne
  have hh : ∀ ρ u, (Tl.cnt xs v m.vs.length).holds (at1 (m.W ρ) m.vs.length u) = decide ((((xs.map (m.W ρ)).count v : Nat) : Int) = u) := fun ρ u => by
    show decide (_ = at1 _ _ _ _) = _
    rw [hmap, at1_self]
  refine Inv.new I hk (by decide) (by lia) (fun ρ => ?_) (by simp) (fun T q x hx => ?_) (fun T q ρ => ?_) (fun ρ u h1 h2 hall => ?_) (fun T q => ?_) (fun T q => ?_) ?_
  · have := List.count_le_length (a := v) (l := xs.map (m.W ρ))
    rw [List.length_map] at this
    show (0 : Int) ≤ ((_ : Nat) : Int) ∧ ((_ : Nat) : Int) ≤ _
    lia
  · rcases List.mem_singleton.mp q with rfl
    rcases List.mem_append.mp hx with hx | hx
    · have := ht x hx; exact ⟨this.1, by have := this.2; lia⟩
    · rcases List.mem_singleton.mp hx with rfl
      exact ⟨by lia, by lia⟩
  · rcases List.mem_singleton.mp q with rfl
    rw [hh]; exact decide_eq_true rfl
  · have := hall _ (.head _)
    rw [hh] at this
    exact (of_decide_eq_true this).symm
  · rcases List.mem_singleton.mp q with rfl
    exact List.mem_append_right _ (.head _)
  · rcases List.mem_singleton.mp q with rfl
    exact hl
  · refine ⟨fun ps c e => absurd e.symm key_sc, fun ps' c' e => absurd e.symm key_rc, fun xs' v' e q ρ => ?_, xs, fun x q => more_gr.has (ht x q), .inr (.inr ⟨xs, v, rfl, rfl⟩)⟩
    simp only [PyData.tuple.injEq, List.cons.injEq, PyData.int.injEq, and_true, true_and] at e
    obtain ⟨e1, rfl⟩ := e
    have := lits_inj e1
    subst this
    rw [more_W]
    show _ = (((xs.map (at1 _ _ _)).count v : Nat) : Int)
    rw [hmap]

theorem kOk_lits {n : Nat} (xs : List Int) : kOk (n + 1) (.tuple (lits xs)) = true := by
  simp only [kOk, List.all_eq_true]
  intro x q
  obtain ⟨i, J, rfl⟩ := List.mem_map.mp q
  cases n <;> rfl
theorem kOk_int {n : Nat} (i : Int) : kOk n (.int i) = true := by cases n <;> rfl
theorem kOk_sum (ps : List (Int × Int)) (k : Int) : kOk 8 (sumD ps k) = true := by
  have : kOk 7 (.tuple (prD ps)) = true := by
    simp only [kOk, List.all_eq_true]
    intro x q
    obtain ⟨i, J, rfl⟩ := List.mem_map.mp q
    rfl
  simp only [sumD, kOk, List.all_cons, List.all_nil, Bool.and_true] at *
  rw [this]; decide +kernel
theorem kOk_cnt (xs : List Int) (v : Int) : kOk 8 (cntK xs v) = true := by
  have := kOk_lits (n := 6) xs
  have h1 : kOk 7 (PyData.str "count") = true := by decide +kernel
  show ([PyData.str "count", .tuple (lits xs), .int v].all (kOk 7)) = true
  simp only [List.all_cons, List.all_nil, this, h1, kOk_int]; rfl
theorem kOk_reif (ps : List (Int × Int)) (c : Int) : kOk 8 (reifK ps c) = true := by
  have q1 := kOk_lits (n := 5) (ps.map (·.2))
  have q2 := kOk_lits (n := 5) (ps.map (·.1))
  have h1 : kOk 7 (PyData.str "reif") = true := by decide +kernel
  have h2 : kOk 6 (PyData.str (Kd.s .eq)) = true := by decide +kernel
  show ([PyData.str "reif", linD .eq ps c].all (kOk 7)) = true
  have h3 : kOk 7 (linD .eq ps c) = true := by
    show ([PyData.str (Kd.s .eq), .tuple (lits (ps.map (·.2))), .tuple (lits (ps.map (·.1))), .int c].all (kOk 6)) = true
    simp only [List.all_cons, List.all_nil, q1, q2, h2, kOk_int]; rfl
  simp only [List.all_cons, List.all_nil, h1, h3]; rfl
end
-- Base19
section
variable {c : Cx} {d : Nat} {sc : Scope} {B : Bs} {σ : Sg} {Q : AV → Sg → Prop}
theorem EvalP.callSelf {s n : Str} {F M : AV} {p apos args pos} (T : TopOK c) (hx : B.lookup s = some (.funs F M)) (h : EvalsP c d sc B σ args fun ys σ₂ => CallP c d (.ref (c.fn n)) (.funs F M :: ys) σ₂ Q)
    (hn : autoParam (decide (n ∈ (["once", "bounds", "var_of", "vars_of", "row", "row_truth", "told_truth", "unlike", "require_some", "require_row", "made_number", "equal", "many_of"] : List Str)) = true) trT) (hs : autoParam ((args.all fun t => !isStarred t) = true) trT) (hl : autoParam ((apos.endLine == pos.line) = true) trT) (hz : autoParam (decide (args.length < 29) = true) trT)
    (hk : autoParam ((sc.names.lookup s == some .local || sc.names.lookup s == some .cell || sc.names.lookup s == some .free) = true) trT) (hd : autoParam (((s == ("__debug__" : Str)) || (s == ("__classdict__" : Str))) = false) flT) :
    EvalP c d sc B σ (.Call (.Attribute (.Name s p) n apos) args [] pos) Q := .callFuns T (.loc hx ⟨rfl, h⟩ hk hd) hn rfl hs hl hz
theorem EvalP.callFl {s n : Str} {V U M : AV} {p p2 apos args pos} (T : TopOK c) (hx : B.lookup s = some (.funs (.flat V U) M)) (h : EvalsP c d sc B σ args fun ys σ₂ => CallP c d (.ref (c.fn n)) (.flat V U :: ys) σ₂ Q)
    (hn : autoParam (decide (n ∈ (["new_var", "post", "size", "domain_of"] : List Str)) = true) trT) (hs : autoParam ((args.all fun t => !isStarred t) = true) trT) (hl : autoParam ((apos.endLine == pos.line) = true) trT) (hz : autoParam (decide (args.length < 29) = true) trT)
    (hk : autoParam ((sc.names.lookup s == some .local || sc.names.lookup s == some .cell || sc.names.lookup s == some .free) = true) trT) (hd : autoParam (((s == ("__debug__" : Str)) || (s == ("__classdict__" : Str))) = false) flT) :
    EvalP c d sc B σ (.Call (.Attribute (.Attribute (.Name s p) "flat" p2) n apos) args [] pos) Q :=
  .callFlat T (.attr (.loc hx (.attr_flatOf T.funs (fun J e => nomatch e) ⟨rfl, h⟩) hk hd) rfl) hn rfl hs hl hz

theorem take_snoc' {α : Type} {l : List α} {i : Nat} {p : α} (h : l[i]? = some p) : l.take (i + 1) = l.take i ++ [p] := by rw [List.take_succ, h]; rfl
noncomputable abbrev CompE {α : Type} (c : Cx) (d : Nat) (sc : Scope) (B' : Bs) (σ : Sg) (x : AV) (xs : List α) (it : α → PyData) (keep : α → Bool) (f : α → PyData) (target elt : Expr) (ifs : List Expr) (K : Prop) : Prop := IterP c d σ x (xs.map fun p => .dat (it p)) ∧
  (∀ p ∈ xs, AsgP c d sc B' σ target (.dat (it p)) fun B₂ σ₂ => σ₂ = σ ∧ Cov B₂ B' ∧ IfsP c d sc B₂ σ₂ ifs fun b σ₃ => (b = keep p ∧ σ₃ = σ) ∧ (b = true → EvalP c d sc B₂ σ elt fun y σ' => y = .dat (f p) ∧ σ' = σ)) ∧ K
noncomputable abbrev CompF {α : Type} (c : Cx) (d : Nat) (sc : Scope) (B' : Bs) (σ : Sg) (x : AV) (xs : List α) (it : α → PyData) (f : α → PyData) (target elt : Expr) (K : Prop) : Prop := IterP c d σ x (xs.map fun p => .dat (it p)) ∧
  (∀ p ∈ xs, AsgP c d sc B' σ target (.dat (it p)) fun B₂ σ₂ => σ₂ = σ ∧ Cov B₂ B' ∧ EvalP c d sc B₂ σ elt fun y σ' => y = .dat (f p) ∧ σ' = σ) ∧ K
/- A comprehension of one clause that changes nothing. -/
theorem EvalP.compP {α : Type} (xs : List α) (it : α → PyData) (keep : α → Bool) (f : α → PyData) {elt target iter : Expr} {ifs : List Expr} {scope : Scope} {pos : Pos} (B' : Bs) (hcov : Cov B B') (ok : CompOK sc scope B')
    (h : EvalP c d sc B σ iter fun x σ₁ => CompE c d (relS scope sc) B' σ₁ x xs it keep f target elt ifs (Q (Li ((xs.filter keep).map f)) σ₁))
    (hl : xs.length ≤ 1000000) (hs : ∀ env x, foldedSetIterable iter env x = pure x := by intros; rfl) : EvalP c d sc B σ (.ListComp elt [⟨target, iter, ifs, 0⟩] scope pos) Q := by
  refine EvalP.comp B' hcov ok (h.mono fun x σ₁ hh => ?_) rfl hs
  obtain ⟨h1, h2, h3⟩ := hh
  refine ⟨_, fun i zs σ' => σ' = σ₁ ∧ zs = ((xs.take i).filter keep).map f, h1, ⟨rfl, rfl⟩, ?_, ?_⟩
  · rintro i y zs σ' hy ⟨rfl, rfl⟩
    simp only [List.getElem?_map, Option.map_eq_some_iff] at hy
    obtain ⟨p, hp, rfl⟩ := hy
    refine fun A s env F v rm ke hF st fr r => wpAny_mono (h2 p (List.mem_of_getElem? hp) A s env F v rm ke hF st fr r) (fun J s' hh => ?_) fun J J z => z
    obtain ⟨B₂, σ₂, q1, e, q2, q3⟩ := hh
    refine ⟨B₂, σ₂, q1, q2, ?_⟩
    subst e
    have mono : ∀ {ts : List Expr} {P P' : Bool → Sg → Prop}, IfsP c d (relS scope sc) B₂ σ₂ ts P → (∀ b σ, P b σ → P' b σ) → IfsP c d (relS scope sc) B₂ σ₂ ts P' := by
      intro ts P P' h m
      match ts, h with
      | [], h => exact m _ _ h
      | [t], h => exact TestP.mono h m
      | _ :: _ :: _, h => exact h.elim
    have e1 : ((xs.take (i + 1)).filter keep).map f = ((xs.take i).filter keep).map f ++ (if keep p then [f p] else []) := by
      rw [take_snoc' hp, List.filter_append, List.map_append]
      congr 1
      by_cases hk : keep p <;> simp [hk]
    refine mono q3 fun b σ₃ hh => ?_
    obtain ⟨⟨e2, e3⟩, q4⟩ := hh
    refine ⟨fun hb => ?_, fun hb => ?_⟩
    · subst e3
      refine (q4 hb).mono fun y σ' hh => ?_
      obtain ⟨e5, e4⟩ := hh
      subst e4
      refine ⟨f p, e5, ?_, rfl, ?_⟩
      · rw [List.length_map]
        refine Nat.le_trans (List.length_filter_le ..) (Nat.le_trans ?_ hl)
        rw [List.length_take]; lia
      · rw [e1, if_pos (by rw [← e2]; exact hb)]
    · subst e3
      refine ⟨rfl, ?_⟩
      rw [e1, if_neg (by rw [← e2, hb]; decide), List.append_nil]
  · rintro zs σ' ⟨rfl, rfl⟩
    rw [List.length_map, List.take_length]
    exact h3

theorem EvalP.compM {α : Type} (xs : List α) (it : α → PyData) (f : α → PyData) {elt target iter : Expr} {scope : Scope} {pos : Pos} (B' : Bs) (hcov : Cov B B') (ok : CompOK sc scope B')
    (h : EvalP c d sc B σ iter fun x σ₁ => CompF c d (relS scope sc) B' σ₁ x xs it f target elt (Q (Li (xs.map f)) σ₁))
    (hl : xs.length ≤ 1000000) (hs : ∀ env x, foldedSetIterable iter env x = pure x := by intros; rfl) : EvalP c d sc B σ (.ListComp elt [⟨target, iter, [], 0⟩] scope pos) Q := by
  refine EvalP.compP xs it (fun J => true) f B' hcov ok (h.mono fun x σ₁ hh => ?_) hl hs
  obtain ⟨h1, h2, h3⟩ := hh
  refine ⟨h1, fun p m => ?_, ?_⟩
  · refine fun A s env F v rm ke hF st fr r => wpAny_mono (h2 p m A s env F v rm ke hF st fr r) (fun J s' hh => ?_) fun J J z => z
    obtain ⟨B₂, σ₂, q1, e, q2, q3⟩ := hh
    exact ⟨B₂, σ₂, q1, e, q2, ⟨rfl, e⟩, fun J => q3⟩
  · have : xs.filter (fun J => true) = xs := List.filter_eq_self.mpr fun J J => rfl
    rw [this]; exact h3
theorem iter_parts {ps : List (Int × Int)} : IterP c d σ (Tu (prD ps)) (ps.map fun p => .dat (.tuple [.int p.1, .int p.2])) := by
  have := IterP.tuple (c := c) (d := d) (σ := σ) (ds := prD ps)
  rwa [prD, List.map_map] at this
theorem iter_litT {xs : List Int} : IterP c d σ (Tu (lits xs)) (xs.map fun p => .dat (.int p)) := by
  have := IterP.tuple (c := c) (d := d) (σ := σ) (ds := lits xs)
  rwa [lits, List.map_map] at this
theorem iter_litL {xs : List Int} : IterP c d σ (Li (lits xs)) (xs.map fun p => .dat (.int p)) := by
  have := IterP.list (c := c) (d := d) (σ := σ) (ds := lits xs)
  rwa [lits, List.map_map] at this
theorem iter_mapL {α : Type} {xs : List α} {f : α → PyData} : IterP c d σ (Li (xs.map f)) (xs.map fun p => .dat (f p)) := by
  have := IterP.list (c := c) (d := d) (σ := σ) (ds := xs.map f)
  rwa [List.map_map] at this
theorem iter_mapT {α : Type} {xs : List α} {f : α → PyData} : IterP c d σ (Tu (xs.map f)) (xs.map fun p => .dat (f p)) := by
  have := IterP.tuple (c := c) (d := d) (σ := σ) (ds := xs.map f)
  rwa [List.map_map] at this
theorem ExecP.mono {st : Stmt} {N N' : Bs → Sg → Prop} {R R' : AV → Sg → Prop} (h : ExecP c d sc B σ st N R) (hN : ∀ B' σ', N B' σ' → N' B' σ') (hR : ∀ x σ', R x σ' → R' x σ') : ExecP c d sc B σ st N' R' := fun A s env F rm k hF st' f =>
  wpAny_mono (h A s env F rm k hF st' f) (fun fl s₁ h₁ => by
    cases fl with
    | next => obtain ⟨B', σ', a, b⟩ := h₁; exact ⟨B', σ', a, hN _ _ b⟩
    | ret v => obtain ⟨x, B', σ', a, b, r⟩ := h₁; exact ⟨x, B', σ', a, b, hR _ _ r⟩
    | brk => exact h₁
    | cont => exact h₁) fun J J z => z
/- The first statements by themselves, to one end. -/
theorem ExecsP.split1 {s1 : Stmt} {rest : List Stmt} {N : Bs → Sg → Prop} {R : AV → Sg → Prop} (B₁ : Bs) (P : Prop) {σ₁ : Sg} (h1 : ∀ N' : Bs → Sg → Prop, (P → N' B₁ σ₁) → ExecP c d sc B σ s1 N' R) (h2 : P → ExecsP c d sc B₁ σ₁ rest N R) : ExecsP c d sc B σ (s1 :: rest) N R := .cons (h1 _ h2)
theorem ExecsP.split2 {s1 s2 : Stmt} {rest : List Stmt} {N : Bs → Sg → Prop} {R : AV → Sg → Prop} (B₁ : Bs) (P : Prop) {σ₁ : Sg} (h1 : ∀ N' : Bs → Sg → Prop, (P → N' B₁ σ₁) → ExecP c d sc B σ s1 (fun B' σ' => ExecP c d sc B' σ' s2 N' R) R) (h2 : P → ExecsP c d sc B₁ σ₁ rest N R) : ExecsP c d sc B σ (s1 :: s2 :: rest) N R :=
  .cons ((h1 _ h2).mono (fun B' σ' h => .cons h) fun J J z => z)
end
-- Con7

section
variable {c : Cx} {d : Nat} {sc : Scope} {B : Bs} {σ : Sg} {Q : AV → Sg → Prop} {va ta ma : Addr} {ι : Type} {m : Mo ι}

theorem prD_len {ps : List (Int × Int)} : (prD ps).length = ps.length := by simp [prD]
theorem dat_len {ps : List (Int × Int)} : ((prD ps).map AV.dat).length = ps.length := by simp [prD]
theorem E_ok {ps : List (Int × Int)} (I : Inv m) (h : ∀ p ∈ ps, m.has p.1) (hn : m.vs.length ≤ 10000) : ∀ p ∈ ps, EndsAt (m.vs.map vD) p.1 (m.E p.1).1 (m.E p.1).2 ∧ p.1 < 2 ^ 60 := fun p q =>
  ⟨endsAt_of I (h p q), by have := (h p q).2; have : (2:Int)^60 = 1152921504606846976 := rfl; lia⟩

theorem bounds_su (T : TopOK c) {ps : List (Int × Int)} {k : Int} (O : Ok σ va ta ma m) (hh : ∀ p ∈ ps, m.has p.1) (hb : ∀ p ∈ ps, p.2.natAbs < 2 ^ 60) (hn : m.vs.length ≤ 10000)
    (h : Q (Tu [.int (k + loB m.E ps), .int (k + hiB m.E ps)]) σ) : CallP c (d + 4) (.ref (c.fn "bounds")) [Fu va ta ma, .dat (sumD ps k)] σ Q :=
  bounds_ok T (.su ps k) m.E O.hv hb (E_ok O.inv hh hn) h
theorem bounds_th (T : TopOK c) {t : Th} (O : Ok σ va ta ma m) (hh : ∀ p ∈ t.ps, m.has p.1) (hb : ∀ p ∈ t.ps, p.2.natAbs < 2 ^ 60) (hn : m.vs.length ≤ 10000)
    (h : Q (Tu [.int (t.k + loB m.E t.ps), .int (t.k + hiB m.E t.ps)]) σ) : CallP c (d + 4) (.ref (c.fn "bounds")) [Fu va ta ma, .dat t.d] σ Q :=
  bounds_ok T t m.E O.hv hb (E_ok O.inv hh hn) h
theorem range_le (T : TopOK c) {a b : Int} (hab : a ≤ b) (h : Q (Tu (prD [(a, b)])) σ) : CallP c (d + 1) (.ref (c.fn "range_of")) [I a, I b] σ Q := range_of_ok T (by rw [if_pos hab]; exact h)
theorem once_S (T : TopOK c) {k : List PyData} {lo hi : Int} (O : Ok σ va ta ma m) (hn : m.vs.length ≤ 10000) (hk : kOk 8 (.tuple k) = true) (hlo : lo.natAbs ≤ 2 ^ 18) (hhi : hi.natAbs ≤ 2 ^ 18)
    (h1 : ∀ z, at? m.md (.tuple k) = some z → Q (Tu [.int z, .bool false]) σ)
    (h2 : at? m.md (.tuple k) = none → ∀ nm σ', (va, OB.lst ((m.vs ++ [(nm, [(lo, hi)])]).map vD)) ∈ σ' → (ta, OB.lst (m.ts.map Tl.d)) ∈ σ' → (ma, OB.dT (put m.md (.tuple k) m.vs.length)) ∈ σ' → Ext [va, ta, ma] σ σ' → Q (Tu [.int m.vs.length, .bool true]) σ') :
    CallP c (d + 3) (.ref (c.fn "once")) [Fu va ta ma, Tu k, Tu (prD [(lo, hi)])] σ Q := by
  refine once_ok T (dl := [(lo, hi)]) O.hv O.hm O.vm (by rw [List.length_map]; lia) (by have := O.inv.len; lia) hk ?_ h1 (fun hnone nm => ?_)
  · intro p q
    rcases List.mem_singleton.mp q with rfl
    exact ⟨Nat.lt_of_le_of_lt hlo (by decide), Nat.lt_of_le_of_lt hhi (by decide)⟩
  · rw [List.length_map]
    refine h2 hnone nm _ ?_ ?_ ?_ ?_
    · rw [List.map_append]
      exact mem_upd_ne (mem_upd (mem_own O.hv)) O.vm
    · exact mem_upd_ne (mem_upd_ne O.ht (Ne.symm O.vt)) O.tm
    · exact mem_upd (mem_own (mem_upd_ne O.hm (Ne.symm O.vm)))
    · exact (Ext.upd (by simp)).trans (Ext.upd (by simp))
theorem post_S (T : TopOK c) {ts : List Tl} (t : Tl) {x : PyData} (e : x = t.d) (ht : (ta, OB.lst (ts.map Tl.d)) ∈ σ) (hz : ts.length ≤ 10000)
    (h : ∀ σ', (∀ a ob, (a, ob) ∈ σ → a ≠ ta → (a, ob) ∈ σ') → (ta, OB.lst ((ts ++ [t]).map Tl.d)) ∈ σ' → Ext [ta] σ σ' → Q (.dat .none) σ') : CallP c (d + 1) (.ref (c.fn "post")) [.flat (.ref va) (.ref ta), .dat x] σ Q := by
  subst e
  refine post_ok T ht (by rw [List.length_map]; lia) ?_
  refine h _ (fun a ob q ne => mem_upd_ne q ne) ?_ (Ext.upd (by simp))
  rw [List.map_append]
  exact mem_upd (mem_own ht)

theorem var_of_ok (T : TopOK c) {t : Th} (O : Ok σ va ta ma m) (ht : TOk m t) (tb : TB (2 ^ 20) 1000 (2 ^ 20) t) (hn : m.vs.length ≤ 10000)
    (hlo : (t.k + loB m.E t.ps).natAbs ≤ 2 ^ 18) (hhi : (t.k + hiB m.E t.ps).natAbs ≤ 2 ^ 18)
    (h : ∀ m' σ' x, Ok σ' va ta ma m' → Gr 1 m m' → Ext [va, ta, ma] σ σ' → m'.has x → (∀ ρ, m'.W ρ x = t.val (m'.W ρ)) → Q (I x) σ') : CallP c (d + 6) (.ref (c.fn "var_of")) [Fu va ta ma, .dat t.d] σ Q := by
  refine CallP.inn 24 3 [("self", Fu va ta ma), ("value", .dat t.d)] T rfl ?_
  have hz : (prD t.ps).length < 2 ^ 63 := by rw [prD_len]; exact Nat.lt_of_le_of_lt tb.len (by decide)
  repeat trivial
  have rest : ExecsP c (d + 5) (fScope (inS 24 3)) [("total", .dat (sumD t.ps t.k)), ("self", Fu va ta ma), ("value", .dat t.d)] σ ((fBody (inS 24 3)).drop 2) (fun J σ' => Q (.dat .none) σ') Q := by
    show ExecsP _ _ _ _ _ (_ :: _) _ _
    repeat trivial
    refine bounds_su T O ht.has (fun p q => Nat.lt_of_le_of_lt (tb.co p q) (by decide)) hn ?_
    repeat trivial
    have hle := lo_le_hi (E := m.E) (ps := t.ps)
    refine range_le T (by lia) ?_
    repeat trivial
    refine once_S T O hn (kOk_sum _ _) hlo hhi (fun z hz => ?_) (fun hnone nm σ₁ v1 t1 m1 x1 => ?_)
    · repeat trivial
      obtain ⟨h1, h2, J⟩ := O.inv.key _ _ hz
      exact h _ _ z O ((Gr.refl m).mono (by lia)) (.refl _ _) h1 fun ρ => h2 _ _ rfl ht.has ρ
    · have fin := inv_sum O.inv (nm := nm) ⟨tb.co, tb.len⟩ ht.has hnone hlo hhi
      have hG : Gr 1 m (m.more nm (t.k + loB m.E t.ps) (t.k + hiB m.E t.ps) (fun ρ => t.val (m.W ρ)) (if t.ps = [] then [] else [Tl.lin .eq (t.ps ++ [((m.vs.length : Int), -1)]) (-t.k)]) (sumD t.ps t.k)) := more_gr
      have go : ∀ σ₂, (va, OB.lst ((m.vs ++ [(nm, [(t.k + loB m.E t.ps, t.k + hiB m.E t.ps)])]).map vD)) ∈ σ₂ → (ta, OB.lst ((m.ts ++ (if t.ps = [] then [] else [Tl.lin .eq (t.ps ++ [((m.vs.length : Int), -1)]) (-t.k)])).map Tl.d)) ∈ σ₂ → (ma, OB.dT (put m.md (sumD t.ps t.k) m.vs.length)) ∈ σ₂ → Ext [va, ta, ma] σ σ₂ → Q (I m.vs.length) σ₂ :=
        fun σ₂ v2 t2 m2 x2 => h _ σ₂ _ ⟨v2, t2, m2, O.vt, O.vm, O.tm, fin⟩ hG x2 more_has fun ρ => by rw [more_W, hG.val ht]
      repeat trivial
      refine ValP.ne (ShN.tuple (n := 1) fun x q => ?_).sh (ShN.tuple (n := 0) (xs := []) (fun x m => by cases m)).sh ?_
      · obtain ⟨p, J, rfl⟩ := List.mem_map.mp q
        exact ShN.tuple fun y my => by
          rcases List.mem_cons.mp my with rfl | my
          · exact ShN.int
          · rcases List.mem_singleton.mp my with rfl
            exact ShN.int
      by_cases e : t.ps = []
      · rw [if_pos e] at go
        rw [e]
        repeat trivial
        exact go σ₁ v1 (by simpa using t1) m1 x1
      · rw [if_neg e] at go
        have hne : (!PyData.eqv (.tuple (prD t.ps)) (.tuple [])) = true := by
          cases e' : t.ps with
          | nil => exact absurd e' e
          | cons p r => simp [prD, PyData.eqv, PyData.eqvAll]
        rw [hne]
        repeat trivial
        refine EvalP.compM t.ps (fun p => .tuple [.int p.1, .int p.2]) (fun p => .int p.2) [] trivial (compOK_of [] rfl (by kernel_rfl!)) ?_ (Nat.le_trans tb.len (by decide))
        repeat trivial
        refine ⟨iter_parts, fun p q => by repeat trivial, ?_⟩
        repeat trivial
        refine ValP.addL (by rw [List.length_map]; have := tb.len; show _ + 1 ≤ _; lia) ?_
        repeat trivial
        refine EvalP.compM t.ps (fun p => .tuple [.int p.1, .int p.2]) (fun p => .int p.1) [] trivial (compOK_of [] rfl (by kernel_rfl!)) ?_ (Nat.le_trans tb.len (by decide))
        repeat trivial
        refine ⟨iter_parts, fun p q => by repeat trivial, ?_⟩
        repeat trivial
        refine ValP.addL (by rw [List.length_map]; have := tb.len; show _ + 1 ≤ _; lia) ?_
        repeat trivial
        refine bi_tupleL (by rw [List.length_append, List.length_map]; have := tb.len; show _ + 1 ≤ _; lia) ?_
        repeat trivial
        refine bi_tupleL (by rw [List.length_append, List.length_map]; have := tb.len; show _ + 1 ≤ _; lia) ?_
        repeat trivial
        refine post_S T (Tl.lin .eq (t.ps ++ [((m.vs.length : Int), -1)]) (-t.k)) (by simp [Tl.d, Kd.s, lits, List.map_map]) t1 (by have := O.inv.tlen; lia) fun σ₂ kp t2 x2 => ?_
        repeat trivial
        exact go σ₂ (kp _ _ v1 O.vt) t2 (kp _ _ m1 (Ne.symm O.tm)) (x1.trans (x2.mono (by simp)))
  refine ⟨fun e1 => ?_, fun e1 => ?_⟩
  · have e1 : (prD t.ps).length = 1 := by have := of_decide_eq_true e1; lia
    obtain ⟨⟨x, a⟩, hp⟩ : ∃ p, t.ps = [p] := List.length_eq_one_iff.mp (by rw [prD_len] at e1; exact e1)
    rw [hp] at rest ⊢
    repeat trivial
    refine ⟨fun e2 => ?_, fun e2 => ?_⟩
    · have e2 : a = 1 := of_decide_eq_true e2
      repeat trivial
      refine ⟨fun e3 => ?_, fun e3 => ?_⟩
      · have e3 : t.k = 0 := of_decide_eq_true e3
        repeat trivial
        refine h m σ x O ((Gr.refl m).mono (by lia)) (.refl _ _) (ht.has _ (by rw [hp]; exact .head _)) fun ρ => ?_
        unfold Th.val
        rw [hp, den_cons, den_nil, e2, e3]; simp
      · refine ExecsP.nil ?_
        exact rest
    · refine brF (ExecsP.nil ?_)
      exact rest
  · refine brF (ExecsP.nil ?_)
    exact rest
end
-- Con8
section
variable {c : Cx} {d : Nat} {sc : Scope} {B : Bs} {σ : Sg} {Q : AV → Sg → Prop} {va ta ma : Addr} {ι : Type} {m : Mo ι}

structure Fit (m : Mo ι) (t : Th) : Prop where
  ok : TOk m t
  tb : TB (2 ^ 20) 1000 (2 ^ 20) t
  lo : (t.k + loB m.E t.ps).natAbs ≤ 2 ^ 18
  hi : (t.k + hiB m.E t.ps).natAbs ≤ 2 ^ 18
theorem Fit.gr {k} {m m' : Mo ι} {t : Th} (f : Fit m t) (g : Gr k m m') : Fit m' t := by
  have e := lo_congr (E := m'.E) (E' := m.E) (ps := t.ps) fun p q => g.E (f.ok.has p q)
  exact ⟨g.tok f.ok, f.tb, by rw [e.1]; exact f.lo, by rw [e.2]; exact f.hi⟩
noncomputable def VarsOf (m : Mo ι) : List Th → List Int → Prop
  | [], [] => True
  | t :: ts, x :: xs => (m.has x ∧ ∀ ρ, m.W ρ x = t.val (m.W ρ)) ∧ VarsOf m ts xs
  | _, _ => False
theorem VarsOf.gr {k} {m m' : Mo ι} (g : Gr k m m') : ∀ {ts : List Th} {xs : List Int}, (∀ t ∈ ts, TOk m t) → VarsOf m ts xs → VarsOf m' ts xs
  | [], [], _, _ => trivial
  | t :: ts, x :: xs, ht, ⟨⟨h1, h2⟩, h3⟩ => ⟨⟨g.has h1, fun ρ => by rw [g.W ρ x h1, h2 ρ, g.val (ht t (.head _))]⟩, VarsOf.gr g (fun t q => ht t (.tail _ q)) h3⟩
  | [], _ :: _, _, h => h.elim
  | _ :: _, [], _, h => h.elim
theorem VarsOf.snoc {t : Th} {x : Int} (hx : m.has x) (hw : ∀ ρ, m.W ρ x = t.val (m.W ρ)) : ∀ {ts : List Th} {xs : List Int}, VarsOf m ts xs → VarsOf m (ts ++ [t]) (xs ++ [x])
  | [], [], _ => ⟨⟨hx, hw⟩, trivial⟩
  | _ :: _, _ :: _, ⟨h1, h2⟩ => ⟨h1, VarsOf.snoc hx hw h2⟩
  | [], _ :: _, h => h.elim
  | _ :: _, [], h => h.elim
theorem VarsOf.len : ∀ {ts : List Th} {xs : List Int}, VarsOf m ts xs → xs.length = ts.length
  | [], [], _ => rfl
  | _ :: _, _ :: _, ⟨_, h2⟩ => by simp [VarsOf.len h2]
  | [], _ :: _, h => h.elim
  | _ :: _, [], h => h.elim
theorem VarsOf.has : ∀ {ts : List Th} {xs : List Int}, VarsOf m ts xs → ∀ x ∈ xs, m.has x
  | [], [], _, _, q => nomatch q
  | _ :: _, _ :: _, ⟨h1, h2⟩, x, q => by
    rcases List.mem_cons.mp q with rfl | q
    · exact h1.1
    · exact VarsOf.has h2 x q
  | [], _ :: _, h, _, _ => h.elim
  | _ :: _, [], h, _, _ => h.elim
theorem VarsOf.map {ρ : ι} : ∀ {ts : List Th} {xs : List Int}, VarsOf m ts xs → xs.map (m.W ρ) = ts.map fun t => t.val (m.W ρ)
  | [], [], _ => rfl
  | _ :: _, _ :: _, ⟨h1, h2⟩ => by rw [List.map_cons, List.map_cons, h1.2 ρ, VarsOf.map h2]
  | [], _ :: _, h => h.elim
  | _ :: _, [], h => h.elim

theorem vars_of_ok (T : TopOK c) {some : List Th} (O : Ok σ va ta ma m) (hs : ∀ t ∈ some, Fit m t) (hn : m.vs.length + some.length ≤ 10000)
    (h : ∀ m' σ' xs, Ok σ' va ta ma m' → Gr some.length m m' → Ext [va, ta, ma] σ σ' → VarsOf m' some xs → Q (Tu (lits xs)) σ') : CallP c (d + 7) (.ref (c.fn "vars_of")) [Fu va ta ma, Li (some.map Th.d)] σ Q := by
  refine CallP.inn 24 4 [("self", Fu va ta ma), ("some", Li (some.map Th.d))] T rfl ?_
  repeat trivial
  refine EvalP.comp [("self", Fu va ta ma)] ?_ (compOK_of ["self"] rfl (by kernel_rfl!)) ?_ rfl (by intros; rfl)
  · exact ⟨by repeat trivial, trivial⟩
  repeat trivial
  refine ⟨_, fun i zs σ' => ∃ m' xs, Ok σ' va ta ma m' ∧ Gr i m m' ∧ Ext [va, ta, ma] σ σ' ∧ VarsOf m' (some.take i) xs ∧ zs = lits xs, iter_mapL, ⟨m, [], O, Gr.refl m, .refl _ _, by rw [List.take_zero]; trivial, rfl⟩, ?_, ?_⟩
  · rintro i y zs σ' hy ⟨m', xs, O', g, x, V, rfl⟩
    simp only [List.getElem?_map, Option.map_eq_some_iff] at hy
    obtain ⟨t, ht, rfl⟩ := hy
    have hti := hs t (List.mem_of_getElem? ht)
    have f := hti.gr g
    have hi : i < some.length := (List.getElem?_eq_some_iff.mp ht).1
    refine AsgP.name (k := .local) (by kernel_rfl!) ?_ (.inl rfl)
    refine ⟨⟨by repeat trivial, trivial⟩, brT ?_⟩
    show EvalP _ _ _ _ _ _ _
    repeat trivial
    refine var_of_ok T O' f.ok f.tb (by have := g.len; lia) f.lo f.hi fun m₂ σ₂ x₂ O₂ g₂ e₂ hx hw => ?_
    refine ⟨_, rfl, ?_, m₂, xs ++ [x₂], O₂, g.trans g₂, x.trans e₂, ?_, ?_⟩
    · have := V.len; rw [List.length_map, this, List.length_take]; lia
    · rw [take_snoc ht]
      exact (V.gr g₂ fun t q => (hs t (List.mem_of_mem_take q)).ok |> g.tok).snoc hx hw
    · simp [lits]
  · rintro zs σ' ⟨m', xs, O', g, x, V, rfl⟩
    rw [List.length_map] at g V
    rw [List.take_length] at V
    repeat trivial
    refine bi_tupleL (by have := V.len; rw [List.length_map]; lia) ?_
    repeat trivial
    exact h m' σ' xs O' g x V

theorem made_number_ok (T : TopOK c) {xs : List Int} {v : Int} (O : Ok σ va ta ma m) (hx : ∀ x ∈ xs, m.has x) (hl : xs.length ≤ 1000) (hn : m.vs.length ≤ 10000)
    (h : ∀ m' σ' z, Ok σ' va ta ma m' → Gr 1 m m' → Ext [va, ta, ma] σ σ' → m'.has z → (∀ ρ, m'.W ρ z = ((xs.map (m.W ρ)).count v : Nat)) → Q (.dat (sumD [(z, 1)] 0)) σ') : CallP c (d + 6) (.ref (c.fn "made_number")) [Fu va ta ma, .dat (cntK xs v), Tu (prD [(0, (xs.length : Int))])] σ Q := by
  refine CallP.inn 25 2 [("self", Fu va ta ma), ("key", .dat (cntK xs v)), ("domain", Tu (prD [(0, (xs.length : Int))]))] T rfl ?_
  repeat trivial
  refine once_S T O hn (kOk_cnt _ _) (by decide) (by lia) (fun z hz => ?_) (fun hnone nm σ₁ v1 t1 m1 x1 => ?_)
  · repeat trivial
    obtain ⟨h1, J, J, h2, J⟩ := O.inv.key _ _ hz
    exact h m σ z O ((Gr.refl m).mono (by lia)) (.refl _ _) h1 fun ρ => h2 _ _ rfl hx ρ
  · have fin := inv_cnt O.inv (nm := nm) hx hl hnone
    repeat trivial
    refine ValP.addT (by show 3 + 1 ≤ _; lia) ?_
    refine EvalsP.nil ?_
    refine post_S T (Tl.cnt xs v m.vs.length) rfl t1 (by have := O.inv.tlen; lia) fun σ₂ kp t2 x2 => ?_
    repeat trivial
    exact h _ σ₂ _ ⟨kp _ _ v1 O.vt, t2, kp _ _ m1 (Ne.symm O.tm), O.vt, O.vm, O.tm, fin⟩ more_gr (x1.trans (x2.mono (by simp))) more_has fun ρ => more_W
end
-- Sem3
section
variable {ι : Type} {m : Mo ι}

theorem gcd_fold : ∀ (ns : List Int) (g : Nat), (ns.foldl (fun g a => Nat.gcd a.natAbs g) g ∣ g) ∧ ∀ n ∈ ns, (ns.foldl (fun g a => Nat.gcd a.natAbs g) g) ∣ n.natAbs
  | [], g => ⟨Nat.dvd_refl _, fun J q => nomatch q⟩
  | a :: ns, g => by
    obtain ⟨h1, h2⟩ := gcd_fold ns (Nat.gcd a.natAbs g)
    rw [List.foldl_cons]
    refine ⟨Nat.dvd_trans h1 (Nat.gcd_dvd_right ..), fun n q => ?_⟩
    rcases List.mem_cons.mp q with rfl | q
    · exact Nat.dvd_trans h1 (Nat.gcd_dvd_left ..)
    · exact h2 n q
theorem gcd_dvd {ns : List Int} {n : Int} (h : n ∈ ns) : (gcdOf ns : Int) ∣ n := Int.natAbs_dvd_natAbs.mp (by rw [Int.natAbs_natCast]; exact (gcd_fold ns 0).2 n h)

structure RowOK (m : Mo ι) (t : Th) (kd : Kd) (ps : List (Int × Int)) (c' : Int) : Prop where
  has : ∀ p ∈ ps, m.has p.1
  nz : ∀ p ∈ ps, p.2 ≠ 0
  nd : (ps.map (·.1)).Nodup
  rel : ∀ ρ, kd.rel (den (m.W ρ) ps) c' = kd.rel (t.val (m.W ρ)) 0
  ne : ps ≠ []
  co : ∀ p ∈ ps, p.2.natAbs ≤ 2 ^ 20
  len : ps.length ≤ 1000
  one : ∀ x a, ps = [(x, a)] → min (a * (m.E x).1) (a * (m.E x).2) ≤ c' ∧ c' ≤ max (a * (m.E x).1) (a * (m.E x).2)
theorem den_scale {w : Vl} {g : Int} : ∀ {ps : List (Int × Int)}, (∀ p ∈ ps, g ∣ p.2) → g ≠ 0 → den w ps = g * den w (ps.map fun p => (p.1, p.2 / g))
  | [], _, _ => by simp [den]
  | p :: ps, h, hg => by
    rw [List.map_cons, den_cons, den_cons, den_scale (fun q m => h q (.tail _ m)) hg, Int.mul_add]
    congr 1
    obtain ⟨k, hk⟩ := h p (.head _)
    show p.2 * w p.1 = g * (p.2 / g * w p.1)
    rw [hk, Int.mul_ediv_cancel_left _ hg, Int.mul_assoc]
theorem row_sem {t : Th} (I : Inv m) (ht : TOk m t) (tb : TB (2 ^ 20) 1000 (2 ^ 40) t) (kd : Kd) (hL : t.k + loB m.E t.ps ≤ 0) (hH : 0 ≤ t.k + hiB m.E t.ps) (hne : t.k + loB m.E t.ps ≠ t.k + hiB m.E t.ps) :
    (gcdOf (t.ps.map (·.2)) : Int) ≠ 0 ∧ gcdOf (t.ps.map (·.2)) ≤ 2 ^ 20 ∧ (kd ≠ .le → (-t.k).fmod (gcdOf (t.ps.map (·.2))) ≠ 0 → ∀ ρ, kd.rel (t.val (m.W ρ)) 0 = decide (kd = .ne)) ∧
    ((kd = .le ∨ (-t.k).fmod (gcdOf (t.ps.map (·.2))) = 0) → RowOK m t kd (t.ps.map fun p => (p.1, p.2.fdiv (gcdOf (t.ps.map (·.2))))) ((-t.k).fdiv (gcdOf (t.ps.map (·.2))))) := by
  have hps : t.ps ≠ [] := fun e => by rw [e] at hne; exact hne rfl
  obtain ⟨p0, r0, h0⟩ := List.exists_cons_of_ne_nil hps
  have m0 : p0 ∈ t.ps := by rw [h0]; exact .head _
  have hd : ∀ p ∈ t.ps, (gcdOf (t.ps.map (·.2)) : Int) ∣ p.2 := fun p q => gcd_dvd (List.mem_map.mpr ⟨p, q, rfl⟩)
  generalize gcdOf (t.ps.map (·.2)) = g at hd ⊢
  have hg0 : (g : Int) ≠ 0 := fun e => by
    have := hd p0 m0
    rw [e] at this
    exact ht.nz p0 m0 (Int.zero_dvd.mp this)
  have hgp : 0 < (g : Int) := by lia
  have hgl : g ≤ 2 ^ 20 := by
    have h1 := Int.natAbs_dvd_natAbs.mpr (hd p0 m0)
    have h2 := Nat.le_of_dvd (Nat.pos_of_ne_zero fun e => ht.nz p0 m0 (Int.natAbs_eq_zero.mp e)) h1
    have := tb.co p0 m0
    have e : ((g : Int)).natAbs = g := Int.natAbs_natCast g
    lia
  have hfd : ∀ a : Int, a.fdiv g = a / g := fun a => Int.fdiv_eq_ediv_of_nonneg a (by lia)
  have hfm : (-t.k).fmod g = (-t.k) % g := Int.fmod_eq_emod_of_nonneg _ (by lia)
  have hs : ∀ ρ, den (m.W ρ) t.ps = g * den (m.W ρ) (t.ps.map fun p => (p.1, p.2 / (g : Int))) := fun ρ => den_scale hd hg0
  simp only [hfd, hfm]
  refine ⟨hg0, hgl, fun hk hm ρ => ?_, fun hm => ?_⟩
  · have hv : t.val (m.W ρ) ≠ 0 := fun e => by
      unfold Th.val at e
      rw [hs ρ] at e
      have : -t.k = g * den (m.W ρ) (t.ps.map fun p => (p.1, p.2 / (g : Int))) := by lia
      rw [this, Int.mul_emod_right] at hm
      exact hm rfl
    cases kd with
    | le => exact absurd rfl hk
    | eq => exact decide_eq_false hv
    | ne => exact decide_eq_true hv
  · have hdq : ∀ p ∈ t.ps, (g : Int) * (p.2 / g) = p.2 := fun p q => Int.mul_ediv_cancel' (hd p q)
    refine ⟨fun p q => ?_, fun p q => ?_, ?_, fun ρ => ?_, ?_, fun p q => ?_, ?_, fun x a e => ?_⟩
    · obtain ⟨p', hp', rfl⟩ := List.mem_map.mp q
      exact ht.has p' hp'
    · obtain ⟨p', hp', rfl⟩ := List.mem_map.mp q
      intro e
      have e : p'.2 / (g : Int) = 0 := e
      have := hdq p' hp'
      rw [e, Int.mul_zero] at this
      exact ht.nz p' hp' this.symm
    · rw [List.map_map]; exact ht.nd
    · have e1 : t.val (m.W ρ) = t.k + g * den (m.W ρ) (t.ps.map fun p => (p.1, p.2 / (g : Int))) := by unfold Th.val; rw [hs ρ]
      rw [e1]
      generalize den (m.W ρ) (t.ps.map fun p => (p.1, p.2 / (g : Int))) = D
      have key : kd ≠ .le → (D = -t.k / g ↔ t.k + g * D = 0) := fun hk => by
        have hm : -t.k % (g : Int) = 0 := by
          rcases hm with e | e
          · exact absurd e hk
          · exact e
        have hq := Int.mul_ediv_cancel' (Int.dvd_of_emod_eq_zero hm)
        constructor
        · intro e; rw [e, hq]; lia
        · intro e
          have : (g : Int) * D = -t.k := by lia
          rw [← this, Int.mul_ediv_cancel_left _ hg0]
      cases kd with
      | eq => exact decide_eq_decide.mpr (key (by decide))
      | ne => exact decide_eq_decide.mpr (not_congr (key (by decide)))
      | le =>
        refine decide_eq_decide.mpr ?_
        rw [Int.le_ediv_iff_mul_le hgp, Int.mul_comm]
        lia
    · rw [h0]; simp
    · obtain ⟨p', hp', rfl⟩ := List.mem_map.mp q
      have h1 := tb.co p' hp'
      have h2 := hdq p' hp'
      have h3 : (p'.2 / (g : Int)).natAbs ≤ p'.2.natAbs := by
        conv => rhs; rw [← h2]
        rw [Int.natAbs_mul]
        exact Nat.le_mul_of_pos_left _ (by lia)
      exact Nat.le_trans h3 h1
    · rw [List.length_map]; exact tb.len
    · obtain ⟨p1, hp1⟩ : ∃ p1, t.ps = [p1] := by
        have : (t.ps.map fun p => (p.1, p.2 / (g : Int))).length = 1 := by rw [e]; rfl
        rw [List.length_map] at this
        exact List.length_eq_one_iff.mp this
      rw [hp1] at e hL hH hdq
      simp only [List.map_cons, List.map_nil, List.cons.injEq, and_true, Prod.mk.injEq] at e
      obtain ⟨rfl, rfl⟩ := e
      have h2 := hdq p1 (.head _)
      simp only [loB, hiB, List.map_cons, List.map_nil, List.sum_cons, List.sum_nil, Int.add_zero] at hL hH
      rw [← h2] at hL hH
      generalize p1.2 / (g : Int) = a at hL hH ⊢
      rw [Int.mul_assoc, Int.mul_assoc] at hL hH
      constructor
      · rw [Int.le_ediv_iff_mul_le hgp]
        rcases Int.le_total (a * (m.E p1.1).1) (a * (m.E p1.1).2) with q | q
        · rw [Int.min_eq_left q, Int.mul_comm]
          have := Int.mul_le_mul_of_nonneg_left q (Int.le_of_lt hgp)
          lia
        · rw [Int.min_eq_right q, Int.mul_comm]
          have := Int.mul_le_mul_of_nonneg_left q (Int.le_of_lt hgp)
          lia
      · have hlt : -t.k / (g : Int) ≤ max (a * (m.E p1.1).1) (a * (m.E p1.1).2) := by
          refine Int.ediv_le_of_le_mul hgp ?_
          rcases Int.le_total (a * (m.E p1.1).1) (a * (m.E p1.1).2) with q | q
          · rw [Int.max_eq_right q, Int.mul_comm]
            have := Int.mul_le_mul_of_nonneg_left q (Int.le_of_lt hgp)
            lia
          · rw [Int.max_eq_left q, Int.mul_comm]
            have := Int.mul_le_mul_of_nonneg_left q (Int.le_of_lt hgp)
            lia
        exact hlt
end
-- Con9
section
variable {c : Cx} {d : Nat} {sc : Scope} {B : Bs} {σ : Sg} {Q : AV → Sg → Prop} {va ta ma : Addr} {ι : Type} {m : Mo ι}

theorem row_ok (T : TopOK c) {t : Th} (kd : Kd) (O : Ok σ va ta ma m) (ht : TOk m t) (tb : TB (2 ^ 20) 1000 (2 ^ 40) t) (hn : m.vs.length ≤ 10000)
    (h1 : ∀ b, (∀ ρ, kd.rel (t.val (m.W ρ)) 0 = b) → Q (Bo b) σ)
    (h2 : ∀ ps c', RowOK m t kd ps c' → Q (.dat (linD kd ps c')) σ) : CallP c (d + 5) (.ref (c.fn "row")) [Fu va ta ma, S' kd.s, .dat t.d] σ Q := by
  refine CallP.inn 24 6 [("self", Fu va ta ma), ("kind", S' kd.s), ("value", .dat t.d)] T rfl ?_
  have hl : ∀ ρ, t.k + loB m.E t.ps ≤ t.val (m.W ρ) ∧ t.val (m.W ρ) ≤ t.k + hiB m.E t.ps := fun ρ => by
    have := O.inv.lohi ht.has ρ
    unfold Th.val; lia
  refine ExecsP.split2 (σ₁ := σ) [("total", .dat (sumD t.ps t.k)), ("high", I (t.k + hiB m.E t.ps)), ("low", I (t.k + loB m.E t.ps)), ("self", Fu va ta ma), ("kind", S' kd.s), ("value", .dat t.d)] (t.k + loB m.E t.ps ≤ 0 ∧ 0 ≤ t.k + hiB m.E t.ps ∧ t.k + loB m.E t.ps ≠ t.k + hiB m.E t.ps) (fun N' hN => ?_) (fun ⟨hL, hH, hne⟩ => ?_)
  rotate_left
  · obtain ⟨g0, gl, hm1, hm2⟩ := row_sem O.inv ht tb kd hL hH hne
    refine ExecsP.split2 (σ₁ := σ) [("c", I (-t.k)), ("common", I (gcdOf (t.ps.map (·.2)))), ("total", .dat (sumD t.ps t.k)), ("high", I (t.k + hiB m.E t.ps)), ("low", I (t.k + loB m.E t.ps)), ("self", Fu va ta ma), ("kind", S' kd.s), ("value", .dat t.d)] (kd = .le ∨ (-t.k).fmod (gcdOf (t.ps.map (·.2))) = 0) (fun N' hN => ?_) (fun hP => ?_)
    · repeat trivial
      refine EvalP.compM t.ps (fun p => .tuple [.int p.1, .int p.2]) (fun p => .int p.2) [] trivial (compOK_of [] rfl (by kernel_rfl!)) ?_ (Nat.le_trans tb.len (by decide))
      repeat trivial
      refine ⟨iter_parts, fun p q => by repeat trivial, ?_⟩
      have e1 : (t.ps.map fun p => PyData.int p.2) = (t.ps.map (·.2)).map PyData.int := by rw [List.map_map]; rfl
      rw [e1]
      repeat trivial
      refine common_of_ok T _ ?_
      generalize gcdOf (t.ps.map (·.2)) = g at *
      have ggl : ((g : Int)).natAbs < 1073741824 := by rw [Int.natAbs_natCast]; exact Nat.lt_of_le_of_lt gl (by decide)
      have mid : kd ≠ .le → ((-t.k).fmod g ≠ 0 → Q (Bo (decide (kd = .ne))) σ) := fun hk hz => h1 _ (hm1 hk hz)
      cases kd with
      | le =>
        repeat trivial
        exact hN (.inl rfl)
      | eq =>
        by_cases hz : (-t.k).fmod g = 0
        · have q1 : decide ((-t.k).fmod g ≠ 0) = false := decide_eq_false (fun h => h hz)
          repeat trivial
          refine ValP.fmod g0 ?_
          repeat trivial
          exact hN (.inr hz)
        · have q1 : decide ((-t.k).fmod g ≠ 0) = true := decide_eq_true hz
          repeat trivial
          refine ValP.fmod g0 ?_
          repeat trivial
          exact mid (by decide) hz
      | ne =>
        by_cases hz : (-t.k).fmod g = 0
        · have q1 : decide ((-t.k).fmod g ≠ 0) = false := decide_eq_false (fun h => h hz)
          repeat trivial
          refine ValP.fmod g0 ?_
          repeat trivial
          exact hN (.inr hz)
        · have q1 : decide ((-t.k).fmod g ≠ 0) = true := decide_eq_true hz
          repeat trivial
          refine ValP.fmod g0 ?_
          repeat trivial
          exact mid (by decide) hz
    · have fin := h2 _ _ (hm2 hP)
      generalize gcdOf (t.ps.map (·.2)) = g at *
      have ggl : ((g : Int)).natAbs < 1073741824 := by rw [Int.natAbs_natCast]; exact Nat.lt_of_le_of_lt gl (by decide)
      repeat trivial
      refine EvalP.compM t.ps (fun p => .tuple [.int p.1, .int p.2]) (fun p => .int (p.2.fdiv g)) [("common", I g)] ?_ (compOK_of ["common"] rfl (by kernel_rfl!)) ?_ (Nat.le_trans tb.len (by decide))
      · exact ⟨by repeat trivial, trivial⟩
      repeat trivial
      refine ⟨iter_parts, fun p q => ?_, ?_⟩
      · repeat trivial
        refine ValP.fdiv g0 ggl ?_
        repeat trivial
      repeat trivial
      refine bi_tupleL (by rw [List.length_map]; have := tb.len; lia) ?_
      repeat trivial
      refine EvalP.compM t.ps (fun p => .tuple [.int p.1, .int p.2]) (fun p => .int p.1) [] trivial (compOK_of [] rfl (by kernel_rfl!)) ?_ (Nat.le_trans tb.len (by decide))
      repeat trivial
      refine ⟨iter_parts, fun p q => by repeat trivial, ?_⟩
      repeat trivial
      refine bi_tupleL (by rw [List.length_map]; have := tb.len; lia) ?_
      repeat trivial
      refine ValP.fdiv g0 ggl ?_
      repeat trivial
      have e4 : ∀ kd, linD kd (t.ps.map fun p => (p.1, p.2.fdiv g)) ((-t.k).fdiv g) = .tuple [.str kd.s, .tuple (t.ps.map fun p => .int (p.2.fdiv g)), .tuple (t.ps.map fun p => .int p.1), .int ((-t.k).fdiv g)] := fun kd => by
        simp [lits, List.map_map]
      rw [e4] at fin
      exact fin
  repeat trivial
  refine bounds_th T O ht.has (fun p q => Nat.lt_of_le_of_lt (tb.co p q) (by decide)) hn ?_
  repeat trivial
  generalize hLL : t.k + loB m.E t.ps = L at *
  generalize hHH : t.k + hiB m.E t.ps = H at *
  have hLH : L ≤ H := by have := lo_le_hi (E := m.E) (ps := t.ps); lia
  cases kd with
  | le =>
    by_cases a1 : H ≤ 0
    · have e1 : decide (H ≤ 0) = true := decide_eq_true a1
      have fin := h1 (decide (H ≤ 0)) fun ρ => by rw [e1]; exact decide_eq_true (by have := hl ρ; lia)
      repeat trivial
    · have e1 : decide (H ≤ 0) = false := decide_eq_false a1
      by_cases a2 : 0 < L
      · have e2 : decide (0 < L) = true := decide_eq_true a2
        have fin := h1 (decide (H ≤ 0)) fun ρ => by rw [e1]; exact decide_eq_false (by have := hl ρ; lia)
        repeat trivial
      · have e2 : decide (0 < L) = false := decide_eq_false a2
        repeat trivial
        exact hN ⟨by lia, by lia, by lia⟩
  | eq =>
    by_cases a1 : 0 < L
    · have e1 : decide (0 < L) = true := decide_eq_true a1
      have fin := h1 false fun ρ => decide_eq_false (by have := hl ρ; lia)
      repeat trivial
    · have e1 : decide (0 < L) = false := decide_eq_false a1
      by_cases a2 : H < 0
      · have e2 : decide (H < 0) = true := decide_eq_true a2
        have fin := h1 false fun ρ => decide_eq_false (by have := hl ρ; lia)
        repeat trivial
      · have e2 : decide (H < 0) = false := decide_eq_false a2
        by_cases a3 : L = H
        · have e3 : decide (L = H) = true := decide_eq_true a3
          have fin := h1 true fun ρ => decide_eq_true (by have := hl ρ; lia)
          repeat trivial
        · have e3 : decide (L = H) = false := decide_eq_false a3
          repeat trivial
          exact hN ⟨by lia, by lia, by lia⟩
  | ne =>
    by_cases a1 : 0 < L
    · have e1 : decide (0 < L) = true := decide_eq_true a1
      have fin := h1 true fun ρ => decide_eq_true (by have := hl ρ; lia)
      repeat trivial
    · have e1 : decide (0 < L) = false := decide_eq_false a1
      by_cases a2 : H < 0
      · have e2 : decide (H < 0) = true := decide_eq_true a2
        have fin := h1 true fun ρ => decide_eq_true (by have := hl ρ; lia)
        repeat trivial
      · have e2 : decide (H < 0) = false := decide_eq_false a2
        by_cases a3 : L = H
        · have e3 : decide (L = H) = true := decide_eq_true a3
          have fin := h1 false fun ρ => decide_eq_false (fun h => h (by have := hl ρ; lia))
          repeat trivial
        · have e3 : decide (L = H) = false := decide_eq_false a3
          repeat trivial
          exact hN ⟨by lia, by lia, by lia⟩
end
-- Con10
section
variable {c : Cx} {d : Nat} {sc : Scope} {B : Bs} {σ : Sg} {Q : AV → Sg → Prop} {va ta ma : Addr} {ι : Type} {m : Mo ι}

theorem tok_it {v : Int} : TOk m (.it v) := ⟨fun p q => (List.not_mem_nil q).elim, fun p q => (List.not_mem_nil q).elim, List.nodup_nil, fun e => nomatch e⟩
theorem tok_bo {v : Bool} : TOk m (.bo v) := ⟨fun p q => (List.not_mem_nil q).elim, fun p q => (List.not_mem_nil q).elim, List.nodup_nil, fun e => nomatch e⟩
theorem tb_it {v : Int} {K L N : Nat} (a : 0 ≤ K) (b : 0 ≤ L) (h : v.natAbs ≤ N) : TB K L N (.it v) := ⟨fun p q => (List.not_mem_nil q).elim, b, h⟩
theorem plus_S (T : TopOK c) {u v : Th} {f : Int} {Ku Lu Nu Kv Lv Nv : Nat} (hu : TOk m u) (hv : TOk m v) (bu : TB Ku Lu Nu u) (bv : TB Kv Lv Nv v) (hl : Lu + Lv < 64) (hf : f.natAbs < 2 ^ 10) (h1 : Ku ≤ 2 ^ 20) (h2 : Kv ≤ 2 ^ 20) (h3 : Nu ≤ 2 ^ 40) (h4 : Nv ≤ 2 ^ 40)
    (h : ∀ r σ', Ext [] σ σ' → TOk m r → (r.isT = false ∧ r.isB = false) → TB (Ku + f.natAbs * Kv * Lv) (Lu + Lv) (Nu + f.natAbs * Nv) r → (∀ ρ, r.val (m.W ρ) = u.val (m.W ρ) + f * v.val (m.W ρ)) → Q (.dat r.d) σ') : CallP c (d + 6) (.ref (c.fn "plus")) [.dat u.d, .dat v.d, I f] σ Q := by
  have hk : (u.k + f * v.k).natAbs ≤ Nu + f.natAbs * Nv := by
    exact nadd bu.k (Int.natAbs_mul f v.k ▸ Nat.mul_le_mul_left f.natAbs bv.k)
  have b1 : f.natAbs * Kv ≤ 2 ^ 10 * 2 ^ 20 := Nat.mul_le_mul (by lia) h2
  have b2 : f.natAbs * Nv ≤ 2 ^ 10 * 2 ^ 40 := Nat.mul_le_mul (by lia) h4
  refine plus_ok T u v f Ku Kv hu.nd (by have := bu.len; have := bv.len; lia) bu.co bv.co (by lia) (by lia) (by lia) fun D ms A P σ' x => ?_
  have hout := outP_mem A.nodup P
  have hden : ∀ ρ, den (m.W ρ) (outP D ms) = den (m.W ρ) u.ps + f * den (m.W ρ) v.ps := fun ρ => by rw [den_outP A.nodup P, A.den]
  have hhas : ∀ p ∈ outP D ms, m.has p.1 := fun p q => by
    rcases A.vars p (hout p q).1 with z | z
    · obtain ⟨p', hp', e⟩ := List.mem_map.mp z
      rw [← e]; exact hu.has p' hp'
    · obtain ⟨p', hp', e⟩ := List.mem_map.mp z
      rw [← e]; exact hv.has p' hp'
  have hval : ∀ ρ, u.k + f * v.k + den (m.W ρ) (outP D ms) = u.val (m.W ρ) + f * v.val (m.W ρ) := fun ρ => by
    rw [hden]; unfold Th.val; rw [Int.mul_add]; lia
  have hlen : (outP D ms).length ≤ Lu + Lv := by
    have a1 : (outP D ms).length ≤ ms.length := by
      unfold outP
      refine Nat.le_trans (List.length_filter_le ..) ?_
      rw [List.length_map]; lia
    have a2 := P.length_eq
    rw [List.length_map] at a2
    have := A.len; have := bu.len; have := bv.len
    lia
  have hco : ∀ p ∈ outP D ms, p.2.natAbs ≤ Ku + f.natAbs * Kv * Lv := fun p q => by
    have a1 := A.bd Ku Kv bu.co bv.co p (hout p q).1
    have a2 := Nat.mul_le_mul_left (f.natAbs * Kv) bv.len
    lia
  by_cases e : outP D ms = []
  · rw [if_pos e]
    refine h _ σ' x tok_it ⟨rfl, rfl⟩ (tb_it (Nat.zero_le _) (Nat.zero_le _) hk) fun ρ => ?_
    rw [← hval ρ, e]; rfl
  · rw [if_neg e]
    exact h _ σ' x ⟨hhas, fun p q => (hout p q).2, outP_nodup A.nodup P, fun e => nomatch e⟩ ⟨rfl, rfl⟩ ⟨hco, hlen, hk⟩ fun ρ => hval ρ

theorem eqv_of {x y : PyData} {n k : Nat} (hx : kOk n x = true) (hy : kOk k y = true) : PyData.eqv x y = decide (x = y) := by
  have e := keyD_eqv (keyD_of n x hx) (keyD_of k y hy)
  by_cases q : x = y
  · rw [e.mpr q, decide_eq_true q]
  · rw [decide_eq_false q]
    cases z : PyData.eqv x y with
    | true => exact absurd (e.mp z) q
    | false => rfl
theorem kOk_prD {ps : List (Int × Int)} : kOk 3 (.tuple (prD ps)) = true := by
  simp only [kOk, List.all_eq_true]
  intro x q
  obtain ⟨i, J, rfl⟩ := List.mem_map.mp q
  rfl
theorem sh_lits {xs : List Int} : Sh (.tuple (lits xs)) := (ShN.tuple (n := 0) fun x q => by obtain ⟨i, J, rfl⟩ := List.mem_map.mp q; exact ShN.int).sh
theorem sh_prD {ps : List (Int × Int)} : Sh (.tuple (prD ps)) := (ShN.tuple (n := 1) fun x q => by
  obtain ⟨p, J, rfl⟩ := List.mem_map.mp q
  exact ShN.tuple fun y my => by
    rcases List.mem_cons.mp my with rfl | my
    · exact ShN.int
    · rcases List.mem_singleton.mp my with rfl
      exact ShN.int).sh

theorem ValP.eqL1 {xs : List Int} (h : Q (Bo (decide (xs = [1]))) σ) : ValP c d σ [Tu (lits xs), Tu [.int 1]] (cmpT .Eq) Q := by
  refine ValP.eq sh_lits (sh_lits (xs := [1])) ?_
  have e := eqv_of (kOk_lits (n := 3) xs) (kOk_lits (n := 3) [1])
  have e2 : decide (PyData.tuple (lits xs) = .tuple (lits [1])) = decide (xs = [1]) := decide_eq_decide.mpr ⟨fun h => lits_inj (PyData.tuple.inj h), fun h => by rw [h]⟩
  rw [e2] at e
  show Q (Bo (PyData.eqv _ (.tuple (lits [1])))) σ
  rw [e]; exact h
theorem ValP.eqDl {dl : Dl} (h : Q (Bo (decide (dl = [(0, 1)]))) σ) : ValP c d σ [Tu (prD dl), .dat truthsD] (cmpT .Eq) Q := by
  refine ValP.eq sh_prD (sh_prD (ps := [(0, 1)])) ?_
  have e := eqv_of (kOk_prD (ps := dl)) (kOk_prD (ps := [(0, 1)]))
  have e2 : decide (PyData.tuple (prD dl) = .tuple (prD [(0, 1)])) = decide (dl = [(0, 1)]) := decide_eq_decide.mpr ⟨fun h => prD_inj (PyData.tuple.inj h), fun h => by rw [h]⟩
  rw [e2] at e
  show Q (Bo (PyData.eqv _ (.tuple (prD [(0, 1)])))) σ
  rw [e]; exact h

theorem tok_bi {x : Int} {v : Bool} (h : m.has x) (h2 : m.dl x = [(0, 1)]) : TOk m (.bi x v) := by
  have : ∀ p ∈ (Th.bi x v).ps, p.1 = x ∧ p.2 ≠ 0 := fun p q => by
    cases v <;> (rcases List.mem_singleton.mp q with rfl; exact ⟨rfl, by intro e; exact absurd (show (1:Int) = 0 ∨ (-1:Int) = 0 from by first | exact .inl e | exact .inr e) (by decide)⟩)
  exact ⟨fun p q => by rw [(this p q).1]; exact h, fun p q => (this p q).2, by cases v <;> simp [Th.ps], fun J p q => by rw [(this p q).1]; exact h2⟩
theorem tb_bi {x : Int} {v : Bool} : TB 1 1 1 (.bi x v) := by
  cases v <;> exact ⟨fun p q => by rcases List.mem_singleton.mp q with rfl; exact Nat.le_refl 1, Nat.le_refl 1, (by first | exact Nat.le_refl 1 | exact Nat.zero_le 1)⟩
theorem tb_bo {v : Bool} : TB 1 1 1 (.bo v) := by
  cases v <;> exact ⟨fun p q => (List.not_mem_nil q).elim, by decide, by decide⟩

theorem told_truth_ok (T : TopOK c) {ps : List (Int × Int)} {k : Int} (O : Ok σ va ta ma m) (hn : m.vs.length ≤ 10000) (hp : ∀ p ∈ ps, m.has p.1) (hb : (∀ p ∈ ps, p.2.natAbs ≤ 2 ^ 20) ∧ ps.length ≤ 1000)
    (h1 : ∀ x, ps = [(x, 1)] → m.dl x = [(0, 1)] → k = 0 ∨ k = 1)
    (h : ∀ m' σ' r, Ok σ' va ta ma m' → Gr 1 m m' → Ext [va, ta, ma] σ σ' → r.isT = true → TOk m' r → TB 1 1 1 r → (∀ ρ, r.val (m'.W ρ) = if den (m.W ρ) ps = k then 1 else 0) → Q (.dat r.d) σ') : CallP c (d + 5) (.ref (c.fn "told_truth")) [Fu va ta ma, .dat (linD .eq ps k)] σ Q := by
  refine CallP.inn 24 8 [("self", Fu va ta ma), ("told", .dat (linD .eq ps k))] T rfl ?_
  refine ExecsP.split2 (σ₁ := σ) [("c", I k), ("some", Tu (lits (ps.map (·.1)))), ("coefs", Tu (lits (ps.map (·.2)))), ("kind", S' Kd.eq.s), ("self", Fu va ta ma), ("told", .dat (linD .eq ps k))] True (fun N' hN => ?_) (fun J => ?_)
  · have hN := hN True.intro
    repeat trivial
    refine ValP.eqL1 ?_
    by_cases e : ∃ x, ps = [(x, 1)]
    · obtain ⟨x, rfl⟩ := e
      have e1 : decide (List.map (fun x => x.2) [(x, (1:Int))] = [1]) = true := decide_eq_true rfl
      have hx : m.has x := hp _ (.head _)
      obtain ⟨nm, hnm⟩ := m.dl_at hx
      have hdx : (m.vs.map vD)[x.toNat]? = some (.tuple [.str nm, .tuple (prD (m.dl x))]) := by rw [List.getElem?_map, hnm]; rfl
      repeat trivial
      refine domain_of_ok T O.hv hx.1 hdx (by show x < 2 ^ 63; have := hx.2; have : (2:Int)^63 = 9223372036854775808 := rfl; lia) ?_
      repeat trivial
      refine ValP.eqDl ?_
      by_cases e2 : m.dl x = [(0, 1)]
      · have e3 : decide (m.dl x = [(0, 1)]) = true := decide_eq_true e2
        repeat trivial
        refine h m σ (.bi x (decide (k = 1))) O ((Gr.refl m).mono (by lia)) (.refl _ _) rfl (tok_bi hx e2) tb_bi fun ρ => ?_
        have hw := E_in O.inv hx ρ
        unfold Mo.E at hw
        rw [e2] at hw
        have hw : 0 ≤ m.W ρ x ∧ m.W ρ x ≤ 1 := hw
        have hden : den (m.W ρ) [(x, 1)] = m.W ρ x := by rw [den_cons, den_nil]; simp
        rw [hden]
        rcases h1 x rfl e2 with rfl | rfl
        · show (1 : Int) + den _ [(x, -1)] = _
          rw [den_cons, den_nil]
          show 1 + (-1 * m.W ρ x + 0) = _
          split <;> lia
        · show (0 : Int) + den _ [(x, 1)] = _
          rw [hden]
          split <;> lia
      · have e3 : decide (m.dl x = [(0, 1)]) = false := decide_eq_false e2
        repeat trivial
    · have e1 : decide (List.map (fun x => x.2) ps = [1]) = false := decide_eq_false fun h => by
        obtain ⟨p, hp⟩ : ∃ p, ps = [p] := List.length_eq_one_iff.mp (by rw [← List.length_map (f := fun x : Int × Int => x.2), h]; rfl)
        subst hp
        have : p.2 = 1 := by simpa using h
        exact e ⟨p.1, by rw [← this]⟩
      repeat trivial
  · repeat trivial
    refine once_S T (lo := 0) (hi := 1) O hn (kOk_reif ps k) (by decide) (by decide) (fun z hz => ?_) (fun hnone nm σ₁ v1 t1 m1 x1 => ?_)
    · repeat trivial
      obtain ⟨q1, J, q2, J⟩ := O.inv.key _ _ hz
      obtain ⟨q3, q4⟩ := q2 ps k rfl
      refine h m σ (.bi z true) O ((Gr.refl m).mono (by lia)) (.refl _ _) rfl (tok_bi q1 q3) tb_bi fun ρ => ?_
      show (0 : Int) + den _ [(z, 1)] = _
      rw [den_cons, den_nil, q4 hp ρ]; simp
    · have fin := inv_reif O.inv (nm := nm) hb hp hnone
      repeat trivial
      refine post_S T (Tl.reif m.vs.length ps k) rfl t1 (by have := O.inv.tlen; lia) fun σ₂ kp t2 x2 => ?_
      repeat trivial
      refine h _ σ₂ (.bi m.vs.length true) ⟨kp _ _ v1 O.vt, t2, kp _ _ m1 (Ne.symm O.tm), O.vt, O.vm, O.tm, fin⟩ more_gr (x1.trans (x2.mono (by simp))) rfl (tok_bi more_has more_dl) tb_bi fun ρ => ?_
      show (0 : Int) + den _ [(_, 1)] = _
      rw [den_cons, den_nil, more_W]; simp

theorem row_truth_ok (T : TopOK c) {t : Th} (O : Ok σ va ta ma m) (hn : m.vs.length ≤ 10000) (ht : TOk m t) (tb : TB (2 ^ 20) 1000 (2 ^ 40) t)
    (h : ∀ m' σ' r, Ok σ' va ta ma m' → Gr 1 m m' → Ext [va, ta, ma] σ σ' → (r.isB || r.isT) = true → TOk m' r → TB 1 1 1 r → (∀ ρ, r.val (m'.W ρ) = if t.val (m.W ρ) = 0 then 1 else 0) → Q (.dat r.d) σ') : CallP c (d + 6) (.ref (c.fn "row_truth")) [Fu va ta ma, S' "linear_eq", .dat t.d] σ Q := by
  refine CallP.inn 24 7 [("self", Fu va ta ma), ("kind", S' "linear_eq"), ("value", .dat t.d)] T rfl ?_
  repeat trivial
  refine row_ok T .eq O ht tb hn (fun b hb => ?_) (fun ps k R => ?_)
  · repeat trivial
    refine h m σ (.bo b) O ((Gr.refl m).mono (by lia)) (.refl _ _) rfl tok_bo tb_bo fun ρ => ?_
    have := hb ρ
    have e : decide (t.val (m.W ρ) = 0) = b := this
    cases b
    · rw [if_neg (of_decide_eq_false e)]; rfl
    · rw [if_pos (of_decide_eq_true e)]; rfl
  · obtain ⟨p0, r0, h0⟩ := List.exists_cons_of_ne_nil R.ne
    have nz0 : p0.2 ≠ 0 := R.nz p0 (by rw [h0]; exact .head _)
    repeat trivial
    refine EvalP.compM (ps.map (·.2)) PyData.int (fun a => .int (-a)) [] trivial (compOK_of [] rfl (by kernel_rfl!)) ?_ (by rw [List.length_map]; have := R.len; lia)
    repeat trivial
    refine ⟨iter_litT, fun p q => by repeat trivial, ?_⟩
    repeat trivial
    refine bi_tupleL (by rw [List.length_map, List.length_map]; have := R.len; lia) ?_
    repeat trivial
    refine subTp (x := .int p0.2) (by rw [h0]; rfl) ?_
    have rel : ∀ ρ, (den (m.W ρ) ps = k ↔ t.val (m.W ρ) = 0) := fun ρ => by
      have : decide (den (m.W ρ) ps = k) = decide (t.val (m.W ρ) = 0) := R.rel ρ
      exact decide_eq_decide.mp this
    have hE : ∀ x, m.dl x = [(0, 1)] → (m.E x).1 = 0 ∧ (m.E x).2 = 1 := fun x e => by unfold Mo.E; rw [e]; exact ⟨rfl, rfl⟩
    by_cases neg : p0.2 < 0
    · have e1 : decide (p0.2 < 0) = true := decide_eq_true neg
      have e2 : decide (0 < p0.2) = false := decide_eq_false (by lia)
      repeat trivial
      refine subTp (x := .int p0.2) (by rw [h0]; rfl) ?_
      repeat trivial
      have e3 : (Tu [.str Kd.eq.s, .tuple ((ps.map (·.2)).map fun a => .int (-a)), .tuple (lits (ps.map (·.1))), .int (-k)]) = .dat (linD .eq (ps.map fun p => (p.1, -p.2)) (-k)) := by
        simp [lits, List.map_map]
      rw [e3]
      have hden : ∀ ρ, den (m.W ρ) (ps.map fun p => (p.1, -p.2)) = - den (m.W ρ) ps := fun ρ => by
        clear h0 R rel e3
        induction ps with
        | nil => rfl
        | cons p r ih => rw [List.map_cons, den_cons, den_cons, ih, Int.neg_add, Int.neg_mul]
      refine told_truth_ok T O hn (fun p q => ?_) ⟨fun p q => ?_, ?_⟩ (fun x e hd => ?_) fun m' σ' r O' g x hT ht' tb' hv => ?_
      · obtain ⟨p', hp', rfl⟩ := List.mem_map.mp q
        exact R.has p' hp'
      · obtain ⟨p', hp', rfl⟩ := List.mem_map.mp q
        show (-p'.2).natAbs ≤ _
        rw [Int.natAbs_neg]; exact R.co p' hp'
      · rw [List.length_map]; exact R.len
      · obtain ⟨p1, hp1⟩ : ∃ p1, ps = [p1] := by
          have : (ps.map fun p => (p.1, -p.2)).length = 1 := by rw [e]; rfl
          rw [List.length_map] at this
          exact List.length_eq_one_iff.mp this
        subst hp1
        simp only [List.map_cons, List.map_nil, List.cons.injEq, and_true, Prod.mk.injEq] at e
        have a1 := R.one p1.1 p1.2 rfl
        rw [e.1] at a1
        obtain ⟨b1, b2⟩ := hE x hd
        have a2 : p1.2 = -1 := by lia
        rw [b1, b2, a2] at a1
        lia
      · refine h m' σ' r O' g x (by rw [hT]; simp) ht' tb' fun ρ => ?_
        rw [hv ρ, hden]
        have := rel ρ
        by_cases q : t.val (m.W ρ) = 0
        · rw [if_pos q, if_pos (by have := this.mpr q; lia)]
        · rw [if_neg q, if_neg (fun z => q (this.mp (by lia)))]
    · have e1 : decide (p0.2 < 0) = false := decide_eq_false neg
      have e2 : decide (0 < p0.2) = true := decide_eq_true (by lia)
      repeat trivial
      refine subTp (x := .int p0.2) (by rw [h0]; rfl) ?_
      repeat trivial
      refine told_truth_ok T O hn R.has ⟨R.co, R.len⟩ (fun x e hd => ?_) fun m' σ' r O' g x hT ht' tb' hv => ?_
      · have a1 := R.one x 1 e
        obtain ⟨b1, b2⟩ := hE x hd
        rw [b1, b2] at a1
        lia
      · refine h m' σ' r O' g x (by rw [hT]; simp) ht' tb' fun ρ => ?_
        rw [hv ρ]
        have := rel ρ
        by_cases q : t.val (m.W ρ) = 0
        · rw [if_pos q, if_pos (this.mpr q)]
        · rw [if_neg q, if_neg (fun z => q (this.mp z))]

end
-- Con11

section
variable {c : Cx} {d : Nat} {sc : Scope} {B : Bs} {σ : Sg} {Q : AV → Sg → Prop} {va ta ma : Addr} {ι : Type} {m : Mo ι}

noncomputable def unl : Th → Th → Th
  | .bo true, o => o.neg
  | .bo false, o => o
  | t, .bo true => t.neg
  | t, .bo false => t
  | .bi _ a, .bi _ b => .bo (!(a == b))
  | t, _ => t
noncomputable abbrev Tru (t : Th) : Prop := t.isB = true ∨ t.isT = true
theorem unlike_ok (T : TopOK c) {s t : Th} (hs : Tru s) (ht : Tru t) (hx : ∀ x a y b, s = .bi x a → t = .bi y b → x = y) (h : Q (.dat (unl s t).d) σ) : CallP c (d + 3) (.ref (c.fn "unlike")) [Fu va ta ma, .dat s.d, .dat t.d] σ Q := by
  refine CallP.inn 24 11 [("self", Fu va ta ma), ("one", .dat s.d), ("other", .dat t.d)] T rfl ?_
  cases s with
  | it v => rcases hs with e | e <;> cases e
  | su ps v => rcases hs with e | e <;> cases e
  | bo v =>
    cases v
    · repeat trivial
    · repeat trivial
      refine contrary_ok T t ht ?_
      repeat trivial
  | bi x a =>
    cases t with
    | it v => rcases ht with e | e <;> cases e
    | su ps v => rcases ht with e | e <;> cases e
    | bo v =>
      cases v
      · repeat trivial
      · repeat trivial
        refine contrary_ok T (.bi x a) hs ?_
        repeat trivial
    | bi y b =>
      have e : x = y := hx _ _ _ _ rfl rfl
      have e1 : decide (x = y) = true := decide_eq_true e
      repeat trivial

theorem w01 (I : Inv m) {x : Int} (h : m.has x) (e : m.dl x = [(0, 1)]) (ρ : ι) : m.W ρ x = 0 ∨ m.W ρ x = 1 := by
  have hw := E_in I h ρ
  unfold Mo.E at hw
  rw [e] at hw
  have hw : 0 ≤ m.W ρ x ∧ m.W ρ x ≤ 1 := hw
  lia
theorem bi_w {t : Th} (ht : TOk m t) {x : Int} {v : Bool} (e : t = .bi x v) : m.has x ∧ m.dl x = [(0, 1)] := by
  subst e
  have : ∃ a, (x, a) ∈ (Th.bi x v).ps := by cases v <;> exact ⟨_, .head _⟩
  obtain ⟨a, q⟩ := this
  exact ⟨ht.has _ q, ht.bit rfl _ q⟩
theorem bi_val {x : Int} {v : Bool} {w : Vl} : (Th.bi x v).val w = if v then w x else 1 - w x := by
  cases v
  · show (1 : Int) + den _ [(x, -1)] = 1 - w x
    rw [den_cons, den_nil]
    show 1 + (-1 * w x + 0) = _
    lia
  · show (0 : Int) + den _ [(x, 1)] = w x
    rw [den_cons, den_nil]
    show 0 + (1 * w x + 0) = _
    lia
theorem bo_val {v : Bool} {w : Vl} : (Th.bo v).val w = if v then 1 else 0 := by cases v <;> rfl
theorem neg_ok {t : Th} (ht : TOk m t) (h : Tru t) : Tru t.neg ∧ TOk m t.neg ∧ TB 1 1 1 t.neg ∧ ∀ w, t.neg.val w = 1 - t.val w := by
  cases t with
  | it v => rcases h with e | e <;> cases e
  | su ps v => rcases h with e | e <;> cases e
  | bo v => exact ⟨.inl rfl, tok_bo, tb_bo, fun w => by show (Th.bo (!v)).val w = _; rw [bo_val, bo_val]; cases v <;> rfl⟩
  | bi x v =>
    obtain ⟨h1, h2⟩ := bi_w ht rfl
    exact ⟨.inr rfl, tok_bi h1 h2, tb_bi, fun w => by show (Th.bi x (!v)).val w = _; rw [bi_val, bi_val]; cases v <;> simp <;> lia⟩
theorem tru_tb {t : Th} (h : Tru t) : TB 1 1 1 t := by
  cases t with
  | it v => rcases h with e | e <;> cases e
  | su ps v => rcases h with e | e <;> cases e
  | bo v => exact tb_bo
  | bi x v => exact tb_bi
theorem unl_ok (I : Inv m) {s t : Th} (hs : Tru s) (ht : Tru t) (os : TOk m s) (ot : TOk m t) (hx : ∀ x a y b, s = .bi x a → t = .bi y b → x = y) : Tru (unl s t) ∧ TOk m (unl s t) ∧ ∀ ρ, (unl s t).val (m.W ρ) = if s.val (m.W ρ) = t.val (m.W ρ) then 0 else 1 := by
  have v01 : ∀ (t : Th), Tru t → TOk m t → ∀ ρ, t.val (m.W ρ) = 0 ∨ t.val (m.W ρ) = 1 := fun t h o ρ => by
    cases t with
    | it v => rcases h with e | e <;> cases e
    | su ps v => rcases h with e | e <;> cases e
    | bo v => rw [bo_val]; cases v <;> simp
    | bi x v =>
      obtain ⟨h1, h2⟩ := bi_w o rfl
      have := w01 I h1 h2 ρ
      rw [bi_val]
      cases v <;> simp <;> lia
  cases s with
  | it v => rcases hs with e | e <;> cases e
  | su ps v => rcases hs with e | e <;> cases e
  | bo v =>
    cases v
    · refine ⟨ht, ot, fun ρ => ?_⟩
      show t.val _ = _
      rw [bo_val]
      have := v01 t ht ot ρ
      simp only [Bool.false_eq_true, if_false]
      split <;> lia
    · obtain ⟨n1, n2, J, n3⟩ := neg_ok ot ht
      refine ⟨n1, n2, fun ρ => ?_⟩
      show t.neg.val _ = _
      rw [n3, bo_val]
      have := v01 t ht ot ρ
      simp only [if_true]
      split <;> lia
  | bi x a =>
    cases t with
    | it v => rcases ht with e | e <;> cases e
    | su ps v => rcases ht with e | e <;> cases e
    | bo v =>
      have := v01 _ hs os
      cases v
      · refine ⟨hs, os, fun ρ => ?_⟩
        show (Th.bi x a).val _ = _
        rw [bo_val]
        have := this ρ
        simp only [Bool.false_eq_true, if_false]
        split <;> lia
      · obtain ⟨n1, n2, J, n3⟩ := neg_ok os hs
        refine ⟨n1, n2, fun ρ => ?_⟩
        show (Th.bi x a).neg.val _ = _
        rw [n3, bo_val]
        have := this ρ
        simp only [if_true]
        split <;> lia
    | bi y b =>
      have e : x = y := hx _ _ _ _ rfl rfl
      subst e
      refine ⟨.inl rfl, tok_bo, fun ρ => ?_⟩
      show (Th.bo (!(a == b))).val _ = _
      obtain ⟨h1, h2⟩ := bi_w os rfl
      have := w01 I h1 h2 ρ
      rw [bo_val, bi_val, bi_val]
      cases a <;> cases b <;> simp <;> lia

theorem equal_ok (T : TopOK c) {s t : Th} (O : Ok σ va ta ma m) (hn : m.vs.length ≤ 10000) (os : TOk m s) (ot : TOk m t) (bs : TB 100 20 1000 s) (bt : TB 100 20 1000 t) (hx : ∀ x a y b, s = .bi x a → t = .bi y b → x = y)
    (h : ∀ m' σ' r, Ok σ' va ta ma m' → Gr 1 m m' → Ext [va, ta, ma] σ σ' → Tru r → TOk m' r → TB 1 1 1 r → (∀ ρ, r.val (m'.W ρ) = if s.val (m.W ρ) = t.val (m.W ρ) then 1 else 0) → Q (.dat r.d) σ') : CallP c (d + 7) (.ref (c.fn "equal")) [Fu va ta ma, .dat s.d, .dat t.d] σ Q := by
  refine CallP.inn 25 13 [("self", Fu va ta ma), ("one", .dat s.d), ("other", .dat t.d)] T rfl ?_
  refine ExecsP.split1 (σ₁ := σ) [("self", Fu va ta ma), ("one", .dat s.d), ("other", .dat t.d)] True (fun N' hN => ?_) (fun J => ?_)
  · have hN := hN True.intro
    by_cases hs : Tru s
    · have e1 : (s.isB || s.isT) = true := by rcases hs with e | e <;> simp [e]
      by_cases ht : Tru t
      · have e2 : (t.isB || t.isT) = true := by rcases ht with e | e <;> simp [e]
        repeat trivial
        refine unlike_ok T hs ht hx ?_
        obtain ⟨u1, u2, u3⟩ := unl_ok O.inv hs ht os ot hx
        obtain ⟨n1, n2, n3, n4⟩ := neg_ok u2 u1
        repeat trivial
        refine contrary_ok T _ u1 ?_
        refine h m σ _ O ((Gr.refl m).mono (by lia)) (.refl _ _) n1 n2 n3 fun ρ => ?_
        rw [n4, u3]
        split <;> rfl
      · have e2 : (t.isB || t.isT) = false := by
          cases z : t.isB <;> cases z2 : t.isT <;> first | rfl | exact absurd (by first | exact Or.inl z | exact Or.inr z2) ht
        repeat trivial
    · have e1 : (s.isB || s.isT) = false := by
        cases z : s.isB <;> cases z2 : s.isT <;> first | rfl | exact absurd (by first | exact Or.inl z | exact Or.inr z2) hs
      repeat trivial
  · repeat trivial
    refine plus_S T os ot bs bt (by decide) (by decide) (by decide) (by decide) (by decide) (by decide) fun r σ₁ x₁ or nr br vr => ?_
    repeat trivial
    refine row_truth_ok T (O.ext x₁) hn or (br.mono (by decide) (by decide) (by decide)) fun m' σ' r' O' g x hT ot' tb' hv => ?_
    refine h m' σ' r' O' g ((x₁.nil _).trans x) (by simpa using hT) ot' tb' fun ρ => ?_
    rw [hv ρ, vr ρ]
    by_cases q : s.val (m.W ρ) = t.val (m.W ρ)
    · rw [if_pos q, if_pos (by lia)]
    · rw [if_neg q, if_neg (by lia)]
end
-- Con12
section
variable {c : Cx} {d : Nat} {sc : Scope} {B : Bs} {σ : Sg} {Q : AV → Sg → Prop} {va ta ma : Addr} {ι : Type} {m : Mo ι}

theorem th_sh (t : Th) : ShN 3 t.d := by
  cases t with
  | bo v => exact ShN.bool
  | it v => exact ShN.int
  | su ps v =>
    refine ShN.tuple fun x q => ?_
    simp only [List.mem_cons, List.not_mem_nil, or_false] at q
    rcases q with rfl | rfl | rfl
    · exact ShN.str
    · refine ShN.tuple fun x q => ?_
      obtain ⟨p, J, rfl⟩ := List.mem_map.mp q
      exact ShN.tuple fun y my => by
        rcases List.mem_cons.mp my with rfl | my
        · exact ShN.int
        · rcases List.mem_singleton.mp my with rfl
          exact ShN.int
    · exact ShN.int
  | bi x v =>
    refine ShN.tuple fun y q => ?_
    simp only [List.mem_cons, List.not_mem_nil, or_false] at q
    rcases q with rfl | rfl | rfl
    · exact ShN.str
    · exact ShN.int
    · exact ShN.bool
theorem eqv_nil {ys : List PyData} : PyData.eqv (.list ys) (.list []) = ys.isEmpty := by
  cases ys <;> simp [PyData.eqv, PyData.eqvAll]
noncomputable def Th.unk (t : Th) : Bool := t.isS || t.isT
theorem is_known_row (T : TopOK c) {some : List Th} {x : PyData} (hl : some.length ≤ 1000) (h : Q (Bo (!(some.any Th.unk))) σ) : CallP c (d + 4) (.ref (c.fn "is_known")) [Tu [x, .list (some.map Th.d)]] σ Q := by
  refine CallP.top 19 [("value", Tu [x, .list (some.map Th.d)])] T rfl ?_
  repeat trivial
  refine is_array_yes T x (some.map Th.d) ?_
  repeat trivial
  refine EvalP.compP some Th.d (fun t => t.unk) Th.d [] trivial (compOK_of [] rfl (by kernel_rfl!)) ?_ (by lia)
  repeat trivial
  refine ⟨iter_mapL, fun p q => ?_, ?_⟩
  · refine AsgP.name (k := .local) (by kernel_rfl!) ⟨rfl, trivial, ?_⟩ (.inl rfl)
    show TestP _ _ _ _ _ _ _
    repeat trivial
    refine is_known_ok T p ?_
    refine ⟨_, rfl, ⟨?_, rfl⟩, fun J => ?_⟩
    · show (!(!p.isS && !p.isT)) = (p.isS || p.isT); cases p.isS <;> cases p.isT <;> rfl
    · repeat trivial
  · repeat trivial
    refine ValP.eq (ShN.list (n := 3) fun y q => ?_).sh (ShN.list (n := 0) (xs := []) (fun x q => by cases q)).sh ?_
    · obtain ⟨p, J, rfl⟩ := List.mem_map.mp q
      exact th_sh p
    · rw [eqv_nil]
      have : ((some.filter Th.unk).map Th.d).isEmpty = !(some.any Th.unk) := by
        clear h hl
        induction some with
        | nil => rfl
        | cons p r ih =>
          rw [List.filter_cons, List.any_cons]
          by_cases q : p.unk
          · rw [if_pos q, q]; rfl
          · rw [if_neg q, ih]; simp [q]
      have e2 : (List.map Th.d (some.filter fun t => t.unk)).isEmpty = !(some.any Th.unk) := this
      rw [e2]
      exact h
noncomputable def cntOf (w : Vl) (some : List Th) (v : Int) : Int := ((some.map fun t => t.val w).count v : Nat)
theorem cnt_snoc {w : Vl} {some : List Th} {t : Th} {v : Int} : cntOf w (some ++ [t]) v = cntOf w some v + (if t.val w = v then 1 else 0) := by
  unfold cntOf
  rw [List.map_append, List.count_append]
  show (((List.count v (some.map fun t => t.val w)) + List.count v [t.val w] : Nat) : Int) = _
  by_cases e : t.val w = v
  · rw [if_pos e, e]; simp
  · rw [if_neg e]
    have : List.count v [t.val w] = 0 := by simp [List.count_cons, e]
    rw [this]; simp
structure Some1 (m : Mo ι) (t : Th) : Prop where
  fit : Fit m t
  tb : TB 1 2 3 t
structure Some2 (m : Mo ι) (some : List Th) (v : Th) : Prop where
  each : ∀ t ∈ some, Some1 m t
  bits : ∀ t ∈ some, ∀ x a y b, t = .bi x a → v = .bi y b → x = y
  len : some.length ≤ 3
  ok : TOk m v
  tb : TB 1 2 16 v
theorem bi_intK {v : Th} (hv : (!v.isS && !v.isT) = true) (h : Q (I v.k) σ) : CallP c d (.val (biV "int")) [.dat v.d] σ Q := by
  cases v with
  | bo b => refine bi_intB ?_; cases b <;> exact h
  | it i => exact bi_intI h
  | su ps k => cases hv
  | bi x a => cases hv
theorem known_val {v : Th} (hv : (!v.isS && !v.isT) = true) (w : Vl) : v.val w = v.k := by
  cases v with
  | bo b => cases b <;> rfl
  | it i => show i + 0 = i; lia
  | su ps k => cases hv
  | bi x a => cases hv
/- What the count holds ahead of a turn. -/
inductive ManyI (σ : Sg) (va ta ma : Addr) (m : Mo ι) (some : List Th) (v : Th) (Bf : Th → Bs) (i : Nat) (B' : Bs) (σ' : Sg) : Prop
  | mk (m' : Mo ι) (f : Th) : B' = Bf f → Ok σ' va ta ma m' → Gr i m m' → Ext [va, ta, ma] σ σ' → TOk m' f → (f.isT = false ∧ f.isB = false) → TB i i i f → (∀ ρ, f.val (m'.W ρ) = cntOf (m.W ρ) (some.take i) (v.val (m.W ρ))) → ManyI σ va ta ma m some v Bf i B' σ'
theorem many_of_ok (T : TopOK c) {some : List Th} {v : Th} (O : Ok σ va ta ma m) (hn : m.vs.length ≤ 9000) (hs : Some2 m some v)
    (h : ∀ m' σ' r, Ok σ' va ta ma m' → Gr 4 m m' → Ext [va, ta, ma] σ σ' → (r.isT = false ∧ r.isB = false) → TOk m' r → TB 3 3 3 r → (∀ ρ, r.val (m'.W ρ) = cntOf (m.W ρ) some (v.val (m.W ρ))) → Q (.dat r.d) σ') : CallP c (d + 9) (.ref (c.fn "many_of")) [Fu va ta ma, Li (some.map Th.d), .dat v.d] σ Q := by
  refine CallP.inn 25 21 [("self", Fu va ta ma), ("some", Li (some.map Th.d)), ("value", .dat v.d)] T rfl ?_
  have hl := hs.len
  have hz : (some.map Th.d).length < 2 ^ 63 := by rw [List.length_map]; lia
  refine ExecsP.split1 (σ₁ := σ) [("self", Fu va ta ma), ("some", Li (some.map Th.d)), ("value", .dat v.d)] True (fun N' hN => ?_) (fun J => ?_)
  · have hN := hN True.intro
    repeat trivial
    refine is_known_ok T v ?_
    by_cases hv : (!v.isS && !v.isT) = true
    · rw [hv]
      repeat trivial
      refine row_of_ok T hz ?_
      repeat trivial
      refine is_known_row T (by lia) ?_
      by_cases ha : some.any Th.unk = true
      · rw [ha]
        repeat trivial
        refine vars_of_ok T O (fun t q => (hs.each t q).fit) (by lia) fun m₁ σ₁ xs O₁ g₁ x₁ V₁ => ?_
        repeat trivial
        refine bi_intK hv ?_
        repeat trivial
        refine range_le T (by lia) ?_
        refine EvalsP.nil ?_
        have hxl := V₁.len
        rw [List.length_map, ← hxl]
        refine made_number_ok T O₁ V₁.has (by lia) (by have := g₁.len; lia) fun m₂ σ₂ z O₂ g₂ x₂ hz₂ hw => ?_
        refine h m₂ σ₂ (.su [(z, 1)] 0) O₂ ((g₁.trans g₂).mono (by lia)) (x₁.trans x₂) ⟨rfl, rfl⟩ ⟨fun p q => ?_, fun p q => ?_, by simp [Th.ps], fun e => nomatch e⟩ ⟨fun p q => ?_, by show 1 ≤ 3; lia, by show 0 ≤ 3; lia⟩ fun ρ => ?_
        · rcases List.mem_singleton.mp q with rfl; exact hz₂
        · rcases List.mem_singleton.mp q with rfl; exact Int.one_ne_zero
        · rcases List.mem_singleton.mp q with rfl; show 1 ≤ 3; lia
        · show 0 + den _ [(z, 1)] = _
          rw [den_cons, den_nil, hw ρ, V₁.map, known_val hv]
          have : (some.map fun t => t.val (m₁.W ρ)) = some.map fun t => t.val (m.W ρ) := List.map_congr_left fun t q => g₁.val (hs.each t q).fit.ok ρ
          rw [this]
          show 0 + (1 * _ + 0) = _
          unfold cntOf; lia
      · have ha : some.any Th.unk = false := by simpa using ha
        rw [ha]
        repeat trivial
    · have hv : (!v.isS && !v.isT) = false := by simpa using hv
      rw [hv]
      repeat trivial
  · repeat trivial
    refine ExecP.forC ?_ (by intros; rfl)
    repeat trivial
    refine ⟨_, ManyI σ va ta ma m some v (fun f => [("found", .dat (Th.d f)), ("self", Fu va ta ma), ("value", .dat v.d)]), iter_mapL, ⟨_, ?_, m, .it 0, rfl, O, Gr.refl m, .refl _ _, tok_it, ⟨rfl, rfl⟩, tb_it (by lia) (by lia) (by decide), fun ρ => rfl⟩, ?_, ?_⟩
    · exact ⟨by repeat trivial, by repeat trivial, by repeat trivial, trivial⟩
    · rintro i x B' σ' hx ⟨m', f, rfl, O', g, x', of, nf, bf, vf⟩
      simp only [List.getElem?_map, Option.map_eq_some_iff] at hx
      obtain ⟨t, ht, rfl⟩ := hx
      have htm := List.mem_of_getElem? ht
      have hi : i < some.length := (List.getElem?_eq_some_iff.mp ht).1
      have s1 := hs.each t htm
      refine AsgP.bd fun N' hN => ?_
      repeat trivial
      refine equal_ok T O' (by have := g.len; lia) (g.tok s1.fit.ok) (g.tok hs.ok) (s1.tb.mono (by decide) (by decide) (by decide)) (hs.tb.mono (by decide) (by decide) (by decide)) (hs.bits t htm) fun m₂ σ₂ r₂ O₂ g₂ x₂ t₂ ok₂ b₂ v₂ => ?_
      repeat trivial
      refine plus_S T (g₂.tok of) ok₂ bf b₂ (by lia) (by decide) (by lia) (by decide) (by lia) (by decide) fun r σ₃ x₃ or nr br vr => ?_
      repeat trivial
      refine hN _ _ ⟨_, ?_, m₂, r, rfl, O₂.ext x₃, g.trans g₂, x'.trans (x₂.trans (x₃.nil _)), or, nr, br.mono (by show i + 1 * 1 * 1 ≤ _; lia) (by lia) (by show i + 1 * 1 ≤ _; lia), fun ρ => ?_⟩
      · exact ⟨by repeat trivial, by repeat trivial, by repeat trivial, trivial⟩
      · rw [vr ρ, g₂.val of, vf ρ, take_snoc ht, cnt_snoc, v₂ ρ, g.val s1.fit.ok, g.val hs.ok]
        lia
    · rintro B' σ' ⟨m', f, rfl, O', g, x', of, nf, bf, vf⟩
      rw [List.length_map] at g bf vf
      rw [List.take_length] at vf
      repeat trivial
      exact h m' σ' f O' (g.mono (by lia)) x' nf of (bf.mono hl hl hl) vf
end
-- Con13
section
variable {c : Cx} {d : Nat} {sc : Scope} {B : Bs} {σ : Sg} {Q : AV → Sg → Prop} {va ta ma : Addr} {ι : Type} {m : Mo ι}

/- What is required last: nothing or one told. -/
structure Last (m : Mo ι) (F : List Tl) (p : ι → Prop) : Prop where
  len : F.length ≤ 1
  has : ∀ T ∈ F, ∀ x ∈ T.about, m.has x
  ok : ∀ T ∈ F, T.ok
  iff : ∀ ρ, (∀ T ∈ F, T.holds (m.W ρ) = true) ↔ p ρ
structure OkF (σ : Sg) (va ta : Addr) (m : Mo ι) (F : List Tl) : Prop where
  hv : (va, OB.lst (m.vs.map vD)) ∈ σ
  ht : (ta, OB.lst ((m.ts ++ F).map Tl.d)) ∈ σ
  vt : va ≠ ta
  inv : Inv m
theorem post_F (T : TopOK c) (O : Ok σ va ta ma m) (t : Tl) {x : PyData} (e : x = t.d) (hn : m.vs.length ≤ 10000)
    (h : ∀ σ', OkF σ' va ta m [t] → Ext [va, ta, ma] σ σ' → Q (.dat .none) σ') : CallP c (d + 1) (.ref (c.fn "post")) [.flat (.ref va) (.ref ta), .dat x] σ Q :=
  post_S T t e O.ht (by have := O.inv.tlen; lia) fun σ₂ kp t2 x2 => h σ₂ ⟨kp _ _ O.hv O.vt, t2, O.vt, O.inv⟩ (x2.mono (by simp))
theorem Ok.F (O : Ok σ va ta ma m) : OkF σ va ta m [] := ⟨O.hv, by rw [List.append_nil]; exact O.ht, O.vt, O.inv⟩
theorem sh_lin {kd : Kd} {ps : List (Int × Int)} {k : Int} : ShN 2 (linD kd ps k) := by
  refine ShN.tuple fun x q => ?_
  simp only [List.mem_cons, List.not_mem_nil, or_false] at q
  rcases q with rfl | rfl | rfl | rfl
  · cases kd <;> exact ShN.str
  · exact (ShN.tuple (n := 0) fun x q => by obtain ⟨i, J, rfl⟩ := List.mem_map.mp q; exact ShN.int)
  · exact (ShN.tuple (n := 0) fun x q => by obtain ⟨i, J, rfl⟩ := List.mem_map.mp q; exact ShN.int)
  · exact ShN.int

theorem Last.one {T : Tl} {p : ι → Prop} (hx : ∀ x ∈ T.about, m.has x) (ho : T.ok) (h : ∀ ρ, T.holds (m.W ρ) = true ↔ p ρ) : Last m [T] p where
  len := Nat.le_refl 1
  has := fun T' q => by rcases List.mem_singleton.mp q with rfl; exact hx
  ok := fun T' q => by rcases List.mem_singleton.mp q with rfl; exact ho
  iff := fun ρ => ⟨fun z => (h ρ).mp (z _ (.head _)), fun z T' q => by rcases List.mem_singleton.mp q with rfl; exact (h ρ).mpr z⟩
theorem Last.no {p : ι → Prop} (h : ∀ ρ, p ρ) : Last m [] p := ⟨Nat.zero_le 1, fun T q => (List.not_mem_nil q).elim, fun T q => (List.not_mem_nil q).elim, fun ρ => ⟨fun J => h ρ, fun J T q => (List.not_mem_nil q).elim⟩⟩
theorem require_row_ok (T : TopOK c) {t : Th} (kd : Kd) (O : Ok σ va ta ma m) (ht : TOk m t) (tb : TB (2 ^ 20) 1000 (2 ^ 40) t) (hn : m.vs.length ≤ 10000)
    (h : ∀ σ' F, OkF σ' va ta m F → Ext [va, ta, ma] σ σ' → Last m F (fun ρ => kd.rel (t.val (m.W ρ)) 0 = true) → Q (.dat .none) σ') : CallP c (d + 6) (.ref (c.fn "require_row")) [Fu va ta ma, S' kd.s, .dat t.d] σ Q := by
  refine CallP.inn 24 13 [("self", Fu va ta ma), ("kind", S' kd.s), ("value", .dat t.d)] T rfl ?_
  repeat trivial
  refine row_ok T kd O ht tb hn (fun b hb => ?_) (fun ps k R => ?_)
  · cases b
    · repeat trivial
      refine post_F T O (.cls [] []) rfl hn fun σ' OF x => ?_
      repeat trivial
      exact h σ' _ OF x (.one (fun x q => (List.not_mem_nil q).elim) ⟨Nat.zero_le _, Nat.zero_le _⟩ fun ρ => ⟨fun z => (by cases z), fun z => by rw [hb ρ] at z; cases z⟩)
    · repeat trivial
      exact h σ _ O.F (.refl _ _) (.no hb)
  · have e1 : PyData.eqv (linD kd ps k) (.bool false) = false := by simp [PyData.eqv]
    have e2 : PyData.eqv (linD kd ps k) (.bool true) = false := by simp [PyData.eqv]
    repeat trivial
    refine ValP.eq sh_lin.sh (ShN.bool (n := 0)).sh ?_
    rw [e1]
    repeat trivial
    refine ValP.ne sh_lin.sh (ShN.bool (n := 0)).sh ?_
    rw [e2]
    repeat trivial
    refine post_F T O (.lin kd ps k) rfl hn fun σ' OF x => ?_
    repeat trivial
    refine h σ' _ OF x (.one (fun x q => ?_) ⟨R.co, Nat.le_succ_of_le R.len⟩ fun ρ => ?_)
    · obtain ⟨p, hp, rfl⟩ := List.mem_map.mp q
      exact R.has p hp
    · rw [← R.rel ρ]; exact Iff.rfl
end
-- Base20
section
variable {c : Cx} {d : Nat} {sc : Scope} {B : Bs} {σ : Sg} {Q : AV → Sg → Prop} {N : Bs → Sg → Prop} {R : AV → Sg → Prop}

/- An owned list told as data. -/
inductive Frz (a : Addr) (xs : List PyData) : AV → AV → Prop
  | same {x} : Frz a xs x x
  | conv : Frz a xs (.ref a) (Li xs)
  | flat {V T V' T'} : Frz a xs V V' → Frz a xs T T' → Frz a xs (.flat V T) (.flat V' T')
  | funs {V T V' T'} : Frz a xs V V' → Frz a xs T T' → Frz a xs (.funs V T) (.funs V' T')
noncomputable def FrzB (a : Addr) (xs : List PyData) (B : Bs) : Bs → Prop
  | [] => True
  | (n, y) :: r => (∃ x, B.lookup n = some x ∧ Frz a xs x y) ∧ FrzB a xs B r
theorem FrzB.at {a xs} {B' : Bs} : FrzB a xs B B' → ∀ n y, B'.lookup n = some y → ∃ x, B.lookup n = some x ∧ Frz a xs x y := by
  induction B' with
  | nil => intro J n y e; cases e
  | cons p r ih =>
    intro h n y e
    obtain ⟨k, z⟩ := p
    exact (lk_split e).elim (fun q => q.1 ▸ q.2 ▸ h.1) fun q => ih h.2 n y q.2
theorem InstOf.sub {h : Heap} {S S' C x names mA} (hs : ∀ b ∈ S', b ∈ S) (i : InstOf h S C x names mA) : InstOf h S' C x names mA := by
  obtain ⟨dx, hx, hd, nd, ho⟩ := i
  exact ⟨dx, hx, hd, fun m => nd (hs _ m), ho⟩
theorem Rp2.sub {h : Heap} {S S' C names n1 n2 v} {P1 P2 R1 R2 : Value → Prop} (hs : ∀ b ∈ S', b ∈ S) (f : ∀ v, P1 v → R1 v) (g : ∀ v, P2 v → R2 v) (r : Rp2 h S C names n1 n2 P1 P2 v) : Rp2 h S' C names n1 n2 R1 R2 v := by
  obtain ⟨y, mA, v1, v2, e, i, h1, h2, h3, h4⟩ := r
  exact ⟨y, mA, v1, v2, e, i.sub hs, h1, h2, f _ h3, g _ h4⟩
theorem Frz.rp {a xs} {h : Heap} {S S' : List Addr} (hs : ∀ b ∈ S', b ∈ S) (hl : Rp c h S' (Li xs) (.ref a)) {x y : AV} (z : Frz a xs x y) : ∀ {v : Value}, Rp c h S x v → Rp c h S' y v := by
  induction z with
  | same => intro v r; exact r.sub hs
  | conv => intro v r; rw [show v = .ref a from r]; exact hl
  | flat J J f g => intro v r; exact Rp2.sub hs (fun J z => f z) (fun J z => g z) r
  | funs J J f g => intro v r; exact Rp2.sub hs (fun J z => f z) (fun J z => g z) r
noncomputable def sgLess (σ : Sg) (a : Addr) : Sg := σ.filter fun p => decide (p.1 ≠ a)
theorem mem_less {a : Addr} {p : Addr × OB} (h : p ∈ σ) (n : p.1 ≠ a) : p ∈ sgLess σ a := List.mem_filter.mpr ⟨h, decide_eq_true n⟩
theorem less_sub {a : Addr} {p : Addr × OB} (h : p ∈ sgLess σ a) : p ∈ σ ∧ p.1 ≠ a := ⟨(List.mem_filter.mp h).1, of_decide_eq_true (List.mem_filter.mp h).2⟩
theorem own_less {a b : Addr} (h : b ∈ own (sgLess σ a)) : b ∈ own σ ∧ b ≠ a := by
  obtain ⟨p, hp, rfl⟩ := List.mem_map.mp h
  exact ⟨List.mem_map.mpr ⟨p, (less_sub hp).1, rfl⟩, (less_sub hp).2⟩
theorem St.frz {F s a xs} (st : St c F σ s) (m : (a, OB.lst xs) ∈ σ) : St c F (sgLess σ a) s ∧ Rp c s.heap (F ++ own (sgLess σ a)) (Li xs) (.ref a) := by
  have sub : ∀ b ∈ F ++ own (sgLess σ a), b ∈ F ++ own σ := fun b q => (List.mem_append.mp q).elim (fun q => List.mem_append_left _ q) fun q => List.mem_append_right _ (own_less q).1
  refine ⟨{ base := st.base, gens := st.gens, os := st.os, apart := fun b q => st.apart b (sub b q), nodup := ?_, disj := fun b q z => st.disj b q (own_less z).1, live := st.live, holds := fun p q => (st.holds p (less_sub q).1).sub sub }, ?_⟩
  · exact List.Nodup.sublist (List.Sublist.map _ List.filter_sublist) st.nodup
  · obtain ⟨vs, as, ⟨n, e⟩, ra, na⟩ := st.at_ m
    exact ⟨a :: as, .list e rfl rfl ra rfl, forall_cons (fun z => (List.mem_append.mp z).elim (fun z => st.disj _ z (mem_own m)) fun z => (own_less z).2 rfl) fun b q z => na b q (sub b z)⟩
theorem Frm.frz {F env s a xs B₀} (st : St c F σ s) (m : (a, OB.lst xs) ∈ σ) (f : Frm c env B (F ++ own σ) s.heap) (hB : FrzB a xs B B₀) : Frm c env B₀ (F ++ own (sgLess σ a)) s.heap := by
  have sub : ∀ b ∈ F ++ own (sgLess σ a), b ∈ F ++ own σ := fun b q => (List.mem_append.mp q).elim (fun q => List.mem_append_left _ q) fun q => List.mem_append_right _ (own_less q).1
  obtain ⟨J, hl⟩ := st.frz m
  obtain ⟨mm, q, r⟩ := f.ns
  exact {
    ns := ⟨mm, q, fun n y e k => by
      obtain ⟨x, hx, z⟩ := hB.at n y e
      obtain ⟨v, a1, b1⟩ := r n x hx k
      exact ⟨v, a1, z.rp sub hl b1⟩⟩
    cell := fun n y e k => by
      obtain ⟨x, hx, z⟩ := hB.at n y e
      obtain ⟨a1, v, q1, r1, t1⟩ := f.cell n x hx k
      exact ⟨a1, v, q1, r1, z.rp sub hl t1⟩
    cells := f.cells
    cnd := f.cnd }
theorem ExecsP.frz {sts : List Stmt} {a : Addr} {xs : List PyData} (m : (a, OB.lst xs) ∈ σ) (B₀ : Bs) (hB : FrzB a xs B B₀) (h : ExecsP c d sc B₀ (sgLess σ a) sts N R) : ExecsP c d sc B σ sts N R := fun A s env F rm k hF st f => by
  obtain ⟨st', J⟩ := st.frz m
  have key : ∀ {B' σ' s'}, FrmPost c F env (sgLess σ a) s.heap B' σ' s' → FrmPost c F env σ s.heap B' σ' s' := fun {B' σ' s'} y =>
    ⟨y.st, fun b o e n nf => y.keep b o e (fun q => n (own_less q).1) nf, fun b q => (y.new b q).imp (fun z => (own_less z).1) id, y.frm⟩
  refine wpAny_mono (h A s env F rm k hF st' (f.frz st m hB)) (fun fl s' hfl => ?_) fun J J z => z
  cases fl with
  | next => obtain ⟨B', σ', y, n⟩ := hfl; exact ⟨B', σ', key y, n⟩
  | ret v => obtain ⟨x, B', σ', y, r, n⟩ := hfl; exact ⟨x, B', σ', key y, r, n⟩
  | brk => exact hfl
  | cont => exact hfl
end
-- Con14
section
variable {c : Cx} {d : Nat} {sc : Scope} {B : Bs} {σ : Sg} {Q : AV → Sg → Prop} {va ta ma fa : Addr} {ι : Type} {m : Mo ι}

noncomputable abbrev feedD (cells : List Int) (k : Int) : OB := .dS [("cells", Li (lits cells)), ("spot", I k)]
theorem cs_ne : ¬("cells" : Str) = "spot" := by decide +kernel
theorem at_spot {x y : AV} : at? [(("cells" : Str), x), ("spot", y)] "spot" = some y := by simp [at?, cs_ne]
theorem at_cells {x y : AV} : at? [(("cells" : Str), x), ("spot", y)] "cells" = some x := by simp [at?]
theorem put_spot {x y z : AV} : put [(("cells" : Str), x), ("spot", y)] "spot" z = [(("cells" : Str), x), (("spot" : Str), z)] := by simp [put, cs_ne]
theorem next_ok (T : TopOK c) {cells : List Int} {k many : Int} (m : (fa, feedD cells k) ∈ σ) (h0 : 0 ≤ k) (hk : k ≤ 1000) (hl : cells.length ≤ 100) (hm : 0 < many)
    (h : ∀ r, 0 ≤ r → r < many → Q (I r) (upd σ fa (feedD cells (k + 1)))) : CallP c (d + 1) (.ref (c.fn "_law_next")) [.ref fa, I many] σ Q := by
  refine CallP.top 27 [("feed", .ref fa), ("many", I many)] T rfl ?_
  repeat trivial
  refine subS (x := I k) m at_spot ?_
  repeat trivial
  refine AsgP.sub ?_
  repeat trivial
  refine SetP.s m (by show 2 ≤ 1000000; decide) ?_
  rw [put_spot]
  have m2 := mem_upd (ob := feedD cells (k + 1)) (mem_own m)
  have hll : (lits cells).length < 2 ^ 63 := by rw [List.length_map]; exact Nat.lt_of_le_of_lt hl (by decide)
  have fin : ∀ x : Int, Q (I (x.fmod many)) (upd σ fa (feedD cells (k + 1))) := fun x => by
    rw [Int.fmod_eq_emod_of_nonneg _ (by lia)]
    exact h _ (Int.emod_nonneg _ (by lia)) (Int.emod_lt_of_pos _ hm)
  repeat trivial
  refine subS (x := Li (lits cells)) m2 at_cells ?_
  repeat trivial
  refine ⟨fun e => ?_, fun e => ?_⟩
  · have e : k < ((lits cells).length : Int) := of_decide_eq_true e
    repeat trivial
    refine subS (x := Li (lits cells)) m2 at_cells ?_
    repeat trivial
    have hk' : k.toNat < cells.length := by rw [List.length_map] at e; lia
    refine subLp (x := .int cells[k.toNat]) (by rw [List.getElem?_map, List.getElem?_eq_getElem hk']; rfl) ?_ (decide_eq_true h0) (decide_eq_true (by have : (2:Int)^63 = 9223372036854775808 := rfl; lia))
    repeat trivial
    refine ValP.fmod (by lia) ?_
    repeat trivial
    exact fin _
  · repeat trivial
    refine ValP.mul (by decide) ?_
    repeat trivial
    refine ValP.fdiv (by decide) (by decide) ?_
    repeat trivial
    refine subS (x := Li (lits cells)) m2 at_cells ?_
    repeat trivial
    refine ValP.fmod (by lia) ?_
    repeat trivial
    exact fin _

/- A row as data; a row's values. -/
noncomputable abbrev rw_ (r : List Int) : Vl := fun x => (r[x.toNat]?).getD 0
noncomputable abbrev thingD (t : Th) (q : Int × Int × Int × Int) : PyData := .tuple [t.d, .tuple [.int q.1, .int q.2.1, .int q.2.2.1, .int q.2.2.2]]
noncomputable def thingsOf (k : Int) : List (Th × Int × Int × Int × Int) :=
  [(.su [(0, 1)] 0, 1, 0, 0, 0), (.su [(1, 1)] 0, 0, 1, 0, 0), (.su [(0, 1), (1, -1)] 0, 1, -1, 0, 0), (.bi 2 true, 0, 0, 1, 0), (.bi 2 false, 0, 0, -1, 1), (.bo true, 0, 0, 0, 1), (.it k, 0, 0, 0, k)]
theorem things_ok (T : TopOK c) {k : Int} (h : Q (Li ((thingsOf k).map fun p => thingD p.1 p.2)) σ) : CallP c (d + 1) (.ref (c.fn "_law_things")) [I k] σ Q := by
  refine CallP.top 28 [("k", I k)] T rfl ?_
  repeat trivial
  exact exT ((thingsOf k).map fun p => thingD p.1 p.2) rfl rfl h

theorem worth_ok (T : TopOK c) {t : Th} {r : List Int} (ht : t.isT = false ∧ t.isB = false) (hp : ∀ p ∈ t.ps, 0 ≤ p.1 ∧ p.1 < r.length) (hc : ∀ p ∈ t.ps, p.2.natAbs ≤ 2 ^ 20) (hl : t.ps.length ≤ 1000) (hr : ∀ x ∈ r, x.natAbs ≤ 2 ^ 21) (hrl : r.length ≤ 10000)
    (h : Q (I (t.val (rw_ r))) σ) : CallP c (d + 3) (.ref (c.fn "_law_worth")) [.dat t.d, Li (lits r)] σ Q := by
  refine CallP.top 29 [("thing", .dat t.d), ("row", Li (lits r))] T rfl ?_
  cases t with
  | bo v => cases ht.2
  | bi x v => cases ht.1
  | it v =>
    repeat trivial
    have : (Th.it v).val (rw_ r) = v := by show v + 0 = v; lia
    rw [this] at h
    repeat trivial
  | su ps v =>
    repeat trivial
    refine EvalP.compM ps (fun p => .tuple [.int p.1, .int p.2]) (fun p => .int (p.2 * rw_ r p.1)) [("row", Li (lits r))] ?_ (compOK_of ["row"] rfl (by kernel_rfl!)) ?_ (Nat.le_trans hl (by decide))
    · exact ⟨by repeat trivial, trivial⟩
    repeat trivial
    refine ⟨iter_parts, fun p q => ?_, ?_⟩
    · obtain ⟨h0, h1⟩ := hp p q
      have hk : p.1.toNat < r.length := by lia
      repeat trivial
      refine subLp (x := .int r[p.1.toNat]) (by rw [List.getElem?_map, List.getElem?_eq_getElem hk]; rfl) ?_ (decide_eq_true h0) (decide_eq_true (by show p.1 < _; have : (2:Int)^63 = 9223372036854775808 := rfl; lia))
      refine ValP.mul (Nat.lt_of_le_of_lt (hc p q) (by decide)) ?_
      refine ⟨?_, rfl⟩
      show I _ = I _
      rw [show rw_ r p.1 = r[p.1.toNat] from by show (r[p.1.toNat]?).getD 0 = _; rw [List.getElem?_eq_getElem hk]; rfl]
    · repeat trivial
      have e1 : (ps.map fun p => PyData.int (p.2 * rw_ r p.1)) = lits (ps.map fun p => p.2 * rw_ r p.1) := by simp [lits]
      rw [e1]
      have hrb : ∀ x, (rw_ r x).natAbs ≤ 2 ^ 21 := fun x => by
        show ((r[x.toNat]?).getD 0).natAbs ≤ _
        cases e : r[x.toNat]? with
        | none => exact Nat.zero_le _
        | some y => exact hr y (List.mem_of_getElem? e)
      refine bi_sumW (b := 2 ^ 41) iter_litL (fun a q => ?_) (by rw [List.length_map]; have : ps.length ≤ 1000 := hl; have : (2:Nat)^60 = 1152921504606846976 := rfl; have : (2:Nat)^41 = 2199023255552 := rfl; lia) ?_
      · obtain ⟨p, hp', rfl⟩ := List.mem_map.mp q
        rw [Int.natAbs_mul]
        exact Nat.le_trans (Nat.mul_le_mul (hc p hp') (hrb _)) (by decide)
      · repeat trivial
end
-- Con15
section
variable {c : Cx} {d : Nat} {sc : Scope} {B : Bs} {σ : Sg} {Q : AV → Sg → Prop} {va ta ma fa : Addr} {ι : Type} {m : Mo ι}

theorem about_ok (T : TopOK c) (t : Tl) (hl : t.about.length ≤ 10000) (h : Q (Tu (lits t.about)) σ) : CallP c (d + 1) (.ref (c.fn "_law_about")) [.dat t.d] σ Q := by
  cases t with
  | lin kd ps k =>
    cases kd
    all_goals
      simp only [Tl.d]
      refine CallP.top 30 [("told", .dat _)] T rfl ?_
      repeat trivial
      first
        | refine EvalP.headS (x := Kd.s .eq) "linear" (.loc lk_here ⟨rfl, ?_⟩ (by kernel_rfl!) (by kernel_rfl!)) (by kernel_rfl!) (by decide +kernel) (by intro J J; rfl)
        | refine EvalP.headS (x := Kd.s .ne) "linear" (.loc lk_here ⟨rfl, ?_⟩ (by kernel_rfl!) (by kernel_rfl!)) (by kernel_rfl!) (by decide +kernel) (by intro J J; rfl)
        | refine EvalP.headS (x := Kd.s .le) "linear" (.loc lk_here ⟨rfl, ?_⟩ (by kernel_rfl!) (by kernel_rfl!)) (by kernel_rfl!) (by decide +kernel) (by intro J J; rfl)
      repeat trivial
  | reif b ps k =>
    simp only [Tl.d]
    refine CallP.top 30 [("told", .dat _)] T rfl ?_
    repeat trivial
    refine EvalP.headS (x := "reif") "reif" (.loc lk_here ⟨rfl, ?_⟩ (by kernel_rfl!) (by kernel_rfl!)) (by kernel_rfl!) (by decide +kernel) (by intro J J; rfl)
    repeat trivial
    refine ValP.addT (by have : (b :: ps.map (·.1)).length ≤ 10000 := hl; rw [List.length_cons] at this; rw [List.length_map]; show 1 + _ ≤ _; lia) ?_
    repeat trivial
  | cnt xs v z =>
    simp only [Tl.d]
    refine CallP.top 30 [("told", .dat _)] T rfl ?_
    repeat trivial
    refine EvalP.headS (x := "count") "count" (.loc lk_here ⟨rfl, ?_⟩ (by kernel_rfl!) (by kernel_rfl!)) (by kernel_rfl!) (by decide +kernel) (by intro J J; rfl)
    repeat trivial
    refine ValP.addT (by have : (xs ++ [z]).length ≤ 10000 := hl; rw [List.length_append] at this; rw [List.length_map]; show _ + 1 ≤ _; simp at this; lia) ?_
    have e : lits xs ++ [PyData.int z] = lits (xs ++ [z]) := by simp [lits]
    repeat trivial
    rw [e]
    repeat trivial
  | cls us ds =>
    simp only [Tl.d]
    refine CallP.top 30 [("told", .dat _)] T rfl ?_
    repeat trivial
    refine EvalP.headS (x := "clause") "clause" (.loc lk_here ⟨rfl, ?_⟩ (by kernel_rfl!) (by kernel_rfl!)) (by kernel_rfl!) (by decide +kernel) (by intro J J; rfl)
    repeat trivial
    refine ValP.addT (by have : (us ++ ds).length ≤ 10000 := hl; rw [List.length_append] at this; rw [List.length_map, List.length_map]; lia) ?_
    have e : lits us ++ lits ds = lits (us ++ ds) := by simp [lits]
    rw [e]
    repeat trivial

theorem bi_maxS {xs : List Int} (h : Q (I (top xs)) σ) : CallP c (d + 1) (.val (biV "max")) [Tu (.int (-1) :: lits xs)] σ Q := by
  refine bi_maxW (ns := (-1) :: xs) (iter_litT (xs := (-1) :: xs)) (by simp) fun mx m1 m2 => ?_
  have : mx = top xs := by
    have a1 := top_mem (xs := xs)
    have a2 : top xs ≤ mx := by
      rcases a1 with e | e
      · rw [e]; exact m2 _ (.head _)
      · exact m2 _ (.tail _ e)
    have a3 : mx ≤ top xs := by
      rcases List.mem_cons.mp m1 with e | e
      · rw [e]
        have key : ∀ (xs : List Int) (a : Int), a ≤ xs.foldl max a := by
          intro xs
          induction xs with
          | nil => exact fun a => Int.le_refl _
          | cons y r ih => intro a; have := ih (max a y); rw [List.foldl_cons]; lia
        exact key xs _
      · exact top_ge e
    lia
  rw [this]; exact h
end
-- Zip1
section
variable {prog : Program} {w : World} {A : Around} {E : Value → Shared → Prop} {s : Shared}

/- The next of a tuple's iterator, as zip asks for it. -/
theorem nextT {it t : Addr} {i : Nat} {items : Array Value} {x : Value} {Q : Value → Shared → Prop} (hit : s.heap.IsTupleIter it t i) (ht : s.heap.IsTuple t items) (hx : items[i]? = some x)
    (hQ : ∀ h', h'.IsTupleIter it t (i + 1) → Heap.SameBut it s.heap h' → Q x { s with heap := h' }) : wpAny (model prog w) A (Builtin.SmallTypes.nextOf (.ref it)) Q E s := by
  obtain ⟨o, ho, hc, hd⟩ := id hit
  obtain ⟨ol, hol, J, nl, hdl⟩ := ht
  unfold Builtin.SmallTypes.nextOf
  refine wpAny_bind (wpAny_callSpecial?_slot (name := Str.ofString "__next__") hit.typeIs F.slot_tuple_iterator_next (wpAny_call_entry F.slot_tuple_iterator_next hit.typeIs F.entry_tuple_iterator_next ?_ (F.args_tuple_iterator_next_1 _)))
  show wpAny _ _ (field (.ref it) 0 >>= _) _ _ s
  refine wpAny_bind (wpAny_field ho hd (x := .ref t) rfl ?_)
  show wpAny _ _ (if (Value.ref t == Value.none) = true then _ else _) _ _ s
  rw [if_neg (show ¬ ((Value.ref t == Value.none) = true) from Bool.false_ne_true)]
  show wpAny _ _ (field (.ref it) 1 >>= _) _ _ s
  refine wpAny_bind (wpAny_field ho hd (x := .int i 0) rfl ?_)
  show wpAny _ _ (seqItems? (.ref t) >>= _) _ _ s
  refine wpAny_bind (wpAny_seqItems hol hdl ?_)
  simp only [Int.toNat_natCast, hx]
  refine wpAny_bind (wpAny_setField ho hd (by simp) (wpAny_pure ⟨x, rfl, wpAny_pure (hQ _ ?_ (Heap.SameBut.update ..))⟩))
  exact ⟨_, Heap.get?_update_self _ ho (Obj.isFreed_of_fields (Obj.data_mapFields hd _)), (Obj.cls_mapFields ..).trans hc, by
    rw [Obj.data_mapFields hd]; simp [rawInt]⟩
theorem nextT_end {it t : Addr} {i : Nat} {items : Array Value} {Q : Value → Shared → Prop} (hh : A.handled = none) (hit : s.heap.IsTupleIter it t i) (ht : s.heap.IsTuple t items) (hx : items[i]? = none)
    (hE : ∀ h' e, Heap.ExtBut it s.heap h' → (∃ o, h'.get? e = some o ∧ o.cls = .type "StopIteration") → E (.ref e) { s with heap := h' }) : wpAny (model prog w) A (Builtin.SmallTypes.nextOf (.ref it)) Q E s := by
  obtain ⟨o, ho, hc, hd⟩ := id hit
  obtain ⟨ol, hol, J, nl, hdl⟩ := ht
  unfold Builtin.SmallTypes.nextOf
  refine wpAny_bind (wpAny_callSpecial?_slot (name := Str.ofString "__next__") hit.typeIs F.slot_tuple_iterator_next (wpAny_call_entry F.slot_tuple_iterator_next hit.typeIs F.entry_tuple_iterator_next ?_ (F.args_tuple_iterator_next_1 _)))
  show wpAny _ _ (field (.ref it) 0 >>= _) _ _ s
  refine wpAny_bind (wpAny_field ho hd (x := .ref t) rfl ?_)
  show wpAny _ _ (if (Value.ref t == Value.none) = true then _ else _) _ _ s
  rw [if_neg (show ¬ ((Value.ref t == Value.none) = true) from Bool.false_ne_true)]
  show wpAny _ _ (field (.ref it) 1 >>= _) _ _ s
  refine wpAny_bind (wpAny_field ho hd (x := .int i 0) rfl ?_)
  show wpAny _ _ (seqItems? (.ref t) >>= _) _ _ s
  refine wpAny_bind (wpAny_seqItems hol hdl ?_)
  simp only [Int.toNat_natCast, hx]
  refine wpAny_bind (wpAny_rule (wpAny_bind (wpAny_setField ho hd (by simp) ?_)))
  show wpAny _ _ (newExc (.type "StopIteration") [] >>= _) _ _ _
  refine wpAny_bind ?_
  simp only [newExc, newTuple]
  refine wpAny_bind (wpAny_newObj_type ?_ (by size_fits))
  refine wpAny_bind (m := firstArgMember _ _) (wpAny_of_eq (a := Value.none) (by first | rfl | (simp only [firstArgMember]; rfl)) ?_)
  refine wpAny_newObj_type ?_ (by size_fits)
  simp only [raiseNew]
  refine wpAny_bind (wpAny_handled ?_)
  first | rw [show A.in1.handled = none from hh] | rw [hh]
  refine wpAny_bind (wpAny_pure (wpAny_throw ?_))
  exact hE _ _ (((Heap.SameBut.update ..).extBut.push _).push _) ⟨_, Heap.get?_push_size _ rfl, rfl⟩

/- The objects of a zip over two tuples, all apart. -/
structure ZNew (h : Heap) (z TI TO i1 i2 : Addr) : Prop where
  z : h.get? z = none
  TI : h.get? TI = none
  TO : h.get? TO = none
  i1 : h.get? i1 = none
  i2 : h.get? i2 = none
structure ZSt (h : Heap) (z TI TO i1 i2 t1 t2 : Addr) (xs ys : Array Value) (f0 : Value) (k : Nat) : Prop where
  z : IsZip h z TI TO f0
  TI : IsPair h TI (.ref i1) (.ref i2)
  TO : ∃ a b, IsPair h TO a b
  i1 : h.IsTupleIter i1 t1 k
  i2 : h.IsTupleIter i2 t2 k
  t1 : h.IsTuple t1 xs
  t2 : h.IsTuple t2 ys
theorem iter_at {h h' : Heap} {i t : Addr} {k : Nat} (x : h.IsTupleIter i t k) (kp : ∀ o, h.get? i = some o → h'.get? i = some o) : h'.IsTupleIter i t k := by obtain ⟨o, e, r⟩ := x; exact ⟨o, kp o e, r⟩
theorem tup_at {h h' : Heap} {t : Addr} {xs : Array Value} (x : h.IsTuple t xs) (kp : ∀ o, h.get? t = some o → h'.get? t = some o) : h'.IsTuple t xs := by obtain ⟨o, e, r⟩ := x; exact ⟨o, kp o e, r⟩
theorem ZSt.re {h h' : Heap} {z TI TO i1 i2 t1 t2 xs ys f0 f1 k} (Z : ZSt h z TI TO i1 i2 t1 t2 xs ys f0 k) (hz : IsZip h' z TI TO f1) (P : Addr → Prop) (pTI : P TI) (pTO : P TO) (p1 : P i1) (p2 : P i2) (q1 : P t1) (q2 : P t2) (kp : ∀ c o, P c → h.get? c = some o → h'.get? c = some o) :
    ZSt h' z TI TO i1 i2 t1 t2 xs ys f1 k where
  z := hz
  TI := kp _ _ pTI Z.TI
  TO := by obtain ⟨a, b, e⟩ := Z.TO; exact ⟨a, b, kp _ _ pTO e⟩
  i1 := iter_at Z.i1 fun o => kp _ o p1
  i2 := iter_at Z.i2 fun o => kp _ o p2
  t1 := tup_at Z.t1 fun o => kp _ o q1
  t2 := tup_at Z.t2 fun o => kp _ o q2

theorem zipT_item {z TI TO i1 i2 t1 t2 : Addr} {k : Nat} {xs ys : Array Value} {x y : Value} {Q : Option Value → Shared → Prop} (D : ZipApart z TI TO i1 i2 t1 t2)
    (Z : ZSt s.heap z TI TO i1 i2 t1 t2 xs ys .none k) (hx : xs[k]? = some x) (hy : ys[k]? = some y)
    (hQ : ∀ h', ZSt h' z TI TO i1 i2 t1 t2 xs ys (rawInt s.heap.objs.size) (k + 1) → IsPair h' s.heap.objs.size x y →
      (∀ c o, c ≠ z → c ≠ TO → c ≠ i1 → c ≠ i2 → s.heap.get? c = some o → h'.get? c = some o) → Q (some (.ref s.heap.objs.size)) { s with heap := h' }) : wpAny (model prog w) A (pyNext (.ref z)) Q E s := by
  obtain ⟨hz, hTI, ⟨a, b, hTO⟩, h1, h2, hl1, hl2⟩ := Z
  have hT : s.TypeIs (.ref z) "zip" := ⟨_, hz, rfl⟩
  unfold pyNext
  refine wpAny_bind (wpAny_attempt (wpAny_callSpecial?_slot (name := Str.ofString "__next__") hT F.slot_zip_next (wpAny_call_entry F.slot_zip_next hT F.entry_zip_next ?_ (F.args_zip_next_1 _))))
  show wpAny _ _ (field (.ref z) 2 >>= _) _ _ _
  refine wpAny_bind (wpAny_field hz rfl (x := .bool false) rfl ?_)
  show wpAny _ _ (field (.ref z) 3 >>= _) _ _ _
  refine wpAny_bind (wpAny_field hz rfl (x := .ref TI) rfl ?_)
  refine wpAny_bind (wpAny_seqItems hTI rfl ?_)
  show wpAny _ _ (Builtin.SmallTypes.ownedTupleIsFree (.ref z) >>= _) _ _ _
  refine wpAny_bind ?_
  unfold Builtin.SmallTypes.ownedTupleIsFree
  refine wpAny_bind (wpAny_field hz rfl (x := .none) rfl (wpAny_pure ?_))
  simp only [if_true]
  refine wpAny_bind (wpAny_rule (wpAny_bind (wpAny_field hz rfl (x := .ref TO) rfl (wpAny_bind (wpAny_setField_rec hz (by simp) fun h₁ hz₁ hs₁ => ?_)))))
  replace hz₁ : IsZip h₁ z TI TO .ellipsis := hz₁
  refine wpAny_bind ?_
  simp only [List.zipIdx_cons, List.zipIdx_nil, List.forIn_cons, List.forIn_nil]
  refine wpAny_bind (wpAny_bind (wpAny_onRaise ?_))
  show wpAny _ _ (Builtin.SmallTypes.nextOf (.ref i1) >>= _) _ _ _
  refine wpAny_bind (nextT (h1.extBut hs₁.extBut D.i1z) (hl1.extBut hs₁.extBut D.l1z) hx fun h₂ h1₂ hs₂ => wpAny_pure ?_)
  have hTO₂ : IsPair h₂ TO a b := hs₂.extBut _ _ D.TOi1 (hs₁.extBut _ _ D.TOz hTO)
  refine wpAny_bind (wpAny_seqItems hTO₂ rfl (wpAny_bind (wpAny_updateSeq_pair hTO₂ fun h₃ hTO₃ hs₃ => ?_)))
  replace hTO₃ : IsPair h₃ TO x b := hTO₃
  refine wpAny_bind (wpAny_letGo (wpAny_pure (wpAny_bind (wpAny_bind (wpAny_onRaise ?_)))))
  show wpAny _ _ (Builtin.SmallTypes.nextOf (.ref i2) >>= _) _ _ _
  refine wpAny_bind (nextT (((h2.extBut hs₁.extBut D.i2z).extBut hs₂.extBut D.i12.symm).extBut hs₃.extBut D.TOi2.symm) (((hl2.extBut hs₁.extBut D.l2z).extBut hs₂.extBut D.l2i1).extBut hs₃.extBut D.l2TO) hy fun h₄ h2₄ hs₄ => wpAny_pure ?_)
  have hTO₄ : IsPair h₄ TO x b := hs₄.extBut _ _ D.TOi2 hTO₃
  refine wpAny_bind (wpAny_seqItems hTO₄ rfl (wpAny_bind (wpAny_updateSeq_pair hTO₄ fun h₅ hTO₅ hs₅ => ?_)))
  replace hTO₅ : IsPair h₅ TO x y := hTO₅
  refine wpAny_bind (wpAny_letGo (wpAny_pure (wpAny_pure ?_)))
  refine wpAny_bind (wpAny_seqItems hTO₅ rfl (wpAny_bind (wpAny_newTuple ?_)))
  have hsz : h₅.objs.size = s.heap.objs.size := by rw [hs₅.1, hs₄.1, hs₃.1, hs₂.1, hs₁.1]
  have hz₅ : IsZip h₅ z TI TO .ellipsis := hs₅.extBut _ _ D.TOz.symm (hs₄.extBut _ _ D.i2z.symm (hs₃.extBut _ _ D.TOz.symm (hs₂.extBut _ _ D.i1z.symm hz₁)))
  have hk₅ : ∀ c o, c ≠ z → c ≠ TO → c ≠ i1 → c ≠ i2 → s.heap.get? c = some o → h₅.get? c = some o := fun c o c1 c2 c3 c4 e =>
    hs₅.extBut _ _ c2 (hs₄.extBut _ _ c4 (hs₃.extBut _ _ c2 (hs₂.extBut _ _ c3 (hs₁.extBut _ _ c1 e))))
  have h1₅ : h₅.IsTupleIter i1 t1 (k + 1) := ((h1₂.extBut hs₃.extBut D.TOi1.symm).extBut hs₄.extBut D.i12).extBut hs₅.extBut D.TOi1.symm
  have h2₅ : h₅.IsTupleIter i2 t2 (k + 1) := h2₄.extBut hs₅.extBut D.TOi2.symm
  have hzlt : z < h₅.objs.size := Heap.lt_size hz₅
  show wpAny _ _ (Builtin.SmallTypes.ownedTupleHandOut (.ref z) (.ref h₅.objs.size) >>= _) _ _ _
  refine wpAny_bind ?_
  unfold Builtin.SmallTypes.ownedTupleHandOut
  have hz₆ : IsZip (h₅.push { cls := .type "tuple", data := .seq #[x, y] }) z TI TO .ellipsis := Heap.get?_push_of_some _ hz₅
  refine wpAny_bind (wpAny_setField_rec hz₆ (by simp) fun h₇ hz₇ hs₇ => ?_)
  replace hz₇ : IsZip h₇ z TI TO (rawInt h₅.objs.size) := hz₇
  refine wpAny_setField_rec hz₇ (by simp) fun h₈ hz₈ hs₈ => ?_
  replace hz₈ : IsZip h₈ z TI TO (rawInt h₅.objs.size) := hz₈
  have up : ∀ c o, c ≠ z → h₅.get? c = some o → h₈.get? c = some o := fun c o c1 e => hs₈.extBut _ _ c1 (hs₇.extBut _ _ c1 (Heap.get?_push_of_some _ e))
  have hT₈ : IsPair h₈ h₅.objs.size x y := hs₈.extBut _ _ (Nat.ne_of_gt hzlt) (hs₇.extBut _ _ (Nat.ne_of_gt hzlt) (Heap.get?_push_size _ rfl))
  rw [hsz] at hz₈ hT₈
  refine wpAny_pure ⟨_, rfl, ?_⟩
  show wpAny _ _ (pure (some (Value.ref h₅.objs.size))) _ _ _
  rw [hsz]
  refine wpAny_pure (hQ h₈ ⟨hz₈, up _ _ D.TIz (hk₅ _ _ D.TIz D.TITO D.TIi1 D.TIi2 hTI), ⟨_, _, up _ _ D.TOz hTO₅⟩, iter_at h1₅ fun o => up _ o D.i1z, iter_at h2₅ fun o => up _ o D.i2z,
    tup_at hl1 fun o e => up _ _ D.l1z (hk₅ _ _ D.l1z D.l1TO D.l1i1 D.l1i2 e), tup_at hl2 fun o e => up _ _ D.l2z (hk₅ _ _ D.l2z D.l2TO D.l2i1 D.l2i2 e)⟩ hT₈ fun c o c1 c2 c3 c4 e => up c o c1 (hk₅ c o c1 c2 c3 c4 e))

theorem zipT_end {z TI TO i1 i2 t1 t2 : Addr} {k : Nat} {xs ys : Array Value} {Q : Option Value → Shared → Prop} (hh : A.handled = none) (D : ZipApart z TI TO i1 i2 t1 t2)
    (Z : ZSt s.heap z TI TO i1 i2 t1 t2 xs ys .none k) (hx : xs[k]? = none)
    (hQ : ∀ h', (∀ c o, c ≠ z → c ≠ TO → c ≠ i1 → c ≠ i2 → s.heap.get? c = some o → h'.get? c = some o) → Q none { s with heap := h' }) : wpAny (model prog w) A (pyNext (.ref z)) Q E s := by
  obtain ⟨hz, hTI, ⟨a, b, hTO⟩, h1, h2, hl1, hl2⟩ := Z
  have hT : s.TypeIs (.ref z) "zip" := ⟨_, hz, rfl⟩
  unfold pyNext
  refine wpAny_bind (wpAny_attempt (wpAny_callSpecial?_slot (name := Str.ofString "__next__") hT F.slot_zip_next (wpAny_call_entry F.slot_zip_next hT F.entry_zip_next ?_ (F.args_zip_next_1 _))))
  show wpAny _ _ (field (.ref z) 2 >>= _) _ _ _
  refine wpAny_bind (wpAny_field hz rfl (x := .bool false) rfl ?_)
  show wpAny _ _ (field (.ref z) 3 >>= _) _ _ _
  refine wpAny_bind (wpAny_field hz rfl (x := .ref TI) rfl ?_)
  refine wpAny_bind (wpAny_seqItems hTI rfl ?_)
  show wpAny _ _ (Builtin.SmallTypes.ownedTupleIsFree (.ref z) >>= _) _ _ _
  refine wpAny_bind ?_
  unfold Builtin.SmallTypes.ownedTupleIsFree
  refine wpAny_bind (wpAny_field hz rfl (x := .none) rfl (wpAny_pure ?_))
  simp only [if_true]
  refine wpAny_bind (wpAny_rule (wpAny_bind (wpAny_field hz rfl (x := .ref TO) rfl (wpAny_bind (wpAny_setField_rec hz (by simp) fun h₁ hz₁ hs₁ => ?_)))))
  replace hz₁ : IsZip h₁ z TI TO .ellipsis := hz₁
  refine wpAny_bind ?_
  simp only [List.zipIdx_cons, List.zipIdx_nil, List.forIn_cons, List.forIn_nil]
  refine wpAny_bind (wpAny_bind (wpAny_onRaise ?_))
  show wpAny _ _ (Builtin.SmallTypes.nextOf (.ref i1) >>= _) _ _ _
  refine wpAny_bind (nextT_end hh (h1.extBut hs₁.extBut D.i1z) (hl1.extBut hs₁.extBut D.l1z) hx fun h₂ e hs₂ he => ?_)
  obtain ⟨oe, hoe, hce⟩ := he
  have hz₂ : IsZip h₂ z TI TO .ellipsis := hs₂ _ _ D.i1z.symm hz₁
  have hez : e ≠ z := fun x => by subst x; rw [hz₂] at hoe; cases hoe; simp at hce
  refine wpAny_setField_rec hz₂ (by simp) fun h₃ J hs₃ => ?_
  refine wpAny_bind (wpAny_isInstance (T := "StopIteration") (b := true) ⟨oe, hs₃.extBut _ _ hez hoe, hce⟩ isSubtype_stop ?_)
  exact wpAny_pure (hQ _ fun c o c1 c2 c3 c4 x => hs₃.extBut _ _ c1 (hs₂ _ _ c3 (hs₁.extBut _ _ c1 x)))
end

theorem meets_zipT (t1 t2 : Addr) (xs ys : Array Value) :
    Meets (Builtin.«zip.__new__» ⟨[.type "zip", .ref t1, .ref t2], []⟩) (fun J R s => s.heap.IsTuple t1 xs ∧ s.heap.IsTuple t2 ys ∧
      R (.ok (.ret (.ref (s.heap.objs.size + 4)))) { s with heap := ((((s.heap.push { cls := .type "tuple_iterator", data := .fields #[.ref t1, .int 0 0] }).push { cls := .type "tuple_iterator", data := .fields #[.ref t2, .int 0 0] }).push { cls := .type "tuple", data := .seq #[.ref s.heap.objs.size, .ref (s.heap.objs.size + 1)] }).push { cls := .type "tuple", data := .seq #[.none, .none] }).push { cls := .type "zip", data := .fields #[.none, .bool false, .bool false, .ref (s.heap.objs.size + 2), .ref (s.heap.objs.size + 3)] } }) :=
  .of_wp fun prog w A R s h => by
    obtain ⟨hp, g, d, tk, os⟩ := s; obtain ⟨hl1, hl2, h⟩ := h
    have hsub := sub_zip
    have hL1 : Heap.IsTuple (Shared.heap ⟨hp, g, d, tk, os⟩) t1 xs := hl1
    have hL2 : Heap.IsTuple (Shared.heap ⟨hp.push { cls := .type "tuple_iterator", data := .fields #[.ref t1, .int 0 0] }, g, d, tk, os⟩) t2 ys := Heap.IsTuple.push hl2 _
    wp_walk using wpAny_pyIter_tuple hL1, wpAny_pyIter_tuple hL2
    simp only [Heap.size_push] at *
    exact ⟨_, rfl, h⟩
section
variable {prog : Program} {w : World} {A : Around} {E : Value → Shared → Prop} {s : Shared}
theorem call_zipT {t1 t2 : Addr} {xs ys : Array Value} {Q : Value → Shared → Prop} (hl1 : s.heap.IsTuple t1 xs) (hl2 : s.heap.IsTuple t2 ys)
    (h : ∀ h' z TI TO i1 i2, ZipApart z TI TO i1 i2 t1 t2 → ZSt h' z TI TO i1 i2 t1 t2 xs ys .none 0 → ZNew s.heap z TI TO i1 i2 → (∀ c o, s.heap.get? c = some o → h'.get? c = some o) → Q (.ref z) { s with heap := h' }) :
    wpAny (model prog w) A (call (.type "zip") [.ref t1, .ref t2]) Q E s := by
  refine callType_new F.called_zip (by decide) (F.typeCall_zip_2 _ _) (F.newCall_zip_2 _ _) (fun obj => F.args_object_init_3 obj _ _) F.entry_zip_new (meets_zipT t1 t2 xs ys) ⟨hl1, hl2, ?_⟩
  have lt1 : t1 < s.heap.objs.size := by obtain ⟨J, e, J⟩ := hl1; exact Heap.lt_size e
  have lt2 : t2 < s.heap.objs.size := by obtain ⟨J, e, J⟩ := hl2; exact Heap.lt_size e
  generalize hA : s.heap.push { cls := .type "tuple_iterator", data := .fields #[.ref t1, .int 0 0] } = HA
  generalize hB : HA.push { cls := .type "tuple_iterator", data := .fields #[.ref t2, .int 0 0] } = HB
  generalize hC : HB.push { cls := .type "tuple", data := .seq #[.ref s.heap.objs.size, .ref (s.heap.objs.size + 1)] } = HC
  generalize hD : HC.push { cls := .type "tuple", data := .seq #[.none, .none] } = HD
  generalize hE : HD.push { cls := .type "zip", data := .fields #[.none, .bool false, .bool false, .ref (s.heap.objs.size + 2), .ref (s.heap.objs.size + 3)] } = HE
  have zA : HA.objs.size = s.heap.objs.size + 1 := by rw [← hA, Heap.size_push]
  have zB : HB.objs.size = s.heap.objs.size + 2 := by rw [← hB, Heap.size_push, zA]
  have zC : HC.objs.size = s.heap.objs.size + 3 := by rw [← hC, Heap.size_push, zB]
  have zD : HD.objs.size = s.heap.objs.size + 4 := by rw [← hD, Heap.size_push, zC]
  have kE : ∀ c o, HD.get? c = some o → HE.get? c = some o := fun c o e => hE ▸ Heap.get?_push_of_some _ e
  have kD : ∀ c o, HC.get? c = some o → HE.get? c = some o := fun c o e => kE c o (hD ▸ Heap.get?_push_of_some _ e)
  have kC : ∀ c o, HB.get? c = some o → HE.get? c = some o := fun c o e => kD c o (hC ▸ Heap.get?_push_of_some _ e)
  have kB : ∀ c o, HA.get? c = some o → HE.get? c = some o := fun c o e => kC c o (hB ▸ Heap.get?_push_of_some _ e)
  have kA : ∀ c o, s.heap.get? c = some o → HE.get? c = some o := fun c o e => kB c o (hA ▸ Heap.get?_push_of_some _ e)
  have gz : IsZip HE (s.heap.objs.size + 4) (s.heap.objs.size + 2) (s.heap.objs.size + 3) .none := by
    show HE.get? _ = _
    rw [← zD, ← hE]; exact Heap.get?_push_size _ rfl
  have gTO : HE.get? (s.heap.objs.size + 3) = some { cls := .type "tuple", data := .seq #[.none, .none] } := kE _ _ (by rw [← zC, ← hD]; exact Heap.get?_push_size _ rfl)
  have gTI : HE.get? (s.heap.objs.size + 2) = some { cls := .type "tuple", data := .seq #[.ref s.heap.objs.size, .ref (s.heap.objs.size + 1)] } := kD _ _ (by rw [← zB, ← hC]; exact Heap.get?_push_size _ rfl)
  have gi2 : HE.get? (s.heap.objs.size + 1) = some { cls := .type "tuple_iterator", data := .fields #[.ref t2, .int 0 0] } := kC _ _ (by rw [← zA, ← hB]; exact Heap.get?_push_size _ rfl)
  have gi1 : HE.get? s.heap.objs.size = some { cls := .type "tuple_iterator", data := .fields #[.ref t1, .int 0 0] } := kB _ _ (by rw [← hA]; exact Heap.get?_push_size _ rfl)
  have none_ : ∀ j, s.heap.get? (s.heap.objs.size + j) = none := fun j => by
    cases e : s.heap.get? (s.heap.objs.size + j) with
    | none => rfl
    | some o => exact absurd (Heap.lt_size e) (Nat.not_lt.mpr (Nat.le_add_right _ _))
  show _ ∧ _
  refine ⟨⟨_, gz, rfl⟩, h HE _ _ _ _ _ ?_ ⟨gz, gTI, ⟨_, _, gTO⟩, ⟨_, gi1, rfl, rfl⟩, ⟨_, gi2, rfl, rfl⟩, tup_at hl1 (kA _), tup_at hl2 (kA _)⟩ ⟨none_ 4, none_ 2, none_ 3, none_ 0, none_ 1⟩ kA⟩
  · constructor <;> first
      | exact Nat.ne_of_lt (Nat.add_lt_add_left (by decide) _)
      | exact Nat.ne_of_gt (Nat.add_lt_add_left (by decide) _)
      | exact Nat.ne_of_gt (Nat.lt_add_of_pos_right (by decide))
      | exact Nat.ne_of_lt (Nat.lt_add_of_pos_right (by decide))
      | exact Nat.ne_of_lt lt1
      | exact Nat.ne_of_lt lt2
      | exact Nat.ne_of_lt (Nat.lt_of_lt_of_le lt1 (Nat.le_add_right _ _))
      | exact Nat.ne_of_lt (Nat.lt_of_lt_of_le lt2 (Nat.le_add_right _ _))
end
-- Base21
section
variable {c : Cx} {d : Nat} {sc : Scope} {B : Bs} {σ : Sg} {Q : AV → Sg → Prop} {N : Bs → Sg → Prop} {R : AV → Sg → Prop}

/- A call of a builtin type, its arguments reckoned, whatever it does. -/
theorem callRaw {n : Str} {p pos : Pos} {es : List Expr} (T : TopOK c) (hn : biOk n = true) (hkn : (sc.names.lookup n == some .globalImplicit) = true) (hd : (n == ("__debug__" : Str)) = false) (hs : (es.all fun t => !isStarred t) = true)
    {K : List AV → Sg → Prop} (h : EvalsP c d sc B σ es K) {A s env F} (rm : Room d A) (k : EnvOK sc env) (hF : ∀ a ∈ fenv env, a ∈ F) (st : St c F σ s) (fr : Frm c env B (F ++ own σ) s.heap) {Q : Value → Shared → Prop}
    (hQ : ∀ ys vs σ₁ s₁, St c F σ₁ s₁ → Evo σ s.heap σ₁ s₁.heap → RpAll c s₁.heap (F ++ own σ₁) ys vs → K ys σ₁ → wpAny c.M A (call (biV n) vs) Q nope s₁) : wpAny c.M A (eval (.Call (.Name n p) es [] pos) env) Q nope s := by
  rw [eval_Call_Name]
  refine wpAny_bind (wpAny_mono (EvalP.gbV (Q := fun x σ' => x = .val (biV n) ∧ σ' = σ) (pos := p) T ⟨rfl, rfl⟩ hn hkn hd A s env F rm k hF st fr) (fun v s₁ h₁ => ?_) fun J J z => z)
  obtain ⟨x, σ₁, st₁, e₁, r₁, rfl, rfl⟩ := h₁
  cases (show v = _ from r₁)
  have fr₁ := fr.evo st e₁ hF
  have hplain := star_plain env pos es hs
  show wpAny c.M A (callWith pos (biV n) [] (backTo pos (starEach es env)) []) Q nope s₁
  refine callWith_of (P := fun h => (∀ a o, c.h0.get? a = some o → h.get? a = some o)) hplain (fun h b => KeepOK.bi hn h [] _ b rfl) (wpAny_mono (evalsP_args h hs rm k hF st₁ fr₁) (fun a s₂ h₂ => ?_) fun J J z => z)
  obtain ⟨kw, ys, σ₂, st₂, e₂, r₂, h₂⟩ := h₂
  refine ⟨st₂.base, ?_⟩
  rw [kw]
  exact hQ ys a.pos σ₂ s₂ st₂ (e₁.trans e₂) r₂ h₂

theorem intsAre_at {vs : List Value} {ns : List Int} (h : IntsAre vs ns) {i : Nat} {x : Int} (e : ns[i]? = some x) : ∃ t, vs[i]? = some (.int x t) := by
  induction h generalizing i with
  | nil => cases i <;> cases e
  | cons a t r ih =>
    cases i with
    | zero => simp at e; subst e; exact ⟨t, rfl⟩
    | succ i => exact ih (by simpa using e)
theorem intsAre_len {vs : List Value} {ns : List Int} (h : IntsAre vs ns) : vs.length = ns.length := IntsAre.length h

structure ZApart (C z TI TO i1 i2 : Addr) : Prop where
  z : C ≠ z
  TI : C ≠ TI
  TO : C ≠ TO
  i1 : C ≠ i1
  i2 : C ≠ i2
/- What holds ahead of each turn of the clause over zip. -/
structure ZLoop (c : Cx) (h₁ : Heap) (z TI TO i1 i2 t1 t2 C D : Addr) (xs ys : Array Value) (zs : List Int) (k : Nat) (s : Shared) : Prop where
  kp : ∀ a o, h₁.get? a = some o → s.heap.get? a = some o
  Z : ZSt s.heap z TI TO i1 i2 t1 t2 xs ys .none k
  acc : ∃ vs, s.heap.PlainList D vs ∧ IntsAre vs.toList zs
  ns : ∃ m, s.heap.Ns C m
  gens : s.gens = #[]
  os : s.os = c.os0
inductive ZTurn (c : Cx) (h₁ : Heap) (z TI TO i1 i2 t1 t2 C D : Addr) (xs ys : Array Value) (L : List Int) (m : Nat) (n : Nat) (s : Shared) : Prop
  | mk (i : Nat) : ZLoop c h₁ z TI TO i1 i2 t1 t2 C D xs ys (L.take i) i s → i ≤ m → n = m + 1 - i → ZTurn c h₁ z TI TO i1 i2 t1 t2 C D xs ys L m n s
inductive ZEnd (c : Cx) (h₁ : Heap) (C D : Addr) (L : List Int) (r : Result) (s : Shared) : Prop
  | mk : r = .ok .next → (∀ a o, h₁.get? a = some o → s.heap.get? a = some o) → (∃ vs, s.heap.PlainList D vs ∧ IntsAre vs.toList L) → (∃ m, s.heap.Ns C m) → s.gens = #[] → s.os = c.os0 → ZEnd c h₁ C D L r s

theorem zLoop {elt iter : Expr} {elts : List Expr} {ek : Nat} {tp : Pos} {scope : Scope} {pos : Pos} {h₁ : Heap} {z TI TO i1 i2 t1 t2 C D : Addr} {vx vy : Array Value} {xs ys : List Int} (f : Int → Int → Int) {A : Around} {s : Shared} {cenv : Env} {F : List Addr} {B' : Bs}
    (rm : Room d A) (kce : EnvOK sc cenv) (hw : wenv cenv = [C]) (hF : ∀ a ∈ fenv cenv, a ∈ C :: D :: z :: F) (ap : ZipApart z TI TO i1 i2 t1 t2) (new : ZNew h₁ z TI TO i1 i2) (newC : h₁.get? C = none) (newD : h₁.get? D = none)
    (nC : ZApart C z TI TO i1 i2) (CD : C ≠ D) (nD : ZApart D z TI TO i1 i2) (ht1 : h₁.IsTuple t1 vx) (ht2 : h₁.IsTuple t2 vy) (hx : IntsAre vx.toList xs) (hy : IntsAre vy.toList ys) (hl : xs.length = ys.length) (hz : xs.length ≤ 10000)
    (hst : ∀ s', (∀ a o, h₁.get? a = some o → s'.heap.get? a = some o) → MutAt s'.heap C → MutAt s'.heap D → MutAt s'.heap z → s'.gens = #[] → s'.os = c.os0 → St c (C :: D :: z :: F) [] s')
    (hfr : ∀ h m, (∀ a o, h₁.get? a = some o → h.get? a = some o) → h.Ns C m → Frm c cenv B' ((C :: D :: z :: F) ++ own []) h)
    (ha : ∀ (i : Nat) x y, xs[i]? = some x → ys[i]? = some y → AsgP c d sc B' [] (.Tuple elts ek tp) (Tu [.int x, .int y]) fun B₂ σ₂ => σ₂ = [] ∧ EvalP c d sc B₂ [] elt fun z σ' => z = I (f x y) ∧ σ' = [])
    (start : ZLoop c h₁ z TI TO i1 i2 t1 t2 C D vx vy [] 0 s) :
    codeAny c.M A (.compLoop (.ListComp elt [⟨.Tuple elts ek tp, iter, [], 0⟩] scope pos) 0 (.ref z) (.ref D) cenv) (ZEnd c h₁ C D (List.zipWith f xs ys)) s := by
  have hden := den_loop c elt [⟨.Tuple elts ek tp, iter, [], 0⟩] scope pos 0 (.ref z) (.ref D) cenv
  have hA := under_loop elt [⟨.Tuple elts ek tp, iter, [], 0⟩] scope pos 0 (.ref z) (.ref D) cenv A
  refine codeAny_loop rfl (ZTurn c h₁ z TI TO i1 i2 t1 t2 C D vx vy (List.zipWith f xs ys) xs.length) ?_ (xs.length + 1) ⟨0, start, Nat.zero_le _, rfl⟩
  rintro n s' ⟨i, lo, hle, rfl⟩
  have kz : ∀ {h' : Heap}, (∀ b o, b ≠ z → b ≠ TO → b ≠ i1 → b ≠ i2 → s'.heap.get? b = some o → h'.get? b = some o) → ∀ a o, h₁.get? a = some o → h'.get? a = some o := fun k a o e => k a o (ne_of e new.z) (ne_of e new.TO) (ne_of e new.i1) (ne_of e new.i2) (lo.kp a o e)
  rw [hA, hden, compTurn_gen elt _ scope pos 0 (.ref z) (.ref D) cenv (.Tuple elts ek tp) iter [] rfl]
  refine wpAny_noted (nope_elim (wpAb fun Q' hQ => wpAny_bind (wpAny_standAt (wpAny_bind ?_))))
  have lx := intsAre_len hx
  have ly := intsAre_len hy
  rw [Array.length_toList] at lx ly
  by_cases hlt : i < xs.length
  · obtain ⟨x, hxi⟩ : ∃ x, xs[i]? = some x := ⟨_, List.getElem?_eq_getElem hlt⟩
    obtain ⟨y, hyi⟩ : ∃ y, ys[i]? = some y := ⟨_, List.getElem?_eq_getElem (by lia)⟩
    obtain ⟨tx, hvx⟩ := intsAre_at hx hxi
    obtain ⟨ty, hvy⟩ := intsAre_at hy hyi
    rw [Array.getElem?_toList] at hvx hvy
    refine zipT_item ap lo.Z hvx hvy fun h₂ Z₂ hT₂ kp₂ => ?_
    generalize hTa : s'.heap.objs.size = Ta at Z₂ hT₂
    refine wpAny_bind (wpAny_letOwnedTupleGo_zip Z₂.z fun h₃ hz₃ hs₃ => ?_)
    have k3 : ∀ b o, b ≠ z → b ≠ TO → b ≠ i1 → b ≠ i2 → s'.heap.get? b = some o → h₃.get? b = some o := fun b o n1 n2 n3 n4 e => hs₃.extBut _ _ n1 (kp₂ b o n1 n2 n3 n4 e)
    have Z₃ : ZSt h₃ z TI TO i1 i2 t1 t2 vx vy .none (i + 1) := Z₂.re hz₃ (fun b => b ≠ z) ap.TIz ap.TOz ap.i1z ap.i2z ap.l1z ap.l2z fun b o n e => hs₃.extBut _ _ n e
    have hTz : Ta ≠ z := fun e => Nat.lt_irrefl _ (e ▸ hTa ▸ Heap.lt_size lo.Z.z)
    have hT₃ : h₃.get? Ta = some { cls := .type "tuple", data := .seq #[.int x tx, .int y ty] } := hs₃.extBut _ _ hTz hT₂
    have kpo := kz k3
    obtain ⟨vs, ⟨dn, hpl⟩, hvs⟩ := lo.acc
    have hD₃ := k3 D _ nD.z nD.TO nD.i1 nD.i2 hpl
    obtain ⟨mC, oC, esC, epC, gC, dC, rC⟩ := lo.ns
    have gC₃ := k3 C _ nC.z nC.TO nC.i1 nC.i2 gC
    have st₃ : St c (C :: D :: z :: F) [] { s' with heap := h₃ } := hst _ kpo (mutD gC₃ dC) ⟨_, hD₃, .inl rfl⟩ ⟨_, hz₃, .inr (.inr (.inr ⟨_, rfl⟩))⟩ lo.gens lo.os
    have fr₃ := hfr h₃ mC kpo ⟨oC, esC, epC, gC₃, dC, rC⟩
    have rT : Rp c h₃ ((C :: D :: z :: F) ++ own []) (Tu [.int x, .int y]) (.ref Ta) := ⟨[], .tuple hT₃ rfl rfl (.cons (.int x tx) (.cons (.int y ty) .nil)) rfl, fun J m => nomatch m⟩
    refine wpAny_bind (nope_elim (wpAny_mono (ha i x y hxi hyi A _ cenv _ _ rm kce hF st₃ fr₃ rT) (fun J s₄ h₄ => ?_) fun J J z => z))
    obtain ⟨B₄, σ₄, f₄, rfl, h₄⟩ := h₄
    have k4 : ∀ b o, b ≠ C → h₃.get? b = some o → s₄.heap.get? b = some o := fun b o n e => f₄.keep b o e (fun m => nomatch m) (fun m => by rw [hw] at m; exact n (List.mem_singleton.mp m))
    refine wpAny_bind (wpAny_pure ?_)
    rw [if_pos rfl, turnRest_nil rfl]
    refine wpAny_bind (wpAny_bind (nope_elim (wpAny_mono (h₄ A s₄ cenv _ rm kce hF f₄.st f₄.frm) (fun v s₅ h₅ => ?_) fun J J z => z)))
    obtain ⟨w, σ₅, st₅, e₅, r₅, rfl, rfl⟩ := h₅
    have k5 : ∀ b o, b ≠ C → h₃.get? b = some o → s₅.heap.get? b = some o := fun b o n e => e₅.keep b o (k4 b o n e) fun m => nomatch m
    have hD₅ := k5 D _ (CD.symm) hD₃
    have acc₅ : AccIs s₅.heap ((C :: D :: z :: F) ++ own []) D (lits ((List.zipWith f xs ys).take i)) := ⟨vs, [], ⟨dn, hD₅⟩, rdAll_of_ints hvs, fun J m => nomatch m⟩
    refine wpAny_bind (nope_elim (accAppend (F := C :: D :: z :: F) rm st₅ (.tail _ (.head _)) acc₅ (by rw [List.length_map, List.length_take]; lia) r₅ fun h₆ kp₆ ac₆ => ?_))
    refine wpAny_pure (wpAny_pure (hQ _ _ ⟨rfl, xs.length + 1 - (i + 1), by lia, i + 1, ?_, hlt, rfl⟩))
    have k6 : ∀ b o, b ≠ C → b ≠ D → h₃.get? b = some o → h₆.get? b = some o := fun b o n n' e => kp₆ b o n' (k5 b o n e)
    have hzw : (List.zipWith f xs ys)[i]? = some (f x y) := by rw [List.getElem?_zipWith, hxi, hyi]
    have tz : ∀ {t v}, h₁.IsTuple t v → t ≠ C ∧ t ≠ D := fun x => by obtain ⟨J, e, J⟩ := x; exact ⟨ne_of e newC, ne_of e newD⟩
    have cL : cenv.locals = C := List.mem_singleton.mp (hw ▸ .head _)
    refine ⟨fun a o e => k6 a o (ne_of e newC) (ne_of e newD) (kpo a o e), Z₃.re (k6 _ _ nC.z.symm nD.z.symm Z₃.z) (fun b => b ≠ C ∧ b ≠ D) ⟨nC.TI.symm, nD.TI.symm⟩ ⟨nC.TO.symm, nD.TO.symm⟩ ⟨nC.i1.symm, nD.i1.symm⟩ ⟨nC.i2.symm, nD.i2.symm⟩ (tz ht1) (tz ht2) fun b o n e => k6 b o n.1 n.2 e, ?_, ?_, st₅.gens, st₅.os⟩
    · obtain ⟨vs', as', pl', r', J⟩ := ac₆
      have e1 : lits ((List.zipWith f xs ys).take i) ++ [PyData.int (f x y)] = lits ((List.zipWith f xs ys).take (i + 1)) := by rw [take_snoc' hzw]; simp [lits]
      exact ⟨vs', pl', rdAll_ints (e1 ▸ r')⟩
    · obtain ⟨m, q, J⟩ := f₄.frm.ns
      exact ⟨m, (cL ▸ q).at' fun o e => kp₆ C o CD (e₅.keep C o e fun m => nomatch m)⟩
  · have hin : i = xs.length := by lia
    subst hin
    have hn : vx[xs.length]? = none := by rw [← lx]; exact Array.getElem?_eq_none (Nat.le_refl _)
    refine zipT_end rm.handled ap lo.Z hn fun h₃ k3 => ?_
    refine wpAny_pure (hQ _ _ ⟨rfl, kz k3, ?_, ?_, lo.gens, lo.os⟩)
    · obtain ⟨vs, ⟨dn, hpl⟩, hvs⟩ := lo.acc
      have : (List.zipWith f xs ys).take xs.length = List.zipWith f xs ys := List.take_of_length_le (by rw [List.length_zipWith]; lia)
      exact ⟨vs, ⟨dn, k3 D _ nD.z nD.TO nD.i1 nD.i2 hpl⟩, this ▸ hvs⟩
    · exact lo.ns.elim fun mC q => ⟨mC, q.at' fun o e => k3 C o nC.z nC.TO nC.i1 nC.i2 e⟩

theorem evalP_compZ {xs ys : List Int} (f : Int → Int → Int) {elt e1 e2 : Expr} {elts : List Expr} {ek : Nat} {tp : Pos} {scope : Scope} {pos p p' : Pos} (T : TopOK c) (B' : Bs) (hcov : Cov B B') (ok : CompOK sc scope B') (hl : xs.length = ys.length) (hz : xs.length ≤ 10000)
    (h : EvalP c d sc B σ e1 fun x σ₁ => x = Tu (lits xs) ∧ EvalP c d sc B σ₁ e2 fun y σ₂ => y = Tu (lits ys) ∧ Q (Li (lits (List.zipWith f xs ys))) σ₂)
    (ha : ∀ (i : Nat) x y, xs[i]? = some x → ys[i]? = some y → AsgP c d (relS scope sc) B' [] (.Tuple elts ek tp) (Tu [.int x, .int y]) fun B₂ σ₂ => σ₂ = [] ∧ EvalP c d (relS scope sc) B₂ [] elt fun z σ' => z = I (f x y) ∧ σ' = [])
    (hkn : autoParam ((sc.names.lookup ("zip" : Str) == some .globalImplicit) = true) trT) (hs1 : autoParam (isStarred e1 = false) flT) (hs2 : autoParam (isStarred e2 = false) flT) :
    EvalP c d sc B σ (.ListComp elt [⟨.Tuple elts ek tp, .Call (.Name "zip" p) [e1, e2] [] p', [], 0⟩] scope pos) Q := fun A s env F rm ke hF st f' => by
  rw [eval_ListComp_]
  show wpAny c.M A (comprehension (.ListComp elt [⟨.Tuple elts ek tp, .Call (.Name "zip" p) [e1, e2] [] p', [], 0⟩] scope pos) scope env _ (newList []) false (eval (.Call (.Name "zip" p) [e1, e2] [] p') env) Option.none) _ _ _
  refine wpAny_comprehension_free (cl := clOf env scope.names []) rfl (by intros; rfl) (closure_eq (ok.hfr ke)) ok.kind ok.hloc ?_
  have hev : EvalsP c d sc B σ [e1, e2] fun ys' σ₂ => ys' = [Tu (lits xs), Tu (lits ys)] ∧ Q (Li (lits (List.zipWith f xs ys))) σ₂ :=
    .cons (h.mono fun x σ₁ ⟨ex, hx⟩ => .cons (hx.mono fun y σ₂ ⟨ey, q⟩ => .nil ⟨by rw [ex, ey], q⟩) hs2) hs1
  have hstar : ([e1, e2].all fun t => !isStarred t) = true := by simp [hs1, hs2]
  refine callRaw T (by kernel_rfl!) hkn (by kernel_rfl!) hstar hev rm ke hF st f' fun ys' vs σ₁ s₁ st₁ e₁ r₁ hK => ?_
  obtain ⟨rfl, hQ⟩ := hK
  obtain ⟨v1, v2, rfl, ⟨as1, rd1, J⟩, ⟨as2, rd2, J⟩⟩ := rpAll_two r₁
  rw [biV_zip]
  obtain ⟨t1, o1, vx, n1, rfl, ho1, hc1, hd1, hi1, J⟩ := rd_tup rd1
  obtain ⟨t2, o2, vy, n2, rfl, ho2, hc2, hd2, hi2, J⟩ := rd_tup rd2
  have ix := rdAll_ints hi1
  have iy := rdAll_ints hi2
  have it1 : s₁.heap.IsTuple t1 vx := ⟨o1, ho1, hc1, n1, hd1⟩
  have it2 : s₁.heap.IsTuple t2 vy := ⟨o2, ho2, hc2, n2, hd2⟩
  refine call_zipT it1 it2 fun h₂ z TI TO i1 i2 ap Z hnew kp₂ => ?_
  refine wpAny_pyIter_zip Z.z ?_
  refine wpAny_newObj_type ?_
  dsimp only
  generalize hD : h₂.objs.size = D
  generalize hh₃ : h₂.push { cls := .type "list", dict := none, data := .seq ([] : List Value).toArray } = h₃
  have kp₃ : ∀ a o, h₂.get? a = some o → h₃.get? a = some o := fun a o e => hh₃ ▸ Heap.get?_push_of_some _ e
  have gD : h₃.get? D = some { cls := .type "list", dict := none, data := .seq ([] : List Value).toArray } := by rw [← hh₃, ← hD]; exact Heap.get?_push_size _ rfl
  have nD₂ : h₂.get? D = none := by rw [← hD]; exact size_none _
  refine wpAny_newFunctionEnv (fun x m => by simpa using List.all_eq_true.mp ok.cell x m) (fun x m => nomatch m) (fun h₄ hns hsb => ?_) ok.kind
  dsimp only at hns hsb ⊢
  generalize hC : h₃.objs.size = C at hns hsb ⊢
  have nC₃ : h₃.get? C = none := by rw [← hC]; exact size_none _
  have kp₄ : ∀ a o, h₃.get? a = some o → h₄.get? a = some o := fun a o e => (hsb.2 a fun z => nsn (z ▸ e) nC₃).trans (Heap.get?_push_of_some _ e)
  have back : ∀ {h h' : Heap} {a}, (∀ o, h.get? a = some o → h'.get? a = some o) → h'.get? a = none → h.get? a = none := fun k n => (absent (P := False) (fun o e J => ⟨o, k o e⟩) n).elim False.elim id
  have nC₂ : h₂.get? C = none := back (kp₃ C) nC₃
  have kp₁₄ : ∀ a o, s₁.heap.get? a = some o → h₄.get? a = some o := fun a o e => kp₄ a o (kp₃ a o (kp₂ a o e))
  have CD : C ≠ D := (ne_of gD nC₃).symm
  have apt : ∀ {a}, h₂.get? a = none → ZApart a z TI TO i1 i2 := fun n => by
    obtain ⟨J, J, e3⟩ := Z.TO; obtain ⟨J, e4, J⟩ := Z.i1; obtain ⟨J, e5, J⟩ := Z.i2
    exact ⟨(ne_of Z.z n).symm, (ne_of Z.TI n).symm, (ne_of e3 n).symm, (ne_of e4 n).symm, (ne_of e5 n).symm⟩
  have nC₁ := back (kp₂ C) nC₂
  have nD₁ := back (kp₂ D) nD₂
  have hcF : ∀ a ∈ fenv (compEnv scope C env), a ∈ C :: D :: z :: F := fun a m => (comp_fen ok ke m).elim (fun z => z ▸ .head _) fun m => .tail _ (.tail _ (.tail _ (hF a m)))
  have st₀ : St c F [] s₁ := ⟨st₁.base, st₁.gens, st₁.os, fun a m => st₁.apart a (List.mem_append_left _ (by simpa using m)), .nil, (fun J J m => nomatch m), st₁.live, (fun J m => nomatch m)⟩
  have hst : ∀ s', (∀ a o, s₁.heap.get? a = some o → s'.heap.get? a = some o) → MutAt s'.heap C → MutAt s'.heap D → MutAt s'.heap z → s'.gens = #[] → s'.os = c.os0 → St c (C :: D :: z :: F) [] s' := fun s' kp mC mD mz g o =>
    (st₀.move [] (fun J m => nomatch m) (fun a o J => kp a o) (fun J m => nomatch m) (forall_cons (.inr ⟨nC₁, mC⟩) (forall_cons (.inr ⟨nD₁, mD⟩) (forall_cons (.inr ⟨hnew.z, mz⟩) fun a m => .inl m))) (g.trans st₁.gens.symm) (o.trans st₁.os.symm)).1
  have hfrm : ∀ h m, (∀ a o, s₁.heap.get? a = some o → h.get? a = some o) → h.Ns C m → Frm c (compEnv scope C env) B' ((C :: D :: z :: F) ++ own []) h := fun h m kp hC' =>
    comp_frm ok ke hcov (f'.evo st e₁ hF) ⟨fun a o e J => kp a o e, forall_app (forall_cons (.inr nC₁) (forall_cons (.inr nD₁) (forall_cons (.inr hnew.z) fun a m => .inl (List.mem_append_left _ m)))) fun J m => nomatch m⟩ (fun a J o e => kp a o e) hC'
  have Z₄ := Z.re (h' := h₄) (kp₄ _ _ (kp₃ _ _ Z.z)) (fun J => True) trivial trivial trivial trivial trivial trivial fun b o J e => kp₄ b o (kp₃ b o e)
  have inner := zLoop (c := c) (d := d) (sc := relS scope sc) (elt := elt) (iter := .Call (.Name "zip" p) [e1, e2] [] p') (elts := elts) (ek := ek) (tp := tp) (scope := scope) (pos := pos) (D := D) (A := A) (s := { s₁ with heap := h₄, toks := s₁.toks + ([] : List (Str × Value)).length }) f rm (comp_kce ok ke C) (rfl : wenv (compEnv scope C env) = [C]) hcF ap hnew nC₁ nD₁ (apt nC₂) CD (apt nD₂)
    it1 it2 ix iy hl hz hst hfrm ha ⟨kp₁₄, Z₄, ⟨#[], ⟨0, kp₄ _ _ gD⟩, .nil⟩, ⟨_, hns⟩, st₁.gens, st₁.os⟩
  refine codeAny_mono (compStart_gen rfl rfl inner (wpAny_pyIter_zip Z₄.z inner)) fun r s' hr => ?_
  obtain ⟨rfl, kps, ⟨vs', pl', ints'⟩, ⟨mC, nsC⟩, gn', os'⟩ := hr
  refine ⟨mC, nsC, fun h' hsb' => ?_⟩
  have kp' : ∀ b o, b ≠ C → s'.heap.get? b = some o → h'.get? b = some o := fun b o n e => (hsb'.2 b n).trans e
  have kpf : ∀ a o, s₁.heap.get? a = some o → h'.get? a = some o := fun a o e => kp' a o (ne_of e nC₁) (kps a o e)
  obtain ⟨dn, pl'⟩ := pl'
  have gD' := kp' D _ (CD.symm) pl'
  refine ⟨Li (lits (List.zipWith f xs ys)), σ₁, ?_, ⟨fun a o e n => kpf a o (e₁.keep a o e n), e₁.new⟩, ⟨[D], .list gD' rfl rfl (rdAll_of_ints ints') rfl, fun a m q => ?_⟩, hQ⟩
  · exact (st₁.move (s' := { s' with heap := h' }) [] (fun J m => nomatch m) (fun a o J => kpf a o) (fun J m => nomatch m) (fun J m => .inl m) (gn'.trans st₁.gens.symm) (os'.trans st₁.os.symm)).1
  · rw [List.mem_singleton.mp m] at q
    exact (List.mem_append.mp q).elim (st₁.fresh nD₁).1 (st₁.fresh nD₁).2.1
end
-- Con16
section
variable {c : Cx} {d : Nat} {sc : Scope} {B : Bs} {σ : Sg} {Q : AV → Sg → Prop} {va ta ma fa : Addr} {ι : Type} {m : Mo ι}

theorem row_at {r : List Int} {x : Int} (h : 0 ≤ x ∧ x < r.length) : (lits r)[x.toNat]? = some (.int (rw_ r x)) := by
  have hk : x.toNat < r.length := by lia
  rw [List.getElem?_map, List.getElem?_eq_getElem hk]
  show some _ = some (PyData.int ((r[x.toNat]?).getD 0))
  rw [List.getElem?_eq_getElem hk]; rfl
theorem sub_row {r : List Int} {x : Int} (h : 0 ≤ x ∧ x < r.length) (hr : r.length ≤ 10000) (q : Q (I (rw_ r x)) σ) : SubE c d σ (Li (lits r)) (I x) Q :=
  subLp (row_at h) q (decide_eq_true h.1) (decide_eq_true (by have : (2:Int)^63 = 9223372036854775808 := rfl; lia))
theorem zip_den {r : List Int} : ∀ {ps : List (Int × Int)}, (List.zipWith (fun a x => a * rw_ r x) (ps.map (·.2)) (ps.map (·.1))) = ps.map fun p => p.2 * rw_ r p.1
  | [] => rfl
  | p :: ps => by rw [List.map_cons, List.map_cons, List.zipWith_cons_cons, zip_den]; rfl
theorem holds_lin (T : TopOK c) {kd : Kd} {ps : List (Int × Int)} {k : Int} {r : List Int} (hp : ∀ p ∈ ps, 0 ≤ p.1 ∧ p.1 < r.length) (hc : ∀ p ∈ ps, p.2.natAbs ≤ 2 ^ 20) (hl : ps.length ≤ 1001) (hr : ∀ x ∈ r, x.natAbs ≤ 2 ^ 21) (hrl : r.length ≤ 10000)
    (h : Q (Bo (kd.rel (den (rw_ r) ps) k)) σ) : CallP c (d + 3) (.ref (c.fn "_law_holds")) [.dat (linD kd ps k), Li (lits r)] σ Q := by
  refine CallP.top 31 [("told", .dat (linD kd ps k)), ("row", Li (lits r))] T rfl ?_
  have hrb : ∀ x, (rw_ r x).natAbs ≤ 2 ^ 21 := fun x => by
    show ((r[x.toNat]?).getD 0).natAbs ≤ _
    cases e : r[x.toNat]? with
    | none => exact Nat.zero_le _
    | some y => exact hr y (List.mem_of_getElem? e)
  cases kd
  all_goals
    repeat trivial
    first
      | refine EvalP.headS (x := Kd.s .eq) "linear" (.loc lk_here ⟨rfl, ?_⟩ (by kernel_rfl!) (by kernel_rfl!)) (by kernel_rfl!) (by decide +kernel) (by intro J J; rfl)
      | refine EvalP.headS (x := Kd.s .ne) "linear" (.loc lk_here ⟨rfl, ?_⟩ (by kernel_rfl!) (by kernel_rfl!)) (by kernel_rfl!) (by decide +kernel) (by intro J J; rfl)
      | refine EvalP.headS (x := Kd.s .le) "linear" (.loc lk_here ⟨rfl, ?_⟩ (by kernel_rfl!) (by kernel_rfl!)) (by kernel_rfl!) (by decide +kernel) (by intro J J; rfl)
    repeat trivial
    refine evalP_compZ (xs := ps.map (·.2)) (ys := ps.map (·.1)) (fun a x => a * rw_ r x) T [("row", Li (lits r))] ?_ (compOK_of ["row"] rfl (by kernel_rfl!)) (by simp) (by rw [List.length_map]; lia) ?_ (fun i x y hx hy => ?_)
    · exact ⟨by repeat trivial, trivial⟩
    rotate_left
    · repeat trivial
      rw [List.getElem?_map, Option.map_eq_some_iff] at hx hy
      obtain ⟨p, hp1, rfl⟩ := hx
      obtain ⟨q, hq1, rfl⟩ := hy
      rw [hp1] at hq1; cases hq1
      have pm := List.mem_of_getElem? hp1
      refine sub_row (hp p pm) hrl ?_
      refine ValP.mul (Nat.lt_of_le_of_lt (hc p pm) (by decide)) ?_
      repeat trivial
    repeat trivial
    rw [zip_den]
    repeat trivial
    refine bi_sumW (b := 2 ^ 41) iter_litL (fun a q => ?_) (by rw [List.length_map]; have : (2:Nat)^60 = 1152921504606846976 := rfl; have : (2:Nat)^41 = 2199023255552 := rfl; lia) ?_
    · obtain ⟨p, hp', rfl⟩ := List.mem_map.mp q
      rw [Int.natAbs_mul]
      exact Nat.le_trans (Nat.mul_le_mul (hc p hp') (hrb _)) (by decide)
    have e1 : (ps.map fun p => p.2 * rw_ r p.1).sum = den (rw_ r) ps := rfl
    rw [e1]
    generalize den (rw_ r) ps = D at *
  · have e2 : (decide (D = k) == ((Kd.s .eq : Str) == "linear_eq")) = Kd.rel .eq D k := by
      show (decide (D = k) == true) = decide (D = k)
      cases decide (D = k) <;> rfl
    repeat trivial
    rw [e2]; exact h
  · have e2 : (decide (D = k) == ((Kd.s .ne : Str) == "linear_eq")) = Kd.rel .ne D k := by
      have : ((Kd.s .ne : Str) == "linear_eq") = false := by decide +kernel
      rw [this]
      show (decide (D = k) == false) = decide (D ≠ k)
      by_cases e : D = k <;> simp [e]
    repeat trivial
    rw [e2]; exact h
  · repeat trivial
theorem any_eq1 {xs : List Int} {v : Int} : ((lits xs).any fun y => PyData.eqv y (.int v)) = decide (v ∈ xs) := by
  have e : ∀ y : Int, PyData.eqv (.int y) (.int v) = decide (y = v) := fun y => eqv_of (kOk_int (n := 0) y) (kOk_int (n := 0) v) |>.trans (decide_eq_decide.mpr ⟨fun h => PyData.int.inj h, fun h => by rw [h]⟩)
  rw [List.any_map]
  rw [Bool.eq_iff_iff, List.any_eq_true, decide_eq_true_iff]
  constructor
  · rintro ⟨x, hx, h⟩
    have h : PyData.eqv (.int x) (.int v) = true := h
    rw [e] at h
    rw [← of_decide_eq_true h]; exact hx
  · intro h
    exact ⟨v, h, by show PyData.eqv (.int v) (.int v) = true; rw [e]; exact decide_eq_true rfl⟩
theorem shl_lits {xs : List Int} : Sh (.list (lits xs)) := (ShN.list (n := 0) fun x q => by obtain ⟨i, J, rfl⟩ := List.mem_map.mp q; exact ShN.int).sh
theorem holds_ok (T : TopOK c) (t : Tl) {r : List Int} (hp : ∀ x ∈ t.about, 0 ≤ x ∧ x < r.length) (ho : t.ok) (hr : ∀ x ∈ r, x.natAbs ≤ 2 ^ 21) (hrl : r.length ≤ 10000)
    (h : Q (Bo (t.holds (rw_ r))) σ) : CallP c (d + 4) (.ref (c.fn "_law_holds")) [.dat t.d, Li (lits r)] σ Q := by
  cases t with
  | lin kd ps k => exact holds_lin T (fun p q => hp _ (List.mem_map.mpr ⟨p, q, rfl⟩)) ho.1 ho.2 hr hrl h
  | reif b ps k =>
    simp only [Tl.d]
    refine CallP.top 31 [("told", .dat _), ("row", Li (lits r))] T rfl ?_
    repeat trivial
    refine EvalP.headS (x := "reif") "reif" (.loc lk_here ⟨rfl, ?_⟩ (by kernel_rfl!) (by kernel_rfl!)) (by kernel_rfl!) (by decide +kernel) (by intro J J; rfl)
    repeat trivial
    refine holds_lin T (fun p q => hp _ (.tail _ (List.mem_map.mpr ⟨p, q, rfl⟩))) ho.1 ho.2 hr hrl ?_
    repeat trivial
    refine sub_row (hp _ (.head _)) hrl ?_
    repeat trivial
  | cls us ds =>
    simp only [Tl.d]
    refine CallP.top 31 [("told", .dat _), ("row", Li (lits r))] T rfl ?_
    repeat trivial
    refine EvalP.headS (x := "clause") "clause" (.loc lk_here ⟨rfl, ?_⟩ (by kernel_rfl!) (by kernel_rfl!)) (by kernel_rfl!) (by decide +kernel) (by intro J J; rfl)
    repeat trivial
    refine EvalP.compM us PyData.int (fun x => .int (rw_ r x)) [("row", Li (lits r))] ?_ (compOK_of ["row"] rfl (by kernel_rfl!)) ?_ (Nat.le_trans ho.1 (by decide))
    · exact ⟨by repeat trivial, trivial⟩
    repeat trivial
    refine ⟨iter_litT, fun x q => ?_, ?_⟩
    · repeat trivial
      refine sub_row (hp x (List.mem_append_left _ q)) hrl ?_
      repeat trivial
    have e1 : (us.map fun x => PyData.int (rw_ r x)) = lits (us.map (rw_ r)) := by simp [lits]
    rw [e1]
    repeat trivial
    refine ValP.inL (ShN.int (n := 0)).sh shl_lits ?_
    rw [any_eq1]
    repeat trivial
    refine ⟨fun e2 => ?_, fun e2 => ?_⟩
    · repeat trivial
      refine EvalP.compM ds PyData.int (fun x => .int (rw_ r x)) [("row", Li (lits r))] ?_ (compOK_of ["row"] rfl (by kernel_rfl!)) ?_ (Nat.le_trans ho.2 (by decide))
      · exact ⟨by repeat trivial, trivial⟩
      repeat trivial
      refine ⟨iter_litT, fun x q => ?_, ?_⟩
      · repeat trivial
        refine sub_row (hp x (List.mem_append_right _ q)) hrl ?_
        repeat trivial
      have e3 : (ds.map fun x => PyData.int (rw_ r x)) = lits (ds.map (rw_ r)) := by simp [lits]
      rw [e3]
      repeat trivial
      refine ValP.inL (ShN.int (n := 0)).sh shl_lits ?_
      rw [any_eq1]
      have e4 : (Tl.cls us ds).holds (rw_ r) = decide ((0 : Int) ∈ ds.map (rw_ r)) := by
        show (decide ((1 : Int) ∈ us.map (rw_ r)) || _) = _
        rw [e2]; rfl
      rw [e4] at h
      exact h
    · have e4 : (Tl.cls us ds).holds (rw_ r) = decide ((1 : Int) ∈ us.map (rw_ r)) := by
        show (decide ((1 : Int) ∈ us.map (rw_ r)) || _) = _
        rw [e2]; rfl
      rw [e4] at h
      exact h
  | cnt xs v z =>
    simp only [Tl.d]
    refine CallP.top 31 [("told", .dat _), ("row", Li (lits r))] T rfl ?_
    repeat trivial
    refine EvalP.headS (x := "count") "count" (.loc lk_here ⟨rfl, ?_⟩ (by kernel_rfl!) (by kernel_rfl!)) (by kernel_rfl!) (by decide +kernel) (by intro J J; rfl)
    repeat trivial
    refine EvalP.compP xs PyData.int (fun x => decide (rw_ r x = v)) PyData.int [("row", Li (lits r)), ("told", Tu [.str "count", .tuple (lits xs), .int v, .int z])] ?_ (compOK_of ["row", "told"] rfl (by kernel_rfl!)) ?_ (Nat.le_trans ho (by decide))
    · exact ⟨by repeat trivial, by repeat trivial, trivial⟩
    repeat trivial
    refine ⟨iter_litT, fun x q => ?_, ?_⟩
    · refine AsgP.name (k := .local) (by kernel_rfl!) ⟨rfl, ⟨by repeat trivial, by repeat trivial, trivial⟩, ?_⟩ (.inl rfl)
      show TestP _ _ _ _ _ _ _
      repeat trivial
      refine sub_row (hp x (List.mem_append_left _ q)) hrl ?_
      repeat trivial
      refine ⟨⟨rfl, rfl⟩, fun J => ?_⟩
      repeat trivial
    have hlen : ((xs.filter fun x => decide (rw_ r x = v)).map PyData.int).length < 2 ^ 63 := by
      rw [List.length_map]
      exact Nat.lt_of_le_of_lt (List.length_filter_le ..) (Nat.lt_of_le_of_lt ho (by decide))
    repeat trivial
    refine sub_row (hp z (List.mem_append_right _ (.head _))) hrl ?_
    repeat trivial
    have e5 : (((xs.filter fun x => decide (rw_ r x = v)).map PyData.int).length : Int) = ((xs.map (rw_ r)).count v : Nat) := by
      rw [List.length_map, List.count_eq_countP, List.countP_map, List.countP_eq_length_filter]
      congr 2
    rw [e5]
    exact h
end
-- Con17
section
variable {c : Cx} {d : Nat} {sc : Scope} {B : Bs} {σ : Sg} {Q : AV → Sg → Prop} {va ta ma fa la : Addr} {ι : Type} {m : Mo ι}

structure Ways (vs : List Vr) (bk : Int → List Tl) (E : List Int) (ok : Int → Bool) : Prop where
  len : E.length = vs.length
  n3 : 3 ≤ vs.length
  n4 : vs.length ≤ 1000
  tk : ∀ p, ∀ t ∈ bk p, t.ok ∧ ∀ x ∈ t.about, 0 ≤ x ∧ x ≤ p
  bl : ∀ p, (bk p).length ≤ 10000
  low : ∀ p : Int, p < 3 → ((∀ t ∈ bk p, t.holds (rw_ (E.take 3)) = true) ↔ ok p = true)
  dom : ∀ p : Nat, 3 ≤ p → p < vs.length → ∃ nm lo hi, vs[p]? = some (nm, [(lo, hi)]) ∧ lo.natAbs ≤ 2 ^ 18 ∧ hi.natAbs ≤ 2 ^ 18 ∧ lo ≤ rw_ E p ∧ rw_ E p ≤ hi ∧ ∀ v, lo ≤ v → v ≤ hi → ((∀ t ∈ bk p, t.holds (rw_ (E.take p ++ [v])) = true) ↔ (v = rw_ E p ∧ ok p = true))
  bd : ∀ x ∈ E, x.natAbs ≤ 2 ^ 20

noncomputable abbrev rowsD (L : List (List Int)) : List PyData := L.map fun r => .list (lits r)
noncomputable def okTo (ok : Int → Bool) (n : Nat) : Bool := (ok (-1) && ok 0 && ok 1 && ok 2) && ((List.range (n - 3)).all fun j => ok ((3 + j : Nat) : Int))
noncomputable def rowsAt (ok : Int → Bool) (E : List Int) (n : Nat) : List (List Int) := if okTo ok n then [E.take n] else []

theorem tl_sh (t : Tl) : ShN 3 t.d := by
  have hl : ∀ xs : List Int, ShN 2 (.tuple (lits xs)) := fun xs => (ShN.tuple (n := 0) fun x q => by obtain ⟨i, J, rfl⟩ := List.mem_map.mp q; exact ShN.int).le (by decide)
  cases t with
  | lin kd ps k => exact sh_lin.le (by decide)
  | reif b ps k =>
    refine ShN.tuple fun x q => ?_
    simp only [List.mem_cons, List.not_mem_nil, or_false] at q
    rcases q with rfl | rfl | rfl
    · exact ShN.str
    · exact ShN.int
    · exact sh_lin
  | cnt xs v z =>
    refine ShN.tuple fun x q => ?_
    simp only [List.mem_cons, List.not_mem_nil, or_false] at q
    rcases q with rfl | rfl | rfl | rfl
    · exact ShN.str
    · exact hl xs
    · exact ShN.int
    · exact ShN.int
  | cls us ds =>
    refine ShN.tuple fun x q => ?_
    simp only [List.mem_cons, List.not_mem_nil, or_false] at q
    rcases q with rfl | rfl | rfl
    · exact ShN.str
    · exact hl us
    · exact hl ds
noncomputable def badD (ts : List Tl) (w : Vl) : List PyData := (ts.filter fun t => !t.holds w).map Tl.d
theorem badD_nil {ts : List Tl} {w : Vl} : badD ts w = [] ↔ ∀ t ∈ ts, t.holds w = true := by
  unfold badD
  rw [List.map_eq_nil_iff, List.filter_eq_nil_iff]
  exact ⟨fun h t q => by simpa using h t q, fun h t q => by simpa using h t q⟩
theorem badD_sh {ts : List Tl} {w : Vl} : ∀ x ∈ badD ts w, ShN 3 x := fun x q => by
  obtain ⟨t, J, rfl⟩ := List.mem_map.mp q
  exact tl_sh t
theorem badD_snoc {ts : List Tl} {t : Tl} {w : Vl} : badD (ts ++ [t]) w = badD ts w ++ (if t.holds w then [] else [t.d]) := by
  unfold badD
  rw [List.filter_append, List.map_append]
  congr 1
  cases e : t.holds w <;> simp [e]
theorem badD_len {ts : List Tl} {w : Vl} : (badD ts w).length ≤ ts.length := by
  unfold badD
  rw [List.length_map]; exact List.length_filter_le ..

theorem ext_less {σ σ' : Sg} {g : Addr} (x : Ext [] σ σ') (n : g ∉ own σ) : Ext [] σ (sgLess σ' g) := ⟨fun p m q => mem_less (x.keep p m q) fun e => n (e ▸ mem_own (ob := p.2) m), fun b m => by
  obtain ⟨p, hp, rfl⟩ := List.mem_map.mp m
  exact List.mem_map.mpr ⟨p, mem_less (x.keep p hp (by simp)) fun e => n (e ▸ m), rfl⟩⟩
theorem nums_get {a b : Int} {j : Nat} {x : AV} (h : ((numsOn a b).map I)[j]? = some x) : x = I (a + j) ∧ (j : Int) < b - a := by
  unfold numsOn at h
  rw [List.map_map, List.getElem?_map, Option.map_eq_some_iff] at h
  obtain ⟨i, hi, rfl⟩ := h
  obtain ⟨h1, h2⟩ := List.getElem?_eq_some_iff.mp hi
  rw [List.getElem_range] at h2
  rw [List.length_range] at h1
  subst h2
  exact ⟨rfl, by lia⟩
theorem nums_len {a b : Int} : ((numsOn a b).map I).length = (b - a).toNat := by simp [numsOn]
theorem nums_mem {a b v : Int} : v ∈ numsOn a b ↔ a ≤ v ∧ v < b := by
  unfold numsOn
  rw [List.mem_map]
  constructor
  · rintro ⟨i, hi, rfl⟩
    have := List.mem_range.mp hi
    lia
  · rintro ⟨h1, h2⟩
    exact ⟨(v - a).toNat, List.mem_range.mpr (by lia), by lia⟩
theorem nums_nodup {a b : Int} : (numsOn a b).Nodup := by
  unfold numsOn
  refine List.pairwise_map.mpr (List.Pairwise.imp (fun {x y} h e => h ?_) (List.nodup_range (n := (b - a).toNat)))
  have e : a + (x : Int) = a + (y : Int) := e
  lia
theorem filter_one {v : Int} {q : Bool} : ∀ {l : List Int}, l.Nodup → v ∈ l → l.filter (fun x => decide (x = v) && q) = if q then [v] else []
  | [], _, m => nomatch m
  | x :: l, n, m => by
    obtain ⟨h1, h2⟩ := List.nodup_cons.mp n
    cases q with
    | false => simp
    | true =>
      rcases List.mem_cons.mp m with rfl | m
      · rw [List.filter_cons, if_pos (by simp)]
        have : l.filter (fun x => decide (x = v) && true) = [] := by
          rw [List.filter_eq_nil_iff]
          intro y hy e
          have : y = v := by simpa using e
          exact h1 (this ▸ hy)
        rw [this]; rfl
      · have ne : x ≠ v := fun e => h1 (e ▸ m)
        rw [List.filter_cons, if_neg (by simp [ne]), filter_one h2 m]

noncomputable def ndS : List Str → Bool
  | [] => true
  | n :: r => (r.all fun m => !(n == m)) && ndS r
theorem cov_app : ∀ {X B₀ : Bs}, ndS ((X ++ B₀).map (·.1)) = true → Cov (X ++ B₀) B₀
  | X, [], _ => trivial
  | X, (n, x) :: r, h => by
    have hX : ∀ (X : Bs), ndS ((X ++ (n, x) :: r).map (·.1)) = true → (X ++ (n, x) :: r).lookup n = some x := by
      intro X
      induction X with
      | nil => intro J; show List.lookup n ((n, x) :: r) = _; rw [List.lookup_cons, beq_self_eq_true]
      | cons p X ih =>
        intro h
        obtain ⟨h1, h2⟩ := Bool.and_eq_true_iff.mp (show (((X ++ (n, x) :: r).map (·.1)).all (fun m => !(p.1 == m)) && ndS ((X ++ (n, x) :: r).map (·.1))) = true from h)
        have : (n == p.1) = false := by
          have := List.all_eq_true.mp h1 n (by simp)
          have : (p.1 == n) = false := by simpa using this
          cases e : n == p.1 with
          | false => rfl
          | true => rw [eq_of_beq e] at this; simp at this
        show List.lookup n (p :: (X ++ (n, x) :: r)) = _
        obtain ⟨pn, px⟩ := p
        rw [List.lookup_cons, this]
        exact ih h2
    refine ⟨hX X h, ?_⟩
    have e : X ++ (n, x) :: r = (X ++ [(n, x)]) ++ r := by simp
    rw [e] at h ⊢
    exact cov_app h
theorem cov_pre {B₀ : Bs} (X : Bs) (h : ndS ((X ++ B₀).map (·.1)) = true) : Cov (X ++ B₀) B₀ := cov_app h
theorem flat_len {α β : Type} {f : α → List β} {n : Nat} (h : ∀ x, (f x).length ≤ n) (l : List α) : (l.flatMap f).length ≤ n * l.length := by
  induction l with
  | nil => exact Nat.le_refl _
  | cons x r ih => rw [List.flatMap_cons, List.length_append, List.length_cons, Nat.mul_succ, Nat.add_comm]; exact Nat.add_le_add ih (h x)
-- parts of the def's text
noncomputable def headE : Stmt → Expr
  | .For _ i _ _ _ => i
  | .If t _ _ _ => t
  | _ => .Tuple [] 0 ⟨0, 0, 0, 0⟩
noncomputable def wPl : List Stmt := fBody (nthS (fBody (topS 32)) 2)
noncomputable def wOne : List Stmt := fBody (nthS wPl 1)
noncomputable def wWo : List Stmt := fBody (nthS wOne 0)
noncomputable abbrev wsc : Scope := fScope (topS 32)
noncomputable abbrev BWt (L : List (List Int)) (va la : Addr) (U : AV) (r : List Int) : Bs := [("rows", Li (rowsD L)), ("flat", .flat (.ref va) U), ("late", .ref la), ("row", Li (lits r))]
noncomputable abbrev BWg (g : Addr) (p : Int) (L : List (List Int)) (va la : Addr) (U : AV) (r : List Int) : Bs := ("grown", .ref g) :: ("place", I p) :: BWt L va la U r
section
variable {L : List (List Int)} {U : AV} {r F E : List Int} {g : Addr} {p v lo hi : Int} {kvs : List (Int × AV)} {ts : List Tl} {vs : List Vr} {bk : Int → List Tl} {ok : Int → Bool} {N : Bs → Sg → Prop} {R : AV → Sg → Prop}
theorem way_worth (T : TopOK c) (hla : (la, OB.dI kvs) ∈ σ) (hkv : (at? kvs p).getD (Li []) = Li (ts.map Tl.d)) (hbl : ts.length ≤ 10000) (tk : ∀ t ∈ ts, t.ok ∧ ∀ x ∈ t.about, 0 ≤ x ∧ x ≤ p) (hF : (F.length : Int) = p) (hn : F.length ≤ 1000)
    (hrv : ∀ x ∈ F ++ [v], x.natAbs ≤ 2 ^ 21) {b : Bool} (hem : (badD ts (rw_ (F ++ [v]))).isEmpty = b) {xs : List PyData} (hg : (g, OB.lst xs) ∈ σ) (hx : xs.length ≤ 1000000)
    (kt : b = true → N (("worth", I v) :: ("one", Li (lits F)) :: BWg g p L va la U r) (upd σ g (.lst (xs ++ [.list (lits (F ++ [v]))])))) (kf : b = false → N (("worth", I v) :: ("one", Li (lits F)) :: BWg g p L va la U r) σ) :
    ExecsP c (d + 5) wsc (("worth", I v) :: ("one", Li (lits F)) :: BWg g p L va la U r) σ wWo N R := by
  have hFv : (lits F ++ [PyData.int v]) = lits (F ++ [v]) := by simp [lits]
  show ExecsP _ _ _ _ _ [_] _ _
  repeat trivial
  refine EvalP.compP ts Tl.d (fun t => !t.holds (rw_ (F ++ [v]))) Tl.d [("one", Li (lits F)), ("worth", I v)] ?_ (compOK_of ["one", "worth"] rfl (by kernel_rfl!)) ?_ (Nat.le_trans hbl (by decide))
  · exact ⟨by repeat trivial, by repeat trivial, trivial⟩
  refine EvalP.method ?_
  repeat trivial
  refine ⟨_, _, .get hla, .builtin, ?_⟩
  repeat trivial
  refine CallP.get T.mods hla ?_
  rw [hkv]
  refine ⟨iter_mapL, fun t q => ?_, ?_⟩
  · obtain ⟨to, ta⟩ := tk t q
    refine AsgP.nameL ⟨rfl, ⟨by repeat trivial, by repeat trivial, trivial⟩, ?_⟩
    show TestP _ _ _ _ _ _ _
    repeat trivial
    refine ValP.addL (by rw [List.length_map]; exact Nat.le_trans (Nat.add_le_add_right hn 1) (by decide)) ?_
    rw [hFv]
    repeat trivial
    have hl : (F ++ [v]).length = F.length + 1 := by rw [List.length_append]; rfl
    refine holds_ok T t (fun x q' => ⟨(ta x q').1, by rw [hl]; exact Int.lt_of_le_of_lt (ta x q').2 (hF ▸ Int.ofNat_lt.mpr (Nat.lt_succ_self _))⟩) to hrv (by rw [hl]; exact Nat.le_trans (Nat.add_le_add_right hn 1) (by decide)) ?_
    refine ⟨_, rfl, ⟨rfl, rfl⟩, fun J => ?_⟩
    repeat trivial
  · repeat trivial
    refine ValP.eq (ShN.list (n := 3) badD_sh).sh (ShN.list (n := 0) (xs := []) (fun x q => by cases q)).sh ?_
    rw [eqv_nil, show (List.map Tl.d (List.filter (fun t => !t.holds (rw_ (F ++ [v]))) ts)).isEmpty = b from hem]
    cases b with
    | false =>
      repeat trivial
      exact kf rfl
    | true =>
      repeat trivial
      refine EvalP.method ?_
      repeat trivial
      refine ⟨_, _, .append hg, .builtin, ?_⟩
      repeat trivial
      refine ValP.addL (by rw [List.length_map]; exact Nat.le_trans (Nat.add_le_add_right hn 1) (by decide)) ?_
      rw [hFv]
      repeat trivial
      refine CallP.append hg hx ?_
      exact ExecsP.nil (ExecsP.nil (kt rfl))
theorem way_vals (T : TopOK c) {nm : Str} {vl : List PyData} (hv : (va, OB.lst vl) ∈ σ) (h0 : 0 ≤ p) (hnth : vl[p.toNat]? = some (.tuple [.str nm, .tuple (prD [(lo, hi)])])) (hp : p < 2 ^ 63) (blo : lo.natAbs ≤ 2 ^ 18) (bhi : hi.natAbs ≤ 2 ^ 18)
    (hB : B.lookup ("flat" : Str) = some (.flat (.ref va) U)) (hBp : B.lookup ("place" : Str) = some (I p)) (h : Q (Li (lits (numsOn lo (hi + 1)))) σ) : EvalP c (d + 5) wsc B σ (headE (nthS wOne 0)) Q := by
  refine EvalP.comp [] trivial (compOK_of [] rfl (by kernel_rfl!)) ?_ rfl (by intros; rfl)
  refine EvalP.callFlat (F := .ref va) (M := U) T ?_
  repeat trivial
  refine domain_of_ok T hv h0 hnth hp ?_
  refine ⟨_, fun i zs' τ => τ = σ ∧ zs' = (if i = 0 then [] else lits (numsOn lo (hi + 1))), iter_parts, ⟨rfl, rfl⟩, ?_, ?_⟩
  · rintro i y zs' τ hy ⟨rfl, rfl⟩
    have hi0 : i = 0 := by have := (List.getElem?_eq_some_iff.mp hy).1; simpa using this
    subst hi0
    have hy : y = Tu [.int lo, .int hi] := by simpa using hy.symm
    subst hy
    refine AsgP.tuple ?_
    repeat trivial
    refine ⟨trivial, brT ⟨⟨rfl, by intros; rfl⟩, ?_⟩⟩
    show EvalP _ _ _ _ _ _ _
    repeat trivial
    have big : (2:Int)^60 = 1152921504606846976 := rfl
    refine ⟨_, fun k' zs'' τ' => τ' = τ ∧ zs'' = lits ((numsOn lo (hi + 1)).take k'), IterP.rng (by lia) (by lia) (by lia) (by lia), ⟨rfl, rfl⟩, ?_, ?_⟩
    · rintro k' y zs'' τ' hy ⟨rfl, rfl⟩
      rw [List.getElem?_map, Option.map_eq_some_iff] at hy
      obtain ⟨v, hv', rfl⟩ := hy
      refine AsgP.nameL ⟨⟨by repeat trivial, by repeat trivial, trivial⟩, brT ?_⟩
      show EvalP _ _ _ _ _ _ _
      repeat trivial
      refine ⟨?_, rfl, ?_⟩
      · rw [List.length_map, List.length_take]
        exact Nat.le_trans (Nat.min_le_right _ _) (by rw [show (numsOn lo (hi + 1)).length = (hi + 1 - lo).toNat by simp [numsOn]]; exact Nat.le_trans (wid blo bhi) (by decide))
      · rw [take_snoc hv']; simp [lits]
    · rintro zs'' τ' ⟨rfl, rfl⟩
      rw [List.length_map, List.take_length]
      exact ⟨rfl, rfl⟩
  · rintro zs' τ ⟨rfl, rfl⟩
    exact h
theorem rowsD_snoc {A : List (List Int)} {x : List Int} : rowsD (A ++ [x]) = rowsD A ++ [.list (lits x)] := List.map_append ..
theorem ext_out {σ σ' σ'' : Sg} (x : Ext [] σ σ') (y : Ext [g] σ' σ'') (n : g ∉ own σ) : Ext [] σ σ'' :=
  ⟨fun q m h => y.keep q (x.keep q m h) fun e => n (List.mem_singleton.mp e ▸ mem_own (ob := q.2) m), fun a m => y.own a (x.own a m)⟩
theorem ext_upd1 {σ σ' : Sg} {ob : OB} (x : Ext [g] σ σ') : Ext [g] σ (upd σ' g ob) := ⟨fun q m h => mem_upd_ne (x.keep q m h) fun e => h (e ▸ List.mem_singleton.mpr rfl), fun b m => by rw [own_upd]; exact x.own b m⟩
/- What holds ahead of each worth's turn. -/
inductive WorI (σ : Sg) (B : Bs) (g : Addr) (F : List Int) (X Vs : List Int) (G : List (List Int)) (e : Int) (b : Bool) (i : Nat) (B' : Bs) (σ' : Sg) : Prop
  | mk : B' = B → (g, OB.lst (rowsD (G ++ ((Vs.take i).filter (fun v => decide (v = e) && b)).map fun v => F ++ [v]))) ∈ σ' → Ext [g] σ σ' → i ≤ Vs.length → WorI σ B g F X Vs G e b i B' σ'
theorem way_one (T : TopOK c) (W : Ways vs bk E ok) {j : Nat} (hj : 3 + j < vs.length) (hp : p = 3 + (j : Int)) (hF : F = E.take (3 + j)) (hv : (va, OB.lst (vs.map vD)) ∈ σ) (hla : (la, OB.dI kvs) ∈ σ) (hkv : (at? kvs p).getD (Li []) = Li ((bk p).map Tl.d))
    {G : List (List Int)} (hg : (g, OB.lst (rowsD G)) ∈ σ) (hG : G.length ≤ 1) (nv : va ≠ g) (nl : la ≠ g)
    (K : ∀ σ', Ext [g] σ σ' → (g, OB.lst (rowsD (G ++ if ok p then [F ++ [rw_ E p]] else []))) ∈ σ' → N (("one", Li (lits F)) :: BWg g p L va la U r) σ') :
    ExecsP c (d + 5) wsc (("one", Li (lits F)) :: BWg g p L va la U r) σ wOne N R := by
  obtain ⟨nm, lo, hi, hvp, blo, bhi, wlo, whi, hdom⟩ := W.dom (3 + j) (by lia) hj
  have hpe : ((3 + j : Nat) : Int) = p := by lia
  rw [hpe, ← hF] at hdom
  rw [hpe] at wlo whi
  have h0 : 0 ≤ p := by lia
  have hn4 := W.n4
  have hnp : p.toNat = 3 + j := by lia
  have hFl : F.length = 3 + j := by rw [hF, List.length_take]; have := W.len; lia
  have hFb : ∀ x ∈ F, x.natAbs ≤ 2 ^ 20 := fun x q => by rw [hF] at q; exact W.bd x (List.mem_of_mem_take q)
  have hFn : F.length ≤ 1000 := by lia
  have hFp : (F.length : Int) = p := by rw [hFl]; exact hpe
  have hp63 : p < 2 ^ 63 := Int.lt_of_lt_of_le (show p < 1001 by lia) (by decide)
  have hnth : (vs.map vD)[p.toNat]? = some (.tuple [.str nm, .tuple (prD [(lo, hi)])]) := by rw [hnp, List.getElem?_map, hvp]; rfl
  have tk := W.tk p
  have hbl := W.bl p
  clear hvp hpe hnp hp hF hn4 hj hFl
  generalize hE : rw_ E p = e at *
  show ExecsP _ _ _ _ _ [_] _ _
  refine ExecsP.cons (ExecP.forC ?_ (by intros; rfl))
  refine way_vals T hv h0 hnth hp63 blo bhi (by repeat trivial) (by repeat trivial) ?_
  have hVs : ∀ v, v ∈ numsOn lo (hi + 1) ↔ lo ≤ v ∧ v < hi + 1 := fun v => nums_mem
  have hVl : (numsOn lo (hi + 1)).length ≤ 2 ^ 19 + 1 := by rw [show (numsOn lo (hi + 1)).length = (hi + 1 - lo).toNat by simp [numsOn]]; exact wid blo bhi
  have hVn : (numsOn lo (hi + 1)).Nodup := nums_nodup
  generalize numsOn lo (hi + 1) = Vs at hVs hVl hVn ⊢
  refine ⟨_, WorI σ (("one", Li (lits F)) :: BWg g p L va la U r) g F [] Vs G e (ok p), iter_litL, ⟨_, cov_pre [] (by kernel_rfl), rfl, by simpa using hg, .refl _ _, Nat.zero_le _⟩, ?_, ?_⟩
  · rintro i y B3 σ4 hy ⟨rfl, hg4, ext4, hil⟩
    simp only [List.getElem?_map, Option.map_eq_some_iff] at hy
    obtain ⟨v, hvi, rfl⟩ := hy
    have hi1 : i + 1 ≤ Vs.length := (List.getElem?_eq_some_iff.mp hvi).1
    have hvm : lo ≤ v ∧ v < hi + 1 := (hVs v).mp (List.mem_of_getElem? hvi)
    have hd := hdom v hvm.1 (Int.le_of_lt_add_one hvm.2)
    have hrv : ∀ x ∈ F ++ [v], x.natAbs ≤ 2 ^ 21 := fun x q => by
      rcases List.mem_append.mp q with q | q
      · exact Nat.le_trans (hFb x q) (by decide)
      · rw [List.mem_singleton.mp q]
        exact Nat.le_trans (nb blo bhi hvm.1 (Int.le_of_lt_add_one hvm.2)) (by decide)
    have hem : (badD (bk p) (rw_ (F ++ [v]))).isEmpty = (decide (v = e) && ok p) := by
      rw [Bool.eq_iff_iff, List.isEmpty_iff, badD_nil, hd]
      simp
    have hstep : ((Vs.take (i + 1)).filter (fun v => decide (v = e) && ok p)).map (fun v => F ++ [v]) = ((Vs.take i).filter (fun v => decide (v = e) && ok p)).map (fun v => F ++ [v]) ++ (if (decide (v = e) && ok p) then [F ++ [v]] else []) := by
      rw [take_snoc hvi, List.filter_append, List.map_append]
      congr 1
      cases q : (decide (v = e) && ok p) <;> simp [q]
    have hlen : (rowsD (G ++ ((Vs.take i).filter (fun v => decide (v = e) && ok p)).map fun v => F ++ [v])).length ≤ 1000000 := by
      rw [List.length_map, List.length_append, List.length_map]
      exact Nat.le_trans (Nat.add_le_add hG (Nat.le_trans (List.length_filter_le ..) (Nat.le_trans (List.length_take_le ..) (Nat.le_trans hil hVl)))) (by decide)
    refine AsgP.nameC ?_
    refine ExecsP.ab fun N' hN => ?_
    refine way_worth T (ext4.keep _ hla (by simpa using nl)) hkv hbl tk hFp hFn hrv hem hg4 hlen (fun q => hN _ _ ⟨_, cov_pre [("worth", I v)] (by kernel_rfl), rfl, ?_, ext_upd1 ext4, hi1⟩) (fun q => hN _ _ ⟨_, cov_pre [("worth", I v)] (by kernel_rfl), rfl, ?_, ext4, hi1⟩)
    · rw [hstep, q, if_pos rfl, ← List.append_assoc, rowsD_snoc]; exact mem_upd (mem_own hg4)
    · rw [hstep, q, if_neg (by decide), List.append_nil]; exact hg4
  · rintro B3 σ4 ⟨rfl, hg4, ext4, J⟩
    rw [List.length_map, List.take_length, filter_one hVn ((hVs e).mpr ⟨wlo, Int.lt_add_one_of_le whi⟩)] at hg4
    refine ExecsP.nil (K _ ext4 ?_)
    cases q : ok p
    · rw [q] at hg4; exact hg4
    · rw [q] at hg4; exact hg4
theorem okTo_succ {ok : Int → Bool} {j : Nat} : okTo ok (3 + (j + 1)) = (okTo ok (3 + j) && ok (3 + (j : Int))) := by
  unfold okTo
  have a1 : 3 + (j + 1) - 3 = j + 1 := by lia
  have a2 : 3 + j - 3 = j := by lia
  rw [a1, a2, List.range_succ, List.all_append]
  simp [Bool.and_assoc]
theorem take_rw {E : List Int} {j : Nat} (hlt : 3 + j < E.length) : E.take (3 + (j + 1)) = E.take (3 + j) ++ [rw_ E (3 + (j : Int))] := by
  have a3 : 3 + (j + 1) = 3 + j + 1 := by lia
  rw [a3, List.take_succ, List.getElem?_eq_getElem hlt]
  have a4 : rw_ E (3 + (j : Int)) = E[3 + j] := by
    show (E[(3 + (j : Int)).toNat]?).getD 0 = _
    have : (3 + (j : Int)).toNat = 3 + j := by lia
    rw [this, List.getElem?_eq_getElem hlt]; rfl
  rw [a4]; rfl
theorem rowsAt_succ {j : Nat} (hlt : 3 + j < E.length) : rowsAt ok E (3 + (j + 1)) = (rowsAt ok E (3 + j)).flatMap fun one => if ok (3 + (j : Int)) then [one ++ [rw_ E (3 + (j : Int))]] else [] := by
  unfold rowsAt
  rw [okTo_succ]
  cases okTo ok (3 + j)
  · rfl
  · cases q : ok (3 + (j : Int))
    · simp [q]
    · simp [q, take_rw hlt]
theorem rowsAt_mem {n : Nat} {one : List Int} (q : one ∈ rowsAt ok E n) : one = E.take n := by
  unfold rowsAt at q
  split at q
  · exact List.mem_singleton.mp q
  · cases q
theorem rowsAt_len {n : Nat} : (rowsAt ok E n).length ≤ 1 := by unfold rowsAt; split <;> simp
/- What holds ahead of each row's turn. -/
inductive OneI (σ : Sg) (B : Bs) (g : Addr) (L : List (List Int)) (H : List Int → List (List Int)) (k : Nat) (B' : Bs) (σ' : Sg) : Prop
  | mk : B' = B → (g, OB.lst (rowsD ((L.take k).flatMap H))) ∈ σ' → Ext [] σ σ' → OneI σ B g L H k B' σ'
theorem way_place (T : TopOK c) (W : Ways vs bk E ok) {j : Nat} (hj : 3 + j < vs.length) (hv : (va, OB.lst (vs.map vD)) ∈ σ) (hla : (la, OB.dI kvs) ∈ σ) (hkv : (at? kvs (3 + (j : Int))).getD (Li []) = Li ((bk (3 + (j : Int))).map Tl.d))
    (K : ∀ σ', Ext [] σ σ' → N (BWt (rowsAt ok E (3 + (j + 1))) va la U r) σ') :
    ExecsP c (d + 5) wsc (("place", I (3 + (j : Int))) :: BWt (rowsAt ok E (3 + j)) va la U r) σ wPl N R := by
  rw [rowsAt_succ (by rw [W.len]; exact hj)] at K
  have hLm : ∀ one ∈ rowsAt ok E (3 + j), one = E.take (3 + j) := fun one q => rowsAt_mem q
  have hL1 : (rowsAt ok E (3 + j)).length ≤ 1 := rowsAt_len
  generalize rowsAt ok E (3 + j) = L at *
  generalize hp : (3 + (j : Int)) = p at *
  have hH : ∀ (H : List Int → List (List Int)) k, (∀ one, (H one).length ≤ 1) → k ≤ L.length → ((L.take k).flatMap H).length ≤ 1 := fun H k hH hk =>
    Nat.le_trans (flat_len hH _) (by rw [Nat.one_mul]; exact Nat.le_trans (List.length_take_le' ..) hL1)
  generalize hHe : (fun one : List Int => if ok p then [one ++ [rw_ E p]] else []) = H at *
  have hH1 : ∀ one, (H one).length ≤ 1 := fun one => by rw [← hHe]; show (if ok p then _ else _ : List (List Int)).length ≤ 1; split <;> simp
  show ExecsP _ _ _ _ _ [_, _, _] _ _
  refine ExecsP.cons (ExecP.assign (EvalP.list0 fun g ng => ?_))
  refine AsgP.nameL ?_
  refine ExecsP.cons (ExecP.forC ?_ (by intros; rfl))
  repeat trivial
  refine ⟨_, OneI σ (BWg g p L va la U r) g L H, iter_mapL, ⟨_, cov_pre [] (by kernel_rfl), rfl, .head _, .cons⟩, ?_, ?_⟩
  · rintro k y B'' σ3 hy ⟨rfl, hg, ext3⟩
    simp only [List.getElem?_map, Option.map_eq_some_iff] at hy
    obtain ⟨one, hone, rfl⟩ := hy
    have h1 := hLm one (List.mem_of_getElem? hone)
    have hk1 : k < L.length := (List.getElem?_eq_some_iff.mp hone).1
    refine AsgP.nameC ?_
    refine ExecsP.ab fun N' hN => ?_
    refine way_one T W hj hp.symm h1 (ext3.keep _ hv (by simp)) (ext3.keep _ hla (by simp)) hkv hg (hH H k hH1 (Nat.le_of_lt hk1)) (fun e => ng (e ▸ mem_own hv)) (fun e => ng (e ▸ mem_own hla)) fun σ' x hg' => hN _ _ ⟨_, cov_pre [("one", Li (lits one))] (by kernel_rfl), rfl, ?_, ext_out ext3 x ng⟩
    have hs : (L.take (k + 1)).flatMap H = (L.take k).flatMap H ++ (if ok p then [one ++ [rw_ E p]] else []) := by
      rw [take_snoc hone, List.flatMap_append, ← hHe]; simp
    rw [hs]; exact hg'
  · rintro B'' σ3 ⟨rfl, hg, ext3⟩
    rw [List.length_map, List.take_length] at hg
    refine ExecsP.cons (ExecP.assign ?_)
    with_reducible refine EvalP.loc (by ktr_rel) ?_
    refine AsgP.nameL ?_
    refine ExecsP.frz hg (BWt (L.flatMap H) va la U r) ?_ (ExecsP.nil (K _ (ext_less ext3 ng)))
    exact ⟨⟨_, by repeat trivial, .conv⟩, ⟨_, by repeat trivial, .same⟩, ⟨_, by repeat trivial, .same⟩, ⟨_, by repeat trivial, .same⟩, trivial⟩
/- What the first comprehension has told by its i-th place. -/
inductive LowI (σ : Sg) (f : Int → List PyData) (l : List Int) (i : Nat) (zs : List PyData) (σ' : Sg) : Prop
  | mk : σ' = σ → zs = (l.take i).flatMap f → zs.length ≤ 10000 * i → LowI σ f l i zs σ'
inductive LowJ (σ : Sg) (zs0 : List PyData) (f : Nat → List PyData) (k : Nat) (zs : List PyData) (σ' : Sg) : Prop
  | mk : σ' = σ → zs = zs0 ++ f k → zs.length ≤ zs0.length + k → LowJ σ zs0 f k zs σ'
theorem way_low (T : TopOK c) (W : Ways vs bk E ok) (hr : r = E.take 3) (hla : (la, OB.dI kvs) ∈ σ) (hkv : ∀ p, (at? kvs p).getD (Li []) = Li ((bk p).map Tl.d))
    {e : Expr} {ops cs pp} (he : headE (nthS (fBody (topS 32)) 1) = .Compare e ops cs pp) (h : ∀ zs, (zs = [] ↔ (ok (-1) && ok 0 && ok 1 && ok 2) = true) → Sh (.list zs) → Q (Li zs) σ) : EvalP c (d + 5) wsc (BWt L va la U r) σ e Q := by
  cases he
  have hr3 : r.length = 3 := by rw [hr, List.length_take]; have := W.len; have := W.n3; lia
  have hrb : ∀ x ∈ r, x.natAbs ≤ 2 ^ 21 := fun x q => Nat.le_trans (W.bd x (List.mem_of_mem_take (hr ▸ q))) (by decide)
  have hlo := W.low
  rw [← hr] at hlo
  have hbl := W.bl
  have tk := W.tk
  clear W hr
  refine EvalP.comp [("late", .ref la), ("row", Li (lits r))] ?_ (compOK_of ["late", "row"] rfl (by kernel_rfl!)) ?_ rfl (by intros; rfl)
  · exact ⟨by repeat trivial, by repeat trivial, trivial⟩
  repeat trivial
  refine ⟨_, LowI σ (fun p => badD (bk p) (rw_ r)) [-1, 0, 1, 2], iter_litT (xs := [-1, 0, 1, 2]), ⟨rfl, rfl, Nat.le_refl 0⟩, ?_, ?_⟩
  · rintro i y zs σ' hy ⟨rfl, hz0, hzl⟩
    simp only [List.getElem?_map, Option.map_eq_some_iff] at hy
    obtain ⟨p, hp, rfl⟩ := hy
    have hi : i < 4 := (List.getElem?_eq_some_iff.mp hp).1
    have hp3 : p < 3 := by
      have := List.mem_of_getElem? hp
      simp only [List.mem_cons, List.not_mem_nil, or_false] at this
      lia
    have hbp := hbl p
    have hstep : ((([-1, 0, 1, 2] : List Int).take (i + 1)).flatMap fun p => badD (bk p) (rw_ r)) = zs ++ badD (bk p) (rw_ r) := by
      rw [take_snoc hp, List.flatMap_append, ← hz0]; simp
    refine AsgP.nameL ⟨⟨by repeat trivial, by repeat trivial, trivial⟩, brT ⟨⟨rfl, by intros; rfl⟩, ?_⟩⟩
    refine EvalP.method ?_
    repeat trivial
    refine ⟨_, _, .get hla, .builtin, ?_⟩
    repeat trivial
    refine CallP.get T.mods hla ?_
    rw [hkv]
    refine ⟨_, LowJ σ' zs (fun k => badD ((bk p).take k) (rw_ r)), iter_mapL, ⟨rfl, by simp [badD], Nat.le_refl _⟩, ?_, ?_⟩
    · rintro k y zs' σ'' hy ⟨rfl, hz1, hzl'⟩
      simp only [List.getElem?_map, Option.map_eq_some_iff] at hy
      obtain ⟨t, ht, rfl⟩ := hy
      have htm := List.mem_of_getElem? ht
      have hk : k < (bk p).length := (List.getElem?_eq_some_iff.mp ht).1
      have e1 := badD_snoc (ts := (bk p).take k) (t := t) (w := rw_ r)
      rw [← take_snoc ht] at e1
      obtain ⟨to, ta⟩ := tk p t htm
      have hzs : zs'.length ≤ 1000000 := by lia
      refine AsgP.nameL ⟨⟨by repeat trivial, by repeat trivial, by repeat trivial, trivial⟩, ?_⟩
      show TestP _ _ _ _ _ _ _
      repeat trivial
      refine holds_ok T t (fun x q => ⟨(ta x q).1, by rw [hr3]; have := (ta x q).2; lia⟩) to hrb (by rw [hr3]; decide) ?_
      refine ⟨_, rfl, fun e => ?_, fun e => ?_⟩
      · have e : t.holds (rw_ r) = false := by simpa using e
        show EvalP _ _ _ _ _ _ _
        repeat trivial
        refine ⟨hzs, rfl, ?_, ?_⟩
        · rw [e1, e, ← List.append_assoc, ← hz1]; rfl
        · rw [List.length_append]; exact Nat.succ_le_succ hzl'
      · have e : t.holds (rw_ r) = true := by simpa using e
        refine ⟨rfl, ?_, Nat.le_succ_of_le hzl'⟩
        rw [e1, e, hz1]; simp
    · rintro zs' σ'' ⟨rfl, hz1, hzl'⟩
      simp only [List.length_map, List.take_length] at hz1 hzl'
      exact ⟨rfl, hz1.trans hstep.symm, by lia⟩
  · rintro zs σ' ⟨rfl, hzs, hzl⟩
    have hzs : zs = badD (bk (-1)) (rw_ r) ++ (badD (bk 0) (rw_ r) ++ (badD (bk 1) (rw_ r) ++ badD (bk 2) (rw_ r))) := by
      rw [hzs]
      show List.flatMap _ [-1, 0, 1, 2] = _
      simp
    refine h zs ?_ (ShN.list (n := 3) fun x q => ?_).sh
    · rw [hzs, List.append_eq_nil_iff, List.append_eq_nil_iff, List.append_eq_nil_iff, badD_nil, badD_nil, badD_nil, badD_nil, hlo _ (by decide), hlo _ (by decide), hlo _ (by decide), hlo _ (by decide)]
      simp only [Bool.and_eq_true]
      exact ⟨fun ⟨a, b, c, d⟩ => ⟨⟨⟨a, b⟩, c⟩, d⟩, fun ⟨⟨⟨a, b⟩, c⟩, d⟩ => ⟨a, b, c, d⟩⟩
    · rw [hzs] at q
      simp only [List.mem_append] at q
      rcases q with q | q | q | q <;> exact badD_sh x q
inductive PlI (σ : Sg) (B : Nat → Bs) (j : Nat) (B' : Bs) (σ' : Sg) : Prop
  | mk : B' = B j → Ext [] σ σ' → PlI σ B j B' σ'
theorem ways_ok (T : TopOK c) (W : Ways vs bk E ok) (hv : (va, OB.lst (vs.map vD)) ∈ σ) (hla : (la, OB.dI kvs) ∈ σ) (hkv : ∀ p, (at? kvs p).getD (Li []) = Li ((bk p).map Tl.d))
    (h : ∀ σ', Ext [] σ σ' → Q (Li (rowsD (rowsAt ok E vs.length))) σ') : CallP c (d + 6) (.ref (c.fn "_law_ways")) [.flat (.ref va) U, .ref la, Li (lits (E.take 3))] σ Q := by
  refine CallP.top 32 [("flat", .flat (.ref va) U), ("late", .ref la), ("row", Li (lits (E.take 3)))] T rfl ?_
  repeat trivial
  refine way_low (L := [E.take 3]) T W rfl hla hkv rfl fun zs hlow hsh => ?_
  repeat trivial
  refine ValP.ne hsh (ShN.list (n := 0) (xs := []) (fun x q => by cases q)).sh ?_
  rw [eqv_nil]
  have hn3 := W.n3
  have hn4 := W.n4
  by_cases hz : zs = []
  · have e1 : (!zs.isEmpty) = false := by rw [hz]; rfl
    rw [e1]
    have hok := hlow.mp hz
    repeat trivial
    refine ExecP.forC ?_ (by intros; rfl)
    repeat trivial
    refine EvalP.callFlat (F := .ref va) (M := U) T ?_
    repeat trivial
    refine size_ok T hv (by rw [List.length_map]; exact Nat.lt_of_le_of_lt W.n4 (by decide)) ?_
    rw [List.length_map]
    repeat trivial
    have e3 : rowsAt ok E (3 + 0) = [E.take 3] := by unfold rowsAt okTo; rw [hok]; rfl
    refine ⟨_, PlI σ fun j => BWt (rowsAt ok E (3 + j)) va la U (E.take 3), IterP.rng (by decide) (by decide) (by lia) (by have : (2:Int)^60 = 1152921504606846976 := rfl; lia), ⟨_, ?_, rfl, .refl _ _⟩, ?_, ?_⟩
    · rw [e3]
      exact ⟨by repeat trivial, by repeat trivial, by repeat trivial, by repeat trivial, trivial⟩
    · rintro j x B' σ'' hx ⟨rfl, ext⟩
      obtain ⟨rfl, hj⟩ := nums_get hx
      refine AsgP.nameL ?_
      refine ExecsP.ab fun N' hN => ?_
      exact way_place T W (by lia) (ext.keep _ hv (by simp)) (ext.keep _ hla (by simp)) (hkv _) fun σ' x => hN _ _ ⟨_, cov_pre [] (by kernel_rfl), rfl, ext.trans x⟩
    · rintro B' σ'' ⟨rfl, ext⟩
      have e : 3 + ((numsOn 3 (vs.length : Int)).map I).length = vs.length := by rw [nums_len]; lia
      rw [e]
      repeat trivial
      exact h _ ext
  · have e1 : (!zs.isEmpty) = true := by cases zs with
      | nil => exact absurd rfl hz
      | cons J J => rfl
    rw [e1]
    have hno : rowsAt ok E vs.length = [] := by
      unfold rowsAt okTo
      rw [Bool.eq_false_iff.mpr fun q => hz (hlow.mpr q)]; rfl
    rw [hno] at h
    repeat trivial
    exact h _ (.refl _ _)
end
end
-- Base22
section
variable {c : Cx} {d : Nat} {sc : Scope} {B : Bs} {σ : Sg} {Q : AV → Sg → Prop} {N : Bs → Sg → Prop} {R : AV → Sg → Prop}

/- Many owned lists told as data at once; a dict bears them. -/
noncomputable def frzG (g : Addr → Option (List PyData)) : AV → AV
  | .ref b => match g b with
    | some xs => Li xs
    | none => .ref b
  | .flat V U => .flat (frzG g V) (frzG g U)
  | .funs V U => .funs (frzG g V) (frzG g U)
  | x => x
noncomputable def frzS (σ : Sg) (g : Addr → Option (List PyData)) (la : Addr) (kvs : List (Int × AV)) : Sg :=
  (σ.filter fun p => (g p.1).isNone).map fun p => if p.1 = la then (la, .dI (kvs.map fun q => (q.1, frzG g q.2))) else p
theorem own_frzS {g la kvs b} (h : b ∈ own (frzS σ g la kvs)) : b ∈ own σ ∧ g b = none := by
  obtain ⟨p, hp, rfl⟩ := List.mem_map.mp h
  obtain ⟨q, hq, rfl⟩ := List.mem_map.mp hp
  obtain ⟨m, n⟩ := List.mem_filter.mp hq
  have n : g q.1 = none := by simpa using n
  by_cases e : q.1 = la
  · rw [if_pos e]; exact ⟨List.mem_map.mpr ⟨q, m, e⟩, e ▸ n⟩
  · rw [if_neg e]; exact ⟨List.mem_map.mpr ⟨q, m, rfl⟩, n⟩
theorem frzG_rp {g : Addr → Option (List PyData)} {h : Heap} {S S' : List Addr} (hs : ∀ b ∈ S', b ∈ S) (hl : ∀ b xs, g b = some xs → Rp c h S' (Li xs) (.ref b)) : ∀ {x : AV} {v : Value}, Rp c h S x v → Rp c h S' (frzG g x) v
  | .dat _, _, r => r.sub hs
  | .val _, _, r => r
  | .rng _ _, _, r => r.sub hs
  | .ref b, v, r => by
    cases (show v = .ref b from r)
    unfold frzG
    cases e : g b with
    | none => exact (rfl : Value.ref b = Value.ref b)
    | some xs => exact hl b xs e
  | .flat V U, _, ⟨y, mA, vv, tv, e, ⟨dx, hx, hd, nd, ho⟩, h1, h2, h3, h4⟩ => ⟨y, mA, vv, tv, e, ⟨dx, hx, hd, fun m => nd (hs _ m), ho⟩, h1, h2, frzG_rp hs hl h3, frzG_rp hs hl h4⟩
  | .funs V U, _, ⟨y, mA, vv, tv, e, ⟨dx, hx, hd, nd, ho⟩, h1, h2, h3, h4⟩ => ⟨y, mA, vv, tv, e, ⟨dx, hx, hd, fun m => nd (hs _ m), ho⟩, h1, h2, frzG_rp hs hl h3, frzG_rp hs hl h4⟩
theorem mem_frzS {g la kvs} {p : Addr × OB} (h : p ∈ σ) (n : g p.1 = none) (ne : p.1 ≠ la) : p ∈ frzS σ g la kvs := List.mem_map.mpr ⟨p, List.mem_filter.mpr ⟨h, by rw [n]; rfl⟩, if_neg ne⟩
theorem mem_frzS_la {g la kvs ob} (h : (la, ob) ∈ σ) (n : g la = none) : (la, OB.dI (kvs.map fun q => (q.1, frzG g q.2))) ∈ frzS σ g la kvs := List.mem_map.mpr ⟨(la, ob), List.mem_filter.mpr ⟨h, by show (g la).isNone = true; rw [n]; rfl⟩, if_pos rfl⟩

theorem St.frzG {F s g la kvs} (st : St c F σ s) (hla : (la, OB.dI kvs) ∈ σ) (hg : ∀ b xs, g b = some xs → (b, OB.lst xs) ∈ σ) :
    St c F (frzS σ g la kvs) s ∧ (∀ b ∈ F ++ own (frzS σ g la kvs), b ∈ F ++ own σ) ∧ ∀ b xs, g b = some xs → Rp c s.heap (F ++ own (frzS σ g la kvs)) (Li xs) (.ref b) := by
  have sub : ∀ b ∈ F ++ own (frzS σ g la kvs), b ∈ F ++ own σ := fun b q => (List.mem_append.mp q).elim (fun q => List.mem_append_left _ q) fun q => List.mem_append_right _ (own_frzS q).1
  have hl : ∀ b xs, g b = some xs → Rp c s.heap (F ++ own (frzS σ g la kvs)) (Li xs) (.ref b) := fun b xs e => by
    obtain ⟨vs, as, ⟨n, e1⟩, ra, na⟩ := st.at_ (hg b xs e)
    refine ⟨b :: as, .list e1 rfl rfl ra rfl, fun x q z => ?_⟩
    rcases List.mem_cons.mp q with rfl | q
    · rcases List.mem_append.mp z with z | z
      · exact st.disj _ z (mem_own (hg _ xs e))
      · have := (own_frzS z).2; rw [e] at this; cases this
    · exact na x q (sub x z)
  refine ⟨{ base := st.base, gens := st.gens, os := st.os, apart := fun b q => st.apart b (sub b q), nodup := ?_, disj := fun b q z => st.disj b q (own_frzS z).1, live := st.live, holds := fun p q => ?_ }, sub, hl⟩
  · have e : own (frzS σ g la kvs) = own (σ.filter fun p => (g p.1).isNone) := by
      unfold frzS own
      rw [List.map_map]
      refine List.map_congr_left fun p J => ?_
      show (if p.1 = la then _ else _ : Addr × OB).1 = p.1
      split
      · rename_i h; exact h.symm
      · rfl
    rw [e]
    exact List.Nodup.sublist (List.Sublist.map _ List.filter_sublist) st.nodup
  · obtain ⟨q', hq', rfl⟩ := List.mem_map.mp q
    obtain ⟨m, n⟩ := List.mem_filter.mp hq'
    by_cases e : q'.1 = la
    · rw [if_pos e]
      obtain ⟨ps, hd, hp⟩ := st.at_ hla
      refine ⟨ps, hd, ?_⟩
      have : ∀ {ps : List (Int × Value)} {kv2 : List (Int × AV)}, Pr2 (fun v x => Rp c s.heap (F ++ own σ) x v) ps kv2 → Pr2 (fun v x => Rp c s.heap (F ++ own (frzS σ g la kvs)) x v) ps (kv2.map fun q => (q.1, Mine.frzG g q.2)) := by
        intro ps
        induction ps with
        | nil => intro kv2 h; cases kv2 with | nil => trivial | cons _ _ => exact h.elim
        | cons x ps ih =>
          intro kv2 h
          cases kv2 with
          | nil => exact h.elim
          | cons y kv2 => exact ⟨h.1, frzG_rp sub hl h.2.1, ih h.2.2⟩
      exact this hp
    · rw [if_neg e]
      exact (st.holds q' m).sub sub
noncomputable def FrzGB (g : Addr → Option (List PyData)) (B : Bs) : Bs → Prop
  | [] => True
  | (n, y) :: r => (∃ x, B.lookup n = some x ∧ y = frzG g x) ∧ FrzGB g B r
theorem FrzGB.at {g} : ∀ {B' : Bs}, FrzGB g B B' → ∀ n y, B'.lookup n = some y → ∃ x, B.lookup n = some x ∧ y = frzG g x
  | [], _, _, _, e => by simp at e
  | (k, z) :: r, ⟨h, b⟩, n, y, e => by
    cases q : n == k with
    | true =>
      rw [List.lookup_cons, q] at e
      cases e
      rw [eq_of_beq q]; exact h
    | false =>
      rw [List.lookup_cons, q] at e
      exact FrzGB.at b n y e
theorem ExecsP.frzG {sts : List Stmt} {la : Addr} {kvs : List (Int × AV)} (g : Addr → Option (List PyData)) (hla : (la, OB.dI kvs) ∈ σ) (hg : ∀ b xs, g b = some xs → (b, OB.lst xs) ∈ σ) (B₀ : Bs) (hB : FrzGB g B B₀)
    (h : ExecsP c d sc B₀ (frzS σ g la kvs) sts N R) : ExecsP c d sc B σ sts N R := fun A s env F rm k hF st f => by
  obtain ⟨st', sub, hl⟩ := st.frzG hla hg
  have f' : Frm c env B₀ (F ++ own (frzS σ g la kvs)) s.heap := by
    obtain ⟨mm, q, r⟩ := f.ns
    exact {
      ns := ⟨mm, q, fun n y e k => by
        obtain ⟨x, hx, rfl⟩ := hB.at n y e
        obtain ⟨v, a1, b1⟩ := r n x hx k
        exact ⟨v, a1, frzG_rp sub hl b1⟩⟩
      cell := fun n y e k => by
        obtain ⟨x, hx, rfl⟩ := hB.at n y e
        obtain ⟨a1, v, q1, r1, t1⟩ := f.cell n x hx k
        exact ⟨a1, v, q1, r1, frzG_rp sub hl t1⟩
      cells := f.cells
      cnd := f.cnd }
  have key : ∀ {B' σ' s'}, FrmPost c F env (frzS σ g la kvs) s.heap B' σ' s' → FrmPost c F env σ s.heap B' σ' s' := fun {B' σ' s'} y =>
    ⟨y.st, fun b o e n nf => y.keep b o e (fun q => n (own_frzS q).1) nf, fun b q => (y.new b q).imp (fun z => (own_frzS z).1) id, y.frm⟩
  refine wpAny_mono (h A s env F rm k hF st' f') (fun fl s' hfl => ?_) fun J J z => z
  cases fl with
  | next => obtain ⟨B', σ', y, n⟩ := hfl; exact ⟨B', σ', key y, n⟩
  | ret v => obtain ⟨x, B', σ', y, r, n⟩ := hfl; exact ⟨x, B', σ', key y, r, n⟩
  | brk => exact hfl
  | cont => exact hfl
/- One statement to what holds behind it, the rest from there. -/
theorem ExecsP.seq {s1 : Stmt} {rest : List Stmt} (P : Bs → Sg → Prop) (h1 : ExecP c d sc B σ s1 P R) (h2 : ∀ B' σ', P B' σ' → ExecsP c d sc B' σ' rest N R) : ExecsP c d sc B σ (s1 :: rest) N R :=
  .cons (h1.mono (fun B' σ' h => h2 B' σ' h) fun J J z => z)
end
-- Ins1
section
open PySem PySem.W PyProof.Rows PySem.Calls Builtin.ObjectAttr

section
variable {c : Cx} {d : Nat} {sc : Scope} {B : Bs} {σ : Sg}

theorem setAttr_inst {K : Frag} {A : Around} {s : Shared} {C x dx : Addr} {n : Str} {v : Value} {mA : Str → Option Value} {ns names : List Str} {Q : Unit → Shared → Prop} (X : K.In s.heap) (SO : StoreOK K C names) (hn : n ∈ names)
    (hx : s.heap.get? x = some (instObj C dx)) (hd : s.heap.Ns1 dx mA) (hw : Within mA ns) (hl : ns.length ≤ 10)
    (h : ∀ h' tk, h'.Ns1 dx (fun y => if y = n then some v else mA y) → (∀ b o, b ≠ dx → s.heap.get? b = some o → h'.get? b = some o) → Q () { s with heap := h', toks := tk }) : wpAny c.M A (setAttr (.ref x) n v) Q nope s := by
  obtain ⟨od, es, ep, hod, hrest⟩ := id hd
  have I : InstAt s.heap x (instObj C dx) C (some od) := ⟨hx, rfl, rfl, hod⟩
  refine set_plain X I SO.sa ?_
  refine osa_open (s := { s with toks := s.toks + 1 }) X I SO.over (SO.take n hn) fun b => ?_
  obtain ⟨cd, hc, hd'⟩ := any_some SO.dict
  refine wpAny_bind (wpAny_pure (wpAny_bind (wpAny_bind (wpAny_loadPart hx (wpAny_bind (Looks.at (looks_clsIn X hc) ?_))))))
  rw [hd']
  refine wpAny_pure (a := some dx) ?_
  show wpAny _ _ (storeInDict dx (.str n s.toks) n v) _ _ _
  unfold storeInDict newKeyGuard
  refine wpAny_bind (wpAny_pure (wpAny_bind (wpAny_nsSet1 hd fun h' hn' hs => ?_)))
  obtain ⟨oD, esD, epD, hoD, hdD, hcD⟩ := hn'.count (Within.cons n v hw)
  refine wpAny_bind (wpAny_lookBehind hoD (by rw [hdD]; exact pastItsLine_dict (Nat.le_trans hcD (by rw [List.length_cons, sizeLine_eq]; lia))) ?_)
  exact wpAny_pure (h h' _ hn' fun b o q e => (hs.2 b q).trans e)

/- An object being made: its dict is apart from all else. -/
inductive IAt (c : Cx) (h : Heap) (S : List Addr) (C x dx : Addr) (kvs : Bs) : Prop
  | mk : h.get? x = some (instObj C dx) → (mA : Str → Option Value) → h.Ns1 dx mA → (∀ n, kvs.lookup n = none → mA n = none) → (∀ n y, kvs.lookup n = some y → ∃ v, mA n = some v ∧ Rp c h S y v) → IAt c h S C x dx kvs
theorem IAt.obj {c h S C x dx kvs} (y : IAt c h S C x dx kvs) : h.get? x = some (instObj C dx) := by obtain ⟨hx, J, J, J, J⟩ := y; exact hx
theorem IAt.stays {h h' S S' C x dx kvs} (y : Stays h S h' S') (k : ∀ o, h.get? dx = some o → h'.get? dx = some o) (z : IAt c h S C x dx kvs) : IAt c h' S' C x dx kvs := by
  obtain ⟨hx, mA, h1, h2, h3⟩ := z
  exact ⟨y.keep _ _ hx (.inr notMut_inst), mA, h1.at k, h2, fun n u e => (h3 n u e).elim fun v z => ⟨v, z.1, z.2.stays y⟩⟩
structure IPost (c : Cx) (F : List Addr) (σ : Sg) (h : Heap) (C x dx : Addr) (s' : Shared) (σ' : Sg) (kvs : Bs) : Prop where
  st : St c (dx :: F) σ' s'
  keep : ∀ a o, h.get? a = some o → a ∉ own σ → a ≠ dx → s'.heap.get? a = some o
  new : ∀ a ∈ own σ', a ∈ own σ ∨ h.get? a = none
  at_ : IAt c s'.heap ((dx :: F) ++ own σ') C x dx kvs

inductive InitQ (c : Cx) (F : List Addr) (σ : Sg) (h : Heap) (C x dx : Addr) (Q : Bs → Sg → Prop) (f : Flow) (s' : Shared) : Prop
  | mk (e : f = .next) (kvs' : Bs) (σ' : Sg) : IPost c F σ h C x dx s' σ' kvs' → Q kvs' σ' → InitQ c F σ h C x dx Q f s'
noncomputable def InitP (c : Cx) (d : Nat) (sc : Scope) (B : Bs) (C x dx : Addr) (σ : Sg) (kvs : Bs) (sts : List Stmt) (Q : Bs → Sg → Prop) : Prop :=
  ∀ (A : Around) (s : Shared) (env : Env) (F : List Addr), Room d A → EnvOK sc env → (∀ a ∈ fenv env, a ∈ F) → dx ∉ F → St c (dx :: F) σ s → Frm c env B ((dx :: F) ++ own σ) s.heap → IAt c s.heap ((dx :: F) ++ own σ) C x dx kvs →
    wpAny c.M A (execs sts env) (InitQ c F σ s.heap C x dx Q) nope s

variable {C x dx : Addr} {kvs : Bs} {Q : Bs → Sg → Prop}
theorem InitP.nil (h : Q kvs σ) : InitP c d sc B C x dx σ kvs [] Q := fun A s env F rm ke hF nd st f ia => by
  rw [execs_nil]
  exact wpAny_pure ⟨rfl, kvs, σ, ⟨st, fun a o e J J => e, fun a m => .inl m, ia⟩, h⟩

/- The dict of the object is another; all else stands. -/
theorem St.dict {F s h'} {tk : Nat} (st : St c (dx :: F) σ s) (kp : ∀ b o, b ≠ dx → s.heap.get? b = some o → h'.get? b = some o) (hm : MutAt h' dx) :
    St c (dx :: F) σ { s with heap := h', toks := tk } ∧ Stays s.heap ((dx :: F) ++ own σ) h' ((dx :: F) ++ own σ) :=
  st.move (s' := { s with heap := h', toks := tk }) [dx] (fun a m => List.mem_singleton.mp m ▸ .head _) (fun a o n => kp a o fun z => n (z ▸ .head _)) (fun a m J => List.mem_singleton.mp m ▸ hm) fun J m => .inl m

/- One more field. -/
theorem IPost.store {A : Around} {F : List Addr} {h : Heap} {s₂ : Shared} {σ' : Sg} {kvs' : Bs} {K : Frag} {names : List Str} {n : Str} {y : AV} {v : Value} {Q : Unit → Shared → Prop} (XK : K.In c.h0) (SO : StoreOK K C names) (hn : n ∈ names) (hl : kvs'.length ≤ 9)
    (ip : IPost c F σ h C x dx s₂ σ' kvs') (r : Rp c s₂.heap ((dx :: F) ++ own σ') y v)
    (hq : ∀ h' tk, IPost c F σ h C x dx { s₂ with heap := h', toks := tk } σ' ((n, y) :: kvs') → (∀ b o, b ≠ dx → s₂.heap.get? b = some o → h'.get? b = some o) → Q () { s₂ with heap := h', toks := tk }) : wpAny c.M A (setAttr (.ref x) n v) Q nope s₂ := by
  obtain ⟨hx, mA, hns, hno, hyes⟩ := ip.at_
  have hw : Within mA (kvs'.map (·.1)) := fun y q => by
    cases z : kvs'.lookup y with
    | none => exact absurd (hno y z) q
    | some u => exact List.mem_map.mpr ⟨_, mem_of_lookup z, rfl⟩
  refine setAttr_inst (XK.keeps ip.st.base) SO hn hx hns hw (by rw [List.length_map]; lia) fun h' tk hn' kp => ?_
  have hm : MutAt h' dx := by
    obtain ⟨o, es, ep, e1, e2, J⟩ := hn'
    exact mutD e1 e2
  obtain ⟨st₃, sty⟩ := ip.st.dict (tk := tk) kp hm
  have xd : x ≠ dx := fun q => by
    obtain ⟨o, es, ep, e1, e2, J⟩ := hns
    rw [← get_inj hx q e1] at e2; cases e2
  refine hq h' tk ⟨st₃, fun a o e na nx => kp a o nx (ip.keep a o e na nx), ip.new, kp _ _ xd hx, _, hn', fun u q => ?_, fun u z q => (lk_split q).elim (fun q => ⟨v, if_pos q.1, q.2 ▸ r.stays sty⟩) fun q => (hyes u z q.2).elim fun w t => ⟨w, (if_neg q.1).trans t.1, t.2.stays sty⟩⟩ kp
  rw [List.lookup_cons] at q
  cases k : u == n with
  | true => rw [k] at q; cases q
  | false => rw [k] at q; exact (if_neg (fun e => by rw [e, beq_self_eq_true] at k; cases k)).trans (hno u q)

inductive SetQ (c : Cx) (d : Nat) (sc : Scope) (B : Bs) (F : List Addr) (env : Env) (σ : Sg) (h : Heap) (C x dx : Addr) (kvs : Bs) (n : Str) (rest : List Stmt) (Q : Bs → Sg → Prop) (fl : Flow) (s' : Shared) : Prop
  | mk (e : fl = .next) (y : AV) (σ₁ : Sg) : IPost c F σ h C x dx s' σ₁ ((n, y) :: kvs) → Frm c env B ((dx :: F) ++ own σ₁) s'.heap → InitP c d sc B C x dx σ₁ ((n, y) :: kvs) rest Q → SetQ c d sc B F env σ h C x dx kvs n rest Q fl s'
theorem InitP.set {K : Frag} {names : List Str} {n : Str} {e : Expr} {p p' pos : Pos} {rest : List Stmt} (XK : K.In c.h0) (SO : StoreOK K C names) (hn : n ∈ names) (hl : kvs.length ≤ 9)
    (hB : B.lookup ("self" : Str) = some (.ref x)) (hk : (sc.names.lookup ("self" : Str) == some .local) = true)
    (h : EvalP c d sc B σ e fun y σ₁ => InitP c d sc B C x dx σ₁ ((n, y) :: kvs) rest Q) (hsw : swapsWith e (some (.Attribute (.Name ("self" : Str) p) n p')) pos.line { (default : Env) with scope := sc } = pure false) :
    InitP c d sc B C x dx σ kvs (.Assign [.Attribute (.Name ("self" : Str) p) n p'] e pos :: rest) Q := fun A s env F rm ke hF nd st f ia => by
  have hsw' : swapsWith e (some (.Attribute (.Name ("self" : Str) p) n p')) pos.line env = pure false := by
    have : swapsWith e (some (.Attribute (.Name ("self" : Str) p) n p')) pos.line env = swapsWith e (some (.Attribute (.Name ("self" : Str) p) n p')) pos.line { (default : Env) with scope := env.scope } := rfl
    rw [this, ke.scope]; exact hsw
  have hF' : ∀ a ∈ fenv env, a ∈ dx :: F := fun a m => .tail _ (hF a m)
  have key : wpAny c.M A (exec (.Assign [.Attribute (.Name ("self" : Str) p) n p'] e pos) env) (SetQ c d sc B F env σ s.heap C x dx kvs n rest Q) nope s := by
    refine plainObj_wpAny_Assign_Attribute ?_ hsw'
    refine wpAny_mono (h A s env (dx :: F) rm ke hF' st f) (fun v s₁ h₁ => ?_) fun J J z => z
    obtain ⟨y, σ₁, st₁, e₁, r₁, h₁⟩ := h₁
    have f₁ := f.evo st e₁ hF'
    have ndx : dx ∉ own σ := st.disj dx (.head _)
    have ia₁ := ia.stays (st.stays e₁) (fun o q => e₁.keep _ o q ndx)
    refine wpAny_mono (EvalP.loc (Q := fun z σ' => z = .ref x ∧ σ' = σ₁) (d := d) hB ⟨rfl, rfl⟩ (by rw [Bool.or_assoc, hk]; rfl) (by kernel_rfl!) A s₁ env (dx :: F) rm ke hF' st₁ f₁) (fun w s₂ h₂ => ?_) fun J J z => z
    obtain ⟨z, σ₂, st₂, e₂, r₂, rfl, rfl⟩ := h₂
    have r₂' : w = .ref x := r₂
    subst r₂'
    have f₂ := f₁.evo st₁ e₂ hF'
    have ia₂ := ia₁.stays (st₁.stays e₂) (fun o q => e₂.keep _ o q (st₁.disj dx (.head _)))
    have ev := e₁.trans e₂
    refine IPost.store (A := A) XK SO hn hl (F := F) (σ := σ) (h := s.heap) ⟨st₂, fun a o e na J => ev.keep a o e na, ev.new, ia₂⟩ (r₁.stays (st₁.stays e₂)) fun h' tk ip kp => ?_
    exact ⟨rfl, y, σ₂, ip, f₂.move (st₂.dict (tk := tk) kp (ip.st.live dx (.head _))).2 fun a m o => kp a o fun z => nd (z ▸ hF a m), h₁⟩
  rw [execs_cons]
  refine wpAny_bind (wpAny_mono key (fun fl s' z => ?_) fun J J z => z)
  obtain ⟨rfl, y, σ₁, ip, fr, hI⟩ := z
  refine wpAny_mono (hI A s' env F rm ke hF nd ip.st fr ip.at_) (fun fl s'' z => ?_) fun J J z => z
  obtain ⟨rfl, kvs', σ', jp, q⟩ := z
  refine ⟨rfl, kvs', σ', ⟨jp.st, fun a o e na nx => jp.keep a o (ip.keep a o e na nx) (fun m => (ip.new a m).elim na (nsn e)) nx, fun a m => (jp.new a m).elim (ip.new a) (absent fun o e hm => ?_), jp.at_⟩, q⟩
  exact ⟨o, ip.keep a o e hm fun hx => jp.st.disj dx (.head _) (hx ▸ m)⟩

theorem IPost.less {F F' : List Addr} {h s' σ' kvs'} (y : IPost c F' σ h C x dx s' σ' kvs') (hs : ∀ a ∈ F, a ∈ F') : IPost c F σ h C x dx s' σ' kvs' := by
  have sb : ∀ a ∈ dx :: F, a ∈ dx :: F' := forall_cons (.head _) fun a m => .tail _ (hs a m)
  exact ⟨y.st.less sb, y.keep, y.new, y.at_.stays ⟨fun J J e J => e, forall_app (fun a m => .inl (List.mem_append_left _ (sb a m))) fun a m => .inl (List.mem_append_right _ m)⟩ fun J e => e⟩
theorem IPost.from {F : List Addr} {h h₁ : Heap} {s' σ' kvs'} (y : IPost c F σ h₁ C x dx s' σ' kvs') (k : ∀ a o, h.get? a = some o → h₁.get? a = some o) : IPost c F σ h C x dx s' σ' kvs' :=
  ⟨y.st, fun a o e => y.keep a o (k a o e), fun a m => (y.new a m).elim .inl (absent fun o e J => ⟨o, k a o e⟩), y.at_⟩

/- A plain def that makes an object ready is called. -/
theorem call_init {fI : Addr} {P : Arguments} {body : List Stmt} {A : Around} {s : Shared} {F : List Addr} {R : Result → Shared → Prop} (lim : c.h0.NoLimit) (T : FnAt c fI P body sc) (hb : BindsP P 1) (hP : P.args.map (·.arg) = [("self" : Str)])
    (rm : Room (d + 1) A) (nd : dx ∉ F) (st : St c (dx :: F) σ s) (ia : IAt c s.heap ((dx :: F) ++ own σ) C x dx kvs) (h : InitP c d sc [("self", .ref x)] C x dx σ kvs body Q)
    (hR : ∀ s' kvs' σ', IPost c F σ s.heap C x dx s' σ' kvs' → Q kvs' σ' → R (.ok (.ret .none)) s')
    (hks : autoParam ((sc.names.lookup ("self" : Str) == some .local) = true) trT)
    (hk : autoParam (sc.kind = .function) krT) (hco : autoParam (sc.isCoroutine = false) flT) (hgen : autoParam (sc.isGenerator = false) flT) : codeAny c.M A (.call (.ref fI) ⟨[.ref x], []⟩) R s := by
  obtain ⟨oc, od, osl, name, qual, doc, pm, an, cdv, ct, ho, hcd⟩ := T.at_
  have hcs : ∀ n, sc.names.lookup n = some .cell → ((cellsFrom (s.heap.objs.size + 1) sc.names []).lookup n).isSome = true := fun n e => cellsFrom_some _ _ _ _ (.inl e)
  have hz : (P.args.map (·.arg)).zip [Value.ref x] = [(("self" : Str), Value.ref x)] := by rw [hP]; rfl
  refine codeAny_call_cells (fd := fnOf name qual P body sc .none .none doc pm an cdv ct) (body := body) (vals := [.ref x]) rm.rl (st.base _ _ ho) rfl (lim.keeps st.base) (hcd.keeps st.base) rfl
    (hb body sc name qual doc pm an cdv ct [.ref x] rfl) rfl (fun y hy => ?_) (fun s₁ x' => ?_) hco hgen hk
  · rw [hz] at hy
    cases hy with
    | head => exact .inl (eq_of_beq hks)
    | tail J q => cases q
  · generalize henv : callEnvC (fnOf name qual P body sc .none .none doc pm an cdv ct) s.heap.objs.size fI = env at x' ⊢
    have hsc : env.scope = sc := by rw [← henv]; rfl
    have hL : env.locals = s.heap.objs.size := by rw [← henv]; rfl
    have ke : EnvOK sc env := ⟨hsc, hk, by rw [← henv]; rfl, by rw [← henv]; rfl, fun n e => by rw [← henv]; exact hcs n e, fun J => by rw [← henv]; rfl⟩
    obtain ⟨h₁, tk, rfl⟩ := x'.toInCall.same
    have kp := x'.toInCall.keep
    have fresh : ∀ a ∈ fenv env, s.heap.objs.size ≤ a := fun a m => by
      rcases fenv_cases m with rfl | ⟨n, m⟩
      · rw [hL]; exact Nat.le_refl _
      · have := x'.above n a (mem_of_lookup m)
        rw [hL] at this; exact Nat.le_of_lt this
    have none_ : ∀ a ∈ fenv env, s.heap.get? a = none := fun a m => Option.eq_none_iff_forall_ne_some.mpr fun o e => Nat.not_lt.mpr (fresh a m) (Heap.lt_size e)
    have lv : ∀ a ∈ fenv env, MutAt h₁ a := fun a m => (fenv_cases m).elim (fun z => by
        obtain ⟨o, es, ep, e1, e2, J⟩ := x'.toInCall.ns
        exact z ▸ mutD e1 e2) fun z => z.elim fun n m => (x'.cell n a m).elim fun o z => ⟨o, z.1, .inr (.inr (.inl ⟨_, z.2⟩))⟩
    have ndf : dx ∉ fenv env := fun m => (st.fresh (none_ dx m)).1 (.head _)
    obtain ⟨st₁, sty⟩ := st.move (F' := dx :: (fenv env ++ F)) (s' := { s with heap := h₁, toks := tk }) [] (fun J m => nomatch m) (fun a o J => kp a o) (fun J m => nomatch m) (forall_cons (.inl (.head _)) (forall_app (fun a m => .inr ⟨none_ a m, lv a m⟩) fun a m => .inl (.tail _ m)))
    have hki : env.kindOf ("self" : Str) = some .local := (ke.ki _).trans (eq_of_beq hks)
    have f : Frm c env [("self", .ref x)] ((dx :: (fenv env ++ F)) ++ own σ) h₁ := {
      ns := ⟨_, x'.toInCall.ns, fun n y e k => by
        rw [List.lookup_cons] at e
        cases q : n == ("self" : Str) with
        | false => rw [q] at e; cases e
        | true =>
          rw [q] at e; cases e
          refine ⟨.ref x, ?_, rfl⟩
          rw [hz, eq_of_beq q]
          show bindL _ _ _ _ = _
          unfold bindL
          rw [if_pos hki]
          first | rfl | simp [bindL]⟩
      cell := fun n y e k => by
        rw [List.lookup_cons] at e
        cases q : n == ("self" : Str) with
        | false => rw [q] at e; cases e
        | true =>
          rw [eq_of_beq q, hki] at k
          rcases k with k | k <;> cases k
      cells := fun n a e => ⟨_, x'.cell n a e⟩
      cnd := fun n m a e e' => name_of_addr x'.apart (mem_of_lookup e) (mem_of_lookup e') }
    refine wpAny_mono (h (A.deeper env) _ env (fenv env ++ F) (rm.deeper env) ke (fun a m => List.mem_append_left _ m) (fun m => (List.mem_append.mp m).elim ndf nd) st₁ f (ia.stays sty fun o e => kp _ o e)) (fun fl s₂ h₂ => ?_) fun J J z => z.elim
    obtain ⟨rfl, kvs', σ', ip, q⟩ := h₂
    exact hR _ _ _ ((ip.less fun a m => List.mem_append_right _ m).from kp) q

/- An object is made and made ready; what R wants is told of it. -/
theorem make_inst {K : Frag} {A : Around} {s : Shared} {F : List Addr} {init : Addr} {R : Result → Shared → Prop} (XK : K.In c.h0) (hm : makesIn K C = true) (hi : findIn K (.ref C) "__init__" = some (some (.ref init))) (hf : typeIn K (.ref init) = some (.type "function"))
    (st : St c F σ s)
    (h : ∀ x dx h', dx ∉ F → dx ∉ own σ → s.heap.get? dx = none → (∀ a o, s.heap.get? a = some o → h'.get? a = some o) → St c (dx :: F) σ { s with heap := h' } → IAt c h' ((dx :: F) ++ own σ) C x dx [] →
      codeAny c.M (A.under (.builtin "type.__call__" ⟨[.ref C], []⟩)) (.call (.ref init) ⟨[.ref x], []⟩) (InitBack x R) { s with heap := h' }) :
    codeAny c.M A (.call (.ref C) ⟨[], []⟩) R s := by
  obtain ⟨hh, g, dr, t, os⟩ := s
  have X : K.In hh := XK.keeps st.base
  refine make_core (makes_of X hm) (looks_findIn X hi) (fun self => bind_fn X self hf) (.inl rfl) ?_
  have kp : ∀ a o, hh.get? a = some o → ((hh.push emptyDict).push (instObj C hh.objs.size)).get? a = some o := fun a o e => Heap.get?_push_of_some _ (Heap.get?_push_of_some _ e)
  have hx : ((hh.push emptyDict).push (instObj C hh.objs.size)).get? (hh.objs.size + 1) = some (instObj C hh.objs.size) := by heap_get
  have hd : ((hh.push emptyDict).push (instObj C hh.objs.size)).get? hh.objs.size = some emptyDict := Heap.get?_push_of_some _ (Heap.get?_push_at rfl rfl)
  have hno : hh.get? hh.objs.size = none := Heap.get?_none_of_le (Nat.le_refl _)
  have n12 := st.fresh (a := hh.objs.size) hno
  refine h (hh.objs.size + 1) hh.objs.size _ n12.1 n12.2.1 hno kp (st.more (tk := t) hno kp ⟨_, hd, .inr (.inl ⟨_, _, rfl⟩)⟩) ⟨hx, fun J => none, ?_, fun J J => rfl, fun n y e => by cases e⟩
  exact Heap.Ns1.of_empty ⟨_, #[], _, hd, rfl, fun e he => absurd he (by simp), fun J => rfl⟩
end
end
-- Ins2
section
open PySem PySem.W PyProof.Rows PySem.Calls Builtin.ObjectAttr

section
variable {c : Cx} {d : Nat} {sc : Scope} {B : Bs} {σ : Sg} {K : Frag} {fF fG fT cc cda : Addr}

theorem KeepOK.cls {C : Addr} (X : K.In c.h0) (hk : keepIn K (.ref C) = true) : KeepOK c (.ref C) := fun h S v k r => by
  have r' : v = .ref C := r
  subst r'
  exact keeps_K hk h (X.keeps k)
theorem room_under {A : Around} {C : Addr} (r : Room (d + 1) A) : Room d (A.under (.builtin "type.__call__" ⟨[.ref C], []⟩)) := by
  have hw : (Code.builtin "type.__call__" ⟨[.ref C], []⟩).weight = 1 := by kernel_rfl
  have hu : (Code.builtin "type.__call__" ⟨[.ref C], []⟩).cUnits = 1 := by kernel_rfl
  refine ⟨r.handled, ?_, ?_⟩
  · have := r.depth
    show A.depth + (Code.builtin "type.__call__" ⟨[.ref C], []⟩).weight + 8 * d < 900
    lia
  · have := r.units
    show A.units + (Code.builtin "type.__call__" ⟨[.ref C], []⟩).cUnits + 100 * d < 9000
    lia

variable {C x dx : Addr} {kvs : Bs}
inductive INow (c : Cx) (F : List Addr) (C x : Addr) (names : List Str) (s' : Shared) (σ' : Sg) (kvs' : Bs) : Prop
  | mk (st : St c F σ' s') (mA : Str → Option Value) : InstOf s'.heap (F ++ own σ') C x names mA → (∀ n u, kvs'.lookup n = some u → ∃ v, mA n = some v ∧ Rp c s'.heap (F ++ own σ') u v) → INow c F C x names s' σ' kvs'
theorem IPost.inst {F : List Addr} {h s' σ' kvs'} {names : List Str} (y : IPost c F σ h C x dx s' σ' kvs') (nd : dx ∉ F) (hn : ∀ n, n ∉ names → kvs'.lookup n = none) :
    INow c F C x names s' σ' kvs' := by
  obtain ⟨hx, mA, h1, h2, h3⟩ := y.at_
  have sb : ∀ a ∈ F ++ own σ', a ∈ (dx :: F) ++ own σ' := fun a m => (List.mem_append.mp m).elim (fun m => List.mem_append_left _ (.tail _ m)) fun m => List.mem_append_right _ m
  exact ⟨y.st.less fun a m => .tail _ m, mA, ⟨dx, hx, h1, fun m => (List.mem_append.mp m).elim nd (y.st.disj dx (.head _)), fun n m => h2 n (hn n m)⟩, fun n u e => (h3 n u e).elim fun v z => ⟨v, z.1, z.2.sub sb⟩⟩

theorem lookup_none {kvs : Bs} {names : List Str} (h : ((kvs.map (·.1)).all fun n => decide (n ∈ names)) = true) : ∀ n, n ∉ names → kvs.lookup n = none := fun n m => by
  cases e : kvs.lookup n with
  | none => rfl
  | some y => exact absurd (of_decide_eq_true (List.all_eq_true.mp h n (List.mem_map.mpr ⟨_, mem_of_lookup e, rfl⟩))) m

inductive NewFl (σ : Sg) (kvs' : Bs) (σ' : Sg) : Prop
  | mk (va ta : Addr) : va ≠ ta → va ∉ own σ → ta ∉ own σ → kvs' = ([("shown", Tu []), ("goal", Tu [.str "satisfy", .none]), ("tolds", .ref ta), ("vars", .ref va)] : Bs) → σ' = (ta, .lst []) :: (va, .lst []) :: σ → NewFl σ kvs' σ'
inductive NewFn (σ : Sg) (kvs' : Bs) (σ' : Sg) : Prop
  | mk (va ta ma : Addr) : va ≠ ta → va ≠ ma → ta ≠ ma → va ∉ own σ → ta ∉ own σ → ma ∉ own σ → kvs' = ([("partial", .dat .none), ("made", .ref ma), ("flat", .flat (.ref va) (.ref ta))] : Bs) → σ' = (ma, .dT []) :: (ta, .lst []) :: (va, .lst []) :: σ → NewFn σ kvs' σ'
/- A new Flat. -/
theorem CallP.newFlat {Q : AV → Sg → Prop} (N : NewK c K fF fG fT cc cda) (h : ∀ va ta, va ≠ ta → va ∉ own σ → ta ∉ own σ → Q (.flat (.ref va) (.ref ta)) ((ta, .lst []) :: (va, .lst []) :: σ)) : CallP c (d + 3) (.ref c.cFlat) [] σ Q := fun A s F vs rm st rp => by
  obtain ⟨fv, rfl, rp1⟩ := rpAll_one rp
  obtain rfl : fv = .ref c.cFlat := rp1
  show wpAny _ _ (call (.ref c.cFlat) []) _ _ _
  refine wpAny_call (make_inst N.inn N.mkT N.inT N.tyT st fun x dx h' n1 n2 n3 kp st' ia => ?_)
  refine call_init (Q := NewFl σ)
    N.lim N.fnT (.b1 (by intros; rfl)) rfl (d := d + 1) (room_under rm) n1 st' ia ?_ (fun s' kvs' σ' ip q => ?_) (by kernel_rfl!) rfl rfl rfl
  · show InitP _ _ _ _ _ _ _ _ _ (.Assign _ _ _ :: _) _
    refine InitP.set N.inn N.stT (by decide +kernel) (Nat.le_of_ble_eq_true rfl) rfl (by kernel_rfl!) ?_ (by with_unfolding_all rfl)
    refine EvalP.list0 fun va hva => ?_
    refine InitP.set N.inn N.stT (by decide +kernel) (Nat.le_of_ble_eq_true rfl) rfl (by kernel_rfl!) ?_ (by with_unfolding_all rfl)
    refine EvalP.list0 fun ta hta => ?_
    refine InitP.set N.inn N.stT (by decide +kernel) (Nat.le_of_ble_eq_true rfl) rfl (by kernel_rfl!) ?_ (by with_unfolding_all rfl)
    refine EvalP.tuple (EvalsP.cons (EvalP.str (EvalsP.cons (EvalP.none (EvalsP.nil ⟨[.str "satisfy", .none], rfl, by decide, ?_⟩)) rfl)) rfl)
    refine InitP.set N.inn N.stT (by decide +kernel) (Nat.le_of_ble_eq_true rfl) rfl (by kernel_rfl!) ?_ (by with_unfolding_all rfl)
    refine EvalP.tuple (EvalsP.nil ⟨[], rfl, by decide, ?_⟩)
    refine InitP.nil ⟨va, ta, fun e => hta (e ▸ List.mem_cons_self ..), hva, fun m => hta (.tail _ m), rfl, rfl⟩
  · obtain ⟨va, ta, q1, q2, q3, rfl, rfl⟩ := q
    obtain ⟨st₂, mA, hi, hv⟩ := ip.inst (names := flatNames) n1 (lookup_none (by kernel_rfl))
    obtain ⟨vv, a1, b1⟩ := hv "vars" (.ref va) (by kernel_rfl)
    obtain ⟨tv, a2, b2⟩ := hv "tolds" (.ref ta) (by kernel_rfl)
    exact ⟨rfl, .flat (.ref va) (.ref ta), _, st₂, ⟨fun a o e n => ip.keep a o (kp a o e) n (ne_of e n3), (ip.from kp).new⟩, ⟨x, mA, vv, tv, rfl, hi, a1, a2, b1, b2⟩, h va ta q1 q2 q3⟩

theorem evalP_newFlat {Q : AV → Sg → Prop} {p pos} (N : NewK c K fF fG fT cc cda) (h : ∀ va ta, va ≠ ta → va ∉ own σ → ta ∉ own σ → Q (.flat (.ref va) (.ref ta)) ((ta, .lst []) :: (va, .lst []) :: σ))
    (hk : autoParam ((sc.names.lookup ("Flat" : Str) == some .globalImplicit) = true) trT) : EvalP c (d + 3) sc B σ (.Call (.Name "Flat" p) [] [] pos) Q := by
  obtain ⟨mg, mb, hg, hb, h1, J⟩ := N.glob
  exact EvalP.call (evalP_glob (x := .ref c.cFlat) ⟨mg, mb, hg, hb, _, .inl h1, fun J J J => rfl⟩ ⟨KeepOK.cls N.inn N.kpT, EvalsP.nil (CallP.newFlat N h)⟩ hk (by kernel_rfl!)) rfl

/- The things' own __init__: super().__init__(), then one field more. -/
theorem wpAtAb {α : Type} {M : Model} {A : Around} {k : _} {t : Sem α} {Q : α → Shared → Prop} {E s} (h : ∀ Q' : α → Shared → Prop, (∀ v s, Q v s → Q' v s) → _root_.PySem.wpAt M A k t Q' E s) : _root_.PySem.wpAt M A k t Q E s := h Q fun J J x => x
set_option tactic.hygienic true in
theorem funs_init {A : Around} {s : Shared} {F : List Addr} {R : Result → Shared → Prop} {Q : Bs → Sg → Prop} (N : NewK c K fF fG fT cc cda) (rm : Room (d + 2) A) (nd : dx ∉ F) (st : St c (dx :: F) σ s) (ia : IAt c s.heap ((dx :: F) ++ own σ) c.cFun x dx [])
    (h : InitP c d (fScope (inS 24 0)) [("self", .ref x)] c.cFun x dx σ [] (fBody (inS 24 0)) fun kvs' σ' => kvs'.length ≤ 8 ∧ Q (("partial", .dat .none) :: kvs') σ')
    (hR : ∀ s' kvs' σ', IPost c F σ s.heap c.cFun x dx s' σ' kvs' → Q kvs' σ' → R (.ok (.ret .none)) s') : codeAny c.M A (.call (.ref fF) ⟨[.ref x], []⟩) R s := by
  obtain ⟨oc, od, osl, name, qual, doc, pm, an, ct, ho, hcd⟩ := N.clo
  have hno : s.heap.get? s.heap.objs.size = none := Heap.get?_none_of_le (Nat.le_refl _)
  refine ks_codeAny_call_defAt (fd := ksFn name qual (fArgs (inS 25 0)) (fBody (inS 25 0)) (fScope (inS 25 0)) .none .none doc pm an (.ref cda) ct cc) (body := fBody (inS 25 0)) (binds := [(("self" : Str), .ref x)]) rm.rl (st.base _ _ ho) rfl (N.lim.keeps st.base) (hcd.keeps st.base) rfl
    (.of_eq (by intros; rfl)) (show ∀ x ∈ (fScope (inS 25 0)).names, x.2 ≠ .cell by decide +kernel) (fun y hy => ?_) (fun h₀ hns kp => ?_) rfl rfl rfl
  · cases hy with
    | head => show (fScope (inS 25 0)).names.lookup ("self" : Str) = some .local; decide +kernel
    | tail J q => cases q
  have hL : MutAt h₀ s.heap.objs.size := by
    obtain ⟨o, es, ep, e1, e2, J⟩ := hns
    exact mutD e1 e2
  have ndL : dx ≠ s.heap.objs.size := fun e => (st.fresh hno).1 (e ▸ .head _)
  obtain ⟨st₁, sty⟩ := st.move (F' := dx :: s.heap.objs.size :: F) (s' := { s with heap := h₀, toks := s.toks + 1 }) [] (fun J m => nomatch m) (fun a o J => kp a o) (fun J m => nomatch m) (forall_cons (.inl (.head _)) (forall_cons (.inr ⟨hno, hL⟩) fun a m => .inl (.tail _ m)))
  have nd₁ : dx ∉ s.heap.objs.size :: F := fun m => (List.mem_cons.mp m).elim ndL nd
  have ia₁ : IAt c h₀ ((dx :: s.heap.objs.size :: F) ++ own σ) c.cFun x dx [] := ia.stays sty fun o e => kp _ o e
  generalize hLL : s.heap.objs.size = L at *
  have hbody : fBody (inS 25 0) = [.Expr (.Call (.Attribute (.Call (.Name "super" ⟨194, 8, 194, 13⟩) [] [] ⟨194, 8, 194, 15⟩) "__init__" ⟨194, 8, 194, 24⟩) [] [] ⟨194, 8, 194, 26⟩) ⟨194, 8, 194, 26⟩,
    .Assign [.Attribute (.Name "self" ⟨195, 8, 195, 12⟩) "partial" ⟨195, 8, 195, 20⟩] (.Constant .none 0 ⟨195, 23, 195, 27⟩) ⟨195, 8, 195, 27⟩] := by with_unfolding_all rfl
  rw [hbody] at ho ⊢
  obtain ⟨oco, vs, hco, hcv, file, tf, hfl, hfile⟩ := N.code
  obtain ⟨oce, hce, hcd2⟩ := N.cell
  obtain ⟨cd, hcls⟩ := N.cls
  obtain ⟨mg, mb, hg, hb, g1, g2, g3, g4⟩ := N.glob
  have X : K.In h₀ := N.inn.keeps st₁.base
  obtain ⟨oD, hD1, hD2⟩ : ∃ oD, h₀.get? c.cFun = some oD ∧ oD.data = .cls cd := by
    unfold clsIn at hcls
    split at hcls
    · rename_i c d cd' sl ho
      cases hcls
      exact ⟨_, X _ _ ho, rfl⟩
    · cases hcls
  have b1 := st₁.base
  refine ks_wpAt_execs_cons (wpAtAb fun Q' hQ => ks_wpAt_Expr_any (ks_wpAt_MethodCall (ks_wpAt_super_base (f := fF) (cc := cda) (by show (fScope (inS 25 0)).names.lookup ("super" : Str) = _; decide +kernel) (by show (fScope (inS 25 0)).names.lookup ("__class__" : Str) = _; decide +kernel) (by kernel_rfl!) rfl (b1 _ _ ho) rfl
    (ar := (fArgs (inS 25 0)).args.headD default) (by with_unfolding_all rfl) rfl (b1 _ _ hco) hcv hfl hfile N.ctop ?_) (by rfl)) (by rfl) (by rfl))
  refine ks_loadName_global rfl (by show (fScope (inS 25 0)).names.lookup ("super" : Str) = _; decide +kernel) (loadGlobal_builtin (hg.keeps b1) g3 (hb.keeps b1) g4 ⟨rfl, ?_⟩)
  refine wpAny_loadName_free rfl (by show (fScope (inS 25 0)).names.lookup ("__class__" : Str) = _; decide +kernel) rfl ⟨_, b1 _ _ hce, hcd2⟩ ?_
  refine wpAny_loadName_local rfl (by show (fScope (inS 25 0)).names.lookup ("self" : Str) = _; decide +kernel) hns rfl ?_
  refine ks_wpAny_isType_cls hD1 hD2 ⟨rfl, ?_⟩
  refine ks_wpAny_call_super hD1 hD2 ia₁.obj rfl (fun c e => by cases e) (looks_mroIn X N.sub) (fun h' e k => ?_)
  have hm := N.sup
  unfold ks_superIn at hm
  rw [hcls, Option.bind_some] at hm
  obtain ⟨of, hof, hofc⟩ := N.fnGc
  have X' : K.In h' := X.keeps k
  have hxC : x ≠ c.cFun := fun q => by
    rw [← get_inj ia₁.obj q hD1] at hD2; cases hD2
  refine ks_wpAny_getMethod_super e (looks_opaque X' N.opq) (l₀ := cd.mro) (fun A Q E s k q => wpAny_bind ((looks_clsIn X' hcls) A _ E s k (wpAny_pure q))) rfl X' hm (k _ _ (b1 _ _ hof)) hofc hxC (by kernel_rfl!) ?_
  obtain ⟨ocG, odG, oslG, nameG, qualG, docG, pmG, anG, cdvG, ctG, hG, hcdG⟩ := N.fnG.at_
  have k2 : ∀ a o, h₀.get? a = some o → (h'.push { cls := .type "method", data := .fields #[.ref fG, .ref x] }).get? a = some o := fun a o e => Heap.get?_push_of_some _ (k a o e)
  have hM : (h'.push { cls := .type "method", data := .fields #[.ref fG, .ref x] }).get? h'.objs.size = some { cls := .type "method", dict := none, data := .fields #[.ref fG, .ref x], slots := #[] } := Heap.get?_push_at rfl rfl
  refine callWith_of (P := fun h => h.get? h'.objs.size = some { cls := .type "method", dict := none, data := .fields #[.ref fG, .ref x], slots := #[] } ∧ h.get? fG = some ⟨ocG, odG, .func (fnOf nameG qualG (fArgs (inS 24 0)) (fBody (inS 24 0)) (fScope (inS 24 0)) .none .none docG pmG anG cdvG ctG), oslG⟩) rfl
    (fun hh ⟨y1, y2⟩ => ⟨.boundFrame, .inr (.inr rfl), (Looks.ld (part := none) y1).andThen ((Looks.ld (part := none) y2).andThen .now)⟩) ?_
  have st₂ : St c (dx :: L :: F) σ { s with heap := h'.push { cls := .type "method", data := .fields #[.ref fG, .ref x] }, toks := s.toks + 1 + 1 } := st₁.on (tk := s.toks + 1 + 1) k2
  refine (evalArgs_nil3 ⟨⟨hM, k2 _ _ (b1 _ _ hG)⟩, ?_⟩)
  refine wpAny_call (ks_codeAny_call_bound hM ?_)
  have ia₂ : IAt c (h'.push { cls := .type "method", data := .fields #[.ref fG, .ref x] }) ((dx :: L :: F) ++ own σ) c.cFun x dx [] := ia₁.stays ⟨fun a o e J => k2 a o e, fun J m => .inl m⟩ fun o e => k2 _ o e
  refine call_init N.lim N.fnG (.b1 (by intros; rfl)) rfl (rm.deeper _) nd₁ st₂ ia₂ h (fun s' kvs' σ' ip q => ?_) (by kernel_rfl!) rfl rfl rfl
  obtain ⟨hlen, q⟩ := q
  refine hQ _ _ ?_
  show _root_.PySem.wpAt _ _ _ _ _ _ _
  refine ks_wpAt_execs_cons (ks_wpAt_Assign_Attr (_root_.PySem.wpAt_of_wpAny (wpAny_Constant_none ?_)) (by rfl))
  have hnL : s'.heap.Ns L fun y => List.lookup y [(("self" : Str), Value.ref x)].reverse := hns.at' fun o e => ip.keep L o (k2 _ o e) (st₂.disj L (.tail _ (.head _))) (fun q => ndL q.symm)
  refine wpAny_Name (wpAny_loadName_local rfl (by show (fScope (inS 25 0)).names.lookup ("self" : Str) = _; decide +kernel) hnL rfl ?_) (by kernel_rfl!)
  refine wpAny_mono (IPost.store (n := "partial") (y := .dat .none) (v := .none) N.inn N.stF (by decide +kernel) (Nat.le_trans hlen (by decide)) ip rp_none fun h3 tk ip3 k3 => ?_) (fun J J z => z) fun J J z => z.elim
  refine _root_.PySem.wpAt_of_wpAny ?_
  rw [execs_nil]
  refine wpAny_pure (hR _ _ _ (((ip3.from k2).from kp).less fun a m => .tail _ m) q)

theorem St.perm {F : List Addr} {s : Shared} {σ' : Sg} (st : St c F σ s) (hp : σ.Perm σ') : St c F σ' s where
  base := st.base
  gens := st.gens
  os := st.os
  apart := fun a m => st.apart a ((List.mem_append.mp m).elim (fun m => List.mem_append_left _ m) fun m => List.mem_append_right _ (((hp.map _).mem_iff).mpr m))
  nodup := ((hp.map (·.1)).nodup_iff).mp st.nodup
  disj := fun a m q => st.disj a m (((hp.map (·.1)).mem_iff).mpr q)
  live := st.live
  holds := fun p m => (st.holds p (hp.mem_iff.mpr m)).sub fun a q => (List.mem_append.mp q).elim (fun m => List.mem_append_left _ m) fun m => List.mem_append_right _ (((hp.map (·.1)).mem_iff).mpr m)

/- A new object of the things' own class. -/
theorem CallP.newFuns {Q : AV → Sg → Prop} (N : NewK c K fF fG fT cc cda) (h : ∀ va ta ma, va ≠ ta → va ≠ ma → ta ≠ ma → va ∉ own σ → ta ∉ own σ → ma ∉ own σ → Q (.funs (.flat (.ref va) (.ref ta)) (.ref ma)) ((va, .lst []) :: (ta, .lst []) :: (ma, .dT []) :: σ)) :
    CallP c (d + 6) (.ref c.cFun) [] σ Q := fun A s F vs rm st rp => by
  obtain ⟨fv, rfl, rp1⟩ := rpAll_one rp
  obtain rfl : fv = .ref c.cFun := rp1
  show wpAny _ _ (call (.ref c.cFun) []) _ _ _
  refine wpAny_call (make_inst N.inn N.mkF N.inF N.tyF st fun x dx h' n1 n2 n3 kp st' ia => ?_)
  refine funs_init (d := d + 3) (Q := NewFn σ)
    N (room_under rm) n1 st' ia ?_ (fun s' kvs' σ' ip q => ?_)
  · show InitP _ _ _ _ _ _ _ _ _ (.Assign _ _ _ :: _) _
    refine InitP.set N.inn N.stF (by decide +kernel) (Nat.le_of_ble_eq_true rfl) rfl (by kernel_rfl!) ?_ (by with_unfolding_all rfl)
    refine evalP_newFlat N (fun va ta q1 q2 q3 => ?_) (by kernel_rfl!)
    refine InitP.set N.inn N.stF (by decide +kernel) (Nat.le_of_ble_eq_true rfl) rfl (by kernel_rfl!) ?_ (by with_unfolding_all rfl)
    refine EvalP.dict0 (.dT []) (.inr (.inl rfl)) fun ma hma => ?_
    refine InitP.nil ⟨Nat.le_of_ble_eq_true rfl, va, ta, ma, q1, fun e => hma (e ▸ .tail _ (.head _)), fun e => hma (e ▸ .head _), q2, q3, fun m => hma (.tail _ (.tail _ m)), rfl, rfl⟩
  · obtain ⟨va, ta, ma, q1, q2, q3, q4, q5, q6, rfl, rfl⟩ := q
    obtain ⟨st₂, mA, hi, hv⟩ := ip.inst (names := funsNames) n1 (lookup_none (by kernel_rfl))
    obtain ⟨vv, a1, b1⟩ := hv "flat" (.flat (.ref va) (.ref ta)) (by kernel_rfl)
    obtain ⟨tv, a2, b2⟩ := hv "made" (.ref ma) (by kernel_rfl)
    have hp : ([(ma, OB.dT []), (ta, .lst []), (va, .lst [])] ++ σ : Sg).Perm ([(va, .lst []), (ta, .lst []), (ma, .dT [])] ++ σ) := List.Perm.append_right σ (List.reverse_perm [(va, OB.lst []), (ta, .lst []), (ma, .dT [])])
    have st₃ := st₂.perm hp
    have sb : ∀ a ∈ F ++ own ([(va, OB.lst []), (ta, .lst []), (ma, .dT [])] ++ σ : Sg), a ∈ F ++ own ([(ma, OB.dT []), (ta, .lst []), (va, .lst [])] ++ σ : Sg) := fun a q => (List.mem_append.mp q).elim (fun m => List.mem_append_left _ m) fun m => List.mem_append_right _ (((hp.map (·.1)).mem_iff).mpr m)
    refine ⟨rfl, .funs (.flat (.ref va) (.ref ta)) (.ref ma), _, st₃, ⟨fun a o e n => ip.keep a o (kp a o e) n (ne_of e n3), fun a m => (ip.from kp).new a (((hp.map (·.1)).mem_iff).mpr m)⟩, Rp.sub sb ⟨x, mA, vv, tv, rfl, hi, a1, a2, b1, b2⟩, h va ta ma q1 q2 q3 q4 q5 q6⟩

theorem evalP_newFuns {Q : AV → Sg → Prop} {p pos} (N : NewK c K fF fG fT cc cda) (h : ∀ va ta ma, va ≠ ta → va ≠ ma → ta ≠ ma → va ∉ own σ → ta ∉ own σ → ma ∉ own σ → Q (.funs (.flat (.ref va) (.ref ta)) (.ref ma)) ((va, .lst []) :: (ta, .lst []) :: (ma, .dT []) :: σ))
    (hk : autoParam ((sc.names.lookup ("Functions" : Str) == some .globalImplicit) = true) trT) : EvalP c (d + 6) sc B σ (.Call (.Name "Functions" p) [] [] pos) Q := by
  obtain ⟨mg, mb, hg, hb, J, h1, J⟩ := N.glob
  exact EvalP.call (evalP_glob (x := .ref c.cFun) ⟨mg, mb, hg, hb, _, .inl h1, fun J J J => rfl⟩ ⟨KeepOK.cls N.inn N.kpF, EvalsP.nil (CallP.newFuns N h)⟩ hk (by kernel_rfl!)) rfl
end
end
-- Srt2

section
variable {prog : Program} {w : World} {A : Around} {E : Value → Shared → Prop} {s : Shared}
theorem zip_self (vs : List Value) (h : vs.length < 2) : (vs.toArray.zip vs.toArray).map (·.2) = vs.toArray := by
  rcases vs with J | ⟨v, J | ⟨J, J⟩⟩
  · simp
  · simp
  · exact absurd h (by simp)
theorem list_sort_short {a : Addr} {vs : List Value} {n : Nat} {P : Fin → Shared → Prop} (ho : s.heap.get? a = some (seqObj "list" vs.toArray n)) (h2 : vs.length < 2)
    (h : P (.done (.ret .none)) { s with heap := sortedHeap s.heap a vs vs.toArray }) : wpAny (model prog w) A (Builtin.«list.sort» ⟨[.ref a], []⟩) P E s := by
  rw [list_sort_plain]
  have ha : a < s.heap.objs.size := Heap.lt_size ho
  refine wpAny_bind (listItems_at ho rfl ?_)
  refine wpAny_bind (listUpdate_at ho rfl ?_ (by rw [List.size_toArray, sizeLine_eq]; lia))
  obtain ⟨e1, ho1⟩ : ∃ e1, (s.heap.update a (Obj.mapSeq fun J => #[])).get? a = some (seqObj "list" #[] e1) := ⟨_, get?_update_seq ho (fun J => #[])⟩
  refine wpAny_bind (seqEpoch_at ho1 rfl ?_)
  refine wpAny_bind (wpAny_newTuple ?_ (by rw [sizeLine_eq]; show vs.toArray.toList.length ≤ _; simp; lia))
  refine wpAny_bind (wpAny_newList ?_)
  refine wpAny_holding ?_
  have ho6 : (((s.heap.update a (Obj.mapSeq fun J => #[])).push (seqObj "tuple" vs.toArray 0)).push (seqObj "list" #[] 0)).get? a = some (seqObj "list" #[] e1) := by
    rw [Heap.get?_push_ne _ _ _ (by rw [size_push', Heap.size_update]; exact Nat.ne_of_lt (Nat.lt_succ_of_lt ha)), Heap.get?_push_ne _ _ _ (by rw [Heap.size_update]; exact Nat.ne_of_lt ha)]
    exact ho1
  show wpAny (model prog w) A _ P E { s with heap := ((s.heap.update a (Obj.mapSeq fun J => #[])).push (seqObj "tuple" vs.toArray 0)).push (seqObj "list" #[] 0) }
  dsimp only
  have hsz : vs.toArray.size < 2 := by simpa using h2
  rw [if_pos hsz, if_pos hsz]
  refine wpAny_bind (wpAny_pure ?_)
  rw [StateT.run_pure]
  refine wpAny_bind (wpAny_pure ?_)
  dsimp only
  refine wpAny_bind (seqEpoch_at ho6 rfl ?_)
  have hm : (arrOf (SortSt.mk' general' (vs.toArray.zip vs.toArray) #[] 7 none)).map (·.2) = vs.toArray := by
    exact zip_self vs h2
  rw [hm]
  refine wpAny_bind (listUpdate_at ho6 rfl ?_ (hsz2 := by rw [List.size_toArray, sizeLine_eq]; lia))
  simp only [bne_self_eq_false, Bool.false_eq_true, if_false]
  exact wpAny_pure h
end

section
variable {c : Cx} {d : Nat} {σ : Sg} {Q : AV → Sg → Prop}
/- A list of less than two, out of what was collected. -/
theorem sorted_short {r : Addr} {vs : List Value} {xs : List PyData} {as : List Addr} {A : Around} {s s₀ : Shared} {F : List Addr}
    (hc : ∀ {A' : Around} {Q' : List Value → Shared → Prop}, (∀ h' tk, (∀ b o, s₀.heap.get? b = some o → h'.get? b = some o) → Q' vs { s with heap := h', toks := tk }) → wpAny c.M A' (collect (.ref r)) Q' nope s)
    (st : St c F σ s₀) (hos : s.os = s₀.os) (hgs : s.gens = s₀.gens) (hl : vs.length < 2) (hr : RdAll s₀.heap vs xs as) (hn : ∀ b ∈ as, b ∉ F ++ own σ) (h : Q (Li xs) σ) : wpAny c.M A (call (.builtin "sorted") [.ref r]) (Post c F σ s₀ Q) nope s := by
  refine Calls.call_function_entry kind_sorted plain_sorted entry_sorted (args_sorted1 _) ?_
  unfold Builtin.«sorted»
  refine wpAny_bind (m := checkCount "sorted" 1 1 _) (wpAny_pure ?_)
  refine wpAny_bind (hc (A' := A.in1) fun h' tk kp => ?_)
  refine wpAny_bind (wpAny_newList ?_ (by rw [sizeLine_eq]; lia))
  have hoL : (h'.push { cls := .type "list", data := .seq vs.toArray }).get? h'.objs.size = some (seqObj "list" vs.toArray 0) := Heap.get?_push_size _ rfl
  refine wpAny_bind (wpAny_holding (wpAny_call_entry slot_list_sort ⟨_, hoL, rfl⟩ entry_list_sort (list_sort_short hoL hl ⟨_, rfl, ?_⟩) (args_list_sort _)))
  have kpA : ∀ b o, s₀.heap.get? b = some o → b ≠ h'.objs.size ∧ (h'.push { cls := .type "list", data := .seq vs.toArray }).get? b = some o := fun b o e => ⟨fun z => by
    have := Heap.lt_size (kp b o e)
    rw [z] at this; exact Nat.lt_irrefl _ this, Heap.get?_push_of_some _ (kp b o e)⟩
  have kpB : ∀ b o, s₀.heap.get? b = some o → (sortedHeap (h'.push { cls := .type "list", data := .seq vs.toArray }) h'.objs.size vs vs.toArray).get? b = some o := fun b o e => by
    obtain ⟨e1, e2⟩ := kpA b o e
    unfold sortedHeap
    refine (Heap.get?_update_other _ _ (Ne.symm e1)).trans ?_
    refine Heap.get?_push_of_some _ (Heap.get?_push_of_some _ ?_)
    exact (Heap.get?_update_other _ _ (Ne.symm e1)).trans e2
  obtain ⟨k, hr'⟩ : ∃ k, (sortedHeap (h'.push { cls := .type "list", data := .seq vs.toArray }) h'.objs.size vs vs.toArray).get? h'.objs.size = some (seqObj "list" vs.toArray k) := by
    unfold sortedHeap
    exact ⟨_, get?_update_seq (Heap.get?_push_of_some _ (Heap.get?_push_of_some _ (get?_update_seq hoL fun J => #[]))) fun J => vs.toArray⟩
  have sty : Stays s₀.heap (F ++ own σ) (sortedHeap (h'.push { cls := .type "list", data := .seq vs.toArray }) h'.objs.size vs vs.toArray) (F ++ own σ) := ⟨fun a o e J => kpB a o e, fun a m => .inl m⟩
  refine wpAny_pure ⟨_, rfl, Li xs, σ, ?_, .on σ kpB, ⟨h'.objs.size :: as, .list hr' rfl rfl (rdAll_stays sty hr hn) rfl, forall_cons (fun q => ((List.mem_append.mp q).elim (st.live _) st.owned).ex.elim fun o e => (kpA _ o e).1 rfl) hn⟩, h⟩
  have := st.on (tk := tk) kpB
  exact { base := this.base, gens := hgs.trans st.gens, os := hos.trans st.os, apart := this.apart, nodup := this.nodup, disj := this.disj, live := this.live, holds := this.holds }

theorem CallP.sorted1 {xs : List PyData} (hl : xs.length < 2) (h : Q (Li xs) σ) : CallP c d (.val (.builtin "sorted")) [Li xs] σ Q := .two fun A s F v w rm st r r' => by
  cases (show v = _ from r); obtain ⟨as, r', n⟩ := r'
  obtain ⟨a, o, vs, k, as', rfl, rfl, h1, h2, h3, h4, h5⟩ := rd_lst r'
  have hlen : vs.toList.length = xs.length := (PySem.SeqAt.ReadsAll.length _ _ _ h4.reads)
  refine sorted_short (s₀ := s) (vs := vs.toList) (fun {A' Q'} hq => collect_list (l := a) ⟨o, h1, h2, k, by rw [h3]⟩ ?_ (by rw [sizeLine_eq, hlen]; lia)) st rfl rfl (by rw [hlen]; exact hl) h4 (fun b m => n b (.tail _ m)) h
  have := hq ((s.heap.push (seqObj "list" #[] 0)).update s.heap.objs.size (Obj.mapSeq (· ++ vs.toList.toArray))) s.toks fun b o e => ?_
  · exact this
  · exact (Heap.get?_update_other _ _ (Ne.symm (Nat.ne_of_lt (Heap.lt_size e)))).trans (Heap.get?_push_of_some _ e)
end
-- Base23
section
variable {c : Cx} {d : Nat} {sc : Scope} {B : Bs} {σ : Sg} {Q : AV → Sg → Prop} {N : Bs → Sg → Prop} {R : AV → Sg → Prop}
theorem ExecsP.seqAt (k : Nat) (sts : List Stmt) {s1 : Stmt} {rest : List Stmt} (hk : sts.drop k = s1 :: rest) (P : Bs → Sg → Prop) (h1 : ExecP c d sc B σ s1 P R) (h2 : ∀ B' σ', P B' σ' → ExecsP c d sc B' σ' (sts.drop (k + 1)) N R) : ExecsP c d sc B σ (sts.drop k) N R := by
  have e : sts.drop (k + 1) = rest := by
    have := congrArg (fun l => l.drop 1) hk
    simpa [List.drop_drop, Nat.add_comm] using this
  rw [e] at h2
  rw [hk]
  exact .seq P h1 h2
theorem ExecsP.seqC (k : Nat) (sts : List Stmt) {s1 : Stmt} {rest : List Stmt} (hk : sts.drop k = s1 :: rest) (P : Bs → Sg → Prop) (h1 : ExecP c d sc B σ s1 (fun B' σ' => ∃ B₀, Cov B' B₀ ∧ P B₀ σ') R) (h2 : ∀ B' σ', P B' σ' → ExecsP c d sc B' σ' (sts.drop (k + 1)) N R) : ExecsP c d sc B σ (sts.drop k) N R :=
  .seqAt k sts hk P (.covN h1) h2
/- A comprehension's list to a name that is no plain local. -/
theorem ExecP.assignC {n : Str} {p : Pos} {e : Expr} {pos} (h : EvalP c d sc B σ e fun x σ₁ => AsgP c d sc B σ₁ (.Name n p) x N)
    (hsw : swapsWith e (some (.Name n p)) pos.line { (default : Env) with scope := sc } = pure false) (hw : swappedStores [.Name n p] e { (default : Env) with scope := sc } = pure none) : ExecP c d sc B σ (.Assign [.Name n p] e pos) N R := fun A s env F rm ke hF st f => by
  rw [exec_Assign]
  refine wpAny_bind (wpAny_standAt ?_)
  have e1 : swapsWithSole [.Name n p] e pos.line env = pure false := by
    show swapsWith e (some (.Name n p)) pos.line env = _
    have : swapsWith e (some (.Name n p)) pos.line env = swapsWith e (some (.Name n p)) pos.line { (default : Env) with scope := env.scope } := rfl
    rw [this, ke.scope]; exact hsw
  rw [e1]
  refine wpAny_bind (wpAny_pure ?_)
  rw [if_neg (by decide)]
  refine wpAny_bind (wpAny_mono (h A s env F rm ke hF st f) (fun v s₁ h₁ => ?_) fun J J z => z)
  obtain ⟨x, σ₁, st₁, e₁, r₁, h₁⟩ := h₁
  have e2 : swappedStores [.Name n p] e env = pure none := by rw [swappedStores_env, ke.scope]; exact hw
  rw [e2]
  refine wpAny_bind (wpAny_pure ?_)
  have fp : FrmPost c F env σ s.heap B σ₁ s₁ := .of hF st f st₁ e₁
  have key : wpAny c.M A (PySem.assign (.Name n p) env v) (fun J s' => PostS c F env σ s N R .next s') nope s₁ :=
    wpAny_mono (h₁ A s₁ env F v rm ke hF st₁ fp.frm r₁) (fun J s₂ h₂ => by
      obtain ⟨B₂, σ₂, f₂, h₂⟩ := h₂
      exact ⟨B₂, σ₂, fp.trans hF f₂, h₂⟩) fun J J z => z
  exact wpAny_bind (wpAny_mono key (fun J J x => wpAny_pure x) fun J J x => x)
/- The things' own class is made. -/
theorem EvalP.newFuns {p pos : Pos} (T : TopOK c) (h : ∀ va ta ma, va ≠ ta → va ≠ ma → ta ≠ ma → va ∉ own σ → ta ∉ own σ → ma ∉ own σ → Q (Fu va ta ma) ((va, .lst []) :: (ta, .lst []) :: (ma, .dT []) :: σ))
    (hk : autoParam ((sc.names.lookup ("Functions" : Str) == some .globalImplicit) = true) trT) : EvalP c (d + 6) sc B σ (.Call (.Name "Functions" p) [] [] pos) Q := by
  obtain ⟨K, fF, fG, fT, cc, cda, N⟩ := T.new
  exact evalP_newFuns N h hk
end
-- Set0
theorem slot_si_next : Slot "set_iterator" "__next__" "set_iterator.__next__" :=
  .of (owner := "set_iterator") (n := "__next__") (by rw [typeLookup_type, builtinLookup_eq_fast]; kernel_rfl) (by kernel_rfl!) (by kernel_rfl!) (by kernel_rfl!)
    (by first | exact .inl (by kernel_rfl!) | exact .inr (by kernel_rfl!)) (by rw [isSubtype_type]; kernel_rfl)
theorem entry_si_next : entryFor table "set_iterator.__next__" = some Builtin.«set_iterator.__next__» := entryFor_of_fast (by kernel_rfl)
theorem args_si_next (a : Value) : argsOk "set_iterator.__next__" ⟨[a], []⟩ := by unfold argsOk; kernel_rfl
theorem slot_si_iter : Slot "set_iterator" "__iter__" "set_iterator.__iter__" :=
  .of (owner := "set_iterator") (n := "__iter__") (by rw [typeLookup_type, builtinLookup_eq_fast]; kernel_rfl) (by kernel_rfl!) (by kernel_rfl!) (by kernel_rfl!)
    (by first | exact .inl (by kernel_rfl!) | exact .inr (by kernel_rfl!)) (by rw [isSubtype_type]; kernel_rfl)
theorem entry_si_iter : entryFor table "set_iterator.__iter__" = some Builtin.«dict_keyiterator.__iter__» := entryFor_alias (id' := "dict_keyiterator.__iter__") (by kernel_rfl) rfl (by kernel_rfl!) (by kernel_rfl)
theorem args_si_iter (a : Value) : argsOk "set_iterator.__iter__" ⟨[a], []⟩ := by unfold argsOk; kernel_rfl
theorem entry_s_iter : entryFor table "set.__iter__" = some Builtin.«frozenset.__iter__» := entryFor_alias (id' := "frozenset.__iter__") (by kernel_rfl) rfl (by kernel_rfl!) (by kernel_rfl)
theorem args_s_iter (a : Value) : argsOk "set.__iter__" ⟨[a], []⟩ := by unfold argsOk; kernel_rfl

-- Set1
/- A set of one int at most, as it has been laid anew. -/
structure SetAt (w : World) (h : Heap) (r : Addr) (es : Array (Int × Value)) (ep : Nat) (t : SetTable) (ns : List Int) : Prop where
  at_ : h.get? r = some { cls := .type "set", dict := none, data := .set es ep t }
  fits : t.fits es.size = true
  led : t.led = !w.params.followText "set-order"
  is : (ns = [] ∧ es = #[]) ∨ ∃ hh k tk j, ns = [k] ∧ es = #[(hh, .int k tk)] ∧ t.place = #[j]
theorem SetAt.at {w : World} {h h' : Heap} {r es ep t ns} (x : SetAt w h r es ep t ns) (k : ∀ o, h.get? r = some o → h'.get? r = some o) : SetAt w h' r es ep t ns := ⟨k _ x.at_, x.fits, x.led, x.is⟩
theorem SetAt.len {w : World} {h : Heap} {r es ep t ns} (x : SetAt w h r es ep t ns) : es.size = ns.length ∧ ns.length < 2 := by
  rcases x.is with ⟨rfl, rfl⟩ | ⟨J, J, J, J, rfl, rfl, J⟩
  · exact ⟨rfl, by decide⟩
  · exact ⟨rfl, Nat.lt_succ_self 1⟩
noncomputable abbrev siObj (slot i : Int) (r : Addr) (n ep : Int) : Obj := { cls := .type "set_iterator", data := .fields #[.int slot 0, .int i 0, .ref r, .int n 0, .int ep 0] }
/- Where a set's iterator stands behind i items. -/
noncomputable def SIAt (h : Heap) (it r : Addr) (i n ep : Nat) (t : SetTable) (byText : Bool) : Prop := ∃ slot : Nat, h.get? it = some (siObj slot i r n ep) ∧ (i = 0 → slot = 0) ∧ (byText = false → i = 1 → ∀ j, t.place = #[j] → slot = j + 1)

section
variable {prog : Program} {w : World} {A : Around} {E : Value → Shared → Prop} {s : Shared} {r it : Addr} {es : Array (Int × Value)} {ep : Nat} {t : SetTable} {ns : List Int}
theorem byText_ask {Q : Bool → Shared → Prop} (h : Q (w.params.followText "set-order") s) : wpAny (model prog w) A setsByText Q E s := by
  unfold setsByText
  exact wpAny_bind (wpAny_askSetting (wpAny_pure h))
theorem setState_at {Q : (Array (Int × Value) × Nat × SetTable) → Shared → Prop} (x : SetAt w s.heap r es ep t ns) (h : Q (es, ep, t) s) : wpAny (model prog w) A (setState r) Q E s :=
  wpAny_setState_of x.at_ rfl x.fits h
theorem pyIter_set {Q : Value → Shared → Prop} (x : SetAt w s.heap r es ep t ns) (h : Q (.ref s.heap.objs.size) { s with heap := s.heap.push (siObj 0 0 r ns.length ep) }) : wpAny (model prog w) A (pyIter (.ref r)) Q E s := by
  have hT : s.TypeIs (.ref r) "set" := ⟨_, x.at_, rfl⟩
  obtain ⟨hl, h2⟩ := x.len
  refine wpAny_pyIter_slot hT F.slot_set_iter (wpAny_call_entry F.slot_set_iter hT entry_s_iter ?_ (args_s_iter _))
  unfold Builtin.«frozenset.__iter__» Builtin.Frozenset.slot0 slotArgs
  simp only [List.isEmpty_nil, Bool.not_true, Bool.false_eq_true, ↓reduceIte, bind_assoc, List.length_nil, bne_self_eq_false]
  unfold Builtin.Frozenset.addrOf Builtin.Frozenset.sizeOf
  refine wpAny_bind (wpAny_pure ?_)
  try dsimp only
  refine wpAny_bind (wpAny_pure ?_)
  refine wpAny_bind (wpAny_bind (wpAny_setEntries_of x.at_ rfl x.fits (wpAny_pure ?_)))
  have dr : ∀ {Q' : Bool → Shared → Prop}, Q' false s → wpAny (model prog w) A.in1 (setDrawn r) Q' E s := fun {Q'} q => by
    unfold setDrawn
    refine wpAny_bind (setState_at x (wpAny_bind (byText_ask ?_)))
    show wpAny _ _ (pure (!w.params.followText "set-order" && (!t.plain && decide (es.size > 1)))) _ _ _
    rw [show decide (es.size > 1) = false from decide_eq_false (by lia), Bool.and_false, Bool.and_false]
    exact wpAny_pure q
  refine wpAny_bind (dr ?_)
  rw [if_neg (by decide)]
  refine wpAny_bind (wpAny_pure ?_)
  unfold setEpoch
  refine wpAny_bind (wpAny_bind (setState_at x (wpAny_pure ?_)))
  refine wpAny_bind ?_
  unfold newFields
  refine wpAny_newObj_type (wpAny_pure ⟨_, rfl, "set_iterator", _, ⟨_, Heap.get?_push_size _ rfl, rfl⟩, slot_si_next.lookup, ?_⟩)
  have e : (rawInt es.size : Value) = .int ns.length 0 := by rw [hl]; rfl
  rw [e]
  exact h
theorem pyIter_si {i n : Nat} {b : Bool} {Q : Value → Shared → Prop} (x : SIAt s.heap it r i n ep t b) (h : Q (.ref it) s) : wpAny (model prog w) A (pyIter (.ref it)) Q E s := by
  obtain ⟨slot, ho, J⟩ := x
  have hT : s.TypeIs (.ref it) "set_iterator" := ⟨_, ho, rfl⟩
  refine wpAny_pyIter_slot hT slot_si_iter (wpAny_call_entry slot_si_iter hT entry_si_iter ?_ (args_si_iter _))
  show wpAny _ _ (ret (.ref it)) _ _ s
  exact wpAny_pure ⟨_, rfl, "set_iterator", _, hT, slot_si_next.lookup, h⟩

theorem pick_one {α : Type} (f : Nat → Nat) (e : α) : pickOrder f #[e] = #[e] := by
  have h : pickOrder f #[e] = Option.elim [e][f 0 % 1]? #[] (fun x => pickOrder.go f 0 1 ([e].eraseIdx (f 0 % 1)) (#[].push x)) := by kernel_rfl!
  rw [h, Nat.mod_one]
  kernel_rfl!
/- What the iterator is handed at a place. -/
theorem setNext_one {slot i : Nat} {hh : Int} {k : Int} {tk : Tok} {j : Nat} {Q : Option (Value × Nat) → Shared → Prop} (x : SetAt w s.heap r #[(hh, .int k tk)] ep t ns) (hp : t.place = #[j]) (hi : i = 0) (hs : slot = 0)
    (h : ∀ next : Nat, (w.params.followText "set-order" = false → next = j + 1) → Q (some (.int k tk, next)) s) : wpAny (model prog w) A (setNext r slot i ep) Q E s := by
  subst hi hs
  unfold setNext
  refine wpAny_bind (setState_at x ?_)
  try dsimp only
  refine wpAny_bind (byText_ask ?_)
  cases hb : w.params.followText "set-order" with
  | true =>
    simp only [if_true, bne_self_eq_false, Bool.false_eq_true, if_false]
    unfold setWalk
    refine wpAny_bind (wpAny_bind (setState_at x ?_))
    dsimp only
    refine wpAny_bind (byText_ask ?_)
    rw [hb, if_pos rfl]
    refine wpAny_bind (wpAny_askSetting (wpAny_pure ?_))
    rw [pick_one]
    exact wpAny_pure (h 0 fun q => by rw [hb] at q; cases q)
  | false =>
    rw [if_neg (by decide)]
    split
    · rename_i hd
      have hd' : (!t.plain && decide ((1 : Nat) > 1)) = true := hd
      simp at hd'
    · show wpAny _ _ ((if (!t.led && !(#[(hh, Value.int k tk)] : Array (Int × Value)).isEmpty) = true then unsupported _ else pure ()) >>= fun J => _) _ _ _
      rw [x.led, hb]
      refine wpAny_bind (wpAny_pure ?_)
      rw [hp]
      have hz : SetTable.below #[j] 0 = 0 := by kernel_rfl!
      rw [hz]
      exact wpAny_pure (h (j + 1) fun J => rfl)
theorem setNext_end {slot i : Nat} {Q : Option (Value × Nat) → Shared → Prop} (x : SetAt w s.heap r es ep t ns) (hi : i = ns.length) (hs : w.params.followText "set-order" = false → ∀ j, t.place = #[j] → ns ≠ [] → slot = j + 1)
    (h : Q none s) : wpAny (model prog w) A (setNext r slot i ep) Q E s := by
  obtain ⟨hl, h2⟩ := x.len
  unfold setNext
  refine wpAny_bind (setState_at x ?_)
  try dsimp only
  refine wpAny_bind (byText_ask ?_)
  cases hb : w.params.followText "set-order" with
  | true =>
    simp only [if_true, bne_self_eq_false, Bool.false_eq_true, if_false]
    unfold setWalk
    refine wpAny_bind (wpAny_bind (setState_at x ?_))
    dsimp only
    refine wpAny_bind (byText_ask ?_)
    rw [hb, if_pos rfl]
    refine wpAny_bind (wpAny_askSetting (wpAny_pure ?_))
    have : (pickOrder ((model prog w).w.params.setOrder r ep) es)[i]? = none := by
      rcases x.is with ⟨rfl, rfl⟩ | ⟨hh, k, tk, j, rfl, rfl, hp⟩
      · subst hi; rfl
      · rw [pick_one]; subst hi; rfl
    rw [this]
    exact wpAny_pure h
  | false =>
    rw [if_neg (by decide)]
    split
    · rename_i hd
      have hd' : (!t.plain && decide (es.size > 1)) = true := hd
      rw [show decide (es.size > 1) = false from decide_eq_false (by lia), Bool.and_false] at hd'
      cases hd'
    · show wpAny _ _ ((if (!t.led && !es.isEmpty) = true then unsupported _ else pure ()) >>= fun J => _) _ _ _
      rw [x.led, hb]
      refine wpAny_bind (wpAny_pure ?_)
      rcases x.is with ⟨rfl, rfl⟩ | ⟨hh, k, tk, j, rfl, rfl, hp⟩
      · exact wpAny_pure h
      · rw [hs hb j hp (by simp), hp]
        have hz : SetTable.below #[j] (j + 1) = 1 := by
          have h : SetTable.below #[j] (j + 1) = (if j < j + 1 then SetTable.below.go #[j] (j + 1) 0 1 1 else SetTable.below.go #[j] (j + 1) 0 0 0) := by kernel_rfl!
          rw [h, if_pos (Nat.lt_succ_self j)]
          kernel_rfl!
        rw [hz]
        exact wpAny_pure h
theorem pyNext_si_item {b : Bool} {Q : Option Value → Shared → Prop} (hb : b = w.params.followText "set-order") {k : Int} (x : SetAt w s.heap r es ep t [k]) (y : SIAt s.heap it r 0 1 ep t b)
    (h : ∀ tk h', SIAt h' it r 1 1 ep t b → Heap.SameBut it s.heap h' → Q (some (.int k tk)) { s with heap := h' }) : wpAny (model prog w) A (pyNext (.ref it)) Q E s := by
  obtain ⟨slot, ho, h0, J⟩ := y
  have hT : s.TypeIs (.ref it) "set_iterator" := ⟨_, ho, rfl⟩
  obtain ⟨hl, J⟩ := x.len
  rcases x.is with ⟨q, J⟩ | ⟨hh, k', tk, j, q, rfl, hp⟩
  · cases q
  cases q
  unfold pyNext
  refine wpAny_bind (wpAny_attempt (wpAny_callSpecial?_slot (name := Str.ofString "__next__") hT slot_si_next (wpAny_call_entry slot_si_next hT entry_si_next ?_ (args_si_next _))))
  unfold Builtin.«set_iterator.__next__» slotArgs
  refine wpAny_bind (wpAny_pure ?_)
  refine wpAny_bind (wpAny_fieldsOf ho rfl ?_)
  try dsimp only
  refine wpAny_bind (wpAny_setEntries_of x.at_ rfl x.fits ?_)
  rw [if_neg (by simp)]
  try dsimp only
  refine wpAny_bind (setNext_one x hp rfl (by rw [h0 rfl]; rfl) fun next hn => ?_)
  try dsimp only
  refine wpAny_bind (wpAny_setField_rec ho (by simp) fun h1 e1 s1 => ?_)
  refine wpAny_bind (wpAny_setField_rec e1 (by simp) fun h2 e2 s2 => ?_)
  refine wpAny_pure ⟨_, rfl, wpAny_pure (h tk h2 ⟨next, by simpa [rawInt] using e2, (fun q => by cases q), fun q J j' hj => ?_⟩ (s1.trans s2))⟩
  rw [hp] at hj
  cases hj
  exact hn (hb.symm.trans q)
theorem pyNext_si_end {b : Bool} {Q : Option Value → Shared → Prop} (hh : A.handled = none) (hb : b = w.params.followText "set-order") (x : SetAt w s.heap r es ep t ns) (y : SIAt s.heap it r ns.length ns.length ep t b)
    (h : ∀ h', Heap.ExtBut it s.heap h' → Q none { s with heap := h' }) : wpAny (model prog w) A (pyNext (.ref it)) Q E s := by
  obtain ⟨slot, ho, h0, h1⟩ := y
  have hT : s.TypeIs (.ref it) "set_iterator" := ⟨_, ho, rfl⟩
  obtain ⟨hl, h2⟩ := x.len
  unfold pyNext
  refine wpAny_bind (wpAny_attempt (wpAny_callSpecial?_slot (name := Str.ofString "__next__") hT slot_si_next (wpAny_call_entry slot_si_next hT entry_si_next ?_ (args_si_next _))))
  unfold Builtin.«set_iterator.__next__» slotArgs
  refine wpAny_bind (wpAny_pure ?_)
  refine wpAny_bind (wpAny_fieldsOf ho rfl ?_)
  try dsimp only
  refine wpAny_bind (wpAny_setEntries_of x.at_ rfl x.fits ?_)
  rw [if_neg (by rw [hl]; simp)]
  try dsimp only
  refine wpAny_bind (setNext_end x rfl (fun q j hj hn => ?_) ?_)
  · have : ns.length = 1 := by
      have : ns.length ≠ 0 := fun z => hn (List.length_eq_zero_iff.mp z)
      lia
    exact h1 (hb.trans q) this j hj
  try dsimp only
  refine wpAny_bind (wpAny_setField_rec ho (by simp) fun h3 e3 s3 => ?_)
  refine wpAny_bind ?_
  simp only [newExc, newTuple]
  refine wpAny_bind (wpAny_newObj_type ?_ (by size_fits))
  refine wpAny_bind (m := firstArgMember _ _) (wpAny_of_eq (a := Value.none) (by first | rfl | (simp only [firstArgMember]; rfl)) ?_)
  refine wpAny_newObj_type ?_ (by size_fits)
  simp only [raiseNew]
  refine wpAny_bind (wpAny_handled ?_)
  first | rw [show A.in1.handled = none from hh] | rw [hh]
  refine wpAny_bind (wpAny_pure (wpAny_throw ?_))
  refine wpAny_bind (wpAny_isInstance (T := "StopIteration") (b := true) ⟨_, Heap.get?_push_size _ rfl, rfl⟩ (by rw [isSubtype_type]; kernel_rfl) ?_)
  rw [if_pos rfl]
  exact wpAny_pure (h _ ((s3.extBut.push _).push _))
end
-- Set2
theorem lay_fresh (led : Bool) (h : Int) (x : Value) : ∃ j, layNew (.fresh 0 0 led) #[] h x = (#[(h, x)], { SetTable.fresh 0 0 led with place := #[j] }, false, false) := by
  refine ⟨SetTable.bits h % 8, ?_⟩
  rfl
section
variable {prog : Program} {w : World} {A : Around} {E : Value → Shared → Prop} {s : Shared} {r it : Addr} {ep : Nat} {led : Bool}
theorem setAdd_fresh {k : Int} {tk : Tok} {Q : Bool → Shared → Prop} (hled : led = !w.params.followText "set-order") (ho : s.heap.get? r = some { cls := .type "set", dict := none, data := .set #[] ep (.fresh 0 0 led) })
    (h : ∀ h' tk' es ep' t, SetAt w h' r es ep' t [k] → Heap.SameBut r s.heap h' → Q true { s with heap := h', toks := tk' }) : wpAny (model prog w) A (setAdd r (.int k tk)) Q E s := by
  unfold setAdd
  refine wpAny_holding ?_
  refine wpAny_bind ((intKind prog w).pyHash (k := k) (intKind_is _ _ _ _) ?_)
  generalize (intKind prog w).hash k = hh
  unfold setAddHashed setAddHashedIn
  refine wpAny_holding (wpAny_bind (wpAny_setState_of (s := { s with toks := s.toks + 1 }) ho rfl rfl ?_))
  dsimp only
  rw [if_pos (show byScan (.int k tk) #[] = true by kernel_rfl)]
  unfold setAddByScan
  refine wpAny_bind ?_
  refine wpAny_bind (wpAny_rule ?_)
  refine wpAny_bind (m := setScan r (.int k tk) hh true #[]) (wpAny_pure ?_)
  dsimp only
  obtain ⟨j, hL⟩ := lay_fresh led hh (.int k tk)
  rw [hL]
  dsimp only
  refine wpAny_bind (wpAny_pure ?_)
  rw [if_pos (show (SetTable.fresh 0 0 led).plain = true from rfl)]
  refine wpAny_bind (wpAny_of_eq (show hashByValue 8 (.int k tk) = pure true from rfl) ?_)
  simp only [if_true, Bool.not_false, Bool.true_and]
  refine wpAny_bind (wpAny_storeSet_of (s := { s with toks := s.toks + 1 }) ho rfl ?_ (by rw [sizeLine_eq]; exact Nat.le_of_ble_eq_true rfl))
  split
  · rename_i hf
    exact absurd hf (fun q => Bool.noConfusion (q : false = true))
  · refine wpAny_pure (wpAny_pure (h _ _ _ (ep + 1) { SetTable.fresh 0 0 led with place := #[j] } ⟨?_, rfl, hled, .inr ⟨hh, k, tk, j, rfl, rfl, rfl⟩⟩ (Heap.SameBut.update ..)))
    exact (Heap.get?_update_self (Obj.putSet #[(hh, .int k tk)] { SetTable.fresh 0 0 led with place := #[j] }) ho rfl).trans (by rw [putSet_of _ _ rfl])

theorem upd_set1 {S I l : Addr} {items : Array Value} {ns : List Int} {R : Result → Shared → Prop} (hh : A.handled = none) (hled : led = !w.params.followText "set-order")
    (ho : s.heap.get? S = some { cls := .type "set", dict := none, data := .set #[] ep (.fresh 0 0 led) }) (hit : s.heap.IsListIter I l 0) (hl : s.heap.IsList l items) (n1 : I ≠ S) (n2 : l ≠ S) (n3 : l ≠ I) (hi : IntsAre items.toList ns) (hb : ns.length < 2)
    (hR : ∀ h' tk' es ep' t, SetAt w h' S es ep' t ns → (∀ b o, b ≠ S → b ≠ I → s.heap.get? b = some o → h'.get? b = some o) → R (.ok (.ret .none)) { s with heap := h', toks := tk' }) :
    codeAny (model prog w) A (.builtin "set.update.loop" ⟨[.ref S, .ref I], []⟩) R s := by
  have hsz : items.size = ns.length := by rw [← Array.length_toList]; exact hi.length
  refine codeAny_builtin F.entry_set_update_loop ?_
  rw [Around.under_plainId F.plain_set_update_loop _]
  show wpAny _ A.in1 (pyNext (.ref I) >>= _) _ _ s
  cases ns with
  | nil =>
    refine wpAny_bind (wpAny_pyNext_list_end hh hit hl (by rw [Array.getElem?_eq_none]; rw [hsz]; exact Nat.le_refl _) fun h' kp => ?_)
    show wpAny _ A.in1 (ret Value.none) _ _ _
    exact wpAny_pure (hR h' _ #[] ep (.fresh 0 0 led) ⟨kp S _ (fun q => n1 q.symm) ho, rfl, hled, .inl ⟨rfl, rfl⟩⟩ fun b o J b2 e => kp b o b2 e)
  | cons k r =>
    cases r with
    | cons J J => exact absurd hb (Nat.not_lt.mpr (Nat.le_add_left 2 _))
    | nil =>
      obtain ⟨tk, hx⟩ : ∃ tk, items[0]? = some (.int k tk) := by
        rw [← Array.getElem?_toList]
        generalize items.toList = L at hi
        cases hi with
        | cons n t r => exact ⟨t, rfl⟩
      refine wpAny_bind (wpAny_pyNext_list_item hit hl hx fun h1 hit1 s1 => ?_)
      show wpAny _ A.in1 (holding [Value.int k tk] (setAdd S (.int k tk)) >>= _) _ _ _
      refine wpAny_bind (wpAny_holding (setAdd_fresh (s := { s with heap := h1 }) hled ((s1.2 S (fun q => n1 q.symm)).trans ho) fun h2 tk2 es ep' t X s2 => ?_))
      refine wpAny_pure ⟨plainId_quiet F.plain_set_update_loop _, codeAny_builtin F.entry_set_update_loop ?_⟩
      rw [Around.under_plainId F.plain_set_update_loop _]
      show wpAny _ A.in1 (pyNext (.ref I) >>= _) _ _ _
      have hit2 : h2.IsListIter I l 1 := by obtain ⟨o, e, q⟩ := hit1; exact ⟨o, (s2.2 I n1).trans e, q⟩
      have hl2 : h2.IsList l items := by obtain ⟨o, e, q⟩ := hl; exact ⟨o, (s2.2 l n2).trans ((s1.2 l n3).trans e), q⟩
      refine wpAny_bind (wpAny_pyNext_list_end (s := { s with heap := h2, toks := tk2 }) hh hit2 hl2 (by rw [Array.getElem?_eq_none]; rw [hsz]; exact Nat.le_refl _) fun h3 kp => ?_)
      show wpAny _ A.in1 (ret Value.none) _ _ _
      exact wpAny_pure (hR h3 _ es ep' t (X.at fun o e => kp S o (fun q => n1 q.symm) e) fun b o b1 b2 e => kp b o b2 ((s2.2 b b1).trans ((s1.2 b b2).trans e)))
theorem code_set_new_led (a : Value) {Q₁ : Value → Shared → Prop}
    (h : Q₁ (.ref s.heap.objs.size) { s with heap := s.heap.push { cls := .type "set", dict := none, data := .set #[] 0 (.fresh 0 0 (!w.params.followText "set-order")) } }) :
    codeAny (model prog w) A (.call (.builtin "set.__new__") ⟨[.type "set", a], []⟩) (wants Q₁ E) s := by
  refine codeAny_of_tree ?_
  show wpAny _ A.in1 (do checkBuiltinCall "set.__new__" ⟨[.type "set", a], []⟩; again (.builtin "set.__new__" ⟨[.type "set", a], []⟩)) _ _ s
  refine wpAny_bind (wpAny_of_eq (F.newCall_set_1 a) (wpAny_pure ⟨plainId_quiet F.plain_set_new _, codeAny_builtin F.entry_set_new ?_⟩))
  rw [Around.under_plainId F.plain_set_new _]
  unfold Builtin.«set.__new__» Builtin.Frozenset.newClass
  have hsub := sub_set_self
  obtain ⟨hp, g, d, tk, os⟩ := s
  dsimp only
  wp_walk
  refine wpAny_askSetting (wpAny_pure ?_)
  dsimp only
  simp only [newObj]
  refine wpAny_bind (wpAny_alloc (wpAny_pure ?_))
  exact wpAny_pure h

theorem callType_chk {T newId initId : String} {Bi : Builtin} {args : List Value} {Q Q₁ : Value → Shared → Prop} (ft : TypeCalled T newId initId)
    (hct : checkTypeCall T ⟨args, []⟩ = pure ()) (entryI : entryFor table initId = some Bi)
    (hnew : codeAny (model prog w) A.in1 (.call (.builtin newId) ⟨.type T :: args, []⟩) (wants Q₁ E) s)
    (hnext : ∀ obj s₁, Q₁ obj s₁ → s₁.TypeIs obj T ∧ (∀ {M : Model} {A' : Around} {Q' : Unit → Shared → Prop} {E' : Value → Shared → Prop}, Q' () s₁ → wpAny M A' (checkBuiltinCall initId ⟨obj :: args, []⟩) Q' E' s₁) ∧
      wpAny (model prog w) A.in1.in1 (Bi ⟨obj :: args, []⟩)
        (fun fin s' => match fin with | .done f => wants (fun r s₂ => r = .none ∧ Q obj s₂) E (.ok f) s' | .again c' => c'.quiet = true ∧ codeAny (model prog w) A.in1 c' (wants (fun r s₂ => r = .none ∧ Q obj s₂) E) s')
        (fun e s' => wants (fun r s₂ => r = .none ∧ Q obj s₂) E (.error e) s') s₁) :
    wpAny (model prog w) A (call (.type T) args) Q E s := by
  obtain ⟨c, tl, hmro⟩ := ft.mro
  have hmade := ft.made
  have hsub := ft.sub
  refine wpAny_call (codeAny_of_tree ?_)
  show wpAny _ _ (callAny (.type T) _) _ _ _
  refine wpAny_pure ⟨Code.quiet_builtin _ (by kernel_rfl!), codeAny_builtin F.entry_type_call ?_⟩
  rw [Around.under_plain (weight_type_call_type T args []) rfl]
  have h1 := ft.notType
  have h2 := ft.canCreate
  repeat (any_goals (first | assumption | wp_step))
  refine codeAny_mono hnew fun r s₁ hr => ?_
  cases r with
  | error e => exact hr
  | ok fl =>
    cases fl with
    | ret obj =>
      obtain ⟨hT, hok, hsi⟩ := hnext _ _ hr
      have hli := ft.init.lookup
      have hbi := ft.init.bind obj
      repeat (any_goals (first | assumption | wp_step))
      refine codeAny_mono (codeAny_call_builtin ft.init.plain entryI (hok hsi)) fun r₂ s₂ hr₂ => ?_
      cases r₂ with
      | error e => exact hr₂
      | ok fl₂ =>
        cases fl₂ with
        | ret r =>
          obtain ⟨rfl, hq⟩ := hr₂
          repeat (any_goals (first | assumption | wp_step))
        | _ => exact hr₂.elim
    | _ => exact hr.elim
/- set(xs) of one int at most. -/
theorem call_set1 {l : Addr} {items : Array Value} {ns : List Int} {Q : Value → Shared → Prop} (hh : A.handled = none) (hl : s.heap.IsList l items) (hi : IntsAre items.toList ns) (hb : ns.length < 2)
    (h : ∀ (h' : Heap) (tk : Nat) es ep t, SetAt w h' s.heap.objs.size es ep t ns → (∀ b o, s.heap.get? b = some o → h'.get? b = some o) → Q (.ref s.heap.objs.size) { s with heap := h', toks := tk }) :
    wpAny (model prog w) A (call (.type "set") [.ref l]) Q E s := by
  generalize hled : (!w.params.followText "set-order") = led
  refine callType_chk (Q₁ := fun obj s₁ => obj = .ref s.heap.objs.size ∧ s₁ = { s with heap := s.heap.push { cls := .type "set", dict := none, data := .set #[] 0 (.fresh 0 0 led) } }) F.called_set (F.typeCall_set_1 _) F.entry_set_init
    (code_set_new_led (.ref l) (by rw [hled]; exact ⟨rfl, rfl⟩)) fun obj s₁ h₁ => ?_
  obtain ⟨rfl, rfl⟩ := h₁
  have hS : (s.heap.push { cls := .type "set", dict := none, data := .set #[] 0 (.fresh 0 0 led) }).get? s.heap.objs.size = some { cls := .type "set", dict := none, data := .set #[] 0 (.fresh 0 0 led) } := Heap.get?_push_size _ rfl
  refine ⟨⟨_, hS, rfl⟩, fun {M A' Q' E'} q => check_set_init_1 ⟨_, hS, rfl⟩ q, ?_⟩
  obtain ⟨ol, hol, hcl, nl, hdl⟩ := hl
  obtain ⟨ocls, odict, odata, oslots⟩ := ol
  simp only at hcl hdl
  subst hcl; subst hdl
  have hol' : (s.heap.push { cls := .type "set", dict := none, data := .set #[] 0 (.fresh 0 0 led) }).get? l = some { cls := .type "list", dict := odict, data := .seq items nl, slots := oslots } := Heap.get?_push_of_some _ hol
  have hT : Shared.TypeIs { s with heap := s.heap.push { cls := .type "set", dict := none, data := .set #[] 0 (.fresh 0 0 led) } } (.ref s.heap.objs.size) "set" := ⟨_, hS, rfl⟩
  have hsls := F.sub_list_set
  have hslf := F.sub_list_frozenset
  have hne : (Value.type "list" == Value.type "dict") = false := by decide
  have hl1 : (s.heap.push { cls := .type "set", dict := none, data := .set #[] 0 (.fresh 0 0 led) }).IsList l items := ⟨_, hol', rfl, nl, rfl⟩
  unfold Builtin.«set.__init__» noKeywords Builtin.Frozenset.updateFrom
  generalize hPI : pyIter = PI
  wp_walk
  subst hPI
  refine wpAny_pyIter_list hl1 ?_
  refine wpAny_bind (wpAny_runValue ?_)
  have hlS : l < s.heap.objs.size := Heap.lt_size hol
  have hsp : (s.heap.push { cls := .type "set", dict := none, data := .set #[] 0 (.fresh 0 0 led) }).objs.size = s.heap.objs.size + 1 := Heap.size_push ..
  refine upd_set1 (ep := 0) (led := led) (ns := ns) (by simp [hh]) hled.symm (Heap.get?_push_of_some _ hS) ⟨_, Heap.get?_push_size _ rfl, rfl, rfl⟩ (hl1.push _) (by dsimp only; rw [hsp]; exact Nat.ne_of_gt (Nat.lt_succ_self _)) (Nat.ne_of_lt hlS) (by dsimp only; rw [hsp]; exact Nat.ne_of_lt (Nat.lt_succ_of_lt hlS)) hi hb
    (fun h' tk' es ep' t X kp => ?_)
  show wpAny _ _ _ _ _ _
  refine wpAny_pure ?_
  show wpAny _ _ (ret Value.none) _ _ _
  refine wpAny_pure ⟨rfl, h _ _ _ _ _ X fun b o e => ?_⟩
  refine kp b o (Nat.ne_of_lt (Heap.lt_size e)) (by dsimp only; rw [hsp]; exact Nat.ne_of_lt (Nat.lt_succ_of_lt (Heap.lt_size e))) (Heap.get?_push_of_some _ (Heap.get?_push_of_some _ e))
end
-- Set3
section
variable {prog : Program} {w : World} {A : Around} {E : Value → Shared → Prop} {s : Shared} {r it : Addr} {es : Array (Int × Value)} {ep : Nat} {t : SetTable} {ns : List Int}
theorem hint_set {Q : Bool → Shared → Prop} (hT : s.TypeIs (.ref r) "set") (h : Q false s) : wpAny (model prog w) A (Builtin.List.listLengthHint (.ref r)) Q E s := by
  unfold Builtin.List.listLengthHint
  refine wpAny_bind (wpAny_specialOf hT PySem.F.slot_set_len.lookup ?_)
  generalize hid : ("set.__len__" : String) = id0
  wp_delta
  rw [show splitId id0 = some ("set", "__len__") from by subst hid; decide +kernel]
  subst hid
  refine wpAny_bind (wpAny_isInstance (T := "set") (b := true) hT (by rw [isSubtype_type]; kernel_rfl) ?_)
  refine wpAny_ite_split (fun hab => absurd hab (by decide)) (fun J => ?_)
  refine wpAny_ite_split (fun J => ?_) (fun hab => absurd (by kernel_rfl!) hab)
  refine wpAny_bind (wpAny_typeOf hT ?_)
  exact wpAny_pure h
theorem SIAt.at {h h' : Heap} {i n : Nat} {b : Bool} (x : SIAt h it r i n ep t b) (k : ∀ o, h.get? it = some o → h'.get? it = some o) : SIAt h' it r i n ep t b := x.elim fun slot z => ⟨slot, k _ z.1, z.2⟩
theorem one_elem {ns : List Int} (h2 : ns.length < 2) {i : Nat} (hi : i < ns.length) : ∃ k, ns = [k] := by
  rcases ns with J | ⟨v, J | ⟨J, J⟩⟩
  · exact absurd hi (Nat.not_lt_zero _)
  · exact ⟨v, rfl⟩
  · exact absurd h2 (by simp)
theorem perm_short {ms ns : List Int} (h2 : ns.length < 2) (hp : ms.Perm ns) : ms = ns := by
  rcases ns with J | ⟨v, J | ⟨J, J⟩⟩
  · exact List.Perm.eq_nil hp
  · exact List.perm_singleton.mp hp
  · exact absurd h2 (by simp)
theorem walks_set (hh : A.handled = none) (hne : r ≠ it) (h2 : ns.length < 2) :
    Walks prog w A it [it, r] [it] ns.length (fun i v => ∃ t, v = .int (ns.getD i 0) t) (fun i h => SIAt h it r i ns.length ep t (w.params.followText "set-order") ∧ SetAt w h r es ep t ns) where
  sub := fun b hb => by simp at hb; simp [hb]
  frame := fun J J J st hk => ⟨st.1.at fun o e => hk it (by simp) o e, st.2.at fun o e => hk r (by simp) o e⟩
  item := fun i s Q E hi st hQ => by
    obtain ⟨y, x⟩ := st
    obtain ⟨k, rfl⟩ := one_elem h2 hi
    · obtain rfl : i = 0 := Nat.lt_one_iff.mp hi
      refine pyNext_si_item rfl x y fun tk h' y' sb => ?_
      exact hQ (.int k tk) h' s.toks ⟨tk, rfl⟩ ⟨y', x.at fun o e => (sb.2 r hne).trans e⟩ fun b o hb e => (sb.2 b (fun q => hb (by simp [q]))).trans e
  done := fun s Q E st hQ => pyNext_si_end hh rfl st.2 st.1 fun h' he' => hQ h' s.toks fun b o hb e => he' b o (fun q => hb (by simp [q])) e
  self := fun J J J J st hQ => pyIter_si st.1 hQ
theorem set_src (h2 : ns.length < 2) : KdlSrc prog w "set" r r ns.length (fun i v => ∃ t, v = .int (ns.getD i 0) t) (fun h => SetAt w h r es ep t ns) where
  type := fun J x => ⟨_, x.at_, rfl⟩
  there := fun J x => ⟨Heap.lt_size x.at_, Heap.lt_size x.at_⟩
  keep := fun J J x hk => x.at fun o e => hk r (.inl rfl) o e
  notList := by decide
  notTuple := by decide
  hint := fun J J J J x hq => hint_set ⟨_, x.at_, rfl⟩ hq
  iter := fun J s hh x => ⟨siObj 0 0 r ns.length ep, _, (fun J J hq => pyIter_set x hq), walks_set hh (Nat.ne_of_lt (Heap.lt_size x.at_)) h2,
    ⟨⟨0, Heap.get?_push_size _ rfl, fun J => rfl, fun J q j hj => by cases q⟩, x.at fun o e => Heap.get?_push_of_some _ e⟩⟩
end
section
variable {c : Cx} {d : Nat} {sc : Scope} {B : Bs} {σ : Sg} {Q : AV → Sg → Prop}
/- A call of a builtin with one argument, whatever it is. -/
theorem callRaw1 {n : Str} {p pos : Pos} {a : Expr} (T : TopOK c) (hn : biOk n = true) (hkn : (sc.names.lookup n == some .globalImplicit) = true) (hd : (n == ("__debug__" : Str)) = false) (ha : isStarred a = false)
    {A s env F} (rm : Room d A) (k : EnvOK sc env) (hF : ∀ a ∈ fenv env, a ∈ F) (st : St c F σ s) (fr : Frm c env B (F ++ own σ) s.heap) {Q : Value → Shared → Prop}
    (h : ∀ s₁, St c F σ s₁ → Evo σ s.heap σ s₁.heap → wpAny c.M A (eval a env) (fun v s' => (∀ a o, c.h0.get? a = some o → s'.heap.get? a = some o) ∧ wpAny c.M A (call (biV n) [v]) Q nope s') nope s₁) : wpAny c.M A (eval (.Call (.Name n p) [a] [] pos) env) Q nope s := by
  rw [eval_Call_Name]
  refine wpAny_bind (wpAny_mono (EvalP.gbV (Q := fun x σ' => x = .val (biV n) ∧ σ' = σ) (pos := p) T ⟨rfl, rfl⟩ hn hkn hd A s env F rm k hF st fr) (fun v s₁ h₁ => ?_) fun J J z => z)
  obtain ⟨x, σ₁, st₁, e₁, r₁, rfl, rfl⟩ := h₁
  cases (show v = _ from r₁)
  show wpAny c.M A (callWith pos (biV n) [] (backTo pos (starEach [a] env)) []) Q nope s₁
  rw [show backTo pos (starEach [a] env) = [(false, eval a env)] from star_cons [] env pos ha]
  refine callWith_of (P := fun h => (∀ a o, c.h0.get? a = some o → h.get? a = some o)) rfl (fun h b => KeepOK.bi hn h [] _ b rfl) (evalArgs_plain (wpAny_mono (Calls.spliced_cons (Q := fun vs s' => ∃ v, vs = [v] ∧ ((∀ a o, c.h0.get? a = some o → s'.heap.get? a = some o) ∧ wpAny c.M A (call (biV n) [v]) Q nope s')) (wpAny_mono (h s₁ st₁ e₁) (fun v s' z => ?_) fun J J z => z)) (fun vs s' z => ?_) fun J J z => z))
  · exact spliced_nil ⟨v, rfl, z⟩
  · obtain ⟨v, rfl, z1, z2⟩ := z
    exact ⟨z1, z2⟩
theorem evalP_sortedSet {ns : List Int} {e : Expr} {p1 p2 q1 q2 : Pos} (T : TopOK c) (hl : ns.length < 2) (h : EvalP c d sc B σ e fun x σ₁ => x = Li (lits ns) ∧ Q (Li (lits ns)) σ₁) (he : isStarred e = false)
    (hk1 : (sc.names.lookup ("sorted" : Str) == some .globalImplicit) = true) (hk2 : (sc.names.lookup ("set" : Str) == some .globalImplicit) = true) :
    EvalP c d sc B σ (.Call (.Name "sorted" p1) [.Call (.Name "set" p2) [e] [] q1] [] q2) Q := fun A s env F rm k hF st f => by
  refine callRaw1 T (by kernel_rfl!) hk1 (by kernel_rfl!) rfl rm k hF st f fun s₁ st₁ e₁ => ?_
  have f₁ := f.evo st e₁ hF
  refine callRaw (K := fun ys σ₁ => ys = [Li (lits ns)] ∧ Q (Li (lits ns)) σ₁) T (by kernel_rfl!) hk2 (by kernel_rfl!) (by simp [he]) (EvalsP.cons (h.mono fun x σ' z => EvalsP.nil ⟨by rw [z.1], z.2⟩) he) rm k hF st₁ f₁ fun ys vs σ₂ s₂ st₂ e₂ r₂ z => ?_
  obtain ⟨rfl, hq⟩ := z
  obtain ⟨v, rfl, r₃⟩ := rpAll_one r₂
  obtain ⟨as, r', hn⟩ := r₃
  obtain ⟨l, o, items, k', as', rfl, rfl, h1, h2, h3, h4, h5⟩ := rd_lst r'
  have hI : IntsAre items.toList ns := rdAll_ints h4
  rw [show biV "set" = .type "set" from by kernel_rfl]
  refine call_set1 rm.handled ⟨o, h1, h2, k', h3⟩ hI hl fun h' tk es ep t X kp => ?_
  have st₃ : St c F σ₂ { s₂ with heap := h', toks := tk } := st₂.on kp
  refine ⟨st₃.base, ?_⟩
  rw [show biV "sorted" = .builtin "sorted" from biV_sorted]
  refine wpAny_mono (sorted_src (Q := Q) (ns := ns) (set_src hl) rfl (fun J J z => z) (by lia) rm.handled X st₃ fun ms hp J => ?_) (fun J J z => ?_) fun J J z => z
  · rw [perm_short hl hp]; exact hq
  · exact .trans (e₁.trans (e₂.trans (.on σ₂ kp))) z
end
-- Con18
section
variable {c : Cx} {d : Nat} {B : Bs} {σ : Sg} {Q : AV → Sg → Prop} {N : Bs → Sg → Prop} {R : AV → Sg → Prop} {va ta ma fa la : Addr}

noncomputable abbrev LB (k : Nat) : List Stmt := (fBody (topS 33)).drop k
noncomputable abbrev lsc : Scope := fScope (topS 33)
structure L1 (σ : Sg) (fa va ta ma la : Addr) (cells : List Int) (k : Int) (vs : List PyData) : Prop where
  hf : (fa, feedD cells k) ∈ σ
  hv : (va, OB.lst vs) ∈ σ
  ht : (ta, OB.lst []) ∈ σ
  hm : (ma, OB.dT []) ∈ σ
  hl : (la, OB.dI []) ∈ σ
  fv : fa ≠ va
  ft : fa ≠ ta
  fm : fa ≠ ma
  fl : fa ≠ la
  vt : va ≠ ta
  vm : va ≠ ma
  vl : va ≠ la
  tm : ta ≠ ma
  tl : ta ≠ la
  ml : ma ≠ la
theorem L1.next {cells k vs} (L : L1 σ fa va ta ma la cells k vs) {k' : Int} (hk : k + 1 = k') : L1 (upd σ fa (feedD cells (k + 1))) fa va ta ma la cells k' vs := by
  subst hk
  exact ⟨mem_upd (mem_own L.hf), mem_upd_ne L.hv (Ne.symm L.fv), mem_upd_ne L.ht (Ne.symm L.ft), mem_upd_ne L.hm (Ne.symm L.fm), mem_upd_ne L.hl (Ne.symm L.fl), L.fv, L.ft, L.fm, L.fl, L.vt, L.vm, L.vl, L.tm, L.tl, L.ml⟩
theorem L1.newv {cells k vs x} (L : L1 σ fa va ta ma la cells k vs) : L1 (upd σ va (.lst (vs ++ [x]))) fa va ta ma la cells k (vs ++ [x]) :=
  ⟨mem_upd_ne L.hf L.fv, mem_upd (mem_own L.hv), mem_upd_ne L.ht (Ne.symm L.vt), mem_upd_ne L.hm (Ne.symm L.vm), mem_upd_ne L.hl (Ne.symm L.vl), L.fv, L.ft, L.fm, L.fl, L.vt, L.vm, L.vl, L.tm, L.tl, L.ml⟩

noncomputable abbrev B1 (scr : List Int) (fa va ta ma la : Addr) : Bs := [("late", .ref la), ("f", Fu va ta ma), ("feed", .ref fa), ("script", Li (lits scr))]
theorem law_0 (T : TopOK c) {scr : List Int} (hs : scr.length ≤ 63) (K : ∀ fa va ta ma la σ', L1 σ' fa va ta ma la (scr.take 40) 0 [] → ExecsP c (d + 30) lsc (B1 scr fa va ta ma la) σ' (LB 1) N R) :
    ExecsP c (d + 30) lsc [("script", Li (lits scr))] [] (LB 0) N R := by
  with_reducible refine ExecsP.seqAt 0 (fBody (topS 33)) (by with_unfolding_all rfl) (fun B' σ' => ∃ fa va ta ma la, B' = B1 scr fa va ta ma la ∧ L1 σ' fa va ta ma la (scr.take 40) 0 []) ?_ (fun B' σ' hz9 => by obtain ⟨fa, va, ta, ma, la, e, L⟩ := hz9; subst e; exact K _ _ _ _ _ _ L)
  with_reducible refine ExecP.assigns ?_ (by with_unfolding_all rfl) (by with_unfolding_all rfl) (by with_unfolding_all rfl)
  with_reducible refine EvalsP.cons ?_ (by with_unfolding_all rfl)
  with_reducible refine EvalP.dict2 (by kernel_rfl!) (fun fa nfa => ?_)
  repeat trivial
  refine EvalP.headL (xs := lits scr) (by rw [List.length_map]; lia) ?_ (by intro J J; rfl)
  repeat trivial
  have e1 : (lits scr).take 40 = lits (scr.take 40) := by simp [lits, List.map_take]
  rw [e1]
  have hcl : (scr.take 40).length ≤ 1000000 := by rw [List.length_take]; lia
  with_reducible refine bi_listL (by rw [List.length_map]; exact hcl) ?_
  with_reducible refine EvalP.int ⟨List.mem_singleton.mpr rfl, ?_⟩
  with_reducible refine EvalsP.cons (EvalP.newFuns T fun va ta ma n1 n2 n3 o1 o2 o3 => ?_) (by with_unfolding_all rfl)
  with_reducible refine EvalsP.cons (EvalP.dict0 (.dI []) (.inl rfl) fun la nla => ?_) (by with_unfolding_all rfl)
  with_reducible refine EvalsP.nil ⟨?_, rfl⟩
  rw [own_upd] at o1 o2 o3
  have of : ∀ x, x ∉ own [(fa, OB.dS [])] → fa ≠ x := fun x h e => h (by rw [← e]; exact .head _)
  have nla' : la ≠ va ∧ la ≠ ta ∧ la ≠ ma ∧ la ≠ fa := by
    have : ∀ x, x ∈ own ((va, OB.lst []) :: (ta, .lst []) :: (ma, .dT []) :: upd [(fa, OB.dS [])] fa (OB.dS [("cells", Li (lits (scr.take 40))), ("spot", I 0)])) → la ≠ x := fun x h e => nla (e ▸ h)
    refine ⟨this _ (.head _), this _ (.tail _ (.head _)), this _ (.tail _ (.tail _ (.head _))), this _ (.tail _ (.tail _ (.tail _ ?_)))⟩
    show fa ∈ own (upd _ _ _)
    rw [own_upd]; exact .head _
  have L : L1 ((la, OB.dI []) :: (va, OB.lst []) :: (ta, .lst []) :: (ma, .dT []) :: upd [(fa, OB.dS [])] fa (OB.dS [("cells", Li (lits (scr.take 40))), ("spot", I 0)])) fa va ta ma la (scr.take 40) 0 [] :=
    ⟨.tail _ (.tail _ (.tail _ (.tail _ (mem_upd (List.mem_singleton.mpr rfl))))), .tail _ (.head _), .tail _ (.tail _ (.head _)), .tail _ (.tail _ (.tail _ (.head _))), .head _, of _ o1, of _ o2, of _ o3, nla'.2.2.2.symm, n1, n2, nla'.1.symm, n3, nla'.2.1.symm, nla'.2.2.1.symm⟩
  with_reducible refine AsgsP.cons (AsgP.name (k := .cell) (by kernel_rfl!) ?_ (.inr ⟨rfl, (by kernel_rfl!)⟩))
  with_reducible refine AsgsP.cons (AsgP.name (k := .local) (by kernel_rfl!) ?_ (.inl rfl))
  with_reducible refine AsgsP.cons (AsgP.name (k := .local) (by kernel_rfl!) ?_ (.inl rfl))
  with_reducible exact AsgsP.nil ⟨_, _, _, _, _, rfl, L⟩
end
-- Con19
section
variable {c : Cx} {d : Nat} {B : Bs} {σ : Sg} {Q : AV → Sg → Prop} {N : Bs → Sg → Prop} {R : AV → Sg → Prop} {va ta ma fa la : Addr}

noncomputable abbrev B2 (scr : List Int) (fa va ta ma la : Addr) (low hole base : Int) : Bs := ("low", I low) :: ("hole", I hole) :: ("base", I base) :: B1 scr fa va ta ma la
theorem law_1 (T : TopOK c) {scr cells : List Int} (hc : cells.length ≤ 100) (L : L1 σ fa va ta ma la cells 0 [])
    (K : ∀ low hole base σ', -1 ≤ low → low ≤ 1 → 0 ≤ hole → hole ≤ 1 → 0 ≤ base → base ≤ 1 → L1 σ' fa va ta ma la cells 3 [] → ExecsP c (d + 30) lsc (B2 scr fa va ta ma la low hole base) σ' (LB 2) N R) :
    ExecsP c (d + 30) lsc (B1 scr fa va ta ma la) σ (LB 1) N R := by
  with_reducible refine ExecsP.seqC 1 (fBody (topS 33)) (by with_unfolding_all rfl) (fun B' σ' => ∃ low hole base, -1 ≤ low ∧ low ≤ 1 ∧ 0 ≤ hole ∧ hole ≤ 1 ∧ 0 ≤ base ∧ base ≤ 1 ∧ B' = B2 scr fa va ta ma la low hole base ∧ L1 σ' fa va ta ma la cells 3 []) ?_ (fun B' σ' hz9 => by obtain ⟨low, hole, base, h1, h2, h3, h4, h5, h6, e, L⟩ := hz9; subst e; exact K _ _ _ _ h1 h2 h3 h4 h5 h6 L)
  repeat trivial
  with_reducible refine next_ok T L.hf (by decide) (by decide) hc (by decide) (fun r1 a1 b1 => ?_)
  have L2 := L.next (k' := 1) rfl
  repeat trivial
  with_reducible refine next_ok T L2.hf (by decide) (by decide) hc (by decide) (fun r2 a2 b2 => ?_)
  have L3 := L2.next (k' := 2) rfl
  repeat trivial
  with_reducible refine next_ok T L3.hf (by decide) (by decide) hc (by decide) (fun r3 a3 b3 => ?_)
  have L4 := L3.next (k' := 3) rfl
  repeat trivial
  refine ⟨⟨_, ?_, r1 - 1, r2, r3, by lia, by lia, a2, by lia, a3, by lia, rfl, L4⟩, rfl⟩
  exact ⟨by repeat trivial, by repeat trivial, by repeat trivial, by repeat trivial, by repeat trivial, by repeat trivial, by repeat trivial, trivial⟩

noncomputable def dlX (low hole : Int) : Dl := if hole = 0 then [(low, low + 2)] else [(low, low + 1), (low + 3, low + 3)]
noncomputable def vs0 (low hole base : Int) : List Vr := [("x", dlX low hole), ("y", [(base, base + 1)]), ("b", [(0, 1)])]
theorem law_2 (T : TopOK c) {scr cells : List Int} {low hole base : Int} (hh : 0 ≤ hole ∧ hole ≤ 1) (L : L1 σ fa va ta ma la cells 3 [])
    (K : ∀ σ', L1 σ' fa va ta ma la cells 3 [vD ("x", dlX low hole)] → ExecsP c (d + 30) lsc (B2 scr fa va ta ma la low hole base) σ' (LB 3) N R) :
    ExecsP c (d + 30) lsc (B2 scr fa va ta ma la low hole base) σ (LB 2) N R := by
  have L2 := L.newv (x := vD ("x", dlX low hole))
  have hv := L.hv
  with_reducible refine ExecsP.seqAt 2 (fBody (topS 33)) (by with_unfolding_all rfl) (fun B' σ' => B' = B2 scr fa va ta ma la low hole base ∧ L1 σ' fa va ta ma la cells 3 [vD ("x", dlX low hole)]) ?_ (fun B' σ' hz9 => by obtain ⟨e, L⟩ := hz9; subst e; exact K _ L)
  repeat trivial
  by_cases h0 : hole = 0
  · have e : dlX low hole = [(low, low + 2)] := if_pos h0
    rw [e] at L2 ⊢
    have e0 : decide (hole = 0) = true := decide_eq_true h0
    repeat trivial
    refine new_var_ok T hv (by decide) ?_
    exact ⟨rfl, L2⟩
  · have e : dlX low hole = [(low, low + 1), (low + 3, low + 3)] := if_neg h0
    rw [e] at L2 ⊢
    have e0 : decide (hole = 0) = false := decide_eq_false h0
    repeat trivial
    refine new_var_ok T hv (by decide) ?_
    exact ⟨rfl, L2⟩
theorem law_3 (T : TopOK c) {scr cells : List Int} {low hole base : Int} (L : L1 σ fa va ta ma la cells 3 [vD ("x", dlX low hole)])
    (K : ∀ σ', L1 σ' fa va ta ma la cells 3 [vD ("x", dlX low hole), vD ("y", [(base, base + 1)])] → ExecsP c (d + 30) lsc (B2 scr fa va ta ma la low hole base) σ' (LB 4) N R) :
    ExecsP c (d + 30) lsc (B2 scr fa va ta ma la low hole base) σ (LB 3) N R := by
  have L2 := L.newv (x := vD ("y", [(base, base + 1)]))
  have hv := L.hv
  with_reducible refine ExecsP.seqAt 3 (fBody (topS 33)) (by with_unfolding_all rfl) (fun B' σ' => B' = B2 scr fa va ta ma la low hole base ∧ L1 σ' fa va ta ma la cells 3 [vD ("x", dlX low hole), vD ("y", [(base, base + 1)])]) ?_ (fun B' σ' hz9 => by obtain ⟨e, L⟩ := hz9; subst e; exact K _ L)
  repeat trivial
  refine new_var_ok T hv (by show 1 ≤ _; decide) ?_
  exact ⟨rfl, L2⟩
theorem law_4 (T : TopOK c) {scr cells : List Int} {low hole base : Int} (L : L1 σ fa va ta ma la cells 3 [vD ("x", dlX low hole), vD ("y", [(base, base + 1)])])
    (K : ∀ σ', L1 σ' fa va ta ma la cells 3 ((vs0 low hole base).map vD) → ExecsP c (d + 30) lsc (B2 scr fa va ta ma la low hole base) σ' (LB 5) N R) :
    ExecsP c (d + 30) lsc (B2 scr fa va ta ma la low hole base) σ (LB 4) N R := by
  have L2 := L.newv (x := vD ("b", [(0, 1)]))
  have hv := L.hv
  with_reducible refine ExecsP.seqAt 4 (fBody (topS 33)) (by with_unfolding_all rfl) (fun B' σ' => B' = B2 scr fa va ta ma la low hole base ∧ L1 σ' fa va ta ma la cells 3 ((vs0 low hole base).map vD)) ?_ (fun B' σ' hz9 => by obtain ⟨e, L⟩ := hz9; subst e; exact K _ L)
  repeat trivial
  refine new_var_ok T hv (by show 2 ≤ _; decide) ?_
  exact ⟨rfl, L2⟩
noncomputable abbrev B3 (scr : List Int) (fa va ta ma la : Addr) (low hole base k : Int) : Bs := ("things", Li ((thingsOf k).map fun p => thingD p.1 p.2)) :: B2 scr fa va ta ma la low hole base
theorem law_5 (T : TopOK c) {scr cells : List Int} {low hole base : Int} {vs : List PyData} (hc : cells.length ≤ 100) (L : L1 σ fa va ta ma la cells 3 vs)
    (K : ∀ k σ', -1 ≤ k → k ≤ 3 → L1 σ' fa va ta ma la cells 4 vs → ExecsP c (d + 30) lsc (B3 scr fa va ta ma la low hole base k) σ' (LB 6) N R) :
    ExecsP c (d + 30) lsc (B2 scr fa va ta ma la low hole base) σ (LB 5) N R := by
  with_reducible refine ExecsP.seqAt 5 (fBody (topS 33)) (by with_unfolding_all rfl) (fun B' σ' => ∃ k, -1 ≤ k ∧ k ≤ 3 ∧ B' = B3 scr fa va ta ma la low hole base k ∧ L1 σ' fa va ta ma la cells 4 vs) ?_ (fun B' σ' hz9 => by obtain ⟨k, h1, h2, e, L⟩ := hz9; subst e; exact K _ _ h1 h2 L)
  repeat trivial
  with_reducible refine next_ok T L.hf (by decide) (by decide) hc (by decide) (fun r1 a1 b1 => ?_)
  have L2 := L.next (k' := 4) rfl
  repeat trivial
  with_reducible refine things_ok T ?_
  repeat trivial
  exact ⟨_, by lia, by lia, rfl, L2⟩
end
-- Con20
section
variable {c : Cx} {d : Nat} {B : Bs} {σ : Sg} {Q : AV → Sg → Prop} {N : Bs → Sg → Prop} {R : AV → Sg → Prop} {va ta ma fa la wa : Addr}

theorem things_len {k : Int} : ((thingsOf k).map fun p => thingD p.1 p.2).length = 7 := rfl
theorem law_6 (T : TopOK c) {scr cells : List Int} {low hole base k : Int} {vs : List PyData} (hc : cells.length ≤ 100) (L : L1 σ fa va ta ma la cells 4 vs)
    (K : ∀ ps n σ', 0 ≤ n → n ≤ 10 → 1 ≤ ps.length → ps.length ≤ 3 → (∀ p ∈ ps, 0 ≤ p ∧ p < 7) → L1 σ' fa va ta ma la cells n vs → ExecsP c (d + 30) lsc (("places", Li (lits ps)) :: B3 scr fa va ta ma la low hole base k) σ' (LB 7) N R) :
    ExecsP c (d + 30) lsc (B3 scr fa va ta ma la low hole base k) σ (LB 6) N R := by
  with_reducible refine ExecsP.seqAt 6 (fBody (topS 33)) (by with_unfolding_all rfl) (fun B' σ' => ∃ ps n, 0 ≤ n ∧ n ≤ 10 ∧ 1 ≤ List.length ps ∧ List.length ps ≤ 3 ∧ (∀ p ∈ ps, 0 ≤ p ∧ p < 7) ∧ B' = (("places", Li (lits ps)) :: B3 scr fa va ta ma la low hole base k : Bs) ∧ L1 σ' fa va ta ma la cells n vs) ?_ (fun B' σ' hz9 => by obtain ⟨ps, n, h0, h1, h2, h3, h4, e, L⟩ := hz9; subst e; exact K _ _ _ h0 h1 h2 h3 h4 L)
  with_reducible refine ExecP.assignC ?_ (by with_unfolding_all rfl) (by with_unfolding_all rfl)
  with_reducible refine EvalP.comp [("feed", .ref fa), ("things", Li ((thingsOf k).map fun p => thingD p.1 p.2))] ?_ (compOK_of ["feed", "things"] rfl (by kernel_rfl!)) ?_ rfl (by intros; with_unfolding_all rfl)
  · exact ⟨by repeat trivial, by repeat trivial, trivial⟩
  repeat trivial
  with_reducible refine next_ok T L.hf (by decide) (by decide) hc (by decide) (fun r1 a1 b1 => ?_)
  have L2 := L.next (k' := 5) rfl
  generalize upd σ fa (feedD cells (4 + 1)) = σ1 at L2
  repeat trivial
  refine ⟨_, fun i zs σ' => ∃ ps : List Int, zs = lits ps ∧ ps.length = i ∧ (∀ p ∈ ps, 0 ≤ p ∧ p < 7) ∧ L1 σ' fa va ta ma la cells (5 + i) vs, IterP.rng (by decide) (by decide) (by lia) (by have : (2:Int)^60 = 1152921504606846976 := rfl; lia), ⟨[], rfl, rfl, fun p q => (List.not_mem_nil q).elim, by simpa using L2⟩, ?_, ?_⟩
  · rintro i y zs σ' hy ⟨ps, rfl, hl, hp, L3⟩
    obtain ⟨rfl, hi⟩ := nums_get hy
    have hz7 : ((thingsOf k).map fun p => thingD p.1 p.2).length < 2 ^ 63 := by rw [things_len]; decide
    with_reducible refine AsgP.name (k := .local) (by kernel_rfl!) ?_ (.inl rfl)
    refine ⟨⟨by repeat trivial, by repeat trivial, trivial⟩, brT ?_⟩
    show EvalP _ _ _ _ _ _ _
    repeat trivial
    rw [things_len]
    with_reducible refine next_ok T L3.hf (by lia) (by lia) hc (by decide) (fun r2 a2 b2 => ?_)
    refine ⟨_, rfl, by rw [List.length_map]; lia, ps ++ [r2], by simp [lits], by rw [List.length_append, hl]; rfl, fun p q => ?_, L3.next (by lia)⟩
    rcases List.mem_append.mp q with q | q
    · exact hp p q
    · rw [List.mem_singleton.mp q]; exact ⟨a2, b2⟩
  · rintro zs σ' ⟨ps, rfl, hl, hp, L3⟩
    rw [nums_len] at hl L3
    repeat trivial
    exact ⟨ps, _, by lia, by lia, by lia, by lia, hp, rfl, L3⟩

noncomputable abbrev B4 (scr : List Int) (fa va ta ma la : Addr) (low hole base k : Int) (ps : List Int) (other last goal : Int) : Bs := ("other", I other) :: ("last", I last) :: ("goal", I goal) :: ("places", Li (lits ps)) :: B3 scr fa va ta ma la low hole base k
theorem law_7 (T : TopOK c) {scr cells ps : List Int} {low hole base k n : Int} {vs : List PyData} (hc : cells.length ≤ 100) (h0 : 0 ≤ n) (h10 : n ≤ 10) (L : L1 σ fa va ta ma la cells n vs)
    (K : ∀ other last goal σ', 0 ≤ other → other < 7 → 0 ≤ last → last < 5 → 0 ≤ goal → goal < 4 → L1 σ' fa va ta ma la cells (n + 3) vs → ExecsP c (d + 30) lsc (B4 scr fa va ta ma la low hole base k ps other last goal) σ' (LB 8) N R) :
    ExecsP c (d + 30) lsc (("places", Li (lits ps)) :: B3 scr fa va ta ma la low hole base k) σ (LB 7) N R := by
  with_reducible refine ExecsP.seqC 7 (fBody (topS 33)) (by with_unfolding_all rfl) (fun B' σ' => ∃ other last goal, 0 ≤ other ∧ other < 7 ∧ 0 ≤ last ∧ last < 5 ∧ 0 ≤ goal ∧ goal < 4 ∧ B' = B4 scr fa va ta ma la low hole base k ps other last goal ∧ L1 σ' fa va ta ma la cells (n + 3) vs) ?_ (fun B' σ' hz9 => by obtain ⟨o, l, g, h1, h2, h3, h4, h5, h6, e, L⟩ := hz9; subst e; exact K _ _ _ _ h1 h2 h3 h4 h5 h6 L)
  have hz7 : ((thingsOf k).map fun p => thingD p.1 p.2).length < 2 ^ 63 := by rw [things_len]; decide
  repeat trivial
  rw [things_len]
  with_reducible refine next_ok T L.hf h0 (by lia) hc (by decide) (fun r1 a1 b1 => ?_)
  have L2 := L.next (k' := n + 1) rfl
  repeat trivial
  with_reducible refine next_ok T L2.hf (by lia) (by lia) hc (by decide) (fun r2 a2 b2 => ?_)
  have L3 := L2.next (k' := n + 2) (by lia)
  repeat trivial
  with_reducible refine next_ok T L3.hf (by lia) (by lia) hc (by decide) (fun r3 a3 b3 => ?_)
  have L4 := L3.next (k' := n + 3) (by lia)
  repeat trivial
  refine ⟨⟨_, ?_, r1, r2, r3, a1, b1, a2, b2, a3, b3, rfl, L4⟩, rfl⟩
  exact ⟨by repeat trivial, by repeat trivial, by repeat trivial, by repeat trivial, by repeat trivial, by repeat trivial, by repeat trivial, by repeat trivial, by repeat trivial, by repeat trivial, by repeat trivial, by repeat trivial, trivial⟩

noncomputable def entA (k p : Int) : Th × Int × Int × Int × Int := ((thingsOf k)[p.toNat]?).getD (.it 0, 0, 0, 0, 0)
noncomputable abbrev thA (k p : Int) : Th := (entA k p).1
theorem ent_at {k p : Int} (h : 0 ≤ p ∧ p < 7) : (thingsOf k)[p.toNat]? = some (entA k p) := by
  have : p.toNat < (thingsOf k).length := by show _ < 7; lia
  unfold entA
  rw [List.getElem?_eq_getElem this]; rfl
theorem things_at {k p : Int} (h : 0 ≤ p ∧ p < 7) : ((thingsOf k).map fun p => thingD p.1 p.2)[p.toNat]? = some (thingD (thA k p) (entA k p).2) := by
  rw [List.getElem?_map, ent_at h]; rfl
noncomputable abbrev someT (k : Int) (ps : List Int) : List Th := ps.map (thA k)
structure L2 (σ : Sg) (va ta ma la : Addr) (vs : List PyData) : Prop where
  hv : (va, OB.lst vs) ∈ σ
  ht : (ta, OB.lst []) ∈ σ
  hm : (ma, OB.dT []) ∈ σ
  hl : (la, OB.dI []) ∈ σ
  vt : va ≠ ta
  vm : va ≠ ma
  vl : va ≠ la
  tm : ta ≠ ma
  tl : ta ≠ la
  ml : ma ≠ la
theorem L1.l2 {cells k vs} (L : L1 σ fa va ta ma la cells k vs) : L2 σ va ta ma la vs := ⟨L.hv, L.ht, L.hm, L.hl, L.vt, L.vm, L.vl, L.tm, L.tl, L.ml⟩
theorem L2.ext {vs} {σ' : Sg} (L : L2 σ va ta ma la vs) (x : Ext [] σ σ') : L2 σ' va ta ma la vs := ⟨x.keep _ L.hv (by simp), x.keep _ L.ht (by simp), x.keep _ L.hm (by simp), x.keep _ L.hl (by simp), L.vt, L.vm, L.vl, L.tm, L.tl, L.ml⟩
noncomputable abbrev B5 (scr : List Int) (fa va ta ma la : Addr) (low hole base k : Int) (ps : List Int) (other last goal : Int) (w : AV) : Bs := ("some", Li ((someT k ps).map Th.d)) :: ("worths", w) :: B4 scr fa va ta ma la low hole base k ps other last goal
theorem law_8 (T : TopOK c) {scr ps : List Int} {low hole base k other last goal : Int} {vs : List PyData} (hp : ∀ p ∈ ps, 0 ≤ p ∧ p < 7) (hpl : ps.length ≤ 3) (L : L2 σ va ta ma la vs)
    (K : ∀ wa σ', (wa, OB.lst []) ∈ σ' → wa ∉ own σ → Ext [] σ σ' → ExecsP c (d + 30) lsc (B5 scr fa va ta ma la low hole base k ps other last goal (.ref wa)) σ' (LB 9) N R) :
    ExecsP c (d + 30) lsc (B4 scr fa va ta ma la low hole base k ps other last goal) σ (LB 8) N R := by
  with_reducible refine ExecsP.seqC 8 (fBody (topS 33)) (by with_unfolding_all rfl) (fun B' σ' => ∃ wa, B' = B5 scr fa va ta ma la low hole base k ps other last goal (.ref wa) ∧ (wa, OB.lst []) ∈ σ' ∧ wa ∉ own σ ∧ Ext [] σ σ') ?_ (fun B' σ' hz9 => by obtain ⟨wa, e, h1, h2, h3⟩ := hz9; subst e; exact K _ _ h1 h2 h3)
  with_reducible refine ExecP.swap2 ?_ (by kernel_rfl!) (by with_unfolding_all rfl)
  with_reducible refine EvalsP.cons ?_ (by with_unfolding_all rfl)
  with_reducible refine EvalP.compM ps PyData.int (fun p => (thA k p).d) [("things", Li ((thingsOf k).map fun p => thingD p.1 p.2))] ?_ (compOK_of ["things"] rfl (by kernel_rfl!)) ?_ (by lia) (by intros; with_unfolding_all rfl)
  · exact ⟨by repeat trivial, trivial⟩
  repeat trivial
  refine ⟨iter_litL, fun p q => ?_, ?_⟩
  · repeat trivial
    with_reducible refine subLp (x := thingD (thA k p) (entA k p).2) (things_at (hp p q)) ?_ (decide_eq_true (hp p q).1) (decide_eq_true (by have := (hp p q).2; have : (2:Int)^63 = 9223372036854775808 := rfl; lia))
    repeat trivial
  · with_reducible refine EvalsP.cons (EvalP.list0 fun wa nwa => ?_) (by with_unfolding_all rfl)
    have e : (ps.map fun p => (thA k p).d) = (someT k ps).map Th.d := by rw [List.map_map]; rfl
    rw [e]
    with_reducible refine EvalsP.nil ?_
    refine ⟨⟨_, ?_, wa, rfl, List.mem_cons_self .., nwa, .cons⟩, rfl⟩
    exact ⟨by repeat trivial, by repeat trivial, by repeat trivial, by repeat trivial, by repeat trivial, by repeat trivial, by repeat trivial, by repeat trivial, by repeat trivial, by repeat trivial, by repeat trivial, by repeat trivial, by repeat trivial, by repeat trivial, trivial⟩

noncomputable def worthOf (k : Int) (r : List Int) : List Int := (thingsOf k).map fun q => q.2.1 * rw_ r 0 + q.2.2.1 * rw_ r 1 + q.2.2.2.1 * rw_ r 2 + q.2.2.2.2
noncomputable abbrev entD (k : Int) (r : List Int) : PyData := .tuple [.list (lits r), .list (lits (worthOf k r))]
noncomputable abbrev psX (low hole : Int) : List Int := [low, low + 1, low + 2 + hole]
noncomputable def rowsOf (low hole base : Int) : List (List Int) := (psX low hole).flatMap fun p => [base, base + 1].flatMap fun q => [0, 1].map fun r => [p, q, r]
theorem ent_small {k : Int} : ∀ q ∈ thingsOf k, q.2.1.natAbs < 2 ^ 60 ∧ q.2.2.1.natAbs < 2 ^ 60 ∧ q.2.2.2.1.natAbs < 2 ^ 60 := fun q m => by
  simp only [thingsOf, List.mem_cons, List.not_mem_nil, or_false] at m
  rcases m with rfl | rfl | rfl | rfl | rfl | rfl | rfl <;> exact ⟨by simp only []; decide, by simp only []; decide, by simp only []; decide⟩
end
-- Con21
section
variable {c : Cx} {d : Nat} {B : Bs} {σ : Sg} {Q : AV → Sg → Prop} {N : Bs → Sg → Prop} {R : AV → Sg → Prop} {va ta ma fa la wa : Addr}

theorem seven {k : Int} : (thingsOf k).length ≤ 1000000 := by show 7 ≤ 1000000; decide
/- What a list that is filled in a loop holds ahead of a turn. -/
inductive AccI (σ : Sg) (a : Addr) (B : Bs) (X : Nat → List PyData) (i : Nat) (B' : Bs) (σ' : Sg) : Prop
  | mk : B' = B → (a, OB.lst (X i)) ∈ σ' → Ext [a] σ σ' → AccI σ a B X i B' σ'
theorem law_9 (T : TopOK c) {scr ps : List Int} {low hole base k other last goal : Int} (hk : -1 ≤ k ∧ k ≤ 3) (hw : (wa, OB.lst []) ∈ σ)
    (K : ∀ σ', (wa, OB.lst ((rowsOf low hole base).map (entD k))) ∈ σ' → Ext [wa] σ σ' → ExecsP c (d + 30) lsc (B5 scr fa va ta ma la low hole base k ps other last goal (.ref wa)) σ' (LB 10) N R) :
    ExecsP c (d + 30) lsc (B5 scr fa va ta ma la low hole base k ps other last goal (.ref wa)) σ (LB 9) N R := by
  with_reducible refine ExecsP.seqAt 9 (fBody (topS 33)) (by with_unfolding_all rfl) (AccI σ wa (B5 scr fa va ta ma la low hole base k ps other last goal (.ref wa)) (fun J => (rowsOf low hole base).map (entD k)) 0) ?_ (fun B' σ' hz9 => by obtain ⟨e, h1, h2⟩ := hz9; subst e; exact K _ h1 h2)
  with_reducible refine ExecP.forC ?_ (by intros; with_unfolding_all rfl)
  repeat trivial
  refine ⟨_, AccI σ wa (B5 scr fa va ta ma la low hole base k ps other last goal (.ref wa)) (fun i => (((psX low hole).take i).flatMap fun p => [base, base + 1].flatMap fun q => [0, 1].map fun r => [p, q, r]).map (entD k)), iter_litT (xs := psX low hole), ⟨_, cov_pre [] (by kernel_rfl), rfl, hw, .refl _ _⟩, ?_, ?_⟩
  · rintro i x B' σ1 hx ⟨rfl, hw1, x1⟩
    simp only [List.getElem?_map, Option.map_eq_some_iff] at hx
    obtain ⟨p, hp, rfl⟩ := hx
    generalize hpre : ((psX low hole).take i).flatMap (fun p => [base, base + 1].flatMap fun q => [0, 1].map fun r => [p, q, r]) = pre at hw1
    have hpl : pre.length ≤ 100 := by
      rw [← hpre]
      have hi : ((psX low hole).take i).length ≤ 3 := by rw [List.length_take]; show min i 3 ≤ 3; lia
      refine Nat.le_trans (flat_len (n := 4) ?_ _) (Nat.le_trans (Nat.mul_le_mul_left 4 hi) (by decide))
      exact fun x => Nat.le_refl 4
    refine AsgP.nameC ?_
    refine ExecsP.ab fun N1 hN1 => ?_
    with_reducible refine ExecsP.cons (ExecP.forC ?_ (by intros; with_unfolding_all rfl))
    repeat trivial
    refine ⟨_, AccI σ wa (("p", I p) :: B5 scr fa va ta ma la low hole base k ps other last goal (.ref wa)) (fun j => (pre ++ ([base, base + 1].take j).flatMap fun q => [0, 1].map fun r => [p, q, r]).map (entD k)), iter_litT (xs := [base, base + 1]), ⟨_, cov_pre [] (by kernel_rfl), rfl, by simpa using hw1, x1⟩, ?_, ?_⟩
    · rintro j y B' σ2 hy ⟨rfl, hw2, x2⟩
      simp only [List.getElem?_map, Option.map_eq_some_iff] at hy
      obtain ⟨q, hq, rfl⟩ := hy
      generalize hpre2 : pre ++ ([base, base + 1].take j).flatMap (fun q => [0, 1].map fun r => [p, q, r]) = pre2 at hw2
      have hpl2 : pre2.length ≤ 200 := by
        rw [← hpre2, List.length_append]
        have hj : ([base, base + 1].take j).length ≤ 2 := by rw [List.length_take]; show min j 2 ≤ 2; lia
        refine Nat.add_le_add hpl (Nat.le_trans (flat_len (n := 2) ?_ _) (Nat.le_trans (Nat.mul_le_mul_left 2 hj) (by decide : 2 * 2 ≤ 100)))
        exact fun x => Nat.le_refl 2
      refine AsgP.nameC ?_
      refine ExecsP.ab fun N2 hN2 => ?_
      with_reducible refine ExecsP.cons (ExecP.forC ?_ (by intros; with_unfolding_all rfl))
      repeat trivial
      refine ⟨_, AccI σ wa (("q", I q) :: ("p", I p) :: B5 scr fa va ta ma la low hole base k ps other last goal (.ref wa)) (fun l => (pre2 ++ (([0, 1] : List Int).take l).map fun r => [p, q, r]).map (entD k)), iter_litT (xs := [0, 1]), ⟨_, cov_pre [] (by kernel_rfl), rfl, by simpa using hw2, x2⟩, ?_, ?_⟩
      · rintro l z B' σ3 hz ⟨rfl, hw3, x3⟩
        simp only [List.getElem?_map, Option.map_eq_some_iff] at hz
        obtain ⟨r, hr, rfl⟩ := hz
        have hl2 : l < 2 := (List.getElem?_eq_some_iff.mp hr).1
        refine AsgP.nameC ?_
        refine ExecsP.ab fun N3 hN3 => ?_
        with_reducible refine ExecsP.cons (ExecP.expr ?_ (by with_unfolding_all rfl))
        with_reducible refine EvalP.method ?_ (by with_unfolding_all rfl) (by with_unfolding_all rfl) (by with_unfolding_all rfl) (by with_unfolding_all rfl)
        repeat trivial
        refine ⟨_, _, .append hw3, .builtin, ?_⟩
        repeat trivial
        with_reducible refine EvalP.compM (thingsOf k) (fun e => thingD e.1 e.2) (fun e => .int (e.2.1 * p + e.2.2.1 * q + e.2.2.2.1 * r + e.2.2.2.2)) [("p", I p), ("q", I q), ("r", I r)] ?_ (compOK_of ["p", "q", "r"] rfl (by kernel_rfl!)) ?_ seven (by intros; with_unfolding_all rfl)
        · exact ⟨by repeat trivial, by repeat trivial, by repeat trivial, trivial⟩
        repeat trivial
        refine ⟨iter_mapL, fun e he => ?_, ?_⟩
        · obtain ⟨e1, e2, e3⟩ := ent_small e he
          repeat trivial
          with_reducible refine ValP.mul e1 ?_
          repeat trivial
          with_reducible refine ValP.mul e2 ?_
          repeat trivial
          with_reducible refine ValP.mul e3 ?_
          repeat trivial
        · repeat trivial
          refine CallP.append (x := entD k [p, q, r]) hw3 (by rw [List.length_map, List.length_append, List.length_map, List.length_take]; show _ + min l 2 ≤ _; lia) ?_
          have hw4 := mem_upd (ob := .lst ((pre2 ++ (([0, 1] : List Int).take l).map fun r => [p, q, r]).map (entD k) ++ [entD k [p, q, r]])) (mem_own hw3)
          refine ExecsP.nil (hN3 _ _ ⟨_, cov_pre [("r", I r)] (by kernel_rfl), rfl, ?_, x3.trans (Ext.upd (by simp))⟩)
          rw [take_snoc hr]
          simpa using hw4
      · rintro B' σ3 ⟨rfl, hw3, x3⟩
        refine ExecsP.nil (hN2 _ _ ⟨_, cov_pre [("q", I q)] (by kernel_rfl), rfl, ?_, x3⟩)
        rw [take_snoc hq, List.flatMap_append, ← List.append_assoc, hpre2]
        simpa using hw3
    · rintro B' σ2 ⟨rfl, hw2, x2⟩
      refine ExecsP.nil (hN1 _ _ ⟨_, cov_pre [("p", I p)] (by kernel_rfl), rfl, ?_, x2⟩)
      rw [take_snoc hp, List.flatMap_append, hpre]
      simpa using hw2
  · rintro B' σ1 ⟨rfl, hw1, x1⟩
    exact ⟨rfl, hw1, x1⟩
end
-- Con22
section
variable {c : Cx} {d : Nat} {B : Bs} {σ : Sg} {Q : AV → Sg → Prop} {N : Bs → Sg → Prop} {R : AV → Sg → Prop} {va ta ma fa la wa : Addr}

theorem frzB_cov {a : Addr} {xs : List PyData} : ∀ {B₀ : Bs}, Cov B B₀ → FrzB a xs B B₀
  | [], _ => trivial
  | (n, x) :: r, ⟨h, h'⟩ => ⟨⟨x, h, .same⟩, frzB_cov h'⟩
noncomputable abbrev worthAt (k : Int) (r : List Int) (p : Int) : Int := rw_ (worthOf k r) p
noncomputable def reachL (k : Int) (rows : List (List Int)) (ps : List Int) : List Int := rows.flatMap fun r => ps.map fun p => worthAt k r p
theorem worth_len {k : Int} {r : List Int} : (worthOf k r).length = 7 := rfl
noncomputable abbrev B6 (scr : List Int) (fa va ta ma la : Addr) (low hole base k : Int) (ps : List Int) (other last goal : Int) : Bs := B5 scr fa va ta ma la low hole base k ps other last goal (Li ((rowsOf low hole base).map (entD k)))
theorem rows_len {low hole base : Int} : (rowsOf low hole base).length = 12 := rfl
theorem law_10 (T : TopOK c) {scr ps : List Int} {low hole base k other last goal : Int} (hp : ∀ p ∈ ps, 0 ≤ p ∧ p < 7) (hpl : ps.length ≤ 3) (hw : (wa, OB.lst ((rowsOf low hole base).map (entD k))) ∈ σ)
    (K : ExecsP c (d + 30) lsc (("reached", Li (lits (reachL k (rowsOf low hole base) ps))) :: B6 scr fa va ta ma la low hole base k ps other last goal) (sgLess σ wa) (LB 11) N R) :
    ExecsP c (d + 30) lsc (B5 scr fa va ta ma la low hole base k ps other last goal (.ref wa)) σ (LB 10) N R := by
  have hB : FrzB wa ((rowsOf low hole base).map (entD k)) (B5 scr fa va ta ma la low hole base k ps other last goal (.ref wa)) (B6 scr fa va ta ma la low hole base k ps other last goal) := ⟨⟨_, lk_here, .same⟩, ⟨_, lk_next (by kernel_rfl!) lk_here, .conv⟩, frzB_cov (cov_pre [("some", Li ((someT k ps).map Th.d)), ("worths", .ref wa)] (by kernel_rfl))⟩
  with_reducible refine ExecsP.frz hw (B6 scr fa va ta ma la low hole base k ps other last goal) hB ?_
  generalize sgLess σ wa = σ0 at K ⊢
  with_reducible refine ExecsP.seqAt 10 (fBody (topS 33)) (by with_unfolding_all rfl) (fun B' σ' => B' = (("reached", Li (lits (reachL k (rowsOf low hole base) ps))) :: B6 scr fa va ta ma la low hole base k ps other last goal : Bs) ∧ σ' = σ0) ?_ (fun B' σ' hz9 => by obtain ⟨e, h1⟩ := hz9; subst e; subst h1; exact K)
  refine ExecP.ab fun N' hN => ?_
  with_reducible refine ExecP.comp [("places", Li (lits ps))] ?_ (compOK_of ["places"] rfl (by kernel_rfl!)) ?_ (by with_unfolding_all rfl) (by with_unfolding_all rfl) (by with_unfolding_all rfl) (by intros; with_unfolding_all rfl)
  · exact ⟨by repeat trivial, trivial⟩
  repeat trivial
  have h12 := rows_len (low := low) (hole := hole) (base := base)
  generalize rowsOf low hole base = rows at h12 hN ⊢
  refine ⟨_, fun i zs σ' => σ' = σ0 ∧ zs = lits (reachL k (rows.take i) ps) ∧ zs.length ≤ 3 * i, iter_mapL, ⟨rfl, rfl, Nat.le_refl 0⟩, ?_, ?_⟩
  · rintro i y zs σ' hy ⟨rfl, rfl, hzl⟩
    simp only [List.getElem?_map, Option.map_eq_some_iff] at hy
    obtain ⟨r, hr, rfl⟩ := hy
    have hi : i < 12 := by rw [← h12]; exact (List.getElem?_eq_some_iff.mp hr).1
    generalize hz0 : reachL k (rows.take i) ps = zs0 at hzl
    have hstep : reachL k (rows.take (i + 1)) ps = zs0 ++ ps.map fun p => worthAt k r p := by
      rw [← hz0]; unfold reachL; rw [take_snoc hr, List.flatMap_append]; simp
    with_reducible refine AsgP.tuple ?_ (by with_unfolding_all rfl) (by with_unfolding_all rfl)
    repeat trivial
    refine ⟨⟨by repeat trivial, trivial⟩, brT ⟨⟨rfl, by intros; with_unfolding_all rfl⟩, ?_⟩⟩
    show EvalP _ _ _ _ _ _ _
    repeat trivial
    refine ⟨_, fun j zs' σ'' => σ'' = σ' ∧ zs' = lits (zs0 ++ (ps.take j).map fun p => worthAt k r p), iter_litL, ⟨rfl, by simp⟩, ?_, ?_⟩
    · rintro j y zs' σ'' hy ⟨rfl, rfl⟩
      simp only [List.getElem?_map, Option.map_eq_some_iff] at hy
      obtain ⟨p, hpj, rfl⟩ := hy
      have hpm := hp p (List.mem_of_getElem? hpj)
      have hj : j < ps.length := (List.getElem?_eq_some_iff.mp hpj).1
      with_reducible refine AsgP.name (k := .local) (by kernel_rfl!) ?_ (.inl rfl)
      refine ⟨⟨by repeat trivial, by repeat trivial, by repeat trivial, trivial⟩, brT ?_⟩
      show EvalP _ _ _ _ _ _ _
      repeat trivial
      refine sub_row (r := worthOf k r) ⟨hpm.1, by rw [worth_len]; exact hpm.2⟩ (by rw [worth_len]; decide) ?_
      refine ⟨_, rfl, ?_, rfl, ?_⟩
      · rw [List.length_map, List.length_append, List.length_map, List.length_take]
        rw [List.length_map] at hzl; lia
      · rw [take_snoc hpj]; simp [lits]
    · rintro zs' σ'' ⟨rfl, rfl⟩
      rw [List.length_map, List.take_length]
      refine ⟨rfl, ?_, ?_⟩
      · rw [hstep]
      · rw [List.length_map] at hzl
        rw [List.length_map, List.length_append, List.length_map]; lia
  · rintro zs σ' ⟨rfl, rfl, J⟩
    rw [List.length_map, List.take_length]
    exact hN _ _ ⟨rfl, rfl⟩

theorem row_mem {low hole base : Int} (hl : -1 ≤ low ∧ low ≤ 1) (hh : 0 ≤ hole ∧ hole ≤ 1) (hb : 0 ≤ base ∧ base ≤ 1) {r : List Int} (h : r ∈ rowsOf low hole base) : ∃ x y b, r = [x, y, b] ∧ -1 ≤ x ∧ x ≤ 4 ∧ 0 ≤ y ∧ y ≤ 2 ∧ 0 ≤ b ∧ b ≤ 1 ∧ InDom (dlX low hole) x ∧ InDom [(base, base + 1)] y := by
  unfold rowsOf at h
  simp only [List.mem_flatMap, List.mem_map] at h
  obtain ⟨x, hx, y, hy, b, hb', rfl⟩ := h
  simp only [List.mem_cons, List.not_mem_nil, or_false] at hx hy hb'
  refine ⟨x, y, b, rfl, by lia, by lia, by lia, by lia, by lia, by lia, ?_, inDom_one.mpr (by lia)⟩
  unfold dlX
  by_cases h0 : hole = 0
  · rw [if_pos h0]; exact inDom_one.mpr (by lia)
  · rw [if_neg h0]
    rcases hx with h | h | h
    · exact ⟨_, .head _, by show low ≤ x; lia, by show x ≤ low + 1; lia⟩
    · exact ⟨_, .head _, by show low ≤ x; lia, by show x ≤ low + 1; lia⟩
    · exact ⟨_, .tail _ (.head _), by show low + 3 ≤ x; lia, by show x ≤ low + 3; lia⟩
theorem worth_bd {k x y b p : Int} (hk : -1 ≤ k ∧ k ≤ 3) (hx : -1 ≤ x ∧ x ≤ 4) (hy : 0 ≤ y ∧ y ≤ 2) (hb : 0 ≤ b ∧ b ≤ 1) (hp : 0 ≤ p ∧ p < 7) : -4 ≤ worthAt k [x, y, b] p ∧ worthAt k [x, y, b] p ≤ 5 := by
  have := lt7 hp
  rcases this with rfl | rfl | rfl | rfl | rfl | rfl | rfl
  · show -4 ≤ 1 * x + 0 * y + 0 * b + 0 ∧ 1 * x + 0 * y + 0 * b + 0 ≤ 5; lia
  · show -4 ≤ 0 * x + 1 * y + 0 * b + 0 ∧ 0 * x + 1 * y + 0 * b + 0 ≤ 5; lia
  · show -4 ≤ 1 * x + -1 * y + 0 * b + 0 ∧ 1 * x + -1 * y + 0 * b + 0 ≤ 5; lia
  · show -4 ≤ 0 * x + 0 * y + 1 * b + 0 ∧ 0 * x + 0 * y + 1 * b + 0 ≤ 5; lia
  · show -4 ≤ 0 * x + 0 * y + -1 * b + 1 ∧ 0 * x + 0 * y + -1 * b + 1 ≤ 5; lia
  · show -4 ≤ 0 * x + 0 * y + 0 * b + 1 ∧ 0 * x + 0 * y + 0 * b + 1 ≤ 5; lia
  · show -4 ≤ 0 * x + 0 * y + 0 * b + k ∧ 0 * x + 0 * y + 0 * b + k ≤ 5; lia

noncomputable abbrev B7 (scr : List Int) (fa va ta ma la : Addr) (low hole base k : Int) (ps : List Int) (other last goal bottom top : Int) : Bs := ("bottom", I bottom) :: ("top", I top) :: B6 scr fa va ta ma la low hole base k ps other last goal
theorem law_11 (T : TopOK c) {scr ps : List Int} {low hole base k other last goal : Int} (hl : -1 ≤ low ∧ low ≤ 1) (hh : 0 ≤ hole ∧ hole ≤ 1) (hb : 0 ≤ base ∧ base ≤ 1) (hk : -1 ≤ k ∧ k ≤ 3) (hp : ∀ p ∈ ps, 0 ≤ p ∧ p < 7) (hpl : 1 ≤ ps.length)
    (K : ∀ bottom top : Int, -5 ≤ bottom → top ≤ 6 → bottom < top → (∀ r ∈ rowsOf low hole base, ∀ p ∈ ps, bottom < worthAt k r p ∧ worthAt k r p < top) → ExecsP c (d + 30) lsc (B7 scr fa va ta ma la low hole base k ps other last goal bottom top) σ (LB 12) N R) :
    ExecsP c (d + 30) lsc (("reached", Li (lits (reachL k (rowsOf low hole base) ps))) :: B6 scr fa va ta ma la low hole base k ps other last goal) σ (LB 11) N R := by
  with_reducible refine ExecsP.seqC 11 (fBody (topS 33)) (by with_unfolding_all rfl) (fun B' σ' => ∃ bottom top : Int, -5 ≤ bottom ∧ top ≤ 6 ∧ bottom < top ∧ (∀ r ∈ rowsOf low hole base, ∀ p ∈ ps, bottom < worthAt k r p ∧ worthAt k r p < top) ∧ B' = B7 scr fa va ta ma la low hole base k ps other last goal bottom top ∧ σ' = σ) ?_ (fun B' σ' hz9 => by obtain ⟨bo, to, h1, h2, h3, h4, e, h5⟩ := hz9; subst e; subst h5; exact K _ _ h1 h2 h3 h4)
  have hmem : ∀ v, v ∈ reachL k (rowsOf low hole base) ps ↔ ∃ r ∈ rowsOf low hole base, ∃ p ∈ ps, worthAt k r p = v := fun v => by
    unfold reachL; simp only [List.mem_flatMap, List.mem_map]
  have hbd : ∀ v ∈ reachL k (rowsOf low hole base) ps, -4 ≤ v ∧ v ≤ 5 := fun v q => by
    obtain ⟨r, hr, p, hpp, rfl⟩ := (hmem v).mp q
    obtain ⟨x, y, b, rfl, h1, h2, h3, h4, h5, h6, J⟩ := row_mem hl hh hb hr
    exact worth_bd hk ⟨h1, h2⟩ ⟨h3, h4⟩ ⟨h5, h6⟩ (hp p hpp)
  have hne : reachL k (rowsOf low hole base) ps ≠ [] := fun e => by
    obtain ⟨p0, r0, hps⟩ := List.exists_cons_of_ne_nil (l := ps) (fun e => by rw [e] at hpl; simp at hpl)
    have : worthAt k [low, base, 0] p0 ∈ reachL k (rowsOf low hole base) ps := (hmem _).mpr ⟨[low, base, 0], by unfold rowsOf; simp, p0, by rw [hps]; exact .head _, rfl⟩
    rw [e] at this; cases this
  refine ExecP.ab fun N' hN => ?_
  repeat trivial
  refine bi_minW iter_litL hne fun mn m1 m2 => ?_
  repeat trivial
  refine bi_maxW iter_litL hne fun mx n1 n2 => ?_
  repeat trivial
  have b1 := hbd mn m1
  have b2 := hbd mx n1
  refine ⟨hN _ _ ⟨_, ?_, mn - 1, mx + 1, by lia, by lia, by have := m2 mx n1; lia, fun r hr p hpp => ?_, rfl, rfl⟩, rfl⟩
  · exact ⟨by repeat trivial, by repeat trivial, cov_pre [("bottom", I (mn - 1)), ("top", I (mx + 1)), ("reached", Li (lits (reachL k (rowsOf low hole base) ps)))] (by kernel_rfl)⟩
  · have q := (hmem _).mpr ⟨r, hr, p, hpp, rfl⟩
    have := m2 _ q; have := n2 _ q; lia
theorem law_12 (T : TopOK c) {scr ps : List Int} {low hole base k other last goal bottom top : Int}
    (K : ∀ ca, ca ∉ own σ → ExecsP c (d + 30) lsc (("counts", .ref ca) :: B7 scr fa va ta ma la low hole base k ps other last goal bottom top) ((ca, .lst []) :: σ) (LB 13) N R) :
    ExecsP c (d + 30) lsc (B7 scr fa va ta ma la low hole base k ps other last goal bottom top) σ (LB 12) N R := by
  with_reducible refine ExecsP.seqAt 12 (fBody (topS 33)) (by with_unfolding_all rfl) (fun B' σ' => ∃ ca, ca ∉ own σ ∧ B' = (("counts", .ref ca) :: B7 scr fa va ta ma la low hole base k ps other last goal bottom top : Bs) ∧ σ' = (ca, .lst []) :: σ) ?_ (fun B' σ' hz9 => by obtain ⟨ca, h1, e, h2⟩ := hz9; subst e; subst h2; exact K _ h1)
  with_reducible refine ExecP.assign (EvalP.list0 fun ca nca => ?_) (by with_unfolding_all rfl) (by with_unfolding_all rfl) (by with_unfolding_all rfl)
  with_reducible refine AsgP.name (k := .local) (by kernel_rfl!) ?_ (.inl rfl)
  exact ⟨ca, nca, rfl, rfl⟩
end
-- Con23
section
variable {c : Cx} {d : Nat} {B : Bs} {σ : Sg} {Q : AV → Sg → Prop} {N : Bs → Sg → Prop} {R : AV → Sg → Prop} {va ta ma fa la wa ca : Addr}

/- The choices of a script. -/
structure Ch where
  low : Int
  hole : Int
  base : Int
  k : Int
  ps : List Int
  other : Int
  last : Int
  goal : Int
  bottom : Int
  top : Int
structure ChOK (h : Ch) : Prop where
  low : -1 ≤ h.low ∧ h.low ≤ 1
  hole : 0 ≤ h.hole ∧ h.hole ≤ 1
  base : 0 ≤ h.base ∧ h.base ≤ 1
  k : -1 ≤ h.k ∧ h.k ≤ 3
  ps : ∀ p ∈ h.ps, 0 ≤ p ∧ p < 7
  pl : 1 ≤ h.ps.length ∧ h.ps.length ≤ 3
  other : 0 ≤ h.other ∧ h.other < 7
  last : 0 ≤ h.last ∧ h.last < 5
  goal : 0 ≤ h.goal ∧ h.goal < 4
  bt : -5 ≤ h.bottom ∧ h.top ≤ 6 ∧ h.bottom < h.top
noncomputable abbrev Ch.rows (h : Ch) : List (List Int) := rowsOf h.low h.hole h.base
structure ChIn (h : Ch) : Prop where
  ok : ChOK h
  inn : ∀ r ∈ h.rows, ∀ p ∈ h.ps, h.bottom < worthAt h.k r p ∧ worthAt h.k r p < h.top
noncomputable abbrev Ch.Row (h : Ch) := { r : List Int // r ∈ h.rows }
noncomputable def Ch.m0 (h : Ch) : Mo h.Row := ⟨fun ρ => rw_ ρ.1, vs0 h.low h.hole h.base, [], []⟩
theorem m0_dl {h : Ch} : h.m0.dl 0 = dlX h.low h.hole ∧ h.m0.dl 1 = [(h.base, h.base + 1)] ∧ h.m0.dl 2 = [(0, 1)] := ⟨rfl, rfl, rfl⟩
theorem m0_has {h : Ch} {x : Int} : h.m0.has x ↔ x = 0 ∨ x = 1 ∨ x = 2 := by
  show (0 ≤ x ∧ x < ((3 : Nat) : Int)) ↔ _
  lia
theorem dlX_ok {low hole : Int} (hl : -1 ≤ low ∧ low ≤ 1) : DomOK (dlX low hole) ∧ (ends (dlX low hole)).1 = low ∧ (ends (dlX low hole)).2 ≤ low + 3 ∧ low ≤ (ends (dlX low hole)).2 := by
  have p18 : (2:Nat)^18 = 262144 := rfl
  unfold dlX
  by_cases h0 : hole = 0
  · rw [if_pos h0]
    exact ⟨.one (by lia) (by lia), rfl, by show low + 2 ≤ _; lia, by show low ≤ low + 2; lia⟩
  · rw [if_neg h0]
    refine ⟨⟨by simp, fun v ⟨p, m, a, b⟩ => ?_, fun p m => ?_⟩, rfl, by show low + 3 ≤ _; lia, by show low ≤ low + 3; lia⟩
    · show low ≤ v ∧ v ≤ low + 3
      simp only [List.mem_cons, List.not_mem_nil, or_false] at m
      rcases m with rfl | rfl
      · exact ⟨a, by have : v ≤ low + 1 := b; lia⟩
      · exact ⟨by have : low + 3 ≤ v := a; lia, b⟩
    · simp only [List.mem_cons, List.not_mem_nil, or_false] at m
      rcases m with rfl | rfl
      · exact ⟨by show low.natAbs ≤ _; lia, by show (low + 1).natAbs ≤ _; lia⟩
      · exact ⟨by show (low + 3).natAbs ≤ _; lia, by show (low + 3).natAbs ≤ _; lia⟩
theorem m0_inv {h : Ch} (H : ChOK h) : Inv h.m0 where
  n3 := Nat.le_refl 3
  dom := fun x hx => by
    have p18 : (2:Nat)^18 = 262144 := rfl
    have hb := H.base
    obtain ⟨e0, e1, e2⟩ := m0_dl (h := h)
    have row : ∀ ρ : h.Row, ∃ x y b, ρ.1 = [x, y, b] ∧ InDom (dlX h.low h.hole) x ∧ InDom [(h.base, h.base + 1)] y ∧ 0 ≤ b ∧ b ≤ 1 := fun ρ => by
      obtain ⟨x, y, b, e, J, J, J, J, h5, h6, h7, h8⟩ := row_mem H.low H.hole H.base ρ.2
      exact ⟨x, y, b, e, h7, h8, h5, h6⟩
    rcases m0_has.mp hx with rfl | rfl | rfl
    · rw [e0]
      refine ⟨(dlX_ok H.low).1, fun ρ => ?_⟩
      obtain ⟨x, y, b, e, h7, J⟩ := row ρ
      show InDom _ (rw_ ρ.1 0)
      rw [e]; exact h7
    · rw [e1]
      refine ⟨.one (by lia) (by lia), fun ρ => ?_⟩
      obtain ⟨x, y, b, e, J, h8, J⟩ := row ρ
      show InDom _ (rw_ ρ.1 1)
      rw [e]; exact h8
    · rw [e2]
      refine ⟨.one (by decide) (by decide), fun ρ => ?_⟩
      obtain ⟨x, y, b, e, J, J, h5, h6⟩ := row ρ
      show InDom _ (rw_ ρ.1 2)
      rw [e]; exact inDom_one.mpr ⟨h5, h6⟩
  tld := fun t q => (List.not_mem_nil q).elim
  det := fun x hx h3 => by rcases m0_has.mp hx with rfl | rfl | rfl <;> lia
  key := fun k z e => by cases e
  len := Nat.zero_le _
  tlen := Nat.zero_le _
  one := fun x hx h3 => by rcases m0_has.mp hx with rfl | rfl | rfl <;> lia
  tok := fun t q => (List.not_mem_nil q).elim

theorem six {P : Int → Prop} (h0 : P 0) (h1 : P 1) (h2 : P 2) (h3 : P 3) (h4 : P 4) (h5 : P 5) (h6 : P 6) {p : Int} (hp : 0 ≤ p ∧ p < 7) : P p := by
  have := lt7 hp
  rcases this with rfl | rfl | rfl | rfl | rfl | rfl | rfl <;> assumption
theorem th_fit {h : Ch} (H : ChOK h) {p : Int} (hp : 0 ≤ p ∧ p < 7) : Some1 h.m0 (thA h.k p) := by
  have p18 : (2:Nat)^18 = 262144 := rfl
  have hb := H.base
  have hl := H.low
  have hk := H.k
  obtain ⟨e0, e1, e2⟩ := m0_dl (h := h)
  obtain ⟨J, f1, f2, f3⟩ := dlX_ok (hole := h.hole) H.low
  have E0 : (h.m0.E 0).1 = h.low ∧ (h.m0.E 0).2 ≤ h.low + 3 ∧ h.low ≤ (h.m0.E 0).2 := by unfold Mo.E; rw [e0]; exact ⟨f1, f2, f3⟩
  have E1 : h.m0.E 1 = (h.base, h.base + 1) := by unfold Mo.E; rw [e1]; rfl
  have E2 : h.m0.E 2 = (0, 1) := by unfold Mo.E; rw [e2]; rfl
  have q0 : (1 * (h.m0.E 0).1).natAbs ≤ 4 ∧ (1 * (h.m0.E 0).2).natAbs ≤ 4 := by rw [Int.one_mul, Int.one_mul]; exact ⟨by rw [E0.1]; exact nb (lo := -1) (hi := 1) (by decide) (by decide) hl.1 hl.2, nb (lo := -1) (hi := 4) (by decide) (by decide) (Int.le_trans hl.1 E0.2.2) (Int.le_trans E0.2.1 (Int.add_le_add_right hl.2 3))⟩
  have q1 : (1 * h.base).natAbs ≤ 2 ∧ (1 * (h.base + 1)).natAbs ≤ 2 := by rw [Int.one_mul, Int.one_mul]; exact ⟨nb (lo := 0) (hi := 1) (by decide) (by decide) hb.1 hb.2, nadd (a := h.base) (b := 1) (M := 1) (N := 1) (nb (lo := 0) (hi := 1) (by decide) (by decide) hb.1 hb.2) (by decide)⟩
  have q2 : (-1 * h.base).natAbs ≤ 2 ∧ (-1 * (h.base + 1)).natAbs ≤ 2 := by have := q1; rw [Int.one_mul, Int.one_mul] at this; rw [Int.neg_one_mul, Int.neg_one_mul, Int.natAbs_neg, Int.natAbs_neg]; exact this
  have fin : ∀ t : Th, TOk h.m0 t → TB 1 2 3 t → (t.k + loB h.m0.E t.ps).natAbs ≤ 100 → (t.k + hiB h.m0.E t.ps).natAbs ≤ 100 → Some1 h.m0 t := fun t ok tb a b =>
    ⟨⟨ok, tb.mono (by decide) (by decide) (by decide), by lia, by lia⟩, tb⟩
  refine six (P := fun p => Some1 h.m0 (thA h.k p)) ?_ ?_ ?_ ?_ ?_ ?_ ?_ hp
  · refine fin (.su [(0, 1)] 0) ⟨fun p q => ?_, fun p q => ?_, ?_, fun e => nomatch e⟩ ⟨fun p q => ?_, ?_, ?_⟩ ?_ ?_
    · rcases List.mem_singleton.mp q with rfl; exact m0_has.mpr (.inl rfl)
    · rcases List.mem_singleton.mp q with rfl; exact Int.one_ne_zero
    · simp [Th.ps]
    · rcases List.mem_singleton.mp q with rfl; exact Nat.le_refl 1
    · exact Nat.le_succ 1
    · exact Nat.zero_le 3
    · exact Nat.le_trans (nadd (Nat.le_refl 0) (nadd (nmin q0.1 q0.2) (Nat.le_refl 0))) (by decide)
    · exact Nat.le_trans (nadd (Nat.le_refl 0) (nadd (nmax q0.1 q0.2) (Nat.le_refl 0))) (by decide)
  · refine fin (.su [(1, 1)] 0) ⟨fun p q => ?_, fun p q => ?_, ?_, fun e => nomatch e⟩ ⟨fun p q => ?_, ?_, ?_⟩ ?_ ?_
    · rcases List.mem_singleton.mp q with rfl; exact m0_has.mpr (.inr (.inl rfl))
    · rcases List.mem_singleton.mp q with rfl; exact Int.one_ne_zero
    · simp [Th.ps]
    · rcases List.mem_singleton.mp q with rfl; exact Nat.le_refl 1
    · exact Nat.le_succ 1
    · exact Nat.zero_le 3
    · show (0 + (min (1 * (h.m0.E 1).1) (1 * (h.m0.E 1).2) + 0)).natAbs ≤ 100
      rw [E1]
      exact Nat.le_trans (nadd (Nat.le_refl 0) (nadd (nmin q1.1 q1.2) (Nat.le_refl 0))) (by decide)
    · show (0 + (max (1 * (h.m0.E 1).1) (1 * (h.m0.E 1).2) + 0)).natAbs ≤ 100
      rw [E1]
      exact Nat.le_trans (nadd (Nat.le_refl 0) (nadd (nmax q1.1 q1.2) (Nat.le_refl 0))) (by decide)
  · refine fin (.su [(0, 1), (1, -1)] 0) ⟨fun p q => ?_, fun p q => ?_, ?_, fun e => nomatch e⟩ ⟨fun p q => ?_, ?_, ?_⟩ ?_ ?_
    · rcases List.mem_cons.mp q with rfl | q
      · exact m0_has.mpr (.inl rfl)
      · rcases List.mem_singleton.mp q with rfl; exact m0_has.mpr (.inr (.inl rfl))
    · rcases List.mem_cons.mp q with rfl | q
      · exact Int.one_ne_zero
      · rcases List.mem_singleton.mp q with rfl; show (-1 : Int) ≠ 0; decide
    · simp [Th.ps]
    · rcases List.mem_cons.mp q with rfl | q
      · exact Nat.le_refl 1
      · rcases List.mem_singleton.mp q with rfl; exact Nat.le_refl 1
    · exact Nat.le_refl 2
    · exact Nat.zero_le 3
    · show (0 + (min (1 * (h.m0.E 0).1) (1 * (h.m0.E 0).2) + (min (-1 * (h.m0.E 1).1) (-1 * (h.m0.E 1).2) + 0))).natAbs ≤ 100
      rw [E1]
      exact Nat.le_trans (nadd (Nat.le_refl 0) (nadd (nmin q0.1 q0.2) (nadd (nmin q2.1 q2.2) (Nat.le_refl 0)))) (by decide)
    · show (0 + (max (1 * (h.m0.E 0).1) (1 * (h.m0.E 0).2) + (max (-1 * (h.m0.E 1).1) (-1 * (h.m0.E 1).2) + 0))).natAbs ≤ 100
      rw [E1]
      exact Nat.le_trans (nadd (Nat.le_refl 0) (nadd (nmax q0.1 q0.2) (nadd (nmax q2.1 q2.2) (Nat.le_refl 0)))) (by decide)
  · refine fin (.bi 2 true) (tok_bi (m0_has.mpr (.inr (.inr rfl))) e2) (tb_bi.mono (by decide) (by decide) (by decide)) ?_ ?_
    · show (0 + (min (1 * (h.m0.E 2).1) (1 * (h.m0.E 2).2) + 0)).natAbs ≤ 100
      rw [E2]; decide
    · show (0 + (max (1 * (h.m0.E 2).1) (1 * (h.m0.E 2).2) + 0)).natAbs ≤ 100
      rw [E2]; decide
  · refine fin (.bi 2 false) (tok_bi (m0_has.mpr (.inr (.inr rfl))) e2) (tb_bi.mono (by decide) (by decide) (by decide)) ?_ ?_
    · show (1 + (min (-1 * (h.m0.E 2).1) (-1 * (h.m0.E 2).2) + 0)).natAbs ≤ 100
      rw [E2]; decide
    · show (1 + (max (-1 * (h.m0.E 2).1) (-1 * (h.m0.E 2).2) + 0)).natAbs ≤ 100
      rw [E2]; decide
  · exact fin (.bo true) tok_bo (tb_bo.mono (by decide) (by decide) (by decide)) (by show (1 + 0 : Int).natAbs ≤ 100; decide) (by show (1 + 0 : Int).natAbs ≤ 100; decide)
  · refine fin (.it h.k) tok_it (tb_it (by decide) (by decide) (by lia)) ?_ ?_
    · show (h.k + 0).natAbs ≤ 100; lia
    · show (h.k + 0).natAbs ≤ 100; lia
theorem th_bit {k p : Int} (hp : 0 ≤ p ∧ p < 7) : ∀ x a, thA k p = .bi x a → x = 2 := by
  refine six (P := fun p => ∀ x a, thA k p = .bi x a → x = 2) ?_ ?_ ?_ ?_ ?_ ?_ ?_ hp <;> (intro x a e; cases e; try rfl)
theorem th_val {h : Ch} (H : ChOK h) {p : Int} (hp : 0 ≤ p ∧ p < 7) (ρ : h.Row) : (thA h.k p).val (h.m0.W ρ) = worthAt h.k ρ.1 p := by
  obtain ⟨x, y, b, e, J⟩ := row_mem H.low H.hole H.base ρ.2
  show (thA h.k p).val (rw_ ρ.1) = _
  rw [e]
  refine six (P := fun p => (thA h.k p).val (rw_ [x, y, b]) = worthAt h.k [x, y, b] p) ?_ ?_ ?_ ?_ ?_ ?_ ?_ hp
  · show 0 + (1 * x + 0) = 1 * x + 0 * y + 0 * b + 0; lia
  · show 0 + (1 * y + 0) = 0 * x + 1 * y + 0 * b + 0; lia
  · show 0 + (1 * x + (-1 * y + 0)) = 1 * x + -1 * y + 0 * b + 0; lia
  · show 0 + (1 * b + 0) = 0 * x + 0 * y + 1 * b + 0; lia
  · show 1 + (-1 * b + 0) = 0 * x + 0 * y + -1 * b + 1; lia
  · show 1 + 0 = 0 * x + 0 * y + 0 * b + 1; lia
  · show h.k + 0 = 0 * x + 0 * y + 0 * b + h.k; lia
/- How many of the things are v. -/
noncomputable def cnt (h : Ch) (r : List Int) (v : Int) : Int := ((h.ps.map fun p => worthAt h.k r p).count v : Nat)
theorem cnt_of {h : Ch} (H : ChOK h) {n : Nat} {m : Mo h.Row} (g : Gr n h.m0 m) (ρ : h.Row) (v : Int) : cntOf (m.W ρ) (someT h.k h.ps) v = cnt h ρ.1 v := by
  unfold cntOf cnt
  have e : (someT h.k h.ps).map (fun t => t.val (m.W ρ)) = h.ps.map fun p => worthAt h.k ρ.1 p := by
    unfold someT
    rw [List.map_map]
    refine List.map_congr_left fun p q => ?_
    show (thA h.k p).val (m.W ρ) = _
    rw [g.val (th_fit H (H.ps p q)).fit.ok, th_val H (H.ps p q)]
  rw [e]
theorem some2_of {h : Ch} (H : ChOK h) {n : Nat} {m : Mo h.Row} (g : Gr n h.m0 m) {v : Th} (ok : TOk m v) (tb : TB 1 2 16 v) (hb : ∀ y b, v = .bi y b → y = 2) : Some2 m (someT h.k h.ps) v where
  each := fun t q => by
    obtain ⟨p, hp, rfl⟩ := List.mem_map.mp q
    have := th_fit H (H.ps p hp)
    exact ⟨this.fit.gr g, this.tb⟩
  bits := fun t q x a y b e e' => by
    obtain ⟨p, hp, rfl⟩ := List.mem_map.mp q
    rw [th_bit (H.ps p hp) x a e, hb y b e']
  len := by rw [List.length_map]; exact H.pl.2
  ok := ok
  tb := tb
end
-- Con24
section
variable {c : Cx} {d : Nat} {B : Bs} {σ : Sg} {Q : AV → Sg → Prop} {N : Bs → Sg → Prop} {R : AV → Sg → Prop} {va ta ma fa la wa ca : Addr}

/- A count: a number or a sum, of the right value. -/
structure CntOK {ι : Type} (m : Mo ι) (r : Th) (f : ι → Int) : Prop where
  ok : TOk m r
  tb : TB 3 3 3 r
  nt : r.isT = false ∧ r.isB = false
  val : ∀ ρ, r.val (m.W ρ) = f ρ
theorem CntOK.gr {ι : Type} {n : Nat} {m m' : Mo ι} {r : Th} {f : ι → Int} (h : CntOK m r f) (g : Gr n m m') : CntOK m' r f := ⟨g.tok h.ok, h.tb, h.nt, fun ρ => by rw [g.val h.ok]; exact h.val ρ⟩
/- The counts made so far. -/
structure Cts (h : Ch) (m : Mo h.Row) (rs : List Th) (j : Nat) : Prop where
  len : rs.length = j
  at_ : ∀ (i : Nat) r, rs[i]? = some r → CntOK m r fun ρ => cnt h ρ.1 (h.bottom + i)
noncomputable abbrev BB (scr : List Int) (fa va ta ma la : Addr) (h : Ch) : Bs := B7 scr fa va ta ma la h.low h.hole h.base h.k h.ps h.other h.last h.goal h.bottom h.top
noncomputable def nV (h : Ch) : Nat := (h.top + 1 - h.bottom).toNat
inductive CtsI (σ : Sg) (va ta ma ca : Addr) (h : Ch) (B : Bs) (j : Nat) (B' : Bs) (σ' : Sg) : Prop
  | mk (m : Mo h.Row) (rs : List Th) : B' = B → Ok σ' va ta ma m → Gr (4 * j) h.m0 m → (ca, OB.lst (rs.map Th.d)) ∈ σ' → Ext [va, ta, ma, ca] σ σ' → Cts h m rs j → CtsI σ va ta ma ca h B j B' σ'
theorem law_13 (T : TopOK c) {scr : List Int} {h : Ch} (H : ChOK h) (O : Ok σ va ta ma h.m0) (hca : (ca, OB.lst []) ∈ σ) (hn : ca ≠ va ∧ ca ≠ ta ∧ ca ≠ ma)
    (K : ∀ m σ' (rs : List Th), Ok σ' va ta ma m → Gr (4 * nV h) h.m0 m → (ca, OB.lst (rs.map Th.d)) ∈ σ' → Ext [va, ta, ma, ca] σ σ' → Cts h m rs (nV h) → ExecsP c (d + 30) lsc (("counts", .ref ca) :: BB scr fa va ta ma la h) σ' (LB 14) N R) :
    ExecsP c (d + 30) lsc (("counts", .ref ca) :: BB scr fa va ta ma la h) σ (LB 13) N R := by
  have hbt := H.bt
  with_reducible refine ExecsP.seqAt 13 (fBody (topS 33)) (by with_unfolding_all rfl) (CtsI σ va ta ma ca h (("counts", .ref ca) :: BB scr fa va ta ma la h) (nV h)) ?_ (fun B' σ' hz9 => by obtain ⟨m, rs, e, h1, h2, h3, h4, h5⟩ := hz9; subst e; exact K _ _ _ h1 h2 h3 h4 h5)
  with_reducible refine ExecP.forC ?_ (by intros; with_unfolding_all rfl)
  repeat trivial
  refine ⟨_, CtsI σ va ta ma ca h (("counts", .ref ca) :: BB scr fa va ta ma la h), IterP.rng (by lia) (by lia) (by lia) (by lia), ⟨_, cov_pre [] (by kernel_rfl), h.m0, [], rfl, O, Gr.refl _, hca, .refl _ _, ⟨rfl, fun i r e => by simp at e⟩⟩, ?_, ?_⟩
  · rintro j x B' σ1 hx ⟨m, rs, rfl, O1, g1, hc1, x1, cs⟩
    obtain ⟨rfl, hj⟩ := nums_get hx
    have hjn : j ≤ 20 := by lia
    have hm3 : h.m0.vs.length = 3 := rfl
    have := g1.len
    have hsl : (rs.map Th.d).length ≤ 1000000 := by rw [List.length_map, cs.len]; lia
    refine AsgP.nameL ?_
    refine ExecsP.ab fun N' hN => ?_
    with_reducible refine ExecsP.cons (ExecP.expr ?_ (by with_unfolding_all rfl))
    with_reducible refine EvalP.method ?_ (by with_unfolding_all rfl) (by with_unfolding_all rfl) (by with_unfolding_all rfl) (by with_unfolding_all rfl)
    repeat trivial
    refine ⟨_, _, .append hc1, .builtin, ?_⟩
    repeat trivial
    refine many_of_ok (v := .it (h.bottom + j)) T O1 (by lia) (some2_of H g1 tok_it (tb_it (by decide) (by decide) (by lia)) (fun y b e => nomatch e)) fun m2 σ2 r O2 g2 x2 nt ok tb val => ?_
    have hc2 : (ca, OB.lst (rs.map Th.d)) ∈ σ2 := x2.keep _ hc1 (by simp [hn])
    repeat trivial
    refine CallP.append hc2 hsl ?_
    have hc3 := mem_upd (ob := .lst (rs.map Th.d ++ [r.d])) (mem_own hc2)
    refine ExecsP.nil (hN _ _ ⟨_, cov_pre [("v", I (h.bottom + j))] (by kernel_rfl), m2, rs ++ [r], rfl, ?_, (g1.trans g2).mono (by lia), by simpa using hc3, x1.trans ((x2.mono (by simp)).trans (Ext.upd (by simp))), ?_⟩)
    · exact O2.extX (X := [ca]) (Ext.upd (by simp)) (by simp; exact Ne.symm hn.1) (by simp; exact Ne.symm hn.2.1) (by simp; exact Ne.symm hn.2.2)
    · refine ⟨by rw [List.length_append, cs.len]; rfl, fun i r' e => ?_⟩
      by_cases hi : i < rs.length
      · rw [List.getElem?_append_left hi] at e
        exact (cs.at_ i r' e).gr g2
      · rw [List.getElem?_append_right (by lia)] at e
        have hi0 : i - rs.length = 0 := by
          cases q : i - rs.length with
          | zero => rfl
          | succ n => rw [q] at e; simp at e
        rw [hi0] at e
        cases (show r = r' by simpa using e)
        have hij : i = j := by have := cs.len; lia
        subst hij
        refine ⟨ok, tb, nt, fun ρ => ?_⟩
        have e2 : (Th.it (h.bottom + i)).val (m.W ρ) = h.bottom + i := by show (h.bottom + i) + 0 = _; lia
        rw [val ρ, e2, cnt_of H g1]
  · rintro B' σ1 ⟨m, rs, rfl, O1, g1, hc1, x1, cs⟩
    rw [nums_len] at g1 cs
    exact ⟨m, rs, rfl, O1, g1, hc1, x1, cs⟩

theorem law_14 (T : TopOK c) {scr : List Int} {h : Ch} (H : ChOK h) {m : Mo h.Row} {rs : List Th} {n : Nat} (hn1 : n ≤ 1000) (O : Ok σ va ta ma m) (g : Gr n h.m0 m) (hca : (ca, OB.lst (rs.map Th.d)) ∈ σ) (hl : rs.length ≤ 1000) (hn : ca ≠ va ∧ ca ≠ ta ∧ ca ≠ ma)
    (K : ∀ m' σ' r, Ok σ' va ta ma m' → Gr 4 m m' → (ca, OB.lst ((rs ++ [r]).map Th.d)) ∈ σ' → Ext [va, ta, ma, ca] σ σ' → CntOK m' r (fun ρ => cnt h ρ.1 (worthAt h.k ρ.1 h.other)) → ExecsP c (d + 30) lsc (("counts", .ref ca) :: BB scr fa va ta ma la h) σ' (LB 15) N R) :
    ExecsP c (d + 30) lsc (("counts", .ref ca) :: BB scr fa va ta ma la h) σ (LB 14) N R := by
  have hm3 : h.m0.vs.length = 3 := rfl
  have hgl := g.len
  have ho := th_fit H H.other
  with_reducible refine ExecsP.seqAt 14 (fBody (topS 33)) (by with_unfolding_all rfl) (fun B' σ' => B' = (("counts", .ref ca) :: BB scr fa va ta ma la h : Bs) ∧ ∃ m' r, Ok σ' va ta ma m' ∧ Gr 4 m m' ∧ (ca, OB.lst ((rs ++ [r]).map Th.d)) ∈ σ' ∧ Ext [va, ta, ma, ca] σ σ' ∧ CntOK m' r (fun ρ => cnt h ρ.1 (worthAt h.k ρ.1 h.other))) ?_ (fun B' σ' hz9 => by obtain ⟨e, m', r, h1, h2, h3, h4, h5⟩ := hz9; subst e; exact K _ _ _ h1 h2 h3 h4 h5)
  refine ExecP.ab fun N' hN => ?_
  with_reducible refine ExecP.expr ?_ (by with_unfolding_all rfl)
  with_reducible refine EvalP.method ?_ (by with_unfolding_all rfl) (by with_unfolding_all rfl) (by with_unfolding_all rfl) (by with_unfolding_all rfl)
  repeat trivial
  refine ⟨_, _, .append hca, .builtin, ?_⟩
  repeat trivial
  with_reducible refine subLp (x := thingD (thA h.k h.other) (entA h.k h.other).2) (things_at H.other) ?_ (decide_eq_true H.other.1) (decide_eq_true (by have := H.other.2; have : (2:Int)^63 = 9223372036854775808 := rfl; lia))
  repeat trivial
  refine many_of_ok T O (by lia) (some2_of H g (g.tok ho.fit.ok) (ho.tb.mono (by decide) (by decide) (by decide)) (fun y b e => th_bit H.other y b e)) fun m2 σ2 r O2 g2 x2 nt ok tb val => ?_
  have hc2 : (ca, OB.lst (rs.map Th.d)) ∈ σ2 := x2.keep _ hca (by simp [hn])
  repeat trivial
  refine CallP.append hc2 (by rw [List.length_map]; lia) ?_
  have hc3 := mem_upd (ob := .lst (rs.map Th.d ++ [r.d])) (mem_own hc2)
  refine hN _ _ ⟨rfl, m2, r, ?_, g2, by simpa using hc3, (x2.mono (by simp)).trans (Ext.upd (by simp)), ok, tb, nt, fun ρ => ?_⟩
  · exact O2.extX (X := [ca]) (Ext.upd (by simp)) (by simp; exact Ne.symm hn.1) (by simp; exact Ne.symm hn.2.1) (by simp; exact Ne.symm hn.2.2)
  · rw [val ρ, cnt_of H g, g.val ho.fit.ok, th_val H H.other]
end
-- Con25
section
variable {c : Cx} {d : Nat} {B : Bs} {σ : Sg} {Q : AV → Sg → Prop} {N : Bs → Sg → Prop} {R : AV → Sg → Prop} {va ta ma fa la wa ca : Addr}

noncomputable def sumTo (f : Nat → Int) : Nat → Int
  | 0 => 0
  | n + 1 => sumTo f n + f n
theorem sumTo_congr {f g : Nat → Int} : ∀ n, (∀ i, i < n → f i = g i) → sumTo f n = sumTo g n
  | 0, _ => rfl
  | n + 1, h => by rw [sumTo, sumTo, sumTo_congr n fun i q => h i (by lia), h n (by lia)]
theorem sumTo_add {f g : Nat → Int} : ∀ n, sumTo (fun i => f i + g i) n = sumTo f n + sumTo g n
  | 0 => rfl
  | n + 1 => by rw [sumTo, sumTo, sumTo, sumTo_add]; lia
theorem sumTo_ind {w : Int → Int} {a b : Int} : ∀ n : Nat, sumTo (fun i => if a = b + i then w (b + i) else 0) n = if b ≤ a ∧ a < b + n then w a else 0
  | 0 => by rw [if_neg (by lia)]; rfl
  | n + 1 => by
    rw [sumTo, sumTo_ind n]
    by_cases h : a = b + n
    · rw [if_pos h, if_neg (by lia), if_pos (by lia), h]; lia
    · rw [if_neg h]
      by_cases h2 : b ≤ a ∧ a < b + n
      · rw [if_pos h2, if_pos (by lia)]; lia
      · rw [if_neg h2, if_neg (by lia)]; rfl
theorem sum_counts {w : Int → Int} {b : Int} {n : Nat} : ∀ {l : List Int}, (∀ a ∈ l, b ≤ a ∧ a < b + n) → sumTo (fun i => w (b + i) * ((l.count (b + i) : Nat) : Int)) n = (l.map w).sum
  | [], _ => by
    have : sumTo (fun i => w (b + i) * (([] : List Int).count (b + i) : Nat)) n = sumTo (fun J => 0) n := sumTo_congr n fun i J => by simp
    rw [this]
    have z : ∀ n, sumTo (fun J => 0) n = 0 := fun n => by
      induction n with
      | zero => rfl
      | succ n ih => rw [sumTo, ih]; rfl
    rw [z]; rfl
  | a :: l, h => by
    have e : sumTo (fun i => w (b + i) * (((a :: l).count (b + i) : Nat) : Int)) n = sumTo (fun i => w (b + i) * ((l.count (b + i) : Nat) : Int) + if a = b + i then w (b + i) else 0) n := sumTo_congr n fun i J => by
      rw [List.count_cons]
      by_cases q : a = b + i
      · rw [if_pos (by simpa using q), if_pos q]
        simp [Int.mul_add]
      · rw [if_neg (by simpa using q), if_neg q]
        simp
    rw [e, sumTo_add, sum_counts fun x m => h x (.tail _ m), sumTo_ind, if_pos (h a (.head _))]
    simp [Int.add_comm]
noncomputable def cvS (X B₀ : Bs) : Bool := ndS (B₀.map (·.1)) && B₀.all fun p => X.all fun q => !(p.1 == q.1)
theorem cov_pre2 {B₀ : Bs} (X : Bs) (h : cvS X B₀ = true) : Cov (X ++ B₀) B₀ := by
  obtain ⟨h1, h2⟩ := Bool.and_eq_true_iff.mp h
  have base : Cov B₀ B₀ := cov_pre [] h1
  have key : ∀ {r : Bs}, (∀ p ∈ r, (X.all fun q => !(p.1 == q.1)) = true) → Cov B₀ r → Cov (X ++ B₀) r := by
    intro r
    induction r with
    | nil => intro J J; trivial
    | cons p r ih =>
      intro hp hc
      obtain ⟨n, x⟩ := p
      refine ⟨?_, ih (fun p m => hp p (.tail _ m)) hc.2⟩
      have hX := hp (n, x) (.head _)
      have : ∀ (X : Bs), (X.all fun q => !(n == q.1)) = true → (X ++ B₀).lookup n = B₀.lookup n := by
        intro X
        induction X with
        | nil => intro J; rfl
        | cons q X ih =>
          intro h
          obtain ⟨a, b⟩ := Bool.and_eq_true_iff.mp (show (!(n == q.1) && X.all fun q => !(n == q.1)) = true from h)
          obtain ⟨qn, qx⟩ := q
          show List.lookup n ((qn, qx) :: (X ++ B₀)) = _
          have : (n == qn) = false := by simpa using a
          rw [List.lookup_cons, this]
          exact ih b
      rw [this X hX]; exact hc.1
  exact key (fun p m => List.all_eq_true.mp h2 p m) base
noncomputable abbrev B8 (scr : List Int) (fa va ta ma la : Addr) (h : Ch) (cs : List Th) : Bs := ("counts", Li (cs.map Th.d)) :: BB scr fa va ta ma la h
noncomputable abbrev B9 (scr : List Int) (fa va ta ma la : Addr) (h : Ch) (cs : List Th) (tt ww : Th) : Bs := ("total", .dat tt.d) :: ("weighed", .dat ww.d) :: B8 scr fa va ta ma la h cs
theorem law_15 (T : TopOK c) {scr : List Int} {h : Ch} (H : ChOK h) {cs : List Th} (hca : (ca, OB.lst (cs.map Th.d)) ∈ σ)
    (K : ExecsP c (d + 30) lsc (B9 scr fa va ta ma la h cs (.it (-(h.ps.length : Int))) (.it 0)) (sgLess σ ca) (LB 16) N R) :
    ExecsP c (d + 30) lsc (("counts", .ref ca) :: BB scr fa va ta ma la h) σ (LB 15) N R := by
  have hB : FrzB ca (cs.map Th.d) (("counts", .ref ca) :: BB scr fa va ta ma la h) (B8 scr fa va ta ma la h cs) := ⟨⟨_, lk_here, .conv⟩, frzB_cov (cov_pre [("counts", .ref ca)] (by kernel_rfl))⟩
  with_reducible refine ExecsP.frz hca (B8 scr fa va ta ma la h cs) hB ?_
  generalize sgLess σ ca = σ0 at K ⊢
  with_reducible refine ExecsP.seqC 15 (fBody (topS 33)) (by with_unfolding_all rfl) (fun B' σ' => B' = B9 scr fa va ta ma la h cs (.it (-(h.ps.length : Int))) (.it 0) ∧ σ' = σ0) ?_ (fun B' σ' hz9 => by obtain ⟨e, e2⟩ := hz9; subst e; subst e2; exact K)
  have hz : (lits h.ps).length < 2 ^ 63 := by rw [List.length_map]; have := H.pl.2; lia
  repeat trivial
  rw [List.length_map]
  refine ⟨⟨_, ?_, rfl, rfl⟩, rfl⟩
  exact cov_pre [] (by kernel_rfl)
inductive TotI (σ : Sg) (h : Ch) (m : Mo h.Row) (Bf : Th → Th → Bs) (K1 K2 K3 L1 L2 L3 : Nat) (j : Nat) (B' : Bs) (σ' : Sg) : Prop
  | mk (tt ww : Th) : B' = Bf tt ww → Ext [] σ σ' → TOk m tt → TOk m ww → TB K1 K2 K3 tt → TB L1 L2 L3 ww → (∀ ρ, tt.val (m.W ρ) = -(h.ps.length : Int) + sumTo (fun i => cnt h ρ.1 (h.bottom + i)) j) → (∀ ρ, ww.val (m.W ρ) = sumTo (fun i => (h.bottom + i) * cnt h ρ.1 (h.bottom + i)) j) → TotI σ h m Bf K1 K2 K3 L1 L2 L3 j B' σ'
theorem law_16 (T : TopOK c) {scr : List Int} {h : Ch} (H : ChOK h) {m : Mo h.Row} {rs : List Th} {r0 : Th} (cs : Cts h m rs (nV h))
    (K : ∀ tt ww σ', Ext [] σ σ' → TOk m tt → TOk m ww → TB 200 40 100 tt → TB 1000 40 1000 ww → (∀ ρ, tt.val (m.W ρ) = -(h.ps.length : Int) + sumTo (fun i => cnt h ρ.1 (h.bottom + i)) (nV h)) → (∀ ρ, ww.val (m.W ρ) = sumTo (fun i => (h.bottom + i) * cnt h ρ.1 (h.bottom + i)) (nV h)) →
      ExecsP c (d + 30) lsc (B9 scr fa va ta ma la h (rs ++ [r0]) tt ww) σ' (LB 17) N R) :
    ExecsP c (d + 30) lsc (B9 scr fa va ta ma la h (rs ++ [r0]) (.it (-(h.ps.length : Int))) (.it 0)) σ (LB 16) N R := by
  have hbt := H.bt
  have hpl := H.pl
  with_reducible refine ExecsP.seqAt 16 (fBody (topS 33)) (by with_unfolding_all rfl) (TotI σ h m (B9 scr fa va ta ma la h (rs ++ [r0])) 200 40 100 1000 40 1000 (nV h)) ?_ (fun B' σ' hz9 => by obtain ⟨tt, ww, e, h1, h2, h3, h4, h5, h6, h7⟩ := hz9; subst e; exact K _ _ _ h1 h2 h3 h4 h5 h6 h7)
  with_reducible refine ExecP.forC ?_ (by intros; with_unfolding_all rfl)
  repeat trivial
  refine ⟨_, fun j => TotI σ h m (B9 scr fa va ta ma la h (rs ++ [r0])) (9 * j) (3 * j) (3 + 3 * j) (54 * j) (3 * j) (18 * j) j, IterP.rng (by lia) (by lia) (by lia) (by lia), ⟨_, cov_pre [] (by kernel_rfl), _, _, rfl, .refl _ _, tok_it, tok_it, tb_it (by lia) (by lia) (by lia), tb_it (by lia) (by lia) (by decide), fun ρ => ?_, fun ρ => rfl⟩, ?_, ?_⟩
  · show -(h.ps.length : Int) + 0 = -(h.ps.length : Int) + 0; rfl
  · rintro j x B' σ1 hx ⟨tt, ww, rfl, x1, ot, ow, bt, bw, vt, vw⟩
    obtain ⟨rfl, hj⟩ := nums_get hx
    have hj12 : j < 12 := by lia
    have hjl : j < rs.length := by rw [cs.len]; unfold nV; lia
    obtain ⟨r, hr⟩ : ∃ r, rs[j]? = some r := ⟨_, List.getElem?_eq_getElem hjl⟩
    have C := cs.at_ j r hr
    have hidx : ((rs ++ [r0]).map Th.d)[(h.bottom + (j : Int) - h.bottom).toNat]? = some r.d := by
      have : (h.bottom + (j : Int) - h.bottom).toNat = j := by lia
      rw [this, List.getElem?_map, List.getElem?_append_left hjl, hr]; rfl
    have p63 : (2:Int)^63 = 9223372036854775808 := rfl
    refine AsgP.nameL ?_
    refine ExecsP.ab fun N' hN => ?_
    repeat trivial
    refine subLp hidx ?_ (decide_eq_true (by lia)) (decide_eq_true (by lia))
    repeat trivial
    refine plus_S T ot C.ok bt C.tb (by lia) (by decide) (by lia) (by decide) (by lia) (by decide) fun t2 σ2 x2 ot2 J bt2 vt2 => ?_
    repeat trivial
    refine subLp hidx ?_ (decide_eq_true (by lia)) (decide_eq_true (by lia))
    repeat trivial
    refine plus_S T ow C.ok bw C.tb (by lia) (by lia) (by lia) (by decide) (by lia) (by decide) fun w2 σ3 x3 ow2 J bw2 vw2 => ?_
    repeat trivial
    have hv6 : (h.bottom + (j : Int)).natAbs ≤ 6 := by lia
    have hm1 : (h.bottom + (j : Int)).natAbs * 3 ≤ 6 * 3 := Nat.mul_le_mul_right 3 hv6
    refine hN _ _ ⟨_, ?_, t2, w2, rfl, x1.trans (x2.trans x3), ot2, ow2, bt2.mono (by show 9 * j + 1 * 3 * 3 ≤ _; lia) (by lia) (by show 3 + 3 * j + 1 * 3 ≤ _; lia), bw2.mono (by lia) (by lia) (by lia), fun ρ => ?_, fun ρ => ?_⟩
    · exact ⟨by repeat trivial, by repeat trivial, cov_pre2 [("total", .dat t2.d), ("weighed", .dat w2.d), ("v", I (h.bottom + j)), ("total", .dat tt.d), ("weighed", .dat ww.d)] (by kernel_rfl)⟩
    · rw [vt2 ρ, vt ρ, sumTo, C.val ρ]; lia
    · rw [vw2 ρ, vw ρ, sumTo, C.val ρ]
  · rintro B' σ1 ⟨tt, ww, rfl, x1, ot, ow, bt, bw, vt, vw⟩
    have e : ((numsOn h.bottom (h.top + 1)).map I).length = nV h := nums_len
    have hn12 : nV h ≤ 12 := by unfold nV; lia
    rw [e] at bt bw vt vw
    exact ⟨tt, ww, rfl, x1, ot, ow, bt.mono (by lia) (by lia) (by lia), bw.mono (by lia) (by lia) (by lia), vt, vw⟩
inductive WgI (σ : Sg) (h : Ch) (m : Mo h.Row) (ww : Th) (Bf : Th → Bs) (K1 K2 K3 j : Nat) (B' : Bs) (σ' : Sg) : Prop
  | mk (w2 : Th) : B' = Bf w2 → Ext [] σ σ' → TOk m w2 → TB K1 K2 K3 w2 → (∀ ρ, w2.val (m.W ρ) = ww.val (m.W ρ) - ((h.ps.take j).map fun p => worthAt h.k ρ.1 p).sum) → WgI σ h m ww Bf K1 K2 K3 j B' σ'
theorem law_17 (T : TopOK c) {scr : List Int} {h : Ch} (H : ChOK h) {n : Nat} {m : Mo h.Row} (g : Gr n h.m0 m) {cs : List Th} {tt ww : Th} (ot : TOk m ww) (tb : TB 1000 40 1000 ww)
    (K : ∀ w2 σ', Ext [] σ σ' → TOk m w2 → TB 1010 50 1010 w2 → (∀ ρ, w2.val (m.W ρ) = ww.val (m.W ρ) - (h.ps.map fun p => worthAt h.k ρ.1 p).sum) → ExecsP c (d + 30) lsc (B9 scr fa va ta ma la h cs tt w2) σ' (LB 18) N R) :
    ExecsP c (d + 30) lsc (B9 scr fa va ta ma la h cs tt ww) σ (LB 17) N R := by
  have hpl := H.pl
  with_reducible refine ExecsP.seqAt 17 (fBody (topS 33)) (by with_unfolding_all rfl) (WgI σ h m ww (B9 scr fa va ta ma la h cs tt) 1010 50 1010 h.ps.length) ?_ (fun B' σ' hz9 => by obtain ⟨w2, e, h1, h2, h3, h4⟩ := hz9; rw [List.take_length] at h4; subst e; exact K _ _ h1 h2 h3 h4)
  with_reducible refine ExecP.forC ?_ (by intros; with_unfolding_all rfl)
  repeat trivial
  refine ⟨_, fun j => WgI σ h m ww (B9 scr fa va ta ma la h cs tt) (1000 + 2 * j) (40 + 2 * j) (1000 + 3 * j) j, iter_mapL, ⟨_, cov_pre [] (by kernel_rfl), ww, rfl, .refl _ _, ot, tb, fun ρ => by simp⟩, ?_, ?_⟩
  · rintro j x B' σ1 hx ⟨w2, rfl, x1, o2, b2, v2⟩
    simp only [List.getElem?_map, Option.map_eq_some_iff] at hx
    obtain ⟨t, ⟨p, hp, rfl⟩, rfl⟩ := hx
    have hj : j < h.ps.length := (List.getElem?_eq_some_iff.mp hp).1
    have hpm := H.ps p (List.mem_of_getElem? hp)
    have F1 := th_fit H hpm
    refine AsgP.nameL ?_
    refine ExecsP.ab fun N' hN => ?_
    repeat trivial
    refine plus_S T o2 (g.tok F1.fit.ok) b2 F1.tb (by lia) (by decide) (by lia) (by decide) (by lia) (by decide) fun w3 σ2 x2 o3 J b3 v3 => ?_
    repeat trivial
    refine hN _ _ ⟨_, ?_, w3, rfl, x1.trans x2, o3, b3.mono (by show 1000 + 2 * j + 1 * 1 * 2 ≤ _; lia) (by lia) (by show 1000 + 3 * j + 1 * 3 ≤ _; lia), fun ρ => ?_⟩
    · exact ⟨by repeat trivial, by repeat trivial, cov_pre2 [("weighed", .dat w3.d), ("thing", .dat (thA h.k p).d), ("total", .dat tt.d), ("weighed", .dat w2.d)] (by kernel_rfl)⟩
    · rw [v3 ρ, v2 ρ, g.val F1.fit.ok, th_val H hpm, take_snoc hp, List.map_append, List.sum_append]
      simp; lia
  · rintro B' σ1 ⟨w2, rfl, x1, o2, b2, v2⟩
    have el : (someT h.k h.ps).length = h.ps.length := List.length_map ..
    rw [List.length_map, el] at b2 v2
    exact ⟨w2, rfl, x1, o2, b2.mono (by lia) (by lia) (by lia), v2⟩
/- What the counts come to. -/
theorem total_zero {h : Ch} (H : ChIn h) (ρ : h.Row) : -(h.ps.length : Int) + sumTo (fun i => cnt h ρ.1 (h.bottom + i)) (nV h) = 0 := by
  have hbt := H.ok.bt
  have hin : ∀ a ∈ h.ps.map (fun p => worthAt h.k ρ.1 p), h.bottom ≤ a ∧ a < h.bottom + (nV h : Nat) := fun a q => by
    obtain ⟨p, hp, rfl⟩ := List.mem_map.mp q
    have := H.inn ρ.1 ρ.2 p hp
    unfold nV; lia
  have e := sum_counts (w := fun J => 1) hin
  have e2 : sumTo (fun i => cnt h ρ.1 (h.bottom + i)) (nV h) = sumTo (fun i => (fun J => 1) (h.bottom + (i : Int)) * (((h.ps.map fun p => worthAt h.k ρ.1 p).count (h.bottom + i) : Nat) : Int)) (nV h) := sumTo_congr _ fun i J => by simp [cnt]
  rw [e2, e]
  have : ∀ l : List Int, (l.map fun J => (1 : Int)).sum = l.length := by
    intro l
    induction l with
    | nil => rfl
    | cons a l ih => rw [List.map_cons, List.sum_cons, ih, List.length_cons]; lia
  rw [this, List.length_map]; lia
theorem weighed_zero {h : Ch} (H : ChIn h) (ρ : h.Row) : sumTo (fun i => (h.bottom + i) * cnt h ρ.1 (h.bottom + i)) (nV h) - (h.ps.map fun p => worthAt h.k ρ.1 p).sum = 0 := by
  have hbt := H.ok.bt
  have hin : ∀ a ∈ h.ps.map (fun p => worthAt h.k ρ.1 p), h.bottom ≤ a ∧ a < h.bottom + (nV h : Nat) := fun a q => by
    obtain ⟨p, hp, rfl⟩ := List.mem_map.mp q
    have := H.inn ρ.1 ρ.2 p hp
    unfold nV; lia
  have e := sum_counts (w := fun v => v) hin
  have e2 : sumTo (fun i => (h.bottom + i) * cnt h ρ.1 (h.bottom + i)) (nV h) = sumTo (fun i => (fun v => v) (h.bottom + (i : Int)) * (((h.ps.map fun p => worthAt h.k ρ.1 p).count (h.bottom + i) : Nat) : Int)) (nV h) := sumTo_congr _ fun i J => by simp [cnt]
  rw [e2, e, List.map_id']
  omega
end
-- Base24
section
variable {c : Cx} {d : Nat} {sc : Scope} {B : Bs} {σ : Sg} {Q : AV → Sg → Prop} {N : Bs → Sg → Prop} {R : AV → Sg → Prop}
theorem bi_sorted1 {xs : List PyData} (hl : xs.length < 2) (h : Q (Li xs) σ) : CallP c d (.val (biV "sorted")) [Li xs] σ Q := by rw [biV_sorted]; exact .sorted1 hl h
theorem evalP_tss {ns : List Int} {n : Str} {p0 p1 p2 p3 q1 q2 q3 : Pos} (T : TopOK c) (hx : B.lookup n = some (Li (lits ns))) (h : Q (Tu (lits ns)) σ)
    (hl : ns.length < 2 := by first | exact ups_len | exact dns_len) (hk0 : autoParam ((sc.names.lookup ("tuple" : Str) == some .globalImplicit) = true) trT) (hk1 : autoParam ((sc.names.lookup ("sorted" : Str) == some .globalImplicit) = true) trT) (hk2 : autoParam ((sc.names.lookup ("set" : Str) == some .globalImplicit) = true) trT)
    (hk : autoParam ((sc.names.lookup n == some .local || sc.names.lookup n == some .cell || sc.names.lookup n == some .free) = true) trT) (hd : autoParam (((n == ("__debug__" : Str)) || (n == ("__classdict__" : Str))) = false) flT) :
    EvalP c d sc B σ (.Call (.Name "tuple" p0) [.Call (.Name "sorted" p1) [.Call (.Name "set" p2) [.Name n p3] [] q1] [] q2] [] q3) Q :=
  .callV T (.cons (evalP_sortedSet T hl (.loc hx ⟨rfl, .nil (bi_tupleL (by rw [List.length_map]; lia) h)⟩ hk hd) rfl hk1 hk2) rfl) (by kernel_rfl!) rfl hk0 (by kernel_rfl!)
end
-- Con26
section
variable {c : Cx} {d : Nat} {sc : Scope} {B : Bs} {σ : Sg} {Q : AV → Sg → Prop} {va ta ma : Addr} {ι : Type} {m : Mo ι}

noncomputable def upsOf : Th → List Int
  | .bi x true => [x]
  | _ => []
noncomputable def dnsOf : Th → List Int
  | .bi x false => [x]
  | _ => []
theorem ups_len : ∀ {t : Th}, (upsOf t).length < 2
  | .bo _ => by show 0 < 2; decide
  | .it _ => by show 0 < 2; decide
  | .su _ _ => by show 0 < 2; decide
  | .bi _ true => by show 1 < 2; decide
  | .bi _ false => by show 0 < 2; decide
theorem dns_len : ∀ {t : Th}, (dnsOf t).length < 2
  | .bo _ => by show 0 < 2; decide
  | .it _ => by show 0 < 2; decide
  | .su _ _ => by show 0 < 2; decide
  | .bi _ true => by show 0 < 2; decide
  | .bi _ false => by show 1 < 2; decide
theorem eqv_neg {z : Int} {v : Bool} : ([(Th.bi z v).d].any fun y => PyData.eqv y (Th.bi z v).neg.d) = false := by
  cases v <;> simp [Th.neg, Th.d, PyData.eqv, PyData.eqvAll]
theorem eqv_tb {z : Int} {v w : Bool} : PyData.eqv (Th.bi z v).d (.bool w) = false := by simp [Th.d, PyData.eqv]
theorem cov_nil {B : Bs} : Cov B [] := True.intro
theorem one_len {t : Th} : [t].length ≤ 1000000 := by show 1 ≤ 1000000; decide
theorem iter_one {t : Th} : IterP c d σ (Li [t.d]) ([t].map fun p => .dat p.d) := iter_mapL (xs := [t]) (f := Th.d)
theorem require_some_ok (T : TopOK c) {t : Th} (O : Ok σ va ta ma m) (ht : TOk m t) (h1 : Tru t) (hn : m.vs.length ≤ 10000)
    (h : ∀ σ' F, OkF σ' va ta m F → Ext [va, ta, ma] σ σ' → Last m F (fun ρ => t.val (m.W ρ) = 1) → Q (.dat .none) σ') : CallP c (d + 6) (.ref (c.fn "require_some")) [Fu va ta ma, Li [t.d]] σ Q := by
  refine CallP.inn 24 12 [("self", Fu va ta ma), ("truths", Li [t.d])] T rfl ?_
  have hsl : Sh (.list [t.d]) := (ShN.list (n := 3) fun x q => by rw [List.mem_singleton.mp q]; exact th_sh t).sh
  have fin : ∀ σ', OkF σ' va ta m [.cls (upsOf t) (dnsOf t)] → Ext [va, ta, ma] σ σ' → t ≠ .bo true → Q (.dat .none) σ' := fun σ' OF x ne => by
    refine h σ' _ OF x (.one (fun y q => ?_) ⟨Nat.le_of_lt (Nat.lt_trans ups_len (by decide)), Nat.le_of_lt (Nat.lt_trans dns_len (by decide))⟩ fun ρ => ?_)
    · cases t with
      | it v => rcases h1 with e | e <;> cases e
      | su ps v => rcases h1 with e | e <;> cases e
      | bo v => cases v <;> cases q
      | bi z v =>
        obtain ⟨a, b⟩ := bi_w ht rfl
        cases v <;> (rcases List.mem_singleton.mp q with rfl; exact a)
    · cases t with
      | it v => rcases h1 with e | e <;> cases e
      | su ps v => rcases h1 with e | e <;> cases e
      | bo v =>
        cases v
        · exact ⟨fun e => absurd e (by show ¬ (false = true); decide), fun e => absurd e (by show ¬ ((0:Int) = 1); decide)⟩
        · exact absurd rfl ne
      | bi z v =>
        obtain ⟨a, b⟩ := bi_w ht rfl
        have w := w01 O.inv a b ρ
        rw [bi_val]
        cases v
        · show (decide ((1 : Int) ∈ ([] : List Int).map (m.W ρ)) || decide ((0 : Int) ∈ [z].map (m.W ρ))) = true ↔ (1 - m.W ρ z = 1)
          simp; lia
        · show (decide ((1 : Int) ∈ [z].map (m.W ρ)) || decide ((0 : Int) ∈ ([] : List Int).map (m.W ρ))) = true ↔ (m.W ρ z = 1)
          simp; lia
  cases t with
  | it v => rcases h1 with e | e <;> cases e
  | su ps v => rcases h1 with e | e <;> cases e
  | bo v =>
    cases v
    · repeat trivial
      refine ValP.inL (ShN.bool (n := 0)).sh hsl ?_
      repeat trivial
      with_reducible refine EvalP.compP [Th.bo false] Th.d (fun J => false) Th.d [("truths", Li [(Th.bo false).d])] ?_ (compOK_of ["truths"] rfl (by kernel_rfl!)) ?_ one_len (by intros; with_unfolding_all rfl)
      · exact ⟨by repeat trivial, trivial⟩
      repeat trivial
      refine ⟨iter_one, fun p q => ?_, ?_⟩
      · rcases List.mem_singleton.mp q with rfl
        refine AsgP.name (k := .local) (by kernel_rfl!) ⟨rfl, ⟨by repeat trivial, trivial⟩, ?_⟩ (.inl rfl)
        show TestP _ _ _ _ _ _ _
        repeat trivial
        exact ⟨⟨rfl, rfl⟩, fun e => by cases e⟩
      show EvalP _ _ _ _ _ _ _
      repeat trivial
      refine ValP.ne (ShN.list (n := 0) (xs := []) (fun x q => by cases q)).sh (ShN.list (n := 0) (xs := []) (fun x q => by cases q)).sh ?_
      rw [eqv_nil]
      repeat trivial
      with_reducible refine EvalP.compP [Th.bo false] Th.d (fun J => false) Th.d [] cov_nil (compOK_of [] rfl (by kernel_rfl!)) ?_ one_len (by intros; with_unfolding_all rfl)
      repeat trivial
      refine ⟨iter_one, fun p q => ?_, ?_⟩
      · rcases List.mem_singleton.mp q with rfl
        refine AsgP.name (k := .local) (by kernel_rfl!) ⟨rfl, trivial, ?_⟩ (.inl rfl)
        show TestP _ _ _ _ _ _ _
        repeat trivial
        exact ⟨⟨rfl, rfl⟩, fun e => by cases e⟩
      repeat trivial
      refine bi_sorted1 (xs := []) (by decide) ?_
      repeat trivial
      with_reducible refine EvalP.compP ([] : List PyData) id (fun J => true) id [] cov_nil (compOK_of [] rfl (by kernel_rfl!)) ?_ (Nat.zero_le _) (by intros; with_unfolding_all rfl)
      repeat trivial
      refine ⟨IterP.list, fun p q => (List.not_mem_nil q).elim, ?_⟩
      rw [show (List.map id (List.filter (fun x => true) ([] : List PyData))) = lits (upsOf (.bo false)) from rfl]
      repeat trivial
      with_reducible refine EvalP.compP ([] : List PyData) id (fun J => true) id [] cov_nil (compOK_of [] rfl (by kernel_rfl!)) ?_ (Nat.zero_le _) (by intros; with_unfolding_all rfl)
      repeat trivial
      refine ⟨IterP.list, fun p q => (List.not_mem_nil q).elim, ?_⟩
      rw [show (List.map id (List.filter (fun x => true) ([] : List PyData))) = lits (dnsOf (.bo false)) from rfl]
      repeat trivial
      refine post_F T O (.cls (upsOf (.bo false)) (dnsOf (.bo false))) rfl hn fun σ' OF x => ?_
      repeat trivial
      exact fin σ' OF x (fun e => by cases e)
    · repeat trivial
      refine ValP.inL (ShN.bool (n := 0)).sh hsl ?_
      repeat trivial
      exact h σ [] O.F (.refl _ _) (.no fun ρ => rfl)
  | bi z v =>
    repeat trivial
    refine ValP.inL (ShN.bool (n := 0)).sh hsl ?_
    repeat trivial
    with_reducible refine EvalP.compP [Th.bi z v] Th.d (fun J => false) Th.d [("truths", Li [(Th.bi z v).d])] ?_ (compOK_of ["truths"] rfl (by kernel_rfl!)) ?_ one_len (by intros; with_unfolding_all rfl)
    · exact ⟨by repeat trivial, trivial⟩
    repeat trivial
    refine ⟨iter_one, fun p q => ?_, ?_⟩
    · rcases List.mem_singleton.mp q with rfl
      refine AsgP.name (k := .local) (by kernel_rfl!) ⟨rfl, ⟨by repeat trivial, trivial⟩, ?_⟩ (.inl rfl)
      show TestP _ _ _ _ _ _ _
      repeat trivial
      refine ValP.ne (th_sh (.bi z v)).sh (ShN.bool (n := 0)).sh ?_
      rw [eqv_tb]
      repeat trivial
      refine contrary_ok T (.bi z v) h1 ?_
      repeat trivial
      refine ValP.inL (th_sh _).sh hsl ?_
      rw [eqv_neg]
      repeat trivial
      exact ⟨⟨rfl, rfl⟩, fun e => by cases e⟩
    show EvalP _ _ _ _ _ _ _
    repeat trivial
    refine ValP.ne (ShN.list (n := 0) (xs := []) (fun x q => by cases q)).sh (ShN.list (n := 0) (xs := []) (fun x q => by cases q)).sh ?_
    rw [eqv_nil]
    repeat trivial
    with_reducible refine EvalP.compP [Th.bi z v] Th.d (fun J => true) Th.d [] cov_nil (compOK_of [] rfl (by kernel_rfl!)) ?_ one_len (by intros; with_unfolding_all rfl)
    repeat trivial
    refine ⟨iter_one, fun p q => ?_, ?_⟩
    · rcases List.mem_singleton.mp q with rfl
      refine AsgP.name (k := .local) (by kernel_rfl!) ⟨rfl, trivial, ?_⟩ (.inl rfl)
      show TestP _ _ _ _ _ _ _
      repeat trivial
      refine ValP.ne (th_sh (.bi z v)).sh (ShN.bool (n := 0)).sh ?_
      rw [eqv_tb]
      refine ⟨_, rfl, ⟨rfl, rfl⟩, fun e => ?_⟩
      repeat trivial
    repeat trivial
    refine bi_sorted1 (xs := [(Th.bi z v).d]) (by show 1 < 2; decide) ?_
    repeat trivial
    with_reducible refine EvalP.compP [Th.bi z v] Th.d (fun J => v) (fun J => .int z) [] cov_nil (compOK_of [] rfl (by kernel_rfl!)) ?_ one_len (by intros; with_unfolding_all rfl)
    repeat trivial
    refine ⟨iter_one, fun p q => ?_, ?_⟩
    · rcases List.mem_singleton.mp q with rfl
      refine AsgP.name (k := .local) (by kernel_rfl!) ⟨rfl, trivial, ?_⟩ (.inl rfl)
      show TestP _ _ _ _ _ _ _
      repeat trivial
      refine ⟨⟨rfl, rfl⟩, fun e => ?_⟩
      repeat trivial
    rewrite [show (List.map (fun x => PyData.int z) (List.filter (fun x => v) [Th.bi z v])) = lits (upsOf (.bi z v)) from by cases v <;> rfl]
    repeat trivial
    with_reducible refine EvalP.compP [Th.bi z v] Th.d (fun J => !v) (fun J => .int z) [] cov_nil (compOK_of [] rfl (by kernel_rfl!)) ?_ one_len (by intros; with_unfolding_all rfl)
    repeat trivial
    refine ⟨iter_one, fun p q => ?_, ?_⟩
    · rcases List.mem_singleton.mp q with rfl
      refine AsgP.name (k := .local) (by kernel_rfl!) ⟨rfl, trivial, ?_⟩ (.inl rfl)
      show TestP _ _ _ _ _ _ _
      repeat trivial
      refine ⟨⟨rfl, rfl⟩, fun e => ?_⟩
      repeat trivial
    rewrite [show (List.map (fun x => PyData.int z) (List.filter (fun x => !v) [Th.bi z v])) = lits (dnsOf (.bi z v)) from by cases v <;> rfl]
    repeat trivial
    refine post_F T O (.cls (upsOf (.bi z v)) (dnsOf (.bi z v))) rfl hn fun σ' OF x => ?_
    repeat trivial
    exact fin σ' OF x (fun e => by cases e)
end
-- Con27
section
variable {c : Cx} {d : Nat} {B : Bs} {σ : Sg} {Q : AV → Sg → Prop} {N : Bs → Sg → Prop} {R : AV → Sg → Prop} {va ta ma fa la wa ca : Addr}

noncomputable def cntO (h : Ch) (r : List Int) : Int := cnt h r (worthAt h.k r h.other)
noncomputable def letB (h : Ch) (r : List Int) : Bool := if h.last = 0 then true else if h.last = 1 then false else if h.last = 2 then true else if h.last = 3 then decide (cntO h r ≤ h.goal) else decide (cntO h r ≠ h.goal)
inductive PostI (σ : Sg) (va ta ma : Addr) (h : Ch) (m : Mo h.Row) (B : Bs) (B' : Bs) (σ' : Sg) : Prop
  | mk (m2 : Mo h.Row) (F : List Tl) : B' = B → OkF σ' va ta m2 F → Gr 1 m m2 → Ext [va, ta, ma] σ σ' → Last m2 F (fun ρ => letB h ρ.1 = true) → PostI σ va ta ma h m B B' σ'
theorem law_18 (T : TopOK c) {scr : List Int} {h : Ch} (H : ChOK h) {m : Mo h.Row} {rs : List Th} {r0 tt ww : Th} (hn : m.vs.length ≤ 9000) (hrl : rs.length ≤ 1000) (O : Ok σ va ta ma m) (C : CntOK m r0 fun ρ => cntO h ρ.1)
    (ot : TOk m tt) (ow : TOk m ww) (bt : TB 200 40 100 tt) (bw : TB 1010 50 1010 ww) (vt : ∀ ρ, tt.val (m.W ρ) = 0) (vw : ∀ ρ, ww.val (m.W ρ) = 0)
    (K : ∀ m2 F σ', OkF σ' va ta m2 F → Gr 1 m m2 → Ext [va, ta, ma] σ σ' → Last m2 F (fun ρ => letB h ρ.1 = true) → ExecsP c (d + 30) lsc (B9 scr fa va ta ma la h (rs ++ [r0]) tt ww) σ' (LB 19) N R) :
    ExecsP c (d + 30) lsc (B9 scr fa va ta ma la h (rs ++ [r0]) tt ww) σ (LB 18) N R := by
  have hla := H.last
  have hgo := H.goal
  have lastAt : ((rs ++ [r0]).map Th.d)[((-1 : Int) + (((rs ++ [r0]).map Th.d).length : Int)).toNat]? = some r0.d := by
    have : ((-1 : Int) + (((rs ++ [r0]).map Th.d).length : Int)).toNat = rs.length := by rw [List.length_map, List.length_append]; show ((-1 : Int) + ((rs.length + 1 : Nat) : Int)).toNat = _; lia
    rw [this, List.getElem?_map, List.getElem?_append_right (Nat.le_refl _)]; simp
  have lastLe : -(((rs ++ [r0]).map Th.d).length : Int) ≤ -1 := by rw [List.length_map, List.length_append]; show -((rs.length + 1 : Nat) : Int) ≤ -1; lia
  with_reducible refine ExecsP.seqAt 18 (fBody (topS 33)) (by with_unfolding_all rfl) (PostI σ va ta ma h m (B9 scr fa va ta ma la h (rs ++ [r0]) tt ww)) ?_ (fun B' σ' hz9 => by obtain ⟨m2, F, e, h1, h2, h3, h4⟩ := hz9; subst e; exact K _ _ _ h1 h2 h3 h4)
  have g0 : Gr 1 m m := (Gr.refl m).mono (by lia)
  refine ExecP.ab fun N' hN => ?_
  by_cases l0 : h.last = 0
  · have e1 : decide (h.last < 2) = true := decide_eq_true (by lia)
    have e2 : decide (h.last = 0) = true := decide_eq_true l0
    repeat trivial
    refine require_row_ok T .eq O ot (bt.mono (by decide) (by decide) (by decide)) (by lia) fun σ' F OF x L => ?_
    repeat trivial
    refine hN _ _ ⟨m, F, rfl, OF, g0, x, ⟨L.len, L.has, L.ok, fun ρ => (L.iff ρ).trans ?_⟩⟩
    unfold letB
    rw [if_pos l0, vt ρ]
    exact ⟨fun J => rfl, fun J => rfl⟩
  by_cases l1 : h.last = 1
  · have e1 : decide (h.last < 2) = true := decide_eq_true (by lia)
    have e2 : decide (h.last = 0) = false := decide_eq_false l0
    repeat trivial
    refine require_row_ok T .ne O ot (bt.mono (by decide) (by decide) (by decide)) (by lia) fun σ' F OF x L => ?_
    repeat trivial
    refine hN _ _ ⟨m, F, rfl, OF, g0, x, ⟨L.len, L.has, L.ok, fun ρ => (L.iff ρ).trans ?_⟩⟩
    unfold letB
    rw [if_neg l0, if_pos l1, vt ρ]
    exact ⟨fun e => absurd e (by decide), fun e => absurd e (by decide)⟩
  have e1 : decide (h.last < 2) = false := decide_eq_false (by lia)
  by_cases l2 : h.last = 2
  · have e2 : decide (h.last = 2) = true := decide_eq_true l2
    repeat trivial
    refine require_row_ok T .eq O ow (bw.mono (by decide) (by decide) (by decide)) (by lia) fun σ' F OF x L => ?_
    repeat trivial
    refine hN _ _ ⟨m, F, rfl, OF, g0, x, ⟨L.len, L.has, L.ok, fun ρ => (L.iff ρ).trans ?_⟩⟩
    unfold letB
    rw [if_neg l0, if_neg l1, if_pos l2, vw ρ]
    exact ⟨fun J => rfl, fun J => rfl⟩
  have e2 : decide (h.last = 2) = false := decide_eq_false l2
  by_cases l3 : h.last = 3
  · have e3 : decide (h.last = 3) = true := decide_eq_true l3
    repeat trivial
    refine subLn lastAt lastLe ?_
    repeat trivial
    refine plus_S (v := .it h.goal) T C.ok tok_it C.tb (tb_it (K := 0) (L := 0) (N := 4) (by decide) (by decide) (by lia)) (by decide) (by decide) (by decide) (by decide) (by decide) (by decide) fun r σ1 x1 or nr br vr => ?_
    repeat trivial
    refine require_row_ok T .le (O.ext x1) or (br.mono (by decide) (by decide) (by decide)) (by lia) fun σ' F OF x L => ?_
    repeat trivial
    refine hN _ _ ⟨m, F, rfl, OF, g0, (x1.nil _).trans x, ⟨L.len, L.has, L.ok, fun ρ => (L.iff ρ).trans ?_⟩⟩
    unfold letB
    rw [if_neg l0, if_neg l1, if_neg l2, if_pos l3, vr ρ, C.val ρ]
    have eg : (Th.it h.goal).val (m.W ρ) = h.goal := by show h.goal + 0 = _; lia
    rw [eg]
    show decide (_ ≤ (0 : Int)) = true ↔ _
    rw [decide_eq_true_iff, decide_eq_true_iff]
    lia
  · have e3 : decide (h.last = 3) = false := decide_eq_false l3
    repeat trivial
    refine subLn lastAt lastLe ?_
    repeat trivial
    refine equal_ok (t := .it h.goal) T O (by lia) C.ok tok_it (C.tb.mono (by decide) (by decide) (by decide)) (tb_it (by decide) (by decide) (by lia)) (fun x a y b J e => nomatch e) fun m2 σ2 r O2 g2 x2 tr ok tb val => ?_
    obtain ⟨n1, n2, n3, n4⟩ := neg_ok ok tr
    repeat trivial
    refine contrary_ok T r tr ?_
    repeat trivial
    refine require_some_ok T O2 n2 n1 (by have := g2.len; lia) fun σ' F OF x L => ?_
    repeat trivial
    refine hN _ _ ⟨m2, F, rfl, OF, g2, x2.trans x, ⟨L.len, L.has, L.ok, fun ρ => (L.iff ρ).trans ?_⟩⟩
    unfold letB
    rw [if_neg l0, if_neg l1, if_neg l2, if_neg l3, n4, val ρ, C.val ρ]
    have eg : (Th.it h.goal).val (m.W ρ) = h.goal := by show h.goal + 0 = _; lia
    rw [eg, decide_eq_true_iff]
    by_cases q : cntO h ρ.1 = h.goal
    · rw [if_pos q]; exact ⟨fun e => absurd e (by decide), fun e => absurd q e⟩
    · rw [if_neg q]; exact ⟨fun J => q, fun J => by decide⟩
end
-- Con28
section
variable {c : Cx} {d : Nat} {B : Bs} {σ : Sg} {Q : AV → Sg → Prop} {N : Bs → Sg → Prop} {R : AV → Sg → Prop} {va ta ma fa la wa ca : Addr} {ι : Type} {m : Mo ι}

noncomputable abbrev Bkt := Int × Addr × List Tl
noncomputable abbrev kvsOf (bl : List Bkt) : List (Int × AV) := bl.map fun q => (q.1, .ref q.2.1)
noncomputable def bkt (bl : List Bkt) (p : Int) : List Tl := ((bl.find? fun q => decide (q.1 = p)).map (·.2.2)).getD []
noncomputable def addB (bl : List Bkt) (k : Int) (t : Tl) : List Bkt := bl.map fun q => if q.1 = k then (q.1, q.2.1, q.2.2 ++ [t]) else q
theorem kvs_addB {bl : List Bkt} {k t} : kvsOf (addB bl k t) = kvsOf bl := by
  unfold kvsOf addB
  rw [List.map_map]
  refine List.map_congr_left fun q J => ?_
  show ((if q.1 = k then _ else _ : Bkt).1, AV.ref (if q.1 = k then _ else _ : Bkt).2.1) = _
  split <;> rfl
theorem bkt_addB {bl : List Bkt} {k : Int} {t : Tl} (hk : k ∈ bl.map (·.1)) (p : Int) : bkt (addB bl k t) p = bkt bl p ++ (if k = p then [t] else []) := by
  induction bl with
  | nil => cases hk
  | cons q r ih =>
    unfold bkt addB
    rw [List.map_cons, List.find?_cons, List.find?_cons]
    have e1 : (if q.1 = k then (q.1, q.2.1, q.2.2 ++ [t]) else q : Bkt).1 = q.1 := by split <;> rfl
    rw [e1]
    by_cases hp : q.1 = p
    · rw [decide_eq_true hp]
      by_cases h : q.1 = k
      · rw [if_pos h, if_pos (h.symm.trans hp)]; rfl
      · rw [if_neg h, if_neg (fun e => h (hp.trans e.symm))]; simp
    · rw [decide_eq_false hp]
      by_cases hk' : k ∈ r.map (·.1)
      · exact ih hk'
      · have hq : q.1 = k := by
          rcases List.mem_cons.mp hk with e | e
          · exact e.symm
          · exact absurd e hk'
        have hkp : k ≠ p := fun e => hp (hq.trans e)
        rw [if_neg hkp, List.append_nil]
        have : (r.map fun q => if q.1 = k then (q.1, q.2.1, q.2.2 ++ [t]) else q) = r := by
          conv => rhs; rw [← List.map_id r]
          refine List.map_congr_left fun x hx => ?_
          rw [if_neg (fun e => hk' (List.mem_map.mpr ⟨x, hx, e⟩))]; rfl
        rw [this]
theorem bkt_new {bl : List Bkt} {k : Int} {a : Addr} {t : Tl} (hk : k ∉ bl.map (·.1)) (p : Int) : bkt (bl ++ [(k, a, [t])]) p = bkt bl p ++ (if k = p then [t] else []) := by
  unfold bkt
  rw [List.find?_append]
  cases e : bl.find? (fun q => decide (q.1 = p)) with
  | some q =>
    have hq : q.1 = p := by simpa using List.find?_some e
    have : k ≠ p := fun e' => hk (List.mem_map.mpr ⟨q, List.mem_of_find?_eq_some e, hq.trans e'.symm⟩)
    rw [if_neg this]; simp
  | none =>
    by_cases h : k = p
    · rw [if_pos h]; simp [h]
    · rw [if_neg h]; simp [h]
theorem at_kvs {bl : List Bkt} {k : Int} {y : AV} (h : at? (kvsOf bl) k = some y) : ∃ q ∈ bl, q.1 = k ∧ y = .ref q.2.1 := by
  unfold at? at h
  rw [Option.map_eq_some_iff] at h
  obtain ⟨p, hp, rfl⟩ := h
  have m1 := List.mem_of_find?_eq_some hp
  have m2 : p.1 = k := by simpa using List.find?_some hp
  obtain ⟨q, hq, rfl⟩ := List.mem_map.mp m1
  exact ⟨q, hq, m2, rfl⟩
theorem at_kvs_none {bl : List Bkt} {k : Int} (h : at? (kvsOf bl) k = none) : k ∉ bl.map (·.1) := fun m => by
  unfold at? at h
  rw [Option.map_eq_none_iff, List.find?_eq_none] at h
  obtain ⟨q, hq, e⟩ := List.mem_map.mp m
  exact h (q.1, .ref q.2.1) (List.mem_map.mpr ⟨q, hq, rfl⟩) (by simpa using e)

structure Late (σ0 σ : Sg) (la : Addr) (bl : List Bkt) (ts : List Tl) : Prop where
  hla : (la, OB.dI (kvsOf bl)) ∈ σ
  n1 : (bl.map (·.1)).Nodup
  n2 : (bl.map (·.2.1)).Nodup
  each : ∀ q ∈ bl, (q.2.1, OB.lst (q.2.2.map Tl.d)) ∈ σ ∧ q.2.1 ∉ own σ0
  ext : Ext [la] σ0 σ
  len : bl.length ≤ ts.length
  bl2 : ∀ q ∈ bl, q.2.2.length ≤ ts.length
  bk : ∀ p, bkt bl p = ts.filter fun t => decide (top t.about = p)
theorem bl_addr {bl : List Bkt} (h : (bl.map (·.2.1)).Nodup) : ∀ {q q' : Bkt}, q ∈ bl → q' ∈ bl → q.2.1 = q'.2.1 → q = q' := by
  induction bl with
  | nil => intro q q' m; cases m
  | cons x r ih =>
    obtain ⟨h1, h2⟩ := List.nodup_cons.mp h
    intro q q' m m' e
    rcases List.mem_cons.mp m with a | a
    · rcases List.mem_cons.mp m' with b | b
      · rw [a, b]
      · exact absurd (List.mem_map.mpr ⟨q', b, by rw [← e, a]⟩) h1
    · rcases List.mem_cons.mp m' with b | b
      · exact absurd (List.mem_map.mpr ⟨q, a, by rw [e, b]⟩) h1
      · exact ih h2 a b e
theorem Late.old {σ0 σ' : Sg} {bl ts} {t : Tl} {q : Bkt} (L : Late σ0 σ' la bl ts) (hla : la ∈ own σ0) (hq : q ∈ bl) (hk : q.1 = top t.about) :
    Late σ0 (upd σ' q.2.1 (.lst (q.2.2.map Tl.d ++ [t.d]))) la (addB bl (top t.about) t) (ts ++ [t]) := by
  obtain ⟨hq1, hq2⟩ := L.each q hq
  have hne : la ≠ q.2.1 := fun e => hq2 (e ▸ hla)
  refine ⟨?_, ?_, ?_, fun x hx => ?_, ?_, ?_, fun x hx => ?_, fun p => ?_⟩
  · rw [kvs_addB]; exact mem_upd_ne L.hla hne
  · have : (addB bl (top t.about) t).map (·.1) = bl.map (·.1) := by
      unfold addB; rw [List.map_map]; refine List.map_congr_left fun x J => ?_
      show (if x.1 = _ then _ else _ : Bkt).1 = x.1
      split <;> rfl
    rw [this]; exact L.n1
  · have : (addB bl (top t.about) t).map (·.2.1) = bl.map (·.2.1) := by
      unfold addB; rw [List.map_map]; refine List.map_congr_left fun x J => ?_
      show (if x.1 = _ then _ else _ : Bkt).2.1 = x.2.1
      split <;> rfl
    rw [this]; exact L.n2
  · obtain ⟨y, hy, rfl⟩ := List.mem_map.mp hx
    obtain ⟨a1, a2⟩ := L.each y hy
    by_cases e : y.1 = top t.about
    · rw [if_pos e]
      have : y.2.1 = q.2.1 := by
        have e2 : y = q := by
          have : ∀ {bl : List Bkt}, (bl.map (·.1)).Nodup → ∀ {q q' : Bkt}, q ∈ bl → q' ∈ bl → q.1 = q'.1 → q = q' := by
            intro bl
            induction bl with
            | nil => intro J q q' m; cases m
            | cons x r ih =>
              intro h q q' m m' e
              obtain ⟨h1, h2⟩ := List.nodup_cons.mp h
              rcases List.mem_cons.mp m with a | a
              · rcases List.mem_cons.mp m' with b | b
                · rw [a, b]
                · exact absurd (List.mem_map.mpr ⟨q', b, by rw [← e, a]⟩) h1
              · rcases List.mem_cons.mp m' with b | b
                · exact absurd (List.mem_map.mpr ⟨q, a, by rw [e, b]⟩) h1
                · exact ih h2 a b e
          exact this L.n1 hy hq (e.trans hk.symm)
        rw [e2]
      have e3 : y = q := bl_addr L.n2 hy hq this
      subst e3
      exact ⟨by rw [List.map_append]; exact mem_upd (mem_own hq1), a2⟩
    · rw [if_neg e]
      refine ⟨mem_upd_ne a1 fun e2 => ?_, a2⟩
      have e3 : y = q := bl_addr L.n2 hy hq e2
      exact e (e3 ▸ hk)
  · refine ⟨fun p hp n => mem_upd_ne (L.ext.keep p hp n) fun e => hq2 (e ▸ mem_own (ob := p.2) hp), fun b hb => by rw [own_upd]; exact L.ext.own b hb⟩
  · unfold addB; rw [List.length_map, List.length_append]; have := L.len; lia
  · obtain ⟨y, hy, rfl⟩ := List.mem_map.mp hx
    have := L.bl2 y hy
    rw [List.length_append]
    split
    · show (y.2.2 ++ [t]).length ≤ _; rw [List.length_append]; show _ + 1 ≤ _ + 1; lia
    · show _ ≤ _ + 1; lia
  · rw [bkt_addB (List.mem_map.mpr ⟨q, hq, hk⟩), L.bk p, List.filter_append]
    congr 1
    by_cases e : top t.about = p
    · rw [if_pos e]; simp [e]
    · rw [if_neg e]; simp [e]
theorem Late.new {σ0 σ' : Sg} {bl ts} {t : Tl} {na : Addr} (L : Late σ0 σ' la bl ts) (hla : la ∈ own σ0) (hna : na ∉ own σ') (hk : top t.about ∉ bl.map (·.1)) :
    Late σ0 (upd (upd ((na, .lst []) :: σ') la (.dI (kvsOf bl ++ [(top t.about, .ref na)]))) na (.lst ([] ++ [t.d]))) la (bl ++ [(top t.about, na, [t])]) (ts ++ [t]) := by
  have hla' : la ∈ own σ' := L.ext.own la hla
  have hne : na ≠ la := fun e => hna (e ▸ hla')
  have hna0 : na ∉ own σ0 := fun e => hna (L.ext.own na e)
  refine ⟨?_, ?_, ?_, fun x hx => ?_, ?_, ?_, fun x hx => ?_, fun p => ?_⟩
  · have : kvsOf (bl ++ [(top t.about, na, [t])]) = kvsOf bl ++ [(top t.about, .ref na)] := by simp [kvsOf]
    rw [this]
    exact mem_upd_ne (mem_upd (.tail _ hla')) (Ne.symm hne)
  · rw [List.map_append, List.nodup_append]
    refine ⟨L.n1, by simp, fun a ha b hb e => ?_⟩
    have e : a = top t.about := e.trans (List.mem_singleton.mp hb)
    exact hk (e ▸ ha)
  · rw [List.map_append, List.nodup_append]
    refine ⟨L.n2, by simp, fun a ha b hb e => ?_⟩
    have e : a = na := e.trans (List.mem_singleton.mp hb)
    obtain ⟨q, hq, e2⟩ := List.mem_map.mp ha
    exact hna (by rw [← e, ← e2]; exact mem_own (L.each q hq).1)
  · rcases List.mem_append.mp hx with hx | hx
    · obtain ⟨a1, a2⟩ := L.each x hx
      have n1 : x.2.1 ≠ la := fun e => a2 (e ▸ hla)
      have n2 : x.2.1 ≠ na := fun e => hna (e ▸ mem_own a1)
      exact ⟨mem_upd_ne (mem_upd_ne (.tail _ a1) n1) n2, a2⟩
    · rcases List.mem_singleton.mp hx with rfl
      refine ⟨?_, hna0⟩
      refine mem_upd ?_
      rw [own_upd]; exact .head _
  · refine ⟨fun p hp n => ?_, fun b hb => by rw [own_upd, own_upd]; exact .tail _ (L.ext.own b hb)⟩
    have np : p.1 ≠ na := fun e => hna0 (e ▸ mem_own (ob := p.2) hp)
    exact mem_upd_ne (mem_upd_ne (.tail _ (L.ext.keep p hp n)) (fun e => n (by rw [e]; simp))) np
  · rw [List.length_append, List.length_append]; have := L.len; simp; lia
  · rw [List.length_append]
    rcases List.mem_append.mp hx with hx | hx
    · have := L.bl2 x hx; show _ ≤ _ + 1; lia
    · rcases List.mem_singleton.mp hx with rfl; show 1 ≤ _ + 1; lia
  · rw [bkt_new hk, L.bk p, List.filter_append]
    congr 1
    by_cases e : top t.about = p
    · rw [if_pos e]; simp [e]
    · rw [if_neg e]; simp [e]

theorem Late.cons {σ0 σ' : Sg} {bl ts} {p : Addr × OB} (L : Late σ0 σ' la bl ts) : Late σ0 (p :: σ') la bl ts := ⟨.tail _ L.hla, L.n1, L.n2, fun q hq => ⟨.tail _ (L.each q hq).1, (L.each q hq).2⟩, ⟨fun x hx n => .tail _ (L.ext.keep x hx n), fun a ha => .tail _ (L.ext.own a ha)⟩, L.len, L.bl2, L.bk⟩
theorem at_fz {bl : List Bkt} (p : Int) : (at? (bl.map fun q => (q.1, Li (q.2.2.map Tl.d))) p).getD (Li []) = Li ((bkt bl p).map Tl.d) := by
  induction bl with
  | nil => rfl
  | cons q r ih =>
    unfold at? bkt at *
    rw [List.map_cons, List.find?_cons, List.find?_cons]
    by_cases h : q.1 = p
    · rw [decide_eq_true h]; rfl
    · rw [decide_eq_false h]; exact ih
noncomputable abbrev B10 (f : AV) (la : Addr) (h : Ch) (cs : List Th) : Bs := [("f", f), ("late", .ref la), ("worths", Li (h.rows.map (entD h.k))), ("places", Li (lits h.ps)), ("other", I h.other), ("last", I h.last), ("goal", I h.goal), ("bottom", I h.bottom), ("top", I h.top), ("counts", Li (cs.map Th.d))]
noncomputable abbrev Fz (va ma : Addr) (ts : List Tl) : AV := .funs (.flat (.ref va) (Li (ts.map Tl.d))) (.ref ma)
inductive LateI (σ0 : Sg) (la : Addr) (B : Bs) (ts : List Tl) (B' : Bs) (σ' : Sg) : Prop
  | mk (bl : List Bkt) : B' = B → Late σ0 σ' la bl ts → LateI σ0 la B ts B' σ'
theorem law_19 (T : TopOK c) {scr : List Int} {h : Ch} {p0 : h.Row → Prop} {m : Mo h.Row} {F : List Tl} {cs : List Th} {tt ww : Th} (hn : m.vs.length ≤ 1000) (O : OkF σ va ta m F) (L : Last m F p0) (hla : (la, OB.dI []) ∈ σ) (hne : la ≠ va ∧ la ≠ ta) (hmo : ma ∈ own σ) (hmt : ma ≠ ta)
    (K : ∀ σ' kvs, (la, OB.dI kvs) ∈ σ' → (va, OB.lst (m.vs.map vD)) ∈ σ' → (∀ p, (at? kvs p).getD (Li []) = Li (((m.ts ++ F).filter fun t => decide (top t.about = p)).map Tl.d)) → ExecsP c (d + 30) lsc (B10 (Fz va ma (m.ts ++ F)) la h cs) σ' (LB 20) N R) :
    ExecsP c (d + 30) lsc (B9 scr fa va ta ma la h cs tt ww) σ (LB 19) N R := by
  have hB : FrzB ta ((m.ts ++ F).map Tl.d) (B9 scr fa va ta ma la h cs tt ww) (B10 (Fz va ma (m.ts ++ F)) la h cs) :=
    ⟨⟨Fu va ta ma, by repeat trivial, .funs (.flat .same .conv) .same⟩, ⟨_, by repeat trivial, .same⟩, ⟨_, by repeat trivial, .same⟩, ⟨_, by repeat trivial, .same⟩, ⟨_, by repeat trivial, .same⟩, ⟨_, by repeat trivial, .same⟩, ⟨_, by repeat trivial, .same⟩, ⟨_, by repeat trivial, .same⟩, ⟨_, by repeat trivial, .same⟩, ⟨_, by repeat trivial, .same⟩, trivial⟩
  with_reducible refine ExecsP.frz O.ht (B10 (Fz va ma (m.ts ++ F)) la h cs) hB ?_
  have hv0 : (va, OB.lst (m.vs.map vD)) ∈ sgLess σ ta := mem_less O.hv O.vt
  have hla0 : (la, OB.dI []) ∈ sgLess σ ta := mem_less hla hne.2
  have hmo0 : ma ∈ own (sgLess σ ta) := by
    obtain ⟨p, hp, e⟩ := List.mem_map.mp hmo
    exact List.mem_map.mpr ⟨p, mem_less hp (by rw [e]; exact hmt), e⟩
  generalize sgLess σ ta = σ0 at hv0 hla0 hmo0 ⊢
  have hto : ∀ t ∈ m.ts ++ F, t.about.length ≤ 10000 := fun t q => by
    have : t.ok := by
      rcases List.mem_append.mp q with q | q
      · exact O.inv.tok t q
      · exact L.ok t q
    cases t with
    | lin kd ps k => show (ps.map (·.1)).length ≤ _; rw [List.length_map]; exact Nat.le_trans this.2 (by decide)
    | reif b ps k => show (b :: ps.map (·.1)).length ≤ _; rw [List.length_cons, List.length_map]; have := this.2; lia
    | cnt xs v z => show (xs ++ [z]).length ≤ _; rw [List.length_append]; have : xs.length ≤ 1000 := this; show _ + 1 ≤ _; lia
    | cls us ds => show (us ++ ds).length ≤ _; rw [List.length_append]; obtain ⟨a1, a2⟩ : us.length ≤ 1000 ∧ ds.length ≤ 1000 := this; lia
  have htl : (m.ts ++ F).length ≤ 2000 := by rw [List.length_append]; have := O.inv.tlen; have := L.len; lia
  generalize hts : m.ts ++ F = ts at *
  with_reducible refine ExecsP.seqAt 19 (fBody (topS 33)) (by with_unfolding_all rfl) (LateI σ0 la (B10 (Fz va ma ts) la h cs) ts) ?_ (fun B' σ' ⟨bl, e, Lt⟩ => ?_)
  · with_reducible refine ExecP.forC ?_ (by intros; with_unfolding_all rfl)
    repeat trivial
    refine ⟨_, fun i => LateI σ0 la (B10 (Fz va ma ts) la h cs) (ts.take i), iter_mapL, ⟨_, cov_pre [] (by kernel_rfl), [], rfl, ⟨hla0, .nil, .nil, fun q m => (List.not_mem_nil m).elim, .refl _ _, Nat.zero_le _, fun q m => (List.not_mem_nil m).elim, fun p => by simp [bkt]⟩⟩, ?_, ?_⟩
    · rintro i x B' σ1 hx ⟨bl, rfl, Lt⟩
      simp only [List.getElem?_map, Option.map_eq_some_iff] at hx
      obtain ⟨t, ht, rfl⟩ := hx
      have htm := List.mem_of_getElem? ht
      have hb := hto t htm
      have hbl : bl.length ≤ 2000 := by have := Lt.len; rw [List.length_take] at this; lia
      have hlo : la ∈ own σ0 := mem_own hla0
      refine AsgP.nameL ?_
      refine ExecsP.ab fun N' hN => ?_
      with_reducible refine ExecsP.cons (ExecP.expr ?_ (by with_unfolding_all rfl))
      with_reducible refine EvalP.method ?_ (by with_unfolding_all rfl) (by with_unfolding_all rfl) (by with_unfolding_all rfl) (by with_unfolding_all rfl)
      with_reducible refine EvalP.method ?_ (by with_unfolding_all rfl) (by with_unfolding_all rfl) (by with_unfolding_all rfl) (by with_unfolding_all rfl)
      repeat trivial
      refine ⟨_, _, .setd Lt.hla, .builtin, ?_⟩
      with_reducible refine EvalsP.cons ?_ (by with_unfolding_all rfl)
      repeat trivial
      refine about_ok T t hb ?_
      refine ValP.addT (by rw [List.length_map]; show 1 + _ ≤ _; lia) ?_
      with_reducible refine EvalsP.nil ?_
      refine bi_maxS ?_
      with_reducible refine EvalsP.cons (EvalP.list0 fun na nna => ?_) (by with_unfolding_all rfl)
      with_reducible refine EvalsP.nil ?_
      refine CallP.setd T.mods (List.mem_cons_of_mem _ Lt.hla) (by rw [List.length_map]; lia) (fun y hy => ?_) (fun hnone => ?_)
      · obtain ⟨q, hq, hqk, rfl⟩ := at_kvs hy
        have hm1 : (q.2.1, OB.lst (q.2.2.map Tl.d)) ∈ (na, OB.lst []) :: σ1 := List.mem_cons_of_mem _ (Lt.each q hq).1
        refine ⟨_, _, .append hm1, .builtin, ?_⟩
        repeat trivial
        have hq2 := Lt.bl2 q hq
        rw [List.length_take] at hq2
        refine CallP.append hm1 (by rw [List.length_map]; lia) ?_
        refine ExecsP.nil (hN _ _ ⟨_, cov_pre [("told", .dat t.d)] (by kernel_rfl), addB bl (top t.about) t, rfl, ?_⟩)
        rw [take_snoc ht]
        exact Lt.cons.old hlo hq hqk
      · have hne2 : na ≠ la := fun e => nna (e ▸ mem_own Lt.hla)
        have hm1 : (na, OB.lst []) ∈ upd ((na, OB.lst []) :: σ1) la (.dI (kvsOf bl ++ [(top t.about, .ref na)])) := mem_upd_ne (List.mem_cons_self ..) hne2
        refine ⟨_, _, .append hm1, .builtin, ?_⟩
        repeat trivial
        refine CallP.append hm1 (Nat.zero_le _) ?_
        refine ExecsP.nil (hN _ _ ⟨_, cov_pre [("told", .dat t.d)] (by kernel_rfl), bl ++ [(top t.about, na, [t])], rfl, ?_⟩)
        rw [take_snoc ht]
        exact Lt.new hlo nna (at_kvs_none hnone)
    · rintro B' σ1 ⟨bl, rfl, Lt⟩
      rw [List.length_map, List.take_length] at Lt
      exact ⟨bl, rfl, Lt⟩
  · subst e
    have hlo : la ∈ own σ0 := mem_own hla0
    have hvo : va ∈ own σ0 := mem_own hv0
    let g : Addr → Option (List PyData) := fun a => (bl.find? fun q => decide (q.2.1 = a)).map fun q => q.2.2.map Tl.d
    have hg : ∀ b xs, g b = some xs → (b, OB.lst xs) ∈ σ' := fun b xs e => by
      obtain ⟨q, hq, rfl⟩ := Option.map_eq_some_iff.mp e
      have hb : q.2.1 = b := by simpa using List.find?_some hq
      rw [← hb]; exact (Lt.each q (List.mem_of_find?_eq_some hq)).1
    have gno : ∀ a ∈ own σ0, g a = none := fun a ha => by
      show Option.map _ _ = none
      rw [Option.map_eq_none_iff, List.find?_eq_none]
      intro q hq e
      have e : q.2.1 = a := by simpa using e
      exact (Lt.each q hq).2 (e ▸ ha)
    have gq : ∀ q ∈ bl, g q.2.1 = some (q.2.2.map Tl.d) := fun q hq => by
      show Option.map _ _ = _
      cases e : bl.find? (fun x => decide (x.2.1 = q.2.1)) with
      | none =>
        rw [List.find?_eq_none] at e
        exact absurd (decide_eq_true rfl) (e q hq)
      | some x =>
        have hx : x.2.1 = q.2.1 := by simpa using List.find?_some e
        have := bl_addr Lt.n2 (List.mem_of_find?_eq_some e) hq hx
        rw [this]; rfl
    have hGB : FrzGB g (B10 (Fz va ma ts) la h cs) (B10 (Fz va ma ts) la h cs) := by
      have fr : ∀ a ∈ own σ0, AV.ref a = frzG g (.ref a) := fun a ha => by
        show _ = (match g a with | some xs => Li xs | none => AV.ref a)
        rw [gno a ha]
      refine ⟨⟨Fz va ma ts, lk_here, ?_⟩, ⟨.ref la, by repeat trivial, fr la hlo⟩, ⟨_, by repeat trivial, rfl⟩, ⟨_, by repeat trivial, rfl⟩, ⟨_, by repeat trivial, rfl⟩, ⟨_, by repeat trivial, rfl⟩, ⟨_, by repeat trivial, rfl⟩, ⟨_, by repeat trivial, rfl⟩, ⟨_, by repeat trivial, rfl⟩, ⟨_, by repeat trivial, rfl⟩, trivial⟩
      show Fz va ma ts = .funs (.flat (frzG g (.ref va)) (Li (ts.map Tl.d))) (frzG g (.ref ma))
      rw [← fr va hvo, ← fr ma hmo0]
    with_reducible refine ExecsP.frzG g Lt.hla hg _ hGB ?_
    refine K _ _ (mem_frzS_la Lt.hla (gno la hlo)) (mem_frzS (Lt.ext.keep _ hv0 (by simp; exact Ne.symm hne.1)) (gno va hvo) (Ne.symm hne.1)) fun p => ?_
    rw [← Lt.bk p, ← at_fz]
    congr 2
    unfold kvsOf
    rw [List.map_map]
    refine List.map_congr_left fun q hq => ?_
    show (q.1, (match g q.2.1 with | some xs => Li xs | none => AV.ref q.2.1)) = _
    rw [gq q hq]
end
-- Con29
section
variable {c : Cx} {d : Nat} {B : Bs} {σ : Sg} {Q : AV → Sg → Prop} {N : Bs → Sg → Prop} {R : AV → Sg → Prop} {va ta ma fa la wa ca : Addr} {ι : Type} {m : Mo ι}

noncomputable def rowE (m : Mo ι) (ρ : ι) : List Int := (List.range m.vs.length).map fun (i : Nat) => m.W ρ (i : Int)
theorem rowE_len {ρ : ι} : (rowE m ρ).length = m.vs.length := by simp [rowE]
theorem rowE_get {ρ : ι} {i : Nat} (h : i < m.vs.length) : (rowE m ρ)[i]? = some (m.W ρ i) := by
  unfold rowE
  rw [List.getElem?_map, List.getElem?_range h]; rfl
theorem rowE_at {ρ : ι} {x : Int} (h : m.has x) : rw_ (rowE m ρ) x = m.W ρ x := by
  show ((rowE m ρ)[x.toNat]?).getD 0 = _
  rw [rowE_get (by have := h.1; have := h.2; lia)]
  show m.W ρ ((x.toNat : Nat) : Int) = _
  rw [Int.toNat_of_nonneg h.1]
theorem rowE_take {ρ : ι} {n : Nat} {v x : Int} (hn : n ≤ m.vs.length) (h0 : 0 ≤ x) (hx : x ≤ n) : rw_ ((rowE m ρ).take n ++ [v]) x = at1 (m.W ρ) n v x := by
  show ((((rowE m ρ).take n ++ [v])[x.toNat]?).getD 0 : Int) = if x = n then v else m.W ρ x
  have hl : ((rowE m ρ).take n).length = n := by rw [List.length_take, rowE_len]; lia
  by_cases e : x = n
  · rw [if_pos e, List.getElem?_append_right (by lia), hl]
    have : x.toNat - n = 0 := by lia
    rw [this]; rfl
  · rw [if_neg e, List.getElem?_append_left (by lia), List.getElem?_take]
    rw [if_pos (by lia), rowE_get (by lia)]
    show m.W ρ ((x.toNat : Nat) : Int) = _
    rw [Int.toNat_of_nonneg h0]
theorem rowE_take3 {ρ : ι} {n : Nat} {x : Int} (hn : n ≤ m.vs.length) (h0 : 0 ≤ x) (hx : x < n) : rw_ ((rowE m ρ).take n) x = m.W ρ x := by
  show ((((rowE m ρ).take n)[x.toNat]?).getD 0 : Int) = _
  rw [List.getElem?_take, if_pos (by lia), rowE_get (by lia)]
  show m.W ρ ((x.toNat : Nat) : Int) = _
  rw [Int.toNat_of_nonneg h0]
noncomputable def bkOf (ts : List Tl) (p : Int) : List Tl := ts.filter fun t => decide (top t.about = p)
noncomputable def okOf (m : Mo ι) (ts : List Tl) (ρ : ι) (p : Int) : Bool := decide (∀ t ∈ bkOf ts p, t.holds (m.W ρ) = true)
theorem mem_bk {ts : List Tl} {p : Int} {t : Tl} : t ∈ bkOf ts p ↔ t ∈ ts ∧ top t.about = p := by
  unfold bkOf; rw [List.mem_filter]; simp
theorem ways_of {F : List Tl} {pp : ι → Prop} (I : Inv m) (hn : m.vs.length ≤ 1000) (L : Last m F pp) (ρ : ι) : Ways m.vs (bkOf (m.ts ++ F)) (rowE m ρ) (okOf m (m.ts ++ F) ρ) := by
  have hin : ∀ t ∈ m.ts ++ F, (∀ x ∈ t.about, m.has x) ∧ t.ok := fun t q => by
    rcases List.mem_append.mp q with q | q
    · exact ⟨(I.tld t q).1, I.tok t q⟩
    · exact ⟨L.has t q, L.ok t q⟩
  have h3 := I.n3
  refine ⟨rowE_len, h3, hn, fun p t q => ?_, fun p => ?_, fun p hp => ?_, fun p h3p hpn => ?_, fun x q => ?_⟩
  · obtain ⟨q1, q2⟩ := mem_bk.mp q
    exact ⟨(hin t q1).2, fun x hx => ⟨((hin t q1).1 x hx).1, by rw [← q2]; exact top_ge hx⟩⟩
  · refine Nat.le_trans (List.length_filter_le ..) ?_
    rw [List.length_append]; have := I.tlen; have := L.len; lia
  · unfold okOf
    rw [decide_eq_true_iff]
    have e : ∀ t ∈ bkOf (m.ts ++ F) p, t.holds (rw_ ((rowE m ρ).take 3)) = t.holds (m.W ρ) := fun t q => by
      obtain ⟨q1, q2⟩ := mem_bk.mp q
      refine t.holds_congr fun x hx => rowE_take3 h3 ((hin t q1).1 x hx).1 ?_
      have := top_ge hx; show x < 3; omega
    exact ⟨fun h t q => by rw [← e t q]; exact h t q, fun h t q => by rw [e t q]; exact h t q⟩
  · have hp : m.has (p : Int) := ⟨by lia, by lia⟩
    obtain ⟨nm, hnm⟩ := m.dl_at hp
    obtain ⟨lo, hi, hdl⟩ := I.one p hp (by lia)
    have hb := E_bd I hp
    have hE := E_in I hp ρ
    have hEe : m.E p = (lo, hi) := by unfold Mo.E; rw [hdl]; rfl
    rw [hEe] at hb hE
    have e0 : rw_ (rowE m ρ) (p : Int) = m.W ρ p := rowE_at hp
    have ept : (p : Int).toNat = p := by lia
    rw [hdl, ept] at hnm
    refine ⟨nm, lo, hi, hnm, hb.1, hb.2, by rw [e0]; exact hE.1, by rw [e0]; exact hE.2, fun v h1 h2 => ?_⟩
    rw [e0]
    have e : ∀ t ∈ bkOf (m.ts ++ F) p, t.holds (rw_ ((rowE m ρ).take p ++ [v])) = t.holds (at1 (m.W ρ) p v) := fun t q => by
      obtain ⟨q1, q2⟩ := mem_bk.mp q
      refine t.holds_congr fun x hx => rowE_take (by lia) ((hin t q1).1 x hx).1 ?_
      have := top_ge hx; lia
    have same : v = m.W ρ p → at1 (m.W ρ) p v = m.W ρ := fun hv => by
      funext x
      unfold at1
      split
      · rename_i hx; rw [hx]; exact hv
      · rfl
    constructor
    · intro hall
      have hall' : ∀ t ∈ bkOf (m.ts ++ F) p, t.holds (at1 (m.W ρ) p v) = true := fun t q => by rw [← e t q]; exact hall t q
      have hv : v = m.W ρ p := I.det p hp (by lia) ρ v (by rw [hdl]; exact inDom_one.mpr ⟨h1, h2⟩) fun t q et => hall' t (mem_bk.mpr ⟨List.mem_append_left _ q, et⟩)
      refine ⟨hv, ?_⟩
      unfold okOf
      rw [decide_eq_true_iff]
      intro t q
      have := hall' t q
      rwa [same hv] at this
    · rintro ⟨hv, hok⟩ t q
      rw [e t q, same hv]
      unfold okOf at hok
      exact of_decide_eq_true hok t q
  · unfold rowE at q
    obtain ⟨i, hi, rfl⟩ := List.mem_map.mp q
    have hp : m.has (i : Int) := ⟨by lia, by have := List.mem_range.mp hi; lia⟩
    have hb := E_bd I hp
    have hE := E_in I hp ρ
    have : (2:Nat)^18 = 262144 := rfl
    have : (2:Nat)^20 = 1048576 := rfl
    lia
theorem okTo_iff {ok : Int → Bool} {n : Nat} (h3 : 3 ≤ n) : okTo ok n = true ↔ ∀ p : Int, -1 ≤ p → p < n → ok p = true := by
  unfold okTo
  simp only [Bool.and_eq_true, List.all_eq_true, List.mem_range]
  constructor
  · rintro ⟨⟨⟨⟨a, b⟩, c⟩, d⟩, h⟩ p h1 h2
    have : p = -1 ∨ p = 0 ∨ p = 1 ∨ p = 2 ∨ 3 ≤ p := by lia
    rcases this with rfl | rfl | rfl | rfl | h4
    · exact a
    · exact b
    · exact c
    · exact d
    · have := h (p.toNat - 3) (by lia)
      have e : ((3 + (p.toNat - 3) : Nat) : Int) = p := by lia
      rwa [e] at this
  · intro h
    exact ⟨⟨⟨⟨h _ (by lia) (by lia), h _ (by lia) (by lia)⟩, h _ (by lia) (by lia)⟩, h _ (by lia) (by lia)⟩, fun j hj => h _ (by lia) (by lia)⟩
theorem okTo_last {F : List Tl} {pp : ι → Prop} (I : Inv m) (L : Last m F pp) (ρ : ι) : okTo (okOf m (m.ts ++ F) ρ) m.vs.length = true ↔ pp ρ := by
  rw [okTo_iff I.n3, ← L.iff ρ]
  constructor
  · intro h t q
    have hx := L.has t q
    have ht : -1 ≤ top t.about ∧ top t.about < m.vs.length := by
      rcases top_mem (xs := t.about) with e | e
      · rw [e]; have := I.n3; lia
      · have := hx _ e; exact ⟨by have := this.1; lia, this.2⟩
    have := h _ ht.1 ht.2
    unfold okOf at this
    exact of_decide_eq_true this t (mem_bk.mpr ⟨List.mem_append_right _ q, rfl⟩)
  · intro h p J J
    unfold okOf
    rw [decide_eq_true_iff]
    intro t q
    obtain ⟨q1, J⟩ := mem_bk.mp q
    rcases List.mem_append.mp q1 with q1 | q1
    · exact (I.tld t q1).2 ρ
    · exact h t q1
theorem eqv_lits (xs : List Int) : PyData.eqv (.list (lits xs)) (.list (lits xs)) = true := by
  have : PyData.eqvAll (lits xs) (lits xs) = true := by
    induction xs with
    | nil => simp [lits, PyData.eqvAll]
    | cons x r ih =>
      show PyData.eqvAll (.int x :: lits r) (.int x :: lits r) = true
      simp only [PyData.eqvAll, Bool.and_eq_true]
      exact ⟨by simp [PyData.eqv], ih⟩
  simpa [PyData.eqv] using this
end
-- Con30
section
variable {c : Cx} {d : Nat} {B : Bs} {σ : Sg} {Q : AV → Sg → Prop} {N : Bs → Sg → Prop} {R : AV → Sg → Prop} {va ta ma fa la wa ca : Addr}

noncomputable def mineL (h : Ch) (r : List Int) : List Int := h.ps.map fun p => worthAt h.k r p
noncomputable def dueL (h : Ch) (r : List Int) : List Int := (numsOn h.bottom (h.top + 1)).map (fun v => cnt h r v) ++ [cntO h r]
noncomputable abbrev letDs (h : Ch) (r : List Int) : List PyData := [.bool true, .bool false, .bool true, .bool (decide (cntO h r ≤ h.goal)), .bool (decide (cntO h r ≠ h.goal))]
theorem let_at {h : Ch} (H : ChOK h) (r : List Int) : (letDs h r)[h.last.toNat]? = some (.bool (letB h r)) := by
  have hl := H.last
  have : h.last = 0 ∨ h.last = 1 ∨ h.last = 2 ∨ h.last = 3 ∨ h.last = 4 := by lia
  unfold letB
  rcases this with e | e | e | e | e <;> rw [e] <;> rfl
/- What the counts say at a row's whole list. -/
structure CsOK (h : Ch) (m : Mo h.Row) (cs : List Th) : Prop where
  each : ∀ t ∈ cs, TOk m t ∧ TB 3 3 3 t ∧ t.isT = false ∧ t.isB = false
  len : cs.length ≤ 100
  val : ∀ ρ : h.Row, cs.map (fun t => t.val (m.W ρ)) = dueL h ρ.1
theorem rowE_bd {ι : Type} {m : Mo ι} (IV : Inv m) {ρ : ι} : ∀ x ∈ rowE m ρ, x.natAbs ≤ 2 ^ 21 := fun x q => by
  obtain ⟨i, hi, rfl⟩ := List.mem_map.mp q
  have hh : m.has (i : Int) := ⟨by lia, by have := List.mem_range.mp hi; lia⟩
  have := E_in IV hh ρ; have := E_bd IV hh
  have : (2:Nat)^18 = 262144 := rfl
  have : (2:Nat)^21 = 2097152 := rfl
  lia
theorem due_len {h : Ch} {r : List Int} : (lits (dueL h r)).length = (numsOn h.bottom (h.top + 1)).length + 1 := by rw [List.length_map]; unfold dueL; rw [List.length_append, List.length_map]; rfl
theorem due_at {h : Ch} {r : List Int} : (lits (dueL h r))[((-1 : Int) + ((lits (dueL h r)).length : Int)).toNat]? = some (.int (cntO h r)) := by
  have : ((-1 : Int) + ((lits (dueL h r)).length : Int)).toNat = (numsOn h.bottom (h.top + 1)).length := by rw [due_len]; lia
  rw [this, List.getElem?_map]
  unfold dueL
  rw [List.getElem?_append_right (by rw [List.length_map]; lia), List.length_map, Nat.sub_self]; rfl
theorem due_le {h : Ch} {r : List Int} : -((lits (dueL h r)).length : Int) ≤ -1 := by rw [due_len]; lia
theorem due_eq {h : Ch} {r : List Int} : (numsOn h.bottom (h.top + 1)).map (fun v => PyData.int (cnt h r v)) ++ [.int (((mineL h r).count (rw_ (worthOf h.k r) h.other) : Nat) : Int)] = lits (dueL h r) := by
  have hdue : (numsOn h.bottom (h.top + 1)).map (fun v => PyData.int (cnt h r v)) ++ [.int (((mineL h r).count (worthAt h.k r h.other) : Nat) : Int)] = lits (dueL h r) := by simp [lits, dueL, cntO, cnt, mineL]
  exact hdue
theorem rowE_3 {h : Ch} (H : ChOK h) {m : Mo h.Row} (IV : Inv m) (hW : ∀ ρ : h.Row, ∀ i : Int, (i = 0 ∨ i = 1 ∨ i = 2) → m.W ρ i = rw_ ρ.1 i) (ρ : h.Row) : (rowE m ρ).take 3 = ρ.1 := by
  have h3 := IV.n3
  obtain ⟨x, y, b, e, J⟩ := row_mem H.low H.hole H.base ρ.2
  have e0 := hW ρ 0 (.inl rfl)
  have e1 := hW ρ 1 (.inr (.inl rfl))
  have e2 := hW ρ 2 (.inr (.inr rfl))
  refine List.ext_getElem? fun i => ?_
  rw [List.getElem?_take]
  rw [e] at e0 e1 e2
  match i with
  | 0 => rw [if_pos (by decide), rowE_get (by lia), e]; show some (m.W ρ 0) = some x; rw [e0]; rfl
  | 1 => rw [if_pos (by decide), rowE_get (by lia), e]; show some (m.W ρ 1) = some y; rw [e1]; rfl
  | 2 => rw [if_pos (by decide), rowE_get (by lia), e]; show some (m.W ρ 2) = some b; rw [e2]; rfl
  | n + 3 => rw [if_neg (by lia), e]; rfl
theorem rows_last {h : Ch} {m : Mo h.Row} {F : List Tl} (IV : Inv m) (L : Last m F fun ρ => letB h ρ.1 = true) (ρ : h.Row) : rowsAt (okOf m (m.ts ++ F) ρ) (rowE m ρ) m.vs.length = if letB h ρ.1 = true then [rowE m ρ] else [] := by
  unfold rowsAt
  have this : okTo (okOf m (m.ts ++ F) ρ) m.vs.length = true ↔ letB h ρ.1 = true := okTo_last IV L ρ
  have et : (rowE m ρ).take m.vs.length = rowE m ρ := List.take_of_length_le (by rw [rowE_len]; lia)
  rw [et]
  by_cases q : letB h ρ.1 = true
  · rw [if_pos q, if_pos (this.mpr q)]
  · rw [if_neg q, if_neg (fun e => q (this.mp e))]
theorem ways_row (T : TopOK c) {h : Ch} (H : ChOK h) {m : Mo h.Row} {F : List Tl} {kvs : List (Int × AV)} (hn : m.vs.length ≤ 1000) (IV : Inv m) (L : Last m F fun ρ => letB h ρ.1 = true) (hW : ∀ ρ : h.Row, ∀ i : Int, (i = 0 ∨ i = 1 ∨ i = 2) → m.W ρ i = rw_ ρ.1 i)
    (hla : (la, OB.dI kvs) ∈ σ) (hv : (va, OB.lst (m.vs.map vD)) ∈ σ) (hkv : ∀ p, (at? kvs p).getD (Li []) = Li ((bkOf (m.ts ++ F) p).map Tl.d)) {ρ : h.Row} {r : List Int} (hr : ρ.1 = r) {U : AV} (K : ∀ σ', Ext [] σ σ' → Q (Li (rowsD (if letB h r = true then [rowE m ρ] else []))) σ') :
    CallP c (d + 6) (.ref (c.fn "_law_ways")) [.flat (.ref va) U, .ref la, Li (lits r)] σ Q := by
  subst hr
  have := ways_ok (Q := Q) (d := d) (U := U) T (ways_of IV hn L ρ) hv hla hkv (rows_last IV L ρ ▸ K)
  rwa [rowE_3 H IV hW ρ] at this
theorem law_20 (T : TopOK c) {h : Ch} (H : ChOK h) {m : Mo h.Row} {F : List Tl} {cs : List Th} {kvs : List (Int × AV)} (hn : m.vs.length ≤ 1000) (IV : Inv m) (L : Last m F fun ρ => letB h ρ.1 = true) (hW : ∀ ρ : h.Row, ∀ i : Int, (i = 0 ∨ i = 1 ∨ i = 2) → m.W ρ i = rw_ ρ.1 i)
    (C : CsOK h m cs) (hla : (la, OB.dI kvs) ∈ σ) (hv : (va, OB.lst (m.vs.map vD)) ∈ σ) (hkv : ∀ p, (at? kvs p).getD (Li []) = Li ((bkOf (m.ts ++ F) p).map Tl.d)) (hR : ∀ σ', R (Bo true) σ') :
    ExecsP c (d + 30) lsc (B10 (Fz va ma (m.ts ++ F)) la h cs) σ (LB 20) N R := by
  with_reducible refine ExecsP.seqAt 20 (fBody (topS 33)) (by with_unfolding_all rfl) (fun B' σ' => B' = B10 (Fz va ma (m.ts ++ F)) la h cs) ?_ (fun B' σ' e => ?_)
  rotate_left
  · subst e
    show ExecsP _ _ _ _ _ (_ :: _) _ _
    with_reducible refine ExecsP.cons (ExecP.ret (EvalP.bool ?_))
    exact hR _
  with_reducible refine ExecP.forC ?_ (by intros; with_unfolding_all rfl)
  repeat trivial
  refine ⟨_, PlI σ (fun J => B10 (Fz va ma (m.ts ++ F)) la h cs), iter_mapL, ⟨_, cov_pre [] (by kernel_rfl), rfl, .refl _ _⟩, ?_, ?_⟩
  · rintro i x B' σ1 hx ⟨rfl, x1⟩
    simp only [List.getElem?_map, Option.map_eq_some_iff] at hx
    obtain ⟨r, hr, rfl⟩ := hx
    have hrm := List.mem_of_getElem? hr
    have hla1 := x1.keep _ hla (by simp)
    have hv1 := x1.keep _ hv (by simp)
    have hmine : (h.ps.map fun p => PyData.int (worthAt h.k r p)) = lits (mineL h r) := by simp [lits, mineL]
    refine AsgP.bd fun N' hN => ?_
    with_reducible refine AsgP.tuple ?_ (by with_unfolding_all rfl) (by with_unfolding_all rfl)
    repeat trivial
    with_reducible refine ExecP.assignC ?_ (by with_unfolding_all rfl) (by with_unfolding_all rfl)
    with_reducible refine EvalP.compM h.ps PyData.int (fun p => .int (worthAt h.k r p)) [("worth", Li (lits (worthOf h.k r)))] ?_ (compOK_of ["worth"] rfl (by kernel_rfl!)) ?_ (Nat.le_trans H.pl.2 (by decide)) (by intros; with_unfolding_all rfl)
    · exact ⟨by repeat trivial, trivial⟩
    repeat trivial
    refine ⟨iter_litL, fun p q => ?_, ?_⟩
    · have hpm := H.ps p q
      repeat trivial
      refine sub_row (r := worthOf h.k r) ⟨hpm.1, by rw [worth_len]; exact hpm.2⟩ (by rw [worth_len]; decide) ?_
      repeat trivial
    rw [hmine]
    with_reducible refine AsgP.name (k := .cell) (by kernel_rfl!) ?_ (.inr ⟨rfl, (by kernel_rfl!)⟩)
    with_reducible refine ExecsP.cons (ExecP.assign ?_ (by with_unfolding_all rfl) (by with_unfolding_all rfl) (by with_unfolding_all rfl))
    with_reducible refine EvalP.binop ?_
    have hbt := H.bt
    with_reducible refine EvalP.compM (numsOn h.bottom (h.top + 1)) PyData.int (fun v => .int (cnt h r v)) [("mine", Li (lits (mineL h r)))] ?_ (compOK_of ["mine"] rfl (by kernel_rfl!)) ?_ (by simp [numsOn]; lia) (by intros; with_unfolding_all rfl)
    · exact ⟨by repeat trivial, trivial⟩
    repeat trivial
    refine ⟨IterP.rng (by lia) (by lia) (by lia) (by lia), fun v q => ?_, ?_⟩
    · with_reducible refine AsgP.name (k := .local) (by kernel_rfl!) ?_ (.inl rfl)
      refine ⟨rfl, ⟨by repeat trivial, trivial⟩, ?_⟩
      with_reducible refine EvalP.method ?_ (by with_unfolding_all rfl) (by with_unfolding_all rfl) (by with_unfolding_all rfl) (by with_unfolding_all rfl)
      repeat trivial
      refine ⟨_, _, .count, .builtin, ?_⟩
      repeat trivial
      refine CallP.count ?_
      exact ⟨rfl, rfl⟩
    with_reducible refine EvalP.list ?_
    with_reducible refine EvalsP.cons ?_ (by with_unfolding_all rfl)
    with_reducible refine EvalP.method ?_ (by with_unfolding_all rfl) (by with_unfolding_all rfl) (by with_unfolding_all rfl) (by with_unfolding_all rfl)
    repeat trivial
    refine ⟨_, _, .count, .builtin, ?_⟩
    repeat trivial
    refine sub_row (r := worthOf h.k r) ⟨H.other.1, by rw [worth_len]; exact H.other.2⟩ (by rw [worth_len]; decide) ?_
    repeat trivial
    refine CallP.count ?_
    repeat trivial
    have hnl : (numsOn h.bottom (h.top + 1)).length ≤ 20 := by simp [numsOn]; lia
    refine ValP.addL (by rw [List.length_map]; show _ + 1 ≤ _; lia) ?_
    rw [due_eq]
    with_reducible refine AsgP.name (k := .local) (by kernel_rfl!) ?_ (.inl rfl)
    repeat trivial
    refine subLn due_at due_le ?_
    repeat trivial
    refine subLn due_at due_le ?_
    repeat trivial
    refine exT (letDs h r) rfl rfl ?_
    repeat trivial
    refine subTp (let_at H r) ?_ (decide_eq_true H.last.1) (decide_eq_true (by have := H.last.2; have : (2:Int)^63 = 9223372036854775808 := rfl; lia))
    refine AsgP.nameL ?_
    repeat trivial
    have hz0 : ([] : List PyData).length < 2 ^ 63 := by decide
    obtain ⟨ρ, hρ⟩ : ∃ ρ : h.Row, ρ.1 = r := ⟨⟨r, hrm⟩, rfl⟩
    refine ways_row (d := d + 24) T H hn IV L hW hla1 hv1 hkv hρ fun σ2 x2 => ?_
    cases q : letB h r with
    | false =>
      show AsgP _ _ _ _ _ _ (Li []) _
      repeat trivial
      exact hN _ _ ⟨_, cov_pre [_, _, _, _, _, _] (by kernel_rfl), rfl, x1.trans x2⟩
    | true =>
      have hz1 : [PyData.list (lits (rowE m ρ))].length < 2 ^ 63 := (by decide : 1 < 2 ^ 63)
      show AsgP _ _ _ _ _ _ (Li [.list (lits (rowE m ρ))]) _
      repeat trivial
      have hrE : ∀ x ∈ rowE m ρ, x.natAbs ≤ 2 ^ 21 := rowE_bd IV
      with_reducible refine EvalP.compM cs Th.d (fun t => .int (t.val (m.W ρ))) [("ways", Li [.list (lits (rowE m ρ))])] ?_ (compOK_of ["ways"] rfl (by kernel_rfl!)) ?_ (Nat.le_trans C.len (by decide)) (by intros; with_unfolding_all rfl)
      · exact ⟨by repeat trivial, trivial⟩
      repeat trivial
      refine ⟨iter_mapL, fun t q' => ?_, ?_⟩
      · obtain ⟨tok, tb, tT, tB⟩ := C.each t q'
        repeat trivial
        refine worth_ok (d := d + 27) T ⟨tT, tB⟩ (fun p pm => ⟨(tok.has p pm).1, by rw [rowE_len]; exact (tok.has p pm).2⟩) (fun p pm => Nat.le_trans (tb.co p pm) (by decide)) (Nat.le_trans tb.len (by decide)) hrE (by rw [rowE_len]; lia) ?_
        have : t.val (rw_ (rowE m ρ)) = t.val (m.W ρ) := by
          unfold Th.val; rw [den_congr fun p pm => rowE_at (tok.has p pm)]
        exact ⟨by rw [this], rfl⟩
      have hc : (cs.map fun t => PyData.int (t.val (m.W ρ))) = lits (dueL h r) := by
        have := C.val ρ
        rw [hρ] at this
        rw [show dueL h r = cs.map (fun t => t.val (m.W ρ)) from this.symm]; simp [lits]
      rw [hc]
      repeat trivial
      refine ValP.ne shl_lits shl_lits ?_
      rw [eqv_lits]
      repeat trivial
      exact hN _ _ ⟨_, cov_pre [_, _, _, _, _, _] (by kernel_rfl), rfl, x1.trans x2⟩
  · rintro B' σ1 ⟨rfl, x1⟩
    rfl
end
-- Con31
section
variable {c : Cx} {d : Nat} {N : Bs → Sg → Prop} {R : AV → Sg → Prop}
theorem law_all (T : TopOK c) {scr : List Int} (hs : scr.length ≤ 63) (hR : ∀ σ', R (Bo true) σ') : ExecsP c (d + 30) lsc [("script", Li (lits scr))] [] (LB 0) N R := by
  refine law_0 T hs fun fa va ta ma la σ L => ?_
  have hc : (scr.take 40).length ≤ 100 := by rw [List.length_take]; lia
  refine law_1 T hc L fun low hole base σ h1 h2 h3 h4 h5 h6 L => ?_
  refine law_2 T ⟨h3, h4⟩ L fun σ L => ?_
  refine law_3 T L fun σ L => ?_
  refine law_4 T L fun σ L => ?_
  refine law_5 T hc L fun k σ k1 k2 L => ?_
  refine law_6 T hc L fun ps n σ n0 n10 p1 p3 hp L => ?_
  refine law_7 T hc n0 n10 L fun other last goal σ o1 o2 l1 l2 g1 g2 L => ?_
  have L := L.l2
  refine law_8 T hp p3 L fun wa σ1 hw hwa x1 => ?_
  have ownL : ∀ {a ob}, (a, ob) ∈ σ → wa ≠ a := fun m e => hwa (e ▸ mem_own m)
  have w1 := ownL L.hv; have w2 := ownL L.ht; have w3 := ownL L.hm; have w4 := ownL L.hl
  have L := L.ext x1
  refine law_9 T ⟨k1, k2⟩ hw fun σ2 hw2 x2 => ?_
  have kp2 : ∀ {a ob}, (a, ob) ∈ σ1 → wa ≠ a → (a, ob) ∈ sgLess σ2 wa := fun m e => mem_less (x2.keep _ m (fun q => e (List.mem_singleton.mp q).symm)) (fun q => e q.symm)
  refine law_10 T hp p3 hw2 ?_
  refine law_11 T ⟨h1, h2⟩ ⟨h3, h4⟩ ⟨h5, h6⟩ ⟨k1, k2⟩ hp p1 fun bottom top b1 b2 b3 inn => ?_
  refine law_12 T fun ca hca => ?_
  have v2 := kp2 L.hv w1; have t2 := kp2 L.ht w2; have m2' := kp2 L.hm w3; have la2 := kp2 L.hl w4
  have cne : ∀ {a ob}, (a, ob) ∈ sgLess σ2 wa → ca ≠ a := fun m e => hca (e ▸ mem_own m)
  have cv := cne v2; have ct := cne t2; have cm := cne m2'; have cl := cne la2
  generalize hh : (⟨low, hole, base, k, ps, other, last, goal, bottom, top⟩ : Ch) = h
  have H : ChOK h := by subst hh; exact ⟨⟨h1, h2⟩, ⟨h3, h4⟩, ⟨h5, h6⟩, ⟨k1, k2⟩, hp, ⟨p1, p3⟩, ⟨o1, o2⟩, ⟨l1, l2⟩, ⟨g1, g2⟩, ⟨b1, b2, b3⟩⟩
  have HI : ChIn h := ⟨H, by subst hh; exact inn⟩
  have O : Ok ((ca, OB.lst []) :: sgLess σ2 wa) va ta ma h.m0 := ⟨.tail _ (by subst hh; exact v2), .tail _ t2, .tail _ m2', L.vt, L.vm, L.tm, m0_inv H⟩
  have la3 : (la, OB.dI []) ∈ ((ca, OB.lst []) :: sgLess σ2 wa) := .tail _ la2
  have key : ExecsP c (d + 30) lsc (("counts", .ref ca) :: BB scr fa va ta ma la h) ((ca, .lst []) :: sgLess σ2 wa) (LB 13) N R := by
    have hnV : nV h ≤ 12 := by unfold nV; have := H.bt; lia
    have lX : la ∉ [va, ta, ma, ca] := by
      simp only [List.mem_cons, List.not_mem_nil, or_false, not_or]
      exact ⟨fun e => L.vl e.symm, fun e => L.tl e.symm, fun e => L.ml e.symm, fun e => cl e.symm⟩
    refine law_13 T H O (List.mem_cons_self ..) ⟨cv, ct, cm⟩ fun m σ3 rs O3 g3 hca3 x3 C3 => ?_
    refine law_14 T H (n := 4 * nV h) (by lia) O3 g3 hca3 (by have := C3.len; lia) ⟨cv, ct, cm⟩ fun m' σ4 r O4 g4 hca4 x4 C4 => ?_
    have g04 := g3.trans g4
    have la4 := x4.keep _ (x3.keep _ la3 lX) lX
    refine law_15 T H (cs := rs ++ [r]) hca4 ?_
    have O5 : Ok (sgLess σ4 ca) va ta ma m' := ⟨mem_less O4.hv (fun e => cv e.symm), mem_less O4.ht (fun e => ct e.symm), mem_less O4.hm (fun e => cm e.symm), O4.vt, O4.vm, O4.tm, O4.inv⟩
    have la5 := mem_less la4 (a := ca) (fun e => cl e.symm)
    have C3' : Cts h m' rs (nV h) := ⟨C3.len, fun i t e => (C3.at_ i t e).gr g4⟩
    refine law_16 T H (m := m') (rs := rs) (r0 := r) C3' fun tt ww σ5 x5 ot ow bt bw vt vw => ?_
    refine law_17 T H g04 ow bw fun w2 σ6 x6 ot2 bt2 vw2 => ?_
    have x56 := x5.trans x6
    have hn : m'.vs.length ≤ 500 := by have := g04.len; have : h.m0.vs.length = 3 := rfl; lia
    refine law_18 T H (by lia) (by have := C3.len; lia) (O5.ext x56) C4 ot ot2 bt bt2 (fun ρ => by rw [vt]; exact total_zero HI ρ) (fun ρ => by rw [vw2, vw]; exact weighed_zero HI ρ) fun m2 F σ7 O7 g7 x7 L7 => ?_
    have la7 := x7.keep _ (x56.keep _ la5 (by simp)) (fun q => lX (by simp only [List.mem_cons, List.not_mem_nil, or_false] at q ⊢; rcases q with q | q | q <;> simp [q]))
    have ma7 : ma ∈ own σ7 := x7.own _ (mem_own (O5.ext x56).hm)
    have hn2 : m2.vs.length ≤ 1000 := by have := g7.len; lia
    refine law_19 T hn2 O7 L7 la7 ⟨fun e => L.vl e.symm, fun e => L.tl e.symm⟩ ma7 (fun e => L.tm e.symm) fun σ8 kvs hla8 hv8 hkv => ?_
    have g := g04.trans g7
    refine law_20 T H hn2 O7.inv L7 (fun ρ i hi => g.W ρ i (m0_has.mpr hi)) ?_ hla8 hv8 hkv hR
    exact {
      each := fun t q => by
        have : CntOK m' t (fun ρ => t.val (m'.W ρ)) := by
          rcases List.mem_append.mp q with q | q
          · obtain ⟨i, hi⟩ := List.mem_iff_getElem?.mp q
            have := C3'.at_ i t hi
            exact ⟨this.ok, this.tb, this.nt, fun J => rfl⟩
          · rw [List.mem_singleton.mp q]; exact ⟨C4.ok, C4.tb, C4.nt, fun J => rfl⟩
        exact ⟨g7.tok this.ok, this.tb, this.nt⟩
      len := by rw [List.length_append, C3.len]; show _ + 1 ≤ _; lia
      val := fun ρ => by
        unfold dueL
        rw [List.map_append]
        congr 1
        · refine List.ext_getElem? fun i => ?_
          rw [List.getElem?_map, List.getElem?_map]
          by_cases hi : i < nV h
          · have hrs : i < rs.length := by rw [C3.len]; exact hi
            have e1 : rs[i]? = some rs[i] := List.getElem?_eq_getElem hrs
            have c1 := (C3'.at_ i _ e1)
            rw [e1]
            have e2 : (numsOn h.bottom (h.top + 1))[i]? = some (h.bottom + i) := by
              unfold numsOn
              rw [List.getElem?_map, List.getElem?_range (show i < (h.top + 1 - h.bottom).toNat from hi)]; rfl
            rw [e2]
            show some (Th.val (m2.W ρ) rs[i]) = some (cnt h ρ.1 (h.bottom + i))
            rw [g7.val c1.ok, c1.val]
          · rw [List.getElem?_eq_none (by rw [C3.len]; lia), List.getElem?_eq_none (by unfold numsOn; rw [List.length_map, List.length_range]; exact Nat.le_of_not_lt hi)]; rfl
        · show [r.val (m2.W ρ)] = [cntO h ρ.1]
          rw [g7.val C4.ok, C4.val]; rfl }
  subst hh
  exact key
end
-- Hd4
set_option tactic.hygienic true in
theorem call_it : WalkO vw [] (XL vw []) (Hook.says myHook) rwL.row.toRowW ⟨"law", fArgs (topS 33), fBody (topS 33), fScope (topS 33), ⟨321, 0, 363, 15⟩⟩ [] fun f vs => PySem.call f vs := by
  intro w s₀ s₁ mg mb G Y fa o pm cd doc dV kV ho hd hcd hD hmg hg args vals as hpre hlay hrd hwl hlo
  have T := G.T
  have TK := topOK_of (os := s₁.os) (w := w) Y T.nolimit T.g T.b T.builtins
  wrow_args hpre hlay hrd hwl hlo
  rename_i ns hs hlay0 hL1 hr1 hl2 as0 as1 a vs as2 hL ra w1 r0 hI hr hc1 hc2
  have hdV : dV = .none := hD.none (by with_unfolding_all rfl)
  have hkV : kV = .none := hD.noKw
  subst hdV hkV
  obtain ⟨oc, od, odat, osl⟩ := o
  have hd' : odat = .func (fnOf "law" "law" (fArgs (topS 33)) (fBody (topS 33)) (fScope (topS 33)) .none .none doc pm none cd .none) := hd
  subst hd'
  let c : Cx := ⟨pw, w, s₁.heap, s₁.os, 128, 473, fnAd⟩
  have F : FnAt c fa (fArgs (topS 33)) (fBody (topS 33)) (fScope (topS 33)) := ⟨oc, od, osl, "law", "law", doc, pm, none, cd, .none, ho, hcd⟩
  have hlen : ns.length ≤ 63 := by lia
  have hx : ExecsP c 30 lsc [("script", Li (lits ns))] [] (LB 0) (fun J J => (AV.dat .none) = Bo true) (fun x J => x = Bo true) := law_all (d := 0) TK hlen fun σ' => rfl
  have key : CallP c 31 (.ref fa) [Li (lits ns)] [] (fun x J => x = Bo true) := CallP.of_body (d := 30) T.nolimit F (.b1 (by intros; rfl)) hx (by with_unfolding_all rfl) (by decide +kernel) (by kernel_rfl!) (by with_unfolding_all rfl) (by with_unfolding_all rfl) (by with_unfolding_all rfl)
  have st : St c [] [] s₁ := ⟨fun J J e => e, hg, rfl, fun J m => (nomatch m), List.nodup_nil, fun J m => (nomatch m), fun J m => (nomatch m), fun J m => (nomatch m)⟩
  have hrd' : Rd s₁.heap (.ref a) (.list (lits ns)) [a] := by
    have w2 : Well w.params s₁.heap (.ref a) (ofPy (.list (ns.map .int))) := w1
    cases w2 with
    | list e J =>
      obtain ⟨o, ho', J, n, hdat⟩ := hL
      rw [e] at ho'
      cases ho'
      injection hdat with q1 q2
      rw [q1] at e
      exact .list e rfl rfl (rdAll_of_ints hI) rfl
  have := key callerA s₁ [] [.ref fa, .ref a] ⟨rfl, by decide +kernel, by decide +kernel⟩ st ⟨rfl, ⟨[a], hrd', fun J J m => (nomatch m)⟩, trivial⟩
  refine wpAny_mono this (fun v s' h => ?_) fun J J z => z.elim
  obtain ⟨x, σ', st', ev, r, rfl⟩ := h
  have hv := rp_bool' r
  subst hv
  refine GoodW.toG ⟨.inl ⟨.bool true, .bool true, [], rfl, fun cls => rfl, .bool true, ?_, fun J => ⟨List.nodup_nil, fun J m => (nomatch m)⟩⟩, fun b o e => ev.keep b o e (fun m => (nomatch m)), st'.os, st'.gens⟩
  with_unfolding_all rfl
theorem cw_it : rwL.Holds := holds_it call_it
end Mine
theorem PySem.Challenge.cw_zu0018_01_holds : PySem.Challenge.rw_zu0018_01.Holds :=
  Mine.cw_it
