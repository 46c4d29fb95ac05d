import PyProof.Rows.All
import Wide.All
import OpenK.AllK
import Wide.FinOn
import Lean
import PySem.Challenge.RW_pb0160_01
open PySem PySem.W PyProof.Rows
set_option Elab.async false
namespace Mine
set_option maxRecDepth 100000 in
set_option maxHeartbeats 8000000 in
open_top hd for PySem.Challenge.rw_pb0160_01
open PySem.Calls
set_option maxRecDepth 100000
set_option maxHeartbeats 4000000
set_option compiler.extract_closed false
structure St (g : Heap) (L : Addr) (h : Heap) (l : List (Str × Value)) (nw : List (Addr × Obj)) : Prop where
  ns : ∃ m, h.Ns L m ∧ ∀ p ∈ l, m p.1 = some p.2
  keep : g.StaysIn h
  off : g.get? L = none
  news : ∀ p ∈ nw, h.get? p.1 = some p.2 ∧ p.1 ≠ L ∧ g.get? p.1 = none
  nd : (nw.map (·.1)).Nodup

inductive Rem (x : Str) : List (Str × Value) → List (Str × Value) → Prop
  | nil : Rem x [] []
  | hit {w : Value} {r r' : List (Str × Value)} : Rem x r r' → Rem x ((x, w) :: r) r'
  | miss {y : Str} {w : Value} {r r' : List (Str × Value)} : y ≠ x → Rem x r r' → Rem x ((y, w) :: r) ((y, w) :: r')

theorem Rem.mem {x : Str} {l l' : List (Str × Value)} (h : Rem x l l') : ∀ p ∈ l', p ∈ l ∧ p.1 ≠ x := by
  induction h with
  | nil => intro p hp; cases hp
  | hit _ ih => intro p hp; exact ⟨.tail _ (ih p hp).1, (ih p hp).2⟩
  | miss hy _ ih =>
    intro p hp
    rcases List.mem_cons.mp hp with rfl | hp
    · exact ⟨.head _, hy⟩
    · exact ⟨.tail _ (ih p hp).1, (ih p hp).2⟩

inductive Up (d : Addr) (o o' : Obj) : List (Addr × Obj) → List (Addr × Obj) → Prop
  | head {r : List (Addr × Obj)} : Up d o o' ((d, o) :: r) ((d, o') :: r)
  | tail {p : Addr × Obj} {r r' : List (Addr × Obj)} : Up d o o' r r' → Up d o o' (p :: r) (p :: r')

theorem Up.mem {d : Addr} {o o' : Obj} {r r' : List (Addr × Obj)} (u : Up d o o' r r') : (d, o) ∈ r := by
  induction u with
  | head => exact .head _
  | tail _ ih => exact .tail _ ih

theorem Up.fst {d : Addr} {o o' : Obj} {r r' : List (Addr × Obj)} (u : Up d o o' r r') : r'.map (·.1) = r.map (·.1) := by
  induction u with
  | head => rfl
  | tail _ ih => simp [ih]

theorem Up.mem' {d : Addr} {o o' : Obj} {r r' : List (Addr × Obj)} (u : Up d o o' r r') (nd : (r.map (·.1)).Nodup) : ∀ p ∈ r', p = (d, o') ∨ (p ∈ r ∧ p.1 ≠ d) := by
  induction u with
  | @head r =>
    intro p hp
    rcases List.mem_cons.mp hp with rfl | hp
    · exact .inl rfl
    · refine .inr ⟨.tail _ hp, fun e => ?_⟩
      simp only [List.map_cons, List.nodup_cons] at nd
      exact nd.1 (e ▸ List.mem_map_of_mem hp)
  | @tail q r r' u ih =>
    intro p hp
    simp only [List.map_cons, List.nodup_cons] at nd
    rcases List.mem_cons.mp hp with rfl | hp
    · refine .inr ⟨.head _, fun e => nd.1 ?_⟩
      exact e ▸ List.mem_map_of_mem u.mem
    · rcases ih nd.2 p hp with h | h
      · exact .inl h
      · exact .inr ⟨.tail _ h.1, h.2⟩

section
variable {g g' h h' : Heap} {L d : Addr} {l l' : List (Str × Value)} {nw nw' : List (Addr × Obj)} {o o' : Obj} {x : Str} {v : Value}

theorem St.lt (S : St g L h l nw) : L < h.objs.size := let ⟨_, hn, _⟩ := S.ns; hn.lt

theorem St.gnone (S : St g L h l nw) : g.get? h.objs.size = none := by
  cases e : g.get? h.objs.size with
  | none => rfl
  | some o => exact absurd (Heap.lt_size (S.keep _ _ e)) (Nat.lt_irrefl _)

theorem St.get (S : St g L h l nw) (hm : (d, o) ∈ nw) : h.get? d = some o := (S.news _ hm).1

theorem St.names (S : St g L h l nw) (hs : ∀ p ∈ l', p ∈ l) : St g L h l' nw :=
  let ⟨m, hn, hm⟩ := S.ns
  { S with ns := ⟨m, hn, fun p hp => hm p (hs p hp)⟩ }

theorem St.sub (S : St g L h l nw) (hs : nw'.Sublist nw) : St g L h l nw' :=
  { S with news := fun p hp => S.news p (hs.subset hp), nd := S.nd.sublist (hs.map _) }

theorem St.perm (S : St g L h l nw) (hs : nw.Perm nw') : St g L h l nw' :=
  { S with news := fun p hp => S.news p (hs.mem_iff.mpr hp), nd := (hs.map _).nodup_iff.mp S.nd }

theorem St.swap {p q : Addr × Obj} {r : List (Addr × Obj)} (S : St g L h l (p :: q :: r)) : St g L h l (q :: p :: r) := S.perm (.swap _ _ _)

theorem St.store (S : St g L h l nw) (hr : Rem x l l') {m m' : Str → Option Value} (hn : h.Ns L m) (hn' : h'.Ns L m') (hm : ∀ p ∈ l, m p.1 = some p.2) (he : m' = fun y => if y = x then some v else m y) (hs : Heap.SameBut L h h') : St g L h' ((x, v) :: l') nw where
  ns := ⟨m', hn', fun p hp => by
    subst he
    rcases List.mem_cons.mp hp with rfl | hp
    · simp
    · have := hr.mem p hp
      simp only [if_neg this.2]; exact hm p this.1⟩
  keep := fun b o e => (hs.2 b (fun q => by rw [q, S.off] at e; cases e)).trans (S.keep b o e)
  off := S.off
  news := fun p hp => ⟨(hs.2 p.1 (S.news p hp).2.1).trans (S.news p hp).1, (S.news p hp).2⟩
  nd := S.nd

theorem St.push (S : St g L h l nw) (o : Obj) (hf : o.isFreed = false := by rfl) : St g L (h.push o) l ((h.objs.size, o) :: nw) where
  ns := let ⟨m, hn, hm⟩ := S.ns; ⟨m, hn.push o, hm⟩
  keep := fun b o' e => Heap.get?_push_of_some o (S.keep b o' e)
  off := S.off
  news := fun p hp => by
    rcases List.mem_cons.mp hp with rfl | hp
    · exact ⟨Heap.get?_push_size _ hf, Nat.ne_of_gt S.lt, S.gnone⟩
    · exact ⟨Heap.get?_push_of_some _ (S.news p hp).1, (S.news p hp).2⟩
  nd := by
    simp only [List.map_cons, List.nodup_cons]
    refine ⟨fun hm => ?_, S.nd⟩
    obtain ⟨p, hp, e⟩ := List.mem_map.mp hm
    exact absurd (Heap.lt_size (S.news p hp).1) (by rw [e]; exact Nat.lt_irrefl _)

theorem St.push' (S : St g L h l nw) (o : Obj) (hf : o.isFreed = false := by rfl) : St g L (h.push o) l nw := (S.push o hf).sub (List.sublist_cons_self _ _)

theorem St.upd (S : St g L h l nw) (u : Up d o o' nw nw') (ho : h'.get? d = some o') (hs : Heap.SameBut d h h') : St g L h' l nw' := by
  have hd := S.news _ u.mem
  refine ⟨?_, fun b ob e => (hs.2 b (fun q => ?_)).trans (S.keep b ob e), S.off, fun p hp => ?_, by rw [u.fst]; exact S.nd⟩
  · obtain ⟨m, hn, hm⟩ := S.ns
    exact ⟨m, hn.sameBut hs (Ne.symm hd.2.1), hm⟩
  · rw [q, hd.2.2] at e; cases e
  · rcases u.mem' S.nd p hp with rfl | ⟨hp, hne⟩
    · exact ⟨ho, hd.2⟩
    · exact ⟨(hs.2 _ hne).trans (S.news p hp).1, (S.news p hp).2⟩

theorem St.grown (S : St g L h l nw) (hk : ∀ b o, h.get? b = some o → h'.get? b = some o) : St g L h' l nw where
  ns := let ⟨m, hn, hm⟩ := S.ns; ⟨m, hn.keeps hk, hm⟩
  keep := fun b o e => hk _ _ (S.keep b o e)
  off := S.off
  news := fun p hp => ⟨hk _ _ (S.news p hp).1, (S.news p hp).2⟩
  nd := S.nd

theorem St.freeze (S : St g L h l ((d, o) :: nw)) : ∃ g', g.StaysIn g' ∧ g'.get? d = some o ∧ St g' L h l nw := by
  have hd := S.news _ (.head _)
  have nd := S.nd
  simp only [List.map_cons, List.nodup_cons] at nd
  refine ⟨hideAll h (L :: nw.map (·.1)), fun b ob e => hideAll_get _ (S.keep b ob e) ?_, hideAll_get _ hd.1 ?_, S.ns, fun b ob e => of_hideAll _ e, hideAll_none _ (.head _), fun p hp => ?_, nd.2⟩
  · intro hb
    rcases List.mem_cons.mp hb with rfl | hb
    · rw [S.off] at e; cases e
    · obtain ⟨p, hp, rfl⟩ := List.mem_map.mp hb
      rw [(S.news p (.tail _ hp)).2.2] at e; cases e
  · intro hb
    rcases List.mem_cons.mp hb with e | hb
    · exact hd.2.1 e
    · exact nd.1 hb
  · exact ⟨(S.news p (.tail _ hp)).1, (S.news p (.tail _ hp)).2.1, hideAll_none _ (.tail _ (List.mem_map_of_mem hp))⟩
end
noncomputable abbrev KK : Params → Frag := hd.heap_39
abbrev PG : Program := PySem.Challenge.rw_pb0160_01.row.prog

structure Cx (w : World) (g : Heap) : Prop where
  X : (KK w.params).In g
  G : ∃ mg, g.Ns mainGlobals mg
  B : ∃ mb, g.Ns builtinsNs mb ∧ ∀ x : Str, x ≠ "__name__" → mb x = bootBuiltins x
  NL : g.NoLimit

theorem Cx.mono {w : World} {g g' : Heap} (C : Cx w g) (k : g.StaysIn g') : Cx w g' :=
  ⟨C.X.keeps k, let ⟨m, h⟩ := C.G; ⟨m, h.keeps k⟩, let ⟨m, h, r⟩ := C.B; ⟨m, h.keeps k, r⟩, C.NL.keeps k⟩

abbrev TD := Nat × Drawn
def SS (s : Shared) (h : Heap) (tk : TD) : Shared := { s with heap := h, toks := tk.1, drawn := tk.2 }

section
variable {w : World} {A : Around} {E : Value → Shared → Prop} {s : Shared} {g h : Heap} {tk : TD} {L : Addr} {l l' : List (Str × Value)} {nw nw' : List (Addr × Obj)} {env : Env} {x : Str} {v : Value} {pos : Pos} {Q : Value → Shared → Prop}

theorem nmL (S : St g L h l nw) (hv : (x, v) ∈ l) (hq : Q v (SS s h tk)) (hL : env.locals = L := by rfl) (hk : env.scope.kind = .function := by rfl) (hx : env.kindOf x = some .local := by rfl) (hd : (x == ("__debug__" : Str)) = false := by decide) :
    wpAny (model PG w) A (eval (.Name x pos) env) Q E (SS s h tk) := by
  subst hL
  obtain ⟨m, hn, hm⟩ := S.ns
  exact wpAny_Name (wpAny_loadName_local hk hx hn (hm _ hv) hq) hd

theorem nmG (S : St g L h l nw) (C : Cx w g) (e : nsIn (KK w.params) mainGlobals x = some (some v)) (hq : Q v (SS s h tk)) (hk : env.scope.kind = .function := by rfl) (hg : env.globals = mainGlobals := by rfl)
    (hx : env.kindOf x = some .globalImplicit := by rfl) (hd : (x == ("__debug__" : Str)) = false := by decide) : wpAny (model PG w) A (eval (.Name x pos) env) Q E (SS s h tk) := by
  obtain ⟨mg, G⟩ := C.G
  exact Name_function_global hk hx (loadGlobal_global (env := env) (s := SS s h tk) (hg ▸ G.keeps S.keep) (mg_of C.X G e) hq) hd

theorem nmB (S : St g L h l nw) (C : Cx w g) (e : nsIn (KK w.params) mainGlobals x = some none) (hv : bootBuiltins x = some v) (hq : Q v (SS s h tk)) (hn : x ≠ "__name__" := by decide) (hk : env.scope.kind = .function := by rfl) (hg : env.globals = mainGlobals := by rfl) (hb : env.builtins = builtinsNs := by rfl)
    (hx : env.kindOf x = some .globalImplicit := by rfl) (hd : (x == ("__debug__" : Str)) = false := by decide) : wpAny (model PG w) A (eval (.Name x pos) env) Q E (SS s h tk) := by
  obtain ⟨mg, G⟩ := C.G
  obtain ⟨mb, B, hB⟩ := C.B
  exact Name_function_global hk hx (loadGlobal_builtin (env := env) (s := SS s h tk) (hg ▸ G.keeps S.keep) (mg_none_of C.X G e) (hb ▸ B.keeps S.keep) ((hB x hn).trans hv) hq) hd

theorem nmC {c : Addr} (S : St g L h l nw) (hc : env.cells.lookup x = some c) (hi : g.IsCell c (some v)) (hq : Q v (SS s h tk)) (hk : env.scope.kind = .function := by rfl) (hx : env.kindOf x = some .cell := by rfl) (hd : (x == ("__debug__" : Str)) = false := by decide) :
    wpAny (model PG w) A (eval (.Name x pos) env) Q E (SS s h tk) := wpAny_Name (wpAny_loadName_cell hk hx hc (hi.keeps S.keep) hq) hd

theorem nmF {c : Addr} (S : St g L h l nw) (hc : env.cells.lookup x = some c) (hi : g.IsCell c (some v)) (hq : Q v (SS s h tk)) (hk : env.scope.kind = .function := by rfl) (hx : env.kindOf x = some .free := by rfl) (hd : (x == ("__debug__" : Str)) = false := by decide) (hn : (x == ("__classdict__" : Str)) = false := by decide) :
    wpAny (model PG w) A (eval (.Name x pos) env) Q E (SS s h tk) := wpAny_Name (wpAny_loadName_free hk hx hc (hi.keeps S.keep) hq hn) hd

theorem stL {Q : Unit → Shared → Prop} (S : St g L h l nw) (hr : Rem x l l') (hq : ∀ h' tk', St g L h' ((x, v) :: l') nw → Q () (SS s h' tk')) (hL : env.locals = L := by rfl) (hx : env.kindOf x = some .local := by rfl)
    (hp : (env.scope.kind == .class || (env.scope.kind == .module && env.locals != env.globals)) = false := by rfl) : wpAny (model PG w) A (storeName env x v) Q E (SS s h tk) := by
  subst hL
  obtain ⟨m, hn, hm⟩ := S.ns
  exact wpAny_storeName_local hx hn (fun h' hn' hs => hq h' (_, _) (S.store hr hn hn' hm rfl hs)) hp

theorem stC {Q : Unit → Shared → Prop} {c : Addr} {o : Obj} {v₀ : Option Value} (S : St g L h l ((c, o) :: nw)) (hc : env.cells.lookup x = some c) (hi : o.data = .cell v₀)
    (hq : ∀ h' g', g.StaysIn g' → St g' L h' l nw → g'.IsCell c (some v) → Q () (SS s h' tk)) (hk : env.scope.kind = .function := by rfl) (hx : env.kindOf x = some .cell := by rfl) : wpAny (model PG w) A (storeName env x v) Q E (SS s h tk) := by
  refine wpAny_storeName_cell hk hx hc ⟨o, (S.news _ (.head _)).1, hi⟩ fun h' hv hs => ?_
  obtain ⟨o', ho', hd'⟩ := hv
  have S' := S.upd (o' := o') .head ho' hs
  obtain ⟨g', k, hg, S''⟩ := S'.freeze
  exact hq h' g' k S'' ⟨o', hg, hd'⟩

theorem newTup {vs : List Value} (S : St g L h l nw) (hq : ∀ h' g' a, g.StaysIn g' → St g' L h' l nw → g'.IsTuple a vs.toArray → Q (.ref a) (SS s h' tk)) (hsz : vs.length ≤ sizeLine := by size_fits) :
    wpAny (model PG w) A (newTuple vs) Q E (SS s h tk) := by
  refine wpAny_newObj_type ?_ (by show vs.toArray.size ≤ sizeLine; rw [List.size_toArray]; exact hsz)
  obtain ⟨g', k, hg, S'⟩ := (S.push { cls := .type "tuple", data := .seq vs.toArray }).freeze
  exact hq _ g' _ k S' ⟨_, hg, rfl, _, rfl⟩

theorem newLst {vs : List Value} (S : St g L h l nw) (hq : ∀ h' a o, o.cls = .type "list" ∧ (∃ n, o.data = .seq vs.toArray n) → St g L h' l ((a, o) :: nw) → Q (.ref a) (SS s h' tk)) (hsz : vs.length ≤ sizeLine := by size_fits) :
    wpAny (model PG w) A (newList vs) Q E (SS s h tk) := by
  refine wpAny_newObj_type ?_ (by show vs.toArray.size ≤ sizeLine; rw [List.size_toArray]; exact hsz)
  exact hq _ _ _ ⟨rfl, _, rfl⟩ (S.push { cls := .type "list", data := .seq vs.toArray })

theorem c_int {i k} (hq : ∀ t tk', Q (.int i t) (SS s h tk')) : wpAny (model PG w) A (eval (.Constant (.int i) k pos) env) Q E (SS s h tk) := wpAny_Constant_int (hq _ (_, _))
theorem c_str {i k} (hq : ∀ t tk', Q (.str i t) (SS s h tk')) : wpAny (model PG w) A (eval (.Constant (.str i) k pos) env) Q E (SS s h tk) := wpAny_Constant_str (hq _ (_, _))
variable {a b : Int} {t u : Tok}
theorem i_add (hq : ∀ t tk', Q (.int (a + b) t) (SS s h tk')) : wpAny (model PG w) A (binaryOp .Add (.int a t) (.int b u)) Q E (SS s h tk) := add_int (hq _ (_, _))
theorem i_sub (hq : ∀ t tk', Q (.int (a - b) t) (SS s h tk')) : wpAny (model PG w) A (binaryOp .Sub (.int a t) (.int b u)) Q E (SS s h tk) := sub_int (hq _ (_, _))
theorem i_neg (hq : ∀ t tk', Q (.int (-a) t) (SS s h tk')) : wpAny (model PG w) A (unaryOp .USub (.int a t)) Q E (SS s h tk) := neg_int (hq _ (_, _))
theorem c_abs (hq : ∀ t tk', Q (.int (if a < 0 then -a else a) t) (SS s h tk')) : wpAny (model PG w) A (call (.builtin "abs") [.int a t]) Q E (SS s h tk) := call_abs_int fun _ _ => hq _ (_, _)
theorem i_pow (hn : 0 ≤ b) (hb : (Builtin.Int.intBits a : Int) * b ≤ 2 ^ 27) (hq : ∀ t tk', Q (.int (a ^ b.toNat) t) (SS s h tk')) : wpAny (model PG w) A (binaryOp .Pow (.int a t) (.int b u)) Q E (SS s h tk) := pow_int hn hb (hq _ (_, _))
theorem i_mul (hb : IntMulOk a b) (hq : ∀ t tk', Q (.int (a * b) t) (SS s h tk')) : wpAny (model PG w) A (binaryOp .Mult (.int a t) (.int b u)) Q E (SS s h tk) := mul_int (hq _ (_, _)) hb
theorem i_mod (hb : b ≠ 0) (hq : ∀ t tk', Q (.int (a.fmod b) t) (SS s h tk')) : wpAny (model PG w) A (binaryOp .Mod (.int a t) (.int b u)) Q E (SS s h tk) := mod_int hb (hq _ (_, _))
theorem i_div (hb : b ≠ 0) (hp : Builtin.divisionGoesByPylong a b = false) (hq : ∀ t tk', Q (.int (a.fdiv b) t) (SS s h tk')) : wpAny (model PG w) A (binaryOp .FloorDiv (.int a t) (.int b u)) Q E (SS s h tk) := floordiv_int hb (hq _ (_, _)) (.inl hp)
end
theorem lookup_rev : ∀ {binds : List (Str × Value)}, (binds.map (·.1)).Nodup → ∀ p ∈ binds, binds.reverse.lookup p.1 = some p.2
  | [], _, p, hp => nomatch hp
  | q :: r, nd, p, hp => by
    simp only [List.map_cons, List.nodup_cons] at nd
    rw [List.reverse_cons, List.lookup_append]
    rcases List.mem_cons.mp hp with rfl | hp
    · have : r.reverse.lookup p.1 = none := by
        rw [List.lookup_eq_none_iff]
        intro q hq
        have h1 : q.1 ∈ r.map (·.1) := List.mem_map_of_mem (List.mem_reverse.mp hq)
        cases e : (p.1 == q.1) with
        | false => simp only [bne, e, Bool.not_false]
        | true => exact absurd (by rw [eq_of_beq e]; exact h1) nd.1
      rw [this, List.lookup_cons, beq_self_eq_true]; rfl
    · rw [lookup_rev nd.2 p hp]; rfl

section
variable {w : World} {A : Around} {E : Value → Shared → Prop} {s : Shared} {g h : Heap} {tk : TD} {L : Addr} {l l' : List (Str × Value)} {nw nw' : List (Addr × Obj)} {env : Env} {x : Str} {v : Value} {pos : Pos} {Q : Value → Shared → Prop}

def Back (g : Heap) (L L' : Addr) (oL : Obj) (l : List (Str × Value)) (Q : Value → Shared → Prop) (v : Value) (s' : Shared) : Prop :=
  ∃ g' l'' nw', g.StaysIn g' ∧ St g' L' s'.heap l'' ((L, oL) :: nw') ∧ (St g' L s'.heap l nw' → Q v s')

theorem Back.mk' {g g' : Heap} {L L' : Addr} {oL : Obj} {l l'' : List (Str × Value)} {nw' : List (Addr × Obj)} {Q : Value → Shared → Prop} {v : Value} {s' : Shared} (k : g.StaysIn g') (S : St g' L' s'.heap l'' ((L, oL) :: nw')) (h : St g' L s'.heap l nw' → Q v s') : Back g L L' oL l Q v s' := ⟨g', l'', nw', k, S, h⟩

theorem code_fn {name qual : Str} {params : Arguments} {body : List Stmt} {scope : Scope} {dV kV doc pm cdv ct oc : Value} {an od : Option Addr} {osl : Array (Option Value)} {f : Addr} {args : List Value} {binds : List (Str × Value)} {R : Result → Shared → Prop}
    (S : St g L h l nw) (C : Cx w g)
    (ho : (KK w.params).lookup f = some ⟨oc, od, .func (fnOf name qual params body scope dV kV doc pm an cdv ct), osl⟩) (hcd : codeIn (KK w.params) cdv qual = true) (hroom : A.depth < recursionLimit)
    (hbind : BindsTo (SS s h tk) (fnOf name qual params body scope dV kV doc pm an cdv ct) ⟨args, []⟩ binds) (hloc : ∀ y ∈ binds, scope.names.lookup y.1 = some .local) (hnd : decide ((binds.map (·.1)).Nodup) = true)
    (hq : ∀ L' oL h₁ tk₁ (K : Flow → Shared → Prop), (∀ v s', Back g L L' oL l (fun v s'' => R (.ok (.ret v)) s'') v s' → K (.ret v) s') → (∀ s', Back g L L' oL l (fun v s'' => R (.ok (.ret v)) s'') .none s' → K .next s') → St g L' h₁ binds ((L, oL) :: nw) →
      wpAny (model PG w) (A.deeper (envOf qual scope L' f cdv)) (execs body (envOf qual scope L' f cdv)) K (fun _ _ => False) (SS s h₁ tk₁))
    (hcell : ∀ x ∈ scope.names, x.2 ≠ .cell) (hco : scope.isCoroutine = false := by rfl) (hgen : scope.isGenerator = false := by rfl) (hk : scope.kind = .function := by rfl) :
    codeAny (model PG w) A (.call (.ref f) ⟨args, []⟩) R (SS s h tk) := by
  have hnd := of_decide_eq_true hnd
  refine codeAny_call_def (fd := fnOf name qual params body scope dV kV doc pm an cdv ct) (body := body) (binds := binds) hroom ((C.X.keeps S.keep) _ _ ho) rfl (C.NL.keeps S.keep) (codeRec_of (C.X.keeps S.keep) hcd) rfl hbind hcell hloc (fun h₁ hns hk₁ => ?_) hco hgen hk
  obtain ⟨m, ⟨oL, es, ep, hL, hLd, hLk, hLf⟩, hm⟩ := S.ns
  have S₁ : St g h.objs.size h₁ binds ((L, oL) :: nw) := by
    refine ⟨⟨_, hns, lookup_rev hnd⟩, fun b o e => hk₁ _ _ (S.keep b o e), S.gnone, fun p hp => ?_, ?_⟩
    · rcases List.mem_cons.mp hp with rfl | hp
      · exact ⟨hk₁ _ _ hL, Nat.ne_of_lt (Heap.lt_size hL), S.off⟩
      · exact ⟨hk₁ _ _ (S.news p hp).1, Nat.ne_of_lt (Heap.lt_size (S.news p hp).1), (S.news p hp).2.2⟩
    · simp only [List.map_cons, List.nodup_cons]
      refine ⟨fun hq => ?_, S.nd⟩
      obtain ⟨p, hp, e⟩ := List.mem_map.mp hq
      exact (S.news p hp).2.1 e
  refine wpAny_mono (hq _ oL h₁ (_, _) (fun fl s' => Back g L h.objs.size oL l (fun v s'' => R (.ok (.ret v)) s'') (match fl with | .ret v => v | _ => .none) s') (fun _ _ h => h) (fun _ h => h) S₁) (fun fl s' hb => ?_) fun _ _ f => f.elim
  obtain ⟨g', l'', nw', _, S', k⟩ := hb
  refine k ⟨⟨m, ⟨oL, es, ep, (S'.news _ (.head _)).1, hLd, hLk, hLf⟩, hm⟩, S'.keep, (S'.news _ (.head _)).2.2, fun p hp => ?_, ?_⟩
  · refine ⟨(S'.news p (.tail _ hp)).1, fun q => ?_, (S'.news p (.tail _ hp)).2.2⟩
    have := S'.nd
    simp only [List.map_cons, List.nodup_cons] at this
    exact this.1 (q ▸ List.mem_map_of_mem hp)
  · have := S'.nd
    simp only [List.map_cons, List.nodup_cons] at this
    exact this.2

theorem call_fn {name qual : Str} {params : Arguments} {body : List Stmt} {scope : Scope} {dV kV doc pm cdv ct oc : Value} {an od : Option Addr} {osl : Array (Option Value)} {f : Addr} {args : List Value} {binds : List (Str × Value)}
    (S : St g L h l nw) (C : Cx w g)
    (ho : (KK w.params).lookup f = some ⟨oc, od, .func (fnOf name qual params body scope dV kV doc pm an cdv ct), osl⟩) (hcd : codeIn (KK w.params) cdv qual = true) (hroom : A.depth < recursionLimit)
    (hbind : BindsTo (SS s h tk) (fnOf name qual params body scope dV kV doc pm an cdv ct) ⟨args, []⟩ binds) (hloc : ∀ y ∈ binds, scope.names.lookup y.1 = some .local) (hnd : decide ((binds.map (·.1)).Nodup) = true)
    (hq : ∀ L' oL h₁ tk₁ (K : Flow → Shared → Prop), (∀ v s', Back g L L' oL l Q v s' → K (.ret v) s') → (∀ s', Back g L L' oL l Q .none s' → K .next s') → St g L' h₁ binds ((L, oL) :: nw) →
      wpAny (model PG w) (A.deeper (envOf qual scope L' f cdv)) (execs body (envOf qual scope L' f cdv)) K (fun _ _ => False) (SS s h₁ tk₁))
    (hcell : ∀ x ∈ scope.names, x.2 ≠ .cell) (hco : scope.isCoroutine = false := by rfl) (hgen : scope.isGenerator = false := by rfl) (hk : scope.kind = .function := by rfl) :
    wpAny (model PG w) A (call (.ref f) args []) Q E (SS s h tk) :=
  wpAny_call (code_fn S C ho hcd hroom hbind hloc hnd hq hcell hco hgen hk)

theorem callW_f {f : Value} {first : List Value} {e : Expr} {rest : List Expr} (C : Cx w g) (S : St g L h l nw) (hk : keepIn (KK w.params) f = true)
    (hq : wpAny (model PG w) A (spliced (backTo pos (starEach (e :: rest) env))) (fun vs s₁ => ∃ h₁ tk₁, s₁ = SS s h₁ tk₁ ∧ (∃ g₁ l₁ nw₁ L₁, g.StaysIn g₁ ∧ St g₁ L₁ h₁ l₁ nw₁) ∧ wpAny (model PG w) A (call f (first ++ vs)) Q E (SS s h₁ tk₁)) E (SS s h tk))
    (he : starEach (e :: rest) env = (false, eval e env) :: starEach rest env := by rfl) (hplain : (backTo pos (starEach rest env)).any (·.1) = false := by rfl) :
    wpAny (model PG w) A (callWith pos f first (backTo pos (starEach (e :: rest) env)) []) Q E (SS s h tk) :=
  callWith_K (K := KK w.params) (h₀ := g) C.X hk (wpAny_mono hq (fun vs s₁ h₁ => by
    obtain ⟨h₁, tk₁, rfl, ⟨g₁, _, _, _, k, S₁⟩, hc⟩ := h₁
    exact ⟨(C.X.keeps k).keeps S₁.keep, hc⟩) fun _ _ x => x) he hplain
end
/-- what is behind a statement, by a name -/
structure After (w : World) (A : Around) (rest : List Stmt) (env : Env) (Q : Flow → Shared → Prop) (E : Value → Shared → Prop) (K : Flow → Shared → Prop) : Prop where
  nx : ∀ s', wpAny (model PG w) A (execs rest env) Q E s' → K .next s'
  rt : ∀ v s', Q (.ret v) s' → K (.ret v) s'

theorem seqK {w : World} {A : Around} {env : Env} {E : Value → Shared → Prop} {s : Shared} {st : Stmt} {rest : List Stmt} {Q : Flow → Shared → Prop} (h : ∀ K, After w A rest env Q E K → wpAny (model PG w) A (exec st env) K E s) :
    wpAny (model PG w) A (execs (st :: rest) env) Q E s := wpAny_execs_cons (h _ ⟨fun _ h => h, fun _ _ h => h⟩)

def LstO (o : Obj) (vs : Array Value) : Prop := o.cls = .type "list" ∧ ∃ n, o.data = .seq vs n

theorem ite_dec {p : Prop} [Decidable p] {X Y : Prop} (h1 : p → X) (h2 : ¬ p → Y) : if decide p = true then X else Y := by
  by_cases h : p
  · simpa [h] using h1 h
  · simpa [h] using h2 h

theorem ite_bool {b : Bool} {X Y : Prop} (h1 : b = true → X) (h2 : b = false → Y) : if b = true then X else Y := by
  cases b
  · simpa using h2 rfl
  · simpa using h1 rfl

theorem bits_small {x : Int} (h : x.natAbs < 2 ^ 64) : Builtin.Int.intBits x ≤ 64 := by
  unfold Builtin.Int.intBits
  split
  · exact Nat.zero_le _
  · rename_i hx
    have hx : x ≠ 0 := by simpa using hx
    exact Nat.log2_lt (by omega) |>.mpr h

theorem isList_keeps {h h' : Heap} {a : Addr} {vs : Array Value} (H : h.IsList a vs) (k : h.StaysIn h') : h'.IsList a vs :=
  let ⟨o, e, r⟩ := H; ⟨o, k _ _ e, r⟩

theorem isTuple_keeps {h h' : Heap} {a : Addr} {vs : Array Value} (H : h.IsTuple a vs) (k : h.StaysIn h') : h'.IsTuple a vs :=
  let ⟨o, e, r⟩ := H; ⟨o, k _ _ e, r⟩

theorem LstO.isList {o : Obj} {vs : Array Value} {h : Heap} {a : Addr} (H : LstO o vs) (e : h.get? a = some o) : h.IsList a vs :=
  ⟨o, e, H.1, H.2⟩

section
variable {w : World} {A : Around} {E : Value → Shared → Prop} {s : Shared} {g h : Heap} {tk : TD} {L : Addr} {l l' : List (Str × Value)} {nw nw' : List (Addr × Obj)} {env : Env} {x : Str} {v : Value} {pos : Pos} {Q : Value → Shared → Prop}

theorem r_item {a : Addr} {vs : List Value} {k : Int} {t : Tok} {value slice : Expr} {y : Value}
    (hl : h.IsList a vs.toArray) (h0 : 0 ≤ k) (h1 : k < 2 ^ 63) (hx : vs[k.toNat]? = some y)
    (hs : subscripted slice false (.ref a) (.int k t) = operate [.ref a, .int k t] (getItem (.ref a) (.int k t))) (hq : Q y (SS s h tk)) :
    wpAny (model PG w) A (subscriptTail value slice (.ref a) (.int k t)) Q E (SS s h tk) :=
  tail_any (s := SS s h tk) (Heap.IsList.typeIs (s := SS s h tk) hl) slot_list_getitem.lookup (wpAny_getItem_list (s := SS s h tk) hl h0 h1 (by simpa using hx) hq) hs

theorem c_len {a : Addr} {vs : List Value} (hl : h.IsList a vs.toArray) (hs : (vs.toArray.size : Int) < 2 ^ 63) (hq : ∀ t tk', Q (.int vs.toArray.size t) (SS s h tk')) :
    wpAny (model PG w) A (call (.builtin "len") [.ref a]) Q E (SS s h tk) := len_list (s := SS s h tk) hl hs (hq _ (_, _))

theorem r_setItem {p : Addr} {o : Obj} {F : Obj → List (Addr × Obj)} {vs : List Value} {k : Int} {t : Tok} {Q : Unit → Shared → Prop}
    (S : St g L h l (F o)) (hu : ∀ o o', Up p o o' (F o) (F o')) (ho : LstO o vs.toArray) (h0 : 0 ≤ k) (h1 : k < 2 ^ 63) (h2 : k < vs.length)
    (hq : ∀ h' o', LstO o' (vs.set k.toNat v).toArray → St g L h' l (F o') → Q () (SS s h' tk)) :
    wpAny (model PG w) A (setItem (.ref p) (.int k t) v) Q E (SS s h tk) := by
  refine wpAny_setItem_list (ho.isList (S.get (hu o o).mem)) h0 h1 (by simpa using h2) fun h' hl hs => ?_
  obtain ⟨o', e, hc, n, hd⟩ := hl
  refine hq h' o' ⟨hc, n, by simpa using hd⟩ (S.upd (hu o o') e hs)
end
local macro_rules | `(tactic| walk_at "mmem") => `(tactic| (with_reducible (repeat' first | exact List.mem_cons_self | refine List.mem_cons_of_mem _ ?_); done))
local macro_rules | `(tactic| walk_at "mrem") => `(tactic| (with_reducible (repeat' first | exact Rem.nil | apply Rem.hit | (apply Rem.miss; case a => decide)); done))
local macro_rules | `(tactic| walk_at "msub") => `(tactic| ((repeat (first | exact List.forall_mem_nil _ | (refine List.forall_mem_cons.mpr ⟨?_, ?_⟩; (focus walk_at "mmem")))); done))
local macro_rules | `(tactic| walk_at "mk") => `(tactic| with_reducible first | refine After.nx ‹After _ _ _ _ _ _ _› _ ?_ | refine After.rt ‹After _ _ _ _ _ _ _› _ _ ?_)
-- one step
local macro_rules | `(tactic| walk_at "m1") => `(tactic| first
  | (with_reducible first
      | refine wpAny_execs_nil ?_ | refine spliced_none ?_ | refine wpAny_BinOp ?_ | refine Tuple_ ?_ | refine List_ ?_ | refine wpAny_And2 ?_ | refine wpAny_Or2 ?_ | refine wpAny_UnaryOp ?_
      | refine wpAny_Constant_bool ?_ | refine wpAny_Constant_none ?_ | refine wpAny_evalPart_some ?_ | refine wpAny_evalPart_none ?_ | refine call_int_int ?_
      | refine gt_int ?_ | refine lt_int ?_ | refine ge_int ?_ | refine le_int ?_ | refine eq_int ?_ | refine wpAny_truthy_bool ?_
      | refine wpAny_isTrue_BoolOp ?_ | refine wpAny_isTrue_Not ?_ | refine wpAny_allTrue_And_nil ?_ | refine wpAny_allTrue_Or_nil ?_ | refine wpAny_allTrue_And_cons ?_ | refine wpAny_allTrue_Or_cons ?_
      | refine wpAny_assign_Name ?_ | refine wpAny_Return_some ?_)
  | ((with_reducible refine seqK ?_); intro _ _)
  | walk_at "mk"
  | ((with_reducible first | refine c_int ?_ | refine c_str ?_ | refine i_neg ?_ | refine i_add ?_ | refine i_sub ?_); intro _ _)
  | ((with_reducible show wpAny _ _ (eval (.Name ..) _) ..); first | refine nmL ‹_› (by walk_at "mmem") ?_ | refine nmG ‹_› ‹_› rfl ?_ | refine nmB ‹_› ‹_› rfl (by boot_fast) ?_ | refine nmC ‹_› rfl ‹_› ?_ | refine nmF ‹_› rfl ‹_› ?_)
  | ((with_reducible first | refine wpAny_Compare1 ?_ ?h | refine Attribute_any_ ?_ ?h | refine wpAny_isTrue_Compare1 ?_ ?h | refine isTrue_chain ?_ ?h | refine wpAny_Assign_Name ?_ ?h | refine wpAny_Assign_Subscript ?_ ?h | refine plainObj_wpAny_Assign_Attribute ?_ ?h | refine spliced_more ?_ ?h | refine wpAny_isTrue_value ?_ ?h); (case h => first | rfl | (intros; rfl)))
  | ((with_reducible first | refine wpAny_Expr_any ?_ ?h ?i | refine PyProof.Rows.callWith_builtin1 ?_ ?h ?i | refine PyProof.Rows.callWith_type1 ?_ ?h ?i); (case h => first | rfl | (intros; rfl)); (case i => first | rfl | (intros; rfl)))
  | ((with_reducible show wpAny _ _ (eval (.Call ..) _) ..); first | refine MethodCall_ ?_ | refine Call_ ?_)
  | ((fail_if_success (with_reducible show wpAny _ _ (eval (.Subscript _ (.Slice ..) _) _) ..)); (with_reducible refine Subscript_ ?_))
  | ((with_reducible show wpAny _ _ (callWith _ (.ref _) ..) ..); refine callW_f ‹_› ‹_› rfl ?_)
  | ((with_reducible show ∃ h₁ tk₁, SS _ _ _ = SS _ h₁ tk₁ ∧ _); refine ⟨_, _, rfl, ⟨_, _, _, _, ?_, ‹_›⟩, ?_⟩; (focus first | exact fun _ _ e => e | assumption); show wpAny _ _ (call _ (_ :: _) _) ..)
  | ((with_reducible show wpAny _ _ (testChain ..) ..); first | refine test_last ?_ | refine test_link ?_)
  | ((with_reducible show wpAny _ _ (storeName ..) ..); refine stL ‹_› (by walk_at "mrem") ?_; intro _ _ _))
local macro_rules | `(tactic| walk_at "m") => `(tactic| (repeat walk_at "m1"))
structure ItK (w : World) (A : Around) (g : Heap) (n : Nat) (item : Heap → Nat → Value → Prop) (It : Nat → Obj → Prop) : Prop where
  next : ∀ {E s g' h tk L l nw I o i} {Q : Option Value → Shared → Prop} (target : Expr), g.StaysIn g' → St g' L h l ((I, o) :: nw) → It i o → i < n →
    (∀ v h₁ tk₁, (∀ {Q' : Unit → Shared → Prop} {E'}, (∀ g'' h' tk' o', g'.StaysIn g'' → item g'' i v → It (i + 1) o' → St g'' L h' l ((I, o') :: nw) → Q' () (SS s h' tk')) →
        wpAny (model PG w) A (letOwnedTupleGo target (.ref I) v) Q' E' (SS s h₁ tk₁)) → Q (some v) (SS s h₁ tk₁)) →
    wpAny (model PG w) A (pyNext (.ref I)) Q E (SS s h tk)
  done : ∀ {E s g' h tk L l nw I o} {Q : Option Value → Shared → Prop}, g.StaysIn g' → St g' L h l ((I, o) :: nw) → It n o → (∀ h' tk', St g' L h' l nw → Q none (SS s h' tk')) →
    wpAny (model PG w) A (pyNext (.ref I)) Q E (SS s h tk)
  self : ∀ {E s g' h tk L l nw I o i} {Q : Value → Shared → Prop}, St g' L h l ((I, o) :: nw) → It i o → Q (.ref I) (SS s h tk) → wpAny (model PG w) A (pyIter (.ref I)) Q E (SS s h tk)

theorem St.extBut {g h h' : Heap} {L I : Addr} {o : Obj} {l : List (Str × Value)} {nw : List (Addr × Obj)} (S : St g L h l ((I, o) :: nw)) (hs : Heap.ExtBut I h h') : St g L h' l nw where
  ns := let ⟨m, hn, hm⟩ := S.ns; ⟨m, hn.at' fun o e => hs _ _ (fun q => (S.news _ (.head _)).2.1 q.symm) e, hm⟩
  keep := fun b o e => hs _ _ (fun q => by rw [q, (S.news _ (.head _)).2.2] at e; cases e) (S.keep b o e)
  off := S.off
  news := fun p hp => by
    refine ⟨hs _ _ (fun q => ?_) (S.news p (.tail _ hp)).1, (S.news p (.tail _ hp)).2⟩
    have := S.nd
    simp only [List.map_cons, List.nodup_cons] at this
    exact this.1 (q ▸ List.mem_map_of_mem hp)
  nd := by
    have := S.nd
    simp only [List.map_cons, List.nodup_cons] at this
    exact this.2

theorem own_other {w : World} {A : Around} {E : Value → Shared → Prop} {s : Shared} {I : Addr} {o : Obj} {n : String} {Q : Unit → Shared → Prop} (target : Expr) (v : Value) (ho : s.heap.get? I = some o) (hc : o.cls = .type n)
    (hn : n = "list_iterator" ∨ n = "tuple_iterator" ∨ n = "range_iterator") (hq : Q () s) :
    wpAny (model PG w) A (letOwnedTupleGo target (.ref I) v) Q E s := by
  obtain ⟨cls, dict, data, slots⟩ := o
  cases hc
  have key : ∀ es k p a, wpAny (model PG w) A (letOwnedTupleGo (.Tuple es k p) (.ref I) (.ref a)) Q E s := fun es k p a => by
    show wpAny _ _ (load I >>= _) _ _ s
    refine wpAny_bind (wpAny_load ho ?_)
    cases data <;> first | exact wpAny_pure hq | skip
    show wpAny _ _ (if _ = true then _ else _) _ _ s
    rw [if_neg (by rcases hn with rfl | rfl | rfl <;> exact Bool.false_ne_true)]
    exact wpAny_pure hq
  cases target <;> first | exact wpAny_pure hq | (cases v <;> first | exact wpAny_pure hq | exact key [] 0 default _)

section
variable {w : World} {A : Around} {E : Value → Shared → Prop} {s : Shared} {g h : Heap} {tk : TD} {L : Addr} {l l' : List (Str × Value)} {nw nw' : List (Addr × Obj)} {env : Env} {x : Str} {v : Value} {pos : Pos} {Q : Value → Shared → Prop}

def LI (a : Addr) (i : Nat) (o : Obj) : Prop := o.cls = .type "list_iterator" ∧ o.data = .fields #[.ref a, .int i 0]
def TI (a : Addr) (i : Nat) (o : Obj) : Prop := o.cls = .type "tuple_iterator" ∧ o.data = .fields #[.ref a, .int i 0]

theorem it_list {a : Addr} {vs : List Value} (hh : A.handled = none) (hl : g.IsList a vs.toArray) : ItK w A g vs.length (fun _ i v => vs[i]? = some v) (LI a) where
  next := fun {E s g' h tk L l nw I o i Q} target k S ho hi hq => by
    have hx : vs.toArray[i]? = some vs[i] := by simp [hi]
    refine wpAny_pyNext_list_item (s := SS s h tk) ⟨o, S.get (.head _), ho⟩ (isList_keeps hl (fun b o e => S.keep b o (k b o e))) hx fun h' hit hs => ?_
    obtain ⟨o', e, hc, hd⟩ := hit
    have S' := S.upd (o' := o') .head e hs
    refine hq _ h' tk fun hq' => own_other target _ (S'.get (.head _)) hc (by decide) ?_
    exact hq' g' h' tk o' (fun _ _ e => e) (by simp [hi]) ⟨hc, hd⟩ S'
  done := fun {E s g' h tk L l nw I o Q} k S ho hq => by
    refine wpAny_pyNext_list_end (s := SS s h tk) hh ⟨o, S.get (.head _), ho⟩ (isList_keeps hl (fun b o e => S.keep b o (k b o e))) (by simp) fun h' hs => ?_
    exact hq h' tk (S.extBut hs)
  self := fun {E s g' h tk L l nw I o i Q} S ho hq => wpAny_pyIter_listiter (s := SS s h tk) ⟨o, S.get (.head _), ho⟩ hq

theorem pi_list {a : Addr} {vs : List Value} (S : St g L h l nw) (hl : g.IsList a vs.toArray) (hq : ∀ h' I o, LI a 0 o → St g L h' l ((I, o) :: nw) → Q (.ref I) (SS s h' tk)) :
    wpAny (model PG w) A (pyIter (.ref a)) Q E (SS s h tk) :=
  wpAny_pyIter_list (s := SS s h tk) (isList_keeps hl S.keep) (hq _ _ _ ⟨rfl, rfl⟩ (S.push { cls := .type "list_iterator", data := .fields #[.ref a, .int 0 0] }))

theorem it_tuple {a : Addr} {vs : List Value} (hh : A.handled = none) (hl : g.IsTuple a vs.toArray) : ItK w A g vs.length (fun _ i v => vs[i]? = some v) (TI a) where
  next := fun {E s g' h tk L l nw I o i Q} target k S ho hi hq => by
    have hx : vs.toArray[i]? = some vs[i] := by simp [hi]
    refine wpAny_pyNext_tuple_item (s := SS s h tk) ⟨o, S.get (.head _), ho⟩ (isTuple_keeps hl (fun b o e => S.keep b o (k b o e))) hx fun h' hit hs => ?_
    obtain ⟨o', e, hc, hd⟩ := hit
    have S' := S.upd (o' := o') .head e hs
    refine hq _ h' tk fun hq' => own_other target _ (S'.get (.head _)) hc (by decide) ?_
    exact hq' g' h' tk o' (fun _ _ e => e) (by simp [hi]) ⟨hc, hd⟩ S'
  done := fun {E s g' h tk L l nw I o Q} k S ho hq => by
    refine wpAny_pyNext_tuple_end (s := SS s h tk) hh ⟨o, S.get (.head _), ho⟩ (isTuple_keeps hl (fun b o e => S.keep b o (k b o e))) (by simp) fun h' hs => ?_
    exact hq h' tk (S.extBut hs)
  self := fun {E s g' h tk L l nw I o i Q} S ho hq => wpAny_pyIter_tupleiter (s := SS s h tk) ⟨o, S.get (.head _), ho⟩ hq

theorem pi_tuple {a : Addr} {vs : List Value} (S : St g L h l nw) (hl : g.IsTuple a vs.toArray) (hq : ∀ h' I o, TI a 0 o → St g L h' l ((I, o) :: nw) → Q (.ref I) (SS s h' tk)) :
    wpAny (model PG w) A (pyIter (.ref a)) Q E (SS s h tk) :=
  wpAny_pyIter_tuple (s := SS s h tk) (isTuple_keeps hl S.keep) (hq _ _ _ ⟨rfl, rfl⟩ (S.push { cls := .type "tuple_iterator", data := .fields #[.ref a, .int 0 0] }))

def RI (a : Int) (n : Nat) (i : Nat) (o : Obj) : Prop := o = { cls := .type "range_iterator", dict := none, data := .fields #[rawInt (a + i), rawInt ((n : Int) - i), rawInt 1], slots := #[] }

theorem it_range {a : Int} {n : Nat} (hh : A.handled = none) : ItK w A g n (fun _ i v => ∃ t, v = .int (a + i) t) (RI a n) where
  next := fun {E s g' h tk L l nw I o i Q} target k S ho hi hq => by
    subst ho
    refine wpAny_pyNext_range_item (s := SS s h tk) (S.get (.head _)) (by omega) fun h' hit hs => ?_
    have e1 : a + (i : Int) + 1 = a + ((i + 1 : Nat) : Int) := by omega
    have e2 : (n : Int) - (i : Int) - 1 = (n : Int) - ((i + 1 : Nat) : Int) := by omega
    rw [e1, e2] at hit
    have S' := S.upd .head hit hs
    refine hq _ h' (_, _) fun hq' => own_other target _ (S'.get (.head _)) rfl (by decide) ?_
    exact hq' g' h' (_, _) _ (fun _ _ e => e) ⟨_, rfl⟩ rfl S'
  done := fun {E s g' h tk L l nw I o Q} k S ho hq => by
    subst ho
    refine wpAny_pyNext_range_end (s := SS s h tk) hh (S.get (.head _)) (by omega) fun h' hs => ?_
    exact hq h' tk (S.extBut hs)
  self := fun {E s g' h tk L l nw I o i Q} S ho hq => by
    subst ho
    exact wpAny_pyIter_rangeiter (s := SS s h tk) (S.get (.head _)) hq

def RgO (a b : Int) (o : Obj) : Prop := ∃ t u v, o = { cls := .type "range", dict := none, data := .fields #[.int a t, .int b u, .int 1 v], slots := #[] }

theorem pi_range {r : Addr} {a b : Int} {o : Obj} (S : St g L h l ((r, o) :: nw)) (hr : RgO a b o) (ha : -(2 ^ 62) ≤ a) (ha' : a < 2 ^ 62) (hb : -(2 ^ 62) ≤ b) (hb' : b < 2 ^ 62)
    (hq : ∀ h' I o, RI a (b - a).toNat 0 o → St g L h' l ((I, o) :: nw) → Q (.ref I) (SS s h' tk)) :
    wpAny (model PG w) A (pyIter (.ref r)) Q E (SS s h tk) := by
  obtain ⟨t, u, v, rfl⟩ := hr
  refine wpAny_pyIter_range (s := SS s h tk) (S.get (.head _)) (small_one ha ha' hb hb') ?_
  refine hq _ _ _ ?_ ((S.sub (List.sublist_cons_self _ _)).push _)
  unfold RI
  rw [rangeSize_one]
  have : (if a < b then b - a else 0) = (((b - a).toNat : Nat) : Int) - ((0 : Nat) : Int) := by split <;> omega
  rw [this]
  simp

theorem c_range1 {n : Int} {t : Tok} (S : St g L h l nw) (hq : ∀ h' tk' r o, RgO 0 n o → St g L h' l ((r, o) :: nw) → Q (.ref r) (SS s h' tk')) :
    wpAny (model PG w) A (call (.type "range") [.int n t]) Q E (SS s h tk) :=
  call_range_1 (s := SS s h tk) (hq _ (_, _) _ _ ⟨_, _, _, rfl⟩ (S.push _))

theorem c_range2 {a b : Int} {t u : Tok} (S : St g L h l nw) (hq : ∀ h' tk' r o, RgO a b o → St g L h' l ((r, o) :: nw) → Q (.ref r) (SS s h' tk')) :
    wpAny (model PG w) A (call (.type "range") [.int a t, .int b u]) Q E (SS s h tk) :=
  call_range_2 (s := SS s h tk) (hq _ (_, _) _ _ ⟨_, _, _, rfl⟩ (S.push _))
end
def Fo (oL : Obj) (l : List (Str × Value)) : Prop := ∀ (h' : Heap) (L : Addr), h'.get? L = some oL → ∃ m, h'.Ns L m ∧ ∀ p ∈ l, m p.1 = some p.2

theorem St.frameObj {g h : Heap} {L : Addr} {l : List (Str × Value)} {nw : List (Addr × Obj)} (S : St g L h l nw) : ∃ oL, Fo oL l ∧ h.get? L = some oL := by
  obtain ⟨m, ⟨oL, es, ep, hL, hLd, hLk, hLf⟩, hm⟩ := S.ns
  exact ⟨oL, fun h' L' e => ⟨m, ⟨oL, es, ep, e, hLd, hLk, hLf⟩, hm⟩, hL⟩

theorem St.enter {g h h₁ : Heap} {L C : Addr} {l binds : List (Str × Value)} {nw : List (Addr × Obj)} {m' : Str → Option Value} (S : St g L h l nw) (hC : h.get? C = none) (hns : h₁.Ns C m') (hb : ∀ p ∈ binds, m' p.1 = some p.2)
    (hk : ∀ b o, h.get? b = some o → h₁.get? b = some o) : ∃ oL, Fo oL l ∧ St g C h₁ binds ((L, oL) :: nw) := by
  obtain ⟨oL, hF, hL⟩ := S.frameObj
  refine ⟨oL, hF, ⟨_, hns, hb⟩, fun b o e => hk _ _ (S.keep b o e), ?_, fun p hp => ?_, ?_⟩
  · cases e : g.get? C with
    | none => rfl
    | some o => rw [S.keep _ _ e] at hC; cases hC
  · have ne : ∀ {b o}, h.get? b = some o → b ≠ C := fun e q => by rw [q, hC] at e; cases e
    rcases List.mem_cons.mp hp with rfl | hp
    · exact ⟨hk _ _ hL, ne hL, S.off⟩
    · exact ⟨hk _ _ (S.news p hp).1, ne (S.news p hp).1, (S.news p hp).2.2⟩
  · simp only [List.map_cons, List.nodup_cons]
    refine ⟨fun hq => ?_, S.nd⟩
    obtain ⟨p, hp, e⟩ := List.mem_map.mp hq
    exact (S.news p hp).2.1 e

theorem St.switch {g h : Heap} {L C : Addr} {oL : Obj} {l l' : List (Str × Value)} {nw : List (Addr × Obj)} (S : St g C h l' ((L, oL) :: nw)) (hF : Fo oL l) : ∃ oC, Fo oC l' ∧ St g L h l ((C, oC) :: nw) := by
  obtain ⟨oC, hFC, hC⟩ := S.frameObj
  have hL := S.news _ (.head _)
  have nd := S.nd
  simp only [List.map_cons, List.nodup_cons] at nd
  refine ⟨oC, hFC, hF _ _ hL.1, S.keep, hL.2.2, fun p hp => ?_, ?_⟩
  · rcases List.mem_cons.mp hp with rfl | hp
    · exact ⟨hC, Ne.symm hL.2.1, S.off⟩
    · exact ⟨(S.news p (.tail _ hp)).1, fun q => nd.1 (q ▸ List.mem_map_of_mem hp), (S.news p (.tail _ hp)).2.2⟩
  · simp only [List.map_cons, List.nodup_cons]
    refine ⟨fun hq => ?_, nd.2⟩
    obtain ⟨p, hp, e⟩ := List.mem_map.mp hq
    exact (S.news p (.tail _ hp)).2.1 e

def PL (o : Obj) (vs : List Value) : Prop := ∃ n, o = { cls := .type "list", data := .seq vs.toArray n }

theorem PL.lst {o : Obj} {vs : List Value} (H : PL o vs) : LstO o vs.toArray := by obtain ⟨n, rfl⟩ := H; exact ⟨rfl, n, rfl⟩

section
variable {w : World} {A : Around} {E : Value → Shared → Prop} {s : Shared} {g h : Heap} {tk : TD} {L : Addr} {l l' : List (Str × Value)} {nw nw' : List (Addr × Obj)} {env : Env} {x : Str} {v : Value} {pos : Pos} {Q : Value → Shared → Prop}

theorem newPL {vs : List Value} (S : St g L h l nw) (hq : ∀ h' a o, PL o vs → St g L h' l ((a, o) :: nw) → Q (.ref a) (SS s h' tk)) (hsz : vs.length ≤ sizeLine := by size_fits) :
    wpAny (model PG w) A (newList vs) Q E (SS s h tk) := by
  refine wpAny_newObj_type ?_ (by show vs.toArray.size ≤ sizeLine; rw [List.size_toArray]; exact hsz)
  exact hq _ _ _ ⟨_, rfl⟩ (S.push { cls := .type "list", data := .seq vs.toArray })

theorem c_append {p : Addr} {o : Obj} {F : Obj → List (Addr × Obj)} {vs : List Value} (S : St g L h l (F o)) (hu : ∀ o o', Up p o o' (F o) (F o')) (ho : PL o vs) (hsz : vs.length ≤ sizeLine)
    (hq : ∀ h' o', PL o' (vs ++ [v]) → St g L h' l (F o') → Q .none (SS s h' tk)) :
    wpAny (model PG w) A (call (.builtin "list.append") [.ref p, v]) Q E (SS s h tk) := by
  have hm := S.get (hu o o).mem
  obtain ⟨n, rfl⟩ := ho
  refine wpAny_list_append_plain (s := SS s h tk) (items := vs.toArray) ⟨n, hm⟩ (fun h' hl hs => ?_) (by simpa using hsz)
  obtain ⟨n', e⟩ := hl
  exact hq h' _ ⟨n', by simp⟩ (S.upd (hu _ _) e hs)

inductive ForEnd (s : Shared) (g : Heap) (L I : Addr) (o : Obj) (J : Heap → List (Str × Value) → List (Addr × Obj) → Prop) (s₃ : Shared) : Prop
  | mk (g₃ h₃ tk₃ l₃ nw₃) : s₃ = SS s h₃ tk₃ → g.StaysIn g₃ → J g₃ l₃ nw₃ → St g₃ L h₃ l₃ ((I, o) :: nw₃) → ForEnd s g L I o J s₃

inductive FInv (s : Shared) (g₁ : Heap) (L Ia : Addr) (n : Nat) (It : Nat → Obj → Prop) (J : Nat → Heap → List (Str × Value) → List (Addr × Obj) → Prop) (k : Nat) (s' : Shared) : Prop
  | mk (i g' h' tk' l' nw' o') : k = n - i → i ≤ n → s' = SS s h' tk' → g₁.StaysIn g' → J i g' l' nw' → It i o' → St g' L h' l' ((Ia, o') :: nw') → FInv s g₁ L Ia n It J k s'

inductive ForAt (w : World) (A : Around) (s : Shared) (L : Addr) (env : Env) (target : Expr) (body orelse : List Stmt) (Q : Flow → Shared → Prop) (it : Value) (s₂ : Shared) : Prop
  | mk (n : Nat) (item : Heap → Nat → Value → Prop) (It : Nat → Obj → Prop) (J : Nat → Heap → List (Str × Value) → List (Addr × Obj) → Prop) (g₁ h₁ : Heap) (tk₁ : TD) (l₁ : List (Str × Value)) (nw₁ : List (Addr × Obj)) (Ia : Addr) (o : Obj)
    (eqs : s₂ = SS s h₁ tk₁) (eqi : it = .ref Ia) (S : St g₁ L h₁ l₁ ((Ia, o) :: nw₁)) (K : ItK w A g₁ n item It) (I0 : It 0 o) (J0 : J 0 g₁ l₁ nw₁)
    (step : ∀ i v g' g'' h' tk' l' nw' o' E' (K : Flow → Shared → Prop), i < n → g₁.StaysIn g' → g'.StaysIn g'' → item g'' i v → J i g' l' nw' → St g'' L h' l' ((Ia, o') :: nw') →
      ((∀ s₃, ForEnd s g'' L Ia o' (J (i + 1)) s₃ → K .next s₃) ∧ ∀ v s₃, Q (.ret v) s₃ → K (.ret v) s₃) →
      wpAny (model PG w) A (assign target env v) (fun _ s₂ => wpAny (model PG w) A (execs body env) K E' s₂) E' (SS s h' tk'))
    (done : ∀ g' h' tk' l' nw' E', g₁.StaysIn g' → J n g' l' nw' → St g' L h' l' nw' → wpAny (model PG w) A (execs orelse env) Q E' (SS s h' tk')) : ForAt w A s L env target body orelse Q it s₂

theorem for_K {target iter : Expr} {body orelse : List Stmt} {Q : Flow → Shared → Prop}
    (hq : ∀ K : Value → Shared → Prop, (∀ it s₂, ForAt w A s L env target body orelse Q it s₂ → K it s₂) → wpAny (model PG w) A (eval iter env) (fun x s₁ => wpAny (model PG w) A (pyIter x) K E s₁) E (SS s h tk))
    (hs : ∀ x, foldedSetIterable iter env x = pure x := by intro _; rfl) :
    wpAny (model PG w) A (exec (.For target iter body orelse pos) env) Q E (SS s h tk) := by
  refine wpAny_For (hq _ fun it s₂ h₂ => ?_) hs
  obtain ⟨n, item, It, J, g₁, h₁, tk₁, l₁, nw₁, Ia, o, rfl, rfl, S, K, I0, J0, step, done⟩ := h₂
  refine codeAny_forLoop_any (FInv s g₁ L Ia n It J) ?_ n
    ⟨0, g₁, h₁, tk₁, l₁, nw₁, o, rfl, Nat.zero_le _, rfl, fun _ _ e => e, J0, I0, S⟩
  rintro k s' ⟨i, g', h', tk', l', nw', o', rfl, hi, rfl, kg, hJ, hI, S'⟩
  by_cases hlt : i < n
  · refine K.next target kg S' hI hlt fun v h₂ tk₂ hown => ?_
    refine hown fun g'' h'' tk'' o'' kg' hitem hI' S'' => ?_
    refine wpAny_mono (step i v g' g'' h'' tk'' l' nw' o'' _ (fun f s₃ => match f with
      | .next | .cont => ForEnd s g'' L Ia o'' (J (i + 1)) s₃
      | .brk => Q .next s₃
      | .ret v => Q (.ret v) s₃) hlt kg kg' hitem hJ S'' ⟨fun _ h => h, fun _ _ h => h⟩) (fun _ s₃ h₃ => wpAny_mono h₃ (fun f s₄ h₄ => ?_) fun _ _ e => e) fun _ _ e => e
    have more : ForEnd s g'' L Ia o'' (J (i + 1)) s₄ → ∃ m, m < n - i ∧ FInv s g₁ L Ia n It J m s₄ := by
      rintro ⟨g₃, h₃, tk₃, l₃, nw₃, rfl, k3, J3, S3⟩
      exact ⟨n - (i + 1), by omega, i + 1, g₃, h₃, tk₃, l₃, nw₃, o'', rfl, hlt, rfl, fun b o e => k3 _ _ (kg' _ _ (kg _ _ e)), J3, hI', S3⟩
    cases f with
    | brk => exact h₄
    | ret v => exact h₄
    | next => exact more h₄
    | cont => exact more h₄
  · have hin : i = n := by omega
    subst hin
    refine K.done kg S' hI fun h'' tk'' S'' => ?_
    exact done g' h'' tk'' l' nw' _ kg hJ S''
end
def Sift (w : World) (A : Around) (E : Value → Shared → Prop) (ifs : List Expr) (env : Env) (yes no : Shared → Prop) (s : Shared) : Prop := match ifs with
  | [] => yes s
  | c :: _ => wpAny (model PG w) A (PySem.isTrue c env (eval c env)) (fun ok s' => if ok = true then yes s' else no s') E s

section
variable {w : World} {A : Around} {E : Value → Shared → Prop} {s : Shared} {g h : Heap} {tk : TD} {L : Addr} {l l' : List (Str × Value)} {nw nw' : List (Addr × Obj)} {env : Env} {x : Str} {v : Value} {pos : Pos} {Q : Value → Shared → Prop}

theorem thousand : (1000 : Nat) ≤ sizeLine := by decide +kernel

theorem tests_nil {yes no : Shared → Prop} (h : yes s) : Sift w A E [] env yes no s := h

theorem tests_one {c : Expr} {yes no : Shared → Prop} (h : wpAny (model PG w) A (PySem.isTrue c env (eval c env)) (fun ok s' => if ok = true then yes s' else no s') E s) : Sift w A E [c] env yes no s := h

theorem Sift.mono {ifs : List Expr} {y n y' n' : Shared → Prop} (h : Sift w A E ifs env y n s) (hy : ∀ s', y s' → y' s') (hn : ∀ s', n s' → n' s') : Sift w A E ifs env y' n' s := by
  cases ifs with
  | nil => exact hy _ h
  | cons c _ =>
    refine wpAny_mono h (fun ok s' h' => ?_) fun _ _ e => e
    cases ok with
    | true => exact hy _ h'
    | false => exact hn _ h'

/-- One turn of a comprehension with no test or one: the library's two loops in one shape. -/
def CTurn (w : World) (A : Around) (N : Value → Shared → Prop) (env : Env) (elt target : Expr) (ifs : List Expr) (it acc : Value) (again : Shared → Prop) (v : Value) (s : Shared) : Prop :=
  wpAny (model PG w) A (letOwnedTupleGo target it v) (fun _ s₀ => wpAny (model PG w) A (assign target env v) (fun _ s₂ => Sift w A N ifs env
    (fun s₃ => wpAny (model PG w) A (eval elt env) (fun x s₄ => wpAny (model PG w) A (call (.builtin "list.append") [acc, x]) (fun _ s₅ => again s₅) N s₄) N s₃) again s₂) N s₀) N s

theorem comp_loop {R : Result → Shared → Prop} {elt target iter : Expr} {scope : Scope} {it acc : Value} (I : Nat → Shared → Prop) : ∀ {ifs : List Expr}, ifs.length ≤ 1 →
    (∀ n s, I n s → wpAny (model PG w) A (pyNext it) (fun r s₁ => (r = none → R (.ok .next) s₁) ∧ ∀ v, r = some v → CTurn w A (notedBy (model PG w) A env fun e s' => R (.error e) s') env elt target ifs it acc (fun s' => ∃ m, m < n ∧ I m s') v s₁)
      (notedBy (model PG w) A env fun e s' => R (.error e) s') s) →
    ∀ n, I n s → codeAny (model PG w) A (.compLoop (.ListComp elt [⟨target, iter, ifs, 0⟩] scope pos) 0 it acc env) R s
  | [], _, turn, n, h => kcp_loop I (fun n s hI => wpAny_mono (turn n s hI) (fun r s₁ h₁ => by
      cases r with
      | none => exact h₁.1 rfl
      | some v => exact h₁.2 v rfl) fun _ _ e => e) n h
  | [c], _, turn, n, h => kct_loop I (fun n s hI => wpAny_mono (turn n s hI) (fun r s₁ h₁ => by
      cases r with
      | none => exact h₁.1 rfl
      | some v => exact h₁.2 v rfl) fun _ _ e => e) n h
  | _ :: _ :: _, hc, _, _, _ => absurd hc (by simp)

inductive CEnd (s : Shared) (g : Heap) (C : Addr) (fr : List (Addr × Obj)) (J : Heap → List (Addr × Obj) → List Value → Prop) (ys : List Value) (s₃ : Shared) : Prop
  | mk (g₃ h₃ tk₃ l₃ nw₃) : s₃ = SS s h₃ tk₃ → g.StaysIn g₃ → J g₃ nw₃ ys → St g₃ C h₃ l₃ (fr ++ nw₃) → CEnd s g C fr J ys s₃

inductive CInv (s : Shared) (g₁ : Heap) (C Ia D L : Addr) (oL : Obj) (n : Nat) (It : Nat → Obj → Prop) (J : Nat → Heap → List (Addr × Obj) → List Value → Prop) (k : Nat) (s' : Shared) : Prop
  | mk (i g' h' tk' l' nw' o' oA' ys) : k = n - i → i ≤ n → ys.length ≤ i → s' = SS s h' tk' → g₁.StaysIn g' → J i g' nw' ys → PL oA' ys → It i o' → St g' C h' l' ((Ia, o') :: (D, oA') :: (L, oL) :: nw') → CInv s g₁ C Ia D L oL n It J k s'

inductive CompAt (w : World) (A : Around) (s : Shared) (L : Addr) (env : Env) (scope : Scope) (cl : List (Str × Addr)) (elt target : Expr) (ifs : List Expr) (fin : Nat → (Nat → Heap → List (Addr × Obj) → List Value → Prop) → Heap → List (Str × Value) → Prop) (it : Value) (s₂ : Shared) : Prop
  | mk (n : Nat) (item : Heap → Nat → Value → Prop) (It : Nat → Obj → Prop) (J : Nat → Heap → List (Addr × Obj) → List Value → Prop) (g₁ h₁ : Heap) (tk₁ : TD) (l₁ : List (Str × Value)) (nw₁ : List (Addr × Obj)) (Ia : Addr) (o : Obj)
    (eqs : s₂ = SS s h₁ tk₁) (eqi : it = .ref Ia) (S : St g₁ L h₁ l₁ ((Ia, o) :: nw₁)) (K : ItK w A g₁ n item It) (I0 : It 0 o) (J0 : J 0 g₁ nw₁ []) (small : n ≤ 1000)
    (step : ∀ i v g' g'' h' tk' nw' o' ys C D oA oL E' (K : Value → Shared → Prop) (N : Shared → Prop), i < n → ys.length ≤ i → g₁.StaysIn g' → g'.StaysIn g'' → item g'' i v → J i g' nw' ys → St g'' C h' [] ((Ia, o') :: (D, oA) :: (L, oL) :: nw') →
      ((∀ y s₄, CEnd s g'' C [(Ia, o'), (D, oA), (L, oL)] (J (i + 1)) (ys ++ [y]) s₄ → K y s₄) ∧ ∀ s₄, CEnd s g'' C [(Ia, o'), (D, oA), (L, oL)] (J (i + 1)) ys s₄ → N s₄) →
      wpAny (model PG w) A (assign target (compEnvC scope cl C env) v) (fun _ s₂ => Sift w A E' ifs (compEnvC scope cl C env) (fun s₃ => wpAny (model PG w) A (eval elt (compEnvC scope cl C env)) K E' s₃) N s₂) E' (SS s h' tk'))
    (end_ : fin n J g₁ l₁) : CompAt w A s L env scope cl elt target ifs fin it s₂

theorem comp_core {elt target iter : Expr} {ifs : List Expr} {scope : Scope} {cl : List (Str × Addr)} {RR : Value → Addr → Result → Shared → Prop} {it : Value} {s₂ : Shared}
    {fin : Nat → (Nat → Heap → List (Addr × Obj) → List Value → Prop) → Heap → List (Str × Value) → Prop}
    (hcell : ∀ y ∈ scope.names, y.2 ≠ .cell) (hkind : scope.kind = .function) (H : CompAt w A s L env scope cl elt target ifs fin it s₂)
    (hone : ifs.length ≤ 1) (hfin : ∀ n J g₁ l₁, fin n J g₁ l₁ → ∀ g' h' tk' l' nw' D C oA oL ys, g₁.StaysIn g' → J n g' nw' ys → PL oA ys → Fo oL l₁ → St g' C h' l' ((L, oL) :: (D, oA) :: nw') → RR (.ref D) C (.ok .next) (SS s h' tk')) :
    wpAny (model PG w) A (newList []) (fun acc s₃ => wpAny (model PG w) A (newFunctionEnv scope env.globals cl [] env.qual none .none (some env)) (fun cenv s₄ =>
      codeAny (model PG w) A (.compStart (.ListComp elt [⟨target, iter, ifs, 0⟩] scope pos) 0 it acc { cenv with scope := relabel scope env }) (RR acc cenv.locals) s₄) E s₃) E s₂ := by
  obtain ⟨n, item, It, J, g₁, h₁, tk₁, l₁, nw₁, Ia, o, rfl, rfl, S, K, I0, J0, small, step, hf⟩ := H
  have hfin := hfin n J g₁ l₁ hf
  refine newPL S fun h₂ D oA hA S₂ => ?_
  refine wpAny_newFunctionEnv hcell (by intro y hy; simp at hy) (fun h₃ hns hsb => ?_) hkind
  obtain ⟨oL, hF, S₃⟩ := St.enter (C := h₂.objs.size) (h₁ := h₃) (binds := []) S₂ (by
      cases e : h₂.get? h₂.objs.size with
      | none => rfl
      | some o => exact absurd (Heap.lt_size e) (Nat.lt_irrefl _)) hns (by simp) (fun b o e => hsb.extBut b o (Nat.ne_of_lt (Heap.lt_size e)) (Heap.get?_push_of_some _ e))
  have S₄ : St g₁ h₂.objs.size h₃ [] ((Ia, o) :: (D, oA) :: (L, oL) :: nw₁) := S₃.perm (by
    refine (List.Perm.swap _ _ _).trans ?_
    refine .trans ?_ (List.Perm.swap _ _ _)
    refine .cons _ ?_
    exact List.Perm.swap _ _ _)
  generalize hC : h₂.objs.size = C at S₄ hns hsb
  have loop : ∀ tk₃, codeAny (model PG w) A (.compLoop (.ListComp elt [⟨target, iter, ifs, 0⟩] scope pos) 0 (.ref Ia) (.ref D) (compEnvC scope cl C env)) (RR (.ref D) C) (SS s h₃ tk₃) := by
    intro tk₃
    refine comp_loop (CInv s g₁ C Ia D L oL n It J) hone ?_ n
      ⟨0, g₁, h₃, tk₃, [], nw₁, o, oA, [], rfl, Nat.zero_le _, Nat.le_refl _, rfl, fun _ _ e => e, J0, hA, I0, S₄⟩
    rintro k s' ⟨i, g', h', tk', l', nw', o', oA', ys, rfl, hi, hys, rfl, kg, hJ, hA', hI, S'⟩
    by_cases hlt : i < n
    · refine K.next target kg S' hI hlt fun v h₂ tk₂ hown => ⟨fun e => (nomatch e), fun v' e => ?_⟩
      cases e
      refine hown fun g'' h'' tk'' o'' kg' hitem hI' S'' => ?_
      have more : ∀ (oA₂ : Obj) (ys₂ : List Value) (s₅ : Shared), PL oA₂ ys₂ → ys₂.length ≤ i + 1 → CEnd s g'' C [(Ia, o''), (D, oA₂), (L, oL)] (J (i + 1)) ys₂ s₅ → ∃ m, m < n - i ∧ CInv s g₁ C Ia D L oL n It J m s₅ := by
        rintro oA₂ ys₂ s₅ hA₂ hy₂ ⟨g₃, h₃, tk₃, l₃, nw₃, rfl, k3, J3, S3⟩
        exact ⟨n - (i + 1), by omega, i + 1, g₃, h₃, tk₃, l₃, nw₃, o'', oA₂, ys₂, rfl, hlt, hy₂, rfl, fun b o e => k3 _ _ (kg' _ _ (kg _ _ e)), J3, hA₂, hI', S3⟩
      refine wpAny_mono (step i v g' g'' h'' tk'' nw' o'' ys C D oA' oL _ _ _ hlt hys kg kg' hitem hJ (S''.names (by simp)) ⟨fun _ _ h => h, fun _ h => h⟩) (fun _ s₃ h₃ => h₃.mono (fun s₄ h₄ => ?_) fun s₄ h₄ => more oA' ys s₄ hA' (by omega) h₄) fun _ _ e => e
      refine wpAny_mono h₄ (fun y s₅ h₅ => ?_) fun _ _ e => e
      obtain ⟨g₃, h₃, tk₃, l₃, nw₃, rfl, k3, J3, S3⟩ := h₅
      refine c_append (F := fun oA => (Ia, o'') :: (D, oA) :: (L, oL) :: nw₃) S3 (fun _ _ => .tail .head) hA' (Nat.le_trans (Nat.le_of_lt (Nat.lt_of_le_of_lt hys hlt)) (Nat.le_trans small thousand)) fun h₆ oA'' hA'' S6 => ?_
      exact more oA'' (ys ++ [y]) _ hA'' (by simp; omega) ⟨g₃, h₆, tk₃, l₃, nw₃, rfl, k3, J3, S6⟩
    · have hin : i = n := by omega
      subst hin
      refine K.done kg S' hI fun h'' tk'' S'' => ⟨fun _ => ?_, fun v e => (nomatch e)⟩
      exact hfin g' h'' tk'' l' nw' D C oA' oL ys kg hJ hA' hF S''.swap
  have e := loop (tk₁.1 + ([] : List (Str × Value)).length, tk₁.2)
  subst hC
  exact codeAny_compStart_list e (K.self S₄ I0 e)

/-- A whole comprehension, with what is done with its list (compPost of the library). -/
theorem comp_any {p' : Pos} {use : Option (Value → Sem Unit)} {elt target iter : Expr} {ifs : List Expr} {scope : Scope} {cl : List (Str × Addr)}
    (hclos : closureFor scope env = pure cl) (hcell : ∀ y ∈ scope.names, y.2 ≠ .cell) (hkind : scope.kind = .function) (hnames : ∀ y ∈ scope.names, y.2 = .local → scope.names.lookup y.1 = some .local)
    (hs : ∀ x, foldedSetIterable iter env x = pure x) (hone : ifs.length ≤ 1)
    (hq : ∀ K : Value → Shared → Prop, (∀ it s₂, CompAt w A s L env scope cl elt target ifs (fun n J g₁ l₁ => ∀ g' h' tk' nw' D C oA oC ys, g₁.StaysIn g' → J n g' nw' ys → PL oA ys → (∀ h' : Heap, h'.get? C = some oC → ∃ m, h'.Ns C m) →
        St g' L h' l₁ ((C, oC) :: (D, oA) :: nw') → compPost (model PG w) A E use Q (.ref D) C (.ok .next) (SS s h' tk')) it s₂ → K it s₂) → wpAny (model PG w) A (eval iter env) (fun xv s₁ => wpAny (model PG w) A (pyIter xv) K E s₁) E (SS s h tk)) :
    wpAny (model PG w) A (comprehension (.ListComp elt [⟨target, iter, ifs, 0⟩] scope pos) scope env p' (newList []) false (eval iter env) use) Q E (SS s h tk) := by
  refine wpAny_comprehension_free rfl hs hclos hkind hnames (hq _ fun it s₂ H => ?_)
  refine comp_core (RR := compPost (model PG w) A E use Q) hcell hkind H hone fun n J g₁ l₁ hf g' h' tk' l' nw' D C oA oL ys kg hJ hA hF S => ?_
  obtain ⟨oC, hFC, S₂⟩ := S.switch hF
  exact hf g' h' tk' nw' D C oA oC ys kg hJ hA (fun h' e => let ⟨m, hm, _⟩ := hFC h' C e; ⟨m, hm⟩) S₂

theorem CompAt.map {elt target : Expr} {ifs : List Expr} {scope : Scope} {cl : List (Str × Addr)} {it : Value} {s₂ : Shared} {fin fin' : Nat → (Nat → Heap → List (Addr × Obj) → List Value → Prop) → Heap → List (Str × Value) → Prop}
    (H : CompAt w A s L env scope cl elt target ifs fin it s₂) (k : ∀ n J g₁ l₁, fin n J g₁ l₁ → fin' n J g₁ l₁) : CompAt w A s L env scope cl elt target ifs fin' it s₂ := by
  obtain ⟨n, item, It, J, g₁, h₁, tk₁, l₁, nw₁, Ia, o, e1, e2, S, K, I0, J0, small, step, hf⟩ := H
  exact ⟨n, item, It, J, g₁, h₁, tk₁, l₁, nw₁, Ia, o, e1, e2, S, K, I0, J0, small, step, k _ _ _ _ hf⟩

theorem comp_eval {elt target iter : Expr} {ifs : List Expr} {scope : Scope} {cl : List (Str × Addr)}
    (hclos : closureFor scope env = pure cl) (hcell : ∀ y ∈ scope.names, y.2 ≠ .cell) (hkind : scope.kind = .function) (hnames : ∀ y ∈ scope.names, y.2 = .local → scope.names.lookup y.1 = some .local)
    (hone : ifs.length ≤ 1)
    (hq : ∀ K : Value → Shared → Prop, (∀ it s₂, CompAt w A s L env scope cl elt target ifs (fun n J g₁ l₁ => ∀ g' g'' h' tk' nw' D ys, g₁.StaysIn g' → g'.StaysIn g'' → J n g' nw' ys → g''.IsList D ys.toArray → St g'' L h' l₁ nw' → Q (.ref D) (SS s h' tk')) it s₂ → K it s₂) →
      wpAny (model PG w) A (eval iter env) (fun xv s₁ => wpAny (model PG w) A (pyIter xv) K E s₁) E (SS s h tk))
    (hs : ∀ x, foldedSetIterable iter env x = pure x := by intro _; rfl) :
    wpAny (model PG w) A (eval (.ListComp elt [⟨target, iter, ifs, 0⟩] scope pos) env) Q E (SS s h tk) := by
  rw [eval_ListComp]
  refine comp_any (L := L) hclos hcell hkind hnames hs hone fun K hK => hq K fun it s₂ H => hK _ _ (H.map fun n J g₁ l₁ hf g' h' tk' nw' D C oA oC ys kg hJ hA hC S => ?_)
  obtain ⟨m, hm⟩ := hC _ (S.get (.head _))
  refine ⟨m, hm, fun h'' hs => ?_⟩
  obtain ⟨g'', k, hD, S₄⟩ := (S.extBut hs.extBut).freeze
  exact hf g' g'' h'' tk' nw' D ys kg k hJ (hA.lst.isList hD) S₄

theorem comp_asgn {elt target iter : Expr} {ifs : List Expr} {scope : Scope} {cl : List (Str × Addr)} {y : Str} {py spos : Pos} {Q : Flow → Shared → Prop}
    (hsw : swapsWith (.ListComp elt [⟨target, iter, ifs, 0⟩] scope pos) (some (.Name y py)) spos.line env = pure true)
    (hclos : closureFor scope env = pure cl) (hcell : ∀ y ∈ scope.names, y.2 ≠ .cell) (hkind : scope.kind = .function) (hnames : ∀ y ∈ scope.names, y.2 = .local → scope.names.lookup y.1 = some .local)
    (hL : env.locals = L) (hy : env.kindOf y = some .local) (hp : (env.scope.kind == .class || (env.scope.kind == .module && env.locals != env.globals)) = false)
    (hone : ifs.length ≤ 1)
    (hq : ∀ K : Value → Shared → Prop, (∀ it s₂, CompAt w A s L env scope cl elt target ifs (fun n J g₁ l₁ => ∃ l₂, Rem y l₁ l₂ ∧ ∀ g' g'' h' tk' nw' D ys, g₁.StaysIn g' → g'.StaysIn g'' → J n g' nw' ys → g''.IsList D ys.toArray → St g'' L h' ((y, .ref D) :: l₂) nw' → Q .next (SS s h' tk')) it s₂ → K it s₂) →
      wpAny (model PG w) A (eval iter env) (fun xv s₁ => wpAny (model PG w) A (pyIter xv) K E s₁) E (SS s h tk))
    (hs : ∀ x, foldedSetIterable iter env x = pure x := by intro _; rfl) :
    wpAny (model PG w) A (exec (.Assign [.Name y py] (.ListComp elt [⟨target, iter, ifs, 0⟩] scope pos) spos) env) Q E (SS s h tk) := by
  rw [exec_Assign_Name_used _ _ _ _ hsw]
  have used : wpAny (model PG w) A (evalThenUse (.ListComp elt [⟨target, iter, ifs, 0⟩] scope pos) env (assign (.Name y py) env)) (fun _ s' => Q .next s') E (SS s h tk) := by
    refine wpAny_bind (wpAny_mono (comp_any (L := L) (Q := fun _ s' => Q .next s') hclos hcell hkind hnames hs hone fun K hK => hq K fun it s₂ H => hK _ _ (H.map fun n J g₁ l₁ hf g' h' tk' nw' D C oA oC ys kg hJ hA hC S => ?_)) (fun _ _ e => wpAny_pure e) fun _ _ e => e)
    obtain ⟨l₂, hr, hf⟩ := hf
    refine wpAny_assign_Name (stL S hr (fun h₃ tk₃ S₃ => ?_) hL hy hp)
    obtain ⟨m, hm⟩ := hC _ (S₃.get (.head _))
    refine ⟨m, hm, fun h'' hs => ?_⟩
    obtain ⟨g'', k, hD, S₄⟩ := (S₃.extBut hs.extBut).freeze
    exact hf g' g'' h'' tk₃ nw' D ys kg k hJ (hA.lst.isList hD) S₄
  exact wpAny_bind (wpAny_standAt (wpAny_bind (wpAny_mono used (fun _ _ e => wpAny_pure e) fun _ _ e => e)))
end
def H0 : Heap := {}
theorem H0_none (a : Addr) : H0.get? a = none := by
  cases e : H0.get? a with
  | none => rfl
  | some o => exact absurd (Heap.lt_size e) (Nat.not_lt_zero _)

def allNews (h : Heap) (ex : List Addr) : List (Addr × Obj) := (List.range h.objs.size).filterMap fun b => if b ∈ ex then none else (h.get? b).map fun o => (b, o)

theorem allNews_mem {h : Heap} {ex : List Addr} {b : Addr} {o : Obj} (e : h.get? b = some o) (hb : b ∉ ex) : (b, o) ∈ allNews h ex :=
  List.mem_filterMap.mpr ⟨b, List.mem_range.mpr (Heap.lt_size e), by rw [if_neg hb, e]; rfl⟩

theorem allNews_of {h : Heap} {ex : List Addr} {p : Addr × Obj} (m : p ∈ allNews h ex) : h.get? p.1 = some p.2 ∧ p.1 ∉ ex := by
  obtain ⟨b, _, e⟩ := List.mem_filterMap.mp m
  by_cases hb : b ∈ ex
  · rw [if_pos hb] at e; cases e
  · rw [if_neg hb] at e
    obtain ⟨o, e', rfl⟩ := Option.map_eq_some_iff.mp e
    exact ⟨e', hb⟩

theorem St.br {g h : Heap} {L : Addr} {l : List (Str × Value)} {nw : List (Addr × Obj)} (S : St g L h l nw) : ∃ m, Fr H0 L h m ∧ (∀ ex, L ∈ ex → News H0 L h (allNews h ex)) ∧ ∀ p ∈ l, m p.1 = some p.2 := by
  obtain ⟨m, hn, hm⟩ := S.ns
  refine ⟨m, ⟨hn, fun b o e => (by rw [H0_none] at e; cases e), Nat.zero_le _⟩, fun ex hL p hp => ?_, hm⟩
  obtain ⟨e, hne⟩ := allNews_of hp
  exact ⟨e, fun q => hne (q ▸ hL), H0_none _⟩

theorem St.unbr {g h h' : Heap} {L : Addr} {l : List (Str × Value)} {nw nn : List (Addr × Obj)} {m : Str → Option Value} (S : St g L h l nw) (F : Fr H0 L h' m) (hm : ∀ p ∈ l, m p.1 = some p.2)
    (N : News H0 L h' nn) (hs : ∀ p ∈ allNews h [L], p ∈ nn) : St g L h' l nw where
  ns := ⟨m, F.ns, hm⟩
  keep := fun b o e => (N _ (hs _ (allNews_mem (S.keep b o e) (fun q => by rw [List.mem_singleton.mp q, S.off] at e; cases e)))).1
  off := S.off
  news := fun p hp => ⟨(N _ (hs _ (allNews_mem (S.news p hp).1 (fun q => (S.news p hp).2.1 (List.mem_singleton.mp q))))).1, (S.news p hp).2⟩
  nd := S.nd

theorem St.unbr2 {g h h' : Heap} {L d : Addr} {l : List (Str × Value)} {nw nw' : List (Addr × Obj)} {o o' : Obj} {m : Str → Option Value} (S : St g L h l nw) (u : Up d o o' nw nw') (F : Fr H0 L h' m) (hm : ∀ p ∈ l, m p.1 = some p.2)
    (N : News H0 L h' ([] ++ (d, o') :: allNews h [L, d])) : St g L h' l nw' := by
  have hd := S.news _ u.mem
  have key : ∀ {b ob}, h.get? b = some ob → b ≠ L → b ≠ d → h'.get? b = some ob := fun {b ob} e h1 h2 => (N _ (.tail _ (allNews_mem (ex := [L, d]) e (by simp [h1, h2])))).1
  refine ⟨⟨m, F.ns, hm⟩, fun b ob e => key (S.keep b ob e) (fun q => ?_) (fun q => ?_), S.off, fun p hp => ?_, by rw [u.fst]; exact S.nd⟩
  · rw [q, S.off] at e; cases e
  · rw [q, hd.2.2] at e; cases e
  · rcases u.mem' S.nd p hp with rfl | ⟨hp, hne⟩
    · exact ⟨(N _ (.head _)).1, hd.2⟩
    · exact ⟨key (S.news p hp).1 (S.news p hp).2.1 hne, (S.news p hp).2⟩

section
variable {w : World} {A : Around} {E : Value → Shared → Prop} {s : Shared} {g h : Heap} {tk : TD} {L : Addr} {l l' : List (Str × Value)} {nw nw' : List (Addr × Obj)} {env : Env} {x : Str} {v : Value} {pos : Pos} {Q : Value → Shared → Prop}

theorem c_make {Ca fI : Addr} {args : List Value} (S : St g L h l nw) (C : Cx w g) (hm : makesIn (KK w.params) Ca = true)
    (hi : findIn (KK w.params) (.ref Ca) "__init__" = some (some (.ref fI))) (hf : typeIn (KK w.params) (.ref fI) = some (.type "function"))
    (hq : ∀ A' h' x dx, A'.depth = A.depth + 1 → A'.handled = A.handled → St g L h' l ((x, instObj Ca dx) :: (dx, dictOf [] 0) :: nw) →
      codeAny (model PG w) A' (.call (.ref fI) ⟨.ref x :: args, []⟩) (InitBack x fun r s' => match r with | .ok (.ret v) => Q v s' | .ok _ => False | .error e => E e s') (SS s h' tk)) :
    wpAny (model PG w) A (call (.ref Ca) args []) Q E (SS s h tk) := by
  refine wpAny_call ?_
  have X := C.X.keeps S.keep
  refine make_core (makes_of X hm) (looks_findIn X hi) (fun self => bind_fn X self hf) (.inl rfl) ?_
  have S1 := S.push emptyDict
  have S2 := S1.push (instObj Ca h.objs.size)
  rw [Heap.size_push] at S2
  exact hq _ _ _ _ rfl rfl S2

theorem c_setAttr {p dx Ca : Addr} {es : List DictEntry} {n : Nat} {F : Obj → List (Addr × Obj)} {Q : Unit → Shared → Prop} {name : Str} (S : St g L h l (F (dictOf es n))) (C : Cx w g) (hu : ∀ o o', Up dx o o' (F o) (F o')) (hp : (p, instObj Ca dx) ∈ F (dictOf es n))
    (hs : findIn (KK w.params) (.ref Ca) "__setattr__" = some (some (.builtin "object.__setattr__"))) (hpl : plainOver (KK w.params) Ca = true) (ht : takerIn (KK w.params) Ca name = some none) (hh : hasDictIn (KK w.params) Ca = true)
    (hl : (getL name es).isSome = true) (hz : ∀ hsh key, (putL name hsh key v es).length ≤ 1000)
    (hq : ∀ h' tk' hsh t, St g L h' l (F (dictOf (putL name hsh (.str name t) v es) (putN name es n))) → Q () (SS s h' tk')) :
    wpAny (model PG w) A (setAttr (.ref p) name v) Q E (SS s h tk) := by
  have X := C.X.keeps S.keep
  obtain ⟨m, Fr1, N1, hm⟩ := S.br
  have I : W.InstAt h p (instObj Ca dx) Ca (some (dictOf es n)) := ⟨S.get hp, rfl, rfl, S.get (hu _ (dictOf es n)).mem⟩
  have hne : dx ≠ L := (S.news _ (hu _ (dictOf es n)).mem).2.1
  refine set_plain (s := SS s h tk) X I hs (osa_dict (s := SS s h (tk.1 + 1, tk.2)) (pre := []) (post := allNews h [L, dx]) Fr1 ?_ X I rfl hpl ht hh hl (fun _ hp => nomatch hp) (fun p hp => ?_) (putName_dict _ _ _ _ _ _) rfl (hz _ _) fun h' F' N' => ?_)
  · intro q hq
    rcases List.mem_cons.mp hq with rfl | hq
    · exact ⟨S.get (hu _ (dictOf es n)).mem, hne, H0_none _⟩
    · exact N1 [L, dx] (.head _) q hq
  · exact fun q => (allNews_of hp).2 (by simp [q])
  · exact hq h' (_, _) _ _ (S.unbr2 (hu _ _) F' hm N')

theorem c_getAttr {p dx Ca : Addr} {es : List DictEntry} {n : Nat} {attr : Option Value} {name : Str} {y : Value} {ex : Bool} (S : St g L h l nw) (C : Cx w g) (h1 : g.get? p = some (instObj Ca dx)) (h2 : g.get? dx = some (dictOf es n))
    (hg : findIn (KK w.params) (.ref Ca) "__getattribute__" = some (some (.builtin "object.__getattribute__"))) (hh : hasDictIn (KK w.params) Ca = true) (ha : findIn (KK w.params) (.ref Ca) name = some attr) (hn : noGet (KK w.params) attr = true)
    (hl : getL name es = some (some y)) (hd : handedIn y = true) (hq : ∀ tk', Q y (SS s h tk')) :
    wpAny (model PG w) A (getAttr (.ref p) name ex) Q E (SS s h tk) :=
  get_value (s := SS s h tk) (C.X.keeps S.keep) (ox := instObj Ca dx) (od := some (dictOf es n)) ⟨S.keep _ _ h1, rfl, rfl, S.keep _ _ h2⟩ hg (findObj_own hh ha hn hl) hd (hq (_, _))

theorem c_method {p dx Ca f : Addr} {es : List DictEntry} {n : Nat} {name : Str} {pl : Sem Bool} {Q : Value × List Value → Shared → Prop} (S : St g L h l nw) (C : Cx w g) (h1 : g.get? p = some (instObj Ca dx)) (h2 : g.get? dx = some (dictOf es n))
    (hg : findIn (KK w.params) (.ref Ca) "__getattribute__" = some (some (.builtin "object.__getattribute__"))) (hk : findIn (KK w.params) (.ref Ca) "__getattr__" = some none)
    (hf : findIn (KK w.params) (.ref Ca) name = some (some (.ref f))) (ht : typeIn (KK w.params) (.ref f) = some (.type "function")) (hl : getL name es = some none) (hq : Q (.ref f, [.ref p]) (SS s h tk)) :
    wpAny (model PG w) A (getMethod (.ref p) name pl) Q E (SS s h tk) :=
  method_fn (s := SS s h tk) (C.X.keeps S.keep) (ox := instObj Ca dx) (od := some (dictOf es n)) ⟨S.keep _ _ h1, rfl, rfl, S.keep _ _ h2⟩ hg hk hf ht (by show (getL name es).map _ = _; rw [hl]; rfl) hq
end
section
variable {w : World} {A : Around} {E : Value → Shared → Prop} {s : Shared} {g h : Heap} {tk : TD} {L : Addr} {l l' : List (Str × Value)} {nw nw' : List (Addr × Obj)} {env : Env} {x : Str} {v : Value} {pos : Pos} {Q : Value → Shared → Prop}

theorem c_slice {value : Expr} {lower upper : Option Expr} {p : Pos}
    (hq : wpAny (model PG w) A (eval value env) (fun o s₁ => wpAny (model PG w) A (evalPart lower env) (fun vl s₂ => wpAny (model PG w) A (evalPart upper env) (fun vu s₃ =>
      ∃ g₁ h₁ tk₁ L l₁ nw₁ a, ∃ vs : List Value, ∃ lo hi, s₃ = SS s h₁ tk₁ ∧ o = .ref a ∧ St g₁ L h₁ l₁ nw₁ ∧ g₁.IsList a vs.toArray ∧ vs.length ≤ 1000 ∧ IsPart vl lo ∧ IsPart vu hi ∧
        ∀ g' h' D, g₁.StaysIn g' → St g' L h' l₁ nw₁ → g'.IsList D (slicePick vs.toArray lo hi none) → Q (.ref D) (SS s h' tk₁)) E s₂) E s₁) E (SS s h tk))
    (hgo : ∀ o r, letTemporaryGo value o r = pure () := by intro _ _; rfl) :
    wpAny (model PG w) A (eval (.Subscript value (.Slice lower upper none p) pos) env) Q E (SS s h tk) := by
  refine wpAny_Subscript_list_slice (wpAny_mono hq (fun o s₁ h₁ => wpAny_mono h₁ (fun vl s₂ h₂ => wpAny_mono h₂ (fun vu s₃ h₃ => ?_) fun _ _ e => e) fun _ _ e => e) fun _ _ e => e) hgo
  obtain ⟨g₁, h₁, tk₁, L, l₁, nw₁, a, vs, lo, hi, rfl, rfl, S, hl, hsz, pl, ph, hq⟩ := h₃
  refine ⟨a, vs.toArray, lo, hi, rfl, isList_keeps hl S.keep, Nat.le_trans (by simpa using hsz) (by decide +kernel : (1000 : Nat) ≤ sizeLine), pl, ph, ?_⟩
  have S1 := S.push' { cls := .type "slice", data := .fields #[vl, vu, .none] }
  obtain ⟨g', k, hg, S2⟩ := (S1.push { cls := .type "list", data := .seq (slicePick vs.toArray lo hi none) }).freeze
  rw [Heap.size_push] at hg
  exact hq g' _ _ k S2 ⟨_, hg, rfl, _, rfl⟩

theorem c_truthyL {a : Addr} {vs : List Value} (hl : h.IsList a vs.toArray) (hs : vs.length ≤ 1000) {Q : Bool → Shared → Prop} (hq : ∀ tk', Q (decide (vs ≠ [])) (SS s h tk')) : wpAny (model PG w) A (truthy (.ref a)) Q E (SS s h tk) := by
  refine wpAny_truthy_list (s := SS s h tk) hl (by simp; omega) ?_
  have : (!vs.toArray.isEmpty) = decide (vs ≠ []) := by cases vs <;> simp
  rw [this]; exact hq (_, _)

theorem m_append {R : Addr} {oR : Obj} {vs : List Value} {e : Expr} {rest : List Expr} {pl : Sem Bool} (S : St g L h l nw) (hm : (R, oR) ∈ nw) (ho : PL oR vs)
    (hq : wpAny (model PG w) A (spliced (backTo pos (starEach (e :: rest) env))) (fun ys s₁ => wpAny (model PG w) A (call (.builtin "list.append") ([.ref R] ++ ys)) Q E s₁) E (SS s h tk))
    (he : starEach (e :: rest) env = (false, eval e env) :: starEach rest env := by rfl) (hplain : (backTo pos (starEach rest env)).any (·.1) = false := by rfl) :
    wpAny (model PG w) A (getMethod (.ref R) "append" pl) (fun fx s₂ => wpAny (model PG w) A (callWith pos fx.1 fx.2 (backTo pos (starEach (e :: rest) env)) []) Q E s₂) E (SS s h tk) := by
  have hg := S.get hm
  obtain ⟨n, rfl⟩ := ho
  exact getMethod_list_append (s := SS s h tk) hg rfl rfl (PyProof.Rows.callWith_method1 hq he hplain)
end

abbrev EqL (a b : List (Str × Value)) : Prop := a = b
abbrev EqN (a b : List (Addr × Obj)) : Prop := a = b

theorem pget {α β : Type} {F : α → β → Prop} : ∀ {l₁ : List α} {l₂ : List β}, Paired F l₁ l₂ → ∀ {i : Nat} {a : α}, l₁[i]? = some a → ∃ b, l₂[i]? = some b ∧ F a b
  | _, _, .nil, i, a, h => by simp at h
  | _, _, .cons h t, 0, a, e => by simp at e; subst e; exact ⟨_, rfl, h⟩
  | _, _, .cons h t, i + 1, a, e => by simp at e; exact pget t (by simpa using e)

theorem pmono {α β : Type} {F G : α → β → Prop} (h : ∀ a b, F a b → G a b) : ∀ {l₁ : List α} {l₂ : List β}, Paired F l₁ l₂ → Paired G l₁ l₂
  | _, _, .nil => .nil
  | _, _, .cons a t => .cons (h _ _ a) (pmono h t)

theorem pappend {α β : Type} {F : α → β → Prop} : ∀ {l₁ : List α} {l₂ : List β} {m₁ : List α} {m₂ : List β}, Paired F l₁ l₂ → Paired F m₁ m₂ → Paired F (l₁ ++ m₁) (l₂ ++ m₂)
  | _, _, _, _, .nil, h => h
  | _, _, _, _, .cons a t, h => .cons a (pappend t h)

theorem prev {α β : Type} {F : α → β → Prop} : ∀ {l₁ : List α} {l₂ : List β}, Paired F l₁ l₂ → Paired F l₁.reverse l₂.reverse
  | _, _, .nil => .nil
  | _, _, .cons a t => by rw [List.reverse_cons, List.reverse_cons]; exact (prev t).snoc a

theorem exec_mid {w : World} {A : Around} {E : Value → Shared → Prop} {s : Shared} {env : Env} {st : Stmt} {Q : Flow → Shared → Prop} (P : Shared → Prop) (h1 : ∀ K : Flow → Shared → Prop, (∀ s', P s' → K .next s') → wpAny (model PG w) A (exec st env) K E s) (h2 : ∀ s', P s' → Q .next s') :
    wpAny (model PG w) A (exec st env) Q E s := h1 Q h2
section
variable {prog : Program} {w : World} {A : Around} {E : Value → Shared → Prop} {s : Shared}

theorem fields3 {sl : Addr} {a b c : Value} {Q : Value × Value × Value → Shared → Prop} (hs : s.heap.IsSliceOf sl a b c) (h : Q (a, b, c) s) : wpAny (model prog w) A (Builtin.Slice.sliceFields (.ref sl)) Q E s :=
  let ⟨_, e, _, d⟩ := hs
  wpAny_bind (wpAny_field e d rfl (wpAny_bind (wpAny_field e d rfl (wpAny_bind (wpAny_field e d rfl (wpAny_pure h))))))

/-- [:1] of something longer: from 0, one place -/
theorem head_one {sl : Addr} {n : Nat} {u : Tok} {Q : Int × Int × Nat → Shared → Prop} (hs : s.heap.IsSliceOf sl .none (.int 1 u) .none) (hn : 1 < n) (h : Q (0, 1, 1) s) :
    wpAny (model prog w) A (Builtin.Slice.sliceApplied (.ref sl) (pure (n : Int))) Q E s := by
  have e : Builtin.Slice.sliceAdjust none (some 1) 1 (n : Int) = (0, 1) := by
    have h1 : min (1 : Int) n = 1 := by omega
    exact Prod.ext rfl h1
  refine wpAny_bind (fields3 hs (wpAny_bind (slicePart_none ?_)))
  refine wpAny_ite_false (by decide) (wpAny_bind (slicePart_none (wpAny_bind (slicePart_int (wpAny_bind (wpAny_pure ?_))))))
  rw [show Option.getD none (1 : Int) = 1 from rfl, e]
  exact wpAny_pure h

/-- a tuple's first place as a tuple -/
theorem tuple_head {t sl : Addr} {x : Value} {vs : List Value} {u : Tok} {Q : Value → Shared → Prop} (ht : IsTup s.heap t (x :: vs).toArray) (hs : s.heap.IsSliceOf sl .none (.int 1 u) .none) (hne : vs ≠ [])
    (h : Q (.ref s.heap.objs.size) { s with heap := s.heap.push { cls := .type "tuple", data := .seq [x].toArray } }) : wpAny (model prog w) A (getItem (.ref t) (.ref sl)) Q E s := by
  have hl : 1 < (x :: vs).toArray.size := by
    cases vs with
    | nil => exact absurd rfl hne
    | cons _ _ => exact Nat.succ_lt_succ (Nat.succ_pos _)
  have hT : s.TypeIs (.ref sl) "slice" := let ⟨o, e, c, _⟩ := hs; ⟨o, e, c⟩
  have made : wpAny (model prog w) A.in1 (Builtin.«tuple.__getitem__» ⟨[.ref t, .ref sl], []⟩) (fun fin s' => ∃ v, fin = .done (.ret v) ∧ Q v s') E s := by
    refine wpAny_bind (wpAny_pure (wpAny_bind (tupleItemsOf_ ht ?_)))
    refine wpAny_bind (wpAny_typeOf hT ?_)
    rw [if_pos (show (Value.type "slice" == Value.type "slice") = true from rfl)]
    refine wpAny_bind (head_one hs hl ?_)
    refine wpAny_ite_false (by simp; omega) ?_
    refine wpAny_bind (m := Builtin.Tuple.tupleExact _) (wpAny_newObj_type ?_ (show (1 : Nat) ≤ sizeLine by decide +kernel))
    exact wpAny_pure ⟨_, rfl, h⟩
  unfold getItem
  refine wpAny_holding (wpAny_bind (wpAny_sequenceKey ht.typeIs (by decide) ?_))
  refine wpAny_bind (wpAny_callSpecial?_slot ht.typeIs slot_tuple_getitem (wpAny_call_entry slot_tuple_getitem ht.typeIs entry_tuple_getitem ?_ (args_tuple_getitem _ _)))
  exact wpAny_mono made (fun fin s' ⟨v, e, q⟩ => ⟨v, e, wpAny_pure q⟩) fun _ _ e => e
end

section
variable {w : World} {A : Around} {E : Value → Shared → Prop} {s : Shared} {g h : Heap} {tk : TD} {L : Addr} {l l' : List (Str × Value)} {nw nw' : List (Addr × Obj)} {env : Env} {x : Str} {v : Value} {pos : Pos} {Q : Value → Shared → Prop}

theorem tup_of {a : Addr} {vs : Array Value} (H : h.IsTuple a vs) : IsTup h a vs := H

/-- `row[:1]` of a tuple of two or more. -/
theorem c_upto1 {value e : Expr} {p : Pos}
    (hq : ∀ K : Value → Value → Shared → Prop, (∀ o vu s₂, (∃ g₁ h₁ tk₁ L l₁ nw₁ a, ∃ (y : Value) (vs : List Value), ∃ u, s₂ = SS s h₁ tk₁ ∧ o = .ref a ∧ vu = .int 1 u ∧ St g₁ L h₁ l₁ nw₁ ∧
      g₁.IsTuple a (y :: vs).toArray ∧ vs ≠ [] ∧ ∀ g' h' D, g₁.StaysIn g' → St g' L h' l₁ nw₁ → g'.IsTuple D [y].toArray → Q (.ref D) (SS s h' tk₁)) → K o vu s₂) → wpAny (model PG w) A (eval value env) (fun o s₁ => wpAny (model PG w) A (eval e env) (K o) E s₁) E (SS s h tk))
    (hgo : ∀ o r, letTemporaryGo value o r = pure () := by intro _ _; rfl) :
    wpAny (model PG w) A (eval (.Subscript value (.Slice none (some e) none p) pos) env) Q E (SS s h tk) := by
  refine wpAny_Subscript_Slice (T := "tuple") slot_tuple_getitem.lookup (wpAny_mono (hq _ fun _ _ _ h => h) (fun o s₁ hh₁ => wpAny_Slice (wpAny_evalPart_none (wpAny_mono hh₁ (fun vu s₂ h₂ => wpAny_evalPart_none ?_) fun _ _ e => e))) fun _ _ e => e) hgo
  obtain ⟨g₁, h₁, tk₁, L, l₁, nw₁, a, y, vs, u, rfl, rfl, rfl, S, ht, hne, hq⟩ := h₂
  have S1 := S.push { cls := .type "slice", data := .fields #[.none, .int 1 u, .none] }
  have ht' := isTuple_keeps ht S1.keep
  refine ⟨Heap.IsTuple.typeIs (s := { (SS s h₁ tk₁) with heap := (SS s h₁ tk₁).heap.push _ }) ht', ?_⟩
  refine tuple_head (tup_of ht') (Heap.IsSliceOf.new ..) hne ?_
  obtain ⟨g', k, hg, S2⟩ := ((S.push' { cls := .type "slice", data := .fields #[.none, .int 1 u, .none] }).push { cls := .type "tuple", data := .seq [y].toArray }).freeze
  exact hq g' _ _ k S2 ⟨_, hg, rfl, _, rfl⟩

theorem c_from {value e : Expr} {p : Pos}
    (hq : ∀ K : Value → Value → Shared → Prop, (∀ o vl s₂, (∃ g₁ h₁ tk₁ L l₁ nw₁ a, ∃ (vs : List Value), ∃ (n : Nat), ∃ u, s₂ = SS s h₁ tk₁ ∧ o = .ref a ∧ vl = .int n u ∧ St g₁ L h₁ l₁ nw₁ ∧
      g₁.IsTuple a vs.toArray ∧ 1 ≤ n ∧ n ≤ vs.length ∧ vs.length ≤ 1000 ∧ ∀ g' h' D, g₁.StaysIn g' → St g' L h' l₁ nw₁ → g'.IsTuple D (vs.drop n).toArray → Q (.ref D) (SS s h' tk₁)) → K o vl s₂) → wpAny (model PG w) A (eval value env) (fun o s₁ => wpAny (model PG w) A (eval e env) (K o) E s₁) E (SS s h tk))
    (hgo : ∀ o r, letTemporaryGo value o r = pure () := by intro _ _; rfl) :
    wpAny (model PG w) A (eval (.Subscript value (.Slice (some e) none none p) pos) env) Q E (SS s h tk) := by
  refine wpAny_Subscript_Slice (T := "tuple") slot_tuple_getitem.lookup (wpAny_mono (hq _ fun _ _ _ h => h) (fun o s₁ hh₁ => wpAny_Slice (wpAny_evalPart_some (wpAny_mono hh₁ (fun vu s₂ h₂ => wpAny_evalPart_none (wpAny_evalPart_none ?_)) fun _ _ e => e))) fun _ _ e => e) hgo
  obtain ⟨g₁, h₁, tk₁, L, l₁, nw₁, a, vs, n, u, rfl, rfl, rfl, S, ht, hn1, hn2, hsz, hq⟩ := h₂
  have S1 := S.push { cls := .type "slice", data := .fields #[.int n u, .none, .none] }
  have ht' := isTuple_keeps ht S1.keep
  refine ⟨Heap.IsTuple.typeIs (s := { (SS s h₁ tk₁) with heap := (SS s h₁ tk₁).heap.push _ }) ht', ?_⟩
  refine getItem_tuple_from (tup_of ht') (Heap.IsSliceOf.new ..) hn1 (by simpa using hn2) ?_ (Nat.le_trans (by simpa using hsz) thousand)
  obtain ⟨g', k, hg, S2⟩ := ((S.push' { cls := .type "slice", data := .fields #[.int n u, .none, .none] }).push { cls := .type "tuple", data := .seq (vs.drop n).toArray }).freeze
  exact hq g' _ _ k S2 ⟨_, hg, rfl, _, rfl⟩

theorem c_addT {a b : Addr} {vs ws : List Value} (S : St g L h l nw) (ha : g.IsTuple a vs.toArray) (hb : g.IsTuple b ws.toArray) (h1 : vs ≠ []) (h2 : ws ≠ []) (hz : vs.length + ws.length ≤ 1000)
    (hq : ∀ g' h' D, g.StaysIn g' → St g' L h' l nw → g'.IsTuple D (vs ++ ws).toArray → Q (.ref D) (SS s h' tk)) :
    wpAny (model PG w) A (binaryOp .Add (.ref a) (.ref b)) Q E (SS s h tk) := by
  obtain ⟨m, Fr1, N1, hm⟩ := S.br
  refine add_tuples (s := SS s h tk) Fr1 (N1 [L] (.head _)) (tup_of (isTuple_keeps ha S.keep)) (tup_of (isTuple_keeps hb S.keep)) (fun e => absurd e h1) (fun _ e => absurd e h2) (fun _ _ h' F' N' => ?_) (Nat.le_trans hz thousand)
  have S' := S.unbr F' hm N' (fun p hp => .tail _ hp)
  have e : (SS s h tk).heap.objs.size = h.objs.size := rfl
  have hnew := N' _ (.head _)
  have S'' : St g L h' l ((h.objs.size, { cls := .type "tuple", data := .seq (vs ++ ws).toArray }) :: nw) := by
    refine ⟨S'.ns, S'.keep, S'.off, fun p hp => ?_, ?_⟩
    · rcases List.mem_cons.mp hp with rfl | hp
      · exact ⟨hnew.1, hnew.2.1, S.gnone⟩
      · exact S'.news p hp
    · simp only [List.map_cons, List.nodup_cons]
      refine ⟨fun hq => ?_, S.nd⟩
      obtain ⟨p, hp, e⟩ := List.mem_map.mp hq
      exact absurd (Heap.lt_size (S.news p hp).1) (by rw [e]; exact Nat.lt_irrefl _)
  obtain ⟨g', k, hg, S3⟩ := S''.freeze
  exact hq g' h' _ k S3 ⟨_, hg, rfl, _, rfl⟩

theorem c_itemT {value slice : Expr} {t : Addr} {vs : List Value} {k : Int} {u : Tok} {y : Value} (ht : h.IsTuple t vs.toArray) (h0 : 0 ≤ k) (h1 : k < 1000) (hx : vs[k.toNat]? = some y) (hq : Q y (SS s h tk))
    (hs : subscripted slice false (.ref t) (.int k u) = operate [.ref t, .int k u] (getItem (.ref t) (.int k u)) := by with_unfolding_all rfl) :
    wpAny (model PG w) A (subscriptTail value slice (.ref t) (.int k u)) Q E (SS s h tk) := by
  have hlt : k.toNat < vs.length := by
    rcases Nat.lt_or_ge k.toNat vs.length with h | h
    · exact h
    · rw [List.getElem?_eq_none h] at hx; cases hx
  refine item_tupleT (s := SS s h tk) (tup_of ht) (Int.le_trans (by decide) h0) (Int.lt_trans h1 (by decide)) (j := k.toNat) ?_ hx hq hs
  unfold seqIndex?
  have e1 : (if k < 0 then k + (vs.length : Int) else k) = k := if_neg (Int.not_lt.mpr h0)
  rw [e1]
  show (if (decide (0 ≤ k) && decide (k < (vs.length : Int))) = true then some k.toNat else none) = _
  rw [decide_eq_true h0, decide_eq_true ((Int.toNat_lt h0).mp hlt)]; rfl

theorem c_max {a b : Int} {t u : Tok} (S : St g L h l nw) (hh : A.handled = none) (hq : ∀ h' tk' t, St g L h' l nw → Q (.int (max a b) t) (SS s h' tk')) : wpAny (model PG w) A (call (.builtin "max") [.int a t, .int b u]) Q E (SS s h tk) := by
  obtain ⟨m, Fr1, N1, hm⟩ := S.br
  refine max_two_N (s := SS s h tk) hh Fr1 (N1 [L] (.head _)) fun h' tk' F' N' => ?_
  have e : (if b > a then b else a) = max a b := by
    by_cases h : b > a
    · rw [if_pos h, Int.max_eq_right (Int.le_of_lt h)]
    · rw [if_neg h, Int.max_eq_left (Int.not_lt.mp h)]
  rw [e]
  exact hq h' (tk', tk.2) _ (S.unbr F' hm N' fun _ hp => hp)

theorem c_min {a b : Int} {t u : Tok} (S : St g L h l nw) (hh : A.handled = none) (hq : ∀ h' tk' t, St g L h' l nw → Q (.int (min a b) t) (SS s h' tk')) : wpAny (model PG w) A (call (.builtin "min") [.int a t, .int b u]) Q E (SS s h tk) := by
  obtain ⟨m, Fr1, N1, hm⟩ := S.br
  refine min_two_N (s := SS s h tk) hh Fr1 (N1 [L] (.head _)) fun h' tk' F' N' => ?_
  have e : (if b < a then b else a) = min a b := by
    by_cases h : b < a
    · rw [if_pos h, Int.min_eq_right (Int.le_of_lt h)]
    · rw [if_neg h, Int.min_eq_left (Int.not_lt.mp h)]
  rw [e]
  exact hq h' (tk', tk.2) _ (S.unbr F' hm N' fun _ hp => hp)

theorem c_tupleOf {a : Addr} {vs : List Value} (S : St g L h l nw) (hl : h.IsList a vs.toArray) (hz : vs.length ≤ 1000) (hq : ∀ g' h' D, g.StaysIn g' → St g' L h' l nw → g'.IsTuple D vs.toArray → Q (.ref D) (SS s h' tk)) :
    wpAny (model PG w) A (call (.type "tuple") [.ref a]) Q E (SS s h tk) := by
  refine call_tuple_list (s := SS s h tk) hl (fun h' hk => ?_) (Nat.le_trans (by simpa using hz) thousand)
  obtain ⟨g', k, hg, S2⟩ := ((S.grown hk).push { cls := .type "tuple", data := .seq vs.toArray }).freeze
  exact hq g' _ _ k S2 ⟨_, hg, rfl, _, rfl⟩

theorem asg_tup2 {t : Addr} {a b : Value} {x y : Str} {px py : Pos} {k : Nat} {Q : Unit → Shared → Prop} (S : St g L h l nw) (hh : A.handled = none) (ht : g.IsTuple t [a, b].toArray)
    (hq : ∀ h', St g L h' l nw → wpAny (model PG w) A (storeName env x a) (fun _ s₁ => wpAny (model PG w) A (storeName env y b) Q E s₁) E (SS s h' tk)) :
    wpAny (model PG w) A (assign (.Tuple [.Name x px, .Name y py] k pos) env (.ref t)) Q E (SS s h tk) := by
  refine wpAny_assign_Tuple (s := SS s h tk) hh (isTuple_keeps ht S.keep) rfl rfl fun h' hk => ?_
  have S' := S.grown (h' := h') (fun b o e => hk b o (Nat.ne_of_lt (Heap.lt_size e)) e)
  show wpAny _ A (assignInOrder [assign (.Name x px) env, assign (.Name y py) env] [a, b]) _ _ _
  unfold assignInOrder
  refine wpAny_bind (wpAny_holding (wpAny_assign_Name (wpAny_mono (hq h' S') (fun _ s₁ h₁ => ?_) fun _ _ e => e)))
  unfold assignInOrder
  refine wpAny_bind (wpAny_holding (wpAny_assign_Name (wpAny_mono h₁ (fun _ s₂ h₂ => ?_) fun _ _ e => e)))
  unfold assignInOrder
  exact wpAny_pure h₂
end
section
variable {w : World} {A : Around} {E : Value → Shared → Prop} {s : Shared} {g h : Heap} {tk : TD} {L : Addr} {l l' : List (Str × Value)} {nw nw' : List (Addr × Obj)} {env : Env} {x : Str} {v : Value} {pos : Pos} {Q : Value → Shared → Prop}

theorem St.more {g h : Heap} {L a : Addr} {o : Obj} {l : List (Str × Value)} {nw : List (Addr × Obj)} (S : St g L h l nw) (e : h.get? a = some o) (hL : a ≠ L) (hg : g.get? a = none) (hn : ∀ p ∈ nw, p.1 ≠ a) : St g L h l ((a, o) :: nw) :=
  ⟨S.ns, S.keep, S.off, fun p hp => by
    rcases List.mem_cons.mp hp with rfl | hp
    · exact ⟨e, hL, hg⟩
    · exact S.news p hp, by
    simp only [List.map_cons, List.nodup_cons]
    refine ⟨fun hq => ?_, S.nd⟩
    obtain ⟨p, hp, e⟩ := List.mem_map.mp hq
    exact hn p hp e⟩

theorem call_fnC1 {name qual : Str} {params : Arguments} {body : List Stmt} {scope : Scope} {dV kV doc pm cdv ct oc : Value} {an od : Option Addr} {osl : Array (Option Value)} {f : Addr} {args : List Value} {binds lb : List (Str × Value)} {cn : Str} {cv : Value}
    (S : St g L h l nw) (C : Cx w g)
    (ho : (KK w.params).lookup f = some ⟨oc, od, .func (fnOf name qual params body scope dV kV doc pm an cdv ct), osl⟩) (hcd : codeIn (KK w.params) cdv qual = true) (hroom : A.depth < recursionLimit)
    (hbind : bindArgs (fnOf name qual params body scope dV kV doc pm an cdv ct) ⟨args, []⟩ = pure binds) (hcs : ∀ n, cellsFrom n scope.names [] = [(cn, n)])
    (hkind : ∀ x ∈ binds, scope.names.lookup x.1 = some .local ∨ (scope.names.lookup x.1 = some .cell ∧ x.1 = cn))
    (hv : bindC (fun x => scope.names.lookup x) binds (fun _ => none) cn = some cv) (hl : ∀ p ∈ lb, bindL (fun x => scope.names.lookup x) binds (fun _ => none) p.1 = some p.2)
    (hq : ∀ L' oL h₁ tk₁ g' (K : Flow → Shared → Prop), (∀ v s', Back g' L L' oL l Q v s' → K (.ret v) s') → g.StaysIn g' → St g' L' h₁ lb ((L, oL) :: nw) → g'.IsCell (L' + 1) (some cv) →
      wpAny (model PG w) (A.deeper (envOfC qual scope L' f cdv)) (execs body (envOfC qual scope L' f cdv)) K (fun _ _ => False) (SS s h₁ tk₁))
    (hco : scope.isCoroutine = false := by rfl) (hgen : scope.isGenerator = false := by rfl) (hk : scope.kind = .function := by rfl) :
    wpAny (model PG w) A (call (.ref f) args []) Q E (SS s h tk) := by
  refine wpAny_call ?_
  refine codeAny_call_cells (fd := fnOf name qual params body scope dV kV doc pm an cdv ct) (body := body) (binds := binds) hroom ((C.X.keeps S.keep) _ _ ho) rfl (C.NL.keeps S.keep) (codeRec_of (C.X.keeps S.keep) hcd) rfl hbind rfl
    (fun x hx => (hkind x hx).imp id fun ⟨a, b⟩ => ⟨a, by show (List.lookup x.1 (cellsFrom _ scope.names [])).isSome = true; rw [hcs, b]; simp⟩) (fun s₁ I => ?_) hco hgen hk
  obtain ⟨⟨⟨h₁, tk₁, rfl⟩, hns, hkeep, -⟩, hcell, -, -⟩ := I
  have hic : h₁.IsCell (h.objs.size + 1) (some cv) := by
    have := hcell cn (h.objs.size + 1) (by show List.lookup cn (cellsFrom (h.objs.size + 1) scope.names []) = _; rw [hcs]; simp)
    exact hv ▸ this
  obtain ⟨oc', hoc, hod⟩ := hic
  have fresh : ∀ a, h.objs.size ≤ a → h.get? a = none := fun a ha => by
    cases e : h.get? a with
    | none => rfl
    | some o' => exact absurd (Heap.lt_size e) (Nat.not_lt.mpr ha)
  obtain ⟨oL, hF, S₁⟩ := St.enter (binds := lb) S (fresh _ (Nat.le_refl _)) hns hl hkeep
  have S₂ := S₁.more hoc (Nat.succ_ne_self _) (by
    cases e : g.get? (h.objs.size + 1) with
    | none => rfl
    | some o => have := S.keep _ _ e; rw [fresh _ (Nat.le_succ _)] at this; cases this) (fun p hp q => by
      rcases List.mem_cons.mp hp with rfl | hp
      · have h1 : L < h.objs.size := S.lt
        have h2 : L = h.objs.size + 1 := q
        rw [h2] at h1; exact absurd h1 (Nat.not_lt.mpr (Nat.le_succ _))
      · have h1 : p.1 < h.objs.size := Heap.lt_size (S.news p hp).1
        have h2 : p.1 = h.objs.size + 1 := q
        rw [h2] at h1; exact absurd h1 (Nat.not_lt.mpr (Nat.le_succ _)))
  obtain ⟨g', k, hg', S₃⟩ := S₂.freeze
  refine wpAny_mono (hq _ oL h₁ (tk₁, tk.2) g' (fun fl s' => Back g' L h.objs.size oL l Q (match fl with | .ret v => v | _ => .none) s') (fun _ _ h => h) k S₃ ⟨oc', hg', hod⟩) (fun fl s' hb => ?_) fun _ _ f => f.elim
  obtain ⟨g'', l'', nw', _, S', k⟩ := hb
  refine k ?_
  obtain ⟨oC, _, S''⟩ := S'.switch hF
  exact S''.sub (List.sublist_cons_self _ _)
end
def Rs (xs : Array Nat) : Prop := ∀ i j (hi : i < xs.size) (hj : j < xs.size), i < j → xs[i] < xs[j]

theorem mid_in {lo hi : Nat} (h : lo < hi) : lo ≤ (lo + hi) / 2 ∧ (lo + hi) / 2 < hi := by omega

theorem mid_less {lo m hi fuel : Nat} (h1 : lo ≤ m) (h2 : m < hi) (h3 : hi - lo ≤ fuel + 1) : hi - (m + 1) ≤ fuel ∧ m - lo ≤ fuel :=
  ⟨Nat.le_of_lt_succ (Nat.lt_of_lt_of_le (Nat.sub_lt_sub_left (Nat.lt_of_le_of_lt h1 h2) (Nat.lt_succ_of_le h1)) h3), Nat.le_of_lt_succ (Nat.lt_of_lt_of_le (Nat.sub_lt_sub_right h1 h2) h3)⟩

theorem below_go {xs : Array Nat} (R : Rs xs) (j : Nat) : ∀ (fuel lo hi : Nat), hi ≤ xs.size → lo ≤ hi → hi - lo ≤ fuel → (∀ i (h : i < xs.size), i < lo → xs[i] < j) → (∀ i (h : i < xs.size), hi ≤ i → j ≤ xs[i]) →
    SetTable.below.go xs j fuel lo hi ≤ xs.size ∧ (∀ i (h : i < xs.size), i < SetTable.below.go xs j fuel lo hi → xs[i] < j) ∧ (∀ i (h : i < xs.size), SetTable.below.go xs j fuel lo hi ≤ i → j ≤ xs[i])
  | 0, lo, hi, h1, h2, h3, h4, h5 => by
    unfold SetTable.below.go
    have := Nat.le_antisymm h2 (Nat.le_of_sub_eq_zero (Nat.le_zero.mp h3))
    subst this
    exact ⟨h1, h4, h5⟩
  | fuel + 1, lo, hi, h1, h2, h3, h4, h5 => by
    unfold SetTable.below.go
    split
    · rename_i hlt
      obtain ⟨m1, m2⟩ := mid_in hlt
      obtain ⟨f1, f2⟩ := mid_less m1 m2 h3
      have hm : (lo + hi) / 2 < xs.size := Nat.lt_of_lt_of_le m2 h1
      have hg : xs.getD ((lo + hi) / 2) j = xs[(lo + hi) / 2] := by simp [Array.getD, hm]
      dsimp only
      rw [hg]
      split
      · rename_i hx
        refine below_go R j fuel _ _ h1 m2 f1 (fun i h hi' => ?_) h5
        rcases Nat.lt_or_ge i ((lo + hi) / 2) with h' | h'
        · exact Nat.lt_trans (R i _ h hm h') hx
        · cases Nat.le_antisymm (Nat.le_of_lt_succ hi') h'; exact hx
      · rename_i hx
        refine below_go R j fuel _ _ (Nat.le_of_lt hm) m1 f2 h4 (fun i h hi' => ?_)
        rcases Nat.lt_or_ge ((lo + hi) / 2) i with h' | h'
        · exact Nat.le_trans (Nat.le_of_not_lt hx) (Nat.le_of_lt (R _ i hm h h'))
        · cases Nat.le_antisymm h' hi'; exact Nat.le_of_not_lt hx
    · rename_i hlt
      have := Nat.le_antisymm h2 (Nat.le_of_not_lt hlt)
      subst this
      exact ⟨h1, h4, h5⟩

theorem below_spec {xs : Array Nat} (R : Rs xs) (j : Nat) :
    SetTable.below xs j ≤ xs.size ∧ (∀ i (h : i < xs.size), i < SetTable.below xs j → xs[i] < j) ∧ (∀ i (h : i < xs.size), SetTable.below xs j ≤ i → j ≤ xs[i]) :=
  below_go R j _ _ _ (Nat.le_refl _) (Nat.zero_le _) (by omega) (fun _ _ h => absurd h (Nat.not_lt_zero _)) (fun _ h h' => absurd h (Nat.not_lt.mpr h'))

theorem Rs_iff {xs : Array Nat} : Rs xs ↔ xs.toList.Pairwise (· < ·) := by
  rw [List.pairwise_iff_getElem]
  constructor
  · intro R i j hi hj hij
    have := R i j (by simpa using hi) (by simpa using hj) hij
    simpa using this
  · intro R i j hi hj hij
    have := R i j (by simpa using hi) (by simpa using hj) hij
    simpa using this

theorem Rs_insert {xs : Array Nat} (R : Rs xs) {j : Nat} (hj : xs[SetTable.below xs j]? ≠ some j) : Rs (SetTable.insertAt xs (SetTable.below xs j) j) := by
  obtain ⟨h1, h2, h3⟩ := below_spec R j
  generalize SetTable.below xs j = p at h1 h2 h3 hj
  rw [Rs_iff, SetTable.toList_insertAt]
  have hP := Rs_iff.mp R
  have e := List.take_append_drop p xs.toList
  rw [← e] at hP
  obtain ⟨a, b, c⟩ := List.pairwise_append.mp hP
  have low : ∀ x ∈ xs.toList.take p, x < j := fun x hx => by
    obtain ⟨i, hi, rfl⟩ := List.mem_take_iff_getElem.mp hx
    have := h2 i (by have := hi; simp at this; omega) (by have := hi; simp at this; omega)
    simpa using this
  have high : ∀ x ∈ xs.toList.drop p, j < x := fun x hx => by
    obtain ⟨i, hi, rfl⟩ := List.mem_drop_iff_getElem.mp hx
    have hi' : p + i < xs.size := by have := hi; simp at this; omega
    have h4 := h3 (p + i) hi' (Nat.le_add_right _ _)
    have h5 : xs[p + i] ≠ j := by
      intro q
      rcases Nat.eq_zero_or_pos i with rfl | hi0
      · exact hj (by rw [← q]; simp)
      · have h6 := R p (p + i) (by omega) hi' (by omega)
        have h7 := h3 p (by omega) (Nat.le_refl _)
        omega
    have : xs.toList[p + i] = xs[p + i] := by simp
    rw [this]; omega
  refine List.pairwise_append.mpr ⟨a, List.pairwise_cons.mpr ⟨high, b⟩, fun x hx y hy => ?_⟩
  rcases List.mem_cons.mp hy with rfl | hy
  · exact low x hx
  · exact c x hx y hy

theorem Rs_range (n : Nat) : Rs (Array.range n) := by
  intro i j hi hj hij
  simpa using hij

theorem slot_free {t : SetTable} {j : Nat} (h : ∀ i, t.slot j ≠ .live i) : t.place[SetTable.below t.place j]? ≠ some j := by
  intro e
  refine h (SetTable.below t.place j) ?_
  unfold SetTable.slot
  simp [e]

theorem probe_go {t : SetTable} {f : Nat → Int} {h : Int} : ∀ (fuel : Nat) (p : SetTable.Probe) {j : Nat} {d : Option Nat}, (∀ x, p.dummy = some x → ∀ i, t.slot x ≠ .live i) → SetTable.probe.go t f h fuel p = some (.empty j d) →
    (∀ i, t.slot j ≠ .live i) ∧ ∀ x, d = some x → ∀ i, t.slot x ≠ .live i
  | 0, p, j, d, _, e => by unfold SetTable.probe.go at e; cases e
  | fuel + 1, p, j, d, hp, e => by
    unfold SetTable.probe.go at e
    split at e
    · rename_i hs
      cases e
      exact ⟨fun i q => (by rw [hs] at q; cases q), hp⟩
    · rename_i hs
      refine probe_go fuel _ (fun x hx i => ?_) e
      have : x = p.j := by
        unfold SetTable.advance at hx
        split at hx <;> simp at hx <;> exact hx.symm
      rw [this, hs]; exact fun q => by cases q
    · split at e
      · cases e
      · refine probe_go fuel _ (fun x hx => hp x ?_) e
        unfold SetTable.advance at hx
        split at hx <;> simpa using hx

theorem freeSlot_free {t : SetTable} {h : Int} {j : Nat} {b : Bool} (e : t.freeSlot h = some (j, b)) : t.place[SetTable.below t.place j]? ≠ some j := by
  unfold SetTable.freeSlot at e
  split at e
  · rename_i j' d hp
    obtain ⟨h1, h2⟩ := probe_go _ _ (fun x hx => by simp [SetTable.probeStart] at hx) hp
    cases d with
    | none => simp at e; rw [← e.1]; exact slot_free h1
    | some x => simp at e; rw [← e.1]; exact slot_free (h2 x rfl)
  · cases e

theorem layNew_rs {t : SetTable} {es : Array (Int × Value)} {h : Int} {x : Value} (R : Rs t.place) : Rs (layNew t es h x).2.1.place := by
  unfold layNew
  split
  · rename_i slot wd e
    have hf := freeSlot_free e
    show Rs (SetTable.orStandIn _ _).place
    unfold SetTable.orStandIn
    split
    · exact Rs_insert R hf
    · exact Rs_range _
  · exact Rs_range _

theorem layNew_led {t : SetTable} {es : Array (Int × Value)} {h : Int} {x : Value} : (layNew t es h x).2.1.led = t.led := by
  unfold layNew
  split
  · show (SetTable.orStandIn _ _).led = _
    unfold SetTable.orStandIn
    split <;> rfl
  · rfl

theorem laid_rs {mask finger moves : Nat} {led plain : Bool} {hs : Array Int} {r : SetTable × Array Nat} (e : SetTable.laid mask finger moves led plain hs = some r) : Rs r.1.place ∧ r.1.led = led := by
  unfold SetTable.laid at e
  obtain ⟨owner, _, e⟩ := Option.bind_eq_some_iff.mp e
  cases e
  refine ⟨?_, rfl⟩
  rw [Rs_iff]
  show (List.map (fun x : Nat × Nat => x.1) (List.filterMap (fun j => Option.map (fun x => (j, x)) (owner.getD j none)) (List.range (mask + 1)))).Pairwise (· < ·)
  rw [List.pairwise_map]
  refine List.Pairwise.filterMap _ (R := (· < ·)) (fun a b hab x hx y hy => ?_) (List.pairwise_lt_range)
  obtain ⟨u, _, rfl⟩ := Option.map_eq_some_iff.mp hx
  obtain ⟨v, _, rfl⟩ := Option.map_eq_some_iff.mp hy
  exact hab

theorem relayAll_rs {t : SetTable} {es : Array (Int × Value)} {wanted : Nat} : Rs (relayAll t es wanted).2.1.place ∧ (relayAll t es wanted).2.1.led = t.led := by
  unfold relayAll
  split
  · rename_i t' order e
    dsimp only
    split
    · exact laid_rs e
    · exact ⟨Rs_range _, rfl⟩
  · exact ⟨Rs_range _, rfl⟩
def ledOf (w : World) : Bool := !w.params.followText "set-order"

/-- the int that a value is (0 where it is none) -/
def ival : Value → Int
  | .int n _ => n
  | _ => 0

/-- a list of ints with one more, if it is not there yet -/
def put (σ : List Int) (k : Int) : List Int := if k ∈ σ then σ else σ ++ [k]

theorem put_facts : ∀ (ns σ : List Int), σ.Nodup → (ns.foldl put σ).Nodup ∧ (∀ k, k ∈ ns.foldl put σ ↔ k ∈ σ ∨ k ∈ ns) ∧ (ns.foldl put σ).length ≤ σ.length + ns.length
  | [], σ, h => ⟨h, fun k => ⟨.inl, fun h => h.elim id (nomatch ·)⟩, Nat.le_refl _⟩
  | n :: ns, σ, h => by
    rw [List.foldl_cons, List.length_cons]
    by_cases hn : n ∈ σ
    · have e : put σ n = σ := if_pos hn
      rw [e]
      obtain ⟨a, b, c⟩ := put_facts ns σ h
      refine ⟨a, fun k => (b k).trans ⟨fun h => h.imp id (.tail _), fun h => h.elim .inl fun h => ?_⟩, by omega⟩
      rcases List.mem_cons.mp h with rfl | h
      · exact .inl hn
      · exact .inr h
    · have e : put σ n = σ ++ [n] := if_neg hn
      rw [e]
      obtain ⟨a, b, c⟩ := put_facts ns (σ ++ [n]) (List.nodup_append.mpr ⟨h, (List.nodup_cons.mpr ⟨List.not_mem_nil, .nil⟩), fun x hx y hy q => hn (by rw [← List.mem_singleton.mp hy, ← q]; exact hx)⟩)
      refine ⟨a, fun k => (b k).trans ?_, by rw [List.length_append] at c; exact Nat.le_trans c (by rw [List.length_singleton]; omega)⟩
      rw [List.mem_append, List.mem_singleton, List.mem_cons, or_assoc]

/-- The table of a set of ints: what it holds, up to its order; its places rise; who made it. -/
structure Tab (w : World) (es : Array (Int × Value)) (t : SetTable) (σ : List Int) : Prop where
  el : ElemsOf (intKind PG w) es.toList
  pm : (es.toList.map fun e => ival e.2).Perm σ
  sm : es.size < scanBound
  fit : t.fits es.size = true
  up : Rs t.place
  led : t.led = ledOf w

def setO (es : Array (Int × Value)) (ep : Nat) (t : SetTable) : Obj := { cls := .type "set", dict := none, data := .set es ep t, slots := #[] }

def SGo (w : World) (o : Obj) (σ : List Int) : Prop := ∃ es ep t, o = setO es ep t ∧ Tab w es t σ

def SG (w : World) (h : Heap) (a : Addr) (σ : List Int) : Prop := ∃ o, h.get? a = some o ∧ SGo w o σ

section
variable {w : World} {es : Array (Int × Value)} {t : SetTable} {σ : List Int}

theorem Tab.int (T : Tab w es t σ) {e : Int × Value} (he : e ∈ es.toList) : ∃ u, e.2 = .int (ival e.2) u := by
  obtain ⟨⟨k, hk, _⟩, _⟩ := T.el e he
  obtain ⟨u, hu⟩ := Value.isInt_shape hk
  exact ⟨u, by rw [hu]; rfl⟩

theorem Tab.has (T : Tab w es t σ) (k : Int) : k ∈ σ ↔ ∃ e ∈ es.toList, (intKind PG w).is k e.2 = true := by
  rw [← T.pm.mem_iff, List.mem_map]
  constructor
  · rintro ⟨e, he, rfl⟩
    obtain ⟨u, hu⟩ := T.int he
    exact ⟨e, he, by rw [hu]; exact intKind_is _ _ _ _⟩
  · rintro ⟨e, he, hk⟩
    obtain ⟨u, hu⟩ := Value.isInt_shape hk
    exact ⟨e, he, by rw [hu]; rfl⟩

theorem Tab.size (T : Tab w es t σ) : es.size = σ.length := by
  rw [← T.pm.length_eq, List.length_map, Array.length_toList]

theorem Tab.lay (T : Tab w es t σ) (k : Int) (u : Tok) (hr : σ.length + 1 < scanBound) :
    Tab w (layNew t es (hashInt k) (.int k u)).1 (layNew t es (hashInt k) (.int k u)).2.1 (σ ++ [k]) := by
  have p := layNew_perm t es (hashInt k) (.int k u)
  rw [Array.toList_push] at p
  refine ⟨(T.el.push (k := k) (intKind_is _ _ _ _) rfl).perm p, ?_, ?_, layNew_fits t es _ _, layNew_rs T.up, layNew_led.trans T.led⟩
  · refine (p.map _).trans ?_
    rw [List.map_append]
    exact T.pm.append_right _
  · rw [← Array.length_toList, p.length_eq, List.length_append, Array.length_toList, T.size]
    exact hr

theorem Tab.relay (T : Tab w es t σ) (n : Nat) : Tab w (relayAll t es n).1 (relayAll t es n).2.1 σ := by
  have p := relayAll_perm t es n
  refine ⟨T.el.perm p, (p.map _).trans T.pm, ?_, relayAll_fits t es n, relayAll_rs.1, relayAll_rs.2.trans T.led⟩
  rw [← Array.length_toList, p.length_eq, Array.length_toList]
  exact T.sm

variable {A : Around} {E : Value → Shared → Prop} {s : Shared} {a : Addr} {ep : Nat}

/-- a new table goes into the set -/
theorem Tab.store {es' : Array (Int × Value)} {t' : SetTable} {σ' : List Int} {Q : Unit → Shared → Prop} (T : Tab w es' t' σ') (hS : s.heap.get? a = some (setO es ep t))
    (hq : ∀ h', Heap.SameBut a s.heap h' → h'.get? a = some (setO es' (ep + 1) t') → Q () { s with heap := h' }) : wpAny (model PG w) A (storeSet a es' t') Q E s :=
  wpAny_storeSet_of hS rfl (hq _ (Heap.SameBut.update ..) (Heap.get?_update_self (Obj.putSet es' t') hS rfl)) (fits_of_scanBound T.sm)

theorem told {X : Sem Unit} {Q : Unit → Shared → Prop} (hX : X = pure () ∨ ∃ r, X = rule r) (h : Q () s) : wpAny (model PG w) A X Q E s := by
  rcases hX with rfl | ⟨r, rfl⟩
  · exact wpAny_pure h
  · exact wpAny_rule h

theorem both {α : Type} {c : Prop} [Decidable c] {X : Sem Bool} {F : Bool → Sem α} {Q : α → Shared → Prop} (hX : X = pure true) (h : wpAny (model PG w) A (F true) Q E s) : wpAny (model PG w) A (if c then X >>= F else pure true >>= F) Q E s := by
  rw [hX, ite_self]
  exact wpAny_bind (wpAny_pure h)

/-- one int goes into a set of ints -/
theorem SG_add {k : Int} {u : Tok} {Q : Bool → Shared → Prop} (hS : SG w s.heap a σ) (hr : σ.length + 1 < scanBound)
    (hq : ∀ b h', Heap.SameBut a s.heap h' → SG w h' a (put σ k) → Q b { s with heap := h' }) : wpAny (model PG w) A (setAddHashed a (.int k u) (hashInt k)) Q E s := by
  obtain ⟨_, hS, es, ep, t, rfl, T⟩ := hS
  unfold setAddHashed setAddHashedIn
  refine wpAny_holding (wpAny_bind (wpAny_setState_of hS rfl T.fit ?_))
  show wpAny _ _ (if byScan (.int k u) es = true then _ else _) _ _ _
  rw [if_pos (byScan_of (knd := intKind PG w) rfl T.sm T.el)]
  refine wpAny_bind (wpAny_bind (wpAny_rule (wpAny_bind (wpAny_setScan_of (knd := intKind PG w) (k := k) (intKind_is _ _ _ _) hS rfl T.fit T.el ?_))))
  cases hf : es.toList.findIdx? (fun e => (intKind PG w).is k e.2) with
  | some j =>
    have hm : k ∈ σ := by
      obtain ⟨hj, hp, _⟩ := List.findIdx?_eq_some_iff_getElem.mp hf
      exact (T.has k).mpr ⟨_, List.getElem_mem hj, hp⟩
    refine wpAny_pure (wpAny_pure (hq _ s.heap (.refl a _) ?_))
    rw [show put σ k = σ from if_pos hm]
    exact ⟨_, hS, es, ep, t, rfl, T⟩
  | none =>
    have hm : k ∉ σ := fun hm => by
      obtain ⟨e, he, hk⟩ := (T.has k).mp hm
      have := List.findIdx?_eq_none_iff.mp hf e he
      rw [hk] at this; cases this
    rw [show put σ k = σ ++ [k] from if_neg hm] at hq
    have T₁ := T.lay k u hr
    dsimp only
    generalize layNew t es (hashInt k) (.int k u) = N at T₁ ⊢
    obtain ⟨es₁, t₁, dummy, gave⟩ := N
    refine wpAny_bind (told (by cases gave; exact .inl rfl; exact .inr ⟨_, rfl⟩) ?_)
    dsimp only at T₁ ⊢
    refine both rfl ?_
    rw [if_pos rfl]
    refine wpAny_bind (T₁.store hS fun h₁ s₁ g₁ => ?_)
    split
    · have T₂ := T₁.relay (SetTable.grown es₁.size)
      generalize relayAll t₁ es₁ (SetTable.grown es₁.size) = N at T₂ ⊢
      obtain ⟨es₂, t₂, gave⟩ := N
      refine wpAny_bind (told (by cases gave; exact .inl rfl; exact .inr ⟨_, rfl⟩) ?_)
      exact wpAny_bind (T₂.store (s := { s with heap := h₁ }) g₁ fun h₂ s₂ g₂ => wpAny_pure (wpAny_pure (hq true h₂ (s₁.trans s₂) ⟨_, g₂, _, _, _, rfl, T₂⟩)))
    · exact wpAny_pure (wpAny_pure (hq true h₁ s₁ ⟨_, g₁, _, _, _, rfl, T₁⟩))
end
theorem SG.keep {w : World} {h h' : Heap} {a : Addr} {σ : List Int} (hS : SG w h a σ) (k : ∀ o, h.get? a = some o → h'.get? a = some o) : SG w h' a σ :=
  let ⟨o, e, r⟩ := hS
  ⟨o, k o e, r⟩

section
variable {w : World} {A : Around} {E : Value → Shared → Prop} {S I l : Addr} {vs : List Value} {ns : List Int}

/-- the loop of set(xs), by the ints that are still to come -/
theorem set_fill {R : Result → Shared → Prop} (hh : A.handled = none) (hi : IntsAre vs ns) (hSI : S ≠ I) (hSl : S ≠ l) (hIl : I ≠ l) :
    ∀ (r : List Int) (i : Nat) (σ : List Int) (s : Shared), ns.drop i = r → σ.length + r.length < 4000 → s.heap.IsListIter I l i → s.heap.IsList l vs.toArray → SG w s.heap S σ →
      (∀ h' tk, (∀ b o, b ≠ S → b ≠ I → s.heap.get? b = some o → h'.get? b = some o) → SG w h' S (r.foldl put σ) → R (.ok (.ret .none)) { s with heap := h', toks := tk }) →
      codeAny (model PG w) A (.builtin "set.update.loop" ⟨[.ref S, .ref I], []⟩) R s
  | r, i, σ, s, hr, hb, hI, hl, hS, hR => by
    refine codeAny_builtin PyProof.Rows.F.entry_set_update_loop ?_
    rw [Around.under_plainId PyProof.Rows.F.plain_set_update_loop _]
    show wpAny _ _ (pyNext (.ref I) >>= _) _ _ s
    have hvn : vs.length = ns.length := IntsAre.length hi
    match r, hr, hb, hR with
    | [], hr, _, hR =>
      have hlen : ns.length ≤ i := by simpa using hr
      refine wpAny_bind (wpAny_pyNext_list_end (A := A.in1) hh hI hl (by simp; omega) fun h₁ k₁ => wpAny_pure ?_)
      exact hR h₁ s.toks (fun b o _ hb e => k₁ b o hb e) (hS.keep fun o e => k₁ S o hSI e)
    | k :: r, hr, hb, hR =>
      have hlt : i < ns.length := by
        rcases Nat.lt_or_ge i ns.length with h | h
        · exact h
        · rw [List.drop_eq_nil_of_le h] at hr; cases hr
      rw [List.drop_eq_getElem_cons hlt] at hr
      injection hr with hk hr
      have hlt' : i < vs.length := by omega
      obtain ⟨n, u, hv, hn⟩ := hi.at i vs[i] (List.getElem?_eq_getElem hlt')
      have hn' : n = k := by rw [List.getElem?_eq_getElem hlt, hk] at hn; exact (Option.some.inj hn).symm
      subst hn'
      refine wpAny_bind (wpAny_pyNext_list_item hI hl (x := .int n u) (by simp [hlt', hv]) fun h₁ hI₁ k₁ => ?_)
      show wpAny _ _ (holding [Value.int n u] (setAdd S (.int n u)) >>= _) _ _ _
      have k₁ := k₁.extBut
      refine wpAny_bind (wpAny_holding (wpAny_holding (wpAny_bind ((intKind PG w).pyHash (k := n) (intKind_is _ _ _ _) ?_))))
      rw [List.length_cons] at hb
      refine SG_add (s := { s with heap := h₁, toks := s.toks + 1 }) (hS.keep fun o e => k₁ S o hSI e) (by unfold scanBound; omega) fun b h₂ k₂ S₂ => ?_
      have k₂ := k₂.extBut
      have hput : (put σ n).length ≤ σ.length + 1 := by unfold put; split <;> simp
      obtain ⟨oI, eI, cI⟩ := hI₁
      obtain ⟨ol, el, cl⟩ := hl
      refine wpAny_pure ⟨plainId_quiet PyProof.Rows.F.plain_set_update_loop _, set_fill hh hi hSI hSl hIl r (i + 1) (put σ n) _ hr (by omega) ⟨oI, k₂ I oI (Ne.symm hSI) eI, cI⟩ ⟨ol, k₂ l ol (Ne.symm hSl) (k₁ l ol (Ne.symm hIl) el), cl⟩ S₂ fun h' tk hk hS' => ?_⟩
      exact hR h' tk (fun b o hb hb' e => hk b o hb hb' (k₂ b o hb (k₁ b o hb' e))) hS'

variable {s : Shared}

/-- the object that set.__new__ makes -/
def newS (w : World) : Obj := setO #[] 0 (.fresh 0 0 (ledOf w))

theorem SG_new {h : Heap} {a : Addr} (e : h.get? a = some (newS w)) : SG w h a [] :=
  ⟨_, e, _, _, _, rfl, fun _ he => (nomatch he), .refl _, by unfold scanBound; decide, rfl, fun _ _ hi => absurd hi (Nat.not_lt_zero _), rfl⟩

theorem set_new {v : Value} {Q : Value → Shared → Prop} (hq : Q (.ref s.heap.objs.size) { s with heap := s.heap.push (newS w) }) :
    codeAny (model PG w) A (.call (.builtin "set.__new__") ⟨[.type "set", v], []⟩) (wants Q E) s := by
  refine codeAny_call_builtin PySem.F.plain_set_new PySem.F.entry_set_new (wpAny_of_eq (PySem.F.newCall_set_1 v) ?_)
  have hsub := sub_set_self
  unfold Builtin.«set.__new__» Builtin.Frozenset.newClass newSet
  cases s
  wp_walk
  refine wpAny_askSetting (wpAny_pure ?_)
  exact wpAny_newObj_type (wpAny_pure hq)

/-- set.__init__ of a list of ints -/
theorem set_init {R : Value → Shared → Prop} (hh : A.handled = none) (hl : s.heap.IsList l vs.toArray) (hi : IntsAre vs ns) (hn : ns.length < 4000) (hS : s.heap.get? S = some (newS w)) (hSl : S ≠ l)
    (hR : ∀ h' tk, (∀ b o, b ≠ S → s.heap.get? b = some o → h'.get? b = some o) → SG w h' S (ns.foldl put []) → R .none { s with heap := h', toks := tk }) :
    wpAny (model PG w) A.in1 (Builtin.«set.__init__» ⟨[.ref S, .ref l], []⟩) (fun fin s' => match fin with | .done f => wants R E (.ok f) s' | .again c' => c'.quiet = true ∧ codeAny (model PG w) A c' (wants R E) s') (fun e s' => wants R E (.error e) s') s := by
  have hT : s.TypeIs (.ref S) "set" := ⟨_, hS, rfl⟩
  have e1 := PySem.F.sub_list_set
  have e2 := PySem.F.sub_list_frozenset
  have e3 : (Value.type "list" == Value.type "dict") = false := rfl
  have hl₀ := hl
  obtain ⟨⟨_, dct, _, slt⟩, hl, rfl, n, rfl⟩ := hl
  have hlt : l < s.heap.objs.size := Heap.lt_size hl
  have hS₀ := hS
  unfold newS setO at hS
  unfold Builtin.«set.__init__» noKeywords Builtin.Frozenset.updateFrom
  generalize hP : pyIter = P
  wp_walk
  subst hP
  refine wpAny_pyIter_list hl₀ (wpAny_bind (wpAny_runValue ?_))
  have hSlt : S < s.heap.objs.size := Heap.lt_size hS
  refine set_fill (A := A.in1) hh hi (Nat.ne_of_lt hSlt) hSl (Nat.ne_of_gt hlt) ns 0 [] { s with heap := s.heap.push { cls := .type "list_iterator", data := .fields #[.ref l, .int 0 0] } } rfl (by simpa using hn) ⟨_, Heap.get?_push_size _ rfl, rfl, rfl⟩ (hl₀.push _) (SG_new (Heap.get?_push_of_some _ hS₀)) fun h' tk k hS' => ?_
  exact wpAny_pure (wpAny_pure (hR h' tk (fun b o hb e => k b o hb (Nat.ne_of_lt (Heap.lt_size e)) (Heap.get?_push_of_some _ e)) hS'))

/-- set(xs) for a list of ints: the steps of type.__call__ are the library's (wp_step); what is new is what the made set is known to be -/
theorem set_list {Q : Value → Shared → Prop} (hh : A.handled = none) (hl : s.heap.IsList l vs.toArray) (hi : IntsAre vs ns) (hn : ns.length < 4000)
    (hq : ∀ h' tk, SG w h' s.heap.objs.size (ns.foldl put []) → (∀ b o, s.heap.get? b = some o → h'.get? b = some o) → Q (.ref s.heap.objs.size) { s with heap := h', toks := tk }) :
    wpAny (model PG w) A (call (.type "set") [.ref l]) Q E s := by
  have hll : l ≠ s.heap.objs.size := by obtain ⟨o, e, _⟩ := hl; exact Nat.ne_of_lt (Heap.lt_size e)
  have ft := PySem.F.called_set
  have hct := PySem.F.typeCall_set_1 (.ref l)
  have f1 := ft.notType
  have f2 := ft.canCreate
  have f3 := ft.made
  have f4 := ft.sub
  have f5 := ft.init.lookup
  have f6 := ft.init.bind (.ref s.heap.objs.size)
  obtain ⟨c, tl, f7⟩ := ft.mro
  refine wpAny_call (codeAny_of_tree (wpAny_pure ⟨Code.quiet_builtin _ (by decide +kernel), codeAny_builtin PySem.F.entry_type_call ?_⟩))
  rw [Around.under_plain (weight_type_call_type "set" [.ref l] []) rfl]
  repeat (any_goals (first | assumption | wp_step))
  refine codeAny_mono (set_new (E := E) (Q := fun v s₁ => v = .ref s.heap.objs.size ∧ s₁ = { s with heap := s.heap.push (newS w) }) ⟨rfl, rfl⟩) fun r s₁ hr => ?_
  match r, hr with
  | .error e, hr => exact hr
  | .ok (.ret _), hr =>
    obtain ⟨rfl, rfl⟩ := hr
    have hS : (s.heap.push (newS w)).get? s.heap.objs.size = some (newS w) := Heap.get?_push_size _ rfl
    have hT : Shared.TypeIs { s with heap := s.heap.push (newS w) } (.ref s.heap.objs.size) "set" := ⟨_, hS, rfl⟩
    repeat (any_goals (first | assumption | wp_step))
    refine codeAny_mono (codeAny_call_builtin (R := wants (fun v s₂ => v = .none ∧ Q (.ref s.heap.objs.size) s₂) E) ft.init.plain PySem.F.entry_set_init (check_set_init_1 hT
      (set_init hh (hl.push _) hi hn hS (Ne.symm hll) fun h' tk k hS' => ⟨rfl, hq h' tk hS' fun b o e => k b o (Nat.ne_of_lt (Heap.lt_size e)) (Heap.get?_push_of_some _ e)⟩))) fun r s₂ hr => ?_
    match r, hr with
    | .error e, hr => exact hr
    | .ok (.ret _), hr =>
      obtain ⟨rfl, hr⟩ := hr
      repeat (any_goals (first | assumption | wp_step))
end
theorem owner_si : Manifest.owners.lookup (String.ofList ['r', 'o', 't', 'a', 'r', 'e', 't', 'i', '_', 't', 'e', 's'].reverse) = some Manifest.sig_set_iterator := by kernel_rfl
theorem slot_si_next : Slot "set_iterator" "__next__" "set_iterator.__next__" :=
  .of (owner := "set_iterator") (n := "__next__") (by rw [typeLookup_type, builtinLookup_eq_fast]; kernel_rfl) (by decide +kernel) (by decide +kernel) (by decide +kernel)
    (by first | exact .inl (by decide +kernel) | exact .inr (by decide +kernel)) (by rw [isSubtype_type]; kernel_rfl)
theorem entry_si_next : entryFor table "set_iterator.__next__" = some Builtin.«set_iterator.__next__» := entryFor_of_tree (by kernel_rfl)
theorem args_si_next (a : Value) : argsOk "set_iterator.__next__" ⟨[a], []⟩ := by
  unfold argsOk; rw [signature?_of (id := "set_iterator.__next__") (n := ['_', '_', 't', 'x', 'e', 'n', '_', '_']) (o := ['r', 'o', 't', 'a', 'r', 'e', 't', 'i', '_', 't', 'e', 's']) (by kernel_rfl) owner_si]; kernel_rfl
theorem slot_si_iter : Slot "set_iterator" "__iter__" "set_iterator.__iter__" :=
  .of (owner := "set_iterator") (n := "__iter__") (by rw [typeLookup_type, builtinLookup_eq_fast]; kernel_rfl) (by decide +kernel) (by decide +kernel) (by decide +kernel)
    (by first | exact .inl (by decide +kernel) | exact .inr (by decide +kernel)) (by rw [isSubtype_type]; kernel_rfl)
theorem args_si_iter (a : Value) : argsOk "set_iterator.__iter__" ⟨[a], []⟩ := by
  unfold argsOk; rw [signature?_of (id := "set_iterator.__iter__") (n := ['_', '_', 'r', 'e', 't', 'i', '_', '_']) (o := ['r', 'o', 't', 'a', 'r', 'e', 't', 'i', '_', 't', 'e', 's']) (by kernel_rfl) owner_si]; kernel_rfl
theorem entry_si_iter : entryFor table "set_iterator.__iter__" = some Builtin.«dict_keyiterator.__iter__» :=
  entryFor_alias (id' := "dict_keyiterator.__iter__") (by kernel_rfl) (by first | rfl | decide +kernel | (unfold String.splitOn; simp +decide [String.splitOnAux])) (by decide +kernel) (by kernel_rfl)
theorem entry_s_iter : entryFor table "set.__iter__" = some Builtin.«frozenset.__iter__» :=
  entryFor_alias (id' := "frozenset.__iter__") (by kernel_rfl) (by first | rfl | decide +kernel | (unfold String.splitOn; simp +decide [String.splitOnAux])) (by decide +kernel) (by kernel_rfl)

def SIO (S n ep : Nat) (first : Value) (i : Nat) (o : Obj) : Prop := o = { cls := .type "set_iterator", dict := none, data := .fields #[first, rawInt (i : Nat), .ref S, rawInt (n : Nat), rawInt (ep : Nat)], slots := #[] }

theorem perm_eraseIdx {α : Type} : ∀ {l : List α} {i : Nat} {x : α}, l[i]? = some x → List.Perm (x :: l.eraseIdx i) l
  | [], i, x, h => by simp at h
  | a :: l, 0, x, h => by simp at h; subst h; simp
  | a :: l, i + 1, x, h => by
    have ih := perm_eraseIdx (l := l) (i := i) (x := x) (by simpa using h)
    rw [List.eraseIdx_cons_succ]
    exact (List.Perm.swap _ _ _).trans (ih.cons a)

theorem pickOrder_go {α : Type} (next : Nat → Nat) : ∀ (n k : Nat) (left : List α) (out : Array α), left.length = n → ∃ l', (pickOrder.go next n k left out).toList = out.toList ++ l' ∧ l'.Perm left
  | 0, k, left, out, h => by
    have : left = [] := List.length_eq_zero_iff.mp h
    subst this
    exact ⟨[], by simp [pickOrder.go], .refl _⟩
  | n + 1, k, left, out, h => by
    have hlt : next k % left.length < left.length := Nat.mod_lt _ (by omega)
    have hx : left[next k % left.length]? = some left[next k % left.length] := List.getElem?_eq_getElem hlt
    unfold pickOrder.go
    rw [hx]
    obtain ⟨l', e, p⟩ := pickOrder_go next n (k + 1) (left.eraseIdx (next k % left.length)) (out.push left[next k % left.length]) (by rw [List.length_eraseIdx, if_pos hlt]; omega)
    exact ⟨left[next k % left.length] :: l', by dsimp only; rw [e]; simp, (p.cons _).trans (perm_eraseIdx hx)⟩

theorem pickOrder_perm {α : Type} (next : Nat → Nat) (xs : Array α) : (pickOrder next xs).toList.Perm xs.toList := by
  obtain ⟨l', e, p⟩ := pickOrder_go next xs.size 0 xs.toList #[] (by simp)
  unfold pickOrder
  rw [e]
  simpa using p

section
variable {w : World} {A : Around} {E : Value → Shared → Prop} {s : Shared} {S I n ep : Nat} {oS : Obj} {es : Array (Int × Value)} {t : SetTable}

theorem wpAny_choose {src : Source} {n : Nat} {Q : Nat → Shared → Prop} (hn : n ≠ 0) (h : ∀ i, i < n → Q i { s with drawn := s.drawn.bump src }) : wpAny (model PG w) A (choose src n) Q E s := fun Γ p hΓ => by
  unfold choose
  rw [Sem.wp_choose]
  exact ⟨hn, h _ (Nat.mod_lt _ (Nat.pos_of_ne_zero hn))⟩

theorem drawOrder_perm {α : Type} : ∀ (n : Nat) (l : List α) (s : Shared) {Q : List α → Shared → Prop}, l.length = n → (∀ l' d, l'.Perm l → Q l' { s with drawn := d }) → wpAny (model PG w) A (drawOrder n l) Q E s
  | 0, l, s, Q, h, hq => by
    have : l = [] := List.length_eq_zero_iff.mp h
    subst this
    unfold drawOrder
    exact wpAny_pure (hq [] s.drawn (.refl _))
  | n + 1, [], s, Q, h, hq => by cases h
  | n + 1, a :: l, s, Q, h, hq => by
    unfold drawOrder
    refine wpAny_bind (wpAny_choose (by simp) fun i hi => ?_)
    have hx : (a :: l)[i]? = some (a :: l)[i] := List.getElem?_eq_getElem hi
    rw [hx]
    refine wpAny_bind (drawOrder_perm n _ _ (by rw [List.length_eraseIdx, if_pos hi]; simpa using h) fun l' d p => ?_)
    exact wpAny_pure (hq _ d ((p.cons _).trans (perm_eraseIdx hx)))

theorem stop_new {Q : Fin → Shared → Prop} (hh : A.handled = none) (h : ∀ h' e, (∀ b o, s.heap.get? b = some o → h'.get? b = some o) → Shared.TypeIs { s with heap := h' } e "StopIteration" → E e { s with heap := h' }) :
    wpAny (model PG w) A (newExc (.type "StopIteration") [] >>= raiseNew) Q E s := by
  refine wpAny_bind (wpAny_bind (wpAny_newObj_type (wpAny_bind (wpAny_mono (Q := fun v s' => v = .none ∧ s' = _) (wpAny_pure ⟨?_, rfl⟩) (fun v s' hv => ?_) fun _ _ e => e)) (by size_fits)))
  · exact ite_self _
  obtain ⟨rfl, rfl⟩ := hv
  refine wpAny_newObj_type (wpAny_raiseNew_none hh ?_) (by size_fits)
  exact h _ _ (fun b o e => Heap.get?_push_of_some _ (Heap.get?_push_of_some _ e)) ⟨_, Heap.get?_push_size _ rfl, rfl⟩

/-- one step of a set's iterator is its __next__ -/
theorem si_run {i : Nat} {first : Value} {o : Obj} {Q : Option Value → Shared → Prop} (hI : s.heap.get? I = some o) (ho : SIO S n ep first i o)
    (h : wpAny (model PG w) A.in1 (Builtin.«set_iterator.__next__» ⟨[.ref I], []⟩) (fun fin s' => ∃ v, fin = .done (.ret v) ∧ Q (some v) s') (fun e s' => s'.TypeIs e "StopIteration" ∧ Q none s') s) :
    wpAny (model PG w) A (pyNext (.ref I)) Q E s := by
  have hT : s.TypeIs (.ref I) "set_iterator" := ⟨o, hI, by rw [ho]⟩
  refine wpAny_bind (wpAny_attempt (wpAny_callSpecial?_slot hT slot_si_next (wpAny_call_entry slot_si_next hT entry_si_next ?_ (args_si_next _))))
  refine wpAny_mono h (fun fin s' hq => ?_) fun e s' he => wpAny_bind (wpAny_isInstance he.1 isSubtype_stop (wpAny_pure he.2))
  obtain ⟨v, rfl, hq⟩ := hq
  exact ⟨v, rfl, wpAny_pure hq⟩
end
section
variable {w : World} {A : Around} {E : Value → Shared → Prop} {s : Shared} {S I n ep : Nat} {oS : Obj} {es : Array (Int × Value)} {t : SetTable}

/-- how a set gives its next by a slot: the values ord, one behind the other -/
structure SlotMode (w : World) (S n ep : Nat) (oS : Obj) (ord : List Value) (Nx : Nat → Nat → Prop) : Prop where
  n0 : Nx 0 0
  next : ∀ {s : Shared} {i slot : Nat}, s.heap.get? S = some oS → i < n → Nx i slot → ∃ x slot', ord[i]? = some x ∧ Nx (i + 1) slot' ∧
    ∀ {A : Around} {E : Value → Shared → Prop} {Q : Option (Value × Nat) → Shared → Prop}, Q (some (x, slot')) s → wpAny (model PG w) A (setNext S slot i ep) Q E s
  stop : ∀ {s : Shared} {slot : Nat}, s.heap.get? S = some oS → Nx n slot →
    ∀ {A : Around} {E : Value → Shared → Prop} {Q : Option (Value × Nat) → Shared → Prop}, Q none s → wpAny (model PG w) A (setNext S slot n ep) Q E s

/-- one __next__ by a slot, whatever the set answers -/
theorem slot_next {i slot : Nat} {r : Option (Value × Nat)} {Q : Option Value → Shared → Prop} (hh : A.handled = none) (hS : s.heap.get? S = some oS) (hd : oS.data = .set es ep t) (hf : t.fits es.size = true) (hn : es.size = n)
    {o : Obj} (hI : s.heap.get? I = some o) (ho : SIO S n ep (rawInt slot) i o) (hr : ∀ {A : Around} {E : Value → Shared → Prop} {Q : Option (Value × Nat) → Shared → Prop}, Q r s → wpAny (model PG w) A (setNext S slot i ep) Q E s)
    (h1 : ∀ x nx h' o', r = some (x, nx) → h'.get? I = some o' → SIO S n ep (rawInt nx) (i + 1) o' → Heap.ExtBut I s.heap h' → Q (some x) { s with heap := h' })
    (h2 : ∀ h', r = none → Heap.ExtBut I s.heap h' → Q none { s with heap := h' }) : wpAny (model PG w) A (pyNext (.ref I)) Q E s := by
  refine si_run hI ho ?_
  rw [ho] at hI
  refine wpAny_bind (wpAny_pure (wpAny_bind (wpAny_fieldsOf hI rfl (wpAny_bind (wpAny_setEntries_of hS hd hf ?_)))))
  rw [if_neg (by simp [hn])]
  refine wpAny_bind (hr ?_)
  match r with
  | some (x, nx) =>
    refine wpAny_bind (wpAny_setField_rec hI (by simp) fun h₁ g₁ k₁ => wpAny_bind (wpAny_setField_rec g₁ (by simp) fun h₂ g₂ k₂ => ?_))
    exact wpAny_pure ⟨x, rfl, h1 x nx h₂ _ rfl g₂ rfl (k₁.trans k₂).extBut⟩
  | none =>
    refine wpAny_bind (wpAny_setField_rec hI (by simp) fun h₁ _ k₁ => ?_)
    exact stop_new hh fun h' e k T => ⟨T, h2 h' rfl fun b o hb e => k b o (k₁.extBut b o hb e)⟩

theorem self_si {first : Value} {i : Nat} {o : Obj} {Q : Value → Shared → Prop} (hI : s.heap.get? I = some o) (ho : SIO S n ep first i o) (hq : Q (.ref I) s) : wpAny (model PG w) A (pyIter (.ref I)) Q E s := by
  have hT : s.TypeIs (.ref I) "set_iterator" := ⟨o, hI, by rw [ho]⟩
  refine wpAny_pyIter_slot hT slot_si_iter (wpAny_call_entry slot_si_iter hT entry_si_iter ?_ (args_si_iter _))
  show wpAny _ _ (ret (.ref I)) _ _ s
  exact wpAny_pure ⟨_, rfl, "set_iterator", _, hT, slot_si_next.lookup, hq⟩

theorem walks_slot {ord : List Value} {Nx : Nat → Nat → Prop} (hh : A.handled = none) (hIS : S ≠ I) (hd : oS.data = .set es ep t) (hf : t.fits es.size = true) (hn : es.size = n) (hM : SlotMode w S n ep oS ord Nx) :
    Walks PG w A I [I, S] [I] n (fun i v => ord[i]? = some v) (fun i h => h.get? S = some oS ∧ ∃ slot o, h.get? I = some o ∧ SIO S n ep (rawInt (slot : Nat)) i o ∧ Nx i slot) where
  sub := fun b hb => by simp at hb; simp [hb]
  frame := fun _ _ _ st hk => ⟨hk S (by simp) _ st.1, let ⟨slot, o, e, r⟩ := st.2; ⟨slot, o, hk I (by simp) _ e, r⟩⟩
  item := fun i s Q E hi st hQ => by
    obtain ⟨hS, slot, o, hI, ho, hN⟩ := st
    obtain ⟨x, nx, hx, hN', hr⟩ := hM.next hS hi hN
    refine slot_next hh hS hd hf hn hI ho hr (fun x' nx' h' o' e hI' ho' k => ?_) (fun _ e => (nomatch e))
    cases e
    exact hQ x h' s.toks hx ⟨k _ _ hIS hS, nx, o', hI', ho', hN'⟩ fun b o hb e => k b o (fun h => hb (by simp [h])) e
  done := fun s Q E st hQ => by
    obtain ⟨hS, slot, o, hI, ho, hN⟩ := st
    exact slot_next hh hS hd hf hn hI ho (hM.stop hS hN) (fun _ _ _ _ e => (nomatch e)) fun h' _ k => hQ h' s.toks fun b o hb e => k b o (fun h => hb (by simp [h])) e
  self := fun i s Q E st hQ => by
    obtain ⟨hS, slot, o, hI, ho, hN⟩ := st
    exact self_si hI ho hQ

theorem byText_ {b : Bool} (hb : w.params.followText "set-order" = b) {Q : Bool → Shared → Prop} (h : Q b s) : wpAny (model PG w) A setsByText Q E s := by
  unfold setsByText
  refine wpAny_bind (wpAny_askSetting (wpAny_pure ?_))
  show Q (w.params.followText "set-order") s
  rw [hb]; exact h

theorem mode_text (hb : w.params.followText "set-order" = true) (hd : oS.data = .set es ep t) (hf : t.fits es.size = true) (hn : es.size = n) :
    SlotMode w S n ep oS ((pickOrder (w.params.setOrder S ep) es).toList.map (·.2)) (fun _ _ => True) := by
  have hlen : (pickOrder (w.params.setOrder S ep) es).size = n := by
    have := (pickOrder_perm (w.params.setOrder S ep) es).length_eq
    simpa [hn] using this
  have key : ∀ {A : Around} {E : Value → Shared → Prop} {s : Shared} {i slot : Nat} {Q : Option (Value × Nat) → Shared → Prop}, s.heap.get? S = some oS →
      Q (((pickOrder (w.params.setOrder S ep) es)[i]?).map fun e => (e.2, slot)) s → wpAny (model PG w) A (setNext S slot i ep) Q E s := by
    intro A E s i slot Q hS h
    unfold setNext
    refine wpAny_bind (wpAny_setState_of hS hd hf ?_)
    dsimp only
    refine wpAny_bind (byText_ hb ?_)
    rw [if_pos rfl, if_neg (by simp)]
    refine wpAny_bind ?_
    unfold setWalk
    refine wpAny_bind (wpAny_setState_of hS hd hf ?_)
    dsimp only
    refine wpAny_bind (byText_ hb ?_)
    rw [if_pos rfl]
    exact wpAny_bind (wpAny_askSetting (wpAny_pure (wpAny_pure h)))
  refine ⟨trivial, fun {s i slot} hS hi _ => ?_, fun {s slot} hS _ {A E Q} hq => key hS ?_⟩
  · have hlt : i < (pickOrder (w.params.setOrder S ep) es).size := by omega
    exact ⟨_, slot, by simp [hlt]; rfl, trivial, fun {A E Q} hq => key hS (by rw [Array.getElem?_eq_getElem hlt]; exact hq)⟩
  · rw [Array.getElem?_eq_none (by omega)]
    exact hq

theorem mode_plain (hb : w.params.followText "set-order" = false) (hd : oS.data = .set es ep t) (hf : t.fits es.size = true) (hn : es.size = n) (hr : Rs t.place) (hl : t.led = true) (hdr : (!t.plain && decide (es.size > 1)) = false) :
    SlotMode w S n ep oS (es.toList.map (·.2)) (fun i slot => SetTable.below t.place slot = i) := by
  have hps : t.place.size = es.size := by
    simp only [SetTable.fits, Bool.and_eq_true, beq_iff_eq] at hf; exact hf.1
  have key : ∀ {A : Around} {E : Value → Shared → Prop} {s : Shared} {i slot : Nat} {Q : Option (Value × Nat) → Shared → Prop}, s.heap.get? S = some oS →
      (∀ r, (∀ e j, es[SetTable.below t.place slot]? = some e → t.place[SetTable.below t.place slot]? = some j → r = some (e.2, j + 1)) → (es[SetTable.below t.place slot]? = none → r = none) → Q r s) → wpAny (model PG w) A (setNext S slot i ep) Q E s := by
    intro A E s i slot Q hS h
    unfold setNext
    refine wpAny_bind (wpAny_setState_of hS hd hf ?_)
    dsimp only
    refine wpAny_bind (byText_ hb ?_)
    rw [if_neg Bool.false_ne_true]
    show wpAny _ _ (if (!t.plain && decide (es.size > 1)) = true then _ else _) _ _ _
    rw [hdr, if_neg Bool.false_ne_true]
    refine wpAny_bind ?_
    show wpAny _ _ (if (!t.led && !es.isEmpty) = true then _ else _) _ _ _
    rw [hl, if_neg (by simp)]
    exact wpAny_pure (wpAny_pure (h _ (fun e j h1 h2 => by rw [h1, h2]) fun h1 => by rw [h1]))
  have hlast : ∀ i (hi : i < t.place.size), SetTable.below t.place (t.place[i] + 1) = i + 1 := by
    intro i hi
    obtain ⟨h1, h2, h3⟩ := below_spec hr (t.place[i] + 1)
    rcases Nat.lt_trichotomy (SetTable.below t.place (t.place[i] + 1)) (i + 1) with h | h | h
    · have := h3 i hi (by omega); omega
    · exact h
    · have hi1 : i + 1 < t.place.size := by omega
      have := h2 (i + 1) hi1 h
      have := hr i (i + 1) hi hi1 (by omega)
      omega
  refine ⟨?_, fun {s i slot} hS hi hN => ?_, fun {s slot} hS hN {A E Q} hq => key hS ?_⟩
  · show SetTable.below t.place 0 = 0
    obtain ⟨h1, h2, h3⟩ := below_spec hr 0
    rcases Nat.eq_zero_or_pos (SetTable.below t.place 0) with h | h
    · exact h
    · exact absurd (h2 0 (by omega) h) (Nat.not_lt_zero _)
  · have h1 : i < es.size := by omega
    have h2 : i < t.place.size := by omega
    exact ⟨_, _, by simp [h1]; rfl, hlast i h2, fun {A E Q} hq => key hS fun r h _ => by rw [hN] at h; rw [h _ _ (Array.getElem?_eq_getElem h1) (Array.getElem?_eq_getElem h2)]; exact hq⟩
  · intro r _ h
    rw [h (by rw [hN]; exact Array.getElem?_eq_none (by omega))]
    exact hq
end
section
variable {w : World} {A : Around} {E : Value → Shared → Prop} {s : Shared} {S I T n ep : Nat} {oS : Obj} {es : Array (Int × Value)} {t : SetTable}

def placesObj (ps : List Nat) : Obj := { cls := .type "tuple", data := .seq (ps.map fun (i : Nat) => rawInt i).toArray }

theorem drawn_next {ps : List Nat} {i : Nat} {Q : Option Value → Shared → Prop} (hh : A.handled = none) (hS : s.heap.get? S = some oS) (hd : oS.data = .set es ep t) (hf : t.fits es.size = true) (hn : es.size = n) (hT : s.heap.get? T = some (placesObj ps))
    (hps : ∀ p ∈ ps, p < es.size) {o : Obj} (hI : s.heap.get? I = some o) (ho : SIO S n ep (.ref T) i o)
    (h1 : ∀ p h' o', ps[i]? = some p → h'.get? I = some o' → SIO S n ep (.ref T) (i + 1) o' → Heap.ExtBut I s.heap h' → Q (some ((es.toList.map (·.2)).getD p .none)) { s with heap := h' })
    (h2 : ∀ h', ps[i]? = none → Heap.ExtBut I s.heap h' → Q none { s with heap := h' }) : wpAny (model PG w) A (pyNext (.ref I)) Q E s := by
  refine si_run hI ho ?_
  rw [ho] at hI
  refine wpAny_bind (wpAny_pure (wpAny_bind (wpAny_fieldsOf hI rfl (wpAny_bind (wpAny_setEntries_of hS hd hf ?_)))))
  rw [if_neg (by simp [hn])]
  refine wpAny_bind (wpAny_seqItems hT rfl ?_)
  dsimp only
  have hpi : (ps.map fun (i : Nat) => rawInt i).toArray[((i : Nat) : Int).toNat]? = ps[i]?.map fun (i : Nat) => rawInt i := by simp
  rw [hpi]
  cases hp : ps[i]? with
  | some p =>
    have hlt := hps p (List.mem_of_getElem? hp)
    refine wpAny_bind (wpAny_bind (wpAny_setState_of hS hd hf ?_))
    dsimp only
    rw [if_neg (by simp), show es[((p : Nat) : Int).toNat]? = some es[p] from by simp [hlt]]
    refine wpAny_pure (wpAny_bind (wpAny_setField_rec hI (by simp) fun h₁ g₁ k₁ => wpAny_pure ⟨_, rfl, ?_⟩))
    have := h1 p h₁ _ hp g₁ rfl k₁.extBut
    simpa [hlt] using this
  | none =>
    refine wpAny_bind (wpAny_setField_rec hI (by simp) fun h₁ g₁ k₁ => wpAny_bind (wpAny_setField_rec (s := { s with heap := h₁ }) g₁ (by simp) fun h₂ _ k₂ => ?_))
    exact stop_new hh fun h' e k T => ⟨T, h2 h' hp fun b o hb e => k b o (k₂.extBut b o hb (k₁.extBut b o hb e))⟩

theorem walks_drawn {ps : List Nat} (hh : A.handled = none) (hIS : S ≠ I) (hIT : T ≠ I) (hd : oS.data = .set es ep t) (hf : t.fits es.size = true) (hn : es.size = n) (hps : ps.Perm (List.range n)) :
    Walks PG w A I [I, S, T] [I] n (fun i v => (ps.map fun p => (es.toList.map (·.2)).getD p .none)[i]? = some v)
      (fun i h => h.get? S = some oS ∧ h.get? T = some (placesObj ps) ∧ ∃ o, h.get? I = some o ∧ SIO S n ep (.ref T) i o) where
  sub := fun b hb => by simp at hb; simp [hb]
  frame := fun _ _ _ st hk => ⟨hk S (by simp) _ st.1, hk T (by simp) _ st.2.1, let ⟨o, e, r⟩ := st.2.2; ⟨o, hk I (by simp) _ e, r⟩⟩
  item := fun i s Q E hi st hQ => by
    obtain ⟨hS, hT, o, hI, ho⟩ := st
    have hpl : ps.length = n := by rw [hps.length_eq, List.length_range]
    refine drawn_next hh hS hd hf hn hT (fun p hp => by rw [hn]; exact List.mem_range.mp (hps.mem_iff.mp hp)) hI ho (fun p h' o' hp hI' ho' k => ?_) (fun h' e => absurd e (by rw [List.getElem?_eq_getElem (by omega)]; exact Option.some_ne_none _))
    exact hQ _ h' s.toks (by rw [List.getElem?_map, hp]; rfl) ⟨k _ _ hIS hS, k _ _ hIT hT, o', hI', ho'⟩ fun b o hb e => k b o (fun h => hb (by simp [h])) e
  done := fun s Q E st hQ => by
    obtain ⟨hS, hT, o, hI, ho⟩ := st
    have hpl : ps.length = n := by rw [hps.length_eq, List.length_range]
    refine drawn_next hh hS hd hf hn hT (fun p hp => by rw [hn]; exact List.mem_range.mp (hps.mem_iff.mp hp)) hI ho (fun p h' o' hp => absurd hp (by rw [List.getElem?_eq_none (by omega)]; exact Ne.symm (Option.some_ne_none _))) fun h' _ k => ?_
    exact hQ h' s.toks fun b o hb e => k b o (fun h => hb (by simp [h])) e
  self := fun i s Q E st hQ => by
    obtain ⟨hS, hT, o, hI, ho⟩ := st
    exact self_si hI ho hQ

theorem drawn_perm {ps : List Nat} {vs : List Value} (hps : ps.Perm (List.range vs.length)) : (ps.map fun p => vs.getD p .none).Perm vs := by
  refine (hps.map _).trans ?_
  have : (List.range vs.length).map (fun p => vs.getD p .none) = vs := by
    refine List.ext_getElem (by simp) fun i h1 h2 => ?_
    simp at h1
    simp [h1]
  rw [this]

/-- the values of a set's table, in any order, are ints: those of σ in some order -/
theorem Tab.vals {σ : List Int} (H : Tab w es t σ) : ∀ {l : List Value}, l.Perm (es.toList.map (·.2)) → IntsAre l (l.map ival) ∧ (l.map ival).Perm σ := by
  intro l hl
  refine ⟨?_, (hl.map _).trans (by rw [List.map_map]; exact H.pm)⟩
  have : ∀ v ∈ l, ∃ u, v = .int (ival v) u := fun v hv => by
    obtain ⟨e, he, rfl⟩ := List.mem_map.mp (hl.mem_iff.mp hv)
    exact H.int he
  clear hl
  induction l with
  | nil => exact .nil
  | cons v l ih =>
    obtain ⟨u, hu⟩ := this v (.head _)
    rw [List.map_cons]
    have h := ih fun v hv => this v (.tail _ hv)
    generalize ival v = n at hu ⊢
    subst hu
    exact .cons n u h

/-- the walk over a set of ints: some order of its ints -/
theorem pi_set {σ : List Int} {Q : Value → Shared → Prop} (hh : A.handled = none) (hSG : SG w s.heap S σ)
    (hq : ∀ h' d I fp n ord St ks, (∀ b o, s.heap.get? b = some o → h'.get? b = some o) → (∀ b ∈ fp, b = S ∨ s.heap.objs.size ≤ b) → (∀ A : Around, A.handled = none → Walks PG w A I fp [I] n (fun i v => ord[i]? = some v) St) → St 0 h' → s.heap.objs.size ≤ I → ord.length = n → IntsAre ord ks → ks.Perm σ →
      Q (.ref I) { s with heap := h', drawn := d }) :
    wpAny (model PG w) A (pyIter (.ref S)) Q E s := by
  obtain ⟨_, hS, es, ep, t, rfl, H⟩ := hSG
  have hT : s.TypeIs (.ref S) "set" := ⟨_, hS, rfl⟩
  have hd : (setO es ep t).data = .set es ep t := rfl
  have hf := H.fit
  have hSlt : S < s.heap.objs.size := Heap.lt_size hS
  have hsz : es.size ≤ sizeLine := fits_of_scanBound H.sm
  refine wpAny_pyIter_slot hT PySem.F.slot_set_iter (wpAny_call_entry PySem.F.slot_set_iter hT entry_s_iter ?_ (PySem.F.args_set_iter_1 _))
  show wpAny _ _ (Builtin.Frozenset.sizeOf S >>= _) _ _ s
  refine wpAny_bind ?_
  unfold Builtin.Frozenset.sizeOf
  refine wpAny_bind (wpAny_setEntries_of hS hd hf (wpAny_pure ?_))
  refine wpAny_bind ?_
  unfold setDrawn
  refine wpAny_bind (wpAny_setState_of hS hd hf ?_)
  dsimp only
  cases hbt : w.params.followText "set-order" with
  | true =>
    refine wpAny_bind (byText_ hbt (wpAny_pure ?_))
    simp only [Bool.not_true, Bool.false_and, Bool.false_eq_true, if_false]
    refine wpAny_bind (wpAny_pure (wpAny_bind (wpAny_setEpoch_of hS hd hf (wpAny_bind (wpAny_newObj_type (wpAny_pure ⟨_, rfl, "set_iterator", _, ⟨_, Heap.get?_push_size _ rfl, rfl⟩, slot_si_next.lookup, ?_⟩))))))
    have hperm := (pickOrder_perm (w.params.setOrder S ep) es).map (·.2)
    obtain ⟨a, b⟩ := H.vals hperm
    refine hq _ s.drawn _ [_, S] es.size _ _ _ (fun b o e => Heap.get?_push_of_some _ e) (fun b hb => ?_) (fun A hA => walks_slot hA (Nat.ne_of_lt hSlt) hd hf rfl (mode_text hbt hd hf rfl)) ⟨Heap.get?_push_of_some _ hS, 0, _, Heap.get?_push_size _ rfl, rfl, trivial⟩ (Nat.le_refl _) (by rw [hperm.length_eq]; simp) a b
    simp only [List.mem_cons, List.not_mem_nil, or_false] at hb
    rcases hb with rfl | rfl
    · exact .inr (Nat.le_refl _)
    · exact .inl rfl
  | false =>
    have hl' : t.led = true := by rw [H.led]; unfold ledOf; rw [hbt]; rfl
    refine wpAny_bind (byText_ hbt (wpAny_pure ?_))
    show wpAny _ _ (if (!false && (!t.plain && decide (es.size > 1))) = true then _ else _) _ _ _
    cases hdr : (!t.plain && decide (es.size > 1)) with
    | false =>
      simp only [Bool.and_false, Bool.false_eq_true, if_false]
      refine wpAny_bind (wpAny_pure (wpAny_bind (wpAny_setEpoch_of hS hd hf (wpAny_bind (wpAny_newObj_type (wpAny_pure ⟨_, rfl, "set_iterator", _, ⟨_, Heap.get?_push_size _ rfl, rfl⟩, slot_si_next.lookup, ?_⟩))))))
      have hm := mode_plain (S := S) hbt hd hf rfl H.up hl' hdr
      obtain ⟨a, b⟩ := H.vals (.refl _)
      refine hq _ s.drawn _ [_, S] es.size _ _ _ (fun b o e => Heap.get?_push_of_some _ e) (fun b hb => ?_) (fun A hA => walks_slot hA (Nat.ne_of_lt hSlt) hd hf rfl hm) ⟨Heap.get?_push_of_some _ hS, 0, _, Heap.get?_push_size _ rfl, rfl, hm.n0⟩ (Nat.le_refl _) (by simp) a b
      simp only [List.mem_cons, List.not_mem_nil, or_false] at hb
      rcases hb with rfl | rfl
      · exact .inr (Nat.le_refl _)
      · exact .inl rfl
    | true =>
      simp only [Bool.not_false, Bool.and_true, if_true]
      refine wpAny_bind (drawOrder_perm es.size (List.range es.size) s (by simp) fun ps d hps => ?_)
      have hpl : ps.length = es.size := by rw [hps.length_eq, List.length_range]
      refine wpAny_bind (wpAny_newTuple ?_ (by simpa [hpl] using hsz))
      have hS' : (s.heap.push (placesObj ps)).get? S = some (setO es ep t) := Heap.get?_push_of_some _ hS
      refine wpAny_bind (wpAny_setEpoch_of (s := { s with heap := s.heap.push (placesObj ps), drawn := d }) hS' hd hf (wpAny_bind (wpAny_newObj_type (wpAny_pure ⟨_, rfl, "set_iterator", _, ⟨_, Heap.get?_push_size _ rfl, rfl⟩, slot_si_next.lookup, ?_⟩))))
      have hperm := drawn_perm (vs := es.toList.map (·.2)) (ps := ps) (by simpa using hps)
      obtain ⟨a, b⟩ := H.vals hperm
      have hI : (s.heap.push (placesObj ps)).objs.size = s.heap.objs.size + 1 := Heap.size_push ..
      refine hq _ d _ [_, S, s.heap.objs.size] es.size _ _ _ (fun b o e => Heap.get?_push_of_some _ (Heap.get?_push_of_some _ e)) (fun b hb => ?_) (fun A hA => walks_drawn hA (by rw [hI]; exact Nat.ne_of_lt (Nat.lt_succ_of_lt hSlt)) (by rw [hI]; exact Nat.ne_of_lt (Nat.lt_succ_self _)) hd hf rfl hps)
        ⟨Heap.get?_push_of_some _ hS', Heap.get?_push_of_some _ (Heap.get?_push_size _ rfl), _, Heap.get?_push_size _ rfl, rfl⟩ (by rw [hI]; exact Nat.le_succ _) (by simp [hpl]) a b
      simp only [List.mem_cons, List.not_mem_nil, or_false] at hb
      rcases hb with rfl | rfl | rfl
      · exact .inr (by rw [hI]; exact Nat.le_succ _)
      · exact .inl rfl
      · exact .inr (Nat.le_refl _)
end
section
variable {w : World} {A : Around} {E : Value → Shared → Prop} {s : Shared} {S : Nat}

theorem hint_set {Q : Bool → Shared → Prop} (hT : s.TypeIs (.ref S) "set") (h : Q false s) : wpAny (model PG w) A (Builtin.List.listLengthHint (.ref S)) Q E s := by
  have hs : splitId "set.__len__" = some ("set", "__len__") := by kernel_rfl
  refine wpAny_bind (wpAny_specialOf hT PySem.F.slot_set_len.lookup ?_)
  generalize hr : splitId "set.__len__" = r
  cases hr.symm.trans hs
  refine wpAny_bind (wpAny_isInstance hT sub_set_self ?_)
  rw [if_neg (by decide), if_pos (by decide +kernel)]
  exact wpAny_bind (wpAny_typeOf hT (wpAny_pure h))

theorem collect_set {σ : List Int} {Q : List Value → Shared → Prop} (hh : A.handled = none) (hSG : SG w s.heap S σ) (hσ : σ.length < 1000)
    (hq : ∀ h' d tk ord ks, (∀ b o, s.heap.get? b = some o → h'.get? b = some o) → IntsAre ord ks → ks.Perm σ → Q ord { s with heap := h', drawn := d, toks := tk }) :
    wpAny (model PG w) A (collect (.ref S)) Q E s := by
  have hSlt : S < s.heap.objs.size := by obtain ⟨o, ho, _⟩ := hSG; exact Heap.lt_size ho
  unfold collect
  refine wpAny_bind (wpAny_runValue (codeAny_builtin PySem.F.entry_proto_collect ?_))
  rw [Around.under_plainId PySem.F.plain_proto_collect _]
  show wpAny _ A.in1 (newList [] >>= _) _ _ s
  refine wpAny_bind (wpAny_newObj_type ?_)
  refine wpAny_pure ⟨plainId_quiet PySem.F.plain_list_iadd _, codeAny_builtin PySem.F.entry_list_iadd ?_⟩
  rw [Around.under_plainId PySem.F.plain_list_iadd _]
  generalize hD : s.heap.objs.size = D at hSlt
  generalize hH : s.heap.push { cls := .type "list", dict := none, data := .seq ([] : List Value).toArray } = H
  have hHD : H.get? D = some { cls := .type "list", dict := none, data := .seq ([] : List Value).toArray } := by rw [← hH, ← hD]; exact Heap.get?_push_size _ rfl
  have hup : ∀ b o, s.heap.get? b = some o → H.get? b = some o := fun b o e => by rw [← hH]; exact Heap.get?_push_of_some _ e
  have hSG' : SG w H S σ := hSG.keep fun o e => hup _ _ e
  have hT : Shared.TypeIs { s with heap := H } (.ref S) "set" := by obtain ⟨_, ho, es, ep, t, rfl, _⟩ := hSG'; exact ⟨_, ho, rfl⟩
  show wpAny _ A.in1 (Builtin.List.listExtendWith (.ref D) (.ref S) (.ref D)) _ _ _
  unfold Builtin.List.listExtendWith
  refine wpAny_bind (wpAny_typeOf hT ?_)
  have h1 : Builtin.List.listSameRef (.ref D) (.ref S) = false := by simp [Builtin.List.listSameRef, Nat.ne_of_gt hSlt]
  have h2 : (Value.type "set" == Value.type "list") = false := by decide
  have h3 : (Value.type "set" == Value.type "tuple") = false := by decide
  simp only [h1, h2, h3, Bool.or_false, Bool.false_eq_true, if_false]
  refine wpAny_bind (pi_set (s := { s with heap := H }) hh hSG' fun h₁ d I fp n ord Sx ks hk₁ hfp W st0 hI hn hi hp => ?_)
  have hT₁ : Shared.TypeIs { s with heap := h₁, drawn := d } (.ref S) "set" := let ⟨o, ho, hc⟩ := hT; ⟨o, hk₁ _ _ ho, hc⟩
  refine wpAny_bind (wpAny_holding (hint_set hT₁ ?_))
  rw [if_pos (by decide +kernel)]
  refine wpAny_bind (wpAny_rule ?_)
  have hD₁ : h₁.get? D = some { cls := .type "list", dict := none, data := .seq ([] : List Value).toArray } := hk₁ _ _ hHD
  have hHs : H.objs.size = D + 1 := by rw [← hH, Heap.size_push, hD]
  have hDf : D ∉ fp := fun hm => by
    rcases hfp D hm with q | q
    · exact absurd q (Nat.ne_of_gt hSlt)
    · have q' : H.objs.size ≤ D := q
      rw [hHs] at q'; exact absurd q' (Nat.not_succ_le_self _)
  refine wpAny_bind ?_
  show wpAny _ A.in1 (updateSeq D (·.push .none) >>= _) _ _ _
  refine wpAny_bind (wpAny_updateSeq hD₁ rfl ?_)
  have hD₂ := Heap.get?_update_self (Obj.mapSeq (·.push Value.none)) hD₁ rfl
  refine wpAny_updateSeq hD₂ rfl ?_
  have hD₃ := Heap.get?_update_self (Obj.mapSeq (·.pop)) hD₂ rfl
  have oth : ∀ b o, b ≠ D → h₁.get? b = some o → ((h₁.update D (Obj.mapSeq (·.push Value.none))).update D (Obj.mapSeq (·.pop))).get? b = some o :=
    fun b o hb e => (Heap.get?_update_other _ _ (Ne.symm hb)).trans ((Heap.get?_update_other _ _ (Ne.symm hb)).trans e)
  have hW := W A.in1 hh
  have hol : ord.length < 1000 := by rw [IntsAre.length hi, hp.length_eq]; exact hσ
  refine wpAny_pure ⟨plainId_quiet PySem.F.plain_extend_loop _, codeAny_extend_loopS hW.toS (by rw [← hn]; exact Nat.le_trans (Nat.le_of_lt hol) (by decide +kernel)) D hDf _ n 0 _ _ _ rfl (Nat.zero_le _)
    (hW.frame 0 h₁ _ st0 fun b hb o e => oth b o (fun h => hDf (h ▸ hb)) e) hD₃ (ItemsOf.nil _) fun s' acc' c' hm hS' hacc => ?_⟩
  have hord : acc'.toList = ord := by
    refine List.ext_getElem? fun j => ?_
    rw [Array.getElem?_toList]
    cases hj : acc'[j]? with
    | some v => exact (hacc.2 j v hj).symm
    | none =>
      have h4 : acc'.size ≤ j := by rw [Array.getElem?_eq_none_iff] at hj; exact hj
      rw [List.getElem?_eq_none (by rw [hn, ← hacc.1]; exact h4)]
  show wpAny _ A (load D >>= _) _ _ s'
  refine wpAny_bind (wpAny_load hS' ?_)
  obtain ⟨hh', g', d', tk', os'⟩ := s'
  have eg : g' = s.gens := hm.gens
  have ed : d' = d := hm.drawn
  have eo : os' = s.os := hm.os
  subst eg; subst ed; subst eo
  refine wpAny_pure ?_
  rw [hord]
  refine hq hh' d' tk' ord ks (fun b o e => ?_) hi hp
  have hbD : b ≠ D := by rw [← hD]; exact Nat.ne_of_lt (Heap.lt_size e)
  have hbI : b ≠ I := fun q => by
    have h5 : b < s.heap.objs.size := Heap.lt_size e
    have h6 : H.objs.size ≤ I := hI
    rw [hHs] at h6
    rw [hD] at h5
    rw [q] at h5
    exact absurd h5 (Nat.not_lt.mpr (Nat.le_trans (Nat.le_succ _) h6))
  exact hm.heap b o (by simp [hbD, hbI]) (oth b o hbD (hk₁ _ _ (hup _ _ e)))

theorem sorted_set {σ : List Int} {Q : Value → Shared → Prop} (hh : A.handled = none) (hSG : SG w s.heap S σ) (hσ : σ.length < 64)
    (hq : ∀ h' d tk L o vs ks, (∀ b o, s.heap.get? b = some o → h'.get? b = some o) → s.heap.get? L = none → h'.get? L = some o → o.cls = .type "list" → (∃ n, o.data = .seq (List.toArray vs) n) → IntsAre vs ks → ks.Perm σ → ks.Pairwise (· ≤ ·) →
      Q (.ref L) { s with heap := h', drawn := d, toks := tk }) :
    wpAny (model PG w) A (call (.builtin "sorted") [.ref S]) Q E s := by
  refine Calls.call_function_entry kind_sorted plain_sorted entry_sorted (args_sorted1 _) ?_
  unfold Builtin.«sorted»
  refine wpAny_bind (m := checkCount "sorted" 1 1 _) (wpAny_pure ?_)
  refine wpAny_bind (collect_set (A := A.in1) hh hSG (by omega) fun h' d tk ord ks hk hi hp => ?_)
  have hol : ord.length < 64 := by rw [IntsAre.length hi, hp.length_eq]; exact hσ
  refine wpAny_bind (wpAny_newList ?_ (Nat.le_trans (Nat.le_of_lt hol) (by decide +kernel)))
  have hoL : (h'.push (seqObj "list" ord.toArray 0)).get? h'.objs.size = some (seqObj "list" ord.toArray 0) := Heap.get?_push_size _ rfl
  refine wpAny_bind (wpAny_holding (wpAny_call_entry slot_list_sort ⟨_, hoL, rfl⟩ entry_list_sort (list_sort_tree hoL hi hol fun out ns' a1 a2 a3 => ⟨_, rfl, ?_⟩) (args_list_sort _)))
  have hLn : s.heap.get? h'.objs.size = none := by
    cases e : s.heap.get? h'.objs.size with
    | none => rfl
    | some o => exact absurd (Heap.lt_size (hk _ _ e)) (Nat.lt_irrefl _)
  obtain ⟨e', he'⟩ := sortedHeap_at (vs := ord) (out := out) hoL
  refine wpAny_pure ⟨_, rfl, hq _ d tk _ _ out.toList ns' (fun b o e => ?_) hLn he' rfl ⟨e', by simp⟩ a1 (a2.trans hp) a3⟩
  have h1 := hk _ _ e
  have h2 : b < h'.objs.size := Heap.lt_size h1
  rw [sortedHeap_old (Nat.ne_of_lt h2) (by rw [size_push']; exact Nat.lt_succ_of_lt h2)]
  exact Heap.get?_push_of_some _ h1
end
def sdOf (ns : List Int) : List Int := ns.foldl put []

structure SD (ks ns : List Int) : Prop where
  up : ks.Pairwise (· < ·)
  mem : ∀ k, k ∈ ks ↔ k ∈ ns
  len : ks.length ≤ ns.length

theorem SD.of {ks ns : List Int} (hp : ks.Perm (sdOf ns)) (hs : ks.Pairwise (· ≤ ·)) : SD ks ns := by
  obtain ⟨hn, hm, hl⟩ := put_facts ns [] .nil
  refine ⟨?_, fun k => (hp.mem_iff).trans ((hm k).trans ⟨fun h => h.elim (nomatch ·) id, .inr⟩), by rw [hp.length_eq]; exact Nat.le_trans hl (by simp)⟩
  exact (hs.and (hp.nodup_iff.mpr hn)).imp fun {a b} h => by have := h.1; have := h.2; omega

theorem sdOf_len (ns : List Int) : (sdOf ns).length ≤ ns.length := Nat.le_trans (put_facts ns [] .nil).2.2 (by simp)

section
variable {w : World} {A : Around} {E : Value → Shared → Prop} {s : Shared} {g h : Heap} {tk : TD} {L : Addr} {l l' : List (Str × Value)} {nw nw' : List (Addr × Obj)} {env : Env} {x : Str} {v : Value} {pos : Pos} {Q : Value → Shared → Prop}

theorem fresh_not {h : Heap} {L : Addr} {l : List (Str × Value)} {nw : List (Addr × Obj)} {g : Heap} (S : St g L h l nw) {D : Addr} (hD : h.get? D = none) : D ≠ L ∧ g.get? D = none ∧ ∀ p ∈ nw, p.1 ≠ D := by
  refine ⟨fun q => ?_, ?_, fun p hp q => ?_⟩
  · obtain ⟨oL, _, e⟩ := S.frameObj
    rw [← q, hD] at e; cases e
  · cases e : g.get? D with
    | none => rfl
    | some o => have := S.keep _ _ e; rw [hD] at this; cases this
  · have := (S.news p hp).1; rw [q, hD] at this; cases this

theorem c_set {a : Addr} {vs : List Value} {ns : List Int} (S : St g L h l nw) (hh : A.handled = none) (hl : g.IsList a vs.toArray) (hi : IntsAre vs ns) (hn : ns.length < 1000)
    (hq : ∀ h' tk' D o, SGo w o (sdOf ns) → St g L h' l ((D, o) :: nw) → Q (.ref D) (SS s h' tk')) :
    wpAny (model PG w) A (call (.type "set") [.ref a]) Q E (SS s h tk) := by
  refine set_list (s := SS s h tk) hh (isList_keeps hl S.keep) hi (by omega) fun h' tk' hS hk' => ?_
  obtain ⟨o, ho, hso⟩ := hS
  have hD : h.get? h.objs.size = none := by
    cases e : h.get? h.objs.size with
    | none => rfl
    | some o => exact absurd (Heap.lt_size e) (Nat.lt_irrefl _)
  obtain ⟨f1, f2, f3⟩ := fresh_not S hD
  exact hq h' (tk', tk.2) _ o hso ((S.grown hk').more ho f1 f2 f3)

theorem c_sortedSet {D : Addr} {o : Obj} {ns : List Int} (S : St g L h l ((D, o) :: nw)) (hh : A.handled = none) (hS : SGo w o (sdOf ns)) (hn : ns.length < 64)
    (hq : ∀ g' h' tk' R vs ks, g.StaysIn g' → St g' L h' l nw → g'.IsList R vs.toArray → IntsAre vs ks → SD ks ns → Q (.ref R) (SS s h' tk')) :
    wpAny (model PG w) A (call (.builtin "sorted") [.ref D]) Q E (SS s h tk) := by
  refine sorted_set (s := SS s h tk) hh ⟨o, S.get (.head _), hS⟩ (Nat.lt_of_le_of_lt (sdOf_len ns) hn) fun h' d tk' R oR vs ks hk hR hoR hc hd hi hp hs => ?_
  have S1 := S.sub (List.sublist_cons_self _ _)
  obtain ⟨f1, f2, f3⟩ := fresh_not S1 hR
  obtain ⟨g', k, hg, S2⟩ := ((S1.grown hk).more hoR f1 f2 f3).freeze
  exact hq g' h' (tk', d) R vs ks k S2 ⟨oR, hg, hc, hd⟩ hi (SD.of hp hs)
end
theorem St.change {g h h' : Heap} {L : Addr} {l : List (Str × Value)} {blk blk' nw : List (Addr × Obj)} (S : St g L h l (blk ++ nw)) (hm : blk'.map (·.1) = blk.map (·.1))
    (hk : ∀ b o, b ∉ blk.map (·.1) → h.get? b = some o → h'.get? b = some o) (hb : ∀ p ∈ blk', h'.get? p.1 = some p.2) : St g L h' l (blk' ++ nw) := by
  have hin : ∀ {b : Addr}, b ∈ blk.map (·.1) → b ≠ L ∧ g.get? b = none := fun {b} hb => by
    obtain ⟨p, hp, rfl⟩ := List.mem_map.mp hb
    exact (S.news p (List.mem_append.mpr (.inl hp))).2
  have nd := S.nd
  rw [List.map_append] at nd
  refine ⟨?_, fun b o e => hk b o (fun q => ?_) (S.keep b o e), S.off, fun p hp => ?_, ?_⟩
  · obtain ⟨m, hn, hm⟩ := S.ns
    exact ⟨m, hn.at' fun o e => hk _ _ (fun q => (hin q).1 rfl) e, hm⟩
  · rw [(hin q).2] at e; cases e
  · rcases List.mem_append.mp hp with hp | hp
    · exact ⟨hb p hp, hin (hm ▸ List.mem_map_of_mem hp)⟩
    · have hn := S.news p (List.mem_append.mpr (.inr hp))
      exact ⟨hk _ _ (fun q => (List.nodup_append.mp nd).2.2 _ q _ (List.mem_map_of_mem hp) rfl) hn.1, hn.2⟩
  · rw [List.map_append, hm]; exact nd

theorem St.dropBlk {g h h' : Heap} {L : Addr} {l : List (Str × Value)} {blk nw : List (Addr × Obj)} (S : St g L h l (blk ++ nw))
    (hk : ∀ b o, b ∉ blk.map (·.1) → h.get? b = some o → h'.get? b = some o) : St g L h' l nw := by
  have hin : ∀ {b : Addr}, b ∈ blk.map (·.1) → b ≠ L ∧ g.get? b = none := fun {b} hb => by
    obtain ⟨p, hp, rfl⟩ := List.mem_map.mp hb
    exact (S.news p (List.mem_append.mpr (.inl hp))).2
  have nd := S.nd
  rw [List.map_append] at nd
  refine ⟨?_, fun b o e => hk b o (fun q => ?_) (S.keep b o e), S.off, fun p hp => ?_, (List.nodup_append.mp nd).2.1⟩
  · obtain ⟨m, hn, hm⟩ := S.ns
    exact ⟨m, hn.at' fun o e => hk _ _ (fun q => (hin q).1 rfl) e, hm⟩
  · rw [(hin q).2] at e; cases e
  · have hn := S.news p (List.mem_append.mpr (.inr hp))
    exact ⟨hk _ _ (fun q => (List.nodup_append.mp nd).2.2 _ q _ (List.mem_map_of_mem hp) rfl) hn.1, hn.2⟩

abbrev zo (f0 : Value) (f1 : Bool) (TI TO : Addr) : Obj := { cls := .type "zip", dict := none, data := .fields #[f0, .bool f1, .bool false, .ref TI, .ref TO], slots := #[] }
abbrev pr (a b : Value) : Obj := { cls := .type "tuple", data := .seq #[a, b] }

inductive ZB (l1 l2 : Addr) (k : Nat) (f0 : Value) (f1 : Bool) (blk : List (Addr × Obj)) (z : Addr) : Prop
  | mk (TI TO i1 i2 a b o1 o2) : blk = [(z, zo f0 f1 TI TO), (TI, pr (.ref i1) (.ref i2)), (TO, pr a b), (i1, o1), (i2, o2)] → LI l1 k o1 → LI l2 k o2 → ZB l1 l2 k f0 f1 blk z

section
variable {w : World} {A : Around} {E : Value → Shared → Prop} {s : Shared} {g h : Heap} {tk : TD} {L : Addr} {l l' : List (Str × Value)} {nw nw' : List (Addr × Obj)} {env : Env} {x : Str} {v : Value} {pos : Pos}

theorem zip_apart {l1 l2 z TI TO i1 i2 : Addr} {o0 o1 o2 o3 o4 : Obj} {xs ys : Array Value} (S : St g L h l ([(z, o0), (TI, o1), (TO, o2), (i1, o3), (i2, o4)] ++ nw)) (h1 : g.IsList l1 xs) (h2 : g.IsList l2 ys) : ZipApart z TI TO i1 i2 l1 l2 := by
  have nd := S.nd
  simp only [List.cons_append, List.nil_append, List.map_cons, List.nodup_cons, List.mem_cons, not_or] at nd
  obtain ⟨⟨a1, a2, a3, a4, _⟩, ⟨b1, b2, b3, _⟩, ⟨c1, c2, _⟩, ⟨d1, _⟩, _⟩ := nd
  have hn : ∀ {p : Addr × Obj}, p ∈ [(z, o0), (TI, o1), (TO, o2), (i1, o3), (i2, o4)] → g.get? p.1 = none := fun hp => (S.news _ (List.mem_append.mpr (.inl hp))).2.2
  have ne1 : ∀ {p : Addr × Obj}, p ∈ [(z, o0), (TI, o1), (TO, o2), (i1, o3), (i2, o4)] → l1 ≠ p.1 := fun hp q => by obtain ⟨o, e, _⟩ := h1; rw [q, hn hp] at e; cases e
  have ne2 : ∀ {p : Addr × Obj}, p ∈ [(z, o0), (TI, o1), (TO, o2), (i1, o3), (i2, o4)] → l2 ≠ p.1 := fun hp q => by obtain ⟨o, e, _⟩ := h2; rw [q, hn hp] at e; cases e
  exact ⟨Ne.symm a1, Ne.symm a2, Ne.symm a3, Ne.symm a4, b1, b2, b3, c1, c2, d1, ne1 (p := (z, o0)) (.head _), ne1 (p := (TO, o2)) (.tail _ (.tail _ (.head _))), ne1 (p := (i1, o3)) (.tail _ (.tail _ (.tail _ (.head _)))), ne1 (p := (i2, o4)) (.tail _ (.tail _ (.tail _ (.tail _ (.head _))))),
    ne2 (p := (z, o0)) (.head _), ne2 (p := (TO, o2)) (.tail _ (.tail _ (.head _))), ne2 (p := (i1, o3)) (.tail _ (.tail _ (.tail _ (.head _)))), ne2 (p := (i2, o4)) (.tail _ (.tail _ (.tail _ (.tail _ (.head _)))))⟩

theorem c_zip {l1 l2 : Addr} {xs ys : List Value} {Q : Value → Shared → Prop} (S : St g L h l nw) (h1 : g.IsList l1 xs.toArray) (h2 : g.IsList l2 ys.toArray)
    (hq : ∀ h' z blk, ZB l1 l2 0 .none false blk z → St g L h' l (blk ++ nw) → Q (.ref z) (SS s h' tk)) : wpAny (model PG w) A (call (.type "zip") [.ref l1, .ref l2]) Q E (SS s h tk) := by
  refine call_zip_2 (s := SS s h tk) (isList_keeps h1 S.keep) (isList_keeps h2 S.keep) fun h' hz hTI hTO hi1 hi2 _ hk => ?_
  obtain ⟨o1, e1, c1⟩ := hi1
  obtain ⟨o2, e2, c2⟩ := hi2
  have N : ∀ n, h.get? (h.objs.size + n) = none := fun n => by
    cases e : h.get? (h.objs.size + n) with
    | none => rfl
    | some o => exact absurd (Heap.lt_size e) (Nat.not_lt.mpr (Nat.le_add_right _ _))
  have fr := fun n => fresh_not S (N n)
  have S0 := S.grown (h' := h') hk
  have S1 := S0.more (a := h.objs.size + 1) e2 (fr 1).1 (fr 1).2.1 (fr 1).2.2
  have S2 := S1.more (a := h.objs.size + 0) e1 (fr 0).1 (fr 0).2.1 (fun p hp => by
    rcases List.mem_cons.mp hp with rfl | hp
    · exact Nat.succ_ne_self _
    · exact (fr 0).2.2 p hp)
  have S3 := S2.more (a := h.objs.size + 3) hTO (fr 3).1 (fr 3).2.1 (fun p hp => by
    rcases List.mem_cons.mp hp with rfl | hp
    · exact Nat.ne_of_lt (Nat.add_lt_add_left (by decide) _)
    rcases List.mem_cons.mp hp with rfl | hp
    · exact Nat.ne_of_lt (Nat.add_lt_add_left (by decide) _)
    · exact (fr 3).2.2 p hp)
  have S4 := S3.more (a := h.objs.size + 2) hTI (fr 2).1 (fr 2).2.1 (fun p hp => by
    rcases List.mem_cons.mp hp with rfl | hp
    · exact Nat.ne_of_gt (Nat.add_lt_add_left (by decide) _)
    rcases List.mem_cons.mp hp with rfl | hp
    · exact Nat.ne_of_lt (Nat.add_lt_add_left (by decide) _)
    rcases List.mem_cons.mp hp with rfl | hp
    · exact Nat.ne_of_lt (Nat.add_lt_add_left (by decide) _)
    · exact (fr 2).2.2 p hp)
  have S5 := S4.more (a := h.objs.size + 4) hz (fr 4).1 (fr 4).2.1 (fun p hp => by
    rcases List.mem_cons.mp hp with rfl | hp
    · exact Nat.ne_of_lt (Nat.add_lt_add_left (by decide) _)
    rcases List.mem_cons.mp hp with rfl | hp
    · exact Nat.ne_of_lt (Nat.add_lt_add_left (by decide) _)
    rcases List.mem_cons.mp hp with rfl | hp
    · exact Nat.ne_of_lt (Nat.add_lt_add_left (by decide) _)
    rcases List.mem_cons.mp hp with rfl | hp
    · exact Nat.ne_of_lt (Nat.add_lt_add_left (by decide) _)
    · exact (fr 4).2.2 p hp)
  exact hq h' _ _ ⟨_, _, _, _, _, _, o1, o2, rfl, c1, c2⟩ S5

theorem z_item {l1 l2 z : Addr} {k : Nat} {xs ys : List Value} {vx vy : Value} {blk : List (Addr × Obj)} {Q : Option Value → Shared → Prop} (S : St g L h l (blk ++ nw)) (B : ZB l1 l2 k .none false blk z) (h1 : g.IsList l1 xs.toArray) (h2 : g.IsList l2 ys.toArray)
    (hx : xs[k]? = some vx) (hy : ys[k]? = some vy)
    (hq : ∀ h' T blk' g', g.StaysIn g' → St g' L h' l (blk' ++ nw) → ZB l1 l2 (k + 1) (rawInt (T : Nat)) false blk' z → g'.IsTuple T [vx, vy].toArray → Q (some (.ref T)) (SS s h' tk)) :
    wpAny (model PG w) A (pyNext (.ref z)) Q E (SS s h tk) := by
  obtain ⟨TI, TO, i1, i2, a, b, o1, o2, rfl, c1, c2⟩ := B
  have D := zip_apart S h1 h2
  have gt : ∀ {p : Addr × Obj}, p ∈ [(z, zo .none false TI TO), (TI, pr (.ref i1) (.ref i2)), (TO, pr a b), (i1, o1), (i2, o2)] → h.get? p.1 = some p.2 := fun hp => (S.news _ (List.mem_append.mpr (.inl hp))).1
  refine wpAny_pyNext_zip_item (s := SS s h tk) D (gt (p := (z, zo .none false TI TO)) (.head _)) (gt (p := (TI, pr (.ref i1) (.ref i2))) (.tail _ (.head _))) (gt (p := (TO, pr a b)) (.tail _ (.tail _ (.head _)))) ⟨o1, gt (p := (i1, o1)) (.tail _ (.tail _ (.tail _ (.head _)))), c1⟩ ⟨o2, gt (p := (i2, o2)) (.tail _ (.tail _ (.tail _ (.tail _ (.head _))))), c2⟩
    (isList_keeps h1 S.keep) (isList_keeps h2 S.keep) (by simpa using hx) (by simpa using hy) fun h' hz hTO hi1 hi2 hT hsz hk => ?_
  obtain ⟨o1', e1, c1'⟩ := hi1
  obtain ⟨o2', e2, c2'⟩ := hi2
  have hTI' := hk TI _ D.TIz D.TITO D.TIi1 D.TIi2 (gt (p := (TI, pr (.ref i1) (.ref i2))) (.tail _ (.head _)))
  have S1 := S.change (blk' := [(z, zo (rawInt (h.objs.size : Nat)) false TI TO), (TI, pr (.ref i1) (.ref i2)), (TO, pr vx vy), (i1, o1'), (i2, o2')]) rfl (fun b o hb e => by
      simp only [List.map_cons, List.map_nil, List.mem_cons, List.not_mem_nil, or_false, not_or] at hb
      exact hk b o hb.1 hb.2.2.1 hb.2.2.2.1 hb.2.2.2.2 e) (fun p hp => by
      simp only [List.mem_cons, List.not_mem_nil, or_false] at hp
      rcases hp with rfl | rfl | rfl | rfl | rfl
      · exact hz
      · exact hTI'
      · exact hTO
      · exact e1
      · exact e2)
  have hD : h.get? h.objs.size = none := by
    cases e : h.get? h.objs.size with
    | none => rfl
    | some o => exact absurd (Heap.lt_size e) (Nat.lt_irrefl _)
  obtain ⟨f1, f2, f3⟩ := fresh_not S hD
  have S2 := S1.more hT f1 f2 (fun p hp => by
    have : p.1 ∈ ([(z, zo .none false TI TO), (TI, pr (.ref i1) (.ref i2)), (TO, pr a b), (i1, o1), (i2, o2)] ++ nw).map (·.1) := by
      have := List.mem_map_of_mem (f := (·.1)) hp
      simpa using this
    obtain ⟨q, hq', e⟩ := List.mem_map.mp this
    exact e ▸ f3 q hq')
  obtain ⟨g', k', hg, S3⟩ := S2.freeze
  exact hq h' _ _ g' k' S3 ⟨_, _, _, _, _, _, _, _, rfl, c1', c2'⟩ ⟨_, hg, rfl, 0, rfl⟩

theorem z_own {l1 l2 z : Addr} {k T : Nat} {blk : List (Addr × Obj)} {elts : List Expr} {kk : Nat} {Q : Unit → Shared → Prop} (S : St g L h l (blk ++ nw)) (B : ZB l1 l2 k (rawInt (T : Nat)) false blk z)
    (hq : ∀ h' blk', St g L h' l (blk' ++ nw) → ZB l1 l2 k .none false blk' z → Q () (SS s h' tk)) :
    wpAny (model PG w) A (letOwnedTupleGo (.Tuple elts kk pos) (.ref z) (.ref T)) Q E (SS s h tk) := by
  obtain ⟨TI, TO, i1, i2, a, b, o1, o2, rfl, c1, c2⟩ := B
  refine wpAny_letOwnedTupleGo_zip (s := SS s h tk) (z := z) (TI := TI) (TO := TO) (S.news (z, _) (.head _)).1 fun h' hz hs => ?_
  have S1 := S.upd (d := z) (o' := zo .none false TI TO) .head hz hs
  exact hq h' [(z, zo .none false TI TO), (TI, pr (.ref i1) (.ref i2)), (TO, pr a b), (i1, o1), (i2, o2)] S1 ⟨_, _, _, _, _, _, _, _, rfl, c1, c2⟩

theorem z_end {l1 l2 z : Addr} {k : Nat} {xs ys : List Value} {blk : List (Addr × Obj)} {Q : Option Value → Shared → Prop} (S : St g L h l (blk ++ nw)) (hh : A.handled = none) (B : ZB l1 l2 k .none false blk z) (h1 : g.IsList l1 xs.toArray) (h2 : g.IsList l2 ys.toArray)
    (hx : xs[k]? = none) (hq : ∀ h', St g L h' l nw → Q none (SS s h' tk)) : wpAny (model PG w) A (pyNext (.ref z)) Q E (SS s h tk) := by
  obtain ⟨TI, TO, i1, i2, a, b, o1, o2, rfl, c1, c2⟩ := B
  have D := zip_apart S h1 h2
  have gt : ∀ {p : Addr × Obj}, p ∈ [(z, zo .none false TI TO), (TI, pr (.ref i1) (.ref i2)), (TO, pr a b), (i1, o1), (i2, o2)] → h.get? p.1 = some p.2 := fun hp => (S.news _ (List.mem_append.mpr (.inl hp))).1
  refine wpAny_pyNext_zip_end (s := SS s h tk) hh D (gt (p := (z, zo .none false TI TO)) (.head _)) (gt (p := (TI, pr (.ref i1) (.ref i2))) (.tail _ (.head _))) (gt (p := (TO, pr a b)) (.tail _ (.tail _ (.head _)))) ⟨o1, gt (p := (i1, o1)) (.tail _ (.tail _ (.tail _ (.head _)))), c1⟩ ⟨o2, gt (p := (i2, o2)) (.tail _ (.tail _ (.tail _ (.tail _ (.head _))))), c2⟩
    (isList_keeps h1 S.keep) (isList_keeps h2 S.keep) (.inl (by simpa using hx)) fun h' hk => ?_
  refine hq h' (S.dropBlk (blk := [(z, zo .none false TI TO), (TI, pr (.ref i1) (.ref i2)), (TO, pr a b), (i1, o1), (i2, o2)]) fun b o hb e => ?_)
  simp only [List.map_cons, List.map_nil, List.mem_cons, List.not_mem_nil, or_false, not_or] at hb
  exact hk b o hb.1 hb.2.2.1 hb.2.2.2.1 hb.2.2.2.2 e
end
section
variable {w : World} {A : Around} {E : Value → Shared → Prop} {s : Shared} {g h : Heap} {tk : TD} {L : Addr} {l l' : List (Str × Value)} {nw nw' : List (Addr × Obj)} {env : Env} {x : Str} {v : Value} {pos : Pos}

theorem wpAny_alive {a : Addr} {Q : Option Obj → Shared → Prop} (h : Q (s.heap.get? a) s) : wpAny (model PG w) A (loadIfAlive a) Q E s := fun Γ p hΓ => by
  unfold loadIfAlive
  rw [Sem.wp_loadIfAlive]
  exact h

theorem zk_body {z TI TO i1 i2 T0 : Addr} {f1 : Bool} {oT : Obj} {Q : Fin → Shared → Prop} (hz : s.heap.get? z = some (zo (rawInt (T0 : Nat)) f1 TI TO)) (hTI : s.heap.get? TI = some (pr (.ref i1) (.ref i2))) (hT : s.heap.get? T0 = some oT)
    (hq : ∀ h', h'.get? z = some (zo (rawInt (T0 : Nat)) true TI TO) → Heap.SameBut z s.heap h' →
      wpAny (model PG w) A (Builtin.SmallTypes.nextOf (.ref i1)) (fun x s₁ => wpAny (model PG w) A (Builtin.SmallTypes.nextOf (.ref i2)) (fun y s₂ => wpAny (model PG w) A (newTuple [x, y]) (fun r s₃ => Q (.done (.ret r)) s₃) E s₂) E s₁) E { s with heap := h' }) :
    wpAny (model PG w) A (Builtin.«zip.__next__» ⟨[.ref z], []⟩) Q E s := by
  change wpAny _ A (field (.ref z) 2 >>= _) Q E s
  refine wpAny_bind (wpAny_field (i := 2) hz rfl (x := .bool false) rfl (wpAny_bind (wpAny_field (i := 3) hz rfl (x := .ref TI) rfl (wpAny_bind (wpAny_seqItems hTI rfl ?_)))))
  refine wpAny_bind (wpAny_bind (wpAny_field (i := 0) hz rfl (x := rawInt (T0 : Nat)) rfl (wpAny_bind (wpAny_alive (a := T0) ?_))))
  rw [hT]
  simp only [Option.isNone_some, Bool.false_eq_true, if_false]
  refine wpAny_bind (wpAny_field hz rfl (x := .bool f1) rfl ?_)
  have both : ∀ {F : Unit → Sem Bool} {P : Bool → Shared → Prop}, (∀ h', h'.get? z = some (zo (rawInt (T0 : Nat)) true TI TO) → Heap.SameBut z s.heap h' → wpAny (model PG w) A (F ()) P E { s with heap := h' }) →
      wpAny (model PG w) A (if (Value.bool f1 != Value.bool true) = true then setField (.ref z) 1 (.bool true) >>= F else F ()) P E s := fun {F P} hF => by
    cases f1 with
    | true => exact hF s.heap hz (.refl _ _)
    | false => exact wpAny_bind (wpAny_setField_rec hz (by simp) fun h' g k => hF h' g k)
  refine both ?_
  intro h' hz' hs
  refine wpAny_pure ?_
  rw [if_neg Bool.false_ne_true]
  simp only [List.forIn_toArray, List.forIn_cons, List.forIn_nil]
  refine wpAny_bind (wpAny_bind (wpAny_bind (wpAny_holding (wpAny_bind (wpAny_mono (hq h' hz' hs) (fun x s₁ h₁ => wpAny_pure (wpAny_pure ?_)) fun _ _ e => e)))))
  refine wpAny_bind (wpAny_bind (wpAny_holding (wpAny_bind (wpAny_mono h₁ (fun y s₂ h₂ => wpAny_pure (wpAny_pure (wpAny_pure ?_))) fun _ _ e => e))))
  exact wpAny_bind (wpAny_mono h₂ (fun r s₃ h₃ => wpAny_pure h₃) fun _ _ e => e)

theorem zk_item {l1 l2 z T0 : Addr} {k : Nat} {f1 : Bool} {oT : Obj} {xs ys : List Value} {vx vy : Value} {blk : List (Addr × Obj)} {Q : Option Value → Shared → Prop} (S : St g L h l (blk ++ nw)) (B : ZB l1 l2 k (rawInt (T0 : Nat)) f1 blk z) (hT0 : g.get? T0 = some oT)
    (h1 : g.IsList l1 xs.toArray) (h2 : g.IsList l2 ys.toArray) (hx : xs[k]? = some vx) (hy : ys[k]? = some vy)
    (hq : ∀ h' T blk' g', g.StaysIn g' → St g' L h' l (blk' ++ nw) → ZB l1 l2 (k + 1) (rawInt (T0 : Nat)) true blk' z → g'.IsTuple T [vx, vy].toArray → Q (some (.ref T)) (SS s h' tk)) :
    wpAny (model PG w) A (pyNext (.ref z)) Q E (SS s h tk) := by
  obtain ⟨TI, TO, i1, i2, a, b, o1, o2, rfl, c1, c2⟩ := B
  have D := zip_apart S h1 h2
  have gt : ∀ {p : Addr × Obj}, p ∈ [(z, zo (rawInt (T0 : Nat)) f1 TI TO), (TI, pr (.ref i1) (.ref i2)), (TO, pr a b), (i1, o1), (i2, o2)] → h.get? p.1 = some p.2 := fun hp => (S.news _ (List.mem_append.mpr (.inl hp))).1
  have hz := gt (p := (z, zo (rawInt (T0 : Nat)) f1 TI TO)) (.head _)
  have hT : (SS s h tk).TypeIs (.ref z) "zip" := ⟨_, hz, rfl⟩
  unfold pyNext
  refine wpAny_bind (wpAny_attempt (wpAny_callSpecial?_slot (name := Str.ofString "__next__") hT PySem.F.slot_zip_next (wpAny_call_entry PySem.F.slot_zip_next hT PySem.F.entry_zip_next
    (zk_body (s := SS s h tk) hz (gt (p := (TI, pr (.ref i1) (.ref i2))) (.tail _ (.head _))) (S.keep _ _ hT0) fun h₁ hz₁ hs₁ => ?_) (PySem.F.args_zip_next_1 _))))
  have L1 := isList_keeps h1 S.keep
  have L2 := isList_keeps h2 S.keep
  refine wpAny_nextOf_list_item (s := { SS s h tk with heap := h₁ }) (it := i1) (l := l1) (i := k) (items := xs.toArray) ⟨o1, hs₁.extBut _ _ D.i1z (gt (p := (i1, o1)) (.tail _ (.tail _ (.tail _ (.head _))))), c1⟩ (L1.extBut hs₁.extBut D.l1z) (by simpa using hx) fun h₂ hi₂ hs₂ => ?_
  refine wpAny_nextOf_list_item (s := { SS s h tk with heap := h₂ }) (it := i2) (l := l2) (i := k) (items := ys.toArray) ⟨o2, hs₂.extBut _ _ D.i12.symm (hs₁.extBut _ _ D.i2z (gt (p := (i2, o2)) (.tail _ (.tail _ (.tail _ (.tail _ (.head _))))))), c2⟩
    ((L2.extBut hs₁.extBut D.l2z).extBut hs₂.extBut D.l2i1) (by simpa using hy) fun h₃ hi₃ hs₃ => ?_
  obtain ⟨o1', e1, c1'⟩ := hi₂
  obtain ⟨o2', e2, c2'⟩ := hi₃
  have S1 := S.change (h' := h₃) (blk' := [(z, zo (rawInt (T0 : Nat)) true TI TO), (TI, pr (.ref i1) (.ref i2)), (TO, pr a b), (i1, o1'), (i2, o2')]) rfl (fun b o hb e => by
      simp only [List.map_cons, List.map_nil, List.mem_cons, List.not_mem_nil, or_false, not_or] at hb
      exact hs₃.extBut _ _ hb.2.2.2.2 (hs₂.extBut _ _ hb.2.2.2.1 (hs₁.extBut _ _ hb.1 e))) (fun p hp => by
      simp only [List.mem_cons, List.not_mem_nil, or_false] at hp
      rcases hp with rfl | rfl | rfl | rfl | rfl
      · exact hs₃.extBut _ _ D.i2z.symm (hs₂.extBut _ _ D.i1z.symm hz₁)
      · exact hs₃.extBut _ _ D.TIi2 (hs₂.extBut _ _ D.TIi1 (hs₁.extBut _ _ D.TIz (gt (p := (TI, pr (.ref i1) (.ref i2))) (.tail _ (.head _)))))
      · exact hs₃.extBut _ _ D.TOi2 (hs₂.extBut _ _ D.TOi1 (hs₁.extBut _ _ D.TOz (gt (p := (TO, pr a b)) (.tail _ (.tail _ (.head _))))))
      · exact hs₃.extBut _ _ D.i12 e1
      · exact e2)
  refine newTup (vs := [vx, vy]) (s := s) (tk := tk) S1 fun h₄ g₄ T k₄ S₄ hT₄ => ?_
  refine ⟨_, rfl, wpAny_pure ?_⟩
  exact hq h₄ T _ g₄ k₄ S₄ ⟨_, _, _, _, _, _, _, _, rfl, c1', c2'⟩ hT₄

theorem zk_end {l1 l2 z T0 : Addr} {k : Nat} {f1 : Bool} {oT : Obj} {xs ys : List Value} {blk : List (Addr × Obj)} {Q : Option Value → Shared → Prop} (S : St g L h l (blk ++ nw)) (hh : A.handled = none) (B : ZB l1 l2 k (rawInt (T0 : Nat)) f1 blk z) (hT0 : g.get? T0 = some oT)
    (h1 : g.IsList l1 xs.toArray) (h2 : g.IsList l2 ys.toArray) (hx : xs[k]? = none) (hq : ∀ h', St g L h' l nw → Q none (SS s h' tk)) : wpAny (model PG w) A (pyNext (.ref z)) Q E (SS s h tk) := by
  obtain ⟨TI, TO, i1, i2, a, b, o1, o2, rfl, c1, c2⟩ := B
  have D := zip_apart S h1 h2
  have gt : ∀ {p : Addr × Obj}, p ∈ [(z, zo (rawInt (T0 : Nat)) f1 TI TO), (TI, pr (.ref i1) (.ref i2)), (TO, pr a b), (i1, o1), (i2, o2)] → h.get? p.1 = some p.2 := fun hp => (S.news _ (List.mem_append.mpr (.inl hp))).1
  have hz := gt (p := (z, zo (rawInt (T0 : Nat)) f1 TI TO)) (.head _)
  have hT : (SS s h tk).TypeIs (.ref z) "zip" := ⟨_, hz, rfl⟩
  unfold pyNext
  refine wpAny_bind (wpAny_attempt (wpAny_callSpecial?_slot (name := Str.ofString "__next__") hT PySem.F.slot_zip_next (wpAny_call_entry PySem.F.slot_zip_next hT PySem.F.entry_zip_next
    (zk_body (s := SS s h tk) hz (gt (p := (TI, pr (.ref i1) (.ref i2))) (.tail _ (.head _))) (S.keep _ _ hT0) fun h₁ hz₁ hs₁ => ?_) (PySem.F.args_zip_next_1 _))))
  have L1 := isList_keeps h1 S.keep
  refine wpAny_nextOf_list_end (s := { SS s h tk with heap := h₁ }) (it := i1) (l := l1) (i := k) (items := xs.toArray) hh ⟨o1, hs₁.extBut _ _ D.i1z (gt (p := (i1, o1)) (.tail _ (.tail _ (.tail _ (.head _))))), c1⟩ (L1.extBut hs₁.extBut D.l1z) (by simpa using hx) fun h₂ e hs₂ he => ?_
  obtain ⟨oe, hoe, hce⟩ := he
  refine wpAny_bind (wpAny_isInstance (T := "StopIteration") (b := true) ⟨oe, hoe, hce⟩ isSubtype_stop ?_)
  refine wpAny_pure (hq h₂ (S.dropBlk (blk := [(z, zo (rawInt (T0 : Nat)) f1 TI TO), (TI, pr (.ref i1) (.ref i2)), (TO, pr a b), (i1, o1), (i2, o2)]) fun b o hb e => ?_))
  simp only [List.map_cons, List.map_nil, List.mem_cons, List.not_mem_nil, or_false, not_or] at hb
  exact hs₂ _ _ hb.2.2.2.1 (hs₁.extBut _ _ hb.1 e)
end

theorem Up.append {d : Addr} {o o' : Obj} {r r' : List (Addr × Obj)} (u : Up d o o' r r') : ∀ blk : List (Addr × Obj), Up d o o' (blk ++ r) (blk ++ r')
  | [] => u
  | _ :: b => .tail (Up.append u b)

def PairAt (g : Heap) (v : Value) (p : Value × Value) : Prop := ∃ T, v = .ref T ∧ g.IsTuple T [p.1, p.2].toArray
theorem PairAt.mono {g g' : Heap} (k : g.StaysIn g') (v : Value) (p : Value × Value) (H : PairAt g v p) : PairAt g' v p := let ⟨T, a, b⟩ := H; ⟨T, a, isTuple_keeps b k⟩

section
variable {w : World} {A : Around} {E : Value → Shared → Prop} {s : Shared} {g h : Heap} {tk : TD} {L : Addr} {l l' : List (Str × Value)} {nw nw' : List (Addr × Obj)} {env : Env} {x : Str} {v : Value} {pos : Pos}

theorem lz_loop {l1 l2 z D : Addr} {xs ys : List Value} {n : Nat} {res : Value} {R : Result → Shared → Prop} (hh : A.handled = none) (hnx : xs.length = n) (hny : ys.length = n) (hn : n ≤ 1000) :
    ∀ (m k : Nat) (g h : Heap) (tk : TD) (oD : Obj) (vs : List Value) (blk : List (Addr × Obj)), k + m = n → g.IsList l1 xs.toArray → g.IsList l2 ys.toArray → St g L h l (blk ++ (D, oD) :: nw) → PL oD vs → Paired (PairAt g) vs ((xs.zip ys).take k) →
      (ZB l1 l2 k .none false blk z ∧ k = 0 ∨ ∃ T0 f1 oT, ZB l1 l2 k (rawInt (T0 : Nat)) f1 blk z ∧ g.get? T0 = some oT) →
      (∀ g' h' tk' oD' vs', g.StaysIn g' → St g' L h' l ((D, oD') :: nw) → PL oD' vs' → Paired (PairAt g') vs' (xs.zip ys) → R (.ok (.ret res)) (SS s h' tk')) →
      codeAny (model PG w) A (.builtin "list.extend.loop" ⟨[.ref D, .ref z, res], []⟩) R (SS s h tk)
  | 0, k, g, h, tk, oD, vs, blk, hk, h1, h2, S, hD, hP, hB, hR => by
    cases hk
    have hzl : (xs.zip ys).take k = xs.zip ys := List.take_of_length_le (Nat.le_trans (List.length_zip ▸ Nat.min_le_left ..) (Nat.le_of_eq hnx))
    refine codeAny_builtin PySem.F.entry_extend_loop ?_
    rw [Around.under_plainId PySem.F.plain_extend_loop _]
    show wpAny _ A.in1 (pyNext (.ref z) >>= _) _ _ _
    refine wpAny_bind ?_
    have fin : ∀ h', St g L h' l ((D, oD) :: nw) → R (.ok (.ret res)) (SS s h' tk) := fun h' S' => hR g h' tk oD vs (fun _ _ e => e) S' hD (by rw [hzl] at hP; exact hP)
    rcases hB with ⟨B, _⟩ | ⟨T0, f1, oT, B, hT⟩
    · exact z_end (A := A.in1) S hh B h1 h2 (List.getElem?_eq_none (Nat.le_of_eq hnx)) fun h' S' => wpAny_pure (fin h' S')
    · exact zk_end (A := A.in1) S hh B hT h1 h2 (List.getElem?_eq_none (Nat.le_of_eq hnx)) fun h' S' => wpAny_pure (fin h' S')
  | m + 1, k, g, h, tk, oD, vs, blk, hk, h1, h2, S, hD, hP, hB, hR => by
    have hkn : k < n := hk ▸ Nat.lt_add_of_pos_right (Nat.succ_pos m)
    have hkx : k < xs.length := hnx.symm ▸ hkn
    have hky : k < ys.length := hny.symm ▸ hkn
    have hx : xs[k]? = some xs[k] := List.getElem?_eq_getElem hkx
    have hy : ys[k]? = some ys[k] := List.getElem?_eq_getElem hky
    have htake : (xs.zip ys).take (k + 1) = (xs.zip ys).take k ++ [(xs[k], ys[k])] := by
      rw [List.take_add_one, List.getElem?_zip_eq_some (z := (xs[k], ys[k])).mpr ⟨hx, hy⟩]; rfl
    have hvl : vs.length ≤ 1000 := hP.length ▸ Nat.le_trans (List.length_take_le ..) (Nat.le_trans (Nat.le_of_lt hkn) hn)
    refine codeAny_builtin PySem.F.entry_extend_loop ?_
    rw [Around.under_plainId PySem.F.plain_extend_loop _]
    show wpAny _ A.in1 (pyNext (.ref z) >>= _) _ _ _
    refine wpAny_bind ?_
    have step : ∀ h' T blk' g' T0 f1 oT, g.StaysIn g' → St g' L h' l (blk' ++ (D, oD) :: nw) → ZB l1 l2 (k + 1) (rawInt (T0 : Nat)) f1 blk' z → g'.get? T0 = some oT → g'.IsTuple T [xs[k], ys[k]].toArray →
        wpAny (model PG w) A.in1 (do updateSeq D (·.push (.ref T)); again (.builtin "list.extend.loop" ⟨[.ref D, .ref z, res], []⟩)) (fun fin s' => match fin with | .done f => R (.ok f) s' | .again c' => c'.quiet = true ∧ codeAny (model PG w) A c' R s') (fun e s' => R (.error e) s') (SS s h' tk) := by
      intro h' T blk' g' T0 f1 oT kg S' B' hT0 hT
      obtain ⟨c, rfl⟩ := hD
      have hg := (S'.news _ (List.mem_append.mpr (.inr (.head _)))).1
      refine wpAny_bind (wpAny_updateSeq (s := SS s h' tk) hg rfl ?_ (Nat.le_trans hvl thousand) (by
        show (vs.toArray.push (.ref T)).size ≤ sizeLine + 1
        rw [Array.size_push]
        exact Nat.succ_le_succ (Nat.le_trans hvl thousand)))
      have hsb : Heap.SameBut D h' (h'.update D (Obj.mapSeq (·.push (.ref T)))) := Heap.SameBut.update ..
      have hnew : (h'.update D (Obj.mapSeq (·.push (.ref T)))).get? D = some (Obj.mapSeq (·.push (.ref T)) { cls := .type "list", data := .seq vs.toArray c }) := Heap.get?_update_self _ hg rfl
      have S'' := S'.upd (Up.append .head blk') hnew hsb
      refine wpAny_pure ⟨plainId_quiet PySem.F.plain_extend_loop _, ?_⟩
      refine lz_loop hh hnx hny hn m (k + 1) g' _ tk _ (vs ++ [.ref T]) blk' ((Nat.add_right_comm k 1 m).trans hk) (isList_keeps h1 kg) (isList_keeps h2 kg) S'' ⟨c + 1, by simp [Obj.mapSeq]⟩ (by rw [htake]; exact (pmono (PairAt.mono kg) hP).snoc ⟨T, rfl, hT⟩) (.inr ⟨T0, f1, oT, B', hT0⟩)
        fun g₂ h₂ tk₂ oD₂ vs₂ k₂ => hR g₂ h₂ tk₂ oD₂ vs₂ (fun _ _ e => k₂ _ _ (kg _ _ e))
    rcases hB with ⟨B, _⟩ | ⟨T0, f1, oT, B, hT⟩
    · refine z_item (A := A.in1) S B h1 h2 hx hy fun h' T blk' g' kg S' B' hT => ?_
      obtain ⟨oT, eT, _⟩ := id hT
      exact step h' T blk' g' T false oT kg S' B' eT hT
    · refine zk_item (A := A.in1) S B hT h1 h2 hx hy fun h' T blk' g' kg S' B' hT' => ?_
      exact step h' T blk' g' T0 true oT kg S' B' (kg _ _ hT) hT'
end
theorem zip_no_len : typeLookup (.type "zip") "__len__" = pure none := by rw [typeLookup_type, builtinLookup_eq_fast]; kernel_rfl
theorem zip_no_hint : typeLookup (.type "zip") "__length_hint__" = pure none := by rw [typeLookup_type, builtinLookup_eq_fast]; kernel_rfl

section
variable {w : World} {A : Around} {E : Value → Shared → Prop} {s : Shared} {g h : Heap} {tk : TD} {L : Addr} {l l' : List (Str × Value)} {nw nw' : List (Addr × Obj)} {env : Env} {x : Str} {v : Value} {pos : Pos}

theorem c_listZip {l1 l2 z : Addr} {xs ys : List Value} {blk : List (Addr × Obj)} {Q : Value → Shared → Prop} (S : St g L h l (blk ++ nw)) (hh : A.handled = none) (B : ZB l1 l2 0 .none false blk z) (h1 : g.IsList l1 xs.toArray) (h2 : g.IsList l2 ys.toArray)
    (hxy : ys.length = xs.length) (hn : xs.length ≤ 1000)
    (hq : ∀ g' h' tk' D vs, g.StaysIn g' → St g' L h' l nw → g'.IsList D (List.toArray vs) → Paired (PairAt g') vs (xs.zip ys) → Q (.ref D) (SS s h' tk')) :
    wpAny (model PG w) A (call (.type "list") [.ref z]) Q E (SS s h tk) := by
  refine callType_codes (s := SS s h tk) (Q₁ := fun obj s₁ => obj = .ref h.objs.size ∧ s₁ = SS s (h.push { cls := .type "list", data := .seq #[] }) tk) PySem.F.called_list (PySem.F.typeCall_list_1 _) PySem.F.entry_list_init
    (code_list_new _ ⟨rfl, rfl⟩) fun obj s₁ h₁ => ?_
  obtain ⟨rfl, rfl⟩ := h₁
  have hS : (h.push { cls := .type "list", data := .seq #[] }).get? h.objs.size = some { cls := .type "list", data := .seq #[] } := Heap.get?_push_size _ rfl
  refine ⟨⟨_, hS, rfl⟩, PySem.F.args_list_init_2 _ _, ?_⟩
  have S1 := S.push { cls := .type "list", data := .seq #[] }
  generalize h.objs.size = D at S1 hS
  generalize h.push { cls := .type "list", data := .seq #[] } = H at S1 hS
  have S2 : St g L H l (blk ++ (D, { cls := .type "list", data := .seq #[] }) :: nw) := S1.perm (List.perm_middle.symm)
  have hzm : ∃ TI TO, (z, zo .none false TI TO) ∈ blk := by
    obtain ⟨TI, TO, i1, i2, a, b, o1, o2, rfl, _, _⟩ := B
    exact ⟨TI, TO, by simp⟩
  obtain ⟨TI, TO, hzm⟩ := hzm
  refine wpAny_bind (m := Builtin.List.listItems (.ref D)) (wpAny_bind (wpAny_seqItems hS rfl (wpAny_pure ?_)))
  refine wpAny_bind (m := updateSeq D (fun _ => #[])) (wpAny_updateSeq hS rfl ?_)
  have hS₂ := Heap.get?_update_self (Obj.mapSeq (fun _ => (#[] : Array Value))) hS rfl
  have S3 := S2.upd (Up.append .head blk) hS₂ (Heap.SameBut.update ..)
  refine wpAny_bind (wpAny_letGo ?_)
  show wpAny _ A.in1.in1 (Builtin.List.listExtendWith (.ref D) (.ref z) .none) _ _ (SS s (H.update D (Obj.mapSeq fun _ => #[])) tk)
  generalize H.update D (Obj.mapSeq fun _ => #[]) = H3 at S3 hS₂
  have hz3 : H3.get? z = some (zo .none false TI TO) := (S3.news _ (List.mem_append.mpr (.inl hzm))).1
  have hT3 : (SS s H3 tk).TypeIs (.ref z) "zip" := ⟨_, hz3, rfl⟩
  have hDz : D ≠ z := by
    have nd := S3.nd
    rw [List.map_append, List.map_cons] at nd
    intro q
    exact (List.nodup_append.mp nd).2.2 z (List.mem_map_of_mem (f := (·.1)) hzm) D (by simp) q.symm
  show wpAny _ A.in1.in1 (Builtin.List.listExtendWith (.ref D) (.ref z) .none) _ _ (SS s H3 tk)
  unfold Builtin.List.listExtendWith
  refine wpAny_bind (wpAny_typeOf hT3 ?_)
  have e1 : Builtin.List.listSameRef (.ref D) (.ref z) = false := by simp [Builtin.List.listSameRef, hDz]
  have e2 : (Value.type "zip" == Value.type "list") = false := by decide
  have e3 : (Value.type "zip" == Value.type "tuple") = false := by decide
  simp only [e1, e2, e3, Bool.or_false, Bool.false_eq_true, if_false]
  refine wpAny_bind (wpAny_pyIter_zip (s := SS s H3 tk) (z := z) (TI := TI) (TO := TO) hz3 ?_)
  refine wpAny_bind (wpAny_holding ?_)
  unfold Builtin.List.listLengthHint
  refine wpAny_bind (wpAny_specialOf hT3 zip_no_len ?_)
  show wpAny _ A.in1.in1 (specialOf (Value.ref z) (Str.ofString "__length_hint__") >>= _) _ _ _
  refine wpAny_bind (wpAny_specialOf hT3 zip_no_hint ?_)
  refine wpAny_pure ?_
  show wpAny _ A.in1.in1 (rule _ >>= _) _ _ _
  refine wpAny_bind (wpAny_rule (wpAny_bind ?_))
  show wpAny _ A.in1.in1 (updateSeq D (·.push .none) >>= _) _ _ _
  refine wpAny_bind (wpAny_updateSeq (s := SS s H3 tk) hS₂ rfl ?_)
  have hS₃ := Heap.get?_update_self (Obj.mapSeq (·.push Value.none)) hS₂ rfl
  have S4 := S3.upd (Up.append .head blk) hS₃ (Heap.SameBut.update ..)
  refine wpAny_updateSeq (hz := by seq_fits) hS₃ rfl ?_
  have hS₄ := Heap.get?_update_self (Obj.mapSeq (·.pop)) hS₃ rfl
  have S5 := S4.upd (Up.append .head blk) hS₄ (Heap.SameBut.update ..)
  refine wpAny_pure ⟨plainId_quiet PySem.F.plain_extend_loop _, ?_⟩
  refine lz_loop (A := A.in1) (xs := xs) (ys := ys) (n := xs.length) hh rfl hxy hn xs.length 0 g _ tk _ [] blk (Nat.zero_add _) h1 h2 S5 ⟨_, rfl⟩ .nil (.inl ⟨B, rfl⟩) fun g' h' tk' oD' vs' k' S' hD' hP' => ?_
  obtain ⟨g'', k'', hg, S''⟩ := S'.freeze
  refine ⟨rfl, ?_⟩
  exact hq g'' h' tk' D vs' (fun _ _ e => k'' _ _ (k' _ _ e)) S'' (hD'.lst.isList hg) (pmono (PairAt.mono k'') hP')
end
section
variable {w : World} {A : Around} {E : Value → Shared → Prop} {s : Shared} {g h : Heap} {tk : TD} {L : Addr} {l l' : List (Str × Value)} {nw nw' : List (Addr × Obj)} {env : Env} {x y : Str} {v : Value} {pos px py : Pos}

theorem c_addL {a b : Addr} {vs ws : List Value} {Q : Value → Shared → Prop} (S : St g L h l nw) (ha : g.IsList a vs.toArray) (hb : g.IsList b ws.toArray) (hz : vs.length + ws.length ≤ 1000)
    (hq : ∀ g' h' D, g.StaysIn g' → St g' L h' l nw → g'.IsList D (vs ++ ws).toArray → Q (.ref D) (SS s h' tk)) :
    wpAny (model PG w) A (binaryOp .Add (.ref a) (.ref b)) Q E (SS s h tk) := by
  obtain ⟨m, Fr1, N1, hm⟩ := S.br
  refine add_lists (s := SS s h tk) Fr1 (N1 [L] (.head _)) (isList_keeps ha S.keep) (isList_keeps hb S.keep) (fun h' F' N' => ?_) (Nat.le_trans hz thousand)
  have S' := S.unbr F' hm N' (fun p hp => .tail _ hp)
  have hnew := N' _ (.head _)
  have hD : h.get? h.objs.size = none := by
    cases e : h.get? h.objs.size with
    | none => rfl
    | some o => exact absurd (Heap.lt_size e) (Nat.lt_irrefl _)
  obtain ⟨f1, f2, f3⟩ := fresh_not S hD
  obtain ⟨g', k, hg, S3⟩ := (S'.more (a := h.objs.size) hnew.1 f1 f2 f3).freeze
  exact hq g' h' _ k S3 ⟨_, hg, rfl, _, rfl⟩

inductive ZInv (s : Shared) (g₁ : Heap) (L l1 l2 z : Addr) (n : Nat) (J : Nat → Heap → List (Str × Value) → List (Addr × Obj) → Prop) (k : Nat) (s' : Shared) : Prop
  | mk (i g' h' tk' l' nw' blk') : k = n - i → i ≤ n → s' = SS s h' tk' → g₁.StaysIn g' → J i g' l' nw' → ZB l1 l2 i .none false blk' z → St g' L h' l' (blk' ++ nw') → ZInv s g₁ L l1 l2 z n J k s'

inductive ZEnd (s : Shared) (g : Heap) (L : Addr) (blk : List (Addr × Obj)) (J : Heap → List (Str × Value) → List (Addr × Obj) → Prop) (s₃ : Shared) : Prop
  | mk (g₃ h₃ tk₃ l₃ nw₃) : s₃ = SS s h₃ tk₃ → g.StaysIn g₃ → J g₃ l₃ nw₃ → St g₃ L h₃ l₃ (blk ++ nw₃) → ZEnd s g L blk J s₃

inductive ForZ (w : World) (A : Around) (s : Shared) (L : Addr) (env : Env) (x y : Str) (body orelse : List Stmt) (Q : Flow → Shared → Prop) (xv : Value) (s₂ : Shared) : Prop
  | mk (l1 l2 : Addr) (xs ys : List Value) (J : Nat → Heap → List (Str × Value) → List (Addr × Obj) → Prop) (g₁ h₁ : Heap) (tk₁ : TD) (l₁ : List (Str × Value)) (nw₁ blk : List (Addr × Obj)) (z : Addr)
    (eqs : s₂ = SS s h₁ tk₁) (eqi : xv = .ref z) (S : St g₁ L h₁ l₁ (blk ++ nw₁)) (B : ZB l1 l2 0 .none false blk z) (h1 : g₁.IsList l1 xs.toArray) (h2 : g₁.IsList l2 ys.toArray) (hxy : ys.length = xs.length) (J0 : J 0 g₁ l₁ nw₁)
    (step : ∀ i vx vy g' g'' h' tk' l' nw' blk' E' (K : Flow → Shared → Prop), i < xs.length → xs[i]? = some vx → ys[i]? = some vy → g₁.StaysIn g' → g'.StaysIn g'' → J i g' l' nw' → St g'' L h' l' (blk' ++ nw') →
      (∀ s₃, ZEnd s g'' L blk' (J (i + 1)) s₃ → K .next s₃) →
      wpAny (model PG w) A (storeName env x vx) (fun _ s₁ => wpAny (model PG w) A (storeName env y vy) (fun _ s₂ => wpAny (model PG w) A (execs body env) K E' s₂) E' s₁) E' (SS s h' tk'))
    (done : ∀ g' h' tk' l' nw' E', g₁.StaysIn g' → J xs.length g' l' nw' → St g' L h' l' nw' → wpAny (model PG w) A (execs orelse env) Q E' (SS s h' tk')) : ForZ w A s L env x y body orelse Q xv s₂

theorem for_Z {iter : Expr} {body orelse : List Stmt} {Q : Flow → Shared → Prop} {kk : Nat} {tpos : Pos} (hh : A.handled = none)
    (hq : ∀ K : Value → Shared → Prop, (∀ xv s₂, ForZ w A s L env x y body orelse Q xv s₂ → K xv s₂) → wpAny (model PG w) A (eval iter env) K E (SS s h tk))
    (hs : ∀ x, foldedSetIterable iter env x = pure x := by intro _; rfl) :
    wpAny (model PG w) A (exec (.For (.Tuple [.Name x px, .Name y py] kk tpos) iter body orelse pos) env) Q E (SS s h tk) := by
  refine wpAny_For (hq _ fun xv s₂ h₂ => ?_) hs
  obtain ⟨l1, l2, xs, ys, J, g₁, h₁, tk₁, l₁, nw₁, blk, z, rfl, rfl, S, B, h1, h2, hxy, J0, step, done⟩ := h₂
  have hzm : ∃ TI TO, (z, zo .none false TI TO) ∈ blk := by
    obtain ⟨TI, TO, i1, i2, a, b, o1, o2, rfl, _, _⟩ := B
    exact ⟨TI, TO, by simp⟩
  obtain ⟨TI, TO, hzm⟩ := hzm
  refine wpAny_pyIter_zip (s := SS s h₁ tk₁) (TI := TI) (TO := TO) (S.news _ (List.mem_append.mpr (.inl hzm))).1 ?_
  refine codeAny_forLoop_any (ZInv s g₁ L l1 l2 z xs.length J) ?_ xs.length
    ⟨0, g₁, h₁, tk₁, l₁, nw₁, blk, rfl, Nat.zero_le _, rfl, fun _ _ e => e, J0, B, S⟩
  rintro k s' ⟨i, g', h', tk', l', nw', blk', rfl, hi, rfl, kg, hJ, B', S'⟩
  by_cases hlt : i < xs.length
  · have hx : xs[i]? = some xs[i] := List.getElem?_eq_getElem hlt
    have hy : ys[i]? = some ys[i] := List.getElem?_eq_getElem (by omega)
    refine z_item S' B' (isList_keeps h1 kg) (isList_keeps h2 kg) hx hy fun h₃ T blk₃ g₃ k₃ S₃ B₃ hT => ?_
    refine z_own S₃ B₃ fun h₄ blk₄ S₄ B₄ => ?_
    refine asg_tup2 S₄ hh hT fun h₅ S₅ => ?_
    refine wpAny_mono (step i _ _ g' g₃ h₅ tk' l' nw' blk₄ _ (fun f s₃ => f = .next ∧ ZEnd s g₃ L blk₄ (J (i + 1)) s₃) hlt hx hy kg k₃ hJ S₅ fun _ h => ⟨rfl, h⟩)
      (fun _ s₁ h₁ => wpAny_mono h₁ (fun _ s₂ h₂ => wpAny_mono h₂ (fun f s₃ h₃ => ?_) fun _ _ e => e) fun _ _ e => e) fun _ _ e => e
    obtain ⟨rfl, g₆, h₆, tk₆, l₆, nw₆, rfl, k6, J6, S6⟩ := h₃
    exact ⟨xs.length - (i + 1), by omega, i + 1, g₆, h₆, tk₆, l₆, nw₆, blk₄, rfl, hlt, rfl, fun b o e => k6 _ _ (k₃ _ _ (kg _ _ e)), J6, B₄, S6⟩
  · have hin : i = xs.length := by omega
    subst hin
    refine z_end S' hh B' (isList_keeps h1 kg) (isList_keeps h2 kg) (by simp) fun h'' S'' => ?_
    exact done g' h'' tk' l' nw' _ kg hJ S''
end
structure Pen (g : Heap) (k : Nat) (o : Obj) : Prop where
  ex : ∃ (c : Addr) (vs : List Value) (ns : List Int) (gr st pl : Int) (t1 t2 t3 : Tok),
    LstO o [.ref c, .int gr t1, .int st t2, .int pl t3].toArray ∧ g.IsList c vs.toArray ∧ IntsAre vs ns ∧ ns.length ≤ 48 ∧ 0 ≤ gr ∧ 0 ≤ st ∧ st < 2147483647 ∧ 0 ≤ pl ∧ pl ≤ k

theorem Pen.mono {g g' : Heap} {k : Nat} {o : Obj} (P : Pen g k o) (hk : g.StaysIn g') : Pen g' k o :=
  let ⟨c, vs, ns, gr, st, pl, t1, t2, t3, a, b, r⟩ := P.ex
  ⟨c, vs, ns, gr, st, pl, t1, t2, t3, a, isList_keeps b hk, r⟩

section
variable {w : World} {A : Around} {E : Value → Shared → Prop} {s : Shared} {g h : Heap} {tk : TD} {L : Addr} {l l' : List (Str × Value)} {nw nw' : List (Addr × Obj)} {env : Env} {x : Str} {v : Value} {pos : Pos} {Q : Value → Shared → Prop}

theorem draw_spec {p : Addr} {o : Obj} {F : Obj → List (Addr × Obj)} {k : Nat} {lim : Int} {tl : Tok} (S : St g L h l (F o)) (C : Cx w g) (hu : ∀ o o', Up p o o' (F o) (F o')) (P : Pen g k o) (hk : k < 1000)
    (hl : 0 < lim) (hl2 : lim < 1000) (hroom : A.depth < 900)
    (hq : ∀ r t h' tk o', 0 ≤ r → r < lim → Pen g (k + 1) o' → St g L h' l (F o') → Q (.int r t) (SS s h' tk)) :
    wpAny (model PG w) A (call (.ref 177) [.ref p, .int lim tl] []) Q E (SS s h tk) := by
  obtain ⟨c, vs, ns, gr, st, pl, t1, t2, t3, hlst, hc, hi, hlen, h1, h2, h3, h4, h5⟩ := P.ex
  refine call_fn (binds := [("pen", .ref p), ("limit", .int lim tl)]) S C rfl rfl ?_ (BindsTo.of_eq rfl) (locs rfl) rfl (fun L' oL h₁ tk₁ K hK hN S₁ => ?_) (by decide)
  · exact Nat.lt_of_lt_of_le hroom (by decide)
  have hu1 : ∀ o o', Up p o o' ((L, oL) :: F o) ((L, oL) :: F o') := fun o o' => (hu o o').tail
  have hlim : lim ≠ 0 := by omega
  walk_at "m"
  refine r_item (hlst.isList (S₁.get (hu1 o o).mem)) (by decide) (by decide) rfl rfl ?_
  walk_at "m"
  refine r_setItem (F := fun o => (L, oL) :: F o) ‹_› hu1 hlst (by decide) (by decide) (by simp) fun h₂ o₂ hl₂ S₂ => ?_
  walk_at "m"
  refine wpAny_If ?_
  walk_at "m"
  refine r_item (hl₂.isList (S₂.get (hu1 o₂ o).mem)) (by decide) (by decide) rfl rfl ?_
  walk_at "m"
  refine ite_dec (fun hgr => ?_) (fun hgr => ?_)
  · walk_at "m"
    refine r_item (hl₂.isList (S₂.get (hu1 o₂ o).mem)) (by decide) (by decide) rfl rfl ?_
    walk_at "m"
    refine i_mod hlim fun _ _ => ?_
    walk_at "m"
    refine r_item (hl₂.isList (St.get ‹_› (hu1 o₂ o).mem)) (by decide) (by decide) rfl rfl ?_
    walk_at "m"
    refine i_div hlim (PyProof.noPylong_small (by omega)) fun _ _ => ?_
    walk_at "m"
    refine r_setItem (F := fun o => (L, oL) :: F o) ‹_› hu1 hl₂ (by decide) (by decide) (by simp) fun h₃ o₃ hl₃ S₃ => ?_
    walk_at "m"
    walk_at "m"
    refine hK _ _ (Back.mk' (fun _ _ e => e) S₃ fun S' => ?_)
    exact hq _ _ _ _ _ (Int.fmod_nonneg_of_pos _ hl) (Int.fmod_lt_of_pos _ hl) ⟨_, vs, ns, _, _, _, _, _, _, hl₃, hc, hi, hlen, Int.fdiv_nonneg h1 (by omega), h2, h3, by omega, by omega⟩ S'
  · walk_at "m"
    refine r_item (hl₂.isList (S₂.get (hu1 o₂ o).mem)) (by decide) (by decide) rfl rfl ?_
    walk_at "m"
    refine i_mul (.of_right (by decide +kernel)) fun _ _ => ?_
    walk_at "m"
    refine i_mul (.of_right (bits_small (by omega))) fun _ _ => ?_
    walk_at "m"
    refine i_mod (by decide) fun _ _ => ?_
    walk_at "m"
    refine r_setItem (F := fun o => (L, oL) :: F o) S₂ hu1 hl₂ (by decide) (by decide) (by simp) fun h₃ o₃ hl₃ S₃ => ?_
    have hst0 : 0 ≤ Int.fmod (st * 16807 + pl * pl + 7) 2147483647 := Int.fmod_nonneg_of_pos _ (by decide)
    have hst1 : Int.fmod (st * 16807 + pl * pl + 7) 2147483647 < 2147483647 := Int.fmod_lt_of_pos _ (by decide)
    have P' : Pen g (k + 1) o₃ := ⟨_, vs, ns, _, _, _, _, _, _, hl₃, hc, hi, hlen, h1, hst0, hst1, by omega, by omega⟩
    walk_at "m"
    refine wpAny_If ?_
    walk_at "m"
    refine r_item (hl₃.isList (S₃.get (hu1 o₃ o).mem)) (by decide) (by decide) rfl rfl ?_
    walk_at "m"
    have hsz : (vs.toArray.size : Int) = ns.length := hi.sizeZ
    refine c_len (isList_keeps hc S₃.keep) (by rw [hsz]; omega) fun _ _ => ?_
    walk_at "m"
    refine ite_dec (fun hlt => ?_) (fun hlt => ?_)
    · walk_at "m"
      refine r_item (hl₃.isList (S₃.get (hu1 o₃ o).mem)) (by decide) (by decide) rfl rfl ?_
      walk_at "m"
      obtain ⟨y, ty, hy⟩ : ∃ y ty, vs[pl.toNat]? = some (.int y ty) := by
        have hlt' : pl.toNat < vs.length := by
          have : vs.length = ns.length := by have := hsz; simp at this; omega
          omega
        obtain ⟨n, t, e, _⟩ := hi.at pl.toNat vs[pl.toNat] (List.getElem?_eq_getElem hlt')
        exact ⟨n, t, by rw [List.getElem?_eq_getElem hlt', e]⟩
      refine r_item (isList_keeps hc S₃.keep) h4 (by omega) hy rfl ?_
      walk_at "m"
      refine i_mod hlim fun _ _ => ?_
      walk_at "m"
      refine hK _ _ (Back.mk' (fun _ _ e => e) S₃ fun S' => ?_)
      exact hq _ _ _ _ _ (Int.fmod_nonneg_of_pos _ hl) (Int.fmod_lt_of_pos _ hl) P' S'
    · walk_at "m"
      refine r_item (hl₃.isList (S₃.get (hu1 o₃ o).mem)) (by decide) (by decide) rfl rfl ?_
      walk_at "m"
      refine i_div (by decide) (PyProof.noPylong_small (by decide)) fun _ _ => ?_
      walk_at "m"
      refine i_mod hlim fun _ _ => ?_
      walk_at "m"
      refine hK _ _ (Back.mk' (fun _ _ e => e) S₃ fun S' => ?_)
      exact hq _ _ _ _ _ (Int.fmod_nonneg_of_pos _ hl) (Int.fmod_lt_of_pos _ hl) P' S'
end
inductive WishAt (g : Heap) (v : Value) (tag : Str) (val b e : Int) : Prop
  | mk (x dx h1 h2 h3 h4 t1 t2 t3 t4 u1 u2 u3 u4 n) : v = .ref x → g.get? x = some (instObj 88 dx) → g.get? dx = some (dictOf [⟨h1, .str "tag" t1, .str tag u1⟩, ⟨h2, .str "value" t2, .int val u2⟩, ⟨h3, .str "begin" t3, .int b u3⟩, ⟨h4, .str "end" t4, .int e u4⟩] n) → WishAt g v tag val b e

inductive ShapedAt (g : Heap) (v : Value) (rows : Value) (bw : Bool) : Prop
  | mk (x dx h1 h2 t1 t2 n) : v = .ref x → g.get? x = some (instObj 116 dx) → g.get? dx = some (dictOf [⟨h1, .str "rows" t1, rows⟩, ⟨h2, .str "is_backward" t2, .bool bw⟩] n) → ShapedAt g v rows bw

theorem WishAt.mono {g g' : Heap} {v : Value} {tag : Str} {val b e : Int} (H : WishAt g v tag val b e) (k : g.StaysIn g') : WishAt g' v tag val b e := by
  obtain ⟨x, dx, h1, h2, h3, h4, t1, t2, t3, t4, u1, u2, u3, u4, n, hv, a, b⟩ := H
  exact ⟨x, dx, h1, h2, h3, h4, t1, t2, t3, t4, u1, u2, u3, u4, n, hv, k _ _ a, k _ _ b⟩

theorem ShapedAt.mono {g g' : Heap} {v rows : Value} {bw : Bool} (H : ShapedAt g v rows bw) (k : g.StaysIn g') : ShapedAt g' v rows bw := by
  obtain ⟨x, dx, h1, h2, t1, t2, n, hv, a, b⟩ := H
  exact ⟨x, dx, h1, h2, t1, t2, n, hv, k _ _ a, k _ _ b⟩

section
variable {w : World} {A : Around} {E : Value → Shared → Prop} {s : Shared} {g h : Heap} {tk : TD} {L : Addr} {l l' : List (Str × Value)} {nw nw' : List (Addr × Obj)} {env : Env} {x : Str} {v : Value} {pos : Pos} {Q : Value → Shared → Prop}

theorem wish_make {tag : Str} {val b e : Int} {u1 u2 u3 u4 : Tok} (S : St g L h l nw) (C : Cx w g) (hroom : A.depth < 900)
    (hq : ∀ h' tk' g' v, g.StaysIn g' → St g' L h' l nw → WishAt g' v tag val b e → Q v (SS s h' tk')) :
    wpAny (model PG w) A (call (.ref 88) [.str tag u1, .int val u2, .int b u3, .int e u4] []) Q E (SS s h tk) := by
  refine c_make S C rfl rfl rfl fun A' h₁ x dx hA _ S₁ => ?_
  refine code_fn (binds := [("self", .ref x), ("tag", .str tag u1), ("value", .int val u2), ("begin", .int b u3), ("end", .int e u4)]) S₁ C rfl rfl ?_ (BindsTo.of_defaults (T := 71) rfl ((C.X.keeps S₁.keep) 71 _ rfl) rfl rfl rfl) (locs rfl) rfl (fun L' oL h₂ tk₂ K hK hN S₂ => ?_) (by decide)
  · rw [hA]; exact Nat.lt_of_lt_of_le (Nat.succ_lt_succ hroom) (by decide)
  walk_at "m"
  refine c_setAttr (F := fun o => (L, oL) :: (x, instObj 88 dx) :: (dx, o) :: nw) S₂ C (fun _ _ => .tail (.tail .head)) (.tail _ (.head _)) rfl rfl rfl rfl rfl (fun _ _ => by simp [putL]) fun h₃ tk₃ e1 t1 S₃ => ?_
  replace S₃ : St g L' h₃ _ ((L, oL) :: (x, instObj 88 dx) :: (dx, dictOf [⟨e1, .str "tag" t1, .str tag u1⟩] 1) :: nw) := S₃
  walk_at "m"
  refine c_setAttr (F := fun o => (L, oL) :: (x, instObj 88 dx) :: (dx, o) :: nw) S₃ C (fun _ _ => .tail (.tail .head)) (.tail _ (.head _)) rfl rfl rfl rfl rfl (fun _ _ => by simp [putL]; split <;> simp) fun h₄ tk₄ e2 t2 S₄ => ?_
  replace S₄ : St g L' h₄ _ ((L, oL) :: (x, instObj 88 dx) :: (dx, dictOf [⟨e1, .str "tag" t1, .str tag u1⟩, ⟨e2, .str "value" t2, .int val u2⟩] 2) :: nw) := S₄
  walk_at "m"
  refine c_setAttr (F := fun o => (L, oL) :: (x, instObj 88 dx) :: (dx, o) :: nw) S₄ C (fun _ _ => .tail (.tail .head)) (.tail _ (.head _)) rfl rfl rfl rfl rfl (fun _ _ => by simp only [putL]; repeat' split <;> simp) fun h₅ tk₅ e3 t3 S₅ => ?_
  replace S₅ : St g L' h₅ _ ((L, oL) :: (x, instObj 88 dx) :: (dx, dictOf [⟨e1, .str "tag" t1, .str tag u1⟩, ⟨e2, .str "value" t2, .int val u2⟩, ⟨e3, .str "begin" t3, .int b u3⟩] 3) :: nw) := S₅
  walk_at "m"
  refine c_setAttr (F := fun o => (L, oL) :: (x, instObj 88 dx) :: (dx, o) :: nw) S₅ C (fun _ _ => .tail (.tail .head)) (.tail _ (.head _)) rfl rfl rfl rfl rfl (fun _ _ => by simp only [putL]; repeat' split <;> simp) fun h₆ tk₆ e4 t4 S₆ => ?_
  replace S₆ : St g L' h₆ _ ((L, oL) :: (x, instObj 88 dx) :: (dx, dictOf [⟨e1, .str "tag" t1, .str tag u1⟩, ⟨e2, .str "value" t2, .int val u2⟩, ⟨e3, .str "begin" t3, .int b u3⟩, ⟨e4, .str "end" t4, .int e u4⟩] 4) :: nw) := S₆
  walk_at "m"
  obtain ⟨g₁, k₁, hx, S₇⟩ := S₆.swap.freeze
  obtain ⟨g₂, k₂, hdx, S₈⟩ := S₇.swap.freeze
  have kk : g.StaysIn g₂ := fun b o e => k₂ _ _ (k₁ _ _ e)
  walk_at "m"
  refine hN _ (Back.mk' kk S₈ fun S₉ => ?_)
  exact ⟨rfl, hq _ _ g₂ _ kk S₉ ⟨x, dx, e1, e2, e3, e4, t1, t2, t3, t4, u1, u2, u3, u4, 4, rfl, k₂ _ _ hx, hdx⟩⟩

theorem shaped_make {rows : Value} {bw : Bool} (S : St g L h l nw) (C : Cx w g) (hroom : A.depth < 900)
    (hq : ∀ h' tk' g' v, g.StaysIn g' → St g' L h' l nw → ShapedAt g' v rows bw → Q v (SS s h' tk')) :
    wpAny (model PG w) A (call (.ref 116) [rows, .bool bw] []) Q E (SS s h tk) := by
  refine c_make S C rfl rfl rfl fun A' h₁ x dx hA _ S₁ => ?_
  refine code_fn (binds := [("self", .ref x), ("rows", rows), ("is_backward", .bool bw)]) S₁ C rfl rfl ?_ (BindsTo.of_eq rfl) (locs rfl) rfl (fun L' oL h₂ tk₂ K hK hN S₂ => ?_) (by decide)
  · rw [hA]; exact Nat.lt_of_lt_of_le (Nat.succ_lt_succ hroom) (by decide)
  walk_at "m"
  refine c_setAttr (F := fun o => (L, oL) :: (x, instObj 116 dx) :: (dx, o) :: nw) S₂ C (fun _ _ => .tail (.tail .head)) (.tail _ (.head _)) rfl rfl rfl rfl rfl (fun _ _ => by simp [putL]) fun h₃ tk₃ e1 t1 S₃ => ?_
  replace S₃ : St g L' h₃ _ ((L, oL) :: (x, instObj 116 dx) :: (dx, dictOf [⟨e1, .str "rows" t1, rows⟩] 1) :: nw) := S₃
  walk_at "m"
  refine c_setAttr (F := fun o => (L, oL) :: (x, instObj 116 dx) :: (dx, o) :: nw) S₃ C (fun _ _ => .tail (.tail .head)) (.tail _ (.head _)) rfl rfl rfl rfl rfl (fun _ _ => by simp [putL]; split <;> simp) fun h₄ tk₄ e2 t2 S₄ => ?_
  replace S₄ : St g L' h₄ _ ((L, oL) :: (x, instObj 116 dx) :: (dx, dictOf [⟨e1, .str "rows" t1, rows⟩, ⟨e2, .str "is_backward" t2, .bool bw⟩] 2) :: nw) := S₄
  walk_at "m"
  obtain ⟨g₁, k₁, hx, S₇⟩ := S₄.swap.freeze
  obtain ⟨g₂, k₂, hdx, S₈⟩ := S₇.swap.freeze
  have kk : g.StaysIn g₂ := fun b o e => k₂ _ _ (k₁ _ _ e)
  walk_at "m"
  refine hN _ (Back.mk' kk S₈ fun S₉ => ?_)
  exact ⟨rfl, hq _ _ g₂ _ kk S₉ ⟨x, dx, e1, e2, t1, t2, 2, rfl, k₂ _ _ hx, hdx⟩⟩

theorem wish_tag {y : Value} {tag : Str} {val b e : Int} {ex : Bool} (S : St g L h l nw) (C : Cx w g) (W : WishAt g y tag val b e) (hq : ∀ t tk', Q (.str tag t) (SS s h tk')) : wpAny (model PG w) A (getAttr y "tag" ex) Q E (SS s h tk) := by
  obtain ⟨x, dx, h1, h2, h3, h4, t1, t2, t3, t4, u1, u2, u3, u4, n, rfl, a, b⟩ := W
  exact c_getAttr S C a b rfl rfl (attr := none) rfl rfl rfl rfl (hq _)
theorem wish_value {y : Value} {tag : Str} {val b e : Int} {ex : Bool} (S : St g L h l nw) (C : Cx w g) (W : WishAt g y tag val b e) (hq : ∀ t tk', Q (.int val t) (SS s h tk')) : wpAny (model PG w) A (getAttr y "value" ex) Q E (SS s h tk) := by
  obtain ⟨x, dx, h1, h2, h3, h4, t1, t2, t3, t4, u1, u2, u3, u4, n, rfl, a, b⟩ := W
  exact c_getAttr S C a b rfl rfl (attr := none) rfl rfl rfl rfl (hq _)
theorem wish_begin {y : Value} {tag : Str} {val b e : Int} {ex : Bool} (S : St g L h l nw) (C : Cx w g) (W : WishAt g y tag val b e) (hq : ∀ t tk', Q (.int b t) (SS s h tk')) : wpAny (model PG w) A (getAttr y "begin" ex) Q E (SS s h tk) := by
  obtain ⟨x, dx, h1, h2, h3, h4, t1, t2, t3, t4, u1, u2, u3, u4, n, rfl, a, b⟩ := W
  exact c_getAttr S C a b rfl rfl (attr := none) rfl rfl rfl rfl (hq _)
theorem wish_end {y : Value} {tag : Str} {val b e : Int} {ex : Bool} (S : St g L h l nw) (C : Cx w g) (W : WishAt g y tag val b e) (hq : ∀ t tk', Q (.int e t) (SS s h tk')) : wpAny (model PG w) A (getAttr y "end" ex) Q E (SS s h tk) := by
  obtain ⟨x, dx, h1, h2, h3, h4, t1, t2, t3, t4, u1, u2, u3, u4, n, rfl, a, b⟩ := W
  exact c_getAttr S C a b rfl rfl (attr := none) rfl rfl rfl rfl (hq _)
theorem shaped_rows {y rows : Value} {bw ex : Bool} (S : St g L h l nw) (C : Cx w g) (W : ShapedAt g y rows bw) (hr : handedIn rows = true) (hq : ∀ tk', Q rows (SS s h tk')) : wpAny (model PG w) A (getAttr y "rows" ex) Q E (SS s h tk) := by
  obtain ⟨x, dx, h1, h2, t1, t2, n, rfl, a, b⟩ := W
  exact c_getAttr S C a b rfl rfl (attr := none) rfl rfl rfl hr hq
theorem shaped_bw {y rows : Value} {bw ex : Bool} (S : St g L h l nw) (C : Cx w g) (W : ShapedAt g y rows bw) (hq : ∀ tk', Q (.bool bw) (SS s h tk')) : wpAny (model PG w) A (getAttr y "is_backward" ex) Q E (SS s h tk) := by
  obtain ⟨x, dx, h1, h2, t1, t2, n, rfl, a, b⟩ := W
  exact c_getAttr S C a b rfl rfl (attr := none) rfl rfl rfl rfl hq
end
section
variable {w : World} {A : Around} {E : Value → Shared → Prop} {s : Shared} {g h : Heap} {tk : TD} {L : Addr} {l l' : List (Str × Value)} {nw nw' : List (Addr × Obj)} {env : Env} {x : Str} {v : Value} {pos : Pos} {Q : Value → Shared → Prop}

theorem wish_whole {y : Value} {tag : Str} {val b e : Int} {pl : Sem Bool} (S : St g L h l nw) (C : Cx w g) (W : WishAt g y tag val b e) (hroom : A.depth < 900) (hq : ∀ h' tk', St g L h' l nw → Q (.bool (b == 0 && e == -1)) (SS s h' tk')) :
    wpAny (model PG w) A (getMethod y "is_whole" pl) (fun fx s₂ => wpAny (model PG w) A (callWith pos fx.1 fx.2 (backTo pos (starEach [] env)) []) Q E s₂) E (SS s h tk) := by
  obtain ⟨x, dx, h1, h2, h3, h4, t1, t2, t3, t4, u1, u2, u3, u4, n, rfl, hx, hdx⟩ := id W
  refine c_method S C hx hdx rfl rfl (f := 85) rfl rfl rfl ?_
  refine callWith_K0 (K := KK w.params) (C.X.keeps S.keep) rfl ?_
  refine call_fn (binds := [("self", .ref x)]) S C rfl rfl (Nat.lt_of_lt_of_le hroom (by decide)) (BindsTo.of_eq rfl) (locs rfl) rfl (fun L' oL h₁ tk₁ K hK hN S₁ => ?_) (by decide)
  walk_at "m"
  refine wish_begin S₁ C W fun _ _ => ?_
  walk_at "m"
  refine ite_bool (fun hb => ?_) (fun hb => ?_)
  · walk_at "m"
    refine wish_end S₁ C W fun _ _ => ?_
    walk_at "m"
    walk_at "m"
    refine hK _ _ (Back.mk' (fun _ _ e => e) S₁ fun S' => ?_)
    rw [show (e == -1) = (b == 0 && e == -1) by rw [hb, Bool.true_and]]
    exact hq _ _ S'
  · walk_at "m"
    refine hK _ _ (Back.mk' (fun _ _ e => e) S₁ fun S' => ?_)
    rw [show (Value.bool (b == 0)) = .bool (b == 0 && e == -1) by rw [hb, Bool.false_and]]
    exact hq _ _ S'

theorem fmodpos (a : Int) {b : Int} (h : 0 < b) : 0 ≤ a.fmod b := Int.fmod_nonneg_of_pos _ h

theorem pen_spec {a : Addr} {vs : List Value} {ns : List Int} (S : St g L h l nw) (C : Cx w g) (hl : g.IsList a vs.toArray) (hi : IntsAre vs ns) (hn : ns.length ≤ 63) (hroom : A.depth < 900) (hh : A.handled = none)
    (hq : ∀ h' tk' g' p o, g.StaysIn g' → St g' L h' l ((p, o) :: nw) → Pen g' 0 o → Q (.ref p) (SS s h' tk')) :
    wpAny (model PG w) A (call (.ref 170) [.ref a] []) Q E (SS s h tk) := by
  refine call_fn (binds := [("script", .ref a)]) S C rfl rfl (Nat.lt_of_lt_of_le hroom (by decide)) (BindsTo.of_eq rfl) (locs rfl) rfl (fun L' oL h₁ tk₁ K hK hN S₁ => ?_) (by decide)
  have hlen : vs.length = ns.length := IntsAre.length hi
  refine seqK fun K₉ H₉ => ?_
  refine comp_asgn (L := L') (cl := []) rfl rfl (by decide) rfl (by decide) rfl rfl rfl (Nat.zero_le _) fun K₀ hK₀ => ?_
  refine c_slice ?_
  walk_at "m"
  refine ⟨g, h₁, _, L', _, _, a, vs, none, some 48, rfl, rfl, S₁, hl, by omega, .none, .int _ _, fun g₂ h₂ D k₂ S₂ hD => ?_⟩
  have e48 : slicePick vs.toArray none (some 48) none = (vs.take 48).toArray := by
    have := slicePick_upto' vs.toArray 48
    simpa using this
  rw [e48] at hD
  have hi2 : IntsAre (vs.take 48) (ns.take 48) := hi.take 48
  have hl48 : (vs.take 48).length ≤ 48 := List.length_take_le ..
  refine pi_list S₂ hD fun h₃ I o I0 S₃ => ?_
  refine hK₀ _ _ ⟨_, _, _, fun i g' nw' ys => nw' = (L, oL) :: nw ∧ ∃ ms, IntsAre ys ms ∧ ys.length = i, g₂, h₃, _, _, _, I, o, rfl, rfl, S₃, it_list hh hD, I0, ⟨rfl, [], .nil, rfl⟩, by omega, ?_, ?_⟩
  · rintro i v g' g'' h' tk' nw' o' ys Cc D' oA oL' E' K₁ N₁ hi' hys k1 k2 hitem ⟨rfl, ms, hms, rfl⟩ S₄ ⟨hK₁, hN₁⟩
    obtain ⟨n, t, rfl, _⟩ := hi2.at _ _ hitem
    have C' : Cx w g'' := C.mono (fun b o e => k2 _ _ (k1 _ _ (k₂ _ _ e)))
    walk_at "m"
    refine tests_nil ?_
    walk_at "m"
    exact hK₁ _ _ ⟨g'', _, _, _, _, rfl, fun _ _ e => e, ⟨rfl, _, hms.append (.cons _ _ .nil), by simp⟩, ‹_›⟩
  refine ⟨_, by walk_at "mrem", fun g' g'' h' tk' nw' Dc ys k3 k4 hJ hDc S₅ => ?_⟩
  obtain ⟨rfl, ms, hms, hlys⟩ := hJ
  have hml : ms.length ≤ 48 := by rw [← IntsAre.length hms, hlys]; exact hl48
  have hyl : ys.length ≤ 48 := by rw [hlys]; exact hl48
  have kk : g.StaysIn g'' := fun b o e => k4 _ _ (k3 _ _ (k₂ _ _ e))
  have C2 : Cx w g'' := C.mono kk
  walk_at "m"
  refine exec_mid (fun s' => ∃ h₂ tk₂ gr t, s' = SS s h₂ tk₂ ∧ 0 ≤ gr ∧ St g'' L' h₂ [("great", .int gr t), ("cells", .ref Dc), ("script", .ref a)] ((L, oL) :: nw)) ?_ ?_
  · intro K₂ hK₂
    refine wpAny_If ?_
    walk_at "m"
    refine c_truthyL (isList_keeps hDc (St.keep ‹_›)) (by omega) fun _ => ?_
    refine ite_bool (fun hb => ?_) (fun hb => ?_)
    · have hy0 : ys ≠ [] := of_decide_eq_true hb
      obtain ⟨c0, t0, hc0⟩ : ∃ c0 t0, ys[(0 : Int).toNat]? = some (.int c0 t0) := by
        have hlt : 0 < ys.length := List.length_pos_iff.mpr hy0
        obtain ⟨n, t, e, _⟩ := hms.at 0 ys[0] (List.getElem?_eq_getElem hlt)
        exact ⟨n, t, by show ys[0]? = _; rw [List.getElem?_eq_getElem hlt, e]⟩
      walk_at "m"
      refine r_item (isList_keeps hDc (St.keep ‹_›)) (by decide) (by decide) hc0 rfl ?_
      walk_at "m"
      refine c_abs fun _ _ => ?_
      walk_at "m"
      refine i_pow (by decide) (by decide +kernel) fun _ _ => ?_
      walk_at "m"
      refine ite_bool (fun hg => ?_) (fun hg => ?_)
      · walk_at "m"
        rw [if_pos rfl]
        walk_at "m"
        refine r_item (isList_keeps hDc (St.keep ‹_›)) (by decide) (by decide) hc0 rfl ?_
        walk_at "m"
        refine c_abs fun _ _ => ?_
        walk_at "m"
        refine i_div (by decide) (PyProof.noPylong_small (by decide)) fun _ _ => ?_
        walk_at "m"
        refine i_pow (by decide) (by decide +kernel) fun _ _ => ?_
        walk_at "m"
        have hpos : (0 : Int) < 10 ^ (240 : Int).toNat := Int.pow_pos (by decide)
        refine i_mod (Int.ne_of_gt hpos) fun _ _ => ?_
        walk_at "m"
        exact hK₂ _ ⟨_, _, _, _, rfl, fmodpos _ hpos, ‹_›⟩
      · rw [if_neg Bool.false_ne_true]
        walk_at "m"
        exact hK₂ _ ⟨_, _, _, _, rfl, Int.le_refl 0, ‹_›⟩
    · rw [if_neg Bool.false_ne_true]
      walk_at "m"
      exact hK₂ _ ⟨_, _, _, _, rfl, Int.le_refl 0, ‹_›⟩
  · rintro s' ⟨h₆, tk₆, gr, tg, rfl, hgr, S₆⟩
    walk_at "m"
    refine for_K (L := L') fun K₀ hK₀ => ?_
    walk_at "m"
    refine pi_list ‹_› hDc fun h₇ I o I0 S₇ => ?_
    have S₇' := S₇.names (l' := [("state", .int 1 _), ("great", .int gr tg), ("cells", .ref Dc)]) (by walk_at "msub")
    refine hK₀ _ _ ⟨_, _, _, fun (i : Nat) (g' : Heap) (l' : List (Str × Value)) (nw' : List (Addr × Obj)) => nw' = (L, oL) :: nw ∧ ∃ st t1, EqL l' [("state", .int st t1), ("great", .int gr tg), ("cells", .ref Dc)] ∧ 0 ≤ st ∧ st < 2147483647, g'', h₇, _, _, _, I, o, rfl, rfl, S₇', it_list hh hDc, I0, ⟨rfl, _, _, rfl, by decide, by decide⟩, ?_, ?_⟩
    · rintro i v g₃ g₄ h₈ tk₈ l₈ nw₈ o₈ E' K₁ hi k5 k6 hitem ⟨rfl, st, t1, rfl, hs0, hs1⟩ S₈ ⟨hK₁, hR₁⟩
      obtain ⟨n, t, rfl, _⟩ := hms.at _ _ hitem
      walk_at "m"
      refine i_mul (.of_right (by decide +kernel)) fun _ _ => ?_
      walk_at "m"
      refine i_mod (by decide) fun _ _ => ?_
      walk_at "m"
      refine i_mod (by decide) fun _ _ => ?_
      walk_at "m"
      exact hK₁ _ ⟨g₄, _, _, _, _, rfl, fun _ _ e => e, ⟨rfl, _, _, rfl, fmodpos _ (by decide), Int.fmod_lt_of_pos _ (by decide)⟩, St.names ‹_› (by walk_at "msub")⟩
    · rintro g₃ h₈ tk₈ l₈ nw₈ E' k5 ⟨rfl, st, t1, rfl, hs0, hs1⟩ S₈
      walk_at "m"
      refine newPL S₈ fun h₉ p op hp S₉ => ?_
      walk_at "m"
      refine hK _ _ (Back.mk' (fun b o e => k5 _ _ (kk _ _ e)) S₉.swap fun S' => ?_)
      exact hq _ _ g₃ p op (fun b o e => k5 _ _ (kk _ _ e)) S' ⟨Dc, ys, ms, gr, st, 0, _, _, _, hp.lst, isList_keeps hDc k5, hms, hml, hgr, hs0, hs1, Int.le_refl 0, Int.le_refl 0⟩
end
structure Row where
  a : Int
  cl : Int
  gl : Int
  pl : Int
  fg : Bool

inductive RowAt (g : Heap) (v : Value) (r : Row) : Prop
  | mk (a t0 t1 t2 t3 t4 t5) : v = .ref a → g.IsTuple a [.int r.a t0, .int r.cl t1, .int r.gl t2, .int 0 t3, .int r.pl t4, .int 0 t5, .bool r.fg].toArray → RowAt g v r

theorem RowAt.mono {g g' : Heap} (k : g.StaysIn g') (v : Value) (r : Row) (H : RowAt g v r) : RowAt g' v r := by
  obtain ⟨a, t0, t1, t2, t3, t4, t5, hv, h⟩ := H
  exact ⟨a, t0, t1, t2, t3, t4, t5, hv, isTuple_keeps h k⟩

theorem Pen.up {g : Heap} {k k' : Nat} {o : Obj} (P : Pen g k o) (h : k ≤ k') : Pen g k' o := by
  obtain ⟨c, vs, ns, gr, st, pl, t1, t2, t3, h1, h2, h3, h4, h5, h6, h7, h8, h9⟩ := P.ex
  exact ⟨c, vs, ns, gr, st, pl, t1, t2, t3, h1, h2, h3, h4, h5, h6, h7, h8, by omega⟩

structure RowsOk (rs : List Row) (len : Int) : Prop where
  n : rs.length ≤ 8
  up : rs.Pairwise (fun a b => a.cl ≤ b.cl)
  low : ∀ r ∈ rs, 0 ≤ r.cl
  high : ∀ r ∈ rs, r.cl < len
  zero : ∃ r ∈ rs, r.cl = 0
  len1 : 1 ≤ len
  len2 : len ≤ 20

structure RInv (i : Nat) (rs : List Row) (cl : Int) : Prop where
  n : rs.length = i
  up : rs.Pairwise (fun a b => a.cl ≤ b.cl)
  low : ∀ r ∈ rs, 0 ≤ r.cl
  high : ∀ r ∈ rs, r.cl ≤ cl
  c0 : 0 ≤ cl
  c1 : cl ≤ 2 * i
  z0 : i = 0 → cl = 0
  z1 : 0 < i → ∃ r ∈ rs, r.cl = 0

theorem RInv.step {i : Nat} {rs : List Row} {cl d : Int} {r : Row} (H : RInv i rs cl) (d0 : 0 ≤ d) (d2 : d ≤ 2) (di : i = 0 → d = 0) (hr : r.cl = cl + d) : RInv (i + 1) (rs ++ [r]) (cl + d) := by
  obtain ⟨n, up, low, high, c0, c1, z0, z1⟩ := H
  refine ⟨by simp [n], List.pairwise_append.mpr ⟨up, List.pairwise_singleton _ _, fun a ha b hb => ?_⟩, fun a ha => ?_, fun a ha => ?_, by omega, by omega, fun h => by omega, fun _ => ?_⟩
  · rw [List.mem_singleton.mp hb, hr]; have := high a ha; omega
  · rcases List.mem_append.mp ha with ha | ha
    · exact low a ha
    · rw [List.mem_singleton.mp ha, hr]; omega
  · rcases List.mem_append.mp ha with ha | ha
    · have := high a ha; omega
    · rw [List.mem_singleton.mp ha, hr]; omega
  · by_cases hi : i = 0
    · exact ⟨r, by simp, by rw [hr, z0 hi, di hi]; rfl⟩
    · obtain ⟨q, hq, e⟩ := z1 (by omega)
      exact ⟨q, List.mem_append.mpr (.inl hq), e⟩

section
variable {w : World} {A : Around} {E : Value → Shared → Prop} {s : Shared} {g h : Heap} {tk : TD} {L : Addr} {l l' : List (Str × Value)} {nw nw' : List (Addr × Obj)} {env : Env} {x : Str} {v : Value} {pos : Pos} {Q : Value → Shared → Prop}

theorem rows_spec {p : Addr} {o : Obj} {k : Nat} (S : St g L h l ((p, o) :: nw)) (C : Cx w g) (P : Pen g k o) (hk : k ≤ 100) (hroom : A.depth < 800) (hh : A.handled = none)
    (hq : ∀ h' tk' g' o' T R vs rs len tl, g.StaysIn g' → St g' L h' l ((p, o') :: nw) → Pen g' (k + 30) o' → g'.IsTuple T [.ref R, .int len tl].toArray → g'.IsList R vs.toArray → Paired (RowAt g') vs rs → RowsOk rs len →
      Q (.ref T) (SS s h' tk')) :
    wpAny (model PG w) A (call (.ref 184) [.ref p] []) Q E (SS s h tk) := by
  refine call_fn (binds := [("pen", .ref p)]) S C rfl rfl (Nat.lt_of_lt_of_le hroom (by decide)) (BindsTo.of_eq rfl) (locs rfl) rfl (fun L' oL h₁ tk₁ K hK hN S₁ => ?_) (by decide)
  have hroom' : ∀ env, (A.deeper env).depth < 900 := fun _ => Nat.lt_of_lt_of_le (Nat.succ_lt_succ hroom) (by decide)
  walk_at "m"
  refine newPL S₁ fun h₂ R oR hR S₂ => ?_
  walk_at "m"
  refine for_K (L := L') fun K₀ hK₀ => ?_
  walk_at "m"
  refine draw_spec (F := fun o => (R, oR) :: (L, oL) :: (p, o) :: nw) ‹_› C (fun _ _ => .tail (.tail .head)) P (by omega) (by decide) (by decide) (hroom' _) fun d0 t0 h₃ tk₃ o₃ hd0 hd1 P₃ S₃ => ?_
  walk_at "m"
  refine c_range1 S₃ fun h₄ tk₄ r₄ o₄ hr₄ S₄ => ?_
  refine pi_range S₄ hr₄ (by decide) (by decide) (by omega) (by omega) fun h₅ I oI hI S₅ => ?_
  have S₅' := S₅.names (l' := [("cluster", .int 0 _), ("rows", .ref R), ("pen", .ref p)]) (by walk_at "msub")
  refine hK₀ _ _ ⟨_, _, _, fun (i : Nat) (g' : Heap) (l' : List (Str × Value)) (nw' : List (Addr × Obj)) => ∃ op oR vs rs cl t1, EqN nw' ((R, oR) :: (L, oL) :: (p, op) :: nw) ∧ EqL l' [("cluster", .int cl t1), ("rows", .ref R), ("pen", .ref p)] ∧
    PL oR vs ∧ Paired (RowAt g') vs rs ∧ Pen g' (k + 1 + 3 * i) op ∧ RInv i rs cl, g, h₅, _, _, _, I, oI, rfl, rfl, S₅', it_range hh, hI,
    ⟨o₃, oR, [], [], 0, _, rfl, rfl, hR, .nil, P₃, ⟨rfl, .nil, by simp, by simp, by decide, by decide, fun _ => rfl, fun h => absurd h (Nat.lt_irrefl _)⟩⟩, ?_, ?_⟩
  · rintro i v g₃ g₄ h₈ tk₈ l₈ nw₈ o₈ E' K₁ hi k5 k6 ⟨tv, rfl⟩ ⟨op, oR, vs, rs, cl, t1, rfl, rfl, hvs, hrs, hP, hR⟩ S₈ ⟨hK₁, hR₁⟩
    have C₄ : Cx w g₄ := C.mono (fun b o e => k6 _ _ (k5 _ _ e))
    have hP := hP.mono k6
    have hrs := pmono (RowAt.mono k6) hrs
    have hi8 : i < 8 := by omega
    walk_at "m"
    refine exec_mid (fun s' => ∃ h₂ tk₂ d t op', s' = SS s h₂ tk₂ ∧ 0 ≤ d ∧ d ≤ 2 ∧ (i = 0 → d = 0) ∧ Pen g₄ (k + 1 + 3 * i + 1) op' ∧
      St g₄ L' h₂ [("cluster", .int (cl + d) t), ("place", .int (0 + i) tv), ("rows", .ref R), ("pen", .ref p)] ((I, o₈) :: (R, oR) :: (L, oL) :: (p, op') :: nw)) ?_ ?_
    · intro K₂ hK₂
      refine wpAny_If ?_
      walk_at "m"
      refine ite_dec (fun hp => ?_) (fun hp => ?_)
      · walk_at "m"
        refine draw_spec (F := fun o => (I, o₈) :: (R, oR) :: (L, oL) :: (p, o) :: nw) ‹_› C₄ (fun _ _ => .tail (.tail (.tail .head))) hP (by omega) (by decide) (by decide) (hroom' _) fun d1 t2 h₉ tk₉ o₉ hd2 hd3 P₉ S₉ => ?_
        walk_at "m"
        exact hK₂ _ ⟨_, _, d1, _, o₉, rfl, hd2, by omega, fun h => by omega, P₉, St.names ‹_› (by walk_at "msub")⟩
      · walk_at "m"
        exact hK₂ _ ⟨_, _, 0, t1, op, rfl, by decide, by decide, fun _ => rfl, hP.up (by omega), St.names ‹_› (by rw [Int.add_zero]; walk_at "msub")⟩
    · rintro s' ⟨h₉, tk₉, d, td, op', rfl, hd0', hd2', hdi, P₉, S₉⟩
      walk_at "m"
      refine m_append S₉ (.tail _ (.head _)) hvs ?_
      walk_at "m"
      refine draw_spec (F := fun o => (I, o₈) :: (R, oR) :: (L, oL) :: (p, o) :: nw) ‹_› C₄ (fun _ _ => .tail (.tail (.tail .head))) P₉ (by omega) (by decide) (by decide) (hroom' _) fun d3 t3 h₁₀ tk₁₀ op₁₀ _ _ P₁₀ S₁₀ => ?_
      walk_at "m"
      refine draw_spec (F := fun o => (I, o₈) :: (R, oR) :: (L, oL) :: (p, o) :: nw) ‹_› C₄ (fun _ _ => .tail (.tail (.tail .head))) P₁₀ (by omega) (by decide) (by decide) (hroom' _) fun d4 t4 h₁₁ tk₁₁ op₁₁ _ _ P₁₁ S₁₁ => ?_
      walk_at "m"
      refine newTup S₁₁ fun h₁₂ g₁₂ a₁₂ k₁₂ S₁₂ ht₁₂ => ?_
      walk_at "m"
      refine c_append (F := fun oR => (I, o₈) :: (R, oR) :: (L, oL) :: (p, op₁₁) :: nw) S₁₂ (fun _ _ => .tail .head) hvs (by
        have := hrs.length; have := hR.n; exact Nat.le_trans (by omega : vs.length ≤ 1000) thousand) fun h₁₃ oR₁₃ hvs₁₃ S₁₃ => ?_
      walk_at "m"
      refine hK₁ _ ⟨g₁₂, _, _, _, _, rfl, k₁₂, ⟨op₁₁, oR₁₃, _, _, _, _, rfl, rfl, hvs₁₃, (pmono (RowAt.mono k₁₂) hrs).snoc (b := (⟨0 + i + 1, cl + d, d3, 0 + i, d4 == 2⟩ : Row)) ⟨a₁₂, _, _, _, _, _, _, rfl, ht₁₂⟩, (P₁₁.mono k₁₂).up (by omega), hR.step (r := ⟨0 + i + 1, cl + d, d3, 0 + i, d4 == 2⟩) hd0' hd2' hdi rfl⟩, S₁₃.names (by walk_at "msub")⟩
  · rintro g₃ h₈ tk₈ l₈ nw₈ E' k5 ⟨op, oR, vs, rs, cl, t1, rfl, rfl, hvs, hrs, hP, hR⟩ S₈
    walk_at "m"
    obtain ⟨g₉, k₉, hRg, S₉⟩ := S₈.freeze
    refine newTup S₉ fun h₁₂ g₁₂ a₁₂ k₁₂ S₁₂ ht₁₂ => ?_
    have kk : g.StaysIn g₁₂ := fun b o e => k₁₂ _ _ (k₉ _ _ (k5 _ _ e))
    walk_at "m"
    refine hK _ _ (Back.mk' kk S₁₂ fun S' => ?_)
    have hn : rs.length = (1 + d0 - 0).toNat := hR.n
    refine hq _ _ g₁₂ op a₁₂ R vs rs (cl + 1) _ kk S' ((hP.mono (fun b o e => k₁₂ _ _ (k₉ _ _ e))).up (by omega)) ht₁₂ (isList_keeps (hvs.lst.isList hRg) k₁₂) (pmono (RowAt.mono (fun b o e => k₁₂ _ _ (k₉ _ _ e))) hrs) ⟨by omega, hR.up, hR.low, fun r hr => ?_, hR.z1 (by omega), ?_, ?_⟩
    · have := hR.high r hr; omega
    · have := hR.c0; omega
    · have := hR.c1; omega
end
inductive SRAt (g : Heap) (v : Value) (rs : List Row) (bw : Bool) : Prop
  | mk (R vs) : ShapedAt g v (.ref R) bw → g.IsList R vs.toArray → Paired (RowAt g) vs rs → SRAt g v rs bw

theorem SRAt.mono {g g' : Heap} (k : g.StaysIn g') {v : Value} {rs : List Row} {bw : Bool} (H : SRAt g v rs bw) : SRAt g' v rs bw := by
  obtain ⟨R, vs, a, b, c⟩ := H
  exact ⟨R, vs, a.mono k, isList_keeps b k, pmono (RowAt.mono k) c⟩

def cutR (b e : Int) (rs : List Row) : List Row := rs.filterMap fun r => if b ≤ r.cl ∧ r.cl < e then some { r with cl := r.cl - b } else none

theorem cutR_snoc {b e : Int} {rs : List Row} {i : Nat} {r : Row} (h : rs[i]? = some r) : cutR b e (rs.take (i + 1)) = cutR b e (rs.take i) ++ (if b ≤ r.cl ∧ r.cl < e then [{ r with cl := r.cl - b }] else []) := by
  unfold cutR
  rw [List.take_add_one, h, List.filterMap_append]
  congr 1
  simp only [Option.toList_some, List.filterMap_cons, List.filterMap_nil]
  split <;> rename_i h' <;> split at h' <;> simp_all

section
variable {w : World} {A : Around} {E : Value → Shared → Prop} {s : Shared} {g h : Heap} {tk : TD} {L : Addr} {l l' : List (Str × Value)} {nw nw' : List (Addr × Obj)} {env : Env} {x : Str} {v : Value} {pos : Pos} {Q : Value → Shared → Prop}

theorem between_spec {y : Value} {rs : List Row} {bw : Bool} {b e : Int} {tb te : Tok} (S : St g L h l nw) (C : Cx w g) (H : SRAt g y rs bw) (hn : rs.length ≤ 100) (hroom : A.depth < 800) (hh : A.handled = none)
    (hq : ∀ h' tk' g' y', g.StaysIn g' → St g' L h' l nw → SRAt g' y' (cutR b e rs) bw → Q y' (SS s h' tk')) :
    wpAny (model PG w) A (call (.ref 165) [y, .int b tb, .int e te] []) Q E (SS s h tk) := by
  obtain ⟨R₀, vs₀, hS, hR₀, hvs₀⟩ := H
  have hlv : vs₀.length = rs.length := hvs₀.length
  refine call_fn (binds := [("shaped", y), ("begin", .int b tb), ("end", .int e te)]) S C rfl rfl (Nat.lt_of_lt_of_le hroom (by decide)) (BindsTo.of_eq rfl) (locs rfl) rfl (fun L' oL h₁ tk₁ K hK hN S₁ => ?_) (by decide)
  have hroom' : ∀ env, (A.deeper env).depth < 900 := fun _ => Nat.lt_of_lt_of_le (Nat.succ_lt_succ hroom) (by decide)
  walk_at "m"
  refine newPL S₁ fun h₂ R oR hR S₂ => ?_
  walk_at "m"
  refine for_K (L := L') fun K₀ hK₀ => ?_
  walk_at "m"
  refine shaped_rows ‹_› C hS rfl fun _ => ?_
  refine pi_list ‹_› hR₀ fun h₅ I oI hI S₅ => ?_
  refine hK₀ _ _ ⟨_, _, _, fun (i : Nat) (g' : Heap) (l' : List (Str × Value)) (nw' : List (Addr × Obj)) => ∃ oR vs, EqN nw' ((R, oR) :: (L, oL) :: nw) ∧ EqL l' [("rows", .ref R), ("shaped", y), ("begin", .int b tb), ("end", .int e te)] ∧
    PL oR vs ∧ Paired (RowAt g') vs (cutR b e (rs.take i)), g, h₅, _, _, _, I, oI, rfl, rfl, S₅, it_list hh hR₀, hI, ⟨oR, [], rfl, rfl, hR, .nil⟩, ?_, ?_⟩
  · rintro i v g₃ g₄ h₈ tk₈ l₈ nw₈ o₈ E' K₁ hi k5 k6 hitem ⟨oR, vs, rfl, rfl, hvs, hrs⟩ S₈ ⟨hK₁, hR₁⟩
    have kk : g.StaysIn g₄ := fun b o e => k6 _ _ (k5 _ _ e)
    have C₄ : Cx w g₄ := C.mono kk
    have hrs := pmono (RowAt.mono k6) hrs
    obtain ⟨r, hr, a, t0, t1, t2, t3, t4, t5, rfl, hrow⟩ := pget hvs₀ hitem
    have hrow := isTuple_keeps hrow kk
    have hcut := cutR_snoc (b := b) (e := e) hr
    walk_at "m"
    refine exec_mid (fun s' => ∃ g₅ h₂ tk₂ oR' vs', s' = SS s h₂ tk₂ ∧ g₄.StaysIn g₅ ∧ PL oR' vs' ∧ Paired (RowAt g₅) vs' (cutR b e (rs.take (i + 1))) ∧
      St g₅ L' h₂ [("rows", .ref R), ("shaped", y), ("begin", .int b tb), ("end", .int e te)] ((I, o₈) :: (R, oR') :: (L, oL) :: nw)) ?_ ?_
    · intro K₂ hK₂
      refine wpAny_If ?_
      walk_at "m"
      refine c_itemT (isTuple_keeps hrow (St.keep ‹_›)) (by decide) (by decide) rfl ?_
      walk_at "m"
      refine ite_dec (fun hb1 => ?_) (fun hb1 => ?_)
      · walk_at "m"
        refine ite_dec (fun hb2 => ?_) (fun hb2 => ?_)
        · rw [if_pos ⟨hb1, hb2⟩] at hcut
          walk_at "m"
          refine m_append ‹_› (.tail _ (.head _)) hvs ?_
          walk_at "m"
          refine c_upto1 fun K₃ hK₃ => ?_
          walk_at "m"
          refine hK₃ _ _ _ ⟨g₄, _, _, L', _, _, a, _, _, _, rfl, rfl, rfl, ‹_›, hrow, by simp, fun g₅ h₅ D1 k₅ S₅ hD1 => ?_⟩
          have C₅ : Cx w g₅ := C₄.mono k₅
          walk_at "m"
          refine c_itemT (isTuple_keeps hrow (fun _ _ e => S₅.keep _ _ (k₅ _ _ e))) (by decide) (by decide) rfl ?_
          walk_at "m"
          refine newTup S₅ fun h₆ g₆ D2 k₆ S₆ hD2 => ?_
          have C₆ : Cx w g₆ := C₅.mono k₆
          walk_at "m"
          refine c_addT S₆ (isTuple_keeps hD1 k₆) hD2 (by simp) (by simp) (by simp) fun g₇ h₇ D3 k₇ S₇ hD3 => ?_
          have C₇ : Cx w g₇ := C₆.mono k₇
          have k47 : g₄.StaysIn g₇ := fun _ _ e => k₇ _ _ (k₆ _ _ (k₅ _ _ e))
          walk_at "m"
          refine c_from fun K₃ hK₃ => ?_
          walk_at "m"
          refine hK₃ _ _ _ ⟨g₇, _, _, L', _, _, a, _, 2, _, rfl, rfl, rfl, S₇, isTuple_keeps hrow k47, by decide, by simp, by simp, fun g₈ h₈ D4 k₈ S₈ hD4 => ?_⟩
          walk_at "m"
          refine c_addT S₈ (isTuple_keeps hD3 k₈) hD4 (by simp) (by simp) (by simp) fun g₉ h₉ D5 k₉ S₉ hD5 => ?_
          walk_at "m"
          have k49 : g₄.StaysIn g₉ := fun _ _ e => k₉ _ _ (k₈ _ _ (k47 _ _ e))
          refine c_append (F := fun oR => (I, o₈) :: (R, oR) :: (L, oL) :: nw) S₉ (fun _ _ => .tail .head) hvs (by
            have e1 := hrs.length
            have e2 : (cutR b e (rs.take i)).length ≤ (rs.take i).length := List.length_filterMap_le _ _
            have e3 : (rs.take i).length ≤ rs.length := List.length_take_le' _ _
            exact Nat.le_trans (by omega : vs.length ≤ 1000) thousand) fun h₁₃ oR₁₃ hvs₁₃ S₁₃ => ?_
          walk_at "m"
          refine hK₂ _ ⟨g₉, _, _, oR₁₃, _, rfl, k49, hvs₁₃, ?_, S₁₃.names (by walk_at "msub")⟩
          rw [hcut]
          exact (pmono (RowAt.mono k49) hrs).snoc ⟨D5, _, _, _, _, _, _, rfl, hD5⟩
        · rw [if_neg (fun h => hb2 h.2), List.append_nil] at hcut
          walk_at "m"
          exact hK₂ _ ⟨g₄, _, _, oR, vs, rfl, fun _ _ e => e, hvs, by rw [hcut]; exact hrs, St.names ‹_› (by walk_at "msub")⟩
      · rw [if_neg (fun h => hb1 h.1), List.append_nil] at hcut
        rw [if_neg Bool.false_ne_true]
        walk_at "m"
        exact hK₂ _ ⟨g₄, _, _, oR, vs, rfl, fun _ _ e => e, hvs, by rw [hcut]; exact hrs, St.names ‹_› (by walk_at "msub")⟩
    · rintro s' ⟨g₅, h₉, tk₉, oR', vs', rfl, k₅, hvs', hrs', S₉⟩
      walk_at "m"
      exact hK₁ _ ⟨g₅, _, _, _, _, rfl, k₅, ⟨oR', vs', rfl, rfl, hvs', hrs'⟩, S₉⟩
  · rintro g₃ h₈ tk₈ l₈ nw₈ E' k5 ⟨oR, vs, rfl, rfl, hvs, hrs⟩ S₈
    rw [hlv, List.take_length] at hrs
    walk_at "m"
    obtain ⟨g₉, k₉, hRg, S₉⟩ := S₈.freeze
    have kk : g.StaysIn g₉ := fun b o e => k₉ _ _ (k5 _ _ e)
    have C₉ : Cx w g₉ := C.mono kk
    walk_at "m"
    refine shaped_bw S₉ C₉ (hS.mono kk) fun _ => ?_
    walk_at "m"
    refine shaped_make S₉ C₉ (hroom' _) fun h₁₀ tk₁₀ g₁₀ y' k₁₀ S₁₀ hy' => ?_
    walk_at "m"
    refine hK _ _ (Back.mk' (fun _ _ e => k₁₀ _ _ (kk _ _ e)) S₁₀ fun S' => ?_)
    exact hq _ _ g₁₀ y' (fun _ _ e => k₁₀ _ _ (kk _ _ e)) S' ⟨R, vs, hy', isList_keeps (hvs.lst.isList hRg) k₁₀, pmono (RowAt.mono (fun _ _ e => k₁₀ _ _ (k₉ _ _ e))) hrs⟩
end
def shR (d : Int) (rs : List Row) : List Row := rs.map fun r => { r with cl := r.cl + d }

section
variable {w : World} {A : Around} {E : Value → Shared → Prop} {s : Shared} {g h : Heap} {tk : TD} {L : Addr} {l l' : List (Str × Value)} {nw nw' : List (Addr × Obj)} {env : Env} {x : Str} {v : Value} {pos : Pos} {Q : Value → Shared → Prop}

theorem moved_spec {y : Value} {rs : List Row} {bw : Bool} {b : Int} {tb : Tok} (S : St g L h l nw) (C : Cx w g) (H : SRAt g y rs bw) (hn : rs.length ≤ 100) (hroom : A.depth < 800) (hh : A.handled = none)
    (hq : ∀ h' tk' g' D vs, g.StaysIn g' → St g' L h' l nw → g'.IsList D vs.toArray → Paired (RowAt g') vs (shR b rs) → Q (.ref D) (SS s h' tk')) :
    wpAny (model PG w) A (call (.ref 151) [y, .int b tb] []) Q E (SS s h tk) := by
  obtain ⟨R₀, vs₀, hS, hR₀, hvs₀⟩ := H
  have hlv : vs₀.length = rs.length := hvs₀.length
  refine call_fnC1 (binds := [("shaped", y), ("begin", .int b tb)]) (lb := [("shaped", y)]) (cn := "begin") (cv := .int b tb) S C rfl rfl (Nat.lt_of_lt_of_le hroom (by decide)) rfl (fun _ => rfl) ?_ rfl ?_ (fun L' oL h₁ tk₁ g₁ K hK k₁ S₁ hcell => ?_)
  · intro x hx
    rcases List.mem_cons.mp hx with rfl | hx
    · exact .inl rfl
    · rw [List.mem_singleton.mp hx]; exact .inr ⟨rfl, rfl⟩
  · intro p hp; rw [List.mem_singleton.mp hp]; rfl
  have hroom' : ∀ env, (A.deeper env).depth < 900 := fun _ => Nat.lt_of_lt_of_le (Nat.succ_lt_succ hroom) (by decide)
  have C₁ := C.mono k₁
  walk_at "m"
  refine comp_eval (L := L') (cl := [("begin", L' + 1)]) rfl (by decide) rfl (by decide) (Nat.zero_le _) fun K₀ hK₀ => ?_
  walk_at "m"
  refine shaped_rows ‹_› C₁ (hS.mono k₁) rfl fun _ => ?_
  refine pi_list ‹_› (isList_keeps hR₀ k₁) fun h₅ I oI hI S₅ => ?_
  refine hK₀ _ _ ⟨_, _, _, fun (i : Nat) (g' : Heap) (nw' : List (Addr × Obj)) (ys : List Value) => EqN nw' ((L, oL) :: nw) ∧ Paired (RowAt g') ys (shR b (rs.take i)), g₁, h₅, _, _, _, I, oI, rfl, rfl, S₅, it_list hh (isList_keeps hR₀ k₁), hI, ⟨rfl, .nil⟩, by omega, ?_, ?_⟩
  · rintro i v g₃ g₄ h₈ tk₈ nw₈ o₈ ys Cc D oA oL' E' K₁ N₁ hi hys k5 k6 hitem ⟨rfl, hrs⟩ S₈ ⟨hK₁, hN₁⟩
    have kk : g₁.StaysIn g₄ := fun b o e => k6 _ _ (k5 _ _ e)
    have C₄ : Cx w g₄ := C₁.mono kk
    have hrs := pmono (RowAt.mono k6) hrs
    have hcell := hcell.keeps kk
    obtain ⟨r, hr, a, t0, t1, t2, t3, t4, t5, rfl, hrow⟩ := pget hvs₀ hitem
    have hrow := isTuple_keeps hrow (fun _ _ e => kk _ _ (k₁ _ _ e))
    have hsh : shR b (rs.take (i + 1)) = shR b (rs.take i) ++ [{ r with cl := r.cl + b }] := by
      unfold shR; rw [List.take_add_one, hr, List.map_append]; rfl
    walk_at "m"
    refine tests_nil ?_
    walk_at "m"
    refine c_upto1 fun K₂ hK₂ => ?_
    walk_at "m"
    refine hK₂ _ _ _ ⟨g₄, _, _, Cc, _, _, a, _, _, _, rfl, rfl, rfl, ‹_›, hrow, by simp, fun g₅ h₅ D1 k₅ S₅ hD1 => ?_⟩
    have C₅ : Cx w g₅ := C₄.mono k₅
    have hcell₅ := hcell.keeps k₅
    walk_at "m"
    refine c_itemT (isTuple_keeps hrow (fun _ _ e => S₅.keep _ _ (k₅ _ _ e))) (by decide) (by decide) rfl ?_
    walk_at "m"
    refine newTup S₅ fun h₆ g₆ D2 k₆ S₆ hD2 => ?_
    have C₆ : Cx w g₆ := C₅.mono k₆
    walk_at "m"
    refine c_addT S₆ (isTuple_keeps hD1 k₆) hD2 (by simp) (by simp) (by simp) fun g₇ h₇ D3 k₇ S₇ hD3 => ?_
    have C₇ : Cx w g₇ := C₆.mono k₇
    have k47 : g₄.StaysIn g₇ := fun _ _ e => k₇ _ _ (k₆ _ _ (k₅ _ _ e))
    walk_at "m"
    refine c_from fun K₂ hK₂ => ?_
    walk_at "m"
    refine hK₂ _ _ _ ⟨g₇, _, _, Cc, _, _, a, _, 2, _, rfl, rfl, rfl, S₇, isTuple_keeps hrow k47, by decide, by simp, by simp, fun g₈ h₈ D4 k₈ S₈ hD4 => ?_⟩
    walk_at "m"
    refine c_addT S₈ (isTuple_keeps hD3 k₈) hD4 (by simp) (by simp) (by simp) fun g₉ h₉ D5 k₉ S₉ hD5 => ?_
    have k49 : g₄.StaysIn g₉ := fun _ _ e => k₉ _ _ (k₈ _ _ (k47 _ _ e))
    refine hK₁ _ _ ⟨g₉, _, _, _, _, rfl, k49, ⟨rfl, ?_⟩, S₉⟩
    rw [hsh]
    exact (pmono (RowAt.mono k49) hrs).snoc ⟨D5, _, _, _, _, _, _, rfl, hD5⟩
  · rintro g' g'' h' tk' nw' D ys k5 k6 ⟨rfl, hrs⟩ hD S₈
    rw [hlv, List.take_length] at hrs
    have kk : g₁.StaysIn g'' := fun _ _ e => k6 _ _ (k5 _ _ e)
    walk_at "m"
    refine hK _ _ (Back.mk' kk S₈ fun S' => ?_)
    exact hq _ _ g'' D ys (fun _ _ e => kk _ _ (k₁ _ _ e)) S' hD (pmono (RowAt.mono k6) hrs)
end
structure WD where
  tag : Str
  val : Int
  b : Int
  e : Int

abbrev WAt (g : Heap) (v : Value) (w : WD) : Prop := WishAt g v w.tag w.val w.b w.e
theorem WAt.mono {g g' : Heap} (k : g.StaysIn g') (v : Value) (w : WD) (H : WAt g v w) : WAt g' v w := WishAt.mono H k

inductive TAt (g : Heap) (v : Value) (w : WD) : Prop
  | mk (a t0 t1 t2 t3) : v = .ref a → g.IsTuple a [.str w.tag t0, .int w.val t1, .int w.b t2, .int w.e t3].toArray → TAt g v w
theorem TAt.mono {g g' : Heap} (k : g.StaysIn g') (v : Value) (w : WD) (H : TAt g v w) : TAt g' v w := by
  obtain ⟨a, t0, t1, t2, t3, hv, h⟩ := H
  exact ⟨a, t0, t1, t2, t3, hv, isTuple_keeps h k⟩

def cut1 (b e : Int) (w : WD) : Option WD :=
  if (w.b == 0 && w.e == -1) = true then some w
  else if max w.b b < (if w.e < 0 then e else min w.e e) then some ⟨w.tag, w.val, max w.b b - b, (if w.e < 0 then e else min w.e e) - b⟩ else none
def cutW (b e : Int) (ws : List WD) : List WD := ws.filterMap (cut1 b e)

theorem cutW_snoc {b e : Int} {ws : List WD} {i : Nat} {w : WD} (h : ws[i]? = some w) : cutW b e (ws.take (i + 1)) = cutW b e (ws.take i) ++ (cut1 b e w).toList := by
  unfold cutW
  rw [List.take_add_one, h, List.filterMap_append]
  congr 1

theorem eval_mid {w : World} {A : Around} {E : Value → Shared → Prop} {s : Shared} {env : Env} {e : Expr} {Q : Value → Shared → Prop} (P : Value → Shared → Prop) (h1 : ∀ K : Value → Shared → Prop, (∀ v s', P v s' → K v s') → wpAny (model PG w) A (eval e env) K E s) (h2 : ∀ v s', P v s' → Q v s') :
    wpAny (model PG w) A (eval e env) Q E s := h1 Q h2

section
variable {w : World} {A : Around} {E : Value → Shared → Prop} {s : Shared} {g h : Heap} {tk : TD} {L : Addr} {l l' : List (Str × Value)} {nw nw' : List (Addr × Obj)} {env : Env} {x : Str} {v : Value} {pos : Pos} {Q : Value → Shared → Prop}

theorem told_spec {T : Addr} {vs : List Value} {ws : List WD} (S : St g L h l nw) (C : Cx w g) (ht : g.IsTuple T vs.toArray) (hw : Paired (WAt g) vs ws) (hn : ws.length ≤ 100) (hroom : A.depth < 800) (hh : A.handled = none)
    (hq : ∀ h' tk' g' D vs', g.StaysIn g' → St g' L h' l nw → g'.IsList D vs'.toArray → Paired (TAt g') vs' ws → Q (.ref D) (SS s h' tk')) :
    wpAny (model PG w) A (call (.ref 189) [.ref T] []) Q E (SS s h tk) := by
  have hlv : vs.length = ws.length := hw.length
  refine call_fn (binds := [("wishes", .ref T)]) S C rfl rfl (Nat.lt_of_lt_of_le hroom (by decide)) (BindsTo.of_eq rfl) (locs rfl) rfl (fun L' oL h₁ tk₁ K hK hN S₁ => ?_) (by decide)
  walk_at "m"
  refine comp_eval (L := L') (cl := []) rfl (by decide) rfl (by decide) (Nat.zero_le _) fun K₀ hK₀ => ?_
  walk_at "m"
  refine pi_tuple ‹_› ht fun h₅ I oI hI S₅ => ?_
  refine hK₀ _ _ ⟨_, _, _, fun (i : Nat) (g' : Heap) (nw' : List (Addr × Obj)) (ys : List Value) => EqN nw' ((L, oL) :: nw) ∧ Paired (TAt g') ys (ws.take i), g, h₅, _, _, _, I, oI, rfl, rfl, S₅, it_tuple hh ht, hI, ⟨rfl, .nil⟩, by omega, ?_, ?_⟩
  · rintro i v g₃ g₄ h₈ tk₈ nw₈ o₈ ys Cc D oA oL' E' K₁ N₁ hi hys k5 k6 hitem ⟨rfl, hrs⟩ S₈ ⟨hK₁, hN₁⟩
    have kk : g.StaysIn g₄ := fun b o e => k6 _ _ (k5 _ _ e)
    have C₄ : Cx w g₄ := C.mono kk
    obtain ⟨r, hr, hW⟩ := pget hw hitem
    have hW := WAt.mono kk _ _ hW
    have htake : ws.take (i + 1) = ws.take i ++ [r] := by rw [List.take_add_one, hr]; rfl
    walk_at "m"
    refine tests_nil ?_
    walk_at "m"
    refine wish_tag ‹_› C₄ hW fun _ _ => ?_
    walk_at "m"
    refine wish_value ‹_› C₄ hW fun _ _ => ?_
    walk_at "m"
    refine wish_begin ‹_› C₄ hW fun _ _ => ?_
    walk_at "m"
    refine wish_end ‹_› C₄ hW fun _ _ => ?_
    walk_at "m"
    refine newTup ‹_› fun h₆ g₆ D2 k₆ S₆ hD2 => ?_
    refine hK₁ _ _ ⟨g₆, _, _, _, _, rfl, k₆, ⟨rfl, ?_⟩, S₆⟩
    rw [htake]
    exact (pmono (TAt.mono (fun _ _ e => k₆ _ _ (k6 _ _ e))) hrs).snoc ⟨D2, _, _, _, _, rfl, hD2⟩
  · rintro g' g'' h' tk' nw' D ys k5 k6 ⟨rfl, hrs⟩ hD S₈
    rw [hlv, List.take_length] at hrs
    have kk : g.StaysIn g'' := fun _ _ e => k6 _ _ (k5 _ _ e)
    walk_at "m"
    refine hK _ _ (Back.mk' kk S₈ fun S' => ?_)
    exact hq _ _ g'' D ys kk S' hD (pmono (TAt.mono k6) hrs)

theorem within_spec {T : Addr} {vs : List Value} {ws : List WD} {b e : Int} {tb te : Tok} (S : St g L h l nw) (C : Cx w g) (ht : g.IsTuple T vs.toArray) (hw : Paired (WAt g) vs ws) (hn : ws.length ≤ 100) (hroom : A.depth < 800) (hh : A.handled = none)
    (hq : ∀ h' tk' g' T' vs', g.StaysIn g' → St g' L h' l nw → g'.IsTuple T' vs'.toArray → Paired (WAt g') vs' (cutW b e ws) → Q (.ref T') (SS s h' tk')) :
    wpAny (model PG w) A (call (.ref 146) [.ref T, .int b tb, .int e te] []) Q E (SS s h tk) := by
  have hlv : vs.length = ws.length := hw.length
  refine call_fn (binds := [("wishes", .ref T), ("begin", .int b tb), ("end", .int e te)]) S C rfl rfl (Nat.lt_of_lt_of_le hroom (by decide)) (BindsTo.of_eq rfl) (locs rfl) rfl (fun L' oL h₁ tk₁ K hK hN S₁ => ?_) (by decide)
  have hroom' : ∀ env, (A.deeper env).depth < 900 := fun _ => Nat.lt_of_lt_of_le (Nat.succ_lt_succ hroom) (by decide)
  walk_at "m"
  refine newPL S₁ fun h₂ R oR hR S₂ => ?_
  walk_at "m"
  refine for_K (L := L') fun K₀ hK₀ => ?_
  walk_at "m"
  refine pi_tuple ‹_› ht fun h₅ I oI hI S₅ => ?_
  have S₅' := S₅.names (l' := [("found", .ref R), ("begin", .int b tb), ("end", .int e te)]) (by walk_at "msub")
  refine hK₀ _ _ ⟨_, _, _, fun (i : Nat) (g' : Heap) (l' : List (Str × Value)) (nw' : List (Addr × Obj)) => ∃ oR vs, EqN nw' ((R, oR) :: (L, oL) :: nw) ∧ EqL l' [("found", .ref R), ("begin", .int b tb), ("end", .int e te)] ∧
    PL oR vs ∧ Paired (WAt g') vs (cutW b e (ws.take i)), g, h₅, _, _, _, I, oI, rfl, rfl, S₅', it_tuple hh ht, hI, ⟨oR, [], rfl, rfl, hR, .nil⟩, ?_, ?_⟩
  · rintro i v g₃ g₄ h₈ tk₈ l₈ nw₈ o₈ E' K₁ hi k5 k6 hitem ⟨oR, vs, rfl, rfl, hvs, hrs⟩ S₈ ⟨hK₁, hR₁⟩
    have kk : g.StaysIn g₄ := fun b o e => k6 _ _ (k5 _ _ e)
    have C₄ : Cx w g₄ := C.mono kk
    have hrs := pmono (WAt.mono k6) hrs
    obtain ⟨r, hr, hW⟩ := pget hw hitem
    have hW := WAt.mono kk _ _ hW
    have hcut := cutW_snoc (b := b) (e := e) hr
    have hvl : vs.length ≤ sizeLine := by
      have e1 := hrs.length
      have e2 : (cutW b e (ws.take i)).length ≤ (ws.take i).length := List.length_filterMap_le _ _
      have e3 : (ws.take i).length ≤ ws.length := List.length_take_le' _ _
      exact Nat.le_trans (by omega : vs.length ≤ 1000) thousand
    walk_at "m"
    refine wish_begin ‹_› C₄ hW fun _ _ => ?_
    walk_at "m"
    refine c_max ‹_› hh fun h₉ tk₉ tf S₉ => ?_
    walk_at "m"
    refine eval_mid (fun vq s' => ∃ t h' tk', vq = .int (if r.e < 0 then e else min r.e e) t ∧ s' = SS s h' tk' ∧ St g₄ L' h' [("first", .int (max r.b b) tf), ("wish", v), ("found", .ref R), ("begin", .int b tb), ("end", .int e te)] ((I, o₈) :: (R, oR) :: (L, oL) :: nw)) ?_ ?_
    · intro K₂ hK₂
      refine wpAny_IfExp ?_
      walk_at "m"
      refine wish_end ‹_› C₄ hW fun _ _ => ?_
      walk_at "m"
      refine ite_dec (fun hlt => ?_) (fun hlt => ?_)
      · walk_at "m"
        refine hK₂ _ _ ⟨_, _, _, by rw [if_pos hlt], rfl, ‹_›⟩
      · walk_at "m"
        refine wish_end ‹_› C₄ hW fun _ _ => ?_
        walk_at "m"
        refine c_min ‹_› hh fun h₁₀ tk₁₀ tf S₁₀ => ?_
        refine hK₂ _ _ ⟨_, _, _, by rw [if_neg hlt], rfl, S₁₀⟩
    · rintro vq s' ⟨tl, h₉, tk₉, rfl, rfl, S₉⟩
      walk_at "m"
      refine wpAny_If ?_
      walk_at "m"
      refine wish_whole ‹_› C₄ hW (hroom' _) fun h₁₀ tk₁₀ S₁₀ => ?_
      walk_at "m"
      refine ite_bool (fun hwh => ?_) (fun hwh => ?_)
      · have hc : cut1 b e r = some r := by unfold cut1; rw [if_pos hwh]
        rw [hc] at hcut
        walk_at "m"
        refine m_append ‹_› (.tail _ (.head _)) hvs ?_
        walk_at "m"
        refine c_append (F := fun oR => (I, o₈) :: (R, oR) :: (L, oL) :: nw) S₁₀ (fun _ _ => .tail .head) hvs hvl fun h₁₁ oR₁₁ hvs₁₁ S₁₁ => ?_
        walk_at "m"
        refine hK₁ _ ⟨g₄, _, _, _, _, rfl, fun _ _ e => e, ⟨oR₁₁, _, rfl, rfl, hvs₁₁, ?_⟩, S₁₁.names (by walk_at "msub")⟩
        rw [hcut]
        exact hrs.snoc hW
      · walk_at "m"
        refine wpAny_If ?_
        walk_at "m"
        refine ite_dec (fun hlt => ?_) (fun hlt => ?_)
        · have hc : cut1 b e r = some ⟨r.tag, r.val, max r.b b - b, (if r.e < 0 then e else min r.e e) - b⟩ := by
            unfold cut1; rw [if_neg (by rw [hwh]; decide), if_pos hlt]
          rw [hc] at hcut
          walk_at "m"
          refine m_append ‹_› (.tail _ (.head _)) hvs ?_
          walk_at "m"
          refine wish_tag ‹_› C₄ hW fun _ _ => ?_
          walk_at "m"
          refine wish_value ‹_› C₄ hW fun _ _ => ?_
          walk_at "m"
          refine wish_make ‹_› C₄ (hroom' _) fun h₁₁ tk₁₁ g₁₁ vn k₁₁ S₁₁ hvn => ?_
          walk_at "m"
          refine c_append (F := fun oR => (I, o₈) :: (R, oR) :: (L, oL) :: nw) S₁₁ (fun _ _ => .tail .head) hvs hvl fun h₁₂ oR₁₂ hvs₁₂ S₁₂ => ?_
          walk_at "m"
          refine hK₁ _ ⟨g₁₁, _, _, _, _, rfl, k₁₁, ⟨oR₁₂, _, rfl, rfl, hvs₁₂, ?_⟩, S₁₂.names (by walk_at "msub")⟩
          rw [hcut]
          exact (pmono (WAt.mono k₁₁) hrs).snoc hvn
        · have hc : cut1 b e r = none := by
            unfold cut1; rw [if_neg (by rw [hwh]; decide), if_neg hlt]
          rw [hc] at hcut
          walk_at "m"
          refine hK₁ _ ⟨g₄, _, _, _, _, rfl, fun _ _ e => e, ⟨oR, vs, rfl, rfl, hvs, ?_⟩, S₁₀.names (by walk_at "msub")⟩
          rw [hcut]
          simpa using hrs
  · rintro g₃ h₈ tk₈ l₈ nw₈ E' k5 ⟨oR, vs, rfl, rfl, hvs, hrs⟩ S₈
    rw [hlv, List.take_length] at hrs
    walk_at "m"
    obtain ⟨g₉, k₉, hRg, S₉⟩ := S₈.freeze
    have kk : g.StaysIn g₉ := fun b o e => k₉ _ _ (k5 _ _ e)
    have C₉ : Cx w g₉ := C.mono kk
    walk_at "m"
    refine c_tupleOf S₉ ((hvs.lst.isList hRg) |> fun q => isList_keeps q S₉.keep) ?_ fun g₁₀ h₁₀ D k₁₀ S₁₀ hD => ?_
    · have e1 := hrs.length
      have e2 : (cutW b e ws).length ≤ ws.length := List.length_filterMap_le _ _
      omega
    walk_at "m"
    refine hK _ _ (Back.mk' (fun _ _ e => k₁₀ _ _ (kk _ _ e)) S₁₀ fun S' => ?_)
    exact hq _ _ g₁₀ D vs (fun _ _ e => k₁₀ _ _ (kk _ _ e)) S' hD (pmono (WAt.mono (fun _ _ e => k₁₀ _ _ (k₉ _ _ e))) hrs)
end
def strG (p : Int) (b : Int) : List Int → Int × Option Int
  | [] => (b, none)
  | c :: r => if p < c then (b, some c) else strG p c r

def EndIs (e : Value) : Option Int → Prop
  | none => e = .none
  | some c => ∃ t, e = .int c t

section
variable {w : World} {A : Around} {E : Value → Shared → Prop} {s : Shared} {g h : Heap} {tk : TD} {L : Addr} {l l' : List (Str × Value)} {nw nw' : List (Addr × Obj)} {env : Env} {x : Str} {v : Value} {pos : Pos} {Q : Value → Shared → Prop}

theorem clusters_spec {y : Value} {rs : List Row} {bw : Bool} (S : St g L h l nw) (C : Cx w g) (H : SRAt g y rs bw) (hn : rs.length < 60) (hroom : A.depth < 800) (hh : A.handled = none)
    (hq : ∀ h' tk' g' R vs ks, g.StaysIn g' → St g' L h' l nw → g'.IsList R vs.toArray → IntsAre vs ks → SD ks (rs.map (·.cl)) → Q (.ref R) (SS s h' tk')) :
    wpAny (model PG w) A (call (.ref 125) [y] []) Q E (SS s h tk) := by
  obtain ⟨R₀, vs₀, hS, hR₀, hvs₀⟩ := H
  have hlv : vs₀.length = rs.length := hvs₀.length
  refine call_fn (binds := [("shaped", y)]) S C rfl rfl (Nat.lt_of_lt_of_le hroom (by decide)) (BindsTo.of_eq rfl) (locs rfl) rfl (fun L' oL h₁ tk₁ K hK hN S₁ => ?_) (by decide)
  walk_at "m"
  refine comp_eval (L := L') (cl := []) rfl (by decide) rfl (by decide) (Nat.zero_le _) fun K₀ hK₀ => ?_
  walk_at "m"
  refine shaped_rows ‹_› C hS rfl fun _ => ?_
  refine pi_list ‹_› hR₀ fun h₅ I oI hI S₅ => ?_
  refine hK₀ _ _ ⟨_, _, _, fun (i : Nat) (g' : Heap) (nw' : List (Addr × Obj)) (ys : List Value) => EqN nw' ((L, oL) :: nw) ∧ IntsAre ys ((rs.take i).map (·.cl)), g, h₅, _, _, _, I, oI, rfl, rfl, S₅, it_list hh hR₀, hI, ⟨rfl, .nil⟩, by omega, ?_, ?_⟩
  · rintro i v g₃ g₄ h₈ tk₈ nw₈ o₈ ys Cc D oA oL' E' K₁ N₁ hi hys k5 k6 hitem ⟨rfl, hrs⟩ S₈ ⟨hK₁, hN₁⟩
    have kk : g.StaysIn g₄ := fun b o e => k6 _ _ (k5 _ _ e)
    have C₄ : Cx w g₄ := C.mono kk
    obtain ⟨r, hr, a, t0, t1, t2, t3, t4, t5, rfl, hrow⟩ := pget hvs₀ hitem
    have hrow := isTuple_keeps hrow kk
    have htake : rs.take (i + 1) = rs.take i ++ [r] := by rw [List.take_add_one, hr]; rfl
    walk_at "m"
    refine tests_nil ?_
    walk_at "m"
    refine c_itemT (isTuple_keeps hrow (St.keep ‹_›)) (by decide) (by decide) rfl ?_
    refine hK₁ _ _ ⟨g₄, _, _, _, _, rfl, fun _ _ e => e, ⟨rfl, ?_⟩, ‹_›⟩
    rw [htake, List.map_append]
    exact hrs.append (.cons _ _ .nil)
  · rintro g' g'' h' tk' nw' D ys k5 k6 ⟨rfl, hrs⟩ hD S₈
    rw [hlv, List.take_length] at hrs
    have kk : g.StaysIn g'' := fun _ _ e => k6 _ _ (k5 _ _ e)
    walk_at "m"
    refine c_set S₈ hh hD hrs (by simp; omega) fun h₉ tk₉ D₂ o₂ hso S₉ => ?_
    walk_at "m"
    refine c_sortedSet S₉ hh hso (by simp; omega) fun g₁₀ h₁₀ tk₁₀ R vs ks k₁₀ S₁₀ hR hv hsd => ?_
    walk_at "m"
    refine hK _ _ (Back.mk' (fun _ _ e => k₁₀ _ _ (kk _ _ e)) S₁₀ fun S' => ?_)
    exact hq _ _ g₁₀ R vs ks (fun _ _ e => k₁₀ _ _ (kk _ _ e)) S' hR hv hsd

theorem stretch_spec {y : Value} {rs : List Row} {bw : Bool} {p : Int} {tp : Tok} (S : St g L h l nw) (C : Cx w g) (H : SRAt g y rs bw) (hn : rs.length < 60) (hroom : A.depth < 700) (hh : A.handled = none)
    (hq : ∀ h' tk' g' T ks tb e, g.StaysIn g' → St g' L h' l nw → SD ks (rs.map (·.cl)) → g'.IsTuple T [.int (strG p 0 ks).1 tb, e].toArray → EndIs e (strG p 0 ks).2 → Q (.ref T) (SS s h' tk')) :
    wpAny (model PG w) A (call (.ref 132) [y, .int p tp] []) Q E (SS s h tk) := by
  refine call_fn (binds := [("shaped", y), ("place", .int p tp)]) S C rfl rfl (Nat.lt_of_lt_of_le hroom (by decide)) (BindsTo.of_eq rfl) (locs rfl) rfl (fun L' oL h₁ tk₁ K hK hN S₁ => ?_) (by decide)
  have hroom' : ∀ env, (A.deeper env).depth < 800 := fun _ => Nat.lt_of_lt_of_le (Nat.succ_lt_succ hroom) (by decide)
  walk_at "m"
  refine for_K (L := L') fun K₀ hK₀ => ?_
  walk_at "m"
  refine clusters_spec ‹_› C H hn (hroom' _) hh fun h₂ tk₂ g₂ R vs ks k₂ S₂ hR hv hsd => ?_
  have C₂ := C.mono k₂
  refine pi_list S₂ hR fun h₅ I oI hI S₅ => ?_
  have hlv : vs.length = ks.length := IntsAre.length hv
  refine hK₀ _ _ ⟨_, _, _, fun (i : Nat) (g' : Heap) (l' : List (Str × Value)) (nw' : List (Addr × Obj)) => ∃ b tb, EqN nw' ((L, oL) :: nw) ∧ EqL l' [("begin", .int b tb), ("shaped", y), ("place", .int p tp)] ∧ strG p 0 ks = strG p b (ks.drop i),
    g₂, h₅, _, _, _, I, oI, rfl, rfl, S₅, it_list hh hR, hI, ⟨0, _, rfl, rfl, rfl⟩, ?_, ?_⟩
  · rintro i v g₃ g₄ h₈ tk₈ l₈ nw₈ o₈ E' K₁ hi k5 k6 hitem ⟨b, tb, rfl, rfl, hst⟩ S₈ ⟨hK₁, hR₁⟩
    obtain ⟨c, tc, rfl, hc⟩ := hv.at _ _ hitem
    have hdrop : ks.drop i = c :: ks.drop (i + 1) := by
      have hlt : i < ks.length := by omega
      rw [List.drop_eq_getElem_cons hlt]
      rw [List.getElem?_eq_getElem hlt] at hc
      cases hc; rfl
    rw [hdrop] at hst
    walk_at "m"
    refine wpAny_If ?_
    walk_at "m"
    refine ite_dec (fun hlt => ?_) (fun hlt => ?_)
    · walk_at "m"
      refine newTup ‹_› fun h₉ g₉ T k₉ S₉ hT => ?_
      have kk : g.StaysIn g₉ := fun _ _ e => k₉ _ _ (k6 _ _ (k5 _ _ (k₂ _ _ e)))
      have e1 : strG p 0 ks = (b, some c) := by rw [hst]; exact if_pos hlt
      walk_at "m"
      refine hR₁ _ _ ?_
      walk_at "m"
      refine hK _ _ (Back.mk' kk (S₉.sub (List.sublist_cons_self _ _)) fun S' => ?_)
      exact hq _ _ g₉ T ks _ _ kk S' hsd (by rw [e1]; exact hT) (by rw [e1]; exact ⟨_, rfl⟩)
    · walk_at "m"
      refine hK₁ _ ⟨g₄, _, _, _, _, rfl, fun _ _ e => e, ⟨c, tc, rfl, rfl, ?_⟩, St.names ‹_› (by walk_at "msub")⟩
      rw [hst]; exact if_neg hlt
  · rintro g₃ h₈ tk₈ l₈ nw₈ E' k5 ⟨b, tb, rfl, rfl, hst⟩ S₈
    rw [hlv, List.drop_length] at hst
    have e1 : strG p 0 ks = (b, none) := hst
    walk_at "m"
    refine newTup ‹_› fun h₉ g₉ T k₉ S₉ hT => ?_
    have kk : g.StaysIn g₉ := fun _ _ e => k₉ _ _ (k5 _ _ (k₂ _ _ e))
    walk_at "m"
    refine hK _ _ (Back.mk' kk S₉ fun S' => ?_)
    exact hq _ _ g₉ T ks _ _ kk S' hsd (by rw [e1]; exact hT) (by rw [e1]; rfl)
end
inductive IPair (g : Heap) (v : Value) (p : Int × Int) : Prop
  | mk (T t u) : v = .ref T → g.IsTuple T [.int p.1 t, .int p.2 u].toArray → IPair g v p
theorem IPair.mono {g g' : Heap} (k : g.StaysIn g') (v : Value) (p : Int × Int) (H : IPair g v p) : IPair g' v p := let ⟨T, t, u, a, b⟩ := H; ⟨T, t, u, a, isTuple_keeps b k⟩

theorem ipairs_of {g : Heap} : ∀ {vs xs ys : List Value} {as bs : List Int}, Paired (PairAt g) vs (xs.zip ys) → IntsAre xs as → IntsAre ys bs → Paired (IPair g) vs (as.zip bs)
  | _, [], ys, _, bs, h, h1, _ => by cases h1; simp at h ⊢; cases h; exact .nil
  | _, x :: xs, [], _, _, h, h1, h2 => by cases h2; simp at h ⊢; cases h; exact .nil
  | _, x :: xs, y :: ys, _, _, h, h1, h2 => by
    cases h1 with
    | cons n t h1 =>
      cases h2 with
      | cons m u h2 =>
        rw [List.zip_cons_cons] at h ⊢
        cases h with
        | cons hd tl => exact .cons (let ⟨T, a, b⟩ := hd; ⟨T, t, u, a, b⟩) (ipairs_of tl h1 h2)

def joinR (bw : Bool) : List (List Row × Int) → List Row → List Row
  | [], acc => acc
  | (p, b) :: r, acc => joinR bw r (if bw then shR b p ++ acc else acc ++ shR b p)

theorem joinR_snoc (bw : Bool) : ∀ (l : List (List Row × Int)) (p : List Row × Int) (acc : List Row), joinR bw (l ++ [p]) acc = (if bw then shR p.2 p.1 ++ joinR bw l acc else joinR bw l acc ++ shR p.2 p.1)
  | [], (p, b), acc => by cases bw <;> rfl
  | (q, c) :: r, p, acc => by
    show joinR bw (r ++ [p]) _ = _
    rw [joinR_snoc bw r p]; rfl

section
variable {w : World} {A : Around} {E : Value → Shared → Prop} {s : Shared} {g h : Heap} {tk : TD} {L : Addr} {l l' : List (Str × Value)} {nw nw' : List (Addr × Obj)} {env : Env} {x : Str} {v : Value} {pos : Pos} {Q : Value → Shared → Prop}

theorem c_last {value slice : Expr} {a : Addr} {vs : List Value} {u : Tok} {y : Value} (hl : h.IsList a vs.toArray) (hn : vs.length ≤ 1000) (hx : vs[vs.length - 1]? = some y) (hq : Q y (SS s h tk))
    (hs : subscripted slice false (.ref a) (.int (-1) u) = operate [.ref a, .int (-1) u] (getItem (.ref a) (.int (-1) u)) := by with_unfolding_all rfl) :
    wpAny (model PG w) A (subscriptTail value slice (.ref a) (.int (-1) u)) Q E (SS s h tk) := by
  have hne : vs.length ≠ 0 := fun e => by rw [List.length_eq_zero_iff.mp e] at hx; simp at hx
  refine kde_neg (s := SS s h tk) hl (by decide) (by decide) (j := vs.length - 1) ?_ hx hq hs
  unfold seqIndex?
  have e1 : (if (-1 : Int) < 0 then (-1 : Int) + (vs.length : Int) else -1) = (vs.length : Int) - 1 := by rw [if_pos (by decide)]; exact Int.add_comm ..
  rw [e1]
  show (if (decide (0 ≤ (vs.length : Int) - 1) && decide ((vs.length : Int) - 1 < (vs.length : Int))) = true then some ((vs.length : Int) - 1).toNat else none) = _
  rw [decide_eq_true (show 0 ≤ (vs.length : Int) - 1 from Int.sub_nonneg_of_le (Int.ofNat_le.mpr (Nat.pos_of_ne_zero hne))), decide_eq_true (Int.sub_lt_self _ (by decide))]
  exact congrArg some (Int.toNat_sub vs.length 1)

theorem stretches_spec {P : Addr} {pvs : List Value} {ps : List Int} {n : Int} {tn : Tok} (S : St g L h l nw) (C : Cx w g) (hP : g.IsList P pvs.toArray) (hps : IntsAre pvs ps) (hin : ∀ p ∈ ps, 0 < p ∧ p < n) (hn : ps.length < 60) (hroom : A.depth < 800) (hh : A.handled = none)
    (hq : ∀ h' tk' g' D vs ks, g.StaysIn g' → St g' L h' l nw → g'.IsList D (List.toArray vs) → SD ks ps → ks.length < 60 → Paired (IPair g') vs ((0 :: ks).zip (ks ++ [n])) → Q (.ref D) (SS s h' tk')) :
    wpAny (model PG w) A (call (.ref 139) [.int n tn, .ref P] []) Q E (SS s h tk) := by
  refine call_fn (binds := [("length", .int n tn), ("places", .ref P)]) S C rfl rfl (Nat.lt_of_lt_of_le hroom (by decide)) (BindsTo.of_eq rfl) (locs rfl) rfl (fun L' oL h₁ tk₁ K hK hN S₁ => ?_) (by decide)
  walk_at "m"
  refine c_set S₁ hh hP hps (by omega) fun h₂ tk₂ D₂ o₂ hso S₂ => ?_
  walk_at "m"
  refine c_sortedSet S₂ hh hso (by omega) fun g₃ h₃ tk₃ R vs ks k₃ S₃ hR hv hsd => ?_
  have C₃ := C.mono k₃
  have hlk : vs.length = ks.length := IntsAre.length hv
  have hkl : ks.length < 60 := Nat.lt_of_le_of_lt hsd.len hn
  walk_at "m"
  refine exec_mid (fun s' => ∃ h₂ tk₂, s' = SS s h₂ tk₂ ∧ St g₃ L' h₂ [("cuts", .ref R), ("length", .int n tn), ("places", .ref P)] ((L, oL) :: nw)) ?_ ?_
  · intro K₂ hK₂
    refine wpAny_If ?_
    walk_at "m"
    refine c_len (isList_keeps hR (St.keep ‹_›)) (by simp; omega) fun _ _ => ?_
    walk_at "m"
    refine ite_dec (fun h0 => ?_) (fun h0 => ?_)
    · have hne : 0 < ks.length := by simp at h0; omega
      obtain ⟨y0, t0, hy0, hk0, hke⟩ : ∃ y0 t0, vs[(0 : Int).toNat]? = some (.int y0 t0) ∧ y0 ∈ ks ∧ ks[0]? = some y0 := by
        have hlt : 0 < vs.length := by omega
        obtain ⟨m, t, e, e2⟩ := hv.at 0 vs[0] (List.getElem?_eq_getElem hlt)
        exact ⟨m, t, by show vs[0]? = _; rw [List.getElem?_eq_getElem hlt, e], List.mem_of_getElem? e2, e2⟩
      obtain ⟨y1, t1, hy1, hk1, hle⟩ : ∃ y1 t1, vs[vs.length - 1]? = some (.int y1 t1) ∧ y1 ∈ ks ∧ y0 ≤ y1 := by
        have hlt : vs.length - 1 < vs.length := by omega
        obtain ⟨m, t, e, e2⟩ := hv.at (vs.length - 1) vs[vs.length - 1] (List.getElem?_eq_getElem hlt)
        refine ⟨m, t, by rw [List.getElem?_eq_getElem hlt, e], List.mem_of_getElem? e2, ?_⟩
        have hl1 : vs.length - 1 < ks.length := by omega
        rw [List.getElem?_eq_getElem hl1] at e2
        rw [List.getElem?_eq_getElem hne] at hke
        cases hke; cases e2
        rcases Nat.eq_zero_or_pos (vs.length - 1) with h' | h'
        · simp [h']
        · exact Int.le_of_lt (List.pairwise_iff_getElem.mp hsd.up 0 (vs.length - 1) hne hl1 h')
      walk_at "m"
      refine r_item (isList_keeps hR (St.keep ‹_›)) (by decide) (by decide) hy0 rfl ?_
      walk_at "m"
      refine ite_dec (fun c1 => ?_) (fun c1 => absurd (hin _ ((hsd.mem _).mp hk0)).1 c1)
      walk_at "m"
      refine c_last (isList_keeps hR (St.keep ‹_›)) (by omega) hy1 ?_
      walk_at "m"
      refine ite_dec (fun c2 => ?_) (fun c2 => absurd hle c2)
      walk_at "m"
      have c3 : y1 < n := (hin _ ((hsd.mem _).mp hk1)).2
      rw [decide_eq_true c3]
      rw [Bool.not_true, if_neg Bool.false_ne_true, if_neg Bool.false_ne_true]
      walk_at "m"
      exact hK₂ _ ⟨_, _, rfl, ‹_›⟩
    · rw [if_neg Bool.false_ne_true]
      walk_at "m"
      exact hK₂ _ ⟨_, _, rfl, ‹_›⟩
  · rintro s' ⟨h₄, tk₄, rfl, S₄⟩
    walk_at "m"
    refine newPL S₄ fun h₅ Z oZ hZ S₅ => ?_
    obtain ⟨g₅, k₅, hZg, S₅⟩ := S₅.freeze
    have C₅ := C₃.mono k₅
    walk_at "m"
    refine c_addL S₅ (hZ.lst.isList hZg) (isList_keeps hR k₅) (by simp; omega) fun g₆ h₆ X k₆ S₆ hX => ?_
    have C₆ := C₅.mono k₆
    walk_at "m"
    refine newPL S₆ fun h₇ Z2 oZ2 hZ2 S₇ => ?_
    obtain ⟨g₇, k₇, hZ2g, S₇⟩ := S₇.freeze
    have C₇ := C₆.mono k₇
    walk_at "m"
    refine c_addL S₇ (isList_keeps hR (fun _ _ e => k₇ _ _ (k₆ _ _ (k₅ _ _ e)))) (hZ2.lst.isList hZ2g) (by simp; omega) fun g₈ h₈ Y k₈ S₈ hY => ?_
    have C₈ := C₇.mono k₈
    walk_at "m"
    have hX8 := isList_keeps hX (fun _ _ e => k₈ _ _ (k₇ _ _ e))
    refine c_zip S₈ hX8 hY fun h₉ z blk B S₉ => ?_
    walk_at "m"
    refine c_listZip S₉ hh B hX8 hY (by simp) (by simp; omega) fun g₁₀ h₁₀ tk₁₀ D vs' k₁₀ S₁₀ hD hP' => ?_
    have kk : g.StaysIn g₁₀ := fun _ _ e => k₁₀ _ _ (k₈ _ _ (k₇ _ _ (k₆ _ _ (k₅ _ _ (k₃ _ _ e)))))
    walk_at "m"
    refine hK _ _ (Back.mk' kk S₁₀ fun S' => ?_)
    exact hq _ _ g₁₀ D vs' ks kk S' hD hsd hkl (ipairs_of hP' (.cons 0 _ hv) (hv.append (.cons n _ .nil)))
end
theorem shR_length (d : Int) (rs : List Row) : (shR d rs).length = rs.length := by simp [shR]

section
variable {w : World} {A : Around} {E : Value → Shared → Prop} {s : Shared} {g h : Heap} {tk : TD} {L : Addr} {l l' : List (Str × Value)} {nw nw' : List (Addr × Obj)} {env : Env} {x : Str} {v : Value} {pos : Pos} {Q : Value → Shared → Prop}

theorem joined_spec {PP BB : Addr} {pvs bvs : List Value} {prs : List (List Row)} {bs : List Int} {bw : Bool} (S : St g L h l nw) (C : Cx w g) (hP : g.IsList PP pvs.toArray) (hB : g.IsList BB bvs.toArray)
    (hps : Paired (fun v rs => SRAt g v rs bw) pvs prs) (hbs : IntsAre bvs bs) (hl : bs.length = prs.length) (hn : prs.length ≤ 30) (hn8 : ∀ p ∈ prs, p.length ≤ 8) (hroom : A.depth < 700) (hh : A.handled = none)
    (hq : ∀ h' tk' g' y', g.StaysIn g' → St g' L h' l nw → SRAt g' y' (joinR bw (prs.zip bs) []) bw → Q y' (SS s h' tk')) :
    wpAny (model PG w) A (call (.ref 158) [.ref PP, .ref BB, .bool bw] []) Q E (SS s h tk) := by
  have hpl : pvs.length = prs.length := hps.length
  have hbl : bvs.length = bs.length := IntsAre.length hbs
  refine call_fn (binds := [("pieces", .ref PP), ("begins", .ref BB), ("is_backward", .bool bw)]) S C rfl rfl (Nat.lt_of_lt_of_le hroom (by decide)) (BindsTo.of_eq rfl) (locs rfl) rfl (fun L' oL h₁ tk₁ K hK hN S₁ => ?_) (by decide)
  have hroom' : ∀ env, (A.deeper env).depth < 800 := fun _ => Nat.lt_of_lt_of_le (Nat.succ_lt_succ hroom) (by decide)
  walk_at "m"
  refine newPL S₁ fun h₂ R₀ oR hR S₂ => ?_
  obtain ⟨g₂, k₂, hRg, S₂⟩ := S₂.freeze
  have C₂ := C.mono k₂
  walk_at "m"
  refine for_Z (L := L') hh fun K₀ hK₀ => ?_
  walk_at "m"
  refine c_zip ‹_› (isList_keeps hP k₂) (isList_keeps hB k₂) fun h₃ z blk B S₃ => ?_
  have S₃' := S₃.names (l' := [("rows", .ref R₀), ("is_backward", .bool bw)]) (by walk_at "msub")
  refine hK₀ _ _ ⟨PP, BB, pvs, bvs, fun (i : Nat) (g' : Heap) (l' : List (Str × Value)) (nw' : List (Addr × Obj)) => ∃ R vs, EqN nw' ((L, oL) :: nw) ∧ EqL l' [("rows", .ref R), ("is_backward", .bool bw)] ∧ g'.IsList R (List.toArray vs) ∧
    Paired (RowAt g') vs (joinR bw ((prs.zip bs).take i) []) ∧ vs.length ≤ 8 * i, g₂, h₃, _, _, _, blk, z, rfl, rfl, S₃', B, isList_keeps hP k₂, isList_keeps hB k₂, by omega, ⟨R₀, [], rfl, rfl, hR.lst.isList hRg, .nil, Nat.le_refl _⟩, ?_, ?_⟩
  · rintro i vx vy g₃ g₄ h₈ tk₈ l₈ nw₈ blk₈ E' K₁ hi hx hy k5 k6 ⟨R, vs, rfl, rfl, hRl, hrs, hvl⟩ S₈ hK₁
    have kk : g.StaysIn g₄ := fun b o e => k6 _ _ (k5 _ _ (k₂ _ _ e))
    have C₄ : Cx w g₄ := C.mono kk
    obtain ⟨p, hp, hSR⟩ := pget hps hx
    have hSR := SRAt.mono kk hSR
    obtain ⟨b, tb, rfl, hb⟩ := hbs.at _ _ hy
    have hzip : (prs.zip bs)[i]? = some (p, b) := by
      rw [List.getElem?_zip_eq_some]; exact ⟨hp, hb⟩
    have htake : (prs.zip bs).take (i + 1) = (prs.zip bs).take i ++ [(p, b)] := by rw [List.take_add_one, hzip]; rfl
    have hp8 : p.length ≤ 8 := hn8 p (List.mem_of_getElem? hp)
    have hi30 : i < 30 := by omega
    walk_at "m"
    refine moved_spec ‹_› C₄ hSR (by omega) (hroom' _) hh fun h₉ tk₉ g₉ D mvs k₉ S₉ hD hmv => ?_
    have C₉ := C₄.mono k₉
    have hml : mvs.length ≤ 8 := by have := hmv.length; rw [shR_length] at this; omega
    have hRl9 := isList_keeps hRl (fun _ _ e => k₉ _ _ (k6 _ _ e))
    have hrs9 := pmono (RowAt.mono (fun _ _ e => k₉ _ _ (k6 _ _ e))) hrs
    walk_at "m"
    refine wpAny_IfExp ?_
    walk_at "m"
    have key : ∀ g₁₀, g₉.StaysIn g₁₀ → ∀ vs', Paired (RowAt g₁₀) vs' (if bw then shR b p ++ joinR bw ((prs.zip bs).take i) [] else joinR bw ((prs.zip bs).take i) [] ++ shR b p) → Paired (RowAt g₁₀) vs' (joinR bw ((prs.zip bs).take (i + 1)) []) := fun g₁₀ _ vs' hv => by
      rw [htake, joinR_snoc]; exact hv
    refine ite_bool (fun hb => ?_) (fun hb => ?_)
    · walk_at "m"
      refine c_addL ‹_› hD hRl9 (by omega) fun g₁₀ h₁₀ D2 k₁₀ S₁₀ hD2 => ?_
      walk_at "m"
      refine hK₁ _ ⟨g₁₀, _, _, _, _, rfl, fun _ _ e => k₁₀ _ _ (k₉ _ _ e), ⟨D2, _, rfl, rfl, hD2, key g₁₀ k₁₀ _ (by rw [if_pos hb]; exact pappend (pmono (RowAt.mono k₁₀) hmv) (pmono (RowAt.mono k₁₀) hrs9)), by simp; omega⟩, St.names ‹_› (by walk_at "msub")⟩
    · walk_at "m"
      refine c_addL ‹_› hRl9 hD (by omega) fun g₁₀ h₁₀ D2 k₁₀ S₁₀ hD2 => ?_
      walk_at "m"
      refine hK₁ _ ⟨g₁₀, _, _, _, _, rfl, fun _ _ e => k₁₀ _ _ (k₉ _ _ e), ⟨D2, _, rfl, rfl, hD2, key g₁₀ k₁₀ _ (by rw [if_neg (by simp [hb])]; exact pappend (pmono (RowAt.mono k₁₀) hrs9) (pmono (RowAt.mono k₁₀) hmv)), by simp; omega⟩, St.names ‹_› (by walk_at "msub")⟩
  · rintro g₃ h₈ tk₈ l₈ nw₈ E' k5 ⟨R, vs, rfl, rfl, hRl, hrs, hvl⟩ S₈
    have hz : (prs.zip bs).take pvs.length = prs.zip bs := List.take_of_length_le (by simp; omega)
    rw [hz] at hrs
    have kk : g.StaysIn g₃ := fun b o e => k5 _ _ (k₂ _ _ e)
    have C₃ : Cx w g₃ := C.mono kk
    walk_at "m"
    refine shaped_make S₈ C₃ (Nat.lt_of_lt_of_le (hroom' _) (by decide)) fun h₁₀ tk₁₀ g₁₀ y' k₁₀ S₁₀ hy' => ?_
    walk_at "m"
    refine hK _ _ (Back.mk' (fun _ _ e => k₁₀ _ _ (kk _ _ e)) S₁₀ fun S' => ?_)
    exact hq _ _ g₁₀ y' (fun _ _ e => k₁₀ _ _ (kk _ _ e)) S' ⟨R, vs, hy', isList_keeps hRl k₁₀, pmono (RowAt.mono k₁₀) hrs⟩
end
def rowD (r : Row) : PyData := .tuple [.int r.a, .int r.cl, .int r.gl, .int 0, .int r.pl, .int 0, .bool r.fg]
def toldD (w : WD) : PyData := .tuple [.str w.tag, .int w.val, .int w.b, .int w.e]

theorem reads_row {g : Heap} {v : Value} {r : Row} (H : RowAt g v r) : ∃ as, Reads g v (rowD r) as := by
  obtain ⟨a, t0, t1, t2, t3, t4, t5, rfl, o, e, hc, n, hd⟩ := H
  exact ⟨_, .tuple e hc hd (.cons (.int _ _) (.cons (.int _ _) (.cons (.int _ _) (.cons (.int _ _) (.cons (.int _ _) (.cons (.int _ _) (.cons (.bool _) .nil)))))))⟩

theorem reads_told {g : Heap} {v : Value} {w : WD} (H : TAt g v w) : ∃ as, Reads g v (toldD w) as := by
  obtain ⟨a, t0, t1, t2, t3, rfl, o, e, hc, n, hd⟩ := H
  exact ⟨_, .tuple e hc hd (.cons (.str _ _) (.cons (.int _ _) (.cons (.int _ _) (.cons (.int _ _) .nil))))⟩

theorem reads_all {g : Heap} {α : Type} {F : Value → α → Prop} {D : α → PyData} (hF : ∀ v r, F v r → ∃ as, Reads g v (D r) as) : ∀ {vs : List Value} {rs : List α}, Paired F vs rs → ∃ as, ReadsAll g vs (rs.map D) as
  | _, _, .nil => ⟨_, .nil⟩
  | _, _, .cons h t => let ⟨as, ha⟩ := hF _ _ h; let ⟨bs, hb⟩ := reads_all hF t; ⟨_, .cons ha hb⟩

theorem reads_ints {g : Heap} : ∀ {vs : List Value} {ns : List Int}, IntsAre vs ns → ∃ as, ReadsAll g vs (ns.map .int) as
  | _, _, .nil => ⟨_, .nil⟩
  | _, _, .cons n t h => let ⟨bs, hb⟩ := reads_ints h; ⟨_, .cons (.int n t) hb⟩

theorem depthAll_le {k : Nat} : ∀ {xs : List PyData}, (∀ x ∈ xs, x.depth ≤ k) → PyData.depthAll xs ≤ k
  | [], _ => by simp [PyData.depthAll]
  | x :: xs, h => by
    have h1 := h x (.head _)
    have h2 := depthAll_le fun y hy => h y (.tail _ hy)
    simp only [PyData.depthAll]; omega

theorem canAll {xs : List PyData} (h : ∀ x ∈ xs, x.canLay0 = true) : PyData.canLayAll0 xs = true := by
  induction xs with
  | nil => simp [PyData.canLayAll0]
  | cons x xs ih => simp only [PyData.canLayAll0, Bool.and_eq_true]; exact ⟨h x (.head _), ih fun y hy => h y (.tail _ hy)⟩

section
variable {w : World} {A : Around} {E : Value → Shared → Prop} {s : Shared} {g h : Heap} {tk : TD} {L : Addr} {l l' : List (Str × Value)} {nw nw' : List (Addr × Obj)} {env : Env} {x : Str} {v : Value} {pos : Pos} {Q : Value → Shared → Prop}

theorem reads_keeps {g h : Heap} (k : g.StaysIn h) : True := trivial

theorem c_ne {a b : Addr} {vs ws : List Value} {ds : List PyData} {as bs : List Addr} (S : St g L h l nw) (ha : g.IsList a vs.toArray) (hb : g.IsList b ws.toArray) (ra : ReadsAll h vs ds as) (rb : ReadsAll h ws ds bs)
    (hc : ∀ x ∈ ds, x.canLay0 = true) (hd : ∀ x ∈ ds, x.depth ≤ 5) (hu : A.units < 5000) (hq : Q (.bool false) (SS s h tk)) :
    wpAny (model PG w) A (compareOp .NotEq (.ref a) (.ref b)) Q E (SS s h tk) := by
  obtain ⟨o, e, c, n, d⟩ := isList_keeps ha S.keep
  obtain ⟨o', e', c', n', d'⟩ := isList_keeps hb S.keep
  have hcl : (PyData.list ds).canLay0 = true := by rw [PyData.canLay0]; exact canAll hc
  refine SeqAt.compareNe_reads (s := SS s h tk) (.list e c d (by show ReadsAll h vs.toArray.toList ds as; simpa using ra)) (.list e' c' d' (by show ReadsAll h ws.toArray.toList ds bs; simpa using rb)) hcl hcl ?_ ?_
  · have h1 := depthAll_le hd
    have h2 : (PyData.list ds).depth = PyData.depthAll ds + 1 := by simp [PyData.depth]
    rw [h2, Nat.min_self]
    unfold cLine; omega
  · rw [SeqAt.eqv_refl _ hcl]; exact hq

theorem c_rev {value st : Expr} {p : Pos}
    (hq : wpAny (model PG w) A (eval value env) (fun o s₁ => wpAny (model PG w) A (eval st env) (fun vk s₃ =>
      ∃ g₁ h₁ tk₁ L l₁ nw₁ a, ∃ vs : List Value, ∃ t, s₃ = SS s h₁ tk₁ ∧ o = .ref a ∧ vk = .int (-1) t ∧ St g₁ L h₁ l₁ nw₁ ∧ g₁.IsList a vs.toArray ∧ vs.length ≤ 1000 ∧
        ∀ g' h' D, g₁.StaysIn g' → St g' L h' l₁ nw₁ → g'.IsList D vs.reverse.toArray → Q (.ref D) (SS s h' tk₁)) E s₁) E (SS s h tk))
    (hgo : ∀ o r, letTemporaryGo value o r = pure () := by intro _ _; rfl) :
    wpAny (model PG w) A (eval (.Subscript value (.Slice none none (some st) p) pos) env) Q E (SS s h tk) := by
  refine wpAny_Subscript_Slice_step (T := "list") slot_list_getitem.lookup (wpAny_mono hq (fun o s₁ hh₁ => wpAny_Slice (wpAny_evalPart_none (wpAny_evalPart_none (wpAny_evalPart_some (wpAny_mono hh₁ (fun vk s₃ h₃ => ?_) fun _ _ e => e))))) fun _ _ e => e) hgo
  obtain ⟨g₁, h₁, tk₁, L, l₁, nw₁, a, vs, t, rfl, rfl, rfl, S, hl, hsz, hq⟩ := h₃
  have S1 := S.push { cls := .type "slice", data := .fields #[.none, .none, .int (-1) t] }
  have hl' := isList_keeps hl S1.keep
  refine ⟨Heap.IsList.typeIs (s := { (SS s h₁ tk₁) with heap := (SS s h₁ tk₁).heap.push _ }) hl', ?_⟩
  refine wpAny_getItem_list_slice hl' (Heap.IsSliceOf.new ..) .none .none (.int (-1) t) (by decide) ?_ (Nat.le_trans (by simpa using hsz) thousand)
  obtain ⟨g', k, hg, S2⟩ := ((S.push' { cls := .type "slice", data := .fields #[.none, .none, .int (-1) t] }).push { cls := .type "list", data := .seq (slicePick vs.toArray none none (some (-1))) }).freeze
  refine hq g' _ _ k S2 ⟨_, hg, rfl, 0, ?_⟩
  show Data.seq (slicePick vs.toArray none none (some (-1))) 0 = _
  rw [krv_pick]

theorem c_strInt {a : Int} {t : Tok} (ha : a.natAbs.log2 < 1920) (hq : ∀ t tk', Q (.str (toString a) t) (SS s h tk')) : wpAny (model PG w) A (call (.type "str") [.int a t]) Q E (SS s h tk) := P.str_of_int ha (hq _ (_, _))
theorem c_addStr {x y : Str} {t u : Tok} (hz : x.length + y.length ≤ 1000) (hq : ∀ t tk', Q (.str (x ++ y) t) (SS s h tk')) : wpAny (model PG w) A (binaryOp .Add (.str x t) (.str y u)) Q E (SS s h tk) :=
  PyProof.Rows.add_str (fun _ _ => hq _ (_, _)) (Nat.le_trans hz thousand)
end
def getB {p : Params} {a : Addr} {name qual : Str} {params : Arguments} {body : List Stmt} {scope : Scope} {dV kV doc pm cdv ct oc : Value} {an od : Option Addr} {osl : Array (Option Value)}
  (_ : (KK p).lookup a = some ⟨oc, od, .func (fnOf name qual params body scope dV kV doc pm an cdv ct), osl⟩) : List Stmt := body
def getS {p : Params} {a : Addr} {name qual : Str} {params : Arguments} {body : List Stmt} {scope : Scope} {dV kV doc pm cdv ct oc : Value} {an od : Option Addr} {osl : Array (Option Value)}
  (_ : (KK p).lookup a = some ⟨oc, od, .func (fnOf name qual params body scope dV kV doc pm an cdv ct), osl⟩) : Scope := scope
noncomputable def lawBody (p : Params) : List Stmt := getB (p := p) (a := 194) rfl
noncomputable def lawScope (p : Params) : Scope := getS (p := p) (a := 194) rfl

noncomputable abbrev lawEnv (p : Params) (L fa : Addr) (cd : Value) : Env := envOfC "law" (lawScope p) L fa cd

structure WOk (len : Int) (w : WD) : Prop where
  b0 : 0 ≤ w.b
  b1 : w.b < len
  e : w.e = -1 ∨ w.b < w.e
  tag : PyData.strOk w.tag = true

theorem Nat.log2_lt' {n k : Nat} (h : n < 2 ^ k) : n.log2 < k + 1 := by
  rcases Nat.eq_zero_or_pos n with rfl | hp
  · have : Nat.log2 0 = 0 := by decide +kernel
    rw [this]; omega
  · have := (Nat.log2_lt (by omega : n ≠ 0)).mpr h; omega

theorem tag_len : ∀ i : Nat, i < 5 → (Str.ofString (toString (0 + (i : Int)))).length ≤ 20 ∧ (Str.ofString "w" ++ Str.ofString (toString (0 + (i : Int)))).length ≤ 40 ∧ PyData.strOk (Str.ofString "w" ++ Str.ofString (toString (0 + (i : Int))) ++ Str.ofString "xy") = true := by
  intro i hi
  match i, hi with
  | 0, _ => decide +kernel
  | 1, _ => decide +kernel
  | 2, _ => decide +kernel
  | 3, _ => decide +kernel
  | 4, _ => decide +kernel

section
variable {w : World} {A : Around} {E : Value → Shared → Prop} {s : Shared} {g h : Heap} {tk : TD} {L : Addr} {l l' : List (Str × Value)} {nw nw' : List (Addr × Obj)} {env : Env} {x : Str} {v : Value} {pos : Pos}

theorem seg1a {fa a : Addr} {cd : Value} {vs : List Value} {ns : List Int} {c1 c2 : Obj} {R : List (Addr × Obj)} {Q : Flow → Shared → Prop}
    (S : St g L h [("script", .ref a)] ((L + 1, c1) :: (L + 2, c2) :: R)) (C : Cx w g) (hc1 : c1.data = .cell none) (hc2 : c2.data = .cell none) (hl : g.IsList a vs.toArray) (hi : IntsAre vs ns) (hn : ns.length ≤ 63)
    (hroom : A.depth < 600) (hh : A.handled = none)
    (hq : ∀ g' h' tk' p op y rs len0 tl bw, g.StaysIn g' → St g' L h' [("is_backward", .bool bw), ("length", .int len0 tl)] ((p, op) :: R) → g'.IsCell (L + 1) (some (.ref p)) → g'.IsCell (L + 2) (some y) → Pen g' 38 op → RowsOk rs len0 →
      SRAt g' y (if bw then rs.reverse else rs) bw → wpAny (model PG w) A (execs ((lawBody w.params).drop 4) (lawEnv w.params L fa cd)) Q E (SS s h' tk')) :
    wpAny (model PG w) A (execs (lawBody w.params) (lawEnv w.params L fa cd)) Q E (SS s h tk) := by
  have hr9 : A.depth < 900 := Nat.lt_of_lt_of_le hroom (by decide)
  have hr8 : A.depth < 800 := Nat.lt_of_lt_of_le hroom (by decide)
  refine seqK fun K₉ H₉ => ?_
  walk_at "m"
  refine pen_spec ‹_› C hl hi hn hr9 hh fun h₁ tk₁ g₁ p op k₁ S₁ P₁ => ?_
  have C₁ := C.mono k₁
  refine stC (x := "pen") S₁.swap rfl hc1 (fun h₂ g₂ k₂ S₂ hcp => ?_) rfl rfl
  have C₂ := C₁.mono k₂
  have P₂ := P₁.mono k₂
  walk_at "mk"
  refine seqK fun K₉ H₉ => Assign_Tuple ?_
  walk_at "m"
  refine rows_spec S₂ C₂ P₂ (by decide) hr8 hh fun h₃ tk₃ g₃ op₃ T V rvs rs len0 tl k₃ S₃ P₃ hT hR hrs hok => ?_
  have C₃ := C₂.mono k₃
  have hcp₃ := hcp.keeps k₃
  refine asg_tup2 S₃ hh hT fun h₄ S₄ => ?_
  walk_at "m"
  refine draw_spec (F := fun o => (p, o) :: (L + 2, c2) :: R) ‹_› C₃ (fun _ _ => .head) P₃ (by decide) (by decide) (by decide) hr9 fun d0 t0 h₅ tk₅ op₅ _ _ P₅ S₅ => ?_
  walk_at "m"
  have hrn : rvs.length ≤ 1000 := by rw [hrs.length]; exact Nat.le_trans hok.n (by decide)
  generalize hbw : (d0 == 1) = bw at *
  refine eval_mid (fun vq s' => ∃ g' h' tk' R', vq = .ref R' ∧ s' = SS s h' tk' ∧ g₃.StaysIn g' ∧ St g' L h' [("is_backward", .bool bw), ("length", .int len0 tl)] ((p, op₅) :: (L + 2, c2) :: R) ∧
    g'.IsList R' (if bw then rvs.reverse else rvs).toArray) ?_ ?_
  · intro K₂ hK₂
    refine wpAny_IfExp ?_
    walk_at "m"
    refine ite_bool (fun hb => ?_) (fun hb => ?_)
    · refine c_rev ?_
      walk_at "m"
      refine ⟨g₃, _, _, L, _, _, V, rvs, _, rfl, rfl, rfl, ‹_›, hR, hrn, fun g₆ h₆ D k₆ S₆ hD => ?_⟩
      exact hK₂ _ _ ⟨g₆, h₆, _, D, rfl, rfl, k₆, S₆.names (by walk_at "msub"), by rw [if_pos hb]; exact hD⟩
    · walk_at "m"
      exact hK₂ _ _ ⟨g₃, _, _, V, rfl, rfl, fun _ _ e => e, St.names ‹_› (by walk_at "msub"), by rw [hb]; exact hR⟩
  rintro vq s' ⟨g₆, h₆, tk₆, R', rfl, rfl, k₆, S₆, hR'⟩
  walk_at "m"
  refine shaped_make S₆ (C₃.mono k₆) hr9 fun h₇ tk₇ g₇ y k₇ S₇ hy => ?_
  refine stC (x := "shaped") S₇.swap rfl hc2 (fun h₈ g₈ k₈ S₈ hcs => ?_) rfl rfl
  have k₃₈ : g₃.StaysIn g₈ := fun _ _ e => k₈ _ _ (k₇ _ _ (k₆ _ _ e))
  walk_at "mk"
  refine hq g₈ _ _ p op₅ y rs len0 tl bw (fun _ _ e => k₃₈ _ _ (k₃ _ _ (k₂ _ _ (k₁ _ _ e)))) S₈ (hcp₃.keeps k₃₈) hcs ((P₅.mono k₃₈).up (by decide)) hok ⟨R', _, hy.mono k₈, isList_keeps hR' (fun _ _ e => k₈ _ _ (k₇ _ _ e)), ?_⟩
  have := pmono (RowAt.mono k₃₈) hrs
  split
  · exact prev this
  · exact this

theorem end_of {d : Int} {j : Int} {tA tB : Tok} (h0 : 0 ≤ j) (h1 : j < 2) : ∃ e u, [Value.int (-1) tA, Value.int d tB][j.toNat]? = some (.int e u) ∧ (e = -1 ∨ e = d) := by
  have h : j.toNat < 2 := (Int.toNat_lt h0).mpr h1
  rcases Nat.lt_or_ge 0 j.toNat with h' | h'
  · exact ⟨d, tB, by rw [Nat.le_antisymm (Nat.le_of_lt_succ h) h']; rfl, .inr rfl⟩
  · exact ⟨-1, tA, by rw [Nat.le_zero.mp h']; rfl, .inl rfl⟩

theorem wok_end {d3 d5 e : Int} (h : e = -1 ∨ e = d3 + 1 + d5) (h5 : 0 ≤ d5) : e = -1 ∨ d3 < e := by
  rcases h with h | h
  · exact .inl h
  · exact .inr (by omega)

theorem tag_bits {i : Nat} (hi : i < 5) : (0 + (i : Int)).natAbs.log2 < 1920 := Nat.lt_of_lt_of_le (Nat.log2_lt' (n := (0 + (i : Int)).natAbs) (k := 3) (by rw [Int.zero_add]; exact Nat.lt_trans hi (by decide))) (by decide)

theorem tag_sum {i : Nat} (hi : i < 5) : (Str.ofString "w").length + (Str.ofString (toString (0 + (i : Int)))).length ≤ 1000 ∧ (Str.ofString "w" ++ Str.ofString (toString (0 + (i : Int)))).length + (Str.ofString "xy").length ≤ 1000 := by
  obtain ⟨h1, h2, _⟩ := tag_len i hi
  have e1 : (Str.ofString "w").length = 1 := by decide +kernel
  have e2 : (Str.ofString "xy").length = 2 := by decide +kernel
  rw [e1, e2]
  exact ⟨Nat.le_trans (Nat.add_le_add_left h1 1) (by decide), Nat.le_trans (Nat.add_le_add_right h2 2) (by decide)⟩

theorem turn_k {i n : Nat} {d : Int} (h : i < (d - 0).toNat) (hd : d < 5) : i < 5 := Nat.lt_of_lt_of_le h (Int.toNat_le.mpr (by rw [Int.sub_zero]; exact Int.le_of_lt hd))
theorem pen_k {i c : Nat} (hi : i < 5) (hc : c < 900) : 40 + 5 * i + c < 1000 := Nat.lt_of_lt_of_le (Nat.add_lt_add_of_le_of_lt (Nat.add_le_add_left (Nat.mul_le_mul_left 5 (Nat.le_of_lt_succ hi)) 40) hc) (by decide)
theorem pen_end {n : Nat} {d : Int} (h : n = (d - 0).toNat) (hd : d < 5) : 40 + 5 * n ≤ 100 ∧ n ≤ 4 :=
  have h4 : n ≤ 4 := h ▸ Int.toNat_le.mpr (by rw [Int.sub_zero]; exact Int.le_of_lt_add_one hd)
  ⟨Nat.le_trans (Nat.add_le_add_left (Nat.mul_le_mul_left 5 h4) 40) (by decide), h4⟩

theorem seg1b {fa p : Addr} {cd : Value} {op : Obj} {R : List (Addr × Obj)} {len0 : Int} {tl : Tok} {bw : Bool} {Q : Flow → Shared → Prop}
    (S : St g L h [("is_backward", .bool bw), ("length", .int len0 tl)] ((p, op) :: R)) (C : Cx w g) (hcp : g.IsCell (L + 1) (some (.ref p))) (P : Pen g 38 op) (hl0 : 1 ≤ len0) (hl1 : len0 ≤ 20) (hroom : A.depth < 600) (hh : A.handled = none)
    (hq : ∀ g' h' tk' op' len tl W wvs ws, g.StaysIn g' → St g' L h' [("length", .int len tl), ("wishes", .ref W), ("is_backward", .bool bw)] ((p, op') :: R) → Pen g' 100 op' → len0 ≤ len → len ≤ 30 →
      g'.IsList W (List.toArray wvs) → Paired (WAt g') wvs ws → ws.length ≤ 4 → (∀ x ∈ ws, WOk len x) → wpAny (model PG w) A (execs ((lawBody w.params).drop 7) (lawEnv w.params L fa cd)) Q E (SS s h' tk')) :
    wpAny (model PG w) A (execs ((lawBody w.params).drop 4) (lawEnv w.params L fa cd)) Q E (SS s h tk) := by
  have hr9 : A.depth < 900 := Nat.lt_of_lt_of_le hroom (by decide)
  refine seqK fun K₉ H₉ => ?_
  walk_at "m"
  refine draw_spec (F := fun o => (p, o) :: R) ‹_› C (fun _ _ => .head) P (by decide) (by decide) (by decide) hr9 fun d1 t1 h₉ tk₉ op₉ hd2 hd3 P₉ S₉ => ?_
  have hlen : len0 ≤ len0 + d1 ∧ 0 < len0 + d1 ∧ len0 + d1 < 1000 ∧ len0 + d1 ≤ 30 := by clear S S₉ P P₉ C hcp; omega
  clear hd2 hd3 hl0 hl1
  walk_at "m"
  generalize len0 + d1 = len at *
  refine newPL ‹_› fun h₁₀ W oW hW S₁₀ => ?_
  walk_at "m"
  refine for_K (L := L) fun K₀ hK₀ => ?_
  walk_at "m"
  refine draw_spec (F := fun o => (W, oW) :: (p, o) :: R) ‹_› C (fun _ _ => .tail .head) P₉ (by decide) (by decide) (by decide) hr9 fun d2 t2 h₁₁ tk₁₁ op₁₁ hd4 hd5 P₁₁ S₁₁ => ?_
  walk_at "m"
  refine c_range1 S₁₁ fun h₁₂ tk₁₂ r₁₂ o₁₂ hr₁₂ S₁₂ => ?_
  refine pi_range S₁₂ hr₁₂ (by decide) (by decide) (Int.le_trans (by decide) hd4) (Int.lt_trans hd5 (by decide)) fun h₁₃ I oI hI S₁₃ => ?_
  have S₁₃' := S₁₃.names (l' := [("wishes", .ref W), ("length", .int len _), ("is_backward", .bool bw)]) (by walk_at "msub")
  refine hK₀ _ _ ⟨_, _, _, fun (i : Nat) (g' : Heap) (l' : List (Str × Value)) (nw' : List (Addr × Obj)) => ∃ op oW wvs ws tl, EqN nw' ((W, oW) :: (p, op) :: R) ∧ EqL l' [("wishes", .ref W), ("length", .int len tl), ("is_backward", .bool bw)] ∧
    PL oW wvs ∧ Paired (WAt g') wvs ws ∧ ws.length = i ∧ (∀ x ∈ ws, WOk len x) ∧ Pen g' (40 + 5 * i) op, g, h₁₃, _, _, _, I, oI, rfl, rfl, S₁₃', it_range hh, hI,
    ⟨op₁₁, oW, [], [], _, rfl, rfl, hW, .nil, rfl, fun _ h => (nomatch h), P₁₁.up (by decide)⟩, ?_, ?_⟩
  · rintro i v g₃' g₄ h₁₄ tk₁₄ l₁₄ nw₁₄ o₁₄ E' K₁ hin k5 k6 ⟨tv, rfl⟩ ⟨op, oW, wvs, ws, tl, rfl, rfl, hwvs, hws, hwl, hwok, hP⟩ S₁₄ ⟨hK₁, hR₁⟩
    have hi5 : i < 5 := turn_k (n := 0) hin hd5
    have kk : g.StaysIn g₄ := fun _ _ e => k6 _ _ (k5 _ _ e)
    have C₄ : Cx w g₄ := C.mono kk
    have hP := hP.mono k6
    have hws := pmono (WAt.mono k6) hws
    have hcp₄ := hcp.keeps kk
    clear S S₉ S₁₀ S₁₁ S₁₂ S₁₃ S₁₃' P P₉ P₁₁ kk hin hd4 hd5
    walk_at "m"
    refine draw_spec (F := fun o => (I, o₁₄) :: (W, oW) :: (p, o) :: R) ‹_› C₄ (fun _ _ => .tail (.tail .head)) hP (pen_k (c := 0) hi5 (by decide)) hlen.2.1 hlen.2.2.1 hr9 fun d3 t3 h₁₅ tk₁₅ op₁₅ hd6 hd7 P₁₅ S₁₅ => ?_
    walk_at "m"
    refine m_append ‹_› (.tail _ (.head _)) hwvs ?_
    walk_at "m"
    refine c_strInt (tag_bits hi5) fun _ _ => ?_
    walk_at "m"
    refine c_addStr (tag_sum hi5).1 fun _ _ => ?_
    walk_at "m"
    refine c_addStr (tag_sum hi5).2 fun _ _ => ?_
    walk_at "m"
    refine draw_spec (F := fun o => (I, o₁₄) :: (W, oW) :: (p, o) :: R) ‹_› C₄ (fun _ _ => .tail (.tail .head)) P₁₅ (pen_k (c := 1) hi5 (by decide)) (by decide) (by decide) hr9 fun d4 t4 h₁₆ tk₁₆ op₁₆ _ _ P₁₆ S₁₆ => ?_
    walk_at "m"
    refine draw_spec (F := fun o => (I, o₁₄) :: (W, oW) :: (p, o) :: R) ‹_› C₄ (fun _ _ => .tail (.tail .head)) P₁₆ (pen_k (c := 2) hi5 (by decide)) (by decide) (by decide) hr9 fun d5 t5 h₁₇ tk₁₇ op₁₇ hd10 _ P₁₇ S₁₇ => ?_
    clear S₁₄ S₁₅ S₁₆ P₁₅ P₁₆ hP
    walk_at "m"
    refine newPL S₁₇ fun h₁₈ D oD hD S₁₈ => ?_
    obtain ⟨g₁₈, k₁₈, hDg, S₁₉⟩ := S₁₈.freeze
    have C₁₉ := C₄.mono k₁₈
    have hcp₁₉ := hcp₄.keeps k₁₈
    clear S₁₇ S₁₈
    walk_at "m"
    refine draw_spec (F := fun o => (I, o₁₄) :: (W, oW) :: (p, o) :: R) ‹_› C₁₉ (fun _ _ => .tail (.tail .head)) (P₁₇.mono k₁₈) (pen_k (c := 3) hi5 (by decide)) (by decide) (by decide) hr9 fun d6 t6 h₂₀ tk₂₀ op₂₀ hd12 hd13 P₂₀ S₂₀ => ?_
    obtain ⟨tA, tB, hDv⟩ : ∃ tA tB, PL oD [Value.int (-1) tA, Value.int (d3 + 1 + d5) tB] := ⟨_, _, hD⟩
    obtain ⟨e, ue, hxe, hee⟩ := end_of (d := d3 + 1 + d5) (tA := tA) (tB := tB) hd12 hd13
    refine r_item (isList_keeps (hDv.lst.isList hDg) S₂₀.keep) hd12 (Int.lt_trans hd13 (by decide)) hxe rfl ?_
    walk_at "m"
    refine wish_make S₂₀ C₁₉ hr9 fun h₂₁ tk₂₁ g₂₁ vn k₂₁ S₂₁ hvn => ?_
    walk_at "m"
    refine c_append (F := fun oW => (I, o₁₄) :: (W, oW) :: (p, op₂₀) :: R) S₂₁ (fun _ _ => .tail .head) hwvs (by
      rw [hws.length, hwl]
      exact Nat.le_trans (Nat.le_of_lt (Nat.lt_of_lt_of_le hi5 (by decide))) thousand) fun h₂₂ oW₂₂ hwvs₂₂ S₂₂ => ?_
    walk_at "m"
    have k₄₂₁ : g₄.StaysIn g₂₁ := fun _ _ e => k₂₁ _ _ (k₁₈ _ _ e)
    refine hK₁ _ ⟨g₂₁, _, _, _, _, rfl, k₄₂₁, ⟨op₂₀, oW₂₂, _, ws ++ [⟨_, d4, d3, e⟩], _, rfl, rfl, hwvs₂₂, (pmono (WAt.mono k₄₂₁) hws).snoc hvn, by rw [List.length_append, hwl]; rfl, fun x hx => ?_, (P₂₀.mono k₂₁).up (Nat.le_succ _)⟩, S₂₂.names (by walk_at "msub")⟩
    rcases List.mem_append.mp hx with hx | hx
    · exact hwok x hx
    · rw [List.mem_singleton.mp hx]
      exact ⟨hd6, hd7, wok_end hee hd10, (tag_len i hi5).2.2⟩
  · rintro g₃' h₁₄ tk₁₄ l₁₄ nw₁₄ E' k5 ⟨op, oW, wvs, ws, tl, rfl, rfl, hwvs, hws, hwl, hwok, hP⟩ S₁₄
    refine wpAny_execs_nil ?_
    walk_at "mk"
    obtain ⟨g₁₅, k₁₅, hWg, S₁₅⟩ := S₁₄.freeze
    have he := pen_end rfl hd5
    exact hq g₁₅ h₁₄ tk₁₄ op len tl W wvs ws (fun _ _ e => k₁₅ _ _ (k5 _ _ e)) (S₁₅.names (by walk_at "msub")) ((hP.mono k₁₅).up he.1) hlen.1 hlen.2.2.2 (hwvs.lst.isList hWg) (pmono (WAt.mono k₁₅) hws) (by rw [hwl]; exact he.2) hwok
end
/-- where a wish ends within [.., y) -/
def en (w : WD) (y : Int) : Int := if w.e < 0 then y else min w.e y

theorem max_sub {b f i : Int} (h : 0 ≤ i) : max (max b f - f) i = max b (f + i) - f := by
  rw [← Int.sub_max_sub_right, ← Int.sub_max_sub_right, Int.sub_self, Int.max_assoc, Int.max_eq_right h, Int.add_comm, Int.add_sub_cancel]
theorem min_sub {e bh f y : Int} (h : y ≤ bh - f) : min (min e bh - f) y = min e (f + y) - f := by
  rw [← Int.sub_min_sub_right, ← Int.sub_min_sub_right, Int.min_assoc, Int.min_eq_right h, Int.add_comm, Int.add_sub_cancel]
theorem lt_sub {x y f : Int} : (x - f < y - f) ↔ x < y := Int.sub_lt_sub_right_iff
theorem max_up {b f i : Int} (h : 0 ≤ i) : max b f ≤ max b (f + i) := Int.max_le.mpr ⟨Int.le_max_left .., Int.le_trans (Int.le_add_of_nonneg_right h) (Int.le_max_right ..)⟩
theorem min_up {e x y : Int} (h : x ≤ y) : min e x ≤ min e y := Int.le_min.mpr ⟨Int.min_le_left .., Int.le_trans (Int.min_le_right ..) h⟩
theorem pos_of {b f y : Int} (h : max b f < y) : 0 < y - f := Int.sub_pos_of_lt (Int.lt_of_le_of_lt (Int.le_max_right ..) h)
theorem max_one {a b c : Int} (h : b < c) : (max a b < c) ↔ a < c := ⟨fun e => (Int.max_lt.mp e).1, fun e => Int.max_lt.mpr ⟨e, h⟩⟩
theorem max_min {a b c d : Int} (h1 : a < c) (h2 : b < d) : (max a b < min c d) ↔ (a < d ∧ b < c) :=
  ⟨fun e => ⟨(Int.max_lt.mp (Int.lt_min.mp e).2).1, (Int.max_lt.mp (Int.lt_min.mp e).1).2⟩, fun e => Int.lt_min.mpr ⟨Int.max_lt.mpr ⟨h1, e.2⟩, Int.max_lt.mpr ⟨e.1, h2⟩⟩⟩

theorem en_mono {w : WD} {x y : Int} (h : x ≤ y) : en w x ≤ en w y := by
  unfold en
  split
  · exact h
  · exact min_up h

theorem cut1_part {b e : Int} {w : WD} (hw : (w.b == 0 && w.e == -1) = false) : cut1 b e w = if max w.b b < en w e then some ⟨w.tag, w.val, max w.b b - b, en w e - b⟩ else none := by
  unfold cut1
  rw [hw]
  exact if_neg Bool.false_ne_true

theorem cut1_all {b e : Int} {w : WD} (hw : (w.b == 0 && w.e == -1) = true) : cut1 b e w = some w := if_pos hw

theorem cut1_cut1 {f bh i ie len : Int} {w : WD} (_ : WOk len w) (hi : 0 ≤ i) (_ : i < ie) (hie : ie ≤ bh - f) : (cut1 f bh w).bind (cut1 i ie) = cut1 (f + i) (f + ie) w := by
  cases hw : (w.b == 0 && w.e == -1) with
  | true => rw [cut1_all hw, cut1_all hw]; exact cut1_all hw
  | false =>
    rw [cut1_part hw, cut1_part hw]
    have hle : f + ie ≤ bh := by rw [Int.add_comm]; exact Int.add_le_of_le_sub_right hie
    by_cases hlt : max w.b f < en w bh
    · have hp : 0 < en w bh - f := pos_of hlt
      have hw' : ((max w.b f - f) == 0 && (en w bh - f) == -1) = false := by
        rw [Bool.and_eq_false_iff]
        exact .inr (beq_eq_false_iff_ne.mpr fun e => by rw [e] at hp; exact absurd hp (by decide))
      have hend : en ⟨w.tag, w.val, max w.b f - f, en w bh - f⟩ ie = en w (f + ie) - f := by
        show (if en w bh - f < 0 then ie else min (en w bh - f) ie) = _
        rw [if_neg (Int.not_lt.mpr (Int.le_of_lt hp))]
        unfold en
        split
        · rw [Int.min_eq_right hie, Int.add_comm, Int.add_sub_cancel]
        · exact min_sub hie
      rw [if_pos hlt, Option.bind_some, cut1_part hw', hend]
      show (if max (max w.b f - f) i < en w (f + ie) - f then some (⟨w.tag, w.val, max (max w.b f - f) i - i, en w (f + ie) - f - i⟩ : WD) else none) = _
      rw [max_sub hi, Int.sub_sub, Int.sub_sub]
      by_cases h3 : max w.b (f + i) < en w (f + ie)
      · rw [if_pos (lt_sub.mpr h3), if_pos h3]
      · rw [if_neg (fun h => h3 (lt_sub.mp h)), if_neg h3]
    · rw [if_neg hlt, if_neg]
      · rfl
      · exact fun h => hlt (Int.lt_of_le_of_lt (max_up hi) (Int.lt_of_lt_of_le h (en_mono hle)))

theorem cut_cut {f bh i ie len : Int} {ws : List WD} (h : ∀ w ∈ ws, WOk len w) (hi : 0 ≤ i) (hii : i < ie) (hie : ie ≤ bh - f) : cutW i ie (cutW f bh ws) = cutW (f + i) (f + ie) ws := by
  unfold cutW
  rw [List.filterMap_filterMap]
  induction ws with
  | nil => rfl
  | cons w ws ih =>
    rw [List.filterMap_cons, List.filterMap_cons, cut1_cut1 (h w (.head _)) hi hii hie, ih fun x hx => h x (.tail _ hx)]

def whole (w : WD) : Bool := w.b == 0 && w.e == -1

theorem cut1_cases {b e : Int} {w w' : WD} (h : cut1 b e w = some w') :
    (whole w = true ∧ w' = w) ∨ (whole w = false ∧ max w.b b < en w e ∧ w' = ⟨w.tag, w.val, max w.b b - b, en w e - b⟩) := by
  cases hw : (w.b == 0 && w.e == -1) with
  | true => rw [cut1_all hw] at h; cases h; exact .inl ⟨hw, rfl⟩
  | false =>
    rw [cut1_part hw] at h
    by_cases hlt : max w.b b < en w e
    · rw [if_pos hlt] at h; cases h; exact .inr ⟨hw, hlt, rfl⟩
    · rw [if_neg hlt] at h; cases h

theorem cut1_tag {b e : Int} {w w' : WD} (h : cut1 b e w = some w') : w'.tag = w.tag := by
  rcases cut1_cases h with ⟨_, rfl⟩ | ⟨_, _, rfl⟩ <;> rfl

/-- which wishes stay, told by the wish itself -/
def stays (b e : Int) (w : WD) : Bool := (w.b == 0 && w.e == -1) || (decide (w.b < e) && (decide (w.e < 0) || decide (b < w.e)))
theorem cut1_stays {b e len : Int} {w : WD} (h : WOk len w) (hbe : b < e) : (cut1 b e w).isSome = stays b e w := by
  unfold stays
  cases hw : (w.b == 0 && w.e == -1) with
  | true => rw [cut1_all hw]; rfl
  | false =>
    have key : (max w.b b < en w e) ↔ (decide (w.b < e) && (decide (w.e < 0) || decide (b < w.e))) = true := by
      rw [Bool.and_eq_true, Bool.or_eq_true, decide_eq_true_eq, decide_eq_true_eq, decide_eq_true_eq]
      unfold en
      split
      · rename_i h0
        exact (max_one hbe).trans ⟨fun h => ⟨h, .inl h0⟩, And.left⟩
      · rename_i h0
        have h1 : w.b < w.e := h.e.elim (fun h => absurd (by rw [h]; decide) h0) id
        exact (max_min h1 hbe).trans ⟨fun h => ⟨h.1, .inr h.2⟩, fun h => ⟨h.1, h.2.elim (fun h => absurd h h0) id⟩⟩
    rw [cut1_part hw, Bool.false_or]
    by_cases hlt : max w.b b < en w e
    · rw [if_pos hlt, key.mp hlt]; rfl
    · rw [if_neg hlt, Bool.eq_false_iff.mpr fun h => hlt (key.mpr h)]; rfl

theorem cut1_whole {b e len : Int} {w w' : WD} (_ : WOk len w) (_ : 0 ≤ b) (hc : cut1 b e w = some w') : whole w' = whole w := by
  rcases cut1_cases hc with ⟨_, rfl⟩ | ⟨hw, hlt, rfl⟩
  · rfl
  · rw [hw]
    unfold whole
    rw [Bool.and_eq_false_iff]
    right
    rw [beq_eq_false_iff_ne]
    intro h
    have := pos_of hlt
    rw [show en w e - b = -1 from h] at this
    exact absurd this (by decide)

theorem kept_tags {b e len : Int} : ∀ {ws : List WD}, (∀ w ∈ ws, WOk len w) → b < e → (cutW b e ws).map (·.tag) = (ws.filter (stays b e)).map (·.tag)
  | [], _, _ => rfl
  | w :: ws, h, hbe => by
    have ih := kept_tags (fun x hx => h x (.tail _ hx)) hbe
    have hs := cut1_stays (h w (.head _)) hbe
    unfold cutW at ih ⊢
    rw [List.filterMap_cons]
    cases hc : cut1 b e w with
    | none =>
      rw [hc] at hs
      have : stays b e w = false := hs.symm
      rw [List.filter_cons_of_neg (by rw [this]; decide)]
      exact ih
    | some w' =>
      rw [hc] at hs
      have : stays b e w = true := hs.symm
      rw [List.filter_cons_of_pos this, List.map_cons, List.map_cons, ih, cut1_tag hc]

theorem whole_tags {b e len : Int} : ∀ {ws : List WD}, (∀ w ∈ ws, WOk len w) → 0 ≤ b → ((cutW b e ws).filter whole).map (·.tag) = (ws.filter whole).map (·.tag)
  | [], _, _ => rfl
  | w :: ws, h, h0 => by
    have ih := whole_tags (fun x hx => h x (.tail _ hx)) h0 (e := e)
    unfold cutW at ih ⊢
    rw [List.filterMap_cons]
    cases hc : cut1 b e w with
    | none =>
      have : whole w = false := by
        cases hw : whole w with
        | false => rfl
        | true =>
          have : cut1 b e w = some w := cut1_all hw
          rw [this] at hc; cases hc
      rw [List.filter_cons_of_neg (by rw [this]; decide)]
      exact ih
    | some w' =>
      have e1 := cut1_whole (h w (.head _)) h0 hc
      show (List.filter whole (w' :: List.filterMap (cut1 b e) ws)).map (·.tag) = _
      rw [List.filter_cons, List.filter_cons, e1]
      cases hw : whole w with
      | false => simpa using ih
      | true => simp only [if_true, List.map_cons, ih, cut1_tag hc]

theorem cutW_ok {b e len : Int} {ws : List WD} (h : ∀ w ∈ ws, WOk len w) : ∀ w ∈ cutW b e ws, PyData.strOk w.tag = true := fun w hw => by
  obtain ⟨x, hx, hc⟩ := List.mem_filterMap.mp hw
  rw [cut1_tag hc]; exact (h x hx).tag
def StrV (v : Value) (x : Str) : Prop := ∃ t, v = .str x t

theorem reads_strs {g : Heap} : ∀ {vs : List Value} {xs : List Str}, Paired StrV vs xs → ∃ as, ReadsAll g vs (xs.map .str) as
  | _, _, .nil => ⟨_, .nil⟩
  | _, _, .cons h t => by
    obtain ⟨tt, rfl⟩ := h
    obtain ⟨bs, hb⟩ := reads_strs t
    exact ⟨_, .cons (.str _ tt) hb⟩

section
variable {w : World} {A : Around} {E : Value → Shared → Prop} {s : Shared} {g h : Heap} {tk : TD} {L : Addr} {l l' : List (Str × Value)} {nw nw' : List (Addr × Obj)} {env : Env} {x : Str} {v : Value} {pos : Pos} {Q : Value → Shared → Prop}

inductive TagSrc (w : World) (A : Around) (s : Shared) (L : Addr) (Q : Value → Shared → Prop) (tags : List WD → List Str) (it : Value) (s₂ : Shared) : Prop
  | mk (g₁ h₁ : Heap) (tk₁ : TD) (l₁ : List (Str × Value)) (nw₁ : List (Addr × Obj)) (Ia : Addr) (o : Obj) (vs : List Value) (ws : List WD) (It : Nat → Obj → Prop)
    (eqs : s₂ = SS s h₁ tk₁) (eqi : it = .ref Ia) (S : St g₁ L h₁ l₁ ((Ia, o) :: nw₁)) (K : ItK w A g₁ vs.length (fun _ i v => vs[i]? = some v) It) (I0 : It 0 o) (hw : Paired (WAt g₁) vs ws) (hn : ws.length ≤ 100) (C : Cx w g₁)
    (fin : ∀ g' h' tk' D ys, g₁.StaysIn g' → St g' L h' l₁ nw₁ → g'.IsList D (List.toArray ys) → Paired StrV ys (tags ws) → Q (.ref D) (SS s h' tk')) : TagSrc w A s L Q tags it s₂

theorem tags_comp {scope : Scope} {cl : List (Str × Addr)} {iter : Expr} {p1 p2 p3 : Pos} (hroom : A.depth < 800)
    (hclos : closureFor scope env = pure cl) (hcell : ∀ y ∈ scope.names, y.2 ≠ .cell) (hkind : scope.kind = .function) (hnames : ∀ y ∈ scope.names, y.2 = .local → scope.names.lookup y.1 = some .local) (hx : scope.names.lookup ("wish" : Str) = some .local)
    (hq : ∀ K : Value → Shared → Prop, (∀ it s₂, TagSrc w A s L Q (fun ws => ws.map (·.tag)) it s₂ → K it s₂) → wpAny (model PG w) A (eval iter env) (fun xv s₁ => wpAny (model PG w) A (pyIter xv) K E s₁) E (SS s h tk))
    (hs : ∀ x, foldedSetIterable iter env x = pure x := by intro _; rfl) :
    wpAny (model PG w) A (eval (.ListComp (.Attribute (.Name "wish" p1) "tag" p2) [⟨.Name "wish" p3, iter, [], 0⟩] scope pos) env) Q E (SS s h tk) := by
  refine comp_eval (L := L) hclos hcell hkind hnames (Nat.zero_le _) (fun K₀ hK₀ => hq K₀ fun it s₂ h₂ => hK₀ _ _ ?_) hs
  obtain ⟨g₁, h₁, tk₁, l₁, nw₁, Ia, o, vs, ws, It, rfl, rfl, S, K, I0, hw, hn, C, fin⟩ := h₂
  have hlv : vs.length = ws.length := hw.length
  refine ⟨vs.length, _, It, fun (i : Nat) (g' : Heap) (nw' : List (Addr × Obj)) (ys : List Value) => EqN nw' nw₁ ∧ Paired StrV ys ((ws.take i).map (·.tag)), g₁, h₁, tk₁, l₁, nw₁, Ia, o, rfl, rfl, S, K, I0, ⟨rfl, .nil⟩, by omega, ?_, ?_⟩
  · rintro i v g₃ g₄ h₈ tk₈ nw₈ o₈ ys Cc D oA oL' E' K₁ N₁ hi hys k5 k6 hitem ⟨rfl, hrs⟩ S₈ ⟨hK₁, hN₁⟩
    have kk : g₁.StaysIn g₄ := fun b o e => k6 _ _ (k5 _ _ e)
    have C₄ : Cx w g₄ := C.mono kk
    obtain ⟨r, hr, hW⟩ := pget hw hitem
    have hW := WAt.mono kk _ _ hW
    have htake : ws.take (i + 1) = ws.take i ++ [r] := by rw [List.take_add_one, hr]; rfl
    have hk : (compEnvC scope cl Cc env).kindOf "wish" = some .local := lookup_relabel_local hx
    refine wpAny_assign_Name (stL S₈ (l' := []) .nil (fun h₉ tk₉ S₉ => ?_) rfl hk (by simp [compEnvC, relabel, hkind]))
    refine tests_nil ?_
    refine Attribute_any_ (nmL S₉ (.head _) ?_ rfl (by show (relabel scope env).kind = _; exact hkind) hk)
    refine wish_tag S₉ C₄ hW fun t tk₁₀ => ?_
    refine hK₁ _ _ ⟨g₄, _, _, _, _, rfl, fun _ _ e => e, ⟨rfl, ?_⟩, S₉⟩
    rw [htake, List.map_append]
    exact hrs.snoc ⟨t, rfl⟩
  · rintro g' g'' h' tk' nw' D ys k5 k6 ⟨rfl, hrs⟩ hD S₈
    rw [hlv, List.take_length] at hrs
    exact fin g'' h' tk' D ys (fun _ _ e => k6 _ _ (k5 _ _ e)) S₈ hD hrs

theorem tags_compW {scope : Scope} {cl : List (Str × Addr)} {iter : Expr} {p1 p2 p3 p4 p5 p6 : Pos} (hroom : A.depth < 800)
    (hclos : closureFor scope env = pure cl) (hcell : ∀ y ∈ scope.names, y.2 ≠ .cell) (hkind : scope.kind = .function) (hnames : ∀ y ∈ scope.names, y.2 = .local → scope.names.lookup y.1 = some .local) (hx : scope.names.lookup ("wish" : Str) = some .local)
    (hq : ∀ K : Value → Shared → Prop, (∀ it s₂, TagSrc w A s L Q (fun ws => (ws.filter whole).map (·.tag)) it s₂ → K it s₂) → wpAny (model PG w) A (eval iter env) (fun xv s₁ => wpAny (model PG w) A (pyIter xv) K E s₁) E (SS s h tk))
    (he : ∀ env, eval (.Call (.Attribute (.Name "wish" p4) "is_whole" p5) [] [] p6) env = (do
      let ov ← eval (.Name "wish" p4) env
      standAt p5.atName
      let (f, first) ← holding [ov] (getMethod ov "is_whole" (do return (← importBound (.Name "wish" p4) env).getD true))
      callWith p6 f first (backTo p6 (starEach [] env)) []) := by intro _; rfl)
    (hs : ∀ x, foldedSetIterable iter env x = pure x := by intro _; rfl) :
    wpAny (model PG w) A (eval (.ListComp (.Attribute (.Name "wish" p1) "tag" p2) [⟨.Name "wish" p3, iter, [.Call (.Attribute (.Name "wish" p4) "is_whole" p5) [] [] p6], 0⟩] scope pos) env) Q E (SS s h tk) := by
  refine comp_eval (L := L) hclos hcell hkind hnames (Nat.le_refl _) (fun K₀ hK₀ => hq K₀ fun it s₂ h₂ => hK₀ _ _ ?_) hs
  obtain ⟨g₁, h₁, tk₁, l₁, nw₁, Ia, o, vs, ws, It, rfl, rfl, S, K, I0, hw, hn, C, fin⟩ := h₂
  have hlv : vs.length = ws.length := hw.length
  refine ⟨vs.length, _, It, fun (i : Nat) (g' : Heap) (nw' : List (Addr × Obj)) (ys : List Value) => EqN nw' nw₁ ∧ Paired StrV ys (((ws.take i).filter whole).map (·.tag)), g₁, h₁, tk₁, l₁, nw₁, Ia, o, rfl, rfl, S, K, I0, ⟨rfl, .nil⟩, by omega, ?_, ?_⟩
  · rintro i v g₃ g₄ h₈ tk₈ nw₈ o₈ ys Cc D oA oL' E' K₁ N₁ hi hys k5 k6 hitem ⟨rfl, hrs⟩ S₈ ⟨hK₁, hN₁⟩
    have kk : g₁.StaysIn g₄ := fun b o e => k6 _ _ (k5 _ _ e)
    have C₄ : Cx w g₄ := C.mono kk
    obtain ⟨r, hr, hW⟩ := pget hw hitem
    have hW := WAt.mono kk _ _ hW
    have htake : ws.take (i + 1) = ws.take i ++ [r] := by rw [List.take_add_one, hr]; rfl
    have hk : (compEnvC scope cl Cc env).kindOf "wish" = some .local := lookup_relabel_local hx
    have hkd : (compEnvC scope cl Cc env).scope.kind = .function := by show (relabel scope env).kind = _; exact hkind
    refine wpAny_assign_Name (stL S₈ (l' := []) .nil (fun h₉ tk₉ S₉ => ?_) rfl hk (by simp [compEnvC, relabel, hkind]))
    refine tests_one (wpAny_isTrue_value ?_)
    refine MethodCall_ ?_ (he _)
    refine nmL S₉ (.head _) ?_ rfl hkd hk
    refine wish_whole S₉ C₄ hW (Nat.lt_of_lt_of_le hroom (by decide)) fun h₁₀ tk₁₀ S₁₀ => ?_
    refine wpAny_truthy_bool ?_
    refine ite_bool (fun hb => ?_) (fun hb => ?_)
    · refine Attribute_any_ (nmL S₁₀ (.head _) ?_ rfl hkd hk)
      refine wish_tag S₁₀ C₄ hW fun t tk₁₁ => ?_
      refine hK₁ _ _ ⟨g₄, _, _, _, _, rfl, fun _ _ e => e, ⟨rfl, ?_⟩, S₁₀⟩
      rw [htake, List.filter_append, List.filter_cons_of_pos (show whole r = true from hb), List.filter_nil, List.map_append]
      exact hrs.snoc ⟨t, rfl⟩
    · refine hN₁ _ ⟨g₄, _, _, _, _, rfl, fun _ _ e => e, ⟨rfl, ?_⟩, S₁₀⟩
      rw [htake, List.filter_append, List.filter_cons_of_neg (by rw [show whole r = false from hb]; decide), List.filter_nil, List.append_nil]
      exact hrs
  · rintro g' g'' h' tk' nw' D ys k5 k6 ⟨rfl, hrs⟩ hD S₈
    rw [hlv, List.take_length] at hrs
    exact fin g'' h' tk' D ys (fun _ _ e => k6 _ _ (k5 _ _ e)) S₈ hD hrs
end
section
variable {w : World} {A : Around} {E : Value → Shared → Prop} {s : Shared} {g h : Heap} {tk : TD} {L : Addr} {l l' : List (Str × Value)} {nw nw' : List (Addr × Obj)} {env : Env} {x : Str} {v : Value} {pos : Pos}

theorem seg2 {fa p W : Addr} {cd y : Value} {c3 c4 c5 op : Obj} {len : Int} {tl : Tok} {bw : Bool} {wvs : List Value} {ws : List WD} {Q : Flow → Shared → Prop}
    (S : St g L h [("length", .int len tl), ("wishes", .ref W), ("is_backward", .bool bw)] [(L + 3, c3), (L + 4, c4), (L + 5, c5), (p, op)]) (C : Cx w g) (hc3 : c3.data = .cell none) (hc4 : c4.data = .cell none) (hc5 : c5.data = .cell none)
    (hcp : g.IsCell (L + 1) (some (.ref p))) (P : Pen g 100 op) (hl1 : 1 ≤ len) (hl2 : len ≤ 30) (hW : g.IsList W wvs.toArray) (hws : Paired (WAt g) wvs ws) (hwn : ws.length ≤ 4) (hwok : ∀ x ∈ ws, WOk len x)
    (hroom : A.depth < 600) (hh : A.handled = none) (hu : A.units < 4000)
    (hq : ∀ g' h' tk' op' f tf bh tb i ti ie te T tvs, g.StaysIn g' → St g' L h' [("once", .ref T), ("behind", .int bh tb), ("length", .int len tl), ("wishes", .ref W), ("is_backward", .bool bw)] [(p, op')] →
      g'.IsCell (L + 3) (some (.int f tf)) → g'.IsCell (L + 4) (some (.int i ti)) → g'.IsCell (L + 5) (some (.int ie te)) → Pen g' 110 op' → 0 ≤ f → f < bh → bh ≤ len → 0 ≤ i → i < ie → ie ≤ bh - f →
      g'.IsTuple T (List.toArray tvs) → Paired (WAt g') tvs (cutW (f + i) (f + ie) ws) →
      wpAny (model PG w) A (execs ((lawBody w.params).drop 14) (lawEnv w.params L fa cd)) Q E (SS s h' tk')) :
    wpAny (model PG w) A (execs ((lawBody w.params).drop 7) (lawEnv w.params L fa cd)) Q E (SS s h tk) := by
  refine seqK fun K₉ H₉ => ?_
  walk_at "m"
  refine draw_spec (F := fun o => [(L + 3, c3), (L + 4, c4), (L + 5, c5), (p, o)]) ‹_› C (fun _ _ => .tail (.tail (.tail .head))) P (by decide) (by omega) (by omega) (Nat.lt_of_lt_of_le hroom (by decide)) fun f tf h₁ tk₁ op₁ hf0 hf1 P₁ S₁ => ?_
  refine stC (x := "first") S₁ rfl hc3 (fun h₂ g₂ k₂ S₂ hcf => ?_) rfl rfl
  have C₂ := C.mono k₂
  have P₂ := P₁.mono k₂
  have hcp₂ := hcp.keeps k₂
  walk_at "m"
  refine draw_spec (F := fun o => [(L + 4, c4), (L + 5, c5), (p, o)]) ‹_› C₂ (fun _ _ => .tail (.tail .head)) P₂ (by decide) (by omega) (by omega) (Nat.lt_of_lt_of_le hroom (by decide)) fun d1 t1 h₃ tk₃ op₃ hd0 hd1 P₃ S₃ => ?_
  walk_at "m"
  refine draw_spec (F := fun o => [(L + 4, c4), (L + 5, c5), (p, o)]) ‹_› C₂ (fun _ _ => .tail (.tail .head)) P₃ (by decide) (by omega) (by omega) (Nat.lt_of_lt_of_le hroom (by decide)) fun i ti h₄ tk₄ op₄ hi0 hi1 P₄ S₄ => ?_
  refine stC (x := "inner") S₄ rfl hc4 (fun h₅ g₅ k₅ S₅ hci => ?_) rfl rfl
  have C₅ := C₂.mono k₅
  have P₅ := P₄.mono k₅
  have hcp₅ := hcp₂.keeps k₅
  have hcf₅ := hcf.keeps k₅
  walk_at "m"
  refine draw_spec (F := fun o => [(L + 5, c5), (p, o)]) ‹_› C₅ (fun _ _ => .tail .head) P₅ (by decide) (by omega) (by omega) (Nat.lt_of_lt_of_le hroom (by decide)) fun d2 t2 h₆ tk₆ op₆ hd2 hd3 P₆ S₆ => ?_
  walk_at "m"
  refine stC (x := "inner_end") S₆ rfl hc5 (fun h₇ g₇ k₇ S₇ hce => ?_) rfl rfl
  have C₇ := C₅.mono k₇
  have P₇ := P₆.mono k₇
  have hcp₇ := hcp₅.keeps k₇
  have hcf₇ := hcf₅.keeps k₇
  have hci₇ := hci.keeps k₇
  have k₀₇ : g.StaysIn g₇ := fun _ _ e => k₇ _ _ (k₅ _ _ (k₂ _ _ e))
  have hW₇ := isList_keeps hW k₀₇
  have hws₇ := pmono (WAt.mono k₀₇) hws
  have hwl : wvs.length ≤ 1000 := by have := hws.length; omega
  clear S₆ S₅ S₄ S₃ S₂ S₁
  walk_at "m"
  refine c_tupleOf ‹_› (isList_keeps hW₇ (St.keep ‹_›)) hwl fun g₈ h₈ T₁ k₈ S₈ hT₁ => ?_
  have C₈ := C₇.mono k₈
  have hcf₈ := hcf₇.keeps k₈
  have hci₈ := hci₇.keeps k₈
  have hce₈ := hce.keeps k₈
  have hws₈ := pmono (WAt.mono k₈) hws₇
  walk_at "m"
  refine within_spec ‹_› C₈ hT₁ hws₈ (by omega) (Nat.lt_of_lt_of_le hroom (by decide)) hh fun h₉ tk₉ g₉ T₂ tvs k₉ S₉ hT₂ htv => ?_
  have C₉ := C₈.mono k₉
  have hcf₉ := hcf₈.keeps k₉
  have hci₉ := hci₈.keeps k₉
  have hce₉ := hce₈.keeps k₉
  have hws₉ := pmono (WAt.mono k₉) hws₈
  have hW₉ := isList_keeps hW₇ (fun _ _ e => k₉ _ _ (k₈ _ _ e))
  walk_at "m"
  refine c_tupleOf ‹_› (isList_keeps hW₉ (St.keep ‹_›)) hwl fun g₁₀ h₁₀ T₃ k₁₀ S₁₀ hT₃ => ?_
  have C₁₀ := C₉.mono k₁₀
  have hcf₁₀ := hcf₉.keeps k₁₀
  have hci₁₀ := hci₉.keeps k₁₀
  have hce₁₀ := hce₉.keeps k₁₀
  have hws₁₀ := pmono (WAt.mono k₁₀) hws₉
  walk_at "m"
  refine within_spec ‹_› C₁₀ hT₃ hws₁₀ (by omega) (Nat.lt_of_lt_of_le hroom (by decide)) hh fun h₁₁ tk₁₁ g₁₁ T₄ tvs₄ k₁₁ S₁₁ hT₄ htv₄ => ?_
  have C₁₁ := C₁₀.mono k₁₁
  have hcf₁₁ := hcf₁₀.keeps k₁₁
  have hci₁₁ := hci₁₀.keeps k₁₁
  have hce₁₁ := hce₁₀.keeps k₁₁
  have k₉₁₁ : g₉.StaysIn g₁₁ := fun _ _ e => k₁₁ _ _ (k₁₀ _ _ e)
  walk_at "m"
  have hcl : ∀ b e, (cutW b e ws).length ≤ 4 := fun b e => Nat.le_trans (List.length_filterMap_le _ _) hwn
  refine within_spec ‹_› C₁₁ hT₄ htv₄ (by have := hcl f (f + 1 + d1); omega) (Nat.lt_of_lt_of_le hroom (by decide)) hh fun h₁₂ tk₁₂ g₁₂ T₅ tvs₅ k₁₂ S₁₂ hT₅ htv₅ => ?_
  have C₁₂ := C₁₁.mono k₁₂
  have k₉₁₂ : g₉.StaysIn g₁₂ := fun _ _ e => k₁₂ _ _ (k₉₁₁ _ _ e)
  have hcc : cutW i (i + 1 + d2) (cutW f (f + 1 + d1) ws) = cutW (f + i) (f + (i + 1 + d2)) ws := cut_cut hwok hi0 (by omega) (by omega)
  rw [hcc] at htv₅
  have hT₂' := isTuple_keeps hT₂ k₉₁₂
  have htv' := pmono (WAt.mono k₉₁₂) htv
  have hcf₁₂ := hcf₁₁.keeps k₁₂
  have hci₁₂ := hci₁₁.keeps k₁₂
  have hce₁₂ := hce₁₁.keeps k₁₂
  walk_at "m"
  refine wpAny_If ?_
  walk_at "m"
  refine told_spec ‹_› C₁₂ hT₂' htv' (by have := hcl (f + i) (f + (i + 1 + d2)); omega) (Nat.lt_of_lt_of_le hroom (by decide)) hh fun h₁₃ tk₁₃ g₁₃ D₁ dv₁ k₁₃ S₁₃ hD₁ hdv₁ => ?_
  have C₁₃ := C₁₂.mono k₁₃
  walk_at "m"
  refine told_spec ‹_› C₁₃ (isTuple_keeps hT₅ k₁₃) (pmono (WAt.mono k₁₃) htv₅) (by have := hcl (f + i) (f + (i + 1 + d2)); omega) (Nat.lt_of_lt_of_le hroom (by decide)) hh fun h₁₄ tk₁₄ g₁₄ D₂ dv₂ k₁₄ S₁₄ hD₂ hdv₂ => ?_
  walk_at "m"
  have r1 := reads_all (g := h₁₄) (D := toldD) (fun v r H => reads_told (TAt.mono (fun _ _ e => S₁₄.keep _ _ (k₁₄ _ _ e)) v r H)) hdv₁
  have r2 := reads_all (g := h₁₄) (D := toldD) (fun v r H => reads_told (TAt.mono S₁₄.keep v r H)) hdv₂
  obtain ⟨as, r1⟩ := r1
  obtain ⟨bs, r2⟩ := r2
  refine c_ne S₁₄ (isList_keeps hD₁ k₁₄) hD₂ r1 r2 ?_ ?_ (by omega) ?_
  · intro x hx
    obtain ⟨w', hw', rfl⟩ := List.mem_map.mp hx
    have := cutW_ok hwok w' hw'
    simp [toldD, PyData.canLay0, PyData.canLayAll0]
    exact this
  · intro x hx
    obtain ⟨w', hw', rfl⟩ := List.mem_map.mp hx
    simp [toldD, PyData.depth, PyData.depthAll]
  walk_at "m"
  rw [if_neg Bool.false_ne_true]
  refine wpAny_execs_nil ?_
  walk_at "mk"
  have k₁₂₁₄ : g₁₂.StaysIn g₁₄ := fun _ _ e => k₁₄ _ _ (k₁₃ _ _ e)
  have k₀₁₄ : g.StaysIn g₁₄ := fun _ _ e => k₁₂₁₄ _ _ (k₉₁₂ _ _ (k₉ _ _ (k₈ _ _ (k₀₇ _ _ e))))
  have k₇₁₄ : g₇.StaysIn g₁₄ := fun _ _ e => k₁₂₁₄ _ _ (k₉₁₂ _ _ (k₉ _ _ (k₈ _ _ e)))
  refine hq g₁₄ h₁₄ tk₁₄ op₆ f tf (f + 1 + d1) _ i ti (i + 1 + d2) _ T₂ tvs k₀₁₄ (S₁₄.names (by walk_at "msub")) (hcf₁₂.keeps k₁₂₁₄) (hci₁₂.keeps k₁₂₁₄) (hce₁₂.keeps k₁₂₁₄) ((P₇.mono k₇₁₄).up (by decide)) hf0 (by omega) (by omega) hi0 (by omega) (by omega)
    (isTuple_keeps hT₂' k₁₂₁₄) (pmono (WAt.mono k₁₂₁₄) htv')
end
section
variable {w : World} {A : Around} {E : Value → Shared → Prop} {s : Shared} {g h : Heap} {tk : TD} {L : Addr} {l l' : List (Str × Value)} {nw nw' : List (Addr × Obj)} {env : Env} {x : Str} {v : Value} {pos : Pos}

theorem seg3a {fa p W T : Addr} {cd : Value} {op : Obj} {len bh f i ie : Int} {tl tb tf ti te : Tok} {bw : Bool} {wvs : List Value} {ws : List WD} {Q : Flow → Shared → Prop}
    (S : St g L h [("once", .ref T), ("behind", .int bh tb), ("length", .int len tl), ("wishes", .ref W), ("is_backward", .bool bw)] [(p, op)]) (C : Cx w g)
    (hcf : g.IsCell (L + 3) (some (.int f tf))) (hci : g.IsCell (L + 4) (some (.int i ti))) (hce : g.IsCell (L + 5) (some (.int ie te)))
    (hW : g.IsList W wvs.toArray) (hws : Paired (WAt g) wvs ws) (hwn : ws.length ≤ 4)
    (hroom : A.depth < 600) (hh : A.handled = none)
    (hq : ∀ g' h' tk' D ys, g.StaysIn g' → St g' L h' [("kept", .ref D), ("once", .ref T), ("behind", .int bh tb), ("length", .int len tl), ("wishes", .ref W), ("is_backward", .bool bw)] [(p, op)] →
      g'.IsList D (List.toArray ys) → Paired StrV ys ((ws.filter (stays (f + i) (f + ie))).map (·.tag)) →
      wpAny (model PG w) A (execs ((lawBody w.params).drop 15) (lawEnv w.params L fa cd)) Q E (SS s h' tk')) :
    wpAny (model PG w) A (execs ((lawBody w.params).drop 14) (lawEnv w.params L fa cd)) Q E (SS s h tk) := by
  have hwl : wvs.length = ws.length := hws.length
  refine seqK fun K₉ H₉ => ?_
  refine comp_asgn (L := L) (cl := [("inner_end", L + 5), ("inner", L + 4), ("first", L + 3)]) rfl rfl (by decide) rfl (by decide) rfl rfl rfl (Nat.le_refl _) fun K₀ hK₀ => ?_
  walk_at "m"
  refine pi_list ‹_› hW fun h₁ I oI hI S₁ => ?_
  refine hK₀ _ _ ⟨_, _, _, fun (j : Nat) (g' : Heap) (nw' : List (Addr × Obj)) (ys : List Value) => EqN nw' [(p, op)] ∧ Paired StrV ys (((ws.take j).filter (stays (f + i) (f + ie))).map (·.tag)), g, h₁, _, _, _, I, oI, rfl, rfl, S₁, it_list hh hW, hI, ⟨rfl, .nil⟩, by omega, ?_, ?_⟩
  · rintro j v g₃ g₄ h₈ tk₈ nw₈ o₈ ys Cc D oA oL' E' K₁ N₁ hi hys k5 k6 hitem ⟨rfl, hrs⟩ S₈ ⟨hK₁, hN₁⟩
    have kk : g.StaysIn g₄ := fun b o e => k6 _ _ (k5 _ _ e)
    have C₄ : Cx w g₄ := C.mono kk
    have hcf₄ := hcf.keeps kk
    have hci₄ := hci.keeps kk
    have hce₄ := hce.keeps kk
    obtain ⟨r, hr, hW⟩ := pget hws hitem
    have hW := WAt.mono kk _ _ hW
    have htake : ws.take (j + 1) = ws.take j ++ [r] := by rw [List.take_add_one, hr]; rfl
    have yes : stays (f + i) (f + ie) r = true → ∀ h₉ tk₉ l₉, St g₄ Cc h₉ l₉ ([(I, o₈), (D, oA), (L, oL')] ++ [(p, op)]) → wpAny (model PG w) A (getAttr v "tag" true) K₁ E' (SS s h₉ tk₉) := by
      intro hst h₉ tk₉ l₉ S₉
      refine wish_tag S₉ C₄ hW fun t tk₁₀ => ?_
      refine hK₁ _ _ ⟨g₄, _, _, _, _, rfl, fun _ _ e => e, ⟨rfl, ?_⟩, S₉⟩
      rw [htake, List.filter_append, List.filter_cons_of_pos hst, List.filter_nil, List.map_append]
      exact hrs.snoc ⟨t, rfl⟩
    have no : stays (f + i) (f + ie) r = false → ∀ h₉ tk₉ l₉, St g₄ Cc h₉ l₉ ([(I, o₈), (D, oA), (L, oL')] ++ [(p, op)]) → N₁ (SS s h₉ tk₉) := by
      intro hst h₉ tk₉ l₉ S₉
      refine hN₁ _ ⟨g₄, _, _, _, _, rfl, fun _ _ e => e, ⟨rfl, ?_⟩, S₉⟩
      rw [htake, List.filter_append, List.filter_cons_of_neg (by rw [hst]; decide), List.filter_nil, List.append_nil]
      exact hrs
    walk_at "m"
    refine tests_one ?_
    walk_at "m"
    refine wish_whole ‹_› C₄ hW (Nat.lt_of_lt_of_le hroom (by decide)) fun h₁₀ tk₁₀ S₁₀ => ?_
    walk_at "m"
    refine ite_bool (fun hb => ?_) (fun hb => ?_)
    · have hst : stays (f + i) (f + ie) r = true := by unfold stays; rw [hb]; rfl
      repeat (first | rw [if_pos rfl] | rw [if_neg Bool.false_ne_true] | walk_at "m1")
      exact yes hst _ _ _ ‹_›
    · walk_at "m"
      refine wish_begin ‹_› C₄ hW fun _ _ => ?_
      walk_at "m"
      refine ite_dec (fun hb1 => ?_) (fun hb1 => ?_)
      · walk_at "m"
        refine wish_end ‹_› C₄ hW fun _ _ => ?_
        walk_at "m"
        refine ite_dec (fun hb2 => ?_) (fun hb2 => ?_)
        · have hst : stays (f + i) (f + ie) r = true := by unfold stays; rw [decide_eq_true hb1, decide_eq_true hb2]; simp
          repeat (first | rw [if_pos rfl] | rw [if_neg Bool.false_ne_true] | walk_at "m1")
          exact yes hst _ _ _ ‹_›
        · walk_at "m"
          refine wish_end ‹_› C₄ hW fun _ _ => ?_
          walk_at "m"
          refine ite_dec (fun hb3 => ?_) (fun hb3 => ?_)
          · have hst : stays (f + i) (f + ie) r = true := by unfold stays; rw [decide_eq_true hb1, decide_eq_true hb3]; simp
            repeat (first | rw [if_pos rfl] | rw [if_neg Bool.false_ne_true] | walk_at "m1")
            exact yes hst _ _ _ ‹_›
          · have hst : stays (f + i) (f + ie) r = false := by unfold stays; rw [hb, decide_eq_false hb2, decide_eq_false hb3]; simp
            repeat (first | rw [if_pos rfl] | rw [if_neg Bool.false_ne_true] | walk_at "m1")
            exact no hst _ _ _ ‹_›
      · have hst : stays (f + i) (f + ie) r = false := by unfold stays; rw [hb, decide_eq_false hb1]; rfl
        repeat (first | rw [if_pos rfl] | rw [if_neg Bool.false_ne_true] | walk_at "m1")
        exact no hst _ _ _ ‹_›
  · refine ⟨_, by walk_at "mrem", ?_⟩
    rintro g₃ g₄ h₈ tk₈ nw₈ D ys k5 k6 ⟨rfl, hrs⟩ hD S₈
    rw [hwl, List.take_length] at hrs
    exact H₉.nx _ <| hq g₄ h₈ tk₈ D ys (fun _ _ e => k6 _ _ (k5 _ _ e)) S₈ hD hrs
end
section
variable {w : World} {A : Around} {E : Value → Shared → Prop} {s : Shared} {g h : Heap} {tk : TD} {L : Addr} {l l' : List (Str × Value)} {nw nw' : List (Addr × Obj)} {env : Env} {x : Str} {v : Value} {pos : Pos}

theorem strs_can {ws : List WD} (h : ∀ x ∈ ws, PyData.strOk x.tag = true) : ∀ d ∈ (ws.map (·.tag)).map PyData.str, d.canLay0 = true := by
  intro d hd
  obtain ⟨t, ht, rfl⟩ := List.mem_map.mp hd
  obtain ⟨x, hx, rfl⟩ := List.mem_map.mp ht
  simp [PyData.canLay0]
  exact h x hx
theorem strs_depth {xs : List Str} : ∀ d ∈ xs.map PyData.str, d.depth ≤ 5 := by
  intro d hd
  obtain ⟨t, ht, rfl⟩ := List.mem_map.mp hd
  simp [PyData.depth]

theorem seg3b {fa p W T D : Addr} {cd : Value} {op : Obj} {len bh b e : Int} {tl tb : Tok} {bw : Bool} {wvs tvs ys : List Value} {ws : List WD} {Q : Flow → Shared → Prop}
    (S : St g L h [("kept", .ref D), ("once", .ref T), ("behind", .int bh tb), ("length", .int len tl), ("wishes", .ref W), ("is_backward", .bool bw)] [(p, op)]) (C : Cx w g)
    (hT : g.IsTuple T tvs.toArray) (htv : Paired (WAt g) tvs (cutW b e ws)) (hD : g.IsList D ys.toArray) (hys : Paired StrV ys ((ws.filter (stays b e)).map (·.tag)))
    (hW : g.IsList W wvs.toArray) (hws : Paired (WAt g) wvs ws) (hwn : ws.length ≤ 4) (hwok : ∀ x ∈ ws, WOk len x) (h0 : 0 ≤ b) (hbe : b < e)
    (hroom : A.depth < 600) (hh : A.handled = none) (hu : A.units < 4000)
    (hq : ∀ g' h' tk', g.StaysIn g' → St g' L h' [("behind", .int bh tb), ("length", .int len tl), ("is_backward", .bool bw)] [(p, op)] →
      wpAny (model PG w) A (execs ((lawBody w.params).drop 16) (lawEnv w.params L fa cd)) Q E (SS s h' tk')) :
    wpAny (model PG w) A (execs ((lawBody w.params).drop 15) (lawEnv w.params L fa cd)) Q E (SS s h tk) := by
  have hcl : (cutW b e ws).length ≤ 4 := Nat.le_trans (List.length_filterMap_le _ _) hwn
  have htl : tvs.length ≤ 4 := by have := htv.length; omega
  refine seqK fun K₉ H₉ => ?_
  refine wpAny_If ?_
  walk_at "m"
  refine tags_comp (L := L) (cl := []) (Nat.lt_of_lt_of_le hroom (by decide)) rfl (by decide) rfl (by decide) rfl fun K₀ hK₀ => ?_
  walk_at "m"
  refine pi_tuple ‹_› hT fun h₁ I oI hI S₁ => ?_
  refine hK₀ _ _ ⟨g, h₁, _, _, _, I, oI, tvs, _, _, rfl, rfl, S₁, it_tuple hh hT, hI, htv, by omega, C, fun g₂ h₂ tk₂ D₂ ys₂ k₂ S₂ hD₂ hys₂ => ?_⟩
  have C₂ := C.mono k₂
  walk_at "m"
  obtain ⟨as, r1⟩ := reads_strs (g := h₂) hys₂
  obtain ⟨bs, r2⟩ := reads_strs (g := h₂) hys
  rw [kept_tags hwok hbe] at r1
  refine c_ne S₂ hD₂ (isList_keeps hD k₂) r1 r2 (strs_can fun x hx => (hwok x (List.mem_filter.mp hx).1).tag) strs_depth (by omega) ?_
  walk_at "m"
  rw [if_neg Bool.false_ne_true]
  walk_at "m"
  refine tags_compW (L := L) (cl := []) (Nat.lt_of_lt_of_le hroom (by decide)) rfl (by decide) rfl (by decide) rfl fun K₀ hK₀ => ?_
  walk_at "m"
  have hT₂ := isTuple_keeps hT k₂
  refine pi_tuple ‹_› hT₂ fun h₃ I₃ oI₃ hI₃ S₃ => ?_
  refine hK₀ _ _ ⟨g₂, h₃, _, _, _, I₃, oI₃, tvs, _, _, rfl, rfl, S₃, it_tuple hh hT₂, hI₃, pmono (WAt.mono k₂) htv, by omega, C₂, fun g₄ h₄ tk₄ D₄ ys₄ k₄ S₄ hD₄ hys₄ => ?_⟩
  have C₄ := C₂.mono k₄
  have k₀₄ : g.StaysIn g₄ := fun _ _ e => k₄ _ _ (k₂ _ _ e)
  walk_at "m"
  refine tags_compW (L := L) (cl := []) (Nat.lt_of_lt_of_le hroom (by decide)) rfl (by decide) rfl (by decide) rfl fun K₀ hK₀ => ?_
  walk_at "m"
  have hW₄ := isList_keeps hW k₀₄
  refine pi_list ‹_› hW₄ fun h₅ I₅ oI₅ hI₅ S₅ => ?_
  refine hK₀ _ _ ⟨g₄, h₅, _, _, _, I₅, oI₅, wvs, _, _, rfl, rfl, S₅, it_list hh hW₄, hI₅, pmono (WAt.mono k₀₄) hws, by omega, C₄, fun g₆ h₆ tk₆ D₆ ys₆ k₆ S₆ hD₆ hys₆ => ?_⟩
  walk_at "m"
  obtain ⟨as', r1⟩ := reads_strs (g := h₆) hys₄
  obtain ⟨bs', r2⟩ := reads_strs (g := h₆) hys₆
  rw [whole_tags hwok h0] at r1
  refine c_ne S₆ (isList_keeps hD₄ k₆) hD₆ r1 r2 (strs_can fun x hx => (hwok x (List.mem_filter.mp hx).1).tag) strs_depth (by omega) ?_
  walk_at "m"
  rw [if_neg Bool.false_ne_true]
  walk_at "m"
  rw [if_neg Bool.false_ne_true]
  refine wpAny_execs_nil ?_
  walk_at "mk"
  exact hq g₆ h₆ _ (fun _ _ e => k₆ _ _ (k₀₄ _ _ e)) (S₆.names (by walk_at "msub"))
end
theorem cutR_cutR {f bh i ie : Int} {rs : List Row} (hi : 0 ≤ i) (hie : ie ≤ bh - f) : cutR i ie (cutR f bh rs) = cutR (f + i) (f + ie) rs := by
  unfold cutR
  rw [List.filterMap_filterMap]
  congr 1
  funext r
  have hle : f + ie ≤ bh := Int.add_le_of_le_sub_left hie
  by_cases h1 : f ≤ r.cl ∧ r.cl < bh
  · rw [if_pos h1]
    show (if i ≤ r.cl - f ∧ r.cl - f < ie then some { r with cl := r.cl - f - i } else none) = _
    have key : (i ≤ r.cl - f ∧ r.cl - f < ie) ↔ (f + i ≤ r.cl ∧ r.cl < f + ie) :=
      and_congr ⟨Int.add_le_of_le_sub_left, Int.le_sub_left_of_add_le⟩ ⟨fun h => Int.add_comm ie f ▸ Int.lt_add_of_sub_right_lt h, fun h => Int.sub_left_lt_of_lt_add h⟩
    by_cases h2 : i ≤ r.cl - f ∧ r.cl - f < ie
    · rw [if_pos h2, if_pos (key.mp h2), Int.sub_sub]
    · rw [if_neg h2, if_neg fun h => h2 (key.mpr h)]
  · rw [if_neg h1, if_neg fun h => h1 ⟨Int.le_trans (Int.le_add_of_nonneg_right hi) h.1, Int.lt_of_lt_of_le h.2 hle⟩]
    rfl

def segR (b e : Int) (rs : List Row) : List Row := rs.filter fun r => decide (b ≤ r.cl ∧ r.cl < e)

theorem shcut (b e : Int) : ∀ rs : List Row, shR b (cutR b e rs) = segR b e rs
  | [] => rfl
  | r :: rs => by
    have ih := shcut b e rs
    unfold cutR segR at ih ⊢
    by_cases h : b ≤ r.cl ∧ r.cl < e
    · rw [List.filterMap_cons, if_pos h, List.filter_cons_of_pos (by simpa using h)]
      show { r with cl := r.cl - b + b } :: shR b _ = _
      rw [ih]
      rw [Int.sub_add_cancel]
    · rw [List.filterMap_cons, if_neg h, List.filter_cons_of_neg (by simpa using h)]
      exact ih

theorem segR_none {b m : Int} {rs : List Row} (h : ∀ r ∈ rs, m ≤ r.cl) : segR b m rs = [] :=
  List.filter_eq_nil_iff.mpr fun r hr e => Int.not_le.mpr (of_decide_eq_true e).2 (h r hr)

theorem segR_join {b m e : Int} (hbm : b ≤ m) (hme : m ≤ e) {rs : List Row} (h : rs.Pairwise (fun a b => a.cl ≤ b.cl)) : segR b m rs ++ segR m e rs = segR b e rs := by
  induction rs with
  | nil => rfl
  | cons r rs ih =>
    have h' := List.pairwise_cons.mp h
    by_cases hm : r.cl < m
    · have ih := ih h'.2
      unfold segR at ih ⊢
      rw [List.filter_cons_of_neg (l := rs) (p := fun r => decide (m ≤ r.cl ∧ r.cl < e)) (fun e => Int.not_le.mpr hm (of_decide_eq_true e).1)]
      by_cases hb : b ≤ r.cl
      · rw [List.filter_cons_of_pos (l := rs) (decide_eq_true ⟨hb, hm⟩), List.filter_cons_of_pos (l := rs) (decide_eq_true ⟨hb, Int.lt_of_lt_of_le hm hme⟩), List.cons_append, ih]
      · rw [List.filter_cons_of_neg (l := rs) (fun e => hb (of_decide_eq_true e).1), List.filter_cons_of_neg (l := rs) (fun e => hb (of_decide_eq_true e).1), ih]
    · have hall : ∀ x ∈ r :: rs, m ≤ x.cl := List.forall_mem_cons.mpr ⟨Int.not_lt.mp hm, fun x hx => Int.le_trans (Int.not_lt.mp hm) (h'.1 x hx)⟩
      rw [segR_none hall, List.nil_append]
      exact List.filter_congr fun x hx => decide_eq_decide.mpr (and_congr_left' ⟨fun _ => Int.le_trans hbm (hall x hx), fun _ => hall x hx⟩)

theorem join_fwd {n : Int} {rs : List Row} (h : rs.Pairwise (fun a b => a.cl ≤ b.cl)) : ∀ (ks : List Int) (b : Int) (acc : List Row), (b :: ks).Pairwise (· < ·) → (∀ k ∈ b :: ks, k ≤ n) →
    joinR false (((b :: ks).zip (ks ++ [n])).map fun p => (cutR p.1 p.2 rs, p.1)) acc = acc ++ segR b n rs
  | [], b, acc, _, hn => by
    show acc ++ shR b (cutR b n rs) = _
    rw [shcut]
  | k :: ks, b, acc, hp, hn => by
    have hp' := List.pairwise_cons.mp hp
    show joinR false (((k :: ks).zip (ks ++ [n])).map fun p => (cutR p.1 p.2 rs, p.1)) (acc ++ shR b (cutR b k rs)) = _
    rw [join_fwd h ks k _ hp'.2 (fun x hx => hn x (.tail _ hx)), shcut, List.append_assoc, segR_join (Int.le_of_lt (hp'.1 k (.head _))) (hn k (.tail _ (.head _))) h]

theorem segR_rev (b e : Int) (rs : List Row) : segR b e rs.reverse = (segR b e rs).reverse := by
  unfold segR; rw [List.filter_reverse]

theorem join_bwd {n : Int} {rs : List Row} (h : rs.Pairwise (fun a b => a.cl ≤ b.cl)) : ∀ (ks : List Int) (b : Int) (acc : List Row), (b :: ks).Pairwise (· < ·) → (∀ k ∈ b :: ks, k ≤ n) →
    joinR true (((b :: ks).zip (ks ++ [n])).map fun p => (cutR p.1 p.2 rs.reverse, p.1)) acc = (segR b n rs).reverse ++ acc
  | [], b, acc, _, hn => by
    show shR b (cutR b n rs.reverse) ++ acc = _
    rw [shcut, segR_rev]
  | k :: ks, b, acc, hp, hn => by
    have hp' := List.pairwise_cons.mp hp
    show joinR true (((k :: ks).zip (ks ++ [n])).map fun p => (cutR p.1 p.2 rs.reverse, p.1)) (shR b (cutR b k rs.reverse) ++ acc) = _
    rw [join_bwd h ks k _ hp'.2 (fun x hx => hn x (.tail _ hx)), shcut, segR_rev, ← List.append_assoc, ← List.reverse_append, segR_join (Int.le_of_lt (hp'.1 k (.head _))) (hn k (.tail _ (.head _))) h]

theorem segR_all {b e : Int} {rs : List Row} (h : ∀ r ∈ rs, b ≤ r.cl ∧ r.cl < e) : segR b e rs = rs := by
  unfold segR
  rw [List.filter_eq_self]
  intro r hr
  simpa using h r hr

theorem joined_law {bw : Bool} {n len0 : Int} {rs : List Row} {ks : List Int} (hok : RowsOk rs len0) (hln : len0 ≤ n) (hks : ks.Pairwise (· < ·)) (hin : ∀ k ∈ ks, 0 < k ∧ k < n) :
    joinR bw ((((0 :: ks).zip (ks ++ [n])).map fun p => cutR p.1 p.2 (if bw then rs.reverse else rs)).zip (((0 :: ks).zip (ks ++ [n])).map (·.1))) [] = (if bw then rs.reverse else rs) := by
  have hl := hok.len1
  have hp : (0 :: ks).Pairwise (· < ·) := List.pairwise_cons.mpr ⟨fun k hk => (hin k hk).1, hks⟩
  have hle : ∀ k ∈ 0 :: ks, k ≤ n := fun k hk => by
    rcases List.mem_cons.mp hk with rfl | hk
    · exact Int.le_trans (Int.le_trans (by decide) hl) hln
    · exact Int.le_of_lt (hin k hk).2
  have hall : segR 0 n rs = rs := segR_all fun r hr => ⟨hok.low r hr, Int.lt_of_lt_of_le (hok.high r hr) hln⟩
  rw [List.zip_map']
  cases bw with
  | false =>
    show joinR false (((0 :: ks).zip (ks ++ [n])).map fun p => (cutR p.1 p.2 rs, p.1)) [] = rs
    rw [join_fwd hok.up ks 0 [] hp hle, hall, List.nil_append]
  | true =>
    show joinR true (((0 :: ks).zip (ks ++ [n])).map fun p => (cutR p.1 p.2 rs.reverse, p.1)) [] = rs.reverse
    rw [join_bwd hok.up ks 0 [] hp hle, hall, List.append_nil]

theorem asc_ext : ∀ {a b : List Int}, a.Pairwise (· < ·) → b.Pairwise (· < ·) → (∀ k, k ∈ a ↔ k ∈ b) → a = b
  | [], [], _, _, _ => rfl
  | [], y :: b, _, _, h => absurd ((h y).mpr (.head _)) (by simp)
  | x :: a, [], _, _, h => absurd ((h x).mp (.head _)) (by simp)
  | x :: a, y :: b, ha, hb, h => by
    have ha' := List.pairwise_cons.mp ha
    have hb' := List.pairwise_cons.mp hb
    have exy : x = y := by
      rcases List.mem_cons.mp ((h x).mp (.head _)) with e | e
      · exact e
      · rcases List.mem_cons.mp ((h y).mpr (.head _)) with e' | e'
        · exact e'.symm
        · exact absurd (Int.lt_trans (hb'.1 x e) (ha'.1 y e')) (Int.lt_irrefl _)
    subst exy
    have : a = b := asc_ext ha'.2 hb'.2 fun k => by
      constructor
      · intro hk
        rcases List.mem_cons.mp ((h k).mp (.tail _ hk)) with e | e
        · exact absurd (e ▸ ha'.1 k hk) (Int.lt_irrefl _)
        · exact e
      · intro hk
        rcases List.mem_cons.mp ((h k).mpr (.tail _ hk)) with e | e
        · exact absurd (e ▸ hb'.1 k hk) (Int.lt_irrefl _)
        · exact e
    rw [this]

theorem strG_le {p : Int} : ∀ (ks : List Int) (b : Int), b ≤ p → (strG p b ks).1 ≤ p
  | [], _, h => h
  | c :: r, b, h => by
    unfold strG
    by_cases hc : p < c
    · rw [if_pos hc]; exact h
    · rw [if_neg hc]; exact strG_le r c (Int.not_lt.mp hc)
theorem strG_low {p : Int} : ∀ (ks : List Int) (b : Int), 0 ≤ b → (∀ k ∈ ks, 0 ≤ k) → 0 ≤ (strG p b ks).1
  | [], _, h, _ => h
  | c :: r, b, h, hk => by
    unfold strG
    by_cases hc : p < c
    · rw [if_pos hc]; exact h
    · rw [if_neg hc]; exact strG_low r c (hk c (.head _)) fun k h => hk k (.tail _ h)
theorem strG_end {p : Int} : ∀ (ks : List Int) (b c : Int), (strG p b ks).2 = some c → p < c
  | [], _, _, h => by simp [strG] at h
  | d :: r, b, c, h => by
    unfold strG at h
    by_cases hc : p < d
    · rw [if_pos hc] at h; cases h; exact hc
    · rw [if_neg hc] at h; exact strG_end r d c h
theorem strG_none {p : Int} : ∀ (ks : List Int) (b : Int), (∀ k ∈ ks, k ≤ p) → (strG p b ks).2 = none
  | [], _, _ => rfl
  | c :: r, b, h => by
    unfold strG
    rw [if_neg (Int.not_lt.mpr (h c (.head _)))]
    exact strG_none r c fun k hk => h k (.tail _ hk)
theorem strG_next {p : Int} : ∀ (ks : List Int) (b : Int), ks.Pairwise (· < ·) → (strG (p + 1) b ks).1 = (strG p b ks).1 ∨ (strG (p + 1) b ks).1 = p + 1
  | [], _, _ => .inl rfl
  | c :: r, b, h => by
    have h' := List.pairwise_cons.mp h
    unfold strG
    by_cases hc : p < c
    · rw [if_pos hc]
      by_cases hc' : p + 1 < c
      · rw [if_pos hc']; exact .inl rfl
      · rw [if_neg hc']
        have e : c = p + 1 := Int.le_antisymm (Int.not_lt.mp hc') hc
        right
        cases r with
        | nil => exact e
        | cons d r =>
          unfold strG
          rw [if_pos (e ▸ h'.1 d (.head _))]
          exact e
    · rw [if_neg hc, if_neg fun h => hc (Int.lt_trans (Int.lt_succ p) h)]
      exact strG_next r c h'.2
section
variable {w : World} {A : Around} {E : Value → Shared → Prop} {s : Shared} {g h : Heap} {tk : TD} {L : Addr} {l l' : List (Str × Value)} {nw nw' : List (Addr × Obj)} {env : Env} {x : Str} {v : Value} {pos : Pos}

theorem rows_can {rs : List Row} : ∀ d ∈ rs.map rowD, d.canLay0 = true := by
  intro d hd
  obtain ⟨r, hr, rfl⟩ := List.mem_map.mp hd
  simp [rowD, PyData.canLay0, PyData.canLayAll0]
theorem rows_depth {rs : List Row} : ∀ d ∈ rs.map rowD, d.depth ≤ 5 := by
  intro d hd
  obtain ⟨r, hr, rfl⟩ := List.mem_map.mp hd
  simp [rowD, PyData.depth, PyData.depthAll]

theorem rows_ne {a b : Addr} {vs ws : List Value} {rs : List Row} {Q : Value → Shared → Prop} (S : St g L h l nw) (ha : g.IsList a vs.toArray) (hb : g.IsList b ws.toArray) (ra : Paired (RowAt g) vs rs) (rb : Paired (RowAt g) ws rs)
    (hu : A.units < 5000) (hq : Q (.bool false) (SS s h tk)) :
    wpAny (model PG w) A (compareOp .NotEq (.ref a) (.ref b)) Q E (SS s h tk) := by
  obtain ⟨as, r1⟩ := reads_all (g := h) (D := rowD) (fun v r H => reads_row (RowAt.mono S.keep v r H)) ra
  obtain ⟨bs, r2⟩ := reads_all (g := h) (D := rowD) (fun v r H => reads_row (RowAt.mono S.keep v r H)) rb
  exact c_ne S ha hb r1 r2 rows_can rows_depth hu hq

theorem bool_ne {a b : Bool} {Q : Value → Shared → Prop} (hq : Q (.bool (!(a == b))) s) : wpAny (model PG w) A (compareOp .NotEq (.bool a) (.bool b)) Q E s :=
  (SeqAt.RcNeAt.bool_bool (A := A) (s := s) a b) PG w E Q hq

theorem seg3c {fa p : Addr} {cd y : Value} {op : Obj} {len bh f i ie : Int} {tl tb tf ti te : Tok} {bw : Bool} {rs : List Row} {Q : Flow → Shared → Prop}
    (S : St g L h [("behind", .int bh tb), ("length", .int len tl), ("is_backward", .bool bw)] [(p, op)]) (C : Cx w g)
    (hcs : g.IsCell (L + 2) (some y)) (hcf : g.IsCell (L + 3) (some (.int f tf))) (hci : g.IsCell (L + 4) (some (.int i ti))) (hce : g.IsCell (L + 5) (some (.int ie te)))
    (hy : SRAt g y rs bw) (hrn : rs.length ≤ 8) (hi0 : 0 ≤ i) (hie : ie ≤ bh - f)
    (hroom : A.depth < 600) (hh : A.handled = none) (hu : A.units < 4000)
    (hq : ∀ g' h' tk', g.StaysIn g' → St g' L h' [("length", .int len tl), ("is_backward", .bool bw)] [(p, op)] →
      wpAny (model PG w) A (execs ((lawBody w.params).drop 19) (lawEnv w.params L fa cd)) Q E (SS s h' tk')) :
    wpAny (model PG w) A (execs ((lawBody w.params).drop 16) (lawEnv w.params L fa cd)) Q E (SS s h tk) := by
  have hcl : ∀ b e, (cutR b e rs).length ≤ 8 := fun b e => Nat.le_trans (List.length_filterMap_le _ _) hrn
  refine seqK fun K₉ H₉ => ?_
  walk_at "m"
  refine between_spec ‹_› C hy (by omega) (Nat.lt_of_lt_of_le hroom (by decide)) hh fun h₁ tk₁ g₁ y₁ k₁ S₁ hy₁ => ?_
  have C₁ := C.mono k₁
  have hcs₁ := hcs.keeps k₁
  have hcf₁ := hcf.keeps k₁
  have hci₁ := hci.keeps k₁
  have hce₁ := hce.keeps k₁
  walk_at "m"
  refine between_spec ‹_› C₁ (hy.mono k₁) (by omega) (Nat.lt_of_lt_of_le hroom (by decide)) hh fun h₂ tk₂ g₂ y₂ k₂ S₂ hy₂ => ?_
  have C₂ := C₁.mono k₂
  have hcf₂ := hcf₁.keeps k₂
  have hci₂ := hci₁.keeps k₂
  have hce₂ := hce₁.keeps k₂
  walk_at "m"
  refine between_spec ‹_› C₂ hy₂ (by have := hcl f bh; omega) (Nat.lt_of_lt_of_le hroom (by decide)) hh fun h₃ tk₃ g₃ y₃ k₃ S₃ hy₃ => ?_
  have C₃ := C₂.mono k₃
  rw [cutR_cutR hi0 hie] at hy₃
  have k₀₃ : g.StaysIn g₃ := fun _ _ e => k₃ _ _ (k₂ _ _ (k₁ _ _ e))
  have hy₁₃ := hy₁.mono (fun _ _ e => k₃ _ _ (k₂ _ _ e))
  obtain ⟨R₁, vs₁, sh₁, hR₁, hr₁⟩ := hy₁₃
  obtain ⟨R₃, vs₃, sh₃, hR₃, hr₃⟩ := hy₃
  walk_at "m"
  refine wpAny_If ?_
  walk_at "m"
  refine shaped_rows ‹_› C₃ sh₁ rfl fun _ => ?_
  walk_at "m"
  refine shaped_rows ‹_› C₃ sh₃ rfl fun _ => ?_
  walk_at "m"
  refine rows_ne ‹_› hR₁ hR₃ hr₁ hr₃ (by omega) ?_
  walk_at "m"
  rw [if_neg Bool.false_ne_true]
  walk_at "m"
  refine shaped_bw ‹_› C₃ sh₁ fun _ => ?_
  walk_at "m"
  refine bool_ne ?_
  rw [beq_self_eq_true, Bool.not_true]
  walk_at "m"
  rw [if_neg Bool.false_ne_true]
  walk_at "m"
  refine shaped_bw ‹_› C₃ sh₃ fun _ => ?_
  walk_at "m"
  refine bool_ne ?_
  rw [beq_self_eq_true, Bool.not_true]
  walk_at "m"
  rw [if_neg Bool.false_ne_true]
  walk_at "m"
  rw [if_neg Bool.false_ne_true]
  refine wpAny_execs_nil ?_
  walk_at "mk"
  exact hq g₃ _ _ k₀₃ (St.names ‹_› (by walk_at "msub"))
end
section
variable {w : World} {A : Around} {E : Value → Shared → Prop} {s : Shared} {g h : Heap} {tk : TD} {L : Addr} {l l' : List (Str × Value)} {nw nw' : List (Addr × Obj)} {env : Env} {x : Str} {v : Value} {pos : Pos}

structure Asc (hi : Int) (ns : List Int) : Prop where
  up : ns.Pairwise (· < ·)
  bd : ∀ n ∈ ns, 0 < n ∧ n < hi

theorem Asc.snoc {hi hi' n : Int} {ns : List Int} (h : Asc hi ns) (h0 : 0 < n) (h1 : hi ≤ n) (h2 : n < hi') : Asc hi' (ns ++ [n]) where
  up := List.pairwise_append.mpr ⟨h.up, by simp, fun a ha b hb => by rw [List.mem_singleton.mp hb]; have := (h.bd a ha).2; omega⟩
  bd := fun k hk => by
    rcases List.mem_append.mp hk with hk | hk
    · have := h.bd k hk; omega
    · rw [List.mem_singleton.mp hk]; omega
theorem Asc.up' {hi hi' : Int} {ns : List Int} (h : Asc hi ns) (h1 : hi ≤ hi') : Asc hi' ns := ⟨h.up, fun k hk => by have := h.bd k hk; omega⟩

theorem seg4a {fa p : Addr} {cd : Value} {op : Obj} {len : Int} {tl : Tok} {bw : Bool} {Q : Flow → Shared → Prop}
    (S : St g L h [("length", .int len tl), ("is_backward", .bool bw)] [(p, op)]) (C : Cx w g)
    (hcp : g.IsCell (L + 1) (some (.ref p))) (P : Pen g 110 op) (hl1 : 1 ≤ len) (hl2 : len ≤ 30)
    (hroom : A.depth < 600) (hh : A.handled = none)
    (hq : ∀ g' h' tk' D ys ns op', g.StaysIn g' → St g' L h' [("places", .ref D), ("length", .int len tl), ("is_backward", .bool bw)] [(p, op')] →
      g'.IsList D (List.toArray ys) → IntsAre ys ns → Asc len ns → ns.length ≤ 29 →
      wpAny (model PG w) A (execs ((lawBody w.params).drop 20) (lawEnv w.params L fa cd)) Q E (SS s h' tk')) :
    wpAny (model PG w) A (execs ((lawBody w.params).drop 19) (lawEnv w.params L fa cd)) Q E (SS s h tk) := by
  refine seqK fun K₉ H₉ => ?_
  refine comp_asgn (L := L) (cl := [("pen", L + 1)]) rfl rfl (by decide) rfl (by decide) rfl rfl rfl (Nat.le_refl _) fun K₀ hK₀ => ?_
  walk_at "m"
  refine c_range2 ‹_› fun h₁ tk₁ r₁ o₁ hr₁ S₁ => ?_
  refine pi_range S₁ hr₁ (by decide) (by decide) (by omega) (by omega) fun h₂ I oI hI S₂ => ?_
  refine hK₀ _ _ ⟨_, _, _, fun (j : Nat) (g' : Heap) (nw' : List (Addr × Obj)) (ys : List Value) => ∃ op ns, EqN nw' [(p, op)] ∧ Pen g' (110 + j) op ∧ IntsAre ys ns ∧ Asc (1 + j) ns ∧ ns.length ≤ j, g, h₂, _, _, _, I, oI, rfl, rfl, S₂, it_range hh, hI,
    ⟨op, [], rfl, P, .nil, ⟨.nil, fun _ h => nomatch h⟩, Nat.le_refl _⟩, by omega, ?_, ?_⟩
  · rintro j v g₃ g₄ h₈ tk₈ nw₈ o₈ ys Cc D oA oL' E' K₁ N₁ hi hys k5 k6 ⟨tv, rfl⟩ ⟨op, ns, rfl, P, hns, hasc, hnl⟩ S₈ ⟨hK₁, hN₁⟩
    have kk : g.StaysIn g₄ := fun b o e => k6 _ _ (k5 _ _ e)
    have C₄ : Cx w g₄ := C.mono kk
    have hcp₄ := hcp.keeps kk
    have P := P.mono k6
    walk_at "m"
    refine tests_one ?_
    walk_at "m"
    refine draw_spec (F := fun o => [(I, o₈), (D, oA), (L, oL'), (p, o)]) ‹_› C₄ (fun _ _ => .tail (.tail (.tail .head))) P (by omega) (by decide) (by decide) (Nat.lt_of_lt_of_le hroom (by decide)) fun d t h₉ tk₉ op₉ hd0 hd1 P₉ S₉ => ?_
    walk_at "m"
    refine ite_bool (fun hb => ?_) (fun hb => ?_)
    · walk_at "m"
      refine hK₁ _ _ ⟨g₄, _, _, _, _, rfl, fun _ _ e => e, ⟨op₉, ns ++ [1 + (j : Int)], rfl, P₉, IntsAre.append hns (.cons _ _ .nil), hasc.snoc (by omega) (by omega) (by omega), by simp; omega⟩, St.names ‹_› (by walk_at "msub")⟩
    · refine hN₁ _ ⟨g₄, _, _, _, _, rfl, fun _ _ e => e, ⟨op₉, ns, rfl, P₉, hns, hasc.up' (by omega), by omega⟩, S₉⟩
  · refine ⟨_, by walk_at "mrem", ?_⟩
    rintro g₃ g₄ h₈ tk₈ nw₈ D ys k5 k6 ⟨op, ns, rfl, P, hns, hasc, hnl⟩ hD S₈
    exact H₉.nx _ <| hq g₄ h₈ tk₈ D ys ns op (fun _ _ e => k6 _ _ (k5 _ _ e)) S₈ hD hns (hasc.up' (by omega)) (by omega)

theorem seg4b {fa p D : Addr} {cd : Value} {op : Obj} {len : Int} {tl : Tok} {bw : Bool} {ys : List Value} {ns : List Int} {Q : Flow → Shared → Prop}
    (S : St g L h [("places", .ref D), ("length", .int len tl), ("is_backward", .bool bw)] [(p, op)]) (C : Cx w g)
    (hD : g.IsList D ys.toArray) (hns : IntsAre ys ns) (hasc : Asc len ns) (hnl : ns.length ≤ 30)
    (hroom : A.depth < 600) (hh : A.handled = none)
    (hq : ∀ g' h' tk' B bvs, g.StaysIn g' → St g' L h' [("pairs", .ref B), ("places", .ref D), ("length", .int len tl), ("is_backward", .bool bw)] [] →
      g'.IsList B (List.toArray bvs) → Paired (IPair g') bvs ((0 :: ns).zip (ns ++ [len])) →
      wpAny (model PG w) A (execs ((lawBody w.params).drop 21) (lawEnv w.params L fa cd)) Q E (SS s h' tk')) :
    wpAny (model PG w) A (execs ((lawBody w.params).drop 20) (lawEnv w.params L fa cd)) Q E (SS s h tk) := by
  have hyl : ys.length ≤ 30 := by have := IntsAre.length hns; omega
  have S := S.sub (List.nil_sublist _)
  refine seqK fun K₉ H₉ => ?_
  walk_at "m"
  refine c_rev ?_
  walk_at "m"
  refine ⟨g, _, _, L, _, _, D, ys, _, rfl, rfl, rfl, ‹_›, hD, by omega, fun g₁ h₁ D₁ k₁ S₁ hD₁ => ?_⟩
  have C₁ := C.mono k₁
  walk_at "m"
  refine stretches_spec ‹_› C₁ hD₁ (PyProof.Rows.IntsAre.reverse hns) (fun q hq => hasc.bd q (List.mem_reverse.mp hq)) (by simp; omega) (Nat.lt_of_lt_of_le hroom (by decide)) hh fun h₂ tk₂ g₂ B bvs ks k₂ S₂ hB hsd hkl hp => ?_
  have e : ks = ns := asc_ext hsd.up hasc.up fun k => by rw [hsd.mem, List.mem_reverse]
  subst e
  walk_at "m1"
  exact H₉.nx _ <| hq g₂ _ _ B bvs (fun _ _ e => k₂ _ _ (k₁ _ _ e)) ‹_› hB hp
end
section
variable {w : World} {A : Around} {E : Value → Shared → Prop} {s : Shared} {g h : Heap} {tk : TD} {L : Addr} {l l' : List (Str × Value)} {nw nw' : List (Addr × Obj)} {env : Env} {x : Str} {v : Value} {pos : Pos}

theorem map_take_succ {α β : Type} {ps : List α} {f : α → β} {i : Nat} {r : α} (h : ps[i]? = some r) : (ps.take (i + 1)).map f = (ps.take i).map f ++ [f r] := by
  rw [List.take_add_one, h, List.map_append]; rfl

theorem pairs_comp {scope : Scope} {cl : List (Str × Addr)} {iter : Expr} {p1 p2 p3 p4 : Pos} {k : Nat} {z : Str} {f : Int × Int → Int} {Q : Value → Shared → Prop} (hh : A.handled = none)
    (hclos : closureFor scope env = pure cl) (hcell : ∀ y ∈ scope.names, y.2 ≠ .cell) (hkind : scope.kind = .function) (hnames : ∀ y ∈ scope.names, y.2 = .local → scope.names.lookup y.1 = some .local)
    (hx1 : scope.names.lookup ("begin" : Str) = some .local) (hx2 : scope.names.lookup ("end" : Str) = some .local) (hz : (z = "begin" ∧ f = Prod.fst) ∨ (z = "end" ∧ f = Prod.snd))
    (hq : wpAny (model PG w) A (eval iter env) (fun xv s₁ => ∃ g₁ h₁ tk₁ l₁ nw₁ B bvs ps, s₁ = SS s h₁ tk₁ ∧ xv = .ref B ∧ St g₁ L h₁ l₁ nw₁ ∧ g₁.IsList B (List.toArray bvs) ∧ Paired (IPair g₁) bvs ps ∧ ps.length ≤ 100 ∧
      ∀ g' h' tk' D ys, g₁.StaysIn g' → St g' L h' l₁ nw₁ → g'.IsList D (List.toArray ys) → IntsAre ys (ps.map f) → Q (.ref D) (SS s h' tk')) E (SS s h tk))
    (hs : ∀ x, foldedSetIterable iter env x = pure x := by intro _; rfl) :
    wpAny (model PG w) A (eval (.ListComp (.Name z p1) [⟨.Tuple [.Name "begin" p2, .Name "end" p3] k p4, iter, [], 0⟩] scope pos) env) Q E (SS s h tk) := by
  refine comp_eval (L := L) hclos hcell hkind hnames (Nat.zero_le _) (fun K₀ hK₀ => wpAny_mono hq (fun xv s₁ h₁ => ?_) fun _ _ e => e) hs
  obtain ⟨g₁, h₁, tk₁, l₁, nw₁, B, bvs, ps, rfl, rfl, S, hB, hps, hn, fin⟩ := h₁
  have hlv : bvs.length = ps.length := hps.length
  refine pi_list S hB fun h₂ I oI hI S₂ => ?_
  refine hK₀ _ _ ⟨_, _, _, fun (i : Nat) (g' : Heap) (nw' : List (Addr × Obj)) (ys : List Value) => EqN nw' nw₁ ∧ IntsAre ys ((ps.take i).map f), g₁, h₂, _, _, _, I, oI, rfl, rfl, S₂, it_list hh hB, hI, ⟨rfl, .nil⟩, by omega, ?_, ?_⟩
  · rintro i v g₃ g₄ h₈ tk₈ nw₈ o₈ ys Cc D oA oL' E' K₁ N₁ hi hys k5 k6 hitem ⟨rfl, hrs⟩ S₈ ⟨hK₁, hN₁⟩
    have kk : g₁.StaysIn g₄ := fun b o e => k6 _ _ (k5 _ _ e)
    obtain ⟨⟨b, e⟩, hr, T, t, u, rfl, hT⟩ := pget hps hitem
    have hT := isTuple_keeps hT kk
    have hk1 : (compEnvC scope cl Cc env).kindOf "begin" = some .local := lookup_relabel_local hx1
    have hk2 : (compEnvC scope cl Cc env).kindOf "end" = some .local := lookup_relabel_local hx2
    have hkd : (compEnvC scope cl Cc env).scope.kind = .function := by show (relabel scope env).kind = _; exact hkind
    refine asg_tup2 S₈ hh hT fun h₉ S₉ => ?_
    refine stL S₉ (l' := []) .nil (fun h₁₀ tk₁₀ S₁₀ => ?_) rfl hk1 (by rw [hkd]; rfl)
    refine stL S₁₀ (l' := [("begin", .int b t)]) (by walk_at "mrem") (fun h₁₁ tk₁₁ S₁₁ => ?_) rfl hk2 (by rw [hkd]; rfl)
    refine tests_nil ?_
    rcases hz with ⟨rfl, rfl⟩ | ⟨rfl, rfl⟩
    · refine nmL S₁₁ (.tail _ (.head _)) ?_ rfl hkd hk1
      refine hK₁ _ _ ⟨g₄, _, _, _, _, rfl, fun _ _ e => e, ⟨rfl, ?_⟩, S₁₁⟩
      rw [map_take_succ hr]
      exact IntsAre.append hrs (.cons _ _ .nil)
    · refine nmL S₁₁ (.head _) ?_ rfl hkd hk2
      refine hK₁ _ _ ⟨g₄, _, _, _, _, rfl, fun _ _ e => e, ⟨rfl, ?_⟩, S₁₁⟩
      rw [map_take_succ hr]
      exact IntsAre.append hrs (.cons _ _ .nil)
  · rintro g' g'' h' tk' nw' D ys k5 k6 ⟨rfl, hrs⟩ hD S₈
    rw [hlv, List.take_length] at hrs
    exact fin g'' h' tk' D ys (fun _ _ e => k6 _ _ (k5 _ _ e)) S₈ hD hrs

theorem zip_fst {len : Int} : ∀ (ns : List Int) (b : Int), ((b :: ns).zip (ns ++ [len])).map Prod.fst = b :: ns
  | [], b => rfl
  | n :: ns, b => by show b :: ((n :: ns).zip (ns ++ [len])).map Prod.fst = _; rw [zip_fst ns n]
theorem zip_snd {len : Int} : ∀ (ns : List Int) (b : Int), ((b :: ns).zip (ns ++ [len])).map Prod.snd = ns ++ [len]
  | [], b => rfl
  | n :: ns, b => by show n :: ((n :: ns).zip (ns ++ [len])).map Prod.snd = _; rw [zip_snd ns n]; rfl
theorem zip_len {len : Int} (ns : List Int) (b : Int) : ((b :: ns).zip (ns ++ [len])).length = ns.length + 1 := by simp

theorem ints_can {ns : List Int} : ∀ d ∈ ns.map PyData.int, d.canLay0 = true := by
  intro d hd
  obtain ⟨r, hr, rfl⟩ := List.mem_map.mp hd
  simp [PyData.canLay0]
theorem ints_depth {ns : List Int} : ∀ d ∈ ns.map PyData.int, d.depth ≤ 5 := by
  intro d hd
  obtain ⟨r, hr, rfl⟩ := List.mem_map.mp hd
  simp [PyData.depth]

theorem ints_ne {a b : Addr} {vs ws : List Value} {ns : List Int} {Q : Value → Shared → Prop} (S : St g L h l nw) (ha : g.IsList a vs.toArray) (hb : g.IsList b ws.toArray) (ra : IntsAre vs ns) (rb : IntsAre ws ns)
    (hu : A.units < 5000) (hq : Q (.bool false) (SS s h tk)) :
    wpAny (model PG w) A (compareOp .NotEq (.ref a) (.ref b)) Q E (SS s h tk) := by
  obtain ⟨as, r1⟩ := reads_ints (g := h) ra
  obtain ⟨bs, r2⟩ := reads_ints (g := h) rb
  exact c_ne S ha hb r1 r2 ints_can ints_depth hu hq

theorem seg4c {fa B D : Addr} {cd y : Value} {len len0 : Int} {tl : Tok} {bw : Bool} {bvs : List Value} {ns : List Int} {rs : List Row} {Q : Flow → Shared → Prop}
    (S : St g L h [("pairs", .ref B), ("places", .ref D), ("length", .int len tl), ("is_backward", .bool bw)] []) (C : Cx w g)
    (hcs : g.IsCell (L + 2) (some y)) (hy : SRAt g y (if bw then rs.reverse else rs) bw) (hok : RowsOk rs len0) (hln : len0 ≤ len)
    (hB : g.IsList B bvs.toArray) (hps : Paired (IPair g) bvs ((0 :: ns).zip (ns ++ [len]))) (hasc : Asc len ns) (hnl : ns.length ≤ 29)
    (hroom : A.depth < 600) (hh : A.handled = none) (hu : A.units < 4000)
    (hq : ∀ g' h' tk', g.StaysIn g' → St g' L h' [("pairs", .ref B), ("places", .ref D), ("length", .int len tl), ("is_backward", .bool bw)] [] →
      wpAny (model PG w) A (execs ((lawBody w.params).drop 23) (lawEnv w.params L fa cd)) Q E (SS s h' tk')) :
    wpAny (model PG w) A (execs ((lawBody w.params).drop 21) (lawEnv w.params L fa cd)) Q E (SS s h tk) := by
  have hbl : bvs.length = ns.length + 1 := by rw [hps.length, zip_len]
  have hrn : (if bw then rs.reverse else rs).length ≤ 8 := by have := hok.n; cases bw <;> simp [this]
  generalize hrr : (if bw then rs.reverse else rs) = rr at hy hrn
  refine seqK fun K₉ H₉ => ?_
  refine comp_asgn (L := L) (cl := [("shaped", L + 2)]) rfl rfl (by decide) rfl (by decide) rfl rfl rfl (Nat.zero_le _) fun K₀ hK₀ => ?_
  walk_at "m"
  refine pi_list ‹_› hB fun h₁ I oI hI S₁ => ?_
  refine hK₀ _ _ ⟨_, _, _, fun (j : Nat) (g' : Heap) (nw' : List (Addr × Obj)) (ys : List Value) => EqN nw' [] ∧ Paired (fun v r => SRAt g' v r bw) ys ((((0 :: ns).zip (ns ++ [len])).take j).map fun p => cutR p.1 p.2 rr), g, h₁, _, _, _, I, oI, rfl, rfl, S₁, it_list hh hB, hI,
    ⟨rfl, .nil⟩, by omega, ?_, ?_⟩
  · rintro j v g₃ g₄ h₈ tk₈ nw₈ o₈ ys Cc D' oA oL' E' K₁ N₁ hi hys k5 k6 hitem ⟨rfl, hrs⟩ S₈ ⟨hK₁, hN₁⟩
    have kk : g.StaysIn g₄ := fun b o e => k6 _ _ (k5 _ _ e)
    have C₄ : Cx w g₄ := C.mono kk
    have hcs₄ := hcs.keeps kk
    obtain ⟨⟨b, e⟩, hr, T, t, u, rfl, hT⟩ := pget hps hitem
    have hT := isTuple_keeps hT kk
    refine asg_tup2 S₈ hh hT fun h₉ S₉ => ?_
    walk_at "m"
    refine tests_nil ?_
    walk_at "m"
    refine between_spec ‹_› C₄ (hy.mono kk) (by omega) (Nat.lt_of_lt_of_le hroom (by decide)) hh fun h₁₀ tk₁₀ g₁₀ y₁₀ k₁₀ S₁₀ hy₁₀ => ?_
    refine hK₁ _ _ ⟨g₁₀, _, _, _, _, rfl, k₁₀, ⟨rfl, ?_⟩, S₁₀⟩
    rw [map_take_succ hr]
    exact (pmono (fun _ _ H => H.mono (fun _ _ e => k₁₀ _ _ (k6 _ _ e))) hrs).snoc hy₁₀
  · refine ⟨_, by walk_at "mrem", ?_⟩
    rintro g₃ g₄ h₈ tk₈ nw₈ P ys k5 k6 ⟨rfl, hrs⟩ hP S₈
    have htk : ((0 :: ns).zip (ns ++ [len])).take bvs.length = (0 :: ns).zip (ns ++ [len]) := List.take_of_length_le (by rw [zip_len]; omega)
    rw [htk] at hrs
    have k₀₄ : g.StaysIn g₄ := fun _ _ e => k6 _ _ (k5 _ _ e)
    have C₄ := C.mono k₀₄
    have hcs₄ := hcs.keeps k₀₄
    have hrs := pmono (fun _ _ H => SRAt.mono k6 H) hrs
    walk_at "m1"
    walk_at "m1"
    refine wpAny_If ?_
    walk_at "m"
    refine pairs_comp (L := L) (cl := []) hh rfl (by decide) rfl (by decide) rfl rfl (.inl ⟨rfl, rfl⟩) ?_
    walk_at "m"
    have hB₄ := isList_keeps hB k₀₄
    refine ⟨g₄, _, _, _, _, B, bvs, _, rfl, rfl, ‹_›, hB₄, pmono (IPair.mono k₀₄) hps, by rw [zip_len]; omega, fun g₅ h₅ tk₅ D₅ ys₅ k₅ S₅ hD₅ hys₅ => ?_⟩
    have C₅ := C₄.mono k₅
    have hcs₅ := hcs₄.keeps k₅
    walk_at "m"
    refine joined_spec ‹_› C₅ (isList_keeps hP k₅) hD₅ (pmono (fun _ _ H => SRAt.mono k₅ H) hrs) hys₅ (by simp) (by rw [List.length_map, zip_len]; omega) ?_ (Nat.lt_of_lt_of_le hroom (by decide)) hh fun h₆ tk₆ g₆ y₆ k₆ S₆ hy₆ => ?_
    · intro p hp
      obtain ⟨q, hq, rfl⟩ := List.mem_map.mp hp
      exact Nat.le_trans (List.length_filterMap_le _ _) hrn
    rw [← hrr, joined_law hok hln hasc.up hasc.bd, hrr] at hy₆
    have k₀₆ : g.StaysIn g₆ := fun _ _ e => k₆ _ _ (k₅ _ _ (k₀₄ _ _ e))
    have C₆ := C₅.mono k₆
    have hcs₆ := hcs₅.keeps k₆
    obtain ⟨R₁, vs₁, sh₁, hR₁, hr₁⟩ := hy₆
    obtain ⟨R₂, vs₂, sh₂, hR₂, hr₂⟩ := hy.mono k₀₆
    walk_at "m"
    refine shaped_rows ‹_› C₆ sh₁ rfl fun _ => ?_
    walk_at "m"
    refine shaped_rows ‹_› C₆ sh₂ rfl fun _ => ?_
    walk_at "m"
    refine rows_ne ‹_› hR₁ hR₂ hr₁ hr₂ (by omega) ?_
    walk_at "m"
    rw [if_neg Bool.false_ne_true]
    refine wpAny_execs_nil ?_
    walk_at "mk"
    exact hq g₆ _ _ k₀₆ (St.names ‹_› (by walk_at "msub"))
end
section
variable {w : World} {A : Around} {E : Value → Shared → Prop} {s : Shared} {g h : Heap} {tk : TD} {L : Addr} {l l' : List (Str × Value)} {nw nw' : List (Addr × Obj)} {env : Env} {x : Str} {v : Value} {pos : Pos}

theorem seg4d {fa B D : Addr} {cd : Value} {len : Int} {tl : Tok} {bw : Bool} {bvs ys : List Value} {ns : List Int} {Q : Flow → Shared → Prop}
    (S : St g L h [("pairs", .ref B), ("places", .ref D), ("length", .int len tl), ("is_backward", .bool bw)] []) (C : Cx w g)
    (hB : g.IsList B bvs.toArray) (hps : Paired (IPair g) bvs ((0 :: ns).zip (ns ++ [len]))) (hD : g.IsList D ys.toArray) (hns : IntsAre ys ns) (hnl : ns.length ≤ 29)
    (hh : A.handled = none) (hu : A.units < 4000)
    (hq : ∀ g' h' tk', g.StaysIn g' → St g' L h' [("length", .int len tl)] [] →
      wpAny (model PG w) A (execs ((lawBody w.params).drop 24) (lawEnv w.params L fa cd)) Q E (SS s h' tk')) :
    wpAny (model PG w) A (execs ((lawBody w.params).drop 23) (lawEnv w.params L fa cd)) Q E (SS s h tk) := by
  have hyl : ys.length ≤ 29 := by have := IntsAre.length hns; omega
  refine seqK fun K₉ H₉ => ?_
  refine wpAny_If ?_
  walk_at "m"
  refine pairs_comp (L := L) (cl := []) hh rfl (by decide) rfl (by decide) rfl rfl (.inr ⟨rfl, rfl⟩) ?_
  walk_at "m"
  refine ⟨g, _, _, _, _, B, bvs, _, rfl, rfl, ‹_›, hB, hps, by rw [zip_len]; omega, fun g₁ h₁ tk₁ D₁ ys₁ k₁ S₁ hD₁ hys₁ => ?_⟩
  rw [zip_snd] at hys₁
  walk_at "m"
  refine newPL ‹_› fun h₂ D₂ oD hoD S₂ => ?_
  obtain ⟨g₂, k₂, hDg, S₂⟩ := S₂.freeze
  have hD₂ := hoD.lst.isList hDg
  have k₀₂ : g.StaysIn g₂ := fun _ _ e => k₂ _ _ (k₁ _ _ e)
  walk_at "m"
  refine c_addL S₂ (isList_keeps hD k₀₂) hD₂ (by simp; omega) fun g₃ h₃ D₃ k₃ S₃ hD₃ => ?_
  have k₀₃ : g.StaysIn g₃ := fun _ _ e => k₃ _ _ (k₀₂ _ _ e)
  walk_at "m"
  refine ints_ne S₃ (isList_keeps hD₁ (fun _ _ e => k₃ _ _ (k₂ _ _ e))) hD₃ hys₁ (IntsAre.append hns (.cons _ _ .nil)) (by omega) ?_
  walk_at "m"
  rw [if_neg Bool.false_ne_true]
  walk_at "m"
  refine pairs_comp (L := L) (cl := []) hh rfl (by decide) rfl (by decide) rfl rfl (.inl ⟨rfl, rfl⟩) ?_
  walk_at "m"
  refine ⟨g₃, _, _, _, _, B, bvs, _, rfl, rfl, ‹_›, isList_keeps hB k₀₃, pmono (IPair.mono k₀₃) hps, by rw [zip_len]; omega, fun g₄ h₄ tk₄ D₄ ys₄ k₄ S₄ hD₄ hys₄ => ?_⟩
  rw [zip_fst] at hys₄
  walk_at "m"
  refine newPL ‹_› fun h₅ D₅ oD₅ hoD₅ S₅ => ?_
  obtain ⟨g₅, k₅, hDg₅, S₅⟩ := S₅.freeze
  have hD₅ := hoD₅.lst.isList hDg₅
  have k₀₅ : g.StaysIn g₅ := fun _ _ e => k₅ _ _ (k₄ _ _ (k₀₃ _ _ e))
  walk_at "m"
  refine c_addL ‹_› hD₅ (isList_keeps hD k₀₅) (by simp; omega) fun g₆ h₆ D₆ k₆ S₆ hD₆ => ?_
  walk_at "m"
  refine ints_ne S₆ (isList_keeps hD₄ (fun _ _ e => k₆ _ _ (k₅ _ _ e))) hD₆ hys₄ (IntsAre.append (.cons _ _ .nil) hns) (by omega) ?_
  walk_at "m"
  rw [if_neg Bool.false_ne_true]
  walk_at "m"
  rw [if_neg Bool.false_ne_true]
  refine wpAny_execs_nil ?_
  walk_at "mk"
  exact hq g₆ _ _ (fun _ _ e => k₆ _ _ (k₀₅ _ _ e)) (St.names ‹_› (by walk_at "msub"))
end
section
variable {w : World} {A : Around} {E : Value → Shared → Prop} {s : Shared} {g h : Heap} {tk : TD} {L : Addr} {l l' : List (Str × Value)} {nw nw' : List (Addr × Obj)} {env : Env} {x : Str} {v : Value} {pos : Pos}

def isI (b : Int) : Value → Bool
  | .int a _ => a == b
  | _ => false

theorem c_notIn2 {D : Addr} {a c b : Int} {t u r : Tok} {Q : Value → Shared → Prop} (S : St g L h l nw) (hD : g.IsTuple D [.int a t, .int c u].toArray) (hab : b = a ∨ b = c) (hq : Q (.bool false) (SS s h tk)) :
    wpAny (model PG w) A (compareOp .NotIn (.int b r) (.ref D)) Q E (SS s h tk) := by
  refine SeqAt.notIn_tupleAt (s := SS s h tk) (isI b) (isTuple_keeps hD S.keep) (fun y hy => ?_) ?_
  · rcases (by simpa using hy : y = .int a t ∨ y = .int c u) with rfl | rfl
    · exact SeqAt.EqAt.int_int a t b r
    · exact SeqAt.EqAt.int_int c u b r
  · have : (#[Value.int a t, Value.int c u]).any (isI b) = true := by
      rcases hab with rfl | rfl <;> simp [isI]
    rw [show [Value.int a t, Value.int c u].toArray = #[Value.int a t, Value.int c u] from rfl, this]
    exact hq

theorem sd_eq {ks ks' ns : List Int} (h : SD ks ns) (h' : SD ks' ns) : ks = ks' := asc_ext h.up h'.up fun k => by rw [h.mem, h'.mem]

theorem ks_facts {bw : Bool} {rs : List Row} {len0 : Int} {ks : List Int} (hok : RowsOk rs len0) (h : SD ks ((if bw then rs.reverse else rs).map (·.cl))) : ∀ k ∈ ks, 0 ≤ k ∧ k < len0 := by
  intro k hk
  obtain ⟨r, hr, rfl⟩ := List.mem_map.mp ((h.mem k).mp hk)
  have hr : r ∈ rs := by cases bw <;> simpa using hr
  exact ⟨hok.low r hr, hok.high r hr⟩

theorem seg5 {fa : Addr} {cd y : Value} {len len0 : Int} {tl : Tok} {bw : Bool} {rs : List Row} {Q : Flow → Shared → Prop}
    (S : St g L h [("length", .int len tl)] []) (C : Cx w g)
    (hcs : g.IsCell (L + 2) (some y)) (hy : SRAt g y (if bw then rs.reverse else rs) bw) (hok : RowsOk rs len0) (hln : len0 ≤ len) (hl2 : len ≤ 30)
    (hroom : A.depth < 600) (hh : A.handled = none) (hu : A.units < 4000)
    (hq : ∀ g' h' tk', g.StaysIn g' → St g' L h' [("length", .int len tl)] [] → Q (.ret (.bool true)) (SS s h' tk')) :
    wpAny (model PG w) A (execs ((lawBody w.params).drop 24) (lawEnv w.params L fa cd)) Q E (SS s h tk) := by
  have hrn : (if bw then rs.reverse else rs).length ≤ 8 := by have := hok.n; cases bw <;> simp [this]
  have hkf : ∀ ks, SD ks ((if bw then rs.reverse else rs).map (·.cl)) → ∀ k ∈ ks, 0 ≤ k ∧ k < len0 := fun ks h => ks_facts hok h
  have hl0 := hok.len1
  generalize hrr : (if bw then rs.reverse else rs) = rr at hy hrn hkf
  refine seqK fun K₉ H₉ => ?_
  walk_at "m"
  refine for_K (L := L) fun K₀ hK₀ => ?_
  walk_at "m"
  refine c_range1 ‹_› fun h₁ tk₁ r₁ o₁ hr₁ S₁ => ?_
  refine pi_range S₁ hr₁ (by decide) (by decide) (by omega) (by omega) fun h₂ I oI hI S₂ => ?_
  refine hK₀ _ _ ⟨_, _, _, fun (i : Nat) (g' : Heap) (l' : List (Str × Value)) (nw' : List (Addr × Obj)) => ∃ bv tb, EqN nw' [] ∧ EqL l' [("behind", .int bv tb), ("length", .int len tl)] ∧ (i = 0 → bv = 0) ∧ (∀ ks, SD ks (rr.map (·.cl)) → 0 < i → bv = (strG ((i : Int) - 1) 0 ks).1),
    g, h₂, _, _, _, I, oI, rfl, rfl, S₂, it_range hh, hI, ⟨_, _, rfl, rfl, fun _ => rfl, fun _ _ h => absurd h (Nat.lt_irrefl _)⟩, ?_, ?_⟩
  · rintro i v g₃ g₄ h₈ tk₈ l₈ nw₈ o₈ E' K₁ hin k5 k6 ⟨tv, rfl⟩ ⟨bv, tb, rfl, rfl, hb0, hb1⟩ S₈ ⟨hK₁, hR₁⟩
    have kk : g.StaysIn g₄ := fun b o e => k6 _ _ (k5 _ _ e)
    have C₄ : Cx w g₄ := C.mono kk
    have hcs₄ := hcs.keeps kk
    walk_at "m1"
    walk_at "m1"
    walk_at "m1"
    refine Assign_Tuple ?_
    walk_at "m"
    refine stretch_spec ‹_› C₄ (hy.mono kk) (by omega) (Nat.lt_of_lt_of_le hroom (by decide)) hh fun h₉ tk₉ g₉ T ks tg e k₉ S₉ hsd hT he => ?_
    have C₉ := C₄.mono k₉
    have hks := hkf ks hsd
    refine asg_tup2 S₉ hh hT fun h₁₀ S₁₀ => ?_
    walk_at "m"
    have hle : (strG (0 + (i : Int)) 0 ks).1 ≤ 0 + (i : Int) := strG_le ks 0 (by omega)
    have hlow : 0 ≤ (strG (0 + (i : Int)) 0 ks).1 := strG_low ks 0 (by omega) fun k hk => (hks k hk).1
    have hab : (strG (0 + (i : Int)) 0 ks).1 = bv ∨ (strG (0 + (i : Int)) 0 ks).1 = 0 + (i : Int) := by
      rcases Nat.eq_zero_or_pos i with h0 | h0
      · right; omega
      · have e1 := hb1 ks hsd h0
        have e2 := strG_next (p := (i : Int) - 1) ks 0 hsd.up
        rw [show (i : Int) - 1 + 1 = 0 + (i : Int) by omega] at e2
        rw [e1]; exact e2
    refine exec_mid (fun s' => ∃ g₅ h' tk', s' = SS s h' tk' ∧ g₉.StaysIn g₅ ∧ St g₅ L h' [("begin", .int (strG (0 + (i : Int)) 0 ks).1 tg), ("length", .int len tl)] [(I, o₈)]) ?_ ?_
    · intro K₂ hK₂
      refine wpAny_If ?_
      walk_at "m"
      rw [decide_eq_true hle, Bool.not_true, if_neg Bool.false_ne_true]
      walk_at "m"
      cases hE : (strG (0 + (i : Int)) 0 ks).2 with
      | none =>
        rw [hE] at he
        have he : e = .none := he
        subst he
        refine wpAny_isNot_self rfl ?_
        walk_at "m"
        rw [if_neg Bool.false_ne_true, if_neg Bool.false_ne_true]
        walk_at "m"
        refine newTup ‹_› fun h₁₁ g₁₁ D k₁₁ S₁₁ hD => ?_
        walk_at "m"
        refine c_notIn2 S₁₁ hD hab ?_
        walk_at "m"
        rw [if_neg Bool.false_ne_true]
        walk_at "m"
        rw [if_neg Bool.false_ne_true]
        refine wpAny_execs_nil ?_
        exact hK₂ _ ⟨g₁₁, _, _, rfl, k₁₁, S₁₁.names (by walk_at "msub")⟩
      | some c =>
        rw [hE] at he
        obtain ⟨te, rfl⟩ := he
        have hlt := strG_end ks 0 c hE
        refine wpAny_isNot_other rfl (by simp) ?_
        walk_at "m"
        rw [if_pos rfl]
        walk_at "m"
        rw [decide_eq_false (by omega), if_neg Bool.false_ne_true, if_neg Bool.false_ne_true]
        walk_at "m"
        refine newTup ‹_› fun h₁₁ g₁₁ D k₁₁ S₁₁ hD => ?_
        walk_at "m"
        refine c_notIn2 S₁₁ hD hab ?_
        walk_at "m"
        rw [if_neg Bool.false_ne_true]
        walk_at "m"
        rw [if_neg Bool.false_ne_true]
        refine wpAny_execs_nil ?_
        exact hK₂ _ ⟨g₁₁, _, _, rfl, k₁₁, S₁₁.names (by walk_at "msub")⟩
    · rintro s' ⟨g₅, h₁₁, tk₁₁, rfl, k₅, S₁₁⟩
      walk_at "m"
      refine hK₁ _ ⟨g₅, _, _, _, _, rfl, fun _ _ e => k₅ _ _ (k₉ _ _ e), ⟨_, tg, rfl, rfl, fun h => absurd h (Nat.succ_ne_zero i), fun ks' hsd' _ => ?_⟩, St.names ‹_› (by walk_at "msub")⟩
      rw [sd_eq hsd' hsd, show ((i + 1 : Nat) : Int) - 1 = 0 + (i : Int) by omega]
  · rintro g₃ h₈ tk₈ l₈ nw₈ E' k5 ⟨bv, tb, rfl, rfl, hb0, hb1⟩ S₈
    have C₃ := C.mono k5
    have hcs₃ := hcs.keeps k5
    walk_at "m"
    refine stretch_spec ‹_› C₃ (hy.mono k5) (by omega) (Nat.lt_of_lt_of_le hroom (by decide)) hh fun h₉ tk₉ g₉ T ks tg e k₉ S₉ hsd hT he => ?_
    have hks := hkf ks hsd
    rw [strG_none ks 0 (fun k hk => by have := (hks k hk).2; omega)] at he
    have he : e = .none := he
    subst he
    walk_at "m"
    refine c_itemT (isTuple_keeps hT (St.keep ‹_›)) (by decide) (by decide) rfl ?_
    walk_at "m"
    refine wpAny_is_self rfl ?_
    walk_at "mk"
    exact hq g₉ _ _ (fun _ _ e => k₉ _ _ (k5 _ _ e)) (St.names ‹_› (by walk_at "msub"))
end
section
variable {w : World} {A : Around} {E : Value → Shared → Prop} {s : Shared} {g h : Heap} {tk : TD} {L : Addr} {l l' : List (Str × Value)} {nw nw' : List (Addr × Obj)} {env : Env} {x : Str} {v : Value} {pos : Pos}

theorem law_spec {fa a : Addr} {cd : Value} {vs : List Value} {ns : List Int} {c1 c2 c3 c4 c5 : Obj} {Q : Flow → Shared → Prop}
    (S : St g L h [("script", .ref a)] [(L + 1, c1), (L + 2, c2), (L + 3, c3), (L + 4, c4), (L + 5, c5)]) (C : Cx w g)
    (hc1 : c1.data = .cell none) (hc2 : c2.data = .cell none) (hc3 : c3.data = .cell none) (hc4 : c4.data = .cell none) (hc5 : c5.data = .cell none)
    (hl : g.IsList a vs.toArray) (hi : IntsAre vs ns) (hn : ns.length ≤ 63) (hroom : A.depth < 600) (hh : A.handled = none) (hu : A.units < 4000)
    (hq : ∀ g' h' tk' l' nw', g.StaysIn g' → St g' L h' l' nw' → Q (.ret (.bool true)) (SS s h' tk')) :
    wpAny (model PG w) A (execs (lawBody w.params) (lawEnv w.params L fa cd)) Q E (SS s h tk) := by
  refine seg1a S C hc1 hc2 hl hi hn hroom hh fun g₀ h₀ tk₀ p op₀ y rs len0 tl₀ bw k₀ S₀ hcp₀ hcs₀ P₀ hok hy₀ => ?_
  refine seg1b S₀ (C.mono k₀) hcp₀ P₀ hok.len1 hok.len2 hroom hh fun g₁ h₁ tk₁ op len tl W wvs ws k₀₁ S₁ P₁ hln hl2 hW hws hwn hwok => ?_
  have k₁ : g.StaysIn g₁ := fun _ _ e => k₀₁ _ _ (k₀ _ _ e)
  have hcp := hcp₀.keeps k₀₁
  have hcs := hcs₀.keeps k₀₁
  have hy := hy₀.mono k₀₁
  have S₁ := S₁.perm (List.perm_append_comm (l₁ := [(p, op)]) (l₂ := [(L + 3, c3), (L + 4, c4), (L + 5, c5)]))
  have C₁ := C.mono k₁
  have hl1 : 1 ≤ len := Int.le_trans hok.len1 hln
  refine seg2 (y := y) S₁ C₁ hc3 hc4 hc5 hcp P₁ hl1 hl2 hW hws hwn hwok hroom hh hu fun g₂ h₂ tk₂ op₂ f tf bh tb i ti ie te T tvs k₂ S₂ hcf hci hce P₂ hf0 hfb hbl hi0 hii hie hT htv => ?_
  have C₂ := C₁.mono k₂
  have hW₂ := isList_keeps hW k₂
  have hws₂ := pmono (WAt.mono k₂) hws
  refine seg3a S₂ C₂ hcf hci hce hW₂ hws₂ hwn hroom hh fun g₃ h₃ tk₃ D ys k₃ S₃ hD hys => ?_
  refine seg3b S₃ (C₂.mono k₃) (isTuple_keeps hT k₃) (pmono (WAt.mono k₃) htv) hD hys (isList_keeps hW₂ k₃) (pmono (WAt.mono k₃) hws₂) hwn hwok (by omega) (by omega) hroom hh hu fun g₄ h₄ tk₄ k₄ S₄ => ?_
  have k₂₄ : g₂.StaysIn g₄ := fun _ _ e => k₄ _ _ (k₃ _ _ e)
  have k₁₄ : g₁.StaysIn g₄ := fun _ _ e => k₂₄ _ _ (k₂ _ _ e)
  have hrn : (if bw then rs.reverse else rs).length ≤ 8 := by have := hok.n; cases bw <;> simp [this]
  have C₄ := C₁.mono k₁₄
  refine seg3c S₄ C₄ (hcs.keeps k₁₄) (hcf.keeps k₂₄) (hci.keeps k₂₄) (hce.keeps k₂₄) (hy.mono k₁₄) hrn hi0 hie hroom hh hu fun g₅ h₅ tk₅ k₅ S₅ => ?_
  have k₁₅ : g₁.StaysIn g₅ := fun _ _ e => k₅ _ _ (k₁₄ _ _ e)
  refine seg4a S₅ (C₁.mono k₁₅) (hcp.keeps k₁₅) (P₂.mono fun _ _ e => k₅ _ _ (k₂₄ _ _ e)) hl1 hl2 hroom hh fun g₆ h₆ tk₆ D₆ ys₆ ns₆ op₆ k₆ S₆ hD₆ hns₆ hasc hnl => ?_
  have k₁₆ : g₁.StaysIn g₆ := fun _ _ e => k₆ _ _ (k₁₅ _ _ e)
  refine seg4b S₆ (C₁.mono k₁₆) hD₆ hns₆ hasc (by omega) hroom hh fun g₇ h₇ tk₇ B bvs k₇ S₇ hB hps => ?_
  have k₁₇ : g₁.StaysIn g₇ := fun _ _ e => k₇ _ _ (k₁₆ _ _ e)
  refine seg4c S₇ (C₁.mono k₁₇) (hcs.keeps k₁₇) (hy.mono k₁₇) hok hln hB hps hasc hnl hroom hh hu fun g₈ h₈ tk₈ k₈ S₈ => ?_
  have k₁₈ : g₁.StaysIn g₈ := fun _ _ e => k₈ _ _ (k₁₇ _ _ e)
  refine seg4d S₈ (C₁.mono k₁₈) (isList_keeps hB k₈) (pmono (IPair.mono k₈) hps) (isList_keeps hD₆ fun _ _ e => k₈ _ _ (k₇ _ _ e)) hns₆ hnl hh hu fun g₉ h₉ tk₉ k₉ S₉ => ?_
  have k₁₉ : g₁.StaysIn g₉ := fun _ _ e => k₉ _ _ (k₁₈ _ _ e)
  refine seg5 S₉ (C₁.mono k₁₉) (hcs.keeps k₁₉) (hy.mono k₁₉) hok hln hl2 hroom hh hu fun g₁₀ h₁₀ tk₁₀ k₁₀ S₁₀ => ?_
  exact hq g₁₀ h₁₀ tk₁₀ _ _ (fun _ _ e => k₁₀ _ _ (k₁₉ _ _ (k₁ _ _ e))) S₁₀
end
theorem law_enter {w : World} {s₁ : Shared} {E : Value → Shared → Prop} {fa a : Addr} {cd : Value} {mg mb m : Str → Option Value} {h₁ : Heap} {tk₁ : Nat} {o1 o2 o3 o4 o5 : Obj} {vs : List Value} {ns : List Int} {Q : Flow → Shared → Prop}
    (KX : (KK w.params).In s₁.heap) (hmg : s₁.heap.Ns mainGlobals mg) (hmb : s₁.heap.Ns builtinsNs mb) (hbb : ∀ x : Str, x ≠ "__name__" → mb x = bootBuiltins x) (NL : s₁.heap.NoLimit)
    (F : Fr s₁.heap s₁.heap.objs.size h₁ m) (hm : m "script" = some (.ref a))
    (N : News s₁.heap s₁.heap.objs.size h₁ [(s₁.heap.objs.size + 1 + 1 + 1 + 1 + 1, o5), (s₁.heap.objs.size + 1 + 1 + 1 + 1, o4), (s₁.heap.objs.size + 1 + 1 + 1, o3), (s₁.heap.objs.size + 1 + 1, o2), (s₁.heap.objs.size + 1, o1)])
    (h5 : o5.data = .cell none) (h4 : o4.data = .cell none) (h3 : o3.data = .cell none) (h2 : o2.data = .cell none) (h1 : o1.data = .cell none)
    (hl : s₁.heap.IsList a vs.toArray) (hi : IntsAre vs ns) (hn : ¬ ((63 : Nat) : Int) < ns.length)
    (hq : ∀ s', s'.gens = s₁.gens → s'.os = s₁.os → s₁.heap.StaysIn s'.heap → Q (.ret (.bool true)) s') :
    wpAny (model PG w) (callerA.deeper (lawEnv w.params s₁.heap.objs.size fa cd)) (execs (lawBody w.params) (lawEnv w.params s₁.heap.objs.size fa cd)) Q E
      { heap := h₁, gens := s₁.gens, drawn := s₁.drawn, toks := tk₁, os := s₁.os } := by
  have C : Cx w s₁.heap := ⟨KX, ⟨mg, hmg⟩, ⟨mb, hmb, hbb⟩, NL⟩
  generalize hL : s₁.heap.objs.size = L at *
  have off : s₁.heap.get? L = none := by
    cases e : s₁.heap.get? L with
    | none => rfl
    | some o => exact absurd (Heap.lt_size e) (by rw [hL]; exact Nat.lt_irrefl _)
  have S : St s₁.heap L h₁ [("script", .ref a)] [(L + 1, o1), (L + 2, o2), (L + 3, o3), (L + 4, o4), (L + 5, o5)] :=
    ⟨⟨m, F.ns, fun p hp => by rw [List.mem_singleton.mp hp]; exact hm⟩, F.keep, off, fun p hp => N p (by
      simp only [List.mem_cons, List.not_mem_nil, or_false] at hp ⊢
      rcases hp with h | h | h | h | h
      · exact .inr (.inr (.inr (.inr h)))
      · exact .inr (.inr (.inr (.inl h)))
      · exact .inr (.inr (.inl h))
      · exact .inr (.inl h)
      · exact .inl h), by simp⟩
  refine law_spec (s := s₁) (tk := (tk₁, s₁.drawn)) S C h1 h2 h3 h4 h5 hl hi (by omega) (by show callerA.depth + 1 < 600; decide) rfl (by show callerA.units + 3 < 4000; decide) fun g' h' tk' l' nw' k S' => ?_
  exact hq _ rfl rfl (fun b o e => S'.keep _ _ (k _ _ e))
end Mine
set_option maxHeartbeats 8000000 in
theorem PySem.Challenge.cw_pb0160_01_holds : PySem.Challenge.rw_pb0160_01.Holds :=
  Mine.hd (by
  k_go0
  refine Mine.law_enter ‹_› (Top.g ‹_›) (Top.b ‹_›) (Top.builtins ‹_›) (Top.nolimit ‹_›) ‹_› rfl ‹_› ?_ ?_ ?_ ?_ ?_ ‹_› ‹_› ‹_› ?_
  all_goals first | assumption | skip
  intro s' hg' ho' hk
  refine ⟨.inl ⟨_, _, _, rfl, fun _ => rfl, readsW_of_reads (.bool true), ?_, unshared_nil⟩, hk, ho', hg'.trans ‹_›⟩
  first | with_unfolding_all rfl | kernel_rfl | decide | (show (_ && _) = true; simp [RowW.claim]; done))
