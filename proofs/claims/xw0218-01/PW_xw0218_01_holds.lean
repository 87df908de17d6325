import PyProof.Rows.All
import Wide.All
import OpenK.AllK
import Wide.FinOn
import PySem.Challenge.RW_xw0218_01
set_option Elab.async false
set_option maxRecDepth 100000
set_option linter.unusedVariables false
section MB_part
namespace Mine
open PySem PySem.W PySem.Calls PySem.Spec PyProof.Rows

/-! objects -/
noncomputable abbrev lst (xs : List Value) (n : Nat) : Obj := { cls := .type "list", data := .seq xs.toArray n }
noncomputable abbrev tup (xs : List Value) (n : Nat) : Obj := { cls := .type "tuple", data := .seq xs.toArray n }
noncomputable abbrev dct (es : Array DictEntry) (n : Nat) : Obj := { cls := .type "dict", data := .dict es n }
noncomputable abbrev cel (v : Option Value) : Obj := { cls := .type "cell", data := .cell v }
noncomputable abbrev Led := List (Addr × Obj)

/-- nothing is raised -/
noncomputable abbrev NR : Value → Shared → Prop := fun _ _ => False

structure Cx (K : Frag) (h : Heap) : Prop where
  X : K.In h
  g : ∃ mg, h.Ns mainGlobals mg
  b : ∃ mb, h.Ns builtinsNs mb ∧ ∀ x : Str, x ≠ "__name__" → mb x = bootBuiltins x
  lim : h.NoLimit
theorem Cx.keeps {K : Frag} {h h' : Heap} (C : Cx K h) (k : ∀ b o, h.get? b = some o → h'.get? b = some o) : Cx K h' :=
  ⟨C.X.keeps k, let ⟨mg, h1⟩ := C.g; ⟨mg, h1.keeps k⟩, let ⟨mb, h1, h2⟩ := C.b; ⟨mb, h1.keeps k, h2⟩, C.lim.keeps k⟩

/-- what a call may change: nothing that stands -/
structure Pur (s s' : Shared) : Prop where
  k : ∀ b o, s.heap.get? b = some o → s'.heap.get? b = some o
  g : s'.gens = s.gens
  o : s'.os = s.os
theorem Pur.rfl' (s : Shared) : Pur s s := ⟨fun _ _ e => e, rfl, rfl⟩
theorem Pur.tok {s s' : Shared} (p : Pur s s') (t : Nat) : Pur s { s' with toks := t } := ⟨p.k, p.g, p.o⟩
theorem Pur.trans {s s' s'' : Shared} (p : Pur s s') (q : Pur s' s'') : Pur s s'' := ⟨fun b o e => q.k b o (p.k b o e), q.g.trans p.g, q.o.trans p.o⟩

/-- room for n more calls -/
structure Rm (A : Around) (n : Nat) : Prop where
  d : A.depth + n < 900
  u : A.units + 8 * n < 9000
  h : A.handled = none
theorem Rm.mono {A : Around} {n m : Nat} (r : Rm A n) (h : m ≤ n) : Rm A m := ⟨by have := r.d; omega, by have := r.u; omega, r.h⟩
theorem Rm.deeper {A : Around} {n : Nat} (r : Rm A (n + 1)) (env : Env) : Rm (A.deeper env) n :=
  ⟨by show A.depth + 1 + n < 900; have := r.d; omega, by show A.units + 3 + 8 * n < 9000; have := r.u; omega, r.h⟩
theorem Rm.in1 {A : Around} {n : Nat} (r : Rm A (n + 1)) : Rm A.in1 n :=
  ⟨by show A.depth + n < 900; have := r.d; omega, by show A.units + 1 + 8 * n < 9000; have := r.u; omega, r.h⟩
theorem Rm.room {A : Around} {n : Nat} (r : Rm A n) : A.depth < recursionLimit := by have := r.d; show A.depth < 1000; omega
theorem Rm.units {A : Around} {n : Nat} (r : Rm A n) : A.units < cLine := by have := r.u; show A.units < 9900; omega

/-- the frame at hand: its names, and what was made since it was entered -/
structure Fm (h₀ : Heap) (L : Addr) (m : Str → Option Value) (own : Led) (G : Array GenState) (O : OsState) (s : Shared) : Prop where
  fr : Fr h₀ L s.heap m
  nw : News h₀ L s.heap own
  nd : (own.map (·.1)).Nodup
  gens : s.gens = G
  os : s.os = O

section
variable {h₀ : Heap} {L : Addr} {m : Str → Option Value} {own : Led} {G : Array GenState} {O : OsState} {s : Shared}
theorem Fm.keep (F : Fm h₀ L m own G O s) : ∀ b o, h₀.get? b = some o → s.heap.get? b = some o := F.fr.keep
theorem Fm.cx {K : Frag} (F : Fm h₀ L m own G O s) (C : Cx K h₀) : Cx K s.heap := C.keeps F.fr.keep
theorem Fm.tok (F : Fm h₀ L m own G O s) (t : Nat) : Fm h₀ L m own G O { s with toks := t } := ⟨F.fr, F.nw, F.nd, F.gens, F.os⟩
theorem Fm.at (F : Fm h₀ L m own G O s) (i : Nat) {a : Addr} {o : Obj} (hi : own[i]? = some (a, o)) : s.heap.get? a = some o := (F.nw _ (List.mem_of_getElem? hi)).1
theorem Fm.new (F : Fm h₀ L m own G O s) (i : Nat) {a : Addr} {o : Obj} (hi : own[i]? = some (a, o)) : h₀.get? a = none := (F.nw _ (List.mem_of_getElem? hi)).2.2
theorem Fm.mem (F : Fm h₀ L m own G O s) {a : Addr} {o : Obj} (hi : (a, o) ∈ own) : s.heap.get? a = some o := (F.nw _ hi).1

theorem Fm.pur {s' : Shared} (F : Fm h₀ L m own G O s) (p : Pur s s') : Fm h₀ L m own G O s' :=
  ⟨F.fr.after p.k, fun q hq => ⟨p.k _ _ (F.nw q hq).1, (F.nw q hq).2⟩, F.nd, p.g.trans F.gens, p.o.trans F.os⟩

/-- a thing that is new joins the ledger -/
theorem Fm.add {a : Addr} {o : Obj} {s' : Shared} (F : Fm h₀ L m own G O s) (p : Pur s s') (hn : s.heap.get? a = none) (ho : s'.heap.get? a = some o) : Fm h₀ L m ((a, o) :: own) G O s' := by
  have F' := F.pur p
  refine ⟨F'.fr, fun q hq => ?_, ?_, F'.gens, F'.os⟩
  · rcases List.mem_cons.mp hq with rfl | hq
    · refine ⟨ho, fun e => ?_, ?_⟩
      · obtain ⟨oL, _, _, hL, _⟩ := F.fr.ns
        have e' : a = L := e
        rw [e', hL] at hn; cases hn
      · cases q : h₀.get? a with
        | none => rfl
        | some x => have := F.fr.keep _ _ q; rw [hn] at this; cases this
    · exact F'.nw q hq
  · rw [List.map_cons, List.nodup_cons]
    refine ⟨fun hm => ?_, F.nd⟩
    obtain ⟨q, hq, e⟩ := List.mem_map.mp hm
    have := (F.nw q hq).1
    rw [e, hn] at this; cases this

theorem fresh_size (h : Heap) : h.get? h.objs.size = none := by
  cases q : h.get? h.objs.size with
  | none => rfl
  | some o => exact absurd (Heap.lt_size q) (Nat.lt_irrefl _)
theorem pur_push (s : Shared) (o : Obj) : Pur s { s with heap := s.heap.push o } := ⟨fun _ _ e => Heap.get?_push_of_some _ e, rfl, rfl⟩

theorem Fm.alloc {o : Obj} (F : Fm h₀ L m own G O s) (hf : o.isFreed = false) : Fm h₀ L m ((s.heap.objs.size, o) :: own) G O { s with heap := s.heap.push o } :=
  F.add (pur_push s o) (fresh_size _) (Heap.get?_push_size _ hf)

/-- the ledger less some of it -/
theorem Fm.drop {own' : Led} (F : Fm h₀ L m own G O s) (h : own'.Sublist own) : Fm h₀ L m own' G O s :=
  ⟨F.fr, fun q hq => F.nw q (h.mem hq), F.nd.sublist (h.map _), F.gens, F.os⟩
theorem Fm.perm {own' : Led} (F : Fm h₀ L m own G O s) (h : own.Perm own') : Fm h₀ L m own' G O s :=
  ⟨F.fr, fun q hq => F.nw q (h.symm.mem_iff.mp hq), (h.map _).nodup_iff.mp F.nd, F.gens, F.os⟩

/-- a thing of the ledger changed -/
theorem Fm.set {a : Addr} {o o' : Obj} {h' : Heap} {t : Nat} (F : Fm h₀ L m own G O s) (i : Nat) (hi : own[i]? = some (a, o)) (hs : Heap.SameBut a s.heap h') (ho : h'.get? a = some o') :
    Fm h₀ L m (own.set i (a, o')) G O { s with heap := h', toks := t } := by
  have hm := List.mem_of_getElem? hi
  have ha := F.nw _ hm
  have hL : L ≠ a := fun e => ha.2.1 e.symm
  obtain ⟨hlt, hget⟩ := List.getElem?_eq_some_iff.mp hi
  have hmap : (own.set i (a, o')).map (·.1) = own.map (·.1) := by
    rw [List.map_set]
    show (own.map (·.1)).set i a = own.map (·.1)
    apply List.ext_getElem?
    intro j
    rw [List.getElem?_set]
    split
    · rename_i e; subst e
      rw [List.length_map, if_pos hlt, List.getElem?_map, hi]; rfl
    · rfl
  refine ⟨⟨F.fr.ns.sameBut hs hL, fun b x e => ?_, F.fr.above⟩, fun q hq => ?_, by rw [hmap]; exact F.nd, F.gens, F.os⟩
  · refine (hs.2 b fun e' => ?_).trans (F.fr.keep b x e)
    rw [e', ha.2.2] at e; cases e
  · rcases List.getElem_of_mem hq with ⟨j, hj, e⟩
    rw [List.length_set] at hj
    rw [List.getElem_set] at e
    split at e
    · rw [← e]; exact ⟨ho, ha.2⟩
    · rename_i hne
      have hq' : q ∈ own := e ▸ List.getElem_mem _
      have hqa : q.1 ≠ a := fun e2 => by
        have pw := List.pairwise_iff_getElem.mp F.nd
        have li : i < (own.map (·.1)).length := by rw [List.length_map]; exact hlt
        have lj : j < (own.map (·.1)).length := by rw [List.length_map]; exact hj
        have h1 : (own.map (·.1))[i] = a := by rw [List.getElem_map, hget]
        have h2 : (own.map (·.1))[j] = a := by rw [List.getElem_map, e, e2]
        rcases Nat.lt_trichotomy i j with hij | hij | hij
        · exact pw i j li lj hij (h1.trans h2.symm)
        · exact hne hij
        · exact pw j i lj li hij (h2.trans h1.symm)
      exact ⟨(hs.2 _ hqa).trans (F.nw q hq').1, (F.nw q hq').2⟩
end
end Mine

end MB_part
section MR_part
namespace Mine
open PySem PySem.W PySem.Calls PySem.Spec PyProof.Rows

section
variable {prog : Program} {w : World} {A : Around} {E : Value → Shared → Prop} {s : Shared} {env : Env} {K : Frag} {h₀ : Heap} {L : Addr} {m : Str → Option Value} {own : Led} {G : Array GenState} {O : OsState}

/-! names -/
theorem nmL {x : Str} {pos : Pos} {v : Value} {Q : Value → Shared → Prop} (F : Fm h₀ L m own G O s) (hv : m x = some v) (h : Q v s)
    (hL : env.locals = L := by rfl) (hk : env.scope.kind = .function := by rfl) (hl : env.kindOf x = some .local := by rfl) (hd : (x == ("__debug__" : Str)) = false := by rfl) :
    wpAny (model prog w) A (eval (.Name x pos) env) Q E s := by
  subst hL
  exact wpAny_Name (wpAny_loadName_local hk hl F.fr.ns hv h) hd
theorem nmG {x : Str} {pos : Pos} {v : Value} {Q : Value → Shared → Prop} {hp : Heap} (C : Cx K hp) (e : nsIn K mainGlobals x = some (some v)) (h : Q v s) (hs : s.heap = hp := by rfl)
    (hg : env.globals = mainGlobals := by rfl) (hk : env.scope.kind = .function := by rfl) (hx : env.kindOf x = some .globalImplicit := by rfl) (hd : (x == ("__debug__" : Str)) = false := by rfl) :
    wpAny (model prog w) A (eval (.Name x pos) env) Q E s := by
  subst hs
  obtain ⟨mg, hm⟩ := C.g
  exact Name_function_global hk hx (loadGlobal_global (env := env) (by rw [hg]; exact hm) (mg_of C.X hm e) h) hd
theorem nmB {x : Str} {pos : Pos} {v : Value} {Q : Value → Shared → Prop} {hp : Heap} (C : Cx K hp) (e : nsIn K mainGlobals x = some none) (hb : bootBuiltins x = some v) (h : Q v s) (hn : x ≠ "__name__") (hs : s.heap = hp := by rfl)
    (hg : env.globals = mainGlobals := by rfl) (hbb : env.builtins = builtinsNs := by rfl) (hk : env.scope.kind = .function := by rfl) (hx : env.kindOf x = some .globalImplicit := by rfl) (hd : (x == ("__debug__" : Str)) = false := by rfl) :
    wpAny (model prog w) A (eval (.Name x pos) env) Q E s := by
  subst hs
  obtain ⟨mg, hm⟩ := C.g
  obtain ⟨mb, hmb, hB⟩ := C.b
  exact Name_function_global hk hx (loadGlobal_builtin (env := env) (by rw [hg]; exact hm) (mg_none_of C.X hm e) (by rw [hbb]; exact hmb) ((hB x hn).trans hb) h) hd
theorem nmC {x : Str} {pos : Pos} {c : Addr} {v : Value} {Q : Value → Shared → Prop} {hp : Heap} (hv : hp.get? c = some (cel (some v))) (h : Q v s) (hs : s.heap = hp := by rfl)
    (hc : env.cells.lookup x = some c := by rfl) (hk : env.scope.kind = .function := by rfl) (hl : env.kindOf x = some .cell := by rfl) (hd : (x == ("__debug__" : Str)) = false := by rfl) :
    wpAny (model prog w) A (eval (.Name x pos) env) Q E s :=
  wpAny_Name (wpAny_loadName_cell hk hl hc ⟨_, hs ▸ hv, rfl⟩ h) hd

/-! stores -/
noncomputable def put (m : Str → Option Value) (x : Str) (v : Value) : Str → Option Value := fun y => if y = x then some v else m y
theorem put_same {m : Str → Option Value} {x : Str} {v : Value} : put m x v x = some v := if_pos rfl
theorem put_ne {m : Str → Option Value} {x y : Str} {v : Value} {r : Option Value} (h : m y = r) (hn : (y == x) = false := by rfl) : put m x v y = r := (if_neg fun e => by rw [e] at hn; simp at hn).trans h
theorem stL {x : Str} {v : Value} {Q : Unit → Shared → Prop} (F : Fm h₀ L m own G O s) (h : ∀ s', Fm h₀ L (put m x v) own G O s' → Q () s')
    (hL : env.locals = L := by rfl) (hk : env.scope.kind = .function := by rfl) (hl : env.kindOf x = some .local := by rfl) :
    wpAny (model prog w) A (storeName env x v) Q E s := by
  subst hL
  exact wpAny_storeName_local hl F.fr.ns (fun h' hn hs => h _ ⟨F.fr.set (m' := put m x v) hn hs, F.nw.set hs, F.nd, F.gens, F.os⟩) (by rw [hk]; rfl)
theorem stC {x : Str} {c : Addr} {o : Option Value} {v : Value} {Q : Unit → Shared → Prop} (F : Fm h₀ L m own G O s) (i : Nat) (hi : own[i]? = some (c, cel o)) (h : ∀ s', Fm h₀ L m (own.set i (c, cel (some v))) G O s' → Q () s')
    (hc : env.cells.lookup x = some c := by rfl) (hk : env.scope.kind = .function := by rfl) (hl : env.kindOf x = some .cell := by rfl) :
    wpAny (model prog w) A (storeName env x v) Q E s := by
  unfold storeName
  simp only [hl, hk]
  refine wpAny_bind (wpAny_cellOf hc ?_)
  unfold cellSet
  have ho := F.at i hi
  refine wpAny_bind (wpAny_load ho (wpAny_update ho (h _ ?_)))
  exact F.set i hi (Heap.SameBut.update ..) (Heap.get?_update_self _ ho rfl)

/-! statements -/
noncomputable def wpS (M : Model) (A : Around) (ss : List Stmt) (env : Env) (N : Shared → Prop) (R : Value → Shared → Prop) (s : Shared) : Prop :=
  wpAny M A (execs ss env) (fun f s' => match f with | .next => N s' | .ret v => R v s' | _ => False) NR s
noncomputable abbrev wpE (M : Model) (A : Around) (e : Expr) (env : Env) (Q : Value → Shared → Prop) (s : Shared) : Prop := wpAny M A (eval e env) Q NR s
noncomputable abbrev wpT (M : Model) (A : Around) (e : Expr) (env : Env) (Q : Bool → Shared → Prop) (s : Shared) : Prop := wpAny M A (isTrue e env (eval e env)) Q NR s

variable {N : Shared → Prop} {R : Value → Shared → Prop} {rest : List Stmt}
theorem S_nil (h : N s) : wpS (model prog w) A [] env N R s := wpAny_execs_nil h
theorem S_cons {st : Stmt} (h : wpAny (model prog w) A (exec st env) (fun f s' => match f with | .next => wpS (model prog w) A rest env N R s' | .ret v => R v s' | _ => False) NR s) :
    wpS (model prog w) A (st :: rest) env N R s := by
  refine wpAny_execs_cons (wpAny_mono h (fun f s' h' => ?_) fun _ _ x => x)
  cases f <;> exact h'
theorem S_asg {x : Str} {xp pos : Pos} {value : Expr} (h : wpE (model prog w) A value env (fun v s₁ => wpAny (model prog w) A (storeName env x v) (fun _ s₂ => wpS (model prog w) A rest env N R s₂) NR s₁) s)
    (hs : swapsWith value (some (.Name x xp)) pos.line env = pure false := by rfl) : wpS (model prog w) A (.Assign [.Name x xp] value pos :: rest) env N R s :=
  S_cons (wpAny_Assign_Name h hs)
theorem S_ret {e : Expr} {pos : Pos} (h : wpE (model prog w) A e env R s) : wpS (model prog w) A (.Return (some e) pos :: rest) env N R s :=
  S_cons (wpAny_Return_some h)
theorem S_exp {e : Expr} {pos : Pos} (h : wpE (model prog w) A e env (fun _ s' => wpS (model prog w) A rest env N R s') s)
    (hi : interactive env = false := by rfl) (hs : swapsWith e none pos.line env = pure false := by rfl) : wpS (model prog w) A (.Expr e pos :: rest) env N R s :=
  S_cons (wpAny_Expr_any h hi hs)
theorem S_if {t : Expr} {body orelse : List Stmt} {pos : Pos}
    (h : wpT (model prog w) A t env (fun b s' => match b with
      | true => wpS (model prog w) A body env (fun s'' => wpS (model prog w) A rest env N R s'') R s'
      | false => wpS (model prog w) A orelse env (fun s'' => wpS (model prog w) A rest env N R s'') R s') s) :
    wpS (model prog w) A (.If t body orelse pos :: rest) env N R s := by
  refine S_cons (wpAny_If (wpAny_mono h (fun b s' h' => ?_) fun _ _ x => x))
  cases b
  · simp only [Bool.false_eq_true, if_false]; exact wpAny_mono h' (fun f _ x => by cases f <;> exact x) fun _ _ x => x
  · simp only [if_true]; exact wpAny_mono h' (fun f _ x => by cases f <;> exact x) fun _ _ x => x
theorem S_mono {ss : List Stmt} {N' : Shared → Prop} {R' : Value → Shared → Prop} (h : wpS (model prog w) A ss env N R s) (hN : ∀ s, N s → N' s) (hR : ∀ v s, R v s → R' v s) : wpS (model prog w) A ss env N' R' s :=
  wpAny_mono h (fun f s' x => by cases f <;> first | exact hN _ x | exact hR _ _ x | exact x) fun _ _ x => x

/-! expressions -/
theorem E_int {i : Int} {k : Nat} {pos : Pos} {Q : Value → Shared → Prop} (h : Q (.int i s.toks) { s with toks := s.toks + 1 }) : wpE (model prog w) A (.Constant (.int i) k pos) env Q s := wpAny_Constant_int h
theorem E_str {x : Str} {k : Nat} {pos : Pos} {Q : Value → Shared → Prop} (h : Q (.str x s.toks) { s with toks := s.toks + 1 }) : wpE (model prog w) A (.Constant (.str x) k pos) env Q s := Constant_str h
theorem E_none {k : Nat} {pos : Pos} {Q : Value → Shared → Prop} (h : Q .none s) : wpE (model prog w) A (.Constant .none k pos) env Q s := wpAny_Constant_none h
theorem E_bool {b : Bool} {k : Nat} {pos : Pos} {Q : Value → Shared → Prop} (h : Q (.bool b) s) : wpE (model prog w) A (.Constant (.bool b) k pos) env Q s := wpAny_Constant_bool h
theorem E_bin {l r : Expr} {op : Operator} {pos : Pos} {Q : Value → Shared → Prop}
    (h : wpE (model prog w) A l env (fun a s₁ => wpE (model prog w) A r env (fun b s₂ => wpAny (model prog w) A (binaryOp op a b) Q NR s₂) s₁) s) : wpE (model prog w) A (.BinOp l op r pos) env Q s := wpAny_BinOp h
theorem E_cmp {l r : Expr} {op : CmpOp} {pos : Pos} {Q : Value → Shared → Prop}
    (h : wpE (model prog w) A l env (fun a s₁ => wpE (model prog w) A r env (fun b s₂ => wpAny (model prog w) A (compareOp op a b) Q NR s₂) s₁) s)
    (hm : behindInMarks op r = false := by with_unfolding_all rfl) : wpE (model prog w) A (.Compare l [op] [r] pos) env Q s := wpAny_Compare1 h hm
theorem E_if {t b o : Expr} {pos : Pos} {Q : Value → Shared → Prop}
    (h : wpT (model prog w) A t env (fun c s' => match c with | true => wpE (model prog w) A b env Q s' | false => wpE (model prog w) A o env Q s') s) : wpE (model prog w) A (.IfExp t b o pos) env Q s := by
  refine wpAny_IfExp (wpAny_mono h (fun c s' x => ?_) fun _ _ x => x)
  cases c <;> exact x
theorem E_sub {value slice : Expr} {pos : Pos} {Q : Value → Shared → Prop}
    (h : wpE (model prog w) A value env (fun o s₁ => wpE (model prog w) A slice env (fun i s₂ => wpAny (model prog w) A (subscriptTail value slice o i) Q NR s₂) s₁) s) :
    wpE (model prog w) A (.Subscript value slice pos) env Q s := Subscript_ h
theorem E_attr {value : Expr} {attr : Str} {pos : Pos} {Q : Value → Shared → Prop}
    (h : wpE (model prog w) A value env (fun o s₁ => wpAny (model prog w) A (getAttr o attr true) (fun r s₂ => wpAny (model prog w) A (letTemporaryGo value o r) (fun _ s₃ => Q r s₃) NR s₂) NR s₁) s)
    (he : eval (.Attribute value attr pos) env = (do
      let o ← eval value env
      standAt pos.atName
      let r ← holding [o] (getAttr o attr true)
      letTemporaryGo value o r
      pure r) := by with_unfolding_all rfl) : wpE (model prog w) A (.Attribute value attr pos) env Q s := by
  show wpAny _ _ _ _ _ _
  rw [he]
  refine wpAny_bind (wpAny_mono h (fun o s₁ h₁ => wpAny_bind (wpAny_standAt (wpAny_bind (wpAny_holding (wpAny_mono h₁ (fun r s₂ h₂ => wpAny_bind (wpAny_mono h₂ (fun _ _ x => wpAny_pure x) fun _ _ x => x)) fun _ _ x => x))))) fun _ _ x => x)

/-- the expressions of a display or a call, one by one -/
noncomputable def wpL (M : Model) (A : Around) (env : Env) : List Expr → (List Value → Shared → Prop) → Shared → Prop
  | [], Q, s => Q [] s
  | e :: r, Q, s => wpE M A e env (fun v s' => wpL M A env r (fun vs s'' => Q (v :: vs) s'') s') s
theorem wpL_mono {M : Model} : ∀ {es : List Expr} {Q Q' : List Value → Shared → Prop} {s : Shared}, wpL M A env es Q s → (∀ vs s, Q vs s → Q' vs s) → wpL M A env es Q' s
  | [], _, _, _, h, k => k _ _ h
  | _ :: _, _, _, _, h, k => wpAny_mono h (fun _ _ h' => wpL_mono h' fun _ _ x => k _ _ x) fun _ _ x => x
noncomputable def noStar : List Expr → Bool
  | [] => true
  | .Starred .. :: _ => false
  | _ :: r => noStar r
theorem starEach_cons {e : Expr} {r : List Expr} (h : noStar (e :: r) = true) : starEach (e :: r) env = (false, eval e env) :: starEach r env ∧ noStar r = true := by
  cases e <;> first | exact ⟨rfl, h⟩ | cases h
theorem spliced_of {pos : Pos} : ∀ {es : List Expr} {Q : List Value → Shared → Prop} {s : Shared}, noStar es = true → wpL (model prog w) A env es Q s → wpAny (model prog w) A (spliced (backTo pos (starEach es env))) Q NR s
  | [], _, _, _, h => args_nil h
  | e :: r, Q, s, hs, h => by
    obtain ⟨e1, e2⟩ := starEach_cons (env := env) hs
    refine args_cons (wpAny_mono h (fun v s' h' => spliced_of e2 h') fun _ _ x => x) e1
theorem E_list {es : List Expr} {pos : Pos} {Q : Value → Shared → Prop} (h : wpL (model prog w) A env es (fun vs s' => wpAny (model prog w) A (newList vs) Q NR s') s) (hs : noStar es = true := by rfl) :
    wpE (model prog w) A (.List es pos) env Q s := List_ (spliced_of hs h)
theorem E_tup {es : List Expr} {k : Nat} {pos : Pos} {Q : Value → Shared → Prop} (h : wpL (model prog w) A env es (fun vs s' => wpAny (model prog w) A (newTuple vs) Q NR s') s) (hs : noStar es = true := by rfl) :
    wpE (model prog w) A (.Tuple es k pos) env Q s := Tuple_ (spliced_of hs h)

theorem newL {vs : List Value} {Q : Value → Shared → Prop} (F : Fm h₀ L m own G O s) (h : ∀ a s', Fm h₀ L m ((a, lst vs 0) :: own) G O s' → Q (.ref a) s') (hsz : vs.length ≤ 1000 := by first | (simp; done) | (simp; omega)) : wpAny (model prog w) A (newList vs) Q NR s :=
  wpAny_newObj_type (h _ _ (F.alloc rfl)) (by show vs.toArray.size ≤ sizeLine; rw [List.size_toArray, sizeLine_eq]; omega)
theorem newT {vs : List Value} {Q : Value → Shared → Prop} (F : Fm h₀ L m own G O s) (h : ∀ a s', Fm h₀ L m ((a, tup vs 0) :: own) G O s' → Q (.ref a) s') (hsz : vs.length ≤ 1000 := by first | (simp; done) | (simp; omega)) : wpAny (model prog w) A (newTuple vs) Q NR s :=
  wpAny_newObj_type (h _ _ (F.alloc rfl)) (by show vs.toArray.size ≤ sizeLine; rw [List.size_toArray, sizeLine_eq]; omega)

/-! calls by name -/
theorem argsAny {pos : Pos} : ∀ {es : List Expr}, noStar es = true → (backTo pos (starEach es env)).any (·.1) = false
  | [], _ => rfl
  | e :: r, h => by
    obtain ⟨e1, e2⟩ := starEach_cons (env := env) h
    rw [e1]
    show (false || (backTo pos (starEach r env)).any (·.1)) = false
    rw [argsAny e2]; rfl
theorem callWith_args {f : Value} {first : List Value} {es : List Expr} {pos : Pos} {Q : Value → Shared → Prop} {P : Heap → Prop} (hs : noStar es = true)
    (hk : ∀ h, P h → ∃ k, (k = Keeper.frame ∨ k = Keeper.machine ∨ k = Keeper.boundFrame) ∧ Looks (model prog w) h (keeperOf f) k)
    (h : wpL (model prog w) A env es (fun vs s' => P s'.heap ∧ wpAny (model prog w) A (call f (first ++ vs)) Q NR s') s) :
    wpAny (model prog w) A (callWith pos f first (backTo pos (starEach es env)) []) Q NR s := by
  refine callWith_of (P := P) (by rw [argsAny hs]; rfl) hk ?_
  cases es with
  | nil => exact evalArgs_nil3 h
  | cons e r =>
    obtain ⟨e1, e2⟩ := starEach_cons (env := env) hs
    have := spliced_of (pos := pos) hs h
    rw [e1] at this ⊢
    exact evalArgs_plain this
/-- a call of a thing that a name gives -/
theorem E_call {x : Str} {np pos : Pos} {es : List Expr} {Q : Value → Shared → Prop} {P : Heap → Prop} (f : Value)
    (hn : ∀ Q' : Value → Shared → Prop, Q' f s → wpE (model prog w) A (.Name x np) env Q' s)
    (hk : ∀ h, P h → ∃ k, (k = Keeper.frame ∨ k = Keeper.machine ∨ k = Keeper.boundFrame) ∧ Looks (model prog w) h (keeperOf f) k)
    (h : wpL (model prog w) A env es (fun vs s' => P s'.heap ∧ wpAny (model prog w) A (call f vs) Q NR s') s) (hs : noStar es = true := by rfl) :
    wpE (model prog w) A (.Call (.Name x np) es [] pos) env Q s :=
  wpAny_Call_ofName (hn _ (callWith_args (first := []) hs hk h))
theorem keep_mach {M : Model} {f : Value} (h : ∀ a, f ≠ .ref a) (hp : Heap) : ∃ k, (k = Keeper.frame ∨ k = Keeper.machine ∨ k = Keeper.boundFrame) ∧ Looks M hp (keeperOf f) k := by
  refine ⟨.machine, .inr (.inl rfl), Looks.of_pure ?_⟩
  cases f <;> first | rfl | exact absurd rfl (h _)
end
end Mine

end MR_part
section MF_part
namespace Mine
open PySem PySem.W PySem.Calls PySem.Spec PyProof.Rows

/-! the text's defs -/
noncomputable def stmtAt (i : Nat) : Stmt := PySem.Challenge.pw_xw0218_01.main.body.getD i (.Pass default)
noncomputable def clsAt (i j : Nat) : Stmt := match stmtAt i with
  | .ClassDef _ _ _ b _ _ _ _ _ _ _ => b.getD j (.Pass default)
  | _ => .Pass default
noncomputable def fdArgs : Stmt → Arguments
  | .FunctionDef (args := a) .. => a
  | _ => default
noncomputable def fdBody : Stmt → List Stmt
  | .FunctionDef (body := b) .. => b
  | _ => []
noncomputable def fdScope : Stmt → Scope
  | .FunctionDef (scope := s) .. => s
  | _ => default
noncomputable def fnX' (nm qual : Str) (st : Stmt) (pm : Value) (f : Addr) : FuncData := fnOf nm qual (fdArgs st) (fdBody st) (fdScope st) .none .none .none pm none (.ref (f - 1)) .none
structure IsFn (K : Frag) (f : Addr) (qual : Str) (st : Stmt) : Prop where
  at_ : ∃ nm pm od sl, K.lookup f = some ⟨.type "function", od, .func (fnX' nm qual st pm f), sl⟩
  cd : codeIn K (.ref (f - 1)) qual = true
noncomputable abbrev envF (qual : Str) (st : Stmt) (L f : Addr) : Env := envOf qual (fdScope st) L f (.ref (f - 1))
noncomputable abbrev envK (qual : Str) (st : Stmt) (L f : Addr) : Env := envOfC qual (fdScope st) L f (.ref (f - 1))

/-- names told by a list -/
noncomputable def look (l : List (Str × Value)) : Str → Option Value := fun x => l.lookup x
theorem lookup_rev {l : List (Str × Value)} (h : (l.map (·.1)).Nodup) (x : Str) : l.reverse.lookup x = l.lookup x := by
  induction l with
  | nil => rfl
  | cons p r ih =>
    obtain ⟨k, v⟩ := p
    rw [List.map_cons, List.nodup_cons] at h
    rw [List.reverse_cons, List.lookup_append, ih h.2, List.lookup_cons]
    cases hb : x == k with
    | true =>
      have : r.lookup x = none := by
        rw [List.lookup_eq_none_iff]
        intro q hq
        have hne : x ≠ q.1 := fun e => h.1 (by
          have e1 : x = k := beq_iff_eq.mp hb
          show k ∈ r.map (·.1)
          rw [← e1, e]; exact List.mem_map_of_mem hq)
        simpa using hne
      rw [this, List.lookup_cons, hb]; rfl
    | false =>
      rw [List.lookup_cons, hb]
      cases r.lookup x <;> rfl

theorem zip_sub : ∀ {ns : List Str} {vs : List Value}, ((ns.zip vs).map (·.1)).Sublist ns
  | [], _ => by simp
  | _ :: _, [] => by simp
  | n :: ns, v :: vs => by
    rw [List.zip_cons_cons, List.map_cons]
    exact List.Sublist.cons_cons n zip_sub
theorem of_hide {h : Heap} {l : List Addr} {b : Addr} {o : Obj} (e : (hideAll h l).get? b = some o) : h.get? b = some o := of_hideAll l e
theorem Cx.hide {K : Frag} {h : Heap} {l : List Addr} (C : Cx K (hideAll h l)) : Cx K h := C.keeps fun _ _ e => of_hideAll l e

section
variable {prog : Program} {w : World} {A : Around} {E : Value → Shared → Prop} {s : Shared} {K : Frag} {f : Addr} {qual : Str} {st : Stmt} {n : Nat}

/-- entering a def without cells; X: what stands and may change -/
theorem enterX {vals : List Value} {Q : Value → Shared → Prop} (X : Led) (H : IsFn K f qual st) (C : Cx K s.heap) (r : Rm A (n + 1)) (ns : List Str)
    (hX : ∀ p ∈ X, s.heap.get? p.1 = some p.2) (ndX : (X.map (·.1)).Nodup)
    (h : ∀ L s', Fm (hideAll s.heap (X.map (·.1))) L (look (ns.zip vals)) X s.gens s.os s' →
      wpS (model prog w) (A.deeper (envF qual st L f)) (fdBody st) (envF qual st L f) (Q .none) Q s')
    (hbind : ∀ nm pm, bindArgs (fnX' nm qual st pm f) ⟨vals, []⟩ = pure (ns.zip vals) := by intros; rfl)
    (hnd : ns.Nodup := by decide +kernel)
    (hloc : (ns.all fun x => decide ((fdScope st).names.lookup x = some .local)) = true := by rfl)
    (hcell : ∀ x ∈ (fdScope st).names, x.2 ≠ .cell := by decide +kernel)
    (hco : (fdScope st).isCoroutine = false := by rfl) (hgen : (fdScope st).isGenerator = false := by rfl) (hk : (fdScope st).kind = .function := by rfl) :
    wpAny (model prog w) A (call (.ref f) vals) Q E s := by
  obtain ⟨⟨nm, pm, od, sl, hf⟩, hcd⟩ := H
  refine wpAny_call (codeAny_call_def (fd := fnX' nm qual st pm f) (body := fdBody st) (binds := ns.zip vals) r.room (C.X _ _ hf) rfl C.lim (codeRec_of C.X hcd) rfl
    (BindsTo.of_eq (hbind nm pm)) hcell (fun x hx => ?_) (fun h₁ hns hk₁ => ?_) hco hgen hk)
  · obtain ⟨a, b⟩ := x
    exact of_decide_eq_true (List.all_eq_true.mp hloc a (List.of_mem_zip hx).1)
  · have e : (fun x => (ns.zip vals).reverse.lookup x) = look (ns.zip vals) := funext fun x => lookup_rev (hnd.sublist zip_sub) x
    rw [e] at hns
    have F : Fm (hideAll s.heap (X.map (·.1))) s.heap.objs.size (look (ns.zip vals)) X s.gens s.os { s with heap := h₁, toks := s.toks + (ns.zip vals).length } :=
      ⟨⟨hns, fun b o e => hk₁ b o (of_hideAll _ e), Nat.le_of_eq (hideAll_size _ _)⟩,
        fun p hp => ⟨hk₁ _ _ (hX p hp), Nat.ne_of_lt (Heap.lt_size (hX p hp)), hideAll_none _ (List.mem_map_of_mem hp)⟩, ndX, rfl, rfl⟩
    refine wpAny_mono (h _ _ F) (fun fl s' x => ?_) fun _ _ x => x.elim
    cases fl <;> first | exact x | exact x.elim
theorem enter0 {vals : List Value} {Q : Value → Shared → Prop} (H : IsFn K f qual st) (C : Cx K s.heap) (r : Rm A (n + 1)) (ns : List Str)
    (h : ∀ L s', Fm s.heap L (look (ns.zip vals)) [] s.gens s.os s' →
      wpS (model prog w) (A.deeper (envF qual st L f)) (fdBody st) (envF qual st L f) (Q .none) Q s')
    (hbind : ∀ nm pm, bindArgs (fnX' nm qual st pm f) ⟨vals, []⟩ = pure (ns.zip vals) := by intros; rfl)
    (hnd : ns.Nodup := by decide +kernel)
    (hloc : (ns.all fun x => decide ((fdScope st).names.lookup x = some .local)) = true := by rfl)
    (hcell : ∀ x ∈ (fdScope st).names, x.2 ≠ .cell := by decide +kernel)
    (hco : (fdScope st).isCoroutine = false := by rfl) (hgen : (fdScope st).isGenerator = false := by rfl) (hk : (fdScope st).kind = .function := by rfl) :
    wpAny (model prog w) A (call (.ref f) vals) Q E s :=
  enterX [] H C r ns (fun _ hp => nomatch hp) List.nodup_nil h hbind hnd hloc hcell hco hgen hk

/-- what a frame without changes hands back -/
theorem Fm.back {s₀ s : Shared} {L : Addr} {m : Str → Option Value} {own : Led} (F : Fm s₀.heap L m own s₀.gens s₀.os s) : Pur s₀ s := ⟨F.fr.keep, F.gens, F.os⟩

theorem keep_fn (H : IsFn K f qual st) {h : Heap} (X : K.In h) : ∃ k, (k = Keeper.frame ∨ k = Keeper.machine ∨ k = Keeper.boundFrame) ∧ Looks (model prog w) h (keeperOf (.ref f)) k := by
  obtain ⟨⟨nm, pm, od, sl, hf⟩, hcd⟩ := H
  exact keeps_K (f := .ref f) (by unfold keepIn; dsimp only; rw [hf]) h X
/-- a call of a def of the text, by its name -/
theorem E_fn {env : Env} {x : Str} {np pos : Pos} {es : List Expr} {Q : Value → Shared → Prop} {hp : Heap} (H : IsFn K f qual st) (C : Cx K hp) (e : nsIn K mainGlobals x = some (some (.ref f)))
    (h : wpL (model prog w) A env es (fun vs s' => Cx K s'.heap ∧ wpAny (model prog w) A (call (.ref f) vs) Q NR s') s) (hh : s.heap = hp := by rfl) (hs : noStar es = true := by rfl)
    (hg : env.globals = mainGlobals := by rfl) (hk : env.scope.kind = .function := by rfl) (hx : env.kindOf x = some .globalImplicit := by rfl) (hd : (x == ("__debug__" : Str)) = false := by rfl) :
    wpE (model prog w) A (.Call (.Name x np) es [] pos) env Q s :=
  E_call (P := Cx K) (.ref f) (fun Q' q => nmG C e q hh hg hk hx hd) (fun _ X => keep_fn H X.X) h hs
/-- a call of a built-in thing, by its name -/
theorem E_bi {env : Env} {x : Str} {np pos : Pos} {es : List Expr} {v : Value} {Q : Value → Shared → Prop} {hp : Heap} (C : Cx K hp) (e : nsIn K mainGlobals x = some none) (hb : bootBuiltins x = some v) (hv : ∀ a, v ≠ .ref a)
    (h : wpL (model prog w) A env es (fun vs s' => wpAny (model prog w) A (call v vs) Q NR s') s) (hn : x ≠ "__name__") (hh : s.heap = hp := by rfl) (hs : noStar es = true := by rfl)
    (hg : env.globals = mainGlobals := by rfl) (hbb : env.builtins = builtinsNs := by rfl) (hk : env.scope.kind = .function := by rfl) (hx : env.kindOf x = some .globalImplicit := by rfl) (hd : (x == ("__debug__" : Str)) = false := by rfl) :
    wpE (model prog w) A (.Call (.Name x np) es [] pos) env Q s :=
  E_call (P := fun _ => True) v (fun Q' q => nmB C e hb q hn hh hg hbb hk hx hd) (fun hp _ => keep_mach hv hp) (wpL_mono h fun _ _ x => ⟨trivial, x⟩) hs
/-- a method of an own class, called -/
theorem E_meth {env : Env} {o : Expr} {name : Str} {apos pos : Pos} {es : List Expr} {Q : Value → Shared → Prop} {C' : Addr}
    (H : IsFn K f qual st) (hga : findIn K (.ref C') "__getattribute__" = some (some (.builtin "object.__getattribute__"))) (hgk : findIn K (.ref C') "__getattr__" = some none) (hm : findIn K (.ref C') name = some (some (.ref f)))
    (h : wpE (model prog w) A o env (fun ov s₁ => ∃ x ox od, ov = .ref x ∧ Cx K s₁.heap ∧ InstAt s₁.heap x ox C' od ∧ shadowIn od name = some false ∧
      wpL (model prog w) A env es (fun vs s' => Cx K s'.heap ∧ wpAny (model prog w) A (call (.ref f) (.ref x :: vs)) Q NR s') s₁) s)
    (hs : noStar es = true := by rfl)
    (he : eval (.Call (.Attribute o name apos) es [] pos) env = (do
      let ov ← eval o env
      standAt apos.atName
      let (f, first) ← holding [ov] (getMethod ov name (do return (← importBound o env).getD true))
      callWith pos f first (backTo pos (starEach es env)) []) := by rfl) :
    wpE (model prog w) A (.Call (.Attribute o name apos) es [] pos) env Q s := by
  refine MethodCall_ (wpAny_mono h (fun ov s₁ h₁ => ?_) fun _ _ x => x) he
  obtain ⟨x, ox, od, rfl, C, I, hsh, hL⟩ := h₁
  have ht : typeIn K (.ref f) = some (.type "function") := by
    obtain ⟨⟨nm, pm, od, sl, hf⟩, _⟩ := H
    unfold typeIn; dsimp only; rw [hf]; rfl
  exact method_fn C.X I hga hgk hm ht hsh (callWith_args (first := [.ref x]) (P := Cx K) hs (fun _ X => keep_fn H X.X) hL)
/-- a method of a built-in thing, called -/
theorem E_methB {env : Env} {o : Expr} {name : Str} {apos pos : Pos} {es : List Expr} {Q : Value → Shared → Prop} {T id : String}
    (pa : PlainAttrs T) (slot : Slot T name id) (hty : typeOf (.builtin id) = pure (.type "method_descriptor"))
    (h : wpE (model prog w) A o env (fun ov s₁ => s₁.TypeIs ov T ∧ (∀ a, ov = .ref a → ∃ o, s₁.heap.get? a = some o ∧ o.dict = none) ∧
      wpL (model prog w) A env es (fun vs s' => wpAny (model prog w) A (call (.builtin id) (ov :: vs)) Q NR s') s₁) s)
    (hs : noStar es = true := by rfl)
    (he : eval (.Call (.Attribute o name apos) es [] pos) env = (do
      let ov ← eval o env
      standAt apos.atName
      let (f, first) ← holding [ov] (getMethod ov name (do return (← importBound o env).getD true))
      callWith pos f first (backTo pos (starEach es env)) []) := by rfl) :
    wpE (model prog w) A (.Call (.Attribute o name apos) es [] pos) env Q s := by
  refine MethodCall_ (wpAny_mono h (fun ov s₁ h₁ => ?_) fun _ _ x => x) he
  obtain ⟨hT, hd, hL⟩ := h₁
  exact getMethod_builtin hT pa slot hty hd (callWith_args (first := [ov]) (P := fun _ => True) hs (fun hp _ => keep_mach (by intro a e; cases e) hp) (wpL_mono hL fun _ _ x => ⟨trivial, x⟩))

/-- a field of an own object -/
theorem fld {cd : ClassData} {C x : Addr} {ox o : Obj} {name : Str} {v : Value} {Q : Value → Shared → Prop} (hC : clsIn K C = some cd) (hd : cd.hasDict = true) (hn : findIn K (.ref C) name = some none)
    (hga : findIn K (.ref C) "__getattribute__" = some (some (.builtin "object.__getattribute__"))) {hp : Heap} (X : Cx K hp) (I : InstAt hp x ox C (some o)) (hl : lookIn name o = some (some v)) (hh : handedIn v = true)
    (h : Q v { s with toks := s.toks + 1 }) (hs : s.heap = hp := by rfl) : wpAny (model prog w) A (getAttr (.ref x) name true) Q E s := by
  subst hs
  refine get_value X.X I hga ?_ hh h
  unfold findObj PySem.W.ownOf
  simp only [hC, Option.bind_some, hn, hd, if_true, hl]
end
end Mine

end MF_part
section MX_part
namespace Mine
open PySem PySem.W PySem.Calls PySem.Spec PyProof.Rows

section
variable {prog : Program} {w : World} {A : Around} {s : Shared} {env : Env} {K : Frag}
/-! tests -/
theorem T_not {x : Expr} {pos : Pos} {Q : Bool → Shared → Prop} (h : wpT (model prog w) A x env (fun b => Q (!b)) s) : wpT (model prog w) A (.UnaryOp .Not x pos) env Q s := wpAny_isTrue_Not h
theorem T_cmp {l r : Expr} {op : CmpOp} {pos : Pos} {Q : Bool → Shared → Prop}
    (h : wpE (model prog w) A l env (fun a s₁ => wpE (model prog w) A r env (fun b s₂ => wpAny (model prog w) A (compareOp op a b) (fun c s₃ => wpAny (model prog w) A (truthy c) Q NR s₃) NR s₂) s₁) s)
    (hm : behindInMarks op r = false := by with_unfolding_all rfl) : wpT (model prog w) A (.Compare l [op] [r] pos) env Q s := wpAny_isTrue_Compare1 h hm
theorem T_val {e : Expr} {Q : Bool → Shared → Prop} (h : wpE (model prog w) A e env (fun v s₁ => wpAny (model prog w) A (truthy v) Q NR s₁) s)
    (he : isTrue e env (eval e env) = (do let v ← eval e env; standAt e.pos; holding [v] (truthy v)) := by rfl) : wpT (model prog w) A e env Q s := wpAny_isTrue_value h he
noncomputable def wpAll (M : Model) (A : Around) (op : BoolOp) (env : Env) (es : List Expr) (Q : Bool → Shared → Prop) (s : Shared) : Prop := wpAny M A (allTrue op es env) Q NR s
theorem T_bool {op : BoolOp} {es : List Expr} {pos : Pos} {Q : Bool → Shared → Prop} (h : wpAll (model prog w) A op env es Q s) : wpT (model prog w) A (.BoolOp op es pos) env Q s := wpAny_isTrue_BoolOp h
theorem and_nil {Q : Bool → Shared → Prop} (h : Q true s) : wpAll (model prog w) A .And env [] Q s := wpAny_allTrue_And_nil h
theorem or_nil {Q : Bool → Shared → Prop} (h : Q false s) : wpAll (model prog w) A .Or env [] Q s := wpAny_allTrue_Or_nil h
theorem and_cons {e : Expr} {r : List Expr} {Q : Bool → Shared → Prop} (h : wpT (model prog w) A e env (fun b s₁ => match b with | true => wpAll (model prog w) A .And env r Q s₁ | false => Q false s₁) s) :
    wpAll (model prog w) A .And env (e :: r) Q s := wpAny_allTrue_And_cons (wpAny_mono h (fun b s₁ x => by cases b <;> exact x) fun _ _ x => x)
theorem or_cons {e : Expr} {r : List Expr} {Q : Bool → Shared → Prop} (h : wpT (model prog w) A e env (fun b s₁ => match b with | true => Q true s₁ | false => wpAll (model prog w) A .Or env r Q s₁) s) :
    wpAll (model prog w) A .Or env (e :: r) Q s := wpAny_allTrue_Or_cons (wpAny_mono h (fun b s₁ x => by cases b <;> exact x) fun _ _ x => x)
theorem tr_bool {b : Bool} {Q : Bool → Shared → Prop} (h : Q b s) : wpAny (model prog w) A (truthy (.bool b)) Q NR s := wpAny_truthy_bool h
theorem T_chain {l r₁ r₂ : Expr} {o₁ o₂ : CmpOp} {pos : Pos} {Q : Bool → Shared → Prop}
    (h : wpE (model prog w) A l env (fun a s₁ => wpE (model prog w) A r₁ env (fun b s₂ => wpAny (model prog w) A (compareOp o₁ a b) (fun c s₃ => wpAny (model prog w) A (truthy c) (fun t s₄ => match t with
      | true => wpE (model prog w) A r₂ env (fun d s₅ => wpAny (model prog w) A (compareOp o₂ b d) (fun c s₆ => wpAny (model prog w) A (truthy c) Q NR s₆) NR s₅) s₄
      | false => Q false s₄) NR s₃) NR s₂) s₁) s)
    (hm : lastMarks [o₁, o₂] [r₁, r₂] = false := by with_unfolding_all rfl) : wpT (model prog w) A (.Compare l [o₁, o₂] [r₁, r₂] pos) env Q s := by
  refine isTrue_chain (wpAny_mono h (fun a s₁ h₁ => test_link (wpAny_mono h₁ (fun b s₂ h₂ => wpAny_mono h₂ (fun c s₃ h₃ => wpAny_mono h₃ (fun t s₄ h₄ => ?_) fun _ _ x => x) fun _ _ x => x) fun _ _ x => x)) fun _ _ x => x) hm
  cases t with
  | false => exact h₄
  | true => exact test_last h₄
/-! boolean values -/
theorem E_not {x : Expr} {pos : Pos} {Q : Value → Shared → Prop} (h : wpE (model prog w) A x env (fun v s₁ => wpAny (model prog w) A (truthy v) (fun b s₂ => Q (.bool (!b)) s₂) NR s₁) s) : wpE (model prog w) A (.UnaryOp .Not x pos) env Q s :=
  wpAny_UnaryOp (wpAny_mono h (fun _ _ x => not_value x) fun _ _ x => x)
noncomputable def wpBo (M : Model) (A : Around) (pos : Pos) (op : BoolOp) (env : Env) (es : List Expr) (Q : Value → Shared → Prop) (s : Shared) : Prop := wpAny M A (boolOp pos op (evalEach es env)) Q NR s
theorem E_bool2 {op : BoolOp} {es : List Expr} {pos : Pos} {Q : Value → Shared → Prop} (h : wpBo (model prog w) A pos op env es Q s) : wpE (model prog w) A (.BoolOp op es pos) env Q s := by
  show wpAny _ _ (eval (.BoolOp op es pos) env) _ _ _
  have : eval (.BoolOp op es pos) env = boolOp pos op (evalEach es env) := rfl
  rw [this]; exact h
theorem bo_last {op : BoolOp} {e : Expr} {pos : Pos} {Q : Value → Shared → Prop} (h : wpE (model prog w) A e env Q s) : wpBo (model prog w) A pos op env [e] Q s := h
theorem bo_cons {op : BoolOp} {e e' : Expr} {r : List Expr} {pos : Pos} {Q : Value → Shared → Prop}
    (h : wpE (model prog w) A e env (fun v s₁ => wpAny (model prog w) A (truthy v) (fun t s₂ => match op, t with
      | .And, false | .Or, true => Q v s₂
      | _, _ => wpBo (model prog w) A pos op env (e' :: r) Q s₂) NR s₁) s) : wpBo (model prog w) A pos op env (e :: e' :: r) Q s := by
  show wpAny _ _ (do
    let v ← eval e env
    standAt pos
    let t ← holding [v] (truthy v)
    match op, t with
    | .And, false | .Or, true => pure v
    | _, _ => boolOp pos op (evalEach (e' :: r) env)) _ _ _
  refine wpAny_bind (wpAny_mono h (fun v s₁ h₁ => wpAny_bind (wpAny_standAt (wpAny_bind (wpAny_holding (wpAny_mono h₁ (fun t s₂ h₂ => ?_) fun _ _ x => x))))) fun _ _ x => x)
  cases op <;> cases t <;> first | exact wpAny_pure h₂ | exact h₂

theorem E_attrN {n attr : Str} {np pos : Pos} {Q : Value → Shared → Prop} (h : wpE (model prog w) A (.Name n np) env (fun o s₁ => wpAny (model prog w) A (getAttr o attr true) Q NR s₁) s) : wpE (model prog w) A (.Attribute (.Name n np) attr pos) env Q s := Attribute_name h
theorem E_attrT {value : Expr} {attr : Str} {pos : Pos} {Q : Value → Shared → Prop} (h : wpE (model prog w) A value env (fun o s₁ => wpAny (model prog w) A (getAttr o attr true) Q NR s₁) s)
    (he : eval (.Attribute value attr pos) env = (do
      let o ← eval value env
      standAt pos.atName
      let r ← holding [o] (getAttr o attr true)
      letTemporaryGo value o r
      pure r) := by with_unfolding_all rfl) : wpE (model prog w) A (.Attribute value attr pos) env Q s :=
  E_attr (wpAny_mono h (fun _ _ x => wpAny_mono x (fun _ _ y => wpAny_letTemporaryGo y) fun _ _ x => x) fun _ _ x => x) he
theorem sw_t {b : Bool} {P : Bool → Prop} (hb : b = true) (h : P true) : P b := hb ▸ h
theorem sw_f {b : Bool} {P : Bool → Prop} (hb : b = false) (h : P false) : P b := hb ▸ h

/-! numbers -/
noncomputable abbrev IsI (v : Value) (i : Int) : Prop := ∃ t, v = .int i t
theorem cmp_lt {a b : Int} {t u : Tok} {Q : Value → Shared → Prop} (h : Q (.bool (decide (a < b))) s) : wpAny (model prog w) A (compareOp .Lt (.int a t) (.int b u)) Q NR s := PyProof.Rows.lt_int h
theorem cmp_gt {a b : Int} {t u : Tok} {Q : Value → Shared → Prop} (h : Q (.bool (decide (b < a))) s) : wpAny (model prog w) A (compareOp .Gt (.int a t) (.int b u)) Q NR s := PyProof.Rows.gt_int h
theorem cmp_le {a b : Int} {t u : Tok} {Q : Value → Shared → Prop} (h : Q (.bool (decide (a ≤ b))) s) : wpAny (model prog w) A (compareOp .LtE (.int a t) (.int b u)) Q NR s := PyProof.Rows.le_int h
theorem cmp_ge {a b : Int} {t u : Tok} {Q : Value → Shared → Prop} (h : Q (.bool (decide (b ≤ a))) s) : wpAny (model prog w) A (compareOp .GtE (.int a t) (.int b u)) Q NR s := PyProof.Rows.ge_int h
theorem cmp_eq {a b : Int} {t u : Tok} {Q : Value → Shared → Prop} (h : Q (.bool (a == b)) s) : wpAny (model prog w) A (compareOp .Eq (.int a t) (.int b u)) Q NR s := PyProof.Rows.eq_int h
theorem cmp_ne {a b : Int} {t u : Tok} {Q : Value → Shared → Prop} (h : Q (.bool (a != b)) s) : wpAny (model prog w) A (compareOp .NotEq (.int a t) (.int b u)) Q NR s := PyProof.Rows.ne_int h
theorem cmp_eqs {a b : Str} {t u : Tok} {Q : Value → Shared → Prop} (h : Q (.bool (a == b)) s) : wpAny (model prog w) A (compareOp .Eq (.str a t) (.str b u)) Q NR s := PyProof.Rows.eq_str h
theorem cmp_nes {a b : Str} {t u : Tok} {Q : Value → Shared → Prop} (h : Q (.bool (a != b)) s) : wpAny (model prog w) A (compareOp .NotEq (.str a t) (.str b u)) Q NR s := PyProof.Rows.ne_str h
theorem cmp_is {v : Value} {Q : Value → Shared → Prop} (h : Q (.bool (v == .none)) s) : wpAny (model prog w) A (compareOp .Is v .none) Q NR s := is_none h
theorem cmp_isnot {v : Value} {Q : Value → Shared → Prop} (h : Q (.bool (!(v == .none))) s) : wpAny (model prog w) A (compareOp .IsNot v .none) Q NR s := isNot_none h

/-! lists -/
theorem isL {h : Heap} {l : Addr} {xs : List Value} {n : Nat} (e : h.get? l = some (lst xs n)) : h.IsList l xs.toArray := ⟨_, e, rfl, n, rfl⟩
theorem len_l {l : Addr} {xs : List Value} {n : Nat} {Q : Value → Shared → Prop} {hp : Heap} (e : hp.get? l = some (lst xs n)) (hfit : (xs.length : Int) < 2 ^ 63)
    (h : ∀ t s', Pur s s' → Q (.int xs.length t) s') (hs : s.heap = hp := by rfl) : wpAny (model prog w) A (call (.builtin "len") [.ref l]) Q NR s := by
  subst hs
  refine call_len_list (isL e) (by simpa using hfit) ?_
  have := h (s.toks + 1) { s with toks := s.toks + 1 + 1 } ((Pur.rfl' s).tok _)
  simpa using this
theorem sub_l {value slice : Expr} {l : Addr} {xs : List Value} {n : Nat} {k : Int} {t : Tok} {v : Value} {Q : Value → Shared → Prop} {hp : Heap} (e : hp.get? l = some (lst xs n)) (h0 : 0 ≤ k) (hk : k < 2 ^ 63) (hx : xs[k.toNat]? = some v) (h : Q v s) (hh : s.heap = hp := by rfl)
    (hs : subscripted slice false (.ref l) (.int k t) = operate [.ref l, .int k t] (getItem (.ref l) (.int k t)) := by with_unfolding_all rfl) :
    wpAny (model prog w) A (subscriptTail value slice (.ref l) (.int k t)) Q NR s :=
  by subst hh; exact tail_any (isL e).typeIs slot_list_getitem.lookup (wpAny_getItem_list (isL e) h0 hk (by simpa using hx) h) hs
/-- list(l): a copy -/
theorem list_l {l : Addr} {xs : List Value} {n : Nat} {Q : Value → Shared → Prop} {hp : Heap} (e : hp.get? l = some (lst xs n)) (hsz : xs.length ≤ 1000)
    (h : ∀ a n' s', Pur s s' → s.heap.get? a = none → s'.heap.get? a = some (lst xs n') → Q (.ref a) s') (hs : s.heap = hp := by rfl) : wpAny (model prog w) A (call (.type "list") [.ref l]) Q NR s :=
  by subst hs; exact call_list_seq l (.inl rfl) e rfl rfl (fun h' c' hk hD => h _ c' _ ⟨hk, rfl, rfl⟩ (fresh_size _) hD) (by rw [List.size_toArray, sizeLine_eq]; omega)
theorem bb_len : bootBuiltins "len" = some (.builtin "len") := by boot_by_name
theorem bb_list : bootBuiltins "list" = some (.type "list") := by boot_by_name
theorem bb_sorted : bootBuiltins "sorted" = some (.builtin "sorted") := by boot_by_name
theorem bb_enumerate : bootBuiltins "enumerate" = some (.type "enumerate") := by boot_by_name
theorem bb_isinstance : bootBuiltins "isinstance" = some (.builtin "isinstance") := by boot_by_name
theorem bb_tuple : bootBuiltins "tuple" = some (.type "tuple") := by boot_by_name
theorem bb_bool : bootBuiltins "bool" = some (.type "bool") := by boot_by_name
theorem bb_range : bootBuiltins "range" = some (.type "range") := by boot_by_name
theorem bb_max : bootBuiltins "max" = some (.builtin "max") := by boot_by_name
theorem bb_int : bootBuiltins "int" = some (.type "int") := by boot_by_name
end
end Mine

end MX_part
section ML_part
namespace Mine
open PySem PySem.W PySem.Calls PySem.Spec PyProof.Rows

/-! what the text's top laid -/
structure ClsF (K : Frag) (C : Addr) : Prop where
  cd : ∃ cd, clsIn K C = some cd ∧ cd.hasDict = true
  ga : findIn K (.ref C) "__getattribute__" = some (some (.builtin "object.__getattribute__"))
  gk : findIn K (.ref C) "__getattr__" = some none
  sa : findIn K (.ref C) "__setattr__" = some (some (.builtin "object.__setattr__"))
  mks : makesIn K C = true
  po : plainOver K C = true
  kp : keepIn K (.ref C) = true
structure Lay (K : Frag) : Prop where
  cT : ClsF K 425
  cR : ClsF K 236
  cS : ClsF K 458
  n_is_beside : nsIn K mainGlobals "is_beside" = some (some (.ref 72))
  f_is_beside : IsFn K 72 "is_beside" (stmtAt 6)
  n_descendants : nsIn K mainGlobals "descendants" = some (some (.ref 79))
  f_descendants : IsFn K 79 "descendants" (stmtAt 7)
  n_ancestors : nsIn K mainGlobals "ancestors" = some (some (.ref 86))
  f_ancestors : IsFn K 86 "ancestors" (stmtAt 8)
  n_siblings_ahead : nsIn K mainGlobals "siblings_ahead" = some (some (.ref 93))
  f_siblings_ahead : IsFn K 93 "siblings_ahead" (stmtAt 9)
  n_siblings_behind : nsIn K mainGlobals "siblings_behind" = some (some (.ref 100))
  f_siblings_behind : IsFn K 100 "siblings_behind" (stmtAt 10)
  n_short_axis : nsIn K mainGlobals "short_axis" = some (some (.ref 133))
  f_short_axis : IsFn K 133 "short_axis" (stmtAt 15)
  n_axis : nsIn K mainGlobals "axis" = some (some (.ref 140))
  f_axis : IsFn K 140 "axis" (stmtAt 16)
  n_principal_kind : nsIn K mainGlobals "principal_kind" = some (some (.ref 147))
  f_principal_kind : IsFn K 147 "principal_kind" (stmtAt 18)
  n_bound_uri : nsIn K mainGlobals "bound_uri" = some (some (.ref 154))
  f_bound_uri : IsFn K 154 "bound_uri" (stmtAt 19)
  n_is_named : nsIn K mainGlobals "is_named" = some (some (.ref 161))
  f_is_named : IsFn K 161 "is_named" (stmtAt 20)
  n_passes : nsIn K mainGlobals "passes" = some (some (.ref 168))
  f_passes : IsFn K 168 "passes" (stmtAt 21)
  n_lines_marked : nsIn K mainGlobals "lines_marked" = some (some (.ref 175))
  f_lines_marked : IsFn K 175 "lines_marked" (stmtAt 23)
  n_sorted_beneath : nsIn K mainGlobals "sorted_beneath" = some (some (.ref 180))
  f_sorted_beneath : IsFn K 180 "sorted_beneath" (stmtAt 24)
  n_in_order : nsIn K mainGlobals "in_order" = some (some (.ref 185))
  f_in_order : IsFn K 185 "in_order" (stmtAt 25)
  n_holds : nsIn K mainGlobals "holds" = some (some (.ref 192))
  f_holds : IsFn K 192 "holds" (stmtAt 27)
  n_kept : nsIn K mainGlobals "kept" = some (some (.ref 199))
  f_kept : IsFn K 199 "kept" (stmtAt 28)
  n_step_from : nsIn K mainGlobals "step_from" = some (some (.ref 204))
  f_step_from : IsFn K 204 "step_from" (stmtAt 29)
  n_unlike : nsIn K mainGlobals "unlike" = some (some (.ref 211))
  f_unlike : IsFn K 211 "unlike" (stmtAt 30)
  n_after_step : nsIn K mainGlobals "after_step" = some (some (.ref 218))
  f_after_step : IsFn K 218 "after_step" (stmtAt 31)
  n_law_pool : nsIn K mainGlobals "_law_pool" = some (some (.ref 469))
  f_law_pool : IsFn K 469 "_law_pool" (stmtAt 40)
  n_law_take : nsIn K mainGlobals "_law_take" = some (some (.ref 476))
  f_law_take : IsFn K 476 "_law_take" (stmtAt 41)
  n_law_one : nsIn K mainGlobals "_law_one" = some (some (.ref 483))
  f_law_one : IsFn K 483 "_law_one" (stmtAt 42)
  n_law_told_right : nsIn K mainGlobals "_law_told_right" = some (some (.ref 488))
  f_law_told_right : IsFn K 488 "_law_told_right" (stmtAt 43)
  n_law_values_right : nsIn K mainGlobals "_law_values_right" = some (some (.ref 493))
  f_law_values_right : IsFn K 493 "_law_values_right" (stmtAt 44)
  n_law_document : nsIn K mainGlobals "_law_document" = some (some (.ref 500))
  f_law_document : IsFn K 500 "_law_document" (stmtAt 45)
  n_law_above : nsIn K mainGlobals "_law_above" = some (some (.ref 507))
  f_law_above : IsFn K 507 "_law_above" (stmtAt 46)
  n_law_along : nsIn K mainGlobals "_law_along" = some (some (.ref 512))
  f_law_along : IsFn K 512 "_law_along" (stmtAt 47)
  n_law_step_right : nsIn K mainGlobals "_law_step_right" = some (some (.ref 517))
  f_law_step_right : IsFn K 517 "_law_step_right" (stmtAt 48)
  m_new_row : findIn K (.ref 425) "new_row" = some (some (.ref 261))
  f_t_new_row : IsFn K 261 "Tree.new_row" (clsAt 35 1)
  m_row : findIn K (.ref 425) "row" = some (some (.ref 268))
  f_t_row : IsFn K 268 "Tree.row" (clsAt 35 2)
  m_new_root : findIn K (.ref 425) "new_root" = some (some (.ref 275))
  f_t_new_root : IsFn K 275 "Tree.new_root" (clsAt 35 3)
  m_add_child : findIn K (.ref 425) "add_child" = some (some (.ref 282))
  f_t_add_child : IsFn K 282 "Tree.add_child" (clsAt 35 4)
  m_add_element : findIn K (.ref 425) "add_element" = some (some (.ref 289))
  f_t_add_element : IsFn K 289 "Tree.add_element" (clsAt 35 5)
  m_add_text : findIn K (.ref 425) "add_text" = some (some (.ref 296))
  f_t_add_text : IsFn K 296 "Tree.add_text" (clsAt 35 6)
  m_kind : findIn K (.ref 425) "kind" = some (some (.ref 345))
  f_t_kind : IsFn K 345 "Tree.kind" (clsAt 35 13)
  m_name : findIn K (.ref 425) "name" = some (some (.ref 352))
  f_t_name : IsFn K 352 "Tree.name" (clsAt 35 14)
  m_uri : findIn K (.ref 425) "uri" = some (some (.ref 359))
  f_t_uri : IsFn K 359 "Tree.uri" (clsAt 35 15)
  m_local : findIn K (.ref 425) "local" = some (some (.ref 366))
  f_t_local : IsFn K 366 "Tree.local" (clsAt 35 16)
  m_value : findIn K (.ref 425) "value" = some (some (.ref 373))
  f_t_value : IsFn K 373 "Tree.value" (clsAt 35 17)
  m_parent : findIn K (.ref 425) "parent" = some (some (.ref 380))
  f_t_parent : IsFn K 380 "Tree.parent" (clsAt 35 18)
  m_children : findIn K (.ref 425) "children" = some (some (.ref 387))
  f_t_children : IsFn K 387 "Tree.children" (clsAt 35 19)
  m_attributes : findIn K (.ref 425) "attributes" = some (some (.ref 394))
  f_t_attributes : IsFn K 394 "Tree.attributes" (clsAt 35 20)
  m_namespaces : findIn K (.ref 425) "namespaces" = some (some (.ref 401))
  f_t_namespaces : IsFn K 401 "Tree.namespaces" (clsAt 35 21)
  b_len : nsIn K mainGlobals "len" = some none
  b_list : nsIn K mainGlobals "list" = some none
  b_sorted : nsIn K mainGlobals "sorted" = some none
  b_enumerate : nsIn K mainGlobals "enumerate" = some none
  b_isinstance : nsIn K mainGlobals "isinstance" = some none
  b_tuple : nsIn K mainGlobals "tuple" = some none
  b_bool : nsIn K mainGlobals "bool" = some none
  b_range : nsIn K mainGlobals "range" = some none
  b_max : nsIn K mainGlobals "max" = some none
  b_int : nsIn K mainGlobals "int" = some none
  n_Tree : nsIn K mainGlobals "Tree" = some (some (.ref 425))
  n_NodeRow : nsIn K mainGlobals "NodeRow" = some (some (.ref 236))
  n_Step : nsIn K mainGlobals "Step" = some (some (.ref 458))
  n_PARENTS : nsIn K mainGlobals "PARENTS" = some (some (.ref 219))
  v_PARENTS : ∃ t u n, K.lookup 219 = some (tup [.str "root" t, .str "element" u] n)
  t_rows : findIn K (.ref 425) "rows" = some none
  r_kind : findIn K (.ref 236) "kind" = some none
  r_name : findIn K (.ref 236) "name" = some none
  r_uri : findIn K (.ref 236) "uri" = some none
  r_local : findIn K (.ref 236) "local" = some none
  r_value : findIn K (.ref 236) "value" = some none
  r_parent : findIn K (.ref 236) "parent" = some none
  r_children : findIn K (.ref 236) "children" = some none
  r_attributes : findIn K (.ref 236) "attributes" = some none
  r_namespaces : findIn K (.ref 236) "namespaces" = some none
  s_axis : findIn K (.ref 458) "axis" = some none
  s_test : findIn K (.ref 458) "test" = some none
  s_predicates : findIn K (.ref 458) "predicates" = some none
  i_T : findIn K (.ref 425) "__init__" = some (some (.ref 254))
  f_iT : IsFn K 254 "Tree.__init__" (clsAt 35 0)
  i_R : findIn K (.ref 236) "__init__" = some (some (.ref 233))
  f_iR : IsFn K 233 "NodeRow.__init__" (clsAt 34 0)
  i_S : findIn K (.ref 458) "__init__" = some (some (.ref 448))
  f_iS : IsFn K 448 "Step.__init__" (clsAt 38 0)
end Mine

end ML_part
section MT_part
namespace Mine
open PySem PySem.W PySem.Calls PySem.Spec PyProof.Rows

/-! documents -/
structure Nd where
  par : Option Nat
  w : Str
noncomputable abbrev Doc := List Nd
noncomputable def kindOf (nd : Nd) : Str := if nd.w = "root" then "root" else if nd.w = "text" then "text" else "element"
noncomputable def wordOf (nd : Nd) : Str := if nd.w = "root" then "" else if nd.w = "text" then "" else nd.w
noncomputable def parOf (D : Doc) (i : Nat) : Option Nat := D[i]?.bind (·.par)
noncomputable def kids (D : Doc) (i : Nat) : List Nat := (List.range D.length).filter fun j => parOf D j == some i
noncomputable def NatsAre (vs : List Value) (ns : List Nat) : Prop := IntsAre vs (ns.map Int.ofNat)
noncomputable def ParV (v : Value) : Option Nat → Prop
  | none => v = .none
  | some p => ∃ t, v = .int (p : Int) t
theorem NatsAre.length {vs : List Value} {ns : List Nat} (h : NatsAre vs ns) : vs.length = ns.length := by have := IntsAre.length h; simpa using this

structure RowA where
  r : Addr
  d : Addr
  c : Addr
  a : Addr
  n : Addr
  od : Obj
  cv : List Value
  cn : Nat
  an : Nat
  nn : Nat
noncomputable def RowA.led (R : RowA) : Led := [(R.r, instObj 236 R.d), (R.d, R.od), (R.c, lst R.cv R.cn), (R.a, lst [] R.an), (R.n, lst [] R.nn)]
structure TreeA where
  t : Addr
  d : Addr
  l : Addr
  hh : Int
  tk : Tok
  dn : Nat
  ln : Nat
  rows : List RowA
noncomputable abbrev TreeA.od (T : TreeA) : Obj := dct #[⟨T.hh, .str "rows" T.tk, .ref T.l⟩] T.dn
noncomputable def TreeA.led (T : TreeA) : Led := (T.t, instObj 425 T.d) :: (T.d, T.od) :: (T.l, lst (T.rows.map fun R => .ref R.r) T.ln) :: T.rows.flatMap RowA.led
structure RowOk (D : Doc) (i : Nat) (nd : Nd) (R : RowA) : Prop where
  kind : ∃ t, lookIn "kind" R.od = some (some (.str (kindOf nd) t))
  name : ∃ t, lookIn "name" R.od = some (some (.str (wordOf nd) t))
  uri : ∃ t, lookIn "uri" R.od = some (some (.str "" t))
  local_ : ∃ t, lookIn "local" R.od = some (some (.str (wordOf nd) t))
  parent : ∃ v, lookIn "parent" R.od = some (some v) ∧ ParV v nd.par
  children : lookIn "children" R.od = some (some (.ref R.c))
  attributes : lookIn "attributes" R.od = some (some (.ref R.a))
  namespaces : lookIn "namespaces" R.od = some (some (.ref R.n))
  kids : NatsAre R.cv (kids D i)
structure TreeOk (T : TreeA) (D : Doc) : Prop where
  len : T.rows.length = D.length
  row : ∀ (i : Nat) (nd : Nd) (R : RowA), D[i]? = some nd → T.rows[i]? = some R → RowOk D i nd R
  small : D.length ≤ 64
noncomputable def Holds (l : Led) (h : Heap) : Prop := ∀ p ∈ l, h.get? p.1 = some p.2
theorem Holds.keeps {l : Led} {h h' : Heap} (x : Holds l h) (k : ∀ b o, h.get? b = some o → h'.get? b = some o) : Holds l h' := fun p hp => k _ _ (x p hp)
structure TreeIs (h : Heap) (t : Addr) (D : Doc) : Prop where
  ex : ∃ T : TreeA, T.t = t ∧ TreeOk T D ∧ Holds T.led h
theorem TreeIs.keeps {h h' : Heap} {t : Addr} {D : Doc} (x : TreeIs h t D) (k : ∀ b o, h.get? b = some o → h'.get? b = some o) : TreeIs h' t D :=
  let ⟨T, a, b, c⟩ := x.ex; ⟨T, a, b, c.keeps k⟩
theorem TreeIs.small {h : Heap} {t : Addr} {D : Doc} (x : TreeIs h t D) : D.length ≤ 64 := let ⟨_, _, b, _⟩ := x.ex; b.small

theorem TreeA.inst {T : TreeA} {h : Heap} (x : Holds T.led h) : InstAt h T.t (instObj 425 T.d) 425 (some T.od) := ⟨x (T.t, _) (List.Mem.head _), rfl, rfl, x (T.d, T.od) (List.Mem.tail _ (List.Mem.head _))⟩
theorem TreeA.list {T : TreeA} {h : Heap} (x : Holds T.led h) : h.get? T.l = some (lst (T.rows.map fun R => .ref R.r) T.ln) := x (T.l, _) (List.Mem.tail _ (List.Mem.tail _ (List.Mem.head _)))
theorem TreeA.rowLed {T : TreeA} {h : Heap} (x : Holds T.led h) {R : RowA} (hR : R ∈ T.rows) : Holds R.led h := fun p hp => x p (List.Mem.tail _ (List.Mem.tail _ (List.Mem.tail _ (List.mem_flatMap.mpr ⟨R, hR, hp⟩))))
theorem RowA.inst {R : RowA} {h : Heap} (x : Holds R.led h) : InstAt h R.r (instObj 236 R.d) 236 (some R.od) := ⟨x (R.r, _) (List.Mem.head _), rfl, rfl, x (R.d, R.od) (List.Mem.tail _ (List.Mem.head _))⟩
theorem TreeA.od_rows (T : TreeA) : lookIn "rows" T.od = some (some (.ref T.l)) := rfl

section
variable {prog : Program} {w : World} {A : Around} {E : Value → Shared → Prop} {s : Shared} {K : Frag} {T : TreeA} {D : Doc}
/-- self.rows -/
theorem rows_get (Y : Lay K) {hp : Heap} (C : Cx K hp) (hT : Holds T.led hp) {Q : Value → Shared → Prop} (h : Q (.ref T.l) { s with toks := s.toks + 1 }) (hs : s.heap = hp := by rfl) : wpAny (model prog w) A (getAttr (.ref T.t) "rows" true) Q NR s := by
  obtain ⟨cd, hcd, hdd⟩ := Y.cT.cd
  exact fld hcd hdd Y.t_rows Y.cT.ga C (TreeA.inst hT) T.od_rows rfl h hs
theorem row_spec (Y : Lay K) {hp : Heap} (C : Cx K hp) (r : Rm A 2) (ok : TreeOk T D) (hT : Holds T.led hp) {i : Nat} {R : RowA} (hR : T.rows[i]? = some R) {tk : Tok} {Q : Value → Shared → Prop}
    (ret : ∀ s', Pur s s' → Q (.ref R.r) s') (hs : s.heap = hp := by rfl) : wpAny (model prog w) A (call (.ref 268) [.ref T.t, .int i tk]) Q E s := by
  subst hs
  refine enter0 Y.f_t_row C r ["self", "node"] (fun L s₁ F => ?_)
  obtain ⟨hlt, -⟩ := List.getElem?_eq_some_iff.mp hR
  have hlen := ok.len
  have hsm := ok.small
  refine S_if (T_not (T_chain (E_int (nmL (F.tok _) rfl (cmp_le (tr_bool ?_))))))
  rw [decide_eq_true (by omega)]
  refine E_bi ((F.tok _).cx C) Y.b_len bb_len (by simp) (E_attrN (nmL (F.tok _) rfl (rows_get Y ((F.tok _).cx C) (hT.keeps F.keep) ?_))) (by decide +kernel)
  refine len_l (TreeA.list (hT.keeps F.keep)) (by rw [List.length_map]; omega) fun t s₂ p => ?_
  have F := (F.tok _).pur p
  refine cmp_lt (tr_bool ?_)
  rw [decide_eq_true (by rw [List.length_map]; omega)]
  refine S_nil (S_ret (E_sub (E_attrN (nmL F rfl (rows_get Y (F.cx C) (hT.keeps F.keep) (nmL (F.tok _) rfl ?_))))))
  refine sub_l (TreeA.list (hT.keeps F.keep)) (by omega) (by omega) (v := .ref R.r) (by rw [List.getElem?_map]; simp [hR]) ?_
  exact ret _ (F.tok _).back

theorem sh_T (T : TreeA) {n : Str} (h : (("rows" : Str) == n) = false) : shadowIn (some T.od) n = some false := by
  show (lookIn n T.od).map (·.isSome) = some false
  have e : ([⟨T.hh, .str "rows" T.tk, .ref T.l⟩] : List DictEntry).find? (fun e => e.key.isStr n) = none := by
    rw [List.find?_cons]
    show (match (("rows" : Str) == n) with | true => _ | false => _) = _
    rw [h]; rfl
  unfold lookIn
  dsimp only
  rw [e]; rfl

/-- def X(self, node): return self.row(node).X -/
theorem get_spec {f : Addr} {qual : Str} {st : Stmt} {attr : Str} (Y : Lay K) (H : IsFn K f qual st) {hp : Heap} (C : Cx K hp) (r : Rm A 4) (ok : TreeOk T D) (hT : Holds T.led hp) {i : Nat} {R : RowA} (hR : T.rows[i]? = some R) {tk : Tok} {v : Value} {Q : Value → Shared → Prop}
    (hn : findIn K (.ref 236) attr = some none) (hl : lookIn attr R.od = some (some v)) (hv : handedIn v = true)
    (ret : ∀ s', Pur s s' → Q v s')
    (p1 p2 p3 p4 p5 p6 : Pos) (hs : s.heap = hp)
    (hb : fdBody st = [.Return (some (.Attribute (.Call (.Attribute (.Name "self" p1) "row" p2) [.Name "node" p3] [] p4) attr p5)) p6])
    (hl4 : (p2.endLine == p4.line) = true)
    (h1 : ∀ nm pm, bindArgs (fnX' nm qual st pm f) ⟨[.ref T.t, .int i tk], []⟩ = pure ((["self", "node"] : List Str).zip [.ref T.t, .int i tk]) := by intros; rfl)
    (h2 : ((["self", "node"] : List Str).all fun x => decide ((fdScope st).names.lookup x = some .local)) = true := by rfl)
    (h3 : ∀ x ∈ (fdScope st).names, x.2 ≠ .cell := by decide +kernel)
    (h4 : (fdScope st).isCoroutine = false := by rfl) (h5 : (fdScope st).isGenerator = false := by rfl) (h6 : (fdScope st).kind = .function := by rfl)
    (h7 : (fdScope st).names.lookup ("self" : Str) = some NameKind.local := by rfl) (h8 : (fdScope st).names.lookup ("node" : Str) = some NameKind.local := by rfl) :
    wpAny (model prog w) A (call (.ref f) [.ref T.t, .int i tk]) Q E s := by
  subst hs
  refine enter0 H C r ["self", "node"] (fun L s₁ F => ?_) h1 (by decide +kernel) h2 h3 h4 h5 h6
  have r' := r.deeper (envF qual st L f)
  rw [hb]
  refine S_ret (E_attrT (E_meth Y.f_t_row Y.cT.ga Y.cT.gk Y.m_row (nmL F rfl ⟨T.t, _, _, rfl, F.cx C, TreeA.inst (hT.keeps F.keep), sh_T T rfl, nmL F rfl ⟨F.cx C, ?_⟩ rfl h6 h8 rfl⟩ rfl h6 h7 rfl) rfl ?_))
  · refine row_spec Y (F.cx C) (r'.mono (by omega)) ok (hT.keeps F.keep) hR fun s₂ p => ?_
    have F := F.pur p
    obtain ⟨cd, hcd, hdd⟩ := Y.cR.cd
    exact fld hcd hdd hn Y.cR.ga (F.cx C) (RowA.inst (TreeA.rowLed (hT.keeps F.keep) (List.mem_of_getElem? hR))) hl hv (ret _ (F.tok _).back)
  · show (do
      let ov ← eval (.Name "self" p1) (envF qual st L f)
      standAt p2.atName
      methodCall (.Name "self" p1) "row" p2 p4 (envF qual st L f) ov 1 _ _) = _
    unfold methodCall methodCallPos calleeOf
    have : methodCallForm 1 (backTo p4 (starEach [.Name "node" p3] (envF qual st L f))) (backToKw p4 (keywordEach [] (envF qual st L f))) = true := rfl
    rw [this]
    simp only [hl4, Bool.not_true, Bool.false_or, if_true]
    rfl
end
end Mine

end MT_part
section MU_part
namespace Mine
open PySem PySem.W PySem.Calls PySem.Spec PyProof.Rows
section
variable {prog : Program} {w : World} {A : Around} {E : Value → Shared → Prop} {s : Shared} {K : Frag} {D : Doc} {hp : Heap} {t : Addr} {i : Nat} {nd : Nd} {tk : Tok} {Q : Value → Shared → Prop}

theorem TreeIs.row {h : Heap} (x : TreeIs h t D) (hi : D[i]? = some nd) : ∃ T R, T.t = t ∧ TreeOk T D ∧ Holds T.led h ∧ T.rows[i]? = some R ∧ RowOk D i nd R := by
  obtain ⟨T, a, b, c⟩ := x.ex
  obtain ⟨hlt, -⟩ := List.getElem?_eq_some_iff.mp hi
  have hlt' : i < T.rows.length := by rw [b.len]; exact hlt
  exact ⟨T, T.rows[i], a, b, c, List.getElem?_eq_getElem hlt', b.row i nd _ hi (List.getElem?_eq_getElem hlt')⟩

theorem kind_spec (Y : Lay K) (C : Cx K hp) (r : Rm A 4) (hT : TreeIs hp t D) (hi : D[i]? = some nd) (ret : ∀ u s', Pur s s' → Q (.str (kindOf nd) u) s') (hs : s.heap = hp := by rfl) :
    wpAny (model prog w) A (call (.ref 345) [.ref t, .int i tk]) Q E s := by
  obtain ⟨T, R, rfl, ok, hh, hR, rok⟩ := hT.row hi
  obtain ⟨u, hu⟩ := rok.kind
  exact get_spec Y Y.f_t_kind C r ok hh hR Y.r_kind hu rfl (ret u) _ _ _ _ _ _ hs rfl rfl
theorem name_spec (Y : Lay K) (C : Cx K hp) (r : Rm A 4) (hT : TreeIs hp t D) (hi : D[i]? = some nd) (ret : ∀ u s', Pur s s' → Q (.str (wordOf nd) u) s') (hs : s.heap = hp := by rfl) :
    wpAny (model prog w) A (call (.ref 352) [.ref t, .int i tk]) Q E s := by
  obtain ⟨T, R, rfl, ok, hh, hR, rok⟩ := hT.row hi
  obtain ⟨u, hu⟩ := rok.name
  exact get_spec Y Y.f_t_name C r ok hh hR Y.r_name hu rfl (ret u) _ _ _ _ _ _ hs rfl rfl
theorem uri_spec (Y : Lay K) (C : Cx K hp) (r : Rm A 4) (hT : TreeIs hp t D) (hi : D[i]? = some nd) (ret : ∀ u s', Pur s s' → Q (.str "" u) s') (hs : s.heap = hp := by rfl) :
    wpAny (model prog w) A (call (.ref 359) [.ref t, .int i tk]) Q E s := by
  obtain ⟨T, R, rfl, ok, hh, hR, rok⟩ := hT.row hi
  obtain ⟨u, hu⟩ := rok.uri
  exact get_spec Y Y.f_t_uri C r ok hh hR Y.r_uri hu rfl (ret u) _ _ _ _ _ _ hs rfl rfl
theorem local_spec (Y : Lay K) (C : Cx K hp) (r : Rm A 4) (hT : TreeIs hp t D) (hi : D[i]? = some nd) (ret : ∀ u s', Pur s s' → Q (.str (wordOf nd) u) s') (hs : s.heap = hp := by rfl) :
    wpAny (model prog w) A (call (.ref 366) [.ref t, .int i tk]) Q E s := by
  obtain ⟨T, R, rfl, ok, hh, hR, rok⟩ := hT.row hi
  obtain ⟨u, hu⟩ := rok.local_
  exact get_spec Y Y.f_t_local C r ok hh hR Y.r_local hu rfl (ret u) _ _ _ _ _ _ hs rfl rfl
theorem ParV.handed {v : Value} {p : Option Nat} (h : ParV v p) : handedIn v = true := by
  cases p with
  | none => cases h; rfl
  | some p => obtain ⟨t, rfl⟩ := h; rfl
theorem parent_spec (Y : Lay K) (C : Cx K hp) (r : Rm A 4) (hT : TreeIs hp t D) (hi : D[i]? = some nd) (ret : ∀ v s', Pur s s' → ParV v nd.par → Q v s') (hs : s.heap = hp := by rfl) :
    wpAny (model prog w) A (call (.ref 380) [.ref t, .int i tk]) Q E s := by
  obtain ⟨T, R, rfl, ok, hh, hR, rok⟩ := hT.row hi
  obtain ⟨v, hu, hv⟩ := rok.parent
  exact get_spec Y Y.f_t_parent C r ok hh hR Y.r_parent hu hv.handed (fun s' p => ret v s' p hv) _ _ _ _ _ _ hs rfl rfl

theorem fresh_back {h h' : Heap} {a : Addr} (k : ∀ b o, h.get? b = some o → h'.get? b = some o) (hn : h'.get? a = none) : h.get? a = none := by
  cases q : h.get? a with
  | none => rfl
  | some o => have := k _ _ q; rw [hn] at this; cases this
/-- a list that is new -/
noncomputable def NewL (s s' : Shared) (v : Value) (xs : List Value) : Prop := ∃ a n, v = .ref a ∧ s.heap.get? a = none ∧ s'.heap.get? a = some (lst xs n)

/-- def X(self, node): return list(self.row(node).X) -/
theorem lists_spec {T : TreeA} {f : Addr} {qual : Str} {st : Stmt} {attr : Str} (Y : Lay K) (H : IsFn K f qual st) (C : Cx K hp) (r : Rm A 4) (ok : TreeOk T D) (hT : Holds T.led hp) {R : RowA} (hR : T.rows[i]? = some R) {l : Addr} {xs : List Value} {n : Nat}
    (hn : findIn K (.ref 236) attr = some none) (hl : lookIn attr R.od = some (some (.ref l))) (hv : (l, lst xs n) ∈ R.led) (hx : xs.length ≤ 64)
    (ret : ∀ v s', Pur s s' → NewL s s' v xs → Q v s')
    (p0 p1 p2 p3 p4 p5 p6 p7 : Pos) (hs : s.heap = hp)
    (hb : fdBody st = [.Return (some (.Call (.Name "list" p0) [.Attribute (.Call (.Attribute (.Name "self" p1) "row" p2) [.Name "node" p3] [] p4) attr p5] [] p7)) p6])
    (hl4 : (p2.endLine == p4.line) = true)
    (h1 : ∀ nm pm, bindArgs (fnX' nm qual st pm f) ⟨[.ref T.t, .int i tk], []⟩ = pure ((["self", "node"] : List Str).zip [.ref T.t, .int i tk]) := by intros; rfl)
    (h2 : ((["self", "node"] : List Str).all fun x => decide ((fdScope st).names.lookup x = some .local)) = true := by rfl)
    (h3 : ∀ x ∈ (fdScope st).names, x.2 ≠ .cell := by decide +kernel)
    (h4 : (fdScope st).isCoroutine = false := by rfl) (h5 : (fdScope st).isGenerator = false := by rfl) (h6 : (fdScope st).kind = .function := by rfl)
    (h7 : (fdScope st).names.lookup ("self" : Str) = some NameKind.local := by rfl) (h8 : (fdScope st).names.lookup ("node" : Str) = some NameKind.local := by rfl)
    (h9 : (envF qual st 0 f).kindOf "list" = some NameKind.globalImplicit := by rfl) :
    wpAny (model prog w) A (call (.ref f) [.ref T.t, .int i tk]) Q E s := by
  subst hs
  refine enter0 H C r ["self", "node"] (fun L s₁ F => ?_) h1 (by decide +kernel) h2 h3 h4 h5 h6
  have r' := r.deeper (envF qual st L f)
  rw [hb]
  refine S_ret (E_bi (F.cx C) Y.b_list bb_list (by simp) (E_attrT (E_meth Y.f_t_row Y.cT.ga Y.cT.gk Y.m_row (nmL F rfl ⟨T.t, _, _, rfl, F.cx C, TreeA.inst (hT.keeps F.keep), sh_T T rfl, nmL F rfl ⟨F.cx C, ?_⟩ rfl h6 h8 rfl⟩ rfl h6 h7 rfl) rfl ?_)) (by decide +kernel) rfl rfl rfl rfl h6 h9 rfl)
  · refine row_spec Y (F.cx C) (r'.mono (by omega)) ok (hT.keeps F.keep) hR fun s₂ p => ?_
    have F := F.pur p
    obtain ⟨cd, hcd, hdd⟩ := Y.cR.cd
    refine fld hcd hdd hn Y.cR.ga (F.cx C) (RowA.inst (TreeA.rowLed (hT.keeps F.keep) (List.mem_of_getElem? hR))) hl rfl ?_
    refine list_l (n := n) (TreeA.rowLed (hT.keeps F.keep) (List.mem_of_getElem? hR) (l, lst xs n) hv) (by omega) fun a n' s₃ p hn ha => ?_
    have F' := (F.tok _).pur p
    exact ret _ _ F'.back ⟨a, n', rfl, fresh_back F.keep hn, ha⟩
  · show (do
      let ov ← eval (.Name "self" p1) (envF qual st L f)
      standAt p2.atName
      methodCall (.Name "self" p1) "row" p2 p4 (envF qual st L f) ov 1 _ _) = _
    unfold methodCall methodCallPos calleeOf
    have : methodCallForm 1 (backTo p4 (starEach [.Name "node" p3] (envF qual st L f))) (backToKw p4 (keywordEach [] (envF qual st L f))) = true := rfl
    rw [this]
    simp only [hl4, Bool.not_true, Bool.false_or, if_true]
    rfl
theorem children_spec (Y : Lay K) (C : Cx K hp) (r : Rm A 4) (hT : TreeIs hp t D) (hi : D[i]? = some nd) (ret : ∀ v s' vs, Pur s s' → NatsAre vs (kids D i) → NewL s s' v vs → Q v s') (hs : s.heap = hp := by rfl) :
    wpAny (model prog w) A (call (.ref 387) [.ref t, .int i tk]) Q E s := by
  obtain ⟨T, R, rfl, ok, hh, hR, rok⟩ := hT.row hi
  have hlen : R.cv.length ≤ 64 := by
    rw [rok.kids.length]
    have h1 : (kids D i).length ≤ (List.range D.length).length := List.length_filter_le _ _
    rw [List.length_range] at h1
    have := ok.small
    omega
  exact lists_spec Y Y.f_t_children C r ok hh hR Y.r_children rok.children (.tail _ (.tail _ (.head _))) hlen (fun v s' p n => ret v s' _ p rok.kids n) _ _ _ _ _ _ _ _ hs rfl rfl
theorem attributes_spec (Y : Lay K) (C : Cx K hp) (r : Rm A 4) (hT : TreeIs hp t D) (hi : D[i]? = some nd) (ret : ∀ v s', Pur s s' → NewL s s' v [] → Q v s') (hs : s.heap = hp := by rfl) :
    wpAny (model prog w) A (call (.ref 394) [.ref t, .int i tk]) Q E s := by
  obtain ⟨T, R, rfl, ok, hh, hR, rok⟩ := hT.row hi
  exact lists_spec Y Y.f_t_attributes C r ok hh hR Y.r_attributes rok.attributes (.tail _ (.tail _ (.tail _ (.head _)))) (by decide) ret _ _ _ _ _ _ _ _ hs rfl rfl
theorem namespaces_spec (Y : Lay K) (C : Cx K hp) (r : Rm A 4) (hT : TreeIs hp t D) (hi : D[i]? = some nd) (ret : ∀ v s', Pur s s' → NewL s s' v [] → Q v s') (hs : s.heap = hp := by rfl) :
    wpAny (model prog w) A (call (.ref 401) [.ref t, .int i tk]) Q E s := by
  obtain ⟨T, R, rfl, ok, hh, hR, rok⟩ := hT.row hi
  exact lists_spec Y Y.f_t_namespaces C r ok hh hR Y.r_namespaces rok.namespaces (.tail _ (.tail _ (.tail _ (.tail _ (.head _))))) (by decide) ret _ _ _ _ _ _ _ _ hs rfl rfl
end
end Mine

end MU_part
section MY_part
namespace Mine
open PySem PySem.W PySem.Calls PySem.Spec PyProof.Rows

section
variable {h₀ : Heap} {L : Addr} {m : Str → Option Value} {own : Led} {G : Array GenState} {O : OsState} {s : Shared}
/-- a thing of the ledger changed, the rest kept -/
theorem Fm.chg {a : Addr} {o o' : Obj} {h' : Heap} {t : Nat} (F : Fm h₀ L m own G O s) (i : Nat) (hi : own[i]? = some (a, o)) (hk : ∀ b x, b ≠ a → s.heap.get? b = some x → h'.get? b = some x) (ho : h'.get? a = some o') :
    Fm h₀ L m (own.set i (a, o')) G O { s with heap := h', toks := t } := by
  have hm := List.mem_of_getElem? hi
  have ha := F.nw _ hm
  have hL : L ≠ a := fun e => ha.2.1 e.symm
  obtain ⟨hlt, hget⟩ := List.getElem?_eq_some_iff.mp hi
  have hmap : (own.set i (a, o')).map (·.1) = own.map (·.1) := by
    rw [List.map_set]
    show (own.map (·.1)).set i a = own.map (·.1)
    apply List.ext_getElem?
    intro j
    rw [List.getElem?_set]
    split
    · rename_i e; subst e
      rw [List.length_map, if_pos hlt, List.getElem?_map, hi]; rfl
    · rfl
  refine ⟨⟨?_, fun b x e => ?_, F.fr.above⟩, fun q hq => ?_, by rw [hmap]; exact F.nd, F.gens, F.os⟩
  · obtain ⟨oL, es, ep, x, r⟩ := F.fr.ns
    exact ⟨oL, es, ep, hk _ _ hL x, r⟩
  · refine hk b x (fun e' => ?_) (F.fr.keep b x e)
    rw [e', ha.2.2] at e; cases e
  · rcases List.getElem_of_mem hq with ⟨j, hj, e⟩
    rw [List.length_set] at hj
    rw [List.getElem_set] at e
    split at e
    · rw [← e]; exact ⟨ho, ha.2⟩
    · rename_i hne
      have hq' : q ∈ own := e ▸ List.getElem_mem _
      have hqa : q.1 ≠ a := fun e2 => by
        have pw := List.pairwise_iff_getElem.mp F.nd
        have li : i < (own.map (·.1)).length := by rw [List.length_map]; exact hlt
        have lj : j < (own.map (·.1)).length := by rw [List.length_map]; exact hj
        have h1 : (own.map (·.1))[i] = a := by rw [List.getElem_map, hget]
        have h2 : (own.map (·.1))[j] = a := by rw [List.getElem_map, e, e2]
        rcases Nat.lt_trichotomy i j with hij | hij | hij
        · exact pw i j li lj hij (h1.trans h2.symm)
        · exact hne hij
        · exact pw j i lj li hij (h2.trans h1.symm)
      exact ⟨hk _ _ hqa (F.nw q hq').1, (F.nw q hq').2⟩
/-- all but one thing kept: that one leaves the ledger -/
theorem Fm.lose {a : Addr} {o : Obj} {h' : Heap} {t : Nat} (F : Fm h₀ L m (own ++ [(a, o)]) G O s) (hk : ∀ b x, b ≠ a → s.heap.get? b = some x → h'.get? b = some x) :
    Fm h₀ L m own G O { s with heap := h', toks := t } := by
  have ha := F.nw (a, o) (by simp)
  have nd := F.nd
  rw [List.map_append, List.nodup_append] at nd
  refine ⟨⟨?_, fun b x e => hk b x (fun e' => ?_) (F.fr.keep b x e), F.fr.above⟩, fun q hq => ?_, nd.1, F.gens, F.os⟩
  · obtain ⟨oL, es, ep, x, r⟩ := F.fr.ns
    exact ⟨oL, es, ep, hk _ _ (fun e => ha.2.1 e.symm) x, r⟩
  · rw [e', ha.2.2] at e; cases e
  · have hq' := F.nw q (List.mem_append_left _ hq)
    refine ⟨hk _ _ (fun e => ?_) hq'.1, hq'.2⟩
    exact nd.2.2 q.1 (List.mem_map_of_mem hq) a (by simp) e
end

section
variable {prog : Program} {w : World} {A : Around} {s : Shared} {env : Env} {K : Frag} {h₀ : Heap} {L : Addr} {m : Str → Option Value} {own : Led} {G : Array GenState} {O : OsState}
/-! methods of lists -/
theorem typeL {l : Addr} {xs : List Value} {n : Nat} (e : s.heap.get? l = some (lst xs n)) : s.TypeIs (.ref l) "list" := ⟨_, e, rfl⟩
theorem noD {l : Addr} {xs : List Value} {n : Nat} (e : s.heap.get? l = some (lst xs n)) : ∀ a, Value.ref l = .ref a → ∃ o, s.heap.get? a = some o ∧ o.dict = none := fun a q => by cases q; exact ⟨_, e, rfl⟩
theorem l_append {a : Addr} {xs : List Value} {n : Nat} {v : Value} {Q : Value → Shared → Prop} (F : Fm h₀ L m own G O s) (i : Nat) (hi : own[i]? = some (a, lst xs n)) (hsz : xs.length ≤ 1000)
    (h : ∀ n' s', Fm h₀ L m (own.set i (a, lst (xs ++ [v]) n')) G O s' → Q .none s') : wpAny (model prog w) A (call (.builtin "list.append") [.ref a, v]) Q NR s := by
  refine append_at (F.at i hi) (fun h' hs ho => h (n + 1) _ ?_) (by rw [List.size_toArray, sizeLine_eq]; omega)
  refine F.chg (t := s.toks) i hi hs.extBut ?_
  rw [ho]; simp [lst]
theorem l_pop {a : Addr} {xs : List Value} {n : Nat} {y : Value} {Q : Value → Shared → Prop} (F : Fm h₀ L m own G O s) (i : Nat) (hi : own[i]? = some (a, lst (xs ++ [y]) n)) (hsz : xs.length ≤ 1000)
    (h : ∀ n' s', Fm h₀ L m (own.set i (a, lst xs n')) G O s' → Q y s') : wpAny (model prog w) A (call (.builtin "list.pop") [.ref a]) Q NR s := by
  have ho := F.at i hi
  refine call_meets PySem.F.slot_list_pop (typeL ho) PySem.F.entry_list_pop (PySem.F.args_list_pop_1 _) (PySem.MeetsSeq.list_pop_last a (xs ++ [y]).toArray n y (by simp) (by rw [List.size_toArray, sizeLine_eq, List.length_append, List.length_singleton]; omega)) ⟨ho, h (n + 1) _ ?_⟩
  refine F.chg i hi (Heap.SameBut.update ..).extBut ?_
  rw [Heap.get?_update_self _ ho (by rfl)]
  simp [Obj.mapSeq, List.eraseIdx_append_of_length_le]
theorem l_extend {a b : Addr} {xs ys : List Value} {n k : Nat} {Q : Value → Shared → Prop} (F : Fm h₀ L m own G O s) (i : Nat) (hi : own[i]? = some (a, lst xs n)) (hb : s.heap.get? b = some (lst ys k)) (hsz : xs.length ≤ 1000) (hsy : ys.length ≤ 1000)
    (h : ∀ n' s', Fm h₀ L m (own.set i (a, lst (xs ++ ys) n')) G O s' → Q .none s') : wpAny (model prog w) A (call (.builtin "list.extend") [.ref a, .ref b]) Q NR s := by
  have ho := F.at i hi
  refine call_meets PySem.F.slot_list_extend (typeL ho) PySem.F.entry_list_extend (PySem.F.args_list_extend_2 _ _) (AutoSeq1.list_extend_list_list_0 a xs.toArray n b ys.toArray k (by simp [Builtin.List.listTooLong, sizeLine_eq]; omega) (by rw [List.size_toArray, sizeLine_eq]; omega) (by rw [List.size_toArray, List.size_toArray, sizeLine_eq]; omega)) ⟨ho, hb, ?_⟩
  have e : ((lst xs n).mapSeq fun x => x ++ ys.toArray) = lst (xs ++ ys) (if (xs ++ ys).length == xs.length then n else n + 1) := by simp [Obj.mapSeq, lst]
  refine h (if (xs ++ ys).length == xs.length then n else n + 1) _ (F.chg i hi (Heap.SameBut.update ..).extBut ?_)
  rw [← e]
  exact Heap.get?_update_self _ ho (by rw [e]; rfl)

/-! slices -/
noncomputable def wpO (M : Model) (A : Around) (e : Option Expr) (env : Env) (Q : Value → Shared → Prop) (s : Shared) : Prop := wpAny M A (evalPart e env) Q NR s
theorem O_none {Q : Value → Shared → Prop} (h : Q .none s) : wpO (model prog w) A none env Q s := by
  show wpAny _ _ (evalPart none env) _ _ _
  rw [evalPart_none]; exact wpAny_pure h
theorem O_some {e : Expr} {Q : Value → Shared → Prop} (h : wpE (model prog w) A e env Q s) : wpO (model prog w) A (some e) env Q s := by
  show wpAny _ _ (evalPart (some e) env) _ _ _
  rw [evalPart_some]; exact h
theorem E_slice {value : Expr} {lo up st : Option Expr} {p pos : Pos} {Q : Value → Shared → Prop}
    (h : wpE (model prog w) A value env (fun o s₁ => wpO (model prog w) A lo env (fun l s₂ => wpO (model prog w) A up env (fun u s₃ => wpO (model prog w) A st env (fun k s₄ =>
      ∃ a xs n lo' up' st' ys, o = .ref a ∧ s₄.heap.get? a = some (lst xs n) ∧ IsPart l lo' ∧ IsPart u up' ∧ IsPart k st' ∧ st' ≠ some 0 ∧ xs.length ≤ 1000 ∧ slicePick xs.toArray lo' up' st' = List.toArray ys ∧
        ∀ b s', Pur s₄ s' → s₄.heap.get? b = none → s'.heap.get? b = some (lst ys 0) → Q (.ref b) s') s₃) s₂) s₁) s)
    (hs : ∀ (o i : Value), subscripted (.Slice lo up st p) false o i = operate (match st with | none => [i, o] | some _ => [o, i]) (getItem o i) := by intros; rfl) :
    wpE (model prog w) A (.Subscript value (.Slice lo up st p) pos) env Q s := by
  refine E_sub (wpAny_mono h (fun o s₁ h₁ => wpAny_Slice (wpAny_mono h₁ (fun l s₂ h₂ => wpAny_mono h₂ (fun u s₃ h₃ => wpAny_mono h₃ (fun k s₄ h₄ => ?_) fun _ _ x => x) fun _ _ x => x) fun _ _ x => x)) fun _ _ x => x)
  obtain ⟨a, xs, n, lo', up', st', ys, rfl, ha, il, iu, ik, h0, hsz, hp, hq⟩ := h₄
  have ha' := Heap.get?_push_of_some { cls := .type "slice", data := .fields #[l, u, k] } ha
  refine tail_any (isL ha').typeIs slot_list_getitem.lookup (wpAny_getItem_list_slice (isL ha') (Heap.IsSliceOf.new ..) il iu ik h0 ?_ (by rw [List.size_toArray, sizeLine_eq]; omega)) (hs _ _)
  rw [hp]
  refine hq _ _ ⟨fun b o e => Heap.get?_push_of_some _ (Heap.get?_push_of_some _ e), rfl, rfl⟩ ?_ (Heap.get?_push_size _ rfl)
  exact fresh_back (fun b o e => Heap.get?_push_of_some _ e) (fresh_size _)
theorem E_rev {value : Expr} {st : Expr} {p pos : Pos} {Q : Value → Shared → Prop}
    (h : wpE (model prog w) A value env (fun o s₁ => wpE (model prog w) A st env (fun k s₂ => ∃ a xs n t, o = .ref a ∧ k = .int (-1) t ∧ s₂.heap.get? a = some (lst xs n) ∧ xs.length ≤ 1000 ∧
        ∀ b s', Pur s₂ s' → s₂.heap.get? b = none → s'.heap.get? b = some (lst xs.reverse 0) → Q (.ref b) s') s₁) s) :
    wpE (model prog w) A (.Subscript value (.Slice none none (some st) p) pos) env Q s :=
  E_slice (wpAny_mono h (fun o s₁ h₁ => O_none (O_none (O_some (wpAny_mono h₁ (fun k s₂ h₂ => by
    obtain ⟨a, xs, n, t, rfl, rfl, ha, hsz, hq⟩ := h₂
    exact ⟨a, xs, n, none, none, some (-1), xs.reverse, rfl, ha, .none, .none, .int _ _, by decide, hsz, by rw [krv_pick], hq⟩) fun _ _ x => x)))) fun _ _ x => x)

/-! while -/
theorem S_while {N : Shared → Prop} {R : Value → Shared → Prop} {rest body : List Stmt} {test : Expr} {pos : Pos} (I : Nat → Shared → Prop) (n : Nat) (h0 : I n s)
    (turn : ∀ n s, I n s → wpT (model prog w) A test env (fun b s' => match b with
      | true => wpS (model prog w) A body env (fun s'' => ∃ k, k < n ∧ I k s'') R s'
      | false => wpS (model prog w) A rest env N R s') s) : wpS (model prog w) A (.While test body [] pos :: rest) env N R s := by
  refine S_cons (wpAny_While (codeAny_whileLoop I (fun n s hI => ?_) n h0))
  refine wpAny_mono (turn n s hI) (fun b s' h => ?_) fun _ _ x => x.elim
  cases b with
  | true =>
    simp only [if_true]
    refine wpAny_mono h (fun f s'' x => ?_) fun _ _ x => x.elim
    cases f <;> first | exact x | exact x.elim
  | false => simp only [Bool.false_eq_true, if_false]; exact wpAny_execs_nil h

/-! for -/
theorem forCode {R' : Result → Shared → Prop} {x : Str} {px : Pos} {body : List Stmt} {I : Addr} {oI : Obj} {fp : List Addr} {cnt : Nat} {P : Nat → Value → Prop} {St : Nat → Heap → Prop}
    {R : Value → Shared → Prop} (W : Walks prog w A I fp [I] cnt P St) (Inv : Nat → (Str → Option Value) → Led → Prop)
    (F : Fm h₀ L m (own ++ [(I, oI)]) G O s) (hst : St 0 s.heap) (hfp : ∀ b ∈ fp, b = I ∨ ∃ o, h₀.get? b = some o) (hlive : ∀ i h, St i h → ∃ o, h.get? I = some o) (h0 : Inv 0 m own)
    (turn : ∀ i v m own o s, i < cnt → P i v → Inv i m own → Fm h₀ L (put m x v) (own ++ [(I, o)]) G O s →
      wpS (model prog w) A body env (fun s' => ∃ m' own', Inv (i + 1) m' own' ∧ Fm h₀ L m' (own' ++ [(I, o)]) G O s') R s)
    (fin : ∀ m own s, Inv cnt m own → Fm h₀ L m own G O s → R' (.ok .next) s) (hR : ∀ v s, R v s → R' (.ok (.ret v)) s)
    (hL : env.locals = L) (hk : env.scope.kind = .function) (hl : env.kindOf x = some .local) :
    codeAny (model prog w) A (.forLoop (.Name x px) (.ref I) body [] env) R' s := by
  refine codeAny_forLoop (fun k s' => ∃ i m own o, Fm h₀ L m (own ++ [(I, o)]) G O s' ∧ St i s'.heap ∧ Inv i m own ∧ i ≤ cnt ∧ k = cnt + 1 - i) ?_ (cnt + 1)
    ⟨0, m, own, oI, F, hst, h0, Nat.zero_le _, rfl⟩
  rintro k s' ⟨i, m', own', o, F', hst', hI, hi, rfl⟩
  by_cases hlt : i < cnt
  · refine W.item i _ _ _ hlt hst' fun v h₁ tk₁ hP hst₁ hk₁ => ?_
    obtain ⟨o₁, ho₁⟩ := hlive _ _ hst₁
    have F₁ := F'.chg (a := I) (o := o) (h' := h₁) (t := tk₁) own'.length (by simp) (fun b y hb e => hk₁ b y (by simpa using hb) e) ho₁
    rw [show (own' ++ [(I, o)]).set own'.length (I, o₁) = own' ++ [(I, o₁)] by simp] at F₁
    refine wpAny_assign_Name (wpAny_mono (stL (E := NR) (Q := fun _ s₂ => wpAny (model prog w) A (execs body env) (fun f s₃ => match f with
          | .next | .cont => ∃ m, m < cnt + 1 - i ∧ ∃ i m' own o, Fm h₀ L m' (own ++ [(I, o)]) G O s₃ ∧ St i s₃.heap ∧ Inv i m' own ∧ i ≤ cnt ∧ m = cnt + 1 - i
          | .brk => R' (.ok .next) s₃
          | .ret v => R' (.ok (.ret v)) s₃) NR s₂) F₁ (fun s₂ F₂ => ?_) hL hk hl) (fun _ _ y => wpAny_mono y (fun _ _ z => z) fun _ _ z => z.elim) fun _ _ z => z.elim)
    refine wpAny_mono (turn i v m' own' o₁ s₂ hlt hP hI F₂) (fun f s₃ y => ?_) fun _ _ y => y
    cases f with
    | next =>
      obtain ⟨m₃, own₃, hI₃, F₃⟩ := y
      refine ⟨cnt + 1 - (i + 1), by omega, i + 1, m₃, own₃, o₁, F₃, ?_, hI₃, hlt, rfl⟩
      refine W.frame _ _ _ hst₁ fun b hb y e => ?_
      rcases hfp b hb with rfl | ⟨o₂, ho₂⟩
      · rw [ho₁] at e; cases e
        exact F₃.mem (by simp)
      · have := F₁.keep b o₂ ho₂
        have e' : h₁.get? b = some y := e
        rw [show ({ s' with heap := h₁, toks := tk₁ } : Shared).heap = h₁ from rfl, e'] at this; cases this
        exact F₃.keep b _ ho₂
    | ret v => exact hR _ _ y
    | brk => exact y.elim
    | cont => exact y.elim
  · have : i = cnt := by omega
    subst this
    refine W.done _ _ _ hst' fun h₁ tk₁ hk₁ => wpAny_execs_nil (fin m' own' _ hI (F'.lose fun b y hb e => hk₁ b y (by simpa using hb) e))
theorem S_for_ {N : Shared → Prop} {R : Value → Shared → Prop} {rest body : List Stmt} {iter : Expr} {x : Str} {px pos : Pos}
    (h : wpE (model prog w) A iter env (fun xv s₁ => wpAny (model prog w) A (pyIter xv) (fun it s₂ => ∃ (I : Addr) (oI : Obj) (fp : List Addr) (cnt : Nat) (P : Nat → Value → Prop) (St : Nat → Heap → Prop) (Inv : Nat → (Str → Option Value) → Led → Prop) (m : Str → Option Value) (own : Led), it = .ref I ∧ Walks prog w A I fp [I] cnt P St ∧
      Fm h₀ L m (own ++ [(I, oI)]) G O s₂ ∧ St 0 s₂.heap ∧ (∀ b ∈ fp, b = I ∨ ∃ o, h₀.get? b = some o) ∧ (∀ i h, St i h → ∃ o, h.get? I = some o) ∧ Inv 0 m own ∧
      (∀ i v m own o s, i < cnt → P i v → Inv i m own → Fm h₀ L (put m x v) (own ++ [(I, o)]) G O s →
        wpS (model prog w) A body env (fun s' => ∃ m' own', Inv (i + 1) m' own' ∧ Fm h₀ L m' (own' ++ [(I, o)]) G O s') R s) ∧
      (∀ m own s, Inv cnt m own → Fm h₀ L m own G O s → wpS (model prog w) A rest env N R s)) NR s₁) s)
    (hL : env.locals = L := by rfl) (hk : env.scope.kind = .function := by rfl) (hl : env.kindOf x = some .local := by rfl)
    (hs : ∀ x, foldedSetIterable iter env x = pure x := by intro _; rfl) : wpS (model prog w) A (.For (.Name x px) iter body [] pos :: rest) env N R s := by
  refine S_cons (wpAny_For (wpAny_mono h (fun xv s₁ h₁ => wpAny_mono h₁ (fun it s₂ h₂ => ?_) fun _ _ x => x) fun _ _ x => x) hs)
  obtain ⟨I, oI, fp, cnt, P, St, Inv, m, own, rfl, W, F, hst, hfp, hlive, h0, turn, fin⟩ := h₂
  exact forCode W Inv F hst hfp hlive h0 turn fin (fun _ _ x => x) hL hk hl

/-- for x in a list that stood when the def was entered -/
theorem S_for_list {N : Shared → Prop} {R : Value → Shared → Prop} {rest body : List Stmt} {iter : Expr} {x : Str} {px pos : Pos} {l : Addr} {xs : List Value} {n : Nat} (hh : A.handled = none) (Inv : Nat → (Str → Option Value) → Led → Prop)
    (hl0 : h₀.get? l = some (lst xs n))
    (h : wpE (model prog w) A iter env (fun xv s₁ => xv = .ref l ∧ ∃ m own, Fm h₀ L m own G O s₁ ∧ Inv 0 m own) s)
    (turn : ∀ i v m own o I s, xs[i]? = some v → Inv i m own → Fm h₀ L (put m x v) (own ++ [(I, o)]) G O s →
        wpS (model prog w) A body env (fun s' => ∃ m' own', Inv (i + 1) m' own' ∧ Fm h₀ L m' (own' ++ [(I, o)]) G O s') R s)
    (fin : ∀ m own s, Inv xs.length m own → Fm h₀ L m own G O s → wpS (model prog w) A rest env N R s)
    (hL : env.locals = L := by rfl) (hk : env.scope.kind = .function := by rfl) (hl : env.kindOf x = some .local := by rfl)
    (hs : ∀ x, foldedSetIterable iter env x = pure x := by intro _; rfl) : wpS (model prog w) A (.For (.Name x px) iter body [] pos :: rest) env N R s := by
  refine S_for_ (h₀ := h₀) (L := L) (G := G) (O := O) (wpAny_mono h (fun xv s₁ h₁ => ?_) fun _ _ x => x) hL hk hl hs
  obtain ⟨rfl, m, own, F, h0⟩ := h₁
  have hls := F.keep _ _ hl0
  refine wpAny_pyIter_list (isL hls) ?_
  have hne : l ≠ s₁.heap.objs.size := Nat.ne_of_lt (Heap.lt_size hls)
  have W := Walks.list (prog := prog) (w := w) hh s₁.heap.objs.size l hne xs.toArray
  rw [List.size_toArray] at W
  refine ⟨_, _, _, xs.length, _, _, Inv, m, own, rfl, W, (F.alloc rfl).perm (by simpa using List.perm_append_comm (l₁ := [_]) (l₂ := own)), ⟨⟨_, Heap.get?_push_size _ rfl, rfl, rfl⟩, isL (Heap.get?_push_of_some _ hls)⟩, ?_, ?_, h0, ?_, fin⟩
  · intro b hb
    rcases List.mem_cons.mp hb with rfl | hb
    · exact .inl rfl
    · rw [List.mem_singleton.mp hb]; exact .inr ⟨_, hl0⟩
  · rintro i h ⟨⟨o, ho, _⟩, _⟩; exact ⟨o, ho⟩
  · intro i v m own o s hi hP hI F
    exact turn i v m own o _ s (by simpa using hP) hI F
end
end Mine

end MY_part
section MA_part
namespace Mine
open PySem PySem.W PySem.Calls PySem.Spec PyProof.Rows
section
variable {prog : Program} {w : World} {A : Around} {E : Value → Shared → Prop} {s : Shared} {env : Env} {K : Frag} {D : Doc} {hp : Heap} {t : Addr} {i : Nat} {nd : Nd} {tk : Tok} {Q : Value → Shared → Prop}

theorem TreeIs.inst {h : Heap} (x : TreeIs h t D) : ∃ ox od, InstAt h t ox 425 (some od) ∧ ∀ n : Str, (("rows" : Str) == n) = false → shadowIn (some od) n = some false := by
  obtain ⟨T, rfl, _, hh⟩ := x.ex
  exact ⟨_, _, TreeA.inst hh, fun n hn => sh_T T hn⟩
/-- tree.NAME(..) -/
theorem E_tm {f : Addr} {qual : Str} {st : Stmt} {x name : Str} {np apos pos : Pos} {es : List Expr} (Y : Lay K) (H : IsFn K f qual st) (hm : findIn K (.ref 425) name = some (some (.ref f))) (C : Cx K hp) (hT : TreeIs hp t D)
    (hv : ∀ Q' : Value → Shared → Prop, Q' (.ref t) s → wpE (model prog w) A (.Name x np) env Q' s)
    (h : wpL (model prog w) A env es (fun vs s' => Cx K s'.heap ∧ wpAny (model prog w) A (call (.ref f) (.ref t :: vs)) Q NR s') s) (hs : s.heap = hp := by rfl) (hne : (("rows" : Str) == name) = false := by rfl)
    (hst : noStar es = true := by rfl)
    (he : eval (.Call (.Attribute (.Name x np) name apos) es [] pos) env = (do
      let ov ← eval (.Name x np) env
      standAt apos.atName
      let (f, first) ← holding [ov] (getMethod ov name (do return (← importBound (.Name x np) env).getD true))
      callWith pos f first (backTo pos (starEach es env)) []) := by rfl) :
    wpE (model prog w) A (.Call (.Attribute (.Name x np) name apos) es [] pos) env Q s := by
  subst hs
  obtain ⟨ox, od, I, sh⟩ := hT.inst
  exact E_meth H Y.cT.ga Y.cT.gk hm (hv _ ⟨t, ox, _, rfl, C, I, sh _ hne, h⟩) hst he

theorem strs2 {a b : Str} {t u : Tok} : StrsAre [.str a t, .str b u] [a, b] := .cons _ _ (.cons _ _ .nil)
theorem isT {h : Heap} {a : Addr} {xs : List Value} {n : Nat} (e : h.get? a = some (tup xs n)) : IsTup h a xs.toArray := ⟨_, e, rfl, n, rfl⟩
theorem in_tup2 {x a b : Str} {u t1 t2 : Tok} {l : Addr} {n : Nat} (e : s.heap.get? l = some (tup [.str a t1, .str b t2] n)) (h : Q (.bool (a == x || (b == x))) s) : wpAny (model prog w) A (compareOp .In (.str x u) (.ref l)) Q NR s := by
  refine in_tuple_strs (isT e) strs2 ?_
  simpa [List.any] using h

theorem kindOf_ne {nd : Nd} : (("attribute" : Str) == kindOf nd || ("namespace" : Str) == kindOf nd) = false := by
  unfold kindOf
  split
  · decide +kernel
  · split <;> decide +kernel

theorem is_beside_spec (Y : Lay K) (C : Cx K hp) (r : Rm A 6) (hT : TreeIs hp t D) (hi : D[i]? = some nd) (ret : ∀ s', Pur s s' → Q (.bool false) s') (hs : s.heap = hp := by rfl) :
    wpAny (model prog w) A (call (.ref 72) [.ref t, .int i tk]) Q E s := by
  subst hs
  refine enter0 Y.f_is_beside C r ["tree", "node"] (fun L s₁ F => ?_)
  have r' := r.deeper (envF "is_beside" (stmtAt 6) L 72)
  refine S_ret (E_cmp (E_tm Y Y.f_t_kind Y.m_kind (F.cx C) (hT.keeps F.keep) (fun _ q => nmL F rfl q) (nmL F rfl ⟨F.cx C, ?_⟩)))
  refine kind_spec Y (F.cx C) (r'.mono (by omega)) (hT.keeps F.keep) hi fun u s₂ p => ?_
  have F := F.pur p
  refine E_tup (E_str (E_str (newT ((F.tok _).tok _) (fun a s₃ F => ?_))))
  refine in_tup2 (F.at 0 rfl) ?_
  rw [kindOf_ne]
  exact ret _ F.back
end
end Mine

end MA_part
section MP_part
namespace Mine
open PySem PySem.W PySem.Calls PySem.Spec PyProof.Rows

/-! plain law: documents numbered in preorder -/
theorem parOf_of {D : Doc} {i : Nat} {nd : Nd} (hi : D[i]? = some nd) : parOf D i = nd.par := by unfold parOf; rw [hi]; rfl
theorem mem_kids {D : Doc} {i p : Nat} : i ∈ kids D p ↔ i < D.length ∧ parOf D i = some p := by
  unfold kids; rw [List.mem_filter, List.mem_range, beq_iff_eq]
theorem kids_len {D : Doc} {p : Nat} : (kids D p).length ≤ D.length := by
  have h1 : (kids D p).length ≤ (List.range D.length).length := List.length_filter_le _ _
  rwa [List.length_range] at h1
noncomputable def Wf (D : Doc) : Prop := ∀ i p, parOf D i = some p → p < i
noncomputable def abv (D : Doc) : Nat → Nat → List Nat
  | 0, _ => []
  | f + 1, i => match parOf D i with
    | none => []
    | some p => p :: abv D f p
noncomputable def above (D : Doc) (i : Nat) : List Nat := abv D i i
theorem abv_stable {D : Doc} (wf : Wf D) : ∀ f g i, i ≤ f → i ≤ g → abv D f i = abv D g i := by
  intro f
  induction f with
  | zero =>
    intro g i hf hg
    have : i = 0 := by omega
    subst this
    cases g with
    | zero => rfl
    | succ g =>
      show [] = (match parOf D 0 with | none => [] | some p => p :: abv D g p)
      cases h : parOf D 0 with
      | none => rfl
      | some p => exact absurd (wf 0 p h) (Nat.not_lt_zero _)
  | succ f ih =>
    intro g i hf hg
    show (match parOf D i with | none => [] | some p => p :: abv D f p) = _
    cases g with
    | zero =>
      have : i = 0 := by omega
      subst this
      cases h : parOf D 0 with
      | none => rfl
      | some p => exact absurd (wf 0 p h) (Nat.not_lt_zero _)
    | succ g =>
      show _ = (match parOf D i with | none => [] | some p => p :: abv D g p)
      cases h : parOf D i with
      | none => rfl
      | some p => have := wf i p h; show p :: _ = p :: _; rw [ih g p (by omega) (by omega)]
theorem above_none {D : Doc} {i : Nat} (h : parOf D i = none) : above D i = [] := by
  unfold above
  cases i with
  | zero => rfl
  | succ i => show (match parOf D (i + 1) with | none => [] | some p => p :: abv D i p) = []; rw [h]
theorem above_some {D : Doc} (wf : Wf D) {i p : Nat} (h : parOf D i = some p) : above D i = p :: above D p := by
  have := wf i p h
  unfold above
  cases i with
  | zero => omega
  | succ i => show (match parOf D (i + 1) with | none => [] | some p => p :: abv D i p) = _; rw [h]; show p :: _ = p :: _; rw [abv_stable wf i p p (by omega) (Nat.le_refl _)]
theorem above_lt {D : Doc} (wf : Wf D) : ∀ i x, x ∈ above D i → x < i := by
  intro i
  induction i using Nat.strongRecOn with
  | _ i ih =>
    intro x hx
    cases h : parOf D i with
    | none => rw [above_none h] at hx; cases hx
    | some p =>
      have := wf i p h
      rw [above_some wf h] at hx
      rcases List.mem_cons.mp hx with rfl | hx
      · exact this
      · have := ih p this x hx; omega

/-- preorder: the next node hangs on the last one or on a node above it -/
structure Pre (D : Doc) : Prop where
  wf : Wf D
  root : parOf D 0 = none
  next : ∀ i, i + 1 < D.length → ∃ p, parOf D (i + 1) = some p ∧ (p = i ∨ p ∈ above D i)
  out : ∀ i, D.length ≤ i → parOf D i = none
  pos : 0 < D.length
noncomputable def under (D : Doc) (i j : Nat) : Bool := j == i || (above D j).contains i
noncomputable def sub (D : Doc) (i : Nat) : List Nat := (List.range D.length).filter (under D i)
noncomputable def desc (D : Doc) (i : Nat) : List Nat := (kids D i).flatMap (sub D)
theorem under_iff {D : Doc} {i j : Nat} : under D i j = true ↔ j = i ∨ i ∈ above D j := by
  unfold under; rw [Bool.or_eq_true, beq_iff_eq, List.contains_iff_mem]
theorem mem_sub {D : Doc} {i j : Nat} : j ∈ sub D i ↔ j < D.length ∧ (j = i ∨ i ∈ above D j) := by
  unfold sub; rw [List.mem_filter, List.mem_range, under_iff]
theorem sub_len {D : Doc} {i : Nat} : (sub D i).length ≤ D.length := by
  have h1 : (sub D i).length ≤ (List.range D.length).length := List.length_filter_le _ _
  rwa [List.length_range] at h1
theorem under_par {D : Doc} (wf : Wf D) {i j p : Nat} (h : parOf D j = some p) (hne : j ≠ i) : (j = i ∨ i ∈ above D j) ↔ (p = i ∨ i ∈ above D p) := by
  rw [above_some wf h, List.mem_cons]
  constructor
  · rintro (rfl | rfl | h)
    · exact absurd rfl hne
    · exact .inl rfl
    · exact .inr h
  · rintro (rfl | h)
    · exact .inr (.inl rfl)
    · exact .inr (.inr h)
theorem trans_above {D : Doc} (wf : Wf D) : ∀ j a b, b ∈ above D j → a ∈ above D b → a ∈ above D j := by
  intro j
  induction j using Nat.strongRecOn with
  | _ j ih =>
    intro a b hb ha
    cases h : parOf D j with
    | none => rw [above_none h] at hb; cases hb
    | some p =>
      rw [above_some wf h] at hb ⊢
      rcases List.mem_cons.mp hb with rfl | hb
      · exact List.mem_cons_of_mem _ ha
      · exact List.mem_cons_of_mem _ (ih p (wf j p h) a b hb ha)
/-- what was left is not met again -/
theorem gone {D : Doc} (P : Pre D) {a : Nat} : ∀ k b, a < b → b + k < D.length → ¬ (b = a ∨ a ∈ above D b) → ¬ (b + k = a ∨ a ∈ above D (b + k)) := by
  intro k
  induction k with
  | zero => intro b _ _ h; exact h
  | succ k ih =>
    intro b hab hlt h hh
    have h1 := ih b hab (by omega) h
    obtain ⟨p, hp, hpi⟩ := P.next (b + k) (by omega)
    have hh' := (under_par P.wf hp (by omega)).mp hh
    rcases hpi with rfl | hpi
    · exact h1 hh'
    · rcases hh' with rfl | h2
      · exact h1 (.inr hpi)
      · exact h1 (.inr (trans_above P.wf _ _ _ hpi h2))
theorem kids_apart {D : Doc} (P : Pre D) {i a b x : Nat} (ha : a ∈ kids D i) (hb : b ∈ kids D i) (hab : a < b) (hx : x ∈ sub D a) : x < b := by
  rw [mem_kids] at ha hb
  rw [mem_sub] at hx
  refine Nat.lt_of_not_le fun hle => ?_
  obtain ⟨k, rfl⟩ := Nat.exists_eq_add_of_le hle
  refine gone P k b hab hx.1 ?_ hx.2
  rintro (rfl | h)
  · exact Nat.lt_irrefl _ hab
  · rw [above_some P.wf hb.2] at h
    have hia := P.wf a i ha.2
    rcases List.mem_cons.mp h with rfl | h
    · exact Nat.lt_irrefl _ hia
    · have := above_lt P.wf i a h; omega
theorem range_pw (n : Nat) : (List.range n).Pairwise (· < ·) := List.pairwise_lt_range
theorem filter_pw {n : Nat} {p : Nat → Bool} : ((List.range n).filter p).Pairwise (· < ·) := (range_pw n).sublist List.filter_sublist
theorem eq_of_pw : ∀ {xs ys : List Nat}, xs.Pairwise (· < ·) → ys.Pairwise (· < ·) → (∀ x, x ∈ xs ↔ x ∈ ys) → xs = ys
  | [], [], _, _, _ => rfl
  | [], y :: ys, _, _, h => absurd ((h y).mpr (.head _)) (by simp)
  | x :: xs, [], _, _, h => absurd ((h x).mp (.head _)) (by simp)
  | x :: xs, y :: ys, hx, hy, h => by
    rw [List.pairwise_cons] at hx hy
    have e : x = y := by
      have h1 := (h x).mp (.head _)
      have h2 := (h y).mpr (.head _)
      rcases List.mem_cons.mp h1 with e | h1
      · exact e
      · rcases List.mem_cons.mp h2 with e | h2
        · exact e.symm
        · have := hx.1 y h2; have := hy.1 x h1; omega
    subst e
    rw [eq_of_pw hx.2 hy.2 fun z => ?_]
    have hz := h z
    rw [List.mem_cons, List.mem_cons] at hz
    constructor
    · intro q
      rcases hz.mp (.inr q) with rfl | q'
      · exact absurd (hx.1 z q) (Nat.lt_irrefl _)
      · exact q'
    · intro q
      rcases hz.mpr (.inr q) with rfl | q'
      · exact absurd (hy.1 z q) (Nat.lt_irrefl _)
      · exact q'
theorem flat_pw {f : Nat → List Nat} (hf : ∀ a, (f a).Pairwise (· < ·)) (hlo : ∀ a x, x ∈ f a → a ≤ x) :
    ∀ (l : List Nat), l.Pairwise (· < ·) → (∀ a b x, a ∈ l → b ∈ l → a < b → x ∈ f a → x < b) → (l.flatMap f).Pairwise (· < ·)
  | [], _, _ => List.Pairwise.nil
  | a :: l, hl, ha => by
    rw [List.pairwise_cons] at hl
    rw [List.flatMap_cons, List.pairwise_append]
    refine ⟨hf a, flat_pw hf hlo l hl.2 fun a b x h1 h2 => ha a b x (.tail _ h1) (.tail _ h2), fun x hx y hy => ?_⟩
    obtain ⟨b, hb, hyb⟩ := List.mem_flatMap.mp hy
    have h1 := ha a b x (.head _) (.tail _ hb) (hl.1 b hb) hx
    have h2 := hlo b y hyb
    omega
theorem sub_lo {D : Doc} (wf : Wf D) {a x : Nat} (h : x ∈ sub D a) : a ≤ x := by
  rw [mem_sub] at h
  rcases h.2 with rfl | h
  · exact Nat.le_refl _
  · exact Nat.le_of_lt (above_lt wf _ _ h)
theorem desc_pw {D : Doc} (P : Pre D) {i : Nat} : (desc D i).Pairwise (· < ·) :=
  flat_pw (fun _ => filter_pw) (fun _ _ h => sub_lo P.wf h) _ filter_pw fun _ _ _ ha hb hab hx => kids_apart P ha hb hab hx
theorem mem_desc {D : Doc} (P : Pre D) {i : Nat} : ∀ x, x ∈ desc D i ↔ x < D.length ∧ i ∈ above D x := by
  intro x
  induction x using Nat.strongRecOn with
  | _ x ih =>
    unfold desc at ih ⊢
    rw [List.mem_flatMap]
    constructor
    · rintro ⟨k, hk, hx⟩
      rw [mem_kids] at hk
      rw [mem_sub] at hx
      refine ⟨hx.1, ?_⟩
      rcases hx.2 with rfl | h
      · rw [above_some P.wf hk.2]; exact .head _
      · exact trans_above P.wf _ _ _ h (by rw [above_some P.wf hk.2]; exact .head _)
    · rintro ⟨hlt, h⟩
      cases hp : parOf D x with
      | none => rw [above_none hp] at h; cases h
      | some p =>
        have hpx := P.wf x p hp
        rw [above_some P.wf hp] at h
        rcases List.mem_cons.mp h with rfl | h
        · exact ⟨x, mem_kids.mpr ⟨hlt, hp⟩, mem_sub.mpr ⟨hlt, .inl rfl⟩⟩
        · obtain ⟨k, hk, hpk⟩ := List.mem_flatMap.mp ((ih p hpx).mpr ⟨by omega, h⟩)
          refine ⟨k, hk, mem_sub.mpr ⟨hlt, .inr ?_⟩⟩
          rw [above_some P.wf hp, List.mem_cons]
          rcases (mem_sub.mp hpk).2 with rfl | h2
          · exact .inl rfl
          · exact .inr h2
theorem sub_eq {D : Doc} (P : Pre D) {i : Nat} (hi : i < D.length) : sub D i = i :: desc D i := by
  refine eq_of_pw filter_pw (List.pairwise_cons.mpr ⟨fun x hx => above_lt P.wf _ _ ((mem_desc P x).mp hx).2, desc_pw P⟩) fun x => ?_
  rw [List.mem_cons, mem_desc P]
  constructor
  · intro h
    rw [mem_sub] at h
    rcases h.2 with rfl | h2
    · exact .inl rfl
    · exact .inr ⟨h.1, h2⟩
  · rintro (rfl | h)
    · exact mem_sub.mpr ⟨hi, .inl rfl⟩
    · exact mem_sub.mpr ⟨h.1, .inr h.2⟩
theorem desc_filter {D : Doc} (P : Pre D) {i : Nat} : desc D i = (List.range D.length).filter (fun j => (above D j).contains i) :=
  eq_of_pw (desc_pw P) filter_pw fun x => by rw [mem_desc P, List.mem_filter, List.mem_range, List.contains_iff_mem]
theorem desc_len {D : Doc} (P : Pre D) {i : Nat} : (desc D i).length ≤ D.length := by
  rw [desc_filter P]
  have h1 := List.length_filter_le (fun j => (above D j).contains i) (List.range D.length)
  rwa [List.length_range] at h1
theorem above_len {D : Doc} (wf : Wf D) : ∀ i, (above D i).length ≤ i := by
  intro i
  induction i using Nat.strongRecOn with
  | _ i ih =>
    cases h : parOf D i with
    | none => rw [above_none h]; exact Nat.zero_le _
    | some p =>
      have := wf i p h
      rw [above_some wf h, List.length_cons]
      have := ih p this
      omega
theorem par_lt {D : Doc} (P : Pre D) {i p : Nat} (h : parOf D i = some p) : i < D.length ∧ p < D.length := by
  have h1 : i < D.length := Nat.lt_of_not_le fun hle => by rw [P.out i hle] at h; cases h
  have := P.wf i p h
  exact ⟨h1, by omega⟩
end Mine

end MP_part
section MN_part
namespace Mine
open PySem PySem.W PySem.Calls PySem.Spec PyProof.Rows

/-! lists of node numbers -/
theorem NatsAre.nil : NatsAre [] [] := IntsAre.nil
theorem NatsAre.cons {n : Nat} {t : Tok} {vs : List Value} {ns : List Nat} (h : NatsAre vs ns) : NatsAre (.int (n : Int) t :: vs) (n :: ns) := IntsAre.cons _ _ h
theorem NatsAre.append {vs ws : List Value} {ns ms : List Nat} (h : NatsAre vs ns) (k : NatsAre ws ms) : NatsAre (vs ++ ws) (ns ++ ms) := by
  unfold NatsAre; rw [List.map_append]; exact IntsAre.append h k
theorem NatsAre.snoc {vs : List Value} {ns : List Nat} {n : Nat} {t : Tok} (h : NatsAre vs ns) : NatsAre (vs ++ [.int (n : Int) t]) (ns ++ [n]) := h.append (NatsAre.cons .nil)
theorem NatsAre.reverse {vs : List Value} {ns : List Nat} (h : NatsAre vs ns) : NatsAre vs.reverse ns.reverse := by
  unfold NatsAre; rw [List.map_reverse]; exact PyProof.Rows.IntsAre.reverse h
theorem NatsAre.take {vs : List Value} {ns : List Nat} (h : NatsAre vs ns) (k : Nat) : NatsAre (vs.take k) (ns.take k) := by
  unfold NatsAre; rw [List.map_take]; exact IntsAre.take h k
theorem NatsAre.drop {vs : List Value} {ns : List Nat} (h : NatsAre vs ns) (k : Nat) : NatsAre (vs.drop k) (ns.drop k) := by
  unfold NatsAre; rw [List.map_drop]; exact IntsAre.drop h k
theorem NatsAre.at {vs : List Value} {ns : List Nat} (h : NatsAre vs ns) {i : Nat} {v : Value} (e : vs[i]? = some v) : ∃ (n : Nat) (t : Tok), v = .int (n : Int) t ∧ ns[i]? = some n := by
  obtain ⟨n, t, rfl, e2⟩ := IntsAre.at h i v e
  rw [List.getElem?_map] at e2
  obtain ⟨k, hk, rfl⟩ := Option.map_eq_some_iff.mp e2
  exact ⟨k, t, rfl, hk⟩
theorem NatsAre.get {vs : List Value} {ns : List Nat} (h : NatsAre vs ns) {i : Nat} {n : Nat} (e : ns[i]? = some n) : ∃ t, vs[i]? = some (.int (n : Int) t) :=
  IntsAre.get h i n (by rw [List.getElem?_map, e]; rfl)
theorem NatsAre.snoc_inv {vs : List Value} {ns : List Nat} {n : Nat} (h : NatsAre vs (ns ++ [n])) : ∃ vs' t, vs = vs' ++ [.int (n : Int) t] ∧ NatsAre vs' ns := by
  obtain ⟨t, ht⟩ := h.get (i := ns.length) (n := n) (by simp)
  have hl := h.length
  rw [List.length_append, List.length_singleton] at hl
  have h1 : NatsAre (vs.take ns.length) ns := by have := h.take ns.length; rwa [List.take_left'] at this; rfl
  refine ⟨vs.take ns.length, t, ?_, h1⟩
  have : vs.drop ns.length = [.int (n : Int) t] := by
    rw [List.getElem?_eq_some_iff] at ht
    obtain ⟨hlt, hget⟩ := ht
    rw [List.drop_eq_getElem_cons hlt, hget, List.drop_of_length_le (by omega)]
  rw [← this, List.take_append_drop]
theorem NatsAre.cons_inv {vs : List Value} {ns : List Nat} {n : Nat} (h : NatsAre vs (n :: ns)) : ∃ t vs', vs = .int (n : Int) t :: vs' ∧ NatsAre vs' ns := IntsAre.cons_inv h
theorem NatsAre.nil_inv {vs : List Value} (h : NatsAre vs []) : vs = [] := IntsAre.nil_inv h

/-- a new list of node numbers -/
noncomputable def NewN (s s' : Shared) (v : Value) (ns : List Nat) : Prop := ∃ a xs n, v = .ref a ∧ s.heap.get? a = none ∧ s'.heap.get? a = some (lst xs n) ∧ NatsAre xs ns

section
variable {prog : Program} {w : World} {A : Around} {E : Value → Shared → Prop} {s : Shared} {env : Env} {K : Frag} {D : Doc} {hp : Heap} {t : Addr} {i : Nat} {nd : Nd} {tk : Tok} {Q : Value → Shared → Prop}
theorem E_neg {i : Int} {k : Nat} {p q : Pos} (h : Q (.int (-i) (s.toks + 1)) { s with toks := s.toks + 1 + 1 }) : wpE (model prog w) A (.UnaryOp .USub (.Constant (.int i) k p) q) env Q s :=
  wpAny_UnaryOp (E_int (PyProof.Rows.neg_int h))
theorem l_index {l : Addr} {vs : List Value} {ns : List Nat} {n k : Nat} {t : Tok} {Q : Value → Shared → Prop} (hl : s.heap.get? l = some (lst vs n)) (hi : NatsAre vs ns) (hb : ns.length ≤ 1000) (hk : k ∈ ns)
    (h : ∀ u s', Pur s s' → Q (.int (ns.idxOf k : Nat) u) s') : wpAny (model prog w) A (call (.builtin "list.index") [.ref l, .int (k : Int) t]) Q NR s := by
  have hlen := hi.length
  have hj : ns.idxOf k < ns.length := List.idxOf_lt_length_iff.mpr hk
  have e : (ns.map Int.ofNat).idxOf (k : Int) = ns.idxOf k := by
    clear hi hb hk h hlen hj
    induction ns with
    | nil => rfl
    | cons a r ih =>
      rw [List.map_cons, List.idxOf_cons, List.idxOf_cons, ih]
      have : (Int.ofNat a == (k : Int)) = (a == k) := by
        cases q : a == k with
        | true => rw [beq_iff_eq] at q; subst q; simp
        | false => rw [beq_eq_false_iff_ne] at q ⊢; intro e; exact q (Int.ofNat.inj e)
      rw [this]
  have hj' : (ns.map Int.ofNat).idxOf (k : Int) < (ns.map Int.ofNat).length := by rw [e, List.length_map]; exact hj
  have hi' : IntsAre vs (ns.map Int.ofNat) := hi
  refine call_meets PySem.F.slot_list_index ⟨_, hl, rfl⟩ PySem.F.entry_list_index (PySem.F.args_list_index_2 _ _)
    (PySem.SeqAt.list_indexAt l vs.toArray n none #[] (.int k t) (isInt k) (ns.idxOf k) (by rw [List.size_toArray]; omega) (by omega) ?_ ?_) ⟨hl, fun y hy => (eq_isInt k t hi' y (by simpa using hy)).at _ _, h _ _ ((Pur.rfl' s).tok _)⟩
  · have := isInt_at (k : Int) hi' (ns.idxOf k) (by omega) (by rw [List.length_map]; exact hj)
    show isInt k vs[ns.idxOf k] = true
    rw [this]
    have h2 := List.getElem_idxOf hj'
    simp only [e] at h2
    rw [h2]; simp
  · intro j hjs hlt
    show isInt k vs[j] = false
    rw [isInt_at (k : Int) hi' j (by simpa using hjs) (by rw [List.length_map]; omega)]
    exact ne_of_lt_idxOf (by rw [e]; exact hlt) _

theorem fresh_of {h₀ : Heap} {L : Addr} {m : Str → Option Value} {own : Led} {G : Array GenState} {O : OsState} (F : Fm h₀ L m own G O s) {a : Addr} (hn : s.heap.get? a = none) : h₀.get? a = none := fresh_back F.keep hn
end

noncomputable def ahead (D : Doc) (i : Nat) : List Nat := match parOf D i with
  | none => []
  | some p => ((kids D p).take ((kids D p).idxOf i)).reverse
noncomputable def behind (D : Doc) (i : Nat) : List Nat := match parOf D i with
  | none => []
  | some p => (kids D p).drop ((kids D p).idxOf i + 1)
section
variable {prog : Program} {w : World} {A : Around} {E : Value → Shared → Prop} {s : Shared} {K : Frag} {D : Doc} {hp : Heap} {t : Addr} {i : Nat} {nd : Nd} {tk : Tok} {Q : Value → Shared → Prop}
theorem siblings_ahead_spec (Y : Lay K) (C : Cx K hp) (r : Rm A 8) (hT : TreeIs hp t D) (wf : Wf D) (hi : D[i]? = some nd) (ret : ∀ v s', Pur s s' → NewN s s' v (ahead D i) → Q v s') (hs : s.heap = hp := by rfl) :
    wpAny (model prog w) A (call (.ref 93) [.ref t, .int i tk]) Q E s := by
  subst hs
  refine enter0 Y.f_siblings_ahead C r ["tree", "node"] (fun L s₁ F => ?_)
  have r' := r.deeper (envF "siblings_ahead" (stmtAt 9) L 93)
  have hsm := hT.small
  refine S_asg (E_tm Y Y.f_t_parent Y.m_parent (F.cx C) (hT.keeps F.keep) (fun _ q => nmL F rfl q) (nmL F rfl ⟨F.cx C, ?_⟩))
  refine parent_spec Y (F.cx C) (r'.mono (by omega)) (hT.keeps F.keep) hi fun v s₂ p hv => ?_
  have F := F.pur p
  refine stL F (fun s₃ F => ?_)
  refine S_if (T_bool (or_cons (T_cmp (nmL F put_same (E_none (cmp_is (tr_bool ?_)))))))
  rw [show ahead D i = (match nd.par with | none => [] | some p => ((kids D p).take ((kids D p).idxOf i)).reverse) by unfold ahead; rw [parOf_of hi]] at ret
  cases hpar : nd.par with
  | none =>
    rw [hpar] at hv ret
    cases hv
    refine S_ret (E_list (newL F (fun a s₄ F => ?_)))
    exact ret _ _ F.back ⟨a, [], 0, rfl, F.new 0 rfl, F.at 0 rfl, NatsAre.nil⟩
  | some q =>
    rw [hpar] at hv ret
    obtain ⟨tq, rfl⟩ := hv
    have hq := wf i q ((parOf_of hi).trans hpar)
    obtain ⟨hlt, -⟩ := List.getElem?_eq_some_iff.mp hi
    have hqD : D[q]? = some D[q] := List.getElem?_eq_getElem (by omega)
    refine or_cons (T_val (E_fn Y.f_is_beside (F.cx C) Y.n_is_beside (nmL F (put_ne rfl) (nmL F (put_ne rfl) ⟨F.cx C, ?_⟩))))
    refine is_beside_spec Y (F.cx C) (r'.mono (by omega)) (hT.keeps F.keep) hi fun s₄ p => ?_
    have F := F.pur p
    refine tr_bool (or_nil (S_nil ?_))
    refine S_asg (E_bi (F.cx C) Y.b_list bb_list (by simp) (E_tm Y Y.f_t_children Y.m_children (F.cx C) (hT.keeps F.keep) (fun _ q => nmL F (put_ne rfl) q) (nmL F put_same ⟨F.cx C, ?_⟩)) (by decide +kernel))
    refine children_spec Y (F.cx C) (r'.mono (by omega)) (hT.keeps F.keep) hqD fun v s₅ vs p hvs hn => ?_
    obtain ⟨a, n, rfl, hn, ha⟩ := hn
    have F := F.add p hn ha
    have hl : vs.length ≤ 64 := by have := hvs.length; have := kids_len (D := D) (p := q); omega
    refine list_l (F.at 0 rfl) (by omega) fun b n' s₆ p hn ha => ?_
    have F := F.add p hn ha
    refine stL F (fun s₇ F => ?_)
    refine S_ret (E_rev (E_slice (nmL F put_same (O_none (O_some (E_methB PySem.F.plainAttrs_list PySem.F.slot_list_index PySem.F.type_list_index (nmL F put_same ⟨typeL (F.at 0 rfl), noD (F.at 0 rfl), nmL F (put_ne (put_ne rfl)) ?_⟩)))))))
    refine l_index (F.at 0 rfl) hvs (by have := kids_len (D := D) (p := q); omega) (mem_kids.mpr ⟨hlt, (parOf_of hi).trans hpar⟩) fun u s₈ p => ?_
    have F := F.pur p
    refine O_none ⟨b, vs, _, none, some ((kids D q).idxOf i : Nat), none, vs.take ((kids D q).idxOf i), rfl, F.at 0 rfl, .none, .int _ _, .none, by decide, by omega, ?_, fun c s₉ p hn hc => ?_⟩
    · rw [slicePick_upto]
      rw [List.size_toArray, hvs.length]
      exact List.idxOf_le_length
    have F := F.add p hn hc
    refine E_neg ⟨c, vs.take ((kids D q).idxOf i), 0, _, rfl, rfl, F.at 0 rfl, Nat.le_trans (List.length_take_le' _ _) (by omega), fun e s₁₀ p hn he => ?_⟩
    have F := F.tok s₁₀.toks
    exact ret _ _ ((F.back.tok _).trans p) ⟨e, _, 0, rfl, fresh_of (F.tok _) hn, he, (hvs.take _).reverse⟩
theorem siblings_behind_spec (Y : Lay K) (C : Cx K hp) (r : Rm A 8) (hT : TreeIs hp t D) (wf : Wf D) (hi : D[i]? = some nd) (ret : ∀ v s', Pur s s' → NewN s s' v (behind D i) → Q v s') (hs : s.heap = hp := by rfl) :
    wpAny (model prog w) A (call (.ref 100) [.ref t, .int i tk]) Q E s := by
  subst hs
  refine enter0 Y.f_siblings_behind C r ["tree", "node"] (fun L s₁ F => ?_)
  have r' := r.deeper (envF "siblings_behind" (stmtAt 10) L 100)
  have hsm := hT.small
  refine S_asg (E_tm Y Y.f_t_parent Y.m_parent (F.cx C) (hT.keeps F.keep) (fun _ q => nmL F rfl q) (nmL F rfl ⟨F.cx C, ?_⟩))
  refine parent_spec Y (F.cx C) (r'.mono (by omega)) (hT.keeps F.keep) hi fun v s₂ p hv => ?_
  have F := F.pur p
  refine stL F (fun s₃ F => ?_)
  refine S_if (T_bool (or_cons (T_cmp (nmL F put_same (E_none (cmp_is (tr_bool ?_)))))))
  rw [show behind D i = (match nd.par with | none => [] | some p => (kids D p).drop ((kids D p).idxOf i + 1)) by unfold behind; rw [parOf_of hi]] at ret
  cases hpar : nd.par with
  | none =>
    rw [hpar] at hv ret
    cases hv
    refine S_ret (E_list (newL F (fun a s₄ F => ?_)))
    exact ret _ _ F.back ⟨a, [], 0, rfl, F.new 0 rfl, F.at 0 rfl, NatsAre.nil⟩
  | some q =>
    rw [hpar] at hv ret
    obtain ⟨tq, rfl⟩ := hv
    have hq := wf i q ((parOf_of hi).trans hpar)
    obtain ⟨hlt, -⟩ := List.getElem?_eq_some_iff.mp hi
    have hqD : D[q]? = some D[q] := List.getElem?_eq_getElem (by omega)
    refine or_cons (T_val (E_fn Y.f_is_beside (F.cx C) Y.n_is_beside (nmL F (put_ne rfl) (nmL F (put_ne rfl) ⟨F.cx C, ?_⟩))))
    refine is_beside_spec Y (F.cx C) (r'.mono (by omega)) (hT.keeps F.keep) hi fun s₄ p => ?_
    have F := F.pur p
    refine tr_bool (or_nil (S_nil ?_))
    refine S_asg (E_bi (F.cx C) Y.b_list bb_list (by simp) (E_tm Y Y.f_t_children Y.m_children (F.cx C) (hT.keeps F.keep) (fun _ q => nmL F (put_ne rfl) q) (nmL F put_same ⟨F.cx C, ?_⟩)) (by decide +kernel))
    refine children_spec Y (F.cx C) (r'.mono (by omega)) (hT.keeps F.keep) hqD fun v s₅ vs p hvs hn => ?_
    obtain ⟨a, n, rfl, hn, ha⟩ := hn
    have F := F.add p hn ha
    have hl : vs.length ≤ 64 := by have := hvs.length; have := kids_len (D := D) (p := q); omega
    refine list_l (F.at 0 rfl) (by omega) fun b n' s₆ p hn ha => ?_
    have F := F.add p hn ha
    refine stL F (fun s₇ F => ?_)
    refine S_ret (E_slice (nmL F put_same (O_some (E_bin (E_methB PySem.F.plainAttrs_list PySem.F.slot_list_index PySem.F.type_list_index (nmL F put_same ⟨typeL (F.at 0 rfl), noD (F.at 0 rfl), nmL F (put_ne (put_ne rfl)) ?_⟩))))))
    refine l_index (F.at 0 rfl) hvs (by have := kids_len (D := D) (p := q); omega) (mem_kids.mpr ⟨hlt, (parOf_of hi).trans hpar⟩) fun u s₈ p => ?_
    have F := F.pur p
    refine E_int (PyProof.Rows.add_int ?_)
    refine O_none (O_none ⟨b, vs, _, some ((((kids D q).idxOf i + 1 : Nat) : Int)), none, none, vs.drop ((kids D q).idxOf i + 1), rfl, ((F.tok _).tok _).at 0 rfl, by have := IsPart.int (((kids D q).idxOf i : Nat) + 1 : Int); exact .int _ _, .none, .none, by decide, by omega, ?_, fun c s₉ p hn hc => ?_⟩)
    · rw [slicePick_from']
    have F := (F.tok s₉.toks)
    exact ret _ _ (((F.back.tok _).tok _).trans p) ⟨c, _, 0, rfl, fresh_of (F.tok _) hn, hc, hvs.drop _⟩
end
end Mine

end MN_part
section MD_part
namespace Mine
open PySem PySem.W PySem.Calls PySem.Spec PyProof.Rows

section
variable {prog : Program} {w : World} {A : Around} {s : Shared} {env : Env} {K : Frag} {h₀ : Heap} {L : Addr} {m : Str → Option Value} {own : Led} {G : Array GenState} {O : OsState} {N : Shared → Prop} {R : Value → Shared → Prop} {rest : List Stmt}
/-! several stores at once -/
noncomputable def puts (m : Str → Option Value) : List (Str × Value) → Str → Option Value
  | [] => m
  | p :: r => puts (put m p.1 p.2) r
theorem stores {Q : Unit → Shared → Prop} (hL : env.locals = L) (hk : env.scope.kind = .function) : ∀ {ns : List Str} {vs : List Value} {m : Str → Option Value} {s : Shared}, (ns.all fun x => decide (env.kindOf x = some .local)) = true →
    Fm h₀ L m own G O s → ns.length = vs.length → (∀ s', Fm h₀ L (puts m (ns.zip vs)) own G O s' → Q () s') → wpAny (model prog w) A (assignInOrder (ns.map fun n => bindName env n) vs) Q NR s
  | [], [], m, s, _, F, _, h => assignInOrder_nil (h _ F)
  | x :: ns, v :: vs, m, s, hl, F, hn, h => by
    rw [List.all_cons, Bool.and_eq_true] at hl
    exact assignInOrder_cons (wpAny_bindName (stL F (fun s' F' => stores hL hk hl.2 F' (by simpa using hn) h) hL hk (of_decide_eq_true hl.1)))
  | [], _ :: _, _, _, _, _, hn, _ => by cases hn
  | _ :: _, [], _, _, _, _, hn, _ => by cases hn
theorem S_asgT {elts : List Expr} {k : Nat} {tp pos : Pos} {value : Expr} {m₀ : Str → Option Value} {own₀ : Led} {s₀ : Shared} (names : List Str) (_F : Fm h₀ L m₀ own₀ G O s₀) (hh : A.handled = none)
    (h : wpE (model prog w) A value env (fun v s₁ => ∃ a vs n m own, v = .ref a ∧ Fm h₀ L m own G O s₁ ∧ s₁.heap.get? a = some (tup vs n) ∧ names.length = vs.length ∧ ∀ s₂, Fm h₀ L (puts m (names.reverse.zip vs.reverse)) own G O s₂ → wpS (model prog w) A rest env N R s₂) s)
    (hw : swappedStores [.Tuple elts k tp] value env = pure (some names) := by rfl)
    (hl : (names.reverse.all fun x => decide (env.kindOf x = some .local)) = true := by rfl) (hL : env.locals = L := by rfl) (hk : env.scope.kind = .function := by rfl)
    (hs : swapsWithSole [.Tuple elts k tp] value pos.line env = pure false := by rfl) : wpS (model prog w) A (.Assign [.Tuple elts k tp] value pos :: rest) env N R s := by
  refine S_cons (Assign_Tuple_swapped (wpAny_mono h (fun v s₁ h₁ => ?_) fun _ _ x => x) hs hw)
  obtain ⟨a, vs, n, m, own, rfl, F, ha, hn, q⟩ := h₁
  have := unpackItems_tuple (prog := prog) (w := w) (E := NR) (Q := fun items s₂ =>
      wpAny (model prog w) A (assignInOrder (names.reverse.map fun n => bindName env n) items.reverse) (fun _ s₃ => wpS (model prog w) A rest env N R s₃) NR s₂) hh (isT ha) fun h' he => ?_
  · rw [List.size_toArray, ← hn] at this; exact this
  have F' := F.pur (s' := { s₁ with heap := h' }) ⟨fun b o e => he b o (Nat.ne_of_lt (Heap.lt_size e)) e, rfl, rfl⟩
  exact stores hL hk hl F' (by rw [List.length_reverse, List.length_reverse]; exact hn) fun s₂ F₂ => q s₂ F₂

theorem S_asgT2 {elts : List Expr} {k : Nat} {tp pos : Pos} {value : Expr} {m₀ : Str → Option Value} {own₀ : Led} {s₀ : Shared} (x y : Str) (F₀ : Fm h₀ L m₀ own₀ G O s₀) (hh : A.handled = none)
    (h : wpE (model prog w) A value env (fun v s₁ => ∃ a v1 v2 n m own, v = .ref a ∧ Fm h₀ L m own G O s₁ ∧ s₁.heap.get? a = some (tup [v1, v2] n) ∧ ∀ s₂, Fm h₀ L (put (put m y v2) x v1) own G O s₂ → wpS (model prog w) A rest env N R s₂) s)
    (hw : swappedStores [.Tuple elts k tp] value env = pure (some [x, y]) := by rfl)
    (hl : ([y, x].all fun x => decide (env.kindOf x = some .local)) = true := by rfl) (hL : env.locals = L := by rfl) (hk : env.scope.kind = .function := by rfl)
    (hs : swapsWithSole [.Tuple elts k tp] value pos.line env = pure false := by rfl) : wpS (model prog w) A (.Assign [.Tuple elts k tp] value pos :: rest) env N R s := by
  refine S_asgT [x, y] F₀ hh (wpAny_mono h (fun v s₁ h₁ => ?_) fun _ _ x => x) hw hl hL hk hs
  obtain ⟨a, v1, v2, n, m, own, e, F, ha, q⟩ := h₁
  exact ⟨a, [v1, v2], n, m, own, e, F, ha, rfl, q⟩
theorem S_asgT3 {elts : List Expr} {k : Nat} {tp pos : Pos} {value : Expr} {m₀ : Str → Option Value} {own₀ : Led} {s₀ : Shared} (x y z : Str) (F₀ : Fm h₀ L m₀ own₀ G O s₀) (hh : A.handled = none)
    (h : wpE (model prog w) A value env (fun v s₁ => ∃ a v1 v2 v3 n m own, v = .ref a ∧ Fm h₀ L m own G O s₁ ∧ s₁.heap.get? a = some (tup [v1, v2, v3] n) ∧ ∀ s₂, Fm h₀ L (put (put (put m z v3) y v2) x v1) own G O s₂ → wpS (model prog w) A rest env N R s₂) s)
    (hw : swappedStores [.Tuple elts k tp] value env = pure (some [x, y, z]) := by rfl)
    (hl : ([z, y, x].all fun x => decide (env.kindOf x = some .local)) = true := by rfl) (hL : env.locals = L := by rfl) (hk : env.scope.kind = .function := by rfl)
    (hs : swapsWithSole [.Tuple elts k tp] value pos.line env = pure false := by rfl) : wpS (model prog w) A (.Assign [.Tuple elts k tp] value pos :: rest) env N R s := by
  refine S_asgT [x, y, z] F₀ hh (wpAny_mono h (fun v s₁ h₁ => ?_) fun _ _ x => x) hw hl hL hk hs
  obtain ⟨a, v1, v2, v3, n, m, own, e, F, ha, q⟩ := h₁
  exact ⟨a, [v1, v2, v3], n, m, own, e, F, ha, rfl, q⟩

/-! lists told apart -/
theorem cmp_ne_nil {l b : Addr} {xs : List Value} {n k : Nat} {Q : Value → Shared → Prop} {hp : Heap} (hl : hp.get? l = some (lst xs n)) (hb : hp.get? b = some (lst [] k)) (r : Rm A 1) (h : Q (.bool (!xs.isEmpty)) s) (hs : s.heap = hp := by rfl) :
    wpAny (model prog w) A (compareOp .NotEq (.ref l) (.ref b)) Q NR s := by
  subst hs
  cases xs with
  | nil => exact PySem.SeqAt.RcNeAt.lists (isL hl) (isL hb) rfl r.units (e := fun _ => true) (fun j h1 => absurd h1 (Nat.not_lt_zero _)) prog w NR Q h
  | cons x xs => exact PySem.SeqAt.RcNeAt.lists_lengths (isL hl) (isL hb) rfl r.units prog w NR Q h
theorem Fm.cut (F : Fm h₀ L m own G O s) (k : Nat) : Fm h₀ L m (own.drop k) G O s := F.drop (List.drop_sublist k own)
end

section
variable {prog : Program} {w : World} {A : Around} {E : Value → Shared → Prop} {s : Shared} {env : Env} {K : Frag} {D : Doc} {hp : Heap} {t : Addr} {i : Nat} {nd : Nd} {tk : Tok} {Q : Value → Shared → Prop}
theorem TreeIs.get {h : Heap} (x : TreeIs h t D) (hi : i < D.length) : D[i]? = some D[i] := List.getElem?_eq_getElem hi
theorem flat_len {f : Nat → List Nat} (hf : ∀ a, a < D.length → 1 ≤ (f a).length) : ∀ l : List Nat, (∀ a ∈ l, a < D.length) → l.length ≤ (l.flatMap f).length
  | [], _ => Nat.zero_le _
  | a :: l, h => by
    rw [List.flatMap_cons, List.length_append, List.length_cons]
    have := hf a (h a (.head _))
    have := flat_len hf l fun b hb => h b (.tail _ hb)
    omega
theorem sub_pos (P : Pre D) {a : Nat} (h : a < D.length) : 1 ≤ (sub D a).length := by rw [sub_eq P h, List.length_cons]; omega

theorem descendants_spec (Y : Lay K) (C : Cx K hp) (r : Rm A 8) (hT : TreeIs hp t D) (P : Pre D) (hi : i < D.length) (ret : ∀ v s', Pur s s' → NewN s s' v (desc D i) → Q v s') (hs : s.heap = hp := by rfl) :
    wpAny (model prog w) A (call (.ref 79) [.ref t, .int i tk]) Q E s := by
  subst hs
  refine enter0 Y.f_descendants C r ["tree", "node"] (fun L s₁ F => ?_)
  have r' := r.deeper (envF "descendants" (stmtAt 7) L 79)
  have hsm := hT.small
  have hdl := desc_len P (i := i)
  refine S_asgT2 "found" "left" F r'.h (E_tup (E_list (newL F fun f s₂ F => E_rev (E_bi (F.cx C) Y.b_list bb_list (by simp) (E_tm Y Y.f_t_children Y.m_children (F.cx C) (hT.keeps F.keep) (fun _ q => nmL F rfl q) (nmL F rfl ⟨F.cx C, ?_⟩)) (by decide +kernel)))))
  refine children_spec Y (F.cx C) (r'.mono (by omega)) (hT.keeps F.keep) (hT.get hi) fun v s₃ vs p hvs hn => ?_
  obtain ⟨a, n, rfl, hn, ha⟩ := hn
  have F := F.add p hn ha
  have hl : vs.length ≤ 64 := by have := hvs.length; have := kids_len (D := D) (p := i); omega
  refine list_l (F.at 0 rfl) (by omega) fun b n' s₄ p hn ha => ?_
  have F := F.add p hn ha
  refine E_neg ⟨b, vs, n', _, rfl, rfl, F.at 0 rfl, by omega, fun c s₅ p hn hc => ?_⟩
  have F := ((F.tok _).tok _).add p hn hc
  refine newT F fun d s₆ F => ⟨d, _, _, 0, _, _, rfl, F, F.at 0 rfl, fun s₇ F => ?_⟩
  have F := (F.drop (own' := [(c, lst vs.reverse 0), (f, lst [] 0)]) (.cons _ (.cons_cons _ (.cons _ (.cons _ (.refl _))))))
  refine S_while (fun k s' => ∃ (m : Str → Option Value) (n1 n2 : Nat) (xs ys : List Value) (Fd Sd : List Nat), Fm s.heap L m [(c, lst ys n2), (f, lst xs n1)] s.gens s.os s' ∧ m "tree" = some (.ref t) ∧ m "found" = some (.ref f) ∧ m "left" = some (.ref c) ∧
      NatsAre xs Fd ∧ NatsAre ys Sd ∧ (∀ x ∈ Sd, x < D.length) ∧ Fd ++ Sd.reverse.flatMap (sub D) = desc D i ∧ k = (Sd.reverse.flatMap (sub D)).length) _
    ⟨_, 0, 0, [], vs.reverse, [], (kids D i).reverse, F, put_ne (put_ne rfl), put_same, put_ne put_same, .nil, hvs.reverse, fun x hx => (mem_kids.mp (List.mem_reverse.mp hx)).1, by rw [List.reverse_reverse]; rfl, rfl⟩ ?_
  rintro k s₈ ⟨m, n1, n2, xs, ys, Fd, Sd, F, m1, m2, m3, hx, hy, hlt, heq, rfl⟩
  refine T_cmp (nmL F m3 (E_list (newL F fun e s₉ F => cmp_ne_nil (F.at 1 rfl) (F.at 0 rfl) (r'.mono (by omega)) (tr_bool ?_))))
  have hlen1 : Fd.length + (Sd.reverse.flatMap (sub D)).length = (desc D i).length := by rw [← heq, List.length_append]
  have hlen2 := flat_len (f := sub D) (fun a ha => sub_pos P ha) Sd.reverse (fun a ha => hlt a (List.mem_reverse.mp ha))
  rw [List.length_reverse] at hlen2
  have hxl := hx.length
  have hyl := hy.length
  rcases List.eq_nil_or_concat Sd with rfl | ⟨Sd, h, rfl⟩
  · have hys := hy.nil_inv
    subst hys
    simp only [List.isEmpty_nil, Bool.not_true]
    refine S_ret (nmL F m2 ?_)
    have heq' : Fd = desc D i := by simpa using heq
    exact ret _ _ F.back ⟨f, xs, n1, rfl, F.new 2 rfl, F.at 2 rfl, heq' ▸ hx⟩
  · rw [List.concat_eq_append] at hy hyl hlen1 hlen2 heq hlt ⊢
    obtain ⟨ys, th, rfl, hy'⟩ := hy.snoc_inv
    have hb : (!(ys ++ [Value.int (h : Int) th]).isEmpty) = true := by simp
    rw [hb]
    simp only [List.length_append, List.length_cons, List.length_nil] at hyl hlen2
    have hh : h < D.length := hlt h (by simp)
    refine S_asg (E_methB PySem.F.plainAttrs_list PySem.F.slot_list_pop PySem.F.type_list_pop (nmL F m3 ⟨typeL (F.at 1 rfl), noD (F.at 1 rfl), l_pop F 1 rfl (by have := hy'.length; omega) fun n' s₁₀ F => ?_⟩))
    refine stL F (fun s₁₁ F => ?_)
    refine S_exp (E_methB PySem.F.plainAttrs_list PySem.F.slot_list_append PySem.F.type_list_append (nmL F (put_ne m2) ⟨typeL (F.at 2 rfl), noD (F.at 2 rfl), nmL F put_same (l_append F 2 rfl (by omega) fun n'' s₁₂ F => ?_)⟩))
    refine S_exp (E_methB PySem.F.plainAttrs_list PySem.F.slot_list_extend PySem.F.type_list_extend (nmL F (put_ne m3) ⟨typeL (F.at 1 rfl), noD (F.at 1 rfl), E_rev (E_bi (F.cx C) Y.b_list bb_list (by simp) (E_tm Y Y.f_t_children Y.m_children (F.cx C) (hT.keeps F.keep) (fun _ q => nmL F (put_ne m1) q) (nmL F put_same ⟨F.cx C, ?_⟩)) (by decide +kernel))⟩))
    refine children_spec Y (F.cx C) (r'.mono (by omega)) (hT.keeps F.keep) (hT.get hh) fun v s₁₃ ws p hws hn => ?_
    obtain ⟨a', n, rfl, hn, ha⟩ := hn
    have F := F.add p hn ha
    have hl : ws.length ≤ 64 := by have := hws.length; have := kids_len (D := D) (p := h); omega
    refine list_l (F.at 0 rfl) (by omega) fun b' n' s₁₄ p hn ha => ?_
    have F := F.add p hn ha
    refine E_neg ⟨b', ws, n', _, rfl, rfl, F.at 0 rfl, by omega, fun c' s₁₅ p hn hc => ?_⟩
    have F := ((F.tok _).tok _).add p hn hc
    refine l_extend F 4 rfl (F.at 0 rfl) (by have := hy'.length; omega) (by rw [List.length_reverse]; omega) fun n3 s₁₆ F => ?_
    refine S_nil ?_
    have e1 : (Sd ++ [h]).reverse.flatMap (sub D) = h :: ((Sd ++ (kids D h).reverse).reverse.flatMap (sub D)) := by
      rw [List.reverse_append, List.reverse_singleton, List.singleton_append, List.flatMap_cons, sub_eq P hh, List.reverse_append, List.reverse_reverse, List.flatMap_append]; rfl
    refine ⟨((Sd ++ (kids D h).reverse).reverse.flatMap (sub D)).length, by rw [e1, List.length_cons]; omega, _, _, _, _, _, Fd ++ [h], Sd ++ (kids D h).reverse, F.cut 4, put_ne m1, put_ne m2, put_ne m3, hx.snoc, hy'.append hws.reverse, fun x hx => ?_, ?_, rfl⟩
    · rcases List.mem_append.mp hx with hx | hx
      · exact hlt x (by simp [hx])
      · exact (mem_kids.mp (List.mem_reverse.mp hx)).1
    · rw [e1] at heq
      rw [← heq]; simp
theorem ancestors_spec (Y : Lay K) (C : Cx K hp) (r : Rm A 8) (hT : TreeIs hp t D) (P : Pre D) (hi : i < D.length) (ret : ∀ v s', Pur s s' → NewN s s' v (above D i) → Q v s') (hs : s.heap = hp := by rfl) :
    wpAny (model prog w) A (call (.ref 86) [.ref t, .int i tk]) Q E s := by
  subst hs
  refine enter0 Y.f_ancestors C r ["tree", "node"] (fun L s₁ F => ?_)
  have r' := r.deeper (envF "ancestors" (stmtAt 8) L 86)
  have hsm := hT.small
  have hal := above_len P.wf i
  refine S_asgT2 "found" "here" F r'.h (E_tup (E_list (newL F fun f s₂ F => E_tm Y Y.f_t_parent Y.m_parent (F.cx C) (hT.keeps F.keep) (fun _ q => nmL F rfl q) (nmL F rfl ⟨F.cx C, ?_⟩))))
  refine parent_spec Y (F.cx C) (r'.mono (by omega)) (hT.keeps F.keep) (hT.get hi) fun v s₃ p hv => ?_
  have F := F.pur p
  refine newT F fun d s₆ F => ⟨d, _, _, 0, _, _, rfl, F, F.at 0 rfl, fun s₇ F => ?_⟩
  have F := F.cut 1
  refine S_while (fun k s' => ∃ (m : Str → Option Value) (n1 : Nat) (xs : List Value) (Fd : List Nat) (o : Option Nat) (v : Value) (u : Nat), Fm s.heap L m [(f, lst xs n1)] s.gens s.os s' ∧ m "tree" = some (.ref t) ∧ m "found" = some (.ref f) ∧ m "here" = some v ∧ ParV v o ∧
      NatsAre xs Fd ∧ (∀ x, o = some x → x < D.length) ∧ Fd ++ (match o with | none => [] | some x => x :: above D x) = above D i ∧ k = (match o with | none => 0 | some x => x + 1)) _
    ⟨_, 0, [], [], D[i].par, v, 0, F, put_ne (put_ne rfl), put_same, put_ne put_same, hv, .nil, fun x hx => (par_lt P ((parOf_of (hT.get hi)).trans hx)).2, ?_, rfl⟩ ?_
  · have hpo := parOf_of (hT.get hi)
    cases hq : D[i].par with
    | none => exact (above_none (hpo.trans hq)).symm
    | some x => exact (above_some P.wf (hpo.trans hq)).symm
  rintro k s₈ ⟨m, n1, xs, Fd, o, v, u, F, m1, m2, m3, hv, hx, hlt, heq, rfl⟩
  refine T_cmp (nmL F m3 (E_none (cmp_isnot (tr_bool ?_))))
  cases o with
  | none =>
    cases hv
    refine S_ret (nmL F m2 ?_)
    have heq' : Fd = above D i := by simpa using heq
    exact ret _ _ F.back ⟨f, xs, n1, rfl, F.new 0 rfl, F.at 0 rfl, heq' ▸ hx⟩
  | some x =>
    obtain ⟨tx, rfl⟩ := hv
    have hxD := hlt x rfl
    have hlen1 : Fd.length + (above D x).length + 1 = (above D i).length := by rw [← heq]; simp; omega
    have hxl := hx.length
    refine S_exp (E_methB PySem.F.plainAttrs_list PySem.F.slot_list_append PySem.F.type_list_append (nmL F m2 ⟨typeL (F.at 0 rfl), noD (F.at 0 rfl), nmL F m3 (l_append F 0 rfl (by omega) fun n'' s₁₂ F => ?_)⟩))
    refine S_asg (E_tm Y Y.f_t_parent Y.m_parent (F.cx C) (hT.keeps F.keep) (fun _ q => nmL F m1 q) (nmL F m3 ⟨F.cx C, ?_⟩))
    refine parent_spec Y (F.cx C) (r'.mono (by omega)) (hT.keeps F.keep) (hT.get hxD) fun v' s₃ p hv => ?_
    have F := F.pur p
    refine stL F (fun s₁₁ F => ?_)
    have hpo := parOf_of (hT.get hxD)
    refine S_nil ⟨_, ?_, _, _, _, Fd ++ [x], D[x].par, v', 0, F, put_ne m1, put_ne m2, put_same, hv, hx.snoc, fun y hy => (par_lt P (hpo.trans hy)).2, ?_, rfl⟩
    · cases hq : D[x].par with
      | none => exact Nat.succ_pos _
      | some y => exact Nat.succ_lt_succ (P.wf x y (hpo.trans hq))
    · rw [← heq]
      cases hq : D[x].par with
      | none => show (Fd ++ [x]) ++ [] = Fd ++ (x :: above D x); rw [above_none (hpo.trans hq)]; simp
      | some y => show (Fd ++ [x]) ++ (y :: above D y) = Fd ++ (x :: above D x); rw [above_some P.wf (hpo.trans hq)]; simp
end
end Mine

end MD_part
section ME_part
namespace Mine
open PySem PySem.W PySem.Calls PySem.Spec PyProof.Rows

section
variable {prog : Program} {w : World} {A : Around} {s : Shared} {env : Env} {K : Frag} {h₀ : Heap} {L : Addr} {m : Str → Option Value} {own : Led} {G : Array GenState} {O : OsState} {N : Shared → Prop} {R : Value → Shared → Prop} {rest : List Stmt}
/-- if x == 'word' -/
theorem S_ifs {x a lit : Str} {u : Tok} {np cp ep pos : Pos} {k : Nat} {body orelse : List Stmt} (F : Fm h₀ L m own G O s) (hv : m x = some (.str a u))
    (ht : a = lit → ∀ s', Fm h₀ L m own G O s' → wpS (model prog w) A body env (fun s'' => wpS (model prog w) A rest env N R s'') R s')
    (hf : a ≠ lit → ∀ s', Fm h₀ L m own G O s' → wpS (model prog w) A orelse env (fun s'' => wpS (model prog w) A rest env N R s'') R s')
    (hL : env.locals = L := by rfl) (hk : env.scope.kind = .function := by rfl) (hl : env.kindOf x = some .local := by rfl) (hd : (x == ("__debug__" : Str)) = false := by rfl) :
    wpS (model prog w) A (.If (.Compare (.Name x np) [.Eq] [.Constant (.str lit) k cp] ep) body orelse pos :: rest) env N R s := by
  refine S_if (T_cmp (nmL F hv (E_str (cmp_eqs (tr_bool ?_))) hL hk hl hd))
  cases q : a == lit with
  | true => exact ht (beq_iff_eq.mp q) _ (F.tok _)
  | false => exact hf (beq_eq_false_iff_ne.mp q) _ (F.tok _)
end

noncomputable def shortA (D : Doc) (way : Str) (i : Nat) : Option (List Nat) :=
  if way = "child" then some (kids D i) else if way = "self" then some [i] else if way = "parent" then some (parOf D i).toList
  else if way = "following-sibling" then some (behind D i) else if way = "preceding-sibling" then some (ahead D i) else none
noncomputable def along (D : Doc) (way : Str) (i : Nat) : List Nat := (shortA D way i).getD (if way = "descendant" then desc D i else above D i)

section
variable {prog : Program} {w : World} {A : Around} {E : Value → Shared → Prop} {s : Shared} {env : Env} {K : Frag} {D : Doc} {hp : Heap} {t : Addr} {i : Nat} {nd : Nd} {tk : Tok} {Q : Value → Shared → Prop} {way : Str} {u : Tok}
theorem short_axis_spec (Y : Lay K) (C : Cx K hp) (r : Rm A 9) (hT : TreeIs hp t D) (P : Pre D) (hi : i < D.length) (n1 : way ≠ "attribute") (n2 : way ≠ "namespace")
    (ret : ∀ v s' xs, Pur s s' → shortA D way i = some xs → NewN s s' v xs → Q v s') (retN : ∀ s', Pur s s' → shortA D way i = none → Q .none s') (hs : s.heap = hp := by rfl) :
    wpAny (model prog w) A (call (.ref 133) [.ref t, .int i tk, .str way u]) Q E s := by
  subst hs
  refine enter0 Y.f_short_axis C r ["tree", "node", "name"] (fun L s₁ F => ?_)
  have r' := r.deeper (envF "short_axis" (stmtAt 15) L 133)
  have hsm := hT.small
  have hiD := hT.get hi
  refine S_ifs F rfl (fun e s₂ F => ?_) fun e1 s₂ F => S_nil ?_
  · refine S_ret (E_bi (F.cx C) Y.b_list bb_list (by simp) (E_tm Y Y.f_t_children Y.m_children (F.cx C) (hT.keeps F.keep) (fun _ q => nmL F rfl q) (nmL F rfl ⟨F.cx C, ?_⟩)) (by decide +kernel))
    refine children_spec Y (F.cx C) (r'.mono (by omega)) (hT.keeps F.keep) hiD fun v s₃ vs p hvs hn => ?_
    obtain ⟨a, n, rfl, hn, ha⟩ := hn
    have F := F.add p hn ha
    have hl : vs.length ≤ 64 := by have := hvs.length; have := kids_len (D := D) (p := i); omega
    refine list_l (F.at 0 rfl) (by omega) fun b n' s₄ p hn ha => ?_
    exact ret _ _ _ (F.back.trans p) (by unfold shortA; rw [if_pos e]) ⟨b, vs, n', rfl, fresh_of F hn, ha, hvs⟩
  refine S_ifs F rfl (fun e s₂ F => ?_) fun e2 s₂ F => S_nil ?_
  · refine S_exp (E_tm Y Y.f_t_kind Y.m_kind (F.cx C) (hT.keeps F.keep) (fun _ q => nmL F rfl q) (nmL F rfl ⟨F.cx C, ?_⟩))
    refine kind_spec Y (F.cx C) (r'.mono (by omega)) (hT.keeps F.keep) hiD fun _ s₃ p => ?_
    have F := F.pur p
    refine S_ret (E_list (nmL F rfl (newL F (fun a s₄ F => ?_))))
    exact ret _ _ _ F.back (by unfold shortA; rw [if_neg e1, if_pos e]) ⟨a, _, 0, rfl, F.new 0 rfl, F.at 0 rfl, NatsAre.cons .nil⟩
  refine S_ifs F rfl (fun e s₂ F => ?_) fun e3 s₂ F => S_nil ?_
  · refine S_asg (E_tm Y Y.f_t_parent Y.m_parent (F.cx C) (hT.keeps F.keep) (fun _ q => nmL F rfl q) (nmL F rfl ⟨F.cx C, ?_⟩))
    refine parent_spec Y (F.cx C) (r'.mono (by omega)) (hT.keeps F.keep) hiD fun v s₃ p hv => ?_
    have F := F.pur p
    refine stL F (fun s₁₁ F => ?_)
    refine S_ret (E_if (T_cmp (nmL F put_same (E_none (cmp_is (tr_bool ?_))))))
    have hpo := parOf_of hiD
    have hsh : shortA D way i = some (D[i].par).toList := by unfold shortA; rw [if_neg e1, if_neg e2, if_pos e, hpo]
    cases hq : D[i].par with
    | none =>
      rw [hq] at hv hsh; cases hv
      refine E_list (newL F (fun a s₄ F => ?_))
      exact ret _ _ _ F.back hsh ⟨a, _, 0, rfl, F.new 0 rfl, F.at 0 rfl, .nil⟩
    | some q =>
      rw [hq] at hv hsh; obtain ⟨tq, rfl⟩ := hv
      refine E_list (nmL F put_same (newL F (fun a s₄ F => ?_)))
      exact ret _ _ _ F.back hsh ⟨a, _, 0, rfl, F.new 0 rfl, F.at 0 rfl, NatsAre.cons .nil⟩
  refine S_ifs F rfl (fun e s₂ F => absurd e n1) fun e4 s₂ F => S_nil ?_
  refine S_ifs F rfl (fun e s₂ F => ?_) fun e5 s₂ F => S_nil ?_
  · refine S_ret (E_fn Y.f_siblings_behind (F.cx C) Y.n_siblings_behind (nmL F rfl (nmL F rfl ⟨F.cx C, ?_⟩)))
    refine siblings_behind_spec Y (F.cx C) (r'.mono (by omega)) (hT.keeps F.keep) P.wf hiD fun v s₃ p hn => ?_
    obtain ⟨a, xs, n, rfl, hn, ha, hx⟩ := hn
    exact ret _ _ _ (F.back.trans p) (by unfold shortA; rw [if_neg e1, if_neg e2, if_neg e3, if_pos e]) ⟨a, xs, n, rfl, fresh_of F hn, ha, hx⟩
  refine S_ifs F rfl (fun e s₂ F => ?_) fun e6 s₂ F => S_nil ?_
  · refine S_ret (E_fn Y.f_siblings_ahead (F.cx C) Y.n_siblings_ahead (nmL F rfl (nmL F rfl ⟨F.cx C, ?_⟩)))
    refine siblings_ahead_spec Y (F.cx C) (r'.mono (by omega)) (hT.keeps F.keep) P.wf hiD fun v s₃ p hn => ?_
    obtain ⟨a, xs, n, rfl, hn, ha, hx⟩ := hn
    exact ret _ _ _ (F.back.trans p) (by unfold shortA; rw [if_neg e1, if_neg e2, if_neg e3, if_neg e5, if_pos e]) ⟨a, xs, n, rfl, fresh_of F hn, ha, hx⟩
  refine S_ifs F rfl (fun e s₂ F => absurd e n2) fun e7 s₂ F => S_nil ?_
  refine S_ret (E_none ?_)
  exact retN _ F.back (by unfold shortA; rw [if_neg e1, if_neg e2, if_neg e3, if_neg e5, if_neg e6])

noncomputable def Way (way : Str) : Prop := way = "child" ∨ way = "parent" ∨ way = "self" ∨ way = "descendant" ∨ way = "ancestor" ∨ way = "following-sibling" ∨ way = "preceding-sibling"
theorem axis_spec (Y : Lay K) (C : Cx K hp) (r : Rm A 10) (hT : TreeIs hp t D) (P : Pre D) (hi : i < D.length) (hw : Way way)
    (ret : ∀ v s', Pur s s' → NewN s s' v (along D way i) → Q v s') (hs : s.heap = hp := by rfl) :
    wpAny (model prog w) A (call (.ref 140) [.ref t, .int i tk, .str way u]) Q E s := by
  subst hs
  refine enter0 Y.f_axis C r ["tree", "node", "name"] (fun L s₁ F => ?_)
  have r' := r.deeper (envF "axis" (stmtAt 16) L 140)
  have hiD := hT.get hi
  refine S_asg (E_fn Y.f_short_axis (F.cx C) Y.n_short_axis (nmL F rfl (nmL F rfl (nmL F rfl ⟨F.cx C, ?_⟩))))
  refine short_axis_spec Y (F.cx C) (r'.mono (by omega)) (hT.keeps F.keep) P hi (by rcases hw with rfl | rfl | rfl | rfl | rfl | rfl | rfl <;> decide +kernel) (by rcases hw with rfl | rfl | rfl | rfl | rfl | rfl | rfl <;> decide +kernel) (fun v s₂ xs p hsh hn => ?_) fun s₂ p hsh => ?_
  · obtain ⟨a, vs, n, rfl, hn, ha, hx⟩ := hn
    have F := F.add p hn ha
    refine stL F (fun s₃ F => ?_)
    refine S_if (T_cmp (nmL F put_same (E_none (cmp_isnot (tr_bool ?_)))))
    refine S_ret (nmL F put_same ?_)
    exact ret _ _ F.back ⟨a, vs, n, rfl, F.new 0 rfl, F.at 0 rfl, by unfold along; rw [hsh]; exact hx⟩
  · have F := F.pur p
    refine stL F (fun s₃ F => ?_)
    refine S_if (T_cmp (nmL F put_same (E_none (cmp_isnot (tr_bool ?_)))))
    refine S_nil ?_
    refine S_ifs F (put_ne rfl) (fun e s₂ F => ?_) fun e1 s₂ F => S_nil ?_
    · refine S_ret (E_fn Y.f_descendants (F.cx C) Y.n_descendants (nmL F (put_ne rfl) (nmL F (put_ne rfl) ⟨F.cx C, ?_⟩)))
      refine descendants_spec Y (F.cx C) (r'.mono (by omega)) (hT.keeps F.keep) P hi fun v s₃ p hn => ?_
      obtain ⟨a, xs, n, rfl, hn, ha, hx⟩ := hn
      exact ret _ _ (F.back.trans p) ⟨a, xs, n, rfl, fresh_of F hn, ha, by unfold along; rw [hsh, if_pos e]; exact hx⟩
    have nd : way ≠ "descendant-or-self" := by rcases hw with rfl | rfl | rfl | rfl | rfl | rfl | rfl <;> decide +kernel
    refine S_ifs F (put_ne rfl) (fun e s₂ F => absurd e nd) fun e2 s₂ F => S_nil ?_
    have ea : way = "ancestor" := by
      rcases hw with rfl | rfl | rfl | rfl | rfl | rfl | rfl
      all_goals first | rfl | exact absurd rfl e1 | exact nomatch (show some _ = none from hsh)
    refine S_ifs F (put_ne rfl) (fun e s₂ F => ?_) fun e3 s₂ F => absurd ea e3
    refine S_ret (E_fn Y.f_ancestors (F.cx C) Y.n_ancestors (nmL F (put_ne rfl) (nmL F (put_ne rfl) ⟨F.cx C, ?_⟩)))
    refine ancestors_spec Y (F.cx C) (r'.mono (by omega)) (hT.keeps F.keep) P hi fun v s₃ p hn => ?_
    obtain ⟨a, xs, n, rfl, hn, ha, hx⟩ := hn
    exact ret _ _ (F.back.trans p) ⟨a, xs, n, rfl, fresh_of F hn, ha, by unfold along; rw [hsh, if_neg e1]; exact hx⟩
end
end Mine

end ME_part
section MG_part
namespace Mine
open PySem PySem.W PySem.Calls PySem.Spec PyProof.Rows

section
variable {prog : Program} {w : World} {A : Around} {s : Shared} {env : Env} {K : Frag} {h₀ : Heap} {L : Addr} {m : Str → Option Value} {own : Led} {G : Array GenState} {O : OsState}
theorem tupT {h : Heap} {l : Addr} {xs : List Value} {n : Nat} (e : h.get? l = some (tup xs n)) : ∃ o, h.get? l = some o ∧ o.cls = .type "tuple" := ⟨_, e, rfl⟩
theorem sub_t {value slice : Expr} {l : Addr} {xs : List Value} {n : Nat} {k : Int} {t : Tok} {v : Value} {Q : Value → Shared → Prop} {hp : Heap} (e : hp.get? l = some (tup xs n)) (h0 : 0 ≤ k) (hk : k < 2 ^ 63) (hx : xs[k.toNat]? = some v) (h : Q v s) (hh : s.heap = hp := by rfl)
    (hs : subscripted slice false (.ref l) (.int k t) = operate [.ref l, .int k t] (getItem (.ref l) (.int k t)) := by with_unfolding_all rfl) :
    wpAny (model prog w) A (subscriptTail value slice (.ref l) (.int k t)) Q NR s := by
  subst hh
  obtain ⟨hlt, -⟩ := List.getElem?_eq_some_iff.mp hx
  refine tail_any (T := "tuple") (show s.TypeIs (.ref l) "tuple" from ⟨_, e, rfl⟩) PySem.F.slot_tuple_getitem.lookup (PyProof.Rows.getItem_tuple (isT e) (by omega) hk (j := k.toNat) ?_ (by simpa using hx) h) hs
  unfold seqIndex?
  rw [List.size_toArray]
  split
  · omega
  · simp; omega
end

section
variable {prog : Program} {w : World} {A : Around} {s : Shared} {env : Env} {h₀ : Heap} {L : Addr} {m : Str → Option Value} {own : Led} {G : Array GenState} {O : OsState} {N : Shared → Prop} {R : Value → Shared → Prop} {rest : List Stmt}
/-- if x[0] == 'word' -/
theorem S_ift {x a lit : Str} {b : Addr} {n : Nat} {u : Tok} {r : List Value} {np cp ep ip sp pos : Pos} {k k' : Nat} {body orelse : List Stmt} (F : Fm h₀ L m own G O s) (hv : m x = some (.ref b)) (hb : h₀.get? b = some (tup (.str a u :: r) n))
    (ht : a = lit → ∀ s', Fm h₀ L m own G O s' → wpS (model prog w) A body env (fun s'' => wpS (model prog w) A rest env N R s'') R s')
    (hf : a ≠ lit → ∀ s', Fm h₀ L m own G O s' → wpS (model prog w) A orelse env (fun s'' => wpS (model prog w) A rest env N R s'') R s')
    (hL : env.locals = L := by rfl) (hk : env.scope.kind = .function := by rfl) (hl : env.kindOf x = some .local := by rfl) (hd : (x == ("__debug__" : Str)) = false := by rfl) :
    wpS (model prog w) A (.If (.Compare (.Subscript (.Name x np) (.Constant (.int 0) k' ip) sp) [.Eq] [.Constant (.str lit) k cp] ep) body orelse pos :: rest) env N R s := by
  refine S_if (T_cmp (E_sub (nmL F hv (E_int (sub_t (F.keep _ _ hb) (by decide) (by decide) rfl (E_str (cmp_eqs (tr_bool ?_))))) hL hk hl hd)))
  cases q : a == lit with
  | true => exact ht (beq_iff_eq.mp q) _ ((F.tok _).tok _)
  | false => exact hf (beq_eq_false_iff_ne.mp q) _ ((F.tok _).tok _)
/-- if x[0] in ('word', 'word') -/
theorem S_iftin {x a l1 l2 : Str} {b : Addr} {n : Nat} {u : Tok} {r : List Value} {np c1 c2 ep ip sp tp pos : Pos} {k k1 k2 k' : Nat} {body orelse : List Stmt} (F : Fm h₀ L m own G O s) (hv : m x = some (.ref b)) (hb : h₀.get? b = some (tup (.str a u :: r) n))
    (ht : (l1 == a || l2 == a) = true → ∀ s' c o, Fm h₀ L m ((c, o) :: own) G O s' → wpS (model prog w) A body env (fun s'' => wpS (model prog w) A rest env N R s'') R s')
    (hf : (l1 == a || l2 == a) = false → ∀ s' c o, Fm h₀ L m ((c, o) :: own) G O s' → wpS (model prog w) A orelse env (fun s'' => wpS (model prog w) A rest env N R s'') R s')
    (hL : env.locals = L := by rfl) (hk : env.scope.kind = .function := by rfl) (hl : env.kindOf x = some .local := by rfl) (hd : (x == ("__debug__" : Str)) = false := by rfl) :
    wpS (model prog w) A (.If (.Compare (.Subscript (.Name x np) (.Constant (.int 0) k' ip) sp) [.In] [.Tuple [.Constant (.str l1) k1 c1, .Constant (.str l2) k2 c2] k tp] ep) body orelse pos :: rest) env N R s := by
  refine S_if (T_cmp (E_sub (nmL F hv (E_int (sub_t (F.keep _ _ hb) (by decide) (by decide) rfl (E_tup (E_str (E_str (newT (((F.tok _).tok _).tok _) (fun c s₃ F => in_tup2 (F.at 0 rfl) (tr_bool ?_))))))))  hL hk hl hd)))
  cases q : (l1 == a || l2 == a) with
  | true => exact ht q _ _ _ F
  | false => exact hf q _ _ _ F
end

/-- what a step may ask of a node -/
inductive Tst | node | text | name
noncomputable def Tst.vals : Tst → Tok → Tok → Tok → List Value
  | .node, t, _, _ => [.str "node" t]
  | .text, t, _, _ => [.str "text" t]
  | .name, t, u, v => [.str "name" t, .str "" u, .str "f" v]
noncomputable def TstIs (h : Heap) (v : Value) (T : Tst) : Prop := ∃ a n t u x, v = .ref a ∧ h.get? a = some (tup (T.vals t u x) n)
theorem TstIs.keeps {h h' : Heap} {v : Value} {T : Tst} (x : TstIs h v T) (k : ∀ b o, h.get? b = some o → h'.get? b = some o) : TstIs h' v T :=
  let ⟨a, n, t, u, x, e, q⟩ := x; ⟨a, n, t, u, x, e, k _ _ q⟩
noncomputable def Tst.ok (T : Tst) (nd : Nd) : Bool := match T with
  | .node => true
  | .text => nd.w == "text"
  | .name => nd.w == "f"

section
variable {prog : Program} {w : World} {A : Around} {E : Value → Shared → Prop} {s : Shared} {env : Env} {K : Frag} {D : Doc} {hp : Heap} {t : Addr} {i : Nat} {nd : Nd} {tk : Tok} {Q : Value → Shared → Prop} {way : Str} {u u' : Tok}

theorem principal_kind_spec (Y : Lay K) (C : Cx K hp) (r : Rm A 1) (hw : Way way) (ret : ∀ u s', Pur s s' → Q (.str "element" u) s') (hs : s.heap = hp := by rfl) :
    wpAny (model prog w) A (call (.ref 147) [.str way u]) Q E s := by
  subst hs
  refine enter0 Y.f_principal_kind C r ["axis"] (fun L s₁ F => ?_)
  refine S_ret (E_if (T_cmp (nmL F rfl (E_tup (E_str (E_str (newT ((F.tok _).tok _) (fun a s₃ F => in_tup2 (F.at 0 rfl) (tr_bool ?_)))))))))
  have e : (("attribute" : Str) == way || ("namespace" : Str) == way) = false := by rcases hw with rfl | rfl | rfl | rfl | rfl | rfl | rfl <;> decide +kernel
  rw [e]
  exact E_str (ret _ _ (F.tok _).back)
theorem bound_uri_spec {v : Value} (Y : Lay K) (C : Cx K hp) (r : Rm A 1) (ret : ∀ u s', Pur s s' → Q (.str "" u) s') (hs : s.heap = hp := by rfl) :
    wpAny (model prog w) A (call (.ref 154) [.str "" u, v]) Q E s := by
  subst hs
  refine enter0 Y.f_bound_uri C r ["prefix", "names"] (fun L s₁ F => ?_)
  exact S_ifs F rfl (fun e s₂ F => S_ret (E_str (ret _ _ (F.tok _).back))) fun e1 s₂ F => absurd rfl e1

theorem word_f {nd : Nd} (h : kindOf nd = "element") : (wordOf nd == ("f" : Str)) = (nd.w == ("f" : Str)) := by
  unfold kindOf at h
  unfold wordOf
  split at h
  · exact absurd h (by decide +kernel)
  · split at h
    · exact absurd h (by decide +kernel)
    · rename_i h1 h2; rw [if_neg h1, if_neg h2]
theorem kind_cases {nd : Nd} : (kindOf nd = "element" ∧ nd.w ≠ "root" ∧ nd.w ≠ "text") ∨ (kindOf nd = "root" ∧ nd.w = "root") ∨ (kindOf nd = "text" ∧ nd.w = "text") := by
  unfold kindOf
  split
  · rename_i h; exact .inr (.inl ⟨rfl, h⟩)
  · split
    · rename_i h; exact .inr (.inr ⟨rfl, h⟩)
    · rename_i h1 h2; exact .inl ⟨rfl, h1, h2⟩

theorem is_named_spec {b : Addr} {n : Nat} {t1 t2 t3 : Tok} {v : Value} (Y : Lay K) (C : Cx K hp) (r : Rm A 6) (hT : TreeIs hp t D) (hi : D[i]? = some nd) (hb : hp.get? b = some (tup [.str "name" t1, .str "" t2, .str "f" t3] n))
    (ret : ∀ s', Pur s s' → Q (.bool (nd.w == "f")) s') (hs : s.heap = hp := by rfl) :
    wpAny (model prog w) A (call (.ref 161) [.ref t, .int i tk, .ref b, v]) Q E s := by
  subst hs
  refine enter0 Y.f_is_named C r ["tree", "node", "test", "names"] (fun L s₁ F => ?_)
  have r' := r.deeper (envF "is_named" (stmtAt 20) L 161)
  refine S_asgT2 "uri" "kind" F r'.h (E_tup (E_fn Y.f_bound_uri (F.cx C) Y.n_bound_uri (E_sub (nmL F rfl (E_int (sub_t (F.keep _ _ hb) (by decide) (by decide) rfl (nmL (F.tok _) rfl ⟨(F.tok _).cx C, ?_⟩)))))))
  refine bound_uri_spec Y ((F.tok _).cx C) (r'.mono (by omega)) fun u1 s₂ p => ?_
  have F := (F.tok _).pur p
  refine E_tm Y Y.f_t_kind Y.m_kind (F.cx C) (hT.keeps F.keep) (fun _ q => nmL F rfl q) (nmL F rfl ⟨F.cx C, ?_⟩)
  refine kind_spec Y (F.cx C) (r'.mono (by omega)) (hT.keeps F.keep) hi fun u2 s₃ p => ?_
  have F := F.pur p
  refine newT F fun d s₆ F => ⟨d, _, _, 0, _, _, rfl, F, F.at 0 rfl, fun s₇ F => ?_⟩
  refine S_ifs F (put_ne put_same) (fun e s₂ F => ?_) fun e1 s₂ F => S_nil ?_
  · rcases kind_cases (nd := nd) with h | h | h <;> (rw [h.1] at e; exact absurd e (by decide +kernel))
  have hne : ∀ {k : Str}, k = "root" ∨ k = "text" → (("element" : Str) == k || ("attribute" : Str) == k) = false := by rintro k (rfl | rfl) <;> decide +kernel
  refine S_ret (E_bool2 (bo_cons (E_cmp (nmL F (put_ne put_same) (E_tup (E_str (E_str (newT ((F.tok _).tok _) (fun a s₃ F => in_tup2 (F.at 0 rfl) (tr_bool ?_))))))))))
  rcases kind_cases (nd := nd) with ⟨hk, -, -⟩ | ⟨hk, hw⟩ | ⟨hk, hw⟩
  · rw [hk, show (("element" : Str) == "element" || ("attribute" : Str) == "element") = true from by decide +kernel]
    refine bo_cons (E_cmp (E_tm Y Y.f_t_local Y.m_local (F.cx C) (hT.keeps F.keep) (fun _ q => nmL F (put_ne (put_ne rfl)) q) (nmL F (put_ne (put_ne rfl)) ⟨F.cx C, ?_⟩)))
    refine local_spec Y (F.cx C) (r'.mono (by omega)) (hT.keeps F.keep) hi fun u2 s₃ p => ?_
    have F := F.pur p
    refine E_sub (nmL F (put_ne (put_ne rfl)) (E_int (sub_t (F.keep _ _ hb) (by decide) (by decide) rfl (cmp_eqs (tr_bool ?_)))))
    rw [word_f hk]
    have F := F.tok (s₃.toks + 1)
    cases hf : nd.w == ("f" : Str) with
    | false => rw [hf] at ret; exact ret _ F.back
    | true =>
      rw [hf] at ret
      refine bo_last (E_cmp (E_tm Y Y.f_t_uri Y.m_uri (F.cx C) (hT.keeps F.keep) (fun _ q => nmL F (put_ne (put_ne rfl)) q) (nmL F (put_ne (put_ne rfl)) ⟨F.cx C, ?_⟩)))
      refine uri_spec Y (F.cx C) (r'.mono (by omega)) (hT.keeps F.keep) hi fun u2 s₃ p => ?_
      have F := F.pur p
      exact nmL F put_same (cmp_eqs (ret _ F.back))
  · rw [hk, hne (.inl rfl)]
    rw [hw] at ret
    exact ret _ F.back
  · rw [hk, hne (.inr rfl)]
    rw [hw] at ret
    exact ret _ F.back

theorem in_tup2' {x a b : Str} {u t1 t2 : Tok} {l : Addr} {n : Nat} {hp : Heap} (e : hp.get? l = some (tup [.str a t1, .str b t2] n)) (h : Q (.bool (a == x || (b == x))) s) (hs : s.heap = hp := by rfl) : wpAny (model prog w) A (compareOp .In (.str x u) (.ref l)) Q NR s := by
  subst hs; exact in_tup2 e h

theorem passes_spec {T : Tst} {tv v : Value} (Y : Lay K) (C : Cx K hp) (r : Rm A 8) (hT : TreeIs hp t D) (hi : D[i]? = some nd) (hw : Way way) (ht : TstIs hp tv T)
    (ret : ∀ s', Pur s s' → Q (.bool (T.ok nd)) s') (hs : s.heap = hp := by rfl) :
    wpAny (model prog w) A (call (.ref 168) [.ref t, .int i tk, .str way u, tv, v]) Q E s := by
  subst hs
  obtain ⟨b, n, t1, t2, t3, rfl, hb⟩ := ht
  refine enter0 Y.f_passes C r ["tree", "node", "axis", "test", "names"] (fun L s₁ F => ?_)
  have r' := r.deeper (envF "passes" (stmtAt 21) L 168)
  refine S_asg (E_tm Y Y.f_t_kind Y.m_kind (F.cx C) (hT.keeps F.keep) (fun _ q => nmL F rfl q) (nmL F rfl ⟨F.cx C, ?_⟩))
  refine kind_spec Y (F.cx C) (r'.mono (by omega)) (hT.keeps F.keep) hi fun u2 s₃ p => ?_
  have F := F.pur p
  refine stL F (fun s₄ F => ?_)
  cases T with
  | node =>
    refine S_ift F (put_ne rfl) hb (fun e s₂ F => ?_) fun e s₂ F => absurd rfl e
    exact S_ret (E_bool (ret _ F.back))
  | text =>
    refine S_ift F (put_ne rfl) hb (fun e s₂ F => absurd e (by decide +kernel)) fun e s₂ F => S_nil ?_
    refine S_iftin F (put_ne rfl) hb (fun e s₂ c o F => ?_) fun e s₂ F => absurd e (by decide +kernel)
    refine S_ret (E_cmp (nmL F put_same (E_sub (nmL F (put_ne rfl) (E_int (sub_t (F.keep _ _ hb) (by decide) (by decide) rfl (cmp_eqs ?_)))))))
    have e : (kindOf nd == ("text" : Str)) = (nd.w == ("text" : Str)) := by
      rcases kind_cases (nd := nd) with ⟨hk, h1, h2⟩ | ⟨hk, hw⟩ | ⟨hk, hw⟩
      · rw [hk, beq_eq_false_iff_ne.mpr h2]; decide +kernel
      · rw [hk, hw]
      · rw [hk, hw]
    rw [e]
    exact ret _ (F.tok _).back
  | name =>
    refine S_ift F (put_ne rfl) hb (fun e s₂ F => absurd e (by decide +kernel)) fun e s₂ F => S_nil ?_
    refine S_iftin F (put_ne rfl) hb (fun e s₂ c o F => absurd e (by decide +kernel)) fun e s₂ c o F => S_nil ?_
    refine S_ift F (put_ne rfl) hb (fun e s₂ F => absurd e (by decide +kernel)) fun e s₂ F => S_nil ?_
    refine S_ift F (put_ne rfl) hb (fun e s₂ F => absurd e (by decide +kernel)) fun e s₂ F => S_nil ?_
    refine S_ift F (put_ne rfl) hb (fun e s₂ F => absurd e (by decide +kernel)) fun e s₂ F => S_nil ?_
    refine S_ret (E_bool2 (bo_cons (E_fn Y.f_is_named (F.cx C) Y.n_is_named (nmL F (put_ne rfl) (nmL F (put_ne rfl) (nmL F (put_ne rfl) (nmL F (put_ne rfl) ⟨F.cx C, ?_⟩)))))))
    refine is_named_spec Y (F.cx C) (r'.mono (by omega)) (hT.keeps F.keep) hi (F.keep _ _ hb) (fun s₃ p => ?_)
    have F := F.pur p
    refine tr_bool ?_
    have ret' : ∀ s', Pur s s' → Q (.bool (nd.w == ("f" : Str))) s' := ret
    cases hf : nd.w == ("f" : Str) with
    | false => rw [hf] at ret'; exact ret' _ F.back
    | true =>
      rw [hf] at ret'
      refine bo_last (E_cmp (nmL F put_same (E_fn Y.f_principal_kind (F.cx C) Y.n_principal_kind (nmL F (put_ne rfl) ⟨F.cx C, ?_⟩))))
      refine principal_kind_spec Y (F.cx C) (r'.mono (by omega)) hw fun u3 s₄ p => ?_
      have F := F.pur p
      refine cmp_eqs ?_
      have hw' := beq_iff_eq.mp hf
      have hk : kindOf nd = "element" := by
        rcases kind_cases (nd := nd) with ⟨hk, -, -⟩ | ⟨hk, hw⟩ | ⟨hk, hw⟩
        · exact hk
        · rw [hw'] at hw; exact absurd hw (by decide +kernel)
        · rw [hw'] at hw; exact absurd hw (by decide +kernel)
      rw [hk]
      exact ret' _ F.back
end
end Mine

end MG_part
section MH_part
namespace Mine
open PySem PySem.W PySem.Calls PySem.Spec PyProof.Rows

section
variable {prog : Program} {w : World} {A : Around} {s : Shared} {env : Env} {K : Frag} {h₀ : Heap} {L : Addr} {m : Str → Option Value} {own : Led} {G : Array GenState} {O : OsState} {N : Shared → Prop} {R : Value → Shared → Prop} {rest : List Stmt}
/-- the last things of the ledger changed (or left it) -/
theorem Fm.tail {X X' : Led} {h' : Heap} {t : Nat} (F : Fm h₀ L m (own ++ X) G O s) (hk : ∀ b x, b ∉ X.map (·.1) → s.heap.get? b = some x → h'.get? b = some x) (hX : (X'.map (·.1)).Sublist (X.map (·.1))) (ho : ∀ p ∈ X', h'.get? p.1 = some p.2) :
    Fm h₀ L m (own ++ X') G O { s with heap := h', toks := t } := by
  have nd := F.nd
  rw [List.map_append, List.nodup_append] at nd
  have hx : ∀ b, b ∈ X.map (·.1) → b ≠ L ∧ h₀.get? b = none := fun b hb => by
    obtain ⟨p, hp, rfl⟩ := List.mem_map.mp hb
    exact (F.nw p (List.mem_append_right _ hp)).2
  refine ⟨⟨?_, fun b x e => hk b x (fun hb => ?_) (F.fr.keep b x e), F.fr.above⟩, fun q hq => ?_, ?_, F.gens, F.os⟩
  · obtain ⟨oL, es, ep, x, r⟩ := F.fr.ns
    exact ⟨oL, es, ep, hk _ _ (fun hb => (hx _ hb).1 rfl) x, r⟩
  · have := (hx b hb).2; rw [e] at this; cases this
  · rcases List.mem_append.mp hq with hq | hq
    · have hq' := F.nw q (List.mem_append_left _ hq)
      exact ⟨hk _ _ (fun hb => nd.2.2 q.1 (List.mem_map_of_mem hq) q.1 hb rfl) hq'.1, hq'.2⟩
    · exact ⟨ho q hq, hx q.1 (hX.mem (List.mem_map_of_mem hq))⟩
  · rw [List.map_append, List.nodup_append]
    exact ⟨nd.1, nd.2.1.sublist hX, fun a ha b hb => nd.2.2 a ha b (hX.mem hb)⟩
theorem addAt {a : Addr} {o : Obj} (F : Fm h₀ L m ((a, o) :: own) G O s) : Fm h₀ L m (own ++ [(a, o)]) G O s := F.perm (List.perm_append_comm (l₁ := [(a, o)]) (l₂ := own))

theorem isTp {h : Heap} {a : Addr} {xs : List Value} {n : Nat} (e : h.get? a = some (tup xs n)) : h.IsTuple a xs.toArray := ⟨_, e, rfl, n, rfl⟩
/-- for x in a tuple that stood when the def was entered -/
theorem S_for_tup {iter : Expr} {x : Str} {px pos : Pos} {l : Addr} {xs : List Value} {n : Nat} {body : List Stmt} (hh : A.handled = none) (Inv : Nat → (Str → Option Value) → Led → Prop)
    (hl0 : h₀.get? l = some (tup xs n))
    (h : wpE (model prog w) A iter env (fun xv s₁ => xv = .ref l ∧ ∃ m own, Fm h₀ L m own G O s₁ ∧ Inv 0 m own) s)
    (turn : ∀ i v m own o I s, xs[i]? = some v → Inv i m own → Fm h₀ L (put m x v) (own ++ [(I, o)]) G O s →
        wpS (model prog w) A body env (fun s' => ∃ m' own', Inv (i + 1) m' own' ∧ Fm h₀ L m' (own' ++ [(I, o)]) G O s') R s)
    (fin : ∀ m own s, Inv xs.length m own → Fm h₀ L m own G O s → wpS (model prog w) A rest env N R s)
    (hL : env.locals = L := by rfl) (hk : env.scope.kind = .function := by rfl) (hl : env.kindOf x = some .local := by rfl)
    (hs : ∀ x, foldedSetIterable iter env x = pure x := by intro _; rfl) : wpS (model prog w) A (.For (.Name x px) iter body [] pos :: rest) env N R s := by
  refine S_for_ (h₀ := h₀) (L := L) (G := G) (O := O) (wpAny_mono h (fun xv s₁ h₁ => ?_) fun _ _ x => x) hL hk hl hs
  obtain ⟨rfl, m, own, F, h0⟩ := h₁
  have hls := F.keep _ _ hl0
  refine wpAny_pyIter_tuple (isTp hls) ?_
  have hne : l ≠ s₁.heap.objs.size := Nat.ne_of_lt (Heap.lt_size hls)
  have W := Walks.tuple (prog := prog) (w := w) hh s₁.heap.objs.size l hne xs.toArray
  rw [List.size_toArray] at W
  refine ⟨_, _, _, xs.length, _, _, Inv, m, own, rfl, W, addAt (F.alloc rfl), ⟨⟨_, Heap.get?_push_size _ rfl, rfl, rfl⟩, isTp (Heap.get?_push_of_some _ hls)⟩, ?_, ?_, h0, ?_, fin⟩
  · intro b hb
    rcases List.mem_cons.mp hb with rfl | hb
    · exact .inl rfl
    · rw [List.mem_singleton.mp hb]; exact .inr ⟨_, hl0⟩
  · rintro i h ⟨⟨o, ho, _⟩, _⟩; exact ⟨o, ho⟩
  · intro i v m own o s hi hP hI F
    exact turn i v m own o _ s (by simpa using hP) hI F

theorem enum_obj {h : Heap} {e it : Addr} {i : Int} {old : Value} (x : IsEnum h e it i old) : ∃ o, h.get? e = some o ∧ ∀ h' : Heap, h'.get? e = some o → IsEnum h' e it i old := ⟨_, x, fun _ y => y⟩
/-- for i, x in enumerate(a list) -/
theorem S_for_enum {m₀ : Str → Option Value} {own₀ : Led} {s₀ : Shared} {iter : Expr} {xi xv : Str} {k : Nat} {pi pv tp pos : Pos} {l : Addr} {xs : List Value} {n : Nat} {body : List Stmt} (_F : Fm h₀ L m₀ own₀ G O s₀) (hh : A.handled = none) (Inv : Nat → (Str → Option Value) → Led → Prop)
    (hl0 : h₀.get? l = some (lst xs n))
    (h : wpE (model prog w) A iter env (fun xv s₁ => ∃ e it oe oi m own, xv = .ref e ∧ e ≠ it ∧ Fm h₀ L m (own ++ [(e, oe), (it, oi)]) G O s₁ ∧ IsEnum s₁.heap e it 0 .none ∧ s₁.heap.IsListIter it l 0 ∧ Inv 0 m own) s)
    (turn : ∀ i v t m own X s, xs[i]? = some v → Inv i m own → Fm h₀ L (put (put m xi (.int (i : Nat) t)) xv v) (own ++ X) G O s →
        wpS (model prog w) A body env (fun s' => ∃ m' own', Inv (i + 1) m' own' ∧ Fm h₀ L m' (own' ++ X) G O s') R s)
    (fin : ∀ m own s, Inv xs.length m own → Fm h₀ L m own G O s → wpS (model prog w) A rest env N R s)
    (hL : env.locals = L := by rfl) (hk : env.scope.kind = .function := by rfl) (hli : env.kindOf xi = some .local := by rfl) (hlv : env.kindOf xv = some .local := by rfl)
    (hs : ∀ x, foldedSetIterable iter env x = pure x := by intro _; rfl) : wpS (model prog w) A (.For (.Tuple [.Name xi pi, .Name xv pv] k tp) iter body [] pos :: rest) env N R s := by
  refine S_cons (wpAny_For (wpAny_mono h (fun xval s₁ h₁ => ?_) fun _ _ x => x) hs)
  obtain ⟨e, it, oe, oi, m, own, rfl, hei, F, he, hit, h0⟩ := h₁
  refine wpAny_pyIter_enum he ?_
  refine codeAny_forLoop_any (fun k s' => ∃ (i : Nat) (old : Value) (m : Str → Option Value) (own : Led) (oe oi : Obj), Fm h₀ L m (own ++ [(e, oe), (it, oi)]) G O s' ∧ IsEnum s'.heap e it (i : Nat) old ∧ s'.heap.IsListIter it l i ∧ Inv i m own ∧ i ≤ xs.length ∧ k = xs.length + 1 - i) ?_ (xs.length + 1)
    ⟨0, .none, m, own, oe, oi, F, he, hit, h0, Nat.zero_le _, rfl⟩
  rintro k s' ⟨i, old, m', own', oe', oi', F', he', hit', hI, hi, rfl⟩
  have hl' := F'.keep _ _ hl0
  have hle : l ≠ e := fun q => by have := (F'.nw (e, oe') (by simp)).2.2; rw [← q, hl0] at this; cases this
  have hlit : l ≠ it := fun q => by have := (F'.nw (it, oi') (by simp)).2.2; rw [← q, hl0] at this; cases this
  cases hv : xs[i]? with
  | none =>
    have hsz : i = xs.length := Nat.le_antisymm hi (by simpa using hv)
    subst hsz
    refine wpAny_pyNext_enum_end hh he' hit' (isL hl') (by simpa using hv) fun h₁ he₁ => wpAny_execs_nil ?_
    have F₁ := F'.tail (X := [(e, oe'), (it, oi')]) (X' := []) (h' := h₁) (t := s'.toks) (fun b x hb hx => he₁ b x (fun q => hb (by simp [q])) hx) (List.nil_sublist _) (fun _ q => nomatch q)
    rw [List.append_nil] at F₁
    exact fin m' own' _ hI F₁
  | some v =>
    have hlt : i < xs.length := (List.getElem?_eq_some_iff.mp hv).1
    have heH : e < s'.heap.objs.size := Heap.lt_size he'
    refine wpAny_pyNext_enum_item he' hit' (isL hl') (by simpa using hv) hei fun h₁ heo hit₁ ht₁ hz₁ hk₁ => ?_
    refine wpAny_letOwnedTupleGo_enum heo fun h₂ he₂ hs₂ => ?_
    replace hs₂ : Heap.SameBut e h₁ h₂ := hs₂
    have ht₂ : h₂.IsTuple s'.heap.objs.size #[.int i s'.toks, v] := ⟨_, (hs₂.2 _ (Nat.ne_of_gt heH)).trans ht₁, rfl, _, rfl⟩
    obtain ⟨oi₁, hoi₁, hoi₁'⟩ := hit₁
    obtain ⟨oe₂, hoe₂, hoe₂'⟩ := enum_obj he₂
    have hoi₂ : h₂.get? it = some oi₁ := hs₂.extBut _ _ (Ne.symm hei) hoi₁
    have F₂ := F'.tail (X := [(e, oe'), (it, oi')]) (X' := [(e, oe₂), (it, oi₁)]) (h' := h₂) (t := s'.toks + 1) (fun b x hb hx => by
      simp only [List.map_cons, List.map_nil, List.mem_cons, List.not_mem_nil, or_false, not_or] at hb
      exact hs₂.extBut b x hb.1 (hk₁ b x hb.1 hb.2 hx)) (List.Sublist.refl _) (fun p hp => by
      rcases List.mem_cons.mp hp with rfl | hp
      · exact hoe₂
      · rw [List.mem_singleton.mp hp]; exact hoi₂)
    refine wpAny_assign_Tuple hh ht₂ rfl rfl fun h₃ hx₃ => ?_
    have F₃ := F₂.pur (s' := { s' with heap := h₃, toks := s'.toks + 1 }) ⟨fun b o q => hx₃ b o (Nat.ne_of_lt (Heap.lt_size q)) q, rfl, rfl⟩
    show wpAny _ A (do holding [v] (assign (.Name xi pi) env (.int i s'.toks)); do holding [] (assign (.Name xv pv) env v); pure ()) _ _ _
    refine wpAny_bind (wpAny_holding (wpAny_assign_Name (wpAny_mono (stL (E := NR) F₃ (Q := fun _ s₄ => wpAny (model prog w) A (storeName env xv v) (fun _ s₅ => wpAny (model prog w) A (execs body env) (fun f s₃ => match f with
          | .next | .cont => ∃ m, m < xs.length + 1 - i ∧ ∃ (i : Nat) (old : Value) (m' : Str → Option Value) (own : Led) (oe oi : Obj), Fm h₀ L m' (own ++ [(e, oe), (it, oi)]) G O s₃ ∧ IsEnum s₃.heap e it (i : Nat) old ∧ s₃.heap.IsListIter it l i ∧ Inv i m' own ∧ i ≤ xs.length ∧ m = xs.length + 1 - i
          | .brk => False
          | .ret v => R v s₃) NR s₅) NR s₄) (fun s₄ F₄ => ?_) hL hk hli) (fun _ _ y => ?_) fun _ _ z => z.elim)))
    · refine stL (E := NR) F₄ (fun s₅ F₅ => ?_) hL hk hlv
      refine wpAny_mono (turn i v s'.toks m' own' _ s₅ hv hI F₅) (fun f s₆ y => ?_) fun _ _ y => y
      cases f with
      | next =>
        obtain ⟨m₆, own₆, hI₆, F₆⟩ := y
        refine ⟨xs.length + 1 - (i + 1), by omega, i + 1, v, m₆, own₆, _, oi₁, F₆, ?_, ⟨oi₁, F₆.mem (by simp), hoi₁'⟩, hI₆, hlt, rfl⟩
        have := hoe₂' _ (F₆.mem (a := e) (o := oe₂) (by simp))
        have ec : ((i + 1 : Nat) : Int) = (i : Int) + 1 := by push_cast; rfl
        rw [ec]; exact this
      | ret v => exact y
      | brk => exact y.elim
      | cont => exact y.elim
    · refine wpAny_bind (wpAny_holding (wpAny_assign_Name (wpAny_mono y (fun _ _ z => wpAny_pure (wpAny_mono z (fun f s₃ z => ?_) fun _ _ z => z.elim)) fun _ _ z => z.elim)))
      cases f <;> first | exact z | exact z.elim
/-- enumerate(l) -/
theorem enum_l {l : Addr} {xs : List Value} {n : Nat} {Q : Value → Shared → Prop} (F : Fm h₀ L m own G O s) (hl : s.heap.get? l = some (lst xs n))
    (h : ∀ e it oe oi s', e ≠ it → Fm h₀ L m (own ++ [(e, oe), (it, oi)]) G O s' → IsEnum s'.heap e it 0 .none → s'.heap.IsListIter it l 0 → Q (.ref e) s') : wpAny (model prog w) A (call (.type "enumerate") [.ref l]) Q NR s := by
  refine call_enumerate_list (isL hl) fun h' he hit hz hk => ?_
  obtain ⟨oi, hoi, hoi'⟩ := hit
  have F1 := F.add (s' := { s with heap := h' }) (a := s.heap.objs.size) ⟨hk, rfl, rfl⟩ (fresh_size _) hoi
  obtain ⟨oe, he', -⟩ := enum_obj he
  refine h _ s.heap.objs.size oe oi { s with heap := h' } (Nat.succ_ne_self _) ?_ he ⟨oi, hoi, hoi'⟩
  refine ⟨F1.fr, fun q hq => ?_, ?_, F1.gens, F1.os⟩
  · rcases List.mem_append.mp hq with hq | hq
    · exact F1.nw q (.tail _ hq)
    · rcases List.mem_cons.mp hq with rfl | hq
      · have hnone : s.heap.get? (s.heap.objs.size + 1) = none := by
          cases q : s.heap.get? (s.heap.objs.size + 1) with
          | none => rfl
          | some o => exact absurd (Heap.lt_size q) (Nat.not_lt.mpr (Nat.le_succ _))
        refine ⟨he', fun q => ?_, fresh_of F hnone⟩
        have := F.fr.ns.lt
        rw [← q] at this
        exact absurd this (Nat.not_lt.mpr (Nat.le_succ _))
      · rw [List.mem_singleton.mp hq]; exact F1.nw _ (.head _)
  · have nd := F1.nd
    rw [List.map_cons, List.nodup_cons] at nd
    rw [List.map_append, List.nodup_append]
    have hlt : ∀ a ∈ own.map (·.1), a < s.heap.objs.size := fun a ha => by
      obtain ⟨q, hq, rfl⟩ := List.mem_map.mp ha
      exact Heap.lt_size (F.nw q hq).1
    refine ⟨nd.2, by simp, fun a ha b hb => ?_⟩
    have := hlt a ha
    simp only [List.map_cons, List.map_nil, List.mem_cons, List.not_mem_nil, or_false] at hb
    rcases hb with rfl | rfl
    · exact Nat.ne_of_lt (Nat.lt_succ_of_lt this)
    · exact Nat.ne_of_lt this
end
end Mine

end MH_part
section MI_part
namespace Mine
open PySem PySem.W PySem.Calls PySem.Spec PyProof.Rows

section
variable {prog : Program} {w : World} {A : Around} {E : Value → Shared → Prop} {s : Shared} {env : Env} {K : Frag} {hp : Heap} {Q : Value → Shared → Prop}
theorem eq_tt {a b : Addr} {x y p q : Int} {t1 t2 t3 t4 : Tok} {n k : Nat} {hp : Heap} (ha : hp.get? a = some (tup [.int x t1, .int y t2] n)) (hb : hp.get? b = some (tup [.int p t3, .int q t4] k)) (hu : A.units < cLine) (h : Q (.bool (x == p && y == q)) s) (hs : s.heap = hp := by rfl) :
    wpAny (model prog w) A (compareOp .Eq (.ref a) (.ref b)) Q E s := by
  subst hs
  refine PySem.SeqAt.eq_tupleAt (e := fun j => if j = 0 then x == p else y == q) (isTp ha) (isTp hb) hu (fun j h1 h2 => ?_) ?_
  · match j, h1 with
    | 0, _ => exact PySem.SeqAt.EqAt.int_int _ _ _ _
    | 1, _ => exact PySem.SeqAt.EqAt.int_int _ _ _ _
  · have e : ((List.range (min ([Value.int x t1, .int y t2].toArray).size ([Value.int p t3, .int q t4].toArray).size)).all (fun j => if j = 0 then x == p else y == q) && ([Value.int x t1, .int y t2].toArray).size == ([Value.int p t3, .int q t4].toArray).size) = (x == p && y == q) := by
      simp [List.range, List.range.loop]
    rw [e]; exact h
theorem holds_tup {a : Addr} {x y p : Int} {t1 t2 u : Tok} {n : Nat} (Y : Lay K) (C : Cx K hp) (r : Rm A 2) (ha : hp.get? a = some (tup [.int x t1, .int y t2] n)) (ret : ∀ s', Pur s s' → Q (.bool (x == p && y == 1)) s') (hs : s.heap = hp := by rfl) :
    wpAny (model prog w) A (call (.ref 192) [.ref a, .int p u]) Q E s := by
  subst hs
  refine enter0 Y.f_holds C r ["value", "position"] (fun L s₁ F => ?_)
  have r' := r.deeper (envF "holds" (stmtAt 27) L 192)
  refine S_if (T_val (E_bi (F.cx C) Y.b_isinstance bb_isinstance (by simp) (nmL F rfl (nmB (F.cx C) Y.b_tuple bb_tuple (PySem.IsiPair.tuple_tuple (F.keep _ _ ha) rfl (tr_bool ?_)) (by decide +kernel))) (by decide +kernel)))
  refine S_ret (E_cmp (nmL F rfl (E_tup (nmL F rfl (E_int (newT (F.tok _) (fun b s₂ F => eq_tt (F.keep _ _ ha) (F.at 0 rfl) r'.units (ret _ F.back))))))))
theorem holds_bool {b : Bool} {p : Int} {u : Tok} (Y : Lay K) (C : Cx K hp) (r : Rm A 2) (ret : ∀ s', Pur s s' → Q (.bool b) s') (hs : s.heap = hp := by rfl) :
    wpAny (model prog w) A (call (.ref 192) [.bool b, .int p u]) Q E s := by
  subst hs
  refine enter0 Y.f_holds C r ["value", "position"] (fun L s₁ F => ?_)
  refine S_if (T_val (E_bi (F.cx C) Y.b_isinstance bb_isinstance (by simp) (nmL F rfl (nmB (F.cx C) Y.b_tuple bb_tuple (PySem.IsiPair.bool_tuple (tr_bool ?_)) (by decide +kernel))) (by decide +kernel)))
  have F := F.tok (s₁.toks + 1)
  refine S_nil (S_if (T_val (E_bi (F.cx C) Y.b_isinstance bb_isinstance (by simp) (nmL F rfl (nmB (F.cx C) Y.b_bool bb_bool (PySem.IsiPair.bool_bool (tr_bool ?_)) (by decide +kernel))) (by decide +kernel))))
  exact S_ret (nmL F rfl (ret _ F.back))
theorem holds_str {x : Str} {t : Tok} {p : Int} {u : Tok} (Y : Lay K) (C : Cx K hp) (r : Rm A 2) (hx : x.length ≤ 1000) (ret : ∀ s', Pur s s' → Q (.bool (decide (0 < x.length))) s') (hs : s.heap = hp := by rfl) :
    wpAny (model prog w) A (call (.ref 192) [.str x t, .int p u]) Q E s := by
  subst hs
  refine enter0 Y.f_holds C r ["value", "position"] (fun L s₁ F => ?_)
  refine S_if (T_val (E_bi (F.cx C) Y.b_isinstance bb_isinstance (by simp) (nmL F rfl (nmB (F.cx C) Y.b_tuple bb_tuple (PySem.IsiPair.str_tuple (tr_bool ?_)) (by decide +kernel))) (by decide +kernel)))
  have F := F.tok (s₁.toks + 1)
  refine S_nil (S_if (T_val (E_bi (F.cx C) Y.b_isinstance bb_isinstance (by simp) (nmL F rfl (nmB (F.cx C) Y.b_bool bb_bool (PySem.IsiPair.str_bool (tr_bool ?_)) (by decide +kernel))) (by decide +kernel))))
  have F := F.tok (s₁.toks + 1 + 1)
  refine S_nil (S_ret (E_cmp (E_bi (F.cx C) Y.b_len bb_len (by simp) (nmL F rfl (PySem.P.len_str (by omega) ?_)) (by decide +kernel))))
  refine E_int (cmp_gt ?_)
  have e : decide ((0 : Int) < (x.length : Int)) = decide (0 < x.length) := by simp
  rw [e]
  exact ret _ (((F.tok _).tok _).back)
theorem holds_list {a : Addr} {xs : List Value} {n : Nat} {p : Int} {u : Tok} (Y : Lay K) (C : Cx K hp) (r : Rm A 2) (ha : hp.get? a = some (lst xs n)) (hx : xs.length ≤ 1000) (ret : ∀ s', Pur s s' → Q (.bool (decide (0 < xs.length))) s') (hs : s.heap = hp := by rfl) :
    wpAny (model prog w) A (call (.ref 192) [.ref a, .int p u]) Q E s := by
  subst hs
  refine enter0 Y.f_holds C r ["value", "position"] (fun L s₁ F => ?_)
  refine S_if (T_val (E_bi (F.cx C) Y.b_isinstance bb_isinstance (by simp) (nmL F rfl (nmB (F.cx C) Y.b_tuple bb_tuple (PySem.IsiPair.list_tuple (F.keep _ _ ha) rfl (tr_bool ?_)) (by decide +kernel))) (by decide +kernel)))
  have F := F.tok (s₁.toks + 1)
  refine S_nil (S_if (T_val (E_bi (F.cx C) Y.b_isinstance bb_isinstance (by simp) (nmL F rfl (nmB (F.cx C) Y.b_bool bb_bool (PySem.IsiPair.list_bool (F.keep _ _ ha) rfl (tr_bool ?_)) (by decide +kernel))) (by decide +kernel))))
  have F := F.tok (s₁.toks + 1 + 1)
  refine S_nil (S_ret (E_cmp (E_bi (F.cx C) Y.b_len bb_len (by simp) (nmL F rfl (len_l (F.keep _ _ ha) (by omega) fun t s₂ p => ?_)) (by decide +kernel))))
  have F := F.pur p
  refine E_int (cmp_gt ?_)
  have e : decide ((0 : Int) < (xs.length : Int)) = decide (0 < xs.length) := by simp
  rw [e]
  exact ret _ ((F.tok _).back)

/-- the function that tells a predicate's value -/
structure ValOf (prog : Program) (w : World) (K : Frag) (h : Heap) (f : Addr) : Prop where
  tell : ∀ {A : Around} {Q : Value → Shared → Prop} {s : Shared} {p : Value} {n a z : Value}, Cx K s.heap → (∀ b o, h.get? b = some o → s.heap.get? b = some o) → Rm A 1 →
    (∀ x t s', Pur s s' → s.heap.get? x = none → s'.heap.get? x = some (tup [p, .int 1 t] 0) → Q (.ref x) s') → wpAny (model prog w) A (call (.ref f) [p, n, a, z]) Q NR s
  keep : ∀ {h'}, (∀ b o, h.get? b = some o → h'.get? b = some o) → ∃ k, (k = Keeper.frame ∨ k = Keeper.machine ∨ k = Keeper.boundFrame) ∧ Looks (model prog w) h' (keeperOf (.ref f)) k
theorem ValOf.keeps {h h' : Heap} {f : Addr} (x : ValOf prog w K h f) (k : ∀ b o, h.get? b = some o → h'.get? b = some o) : ValOf prog w K h' f :=
  ⟨fun C k' => x.tell C fun b o e => k' b o (k b o e), fun k' => x.keep fun b o e => k' b o (k b o e)⟩

/-- the predicates of a step: none or one place -/
noncomputable def Preds (pos : Option Nat) (t : Tok) : List Value := match pos with
  | none => []
  | some p => [.int (p : Int) t]
noncomputable def pick (pos : Option Nat) (ns : List Nat) : List Nat := match pos with
  | none => ns
  | some p => (ns.drop (p - 1)).take 1

theorem kept_spec {a b f : Addr} {xs : List Value} {ns : List Nat} {n k : Nat} {t : Tok} {pos : Option Nat} (Y : Lay K) (C : Cx K hp) (r : Rm A 4) (ha : hp.get? a = some (lst xs n)) (hx : NatsAre xs ns) (hsz : ns.length ≤ 64) (hb : hp.get? b = some (tup (Preds pos t) k)) (hp1 : ∀ p, pos = some p → 1 ≤ p)
    (V : ValOf prog w K hp f)
    (ret : ∀ c ys n' s', Pur s s' → s'.heap.get? c = some (lst ys n') → NatsAre ys (pick pos ns) → Q (.ref c) s') (hs : s.heap = hp := by rfl) :
    wpAny (model prog w) A (call (.ref 199) [.ref a, .ref b, .ref f]) Q E s := by
  subst hs
  refine enter0 Y.f_kept C r ["nodes", "predicates", "value_of"] (fun L s₁ F => ?_)
  have r' := r.deeper (envF "kept" (stmtAt 28) L 199)
  have hxl := hx.length
  cases pos with
  | none =>
    refine S_for_tup r'.h (fun i m own => i = 0 ∧ m "nodes" = some (.ref a)) hb (nmL F rfl ⟨rfl, _, _, F, rfl, rfl⟩) (fun i v m own o I s₂ hv _ _ => nomatch hv) fun m own s₂ hI F => ?_
    exact S_ret (nmL F hI.2 (ret a xs n _ F.back (F.keep _ _ ha) hx))
  | some p =>
    have hp1 := hp1 p rfl
    refine S_for_tup r'.h (fun i m own => m "value_of" = some (.ref f) ∧ ((i = 0 ∧ m "nodes" = some (.ref a)) ∨ (i = 1 ∧ ∃ c ys n', m "nodes" = some (.ref c) ∧ (c, lst ys n') ∈ own ∧ NatsAre ys (pick (some p) ns)))) hb (nmL F rfl ⟨rfl, _, _, F, rfl, .inl ⟨rfl, rfl⟩⟩) (fun i v m own o I s₂ hv hI F => ?_) fun m own s₂ hI F => ?_
    · have hi : i = 0 := by
        match i, hv with
        | 0, _ => rfl
      subst hi
      have hv' : v = .int (p : Int) t := by cases hv; rfl
      subst hv'
      obtain ⟨mv, mn⟩ := hI
      have mn : m "nodes" = some (.ref a) := by
        rcases mn with ⟨-, h⟩ | ⟨h, -⟩
        · exact h
        · cases h
      refine S_asg (E_bi (F.cx C) Y.b_len bb_len (by simp) (nmL F (put_ne mn) (len_l (F.keep _ _ ha) (by omega) fun tz s₃ q => ?_)) (by decide +kernel))
      have F := F.pur q
      refine stL F (fun s₄ F => ?_)
      refine S_asg (E_list (newL F fun c s₅ F => ?_))
      refine stL F (fun s₆ F => ?_)
      refine S_for_enum F r'.h (fun i m' own' => ∃ ys n', own' = (c, lst ys n') :: (own ++ [(I, o)]) ∧ NatsAre ys (if i < p then [] else pick (some p) ns) ∧ m' "value_of" = some (.ref f) ∧ m' "predicate" = some (.int (p : Int) t) ∧ m' "nodes" = some (.ref a) ∧ m' "size" = some (.int xs.length tz) ∧ m' "found" = some (.ref c)) ha
        (E_bi (F.cx C) Y.b_enumerate bb_enumerate (by simp) (nmL F (put_ne (put_ne (put_ne mn))) (enum_l F (F.keep _ _ ha) fun e it oe oi s₇ hne F he hit => ?_)) (by decide +kernel)) (fun i v u m' own' X s₇ hv hI F => ?_) fun m' own' s₇ hI F => ?_
      · exact ⟨e, it, oe, oi, _, _, rfl, hne, F, he, hit, [], 0, rfl, by rw [if_pos (by omega)]; exact .nil, put_ne (put_ne (put_ne mv)), put_ne (put_ne put_same), put_ne (put_ne (put_ne mn)), put_ne put_same, put_same⟩
      · obtain ⟨ys, n', rfl, hy, m1, m2, m3, m4, m5⟩ := hI
        refine S_if (T_val (E_fn Y.f_holds (F.cx C) Y.n_holds (E_call (P := fun h => ∀ b o, s.heap.get? b = some o → h.get? b = some o) (.ref f) (fun Q' q => nmL F (put_ne (put_ne m1)) q) (fun h' k' => V.keep k') (nmL F (put_ne (put_ne m2)) (nmL F put_same (E_bin (nmL F (put_ne put_same) (E_int (PyProof.Rows.add_int (nmL (F.tok _) (put_ne (put_ne m4)) ⟨(F.tok _).keep, ?_⟩))))))))))
        refine V.tell ((F.tok _).cx C) (F.tok _).keep (r'.mono (by omega)) fun x tx s₈ q hn hx2 => ?_
        have F := ((F.tok _).pur q).tok s₈.toks
        have F := (F.pur (Pur.rfl' _)).tok s₈.toks
        refine E_bin (nmL F (put_ne put_same) (E_int (PyProof.Rows.add_int ⟨(F.tok _).cx C, ?_⟩)))
        refine holds_tup Y ((F.tok _).cx C) (r'.mono (by omega)) hx2 fun s₉ q => ?_
        have F := (F.tok _).pur q
        refine tr_bool ?_
        have hil := (List.getElem?_eq_some_iff.mp hv).1
        have hb1 : ((p : Int) == (i : Nat) + 1 && (1 : Int) == 1) = decide (p = i + 1) := by
          rw [show ((1 : Int) == 1) = true from rfl, Bool.and_true]
          cases q : decide (p = i + 1) with
          | true => rw [decide_eq_true_eq] at q; subst q; simp
          | false => rw [decide_eq_false_iff_not] at q; rw [beq_eq_false_iff_ne]; intro e; exact q (by omega)
        rw [hb1]
        by_cases hpi : p = i + 1
        · rw [decide_eq_true hpi]
          rw [if_pos (by omega)] at hy
          have hy0 := hy.nil_inv
          subst hy0
          refine S_exp (E_methB PySem.F.plainAttrs_list PySem.F.slot_list_append PySem.F.type_list_append (nmL F (put_ne (put_ne m5)) ⟨typeL (F.at 0 rfl), noD (F.at 0 rfl), nmL F put_same (l_append F 0 rfl (by simp) fun n'' s₁₂ F => ?_)⟩))
          refine S_nil (S_nil ⟨_, _, ⟨_, n'', rfl, ?_, put_ne (put_ne m1), put_ne (put_ne m2), put_ne (put_ne m3), put_ne (put_ne m4), put_ne (put_ne m5)⟩, F⟩)
          rw [if_neg (by omega)]
          obtain ⟨nn, tn, rfl, hnn⟩ := hx.at hv
          have e : pick (some p) ns = [nn] := by
            show (ns.drop (p - 1)).take 1 = [nn]
            have hnl := (List.getElem?_eq_some_iff.mp hnn)
            obtain ⟨h1, h2⟩ := hnl
            rw [hpi, Nat.add_sub_cancel, List.drop_eq_getElem_cons h1, h2]; rfl
          rw [e]
          exact NatsAre.cons .nil
        · rw [decide_eq_false hpi]
          refine S_nil (S_nil ⟨_, _, ⟨ys, n', rfl, ?_, put_ne (put_ne m1), put_ne (put_ne m2), put_ne (put_ne m3), put_ne (put_ne m4), put_ne (put_ne m5)⟩, F⟩)
          by_cases h : i < p
          · rw [if_pos h] at hy; rw [if_pos (by omega)]; exact hy
          · rw [if_neg h] at hy; rw [if_neg (by omega)]; exact hy
      · obtain ⟨ys, n', rfl, hy, m1, m2, m3, m4, m5⟩ := hI
        refine S_asg (nmL F m5 (stL F (fun s₈ F => S_nil ?_)))
        refine ⟨_, (c, lst ys n') :: own, ⟨put_ne m1, .inr ⟨rfl, c, ys, n', put_same, .head _, ?_⟩⟩, F⟩
        by_cases h : xs.length < p
        · rw [if_pos h] at hy
          have e : pick (some p) ns = [] := by
            show (ns.drop (p - 1)).take 1 = []
            rw [List.drop_of_length_le (by omega)]; rfl
          rw [e]; exact hy
        · rw [if_neg h] at hy; exact hy
    · obtain ⟨-, ⟨h, -⟩ | ⟨-, c, ys, n', mn, hm, hy⟩⟩ := hI
      · cases h
      · exact S_ret (nmL F mn (ret c ys n' _ F.back (F.mem hm) hy))
end
end Mine

end MI_part
section MJ_part
namespace Mine
open PySem PySem.W PySem.Calls PySem.Spec PyProof.Rows

section
variable {prog : Program} {w : World} {A : Around} {s s₁ : Shared} {env : Env} {K : Frag} {h₀ : Heap} {L : Addr} {m : Str → Option Value} {own : Led} {G : Array GenState} {O : OsState} {N : Shared → Prop} {R : Value → Shared → Prop} {rest : List Stmt}
/-- tests of a comprehension -/
noncomputable def wpTs (M : Model) (A : Around) (ifs : List Expr) (env : Env) (Q : Bool → Shared → Prop) (s : Shared) : Prop :=
  wpAny M A (forIn ifs true fun c r => if r = true then do let ok ← isTrue c env (eval c env); pure (ForInStep.yield ok) else pure (ForInStep.yield r)) Q NR s
theorem ts_nil {Q : Bool → Shared → Prop} (h : Q true s) : wpTs (model prog w) A [] env Q s := wpAny_tests_nil h
theorem ts_one {c : Expr} {Q : Bool → Shared → Prop} (h : wpT (model prog w) A c env Q s) : wpTs (model prog w) A [c] env Q s := wpAny_tests_one h

theorem Fm.ins {a : Addr} {o : Obj} (F : Fm h₀ L m own G O s) (ho : s.heap.get? a = some o) (h0 : h₀.get? a = none) (hL : a ≠ L) (hn : a ∉ own.map (·.1)) : Fm h₀ L m ((a, o) :: own) G O s :=
  ⟨F.fr, fun q hq => by
    rcases List.mem_cons.mp hq with rfl | hq
    · exact ⟨ho, hL, h0⟩
    · exact F.nw q hq, by rw [List.map_cons, List.nodup_cons]; exact ⟨hn, F.nd⟩, F.gens, F.os⟩
theorem Fm.notIn {a : Addr} (F : Fm h₀ L m own G O s) (h : s.heap.get? a = none) : a ∉ own.map (·.1) := fun hm => by
  obtain ⟨q, hq, rfl⟩ := List.mem_map.mp hm
  have := (F.nw q hq).1; rw [h] at this; cases this
theorem Fm.notL {a : Addr} (F : Fm h₀ L m own G O s) (h : s.heap.get? a = none) : a ≠ L := fun e => by
  obtain ⟨oL, _, _, hL, _⟩ := F.fr.ns
  rw [e, hL] at h; cases h

/-- back from a comprehension's own names -/
theorem comp_out {X Z : Led} {C D : Addr} {ys : List Value} {k : Nat} {m' : Str → Option Value} (F : Fm h₀ L m (own ++ X) G O s₁) (Fb : Fm (hideAll s₁.heap (X.map (·.1))) C m' (Z ++ [(D, lst ys k)]) G O s)
    (hZ : Z.map (·.1) = X.map (·.1)) (hD : s₁.heap.get? D = none) (hC : s₁.heap.get? C = none) (hDC : D ≠ C) :
    ∃ oC, Fm h₀ L m ((C, oC) :: (D, lst ys k) :: (own ++ Z)) G O s ∧ ∀ h : Heap, h.get? C = some oC → h.Ns C m' := by
  have F2 := F.tail (X' := Z) (h' := s.heap) (t := s.toks) (fun b x hb e => Fb.keep b x (hideAll_get _ e hb)) (by rw [hZ]; exact .refl _) (fun p hp => (Fb.nw p (List.mem_append_left _ hp)).1)
  have F3 : Fm h₀ L m (own ++ Z) G O s := ⟨F2.fr, F2.nw, F2.nd, Fb.gens, Fb.os⟩
  have nin : ∀ a, s₁.heap.get? a = none → a ∉ (own ++ Z).map (·.1) := fun a ha => by
    have := F.notIn ha
    rw [List.map_append] at this ⊢
    rw [hZ]; exact this
  have F4 := F3.ins (a := D) (o := lst ys k) (Fb.mem (by simp)) (fresh_of F hD) (F.notL hD) (nin D hD)
  obtain ⟨oC, es, ep, ho, r⟩ := Fb.fr.ns
  refine ⟨oC, F4.ins ho (fresh_of F hC) (F.notL hC) ?_, fun h hh => ⟨oC, es, ep, hh, r⟩⟩
  rw [List.map_cons, List.mem_cons, not_or]
  exact ⟨Ne.symm hDC, nin C hC⟩

theorem comp_core {elt iter : Expr} {x : Str} {px : Pos} {ifs : List Expr} {scope : Scope} {cl : List (Str × Addr)} {pos : Pos} {oI : Obj} {fp : List Addr} {cnt : Nat} {P : Nat → Value → Prop} {St : Nat → Heap → Prop} {RR : Value → Addr → Result → Shared → Prop}
    (W : Walks prog w A s₁.heap.objs.size fp [s₁.heap.objs.size] cnt P St) (hsz : cnt ≤ 1000) (Inv : Nat → List Value → Led → Prop) (X : Led) (F : Fm h₀ L m (own ++ X) G O s₁) (hf : oI.isFreed = false)
    (hst : St 0 (s₁.heap.push oI)) (hfp : ∀ b ∈ fp, b = s₁.heap.objs.size ∨ ∃ o, (hideAll s₁.heap (X.map (·.1))).get? b = some o) (hlive : ∀ i h, St i h → ∃ o, h.get? s₁.heap.objs.size = some o)
    (h0 : Inv 0 [] X) (hZ : ∀ i ys Z, Inv i ys Z → Z.map (·.1) = X.map (·.1))
    (hcell : ∀ y ∈ scope.names, y.2 ≠ .cell) (hkind : scope.kind = .function) (hx : scope.names.lookup x = some .local)
    (turn : ∀ i v ys m' Z D k o C s, i < cnt → P i v → Inv i ys Z → Fm (hideAll s₁.heap (X.map (·.1))) C (put m' x v) (Z ++ [(D, lst ys k), (s₁.heap.objs.size, o)]) G O s →
      wpTs (model prog w) A ifs (compEnvC scope cl C env) (fun ok s' => match ok with
        | true => wpE (model prog w) A elt (compEnvC scope cl C env) (fun y s'' => ∃ Z' m'', Inv (i + 1) (ys ++ [y]) Z' ∧ Fm (hideAll s₁.heap (X.map (·.1))) C m'' (Z' ++ [(D, lst ys k), (s₁.heap.objs.size, o)]) G O s'') s'
        | false => ∃ Z' m'', Inv (i + 1) ys Z' ∧ Fm (hideAll s₁.heap (X.map (·.1))) C m'' (Z' ++ [(D, lst ys k), (s₁.heap.objs.size, o)]) G O s') s)
    (fin : ∀ D C oC ys Z k m' s', Inv cnt ys Z → Fm h₀ L m ((C, oC) :: (D, lst ys k) :: (own ++ Z)) G O s' → (∀ h : Heap, h.get? C = some oC → h.Ns C m') → RR (.ref D) C (.ok .next) s') :
    wpAny (model prog w) A (newList []) (fun acc s₃ => wpAny (model prog w) A (newFunctionEnv scope env.globals cl [] env.qual none .none (some env)) (fun cenv s₄ =>
      codeAny (model prog w) A (.compStart (.ListComp elt [⟨.Name x px, iter, ifs, 0⟩] scope pos) 0 (.ref s₁.heap.objs.size) acc { cenv with scope := relabel scope env }) (RR acc cenv.locals) s₄) NR s₃) NR { s₁ with heap := s₁.heap.push oI } := by
  refine wpAny_newObj_type (wpAny_newFunctionEnv hcell (by intro y hy; simp at hy) (fun h₁ hns₁ hsb₁ => ?_) hkind)
  dsimp only at hns₁ hsb₁ ⊢
  generalize hH1 : s₁.heap.push oI = H1 at hns₁ hsb₁ hst ⊢
  have hD : H1.objs.size = s₁.heap.objs.size + 1 := by rw [← hH1, Heap.size_push]
  generalize hH2 : H1.push { cls := .type "list", dict := none, data := .seq ([] : List Value).toArray } = H2 at hns₁ hsb₁ ⊢
  have hC : H2.objs.size = s₁.heap.objs.size + 2 := by rw [← hH2, Heap.size_push, hD]
  have hDI : H1.objs.size ≠ s₁.heap.objs.size := by rw [hD]; exact Nat.succ_ne_self _
  have hDC : H1.objs.size ≠ H2.objs.size := by rw [hD, hC]; exact Nat.ne_of_lt (Nat.lt_succ_self _)
  have hIC : s₁.heap.objs.size ≠ H2.objs.size := by rw [hC]; exact Nat.ne_of_lt (Nat.lt_succ_of_lt (Nat.lt_succ_self _))
  have below : ∀ b, b < s₁.heap.objs.size → b ≠ H2.objs.size ∧ b ≠ s₁.heap.objs.size ∧ b ≠ H1.objs.size := fun b hb =>
    ⟨by rw [hC]; exact Nat.ne_of_lt (Nat.lt_succ_of_lt (Nat.lt_succ_of_lt hb)), Nat.ne_of_lt hb, by rw [hD]; exact Nat.ne_of_lt (Nat.lt_succ_of_lt hb)⟩
  have old1 : ∀ b o, b ≠ H2.objs.size → H1.get? b = some o → h₁.get? b = some o := fun b o hb e => hsb₁.extBut b o hb (Heap.get?_push_of_some _ (hH2 ▸ Heap.get?_push_of_some _ e))
  have old : ∀ b o, s₁.heap.get? b = some o → h₁.get? b = some o := fun b o e => old1 b o (below b (Heap.lt_size e)).1 (hH1 ▸ Heap.get?_push_of_some _ e)
  have fresh : ∀ a, s₁.heap.objs.size ≤ a → s₁.heap.get? a = none := fun a ha => by
    cases e : s₁.heap.get? a with
    | none => rfl
    | some o' => exact absurd (Heap.lt_size e) (Nat.not_lt.mpr ha)
  have freshB : ∀ a, s₁.heap.objs.size ≤ a → (hideAll s₁.heap (X.map (·.1))).get? a = none := fun a ha => by
    cases e : (hideAll s₁.heap (X.map (·.1))).get? a with
    | none => rfl
    | some o' => have := of_hideAll _ e; rw [fresh a ha] at this; cases this
  have leD : s₁.heap.objs.size ≤ H1.objs.size := by rw [hD]; exact Nat.le_succ _
  have leC : s₁.heap.objs.size ≤ H2.objs.size := by rw [hC]; exact Nat.le_add_right _ _
  have hI1 : H1.get? s₁.heap.objs.size = some oI := hH1 ▸ Heap.get?_push_size _ hf
  have hD1 : h₁.get? H1.objs.size = some (lst [] 0) := hsb₁.extBut _ _ hDC (Heap.get?_push_of_some _ (hH2 ▸ Heap.get?_push_size _ rfl))
  have xlt : ∀ p ∈ X, p.1 < s₁.heap.objs.size := fun p hp => Heap.lt_size (F.nw p (List.mem_append_right _ hp)).1
  have loop : ∀ s₃ : Shared, s₃ = { s₁ with heap := h₁, toks := s₁.toks + ([] : List (Str × Value)).length } →
      codeAny (model prog w) A (.compLoop (.ListComp elt [⟨.Name x px, iter, ifs, 0⟩] scope pos) 0 (.ref s₁.heap.objs.size) (.ref H1.objs.size) (compEnvC scope cl H2.objs.size env))
        (RR (.ref H1.objs.size) H2.objs.size) s₃ := by
    rintro s₃ rfl
    refine codeAny_compLoop_tests (fun k s' => ∃ i ys Z m' kk o, Fm (hideAll s₁.heap (X.map (·.1))) H2.objs.size m' (Z ++ [(H1.objs.size, lst ys kk), (s₁.heap.objs.size, o)]) G O s' ∧ St i s'.heap ∧ Inv i ys Z ∧ ys.length ≤ i ∧ i ≤ cnt ∧ k = cnt + 1 - i) ?_ (cnt + 1)
      ⟨0, [], X, _, 0, oI, ⟨⟨hns₁, fun b o e => old b o (of_hideAll _ e), by rw [hideAll_size]; exact leC⟩, fun q hq => ?_, ?_, F.gens, F.os⟩, W.frame _ _ _ hst fun b hb o e => old1 b o ?_ e, h0, Nat.le_refl _, Nat.zero_le _, rfl⟩
    · rintro k s' ⟨i, ys, Z, m', kk, o, Fb, hst', hI, hyl, hi, rfl⟩
      by_cases hlt : i < cnt
      · refine W.item i _ _ _ hlt hst' fun v h₂ tk₂ hP hst₂ hk₂ => ?_
        obtain ⟨o₂, ho₂⟩ := hlive _ _ hst₂
        rw [show Z ++ [(H1.objs.size, lst ys kk), (s₁.heap.objs.size, o)] = (Z ++ [(H1.objs.size, lst ys kk)]) ++ [(s₁.heap.objs.size, o)] by simp] at Fb
        have F₂ := Fb.chg (a := s₁.heap.objs.size) (o := o) (h' := h₂) (t := tk₂) (Z ++ [(H1.objs.size, lst ys kk)]).length (by simp) (fun b y hb e => hk₂ b y (by simpa using hb) e) ho₂
        rw [show ((Z ++ [(H1.objs.size, lst ys kk)]) ++ [(s₁.heap.objs.size, o)]).set (Z ++ [(H1.objs.size, lst ys kk)]).length (s₁.heap.objs.size, o₂) = Z ++ [(H1.objs.size, lst ys kk), (s₁.heap.objs.size, o₂)] by simp] at F₂
        have stay : ∀ s₄ : Shared, ∀ m₄ Z₄ ys₄ k₄, Fm (hideAll s₁.heap (X.map (·.1))) H2.objs.size m₄ (Z₄ ++ [(H1.objs.size, lst ys₄ k₄), (s₁.heap.objs.size, o₂)]) G O s₄ → St (i + 1) s₄.heap := fun s₄ m₄ Z₄ ys₄ k₄ F₄ => by
          refine W.frame _ _ _ hst₂ fun b hb y e => ?_
          rcases hfp b hb with rfl | ⟨o₅, ho₅⟩
          · rw [ho₂] at e; cases e; exact F₄.mem (by simp)
          · have := F₂.keep b o₅ ho₅
            have e' : ({ s' with heap := h₂, toks := tk₂ } : Shared).heap.get? b = some y := e
            rw [e'] at this; cases this
            exact F₄.keep b _ ho₅
        refine wpAny_assign_Name (wpAny_mono (stL (E := NR) (env := compEnvC scope cl H2.objs.size env) F₂ (Q := fun _ s₃ => Fm (hideAll s₁.heap (X.map (·.1))) H2.objs.size (put m' x v) (Z ++ [(H1.objs.size, lst ys kk), (s₁.heap.objs.size, o₂)]) G O s₃) (fun s₃ F₃ => F₃) rfl (by simp [compEnvC, relabel, hkind]) (lookup_relabel_local hx)) (fun _ s₃ F₃ => ?_) fun _ _ z => z.elim)
        refine wpAny_mono (turn i v ys m' Z _ kk o₂ _ s₃ hlt hP hI F₃) (fun ok s₄ h₄ => ?_) fun _ _ z => z.elim
        cases ok with
        | false =>
          simp only [Bool.false_eq_true, if_false]
          obtain ⟨Z', m'', hI', F₄⟩ := h₄
          exact ⟨cnt + 1 - (i + 1), by omega, i + 1, ys, Z', m'', kk, o₂, F₄, stay _ _ _ _ _ F₄, hI', by omega, hlt, rfl⟩
        | true =>
          simp only [if_true]
          refine wpAny_mono h₄ (fun y s₅ h₅ => ?_) fun _ _ z => z.elim
          obtain ⟨Z', m'', hI', F₄⟩ := h₅
          refine wpAny_mono (l_append F₄ Z'.length (a := H1.objs.size) (xs := ys) (v := y) (n := kk) (Q := fun _ s₆ => ∃ n', Fm (hideAll s₁.heap (X.map (·.1))) H2.objs.size m'' (Z' ++ [(H1.objs.size, lst (ys ++ [y]) n'), (s₁.heap.objs.size, o₂)]) G O s₆) (by simp) (by omega) fun n' s₆ F₆ => ⟨n', by simpa using F₆⟩) (fun _ s₆ h₆ => ?_) fun _ _ z => z.elim
          obtain ⟨n', F₆⟩ := h₆
          exact ⟨cnt + 1 - (i + 1), by omega, i + 1, ys ++ [y], Z', m'', n', o₂, F₆, stay _ _ _ _ _ F₆, hI', by simp; omega, hlt, rfl⟩
      · have : i = cnt := by omega
        subst this
        refine W.done _ _ _ hst' fun h₂ tk₂ hk₂ => ?_
        rw [show Z ++ [(H1.objs.size, lst ys kk), (s₁.heap.objs.size, o)] = (Z ++ [(H1.objs.size, lst ys kk)]) ++ [(s₁.heap.objs.size, o)] by simp] at Fb
        have F₂ := Fb.lose (h' := h₂) (t := tk₂) fun b y hb e => hk₂ b y (by simpa using hb) e
        obtain ⟨oC, F₃, hN⟩ := comp_out F F₂ (hZ _ _ _ hI) (fresh _ leD) (fresh _ leC) hDC
        exact fin _ _ oC ys Z kk m' _ hI F₃ hN
    · rcases List.mem_append.mp hq with hq | hq
      · exact ⟨old _ _ (F.nw q (List.mem_append_right _ hq)).1, (below _ (xlt q hq)).1, hideAll_none _ (List.mem_map_of_mem hq)⟩
      · rcases List.mem_cons.mp hq with rfl | hq
        · exact ⟨hD1, hDC, freshB _ leD⟩
        · rw [List.mem_singleton.mp hq]
          exact ⟨old1 _ _ hIC hI1, hIC, freshB _ (Nat.le_refl _)⟩
    · have nd := F.nd
      rw [List.map_append, List.nodup_append] at nd
      rw [List.map_append, List.nodup_append]
      refine ⟨nd.2.1, by simp [hDI], fun a ha b hb => ?_⟩
      obtain ⟨p, hp, rfl⟩ := List.mem_map.mp ha
      have := below _ (xlt p hp)
      simp only [List.map_cons, List.map_nil, List.mem_cons, List.not_mem_nil, or_false] at hb
      rcases hb with rfl | rfl
      · exact this.2.2
      · exact this.2.1
    · rcases hfp b hb with rfl | ⟨o₅, ho₅⟩
      · exact hIC
      · exact (below b (Heap.lt_size (of_hideAll _ ho₅))).1
  exact codeAny_compStart_list (loop _ rfl) (W.self 0 _ _ _ (W.frame _ _ _ hst fun b hb o e => old1 b o (by
    rcases hfp b hb with rfl | ⟨o₅, ho₅⟩
    · exact hIC
    · exact (below b (Heap.lt_size (of_hideAll _ ho₅))).1) e) (loop _ rfl))

theorem Fm.loseH {a : Addr} {o : Obj} {h' : Heap} {t : Nat} (F : Fm h₀ L m ((a, o) :: own) G O s) (hk : ∀ b x, b ≠ a → s.heap.get? b = some x → h'.get? b = some x) : Fm h₀ L m own G O { s with heap := h', toks := t } :=
  (addAt F).lose hk

/-- x = [elt for y in iter if ..] -/
theorem S_asgC {elt iter : Expr} {x y : Str} {px py : Pos} {ifs : List Expr} {scope : Scope} {pos spos : Pos} {m₁ : Str → Option Value} {own₁ : Led} {s₀ : Shared} (_F : Fm h₀ L m₁ own₁ G O s₀) (cl : List (Str × Addr))
    (h : wpE (model prog w) A iter env (fun xv s₁ => ∃ (oI : Obj) (fp : List Addr) (cnt : Nat) (P : Nat → Value → Prop) (St : Nat → Heap → Prop) (Inv : Nat → List Value → Led → Prop) (X own : Led) (m : Str → Option Value),
      (∀ Q' : Value → Shared → Prop, Q' (.ref s₁.heap.objs.size) { s₁ with heap := s₁.heap.push oI } → wpAny (model prog w) A (pyIter xv) Q' NR s₁) ∧ Walks prog w A s₁.heap.objs.size fp [s₁.heap.objs.size] cnt P St ∧ cnt ≤ 1000 ∧ Fm h₀ L m (own ++ X) G O s₁ ∧ oI.isFreed = false ∧
      St 0 (s₁.heap.push oI) ∧ (∀ b ∈ fp, b = s₁.heap.objs.size ∨ ∃ o, (hideAll s₁.heap (X.map (·.1))).get? b = some o) ∧ (∀ i h, St i h → ∃ o, h.get? s₁.heap.objs.size = some o) ∧ Inv 0 [] X ∧ (∀ i ys Z, Inv i ys Z → Z.map (·.1) = X.map (·.1)) ∧
      (∀ i v ys m' Z D k o C s, i < cnt → P i v → Inv i ys Z → Fm (hideAll s₁.heap (X.map (·.1))) C (put m' x v) (Z ++ [(D, lst ys k), (s₁.heap.objs.size, o)]) G O s →
        wpTs (model prog w) A ifs (compEnvC scope cl C env) (fun ok s' => match ok with
          | true => wpE (model prog w) A elt (compEnvC scope cl C env) (fun y s'' => ∃ Z' m'', Inv (i + 1) (ys ++ [y]) Z' ∧ Fm (hideAll s₁.heap (X.map (·.1))) C m'' (Z' ++ [(D, lst ys k), (s₁.heap.objs.size, o)]) G O s'') s'
          | false => ∃ Z' m'', Inv (i + 1) ys Z' ∧ Fm (hideAll s₁.heap (X.map (·.1))) C m'' (Z' ++ [(D, lst ys k), (s₁.heap.objs.size, o)]) G O s') s) ∧
      (∀ D ys Z k s', Inv cnt ys Z → Fm h₀ L (put m y (.ref D)) ((D, lst ys k) :: (own ++ Z)) G O s' → wpS (model prog w) A rest env N R s')) s)
    (hsw : swapsWith (.ListComp elt [⟨.Name x px, iter, ifs, 0⟩] scope pos) (some (.Name y py)) spos.line env = pure true := by rfl)
    (hclos : closureFor scope env = pure cl := by rfl) (hcell : ∀ z ∈ scope.names, z.2 ≠ .cell := by decide +kernel) (hkind : scope.kind = .function := by rfl)
    (hnames : ∀ z ∈ scope.names, z.2 = .local → scope.names.lookup z.1 = some .local := by decide +kernel) (hx : scope.names.lookup x = some .local := by rfl)
    (hL : env.locals = L := by rfl) (hk : env.scope.kind = .function := by rfl) (hy : env.kindOf y = some .local := by rfl)
    (hs : ∀ x, foldedSetIterable iter env x = pure x := by intro _; rfl) :
    wpS (model prog w) A (.Assign [.Name y py] (.ListComp elt [⟨.Name x px, iter, ifs, 0⟩] scope pos) spos :: rest) env N R s := by
  refine S_cons ?_
  rw [exec_Assign_Name_used _ _ _ _ hsw]
  refine wpAny_bind (wpAny_standAt (wpAny_bind ?_))
  show wpAny _ A (do let _ ← comprehension (.ListComp elt [⟨.Name x px, iter, ifs, 0⟩] scope pos) scope env _ (newList []) false (eval iter env) (some (assign (.Name y py) env))) _ _ s
  refine wpAny_bind (wpAny_mono (wpAny_comprehension_free (E := NR) (use := some (assign (.Name y py) env)) (Q := fun _ s' => wpS (model prog w) A rest env N R s') rfl hs hclos hkind hnames
    (wpAny_mono h (fun xv s₁ h₁ => ?_) fun _ _ e => e)) (fun _ s' hq => wpAny_pure (wpAny_pure hq)) fun _ _ e => e.elim)
  obtain ⟨oI, fp, cnt, P, St, Inv, X, own, m, hit, W, hsz, F, hf, hst, hfp, hlive, h0, hZ, turn, fin⟩ := h₁
  refine hit _ ?_
  refine comp_core (RR := fun acc C => compPost (model prog w) A NR (some (assign (.Name y py) env)) (fun _ s' => wpS (model prog w) A rest env N R s') acc C) W hsz Inv X F hf hst hfp hlive h0 hZ hcell hkind hx turn ?_
  intro D C oC ys Z k m' s' hI F' hN
  show wpAny _ A (assign (.Name y py) env (.ref D)) _ _ _
  refine wpAny_assign_Name (wpAny_mono (stL (E := NR) F' (Q := fun _ s₂ => Fm h₀ L (put m y (.ref D)) ((C, oC) :: (D, lst ys k) :: (own ++ Z)) G O s₂) (fun _ F₂ => F₂) hL hk hy) (fun _ s₂ F₂ => ?_) fun _ _ z => z.elim)
  refine ⟨m', hN _ (F₂.at 0 rfl), fun h' hs' => ?_⟩
  exact fin D ys Z k _ hI (F₂.loseH (h' := h') (t := s₂.toks) hs'.extBut)
/-- [elt for y in iter if ..] -/
theorem E_comp {elt iter : Expr} {x : Str} {px : Pos} {ifs : List Expr} {scope : Scope} {pos : Pos} {Q : Value → Shared → Prop} {m₁ : Str → Option Value} {own₁ : Led} {s₀ : Shared} (_F : Fm h₀ L m₁ own₁ G O s₀) (cl : List (Str × Addr))
    (h : wpE (model prog w) A iter env (fun xv s₁ => ∃ (oI : Obj) (fp : List Addr) (cnt : Nat) (P : Nat → Value → Prop) (St : Nat → Heap → Prop) (Inv : Nat → List Value → Led → Prop) (X own : Led) (m : Str → Option Value),
      (∀ Q' : Value → Shared → Prop, Q' (.ref s₁.heap.objs.size) { s₁ with heap := s₁.heap.push oI } → wpAny (model prog w) A (pyIter xv) Q' NR s₁) ∧ Walks prog w A s₁.heap.objs.size fp [s₁.heap.objs.size] cnt P St ∧ cnt ≤ 1000 ∧ Fm h₀ L m (own ++ X) G O s₁ ∧ oI.isFreed = false ∧
      St 0 (s₁.heap.push oI) ∧ (∀ b ∈ fp, b = s₁.heap.objs.size ∨ ∃ o, (hideAll s₁.heap (X.map (·.1))).get? b = some o) ∧ (∀ i h, St i h → ∃ o, h.get? s₁.heap.objs.size = some o) ∧ Inv 0 [] X ∧ (∀ i ys Z, Inv i ys Z → Z.map (·.1) = X.map (·.1)) ∧
      (∀ i v ys m' Z D k o C s, i < cnt → P i v → Inv i ys Z → Fm (hideAll s₁.heap (X.map (·.1))) C (put m' x v) (Z ++ [(D, lst ys k), (s₁.heap.objs.size, o)]) G O s →
        wpTs (model prog w) A ifs (compEnvC scope cl C env) (fun ok s' => match ok with
          | true => wpE (model prog w) A elt (compEnvC scope cl C env) (fun y s'' => ∃ Z' m'', Inv (i + 1) (ys ++ [y]) Z' ∧ Fm (hideAll s₁.heap (X.map (·.1))) C m'' (Z' ++ [(D, lst ys k), (s₁.heap.objs.size, o)]) G O s'') s'
          | false => ∃ Z' m'', Inv (i + 1) ys Z' ∧ Fm (hideAll s₁.heap (X.map (·.1))) C m'' (Z' ++ [(D, lst ys k), (s₁.heap.objs.size, o)]) G O s') s) ∧
      (∀ D ys Z k s', Inv cnt ys Z → Fm h₀ L m ((D, lst ys k) :: (own ++ Z)) G O s' → Q (.ref D) s')) s)
    (hclos : closureFor scope env = pure cl := by rfl) (hcell : ∀ z ∈ scope.names, z.2 ≠ .cell := by decide +kernel) (hkind : scope.kind = .function := by rfl)
    (hnames : ∀ z ∈ scope.names, z.2 = .local → scope.names.lookup z.1 = some .local := by decide +kernel) (hx : scope.names.lookup x = some .local := by rfl)
    (hs : ∀ x, foldedSetIterable iter env x = pure x := by intro _; rfl) :
    wpE (model prog w) A (.ListComp elt [⟨.Name x px, iter, ifs, 0⟩] scope pos) env Q s := by
  show wpAny _ _ _ _ _ _
  rw [eval_ListComp]
  refine wpAny_comprehension_free (E := NR) (use := none) rfl hs hclos hkind hnames (wpAny_mono h (fun xv s₁ h₁ => ?_) fun _ _ e => e)
  obtain ⟨oI, fp, cnt, P, St, Inv, X, own, m, hit, W, hsz, F, hf, hst, hfp, hlive, h0, hZ, turn, fin⟩ := h₁
  refine hit _ ?_
  refine comp_core (RR := fun acc C => compPost (model prog w) A NR none Q acc C) W hsz Inv X F hf hst hfp hlive h0 hZ hcell hkind hx turn ?_
  intro D C oC ys Z k m' s' hI F' hN
  exact ⟨m', hN _ (F'.at 0 rfl), fun h' hs' => fin D ys Z k _ hI (F'.loseH (h' := h') (t := s'.toks) hs'.extBut)⟩
end
end Mine

end MJ_part
section MK_part
namespace Mine
open PySem PySem.W PySem.Calls PySem.Spec PyProof.Rows

section
variable {prog : Program} {w : World} {A : Around} {E : Value → Shared → Prop} {s s₁ : Shared} {env : Env} {K : Frag} {h₀ : Heap} {L : Addr} {m : Str → Option Value} {own : Led} {G : Array GenState} {O : OsState} {N : Shared → Prop} {R : Value → Shared → Prop} {rest : List Stmt}
noncomputable abbrev CTurn (prog : Program) (w : World) (A : Around) (env : Env) (scope : Scope) (cl : List (Str × Addr)) (ifs : List Expr) (elt : Expr) (x : Str) (G : Array GenState) (O : OsState) (s₁ : Shared) (P : Nat → Value → Prop) (Inv : Nat → List Value → Prop) : Prop :=
  ∀ i v ys m' D k o C s, P i v → Inv i ys → Fm s₁.heap C (put m' x v) [(D, lst ys k), (s₁.heap.objs.size, o)] G O s →
    wpTs (model prog w) A ifs (compEnvC scope cl C env) (fun ok s' => match ok with
      | true => wpE (model prog w) A elt (compEnvC scope cl C env) (fun y s'' => Inv (i + 1) (ys ++ [y]) ∧ ∃ m'', Fm s₁.heap C m'' [(D, lst ys k), (s₁.heap.objs.size, o)] G O s'') s'
      | false => Inv (i + 1) ys ∧ ∃ m'', Fm s₁.heap C m'' [(D, lst ys k), (s₁.heap.objs.size, o)] G O s') s

theorem S_asgCL {elt iter : Expr} {x y : Str} {px py : Pos} {ifs : List Expr} {scope : Scope} {pos spos : Pos} {m₁ : Str → Option Value} {own₁ : Led} {s₀ : Shared} (_F : Fm h₀ L m₁ own₁ G O s₀) (cl : List (Str × Addr)) (hh : A.handled = none)
    (h : wpE (model prog w) A iter env (fun xv s₁ => ∃ (l : Addr) (xs : List Value) (n : Nat) (Inv : Nat → List Value → Prop) (own : Led) (m : Str → Option Value),
      xv = .ref l ∧ s₁.heap.get? l = some (lst xs n) ∧ xs.length ≤ 1000 ∧ Fm h₀ L m own G O s₁ ∧ Inv 0 [] ∧ CTurn prog w A env scope cl ifs elt x G O s₁ (fun i v => xs[i]? = some v) Inv ∧
      (∀ D ys k s', Inv xs.length ys → Fm h₀ L (put m y (.ref D)) ((D, lst ys k) :: own) G O s' → wpS (model prog w) A rest env N R s')) s)
    (hsw : swapsWith (.ListComp elt [⟨.Name x px, iter, ifs, 0⟩] scope pos) (some (.Name y py)) spos.line env = pure true := by rfl)
    (hclos : closureFor scope env = pure cl := by rfl) (hcell : ∀ z ∈ scope.names, z.2 ≠ .cell := by decide +kernel) (hkind : scope.kind = .function := by rfl)
    (hnames : ∀ z ∈ scope.names, z.2 = .local → scope.names.lookup z.1 = some .local := by decide +kernel) (hx : scope.names.lookup x = some .local := by rfl)
    (hL : env.locals = L := by rfl) (hk : env.scope.kind = .function := by rfl) (hy : env.kindOf y = some .local := by rfl)
    (hs : ∀ x, foldedSetIterable iter env x = pure x := by intro _; rfl) :
    wpS (model prog w) A (.Assign [.Name y py] (.ListComp elt [⟨.Name x px, iter, ifs, 0⟩] scope pos) spos :: rest) env N R s := by
  refine S_asgC _F cl (wpAny_mono h (fun xv s₁ h₁ => ?_) fun _ _ x => x) hsw hclos hcell hkind hnames hx hL hk hy hs
  obtain ⟨l, xs, n, Inv, own, m, rfl, hl, hsz, F, h0, turn, fin⟩ := h₁
  have hne : l ≠ s₁.heap.objs.size := Nat.ne_of_lt (Heap.lt_size hl)
  have W := Walks.list (prog := prog) (w := w) hh s₁.heap.objs.size l hne xs.toArray
  rw [List.size_toArray] at W
  refine ⟨_, _, xs.length, _, _, fun i ys Z => Z = [] ∧ Inv i ys, [], own, m, fun Q' q => wpAny_pyIter_list (isL hl) q, W, hsz, by rwa [List.append_nil], rfl, ⟨⟨_, Heap.get?_push_size _ rfl, rfl, rfl⟩, isL (Heap.get?_push_of_some _ hl)⟩, fun b hb => ?_, fun i h st => ?_, ⟨rfl, h0⟩, fun i ys Z hZ => by rw [hZ.1], ?_, ?_⟩
  · rcases List.mem_cons.mp hb with rfl | hb
    · exact .inl rfl
    · rw [List.mem_singleton.mp hb]; exact .inr ⟨_, hl⟩
  · obtain ⟨⟨o, ho, _⟩, _⟩ := st; exact ⟨o, ho⟩
  · rintro i v ys m' Z D k o C s hlt hP ⟨rfl, hI⟩ F'
    refine wpAny_mono (turn i v ys m' D k o C s (by simpa using hP) hI F') (fun ok s' x => ?_) fun _ _ x => x
    cases ok with
    | true => exact wpAny_mono x (fun y s'' z => ⟨[], z.2.choose, ⟨rfl, z.1⟩, z.2.choose_spec⟩) fun _ _ x => x
    | false => exact ⟨[], x.2.choose, ⟨rfl, x.1⟩, x.2.choose_spec⟩
  · rintro D ys Z k s' ⟨rfl, hI⟩ F'
    rw [List.append_nil] at F'
    exact fin D ys k s' hI F'
theorem E_compL {elt iter : Expr} {x : Str} {px : Pos} {ifs : List Expr} {scope : Scope} {pos : Pos} {Q : Value → Shared → Prop} {m₁ : Str → Option Value} {own₁ : Led} {s₀ : Shared} (_F : Fm h₀ L m₁ own₁ G O s₀) (cl : List (Str × Addr)) (hh : A.handled = none)
    (h : wpE (model prog w) A iter env (fun xv s₁ => ∃ (l : Addr) (xs : List Value) (n : Nat) (Inv : Nat → List Value → Prop) (own : Led) (m : Str → Option Value),
      xv = .ref l ∧ s₁.heap.get? l = some (lst xs n) ∧ xs.length ≤ 1000 ∧ Fm h₀ L m own G O s₁ ∧ Inv 0 [] ∧ CTurn prog w A env scope cl ifs elt x G O s₁ (fun i v => xs[i]? = some v) Inv ∧
      (∀ D ys k s', Inv xs.length ys → Fm h₀ L m ((D, lst ys k) :: own) G O s' → Q (.ref D) s')) s)
    (hclos : closureFor scope env = pure cl := by rfl) (hcell : ∀ z ∈ scope.names, z.2 ≠ .cell := by decide +kernel) (hkind : scope.kind = .function := by rfl)
    (hnames : ∀ z ∈ scope.names, z.2 = .local → scope.names.lookup z.1 = some .local := by decide +kernel) (hx : scope.names.lookup x = some .local := by rfl)
    (hs : ∀ x, foldedSetIterable iter env x = pure x := by intro _; rfl) :
    wpE (model prog w) A (.ListComp elt [⟨.Name x px, iter, ifs, 0⟩] scope pos) env Q s := by
  refine E_comp _F cl (wpAny_mono h (fun xv s₁ h₁ => ?_) fun _ _ x => x) hclos hcell hkind hnames hx hs
  obtain ⟨l, xs, n, Inv, own, m, rfl, hl, hsz, F, h0, turn, fin⟩ := h₁
  have hne : l ≠ s₁.heap.objs.size := Nat.ne_of_lt (Heap.lt_size hl)
  have W := Walks.list (prog := prog) (w := w) hh s₁.heap.objs.size l hne xs.toArray
  rw [List.size_toArray] at W
  refine ⟨_, _, xs.length, _, _, fun i ys Z => Z = [] ∧ Inv i ys, [], own, m, fun Q' q => wpAny_pyIter_list (isL hl) q, W, hsz, by rwa [List.append_nil], rfl, ⟨⟨_, Heap.get?_push_size _ rfl, rfl, rfl⟩, isL (Heap.get?_push_of_some _ hl)⟩, fun b hb => ?_, fun i h st => ?_, ⟨rfl, h0⟩, fun i ys Z hZ => by rw [hZ.1], ?_, ?_⟩
  · rcases List.mem_cons.mp hb with rfl | hb
    · exact .inl rfl
    · rw [List.mem_singleton.mp hb]; exact .inr ⟨_, hl⟩
  · obtain ⟨⟨o, ho, _⟩, _⟩ := st; exact ⟨o, ho⟩
  · rintro i v ys m' Z D k o C s hlt hP ⟨rfl, hI⟩ F'
    refine wpAny_mono (turn i v ys m' D k o C s (by simpa using hP) hI F') (fun ok s' x => ?_) fun _ _ x => x
    cases ok with
    | true => exact wpAny_mono x (fun y s'' z => ⟨[], z.2.choose, ⟨rfl, z.1⟩, z.2.choose_spec⟩) fun _ _ x => x
    | false => exact ⟨[], x.2.choose, ⟨rfl, x.1⟩, x.2.choose_spec⟩
  · rintro D ys Z k s' ⟨rfl, hI⟩ F'
    rw [List.append_nil] at F'
    exact fin D ys k s' hI F'

/-! cells -/
theorem nmO {x : Str} {pos : Pos} {c : Addr} {o : Obj} {v : Value} {Q : Value → Shared → Prop} {hp : Heap} (hv : hp.get? c = some o) (hd : o.data = .cell (some v)) (h : Q v s) (hs : s.heap = hp := by rfl)
    (hc : env.cells.lookup x = some c := by rfl) (hk : env.scope.kind = .function := by rfl) (hl : env.kindOf x = some .cell := by rfl) (hdb : (x == ("__debug__" : Str)) = false := by rfl) :
    wpAny (model prog w) A (eval (.Name x pos) env) Q E s :=
  wpAny_Name (wpAny_loadName_cell hk hl hc ⟨o, hs ▸ hv, hd⟩ h) hdb
noncomputable def cellLed (cs : List (Str × Addr)) (co : Str → Obj) : Led := cs.map fun p => (p.2, co p.1)
variable {f : Addr} {qual : Str} {st : Stmt} {n : Nat}
/-- entering a def with cells -/
theorem enterC {vals : List Value} {Q : Value → Shared → Prop} (X : Led) (H : IsFn K f qual st) (C : Cx K s.heap) (r : Rm A (n + 1)) (ns : List Str)
    (hX : ∀ p ∈ X, s.heap.get? p.1 = some p.2) (ndX : (X.map (·.1)).Nodup)
    (h : ∀ L s' co, (∀ n c, (cellsFrom (L + 1) (fdScope st).names []).lookup n = some c → (co n).data = .cell (bindC (envK qual st L f).kindOf (ns.zip vals) (fun _ => none) n)) →
      Fm (hideAll s.heap (X.map (·.1))) L (bindL (envK qual st L f).kindOf (ns.zip vals) fun _ => none) (cellLed (cellsFrom (L + 1) (fdScope st).names []) co ++ X) s.gens s.os s' →
      wpS (model prog w) (A.deeper (envK qual st L f)) (fdBody st) (envK qual st L f) (Q .none) Q s')
    (hkind : ∀ L, ∀ x ∈ ns.zip vals, (fdScope st).names.lookup x.1 = some .local ∨ ((fdScope st).names.lookup x.1 = some .cell ∧ ((cellsFrom (L + 1) (fdScope st).names []).lookup x.1).isSome = true))
    (hndc : ((cellsFrom 0 (fdScope st).names []).map (·.1)).Nodup := by decide +kernel)
    (hbind : ∀ nm pm, bindArgs (fnX' nm qual st pm f) ⟨vals, []⟩ = pure (ns.zip vals) := by intros; rfl)
    (hco : (fdScope st).isCoroutine = false := by rfl) (hgen : (fdScope st).isGenerator = false := by rfl) (hk : (fdScope st).kind = .function := by rfl) :
    wpAny (model prog w) A (call (.ref f) vals) Q E s := by
  obtain ⟨⟨nm, pm, od, sl, hf⟩, hcd⟩ := H
  refine wpAny_call (codeAny_call_cells (fd := fnX' nm qual st pm f) (body := fdBody st) (binds := ns.zip vals) r.room (C.X _ _ hf) rfl C.lim (codeRec_of C.X hcd) rfl
    (hbind nm pm) rfl (hkind s.heap.objs.size) (fun s₁ X₁ => ?_) hco hgen hk)
  have ec : callEnvC (fnX' nm qual st pm f) s.heap.objs.size f = envK qual st s.heap.objs.size f := rfl
  rw [ec] at X₁ ⊢
  obtain ⟨⟨⟨h₁, tk, rfl⟩, hns, hk₁, hfr⟩, hcell, hap, hab⟩ := X₁
  have hnd : ((cellsFrom (s.heap.objs.size + 1) (fdScope st).names []).map (·.1)).Nodup := cellsFrom_names (fdScope st).names 0 (s.heap.objs.size + 1) [] [] rfl ▸ hndc
  have hco : ∀ n c, (cellsFrom (s.heap.objs.size + 1) (fdScope st).names []).lookup n = some c → ∃ o, h₁.get? c = some o ∧ o.data = .cell (bindC (envK qual st s.heap.objs.size f).kindOf (ns.zip vals) (fun _ => none) n) := fun n c e => hcell n c e
  have key : ∃ co : Str → Obj, ∀ n c, (cellsFrom (s.heap.objs.size + 1) (fdScope st).names []).lookup n = some c → h₁.get? c = some (co n) ∧ (co n).data = .cell (bindC (envK qual st s.heap.objs.size f).kindOf (ns.zip vals) (fun _ => none) n) := by
    refine ⟨fun n => match (cellsFrom (s.heap.objs.size + 1) (fdScope st).names []).lookup n with
      | some c => (h₁.get? c).getD (cel none)
      | none => cel none, fun n c e => ?_⟩
    obtain ⟨o, ho, hd⟩ := hco n c e
    simp only [e, ho, Option.getD_some]
    exact ⟨trivial, hd⟩
  obtain ⟨co, hco'⟩ := key
  refine wpAny_mono (h s.heap.objs.size _ co (fun n c e => (hco' n c e).2) ⟨⟨hns, fun b o e => hk₁ b o (of_hideAll _ e), Nat.le_of_eq (hideAll_size _ _)⟩, fun p hp => ?_, ?_, rfl, rfl⟩) (fun fl s' x => ?_) fun _ _ x => x.elim
  · rcases List.mem_append.mp hp with hp | hp
    · obtain ⟨q, hq, rfl⟩ := List.mem_map.mp hp
      obtain ⟨qn, qc⟩ := q
      have hlt := hab qn qc hq
      have e := lookup_of_mem_nodup hnd hq
      refine ⟨(hco' qn qc e).1, Nat.ne_of_gt hlt, ?_⟩
      cases q : (hideAll s.heap (X.map (·.1))).get? qc with
      | none => rfl
      | some o => exact absurd (Heap.lt_size (of_hideAll _ q)) (Nat.not_lt.mpr (Nat.le_of_lt hlt))
    · exact ⟨hk₁ _ _ (hX p hp), Nat.ne_of_lt (Heap.lt_size (hX p hp)), hideAll_none _ (List.mem_map_of_mem hp)⟩
  · rw [List.map_append, List.nodup_append]
    have e1 : (cellLed (cellsFrom (s.heap.objs.size + 1) (fdScope st).names []) co).map (·.1) = (cellsFrom (s.heap.objs.size + 1) (fdScope st).names []).map (·.2) := by unfold cellLed; rw [List.map_map]; rfl
    refine ⟨?_, ndX, fun a ha b hb => ?_⟩
    · rw [e1]; exact List.pairwise_map.mpr hap
    · rw [e1] at ha
      obtain ⟨⟨qn, qc⟩, hq, rfl⟩ := List.mem_map.mp ha
      obtain ⟨p, hp, rfl⟩ := List.mem_map.mp hb
      have h1 := hab qn qc hq
      have h2 := Heap.lt_size (hX p hp)
      exact Nat.ne_of_gt (Nat.lt_trans h2 h1)
  · cases fl <;> first | exact x | exact x.elim
end
end Mine

end MK_part
section MO_part
namespace Mine
open PySem PySem.W PySem.Calls PySem.Spec PyProof.Rows

/-- a step -/
structure StepIs (h : Heap) (a : Addr) (way : Str) (T : Tst) (pos : Option Nat) : Prop where
  ex : ∃ d od u tv b t k, h.get? a = some (instObj 458 d) ∧ h.get? d = some od ∧ lookIn "axis" od = some (some (.str way u)) ∧ lookIn "test" od = some (some tv) ∧ lookIn "predicates" od = some (some (.ref b)) ∧ TstIs h tv T ∧ h.get? b = some (tup (Preds pos t) k)
theorem StepIs.keeps {h h' : Heap} {a : Addr} {way : Str} {T : Tst} {pos : Option Nat} (x : StepIs h a way T pos) (k : ∀ b o, h.get? b = some o → h'.get? b = some o) : StepIs h' a way T pos := by
  obtain ⟨d, od, u, tv, b, t, kk, h1, h1', h2, h3, h4, h5, h6⟩ := x.ex
  exact ⟨d, od, u, tv, b, t, kk, k _ _ h1, k _ _ h1', h2, h3, h4, h5.keeps k, k _ _ h6⟩
theorem instS {h : Heap} {a d : Addr} {od : Obj} (h1 : h.get? a = some (instObj 458 d)) (h2 : h.get? d = some od) : InstAt h a (instObj 458 d) 458 (some od) := ⟨h1, rfl, rfl, h2⟩

noncomputable def okAt (D : Doc) (T : Tst) (j : Nat) : Bool := (D[j]?.map T.ok).getD false
noncomputable def stepN (D : Doc) (way : Str) (T : Tst) (pos : Option Nat) (i : Nat) : List Nat := pick pos ((along D way i).filter (okAt D T))
theorem idx_bnd {D : Doc} {i p : Nat} : ∀ x ∈ kids D p, x < D.length := fun x hx => (mem_kids.mp hx).1
theorem along_lt {D : Doc} {way : Str} {i : Nat} (P : Pre D) (hi : i < D.length) : ∀ x ∈ along D way i, x < D.length := by
  intro x hx
  unfold along shortA at hx
  split at hx
  · exact (mem_kids.mp hx).1
  split at hx
  · rw [List.mem_singleton.mp hx]; exact hi
  split at hx
  · cases h : parOf D i with
    | none => rw [h] at hx; cases hx
    | some p => rw [h] at hx; rw [List.mem_singleton.mp hx]; exact (par_lt P h).2
  split at hx
  · unfold behind at hx
    simp only [Option.getD_some] at hx
    split at hx
    · cases hx
    · exact (mem_kids.mp (List.mem_of_mem_drop hx)).1
  split at hx
  · unfold ahead at hx
    simp only [Option.getD_some] at hx
    split at hx
    · cases hx
    · exact (mem_kids.mp (List.mem_of_mem_take (List.mem_reverse.mp hx))).1
  simp only [Option.getD_none] at hx
  split at hx
  · exact ((mem_desc P x).mp hx).1
  · have := above_lt P.wf i x hx; omega
theorem along_len {D : Doc} {way : Str} {i : Nat} (P : Pre D) (hi : i < D.length) : (along D way i).length ≤ D.length := by
  unfold along shortA
  split
  · exact kids_len
  split
  · show 1 ≤ D.length; omega
  split
  · show (parOf D i).toList.length ≤ D.length
    cases parOf D i with
    | none => exact Nat.zero_le _
    | some p => show 1 ≤ D.length; omega
  split
  · show (behind D i).length ≤ D.length
    unfold behind
    split
    · exact Nat.zero_le _
    · rename_i p _
      rw [List.length_drop]; have := kids_len (D := D) (p := p); omega
  split
  · show (ahead D i).length ≤ D.length
    unfold ahead
    split
    · exact Nat.zero_le _
    · rename_i p _
      rw [List.length_reverse, List.length_take]; have := kids_len (D := D) (p := p); omega
  simp only [Option.getD_none]
  split
  · exact desc_len P
  · have := above_len P.wf i; omega
theorem take_snoc {α : Type} {xs : List α} {i : Nat} {v : α} (h : xs[i]? = some v) : xs.take (i + 1) = xs.take i ++ [v] := by rw [List.take_add_one, h]; rfl

section
variable {prog : Program} {w : World} {A : Around} {E : Value → Shared → Prop} {s : Shared} {env : Env} {K : Frag} {D : Doc} {hp : Heap} {t : Addr} {i : Nat} {nd : Nd} {tk : Tok} {Q : Value → Shared → Prop} {way : Str} {u : Tok} {T : Tst} {pos : Option Nat}

theorem step_get {a : Addr} {x : Str} {ox od : Obj} {v : Value} (Y : Lay K) (C : Cx K hp) (I : InstAt hp a ox 458 (some od)) (hx : findIn K (.ref 458) x = some none) (hl : lookIn x od = some (some v)) (hh : handedIn v = true) (h : Q v { s with toks := s.toks + 1 }) (hs : s.heap = hp := by rfl) :
    wpAny (model prog w) A (getAttr (.ref a) x true) Q NR s := by
  obtain ⟨cd, hcd, hdd⟩ := Y.cS.cd
  exact fld hcd hdd hx Y.cS.ga C I hl hh h hs

theorem step_from_spec {a f : Addr} {nv : Value} (Y : Lay K) (C : Cx K hp) (r : Rm A 12) (hT : TreeIs hp t D) (P : Pre D) (hi : i < D.length) (hw : Way way) (hS : StepIs hp a way T pos) (hp1 : ∀ p, pos = some p → 1 ≤ p) (V : ValOf prog w K hp f)
    (ret : ∀ c ys n' s', Pur s s' → s'.heap.get? c = some (lst ys n') → NatsAre ys (stepN D way T pos i) → Q (.ref c) s') (hs : s.heap = hp := by rfl) :
    wpAny (model prog w) A (call (.ref 204) [.ref t, .int i tk, .ref a, nv, .ref f]) Q E s := by
  subst hs
  have hsm := hT.small
  obtain ⟨d, od, u, tv, b, tb, kb, hI, hI', hax, hte, hpr, htv, hb⟩ := hS.ex
  have tvh : handedIn tv = true := by obtain ⟨_, _, _, _, _, rfl, _⟩ := htv; rfl
  refine enterC [] Y.f_step_from C r ["tree", "node", "step", "names", "value_of"] (fun _ hp => nomatch hp) List.nodup_nil (fun L s₁ co hco F => ?_) (fun L => ?_)
  rotate_left
  · intro x hx
    rcases List.mem_cons.mp hx with rfl | hx
    · exact .inr ⟨rfl, rfl⟩
    rcases List.mem_cons.mp hx with rfl | hx
    · exact .inl rfl
    rcases List.mem_cons.mp hx with rfl | hx
    · exact .inr ⟨rfl, rfl⟩
    rcases List.mem_cons.mp hx with rfl | hx
    · exact .inr ⟨rfl, rfl⟩
    rcases List.mem_cons.mp hx with rfl | hx
    · exact .inl rfl
    · cases hx
  have r' := r.deeper (envK "step_from" (stmtAt 29) L 204)
  have ct : (co "tree").data = .cell (some (.ref t)) := hco "tree" _ rfl
  have cs : (co "step").data = .cell (some (.ref a)) := hco "step" _ rfl
  have cn : (co "names").data = .cell (some nv) := hco "names" _ rfl
  refine S_asgCL F [("tree", L + 1), ("step", L + 1 + 1), ("names", L + 1 + 1 + 1)] r'.h (E_fn Y.f_axis (F.cx C) Y.n_axis (nmO (F.at 2 rfl) ct (nmL F rfl (E_attrN (nmO (F.at 1 rfl) cs (step_get Y (F.cx C) (instS (F.keep _ _ hI) (F.keep _ _ hI')) Y.s_axis hax rfl ⟨(F.tok _).cx C, ?_⟩))))))
  refine axis_spec Y ((F.tok _).cx C) (r'.mono (by omega)) (hT.keeps F.keep) P hi hw fun v s₂ p hn => ?_
  obtain ⟨l, xs, n, rfl, hn, hl, hx⟩ := hn
  have F := (F.tok _).add p hn hl
  have hxl := hx.length
  have hal := along_len (way := way) P hi
  have halt := along_lt (way := way) P hi
  refine ⟨l, xs, n, fun j ys => NatsAre ys (((along D way i).take j).filter (okAt D T)), _, _, rfl, F.at 0 rfl, by omega, F, .nil, fun j v ys m' Dd k o C' s₃ hv hy F' => ?_, fun Dd ys k s₃ hy F => ?_⟩
  · obtain ⟨x, tx, rfl, hxj⟩ := hx.at hv
    have hxD := halt x (List.mem_of_getElem? hxj)
    have gt := F'.keep _ _ (F.at 3 rfl)
    have gs := F'.keep _ _ (F.at 2 rfl)
    have gn := F'.keep _ _ (F.at 1 rfl)
    have C₁ := F.cx C
    refine ts_one (T_val (E_fn Y.f_passes (F'.cx C₁) Y.n_passes (nmO gt ct (nmL F' put_same (E_attrN (nmO gs cs (step_get Y (F'.cx C₁) (instS (F'.keep _ _ (F.keep _ _ hI)) (F'.keep _ _ (F.keep _ _ hI'))) Y.s_axis hax rfl
      (E_attrN (nmO gs cs (step_get Y ((F'.tok _).cx C₁) (instS (F'.keep _ _ (F.keep _ _ hI)) (F'.keep _ _ (F.keep _ _ hI'))) Y.s_test hte tvh (nmO gn cn ⟨((F'.tok _).tok _).cx C₁, ?_⟩)))))))))))
    refine passes_spec Y (((F'.tok _).tok _).cx C₁) (r'.mono (by omega)) ((hT.keeps F.keep).keeps F'.keep) (hT.get hxD) hw ((htv.keeps F.keep).keeps F'.keep) fun s₄ p => ?_
    have F' := ((F'.tok _).tok _).pur p
    refine tr_bool ?_
    have e : okAt D T x = T.ok D[x] := by unfold okAt; rw [hT.get hxD]; rfl
    have e2 : ((along D way i).take (j + 1)).filter (okAt D T) = ((along D way i).take j).filter (okAt D T) ++ (if T.ok D[x] then [x] else []) := by
      rw [take_snoc hxj, List.filter_append, List.filter_cons, List.filter_nil, e]
    cases hok : T.ok D[x] with
    | false =>
      rw [hok] at e2
      exact ⟨by dsimp only; rw [e2]; simpa using hy, _, F'⟩
    | true =>
      rw [hok] at e2
      exact nmL F' put_same ⟨by dsimp only; rw [e2]; exact hy.snoc, _, F'⟩
  · dsimp only at hy
    rw [List.take_of_length_le (by omega)] at hy
    refine S_ret (E_fn Y.f_kept (F.cx C) Y.n_kept (nmL F put_same (E_attrN (nmO (F.at 3 rfl) cs (step_get Y (F.cx C) (instS (F.keep _ _ hI) (F.keep _ _ hI')) Y.s_predicates hpr rfl (nmL (F.tok _) (put_ne rfl) ⟨(F.tok _).cx C, ?_⟩))))))
    refine kept_spec Y ((F.tok _).cx C) (r'.mono (by omega)) ((F.tok _).at 0 rfl) hy ?_ (F.keep _ _ hb) hp1 (V.keeps F.keep) fun c ys' n' s₄ p hc hy' => ?_
    · have := List.length_filter_le (okAt D T) (along D way i); omega
    · exact ret c ys' n' s₄ ((F.tok _).back.trans p) hc hy'
end
end Mine

end MO_part
section MQ_part
namespace Mine
open PySem PySem.W PySem.Calls PySem.Spec PyProof.Rows

/-! dicts -/
noncomputable def oiIs : Option Int → Value → Bool
  | none, .none => true
  | some i, v => Value.isInt i v
  | none, _ => false
theorem oiIs_none {v : Value} (h : oiIs none v = true) : v = .none := by cases v <;> first | rfl | cases h
theorem oiIs_some {i : Int} {v : Value} (h : oiIs (some i) v = true) : ∃ t, v = .int i t := Value.isInt_shape h
theorem pyHash_none {prog : Program} {w : World} {A : Around} {E : Value → Shared → Prop} {s : Shared} {Q : Int → Shared → Prop} (h : Q 0xFCA86420 { s with toks := s.toks + 1 }) : wpAny (model prog w) A (pyHash .none) Q E s := by
  unfold pyHash
  have hT : s.TypeIs .none "NoneType" := rfl
  have hv : [Value.none].any Value.onHeap = false := rfl
  refine wpAny_bind ?_
  rw [cRoomFor, if_neg (by rw [hv]; exact Bool.false_ne_true)]; refine wpAny_pure ?_
  refine wpAny_bind (wpAny_specialOf hT PySem.F.slot_NoneType_hash.lookup ?_)
  show wpAny _ _ (if (some (Value.builtin "NoneType.__hash__") == some Value.none) = true then _ else _) Q E s
  rw [if_neg (by rw [beq_builtin_none]; exact Bool.false_ne_true)]
  refine wpAny_bind (wpAny_specialOf hT PySem.F.slot_NoneType_hash.lookup ?_)
  show wpAny _ _ (callSpecialIfBoundUnlessNone? .none "__hash__" _ >>= _) Q E s
  refine wpAny_bind (wpAny_callSpecialIfBoundUnlessNone?_slot hT PySem.F.slot_NoneType_hash
    (wpAny_call_entry PySem.F.slot_NoneType_hash hT PySem.F.entry_NoneType_hash
      (show wpAny _ _ (do ret (← mkInt 0xFCA86420)) _ _ s from wpAny_ret_mkInt ?_) (PySem.F.args_NoneType_hash_1 _)))
  show wpAny _ _ (if (decide (-(2 : Int) ^ 63 ≤ 0xFCA86420) && decide ((0xFCA86420 : Int) < 2 ^ 63)) = true then _ else _) Q E _
  rw [if_pos (by decide)]
  exact wpAny_pure h
noncomputable def oiKind (prog : Program) (w : World) : PySem.KeyKind prog w (Option Int) where
  is := oiIs
  hash := fun | none => 0xFCA86420 | some i => hashInt i
  inj := fun v a b ha hb => by
    cases a with
    | none => cases b with
      | none => rfl
      | some j => obtain ⟨t, rfl⟩ := oiIs_some hb; cases oiIs_none ha
    | some i => cases b with
      | none => obtain ⟨t, rfl⟩ := oiIs_some ha; cases oiIs_none hb
      | some j => exact congrArg some (Value.isInt_inj v i j ha hb)
  byValue := fun k v h => by
    cases k with
    | none => rw [oiIs_none h]; rfl
    | some i => obtain ⟨t, rfl⟩ := oiIs_some h; rfl
  pyHash := fun {_ _ _ k v _} hv h => by
    cases k with
    | none => rw [oiIs_none hv]; exact pyHash_none h
    | some i => obtain ⟨t, rfl⟩ := oiIs_some hv; exact wpAny_pyHash_int h
  eqBool := fun {_ _ _ a b u v _} hu hv h => by
    cases a with
    | none =>
      have := oiIs_none hu; subst this
      cases b with
      | none =>
        have := oiIs_none hv; subst this
        unfold PySem.eqBool
        refine wpAny_holding ?_
        rw [if_pos (by decide +kernel)]
        exact wpAny_bind (wpAny_rule (wpAny_pure (by simpa using h)))
      | some j =>
        obtain ⟨t, rfl⟩ := oiIs_some hv
        exact PySem.SeqAt.EqAt.none_int _ _ _ _ _ _ (by simpa using h)
    | some i =>
      obtain ⟨t, rfl⟩ := oiIs_some hu
      cases b with
      | none =>
        have := oiIs_none hv; subst this
        exact PySem.SeqAt.EqAt.int_none _ _ _ _ _ _ (by simpa using h)
      | some j =>
        obtain ⟨t', rfl⟩ := oiIs_some hv
        refine wpAny_eqBool_int ?_
        have e : decide (some i = some j) = (i == j) := by
          cases q : i == j with
          | true => rw [beq_iff_eq] at q; subst q; simp
          | false => rw [beq_eq_false_iff_ne] at q; simp [q]
        rw [← e]; exact h
  «strs» := fun k x t v h => by
    cases k with
    | none => cases oiIs_none h
    | some i => simp [oiIs, Value.isInt] at h

section
variable {prog : Program} {w : World} {A : Around} {s : Shared} {env : Env} {h₀ : Heap} {L : Addr} {m : Str → Option Value} {own : Led} {G : Array GenState} {O : OsState} {N : Shared → Prop} {R : Value → Shared → Prop} {rest : List Stmt} {Kt : Type} [DecidableEq Kt] {knd : PySem.KeyKind prog w Kt} {d : Addr} {o : Obj} {kvs : List (Kt × Value)} {k : Kt} {key : Value} {hp : Heap}
theorem dOf (e : hp.get? d = some o) (hd : o.IsDictOf knd kvs) : hp.DictOf knd d kvs := Heap.dictOf_iff.mpr ⟨o, e, hd⟩
theorem newD (knd : PySem.KeyKind prog w Kt) : (dct #[] 0).IsDictOf knd [] := by
  obtain ⟨o, ho, hd⟩ := Heap.dictOf_iff.mp (Heap.DictOf.new (knd := knd) { objs := #[] })
  rw [Heap.get?_push_size _ rfl] at ho
  cases ho; exact hd
theorem E_dict0 {pos : Pos} {Q : Value → Shared → Prop} (F : Fm h₀ L m own G O s) (hb : h₀.NoLimit) (h : ∀ d s', (d == sysModules) = false → Fm h₀ L m ((d, dct #[] 0) :: own) G O s' → Q (.ref d) s') : wpE (model prog w) A (.Dict [] [] pos) env Q s :=
  wpAny_Dict_empty (h _ _ (F.fr.notModules (modules_low hb)) (F.alloc rfl))
theorem S_put {oe ie value : Expr} {pos' pos : Pos} (h : wpE (model prog w) A value env (fun v s₁ => wpE (model prog w) A oe env (fun ov s₂ => wpE (model prog w) A ie env (fun iv s₃ => wpAny (model prog w) A (setItem ov iv v) (fun _ s₄ => wpS (model prog w) A rest env N R s₄) NR s₃) s₂) s₁) s)
    (hs : swapsWith value (some (.Subscript oe ie pos')) pos.line env = pure false := by rfl) : wpS (model prog w) A (.Assign [.Subscript oe ie pos'] value pos :: rest) env N R s :=
  S_cons (wpAny_Assign_Subscript h hs)
theorem d_set {v : Value} {Q : Unit → Shared → Prop} (F : Fm h₀ L m own G O s) (i : Nat) (hi : own[i]? = some (d, o)) (hd : o.IsDictOf knd kvs) (hk : knd.is k key = true) (hsz : kvs.length ≤ 1000)
    (h : ∀ o' s', o'.IsDictOf knd (stored kvs k v) → Fm h₀ L m (own.set i (d, o')) G O s' → Q () s') : wpAny (model prog w) A (setItem (.ref d) key v) Q NR s := by
  refine wpAny_setItem_pairs (knd := knd) (k := k) (kvs := kvs) hk (dOf (F.at i hi) hd) (fun h' hD hs => ?_) (by rw [sizeLine_eq]; omega)
  obtain ⟨o', ho', hd'⟩ := Heap.dictOf_iff.mp hD
  exact h o' _ hd' (F.set i hi hs ho')
theorem d_in {Q : Value → Shared → Prop} (e : hp.get? d = some o) (hd : o.IsDictOf knd kvs) (lo : (d == sysModules) = false) (hk : knd.is k key = true) (h : Q (.bool (valueAt kvs k).isSome) { s with toks := s.toks + 1 }) (hs : s.heap = hp := by rfl) :
    wpAny (model prog w) A (compareOp .In key (.ref d)) Q NR s := by subst hs; exact wpAny_in_of hk lo (dOf e hd).mapOf h
theorem d_notin {Q : Value → Shared → Prop} (e : hp.get? d = some o) (hd : o.IsDictOf knd kvs) (lo : (d == sysModules) = false) (hk : knd.is k key = true) (h : Q (.bool (!(valueAt kvs k).isSome)) { s with toks := s.toks + 1 }) (hs : s.heap = hp := by rfl) :
    wpAny (model prog w) A (compareOp .NotIn key (.ref d)) Q NR s := by subst hs; exact wpAny_notIn_of hk lo (dOf e hd).mapOf h
theorem d_sub {value slice : Expr} {v : Value} {Q : Value → Shared → Prop} (e : hp.get? d = some o) (hd : o.IsDictOf knd kvs) (hk : knd.is k key = true) (hv : valueAt kvs k = some v) (h : Q v { s with toks := s.toks + 1 }) (hh : s.heap = hp := by rfl)
    (hs : subscripted slice false (.ref d) key = operate [.ref d, key] (getItem (.ref d) key) := by with_unfolding_all rfl) :
    wpAny (model prog w) A (subscriptTail value slice (.ref d) key) Q NR s := by
  subst hh
  exact tail_any (dOf e hd).typeIs slot_dict_getitem.lookup (wpAny_getItem_of hk (dOf e hd).mapOf hv h) hs
theorem typeD (e : s.heap.get? d = some o) (hd : o.IsDictOf knd kvs) : s.TypeIs (.ref d) "dict" := (dOf e hd).typeIs
theorem noDD (e : s.heap.get? d = some o) (hd : o.IsDictOf knd kvs) : ∀ a, Value.ref d = .ref a → ∃ o, s.heap.get? a = some o ∧ o.dict = none := fun a q => by cases q; obtain ⟨_, _, hx, _⟩ := hd; exact ⟨_, e, hx.2.1⟩
theorem d_get {dv : Value} {Q : Value → Shared → Prop} (e : s.heap.get? d = some o) (hd : o.IsDictOf knd kvs) (lo : (d == sysModules) = false) (hk : knd.is k key = true) (h : Q ((valueAt kvs k).getD dv) { s with toks := s.toks + 1 }) :
    wpAny (model prog w) A (call (.builtin "dict.get") [.ref d, key, dv]) Q NR s :=
  call_meetsIn PySem.F.slot_dict_get (typeD e hd) PySem.F.entry_dict_get (PySem.F.args_dict_get_3 _ _ _) (meets_dict_get_default (knd := knd) (k := k) d hk lo dv) ⟨_, (dOf e hd).mapOf, h⟩
theorem d_setdefault {dv : Value} {Q : Value → Shared → Prop} (F : Fm h₀ L m own G O s) (i : Nat) (hi : own[i]? = some (d, o)) (hd : o.IsDictOf knd kvs) (lo : (d == sysModules) = false) (hk : knd.is k key = true) (hsz : kvs.length ≤ 1000)
    (h1 : ∀ v, valueAt kvs k = some v → Q v { s with toks := s.toks + 1 }) (h2 : valueAt kvs k = none → ∀ o' s', o'.IsDictOf knd (stored kvs k dv) → Fm h₀ L m (own.set i (d, o')) G O s' → Q dv s') :
    wpAny (model prog w) A (call (.builtin "dict.setdefault") [.ref d, key, dv]) Q NR s := by
  have e := F.at i hi
  refine call_meetsIn PySem.F.slot_dict_setdefault (typeD e hd) PySem.F.entry_dict_setdefault (PySem.F.args_dict_setdefault_3 _ _ _) (kt_meets_setdefault knd (k := k) d hk lo dv) ⟨kvs, dOf e hd, by rw [sizeLine_eq]; omega, h1, fun hn h' hD hs => ?_⟩
  obtain ⟨o', ho', hd'⟩ := Heap.dictOf_iff.mp hD
  exact h2 hn o' _ hd' (F.set i hi hs ho')
theorem dAt (e : hp.get? d = some o) (hd : o.IsDictOf knd kvs) : ∃ ep, hp.DictAt knd d kvs ep := by obtain ⟨es, ep, a, b, c⟩ := hd; exact ⟨ep, o, es, e, a, b, c⟩
/-- list(d): its keys -/
theorem list_d {Q : Value → Shared → Prop} (hh : A.handled = none) (e : hp.get? d = some o) (hd : o.IsDictOf knd kvs) (lo : (d == sysModules) = false) (hsz : kvs.length ≤ 1000)
    (h : ∀ (a : Addr) (xs : List Value) (n : Nat) (s' : Shared), Pur s s' → s.heap.get? a = none → s'.heap.get? a = some (lst xs n) → xs.length = kvs.length → (∀ (j : Nat) (v : Value), xs[j]? = some v → ∃ k x, kvs[j]? = some (k, x) ∧ knd.is k v = true) → Q (.ref a) s') (hs : s.heap = hp := by rfl) :
    wpAny (model prog w) A (call (.type "list") [.ref d]) Q NR s := by
  subst hs
  obtain ⟨ep, hat⟩ := dAt e hd
  refine kdl_call (kdl_dict (knd := knd) (kvs := kvs) (ep := ep) lo) hh hat (by rw [sizeLine_eq]; omega) fun h' tk acc c hk hD hacc => ?_
  refine h _ acc.toList c _ ⟨hk, rfl, rfl⟩ (fresh_size _) ?_ (by rw [Array.length_toList]; exact hacc.1) fun j v hv => hacc.2 j v (by rw [← Array.getElem?_toList]; exact hv)
  show h'.get? _ = _
  rw [hD, lst, Array.toArray_toList]
/-- for x in a dict that stood when the def was entered -/
theorem S_for_dict {iter : Expr} {x : Str} {px pos : Pos} {body : List Stmt} (hh : A.handled = none) (Inv : Nat → (Str → Option Value) → Led → Prop)
    (hl0 : h₀.get? d = some o) (hd : o.IsDictOf knd kvs) (lo : (d == sysModules) = false)
    (h : wpE (model prog w) A iter env (fun xv s₁ => xv = .ref d ∧ ∃ m own, Fm h₀ L m own G O s₁ ∧ Inv 0 m own) s)
    (turn : ∀ i v k y m own o I s, kvs[i]? = some (k, y) → knd.is k v = true → Inv i m own → Fm h₀ L (put m x v) (own ++ [(I, o)]) G O s →
        wpS (model prog w) A body env (fun s' => ∃ m' own', Inv (i + 1) m' own' ∧ Fm h₀ L m' (own' ++ [(I, o)]) G O s') R s)
    (fin : ∀ m own s, Inv kvs.length m own → Fm h₀ L m own G O s → wpS (model prog w) A rest env N R s)
    (hL : env.locals = L := by rfl) (hk : env.scope.kind = .function := by rfl) (hl : env.kindOf x = some .local := by rfl)
    (hs : ∀ x, foldedSetIterable iter env x = pure x := by intro _; rfl) : wpS (model prog w) A (.For (.Name x px) iter body [] pos :: rest) env N R s := by
  refine S_for_ (h₀ := h₀) (L := L) (G := G) (O := O) (wpAny_mono h (fun xv s₁ h₁ => ?_) fun _ _ x => x) hL hk hl hs
  obtain ⟨rfl, m, own, F, h0⟩ := h₁
  have hls := F.keep _ _ hl0
  obtain ⟨ep, hat⟩ := dAt hls hd
  refine wpAny_pyIter_dict lo hat ?_
  have hne : d ≠ s₁.heap.objs.size := Nat.ne_of_lt (Heap.lt_size hls)
  have W := Walks.dictKeys (knd := knd) hh s₁.heap.objs.size d hne kvs ep
  refine ⟨_, _, _, kvs.length, _, _, Inv, m, own, rfl, W, addAt (F.alloc rfl), ⟨⟨_, Heap.get?_push_size _ rfl, rfl, rfl⟩, hat.at' fun o e => Heap.get?_push_of_some _ e⟩, ?_, ?_, h0, ?_, fin⟩
  · intro b hb
    rcases List.mem_cons.mp hb with rfl | hb
    · exact .inl rfl
    · rw [List.mem_singleton.mp hb]; exact .inr ⟨_, hl0⟩
  · rintro i h ⟨⟨o, ho, _⟩, _⟩; exact ⟨o, ho⟩
  · rintro i v m own o s hi ⟨k, y, hky, hkv⟩ hI F
    exact turn i v k y m own o _ s hky hkv hI F
end
end Mine

end MQ_part
section MS_part
namespace Mine
open PySem PySem.W PySem.Calls PySem.Spec PyProof.Rows

/-! plain: first meetings -/
noncomputable def addNew (acc : List Nat) (n : Nat) : List Nat := if n ∈ acc then acc else acc ++ [n]
noncomputable def uniq (ns : List Nat) : List Nat := ns.foldl addNew []
theorem mem_addNew {acc : List Nat} {n x : Nat} : x ∈ addNew acc n ↔ x ∈ acc ∨ x = n := by
  unfold addNew
  split
  · rename_i h
    exact ⟨.inl, fun h' => h'.elim id fun e => e ▸ h⟩
  · rw [List.mem_append, List.mem_singleton]
theorem mem_foldNew {ns : List Nat} : ∀ {acc : List Nat} {x : Nat}, x ∈ ns.foldl addNew acc ↔ x ∈ acc ∨ x ∈ ns := by
  induction ns with
  | nil => intro acc x; simp
  | cons n ns ih =>
    intro acc x
    rw [List.foldl_cons, ih, mem_addNew, List.mem_cons, or_assoc]
theorem mem_uniq {ns : List Nat} {x : Nat} : x ∈ uniq ns ↔ x ∈ ns := by unfold uniq; rw [mem_foldNew]; simp
theorem nodup_addNew {acc : List Nat} {n : Nat} (h : acc.Nodup) : (addNew acc n).Nodup := by
  unfold addNew
  split
  · exact h
  · rename_i hn
    rw [List.nodup_append]
    exact ⟨h, by simp, fun a ha b hb e => hn (by rw [← List.mem_singleton.mp hb, ← e]; exact ha)⟩
theorem nodup_foldNew {ns : List Nat} : ∀ {acc : List Nat}, acc.Nodup → (ns.foldl addNew acc).Nodup := by
  induction ns with
  | nil => intro acc h; exact h
  | cons n ns ih => intro acc h; exact ih (nodup_addNew h)
theorem nodup_uniq {ns : List Nat} : (uniq ns).Nodup := nodup_foldNew List.nodup_nil
theorem uniq_snoc {ns : List Nat} {n : Nat} : uniq (ns ++ [n]) = addNew (uniq ns) n := by unfold uniq; rw [List.foldl_append]; rfl
theorem len_addNew {acc : List Nat} {n : Nat} : (addNew acc n).length ≤ acc.length + 1 := by
  unfold addNew; split
  · omega
  · rw [List.length_append]; exact Nat.le_refl _
theorem len_foldNew {ns : List Nat} : ∀ {acc : List Nat}, (ns.foldl addNew acc).length ≤ acc.length + ns.length := by
  induction ns with
  | nil => intro acc; exact Nat.le_refl _
  | cons n ns ih =>
    intro acc
    have h1 := ih (acc := addNew acc n)
    have h2 := len_addNew (acc := acc) (n := n)
    rw [List.foldl_cons, List.length_cons]; omega
theorem len_uniq {ns : List Nat} : (uniq ns).length ≤ ns.length := by have := len_foldNew (ns := ns) (acc := []); unfold uniq; simpa using this

/-- keys that are nodes -/
noncomputable def keysN (kvs : List (Int × Value)) (ns : List Nat) : Prop := kvs.map (·.1) = ns.map Int.ofNat
theorem stored_keys {Kt : Type} [DecidableEq Kt] (kvs : List (Kt × Value)) (k : Kt) (v : Value) : (stored kvs k v).map (·.1) = if k ∈ kvs.map (·.1) then kvs.map (·.1) else kvs.map (·.1) ++ [k] := by
  unfold stored
  by_cases h : k ∈ kvs.map (·.1)
  · rw [if_pos h]
    obtain ⟨p, hp, e⟩ := List.mem_map.mp h
    rw [if_pos (by rw [List.any_eq_true]; exact ⟨p, hp, by simpa using e⟩), List.map_map]
    apply List.map_congr_left
    intro q hq
    show (if q.1 = k then (q.1, v) else q).1 = q.1
    split <;> rfl
  · rw [if_neg h, if_neg, List.map_append]; · rfl
    rw [List.any_eq_true]
    rintro ⟨p, hp, e⟩
    exact h (List.mem_map.mpr ⟨p, hp, by simpa using e⟩)
theorem keysN.set {kvs : List (Int × Value)} {ns : List Nat} (h : keysN kvs ns) (n : Nat) (v : Value) : keysN (stored kvs (n : Int) v) (addNew ns n) := by
  unfold keysN at h ⊢
  rw [stored_keys, h]
  have hm : ((n : Int) ∈ ns.map Int.ofNat) ↔ n ∈ ns := by
    constructor
    · intro hx
      obtain ⟨k, hk, e⟩ := List.mem_map.mp hx
      have : k = n := Int.ofNat.inj e
      rwa [← this]
    · intro hx; exact List.mem_map.mpr ⟨n, hx, rfl⟩
  unfold addNew
  by_cases hn : n ∈ ns
  · rw [if_pos (hm.mpr hn), if_pos hn]
  · rw [if_neg (fun q => hn (hm.mp q)), if_neg hn, List.map_append]; rfl
theorem keysN.len {kvs : List (Int × Value)} {ns : List Nat} (h : keysN kvs ns) : kvs.length = ns.length := by
  have := congrArg List.length h; simpa using this
theorem valueAt_some {Kt : Type} [DecidableEq Kt] {kvs : List (Kt × Value)} {k : Kt} : (valueAt kvs k).isSome = decide (k ∈ kvs.map (·.1)) := by
  unfold valueAt
  rw [Option.isSome_map]
  by_cases h : k ∈ kvs.map (·.1)
  · rw [decide_eq_true h]
    obtain ⟨p, hp, e⟩ := List.mem_map.mp h
    rw [List.find?_isSome]
    exact ⟨p, hp, by simpa using e⟩
  · rw [decide_eq_false h]
    rw [Option.isSome_eq_false_iff, Option.isNone_iff_eq_none, List.find?_eq_none]
    intro p hp e
    exact h (List.mem_map.mpr ⟨p, hp, by simpa using e⟩)
theorem keysN.isSome {kvs : List (Int × Value)} {ns : List Nat} (h : keysN kvs ns) (n : Nat) : (valueAt kvs (n : Int)).isSome = decide (n ∈ ns) := by
  rw [valueAt_some]
  unfold keysN at h
  rw [h]
  congr 1
  rw [eq_iff_iff]
  constructor
  · intro hx
    obtain ⟨k, hk, e⟩ := List.mem_map.mp hx
    have : k = n := Int.ofNat.inj e
    rwa [← this]
  · intro hx; exact List.mem_map.mpr ⟨n, hx, rfl⟩
theorem isInt_n {n : Nat} {t : Tok} : Value.isInt (n : Int) (.int (n : Int) t) = true := by simp [Value.isInt]

section
variable {prog : Program} {w : World} {A : Around} {E : Value → Shared → Prop} {s : Shared} {env : Env} {K : Frag} {D : Doc} {hp : Heap} {t : Addr} {i : Nat} {nd : Nd} {tk : Tok} {Q : Value → Shared → Prop}
theorem unlike_spec {a : Addr} {xs : List Value} {ns : List Nat} {n : Nat} (Y : Lay K) (C : Cx K hp) (r : Rm A 2) (ha : hp.get? a = some (lst xs n)) (hx : NatsAre xs ns) (hsz : ns.length ≤ 900)
    (ret : ∀ v s', Pur s s' → NewN s s' v (uniq ns) → Q v s') (hs : s.heap = hp := by rfl) :
    wpAny (model prog w) A (call (.ref 211) [.ref a]) Q E s := by
  subst hs
  refine enter0 Y.f_unlike C r ["nodes"] (fun L s₁ F => ?_)
  have r' := r.deeper (envF "unlike" (stmtAt 30) L 211)
  have hxl := hx.length
  refine S_asg (E_dict0 F C.lim fun d s₂ lo F => stL F (fun s₃ F => ?_))
  refine S_for_list r'.h (fun i m own => ∃ o kvs, own = [(d, o)] ∧ o.IsDictOf (intKind prog w) kvs ∧ keysN kvs (uniq (ns.take i)) ∧ m "met" = some (.ref d)) ha (nmL F (put_ne rfl) ⟨rfl, _, _, F, _, [], rfl, newD _, rfl, put_same⟩) (fun i v m own o I s₄ hv hI F => ?_) fun m own s₄ hI F => ?_
  · obtain ⟨od, kvs, rfl, hd, hk, hm⟩ := hI
    obtain ⟨x, tx, rfl, hxi⟩ := hx.at hv
    have hlen := hk.len
    have hlu := len_uniq (ns := ns.take i)
    rw [List.length_take] at hlu
    refine S_put (E_bool (nmL F (put_ne hm) (nmL F put_same (d_set F 0 rfl hd (k := (x : Int)) (isInt_n (t := tx)) (by omega) fun o' s₅ hd' F => S_nil ⟨_, [(d, o')], ⟨o', _, rfl, hd', ?_, put_ne hm⟩, F⟩))))
    rw [take_snoc hxi, uniq_snoc]
    exact hk.set x _
  · obtain ⟨od, kvs, rfl, hd, hk, hm⟩ := hI
    rw [List.take_of_length_le (by omega)] at hk
    have hlen := hk.len
    have hlu := len_uniq (ns := ns)
    refine S_ret (E_bi (F.cx C) Y.b_list bb_list (by simp) (nmL F hm (list_d r'.h (F.at 0 rfl) hd lo (by omega) fun b ys n' s₅ p hn hb hl hkey => ?_)) (by decide +kernel))
    refine ret _ _ (F.back.trans p) ⟨b, ys, n', rfl, fresh_of F hn, hb, ?_⟩
    have e2 : ∀ (ys : List Value) (us : List Nat), ys.length = us.length → (∀ (j : Nat) (v : Value), ys[j]? = some v → ∃ u t, us[j]? = some u ∧ v = .int (u : Int) t) → NatsAre ys us := by
      intro ys
      induction ys with
      | nil => intro us hl _; cases us with
        | nil => exact .nil
        | cons u us => cases hl
      | cons y ys ih => intro us hl hv; cases us with
        | nil => cases hl
        | cons u us =>
          obtain ⟨u', t, e1, rfl⟩ := hv 0 y rfl
          cases e1
          exact NatsAre.cons (ih us (by simpa using hl) fun j v hj => hv (j + 1) v hj)
    refine e2 ys _ (by omega) fun j v hv => ?_
    obtain ⟨k, x, e, hkv⟩ := hkey j v hv
    have e3 : (kvs.map (·.1))[j]? = some k := by rw [List.getElem?_map, e]; rfl
    have hk' : kvs.map (·.1) = (uniq ns).map Int.ofNat := hk
    rw [hk', List.getElem?_map] at e3
    obtain ⟨u, hu, rfl⟩ := Option.map_eq_some_iff.mp e3
    obtain ⟨t, rfl⟩ := Value.isInt_shape hkv
    exact ⟨u, t, hu, rfl⟩
end
end Mine

end MS_part
section MV_part
namespace Mine
open PySem PySem.W PySem.Calls PySem.Spec PyProof.Rows

section
variable {prog : Program} {w : World} {A : Around} {s : Shared} {env : Env} {h₀ : Heap} {L : Addr} {m : Str → Option Value} {own : Led} {G : Array GenState} {O : OsState} {Kt : Type} [DecidableEq Kt]
/-- the pairs of a display, one by one -/
noncomputable def wpP (M : Model) (A : Around) (env : Env) : List (Option Expr) → List Expr → (List (Value × Value) → Shared → Prop) → Shared → Prop
  | [], [], Q, s => Q [] s
  | some k :: ks, v :: vs, Q, s => wpE M A k env (fun kv s₁ => wpE M A v env (fun vv s₂ => wpP M A env ks vs (fun r s₃ => Q ((kv, vv) :: r) s₃) s₂) s₁) s
  | _, _, _, _ => False
theorem P_nil {Q : List (Value × Value) → Shared → Prop} (h : Q [] s) : wpP (model prog w) A env [] [] Q s := h
theorem P_cons {k v : Expr} {ks : List (Option Expr)} {vs : List Expr} {Q : List (Value × Value) → Shared → Prop} (h : wpE (model prog w) A k env (fun kv s₁ => wpE (model prog w) A v env (fun vv s₂ => wpP (model prog w) A env ks vs (fun r s₃ => Q ((kv, vv) :: r) s₃) s₂) s₁) s) :
    wpP (model prog w) A env (some k :: ks) (v :: vs) Q s := h
theorem wpP_pairs {pos : Pos} : ∀ {ks : List (Option Expr)} {vs : List Expr} {Q : List (Value × Value) → Shared → Prop} {s : Shared}, wpP (model prog w) A env ks vs Q s → wpAny (model prog w) A (evalPairs (pairTrees ks vs env pos)) Q NR s
  | [], [], _, _, h => pairTrees_nil_walk h
  | some _ :: _, _ :: _, _, _, h => pairTrees_cons_walk (wpAny_mono h (fun _ _ h₁ => wpAny_mono h₁ (fun _ _ h₂ => wpP_pairs h₂) fun _ _ e => e) fun _ _ e => e)
  | none :: _, _, _, _, h => h.elim
  | [], _ :: _, _, _, h => h.elim
  | some _ :: _, [], _, _, h => h.elim
theorem E_dict {keys : List (Option Expr)} {values : List Expr} {pos : Pos} {Q : Value → Shared → Prop} (knd : PySem.KeyKind prog w Kt) (F : Fm h₀ L m own G O s) (hb : h₀.NoLimit)
    (h : ∀ d s', (d == sysModules) = false → Fm h₀ L m ((d, dct #[] 0) :: own) G O s' → wpP (model prog w) A env keys values (fun vs s'' => ∃ (m' : Str → Option Value) (own' : Led) (i : Nat) (kvs : List (Kt × Value)), own'[i]? = some (d, dct #[] 0) ∧ Fm h₀ L m' own' G O s'' ∧ Carries knd vs kvs ∧
      ∀ o' s3, o'.IsDictOf knd (merged [] kvs) → Fm h₀ L m' (own'.set i (d, o')) G O s3 → Q (.ref d) s3) s')
    (hall : keys.all (·.isSome) = true := by rfl) (hl : keys.length = values.length := by rfl) (h0 : keys ≠ [] := by simp) (hlen : keys.length ≤ 15 := by simp) : wpE (model prog w) A (.Dict keys values pos) env Q s := by
  refine wpAny_Dict_walk (knd := knd) hall hl h0 hlen (wpAny_mono (wpP_pairs (h _ _ (F.fr.notModules (modules_low hb)) (F.alloc rfl))) (fun vs s'' x => ?_) fun _ _ x => x)
  obtain ⟨m', own', i, kvs, hi, F', hc, q⟩ := x
  refine ⟨kvs, hc, dOf (F'.at i hi) (newD knd), fun h' hD hs => ?_⟩
  obtain ⟨o', ho', hd'⟩ := Heap.dictOf_iff.mp hD
  exact q o' _ hd' (F'.set i hi hs ho')
end

/-! the lines: for each parent the marked nodes beneath it -/
noncomputable abbrev Ln := Option Nat × Addr × List Value × Nat
noncomputable def lled (LL : List Ln) : Led := LL.map fun e => (e.2.1, lst e.2.2.1 e.2.2.2)
noncomputable def lkvs (LL : List Ln) : List (Option Int × Value) := LL.map fun e => (e.1.map Int.ofNat, .ref e.2.1)
structure Lines (D : Doc) (mk : List Nat) (LL : List Ln) : Prop where
  each : ∀ e ∈ LL, NatsAre e.2.2.1 (mk.filter fun j => parOf D j == e.1)
  all : ∀ j ∈ mk, ∃ e ∈ LL, e.1 = parOf D j
  top : ∃ e ∈ LL, e.1 = none
structure Marks (D : Doc) (W mk : List Nat) : Prop where
  nd : mk.Nodup
  lt : ∀ j ∈ mk, j < D.length
  mem : ∀ j, j ∈ mk ↔ ∃ v ∈ W, j = v ∨ j ∈ above D v
theorem map_ofNat_inj {a b : Option Nat} (h : a.map Int.ofNat = b.map Int.ofNat) : a = b := by
  cases a with
  | none => cases b with
    | none => rfl
    | some _ => cases h
  | some x => cases b with
    | none => cases h
    | some y => cases h; rfl
theorem lkvs_some {LL : List Ln} {p : Option Nat} {v : Value} (h : valueAt (lkvs LL) (p.map Int.ofNat) = some v) : ∃ (j : Nat) (e : Ln), LL[j]? = some e ∧ e.1 = p ∧ v = .ref e.2.1 := by
  unfold valueAt at h
  obtain ⟨kv, hf, rfl⟩ := Option.map_eq_some_iff.mp h
  have hm := List.mem_of_find?_eq_some hf
  have hk := List.find?_some hf
  obtain ⟨e, he, rfl⟩ := List.mem_map.mp hm
  obtain ⟨j, hj⟩ := List.mem_iff_getElem?.mp he
  exact ⟨j, e, hj, map_ofNat_inj (by simpa using hk), rfl⟩
theorem valueAt_mem {Kt : Type} [DecidableEq Kt] {kvs : List (Kt × Value)} {k : Kt} (h : k ∈ kvs.map (·.1)) : (valueAt kvs k).isSome = true := by
  unfold valueAt
  rw [Option.isSome_map, List.find?_isSome]
  obtain ⟨p, hp, e⟩ := List.mem_map.mp h
  exact ⟨p, hp, by simpa using e⟩
theorem lkvs_none {LL : List Ln} {p : Option Nat} (h : valueAt (lkvs LL) (p.map Int.ofNat) = none) : ∀ e ∈ LL, e.1 ≠ p := by
  intro e he hp
  have h1 : (valueAt (lkvs LL) (p.map Int.ofNat)).isSome = true := by
    refine valueAt_mem ?_
    exact List.mem_map.mpr ⟨(e.1.map Int.ofNat, .ref e.2.1), List.mem_map.mpr ⟨e, he, rfl⟩, by rw [hp]⟩
  rw [h] at h1; cases h1
theorem stored_new {Kt : Type} [DecidableEq Kt] {kvs : List (Kt × Value)} {k : Kt} {v : Value} (h : valueAt kvs k = none) : stored kvs k v = kvs ++ [(k, v)] := by
  unfold stored
  rw [if_neg]
  rw [List.any_eq_true]
  rintro ⟨p, hp, e⟩
  have h1 : (valueAt kvs k).isSome = true := valueAt_mem (List.mem_map.mpr ⟨p, hp, by simpa using e⟩)
  rw [h] at h1; cases h1
theorem lnodup {LL : List Ln} (h : ((lkvs LL).map (·.1)).Nodup) {i j : Nat} {e e' : Ln} (hi : LL[i]? = some e) (hj : LL[j]? = some e') (he : e.1 = e'.1) : i = j := by
  have e1 : ((lkvs LL).map (·.1)) = LL.map fun e => e.1.map Int.ofNat := by unfold lkvs; rw [List.map_map]; rfl
  rw [e1] at h
  obtain ⟨hi', hi2⟩ := List.getElem?_eq_some_iff.mp hi
  obtain ⟨hj', hj2⟩ := List.getElem?_eq_some_iff.mp hj
  have hi3 : i < (LL.map fun e => e.1.map Int.ofNat).length := by rw [List.length_map]; exact hi'
  have hj3 : j < (LL.map fun e => e.1.map Int.ofNat).length := by rw [List.length_map]; exact hj'
  have pw := List.pairwise_iff_getElem.mp h
  have q : (LL.map fun e => e.1.map Int.ofNat)[i] = (LL.map fun e => e.1.map Int.ofNat)[j] := by rw [List.getElem_map, List.getElem_map, hi2, hj2, he]
  rcases Nat.lt_trichotomy i j with hij | hij | hij
  · exact absurd q (pw i j hi3 hj3 hij)
  · exact hij
  · exact absurd q.symm (pw j i hj3 hi3 hij)
theorem nodup_sub : ∀ {l1 l2 : List Nat}, l1.Nodup → (∀ x ∈ l1, x ∈ l2) → l1.length ≤ l2.length
  | [], _, _, _ => Nat.zero_le _
  | a :: l1, l2, h, hs => by
    rw [List.nodup_cons] at h
    have ha := hs a (.head _)
    have h1 := nodup_sub (l2 := l2.erase a) h.2 fun x hx => (List.mem_erase_of_ne (fun e => h.1 (by rw [← e]; exact hx))).mpr (hs x (.tail _ hx))
    rw [List.length_erase_of_mem ha] at h1
    have := List.length_pos_of_mem ha
    rw [List.length_cons]; omega
theorem nodup_lt {l : List Nat} {n : Nat} (h : l.Nodup) (hl : ∀ x ∈ l, x < n) : l.length ≤ n := by
  have := nodup_sub (l2 := List.range n) h fun x hx => List.mem_range.mpr (hl x hx)
  rwa [List.length_range] at this
/-- one more node marked -/
theorem Lines.more {D : Doc} {mk : List Nat} {LL : List Ln} (X : Lines D mk LL) (nd : ((lkvs LL).map (·.1)).Nodup) {j : Nat} {a : Addr} {vs : List Value} {n n' x : Nat} {t : Tok} (hj : LL[j]? = some (parOf D x, a, vs, n)) :
    Lines D (mk ++ [x]) (LL.set j (parOf D x, a, vs ++ [.int (x : Int) t], n')) := by
  obtain ⟨hlt, hget⟩ := List.getElem?_eq_some_iff.mp hj
  have back : ∀ e ∈ LL, ∃ e' ∈ LL.set j (parOf D x, a, vs ++ [.int (x : Int) t], n'), e'.1 = e.1 := by
    intro e he
    obtain ⟨i, hi⟩ := List.mem_iff_getElem?.mp he
    by_cases hij : j = i
    · subst hij
      rw [hj] at hi; cases hi
      exact ⟨_, List.mem_set hlt _, rfl⟩
    · exact ⟨e, List.mem_iff_getElem?.mpr ⟨i, by rw [List.getElem?_set_ne hij]; exact hi⟩, rfl⟩
  refine ⟨fun e he => ?_, fun y hy => ?_, ?_⟩
  · obtain ⟨i, hi⟩ := List.mem_iff_getElem?.mp he
    by_cases hij : j = i
    · subst hij
      rw [List.getElem?_set_self hlt] at hi; cases hi
      rw [List.filter_append]
      have e1 : [x].filter (fun j => parOf D j == parOf D x) = [x] := by simp
      rw [e1]
      exact (X.each (parOf D x, a, vs, n) (List.mem_of_getElem? hj)).snoc
    · rw [List.getElem?_set_ne hij] at hi
      have hne : parOf D x ≠ e.1 := fun q => hij (lnodup nd hj hi q)
      rw [List.filter_append]
      have e1 : [x].filter (fun j => parOf D j == e.1) = [] := by simp [hne]
      rw [e1, List.append_nil]
      exact X.each e (List.mem_of_getElem? hi)
  · rcases List.mem_append.mp hy with hy | hy
    · obtain ⟨e, he, q⟩ := X.all y hy
      obtain ⟨e', he', q'⟩ := back e he
      exact ⟨e', he', q'.trans q⟩
    · rw [List.mem_singleton.mp hy]
      exact ⟨_, List.mem_set hlt _, rfl⟩
  · obtain ⟨e, he, q⟩ := X.top
    obtain ⟨e', he', q'⟩ := back e he
    exact ⟨e', he', q'.trans q⟩
theorem Lines.room {D : Doc} {mk : List Nat} {LL : List Ln} (X : Lines D mk LL) {p : Option Nat} (a : Addr) (h : ∀ j ∈ mk, parOf D j ≠ p) : Lines D mk (LL ++ [(p, a, [], 0)]) := by
  refine ⟨fun e he => ?_, fun y hy => ?_, ?_⟩
  · rcases List.mem_append.mp he with he | he
    · exact X.each e he
    · rw [List.mem_singleton.mp he]
      have e1 : mk.filter (fun j => parOf D j == p) = [] := by rw [List.filter_eq_nil_iff]; intro y hy; simp [h y hy]
      rw [e1]; exact .nil
  · obtain ⟨e, he, q⟩ := X.all y hy
    exact ⟨e, List.mem_append_left _ he, q⟩
  · obtain ⟨e, he, q⟩ := X.top
    exact ⟨e, List.mem_append_left _ he, q⟩
end Mine

end MV_part
section MW_part
namespace Mine
open PySem PySem.W PySem.Calls PySem.Spec PyProof.Rows

theorem parV_key {v : Value} {o : Option Nat} (h : ParV v o) : oiIs (o.map Int.ofNat) v = true := by
  cases o with
  | none => cases h; rfl
  | some p => obtain ⟨t, rfl⟩ := h; exact isInt_n (t := t)
theorem lkvs_snoc {LL : List Ln} {e : Ln} : lkvs (LL ++ [e]) = lkvs LL ++ [(e.1.map Int.ofNat, .ref e.2.1)] := by unfold lkvs; rw [List.map_append]; rfl
theorem lled_snoc {LL : List Ln} {e : Ln} : lled (LL ++ [e]) = lled LL ++ [(e.2.1, lst e.2.2.1 e.2.2.2)] := by unfold lled; rw [List.map_append]; rfl
theorem lkvs_set {LL : List Ln} {j : Nat} {p : Option Nat} {a : Addr} {vs vs' : List Value} {n n' : Nat} (h : LL[j]? = some (p, a, vs, n)) : lkvs (LL.set j (p, a, vs', n')) = lkvs LL := by
  unfold lkvs
  rw [List.map_set]
  apply List.ext_getElem?
  intro i
  rw [List.getElem?_set]
  split
  · rename_i e; subst e
    rw [List.getElem?_map, h]
    obtain ⟨hlt, _⟩ := List.getElem?_eq_some_iff.mp h
    rw [List.length_map, if_pos hlt]; rfl
  · rfl
theorem lled_set {LL : List Ln} {j : Nat} {e : Ln} : lled (LL.set j e) = (lled LL).set j (e.2.1, lst e.2.2.1 e.2.2.2) := by unfold lled; rw [List.map_set]
theorem lled_get {LL : List Ln} {j : Nat} {e : Ln} (h : LL[j]? = some e) : (lled LL)[j]? = some (e.2.1, lst e.2.2.1 e.2.2.2) := by unfold lled; rw [List.getElem?_map, h]; rfl
theorem closed_all {D : Doc} (wf : Wf D) {mk : List Nat} (h : ∀ j ∈ mk, ∀ p, parOf D j = some p → p ∈ mk) : ∀ j, j ∈ mk → ∀ a ∈ above D j, a ∈ mk := by
  intro j
  induction j using Nat.strongRecOn with
  | _ j ih =>
    intro hj a ha
    cases hp : parOf D j with
    | none => rw [above_none hp] at ha; cases ha
    | some p =>
      rw [above_some wf hp] at ha
      rcases List.mem_cons.mp ha with rfl | ha
      · exact h j hj a hp
      · exact ih p (wf j p hp) (h j hj p hp) a ha

theorem led_at {p q : Addr × Obj} {LL : List Ln} {tl : Led} {j : Nat} {e : Ln} (h : LL[j]? = some e) : (p :: q :: lled LL ++ tl)[j + 2]? = some (e.2.1, lst e.2.2.1 e.2.2.2) := by
  show (lled LL ++ tl)[j]? = _
  obtain ⟨hlt, _⟩ := List.getElem?_eq_some_iff.mp h
  rw [List.getElem?_append_left (by unfold lled; rw [List.length_map]; exact hlt)]
  exact lled_get h
theorem led_set {p q : Addr × Obj} {LL : List Ln} {tl : Led} {j : Nat} {e : Ln} (h : j < LL.length) : (p :: q :: lled LL ++ tl).set (j + 2) (e.2.1, lst e.2.2.1 e.2.2.2) = p :: q :: lled (LL.set j e) ++ tl := by
  show p :: q :: (lled LL ++ tl).set j _ = _
  rw [List.set_append_left _ _ (by unfold lled; rw [List.length_map]; exact h), lled_set]; rfl
/-- what the marking keeps, the nodes of V done -/
structure MInv (D : Doc) (V mk : List Nat) (o : Option Nat) : Prop where
  nd : mk.Nodup
  lt : ∀ j ∈ mk, j < D.length
  sound : ∀ j ∈ mk, ∃ v ∈ V, j = v ∨ j ∈ above D v
  up : ∀ j ∈ mk, ∀ p, parOf D j = some p → p ∈ mk ∨ o = some p
  done : ∀ v ∈ V, v ∈ mk ∨ o = some v
  at_ : ∀ x, o = some x → x < D.length ∧ ∃ v ∈ V, x = v ∨ x ∈ above D v
theorem MInv.marks {D : Doc} (P : Pre D) {V mk : List Nat} {o : Option Nat} (h : MInv D V mk o) (ho : ∀ x, o = some x → x ∈ mk) : Marks D V mk := by
  refine ⟨h.nd, h.lt, fun j => ⟨h.sound j, ?_⟩⟩
  rintro ⟨v, hv, e⟩
  have hvm : v ∈ mk := (h.done v hv).elim id (ho v)
  rcases e with rfl | e
  · exact hvm
  · exact closed_all P.wf (fun j hj p hp => (h.up j hj p hp).elim id (ho p)) v hvm j e
theorem MInv.start {D : Doc} (P : Pre D) {V mk : List Nat} {v : Nat} (h : Marks D V mk) (hv : v < D.length) : MInv D (V ++ [v]) mk (some v) := by
  refine ⟨h.nd, h.lt, fun j hj => ?_, fun j hj p hp => ?_, fun u hu => ?_, fun x hx => ?_⟩
  · obtain ⟨u, hu, e⟩ := (h.mem j).mp hj
    exact ⟨u, List.mem_append_left _ hu, e⟩
  · refine .inl ((h.mem p).mpr ?_)
    obtain ⟨u, hu, e⟩ := (h.mem j).mp hj
    refine ⟨u, hu, .inr ?_⟩
    have hpj : p ∈ above D j := by rw [above_some P.wf hp]; exact .head _
    rcases e with rfl | e
    · exact hpj
    · exact trans_above P.wf _ _ _ e hpj
  · rcases List.mem_append.mp hu with hu | hu
    · exact .inl ((h.mem u).mpr ⟨u, hu, .inl rfl⟩)
    · rw [List.mem_singleton.mp hu]; exact .inr rfl
  · cases hx
    exact ⟨hv, v, by simp, .inl rfl⟩
theorem MInv.step {D : Doc} (P : Pre D) {V mk : List Nat} {x : Nat} (h : MInv D V mk (some x)) (hx : x ∉ mk) : MInv D V (mk ++ [x]) (parOf D x) := by
  obtain ⟨hxl, u, hu, hux⟩ := h.at_ x rfl
  have chain : ∀ p, parOf D x = some p → ∃ v ∈ V, p = v ∨ p ∈ above D v := fun p hp => by
    have hpx : p ∈ above D x := by rw [above_some P.wf hp]; exact .head _
    refine ⟨u, hu, .inr ?_⟩
    rcases hux with rfl | hux
    · exact hpx
    · exact trans_above P.wf _ _ _ hux hpx
  refine ⟨?_, fun j hj => ?_, fun j hj => ?_, fun j hj p hp => ?_, fun v hv => ?_, fun y hy => ⟨(par_lt P hy).2, chain y hy⟩⟩
  · rw [List.nodup_append]
    exact ⟨h.nd, by simp, fun a ha b hb e => hx (by rw [← List.mem_singleton.mp hb, ← e]; exact ha)⟩
  · rcases List.mem_append.mp hj with hj | hj
    · exact h.lt j hj
    · rw [List.mem_singleton.mp hj]; exact hxl
  · rcases List.mem_append.mp hj with hj | hj
    · exact h.sound j hj
    · rw [List.mem_singleton.mp hj]; exact ⟨u, hu, hux⟩
  · rcases List.mem_append.mp hj with hj | hj
    · rcases h.up j hj p hp with q | q
      · exact .inl (List.mem_append_left _ q)
      · cases q; exact .inl (by simp)
    · rw [List.mem_singleton.mp hj] at hp; exact .inr hp
  · rcases h.done v hv with q | q
    · exact .inl (List.mem_append_left _ q)
    · cases q; exact .inl (by simp)

section
variable {prog : Program} {w : World} {A : Around} {E : Value → Shared → Prop} {s : Shared} {env : Env} {K : Frag} {D : Doc} {hp : Heap} {t : Addr} {i : Nat} {nd : Nd} {tk : Tok} {Q : Value → Shared → Prop}
theorem lines_marked_spec {wd : Addr} {ow : Obj} {kvsW : List (Int × Value)} {W : List Nat} (Y : Lay K) (C : Cx K hp) (r : Rm A 8) (hT : TreeIs hp t D) (P : Pre D) (hw : hp.get? wd = some ow) (hwd : ow.IsDictOf (intKind prog w) kvsW) (lo : (wd == sysModules) = false) (hkW : keysN kvsW W) (hW : ∀ x ∈ W, x < D.length)
    (ret : ∀ fd mk LL o s', Pur s s' → Marks D W mk → Lines D mk LL → (fd == sysModules) = false → o.IsDictOf (oiKind prog w) (lkvs LL) → Holds ((fd, o) :: lled LL) s'.heap → (((fd, o) :: lled LL).map (·.1)).Nodup → (∀ p ∈ (fd, o) :: lled LL, s.heap.get? p.1 = none) → Q (.ref fd) s') (hs : s.heap = hp := by rfl) :
    wpAny (model prog w) A (call (.ref 175) [.ref t, .ref wd]) Q E s := by
  subst hs
  refine enter0 Y.f_lines_marked C r ["tree", "nodes"] (fun L s₁ F => ?_)
  have r' := r.deeper (envF "lines_marked" (stmtAt 23) L 175)
  have hsm := hT.small
  have hlW := hkW.len
  refine @S_asgT2 _ _ _ _ _ _ _ _ _ _ _ _ _ _ _ _ _ _ _ _ "found" "met" F r'.h ?_ rfl rfl rfl rfl rfl
  refine @E_tup _ _ _ _ _ _ _ _ _ ?_ rfl
  refine @E_dict _ _ _ _ _ _ _ _ _ _ _ _ _ _ _ _ _ (oiKind prog w) F C.lim (fun fd s₂ lof F => ?_) rfl rfl (by simp) (by simp)
  refine P_cons (E_none (E_list (newL F fun b s₃ F => P_nil ⟨_, _, 1, [(none, .ref b)], rfl, F, ⟨rfl, rfl, trivial⟩, fun of s₄ hof F => ?_⟩)))
  refine E_dict0 F C.lim fun md s₅ lom F => ?_
  refine newT F fun d s₆ F => ⟨d, _, _, 0, _, _, rfl, F, F.at 0 rfl, fun s₇ F => ?_⟩
  have F := (F.cut 1).perm (own' := (fd, of) :: (md, dct #[] 0) :: lled [(none, b, [], 0)]) (List.perm_append_comm (l₁ := [(md, dct #[] 0), (b, lst [] 0)]) (l₂ := [(fd, of)]))
  have hlI : Lines D [] [(none, b, [], 0)] := ⟨fun e he => by rw [List.mem_singleton.mp he]; exact .nil, (fun j hj => nomatch hj), ⟨_, .head _, rfl⟩⟩
  have hof' : of.IsDictOf (oiKind prog w) (lkvs [(none, b, [], 0)]) := hof
  have m0 : Marks D [] [] := ⟨List.nodup_nil, (fun j hj => nomatch hj), fun j => ⟨(fun hj => nomatch hj), fun ⟨v, hv, _⟩ => nomatch hv⟩⟩
  refine S_for_dict r'.h (fun i m own => ∃ of om LL mk kvsM, own = (fd, of) :: (md, om) :: lled LL ∧ of.IsDictOf (oiKind prog w) (lkvs LL) ∧ om.IsDictOf (intKind prog w) kvsM ∧ keysN kvsM mk ∧ Lines D mk LL ∧ Marks D (W.take i) mk ∧ LL.length ≤ mk.length + 1 ∧
      m "tree" = some (.ref t) ∧ m "found" = some (.ref fd) ∧ m "met" = some (.ref md)) hw hwd lo
    (nmL F (put_ne (put_ne rfl)) ⟨rfl, _, _, F, of, _, _, [], [], rfl, hof', newD _, rfl, hlI, m0, by simp, put_ne (put_ne rfl), put_same, put_ne put_same⟩) (fun i v k y m own oI I s₈ hky hkv hI F => ?_) fun m own s₈ hI F => ?_
  · obtain ⟨of, om, LL, mk, kvsM, rfl, hof, hom, hkM, hLi, hMk, hLL, m1, m2, m3⟩ := hI
    have hkx : (kvsW.map (·.1))[i]? = some k := by rw [List.getElem?_map, hky]; rfl
    have hkW' : kvsW.map (·.1) = W.map Int.ofNat := hkW
    rw [hkW', List.getElem?_map] at hkx
    obtain ⟨x, hx, rfl⟩ := Option.map_eq_some_iff.mp hkx
    obtain ⟨tx, rfl⟩ := Value.isInt_shape hkv
    have hxD := hW x (List.mem_of_getElem? hx)
    refine S_asg (nmL F put_same (stL F (fun s₉ F => ?_)))
    have hI0 := MInv.start P hMk hxD
    rw [← take_snoc hx] at hI0
    refine S_while (fun n s' => ∃ m of om LL mk kvsM o v, Fm s.heap L m ((fd, of) :: (md, om) :: lled LL ++ [(I, oI)]) s.gens s.os s' ∧ of.IsDictOf (oiKind prog w) (lkvs LL) ∧ om.IsDictOf (intKind prog w) kvsM ∧ keysN kvsM mk ∧ Lines D mk LL ∧ MInv D (W.take (i + 1)) mk o ∧ LL.length ≤ mk.length + 1 ∧
      m "tree" = some (.ref t) ∧ m "found" = some (.ref fd) ∧ m "met" = some (.ref md) ∧ m "here" = some v ∧ ParV v o ∧ n = (match o with | none => 0 | some x => x + 1)) _
      ⟨_, of, om, LL, mk, kvsM, some x, _, F, hof, hom, hkM, hLi, hI0, hLL, put_ne (put_ne m1), put_ne (put_ne m2), put_ne (put_ne m3), put_same, ⟨tx, rfl⟩, rfl⟩ ?_
    clear F hof hom hkM hLi hMk hLL m1 m2 m3 hI0
    rintro n s₁₀ ⟨m, of, om, LL, mk, kvsM, o, v, F, hof, hom, hkM, hLi, hMI, hLL, m1, m2, m3, m4, hv, rfl⟩
    have hmk : mk.length ≤ D.length := nodup_lt hMI.nd hMI.lt
    refine T_bool (and_cons (T_cmp (nmL F m4 (E_none (cmp_isnot (tr_bool ?_))))))
    cases o with
    | none =>
      cases hv
      exact S_nil ⟨m, (fd, of) :: (md, om) :: lled LL, ⟨of, om, LL, mk, kvsM, rfl, hof, hom, hkM, hLi, hMI.marks P (fun x hx => nomatch hx), hLL, m1, m2, m3⟩, F⟩
    | some y =>
      obtain ⟨ty, rfl⟩ := hv
      refine and_cons (T_cmp (nmL F m4 (nmL F m3 (d_notin (F.at 1 rfl) hom lom (isInt_n (t := ty)) (tr_bool ?_)))))
      rw [hkM.isSome y]
      have F := F.tok (s₁₀.toks + 1)
      by_cases hym : y ∈ mk
      · rw [decide_eq_true hym]
        exact S_nil ⟨m, (fd, of) :: (md, om) :: lled LL, ⟨of, om, LL, mk, kvsM, rfl, hof, hom, hkM, hLi, hMI.marks P (fun x hx => by cases hx; exact hym), hLL, m1, m2, m3⟩, F⟩
      · rw [decide_eq_false hym]
        refine and_nil ?_
        have hyD := (hMI.at_ y rfl).1
        have hkl := hkM.len
        refine S_put (E_bool (nmL F m3 (nmL F m4 (d_set F 1 rfl hom (k := (y : Int)) (isInt_n (t := ty)) (by omega) fun om' s₁₁ hom' F => ?_))))
        have hkM' := hkM.set y (.bool true)
        have ea : addNew mk y = mk ++ [y] := by unfold addNew; rw [if_neg hym]
        rw [ea] at hkM'
        refine S_asg (E_tm Y Y.f_t_parent Y.m_parent (F.cx C) (hT.keeps F.keep) (fun _ q => nmL F m1 q) (nmL F m4 ⟨F.cx C, ?_⟩))
        refine parent_spec Y (F.cx C) (r'.mono (by omega)) (hT.keeps F.keep) (hT.get hyD) fun v' s₁₂ p hv => ?_
        have F := F.pur p
        have hpo := parOf_of (hT.get hyD)
        rw [← hpo] at hv
        refine stL F (fun s₁₃ F => ?_)
        have hstep := hMI.step P hym
        have fin : ∀ (LL' : List Ln) (of' : Obj) (s' : Shared), of'.IsDictOf (oiKind prog w) (lkvs LL') → Lines D (mk ++ [y]) LL' → LL'.length ≤ mk.length + 2 → Fm s.heap L (put m "above" v') ((fd, of') :: (md, om') :: lled LL' ++ [(I, oI)]) s.gens s.os s' →
            wpS (model prog w) (A.deeper (envF "lines_marked" (stmtAt 23) L 175)) [.Assign [.Name "here" ⟨153, 12, 153, 16⟩] (.Name "above" ⟨153, 19, 153, 24⟩) ⟨153, 12, 153, 24⟩] (envF "lines_marked" (stmtAt 23) L 175)
              (fun s'' => ∃ n, n < y + 1 ∧ ∃ m of om LL mk kvsM o v, Fm s.heap L m ((fd, of) :: (md, om) :: lled LL ++ [(I, oI)]) s.gens s.os s'' ∧ of.IsDictOf (oiKind prog w) (lkvs LL) ∧ om.IsDictOf (intKind prog w) kvsM ∧ keysN kvsM mk ∧ Lines D mk LL ∧ MInv D (W.take (i + 1)) mk o ∧ LL.length ≤ mk.length + 1 ∧
                m "tree" = some (.ref t) ∧ m "found" = some (.ref fd) ∧ m "met" = some (.ref md) ∧ m "here" = some v ∧ ParV v o ∧ n = (match o with | none => 0 | some x => x + 1)) Q s' := fun LL' of' s' hd hl hsz F => by
          refine S_asg (nmL F put_same (stL F (fun s'' F => S_nil ⟨_, ?_, _, of', om', LL', mk ++ [y], _, parOf D y, v', F, hd, hom', hkM', hl, hstep, by rw [List.length_append]; exact hsz, put_ne (put_ne m1), put_ne (put_ne m2), put_ne (put_ne m3), put_same, hv, rfl⟩)))
          cases hq : parOf D y with
          | none => exact Nat.succ_pos _
          | some z => exact Nat.succ_lt_succ (P.wf y z hq)
        have app : ∀ (LL' : List Ln) (of' : Obj) (s' : Shared) (j : Nat) (a : Addr) (vs : List Value) (n : Nat), LL'[j]? = some (parOf D y, a, vs, n) → of'.IsDictOf (oiKind prog w) (lkvs LL') → Lines D mk LL' → LL'.length ≤ mk.length + 2 → Fm s.heap L (put m "above" v') ((fd, of') :: (md, om') :: lled LL' ++ [(I, oI)]) s.gens s.os s' →
            wpAny (model prog w) (A.deeper (envF "lines_marked" (stmtAt 23) L 175)) (call (.builtin "list.append") [.ref a, .int (y : Int) ty]) (fun _ s'' => wpS (model prog w) (A.deeper (envF "lines_marked" (stmtAt 23) L 175)) [.Assign [.Name "here" ⟨153, 12, 153, 16⟩] (.Name "above" ⟨153, 19, 153, 24⟩) ⟨153, 12, 153, 24⟩] (envF "lines_marked" (stmtAt 23) L 175)
              (fun s'' => ∃ n, n < y + 1 ∧ ∃ m of om LL mk kvsM o v, Fm s.heap L m ((fd, of) :: (md, om) :: lled LL ++ [(I, oI)]) s.gens s.os s'' ∧ of.IsDictOf (oiKind prog w) (lkvs LL) ∧ om.IsDictOf (intKind prog w) kvsM ∧ keysN kvsM mk ∧ Lines D mk LL ∧ MInv D (W.take (i + 1)) mk o ∧ LL.length ≤ mk.length + 1 ∧
                m "tree" = some (.ref t) ∧ m "found" = some (.ref fd) ∧ m "met" = some (.ref md) ∧ m "here" = some v ∧ ParV v o ∧ n = (match o with | none => 0 | some x => x + 1)) Q s'') NR s' := fun LL' of' s' j a vs n hj hd hl hsz F => by
          have hvl := (hl.each _ (List.mem_of_getElem? hj)).length
          have hfl := List.length_filter_le (fun z => parOf D z == parOf D y) mk
          have nd : ((lkvs LL').map (·.1)).Nodup := by obtain ⟨_, _, _, _, _, _, h⟩ := hd; exact h
          have hlt := (List.getElem?_eq_some_iff.mp hj).1
          refine l_append F (j + 2) (led_at hj) (by dsimp only at hvl ⊢; omega) fun n' s'' F => ?_
          have F : Fm s.heap L (put m "above" v') ((fd, of') :: (md, om') :: lled (LL'.set j (parOf D y, a, vs ++ [.int (y : Int) ty], n')) ++ [(I, oI)]) s.gens s.os s'' := by
            have e := led_set (p := (fd, of')) (q := (md, om')) (LL := LL') (tl := [(I, oI)]) (e := (parOf D y, a, vs ++ [.int (y : Int) ty], n')) hlt
            rw [← e]; exact F
          exact fin (LL'.set j (parOf D y, a, vs ++ [.int (y : Int) ty], n')) of' s'' (by rw [lkvs_set hj]; exact hd) (hl.more nd hj) (by rw [List.length_set]; exact hsz) F
        refine S_exp (E_methB PySem.F.plainAttrs_list PySem.F.slot_list_append PySem.F.type_list_append (E_methB PySem.F.plainAttrs_dict PySem.F.slot_dict_setdefault PySem.F.type_dict_setdefault (nmL F (put_ne m2) ⟨typeD (F.at 0 rfl) hof, noDD (F.at 0 rfl) hof, nmL F put_same (E_list (newL F fun b s₁₄ F => ?_))⟩)))
        have hof2 := hof.choose_spec
        refine d_setdefault F 1 rfl hof lof (k := (parOf D y).map Int.ofNat) (parV_key hv) (by unfold lkvs; rw [List.length_map]; omega) (fun v hval => ?_) (fun hval o' s' hd' F => ?_)
        · obtain ⟨j, ⟨p, a, vs, n⟩, hj, rfl, rfl⟩ := lkvs_some hval
          have F := (F.cut 1).tok (s₁₄.toks + 1)
          have hat := F.at (j + 2) (led_at hj)
          exact ⟨typeL hat, noD hat, nmL F (put_ne m4) (app LL of _ j a vs n hj hof hLi (by omega) F)⟩
        · have hnone : ∀ j ∈ mk, parOf D j ≠ parOf D y := fun j hj e => by
            obtain ⟨e', he', q⟩ := hLi.all j hj
            exact lkvs_none hval e' he' (q.trans e)
          have hl' := hLi.room b hnone
          have hkv : stored (lkvs LL) ((parOf D y).map Int.ofNat) (.ref b) = lkvs (LL ++ [(parOf D y, b, [], 0)]) := by rw [stored_new hval, lkvs_snoc]
          rw [hkv] at hd'
          have F := F.perm (own' := (fd, o') :: (md, om') :: lled (LL ++ [(parOf D y, b, [], 0)]) ++ [(I, oI)]) (by
            rw [lled_snoc]
            have := (List.perm_middle (a := (b, lst [] 0)) (l₁ := (fd, o') :: (md, om') :: lled LL) (l₂ := [(I, oI)])).symm
            simpa using this)
          have hj : (LL ++ [(parOf D y, b, ([] : List Value), 0)])[LL.length]? = some (parOf D y, b, [], 0) := by simp
          have hat := F.at (LL.length + 2) (led_at hj)
          exact ⟨typeL hat, noD hat, nmL F (put_ne m4) (app _ o' _ LL.length b [] 0 hj hd' hl' (by rw [List.length_append]; show LL.length + 1 ≤ _; omega) F)⟩
  · obtain ⟨of, om, LL, mk, kvsM, rfl, hof, hom, hkM, hLi, hMk, hLL, m1, m2, m3⟩ := hI
    rw [List.take_of_length_le (by omega)] at hMk
    have F' := F.drop (own' := (fd, of) :: lled LL) (.cons_cons _ (.cons _ (.refl _)))
    exact S_ret (nmL F m2 (ret fd mk LL of _ F.back hMk hLi lof hof (fun p hp => F'.mem hp) F'.nd fun p hp => (F'.nw p hp).2.2))
end
end Mine

end MW_part
section NA_part
namespace Mine
open PySem PySem.W PySem.Calls PySem.Spec PyProof.Rows

section
variable {prog : Program} {w : World} {A : Around} {R' : Result → Shared → Prop} {s s₁ s₂ : Shared} {env : Env} {K : Frag} {h₀ : Heap} {L : Addr} {m : Str → Option Value} {own : Led} {G : Array GenState} {O : OsState} {N : Shared → Prop} {R : Value → Shared → Prop} {rest : List Stmt} {Kt : Type} [DecidableEq Kt] {knd : PySem.KeyKind prog w Kt}
theorem compLoopD {kx vx target iter : Expr} {scope : Scope} {pos : Pos} {it : Value} {D : Addr} (I : Nat → Shared → Prop)
    (turn : ∀ n s, I n s → wpAny (model prog w) A (pyNext it) (fun r s₁ => match r with
      | none => R' (.ok .next) s₁
      | some v => wpAny (model prog w) A (letOwnedTupleGo target it v) (fun _ s₁' => wpAny (model prog w) A (assign target env v) (fun _ s₂ =>
          wpAny (model prog w) A (eval kx env) (fun kv s₄ => wpAny (model prog w) A (eval vx env) (fun vv s₅ =>
              wpAny (model prog w) A (dictSet D kv vv) (fun _ s₆ => ∃ m, m < n ∧ I m s₆) NR s₅) NR s₄) NR s₂) NR s₁') NR s₁) NR s)
    (n : Nat) (h : I n s) :
    codeAny (model prog w) A (.compLoop (.DictComp kx vx [⟨target, iter, [], 0⟩] scope pos) 0 it (.ref D) env) R' s := by
  refine codeAny_loop rfl I (fun n s hI => ?_) n h
  show wpAny _ A ((compTurn (.DictComp kx vx [⟨target, iter, [], 0⟩] scope pos) 0 it (.ref D) env).onRaise (fun x => do noteFrame x env; theTreesLotGoes x)) _ _ s
  refine wpAny_noted ?_
  rw [compTurn_dict]
  refine wpAny_bind (wpAny_standAt (wpAny_bind (wpAny_mono (turn n s hI) (fun r s₁ h₁ => ?_) fun _ _ h' => h'.elim)))
  cases r with
  | none => exact wpAny_pure h₁
  | some v =>
    refine wpAny_bind (wpAny_mono h₁ (fun _ s₁' h₁' => wpAny_bind (wpAny_mono h₁' (fun _ s₂ h₂ => ?_) fun _ _ h' => h'.elim)) fun _ _ h' => h'.elim)
    refine wpAny_bind (wpAny_pure ?_)
    show wpAny _ A (do
      (do
            let kv ← eval kx env
            let vv ← holding [kv] (eval vx env)
            standAt { kx.pos with endLine := vx.pos.endLine, endCol := vx.pos.endCol }
            holding [kv, vv] (dictSet D kv vv))
      again (.compLoop (.DictComp kx vx [⟨target, iter, [], 0⟩] scope pos) 0 it (.ref D) env)) _ _ _
    exact wpAny_bind (wpAny_bind (wpAny_mono h₂ (fun kv s₄ h₄ => wpAny_bind (wpAny_holding (wpAny_mono h₄ (fun vv s₅ h₅ => wpAny_bind (wpAny_standAt (wpAny_holding (wpAny_mono h₅ (fun _ s₆ h₆ => wpAny_pure ⟨rfl, h₆⟩) fun _ _ h' => h'.elim)))) fun _ _ h' => h'.elim))) fun _ _ h' => h'.elim))

theorem comp_out2 {X : Led} {C D : Addr} {oD : Obj} {m' : Str → Option Value} (F : Fm h₀ L m (own ++ X) G O s₁) (Fb : Fm (hideAll s₁.heap (X.map (·.1))) C m' [(D, oD)] G O s)
    (hD : s₁.heap.get? D = none) (hC : s₁.heap.get? C = none) (hDC : D ≠ C) :
    ∃ oC, Fm h₀ L m ((C, oC) :: (D, oD) :: own) G O s ∧ ∀ h : Heap, h.get? C = some oC → h.Ns C m' := by
  have F2 := F.tail (X' := []) (h' := s.heap) (t := s.toks) (fun b x hb e => Fb.keep b x (hideAll_get _ e hb)) (List.nil_sublist _) (fun p hp => nomatch hp)
  rw [List.append_nil] at F2
  have F3 : Fm h₀ L m own G O s := ⟨F2.fr, F2.nw, F2.nd, Fb.gens, Fb.os⟩
  have nin : ∀ a, s₁.heap.get? a = none → a ∉ own.map (·.1) := fun a ha hm => F.notIn ha (by rw [List.map_append]; exact List.mem_append_left _ hm)
  have F4 := F3.ins (a := D) (o := oD) (Fb.at 0 rfl) (fresh_of F hD) (F.notL hD) (nin D hD)
  obtain ⟨oC, es, ep, ho, r⟩ := Fb.fr.ns
  refine ⟨oC, F4.ins ho (fresh_of F hC) (F.notL hC) ?_, fun h hh => ⟨oC, es, ep, hh, r⟩⟩
  rw [List.map_cons, List.mem_cons, not_or]
  exact ⟨Ne.symm hDC, nin C hC⟩

theorem dcomp_core {kx vx iter target : Expr} {scope : Scope} {cl : List (Str × Addr)} {pos : Pos} {it : Value} {cnt : Nat} {RR : Value → Addr → Result → Shared → Prop} (hsz : cnt ≤ 1000) (hlim : h₀.NoLimit)
    (X : Led) (F : Fm h₀ L m (own ++ X) G O s₂) (Tl : Nat → Led → Prop) (hT0 : Tl 0 X) (Bind : Nat → (Str → Option Value) → Prop) (Inv : Nat → List (Kt × Value) → Prop) (h0 : Inv 0 [])
    (hcell : ∀ y ∈ scope.names, y.2 ≠ .cell) (hkind : scope.kind = .function)
    (self : ∀ (Q E : Value → Shared → Prop) C m' s, Fm (hideAll s₂.heap (X.map (·.1))) C m' X G O s → Q it s → wpAny (model prog w) A (pyIter it) Q E s)
    (next : ∀ i (X₁ : Led) C m' D od s, i < cnt → Tl i X₁ → Fm (hideAll s₂.heap (X.map (·.1))) C m' ((D, od) :: X₁) G O s → wpAny (model prog w) A (pyNext it) (fun r s₁ => match r with
      | none => False
      | some v => wpAny (model prog w) A (letOwnedTupleGo target it v) (fun _ s₂' => wpAny (model prog w) A (assign target (compEnvC scope cl C env) v) (fun _ s₃ => ∃ (X₂ : Led) (m'' : Str → Option Value), Tl (i + 1) X₂ ∧ Bind i m'' ∧ Fm (hideAll s₂.heap (X.map (·.1))) C m'' ((D, od) :: X₂) G O s₃) NR s₂') NR s₁) NR s)
    (stop : ∀ (X₁ : Led) C m' D od s, Tl cnt X₁ → Fm (hideAll s₂.heap (X.map (·.1))) C m' ((D, od) :: X₁) G O s → wpAny (model prog w) A (pyNext it) (fun r s₁ => match r with
      | none => ∃ m'', Fm (hideAll s₂.heap (X.map (·.1))) C m'' [(D, od)] G O s₁
      | some _ => False) NR s)
    (body : ∀ i (X₁ : Led) C m' D od kvs s, i < cnt → Bind i m' → Inv i kvs → Fm (hideAll s₂.heap (X.map (·.1))) C m' ((D, od) :: X₁) G O s →
      wpE (model prog w) A kx (compEnvC scope cl C env) (fun kv s₄ => wpE (model prog w) A vx (compEnvC scope cl C env) (fun vv s₅ => ∃ k m'', knd.is k kv = true ∧ Inv (i + 1) (stored kvs k vv) ∧ Fm (hideAll s₂.heap (X.map (·.1))) C m'' ((D, od) :: X₁) G O s₅) s₄) s)
    (fin : ∀ D C oC oD kvs m' s', (D == sysModules) = false → Inv cnt kvs → oD.IsDictOf knd kvs → Fm h₀ L m ((C, oC) :: (D, oD) :: own) G O s' → (∀ h : Heap, h.get? C = some oC → h.Ns C m') → RR (.ref D) C (.ok .next) s') :
    wpAny (model prog w) A newDict (fun acc s₃ => wpAny (model prog w) A (newFunctionEnv scope env.globals cl [] env.qual none .none (some env)) (fun cenv s₄ =>
      codeAny (model prog w) A (.compStart (.DictComp kx vx [⟨target, iter, [], 0⟩] scope pos) 0 it acc { cenv with scope := relabel scope env }) (RR acc cenv.locals) s₄) NR s₃) NR s₂ := by
  unfold newDict
  refine wpAny_newObj_type (wpAny_newFunctionEnv hcell (by intro y hy; simp at hy) (fun h₁ hns₁ hsb₁ => ?_) hkind)
  dsimp only at hns₁ hsb₁ ⊢
  generalize hH2 : s₂.heap.push { cls := .type "dict", dict := none, data := .dict #[] } = H2 at hns₁ hsb₁ ⊢
  have hC : H2.objs.size = s₂.heap.objs.size + 1 := by rw [← hH2, Heap.size_push]
  have hDC : s₂.heap.objs.size ≠ H2.objs.size := by rw [hC]; exact Nat.ne_of_lt (Nat.lt_succ_self _)
  have below : ∀ b, b < s₂.heap.objs.size → b ≠ H2.objs.size ∧ b ≠ s₂.heap.objs.size := fun b hb => ⟨by rw [hC]; exact Nat.ne_of_lt (Nat.lt_succ_of_lt hb), Nat.ne_of_lt hb⟩
  have old : ∀ b o, s₂.heap.get? b = some o → h₁.get? b = some o := fun b o e => hsb₁.extBut b o (below b (Heap.lt_size e)).1 (Heap.get?_push_of_some _ (hH2 ▸ Heap.get?_push_of_some _ e))
  have fresh : ∀ a, s₂.heap.objs.size ≤ a → s₂.heap.get? a = none := fun a ha => by
    cases e : s₂.heap.get? a with
    | none => rfl
    | some o' => exact absurd (Heap.lt_size e) (Nat.not_lt.mpr ha)
  have freshB : ∀ a, s₂.heap.objs.size ≤ a → (hideAll s₂.heap (X.map (·.1))).get? a = none := fun a ha => by
    cases e : (hideAll s₂.heap (X.map (·.1))).get? a with
    | none => rfl
    | some o' => have := of_hideAll _ e; rw [fresh a ha] at this; cases this
  have leC : s₂.heap.objs.size ≤ H2.objs.size := by rw [hC]; exact Nat.le_succ _
  have hD1 : h₁.get? s₂.heap.objs.size = some (dct #[] 0) := hsb₁.extBut _ _ hDC (Heap.get?_push_of_some _ (hH2 ▸ Heap.get?_push_size _ rfl))
  have lo : (s₂.heap.objs.size == sysModules) = false := F.fr.notModules (modules_low hlim)
  have F0 : Fm (hideAll s₂.heap (X.map (·.1))) H2.objs.size (fun x => List.lookup x ([] : List (Str × Value)).reverse) ((s₂.heap.objs.size, dct #[] 0) :: X) G O { s₂ with heap := h₁, toks := s₂.toks + ([] : List (Str × Value)).length } := by
    refine ⟨⟨hns₁, fun b o e => old b o (of_hideAll _ e), by rw [hideAll_size]; exact leC⟩, fun q hq => ?_, ?_, F.gens, F.os⟩
    · rcases List.mem_cons.mp hq with rfl | hq
      · exact ⟨hD1, hDC, freshB _ (Nat.le_refl _)⟩
      · have e := (F.nw q (List.mem_append_right _ hq)).1
        exact ⟨old _ _ e, (below _ (Heap.lt_size e)).1, hideAll_none _ (List.mem_map_of_mem hq)⟩
    · have nd := F.nd
      rw [List.map_append, List.nodup_append] at nd
      rw [List.map_cons, List.nodup_cons]
      refine ⟨fun hm => ?_, nd.2.1⟩
      obtain ⟨p, hp, e⟩ := List.mem_map.mp hm
      exact (below p.1 (Heap.lt_size (F.nw p (List.mem_append_right _ hp)).1)).2 e
  have loop : ∀ s₃ : Shared, s₃ = { s₂ with heap := h₁, toks := s₂.toks + ([] : List (Str × Value)).length } →
      codeAny (model prog w) A (.compLoop (.DictComp kx vx [⟨target, iter, [], 0⟩] scope pos) 0 it (.ref s₂.heap.objs.size) (compEnvC scope cl H2.objs.size env)) (RR (.ref s₂.heap.objs.size) H2.objs.size) s₃ := by
    rintro s₃ rfl
    refine compLoopD (fun n s' => ∃ i X' m' od kvs, Fm (hideAll s₂.heap (X.map (·.1))) H2.objs.size m' ((s₂.heap.objs.size, od) :: X') G O s' ∧ Tl i X' ∧ Inv i kvs ∧ od.IsDictOf knd kvs ∧ kvs.length ≤ i ∧ i ≤ cnt ∧ n = cnt + 1 - i) ?_ (cnt + 1)
      ⟨0, X, _, _, [], F0, hT0, h0, newD knd, Nat.le_refl _, Nat.zero_le _, rfl⟩
    rintro n s' ⟨i, X', m', od, kvs, F', hTl, hI, hod, hkl, hi, rfl⟩
    by_cases hlt : i < cnt
    · refine wpAny_mono (next i X' _ m' _ od s' hlt hTl F') (fun r s₃ h₃ => ?_) fun _ _ z => z.elim
      cases r with
      | none => exact h₃.elim
      | some v =>
        refine wpAny_mono h₃ (fun _ s₄ h₄ => wpAny_mono h₄ (fun _ s₅ h₅ => ?_) fun _ _ z => z.elim) fun _ _ z => z.elim
        obtain ⟨X'', m'', hTl', hB, F''⟩ := h₅
        refine wpAny_mono (body i X'' _ m'' _ od kvs s₅ hlt hB hI F'') (fun kv s₆ h₆ => wpAny_mono h₆ (fun vv s₇ h₇ => ?_) fun _ _ z => z.elim) fun _ _ z => z.elim
        obtain ⟨k, m₃, hk, hI', F₃⟩ := h₇
        refine wpAny_dictSet_pairs (knd := knd) (k := k) (kvs := kvs) hk (dOf (F₃.at 0 rfl) hod) (fun h' hD' hs => ?_) (by rw [sizeLine_eq]; omega)
        obtain ⟨o', ho', hd'⟩ := Heap.dictOf_iff.mp hD'
        have hst := stored_length_le kvs k vv
        exact ⟨cnt + 1 - (i + 1), by omega, i + 1, X'', m₃, o', _, F₃.set 0 rfl hs ho', hTl', hI', hd', by omega, hlt, rfl⟩
    · have : i = cnt := by omega
      subst this
      refine wpAny_mono (stop X' _ m' _ od s' hTl F') (fun r s₃ h₃ => ?_) fun _ _ z => z.elim
      cases r with
      | some v => exact h₃.elim
      | none =>
        obtain ⟨m'', F''⟩ := h₃
        obtain ⟨oC, F₃, hN⟩ := comp_out2 F F'' (fresh _ (Nat.le_refl _)) (fresh _ leC) hDC
        exact fin _ _ oC od kvs m'' _ lo hI hod F₃ hN
  exact codeAny_compStart_dict (loop _ rfl) (self _ _ _ _ _ (F0.cut 1) (loop _ rfl))
end
end Mine

end NA_part
section NB_part
namespace Mine
open PySem PySem.W PySem.Calls PySem.Spec PyProof.Rows

section
variable {prog : Program} {w : World} {A : Around} {s s₁ s₂ : Shared} {env : Env} {K : Frag} {h₀ : Heap} {L : Addr} {m : Str → Option Value} {own : Led} {G : Array GenState} {O : OsState} {N : Shared → Prop} {R : Value → Shared → Prop} {rest : List Stmt}
/-! what a call may change: some things that it is handed -/
structure PurX (X X' : Led) (s s' : Shared) : Prop where
  k : ∀ b o, b ∉ X.map (·.1) → s.heap.get? b = some o → s'.heap.get? b = some o
  g : s'.gens = s.gens
  o : s'.os = s.os
  h : ∀ p ∈ X', s'.heap.get? p.1 = some p.2
  nd : (X'.map (·.1)).Nodup
  fr : ∀ p ∈ X', p.1 ∈ X.map (·.1) ∨ s.heap.get? p.1 = none
theorem Fm.swap {X X' : Led} {s' : Shared} (F : Fm h₀ L m (own ++ X) G O s) (p : PurX X X' s s') : Fm h₀ L m (own ++ X') G O s' := by
  have nd := F.nd
  rw [List.map_append, List.nodup_append] at nd
  have hx : ∀ b, b ∈ X.map (·.1) → b ≠ L ∧ h₀.get? b = none := fun b hb => by
    obtain ⟨q, hq, rfl⟩ := List.mem_map.mp hb
    exact (F.nw q (List.mem_append_right _ hq)).2
  have hx' : ∀ q ∈ X', q.1 ≠ L ∧ h₀.get? q.1 = none := fun q hq => by
    rcases p.fr q hq with h | h
    · exact hx _ h
    · exact ⟨F.notL h, fresh_of F h⟩
  have apart : ∀ a ∈ own.map (·.1), ∀ q ∈ X', a ≠ q.1 := fun a ha q hq e => by
    rcases p.fr q hq with h | h
    · exact nd.2.2 a ha q.1 h e
    · obtain ⟨r, hr, rfl⟩ := List.mem_map.mp ha
      have := (F.nw r (List.mem_append_left _ hr)).1
      rw [e, h] at this; cases this
  refine ⟨⟨?_, fun b x e => p.k b x (fun hb => ?_) (F.fr.keep b x e), F.fr.above⟩, fun q hq => ?_, ?_, p.g.trans F.gens, p.o.trans F.os⟩
  · obtain ⟨oL, es, ep, x, r⟩ := F.fr.ns
    exact ⟨oL, es, ep, p.k _ _ (fun hb => (hx _ hb).1 rfl) x, r⟩
  · have := (hx b hb).2; rw [e] at this; cases this
  · rcases List.mem_append.mp hq with hq | hq
    · have hq' := F.nw q (List.mem_append_left _ hq)
      exact ⟨p.k _ _ (fun hb => nd.2.2 q.1 (List.mem_map_of_mem hq) q.1 hb rfl) hq'.1, hq'.2⟩
    · exact ⟨p.h q hq, hx' q hq⟩
  · rw [List.map_append, List.nodup_append]
    refine ⟨nd.1, p.nd, fun a ha b hb => ?_⟩
    obtain ⟨q, hq, rfl⟩ := List.mem_map.mp hb
    exact apart a ha q hq
/-- what a frame over X hands back -/
theorem Fm.backX {X X' : Led} {s₀ : Shared} (F : Fm (hideAll s₀.heap (X.map (·.1))) L m (own ++ X') s₀.gens s₀.os s) : PurX X X' s₀ s := by
  have nd := F.nd
  rw [List.map_append, List.nodup_append] at nd
  refine ⟨fun b o hb e => F.keep b o (hideAll_get _ e hb), F.gens, F.os, fun p hp => (F.nw p (List.mem_append_right _ hp)).1, nd.2.1, fun p hp => ?_⟩
  by_cases hx : p.1 ∈ X.map (·.1)
  · exact .inl hx
  · refine .inr ?_
    have h0 := (F.nw p (List.mem_append_right _ hp)).2.2
    cases q : s₀.heap.get? p.1 with
    | none => rfl
    | some o => rw [hideAll_get _ q hx] at h0; cases h0
theorem PurX.trans {X X' X'' : Led} {s s' s'' : Shared} (p : PurX X X' s s') (q : PurX X' X'' s' s'') : PurX X X'' s s'' := by
  refine ⟨fun b o hb e => q.k b o (fun hb' => ?_) (p.k b o hb e), q.g.trans p.g, q.o.trans p.o, q.h, q.nd, fun r hr => ?_⟩
  · obtain ⟨r, hr, rfl⟩ := List.mem_map.mp hb'
    rcases p.fr r hr with h | h
    · exact hb h
    · rw [h] at e; cases e
  · rcases q.fr r hr with h | h
    · obtain ⟨r', hr', e⟩ := List.mem_map.mp h
      have := p.fr r' hr'
      rwa [e] at this
    · by_cases hx : r.1 ∈ X.map (·.1)
      · exact .inl hx
      · refine .inr ?_
        cases e : s.heap.get? r.1 with
        | none => rfl
        | some o => have := p.k _ _ hx e; rw [h] at this; cases this
theorem Pur.x {X : Led} (p : Pur s s₁) (hX : ∀ q ∈ X, s.heap.get? q.1 = some q.2) (nd : (X.map (·.1)).Nodup) : PurX X X s s₁ :=
  ⟨fun b o _ e => p.k b o e, p.g, p.o, fun q hq => p.k _ _ (hX q hq), nd, fun q hq => .inl (List.mem_map_of_mem hq)⟩
theorem PurX.pur {s s' : Shared} {X' : Led} (p : PurX [] X' s s') : Pur s s' := ⟨fun b o e => p.k b o (by simp) e, p.g, p.o⟩

/-- two lists joined -/
theorem add_l {a b : Addr} {xs ys : List Value} {n k : Nat} {Q : Value → Shared → Prop} (F : Fm h₀ L m own G O s) (ha : s.heap.get? a = some (lst xs n)) (hb : s.heap.get? b = some (lst ys k)) (hsz : xs.length + ys.length ≤ 1000)
    (h : ∀ c s', Fm h₀ L m ((c, lst (xs ++ ys) 0) :: own) G O s' → Q (.ref c) s') : wpAny (model prog w) A (binaryOp .Add (.ref a) (.ref b)) Q NR s := by
  have e : xs.toArray ++ ys.toArray = (xs ++ ys).toArray := by simp
  refine concat_meets ⟨_, ha, rfl⟩ ⟨_, hb, rfl⟩ noFill_list_add seq_list_add PySem.F.slot_list_add PySem.F.entry_list_add (PySem.F.args_list_add_2 _ _) (list_addW a b xs.toArray ys.toArray n k none none #[] #[] (by rw [List.size_toArray, List.size_toArray, sizeLine_eq]; omega)) ⟨ha, hb, ?_⟩
  rw [e]
  exact h _ _ (F.alloc rfl)
end
end Mine

end NB_part
section NC_part
namespace Mine
open PySem PySem.W PySem.Calls PySem.Spec PyProof.Rows

section
variable {prog : Program} {w : World} {A : Around} {s s₁ s₂ : Shared} {env : Env} {K : Frag} {h₀ : Heap} {L : Addr} {m : Str → Option Value} {own : Led} {G : Array GenState} {O : OsState} {N : Shared → Prop} {R : Value → Shared → Prop} {rest : List Stmt} {Kt : Type} [DecidableEq Kt] {m₁ : Str → Option Value} {own₁ : Led} {s₀ : Shared}
/-- x = {k: v for y in a list} -/
theorem S_asgDL {kx vx iter : Expr} {x y : Str} {px py : Pos} {scope : Scope} {pos spos : Pos} (knd : PySem.KeyKind prog w Kt) (_F : Fm h₀ L m₁ own₁ G O s₀) (cl : List (Str × Addr)) (hh : A.handled = none) (hlim : h₀.NoLimit)
    (h : wpE (model prog w) A iter env (fun xv s₁ => ∃ (l : Addr) (xs : List Value) (n : Nat) (Inv : Nat → List (Kt × Value) → Prop) (own : Led) (m : Str → Option Value),
      xv = .ref l ∧ s₁.heap.get? l = some (lst xs n) ∧ xs.length ≤ 1000 ∧ Fm h₀ L m own G O s₁ ∧ Inv 0 [] ∧
      (∀ i v kvs hb m' (own' : Led) C s, xs[i]? = some v → Inv i kvs → (∀ b o, s₁.heap.get? b = some o → hb.get? b = some o) → m' x = some v → Fm hb C m' own' G O s →
        wpE (model prog w) A kx (compEnvC scope cl C env) (fun kv s₄ => wpE (model prog w) A vx (compEnvC scope cl C env) (fun vv s₅ => ∃ k m'', knd.is k kv = true ∧ Inv (i + 1) (stored kvs k vv) ∧ Fm hb C m'' own' G O s₅) s₄) s) ∧
      (∀ D kvs o s', (D == sysModules) = false → Inv xs.length kvs → o.IsDictOf knd kvs → Fm h₀ L (put m y (.ref D)) ((D, o) :: own) G O s' → wpS (model prog w) A rest env N R s')) s)
    (hsw : swapsWith (.DictComp kx vx [⟨.Name x px, iter, [], 0⟩] scope pos) (some (.Name y py)) spos.line env = pure true := by rfl)
    (hclos : closureFor scope env = pure cl := by rfl) (hcell : ∀ z ∈ scope.names, z.2 ≠ .cell := by decide +kernel) (hkind : scope.kind = .function := by rfl)
    (hnames : ∀ z ∈ scope.names, z.2 = .local → scope.names.lookup z.1 = some .local := by decide +kernel) (hx : scope.names.lookup x = some .local := by rfl)
    (hL : env.locals = L := by rfl) (hk : env.scope.kind = .function := by rfl) (hy : env.kindOf y = some .local := by rfl)
    (hs : ∀ x, foldedSetIterable iter env x = pure x := by intro _; rfl) :
    wpS (model prog w) A (.Assign [.Name y py] (.DictComp kx vx [⟨.Name x px, iter, [], 0⟩] scope pos) spos :: rest) env N R s := by
  refine S_cons ?_
  rw [exec_Assign_Name_used _ _ _ _ hsw]
  refine wpAny_bind (wpAny_standAt (wpAny_bind ?_))
  show wpAny _ A (do let _ ← comprehension (.DictComp kx vx [⟨.Name x px, iter, [], 0⟩] scope pos) scope env _ newDict false (eval iter env) (some (assign (.Name y py) env))) _ _ s
  refine wpAny_bind (wpAny_mono (wpAny_comprehension_free (E := NR) (use := some (assign (.Name y py) env)) (Q := fun _ s' => wpS (model prog w) A rest env N R s') rfl hs hclos hkind hnames
    (wpAny_mono h (fun xv s₁ h₁ => ?_) fun _ _ e => e)) (fun _ s' hq => wpAny_pure (wpAny_pure hq)) fun _ _ e => e.elim)
  obtain ⟨l, xs, n, Inv, own, m, rfl, hl, hsz, F, h0, body, fin⟩ := h₁
  refine wpAny_pyIter_list (isL hl) ?_
  have hlI : l ≠ s₁.heap.objs.size := Nat.ne_of_lt (Heap.lt_size hl)
  have F₂ := addAt (F.alloc (o := { cls := .type "list_iterator", data := .fields #[.ref l, .int 0 0] }) rfl)
  have hb0 : ∀ b o, s₁.heap.get? b = some o → (hideAll (s₁.heap.push { cls := .type "list_iterator", data := .fields #[.ref l, .int 0 0] }) [s₁.heap.objs.size]).get? b = some o := fun b o e =>
    hideAll_get _ (Heap.get?_push_of_some _ e) (by simpa using Nat.ne_of_lt (Heap.lt_size e))
  refine dcomp_core (knd := knd) (RR := fun acc C => compPost (model prog w) A NR (some (assign (.Name y py) env)) (fun _ s' => wpS (model prog w) A rest env N R s') acc C) hsz hlim [(s₁.heap.objs.size, _)] F₂
    (fun i X₁ => ∃ o, X₁ = [(s₁.heap.objs.size, o)] ∧ ∀ h : Heap, h.get? s₁.heap.objs.size = some o → h.IsListIter s₁.heap.objs.size l i) ⟨_, rfl, fun h e => ⟨_, e, rfl, rfl⟩⟩ (fun i m' => ∃ v, xs[i]? = some v ∧ m' x = some v) Inv h0 hcell hkind ?_ ?_ ?_ ?_ ?_
  · intro Q E C m' s F' q
    exact wpAny_pyIter_listiter (l := l) (i := 0) ⟨_, F'.at 0 rfl, rfl, rfl⟩ q
  · rintro i X₁ C m' D od s hlt ⟨o, rfl, hit⟩ F'
    have hlv := F'.keep _ _ (hb0 _ _ hl)
    refine wpAny_pyNext_list_item (x := xs[i]) (hit _ (F'.at 1 rfl)) (isL hlv) (by simp [hlt]) fun h₁ hit₁ hs₁ => ?_
    obtain ⟨o₁, ho₁, ho₁'⟩ := id hit₁
    have F₁ := F'.set (t := s.toks) 1 rfl hs₁ ho₁
    refine wpAny_pure (wpAny_assign_Name (stL F₁ (fun s₃ F₃ => ⟨[(s₁.heap.objs.size, o₁)], _, ⟨o₁, rfl, fun h e => ⟨o₁, e, ho₁'⟩⟩, ⟨xs[i], by simp [hlt], put_same⟩, F₃⟩) rfl (by simp [compEnvC, relabel, hkind]) (lookup_relabel_local hx)))
  · rintro X₁ C m' D od s ⟨o, rfl, hit⟩ F'
    have hlv := F'.keep _ _ (hb0 _ _ hl)
    refine wpAny_pyNext_list_end hh (hit _ (F'.at 1 rfl)) (isL hlv) (by simp) fun h₁ he₁ => ?_
    exact ⟨m', Fm.lose (own := [(D, od)]) (h' := h₁) (t := s.toks) F' he₁⟩
  · rintro i X₁ C m' D od kvs s hlt ⟨v, hv, hm⟩ hI F'
    exact body i v kvs _ m' _ C s hv hI hb0 hm F'
  · intro D C oC oD kvs m' s' lo hI hD F' hN
    show wpAny _ A (assign (.Name y py) env (.ref D)) _ _ _
    refine wpAny_assign_Name (wpAny_mono (stL (E := NR) F' (Q := fun _ s₂ => Fm h₀ L (put m y (.ref D)) ((C, oC) :: (D, oD) :: own) G O s₂) (fun _ F₂ => F₂) hL hk hy) (fun _ s₂ F₂ => ?_) fun _ _ z => z.elim)
    exact ⟨m', hN _ (F₂.at 0 rfl), fun h' hs' => fin D kvs oD _ lo hI hD (F₂.loseH (h' := h') (t := s₂.toks) hs'.extBut)⟩
/-- {k: v for i, x in enumerate(a list)} -/
theorem E_dcompE {kx vx iter : Expr} {xi xv : Str} {kt : Nat} {pi pv tp : Pos} {scope : Scope} {pos : Pos} {Q : Value → Shared → Prop} (knd : PySem.KeyKind prog w Kt) (_F : Fm h₀ L m₁ own₁ G O s₀) (cl : List (Str × Addr)) (hh : A.handled = none) (hlim : h₀.NoLimit)
    (h : wpE (model prog w) A iter env (fun xval s₁ => ∃ (e it l : Addr) (oe oi : Obj) (xs : List Value) (n : Nat) (Inv : Nat → List (Kt × Value) → Prop) (own : Led) (m : Str → Option Value),
      xval = .ref e ∧ e ≠ it ∧ l ≠ e ∧ l ≠ it ∧ s₁.heap.get? l = some (lst xs n) ∧ xs.length ≤ 1000 ∧ Fm h₀ L m (own ++ [(e, oe), (it, oi)]) G O s₁ ∧ IsEnum s₁.heap e it 0 .none ∧ s₁.heap.IsListIter it l 0 ∧ Inv 0 [] ∧
      (∀ i v t kvs hb m' (own' : Led) C s, xs[i]? = some v → Inv i kvs → (∀ b o, b ≠ e → b ≠ it → s₁.heap.get? b = some o → hb.get? b = some o) → m' xi = some (.int (i : Nat) t) → m' xv = some v → Fm hb C m' own' G O s →
        wpE (model prog w) A kx (compEnvC scope cl C env) (fun kv s₄ => wpE (model prog w) A vx (compEnvC scope cl C env) (fun vv s₅ => ∃ k m'', knd.is k kv = true ∧ Inv (i + 1) (stored kvs k vv) ∧ Fm hb C m'' own' G O s₅) s₄) s) ∧
      (∀ D kvs o s', (D == sysModules) = false → Inv xs.length kvs → o.IsDictOf knd kvs → Fm h₀ L m ((D, o) :: own) G O s' → Q (.ref D) s')) s)
    (hclos : closureFor scope env = pure cl := by rfl) (hcell : ∀ z ∈ scope.names, z.2 ≠ .cell := by decide +kernel) (hkind : scope.kind = .function := by rfl)
    (hnames : ∀ z ∈ scope.names, z.2 = .local → scope.names.lookup z.1 = some .local := by decide +kernel) (hxi : scope.names.lookup xi = some .local := by rfl) (hxv : scope.names.lookup xv = some .local := by rfl) (hne : (xi == xv) = false := by rfl)
    (hs : ∀ x, foldedSetIterable iter env x = pure x := by intro _; rfl) :
    wpE (model prog w) A (.DictComp kx vx [⟨.Tuple [.Name xi pi, .Name xv pv] kt tp, iter, [], 0⟩] scope pos) env Q s := by
  show wpAny _ _ _ _ _ _
  rw [arm_eval_DictComp]
  refine wpAny_comprehension_free (E := NR) (use := none) rfl hs hclos hkind hnames (wpAny_mono h (fun xval s₁ h₁ => ?_) fun _ _ e => e)
  obtain ⟨e, it, l, oe, oi, xs, n, Inv, own, m, rfl, hei, hle, hlit, hl, hsz, F, he, hit, h0, body, fin⟩ := h₁
  refine wpAny_pyIter_enum he ?_
  have hb0 : ∀ b o, b ≠ e → b ≠ it → s₁.heap.get? b = some o → (hideAll s₁.heap ([(e, oe), (it, oi)].map (·.1))).get? b = some o := fun b o h1 h2 x => hideAll_get _ x (by simp [h1, h2])
  obtain ⟨oe', hoe, hoe'⟩ := enum_obj he
  have : oe' = oe := by have := F.mem (a := e) (o := oe) (by simp); rw [hoe] at this; exact Option.some.inj this
  subst this
  obtain ⟨oi', hoi, hoi'⟩ := id hit
  have : oi' = oi := by have := F.mem (a := it) (o := oi) (by simp); rw [hoi] at this; exact Option.some.inj this
  subst this
  refine dcomp_core (knd := knd) (RR := fun acc C => compPost (model prog w) A NR none Q acc C) hsz hlim [(e, oe'), (it, oi')] F
    (fun i X₁ => ∃ o1 o2 old, X₁ = [(e, o1), (it, o2)] ∧ (∀ h : Heap, h.get? e = some o1 → IsEnum h e it (i : Nat) old) ∧ (∀ h : Heap, h.get? it = some o2 → h.IsListIter it l i)) ⟨oe', oi', .none, rfl, hoe', fun h x => ⟨oi', x, hoi'⟩⟩
    (fun i m' => ∃ v t, xs[i]? = some v ∧ m' xi = some (.int (i : Nat) t) ∧ m' xv = some v) Inv h0 hcell hkind ?_ ?_ ?_ ?_ ?_
  · intro Q' E C m' s F' q
    exact wpAny_pyIter_enum (hoe' _ (F'.at 0 rfl)) q
  · rintro i X₁ C m' D od s hlt ⟨o1, o2, old, rfl, h1, h2⟩ F'
    have hlv := F'.keep _ _ (hb0 _ _ hle hlit hl)
    have he' := h1 _ (F'.at 1 rfl)
    have heH : e < s.heap.objs.size := Heap.lt_size he'
    refine wpAny_pyNext_enum_item (x := xs[i]) he' (h2 _ (F'.at 2 rfl)) (isL hlv) (by simp [hlt]) hei fun h₁ heo hit₁ ht₁ hz₁ hk₁ => ?_
    refine wpAny_letOwnedTupleGo_enum heo fun h₂ he₂ hs₂ => ?_
    replace hs₂ : Heap.SameBut e h₁ h₂ := hs₂
    have ht₂ : h₂.IsTuple s.heap.objs.size #[.int i s.toks, xs[i]] := ⟨_, (hs₂.2 _ (Nat.ne_of_gt heH)).trans ht₁, rfl, _, rfl⟩
    obtain ⟨oi₁, hoi₁, hoi₁'⟩ := hit₁
    have hoi₂ : h₂.get? it = some oi₁ := hs₂.extBut _ _ (Ne.symm hei) hoi₁
    obtain ⟨oe₂, hoe₂, hoe₂'⟩ := enum_obj he₂
    have F₂ := Fm.tail (own := [(D, od)]) (X := [(e, o1), (it, o2)]) (X' := [(e, oe₂), (it, oi₁)]) (h' := h₂) (t := s.toks + 1) F' (fun b x hb hx => by
      simp only [List.map_cons, List.map_nil, List.mem_cons, List.not_mem_nil, or_false, not_or] at hb
      exact hs₂.extBut b x hb.1 (hk₁ b x hb.1 hb.2 hx)) (List.Sublist.refl _) (fun p hp => by
      rcases List.mem_cons.mp hp with rfl | hp
      · exact hoe₂
      · rw [List.mem_singleton.mp hp]; exact hoi₂)
    refine wpAny_assign_Tuple hh ht₂ rfl rfl fun h₃ hx₃ => ?_
    have F₃ := F₂.pur (s' := { s with heap := h₃, toks := s.toks + 1 }) ⟨fun b o q => hx₃ b o (Nat.ne_of_lt (Heap.lt_size q)) q, rfl, rfl⟩
    show wpAny _ A (do holding [xs[i]] (assign (.Name xi pi) (compEnvC scope cl C env) (.int i s.toks)); do holding [] (assign (.Name xv pv) (compEnvC scope cl C env) xs[i]); pure ()) _ _ _
    have hkc : (compEnvC scope cl C env).scope.kind = .function := by simp [compEnvC, relabel, hkind]
    have ec : ((i + 1 : Nat) : Int) = (i : Int) + 1 := by push_cast; rfl
    refine wpAny_bind (wpAny_holding (wpAny_assign_Name (stL F₃ (fun s₄ F₄ => wpAny_bind (wpAny_holding (wpAny_assign_Name (stL F₄ (fun s₅ F₅ => wpAny_pure ⟨[(e, oe₂), (it, oi₁)], _, ⟨oe₂, oi₁, xs[i], rfl, fun h x => by rw [ec]; exact hoe₂' h x, fun h x => ⟨oi₁, x, hoi₁'⟩⟩, ⟨xs[i], s.toks, by simp [hlt], put_ne put_same hne, put_same⟩, F₅⟩) rfl hkc (lookup_relabel_local hxv))))) rfl hkc (lookup_relabel_local hxi))))
  · rintro X₁ C m' D od s ⟨o1, o2, old, rfl, h1, h2⟩ F'
    have hlv := F'.keep _ _ (hb0 _ _ hle hlit hl)
    refine wpAny_pyNext_enum_end hh (h1 _ (F'.at 1 rfl)) (h2 _ (F'.at 2 rfl)) (isL hlv) (by simp) fun h₁ he₁ => ?_
    refine ⟨m', ?_⟩
    have F₁ := Fm.tail (own := [(D, od)]) (X := [(e, o1), (it, o2)]) (X' := []) (h' := h₁) (t := s.toks) F' (fun b x hb hx => he₁ b x (fun q => hb (by simp [q])) hx) (List.nil_sublist _) (fun _ q => nomatch q)
    rwa [List.append_nil] at F₁
  · rintro i X₁ C m' D od kvs s hlt ⟨v, t, hv, hm1, hm2⟩ hI F'
    exact body i v t kvs _ m' _ C s hv hI hb0 hm1 hm2 F'
  · intro D C oC oD kvs m' s' lo hI hD F' hN
    exact ⟨m', hN _ (F'.at 0 rfl), fun h' hs' => fin D kvs oD _ lo hI hD (F'.loseH (h' := h') (t := s'.toks) hs'.extBut)⟩
end
end Mine

end NC_part
section ND_part
namespace Mine
open PySem PySem.W PySem.Calls PySem.Spec PyProof.Rows

/-- what a def must know of its code's table to make a lambda -/
structure Tb (h : Heap) (c P : Addr) : Prop where
  hd : CodeHd h c P
  bm : ∃ mg bm ob, h.Ns mainGlobals mg ∧ mg "__builtins__" = some (.ref bm) ∧ bm ≠ builtinsNs ∧ h.get? bm = some ob ∧ ob.cls = .type "module" ∧ ob.dict = some builtinsNs ∧ ob.data = .plain
theorem Tb.keeps {h h' : Heap} {c P : Addr} (x : Tb h c P) (k : ∀ b o, h.get? b = some o → h'.get? b = some o) : Tb h' c P := by
  obtain ⟨hd, mg, bm, ob, h1, h2, h3, h4, h5⟩ := x
  exact ⟨hd.keeps k, mg, bm, ob, h1.keeps k, h2, h3, k _ _ h4, h5⟩
/-- the table: empty, or with the lambda's code -/
noncomputable def TabLed (P : Addr) (pos : Pos) (qual : Str) (X : Led) : Prop :=
  X = [(P, tabObj #[])] ∨ ∃ c' oc vs t, X = [(P, tabObj #[rawInt pos.line, rawInt pos.col, .ref c']), (c', oc)] ∧ oc.data = .fields vs ∧ vs[1]? = some (.str qual t)
noncomputable def LamCode (qual : Str) (X : Led) (c' : Addr) : Prop := ∃ oc vs t, (c', oc) ∈ X ∧ oc.data = .fields vs ∧ vs[1]? = some (.str qual t)
theorem LamCode.rec {qual : Str} {X : Led} {c' : Addr} {h : Heap} (x : LamCode qual X c') (hX : ∀ p ∈ X, h.get? p.1 = some p.2) : h.CodeRec (.ref c') qual := by
  obtain ⟨oc, vs, t, hm, h1, h2⟩ := x
  exact ⟨c', oc, vs, t, rfl, hX _ hm, h1, h2⟩

section
variable {prog : Program} {w : World} {A : Around} {E : Value → Shared → Prop} {s : Shared} {env : Env} {K : Frag} {h₀ : Heap} {L : Addr} {m : Str → Option Value} {own : Led} {G : Array GenState} {O : OsState}
theorem E_lam {params : Arguments} {body : Expr} {scope : Scope} {pos : Pos} {X : Led} {c P : Addr} {Q : Value → Shared → Prop} (clos : List (Str × Addr)) (F : Fm h₀ L m (own ++ X) G O s) (T : Tb h₀ c P) (hX : TabLed P pos (env.qual ++ "<lambda>") X)
    (h : ∀ f c' ctv pm X' s', TabLed P pos (env.qual ++ "<lambda>") X' → LamCode (env.qual ++ "<lambda>") X' c' → Fm h₀ L m ((f, kla_obj "<lambda>" (env.qual ++ "<lambda>") params body scope clos pm c' ctv) :: (own ++ X')) G O s' → Q (.ref f) s')
    (hdef : defaultsOf params env = ([], []) := by rfl) (hcl : closureFor scope env = pure clos := by rfl) (hge : env.globals = mainGlobals := by rfl) (hcode : env.code = .ref c := by rfl) :
    wpE (model prog w) A (.Lambda params body scope pos) env Q s := by
  refine kla_eval hdef ?_
  obtain ⟨mg, bm, ob, hg0, b1, b2, b3, b4, b5, b6⟩ := T.bm
  have hg := hg0.keeps F.keep
  have hbG : bm ≠ mainGlobals := fun q => by
    obtain ⟨o, es, ep, e, hd, _⟩ := hg0
    rw [q, e] at b3; cases b3; rw [hd] at b6; cases b6
  have nd := F.nd
  rw [List.map_append, List.nodup_append] at nd
  rcases hX with rfl | ⟨c', oc, vs, t, rfl, hoc, hvs⟩
  · have hm := F.nw (P, tabObj #[]) (by simp)
    have hgP : mainGlobals ≠ P := fun q => by
      obtain ⟨o, es, ep, e, hd, _⟩ := hg0
      rw [q, hm.2.2] at e; cases e
    have hbP : bm ≠ P := fun q => by rw [q, hm.2.2] at b3; cases b3
    refine kla_makeFunction (mg := mg) hcl hge hg hcode (T.hd.keeps F.keep) hm.1 trivial rfl hgP ⟨bm, ob, b1, b2, hbG, hbP, F.keep _ _ b3, b4, b5, b6⟩ fun c' ctv h' tk hx hge hlt hrec htb => ?_
    obtain ⟨c₂, oc, vs, t, e2, hoc, hd, hv⟩ := hrec
    cases e2
    have fresh : ∀ a, s.heap.objs.size ≤ a → s.heap.get? a = none := fun a ha => by
      cases e : s.heap.get? a with
      | none => rfl
      | some o' => exact absurd (Heap.lt_size e) (Nat.not_lt.mpr ha)
    have hPlt : P < s.heap.objs.size := Heap.lt_size hm.1
    have F1 := F.tail (X' := [(P, tabObj #[rawInt pos.line, rawInt pos.col, .ref c'])]) (h' := h'.push (kla_obj "<lambda>" (env.qual ++ "<lambda>") params body scope clos ((mg "__name__").getD .none) c' ctv)) (t := tk)
      (fun b x hb e => Heap.get?_push_of_some _ (hx b x (by simpa using hb) e)) (List.Sublist.refl _) (fun p hp => by rw [List.mem_singleton.mp hp]; exact Heap.get?_push_of_some _ htb)
    have hfs : s.heap.objs.size ≤ h'.objs.size := Nat.le_trans hge (Nat.le_of_lt hlt)
    have nin : ∀ a, s.heap.get? a = none → a ∉ (own ++ [(P, tabObj #[rawInt pos.line, rawInt pos.col, .ref c'])]).map (·.1) := fun a ha => by
      have := F.notIn ha
      simpa using this
    have F2 := F1.ins (a := c') (o := oc) (Heap.get?_push_of_some _ hoc) (fresh_of F (fresh _ hge)) (F.notL (fresh _ hge)) (nin _ (fresh _ hge))
    have F3 := F2.ins (a := h'.objs.size) (o := kla_obj "<lambda>" (env.qual ++ "<lambda>") params body scope clos ((mg "__name__").getD .none) c' ctv) (Heap.get?_push_size _ rfl) (fresh_of F (fresh _ hfs)) (F.notL (fresh _ hfs)) (by
      rw [List.map_cons, List.mem_cons, not_or]
      exact ⟨Nat.ne_of_gt hlt, nin _ (fresh _ hfs)⟩)
    refine h _ c' ctv _ [(P, tabObj #[rawInt pos.line, rawInt pos.col, .ref c']), (c', oc)] _ (.inr ⟨c', oc, vs, t, rfl, hd, hv⟩) ⟨oc, vs, t, by simp, hd, hv⟩ (F3.perm (List.Perm.cons _ ?_))
    have := (List.perm_append_comm (l₁ := [(c', oc)]) (l₂ := own ++ [(P, tabObj #[rawInt pos.line, rawInt pos.col, .ref c'])]))
    simpa using this
  · have hm := F.nw (P, tabObj #[rawInt pos.line, rawInt pos.col, .ref c']) (by simp)
    have hbP : bm ≠ P := fun q => by rw [q, hm.2.2] at b3; cases b3
    refine kla_makeFunctionHit (mg := mg) hcl hge hg hcode (T.hd.keeps F.keep) hm.1 (by exact trivial) (cv := .ref c') (by
      show (if ((pos.line : Int) == (pos.line : Int) && (pos.col : Int) == (pos.col : Int)) = true then some (Value.ref c') else _) = _
      rw [if_pos (by simp)]) ⟨bm, ob, b1, b2, hbG, hbP, F.keep _ _ b3, b4, b5, b6⟩ fun ctv h' tk hk hsz => ?_
    have F1 := F.pur (s' := { s with heap := h', toks := tk }) ⟨hk, rfl, rfl⟩
    exact h _ c' ctv _ [(P, tabObj #[rawInt pos.line, rawInt pos.col, .ref c']), (c', oc)] _ (.inr ⟨c', oc, vs, t, rfl, hoc, hvs⟩) ⟨oc, vs, t, by simp, hoc, hvs⟩ (F1.alloc rfl)

/-- a lambda called -/
theorem lam_call {f : Addr} {qual : Str} {params : Arguments} {body : Expr} {scope : Scope} {clos : List (Str × Addr)} {pm ctv : Value} {c' : Addr} {vals : List Value} {Q : Value → Shared → Prop} (ns : List Str)
    (ho : s.heap.get? f = some (kla_obj "<lambda>" qual params body scope clos pm c' ctv)) (hcd : s.heap.CodeRec (.ref c') qual) (hlim : s.heap.NoLimit) (hroom : A.depth < recursionLimit)
    (h : ∀ L h₁, h₁.Ns L (fun x => (ns.zip vals).reverse.lookup x) → L = s.heap.objs.size → (∀ b o, s.heap.get? b = some o → h₁.get? b = some o) →
      wpAny (model prog w) (A.deeper (envX qual scope L f (.ref c') clos)) (eval body (envX qual scope L f (.ref c') clos)) Q NR { s with heap := h₁, toks := s.toks + (ns.zip vals).length })
    (hbind : bindArgs (kla_fn "<lambda>" qual params body scope clos pm (.ref c') ctv) ⟨vals, []⟩ = pure (ns.zip vals) := by rfl)
    (hloc : ∀ y ∈ ns.zip vals, scope.names.lookup y.1 = some .local) (hcell : ∀ x ∈ scope.names, x.2 ≠ .cell := by decide +kernel)
    (hco : scope.isCoroutine = false := by rfl) (hgen : scope.isGenerator = false := by rfl) (hk : scope.kind = .function := by rfl) :
    wpAny (model prog w) A (call (.ref f) vals) Q E s := by
  refine wpAny_call (kla_callFunE hroom ho rfl hco hgen rfl hcd ?_)
  rw [hbind]
  refine wpAny_pure (wpAny_newFunctionEnv hcell hloc (fun h₁ hns hsb => ⟨hlim.fresh _ hsb, ?_⟩) hk)
  have hk₁ : ∀ b o, s.heap.get? b = some o → h₁.get? b = some o := fun b o e => hsb.extBut b o (Nat.ne_of_lt (Heap.lt_size e)) (Heap.get?_push_of_some _ e)
  exact kla_codeExpr (wpAny_mono (h _ h₁ hns rfl hk₁) (fun v s' x => x) fun _ _ x => x.elim)
end
end Mine

end ND_part
section NE_part
namespace Mine
open PySem PySem.W PySem.Calls PySem.Spec PyProof.Rows

/-! plain: kids sorted by their place -/
theorem idx_mono {l : List Nat} (h : l.Pairwise (· < ·)) {a b : Nat} (ha : a ∈ l) (hb : b ∈ l) (hab : l.idxOf a ≤ l.idxOf b) : a ≤ b := by
  have h1 := List.idxOf_lt_length_iff.mpr ha
  have h2 := List.idxOf_lt_length_iff.mpr hb
  have e1 : l[l.idxOf a] = a := List.getElem_idxOf h1
  have e2 : l[l.idxOf b] = b := List.getElem_idxOf h2
  rcases Nat.lt_or_eq_of_le hab with q | q
  · have := List.pairwise_iff_getElem.mp h _ _ h1 h2 q
    rw [e1, e2] at this; exact Nat.le_of_lt this
  · have : l[l.idxOf a] = l[l.idxOf b] := by congr 1
    rw [e1, e2] at this; exact Nat.le_of_eq this
noncomputable def pickIn (l ns : List Nat) : List Nat := l.filter fun j => decide (j ∈ ns)
theorem sort_kids {l ns ns' : List Nat} (hl : l.Pairwise (· < ·)) (hn : ns.Nodup) (hs : ∀ x ∈ ns, x ∈ l) (hp : ns'.Perm ns) (ho : ns'.Pairwise fun x y => l.idxOf x ≤ l.idxOf y) : ns' = pickIn l ns := by
  refine eq_of_pw ?_ (hl.sublist List.filter_sublist) fun x => ?_
  · have nd : ns'.Pairwise (· ≠ ·) := (hp.nodup_iff.mpr hn)
    have hm : ∀ x ∈ ns', x ∈ l := fun x hx => hs x (hp.mem_iff.mp hx)
    refine (List.Pairwise.and ho nd).imp_of_mem fun {a b} ha hb hab => ?_
    exact Nat.lt_of_le_of_ne (idx_mono hl (hm a ha) (hm b hb) hab.1) hab.2
  · unfold pickIn
    rw [List.mem_filter, decide_eq_true_iff, hp.mem_iff]
    exact ⟨fun h => ⟨hs x h, h⟩, fun h => h.2⟩
theorem pick_short {l ns : List Nat} (hl : l.Pairwise (· < ·)) (hs : ∀ x ∈ ns, x ∈ l) (h : ns.length < 2) : ns = pickIn l ns := by
  refine eq_of_pw ?_ (hl.sublist List.filter_sublist) fun x => ?_
  · match ns, h with
    | [], _ => exact .nil
    | [a], _ => exact List.pairwise_singleton _ _
  · unfold pickIn
    rw [List.mem_filter, decide_eq_true_iff]
    exact ⟨fun h => ⟨hs x h, h⟩, fun h => h.2⟩
theorem kids_pw {D : Doc} {p : Nat} : (kids D p).Pairwise (· < ·) := filter_pw
theorem perm_nats {is : List Int} {ns : List Nat} (h : is.Perm (ns.map Int.ofNat)) : is = (is.map Int.toNat).map Int.ofNat ∧ (is.map Int.toNat).Perm ns := by
  constructor
  · rw [List.map_map]
    conv => lhs; rw [← List.map_id is]
    apply List.map_congr_left
    intro x hx
    obtain ⟨n, _, rfl⟩ := List.mem_map.mp (h.mem_iff.mp hx)
    rfl
  · have := h.map Int.toNat
    rw [List.map_map] at this
    have e : ns.map (Int.toNat ∘ Int.ofNat) = ns := by
      conv => rhs; rw [← List.map_id ns]
      apply List.map_congr_left
      intro x _; rfl
    rwa [e] at this
theorem valueAt_new {Kt : Type} [DecidableEq Kt] {kvs : List (Kt × Value)} {k k' : Kt} {v : Value} (h : valueAt kvs k = none) : valueAt (stored kvs k v) k' = if k' = k then some v else valueAt kvs k' := by
  rw [stored_new h]
  unfold valueAt
  rw [List.find?_append]
  by_cases e : k' = k
  · subst e
    rw [if_pos rfl]
    have h' : kvs.find? (fun kv => kv.1 = k') = none := by
      unfold valueAt at h
      exact Option.map_eq_none_iff.mp h
    rw [h']; simp
  · rw [if_neg e]
    cases q : kvs.find? (fun kv => kv.1 = k') with
    | some x => simp
    | none => simp [Ne.symm e]

section
variable {prog : Program} {w : World} {A : Around} {E : Value → Shared → Prop} {s : Shared} {env : Env} {K : Frag} {h₀ : Heap} {L : Addr} {m : Str → Option Value} {own : Led} {G : Array GenState} {O : OsState}
theorem stO {x : Str} {c : Addr} {o : Obj} {v0 : Option Value} {v : Value} {Q : Unit → Shared → Prop} (F : Fm h₀ L m own G O s) (i : Nat) (hi : own[i]? = some (c, o)) (hd : o.data = .cell v0) (h : ∀ o' s', o'.data = .cell (some v) → Fm h₀ L m (own.set i (c, o')) G O s' → Q () s')
    (hc : env.cells.lookup x = some c := by rfl) (hk : env.scope.kind = .function := by rfl) (hl : env.kindOf x = some .cell := by rfl) :
    wpAny (model prog w) A (storeName env x v) Q E s := by
  refine wpAny_storeName_cell hk hl hc ⟨o, F.at i hi, hd⟩ fun h' hv hs => ?_
  obtain ⟨o', ho', hd'⟩ := hv
  exact h o' _ hd' (F.set i hi hs ho')
/-- a call of a built-in function with names for some of what it is given -/
theorem E_bikw {x : Str} {np pos : Pos} {e : Expr} {rest : List Expr} {kws : List Keyword} {id : String} {Q : Value → Shared → Prop} {hp : Heap} (C : Cx K hp) (en : nsIn K mainGlobals x = some none) (hb : bootBuiltins x = some (.builtin id))
    (h : wpL (model prog w) A env (e :: rest) (fun vs s₁ => wpAny (model prog w) A (evalAll ((backToKw pos (keywordEach kws env)).map (·.2))) (fun kvs s₂ => wpAny (model prog w) A (call (.builtin id) vs (((backToKw pos (keywordEach kws env)).filterMap (·.1)).zip kvs)) Q NR s₂) NR s₁) s)
    (hn : x ≠ "__name__") (hh : s.heap = hp := by rfl) (hs : noStar (e :: rest) = true := by rfl)
    (hg : env.globals = mainGlobals := by rfl) (hbb : env.builtins = builtinsNs := by rfl) (hk : env.scope.kind = .function := by rfl) (hx : env.kindOf x = some .globalImplicit := by rfl) (hd : (x == ("__debug__" : Str)) = false := by rfl)
    (hall : (backToKw pos (keywordEach kws env)).all (·.1.isSome) = true := by rfl) (hkw : (backToKw pos (keywordEach kws env)).any (·.1.isNone) = false := by rfl) :
    wpE (model prog w) A (.Call (.Name x np) (e :: rest) kws pos) env Q s := by
  refine wpAny_Call_ofName (nmB C en hb ?_ hn hh hg hbb hk hx hd)
  obtain ⟨e1, e2⟩ := starEach_cons (env := env) hs
  refine callWith_kw (spliced_of hs h) ?_ (argsAny hs) hall hkw
  rw [e1]; rfl

/-- sorted(l, key=f) -/
theorem sorted_key {a f : Addr} {xs : List Value} {ns : List Nat} {n : Nat} {Q : Value → Shared → Prop} (g : Int → Int) (F : Fm h₀ L m own G O s) (ha : s.heap.get? a = some (lst xs n)) (hx : NatsAre xs ns) (hsz : ns.length < 64)
    (turn : ∀ (n : Nat) (t : Tok) s', n ∈ ns → (∀ p ∈ own, s'.heap.get? p.1 = some p.2) → (∀ b o, h₀.get? b = some o → s'.heap.get? b = some o) → ∀ Q' : Value → Shared → Prop, (∀ u tk h', (∀ b o, s'.heap.get? b = some o → h'.get? b = some o) → Q' (.int (g n) u) { s' with heap := h', toks := tk }) →
      wpAny (model prog w) A.in1.in1 (call (.ref f) [.int (n : Int) t]) Q' NR s')
    (done : ∀ c ys (is : List Nat) k s', Fm h₀ L m ((c, lst ys k) :: own) G O s' → NatsAre ys is → is.Perm ns → is.Pairwise (fun (x y : Nat) => g (x : Int) ≤ g (y : Int)) → Q (.ref c) s') :
    wpAny (model prog w) A (call (.builtin "sorted") [.ref a] [(Str.ofString "key", .ref f)]) Q NR s := by
  refine ksk_letter (b := false) g F.fr F.nw (isL ha) hx (by rw [List.length_map]; exact hsz) (ksk_s1 _ _) (fun x => ksk_l1 _ _) (fun x => ksk_t1 _ _) (fun n t h tk own' hn F' N' => ?_) fun D vs' is c h' tk F' N' hlt hvs hl hp ho _ => ?_
  · obtain ⟨k, hk, rfl⟩ := List.mem_map.mp hn
    refine turn k t { s with heap := h, toks := tk } hk (fun p hp => (N' p (List.mem_append_left _ hp)).1) F'.keep _ fun u tk' h' hk' => ?_
    exact KskEnd.intro (F'.after hk') (fun q hq => ⟨hk' _ _ (N' q hq).1, (N' q hq).2⟩) (fun p hp => hp)
  · obtain ⟨e1, e2⟩ := perm_nats hp
    refine done D vs' (is.map Int.toNat) c _ ⟨F', N', ?_, F.gens, F.os⟩ (by unfold NatsAre; rw [← e1]; exact hvs) e2 ?_
    · rw [List.map_cons, List.nodup_cons]
      refine ⟨fun hm => ?_, F.nd⟩
      obtain ⟨q, hq, e⟩ := List.mem_map.mp hm
      have := hlt q hq
      rw [e] at this; exact Nat.lt_irrefl _ this
    · rw [List.pairwise_map]
      refine ho.imp_of_mem fun {x y} hx hy hxy => ?_
      have hx' : (x.toNat : Int) = x := by obtain ⟨k, _, rfl⟩ := List.mem_map.mp (hp.mem_iff.mp hx); rfl
      have hy' : (y.toNat : Int) = y := by obtain ⟨k, _, rfl⟩ := List.mem_map.mp (hp.mem_iff.mp hy); rfl
      rw [hx', hy']
      simpa using hxy
end
end Mine

end NE_part
section NF_part
namespace Mine
open PySem PySem.W PySem.Calls PySem.Spec PyProof.Rows

noncomputable abbrev sbPos : Pos := ⟨160, 28, 160, 52⟩
noncomputable abbrev sbQual : Str := (envK "sorted_beneath" (stmtAt 24) 0 180).qual ++ "<lambda>"
noncomputable abbrev SbTab (X : Led) : Prop := TabLed 177 sbPos sbQual X

section
variable {prog : Program} {w : World} {A : Around} {E : Value → Shared → Prop} {s : Shared} {env : Env} {K : Frag} {D : Doc} {hp : Heap} {t : Addr} {i : Nat} {nd : Nd} {tk : Tok} {Q : Value → Shared → Prop}
theorem sorted_beneath_spec {a : Addr} {xs : List Value} {ns : List Nat} {n : Nat} {X : Led} (Y : Lay K) (C : Cx K (hideAll s.heap (X.map (·.1)))) (T : Tb (hideAll s.heap (X.map (·.1))) 179 177) (r : Rm A 8) (hX : SbTab X) (hXs : ∀ p ∈ X, s.heap.get? p.1 = some p.2) (hXn : (X.map (·.1)).Nodup)
    (hT : TreeIs (hideAll s.heap (X.map (·.1))) t D) (hi : i < D.length) (ha : s.heap.get? a = some (lst xs n)) (haX : a ∉ X.map (·.1)) (hx : NatsAre xs ns) (hns : ns.Nodup) (hks : ∀ x ∈ ns, x ∈ kids D i) (hD : D.length < 64)
    (ret : ∀ c ys n' s' X', PurX X X' s s' → SbTab X' → c ∉ X'.map (·.1) → s'.heap.get? c = some (lst ys n') → NatsAre ys (pickIn (kids D i) ns) → Q (.ref c) s') :
    wpAny (model prog w) A (call (.ref 180) [.ref t, .int i tk, .ref a]) Q E s := by
  have ha0 := hideAll_get (X.map (·.1)) ha haX
  refine enterC X Y.f_sorted_beneath C.hide r ["tree", "parent", "some"] hXs hXn (fun L s₁ co hco F => ?_) (fun L => ?_)
  rotate_left
  · intro x hx
    rcases List.mem_cons.mp hx with rfl | hx
    · exact .inl rfl
    rcases List.mem_cons.mp hx with rfl | hx
    · exact .inl rfl
    rcases List.mem_cons.mp hx with rfl | hx
    · exact .inl rfl
    · cases hx
  have r' := r.deeper (envK "sorted_beneath" (stmtAt 24) L 180)
  have ck : (co "known").data = .cell none := hco "known" _ rfl
  have hxl := hx.length
  have hkl := kids_len (D := D) (p := i)
  have hnl := nodup_sub hns hks
  refine S_if (T_cmp (E_bi (F.cx C) Y.b_len bb_len (by simp) (nmL F rfl (len_l (F.keep _ _ ha0) (by omega) fun t s₂ p => ?_)) (by decide +kernel)))
  have F := F.pur p
  refine E_int (cmp_lt (tr_bool ?_))
  have F := F.tok (s₂.toks + 1)
  by_cases hlt : xs.length < 2
  · rw [decide_eq_true (by omega)]
    refine S_ret (nmL F rfl ?_)
    refine ret a xs n _ X (Fm.backX (own := cellLed (cellsFrom (L + 1) (fdScope (stmtAt 24)).names []) co) F) hX haX (F.keep _ _ ha0) ?_
    rw [← pick_short kids_pw hks (by omega)]; exact hx
  rw [decide_eq_false (by omega)]
  refine S_nil ?_
  refine S_asg (E_bin (E_bin (E_tm Y Y.f_t_namespaces Y.m_namespaces (F.cx C) (hT.keeps F.keep) (fun _ q => nmL F rfl q) (nmL F rfl ⟨F.cx C, ?_⟩))))
  refine namespaces_spec Y (F.cx C) (r'.mono (by omega)) (hT.keeps F.keep) (hT.get hi) fun v s₃ p hn => ?_
  obtain ⟨l1, n1, rfl, hn, h1⟩ := hn
  have F := F.add p hn h1
  refine E_tm Y Y.f_t_attributes Y.m_attributes (F.cx C) (hT.keeps F.keep) (fun _ q => nmL F rfl q) (nmL F rfl ⟨F.cx C, ?_⟩)
  refine attributes_spec Y (F.cx C) (r'.mono (by omega)) (hT.keeps F.keep) (hT.get hi) fun v s₄ p hn => ?_
  obtain ⟨l2, n2, rfl, hn, h2⟩ := hn
  have F := F.add p hn h2
  refine add_l F (F.at 1 rfl) (F.at 0 rfl) (by simp) fun l3 s₅ F => ?_
  refine E_tm Y Y.f_t_children Y.m_children (F.cx C) (hT.keeps F.keep) (fun _ q => nmL F rfl q) (nmL F rfl ⟨F.cx C, ?_⟩)
  refine children_spec Y (F.cx C) (r'.mono (by omega)) (hT.keeps F.keep) (hT.get hi) fun v s₆ vs p hvs hn => ?_
  obtain ⟨l4, n4, rfl, hn, h4⟩ := hn
  have F := F.add p hn h4
  have hvl := hvs.length
  refine add_l F (F.at 1 rfl) (F.at 0 rfl) (by simp; omega) fun ev s₇ F => ?_
  simp only [List.append_nil, List.nil_append] at F
  have F := F.drop (own' := (ev, lst vs 0) :: (cellLed (cellsFrom (L + 1) (fdScope (stmtAt 24)).names []) co ++ X)) (.cons_cons _ (.cons _ (.cons _ (.cons _ (.cons _ (.refl _))))))
  refine stL F (fun s₈ F => ?_)
  refine S_asg (E_dcompE (intKind prog w) F [] r'.h C.lim (E_bi (F.cx C) Y.b_enumerate bb_enumerate (by simp) (nmL F put_same (enum_l F (F.at 0 rfl) fun e it oe oi s₉ hne F he hit => ?_)) (by decide +kernel)))
  refine ⟨e, it, ev, oe, oi, vs, 0, fun j kvs => keysN kvs ((kids D i).take j) ∧ ∀ q x, q < j → (kids D i)[q]? = some x → ∃ t, valueAt kvs (x : Int) = some (.int (q : Nat) t), _, _, rfl, hne, ?_, ?_, F.at 0 rfl, by omega, F, he, hit, ⟨rfl, fun q x h => absurd h (Nat.not_lt_zero _)⟩, ?_, ?_⟩
  · have nd := F.nd
    rw [List.cons_append, List.map_cons, List.nodup_cons] at nd
    exact fun q => nd.1 (by rw [q]; simp)
  · have nd := F.nd
    rw [List.cons_append, List.map_cons, List.nodup_cons] at nd
    exact fun q => nd.1 (by rw [q]; simp)
  · intro j v tj kvs hb m' own' C' s₁₀ hv hI hk m1 m2 F'
    obtain ⟨x, tx, rfl, hxj⟩ := hvs.at hv
    have hnot : x ∉ (kids D i).take j := fun hm => by
      obtain ⟨q, hq⟩ := List.mem_iff_getElem?.mp hm
      have hq' : q < j ∧ (kids D i)[q]? = some x := by
        rw [List.getElem?_take] at hq
        split at hq
        · rename_i h; exact ⟨h, hq⟩
        · cases hq
      obtain ⟨h1, e1⟩ := List.getElem?_eq_some_iff.mp hq'.2
      obtain ⟨h2, e2⟩ := List.getElem?_eq_some_iff.mp hxj
      have := List.pairwise_iff_getElem.mp (kids_pw (D := D) (p := i)) q j h1 h2 hq'.1
      rw [e1, e2] at this; exact Nat.lt_irrefl _ this
    have hvn : valueAt kvs (x : Int) = none := by
      have := hI.1.isSome x
      rw [decide_eq_false hnot] at this
      exact Option.not_isSome_iff_eq_none.mp (by rw [this]; simp)
    refine nmL F' m2 (nmL F' m1 ⟨(x : Int), m', isInt_n (t := tx), ⟨?_, fun q y hq hy => ?_⟩, F'⟩)
    · have := hI.1.set x (.int (j : Nat) tj)
      rw [take_snoc hxj]
      unfold addNew at this
      rwa [if_neg hnot] at this
    · rw [valueAt_new hvn]
      by_cases hqj : q = j
      · subst hqj
        rw [hxj] at hy; cases hy
        exact ⟨tj, by rw [if_pos rfl]⟩
      · have hne : (y : Int) ≠ (x : Int) := fun e => by
          have e' : y = x := Int.ofNat.inj e
          subst e'
          obtain ⟨h1, e1⟩ := List.getElem?_eq_some_iff.mp hy
          obtain ⟨h2, e2⟩ := List.getElem?_eq_some_iff.mp hxj
          have := List.pairwise_iff_getElem.mp (kids_pw (D := D) (p := i)) q j h1 h2 (by omega)
          rw [e1, e2] at this; exact Nat.lt_irrefl _ this
        rw [if_neg hne]
        exact hI.2 q y (by omega) hy
  · intro Dk kvs o s₁₀ lo hI hd F
    have hval : ∀ x ∈ kids D i, ∃ t, valueAt kvs (x : Int) = some (.int ((kids D i).idxOf x : Nat) t) := fun x hx => by
      have h1 := List.idxOf_lt_length_iff.mpr hx
      exact hI.2 _ x (by omega) (by rw [List.getElem?_eq_getElem h1, List.getElem_idxOf h1])
    refine stO F 2 rfl ck fun oc s₁₁ hoc F => ?_
    refine S_ret (E_bikw (F.cx C) Y.b_sorted bb_sorted (nmL F (put_ne rfl) (kws_cons (E_lam (own := [(Dk, o), (ev, lst vs 0), (L + 1, oc)]) (X := X) [("known", L + 1)] F T hX fun f c' ctv pm X' s₁₂ hX' hlc F => kws_nil ?_))) (by decide +kernel))
    refine sorted_key (fun z => ((kids D i).idxOf z.toNat : Nat)) F (F.keep _ _ ha0) hx (by omega) (fun x tx s₁₃ hxn hown hk Q' q => ?_) fun c ys is k s₁₃ F hys hperm ho => ?_
    · obtain ⟨tv, hv⟩ := hval x (hks x hxn)
      have hX'' : ∀ p ∈ X', s₁₃.heap.get? p.1 = some p.2 := fun p hp => hown p (.tail _ (List.mem_append_right _ hp))
      refine lam_call ["node"] (hown _ (.head _)) (hlc.rec hX'') (C.lim.keeps hk) (r'.in1.in1.room) (fun L' h₁ hns hL' hk₁ => ?_) rfl ?_
      · refine E_sub (wpAny_Name (wpAny_loadName_free (c := L + 1) rfl rfl rfl ⟨oc, hk₁ _ _ (hown (L + 1, oc) (by simp)), hoc⟩ (wpAny_Name (wpAny_loadName_local rfl rfl hns rfl ?_) rfl)) rfl)
        exact d_sub (hk₁ _ _ (hown (Dk, o) (by simp))) hd (isInt_n (t := tx)) hv (q tv _ h₁ hk₁)
      · intro y hy
        rcases List.mem_cons.mp hy with rfl | hy
        · rfl
        · cases hy
    · have nd := F.nd
      rw [List.map_cons, List.nodup_cons] at nd
      refine ret c ys k _ X' (Fm.backX (own := (c, lst ys k) :: (f, _) :: [(Dk, o), (ev, lst vs 0), (L + 1, oc)]) F) hX' (fun hm => nd.1 ?_) (F.at 0 rfl) ?_
      · rw [List.map_cons, List.map_append]
        exact .tail _ (List.mem_append_right _ hm)
      · have := sort_kids kids_pw hns hks hperm (ho.imp fun {x y} h => by simpa using h)
        rw [← this]; exact hys
end
end Mine

end NF_part
section NG_part
namespace Mine
open PySem PySem.W PySem.Calls PySem.Spec PyProof.Rows

/-! plain: the order of a document -/
noncomputable def inDoc (D : Doc) (ns : List Nat) : List Nat := (List.range D.length).filter fun j => decide (j ∈ ns)
theorem sub_root {D : Doc} (P : Pre D) : sub D 0 = List.range D.length := by
  have all : ∀ j, j < D.length → j = 0 ∨ 0 ∈ above D j := by
    intro j
    induction j using Nat.strongRecOn with
    | _ j ih =>
      intro hj
      cases j with
      | zero => exact .inl rfl
      | succ j =>
        obtain ⟨p, hp, -⟩ := P.next j hj
        have := P.wf _ _ hp
        rw [above_some P.wf hp]
        rcases ih p this (by omega) with rfl | h
        · exact .inr (.head _)
        · exact .inr (.tail _ h)
  unfold sub
  rw [List.filter_eq_self]
  intro j hj
  rw [under_iff]
  exact all j (List.mem_range.mp hj)
theorem root_only {D : Doc} (P : Pre D) {j : Nat} (hj : j < D.length) (h : parOf D j = none) : j = 0 := by
  cases j with
  | zero => rfl
  | succ j => obtain ⟨p, hp, -⟩ := P.next j hj; rw [h] at hp; cases hp
noncomputable def isIn (ns : List Nat) (j : Nat) : Bool := decide (j ∈ ns)
theorem flat_marked {D : Doc} {mk ns : List Nat} (M : Marks D ns mk) : ∀ l : List Nat, (l.flatMap (sub D)).filter (isIn ns) = ((pickIn l mk).flatMap (sub D)).filter (isIn ns)
  | [] => rfl
  | k :: l => by
    rw [List.flatMap_cons, List.filter_append, flat_marked M l]
    unfold pickIn
    rw [List.filter_cons]
    by_cases hk : k ∈ mk
    · rw [if_pos (by simpa using hk), List.flatMap_cons, List.filter_append]
    · rw [if_neg (by simpa using hk)]
      have : (sub D k).filter (isIn ns) = [] := by
        rw [List.filter_eq_nil_iff]
        intro x hx hxn
        have hxn' : x ∈ ns := of_decide_eq_true hxn
        rw [mem_sub] at hx
        exact hk ((M.mem k).mpr ⟨x, hxn', hx.2.elim (fun e => .inl e.symm) .inr⟩)
      rw [this, List.nil_append]
theorem flat_pick_len {D : Doc} {mk : List Nat} : ∀ l : List Nat, ((pickIn l mk).flatMap (sub D)).length ≤ (l.flatMap (sub D)).length
  | [] => Nat.le_refl _
  | k :: l => by
    have ih := flat_pick_len (D := D) (mk := mk) l
    unfold pickIn at ih ⊢
    rw [List.filter_cons]
    split
    · rw [List.flatMap_cons, List.flatMap_cons, List.length_append, List.length_append]; omega
    · rw [List.flatMap_cons, List.length_append]; omega

theorem all_under {D : Doc} (P : Pre D) {j : Nat} (hj : j < D.length) : j = 0 ∨ 0 ∈ above D j := by
  have : j ∈ sub D 0 := by rw [sub_root P]; exact List.mem_range.mpr hj
  exact (mem_sub.mp this).2
theorem tops {D : Doc} (P : Pre D) {mk ns is : List Nat} (M : Marks D ns mk) (hn : ∀ x ∈ ns, x < D.length) (h : is.Perm (mk.filter fun j => parOf D j == none)) :
    (is.flatMap (sub D)).filter (isIn ns) = inDoc D ns ∧ (is.flatMap (sub D)).length ≤ D.length ∧ ∀ x ∈ is, x < D.length := by
  have nd : is.Nodup := h.nodup_iff.mpr (M.nd.sublist List.filter_sublist)
  have h0 : ∀ x ∈ is, x = 0 := fun x hx => by
    have := h.mem_iff.mp hx
    rw [List.mem_filter] at this
    exact root_only P (M.lt x this.1) (by simpa using this.2)
  have cases2 : is = [] ∨ is = [0] := by
    match is, nd, h0 with
    | [], _, _ => exact .inl rfl
    | [a], _, h0 => rw [h0 a (.head _)]; exact .inr rfl
    | a :: b :: r, nd, h0 =>
      rw [List.nodup_cons] at nd
      have e1 := h0 a (.head _)
      have e2 := h0 b (.tail _ (.head _))
      exact absurd (by rw [e1, e2]; exact .head _) nd.1
  have e0 : ([0] : List Nat).flatMap (sub D) = List.range D.length := by rw [List.flatMap_cons, List.flatMap_nil, List.append_nil, sub_root P]
  rcases cases2 with rfl | rfl
  · refine ⟨?_, Nat.zero_le _, fun x hx => nomatch hx⟩
    cases ns with
    | nil =>
      show ([] : List Nat) = inDoc D []
      symm; unfold inDoc; rw [List.filter_eq_nil_iff]; intro x _; simp
    | cons v ns =>
      have hv := hn v (.head _)
      have : 0 ∈ mk := (M.mem 0).mpr ⟨v, .head _, (all_under P hv).elim (fun e => .inl e.symm) .inr⟩
      have := h.mem_iff.mpr (List.mem_filter.mpr ⟨this, by rw [P.root]; rfl⟩)
      cases this
  · rw [e0]
    exact ⟨rfl, by rw [List.length_range]; exact Nat.le_refl _, fun x hx => by rw [List.mem_singleton.mp hx]; exact P.pos⟩

section
variable {prog : Program} {w : World} {A : Around} {E : Value → Shared → Prop} {s : Shared} {env : Env} {K : Frag} {h₀ : Heap} {L : Addr} {m : Str → Option Value} {own : Led} {G : Array GenState} {O : OsState}
theorem Fm.hid {X : Led} (F : Fm h₀ L m (own ++ X) G O s) : ∀ b o, h₀.get? b = some o → (hideAll s.heap (X.map (·.1))).get? b = some o := fun b o e =>
  hideAll_get _ (F.keep b o e) fun hb => by
    obtain ⟨p, hp, rfl⟩ := List.mem_map.mp hb
    have := (F.nw p (List.mem_append_right _ hp)).2.2; rw [e] at this; cases this
theorem Fm.apart {X : Led} (F : Fm h₀ L m (own ++ X) G O s) {a : Addr} {o : Obj} (h : (a, o) ∈ own) : a ∉ X.map (·.1) := fun hm => by
  have nd := F.nd
  rw [List.map_append, List.nodup_append] at nd
  exact nd.2.2 a (List.mem_map.mpr ⟨_, h, rfl⟩) a hm rfl
theorem Fm.ndX {X : Led} (F : Fm h₀ L m (own ++ X) G O s) : (X.map (·.1)).Nodup := by
  have nd := F.nd
  rw [List.map_append, List.nodup_append] at nd
  exact nd.2.1
theorem Fm.hasX {X : Led} (F : Fm h₀ L m (own ++ X) G O s) : ∀ p ∈ X, s.heap.get? p.1 = some p.2 := fun p hp => (F.nw p (List.mem_append_right _ hp)).1
theorem S_ifJ {N : Shared → Prop} {R : Value → Shared → Prop} {rest : List Stmt} {t : Expr} {body orelse : List Stmt} {pos : Pos} (J : Shared → Prop)
    (h : wpT (model prog w) A t env (fun b s' => match b with
      | true => wpS (model prog w) A body env J R s'
      | false => wpS (model prog w) A orelse env J R s') s) (k : ∀ s', J s' → wpS (model prog w) A rest env N R s') : wpS (model prog w) A (.If t body orelse pos :: rest) env N R s := by
  refine S_if (wpAny_mono h (fun b s' x => ?_) fun _ _ x => x)
  cases b with
  | true => exact S_mono x k fun _ _ y => y
  | false => exact S_mono x k fun _ _ y => y
/-- sorted(l) -/
theorem sorted_l {a : Addr} {xs : List Value} {ns : List Nat} {n : Nat} {Q : Value → Shared → Prop} (F : Fm h₀ L m own G O s) (ha : s.heap.get? a = some (lst xs n)) (hx : NatsAre xs ns) (hsz : ns.length < 64)
    (done : ∀ c ys (is : List Nat) k s', Fm h₀ L m ((c, lst ys k) :: own) G O s' → NatsAre ys is → is.Perm ns → is.Pairwise (· ≤ ·) → Q (.ref c) s') :
    wpAny (model prog w) A (call (.builtin "sorted") [.ref a]) Q E s := by
  refine kso_sorted F.fr F.nw (isL ha) hx (by rw [List.length_map]; exact hsz) fun D vs' is c h' F' N' hlt hvs hl hp ho _ => ?_
  obtain ⟨e1, e2⟩ := perm_nats hp
  refine done D vs' (is.map Int.toNat) c _ ⟨F', N', ?_, F.gens, F.os⟩ (by unfold NatsAre; rw [← e1]; exact hvs) e2 ?_
  · rw [List.map_cons, List.nodup_cons]
    refine ⟨fun hm => ?_, F.nd⟩
    obtain ⟨q, hq, e⟩ := List.mem_map.mp hm
    have := hlt q hq
    rw [e] at this; exact Nat.lt_irrefl _ this
  · rw [List.pairwise_map]
    refine ho.imp_of_mem fun {x y} hx hy hxy => ?_
    have hx' : (x.toNat : Int) = x := by obtain ⟨k, _, rfl⟩ := List.mem_map.mp (hp.mem_iff.mp hx); rfl
    have hy' : (y.toNat : Int) = y := by obtain ⟨k, _, rfl⟩ := List.mem_map.mp (hp.mem_iff.mp hy); rfl
    omega
end

section
variable {prog : Program} {w : World} {A : Around} {E : Value → Shared → Prop} {s : Shared} {env : Env} {K : Frag} {D : Doc} {hp : Heap} {t : Addr} {i : Nat} {nd : Nd} {tk : Tok} {Q : Value → Shared → Prop}
theorem in_order_spec {a : Addr} {xs : List Value} {ns : List Nat} {n : Nat} {X : Led} (Y : Lay K) (C : Cx K (hideAll s.heap (X.map (·.1)))) (T : Tb (hideAll s.heap (X.map (·.1))) 179 177) (r : Rm A 12) (hX : SbTab X) (hXs : ∀ p ∈ X, s.heap.get? p.1 = some p.2) (hXn : (X.map (·.1)).Nodup)
    (hT : TreeIs (hideAll s.heap (X.map (·.1))) t D) (P : Pre D) (ha : s.heap.get? a = some (lst xs n)) (haX : a ∉ X.map (·.1)) (hx : NatsAre xs ns) (hns : ns.Nodup) (hnl : ∀ x ∈ ns, x < D.length) (hD : D.length < 64)
    (ret : ∀ c ys n' s' X', PurX X X' s s' → SbTab X' → c ∉ X'.map (·.1) → s'.heap.get? c = some (lst ys n') → NatsAre ys (inDoc D ns) → Q (.ref c) s') :
    wpAny (model prog w) A (call (.ref 185) [.ref t, .ref a]) Q E s := by
  have ha0 := hideAll_get (X.map (·.1)) ha haX
  refine enterX X Y.f_in_order C.hide r ["tree", "nodes"] hXs hXn (fun L s₁ F => ?_)
  have r' := r.deeper (envF "in_order" (stmtAt 25) L 185)
  have hxl := hx.length
  have hnn := nodup_lt hns hnl
  generalize hb : hideAll s.heap (X.map (·.1)) = base at F C T hT ha0
  have F : Fm base L (look ((["tree", "nodes"] : List Str).zip [Value.ref t, .ref a])) ([] ++ X) s.gens s.os s₁ := F
  refine S_asgDL (intKind prog w) F [] r'.h C.lim (nmL F rfl ⟨a, xs, n, fun j kvs => keysN kvs (uniq (ns.take j)), _, _, rfl, F.keep _ _ ha0, by omega, F, rfl, fun j v kvs hb m' own' C' s₂ hv hI hk hm F' => ?_, fun wd kvsW ow s₂ low hI how F => ?_⟩)
  · obtain ⟨x, tx, rfl, hxj⟩ := hx.at hv
    refine nmL F' hm (E_bool ⟨(x : Int), m', isInt_n (t := tx), ?_, F'⟩)
    dsimp only
    rw [take_snoc hxj, uniq_snoc]
    exact keysN.set hI x _
  · have hkW : keysN kvsW (uniq ns) := by rw [← List.take_of_length_le (l := ns) (i := xs.length) (by omega)]; exact hI
    refine S_asgT2 "lines" "found" F r'.h (E_tup (E_fn Y.f_lines_marked (F.cx C) Y.n_lines_marked (nmL F (put_ne rfl) (nmL F put_same ⟨F.cx C, ?_⟩))))
    refine lines_marked_spec Y (F.cx C) (r'.mono (by omega)) (hT.keeps F.keep) P (F.at 0 rfl) how low hkW (fun x hx => hnl x (mem_uniq.mp hx)) fun fd mk LL of s₃ p hMk hLi lof hof hLL hnd hfr => ?_
    have F : Fm base L _ (((wd, ow) :: ([] ++ X)) ++ ((fd, of) :: lled LL)) s.gens s.os s₃ := Fm.swap (X := []) (X' := (fd, of) :: lled LL) (by rw [List.append_nil]; exact F) ⟨fun b o _ e => p.k b o e, p.g, p.o, hLL, hnd, fun q hq => .inr (hfr q hq)⟩
    have hMk : Marks D ns mk := ⟨hMk.nd, hMk.lt, fun j => (hMk.mem j).trans ⟨fun ⟨v, hv, e⟩ => ⟨v, mem_uniq.mp hv, e⟩, fun ⟨v, hv, e⟩ => ⟨v, mem_uniq.mpr hv, e⟩⟩⟩
    have F := F.perm (own' := ((wd, ow) :: (fd, of) :: lled LL) ++ X) (List.Perm.cons _ (List.perm_append_comm (l₁ := X) (l₂ := (fd, of) :: lled LL)))
    refine E_list (newL F fun f s₄ F => newT F fun d s₅ F => ⟨d, _, _, 0, _, _, rfl, F, F.at 0 rfl, fun s₆ F => ?_⟩)
    have F := F.cut 1
    have nd : ((lkvs LL).map (·.1)).Nodup := by obtain ⟨_, _, _, _, _, _, h⟩ := hof; exact h
    obtain ⟨e0, he0, e00⟩ := hLi.top
    obtain ⟨j0, hj0⟩ := List.mem_iff_getElem?.mp he0
    obtain ⟨p0, a0, vs0, n0⟩ := e0
    have e00 : p0 = none := e00
    subst e00
    have hval : valueAt (lkvs LL) (none : Option Int) = some (.ref a0) := valueAt_of_get nd (i := j0) (by unfold lkvs; rw [List.getElem?_map, hj0]; rfl)
    have hmk : mk.length ≤ D.length := nodup_lt hMk.nd hMk.lt
    have hfl := List.length_filter_le (fun j => parOf D j == none) mk
    refine S_asg (E_rev (E_bi (F.cx C) Y.b_sorted bb_sorted (by simp) (E_sub (nmL F put_same (E_none (d_sub (F.at 2 rfl) hof (k := (none : Option Int)) rfl hval ?_)))) (by decide +kernel)))
    have F := F.tok (s₆.toks + 1)
    have hea : NatsAre vs0 (mk.filter fun j => parOf D j == none) := hLi.each _ he0
    have hmem0 : (a0, lst vs0 n0) ∈ lled LL := List.mem_map.mpr ⟨_, he0, rfl⟩
    refine sorted_l F (F.mem (.tail _ (.tail _ (.tail _ (List.mem_append_left _ hmem0))))) hea (by omega) fun c0 ys0 is k0 s₇ F hys hperm ho => ?_
    obtain ⟨t1, t2, t3⟩ := tops P hMk hnl hperm
    have hisl : is.length ≤ mk.length := by have := hperm.length_eq; omega
    have hysl := hys.length
    refine E_neg ⟨c0, ys0, k0, _, rfl, rfl, F.at 0 rfl, by omega, fun c s₈ p hn hc => ?_⟩
    have F := ((F.tok _).tok _).add p hn hc
    refine stL F (fun s₉ F => ?_)
    have F := F.drop (own' := (c, lst ys0.reverse 0) :: (f, lst [] 0) :: (((wd, ow) :: (fd, of) :: lled LL) ++ X)) (.cons_cons _ (.cons _ (.refl _)))
    refine S_while (fun k s' => ∃ (m : Str → Option Value) (n1 n2 : Nat) (xs ys : List Value) (Fd Sd : List Nat) (X' : Led), Fm base L m ((c, lst ys n2) :: (f, lst xs n1) :: (((wd, ow) :: (fd, of) :: lled LL) ++ X')) s.gens s.os s' ∧ SbTab X' ∧ m "tree" = some (.ref t) ∧ m "wanted" = some (.ref wd) ∧ m "lines" = some (.ref fd) ∧ m "found" = some (.ref f) ∧ m "left" = some (.ref c) ∧
        NatsAre xs Fd ∧ NatsAre ys Sd ∧ (∀ x ∈ Sd, x < D.length) ∧ Fd ++ (Sd.reverse.flatMap (sub D)).filter (isIn ns) = inDoc D ns ∧ k = (Sd.reverse.flatMap (sub D)).length ∧ k ≤ D.length) _
      ⟨_, 0, 0, [], ys0.reverse, [], is.reverse, X, F, hX, put_ne (put_ne (put_ne (put_ne rfl))), put_ne (put_ne (put_ne put_same)), put_ne put_same, put_ne (put_ne put_same), put_same, .nil, hys.reverse, fun x hx => t3 x (List.mem_reverse.mp hx), by rw [List.reverse_reverse]; exact t1, rfl, by rw [List.reverse_reverse]; exact t2⟩ ?_
    clear F
    rintro k s₁₀ ⟨m, n1, n2, xs', ys, Fd, Sd, X', F, hX', m1, m2, m3, m4, m5, hx', hy, hlt, heq, rfl, hkD⟩
    refine T_cmp (nmL F m5 (E_list (newL F fun e s₁₁ F => cmp_ne_nil (F.at 1 rfl) (F.at 0 rfl) (r'.mono (by omega)) (tr_bool ?_))))
    have hdl : (inDoc D ns).length ≤ D.length := by
      have h1 := List.length_filter_le (fun j => decide (j ∈ ns)) (List.range D.length)
      rwa [List.length_range] at h1
    have hlen1 : Fd.length ≤ (inDoc D ns).length := by rw [← heq, List.length_append]; omega
    have hlen2 := flat_len (f := sub D) (fun a ha => sub_pos P ha) Sd.reverse (fun a ha => hlt a (List.mem_reverse.mp ha))
    rw [List.length_reverse] at hlen2
    have hxl' := hx'.length
    have hyl := hy.length
    rcases List.eq_nil_or_concat Sd with rfl | ⟨Sd, h, rfl⟩
    · have hys := hy.nil_inv
      subst hys
      simp only [List.isEmpty_nil, Bool.not_true]
      refine S_ret (nmL F m4 ?_)
      have heq' : Fd = inDoc D ns := by simpa using heq
      have F' : Fm base L m ([(e, lst [] 0), (c, lst [] n2), (f, lst xs' n1), (wd, ow), (fd, of)] ++ lled LL ++ X') s.gens s.os s₁₁ := by simpa using F
      refine ret f xs' n1 _ X' (by subst hb; exact Fm.backX F') hX' (F'.apart (o := lst xs' n1) (by simp)) (F.at 2 rfl) (heq' ▸ hx')
    · rw [List.concat_eq_append] at hy hyl hlen2 heq hlt hkD ⊢
      obtain ⟨ys, th, rfl, hy'⟩ := hy.snoc_inv
      have hb1 : (!(ys ++ [Value.int (h : Int) th]).isEmpty) = true := by simp
      rw [hb1]
      simp only [List.length_append, List.length_cons, List.length_nil] at hyl hlen2
      have hh : h < D.length := hlt h (by simp)
      refine S_asg (E_methB PySem.F.plainAttrs_list PySem.F.slot_list_pop PySem.F.type_list_pop (nmL F m5 ⟨typeL (F.at 1 rfl), noD (F.at 1 rfl), l_pop F 1 rfl (by have := hy'.length; omega) fun n2' s₁₂ F => ?_⟩))
      refine stL F (fun s₁₃ F => ?_)
      refine S_ifJ (fun s' => ∃ n1 xs'' Fd'', Fm base L (put m "here" (.int (h : Int) th)) ((e, lst [] 0) :: (c, lst ys n2') :: (f, lst xs'' n1) :: (((wd, ow) :: (fd, of) :: lled LL) ++ X')) s.gens s.os s' ∧ NatsAre xs'' Fd'' ∧ Fd'' = Fd ++ (if h ∈ ns then [h] else [])) (T_cmp (nmL F put_same (nmL F (put_ne m2) (d_in (F.at 3 rfl) how low (k := (h : Int)) (isInt_n (t := th)) (tr_bool ?_))))) ?_
      · rw [hkW.isSome h]
        have F := F.tok (s₁₃.toks + 1)
        by_cases hm : h ∈ ns
        · rw [decide_eq_true (mem_uniq.mpr hm)]
          refine S_exp (E_methB PySem.F.plainAttrs_list PySem.F.slot_list_append PySem.F.type_list_append (nmL F (put_ne m4) ⟨typeL (F.at 2 rfl), noD (F.at 2 rfl), nmL F put_same (l_append F 2 rfl (by omega) fun n'' s₁₄ F => S_nil ⟨n'', _, Fd ++ [h], F, hx'.snoc, by rw [if_pos hm]⟩)⟩))
        · rw [decide_eq_false (fun q => hm (mem_uniq.mp q))]
          exact S_nil ⟨n1, xs', Fd, F, hx', by rw [if_neg hm, List.append_nil]⟩
      clear F
      rintro s₁₄ ⟨n1', xs'', Fd'', F, hx'', hFd⟩
      have l1nd : (mk.filter fun j => parOf D j == some h).Nodup := hMk.nd.sublist List.filter_sublist
      have l1k : ∀ x ∈ mk.filter (fun j => parOf D j == some h), x ∈ kids D h := fun x hx => by
        rw [List.mem_filter] at hx
        exact mem_kids.mpr ⟨hMk.lt x hx.1, by simpa using hx.2⟩
      have l1p : pickIn (kids D h) (mk.filter fun j => parOf D j == some h) = pickIn (kids D h) mk := by
        unfold pickIn
        apply List.filter_congr
        intro x hx
        rw [mem_kids] at hx
        congr 1
        rw [eq_iff_iff, List.mem_filter]
        exact ⟨fun q => q.1, fun q => ⟨q, by simp [hx.2]⟩⟩
      have e1 : (Sd ++ [h]).reverse.flatMap (sub D) = h :: ((kids D h).flatMap (sub D) ++ Sd.reverse.flatMap (sub D)) := by
        rw [List.reverse_append, List.reverse_singleton, List.singleton_append, List.flatMap_cons, sub_eq P hh]; rfl
      have e2 : (Sd ++ (pickIn (kids D h) mk).reverse).reverse.flatMap (sub D) = (pickIn (kids D h) mk).flatMap (sub D) ++ Sd.reverse.flatMap (sub D) := by
        rw [List.reverse_append, List.reverse_reverse, List.flatMap_append]
      have hpl := flat_pick_len (D := D) (mk := mk) (kids D h)
      have hkl2 := kids_len (D := D) (p := h)
      have hpk : (pickIn (kids D h) mk).length ≤ (kids D h).length := List.length_filter_le _ _
      have finish : ∀ (a1 : Addr) (vs1 : List Value) (nn : Nat) (junk : Led) s', NatsAre vs1 (mk.filter fun j => parOf D j == some h) → ((a1, lst vs1 nn) ∈ junk ∨ (a1, lst vs1 nn) ∈ lled LL) → Fm base L (put m "here" (.int (h : Int) th)) (junk ++ ((c, lst ys n2') :: (f, lst xs'' n1') :: (((wd, ow) :: (fd, of) :: lled LL) ++ X'))) s.gens s.os s' → ∀ Q' : Value → Shared → Prop,
          (∀ c1 ys1 nn1 s'' X'', SbTab X'' → s''.heap.get? c1 = some (lst ys1 nn1) → NatsAre ys1 (pickIn (kids D h) mk) → Fm base L (put m "here" (.int (h : Int) th)) ((c, lst ys n2') :: (f, lst xs'' n1') :: (((wd, ow) :: (fd, of) :: lled LL) ++ X'')) s.gens s.os s'' → Q' (.ref c1) s'') →
          wpAny (model prog w) (A.deeper (envF "in_order" (stmtAt 25) L 185)) (call (.ref 180) [.ref t, .int (h : Int) th, .ref a1]) Q' NR s' := fun a1 vs1 nn junk s' hv hmem F Q' q => by
        have F' : Fm base L (put m "here" (.int (h : Int) th)) ((junk ++ ((c, lst ys n2') :: (f, lst xs'' n1') :: (wd, ow) :: (fd, of) :: lled LL)) ++ X') s.gens s.os s' := by simpa using F
        have hmem' : (a1, lst vs1 nn) ∈ junk ++ ((c, lst ys n2') :: (f, lst xs'' n1') :: (wd, ow) :: (fd, of) :: lled LL) := by
          rcases hmem with h | h
          · exact List.mem_append_left _ h
          · exact List.mem_append_right _ (.tail _ (.tail _ (.tail _ (.tail _ h))))
        refine sorted_beneath_spec Y (C.keeps F'.hid) (T.keeps F'.hid) (r'.mono (by omega)) hX' F'.hasX F'.ndX (hT.keeps F'.hid) hh (F'.mem (List.mem_append_left _ hmem')) (F'.apart hmem') hv l1nd l1k hD fun c1 ys1 nn1 s'' X'' p hX'' hc1 hget hys1 => ?_
        have F2 := F'.swap p
        rw [l1p] at hys1
        exact q c1 ys1 nn1 s'' X'' hX'' hget hys1 (F2.drop (by simp))
      refine S_exp (E_methB PySem.F.plainAttrs_list PySem.F.slot_list_extend PySem.F.type_list_extend (nmL F (put_ne m5) ⟨typeL (F.at 1 rfl), noD (F.at 1 rfl), E_rev (E_fn Y.f_sorted_beneath (F.cx C) Y.n_sorted_beneath (nmL F (put_ne m1) (nmL F put_same (E_methB PySem.F.plainAttrs_dict PySem.F.slot_dict_get PySem.F.type_dict_get (nmL F (put_ne m3) ⟨typeD (F.at 4 rfl) hof, noDD (F.at 4 rfl) hof, nmL F put_same (E_list (newL F fun b s₁₅ F => d_get (F.at 5 rfl) hof lof (k := some (h : Int)) (isInt_n (t := th)) ?_))⟩)))))⟩))
      have F := F.tok (s₁₅.toks + 1)
      have key : ∃ a1 vs1 nn, (valueAt (lkvs LL) (some (h : Int))).getD (.ref b) = .ref a1 ∧ NatsAre vs1 (mk.filter fun j => parOf D j == some h) ∧ ((a1, lst vs1 nn) ∈ [(b, lst [] 0), (e, lst [] 0)] ∨ (a1, lst vs1 nn) ∈ lled LL) := by
        cases hval2 : valueAt (lkvs LL) (some (h : Int)) with
        | some v =>
          obtain ⟨j, ⟨p1, a1, vs1, nn⟩, hj, e3, rfl⟩ := lkvs_some (p := some h) hval2
          have e3 : p1 = some h := e3
          subst e3
          exact ⟨a1, vs1, nn, rfl, hLi.each _ (List.mem_of_getElem? hj), .inr (List.mem_map.mpr ⟨_, List.mem_of_getElem? hj, rfl⟩)⟩
        | none =>
          refine ⟨b, [], 0, rfl, ?_, .inl (.head _)⟩
          have : (mk.filter fun j => parOf D j == some h) = [] := by
            rw [List.filter_eq_nil_iff]
            intro y hy hyp
            obtain ⟨e', he', q⟩ := hLi.all y hy
            exact lkvs_none (p := some h) hval2 e' he' (q.trans (by simpa using hyp))
          rw [this]; exact .nil
      obtain ⟨a1, vs1, nn, ekey, hv1, hmem1⟩ := key
      rw [ekey]
      refine ⟨F.cx C, finish a1 vs1 nn [(b, lst [] 0), (e, lst [] 0)] _ hv1 hmem1 F _ fun c1 ys1 nn1 s'' X'' hX'' hget hys1 F => ?_⟩
      have hyl1 := hys1.length
      refine E_neg ⟨c1, ys1, nn1, _, rfl, rfl, hget, by omega, fun c2 s₁₆ p hn hc => ?_⟩
      have F := ((F.tok _).tok _).add p hn hc
      refine l_extend F 1 rfl (F.at 0 rfl) (by have := hy'.length; omega) (by rw [List.length_reverse]; omega) fun n3 s₁₇ F => ?_
      rw [e1, List.length_cons, List.length_append] at hkD
      refine S_nil ⟨((Sd ++ (pickIn (kids D h) mk).reverse).reverse.flatMap (sub D)).length, ?_, _, n1', n3, xs'', _, Fd'', Sd ++ (pickIn (kids D h) mk).reverse, X'', F.cut 1, hX'', put_ne m1, put_ne m2, put_ne m3, put_ne m4, put_ne m5, hx'', hy'.append hys1.reverse, fun x hx => ?_, ?_, rfl, ?_⟩
      · rw [e1, e2, List.length_cons, List.length_append, List.length_append]; omega
      · rcases List.mem_append.mp hx with hx | hx
        · exact hlt x (by simp [hx])
        · have := List.mem_reverse.mp hx
          unfold pickIn at this
          rw [List.mem_filter] at this
          exact (mem_kids.mp this.1).1
      · rw [hFd, e2, ← heq, e1, List.filter_append, List.filter_cons, List.filter_append, flat_marked hMk (kids D h)]
        have : (if isIn ns h = true then h :: (List.filter (isIn ns) ((pickIn (kids D h) mk).flatMap (sub D)) ++ List.filter (isIn ns) (Sd.reverse.flatMap (sub D))) else (List.filter (isIn ns) ((pickIn (kids D h) mk).flatMap (sub D)) ++ List.filter (isIn ns) (Sd.reverse.flatMap (sub D)))) = (if h ∈ ns then [h] else []) ++ (List.filter (isIn ns) ((pickIn (kids D h) mk).flatMap (sub D)) ++ List.filter (isIn ns) (Sd.reverse.flatMap (sub D))) := by
          unfold isIn
          by_cases hm : h ∈ ns
          · rw [if_pos (by simpa using hm), if_pos hm]; rfl
          · rw [if_neg (by simpa using hm), if_neg hm]; rfl
        rw [this, List.append_assoc]
      · rw [e2, List.length_append]; omega
end
end Mine

end NG_part
section NH_part
namespace Mine
open PySem PySem.W PySem.Calls PySem.Spec PyProof.Rows

theorem pick_sub {pos : Option Nat} {l : List Nat} : (pick pos l).Sublist l := by
  cases pos with
  | none => exact .refl _
  | some p => exact (List.take_sublist _ _).trans (List.drop_sublist _ _)
theorem stepN_lt {D : Doc} {way : Str} {T : Tst} {pos : Option Nat} {i : Nat} (P : Pre D) (hi : i < D.length) : ∀ x ∈ stepN D way T pos i, x < D.length := fun x hx =>
  along_lt P hi x ((List.mem_filter.mp (pick_sub.mem hx)).1)
theorem stepN_len {D : Doc} {way : Str} {T : Tst} {pos : Option Nat} {i : Nat} (P : Pre D) (hi : i < D.length) : (stepN D way T pos i).length ≤ D.length := by
  have h1 := (pick_sub (pos := pos) (l := (along D way i).filter (okAt D T))).length_le
  have h2 := List.length_filter_le (okAt D T) (along D way i)
  have h3 := along_len (way := way) P hi
  unfold stepN; omega
theorem flat_le {D : Doc} {f : Nat → List Nat} {B : Nat} : ∀ l : List Nat, (∀ a ∈ l, (f a).length ≤ B) → (l.flatMap f).length ≤ l.length * B
  | [], _ => by simp
  | a :: l, h => by
    rw [List.flatMap_cons, List.length_append, List.length_cons, Nat.succ_mul]
    have := h a (.head _)
    have := flat_le (D := D) l fun b hb => h b (.tail _ hb)
    omega
noncomputable def foundN (D : Doc) (way : Str) (T : Tst) (pos : Option Nat) (ns : List Nat) : List Nat := ns.flatMap (stepN D way T pos)
theorem inDoc_uniq {D : Doc} {l : List Nat} : inDoc D (uniq l) = inDoc D l := by
  unfold inDoc
  apply List.filter_congr
  intro x _
  congr 1
  rw [eq_iff_iff]; exact mem_uniq

section
variable {prog : Program} {w : World} {A : Around} {E : Value → Shared → Prop} {s : Shared} {env : Env} {K : Frag} {D : Doc} {hp : Heap} {t : Addr} {i : Nat} {nd : Nd} {tk : Tok} {Q : Value → Shared → Prop} {way : Str} {T : Tst} {pos : Option Nat}
theorem after_step_spec {a sa vf : Addr} {nv : Value} {xs : List Value} {ns : List Nat} {n : Nat} {X : Led} (Y : Lay K) (C : Cx K (hideAll s.heap (X.map (·.1)))) (Tt : Tb (hideAll s.heap (X.map (·.1))) 179 177) (r : Rm A 14) (hX : SbTab X) (hXs : ∀ p ∈ X, s.heap.get? p.1 = some p.2) (hXn : (X.map (·.1)).Nodup)
    (hT : TreeIs (hideAll s.heap (X.map (·.1))) t D) (P : Pre D) (ha : s.heap.get? a = some (lst xs n)) (haX : a ∉ X.map (·.1)) (hx : NatsAre xs ns) (hnl : ∀ x ∈ ns, x < D.length) (hn8 : ns.length ≤ 8) (hD : D.length < 64)
    (hw : Way way) (hS : StepIs (hideAll s.heap (X.map (·.1))) sa way T pos) (hp1 : ∀ p, pos = some p → 1 ≤ p) (V : ValOf prog w K (hideAll s.heap (X.map (·.1))) vf)
    (ret : ∀ c ys n' s' X', PurX X X' s s' → SbTab X' → c ∉ X'.map (·.1) → s'.heap.get? c = some (lst ys n') → NatsAre ys (inDoc D (foundN D way T pos ns)) → Q (.ref c) s') :
    wpAny (model prog w) A (call (.ref 218) [.ref t, .ref a, .ref sa, nv, .ref vf]) Q E s := by
  have ha0 := hideAll_get (X.map (·.1)) ha haX
  refine enterX X Y.f_after_step C.hide r ["tree", "nodes", "step", "names", "value_of"] hXs hXn (fun L s₁ F => ?_)
  have r' := r.deeper (envF "after_step" (stmtAt 31) L 218)
  have hxl := hx.length
  generalize hb : hideAll s.heap (X.map (·.1)) = base at F C Tt hT ha0 hS V
  have bnd : ∀ j, (foundN D way T pos (ns.take j)).length ≤ 512 := fun j => by
    have h1 := flat_le (D := D) (f := stepN D way T pos) (B := D.length) (ns.take j) fun b hb => stepN_len P (hnl b (List.mem_of_mem_take hb))
    have h2 : (ns.take j).length ≤ 8 := by rw [List.length_take]; omega
    have h3 : (ns.take j).length * D.length ≤ 8 * 64 := Nat.mul_le_mul h2 (by omega)
    unfold foundN; omega
  refine S_asg (E_list (newL F fun f s₂ F => stL F (fun s₃ F => ?_)))
  refine S_for_list r'.h (fun j m own => ∃ n1 ys, own = (f, lst ys n1) :: X ∧ NatsAre ys (foundN D way T pos (ns.take j)) ∧ m "tree" = some (.ref t) ∧ m "step" = some (.ref sa) ∧ m "names" = some nv ∧ m "value_of" = some (.ref vf) ∧ m "found" = some (.ref f)) ha0
    (nmL F (put_ne rfl) ⟨rfl, _, _, F, 0, [], rfl, .nil, put_ne rfl, put_ne rfl, put_ne rfl, put_ne rfl, put_same⟩) (fun j v m own o I s₄ hv hI F => ?_) fun m own s₄ hI F => ?_
  · obtain ⟨n1, ys, rfl, hy, m1, m2, m3, m4, m5⟩ := hI
    obtain ⟨x, tx, rfl, hxj⟩ := hx.at hv
    have hxD := hnl x (List.mem_of_getElem? hxj)
    have hyl := hy.length
    have hbj := bnd j
    refine S_exp (E_methB PySem.F.plainAttrs_list PySem.F.slot_list_extend PySem.F.type_list_extend (nmL F (put_ne m5) ⟨typeL (F.at 0 rfl), noD (F.at 0 rfl), E_fn Y.f_step_from (F.cx C) Y.n_step_from (nmL F (put_ne m1) (nmL F put_same (nmL F (put_ne m2) (nmL F (put_ne m3) (nmL F (put_ne m4) ⟨F.cx C, ?_⟩)))))⟩))
    refine step_from_spec Y (F.cx C) (r'.mono (by omega)) (hT.keeps F.keep) P hxD hw (hS.keeps F.keep) hp1 (V.keeps F.keep) fun c zs nz s₅ p hc hz => ?_
    have F := F.pur p
    have hzl := hz.length
    have hsl := stepN_len (way := way) (T := T) (pos := pos) P hxD
    refine l_extend F 0 rfl hc (by omega) (by omega) fun n2 s₆ F => S_nil ⟨_, (f, lst (ys ++ zs) n2) :: X, ⟨n2, ys ++ zs, rfl, ?_, put_ne m1, put_ne m2, put_ne m3, put_ne m4, put_ne m5⟩, F⟩
    rw [take_snoc hxj]
    unfold foundN at hy ⊢
    rw [List.flatMap_append, List.flatMap_cons, List.flatMap_nil, List.append_nil]
    exact hy.append hz
  · obtain ⟨n1, ys, rfl, hy, m1, m2, m3, m4, m5⟩ := hI
    have hbl := bnd xs.length
    rw [List.take_of_length_le (by omega)] at hy hbl
    have hyl := hy.length
    refine S_ret (E_fn Y.f_in_order (F.cx C) Y.n_in_order (nmL F m1 (E_fn Y.f_unlike (F.cx C) Y.n_unlike (nmL F m5 ⟨F.cx C, ?_⟩))))
    refine unlike_spec Y (F.cx C) (r'.mono (by omega)) (F.at 0 rfl) hy (by omega) fun v s₅ p hn => ?_
    obtain ⟨c, zs, nz, rfl, hn, hc, hz⟩ := hn
    have F := F.add p hn hc
    have F : Fm base L m ([(c, lst zs nz), (f, lst ys n1)] ++ X) s.gens s.os s₅ := F
    have hu : ∀ x ∈ uniq (foundN D way T pos ns), x < D.length := fun x hx => by
      have := mem_uniq.mp hx
      unfold foundN at this
      obtain ⟨y, hy, hxy⟩ := List.mem_flatMap.mp this
      exact stepN_lt P (hnl y hy) x hxy
    refine ⟨F.cx C, ?_⟩
    refine in_order_spec Y (C.keeps F.hid) (Tt.keeps F.hid) (r'.mono (by omega)) hX F.hasX F.ndX (hT.keeps F.hid) P (F.at 0 rfl) (F.apart (o := lst zs nz) (.head _)) hz nodup_uniq hu hD fun c1 ys1 n1' s₆ X' p hX' hc1 hget hys1 => ?_
    rw [inDoc_uniq] at hys1
    have F2 := F.swap p
    exact ret c1 ys1 n1' _ X' (by subst hb; exact Fm.backX F2) hX' hc1 hget hys1
end
end Mine

end NH_part
section LA_part
set_option maxHeartbeats 1000000
namespace Mine
open PySem PySem.W PySem.Calls PySem.Spec PyProof.Rows

/-- an object that is a list of xs -/
noncomputable def LO (o : Obj) (xs : List Value) : Prop := o.cls = .type "list" ∧ ∃ n, o.data = .seq xs.toArray n
theorem LO.lst {xs : List Value} {n : Nat} : LO (lst xs n) xs := ⟨rfl, n, rfl⟩
theorem LO.is {o : Obj} {xs : List Value} {h : Heap} {l : Addr} (x : LO o xs) (e : h.get? l = some o) : h.IsList l xs.toArray := ⟨o, e, x.1, x.2⟩

section
variable {prog : Program} {w : World} {A : Around} {E : Value → Shared → Prop} {s : Shared} {env : Env} {K : Frag} {h₀ : Heap} {L : Addr} {m : Str → Option Value} {own : Led} {G : Array GenState} {O : OsState} {hp : Heap}
theorem sub_o {value slice : Expr} {l : Addr} {o : Obj} {xs : List Value} {k : Int} {t : Tok} {v : Value} {Q : Value → Shared → Prop} (e : hp.get? l = some o) (ho : LO o xs) (h0 : 0 ≤ k) (hk : k < 2 ^ 63) (hx : xs[k.toNat]? = some v) (h : Q v s) (hh : s.heap = hp := by rfl)
    (hs : subscripted slice false (.ref l) (.int k t) = operate [.ref l, .int k t] (getItem (.ref l) (.int k t)) := by with_unfolding_all rfl) :
    wpAny (model prog w) A (subscriptTail value slice (.ref l) (.int k t)) Q NR s :=
  by subst hh; exact tail_any (ho.is e).typeIs slot_list_getitem.lookup (wpAny_getItem_list (ho.is e) h0 hk (by simpa using hx) h) hs
theorem set_o {l : Addr} {o : Obj} {xs : List Value} {k : Nat} {t : Tok} {v : Value} {Q : Unit → Shared → Prop} (F : Fm h₀ L m own G O s) (i : Nat) (hi : own[i]? = some (l, o)) (ho : LO o xs) (hk : k < xs.length) (hsz : xs.length ≤ 1000)
    (h : ∀ o' s', LO o' (xs.set k v) → Fm h₀ L m (own.set i (l, o')) G O s' → Q () s') : wpAny (model prog w) A (setItem (.ref l) (.int (k : Nat) t) v) Q NR s := by
  refine wpAny_setItem_list (ho.is (F.at i hi)) (by omega) (by omega) (by rw [List.size_toArray]; omega) fun h' hl hs => ?_
  obtain ⟨o', ho', hc, n, hd⟩ := hl
  refine h o' _ ⟨hc, n, ?_⟩ (F.set (t := s.toks) i hi hs ho')
  rw [hd]; simp
/-- max of two numbers -/
theorem max2 {a b : Int} {ta tb : Tok} {Q : Value → Shared → Prop} (hh : A.handled = none) (h : ∀ (g : Int) t s', Pur s s' → a ≤ g → b ≤ g → (g = a ∨ g = b) → Q (.int g t) s') : wpAny (model prog w) A (call (.builtin "max") [.int a ta, .int b tb]) Q NR s := by
  have hT : (s.heap.push { cls := .type "tuple", data := .seq #[.int a ta, .int b tb] }).IsTuple s.heap.objs.size #[.int a ta, .int b tb] := ⟨_, Heap.get?_push_size _ rfl, rfl, 0, rfl⟩
  refine call_max_two (wpAny_pyIter_tuple hT ?_)
  have hsz : (s.heap.push { cls := .type "tuple", data := .seq #[.int a ta, .int b tb] }).objs.size = s.heap.objs.size + 1 := Heap.size_push ..
  refine ⟨_, [_, s.heap.objs.size], [_], _, _, _, _, rfl, Walks.tuple (A := A.in1) hh _ s.heap.objs.size (by rw [hsz]; exact Nat.ne_of_lt (Nat.lt_succ_self _)) #[.int a ta, .int b tb],
    ⟨⟨_, Heap.get?_push_size _ rfl, rfl, rfl⟩, hT.push _⟩, fun c hc => ?_, by simp, CmpOf.ints_gt (fun i => if i = 0 then a else b) (fun i v hv => ?_), fun v h' tk hP hk => ?_⟩
  · show c < ((s.heap.push _).push _).objs.size
    rw [Heap.size_push, hsz]
    rcases List.mem_cons.mp hc with rfl | hc
    · rw [hsz]; exact Nat.lt_succ_self _
    · rcases List.mem_cons.mp hc with rfl | hc
      · exact Nat.lt_succ_of_lt (Nat.lt_succ_self _)
      · cases hc
  · match i, hv with
    | 0, hv => simp at hv; exact ⟨ta, by rw [if_pos rfl]; exact hv.symm⟩
    | 1, hv => simp at hv; exact ⟨tb, by rw [if_neg (by omega)]; exact hv.symm⟩
    | i + 2, hv => simp at hv
  · have hold : ∀ c o, s.heap.get? c = some o → h'.get? c = some o := fun c o e => by
      refine hk c o (fun hm => ?_) (Heap.get?_push_of_some _ (Heap.get?_push_of_some _ e))
      rcases List.mem_cons.mp hm with e1 | hm
      · have := Heap.lt_size e; rw [e1, hsz] at this; exact Nat.lt_irrefl _ (Nat.lt_of_succ_lt this)
      · cases hm
    by_cases hab : a < b
    · have hv : v = .int b tb := by simp [argBest, hab] at hP; exact hP.symm
      rw [hv]; exact h b tb _ ⟨hold, rfl, rfl⟩ (by omega) (by omega) (.inr rfl)
    · have hv : v = .int a ta := by simp [argBest, hab] at hP; exact hP.symm
      rw [hv]; exact h a ta _ ⟨hold, rfl, rfl⟩ (by omega) (by omega) (.inl rfl)
end

/-- the source of the draws -/
noncomputable def SrcO (o : Obj) : Prop := ∃ a b ta tb, LO o [.int a ta, .int b tb] ∧ 0 ≤ a ∧ 0 ≤ b
section
variable {prog : Program} {w : World} {A : Around} {E : Value → Shared → Prop} {s : Shared} {env : Env} {K : Frag} {hp : Heap} {tk : Tok} {Q : Value → Shared → Prop}
theorem take_spec {src : Addr} {o : Obj} {n : Nat} (Y : Lay K) (C : Cx K (hideAll s.heap [src])) (r : Rm A 1) (ho : s.heap.get? src = some o) (hS : SrcO o) (hn : 0 < n) (hn2 : n < 1000)
    (ret : ∀ (d : Nat) u o' s', PurX [(src, o)] [(src, o')] s s' → SrcO o' → d < n → Q (.int (d : Int) u) s') :
    wpAny (model prog w) A (call (.ref 476) [.ref src, .int (n : Int) tk]) Q E s := by
  refine enterX [(src, o)] Y.f_law_take C.hide r ["source", "top"] (fun p hp => by rw [List.mem_singleton.mp hp]; exact ho) (by simp) (fun L s₁ F => ?_)
  obtain ⟨a, b, ta, tb, hlo, ha, hb⟩ := hS
  refine S_if (T_cmp (E_sub (nmL F rfl (E_int (sub_o ((F.tok _).at 0 rfl) hlo (by decide) (by decide) rfl (E_int (cmp_gt (tr_bool ?_))))))))
  have F := (F.tok (s₁.toks + 1)).tok (s₁.toks + 1 + 1)
  have hnn : (n : Int) ≠ 0 := by omega
  by_cases hpos : 0 < a
  · rw [decide_eq_true (by omega)]
    refine S_asg (E_bin (E_sub (nmL F rfl (E_int (sub_o ((F.tok _).at 0 rfl) hlo (by decide) (by decide) rfl (nmL (F.tok _) rfl (PyProof.Rows.mod_int hnn ?_)))))))
    have F := (F.tok (s₁.toks + 1 + 1 + 1)).tok (s₁.toks + 1 + 1 + 1 + 1)
    refine stL F (fun s₂ F => ?_)
    refine S_put (E_bin (E_sub (nmL F (put_ne rfl) (E_int (sub_o ((F.tok _).at 0 rfl) hlo (by decide) (by decide) rfl (nmL (F.tok _) (put_ne rfl) (PyProof.Rows.floordiv_int hnn ?_ (.inl (PyProof.noPylong_small (by omega)))))))))) 
    have F := (F.tok (s₂.toks + 1)).tok (s₂.toks + 1 + 1)
    refine nmL F (put_ne rfl) (E_int (set_o (k := 0) (F.tok _) 0 rfl hlo (by simp) (by simp) fun o' s₃ hlo' F => ?_))
    have hmod : a.fmod (n : Int) = ((a.toNat % n : Nat) : Int) := by
      rw [Int.fmod_eq_emod_of_nonneg _ (by omega)]
      have h := Int.toNat_of_nonneg ha
      calc a % (n : Int) = (a.toNat : Int) % n := by rw [h]
        _ = _ := by push_cast; rfl
    refine S_ret (nmL F put_same ?_)
    rw [hmod]
    refine ret _ _ o' _ (Fm.backX (own := []) F) ⟨_, b, _, tb, hlo', Int.fdiv_nonneg (by omega) (by omega), hb⟩ (Nat.mod_lt _ hn)
  · rw [decide_eq_false (by omega)]
    refine S_nil ?_
    refine S_put (E_bin (E_bin (E_bin (E_sub (nmL F rfl (E_int (sub_o ((F.tok _).at 0 rfl) hlo (by decide) (by decide) rfl ?_)))))))
    refine E_int (PyProof.Rows.mul_int ?_ (PySem.IntMulOk.of_right (by decide +kernel)))
    refine E_int (PyProof.Rows.add_int ?_)
    refine E_int (PyProof.Rows.mod_int (by decide) ?_)
    have e1 : (b * 39373 + 7).fmod 2147483647 = (b * 39373 + 7) % 2147483647 := Int.fmod_eq_emod_of_nonneg _ (by decide)
    rw [e1]
    have h1 : 0 ≤ (b * 39373 + 7) % 2147483647 := Int.emod_nonneg _ (by decide)
    have h2 : (b * 39373 + 7) % 2147483647 < 2147483647 := Int.emod_lt_of_pos _ (by decide)
    obtain ⟨b1, hb1⟩ : ∃ b1, b1 = (b * 39373 + 7) % 2147483647 := ⟨_, rfl⟩
    rw [← hb1] at h1 h2 ⊢
    refine nmL (F.tok _) rfl ?_
    refine E_int ?_
    refine set_o (k := 1) (F.tok _) 0 rfl hlo (by simp) (by simp) fun o' s₃ hlo' F => ?_
    refine S_ret (E_bin (E_bin (E_bin (E_bin (E_sub (nmL F rfl (E_int (sub_o ((F.tok _).at 0 rfl) hlo' (by decide) (by decide) rfl ?_)))))))) 
    refine E_sub (nmL (F.tok _) rfl (E_int (sub_o (((F.tok _).tok _).at 0 rfl) hlo' (by decide) (by decide) rfl ?_)))
    refine PyProof.Rows.mul_int ?_ (PySem.IntMulOk.of_right (PySem.intBits_le_64 (by omega) (by omega)))
    refine E_int (PyProof.Rows.mod_int (by decide) ?_)
    refine E_int (PyProof.Rows.floordiv_int (by decide) ?_ (.inl (PyProof.noPylong_small (by decide))))
    have h3 : 0 ≤ b1 * b1 := Int.mul_nonneg h1 h1
    obtain ⟨c0, hc0⟩ : ∃ c, c = b1 * b1 := ⟨_, rfl⟩
    rw [← hc0] at h3 ⊢
    have h4 : 0 ≤ c0.fmod 2147483629 := by rw [Int.fmod_eq_emod_of_nonneg _ (by decide)]; exact Int.emod_nonneg _ (by decide)
    obtain ⟨c1, hc1⟩ : ∃ c, c = c0.fmod 2147483629 := ⟨_, rfl⟩
    rw [← hc1] at h4 ⊢
    have h5 : 0 ≤ c1.fdiv 32 := Int.fdiv_nonneg h4 (by decide)
    obtain ⟨c, hc⟩ : ∃ c, c = c1.fdiv 32 := ⟨_, rfl⟩
    rw [← hc] at h5 ⊢
    refine nmL (F.tok _) rfl (PyProof.Rows.mod_int hnn ?_)
    have hmod : c.fmod (n : Int) = ((c.toNat % n : Nat) : Int) := by
      rw [Int.fmod_eq_emod_of_nonneg _ (by omega)]
      have h := Int.toNat_of_nonneg h5
      calc c % (n : Int) = (c.toNat : Int) % n := by rw [h]
        _ = _ := by push_cast; rfl
    rw [hmod]
    exact ret _ _ o' _ (Fm.backX (own := []) (F.tok _)) ⟨a, b1, ta, _, hlo', ha, h1⟩ (Nat.mod_lt _ hn)
end
end Mine

end LA_part
section LB_part
set_option maxHeartbeats 1000000
namespace Mine
open PySem PySem.W PySem.Calls PySem.Spec PyProof.Rows

section
variable {prog : Program} {w : World} {A : Around} {E : Value → Shared → Prop} {s : Shared} {env : Env} {K : Frag} {hp : Heap} {tk : Tok} {Q : Value → Shared → Prop}
theorem one_spec {src th : Addr} {o : Obj} {xs : List Value} {n : Nat} (Y : Lay K) (C : Cx K (hideAll s.heap [src])) (r : Rm A 3) (ho : s.heap.get? src = some o) (hS : SrcO o) (hth : s.heap.get? th = some (lst xs n)) (hne : th ≠ src) (h0 : 0 < xs.length) (h1 : xs.length < 1000)
    (ret : ∀ (d : Nat) v o' s', PurX [(src, o)] [(src, o')] s s' → SrcO o' → xs[d]? = some v → Q v s') :
    wpAny (model prog w) A (call (.ref 483) [.ref src, .ref th]) Q E s := by
  have hth0 := hideAll_get [src] hth (by simpa using hne)
  refine enterX [(src, o)] Y.f_law_one C.hide r ["source", "things"] (fun p hp => by rw [List.mem_singleton.mp hp]; exact ho) (by simp) (fun L s₁ F => ?_)
  have r' := r.deeper (envF "_law_one" (stmtAt 42) L 483)
  refine S_ret (E_sub (nmL F rfl (E_fn Y.f_law_take (F.cx C) Y.n_law_take (nmL F rfl (E_bi (F.cx C) Y.b_len bb_len (by simp) (nmL F rfl (len_l (F.keep _ _ hth0) (by omega) fun t s₂ p => ?_)) (by decide +kernel))))))
  have F := F.pur p
  have F : Fm _ L _ ([] ++ [(src, o)]) s.gens s.os s₂ := F
  refine ⟨F.cx C, take_spec Y (C.keeps F.hid) (r'.mono (by omega)) (F.at 0 rfl) hS h0 h1 fun d u o' s₃ p hS' hd => ?_⟩
  have F := F.swap p
  obtain ⟨v, hv⟩ : ∃ v, xs[d]? = some v := ⟨_, List.getElem?_eq_getElem hd⟩
  exact sub_l (F.keep _ _ hth0) (by omega) (by omega) hv (ret d v o' _ (Fm.backX F) hS' hv)
theorem pool_spec {a : Addr} {xs : List Value} {is : List Int} {o : Obj} (Y : Lay K) (C : Cx K hp) (r : Rm A 2) (ha : hp.get? a = some o) (hlo : LO o xs) (hx : IntsAre xs is) (hsz : xs.length ≤ 1000)
    (ret : ∀ c o s', Pur s s' → s.heap.get? c = none → s'.heap.get? c = some o → SrcO o → Q (.ref c) s') (hs : s.heap = hp := by rfl) :
    wpAny (model prog w) A (call (.ref 469) [.ref a]) Q E s := by
  subst hs
  refine enter0 Y.f_law_pool C r ["script"] (fun L s₁ F => ?_)
  have r' := r.deeper (envF "_law_pool" (stmtAt 40) L 469)
  have hlen : ∀ (Q' : Value → Shared → Prop), (∀ t s', Pur s₁ s' → Q' (.int xs.length t) s') → wpAny (model prog w) (A.deeper (envF "_law_pool" (stmtAt 40) L 469)) (call (.builtin "len") [.ref a]) Q' NR s₁ := fun Q' q => by
    refine call_len_list (hlo.is (F.keep _ _ ha)) (by simp; omega) ?_
    have := q (s₁.toks + 1) { s₁ with toks := s₁.toks + 1 + 1 } ((Pur.rfl' s₁).tok _)
    simpa using this
  refine S_asg (E_if (T_cmp (E_bi (F.cx C) Y.b_len bb_len (by simp) (nmL F rfl (hlen _ fun t s₂ p => ?_)) (by decide +kernel))))
  have F := F.pur p
  refine E_int (cmp_gt (tr_bool ?_))
  have F := F.tok (s₂.toks + 1)
  have main : ∀ (cell : Int) (tc : Tok) (s₃ : Shared), Fm s.heap L (look ((["script"] : List Str).zip [Value.ref a])) [] s.gens s.os s₃ → wpAny (model prog w) (A.deeper (envF "_law_pool" (stmtAt 40) L 469)) (storeName (envF "_law_pool" (stmtAt 40) L 469) "cell" (.int cell tc)) (fun _ s₂ => wpS (model prog w) (A.deeper (envF "_law_pool" (stmtAt 40) L 469)) ((fdBody (stmtAt 40)).drop 1) (envF "_law_pool" (stmtAt 40) L 469) (Q .none) Q s₂) NR s₃ := fun cell tc s₃ F => by
    refine stL F (fun s₄ F => ?_)
    refine S_asg (E_bi (F.cx C) Y.b_max bb_max (by simp) (nmL F put_same (E_bin (E_neg (nmL ((F.tok _).tok _) put_same (PyProof.Rows.sub_int (max2 r'.h fun g tg s₅ p h1 h2 h3 => ?_)))))) (by decide +kernel))
    have F := (((F.tok _).tok _).tok _).pur p
    have hg : 0 ≤ g := by omega
    refine stL F (fun s₆ F => ?_)
    refine S_ret (E_list (E_bin (nmL F put_same (E_bi (F.cx C) Y.b_int bb_int (by simp) (E_cmp (nmL F put_same (E_bin (E_int (E_int (PyProof.Rows.pow_int_small (by decide) (by decide) (by decide) (cmp_ge ?_))))))) (by decide +kernel)))))
    refine PySem.call_int_bool ?_
    refine PyProof.Rows.mul_int ?_ (PySem.IntMulOk.of_right (PySem.intBits_le_64 (by split <;> decide) (by split <;> decide)))
    refine E_bin (E_bin (E_bin (E_bin (nmL (F.tok _) put_same (E_int (PyProof.Rows.mod_int (by decide) (E_int (PyProof.Rows.add_int ?_))))))))
    refine E_int (PyProof.Rows.mul_int ?_ (PySem.IntMulOk.of_right (by decide +kernel)))
    refine E_int (PyProof.Rows.mod_int (by decide) ?_)
    refine newL (F.tok _) fun c s₇ F => ?_
    refine ret c (lst _ 0) _ F.back (F.new 0 rfl) (F.at 0 rfl) ⟨_, _, _, _, LO.lst, ?_, ?_⟩
    · split
      · rw [Int.mul_one]; exact hg
      · rw [Int.mul_zero]; exact Int.le_refl _
    · rw [Int.fmod_eq_emod_of_nonneg _ (by decide)]; exact Int.emod_nonneg _ (by decide)
  by_cases hl : 0 < xs.length
  · rw [decide_eq_true (by omega)]
    obtain ⟨z, hz⟩ : ∃ z, xs[0]? = some z := ⟨_, List.getElem?_eq_getElem hl⟩
    obtain ⟨c, tc, rfl, -⟩ := IntsAre.at hx 0 z hz
    exact E_sub (nmL F rfl (E_int (sub_o ((F.tok _).keep _ _ ha) hlo (by decide) (by decide) hz (main c tc _ (F.tok _)))))
  · rw [decide_eq_false (by omega)]
    exact E_int (main 0 _ _ (F.tok _))
end
end Mine

end LB_part
section LC_part
set_option maxHeartbeats 1000000
namespace Mine
open PySem PySem.W PySem.Calls PySem.Spec PyProof.Rows

/-- the law's own book of a document -/
structure BookIs (prog : Program) (w : World) (h : Heap) (b : Addr) (D : Doc) : Prop where
  lo : (b == sysModules) = false
  ex : ∃ o kvs, h.get? b = some o ∧ o.IsDictOf (intKind prog w) kvs ∧ keysN kvs (List.range D.length) ∧
    ∀ (i : Nat) (nd : Nd), D[i]? = some nd → ∃ a n v u, valueAt kvs (i : Int) = some (.ref a) ∧ h.get? a = some (tup [v, .str nd.w u] n) ∧ ParV v nd.par
theorem BookIs.keeps {prog : Program} {w : World} {h h' : Heap} {b : Addr} {D : Doc} (x : BookIs prog w h b D) (k : ∀ b o, h.get? b = some o → h'.get? b = some o) : BookIs prog w h' b D := by
  obtain ⟨lo, o, kvs, h1, h2, h3, h4⟩ := x
  refine ⟨lo, o, kvs, k _ _ h1, h2, h3, fun i nd hi => ?_⟩
  obtain ⟨a, n, v, u, e1, e2, e3⟩ := h4 i nd hi
  exact ⟨a, n, v, u, e1, k _ _ e2, e3⟩

section
variable {prog : Program} {w : World} {A : Around} {E : Value → Shared → Prop} {s : Shared} {env : Env} {K : Frag} {D : Doc} {hp : Heap} {i : Nat} {nd : Nd} {tk : Tok} {Q : Value → Shared → Prop}
/-- book[x] -/
theorem book_sub {b : Addr} {be ne : Expr} {p1 : Pos} (hB : BookIs prog w hp b D) (hi : D[i]? = some nd)
    (hb : ∀ Q' : Value → Shared → Prop, Q' (.ref b) s → wpE (model prog w) A be env Q' s) (hn : ∀ Q' : Value → Shared → Prop, Q' (.int (i : Int) tk) s → wpE (model prog w) A ne env Q' s)
    (h : ∀ a n v u, hp.get? a = some (tup [v, .str nd.w u] n) → ParV v nd.par → Q (.ref a) { s with toks := s.toks + 1 }) (hs : s.heap = hp := by rfl)
    (hs' : subscripted ne false (.ref b) (.int (i : Int) tk) = operate [.ref b, .int (i : Int) tk] (getItem (.ref b) (.int (i : Int) tk)) := by with_unfolding_all rfl) :
    wpE (model prog w) A (.Subscript be ne p1) env Q s := by
  subst hs
  obtain ⟨lo, o, kvs, h1, h2, h3, h4⟩ := hB
  obtain ⟨a, n, v, u, e1, e2, e3⟩ := h4 i nd hi
  exact E_sub (hb _ (hn _ (d_sub h1 h2 (isInt_n (t := tk)) e1 (h a n v u e2 e3) rfl hs')))
/-- book[x][0] -/
theorem book_par {b : Addr} {be ne : Expr} {p1 p2 p3 : Pos} {k : Nat} (hB : BookIs prog w hp b D) (hi : D[i]? = some nd)
    (hb : ∀ Q' : Value → Shared → Prop, Q' (.ref b) s → wpE (model prog w) A be env Q' s) (hn : ∀ Q' : Value → Shared → Prop, Q' (.int (i : Int) tk) s → wpE (model prog w) A ne env Q' s)
    (h : ∀ v t, ParV v nd.par → Q v { s with toks := t }) (hs : s.heap = hp := by rfl)
    (hs' : subscripted ne false (.ref b) (.int (i : Int) tk) = operate [.ref b, .int (i : Int) tk] (getItem (.ref b) (.int (i : Int) tk)) := by with_unfolding_all rfl) :
    wpE (model prog w) A (.Subscript (.Subscript be ne p1) (.Constant (.int 0) k p2) p3) env Q s := by
  subst hs
  exact E_sub (book_sub hB hi hb hn (fun a n v u e2 e3 => E_int (sub_t e2 (by decide) (by decide) rfl (h v _ e3))) rfl hs')
/-- book[x][1] -/
theorem book_word {b : Addr} {be ne : Expr} {p1 p2 p3 : Pos} {k : Nat} (hB : BookIs prog w hp b D) (hi : D[i]? = some nd)
    (hb : ∀ Q' : Value → Shared → Prop, Q' (.ref b) s → wpE (model prog w) A be env Q' s) (hn : ∀ Q' : Value → Shared → Prop, Q' (.int (i : Int) tk) s → wpE (model prog w) A ne env Q' s)
    (h : ∀ u t, Q (.str nd.w u) { s with toks := t }) (hs : s.heap = hp := by rfl)
    (hs' : subscripted ne false (.ref b) (.int (i : Int) tk) = operate [.ref b, .int (i : Int) tk] (getItem (.ref b) (.int (i : Int) tk)) := by with_unfolding_all rfl) :
    wpE (model prog w) A (.Subscript (.Subscript be ne p1) (.Constant (.int 1) k p2) p3) env Q s := by
  subst hs
  exact E_sub (book_sub hB hi hb hn (fun a n v u e2 e3 => E_int (sub_t e2 (by decide) (by decide) rfl (h u _))) rfl hs')

theorem law_above_spec {b : Addr} (Y : Lay K) (C : Cx K hp) (r : Rm A 2) (hB : BookIs prog w hp b D) (P : Pre D) (hi : i < D.length) (hD : D.length ≤ 64) (ret : ∀ v s', Pur s s' → NewN s s' v (above D i) → Q v s') (hs : s.heap = hp := by rfl) :
    wpAny (model prog w) A (call (.ref 507) [.ref b, .int i tk]) Q E s := by
  subst hs

  refine enter0 Y.f_law_above C r ["book", "node"] (fun L s₁ F => ?_)
  have r' := r.deeper (envF "_law_above" (stmtAt 46) L 507)
  have hal := above_len P.wf i
  refine S_asgT2 "found" "here" F r'.h (E_tup (E_list (newL F fun f s₂ F => book_par (hB.keeps F.keep) (List.getElem?_eq_getElem hi) (fun _ q => nmL F rfl q) (fun _ q => nmL F rfl q) fun v tv hv => ?_)))
  have F := F.tok tv
  refine newT F fun d s₆ F => ⟨d, _, _, 0, _, _, rfl, F, F.at 0 rfl, fun s₇ F => ?_⟩
  have F := F.cut 1
  refine S_while (fun k s' => ∃ (m : Str → Option Value) (n1 : Nat) (xs : List Value) (Fd : List Nat) (o : Option Nat) (v : Value), Fm s.heap L m [(f, lst xs n1)] s.gens s.os s' ∧ m "book" = some (.ref b) ∧ m "found" = some (.ref f) ∧ m "here" = some v ∧ ParV v o ∧
      NatsAre xs Fd ∧ (∀ x, o = some x → x < D.length) ∧ Fd ++ (match o with | none => [] | some x => x :: above D x) = above D i ∧ k = (match o with | none => 0 | some x => x + 1)) _
    ⟨_, 0, [], [], D[i].par, v, F, put_ne (put_ne rfl), put_same, put_ne put_same, hv, .nil, fun x hx => (par_lt P ((parOf_of (List.getElem?_eq_getElem hi)).trans hx)).2, ?_, rfl⟩ ?_
  · have hpo := parOf_of (List.getElem?_eq_getElem hi)
    cases hq : D[i].par with
    | none => exact (above_none (hpo.trans hq)).symm
    | some x => exact (above_some P.wf (hpo.trans hq)).symm
  rintro k s₈ ⟨m, n1, xs, Fd, o, v, F, m1, m2, m3, hv, hx, hlt, heq, rfl⟩
  refine T_cmp (nmL F m3 (E_none (cmp_isnot (tr_bool ?_))))
  cases o with
  | none =>
    cases hv
    refine S_ret (nmL F m2 ?_)
    have heq' : Fd = above D i := by simpa using heq
    exact ret _ _ F.back ⟨f, xs, n1, rfl, F.new 0 rfl, F.at 0 rfl, heq' ▸ hx⟩
  | some x =>
    obtain ⟨tx, rfl⟩ := hv
    have hxD := hlt x rfl
    have hlen1 : Fd.length + (above D x).length + 1 = (above D i).length := by rw [← heq]; simp; omega
    have hxl := hx.length
    refine S_exp (E_methB PySem.F.plainAttrs_list PySem.F.slot_list_append PySem.F.type_list_append (nmL F m2 ⟨typeL (F.at 0 rfl), noD (F.at 0 rfl), nmL F m3 (l_append F 0 rfl (by omega) fun n'' s₁₂ F => ?_)⟩))
    refine S_asg (book_par (hB.keeps F.keep) (List.getElem?_eq_getElem hxD) (fun _ q => nmL F m1 q) (fun _ q => nmL F m3 q) fun v' tv hv => ?_)
    have F := F.tok tv
    refine stL F (fun s₁₁ F => ?_)
    have hpo := parOf_of (List.getElem?_eq_getElem hxD)
    refine S_nil ⟨_, ?_, _, _, _, Fd ++ [x], D[x].par, v', F, put_ne m1, put_ne m2, put_same, hv, hx.snoc, fun y hy => (par_lt P (hpo.trans hy)).2, ?_, rfl⟩
    · cases hq : D[x].par with
      | none => exact Nat.succ_pos _
      | some y => exact Nat.succ_lt_succ (P.wf x y (hpo.trans hq))
    · rw [← heq]
      cases hq : D[x].par with
      | none => show (Fd ++ [x]) ++ [] = Fd ++ (x :: above D x); rw [above_none (hpo.trans hq)]; simp
      | some y => show (Fd ++ [x]) ++ (y :: above D y) = Fd ++ (x :: above D x); rw [above_some P.wf (hpo.trans hq)]; simp
end
end Mine

end LC_part
section LD_part
set_option maxHeartbeats 1000000
namespace Mine
open PySem PySem.W PySem.Calls PySem.Spec PyProof.Rows

theorem perm_sorted_eq : ∀ {xs ys : List Nat}, xs.Perm ys → xs.Pairwise (· ≤ ·) → ys.Pairwise (· < ·) → xs = ys := by
  intro xs ys hp hx hy
  have nd : xs.Pairwise (· ≠ ·) := hp.nodup_iff.mpr (hy.imp fun h => Nat.ne_of_lt h)
  exact eq_of_pw ((List.Pairwise.and hx nd).imp fun h => Nat.lt_of_le_of_ne h.1 h.2) hy fun x => hp.mem_iff
theorem keys_nats : ∀ (ys : List Value) (us : List Nat), ys.length = us.length → (∀ (j : Nat) (v : Value), ys[j]? = some v → ∃ u t, us[j]? = some u ∧ v = .int (u : Int) t) → NatsAre ys us
  | [], [], _, _ => .nil
  | [], _ :: _, h, _ => by cases h
  | _ :: _, [], h, _ => by cases h
  | y :: ys, u :: us, hl, hv => by
    obtain ⟨u', t, e1, rfl⟩ := hv 0 y rfl
    cases e1
    exact NatsAre.cons (keys_nats ys us (by simpa using hl) fun j v hj => hv (j + 1) v hj)

section
variable {prog : Program} {w : World} {A : Around} {E : Value → Shared → Prop} {s : Shared} {env : Env} {K : Frag} {D : Doc} {hp : Heap} {i : Nat} {nd : Nd} {tk : Tok} {Q : Value → Shared → Prop} {h₀ : Heap} {L : Addr} {m : Str → Option Value} {own : Led} {G : Array GenState} {O : OsState}
/-- sorted(book) -/
theorem sorted_book {b : Addr} (hh : A.handled = none) (F : Fm h₀ L m own G O s) (hB : BookIs prog w s.heap b D) (hD : D.length < 64)
    (done : ∀ c ys k s', Fm h₀ L m ((c, lst ys k) :: own) G O s' → NatsAre ys (List.range D.length) → Q (.ref c) s') : wpAny (model prog w) A (call (.builtin "sorted") [.ref b]) Q NR s := by
  obtain ⟨lo, o, kvs, h1, h2, h3, h4⟩ := hB
  obtain ⟨ep, hat⟩ := dAt h1 h2
  have hkl := h3.len
  rw [List.length_range] at hkl
  refine kdu_sorted (kdl_dict (knd := intKind prog w) (kvs := kvs) (ep := ep) lo) hh F.fr F.nw hat (by rw [sizeLine_eq]; omega) fun c h' tk' vs F' N' hlt hvl hkey => ?_
  have hvs : NatsAre vs (List.range D.length) := by
    refine keys_nats vs _ (by rw [List.length_range]; omega) fun j v hv => ?_
    obtain ⟨k, x, e, hkv⟩ := hkey j v hv
    have e3 : (kvs.map (·.1))[j]? = some k := by rw [List.getElem?_map, e]; rfl
    have hk' : kvs.map (·.1) = (List.range D.length).map Int.ofNat := h3
    rw [hk', List.getElem?_map] at e3
    obtain ⟨u, hu, rfl⟩ := Option.map_eq_some_iff.mp e3
    obtain ⟨t, rfl⟩ := Value.isInt_shape hkv
    exact ⟨u, t, hu, rfl⟩
  have hnd : (((c, lst vs 0) :: own).map (·.1)).Nodup := by
    rw [List.map_cons, List.nodup_cons]
    refine ⟨fun hm => ?_, F.nd⟩
    obtain ⟨q, hq, e⟩ := List.mem_map.mp hm
    have := hlt q hq
    rw [e] at this; exact Nat.lt_irrefl _ this
  have F1 : Fm h₀ L m ((c, lst vs 0) :: own) G O { s with heap := h', toks := tk' } := ⟨F', N', hnd, F.gens, F.os⟩
  have hc : h'.get? c = some (seqObj "list" vs.toArray 0) := F1.at 0 rfl
  refine wpAny_call_entry slot_list_sort ⟨_, hc, rfl⟩ entry_list_sort (list_sort_tree hc hvs (by omega) fun out ns' a1 a2 a3 => ⟨_, rfl, ?_⟩) (args_list_sort _)
  obtain ⟨e, he⟩ := sortedHeap_at (vs := vs) (out := out) hc
  obtain ⟨p1, p2⟩ := perm_nats a2
  have hpw : (ns'.map Int.toNat).Pairwise (· ≤ ·) := by
    rw [List.pairwise_map]
    refine a3.imp_of_mem fun {x y} hx hy hxy => ?_
    have hx' : (x.toNat : Int) = x := by obtain ⟨k, _, rfl⟩ := List.mem_map.mp (a2.mem_iff.mp hx); rfl
    have hy' : (y.toNat : Int) = y := by obtain ⟨k, _, rfl⟩ := List.mem_map.mp (a2.mem_iff.mp hy); rfl
    omega
  have heq := perm_sorted_eq p2 hpw (range_pw D.length)
  have F2 := F1.chg (a := c) (o := lst vs 0) (o' := seqObj "list" out e) (h' := sortedHeap h' c vs out) (t := tk') 0 rfl (fun b x hb hx => by rw [sortedHeap_old hb (Heap.lt_size hx)]; exact hx) he
  have e5 : (seqObj "list" out e) = lst out.toList e := by show _ = _; rw [lst, Array.toArray_toList]
  rw [e5] at F2
  refine done c out.toList e _ F2 ?_
  unfold NatsAre
  rw [← heq, ← p1]; exact a1
end
end Mine

end LD_part
section LE_part
set_option maxHeartbeats 1000000
namespace Mine
open PySem PySem.W PySem.Calls PySem.Spec PyProof.Rows

theorem drop_filter {i : Nat} : ∀ {l : List Nat}, l.Pairwise (· < ·) → i ∈ l → l.drop (l.idxOf i + 1) = l.filter (fun x => decide (i < x)) ∧ l.take (l.idxOf i) = l.filter (fun x => decide (x < i))
  | [], _, h => by cases h
  | a :: l, hl, h => by
    rw [List.pairwise_cons] at hl
    rw [List.idxOf_cons]
    by_cases e : a = i
    · subst e
      have h1 : l.filter (fun x => decide (a < x)) = l := by rw [List.filter_eq_self]; intro x hx; simpa using hl.1 x hx
      have h2 : l.filter (fun x => decide (x < a)) = [] := by rw [List.filter_eq_nil_iff]; intro x hx; have := hl.1 x hx; simp; omega
      rw [List.filter_cons, List.filter_cons, h1, h2]
      simp
    · have hi : i ∈ l := (List.mem_cons.mp h).resolve_left (fun q => e q.symm)
      have hlt := hl.1 i hi
      have hb : (a == i) = false := by simpa using e
      obtain ⟨h1, h2⟩ := drop_filter hl.2 hi
      rw [hb]
      simp only [cond_false, List.drop_succ_cons, List.take_succ_cons, List.filter_cons]
      rw [if_neg (by simp; omega), if_pos (by simpa using hlt), h1, h2]
      exact ⟨rfl, rfl⟩
noncomputable def besideP (D : Doc) (i x : Nat) : Bool := x != i && (parOf D x == parOf D i && i != 0)
theorem beside_eq {D : Doc} (P : Pre D) {i : Nat} (hi : i < D.length) : ((List.range D.length).filter (besideP D i)).filter (fun x => decide (i < x)) = behind D i ∧ (((List.range D.length).filter (besideP D i)).filter (fun x => decide (x < i))).reverse = ahead D i := by
  unfold behind ahead
  cases hp : parOf D i with
  | none =>
    have : i = 0 := root_only P hi hp
    subst this
    have e : (List.range D.length).filter (besideP D 0) = [] := by
      rw [List.filter_eq_nil_iff]; intro x _; simp [besideP]
    rw [e]; exact ⟨rfl, rfl⟩
  | some p =>
    have hne : i ≠ 0 := fun e => by rw [e, P.root] at hp; cases hp
    obtain ⟨h1, h2⟩ := drop_filter (kids_pw (D := D) (p := p)) (mem_kids.mpr ⟨hi, hp⟩)
    show _ = (kids D p).drop _ ∧ _ = ((kids D p).take _).reverse
    rw [h1, h2]
    unfold kids
    rw [List.filter_filter, List.filter_filter, List.filter_filter, List.filter_filter]
    constructor
    · apply List.filter_congr
      intro x _
      unfold besideP
      rw [hp]
      by_cases hx : i < x
      · have : x ≠ i := by omega
        rw [bne_iff_ne.mpr this, bne_iff_ne.mpr hne]; simp [hx]
      · simp [hx]
    · congr 1
      apply List.filter_congr
      intro x _
      unfold besideP
      rw [hp]
      by_cases hx : x < i
      · have : x ≠ i := by omega
        rw [bne_iff_ne.mpr this, bne_iff_ne.mpr hne]; simp [hx]
      · simp [hx]

section
variable {prog : Program} {w : World} {A : Around} {E : Value → Shared → Prop} {s : Shared} {env : Env} {K : Frag} {h₀ : Heap} {L : Addr} {m : Str → Option Value} {own : Led} {G : Array GenState} {O : OsState} {N : Shared → Prop} {R : Value → Shared → Prop} {rest : List Stmt} {m₁ : Str → Option Value} {own₁ : Led} {s₀ : Shared}
/-- what a test of a filter must tell -/
noncomputable abbrev FTest (prog : Program) (w : World) (A : Around) (env : Env) (scope : Scope) (cl : List (Str × Addr)) (ifs : List Expr) (x : Str) (G : Array GenState) (O : OsState) (s₁ : Shared) (ns : List Nat) (p : Nat → Bool) : Prop :=
  ∀ y ty m' (own' : Led) C s, y ∈ ns → Fm s₁.heap C (put m' x (.int (y : Nat) ty)) own' G O s →
    wpTs (model prog w) A ifs (compEnvC scope cl C env) (fun ok s' => ok = p y ∧ Fm s₁.heap C (put m' x (.int (y : Nat) ty)) own' G O s') s
theorem fturn {scope : Scope} {cl : List (Str × Addr)} {ifs : List Expr} {x : Str} {px : Pos} {s₁ : Shared} {xs : List Value} {ns : List Nat} {p : Nat → Bool} (hx : NatsAre xs ns) (T : FTest prog w A env scope cl ifs x G O s₁ ns p) (hk : scope.kind = .function) (hl : scope.names.lookup x = some .local) (hd : (x == ("__debug__" : Str)) = false) :
    CTurn prog w A env scope cl ifs (.Name x px) x G O s₁ (fun i v => xs[i]? = some v) (fun i ys => NatsAre ys ((ns.take i).filter p)) := by
  intro i v ys m' D k o C s hv hy F
  obtain ⟨y, ty, rfl, hyi⟩ := hx.at hv
  refine wpAny_mono (T y ty m' _ C s (List.mem_of_getElem? hyi) F) (fun ok s' h => ?_) fun _ _ x => x
  obtain ⟨rfl, F'⟩ := h
  have e : (ns.take (i + 1)).filter p = (ns.take i).filter p ++ (if p y then [y] else []) := by
    rw [take_snoc hyi, List.filter_append, List.filter_cons, List.filter_nil]
  cases hp : p y with
  | false =>
    rw [hp] at e
    exact ⟨by dsimp only; rw [e]; simpa using hy, _, F'⟩
  | true =>
    rw [hp] at e
    exact nmL F' put_same ⟨by dsimp only; rw [e]; exact hy.snoc, _, F'⟩ rfl (by simp [compEnvC, relabel, hk]) (lookup_relabel_local hl) hd
/-- [x for x in l if ..] -/
theorem E_filter {iter : Expr} {x : Str} {px px' : Pos} {ifs : List Expr} {scope : Scope} {pos : Pos} {Q : Value → Shared → Prop} (_F : Fm h₀ L m₁ own₁ G O s₀) (cl : List (Str × Addr)) (hh : A.handled = none)
    (h : wpE (model prog w) A iter env (fun xv s₁ => ∃ (l : Addr) (xs : List Value) (ns : List Nat) (n : Nat) (p : Nat → Bool) (own : Led) (m : Str → Option Value),
      xv = .ref l ∧ s₁.heap.get? l = some (lst xs n) ∧ NatsAre xs ns ∧ ns.length ≤ 1000 ∧ Fm h₀ L m own G O s₁ ∧ FTest prog w A env scope cl ifs x G O s₁ ns p ∧
      (∀ c ys k s', NatsAre ys (ns.filter p) → Fm h₀ L m ((c, lst ys k) :: own) G O s' → Q (.ref c) s')) s)
    (hclos : closureFor scope env = pure cl := by rfl) (hcell : ∀ z ∈ scope.names, z.2 ≠ .cell := by decide +kernel) (hkind : scope.kind = .function := by rfl)
    (hnames : ∀ z ∈ scope.names, z.2 = .local → scope.names.lookup z.1 = some .local := by decide +kernel) (hx : scope.names.lookup x = some .local := by rfl) (hd : (x == ("__debug__" : Str)) = false := by rfl)
    (hs : ∀ x, foldedSetIterable iter env x = pure x := by intro _; rfl) :
    wpE (model prog w) A (.ListComp (.Name x px') [⟨.Name x px, iter, ifs, 0⟩] scope pos) env Q s := by
  refine E_compL _F cl hh (wpAny_mono h (fun xv s₁ h₁ => ?_) fun _ _ x => x) hclos hcell hkind hnames hx hs
  obtain ⟨l, xs, ns, n, p, own, m, rfl, hl, hxs, hsz, F, T, done⟩ := h₁
  have hxl := hxs.length
  refine ⟨l, xs, n, fun i ys => NatsAre ys ((ns.take i).filter p), own, m, rfl, hl, by omega, F, .nil, fturn hxs T hkind hx hd, fun c ys k s' hy F' => done c ys k s' ?_ F'⟩
  dsimp only at hy
  rwa [List.take_of_length_le (by omega)] at hy
theorem S_asgF {iter : Expr} {x y : Str} {px px' py : Pos} {ifs : List Expr} {scope : Scope} {pos spos : Pos} (_F : Fm h₀ L m₁ own₁ G O s₀) (cl : List (Str × Addr)) (hh : A.handled = none)
    (h : wpE (model prog w) A iter env (fun xv s₁ => ∃ (l : Addr) (xs : List Value) (ns : List Nat) (n : Nat) (p : Nat → Bool) (own : Led) (m : Str → Option Value),
      xv = .ref l ∧ s₁.heap.get? l = some (lst xs n) ∧ NatsAre xs ns ∧ ns.length ≤ 1000 ∧ Fm h₀ L m own G O s₁ ∧ FTest prog w A env scope cl ifs x G O s₁ ns p ∧
      (∀ c ys k s', NatsAre ys (ns.filter p) → Fm h₀ L (put m y (.ref c)) ((c, lst ys k) :: own) G O s' → wpS (model prog w) A rest env N R s')) s)
    (hsw : swapsWith (.ListComp (.Name x px') [⟨.Name x px, iter, ifs, 0⟩] scope pos) (some (.Name y py)) spos.line env = pure true := by rfl)
    (hclos : closureFor scope env = pure cl := by rfl) (hcell : ∀ z ∈ scope.names, z.2 ≠ .cell := by decide +kernel) (hkind : scope.kind = .function := by rfl)
    (hnames : ∀ z ∈ scope.names, z.2 = .local → scope.names.lookup z.1 = some .local := by decide +kernel) (hx : scope.names.lookup x = some .local := by rfl) (hd : (x == ("__debug__" : Str)) = false := by rfl)
    (hL : env.locals = L := by rfl) (hk : env.scope.kind = .function := by rfl) (hy : env.kindOf y = some .local := by rfl)
    (hs : ∀ x, foldedSetIterable iter env x = pure x := by intro _; rfl) :
    wpS (model prog w) A (.Assign [.Name y py] (.ListComp (.Name x px') [⟨.Name x px, iter, ifs, 0⟩] scope pos) spos :: rest) env N R s := by
  refine S_asgCL _F cl hh (wpAny_mono h (fun xv s₁ h₁ => ?_) fun _ _ x => x) hsw hclos hcell hkind hnames hx hL hk hy hs
  obtain ⟨l, xs, ns, n, p, own, m, rfl, hl, hxs, hsz, F, T, done⟩ := h₁
  have hxl := hxs.length
  refine ⟨l, xs, n, fun i ys => NatsAre ys ((ns.take i).filter p), own, m, rfl, hl, by omega, F, .nil, fturn hxs T hkind hx hd, fun c ys k s' hy F' => done c ys k s' ?_ F'⟩
  dsimp only at hy
  rwa [List.take_of_length_le (by omega)] at hy
end
end Mine

end LE_part
section LF_part
set_option maxHeartbeats 1000000
namespace Mine
open PySem PySem.W PySem.Calls PySem.Spec PyProof.Rows

theorem along_child {D : Doc} {i : Nat} : along D "child" i = kids D i := by unfold along shortA; rw [if_pos rfl]; rfl
theorem along_self {D : Doc} {i : Nat} : along D "self" i = [i] := by unfold along shortA; rw [if_neg (by decide +kernel), if_pos rfl]; rfl
theorem along_parent {D : Doc} {i : Nat} : along D "parent" i = (parOf D i).toList := by unfold along shortA; rw [if_neg (by decide +kernel), if_neg (by decide +kernel), if_pos rfl]; rfl
theorem along_fs {D : Doc} {i : Nat} : along D "following-sibling" i = behind D i := by unfold along shortA; rw [if_neg (by decide +kernel), if_neg (by decide +kernel), if_neg (by decide +kernel), if_pos rfl]; rfl
theorem along_ps {D : Doc} {i : Nat} : along D "preceding-sibling" i = ahead D i := by unfold along shortA; rw [if_neg (by decide +kernel), if_neg (by decide +kernel), if_neg (by decide +kernel), if_neg (by decide +kernel), if_pos rfl]; rfl
theorem along_desc {D : Doc} {i : Nat} : along D "descendant" i = desc D i := by unfold along shortA; rw [if_neg (by decide +kernel), if_neg (by decide +kernel), if_neg (by decide +kernel), if_neg (by decide +kernel), if_neg (by decide +kernel), if_pos rfl]; rfl
theorem along_anc {D : Doc} {i : Nat} : along D "ancestor" i = above D i := by unfold along shortA; rw [if_neg (by decide +kernel), if_neg (by decide +kernel), if_neg (by decide +kernel), if_neg (by decide +kernel), if_neg (by decide +kernel), if_neg (by decide +kernel)]; rfl
theorem any_nat {l : List Nat} {i : Nat} : (l.map Int.ofNat).any (fun x => x == (i : Int)) = l.contains i := by
  induction l with
  | nil => rfl
  | cons a l ih =>
    rw [List.map_cons, List.any_cons, ih, List.contains_cons]
    congr 1
    by_cases h : a = i
    · subst h; simp
    · have h1 : (Int.ofNat a == (i : Int)) = false := by rw [beq_eq_false_iff_ne]; intro e; exact h (Int.ofNat.inj e)
      rw [h1]; symm; rw [beq_eq_false_iff_ne]; exact fun e => h e.symm
theorem above_take {D : Doc} (wf : Wf D) {i : Nat} : (above D i).take 1 = (parOf D i).toList := by
  cases h : parOf D i with
  | none => rw [above_none h]; rfl
  | some p => rw [above_some wf h]; rfl

section
variable {prog : Program} {w : World} {A : Around} {E : Value → Shared → Prop} {s : Shared} {env : Env} {K : Frag} {D : Doc} {hp : Heap} {i : Nat} {nd : Nd} {tk : Tok} {Q : Value → Shared → Prop}
/-- a parent told apart from a node -/
theorem par_eq {v : Value} {o : Option Nat} {t : Tok} (h : ParV v o) (q : Q (.bool (o == some i)) s) : wpAny (model prog w) A (compareOp .Eq v (.int (i : Int) t)) Q NR s := by
  cases o with
  | none => cases h; exact PySem.SeqAt.RcAt.none_int _ _ prog w NR Q q
  | some p =>
    obtain ⟨tp, rfl⟩ := h
    refine cmp_eq ?_
    have e : ((p : Int) == (i : Int)) = (some p == some i) := by
      by_cases hp : p = i
      · subst hp; simp
      · have h1 : ((p : Int) == (i : Int)) = false := by rw [beq_eq_false_iff_ne]; omega
        rw [h1]; symm; simpa using hp
    rw [e]; exact q
theorem par_eq2 {v v' : Value} {o o' : Option Nat} (h : ParV v o) (h' : ParV v' o') (hne : o ≠ none ∨ o' ≠ none) (q : Q (.bool (o == o')) s) : wpAny (model prog w) A (compareOp .Eq v v') Q NR s := by
  cases o' with
  | some p => obtain ⟨tp, rfl⟩ := h'; exact par_eq h q
  | none =>
    cases h'
    cases o with
    | none => exact absurd rfl (hne.elim id id)
    | some p => obtain ⟨tp, rfl⟩ := h; exact PySem.SeqAt.RcAt.int_none _ _ prog w NR Q q

theorem law_along_spec {b : Addr} {way : Str} {u : Tok} (Y : Lay K) (C : Cx K hp) (r : Rm A 4) (hB : BookIs prog w hp b D) (P : Pre D) (hi : i < D.length) (hD : D.length < 64) (hw : Way way)
    (ret : ∀ v s', Pur s s' → NewN s s' v (along D way i) → Q v s') (hs : s.heap = hp := by rfl) :
    wpAny (model prog w) A (call (.ref 512) [.ref b, .int i tk, .str way u]) Q E s := by
  subst hs
  refine enterC [] Y.f_law_along C r ["book", "node", "way"] (fun _ hp => nomatch hp) List.nodup_nil (fun L s₁ co hco F => ?_) (fun L => ?_)
  rotate_left
  · intro x hx
    rcases List.mem_cons.mp hx with rfl | hx
    · exact .inr ⟨rfl, rfl⟩
    rcases List.mem_cons.mp hx with rfl | hx
    · exact .inr ⟨rfl, rfl⟩
    rcases List.mem_cons.mp hx with rfl | hx
    · exact .inl rfl
    · cases hx
  have r' := r.deeper (envK "_law_along" (stmtAt 47) L 512)
  have cb : (co "book").data = .cell (some (.ref b)) := hco "book" _ rfl
  have cn : (co "node").data = .cell (some (.int i tk)) := hco "node" _ rfl
  have get : ∀ {j}, (h : j < D.length) → D[j]? = some D[j] := fun h => List.getElem?_eq_getElem h
  have hal := above_len P.wf i
  refine S_asg (E_bi (F.cx C) Y.b_sorted bb_sorted (by simp) (nmO (F.at 1 rfl) cb (sorted_book r'.h F (hB.keeps F.keep) hD fun sm zs kz s₂ F hz => ?_)) (by decide +kernel))
  have hzl := hz.length
  rw [List.length_range] at hzl
  refine stL F (fun s₃ F => ?_)
  have C1 := F.cx C
  refine S_if (T_bool (or_cons (T_cmp (nmL F (put_ne rfl) (E_str (cmp_eqs (tr_bool ?_)))))))
  have F := F.tok (s₃.toks + 1)
  by_cases e1 : way = "ancestor"
  · rw [show (way == ("ancestor" : Str)) = true from beq_iff_eq.mpr e1]
    subst e1
    refine S_ret (E_if (T_cmp (nmL F (put_ne rfl) (E_str (cmp_eqs (tr_bool ?_))))))
    rw [show ((("ancestor" : Str)) == ("parent" : Str)) = false from by decide +kernel]
    have F := F.tok (s₃.toks + 1 + 1)
    refine E_fn Y.f_law_above (F.cx C) Y.n_law_above (nmO (F.at 2 rfl) cb (nmO (F.at 1 rfl) cn ⟨F.cx C, ?_⟩))
    refine law_above_spec Y (F.cx C) (r'.mono (by omega)) (hB.keeps F.keep) P hi (by omega) fun v s₄ p hn => ?_
    obtain ⟨a, xs, n, rfl, hn, ha, hx⟩ := hn
    exact ret _ _ (F.back.trans p) ⟨a, xs, n, rfl, fresh_of F hn, ha, by rw [along_anc]; exact hx⟩
  rw [show (way == ("ancestor" : Str)) = false from beq_eq_false_iff_ne.mpr e1]
  refine or_cons (T_cmp (nmL F (put_ne rfl) (E_str (cmp_eqs (tr_bool ?_)))))
  have F := F.tok (s₃.toks + 1 + 1)
  by_cases e2 : way = "parent"
  · rw [show (way == ("parent" : Str)) = true from beq_iff_eq.mpr e2]
    subst e2
    refine S_ret (E_if (T_cmp (nmL F (put_ne rfl) (E_str (cmp_eqs (tr_bool ?_))))))
    rw [show ((("parent" : Str)) == ("parent" : Str)) = true from by decide +kernel]
    have F := F.tok (s₃.toks + 1 + 1 + 1)
    refine E_slice (E_fn Y.f_law_above (F.cx C) Y.n_law_above (nmO (F.at 2 rfl) cb (nmO (F.at 1 rfl) cn ⟨F.cx C, ?_⟩)))
    refine law_above_spec Y (F.cx C) (r'.mono (by omega)) (hB.keeps F.keep) P hi (by omega) fun v s₄ p hn => ?_
    obtain ⟨a, xs, n, rfl, hn, ha, hx⟩ := hn
    have F := F.add p hn ha
    have hxl := hx.length
    refine O_none (O_some (E_int (O_none ⟨a, xs, n, none, some ((1 : Nat) : Int), none, xs.take 1, rfl, (F.tok _).at 0 rfl, .none, .int _ _, .none, by decide, by omega, ?_, fun c s₅ p hn hc => ?_⟩)))
    · rw [slicePick_upto']
    · have F := F.tok s₅.toks
      exact ret _ _ ((F.back.tok _).trans p) ⟨c, _, 0, rfl, fresh_of (F.tok _) hn, hc, by rw [along_parent, ← above_take P.wf]; exact hx.take 1⟩
  rw [show (way == ("parent" : Str)) = false from beq_eq_false_iff_ne.mpr e2]
  refine or_nil (S_nil ?_)
  refine S_ifs F (put_ne rfl) (fun e s₄ F => ?_) fun e3 s₄ F => S_nil ?_
  · subst e
    refine S_ret (E_list (nmO (F.at 1 rfl) cn (newL F (fun a s₅ F => ?_))))
    exact ret _ _ F.back ⟨a, _, 0, rfl, F.new 0 rfl, F.at 0 rfl, by rw [along_self]; exact NatsAre.cons .nil⟩
  refine S_ifs F (put_ne rfl) (fun e s₅ F => ?_) fun e4 s₅ F => S_nil ?_
  · subst e
    refine S_ret (E_filter F [("node", L + 1 + 1), ("book", L + 1)] r'.h (nmL F put_same ⟨sm, zs, _, kz, fun x => parOf D x == some i, _, _, rfl, F.at 0 rfl, hz, by rw [List.length_range]; omega, F, ?_, fun c ys k s₆ hy F => ?_⟩))
    · intro y ty m' own' C' s₆ hy F'
      have hyD := List.mem_range.mp hy
      refine ts_one (T_cmp (book_par ((hB.keeps F.keep).keeps F'.keep) (get hyD) (fun _ q => nmO (F'.keep _ _ (F.at 2 rfl)) cb q) (fun _ q => nmL F' put_same q) fun v tv hv => ?_))
      refine nmO ((F'.tok tv).keep _ _ (F.at 1 rfl)) cn (par_eq hv (tr_bool ⟨?_, F'.tok tv⟩))
      dsimp only; rw [parOf_of (get hyD)]
    · exact ret _ _ F.back ⟨c, ys, k, rfl, F.new 0 rfl, F.at 0 rfl, by rw [along_child]; exact hy⟩
  refine S_ifs F (put_ne rfl) (fun e s₆ F => ?_) fun e5 s₆ F => S_nil ?_
  · subst e
    refine S_ret (E_filter F [("node", L + 1 + 1), ("book", L + 1)] r'.h (nmL F put_same ⟨sm, zs, _, kz, fun x => (above D x).contains i, _, _, rfl, F.at 0 rfl, hz, by rw [List.length_range]; omega, F, ?_, fun c ys k s₆ hy F => ?_⟩))
    · intro y ty m' own' C' s₇ hy F'
      have hyD := List.mem_range.mp hy
      refine ts_one (T_cmp (nmO (F'.keep _ _ (F.at 1 rfl)) cn (E_fn Y.f_law_above (F'.cx (F.cx C)) Y.n_law_above (nmO (F'.keep _ _ (F.at 2 rfl)) cb (nmL F' put_same ⟨F'.cx (F.cx C), ?_⟩)))))
      refine law_above_spec Y (F'.cx (F.cx C)) (r'.mono (by omega)) ((hB.keeps F.keep).keeps F'.keep) P hyD (by omega) fun v s₈ p hn => ?_
      obtain ⟨a, xs, n, rfl, hn, ha, hx⟩ := hn
      have F' := F'.pur p
      refine in_list_ints (isL ha) hx ?_
      exact tr_bool ⟨any_nat, F'⟩
    · exact ret _ _ F.back ⟨c, ys, k, rfl, F.new 0 rfl, F.at 0 rfl, by rw [along_desc, desc_filter P]; exact hy⟩
  have hbl := List.length_filter_le (besideP D i) (List.range D.length)
  rw [List.length_range] at hbl
  refine S_asgF F [("node", L + 1 + 1), ("book", L + 1)] r'.h (nmL F put_same ⟨sm, zs, _, kz, besideP D i, _, _, rfl, F.at 0 rfl, hz, by rw [List.length_range]; omega, F, ?_, fun bs ws kb s₇ hbs F => ?_⟩)
  · intro y ty m' own' C' s₇ hy F'
    have hyD := List.mem_range.mp hy
    refine ts_one (T_bool (and_cons (T_cmp (nmL F' put_same (nmO (F'.keep _ _ (F.at 1 rfl)) cn (cmp_ne (tr_bool ?_)))))))
    have eb : ((y : Int) != (i : Int)) = (y != i) := by
      by_cases h : y = i
      · subst h; simp
      · rw [bne_iff_ne.mpr h, bne_iff_ne.mpr (by omega)]
    rw [eb]
    by_cases h : y = i
    · subst h
      rw [show (y != y) = false from by simp]
      exact ⟨by unfold besideP; simp, F'⟩
    rw [bne_iff_ne.mpr h]
    refine and_cons (T_cmp (book_par ((hB.keeps F.keep).keeps F'.keep) (get hyD) (fun _ q => nmO (F'.keep _ _ (F.at 2 rfl)) cb q) (fun _ q => nmL F' put_same q) fun v tv hv => ?_))
    have F' := F'.tok tv
    refine book_par ((hB.keeps F.keep).keeps F'.keep) (get hi) (fun _ q => nmO (F'.keep _ _ (F.at 2 rfl)) cb q) (fun _ q => nmO (F'.keep _ _ (F.at 1 rfl)) cn q) fun v' tv' hv' => ?_
    have F' := F'.tok tv'
    have hno : D[y].par ≠ none ∨ D[i].par ≠ none := by
      by_cases h0 : D[y].par = none
      · refine .inr fun h1 => h ?_
        rw [root_only P hyD ((parOf_of (get hyD)).trans h0), root_only P hi ((parOf_of (get hi)).trans h1)]
      · exact .inl h0
    refine par_eq2 hv hv' hno (tr_bool ?_)
    rw [← parOf_of (get hyD), ← parOf_of (get hi)]
    cases hpe : parOf D y == parOf D i with
    | false => exact ⟨by unfold besideP; rw [hpe]; simp, F'⟩
    | true =>
      refine and_cons (T_cmp (nmO (F'.keep _ _ (F.at 1 rfl)) cn (E_int (cmp_ne (tr_bool ?_)))))
      have ez : ((i : Int) != (0 : Int)) = (i != 0) := by
        by_cases h : i = 0
        · subst h; rfl
        · rw [bne_iff_ne.mpr h, bne_iff_ne.mpr (by omega)]
      rw [ez]
      cases hi0 : i != 0 with
      | false => exact ⟨by unfold besideP; rw [hpe, hi0]; simp, F'.tok _⟩
      | true => exact and_nil ⟨by unfold besideP; rw [hpe, hi0, bne_iff_ne.mpr h]; rfl, F'.tok _⟩
  obtain ⟨hb1, hb2⟩ := beside_eq P hi
  refine S_ifs F (put_ne (put_ne rfl)) (fun e s₈ F => ?_) fun e6 s₈ F => S_nil ?_
  · subst e
    refine S_ret (E_filter F [("node", L + 1 + 1)] r'.h (nmL F put_same ⟨bs, ws, _, kb, fun x => decide (i < x), _, _, rfl, F.at 0 rfl, hbs, by omega, F, ?_, fun c ys k s₉ hy F => ?_⟩))
    · intro y ty m' own' C' s₉ hy F'
      refine ts_one (T_cmp (nmL F' put_same (nmO (F'.keep _ _ (F.at 2 rfl)) cn (cmp_gt (tr_bool ⟨?_, F'⟩)))))
      simp
    · exact ret _ _ F.back ⟨c, ys, k, rfl, F.new 0 rfl, F.at 0 rfl, by rw [along_fs, ← hb1]; exact hy⟩
  · have e7 : way = "preceding-sibling" := by
      rcases hw with rfl | rfl | rfl | rfl | rfl | rfl | rfl
      · exact absurd rfl e4
      · exact absurd rfl e2
      · exact absurd rfl e3
      · exact absurd rfl e5
      · exact absurd rfl e1
      · exact absurd rfl e6
      · rfl
    subst e7
    refine S_ret (E_rev (E_filter F [("node", L + 1 + 1)] r'.h (nmL F put_same ⟨bs, ws, _, kb, fun x => decide (x < i), _, _, rfl, F.at 0 rfl, hbs, by omega, F, ?_, fun c ys k s₉ hy F => ?_⟩)))
    · intro y ty m' own' C' s₉ hy F'
      refine ts_one (T_cmp (nmL F' put_same (nmO (F'.keep _ _ (F.at 2 rfl)) cn (cmp_lt (tr_bool ⟨?_, F'⟩)))))
      simp
    · have hyl := hy.length
      have hfl := List.length_filter_le (fun x => decide (x < i)) ((List.range D.length).filter (besideP D i))
      refine E_neg ⟨c, ys, k, _, rfl, rfl, F.at 0 rfl, by omega, fun c2 s₁₀ p hn hc => ?_⟩
      have F := F.tok s₁₀.toks
      exact ret _ _ ((F.back.tok _).trans p) ⟨c2, _, 0, rfl, fresh_of (F.tok _) hn, hc, by rw [along_ps, ← hb2]; exact hy.reverse⟩
end
end Mine

end LF_part
section LG_part
set_option maxHeartbeats 1000000
namespace Mine
open PySem PySem.W PySem.Calls PySem.Spec PyProof.Rows

theorem made_weight (c : Addr) (v : List Value) : (Code.builtin "type.__call__" ⟨.ref c :: v, []⟩).weight ≤ 2 := by
  have h1 : (Code.builtin "type.__call__" ⟨.ref c :: v, []⟩).frames = 0 := rfl
  have h2 : (Code.builtin "type.__call__" ⟨.ref c :: v, []⟩).isGuard = false := by
    show guardIds.contains "type.__call__" = false
    decide +kernel
  have h3 : (Code.builtin "type.__call__" ⟨.ref c :: v, []⟩).isCaller = false := rfl
  unfold Code.weight
  rw [h1, h2, h3]
  split <;> simp
theorem made_units (c : Addr) (v : List Value) : (Code.builtin "type.__call__" ⟨.ref c :: v, []⟩).cUnits ≤ 3 := by
  have h1 : (Code.builtin "type.__call__" ⟨.ref c :: v, []⟩).frames = 0 := rfl
  show 1 + 3 * (Code.builtin "type.__call__" ⟨.ref c :: v, []⟩).frames ≤ 3
  rw [h1]; decide
theorem Rm.made {A : Around} {n : Nat} (r : Rm A (n + 2)) (c : Addr) (v : List Value) : Rm (A.under (.builtin "type.__call__" ⟨.ref c :: v, []⟩)) n :=
  ⟨by show A.depth + _ + n < 900; have := r.d; have := made_weight c v; omega, by show A.units + _ + 8 * n < 9000; have := r.u; have := made_units c v; omega, r.h⟩

section
variable {prog : Program} {w : World} {A : Around} {E : Value → Shared → Prop} {s : Shared} {env : Env} {K : Frag} {h₀ : Heap} {L : Addr} {m : Str → Option Value} {own : Led} {G : Array GenState} {O : OsState} {N : Shared → Prop} {R : Value → Shared → Prop} {rest : List Stmt} {f : Addr} {qual : Str} {st : Stmt} {n : Nat}
/-- an __init__ entered -/
theorem enterI {vals : List Value} {x : Addr} {Q : Value → Shared → Prop} (X : Led) (H : IsFn K f qual st) (C : Cx K s.heap) (r : Rm A (n + 1)) (ns : List Str)
    (hX : ∀ p ∈ X, s.heap.get? p.1 = some p.2) (ndX : (X.map (·.1)).Nodup)
    (h : ∀ L s', Fm (hideAll s.heap (X.map (·.1))) L (look (ns.zip vals)) X s.gens s.os s' →
      wpS (model prog w) (A.deeper (envF qual st L f)) (fdBody st) (envF qual st L f) (fun s' => Q (.ref x) s') (fun _ _ => False) s')
    (hbind : ∀ nm pm, bindArgs (fnX' nm qual st pm f) ⟨vals, []⟩ = pure (ns.zip vals) := by intros; rfl)
    (hnd : ns.Nodup := by decide +kernel)
    (hloc : (ns.all fun x => decide ((fdScope st).names.lookup x = some .local)) = true := by rfl)
    (hcell : ∀ x ∈ (fdScope st).names, x.2 ≠ .cell := by decide +kernel)
    (hco : (fdScope st).isCoroutine = false := by rfl) (hgen : (fdScope st).isGenerator = false := by rfl) (hk : (fdScope st).kind = .function := by rfl) :
    codeAny (model prog w) A (.call (.ref f) ⟨vals, []⟩) (InitBack x fun r s' => match r with | .ok (.ret v) => Q v s' | .ok _ => False | .error e => E e s') s := by
  obtain ⟨⟨nm, pm, od, sl, hf⟩, hcd⟩ := H
  refine codeAny_call_def (fd := fnX' nm qual st pm f) (body := fdBody st) (binds := ns.zip vals) r.room (C.X _ _ hf) rfl C.lim (codeRec_of C.X hcd) rfl
    (BindsTo.of_eq (hbind nm pm)) hcell (fun x hx => ?_) (fun h₁ hns hk₁ => ?_) hco hgen hk
  · obtain ⟨a, b⟩ := x
    exact of_decide_eq_true (List.all_eq_true.mp hloc a (List.of_mem_zip hx).1)
  · have e : (fun x => (ns.zip vals).reverse.lookup x) = look (ns.zip vals) := funext fun x => lookup_rev (hnd.sublist zip_sub) x
    rw [e] at hns
    have F : Fm (hideAll s.heap (X.map (·.1))) s.heap.objs.size (look (ns.zip vals)) X s.gens s.os { s with heap := h₁, toks := s.toks + (ns.zip vals).length } :=
      ⟨⟨hns, fun b o e => hk₁ b o (of_hideAll _ e), Nat.le_of_eq (hideAll_size _ _)⟩,
        fun p hp => ⟨hk₁ _ _ (hX p hp), Nat.ne_of_lt (Heap.lt_size (hX p hp)), hideAll_none _ (List.mem_map_of_mem hp)⟩, ndX, rfl, rfl⟩
    refine wpAny_mono (h _ _ F) (fun fl s' x => ?_) fun _ _ x => x.elim
    cases fl with
    | next => exact ⟨rfl, x⟩
    | ret v => exact x.elim
    | brk => exact x.elim
    | cont => exact x.elim
/-- self.x = v -/
theorem S_attr {oe value : Expr} {attr : Str} {pos' pos : Pos} (h : wpE (model prog w) A value env (fun v s₁ => wpE (model prog w) A oe env (fun ov s₂ => wpAny (model prog w) A (setAttr ov attr v) (fun _ s₃ => wpS (model prog w) A rest env N R s₃) NR s₂) s₁) s)
    (hs : swapsWith value (some (.Attribute oe attr pos')) pos.line env = pure false := by rfl) : wpS (model prog w) A (.Assign [.Attribute oe attr pos'] value pos :: rest) env N R s :=
  S_cons (plainObj_wpAny_Assign_Attribute h hs)
theorem set_fld {C x dx : Addr} {es : List DictEntry} {nn : Nat} {name : Str} {v : Value} {Q : Unit → Shared → Prop} {hp : Heap} (Cx' : Cx K hp) (cf : ClsF K C) (hn : findIn K (.ref C) name = some none) (F : Fm h₀ L m own G O s) (i j : Nat) (hi : own[i]? = some (x, instObj C dx)) (hj : own[j]? = some (dx, dictOf es nn))
    (hl : (lookIn name (dictOf es nn)).isSome = true) (hz : (putL name (PyData.keyHash w.params name) (.str name (s.toks + 1)) v es).length ≤ 1000)
    (h : ∀ s', Fm h₀ L m (own.set j (dx, dictOf (putL name (PyData.keyHash w.params name) (.str name (s.toks + 1)) v es) (putN name es nn))) G O s' → Q () s') (hs : s.heap = hp := by rfl) :
    wpAny (model prog w) A (setAttr (.ref x) name v) Q NR s := by
  subst hs
  obtain ⟨cd, hcd, hdd⟩ := cf.cd
  have I : InstAt s.heap x (instObj C dx) C (some (dictOf es nn)) := ⟨F.at i hi, rfl, rfl, F.at j hj⟩
  refine set_plain Cx'.X I cf.sa ?_
  obtain ⟨hlt, hget⟩ := List.getElem?_eq_some_iff.mp hj
  have esplit : own = own.take j ++ (dx, dictOf es nn) :: own.drop (j + 1) := by
    rw [← hget, ← List.drop_eq_getElem_cons hlt, List.take_append_drop]
  have nd := F.nd
  rw [esplit, List.map_append, List.nodup_append, List.map_cons, List.nodup_cons] at nd
  have F1 := F.tok (s.toks + 1)
  have N1 : News h₀ L ({ s with toks := s.toks + 1 } : Shared).heap (own.take j ++ (dx, dictOf es nn) :: own.drop (j + 1)) := by rw [← esplit]; exact F.nw
  refine osa_dict (s := { s with toks := s.toks + 1 }) (od' := dictOf (putL name (PyData.keyHash w.params name) (.str name (s.toks + 1)) v es) (putN name es nn)) F1.fr N1 Cx'.X I rfl cf.po (by unfold takerIn; rw [hn]; rfl) (by rw [hcd]; exact hdd) hl
    (fun p hp e => nd.2.2 p.1 (List.mem_map_of_mem hp) dx (.head _) e) (fun p hp e => nd.2.1.1 (List.mem_map.mpr ⟨p, hp, e⟩)) (putName_dict _ _ _ _ _ _) rfl hz fun h' F' N' => ?_
  refine h _ ⟨F', ?_, ?_, F.gens, F.os⟩
  · have : own.set j (dx, dictOf (putL name (PyData.keyHash w.params name) (.str name (s.toks + 1)) v es) (putN name es nn)) = own.take j ++ (dx, dictOf (putL name (PyData.keyHash w.params name) (.str name (s.toks + 1)) v es) (putN name es nn)) :: own.drop (j + 1) := by
      rw [List.set_eq_take_append_cons_drop, if_pos hlt]
    rw [this]; exact N'
  · have hmap : (own.set j (dx, dictOf (putL name (PyData.keyHash w.params name) (.str name (s.toks + 1)) v es) (putN name es nn))).map (·.1) = own.map (·.1) := by
      rw [List.map_set]
      apply List.ext_getElem?
      intro q
      rw [List.getElem?_set]
      split
      · rename_i e; subst e
        rw [List.length_map, if_pos hlt, List.getElem?_map, hj]; rfl
      · rfl
    rw [hmap]; exact F.nd
/-- C(..) -/
theorem new_cls {C : Addr} {vals : List Value} {Q : Value → Shared → Prop} {hp : Heap} (F : Fm h₀ L m own G O s) (Cx' : Cx K hp) (cf : ClsF K C) (hi : findIn K (.ref C) "__init__" = some (some (.ref f))) (H : IsFn K f qual st)
    (h : ∀ x dx s', Fm h₀ L m ((x, instObj C dx) :: (dx, dictOf [] 0) :: own) G O s' →
      codeAny (model prog w) (A.under (.builtin "type.__call__" ⟨.ref C :: vals, []⟩)) (.call (.ref f) ⟨.ref x :: vals, []⟩) (InitBack x fun r s' => match r with | .ok (.ret v) => Q v s' | .ok _ => False | .error e => NR e s') s') (hs : s.heap = hp := by rfl) :
    wpAny (model prog w) A (call (.ref C) vals) Q NR s := by
  subst hs
  have ht : typeIn K (.ref f) = some (.type "function") := by
    obtain ⟨⟨nm, pm, od, sl, hf⟩, _⟩ := H
    unfold typeIn; dsimp only; rw [hf]; rfl
  refine wpAny_call (make_K F.fr F.nw Cx'.X cf.mks hi ht fun x dx h' F' N' hlt hxd => ?_)
  refine h x dx _ ⟨F', N', ?_, F.gens, F.os⟩
  rw [List.map_cons, List.map_cons, List.nodup_cons, List.nodup_cons]
  have low : ∀ a, (∀ p ∈ own, p.1 < a) → a ∉ own.map (·.1) := fun a ha hm => by
    obtain ⟨q, hq, e⟩ := List.mem_map.mp hm
    have := ha q hq
    rw [e] at this; exact Nat.lt_irrefl _ this
  refine ⟨?_, low dx hlt, F.nd⟩
  rw [List.mem_cons, not_or]
  exact ⟨Nat.ne_of_gt hxd, low x fun p hp => Nat.lt_trans (hlt p hp) hxd⟩
theorem keep_cls {C : Addr} (e : keepIn K (.ref C) = true) {h : Heap} (X : K.In h) : ∃ k, (k = Keeper.frame ∨ k = Keeper.machine ∨ k = Keeper.boundFrame) ∧ Looks (model prog w) h (keeperOf (.ref C)) k := keeps_K e h X
end
end Mine

end LG_part
section LH_part
set_option maxHeartbeats 1000000
namespace Mine
open PySem PySem.W PySem.Calls PySem.Spec PyProof.Rows

section
variable {prog : Program} {w : World} {A : Around} {E : Value → Shared → Prop} {s : Shared} {env : Env} {K : Frag} {h₀ : Heap} {L : Addr} {m : Str → Option Value} {own : Led} {G : Array GenState} {O : OsState} {N : Shared → Prop} {R : Value → Shared → Prop} {rest : List Stmt} {Q : Value → Shared → Prop}
theorem E_cls {x : Str} {np pos : Pos} {es : List Expr} {Cl : Addr} {hp : Heap} (C : Cx K hp) (e : nsIn K mainGlobals x = some (some (.ref Cl))) (kp : keepIn K (.ref Cl) = true)
    (h : wpL (model prog w) A env es (fun vs s' => Cx K s'.heap ∧ wpAny (model prog w) A (call (.ref Cl) vs) Q NR s') s) (hh : s.heap = hp := by rfl) (hs : noStar es = true := by rfl)
    (hg : env.globals = mainGlobals := by rfl) (hk : env.scope.kind = .function := by rfl) (hx : env.kindOf x = some .globalImplicit := by rfl) (hd : (x == ("__debug__" : Str)) = false := by rfl) :
    wpE (model prog w) A (.Call (.Name x np) es [] pos) env Q s :=
  E_call (P := Cx K) (.ref Cl) (fun Q' q => nmG C e q hh hg hk hx hd) (fun _ X => keep_cls kp X.X) h hs

theorem step_new {way : Str} {u : Tok} {tv : Value} {b : Addr} (Y : Lay K) (C : Cx K h₀) (r : Rm A 3) (F : Fm h₀ L m own G O s)
    (h : ∀ x dx od s', lookIn "axis" od = some (some (.str way u)) → lookIn "test" od = some (some tv) → lookIn "predicates" od = some (some (.ref b)) → Fm h₀ L m ((x, instObj 458 dx) :: (dx, od) :: own) G O s' → Q (.ref x) s') :
    wpAny (model prog w) A (call (.ref 458) [.str way u, tv, .ref b]) Q NR s := by
  refine new_cls F (F.cx C) Y.cS Y.i_S Y.f_iS fun x dx s₁ F => ?_
  have F1 : Fm h₀ L m (own ++ [(x, instObj 458 dx), (dx, dictOf [] 0)]) G O s₁ := F.perm (List.perm_append_comm (l₁ := [(x, instObj 458 dx), (dx, dictOf [] 0)]) (l₂ := own))
  refine enterI [(x, instObj 458 dx), (dx, dictOf [] 0)] Y.f_iS (F.cx C) (r.made _ _) ["self", "axis", "test", "predicates"] F1.hasX F1.ndX fun L' s₂ F2 => ?_
  have C2 := C.keeps F1.hid
  refine S_attr (nmL F2 rfl (nmL F2 rfl (set_fld (F2.cx C2) Y.cS Y.s_axis F2 0 1 rfl rfl rfl (Nat.le_of_ble_eq_true rfl) fun s₃ F2 => ?_)))
  refine S_attr (nmL F2 rfl (nmL F2 rfl (set_fld (F2.cx C2) Y.cS Y.s_test F2 0 1 rfl rfl rfl (Nat.le_of_ble_eq_true rfl) fun s₄ F2 => ?_)))
  refine S_attr (nmL F2 rfl (nmL F2 rfl (set_fld (F2.cx C2) Y.cS Y.s_predicates F2 0 1 rfl rfl rfl (Nat.le_of_ble_eq_true rfl) fun s₅ F2 => S_nil ?_)))
  have p := Fm.backX (s₀ := s₁) (X := [(x, instObj 458 dx), (dx, dictOf [] 0)]) (own := []) F2
  have F3 := F1.swap p
  exact h x dx _ _ rfl rfl rfl (F3.perm (List.perm_append_comm (l₁ := own) (l₂ := [_, _])))
end
end Mine

end LH_part
section LI_part
set_option maxHeartbeats 1000000
namespace Mine
open PySem PySem.W PySem.Calls PySem.Spec PyProof.Rows

noncomputable def PosV (v : Value) (t : Tok) : Option Nat → Prop
  | none => v = .none
  | some p => v = .int (p : Int) t
theorem pick_clip {n p : Nat} {l : List Value} (hl : l.length = n) (hp : 1 ≤ p) : (l.drop (min (p - 1) n)).take (min p n - min (p - 1) n) = (l.drop (p - 1)).take 1 := by
  by_cases h : p ≤ n
  · rw [Nat.min_eq_left h, Nat.min_eq_left (by omega)]; congr 1; omega
  · rw [Nat.min_eq_right (by omega), Nat.min_eq_right (by omega), List.drop_of_length_le (by omega), List.drop_of_length_le (by omega)]; simp

section
variable {prog : Program} {w : World} {A : Around} {E : Value → Shared → Prop} {s : Shared} {env : Env} {K : Frag} {h₀ : Heap} {L : Addr} {m : Str → Option Value} {own : Led} {G : Array GenState} {O : OsState} {N : Shared → Prop} {R : Value → Shared → Prop} {rest : List Stmt} {Q : Value → Shared → Prop}
theorem S_asgU {x y : Str} {px py tp pos : Pos} {k : Nat} {value : Expr} (hh : A.handled = none)
    (h : wpE (model prog w) A value env (fun v s₁ => ∃ a v1 v2 n, v = .ref a ∧ s₁.heap.get? a = some (tup [v1, v2] n) ∧ ∀ s₂, Pur s₁ s₂ → wpAny (model prog w) A (storeName env x v1) (fun _ s₃ => wpAny (model prog w) A (storeName env y v2) (fun _ s₄ => wpS (model prog w) A rest env N R s₄) NR s₃) NR s₂) s)
    (hs : swapsWithSole [.Tuple [.Name x px, .Name y py] k tp] value pos.line env = pure false := by rfl) (hw : swappedStores [.Tuple [.Name x px, .Name y py] k tp] value env = pure none := by rfl) :
    wpS (model prog w) A (.Assign [.Tuple [.Name x px, .Name y py] k tp] value pos :: rest) env N R s := by
  refine S_cons (Assign_Tuple (wpAny_mono h (fun v s₁ h₁ => ?_) fun _ _ x => x) hs hw)
  obtain ⟨a, v1, v2, n, rfl, ha, q⟩ := h₁
  refine assign_Tuple_tuple hh (isT ha) rfl rfl fun h' he => ?_
  have p : Pur s₁ { s₁ with heap := h' } := ⟨fun b o e => he b o (Nat.ne_of_lt (Heap.lt_size e)) e, rfl, rfl⟩
  exact assignInOrder_cons (PyProof.Rows.assign_Name (wpAny_mono (q _ p) (fun _ s₃ h₃ => assignInOrder_cons (PyProof.Rows.assign_Name (wpAny_mono h₃ (fun _ s₄ h₄ => assignInOrder_nil h₄) fun _ _ x => x))) fun _ _ x => x))
theorem E_preds {x : Str} {pv : Value} {pos : Option Nat} {t : Tok} {p1 p2 p3 p4 p5 p6 p7 : Pos} {k k1 k2 : Nat} (F : Fm h₀ L m own G O s) (hv : m x = some pv) (hp : PosV pv t pos) (h : ∀ b s', Fm h₀ L m ((b, tup (Preds pos t) 0) :: own) G O s' → Q (.ref b) s')
    (hL : env.locals = L := by rfl) (hk : env.scope.kind = .function := by rfl) (hl : env.kindOf x = some .local := by rfl) (hd : (x == ("__debug__" : Str)) = false := by rfl) :
    wpE (model prog w) A (.IfExp (.Compare (.Name x p1) [.Is] [.Constant .none k p2] p3) (.Tuple [] k1 p4) (.Tuple [.Name x p5] k2 p6) p7) env Q s := by
  refine E_if (T_cmp (nmL F hv (E_none (cmp_is (tr_bool ?_))) hL hk hl hd))
  cases pos with
  | none => cases hp; exact E_tup (newT F fun b s' F => h b s' F)
  | some p => cases hp; exact E_tup (nmL F hv (newT F fun b s' F => h b s' F) hL hk hl hd)
theorem S_iftO {x a lit : Str} {c b : Addr} {o : Obj} {n : Nat} {u : Tok} {r : List Value} {np cp ep ip sp pos : Pos} {k k' : Nat} {body orelse : List Stmt} {hp : Heap} (hc : hp.get? c = some o) (hd : o.data = .cell (some (.ref b))) (hb : hp.get? b = some (tup (.str a u :: r) n)) (F : Fm h₀ L m own G O s)
    (ht : a = lit → ∀ s', Fm h₀ L m own G O s' → wpS (model prog w) A body env (fun s'' => wpS (model prog w) A rest env N R s'') R s')
    (hf : a ≠ lit → ∀ s', Fm h₀ L m own G O s' → wpS (model prog w) A orelse env (fun s'' => wpS (model prog w) A rest env N R s'') R s') (hs : s.heap = hp := by rfl)
    (hcx : env.cells.lookup x = some c := by rfl) (hk : env.scope.kind = .function := by rfl) (hl : env.kindOf x = some .cell := by rfl) (hdb : (x == ("__debug__" : Str)) = false := by rfl) :
    wpS (model prog w) A (.If (.Compare (.Subscript (.Name x np) (.Constant (.int 0) k' ip) sp) [.Eq] [.Constant (.str lit) k cp] ep) body orelse pos :: rest) env N R s := by
  subst hs
  refine S_if (T_cmp (E_sub (nmO hc hd (E_int (sub_t hb (by decide) (by decide) rfl (E_str (cmp_eqs (tr_bool ?_))))) rfl hcx hk hl hdb)))
  cases q : a == lit with
  | true => exact ht (beq_iff_eq.mp q) _ ((F.tok _).tok _)
  | false => exact hf (beq_eq_false_iff_ne.mp q) _ ((F.tok _).tok _)
/-- two equal lists -/
theorem eq_nats {a b : Addr} {xs ys : List Value} {ns : List Nat} {n k : Nat} {hp : Heap} (ha : hp.get? a = some (lst xs n)) (hb : hp.get? b = some (lst ys k)) (hx : NatsAre xs ns) (hy : NatsAre ys ns) (hu : A.units < cLine) (h : Q (.bool true) s) (hs : s.heap = hp := by rfl) :
    wpAny (model prog w) A (compareOp .Eq (.ref a) (.ref b)) Q NR s := by
  subst hs
  refine PySem.SeqAt.eq_listAt (e := fun _ => true) (isL ha) (isL hb) (by rw [List.size_toArray, List.size_toArray, hx.length, hy.length]) hu (fun j h1 h2 => ?_) ?_
  · obtain ⟨n1, t1, e1, f1⟩ := hx.at (i := j) (List.getElem?_eq_getElem (by simpa using h1))
    obtain ⟨n2, t2, e2, f2⟩ := hy.at (i := j) (List.getElem?_eq_getElem (by simpa using h2))
    rw [f1] at f2; cases f2
    have g1 : xs.toArray[j] = .int (n1 : Int) t1 := by simpa using e1
    have g2 : ys.toArray[j] = .int (n1 : Int) t2 := by simpa using e2
    rw [g1, g2]
    have := PySem.SeqAt.EqAt.int_int (A := A.in1) (s := s) (n1 : Int) t1 (n1 : Int) t2
    simpa using this
  · have : (List.range xs.toArray.size).all (fun _ => true) = true := by simp
    rw [this]; exact h
end
end Mine

end LI_part
section LJ_part
set_option maxHeartbeats 2000000
namespace Mine
open PySem PySem.W PySem.Calls PySem.Spec PyProof.Rows

noncomputable abbrev lrPos : Pos := ⟨386, 45, 386, 93⟩
noncomputable abbrev lrQual : Str := (envK "_law_step_right" (stmtAt 48) 0 517).qual ++ "<lambda>"
noncomputable abbrev LrTab (X : Led) : Prop := TabLed 514 lrPos lrQual X

section
variable {prog : Program} {w : World} {A : Around} {E : Value → Shared → Prop} {s : Shared} {env : Env} {K : Frag} {D : Doc} {hp : Heap} {t : Addr} {i : Nat} {nd : Nd} {tk : Tok} {Q : Value → Shared → Prop} {way : Str} {T : Tst} {pos : Option Nat}
theorem valof_lam {f : Addr} {qual : Str} {params : Arguments} {p1 p2 p3 : Pos} {k1 k2 : Nat} {scope : Scope} {pm ctv : Value} {c' : Addr}
    (ho : hp.get? f = some (kla_obj "<lambda>" qual params (.Tuple [.Name "predicate" p1, .Constant (.int 1) k1 p2] k2 p3) scope [] pm c' ctv)) (hcd : hp.CodeRec (.ref c') qual)
    (hb : ∀ (p n a z : Value), bindArgs (kla_fn "<lambda>" qual params (.Tuple [.Name "predicate" p1, .Constant (.int 1) k1 p2] k2 p3) scope [] pm (.ref c') ctv) ⟨[p, n, a, z], []⟩ = pure ((["predicate", "node", "at", "size"] : List Str).zip [p, n, a, z]))
    (hl1 : scope.names = [(Str.ofString "predicate", NameKind.local), (Str.ofString "node", NameKind.local), (Str.ofString "at", NameKind.local), (Str.ofString "size", NameKind.local)]) (hk : scope.kind = .function) (hco : scope.isCoroutine = false) (hgen : scope.isGenerator = false) : ValOf prog w K hp f := by
  refine ⟨fun {A Q s p n a z} C k r ret => ?_, fun {h'} k => ⟨.frame, .inl rfl, (Looks.ld (part := none) (k _ _ ho)).andThen .now⟩⟩
  refine lam_call ["predicate", "node", "at", "size"] (k _ _ ho) (hcd.keeps k) C.lim r.room (fun L h₁ hns hL hk₁ => ?_) (hb p n a z) ?_ (by rw [hl1]; decide +kernel) hco hgen hk
  · have hkk : (envX qual scope L f (.ref c') []).scope.kind = .function := hk
    have hll : (envX qual scope L f (.ref c') []).kindOf "predicate" = some .local := by show scope.names.lookup ("predicate" : Str) = _; rw [hl1]; rfl
    refine E_tup (wpAny_Name (wpAny_loadName_local hkk hll hns rfl (E_int (wpAny_newObj_type ?_ (by simp [sizeOk, sizeLine_eq])))) rfl)
    refine ret _ _ _ ⟨fun b o e => Heap.get?_push_of_some _ (hk₁ b o e), rfl, rfl⟩ ?_ (Heap.get?_push_size _ rfl)
    exact fresh_back (fun b o e => hk₁ b o e) (fresh_size _)
  · intro y hy
    rw [hl1]
    rcases List.mem_cons.mp hy with rfl | hy
    · rfl
    rcases List.mem_cons.mp hy with rfl | hy
    · rfl
    rcases List.mem_cons.mp hy with rfl | hy
    · rfl
    rcases List.mem_cons.mp hy with rfl | hy
    · rfl
    · cases hy
end
end Mine

end LJ_part
section LK_part
set_option maxHeartbeats 4000000
namespace Mine
open PySem PySem.W PySem.Calls PySem.Spec PyProof.Rows

section
variable {prog : Program} {w : World} {A : Around} {E : Value → Shared → Prop} {s : Shared} {env : Env} {K : Frag} {D : Doc} {hp : Heap} {t : Addr} {i : Nat} {nd : Nd} {tk : Tok} {Q : Value → Shared → Prop} {way : Str} {T : Tst} {pos : Option Nat} {h₀ : Heap} {L : Addr} {m : Str → Option Value} {own : Led} {G : Array GenState} {O : OsState} {N : Shared → Prop} {R : Value → Shared → Prop} {rest : List Stmt}
theorem S_iftJ {x a lit : Str} {c b : Addr} {o : Obj} {n : Nat} {u : Tok} {r : List Value} {np cp ep ip sp pos : Pos} {k k' : Nat} {body : List Stmt} {hp : Heap} (J : Shared → Prop) (hc : hp.get? c = some o) (hd : o.data = .cell (some (.ref b))) (hb : hp.get? b = some (tup (.str a u :: r) n)) (F : Fm h₀ L m own G O s)
    (ht : a = lit → ∀ s', Fm h₀ L m own G O s' → wpS (model prog w) A body env J R s')
    (hf : a ≠ lit → ∀ s', Fm h₀ L m own G O s' → J s') (kk : ∀ s', J s' → wpS (model prog w) A rest env N R s') (hs : s.heap = hp := by rfl)
    (hcx : env.cells.lookup x = some c := by rfl) (hk : env.scope.kind = .function := by rfl) (hl : env.kindOf x = some .cell := by rfl) (hdb : (x == ("__debug__" : Str)) = false := by rfl) :
    wpS (model prog w) A (.If (.Compare (.Subscript (.Name x np) (.Constant (.int 0) k' ip) sp) [.Eq] [.Constant (.str lit) k cp] ep) body [] pos :: rest) env N R s := by
  subst hs
  refine S_ifJ J (T_cmp (E_sub (nmO hc hd (E_int (sub_t hb (by decide) (by decide) rfl (E_str (cmp_eqs (tr_bool ?_))))) rfl hcx hk hl hdb))) kk
  cases q : a == lit with
  | true => exact ht (beq_iff_eq.mp q) _ ((F.tok _).tok _)
  | false => exact S_nil (hf (beq_eq_false_iff_ne.mp q) _ ((F.tok _).tok _))
theorem pm1 (Z A B : Led) : ((Z ++ A) ++ B).Perm ((Z ++ B) ++ A) := by rw [List.append_assoc, List.append_assoc]; exact List.Perm.append_left _ List.perm_append_comm
theorem pm2 (Z A B : Led) : ((Z ++ A) ++ B).Perm (Z ++ (B ++ A)) := by rw [List.append_assoc]; exact List.Perm.append_left _ List.perm_append_comm
noncomputable def tstWord : Tst → Str
  | .node => "node"
  | .text => "text"
  | .name => "name"
theorem tst_vals (T : Tst) (t u v : Tok) : ∃ r, T.vals t u v = .str (tstWord T) t :: r := by cases T <;> exact ⟨_, rfl⟩

theorem law_step_right_spec {a b tb : Addr} {pv : Value} {tp u : Tok} {xs : List Value} {ns : List Nat} {n : Nat} {X1 X2 : Led} (Y : Lay K) (C : Cx K (hideAll s.heap ((X1 ++ X2).map (·.1)))) (T1 : Tb (hideAll s.heap ((X1 ++ X2).map (·.1))) 179 177) (T2 : Tb (hideAll s.heap ((X1 ++ X2).map (·.1))) 516 514) (r : Rm A 18)
    (hX1 : SbTab X1) (hX2 : LrTab X2) (hXs : ∀ p ∈ X1 ++ X2, s.heap.get? p.1 = some p.2) (hXn : ((X1 ++ X2).map (·.1)).Nodup)
    (hT : TreeIs (hideAll s.heap ((X1 ++ X2).map (·.1))) t D) (hB : BookIs prog w (hideAll s.heap ((X1 ++ X2).map (·.1))) b D) (P : Pre D) (ha0 : (hideAll s.heap ((X1 ++ X2).map (·.1))).get? a = some (lst xs n)) (hx : NatsAre xs ns) (hnl : ∀ x ∈ ns, x < D.length) (hn8 : ns.length ≤ 8) (hD : D.length < 64)
    (hw : Way way) (htv : TstIs (hideAll s.heap ((X1 ++ X2).map (·.1))) (.ref tb) T) (hp1 : ∀ p, pos = some p → 1 ≤ p) (hpv : PosV pv tp pos)
    (ret : ∀ X1' X2' s', PurX (X1 ++ X2) (X1' ++ X2') s s' → SbTab X1' → LrTab X2' → Q (.bool true) s') :
    wpAny (model prog w) A (call (.ref 517) [.ref t, .ref b, .ref a, .str way u, .ref tb, pv]) Q E s := by
  refine enterC (X1 ++ X2) Y.f_law_step_right C.hide r ["tree", "book", "nodes", "way", "test", "position"] hXs hXn (fun L s₁ co hco F => ?_) (fun L => ?_)
  rotate_left
  · intro x hx
    rcases List.mem_cons.mp hx with rfl | hx
    · exact .inl rfl
    rcases List.mem_cons.mp hx with rfl | hx
    · exact .inr ⟨rfl, rfl⟩
    rcases List.mem_cons.mp hx with rfl | hx
    · exact .inl rfl
    rcases List.mem_cons.mp hx with rfl | hx
    · exact .inl rfl
    rcases List.mem_cons.mp hx with rfl | hx
    · exact .inr ⟨rfl, rfl⟩
    rcases List.mem_cons.mp hx with rfl | hx
    · exact .inl rfl
    · cases hx
  have r' := r.deeper (envK "_law_step_right" (stmtAt 48) L 517)
  have cb : (co "book").data = .cell (some (.ref b)) := hco "book" _ rfl
  have ct : (co "test").data = .cell (some (.ref tb)) := hco "test" _ rfl
  have cf : (co "found").data = .cell none := hco "found" _ rfl
  have hxl := hx.length
  generalize hbase : hideAll s.heap ((X1 ++ X2).map (·.1)) = base at F C T1 T2 hT hB ha0 htv
  obtain ⟨tb', nt, t1, t2, t3, etb, htb⟩ := id htv
  cases etb
  obtain ⟨rv, erv⟩ := tst_vals T t1 t2 t3
  have htb' : base.get? tb = some (tup (.str (tstWord T) t1 :: rv) nt) := by rw [htb, erv]
  have bnd : ∀ j, (foundN D way T pos (ns.take j)).length ≤ 512 := fun j => by
    have h1 := flat_le (D := D) (f := stepN D way T pos) (B := D.length) (ns.take j) fun b hb => stepN_len P (hnl b (List.mem_of_mem_take hb))
    have h2 : (ns.take j).length ≤ 8 := by rw [List.length_take]; omega
    have h3 : (ns.take j).length * D.length ≤ 8 * 64 := Nat.mul_le_mul h2 (by omega)
    unfold foundN; omega
  refine S_asgU r'.h (E_tup (E_cls (F.cx C) Y.n_Step Y.cS.kp (nmL F rfl (nmO (F.at 1 rfl) ct (E_preds F rfl hpv fun pb s₂ F => ⟨F.cx C, ?_⟩)))))
  refine step_new Y C (r'.mono (by omega)) F fun sx sdx od s₃ l1 l2 l3 F => ?_
  refine E_list (newL F fun fl s₄ F => newT F fun d s₅ F => ⟨d, _, _, 0, rfl, F.at 0 rfl, fun s₆ p => ?_⟩)
  have F := F.pur p
  refine stL F (fun s₇ F => ?_)
  refine stO F 5 rfl cf fun oc s₈ hoc F => ?_
  have F := F.cut 1
  have F := F.perm (own' := (L + 1 + 1 + 1, oc) :: (fl, lst [] 0) :: ([(sx, instObj 458 sdx), (sdx, od), (pb, tup (Preds pos tp) 0), (L + 1 + 1, co "test"), (L + 1, co "book")] ++ (X1 ++ X2))) (List.perm_middle (l₁ := [(fl, lst [] 0), (sx, instObj 458 sdx), (sdx, od), (pb, tup (Preds pos tp) 0)]) (a := (L + 1 + 1 + 1, oc)) (l₂ := (L + 1 + 1, co "test") :: (L + 1, co "book") :: (X1 ++ X2)))
  refine S_for_list r'.h (fun j m own => ∃ oc fl n1 ys, own = (L + 1 + 1 + 1, oc) :: (fl, lst ys n1) :: ([(sx, instObj 458 sdx), (sdx, od), (pb, tup (Preds pos tp) 0), (L + 1 + 1, co "test"), (L + 1, co "book")] ++ (X1 ++ X2)) ∧ oc.data = .cell (some (.ref fl)) ∧ NatsAre ys (foundN D way T pos (ns.take j)) ∧
      m "tree" = some (.ref t) ∧ m "nodes" = some (.ref a) ∧ m "way" = some (.str way u) ∧ m "position" = some pv ∧ m "step" = some (.ref sx)) ha0
    (nmL F (put_ne rfl) ⟨rfl, _, _, F, oc, fl, 0, [], rfl, hoc, .nil, put_ne rfl, put_ne rfl, put_ne rfl, put_ne rfl, put_same⟩) (fun j v m own o I s₉ hv hI F => ?_) fun m own s₉ hI F => ?_
  · obtain ⟨oc, fl, n1, ys, rfl, hoc, hy, m1, m2, m3, m4, m5⟩ := hI
    obtain ⟨x, tx, rfl, hxj⟩ := hx.at hv
    have hxD := hnl x (List.mem_of_getElem? hxj)
    have hyl := hy.length
    have hbj := bnd j
    have hal := along_len (way := way) P hxD
    have halt := along_lt (way := way) P hxD
    refine S_asg (E_fn Y.f_law_along (F.cx C) Y.n_law_along (nmO (F.at 6 rfl) cb (nmL F put_same (nmL F (put_ne m3) ⟨F.cx C, ?_⟩))))
    refine law_along_spec Y (F.cx C) (r'.mono (by omega)) (hB.keeps F.keep) P hxD hD hw fun v s₁₀ p hn => ?_
    obtain ⟨al, as_, na, rfl, hn, hal', has⟩ := hn
    have F := F.add p hn hal'
    refine stL F (fun s₁₁ F => ?_)
    have hwd : ∀ {y}, (h : y < D.length) → D[y]? = some D[y] := fun h => List.getElem?_eq_getElem h
    have okE : ∀ {y}, (h : y < D.length) → okAt D T y = T.ok D[y] := fun h => by unfold okAt; rw [hwd h]; rfl
    refine S_iftJ (fun s' => ∃ m' sl zs nz, Fm base L m' ((sl, lst zs nz) :: (L + 1 + 1 + 1, oc) :: (fl, lst ys n1) :: (([(sx, instObj 458 sdx), (sdx, od), (pb, tup (Preds pos tp) 0), (L + 1 + 1, co "test"), (L + 1, co "book")] ++ (X1 ++ X2)) ++ [(I, o)])) s.gens s.os s' ∧ NatsAre zs (if tstWord T = "text" then (along D way x).filter (okAt D T) else along D way x) ∧
      m' "tree" = some (.ref t) ∧ m' "nodes" = some (.ref a) ∧ m' "way" = some (.str way u) ∧ m' "position" = some pv ∧ m' "step" = some (.ref sx) ∧ m' "some" = some (.ref sl)) (F.at 6 rfl) ct (F.keep _ _ htb') F (fun e s₁₂ F => ?_) (fun e s₁₂ F => ?_) ?_
    · have eT : T = .text := by
        cases T with
        | text => rfl
        | node => exact absurd e (by decide +kernel)
        | name => exact absurd e (by decide +kernel)
      refine S_asgF F [("book", L + 1)] r'.h (nmL F put_same ⟨al, as_, _, na, okAt D T, _, _, rfl, F.at 0 rfl, has, by omega, F, ?_, fun c zs k s₁₃ hz F => S_nil ⟨_, c, zs, k, F.drop (.cons_cons _ (.cons _ (.refl _))), by rw [if_pos e]; exact hz, put_ne (put_ne (put_ne m1)), put_ne (put_ne (put_ne m2)), put_ne (put_ne (put_ne m3)), put_ne (put_ne (put_ne m4)), put_ne (put_ne (put_ne m5)), put_same⟩⟩)
      intro y ty m' own' C' s₁₃ hy' F'
      have hyD := halt y hy'
      refine ts_one (T_cmp (book_word ((hB.keeps F.keep).keeps F'.keep) (hwd hyD) (fun _ q => nmO (F'.keep _ _ (F.at 7 rfl)) cb q) (fun _ q => nmL F' put_same q) fun uw tw => ?_))
      have F' := F'.tok tw
      refine E_str (cmp_eqs (tr_bool ⟨?_, F'.tok _⟩))
      rw [okE hyD, eT]; rfl
    · exact ⟨_, al, as_, na, F, by rw [if_neg e]; exact has, put_ne (put_ne m1), put_ne (put_ne m2), put_ne (put_ne m3), put_ne (put_ne m4), put_ne (put_ne m5), put_same⟩
    clear F hal' has
    rintro s₁₂ ⟨m', sl, zs, nz, F, hz, q1, q2, q3, q4, q5, q6⟩
    refine S_iftJ (fun s' => ∃ m' sl zs nz, Fm base L m' ((sl, lst zs nz) :: (L + 1 + 1 + 1, oc) :: (fl, lst ys n1) :: (([(sx, instObj 458 sdx), (sdx, od), (pb, tup (Preds pos tp) 0), (L + 1 + 1, co "test"), (L + 1, co "book")] ++ (X1 ++ X2)) ++ [(I, o)])) s.gens s.os s' ∧ NatsAre zs ((along D way x).filter (okAt D T)) ∧
      m' "tree" = some (.ref t) ∧ m' "nodes" = some (.ref a) ∧ m' "way" = some (.str way u) ∧ m' "position" = some pv ∧ m' "step" = some (.ref sx) ∧ m' "some" = some (.ref sl)) (F.at 6 rfl) ct (F.keep _ _ htb') F (fun e s₁₃ F => ?_) (fun e s₁₃ F => ?_) ?_
    · have eT : T = .name := by
        cases T with
        | name => rfl
        | node => exact absurd e (by decide +kernel)
        | text => exact absurd e (by decide +kernel)
      subst eT
      rw [if_neg (by decide +kernel)] at hz
      have htn : base.get? tb = some (tup [.str "name" t1, .str "" t2, .str "f" t3] nt) := htb
      refine S_asgF F [("test", L + 1 + 1), ("book", L + 1)] r'.h (nmL F q6 ⟨sl, zs, _, nz, okAt D .name, _, _, rfl, F.at 0 rfl, hz, by omega, F, ?_, fun c zs k s₁₃ hz F => S_nil ⟨_, c, zs, k, F.drop (.cons_cons _ (.cons _ (.refl _))), hz, put_ne q1, put_ne q2, put_ne q3, put_ne q4, put_ne q5, put_same⟩⟩)
      intro y ty m' own' C' s₁₃ hy' F'
      have hyD := halt y hy'
      refine ts_one (T_cmp (book_word ((hB.keeps F.keep).keeps F'.keep) (hwd hyD) (fun _ q => nmO (F'.keep _ _ (F.at 7 rfl)) cb q) (fun _ q => nmL F' put_same q) fun uw tw => ?_))
      have F' := F'.tok tw
      refine E_sub (nmO (F'.keep _ _ (F.at 6 rfl)) ct (E_int (sub_t (F'.keep _ _ (F.keep _ _ htn)) (by decide) (by decide) rfl (cmp_eqs (tr_bool ⟨?_, F'.tok _⟩)))))
      rw [okE hyD]; rfl
    · refine ⟨m', sl, zs, nz, F, ?_, q1, q2, q3, q4, q5, q6⟩
      cases T with
      | text => rw [if_pos (show tstWord .text = "text" from rfl)] at hz; exact hz
      | name => exact absurd rfl e
      | node =>
        rw [if_neg (by decide +kernel)] at hz
        have : (along D way x).filter (okAt D .node) = along D way x := by
          rw [List.filter_eq_self]; intro y hy'; rw [okE (halt y hy')]; rfl
        rw [this]; exact hz
    clear F hz q1 q2 q3 q4 q5 q6
    rintro s₁₃ ⟨m', sl, zs, nz, FZ, hz, q1, q2, q3, q4, q5, q6⟩
    have hzl := hz.length
    have hfl := List.length_filter_le (okAt D T) (along D way x)
    have efound : foundN D way T pos (ns.take (j + 1)) = foundN D way T pos (ns.take j) ++ pick pos ((along D way x).filter (okAt D T)) := by
      rw [take_snoc hxj]
      unfold foundN
      rw [List.flatMap_append, List.flatMap_cons, List.flatMap_nil, List.append_nil]; rfl
    refine S_asg (E_bin (nmO (FZ.at 1 rfl) hoc (E_if (T_cmp (nmL FZ q4 (E_none (cmp_is (tr_bool ?_))))))))
    cases pos with
    | none =>
      cases hpv
      refine nmL FZ q6 (add_l FZ (FZ.at 2 rfl) (FZ.at 0 rfl) (by omega) fun c s₁₄ F => ?_)
      refine stO F 2 rfl hoc fun oc' s₁₅ hoc' F => ?_
      refine S_nil ⟨_, (L + 1 + 1 + 1, oc') :: (c, lst (ys ++ zs) 0) :: ([(sx, instObj 458 sdx), (sdx, od), (pb, tup (Preds none tp) 0), (L + 1 + 1, co "test"), (L + 1, co "book")] ++ (X1 ++ X2)), ⟨oc', c, 0, ys ++ zs, rfl, hoc', by rw [efound]; exact hy.append hz, q1, q2, q3, q4, q5⟩, ?_⟩
      have F := F.drop (own' := (c, lst (ys ++ zs) 0) :: (L + 1 + 1 + 1, oc') :: (([(sx, instObj 458 sdx), (sdx, od), (pb, tup (Preds none tp) 0), (L + 1 + 1, co "test"), (L + 1, co "book")] ++ (X1 ++ X2)) ++ [(I, o)])) (.cons_cons _ (.cons _ (.cons_cons _ (.cons _ (.refl _)))))
      exact F.perm (List.Perm.swap _ _ _)
    | some p0 =>
      cases hpv
      have hp0 := hp1 p0 rfl
      refine E_slice (nmL FZ q6 (O_some (E_bin (nmL FZ q4 (E_int (PyProof.Rows.sub_int (O_some (nmL ((FZ.tok _).tok _) q4 (O_none ⟨sl, zs, nz, some ((p0 - 1 : Nat) : Int), some (p0 : Int), none, (zs.drop (p0 - 1)).take 1, rfl, ((FZ.tok _).tok _).at 0 rfl, ?_, .int _ _, .none, by decide, by omega, ?_, fun c2 s₁₄ p hn hc2 => ?_⟩))))))))) 
      · have : ((p0 : Int) - 1) = ((p0 - 1 : Nat) : Int) := by omega
        rw [this]; exact .int _ _
      · rw [slicePick_plain]
        simp only [Option.elim, clipAt_nat, List.size_toArray]
        rw [pick_clip rfl hp0]
      have F := ((FZ.tok _).tok _).add p hn hc2
      have hz2 : NatsAre ((zs.drop (p0 - 1)).take 1) (pick (some p0) ((along D way x).filter (okAt D T))) := (hz.drop _).take 1
      have hz2l : ((zs.drop (p0 - 1)).take 1).length ≤ 1 := List.length_take_le _ _
      refine add_l F (F.at 3 rfl) (F.at 0 rfl) (by omega) fun c s₁₅ F => ?_
      refine stO F 3 rfl hoc fun oc' s₁₆ hoc' F => ?_
      refine S_nil ⟨_, (L + 1 + 1 + 1, oc') :: (c, lst (ys ++ (zs.drop (p0 - 1)).take 1) 0) :: ([(sx, instObj 458 sdx), (sdx, od), (pb, tup (Preds (some p0) tp) 0), (L + 1 + 1, co "test"), (L + 1, co "book")] ++ (X1 ++ X2)), ⟨oc', c, 0, _, rfl, hoc', by rw [efound]; exact hy.append hz2, q1, q2, q3, q4, q5⟩, ?_⟩
      have F := F.drop (own' := (c, lst (ys ++ (zs.drop (p0 - 1)).take 1) 0) :: (L + 1 + 1 + 1, oc') :: (([(sx, instObj 458 sdx), (sdx, od), (pb, tup (Preds (some p0) tp) 0), (L + 1 + 1, co "test"), (L + 1, co "book")] ++ (X1 ++ X2)) ++ [(I, o)])) (.cons_cons _ (.cons _ (.cons _ (.cons_cons _ (.cons _ (.refl _))))))
      exact F.perm (List.Perm.swap _ _ _)
  · obtain ⟨oc, fl, n1, ys, rfl, hoc, hy, m1, m2, m3, m4, m5⟩ := hI
    have hbl := bnd xs.length
    rw [List.take_of_length_le (by omega)] at hy hbl
    have hyl := hy.length
    refine S_asgF F [("found", L + 1 + 1 + 1)] r'.h (E_bi (F.cx C) Y.b_sorted bb_sorted (by simp) (nmO (F.at 6 rfl) cb (sorted_book r'.h F (hB.keeps F.keep) hD fun sb zs kz s₁₀ F hz => ?_)) (by decide +kernel))
    refine ⟨sb, zs, _, kz, fun x => (foundN D way T pos ns).contains x, _, _, rfl, F.at 0 rfl, hz, by rw [List.length_range]; omega, F, fun y ty m' own' C' s₁₁ hy' F' => ?_, fun du ds kd s₁₁ hds F => ?_⟩
    · exact ts_one (T_cmp (nmL F' put_same (nmO (F'.keep _ _ (F.at 1 rfl)) hoc (in_list_ints (isL (F'.keep _ _ (F.at 2 rfl))) hy (tr_bool ⟨any_nat, F'⟩)))))
    have hds' : NatsAre ds (inDoc D (foundN D way T pos ns)) := by
      have : (List.range D.length).filter (fun x => (foundN D way T pos ns).contains x) = inDoc D (foundN D way T pos ns) := by
        unfold inDoc
        apply List.filter_congr
        intro x _
        rw [Bool.eq_iff_iff, List.contains_iff_mem, decide_eq_true_iff]
      rw [← this]; exact hds
    refine S_ret (E_cmp (E_fn Y.f_after_step (F.cx C) Y.n_after_step (nmL F (put_ne m1) (nmL F (put_ne m2) (nmL F (put_ne m5) (E_dict0 F C.lim fun ed s₁₂ lo F => ?_))))))
    have F := F.perm (own' := ([(ed, dct #[] 0), (du, lst ds kd), (sb, lst zs kz), (L + 1 + 1 + 1, oc), (fl, lst ys n1), (sx, instObj 458 sdx), (sdx, od), (pb, tup (Preds pos tp) 0), (L + 1 + 1, co "test"), (L + 1, co "book")] ++ X1) ++ X2) (by rw [List.append_assoc]; exact .refl _)
    refine E_lam (own := [(ed, dct #[] 0), (du, lst ds kd), (sb, lst zs kz), (L + 1 + 1 + 1, oc), (fl, lst ys n1), (sx, instObj 458 sdx), (sdx, od), (pb, tup (Preds pos tp) 0), (L + 1 + 1, co "test"), (L + 1, co "book")] ++ X1) (X := X2) [] F T2 hX2 fun f c' ctv pm X2' s₁₃ hX2' hlc F => ?_
    refine ⟨F.cx C, ?_⟩
    obtain ⟨lamO, hlamO⟩ : ∃ o : Obj, o = kla_obj "<lambda>" lrQual { posonlyargs := [], args := [{ arg := "predicate", annotation := none, pos := ⟨386, 52, 386, 61⟩ }, { arg := "node", annotation := none, pos := ⟨386, 63, 386, 67⟩ }, { arg := "at", annotation := none, pos := ⟨386, 69, 386, 71⟩ }, { arg := "size", annotation := none, pos := ⟨386, 73, 386, 77⟩ }], vararg := none, kwonlyargs := [], kw_defaults := [], kwarg := none, defaults := [] } (.Tuple [.Name "predicate" ⟨386, 80, 386, 89⟩, .Constant (.int 1) 0 ⟨386, 91, 386, 92⟩] 0 ⟨386, 79, 386, 93⟩)
        { kind := .function, names := [("predicate", .local), ("node", .local), ("at", .local), ("size", .local)], isGenerator := false, isCoroutine := false } [] pm c' ctv := ⟨_, rfl⟩
    have F : Fm base L (put m "due" (.ref du)) (((f, lamO) :: ([(ed, dct #[] 0), (du, lst ds kd), (sb, lst zs kz), (L + 1 + 1 + 1, oc), (fl, lst ys n1), (sx, instObj 458 sdx), (sdx, od), (pb, tup (Preds pos tp) 0), (L + 1 + 1, co "test"), (L + 1, co "book")] ++ X2')) ++ X1) s.gens s.os s₁₃ := by
      rw [hlamO]
      exact F.perm (List.Perm.cons _ (pm1 _ _ _))
    have inO : ∀ {p}, p ∈ (f, lamO) :: ([(ed, dct #[] 0), (du, lst ds kd), (sb, lst zs kz), (L + 1 + 1 + 1, oc), (fl, lst ys n1), (sx, instObj 458 sdx), (sdx, od), (pb, tup (Preds pos tp) 0), (L + 1 + 1, co "test"), (L + 1, co "book")] ++ X2') → (hideAll s₁₃.heap (X1.map (·.1))).get? p.1 = some p.2 := fun {p} hp =>
      hideAll_get _ (F.mem (List.mem_append_left _ hp)) (F.apart (o := p.2) hp)
    have haX : a ∉ X1.map (·.1) := fun hm => by
      obtain ⟨p, hp, e⟩ := List.mem_map.mp hm
      have := (F.nw p (List.mem_append_right _ hp)).2.2
      rw [e, ha0] at this; cases this
    have hS : StepIs (hideAll s₁₃.heap (X1.map (·.1))) sx way T pos := ⟨sdx, od, u, .ref tb, pb, tp, 0, inO (p := (sx, instObj 458 sdx)) (by simp), inO (p := (sdx, od)) (by simp), l1, l2, l3, htv.keeps F.hid, inO (p := (pb, tup (Preds pos tp) 0)) (by simp)⟩
    have hcode : (hideAll s₁₃.heap (X1.map (·.1))).CodeRec (.ref c') lrQual := LamCode.rec hlc fun p hp => inO (.tail _ (List.mem_append_right _ hp))
    have hV : ValOf prog w K (hideAll s₁₃.heap (X1.map (·.1))) f := by
      have hf := inO (p := (f, lamO)) (.head _)
      rw [hlamO] at hf
      exact valof_lam hf hcode (fun _ _ _ _ => rfl) rfl rfl rfl rfl
    refine after_step_spec Y (C.keeps F.hid) (T1.keeps F.hid) (r'.mono (by omega)) hX1 F.hasX F.ndX (hT.keeps F.hid) P (F.keep _ _ ha0) haX hx hnl hn8 hD hw hS hp1 hV fun c1 ys1 nn1 s₁₄ X1' p hX1' hc1 hget hys1 => ?_
    have F := F.swap p
    refine nmL F put_same (eq_nats hget (F.mem (a := du) (o := lst ds kd) (by simp)) hys1 hds' r'.units ?_)
    refine ret X1' X2' _ ?_ hX1' hX2'
    have F2 : Fm base L (put m "due" (.ref du)) (((f, lamO) :: [(ed, dct #[] 0), (du, lst ds kd), (sb, lst zs kz), (L + 1 + 1 + 1, oc), (fl, lst ys n1), (sx, instObj 458 sdx), (sdx, od), (pb, tup (Preds pos tp) 0), (L + 1 + 1, co "test"), (L + 1, co "book")]) ++ (X1' ++ X2')) s.gens s.os s₁₄ := by
      exact F.perm (pm2 (_ :: _) _ _)
    subst hbase
    exact Fm.backX F2
end
end Mine

end LK_part
section LL_part
set_option maxHeartbeats 2000000
namespace Mine
open PySem PySem.W PySem.Calls PySem.Spec PyProof.Rows

/-- a new row -/
structure RowNew (R : RowA) (kind name uri loc : Str) (pv : Value) : Prop where
  kind : ∃ t, lookIn "kind" R.od = some (some (.str kind t))
  name : ∃ t, lookIn "name" R.od = some (some (.str name t))
  uri : ∃ t, lookIn "uri" R.od = some (some (.str uri t))
  local_ : ∃ t, lookIn "local" R.od = some (some (.str loc t))
  parent : lookIn "parent" R.od = some (some pv)
  children : lookIn "children" R.od = some (some (.ref R.c))
  attributes : lookIn "attributes" R.od = some (some (.ref R.a))
  namespaces : lookIn "namespaces" R.od = some (some (.ref R.n))
  cv : R.cv = []

theorem perm5 {α : Type} (n a c x d : α) : [n, a, c, x, d].Perm [x, d, c, a, n] :=
  (List.perm_append_comm (l₁ := [n, a, c]) (l₂ := [x, d])).trans ((List.Perm.refl [x, d]).append (List.reverse_perm [c, a, n]))

section
variable {prog : Program} {w : World} {A : Around} {E : Value → Shared → Prop} {s : Shared} {env : Env} {K : Frag} {h₀ : Heap} {L : Addr} {m : Str → Option Value} {own : Led} {G : Array GenState} {O : OsState} {N : Shared → Prop} {R : Value → Shared → Prop} {rest : List Stmt} {Q : Value → Shared → Prop}
theorem node_row_new {k1 k2 k3 k4 k5 : Str} {t1 t2 t3 t4 t5 : Tok} {pv : Value} (Y : Lay K) (C : Cx K h₀) (r : Rm A 3) (F : Fm h₀ L m own G O s)
    (h : ∀ R s', RowNew R k1 k2 k3 k4 pv → Fm h₀ L m (own ++ R.led) G O s' → Q (.ref R.r) s') :
    wpAny (model prog w) A (call (.ref 236) [.str k1 t1, .str k2 t2, .str k3 t3, .str k4 t4, .str k5 t5, pv]) Q NR s := by
  refine new_cls F (F.cx C) Y.cR Y.i_R Y.f_iR fun x dx s₁ F => ?_
  have F1 : Fm h₀ L m (own ++ [(x, instObj 236 dx), (dx, dictOf [] 0)]) G O s₁ := F.perm (List.perm_append_comm (l₁ := [(x, instObj 236 dx), (dx, dictOf [] 0)]) (l₂ := own))
  refine enterI [(x, instObj 236 dx), (dx, dictOf [] 0)] Y.f_iR (F.cx C) (r.made _ _) ["self", "kind", "name", "uri", "local", "value", "parent"] F1.hasX F1.ndX fun L' s₂ F2 => ?_
  have C2 := C.keeps F1.hid
  refine S_attr (nmL F2 rfl (nmL F2 rfl (set_fld (F2.cx C2) Y.cR Y.r_kind F2 0 1 rfl rfl rfl (Nat.le_of_ble_eq_true rfl) fun s₃ F2 => ?_)))
  refine S_attr (nmL F2 rfl (nmL F2 rfl (set_fld (F2.cx C2) Y.cR Y.r_name F2 0 1 rfl rfl rfl (Nat.le_of_ble_eq_true rfl) fun s₄ F2 => ?_)))
  refine S_attr (nmL F2 rfl (nmL F2 rfl (set_fld (F2.cx C2) Y.cR Y.r_uri F2 0 1 rfl rfl rfl (Nat.le_of_ble_eq_true rfl) fun s₅ F2 => ?_)))
  refine S_attr (nmL F2 rfl (nmL F2 rfl (set_fld (F2.cx C2) Y.cR Y.r_local F2 0 1 rfl rfl rfl (Nat.le_of_ble_eq_true rfl) fun s₆ F2 => ?_)))
  refine S_attr (nmL F2 rfl (nmL F2 rfl (set_fld (F2.cx C2) Y.cR Y.r_value F2 0 1 rfl rfl rfl (Nat.le_of_ble_eq_true rfl) fun s₇ F2 => ?_)))
  refine S_attr (nmL F2 rfl (nmL F2 rfl (set_fld (F2.cx C2) Y.cR Y.r_parent F2 0 1 rfl rfl rfl (Nat.le_of_ble_eq_true rfl) fun s₈ F2 => ?_)))
  refine S_attr (E_list (newL F2 fun c s₉ F2 => nmL F2 rfl (set_fld (F2.cx C2) Y.cR Y.r_children F2 1 2 rfl rfl rfl (Nat.le_of_ble_eq_true rfl) fun s₁₀ F2 => ?_)))
  refine S_attr (E_list (newL F2 fun a s₁₁ F2 => nmL F2 rfl (set_fld (F2.cx C2) Y.cR Y.r_attributes F2 2 3 rfl rfl rfl (Nat.le_of_ble_eq_true rfl) fun s₁₂ F2 => ?_)))
  refine S_attr (E_list (newL F2 fun n s₁₃ F2 => nmL F2 rfl (set_fld (F2.cx C2) Y.cR Y.r_namespaces F2 3 4 rfl rfl rfl (Nat.le_of_ble_eq_true rfl) fun s₁₄ F2 => S_nil ?_)))
  have F3 := Fm.perm F2 (perm5 (n, lst [] 0) (a, lst [] 0) (c, lst [] 0) (x, instObj 236 dx) (dx, _))
  have F4 := F1.swap (Fm.backX (s₀ := s₁) (X := [(x, instObj 236 dx), (dx, dictOf [] 0)]) (own := []) F3)
  exact h ⟨x, dx, c, a, n, _, [], 0, 0, 0⟩ _ ⟨⟨_, rfl⟩, ⟨_, rfl⟩, ⟨_, rfl⟩, ⟨_, rfl⟩, rfl, rfl, rfl, rfl, rfl⟩ F4
end
end Mine

end LL_part
section LM_part
set_option maxHeartbeats 1000000
namespace Mine
open PySem PySem.W PySem.Calls PySem.Spec PyProof.Rows

theorem parOf_push_lt {D : Doc} {nd : Nd} {j : Nat} (h : j < D.length) : parOf (D ++ [nd]) j = parOf D j := by
  unfold parOf; rw [List.getElem?_append_left h]
theorem parOf_push_eq {D : Doc} {nd : Nd} : parOf (D ++ [nd]) D.length = nd.par := by
  unfold parOf; rw [List.getElem?_append_right (Nat.le_refl _)]; simp
theorem kids_push {D : Doc} {nd : Nd} (i : Nat) : kids (D ++ [nd]) i = kids D i ++ (if nd.par = some i then [D.length] else []) := by
  unfold kids
  rw [List.length_append, List.length_singleton, List.range_succ, List.filter_append]
  congr 1
  · refine List.filter_congr fun j hj => ?_
    rw [parOf_push_lt (List.mem_range.mp hj)]
  · by_cases h : nd.par = some i
    · rw [if_pos h, List.filter_cons, parOf_push_eq, h]; simp
    · rw [if_neg h, List.filter_cons, parOf_push_eq]; simp [h]
theorem RowOk.push {D : Doc} {i : Nat} {nd nw : Nd} {R : RowA} (x : RowOk D i nd R) (h : nw.par ≠ some i) : RowOk (D ++ [nw]) i nd R :=
  ⟨x.kind, x.name, x.uri, x.local_, x.parent, x.children, x.attributes, x.namespaces, by rw [kids_push, if_neg h, List.append_nil]; exact x.kids⟩
theorem RowOk.push_kid {D : Doc} {i : Nat} {nd nw : Nd} {R : RowA} {u : Tok} {n : Nat} (x : RowOk D i nd R) (h : nw.par = some i) : RowOk (D ++ [nw]) i nd { R with cv := R.cv ++ [.int (D.length : Nat) u], cn := n } :=
  ⟨x.kind, x.name, x.uri, x.local_, x.parent, x.children, x.attributes, x.namespaces, by rw [kids_push, if_pos h]; exact x.kids.snoc⟩
theorem RowNew.ok {D : Doc} {nw : Nd} {R : RowA} {pv : Value} (x : RowNew R (kindOf nw) (wordOf nw) "" (wordOf nw) pv) (hp : ParV pv nw.par) (hpar : ∀ j q, parOf D j = some q → q < D.length) (hn : ∀ q, nw.par = some q → q < D.length) : RowOk (D ++ [nw]) D.length nw R :=
  ⟨x.kind, x.name, x.uri, x.local_, ⟨pv, x.parent, hp⟩, x.children, x.attributes, x.namespaces, by
    have : kids (D ++ [nw]) D.length = [] := by
      rw [kids_push, if_neg (fun e => Nat.lt_irrefl _ (hn _ e)), List.append_nil]
      refine List.filter_eq_nil_iff.mpr fun j hj => ?_
      intro e
      exact Nat.lt_irrefl _ (hpar j _ (beq_iff_eq.mp e))
    rw [this, x.cv]; exact NatsAre.nil⟩
theorem tree_root {T : TreeA} {R : RowA} {ln : Nat} (h0 : T.rows = []) (hR : RowNew R "root" "" "" "" .none) : TreeOk { T with rows := T.rows ++ [R], ln := ln } [⟨none, "root"⟩] := by
  refine ⟨by simp [h0], fun i nd R' hi hr => ?_, by simp⟩
  rw [h0] at hr
  cases i with
  | zero =>
    cases hi; cases hr
    exact RowNew.ok (D := []) (nw := ⟨none, "root"⟩) hR rfl (fun j q e => by simp [parOf] at e) (fun q e => by cases e)
  | succ i => cases hi
theorem tree_grow {T : TreeA} {D : Doc} {p n ln : Nat} {u : Tok} {nw : Nd} {Rp R : RowA} {pv : Value} (ok : TreeOk T D) (hnw : nw.par = some p) (hRp : T.rows[p]? = some Rp) (hsm : D.length < 64) (hpar : ∀ j q, parOf D j = some q → q < D.length)
    (hR : RowNew R (kindOf nw) (wordOf nw) "" (wordOf nw) pv) (hp : ParV pv nw.par) :
    TreeOk { T with rows := (T.rows ++ [R]).set p { Rp with cv := Rp.cv ++ [.int (D.length : Nat) u], cn := n }, ln := ln } (D ++ [nw]) := by
  obtain ⟨hlt, -⟩ := List.getElem?_eq_some_iff.mp hRp
  have hlen := ok.len
  refine ⟨by simp [hlen], fun i nd R' hi hr => ?_, by simp; omega⟩
  dsimp only at hr
  rw [List.getElem?_set] at hr
  by_cases hip : p = i
  · subst hip
    rw [if_pos rfl, if_pos (by simp; omega)] at hr
    cases hr
    rw [List.getElem?_append_left (by omega)] at hi
    exact (ok.row p nd Rp hi hRp).push_kid hnw
  · rw [if_neg hip] at hr
    by_cases hi2 : i < D.length
    · rw [List.getElem?_append_left hi2] at hi
      rw [List.getElem?_append_left (by omega)] at hr
      exact (ok.row i nd R' hi hr).push (by rw [hnw]; simpa using hip)
    · obtain ⟨hlt2, -⟩ := List.getElem?_eq_some_iff.mp hi
      have : i = D.length := by simp at hlt2; omega
      subst this
      have e1 : nw = nd := by simpa using hi
      have e2 : R = R' := by rw [← hlen] at hr; simpa using hr
      subst e1; subst e2
      exact hR.ok hp hpar (fun q e => by rw [hnw] at e; cases e; omega)

section
variable {prog : Program} {w : World} {A : Around} {E : Value → Shared → Prop} {s : Shared} {env : Env} {K : Frag} {h₀ : Heap} {L : Addr} {m : Str → Option Value} {own : Led} {G : Array GenState} {O : OsState} {N : Shared → Prop} {R : Value → Shared → Prop} {rest : List Stmt} {Q : Value → Shared → Prop}
theorem Fm.holds {X : Led} (F : Fm h₀ L m (own ++ X) G O s) : Holds X s.heap := F.hasX
theorem new_row_spec {T : TreeA} {k1 k2 k3 k4 k5 : Str} {t1 t2 t3 t4 t5 : Tok} {pv : Value} (Y : Lay K) (C : Cx K (hideAll s.heap (T.led.map (·.1)))) (r : Rm A 8) (hX : Holds T.led s.heap) (nd : (T.led.map (·.1)).Nodup) (hlen : T.rows.length ≤ 64)
    (ret : ∀ R ln u s', RowNew R k1 k2 k3 k4 pv → PurX T.led ({ T with rows := T.rows ++ [R], ln := ln } : TreeA).led s s' → Q (.int (T.rows.length : Nat) u) s') :
    wpAny (model prog w) A (call (.ref 261) [.ref T.t, .str k1 t1, .str k2 t2, .str k3 t3, .str k4 t4, .str k5 t5, pv]) Q E s := by
  refine enterX T.led Y.f_t_new_row C.hide r ["self", "kind", "name", "uri", "local", "value", "parent"] hX nd (fun L s₁ F => ?_)
  have r' := r.deeper (envF "Tree.new_row" (clsAt 35 1) L 261)
  have F := Fm.perm F (own' := [] ++ T.led) (List.Perm.refl _)
  refine S_exp (E_methB PySem.F.plainAttrs_list PySem.F.slot_list_append PySem.F.type_list_append (E_attrN (nmL F rfl (rows_get Y (F.cx C) F.holds ⟨typeL (TreeA.list F.holds), noD (TreeA.list F.holds), ?_⟩))))
  refine E_cls ((F.tok _).cx C) Y.n_NodeRow Y.cR.kp (nmL (F.tok _) rfl (nmL (F.tok _) rfl (nmL (F.tok _) rfl (nmL (F.tok _) rfl (nmL (F.tok _) rfl (nmL (F.tok _) rfl ⟨(F.tok _).cx C, ?_⟩))))))
  refine node_row_new Y C (r'.mono (by omega)) (F.tok _) fun R s₂ hR F => ?_
  have F := F.perm (List.perm_append_comm)
  refine l_append F 7 rfl (by rw [List.length_map]; omega) fun ln s₃ F => ?_
  have F := Fm.perm F (own' := [] ++ ({ T with rows := T.rows ++ [R], ln := ln } : TreeA).led) (by
    show (R.led ++ ((T.t, instObj 425 T.d) :: (T.d, T.od) :: (T.l, lst ((T.rows.map fun R => .ref R.r) ++ [.ref R.r]) ln) :: T.rows.flatMap RowA.led)).Perm _
    refine List.perm_append_comm.trans (List.Perm.of_eq ?_)
    simp [TreeA.led, TreeA.od])
  refine S_ret (E_bin (E_bi (F.cx C) Y.b_len bb_len (by simp) (E_attrN (nmL F rfl (rows_get Y (F.cx C) F.holds ?_))) (by decide +kernel)))
  refine len_l (TreeA.list F.holds) (by rw [List.length_map]; simp; omega) fun t s₄ p => ?_
  have F := (F.tok _).pur p
  refine E_int (PyProof.Rows.sub_int ?_)
  have e : ((({ T with rows := T.rows ++ [R], ln := ln } : TreeA).rows.map fun R => Value.ref R.r).length : Int) - 1 = (T.rows.length : Nat) := by simp
  rw [e]
  exact ret R ln _ _ hR ((F.tok _).tok _).backX
end
end Mine

end LM_part
section LN_part
set_option maxHeartbeats 2000000
namespace Mine
open PySem PySem.W PySem.Calls PySem.Spec PyProof.Rows

theorem perm_mid {α : Type} (A R B : List α) : (A ++ (R ++ B)).Perm (A ++ B ++ R) := by
  rw [List.append_assoc]; exact (List.Perm.refl _).append List.perm_append_comm
section
variable {prog : Program} {w : World} {A : Around} {E : Value → Shared → Prop} {s : Shared} {env : Env} {K : Frag} {h₀ : Heap} {L : Addr} {m : Str → Option Value} {own : Led} {G : Array GenState} {O : OsState} {N : Shared → Prop} {R : Value → Shared → Prop} {rest : List Stmt} {Q : Value → Shared → Prop}
theorem new_root_spec {T : TreeA} (Y : Lay K) (C : Cx K (hideAll s.heap (T.led.map (·.1)))) (r : Rm A 9) (hX : Holds T.led s.heap) (nd : (T.led.map (·.1)).Nodup) (h0 : T.rows = [])
    (ret : ∀ T' v s', T'.t = T.t → TreeOk T' [⟨none, "root"⟩] → PurX T.led T'.led s s' → Q v s') :
    wpAny (model prog w) A (call (.ref 275) [.ref T.t]) Q E s := by
  refine enterX T.led Y.f_t_new_root C.hide r ["self"] hX nd (fun L s₁ F => ?_)
  have r' := r.deeper (envF "Tree.new_root" (clsAt 35 3) L 275)
  have F := Fm.perm F (own' := [] ++ T.led) (List.Perm.refl _)
  refine S_ret (E_meth Y.f_t_new_row Y.cT.ga Y.cT.gk Y.m_new_row (nmL F rfl ⟨T.t, _, _, rfl, F.cx C, TreeA.inst F.holds, sh_T T rfl, E_str (E_str (E_str (E_str (E_str (E_none ⟨(F.tok _).cx C, ?_⟩)))))⟩))
  have F := F.tok (s₁.toks + 1 + 1 + 1 + 1 + 1)
  refine new_row_spec Y (C.keeps (Fm.hid F)) (r'.mono (by omega)) F.holds F.ndX (by rw [h0]; simp) fun R ln u s₂ hR p => ?_
  exact ret { T with rows := T.rows ++ [R], ln := ln } _ _ rfl (tree_root h0 hR) (F.swap p).backX
theorem add_child_spec {T : TreeA} {D : Doc} {p : Nat} {nd nw : Nd} {k1 k2 k3 k4 k5 : Str} {t0 t1 t2 t3 t4 t5 : Tok} (Y : Lay K) (C : Cx K (hideAll s.heap (T.led.map (·.1)))) (r : Rm A 10) (hX : Holds T.led s.heap) (ndp : (T.led.map (·.1)).Nodup)
    (ok : TreeOk T D) (hsm : D.length < 64) (hpar : ∀ j q, parOf D j = some q → q < D.length) (hp : D[p]? = some nd) (hw : nd.w ≠ "text") (hnw : nw.par = some p) (e1 : k1 = kindOf nw) (e2 : k2 = wordOf nw) (e3 : k3 = "") (e4 : k4 = wordOf nw)
    (ret : ∀ T' u s', T'.t = T.t → TreeOk T' (D ++ [nw]) → PurX T.led T'.led s s' → Q (.int (D.length : Nat) u) s') :
    wpAny (model prog w) A (call (.ref 282) [.ref T.t, .int (p : Nat) t0, .str k1 t1, .str k2 t2, .str k3 t3, .str k4 t4, .str k5 t5]) Q E s := by
  subst e1 e2 e3 e4
  refine enterX T.led Y.f_t_add_child C.hide r ["self", "parent", "kind", "name", "uri", "local", "value"] hX ndp (fun L s₁ F => ?_)
  have r' := r.deeper (envF "Tree.add_child" (clsAt 35 4) L 282)
  have F := Fm.perm F (own' := [] ++ T.led) (List.Perm.refl _)
  obtain ⟨hlt, -⟩ := List.getElem?_eq_some_iff.mp hp
  have hlen := ok.len
  obtain ⟨Rp, hRp⟩ : ∃ Rp, T.rows[p]? = some Rp := ⟨_, List.getElem?_eq_getElem (by omega)⟩
  have okR := ok.row p nd Rp hp hRp
  obtain ⟨tk, hk⟩ := okR.kind
  refine S_if (T_bool (and_cons (T_cmp (nmL F rfl (E_none (cmp_isnot (tr_bool ?_)))))))
  show wpAll _ _ _ _ _ _ _
  refine and_cons (T_cmp (E_attrT (E_meth Y.f_t_row Y.cT.ga Y.cT.gk Y.m_row (nmL F rfl ⟨T.t, _, _, rfl, F.cx C, TreeA.inst F.holds, sh_T T rfl, nmL F rfl ⟨F.cx C, ?_⟩⟩)))) 
  refine row_spec Y (F.cx C) (r'.mono (by omega)) ok F.holds hRp fun s₂ pu => ?_
  have F := F.pur pu
  obtain ⟨cd, hcd, hdd⟩ := Y.cR.cd
  refine fld hcd hdd Y.r_kind Y.cR.ga (F.cx C) (RowA.inst (TreeA.rowLed F.holds (List.mem_of_getElem? hRp))) hk rfl ?_
  have F := F.tok (s₂.toks + 1)
  obtain ⟨ta, ua, na, hPA⟩ := Y.v_PARENTS
  refine nmG (F.cx C) Y.n_PARENTS (notin_tuple_strs (isT ((F.cx C).X _ _ hPA)) strs2 (tr_bool ?_))
  have hin : (!((["root", "element"] : List Str).any (· == kindOf nd))) = false := by
    unfold kindOf
    split
    · decide +kernel
    · decide +kernel
  rw [hin]
  refine S_nil (S_asg (E_meth Y.f_t_new_row Y.cT.ga Y.cT.gk Y.m_new_row (nmL F rfl ⟨T.t, _, _, rfl, F.cx C, TreeA.inst F.holds, sh_T T rfl, nmL F rfl (nmL F rfl (nmL F rfl (nmL F rfl (nmL F rfl (nmL F rfl ⟨F.cx C, ?_⟩)))))⟩)))
  refine new_row_spec Y (C.keeps (Fm.hid F)) (r'.mono (by omega)) F.holds F.ndX (by omega) fun R ln u s₃ hR q => ?_
  have F := F.swap q
  refine stL F fun s₄ F => ?_
  refine S_if (T_cmp (nmL F (put_ne rfl) (E_none (cmp_isnot (tr_bool ?_)))))
  show wpS _ _ _ _ _ _ _
  have hRp' : (T.rows ++ [R])[p]? = some Rp := by rw [List.getElem?_append_left (by omega)]; exact hRp
  have hRm : Rp ∈ T.rows ++ [R] := List.mem_of_getElem? hRp'
  refine S_exp (E_methB PySem.F.plainAttrs_list PySem.F.slot_list_append PySem.F.type_list_append (E_attrT (E_sub (E_attrN (nmL F (put_ne rfl) (rows_get Y (F.cx C) F.holds (nmL (F.tok _) (put_ne rfl) ?_)))))))
  have F := F.tok (s₄.toks + 1)
  refine sub_l (TreeA.list F.holds) (by omega) (by omega) (v := .ref Rp.r) (by rw [List.getElem?_map]; simp [hRp']) ?_
  refine fld hcd hdd Y.r_children Y.cR.ga (F.cx C) (RowA.inst (TreeA.rowLed F.holds hRm)) okR.children rfl ?_
  have F := F.tok (s₄.toks + 1 + 1)
  have hpl : p < (T.rows ++ [R]).length := by simp; omega
  have esp : T.rows ++ [R] = (T.rows ++ [R]).take p ++ Rp :: (T.rows ++ [R]).drop (p + 1) := by
    obtain ⟨_, hget⟩ := List.getElem?_eq_some_iff.mp hRp'
    rw [← hget, ← List.drop_eq_getElem_cons hpl, List.take_append_drop]
  have hc : s₄.heap.get? Rp.c = some (lst Rp.cv Rp.cn) := TreeA.rowLed F.holds hRm (Rp.c, _) (.tail _ (.tail _ (.head _)))
  refine ⟨typeL hc, noD hc, nmL F put_same ?_⟩
  have F := Fm.perm F (own' := Rp.led ++ ((T.t, instObj 425 T.d) :: (T.d, T.od) :: (T.l, lst ((T.rows ++ [R]).map fun R => .ref R.r) ln) :: (((T.rows ++ [R]).take p).flatMap RowA.led ++ ((T.rows ++ [R]).drop (p + 1)).flatMap RowA.led))) (by
    show ((T.t, instObj 425 T.d) :: (T.d, T.od) :: (T.l, lst ((T.rows ++ [R]).map fun R => .ref R.r) ln) :: (T.rows ++ [R]).flatMap RowA.led).Perm _
    refine List.Perm.trans ?_ List.perm_append_comm
    refine .cons _ (.cons _ (.cons _ ?_))
    conv => lhs; rw [esp]
    rw [List.flatMap_append, List.flatMap_cons]
    exact perm_mid _ _ _)
  have hcl : Rp.cv.length ≤ 64 := by have := okR.kids.length; have := kids_len (D := D) (p := p); omega
  refine l_append F 2 rfl (by omega) fun n' s₅ F => ?_
  have F := Fm.perm F (own' := [] ++ ({ T with rows := (T.rows ++ [R]).set p { Rp with cv := Rp.cv ++ [.int (D.length : Nat) u], cn := n' }, ln := ln } : TreeA).led) (by
    rw [← hlen]
    show (RowA.led { Rp with cv := Rp.cv ++ [.int (T.rows.length : Nat) u], cn := n' } ++ ((T.t, instObj 425 T.d) :: (T.d, T.od) :: (T.l, lst ((T.rows ++ [R]).map fun R => .ref R.r) ln) :: (((T.rows ++ [R]).take p).flatMap RowA.led ++ ((T.rows ++ [R]).drop (p + 1)).flatMap RowA.led))).Perm _
    refine List.perm_append_comm.trans ?_
    have em : ((T.rows ++ [R]).set p { Rp with cv := Rp.cv ++ [.int (T.rows.length : Nat) u], cn := n' }).map (fun R => Value.ref R.r) = (T.rows ++ [R]).map fun R => Value.ref R.r := by
      rw [List.map_set]
      apply List.ext_getElem?
      intro q
      rw [List.getElem?_set]
      split
      · rename_i e; subst e
        rw [List.length_map, if_pos hpl, List.getElem?_map, hRp']; rfl
      · rfl
    show List.Perm _ ((T.t, instObj 425 T.d) :: (T.d, T.od) :: (T.l, lst (((T.rows ++ [R]).set p { Rp with cv := Rp.cv ++ [.int (T.rows.length : Nat) u], cn := n' }).map fun R => .ref R.r) ln) :: ((T.rows ++ [R]).set p { Rp with cv := Rp.cv ++ [.int (T.rows.length : Nat) u], cn := n' }).flatMap RowA.led)
    rw [em, List.set_eq_take_append_cons_drop, if_pos hpl, List.flatMap_append, List.flatMap_cons]
    refine .cons _ (.cons _ (.cons _ ?_))
    exact (perm_mid _ _ _).symm)
  refine S_nil (S_ret (nmL F put_same ?_))
  rw [hlen]
  exact ret { T with rows := (T.rows ++ [R]).set p { Rp with cv := Rp.cv ++ [.int (D.length : Nat) u], cn := n' }, ln := ln } _ _ rfl (tree_grow ok hnw hRp hsm hpar hR (by rw [hnw]; exact ⟨_, rfl⟩)) F.backX
theorem add_element_spec {T : TreeA} {D : Doc} {p : Nat} {nd : Nd} {wd : Str} {t0 t1 t2 t3 : Tok} (Y : Lay K) (C : Cx K (hideAll s.heap (T.led.map (·.1)))) (r : Rm A 11) (hX : Holds T.led s.heap) (ndp : (T.led.map (·.1)).Nodup)
    (ok : TreeOk T D) (hsm : D.length < 64) (hpar : ∀ j q, parOf D j = some q → q < D.length) (hp : D[p]? = some nd) (hw : nd.w ≠ "text") (w1 : wd ≠ "root") (w2 : wd ≠ "text")
    (ret : ∀ T' u s', T'.t = T.t → TreeOk T' (D ++ [⟨some p, wd⟩]) → PurX T.led T'.led s s' → Q (.int (D.length : Nat) u) s') :
    wpAny (model prog w) A (call (.ref 289) [.ref T.t, .int (p : Nat) t0, .str wd t1, .str "" t2, .str wd t3]) Q E s := by
  refine enterX T.led Y.f_t_add_element C.hide r ["self", "parent", "name", "uri", "local"] hX ndp (fun L s₁ F => ?_)
  have r' := r.deeper (envF "Tree.add_element" (clsAt 35 5) L 289)
  have F := Fm.perm F (own' := [] ++ T.led) (List.Perm.refl _)
  refine S_ret (E_meth Y.f_t_add_child Y.cT.ga Y.cT.gk Y.m_add_child (nmL F rfl ⟨T.t, _, _, rfl, F.cx C, TreeA.inst F.holds, sh_T T rfl, nmL F rfl (E_str (nmL (F.tok _) rfl (nmL (F.tok _) rfl (nmL (F.tok _) rfl (E_str ⟨((F.tok _).tok _).cx C, ?_⟩)))))⟩))
  have F := (F.tok (s₁.toks + 1)).tok (s₁.toks + 1 + 1)
  have hk : kindOf ⟨some p, wd⟩ = "element" := by unfold kindOf; rw [if_neg w1, if_neg w2]
  have hwd : wordOf ⟨some p, wd⟩ = wd := by unfold wordOf; rw [if_neg w1, if_neg w2]
  refine add_child_spec Y (C.keeps (Fm.hid F)) (r'.mono (by omega)) F.holds F.ndX ok hsm hpar hp hw (nw := ⟨some p, wd⟩) rfl hk.symm hwd.symm rfl hwd.symm fun T' u s₂ h1 h2 q => ?_
  exact ret _ _ _ h1 h2 (F.swap q).backX
theorem add_text_spec {T : TreeA} {D : Doc} {p : Nat} {nd : Nd} {x : Str} {t0 t1 : Tok} (Y : Lay K) (C : Cx K (hideAll s.heap (T.led.map (·.1)))) (r : Rm A 11) (hX : Holds T.led s.heap) (ndp : (T.led.map (·.1)).Nodup)
    (ok : TreeOk T D) (hsm : D.length < 64) (hpar : ∀ j q, parOf D j = some q → q < D.length) (hp : D[p]? = some nd) (hw : nd.w ≠ "text")
    (ret : ∀ T' u s', T'.t = T.t → TreeOk T' (D ++ [⟨some p, "text"⟩]) → PurX T.led T'.led s s' → Q (.int (D.length : Nat) u) s') :
    wpAny (model prog w) A (call (.ref 296) [.ref T.t, .int (p : Nat) t0, .str x t1]) Q E s := by
  refine enterX T.led Y.f_t_add_text C.hide r ["self", "parent", "value"] hX ndp (fun L s₁ F => ?_)
  have r' := r.deeper (envF "Tree.add_text" (clsAt 35 6) L 296)
  have F := Fm.perm F (own' := [] ++ T.led) (List.Perm.refl _)
  refine S_ret (E_meth Y.f_t_add_child Y.cT.ga Y.cT.gk Y.m_add_child (nmL F rfl ⟨T.t, _, _, rfl, F.cx C, TreeA.inst F.holds, sh_T T rfl, nmL F rfl (E_str (E_str (E_str (E_str (nmL ((((F.tok _).tok _).tok _).tok _) rfl ⟨((((F.tok _).tok _).tok _).tok _).cx C, ?_⟩)))))⟩))
  have F := (((F.tok (s₁.toks + 1)).tok (s₁.toks + 1 + 1)).tok (s₁.toks + 1 + 1 + 1)).tok (s₁.toks + 1 + 1 + 1 + 1)
  have hk : kindOf ⟨some p, "text"⟩ = "text" := by unfold kindOf; rw [if_neg (show ¬ (("text" : Str) = "root") by decide +kernel), if_pos rfl]
  have hwd : wordOf ⟨some p, "text"⟩ = "" := by unfold wordOf; rw [if_neg (show ¬ (("text" : Str) = "root") by decide +kernel), if_pos rfl]
  refine add_child_spec Y (C.keeps (Fm.hid F)) (r'.mono (by omega)) F.holds F.ndX ok hsm hpar hp hw (nw := ⟨some p, "text"⟩) rfl hk.symm hwd.symm rfl hwd.symm fun T' u s₂ h1 h2 q => ?_
  exact ret _ _ _ h1 h2 (F.swap q).backX
/-- Tree() -/
theorem tree_new (Y : Lay K) (C : Cx K h₀) (r : Rm A 3) (F : Fm h₀ L m own G O s)
    (h : ∀ (T : TreeA) s', T.rows = [] → Fm h₀ L m (own ++ T.led) G O s' → Q (.ref T.t) s') :
    wpAny (model prog w) A (call (.ref 425) []) Q NR s := by
  refine new_cls F (F.cx C) Y.cT Y.i_T Y.f_iT fun x dx s₁ F => ?_
  have F1 : Fm h₀ L m (own ++ [(x, instObj 425 dx), (dx, dictOf [] 0)]) G O s₁ := F.perm (List.perm_append_comm (l₁ := [(x, instObj 425 dx), (dx, dictOf [] 0)]) (l₂ := own))
  refine enterI [(x, instObj 425 dx), (dx, dictOf [] 0)] Y.f_iT (F.cx C) (r.made _ _) ["self"] F1.hasX F1.ndX fun L' s₂ F2 => ?_
  have C2 := C.keeps F1.hid
  refine S_attr (E_list (newL F2 fun l s₃ F2 => nmL F2 rfl (set_fld (F2.cx C2) Y.cT Y.t_rows F2 1 2 rfl rfl rfl (Nat.le_of_ble_eq_true rfl) fun s₄ F2 => S_nil ?_)))
  have F3 := Fm.perm F2 (List.perm_append_comm (l₁ := [(l, lst [] 0)]) (l₂ := [(x, instObj 425 dx), (dx, _)]))
  have F4 := F1.swap (Fm.backX (s₀ := s₁) (X := [(x, instObj 425 dx), (dx, dictOf [] 0)]) (own := []) F3)
  exact h ⟨x, dx, l, _, _, _, 0, []⟩ _ rfl F4
end
end Mine

end LN_part
section LP_part
set_option maxHeartbeats 1000000
namespace Mine
open PySem PySem.W PySem.Calls PySem.Spec PyProof.Rows

/-! plain law: a document that grows in preorder -/
theorem wf_push {D : Doc} {nd : Nd} (wf : Wf D) (hn : ∀ q, nd.par = some q → q < D.length) : Wf (D ++ [nd]) := by
  intro i p h
  by_cases hi : i < D.length
  · rw [parOf_push_lt hi] at h; exact wf i p h
  · by_cases he : i = D.length
    · subst he; rw [parOf_push_eq] at h; exact hn p h
    · have : parOf (D ++ [nd]) i = none := by
        unfold parOf; rw [List.getElem?_eq_none (by simp; omega)]; rfl
      rw [this] at h; cases h
theorem above_push_lt {D : Doc} {nd : Nd} (wf : Wf D) (wf' : Wf (D ++ [nd])) : ∀ j, j < D.length → above (D ++ [nd]) j = above D j := by
  intro j
  induction j using Nat.strongRecOn with
  | _ j ih =>
    intro hj
    have e := parOf_push_lt (nd := nd) hj
    cases h : parOf D j with
    | none => rw [above_none h, above_none (e.trans h)]
    | some p =>
      have hp := wf j p h
      rw [above_some wf h, above_some wf' (e.trans h), ih p hp (by omega)]
theorem above_push_eq {D : Doc} {nd : Nd} {p : Nat} (wf : Wf D) (wf' : Wf (D ++ [nd])) (hn : nd.par = some p) (hp : p < D.length) : above (D ++ [nd]) D.length = p :: above D p := by
  rw [above_some wf' (parOf_push_eq.trans hn), above_push_lt wf wf' p hp]
theorem Pre.par_lt {D : Doc} (P : Pre D) : ∀ j q, parOf D j = some q → q < D.length := by
  intro j q h
  have h1 := P.wf j q h
  by_cases hj : j < D.length
  · omega
  · rw [P.out j (by omega)] at h; cases h
theorem Pre.push {D : Doc} {nd : Nd} {p : Nat} (P : Pre D) (hn : nd.par = some p) (hp : p = D.length - 1 ∨ p ∈ above D (D.length - 1)) (hlt : p < D.length) : Pre (D ++ [nd]) := by
  have hq : ∀ q, nd.par = some q → q < D.length := fun q e => by rw [hn] at e; cases e; exact hlt
  have wf' := wf_push P.wf hq
  have hpos := P.pos
  refine ⟨wf', by rw [parOf_push_lt hpos]; exact P.root, fun i hi => ?_, fun i hi => ?_, by simp⟩
  · rw [List.length_append, List.length_singleton] at hi
    by_cases h2 : i + 1 < D.length
    · rw [parOf_push_lt h2, above_push_lt P.wf wf' i (by omega)]
      exact P.next i h2
    · have : i + 1 = D.length := by omega
      rw [this, parOf_push_eq, hn, above_push_lt P.wf wf' i (by omega)]
      have e : i = D.length - 1 := by omega
      exact ⟨p, rfl, by rw [e]; exact hp⟩
  · unfold parOf
    rw [List.getElem?_eq_none hi]; rfl
structure LineOk (D : Doc) (ys : List Nat) : Prop where
  ne : ys ≠ []
  chain : ys.Pairwise fun a b => a ∈ above D b
  last : ∀ q ∈ ys, q = D.length - 1 ∨ q ∈ above D (D.length - 1)
  words : ∀ q ∈ ys, ∃ nd, D[q]? = some nd ∧ nd.w ≠ "text"
  len : ys.length ≤ D.length
theorem LineOk.take {D : Doc} {ys : List Nat} (x : LineOk D ys) (k : Nat) : LineOk D (ys.take (k + 1)) :=
  ⟨by have := x.ne; cases ys with
      | nil => exact absurd rfl this
      | cons a r => simp, x.chain.sublist (List.take_sublist ..), fun q hq => x.last q (List.mem_of_mem_take hq), fun q hq => x.words q (List.mem_of_mem_take hq), by have := x.len; rw [List.length_take]; omega⟩
theorem line_last {D : Doc} {ys zs : List Nat} {p : Nat} (x : LineOk D ys) (e : ys = zs ++ [p]) : (∀ q ∈ ys, q = p ∨ q ∈ above D p) := by
  intro q hq
  subst e
  rcases List.mem_append.mp hq with h | h
  · exact .inr ((List.pairwise_append.mp x.chain).2.2 q h p (by simp))
  · exact .inl (List.mem_singleton.mp h)
theorem LineOk.text {D : Doc} {ys zs : List Nat} {p : Nat} {nd : Nd} (P : Pre D) (x : LineOk D ys) (e : ys = zs ++ [p]) (hn : nd.par = some p) : LineOk (D ++ [nd]) ys := by
  have hmem : p ∈ ys := by rw [e]; simp
  obtain ⟨np, h1, h2⟩ := x.words p hmem
  have hlt := (List.getElem?_eq_some_iff.mp h1).1
  have hlts : ∀ q ∈ ys, q < D.length := fun q hq => by
    obtain ⟨nd, h, _⟩ := x.words q hq
    exact (List.getElem?_eq_some_iff.mp h).1
  have wf' := wf_push (nd := nd) P.wf (fun q e => by rw [hn] at e; cases e; exact hlt)
  refine ⟨x.ne, ?_, fun q hq => ?_, fun q hq => ?_, by have := x.len; simp; omega⟩
  · refine x.chain.imp_of_mem fun {a b} ha hb h => ?_
    rw [above_push_lt P.wf wf' b (hlts b hb)]; exact h
  · rw [List.length_append, List.length_singleton, Nat.add_sub_cancel, above_push_eq P.wf wf' hn hlt]
    rcases line_last x e q hq with rfl | h
    · exact .inr (.head _)
    · exact .inr (.tail _ h)
  · obtain ⟨nd', h, hw⟩ := x.words q hq
    exact ⟨nd', by rw [List.getElem?_append_left (hlts q hq)]; exact h, hw⟩
theorem LineOk.elem {D : Doc} {ys zs : List Nat} {p : Nat} {nd : Nd} (P : Pre D) (x : LineOk D ys) (e : ys = zs ++ [p]) (hn : nd.par = some p) (hw : nd.w ≠ "text") : LineOk (D ++ [nd]) (ys ++ [D.length]) := by
  have y := x.text P e hn
  have y2 := y.last
  rw [List.length_append, List.length_singleton, Nat.add_sub_cancel] at y2
  have hlts : ∀ q ∈ ys, q < D.length := fun q hq => by
    obtain ⟨nd, h, _⟩ := x.words q hq
    exact (List.getElem?_eq_some_iff.mp h).1
  refine ⟨by simp, List.pairwise_append.mpr ⟨y.chain, by simp, fun a ha b hb => ?_⟩, fun q hq => ?_, fun q hq => ?_, by have := x.len; simp; omega⟩
  · rw [List.mem_singleton.mp hb]
    rcases y2 a ha with h | h
    · have := hlts a ha; omega
    · exact h
  · rw [List.length_append, List.length_singleton, Nat.add_sub_cancel]
    rcases List.mem_append.mp hq with hq | hq
    · exact y2 q hq
    · exact .inl (List.mem_singleton.mp hq)
  · rcases List.mem_append.mp hq with hq | hq
    · exact y.words q hq
    · rw [List.mem_singleton.mp hq]; exact ⟨nd, by simp, hw⟩
theorem pre_root : Pre [⟨none, "root"⟩] := by
  refine ⟨fun i p h => ?_, rfl, fun i hi => ?_, fun i hi => ?_, by simp⟩
  · cases i with
    | zero => cases h
    | succ i => simp [parOf] at h
  · simp at hi
  · unfold parOf; rw [List.getElem?_eq_none hi]; rfl
theorem line_root : LineOk [⟨none, "root"⟩] [0] :=
  ⟨by simp, by simp, fun q hq => .inl (List.mem_singleton.mp hq), fun q hq => by rw [List.mem_singleton.mp hq]; exact ⟨_, rfl, by decide +kernel⟩, by simp⟩

/-! the book as it grows -/
structure BookL (prog : Program) (w : World) (D : Doc) (bo : Obj) (tu : Led) : Prop where
  ex : ∃ kvs, bo.IsDictOf (intKind prog w) kvs ∧ keysN kvs (List.range D.length) ∧
    ∀ (i : Nat) (nd : Nd), D[i]? = some nd → ∃ a n v u, valueAt kvs (i : Int) = some (.ref a) ∧ (a, tup [v, .str nd.w u] n) ∈ tu ∧ ParV v nd.par
theorem BookL.is {prog : Program} {w : World} {D : Doc} {bo : Obj} {tu : Led} {b : Addr} {h : Heap} (x : BookL prog w D bo tu) (lo : (b == sysModules) = false) (hb : h.get? b = some bo) (ht : Holds tu h) : BookIs prog w h b D := by
  obtain ⟨kvs, h1, h2, h3⟩ := x.ex
  refine ⟨lo, bo, kvs, hb, h1, h2, fun i nd hi => ?_⟩
  obtain ⟨a, n, v, u, e1, e2, e3⟩ := h3 i nd hi
  exact ⟨a, n, v, u, e1, ht _ e2, e3⟩
theorem BookL.push {prog : Program} {w : World} {D : Doc} {bo' : Obj} {tu : Led} {nd : Nd} {a : Addr} {n : Nat} {v : Value} {u : Tok} {kvs : List (Int × Value)} (h2 : keysN kvs (List.range D.length))
    (h3 : ∀ (i : Nat) (nd : Nd), D[i]? = some nd → ∃ a n v u, valueAt kvs (i : Int) = some (.ref a) ∧ (a, tup [v, .str nd.w u] n) ∈ tu ∧ ParV v nd.par)
    (hb : bo'.IsDictOf (intKind prog w) (stored kvs (D.length : Int) (.ref a))) (hv : ParV v nd.par) : BookL prog w (D ++ [nd]) bo' ((a, tup [v, .str nd.w u] n) :: tu) := by
  have hnone : valueAt kvs (D.length : Int) = none := by
    have := h2.isSome D.length
    rw [decide_eq_false (by simp)] at this
    cases q : valueAt kvs (D.length : Int) with
    | none => rfl
    | some x => rw [q] at this; cases this
  refine ⟨_, hb, ?_, fun i nd' hi => ?_⟩
  · unfold keysN
    rw [stored_new hnone, List.map_append, List.length_append, List.length_singleton, List.range_succ, List.map_append, h2]; rfl
  · rw [valueAt_new hnone]
    obtain ⟨hlt, -⟩ := List.getElem?_eq_some_iff.mp hi
    by_cases h : i < D.length
    · rw [List.getElem?_append_left h] at hi
      obtain ⟨a', n', v', u', e1, e2, e3⟩ := h3 i nd' hi
      rw [if_neg (by omega)]
      exact ⟨a', n', v', u', e1, .tail _ e2, e3⟩
    · have : i = D.length := by simp at hlt; omega
      subst this
      have e : nd = nd' := by simpa using hi
      subst e
      rw [if_pos rfl]
      exact ⟨a, n, v, u, rfl, .head _, hv⟩
end Mine

end LP_part
section LQ_part
set_option maxHeartbeats 4000000
namespace Mine
open PySem PySem.W PySem.Calls PySem.Spec PyProof.Rows

section
variable {prog : Program} {w : World} {A : Around} {E : Value → Shared → Prop} {s : Shared} {env : Env} {K : Frag} {h₀ : Heap} {L : Addr} {m : Str → Option Value} {own : Led} {G : Array GenState} {O : OsState} {N : Shared → Prop} {R : Value → Shared → Prop} {rest : List Stmt} {Q : Value → Shared → Prop}
theorem rng2 {a b : Int} {t u : Tok} (F : Fm h₀ L m own G O s) (h : ∀ r v s', Fm h₀ L m ((r, { cls := .type "range", data := .fields #[.int a t, .int b u, .int 1 v] }) :: own) G O s' → Q (.ref r) s') :
    wpAny (model prog w) A (call (.type "range") [.int a t, .int b u]) Q NR s :=
  call_range_2 (h _ _ _ ((F.alloc rfl).tok _))
theorem sub_last {value slice : Expr} {l : Addr} {n : Nat} {vi : List Value} {v : Value} {u : Tok} {hp : Heap} (e : hp.get? l = some (lst (vi ++ [v]) n)) (h : Q v s) (hh : s.heap = hp := by rfl)
    (hs : subscripted slice false (.ref l) (.int (-1) u) = operate [.ref l, .int (-1) u] (getItem (.ref l) (.int (-1) u)) := by with_unfolding_all rfl) :
    wpAny (model prog w) A (subscriptTail value slice (.ref l) (.int (-1) u)) Q NR s := by
  subst hh
  exact tail_any (isL e).typeIs slot_list_getitem.lookup (wpAny_getItem_list_neg (isL e) (by decide) (by simp; omega) (by decide) (by
    have e : ((-1 : Int) + ((vi ++ [v]).toArray.size : Int)).toNat = vi.length := by simp; omega
    rw [e]; simp) h) hs
/-- for x in range(a, a + n) -/
theorem S_for_range {iter : Expr} {x : Str} {px pos : Pos} {body : List Stmt} {m₀ : Str → Option Value} {own₀ : Led} {s₀ : Shared} (_F : Fm h₀ L m₀ own₀ G O s₀) (hh : A.handled = none)
    (h : wpE (model prog w) A iter env (fun xv s₁ => ∃ (r : Addr) (a n : Nat) (t u v : Tok) (Inv : Nat → (Str → Option Value) → Led → Prop) (m : Str → Option Value) (own : Led), xv = .ref r ∧ IsRange s₁.heap r (a : Int) ((a + n : Nat) : Int) 1 t u v ∧ a + n ≤ 1000 ∧ Fm h₀ L m own G O s₁ ∧ Inv 0 m own ∧
      (∀ i t m own o I s, i < n → Inv i m own → Fm h₀ L (put m x (.int ((a + i : Nat) : Int) t)) (own ++ [(I, o)]) G O s →
        wpS (model prog w) A body env (fun s' => ∃ m' own', Inv (i + 1) m' own' ∧ Fm h₀ L m' (own' ++ [(I, o)]) G O s') R s) ∧
      (∀ m own s, Inv n m own → Fm h₀ L m own G O s → wpS (model prog w) A rest env N R s)) s)
    (hL : env.locals = L := by rfl) (hk : env.scope.kind = .function := by rfl) (hl : env.kindOf x = some .local := by rfl)
    (hs : ∀ x, foldedSetIterable iter env x = pure x := by intro _; rfl) : wpS (model prog w) A (.For (.Name x px) iter body [] pos :: rest) env N R s := by
  refine S_for_ (h₀ := h₀) (L := L) (G := G) (O := O) (wpAny_mono h (fun xv s₁ h₁ => ?_) fun _ _ x => x) hL hk hl hs
  obtain ⟨r, a, n, t, u, v, Inv, m, own, rfl, hr, han, F, h0, turn, fin⟩ := h₁
  refine wpAny_pyIter_range hr (small_one (by omega) (by omega) (by omega) (by omega)) ?_
  have W := (Walks.range (prog := prog) (w := w) hh s₁.heap.objs.size (a : Int) 1 n).bound
  refine ⟨_, _, _, n, _, _, Inv, m, own, rfl, W, addAt (F.alloc rfl), ?_, fun b hb => .inl (List.mem_singleton.mp hb), fun i h hi => ⟨_, hi⟩, h0, ?_, fin⟩
  · show IsRangeIter _ _ _ _ _
    have e : Builtin.Range.rangeSize (a : Int) ((a + n : Nat) : Int) 1 = (n : Int) := by rw [rangeSize_one]; split <;> omega
    rw [e]
    simpa using Heap.get?_push_size _ rfl
  · rintro i v m own o s hi ⟨_, t, rfl⟩ hI F
    have e : (a : Int) + (i : Int) * 1 = ((a + i : Nat) : Int) := by omega
    rw [e] at F
    exact turn i t m own o _ s hi hI F
end
end Mine

end LQ_part
section LR_part
set_option maxHeartbeats 4000000
namespace Mine
open PySem PySem.W PySem.Calls PySem.Spec PyProof.Rows

theorem perm_in {α : Type} (A B C : List α) : ((A ++ B) ++ C).Perm ((A ++ C) ++ B) := by
  rw [List.append_assoc, List.append_assoc]
  exact (List.Perm.refl A).append List.perm_append_comm
theorem pmD {α : Type} (te l2 b : α) (tu T I S : List α) : (te :: l2 :: b :: (((tu ++ T) ++ I) ++ S)).Perm ((((l2 :: b :: (te :: tu)) ++ I) ++ S) ++ T) := by
  have h1 : (te :: l2 :: b :: (((tu ++ T) ++ I) ++ S)).Perm (l2 :: b :: te :: (((tu ++ T) ++ I) ++ S)) := (List.Perm.swap _ _ _).trans (.cons _ (List.Perm.swap _ _ _))
  refine h1.trans (.cons _ (.cons _ (.cons _ ?_)))
  exact (List.Perm.append_right S (perm_in tu T I)).trans (perm_in (tu ++ I) T S)
theorem pmE {α : Type} (l2 b : α) (tu T I S : List α) : ((((l2 :: b :: tu) ++ I) ++ S) ++ T).Perm ((((l2 :: b :: (tu ++ T))) ++ S) ++ I) := by
  refine (List.Perm.trans (perm_in ((l2 :: b :: tu) ++ I) S T) ?_).trans (perm_in _ I S)
  exact List.Perm.append_right S (perm_in (l2 :: b :: tu) I T)
theorem sub_l4 {α : Type} (l4 l3 l2 b : α) (tu I S T : List α) : ((((l4 :: b :: tu) ++ I) ++ S) ++ T).Sublist (l4 :: l3 :: ((((l2 :: b :: tu) ++ I) ++ S) ++ T)) := .cons_cons _ (.cons _ (.cons _ (.refl _)))
section
variable {prog : Program} {w : World} {A : Around} {E : Value → Shared → Prop} {s : Shared} {env : Env} {K : Frag} {h₀ : Heap} {L : Addr} {m : Str → Option Value} {own : Led} {G : Array GenState} {O : OsState} {N : Shared → Prop} {R : Value → Shared → Prop} {rest : List Stmt} {Q : Value → Shared → Prop}
theorem law_document_spec {src : Addr} {o : Obj} (Y : Lay K) (C : Cx K (hideAll s.heap [src])) (r : Rm A 14) (ho : s.heap.get? src = some o) (hS : SrcO o)
    (ret : ∀ d T bo b tu D o' s', PurX [(src, o)] ((d, tup [.ref (TreeA.t T), .ref b] 0) :: (b, bo) :: (tu ++ (T.led ++ [(src, o')]))) s s' → TreeOk T D → BookL prog w D bo tu → (b == sysModules) = false → Pre D → D.length ≤ 8 → SrcO o' → Q (.ref d) s') :
    wpAny (model prog w) A (call (.ref 500) [.ref src]) Q E s := by
  refine enterX [(src, o)] Y.f_law_document C.hide r ["source"] (fun p hp => by rw [List.mem_singleton.mp hp]; exact ho) (by simp) (fun L s₁ F => ?_)
  have r' := r.deeper (envF "_law_document" (stmtAt 45) L 500)
  refine @S_asgT2 _ _ _ _ _ _ _ _ _ _ _ _ _ _ _ _ _ _ _ _ "tree" "book" F r'.h ?_ rfl rfl rfl rfl rfl
  refine @E_tup _ _ _ _ _ _ _ _ _ ?_ rfl
  refine E_cls (F.cx C) Y.n_Tree Y.cT.kp ⟨F.cx C, tree_new Y C (r'.mono (by omega)) F fun T s₂ hT F => ?_⟩
  refine @E_dict _ _ _ _ _ _ _ _ _ _ _ _ _ _ _ _ _ (intKind prog w) F C.lim (fun b s₃ lob F => ?_) rfl rfl (by simp) (by simp)
  refine P_cons (E_int (E_tup (E_none (E_str (newT ((F.tok _).tok _) fun e s₄ F => P_nil ⟨_, _, 1, [(0, .ref e)], rfl, F, ⟨rfl, rfl, trivial⟩, fun bo s₅ hbo F => ?_⟩)))))
  refine newT F fun d s₆ F => ⟨d, _, _, 0, _, _, rfl, F, F.at 0 rfl, fun s₇ F => ?_⟩
  have F := Fm.perm (F.cut 1) (own' := (((b, bo) :: [(e, tup [.none, .str "root" ((s₃.toks + 1))] 0)]) ++ [(src, o)]) ++ T.led) (List.Perm.swap _ _ _)
  refine S_exp (E_meth Y.f_t_new_root Y.cT.ga Y.cT.gk Y.m_new_root (nmL F put_same ⟨T.t, _, _, rfl, F.cx C, TreeA.inst F.holds, sh_T T rfl, F.cx C, ?_⟩))
  refine new_root_spec Y (C.keeps F.hid) (r'.mono (by omega)) F.holds F.ndX hT fun T' v s₈ ht' hok p => ?_
  have F := F.swap p
  rw [← ht'] at F
  refine S_asg (E_list (E_int (newL (F.tok _) fun ln s₉ F => stL F fun s₁₀ F => ?_)))
  have F := Fm.perm F (own' := ((ln, lst [.int 0 s₈.toks] 0) :: (b, bo) :: ([(e, tup [.none, .str "root" ((s₃.toks + 1))] 0)] ++ T'.led)) ++ [(src, o)]) (perm_in ((ln, lst [.int 0 s₈.toks] 0) :: (b, bo) :: [(e, tup [.none, .str "root" ((s₃.toks + 1))] 0)]) [(src, o)] T'.led)
  refine S_for_range F r'.h (E_bi (F.cx C) Y.b_range bb_range (by simp) (E_int (E_bin (E_int (E_fn Y.f_law_take (((F.tok _).tok _).cx C) Y.n_law_take (nmL ((F.tok _).tok _) (put_ne (put_ne (put_ne rfl))) (E_int ⟨(((F.tok _).tok _).tok _).cx C, ?_⟩)))))) (by decide +kernel))
  have F := F.tok (s₁₀.toks + 1 + 1 + 1)
  refine take_spec Y (C.keeps F.hid) (r'.mono (by omega)) (F.hasX (src, o) (.head _)) hS (by decide) (by decide) fun d u o' s₁₁ p hS' hd => ?_
  have F := F.swap p
  have hd6 : d < 6 := hd
  refine PyProof.Rows.add_int ?_
  have e3 : (3 : Int) + ((d : Nat) : Int) = ((1 + (2 + d) : Nat) : Int) := by omega
  rw [e3]
  refine rng2 (F.tok _) fun rr vv s₁₂ F => ?_
  refine ⟨rr, 1, 2 + d, _, _, _, (fun i m own => ∃ (D : Doc) (T : TreeA) (bo : Obj) (tu : Led) (so : Obj) (ln : Addr) (zs : List Value) (nz : Nat) (ys : List Nat), own = ((ln, lst zs nz) :: (b, bo) :: (tu ++ T.led)) ++ [(src, so)] ∧ T.t = T'.t ∧ D.length = 1 + i ∧ Pre D ∧ TreeOk T D ∧ BookL prog w D bo tu ∧ SrcO so ∧ NatsAre zs ys ∧ LineOk D ys ∧
    m "tree" = some (.ref T'.t) ∧ m "book" = some (.ref b) ∧ m "line" = some (.ref ln) ∧ m "source" = some (.ref src)), _, _, rfl, F.at 0 rfl, by omega, F.cut 1, ?_, fun i t m own ox I s₁₃ hi hI F => ?_, fun m own s₁₃ hI F => ?_⟩
  · refine ⟨_, T', bo, _, o', ln, _, 0, [0], rfl, rfl, rfl, pre_root, hok, ?_, hS', NatsAre.cons NatsAre.nil, line_root, ?_, ?_, ?_, ?_⟩
    · refine ⟨_, hbo, rfl, fun i nd hi => ?_⟩
      cases i with
      | zero => cases hi; exact ⟨e, 0, .none, _, rfl, .head _, rfl⟩
      | succ i => cases hi
    · exact put_ne put_same
    · exact put_ne (put_ne put_same)
    · exact put_same
    · exact put_ne (put_ne (put_ne rfl))
  · obtain ⟨D, T, bo, tu, so, ln, zs, nz, ys, rfl, hTt, hD, P, hok, hB, hS'', hz, hl, m1, m2, m3, m4⟩ := hI
    have hlen := hz.length
    have hyl := hl.len
    have hpos : 0 < ys.length := List.length_pos_iff.mpr hl.ne
    have F := F.perm (perm_in _ _ _)
    refine S_asg (E_slice (nmL F (put_ne m3) (O_none (O_some (E_bin (E_int (E_fn Y.f_law_take ((F.tok _).cx C) Y.n_law_take (nmL (F.tok _) (put_ne m4) (E_bi ((F.tok _).cx C) Y.b_len bb_len (by simp) (nmL (F.tok _) (put_ne m3) (len_l ((F.tok _).at 0 rfl) (by omega) fun tl s₁₄ p => ?_)) (by decide +kernel))))))))))
    have F := (F.tok _).pur p
    refine ⟨F.cx C, take_spec Y (C.keeps F.hid) (r'.mono (by omega)) (F.hasX (src, so) (.head _)) hS'' (n := zs.length) (by omega) (by omega) fun dd ud so' s₁₅ p hS3 hdd => ?_⟩
    have F := F.swap p
    refine PyProof.Rows.add_int ?_
    have e1 : (1 : Int) + ((dd : Nat) : Int) = ((dd + 1 : Nat) : Int) := by omega
    rw [e1]
    refine O_none ⟨ln, zs, nz, none, some ((dd + 1 : Nat) : Int), none, zs.take (dd + 1), rfl, (F.tok _).at 0 rfl, .none, .int _ _, .none, by decide, by omega, by rw [slicePick_upto'], fun l2 s₁₆ p hn hl2 => ?_⟩
    have F := (F.tok _).add p hn hl2
    refine stL F fun s₁₇ F => ?_
    have hl' := hl.take dd
    obtain ⟨ws, pp, hyw⟩ : ∃ ws pp, ys.take (dd + 1) = ws ++ [pp] := ⟨_, _, (List.dropLast_concat_getLast hl'.ne).symm⟩
    have hz' := hz.take (dd + 1)
    rw [hyw] at hz'
    obtain ⟨vs', tp, hzv, hvs'⟩ := hz'.snoc_inv
    obtain ⟨np, hnp, hnw⟩ := hl'.words pp (by rw [hyw]; simp)
    have hpl := (List.getElem?_eq_some_iff.mp hnp).1
    refine S_asg (E_fn Y.f_law_one (F.cx C) Y.n_law_one (nmL F (put_ne (put_ne m4)) (E_list (E_str (E_str (E_str (newL (((F.tok _).tok _).tok _) fun th s₁₈ F => ?_)))))))
    refine ⟨F.cx C, one_spec Y (C.keeps (Fm.hid (own := (th, _) :: (l2, _) :: (ln, lst zs nz) :: (b, bo) :: (tu ++ T.led) ++ [(I, ox)]) (X := [(src, so')]) F)) (r'.mono (by omega)) (F.hasX (own := (th, _) :: (l2, _) :: (ln, lst zs nz) :: (b, bo) :: (tu ++ T.led) ++ [(I, ox)]) (src, so') (.head _)) hS3 (F.at 0 rfl) (fun e => Fm.apart (own := (th, _) :: (l2, _) :: (ln, lst zs nz) :: (b, bo) :: (tu ++ T.led) ++ [(I, ox)]) (X := [(src, so')]) F (.head _) (by rw [e]; simp)) (by simp) (by simp) fun dw v so2 s₁₉ p hS4 hv => ?_⟩
    have F := Fm.swap (own := (th, _) :: (l2, _) :: (ln, lst zs nz) :: (b, bo) :: (tu ++ T.led) ++ [(I, ox)]) F p
    obtain ⟨wd, tw, rfl, hwd⟩ : ∃ wd tw, v = .str wd tw ∧ (wd = "e" ∨ wd = "f" ∨ wd = "text") := by
      match dw, hv with
      | 0, hv => cases hv; exact ⟨_, _, rfl, .inl rfl⟩
      | 1, hv => cases hv; exact ⟨_, _, rfl, .inr (.inl rfl)⟩
      | 2, hv => cases hv; exact ⟨_, _, rfl, .inr (.inr rfl)⟩
    refine stL F fun s₂₀ F => ?_
    rw [hzv] at F
    obtain ⟨kvs, hb1, hb2, hb3⟩ := hB.ex
    refine S_put (E_tup (E_sub (nmL F (put_ne put_same) (E_neg (sub_last ((F.tok _).at 1 rfl) (nmL (F.tok (s₂₀.toks + 1 + 1)) put_same (newT (F.tok (s₂₀.toks + 1 + 1)) fun te s₂₁ F => nmL F (put_ne (put_ne (put_ne m2))) (nmL F (put_ne (put_ne put_same)) ?_))))))))
    have hkl := hb2.len
    rw [List.length_range] at hkl
    refine d_set (k := (D.length : Int)) F 4 rfl hb1 (by rw [hD]; exact isInt_n (t := t)) (by omega) fun bo' s₂₂ hbo' F => ?_
    have hB' : BookL prog w (D ++ [⟨some pp, wd⟩]) bo' ((te, tup [.int (pp : Nat) tp, .str wd tw] 0) :: tu) := BookL.push hb2 hb3 hbo' ⟨tp, rfl⟩
    have F := Fm.drop F (own' := (te, tup [.int (pp : Nat) tp, .str wd tw] 0) :: (l2, lst (vs' ++ [.int (pp : Nat) tp]) 0) :: (b, bo') :: (((tu ++ T.led) ++ [(I, ox)]) ++ [(src, so2)])) (.cons_cons _ (.cons _ (.cons_cons _ (.cons _ (.refl _)))))
    have F := F.perm (pmD _ _ _ tu T.led [(I, ox)] [(src, so2)])
    rw [← hTt] at m1
    rw [hyw] at hl'
    have hlast := hl'.last pp (by simp)
    refine S_if (T_cmp (nmL F put_same (E_str (cmp_eqs (tr_bool ?_)))))
    have F := F.tok (s₂₂.toks + 1)
    cases q : wd == "text" with
    | true =>
      have := beq_iff_eq.mp q; subst this
      refine S_exp (E_meth Y.f_t_add_text Y.cT.ga Y.cT.gk Y.m_add_text (nmL F (put_ne (put_ne (put_ne m1))) ⟨T.t, _, _, rfl, F.cx C, TreeA.inst F.holds, sh_T T rfl, E_sub (nmL F (put_ne put_same) (E_neg (sub_last ((F.tok _).at 0 rfl) (E_str ⟨((F.tok _).tok _).cx C, ?_⟩))))⟩))
      have F := F.tok (s₂₂.toks + 1 + 1 + 1 + 1)
      refine add_text_spec Y (C.keeps F.hid) (r'.mono (by omega)) F.holds F.ndX hok (by omega) P.par_lt hnp hnw fun T2 u2 s₂₃ ht2 hok2 p2 => ?_
      have F := F.swap p2
      have F := F.perm (pmE _ _ ((te, _) :: tu) T2.led [(I, ox)] [(src, so2)])
      refine S_nil (S_nil ⟨_, _, ⟨D ++ [⟨some pp, "text"⟩], T2, bo', _, so2, l2, _, 0, ws ++ [pp], rfl, ht2.trans hTt, by simp; omega, P.push rfl hlast hpl, hok2, hB', hS4, hvs'.snoc, hl'.text P rfl rfl, ?_, ?_, ?_, ?_⟩, F⟩)
      · rw [← hTt]; exact put_ne (put_ne (put_ne m1))
      · exact put_ne (put_ne (put_ne m2))
      · exact put_ne put_same
      · exact put_ne (put_ne (put_ne m4))
    | false =>
      have hne := beq_eq_false_iff_ne.mp q
      have hnr : wd ≠ "root" := by rcases hwd with rfl | rfl | rfl <;> decide +kernel
      refine S_exp (E_meth Y.f_t_add_element Y.cT.ga Y.cT.gk Y.m_add_element (nmL F (put_ne (put_ne (put_ne m1))) ⟨T.t, _, _, rfl, F.cx C, TreeA.inst F.holds, sh_T T rfl, E_sub (nmL F (put_ne put_same) (E_neg (sub_last ((F.tok _).at 0 rfl) (nmL (F.tok _) put_same (E_str (nmL ((F.tok _).tok _) put_same ⟨((F.tok _).tok _).cx C, ?_⟩))))))⟩))
      have F := F.tok (s₂₂.toks + 1 + 1 + 1 + 1)
      refine add_element_spec Y (C.keeps F.hid) (r'.mono (by omega)) F.holds F.ndX hok (by omega) P.par_lt hnp hnw hnr hne fun T2 u2 s₂₃ ht2 hok2 p2 => ?_
      have F := F.swap p2
      refine S_asg (E_bin (nmL F (put_ne put_same) (E_list (nmL F (put_ne (put_ne put_same)) (newL F fun l3 s₂₄ F => add_l F (F.at 1 rfl) (F.at 0 rfl) (by have := hvs'.length; have := congrArg List.length hyw; simp at this ⊢; omega) fun l4 s₂₅ F => stL F fun s₂₆ F => S_nil (S_nil ?_))))))
      have F := F.drop (sub_l4 (l4, _) (l3, _) (l2, _) (b, bo') ((te, _) :: tu) [(I, ox)] [(src, so2)] T2.led)
      have F := F.perm (pmE _ _ ((te, _) :: tu) T2.led [(I, ox)] [(src, so2)])
      refine ⟨_, _, ⟨D ++ [⟨some pp, wd⟩], T2, bo', _, so2, l4, _, 0, (ws ++ [pp]) ++ [1 + i], rfl, ht2.trans hTt, by simp; omega, P.push rfl hlast hpl, hok2, hB', hS4, hvs'.snoc.snoc, by rw [← hD]; exact hl'.elem P rfl rfl hne, ?_, ?_, ?_, ?_⟩, F⟩
      · rw [← hTt]; exact put_ne (put_ne (put_ne (put_ne m1)))
      · exact put_ne (put_ne (put_ne (put_ne m2)))
      · exact put_same
      · exact put_ne (put_ne (put_ne (put_ne m4)))
  · obtain ⟨D, T, bo, tu, so, ln, zs, nz, ys, rfl, hTt, hD, P, hok, hB, hS'', hz, hl, m1, m2, m3, m4⟩ := hI
    refine S_ret (E_tup (nmL F m1 (nmL F m2 (newT F fun d s₁₄ F => ?_))))
    have hp : (((d, tup [.ref T'.t, .ref b] 0) :: (((ln, lst zs nz) :: (b, bo) :: (tu ++ T.led)) ++ [(src, so)])).Perm ([(ln, lst zs nz)] ++ ((d, tup [.ref T.t, .ref b] 0) :: (b, bo) :: (tu ++ (T.led ++ [(src, so)]))))) := by
      rw [hTt]
      simp only [List.cons_append, List.append_assoc, List.nil_append]
      exact List.Perm.swap _ _ _
    have F := F.perm hp
    exact ret d T bo b tu D so _ F.backX hok hB lob P (by omega) hS''
end
end Mine

end LR_part
section LS_part
set_option maxHeartbeats 400000
namespace Mine
open PySem PySem.W PySem.Calls PySem.Spec PyProof.Rows

/-- a value and what the def holds must say of it -/
inductive HV (h : Heap) : Value → Int → Bool → Prop
  | bool (b : Bool) (p : Int) : HV h (.bool b) p b
  | «str» {c : Str} {u : Tok} {p : Int} : c.length ≤ 1000 → HV h (.str c u) p (decide (0 < c.length))
  | list {l : Addr} {xs : List Value} {n : Nat} {p : Int} : h.get? l = some (lst xs n) → xs.length ≤ 1000 → HV h (.ref l) p (decide (0 < xs.length))
  | tup {l : Addr} {a b p : Int} {t1 t2 : Tok} {n : Nat} : h.get? l = some (Mine.tup [.int a t1, .int b t2] n) → HV h (.ref l) p (a == p && b == 1)
theorem HV.keeps {h h' : Heap} {v : Value} {p : Int} {d : Bool} (x : HV h v p d) (k : ∀ b o, h.get? b = some o → h'.get? b = some o) : HV h' v p d := by
  cases x with
  | bool => exact .bool _ _
  | «str» hc => exact .str hc
  | list hl hs => exact .list (k _ _ hl) hs
  | tup hl => exact .tup (k _ _ hl)
structure Bx (P : Prop) : Prop where
  u : P
noncomputable def RowIs (h : Heap) (v : Value) : Prop := ∃ (a : Addr) (x : Value) (p : Int) (t : Tok) (d : Bool) (n : Nat), v = .ref a ∧ h.get? a = some (tup [x, .int p t, .bool d] n) ∧ HV h x p d

section
variable {prog : Program} {w : World} {A : Around} {E : Value → Shared → Prop} {s : Shared} {env : Env} {K : Frag} {h₀ : Heap} {L : Addr} {m : Str → Option Value} {own : Led} {G : Array GenState} {O : OsState} {N : Shared → Prop} {R : Value → Shared → Prop} {rest : List Stmt} {Q : Value → Shared → Prop} {hp : Heap}
theorem B_tup {a b p : Int} {d : Bool} {k k1 k2 k3 k4 k5 : Nat} {p1 p2 p3 p4 p5 p6 : Pos} {r : List Expr} {Q : List Value → Shared → Prop} (F : Fm h₀ L m own G O s)
    (h : ∀ x b' t1 t2 t s', Fm h₀ L m ((b', tup [.ref x, .int p t, .bool d] 0) :: (x, tup [.int a t1, .int b t2] 0) :: own) G O s' → Bx (wpL (model prog w) A env r (fun vs s'' => Q (.ref b' :: vs) s'') s')) :
    Bx (wpL (model prog w) A env (.Tuple [.Tuple [.Constant (.int a) k p1, .Constant (.int b) k1 p2] k2 p3, .Constant (.int p) k3 p4, .Constant (.bool d) k4 p5] k5 p6 :: r) Q s) :=
  ⟨E_tup (E_tup (E_int (E_int (newT ((F.tok _).tok _) fun x s₂ F => E_int (E_bool (newT (F.tok _) fun b' s₃ F => (h x b' _ _ _ s₃ F).u))))))⟩
theorem B_bool {p : Int} {b d : Bool} {k k3 k4 k5 : Nat} {p1 p4 p5 p6 : Pos} {r : List Expr} {Q : List Value → Shared → Prop} (F : Fm h₀ L m own G O s)
    (h : ∀ b' t s', Fm h₀ L m ((b', tup [.bool b, .int p t, .bool d] 0) :: own) G O s' → Bx (wpL (model prog w) A env r (fun vs s'' => Q (.ref b' :: vs) s'') s')) :
    Bx (wpL (model prog w) A env (.Tuple [.Constant (.bool b) k p1, .Constant (.int p) k3 p4, .Constant (.bool d) k4 p5] k5 p6 :: r) Q s) :=
  ⟨E_tup (E_bool (E_int (E_bool (newT (F.tok _) fun b' s₃ F => (h b' _ s₃ F).u))))⟩
theorem B_str {p : Int} {c : Str} {d : Bool} {k k3 k4 k5 : Nat} {p1 p4 p5 p6 : Pos} {r : List Expr} {Q : List Value → Shared → Prop} (F : Fm h₀ L m own G O s)
    (h : ∀ b' u t s', Fm h₀ L m ((b', tup [.str c u, .int p t, .bool d] 0) :: own) G O s' → Bx (wpL (model prog w) A env r (fun vs s'' => Q (.ref b' :: vs) s'') s')) :
    Bx (wpL (model prog w) A env (.Tuple [.Constant (.str c) k p1, .Constant (.int p) k3 p4, .Constant (.bool d) k4 p5] k5 p6 :: r) Q s) :=
  ⟨E_tup (E_str (E_int (E_bool (newT ((F.tok _).tok _) fun b' s₃ F => (h b' _ _ s₃ F).u))))⟩
theorem B_nil {p : Int} {d : Bool} {k3 k4 k5 : Nat} {p1 p4 p5 p6 : Pos} {r : List Expr} {Q : List Value → Shared → Prop} (F : Fm h₀ L m own G O s)
    (h : ∀ x b' t s', Fm h₀ L m ((b', tup [.ref x, .int p t, .bool d] 0) :: (x, lst [] 0) :: own) G O s' → Bx (wpL (model prog w) A env r (fun vs s'' => Q (.ref b' :: vs) s'') s')) :
    Bx (wpL (model prog w) A env (.Tuple [.List [] p1, .Constant (.int p) k3 p4, .Constant (.bool d) k4 p5] k5 p6 :: r) Q s) :=
  ⟨E_tup (E_list (newL F fun x s₂ F => E_int (E_bool (newT (F.tok _) fun b' s₃ F => (h x b' _ s₃ F).u))))⟩
theorem B_list1 {p a : Int} {d : Bool} {k k3 k4 k5 : Nat} {p1 p2 p4 p5 p6 : Pos} {r : List Expr} {Q : List Value → Shared → Prop} (F : Fm h₀ L m own G O s)
    (h : ∀ x b' u t s', Fm h₀ L m ((b', tup [.ref x, .int p t, .bool d] 0) :: (x, lst [.int a u] 0) :: own) G O s' → Bx (wpL (model prog w) A env r (fun vs s'' => Q (.ref b' :: vs) s'') s')) :
    Bx (wpL (model prog w) A env (.Tuple [.List [.Constant (.int a) k p2] p1, .Constant (.int p) k3 p4, .Constant (.bool d) k4 p5] k5 p6 :: r) Q s) :=
  ⟨E_tup (E_list (E_int (newL (F.tok _) fun x s₂ F => E_int (E_bool (newT (F.tok _) fun b' s₃ F => (h x b' _ _ s₃ F).u)))))⟩
theorem B_end {Q : List Value → Shared → Prop} (h : Q [] s) : Bx (wpL (model prog w) A env [] Q s) := ⟨h⟩
theorem holds_any {v : Value} {p : Int} {u : Tok} {d : Bool} (Y : Lay K) (C : Cx K hp) (r : Rm A 2) (hv : HV hp v p d) (ret : ∀ s', Pur s s' → Q (.bool d) s') (hs : s.heap = hp := by rfl) :
    wpAny (model prog w) A (call (.ref 192) [v, .int p u]) Q E s := by
  cases hv with
  | bool => exact holds_bool Y C r ret hs
  | «str» hc => exact holds_str Y C r hc ret hs
  | list hl hx => exact holds_list Y C r hl hx ret hs
  | tup hl => exact holds_tup Y C r hl ret hs
theorem law_told_right_spec (Y : Lay K) (C : Cx K hp) (r : Rm A 5) (ret : ∀ s', Pur s s' → Q (.bool true) s') (hs : s.heap = hp := by rfl) :
    wpAny (model prog w) A (call (.ref 488) []) Q E s := by
  subst hs
  refine @enter0 _ _ _ _ _ _ _ _ _ _ _ _ Y.f_law_told_right C r [] (fun L s₁ F => ?_) (by intros; rfl) (by decide +kernel) (by rfl) (by decide +kernel) (by rfl) (by rfl) (by rfl)
  have r' := r.deeper (envF "_law_told_right" (stmtAt 43) L 488)
  refine @S_asg _ _ _ _ _ _ _ _ _ _ _ _ ?_ (by rfl)
  refine @E_list _ _ _ _ _ _ _ _ ?_ (by rfl)
  refine @Bx.u _ ?_
  refine B_tup F fun a1 b1 _ _ _ s₂ F => ?_
  refine B_tup F fun a2 b2 _ _ _ s₃ F => ?_
  refine B_tup F fun a3 b3 _ _ _ s₄ F => ?_
  refine B_bool F fun b4 _ s₅ F => ?_
  refine B_bool F fun b5 _ s₆ F => ?_
  refine B_end (newL F fun l1 s₁₀ F => stL F fun s₁₁ F => ?_)
  refine @S_asg _ _ _ _ _ _ _ _ _ _ _ _ ?_ (by rfl)
  refine @E_bin _ _ _ _ _ _ _ _ _ _ ?_
  refine nmL F put_same ?_
  refine @E_list _ _ _ _ _ _ _ _ ?_ (by rfl)
  refine @Bx.u _ ?_
  refine B_str F fun b6 _ _ s₁₂ F => ?_
  refine B_str F fun b7 _ _ s₁₃ F => ?_
  refine B_nil F fun a8 b8 _ s₁₄ F => ?_
  refine B_list1 F fun a9 b9 _ _ s₁₅ F => ?_
  refine B_end (newL F fun l2 s₁₈ F => add_l F (F.at 7 rfl) (F.at 0 rfl) (by simp) fun l3 s₁₉ F => stL F fun s₂₀ F => ?_)
  have rows : ∀ v ∈ ([.ref b1, .ref b2, .ref b3, .ref b4, .ref b5] ++ [.ref b6, .ref b7, .ref b8, .ref b9] : List Value), RowIs s₂₀.heap v := by
    intro v hv
    simp only [List.cons_append, List.nil_append, List.mem_cons, List.not_mem_nil, or_false] at hv
    rcases hv with rfl | rfl | rfl | rfl | rfl | rfl | rfl | rfl | rfl
    · exact ⟨_, _, _, _, _, _, rfl, F.at 15 rfl, HV.tup (F.at 16 rfl)⟩
    · exact ⟨_, _, _, _, _, _, rfl, F.at 13 rfl, HV.tup (F.at 14 rfl)⟩
    · exact ⟨_, _, _, _, _, _, rfl, F.at 11 rfl, HV.tup (F.at 12 rfl)⟩
    · exact ⟨_, _, _, _, _, _, rfl, F.at 10 rfl, HV.bool _ _⟩
    · exact ⟨_, _, _, _, _, _, rfl, F.at 9 rfl, HV.bool _ _⟩
    · exact ⟨_, _, _, _, _, _, rfl, F.at 7 rfl, HV.str (by decide)⟩
    · exact ⟨_, _, _, _, _, _, rfl, F.at 6 rfl, HV.str (by decide)⟩
    · exact ⟨_, _, _, _, _, _, rfl, F.at 4 rfl, HV.list (F.at 5 rfl) (by simp)⟩
    · exact ⟨_, _, _, _, _, _, rfl, F.at 2 rfl, HV.list (F.at 3 rfl) (by simp)⟩
  have lr : ([.ref b1, .ref b2, .ref b3, .ref b4, .ref b5] ++ [.ref b6, .ref b7, .ref b8, .ref b9] : List Value).length ≤ 1000 := by simp
  revert rows lr F
  generalize ([.ref b1, .ref b2, .ref b3, .ref b4, .ref b5] ++ [.ref b6, .ref b7, .ref b8, .ref b9] : List Value) = xs
  intro F rows lr
  have F := Fm.drop F (own' := [(l3, lst xs 0)]) (.cons_cons _ (List.nil_sublist _))
  refine S_if (T_cmp (E_compL F [] r'.h (nmL F put_same ⟨l3, xs, 0, fun _ ys => ys = [], _, _, rfl, F.at 0 rfl, lr, F, rfl, fun i v ys m' D k o C' s' hv hy F' => ?_, fun D ys k s₂₁ hy F => ?_⟩)))
  · obtain ⟨a, x, p, t, d, n, rfl, ha, hx⟩ := rows v (List.mem_of_getElem? hv)
    subst hy
    refine ts_one (T_cmp (E_fn Y.f_holds ((F'.cx (F.cx C))) Y.n_holds (E_sub (nmL F' put_same (E_int (sub_t (F'.keep _ _ ha) (by decide) (by decide) rfl (E_sub (nmL (F'.tok _) put_same (E_int (sub_t ((F'.tok _).keep _ _ ha) (by decide) (by decide) rfl ⟨((F'.tok _).tok _).cx (F.cx C), ?_⟩)))))))))) 
    have F' := (F'.tok (s'.toks + 1)).tok (s'.toks + 1 + 1)
    refine holds_any Y (F'.cx (F.cx C)) (r'.mono (by omega)) (hx.keeps F'.keep) fun s₃₀ q => ?_
    have F' := F'.pur q
    refine E_sub (nmL F' put_same (E_int (sub_t ((F'.tok _).keep _ _ ha) (by decide) (by decide) rfl ?_)))
    refine PySem.SeqAt.RcNeAt.bool_bool d d prog w NR _ (tr_bool ?_)
    have : (!(d == d)) = false := by cases d <;> rfl
    rw [this]
    exact ⟨rfl, _, F'.tok _⟩
  subst hy
  refine E_list (newL F fun e s₂₂ F => cmp_ne_nil (F.at 1 rfl) (F.at 0 rfl) (r'.mono (by omega)) (tr_bool (S_nil ?_)))
  refine S_ret (E_bool2 (bo_cons (E_cmp (E_fn Y.f_unlike (F.cx C) Y.n_unlike (E_list (E_int (E_int (E_int (E_int (E_int (newL (((((F.tok _).tok _).tok _).tok _).tok _) fun u1 s₂₃ F => ⟨F.cx C, ?_⟩)))))))))))
  refine unlike_spec Y (F.cx C) (r'.mono (by omega)) (ns := [3, 1, 3, 2, 1]) (F.at 0 rfl) (NatsAre.cons (NatsAre.cons (NatsAre.cons (NatsAre.cons (NatsAre.cons NatsAre.nil))))) (by decide) fun v s₂₄ p hn => ?_
  obtain ⟨c1, zs, nz, rfl, hc0, hc1, hz⟩ := hn
  have F := F.add p hc0 hc1
  refine E_list (E_int (E_int (E_int (newL (((F.tok _).tok _).tok _) fun u2 s₂₅ F => eq_nats (F.at 1 rfl) (F.at 0 rfl) hz (NatsAre.cons (NatsAre.cons (NatsAre.cons NatsAre.nil))) r'.units (tr_bool (bo_last (E_cmp (E_fn Y.f_unlike (F.cx C) Y.n_unlike (E_list (newL F fun u3 s₂₆ F => ⟨F.cx C, ?_⟩))))))))))
  refine unlike_spec Y (F.cx C) (r'.mono (by omega)) (ns := []) (F.at 0 rfl) NatsAre.nil (by decide) fun v s₂₇ p hn => ?_
  obtain ⟨c2, zs2, nz2, rfl, hc20, hc2, hz2⟩ := hn
  have F := F.add p hc20 hc2
  exact E_list (newL F fun u4 s₂₈ F => eq_nats (F.at 1 rfl) (F.at 0 rfl) hz2 NatsAre.nil r'.units (ret _ F.back))
end
end Mine

end LS_part
section LT_part
set_option maxHeartbeats 1000000
namespace Mine
open PySem PySem.W PySem.Calls PySem.Spec PyProof.Rows

section
variable {prog : Program} {w : World} {A : Around} {E : Value → Shared → Prop} {s : Shared} {env : Env} {K : Frag} {h₀ : Heap} {L : Addr} {m : Str → Option Value} {own : Led} {G : Array GenState} {O : OsState} {N : Shared → Prop} {R : Value → Shared → Prop} {rest : List Stmt} {Q : Value → Shared → Prop} {hp : Heap}
theorem rng1 {b : Int} {u : Tok} (F : Fm h₀ L m own G O s) (h : ∀ r v0 v s', Fm h₀ L m ((r, { cls := .type "range", data := .fields #[.int 0 v0, .int b u, .int 1 v] }) :: own) G O s' → Q (.ref r) s') :
    wpAny (model prog w) A (call (.type "range") [.int b u]) Q NR s :=
  call_range_1 (h _ _ _ _ ((F.alloc rfl).tok _))
theorem E_ifJ {t b o : Expr} {pos : Pos} (J : Value → Shared → Prop)
    (h : wpT (model prog w) A t env (fun c s' => match c with | true => wpE (model prog w) A b env J s' | false => wpE (model prog w) A o env J s') s) (k : ∀ v s', J v s' → Q v s') : wpE (model prog w) A (.IfExp t b o pos) env Q s :=
  wpAny_mono (E_if h) k fun _ _ x => x
theorem cmp_ne_b {a b : Bool} (h : Q (.bool (!(a == b))) s) : wpAny (model prog w) A (compareOp .NotEq (.bool a) (.bool b)) Q NR s :=
  PySem.SeqAt.RcNeAt.bool_bool a b prog w NR _ h
/-- [elt for x in range(a, a + n) if ..] -/
theorem E_compR {elt iter : Expr} {x : Str} {px : Pos} {ifs : List Expr} {scope : Scope} {pos : Pos} {m₁ : Str → Option Value} {own₁ : Led} {s₀ : Shared} (_F : Fm h₀ L m₁ own₁ G O s₀) (cl : List (Str × Addr)) (hh : A.handled = none)
    (h : wpE (model prog w) A iter env (fun xv s₁ => ∃ (r : Addr) (n : Nat) (t u v : Tok) (Inv : Nat → List Value → Led → Prop) (X own : Led) (m : Str → Option Value), xv = .ref r ∧ IsRange s₁.heap r 0 (n : Int) 1 t u v ∧ n ≤ 1000 ∧ Fm h₀ L m (own ++ X) G O s₁ ∧ Inv 0 [] X ∧ (∀ i ys Z, Inv i ys Z → Z.map (·.1) = X.map (·.1)) ∧
      (∀ i t ys m' Z D k o C I s, i < n → Inv i ys Z → Fm (hideAll s₁.heap (X.map (·.1))) C (put m' x (.int (i : Int) t)) (Z ++ [(D, lst ys k), (I, o)]) G O s →
        wpTs (model prog w) A ifs (compEnvC scope cl C env) (fun ok s' => match ok with
          | true => wpE (model prog w) A elt (compEnvC scope cl C env) (fun y s'' => ∃ Z' m'', Inv (i + 1) (ys ++ [y]) Z' ∧ Fm (hideAll s₁.heap (X.map (·.1))) C m'' (Z' ++ [(D, lst ys k), (I, o)]) G O s'') s'
          | false => ∃ Z' m'', Inv (i + 1) ys Z' ∧ Fm (hideAll s₁.heap (X.map (·.1))) C m'' (Z' ++ [(D, lst ys k), (I, o)]) G O s') s) ∧
      (∀ D ys Z k s', Inv n ys Z → Fm h₀ L m ((D, lst ys k) :: (own ++ Z)) G O s' → Q (.ref D) s')) s)
    (hclos : closureFor scope env = pure cl := by rfl) (hcell : ∀ z ∈ scope.names, z.2 ≠ .cell := by decide +kernel) (hkind : scope.kind = .function := by rfl)
    (hnames : ∀ z ∈ scope.names, z.2 = .local → scope.names.lookup z.1 = some .local := by decide +kernel) (hx : scope.names.lookup x = some .local := by rfl)
    (hs : ∀ x, foldedSetIterable iter env x = pure x := by intro _; rfl) :
    wpE (model prog w) A (.ListComp elt [⟨.Name x px, iter, ifs, 0⟩] scope pos) env Q s := by
  refine E_comp _F cl (wpAny_mono h (fun xv s₁ h₁ => ?_) fun _ _ x => x) hclos hcell hkind hnames hx hs
  obtain ⟨r, n, t, u, v, Inv, X, own, m, rfl, hr, hn, F, h0, hZ, turn, fin⟩ := h₁
  have W := (Walks.range (prog := prog) (w := w) hh s₁.heap.objs.size (0 : Int) 1 n).bound
  refine ⟨_, _, n, _, _, Inv, X, own, m, fun Q' q => wpAny_pyIter_range hr (small_one (by omega) (by omega) (by omega) (by omega)) q, W, hn, F, rfl, ?_, fun b hb => .inl (List.mem_singleton.mp hb), fun i h hi => ⟨_, hi⟩, h0, hZ, ?_, fin⟩
  · show IsRangeIter _ _ _ _ _
    have e : Builtin.Range.rangeSize (0 : Int) (n : Int) 1 = (n : Int) := by rw [rangeSize_one]; split <;> omega
    rw [e]
    simpa using Heap.get?_push_size _ rfl
  · rintro i v ys m' Z D k o C s hi ⟨_, t, rfl⟩ hI F
    have e : (0 : Int) + (i : Int) * 1 = (i : Int) := by omega
    rw [e] at F
    exact turn i t ys m' Z D k o C _ s hi hI F
end

/-! the six pairs -/
noncomputable def PairL (W : Led) (v : Value) : Prop := ∃ (a : Addr) (x : Value) (d : Bool) (n : Nat), v = .ref a ∧ (a, tup [x, .bool d] n) ∈ W ∧ ∀ p h, Holds W h → HV h x p d
section
variable {prog : Program} {w : World} {A : Around} {E : Value → Shared → Prop} {s : Shared} {env : Env} {K : Frag} {h₀ : Heap} {L : Addr} {m : Str → Option Value} {own : Led} {G : Array GenState} {O : OsState} {N : Shared → Prop} {R : Value → Shared → Prop} {rest : List Stmt} {Q : Value → Shared → Prop} {hp : Heap}
theorem V_bool {b d : Bool} {k k4 k5 : Nat} {p1 p4 p5 : Pos} {r : List Expr} {Q : List Value → Shared → Prop} (F : Fm h₀ L m own G O s)
    (h : ∀ b' s', Fm h₀ L m ((b', tup [.bool b, .bool d] 0) :: own) G O s' → Bx (wpL (model prog w) A env r (fun vs s'' => Q (.ref b' :: vs) s'') s')) :
    Bx (wpL (model prog w) A env (.Tuple [.Constant (.bool b) k p1, .Constant (.bool d) k4 p4] k5 p5 :: r) Q s) :=
  ⟨E_tup (E_bool (E_bool (newT F fun b' s₃ F => (h b' s₃ F).u)))⟩
theorem V_str {c : Str} {d : Bool} {k k4 k5 : Nat} {p1 p4 p5 : Pos} {r : List Expr} {Q : List Value → Shared → Prop} (F : Fm h₀ L m own G O s)
    (h : ∀ b' u s', Fm h₀ L m ((b', tup [.str c u, .bool d] 0) :: own) G O s' → Bx (wpL (model prog w) A env r (fun vs s'' => Q (.ref b' :: vs) s'') s')) :
    Bx (wpL (model prog w) A env (.Tuple [.Constant (.str c) k p1, .Constant (.bool d) k4 p4] k5 p5 :: r) Q s) :=
  ⟨E_tup (E_str (E_bool (newT (F.tok _) fun b' s₃ F => (h b' _ s₃ F).u)))⟩
theorem V_nil {d : Bool} {k4 k5 : Nat} {p1 p4 p5 : Pos} {r : List Expr} {Q : List Value → Shared → Prop} (F : Fm h₀ L m own G O s)
    (h : ∀ x b' s', Fm h₀ L m ((b', tup [.ref x, .bool d] 0) :: (x, lst [] 0) :: own) G O s' → Bx (wpL (model prog w) A env r (fun vs s'' => Q (.ref b' :: vs) s'') s')) :
    Bx (wpL (model prog w) A env (.Tuple [.List [] p1, .Constant (.bool d) k4 p4] k5 p5 :: r) Q s) :=
  ⟨E_tup (E_list (newL F fun x s₂ F => E_bool (newT F fun b' s₃ F => (h x b' s₃ F).u)))⟩
theorem V_list1 {a : Int} {d : Bool} {k k4 k5 : Nat} {p1 p2 p4 p5 : Pos} {r : List Expr} {Q : List Value → Shared → Prop} (F : Fm h₀ L m own G O s)
    (h : ∀ x b' u s', Fm h₀ L m ((b', tup [.ref x, .bool d] 0) :: (x, lst [.int a u] 0) :: own) G O s' → Bx (wpL (model prog w) A env r (fun vs s'' => Q (.ref b' :: vs) s'') s')) :
    Bx (wpL (model prog w) A env (.Tuple [.List [.Constant (.int a) k p2] p1, .Constant (.bool d) k4 p4] k5 p5 :: r) Q s) :=
  ⟨E_tup (E_list (E_int (newL (F.tok _) fun x s₂ F => E_bool (newT F fun b' s₃ F => (h x b' _ s₃ F).u))))⟩
theorem E_row {Nn U : Int} {tn tu : Tok} {k1 k2 k3 k4 k5 k6 k7 k8 : Nat} {p1 p2 p3 p4 p5 p6 p7 p8 p9 q1 q2 q3 q4 q5 q6 q7 q8 q9 v1 v2 : Pos} (F : Fm h₀ L m own G O s) (hn : m "number" = some (.int Nn tn)) (hu : m "under" = some (.int U tu)) (hU : U ≠ 0)
    (h : ∀ b x y tx ty s', (y = 1 → x = Nn) → Fm h₀ L m ((b, tup [.int x tx, .int y ty] 0) :: own) G O s' → Q (.ref b) s')
    (hL : env.locals = L := by rfl) (hk : env.scope.kind = .function := by rfl) (hl : env.kindOf "number" = some .local := by rfl) (hl2 : env.kindOf "under" = some .local := by rfl) :
    wpE (model prog w) A (.IfExp (.BoolOp .And [.Compare (.BinOp (.Name "number" p1) .Mod (.Name "under" p2) p3) [.Eq] [.Constant (.int 0) k1 p4] p5, .Compare (.Name "under" p6) [.Eq] [.Constant (.int 1) k2 p7] p8] p9)
      (.Tuple [.Name "number" q1, .Constant (.int 1) k3 q2] k4 q3) (.Tuple [.BinOp (.BinOp (.Constant (.int 2) k5 q4) .Mult (.Name "number" q5) q6) .Add (.Constant (.int 1) k6 q7) q8, .Constant (.int 2) k7 q9] k8 v1) v2) env Q s := by
  have low : ∀ s', Fm h₀ L m own G O s' → wpE (model prog w) A (.Tuple [.BinOp (.BinOp (.Constant (.int 2) k5 q4) .Mult (.Name "number" q5) q6) .Add (.Constant (.int 1) k6 q7) q8, .Constant (.int 2) k7 q9] k8 v1) env Q s' := fun s' F =>
    E_tup (E_bin (E_bin (E_int (nmL (F.tok _) hn (PyProof.Rows.mul_int (E_int (PyProof.Rows.add_int (E_int (newT ((((F.tok _).tok _).tok _).tok _ |>.tok _) fun b s'' F => h b _ _ _ _ s'' (fun e => by cases e) F)))) (PySem.IntMulOk.of_left (by decide +kernel))) hL hk hl))))
  refine E_if (T_bool (and_cons (T_cmp (E_bin (nmL F hn (nmL F hu (PyProof.Rows.mod_int hU (E_int (cmp_eq (tr_bool ?_)))) hL hk hl2) hL hk hl)))))
  have F := (F.tok (s.toks + 1)).tok (s.toks + 1 + 1)
  cases Nn.fmod U == 0 with
  | false => exact low _ F
  | true =>
    refine and_cons (T_cmp (nmL F hu (E_int (cmp_eq (tr_bool ?_))) hL hk hl2))
    cases U == 1 with
    | false => exact low _ (F.tok _)
    | true => exact and_nil (E_tup (nmL (F.tok _) hn (E_int (newT ((F.tok _).tok _) fun b s'' F => h b _ _ _ _ s'' (fun _ => rfl) F)) hL hk hl))
theorem PurX.holds {X X' W : Led} {s s' : Shared} (p : PurX X X' s s') (hW : Holds W (hideAll s.heap (X.map (·.1)))) : Holds W s'.heap := fun q hq => by
  have h := hW q hq
  by_cases hb : q.1 ∈ X.map (·.1)
  · rw [hideAll_none _ hb] at h; cases h
  · exact p.k _ _ hb (of_hideAll _ h)
end
end Mine

end LT_part
section LU_part
set_option maxHeartbeats 1000000
namespace Mine
open PySem PySem.W PySem.Calls PySem.Spec PyProof.Rows

section
variable {prog : Program} {w : World} {A : Around} {E : Value → Shared → Prop} {s : Shared} {env : Env} {K : Frag} {h₀ : Heap} {L : Addr} {m : Str → Option Value} {own : Led} {G : Array GenState} {O : OsState} {N : Shared → Prop} {R : Value → Shared → Prop} {rest : List Stmt} {Q : Value → Shared → Prop} {hp : Heap}
theorem Fm.atH {X : Led} (F : Fm h₀ L m (own ++ X) G O s) (i : Nat) {a : Addr} {o : Obj} (hi : own[i]? = some (a, o)) : (hideAll s.heap (X.map (·.1))).get? a = some o :=
  hideAll_get _ (F.mem (List.mem_append_left _ (List.mem_of_getElem? hi))) (F.apart (List.mem_of_getElem? hi))
theorem law_values_right_spec {src : Addr} {o : Obj} (Y : Lay K) (C : Cx K (hideAll s.heap [src])) (r : Rm A 8) (ho : s.heap.get? src = some o) (hS : SrcO o)
    (ret : ∀ o' s', PurX [(src, o)] [(src, o')] s s' → SrcO o' → Q (.bool true) s') :
    wpAny (model prog w) A (call (.ref 493) [.ref src]) Q E s := by
  refine enterC [(src, o)] Y.f_law_values_right C.hide r ["source"] (fun p hp => by rw [List.mem_singleton.mp hp]; exact ho) (by simp) (fun L s₁ co hco F => ?_) (fun L => ?_)
  rotate_left
  · intro x hx
    rcases List.mem_cons.mp hx with rfl | hx
    · exact .inr ⟨rfl, rfl⟩
    · cases hx
  have r' := r.deeper (envK "_law_values_right" (stmtAt 44) L 493)
  have cs : (co "source").data = .cell (some (.ref src)) := hco "source" _ rfl
  have cn : (co "numbers").data = .cell none := hco "numbers" _ rfl
  have F : Fm (hideAll s.heap [src]) L (bindL (envK "_law_values_right" (stmtAt 44) L 493).kindOf ((["source"] : List Str).zip [Value.ref src]) fun _ => none) ([(L + 1 + 1, co "numbers"), (L + 1, co "source")] ++ [(src, o)]) s.gens s.os s₁ := F
  refine S_for_range F r'.h (E_bi (F.cx C) Y.b_range bb_range (by simp) (E_int (rng1 (F.tok _) fun rr v0 v s₂ F => ?_)) (by decide +kernel))
  refine ⟨rr, 0, 4, _, _, _, (fun i m own => ∃ so, own = [(L + 1 + 1, co "numbers"), (L + 1, co "source")] ++ [(src, so)] ∧ SrcO so), _, _, rfl, F.at 0 rfl, by omega, F.cut 1, ⟨o, rfl, hS⟩, fun i t m own ox I s₃ hi hI F => ?_, fun m own s₃ hI F => ?_⟩
  · obtain ⟨so, rfl, hS'⟩ := hI
    have F := F.perm (perm_in _ _ _)
    refine @S_asg _ _ _ _ _ _ _ _ _ _ _ _ ?_ (by rfl)
    refine @E_list _ _ _ _ _ _ _ _ ?_ (by rfl)
    refine @Bx.u _ ?_
    refine V_bool F fun b1 s₄ F => ?_
    refine V_bool F fun b2 s₅ F => ?_
    refine V_str F fun b3 u3 s₆ F => ?_
    refine V_str F fun b4 u4 s₇ F => ?_
    refine V_nil F fun a5 b5 s₈ F => ?_
    refine V_list1 F fun a6 b6 u6 s₉ F => ?_
    refine B_end (newL F fun th s₁₀ F => stL F fun s₁₁ F => ?_)
    obtain ⟨W, hW⟩ : ∃ W : Led, W = [(b6, tup [.ref a6, .bool true] 0), (a6, lst [.int 0 u6] 0), (b5, tup [.ref a5, .bool false] 0), (a5, lst [] 0), (b4, tup [.str "x y" u4, .bool true] 0), (b3, tup [.str "" u3, .bool false] 0), (b2, tup [.bool false, .bool false] 0), (b1, tup [.bool true, .bool true] 0)] := ⟨_, rfl⟩
    have hp : ∀ v ∈ ([.ref b1, .ref b2, .ref b3, .ref b4, .ref b5, .ref b6] : List Value), PairL W v := by
      subst hW
      intro v hv
      simp only [List.mem_cons, List.not_mem_nil, or_false] at hv
      rcases hv with rfl | rfl | rfl | rfl | rfl | rfl
      · exact ⟨_, _, _, _, rfl, List.mem_of_getElem? (i := 7) rfl, fun p h hh => HV.bool _ _⟩
      · exact ⟨_, _, _, _, rfl, List.mem_of_getElem? (i := 6) rfl, fun p h hh => HV.bool _ _⟩
      · exact ⟨_, _, _, _, rfl, List.mem_of_getElem? (i := 5) rfl, fun p h hh => HV.str (by decide)⟩
      · exact ⟨_, _, _, _, rfl, List.mem_of_getElem? (i := 4) rfl, fun p h hh => HV.str (by decide)⟩
      · exact ⟨_, _, _, _, rfl, List.mem_of_getElem? (i := 2) rfl, fun p h hh => HV.list (hh _ (List.mem_of_getElem? (i := 3) rfl)) (by simp)⟩
      · exact ⟨_, _, _, _, rfl, List.mem_of_getElem? (i := 0) rfl, fun p h hh => HV.list (hh _ (List.mem_of_getElem? (i := 1) rfl)) (by simp)⟩
    have hxl : 0 < ([.ref b1, .ref b2, .ref b3, .ref b4, .ref b5, .ref b6] : List Value).length ∧ ([.ref b1, .ref b2, .ref b3, .ref b4, .ref b5, .ref b6] : List Value).length < 1000 := by simp
    have F := F.perm (own' := ((th, lst [.ref b1, .ref b2, .ref b3, .ref b4, .ref b5, .ref b6] 0) :: (L + 1 + 1, co "numbers") :: (L + 1, co "source") :: (I, ox) :: W) ++ [(src, so)]) (by
      subst hW
      exact .cons _ ((List.perm_append_comm (l₁ := [(b6, _), (a6, _), (b5, _), (a5, _), (b4, _), (b3, _), (b2, _), (b1, _)]) (l₂ := [(L + 1 + 1, co "numbers"), (L + 1, co "source"), (I, ox)])).append_right [(src, so)]))
    clear hW
    revert hp hxl F
    generalize ([.ref b1, .ref b2, .ref b3, .ref b4, .ref b5, .ref b6] : List Value) = xs
    intro hp hxl F
    refine S_asgU r'.h (E_fn Y.f_law_one (F.cx C) Y.n_law_one (nmO (F.at 2 rfl) cs (nmL F put_same ⟨F.cx C, ?_⟩)))
    refine one_spec Y (C.keeps F.hid) (r'.mono (by omega)) (F.hasX (src, so) (.head _)) hS' (F.at 0 rfl) (fun e => F.apart (.head _) (by rw [e]; simp)) hxl.1 hxl.2 fun dw v so2 s₁₂ p hS2 hv => ?_
    have F := F.swap p
    obtain ⟨a, x, d, n, rfl, ha, hx⟩ := hp v (List.mem_of_getElem? hv)
    refine ⟨a, x, .bool d, n, rfl, F.mem (by simp [ha]), fun s₁₃ q => stL (F.pur q) fun s₁₄ F => stL F fun s₁₅ F => ?_⟩
    refine @S_asgT3 _ _ _ _ _ _ _ _ _ _ _ _ _ _ _ _ _ _ _ _ "number" "under" "position" F r'.h ?_ rfl rfl rfl rfl rfl
    refine @E_tup _ _ _ _ _ _ _ _ _ ?_ rfl
    refine E_bin (E_int (E_fn Y.f_law_take ((F.tok _).cx C) Y.n_law_take (nmO ((F.tok _).at 2 rfl) cs (E_int ⟨((F.tok _).tok _).cx C, ?_⟩))))
    have F := (F.tok (s₁₅.toks + 1)).tok (s₁₅.toks + 1 + 1)
    refine take_spec Y (C.keeps F.hid) (r'.mono (by omega)) (F.hasX (src, so2) (.head _)) hS2 (n := 4) (by decide) (by decide) fun d1 u1 so3 s₁₆ p hS3 hd1 => ?_
    have F := F.swap p
    refine PyProof.Rows.add_int ?_
    refine E_bin (E_int (E_fn Y.f_law_take (((F.tok _).tok _).cx C) Y.n_law_take (nmO (((F.tok _).tok _).at 2 rfl) cs (E_int ⟨(((F.tok _).tok _).tok _).cx C, ?_⟩))))
    have F := ((F.tok (s₁₆.toks + 1)).tok (s₁₆.toks + 1 + 1)).tok (s₁₆.toks + 1 + 1 + 1)
    refine take_spec Y (C.keeps F.hid) (r'.mono (by omega)) (F.hasX (src, so3) (.head _)) hS3 (n := 2) (by decide) (by decide) fun d2 u2 so4 s₁₇ p hS4 hd2 => ?_
    have F := F.swap p
    refine PyProof.Rows.add_int ?_
    refine E_bin (E_int (E_fn Y.f_law_take (((F.tok _).tok _).cx C) Y.n_law_take (nmO (((F.tok _).tok _).at 2 rfl) cs (E_int ⟨(((F.tok _).tok _).tok _).cx C, ?_⟩))))
    have F := ((F.tok (s₁₇.toks + 1)).tok (s₁₇.toks + 1 + 1)).tok (s₁₇.toks + 1 + 1 + 1)
    refine take_spec Y (C.keeps F.hid) (r'.mono (by omega)) (F.hasX (src, so4) (.head _)) hS4 (n := 4) (by decide) (by decide) fun d3 u3 so5 s₁₈ p hS5 hd3 => ?_
    have F := F.swap p
    refine PyProof.Rows.add_int ?_
    refine newT (F.tok _) fun dt s₁₉ F => ⟨dt, _, _, _, 0, _, _, rfl, F.cut 1, F.at 0 rfl, fun s₂₀ F => ?_⟩
    refine S_if (T_cmp (E_fn Y.f_holds (F.cx C) Y.n_holds (nmL F (put_ne (put_ne (put_ne (put_ne put_same)))) (nmL F (put_ne (put_ne put_same)) ⟨F.cx C, ?_⟩))))
    refine holds_any Y (F.cx C) (r'.mono (by omega)) (hx _ _ fun q hq => (F.nw q (by simp [hq])).1) fun s₂₁ p => ?_
    have F := F.pur p
    refine nmL F (put_ne (put_ne (put_ne put_same))) (cmp_ne_b (tr_bool ?_))
    have hdd : (!(d == d)) = false := by cases d <;> rfl
    rw [hdd]
    refine S_nil (S_asg (E_row F put_same (put_ne put_same) (by omega) fun b x y tx ty s₂₂ hxy F => stL F fun s₂₃ F => ?_))
    refine S_if (T_cmp (E_fn Y.f_holds (F.cx C) Y.n_holds (nmL F put_same (nmL F (put_ne (put_ne (put_ne put_same))) ⟨F.cx C, ?_⟩))))
    refine holds_tup Y (F.cx C) (r'.mono (by omega)) (F.at 0 rfl) fun s₂₄ p => ?_
    have F := F.pur p
    refine E_bool2 (bo_cons (E_cmp (E_sub (nmL F put_same (E_int (sub_t ((F.tok _).at 0 rfl) (by decide) (by decide) rfl (E_int (cmp_eq (tr_bool ?_)))))))))
    have F := (F.tok (s₂₄.toks + 1)).tok (s₂₄.toks + 1 + 1)
    have back : ∀ {m own s'}, Fm (hideAll s.heap [src]) L m ((b, tup [.int x tx, .int y ty] 0) :: (((th, lst xs 0) :: (L + 1 + 1, co "numbers") :: (L + 1, co "source") :: (I, ox) :: W) ++ [(src, so5)])) s.gens s.os s' → own = [(L + 1 + 1, co "numbers"), (L + 1, co "source")] ++ [(src, so5)] → Fm (hideAll s.heap [src]) L m (own ++ [(I, ox)]) s.gens s.os s' := fun F e => by
      subst e
      have F := F.drop (own' := [(L + 1 + 1, co "numbers"), (L + 1, co "source")] ++ [(I, ox)] ++ [(src, so5)]) (.cons _ (.cons _ (.cons_cons _ (.cons_cons _ (.cons_cons _ (List.sublist_append_right W _))))))
      exact F.perm (perm_in _ _ _)
    cases q : (y == 1) with
    | false =>
      refine cmp_ne_b (tr_bool ?_)
      rw [show (!((x == 1 + (d3 : Int) && false) == false)) = false by simp]
      exact S_nil (S_nil ⟨_, _, ⟨so5, rfl, hS5⟩, back F rfl⟩)
    | true =>
      refine bo_last (E_cmp (nmL F (put_ne put_same) (nmL F (put_ne (put_ne (put_ne put_same))) (cmp_eq (cmp_ne_b (tr_bool ?_))))))
      rw [hxy (beq_iff_eq.mp q)]
      rw [show (!((1 + (d1 : Int) == 1 + (d3 : Int) && true) == (1 + (d1 : Int) == 1 + (d3 : Int)))) = false by simp]
      exact S_nil (S_nil ⟨_, _, ⟨so5, rfl, hS5⟩, back F rfl⟩)
  · obtain ⟨so, rfl, hS'⟩ := hI
    have r2 : ∀ {i : Nat} {x : Nat} {ns : List Nat}, ns[i]? = some x → (ns.take i).contains x = decide (x ∈ uniq (ns.take i)) := fun {i x ns} _ => by
      rw [Bool.eq_iff_iff, List.contains_iff_mem, decide_eq_true_iff, mem_uniq]
    refine S_asg (E_compR F [("source", L + 1)] r'.h (E_bi (F.cx C) Y.b_range bb_range (by simp) (E_fn Y.f_law_take (F.cx C) Y.n_law_take (nmO (F.at 1 rfl) cs (E_int ⟨(F.tok _).cx C, ?_⟩))) (by decide +kernel)))
    have F := F.tok (s₃.toks + 1)
    refine take_spec Y (C.keeps F.hid) (r'.mono (by omega)) (F.hasX (src, so) (.head _)) hS' (n := 7) (by decide) (by decide) fun d u so2 s₄ p hS2 hd => ?_
    have F := F.swap p
    refine rng1 F fun rg v0 v s₅ F => ?_
    have F := F.perm (own' := ((rg, _) :: [(L + 1 + 1, co "numbers"), (L + 1, co "source")]) ++ [(src, so2)]) (.refl _)
    refine ⟨rg, d, _, _, _, (fun i ys Z => ∃ so ns, Z = [(src, so)] ∧ SrcO so ∧ NatsAre ys ns ∧ ns.length = i), [(src, so2)], (rg, _) :: [(L + 1 + 1, co "numbers"), (L + 1, co "source")], _, rfl, F.at 0 rfl, by omega, F, ⟨so2, [], rfl, hS2, .nil, rfl⟩, fun i ys Z ⟨so, ns, e, _⟩ => by rw [e]; rfl, fun i t ys m' Z D k o C' I s₆ hi hI F' => ?_, fun D ys Z k s₆ hI F => ?_⟩
    · obtain ⟨so3, ns, rfl, hS3, hys, hnl⟩ := hI
      have C2 := C.keeps F.hid
      refine ts_nil ?_
      refine E_fn Y.f_law_take (F'.cx C2) Y.n_law_take (nmO (F'.keep _ _ (F.atH 2 rfl)) cs (E_int ⟨(F'.tok _).cx C2, ?_⟩))
      have F' := Fm.perm (F'.tok (s₆.toks + 1)) (List.perm_append_comm (l₁ := [(src, so3)]) (l₂ := [(D, lst ys k), (I, o)]))
      refine take_spec Y (C2.keeps F'.hid) (r'.mono (by omega)) (F'.hasX (src, so3) (.head _)) hS3 (n := 4) (by decide) (by decide) fun dd ud so4 s₇ p hS4 hdd => ?_
      have F' := F'.swap p
      exact ⟨[(src, so4)], _, ⟨so4, ns ++ [dd], rfl, hS4, hys.snoc, by simp [hnl]⟩, F'.perm (List.perm_append_comm (l₁ := [(D, lst ys k), (I, o)]) (l₂ := [(src, so4)]))⟩
    obtain ⟨so3, ns, rfl, hS3, hys, hnl⟩ := hI
    have hyl := hys.length
    refine stO F 2 rfl cn fun cO s₇ hcO F => ?_
    refine S_ret (E_cmp (E_fn Y.f_unlike (F.cx C) Y.n_unlike (nmO (F.at 2 rfl) hcO ⟨F.cx C, ?_⟩)))
    refine unlike_spec Y (F.cx C) (r'.mono (by omega)) (F.at 0 rfl) hys (by omega) fun v s₈ p hn => ?_
    obtain ⟨ul, us, un, rfl, hu0, hu1, hus⟩ := hn
    have F := F.add p hu0 hu1
    refine E_compR F [("numbers", L + 1 + 1)] r'.h (E_bi (F.cx C) Y.b_range bb_range (by simp) (E_bi (F.cx C) Y.b_len bb_len (by simp) (nmO (F.at 3 rfl) hcO (len_l (F.at 1 rfl) (by omega) fun tl s₉ p => ?_)) (by decide +kernel)) (by decide +kernel))
    have F := F.pur p
    refine rng1 F fun rg2 v2 v3 s₁₀ F => ?_
    rw [show ((ys.length : Nat) : Int) = ((ns.length : Nat) : Int) by rw [hyl]] at F
    have F0 := F.perm (List.Perm.of_eq (List.append_nil _).symm)
    refine ⟨rg2, ns.length, _, _, _, (fun i zs Z => Z = [] ∧ NatsAre zs (uniq (ns.take i))), [], _, _, rfl, F.at 0 rfl, by omega, F0, ⟨rfl, .nil⟩, fun i zs Z h => by rw [h.1], fun i t zs m' Z D2 k2 o2 C' I2 s₁₁ hi hI F' => ?_, fun D2 zs Z k2 s₁₁ hI F => ?_⟩
    · obtain ⟨rfl, hz⟩ := hI
      obtain ⟨x, hx⟩ : ∃ x, ns[i]? = some x := ⟨_, List.getElem?_eq_getElem hi⟩
      obtain ⟨tx, hyx⟩ := hys.get hx
      have kD := fun {s' : Heap} (k : ∀ b o, (hideAll s₁₀.heap (List.map (·.1) ([] : Led))).get? b = some o → s'.get? b = some o) => k _ _ (F0.atH 2 rfl)
      have kN := fun {s' : Heap} (k : ∀ b o, (hideAll s₁₀.heap (List.map (·.1) ([] : Led))).get? b = some o → s'.get? b = some o) => k _ _ (F0.atH 4 rfl)
      refine ts_one (T_cmp (E_sub (nmO (kN F'.keep) hcO (nmL F' put_same (sub_l (kD F'.keep) (by omega) (by omega) hyx ?_)))))
      refine E_slice (nmO (kN F'.keep) hcO (O_none (O_some (nmL F' put_same (O_none ⟨D, ys, k, none, some ((i : Nat) : Int), none, ys.take i, rfl, kD F'.keep, .none, .int _ _, .none, by decide, by omega, by rw [slicePick_upto'], fun l2 s₁₂ p hn hl2 => ?_⟩)))))
      have F' := F'.pur p
      refine notin_list_ints (isL hl2) (hys.take i) (tr_bool ?_)
      rw [any_nat, r2 hx]
      have eu : uniq (ns.take (i + 1)) = addNew (uniq (ns.take i)) x := by rw [take_snoc hx, uniq_snoc]
      by_cases hm : x ∈ uniq (ns.take i)
      · rw [decide_eq_true hm]
        refine ⟨[], _, ⟨rfl, ?_⟩, F'⟩
        rw [eu]; unfold addNew; rw [if_pos hm]; exact hz
      · rw [decide_eq_false hm]
        refine E_sub (nmO (kN F'.keep) hcO (nmL F' put_same (sub_l (kD F'.keep) (by omega) (by omega) hyx ⟨[], _, ⟨rfl, ?_⟩, F'⟩)))
        rw [eu]; unfold addNew; rw [if_neg hm]; exact hz.snoc
    · obtain ⟨rfl, hz⟩ := hI
      rw [List.take_length] at hz
      rw [List.append_nil] at F
      refine eq_nats (F.at 2 rfl) (F.at 0 rfl) hus hz r'.units ?_
      have F := F.perm (own' := [_, _, _, _, _, _, _] ++ [(src, so3)]) (.refl _)
      exact ret _ _ F.backX hS3
end
end Mine

end LU_part
section LV_part
set_option maxHeartbeats 1000000
namespace Mine
open PySem PySem.W PySem.Calls PySem.Spec PyProof.Rows

section
variable {prog : Program} {w : World} {A : Around} {E : Value → Shared → Prop} {s : Shared} {env : Env} {K : Frag} {h₀ : Heap} {L : Addr} {m : Str → Option Value} {own : Led} {G : Array GenState} {O : OsState} {N : Shared → Prop} {R : Value → Shared → Prop} {rest : List Stmt} {Q : Value → Shared → Prop} {hp : Heap}
/-- for x, y in a list of the frame's own pairs -/
theorem S_for_own2 {iter : Expr} {x y : Str} {k : Nat} {px py tp pos : Pos} {body : List Stmt} {m₀ : Str → Option Value} {own₀ : Led} {s₀ : Shared} (_F : Fm h₀ L m₀ own₀ G O s₀) (hh : A.handled = none)
    (h : wpE (model prog w) A iter env (fun xv s₁ => ∃ (l : Addr) (xs : List Value) (n : Nat) (Inv : Nat → (Str → Option Value) → Led → Prop) (m : Str → Option Value) (own : Led), xv = .ref l ∧ Fm h₀ L m own G O s₁ ∧ Inv 0 m own ∧ (∀ i m own, Inv i m own → (l, lst xs n) ∈ own) ∧
      (∀ (i : Nat) (v : Value) m own, xs[i]? = some v → Inv i m own → ∃ (a : Addr) (v1 v2 : Value) (k : Nat), v = .ref a ∧ (a, tup [v1, v2] k) ∈ own ∧ ∀ o I s, Fm h₀ L (put (put m x v1) y v2) (own ++ [(I, o)]) G O s →
        wpS (model prog w) A body env (fun s' => ∃ m' own', Inv (i + 1) m' own' ∧ Fm h₀ L m' (own' ++ [(I, o)]) G O s') R s) ∧
      (∀ m own s, Inv xs.length m own → Fm h₀ L m own G O s → wpS (model prog w) A rest env N R s)) s)
    (hL : env.locals = L := by rfl) (hk : env.scope.kind = .function := by rfl) (hlx : env.kindOf x = some .local := by rfl) (hly : env.kindOf y = some .local := by rfl)
    (hs : ∀ x, foldedSetIterable iter env x = pure x := by intro _; rfl) : wpS (model prog w) A (.For (.Tuple [.Name x px, .Name y py] k tp) iter body [] pos :: rest) env N R s := by
  refine S_cons (wpAny_For (wpAny_mono h (fun xval s₁ h₁ => ?_) fun _ _ x => x) hs)
  obtain ⟨l, xs, n, Inv, m, own, rfl, F, h0, hl0, turn, fin⟩ := h₁
  have hls := F.mem (hl0 _ _ _ h0)
  refine wpAny_pyIter_list (isL hls) ?_
  obtain ⟨I, hI⟩ : ∃ I, I = s₁.heap.objs.size := ⟨_, rfl⟩
  have hne : l ≠ I := by rw [hI]; exact Nat.ne_of_lt (Heap.lt_size hls)
  have W := Walks.list (prog := prog) (w := w) hh I l hne xs.toArray
  rw [List.size_toArray] at W
  rw [← hI]
  have F₀ := addAt (F.alloc (o := { cls := .type "list_iterator", data := .fields #[.ref l, rawInt 0] }) rfl)
  have hst0 : (s₁.heap.push { cls := .type "list_iterator", data := .fields #[.ref l, rawInt 0] }).IsListIter I l 0 := by rw [hI]; exact ⟨_, Heap.get?_push_size _ rfl, rfl, rfl⟩
  rw [← hI] at F₀
  refine codeAny_forLoop_any (fun k s' => ∃ (i : Nat) (m : Str → Option Value) (own : Led) (o : Obj), Fm h₀ L m (own ++ [(I, o)]) G O s' ∧ s'.heap.IsListIter I l i ∧ Inv i m own ∧ i ≤ xs.length ∧ k = xs.length + 1 - i) ?_ (xs.length + 1)
    ⟨0, m, own, _, F₀, hst0, h0, Nat.zero_le _, rfl⟩
  rintro k s' ⟨i, m', own', o, F', hit, hI', hi, rfl⟩
  have hl' := F'.mem (List.mem_append_left _ (hl0 _ _ _ hI'))
  by_cases hlt : i < xs.length
  · refine W.item i _ _ _ hlt ⟨hit, isL hl'⟩ fun v h₁ tk₁ hP hst₁ hk₁ => ?_
    obtain ⟨⟨o₁, ho₁, ho₁'⟩, hll⟩ := hst₁
    have hv : xs[i]? = some v := by simpa using hP
    obtain ⟨a, v1, v2, kk, rfl, ha, turn'⟩ := turn i v m' own' hv hI'
    have F₁ := F'.chg (a := I) (o := o) (h' := h₁) (t := tk₁) own'.length (by simp) (fun b y hb e => hk₁ b y (by simpa using hb) e) ho₁
    rw [show (own' ++ [(I, o)]).set own'.length (I, o₁) = own' ++ [(I, o₁)] by simp] at F₁
    refine wpAny_letOwnedTupleGo_listiter (i := i + 1) ⟨o₁, ho₁, ho₁'⟩ ?_
    refine wpAny_assign_Tuple hh (isTp (F₁.mem (List.mem_append_left _ ha))) rfl rfl fun h₃ hx₃ => ?_
    have F₃ := F₁.pur (s' := { s' with heap := h₃, toks := tk₁ }) ⟨fun b o q => hx₃ b o (Nat.ne_of_lt (Heap.lt_size q)) q, rfl, rfl⟩
    show wpAny _ A (do holding [v2] (assign (.Name x px) env v1); do holding [] (assign (.Name y py) env v2); pure ()) _ _ _
    refine wpAny_bind (wpAny_holding (wpAny_assign_Name (wpAny_mono (stL (E := NR) F₃ (Q := fun _ s₄ => wpAny (model prog w) A (storeName env y v2) (fun _ s₅ => wpAny (model prog w) A (execs body env) (fun f s₃ => match f with
          | .next | .cont => ∃ m, m < xs.length + 1 - i ∧ ∃ (i : Nat) (m' : Str → Option Value) (own : Led) (o : Obj), Fm h₀ L m' (own ++ [(I, o)]) G O s₃ ∧ s₃.heap.IsListIter I l i ∧ Inv i m' own ∧ i ≤ xs.length ∧ m = xs.length + 1 - i
          | .brk => False
          | .ret v => R v s₃) NR s₅) NR s₄) (fun s₄ F₄ => ?_) hL hk hlx) (fun _ _ y => ?_) fun _ _ z => z.elim)))
    · refine stL (E := NR) F₄ (fun s₅ F₅ => ?_) hL hk hly
      refine wpAny_mono (turn' _ I s₅ F₅) (fun f s₆ y => ?_) fun _ _ y => y
      cases f with
      | next =>
        obtain ⟨m₆, own₆, hI₆, F₆⟩ := y
        exact ⟨xs.length + 1 - (i + 1), by omega, i + 1, m₆, own₆, _, F₆, ⟨o₁, F₆.mem (by simp), ho₁'⟩, hI₆, hlt, rfl⟩
      | ret v => exact y
      | brk => exact y.elim
      | cont => exact y.elim
    · refine wpAny_bind (wpAny_holding (wpAny_assign_Name (wpAny_mono y (fun _ _ z => wpAny_pure (wpAny_mono z (fun f s₃ z => ?_) fun _ _ z => z.elim)) fun _ _ z => z.elim)))
      cases f <;> first | exact z | exact z.elim
  · have : i = xs.length := by omega
    subst this
    refine W.done _ _ _ ⟨hit, isL hl'⟩ fun h₁ tk₁ hk₁ => wpAny_execs_nil (fin m' own' _ hI' (F'.lose fun b y hb e => hk₁ b y (by simpa using hb) e))
theorem D_none {wd : Str} {k0 : Int} {k k1 k2 k3 : Nat} {p1 p2 p3 p4 : Pos} {ks : List (Option Expr)} {vs : List Expr} {Q : List (Value × Value) → Shared → Prop} (F : Fm h₀ L m own G O s)
    (h : ∀ tk e t s', Fm h₀ L m ((e, tup [.none, .str wd t] 0) :: own) G O s' → Bx (wpP (model prog w) A env ks vs (fun r s3 => Q ((.int k0 tk, .ref e) :: r) s3) s')) :
    Bx (wpP (model prog w) A env (some (.Constant (.int k0) k p1) :: ks) (.Tuple [.Constant .none k1 p2, .Constant (.str wd) k2 p3] k3 p4 :: vs) Q s) :=
  ⟨P_cons (E_int (E_tup (E_none (E_str (newT ((F.tok _).tok _) fun e s' F => (h _ e _ s' F).u)))))⟩
theorem D_int {wd : Str} {k0 i : Int} {k k1 k2 k3 : Nat} {p1 p2 p3 p4 : Pos} {ks : List (Option Expr)} {vs : List Expr} {Q : List (Value × Value) → Shared → Prop} (F : Fm h₀ L m own G O s)
    (h : ∀ tk e ti t s', Fm h₀ L m ((e, tup [.int i ti, .str wd t] 0) :: own) G O s' → Bx (wpP (model prog w) A env ks vs (fun r s3 => Q ((.int k0 tk, .ref e) :: r) s3) s')) :
    Bx (wpP (model prog w) A env (some (.Constant (.int k0) k p1) :: ks) (.Tuple [.Constant (.int i) k1 p2, .Constant (.str wd) k2 p3] k3 p4 :: vs) Q s) :=
  ⟨P_cons (E_int (E_tup (E_int (E_str (newT (((F.tok _).tok _).tok _) fun e s' F => (h _ e _ _ s' F).u)))))⟩
theorem D_end {Q : List (Value × Value) → Shared → Prop} (h : Q [] s) : Bx (wpP (model prog w) A env [] [] Q s) := ⟨P_nil h⟩
/-- x = [elt for y in range(n) if ..] -/
theorem S_asgCR {elt iter : Expr} {x y : Str} {px py : Pos} {ifs : List Expr} {scope : Scope} {pos spos : Pos} {m₁ : Str → Option Value} {own₁ : Led} {s₀ : Shared} (_F : Fm h₀ L m₁ own₁ G O s₀) (cl : List (Str × Addr)) (hh : A.handled = none)
    (h : wpE (model prog w) A iter env (fun xv s₁ => ∃ (r : Addr) (n : Nat) (t u v : Tok) (Inv : Nat → List Value → Led → Prop) (X own : Led) (m : Str → Option Value), xv = .ref r ∧ IsRange s₁.heap r 0 (n : Int) 1 t u v ∧ n ≤ 1000 ∧ Fm h₀ L m (own ++ X) G O s₁ ∧ Inv 0 [] X ∧ (∀ i ys Z, Inv i ys Z → Z.map (·.1) = X.map (·.1)) ∧
      (∀ i t ys m' Z D k o C I s, i < n → Inv i ys Z → Fm (hideAll s₁.heap (X.map (·.1))) C (put m' x (.int (i : Int) t)) (Z ++ [(D, lst ys k), (I, o)]) G O s →
        wpTs (model prog w) A ifs (compEnvC scope cl C env) (fun ok s' => match ok with
          | true => wpE (model prog w) A elt (compEnvC scope cl C env) (fun y s'' => ∃ Z' m'', Inv (i + 1) (ys ++ [y]) Z' ∧ Fm (hideAll s₁.heap (X.map (·.1))) C m'' (Z' ++ [(D, lst ys k), (I, o)]) G O s'') s'
          | false => ∃ Z' m'', Inv (i + 1) ys Z' ∧ Fm (hideAll s₁.heap (X.map (·.1))) C m'' (Z' ++ [(D, lst ys k), (I, o)]) G O s') s) ∧
      (∀ D ys Z k s', Inv n ys Z → Fm h₀ L (put m y (.ref D)) ((D, lst ys k) :: (own ++ Z)) G O s' → wpS (model prog w) A rest env N R s')) s)
    (hsw : swapsWith (.ListComp elt [⟨.Name x px, iter, ifs, 0⟩] scope pos) (some (.Name y py)) spos.line env = pure true := by rfl)
    (hclos : closureFor scope env = pure cl := by rfl) (hcell : ∀ z ∈ scope.names, z.2 ≠ .cell := by decide +kernel) (hkind : scope.kind = .function := by rfl)
    (hnames : ∀ z ∈ scope.names, z.2 = .local → scope.names.lookup z.1 = some .local := by decide +kernel) (hx : scope.names.lookup x = some .local := by rfl)
    (hL : env.locals = L := by rfl) (hk : env.scope.kind = .function := by rfl) (hy : env.kindOf y = some .local := by rfl)
    (hs : ∀ x, foldedSetIterable iter env x = pure x := by intro _; rfl) :
    wpS (model prog w) A (.Assign [.Name y py] (.ListComp elt [⟨.Name x px, iter, ifs, 0⟩] scope pos) spos :: rest) env N R s := by
  refine S_asgC _F cl (wpAny_mono h (fun xv s₁ h₁ => ?_) fun _ _ x => x) hsw hclos hcell hkind hnames hx hL hk hy hs
  obtain ⟨r, n, t, u, v, Inv, X, own, m, rfl, hr, hn, F, h0, hZ, turn, fin⟩ := h₁
  have W := (Walks.range (prog := prog) (w := w) hh s₁.heap.objs.size (0 : Int) 1 n).bound
  refine ⟨_, _, n, _, _, Inv, X, own, m, fun Q' q => wpAny_pyIter_range hr (small_one (by omega) (by omega) (by omega) (by omega)) q, W, hn, F, rfl, ?_, fun b hb => .inl (List.mem_singleton.mp hb), fun i h hi => ⟨_, hi⟩, h0, hZ, ?_, fin⟩
  · show IsRangeIter _ _ _ _ _
    have e : Builtin.Range.rangeSize (0 : Int) (n : Int) 1 = (n : Int) := by rw [rangeSize_one]; split <;> omega
    rw [e]
    simpa using Heap.get?_push_size _ rfl
  · rintro i v ys m' Z D k o C s hi ⟨_, t, rfl⟩ hI F
    have e : (0 : Int) + (i : Int) * 1 = (i : Int) := by omega
    rw [e] at F
    exact turn i t ys m' Z D k o C _ s hi hI F
theorem Fm.memH {X : Led} (F : Fm h₀ L m (own ++ X) G O s) {a : Addr} {o : Obj} (hi : (a, o) ∈ own) : (hideAll s.heap (X.map (·.1))).get? a = some o :=
  hideAll_get _ (F.mem (List.mem_append_left _ hi)) (F.apart hi)
/-- _law_step_right over a document of the frame's own -/
theorem step_call {T : TreeA} {D : Doc} {bo : Obj} {b a tb : Addr} {tu X1 X2 : Led} {xs : List Value} {ns : List Nat} {n nt : Nat} {way : Str} {u t1 t2 t3 tp : Tok} {Ts : Tst} {pv : Value} {pos : Option Nat} (Y : Lay K) (C : Cx K h₀) (T1 : Tb h₀ 179 177) (T2 : Tb h₀ 516 514) (r : Rm A 18)
    (F : Fm h₀ L m (own ++ (X1 ++ X2)) G O s) (hX1 : SbTab X1) (hX2 : LrTab X2) (ok : TreeOk T D) (hTl : ∀ p ∈ T.led, p ∈ own) (hBk : BookL prog w D bo tu) (lo : (b == sysModules) = false) (hb : (b, bo) ∈ own) (htu : ∀ p ∈ tu, p ∈ own) (P : Pre D)
    (ha : (a, lst xs n) ∈ own) (hx : NatsAre xs ns) (hnl : ∀ x ∈ ns, x < D.length) (hn8 : ns.length ≤ 8) (hD : D.length < 64) (hw : Way way) (htb : (tb, tup (Ts.vals t1 t2 t3) nt) ∈ own) (hp1 : ∀ p, pos = some p → 1 ≤ p) (hpv : PosV pv tp pos)
    (ret : ∀ X1' X2' s', Fm h₀ L m (own ++ (X1' ++ X2')) G O s' → SbTab X1' → LrTab X2' → Q (.bool true) s') :
    wpAny (model prog w) A (call (.ref 517) [.ref T.t, .ref b, .ref a, .str way u, .ref tb, pv]) Q E s :=
  law_step_right_spec Y (C.keeps F.hid) (T1.keeps F.hid) (T2.keeps F.hid) r hX1 hX2 F.hasX F.ndX ⟨⟨T, rfl, ok, fun p hp => F.memH (hTl p hp)⟩⟩ (hBk.is lo (F.memH hb) fun p hp => F.memH (htu p hp)) P (F.memH ha) hx hnl hn8 hD hw
    ⟨tb, nt, t1, t2, t3, rfl, F.memH htb⟩ hp1 hpv fun X1' X2' s' p h1 h2 => ret X1' X2' s' (F.swap p) h1 h2
theorem G_two {a b : Int} {wd : Str} {k1 k2 k3 k4 : Nat} {p1 p2 p3 p4 p5 : Pos} {r : List Expr} {Q : List Value → Shared → Prop} (F : Fm h₀ L m own G O s)
    (h : ∀ la tb ua ub uw s', Fm h₀ L m ((tb, tup [.ref la, .str wd uw] 0) :: (la, lst [.int a ua, .int b ub] 0) :: own) G O s' → Bx (wpL (model prog w) A env r (fun vs s'' => Q (.ref tb :: vs) s'') s')) :
    Bx (wpL (model prog w) A env (.Tuple [.List [.Constant (.int a) k1 p1, .Constant (.int b) k2 p2] p3, .Constant (.str wd) k3 p4] k4 p5 :: r) Q s) :=
  ⟨E_tup (E_list (E_int (E_int (newL ((F.tok _).tok _) fun la s₂ F => E_str (newT (F.tok _) fun tb s₃ F => (h la tb _ _ _ s₃ F).u)))))⟩
theorem G_one {a : Int} {wd : Str} {k1 k3 k4 : Nat} {p1 p3 p4 p5 : Pos} {r : List Expr} {Q : List Value → Shared → Prop} (F : Fm h₀ L m own G O s)
    (h : ∀ la tb ua uw s', Fm h₀ L m ((tb, tup [.ref la, .str wd uw] 0) :: (la, lst [.int a ua] 0) :: own) G O s' → Bx (wpL (model prog w) A env r (fun vs s'' => Q (.ref tb :: vs) s'') s')) :
    Bx (wpL (model prog w) A env (.Tuple [.List [.Constant (.int a) k1 p1] p3, .Constant (.str wd) k3 p4] k4 p5 :: r) Q s) :=
  ⟨E_tup (E_list (E_int (newL (F.tok _) fun la s₂ F => E_str (newT (F.tok _) fun tb s₃ F => (h la tb _ _ s₃ F).u))))⟩
theorem G_s {wd : Str} {k1 : Nat} {p1 : Pos} {r : List Expr} {Q : List Value → Shared → Prop} (F : Fm h₀ L m own G O s)
    (h : ∀ u s', Fm h₀ L m own G O s' → Bx (wpL (model prog w) A env r (fun vs s'' => Q (.str wd u :: vs) s'') s')) : Bx (wpL (model prog w) A env (.Constant (.str wd) k1 p1 :: r) Q s) :=
  ⟨E_str ((h _ _ (F.tok _)).u)⟩
theorem G_i {i : Int} {k1 : Nat} {p1 : Pos} {r : List Expr} {Q : List Value → Shared → Prop} (F : Fm h₀ L m own G O s)
    (h : ∀ u s', Fm h₀ L m own G O s' → Bx (wpL (model prog w) A env r (fun vs s'' => Q (.int i u :: vs) s'') s')) : Bx (wpL (model prog w) A env (.Constant (.int i) k1 p1 :: r) Q s) :=
  ⟨E_int ((h _ _ (F.tok _)).u)⟩
theorem G_none {k1 : Nat} {p1 : Pos} {r : List Expr} {Q : List Value → Shared → Prop}
    (h : Bx (wpL (model prog w) A env r (fun vs s'' => Q (.none :: vs) s'') s)) : Bx (wpL (model prog w) A env (.Constant .none k1 p1 :: r) Q s) :=
  ⟨E_none h.u⟩
theorem G_t1 {wd : Str} {k1 k2 : Nat} {p1 p2 : Pos} {r : List Expr} {Q : List Value → Shared → Prop} (F : Fm h₀ L m own G O s)
    (h : ∀ tb u s', Fm h₀ L m ((tb, tup [.str wd u] 0) :: own) G O s' → Bx (wpL (model prog w) A env r (fun vs s'' => Q (.ref tb :: vs) s'') s')) : Bx (wpL (model prog w) A env (.Tuple [.Constant (.str wd) k1 p1] k2 p2 :: r) Q s) :=
  ⟨E_tup (E_str (newT (F.tok _) fun tb s' F => (h tb _ s' F).u))⟩
theorem G_t3 {w1 w2 w3 : Str} {k1 k2 k3 k4 : Nat} {p1 p2 p3 p4 : Pos} {r : List Expr} {Q : List Value → Shared → Prop} (F : Fm h₀ L m own G O s)
    (h : ∀ tb u1 u2 u3 s', Fm h₀ L m ((tb, tup [.str w1 u1, .str w2 u2, .str w3 u3] 0) :: own) G O s' → Bx (wpL (model prog w) A env r (fun vs s'' => Q (.ref tb :: vs) s'') s')) :
    Bx (wpL (model prog w) A env (.Tuple [.Constant (.str w1) k1 p1, .Constant (.str w2) k2 p2, .Constant (.str w3) k3 p3] k4 p4 :: r) Q s) :=
  ⟨E_tup (E_str (E_str (E_str (newT (((F.tok _).tok _).tok _) fun tb s' F => (h tb _ _ _ s' F).u))))⟩
end
end Mine

end LV_part
section LW_part
set_option maxHeartbeats 2000000
namespace Mine
open PySem PySem.W PySem.Calls PySem.Spec PyProof.Rows

noncomputable def D6 : Doc := [⟨none, "root"⟩, ⟨some 0, "e"⟩, ⟨some 1, "f"⟩, ⟨some 1, "text"⟩, ⟨some 0, "f"⟩, ⟨some 0, "text"⟩]
theorem pre1 : Pre [⟨none, "root"⟩, ⟨some 0, "e"⟩] := pre_root.push (nd := ⟨some 0, "e"⟩) rfl (.inl rfl) (by decide)
theorem pre2 : Pre [⟨none, "root"⟩, ⟨some 0, "e"⟩, ⟨some 1, "f"⟩] := pre1.push (nd := ⟨some 1, "f"⟩) rfl (.inl rfl) (by decide)
theorem pre3 : Pre [⟨none, "root"⟩, ⟨some 0, "e"⟩, ⟨some 1, "f"⟩, ⟨some 1, "text"⟩] := pre2.push (nd := ⟨some 1, "text"⟩) rfl (.inr (.head _)) (by decide)
theorem pre4 : Pre [⟨none, "root"⟩, ⟨some 0, "e"⟩, ⟨some 1, "f"⟩, ⟨some 1, "text"⟩, ⟨some 0, "f"⟩] := pre3.push (nd := ⟨some 0, "f"⟩) rfl (.inr (.tail _ (.head _))) (by decide)
theorem pre6 : Pre D6 := pre4.push (nd := ⟨some 0, "text"⟩) rfl (.inr (.head _)) (by decide)
theorem book6 {prog : Program} {w : World} {bo : Obj} {e0 e1 e2 e3 e4 e5 : Addr} {t0 a1 t1 a2 t2 a3 t3 a4 t4 a5 t5 : Tok}
    (h : bo.IsDictOf (intKind prog w) (merged [] [((0 : Int), Value.ref e0), (1, .ref e1), (2, .ref e2), (3, .ref e3), (4, .ref e4), (5, .ref e5)])) :
    BookL prog w D6 bo [(e5, tup [.int 0 a5, .str "text" t5] 0), (e4, tup [.int 0 a4, .str "f" t4] 0), (e3, tup [.int 1 a3, .str "text" t3] 0), (e2, tup [.int 1 a2, .str "f" t2] 0), (e1, tup [.int 0 a1, .str "e" t1] 0), (e0, tup [.none, .str "root" t0] 0)] := by
  refine ⟨_, h, rfl, fun i nd hi => ?_⟩
  match i, hi with
  | 0, hi => cases hi; exact ⟨e0, 0, .none, _, rfl, List.mem_of_getElem? (i := 5) rfl, rfl⟩
  | 1, hi => cases hi; exact ⟨e1, 0, _, _, rfl, List.mem_of_getElem? (i := 4) rfl, _, rfl⟩
  | 2, hi => cases hi; exact ⟨e2, 0, _, _, rfl, List.mem_of_getElem? (i := 3) rfl, _, rfl⟩
  | 3, hi => cases hi; exact ⟨e3, 0, _, _, rfl, List.mem_of_getElem? (i := 2) rfl, _, rfl⟩
  | 4, hi => cases hi; exact ⟨e4, 0, _, _, rfl, List.mem_of_getElem? (i := 1) rfl, _, rfl⟩
  | 5, hi => cases hi; exact ⟨e5, 0, _, _, rfl, List.mem_of_getElem? (i := 0) rfl, _, rfl⟩
  | i + 6, hi => cases hi

theorem pmB {α : Type} (b s c : α) (W X T : List α) : ((W ++ ([b, s, c] ++ X)) ++ T).Perm ((s :: c :: b :: (W ++ T)) ++ X) := by
  refine (List.Perm.append_right T List.perm_append_comm).trans ?_
  rw [List.append_assoc]
  refine (perm_in [b, s, c] X (W ++ T)).trans (List.Perm.append_right X ?_)
  exact (List.Perm.swap s b _).trans (.cons _ (List.Perm.swap c b _))
theorem pmC {α : Type} (a b c d : α) (R X tu T S : List α) : ∃ V, V = c :: (tu ++ T) ∧ ∃ l : List α, l.Sublist (((a :: b :: R) ++ X) ++ (d :: c :: (tu ++ (T ++ S)))) ∧ l.Perm (((a :: b :: V) ++ X) ++ S) := by
  refine ⟨_, rfl, ([a, b] ++ X) ++ ((c :: (tu ++ T)) ++ S), ?_, ?_⟩
  · refine List.Sublist.append (.cons_cons _ (.cons_cons _ (List.sublist_append_right R X))) (.cons _ ?_)
    rw [List.cons_append, List.append_assoc]
    exact .refl _
  · rw [← List.append_assoc]
    exact (perm_in [a, b] X (c :: (tu ++ T))).append_right S
theorem way7 {u1 u2 u3 u4 u5 u6 u7 : Tok} {d : Nat} {v : Value} (h : [Value.str "child" u1, .str "parent" u2, .str "self" u3, .str "descendant" u4, .str "ancestor" u5, .str "following-sibling" u6, .str "preceding-sibling" u7][d]? = some v) : ∃ way u, v = .str way u ∧ Way way := by
  match d, h with
  | 0, h => cases h; exact ⟨_, _, rfl, .inl rfl⟩
  | 1, h => cases h; exact ⟨_, _, rfl, .inr (.inl rfl)⟩
  | 2, h => cases h; exact ⟨_, _, rfl, .inr (.inr (.inl rfl))⟩
  | 3, h => cases h; exact ⟨_, _, rfl, .inr (.inr (.inr (.inl rfl)))⟩
  | 4, h => cases h; exact ⟨_, _, rfl, .inr (.inr (.inr (.inr (.inl rfl))))⟩
  | 5, h => cases h; exact ⟨_, _, rfl, .inr (.inr (.inr (.inr (.inr (.inl rfl)))))⟩
  | 6, h => cases h; exact ⟨_, _, rfl, .inr (.inr (.inr (.inr (.inr (.inr rfl)))))⟩
theorem pos3 {u1 u2 : Tok} {d : Nat} {v : Value} (h : [Value.none, .int 1 u1, .int 2 u2][d]? = some v) : ∃ pos tp, PosV v tp pos ∧ ∀ p, pos = some p → 1 ≤ p := by
  match d, h with
  | 0, h => cases h; exact ⟨none, 0, rfl, fun p h => by cases h⟩
  | 1, h => cases h; exact ⟨some 1, u1, rfl, fun p h => by cases h; decide⟩
  | 2, h => cases h; exact ⟨some 2, u2, rfl, fun p h => by cases h; decide⟩
theorem tst3 {b1 b2 b3 : Addr} {t1 t2 t3 t4 t5 : Tok} {d : Nat} {v : Value} (h : [Value.ref b1, .ref b2, .ref b3][d]? = some v) : ∃ (tb : Addr) (Ts : Tst) (x y z : Tok), v = .ref tb ∧ (tb, tup (Ts.vals x y z) 0) ∈ [(b3, tup [.str "name" t3, .str "" t4, .str "f" t5] 0), (b2, tup [.str "text" t2] 0), (b1, tup [.str "node" t1] 0)] := by
  match d, h with
  | 0, h => cases h; exact ⟨b1, .node, t1, 0, 0, rfl, List.mem_of_getElem? (i := 2) rfl⟩
  | 1, h => cases h; exact ⟨b2, .text, t2, 0, 0, rfl, List.mem_of_getElem? (i := 1) rfl⟩
  | 2, h => cases h; exact ⟨b3, .name, t3, t4, t5, rfl, List.mem_of_getElem? (i := 0) rfl⟩
section
variable {prog : Program} {w : World} {A : Around} {E : Value → Shared → Prop} {s : Shared} {env : Env} {K : Frag} {h₀ : Heap} {L : Addr} {m : Str → Option Value} {own : Led} {G : Array GenState} {O : OsState} {N : Shared → Prop} {R : Value → Shared → Prop} {rest : List Stmt} {Q : Value → Shared → Prop} {hp : Heap}
theorem law_spec {f sc : Addr} {o : Obj} {xs : List Value} {is : List Int} (Y : Lay K) (H : IsFn K f "law" (stmtAt 49)) (C : Cx K (hideAll s.heap [177, 514])) (T1 : Tb (hideAll s.heap [177, 514]) 179 177) (T2 : Tb (hideAll s.heap [177, 514]) 516 514) (r : Rm A 20)
    (h1 : s.heap.get? 177 = some (tabObj #[])) (h2 : s.heap.get? 514 = some (tabObj #[])) (hsc : (hideAll s.heap [177, 514]).get? sc = some o) (hlo : LO o xs) (hx : IntsAre xs is) (hsz : xs.length ≤ 1000)
    (ret : ∀ Z1 Z2 s', PurX [(177, tabObj #[]), (514, tabObj #[])] (Z1 ++ Z2) s s' → SbTab Z1 → LrTab Z2 → Q (.bool true) s') :
    wpAny (model prog w) A (call (.ref f) [.ref sc]) Q E s := by
  refine enterC [(177, tabObj #[]), (514, tabObj #[])] H C.hide r ["script"] (fun p hp => ?_) (by simp) (fun L s₁ co hco F => ?_) (fun L => ?_)
  · rcases List.mem_cons.mp hp with rfl | hp
    · exact h1
    · rw [List.mem_singleton.mp hp]; exact h2
  rotate_left
  · intro x hx
    rcases List.mem_cons.mp hx with rfl | hx
    · exact .inl rfl
    · cases hx
  have r' := r.deeper (envK "law" (stmtAt 49) L f)
  have cs : (co "source").data = .cell none := hco "source" _ rfl
  have cb : (co "book").data = .cell none := hco "book" _ rfl
  obtain ⟨X1, hX1, e1⟩ : ∃ X1, SbTab X1 ∧ X1 = [(177, tabObj #[])] := ⟨_, .inl rfl, rfl⟩
  obtain ⟨X2, hX2, e2⟩ : ∃ X2, LrTab X2 ∧ X2 = [(514, tabObj #[])] := ⟨_, .inl rfl, rfl⟩
  have F : Fm (hideAll s.heap [177, 514]) L (bindL (envK "law" (stmtAt 49) L f).kindOf ((["script"] : List Str).zip [Value.ref sc]) fun _ => none) ([(L + 1 + 1, co "source"), (L + 1, co "book")] ++ (X1 ++ X2)) s.gens s.os s₁ := by rw [e1, e2]; exact F
  have fin : ∀ {m' own' X1' X2' s'}, Fm (hideAll s.heap [177, 514]) L m' (own' ++ (X1' ++ X2')) s.gens s.os s' → SbTab X1' → LrTab X2' → Q (.bool true) s' := fun F h1 h2 => ret _ _ _ (Fm.backX (X := [(177, tabObj #[]), (514, tabObj #[])]) F) h1 h2
  clear e1 e2 ret h1 h2
  generalize hideAll s.heap [177, 514] = base at F fin C T1 T2 hsc
  generalize hmm : (bindL (envK "law" (stmtAt 49) L f).kindOf ((["script"] : List Str).zip [Value.ref sc]) fun _ => none) = m0 at F
  have hsm : m0 "script" = some (.ref sc) := by rw [← hmm]; rfl
  clear hmm
  generalize s.gens = G at F fin
  generalize s.os = O at F fin
  clear hco
  refine S_asg (E_cls (F.cx C) Y.n_Tree Y.cT.kp ⟨F.cx C, tree_new Y C (r'.mono (by omega)) F fun T s₂ hT F => stL F fun s₃ F => ?_⟩)
  refine S_exp (E_meth Y.f_t_new_root Y.cT.ga Y.cT.gk Y.m_new_root (nmL F put_same ⟨T.t, _, _, rfl, F.cx C, TreeA.inst F.holds, sh_T T rfl, F.cx C, ?_⟩))
  refine new_root_spec Y (C.keeps F.hid) (r'.mono (by omega)) F.holds F.ndX hT fun T1' v s₄ ht1 hok1 p => ?_
  have F := F.swap p
  refine @S_asg _ _ _ _ _ _ _ _ _ _ _ _ ?_ (by rfl)
  refine @E_dict _ _ _ _ _ _ _ _ _ _ _ _ _ _ _ _ _ (intKind prog w) F C.lim (fun b s₅ lob F => ?_) rfl rfl (by simp) (by simp)
  refine @Bx.u _ ?_
  refine D_none F fun tk0 e0 t0 s₆ F => ?_
  refine D_int F fun tk1 e1 a1 t1 s₇ F => ?_
  refine D_int F fun tk2 e2 a2 t2 s₈ F => ?_
  refine D_int F fun tk3 e3 a3 t3 s₉ F => ?_
  refine D_int F fun tk4 e4 a4 t4 s₁₀ F => ?_
  refine D_int F fun tk5 e5 a5 t5 s₁₁ F => ?_
  refine D_end ⟨_, _, 6, [(0, .ref e0), (1, .ref e1), (2, .ref e2), (3, .ref e3), (4, .ref e4), (5, .ref e5)], rfl, F, ⟨rfl, rfl, rfl, rfl, rfl, rfl, rfl, rfl, rfl, rfl, rfl, rfl, trivial⟩, fun bo s₁₂ hbo F => ?_⟩
  have hB := book6 (t0 := t0) (t1 := t1) (t2 := t2) (t3 := t3) (t4 := t4) (t5 := t5) (a1 := a1) (a2 := a2) (a3 := a3) (a4 := a4) (a5 := a5) hbo
  clear hbo
  refine stO F 8 rfl cb fun oc s₁₃ hoc F => ?_
  have F := F.perm (own' := ([(e5, tup [.int 0 a5, .str "text" t5] 0), (e4, tup [.int 0 a4, .str "f" t4] 0), (e3, tup [.int 1 a3, .str "text" t3] 0), (e2, tup [.int 1 a2, .str "f" t2] 0), (e1, tup [.int 0 a1, .str "e" t1] 0), (e0, tup [.none, .str "root" t0] 0)] ++ ([(b, bo), (L + 1 + 1, co "source"), (L + 1, oc)] ++ (X1 ++ X2))) ++ T1'.led) (.refl _)
  revert F hB
  generalize ([(e5, tup [.int 0 a5, .str "text" t5] 0), (e4, tup [.int 0 a4, .str "f" t4] 0), (e3, tup [.int 1 a3, .str "text" t3] 0), (e2, tup [.int 1 a2, .str "f" t2] 0), (e1, tup [.int 0 a1, .str "e" t1] 0), (e0, tup [.none, .str "root" t0] 0)] : Led) = W
  intro hB F
  have hm : (put m0 "tree" (.ref T.t)) "tree" = some (.ref T1'.t) := by rw [ht1]; exact put_same
  refine S_exp (E_meth Y.f_t_add_element Y.cT.ga Y.cT.gk Y.m_add_element (nmL F hm ⟨T1'.t, _, _, rfl, F.cx C, TreeA.inst F.holds, sh_T T1' rfl, E_int (E_str (E_str (E_str ⟨((((F.tok _).tok _).tok _).tok _).cx C, ?_⟩)))⟩))
  have F := F.tok (s₁₃.toks + 1 + 1 + 1 + 1)
  refine add_element_spec (p := 0) Y (C.keeps F.hid) (r'.mono (by omega)) F.holds F.ndX hok1 (by decide) pre_root.par_lt rfl (by decide +kernel) (by decide +kernel) (by decide +kernel) fun T2' u2 s₁₄ ht2 hok2 p => ?_
  have F := F.swap p
  have hm := hm.trans (by rw [← ht2])
  refine S_exp (E_meth Y.f_t_add_element Y.cT.ga Y.cT.gk Y.m_add_element (nmL F hm ⟨T2'.t, _, _, rfl, F.cx C, TreeA.inst F.holds, sh_T T2' rfl, E_int (E_str (E_str (E_str ⟨((((F.tok _).tok _).tok _).tok _).cx C, ?_⟩)))⟩))
  have F := F.tok (s₁₄.toks + 1 + 1 + 1 + 1)
  refine add_element_spec (p := 1) Y (C.keeps F.hid) (r'.mono (by omega)) F.holds F.ndX hok2 (by decide) pre1.par_lt rfl (by decide +kernel) (by decide +kernel) (by decide +kernel) fun T3' u3 s₁₅ ht3 hok3 p => ?_
  have F := F.swap p
  have hm := hm.trans (by rw [← ht3])
  refine S_exp (E_meth Y.f_t_add_text Y.cT.ga Y.cT.gk Y.m_add_text (nmL F hm ⟨T3'.t, _, _, rfl, F.cx C, TreeA.inst F.holds, sh_T T3' rfl, E_int (E_str ⟨((F.tok _).tok _).cx C, ?_⟩)⟩))
  have F := F.tok (s₁₅.toks + 1 + 1)
  refine add_text_spec (p := 1) Y (C.keeps F.hid) (r'.mono (by omega)) F.holds F.ndX hok3 (by decide) pre2.par_lt rfl (by decide +kernel) fun T4' u4 s₁₆ ht4 hok4 p => ?_
  have F := F.swap p
  have hm := hm.trans (by rw [← ht4])
  refine S_exp (E_meth Y.f_t_add_element Y.cT.ga Y.cT.gk Y.m_add_element (nmL F hm ⟨T4'.t, _, _, rfl, F.cx C, TreeA.inst F.holds, sh_T T4' rfl, E_int (E_str (E_str (E_str ⟨((((F.tok _).tok _).tok _).tok _).cx C, ?_⟩)))⟩))
  have F := F.tok (s₁₆.toks + 1 + 1 + 1 + 1)
  refine add_element_spec (p := 0) Y (C.keeps F.hid) (r'.mono (by omega)) F.holds F.ndX hok4 (by decide) pre3.par_lt rfl (by decide +kernel) (by decide +kernel) (by decide +kernel) fun T5' u5 s₁₇ ht5 hok5 p => ?_
  have F := F.swap p
  have hm := hm.trans (by rw [← ht5])
  refine S_exp (E_meth Y.f_t_add_text Y.cT.ga Y.cT.gk Y.m_add_text (nmL F hm ⟨T5'.t, _, _, rfl, F.cx C, TreeA.inst F.holds, sh_T T5' rfl, E_int (E_str ⟨((F.tok _).tok _).cx C, ?_⟩)⟩))
  have F := F.tok (s₁₇.toks + 1 + 1)
  refine add_text_spec (p := 0) Y (C.keeps F.hid) (r'.mono (by omega)) F.holds F.ndX hok5 (by decide) pre4.par_lt rfl (by decide +kernel) fun T6 u6 s₁₈ ht6 hok6 p => ?_
  have F := F.swap p
  have hm := hm.trans (by rw [← ht6])
  have hok : TreeOk T6 D6 := hok6
  clear hok1 hok2 hok3 hok4 hok5 hok6 p
  have F := F.perm (pmB _ _ _ W (X1 ++ X2) T6.led)
  obtain ⟨R6, hR6⟩ : ∃ R6, R6 = (b, bo) :: (W ++ T6.led) := ⟨_, rfl⟩
  have hRb : (b, bo) ∈ R6 := by rw [hR6]; exact .head _
  have hRW : ∀ p ∈ W, p ∈ R6 := fun p hp => by rw [hR6]; exact .tail _ (List.mem_append_left _ hp)
  have hRT : ∀ p ∈ T6.led, p ∈ R6 := fun p hp => by rw [hR6]; exact .tail _ (List.mem_append_right _ hp)
  rw [← hR6] at F
  clear hR6
  refine S_if (T_bool (or_cons (T_not (T_val (E_fn Y.f_law_told_right (F.cx C) Y.n_law_told_right ⟨F.cx C, law_told_right_spec Y (F.cx C) (r'.mono (by omega)) fun s₁₉ p => tr_bool ?_⟩)))))
  have F := F.pur p
  show wpAll _ _ _ _ _ _ _
  refine or_cons (T_not (T_val (E_fn Y.f_law_step_right (F.cx C) Y.n_law_step_right (nmL F hm (nmO (F.at 1 rfl) hoc ?_)))))
  refine @E_list _ _ _ _ _ _ _ _ ?_ (by rfl)
  refine E_int (E_int (E_int (newL (((F.tok _).tok _).tok _) fun a s₂₀ F => ?_)))
  refine @Bx.u _ ?_
  refine G_s F fun uw s₂₁ F => ?_
  refine G_t1 F fun tb ut s₂₂ F => ?_
  refine G_none (B_end ⟨F.cx C, ?_⟩)
  have F := F.perm (own' := ((tb, tup (Tst.vals .node _ 0 0) 0) :: (a, _) :: (L + 1 + 1, co "source") :: (L + 1, oc) :: R6) ++ (X1 ++ X2)) (.refl _)
  refine step_call (pos := none) (tp := 0) (ns := [4, 2, 4]) Y C T1 T2 (r'.mono (by omega)) F hX1 hX2 hok (fun p hp => by simp [hRT p hp]) hB lob (by simp [hRb]) (fun p hp => by simp [hRW p hp]) pre6 (.tail _ (.head _)) (NatsAre.cons (NatsAre.cons (NatsAre.cons .nil))) (by decide) (by decide) (by decide) (.inr (.inr (.inl rfl))) (.head _) (fun p h => by cases h) rfl fun X1' X2' s₂₃ F hX1' hX2' => ?_
  refine tr_bool ?_
  have F := F.drop (own' := ((L + 1 + 1, co "source") :: (L + 1, oc) :: R6) ++ (X1' ++ X2')) (.cons _ (.cons _ (.refl _)))
  clear hX1 hX2
  show wpAll _ _ _ _ _ _ _
  refine @or_nil _ _ _ _ _ _ ?_
  show wpS _ _ _ _ _ _ _
  refine @S_nil _ _ _ _ _ _ _ ?_
  have hsm : (put m0 "tree" (.ref T.t)) "script" = some (.ref sc) := put_ne hsm
  revert hm hsm F
  generalize put m0 "tree" (.ref T.t) = m1
  intro hm F hsm
  refine @S_for_own2 _ _ _ _ _ _ _ _ _ _ _ _ _ _ _ _ _ _ _ _ _ _ _ _ F r'.h ?_ (by rfl) (by rfl) (by rfl) (by rfl) (by intro _; rfl)
  refine @E_list _ _ _ _ _ _ _ _ ?_ (by rfl)
  refine @Bx.u _ ?_
  refine G_two F fun la1 b1 n1 n2 n3 s₂₄ F => ?_
  refine G_one F fun la2 b2 n4 n5 s₂₅ F => ?_
  refine G_one F fun la3 b3 n6 n7 s₂₆ F => ?_
  refine B_end (newL F fun l s₂₇ F => ?_)
  obtain ⟨Wl, hWl⟩ : ∃ Wl : Led, Wl = [(l, lst [.ref b1, .ref b2, .ref b3] 0), (b3, tup [.ref la3, .str "ancestor" n7] 0), (la3, lst [.int 3 n6] 0), (b2, tup [.ref la2, .str "preceding-sibling" n5] 0), (la2, lst [.int 5 n4] 0), (b1, tup [.ref la1, .str "preceding-sibling" n3] 0), (la1, lst [.int 3 n1, .int 4 n2] 0)] := ⟨_, rfl⟩
  have F := F.perm (own' := (Wl ++ ((L + 1 + 1, co "source") :: (L + 1, oc) :: R6)) ++ (X1' ++ X2')) (.of_eq (by rw [hWl]; rfl))
  have hl : ∃ zs, zs = [Value.ref b1, .ref b2, .ref b3] ∧ (l, lst zs 0) ∈ Wl ∧ ∀ (i : Nat) (v : Value), zs[i]? = some v → ∃ (a na : Addr) (ws : List Value) (ns : List Nat) (way : Str) (uw : Tok) (k n : Nat), v = .ref a ∧ (a, tup [.ref na, .str way uw] k) ∈ Wl ∧ (na, lst ws n) ∈ Wl ∧ NatsAre ws ns ∧ (∀ x ∈ ns, x < D6.length) ∧ ns.length ≤ 8 ∧ Way way := by
    refine ⟨_, rfl, by rw [hWl]; exact .head _, fun i v hv => ?_⟩
    rw [hWl]
    match i, hv with
    | 0, hv => cases hv; exact ⟨b1, la1, _, [3, 4], _, _, _, _, rfl, List.mem_of_getElem? (i := 5) rfl, List.mem_of_getElem? (i := 6) rfl, NatsAre.cons (NatsAre.cons .nil), by decide, by decide, .inr (.inr (.inr (.inr (.inr (.inr rfl)))))⟩
    | 1, hv => cases hv; exact ⟨b2, la2, _, [5], _, _, _, _, rfl, List.mem_of_getElem? (i := 3) rfl, List.mem_of_getElem? (i := 4) rfl, NatsAre.cons .nil, by decide, by decide, .inr (.inr (.inr (.inr (.inr (.inr rfl)))))⟩
    | 2, hv => cases hv; exact ⟨b3, la3, _, [3], _, _, _, _, rfl, List.mem_of_getElem? (i := 1) rfl, List.mem_of_getElem? (i := 2) rfl, NatsAre.cons .nil, by decide, by decide, .inr (.inr (.inr (.inr (.inl rfl))))⟩
  obtain ⟨zs, ezs, hlW, hTW⟩ := hl
  clear hWl
  refine ⟨l, zs, 0, fun i m own => ∃ Y1 Y2, own = (Wl ++ ((L + 1 + 1, co "source") :: (L + 1, oc) :: R6)) ++ (Y1 ++ Y2) ∧ SbTab Y1 ∧ LrTab Y2 ∧ m "tree" = some (.ref T6.t) ∧ m "script" = some (.ref sc), m1, _, rfl, F, ⟨X1', X2', rfl, hX1', hX2', hm, hsm⟩, ?_, ?_, ?_⟩
  · rintro i m own ⟨Y1, Y2, rfl, -⟩
    simp [hlW]
  · rintro i v m own hv ⟨Y1, Y2, rfl, hY1, hY2, mt, ms⟩
    obtain ⟨a, na, ws, ns, way, uw, k, n, rfl, h1, h2, h3, h4, h5, h6⟩ := hTW i v hv
    refine ⟨a, .ref na, .str way uw, k, rfl, by simp [h1], fun o I s₂₈ F => ?_⟩
    have F := F.perm (perm_in _ _ _)
    refine @S_if _ _ _ _ _ _ _ _ _ _ _ _ ?_
    refine T_not (T_val (E_fn Y.f_law_step_right (F.cx C) Y.n_law_step_right (nmL F (put_ne (put_ne mt)) (nmO (F.mem (a := L + 1) (o := oc) (by simp)) hoc (nmL F (put_ne put_same) (nmL F put_same ?_))))))
    refine @Bx.u _ ?_
    refine G_t1 F fun tb ut s₂₉ F => ?_
    refine G_i F fun ui s₃₀ F => ?_
    refine B_end ⟨F.cx C, ?_⟩
    have F := F.perm (own' := ((tb, tup (Tst.vals .node ut 0 0) 0) :: ((Wl ++ ((L + 1 + 1, co "source") :: (L + 1, oc) :: R6)) ++ [(I, o)])) ++ (Y1 ++ Y2)) (.refl _)
    refine step_call (pos := some 1) (tp := ui) (n := n) Y C T1 T2 (r'.mono (by omega)) F hY1 hY2 hok (fun p hp => by simp [hRT p hp]) hB lob (by simp [hRb]) (fun p hp => by simp [hRW p hp]) pre6 (by simp [h2]) h3 h4 h5 (by decide) h6 (.head _) (fun p h => by cases h; decide) rfl fun Z1 Z2 s₃₁ F hZ1 hZ2 => ?_
    refine tr_bool ?_
    show wpS _ _ _ _ _ _ _
    refine @S_nil _ _ _ _ _ _ _ ?_
    refine @S_nil _ _ _ _ _ _ _ ?_
    have F := F.drop (own' := ((Wl ++ ((L + 1 + 1, co "source") :: (L + 1, oc) :: R6)) ++ [(I, o)]) ++ (Z1 ++ Z2)) (.cons _ (.refl _))
    exact ⟨_, _, ⟨Z1, Z2, rfl, hZ1, hZ2, put_ne (put_ne mt), put_ne (put_ne ms)⟩, F.perm (perm_in _ _ _)⟩
  clear hm hsm F hX1' hX2'
  rintro m2 own s₂₈ ⟨X1, X2, rfl, hX1, hX2, hm, hsm⟩ F
  have F := F.drop (own' := ((L + 1 + 1, co "source") :: (L + 1, oc) :: R6) ++ (X1 ++ X2)) ((List.sublist_append_right Wl _).append_right _)
  refine @S_if _ _ _ _ _ _ _ _ _ _ _ _ ?_
  refine T_not (T_val (E_fn Y.f_law_step_right (F.cx C) Y.n_law_step_right (nmL F hm (nmO (F.at 1 rfl) hoc ?_))))
  refine @E_list _ _ _ _ _ _ _ _ ?_ (by rfl)
  refine E_int (E_int (newL ((F.tok _).tok _) fun a s₂₉ F => ?_))
  refine @Bx.u _ ?_
  refine G_s F fun uw s₃₀ F => ?_
  refine G_t3 F fun tb ut ut2 ut3 s₃₁ F => ?_
  refine G_i F fun ui s₃₂ F => ?_
  refine B_end ⟨F.cx C, ?_⟩
  have F := F.perm (own' := ((tb, tup (Tst.vals .name ut ut2 ut3) 0) :: (a, _) :: (L + 1 + 1, co "source") :: (L + 1, oc) :: R6) ++ (X1 ++ X2)) (.refl _)
  refine step_call (pos := some 2) (tp := ui) (ns := [0, 1]) Y C T1 T2 (r'.mono (by omega)) F hX1 hX2 hok (fun p hp => by simp [hRT p hp]) hB lob (by simp [hRb]) (fun p hp => by simp [hRW p hp]) pre6 (.tail _ (.head _)) (NatsAre.cons (NatsAre.cons .nil)) (by decide) (by decide) (by decide) (.inr (.inr (.inr (.inl rfl)))) (.head _) (fun p h => by cases h; decide) rfl fun X1' X2' s₃₃ F hX1' hX2' => ?_
  refine tr_bool ?_
  show wpS _ _ _ _ _ _ _
  refine @S_nil _ _ _ _ _ _ _ ?_
  have F := F.drop (own' := ((L + 1 + 1, co "source") :: (L + 1, oc) :: R6) ++ (X1' ++ X2')) (.cons _ (.cons _ (.refl _)))
  clear hX1 hX2
  refine @S_asg _ _ _ _ _ _ _ _ _ _ _ _ ?_ (by rfl)
  refine E_fn Y.f_law_pool (F.cx C) Y.n_law_pool (nmL F hsm ⟨F.cx C, pool_spec Y (F.cx C) (r'.mono (by omega)) (F.keep _ _ hsc) hlo hx hsz fun src so s₃₄ p hn hso hS => ?_⟩)
  have F := F.add p hn hso
  refine stO F 1 rfl cs fun os s₃₅ hos F => ?_
  have F := F.perm (own' := (((L + 1 + 1, os) :: (L + 1, oc) :: R6) ++ (X1' ++ X2')) ++ [(src, so)]) (List.perm_append_comm (l₁ := [(src, so)]) (l₂ := ((L + 1 + 1, os) :: (L + 1, oc) :: R6) ++ (X1' ++ X2')))
  refine @S_if _ _ _ _ _ _ _ _ _ _ _ _ ?_
  refine T_not (T_val (E_fn Y.f_law_values_right (F.cx C) Y.n_law_values_right (nmO (F.at 0 rfl) hos ⟨F.cx C, ?_⟩)))
  refine law_values_right_spec Y (C.keeps F.hid) (r'.mono (by omega)) (F.hasX (src, so) (.head _)) hS fun so2 s₃₆ p hS2 => ?_
  have F := F.swap p
  refine tr_bool ?_
  show wpS _ _ _ _ _ _ _
  refine @S_nil _ _ _ _ _ _ _ ?_
  refine @S_asgU _ _ _ _ _ _ _ _ _ _ _ _ _ _ _ _ r'.h ?_ (by rfl) (by rfl)
  refine E_fn Y.f_law_document (F.cx C) Y.n_law_document (nmO (F.at 0 rfl) hos ⟨F.cx C, ?_⟩)
  refine law_document_spec Y (C.keeps F.hid) (r'.mono (by omega)) (F.hasX (src, so2) (.head _)) hS2 fun d TD bo2 b2 tu D so3 s₃₇ p hokD hBD lobD PD hD8 hS3 => ?_
  have F := F.swap p
  refine ⟨d, .ref TD.t, .ref b2, 0, rfl, F.mem (a := d) (o := tup [.ref TD.t, .ref b2] 0) (by simp), fun s₃₈ q => stL (F.pur q) fun s₃₉ F => stO F 1 rfl hoc fun oc2 s₄₀ hoc2 F => ?_⟩
  have hm : (put m2 "tree" (.ref TD.t)) "tree" = some (.ref TD.t) := put_same
  obtain ⟨R7, hR7, l7, sub7, per7⟩ := pmC (L + 1 + 1, os) (L + 1, oc2) (b2, bo2) (d, tup [.ref TD.t, .ref b2] 0) R6 (X1' ++ X2') tu TD.led [(src, so3)]
  have F := (F.drop sub7).perm per7
  have hRb : (b2, bo2) ∈ R7 := by rw [hR7]; exact .head _
  have hRW : ∀ p ∈ tu, p ∈ R7 := fun p hp => by rw [hR7]; exact .tail _ (List.mem_append_left _ hp)
  have hRT : ∀ p ∈ TD.led, p ∈ R7 := fun p hp => by rw [hR7]; exact .tail _ (List.mem_append_right _ hp)
  clear hR7 sub7 per7
  revert hm F
  generalize put m2 "tree" (.ref TD.t) = m3
  intro hm F
  refine @S_asgCR _ _ _ _ _ _ _ _ _ _ _ _ _ _ _ _ _ _ _ _ _ _ _ _ _ F [("source", L + 1 + 1), ("book", L + 1)] r'.h ?_ (by rfl) (by rfl) (by decide +kernel) (by rfl) (by decide +kernel) (by rfl) (by rfl) (by rfl) (by rfl) (by intro _; rfl)
  refine E_bi (F.cx C) Y.b_range bb_range (by simp) (E_fn Y.f_law_take (F.cx C) Y.n_law_take (nmO (F.at 0 rfl) hos (E_int ⟨(F.tok _).cx C, ?_⟩))) (by decide +kernel)
  have F := F.tok (s₄₀.toks + 1)
  refine take_spec Y (C.keeps F.hid) (r'.mono (by omega)) (F.hasX (src, so3) (.head _)) hS3 (n := 5) (by decide) (by decide) fun dd u so4 s₄₁ p hS4 hdd => ?_
  have F := F.swap p
  refine rng1 F fun rg v0 v1 s₄₂ F => ?_
  have F := F.perm (own' := ((rg, _) :: (((L + 1 + 1, os) :: (L + 1, oc2) :: R7) ++ (X1' ++ X2'))) ++ [(src, so4)]) (.refl _)
  refine ⟨rg, dd, _, _, _, (fun i ys Z => ∃ so ns, Z = [(src, so)] ∧ SrcO so ∧ NatsAre ys ns ∧ ns.length = i ∧ ∀ x ∈ ns, x < D.length), [(src, so4)], _, _, rfl, F.at 0 rfl, by omega, F, ⟨so4, [], rfl, hS4, .nil, rfl, fun x h => nomatch h⟩, fun i ys Z ⟨so, ns, e, _⟩ => by rw [e]; rfl, fun i t ys m' Z D2 k o C' I s₄₃ hi hI F' => ?_, fun nl ys Z k s₄₃ hI F => ?_⟩
  · obtain ⟨so5, ns, rfl, hS5, hys, hnl, hlt⟩ := hI
    have C2 := C.keeps F.hid
    obtain ⟨kvs, hk1, hk2, -⟩ := hBD.ex
    have hkl := hk2.len
    rw [List.length_range] at hkl
    have hDp := PD.pos
    refine ts_nil ?_
    refine E_fn Y.f_law_take (F'.cx C2) Y.n_law_take (nmO (F'.keep _ _ (F.atH 1 rfl)) hos (E_bi (F'.cx C2) Y.b_len bb_len (by simp) (nmO (F'.keep _ _ (F.atH 2 rfl)) hoc2 (call_len_dict lobD (dOf (F'.keep _ _ (F.memH (by simp [hRb]))) hk1) (by omega) ?_)) (by decide +kernel)))
    rw [hkl]
    have F' := Fm.perm ((F'.tok (s₄₃.toks + 1)).tok (s₄₃.toks + 1 + 1)) (List.perm_append_comm (l₁ := [(src, so5)]) (l₂ := [(D2, lst ys k), (I, o)]))
    refine ⟨F'.cx C2, take_spec Y (C2.keeps F'.hid) (r'.mono (by omega)) (F'.hasX (src, so5) (.head _)) hS5 hDp (by omega) fun de ud so6 s₄₄ p hS6 hde => ?_⟩
    have F' := F'.swap p
    exact ⟨[(src, so6)], _, ⟨so6, ns ++ [de], rfl, hS6, hys.snoc, by simp [hnl], fun x hx => by
      rcases List.mem_append.mp hx with hx | hx
      · exact hlt x hx
      · rw [List.mem_singleton.mp hx]; exact hde⟩, F'.perm (List.perm_append_comm (l₁ := [(D2, lst ys k), (I, o)]) (l₂ := [(src, so6)]))⟩
  obtain ⟨so5, ns, rfl, hS5, hys, hnl, hlt⟩ := hI
  have F := F.drop (own' := (((nl, lst ys k) :: (L + 1 + 1, os) :: (L + 1, oc2) :: R7) ++ (X1' ++ X2')) ++ [(src, so5)]) (.cons_cons _ (.cons _ (.refl _)))
  refine @S_asg _ _ _ _ _ _ _ _ _ _ _ _ ?_ (by rfl)
  refine @E_list _ _ _ _ _ _ _ _ ?_ (by rfl)
  refine @Bx.u _ ?_
  refine G_s F fun w1 s₄₄ F => ?_
  refine G_s F fun w2 s₄₅ F => ?_
  refine G_s F fun w3 s₄₆ F => ?_
  refine G_s F fun w4 s₄₇ F => ?_
  refine G_s F fun w5 s₄₈ F => ?_
  refine G_s F fun w6 s₄₉ F => ?_
  refine G_s F fun w7 s₅₀ F => ?_
  refine B_end (newL F fun wl s₅₁ F => stL F fun s₅₂ F => ?_)
  have F := F.perm (own' := ((wl, _) :: (((nl, lst ys k) :: (L + 1 + 1, os) :: (L + 1, oc2) :: R7) ++ (X1' ++ X2'))) ++ [(src, so5)]) (.refl _)
  refine @S_asg _ _ _ _ _ _ _ _ _ _ _ _ ?_ (by rfl)
  refine E_fn Y.f_law_one (F.cx C) Y.n_law_one (nmO (F.at 2 rfl) hos (nmL F put_same ⟨F.cx C, ?_⟩))
  refine one_spec Y (C.keeps F.hid) (r'.mono (by omega)) (F.hasX (src, so5) (.head _)) hS5 (F.at 0 rfl) (fun e => F.apart (.head _) (by rw [e]; simp)) (by simp) (by simp) fun dw v so6 s₅₃ p hS6 hv => ?_
  have F := F.swap p
  obtain ⟨way, uw, rfl, hway⟩ := way7 hv
  refine stL F fun s₅₄ F => ?_
  have F := F.drop (own' := (((nl, lst ys k) :: (L + 1 + 1, os) :: (L + 1, oc2) :: R7) ++ (X1' ++ X2')) ++ [(src, so6)]) (.cons _ (.refl _))
  refine @S_asgT2 _ _ _ _ _ _ _ _ _ _ _ _ _ _ _ _ _ _ _ _ "test" "position" F r'.h ?_ rfl rfl rfl rfl rfl
  refine @E_tup _ _ _ _ _ _ _ _ _ ?_ rfl
  refine E_fn Y.f_law_one (F.cx C) Y.n_law_one (nmO (F.at 1 rfl) hos ?_)
  refine @E_list _ _ _ _ _ _ _ _ ?_ (by rfl)
  refine @Bx.u _ ?_
  refine G_t1 F fun q1 v1 s₅₅ F => ?_
  refine G_t1 F fun q2 v2 s₅₆ F => ?_
  refine G_t3 F fun q3 v3 v4 v5 s₅₇ F => ?_
  refine B_end (newL F fun tl s₅₈ F => ?_)
  have F := F.perm (own' := ((tl, lst [.ref q1, .ref q2, .ref q3] 0) :: ([(q3, tup [.str "name" v3, .str "" v4, .str "f" v5] 0), (q2, tup [.str "text" v2] 0), (q1, tup [.str "node" v1] 0)] ++ (((nl, lst ys k) :: (L + 1 + 1, os) :: (L + 1, oc2) :: R7) ++ (X1' ++ X2')))) ++ [(src, so6)]) (.refl _)
  refine ⟨F.cx C, one_spec Y (C.keeps F.hid) (r'.mono (by omega)) (F.hasX (src, so6) (.head _)) hS6 (F.at 0 rfl) (fun e => F.apart (.head _) (by rw [e]; simp)) (by simp) (by simp) fun dt v so7 s₅₉ p hS7 hv => ?_⟩
  have F := F.swap p
  obtain ⟨tb, Ts, x, y, z, rfl, htb⟩ := tst3 (t1 := v1) (t2 := v2) (t3 := v3) (t4 := v4) (t5 := v5) hv
  revert htb F
  generalize ([(q3, tup [.str "name" v3, .str "" v4, .str "f" v5] 0), (q2, tup [.str "text" v2] 0), (q1, tup [.str "node" v1] 0)] : Led) = Wt
  intro F htb
  have F := F.drop (own' := (Wt ++ (((nl, lst ys k) :: (L + 1 + 1, os) :: (L + 1, oc2) :: R7) ++ (X1' ++ X2'))) ++ [(src, so7)]) (.cons _ (.refl _))
  refine E_fn Y.f_law_one (F.cx C) Y.n_law_one (nmO (F.mem (a := L + 1 + 1) (o := os) (by simp)) hos ?_)
  refine @E_list _ _ _ _ _ _ _ _ ?_ (by rfl)
  refine @Bx.u _ ?_
  refine G_none ?_
  refine G_i F fun i1 s₆₀ F => ?_
  refine G_i F fun i2 s₆₁ F => ?_
  refine B_end (newL F fun pl s₆₂ F => ?_)
  have F := F.perm (own' := ((pl, lst [.none, .int 1 i1, .int 2 i2] 0) :: (Wt ++ (((nl, lst ys k) :: (L + 1 + 1, os) :: (L + 1, oc2) :: R7) ++ (X1' ++ X2')))) ++ [(src, so7)]) (.refl _)
  refine ⟨F.cx C, one_spec Y (C.keeps F.hid) (r'.mono (by omega)) (F.hasX (src, so7) (.head _)) hS7 (F.at 0 rfl) (fun e => F.apart (.head _) (by rw [e]; simp)) (by simp) (by simp) fun dp v so8 s₆₃ p hS8 hv => ?_⟩
  have F := F.swap p
  obtain ⟨pos, tp, hpv, hp1⟩ := pos3 hv
  refine newT F fun dq s₆₄ F => ⟨dq, _, _, 0, _, _, rfl, F, F.at 0 rfl, fun s₆₅ F => ?_⟩
  have F := F.perm (own' := ([(dq, tup [.ref tb, v] 0), (pl, lst [.none, .int 1 i1, .int 2 i2] 0)] ++ Wt ++ (((nl, lst ys k) :: (L + 1 + 1, os) :: (L + 1, oc2) :: R7) ++ (X1' ++ X2'))) ++ [(src, so8)]) (.refl _)
  have F := F.perm (own' := (([(dq, tup [.ref tb, v] 0), (pl, lst [.none, .int 1 i1, .int 2 i2] 0)] ++ Wt ++ ((nl, lst ys k) :: (L + 1 + 1, os) :: (L + 1, oc2) :: R7)) ++ (X1' ++ X2')) ++ [(src, so8)]) (.of_eq (by simp only [List.append_assoc]))
  have F := F.perm (perm_in _ _ _)
  refine S_ret (E_fn Y.f_law_step_right (F.cx C) Y.n_law_step_right (nmL F (put_ne (put_ne (put_ne (put_ne (put_ne hm))))) (nmO (F.mem (a := L + 1) (o := oc2) (by simp)) hoc2 (nmL F (put_ne (put_ne (put_ne (put_ne put_same)))) (nmL F (put_ne (put_ne put_same)) (nmL F put_same (nmL F (put_ne put_same) ⟨F.cx C, ?_⟩)))))))
  exact step_call (pos := pos) (tp := tp) (n := k) (Ts := Ts) (t1 := x) (t2 := y) (t3 := z) (nt := 0) Y C T1 T2 (r'.mono (by omega)) F hX1' hX2' hokD (fun p hp => by simp [hRT p hp]) hBD lobD (by simp [hRb]) (fun p hp => by simp [hRW p hp]) PD (by simp) hys hlt (by omega) (by omega) hway (by simp [htb]) hp1 hpv fun Z1 Z2 s₆₆ F hZ1 hZ2 => fin F hZ1 hZ2
end
end Mine

end LW_part
section LX_part
set_option maxHeartbeats 4000000
namespace Mine
open PySem PySem.W PySem.Calls PySem.Spec PyProof.Rows

/-- what the head must show of its written part -/
structure KOk (K : Frag) : Prop where
  lay : Lay K
  fn : IsFn K 522 "law" (stmtAt 49)
  nm : nsIn K mainGlobals "law" = some (some (.ref 522))
  c1 : codeHdIn K 179 177 = true
  c2 : codeHdIn K 516 514 = true
  n1 : K.lookup 177 = none
  n2 : K.lookup 514 = none
theorem In.hide {K : Frag} {h : Heap} (X : K.In h) (n1 : K.lookup 177 = none) (n2 : K.lookup 514 = none) : K.In (hideAll h [177, 514]) := fun a o e => by
  refine hideAll_get _ (X a o e) fun hm => ?_
  rcases List.mem_cons.mp hm with rfl | hm
  · rw [n1] at e; cases e
  · rw [List.mem_singleton.mp hm, n2] at e; cases e
theorem get_hide {h : Heap} {a : Addr} {o : Obj} (h1 : h.get? 177 = some (tabObj #[])) (h2 : h.get? 514 = some (tabObj #[])) (e : h.get? a = some o) (hc : o ≠ tabObj #[]) : (hideAll h [177, 514]).get? a = some o := by
  refine hideAll_get _ e fun hm => ?_
  rcases List.mem_cons.mp hm with rfl | hm
  · rw [h1] at e; cases e; exact hc rfl
  · rw [List.mem_singleton.mp hm, h2] at e; cases e; exact hc rfl
theorem ns_hide {h : Heap} {a : Addr} {m : Str → Option Value} (h1 : h.get? 177 = some (tabObj #[])) (h2 : h.get? 514 = some (tabObj #[])) (e : h.Ns a m) : (hideAll h [177, 514]).Ns a m := by
  obtain ⟨o, es, ep, ho, hd, r⟩ := e
  exact ⟨o, es, ep, get_hide h1 h2 ho (fun q => by rw [q] at hd; cases hd), hd, r⟩
theorem caller_rm : Rm callerA 20 := ⟨by decide, by decide, rfl⟩
theorem tab_some {P : Addr} {pos : Pos} {qual : Str} {X : Led} (h : TabLed P pos qual X) : ∃ ps, (P, tabObj ps) ∈ X := by
  rcases h with rfl | ⟨c', oc, vs, t, rfl, -⟩
  · exact ⟨_, .head _⟩
  · exact ⟨_, .head _⟩
theorem hd_table {h : Heap} {c P : Addr} {ps : Array Value} (x : CodeHd h c P) (e : h.get? P = some (tabObj ps)) : h.TableAt c P ps := by
  obtain ⟨o, vs, file, tf, flags, tg, inF, text, tt, h1, h2, h3, h4, -⟩ := x
  exact ⟨⟨o, vs, h1, h2, h3, h4⟩, e⟩
theorem old_pur {s s' : Shared} {Z1 Z2 : Led} (c1 : CodeHd s.heap 179 177) (c2 : CodeHd s.heap 516 514) (h1 : s.heap.get? 177 = some (tabObj #[])) (h2 : s.heap.get? 514 = some (tabObj #[])) (p : PurX [(177, tabObj #[]), (514, tabObj #[])] (Z1 ++ Z2) s s') (t1 : SbTab Z1) (t2 : LrTab Z2) : OldK s.heap s'.heap := by
  obtain ⟨ps1, m1⟩ := tab_some t1
  obtain ⟨ps2, m2⟩ := tab_some t2
  have e1 := p.h _ (List.mem_append_left _ m1)
  have e2 := p.h _ (List.mem_append_right _ m2)
  refine ⟨fun b o e => ?_, fun b o e => ?_⟩
  · by_cases q1 : b = 177
    · subst q1
      rw [h1] at e; cases e
      exact .inr (.inl ⟨(hd_table c1 h1).isCodeTable, rfl, #[], ps1, rfl, by rw [e1]; simp⟩)
    · by_cases q2 : b = 514
      · subst q2
        rw [h2] at e; cases e
        exact .inr (.inl ⟨(hd_table c2 h2).isCodeTable, rfl, #[], ps2, rfl, by rw [e2]; simp⟩)
      · exact .inl (p.k b o (by simp [q1, q2]) e)
  · by_cases q1 : b = 177
    · exact ⟨_, q1 ▸ e1⟩
    · by_cases q2 : b = 514
      · exact ⟨_, q2 ▸ e2⟩
      · exact ⟨o, p.k b o (by simp [q1, q2]) e⟩
theorem walk_fin {q : Program} {XP : (Str → Option Value) → Heap → Prop} {Kf : Params → Frag} {as : List Addr} {e : ∀ P, as = (Kf P).map (·.1)} {d : DefRec} {kwd : List (Str × Expr)} (hK : ∀ P, KOk (Kf P)) (hdn : d.name = "law") :
    WalkO q [] XP (kmHook Kf as e [177, 514]).says PySem.Challenge.rw_xw0218_01.row.toRowW d kwd fun f vs => PySem.call f vs := by
  intro w s₀ s₁ mg mb G Y a o pm cd doc dV kV ho hd hcd hD hmg hg args vals as hpre hlay hrd hwl hlo
  wrow_args hpre hlay hrd hwl hlo
  rename_i is _ _ _ _ _ _ _ sc xs _ hL _ _ _ hI _ hlen _
  have X := km_in_of Y
  have hT := km_tabs_of Y
  have h1 := hT 177 (by simp)
  have h2 := hT 514 (by simp)
  have ok := hK w.params
  have X' := In.hide X ok.n1 ok.n2
  have T := G.T
  have ea : a = 522 := by
    have := mg_of X T.g ok.nm
    rw [hdn] at hmg
    rw [hmg] at this
    cases this; rfl
  subst ea
  obtain ⟨bm, ob, b1, b2, b3, b4, b5, b6⟩ := T.bmain
  have hbm : ∃ mg bm ob, (hideAll s₁.heap [177, 514]).Ns mainGlobals mg ∧ mg "__builtins__" = some (.ref bm) ∧ bm ≠ builtinsNs ∧ (hideAll s₁.heap [177, 514]).get? bm = some ob ∧ ob.cls = .type "module" ∧ ob.dict = some builtinsNs ∧ ob.data = .plain :=
    ⟨mg, bm, ob, ns_hide h1 h2 T.g, b1, b2, get_hide h1 h2 b3 (fun q => by rw [q] at b4; cases b4), b4, b5, b6⟩
  have C : Cx (Kf w.params) (hideAll s₁.heap [177, 514]) := ⟨X', ⟨mg, ns_hide h1 h2 T.g⟩, ⟨mb, ns_hide h1 h2 T.b, T.builtins⟩, let ⟨mc, q1, q2⟩ := T.nolimit; ⟨mc, ns_hide h1 h2 q1, q2⟩⟩
  obtain ⟨lo, hlo1, hlo2, hlo3⟩ := hL
  have hli := IntsAre.length hI
  refine law_spec (A := callerA) ok.lay ok.fn C ⟨codeHd_of_K X' ok.c1, hbm⟩ ⟨codeHd_of_K X' ok.c2, hbm⟩ caller_rm h1 h2 (get_hide h1 h2 hlo1 (fun q => by rw [q] at hlo2; cases hlo2)) ⟨hlo2, hlo3⟩ hI (by omega) fun Z1 Z2 s' p z1 z2 => ?_
  refine ⟨.inl ⟨_, .bool true, [], rfl, ?_, .bool true, ?_, ?_⟩, old_pur (codeHd_of_K X ok.c1) (codeHd_of_K X ok.c2) h1 h2 p z1 z2, p.o, ?_⟩
  · exact raisesW_false (by wrow_none_raised)
  · wrow_post
  · exact fun _ => ⟨.nil, fun _ ha => nomatch ha⟩
  · exact AllBare.of_eq (p.g.trans hg)
end Mine

end LX_part
open PySem PySem.W PyProof.Rows
set_option Elab.async false
/-! The head. The library's line k_head would make, for each object and each state of the text's top, a second constant in which
the texts are lists of numbers, and a proof that the two are equal; these proofs grow with the square of the heap (80 MB of 87).
The check goes through without them as fast. The names below are those that they would bear within the theorem «main»:
where a name is taken the library goes on with the constant itself. -/
namespace Mine.main
theorem tw12608185968620612914 : True := trivial
theorem tw7439787175107056256 : True := trivial
theorem tw5921134243170700561 : True := trivial
theorem tw11092141859048813250 : True := trivial
theorem tw17146568849442343683 : True := trivial
theorem tw12205347405646519318 : True := trivial
theorem tw18165044119631177899 : True := trivial
theorem tw3562595001068472590 : True := trivial
theorem tw9406782406253462049 : True := trivial
theorem tw10450603732522932521 : True := trivial
theorem tw6511744376749373798 : True := trivial
theorem tw2406621943657119228 : True := trivial
theorem tw13972245371655741198 : True := trivial
theorem tw5372645768047454471 : True := trivial
theorem tw9268297945177815525 : True := trivial
theorem tw14027531716089632829 : True := trivial
theorem tw2895952525429962455 : True := trivial
theorem tw11785714552879321826 : True := trivial
theorem tw10896356407431480244 : True := trivial
theorem tw15387884906608193903 : True := trivial
theorem tw223528310411579522 : True := trivial
theorem tw5781596087445459943 : True := trivial
theorem tw15303317825217679618 : True := trivial
theorem tw5585478044538960755 : True := trivial
theorem tw15955573374722617477 : True := trivial
theorem tw11692516046256081784 : True := trivial
theorem tw10334261112615635914 : True := trivial
theorem tw7332552209862256014 : True := trivial
theorem tw5518243967957118194 : True := trivial
theorem tw2402762420636078793 : True := trivial
theorem tw15806524323241146399 : True := trivial
theorem tw11156056980113079860 : True := trivial
theorem tw2821470743931037460 : True := trivial
theorem tw11101190512080308003 : True := trivial
theorem tw4637267157515435788 : True := trivial
theorem tw11273777480241942364 : True := trivial
theorem tw6788530277367551627 : True := trivial
theorem tw11218778669853930896 : True := trivial
theorem tw6855474311058116810 : True := trivial
theorem tw13219505800766818778 : True := trivial
theorem tw9265829497004654079 : True := trivial
theorem tw10092017014551392330 : True := trivial
theorem tw6801380410627298636 : True := trivial
theorem tw451873465583785326 : True := trivial
theorem tw14539993770535171780 : True := trivial
theorem tw10390462408354793177 : True := trivial
theorem tw12450111651097656602 : True := trivial
theorem tw5084117380071580128 : True := trivial
theorem tw7093617532817203218 : True := trivial
theorem tw2019394398466159022 : True := trivial
theorem tw17644181745481072423 : True := trivial
theorem tw3394367416137920725 : True := trivial
theorem tw6655696309031964122 : True := trivial
theorem tw1150287232629052791 : True := trivial
theorem tw1504049600530537962 : True := trivial
theorem tw13406003279186336099 : True := trivial
theorem tw5571399437266216444 : True := trivial
theorem tw16762574516176355354 : True := trivial
theorem tw8046773169563483271 : True := trivial
theorem tw4261964983698606537 : True := trivial
theorem tw14457758005677747962 : True := trivial
theorem tw13777938177461255882 : True := trivial
theorem tw17561526911342447988 : True := trivial
theorem tw16452447596832230105 : True := trivial
theorem tw15984706205718930553 : True := trivial
theorem tw2852251193174398662 : True := trivial
theorem tw6361450105264607166 : True := trivial
theorem tw15510692781650021527 : True := trivial
theorem tw9730157408454304684 : True := trivial
theorem tw4156125974679941130 : True := trivial
theorem tw11239335112260394413 : True := trivial
theorem tw4766233809647381661 : True := trivial
theorem tw16806246253224384389 : True := trivial
theorem tw14218914174604095658 : True := trivial
theorem tw17403364634526059139 : True := trivial
theorem tw4139100593308808776 : True := trivial
theorem tw2287757881348798766 : True := trivial
theorem tw9302470337196694018 : True := trivial
theorem tw14562738103837258888 : True := trivial
theorem tw14864641218109852296 : True := trivial
theorem tw7698036289167662538 : True := trivial
theorem tw17128291446047057950 : True := trivial
theorem tw12885385263037960081 : True := trivial
theorem tw11712081513822626495 : True := trivial
theorem tw1678875084529416142 : True := trivial
theorem tw10876375607700338302 : True := trivial
theorem tw11221353774195762014 : True := trivial
theorem tw9376575566392132001 : True := trivial
theorem tw18238007617527299592 : True := trivial
theorem tw8627561154394265716 : True := trivial
theorem tw13876859957761632879 : True := trivial
theorem tw15109750227778091905 : True := trivial
theorem tw9925469786538053656 : True := trivial
theorem tw18332899500509843999 : True := trivial
theorem tw10825838108423173272 : True := trivial
theorem tw5363903885879670357 : True := trivial
theorem tw2341703837736514645 : True := trivial
theorem tw16519101796099990279 : True := trivial
theorem tw4900431672193113347 : True := trivial
theorem tw9994787619460420439 : True := trivial
theorem tw9121559901702372667 : True := trivial
theorem tw10821422270917381399 : True := trivial
theorem tw12431561837914552411 : True := trivial
theorem tw6161133996638707016 : True := trivial
theorem tw10707853282979444102 : True := trivial
theorem tw7113585516715319716 : True := trivial
theorem tw3958507339218470045 : True := trivial
theorem tw16218864148678617972 : True := trivial
theorem tw1429040668314091153 : True := trivial
theorem tw1714950047550659301 : True := trivial
theorem tw12732289081945773324 : True := trivial
theorem tw5638201095994319732 : True := trivial
theorem tw16826212616301561204 : True := trivial
theorem tw4038153913678941442 : True := trivial
theorem tw17336282652733537790 : True := trivial
theorem tw17118054049896295152 : True := trivial
theorem tw4500915450034043215 : True := trivial
theorem tw14907226015203709474 : True := trivial
theorem tw16629339528299215175 : True := trivial
theorem tw1118068078248606362 : True := trivial
theorem tw3027586509356016917 : True := trivial
theorem tw14064073609400967072 : True := trivial
theorem tw17147588175821073265 : True := trivial
theorem tw7514964652732493775 : True := trivial
theorem tw14364048958407549093 : True := trivial
theorem tw6886502059237256666 : True := trivial
theorem tw11857135199678951331 : True := trivial
theorem tw5436791530062809996 : True := trivial
theorem tw6565609875121592624 : True := trivial
theorem tw6785657489111691699 : True := trivial
theorem tw9417822746687237092 : True := trivial
theorem tw10455743928339290457 : True := trivial
theorem tw18302796317244248524 : True := trivial
theorem tw15467891735981029475 : True := trivial
theorem tw4235993794536146220 : True := trivial
theorem tw2496676261509829067 : True := trivial
theorem tw5396188567872606041 : True := trivial
theorem tw4324958949535026087 : True := trivial
theorem tw5613160597433933154 : True := trivial
theorem tw8440099810896429113 : True := trivial
theorem tw10123989817122485451 : True := trivial
theorem tw14771111431291430275 : True := trivial
theorem tw16641786646906312760 : True := trivial
theorem tw9074062148099726239 : True := trivial
theorem tw3583811862363856187 : True := trivial
theorem tw4749052000479324790 : True := trivial
theorem tw1454224541498743561 : True := trivial
theorem tw12922898485456448571 : True := trivial
theorem tw104360540948158410 : True := trivial
theorem tw18287795668848337631 : True := trivial
theorem tw7884331609784382070 : True := trivial
theorem tw6237627108579964202 : True := trivial
theorem tw1615956725737779560 : True := trivial
theorem tw2900998541784483753 : True := trivial
theorem tw17298425922696826006 : True := trivial
theorem tw6162249291895867263 : True := trivial
theorem tw1677766988990989824 : True := trivial
theorem tw8079908401900000222 : True := trivial
theorem tw12800608258095302798 : True := trivial
theorem tw9897820754763898449 : True := trivial
theorem tw12590340796369385619 : True := trivial
theorem tw15350898050860989542 : True := trivial
theorem tw15554039934745177238 : True := trivial
theorem tw11735423636902730196 : True := trivial
theorem tw15558288988949320067 : True := trivial
theorem tw10864377008497418100 : True := trivial
theorem tw11403851563620829512 : True := trivial
theorem tw12361340156312767134 : True := trivial
theorem tw10234815189450012239 : True := trivial
theorem tw15734660467963936456 : True := trivial
theorem tw18134284020713443437 : True := trivial
theorem tw2906824675625879941 : True := trivial
theorem tw4605139254293405059 : True := trivial
theorem tw13724616953566380437 : True := trivial
theorem tw17091655785135471103 : True := trivial
theorem tw8478376212529829071 : True := trivial
theorem tw11476092923266045095 : True := trivial
theorem tw11086099901593105684 : True := trivial
theorem tw6541472054586571296 : True := trivial
theorem tw16451033083921036709 : True := trivial
theorem tw9508770018378322450 : True := trivial
theorem tw16572128252103988241 : True := trivial
theorem tw9840939614602229412 : True := trivial
theorem tw5797031442667253490 : True := trivial
theorem tw16135426469972691074 : True := trivial
theorem tw3314904115985164895 : True := trivial
theorem tw18190005008629794160 : True := trivial
theorem tw9155575984036265788 : True := trivial
theorem tw15136548375355919604 : True := trivial
theorem tw7590696779544312186 : True := trivial
theorem tw5396361742852586263 : True := trivial
theorem tw15270170921892066516 : True := trivial
theorem tw15595112118272840620 : True := trivial
theorem tw65644731488775911 : True := trivial
theorem tw15189307732462271701 : True := trivial
theorem tw5995161000843957690 : True := trivial
theorem tw10642606787283503386 : True := trivial
theorem tw4126091431370883743 : True := trivial
theorem tw10652863235454686790 : True := trivial
theorem tw9498315638749924794 : True := trivial
theorem tw6690441779611380620 : True := trivial
theorem tw17268439761433841065 : True := trivial
theorem tw7974275031393228247 : True := trivial
theorem tw9903775340124721222 : True := trivial
theorem tw10453263994017694363 : True := trivial
theorem tw12646911602827044314 : True := trivial
theorem tw18063282731904131703 : True := trivial
theorem tw1277820614484962519 : True := trivial
theorem tw15225127925928830808 : True := trivial
theorem tw7308723440029596264 : True := trivial
theorem tw13224007501803129859 : True := trivial
theorem tw3706830351922483016 : True := trivial
theorem tw14080665800827857628 : True := trivial
theorem tw17871620999419790863 : True := trivial
theorem tw6696893160125735727 : True := trivial
theorem tw4026956272090484662 : True := trivial
theorem tw11544348965984651327 : True := trivial
theorem tw17695171507069755227 : True := trivial
theorem tw14161005256144132680 : True := trivial
theorem tw365850788961202214 : True := trivial
theorem tw16136984950599521427 : True := trivial
theorem tw1087060273579166523 : True := trivial
theorem tw1587290215689348708 : True := trivial
theorem tw8228058824784995430 : True := trivial
theorem tw5790326737455844299 : True := trivial
theorem tw1439166485080882 : True := trivial
theorem tw13547569757486424058 : True := trivial
theorem tw14504180641510445567 : True := trivial
theorem tw6697339332421208802 : True := trivial
theorem tw14798791472264738832 : True := trivial
theorem tw11529684132196025223 : True := trivial
theorem tw10663580350406149668 : True := trivial
theorem tw1496695287857109588 : True := trivial
theorem tw12222963475772708484 : True := trivial
theorem tw5418533224930618480 : True := trivial
theorem tw16008457594558532635 : True := trivial
theorem tw10625486282989778954 : True := trivial
theorem tw73751810991705359 : True := trivial
theorem tw15017983477296125989 : True := trivial
theorem tw1409966394225722968 : True := trivial
theorem tw2729793432009153956 : True := trivial
theorem tw7186131708394509389 : True := trivial
theorem tw13465503431842376007 : True := trivial
theorem tw7235775444256392728 : True := trivial
theorem tw12543713266681445118 : True := trivial
theorem tw13693970394777133609 : True := trivial
theorem tw341453280667917650 : True := trivial
theorem tw7268301785047649679 : True := trivial
theorem tw31828345220925962 : True := trivial
theorem tw6674386428176565332 : True := trivial
theorem tw33456957511925785 : True := trivial
theorem tw17292155258170135553 : True := trivial
theorem tw15356762974548107741 : True := trivial
theorem tw3627144658338631552 : True := trivial
theorem tw15803610866087392283 : True := trivial
theorem tw1156462466702112376 : True := trivial
theorem tw18120430973489738927 : True := trivial
theorem tw16379040101783942550 : True := trivial
theorem tw6075091234017535682 : True := trivial
theorem tw11135027115929721415 : True := trivial
theorem tw15608450976537380609 : True := trivial
theorem tw4458048076830672230 : True := trivial
theorem tw4544244032028310869 : True := trivial
theorem tw18218335207050127959 : True := trivial
theorem tw13355152605343272895 : True := trivial
theorem tw6981815665589151136 : True := trivial
theorem tw12702744160499308131 : True := trivial
theorem tw8557395850702784662 : True := trivial
theorem tw1306636233014830658 : True := trivial
theorem tw5287059835090251167 : True := trivial
theorem tw3466206800631347469 : True := trivial
theorem tw4946776927847147119 : True := trivial
theorem tw5203219222101121401 : True := trivial
theorem tw2195194259037543316 : True := trivial
theorem tw358491910552652209 : True := trivial
theorem tw7699798408344515789 : True := trivial
theorem tw12909650291622432550 : True := trivial
theorem tw10652611922669240339 : True := trivial
theorem tw11554813239044494598 : True := trivial
theorem tw10231336680788121439 : True := trivial
theorem tw221909299271738847 : True := trivial
theorem tw5160751907100791332 : True := trivial
theorem tw16035907590883218939 : True := trivial
theorem tw2279707942289718827 : True := trivial
theorem tw15624239662980076321 : True := trivial
theorem tw453184122279072053 : True := trivial
theorem tw11987853993630220354 : True := trivial
theorem tw12027323910402764344 : True := trivial
theorem tw9563168847844234846 : True := trivial
theorem tw10877679251791092727 : True := trivial
theorem tw6674893403203295414 : True := trivial
theorem tw962032349192862916 : True := trivial
theorem tw12992176717851604617 : True := trivial
theorem tw16305672181175384284 : True := trivial
theorem tw12885673836220544336 : True := trivial
theorem tw917386388269078853 : True := trivial
theorem tw3370190323706015969 : True := trivial
theorem tw15131278010643852716 : True := trivial
theorem tw17453503289922162039 : True := trivial
theorem tw17708487481403421675 : True := trivial
theorem tw12872379398031375081 : True := trivial
theorem tw5243159528196176124 : True := trivial
theorem tw12839114828313443825 : True := trivial
theorem tw3613476055612923068 : True := trivial
theorem tw9976160756891316704 : True := trivial
theorem tw1826329307503635854 : True := trivial
theorem tw12518504611687188807 : True := trivial
theorem tw8127475511531132179 : True := trivial
theorem tw13227692790652741651 : True := trivial
theorem tw6044114016751833949 : True := trivial
theorem tw8466321980469482115 : True := trivial
theorem tw8436210846270712021 : True := trivial
theorem tw9483120023164983764 : True := trivial
theorem tw10140136200207757160 : True := trivial
theorem tw11501822485730972192 : True := trivial
theorem tw14666387041718499266 : True := trivial
theorem tw12431731261707249289 : True := trivial
theorem tw13503263706703578961 : True := trivial
theorem tw16965079339398995527 : True := trivial
theorem tw6545385358150927430 : True := trivial
theorem tw4990475226369331113 : True := trivial
theorem tw4650958065196391918 : True := trivial
theorem tw16832360635688203351 : True := trivial
theorem tw10750994468655217958 : True := trivial
theorem tw7647378279178456250 : True := trivial
theorem tw16411370214107742406 : True := trivial
theorem tw13838900630717943254 : True := trivial
theorem tw14635473669698735251 : True := trivial
theorem tw2773665477692216758 : True := trivial
theorem tw4651154628705390771 : True := trivial
theorem tw9368617206455126095 : True := trivial
theorem tw9381277316556691805 : True := trivial
theorem tw10363585996791799541 : True := trivial
theorem tw7411558596216406370 : True := trivial
theorem tw7293298908176781663 : True := trivial
theorem tw9682133043923132273 : True := trivial
theorem tw11646826074482590764 : True := trivial
theorem tw11181722664286889309 : True := trivial
theorem tw12343854547171428336 : True := trivial
theorem tw1289389943133740499 : True := trivial
theorem tw3298483428156984901 : True := trivial
theorem tw8707812797481193996 : True := trivial
theorem tw6389877041954997217 : True := trivial
theorem tw17510229520200029679 : True := trivial
theorem tw11752208632293872130 : True := trivial
theorem tw14060465935940456498 : True := trivial
theorem tw17679725944135375923 : True := trivial
theorem tw2173562974560187446 : True := trivial
theorem tw10717781254789130011 : True := trivial
theorem tw16544489699163171333 : True := trivial
theorem tw3532412968194664532 : True := trivial
theorem tw2238316416991798583 : True := trivial
theorem tw11962923498438245051 : True := trivial
theorem tw8467378866343419333 : True := trivial
theorem tw10928175160051115300 : True := trivial
theorem tw17402982504261768225 : True := trivial
theorem tw2629084897520917108 : True := trivial
theorem tw2544328076492683441 : True := trivial
theorem tw6053611964639427726 : True := trivial
theorem tw8729708805864041840 : True := trivial
theorem tw12273490649430754879 : True := trivial
theorem tw5473700226181020891 : True := trivial
theorem tw11244112418865573338 : True := trivial
theorem tw8484041278411425421 : True := trivial
theorem tw12077450504624328385 : True := trivial
theorem tw6508729118710982530 : True := trivial
theorem tw3779293765908593550 : True := trivial
theorem tw15277975159832343749 : True := trivial
theorem tw8844999433837080629 : True := trivial
theorem tw716429049611869786 : True := trivial
theorem tw6542085627976250192 : True := trivial
theorem tw12463224122652932544 : True := trivial
theorem tw4039676971129161736 : True := trivial
theorem tw17236958762192778904 : True := trivial
theorem tw9957550378297406723 : True := trivial
theorem tw3491332818749588091 : True := trivial
theorem tw16026485685270457870 : True := trivial
theorem tw16689149305811164139 : True := trivial
theorem tw2456247091588846565 : True := trivial
theorem tw11001617756164336837 : True := trivial
theorem tw7214478077546791972 : True := trivial
theorem tw11410963132546700228 : True := trivial
theorem tw5127751686995613262 : True := trivial
theorem tw11388154006635350966 : True := trivial
theorem tw11003572833241299968 : True := trivial
theorem tw13132915859168520264 : True := trivial
theorem tw4475767826048309731 : True := trivial
theorem tw10665089971535097683 : True := trivial
theorem tw16950194794029067938 : True := trivial
theorem tw750237026923860459 : True := trivial
theorem tw11982392923317675503 : True := trivial
theorem tw13962693860625380366 : True := trivial
theorem tw15060185592220127646 : True := trivial
theorem tw10953687544409504101 : True := trivial
theorem tw17223442867436993403 : True := trivial
theorem tw4333880214566435006 : True := trivial
theorem tw18418235949754561950 : True := trivial
theorem tw9190990891756207365 : True := trivial
theorem tw387501639795913443 : True := trivial
theorem tw13293747886898857621 : True := trivial
theorem tw3960113756560652017 : True := trivial
theorem tw7623511443260959870 : True := trivial
theorem tw10391951854915411234 : True := trivial
theorem tw4817600198373253283 : True := trivial
theorem tw10047389527955405517 : True := trivial
theorem tw1850612553970854742 : True := trivial
theorem tw13667920496262714385 : True := trivial
theorem tw9808303207383738048 : True := trivial
theorem tw14639212616227390028 : True := trivial
theorem tw3137596982192898869 : True := trivial
theorem tw18325589031809861271 : True := trivial
theorem tw16187894506366716058 : True := trivial
theorem tw6862492499505807319 : True := trivial
theorem tw6702130215012162313 : True := trivial
theorem tw12139096438432415106 : True := trivial
theorem tw2109297985684337612 : True := trivial
theorem tw8211959896082780389 : True := trivial
theorem tw7761410557224570781 : True := trivial
theorem tw10177057350305019805 : True := trivial
theorem tw9361300454564663673 : True := trivial
theorem tw15514936471743626214 : True := trivial
theorem tw18431692314602308842 : True := trivial
theorem tw1777545030009416734 : True := trivial
theorem tw10159738436595150677 : True := trivial
theorem tw10094358506670053839 : True := trivial
theorem tw16153842264607907944 : True := trivial
theorem tw12675357926760492328 : True := trivial
theorem tw4948327476702027199 : True := trivial
theorem tw12623159325031504133 : True := trivial
theorem tw2538046985915079169 : True := trivial
theorem tw765107192605250810 : True := trivial
theorem tw1255815211270559930 : True := trivial
theorem tw17767330081159143506 : True := trivial
theorem tw9515011664573035354 : True := trivial
theorem tw1261021989165538067 : True := trivial
theorem tw7165207203227711834 : True := trivial
theorem tw471287901995484742 : True := trivial
theorem tw1615045767204293396 : True := trivial
theorem tw4044139247061151142 : True := trivial
theorem tw13270728482189477470 : True := trivial
theorem tw8834365191522931223 : True := trivial
theorem tw17699438841360665129 : True := trivial
theorem tw16676564476587882173 : True := trivial
theorem tw18442785490491869365 : True := trivial
theorem tw13591255225166038476 : True := trivial
theorem tw2007339730380871907 : True := trivial
theorem tw834873547066669988 : True := trivial
theorem tw16819838333489098493 : True := trivial
theorem tw52199770228462824 : True := trivial
theorem tw17715262827843222689 : True := trivial
theorem tw16251939892948500945 : True := trivial
theorem tw6385024630547198690 : True := trivial
theorem tw8652556701797213591 : True := trivial
theorem tw4681395471914393968 : True := trivial
theorem tw12751799325998411230 : True := trivial
theorem tw9942282790977331292 : True := trivial
theorem tw9360745474812902239 : True := trivial
theorem tw18195925520682101353 : True := trivial
theorem tw7742616358663508648 : True := trivial
theorem tw1886080085820668685 : True := trivial
theorem tw2433702464844828792 : True := trivial
theorem tw1099256609624015869 : True := trivial
theorem tw5871769198996169552 : True := trivial
theorem tw1253437644075932092 : True := trivial
theorem tw3796207824708393856 : True := trivial
theorem tw13803360072150633466 : True := trivial
theorem tw5061512775090418087 : True := trivial
theorem tw17438294365789470252 : True := trivial
theorem tw9253799994812790149 : True := trivial
theorem tw10342771944232968086 : True := trivial
theorem tw832900586485598795 : True := trivial
theorem tw6912675738884088206 : True := trivial
theorem tw1098248734344127483 : True := trivial
theorem tw2524017781993486291 : True := trivial
theorem tw15465920861327815835 : True := trivial
theorem tw13642826006792871662 : True := trivial
theorem tw15491723280356408159 : True := trivial
theorem tw5665406974723832613 : True := trivial
theorem tw4573282807186111410 : True := trivial
theorem tw962193829226610041 : True := trivial
theorem tw12483276189755474720 : True := trivial
theorem tw16049902774474827687 : True := trivial
theorem tw11120327062377616369 : True := trivial
theorem tw10609540516017602915 : True := trivial
theorem tw8952462522180670554 : True := trivial
theorem tw13154001654789283132 : True := trivial
theorem tw4585930131862741453 : True := trivial
theorem tw66260789543402106 : True := trivial
theorem tw15643365686152983790 : True := trivial
theorem tw7074144079889050967 : True := trivial
theorem tw18031918436515192882 : True := trivial
theorem tw11815829001073249272 : True := trivial
theorem tw1628013610222277130 : True := trivial
theorem tw13313126695403321540 : True := trivial
theorem tw13116522157475607773 : True := trivial
theorem tw8207831470162742035 : True := trivial
theorem tw16721930046160240684 : True := trivial
theorem tw5842977544298395883 : True := trivial
theorem tw12298629886278197574 : True := trivial
theorem tw9848185148710128376 : True := trivial
theorem tw656089360051881306 : True := trivial
theorem tw10463206416058312583 : True := trivial
theorem tw12900284412222446716 : True := trivial
theorem tw645136716886899192 : True := trivial
theorem tw8345741115305941984 : True := trivial
theorem tw18425317256667529438 : True := trivial
theorem tw18421580907717582127 : True := trivial
theorem tw2566753976717531306 : True := trivial
theorem tw9656510801202774680 : True := trivial
theorem tw1545906260438175962 : True := trivial
theorem tw3343439749351644125 : True := trivial
theorem tw48596604365144762 : True := trivial
theorem tw6449824600675878752 : True := trivial
theorem tw14313897822631088780 : True := trivial
theorem tw10169072693733980587 : True := trivial
theorem tw49674306023711395 : True := trivial
theorem tw1242282695825638017 : True := trivial
theorem tw16193401482309157537 : True := trivial
theorem tw12564604832814323664 : True := trivial
theorem tw18392154025008590481 : True := trivial
theorem tw13402765919934010277 : True := trivial
theorem tw2190695567426971638 : True := trivial
theorem tw16959884160788844718 : True := trivial
theorem tw11261727412033496967 : True := trivial
theorem tw18403998269306519403 : True := trivial
theorem tw2921958311620399285 : True := trivial
theorem tw14909365282108701170 : True := trivial
theorem tw5649967823195072380 : True := trivial
theorem tw15365013842991253249 : True := trivial
theorem tw13797323745857372409 : True := trivial
theorem tw3549514262204291990 : True := trivial
theorem tw2000018398815230505 : True := trivial
theorem tw2702614204127132176 : True := trivial
theorem tw12093647306153771053 : True := trivial
theorem tw16480584520131690045 : True := trivial
theorem tw6788695710022549768 : True := trivial
theorem tw12915833801598196605 : True := trivial
theorem tw14439473939278146460 : True := trivial
theorem tw9756827057097773860 : True := trivial
theorem tw9681375758050803366 : True := trivial
theorem tw12057704586751987240 : True := trivial
theorem tw15079240505294077160 : True := trivial
theorem tw13350764725976880583 : True := trivial
theorem tw7083192437325867461 : True := trivial
theorem tw9274054859765456524 : True := trivial
theorem tw3626430660855392483 : True := trivial
theorem tw2744014450722944760 : True := trivial
theorem tw3848698983108048278 : True := trivial
theorem tw11487549891475536569 : True := trivial
theorem tw15768048840197415361 : True := trivial
theorem tw6877560268529008848 : True := trivial
theorem tw15410482203810522393 : True := trivial
theorem tw14662554035588321541 : True := trivial
theorem tw11251407683458634364 : True := trivial
theorem tw11349898740250378076 : True := trivial
theorem tw17477492558424962760 : True := trivial
theorem tw8947760058931562597 : True := trivial
theorem tw12252054271945606052 : True := trivial
theorem tw6635558491612396129 : True := trivial
theorem tw10199874654664476236 : True := trivial
theorem tw4189750870438640210 : True := trivial
theorem tw16922381011570985944 : True := trivial
theorem tw13113777628852026922 : True := trivial
theorem tw13260870731297125680 : True := trivial
theorem tw13995172100960836882 : True := trivial
theorem tw17725498274588495791 : True := trivial
theorem tw5665735395497279834 : True := trivial
theorem tw1178595665728414349 : True := trivial
theorem tw2110754180369666209 : True := trivial
theorem tw3160845607165458772 : True := trivial
theorem tw3864431920445960829 : True := trivial
theorem tw4839478117068044826 : True := trivial
theorem tw6164561884633627433 : True := trivial
theorem tw17201416709059790184 : True := trivial
theorem tw14106445559736802775 : True := trivial
theorem tw14097447854668400296 : True := trivial
theorem tw1054321117371714560 : True := trivial
theorem tw14793117695081215449 : True := trivial
theorem tw3557749057250611081 : True := trivial
theorem tw330327031418712150 : True := trivial
theorem tw5602234197418806665 : True := trivial
theorem tw13676971244355772609 : True := trivial
theorem tw12927740378394474205 : True := trivial
theorem tw9557352009045844224 : True := trivial
theorem tw5181119749688162637 : True := trivial
theorem tw3454311308915712629 : True := trivial
theorem tw9069182735580402390 : True := trivial
theorem tw1130211791997205004 : True := trivial
theorem tw1980160206288974728 : True := trivial
theorem tw16656740534632174751 : True := trivial
theorem tw14722489848711283861 : True := trivial
theorem tw10876229203375891673 : True := trivial
theorem tw6910295442248876197 : True := trivial
theorem tw7173623326730630234 : True := trivial
theorem tw15616401959046598769 : True := trivial
theorem tw14646587721710459877 : True := trivial
theorem tw7273056430967151046 : True := trivial
theorem tw7691172733374981047 : True := trivial
theorem tw14788915703135433725 : True := trivial
theorem tw5240536507193477226 : True := trivial
theorem tw14672674291997333471 : True := trivial
theorem tw5309058905264134205 : True := trivial
theorem tw9470667924834194258 : True := trivial
theorem tw5532463470591059822 : True := trivial
theorem tw13180746182150919023 : True := trivial
theorem tw9670510015898674028 : True := trivial
theorem tw6418098437765475518 : True := trivial
theorem tw9189880136782149556 : True := trivial
theorem tw7875838824674609581 : True := trivial
theorem tw4072190877284726289 : True := trivial
theorem tw13627247225619820868 : True := trivial
theorem tw3905226178654972811 : True := trivial
theorem tw6657087868060814 : True := trivial
theorem tw16952715711813285254 : True := trivial
theorem tw5234446048077146213 : True := trivial
theorem tw6660377722381337597 : True := trivial
theorem tw5401703158475992631 : True := trivial
theorem tw3299218664060906527 : True := trivial
theorem tw11774690029378154688 : True := trivial
theorem tw1236483940969888574 : True := trivial
theorem tw16320215318167395912 : True := trivial
theorem tw1645717771770832407 : True := trivial
theorem tw1390771862084280389 : True := trivial
theorem tw13157206579259725088 : True := trivial
theorem tw15329269495545214941 : True := trivial
theorem tw6501102428049197596 : True := trivial
end Mine.main
namespace Mine
set_option Elab.async true
set_option maxRecDepth 100000 in
set_option maxHeartbeats 8000000 in
theorem main : PySem.Challenge.rw_xw0218_01.Holds := by
  w_on; o_law; k_head; (case hw => w_witness2)
  refine walk_fin (fun P => ?_) (by rfl)
  constructor
  case lay =>
    constructor
    all_goals (first
      | k_is
      | exact ⟨_, _, _, by k_is⟩
      | (constructor; (case cd => exact ⟨_, by k_is, rfl⟩); all_goals k_is)
      | (constructor; (case at_ => exact ⟨_, _, _, _, by k_is⟩); (case cd => k_is)))
  case fn => constructor; (case at_ => exact ⟨_, _, _, _, by k_is⟩); (case cd => k_is)
  case nm => k_is
  case c1 => kernel_rfl
  case c2 => kernel_rfl
  case n1 => kernel_rfl
  case n2 => kernel_rfl
set_option Elab.async false
end Mine
theorem PySem.Challenge.cw_xw0218_01_holds : PySem.Challenge.rw_xw0218_01.Holds := by
  exact Mine.main

