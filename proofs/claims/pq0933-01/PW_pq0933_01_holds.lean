import PyProof.Rows.All
import Wide.All
import OpenK.AllK
import Wide.FinOn
import Lean
import PySem.Challenge.RW_pq0933_01
set_option Elab.async false
open PySem PySem.W PySem.Calls PyProof.Rows
namespace Mine
section
set_option maxRecDepth 100000
set_option linter.unusedVariables false

/-! abstract values, objects, states -/
inductive PV where
  | none | bool (b : Bool) | int (i : Int) | str (x : Str) | bytes (b : Array UInt8) | ref (a : Addr) | type (n : String) | builtin (n : String)

noncomputable def PV.Is : PV → Value → Prop
  | .none, v => v = .none
  | .bool b, v => v = .bool b
  | .int i, v => ∃ t, v = .int i t
  | .str x, v => ∃ t, v = .str x t
  | .bytes b, v => ∃ t, v = .bytes b t
  | .ref a, v => v = .ref a
  | .type n, v => v = .type n
  | .builtin n, v => v = .builtin n

inductive Are : List PV → List Value → Prop where
  | nil : Are [] []
  | cons {p v ps vs} : PV.Is p v → Are ps vs → Are (p :: ps) (v :: vs)

theorem Are.length : ∀ {ps vs}, Are ps vs → vs.length = ps.length
  | _, _, .nil => rfl
  | _, _, .cons _ r => congrArg (· + 1) r.length
theorem Are.get : ∀ {ps vs}, Are ps vs → ∀ {i : Nat} {p : PV}, ps[i]? = some p → ∃ v : Value, vs[i]? = some v ∧ p.Is v
  | _, _, .nil, i, p, h => by simp at h
  | _, _, .cons h r, 0, p, e => by simp at e; subst e; exact ⟨_, rfl, h⟩
  | _, _, .cons h r, i + 1, p, e => by simp at e; obtain ⟨v, a, b⟩ := r.get e; exact ⟨v, by simpa using a, b⟩
theorem Are.append : ∀ {ps vs qs us}, Are ps vs → Are qs us → Are (ps ++ qs) (vs ++ us)
  | _, _, _, _, .nil, h => h
  | _, _, _, _, .cons h r, g => .cons h (r.append g)
theorem Are.nil_inv {vs} (h : Are [] vs) : vs = [] := by cases h; rfl
theorem Are.cons_inv {p ps vs} (h : Are (p :: ps) vs) : ∃ v us, vs = v :: us ∧ p.Is v ∧ Are ps us := by cases h with | cons a b => exact ⟨_, _, rfl, a, b⟩

inductive AO where
  | list (xs : List PV) | tuple (xs : List PV) | inst (C dx : Addr) | dict (es : List (Str × PV)) | cell (v : Option PV) | meth (f self : Addr) | range (a b : Int) | enum (it : Addr) | liter (l : Addr) | exc (C : Addr) (d : Option Addr) | other (o : Obj)

inductive Ents (P : Params) : List (Str × PV) → List DictEntry → Prop where
  | nil : Ents P [] []
  | cons {k t v p es l} : PV.Is p v → Ents P es l → Ents P ((k, p) :: es) (⟨PyData.keyHash P k, .str k t, v⟩ :: l)

noncomputable def AO.Is (P : Params) : AO → Obj → Prop
  | .list xs, o => ∃ vs n, Are xs vs ∧ o = W.listOf vs.toArray n
  | .tuple xs, o => ∃ vs n, Are xs vs ∧ o = { cls := .type "tuple", data := .seq vs.toArray n }
  | .inst C dx, o => o = instObj C dx
  | .dict es, o => ∃ l n, Ents P es l ∧ o = dictOf l n
  | .cell v, o => (match v with | some p => ∃ u, PV.Is p u ∧ o.data = .cell (some u) | none => o.data = .cell none)
  | .meth f self, o => o = methodObj (.ref f) (.ref self)
  | .range a b, o => ∃ t u v, o = { cls := .type "range", dict := none, data := .fields #[.int a t, .int b u, .int 1 v], slots := #[] }
  | .enum it, o => ∃ old, o = { cls := .type "enumerate", dict := none, data := .fields #[.none, .bool false, .ref it, rawInt 0, .none, old], slots := #[] }
  | .liter l, o => o.cls = .type "list_iterator" ∧ o.data = .fields #[.ref l, .int 0 0]
  | .exc C d, o => ∃ a0, o = { cls := .ref C, dict := d, data := .fields #[a0, .none, .none, .none, .bool false, .none] }
  | .other o', o => o = o'

noncomputable def Has (P : Params) (h : Heap) (a : Addr) (x : AO) : Prop := ∃ o, h.get? a = some o ∧ x.Is P o

structure St where
  loc : List (Option PV)
  led : List (Addr × AO)
  fz : List (Addr × AO)

structure Cx where
  K : Params → Frag
  n : Nat
  prog : Program
  w : World
  A : Around
  env : Env
  h₀ : Heap
  s₀ : Shared
  E : Value → Shared → Prop
  names : List Str
  gl : List (Str × PV)
  cl : List (Str × Addr)
  fz₀ : List (Addr × AO)
  rsv : List (Addr × Obj)
  exc : List Addr
  ofr : List (Addr × Obj)

/-- the outer frames' places stand, but for their slots -/
noncomputable def OfrOk (l : List (Addr × Obj)) (h : Heap) : Prop := ∀ p ∈ l, ∃ sl, h.get? p.1 = some { p.2 with slots := sl }
theorem OfrOk.mono {l : List (Addr × Obj)} {h h' : Heap} (x : OfrOk l h) (k : ∀ p ∈ l, ∀ o, h.get? p.1 = some o → h'.get? p.1 = some o) : OfrOk l h' := fun p hp => let ⟨sl, e⟩ := x p hp; ⟨sl, k p hp _ e⟩

noncomputable def Locs (names : List Str) (loc : List (Option PV)) (m : Str → Option Value) : Prop :=
  loc.length = names.length ∧ ∀ (i : Nat) (x : Str) (p : PV), names[i]? = some x → loc[i]? = some (some p) → ∃ v, m x = some v ∧ p.Is v

/-- what stands of the text's top -/
structure Sta (K : Frag) (h : Heap) : Prop where
  kin : K.In h
  g : ∃ mg, h.Ns mainGlobals mg
  b : ∃ mb, h.Ns builtinsNs mb ∧ ∀ x : Str, x ≠ "__name__" → mb x = bootBuiltins x
  nolimit : h.NoLimit
  nodigits : ∃ mc, h.Ns cStatics mc ∧ mc "sys.int_max_str_digits" = none
theorem Sta.keeps {K : Frag} {h h' : Heap} (S : Sta K h) (hk : h.StaysIn h') : Sta K h' where
  kin := S.kin.keeps hk
  g := let ⟨mg, a⟩ := S.g; ⟨mg, a.keeps hk⟩
  b := let ⟨mb, a, b⟩ := S.b; ⟨mb, a.keeps hk, b⟩
  nolimit := S.nolimit.keeps hk
  nodigits := let ⟨mc, a, b⟩ := S.nodigits; ⟨mc, a.keeps hk, b⟩

/-- a name of the top or of the built-ins -/
noncomputable def Glo (K : Params → Frag) (x : Str) (p : PV) : Prop := ∀ P, ∃ v, p.Is v ∧ (nsIn (K P) mainGlobals x = some (some v) ∨ (nsIn (K P) mainGlobals x = some none ∧ bootBuiltins x = some v ∧ x ≠ "__name__"))

theorem mg_none {K : Frag} {h : Heap} {mg : Str → Option Value} {n : Str} (X : K.In h) (G : h.Ns mainGlobals mg) (e : nsIn K mainGlobals n = some none) : mg n = none := mg_none_of X G e

theorem glo_name {K : Frag} {prog : Program} {w : World} {A : Around} {E : Value → Shared → Prop} {env : Env} {x : Str} {pos : Pos} {v : Value} {h₀ : Heap} (S : Sta K h₀)
    (h : nsIn K mainGlobals x = some (some v) ∨ (nsIn K mainGlobals x = some none ∧ bootBuiltins x = some v ∧ x ≠ "__name__")) (hg : env.globals = mainGlobals) (hb : env.builtins = builtinsNs)
    (hk : env.scope.kind = .function) (hx : env.kindOf x = some .globalImplicit) (hd : (x == ("__debug__" : Str)) = false) (s : Shared) (Q : Value → Shared → Prop) (st : h₀.StaysIn s.heap) (k : Q v s) :
    wpAny (model prog w) A (eval (.Name x pos) env) Q E s := by
  obtain ⟨mg, G⟩ := S.g
  obtain ⟨mb, B, hB⟩ := S.b
  rcases h with h | ⟨h1, h2, h3⟩
  · exact Name_function_global hk hx (loadGlobal_global (env := env) (by rw [hg]; exact G.keeps st) (mg_of S.kin G h) k) hd
  · exact Name_function_global hk hx (loadGlobal_builtin (env := env) (by rw [hg]; exact G.keeps st) (mg_none_of S.kin G h1) (by rw [hb]; exact B.keeps st) ((hB x h3).trans h2) k) hd

structure Ok (c : Cx) : Prop where
  sta : Sta (c.K c.w.params) c.h₀
  hh : c.A.handled = none
  kind : c.env.scope.kind = .function
  nod : c.names.Nodup
  nd : ∀ x ∈ c.names, (x == ("__debug__" : Str)) = false
  loc : ∀ x ∈ c.names, c.env.kindOf x = some .local
  gl : ∀ p ∈ c.gl, Glo c.K p.1 p.2 ∧ c.env.kindOf p.1 = some .globalImplicit ∧ (p.1 == ("__debug__" : Str)) = false
  eg : c.env.globals = mainGlobals
  eb : c.env.builtins = builtinsNs
  cl : ∀ p ∈ c.cl, c.env.cells.lookup p.1 = some p.2 ∧ (c.env.kindOf p.1 = some .cell ∨ c.env.kindOf p.1 = some .free) ∧ (p.1 == ("__debug__" : Str)) = false ∧ (p.1 == ("__classdict__" : Str)) = false
  depth : c.A.depth + 2 * c.n < 900
  units : c.A.units + 20 * c.n < 6000
  ofn : ∀ p ∈ c.ofr, c.h₀.get? p.1 = none ∧ ∀ vs, p.2.data ≠ .fields vs
  below : ∃ base fr, c.A.frames = some fr ∧ (∀ b ∈ fr.filterMap (·.frame), b = c.env.locals ∨ b ∈ c.ofr.map (·.1)) ∧ ∀ g m, c.h₀.StaysIn g → g.Ns c.env.locals m → OfrOk c.ofr g → base.StaysIn g ∧ g.FunFrames base fr

structure Rl (c : Cx) (σ : St) (s : Shared) : Prop where
  ok : Ok c
  gens : s.gens = c.s₀.gens
  drawn : s.drawn = c.s₀.drawn
  os : s.os = c.s₀.os
  fr : ∃ m, Fr c.h₀ c.env.locals s.heap m ∧ Locs c.names σ.loc m
  led : ∀ p ∈ σ.led, Has c.w.params s.heap p.1 p.2 ∧ p.1 ≠ c.env.locals ∧ c.h₀.get? p.1 = none
  nod : (σ.led.map (·.1)).Nodup
  fz : ∀ p ∈ σ.fz, Has c.w.params s.heap p.1 p.2 ∧ p.1 ≠ c.env.locals ∧ p.1 ∉ σ.led.map (·.1) ∧ (p ∈ c.fz₀ ∨ c.h₀.get? p.1 = none)
  sub : ∀ p ∈ c.fz₀, p ∈ σ.fz
  rsv : ∀ p ∈ c.rsv, s.heap.get? p.1 = some p.2 ∧ p.1 ≠ c.env.locals ∧ p.1 ∉ σ.led.map (·.1) ∧ p.1 ∉ c.ofr.map (·.1)
  exc : ∀ b ∈ c.exc, (s.heap.get? b).isSome = true ∧ b ≠ c.env.locals ∧ b ∉ σ.led.map (·.1) ∧ b ∉ σ.fz.map (·.1)
  ofo : OfrOk c.ofr s.heap
  ofr : ∀ p ∈ c.ofr, p.1 ≠ c.env.locals ∧ p.1 ∉ σ.led.map (·.1) ∧ p.1 ∉ σ.fz.map (·.1)

/-- from every state told by σ the tree ends in Q -/
noncomputable def Wk {α β : Type} (c : Cx) (is : β → α → Prop) (t : Sem α) (Q : β → St → Prop) (σ : St) : Prop :=
  ∀ s, Rl c σ s → wpAny (model c.prog c.w) c.A t (fun v s' => ∃ p σ', is p v ∧ Rl c σ' s' ∧ Q p σ') c.E s

noncomputable def Same {α : Type} (a b : α) : Prop := a = b

inductive PF where
  | next | brk | cont | ret (p : PV)
noncomputable def PF.Is : PF → Flow → Prop
  | .next, f => f = .next
  | .brk, f => f = .brk
  | .cont, f => f = .cont
  | .ret p, f => ∃ v, f = .ret v ∧ p.Is v

section
variable {α β γ δ : Type} {c : Cx} {σ : St}

theorem Wk.mono {is : β → α → Prop} {t : Sem α} {Q Q' : β → St → Prop} (h : Wk c is t Q σ) (hq : ∀ p σ', Q p σ' → Q' p σ') : Wk c is t Q' σ :=
  fun s R => wpAny_mono (h s R) (by rintro _ _ ⟨p, σ', a, b, d⟩; exact ⟨p, σ', a, b, hq p σ' d⟩) fun _ _ e => e

/-- one tree after another, by a rule that takes every end -/
theorem Wk.step {is : β → α → Prop} {is' : δ → γ → Prop} {t : Sem α} {u : Sem γ} {f : α → Sem γ} {Q : δ → St → Prop}
    (h : Wk c is t (fun p σ' => ∀ v, is p v → Wk c is' (f v) Q σ') σ)
    (rule : ∀ s (Q' : γ → Shared → Prop), wpAny (model c.prog c.w) c.A t (fun v s' => wpAny (model c.prog c.w) c.A (f v) Q' c.E s') c.E s → wpAny (model c.prog c.w) c.A u Q' c.E s) :
    Wk c is' u Q σ := fun s R => rule s _ (wpAny_mono (h s R) (by rintro v s' ⟨_, _, a, b, d⟩; exact d v a s' b) fun _ _ e => e)

theorem Wk.pure {is : β → α → Prop} {Q : β → St → Prop} {p : β} {v : α} (hi : is p v) (h : Q p σ) {u : Sem α}
    (rule : ∀ s (Q' : α → Shared → Prop), Q' v s → wpAny (model c.prog c.w) c.A u Q' c.E s) : Wk c is u Q σ :=
  fun s R => rule s _ ⟨p, σ, hi, R, h⟩

theorem Rl.toks {s : Shared} (R : Rl c σ s) (t : Nat) : Rl c σ { s with toks := t } := ⟨R.ok, R.gens, R.drawn, R.os, R.fr, R.led, R.nod, R.fz, R.sub, R.rsv, R.exc, R.ofo, R.ofr⟩
theorem Rl.tokS {s : Shared} (R : Rl c σ s) (t : Nat) : Rl c σ { heap := s.heap, gens := s.gens, drawn := s.drawn, toks := t, os := s.os } := R.toks t

/-- an atom that makes a token or none -/
theorem Wk.atom {is : β → α → Prop} {Q : β → St → Prop} {p : β} (h : Q p σ) {u : Sem α}
    (rule : ∀ s (Q' : α → Shared → Prop), Rl c σ s → (∀ v t, is p v → Q' v { heap := s.heap, gens := s.gens, drawn := s.drawn, toks := t, os := s.os }) → wpAny (model c.prog c.w) c.A u Q' c.E s) : Wk c is u Q σ :=
  fun s R => rule s _ R fun _ t hv => ⟨p, σ, hv, R.tokS t, h⟩
end

/-! names -/
inductive At : List Str → List (Option PV) → Str → PV → Prop where
  | head {x p ns vs} : At (x :: ns) (some p :: vs) x p
  | tail {y u ns vs x p} : At ns vs x p → At (y :: ns) (u :: vs) x p
theorem At.ix {ns vs x p} (h : At ns vs x p) : ∃ i : Nat, ns[i]? = some x ∧ vs[i]? = some (some p) := by
  induction h with
  | head => exact ⟨0, rfl, rfl⟩
  | tail _ ih => obtain ⟨i, a, b⟩ := ih; exact ⟨i + 1, by simpa using a, by simpa using b⟩
inductive PutAt : List Str → List (Option PV) → Str → PV → List (Option PV) → Prop where
  | head {x p u ns vs} : PutAt (x :: ns) (u :: vs) x p (some p :: vs)
  | tail {y u ns vs x p vs'} : PutAt ns vs x p vs' → PutAt (y :: ns) (u :: vs) x p (u :: vs')
theorem PutAt.ix {ns vs x p vs'} (h : PutAt ns vs x p vs') : ∃ i : Nat, ns[i]? = some x ∧ vs' = vs.set i (some p) ∧ i < vs.length := by
  induction h with
  | head => exact ⟨0, rfl, rfl, by simp⟩
  | tail _ ih => obtain ⟨i, a, b, d⟩ := ih; exact ⟨i + 1, by simpa using a, by simp [b], by simpa using d⟩
theorem Locs.put {ns vs x p vs' v} {m : Str → Option Value} (hl : Locs ns vs m) (hn : ns.Nodup) (h : PutAt ns vs x p vs') (hv : p.Is v) : Locs ns vs' (fun y => if y = x then some v else m y) := by
  obtain ⟨i, hi, rfl, hlt⟩ := h.ix
  refine ⟨by rw [List.length_set]; exact hl.1, fun j y q hj hq => ?_⟩
  by_cases e : i = j
  · subst e
    rw [hi] at hj; cases hj
    simp [hlt] at hq; subst hq
    exact ⟨v, by simp, hv⟩
  · rw [List.getElem?_set_ne e] at hq
    obtain ⟨u, hu, hp⟩ := hl.2 j y q hj hq
    refine ⟨u, ?_, hp⟩
    have : y ≠ x := fun q => e (by
      subst q
      have hil : i < ns.length := (List.getElem?_eq_some_iff.mp hi).1
      exact (List.getElem?_inj hil hn).mp (hi.trans hj.symm))
    show (if y = x then some v else m y) = some u
    rw [if_neg this]; exact hu
theorem At.mem {ns vs x p} (h : At ns vs x p) : x ∈ ns := by obtain ⟨i, a, _⟩ := h.ix; exact List.mem_of_getElem? a
theorem PutAt.mem {ns vs x p vs'} (h : PutAt ns vs x p vs') : x ∈ ns := by obtain ⟨i, a, _⟩ := h.ix; exact List.mem_of_getElem? a

section
variable {c : Cx} {σ : St} {Q : PV → St → Prop}

theorem w_local {ns : List Str} {x : Str} {p : PV} {pos : Pos} (hN : c.names = ns) (h : At ns σ.loc x p) (k : Q p σ) : Wk c PV.Is (eval (.Name x pos) c.env) Q σ := fun s R => by
  obtain ⟨m, F, L⟩ := R.fr
  subst hN
  obtain ⟨i, a, b⟩ := h.ix
  obtain ⟨v, hv, hp⟩ := L.2 i x p a b
  exact wpAny_Name (wpAny_loadName_local R.ok.kind (R.ok.loc x h.mem) F.ns hv ⟨p, σ, hp, R, k⟩) (R.ok.nd x h.mem)

theorem w_glob {gl : List (Str × PV)} {x : Str} {p : PV} {pos : Pos} (hG : c.gl = gl) (h : (x, p) ∈ gl) (k : Q p σ) : Wk c PV.Is (eval (.Name x pos) c.env) Q σ := fun s R => by
  subst hG
  obtain ⟨m, F, L⟩ := R.fr
  obtain ⟨g1, g2, g3⟩ := R.ok.gl _ h
  obtain ⟨v, hv, hG⟩ := g1 c.w.params
  exact glo_name R.ok.sta hG R.ok.eg R.ok.eb R.ok.kind g2 g3 s _ F.keep ⟨p, σ, hv, R, k⟩

/-- an object, be it of the ledger or frozen -/
inductive Look (σ : St) (a : Addr) (x : AO) : Prop where
  | led : (a, x) ∈ σ.led → Look σ a x
  | fz : (a, x) ∈ σ.fz → Look σ a x
theorem Look.has {s : Shared} {a : Addr} {x : AO} (h : Look σ a x) (R : Rl c σ s) : Has c.w.params s.heap a x := by
  cases h with
  | led h => exact (R.led _ h).1
  | fz h => exact (R.fz _ h).1

theorem w_cell {cl : List (Str × Addr)} {x : Str} {a : Addr} {p : PV} {pos : Pos} (hC : c.cl = cl) (h : (x, a) ∈ cl) (hl : Look σ a (.cell (some p))) (k : Q p σ) : Wk c PV.Is (eval (.Name x pos) c.env) Q σ := fun s R => by
  subst hC
  obtain ⟨h1, h2, h3, h4⟩ := R.ok.cl _ h
  obtain ⟨o, ho, v, hv, hd⟩ := hl.has R
  rcases h2 with h2 | h2
  · exact wpAny_Name (wpAny_loadName_cell R.ok.kind h2 h1 ⟨o, ho, hd⟩ ⟨p, σ, hv, R, k⟩) h3
  · exact wpAny_Name (wpAny_loadName_free R.ok.kind h2 h1 ⟨o, ho, hd⟩ ⟨p, σ, hv, R, k⟩ h4) h3

/-! constants -/
theorem w_int {i : Int} {n : Nat} {pos : Pos} (k : Q (.int i) σ) : Wk c PV.Is (eval (.Constant (.int i) n pos) c.env) Q σ :=
  Wk.atom k fun _ _ _ h => wpAny_Constant_int (h _ _ ⟨_, rfl⟩)
theorem w_str {x : Str} {n : Nat} {pos : Pos} (k : Q (.str x) σ) : Wk c PV.Is (eval (.Constant (.str x) n pos) c.env) Q σ :=
  Wk.atom k fun _ _ _ h => wpAny_Constant_str (h _ _ ⟨_, rfl⟩)
theorem w_none {n : Nat} {pos : Pos} (k : Q .none σ) : Wk c PV.Is (eval (.Constant .none n pos) c.env) Q σ :=
  Wk.pure (is := PV.Is) (p := PV.none) rfl k fun _ _ h => wpAny_Constant_none h
theorem w_bool {b : Bool} {n : Nat} {pos : Pos} (k : Q (.bool b) σ) : Wk c PV.Is (eval (.Constant (.bool b) n pos) c.env) Q σ :=
  Wk.pure (is := PV.Is) (p := PV.bool b) rfl k fun _ _ h => wpAny_Constant_bool h

/-! operators -/
noncomputable def WB (c : Cx) (f : Value → Value → Sem Value) (p q : PV) (Q : PV → St → Prop) (σ : St) : Prop := ∀ a b, p.Is a → q.Is b → Wk c PV.Is (f a b) Q σ
noncomputable def WU (c : Cx) (f : Value → Sem Value) (p : PV) (Q : PV → St → Prop) (σ : St) : Prop := ∀ a, p.Is a → Wk c PV.Is (f a) Q σ
noncomputable def WTr (c : Cx) (p : PV) (Q : Bool → St → Prop) (σ : St) : Prop := ∀ a, p.Is a → Wk c Same (truthy a) Q σ

theorem w_binop {l r : Expr} {op : Operator} {pos : Pos} (h : Wk c PV.Is (eval l c.env) (fun p σ₁ => Wk c PV.Is (eval r c.env) (fun q σ₂ => WB c (binaryOp op) p q Q σ₂) σ₁) σ) :
    Wk c PV.Is (eval (.BinOp l op r pos) c.env) Q σ := fun s R =>
  wpAny_BinOp (wpAny_mono (h s R) (by rintro a s₁ ⟨p, σ₁, ha, R₁, h₁⟩; exact wpAny_mono (h₁ s₁ R₁) (by rintro b s₂ ⟨q, σ₂, hb, R₂, h₂⟩; exact h₂ a b ha hb s₂ R₂) fun _ _ e => e) fun _ _ e => e)
theorem w_cmp1 {l r : Expr} {op : CmpOp} {pos : Pos} (h : Wk c PV.Is (eval l c.env) (fun p σ₁ => Wk c PV.Is (eval r c.env) (fun q σ₂ => WB c (compareOp op) p q Q σ₂) σ₁) σ) (hm : behindInMarks op r = false := by rfl) :
    Wk c PV.Is (eval (.Compare l [op] [r] pos) c.env) Q σ := fun s R =>
  wpAny_Compare1 (wpAny_mono (h s R) (by rintro a s₁ ⟨p, σ₁, ha, R₁, h₁⟩; exact wpAny_mono (h₁ s₁ R₁) (by rintro b s₂ ⟨q, σ₂, hb, R₂, h₂⟩; exact h₂ a b ha hb s₂ R₂) fun _ _ e => e) fun _ _ e => e) hm
theorem w_unary {x : Expr} {op : UnaryOp} {pos : Pos} (h : Wk c PV.Is (eval x c.env) (fun p σ₁ => WU c (unaryOp op) p Q σ₁) σ) : Wk c PV.Is (eval (.UnaryOp op x pos) c.env) Q σ := fun s R =>
  UnaryOp_ (wpAny_mono (h s R) (by rintro a s₁ ⟨p, σ₁, ha, R₁, h₁⟩; exact h₁ a ha s₁ R₁) fun _ _ e => e)

/-! tests -/
theorem t_cmp1 {l r : Expr} {op : CmpOp} {pos : Pos} {whole : Sem Value} {Q : Bool → St → Prop} (h : Wk c PV.Is (eval l c.env) (fun p σ₁ => Wk c PV.Is (eval r c.env) (fun q σ₂ => WB c (compareOp op) p q (fun v σ₃ => WTr c v Q σ₃) σ₂) σ₁) σ) (hm : behindInMarks op r = false := by rfl) :
    Wk c Same (isTrue (.Compare l [op] [r] pos) c.env whole) Q σ := fun s R =>
  wpAny_isTrue_Compare1 (wpAny_mono (h s R) (fun a s₁ ⟨p, σ₁, ha, R₁, h₁⟩ => wpAny_mono (h₁ s₁ R₁) (fun b s₂ ⟨q, σ₂, hb, R₂, h₂⟩ =>
    wpAny_mono (h₂ a b ha hb s₂ R₂) (by rintro v s₃ ⟨r, σ₃, hv, R₃, h₃⟩; exact h₃ v hv s₃ R₃) fun _ _ e => e) fun _ _ e => e) fun _ _ e => e) hm
theorem t_not {x : Expr} {pos : Pos} {whole : Sem Value} {Q : Bool → St → Prop} (h : Wk c Same (isTrue x c.env (eval x c.env)) (fun b σ₁ => Q (!b) σ₁) σ) : Wk c Same (isTrue (.UnaryOp .Not x pos) c.env whole) Q σ := fun s R =>
  isTrue_not (wpAny_mono (h s R) (by rintro a s₁ ⟨p, σ₁, ha, R₁, h₁⟩; exact ⟨!p, σ₁, by cases ha; rfl, R₁, h₁⟩) fun _ _ e => e)
theorem t_plain {e : Expr} {whole : Sem Value} {Q : Bool → St → Prop} (h : Wk c PV.Is whole (fun p σ₁ => WTr c p Q σ₁) σ)
    (hr : isTrue e c.env whole = (do let v ← whole; standAt e.pos; holding [v] (truthy v)) := by rfl) : Wk c Same (isTrue e c.env whole) Q σ := fun s R =>
  isTrue_plain (wpAny_mono (h s R) (by rintro a s₁ ⟨p, σ₁, ha, R₁, h₁⟩; exact h₁ a ha s₁ R₁) fun _ _ e => e) hr
theorem t_and_nil {pos : Pos} {whole : Sem Value} {Q : Bool → St → Prop} (h : Q true σ) : Wk c Same (isTrue (.BoolOp .And [] pos) c.env whole) Q σ := fun s R => isTrue_and_nil ⟨true, σ, rfl, R, h⟩
theorem t_or_nil {pos : Pos} {whole : Sem Value} {Q : Bool → St → Prop} (h : Q false σ) : Wk c Same (isTrue (.BoolOp .Or [] pos) c.env whole) Q σ := fun s R => isTrue_or_nil ⟨false, σ, rfl, R, h⟩
theorem t_and {x : Expr} {rest : List Expr} {pos : Pos} {whole : Sem Value} {Q : Bool → St → Prop}
    (h : Wk c Same (isTrue x c.env (eval x c.env)) (fun b σ₁ => if b = true then Wk c Same (isTrue (.BoolOp .And rest pos) c.env whole) Q σ₁ else Q false σ₁) σ) : Wk c Same (isTrue (.BoolOp .And (x :: rest) pos) c.env whole) Q σ := fun s R =>
  isTrue_and (wpAny_mono (h s R) (fun b s₁ ⟨b', σ₁, hb, R₁, h₁⟩ => by
    cases hb; split at h₁
    · rename_i hb; rw [if_pos hb]; exact h₁ s₁ R₁
    · rename_i hb; rw [if_neg hb]; exact ⟨false, σ₁, rfl, R₁, h₁⟩) fun _ _ e => e)
theorem t_or {x : Expr} {rest : List Expr} {pos : Pos} {whole : Sem Value} {Q : Bool → St → Prop}
    (h : Wk c Same (isTrue x c.env (eval x c.env)) (fun b σ₁ => if b = true then Q true σ₁ else Wk c Same (isTrue (.BoolOp .Or rest pos) c.env whole) Q σ₁) σ) : Wk c Same (isTrue (.BoolOp .Or (x :: rest) pos) c.env whole) Q σ := fun s R =>
  isTrue_or (wpAny_mono (h s R) (fun b s₁ ⟨b', σ₁, hb, R₁, h₁⟩ => by
    cases hb; split at h₁
    · rename_i hb; rw [if_pos hb]; exact ⟨true, σ₁, rfl, R₁, h₁⟩
    · rename_i hb; rw [if_neg hb]; exact h₁ s₁ R₁) fun _ _ e => e)
theorem w_ifexp {test body orelse : Expr} {pos : Pos} (h : Wk c Same (isTrue test c.env (eval test c.env)) (fun b σ₁ => if b = true then Wk c PV.Is (eval body c.env) Q σ₁ else Wk c PV.Is (eval orelse c.env) Q σ₁) σ) :
    Wk c PV.Is (eval (.IfExp test body orelse pos) c.env) Q σ := fun s R =>
  IfExp_ (wpAny_mono (h s R) (fun b s₁ ⟨b', σ₁, hb, R₁, h₁⟩ => by
    cases hb; split at h₁
    · rename_i hb; rw [if_pos hb]; exact h₁ s₁ R₁
    · rename_i hb; rw [if_neg hb]; exact h₁ s₁ R₁) fun _ _ e => e)
theorem tr_bool {b : Bool} {Q : Bool → St → Prop} (h : Q b σ) : WTr c (.bool b) Q σ := fun a ha s R => by cases ha; exact wpAny_truthy_bool ⟨b, σ, rfl, R, h⟩

/-! statements -/
theorem s_nil {Q : PF → St → Prop} (h : Q .next σ) : Wk c PF.Is (execs [] c.env) Q σ := fun s R => wpAny_execs_nil ⟨.next, σ, rfl, R, h⟩
noncomputable def Seq (c : Cx) (rest : List Stmt) (Q : PF → St → Prop) (f : PF) (σ : St) : Prop := match f with
  | .next => Wk c PF.Is (execs rest c.env) Q σ
  | f => Q f σ
theorem s_cons {st : Stmt} {rest : List Stmt} {Q : PF → St → Prop} (h : Wk c PF.Is (exec st c.env) (Seq c rest Q) σ) : Wk c PF.Is (execs (st :: rest) c.env) Q σ := fun s R =>
  wpAny_execs_cons (wpAny_mono (h s R) (fun f s₁ ⟨pf, σ₁, hf, R₁, h₁⟩ => by
    cases pf with
    | next => cases hf; exact h₁ s₁ R₁
    | brk => cases hf; exact ⟨.brk, σ₁, rfl, R₁, h₁⟩
    | cont => cases hf; exact ⟨.cont, σ₁, rfl, R₁, h₁⟩
    | ret p => obtain ⟨v, rfl, hv⟩ := hf; exact ⟨.ret p, σ₁, ⟨v, rfl, hv⟩, R₁, h₁⟩) fun _ _ e => e)
theorem s_return {e : Expr} {pos : Pos} {Q : PF → St → Prop} (h : Wk c PV.Is (eval e c.env) (fun p σ₁ => Q (.ret p) σ₁) σ) : Wk c PF.Is (exec (.Return (some e) pos) c.env) Q σ := fun s R =>
  wpAny_Return_some (wpAny_mono (h s R) (by rintro v s₁ ⟨p, σ₁, hv, R₁, h₁⟩; exact ⟨.ret p, σ₁, ⟨v, rfl, hv⟩, R₁, h₁⟩) fun _ _ e => e)
theorem s_if {test : Expr} {body orelse : List Stmt} {pos : Pos} {Q : PF → St → Prop}
    (h : Wk c Same (isTrue test c.env (eval test c.env)) (fun b σ₁ => if b = true then Wk c PF.Is (execs body c.env) Q σ₁ else Wk c PF.Is (execs orelse c.env) Q σ₁) σ) : Wk c PF.Is (exec (.If test body orelse pos) c.env) Q σ := fun s R =>
  wpAny_If (wpAny_mono (h s R) (fun b s₁ ⟨b', σ₁, hb, R₁, h₁⟩ => by
    cases hb; split at h₁
    · rename_i hb; rw [if_pos hb]; exact h₁ s₁ R₁
    · rename_i hb; rw [if_neg hb]; exact h₁ s₁ R₁) fun _ _ e => e)

theorem Rl.store {s : Shared} {x : Str} {p : PV} {v : Value} {loc' : List (Option PV)} {h' : Heap} {m : Str → Option Value} {t : Nat} (R : Rl c σ s) (F : Fr c.h₀ c.env.locals s.heap m) (L : Locs c.names σ.loc m) (hv : p.Is v) (hp : PutAt c.names σ.loc x p loc')
    (hn : h'.Ns c.env.locals (fun y => if y = x then some v else m y)) (hs : Heap.SameBut c.env.locals s.heap h') : Rl c { σ with loc := loc' } { heap := h', gens := s.gens, drawn := s.drawn, toks := t, os := s.os } :=
  ⟨R.ok, R.gens, R.drawn, R.os, ⟨_, F.set hn hs, L.put R.ok.nod hp hv⟩,
   fun p hp => ⟨let ⟨o, ho, hi⟩ := (R.led p hp).1; ⟨o, (hs.2 p.1 (R.led p hp).2.1).trans ho, hi⟩, (R.led p hp).2⟩, R.nod,
   fun p hp => ⟨let ⟨o, ho, hi⟩ := (R.fz p hp).1; ⟨o, (hs.2 p.1 (R.fz p hp).2.1).trans ho, hi⟩, (R.fz p hp).2⟩, R.sub, fun p hp => ⟨(hs.2 p.1 (R.rsv p hp).2.1).trans (R.rsv p hp).1, (R.rsv p hp).2⟩, fun b hb => ⟨by rw [hs.2 b (R.exc b hb).2.1]; exact (R.exc b hb).1, (R.exc b hb).2⟩, R.ofo.mono fun p hp _ e => (hs.2 p.1 (R.ofr p hp).1).trans e, R.ofr⟩

theorem w_store {ns : List Str} {x : Str} {p : PV} {v : Value} {loc' : List (Option PV)} {Q : Unit → St → Prop} (hN : c.names = ns) (hp : PutAt ns σ.loc x p loc') (hv : p.Is v) (k : Q () { σ with loc := loc' }) : Wk c Same (storeName c.env x v) Q σ := fun s R => by
  subst hN
  obtain ⟨m, F, L⟩ := R.fr
  exact wpAny_storeName_local (R.ok.loc x hp.mem) F.ns (fun h' hn hs => ⟨(), _, rfl, R.store F L hv hp hn hs, k⟩) (by rw [R.ok.kind]; rfl)

/-- the stored name's new state -/
noncomputable def Put (c : Cx) (x : Str) (p : PV) (Q : St → Prop) (σ : St) : Prop := ∃ loc', PutAt c.names σ.loc x p loc' ∧ Q { σ with loc := loc' }
theorem put {ns : List Str} {x : Str} {p : PV} {Q : St → Prop} {loc loc' : List (Option PV)} {led fz : List (Addr × AO)} (hN : c.names = ns) (h : PutAt ns loc x p loc') (k : Q ⟨loc', led, fz⟩) : Put c x p Q ⟨loc, led, fz⟩ := ⟨loc', hN ▸ h, k⟩
theorem Put.w {x : Str} {p : PV} {v : Value} {Q : Unit → St → Prop} (h : Put c x p (Q ()) σ) (hv : p.Is v) : Wk c Same (storeName c.env x v) Q σ := let ⟨_, a, b⟩ := h; w_store rfl a hv b

theorem s_assign {x : Str} {pos' pos : Pos} {value : Expr} {Q : PF → St → Prop} (h : Wk c PV.Is (eval value c.env) (fun p σ₁ => Put c x p (Q .next) σ₁) σ) (hs : swapsWith value (some (.Name x pos')) pos.line c.env = pure false := by rfl) :
    Wk c PF.Is (exec (.Assign [.Name x pos'] value pos) c.env) Q σ := fun s R =>
  wpAny_Assign_Name (wpAny_mono (h s R) (by rintro v s₁ ⟨p, σ₁, hv, R₁, h₁⟩; exact wpAny_mono (h₁.w (Q := fun _ => Q .next) hv s₁ R₁) (by rintro _ s₂ ⟨_, σ₂, _, R₂, h₂⟩; exact ⟨.next, σ₂, rfl, R₂, h₂⟩) fun _ _ e => e) fun _ _ e => e) hs

/-! lists of expressions -/
theorem l_nil {pos : Pos} {Q : List PV → St → Prop} (h : Q [] σ) : Wk c Are (spliced (backTo pos (starEach [] c.env))) Q σ := fun s R => spliced_none ⟨[], σ, .nil, R, h⟩
theorem l_cons {e : Expr} {rest : List Expr} {pos : Pos} {Q : List PV → St → Prop} (h : Wk c PV.Is (eval e c.env) (fun p σ₁ => Wk c Are (spliced (backTo pos (starEach rest c.env))) (fun ps σ₂ => Q (p :: ps) σ₂) σ₁) σ)
    (he : starEach (e :: rest) c.env = (false, eval e c.env) :: starEach rest c.env := by rfl) : Wk c Are (spliced (backTo pos (starEach (e :: rest) c.env))) Q σ := fun s R =>
  spliced_more (wpAny_mono (h s R) (by rintro v s₁ ⟨p, σ₁, hv, R₁, h₁⟩; exact wpAny_mono (h₁ s₁ R₁) (by rintro vs s₂ ⟨ps, σ₂, hvs, R₂, h₂⟩; exact ⟨p :: ps, σ₂, .cons hv hvs, R₂, h₂⟩) fun _ _ e => e) fun _ _ e => e) he

/-! new objects -/
theorem Rl.push {s : Shared} {o : Obj} {x : AO} {t : Nat} (R : Rl c σ s) (hx : x.Is c.w.params o) (hf : o.isFreed = false) :
    Rl c ⟨σ.loc, (s.heap.objs.size, x) :: σ.led, σ.fz⟩ { heap := s.heap.push o, gens := s.gens, drawn := s.drawn, toks := t, os := s.os } := by
  obtain ⟨m, F, L⟩ := R.fr
  have up : ∀ {a : Addr} {y : AO}, Has c.w.params s.heap a y → Has c.w.params (s.heap.push o) a y := fun ⟨o', ho, hi⟩ => ⟨o', Heap.get?_push_of_some _ ho, hi⟩
  have lt : ∀ {a : Addr} {y : AO}, Has c.w.params s.heap a y → a ≠ s.heap.objs.size := fun ⟨o', ho, _⟩ => Nat.ne_of_lt (Heap.lt_size ho)
  refine ⟨R.ok, R.gens, R.drawn, R.os, ⟨m, F.push o, L⟩, fun p hp => ?_, ?_, fun p hp => ?_, R.sub, fun p hp => ⟨Heap.get?_push_of_some _ (R.rsv p hp).1, (R.rsv p hp).2.1, fun hm => ?_, (R.rsv p hp).2.2.2⟩, fun b hb => ?_, R.ofo.mono fun p hp _ e => Heap.get?_push_of_some _ e, fun p hp => ⟨(R.ofr p hp).1, fun hm => ?_, (R.ofr p hp).2.2⟩⟩
  · rcases List.mem_cons.mp hp with rfl | hp
    · refine ⟨⟨o, Heap.get?_push_size _ hf, hx⟩, Nat.ne_of_gt F.ns.lt, ?_⟩
      cases hq : c.h₀.get? s.heap.objs.size with
      | none => rfl
      | some o' => exact absurd (Heap.lt_size (F.keep _ _ hq)) (Nat.lt_irrefl _)
    · exact ⟨up (R.led p hp).1, (R.led p hp).2⟩
  · refine List.nodup_cons.mpr ⟨fun hm => ?_, R.nod⟩
    obtain ⟨p, hp, e⟩ := List.mem_map.mp hm
    exact lt (R.led p hp).1 e
  · refine ⟨up (R.fz p hp).1, (R.fz p hp).2.1, fun hm => ?_, (R.fz p hp).2.2.2⟩
    rcases List.mem_cons.mp hm with e | hm
    · exact lt (R.fz p hp).1 e
    · exact (R.fz p hp).2.2.1 hm
  · rcases List.mem_cons.mp hm with e | hm
    · exact absurd (Heap.lt_size (R.rsv p hp).1) (e ▸ Nat.lt_irrefl _)
    · exact (R.rsv p hp).2.2.1 hm
  · obtain ⟨h1, h2, h3, h4⟩ := R.exc b hb
    obtain ⟨o', ho⟩ := Option.isSome_iff_exists.mp h1
    refine ⟨by rw [Heap.get?_push_of_some _ ho]; rfl, h2, fun hm => ?_, h4⟩
    rcases List.mem_cons.mp hm with e | hm
    · exact absurd (Heap.lt_size ho) (e ▸ Nat.lt_irrefl _)
    · exact h3 hm
  · obtain ⟨sl, ho⟩ := R.ofo p hp
    rcases List.mem_cons.mp hm with e | hm
    · exact absurd (Heap.lt_size ho) (e ▸ Nat.lt_irrefl _)
    · exact (R.ofr p hp).2.1 hm

theorem w_newList {ps : List PV} {vs : List Value} (hv : Are ps vs) (hz : ps.length ≤ 1000000) (k : ∀ a, Q (.ref a) ⟨σ.loc, (a, .list ps) :: σ.led, σ.fz⟩) : Wk c PV.Is (newList vs) Q σ := fun s R =>
  wpAny_newObj_type ⟨.ref _, _, rfl, R.push (x := .list ps) ⟨vs, 0, hv, rfl⟩ rfl, k _⟩ (by show vs.toArray.size ≤ sizeLine; rw [List.size_toArray, hv.length, sizeLine_eq]; omega)
theorem w_newTuple {ps : List PV} {vs : List Value} (hv : Are ps vs) (hz : ps.length ≤ 1000000) (k : ∀ a, Q (.ref a) ⟨σ.loc, (a, .tuple ps) :: σ.led, σ.fz⟩) : Wk c PV.Is (newTuple vs) Q σ := fun s R =>
  wpAny_newObj_type ⟨.ref _, _, rfl, R.push (x := .tuple ps) ⟨vs, 0, hv, rfl⟩ rfl, k _⟩ (by show vs.toArray.size ≤ sizeLine; rw [List.size_toArray, hv.length, sizeLine_eq]; omega)
theorem w_list {elts : List Expr} {pos : Pos} (h : Wk c Are (spliced (backTo pos (starEach elts c.env))) (fun ps σ₁ => ps.length ≤ 1000000 ∧ ∀ a, Q (.ref a) ⟨σ₁.loc, (a, .list ps) :: σ₁.led, σ₁.fz⟩) σ) : Wk c PV.Is (eval (.List elts pos) c.env) Q σ := fun s R =>
  List_ (wpAny_mono (h s R) (by rintro vs s₁ ⟨ps, σ₁, hv, R₁, h₁⟩; exact w_newList hv h₁.1 h₁.2 s₁ R₁) fun _ _ e => e)
theorem w_tuple {elts : List Expr} {n : Nat} {pos : Pos} (h : Wk c Are (spliced (backTo pos (starEach elts c.env))) (fun ps σ₁ => ps.length ≤ 1000000 ∧ ∀ a, Q (.ref a) ⟨σ₁.loc, (a, .tuple ps) :: σ₁.led, σ₁.fz⟩) σ) : Wk c PV.Is (eval (.Tuple elts n pos) c.env) Q σ := fun s R =>
  Tuple_ (wpAny_mono (h s R) (by rintro vs s₁ ⟨ps, σ₁, hv, R₁, h₁⟩; exact w_newTuple hv h₁.1 h₁.2 s₁ R₁) fun _ _ e => e)
end
end
section
set_option maxRecDepth 100000
set_option linter.unusedVariables false

noncomputable abbrev Adr (l : List (Addr × AO)) : List Addr := l.map (·.1)

/-- the places of the frames under way -/
noncomputable def frA (A : Around) : List Addr := (A.frames.getD []).filterMap (·.frame)
theorem frA_of {A : Around} {l : List Env} (h : A.frames = some l) : frA A = l.filterMap (·.frame) := by unfold frA; rw [h]; rfl

structure Back (P : Params) (A : Around) (s : Shared) (mu fz : List (Addr × AO)) (s' : Shared) (mu' fz' : List (Addr × AO)) : Prop where
  gens : s'.gens = s.gens
  drawn : s'.drawn = s.drawn
  os : s'.os = s.os
  kept : (hideAll s.heap (Adr mu ++ frA A)).StaysIn s'.heap
  ups : ∀ b ∈ frA A, ∀ o, s.heap.get? b = some o → ∃ sl, s'.heap.get? b = some { o with slots := sl }
  led : ∀ p ∈ mu', Has P s'.heap p.1 p.2 ∧ (p.1 ∈ Adr mu ∨ s.heap.get? p.1 = none)
  nod : (Adr mu').Nodup
  sub : ∀ p ∈ fz, p ∈ fz'
  fz : ∀ p ∈ fz', Has P s'.heap p.1 p.2 ∧ p.1 ∉ Adr mu' ∧ (p ∈ fz ∨ p.1 ∈ Adr mu ∨ s.heap.get? p.1 = none)

/-- an exception of the class C is under way, all of g stands (but the frames' places) -/
noncomputable def Flown (A : Around) (g : Heap) (s : Shared) (C e : Addr) (s' : Shared) : Prop :=
  s'.gens = s.gens ∧ s'.drawn = s.drawn ∧ s'.os = s.os ∧ ∃ l a0, A.frames = some l ∧ Heap.FlyingW (hideAll g (l.filterMap (·.frame))) l e (.ref C) a0 s'.heap ∧ g.UpToSlots s'.heap

/-- what a call of the def at f does: it ends, hands back a value, and changes the ledger so; or it raises a class of Exc -/
noncomputable def SpecX (K : Params → Frag) (prog : Program) (w : World) (n : Nat) (f : Addr) (args : List PV) (mu fz : List (Addr × AO)) (Post : PV → List (Addr × AO) → List (Addr × AO) → Prop) (Exc : Addr → Prop) : Prop :=
  ∀ (A : Around) (s : Shared) (vs : List Value) (R : Result → Shared → Prop), A.handled = none → A.depth + 2 * n < 898 → A.units + 20 * n < 5980 →
    (∃ base fr, Below A base fr (hideAll s.heap (Adr mu))) → Sta (K w.params) (hideAll s.heap (Adr mu ++ frA A)) → Are args vs →
    (∀ p ∈ mu, Has w.params s.heap p.1 p.2) → (Adr mu).Nodup → (∀ p ∈ fz, Has w.params s.heap p.1 p.2 ∧ p.1 ∉ Adr mu ∧ p.1 ∉ frA A) →
    (∀ v s' p mu' fz', PV.Is p v → Back w.params A s mu fz s' mu' fz' → Post p mu' fz' → R (.ok (.ret v)) s') →
    (∀ C e s', Exc C → Flown A (hideAll s.heap (Adr mu)) s C e s' → R (.error (.ref e)) s') →
    codeAny (model prog w) A (.call (.ref f) ⟨vs, []⟩) R s
noncomputable abbrev NoExc : Addr → Prop := fun _ => False
noncomputable abbrev Spec (K : Params → Frag) (prog : Program) (w : World) (n : Nat) (f : Addr) (args : List PV) (mu fz : List (Addr × AO)) (Post : PV → List (Addr × AO) → List (Addr × AO) → Prop) : Prop := SpecX K prog w n f args mu fz Post NoExc

/-- what is raised here is taken -/
noncomputable def AccFly (c : Cx) (H : Addr → St → Prop) : Prop := ∀ C σ s e s', H C σ → Rl c σ s → Flown c.A s.heap s C e s' → c.E (.ref e) s'
noncomputable def AccNew (c : Cx) (H : Addr → St → Prop) : Prop := ∀ C σ s e d, H C σ → Rl c σ s → (e, AO.exc C d) ∈ σ.led → c.E (.ref e) s

theorem Rl.frs {c : Cx} {σ : St} {s : Shared} (R : Rl c σ s) {b : Addr} (hb : b ∈ frA c.A) : b = c.env.locals ∨ b ∈ c.ofr.map (·.1) := by
  obtain ⟨base, fr, hfr, hin, _⟩ := R.ok.below
  rw [frA_of hfr] at hb
  exact hin b hb
theorem Rl.notFr {c : Cx} {σ : St} {s : Shared} (R : Rl c σ s) {a : Addr} (h1 : a ≠ c.env.locals) (h2 : a ∉ c.ofr.map (·.1)) : a ∉ frA c.A := fun hm => (R.frs hm).elim h1 h2
theorem Rl.ledFr {c : Cx} {σ : St} {s : Shared} (R : Rl c σ s) {p : Addr × AO} (hp : p ∈ σ.led) : p.1 ∉ c.ofr.map (·.1) := fun hm => by
  obtain ⟨z, hz, e⟩ := List.mem_map.mp hm
  exact (R.ofr z hz).2.1 (e ▸ List.mem_map_of_mem hp)
theorem Rl.fzFr {c : Cx} {σ : St} {s : Shared} (R : Rl c σ s) {p : Addr × AO} (hp : p ∈ σ.fz) : p.1 ∉ c.ofr.map (·.1) := fun hm => by
  obtain ⟨z, hz, e⟩ := List.mem_map.mp hm
  exact (R.ofr z hz).2.2 (e ▸ List.mem_map_of_mem hp)
theorem Rl.ofrSome {c : Cx} {σ : St} {s : Shared} (R : Rl c σ s) {a : Addr} (h : a ∈ c.ofr.map (·.1)) : ∃ o, s.heap.get? a = some o := by
  obtain ⟨z, hz, rfl⟩ := List.mem_map.mp h
  obtain ⟨sl, ho⟩ := R.ofo z hz
  exact ⟨_, ho⟩
/-- what is kept ahead of the call's place is none of the frames -/
theorem Rl.h0Fr {c : Cx} {σ : St} {s : Shared} (R : Rl c σ s) {b : Addr} {o : Obj} (e : c.h₀.get? b = some o) : b ∉ frA c.A := by
  obtain ⟨m, F, _⟩ := R.fr
  refine R.notFr (fun q => ?_) fun hm => ?_
  · subst q; exact absurd (Heap.lt_size e) (Nat.not_lt.mpr F.above)
  · obtain ⟨z, hz, q⟩ := List.mem_map.mp hm
    rw [← q, (R.ok.ofn z hz).1] at e; cases e
theorem funFrames_on {h g base : Heap} : ∀ {l : List Env}, h.FunFrames base l → (∀ b ∈ l.filterMap (·.frame), ∀ o, h.get? b = some o → ∃ o', g.get? b = some o' ∧ o'.data = o.data) → g.FunFrames base l
  | [], _, _ => trivial
  | env :: r, ⟨hk, ⟨L, o, hf, hn, ho, hd⟩, hr⟩, k => by
    have hL : L ∈ (env :: r).filterMap (·.frame) := List.mem_filterMap.mpr ⟨env, .head _, hf⟩
    obtain ⟨o', ho', hd'⟩ := k L hL o ho
    exact ⟨hk, ⟨L, o', hf, hn, ho', fun vs => hd' ▸ hd vs⟩, funFrames_on hr fun b hb => k b (by
      obtain ⟨z, hz, e⟩ := List.mem_filterMap.mp hb
      exact List.mem_filterMap.mpr ⟨z, .tail _ hz, e⟩)⟩

theorem lookup_rev {xs : List Str} {vs : List Value} : ∀ {i : Nat} {x : Str} {v : Value}, xs.Nodup → xs[i]? = some x → vs[i]? = some v → ((xs.zip vs).reverse).lookup x = some v := by
  induction xs generalizing vs with
  | nil => intro i x v _ h; simp at h
  | cons y ys ih =>
    intro i x v hn hx hv
    cases vs with
    | nil => simp at hv
    | cons u us =>
      rw [List.zip_cons_cons, List.reverse_cons]
      have hn' := List.nodup_cons.mp hn
      cases i with
      | zero =>
        simp at hx hv; subst hx; subst hv
        have : ((ys.zip us).reverse).lookup y = none := by
          rw [List.lookup_eq_none_iff]
          intro p hp
          have hm : p.1 ∈ ys := (List.of_mem_zip (List.mem_reverse.mp hp)).1
          simp only [beq_eq_false_iff_ne, ne_eq, bne_iff_ne]
          intro e; exact hn'.1 (e ▸ hm)
        rw [List.lookup_append, this]; simp
      | succ i =>
        rw [List.lookup_append, ih hn'.2 (by simpa using hx) (by simpa using hv)]; rfl

theorem Locs.binds {xs ys : List Str} {ps : List PV} {vs : List Value} {k : Nat} (hn : (xs ++ ys).Nodup) (h : Are ps vs) (hl : xs.length = ps.length) (hk : k = ys.length) :
    Locs (xs ++ ys) (ps.map some ++ List.replicate k none) (fun y => ((xs.zip vs).reverse).lookup y) := by
  refine ⟨by simp; omega, fun i x p hx hp => ?_⟩
  by_cases hi : i < ps.length
  · rw [List.getElem?_append_left (by simpa using hi)] at hp
    rw [List.getElem?_append_left (by omega)] at hx
    have hp' : ps[i]? = some p := by simpa using hp
    obtain ⟨v, hv, hpv⟩ := h.get hp'
    exact ⟨v, lookup_rev (List.nodup_append.mp hn).1 hx hv, hpv⟩
  · rw [List.getElem?_append_right (by simpa using hi)] at hp
    simp [List.getElem?_replicate] at hp

inductive Rem : List (Addr × AO) → Addr × AO → List (Addr × AO) → Prop where
  | head {x l} : Rem (x :: l) x l
  | tail {x y l l'} : Rem l x l' → Rem (y :: l) x (y :: l')
inductive Take : List (Addr × AO) → List (Addr × AO) → List (Addr × AO) → Prop where
  | nil {l} : Take l [] l
  | cons {l x l₁ mu rest} : Rem l x l₁ → Take l₁ mu rest → Take l (x :: mu) rest
theorem Rem.perm {l x l'} (h : Rem l x l') : l.Perm (x :: l') := by
  induction h with
  | head => exact .refl _
  | tail _ ih => exact (ih.cons _).trans (.swap _ _ _)
theorem Take.perm {l mu rest} (h : Take l mu rest) : l.Perm (mu ++ rest) := by
  induction h with
  | nil => exact .refl _
  | cons hr _ ih => exact hr.perm.trans (ih.cons _)


/-- the end of a def: what of the ledger is handed back, what is frozen, what is let go -/
noncomputable def Fin (Post : PV → List (Addr × AO) → List (Addr × AO) → Prop) (p : PV) (σ : St) : Prop := ∃ mu' rem fr rest, Take σ.led mu' rem ∧ Take rem fr rest ∧ Post p mu' (fr ++ σ.fz)

theorem Rl.conv {c : Cx} {σ : St} {s : Shared} {mu' rem fr rest : List (Addr × AO)} (R : Rl c σ s) (h1 : Take σ.led mu' rem) (h2 : Take rem fr rest) : Rl c ⟨σ.loc, mu', fr ++ σ.fz⟩ s := by
  have pm : σ.led.Perm (mu' ++ (fr ++ rest)) := h1.perm.trans (h2.perm.append_left _)
  have nd : (Adr (mu' ++ (fr ++ rest))).Nodup := (pm.map (·.1)).nodup_iff.mp R.nod
  rw [Adr, List.map_append, List.map_append] at nd
  obtain ⟨n1, n2, n3⟩ := List.nodup_append.mp nd
  have inL : ∀ {q}, q ∈ mu' → q ∈ σ.led := fun h => pm.mem_iff.mpr (List.mem_append_left _ h)
  have inF : ∀ {q}, q ∈ fr → q ∈ σ.led := fun h => pm.mem_iff.mpr (List.mem_append_right _ (List.mem_append_left _ h))
  refine ⟨R.ok, R.gens, R.drawn, R.os, R.fr, fun p hp => R.led p (inL hp), n1, fun p hp => ?_, fun p hp => List.mem_append_right _ (R.sub p hp), fun p hp => ⟨(R.rsv p hp).1, (R.rsv p hp).2.1, fun hm => (R.rsv p hp).2.2.1 ?_, (R.rsv p hp).2.2.2⟩, fun b hb => ?_, R.ofo, fun p hp => ⟨(R.ofr p hp).1, fun hm => (R.ofr p hp).2.1 ?_, fun hm => ?_⟩⟩
  rcases List.mem_append.mp hp with hp | hp
  · exact ⟨(R.led p (inF hp)).1, (R.led p (inF hp)).2.1, fun hm => n3 p.1 hm p.1 (List.mem_append_left _ (List.mem_map_of_mem hp)) rfl, .inr (R.led p (inF hp)).2.2⟩
  · obtain ⟨a, b, d, e⟩ := R.fz p hp
    refine ⟨a, b, fun hm => d ?_, e⟩
    obtain ⟨q, hq, e⟩ := List.mem_map.mp hm
    exact List.mem_map.mpr ⟨q, inL hq, e⟩
  · obtain ⟨q, hq, e⟩ := List.mem_map.mp hm
    exact List.mem_map.mpr ⟨q, inL hq, e⟩
  · obtain ⟨h1, h2, h3, h4⟩ := R.exc b hb
    refine ⟨h1, h2, fun hm => h3 ?_, fun hm => ?_⟩
    · obtain ⟨q, hq, e⟩ := List.mem_map.mp hm
      exact List.mem_map.mpr ⟨q, inL hq, e⟩
    · rw [List.map_append] at hm
      rcases List.mem_append.mp hm with hm | hm
      · obtain ⟨q, hq, e⟩ := List.mem_map.mp hm
        exact h3 (List.mem_map.mpr ⟨q, inF hq, e⟩)
      · exact h4 hm
  · obtain ⟨q, hq, e⟩ := List.mem_map.mp hm
    exact List.mem_map.mpr ⟨q, inL hq, e⟩
  · rw [List.map_append] at hm
    rcases List.mem_append.mp hm with hm | hm
    · obtain ⟨q, hq, e⟩ := List.mem_map.mp hm
      exact (R.ofr p hp).2.1 (List.mem_map.mpr ⟨q, inF hq, e⟩)
    · exact (R.ofr p hp).2.2 hm
theorem Wk.conv {α β : Type} {c : Cx} {σ : St} {is : β → α → Prop} {t : Sem α} {Q : β → St → Prop} {mu' rem fr rest : List (Addr × AO)} (h1 : Take σ.led mu' rem) (h2 : Take rem fr rest) (k : Wk c is t Q ⟨σ.loc, mu', fr ++ σ.fz⟩) : Wk c is t Q σ :=
  fun s R => k s (R.conv h1 h2)

/-- the data of a def -/
structure Fn (K : Params → Frag) (f : Addr) (qual : Str) (ps ls : List Str) (body : List Stmt) (scope : Scope) (gl : List (Str × PV)) (df : List PV := []) : Prop where
  at_ : ∃ oc od osl name params dV kV doc pm an cdv ct, ∀ P, (K P).lookup f = some ⟨oc, od, .func (fnX name qual params body scope [] dV kV doc pm an cdv ct), osl⟩ ∧ codeIn (K P) cdv qual = true ∧
    ∀ (s : Shared) vs, (K P).In s.heap → vs.length + df.length = ps.length → ∃ us, Are df us ∧ BindsTo s (fnX name qual params body scope [] dV kV doc pm an cdv ct) ⟨vs, []⟩ (ps.zip (vs ++ us))
  nod : (ps ++ ls).Nodup
  loc : ((ps ++ ls).all fun x => scope.names.lookup x == some .local && !(x == ("__debug__" : Str))) = true
  glk : (gl.all fun p => scope.names.lookup p.1 == some .globalImplicit && !(p.1 == ("__debug__" : Str))) = true
  glv : ∀ p ∈ gl, Glo K p.1 p.2
  cell : (scope.names.all fun x => x.2 != .cell) = true
  kind : scope.kind = .function
  co : scope.isCoroutine = false
  gen : scope.isGenerator = false

theorem Fn.of {K : Params → Frag} {f : Addr} {qual : Str} {ps ls : List Str} {body : List Stmt} {scope : Scope} {gl : List (Str × PV)} {df : List PV} {oc : Value} {od : Option Addr} {osl : Array (Option Value)} {name : Str} {params : Arguments} {dV kV doc pm cdv ct : Value} {an : Option Addr}
    (h1 : ∀ P, (K P).lookup f = some ⟨oc, od, .func (fnX name qual params body scope [] dV kV doc pm an cdv ct), osl⟩) (h2 : ∀ P, codeIn (K P) cdv qual = true)
    (h3 : ∀ P (s : Shared) vs, (K P).In s.heap → vs.length + df.length = ps.length → ∃ us, Are df us ∧ BindsTo s (fnX name qual params body scope [] dV kV doc pm an cdv ct) ⟨vs, []⟩ (ps.zip (vs ++ us)))
    (nod : (ps ++ ls).Nodup) (loc : ((ps ++ ls).all fun x => scope.names.lookup x == some .local && !(x == ("__debug__" : Str))) = true)
    (glk : (gl.all fun p => scope.names.lookup p.1 == some .globalImplicit && !(p.1 == ("__debug__" : Str))) = true) (glv : ∀ p ∈ gl, Glo K p.1 p.2)
    (cell : (scope.names.all fun x => x.2 != .cell) = true) (kind : scope.kind = .function) (co : scope.isCoroutine = false) (gen : scope.isGenerator = false) : Fn K f qual ps ls body scope gl df :=
  ⟨⟨oc, od, osl, name, params, dV, kV, doc, pm, an, cdv, ct, fun P => ⟨h1 P, h2 P, h3 P⟩⟩, nod, loc, glk, glv, cell, kind, co, gen⟩

theorem enterX {K : Params → Frag} {prog : Program} {w : World} {n : Nat} {f : Addr} {qual : Str} {ps ls : List Str} {body : List Stmt} {scope : Scope} {gl : List (Str × PV)} {df : List PV} {args : List PV} {mu fz : List (Addr × AO)} {Post : PV → List (Addr × AO) → List (Addr × AO) → Prop} {Exc : Addr → Prop}
    (D : Fn K f qual ps ls body scope gl df) (hl : ps.length = (args ++ df).length)
    (h : ∀ c : Cx, c.K = K → c.n = n → c.prog = prog → c.w = w → c.names = ps ++ ls → c.gl = gl → c.cl = [] → c.env.scope = scope → c.fz₀ = fz → c.rsv = [] → c.exc = [] → (c.env.frame = some c.env.locals ∧ ∃ outer, c.A.frames = some (c.env :: outer)) → AccFly c (fun C _ => Exc C) → AccNew c (fun C _ => Exc C) →
      Wk c PF.Is (execs body c.env) (fun pf σ => Fin Post (match pf with | .ret p => p | _ => .none) σ) ⟨(args ++ df).map some ++ List.replicate ls.length none, mu, fz⟩) : SpecX K prog w n f args mu fz Post Exc := by
  intro A s vs R hh hd hu hB hS ha hmut hnod hfz hR hX
  obtain ⟨base, fr, B⟩ := hB
  obtain ⟨oc, od, osl, name, params, dV, kV, doc, pm, an, cdv, ct, hf⟩ := D.at_
  obtain ⟨ho, hcd, hbind⟩ := hf w.params
  have hvl : vs.length + df.length = ps.length := by rw [ha.length, hl, List.length_append]
  have hfrA : frA A = fr.filterMap (·.frame) := frA_of B.stack
  have hg : (hideAll s.heap (Adr mu ++ frA A)).StaysIn s.heap := fun b o e => of_hideAll _ e
  have hloc : ∀ x ∈ ps ++ ls, scope.names.lookup x = some .local ∧ (x == ("__debug__" : Str)) = false := fun x hx => by
    have := List.all_eq_true.mp D.loc x hx
    simp only [Bool.and_eq_true, beq_iff_eq, Bool.not_eq_true'] at this
    exact this
  obtain ⟨us, hus, hbind⟩ := hbind s vs (hS.kin.keeps fun b o e => of_hideAll _ e) hvl
  refine codeAny_call_def (fd := fnX name qual params body scope [] dV kV doc pm an cdv ct) (body := body) (binds := ps.zip (vs ++ us)) (by unfold recursionLimit; omega) (hg _ _ (hS.kin _ _ ho)) rfl (hS.nolimit.keeps hg) (codeRec_of (hS.kin.keeps hg) hcd) rfl
    hbind (fun x hx => ?_) (fun y hy => (hloc y.1 (List.mem_append_left _ (List.of_mem_zip hy).1)).1) (fun h₁ hns hk₁ => ?_) D.co D.gen D.kind
  · have := List.all_eq_true.mp D.cell x hx
    simpa using this
  let env := envX qual scope s.heap.objs.size f cdv []
  let E : Value → Shared → Prop := fun e s' => wpAny (model prog w) (A.deeper env) (leaving env e) (fun _ s'' => R (.error e) s'') (fun e' s'' => R (.error e') s'') s'
  let ofr : List (Addr × Obj) := (frA A).filterMap fun b => (s.heap.get? b).map fun o => (b, o)
  let c : Cx := ⟨K, n, prog, w, A.deeper env, env, hideAll s.heap (Adr mu ++ frA A), s, E, ps ++ ls, gl, [], fz, [], [], ofr⟩
  have inFr : ∀ {b : Addr}, b ∈ frA A → base.get? b = none ∧ b ∉ Adr mu ∧ ∃ o, s.heap.get? b = some o ∧ (∀ vs, o.data ≠ .fields vs) ∧ (b, o) ∈ ofr := fun {b} hb => by
    rw [hfrA] at hb
    obtain ⟨h1, o, h2, h3⟩ := B.frames.mem hb
    refine ⟨h1, fun hm => ?_, o, of_hideAll _ h2, h3, List.mem_filterMap.mpr ⟨b, hfrA ▸ hb, by rw [of_hideAll _ h2]; rfl⟩⟩
    rw [hideAll_none _ hm] at h2; cases h2
  have ofIn : ∀ {p : Addr × Obj}, p ∈ ofr → p.1 ∈ frA A ∧ s.heap.get? p.1 = some p.2 := fun {p} hp => by
    obtain ⟨b, hb, e⟩ := List.mem_filterMap.mp hp
    obtain ⟨o, ho, rfl⟩ := Option.map_eq_some_iff.mp e
    exact ⟨hb, ho⟩
  have ofMap : ∀ {b : Addr}, b ∈ frA A → b ∈ ofr.map (·.1) := fun {b} hb => let ⟨_, _, o, _, _, h⟩ := inFr hb; List.mem_map.mpr ⟨(b, o), h, rfl⟩
  have st₁ : (hideAll s.heap (Adr mu ++ frA A)).StaysIn h₁ := fun b o e => hk₁ b o (hg b o e)
  have hfresh : ∀ {a : Addr} {x : AO}, Has w.params s.heap a x → a ≠ s.heap.objs.size := fun ⟨o, e, _⟩ => Nat.ne_of_lt (Heap.lt_size e)
  have ok : Ok c := by
    refine ⟨hS, hh, D.kind, D.nod, fun x hx => (hloc x hx).2, fun x hx => (hloc x hx).1, fun p hp => ⟨D.glv p hp, ?_⟩, rfl, rfl, fun p hp => (nomatch hp), ?_, ?_, fun p hp => ?_, ?_⟩
    · have := List.all_eq_true.mp D.glk p hp
      simp only [Bool.and_eq_true, beq_iff_eq, Bool.not_eq_true'] at this
      exact this
    · show A.depth + 1 + 2 * n < 900; omega
    · show A.units + 3 + 20 * n < 6000; omega
    · obtain ⟨h1, h2⟩ := ofIn hp
      refine ⟨hideAll_none _ (List.mem_append_right _ h1), ?_⟩
      obtain ⟨_, _, o, h3, h4, _⟩ := inFr h1
      rw [h2] at h3; cases h3
      exact h4
    · refine ⟨base, env :: fr, Around.frames_deeper B.stack, fun b hb => ?_, fun g m sg ns og => ⟨fun b o q => sg b o ?_, ?_⟩⟩
      · obtain ⟨z, hz, e⟩ := List.mem_filterMap.mp hb
        rcases List.mem_cons.mp hz with rfl | hz
        · exact .inl (Option.some.inj e).symm
        · exact .inr (ofMap (hfrA ▸ List.mem_filterMap.mpr ⟨z, hz, e⟩))
      · have q' := B.stays b o q
        refine hideAll_get _ (of_hideAll _ q') fun hm => ?_
        rcases List.mem_append.mp hm with hm | hm
        · rw [hideAll_none _ hm] at q'; cases q'
        · rw [(inFr hm).1] at q; cases q
      · obtain ⟨oL, es, ep, hL, hLd, r⟩ := ns
        refine ⟨by show scope.kind ≠ _; rw [D.kind]; decide, ⟨s.heap.objs.size, oL, rfl, ?_, hL, fun vs q => by rw [hLd] at q; cases q⟩, funFrames_on B.frames fun b hb o hbo => ?_⟩
        · cases q : base.get? s.heap.objs.size with
          | none => rfl
          | some o => exact absurd (Heap.lt_size (of_hideAll _ (B.stays _ _ q))) (Nat.lt_irrefl _)
        · obtain ⟨_, _, o', h1, _, h2⟩ := inFr (hfrA ▸ hb)
          rw [of_hideAll _ hbo] at h1; cases h1
          obtain ⟨sl, hs⟩ := og _ h2
          exact ⟨_, hs, rfl⟩
  have up : ∀ {a : Addr} {x : AO}, Has w.params s.heap a x → Has w.params h₁ a x := fun ⟨o, e, hi⟩ => ⟨o, hk₁ _ _ e, hi⟩
  have R₀ : Rl c ⟨(args ++ df).map some ++ List.replicate ls.length none, mu, fz⟩ { s with heap := h₁, toks := s.toks + (ps.zip (vs ++ us)).length } :=
    ⟨ok, rfl, rfl, rfl, ⟨_, ⟨hns, st₁, Nat.le_of_eq (hideAll_size _ _)⟩, Locs.binds D.nod (ha.append hus) hl rfl⟩,
     fun p hp => ⟨up (hmut p hp), hfresh (hmut p hp), hideAll_none _ (List.mem_append_left _ (List.mem_map_of_mem hp))⟩, hnod,
     fun p hp => ⟨up (hfz p hp).1, hfresh (hfz p hp).1, (hfz p hp).2.1, .inl hp⟩, fun _ hp => hp, fun _ hp => (nomatch hp), fun _ hp => (nomatch hp), fun p hp => ⟨p.2.slots, hk₁ _ _ (ofIn hp).2⟩,
     fun p hp => ⟨Nat.ne_of_lt (Heap.lt_size (ofIn hp).2), (inFr (ofIn hp).1).2.1, fun hm => by
       obtain ⟨z, hz, e⟩ := List.mem_map.mp hm
       exact (hfz z hz).2.2 (e ▸ (ofIn hp).1)⟩⟩
  have hsome : ∀ {a : Addr}, (hideAll s.heap (Adr mu ++ frA A)).get? a = none → a ∈ Adr mu ∨ a ∈ frA A ∨ s.heap.get? a = none := fun {a} e => by
    by_cases hm : a ∈ Adr mu ++ frA A
    · exact (List.mem_append.mp hm).imp id .inl
    · cases q : s.heap.get? a with
      | none => exact .inr (.inr rfl)
      | some o => rw [hideAll_get _ q hm] at e; cases e
  -- from the place's start to a state of its own, but for the frames
  have ups : ∀ {σ : St} {s₁ : Shared}, Rl c σ s₁ → (hideAll s.heap (Adr mu)).UpToSlots s₁.heap := fun {σ s₁} R₁ b o q hn => by
    obtain ⟨m, F, _⟩ := R₁.fr
    by_cases hb : b ∈ frA A
    · obtain ⟨_, _, o', h1, _, h2⟩ := inFr hb
      rw [of_hideAll _ q] at h1; cases h1
      exact R₁.ofo _ h2
    · refine ⟨o.slots, F.keep b o (hideAll_get _ (of_hideAll _ q) fun hm => ?_)⟩
      rcases List.mem_append.mp hm with hm | hm
      · rw [hideAll_none _ hm] at q; cases q
      · exact hb hm
  have onto : ∀ {σ : St} {s₁ : Shared} {as : List Addr}, Rl c σ s₁ → (∀ b ∈ as, b = s.heap.objs.size ∨ b ∈ frA A ∨ c.h₀.get? b = none) → (hideAll (hideAll s.heap (Adr mu)) (fr.filterMap (·.frame))).StaysIn (hideAll s₁.heap as) := fun {σ s₁ as} R₁ has b o q => by
    obtain ⟨m, F, _⟩ := R₁.fr
    have q1 := of_hideAll _ q
    have nf : b ∉ frA A := fun hm => by rw [hideAll_none _ (hfrA ▸ hm)] at q; cases q
    have q2 : c.h₀.get? b = some o := hideAll_get _ (of_hideAll _ q1) fun hm => by
      rcases List.mem_append.mp hm with hm | hm
      · rw [hideAll_none _ hm] at q1; cases q1
      · exact nf hm
    refine hideAll_get _ (F.keep b o q2) fun hm => ?_
    rcases has b hm with e | e | e
    · subst e; exact absurd (Heap.lt_size (of_hideAll _ q1)) (Nat.lt_irrefl _)
    · exact nf e
    · rw [q2] at e; cases e
  have fly : AccFly c (fun C _ => Exc C) := fun C σ s₁ e s' hC R₁ hF => by
    obtain ⟨z1, z2, z3, l, a0, hl, hfl, hup⟩ := hF
    rw [show c.A.frames = some (env :: fr) from Around.frames_deeper B.stack] at hl
    cases hl
    show wpAny _ _ _ _ _ _
    refine wpAny_leaves_onW (Around.frames_deeper B.stack) (L := s.heap.objs.size) rfl hfl fun h' x1 x2 => ?_
    refine hX C e _ hC ⟨z1.trans R₁.gens, z2.trans R₁.drawn, z3.trans R₁.os, fr, a0, B.stack, flyingW_base (onto R₁ fun b hb => ?_) x1, (ups R₁).trans (hup.trans x2)⟩
    obtain ⟨z, hz, hz'⟩ := List.mem_filterMap.mp hb
    rcases List.mem_cons.mp hz with rfl | hz
    · exact .inl (Option.some.inj hz').symm
    · exact .inr (.inl (hfrA ▸ List.mem_filterMap.mpr ⟨z, hz, hz'⟩))
  have new : AccNew c (fun C _ => Exc C) := fun C σ s₁ e d hC R₁ he => by
    obtain ⟨⟨oe, hoe, a0, rfl⟩, hel, he0⟩ := R₁.led _ he
    obtain ⟨m, F, _⟩ := R₁.fr
    obtain ⟨base', fr', hfr', _, hbl⟩ := R₁.ok.below
    rw [show c.A.frames = some (env :: fr) from Around.frames_deeper B.stack] at hfr'
    cases hfr'
    have ff := (hbl s₁.heap m F.keep F.ns R₁.ofo).2
    have hin : ∀ ev ∈ (env :: fr), ∀ b, ev.frame = some b → b ∈ e :: (env :: fr).filterMap (·.frame) := fun ev he' b hb => List.mem_cons_of_mem _ (List.mem_filterMap.mpr ⟨ev, he', hb⟩)
    show wpAny _ _ _ _ _ _
    refine wpAny_leaving_firstW (base := hideAll s₁.heap (e :: (env :: fr).filterMap (·.frame))) (a0 := a0) (Around.frames_deeper B.stack) (funFrames_hide ff hin) (L := s.heap.objs.size) rfl hoe (fun b o q => of_hideAll _ q) (hideAll_none _ (List.mem_cons_self ..)) rfl rfl rfl fun h' hL => ?_
    obtain ⟨k1, ⟨_, _, k2⟩, k3, k4⟩ := hL
    refine hX C e _ hC ⟨R₁.gens, R₁.drawn, R₁.os, fr, a0, B.stack, flyingW_base (onto R₁ fun b hb => ?_) (⟨k1, hideAll_none _ (List.mem_cons_self ..), k2, k3⟩ : Heap.FlyingW _ fr e (.ref C) a0 h'), (ups R₁).trans k4⟩
    rcases List.mem_cons.mp hb with rfl | hb
    · exact .inr (.inr he0)
    obtain ⟨z, hz, hz'⟩ := List.mem_filterMap.mp hb
    rcases List.mem_cons.mp hz with rfl | hz
    · exact .inl (Option.some.inj hz').symm
    · exact .inr (.inl (hfrA ▸ List.mem_filterMap.mpr ⟨z, hz, hz'⟩))
  refine wpAny_mono (h c rfl rfl rfl rfl rfl rfl rfl rfl rfl rfl rfl ⟨rfl, fr, Around.frames_deeper B.stack⟩ fly new _ R₀) (fun f s' hpat => ?_) fun _ _ e => e
  obtain ⟨pf, σ', hf, R', hq⟩ := hpat
  obtain ⟨mu', rem, fr', rest, t1, t2, hq⟩ := hq
  have R'' := R'.conv t1 t2
  obtain ⟨m, F, L⟩ := R''.fr
  have back : Back w.params A s mu fz s' mu' (fr' ++ σ'.fz) := ⟨R''.gens, R''.drawn, R''.os, F.keep, fun b hb o hbo => by
      obtain ⟨_, _, o', h1, _, h2⟩ := inFr hb
      rw [hbo] at h1; cases h1
      exact R''.ofo _ h2,
    fun p hp => ⟨(R''.led p hp).1, (hsome (R''.led p hp).2.2).imp id fun e => e.elim (fun e => (R''.ledFr hp (ofMap e)).elim) id⟩, R''.nod, R''.sub,
    fun p hp => ⟨(R''.fz p hp).1, (R''.fz p hp).2.2.1, (R''.fz p hp).2.2.2.imp id fun e => (hsome e).imp id fun e => e.elim (fun e => (R''.fzFr hp (ofMap e)).elim) id⟩⟩
  cases pf with
  | ret p => obtain ⟨v, rfl, hv⟩ := hf; exact hR v s' p _ _ hv back hq
  | next => cases hf; exact hR .none s' .none _ _ rfl back hq
  | brk => cases hf; exact hR .none s' .none _ _ rfl back hq
  | cont => cases hf; exact hR .none s' .none _ _ rfl back hq

theorem enter {K : Params → Frag} {prog : Program} {w : World} {n : Nat} {f : Addr} {qual : Str} {ps ls : List Str} {body : List Stmt} {scope : Scope} {gl : List (Str × PV)} {df : List PV} {args : List PV} {mu fz : List (Addr × AO)} {Post : PV → List (Addr × AO) → List (Addr × AO) → Prop}
    (D : Fn K f qual ps ls body scope gl df) (hl : ps.length = (args ++ df).length)
    (h : ∀ c : Cx, c.K = K → c.n = n → c.prog = prog → c.w = w → c.names = ps ++ ls → c.gl = gl → c.cl = [] → c.env.scope = scope → c.fz₀ = fz →
      Wk c PF.Is (execs body c.env) (fun pf σ => Fin Post (match pf with | .ret p => p | _ => .none) σ) ⟨(args ++ df).map some ++ List.replicate ls.length none, mu, fz⟩) : Spec K prog w n f args mu fz Post :=
  enterX D hl fun c h1 h2 h3 h4 h5 h6 h7 h8 h9 _ _ _ _ _ => h c h1 h2 h3 h4 h5 h6 h7 h8 h9

/-- what may be called by the plain form -/
noncomputable def KeepOK (K : Frag) : PV → Prop
  | .builtin _ => True
  | .type _ => True
  | .ref a => keepIn K (.ref a) = true
  | _ => False

noncomputable def WCall (c : Cx) (pf : PV) (ps : List PV) (Q : PV → St → Prop) (σ : St) : Prop := ∀ f vs, pf.Is f → Are ps vs → Wk c PV.Is (PySem.call f vs []) Q σ

section
variable {c : Cx} {σ : St} {Q : PV → St → Prop}

theorem Rl.K {s : Shared} (R : Rl c σ s) : (c.K c.w.params).In s.heap := let ⟨_, F, _⟩ := R.fr; R.ok.sta.kin.keeps F.keep
theorem Rl.sta {s : Shared} (R : Rl c σ s) : Sta (c.K c.w.params) s.heap := let ⟨_, F, _⟩ := R.fr; R.ok.sta.keeps F.keep

theorem keeps_pv {K : Frag} {M : Model} {pf : PV} {f : Value} (h : KeepOK K pf) (hf : pf.Is f) (hp : Heap) (X : K.In hp) : ∃ k, (k = Keeper.frame ∨ k = Keeper.machine ∨ k = Keeper.boundFrame) ∧ Looks M hp (keeperOf f) k := by
  cases pf with
  | builtin n => cases hf; exact ⟨.machine, .inr (.inl rfl), Looks.of_pure rfl⟩
  | type n => cases hf; exact ⟨.machine, .inr (.inl rfl), Looks.of_pure rfl⟩
  | ref a => cases hf; exact keeps_K h hp X
  | _ => exact h.elim

theorem w_callWith {pf : PV} {f : Value} {fps : List PV} {first : List Value} {args : List Expr} {pos : Pos} (hk : ∀ P, KeepOK (c.K P) pf) (hf : pf.Is f) (hfs : Are fps first) (hplain : (backTo pos (starEach args c.env)).any (·.1) = false)
    (h : Wk c Are (spliced (backTo pos (starEach args c.env))) (fun ps σ₁ => WCall c pf (fps ++ ps) Q σ₁) σ) : Wk c PV.Is (callWith pos f first (backTo pos (starEach args c.env)) []) Q σ := fun s R => by
  refine callWith_of (P := fun h => (c.K c.w.params).In h) (by rw [hplain]; rfl) (keeps_pv (hk _) hf) ?_
  have go : ∀ (vs : List Value) (s₁ : Shared), (∃ ps σ₁, Are ps vs ∧ Rl c σ₁ s₁ ∧ WCall c pf (fps ++ ps) Q σ₁) →
      (c.K c.w.params).In s₁.heap ∧ wpAny (model c.prog c.w) c.A (call f (first ++ vs) []) (fun v s' => ∃ p σ', p.Is v ∧ Rl c σ' s' ∧ Q p σ') c.E s₁ :=
    fun vs s₁ ⟨ps, σ₁, hv, R₁, h₁⟩ => ⟨R₁.K, h₁ f (first ++ vs) hf (hfs.append hv) s₁ R₁⟩
  cases hx : backTo pos (starEach args c.env) with
  | nil =>
    rw [hx] at h
    intro Γ p hΓ
    exact evalArgs_nil3 (go [] s (h s R Γ p hΓ)) Γ p hΓ
  | cons x rest =>
    obtain ⟨b, t⟩ := x
    rw [hx] at h hplain
    have hb : b = false := by
      simp only [List.any_cons, Bool.or_eq_false_iff] at hplain
      exact hplain.1
    subst hb
    exact evalArgs_plain (wpAny_mono (h s R) (fun vs s₁ z => go vs s₁ z) fun _ _ e => e)

/-- what the caller has behind a call -/
theorem Rl.back {s s' : Shared} {mu rest mu' fz' : List (Addr × AO)} (R : Rl c σ s) (ht : Take σ.led mu rest) (B : Back c.w.params c.A s mu σ.fz s' mu' fz') : Rl c ⟨σ.loc, mu' ++ rest, fz'⟩ s' := by
  obtain ⟨m, F, L⟩ := R.fr
  have pm := ht.perm
  have memL : ∀ {q}, q ∈ mu → q ∈ σ.led := fun hq => pm.mem_iff.mpr (List.mem_append_left _ hq)
  have memR : ∀ {q}, q ∈ rest → q ∈ σ.led := fun hq => pm.mem_iff.mpr (List.mem_append_right _ hq)
  have nd : (Adr mu ++ Adr rest).Nodup := by
    have := (pm.map (·.1)).nodup_iff.mp R.nod
    rwa [List.map_append] at this
  obtain ⟨nd1, nd2, nd3⟩ := List.nodup_append.mp nd
  have hh₀ : ∀ {a}, a ∈ Adr mu → c.h₀.get? a = none ∧ a ≠ c.env.locals ∧ a ∉ c.ofr.map (·.1) := fun ha => by
    obtain ⟨q, hq, rfl⟩ := List.mem_map.mp ha
    exact ⟨(R.led q (memL hq)).2.2, (R.led q (memL hq)).2.1, R.ledFr (memL hq)⟩
  have kept : ∀ {b o}, s.heap.get? b = some o → b ∉ Adr mu → b ∉ frA c.A → s'.heap.get? b = some o := fun {b o} e h1 h2 => B.kept _ _ (hideAll_get _ e fun hm => (List.mem_append.mp hm).elim h1 h2)
  have slot : ∀ {b o}, s.heap.get? b = some o → b ∉ Adr mu → ∃ sl, s'.heap.get? b = some { o with slots := sl } := fun {b o} e h1 => by
    by_cases h2 : b ∈ frA c.A
    · exact B.ups b h2 o e
    · exact ⟨o.slots, kept e h1 h2⟩
  have fresh : ∀ {a : Addr}, s.heap.get? a = none → a ≠ c.env.locals ∧ c.h₀.get? a = none ∧ a ∉ Adr rest ∧ a ∉ c.ofr.map (·.1) := fun {a} e => by
    refine ⟨fun q => ?_, ?_, fun hm => ?_, fun hm => ?_⟩
    · obtain ⟨oL, _, _, hL, _⟩ := F.ns
      rw [q, hL] at e; cases e
    · cases q : c.h₀.get? a with
      | none => rfl
      | some o => rw [F.keep _ _ q] at e; cases e
    · obtain ⟨q, hq, rfl⟩ := List.mem_map.mp hm
      obtain ⟨o, ho, _⟩ := (R.led q (memR hq)).1
      rw [ho] at e; cases e
    · obtain ⟨o, ho⟩ := R.ofrSome hm
      rw [ho] at e; cases e
  have own : ∀ {a : Addr}, a ∈ Adr mu ∨ s.heap.get? a = none → a ≠ c.env.locals ∧ c.h₀.get? a = none ∧ a ∉ Adr rest ∧ a ∉ c.ofr.map (·.1) := fun {a} h => h.elim (fun h => ⟨(hh₀ h).2.1, (hh₀ h).1, fun h2 => nd3 a h a h2 rfl, (hh₀ h).2.2⟩) fresh
  have ns : s'.heap.Ns c.env.locals m := by
    obtain ⟨oL, es, ep, hL, hd, r⟩ := F.ns
    obtain ⟨sl, hs⟩ := slot hL fun hm => (hh₀ hm).2.1 rfl
    exact ⟨_, es, ep, hs, hd, r⟩
  refine ⟨R.ok, B.gens.trans R.gens, B.drawn.trans R.drawn, B.os.trans R.os, ⟨m, ⟨ns, fun b o e => kept (F.keep b o e) (fun hm => by rw [(hh₀ hm).1] at e; cases e) (R.h0Fr e), F.above⟩, L⟩, fun q hq => ?_, ?_, fun q hq => ?_, fun q hq => B.sub q (R.sub q hq), fun q hq => ?_, fun b hb => ?_, fun p hp => ?_, fun p hp => ⟨(R.ofr p hp).1, fun hm => ?_, fun hm => ?_⟩⟩
  · rcases List.mem_append.mp hq with hq | hq
    · exact ⟨(B.led q hq).1, (own (B.led q hq).2).1, (own (B.led q hq).2).2.1⟩
    · obtain ⟨⟨o, ho, hi⟩, h2, h3⟩ := R.led q (memR hq)
      exact ⟨⟨o, kept ho (fun hm => nd3 q.1 hm q.1 (List.mem_map_of_mem hq) rfl) (R.notFr h2 (R.ledFr (memR hq))), hi⟩, h2, h3⟩
  · rw [List.map_append]
    refine List.nodup_append.mpr ⟨B.nod, nd2, fun a ha b hb e => ?_⟩
    subst e
    obtain ⟨q, hq, rfl⟩ := List.mem_map.mp ha
    exact (own (B.led q hq).2).2.2.1 hb
  · have h1 := B.fz q hq
    have h2 : q.1 ≠ c.env.locals ∧ q.1 ∉ Adr rest ∧ (q ∈ c.fz₀ ∨ c.h₀.get? q.1 = none) := by
      rcases h1.2.2 with h3 | h3
      · exact ⟨(R.fz q h3).2.1, fun hm => (R.fz q h3).2.2.1 (by obtain ⟨z, hz, e⟩ := List.mem_map.mp hm; exact List.mem_map.mpr ⟨z, memR hz, e⟩), (R.fz q h3).2.2.2⟩
      · exact ⟨(own h3).1, (own h3).2.2.1, .inr (own h3).2.1⟩
    refine ⟨h1.1, h2.1, fun hm => ?_, h2.2.2⟩
    rw [List.map_append] at hm
    exact (List.mem_append.mp hm).elim h1.2.1 h2.2.1
  · obtain ⟨h1, h2, h3, h3'⟩ := R.rsv q hq
    have h4 : q.1 ∉ Adr mu := fun hm => h3 (by obtain ⟨z, hz, e⟩ := List.mem_map.mp hm; exact List.mem_map.mpr ⟨z, memL hz, e⟩)
    refine ⟨kept h1 h4 (R.notFr h2 h3'), h2, fun hm => ?_, h3'⟩
    rw [List.map_append] at hm
    rcases List.mem_append.mp hm with hm | hm
    · obtain ⟨z, hz, e⟩ := List.mem_map.mp hm
      rcases (B.led z hz).2 with h5 | h5
      · exact h4 (e ▸ h5)
      · rw [e, h1] at h5; cases h5
    · exact h3 (by obtain ⟨z, hz, e⟩ := List.mem_map.mp hm; exact List.mem_map.mpr ⟨z, memR hz, e⟩)
  · obtain ⟨h1, h2, h3, h4⟩ := R.exc b hb
    obtain ⟨o, ho⟩ := Option.isSome_iff_exists.mp h1
    have h5 : b ∉ Adr mu := fun hm => h3 (by obtain ⟨z, hz, e⟩ := List.mem_map.mp hm; exact List.mem_map.mpr ⟨z, memL hz, e⟩)
    have h6 : ∀ {a : Addr}, a ∈ Adr mu ∨ s.heap.get? a = none → a ≠ b := fun {a} h e => by
      subst e
      rcases h with h | h
      · exact h5 h
      · rw [ho] at h; cases h
    refine ⟨by obtain ⟨sl, e⟩ := slot ho h5; rw [e]; rfl, h2, fun hm => ?_, fun hm => ?_⟩
    · rw [List.map_append] at hm
      rcases List.mem_append.mp hm with hm | hm
      · obtain ⟨z, hz, e⟩ := List.mem_map.mp hm
        exact h6 (B.led z hz).2 e
      · exact h3 (by obtain ⟨z, hz, e⟩ := List.mem_map.mp hm; exact List.mem_map.mpr ⟨z, memR hz, e⟩)
    · obtain ⟨z, hz, e⟩ := List.mem_map.mp hm
      rcases (B.fz z hz).2.2 with h7 | h7
      · exact h4 (List.mem_map.mpr ⟨z, h7, e⟩)
      · exact h6 h7 e
  · obtain ⟨sl, ho⟩ := R.ofo p hp
    have h5 : p.1 ∉ Adr mu := fun hm => (hh₀ hm).2.2 (List.mem_map_of_mem hp)
    obtain ⟨sl', e⟩ := slot ho h5
    exact ⟨sl', e⟩
  · rw [List.map_append] at hm
    rcases List.mem_append.mp hm with hm | hm
    · obtain ⟨z, hz, e⟩ := List.mem_map.mp hm
      exact (own (B.led z hz).2).2.2.2 (e ▸ List.mem_map_of_mem hp)
    · exact (R.ofr p hp).2.1 (by obtain ⟨z, hz, e⟩ := List.mem_map.mp hm; exact List.mem_map.mpr ⟨z, memR hz, e⟩)
  · obtain ⟨z, hz, e⟩ := List.mem_map.mp hm
    rcases (B.fz z hz).2.2 with h7 | h7
    · exact (R.ofr p hp).2.2 (List.mem_map.mpr ⟨z, h7, e⟩)
    · exact (own h7).2.2.2 (e ▸ List.mem_map_of_mem hp)

/-- what a call asks of the state -/
theorem Rl.asks {s : Shared} {mu rest : List (Addr × AO)} (R : Rl c σ s) (ht : Take σ.led mu rest) : (∃ base fr, Below c.A base fr (hideAll s.heap (Adr mu))) ∧ Sta (c.K c.w.params) (hideAll s.heap (Adr mu ++ frA c.A)) ∧ (∀ q ∈ mu, Has c.w.params s.heap q.1 q.2) ∧ (Adr mu).Nodup ∧
    (∀ q ∈ σ.fz, Has c.w.params s.heap q.1 q.2 ∧ q.1 ∉ Adr mu ∧ q.1 ∉ frA c.A) := by
  obtain ⟨m, F, L⟩ := R.fr
  obtain ⟨base, fr, hfr, _, hbl⟩ := R.ok.below
  have pm := ht.perm
  have memL : ∀ {q}, q ∈ mu → q ∈ σ.led := fun hq => pm.mem_iff.mpr (List.mem_append_left _ hq)
  have nd : (Adr mu ++ Adr rest).Nodup := by
    have := (pm.map (·.1)).nodup_iff.mp R.nod
    rwa [List.map_append] at this
  have hh₀ : ∀ {a}, a ∈ Adr mu → c.h₀.get? a = none ∧ a ≠ c.env.locals ∧ a ∉ c.ofr.map (·.1) := fun ha => by
    obtain ⟨q, hq, rfl⟩ := List.mem_map.mp ha
    exact ⟨(R.led q (memL hq)).2.2, (R.led q (memL hq)).2.1, R.ledFr (memL hq)⟩
  have stg : c.h₀.StaysIn (hideAll s.heap (Adr mu)) := fun b o e => hideAll_get _ (F.keep b o e) fun hm => by rw [(hh₀ hm).1] at e; cases e
  have stf : c.h₀.StaysIn (hideAll s.heap (Adr mu ++ frA c.A)) := fun b o e => hideAll_get _ (F.keep b o e) fun hm => by
    rcases List.mem_append.mp hm with hm | hm
    · rw [(hh₀ hm).1] at e; cases e
    · exact R.h0Fr e hm
  have nsg : (hideAll s.heap (Adr mu)).Ns c.env.locals m := by
    obtain ⟨oL, es, ep, hL, r⟩ := F.ns
    exact ⟨oL, es, ep, hideAll_get _ hL fun hm => (hh₀ hm).2.1 rfl, r⟩
  have og : OfrOk c.ofr (hideAll s.heap (Adr mu)) := R.ofo.mono fun p hp o e => hideAll_get _ e fun hm => (hh₀ hm).2.2 (List.mem_map_of_mem hp)
  exact ⟨⟨base, fr, hfr, (hbl _ m stg nsg og).1, (hbl _ m stg nsg og).2⟩, R.ok.sta.keeps stf, fun q hq => (R.led q (memL hq)).1, (List.nodup_append.mp nd).1,
    fun q hq => ⟨(R.fz q hq).1, fun hm => (R.fz q hq).2.2.1 (by obtain ⟨z, hz, e⟩ := List.mem_map.mp hm; exact List.mem_map.mpr ⟨z, memL hz, e⟩), R.notFr (R.fz q hq).2.1 (R.fzFr hq)⟩⟩

theorem wc_spec {K : Params → Frag} {prog : Program} {w : World} {n : Nat} {f : Addr} {args : List PV} {mu rest : List (Addr × AO)} {Post : PV → List (Addr × AO) → List (Addr × AO) → Prop} (S : Spec K prog w n f args mu σ.fz Post)
    (hK : c.K = K) (hp : c.prog = prog) (hw : c.w = w) (hn : n < c.n) (ht : Take σ.led mu rest) (k : ∀ p mu' fz', Post p mu' fz' → (∀ q ∈ σ.fz, q ∈ fz') → Q p ⟨σ.loc, mu' ++ rest, fz'⟩) : WCall c (.ref f) args Q σ := by
  subst hK; subst hp; subst hw
  intro fv vs hf ha s R
  cases hf
  obtain ⟨a1, a2, a3, a4, a5⟩ := R.asks ht
  have hd := R.ok.depth
  have hu := R.ok.units
  refine wpAny_call (S c.A s vs _ R.ok.hh (by omega) (by omega) a1 a2 ha a3 a4 a5 (fun v s' p mu' fz' hv B hpost => ?_) (fun _ _ _ hx _ => hx.elim))
  exact ⟨p, _, hv, R.back ht B, k p mu' fz' hpost B.sub⟩
end

section
variable {c : Cx} {σ : St} {Q : PV → St → Prop}
/-- a call of a def that may raise: it is handed nothing that may be changed -/
theorem wc_specX {K : Params → Frag} {prog : Program} {w : World} {n : Nat} {f : Addr} {args : List PV} {Post : PV → List (Addr × AO) → List (Addr × AO) → Prop} {Exc : Addr → Prop} {H : Addr → St → Prop} (S : SpecX K prog w n f args [] σ.fz Post Exc)
    (hK : c.K = K) (hp : c.prog = prog) (hw : c.w = w) (hn : n < c.n) (hA : AccFly c H) (hH : ∀ C, Exc C → H C σ) (k : ∀ p fz', Post p [] fz' → (∀ q ∈ σ.fz, q ∈ fz') → Q p ⟨σ.loc, σ.led, fz'⟩)
    (hP : ∀ p mu fz', Post p mu fz' → mu = []) : WCall c (.ref f) args Q σ := by
  subst hK; subst hp; subst hw
  intro fv vs hf ha s R
  cases hf
  obtain ⟨a1, a2, a3, a4, a5⟩ := R.asks (.nil : Take σ.led [] σ.led)
  have hd := R.ok.depth
  have hu := R.ok.units
  refine wpAny_call (S c.A s vs _ R.ok.hh (by omega) (by omega) a1 a2 ha a3 a4 a5 (fun v s' p mu' fz' hv B hpost => ?_) ?_)
  · obtain rfl := hP _ _ _ hpost
    exact ⟨p, _, hv, R.back .nil B, k p fz' hpost B.sub⟩
  · intro C e s' hC ⟨z1, z2, z3, l, a0, hl, hfl, hup⟩
    have sub : s.heap.StaysIn (hideAll s.heap (Adr [])) := fun b o e => hideAll_get _ e fun hm => (nomatch hm)
    refine hA C σ s e s' (hH C hC) R ⟨z1, z2, z3, l, a0, hl, flyingW_base (fun b o q => hideAll_get _ (sub b o (of_hideAll _ q)) fun hm => ?_) hfl, (Heap.UpToSlots.of_keeps sub).trans hup⟩
    rw [hideAll_none _ hm] at q; cases q
end
section
variable {c : Cx} {σ : St} {Q : PV → St → Prop} {K : Params → Frag} {prog : Program} {w : World} {n : Nat} {f : Addr} {args : List PV}
/-- what a call hands back, kept apart from the goal behind it -/
theorem hush {α β γ : Type} {P G : α → β → γ → Prop} (k : ∀ H : α → β → γ → Prop, (∀ x y z, G x y z → H x y z) → ∀ x y z, P x y z → H x y z) : ∀ x y z, P x y z → G x y z := k G fun _ _ _ h => h
theorem hush0 {G : Prop} (k : ∀ H : Prop, (G → H) → H) : G := k G fun h => h
/-- a call that changes nothing -/
theorem wc_fun {R : PV → Prop} (S : Spec K prog w n f args [] σ.fz (fun p mu fz' => fz' = σ.fz ∧ mu = [] ∧ R p)) (hK : c.K = K) (hp : c.prog = prog) (hw : c.w = w) (hn : n < c.n) (k : ∀ p, R p → Q p σ) : WCall c (.ref f) args Q σ :=
  wc_spec S hK hp hw hn .nil fun p _ _ h _ => by
    rw [h.1, h.2.1]; exact k p h.2.2
theorem wc_val {v : PV} (S : Spec K prog w n f args [] σ.fz (fun p mu fz' => fz' = σ.fz ∧ mu = [] ∧ p = v)) (hK : c.K = K) (hp : c.prog = prog) (hw : c.w = w) (hn : n < c.n) (k : Q v σ) : WCall c (.ref f) args Q σ :=
  wc_fun S hK hp hw hn fun _ h => h ▸ k
theorem wc_funX {R : PV → Prop} {Exc : Addr → Prop} {H : Addr → St → Prop} (S : SpecX K prog w n f args [] σ.fz (fun p mu fz' => fz' = σ.fz ∧ mu = [] ∧ R p) Exc) (hK : c.K = K) (hp : c.prog = prog) (hw : c.w = w) (hn : n < c.n) (hA : AccFly c H) (hH : ∀ C, Exc C → H C σ)
    (k : ∀ p, R p → Q p σ) : WCall c (.ref f) args Q σ :=
  wc_specX S hK hp hw hn hA hH (fun p _ h _ => by rw [h.1]; exact k p h.2.2) fun _ _ _ h => h.2.1
end
end
section
set_option maxRecDepth 100000
set_option linter.unusedVariables false
section
variable {c : Cx} {σ : St} {Q : PV → St → Prop}

theorem WB.atom {f : Value → Value → Sem Value} {p q r : PV} (h : Q r σ)
    (rule : ∀ a b, p.Is a → q.Is b → ∀ s (Q' : Value → Shared → Prop), Rl c σ s → (∀ v t, r.Is v → Q' v { heap := s.heap, gens := s.gens, drawn := s.drawn, toks := t, os := s.os }) → wpAny (model c.prog c.w) c.A (f a b) Q' c.E s) : WB c f p q Q σ :=
  fun a b ha hb => Wk.atom h (rule a b ha hb)
theorem WU.atom {f : Value → Sem Value} {p r : PV} (h : Q r σ)
    (rule : ∀ a, p.Is a → ∀ s (Q' : Value → Shared → Prop), Rl c σ s → (∀ v t, r.Is v → Q' v { heap := s.heap, gens := s.gens, drawn := s.drawn, toks := t, os := s.os }) → wpAny (model c.prog c.w) c.A (f a) Q' c.E s) : WU c f p Q σ :=
  fun a ha => Wk.atom h (rule a ha)

theorem Rl.units {s : Shared} (R : Rl c σ s) : c.A.units + 64 < cLine := by have := R.ok.units; unfold cLine; omega
theorem Rl.units0 {s : Shared} (R : Rl c σ s) : c.A.units < cLine := by have := R.ok.units; unfold cLine; omega

/-! ints -/
theorem b_add_int {a b : Int} (h : Q (.int (a + b)) σ) : WB c (binaryOp .Add) (.int a) (.int b) Q σ := WB.atom h fun _ _ ⟨_, e1⟩ ⟨_, e2⟩ s _ _ k => by subst e1; subst e2; (with_reducible refine P.add_int ?_); exact k (.int _ s.toks) (s.toks + 1) ⟨_, rfl⟩
theorem b_sub_int {a b : Int} (h : Q (.int (a - b)) σ) : WB c (binaryOp .Sub) (.int a) (.int b) Q σ := WB.atom h fun _ _ ⟨_, e1⟩ ⟨_, e2⟩ s _ _ k => by subst e1; subst e2; (with_reducible refine PyProof.Rows.sub_int ?_); exact k (.int _ s.toks) (s.toks + 1) ⟨_, rfl⟩
theorem b_mul_int {a b : Int} (hm : Builtin.Int.intBits a ≤ 64 ∨ Builtin.Int.intBits b ≤ 64) (h : Q (.int (a * b)) σ) : WB c (binaryOp .Mult) (.int a) (.int b) Q σ := WB.atom h fun _ _ ⟨_, e1⟩ ⟨_, e2⟩ _ _ _ k => by
  subst e1; subst e2; (with_reducible refine P.mul_int ?_ (hm.elim IntMulOk.of_left IntMulOk.of_right)); exact k _ _ ⟨_, rfl⟩
theorem b_div_int {a b : Int} (hb : b ≠ 0) (hp : b.natAbs.log2 < 9000) (h : Q (.int (a.fdiv b)) σ) : WB c (binaryOp .FloorDiv) (.int a) (.int b) Q σ := WB.atom h fun _ _ ⟨_, e1⟩ ⟨_, e2⟩ _ _ _ k => by
  subst e1; subst e2; (with_reducible refine PyProof.Rows.floordiv_int hb ?_ (.inl (PyProof.noPylong_of_log2 hp))); exact k _ _ ⟨_, rfl⟩
theorem b_mod_int {a b : Int} (hb : b ≠ 0) (h : Q (.int (a.fmod b)) σ) : WB c (binaryOp .Mod) (.int a) (.int b) Q σ := WB.atom h fun _ _ ⟨_, e1⟩ ⟨_, e2⟩ _ _ _ k => by
  subst e1; subst e2; (with_reducible refine PyProof.Rows.mod_int' hb ?_); exact k _ _ ⟨_, rfl⟩
theorem b_pow_int {a b : Int} (h0 : 0 ≤ b) (hs : (Builtin.Int.intBits a : Int) * b ≤ 2 ^ 27) (h : Q (.int (a ^ b.toNat)) σ) : WB c (binaryOp .Pow) (.int a) (.int b) Q σ := WB.atom h fun _ _ ⟨_, e1⟩ ⟨_, e2⟩ _ _ _ k => by
  subst e1; subst e2; (with_reducible refine PyProof.Rows.pow_int h0 hs ?_); exact k _ _ ⟨_, rfl⟩
theorem b_eq_int {a b : Int} (h : Q (.bool (a == b)) σ) : WB c (compareOp .Eq) (.int a) (.int b) Q σ := WB.atom h fun _ _ ⟨_, e1⟩ ⟨_, e2⟩ _ _ _ k => by subst e1; subst e2; (with_reducible refine P.eq_int ?_); exact k _ _ rfl
theorem b_ne_int {a b : Int} (h : Q (.bool (a != b)) σ) : WB c (compareOp .NotEq) (.int a) (.int b) Q σ := WB.atom h fun _ _ ⟨_, e1⟩ ⟨_, e2⟩ _ _ _ k => by subst e1; subst e2; (with_reducible refine PyProof.Rows.ne_int ?_); exact k _ _ rfl
theorem b_lt_int {a b : Int} (h : Q (.bool (decide (a < b))) σ) : WB c (compareOp .Lt) (.int a) (.int b) Q σ := WB.atom h fun _ _ ⟨_, e1⟩ ⟨_, e2⟩ _ _ _ k => by subst e1; subst e2; (with_reducible refine PyProof.Rows.lt_int ?_); exact k _ _ rfl
theorem b_le_int {a b : Int} (h : Q (.bool (decide (a ≤ b))) σ) : WB c (compareOp .LtE) (.int a) (.int b) Q σ := WB.atom h fun _ _ ⟨_, e1⟩ ⟨_, e2⟩ _ _ _ k => by subst e1; subst e2; (with_reducible refine PyProof.Rows.le_int ?_); exact k _ _ rfl
theorem b_gt_int {a b : Int} (h : Q (.bool (decide (b < a))) σ) : WB c (compareOp .Gt) (.int a) (.int b) Q σ := WB.atom h fun _ _ ⟨_, e1⟩ ⟨_, e2⟩ _ _ _ k => by subst e1; subst e2; (with_reducible refine PyProof.Rows.gt_int ?_); exact k _ _ rfl
theorem b_ge_int {a b : Int} (h : Q (.bool (decide (b ≤ a))) σ) : WB c (compareOp .GtE) (.int a) (.int b) Q σ := WB.atom h fun _ _ ⟨_, e1⟩ ⟨_, e2⟩ _ _ _ k => by subst e1; subst e2; (with_reducible refine PyProof.Rows.ge_int ?_); exact k _ _ rfl
theorem u_neg_int {a : Int} (h : Q (.int (-a)) σ) : WU c (unaryOp .USub) (.int a) Q σ := WU.atom h fun _ ⟨_, e1⟩ _ _ _ k => by subst e1; (with_reducible refine PyProof.Rows.neg_int ?_); exact k _ _ ⟨_, rfl⟩

/-! None and identity -/
noncomputable def PV.isNone : PV → Bool
  | .none => true
  | _ => false
theorem isNone_is {p : PV} {v : Value} (h : p.Is v) : (v == Value.none) = p.isNone := by
  cases p with
  | none => cases h; rfl
  | bool b => cases h; rfl
  | int i => obtain ⟨t, rfl⟩ := h; rfl
  | str i => obtain ⟨t, rfl⟩ := h; rfl
  | bytes i => obtain ⟨t, rfl⟩ := h; rfl
  | ref a => cases h; rfl
  | type a => cases h; rfl
  | builtin a => cases h; rfl
theorem b_is_none {p : PV} (h : Q (.bool p.isNone) σ) : WB c (compareOp .Is) p .none Q σ := WB.atom h fun _ _ e1 e2 _ _ _ k => by cases e2; (with_reducible refine PyProof.Rows.is_none_gen ?_); exact k _ _ (isNone_is e1 ▸ rfl)
theorem b_isnot_none {p : PV} (h : Q (.bool (!p.isNone)) σ) : WB c (compareOp .IsNot) p .none Q σ := WB.atom h fun _ _ e1 e2 _ _ _ k => by cases e2; (with_reducible refine PySem.isNot_none ?_); exact k _ _ (isNone_is e1 ▸ rfl)
theorem b_isnot_self {a : Addr} (h : Q (.bool false) σ) : WB c (compareOp .IsNot) (.ref a) (.ref a) Q σ := WB.atom h fun _ _ e1 e2 _ _ _ k => by cases e1; cases e2; (with_reducible refine wpAny_isNot_ref_self ?_); exact k _ _ rfl

/-! texts -/
theorem cps_eq {x y : Str} : (x.cps.toList == y.cps.toList) = decide (x = y) := by
  cases x; cases y
  rename_i a b
  by_cases h : a = b
  · subst h; simp
  · have : a.toList ≠ b.toList := fun e => h (Array.toList_inj.mp e)
    simp [h]
theorem b_eq_str {x y : Str} (h : Q (.bool (decide (x = y))) σ) : WB c (compareOp .Eq) (.str x) (.str y) Q σ := WB.atom h fun _ _ ⟨_, e1⟩ ⟨_, e2⟩ _ _ _ k => by subst e1; subst e2; (with_reducible refine P.eq_str ?_); exact k _ _ (by rw [cps_eq]; rfl)
theorem b_ne_str {x y : Str} (h : Q (.bool (!decide (x = y))) σ) : WB c (compareOp .NotEq) (.str x) (.str y) Q σ := WB.atom h fun _ _ ⟨_, e1⟩ ⟨_, e2⟩ _ _ _ k => by
  subst e1; subst e2; (with_reducible refine P.ne_str ?_); exact k _ _ (by show _ = _; rw [bne, cps_eq])
theorem b_add_str {x y : Str} (hz : x.length + y.length ≤ 1000000) (h : Q (.str (x ++ y)) σ) : WB c (binaryOp .Add) (.str x) (.str y) Q σ := WB.atom h fun _ _ ⟨_, e1⟩ ⟨_, e2⟩ _ _ _ k => by
  subst e1; subst e2; exact PyProof.Rows.SBL.add (fun _ _ _ => k _ _ ⟨_, rfl⟩) (by rw [sizeLine_eq]; omega)
theorem b_in_str {x y : Str} (h : Q (.bool (Txt.contains x y)) σ) : WB c (compareOp .In) (.str y) (.str x) Q σ := WB.atom h fun _ _ ⟨_, e1⟩ ⟨_, e2⟩ _ _ _ k => by subst e1; subst e2; (with_reducible refine PySem.SB.contains ?_); exact k _ _ rfl
theorem b_notin_str {x y : Str} (h : Q (.bool (!Txt.contains x y)) σ) : WB c (compareOp .NotIn) (.str y) (.str x) Q σ := WB.atom h fun _ _ ⟨_, e1⟩ ⟨_, e2⟩ _ _ _ k => by subst e1; subst e2; (with_reducible refine PySem.SB.notContains ?_); exact k _ _ rfl

/-! lists -/
theorem Look.list {s : Shared} {a : Addr} {xs : List PV} (h : Look σ a (.list xs)) (R : Rl c σ s) : ∃ vs n, Are xs vs ∧ s.heap.get? a = some (W.listOf vs.toArray n) := by
  obtain ⟨o, ho, vs, n, hv, rfl⟩ := h.has R; exact ⟨vs, n, hv, ho⟩
theorem isList_of {h : Heap} {a : Addr} {vs : List Value} {n : Nat} (e : h.get? a = some (W.listOf vs.toArray n)) : h.IsList a vs.toArray := ⟨_, e, rfl, n, rfl⟩
theorem Look.tuple {s : Shared} {a : Addr} {xs : List PV} (h : Look σ a (.tuple xs)) (R : Rl c σ s) : ∃ vs n, Are xs vs ∧ s.heap.get? a = some { cls := .type "tuple", data := .seq vs.toArray n } := by
  obtain ⟨o, ho, vs, n, hv, rfl⟩ := h.has R; exact ⟨vs, n, hv, ho⟩

noncomputable def WSub (c : Cx) (value slice : Expr) (p q : PV) (Q : PV → St → Prop) (σ : St) : Prop := ∀ a b, p.Is a → q.Is b → Wk c PV.Is (subscriptTail value slice a b) Q σ
theorem w_sub {value slice : Expr} {pos : Pos} (h : Wk c PV.Is (eval value c.env) (fun p σ₁ => Wk c PV.Is (eval slice c.env) (fun q σ₂ => WSub c value slice p q Q σ₂) σ₁) σ) : Wk c PV.Is (eval (.Subscript value slice pos) c.env) Q σ := fun s R =>
  Subscript_ (wpAny_mono (h s R) (by rintro a s₁ ⟨p, σ₁, ha, R₁, h₁⟩; exact wpAny_mono (h₁ s₁ R₁) (by rintro b s₂ ⟨q, σ₂, hb, R₂, h₂⟩; exact h₂ a b ha hb s₂ R₂) fun _ _ e => e) fun _ _ e => e)
theorem sub_list {value slice : Expr} {l : Addr} {xs : List PV} {k : Int} {p : PV} (hl : Look σ l (.list xs)) (h0 : 0 ≤ k) (h1 : k < 2 ^ 63) (hx : xs[k.toNat]? = some p) (h : Q p σ)
    (hs : ∀ a b, subscripted slice false a b = operate [a, b] (getItem a b) := by intro _ _; rfl) : WSub c value slice (.ref l) (.int k) Q σ := fun _ _ e1 ⟨_, e2⟩ s R => by
  cases e1; subst e2
  obtain ⟨vs, n, hv, ho⟩ := hl.list R
  obtain ⟨v, hv1, hv2⟩ := hv.get hx
  with_reducible refine item_listR (isList_of ho) h0 h1 (by simpa using hv1) ?_ (hs _ _)
  exact ⟨p, σ, hv2, R, h⟩

/-! the ledger changed -/
inductive Up : List (Addr × AO) → Addr → AO → AO → List (Addr × AO) → Prop where
  | head {a x x' r} : Up ((a, x) :: r) a x x' ((a, x') :: r)
  | tail {y a x x' r r'} : Up r a x x' r' → Up (y :: r) a x x' (y :: r')
theorem Up.mem {l a x x' l'} (h : Up l a x x' l') : (a, x) ∈ l := by induction h with | head => exact .head _ | tail _ ih => exact .tail _ ih
theorem Up.adr {l a x x' l'} (h : Up l a x x' l') : Adr l' = Adr l := by induction h with | head => rfl | tail _ ih => simp only [Adr, List.map_cons] at ih ⊢; rw [ih]
theorem Up.back {l a x x' l'} (h : Up l a x x' l') : ∀ {p}, p ∈ l' → p = (a, x') ∨ p ∈ l := by
  induction h with
  | head => intro p hp; rcases List.mem_cons.mp hp with e | hp; exact .inl e; exact .inr (.tail _ hp)
  | tail _ ih => intro p hp; rcases List.mem_cons.mp hp with e | hp; exact .inr (e ▸ .head _); exact (ih hp).imp id (.tail _)
theorem mem_once {l : List (Addr × AO)} : (Adr l).Nodup → ∀ {p q}, p ∈ l → q ∈ l → p.1 = q.1 → p = q := by
  induction l with
  | nil => intro _ p q hp; nomatch hp
  | cons x r ih =>
    intro hn p q hp hq e
    have hn' := List.nodup_cons.mp hn
    rcases List.mem_cons.mp hp with hp | hp <;> rcases List.mem_cons.mp hq with hq | hq
    · rw [hp, hq]
    · exact (hn'.1 (List.mem_map.mpr ⟨q, hq, by rw [← e, hp]⟩)).elim
    · exact (hn'.1 (List.mem_map.mpr ⟨p, hp, by rw [e, hq]⟩)).elim
    · exact ih hn'.2 hp hq e
theorem Up.mem' {l a x x' l'} (h : Up l a x x' l') : (a, x') ∈ l' := by induction h with | head => exact .head _ | tail _ ih => exact .tail _ ih
theorem Rl.upd {s : Shared} {a : Addr} {x x' : AO} {led' : List (Addr × AO)} {h' : Heap} {t : Nat} (R : Rl c σ s) (U : Up σ.led a x x' led') (hs : Heap.SameBut a s.heap h') (hx : Has c.w.params h' a x') :
    Rl c ⟨σ.loc, led', σ.fz⟩ { heap := h', gens := s.gens, drawn := s.drawn, toks := t, os := s.os } := by
  obtain ⟨m, F, L⟩ := R.fr
  have ha := R.led _ U.mem
  have hnod : (Adr led').Nodup := U.adr ▸ R.nod
  refine ⟨R.ok, R.gens, R.drawn, R.os, ⟨m, F.change hs ha.2.1 ha.2.2, L⟩, fun p hp => ?_, hnod, fun p hp => ?_, R.sub, fun p hp => ?_, fun b hb => ?_, R.ofo.mono fun p hp _ e => (hs.2 p.1 fun q => (R.ofr p hp).2.1 (by rw [q]; exact List.mem_map_of_mem U.mem)).trans e, fun p hp => ⟨(R.ofr p hp).1, ?_, (R.ofr p hp).2.2⟩⟩
  · by_cases e : p.1 = a
    · have : p = (a, x') := mem_once hnod hp U.mem' e
      subst this; exact ⟨hx, ha.2⟩
    · rcases U.back hp with e' | hp'
      · subst e'; exact absurd rfl e
      · obtain ⟨⟨o, ho, hi⟩, h2⟩ := R.led p hp'
        exact ⟨⟨o, (hs.2 p.1 e).trans ho, hi⟩, h2⟩
  · obtain ⟨⟨o, ho, hi⟩, h2, h3, h4⟩ := R.fz p hp
    refine ⟨⟨o, (hs.2 p.1 fun e => h3 (by rw [e]; exact List.mem_map_of_mem U.mem)).trans ho, hi⟩, h2, ?_, h4⟩
    show p.1 ∉ Adr led'
    rw [U.adr]; exact h3
  · obtain ⟨h1, h2, h3, h4⟩ := R.rsv p hp
    refine ⟨(hs.2 p.1 fun e => h3 (by rw [e]; exact List.mem_map_of_mem U.mem)).trans h1, h2, ?_, h4⟩
    show p.1 ∉ Adr led'
    rw [U.adr]; exact h3
  · obtain ⟨h1, h2, h3, h4⟩ := R.exc b hb
    refine ⟨by rw [hs.2 b fun e => h3 (by rw [e]; exact List.mem_map_of_mem U.mem)]; exact h1, h2, ?_, h4⟩
    show b ∉ Adr led'
    rw [U.adr]; exact h3
  · show p.1 ∉ Adr led'
    rw [U.adr]; exact (R.ofr p hp).2.1

/-! equality of lists -/
theorem WB.read {f : Value → Value → Sem Value} {p q r : PV} (h : Q r σ)
    (rule : ∀ a b, p.Is a → q.Is b → ∀ s (Q' : Value → Shared → Prop), Rl c σ s → (∀ v, r.Is v → Q' v s) → wpAny (model c.prog c.w) c.A (f a b) Q' c.E s) : WB c f p q Q σ :=
  fun a b ha hb s R => rule a b ha hb s _ R fun v hv => ⟨r, σ, hv, R, h⟩
theorem ne_nil {s : Shared} {a b : Addr} {xs : List PV} {vs : List Value} {n m : Nat} (hv : Are xs vs) (ho : s.heap.get? a = some (W.listOf vs.toArray n)) (ho' : s.heap.get? b = some (W.listOf #[] m)) (hu : c.A.units < cLine) :
    SeqAt.RcNeAt c.A s (.ref a) (.ref b) (!xs.isEmpty) ∧ SeqAt.RcAt c.A s (.ref a) (.ref b) xs.isEmpty := by
  cases xs with
  | nil =>
    cases hv
    have h1 := SeqAt.RcNeAt.lists (A := c.A) (s := s) (e := fun _ => true) ⟨_, ho, rfl, n, rfl⟩ ⟨_, ho', rfl, m, rfl⟩ rfl hu (fun j h1 _ => absurd h1 (Nat.not_lt_zero _))
    have h2 := SeqAt.RcAt.lists (A := c.A) (s := s) (e := fun _ => true) ⟨_, ho, rfl, n, rfl⟩ ⟨_, ho', rfl, m, rfl⟩ rfl hu (fun j h1 _ => absurd h1 (Nat.not_lt_zero _))
    exact ⟨h1, h2⟩
  | cons x r =>
    have hs : (vs.toArray.size != (#[] : Array Value).size) = true := by rw [List.size_toArray, hv.length]; rfl
    exact ⟨SeqAt.RcNeAt.lists_lengths ⟨_, ho, rfl, n, rfl⟩ ⟨_, ho', rfl, m, rfl⟩ hs hu, SeqAt.RcAt.lists_lengths ⟨_, ho, rfl, n, rfl⟩ ⟨_, ho', rfl, m, rfl⟩ hs hu⟩
theorem b_ne_nil {a b : Addr} {xs : List PV} (ha : Look σ a (.list xs)) (hb : Look σ b (.list [])) (h : Q (.bool (!xs.isEmpty)) σ) : WB c (compareOp .NotEq) (.ref a) (.ref b) Q σ := WB.read h fun _ _ e1 e2 s Q' R k => by
  cases e1; cases e2
  obtain ⟨vs, n, hv, ho⟩ := ha.list R
  obtain ⟨us, m, hu, ho'⟩ := hb.list R
  cases hu
  exact (ne_nil (c := c) hv ho ho' R.units0).1 c.prog c.w c.E Q' (k _ rfl)
theorem b_eq_nil {a b : Addr} {xs : List PV} (ha : Look σ a (.list xs)) (hb : Look σ b (.list [])) (h : Q (.bool xs.isEmpty) σ) : WB c (compareOp .Eq) (.ref a) (.ref b) Q σ := WB.read h fun _ _ e1 e2 s Q' R k => by
  cases e1; cases e2
  obtain ⟨vs, n, hv, ho⟩ := ha.list R
  obtain ⟨us, m, hu, ho'⟩ := hb.list R
  cases hu
  exact (ne_nil (c := c) hv ho ho' R.units0).2 c.prog c.w c.E Q' (k _ rfl)

/-! stores into a list -/
noncomputable def WSet (c : Cx) (o i v : PV) (Q : St → Prop) (σ : St) : Prop := ∀ a b x, o.Is a → i.Is b → v.Is x → Wk c Same (setItem a b x) (fun _ => Q) σ
theorem s_assign_sub {o i value : Expr} {pos' pos : Pos} {Q : PF → St → Prop} (h : Wk c PV.Is (eval value c.env) (fun v σ₁ => Wk c PV.Is (eval o c.env) (fun p σ₂ => Wk c PV.Is (eval i c.env) (fun q σ₃ => WSet c p q v (Q .next) σ₃) σ₂) σ₁) σ)
    (hs : swapsWith value (some (.Subscript o i pos')) pos.line c.env = pure false := by rfl) : Wk c PF.Is (exec (.Assign [.Subscript o i pos'] value pos) c.env) Q σ := fun s R =>
  wpAny_Assign_Subscript (wpAny_mono (h s R) (fun v s₁ ⟨pv, σ₁, hv, R₁, h₁⟩ => wpAny_mono (h₁ s₁ R₁) (fun a s₂ ⟨p, σ₂, ha, R₂, h₂⟩ => wpAny_mono (h₂ s₂ R₂) (fun b s₃ ⟨q, σ₃, hb, R₃, h₃⟩ =>
    wpAny_mono (h₃ a b v ha hb hv s₃ R₃) (by rintro _ s₄ ⟨_, σ₄, _, R₄, h₄⟩; exact ⟨.next, σ₄, rfl, R₄, h₄⟩) fun _ _ e => e) fun _ _ e => e) fun _ _ e => e) fun _ _ e => e) hs

theorem Are.set {ps : List PV} {vs : List Value} (h : Are ps vs) {p : PV} {v : Value} (hv : p.Is v) : ∀ (i : Nat), Are (ps.set i p) (vs.set i v) := by
  induction h with
  | nil => intro i; exact .nil
  | cons a r ih => intro i; cases i with
    | zero => exact .cons hv r
    | succ i => exact .cons a (ih i)
theorem Are.eraseIdx {ps : List PV} {vs : List Value} (h : Are ps vs) : ∀ (i : Nat), Are (ps.eraseIdx i) (vs.eraseIdx i) := by
  induction h with
  | nil => intro i; exact .nil
  | cons a r ih => intro i; cases i with
    | zero => exact r
    | succ i => exact .cons a (ih i)

inductive LSet : List PV → Nat → PV → List PV → Prop where
  | zero {x v xs} : LSet (x :: xs) 0 v (v :: xs)
  | succ {x v xs i xs'} : LSet xs i v xs' → LSet (x :: xs) (i + 1) v (x :: xs')
theorem LSet.eq {xs i v xs'} (h : LSet xs i v xs') : xs.set i v = xs' ∧ i < xs.length := by
  induction h with
  | zero => exact ⟨rfl, by simp⟩
  | succ _ ih => exact ⟨by rw [List.set_cons_succ, ih.1], by simpa using ih.2⟩
theorem set_list {led led' fz : List (Addr × AO)} {loc : List (Option PV)} {l : Addr} {xs xs' : List PV} {k : Int} {v : PV} {Q : St → Prop} (U : Up led l (.list xs) (.list xs') led') (h0 : 0 ≤ k) (h1 : k < 2 ^ 63)
    (hx : LSet xs k.toNat v xs') (h : Q ⟨loc, led', fz⟩) : WSet c (.ref l) (.int k) v Q ⟨loc, led, fz⟩ := fun _ _ x e1 ⟨_, e2⟩ hv s R => by
  cases e1; subst e2
  obtain ⟨o, ho, vs, n, hvs, rfl⟩ := (R.led _ U.mem).1
  obtain ⟨hx, h2⟩ := hx.eq
  refine W.ki_setAt ho h0 h1 (by rw [List.size_toArray, hvs.length]; omega) ?_
  refine ⟨(), _, rfl, R.upd (t := s.toks) U (Heap.SameBut.update _ _ _) ⟨_, Heap.get?_update_self _ ho rfl, vs.set k.toNat x, n, hx ▸ hvs.set hv _, ?_⟩, h⟩
  simp [Obj.mapSeq, W.listOf]

theorem c_pop0 {led led' fz : List (Addr × AO)} {loc : List (Option PV)} {l : Addr} {x : PV} {xs : List PV} (U : Up led l (.list (x :: xs)) (.list xs) led') (hz : xs.length ≤ 1000000) (h : Q x ⟨loc, led', fz⟩) :
    WCall c (.builtin "list.pop") [.ref l, .int 0] Q ⟨loc, led, fz⟩ := fun f vs hf ha s R => by
  cases hf
  obtain ⟨_, _, rfl, e1, ha⟩ := ha.cons_inv
  obtain ⟨_, _, rfl, ⟨u, e2⟩, ha⟩ := ha.cons_inv
  cases ha.nil_inv
  cases e1; subst e2
  obtain ⟨o, ho, ws, n, hws, rfl⟩ := (R.led _ U.mem).1
  obtain ⟨y, ys, rfl, hy, hys⟩ := hws.cons_inv
  have hl : (y :: ys).length ≤ sizeLine := by rw [sizeLine_eq, List.length_cons, hys.length]; omega
  refine call_meets PySem.F.slot_list_pop ⟨_, ho, rfl⟩ PySem.F.entry_list_pop (PySem.F.args_list_pop_2 _ _) (MeetsSeq.list_pop_at l (y :: ys).toArray n 0 u 0 y (by decide) (by simp [seqIndex?]) rfl (by simpa using hl)) ⟨ho, ?_⟩
  exact ⟨x, _, hy, R.upd (t := s.toks) U (Heap.SameBut.update _ _ _) ⟨_, Heap.get?_update_self _ ho rfl, ys, n + 1, hys, by simp [Obj.mapSeq, W.listOf, Array.eraseIdxIfInBounds]⟩, h⟩

/-! methods -/
noncomputable def MIs (p : PV × List PV) (v : Value × List Value) : Prop := p.1.Is v.1 ∧ Are p.2 v.2
noncomputable def WMeth (c : Cx) (p : PV) (name : Str) (Q : PV × List PV → St → Prop) (σ : St) : Prop := ∀ ov pl, p.Is ov → Wk c MIs (getMethod ov name pl) Q σ
theorem w_method {o : Expr} {name : Str} {apos pos : Pos} {args : List Expr}
    (h : Wk c PV.Is (eval o c.env) (fun p σ₁ => WMeth c p name (fun fp σ₂ => (∀ P, KeepOK (c.K P) fp.1) ∧ Wk c Are (spliced (backTo pos (starEach args c.env))) (fun ps σ₃ => WCall c fp.1 (fp.2 ++ ps) Q σ₃) σ₂) σ₁) σ)
    (h1 : attributeBase o name c.env (eval o c.env) = eval o c.env := by rfl) (h2 : methodCallForm args.length (backTo pos (starEach args c.env)) [] = true := by rfl) (h3 : (apos.endLine == pos.line) = true := by rfl)
    (h4 : (backTo pos (starEach args c.env)).any (·.1) = false := by rfl) :
    Wk c PV.Is (eval (.Call (.Attribute o name apos) args [] pos) c.env) Q σ := fun s R => by
  show wpAny _ _ (do let ov ← attributeBase o name c.env (eval o c.env); standAt apos.atName; methodCall o name apos pos c.env ov (args.length + 0) (backTo pos (starEach args c.env)) []) _ _ s
  rw [h1]
  refine wpAny_bind (wpAny_mono (h s R) (fun ov s₁ ⟨p, σ₁, hp, R₁, h₁⟩ => wpAny_bind (wpAny_standAt ?_)) fun _ _ e => e)
  unfold methodCall
  rw [Nat.add_zero, h2]
  show wpAny _ _ (do let (f, first) ← holding [ov] (getMethod ov name (do return (← importBound o c.env).getD true)); let callPos ← methodCallPos true o c.env apos pos; callWith callPos f first (backTo pos (starEach args c.env)) []) _ _ s₁
  refine wpAny_bind (wpAny_holding (wpAny_mono (h₁ ov _ hp s₁ R₁) (fun fx s₂ hpat => ?_) fun _ _ e => e))
  obtain ⟨fp, σ₂, hf, R₂, hk, h₂⟩ := hpat
  obtain ⟨f, first⟩ := fx
  show wpAny _ _ (methodCallPos true o c.env apos pos >>= fun callPos => callWith callPos f first (backTo pos (starEach args c.env)) []) _ _ s₂
  unfold methodCallPos
  rw [if_pos (by rw [h3]; rfl)]
  exact wpAny_bind (wpAny_pure (w_callWith hk hf.1 hf.2 h4 h₂ s₂ R₂))
theorem m_list {l : Addr} {xs : List PV} {name : Str} {id : String} {Q : PV × List PV → St → Prop} (hl : Look σ l (.list xs)) (slot : Slot "list" name id) (hty : typeOf (.builtin id) = pure (.type "method_descriptor"))
    (h : Q (.builtin id, [.ref l]) σ) : WMeth c (.ref l) name Q σ := fun ov pl e s R => by
  cases e
  obtain ⟨vs, n, hv, ho⟩ := hl.list R
  exact getMethod_list_of slot hty (isList_of ho) ⟨_, ho, rfl⟩ ⟨(.builtin id, [.ref l]), σ, ⟨rfl, .cons rfl .nil⟩, R, h⟩
theorem w_call {func : Expr} {args : List Expr} {pos : Pos}
    (h : Wk c PV.Is (eval func c.env) (fun pf σ₁ => (∀ P, KeepOK (c.K P) pf) ∧ Wk c Are (spliced (backTo pos (starEach args c.env))) (fun ps σ₂ => WCall c pf ps Q σ₂) σ₁) σ)
    (he : eval (.Call func args [] pos) c.env = (do let f ← eval func c.env; callWith pos f [] (backTo pos (starEach args c.env)) []) := by rfl) (h4 : (backTo pos (starEach args c.env)).any (·.1) = false := by rfl) :
    Wk c PV.Is (eval (.Call func args [] pos) c.env) Q σ := fun s R => by
  rw [he]
  exact wpAny_bind (wpAny_mono (h s R) (by rintro f s₁ ⟨pf, σ₁, hf, R₁, hk, h₁⟩; exact w_callWith (fps := []) hk hf .nil h4 h₁ s₁ R₁) fun _ _ e => e)

theorem seq_next {rest : List Stmt} {Q : PF → St → Prop} (h : Wk c PF.Is (execs rest c.env) Q σ) : Seq c rest Q .next σ := h
theorem seq_ret {rest : List Stmt} {Q : PF → St → Prop} {p : PV} (h : Q (.ret p) σ) : Seq c rest Q (.ret p) σ := h
theorem seq_brk {rest : List Stmt} {Q : PF → St → Prop} (h : Q .brk σ) : Seq c rest Q .brk σ := h
theorem seq_cont {rest : List Stmt} {Q : PF → St → Prop} (h : Q .cont σ) : Seq c rest Q .cont σ := h
theorem wite {b : Bool} {A B : Prop} (h1 : b = true → A) (h2 : b = false → B) : if b = true then A else B := by cases b <;> simp_all
theorem wt {A B : Prop} (h : A) : if true = true then A else B := by simpa using h
theorem wf {A B : Prop} (h : B) : if false = true then A else B := by simpa using h
theorem log2_small {b : Int} (h : 0 ≤ b ∧ b ≤ 10 ^ 18) : b.natAbs.log2 < 9000 := by
  by_cases h0 : b.natAbs = 0
  · rw [h0]; decide
  · refine (Nat.log2_lt h0).mpr (Nat.lt_of_le_of_lt (m := 10 ^ 18) (by omega) (Nat.lt_of_lt_of_le (m := 2 ^ 60) (by decide) (Nat.pow_le_pow_right (by decide) (by decide))))
theorem bits_small {b : Int} (h : -(2 ^ 62) ≤ b ∧ b ≤ 2 ^ 62) : Builtin.Int.intBits b ≤ 64 := by
  unfold Builtin.Int.intBits
  split
  · decide
  · rename_i hb
    have h0 : b.natAbs ≠ 0 := fun e => hb (by simpa using Int.natAbs_eq_zero.mp e)
    have : b.natAbs.log2 < 63 := (Nat.log2_lt h0).mpr (Nat.lt_of_le_of_lt (m := 2 ^ 62) (by omega) (by decide))
    omega
end
end
section
set_option maxRecDepth 100000
set_option linter.unusedVariables false

/-- the same place, with another end for what is raised and more that is kept -/
structure Sib (c c' : Cx) : Prop where
  K : c'.K = c.K
  n : c'.n = c.n
  prog : c'.prog = c.prog
  w : c'.w = c.w
  A : c'.A = c.A
  env : c'.env = c.env
  names : c'.names = c.names
  gl : c'.gl = c.gl
  cl : c'.cl = c.cl
noncomputable def Cx.sib (c : Cx) (E : Value → Shared → Prop) (rsv : List (Addr × Obj)) (exc : List Addr) : Cx := { c with E := E, rsv := rsv, exc := exc }
theorem Cx.sib_is (c : Cx) (E : Value → Shared → Prop) (rsv : List (Addr × Obj)) (exc : List Addr) : Sib c (c.sib E rsv exc) := ⟨rfl, rfl, rfl, rfl, rfl, rfl, rfl, rfl, rfl⟩
theorem Ok.sib {c : Cx} (h : Ok c) (E : Value → Shared → Prop) (rsv : List (Addr × Obj)) (exc : List Addr) : Ok (c.sib E rsv exc) := ⟨h.sta, h.hh, h.kind, h.nod, h.nd, h.loc, h.gl, h.eg, h.eb, h.cl, h.depth, h.units, h.ofn, h.below⟩
theorem Ok.unsib {c : Cx} {E : Value → Shared → Prop} {rsv : List (Addr × Obj)} {exc : List Addr} (h : Ok (c.sib E rsv exc)) : Ok c := ⟨h.sta, h.hh, h.kind, h.nod, h.nd, h.loc, h.gl, h.eg, h.eb, h.cl, h.depth, h.units, h.ofn, h.below⟩
theorem Rl.sib {c : Cx} {σ : St} {s : Shared} (R : Rl c σ s) (E : Value → Shared → Prop) {rsv : List (Addr × Obj)} {exc : List Addr} (hr : ∀ p ∈ rsv, s.heap.get? p.1 = some p.2 ∧ p.1 ≠ c.env.locals ∧ p.1 ∉ Adr σ.led ∧ p.1 ∉ c.ofr.map (·.1))
    (he : ∀ b ∈ exc, (s.heap.get? b).isSome = true ∧ b ≠ c.env.locals ∧ b ∉ Adr σ.led ∧ b ∉ Adr σ.fz) : Rl (c.sib E rsv exc) σ s :=
  ⟨R.ok.sib E rsv exc, R.gens, R.drawn, R.os, R.fr, R.led, R.nod, R.fz, R.sub, hr, he, R.ofo, R.ofr⟩
theorem Rl.unsib {c : Cx} {σ : St} {s : Shared} {E : Value → Shared → Prop} {rsv : List (Addr × Obj)} {exc : List Addr} (R : Rl (c.sib E rsv exc) σ s) (hr : ∀ p ∈ c.rsv, p ∈ rsv) (he : ∀ p ∈ c.exc, p ∈ exc) : Rl c σ s :=
  ⟨R.ok.unsib, R.gens, R.drawn, R.os, R.fr, R.led, R.nod, R.fz, R.sub, fun p hp => R.rsv p (hr p hp), fun p hp => R.exc p (he p hp), R.ofo, R.ofr⟩

noncomputable def Turn (Q : PF → St → Prop) (I : St → Prop) (pf : PF) (σ : St) : Prop := match pf with
  | .next => I σ
  | .cont => I σ
  | .brk => Q .next σ
  | .ret p => Q (.ret p) σ

section
variable {c : Cx} {σ : St}

theorem s_while {test : Expr} {body : List Stmt} {pos : Pos} {Q : PF → St → Prop} (Inv : Nat → St → Prop) {n₀ : Nat} (h0 : Inv n₀ σ)
    (turn : ∀ c', Sib c c' → ∀ n σ₁, Inv n σ₁ → Wk c' Same (isTrue test c'.env (eval test c'.env)) (fun b σ₂ => if b = true then Wk c' PF.Is (execs body c'.env) (Turn Q fun σ₃ => ∃ m, m < n ∧ Inv m σ₃) σ₂ else Q .next σ₂) σ₁) :
    Wk c PF.Is (exec (.While test body [] pos) c.env) Q σ := fun s R => by
  refine wpAny_While (codeAny_whileLoop (fun n s => ∃ σ', Rl c σ' s ∧ Inv n σ') (fun n s₁ hpat => ?_) n₀ ⟨σ, R, h0⟩)
  obtain ⟨σ₁, R₁, h₁⟩ := hpat
  let E' : Value → Shared → Prop := notedBy (model c.prog c.w) c.A c.env fun e s' => cameBackBy (model c.prog c.w) c.A c.env c.E e s'
  have T := turn (c.sib E' c.rsv c.exc) (c.sib_is E' c.rsv c.exc) n σ₁ h₁ s₁ (R₁.sib E' R₁.rsv R₁.exc)
  refine wpAny_mono T (fun b s₂ hpat => ?_) fun _ _ e => e
  obtain ⟨b', σ₂, hb, R₂, h₂⟩ := hpat
  cases hb
  split at h₂
  · rename_i hb
    rw [if_pos hb]
    refine wpAny_mono (h₂ s₂ R₂) (fun f s₃ hpat => ?_) fun _ _ e => e
    obtain ⟨pf, σ₃, hf, R₃, h₃⟩ := hpat
    have R₃' := R₃.unsib (fun _ h => h) fun _ h => h
    cases pf with
    | next => cases hf; obtain ⟨m, hm, hI⟩ := h₃; exact ⟨m, hm, σ₃, R₃', hI⟩
    | cont => cases hf; obtain ⟨m, hm, hI⟩ := h₃; exact ⟨m, hm, σ₃, R₃', hI⟩
    | brk => cases hf; exact ⟨.next, σ₃, rfl, R₃', h₃⟩
    | ret p => obtain ⟨v, rfl, hv⟩ := hf; exact ⟨.ret p, σ₃, ⟨v, rfl, hv⟩, R₃', h₃⟩
  · rename_i hb
    rw [if_neg hb]
    exact wpAny_execs_nil ⟨.next, σ₂, rfl, R₂.unsib (fun _ h => h) fun _ h => h, h₂⟩

theorem Rl.push0 {s : Shared} {o : Obj} {t : Nat} (R : Rl c σ s) : Rl c σ { heap := s.heap.push o, gens := s.gens, drawn := s.drawn, toks := t, os := s.os } := by
  obtain ⟨m, F, L⟩ := R.fr
  have up : ∀ {a : Addr} {y : AO}, Has c.w.params s.heap a y → Has c.w.params (s.heap.push o) a y := fun ⟨o', ho, hi⟩ => ⟨o', Heap.get?_push_of_some _ ho, hi⟩
  exact ⟨R.ok, R.gens, R.drawn, R.os, ⟨m, F.push o, L⟩, fun p hp => ⟨up (R.led p hp).1, (R.led p hp).2⟩, R.nod, fun p hp => ⟨up (R.fz p hp).1, (R.fz p hp).2⟩, R.sub, fun p hp => ⟨Heap.get?_push_of_some _ (R.rsv p hp).1, (R.rsv p hp).2⟩, fun b hb => ⟨by obtain ⟨o', ho⟩ := Option.isSome_iff_exists.mp (R.exc b hb).1; rw [Heap.get?_push_of_some _ ho]; rfl, (R.exc b hb).2⟩, R.ofo.mono fun p hp _ e => Heap.get?_push_of_some _ e, R.ofr⟩

/-- a change of what σ does not tell -/
theorem Rl.apart {s : Shared} {h' : Heap} {t : Nat} {wr : List Addr} (R : Rl c σ s) (hk : ∀ b o, b ∉ wr → s.heap.get? b = some o → h'.get? b = some o)
    (hw : ∀ b ∈ wr, b ≠ c.env.locals ∧ b ∉ Adr σ.led ∧ c.h₀.get? b = none ∧ b ∉ Adr σ.fz ∧ b ∉ c.rsv.map (·.1) ∧ b ∉ c.exc ∧ b ∉ c.ofr.map (·.1)) : Rl c σ { heap := h', gens := s.gens, drawn := s.drawn, toks := t, os := s.os } := by
  obtain ⟨m, F, L⟩ := R.fr
  obtain ⟨oL, es, ep, hL, r⟩ := F.ns
  refine ⟨R.ok, R.gens, R.drawn, R.os, ⟨m, ⟨⟨oL, es, ep, hk _ _ (fun hm => (hw _ hm).1 rfl) hL, r⟩, fun b o e => hk _ _ (fun hm => by rw [(hw _ hm).2.2.1] at e; cases e) (F.keep b o e), F.above⟩, L⟩, fun p hp => ⟨?_, (R.led p hp).2⟩, R.nod, fun p hp => ⟨?_, (R.fz p hp).2⟩, R.sub, fun p hp => ⟨?_, (R.rsv p hp).2⟩, fun b hb => ⟨?_, (R.exc b hb).2⟩, R.ofo.mono fun p hp _ e => hk _ _ (fun hm => (hw _ hm).2.2.2.2.2.2 (List.mem_map_of_mem hp)) e, R.ofr⟩
  · obtain ⟨o, ho, hi⟩ := (R.led p hp).1
    exact ⟨o, hk _ _ (fun hm => (hw _ hm).2.1 (List.mem_map_of_mem hp)) ho, hi⟩
  · obtain ⟨o, ho, hi⟩ := (R.fz p hp).1
    exact ⟨o, hk _ _ (fun hm => (hw _ hm).2.2.2.1 (List.mem_map_of_mem hp)) ho, hi⟩
  · exact hk _ _ (fun hm => (hw _ hm).2.2.2.2.1 (List.mem_map_of_mem hp)) (R.rsv p hp).1
  · obtain ⟨o', ho⟩ := Option.isSome_iff_exists.mp (R.exc b hb).1
    rw [hk _ _ (fun hm => (hw _ hm).2.2.2.2.2.1 hb) ho]; rfl

theorem Rl.stays {s : Shared} {h' : Heap} {t : Nat} (R : Rl c σ s) (hk : s.heap.StaysIn h') : Rl c σ { heap := h', gens := s.gens, drawn := s.drawn, toks := t, os := s.os } := R.apart (wr := []) (fun b o _ e => hk b o e) (fun b hb => nomatch hb)

/-- one object that σ does not tell is changed -/
theorem Rl.but {s : Shared} {h' : Heap} {t : Nat} {D : Addr} (R : Rl c σ s) (hs : Heap.SameBut D s.heap h') (h1 : D ≠ c.env.locals) (h2 : D ∉ Adr σ.led) (h3 : c.h₀.get? D = none) (h4 : D ∉ Adr σ.fz) (h5 : D ∉ c.rsv.map (·.1)) (h6 : D ∈ c.exc → ∃ o, h'.get? D = some o) (h7 : D ∉ c.ofr.map (·.1)) :
    Rl c σ { heap := h', gens := s.gens, drawn := s.drawn, toks := t, os := s.os } := by
  obtain ⟨m, F, L⟩ := R.fr
  have hk : ∀ {b}, b ≠ D → h'.get? b = s.heap.get? b := fun {b} h => hs.2 b h
  refine ⟨R.ok, R.gens, R.drawn, R.os, ⟨m, F.change hs h1 h3, L⟩, fun p hp => ⟨?_, (R.led p hp).2⟩, R.nod, fun p hp => ⟨?_, (R.fz p hp).2⟩, R.sub, fun p hp => ⟨?_, (R.rsv p hp).2⟩, fun b hb => ⟨?_, (R.exc b hb).2⟩, R.ofo.mono fun p hp _ e => (hk fun q => h7 (q ▸ List.mem_map_of_mem hp)).trans e, R.ofr⟩
  · obtain ⟨o, ho, hi⟩ := (R.led p hp).1
    exact ⟨o, (hk fun e => h2 (e ▸ List.mem_map_of_mem hp)).trans ho, hi⟩
  · obtain ⟨o, ho, hi⟩ := (R.fz p hp).1
    exact ⟨o, (hk fun e => h4 (e ▸ List.mem_map_of_mem hp)).trans ho, hi⟩
  · exact (hk fun e => h5 (e ▸ List.mem_map_of_mem hp)).trans (R.rsv p hp).1
  · by_cases e : b = D
    · subst e; obtain ⟨o, ho⟩ := h6 hb; rw [ho]; rfl
    · rw [hk e]; exact (R.exc b hb).1

/-- what the loop's target takes -/
noncomputable def Tgt (c : Cx) (target : Expr) (q : PV) (Q : St → Prop) (σ : St) : Prop := ∀ v, q.Is v → Wk c Same (assign target c.env v) (fun _ => Q) σ

/-- what an iterator hands out: a value, or a new tuple -/
inductive Itm where
  | val (p : PV) | tup (ps : List PV)
noncomputable def Itm.Is (old new : Heap) : Itm → Value → Prop
  | .val p, v => p.Is v
  | .tup ps, v => ∃ T vs n, v = .ref T ∧ old.objs.size ≤ T ∧ new.get? T = some { cls := .type "tuple", data := .seq vs n } ∧ Are ps vs.toList

structure Itr (prog : Program) (w : World) (A : Around) (I : Addr) (fp wr : List Addr) (items : List Itm) (target : Expr) (S : Nat → Heap → Prop) : Prop where
  sub : ∀ b ∈ wr, b ∈ fp
  frame : ∀ i h h', S i h → (∀ b ∈ fp, ∀ o, h.get? b = some o → h'.get? b = some o) → S i h'
  alive : ∀ i h, S i h → ∀ b ∈ fp, (h.get? b).isSome = true
  item : ∀ i x (s : Shared) (Q : Value → Shared → Prop) (E : Value → Shared → Prop), items[i]? = some x → S i s.heap →
    (∀ v h' tk, x.Is s.heap h' v → S (i + 1) h' → (∀ b o, b ∉ wr → s.heap.get? b = some o → h'.get? b = some o) → Q v { heap := h', gens := s.gens, drawn := s.drawn, toks := tk, os := s.os }) →
    wpAny (model prog w) A (pyNext (.ref I)) (fun r s₁ => match r with | none => False | some v => wpAny (model prog w) A (letOwnedTupleGo target (.ref I) v) (fun _ s₂ => Q v s₂) E s₁) E s
  done : ∀ (s : Shared) (Q : Option Value → Shared → Prop) (E : Value → Shared → Prop), S items.length s.heap →
    (∀ h' tk, (∀ b o, b ∉ wr → s.heap.get? b = some o → h'.get? b = some o) → Q none { heap := h', gens := s.gens, drawn := s.drawn, toks := tk, os := s.os }) → wpAny (model prog w) A (pyNext (.ref I)) Q E s
  self : ∀ i (s : Shared) (Q : Value → Shared → Prop) (E : Value → Shared → Prop), S i s.heap → Q (.ref I) s → wpAny (model prog w) A (pyIter (.ref I)) Q E s

/-- the iterator over p is made: σ₁ is told behind it -/
noncomputable def Itb (c : Cx) (p : PV) (items : List Itm) (target : Expr) (σ₁ σ : St) : Prop :=
  ∀ s v (Q E : Value → Shared → Prop), Rl c σ s → p.Is v →
    (∀ I fp wr S h' tk, Itr c.prog c.w c.A I fp wr items target S → S 0 h' →
      Rl c σ₁ { heap := h', gens := s.gens, drawn := s.drawn, toks := tk, os := s.os } → (∀ b ∈ fp, b ≠ c.env.locals ∧ b ∉ Adr σ₁.led ∧ b ∉ c.ofr.map (·.1)) →
      (∀ b ∈ wr, c.h₀.get? b = none ∧ b ∉ Adr σ₁.fz ∧ b ∉ c.rsv.map (·.1) ∧ b ∉ c.exc) → Q (.ref I) { heap := h', gens := s.gens, drawn := s.drawn, toks := tk, os := s.os }) →
    wpAny (model c.prog c.w) c.A (pyIter v) Q E s

/-- what the turn's target takes, and goes on -/
noncomputable def Takes (c : Cx) (target : Expr) (x : Itm) (Q : St → Prop) (σ : St) : Prop := match x with
  | .val p => Tgt c target p Q σ
  | .tup ps => ∀ T, Tgt c target (.ref T) Q ⟨σ.loc, (T, .tuple ps) :: σ.led, σ.fz⟩

/-- a new object that is there already -/
theorem Rl.add {s s' : Shared} {a : Addr} {x : AO} (R : Rl c σ s') (hx : Has c.w.params s'.heap a x) (hL : a ≠ c.env.locals) (h0 : c.h₀.get? a = none) (h1 : a ∉ Adr σ.led) (h2 : a ∉ Adr σ.fz) (h3 : a ∉ c.rsv.map (·.1)) (h4 : a ∉ c.exc) (h5 : a ∉ c.ofr.map (·.1)) :
    Rl c ⟨σ.loc, (a, x) :: σ.led, σ.fz⟩ s' := by
  refine ⟨R.ok, R.gens, R.drawn, R.os, R.fr, fun p hp => ?_, List.nodup_cons.mpr ⟨h1, R.nod⟩, fun p hp => ?_, R.sub, fun p hp => ?_, fun b hb => ?_, R.ofo, fun p hp => ⟨(R.ofr p hp).1, fun hm => ?_, (R.ofr p hp).2.2⟩⟩
  · rcases List.mem_cons.mp hp with rfl | hp
    · exact ⟨hx, hL, h0⟩
    · exact R.led p hp
  · refine ⟨(R.fz p hp).1, (R.fz p hp).2.1, fun hm => ?_, (R.fz p hp).2.2.2⟩
    rcases List.mem_cons.mp hm with e | hm
    · exact h2 ((show p.1 = a from e) ▸ List.mem_map_of_mem hp)
    · exact (R.fz p hp).2.2.1 hm
  · refine ⟨(R.rsv p hp).1, (R.rsv p hp).2.1, fun hm => ?_, (R.rsv p hp).2.2.2⟩
    rcases List.mem_cons.mp hm with e | hm
    · exact h3 ((show p.1 = a from e) ▸ List.mem_map_of_mem hp)
    · exact (R.rsv p hp).2.2.1 hm
  · refine ⟨(R.exc b hb).1, (R.exc b hb).2.1, fun hm => ?_, (R.exc b hb).2.2.2⟩
    rcases List.mem_cons.mp hm with e | hm
    · exact h4 ((show b = a from e) ▸ hb)
    · exact (R.exc b hb).2.2.1 hm
  · rcases List.mem_cons.mp hm with e | hm
    · exact h5 ((show p.1 = a from e) ▸ List.mem_map_of_mem hp)
    · exact (R.ofr p hp).2.1 hm

theorem Rl.low {s : Shared} (R : Rl c σ s) {T : Addr} (h : s.heap.objs.size ≤ T) : T ≠ c.env.locals ∧ c.h₀.get? T = none ∧ T ∉ Adr σ.led ∧ T ∉ Adr σ.fz ∧ T ∉ c.rsv.map (·.1) ∧ T ∉ c.exc ∧ T ∉ c.ofr.map (·.1) := by
  have no : ∀ o, s.heap.get? T ≠ some o := fun o e => absurd (Heap.lt_size e) (Nat.not_lt.mpr h)
  obtain ⟨m, F, L⟩ := R.fr
  refine ⟨fun e => ?_, ?_, fun hm => ?_, fun hm => ?_, fun hm => ?_, fun hm => ?_, fun hm => ?_⟩
  · obtain ⟨oL, _, _, hL, _⟩ := F.ns
    exact no _ (e ▸ hL)
  · cases q : c.h₀.get? T with
    | none => rfl
    | some o => exact absurd (F.keep _ _ q) (no _)
  · obtain ⟨p, hp, rfl⟩ := List.mem_map.mp hm
    obtain ⟨⟨o, ho, _⟩, _⟩ := R.led p hp
    exact no _ ho
  · obtain ⟨p, hp, rfl⟩ := List.mem_map.mp hm
    obtain ⟨⟨o, ho, _⟩, _⟩ := R.fz p hp
    exact no _ ho
  · obtain ⟨p, hp, rfl⟩ := List.mem_map.mp hm
    exact no _ (R.rsv p hp).1
  · obtain ⟨o, ho⟩ := Option.isSome_iff_exists.mp (R.exc T hm).1
    exact no _ ho
  · obtain ⟨o, ho⟩ := R.ofrSome hm
    exact no _ ho

/-- the item in hand, the target takes it -/
theorem Takes.go {target : Expr} {x : Itm} {K : St → Prop} (h : Takes c target x K σ) {s s' : Shared} {v : Value} (hx : x.Is s.heap s'.heap v) (Rs : Rl c σ s) (R : Rl c σ s') :
    wpAny (model c.prog c.w) c.A (assign target c.env v) (fun _ s₂ => ∃ σ₂, Rl c σ₂ s₂ ∧ K σ₂) c.E s' := by
  cases x with
  | val p => exact wpAny_mono (h v hx s' R) (by rintro _ _ ⟨_, σ₂, _, R₂, k⟩; exact ⟨σ₂, R₂, k⟩) fun _ _ e => e
  | tup ps =>
    obtain ⟨T, vs, n, rfl, hT, ho, ha⟩ := hx
    obtain ⟨l1, l2, l3, l4, l5, l6, l7⟩ := Rs.low hT
    exact wpAny_mono (h T _ rfl s' (R.add (s := s) ⟨_, ho, vs.toList, n, ha, by simp⟩ l1 l2 l3 l4 l5 l6 l7)) (by rintro _ _ ⟨_, σ₂, _, R₂, k⟩; exact ⟨σ₂, R₂, k⟩) fun _ _ e => e

theorem s_forX {target iter : Expr} {body : List Stmt} {pos : Pos} {Q : PF → St → Prop}
    (h : Wk c PV.Is (eval iter c.env) (fun p σ' => ∃ (items : List Itm) (σ₁ : St) (Inv : Nat → St → Prop), Itb c p items target σ₁ σ' ∧ Inv 0 σ₁ ∧
      (∀ c', Sib c c' → ∀ i σ₂ x, items[i]? = some x → Inv i σ₂ → Takes c' target x (fun σ₃ => Wk c' PF.Is (execs body c'.env) (Turn Q (Inv (i + 1))) σ₃) σ₂) ∧ ∀ σ₂, Inv items.length σ₂ → Q .next σ₂) σ)
    (hfo : ∀ x, foldedSetIterable iter c.env x = pure x := by intro _; rfl) : Wk c PF.Is (exec (.For target iter body [] pos) c.env) Q σ := fun s R => by
  refine wpAny_For (wpAny_mono (h s R) (fun v s₁ hpat => ?_) fun _ _ e => e) hfo
  obtain ⟨p', σ', hv, R₁, items, σ₁, Inv, hit, h0, turn, done⟩ := hpat
  refine hit s₁ v _ _ R₁ hv ?_
  intro I fp wr S h' tk W st R₂ hfp hwr
  let E' : Value → Shared → Prop := notedBy (model c.prog c.w) c.A c.env fun e s' => cameBackBy (model c.prog c.w) c.A c.env c.E e s'
  -- the state at the head of a turn, with how many are left
  let J : Nat → Shared → Prop := fun n s => ∃ i σ₂, n = items.length - i ∧ i ≤ items.length ∧ Rl c σ₂ s ∧ Inv i σ₂ ∧ S i s.heap ∧ (∀ b ∈ fp, b ≠ c.env.locals ∧ b ∉ Adr σ₂.led ∧ b ∉ c.ofr.map (·.1)) ∧ (∀ b ∈ wr, c.h₀.get? b = none ∧ b ∉ Adr σ₂.fz ∧ b ∉ c.rsv.map (·.1) ∧ b ∉ c.exc)
  refine codeAny_forLoop_any J (fun n s₂ hJ => ?_) items.length ⟨0, σ₁, rfl, Nat.zero_le _, R₂, h0, st, hfp, hwr⟩
  obtain ⟨i, σ₂, rfl, hi, R₃, hI, st₃, hfp₃, hwr₃⟩ := hJ
  have hsub := W.sub
  have all : ∀ b ∈ wr, b ≠ c.env.locals ∧ b ∉ Adr σ₂.led ∧ c.h₀.get? b = none ∧ b ∉ Adr σ₂.fz ∧ b ∉ c.rsv.map (·.1) ∧ b ∉ c.exc ∧ b ∉ c.ofr.map (·.1) := fun b hb => ⟨(hfp₃ b (hsub b hb)).1, (hfp₃ b (hsub b hb)).2.1, (hwr₃ b hb).1, (hwr₃ b hb).2.1, (hwr₃ b hb).2.2.1, (hwr₃ b hb).2.2.2, (hfp₃ b (hsub b hb)).2.2⟩
  by_cases hlt' : i < items.length
  · have hx : items[i]? = some items[i] := List.getElem?_eq_getElem hlt'
    refine wpAny_mono (W.item i items[i] s₂ (fun v s₃ => wpAny (model c.prog c.w) c.A (assign target c.env v) (fun _ s₂ => wpAny (model c.prog c.w) c.A (execs body c.env) (fun f s₃ => match f with
            | .next | .cont => ∃ m, m < items.length - i ∧ J m s₃
            | .brk => ∃ p σ', PF.Is p Flow.next ∧ Rl c σ' s₃ ∧ Q p σ'
            | .ret v => ∃ p σ', PF.Is p (Flow.ret v) ∧ Rl c σ' s₃ ∧ Q p σ') E' s₂) E' s₃) E' hx st₃ ?_) (fun r s₃ h₃ => ?_) fun _ _ e => e
    · intro v h₄ t₄ hxv st₄ hk
      have R₄ := R₃.apart (t := t₄) hk all
      let rs : List (Addr × Obj) := fp.filterMap fun b => (h₄.get? b).map fun o => (b, o)
      have hrs : ∀ p ∈ rs ++ c.rsv, h₄.get? p.1 = some p.2 ∧ p.1 ≠ c.env.locals ∧ p.1 ∉ Adr σ₂.led ∧ p.1 ∉ c.ofr.map (·.1) := fun p hp => by
        rcases List.mem_append.mp hp with hp | hp
        · obtain ⟨b, hb, e⟩ := List.mem_filterMap.mp hp
          obtain ⟨o, ho, rfl⟩ := Option.map_eq_some_iff.mp e
          exact ⟨ho, hfp₃ b hb⟩
        · exact R₄.rsv p hp
      have hrs0 : ∀ p ∈ rs ++ c.rsv, (s₂.heap.get? p.1).isSome = true := fun p hp => by
        rcases List.mem_append.mp hp with hp | hp
        · obtain ⟨b, hb, e⟩ := List.mem_filterMap.mp hp
          obtain ⟨o, ho, rfl⟩ := Option.map_eq_some_iff.mp e
          exact W.alive _ _ st₃ b hb
        · rw [(R₃.rsv p hp).1]; rfl
      have hes : ∀ b ∈ wr ++ c.exc, (h₄.get? b).isSome = true ∧ b ≠ c.env.locals ∧ b ∉ Adr σ₂.led ∧ b ∉ Adr σ₂.fz := fun b hb => by
        rcases List.mem_append.mp hb with hb | hb
        · exact ⟨W.alive _ _ st₄ b (hsub b hb), (all b hb).1, (all b hb).2.1, (all b hb).2.2.2.1⟩
        · exact R₄.exc b hb
      have R₅ : Rl (c.sib E' (rs ++ c.rsv) (wr ++ c.exc)) σ₂ _ := R₄.sib E' hrs hes
      have tk := turn (c.sib E' (rs ++ c.rsv) (wr ++ c.exc)) (c.sib_is E' _ _) i σ₂ _ hx hI
      have go : wpAny (model c.prog c.w) c.A (assign target c.env v) (fun _ s₅ => ∃ σ₃, Rl (c.sib E' (rs ++ c.rsv) (wr ++ c.exc)) σ₃ s₅ ∧ Wk (c.sib E' (rs ++ c.rsv) (wr ++ c.exc)) PF.Is (execs body c.env) (Turn Q (Inv (i + 1))) σ₃) E'
          { heap := h₄, gens := s₂.gens, drawn := s₂.drawn, toks := t₄, os := s₂.os } := by
        cases hq : items[i] with
        | val p => rw [hq] at tk hxv; exact wpAny_mono (tk v hxv _ R₅) (by rintro _ _ ⟨_, σ₂, _, R₂, k⟩; exact ⟨σ₂, R₂, k⟩) fun _ _ e => e
        | tup ps =>
          rw [hq] at tk hxv
          obtain ⟨T, vs, n, rfl, hT, ho, ha⟩ := hxv
          obtain ⟨l1, l2, l3, l4, _, _, l7⟩ := R₃.low hT
          have no : ∀ b, (s₂.heap.get? b).isSome = true → T ≠ b := fun b hb e => by
            subst e
            obtain ⟨o, e⟩ := Option.isSome_iff_exists.mp hb
            exact absurd (Heap.lt_size e) (Nat.not_lt.mpr hT)
          refine wpAny_mono (tk T _ rfl _ (R₅.add (s := s₂) ⟨_, ho, vs.toList, n, ha, by simp⟩ l1 l2 l3 l4 (fun hm => ?_) (fun hm => ?_) l7)) (by rintro _ _ ⟨_, σ₂, _, R₂, k⟩; exact ⟨σ₂, R₂, k⟩) fun _ _ e => e
          · obtain ⟨p, hp, e⟩ := List.mem_map.mp hm
            exact no _ (hrs0 p hp) e.symm
          · rcases List.mem_append.mp hm with hm | hm
            · exact no _ (W.alive _ _ st₃ T (hsub T hm)) rfl
            · exact no _ (R₃.exc T hm).1 rfl
      refine wpAny_mono go (fun _ s₅ hpat => ?_) fun _ _ e => e
      obtain ⟨σ₃, R₆, h₆⟩ := hpat
      refine wpAny_mono (h₆ s₅ R₆) (fun f s₆ hpat => ?_) fun _ _ e => e
      obtain ⟨pf, σ₄, hf, R₇, h₇⟩ := hpat
      have R₈ : Rl c σ₄ s₆ := R₇.unsib (fun _ h => List.mem_append_right _ h) fun _ h => List.mem_append_right _ h
      have keptAll : ∀ b ∈ fp, ∀ o, h₄.get? b = some o → s₆.heap.get? b = some o ∧ b ≠ c.env.locals ∧ b ∉ Adr σ₄.led ∧ b ∉ c.ofr.map (·.1) := fun b hb o ho =>
        R₇.rsv (b, o) (List.mem_append_left _ (List.mem_filterMap.mpr ⟨b, hb, by rw [ho]; rfl⟩))
      have st₆ : S (i + 1) s₆.heap := W.frame (i + 1) h₄ s₆.heap st₄ fun b hb o ho => (keptAll b hb o ho).1
      have nxt : Inv (i + 1) σ₄ → ∃ m, m < items.length - i ∧ J m s₆ := fun hI' => by
        refine ⟨items.length - (i + 1), by omega, i + 1, σ₄, rfl, hlt', R₈, hI', st₆, fun b hb => ?_, fun b hb => ⟨(hwr₃ b hb).1, (R₇.exc b (List.mem_append_left _ hb)).2.2.2, (hwr₃ b hb).2.2⟩⟩
        obtain ⟨o, ho⟩ := Option.isSome_iff_exists.mp (W.alive _ _ st₄ b hb)
        exact (keptAll b hb o ho).2
      cases pf with
      | next => cases hf; exact nxt h₇
      | cont => cases hf; exact nxt h₇
      | brk => cases hf; exact ⟨.next, σ₄, rfl, R₈, h₇⟩
      | ret p => obtain ⟨v, rfl, hv⟩ := hf; exact ⟨.ret p, σ₄, ⟨v, rfl, hv⟩, R₈, h₇⟩
    · cases r with
      | none => exact h₃.elim
      | some v => exact h₃
  · have hi' : i = items.length := by omega
    subst hi'
    refine W.done s₂ _ _ st₃ ?_
    intro h₄ t₄ hk
    exact wpAny_execs_nil ⟨.next, σ₂, rfl, R₃.apart (t := t₄) hk all, done _ hI⟩
theorem s_for {target iter : Expr} {body : List Stmt} {pos : Pos} {Q : PF → St → Prop} {items : List Itm} {σ₁ : St} (Inv : Nat → St → Prop)
    (hiter : Wk c PV.Is (eval iter c.env) (fun p σ' => Itb c p items target σ₁ σ') σ) (h0 : Inv 0 σ₁)
    (turn : ∀ c', Sib c c' → ∀ i σ₂ x, items[i]? = some x → Inv i σ₂ → Takes c' target x (fun σ₃ => Wk c' PF.Is (execs body c'.env) (Turn Q (Inv (i + 1))) σ₃) σ₂)
    (done : ∀ σ₂, Inv items.length σ₂ → Q .next σ₂) (hfo : ∀ x, foldedSetIterable iter c.env x = pure x := by intro _; rfl) : Wk c PF.Is (exec (.For target iter body [] pos) c.env) Q σ :=
  s_forX (hiter.mono fun p σ' h => ⟨items, σ₁, Inv, h, h0, turn, done⟩) hfo
end
end
section
set_option maxRecDepth 100000
set_option linter.unusedVariables false

/-- what is kept of a ledger, what is frozen, what is let go -/
noncomputable def Fit (P : List (Addr × AO) → List (Addr × AO) → Prop) (σ : St) : Prop := ∃ mu rem fr rest, Take σ.led mu rem ∧ Take rem fr rest ∧ P mu (fr ++ σ.fz)

/-- the comprehension's place beside the def's -/
noncomputable def Cx.comp (c : Cx) (scope : Scope) (cl : List (Str × Addr)) (C : Addr) (h₀ : Heap) (E : Value → Shared → Prop) (cn : List Str) (gl : List (Str × PV)) (ccl : List (Str × Addr)) (fz₀ : List (Addr × AO)) (rsv : List (Addr × Obj)) (exc : List Addr) (ofr : List (Addr × Obj)) : Cx :=
  { K := c.K, n := c.n, prog := c.prog, w := c.w, A := c.A, env := compEnvC scope cl C c.env, h₀ := h₀, s₀ := c.s₀, E := E, names := cn, gl := gl, cl := ccl, fz₀ := fz₀, rsv := rsv, exc := exc, ofr := ofr }

structure CSib (c : Cx) (scope : Scope) (cn : List Str) (gl : List (Str × PV)) (ccl : List (Str × Addr)) (c' : Cx) : Prop where
  K : c'.K = c.K
  n : c'.n = c.n
  prog : c'.prog = c.prog
  w : c'.w = c.w
  names : c'.names = cn
  gl : c'.gl = gl
  cl : c'.cl = ccl

/-- what is to be known of a comprehension's scope -/
structure CompOK (c : Cx) (scope : Scope) (cl : List (Str × Addr)) (cn : List Str) (gl : List (Str × PV)) (ccl : List (Str × Addr)) : Prop where
  clos : closureFor scope c.env = pure cl
  kind : scope.kind = .function
  names : ∀ x ∈ scope.names, x.2 = .local → scope.names.lookup x.1 = some .local
  cell : ∀ x ∈ scope.names, x.2 ≠ .cell
  nod : cn.Nodup
  loc : ∀ x ∈ cn, scope.names.lookup x = some .local ∧ (x == ("__debug__" : Str)) = false
  glk : ∀ p ∈ gl, scope.names.lookup p.1 = some .globalImplicit ∧ (p.1 == ("__debug__" : Str)) = false
  glv : ∀ p ∈ gl, Glo c.K p.1 p.2
  ccl : ∀ p ∈ ccl, cl.lookup p.1 = some p.2 ∧ scope.names.lookup p.1 = some .free ∧ (p.1 == ("__debug__" : Str)) = false ∧ (p.1 == ("__classdict__" : Str)) = false

theorem lookup_relabel {env : Env} {x : Str} : ∀ {names : List (Str × NameKind)} {k : NameKind}, names.lookup x = some k →
    (names.map fun (n, k) => if (k == NameKind.free && env.scope.kind == .function && env.kindOf n == some .cell) then (n, NameKind.cell) else (n, k)).lookup x = some k ∨
    (k = .free ∧ (names.map fun (n, k) => if (k == NameKind.free && env.scope.kind == .function && env.kindOf n == some .cell) then (n, NameKind.cell) else (n, k)).lookup x = some .cell)
  | [], _, h => by simp at h
  | (n, k') :: r, k, h => by
    have ih := @lookup_relabel env x r
    rw [List.map_cons]
    show (List.lookup x ((if (k' == NameKind.free && env.scope.kind == .function && env.kindOf n == some .cell) = true then (n, NameKind.cell) else (n, k')) :: _) = _) ∨ (_ ∧ List.lookup x ((if (k' == NameKind.free && env.scope.kind == .function && env.kindOf n == some .cell) = true then (n, NameKind.cell) else (n, k')) :: _) = _)
    by_cases hc : (k' == NameKind.free && env.scope.kind == .function && env.kindOf n == some .cell) = true
    · rw [if_pos hc]
      cases hx : x == n with
      | true =>
        simp only [List.lookup_cons, hx] at h ⊢
        cases h
        simp only [Bool.and_eq_true, beq_iff_eq] at hc
        exact .inr ⟨hc.1.1, trivial⟩
      | false => simp only [List.lookup_cons, hx] at h ⊢; exact ih h
    · rw [if_neg hc]
      cases hx : x == n with
      | true => simp only [List.lookup_cons, hx] at h ⊢; exact .inl h
      | false => simp only [List.lookup_cons, hx] at h ⊢; exact ih h

section
variable {c : Cx} {σ : St}

noncomputable def Tests (c : Cx) (ifs : List Expr) (Q : Bool → St → Prop) (σ : St) : Prop :=
  Wk c Same (forIn ifs true fun e r => if r = true then do let ok ← isTrue e c.env (eval e c.env); pure (ForInStep.yield ok) else pure (ForInStep.yield r)) Q σ
theorem tests_nil {Q : Bool → St → Prop} (h : Q true σ) : Tests c [] Q σ := fun s R => wpAny_tests_nil ⟨true, σ, rfl, R, h⟩
theorem tests_one {e : Expr} {Q : Bool → St → Prop} (h : Wk c Same (isTrue e c.env (eval e c.env)) Q σ) : Tests c [e] Q σ := fun s R => wpAny_tests_one (h s R)

theorem compLoop_any {prog : Program} {w : World} {A : Around} {R : Result → Shared → Prop} {s : Shared} {elt target iter : Expr} {ifs : List Expr} {scope : Scope} {pos : Pos} {it acc : Value} {env : Env} (I : Nat → Shared → Prop)
    (turn : ∀ n s, I n s → wpAny (model prog w) A (pyNext it) (fun r s₁ => match r with
      | none => R (.ok .next) s₁
      | some v => wpAny (model prog w) A (letOwnedTupleGo target it v) (fun _ s₁' => wpAny (model prog w) A (assign target env v) (fun _ s₂ =>
          wpAny (model prog w) A (forIn ifs true fun c r => if r = true then do let ok ← isTrue c env (eval c env); pure (ForInStep.yield ok) else pure (ForInStep.yield r)) (fun ok s₃ =>
            if ok = true then wpAny (model prog w) A (eval elt env) (fun x s₄ =>
              wpAny (model prog w) A (call (.builtin "list.append") [acc, x]) (fun _ s₅ => ∃ m, m < n ∧ I m s₅) (notedBy (model prog w) A env fun e s' => R (.error e) s') s₄) (notedBy (model prog w) A env fun e s' => R (.error e) s') s₃
            else ∃ m, m < n ∧ I m s₃) (notedBy (model prog w) A env fun e s' => R (.error e) s') s₂) (notedBy (model prog w) A env fun e s' => R (.error e) s') s₁') (notedBy (model prog w) A env fun e s' => R (.error e) s') s₁)
      (notedBy (model prog w) A env fun e s' => R (.error e) s') s)
    (n : Nat) (h : I n s) : codeAny (model prog w) A (.compLoop (.ListComp elt [⟨target, iter, ifs, 0⟩] scope pos) 0 it acc env) R s := by
  refine codeAny_loop rfl I (fun n s hI => ?_) n h
  show wpAny _ A ((compTurn (.ListComp elt [⟨target, iter, ifs, 0⟩] scope pos) 0 it acc env).onRaise (fun x => do noteFrame x env; theTreesLotGoes x)) _ _ s
  refine wpAny_noted ?_
  rw [compTurn_list]
  refine wpAny_bind (wpAny_standAt (wpAny_bind (wpAny_mono (turn n s hI) (fun r s₁ h₁ => ?_) fun _ _ h' => h')))
  cases r with
  | none => exact wpAny_pure h₁
  | some v =>
    refine wpAny_bind (wpAny_mono h₁ (fun _ s₁' h₁' => ?_) fun _ _ h' => h')
    refine wpAny_bind (wpAny_mono h₁' (fun _ s₂ h₂ => wpAny_bind (wpAny_mono h₂ (fun ok s₃ h₃ => ?_) fun _ _ h' => h')) fun _ _ h' => h')
    cases ok with
    | false => exact wpAny_pure ⟨rfl, h₃⟩
    | true =>
      exact wpAny_bind (wpAny_bind (wpAny_mono h₃ (fun x s₄ h₄ => wpAny_bind (wpAny_mono h₄ (fun _ s₅ h₅ => wpAny_pure (wpAny_pure ⟨rfl, h₅⟩)) fun _ _ h' => h')) fun _ _ h' => h'))

/-- the state at the head of a comprehension's turn -/
structure CompJ (c' : Cx) (cl : Nat) (Inv : Nat → List PV → List (Addr × AO) → List (Addr × AO) → Prop) (D C : Addr) (fp wr : List Addr) (S : Nat → Heap → Prop) (os : List Addr) (m n : Nat) (s : Shared)
    (i : Nat) (loc : List (Option PV)) (led fz : List (Addr × AO)) (acc : List PV) (ys : List Value) (k : Nat) : Prop where
  hn : n = m - i
  hi : i ≤ m
  hl : loc.length = cl
  hR : Rl c' ⟨loc, led, fz⟩ s
  hI : Inv i acc led fz
  ha : acc.length ≤ i
  hy : Are acc ys
  hD : s.heap.get? D = some (listOf ys.toArray k)
  hDl : D ∉ Adr led
  hS : S i s.heap
  hf : ∀ b ∈ fp, b ≠ C ∧ b ∉ Adr led ∧ b ∉ os
  hw : ∀ b ∈ wr, b ∉ Adr fz
theorem comp_core {target iter elt : Expr} {ifs : List Expr} {scope : Scope} {pos : Pos} {cl : List (Str × Addr)} {cn : List Str} {gl : List (Str × PV)} {ccl : List (Str × Addr)} {items : List Itm} {σ₁ : St}
    {RR : Value → Addr → Result → Shared → Prop} {E : Value → Shared → Prop} {I : Addr} {fp wr : List Addr} {S : Nat → Heap → Prop} {s₂ : Shared}
    (O : CompOK c scope cl cn gl ccl) (Inv : Nat → List PV → List (Addr × AO) → List (Addr × AO) → Prop) (hz : items.length ≤ 1000000) (h0 : Inv 0 [] σ₁.led σ₁.fz)
    (turn : ∀ c', CSib c scope cn gl ccl c' → ∀ i acc loc led fz x, items[i]? = some x → Inv i acc led fz → loc.length = cn.length → Takes c' target x (fun σ₃ => Tests c' ifs (fun ok σ₄ => if ok = true then
      Wk c' PV.Is (eval elt c'.env) (fun y σ₅ => Fit (Inv (i + 1) (acc ++ [y])) σ₅) σ₄ else Fit (Inv (i + 1) acc) σ₄) σ₃) ⟨loc, led, fz⟩)
    (W : Itr c.prog c.w c.A I fp wr items target S) (st : S 0 s₂.heap) (R₂ : Rl c σ₁ s₂) (hfp : ∀ b ∈ fp, b ≠ c.env.locals ∧ b ∉ Adr σ₁.led ∧ b ∉ c.ofr.map (·.1)) (hwr : ∀ b ∈ wr, c.h₀.get? b = none ∧ b ∉ Adr σ₁.fz ∧ b ∉ c.rsv.map (·.1) ∧ b ∉ c.exc)
    (hRR : ∀ D C s' acc led fz, Inv items.length acc led fz → Rl c ⟨σ₁.loc, (D, .list acc) :: led, fz⟩ s' → (∃ m, s'.heap.Ns C m) → C ≠ c.env.locals → C ∉ Adr ((D, AO.list acc) :: led) → C ∉ Adr fz → c.h₀.get? C = none → C ∉ c.rsv.map (·.1) → C ∉ c.exc → C ∉ c.ofr.map (·.1) → RR (.ref D) C (.ok .next) s') :
    wpAny (model c.prog c.w) c.A (newList []) (fun acc s₃ => wpAny (model c.prog c.w) c.A (newFunctionEnv scope c.env.globals cl [] c.env.qual none .none (some c.env)) (fun cenv s₄ =>
      codeAny (model c.prog c.w) c.A (.compStart (.ListComp elt [⟨target, iter, ifs, 0⟩] scope pos) 0 (.ref I) acc { cenv with scope := relabel scope c.env }) (RR acc cenv.locals) s₄) E s₃) E s₂ := by
  refine wpAny_newObj_type (wpAny_newFunctionEnv O.cell (by intro y hy; simp at hy) (fun h₁ hns₁ hsb₁ => ?_) O.kind) (by show ([] : List Value).toArray.size ≤ sizeLine; decide)
  have R₃ := R₂.push0 (o := { cls := .type "list", data := .seq ([] : List Value).toArray }) (t := s₂.toks)
  obtain ⟨d1, d2, d3, d4, d5, d6, d7⟩ := R₂.low (Nat.le_refl s₂.heap.objs.size)
  generalize hD : s₂.heap.objs.size = D at *
  generalize hH : s₂.heap.push { cls := .type "list", dict := none, data := .seq ([] : List Value).toArray } = H at *
  have hHD : H.get? D = some (listOf #[] 0) := by rw [← hH, ← hD]; exact Heap.get?_push_size _ rfl
  have hHo : ∀ b o, s₂.heap.get? b = some o → H.get? b = some o := fun b o e => hH ▸ Heap.get?_push_of_some _ e
  have hHs : H.objs.size = D + 1 := by rw [← hH, ← hD, Heap.size_push]
  obtain ⟨k1, k2, k3, k4, k5, k6, k7⟩ := R₃.low (Nat.le_refl H.objs.size)
  generalize hC : H.objs.size = C at *
  have hDC : D ≠ C := by rw [hHs]; exact Nat.ne_of_lt (Nat.lt_succ_self D)
  have hDfp : D ∉ fp := fun hm => by
    obtain ⟨o, ho⟩ := Option.isSome_iff_exists.mp (W.alive _ _ st D hm)
    exact absurd (Heap.lt_size ho) (hD ▸ Nat.lt_irrefl _)
  have hCfp : C ∉ fp := fun hm => by
    obtain ⟨o, ho⟩ := Option.isSome_iff_exists.mp (W.alive _ _ st C hm)
    have := Heap.lt_size ho
    rw [hD, hHs] at this
    exact absurd this (Nat.not_lt.mpr (Nat.le_succ D))
  let hid := Adr σ₁.led ++ D :: wr
  obtain ⟨mo, Fo, Lo⟩ := R₃.fr
  dsimp only at Fo
  obtain ⟨oL, esL, epL, hL, hLd, hLr⟩ := Fo.ns
  -- the frames' places, the def's own among them
  let fs : List Addr := c.env.locals :: c.ofr.map (·.1)
  let ofr : List (Addr × Obj) := fs.filterMap fun b => (H.get? b).map fun o => (b, o)
  have hHsome : ∀ {b : Addr}, b ∈ fs → ∃ o, H.get? b = some o ∧ (∀ vs, o.data ≠ .fields vs) ∧ (b, o) ∈ ofr := fun {b} hb => by
    have : ∃ o, H.get? b = some o ∧ ∀ vs, o.data ≠ .fields vs := by
      rcases List.mem_cons.mp hb with rfl | hb
      · exact ⟨oL, hL, fun vs q => by rw [hLd] at q; cases q⟩
      · obtain ⟨z, hz, rfl⟩ := List.mem_map.mp hb
        obtain ⟨sl, ho⟩ := R₂.ofo z hz
        exact ⟨_, hHo _ _ ho, fun vs q => (R₂.ok.ofn z hz).2 vs q⟩
    obtain ⟨o, h1, h2⟩ := this
    exact ⟨o, h1, h2, List.mem_filterMap.mpr ⟨b, hb, by rw [h1]; rfl⟩⟩
  have ofIn : ∀ {p : Addr × Obj}, p ∈ ofr → p.1 ∈ fs ∧ H.get? p.1 = some p.2 := fun {p} hp => by
    obtain ⟨b, hb, e⟩ := List.mem_filterMap.mp hp
    obtain ⟨o, ho, rfl⟩ := Option.map_eq_some_iff.mp e
    exact ⟨hb, ho⟩
  have ofMap : ∀ {b : Addr}, b ∈ ofr.map (·.1) ↔ b ∈ fs := fun {b} => ⟨fun hm => by
    obtain ⟨z, hz, rfl⟩ := List.mem_map.mp hm
    exact (ofIn hz).1, fun hb => let ⟨o, _, _, h⟩ := hHsome hb; List.mem_map.mpr ⟨(b, o), h, rfl⟩⟩
  have notFs : ∀ {b : Addr}, b ≠ c.env.locals → b ∉ c.ofr.map (·.1) → b ∉ ofr.map (·.1) := fun h1 h2 hm => (List.mem_cons.mp (ofMap.mp hm)).elim h1 h2
  let h₀ := hideAll H (hid ++ fs)
  let E' : Value → Shared → Prop := notedBy (model c.prog c.w) c.A (compEnvC scope cl C c.env) fun e s' => RR (.ref D) C (.error e) s'
  have hidden : ∀ b ∈ hid, c.h₀.get? b = none ∧ b ≠ c.env.locals := fun b hb => by
    rcases List.mem_append.mp hb with hb | hb
    · obtain ⟨p, hp, rfl⟩ := List.mem_map.mp hb
      exact ⟨(R₂.led p hp).2.2, (R₂.led p hp).2.1⟩
    · rcases List.mem_cons.mp hb with rfl | hb
      · exact ⟨d2, d1⟩
      · exact ⟨(hwr b hb).1, (hfp b (W.sub b hb)).1⟩
  have below₀ : c.h₀.StaysIn h₀ := fun b o e => hideAll_get _ (Fo.keep b o e) fun hm => by
    rcases List.mem_append.mp hm with hm | hm
    · rw [(hidden b hm).1] at e; cases e
    · rcases List.mem_cons.mp hm with rfl | hm
      · exact absurd (Heap.lt_size e) (Nat.not_lt.mpr Fo.above)
      · obtain ⟨z, hz, rfl⟩ := List.mem_map.mp hm
        rw [(R₂.ok.ofn z hz).1] at e; cases e
  -- what the frames' places tell at any heap
  have nsOf : ∀ {g : Heap}, OfrOk ofr g → g.Ns c.env.locals mo := fun {g} og => by
    obtain ⟨o, h1, _, h2⟩ := hHsome (List.mem_cons_self ..)
    rw [hL] at h1; cases h1
    obtain ⟨sl, hs⟩ := og _ h2
    exact ⟨_, esL, epL, hs, hLd, hLr⟩
  have ofrOf : ∀ {g : Heap}, OfrOk ofr g → OfrOk c.ofr g := fun {g} og p hp => by
    obtain ⟨o, h1, _, h2⟩ := hHsome (List.mem_cons_of_mem _ (List.mem_map_of_mem hp))
    obtain ⟨sl, ho⟩ := R₂.ofo p hp
    rw [hHo _ _ ho] at h1; cases h1
    obtain ⟨sl', hs⟩ := og _ h2
    exact ⟨sl', hs⟩
  let cc : List (Addr × Obj) → List Addr → Cx := fun rs es => c.comp scope cl C h₀ E' cn gl ccl σ₁.fz rs es ofr
  have ok : ∀ rs es, Ok (cc rs es) := fun rs es => by
    obtain ⟨base, fr, hfr, hfin, hbl⟩ := R₂.ok.below
    refine ⟨R₂.ok.sta.keeps below₀, R₂.ok.hh, O.kind, O.nod, fun x hx => (O.loc x hx).2, fun x hx => lookup_relabel_local (O.loc x hx).1, fun p hp => ⟨O.glv p hp, ?_, (O.glk p hp).2⟩, R₂.ok.eg, R₂.ok.eb, fun p hp => ?_, R₂.ok.depth, R₂.ok.units,
      fun p hp => ⟨hideAll_none _ (List.mem_append_right _ (ofIn hp).1), fun vs q => ?_⟩, base, fr, hfr, fun b hb => .inr (ofMap.mpr ((hfin b hb).elim (fun e => e ▸ List.mem_cons_self ..) (List.mem_cons_of_mem _))), fun g m sg ns og => hbl g mo (fun b o e => sg b o (below₀ b o e)) (nsOf og) (ofrOf og)⟩
    rotate_right
    · obtain ⟨o, h1, h2, _⟩ := hHsome (ofIn hp).1
      rw [(ofIn hp).2] at h1; cases h1
      exact h2 vs q
    · rcases lookup_relabel (env := c.env) (O.glk p hp).1 with h | ⟨h, _⟩
      · exact h
      · cases h
    · obtain ⟨q1, q2, q3, q4⟩ := O.ccl p hp
      refine ⟨q1, ?_, q3, q4⟩
      rcases lookup_relabel (env := c.env) q2 with h | ⟨_, h⟩
      · exact .inr h
      · exact .inl h
  have old : ∀ b o, H.get? b = some o → h₁.get? b = some o := fun b o e => hsb₁.extBut b o (fun q => by subst q; exact absurd (Heap.lt_size e) (hC ▸ Nat.lt_irrefl _)) (Heap.get?_push_of_some _ e)
  have up : ∀ {a : Addr} {x : AO}, Has c.w.params s₂.heap a x → Has c.w.params h₁ a x := fun ⟨o, e, hi⟩ => ⟨o, old _ _ (hHo _ _ e), hi⟩
  have lt : ∀ {a : Addr} {o : Obj}, s₂.heap.get? a = some o → a ≠ C := fun e q => by subst q; have := Heap.lt_size e; rw [hD, hHs] at this; exact absurd this (Nat.not_lt.mpr (Nat.le_succ D))
  have ltH : ∀ {a : Addr} {o : Obj}, H.get? a = some o → a ≠ C := fun e q => by subst q; have := Heap.lt_size e; exact absurd this (hC ▸ Nat.lt_irrefl _)
  have R₀ : Rl (cc c.rsv (D :: c.exc)) ⟨List.replicate cn.length none, σ₁.led, σ₁.fz⟩ { heap := h₁, gens := s₂.gens, drawn := s₂.drawn, toks := s₂.toks + ([] : List (Str × Value)).length, os := s₂.os } := by
    refine ⟨ok _ _, R₂.gens, R₂.drawn, R₂.os, ⟨_, ⟨hns₁, fun b o e => old b o (of_hideAll _ e), ?_⟩, List.length_replicate, fun i x p hx hp => ?_⟩, fun p hp => ⟨up (R₂.led p hp).1, ?_, hideAll_none _ (List.mem_append_left _ (List.mem_append_left _ (List.mem_map_of_mem hp)))⟩, R₂.nod, fun p hp => ⟨up (R₂.fz p hp).1, ?_, (R₂.fz p hp).2.2.1, .inl hp⟩, fun _ h => h, fun p hp => ⟨old _ _ (hHo _ _ (R₂.rsv p hp).1), lt (R₂.rsv p hp).1, (R₂.rsv p hp).2.2.1, notFs (R₂.rsv p hp).2.1 (R₂.rsv p hp).2.2.2⟩, fun b hb => ?_, fun p hp => ⟨p.2.slots, old _ _ (ofIn hp).2⟩, fun p hp => ⟨ltH (ofIn hp).2, fun hm => ?_, fun hm => ?_⟩⟩
    · show (hideAll H (hid ++ fs)).objs.size ≤ C; rw [hideAll_size, hC]; exact Nat.le_refl _
    · simp [List.getElem?_replicate] at hp
    · obtain ⟨o, e, _⟩ := (R₂.led p hp).1; exact lt e
    · obtain ⟨o, e, _⟩ := (R₂.fz p hp).1; exact lt e
    · rcases List.mem_cons.mp hb with rfl | hb
      · exact ⟨by rw [old _ _ hHD]; rfl, hDC, d3, d4⟩
      · obtain ⟨z1, z2, z3, z4⟩ := R₂.exc b hb
        obtain ⟨o, e⟩ := Option.isSome_iff_exists.mp z1
        exact ⟨by rw [old _ _ (hHo _ _ e)]; rfl, lt e, z3, z4⟩
    · obtain ⟨z, hz, e⟩ := List.mem_map.mp hm
      exact notFs (R₂.led z hz).2.1 (R₂.ledFr hz) (e ▸ List.mem_map_of_mem hp)
    · obtain ⟨z, hz, e⟩ := List.mem_map.mp hm
      exact notFs (R₂.fz z hz).2.1 (R₂.fzFr hz) (e ▸ List.mem_map_of_mem hp)
  -- the state at the head of a turn
  let J : Nat → Shared → Prop := fun n s => ∃ i loc led fz acc ys k, CompJ (cc c.rsv (D :: c.exc)) cn.length Inv D C fp wr S (ofr.map (·.1)) items.length n s i loc led fz acc ys k
  have loop : codeAny (model c.prog c.w) c.A (.compLoop (.ListComp elt [⟨target, iter, ifs, 0⟩] scope pos) 0 (.ref I) (.ref D) (compEnvC scope cl C c.env)) (RR (.ref D) C) { heap := h₁, gens := s₂.gens, drawn := s₂.drawn, toks := s₂.toks + ([] : List (Str × Value)).length, os := s₂.os } := by
    refine compLoop_any J (fun n s₂ hJ => ?_) items.length ⟨0, _, _, _, [], [], 0, rfl, Nat.zero_le _, List.length_replicate, R₀, h0, Nat.le_refl _, .nil, old _ _ hHD, d3, W.frame _ _ _ st fun b hb o e => old _ _ (hHo _ _ e), fun b hb => ⟨fun q => hCfp (q ▸ hb), (hfp b hb).2.1, notFs (hfp b hb).1 (hfp b hb).2.2⟩, fun b hb => (hwr b hb).2.1⟩
    obtain ⟨i, loc, led, fz, acc, ys, kk, rfl, hi, hloc, R₃, hI, hacc, hys, hD₃, hDl, st₃, hfp₃, hwr₃⟩ := hJ
    have hsub := W.sub
    have h₀wr : ∀ b ∈ wr, h₀.get? b = none := fun b hb => hideAll_none _ (List.mem_append_left _ (List.mem_append_right _ (List.mem_cons_of_mem _ hb)))
    have all : ∀ b ∈ wr, b ≠ (cc c.rsv (D :: c.exc)).env.locals ∧ b ∉ Adr led ∧ (cc c.rsv (D :: c.exc)).h₀.get? b = none ∧ b ∉ Adr fz ∧ b ∉ c.rsv.map (·.1) ∧ b ∉ D :: c.exc ∧ b ∉ ofr.map (·.1) := fun b hb => ⟨(hfp₃ b (hsub b hb)).1, (hfp₃ b (hsub b hb)).2.1, h₀wr b hb, hwr₃ b hb, (hwr b hb).2.2.1, fun hm => by
      rcases List.mem_cons.mp hm with rfl | hm
      · exact hDfp (hsub _ hb)
      · exact (hwr b hb).2.2.2 hm, (hfp₃ b (hsub b hb)).2.2⟩
    by_cases hlt' : i < items.length
    · have hx : items[i]? = some items[i] := List.getElem?_eq_getElem hlt'
      refine wpAny_mono (W.item i items[i] s₂ (fun v s₃ => wpAny (model c.prog c.w) c.A (assign target (compEnvC scope cl C c.env) v) (fun _ s₂ =>
          wpAny (model c.prog c.w) c.A (forIn ifs true fun e r => if r = true then do let ok ← isTrue e (compEnvC scope cl C c.env) (eval e (compEnvC scope cl C c.env)); pure (ForInStep.yield ok) else pure (ForInStep.yield r)) (fun ok s₃ =>
            if ok = true then wpAny (model c.prog c.w) c.A (eval elt (compEnvC scope cl C c.env)) (fun x s₄ =>
              wpAny (model c.prog c.w) c.A (call (.builtin "list.append") [.ref D, x]) (fun _ s₅ => ∃ m, m < items.length - i ∧ J m s₅) E' s₄) E' s₃
            else ∃ m, m < items.length - i ∧ J m s₃) E' s₂) E' s₃) E' hx st₃ ?_) (fun r s₃ h₃ => ?_) fun _ _ e => e
      · intro v h₄ t₄ hxv st₄ hk
        have R₄ := R₃.apart (t := t₄) hk all
        let rs : List (Addr × Obj) := (D, listOf ys.toArray kk) :: fp.filterMap fun b => (h₄.get? b).map fun o => (b, o)
        have hD₄ : h₄.get? D = some (listOf ys.toArray kk) := hk _ _ (fun hm => hDfp (hsub _ hm)) hD₃
        have hrs : ∀ p ∈ rs ++ c.rsv, h₄.get? p.1 = some p.2 ∧ p.1 ≠ C ∧ p.1 ∉ Adr led ∧ p.1 ∉ ofr.map (·.1) := fun p hp => by
          rcases List.mem_append.mp hp with hp | hp
          · rcases List.mem_cons.mp hp with rfl | hp
            · exact ⟨hD₄, hDC, hDl, notFs d1 d7⟩
            · obtain ⟨b, hb, e⟩ := List.mem_filterMap.mp hp
              obtain ⟨o, ho, rfl⟩ := Option.map_eq_some_iff.mp e
              exact ⟨ho, hfp₃ b hb⟩
          · exact R₄.rsv p hp
        have hrs0 : ∀ p ∈ rs ++ c.rsv, (s₂.heap.get? p.1).isSome = true := fun p hp => by
          rcases List.mem_append.mp hp with hp | hp
          · rcases List.mem_cons.mp hp with rfl | hp
            · rw [hD₃]; rfl
            · obtain ⟨b, hb, e⟩ := List.mem_filterMap.mp hp
              obtain ⟨o, ho, rfl⟩ := Option.map_eq_some_iff.mp e
              exact W.alive _ _ st₃ b hb
          · rw [(R₃.rsv p hp).1]; rfl
        have hes : ∀ b ∈ wr ++ (D :: c.exc), (h₄.get? b).isSome = true ∧ b ≠ C ∧ b ∉ Adr led ∧ b ∉ Adr fz := fun b hb => by
          rcases List.mem_append.mp hb with hb | hb
          · exact ⟨W.alive _ _ st₄ b (hsub b hb), (all b hb).1, (all b hb).2.1, (all b hb).2.2.2.1⟩
          · exact R₄.exc b hb
        have R₅ : Rl (cc (rs ++ c.rsv) (wr ++ (D :: c.exc))) ⟨loc, led, fz⟩ _ := R₄.sib (E := E') (rsv := rs ++ c.rsv) (exc := wr ++ (D :: c.exc)) hrs hes
        have tk := turn (cc (rs ++ c.rsv) (wr ++ (D :: c.exc))) ⟨rfl, rfl, rfl, rfl, rfl, rfl, rfl⟩ i acc loc led fz _ hx hI hloc
        have go : wpAny (model c.prog c.w) c.A (assign target (compEnvC scope cl C c.env) v) (fun _ s₅ => ∃ σ₃, Rl (cc (rs ++ c.rsv) (wr ++ (D :: c.exc))) σ₃ s₅ ∧ Tests (cc (rs ++ c.rsv) (wr ++ (D :: c.exc))) ifs (fun ok σ₄ => if ok = true then
            Wk (cc (rs ++ c.rsv) (wr ++ (D :: c.exc))) PV.Is (eval elt (compEnvC scope cl C c.env)) (fun y σ₅ => Fit (Inv (i + 1) (acc ++ [y])) σ₅) σ₄ else Fit (Inv (i + 1) acc) σ₄) σ₃) E'
            { heap := h₄, gens := s₂.gens, drawn := s₂.drawn, toks := t₄, os := s₂.os } := by
          cases hq : items[i] with
          | val p => rw [hq] at tk hxv; exact wpAny_mono (tk v hxv _ R₅) (by rintro _ _ ⟨_, σ₂, _, R₂, k⟩; exact ⟨σ₂, R₂, k⟩) fun _ _ e => e
          | tup ps =>
            rw [hq] at tk hxv
            obtain ⟨T, vs, n, rfl, hT, ho, ha⟩ := hxv
            obtain ⟨l1, l2, l3, l4, _, _, l7⟩ := R₃.low hT
            have no : ∀ b, (s₂.heap.get? b).isSome = true → T ≠ b := fun b hb e => by
              subst e
              obtain ⟨o, e⟩ := Option.isSome_iff_exists.mp hb
              exact absurd (Heap.lt_size e) (Nat.not_lt.mpr hT)
            refine wpAny_mono (tk T _ rfl _ (R₅.add (s := s₂) ⟨_, ho, vs.toList, n, ha, by simp⟩ l1 l2 l3 l4 (fun hm => ?_) (fun hm => ?_) l7)) (by rintro _ _ ⟨_, σ₂, _, R₂, k⟩; exact ⟨σ₂, R₂, k⟩) fun _ _ e => e
            · obtain ⟨p, hp, e⟩ := List.mem_map.mp hm
              exact no _ (hrs0 p hp) e.symm
            · rcases List.mem_append.mp hm with hm | hm
              · exact no _ (W.alive _ _ st₃ T (hsub T hm)) rfl
              · exact no _ (R₃.exc T hm).1 rfl
        -- a turn's end, with what was taken into the list
        have fin : ∀ {s₆ : Shared} {σ₄ : St} {acc' : List PV}, Rl (cc (rs ++ c.rsv) (wr ++ (D :: c.exc))) σ₄ s₆ → Fit (Inv (i + 1) acc') σ₄ →
            ∃ led' fz', σ₄.loc.length = cn.length ∧ Rl (cc c.rsv (D :: c.exc)) ⟨σ₄.loc, led', fz'⟩ s₆ ∧ Inv (i + 1) acc' led' fz' ∧ D ∉ Adr led' ∧ s₆.heap.get? D = some (listOf ys.toArray kk) ∧ S (i + 1) s₆.heap ∧ (∀ b ∈ fp, b ≠ C ∧ b ∉ Adr led' ∧ b ∉ ofr.map (·.1)) ∧ (∀ b ∈ wr, b ∉ Adr fz') := fun {s₆ σ₄ acc'} R₇ ⟨mu, rem, fr, rest, t1, t2, hI'⟩ => by
          have R₈ := R₇.conv t1 t2
          have R₉ : Rl (cc c.rsv (D :: c.exc)) _ s₆ := R₈.unsib (c := cc c.rsv (D :: c.exc)) (E := E') (rsv := rs ++ c.rsv) (exc := wr ++ (D :: c.exc)) (fun _ h => List.mem_append_right _ h) fun _ h => List.mem_append_right _ h
          have keptAll : ∀ b ∈ fp, ∀ o, h₄.get? b = some o → s₆.heap.get? b = some o ∧ b ≠ C ∧ b ∉ Adr mu ∧ b ∉ ofr.map (·.1) := fun b hb o ho =>
            R₈.rsv (b, o) (List.mem_append_left _ (List.mem_cons_of_mem _ (List.mem_filterMap.mpr ⟨b, hb, by rw [ho]; rfl⟩)))
          have hDk := R₈.rsv (D, listOf ys.toArray kk) (List.mem_append_left _ (List.mem_cons_self ..))
          refine ⟨mu, fr ++ σ₄.fz, ?_, R₉, hI', hDk.2.2.1, hDk.1, W.frame (i + 1) h₄ s₆.heap st₄ fun b hb o ho => (keptAll b hb o ho).1, fun b hb => ?_, fun b hb => (R₈.exc b (List.mem_append_left _ hb)).2.2.2⟩
          · obtain ⟨_, _, L⟩ := R₉.fr; exact L.1
          · obtain ⟨o, ho⟩ := Option.isSome_iff_exists.mp (W.alive _ _ st₄ b hb)
            exact (keptAll b hb o ho).2
        refine wpAny_mono go (fun _ s₅ hpat => ?_) fun _ _ e => e
        obtain ⟨σ₃, R₆, h₆⟩ := hpat
        refine wpAny_mono (h₆ s₅ R₆) (fun ok s₆ hpat => ?_) fun _ _ e => e
        obtain ⟨ok', σ₄, hok, R₇, h₇⟩ := hpat
        cases hok
        split at h₇
        · rename_i ht
          rw [if_pos ht]
          refine wpAny_mono (h₇ s₆ R₇) (fun y s₇ hpat => ?_) fun _ _ e => e
          obtain ⟨py, σ₅, hy, R₈, h₈⟩ := hpat
          obtain ⟨led', fz', f1, R₉, hI', f2, f3, f4, f5, f6⟩ := fin R₈ h₈
          refine wpAny_list_append_plain (items := ys.toArray) ⟨kk, f3⟩ (fun h₉ hp₉ hs₉ => ?_) (by rw [List.size_toArray, hys.length, sizeLine_eq]; omega)
          obtain ⟨k₉, e₉⟩ := hp₉
          refine ⟨items.length - (i + 1), by omega, i + 1, σ₅.loc, led', fz', acc ++ [py], ys ++ [y], k₉, rfl, hlt', f1, ?_, hI', by simp; omega, hys.append (.cons hy .nil), by simpa using e₉, f2, W.frame _ _ _ f4 fun b hb o e => hs₉.extBut b o (fun q => hDfp (q ▸ hb)) e, f5, f6⟩
          refine R₉.but (t := s₇.toks) (D := D) hs₉ hDC f2 (hideAll_none _ (List.mem_append_left _ (List.mem_append_right _ (List.mem_cons_self ..)))) (R₉.exc D (List.mem_cons_self ..)).2.2.2 (fun hm => ?_) (fun _ => ⟨_, e₉⟩) ?_
          · exact d5 hm
          · exact notFs d1 d7
        · rename_i ht
          rw [if_neg ht]
          obtain ⟨led', fz', f1, R₉, hI', f2, f3, f4, f5, f6⟩ := fin R₇ h₇
          exact ⟨items.length - (i + 1), by omega, i + 1, σ₄.loc, led', fz', acc, ys, kk, rfl, hlt', f1, R₉, hI', by omega, hys, f3, f2, f4, f5, f6⟩
      · cases r with
        | none => exact h₃.elim
        | some v => exact h₃
    · have hi' : i = items.length := by omega
      subst hi'
      refine W.done s₂ _ _ st₃ ?_
      intro h₄ t₄ hk
      have R₄ := R₃.apart (t := t₄) hk all
      have hD₄ : h₄.get? D = some (listOf ys.toArray kk) := hk _ _ (fun hm => hDfp (hsub _ hm)) hD₃
      obtain ⟨mc, Fc, Lc⟩ := R₄.fr
      have none₀ : ∀ {a : Addr}, h₀.get? a = none → c.h₀.get? a = none := fun {a} e => by
        cases q : c.h₀.get? a with
        | none => rfl
        | some o => (rw [below₀ _ _ q] at e; cases e)
      have notL : ∀ {a : Addr}, a ∉ ofr.map (·.1) → a ≠ c.env.locals := fun h q => h (ofMap.mpr (q ▸ List.mem_cons_self ..))
      have notO : ∀ {a : Addr}, a ∉ ofr.map (·.1) → a ∉ c.ofr.map (·.1) := fun h q => h (ofMap.mpr (List.mem_cons_of_mem _ q))
      have RO : Rl c ⟨σ₁.loc, led, fz⟩ { heap := h₄, gens := s₂.gens, drawn := s₂.drawn, toks := t₄, os := s₂.os } := by
        refine ⟨R₂.ok, R₄.gens, R₄.drawn, R₄.os, ⟨mo, ⟨nsOf R₄.ofo, fun b o e => Fc.keep b o (below₀ b o e), Fo.above⟩, Lo⟩, fun p hp => ⟨(R₄.led p hp).1, notL (R₄.ledFr hp), none₀ (R₄.led p hp).2.2⟩, R₄.nod, fun p hp => ?_, fun p hp => R₄.sub p (R₂.sub p hp), fun p hp => ?_, fun b hb => ?_, ofrOf R₄.ofo,
          fun p hp => ⟨(R₂.ofr p hp).1, fun hm => ?_, fun hm => ?_⟩⟩
        · obtain ⟨z1, z2, z3, z4⟩ := R₄.fz p hp
          rcases z4 with z4 | z4
          · exact ⟨z1, (R₂.fz p z4).2.1, z3, (R₂.fz p z4).2.2.2⟩
          · exact ⟨z1, notL (R₄.fzFr hp), z3, .inr (none₀ z4)⟩
        · exact ⟨(R₄.rsv p hp).1, (R₂.rsv p hp).2.1, (R₄.rsv p hp).2.2.1, (R₂.rsv p hp).2.2.2⟩
        · obtain ⟨z1, z2, z3, z4⟩ := R₄.exc b (List.mem_cons_of_mem _ hb)
          exact ⟨z1, (R₂.exc b hb).2.1, z3, z4⟩
        · obtain ⟨z, hz, e⟩ := List.mem_map.mp hm
          exact notO (R₄.ledFr hz) (e ▸ List.mem_map_of_mem hp)
        · obtain ⟨z, hz, e⟩ := List.mem_map.mp hm
          exact notO (R₄.fzFr hz) (e ▸ List.mem_map_of_mem hp)
      obtain ⟨z1, z2, z3, z4⟩ := R₄.exc D (List.mem_cons_self ..)
      have RD := RO.add (s := s₂) (a := D) (x := .list acc) ⟨_, hD₄, ys, kk, hys, rfl⟩ d1 d2 z3 z4 d5 d6 d7
      have notC : ∀ {l : List (Addr × AO)}, (∀ p ∈ l, p.1 ≠ C) → C ∉ Adr l := fun h hm => by
        obtain ⟨p, hp, e⟩ := List.mem_map.mp hm
        exact h p hp e
      refine hRR D C _ acc led fz hI RD ⟨mc, Fc.ns⟩ k1 (notC fun p hp => ?_) (notC fun p hp => (R₄.fz p hp).2.1) k2 k5 k6 k7
      rcases List.mem_cons.mp hp with rfl | hp
      · exact hDC
      · exact (R₄.led p hp).2.1
  exact codeAny_compStart_list loop (W.self 0 _ _ _ (W.frame _ _ _ st fun b hb o e => old _ _ (hHo _ _ e)) loop)
end
end
section
set_option maxRecDepth 100000
set_option linter.unusedVariables false
section
variable {c : Cx} {σ : St} {Q : PV → St → Prop}

theorem w_comp {target iter elt : Expr} {ifs : List Expr} {scope : Scope} {pos : Pos} {cl : List (Str × Addr)} {cn : List Str} {gl : List (Str × PV)} {ccl : List (Str × Addr)} {items : List Itm} {σ₁ : St}
    (O : CompOK c scope cl cn gl ccl) (Inv : Nat → List PV → List (Addr × AO) → List (Addr × AO) → Prop) (hiter : Wk c PV.Is (eval iter c.env) (fun p σ' => Itb c p items target σ₁ σ') σ) (hz : items.length ≤ 1000000) (h0 : Inv 0 [] σ₁.led σ₁.fz)
    (turn : ∀ c', CSib c scope cn gl ccl c' → ∀ i acc loc led fz x, items[i]? = some x → Inv i acc led fz → loc.length = cn.length → Takes c' target x (fun σ₃ => Tests c' ifs (fun ok σ₄ => if ok = true then
      Wk c' PV.Is (eval elt c'.env) (fun y σ₅ => Fit (Inv (i + 1) (acc ++ [y])) σ₅) σ₄ else Fit (Inv (i + 1) acc) σ₄) σ₃) ⟨loc, led, fz⟩)
    (done : ∀ acc led fz D, Inv items.length acc led fz → Q (.ref D) ⟨σ₁.loc, (D, .list acc) :: led, fz⟩)
    (hfo : ∀ x, foldedSetIterable iter c.env x = pure x := by intro _; rfl) : Wk c PV.Is (eval (.ListComp elt [⟨target, iter, ifs, 0⟩] scope pos) c.env) Q σ := fun s R => by
  rw [eval_ListComp]
  refine wpAny_comprehension_free (use := none) rfl hfo O.clos O.kind O.names (wpAny_mono (hiter s R) (fun v s₁ hpat => ?_) fun _ _ e => e)
  obtain ⟨p', σ', hv, R₁, hit⟩ := hpat
  refine hit s₁ v _ _ R₁ hv ?_
  intro I fp wr S h' tk W st R₂ hfp hwr
  refine comp_core (RR := fun acc C => compPost (model c.prog c.w) c.A c.E none _ acc C) O Inv hz h0 turn W st R₂ hfp hwr ?_
  intro D C s' acc led fz hI R₃ ⟨m, hm⟩ h1 h2 h3 h4 h5 h6 h7
  exact ⟨m, hm, fun h'' hs => ⟨.ref D, _, rfl, R₃.but (t := s'.toks) hs h1 h2 h4 h3 h5 (fun hm => (h6 hm).elim) h7, done acc led fz D hI⟩⟩

theorem s_assign_compX {x : Str} {px spos : Pos} {target iter elt : Expr} {ifs : List Expr} {scope : Scope} {pos : Pos} {cl : List (Str × Addr)} {cn : List Str} {gl : List (Str × PV)} {ccl : List (Str × Addr)} {Q : PF → St → Prop}
    (O : CompOK c scope cl cn gl ccl) (hiter : Wk c PV.Is (eval iter c.env) (fun p σ' => ∃ (items : List Itm) (σ₁ : St) (Inv : Nat → List PV → List (Addr × AO) → List (Addr × AO) → Prop), Itb c p items target σ₁ σ' ∧ items.length ≤ 1000000 ∧ Inv 0 [] σ₁.led σ₁.fz ∧
    (∀ c', CSib c scope cn gl ccl c' → ∀ i acc loc led fz x, items[i]? = some x → Inv i acc led fz → loc.length = cn.length → Takes c' target x (fun σ₃ => Tests c' ifs (fun ok σ₄ => if ok = true then
      Wk c' PV.Is (eval elt c'.env) (fun y σ₅ => Fit (Inv (i + 1) (acc ++ [y])) σ₅) σ₄ else Fit (Inv (i + 1) acc) σ₄) σ₃) ⟨loc, led, fz⟩) ∧
    (∀ acc led fz D, Inv items.length acc led fz → Put c x (.ref D) (Q .next) ⟨σ₁.loc, (D, .list acc) :: led, fz⟩)) σ)
    (hsw : swapsWith (.ListComp elt [⟨target, iter, ifs, 0⟩] scope pos) (some (.Name x px)) spos.line c.env = pure true)
    (hfo : ∀ x, foldedSetIterable iter c.env x = pure x := by intro _; rfl) : Wk c PF.Is (exec (.Assign [.Name x px] (.ListComp elt [⟨target, iter, ifs, 0⟩] scope pos) spos) c.env) Q σ := fun s R => by
  rw [exec_Assign_Name_used _ _ _ _ hsw]
  refine wpAny_bind (wpAny_standAt (wpAny_bind ?_))
  show wpAny _ _ (do let _ ← comprehension (.ListComp elt [⟨target, iter, ifs, 0⟩] scope pos) scope c.env _ (newList []) false (eval iter c.env) (some (assign (.Name x px) c.env))) _ _ s
  refine wpAny_bind (wpAny_mono (wpAny_comprehension_free (use := some (assign (.Name x px) c.env)) (Q := fun _ s' => ∃ σ', Rl c σ' s' ∧ Q .next σ') rfl hfo O.clos O.kind O.names
    (wpAny_mono (hiter s R) (fun v s₁ hpat => ?_) fun _ _ e => e)) (fun _ s' ⟨σ', R', hq⟩ => wpAny_pure (wpAny_pure ⟨.next, σ', rfl, R', hq⟩)) fun _ _ e => e)
  obtain ⟨p', σ', hv, R₁, items, σ₁, Inv, hit, hz, h0, turn, done⟩ := hpat
  refine hit s₁ v _ _ R₁ hv ?_
  intro I fp wr S h' tk W st R₂ hfp hwr
  refine comp_core (RR := fun acc C => compPost (model c.prog c.w) c.A c.E (some (assign (.Name x px) c.env)) _ acc C) O Inv hz h0 turn W st R₂ hfp hwr ?_
  intro D C s' acc led fz hI R₃ ⟨m, hm⟩ h1 h2 h3 h4 h5 h6 h7
  obtain ⟨oC, es, ep, hC, hr⟩ := hm
  have R₄ : Rl (c.sib c.E ((C, oC) :: c.rsv) (C :: c.exc)) _ s' := R₃.sib c.E (rsv := (C, oC) :: c.rsv) (exc := C :: c.exc) (fun p hp => by
    rcases List.mem_cons.mp hp with rfl | hp
    · exact ⟨hC, h1, h2, h7⟩
    · exact R₃.rsv p hp) fun b hb => by
    rcases List.mem_cons.mp hb with rfl | hb
    · exact ⟨by rw [hC]; rfl, h1, h2, h3⟩
    · exact R₃.exc b hb
  show wpAny _ _ (assign (.Name x px) c.env (.ref D)) _ _ s'
  have P : Put (c.sib c.E ((C, oC) :: c.rsv) (C :: c.exc)) x (.ref D) (Q .next) ⟨σ₁.loc, (D, .list acc) :: led, fz⟩ := done acc led fz D hI
  refine wpAny_assign_Name (wpAny_mono (P.w (Q := fun _ => Q .next) rfl s' R₄) (fun _ s₂ hpat => ?_) fun _ _ e => e)
  obtain ⟨_, σ₂, _, R₅, h₅⟩ := hpat
  obtain ⟨e1, e2, e3, _⟩ := R₅.rsv (C, oC) (List.mem_cons_self ..)
  have e4 := (R₅.exc C (List.mem_cons_self ..)).2.2.2
  have R₆ : Rl c σ₂ s₂ := R₅.unsib (fun _ h => List.mem_cons_of_mem _ h) fun _ h => List.mem_cons_of_mem _ h
  exact ⟨_, ⟨oC, es, ep, e1, hr⟩, fun h'' hs => ⟨σ₂, R₆.but (t := s₂.toks) hs h1 e3 h4 e4 h5 (fun hm => (h6 hm).elim) h7, h₅⟩⟩

theorem s_assign_comp {x : Str} {px spos : Pos} {target iter elt : Expr} {ifs : List Expr} {scope : Scope} {pos : Pos} {cl : List (Str × Addr)} {cn : List Str} {gl : List (Str × PV)} {ccl : List (Str × Addr)} {items : List Itm} {σ₁ : St} {Q : PF → St → Prop}
    (O : CompOK c scope cl cn gl ccl) (Inv : Nat → List PV → List (Addr × AO) → List (Addr × AO) → Prop) (hiter : Wk c PV.Is (eval iter c.env) (fun p σ' => Itb c p items target σ₁ σ') σ) (hz : items.length ≤ 1000000) (h0 : Inv 0 [] σ₁.led σ₁.fz)
    (turn : ∀ c', CSib c scope cn gl ccl c' → ∀ i acc loc led fz x, items[i]? = some x → Inv i acc led fz → loc.length = cn.length → Takes c' target x (fun σ₃ => Tests c' ifs (fun ok σ₄ => if ok = true then
      Wk c' PV.Is (eval elt c'.env) (fun y σ₅ => Fit (Inv (i + 1) (acc ++ [y])) σ₅) σ₄ else Fit (Inv (i + 1) acc) σ₄) σ₃) ⟨loc, led, fz⟩)
    (done : ∀ acc led fz D, Inv items.length acc led fz → Put c x (.ref D) (Q .next) ⟨σ₁.loc, (D, .list acc) :: led, fz⟩)
    (hsw : swapsWith (.ListComp elt [⟨target, iter, ifs, 0⟩] scope pos) (some (.Name x px)) spos.line c.env = pure true)
    (hfo : ∀ x, foldedSetIterable iter c.env x = pure x := by intro _; rfl) : Wk c PF.Is (exec (.Assign [.Name x px] (.ListComp elt [⟨target, iter, ifs, 0⟩] scope pos) spos) c.env) Q σ :=
  s_assign_compX O (hiter.mono fun p σ' h => ⟨items, σ₁, Inv, h, hz, h0, turn, done⟩) hsw hfo

/-! what can be gone over -/
theorem Itr.of_walks {prog : Program} {w : World} {A : Around} {I : Addr} {fp wr : List Addr} {items : List Itm} {target : Expr} {P : Nat → Value → Prop} {S : Nat → Heap → Prop} (W : Walks prog w A I fp wr items.length P S)
    (alive : ∀ i h, S i h → ∀ b ∈ fp, (h.get? b).isSome = true) (hP : ∀ i v x, items[i]? = some x → P i v → ∃ p, x = .val p ∧ p.Is v)
    (hgo : ∀ i v s (Q : Unit → Shared → Prop) (E : Value → Shared → Prop), P i v → S (i + 1) s.heap → Q () s → wpAny (model prog w) A (letOwnedTupleGo target (.ref I) v) Q E s) : Itr prog w A I fp wr items target S where
  sub := W.sub
  frame := W.frame
  alive := alive
  item := fun i x s Q E hx st k => by
    refine W.item i s _ E (List.getElem?_eq_some_iff.mp hx).1 st fun v h' tk hp st' hk => ?_
    obtain ⟨p, rfl, hv⟩ := hP i v x hx hp
    exact hgo i v _ _ _ hp st' (k v h' tk hv st' hk)
  done := W.done
  self := W.self

theorem go_name {prog : Program} {w : World} {A : Around} {x : Str} {pos : Pos} {it v : Value} {s : Shared} {Q : Unit → Shared → Prop} {E : Value → Shared → Prop} (h : Q () s) : wpAny (model prog w) A (letOwnedTupleGo (.Name x pos) it v) Q E s :=
  wpAny_of_eq (by rfl) h
/-- a target that needs no look at the iterator, or a list's -/
noncomputable def Plain (target : Expr) : Prop := (∃ x pos, target = .Name x pos) ∨ ∃ elts k pos, target = .Tuple elts k pos

theorem itb_list {a : Addr} {xs : List PV} {target : Expr} (ha : (a, AO.list xs) ∈ σ.fz) (ht : (∃ x pos, target = .Name x pos) ∨ (∃ elts k pos, target = .Tuple elts k pos) ∧ ∀ x ∈ xs, ∃ r, x = .ref r) : Itb c (.ref a) (xs.map .val) target σ σ := fun s v Q E R hv k => by
  cases hv
  obtain ⟨vs, n, hvs, ho⟩ := (Look.fz ha : Look σ a (.list xs)).list R
  obtain ⟨l1, l2, l3, l4, l5, l6, l7⟩ := R.low (Nat.le_refl s.heap.objs.size)
  have hax : a ≠ s.heap.objs.size := Nat.ne_of_lt (Heap.lt_size ho)
  refine wpAny_pyIter_list ⟨_, ho, rfl, n, rfl⟩ ?_
  have hlen : (xs.map Itm.val).length = vs.toArray.size := by rw [List.length_map, List.size_toArray, hvs.length]
  have W := Walks.list (prog := c.prog) (w := c.w) (A := c.A) R.ok.hh s.heap.objs.size a hax vs.toArray
  rw [← hlen] at W
  have R' := R.push0 (o := { cls := .type "list_iterator", data := .fields #[.ref a, .int 0 0] }) (t := s.toks)
  refine k _ _ _ _ _ s.toks (Itr.of_walks W (fun i h st b hb => ?_) (fun i v x hx hp => ?_) (fun i v s Q E hp st h => ?_)) ⟨⟨_, Heap.get?_push_size _ rfl, rfl, rfl⟩, _, Heap.get?_push_of_some _ ho, rfl, n, rfl⟩ R' (fun b hb => ?_) fun b hb => ?_
  · obtain ⟨⟨o1, e1, _⟩, ⟨o2, e2, _⟩⟩ := st
    simp only [List.mem_cons, List.not_mem_nil, or_false] at hb
    rcases hb with rfl | rfl
    · rw [e1]; rfl
    · rw [e2]; rfl
  · rw [List.getElem?_map] at hx
    obtain ⟨p, hp', rfl⟩ := Option.map_eq_some_iff.mp hx
    obtain ⟨v', e1, e2⟩ := hvs.get hp'
    refine ⟨p, rfl, ?_⟩
    have : vs[i]? = some v := by simpa using hp
    rw [e1] at this; cases this; exact e2
  · rcases ht with ⟨x, pos, rfl⟩ | ⟨⟨elts, kk, pos, rfl⟩, hr⟩
    · exact go_name h
    · have hp' : vs[i]? = some v := by simpa using hp
      have hi : i < xs.length := by rw [← hvs.length]; exact (List.getElem?_eq_some_iff.mp hp').1
      obtain ⟨v', e1, e2⟩ := hvs.get (List.getElem?_eq_getElem hi)
      rw [hp'] at e1; cases e1
      obtain ⟨r, hr⟩ := hr _ (List.getElem_mem hi)
      rw [hr] at e2; cases e2
      exact wpAny_letOwnedTupleGo_listiter st.1 h
  · simp only [List.mem_cons, List.not_mem_nil, or_false] at hb
    rcases hb with rfl | rfl
    · exact ⟨l1, l3, l7⟩
    · exact ⟨(R.fz _ ha).2.1, (R.fz _ ha).2.2.1, R.fzFr ha⟩
  · simp only [List.mem_cons, List.not_mem_nil, or_false] at hb
    subst hb; exact ⟨l2, l4, l5, l6⟩

theorem itb_tuple {a : Addr} {xs : List PV} {x : Str} {pos : Pos} (ha : (a, AO.tuple xs) ∈ σ.fz) : Itb c (.ref a) (xs.map .val) (.Name x pos) σ σ := fun s v Q E R hv k => by
  cases hv
  obtain ⟨vs, n, hvs, ho⟩ := (Look.fz ha : Look σ a (.tuple xs)).tuple R
  obtain ⟨l1, l2, l3, l4, l5, l6, l7⟩ := R.low (Nat.le_refl s.heap.objs.size)
  have hax : a ≠ s.heap.objs.size := Nat.ne_of_lt (Heap.lt_size ho)
  refine wpAny_pyIter_tuple ⟨_, ho, rfl, n, rfl⟩ ?_
  have hlen : (xs.map Itm.val).length = vs.toArray.size := by rw [List.length_map, List.size_toArray, hvs.length]
  have W := Walks.tuple (prog := c.prog) (w := c.w) (A := c.A) R.ok.hh s.heap.objs.size a hax vs.toArray
  rw [← hlen] at W
  have R' := R.push0 (o := { cls := .type "tuple_iterator", data := .fields #[.ref a, .int 0 0] }) (t := s.toks)
  refine k _ _ _ _ _ s.toks (Itr.of_walks W (fun i h st b hb => ?_) (fun i v x hx hp => ?_) (fun i v s Q E hp st h => go_name h)) ⟨⟨_, Heap.get?_push_size _ rfl, rfl, rfl⟩, _, Heap.get?_push_of_some _ ho, rfl, n, rfl⟩ R' (fun b hb => ?_) fun b hb => ?_
  · obtain ⟨⟨o1, e1, _⟩, ⟨o2, e2, _⟩⟩ := st
    simp only [List.mem_cons, List.not_mem_nil, or_false] at hb
    rcases hb with rfl | rfl
    · rw [e1]; rfl
    · rw [e2]; rfl
  · rw [List.getElem?_map] at hx
    obtain ⟨p, hp', rfl⟩ := Option.map_eq_some_iff.mp hx
    obtain ⟨v', e1, e2⟩ := hvs.get hp'
    refine ⟨p, rfl, ?_⟩
    have : vs[i]? = some v := by simpa using hp
    rw [e1] at this; cases this; exact e2
  · simp only [List.mem_cons, List.not_mem_nil, or_false] at hb
    rcases hb with rfl | rfl
    · exact ⟨l1, l3, l7⟩
    · exact ⟨(R.fz _ ha).2.1, (R.fz _ ha).2.2.1, R.fzFr ha⟩
  · simp only [List.mem_cons, List.not_mem_nil, or_false] at hb
    subst hb; exact ⟨l2, l4, l5, l6⟩

/-- the texts of one sign each -/
noncomputable def signs (x : Str) : List PV := x.cps.toList.map fun ch => .str ⟨#[ch]⟩
theorem signs_length (x : Str) : (signs x).length = x.cps.size := by simp [signs]

theorem itb_str {x : Str} {y : Str} {pos : Pos} : Itb c (.str x) ((signs x).map .val) (.Name y pos) σ σ := fun s v Q E R hv k => by
  obtain ⟨t, rfl⟩ := hv
  obtain ⟨l1, l2, l3, l4, l5, l6, l7⟩ := R.low (Nat.le_refl s.heap.objs.size)
  have hlen : ((signs x).map Itm.val).length = x.cps.size := by rw [List.length_map, signs_length]
  have hP : ∀ (i : Nat) (v : Value) (z : Itm), ((signs x).map Itm.val)[i]? = some z → SignAt x i v → ∃ p, z = .val p ∧ p.Is v := fun i v z hx ⟨ch, u, h1, h2⟩ => by
    rw [List.getElem?_map] at hx
    obtain ⟨p, hp', rfl⟩ := Option.map_eq_some_iff.mp hx
    refine ⟨p, rfl, ?_⟩
    rw [signs, List.getElem?_map, Array.getElem?_toList, h1] at hp'
    cases hp'; subst h2; exact ⟨u, rfl⟩
  cases ha : x.cps.all (· < 128)
  · refine wpAny_pyIter_wide ha ?_
    have W := Walks.strWide (prog := c.prog) (w := c.w) (A := c.A) R.ok.hh s.heap.objs.size x t
    rw [← hlen] at W
    refine k _ _ _ _ _ s.toks (Itr.of_walks W (fun i h st b hb => ?_) hP (fun i v s Q E hp st h => go_name h)) ⟨_, Heap.get?_push_size _ rfl, rfl, rfl⟩ R.push0 (fun b hb => ?_) fun b hb => ?_
    · simp only [List.mem_cons, List.not_mem_nil, or_false] at hb
      obtain ⟨o, e, _⟩ := st; subst hb; rw [e]; rfl
    · simp only [List.mem_cons, List.not_mem_nil, or_false] at hb
      subst hb; exact ⟨l1, l3, l7⟩
    · simp only [List.mem_cons, List.not_mem_nil, or_false] at hb
      subst hb; exact ⟨l2, l4, l5, l6⟩
  · refine wpAny_pyIter_ascii ha ?_
    have W := Walks.strAscii (prog := c.prog) (w := c.w) (A := c.A) R.ok.hh s.heap.objs.size x t
    rw [← hlen] at W
    refine k _ _ _ _ _ s.toks (Itr.of_walks W (fun i h st b hb => ?_) hP (fun i v s Q E hp st h => go_name h)) ⟨_, Heap.get?_push_size _ rfl, rfl, rfl⟩ R.push0 (fun b hb => ?_) fun b hb => ?_
    · simp only [List.mem_cons, List.not_mem_nil, or_false] at hb
      obtain ⟨o, e, _⟩ := st; subst hb; rw [e]; rfl
    · simp only [List.mem_cons, List.not_mem_nil, or_false] at hb
      subst hb; exact ⟨l1, l3, l7⟩
    · simp only [List.mem_cons, List.not_mem_nil, or_false] at hb
      subst hb; exact ⟨l2, l4, l5, l6⟩

theorem itb_range {r : Addr} {n : Nat} {y : Str} {pos : Pos} (hr : Look σ r (.range 0 n)) (hn : n < 2 ^ 62) : Itb c (.ref r) ((List.range n).map fun i : Nat => .val (.int (i : Int))) (.Name y pos) σ σ := fun s v Q E R hv k => by
  cases hv
  obtain ⟨l1, l2, l3, l4, l5, l6, l7⟩ := R.low (Nat.le_refl s.heap.objs.size)
  obtain ⟨o, ho, t, u, v, rfl⟩ := hr.has R
  have hs : Builtin.Range.rangeSize 0 (n : Int) 1 = n := by rw [rangeSize_one]; split <;> omega
  refine wpAny_pyIter_range ho (small_one (by omega) (by omega) (by omega) (by omega)) ?_
  have hlen : ((List.range n).map fun i : Nat => Itm.val (.int (i : Int))).length = n := by simp
  have W := Walks.range (prog := c.prog) (w := c.w) (A := c.A) R.ok.hh s.heap.objs.size 0 1 n
  rw [hs]
  rw [← hlen] at W
  refine k _ _ _ _ _ s.toks (Itr.of_walks W (fun i h st b hb => ?_) (fun i v x hx hp => ?_) (fun i v s Q E hp st h => go_name h)) ?_ R.push0 (fun b hb => ?_) fun b hb => ?_
  · simp only [List.mem_cons, List.not_mem_nil, or_false] at hb
    subst hb; rw [show h.get? _ = _ from st]; rfl
  · rw [List.getElem?_map] at hx
    obtain ⟨p, hp', rfl⟩ := Option.map_eq_some_iff.mp hx
    have hi : i < n := by have := (List.getElem?_eq_some_iff.mp hp').1; simpa using this
    rw [List.getElem?_range hi] at hp'; cases hp'
    obtain ⟨t, rfl⟩ := hp
    exact ⟨.int i, rfl, t, by simp⟩
  · show IsRangeIter _ _ _ _ _
    simp only [hlen]
    have := Heap.get?_push_size s.heap (o := { cls := .type "range_iterator", data := .fields #[rawInt 0, rawInt n, rawInt 1] }) rfl
    simpa [IsRangeIter] using this
  · simp only [List.mem_cons, List.not_mem_nil, or_false] at hb
    subst hb; exact ⟨l1, l3, l7⟩
  · simp only [List.mem_cons, List.not_mem_nil, or_false] at hb
    subst hb; exact ⟨l2, l4, l5, l6⟩

theorem Itb.conv {p : PV} {items : List Itm} {target : Expr} {σ₁ : St} {mu' rem fr rest : List (Addr × AO)} (h1 : Take σ.led mu' rem) (h2 : Take rem fr rest) (k : Itb c p items target σ₁ ⟨σ.loc, mu', fr ++ σ.fz⟩) : Itb c p items target σ₁ σ :=
  fun s v Q E R => k s v Q E (R.conv h1 h2)
end
end
section
set_option maxRecDepth 100000
set_option linter.unusedVariables false

/-- statements that need nothing of the place's standing -/
noncomputable def Simple (c : Cx) (sts : List Stmt) (Q : PF → St → Prop) (σ : St) : Prop :=
  ∀ (A' : Around) (E' : Value → Shared → Prop) s, Rl c σ s → wpAny (model c.prog c.w) A' (execs sts c.env) (fun f s' => ∃ pf σ', PF.Is pf f ∧ Rl c σ' s' ∧ Q pf σ') E' s

section
variable {c : Cx} {σ : St}

theorem simple_assign_str {x : Str} {y : Str} {n : Nat} {px pc ps : Pos} {Q : PF → St → Prop} (h : Put c x (.str y) (Q .next) σ) (hs : swapsWith (.Constant (.str y) n pc) (some (.Name x px)) ps.line c.env = pure false := by rfl) :
    Simple c [.Assign [.Name x px] (.Constant (.str y) n pc) ps] Q σ := fun A' E' s R => by
  obtain ⟨loc', hp, hq⟩ := h
  obtain ⟨m, F, L⟩ := R.fr
  refine wpAny_execs_cons (wpAny_Assign_Name (wpAny_Constant_str ?_) hs)
  refine wpAny_storeName_local (R.ok.loc x hp.mem) F.ns (fun h' hn hs => wpAny_execs_nil ?_) (by rw [R.ok.kind]; rfl)
  exact ⟨.next, _, rfl, (R.toks (s.toks + 1)).store (t := s.toks + 1 + 1) F L (show PV.Is (.str y) (.str y s.toks) from ⟨_, rfl⟩) hp hn hs, hq⟩
theorem simple_return_none {n : Nat} {pc ps : Pos} {Q : PF → St → Prop} (h : Q (.ret .none) σ) : Simple c [.Return (some (.Constant .none n pc)) ps] Q σ := fun A' E' s R =>
  wpAny_execs_cons (wpAny_Return_some (wpAny_Constant_none ⟨.ret .none, σ, ⟨.none, rfl, rfl⟩, R, h⟩))

/-- the clause that takes the exception, and what comes of it -/
inductive Handled (c : Cx) (C : Addr) (σ : St) (Q : PF → St → Prop) : List ExceptHandler → Prop where
  | hit {x np st sts pos rest C'} : (x, PV.ref C') ∈ c.gl → (∀ P, exmOne (c.K P) (.ref C) (.ref C') = some true) → Simple c (st :: sts) Q σ → Handled c C σ Q (.ExceptHandler (some (.Name x np)) none (st :: sts) pos :: rest)
  | miss {x np st sts pos rest C'} : (x, PV.ref C') ∈ c.gl → (∀ P, exmOne (c.K P) (.ref C) (.ref C') = some false) → Handled c C σ Q rest → Handled c C σ Q (.ExceptHandler (some (.Name x np)) none (st :: sts) pos :: rest)

theorem glo_nameAt {x : Str} {p : PV} {np : Pos} {s : Shared} (R : Rl c σ s) (h : (x, p) ∈ c.gl) (A' : Around) (E' : Value → Shared → Prop) (Q : Value → Shared → Prop) (k : ∀ v, p.Is v → Q v s) :
    wpAny (model c.prog c.w) A' (eval (.Name x np) c.env) Q E' s := by
  obtain ⟨m, F, L⟩ := R.fr
  obtain ⟨g1, g2, g3⟩ := R.ok.gl _ h
  obtain ⟨v, hv, hG⟩ := g1 c.w.params
  exact glo_name R.ok.sta hG R.ok.eg R.ok.eb R.ok.kind g2 g3 s _ F.keep (k v hv)

/-- the state behind a landing: the frames' slots apart, all stands -/
theorem Rl.landed {s : Shared} {h' : Heap} {t : Nat} (R : Rl c σ s) (hr : c.rsv = []) (he : c.exc = []) (k : (hideAll s.heap (frA c.A)).StaysIn h') (u : s.heap.UpToSlots h') : Rl c σ { heap := h', gens := s.gens, drawn := s.drawn, toks := t, os := s.os } := by
  obtain ⟨m, F, L⟩ := R.fr
  have kept : ∀ {b o}, s.heap.get? b = some o → b ∉ frA c.A → h'.get? b = some o := fun e h => k _ _ (hideAll_get _ e h)
  refine ⟨R.ok, R.gens, R.drawn, R.os, ⟨m, ⟨u.ns F.ns, fun b o e => kept (F.keep b o e) (R.h0Fr e), F.above⟩, L⟩, fun p hp => ?_, R.nod, fun p hp => ?_, R.sub, fun p hp => ?_, fun b hb => ?_, fun p hp => ?_, R.ofr⟩
  · obtain ⟨⟨o, ho, hi⟩, h2, h3⟩ := R.led p hp
    exact ⟨⟨o, kept ho (R.notFr h2 (R.ledFr hp)), hi⟩, h2, h3⟩
  · obtain ⟨⟨o, ho, hi⟩, h2, h3⟩ := R.fz p hp
    exact ⟨⟨o, kept ho (R.notFr h2 (R.fzFr hp)), hi⟩, h2, h3⟩
  · rw [hr] at hp; nomatch hp
  · rw [he] at hb; nomatch hb
  · obtain ⟨sl, ho⟩ := R.ofo p hp
    obtain ⟨sl', hs⟩ := u _ _ ho (fun vs q => (R.ok.ofn p hp).2 vs q)
    exact ⟨sl', hs⟩

/-- the clauses gone through -/
theorem handled_go {C e : Addr} {outer : List Env} {a0 : Value} {s : Shared} {hs : List ExceptHandler} {Q : PF → St → Prop} (H : Handled c C σ Q hs) (R : Rl c σ s) (hr : c.rsv = []) (hx : c.exc = []) (hfr : c.A.frames = some (c.env :: outer)) :
    ∀ (h : Heap) (t : Nat), Heap.FlyingW (hideAll s.heap (frA c.A)) (c.env :: outer) e (.ref C) a0 h → s.heap.UpToSlots h →
    wpAny (model c.prog c.w) c.A (handleBy (.ref e) c.env hs) (fun f s' => ∃ pf σ', PF.Is pf f ∧ Rl c σ' s' ∧ Q pf σ') c.E { heap := h, gens := s.gens, drawn := s.drawn, toks := t, os := s.os } := by
  induction H with
  | @hit x np st sts pos rest C' hg hm hsim =>
    intro h t hh u
    have R₁ := R.landed (t := t) hr hx hh.1 u
    refine wpAny_handleBy_cons (codeAny_handlers_test (glo_nameAt R₁ hg _ _ _ fun v hv => ?_)) (by intro q; cases q)
    cases hv
    obtain ⟨ob, hob, hobc⟩ := hh.there
    have LT : Looks (model c.prog c.w) h (typeOf (.ref e)) (.ref C) := hobc ▸ (Looks.ld hob).andThen .now
    refine (exm_one R₁.K LT (hm _)).here ?_
    refine codeAny_handlers_suite (lands_againW hh fun h₆ hfl₆ hsm₆ => ?_)
    have R' := R.landed (t := t) hr hx hfl₆.1 (u.trans hsm₆)
    exact wpAny_mono (hsim _ _ _ R') (fun f s' z => z) fun _ _ z => z
  | @miss x np st sts pos rest C' hg hm _ ih =>
    intro h t hh u
    have R₁ := R.landed (t := t) hr hx hh.1 u
    refine wpAny_handleBy_cons (codeAny_handlers_test (glo_nameAt R₁ hg _ _ _ fun v hv => ?_)) (by intro q; cases q)
    cases hv
    obtain ⟨ob, hob, hobc⟩ := hh.there
    have LT : Looks (model c.prog c.w) h (typeOf (.ref e)) (.ref C) := hobc ▸ (Looks.ld hob).andThen .now
    refine (exm_one R₁.K LT (hm _)).here ?_
    exact ih h t hh u

theorem s_try {body : List Stmt} {hd : ExceptHandler} {hs : List ExceptHandler} {pos : Pos} {Q : PF → St → Prop} (H : Addr → St → Prop) (hr : c.rsv = []) (hx : c.exc = []) (hf : c.env.frame = some c.env.locals ∧ ∃ outer, c.A.frames = some (c.env :: outer))
    (hb : ∀ c', Sib c c' → AccFly c' H → Wk c' PF.Is (execs body c'.env) Q σ) (hh : ∀ C σ', H C σ' → Handled c C σ' Q (hd :: hs)) : Wk c PF.Is (exec (.Try body (hd :: hs) [] [] pos) c.env) Q σ := fun s R => by
  obtain ⟨hf, outer, hfr⟩ := hf
  let QQ : Flow → Shared → Prop := fun f s' => ∃ pf σ', PF.Is pf f ∧ Rl c σ' s' ∧ Q pf σ'
  let E' : Value → Shared → Prop := fun e s₁ => wpAny (model c.prog c.w) c.A (noteFrame e c.env) (fun _ s₂ => wpAny (model c.prog c.w) c.A (setFlight e none) (fun _ s₃ => wpAny (model c.prog c.w) c.A (handleBy e c.env (hd :: hs)) QQ c.E s₃) c.E s₂) c.E s₁
  have acc : AccFly (c.sib E' [] []) H := fun C σ' s₁ e s' hC R₁ hF => by
    obtain ⟨z1, z2, z3, l, a0, hl, hfl, hup⟩ := hF
    rw [show (c.sib E' [] []).A.frames = some (c.env :: outer) from hfr] at hl
    cases hl
    show wpAny _ _ _ _ _ _
    refine wpAny_looks_onW hfr hf hfl fun h₄ hheld hsm₄ => ?_
    refine wpAny_landsW hheld fun h₅ hfl₅ hsm₅ => ?_
    have R₁' : Rl c σ' s₁ := R₁.unsib (fun p hp => by rw [hr] at hp; exact hp) fun p hp => by rw [hx] at hp; exact hp
    have e1 : ({ s' with heap := h₅ } : Shared) = { heap := h₅, gens := s₁.gens, drawn := s₁.drawn, toks := s'.toks, os := s₁.os } := by rw [← z1, ← z2, ← z3]
    show wpAny _ _ _ _ _ { s' with heap := h₅ }
    rw [e1]
    exact handled_go (hh C σ' hC) R₁' hr hx hfr h₅ s'.toks (by rw [frA_of hfr]; exact hfl₅) ((hup.trans hsm₄).trans hsm₅)
  refine wpAny_Try_except (wpAny_mono (hb (c.sib E' [] []) (c.sib_is _ _ _) acc s (R.sib E' (fun p hp => nomatch hp) (fun b hb => nomatch hb))) (fun f s₁ hpat => ?_) fun _ _ z => z)
  obtain ⟨pf, σ₁, hf, R₁, h₁⟩ := hpat
  have R₁' : Rl c σ₁ s₁ := R₁.unsib (fun p hp => by rw [hr] at hp; exact hp) fun p hp => by rw [hx] at hp; exact hp
  cases pf with
  | next => cases hf; exact wpAny_execs_nil ⟨.next, σ₁, rfl, R₁', h₁⟩
  | brk => cases hf; exact ⟨.brk, σ₁, rfl, R₁', h₁⟩
  | cont => cases hf; exact ⟨.cont, σ₁, rfl, R₁', h₁⟩
  | ret p => obtain ⟨v, rfl, hv⟩ := hf; exact ⟨.ret p, σ₁, ⟨v, rfl, hv⟩, R₁', h₁⟩
end
end
section
set_option maxRecDepth 100000
set_option linter.unusedVariables false
section
variable {prog : Program} {w : World} {A : Around} {E : Value → Shared → Prop} {h : Heap} {g : Array GenState} {d : Drawn} {t : Nat} {os : OsState}
variable {nm q : Str} {C N : Addr} {bs bm : List Value} {hdct : Bool} {sn : List Str} {sub : List Value} {ab : Bool} {col : Option Bool} {dd : Option Addr} {k0 k1 k2 k3 k5 : Option Value}

/-- what an own exception class's line of bases tells -/
structure BmOK (bm : List Value) : Prop where
  exc : bm.contains (.type "Exception") = true
  base : bm.contains (.type "BaseException") = true
  noAttr : bm.contains (.type "AttributeError") = false
  noName : bm.contains (.type "NameError") = false

theorem xc_has {bm : List Value} {T : String} {b : Bool} (e : bm.contains (.type T) = b) : (Value.ref C :: bm).contains (.type T) = b := by rw [List.contains_cons, e]; cases b <;> rfl

theorem xc_checkNew (O : BmOK bm) {rest : List Value} {Q : Unit → Shared → Prop} (hC : h.get? C = some (excClassObj nm q C N bs bm hdct sn sub ab col dd k0 k1 k2 k3 k5 "Exception.__new__"))
    (hq : Q () ⟨h, g, d, t, os⟩) : wpAny (model prog w) A (checkBuiltinCall "Exception.__new__" ⟨.ref C :: rest, []⟩) Q E ⟨h, g, d, t, os⟩ := by
  have FF := PySem.F.excBase_Exception
  have has := xc_has (C := C) O.exc
  have star := FF.noStar
  simp only [checkBuiltinCall, FF.newKind, FF.newSplit, FF.newRow]
  repeat (first | with_reducible refine wpAny_loadPart_at hC ?_ | (with_reducible refine wpAny_isSubtype_exc hC ?_; rw [has]) | with_reducible refine wpAny_staticBase_exc hC ?_ | with_reducible refine wpAny_madeBy_exc hC ?_ | simp only [bne_self_eq_false, Bool.false_eq_true, if_false] | wp_step)
  exact hq

theorem xc_new (O : BmOK bm) {rest : List Value} {R : Result → Shared → Prop} (hC : h.get? C = some (excClassObj nm q C N bs bm hdct sn sub ab col dd k0 k1 k2 k3 k5 "Exception.__new__"))
    (hq : R (.ok (.ret (.ref (h.objs.size + 1)))) ⟨(h.push { cls := .type "tuple", data := .seq rest.toArray }).push
      { cls := .ref C, data := .fields #[.ref h.objs.size, .none, .none, .none, .bool false, .none] }, g, d, t, os⟩) (hz : rest.length ≤ sizeLine) :
    codeAny (model prog w) A (.builtin "Exception.__new__" ⟨.ref C :: rest, []⟩) R ⟨h, g, d, t, os⟩ := by
  have FF := PySem.F.excBase_Exception
  have ends := FF.ends
  have e1 := xc_has (C := C) O.exc
  have e2 := xc_has (C := C) O.noAttr
  have e3 := xc_has (C := C) O.noName
  refine codeAny_builtinAt FF.entry ?_
  unfold Builtin.«BaseException.__new__»
  refine PySem.wpAt_bind ?_
  show PySem.wpAt _ _ _ (stack >>= _) _ _ _
  refine PySem.wpAt_bind (PySem.wpAt_stack fun p below => PySem.wpAt_of_wpAny ?_)
  wp_walk
  refine PySem.wpAt_of_wpAny ?_
  rw [FF.owner]
  repeat (first | with_reducible refine wpAny_madeHere_exc FF.canon hC ?_ | with_reducible refine wpAny_loadPart_at hC ?_ | (with_reducible refine wpAny_isSubtype_exc hC ?_; first | rw [e1] | rw [e2] | rw [e3]) | wp_step)
  show R _ _
  rw [Heap.size_push]
  exact hq

/-- an own exception class called: the new object, then its __init__ -/
theorem xc_call (O : BmOK bm) {rest : List Value} {fI : Addr} {Q : Value → Shared → Prop} (hC : h.get? C = some (excClassObj nm q C N bs bm hdct sn sub ab col dd k0 k1 k2 k3 k5 "Exception.__new__"))
    (hi : Looks (model prog w) h (typeLookup (.ref C) "__init__") (some (.ref fI))) (hf : Looks (model prog w) h (typeOf (.ref fI)) (.type "function"))
    (hq : ∀ h' e, Heap.MadeExcOf h h' e (.ref C) rest → e = h.objs.size + 1 → wpAny (model prog w) (A.under (.builtin "type.__call__" ⟨.ref C :: rest, []⟩)) (call (.ref fI) (.ref e :: rest)) (fun r s' => r = .none ∧ Q (.ref e) s') E ⟨h', g, d, t, os⟩) (hz : rest.length ≤ sizeLine) :
    wpAny (model prog w) A (call (.ref C) rest) Q E ⟨h, g, d, t, os⟩ := by
  have f1 := tc_lookup
  have f2 := tc_bind (.ref C)
  have hT : (⟨h, g, d, t, os⟩ : Shared).TypeIs (.ref C) "type" := ⟨_, hC, rfl⟩
  refine wpAny_call (codeAny_of_tree ?_)
  show wpAny _ _ (callAny (.ref C) _) _ _ _
  repeat (any_goals (first | assumption | with_reducible refine wpAny_loadPart_at hC ?_ | wp_step))
  refine ⟨rfl, codeAny_call_builtin_at (Code.quiet_builtin _ (by decide +kernel)) entry_typeCall (wpAny_check_type_call_sub hC ?_)⟩
  have FF := PySem.F.excBase_Exception
  repeat (first | with_reducible refine wpAny_loadPart_at hC ?_ | with_reducible refine wpAny_madeBy_exc hC ?_ | wp_step)
  refine codeAny_call_builtin_code (Code.quiet_builtin _ FF.quiet) (xc_checkNew O hC (xc_new O hC ?_ hz))
  show wpAny _ _ _ _ _ _
  have kk : ∀ b o, h.get? b = some o → ((h.push { cls := .type "tuple", data := .seq rest.toArray }).push { cls := .ref C, data := .fields #[.ref h.objs.size, .none, .none, .none, .bool false, .none] }).get? b = some o := fun b o e => Heap.get?_push_of_some _ (Heap.get?_push_of_some _ e)
  have hC₁ := kk _ _ hC
  have hi₁ := hi.keeps kk
  have hf₁ := hf.keeps kk
  have hget : ((h.push { cls := .type "tuple", data := .seq rest.toArray }).push
      { cls := .ref C, data := .fields #[.ref h.objs.size, .none, .none, .none, .bool false, .none] }).get? (h.objs.size + 1) = some
      { cls := .ref C, data := .fields #[.ref h.objs.size, .none, .none, .none, .bool false, .none] } := by heap_get
  have hcC : (Value.ref C :: bm).contains (.ref C) = true := by simp
  unfold isInstance
  repeat (first | with_reducible refine wpAny_loadPart_at hget ?_ | wp_step)
  dsimp only
  refine wpAny_isSubtype_exc hC₁ ?_
  rw [hcC]
  repeat wp_step
  show wpAny _ _ (typeLookup (.ref C) _) _ _ _
  refine hi₁.here (wpAny_holding (wpAny_bind ?_))
  unfold bindSpecial
  refine wpAny_bind (hf₁.here ?_)
  rw [if_pos (by decide)]
  refine wpAny_pure (wpAny_bind (wpAny_mono (hq _ (h.objs.size + 1) ⟨kk, Heap.get?_none_of_le (Nat.le_succ _), h.objs.size, hget, Heap.get?_none_of_le (Nat.le_refl _), Heap.get?_push_of_some _ (Heap.get?_push_at rfl rfl)⟩ rfl) (fun r s' hr => ?_) fun _ _ x => x))
  obtain ⟨rfl, hQ⟩ := hr
  wp_walk
  exact hQ
end

section
variable {c : Cx} {σ : St} {Q : PV → St → Prop}
/-- a class object of the written part, one of an own exception -/
structure ExcCls (K : Params → Frag) (C fI : Addr) : Prop where
  at_ : ∃ nm q N bs bm hdct sn sub ab col dd k0 k1 k2 k3 k5, BmOK bm ∧ ∀ P, (K P).lookup C = some (excClassObj nm q C N bs bm hdct sn sub ab col dd k0 k1 k2 k3 k5 "Exception.__new__")
  init : ∀ P, findIn (K P) (.ref C) "__init__" = some (some (.ref fI))
  fn : ∀ P, typeIn (K P) (.ref fI) = some (.type "function")

/-- an own exception made: its __init__ told by a contract -/
theorem wc_exc {K : Params → Frag} {prog : Program} {w : World} {n : Nat} {C fI : Addr} {args : List PV} {Post : Addr → PV → List (Addr × AO) → List (Addr × AO) → Prop} (X : ExcCls K C fI)
    (S : ∀ x, Spec K prog w n fI (.ref x :: args) [(x, .exc C none)] σ.fz (Post x)) (hK : c.K = K) (hp : c.prog = prog) (hw : c.w = w) (hn : n + 1 < c.n) (hz : args.length ≤ 1000000)
    (hP : ∀ x p mu fz', Post x p mu fz' → p = .none ∧ ∃ d rest, mu = (x, AO.exc C d) :: rest) (k : ∀ x d rest fz', (∀ q ∈ σ.fz, q ∈ fz') → Q (.ref x) ⟨σ.loc, (x, .exc C d) :: rest ++ σ.led, fz'⟩) : WCall c (.ref C) args Q σ := by
  subst hK; subst hp; subst hw
  intro fv vs hf ha s R
  cases hf
  obtain ⟨nm, q, N, bs, bm, hdct, sn, sub, ab, col, dd, k0, k1, k2, k3, k5, O, hC⟩ := X.at_
  have hd := R.ok.depth
  have hu := R.ok.units
  have KX := R.K
  obtain ⟨hh, g, dr, t, os⟩ := s
  refine xc_call O (KX _ _ (hC _)) (looks_findIn KX (X.init _)) (looks_typeIn KX (X.fn _)) (fun h' e hm he => ?_) (by rw [ha.length, sizeLine_eq]; omega)
  obtain ⟨tt, t1, t2, t3⟩ := hm.there
  have R₁ : Rl c σ { heap := h', gens := g, drawn := dr, toks := t, os := os } := R.stays (t := t) hm.keeps
  obtain ⟨l1, l2, l3, l4, l5, l6, l7⟩ := R.low (T := e) (by subst he; exact Nat.le_succ _)
  have R₂ : Rl c ⟨σ.loc, (e, .exc C none) :: σ.led, σ.fz⟩ _ := R₁.add (s := { heap := hh, gens := g, drawn := dr, toks := t, os := os }) (x := .exc C none) ⟨_, t1, _, rfl⟩ l1 l2 l3 l4 l5 l6 l7
  obtain ⟨a1, a2, a3, a4, a5⟩ := R₂.asks (.cons .head .nil)
  have st : (A' : Around) → A' = c.A.under (.builtin "type.__call__" ⟨.ref C :: vs, []⟩) → A'.frames = c.A.frames := fun A' e => by subst e; rfl
  refine wpAny_call (S e (c.A.under (.builtin "type.__call__" ⟨.ref C :: vs, []⟩)) _ (.ref e :: vs) _ R.ok.hh (by show c.A.depth + 1 + 2 * n < 898; omega) (by show c.A.units + 1 + 20 * n < 5980; omega) ?_ a2 (.cons rfl ha) a3 a4 a5 (fun v s' p mu' fz' hv B hpost => ?_) (fun _ _ _ hx _ => hx.elim))
  · obtain ⟨base, fr, B⟩ := a1
    exact ⟨base, fr, B.stack, B.stays, B.frames⟩
  · obtain ⟨rfl, d, rest, rfl⟩ := hP _ _ _ _ hpost
    cases hv
    refine ⟨rfl, ?_⟩
    have B' : Back c.w.params c.A _ [(e, AO.exc C none)] σ.fz s' ((e, AO.exc C d) :: rest) fz' := ⟨B.gens, B.drawn, B.os, B.kept, B.ups, B.led, B.nod, B.sub, B.fz⟩
    exact ⟨.ref e, _, rfl, R₂.back (.cons .head .nil) B', k e d rest fz' B.sub⟩
end
end
section
set_option maxRecDepth 100000
set_option linter.unusedVariables false
section
variable {c : Cx} {σ : St}
theorem s_raise {e : Expr} {pos : Pos} {H : Addr → St → Prop} {K : Params → Frag} {Q : PF → St → Prop} (hA : AccNew c H) (hK : c.K = K)
    (h : Wk c PV.Is (eval e c.env) (fun p σ₁ => ∃ a C d fI, p = .ref a ∧ (a, AO.exc C d) ∈ σ₁.led ∧ ExcCls K C fI ∧ H C σ₁) σ) : Wk c PF.Is (exec (.Raise (some e) none pos) c.env) Q σ := fun s R => by
  subst hK
  rw [arm_exec_Raise]
  refine wpAny_bind (wpAny_standAt ?_)
  unfold raiseStmt
  refine wpAny_bind (wpAny_bind (wpAny_mono (h s R) (fun v s₁ hpat => ?_) fun _ _ z => z))
  obtain ⟨p, σ₁, hv, R₁, a, C, d, fI, hp, hl, X, hH⟩ := hpat
  subst hp
  cases hv
  have FIN := hA C σ₁ s₁ a d hH R₁ hl
  obtain ⟨⟨oe, hoe, a0, rfl⟩, _⟩ := R₁.led _ hl
  obtain ⟨nm, q, N, bs, bm, hdct, sn, sub, ab, col, dd, k0, k1, k2, k3, k5, O, hC⟩ := X.at_
  have hC := R₁.K _ _ (hC _)
  have hh := R₁.ok.hh
  obtain ⟨hp, g, dr, tk, os⟩ := s₁
  have e1 := xc_has (C := C) O.base
  repeat (first | with_reducible refine wpAny_loadPart_at hoe ?_ | with_reducible refine wpAny_loadPart_at hC ?_ | (with_reducible refine wpAny_isSubtype_exc hC ?_; rw [e1]) | wp_step)
  exact wpAny_raiseNew_none hh FIN
end
end
section
set_option maxRecDepth 100000
set_option linter.unusedVariables false

/-! dict entries -/
theorem Ents.find {P : Params} {x : Str} {es l} (h : Ents P es l) : (∀ {p}, es.lookup x = some p → ∃ v, PV.Is p v ∧ getL x l = some (some v)) ∧ (es.lookup x = none → getL x l = some none) ∧ l.any (·.refKey) = false := by
  induction h with
  | nil => exact ⟨fun e => by simp at e, fun _ => rfl, rfl⟩
  | @cons k t v p es l hv r ih =>
    obtain ⟨i1, i2, i3⟩ := ih
    have key : (DictEntry.mk (PyData.keyHash P k) (.str k t) v).key.isStr x = (x == k) := by
      show (k == x) = (x == k)
      by_cases e : k = x
      · subst e; rfl
      · rw [beq_eq_false_iff_ne.mpr e, beq_eq_false_iff_ne.mpr (Ne.symm e)]
    have nk : (DictEntry.mk (PyData.keyHash P k) (.str k t) v).refKey = false := rfl
    have any3 : ((DictEntry.mk (PyData.keyHash P k) (.str k t) v) :: l).any (·.refKey) = false := by rw [List.any_cons, nk, i3]; rfl
    refine ⟨fun {q} e => ?_, fun e => ?_, any3⟩
    · rw [List.lookup_cons] at e
      unfold getL
      rw [List.find?_cons, key]
      cases hx : x == k with
      | true => rw [hx] at e; cases e; exact ⟨v, hv, rfl⟩
      | false =>
        rw [hx] at e
        obtain ⟨u, h1, h2⟩ := i1 e
        refine ⟨u, h1, ?_⟩
        unfold getL at h2
        dsimp only
        cases hf : List.find? (fun x_1 => x_1.key.isStr x) l with
        | some en => rw [hf] at h2; exact h2
        | none => rw [hf] at h2; rw [i3] at h2; cases h2
    · rw [List.lookup_cons] at e
      unfold getL
      rw [List.find?_cons, key]
      cases hx : x == k with
      | true => rw [hx] at e; cases e
      | false =>
        rw [hx] at e
        have h2 := i2 e
        unfold getL at h2
        dsimp only
        cases hf : List.find? (fun x_1 => x_1.key.isStr x) l with
        | some en => rw [hf] at h2; cases h2
        | none => rw [any3]; rfl

/-- a name's value laid into the entries -/
noncomputable def putE (x : Str) (p : PV) : List (Str × PV) → List (Str × PV)
  | [] => [(x, p)]
  | (k, q) :: r => if k = x then (k, p) :: r else (k, q) :: putE x p r
theorem Ents.put {P : Params} {x : Str} {p : PV} {v : Value} {t : Tok} (hv : p.Is v) {es l} (h : Ents P es l) : Ents P (putE x p es) (putL x (PyData.keyHash P x) (.str x t) v l) ∧ (putL x (PyData.keyHash P x) (.str x t) v l).length ≤ l.length + 1 := by
  induction h with
  | nil => exact ⟨.cons hv .nil, by simp [putL]⟩
  | @cons k t' u q es l hu r ih =>
    unfold putE putL
    have key : (DictEntry.mk (PyData.keyHash P k) (.str k t') u).key.isStr x = (k == x) := rfl
    by_cases e : k = x
    · subst e
      rw [if_pos rfl, key, if_pos (by simp)]
      exact ⟨.cons hv r, by simp⟩
    · rw [if_neg e, key, if_neg (by simpa using e)]
      exact ⟨.cons hu ih.1, by simpa using ih.2⟩
theorem Ents.length {P : Params} {es l} (h : Ents P es l) : l.length = es.length := by induction h with | nil => rfl | cons _ _ ih => simp [ih]

/-! the classes' facts -/
/-- a class of its own whose instances bear a dict and take stores -/
structure StoreOK (K : Params → Frag) (C : Addr) : Prop where
  sa : ∀ P, findIn (K P) (.ref C) "__setattr__" = some (some (.builtin "object.__setattr__"))
  mro : ∃ l : List Value, (∀ P, ∃ cd, clsIn (K P) C = some cd ∧ cd.mro = l ∧ cd.hasDict = true) ∧ (∀ self, refuseLoop self "__setattr__" l = pure ()) ∧ l.contains (.type "object") = true ∧ l.isEmpty = false
/-- a class of its own whose instances' names are read plainly -/
structure ReadOK (K : Params → Frag) (C : Addr) : Prop where
  plain : ∀ P name, plainGet (K P) C name = true
  dict : ∀ P, hasDictIn (K P) C = true

section
variable {c : Cx} {σ : St}

theorem instAt {h : Heap} {x C dx : Addr} {l : List DictEntry} {n : Nat} (h1 : h.get? x = some (instObj C dx)) (h2 : h.get? dx = some (dictOf l n)) : InstAt h x (instObj C dx) C (some (dictOf l n)) := ⟨h1, rfl, rfl, h2⟩

noncomputable def handedPV : PV → Bool
  | .builtin _ => false
  | _ => true
theorem handed_of {p : PV} {v : Value} (h : p.Is v) (e : handedPV p = true) : handedIn v = true := by
  cases p with
  | none => cases h; rfl
  | bool b => cases h; rfl
  | int i => obtain ⟨t, rfl⟩ := h; rfl
  | str i => obtain ⟨t, rfl⟩ := h; rfl
  | bytes i => obtain ⟨t, rfl⟩ := h; rfl
  | ref a => cases h; rfl
  | type a => cases h; rfl
  | builtin a => cases e

/-- an attribute read -/
noncomputable def WAttr (c : Cx) (p : PV) (name : Str) (Q : PV → St → Prop) (σ : St) : Prop := ∀ a, p.Is a → Wk c PV.Is (getAttr a name true) Q σ
theorem w_attr {o : Expr} {name : Str} {pos : Pos} {Q : PV → St → Prop} (h : Wk c PV.Is (eval o c.env) (fun p σ₁ => WAttr c p name Q σ₁) σ) (h1 : attributeBase o name c.env (eval o c.env) = eval o c.env := by rfl) :
    Wk c PV.Is (eval (.Attribute o name pos) c.env) Q σ := fun s R => by
  rw [arm_eval_Attribute, h1]
  exact wpAny_bind (wpAny_mono (h s R) (by rintro a s₁ ⟨p, σ₁, ha, R₁, h₁⟩; exact wpAny_bind (wpAny_standAt (wpAny_bind (wpAny_holding (wpAny_mono (h₁ a ha s₁ R₁) (fun v s₂ h₂ => wpAny_bind (wpAny_letTemporaryGo (wpAny_pure h₂))) fun _ _ z => z))))) fun _ _ z => z)
theorem a_inst {x C dx : Addr} {es : List (Str × PV)} {name : Str} {p : PV} {Q : PV → St → Prop} {K : Params → Frag} (hK : c.K = K) (O : ReadOK K C) (hn : ∀ P, findIn (K P) (.ref C) name = some none) (hx : Look σ x (.inst C dx)) (hd : Look σ dx (.dict es))
    (hl : es.lookup name = some p) (hp : handedPV p = true) (k : Q p σ) : WAttr c (.ref x) name Q σ := fun a e s R => by
  subst hK
  cases e
  obtain ⟨o1, h1, rfl⟩ := hx.has R
  obtain ⟨o2, h2, l, n, hE, rfl⟩ := hd.has R
  obtain ⟨v, hv, hg⟩ := hE.find.1 hl
  exact get_value R.K (instAt h1 h2) (plainGet_of (O.plain _ name)).1 (findObj_own (O.dict _) (hn _) rfl hg) (handed_of hv hp) ⟨p, σ, hv, R.toks _, k⟩

/-- a method of the class of an object -/
theorem m_inst {x C dx f : Addr} {es : List (Str × PV)} {name : Str} {Q : PV × List PV → St → Prop} {K : Params → Frag} (hK : c.K = K) (O : ReadOK K C) (hn : ∀ P, findIn (K P) (.ref C) name = some (some (.ref f))) (hf : ∀ P, isFn (K P) (.ref f) = true) (hx : Look σ x (.inst C dx)) (hd : Look σ dx (.dict es))
    (hl : es.lookup name = none) (k : Q (.ref f, [.ref x]) σ) : WMeth c (.ref x) name Q σ := fun ov pl e s R => by
  subst hK
  cases e
  obtain ⟨o1, h1, rfl⟩ := hx.has R
  obtain ⟨o2, h2, l, n, hE, rfl⟩ := hd.has R
  have hg := hE.find.2.1 hl
  exact method_fn R.K (instAt h1 h2) (plainGet_of (O.plain _ name)).1 (plainGet_of (O.plain _ name)).2 (hn _) (beq_iff_eq.mp (hf _)) (by show (lookIn name (dictOf l n)).map _ = _; rw [lookIn_dict, hg]; rfl) ⟨(.ref f, [.ref x]), σ, ⟨rfl, .cons rfl .nil⟩, R, k⟩

/-- an attribute's store, as far as the own dict -/
theorem osa_at {K : Params → Frag} {prog : Program} {w : World} {A : Around} {s : Shared} {x C : Addr} {ox : Obj} {name : Str} {v : Value} {E : Value → Shared → Prop} {Q : Unit → Shared → Prop} (O : StoreOK K C) (X : (K w.params).In s.heap) (hx : s.heap.get? x = some ox) (hc : ox.cls = .ref C)
    (hn : ∀ P, findIn (K P) (.ref C) name = some none)
    (h : ∀ (A' : Around) (tk : Tok) (t' : Nat) (cd : ClassData), clsIn (K w.params) C = some cd → cd.hasDict = true → wpAny (model prog w) A' (PySem.Builtin.ObjectAttr.storeInOwnDict (.ref x) (.ref C) (.str name tk) name v false) (fun fin s' => fin = PySem.Fin.done (.ret .none) ∧ Q () s') (fun _ _ => False) { s with toks := t' }) :
    wpAny (model prog w) A (setAttr (.ref x) name v) Q E s := by
  obtain ⟨mr, hm, hrl, hob, hne⟩ := O.mro
  obtain ⟨cd, hcd, hmr, hhd⟩ := hm w.params
  have T : Looks (model prog w) s.heap (typeOf (.ref x)) (.ref C) := hc ▸ (Looks.ld hx).andThen .now
  have SF := PySem.F.store_object
  refine wpAny_bind (wpAny_mkText (wpAny_bind (wpAny_bind (wpAny_bind (T _ _ _ _ (fun _ _ e => e) (looks_findIn X (O.sa _) _ _ _ _ (fun _ _ e => e) (wpAny_holding ?_)))))))
  rw [SF.slot.bind]
  refine wpAny_bind (wpAny_pure (wpAny_bind (wpAny_call ?_)))
  have sub : Looks (model prog w) s.heap (isInstance (.ref x) (.type "object")) true := T.andThen (looks_mroIn X (by unfold mroIn; rw [hcd, Option.bind_some, hmr, if_neg (by rw [hne]; decide), hob]))
  have L1 : Looks (model prog w) s.heap (mroOf (.ref C)) mr := hmr ▸ (looks_clsIn X hcd).andThen .now
  have L2 : Looks (model prog w) s.heap (PySem.Builtin.ObjectAttr.storeTaker? none) none := .now
  refine codeAny_call_builtin SF.slot.plain SF.entry (@check_slot (model prog w) _ _ { s with toks := s.toks + 1 } "object.__setattr__" "object" "__setattr__" (.ref x) [.str name s.toks, v] [] _ SF.kind SF.split sub (SF.args (.ref x) (.str name s.toks) v) ?_)
  show wpAny _ _ (PySem.Builtin.«object.__setattr__» ⟨[.ref x, .str name s.toks, v], []⟩) _ _ _
  rw [osa_eq, refuse_eq]
  refine wpAny_bind (wpAny_bind (T.at (wpAny_bind (L1.at ?_))))
  rw [hrl]
  refine wpAny_pure (wpAny_bind (T.at (wpAny_bind ((looks_findIn X (hn _)).at (wpAny_bind (L2.at ?_))))))
  refine wpAny_mono (h _ _ _ cd hcd hhd) (fun fin s' hf => ?_) fun _ _ z => z.elim
  obtain ⟨rfl, hq⟩ := hf
  exact wpAny_pure (wpAny_pure hq)

/-- the name laid into a dict that stands -/
theorem into_dict {P : Params} {prog : Program} {w : World} {A : Around} {s : Shared} {dx : Addr} {es : List (Str × PV)} {name : Str} {p : PV} {v : Value} {tk : Tok} {E : Value → Shared → Prop} {Q : PySem.Fin → Shared → Prop} (hP : w.params = P) (hd : Has P s.heap dx (.dict es)) (hv : p.Is v) (hz : es.length ≤ 1000)
    (h : ∀ h' t', Heap.SameBut dx s.heap h' → Has P h' dx (.dict (putE name p es)) → Q (.done (.ret .none)) { heap := h', gens := s.gens, drawn := s.drawn, toks := t', os := s.os }) :
    wpAny (model prog w) A (PySem.Builtin.ObjectAttr.storeInDict dx (.str name tk) name v) Q E s := by
  subst hP
  obtain ⟨o2, h2, l, n, hE, rfl⟩ := hd
  have hpt := hE.put (x := name) (t := s.toks) hv
  refine wpAny_bind (wpAny_pure (wpAny_bind ?_))
  unfold nsSet
  refine wpAny_bind (wpAny_bind (wpAny_askSetting (wpAny_pure (wpAny_bind (wpAny_mkText (wpAny_bind (wpAny_loadPart h2 ?_)))))))
  dsimp only
  have c0 : (!l.toArray.any (·.key.isStr name) && l.toArray.any (·.refKey)) = false := by
    rw [← Array.any_toList, ← Array.any_toList, (hE.find (x := name)).2.2, Bool.and_false]
  rw [aRefKeyMayBeTheName_at, c0]
  refine wpAny_updatePart h2 ?_
  have D' : (s.heap.update dx (Obj.putName name (PyData.keyHash w.params name) (.str name s.toks) v)).get? dx = some (dictOf (putL name (PyData.keyHash w.params name) (.str name s.toks) v l) (putN name l n)) := by
    have e1 := putName_dict name (PyData.keyHash w.params name) (.str name s.toks) v l n
    exact (Heap.get?_update_self (Obj.putName name (PyData.keyHash w.params name) (.str name s.toks) v) h2 (by rw [e1]; rfl)).trans (congrArg some e1)
  refine wpAny_bind (wpAny_lookBehind D' (pastItsLine_dict (by rw [List.size_toArray, sizeLine_eq]; have := hpt.2; have := hE.length; omega)) ?_)
  exact wpAny_pure (h _ _ (Heap.SameBut.update _ _ _) ⟨_, D', _, _, hpt.1, rfl⟩)

/-- what an attribute's store changes -/
noncomputable def WSetA (c : Cx) (o : PV) (name : Str) (v : PV) (Q : St → Prop) (σ : St) : Prop := ∀ a x, o.Is a → v.Is x → Wk c Same (setAttr a name x) (fun _ => Q) σ
theorem sa_inst {x C dx : Addr} {es : List (Str × PV)} {name : Str} {p : PV} {Q : St → Prop} {K : Params → Frag} {led led' fz : List (Addr × AO)} {loc : List (Option PV)} (hK : c.K = K) (O : StoreOK K C) (hn : ∀ P, findIn (K P) (.ref C) name = some none) (hx : Look ⟨loc, led, fz⟩ x (.inst C dx))
    (U : Up led dx (.dict es) (.dict (putE name p es)) led') (hz : es.length ≤ 1000) (k : Q ⟨loc, led', fz⟩) : WSetA c (.ref x) name p Q ⟨loc, led, fz⟩ := fun a v e hv s R => by
  subst hK
  cases e
  obtain ⟨o1, h1, rfl⟩ := hx.has R
  have hd := (R.led _ U.mem).1
  refine osa_at O R.K h1 rfl hn fun A' tk t' cd hcd hhd => ?_
  refine wpAny_bind (wpAny_pure (wpAny_bind (wpAny_bind (wpAny_loadPart (s := { s with toks := t' }) h1 (wpAny_bind ((looks_clsIn R.K hcd).at ?_))))))
  rw [hhd]
  refine wpAny_pure (a := some dx) (into_dict (s := { s with toks := t' }) rfl hd hv hz fun h' t'' hs hd' => ⟨rfl, ?_⟩)
  exact ⟨(), _, rfl, R.upd (t := t'') U hs hd', k⟩

theorem s_assign_attr {o value : Expr} {name : Str} {pos' pos : Pos} {Q : PF → St → Prop} (h : Wk c PV.Is (eval value c.env) (fun v σ₁ => Wk c PV.Is (eval o c.env) (fun p σ₂ => WSetA c p name v (Q .next) σ₂) σ₁) σ)
    (hs : swapsWith value (some (.Attribute o name pos')) pos.line c.env = pure false := by rfl) : Wk c PF.Is (exec (.Assign [.Attribute o name pos'] value pos) c.env) Q σ := fun s R =>
  plainObj_wpAny_Assign_Attribute (wpAny_mono (h s R) (by rintro v s₁ ⟨pv, σ₁, hv, R₁, h₁⟩; exact wpAny_mono (h₁ s₁ R₁) (by rintro a s₂ ⟨p, σ₂, ha, R₂, h₂⟩; exact wpAny_mono (h₂ a v ha hv s₂ R₂) (by rintro _ s₃ ⟨_, σ₃, _, R₃, h₃⟩; exact ⟨.next, σ₃, rfl, R₃, h₃⟩) fun _ _ z => z) fun _ _ z => z) fun _ _ z => z) hs
end
end
section
set_option maxRecDepth 100000
set_option linter.unusedVariables false
section
variable {c : Cx} {σ : St}

/-- an exception's first attribute: its dict is made -/
theorem sa_exc0 {x C : Addr} {name : Str} {p : PV} {Q : St → Prop} {K : Params → Frag} {led fz : List (Addr × AO)} {led' : Addr → List (Addr × AO)} {loc : List (Option PV)} (hK : c.K = K) (O : StoreOK K C) (hn : ∀ P, findIn (K P) (.ref C) name = some none)
    (U : ∀ d, Up led x (.exc C none) (.exc C (some d)) (led' d)) (k : ∀ d, Q ⟨loc, (d, .dict [(name, p)]) :: led' d, fz⟩) : WSetA c (.ref x) name p Q ⟨loc, led, fz⟩ := fun a v e hv s R => by
  subst hK
  cases e
  obtain ⟨o1, h1, a0, rfl⟩ := (R.led _ (U 0).mem).1
  refine osa_at O R.K h1 rfl hn fun A' tk t' cd hcd hhd => ?_
  refine wpAny_bind (wpAny_pure (wpAny_bind (wpAny_bind (wpAny_loadPart (s := { s with toks := t' }) h1 (wpAny_bind ((looks_clsIn R.K hcd).at ?_))))))
  rw [hhd]
  -- the new dict, the object that bears it
  have R₁ : Rl c ⟨loc, (s.heap.objs.size, .dict []) :: led, fz⟩ { heap := s.heap.push (dictOf [] 0), gens := s.gens, drawn := s.drawn, toks := t', os := s.os } := R.push (x := .dict []) ⟨[], 0, .nil, rfl⟩ rfl
  have h1' : (s.heap.push (dictOf [] 0)).get? x = some { cls := .ref C, dict := none, data := .fields #[a0, .none, .none, .none, .bool false, .none] } := Heap.get?_push_of_some _ h1
  have R₂ : Rl c ⟨loc, (s.heap.objs.size, .dict []) :: led' s.heap.objs.size, fz⟩ { heap := (s.heap.push (dictOf [] 0)).update x fun o => { o with dict := some s.heap.objs.size }, gens := s.gens, drawn := s.drawn, toks := t', os := s.os } :=
    R₁.upd (t := t') (.tail (U _)) (Heap.SameBut.update _ _ _) ⟨_, Heap.get?_update_self _ h1' rfl, a0, rfl⟩
  refine wpAny_bind (wpAny_alloc (wpAny_bind (wpAny_update h1' ?_)))
  show wpAny _ _ (pure (some s.heap.objs.size)) _ _ _
  refine wpAny_pure (into_dict rfl (R₂.led _ (.head _)).1 hv (by decide) fun h' t'' hs hd' => ⟨rfl, ?_⟩)
  exact ⟨(), _, rfl, R₂.upd (t := t'') .head hs hd', k _⟩
theorem sa_exc1 {x C d : Addr} {es : List (Str × PV)} {name : Str} {p : PV} {Q : St → Prop} {K : Params → Frag} {led led' fz : List (Addr × AO)} {loc : List (Option PV)} (hK : c.K = K) (O : StoreOK K C) (hn : ∀ P, findIn (K P) (.ref C) name = some none)
    (hx : Look ⟨loc, led, fz⟩ x (.exc C (some d))) (U : Up led d (.dict es) (.dict (putE name p es)) led') (hz : es.length ≤ 1000) (k : Q ⟨loc, led', fz⟩) : WSetA c (.ref x) name p Q ⟨loc, led, fz⟩ := fun a v e hv s R => by
  subst hK
  cases e
  obtain ⟨o1, h1, a0, rfl⟩ := hx.has R
  have hd := (R.led _ U.mem).1
  refine osa_at O R.K h1 rfl hn fun A' tk t' cd hcd hhd => ?_
  refine wpAny_bind (wpAny_pure (wpAny_bind (wpAny_bind (wpAny_loadPart (s := { s with toks := t' }) h1 (wpAny_bind ((looks_clsIn R.K hcd).at ?_))))))
  rw [hhd]
  refine wpAny_pure (a := some d) (into_dict (s := { s with toks := t' }) rfl hd hv hz fun h' t'' hs hd' => ⟨rfl, ?_⟩)
  exact ⟨(), _, rfl, R.upd (t := t'') U hs hd', k⟩

theorem Up.refl' {a : Addr} {x : AO} : ∀ {l : List (Addr × AO)}, (a, x) ∈ l → Up l a x x l
  | _ :: r, .head _ => .head
  | _ :: r, .tail _ h => .tail (Up.refl' h)

/-- Exception.__init__ of an own exception -/
theorem c_excInit {x C fI : Addr} {d : Option Addr} {p : PV} {Q : PV → St → Prop} {K : Params → Frag} {led fz : List (Addr × AO)} {loc : List (Option PV)} (hK : c.K = K) (X : ExcCls K C fI) (hx : (x, AO.exc C d) ∈ led) (k : Q .none ⟨loc, led, fz⟩) :
    WCall c (.builtin "Exception.__init__") [.ref x, p] Q ⟨loc, led, fz⟩ := fun f vs hf ha s R => by
  subst hK
  cases hf
  obtain ⟨_, _, rfl, e1, ha⟩ := ha.cons_inv
  obtain ⟨v, _, rfl, hv, ha⟩ := ha.cons_inv
  cases ha.nil_inv
  cases e1
  obtain ⟨⟨o1, h1, a0, rfl⟩, hxl, hx0⟩ := R.led _ hx
  obtain ⟨nm, q, N, bs, bm, hdct, sn, sub, ab, col, dd, k0, k1, k2, k3, k5, O, hC⟩ := X.at_
  have hC := R.K _ _ (hC _)
  have FF := PySem.F.excBase_Exception
  have has := xc_has (C := C) O.exc
  have star := FF.noStar
  have KX := R
  have chk : ∀ (s' : Shared) (A : Around) (E : Value → Shared → Prop) (Q' : Unit → Shared → Prop), s' = s → Q' () s' → wpAny (model c.prog c.w) A (checkBuiltinCall "Exception.__init__" ⟨[.ref x, v], []⟩) Q' E s' := fun s' A E Q' e hq => by
    subst e
    obtain ⟨hp, g, dr, tk, os⟩ := s'
    simp only [checkBuiltinCall, FF.initKind, FF.initSplit, FF.initRow]
    repeat (first | with_reducible refine wpAny_loadPart_at h1 ?_ | with_reducible refine wpAny_loadPart_at hC ?_ | (with_reducible refine wpAny_isSubtype_exc hC ?_; rw [has]) | wp_step)
    exact hq
  refine wpAny_call (codeAny_call_builtin FF.init.plain FF.initEntry (chk s _ _ _ rfl ?_))
  have h1' : (s.heap.push { cls := .type "tuple", data := .seq [v].toArray }).get? x = some { cls := .ref C, dict := d, data := .fields #[a0, .none, .none, .none, .bool false, .none] } := Heap.get?_push_of_some _ h1
  have R₁ : Rl c ⟨loc, led, fz⟩ { heap := (s.heap.push { cls := .type "tuple", data := .seq [v].toArray }).update x (Obj.mapFields fun y => y.setIfInBounds 0 (.ref s.heap.objs.size)), gens := s.gens, drawn := s.drawn, toks := s.toks, os := s.os } :=
    (R.push0 (t := s.toks)).upd (t := s.toks) (Up.refl' hx) (Heap.SameBut.update _ _ _) ⟨_, Heap.get?_update_self _ h1' rfl, .ref s.heap.objs.size, rfl⟩
  obtain ⟨hp, g, dr, tk, os⟩ := s
  unfold PySem.Builtin.«BaseException.__init__»
  wp_walk
  have fin : ∀ (A' : Around) (E' : Value → Shared → Prop) (Q' : Unit → Shared → Prop) (s' : Shared), Q' () s' → wpAny (model c.prog c.w) A' (match #[a0, Value.none, Value.none, Value.none, Value.bool false, Value.none][0] with
    | Value.ref a => letGo [#[a0, Value.none, Value.none, Value.none, Value.bool false, Value.none][0]]
    | x => pure ()) Q' E' s' := fun A' E' Q' s' hq => by
    show wpAny _ _ (match a0 with | Value.ref a => letGo [a0] | x => pure ()) _ _ _
    cases a0 <;> first | exact wpAny_pure hq | exact wpAny_letGo hq
  refine fin _ _ _ _ ?_
  exact wpAny_pure ⟨.none, _, rfl, R₁, k⟩

/-- an object made: its __init__ told by a contract -/
structure MakeOK (K : Params → Frag) (C fI : Addr) : Prop where
  makes : ∀ P, makesIn (K P) C = true
  init : ∀ P, findIn (K P) (.ref C) "__init__" = some (some (.ref fI))
  fn : ∀ P, typeIn (K P) (.ref fI) = some (.type "function")
theorem wc_make {K : Params → Frag} {prog : Program} {w : World} {n : Nat} {C fI : Addr} {args : List PV} {mu rest : List (Addr × AO)} {Post : Addr → Addr → PV → List (Addr × AO) → List (Addr × AO) → Prop} {Q : PV → St → Prop} (X : MakeOK K C fI)
    (S : ∀ x dx, Spec K prog w n fI (.ref x :: args) ((x, .inst C dx) :: (dx, .dict []) :: mu) σ.fz (Post x dx)) (hK : c.K = K) (hp : c.prog = prog) (hw : c.w = w) (hn : n + 1 < c.n) (ht : Take σ.led mu rest)
    (hP : ∀ x dx p mu fz', Post x dx p mu fz' → p = .none) (k : ∀ x dx mu' fz', Post x dx .none mu' fz' → (∀ q ∈ σ.fz, q ∈ fz') → Q (.ref x) ⟨σ.loc, mu' ++ rest, fz'⟩) : WCall c (.ref C) args Q σ := by
  subst hK; subst hp; subst hw
  intro fv vs hf ha s R
  cases hf
  have hd := R.ok.depth
  have hu := R.ok.units
  have KX := R.K
  obtain ⟨hh, g, dr, t, os⟩ := s
  have R₁ : Rl c ⟨σ.loc, (hh.objs.size, .dict []) :: σ.led, σ.fz⟩ { heap := hh.push (dictOf [] 0), gens := g, drawn := dr, toks := t, os := os } := R.push (x := .dict []) (t := t) ⟨[], 0, .nil, rfl⟩ rfl
  have R₂ : Rl c ⟨σ.loc, (hh.objs.size + 1, .inst C hh.objs.size) :: (hh.objs.size, .dict []) :: σ.led, σ.fz⟩ { heap := (hh.push (dictOf [] 0)).push (instObj C hh.objs.size), gens := g, drawn := dr, toks := t, os := os } := by
    have := R₁.push (x := .inst C hh.objs.size) (t := t) rfl rfl
    rwa [Heap.size_push] at this
  obtain ⟨a1, a2, a3, a4, a5⟩ := R₂.asks (.cons .head (.cons .head ht))
  refine wpAny_call (make_core (makes_of KX (X.makes _)) (looks_findIn KX (X.init _)) (fun self => bind_fn KX self (X.fn _)) (.inl rfl) ?_)
  refine S (hh.objs.size + 1) hh.objs.size (c.A.under (.builtin "type.__call__" ⟨.ref C :: vs, []⟩)) _ (.ref (hh.objs.size + 1) :: vs) _ R.ok.hh (by show c.A.depth + 1 + 2 * n < 898; omega) (by show c.A.units + 1 + 20 * n < 5980; omega) ?_ a2 (.cons rfl ha) a3 a4 a5 (fun v s' p mu' fz' hv B hpost => ?_) (fun _ _ _ hx _ => hx.elim)
  · obtain ⟨base, fr, B⟩ := a1
    exact ⟨base, fr, B.stack, B.stays, B.frames⟩
  · obtain rfl := hP _ _ _ _ _ hpost
    cases hv
    refine ⟨rfl, ?_⟩
    have B' : Back c.w.params c.A _ ((hh.objs.size + 1, AO.inst C hh.objs.size) :: (hh.objs.size, AO.dict []) :: mu) σ.fz s' mu' fz' := ⟨B.gens, B.drawn, B.os, B.kept, B.ups, B.led, B.nod, B.sub, B.fz⟩
    exact ⟨.ref _, _, rfl, R₂.back (.cons .head (.cons .head ht)) B', k _ _ mu' fz' hpost B.sub⟩
end
end
section
set_option maxRecDepth 100000
set_option linter.unusedVariables false
theorem one_of {α : Type} : ∀ {l : List α}, l.length = 1 → ∃ u, l = [u]
  | [u], _ => ⟨u, rfl⟩
theorem two_of {α : Type} : ∀ {l : List α}, l.length = 2 → ∃ u u', l = [u, u']
  | [u, u'], _ => ⟨u, u', rfl⟩

/-! the library's rules over a ledger, taken over a ledger of all that stands -/
noncomputable def eH : Heap := { objs := #[] }
noncomputable def allOf (h : Heap) (L : Addr) : List (Addr × Obj) := (List.range h.objs.size).filterMap fun a => if a = L then none else (h.get? a).map fun o => (a, o)
theorem eH_none (a : Addr) : eH.get? a = none := by
  cases q : eH.get? a with
  | none => rfl
  | some o => exact absurd (Heap.lt_size q) (Nat.not_lt_zero _)
theorem mem_allOf {h : Heap} {L a : Addr} {o : Obj} (e : h.get? a = some o) (hn : a ≠ L) : (a, o) ∈ allOf h L :=
  List.mem_filterMap.mpr ⟨a, List.mem_range.mpr (Heap.lt_size e), by rw [if_neg hn, e]; rfl⟩
theorem allOf_news (h : Heap) (L : Addr) : News eH L h (allOf h L) := fun p hp => by
  obtain ⟨a, ha, e⟩ := List.mem_filterMap.mp hp
  split at e
  · cases e
  · rename_i hn
    obtain ⟨o, ho, rfl⟩ := Option.map_eq_some_iff.mp e
    exact ⟨ho, hn, eH_none _⟩

section
variable {c : Cx} {σ : St}
theorem Rl.frE {s : Shared} (R : Rl c σ s) : ∃ m, Fr eH c.env.locals s.heap m ∧ Fr c.h₀ c.env.locals s.heap m ∧ Locs c.names σ.loc m := by
  obtain ⟨m, F, L⟩ := R.fr
  exact ⟨m, ⟨F.ns, fun b o e => (by rw [eH_none] at e; cases e), Nat.zero_le _⟩, F, L⟩
/-- behind such a rule all stands -/
theorem Rl.got {s : Shared} {h' : Heap} {t : Nat} {m : Str → Option Value} {news : List (Addr × Obj)} (R : Rl c σ s) (F : Fr c.h₀ c.env.locals s.heap m) (L : Locs c.names σ.loc m) (F' : Fr eH c.env.locals h' m) (N' : News eH c.env.locals h' (news ++ allOf s.heap c.env.locals)) :
    Rl c σ { heap := h', gens := s.gens, drawn := s.drawn, toks := t, os := s.os } := by
  have kept : ∀ {b o}, s.heap.get? b = some o → b ≠ c.env.locals → h'.get? b = some o := fun {b o} e hn => (N' (b, o) (List.mem_append_right _ (mem_allOf e hn))).1
  refine ⟨R.ok, R.gens, R.drawn, R.os, ⟨m, ⟨F'.ns, fun b o e => kept (F.keep b o e) (fun q => by subst q; exact absurd (Heap.lt_size e) (Nat.not_lt.mpr F.above)), F.above⟩, L⟩, fun p hp => ?_, R.nod, fun p hp => ?_, R.sub, fun p hp => ⟨kept (R.rsv p hp).1 (R.rsv p hp).2.1, (R.rsv p hp).2⟩, fun b hb => ?_, R.ofo.mono fun p hp _ e => kept e (R.ofr p hp).1, R.ofr⟩
  · obtain ⟨⟨o, ho, hi⟩, h2⟩ := R.led p hp
    exact ⟨⟨o, kept ho h2.1, hi⟩, h2⟩
  · obtain ⟨⟨o, ho, hi⟩, h2⟩ := R.fz p hp
    exact ⟨⟨o, kept ho h2.1, hi⟩, h2⟩
  · obtain ⟨o, ho⟩ := Option.isSome_iff_exists.mp (R.exc b hb).1
    exact ⟨by rw [kept ho (R.exc b hb).2.1]; rfl, (R.exc b hb).2⟩
theorem Rl.gotNew {s : Shared} {h' : Heap} {t : Nat} {m : Str → Option Value} {D : Addr} {o : Obj} {x : AO} (R : Rl c σ s) (F : Fr c.h₀ c.env.locals s.heap m) (L : Locs c.names σ.loc m) (F' : Fr eH c.env.locals h' m)
    (N' : News eH c.env.locals h' ((D, o) :: allOf s.heap c.env.locals)) (lt : ∀ q ∈ allOf s.heap c.env.locals, q.1 < D) (hx : x.Is c.w.params o) : Rl c ⟨σ.loc, (D, x) :: σ.led, σ.fz⟩ { heap := h', gens := s.gens, drawn := s.drawn, toks := t, os := s.os } := by
  have R₁ : Rl c σ { heap := h', gens := s.gens, drawn := s.drawn, toks := t, os := s.os } := R.got (news := [(D, o)]) F L F' N'
  have hD := N' (D, o) (.head _)
  have no : ∀ o', s.heap.get? D ≠ some o' := fun o' e => absurd (lt _ (mem_allOf e hD.2.1)) (Nat.lt_irrefl _)
  refine R₁.add (s := s) ⟨o, hD.1, hx⟩ hD.2.1 ?_ (fun hm => ?_) (fun hm => ?_) (fun hm => ?_) (fun hm => ?_) (fun hm => ?_)
  · cases q : c.h₀.get? D with
    | none => rfl
    | some o' => exact absurd (F.keep _ _ q) (no _)
  · obtain ⟨p, hp, rfl⟩ := List.mem_map.mp hm
    obtain ⟨⟨o', ho, _⟩, _⟩ := R.led p hp
    exact no _ ho
  · obtain ⟨p, hp, rfl⟩ := List.mem_map.mp hm
    obtain ⟨⟨o', ho, _⟩, _⟩ := R.fz p hp
    exact no _ ho
  · obtain ⟨p, hp, rfl⟩ := List.mem_map.mp hm
    exact no _ (R.rsv p hp).1
  · obtain ⟨o', ho⟩ := Option.isSome_iff_exists.mp (R.exc D hm).1
    exact no _ ho
  · obtain ⟨o', ho⟩ := R.ofrSome hm
    exact no _ ho

variable {Q : PV → St → Prop}
/-- a call that reads and makes a token at the most -/
theorem WCall.atom {f : PV} {ps : List PV} {r : PV} (h : Q r σ)
    (rule : ∀ fv vs, f.Is fv → Are ps vs → ∀ s (Q' : Value → Shared → Prop), Rl c σ s → (∀ v t, r.Is v → Q' v { heap := s.heap, gens := s.gens, drawn := s.drawn, toks := t, os := s.os }) → wpAny (model c.prog c.w) c.A (call fv vs []) Q' c.E s) : WCall c f ps Q σ :=
  fun fv vs hf ha => Wk.atom h (rule fv vs hf ha)
theorem Are.one {p : PV} {vs : List Value} (h : Are [p] vs) : ∃ v, vs = [v] ∧ p.Is v := by obtain ⟨v, _, rfl, h1, h2⟩ := h.cons_inv; cases h2.nil_inv; exact ⟨v, rfl, h1⟩
theorem Are.two {p q : PV} {vs : List Value} (h : Are [p, q] vs) : ∃ v u, vs = [v, u] ∧ p.Is v ∧ q.Is u := by
  obtain ⟨v, _, rfl, h1, h2⟩ := h.cons_inv; obtain ⟨u, rfl, h3⟩ := h2.one; exact ⟨v, u, rfl, h1, h3⟩
theorem Are.three {p q r : PV} {vs : List Value} (h : Are [p, q, r] vs) : ∃ v u z, vs = [v, u, z] ∧ p.Is v ∧ q.Is u ∧ r.Is z := by
  obtain ⟨v, _, rfl, h1, h2⟩ := h.cons_inv; obtain ⟨u, z, rfl, h3, h4⟩ := h2.two; exact ⟨v, u, z, rfl, h1, h3, h4⟩

/-! ints and texts -/
theorem c_ord {n : Nat} (h : Q (.int n) σ) : WCall c (.builtin "ord") [.str ⟨#[n]⟩] Q σ := WCall.atom h fun _ _ hf ha s _ _ k => by
  cases hf; obtain ⟨_, rfl, _, rfl⟩ := ha.one; exact P.ord_of_char (k _ _ ⟨_, rfl⟩)
theorem c_chr {i : Int} (h0 : 0 ≤ i) (h1 : i ≤ 1114111) (h : Q (.str ⟨#[i.toNat]⟩) σ) : WCall c (.builtin "chr") [.int i] Q σ := WCall.atom h fun _ _ hf ha s _ _ k => by
  cases hf; obtain ⟨_, rfl, _, rfl⟩ := ha.one; exact P.chr_of_int (by simp; omega) (k _ _ ⟨_, rfl⟩)
theorem c_abs {i : Int} (h : Q (.int (if i < 0 then -i else i)) σ) : WCall c (.builtin "abs") [.int i] Q σ := WCall.atom h fun _ _ hf ha s _ _ k => by
  cases hf; obtain ⟨_, rfl, _, rfl⟩ := ha.one; exact call_abs_int fun u tk => k _ _ ⟨_, rfl⟩
theorem c_int_int {i : Int} (h : Q (.int i) σ) : WCall c (.type "int") [.int i] Q σ := WCall.atom h fun _ _ hf ha s _ _ k => by
  cases hf; obtain ⟨_, rfl, t, rfl⟩ := ha.one; exact PySem.call_int_int (k _ s.toks ⟨_, rfl⟩)
theorem c_str_int {i : Int} (hi : i.natAbs.log2 < 1920) (h : Q (.str (Str.ofString (toString i))) σ) : WCall c (.type "str") [.int i] Q σ := WCall.atom h fun _ _ hf ha s _ _ k => by
  cases hf; obtain ⟨_, rfl, _, rfl⟩ := ha.one; exact P.str_of_int hi (k _ _ ⟨_, rfl⟩)
theorem c_len_str {x : Str} (hz : x.length ≤ 1000000) (h : Q (.int x.length) σ) : WCall c (.builtin "len") [.str x] Q σ := WCall.atom h fun _ _ hf ha s _ _ k => by
  cases hf; obtain ⟨_, rfl, _, rfl⟩ := ha.one; exact P.len_str (by omega) (k _ _ ⟨_, rfl⟩)
theorem c_len_bytes {x : Array UInt8} (hz : x.size ≤ 1000000) (h : Q (.int x.size) σ) : WCall c (.builtin "len") [.bytes x] Q σ := WCall.atom h fun _ _ hf ha s _ _ k => by
  cases hf; obtain ⟨_, rfl, _, rfl⟩ := ha.one; exact len_bytes (by omega) (k _ _ ⟨_, rfl⟩)
end
end
section
set_option maxRecDepth 100000
set_option linter.unusedVariables false
/-- the text of a list of signs -/
noncomputable def T (l : List Nat) : Str := ⟨l.toArray⟩
theorem T_len (l : List Nat) : (T l).length = l.length := by simp [T, Str.length]
theorem T_add (a b : List Nat) : T a ++ T b = T (a ++ b) := by
  show Str.mk (a.toArray ++ b.toArray) = _
  simp [T]
theorem T_inj {a b : List Nat} : T a = T b ↔ a = b := ⟨fun h => by have := congrArg (fun x => x.cps.toList) h; simpa [T] using this, fun h => h ▸ rfl⟩
theorem T_of (x : Str) : x = T x.cps.toList := by cases x; simp [T]
theorem sz (n : Nat) (h : n ≤ 1000000) : n + 2 ≤ sizeLine := by rw [sizeLine_eq]; omega

section
variable {c : Cx} {σ : St} {Q : PV → St → Prop}
theorem Rl.noFr {s : Shared} (R : Rl c σ s) : ∃ m, Fr eH c.env.locals s.heap m ∧ Fr c.h₀ c.env.locals s.heap m ∧ Locs c.names σ.loc m ∧ News eH c.env.locals s.heap (allOf s.heap c.env.locals) := by
  obtain ⟨m, F, F', L⟩ := R.frE
  exact ⟨m, F, F', L, allOf_news _ _⟩
theorem allOf_lt {h : Heap} {L : Addr} : ∀ q ∈ allOf h L, q.1 < h.objs.size := fun p hp => Heap.lt_size (allOf_news h L p hp).1

theorem are_strs : ∀ (l : List (Str × Tok)), Are (l.map fun p => PV.str p.1) (strValues l)
  | [] => .nil
  | p :: r => .cons ⟨_, rfl⟩ (are_strs r)
theorem are_strs' {l : List (Str × Tok)} {xs : List Str} (e : l.map (·.1) = xs) : Are (xs.map .str) (strValues l) := by
  have := are_strs l
  rw [← e, List.map_map]; exact this

/-! the methods of a text -/
theorem WMeth.str {x : Str} {name : Str} {f : String} {Q : PV × List PV → St → Prop} (rule : ∀ t s pl (Q' : Value × List Value → Shared → Prop), Q' (.builtin f, [.str x t]) s → wpAny (model c.prog c.w) c.A (getMethod (.str x t) name pl) Q' c.E s) (k : Q (.builtin f, [.str x]) σ) : WMeth c (.str x) name Q σ := fun ov pl e s R => by
  obtain ⟨t, rfl⟩ := e
  exact rule t s pl _ ⟨(.builtin f, [.str x]), σ, ⟨rfl, .cons ⟨t, rfl⟩ .nil⟩, R, k⟩
theorem m_strip {x : Str} {Q : PV × List PV → St → Prop} (k : Q (.builtin "str.strip", [.str x]) σ) : WMeth c (.str x) "strip" Q σ := WMeth.str (fun _ _ _ _ h => GM.strip h) k
theorem m_split {x : Str} {Q : PV × List PV → St → Prop} (k : Q (.builtin "str.split", [.str x]) σ) : WMeth c (.str x) "split" Q σ := WMeth.str (fun _ _ _ _ h => GM.split h) k
theorem m_find {x : Str} {Q : PV × List PV → St → Prop} (k : Q (.builtin "str.find", [.str x]) σ) : WMeth c (.str x) "find" Q σ := WMeth.str (fun _ _ _ _ h => GM.find h) k
theorem m_index {x : Str} {Q : PV × List PV → St → Prop} (k : Q (.builtin "str.index", [.str x]) σ) : WMeth c (.str x) "index" Q σ := WMeth.str (fun _ _ _ _ h => GM.index h) k
theorem m_join {x : Str} {Q : PV × List PV → St → Prop} (k : Q (.builtin "str.join", [.str x]) σ) : WMeth c (.str x) "join" Q σ := WMeth.str (fun _ _ _ _ h => GM.join h) k
theorem m_replace {x : Str} {Q : PV × List PV → St → Prop} (k : Q (.builtin "str.replace", [.str x]) σ) : WMeth c (.str x) "replace" Q σ := WMeth.str (fun _ _ _ _ h => GM.replace h) k

theorem c_strip {x : Str} (hz : x.length ≤ 1000000) (h : Q (.str (Txt.strip x)) σ) : WCall c (.builtin "str.strip") [.str x] Q σ := WCall.atom h fun _ _ hf ha s _ _ k => by
  cases hf; obtain ⟨_, rfl, _, rfl⟩ := ha.one; exact SC.strip (fun t' tk => k _ _ ⟨_, rfl⟩) (by have := sz _ hz; omega)
theorem c_find {x y : Str} (h : Q (.int (Txt.find x y)) σ) : WCall c (.builtin "str.find") [.str x, .str y] Q σ := WCall.atom h fun _ _ hf ha s _ _ k => by
  cases hf; obtain ⟨_, _, rfl, ⟨_, rfl⟩, ⟨_, rfl⟩⟩ := ha.two; exact SC.find (k _ _ ⟨_, rfl⟩)
theorem c_index {x y : Str} {i : Nat} {rest : List Nat} (e : Builtin.Str.occurrences x y 0 x.length 1 = i :: rest) (h : Q (.int i) σ) : WCall c (.builtin "str.index") [.str x, .str y] Q σ := WCall.atom h fun _ _ hf ha s _ _ k => by
  cases hf; obtain ⟨_, _, rfl, ⟨_, rfl⟩, ⟨_, rfl⟩⟩ := ha.two; exact SC.index e (k _ _ ⟨_, rfl⟩)
theorem c_int_str {x : Str} {n : Int} (e : PySem.intText? x = some n) (hz : x.length ≤ 640) (h : Q (.int n) σ) : WCall c (.type "int") [.str x] Q σ := WCall.atom h fun _ _ hf ha s _ _ k => by
  cases hf; obtain ⟨_, rfl, _, rfl⟩ := ha.one; exact KIN.call_text e hz (k _ _ ⟨_, rfl⟩)
theorem are_strs_inv : ∀ {xs : List Str} {vs : List Value}, Are (xs.map .str) vs → ∃ l : List (Str × Tok), vs = strValues l ∧ l.map (·.1) = xs
  | [], _, h => by cases h; exact ⟨[], rfl, rfl⟩
  | x :: xs, _, h => by
    obtain ⟨v, us, rfl, ⟨t, rfl⟩, h'⟩ := h.cons_inv
    obtain ⟨l, rfl, e⟩ := are_strs_inv h'
    exact ⟨(x, t) :: l, rfl, by rw [List.map_cons, e]⟩
theorem c_join {a : Addr} {x : Str} {xs : List Str} (hl : Look σ a (.list (xs.map .str))) (hj : JoinOk x xs = true) (h : Q (.str (Str.join x xs)) σ) : WCall c (.builtin "str.join") [.str x, .ref a] Q σ := WCall.atom h fun _ _ hf ha s _ R k => by
  cases hf; obtain ⟨_, _, rfl, ⟨_, rfl⟩, rfl⟩ := ha.two
  obtain ⟨vs, n, hv, ho⟩ := hl.list R
  obtain ⟨l, rfl, e⟩ := are_strs_inv hv
  exact SC.join (isList_of ho) e hj fun t' tk => by rw [show Txt.join x xs = Str.join x xs from StrLaws.glued_eq_join x xs]; exact k _ _ ⟨_, rfl⟩
theorem c_split1 {x y : Str} (hy : (y.length == 0) = false) (hz : x.length ≤ 1000000) (h : ∀ a, Q (.ref a) ⟨σ.loc, (a, .list ((Txt.split x y).map .str)) :: σ.led, σ.fz⟩) : WCall c (.builtin "str.split") [.str x, .str y] Q σ := fun _ _ hf ha s R => by
  cases hf; obtain ⟨_, _, rfl, ⟨_, rfl⟩, ⟨_, rfl⟩⟩ := ha.two
  obtain ⟨m, F, F', L, N⟩ := R.noFr
  refine splitN1A F N hy (fun l h' k e _ _ hl F₁ N₁ => ?_) (sz _ hz)
  exact ⟨.ref _, _, rfl, R.gotNew (x := .list _) F' L F₁ N₁ allOf_lt ⟨_, 0, are_strs' e, rfl⟩, h _⟩
theorem c_split2 {x y : Str} {k : Int} (hy : (y.length == 0) = false) (hk : (decide (k < -2 ^ 63) || decide (k ≥ 2 ^ 63)) = false) (hz : x.length ≤ 1000000) (h : ∀ a, Q (.ref a) ⟨σ.loc, (a, .list ((Txt.splitMax x y k).map .str)) :: σ.led, σ.fz⟩) : WCall c (.builtin "str.split") [.str x, .str y, .int k] Q σ := fun _ _ hf ha s R => by
  cases hf; obtain ⟨_, _, _, rfl, ⟨_, rfl⟩, ⟨_, rfl⟩, ⟨_, rfl⟩⟩ := ha.three
  obtain ⟨m, F, F', L, N⟩ := R.noFr
  refine splitN2A F N hy hk (fun l h' k e _ _ hl F₁ N₁ => ?_) (sz _ hz)
  exact ⟨.ref _, _, rfl, R.gotNew (x := .list _) F' L F₁ N₁ allOf_lt ⟨_, 0, are_strs' e, rfl⟩, h _⟩

/-! times -/
theorem b_mul_str {x : Str} {n : Int} (h1 : MulOk x n) (h : Q (.str (Txt.mul x n)) σ) : WB c (binaryOp .Mult) (.str x) (.int n) Q σ := WB.atom h fun _ _ ⟨_, e1⟩ ⟨_, e2⟩ _ _ _ k => by
  subst e1; subst e2; exact PySem.SB.mul h1 fun _ _ => k _ _ ⟨_, rfl⟩
end
end
section
set_option maxRecDepth 100000
set_option linter.unusedVariables false
section
variable {c : Cx} {σ : St} {Q : PV → St → Prop}

/-! slices -/
noncomputable def PartIs : PV → Value → Prop
  | .none, v => v = .none
  | .int i, v => ∃ t, v = .int i t
  | _, _ => False
noncomputable def PartOk : PV → Option Int → Prop
  | .none, o => o = none
  | .int i, o => o = some i
  | _, _ => False
theorem p_none {Q : PV → St → Prop} (k : Q .none σ) : Wk c PV.Is (evalPart none c.env) Q σ := fun s R => wpAny_pure ⟨.none, σ, rfl, R, k⟩
theorem p_some {e : Expr} {Q : PV → St → Prop} (k : Wk c PV.Is (eval e c.env) Q σ) : Wk c PV.Is (evalPart (some e) c.env) Q σ := k
noncomputable def WSl (c : Cx) (value slice : Expr) (o l u : PV) (Q : PV → St → Prop) (σ : St) : Prop := ∀ ov lv uv s, o.Is ov → l.Is lv → u.Is uv → Rl c σ s →
  wpAny (model c.prog c.w) c.A (subscriptTail value slice ov (.ref s.heap.objs.size)) (fun v s' => ∃ p σ', p.Is v ∧ Rl c σ' s' ∧ Q p σ') c.E { heap := s.heap.push { cls := .type "slice", data := .fields #[lv, uv, .none] }, gens := s.gens, drawn := s.drawn, toks := s.toks, os := s.os }
theorem w_slice {value : Expr} {lower upper : Option Expr} {p pos : Pos} (h : Wk c PV.Is (eval value c.env) (fun o σ₁ => Wk c PV.Is (evalPart lower c.env) (fun l σ₂ => Wk c PV.Is (evalPart upper c.env) (fun u σ₃ => WSl c value (.Slice lower upper none p) o l u Q σ₃) σ₂) σ₁) σ) :
    Wk c PV.Is (eval (.Subscript value (.Slice lower upper none p) pos) c.env) Q σ := fun s R =>
  Subscript_ (wpAny_mono (h s R) (fun ov s₁ ⟨o, σ₁, ho, R₁, h₁⟩ => wpAny_Slice (wpAny_mono (h₁ s₁ R₁) (fun lv s₂ ⟨l, σ₂, hl, R₂, h₂⟩ => wpAny_mono (h₂ s₂ R₂) (fun uv s₃ ⟨u, σ₃, hu, R₃, h₃⟩ =>
    wpAny_pure (h₃ ov lv uv s₃ ho hl hu R₃)) fun _ _ e => e) fun _ _ e => e)) fun _ _ e => e)
theorem keptRl {s : Shared} : KeptH (fun h => ∀ t, Rl c σ { heap := h, gens := s.gens, drawn := s.drawn, toks := t, os := s.os }) := fun h o x t => (x t).push0
theorem sl_str_to {value : Expr} {lo hi : Option Expr} {p : Pos} {x : Str} {j : Int} (hz : x.length ≤ 1000000) (h : Q (.str (Txt.slice x none (some j))) σ) : WSl c value (.Slice lo hi none p) (.str x) .none (.int j) Q σ := fun ov lv uv s ⟨t, e1⟩ e2 ⟨u, e3⟩ R => by
  subst e1; subst e3; cases e2
  obtain ⟨Ty, id, hl, hT, hg⟩ := SBH.sliceItem_ns (prog := c.prog) (w := c.w) (A := c.A) (E := c.E) (s := s) (x := x) (t := t) (uj := u) (P := fun h => ∀ t, Rl c σ { heap := h, gens := s.gens, drawn := s.drawn, toks := t, os := s.os }) (Q := fun v s' => ∃ p σ', PV.Is p v ∧ Rl c σ' s' ∧ Q p σ')
    keptRl (fun t => R.toks t) (fun h' t' k P => ⟨.str _, σ, ⟨_, rfl⟩, P _, h⟩) (by have := sz _ hz; omega)
  exact tail_any hT hl hg rfl
theorem sl_str_from {value : Expr} {lo hi : Option Expr} {p : Pos} {x : Str} {i : Int} (hz : x.length ≤ 1000000) (h : Q (.str (Txt.slice x (some i) none)) σ) : WSl c value (.Slice lo hi none p) (.str x) (.int i) .none Q σ := fun ov lv uv s ⟨t, e1⟩ ⟨u, e2⟩ e3 R => by
  subst e1; subst e2; cases e3
  obtain ⟨Ty, id, hl, hT, hg⟩ := SBH.sliceItem_sn (prog := c.prog) (w := c.w) (A := c.A) (E := c.E) (s := s) (x := x) (t := t) (ui := u) (P := fun h => ∀ t, Rl c σ { heap := h, gens := s.gens, drawn := s.drawn, toks := t, os := s.os }) (Q := fun v s' => ∃ p σ', PV.Is p v ∧ Rl c σ' s' ∧ Q p σ')
    keptRl (fun t => R.toks t) (fun h' t' k P => ⟨.str _, σ, ⟨_, rfl⟩, P _, h⟩) (by have := sz _ hz; omega)
  exact tail_any hT hl hg rfl

theorem Are.drop : ∀ {ps : List PV} {vs : List Value}, Are ps vs → ∀ k : Nat, Are (ps.drop k) (vs.drop k)
  | _, _, h, 0 => h
  | _, _, .nil, _ + 1 => .nil
  | _, _, .cons _ h, k + 1 => h.drop k
theorem Are.take : ∀ {ps : List PV} {vs : List Value}, Are ps vs → ∀ k : Nat, Are (ps.take k) (vs.take k)
  | _, _, _, 0 => .nil
  | _, _, .nil, _ + 1 => .nil
  | _, _, .cons a h, k + 1 => .cons a (h.take k)
theorem sl_list {value : Expr} {elo ehi : Option Expr} {p : Pos} {l : Addr} {xs : List PV} {pl pu : PV} {lo hi : Option Int} {a b : Nat} (hl : Look σ l (.list xs)) (h1 : PartOk pl lo) (h2 : PartOk pu hi) (hz : xs.length ≤ 1000000)
    (ha : kms_lo lo xs.length = a) (hb : kms_hi hi xs.length = b) (h : ∀ d, Q (.ref d) ⟨σ.loc, (d, .list ((xs.drop a).take (b - a))) :: σ.led, σ.fz⟩) : WSl c value (.Slice elo ehi none p) (.ref l) pl pu Q σ := fun ov lv uv s e1 e2 e3 R => by
  cases e1
  obtain ⟨vs, n, hv, ho⟩ := hl.list R
  have q1 : IsPart lv lo := by
    cases pl <;> first | exact h1.elim | (cases h1; cases e2; exact .none) | (cases h1; obtain ⟨t, rfl⟩ := e2; exact .int _ _)
  have q2 : IsPart uv hi := by
    cases pu <;> first | exact h2.elim | (cases h2; cases e3; exact .none) | (cases h2; obtain ⟨t, rfl⟩ := e3; exact .int _ _)
  have hI : s.heap.IsList l vs.toArray := isList_of ho
  refine tail_any (Heap.IsList.typeIs (s := { s with heap := s.heap.push { cls := .type "slice", data := .fields #[lv, uv, .none] } }) (hI.push _)) list_getitem_lookup
    (wpAny_getItem_list_slice (hI.push _) (Heap.IsSliceOf.new ..) q1 q2 .none (by simp) ?_ (by rw [List.size_toArray, hv.length, sizeLine_eq]; omega)) rfl
  have R₁ := (R.push0 (o := { cls := .type "slice", data := .fields #[lv, uv, .none] }) (t := s.toks))
  refine ⟨.ref _, _, rfl, R₁.push (x := .list ((xs.drop a).take (b - a))) (t := s.toks) ⟨(vs.drop a).take (b - a), 0, (hv.drop _).take _, ?_⟩ rfl, h _⟩
  rw [kms_pick_eq]
  unfold kms_pick
  rw [show (vs.toArray.toList) = vs from rfl, hv.length, ha, hb]

/-! items -/
theorem sub_neg {value slice : Expr} {l : Addr} {xs : List PV} {k : Int} {p : PV} (hl : Look σ l (.list xs)) (h0 : k < 0) (h1 : -(xs.length : Int) ≤ k) (h2 : -(2 ^ 63) ≤ k) (hx : xs[(k + xs.length).toNat]? = some p) (h : Q p σ)
    (hs : ∀ a b, subscripted slice false a b = operate [a, b] (getItem a b) := by intro _ _; rfl) : WSub c value slice (.ref l) (.int k) Q σ := fun _ _ e1 ⟨_, e2⟩ s R => by
  cases e1; subst e2
  obtain ⟨vs, n, hv, ho⟩ := hl.list R
  obtain ⟨v, hv1, hv2⟩ := hv.get hx
  have hI : s.heap.IsList l vs.toArray := isList_of ho
  exact tail_any hI.typeIs slot_list_getitem.lookup (wpAny_getItem_list_neg hI h0 (by rw [List.size_toArray, hv.length]; exact h1) h2 (by rw [List.size_toArray, hv.length]; simpa using hv1) ⟨p, σ, hv2, R, h⟩) (hs _ _)
theorem sub_tuple {value slice : Expr} {l : Addr} {xs : List PV} {k : Int} {p : PV} (hl : Look σ l (.tuple xs)) (h0 : 0 ≤ k) (h1 : k < 2 ^ 63) (hx : xs[k.toNat]? = some p) (h : Q p σ)
    (hs : ∀ a b, subscripted slice false a b = operate [a, b] (getItem a b) := by intro _ _; rfl) : WSub c value slice (.ref l) (.int k) Q σ := fun _ _ e1 ⟨_, e2⟩ s R => by
  cases e1; subst e2
  obtain ⟨vs, n, hv, ho⟩ := hl.tuple R
  obtain ⟨v, hv1, hv2⟩ := hv.get hx
  have hI : IsTup s.heap l vs.toArray := ⟨_, ho, rfl, n, rfl⟩
  have hlt : k.toNat < vs.length := (List.getElem?_eq_some_iff.mp hv1).1
  refine item_tupleT (j := k.toNat) hI (by omega) h1 ?_ hv1 ⟨p, σ, hv2, R, h⟩ (hs _ _)
  obtain ⟨z, hz⟩ := Int.eq_ofNat_of_zero_le h0
  subst hz
  unfold seqIndex?
  simp at hlt ⊢
  omega
theorem sub_str {value slice : Expr} {x : Str} {k : Int} {n : Nat} (h0 : 0 ≤ k) (h1 : k < 1000000) (hx : x.cps.toList[k.toNat]? = some n) (h : Q (.str ⟨#[n]⟩) σ)
    (hs : ∀ a b, subscripted slice false a b = operate [a, b] (getItem a b) := by intro _ _; rfl) : WSub c value slice (.str x) (.int k) Q σ := fun _ _ ⟨t, e1⟩ ⟨_, e2⟩ s R => by
  subst e1; subst e2
  have hlt : k.toNat < x.cps.size := by have := (List.getElem?_eq_some_iff.mp hx).1; simpa using this
  refine tail_any (typeIs_str _ _ _) PySem.F.slot_str_getitem.lookup (P.getItem_str (c := n) (by simp; omega) ?_ ⟨.str _, σ, ⟨_, rfl⟩, R.toks _, h⟩) (hs _ _)
  obtain ⟨z, hz⟩ := Int.eq_ofNat_of_zero_le h0
  subst hz
  have q : ¬ ((z : Int) < 0) := by omega
  have q2 : z < x.cps.size := by simpa using hlt
  have q3 : x.cps[z]? = some n := by simpa using hx
  unfold seqIndex?
  simp [Str.length, q, q2]
  exact (Array.getElem?_eq_some_iff.mp q3).2

/-! chained comparisons, as tests -/
theorem t_chain2 {l r₁ r₂ : Expr} {o₁ o₂ : CmpOp} {pos : Pos} {whole : Sem Value} {Q : Bool → St → Prop}
    (h : Wk c PV.Is (eval l c.env) (fun p σ₁ => Wk c PV.Is (eval r₁ c.env) (fun q σ₂ => WB c (compareOp o₁) p q (fun v σ₃ => WTr c v (fun b σ₄ => if b = true then
      Wk c PV.Is (eval r₂ c.env) (fun q' σ₅ => WB c (compareOp o₂) q q' (fun v' σ₆ => WTr c v' Q σ₆) σ₅) σ₄ else Q false σ₄) σ₃) σ₂) σ₁) σ)
    (hm : lastMarks [o₁, o₂] [r₁, r₂] = false := by with_unfolding_all rfl) : Wk c Same (isTrue (.Compare l [o₁, o₂] [r₁, r₂] pos) c.env whole) Q σ := fun s R => by
  refine isTrue_chain (wpAny_mono (h s R) (fun a s₁ ⟨p, σ₁, ha, R₁, h₁⟩ => test_link (wpAny_mono (h₁ s₁ R₁) (fun b s₂ ⟨q, σ₂, hb, R₂, h₂⟩ => wpAny_mono (h₂ a b ha hb s₂ R₂) (fun v s₃ ⟨r, σ₃, hv, R₃, h₃⟩ =>
    wpAny_mono (h₃ v hv s₃ R₃) (fun t s₄ hpat => ?_) fun _ _ e => e) fun _ _ e => e) fun _ _ e => e)) fun _ _ e => e) hm
  obtain ⟨t', σ₄, ht, R₄, h₄⟩ := hpat
  cases ht
  split at h₄
  · rename_i hb'
    rw [if_pos hb']
    exact test_last (wpAny_mono (h₄ s₄ R₄) (by rintro b' s₅ ⟨q', σ₅, hb'', R₅, h₅⟩; exact wpAny_mono (h₅ b b' hb hb'' s₅ R₅) (by rintro v' s₆ ⟨r', σ₆, hv', R₆, h₆⟩; exact h₆ v' hv' s₆ R₆) fun _ _ e => e) fun _ _ e => e)
  · rename_i hb'
    rw [if_neg hb']
    exact ⟨false, σ₄, rfl, R₄, h₄⟩
end
end
section
set_option maxRecDepth 100000
set_option linter.unusedVariables false
section
variable {c : Cx} {σ : St} {Q : PV → St → Prop}

/-! lists -/
theorem c_len_list {l : Addr} {xs : List PV} (hl : Look σ l (.list xs)) (hz : xs.length ≤ 1000000) (h : Q (.int xs.length) σ) : WCall c (.builtin "len") [.ref l] Q σ := WCall.atom h fun _ _ hf ha s _ R k => by
  cases hf; obtain ⟨_, rfl, rfl⟩ := ha.one
  obtain ⟨vs, n, hv, ho⟩ := hl.list R
  exact call_len_list (isList_of ho) (by rw [List.size_toArray, hv.length]; omega) (k _ _ ⟨_, by rw [List.size_toArray, hv.length]⟩)
theorem c_append {led led' fz : List (Addr × AO)} {loc : List (Option PV)} {l : Addr} {p : PV} {xs : List PV} {Q : PV → St → Prop} (U : Up led l (.list xs) (.list (xs ++ [p])) led') (hz : xs.length ≤ 1000000) (h : Q .none ⟨loc, led', fz⟩) :
    WCall c (.builtin "list.append") [.ref l, p] Q ⟨loc, led, fz⟩ := fun f vs hf ha s R => by
  cases hf
  obtain ⟨_, v, rfl, e1, hp⟩ := ha.two
  cases e1
  obtain ⟨o, ho, ws, n, hws, rfl⟩ := (R.led _ U.mem).1
  refine wpAny_list_append_plain (items := ws.toArray) ⟨n, ho⟩ (fun h' hP hS => ?_) (by rw [List.size_toArray, hws.length, sizeLine_eq]; omega)
  obtain ⟨n', ho'⟩ := hP
  exact ⟨.none, _, rfl, R.upd (t := s.toks) U hS ⟨_, ho', ws ++ [v], n', hws.append (.cons hp .nil), by simp [W.listOf]⟩, h⟩
theorem c_list_list {l : Addr} {xs : List PV} (hl : Look σ l (.list xs)) (hz : xs.length ≤ 1000000) (h : ∀ d, Q (.ref d) ⟨σ.loc, (d, .list xs) :: σ.led, σ.fz⟩) : WCall c (.type "list") [.ref l] Q σ := fun _ _ hf ha s R => by
  cases hf; obtain ⟨_, rfl, e⟩ := ha.one
  cases e
  obtain ⟨vs, n, hv, ho⟩ := hl.list R
  obtain ⟨m, F, F', L, N⟩ := R.noFr
  exact list_copyK F N (isList_of ho) (fun D k h' F₁ N₁ lt => ⟨.ref _, _, rfl, R.gotNew (x := .list _) F' L F₁ N₁ lt ⟨_, _, hv, rfl⟩, h _⟩) (by rw [List.size_toArray, hv.length, sizeLine_eq]; omega)
theorem c_list_tuple {l : Addr} {xs : List PV} (hl : Look σ l (.tuple xs)) (hz : xs.length ≤ 1000000) (h : ∀ d, Q (.ref d) ⟨σ.loc, (d, .list xs) :: σ.led, σ.fz⟩) : WCall c (.type "list") [.ref l] Q σ := fun _ _ hf ha s R => by
  cases hf; obtain ⟨_, rfl, e⟩ := ha.one
  cases e
  obtain ⟨vs, n, hv, ho⟩ := hl.tuple R
  obtain ⟨m, F, F', L, N⟩ := R.noFr
  exact list_copyKT F N ⟨_, ho, rfl, n, rfl⟩ (fun D k h' F₁ N₁ lt => ⟨.ref _, _, rfl, R.gotNew (x := .list _) F' L F₁ N₁ lt ⟨_, _, hv, rfl⟩, h _⟩) (by rw [List.size_toArray, hv.length, sizeLine_eq]; omega)
theorem c_tuple_list {l : Addr} {xs : List PV} (hl : Look σ l (.list xs)) (hz : xs.length ≤ 10000) (h : ∀ d, Q (.ref d) ⟨σ.loc, (d, .tuple xs) :: σ.led, σ.fz⟩) : WCall c (.type "tuple") [.ref l] Q σ := fun _ _ hf ha s R => by
  cases hf; obtain ⟨_, rfl, e⟩ := ha.one
  cases e
  obtain ⟨vs, n, hv, ho⟩ := hl.list R
  obtain ⟨m, F, F', L, N⟩ := R.noFr
  exact kde_tupleOf (zs := vs) F N (isList_of ho) (by rw [List.size_toArray, hv.length]; omega) rfl (fun D h' F₁ N₁ lt => ⟨.ref _, _, rfl, R.gotNew (x := .tuple _) F' L F₁ N₁ lt ⟨_, _, hv, rfl⟩, h _⟩)
theorem c_tuple_tuple {l : Addr} {xs : List PV} (hl : Look σ l (.tuple xs)) (h : Q (.ref l) σ) : WCall c (.type "tuple") [.ref l] Q σ := fun _ _ hf ha s R => by
  cases hf; obtain ⟨_, rfl, e⟩ := ha.one
  cases e
  obtain ⟨vs, n, hv, ho⟩ := hl.tuple R
  exact call_tuple_tup (items := vs.toArray) ⟨_, ho, rfl, n, rfl⟩ ⟨.ref _, _, rfl, R, h⟩
theorem b_add_list {a b : Addr} {xs ys : List PV} (ha : Look σ a (.list xs)) (hb : Look σ b (.list ys)) (hz : xs.length + ys.length ≤ 1000000) (h : ∀ d, Q (.ref d) ⟨σ.loc, (d, .list (xs ++ ys)) :: σ.led, σ.fz⟩) : WB c (binaryOp .Add) (.ref a) (.ref b) Q σ := fun _ _ e1 e2 s R => by
  cases e1; cases e2
  obtain ⟨vs, n, hv, ho⟩ := ha.list R
  obtain ⟨us, k, hu, ho'⟩ := hb.list R
  obtain ⟨m, F, F', L, N⟩ := R.noFr
  exact kmk_add_lit (zs := vs ++ us) F N (isList_of ho) (isList_of ho') rfl (fun D h' F₁ N₁ lt => ⟨.ref _, _, rfl, R.gotNew (x := .list _) F' L F₁ N₁ lt ⟨_, _, hv.append hu, rfl⟩, h _⟩) (by
    show vs.length + us.length ≤ _
    rw [hv.length, hu.length, sizeLine_eq]; omega)
theorem ints_of : ∀ {ns : List Int} {vs : List Value}, Are (ns.map .int) vs → IntsAre vs ns
  | [], _, h => by cases h; exact .nil
  | n :: ns, _, h => by
    obtain ⟨v, us, rfl, ⟨t, rfl⟩, h'⟩ := h.cons_inv
    exact .cons _ _ (ints_of h')
theorem c_sum {l : Addr} {ns : List Int} (hl : Look σ l (.list (ns.map .int))) (h : Q (.int ns.sum) σ) : WCall c (.builtin "sum") [.ref l] Q σ := fun _ _ hf ha s R => by
  cases hf; obtain ⟨_, rfl, e⟩ := ha.one
  cases e
  obtain ⟨vs, n, hv, ho⟩ := hl.list R
  obtain ⟨m, F, F', L, N⟩ := R.noFr
  exact sumK R.ok.hh F N (isList_of ho) (ints_of hv) fun h' tk t' F₁ N₁ => ⟨.int _, _, ⟨_, rfl⟩, R.got (news := []) F' L F₁ N₁, h⟩
theorem c_max2 {a b : Int} (h : Q (.int (if b > a then b else a)) σ) : WCall c (.builtin "max") [.int a, .int b] Q σ := fun _ _ hf ha s R => by
  cases hf; obtain ⟨_, _, rfl, ⟨t, rfl⟩, ⟨u, rfl⟩⟩ := ha.two
  refine max_two_ints R.ok.hh fun h' tk hk => ⟨.int _, _, ?_, R.stays (t := tk) hk, h⟩
  split <;> exact ⟨_, rfl⟩
theorem c_range {n : Int} (h : ∀ d, Q (.ref d) ⟨σ.loc, (d, .range 0 n) :: σ.led, σ.fz⟩) : WCall c (.type "range") [.int n] Q σ := fun _ _ hf ha s R => by
  cases hf; obtain ⟨_, rfl, ⟨t, rfl⟩⟩ := ha.one
  exact call_range_1 ⟨.ref _, _, rfl, R.push (x := .range 0 n) ⟨_, _, _, rfl⟩ rfl, h _⟩
theorem tr_list {l : Addr} {xs : List PV} {Q : Bool → St → Prop} (hl : Look σ l (.list xs)) (hz : xs.length ≤ 1000000) (h : Q (!xs.isEmpty) σ) : WTr c (.ref l) Q σ := fun a e s R => by
  cases e
  obtain ⟨vs, n, hv, ho⟩ := hl.list R
  refine wpAny_truthy_list (isList_of ho) (by rw [List.size_toArray, hv.length]; omega) ⟨_, σ, ?_, R.toks _, h⟩
  cases hv <;> rfl
/-! expressions as statements -/
theorem s_expr {e : Expr} {pos : Pos} {Q : PF → St → Prop} (h : Wk c PV.Is (eval e c.env) (fun p σ₁ => p = .none ∧ Q .next σ₁) σ) (hs : swapsWith e none pos.line c.env = pure false := by rfl) :
    Wk c PF.Is (exec (.Expr e pos) c.env) Q σ := fun s R =>
  wpAny_Expr (wpAny_mono (h s R) (fun v s₁ ⟨p, σ₁, hv, R₁, hp, hq⟩ => by subst hp; cases hv; exact ⟨.next, σ₁, rfl, R₁, hq⟩) fun _ _ e => e) (by unfold interactive; rw [R.ok.kind]; rfl) hs

/-! targets -/
theorem tg_name {ns : List Str} {x : Str} {pos : Pos} {q : PV} {loc loc' : List (Option PV)} {led fz : List (Addr × AO)} {Q : St → Prop} (hN : c.names = ns) (h : PutAt ns loc x q loc') (k : Q ⟨loc', led, fz⟩) : Tgt c (.Name x pos) q Q ⟨loc, led, fz⟩ := fun v hv s R =>
  assign_Name ((put (Q := fun σ => Q σ) hN h k).w (Q := fun _ => Q) hv s R)
/-- names one after another -/
noncomputable def Puts (c : Cx) : List Str → List PV → (St → Prop) → St → Prop
  | [], [], Q, σ => Q σ
  | x :: xs, p :: ps, Q, σ => Put c x p (Puts c xs ps Q) σ
  | _, _, _, _ => False
theorem Puts.go : ∀ {xs : List Str} {ps : List PV} {vs : List Value} {Q : St → Prop} {σ : St}, Puts c xs ps Q σ → Are ps vs → ∀ {fs : List (Value → Sem Unit)}, fs.length = xs.length →
    (∀ (i : Nat) (x : Str) (f : Value → Sem Unit) (v : Value) (s : Shared) (Q' : Unit → Shared → Prop), xs[i]? = some x → fs[i]? = some f → wpAny (model c.prog c.w) c.A (storeName c.env x v) Q' c.E s → wpAny (model c.prog c.w) c.A (f v) Q' c.E s) →
    ∀ s, Rl c σ s → wpAny (model c.prog c.w) c.A (assignInOrder fs vs) (fun _ s' => ∃ σ', Rl c σ' s' ∧ Q σ') c.E s
  | [], [], _, Q, σ, h, .nil, [], _, _, s, R => wpAny_pure ⟨σ, R, h⟩
  | [], [], _, Q, σ, h, .nil, _ :: _, e, _, s, R => by simp at e
  | [], _ :: _, _, Q, σ, h, _, _, _, _, s, R => h.elim
  | _ :: _, [], _, Q, σ, h, _, _, _, _, s, R => h.elim
  | x :: xs, p :: ps, _, Q, σ, h, .cons hv hr, [], e, _, s, R => by simp at e
  | x :: xs, p :: ps, _, Q, σ, h, .cons (v := v) (vs := vs) hv hr, f :: fs, e, k, s, R => by
    have h1 := k 0 x f v s (fun _ s' => wpAny (model c.prog c.w) c.A (assignInOrder fs vs) (fun _ s' => ∃ σ', Rl c σ' s' ∧ Q σ') c.E s') rfl rfl (wpAny_mono (Put.w (Q := fun _ => Puts c xs ps Q) h hv s R) (fun _ s₁ ⟨_, σ₁, _, R₁, h₁⟩ =>
      Puts.go h₁ hr (by simpa using e) (fun i x f v s Q' hx hf => k (i + 1) x f v s Q' (by simpa using hx) (by simpa using hf)) s₁ R₁) fun _ _ z => z)
    exact wpAny_bind (wpAny_holding h1)
theorem stays_of {h h' : Heap} (e : Heap.ExtBut h.objs.size h h') : h.StaysIn h' := fun b o q => e b o (fun q' => by subst q'; exact Nat.lt_irrefl _ (Heap.lt_size q)) q
theorem two_names {x y : Str} {px py : Pos} {f : Value → Sem Unit} {i : Nat} {z : Str} {v : Value} {s : Shared} {Q' : Unit → Shared → Prop} (hz : [x, y][i]? = some z) (hf : [assign (.Name x px) c.env, assign (.Name y py) c.env][i]? = some f) (h : wpAny (model c.prog c.w) c.A (storeName c.env z v) Q' c.E s) : wpAny (model c.prog c.w) c.A (f v) Q' c.E s := by
  match i with
  | 0 => cases hz; cases hf; exact assign_Name h
  | 1 => cases hz; cases hf; exact assign_Name h
  | i + 2 => cases hz
theorem tg_tuple2 {x y : Str} {px py pos : Pos} {k : Nat} {t : Addr} {p q : PV} {Q : St → Prop} (hl : Look σ t (.tuple [p, q])) (h : Puts c [x, y] [p, q] Q σ) : Tgt c (.Tuple [.Name x px, .Name y py] k pos) (.ref t) Q σ := fun v e s R => by
  cases e
  obtain ⟨vs, n, hv, ho⟩ := hl.tuple R
  refine assign_Tuple_tuple R.ok.hh ⟨_, ho, rfl, n, rfl⟩ (by rw [List.size_toArray, hv.length]; rfl) rfl fun h' he => ?_
  exact wpAny_mono (h.go hv (fs := [assign (.Name x px) c.env, assign (.Name y py) c.env]) rfl (fun i z f v s Q' hz hf k => two_names hz hf k) _ (R.stays (t := s.toks) (stays_of he))) (by rintro _ s' ⟨σ', R', k⟩; exact ⟨(), σ', rfl, R', k⟩) fun _ _ e => e
/-- a, b = a tuple that is made elsewhere -/
theorem s_assign_tup {elts : List Expr} {k : Nat} {tpos pos : Pos} {value : Expr} {Q : PF → St → Prop} (h : Wk c PV.Is (eval value c.env) (fun p σ₁ => Tgt c (.Tuple elts k tpos) p (Q .next) σ₁) σ)
    (hs : swapsWithSole [.Tuple elts k tpos] value pos.line c.env = pure false := by rfl) (hw : swappedStores [.Tuple elts k tpos] value c.env = pure none := by rfl) : Wk c PF.Is (exec (.Assign [.Tuple elts k tpos] value pos) c.env) Q σ := fun s R =>
  Assign_Tuple (wpAny_mono (h s R) (by rintro v s₁ ⟨p, σ₁, hv, R₁, h₁⟩; exact wpAny_mono (h₁ v hv s₁ R₁) (by rintro _ s₂ ⟨_, σ₂, _, R₂, h₂⟩; exact ⟨.next, σ₂, rfl, R₂, h₂⟩) fun _ _ e => e) fun _ _ e => e) hs hw
set_option maxHeartbeats 4000000 in
theorem swap2 (O : Ok c) {x y : Str} {px py tpos vpos : Pos} {k k' : Nat} {v1 v2 : Expr} (hx : x ∈ c.names) (hy : y ∈ c.names) (hxy : (x == y) = false) (hl : (py.line == px.line) = true) (hst : ([v1, v2].any fun | .Starred .. => true | _ => false) = false)
    (hf : [v1, v2].all (foldedForSure 8) = false) (hc : [v1, v2].all (constantsAlone 8) = false) : swappedStores [.Tuple [.Name x px, .Name y py] k tpos] (.Tuple [v1, v2] k' vpos) c.env = pure (some [x, y]) := by
  have kx := O.loc x hx
  have ky := O.loc y hy
  have bk : c.env.blockKind = .function := by unfold Env.blockKind; rw [O.kind]; rfl
  have ex : (c.env.kindOf x == some .local) = true := by rw [kx]; rfl
  have ey : (c.env.kindOf y == some .local) = true := by rw [ky]; rfl
  have bk' : (c.env.blockKind != .function) = false := by rw [bk]; rfl
  have ll : (px.line == px.line) = true := beq_self_eq_true _
  have hyx : (y == x) = false := by rw [← hxy]; exact BEq.comm
  have ed : ([x, y].eraseDups.length != 2) = false := by
    rw [List.eraseDups_cons]
    simp [hyx, List.eraseDups_cons]
  have n1 : ∀ F : Expr → Option Str, F (.Name x px) = some x → F (.Name y py) = some y → [Expr.Name x px, Expr.Name y py].filterMap F = [x, y] := fun F h1 h2 => by
    rw [List.filterMap_cons, h1]; dsimp only; rw [List.filterMap_cons, h2]; rfl
  delta swappedStores
  dsimp only
  generalize hn : List.filterMap _ [Expr.Name x px, Expr.Name y py] = names
  rw [n1 _ (if_pos (Bool.and_eq_true_iff.mpr ⟨ex, ll⟩)) (if_pos (Bool.and_eq_true_iff.mpr ⟨ey, hl⟩))] at hn
  subst hn
  rw [bk']
  refine (if_neg (ne_true_of_eq_false (by rfl))).trans ((if_neg (ne_true_of_eq_false hst)).trans ((if_neg (ne_true_of_eq_false (b := _) ?_)).trans ((if_neg (ne_true_of_eq_false hf)).trans ((if_neg (ne_true_of_eq_false hc)).trans rfl))))
  exact ed
/-- a, b = c, d with the stores swapped -/
theorem s_assign_swap {x y : Str} {px py tpos vpos pos : Pos} {k k' : Nat} {v1 v2 : Expr} {Q : PF → St → Prop} (hN : c.names = ns)
    (h : Wk c PV.Is (eval (.Tuple [v1, v2] k' vpos) c.env) (fun r σ₁ => ∃ t p q, r = .ref t ∧ Look σ₁ t (.tuple [p, q]) ∧ Puts c [y, x] [q, p] (Q .next) σ₁) σ)
    (hx : x ∈ ns) (hy : y ∈ ns) (hxy : (x == y) = false) (hl : (py.line == px.line) = true) (hst : ([v1, v2].any fun | .Starred .. => true | _ => false) = false)
    (hf : [v1, v2].all (foldedForSure 8) = false) (hc : [v1, v2].all (constantsAlone 8) = false)
    (hs : swapsWithSole [.Tuple [.Name x px, .Name y py] k tpos] (.Tuple [v1, v2] k' vpos) pos.line c.env = pure false) : Wk c PF.Is (exec (.Assign [.Tuple [.Name x px, .Name y py] k tpos] (.Tuple [v1, v2] k' vpos) pos) c.env) Q σ := fun s R => by
  subst hN
  refine Assign_Tuple_swapped (names := [x, y]) (wpAny_mono (h s R) (fun v s₁ hpat => ?_) fun _ _ e => e) hs (swap2 R.ok hx hy hxy hl hst hf hc)
  obtain ⟨r, σ₁, hv, R₁, t, p, q, e, hl, h₁⟩ := hpat
  subst e
  cases hv
  obtain ⟨vs, n, hv, ho⟩ := hl.tuple R₁
  obtain ⟨a, b, rfl, ha, hb⟩ := hv.two
  refine unpackItems_tuple R.ok.hh (items := #[a, b]) ⟨_, ho, rfl, n, rfl⟩ fun h' he => ?_
  refine wpAny_mono (h₁.go (vs := [b, a]) (.cons hb (.cons ha .nil)) (fs := [fun v => bindName c.env y v, fun v => bindName c.env x v]) rfl (fun i z f v s Q' hz hf k => ?_) _ (R₁.stays (t := s₁.toks) (stays_of he))) (by rintro _ s' ⟨σ', R', k⟩; exact ⟨.next, σ', rfl, R', k⟩) fun _ _ e => e
  match i with
  | 0 => cases hz; cases hf; exact bindName_ k
  | 1 => cases hz; cases hf; exact bindName_ k
  | i + 2 => cases hz
end
end
section
set_option maxRecDepth 100000
set_option linter.unusedVariables false
section
variable {c : Cx} {σ : St} {Q : PV → St → Prop}

/-! dicts keyed by texts -/
theorem Ents.vals {P : Params} {es l} (h : Ents P es l) : ∃ kvs : List (Str × Value), (kvs.map (·.1)) = es.map (·.1) ∧ Are (es.map (·.2)) (kvs.map (·.2)) ∧ ∀ (prog : Program) (w : World), w.params = P → Pairs (PySem.strKind prog w) l kvs ∧ ∀ e ∈ l, ∃ k, (PySem.strKind prog w).is k e.key = true ∧ e.hash = (PySem.strKind prog w).hash k := by
  induction h with
  | nil => exact ⟨[], rfl, .nil, fun _ _ _ => ⟨.nil, fun _ h => nomatch h⟩⟩
  | @cons k t v p es l hv r ih =>
    obtain ⟨kvs, h1, h2, h3⟩ := ih
    refine ⟨(k, v) :: kvs, by simp [h1], .cons hv h2, fun prog w hw => ⟨.cons (strKind_is prog w k t) rfl (h3 prog w hw).1, fun e he => ?_⟩⟩
    rcases List.mem_cons.mp he with rfl | he
    · exact ⟨k, strKind_is prog w k t, by subst hw; rfl⟩
    · exact (h3 prog w hw).2 e he
theorem dict_to {prog : Program} {w : World} {o : Obj} {es : List (Str × PV)} (h : (AO.dict es).Is w.params o) (hn : (es.map (·.1)).Nodup) : ∃ kvs : List (Str × Value), kvs.map (·.1) = es.map (·.1) ∧ Are (es.map (·.2)) (kvs.map (·.2)) ∧ o.IsDictOf (PySem.strKind prog w) kvs := by
  obtain ⟨l, n, hE, rfl⟩ := h
  obtain ⟨kvs, h1, h2, h3⟩ := hE.vals
  exact ⟨kvs, h1, h2, l.toArray, n, ⟨rfl, rfl, rfl⟩, rfl, fun e he => (h3 prog w rfl).2 e (List.mem_toArray.mp he), (h3 prog w rfl).1, h1 ▸ hn⟩
theorem ents_from {prog : Program} {w : World} : ∀ {l : List DictEntry} {kvs : List (Str × Value)} {es : List (Str × PV)}, Pairs (PySem.strKind prog w) l kvs → (∀ e ∈ l, ∃ k, (PySem.strKind prog w).is k e.key = true ∧ e.hash = (PySem.strKind prog w).hash k) → kvs.map (·.1) = es.map (·.1) → Are (es.map (·.2)) (kvs.map (·.2)) → Ents w.params es l
  | _, _, [], .nil, _, _, _ => .nil
  | _, _, _ :: _, .nil, _, h, _ => by simp at h
  | _, _, [], .cons _ _ _, _, h, _ => by simp at h
  | e :: l, kv :: kvs, (k, p) :: es, .cons hk hv r, he, h1, h2 => by
    obtain ⟨k', v'⟩ := kv
    obtain ⟨eh, ek, ev⟩ := e
    simp only [List.map_cons, List.cons.injEq] at h1
    obtain ⟨rfl, h1⟩ := h1
    obtain ⟨v, _, e2, hp, h2⟩ := h2.cons_inv
    simp only [List.map_cons, List.cons.injEq] at e2
    obtain ⟨rfl, rfl⟩ := e2
    obtain ⟨t, rfl⟩ := Value.isStrOf_shape hk
    obtain ⟨k2, q1, q2⟩ := he _ (.head _)
    obtain ⟨t2, q3⟩ := Value.isStrOf_shape (x := k2) (v := .str k' t) q1
    cases q3
    cases hv
    obtain rfl : eh = _ := q2
    exact .cons hp (ents_from r (fun e h => he e (.tail _ h)) h1 h2)
theorem dict_from {prog : Program} {w : World} {o : Obj} {kvs : List (Str × Value)} {es : List (Str × PV)} (h : o.IsDictOf (PySem.strKind prog w) kvs) (h1 : kvs.map (·.1) = es.map (·.1)) (h2 : Are (es.map (·.2)) (kvs.map (·.2))) : (AO.dict es).Is w.params o := by
  obtain ⟨arr, ep, ⟨x1, x2, x3⟩, hd, hk, hp, hn⟩ := h
  obtain ⟨oc, od, odt, osl⟩ := o
  cases x1; cases x2; cases x3; cases hd
  exact ⟨arr.toList, ep, ents_from hp (fun e he => hk e (Array.mem_toList_iff.mp he)) h1 h2, by simp [dictOf]⟩
theorem valueAt_lookup : ∀ {kvs : List (Str × Value)} {es : List (Str × PV)} {x : Str}, kvs.map (·.1) = es.map (·.1) → Are (es.map (·.2)) (kvs.map (·.2)) → (∀ {p}, es.lookup x = some p → ∃ v, valueAt kvs x = some v ∧ p.Is v) ∧ (es.lookup x = none → valueAt kvs x = none)
  | [], [], x, _, _ => ⟨fun e => by simp at e, fun _ => rfl⟩
  | [], _ :: _, _, h, _ => by simp at h
  | _ :: _, [], _, h, _ => by simp at h
  | (k', v') :: kvs, (k, p) :: es, x, h1, h2 => by
    simp only [List.map_cons, List.cons.injEq] at h1
    obtain ⟨rfl, h1⟩ := h1
    obtain ⟨v, _, e2, hp, h2⟩ := h2.cons_inv
    simp only [List.map_cons, List.cons.injEq] at e2
    obtain ⟨rfl, rfl⟩ := e2
    obtain ⟨i1, i2⟩ := valueAt_lookup (x := x) h1 h2
    by_cases hx : k' = x
    · subst hx
      refine ⟨fun e => ?_, fun e => ?_⟩
      · rw [List.lookup_cons, beq_self_eq_true] at e; cases e; exact ⟨v', by simp [valueAt], hp⟩
      · rw [List.lookup_cons, beq_self_eq_true] at e; cases e
    · have hx' : (x == k') = false := beq_eq_false_iff_ne.mpr (Ne.symm hx)
      have hv : valueAt ((k', v') :: kvs) x = valueAt kvs x := by simp [valueAt, hx]
      refine ⟨fun e => ?_, fun e => ?_⟩
      · rw [List.lookup_cons, hx'] at e; rw [hv]; exact i1 e
      · rw [List.lookup_cons, hx'] at e; rw [hv]; exact i2 e
theorem Look.dict {s : Shared} {d : Addr} {es : List (Str × PV)} (h : Look σ d (.dict es)) (R : Rl c σ s) (hn : (es.map (·.1)).Nodup) : ∃ kvs : List (Str × Value), kvs.map (·.1) = es.map (·.1) ∧ Are (es.map (·.2)) (kvs.map (·.2)) ∧ s.heap.DictOf (PySem.strKind c.prog c.w) d kvs := by
  obtain ⟨o, ho, hi⟩ := h.has R
  obtain ⟨kvs, h1, h2, h3⟩ := dict_to (prog := c.prog) hi hn
  exact ⟨kvs, h1, h2, Heap.dictOf_iff.mpr ⟨o, ho, h3⟩⟩
theorem sub_dict {value slice : Expr} {d : Addr} {es : List (Str × PV)} {x : Str} {p : PV} (hl : Look σ d (.dict es)) (hn : (es.map (·.1)).Nodup) (hx : es.lookup x = some p) (h : Q p σ)
    (hs : ∀ a b, subscripted slice false a b = operate [a, b] (getItem a b) := by intro _ _; rfl) : WSub c value slice (.ref d) (.str x) Q σ := fun _ _ e1 ⟨t, e2⟩ s R => by
  cases e1; subst e2
  obtain ⟨kvs, h1, h2, h3⟩ := hl.dict R hn
  obtain ⟨v, hv, hp⟩ := (valueAt_lookup h1 h2).1 hx
  obtain ⟨o, ho, hd⟩ := Heap.dictOf_iff.mp h3
  have N : News eH s.heap.objs.size s.heap [(d, o)] := fun q hq => by
    obtain rfl := List.mem_singleton.mp hq
    exact ⟨ho, Nat.ne_of_lt (Heap.lt_size ho), eH_none _⟩
  exact tail_any (T := "dict") ⟨o, ho, hd.choose_spec.choose_spec.1.1⟩ PySem.F.slot_dict_getitem.lookup (kdt_getItem N (.head _) hd (strKind_is c.prog c.w x t) hv ⟨p, σ, hp, R.toks _, h⟩) (hs _ _)
theorem b_in_dict {d : Addr} {es : List (Str × PV)} {x : Str} (hl : Look σ d (.dict es)) (hn : (es.map (·.1)).Nodup) (hm : (d == sysModules) = false) (h : Q (.bool (es.lookup x).isSome) σ) : WB c (compareOp .In) (.str x) (.ref d) Q σ := WB.atom h fun _ _ ⟨t, e1⟩ e2 s _ R k => by
  subst e1; cases e2
  obtain ⟨kvs, h1, h2, h3⟩ := hl.dict R hn
  have hv := valueAt_lookup (x := x) h1 h2
  refine wpAny_in_of (strKind_is c.prog c.w x t) hm h3.mapOf (k _ _ ?_)
  cases hx : es.lookup x with
  | none => rw [hv.2 hx]; rfl
  | some p => obtain ⟨v, e, _⟩ := hv.1 hx; rw [e]; rfl
theorem b_notin_dict {d : Addr} {es : List (Str × PV)} {x : Str} (hl : Look σ d (.dict es)) (hn : (es.map (·.1)).Nodup) (hm : (d == sysModules) = false) (h : Q (.bool (!(es.lookup x).isSome)) σ) : WB c (compareOp .NotIn) (.str x) (.ref d) Q σ := WB.atom h fun _ _ ⟨t, e1⟩ e2 s _ R k => by
  subst e1; cases e2
  obtain ⟨kvs, h1, h2, h3⟩ := hl.dict R hn
  have hv := valueAt_lookup (x := x) h1 h2
  refine wpAny_notIn_of (strKind_is c.prog c.w x t) hm h3.mapOf (k _ _ ?_)
  cases hx : es.lookup x with
  | none => rw [hv.2 hx]; rfl
  | some p => obtain ⟨v, e, _⟩ := hv.1 hx; rw [e]; rfl
theorem stored_put : ∀ {kvs : List (Str × Value)} {es : List (Str × PV)} {x : Str} {p : PV} {v : Value}, (es.map (·.1)).Nodup → kvs.map (·.1) = es.map (·.1) → Are (es.map (·.2)) (kvs.map (·.2)) → p.Is v →
    (stored kvs x v).map (·.1) = (putE x p es).map (·.1) ∧ Are ((putE x p es).map (·.2)) ((stored kvs x v).map (·.2))
  | [], [], x, p, v, _, _, _, hp => ⟨rfl, .cons hp .nil⟩
  | [], _ :: _, _, _, _, _, h, _, _ => by simp at h
  | _ :: _, [], _, _, _, _, h, _, _ => by simp at h
  | (k', v') :: kvs, (k, q) :: es, x, p, v, hn, h1, h2, hp => by
    simp only [List.map_cons, List.cons.injEq] at h1
    obtain ⟨rfl, h1⟩ := h1
    obtain ⟨u, _, e2, hq, h2⟩ := h2.cons_inv
    simp only [List.map_cons, List.cons.injEq] at e2
    obtain ⟨rfl, rfl⟩ := e2
    simp only [List.map_cons, List.nodup_cons] at hn
    by_cases hx : k' = x
    · subst hx
      have id1 : kvs.map (fun kv => if kv.1 = k' then (kv.1, v) else kv) = kvs := by
        refine List.map_congr_left (g := id) (fun kv hkv => ?_) |>.trans (List.map_id _)
        rw [if_neg (fun e => hn.1 (by rw [← h1, ← e]; exact List.mem_map_of_mem hkv))]; rfl
      have : stored ((k', v') :: kvs) k' v = (k', v) :: kvs := by simp [stored, id1]
      rw [this]
      rw [show putE k' p ((k', q) :: es) = (k', p) :: es from if_pos rfl]
      simp only [List.map_cons]
      exact ⟨by rw [h1], .cons hp h2⟩
    · have : stored ((k', v') :: kvs) x v = (k', v') :: stored kvs x v := by
        simp only [stored, List.any_cons, hx, decide_false, Bool.false_or, List.map_cons, if_false]
        split <;> rfl
      obtain ⟨i1, i2⟩ := stored_put (x := x) hn.2 h1 h2 hp
      rw [this]
      simp only [putE, if_neg hx, List.map_cons]
      exact ⟨by rw [i1], .cons hq i2⟩
theorem set_dict {led led' fz : List (Addr × AO)} {loc : List (Option PV)} {d : Addr} {es : List (Str × PV)} {x : Str} {p : PV} {Q : St → Prop} (U : Up led d (.dict es) (.dict (putE x p es)) led') (hn : (es.map (·.1)).Nodup) (hz : es.length ≤ 1000000) (h : Q ⟨loc, led', fz⟩) :
    WSet c (.ref d) (.str x) p Q ⟨loc, led, fz⟩ := fun _ _ v e1 ⟨t, e2⟩ hv s R => by
  cases e1; subst e2
  obtain ⟨kvs, h1, h2, h3⟩ := (Look.led U.mem : Look ⟨loc, led, fz⟩ d (.dict es)).dict R hn
  have hl : kvs.length = es.length := by have := congrArg List.length h1; simpa using this
  refine wpAny_setItem_pairs (strKind_is c.prog c.w x t) h3 (fun h' hm hs => ?_) (by rw [hl, sizeLine_eq]; omega)
  obtain ⟨o', ho', hd'⟩ := Heap.dictOf_iff.mp hm
  obtain ⟨i1, i2⟩ := stored_put (x := x) hn h1 h2 hv
  exact ⟨(), _, rfl, R.upd (t := s.toks + 1) U hs ⟨o', ho', dict_from hd' i1 i2⟩, h⟩
end
end
section
set_option maxRecDepth 100000
set_option linter.unusedVariables false
section
variable {c : Cx} {σ : St} {Q : PV → St → Prop}

/-! equal all the way down -/
inductive Deq (σ : St) : Nat → PV → PV → Prop
  | none {n} : Deq σ n .none .none
  | int {n i} : Deq σ n (.int i) (.int i)
  | str {n x} : Deq σ n (.str x) (.str x)
  | bytes {n b} : Deq σ n (.bytes b) (.bytes b)
  | same {n a} : Deq σ n (.ref a) (.ref a)
  | tup {n a b ps qs} : Look σ a (.tuple ps) → Look σ b (.tuple qs) → ps.length = qs.length → (∀ (i : Nat) (p q : PV), ps[i]? = some p → qs[i]? = some q → Deq σ n p q) → Deq σ (n + 1) (.ref a) (.ref b)

theorem all_true (n : Nat) : (List.range n).all (fun _ => true) = true := by simp
theorem deq_items {ps qs : List PV} {vs us : List Value} {B : Around} {s : Shared} (hv : Are ps vs) (hu : Are qs us) (h : ∀ (i : Nat) (p q : PV), ps[i]? = some p → qs[i]? = some q → ∀ v u, p.Is v → q.Is u → SeqAt.EqAt B s v u true) :
    ∀ j (h1 : j < vs.toArray.size) (h2 : j < us.toArray.size), SeqAt.EqAt B s vs.toArray[j] us.toArray[j] true := fun j h1 h2 => by
  have l1 := hv.length
  have l2 := hu.length
  simp only [List.size_toArray] at h1 h2
  obtain ⟨p, hp⟩ : ∃ p, ps[j]? = some p := ⟨ps[j]'(by omega), List.getElem?_eq_getElem _⟩
  obtain ⟨q, hq⟩ : ∃ q, qs[j]? = some q := ⟨qs[j]'(by omega), List.getElem?_eq_getElem _⟩
  obtain ⟨v, e1, h3⟩ := hv.get hp
  obtain ⟨u, e2, h4⟩ := hu.get hq
  have := h j p q hp hq v u h3 h4
  rw [List.getElem?_eq_getElem h1] at e1
  rw [List.getElem?_eq_getElem h2] at e2
  cases e1; cases e2
  simpa using this
theorem Deq.at {n : Nat} {p q : PV} (D : Deq σ n p q) {s : Shared} (R : Rl c σ s) : ∀ (B : Around), B.units + n < cLine → ∀ v u, p.Is v → q.Is u → SeqAt.EqAt B s v u true := by
  induction D with
  | none => intro B hB v u e1 e2; cases e1; cases e2; exact SeqAt.EqAt.same _
  | @int n i => rintro B hB v u ⟨t, rfl⟩ ⟨t', rfl⟩; have := SeqAt.EqAt.int_int (A := B) (s := s) i t i t'; rwa [beq_self_eq_true] at this
  | @str n x => rintro B hB v u ⟨t, rfl⟩ ⟨t', rfl⟩; have := SeqAt.EqAt.str_str (A := B) (s := s) x t x t'; rwa [beq_self_eq_true] at this
  | @bytes n b =>
    rintro B hB v u ⟨t, rfl⟩ ⟨t', rfl⟩ prog w E Q h
    unfold eqBool
    refine wpAny_holding (wpAny_ite_split (fun _ => wpAny_bind (wpAny_rule (wpAny_pure h))) fun _ => wpAny_bind ?_)
    exact PySem.W.eq_bytes (by rw [beq_self_eq_true]; exact wpAny_truthy_bool h)
  | same => intro B hB v u e1 e2; cases e1; cases e2; exact SeqAt.EqAt.same _
  | @tup n a b ps qs h1 h2 hl _ ih =>
    intro B hB v u e1 e2
    cases e1; cases e2
    by_cases hab : a = b
    · subst hab; exact SeqAt.EqAt.same _
    obtain ⟨vs, k, hv, ho⟩ := h1.tuple R
    obtain ⟨us, k', hu, ho'⟩ := h2.tuple R
    refine SeqAt.EqAt.of_refs hab ?_
    have := SeqAt.RcAt.tuples (A := B) (s := s) (e := fun _ => true) ⟨_, ho, rfl, k, rfl⟩ ⟨_, ho', rfl, k', rfl⟩ (by omega) (deq_items hv hu fun i p q hp hq v u e1 e2 => ih i p q hp hq B.in1 (by rw [units_in1]; omega) v u e1 e2)
    rwa [all_true, Bool.true_and, List.size_toArray, List.size_toArray, hv.length, hu.length, hl, beq_self_eq_true] at this
theorem b_eq_tuple {a b : Addr} {ps qs : List PV} {n : Nat} (h1 : Look σ a (.tuple ps)) (h2 : Look σ b (.tuple qs)) (hl : ps.length = qs.length) (hn : n < 60) (hi : ∀ (i : Nat) (p q : PV), ps[i]? = some p → qs[i]? = some q → Deq σ n p q) (h : Q (.bool true) σ) :
    WB c (compareOp .Eq) (.ref a) (.ref b) Q σ := WB.read h fun _ _ e1 e2 s Q' R k => by
  cases e1; cases e2
  obtain ⟨vs, m, hv, ho⟩ := h1.tuple R
  obtain ⟨us, m', hu, ho'⟩ := h2.tuple R
  have hU := R.units
  have := SeqAt.RcAt.tuples (A := c.A) (s := s) (e := fun _ => true) ⟨_, ho, rfl, m, rfl⟩ ⟨_, ho', rfl, m', rfl⟩ (by omega) (deq_items hv hu fun i p q hp hq v u e1 e2 => (hi i p q hp hq).at R c.A.in1 (by rw [units_in1]; omega) v u e1 e2)
  rw [all_true, Bool.true_and, List.size_toArray, List.size_toArray, hv.length, hu.length, hl, beq_self_eq_true] at this
  exact this c.prog c.w c.E Q' (k _ rfl)
theorem b_ne_tuple {a b : Addr} {ps qs : List PV} {n : Nat} (h1 : Look σ a (.tuple ps)) (h2 : Look σ b (.tuple qs)) (hl : ps.length = qs.length) (hn : n < 60) (hi : ∀ (i : Nat) (p q : PV), ps[i]? = some p → qs[i]? = some q → Deq σ n p q) (h : Q (.bool false) σ) :
    WB c (compareOp .NotEq) (.ref a) (.ref b) Q σ := WB.read h fun _ _ e1 e2 s Q' R k => by
  cases e1; cases e2
  obtain ⟨vs, m, hv, ho⟩ := h1.tuple R
  obtain ⟨us, m', hu, ho'⟩ := h2.tuple R
  have hU := R.units
  have := SeqAt.RcNeAt.tuples (A := c.A) (s := s) (e := fun _ => true) ⟨_, ho, rfl, m, rfl⟩ ⟨_, ho', rfl, m', rfl⟩ (by omega) (deq_items hv hu fun i p q hp hq v u e1 e2 => (hi i p q hp hq).at R c.A.in1 (by rw [units_in1]; omega) v u e1 e2)
  rw [all_true, Bool.true_and, List.size_toArray, List.size_toArray, hv.length, hu.length, hl, beq_self_eq_true] at this
  exact this c.prog c.w c.E Q' (k _ rfl)
theorem b_ne_lists {a b : Addr} {ps qs : List PV} {n : Nat} (h1 : Look σ a (.list ps)) (h2 : Look σ b (.list qs)) (hl : ps.length = qs.length) (hn : n < 60) (hi : ∀ (i : Nat) (p q : PV), ps[i]? = some p → qs[i]? = some q → Deq σ n p q) (h : Q (.bool false) σ) :
    WB c (compareOp .NotEq) (.ref a) (.ref b) Q σ := WB.read h fun _ _ e1 e2 s Q' R k => by
  cases e1; cases e2
  obtain ⟨vs, m, hv, ho⟩ := h1.list R
  obtain ⟨us, m', hu, ho'⟩ := h2.list R
  have hU := R.units
  have hs : vs.toArray.size = us.toArray.size := by rw [List.size_toArray, List.size_toArray, hv.length, hu.length, hl]
  have := SeqAt.RcNeAt.lists (A := c.A) (s := s) (e := fun _ => true) (isList_of ho) (isList_of ho') hs (by omega) (deq_items hv hu fun i p q hp hq v u e1 e2 => (hi i p q hp hq).at R c.A.in1 (by rw [units_in1]; omega) v u e1 e2)
  rw [all_true] at this
  exact this c.prog c.w c.E Q' (k _ rfl)
theorem b_ne_none {Q : PV → St → Prop} (h : Q (.bool false) σ) : WB c (compareOp .NotEq) .none .none Q σ := WB.read h fun _ _ e1 e2 s Q' R k => by
  cases e1; cases e2
  exact SeqAt.RcNeAt.none_none c.prog c.w c.E Q' (k _ rfl)
theorem b_eq_int_none {i : Int} (h : Q (.bool false) σ) : WB c (compareOp .Eq) (.int i) .none Q σ := WB.read h fun _ _ ⟨t, e1⟩ e2 s Q' R k => by
  subst e1; cases e2
  exact SeqAt.RcAt.int_none i t c.prog c.w c.E Q' (k _ rfl)
theorem b_ne_int_none {i : Int} (h : Q (.bool true) σ) : WB c (compareOp .NotEq) (.int i) .none Q σ := WB.read h fun _ _ ⟨t, e1⟩ e2 s Q' R k => by
  subst e1; cases e2
  exact SeqAt.RcNeAt.int_none i t c.prog c.w c.E Q' (k _ rfl)
noncomputable def isText (x : Str) : Value → Bool
  | .str y _ => y == x
  | _ => false
theorem any_texts (x : Str) : ∀ l : List (Str × Tok), (strValues l).any (isText x) = decide (x ∈ l.map (·.1))
  | [] => by simp [strValues]
  | p :: r => by
    have ih := any_texts x r
    show (isText x (.str p.1 p.2) || (strValues r).any (isText x)) = _
    rw [ih]
    show ((p.1 == x) || _) = _
    by_cases hx : x = p.1
    · subst hx; simp
    · have : (p.1 == x) = false := beq_eq_false_iff_ne.mpr (Ne.symm hx)
      rw [this, Bool.false_or]
      simp [hx]
theorem b_in_strs {a : Addr} {x : Str} {xs : List Str} (h1 : Look σ a (.list (xs.map .str))) (h : Q (.bool (decide (x ∈ xs))) σ) : WB c (compareOp .In) (.str x) (.ref a) Q σ := WB.read h fun _ _ ⟨t, e1⟩ e2 s Q' R k => by
  subst e1; cases e2
  obtain ⟨vs, m, hv, ho⟩ := h1.list R
  obtain ⟨l, rfl, e⟩ := are_strs_inv hv
  refine SeqAt.in_listAt (isText x) (isList_of ho) (fun y hy => ?_) (k _ ?_)
  · obtain ⟨p, hp, rfl⟩ := List.mem_map.mp (List.mem_toArray.mp hy)
    exact SeqAt.EqAt.str_str p.1 p.2 x t
  · show _ = _
    rw [← Array.any_toList, List.toList_toArray, any_texts, e]

/-! identity -/
theorem b_isnot_other {a b : Addr} {C D : Addr} {C' D' : Addr} (hab : a ≠ b) (h1 : Look σ a (.inst C D)) (h2 : Look σ b (.inst C' D')) (h : Q (.bool true) σ) : WB c (compareOp .IsNot) (.ref a) (.ref b) Q σ := WB.read h fun _ _ e1 e2 s Q' R k => by
  cases e1; cases e2
  obtain ⟨o, ho, rfl⟩ := h1.has R
  obtain ⟨o', ho', rfl⟩ := h2.has R
  exact wpAny_isNot_ref_other hab ho ho' (by intro e; cases e) (k _ rfl)
end
end
section
set_option maxRecDepth 100000
set_option linter.unusedVariables false
section
variable {c : Cx} {σ : St} {Q : PV → St → Prop}
theorem Itb.weak {p : PV} {items : List Itm} {target : Expr} {σ₁ : St} {mu' rem : List (Addr × AO)} (k : Itb c p items target σ₁ σ) (h1 : Take σ₁.led mu' rem) : Itb c p items target ⟨σ₁.loc, mu', σ₁.fz⟩ σ := fun s v Q E R hv kk =>
  k s v Q E R hv fun I fp wr S h' tk W st R₁ hfp hwr => kk I fp wr S h' tk W st (R₁.conv h1 (.nil : Take rem [] rem)) (fun b hb => ⟨(hfp b hb).1, fun hm => (hfp b hb).2.1 (by
    obtain ⟨q, hq, e⟩ := List.mem_map.mp hm
    exact List.mem_map.mpr ⟨q, h1.perm.mem_iff.mpr (List.mem_append_left _ hq), e⟩), (hfp b hb).2.2⟩) hwr
theorem wnt {A B : Prop} (h : A) : if (!false) = true then A else B := by simpa using h
theorem wnf {A B : Prop} (h : B) : if (!true) = true then A else B := by simpa using h
/-- what is frozen may be forgotten -/
theorem Rl.thaw {s : Shared} {fz : List (Addr × AO)} (R : Rl c σ s) (h0 : ∀ q ∈ c.fz₀, q ∈ fz) (h1 : ∀ q ∈ fz, q ∈ σ.fz) : Rl c ⟨σ.loc, σ.led, fz⟩ s :=
  ⟨R.ok, R.gens, R.drawn, R.os, R.fr, R.led, R.nod, fun p hp => R.fz p (h1 p hp), h0, R.rsv, fun b hb => ⟨(R.exc b hb).1, (R.exc b hb).2.1, (R.exc b hb).2.2.1, fun hm => (R.exc b hb).2.2.2 (by obtain ⟨q, hq, e⟩ := List.mem_map.mp hm; exact List.mem_map.mpr ⟨q, h1 q hq, e⟩)⟩, R.ofo,
    fun p hp => ⟨(R.ofr p hp).1, (R.ofr p hp).2.1, fun hm => (R.ofr p hp).2.2 (by obtain ⟨q, hq, e⟩ := List.mem_map.mp hm; exact List.mem_map.mpr ⟨q, h1 q hq, e⟩)⟩⟩
theorem Wk.thaw {α β : Type} {is : β → α → Prop} {t : Sem α} {Q : β → St → Prop} (fz : List (Addr × AO)) (h0 : c.fz₀ = fz) (h : Wk c is t (fun p σ' => (∀ q ∈ fz, q ∈ σ'.fz) ∧ Q p ⟨σ'.loc, σ'.led, fz⟩) σ) : Wk c is t Q σ := fun s R =>
  wpAny_mono (h s R) (by rintro v s' ⟨p, σ', hi, R', h1, hq⟩; exact ⟨p, _, hi, R'.thaw (fun q hq => h0 ▸ hq) h1, hq⟩) fun _ _ e => e
theorem Itb.thaw {p : PV} {items : List Itm} {target : Expr} {σ₁ : St} {fz : List (Addr × AO)} (k : Itb c p items target σ₁ σ) (h0 : c.fz₀ = fz) (h1 : ∀ q ∈ fz, q ∈ σ₁.fz) : Itb c p items target ⟨σ₁.loc, σ₁.led, fz⟩ σ := fun s v Q E R hv kk =>
  k s v Q E R hv fun I fp wr S h' tk W st R₁ hfp hwr => kk I fp wr S h' tk W st (R₁.thaw (fun q hq => h0 ▸ hq) h1) hfp (fun b hb => ⟨(hwr b hb).1, fun hm => (hwr b hb).2.1 (by
    obtain ⟨q, hq, e⟩ := List.mem_map.mp hm
    exact List.mem_map.mpr ⟨q, h1 q hq, e⟩), (hwr b hb).2.2⟩)
theorem w_constBytes {b : List UInt8} {n : Nat} {pos : Pos} (k : Q (.bytes b.toArray) σ) : Wk c PV.Is (eval (.Constant (.bytes b) n pos) c.env) Q σ := Wk.atom k fun _ _ _ h => PySem.W.Constant_bytes (h _ _ ⟨_, rfl⟩)

/-- a dict of one pair -/
theorem w_dict1 {ke ve : Expr} {pos : Pos} (h : ∀ d, (d == sysModules) = false → Wk c PV.Is (eval ke c.env) (fun p σ₁ => ∃ x, p = .str x ∧ Wk c PV.Is (eval ve c.env) (fun q σ₂ => ∃ led', Up σ₂.led d (.dict []) (.dict [(x, q)]) led' ∧ Q (.ref d) ⟨σ₂.loc, led', σ₂.fz⟩) σ₁) ⟨σ.loc, (d, .dict []) :: σ.led, σ.fz⟩) :
    Wk c PV.Is (eval (.Dict [some ke] [ve] pos) c.env) Q σ := fun s R => by
  have hm : (s.heap.objs.size == sysModules) = false := beq_eq_false_iff_ne.mpr (Nat.ne_of_gt (modules_low R.sta.nolimit))
  have R₀ : Rl c ⟨σ.loc, (s.heap.objs.size, .dict []) :: σ.led, σ.fz⟩ { heap := s.heap.push { cls := .type "dict", data := .dict #[] }, gens := s.gens, drawn := s.drawn, toks := s.toks, os := s.os } := R.push (x := .dict []) (t := s.toks) ⟨[], 0, .nil, rfl⟩ rfl
  refine wpAny_Dict_walk (knd := PySem.strKind c.prog c.w) rfl rfl (by simp) (by simp) ?_
  refine pairTrees_cons_walk (wpAny_mono (h _ hm _ R₀) (fun kv s₁ ⟨p, σ₁, hp, R₁, x, e, h₁⟩ => wpAny_mono (h₁ s₁ R₁) (fun vv s₂ ⟨q, σ₂, hq, R₂, led', U, h₂⟩ => ?_) fun _ _ z => z) fun _ _ z => z)
  subst e
  obtain ⟨t, rfl⟩ := hp
  obtain ⟨kvs, k1, k2, k3⟩ := (Look.led U.mem : Look σ₂ _ (.dict [])).dict R₂ .nil
  obtain rfl : kvs = [] := by cases kvs with | nil => rfl | cons a b => simp at k1
  refine pairTrees_nil_walk ⟨[(x, vv)], ⟨strKind_is c.prog c.w x t, rfl, trivial⟩, k3, fun h' hd hs => ?_⟩
  obtain ⟨o', ho', hd'⟩ := Heap.dictOf_iff.mp hd
  exact ⟨.ref _, _, rfl, R₂.upd U hs ⟨o', ho', dict_from hd' rfl (.cons hq .nil)⟩, h₂⟩

theorem keysS_go {C : List Value → Prop} : ∀ {kvs : List (Str × Value)}, (∀ vs, Are (kvs.map fun p => PV.str p.1) vs → C vs) → KdlKeysS kvs C
  | [], h => h [] .nil
  | q :: r, h => fun t => keysS_go fun vs hv => h _ (.cons ⟨t, rfl⟩ hv)
theorem c_list_dict {d : Addr} {es : List (Str × PV)} (hl : Look σ d (.dict es)) (hn : (es.map (·.1)).Nodup) (hm : (d == sysModules) = false) (hz : es.length ≤ 1000000) (h : ∀ a, Q (.ref a) ⟨σ.loc, (a, .list (es.map fun e => .str e.1)) :: σ.led, σ.fz⟩) : WCall c (.type "list") [.ref d] Q σ := fun _ _ hf ha s R => by
  cases hf; obtain ⟨_, rfl, e⟩ := ha.one
  cases e
  obtain ⟨kvs, h1, h2, h3⟩ := hl.dict R hn
  obtain ⟨o, ho, hd⟩ := Heap.dictOf_iff.mp h3
  obtain ⟨m, F, F', L, N⟩ := R.noFr
  have hl' : kvs.length = es.length := by have := congrArg List.length h1; simpa using this
  have N' : News eH c.env.locals s.heap ((d, o) :: allOf s.heap c.env.locals) := fun q hq => by
    rcases List.mem_cons.mp hq with rfl | hq
    · refine ⟨ho, fun e => ?_, eH_none _⟩
      obtain ⟨oL, es', ep, hL, hd1, _⟩ := F.ns
      cases hl with
      | led hl => exact (R.led _ hl).2.1 e
      | fz hl => exact (R.fz _ hl).2.1 e
    · exact N q hq
  have hmap : (kvs.map fun p => PV.str p.1) = es.map fun e => PV.str e.1 := by
    have := congrArg (List.map PV.str) h1
    rw [List.map_map, List.map_map] at this
    exact this
  refine kdl_list_keysS R.ok.hh F N' (.head _) hd hm (by omega) fun B k h' tk => keysS_go fun vs hv F₁ N₁ lt => ?_
  rw [hmap] at hv
  refine ⟨.ref B, _, rfl, R.gotNew (x := .list _) F' L F₁ (o := W.listOf vs.toArray k) (fun q hq => ?_) (fun q hq => lt q (.tail _ hq)) ⟨_, _, hv, rfl⟩, h _⟩
  rcases List.mem_cons.mp hq with rfl | hq
  · exact N₁ _ (.head _)
  · exact N₁ _ (.tail _ (.tail _ hq))

theorem strs_of : ∀ {xs : List Str} {vs : List Value}, Are (xs.map .str) vs → StrsAre vs xs
  | [], _, h => by cases h; exact .nil
  | x :: xs, _, h => by
    obtain ⟨v, us, rfl, ⟨t, rfl⟩, h'⟩ := h.cons_inv
    exact .cons _ _ (strs_of h')
theorem of_strs : ∀ {vs : List Value} {xs : List Str}, StrsAre vs xs → Are (xs.map .str) vs
  | _, _, .nil => .nil
  | _, _, .cons _ t h => .cons ⟨t, rfl⟩ (of_strs h)
theorem c_sorted {a : Addr} {xs : List Str} (hl : Look σ a (.list (xs.map .str))) (hz : xs.length < 64) (h : ∀ d ys, ys.Perm xs → sortedS ys = true → Q (.ref d) ⟨σ.loc, (d, .list (ys.map .str)) :: σ.led, σ.fz⟩) : WCall c (.builtin "sorted") [.ref a] Q σ := fun _ _ hf ha s R => by
  cases hf; obtain ⟨_, rfl, e⟩ := ha.one
  cases e
  obtain ⟨vs, n, hv, ho⟩ := hl.list R
  obtain ⟨m, F, F', L, N⟩ := R.noFr
  refine sorted_N_str F N (isList_of ho) (strs_of hv) (by rw [hv.length, List.length_map]; exact hz) fun h' vs' ys e F₁ N₁ hS hp hs => ?_
  exact ⟨.ref _, _, rfl, R.gotNew (x := .list _) F' L F₁ N₁ (fun q hq => Nat.lt_succ_of_lt (allOf_lt q hq)) ⟨vs', e, of_strs hS, rfl⟩, h _ ys hp hs⟩

/-! enumerate -/
theorem takeAll : ∀ (l : List (Addr × AO)), Take l l []
  | [] => .nil
  | _ :: r => .cons .head (takeAll r)
theorem takeTail {x y : Addr × AO} : ∀ (l : List (Addr × AO)), Take (x :: y :: l) l [x, y]
  | [] => .nil
  | _ :: r => .cons (.tail (.tail .head)) (takeTail r)
theorem c_enumerate {l : Addr} {xs : List PV} (hl : Look σ l (.list xs)) (h : ∀ e it, Q (.ref e) ⟨σ.loc, (e, .enum it) :: (it, .liter l) :: σ.led, σ.fz⟩) : WCall c (.type "enumerate") [.ref l] Q σ := fun _ _ hf ha s R => by
  cases hf; obtain ⟨_, rfl, e⟩ := ha.one
  cases e
  obtain ⟨vs, n, hv, ho⟩ := hl.list R
  refine call_enumerate_list (isList_of ho) fun h' he hit hsz hk => ?_
  have R₁ : Rl c σ { heap := h', gens := s.gens, drawn := s.drawn, toks := s.toks, os := s.os } := R.stays hk
  obtain ⟨l1, l2, l3, l4, l5, l6, l7⟩ := R.low (Nat.le_refl s.heap.objs.size)
  obtain ⟨m1, m2, m3, m4, m5, m6, m7⟩ := R.low (Nat.le_succ s.heap.objs.size)
  obtain ⟨oi, hoi, hci, hdi⟩ := hit
  have R₂ : Rl c ⟨σ.loc, (s.heap.objs.size, .liter l) :: σ.led, σ.fz⟩ { heap := h', gens := s.gens, drawn := s.drawn, toks := s.toks, os := s.os } := R₁.add (s := s) ⟨oi, hoi, hci, hdi⟩ l1 l2 l3 l4 l5 l6 l7
  refine ⟨.ref _, _, rfl, R₂.add (s := s) (x := .enum s.heap.objs.size) ⟨_, he, .none, rfl⟩ m1 m2 (fun hm => ?_) m4 m5 m6 m7, h _ _⟩
  rcases List.mem_cons.mp hm with e | hm
  · exact Nat.succ_ne_self _ e
  · exact m3 hm
theorem itb_enum {e it l : Addr} {xs : List PV} {elts : List Expr} {k : Nat} {pos : Pos} {loc : List (Option PV)} {led fz : List (Addr × AO)} (hl : (l, AO.list xs) ∈ fz) :
    Itb c (.ref e) ((List.range xs.length).map fun i : Nat => .tup [.int (i : Int), xs.getD i .none]) (.Tuple elts k pos) ⟨loc, led, fz⟩ ⟨loc, (e, .enum it) :: (it, .liter l) :: led, fz⟩ := fun s v Q E R hv kk => by
  cases hv
  obtain ⟨vs, n, hvs, ho⟩ := (Look.fz hl : Look _ l (.list xs)).list R
  obtain ⟨⟨oe, hoe, old, rfl⟩, e2, e3⟩ := R.led _ (.head _)
  obtain ⟨⟨oi, hoi, hci, hdi⟩, i2, i3⟩ := R.led _ (.tail _ (.head _))
  have nd := R.nod
  simp only [List.map_cons, List.nodup_cons, List.mem_cons, not_or] at nd
  have fl := R.fz _ hl
  have hne : e ≠ it := nd.1.1
  have hle : l ≠ e := fun q => fl.2.2.1 (by rw [q]; exact .head _)
  have hli : l ≠ it := fun q => fl.2.2.1 (by rw [q]; exact .tail _ (.head _))
  have R' : Rl c ⟨loc, led, fz⟩ s := R.conv (mu' := led) (rem := [(e, .enum it), (it, .liter l)]) (fr := []) (rest := [(e, .enum it), (it, .liter l)]) (takeTail led) .nil
  refine wpAny_pyIter_enum hoe ?_
  refine kk e [e, it, l] [e, it] (fun i h => (∃ old, IsEnum h e it i old) ∧ h.IsListIter it l i ∧ h.IsList l vs.toArray) s.heap s.toks ⟨fun b hb => ?_, fun i h h' ⟨⟨o1, a1⟩, ⟨o2, a2, a3⟩, ⟨o3, a4, a5⟩⟩ hk => ⟨⟨o1, hk _ (.head _) _ a1⟩, ⟨o2, hk _ (.tail _ (.head _)) _ a2, a3⟩, ⟨o3, hk _ (.tail _ (.tail _ (.head _))) _ a4, a5⟩⟩, fun i h ⟨⟨o1, a1⟩, ⟨o2, a2, a3⟩, ⟨o3, a4, a5⟩⟩ b hb => ?_, fun i x s Q E hx ⟨⟨o1, a1⟩, a2, a3⟩ kq => ?_, fun s Q E ⟨⟨o1, a1⟩, a2, a3⟩ kq => ?_, fun i s Q E ⟨⟨o1, a1⟩, _⟩ kq => wpAny_pyIter_enum a1 kq⟩ ⟨⟨old, hoe⟩, ⟨oi, hoi, hci, hdi⟩, isList_of ho⟩ R' (fun b hb => ?_) fun b hb => ?_
  · simp only [List.mem_cons, List.not_mem_nil, or_false] at hb ⊢
    rcases hb with rfl | rfl <;> simp
  · simp only [List.mem_cons, List.not_mem_nil, or_false] at hb
    rcases hb with rfl | rfl | rfl
    · rw [a1]; rfl
    · rw [a2]; rfl
    · rw [a4]; rfl
  · rw [List.getElem?_map] at hx
    obtain ⟨j, hj, rfl⟩ := Option.map_eq_some_iff.mp hx
    obtain ⟨hj1, hj2⟩ := List.getElem?_eq_some_iff.mp hj
    rw [List.length_range] at hj1
    rw [List.getElem_range] at hj2
    subst hj2
    obtain ⟨v, hv1, hv2⟩ := hvs.get (i := i) (p := xs.getD i .none) (by rw [List.getD_eq_getElem?_getD, List.getElem?_eq_getElem hj1]; rfl)
    refine wpAny_pyNext_enum_item a1 a2 a3 (by simpa using hv1) hne fun h' b1 b2 b3 b4 b5 => ?_
    refine wpAny_letOwnedTupleGo_enum b1 fun h'' c1 c2 => kq _ _ _ ⟨_, #[.int i s.toks, v], 0, rfl, Nat.le_refl _, ?_, .cons ⟨s.toks, rfl⟩ (.cons hv2 .nil)⟩ ⟨⟨_, c1⟩, ?_, ?_⟩ fun b o hb eb => ?_
    · exact (c2.2 _ (Nat.ne_of_gt (Heap.lt_size a1))).trans b3
    · obtain ⟨o2, q1, q2⟩ := b2
      exact ⟨o2, (c2.2 _ (Ne.symm hne)).trans q1, q2⟩
    · obtain ⟨o3, q1, q2⟩ := a3
      exact ⟨o3, (c2.2 _ hle).trans (b5 _ _ hle hli q1), q2⟩
    · simp only [List.mem_cons, List.not_mem_nil, or_false, not_or] at hb
      exact (c2.2 _ hb.1).trans (b5 _ _ hb.1 hb.2 eb)
  · rw [List.length_map, List.length_range] at a1 a2
    refine wpAny_pyNext_enum_end R.ok.hh a1 a2 a3 (Array.getElem?_eq_none_iff.mpr (by rw [List.size_toArray, hvs.length]; exact Nat.le_refl _)) fun h' he => kq _ _ fun b o hb eb => he b o (fun q => hb (by rw [q]; exact .tail _ (.head _))) eb
  · simp only [List.mem_cons, List.not_mem_nil, or_false] at hb
    rcases hb with rfl | rfl | rfl
    · exact ⟨e2, fun hm => nd.1.2 (by simpa using hm), R.ledFr (.head _)⟩
    · exact ⟨i2, fun hm => nd.2.1 (by simpa using hm), R.ledFr (.tail _ (.head _))⟩
    · exact ⟨fl.2.1, fun hm => fl.2.2.1 (.tail _ (.tail _ hm)), R.fzFr hl⟩
  · simp only [List.mem_cons, List.not_mem_nil, or_false] at hb
    rcases hb with rfl | rfl
    · refine ⟨e3, fun hm => ?_, fun hm => ?_, fun hm => ?_⟩
      · obtain ⟨q, hq, e⟩ := List.mem_map.mp hm; exact (R.fz q hq).2.2.1 (by rw [e]; exact .head _)
      · obtain ⟨q, hq, e⟩ := List.mem_map.mp hm; exact (R.rsv q hq).2.2.1 (by rw [e]; exact .head _)
      · exact (R.exc _ hm).2.2.1 (.head _)
    · refine ⟨i3, fun hm => ?_, fun hm => ?_, fun hm => ?_⟩
      · obtain ⟨q, hq, e⟩ := List.mem_map.mp hm; exact (R.fz q hq).2.2.1 (by rw [e]; exact .tail _ (.head _))
      · obtain ⟨q, hq, e⟩ := List.mem_map.mp hm; exact (R.rsv q hq).2.2.1 (by rw [e]; exact .tail _ (.head _))
      · exact (R.exc _ hm).2.2.1 (.tail _ (.head _))
end
end
section
set_option maxRecDepth 100000
set_option linter.unusedVariables false

noncomputable abbrev pw : Program := PySem.Challenge.pw_pq0933_01
noncomputable def nth (l : List Stmt) (i : Nat) : Stmt := match l[i]? with | some s => s | none => .Pass default
noncomputable def cBody : Stmt → List Stmt
  | .ClassDef _ _ _ body .. => body
  | _ => []
noncomputable def fArgs : Stmt → Arguments
  | .FunctionDef _ args .. => args
  | _ => ⟨[], [], none, [], [], none, []⟩
noncomputable def fBody : Stmt → List Stmt
  | .FunctionDef _ _ body .. => body
  | _ => []
noncomputable def fScope : Stmt → Scope
  | .FunctionDef _ _ _ _ _ _ scope .. => scope
  | _ => ⟨.function, [], false, false, []⟩
/-- _wall -/
noncomputable def d0 : Stmt := (nth pw.main.body 0)
noncomputable def a0 : Arguments := fArgs d0
noncomputable def b0 : List Stmt := fBody d0
noncomputable def c0 : Scope := fScope d0
/-- __init__ -/
noncomputable def d1 : Stmt := (nth (cBody (nth pw.main.body 2)) 0)
noncomputable def a1 : Arguments := fArgs d1
noncomputable def b1 : List Stmt := fBody d1
noncomputable def c1 : Scope := fScope d1
/-- told -/
noncomputable def d2 : Stmt := (nth (cBody (nth pw.main.body 2)) 1)
noncomputable def a2 : Arguments := fArgs d2
noncomputable def b2 : List Stmt := fBody d2
noncomputable def c2 : Scope := fScope d2
/-- parts_between -/
noncomputable def d3 : Stmt := (nth pw.main.body 6)
noncomputable def a3 : Arguments := fArgs d3
noncomputable def b3 : List Stmt := fBody d3
noncomputable def c3 : Scope := fScope d3
/-- whole_number -/
noncomputable def d4 : Stmt := (nth pw.main.body 7)
noncomputable def a4 : Arguments := fArgs d4
noncomputable def b4 : List Stmt := fBody d4
noncomputable def c4 : Scope := fScope d4
/-- words_of -/
noncomputable def d5 : Stmt := (nth pw.main.body 8)
noncomputable def a5 : Arguments := fArgs d5
noncomputable def b5 : List Stmt := fBody d5
noncomputable def c5 : Scope := fScope d5
/-- letter_line -/
noncomputable def d6 : Stmt := (nth pw.main.body 9)
noncomputable def a6 : Arguments := fArgs d6
noncomputable def b6 : List Stmt := fBody d6
noncomputable def c6 : Scope := fScope d6
/-- box_told -/
noncomputable def d7 : Stmt := (nth pw.main.body 10)
noncomputable def a7 : Arguments := fArgs d7
noncomputable def b7 : List Stmt := fBody d7
noncomputable def c7 : Scope := fScope d7
/-- letter_in -/
noncomputable def d8 : Stmt := (nth pw.main.body 11)
noncomputable def a8 : Arguments := fArgs d8
noncomputable def b8 : List Stmt := fBody d8
noncomputable def c8 : Scope := fScope d8
/-- numbers_told -/
noncomputable def d9 : Stmt := (nth pw.main.body 12)
noncomputable def a9 : Arguments := fArgs d9
noncomputable def b9 : List Stmt := fBody d9
noncomputable def c9 : Scope := fScope d9
/-- __init__ -/
noncomputable def d10 : Stmt := (nth (cBody (nth pw.main.body 14)) 0)
noncomputable def a10 : Arguments := fArgs d10
noncomputable def b10 : List Stmt := fBody d10
noncomputable def c10 : Scope := fScope d10
/-- has -/
noncomputable def d11 : Stmt := (nth (cBody (nth pw.main.body 14)) 1)
noncomputable def a11 : Arguments := fArgs d11
noncomputable def b11 : List Stmt := fBody d11
noncomputable def c11 : Scope := fScope d11
/-- told -/
noncomputable def d12 : Stmt := (nth (cBody (nth pw.main.body 14)) 2)
noncomputable def a12 : Arguments := fArgs d12
noncomputable def b12 : List Stmt := fBody d12
noncomputable def c12 : Scope := fScope d12
/-- __init__ -/
noncomputable def d13 : Stmt := (nth (cBody (nth pw.main.body 15)) 0)
noncomputable def a13 : Arguments := fArgs d13
noncomputable def b13 : List Stmt := fBody d13
noncomputable def c13 : Scope := fScope d13
/-- letter -/
noncomputable def d14 : Stmt := (nth (cBody (nth pw.main.body 15)) 1)
noncomputable def a14 : Arguments := fArgs d14
noncomputable def b14 : List Stmt := fBody d14
noncomputable def c14 : Scope := fScope d14
/-- uids -/
noncomputable def d15 : Stmt := (nth (cBody (nth pw.main.body 15)) 2)
noncomputable def a15 : Arguments := fArgs d15
noncomputable def b15 : List Stmt := fBody d15
noncomputable def c15 : Scope := fScope d15
/-- told -/
noncomputable def d16 : Stmt := (nth (cBody (nth pw.main.body 15)) 3)
noncomputable def a16 : Arguments := fArgs d16
noncomputable def b16 : List Stmt := fBody d16
noncomputable def c16 : Scope := fScope d16
/-- place_of -/
noncomputable def d17 : Stmt := (nth pw.main.body 16)
noncomputable def a17 : Arguments := fArgs d17
noncomputable def b17 : List Stmt := fBody d17
noncomputable def c17 : Scope := fScope d17
/-- upper_text -/
noncomputable def d18 : Stmt := (nth pw.main.body 18)
noncomputable def a18 : Arguments := fArgs d18
noncomputable def b18 : List Stmt := fBody d18
noncomputable def c18 : Scope := fScope d18
/-- first_part -/
noncomputable def d19 : Stmt := (nth pw.main.body 22)
noncomputable def a19 : Arguments := fArgs d19
noncomputable def b19 : List Stmt := fBody d19
noncomputable def c19 : Scope := fScope d19
/-- normal_name -/
noncomputable def d20 : Stmt := (nth pw.main.body 23)
noncomputable def a20 : Arguments := fArgs d20
noncomputable def b20 : List Stmt := fBody d20
noncomputable def c20 : Scope := fScope d20
/-- __init__ -/
noncomputable def d21 : Stmt := (nth (cBody (nth pw.main.body 26)) 0)
noncomputable def a21 : Arguments := fArgs d21
noncomputable def b21 : List Stmt := fBody d21
noncomputable def c21 : Scope := fScope d21
/-- has -/
noncomputable def d22 : Stmt := (nth (cBody (nth pw.main.body 26)) 1)
noncomputable def a22 : Arguments := fArgs d22
noncomputable def b22 : List Stmt := fBody d22
noncomputable def c22 : Scope := fScope d22
/-- box -/
noncomputable def d23 : Stmt := (nth (cBody (nth pw.main.body 26)) 2)
noncomputable def a23 : Arguments := fArgs d23
noncomputable def b23 : List Stmt := fBody d23
noncomputable def c23 : Scope := fScope d23
/-- names -/
noncomputable def d24 : Stmt := (nth (cBody (nth pw.main.body 26)) 3)
noncomputable def a24 : Arguments := fArgs d24
noncomputable def b24 : List Stmt := fBody d24
noncomputable def c24 : Scope := fScope d24
/-- told -/
noncomputable def d25 : Stmt := (nth (cBody (nth pw.main.body 26)) 4)
noncomputable def a25 : Arguments := fArgs d25
noncomputable def b25 : List Stmt := fBody d25
noncomputable def c25 : Scope := fScope d25
/-- _law_urn -/
noncomputable def d26 : Stmt := (nth pw.main.body 28)
noncomputable def a26 : Arguments := fArgs d26
noncomputable def b26 : List Stmt := fBody d26
noncomputable def c26 : Scope := fScope d26
/-- _law_pull -/
noncomputable def d27 : Stmt := (nth pw.main.body 29)
noncomputable def a27 : Arguments := fArgs d27
noncomputable def b27 : List Stmt := fBody d27
noncomputable def c27 : Scope := fScope d27
/-- _law_box -/
noncomputable def d28 : Stmt := (nth pw.main.body 33)
noncomputable def a28 : Arguments := fArgs d28
noncomputable def b28 : List Stmt := fBody d28
noncomputable def c28 : Scope := fScope d28
/-- _law_figures -/
noncomputable def d29 : Stmt := (nth pw.main.body 34)
noncomputable def a29 : Arguments := fArgs d29
noncomputable def b29 : List Stmt := fBody d29
noncomputable def c29 : Scope := fScope d29
/-- _law_number -/
noncomputable def d30 : Stmt := (nth pw.main.body 35)
noncomputable def a30 : Arguments := fArgs d30
noncomputable def b30 : List Stmt := fBody d30
noncomputable def c30 : Scope := fScope d30
/-- _law_spelling -/
noncomputable def d31 : Stmt := (nth pw.main.body 36)
noncomputable def a31 : Arguments := fArgs d31
noncomputable def b31 : List Stmt := fBody d31
noncomputable def c31 : Scope := fScope d31
/-- _law_rest -/
noncomputable def d32 : Stmt := (nth pw.main.body 37)
noncomputable def a32 : Arguments := fArgs d32
noncomputable def b32 : List Stmt := fBody d32
noncomputable def c32 : Scope := fScope d32
/-- _law_heard -/
noncomputable def d33 : Stmt := (nth pw.main.body 38)
noncomputable def a33 : Arguments := fArgs d33
noncomputable def b33 : List Stmt := fBody d33
noncomputable def c33 : Scope := fScope d33
/-- _law_read -/
noncomputable def d34 : Stmt := (nth pw.main.body 39)
noncomputable def a34 : Arguments := fArgs d34
noncomputable def b34 : List Stmt := fBody d34
noncomputable def c34 : Scope := fScope d34
/-- _law_is_told -/
noncomputable def d35 : Stmt := (nth pw.main.body 40)
noncomputable def a35 : Arguments := fArgs d35
noncomputable def b35 : List Stmt := fBody d35
noncomputable def c35 : Scope := fScope d35
/-- law -/
noncomputable def d36 : Stmt := (nth pw.main.body 41)
noncomputable def a36 : Arguments := fArgs d36
noncomputable def b36 : List Stmt := fBody d36
noncomputable def c36 : Scope := fScope d36
noncomputable def o0 (P : Params) : Obj := { cls := Value.type "tuple", data := Data.seq #[] }
noncomputable def o1 (P : Params) : Obj := { cls := Value.none, data := Data.fields #[] }
noncomputable def o2 (P : Params) : Obj := { cls := Value.type "code", data := Data.fields #[Value.str (Str.ofString "<module>") 182, Value.str (Str.ofString "<module>") 183, Value.str (Str.ofString "/claim/cut.py") 184, Value.int 1 0, Value.int 0 0, Value.int 0 0, Value.int 0 0, Value.int 0 0, Value.ref 11, Value.bool false, Value.int 181 0, Value.ref 12, Value.none, Value.none, Value.none, Value.none, Value.int 185 0, Value.int 1 0, Value.str (Str.ofString "/claim/cut.py") 186] }
noncomputable def o3 (P : Params) : Obj := { cls := Value.type "frame", slots := #[some (Value.ref 13), some (Value.ref 3), some (Value.ref 3), none, some (Value.str (Str.ofString "__main__") 164), none, some (Value.ref 0)] }
noncomputable def o4 (P : Params) : Obj := { cls := Value.none, data := Data.dict #[{ hash := PyData.keyHash P (Str.ofString "type.__subclasses__.Exception.0"), key := Value.str (Str.ofString "type.__subclasses__.Exception.0") 232, val := Value.int 46 0 }, { hash := PyData.keyHash P (Str.ofString "type.__subclasses__.Exception.n"), key := Value.str (Str.ofString "type.__subclasses__.Exception.n") 233, val := Value.int 1 0 }] 2 }
noncomputable def o5 (P : Params) : Obj := { cls := Value.type "dict", data := Data.dict #[{ hash := PyData.keyHash P (Str.ofString "__name__"), key := Value.str (Str.ofString "__name__") 165, val := Value.str (Str.ofString "postkeep.errors") 194 }, { hash := PyData.keyHash P (Str.ofString "__doc__"), key := Value.str (Str.ofString "__doc__") 166, val := Value.none }, { hash := PyData.keyHash P (Str.ofString "__package__"), key := Value.str (Str.ofString "__package__") 167, val := Value.none }, { hash := PyData.keyHash P (Str.ofString "__loader__"), key := Value.str (Str.ofString "__loader__") 168, val := Value.builtin "__main__.__loader__#opaque" }, { hash := PyData.keyHash P (Str.ofString "__spec__"), key := Value.str (Str.ofString "__spec__") 169, val := Value.none }, { hash := PyData.keyHash P (Str.ofString "__annotations__"), key := Value.str (Str.ofString "__annotations__") 170, val := Value.ref 6 }, { hash := PyData.keyHash P (Str.ofString "__builtins__"), key := Value.str (Str.ofString "__builtins__") 171, val := Value.ref 4 }, { hash := PyData.keyHash P (Str.ofString "__file__"), key := Value.str (Str.ofString "__file__") 173, val := Value.str (Str.ofString "/claim/cut.py") 172 }, { hash := PyData.keyHash P (Str.ofString "__cached__"), key := Value.str (Str.ofString "__cached__") 174, val := Value.none }, { hash := PyData.keyHash P (Str.ofString "_wall"), key := Value.str (Str.ofString "_wall") 193, val := Value.ref 21 }, { hash := PyData.keyHash P (Str.ofString "PostError"), key := Value.str (Str.ofString "PostError") 235, val := Value.ref 46 }] 11 }
noncomputable def o6 (P : Params) : Obj := { cls := Value.none, data := Data.fields #[Value.int 1 0, Value.int 0 0, Value.ref 20, Value.int 5 0, Value.int 0 0, Value.ref 27] }
noncomputable def o7 (P : Params) : Obj := { cls := Value.type "tuple", data := Data.seq #[Value.str (Str.ofString "k") 190] }
noncomputable def o8 (P : Params) : Obj := { cls := Value.none, data := Data.func { name := Str.ofString "_wall", qualname := Str.ofString "_wall", params := a0, body := FuncBody.stmts b0, scope := c0, globals := 0, closure := [], defaults := Value.none, kwdefaults := Value.none } }
noncomputable def o9 (P : Params) : Obj := { cls := Value.type "code", data := Data.fields #[Value.str (Str.ofString "_wall") 187, Value.str (Str.ofString "_wall") 188, Value.str (Str.ofString "/claim/cut.py") 189, Value.int 1 0, Value.int 1 0, Value.int 0 0, Value.int 0 0, Value.int 3 0, Value.ref 15, Value.bool true, Value.int 181 0, Value.ref 16, Value.none, Value.ref 17, Value.ref 18, Value.ref 19, Value.int 191 0, Value.int 1 0, Value.str (Str.ofString "/claim/cut.py") 192] }
noncomputable def o10 (P : Params) : Obj := { cls := Value.type "function", data := Data.func { name := Str.ofString "_wall", qualname := Str.ofString "_wall", params := a0, body := FuncBody.stmts b0, scope := c0, globals := 3, closure := [], defaults := Value.none, kwdefaults := Value.none, pyModule := Value.str (Str.ofString "__main__") 164, code := Value.ref 20 } }
noncomputable def o11 (P : Params) : Obj := { cls := Value.type "tuple", data := Data.seq #[Value.type "Exception"] }
noncomputable def o12 (P : Params) : Obj := { cls := Value.type "builtin_function_or_method", data := Data.fields #[Value.builtin "type.__prepare__", Value.type "type"] }
noncomputable def o13 (P : Params) : Obj := { cls := Value.type "dict", data := Data.dict #[{ hash := PyData.keyHash P (Str.ofString "__module__"), key := Value.str (Str.ofString "__module__") 203, val := Value.str (Str.ofString "postkeep.errors") 194 }, { hash := PyData.keyHash P (Str.ofString "__qualname__"), key := Value.str (Str.ofString "__qualname__") 205, val := Value.str (Str.ofString "PostError") 204 }, { hash := PyData.keyHash P (Str.ofString "__firstlineno__"), key := Value.str (Str.ofString "__firstlineno__") 207, val := Value.int 5 206 }, { hash := PyData.keyHash P (Str.ofString "__init__"), key := Value.str (Str.ofString "__init__") 218, val := Value.ref 36 }, { hash := PyData.keyHash P (Str.ofString "told"), key := Value.str (Str.ofString "told") 225, val := Value.ref 43 }, { hash := PyData.keyHash P (Str.ofString "__static_attributes__"), key := Value.str (Str.ofString "__static_attributes__") 228, val := Value.ref 44 }] 6 }
noncomputable def o14 (P : Params) : Obj := { cls := Value.none, data := Data.fields #[Value.int 7 0, Value.int 4 0, Value.ref 35, Value.int 12 0, Value.int 4 0, Value.ref 42] }
noncomputable def o15 (P : Params) : Obj := { cls := Value.type "code", data := Data.fields #[Value.str (Str.ofString "PostError") 198, Value.str (Str.ofString "PostError") 199, Value.str (Str.ofString "/claim/cut.py") 200, Value.int 5 0, Value.int 0 0, Value.int 0 0, Value.int 0 0, Value.int 0 0, Value.ref 25, Value.bool false, Value.int 181 0, Value.ref 26, Value.none, Value.none, Value.none, Value.none, Value.int 201 0, Value.int 5 0, Value.str (Str.ofString "/claim/cut.py") 202] }
noncomputable def o16 (P : Params) : Obj := { cls := Value.type "frame", slots := #[some (Value.ref 27), some (Value.ref 3), some (Value.ref 24), none, some (Value.str (Str.ofString "postkeep.errors") 194), none, some (Value.ref 0)] }
noncomputable def o17 (P : Params) : Obj := { cls := Value.type "tuple", data := Data.seq #[Value.int (-1) 209] }
noncomputable def o18 (P : Params) : Obj := { cls := Value.type "tuple", data := Data.seq #[Value.str (Str.ofString "self") 213, Value.str (Str.ofString "what") 214, Value.str (Str.ofString "at") 215] }
noncomputable def o19 (P : Params) : Obj := { cls := Value.none, data := Data.func { name := Str.ofString "__init__", qualname := Str.ofString "PostError.__init__", params := a1, body := FuncBody.stmts b1, scope := c1, globals := 0, closure := [], defaults := Value.none, kwdefaults := Value.none } }
noncomputable def o20 (P : Params) : Obj := { cls := Value.type "code", data := Data.fields #[Value.str (Str.ofString "__init__") 210, Value.str (Str.ofString "PostError.__init__") 211, Value.str (Str.ofString "/claim/cut.py") 212, Value.int 7 0, Value.int 3 0, Value.int 0 0, Value.int 0 0, Value.int 3 0, Value.ref 30, Value.bool true, Value.int 181 0, Value.ref 31, Value.none, Value.ref 32, Value.ref 33, Value.ref 34, Value.int 216 0, Value.int 7 0, Value.str (Str.ofString "/claim/cut.py") 217] }
noncomputable def o21 (P : Params) : Obj := { cls := Value.type "function", data := Data.func { name := Str.ofString "__init__", qualname := Str.ofString "PostError.__init__", params := a1, body := FuncBody.stmts b1, scope := c1, globals := 3, closure := [], defaults := Value.ref 29, kwdefaults := Value.none, pyModule := Value.str (Str.ofString "postkeep.errors") 194, code := Value.ref 35 } }
noncomputable def o22 (P : Params) : Obj := { cls := Value.type "tuple", data := Data.seq #[Value.str (Str.ofString "self") 222] }
noncomputable def o23 (P : Params) : Obj := { cls := Value.none, data := Data.func { name := Str.ofString "told", qualname := Str.ofString "PostError.told", params := a2, body := FuncBody.stmts b2, scope := c12, globals := 0, closure := [], defaults := Value.none, kwdefaults := Value.none } }
noncomputable def o24 (P : Params) : Obj := { cls := Value.type "code", data := Data.fields #[Value.str (Str.ofString "told") 219, Value.str (Str.ofString "PostError.told") 220, Value.str (Str.ofString "/claim/cut.py") 221, Value.int 12 0, Value.int 1 0, Value.int 0 0, Value.int 0 0, Value.int 3 0, Value.ref 37, Value.bool true, Value.int 181 0, Value.ref 38, Value.none, Value.ref 39, Value.ref 40, Value.ref 41, Value.int 223 0, Value.int 12 0, Value.str (Str.ofString "/claim/cut.py") 224] }
noncomputable def o25 (P : Params) : Obj := { cls := Value.type "function", data := Data.func { name := Str.ofString "told", qualname := Str.ofString "PostError.told", params := a2, body := FuncBody.stmts b2, scope := c12, globals := 3, closure := [], defaults := Value.none, kwdefaults := Value.none, pyModule := Value.str (Str.ofString "postkeep.errors") 194, code := Value.ref 42 } }
noncomputable def o26 (P : Params) : Obj := { cls := Value.type "tuple", data := Data.seq #[Value.str (Str.ofString "at") 226, Value.str (Str.ofString "what") 227] }
noncomputable def o27 (P : Params) : Obj := { cls := Value.type "dict", data := Data.dict #[{ hash := PyData.keyHash P (Str.ofString "__module__"), key := Value.str (Str.ofString "__module__") 203, val := Value.str (Str.ofString "postkeep.errors") 194 }, { hash := PyData.keyHash P (Str.ofString "__firstlineno__"), key := Value.str (Str.ofString "__firstlineno__") 207, val := Value.int 5 206 }, { hash := PyData.keyHash P (Str.ofString "__init__"), key := Value.str (Str.ofString "__init__") 218, val := Value.ref 36 }, { hash := PyData.keyHash P (Str.ofString "told"), key := Value.str (Str.ofString "told") 225, val := Value.ref 43 }, { hash := PyData.keyHash P (Str.ofString "__static_attributes__"), key := Value.str (Str.ofString "__static_attributes__") 228, val := Value.ref 44 }, { hash := PyData.keyHash P (Str.ofString "__weakref__"), key := Value.str (Str.ofString "__weakref__") 230, val := Value.ref 47 }, { hash := PyData.keyHash P (Str.ofString "__doc__"), key := Value.str (Str.ofString "__doc__") 231, val := Value.none }] 3 }
noncomputable def o28 (P : Params) : Obj := { cls := Value.type "type", data := Data.cls { name := Str.ofString "PostError", bases := [Value.type "Exception"], mro := [Value.ref 46, Value.type "Exception", Value.type "BaseException", Value.type "object"], ns := 45, qualname := Str.ofString "PostError" }, slots := #[some (Value.ref 22), none, some (Value.str (Str.ofString "PostError") 196), some (Value.str (Str.ofString "PostError") 204), some (Value.builtin "Exception.__new__"), some (Value.bool true)] }
noncomputable def o29 (P : Params) : Obj := { cls := Value.type "getset_descriptor", data := Data.fields #[Value.str (Str.ofString "__weakref__") 229, Value.ref 46, Value.builtin "ExceptionGroup.__weakref__", Value.none] }
noncomputable def o30 (P : Params) : Obj := { cls := Value.type "super", data := Data.fields #[Value.ref 46, Value.ref 46, Value.ref 46] }
noncomputable def o31 (P : Params) : Obj := { cls := Value.type "builtin_function_or_method", data := Data.fields #[Value.builtin "object.__init_subclass__", Value.ref 46] }
noncomputable def o32 (P : Params) : Obj := { cls := Value.type "dict", data := Data.dict #[{ hash := PyData.keyHash P (Str.ofString "__name__"), key := Value.str (Str.ofString "__name__") 165, val := Value.str (Str.ofString "postkeep.errors") 194 }, { hash := PyData.keyHash P (Str.ofString "__doc__"), key := Value.str (Str.ofString "__doc__") 166, val := Value.none }, { hash := PyData.keyHash P (Str.ofString "__package__"), key := Value.str (Str.ofString "__package__") 167, val := Value.none }, { hash := PyData.keyHash P (Str.ofString "__loader__"), key := Value.str (Str.ofString "__loader__") 168, val := Value.builtin "__main__.__loader__#opaque" }, { hash := PyData.keyHash P (Str.ofString "__spec__"), key := Value.str (Str.ofString "__spec__") 169, val := Value.none }, { hash := PyData.keyHash P (Str.ofString "__annotations__"), key := Value.str (Str.ofString "__annotations__") 170, val := Value.ref 6 }, { hash := PyData.keyHash P (Str.ofString "__builtins__"), key := Value.str (Str.ofString "__builtins__") 171, val := Value.ref 4 }, { hash := PyData.keyHash P (Str.ofString "__file__"), key := Value.str (Str.ofString "__file__") 173, val := Value.str (Str.ofString "/claim/cut.py") 172 }, { hash := PyData.keyHash P (Str.ofString "__cached__"), key := Value.str (Str.ofString "__cached__") 174, val := Value.none }, { hash := PyData.keyHash P (Str.ofString "_wall"), key := Value.str (Str.ofString "_wall") 193, val := Value.ref 21 }, { hash := PyData.keyHash P (Str.ofString "PostError"), key := Value.str (Str.ofString "PostError") 235, val := Value.ref 46 }, { hash := PyData.keyHash P (Str.ofString "StoreFault"), key := Value.str (Str.ofString "StoreFault") 251, val := Value.ref 59 }] 12 }
noncomputable def o33 (P : Params) : Obj := { cls := Value.none, data := Data.fields #[Value.int 1 0, Value.int 0 0, Value.ref 20, Value.int 5 0, Value.int 0 0, Value.ref 27, Value.int 14 0, Value.int 0 0, Value.ref 55] }
noncomputable def o34 (P : Params) : Obj := { cls := Value.type "type", data := Data.cls { name := Str.ofString "PostError", bases := [Value.type "Exception"], mro := [Value.ref 46, Value.type "Exception", Value.type "BaseException", Value.type "object"], ns := 45, qualname := Str.ofString "PostError", subclasses := [Value.ref 59] }, slots := #[some (Value.ref 22), none, some (Value.str (Str.ofString "PostError") 196), some (Value.str (Str.ofString "PostError") 204), some (Value.builtin "Exception.__new__"), some (Value.bool true)] }
noncomputable def o35 (P : Params) : Obj := { cls := Value.type "tuple", data := Data.seq #[Value.ref 46] }
noncomputable def o36 (P : Params) : Obj := { cls := Value.type "dict", data := Data.dict #[{ hash := PyData.keyHash P (Str.ofString "__module__"), key := Value.str (Str.ofString "__module__") 243, val := Value.str (Str.ofString "postkeep.errors") 194 }, { hash := PyData.keyHash P (Str.ofString "__qualname__"), key := Value.str (Str.ofString "__qualname__") 245, val := Value.str (Str.ofString "StoreFault") 244 }, { hash := PyData.keyHash P (Str.ofString "__firstlineno__"), key := Value.str (Str.ofString "__firstlineno__") 247, val := Value.int 14 246 }, { hash := PyData.keyHash P (Str.ofString "__static_attributes__"), key := Value.str (Str.ofString "__static_attributes__") 248, val := Value.ref 57 }] 4 }
noncomputable def o37 (P : Params) : Obj := { cls := Value.type "code", data := Data.fields #[Value.str (Str.ofString "StoreFault") 238, Value.str (Str.ofString "StoreFault") 239, Value.str (Str.ofString "/claim/cut.py") 240, Value.int 14 0, Value.int 0 0, Value.int 0 0, Value.int 0 0, Value.int 0 0, Value.ref 53, Value.bool false, Value.int 181 0, Value.ref 54, Value.none, Value.none, Value.none, Value.none, Value.int 241 0, Value.int 14 0, Value.str (Str.ofString "/claim/cut.py") 242] }
noncomputable def o38 (P : Params) : Obj := { cls := Value.type "frame", slots := #[some (Value.ref 55), some (Value.ref 3), some (Value.ref 52), none, some (Value.str (Str.ofString "postkeep.errors") 194), none, some (Value.ref 0)] }
noncomputable def o39 (P : Params) : Obj := { cls := Value.type "dict", data := Data.dict #[{ hash := PyData.keyHash P (Str.ofString "__module__"), key := Value.str (Str.ofString "__module__") 243, val := Value.str (Str.ofString "postkeep.errors") 194 }, { hash := PyData.keyHash P (Str.ofString "__firstlineno__"), key := Value.str (Str.ofString "__firstlineno__") 247, val := Value.int 14 246 }, { hash := PyData.keyHash P (Str.ofString "__static_attributes__"), key := Value.str (Str.ofString "__static_attributes__") 248, val := Value.ref 57 }, { hash := PyData.keyHash P (Str.ofString "__doc__"), key := Value.str (Str.ofString "__doc__") 249, val := Value.none }] 2 }
noncomputable def o40 (P : Params) : Obj := { cls := Value.type "type", data := Data.cls { name := Str.ofString "StoreFault", bases := [Value.ref 46], mro := [Value.ref 59, Value.ref 46, Value.type "Exception", Value.type "BaseException", Value.type "object"], ns := 58, qualname := Str.ofString "StoreFault" }, slots := #[some (Value.ref 50), none, some (Value.str (Str.ofString "StoreFault") 236), some (Value.str (Str.ofString "StoreFault") 244), some (Value.builtin "Exception.__new__"), some (Value.bool true)] }
noncomputable def o41 (P : Params) : Obj := { cls := Value.type "super", data := Data.fields #[Value.ref 59, Value.ref 59, Value.ref 59] }
noncomputable def o42 (P : Params) : Obj := { cls := Value.type "builtin_function_or_method", data := Data.fields #[Value.builtin "object.__init_subclass__", Value.ref 59] }
noncomputable def o43 (P : Params) : Obj := { cls := Value.type "dict", data := Data.dict #[{ hash := PyData.keyHash P (Str.ofString "__name__"), key := Value.str (Str.ofString "__name__") 165, val := Value.str (Str.ofString "postkeep.desk") 268 }, { hash := PyData.keyHash P (Str.ofString "__doc__"), key := Value.str (Str.ofString "__doc__") 166, val := Value.none }, { hash := PyData.keyHash P (Str.ofString "__package__"), key := Value.str (Str.ofString "__package__") 167, val := Value.none }, { hash := PyData.keyHash P (Str.ofString "__loader__"), key := Value.str (Str.ofString "__loader__") 168, val := Value.builtin "__main__.__loader__#opaque" }, { hash := PyData.keyHash P (Str.ofString "__spec__"), key := Value.str (Str.ofString "__spec__") 169, val := Value.none }, { hash := PyData.keyHash P (Str.ofString "__annotations__"), key := Value.str (Str.ofString "__annotations__") 170, val := Value.ref 6 }, { hash := PyData.keyHash P (Str.ofString "__builtins__"), key := Value.str (Str.ofString "__builtins__") 171, val := Value.ref 4 }, { hash := PyData.keyHash P (Str.ofString "__file__"), key := Value.str (Str.ofString "__file__") 173, val := Value.str (Str.ofString "/claim/cut.py") 172 }, { hash := PyData.keyHash P (Str.ofString "__cached__"), key := Value.str (Str.ofString "__cached__") 174, val := Value.none }, { hash := PyData.keyHash P (Str.ofString "_wall"), key := Value.str (Str.ofString "_wall") 193, val := Value.ref 21 }, { hash := PyData.keyHash P (Str.ofString "PostError"), key := Value.str (Str.ofString "PostError") 235, val := Value.ref 46 }, { hash := PyData.keyHash P (Str.ofString "StoreFault"), key := Value.str (Str.ofString "StoreFault") 251, val := Value.ref 59 }, { hash := PyData.keyHash P (Str.ofString "DeskFault"), key := Value.str (Str.ofString "DeskFault") 267, val := Value.ref 71 }, { hash := PyData.keyHash P (Str.ofString "parts_between"), key := Value.str (Str.ofString "parts_between") 277, val := Value.ref 79 }, { hash := PyData.keyHash P (Str.ofString "whole_number"), key := Value.str (Str.ofString "whole_number") 283, val := Value.ref 84 }, { hash := PyData.keyHash P (Str.ofString "words_of"), key := Value.str (Str.ofString "words_of") 292, val := Value.ref 91 }, { hash := PyData.keyHash P (Str.ofString "letter_line"), key := Value.str (Str.ofString "letter_line") 301, val := Value.ref 98 }, { hash := PyData.keyHash P (Str.ofString "box_told"), key := Value.str (Str.ofString "box_told") 307, val := Value.ref 103 }, { hash := PyData.keyHash P (Str.ofString "letter_in"), key := Value.str (Str.ofString "letter_in") 316, val := Value.ref 110 }] 19 }
noncomputable def o44 (P : Params) : Obj := { cls := Value.none, data := Data.fields #[Value.int 1 0, Value.int 0 0, Value.ref 20, Value.int 5 0, Value.int 0 0, Value.ref 27, Value.int 14 0, Value.int 0 0, Value.ref 55, Value.int 16 0, Value.int 0 0, Value.ref 67, Value.int 19 0, Value.int 0 0, Value.ref 78, Value.int 22 0, Value.int 0 0, Value.ref 83, Value.int 26 0, Value.int 0 0, Value.ref 90, Value.int 31 0, Value.int 0 0, Value.ref 97, Value.int 34 0, Value.int 0 0, Value.ref 102, Value.int 37 0, Value.int 0 0, Value.ref 109] }
noncomputable def o45 (P : Params) : Obj := { cls := Value.type "type", data := Data.cls { name := Str.ofString "PostError", bases := [Value.type "Exception"], mro := [Value.ref 46, Value.type "Exception", Value.type "BaseException", Value.type "object"], ns := 45, qualname := Str.ofString "PostError", subclasses := [Value.ref 59, Value.ref 71] }, slots := #[some (Value.ref 22), none, some (Value.str (Str.ofString "PostError") 196), some (Value.str (Str.ofString "PostError") 204), some (Value.builtin "Exception.__new__"), some (Value.bool true)] }
noncomputable def o46 (P : Params) : Obj := { cls := Value.type "dict", data := Data.dict #[{ hash := PyData.keyHash P (Str.ofString "__module__"), key := Value.str (Str.ofString "__module__") 259, val := Value.str (Str.ofString "postkeep.errors") 194 }, { hash := PyData.keyHash P (Str.ofString "__qualname__"), key := Value.str (Str.ofString "__qualname__") 261, val := Value.str (Str.ofString "DeskFault") 260 }, { hash := PyData.keyHash P (Str.ofString "__firstlineno__"), key := Value.str (Str.ofString "__firstlineno__") 263, val := Value.int 16 262 }, { hash := PyData.keyHash P (Str.ofString "__static_attributes__"), key := Value.str (Str.ofString "__static_attributes__") 264, val := Value.ref 69 }] 4 }
noncomputable def o47 (P : Params) : Obj := { cls := Value.type "code", data := Data.fields #[Value.str (Str.ofString "DeskFault") 254, Value.str (Str.ofString "DeskFault") 255, Value.str (Str.ofString "/claim/cut.py") 256, Value.int 16 0, Value.int 0 0, Value.int 0 0, Value.int 0 0, Value.int 0 0, Value.ref 65, Value.bool false, Value.int 181 0, Value.ref 66, Value.none, Value.none, Value.none, Value.none, Value.int 257 0, Value.int 16 0, Value.str (Str.ofString "/claim/cut.py") 258] }
noncomputable def o48 (P : Params) : Obj := { cls := Value.type "frame", slots := #[some (Value.ref 67), some (Value.ref 3), some (Value.ref 64), none, some (Value.str (Str.ofString "postkeep.errors") 194), none, some (Value.ref 0)] }
noncomputable def o49 (P : Params) : Obj := { cls := Value.type "dict", data := Data.dict #[{ hash := PyData.keyHash P (Str.ofString "__module__"), key := Value.str (Str.ofString "__module__") 259, val := Value.str (Str.ofString "postkeep.errors") 194 }, { hash := PyData.keyHash P (Str.ofString "__firstlineno__"), key := Value.str (Str.ofString "__firstlineno__") 263, val := Value.int 16 262 }, { hash := PyData.keyHash P (Str.ofString "__static_attributes__"), key := Value.str (Str.ofString "__static_attributes__") 264, val := Value.ref 69 }, { hash := PyData.keyHash P (Str.ofString "__doc__"), key := Value.str (Str.ofString "__doc__") 265, val := Value.none }] 2 }
noncomputable def o50 (P : Params) : Obj := { cls := Value.type "type", data := Data.cls { name := Str.ofString "DeskFault", bases := [Value.ref 46], mro := [Value.ref 71, Value.ref 46, Value.type "Exception", Value.type "BaseException", Value.type "object"], ns := 70, qualname := Str.ofString "DeskFault" }, slots := #[some (Value.ref 62), none, some (Value.str (Str.ofString "DeskFault") 252), some (Value.str (Str.ofString "DeskFault") 260), some (Value.builtin "Exception.__new__"), some (Value.bool true)] }
noncomputable def o51 (P : Params) : Obj := { cls := Value.type "super", data := Data.fields #[Value.ref 71, Value.ref 71, Value.ref 71] }
noncomputable def o52 (P : Params) : Obj := { cls := Value.type "builtin_function_or_method", data := Data.fields #[Value.builtin "object.__init_subclass__", Value.ref 71] }
noncomputable def o53 (P : Params) : Obj := { cls := Value.type "tuple", data := Data.seq #[Value.int (-1) 271] }
noncomputable def o54 (P : Params) : Obj := { cls := Value.none, data := Data.func { name := Str.ofString "parts_between", qualname := Str.ofString "parts_between", params := a3, body := FuncBody.stmts b3, scope := c3, globals := 0, closure := [], defaults := Value.none, kwdefaults := Value.none } }
noncomputable def o55 (P : Params) : Obj := { cls := Value.type "code", data := Data.fields #[Value.str (Str.ofString "parts_between") 272, Value.str (Str.ofString "parts_between") 273, Value.str (Str.ofString "/claim/cut.py") 274, Value.int 19 0, Value.int 3 0, Value.int 0 0, Value.int 0 0, Value.int 3 0, Value.ref 75, Value.bool true, Value.int 181 0, Value.ref 76, Value.none, Value.none, Value.none, Value.ref 77, Value.int 275 0, Value.int 19 0, Value.str (Str.ofString "/claim/cut.py") 276] }
noncomputable def o56 (P : Params) : Obj := { cls := Value.type "function", data := Data.func { name := Str.ofString "parts_between", qualname := Str.ofString "parts_between", params := a3, body := FuncBody.stmts b3, scope := c3, globals := 3, closure := [], defaults := Value.ref 74, kwdefaults := Value.none, pyModule := Value.str (Str.ofString "postkeep.desk") 268, code := Value.ref 78 } }
noncomputable def o57 (P : Params) : Obj := { cls := Value.none, data := Data.func { name := Str.ofString "whole_number", qualname := Str.ofString "whole_number", params := a4, body := FuncBody.stmts b4, scope := c4, globals := 0, closure := [], defaults := Value.none, kwdefaults := Value.none } }
noncomputable def o58 (P : Params) : Obj := { cls := Value.type "code", data := Data.fields #[Value.str (Str.ofString "whole_number") 278, Value.str (Str.ofString "whole_number") 279, Value.str (Str.ofString "/claim/cut.py") 280, Value.int 22 0, Value.int 1 0, Value.int 0 0, Value.int 0 0, Value.int 3 0, Value.ref 80, Value.bool true, Value.int 181 0, Value.ref 81, Value.none, Value.none, Value.none, Value.ref 82, Value.int 281 0, Value.int 22 0, Value.str (Str.ofString "/claim/cut.py") 282] }
noncomputable def o59 (P : Params) : Obj := { cls := Value.type "function", data := Data.func { name := Str.ofString "whole_number", qualname := Str.ofString "whole_number", params := a4, body := FuncBody.stmts b4, scope := c4, globals := 3, closure := [], defaults := Value.none, kwdefaults := Value.none, pyModule := Value.str (Str.ofString "postkeep.desk") 268, code := Value.ref 83 } }
noncomputable def o60 (P : Params) : Obj := { cls := Value.type "tuple", data := Data.seq #[Value.str (Str.ofString "rest") 287, Value.str (Str.ofString "count") 288, Value.str (Str.ofString "words") 289] }
noncomputable def o61 (P : Params) : Obj := { cls := Value.none, data := Data.func { name := Str.ofString "words_of", qualname := Str.ofString "words_of", params := a5, body := FuncBody.stmts b5, scope := c5, globals := 0, closure := [], defaults := Value.none, kwdefaults := Value.none } }
noncomputable def o62 (P : Params) : Obj := { cls := Value.type "code", data := Data.fields #[Value.str (Str.ofString "words_of") 284, Value.str (Str.ofString "words_of") 285, Value.str (Str.ofString "/claim/cut.py") 286, Value.int 26 0, Value.int 2 0, Value.int 0 0, Value.int 0 0, Value.int 3 0, Value.ref 85, Value.bool true, Value.int 181 0, Value.ref 86, Value.none, Value.ref 87, Value.ref 88, Value.ref 89, Value.int 290 0, Value.int 26 0, Value.str (Str.ofString "/claim/cut.py") 291] }
noncomputable def o63 (P : Params) : Obj := { cls := Value.type "function", data := Data.func { name := Str.ofString "words_of", qualname := Str.ofString "words_of", params := a5, body := FuncBody.stmts b5, scope := c5, globals := 3, closure := [], defaults := Value.none, kwdefaults := Value.none, pyModule := Value.str (Str.ofString "postkeep.desk") 268, code := Value.ref 90 } }
noncomputable def o64 (P : Params) : Obj := { cls := Value.type "tuple", data := Data.seq #[Value.str (Str.ofString "number") 296, Value.str (Str.ofString "letter") 297, Value.str (Str.ofString "words") 298] }
noncomputable def o65 (P : Params) : Obj := { cls := Value.none, data := Data.func { name := Str.ofString "letter_line", qualname := Str.ofString "letter_line", params := a6, body := FuncBody.stmts b6, scope := c6, globals := 0, closure := [], defaults := Value.none, kwdefaults := Value.none } }
noncomputable def o66 (P : Params) : Obj := { cls := Value.type "code", data := Data.fields #[Value.str (Str.ofString "letter_line") 293, Value.str (Str.ofString "letter_line") 294, Value.str (Str.ofString "/claim/cut.py") 295, Value.int 31 0, Value.int 2 0, Value.int 0 0, Value.int 0 0, Value.int 3 0, Value.ref 92, Value.bool true, Value.int 181 0, Value.ref 93, Value.none, Value.ref 94, Value.ref 95, Value.ref 96, Value.int 299 0, Value.int 31 0, Value.str (Str.ofString "/claim/cut.py") 300] }
noncomputable def o67 (P : Params) : Obj := { cls := Value.type "function", data := Data.func { name := Str.ofString "letter_line", qualname := Str.ofString "letter_line", params := a6, body := FuncBody.stmts b6, scope := c6, globals := 3, closure := [], defaults := Value.none, kwdefaults := Value.none, pyModule := Value.str (Str.ofString "postkeep.desk") 268, code := Value.ref 97 } }
noncomputable def o68 (P : Params) : Obj := { cls := Value.none, data := Data.func { name := Str.ofString "box_told", qualname := Str.ofString "box_told", params := a7, body := FuncBody.stmts b7, scope := c7, globals := 0, closure := [], defaults := Value.none, kwdefaults := Value.none } }
noncomputable def o69 (P : Params) : Obj := { cls := Value.type "code", data := Data.fields #[Value.str (Str.ofString "box_told") 302, Value.str (Str.ofString "box_told") 303, Value.str (Str.ofString "/claim/cut.py") 304, Value.int 34 0, Value.int 1 0, Value.int 0 0, Value.int 0 0, Value.int 3 0, Value.ref 99, Value.bool true, Value.int 181 0, Value.ref 100, Value.none, Value.none, Value.none, Value.ref 101, Value.int 305 0, Value.int 34 0, Value.str (Str.ofString "/claim/cut.py") 306] }
noncomputable def o70 (P : Params) : Obj := { cls := Value.type "function", data := Data.func { name := Str.ofString "box_told", qualname := Str.ofString "box_told", params := a7, body := FuncBody.stmts b7, scope := c7, globals := 3, closure := [], defaults := Value.none, kwdefaults := Value.none, pyModule := Value.str (Str.ofString "postkeep.desk") 268, code := Value.ref 102 } }
noncomputable def o71 (P : Params) : Obj := { cls := Value.type "tuple", data := Data.seq #[Value.str (Str.ofString "box") 311, Value.str (Str.ofString "text") 312, Value.str (Str.ofString "letter") 313] }
noncomputable def o72 (P : Params) : Obj := { cls := Value.none, data := Data.func { name := Str.ofString "letter_in", qualname := Str.ofString "letter_in", params := a8, body := FuncBody.stmts b8, scope := c8, globals := 0, closure := [], defaults := Value.none, kwdefaults := Value.none } }
noncomputable def o73 (P : Params) : Obj := { cls := Value.type "code", data := Data.fields #[Value.str (Str.ofString "letter_in") 308, Value.str (Str.ofString "letter_in") 309, Value.str (Str.ofString "/claim/cut.py") 310, Value.int 37 0, Value.int 2 0, Value.int 0 0, Value.int 0 0, Value.int 3 0, Value.ref 104, Value.bool true, Value.int 181 0, Value.ref 105, Value.none, Value.ref 106, Value.ref 107, Value.ref 108, Value.int 314 0, Value.int 37 0, Value.str (Str.ofString "/claim/cut.py") 315] }
noncomputable def o74 (P : Params) : Obj := { cls := Value.type "function", data := Data.func { name := Str.ofString "letter_in", qualname := Str.ofString "letter_in", params := a8, body := FuncBody.stmts b8, scope := c8, globals := 3, closure := [], defaults := Value.none, kwdefaults := Value.none, pyModule := Value.str (Str.ofString "postkeep.desk") 268, code := Value.ref 109 } }
noncomputable def o75 (P : Params) : Obj := { cls := Value.type "dict", data := Data.dict #[{ hash := PyData.keyHash P (Str.ofString "__name__"), key := Value.str (Str.ofString "__name__") 165, val := Value.str (Str.ofString "postkeep.boxes") 323 }, { hash := PyData.keyHash P (Str.ofString "__doc__"), key := Value.str (Str.ofString "__doc__") 166, val := Value.none }, { hash := PyData.keyHash P (Str.ofString "__package__"), key := Value.str (Str.ofString "__package__") 167, val := Value.none }, { hash := PyData.keyHash P (Str.ofString "__loader__"), key := Value.str (Str.ofString "__loader__") 168, val := Value.builtin "__main__.__loader__#opaque" }, { hash := PyData.keyHash P (Str.ofString "__spec__"), key := Value.str (Str.ofString "__spec__") 169, val := Value.none }, { hash := PyData.keyHash P (Str.ofString "__annotations__"), key := Value.str (Str.ofString "__annotations__") 170, val := Value.ref 6 }, { hash := PyData.keyHash P (Str.ofString "__builtins__"), key := Value.str (Str.ofString "__builtins__") 171, val := Value.ref 4 }, { hash := PyData.keyHash P (Str.ofString "__file__"), key := Value.str (Str.ofString "__file__") 173, val := Value.str (Str.ofString "/claim/cut.py") 172 }, { hash := PyData.keyHash P (Str.ofString "__cached__"), key := Value.str (Str.ofString "__cached__") 174, val := Value.none }, { hash := PyData.keyHash P (Str.ofString "_wall"), key := Value.str (Str.ofString "_wall") 193, val := Value.ref 21 }, { hash := PyData.keyHash P (Str.ofString "PostError"), key := Value.str (Str.ofString "PostError") 235, val := Value.ref 46 }, { hash := PyData.keyHash P (Str.ofString "StoreFault"), key := Value.str (Str.ofString "StoreFault") 251, val := Value.ref 59 }, { hash := PyData.keyHash P (Str.ofString "DeskFault"), key := Value.str (Str.ofString "DeskFault") 267, val := Value.ref 71 }, { hash := PyData.keyHash P (Str.ofString "parts_between"), key := Value.str (Str.ofString "parts_between") 277, val := Value.ref 79 }, { hash := PyData.keyHash P (Str.ofString "whole_number"), key := Value.str (Str.ofString "whole_number") 283, val := Value.ref 84 }, { hash := PyData.keyHash P (Str.ofString "words_of"), key := Value.str (Str.ofString "words_of") 292, val := Value.ref 91 }, { hash := PyData.keyHash P (Str.ofString "letter_line"), key := Value.str (Str.ofString "letter_line") 301, val := Value.ref 98 }, { hash := PyData.keyHash P (Str.ofString "box_told"), key := Value.str (Str.ofString "box_told") 307, val := Value.ref 103 }, { hash := PyData.keyHash P (Str.ofString "letter_in"), key := Value.str (Str.ofString "letter_in") 316, val := Value.ref 110 }, { hash := PyData.keyHash P (Str.ofString "numbers_told"), key := Value.str (Str.ofString "numbers_told") 322, val := Value.ref 115 }, { hash := PyData.keyHash P (Str.ofString "Letter"), key := Value.str (Str.ofString "Letter") 376, val := Value.ref 146 }] 21 }
noncomputable def o76 (P : Params) : Obj := { cls := Value.none, data := Data.fields #[Value.int 1 0, Value.int 0 0, Value.ref 20, Value.int 5 0, Value.int 0 0, Value.ref 27, Value.int 14 0, Value.int 0 0, Value.ref 55, Value.int 16 0, Value.int 0 0, Value.ref 67, Value.int 19 0, Value.int 0 0, Value.ref 78, Value.int 22 0, Value.int 0 0, Value.ref 83, Value.int 26 0, Value.int 0 0, Value.ref 90, Value.int 31 0, Value.int 0 0, Value.ref 97, Value.int 34 0, Value.int 0 0, Value.ref 102, Value.int 37 0, Value.int 0 0, Value.ref 109, Value.int 42 0, Value.int 0 0, Value.ref 114, Value.int 45 0, Value.int 0 0, Value.ref 121] }
noncomputable def o77 (P : Params) : Obj := { cls := Value.none, data := Data.func { name := Str.ofString "numbers_told", qualname := Str.ofString "numbers_told", params := a9, body := FuncBody.stmts b9, scope := c9, globals := 0, closure := [], defaults := Value.none, kwdefaults := Value.none } }
noncomputable def o78 (P : Params) : Obj := { cls := Value.type "code", data := Data.fields #[Value.str (Str.ofString "numbers_told") 317, Value.str (Str.ofString "numbers_told") 318, Value.str (Str.ofString "/claim/cut.py") 319, Value.int 42 0, Value.int 1 0, Value.int 0 0, Value.int 0 0, Value.int 3 0, Value.ref 111, Value.bool true, Value.int 181 0, Value.ref 112, Value.none, Value.none, Value.none, Value.ref 113, Value.int 320 0, Value.int 42 0, Value.str (Str.ofString "/claim/cut.py") 321] }
noncomputable def o79 (P : Params) : Obj := { cls := Value.type "function", data := Data.func { name := Str.ofString "numbers_told", qualname := Str.ofString "numbers_told", params := a9, body := FuncBody.stmts b9, scope := c9, globals := 3, closure := [], defaults := Value.none, kwdefaults := Value.none, pyModule := Value.str (Str.ofString "postkeep.desk") 268, code := Value.ref 114 } }
noncomputable def o80 (P : Params) : Obj := { cls := Value.type "dict", data := Data.dict #[{ hash := PyData.keyHash P (Str.ofString "__module__"), key := Value.str (Str.ofString "__module__") 332, val := Value.str (Str.ofString "postkeep.boxes") 323 }, { hash := PyData.keyHash P (Str.ofString "__qualname__"), key := Value.str (Str.ofString "__qualname__") 334, val := Value.str (Str.ofString "Letter") 333 }, { hash := PyData.keyHash P (Str.ofString "__firstlineno__"), key := Value.str (Str.ofString "__firstlineno__") 336, val := Value.int 45 335 }, { hash := PyData.keyHash P (Str.ofString "__init__"), key := Value.str (Str.ofString "__init__") 348, val := Value.ref 129 }, { hash := PyData.keyHash P (Str.ofString "has"), key := Value.str (Str.ofString "has") 356, val := Value.ref 136 }, { hash := PyData.keyHash P (Str.ofString "told"), key := Value.str (Str.ofString "told") 363, val := Value.ref 143 }, { hash := PyData.keyHash P (Str.ofString "__static_attributes__"), key := Value.str (Str.ofString "__static_attributes__") 369, val := Value.ref 144 }] 7 }
noncomputable def o81 (P : Params) : Obj := { cls := Value.none, data := Data.fields #[Value.int 47 0, Value.int 4 0, Value.ref 128, Value.int 54 0, Value.int 4 0, Value.ref 135, Value.int 57 0, Value.int 4 0, Value.ref 142] }
noncomputable def o82 (P : Params) : Obj := { cls := Value.type "code", data := Data.fields #[Value.str (Str.ofString "Letter") 327, Value.str (Str.ofString "Letter") 328, Value.str (Str.ofString "/claim/cut.py") 329, Value.int 45 0, Value.int 0 0, Value.int 0 0, Value.int 0 0, Value.int 0 0, Value.ref 119, Value.bool false, Value.int 181 0, Value.ref 120, Value.none, Value.none, Value.none, Value.none, Value.int 330 0, Value.int 45 0, Value.str (Str.ofString "/claim/cut.py") 331] }
noncomputable def o83 (P : Params) : Obj := { cls := Value.type "frame", slots := #[some (Value.ref 121), some (Value.ref 3), some (Value.ref 118), none, some (Value.str (Str.ofString "postkeep.boxes") 323), none, some (Value.ref 0)] }
noncomputable def o84 (P : Params) : Obj := { cls := Value.type "tuple", data := Data.seq #[Value.str (Str.ofString "self") 340, Value.str (Str.ofString "uid") 341, Value.str (Str.ofString "octets") 342, Value.str (Str.ofString "flags") 343, Value.str (Str.ofString "instant") 344, Value.str (Str.ofString "modseq") 345] }
noncomputable def o85 (P : Params) : Obj := { cls := Value.none, data := Data.func { name := Str.ofString "__init__", qualname := Str.ofString "Letter.__init__", params := a10, body := FuncBody.stmts b10, scope := c10, globals := 0, closure := [], defaults := Value.none, kwdefaults := Value.none } }
noncomputable def o86 (P : Params) : Obj := { cls := Value.type "code", data := Data.fields #[Value.str (Str.ofString "__init__") 337, Value.str (Str.ofString "Letter.__init__") 338, Value.str (Str.ofString "/claim/cut.py") 339, Value.int 47 0, Value.int 6 0, Value.int 0 0, Value.int 0 0, Value.int 3 0, Value.ref 123, Value.bool true, Value.int 181 0, Value.ref 124, Value.none, Value.ref 125, Value.ref 126, Value.ref 127, Value.int 346 0, Value.int 47 0, Value.str (Str.ofString "/claim/cut.py") 347] }
noncomputable def o87 (P : Params) : Obj := { cls := Value.type "function", data := Data.func { name := Str.ofString "__init__", qualname := Str.ofString "Letter.__init__", params := a10, body := FuncBody.stmts b10, scope := c10, globals := 3, closure := [], defaults := Value.none, kwdefaults := Value.none, pyModule := Value.str (Str.ofString "postkeep.boxes") 323, code := Value.ref 128 } }
noncomputable def o88 (P : Params) : Obj := { cls := Value.type "tuple", data := Data.seq #[Value.str (Str.ofString "self") 352, Value.str (Str.ofString "name") 353] }
noncomputable def o89 (P : Params) : Obj := { cls := Value.none, data := Data.func { name := Str.ofString "has", qualname := Str.ofString "Letter.has", params := a11, body := FuncBody.stmts b11, scope := c22, globals := 0, closure := [], defaults := Value.none, kwdefaults := Value.none } }
noncomputable def o90 (P : Params) : Obj := { cls := Value.type "code", data := Data.fields #[Value.str (Str.ofString "has") 349, Value.str (Str.ofString "Letter.has") 350, Value.str (Str.ofString "/claim/cut.py") 351, Value.int 54 0, Value.int 2 0, Value.int 0 0, Value.int 0 0, Value.int 3 0, Value.ref 130, Value.bool true, Value.int 181 0, Value.ref 131, Value.none, Value.ref 132, Value.ref 133, Value.ref 134, Value.int 354 0, Value.int 54 0, Value.str (Str.ofString "/claim/cut.py") 355] }
noncomputable def o91 (P : Params) : Obj := { cls := Value.type "function", data := Data.func { name := Str.ofString "has", qualname := Str.ofString "Letter.has", params := a11, body := FuncBody.stmts b11, scope := c22, globals := 3, closure := [], defaults := Value.none, kwdefaults := Value.none, pyModule := Value.str (Str.ofString "postkeep.boxes") 323, code := Value.ref 135 } }
noncomputable def o92 (P : Params) : Obj := { cls := Value.type "tuple", data := Data.seq #[Value.str (Str.ofString "self") 360] }
noncomputable def o93 (P : Params) : Obj := { cls := Value.none, data := Data.func { name := Str.ofString "told", qualname := Str.ofString "Letter.told", params := a12, body := FuncBody.stmts b12, scope := c12, globals := 0, closure := [], defaults := Value.none, kwdefaults := Value.none } }
noncomputable def o94 (P : Params) : Obj := { cls := Value.type "code", data := Data.fields #[Value.str (Str.ofString "told") 357, Value.str (Str.ofString "Letter.told") 358, Value.str (Str.ofString "/claim/cut.py") 359, Value.int 57 0, Value.int 1 0, Value.int 0 0, Value.int 0 0, Value.int 3 0, Value.ref 137, Value.bool true, Value.int 181 0, Value.ref 138, Value.none, Value.ref 139, Value.ref 140, Value.ref 141, Value.int 361 0, Value.int 57 0, Value.str (Str.ofString "/claim/cut.py") 362] }
noncomputable def o95 (P : Params) : Obj := { cls := Value.type "function", data := Data.func { name := Str.ofString "told", qualname := Str.ofString "Letter.told", params := a12, body := FuncBody.stmts b12, scope := c12, globals := 3, closure := [], defaults := Value.none, kwdefaults := Value.none, pyModule := Value.str (Str.ofString "postkeep.boxes") 323, code := Value.ref 142 } }
noncomputable def o96 (P : Params) : Obj := { cls := Value.type "tuple", data := Data.seq #[Value.str (Str.ofString "flags") 364, Value.str (Str.ofString "instant") 365, Value.str (Str.ofString "modseq") 366, Value.str (Str.ofString "octets") 367, Value.str (Str.ofString "uid") 368] }
noncomputable def o97 (P : Params) : Obj := { cls := Value.type "dict", data := Data.dict #[{ hash := PyData.keyHash P (Str.ofString "__module__"), key := Value.str (Str.ofString "__module__") 332, val := Value.str (Str.ofString "postkeep.boxes") 323 }, { hash := PyData.keyHash P (Str.ofString "__firstlineno__"), key := Value.str (Str.ofString "__firstlineno__") 336, val := Value.int 45 335 }, { hash := PyData.keyHash P (Str.ofString "__init__"), key := Value.str (Str.ofString "__init__") 348, val := Value.ref 129 }, { hash := PyData.keyHash P (Str.ofString "has"), key := Value.str (Str.ofString "has") 356, val := Value.ref 136 }, { hash := PyData.keyHash P (Str.ofString "told"), key := Value.str (Str.ofString "told") 363, val := Value.ref 143 }, { hash := PyData.keyHash P (Str.ofString "__static_attributes__"), key := Value.str (Str.ofString "__static_attributes__") 369, val := Value.ref 144 }, { hash := PyData.keyHash P (Str.ofString "__dict__"), key := Value.str (Str.ofString "__dict__") 371, val := Value.ref 147 }, { hash := PyData.keyHash P (Str.ofString "__weakref__"), key := Value.str (Str.ofString "__weakref__") 373, val := Value.ref 148 }, { hash := PyData.keyHash P (Str.ofString "__doc__"), key := Value.str (Str.ofString "__doc__") 374, val := Value.none }] 4 }
noncomputable def o98 (P : Params) : Obj := { cls := Value.type "type", data := Data.cls { name := Str.ofString "Letter", bases := [Value.type "object"], mro := [Value.ref 146, Value.type "object"], ns := 145, qualname := Str.ofString "Letter" }, slots := #[none, none, some (Value.str (Str.ofString "Letter") 325), some (Value.str (Str.ofString "Letter") 333), some (Value.builtin "object.__new__"), some (Value.bool true)] }
noncomputable def o99 (P : Params) : Obj := { cls := Value.type "getset_descriptor", data := Data.fields #[Value.str (Str.ofString "__dict__") 370, Value.ref 146, Value.builtin "function.__dict__", Value.builtin "function.__dict__#set"] }
noncomputable def o100 (P : Params) : Obj := { cls := Value.type "getset_descriptor", data := Data.fields #[Value.str (Str.ofString "__weakref__") 372, Value.ref 146, Value.builtin "ExceptionGroup.__weakref__", Value.none] }
noncomputable def o101 (P : Params) : Obj := { cls := Value.type "super", data := Data.fields #[Value.ref 146, Value.ref 146, Value.ref 146] }
noncomputable def o102 (P : Params) : Obj := { cls := Value.type "builtin_function_or_method", data := Data.fields #[Value.builtin "object.__init_subclass__", Value.ref 146] }
noncomputable def o103 (P : Params) : Obj := { cls := Value.type "dict", data := Data.dict #[{ hash := PyData.keyHash P (Str.ofString "__name__"), key := Value.str (Str.ofString "__name__") 165, val := Value.str (Str.ofString "postkeep.names") 453 }, { hash := PyData.keyHash P (Str.ofString "__doc__"), key := Value.str (Str.ofString "__doc__") 166, val := Value.none }, { hash := PyData.keyHash P (Str.ofString "__package__"), key := Value.str (Str.ofString "__package__") 167, val := Value.none }, { hash := PyData.keyHash P (Str.ofString "__loader__"), key := Value.str (Str.ofString "__loader__") 168, val := Value.builtin "__main__.__loader__#opaque" }, { hash := PyData.keyHash P (Str.ofString "__spec__"), key := Value.str (Str.ofString "__spec__") 169, val := Value.none }, { hash := PyData.keyHash P (Str.ofString "__annotations__"), key := Value.str (Str.ofString "__annotations__") 170, val := Value.ref 6 }, { hash := PyData.keyHash P (Str.ofString "__builtins__"), key := Value.str (Str.ofString "__builtins__") 171, val := Value.ref 4 }, { hash := PyData.keyHash P (Str.ofString "__file__"), key := Value.str (Str.ofString "__file__") 173, val := Value.str (Str.ofString "/claim/cut.py") 172 }, { hash := PyData.keyHash P (Str.ofString "__cached__"), key := Value.str (Str.ofString "__cached__") 174, val := Value.none }, { hash := PyData.keyHash P (Str.ofString "_wall"), key := Value.str (Str.ofString "_wall") 193, val := Value.ref 21 }, { hash := PyData.keyHash P (Str.ofString "PostError"), key := Value.str (Str.ofString "PostError") 235, val := Value.ref 46 }, { hash := PyData.keyHash P (Str.ofString "StoreFault"), key := Value.str (Str.ofString "StoreFault") 251, val := Value.ref 59 }, { hash := PyData.keyHash P (Str.ofString "DeskFault"), key := Value.str (Str.ofString "DeskFault") 267, val := Value.ref 71 }, { hash := PyData.keyHash P (Str.ofString "parts_between"), key := Value.str (Str.ofString "parts_between") 277, val := Value.ref 79 }, { hash := PyData.keyHash P (Str.ofString "whole_number"), key := Value.str (Str.ofString "whole_number") 283, val := Value.ref 84 }, { hash := PyData.keyHash P (Str.ofString "words_of"), key := Value.str (Str.ofString "words_of") 292, val := Value.ref 91 }, { hash := PyData.keyHash P (Str.ofString "letter_line"), key := Value.str (Str.ofString "letter_line") 301, val := Value.ref 98 }, { hash := PyData.keyHash P (Str.ofString "box_told"), key := Value.str (Str.ofString "box_told") 307, val := Value.ref 103 }, { hash := PyData.keyHash P (Str.ofString "letter_in"), key := Value.str (Str.ofString "letter_in") 316, val := Value.ref 110 }, { hash := PyData.keyHash P (Str.ofString "numbers_told"), key := Value.str (Str.ofString "numbers_told") 322, val := Value.ref 115 }, { hash := PyData.keyHash P (Str.ofString "Letter"), key := Value.str (Str.ofString "Letter") 376, val := Value.ref 146 }, { hash := PyData.keyHash P (Str.ofString "Box"), key := Value.str (Str.ofString "Box") 433, val := Value.ref 184 }, { hash := PyData.keyHash P (Str.ofString "place_of"), key := Value.str (Str.ofString "place_of") 444, val := Value.ref 195 }, { hash := PyData.keyHash P (Str.ofString "upper_text"), key := Value.str (Str.ofString "upper_text") 452, val := Value.ref 200 }] 24 }
noncomputable def o104 (P : Params) : Obj := { cls := Value.none, data := Data.fields #[Value.int 1 0, Value.int 0 0, Value.ref 20, Value.int 5 0, Value.int 0 0, Value.ref 27, Value.int 14 0, Value.int 0 0, Value.ref 55, Value.int 16 0, Value.int 0 0, Value.ref 67, Value.int 19 0, Value.int 0 0, Value.ref 78, Value.int 22 0, Value.int 0 0, Value.ref 83, Value.int 26 0, Value.int 0 0, Value.ref 90, Value.int 31 0, Value.int 0 0, Value.ref 97, Value.int 34 0, Value.int 0 0, Value.ref 102, Value.int 37 0, Value.int 0 0, Value.ref 109, Value.int 42 0, Value.int 0 0, Value.ref 114, Value.int 45 0, Value.int 0 0, Value.ref 121, Value.int 59 0, Value.int 0 0, Value.ref 156, Value.int 80 0, Value.int 0 0, Value.ref 194, Value.int 92 0, Value.int 0 0, Value.ref 199] }
noncomputable def o105 (P : Params) : Obj := { cls := Value.type "dict", data := Data.dict #[{ hash := PyData.keyHash P (Str.ofString "__module__"), key := Value.str (Str.ofString "__module__") 384, val := Value.str (Str.ofString "postkeep.boxes") 323 }, { hash := PyData.keyHash P (Str.ofString "__qualname__"), key := Value.str (Str.ofString "__qualname__") 386, val := Value.str (Str.ofString "Box") 385 }, { hash := PyData.keyHash P (Str.ofString "__firstlineno__"), key := Value.str (Str.ofString "__firstlineno__") 388, val := Value.int 59 387 }, { hash := PyData.keyHash P (Str.ofString "__init__"), key := Value.str (Str.ofString "__init__") 397, val := Value.ref 164 }, { hash := PyData.keyHash P (Str.ofString "letter"), key := Value.str (Str.ofString "letter") 406, val := Value.ref 171 }, { hash := PyData.keyHash P (Str.ofString "uids"), key := Value.str (Str.ofString "uids") 412, val := Value.ref 176 }, { hash := PyData.keyHash P (Str.ofString "told"), key := Value.str (Str.ofString "told") 418, val := Value.ref 181 }, { hash := PyData.keyHash P (Str.ofString "__static_attributes__"), key := Value.str (Str.ofString "__static_attributes__") 426, val := Value.ref 182 }] 8 }
noncomputable def o106 (P : Params) : Obj := { cls := Value.none, data := Data.fields #[Value.int 61 0, Value.int 4 0, Value.ref 163, Value.int 70 0, Value.int 4 0, Value.ref 170, Value.int 74 0, Value.int 4 0, Value.ref 175, Value.int 77 0, Value.int 4 0, Value.ref 180] }
noncomputable def o107 (P : Params) : Obj := { cls := Value.type "code", data := Data.fields #[Value.str (Str.ofString "Box") 379, Value.str (Str.ofString "Box") 380, Value.str (Str.ofString "/claim/cut.py") 381, Value.int 59 0, Value.int 0 0, Value.int 0 0, Value.int 0 0, Value.int 0 0, Value.ref 154, Value.bool false, Value.int 181 0, Value.ref 155, Value.none, Value.none, Value.none, Value.none, Value.int 382 0, Value.int 59 0, Value.str (Str.ofString "/claim/cut.py") 383] }
noncomputable def o108 (P : Params) : Obj := { cls := Value.type "frame", slots := #[some (Value.ref 156), some (Value.ref 3), some (Value.ref 153), none, some (Value.str (Str.ofString "postkeep.boxes") 323), none, some (Value.ref 0)] }
noncomputable def o109 (P : Params) : Obj := { cls := Value.type "tuple", data := Data.seq #[Value.str (Str.ofString "self") 392, Value.str (Str.ofString "name") 393, Value.str (Str.ofString "validity") 394] }
noncomputable def o110 (P : Params) : Obj := { cls := Value.none, data := Data.func { name := Str.ofString "__init__", qualname := Str.ofString "Box.__init__", params := a13, body := FuncBody.stmts b13, scope := c13, globals := 0, closure := [], defaults := Value.none, kwdefaults := Value.none } }
noncomputable def o111 (P : Params) : Obj := { cls := Value.type "code", data := Data.fields #[Value.str (Str.ofString "__init__") 389, Value.str (Str.ofString "Box.__init__") 390, Value.str (Str.ofString "/claim/cut.py") 391, Value.int 61 0, Value.int 3 0, Value.int 0 0, Value.int 0 0, Value.int 3 0, Value.ref 158, Value.bool true, Value.int 181 0, Value.ref 159, Value.none, Value.ref 160, Value.ref 161, Value.ref 162, Value.int 395 0, Value.int 61 0, Value.str (Str.ofString "/claim/cut.py") 396] }
noncomputable def o112 (P : Params) : Obj := { cls := Value.type "function", data := Data.func { name := Str.ofString "__init__", qualname := Str.ofString "Box.__init__", params := a13, body := FuncBody.stmts b13, scope := c13, globals := 3, closure := [], defaults := Value.none, kwdefaults := Value.none, pyModule := Value.str (Str.ofString "postkeep.boxes") 323, code := Value.ref 163 } }
noncomputable def o113 (P : Params) : Obj := { cls := Value.type "tuple", data := Data.seq #[Value.str (Str.ofString "self") 401, Value.str (Str.ofString "uid") 402, Value.str (Str.ofString "at") 403] }
noncomputable def o114 (P : Params) : Obj := { cls := Value.none, data := Data.func { name := Str.ofString "letter", qualname := Str.ofString "Box.letter", params := a14, body := FuncBody.stmts b14, scope := c14, globals := 0, closure := [], defaults := Value.none, kwdefaults := Value.none } }
noncomputable def o115 (P : Params) : Obj := { cls := Value.type "code", data := Data.fields #[Value.str (Str.ofString "letter") 398, Value.str (Str.ofString "Box.letter") 399, Value.str (Str.ofString "/claim/cut.py") 400, Value.int 70 0, Value.int 2 0, Value.int 0 0, Value.int 0 0, Value.int 3 0, Value.ref 165, Value.bool true, Value.int 181 0, Value.ref 166, Value.none, Value.ref 167, Value.ref 168, Value.ref 169, Value.int 404 0, Value.int 70 0, Value.str (Str.ofString "/claim/cut.py") 405] }
noncomputable def o116 (P : Params) : Obj := { cls := Value.type "function", data := Data.func { name := Str.ofString "letter", qualname := Str.ofString "Box.letter", params := a14, body := FuncBody.stmts b14, scope := c14, globals := 3, closure := [], defaults := Value.none, kwdefaults := Value.none, pyModule := Value.str (Str.ofString "postkeep.boxes") 323, code := Value.ref 170 } }
noncomputable def o117 (P : Params) : Obj := { cls := Value.none, data := Data.func { name := Str.ofString "uids", qualname := Str.ofString "Box.uids", params := a15, body := FuncBody.stmts b15, scope := c15, globals := 0, closure := [], defaults := Value.none, kwdefaults := Value.none } }
noncomputable def o118 (P : Params) : Obj := { cls := Value.type "code", data := Data.fields #[Value.str (Str.ofString "uids") 407, Value.str (Str.ofString "Box.uids") 408, Value.str (Str.ofString "/claim/cut.py") 409, Value.int 74 0, Value.int 1 0, Value.int 0 0, Value.int 0 0, Value.int 3 0, Value.ref 172, Value.bool true, Value.int 181 0, Value.ref 173, Value.none, Value.none, Value.none, Value.ref 174, Value.int 410 0, Value.int 74 0, Value.str (Str.ofString "/claim/cut.py") 411] }
noncomputable def o119 (P : Params) : Obj := { cls := Value.type "function", data := Data.func { name := Str.ofString "uids", qualname := Str.ofString "Box.uids", params := a15, body := FuncBody.stmts b15, scope := c15, globals := 3, closure := [], defaults := Value.none, kwdefaults := Value.none, pyModule := Value.str (Str.ofString "postkeep.boxes") 323, code := Value.ref 175 } }
noncomputable def o120 (P : Params) : Obj := { cls := Value.none, data := Data.func { name := Str.ofString "told", qualname := Str.ofString "Box.told", params := a16, body := FuncBody.stmts b16, scope := c16, globals := 0, closure := [], defaults := Value.none, kwdefaults := Value.none } }
noncomputable def o121 (P : Params) : Obj := { cls := Value.type "code", data := Data.fields #[Value.str (Str.ofString "told") 413, Value.str (Str.ofString "Box.told") 414, Value.str (Str.ofString "/claim/cut.py") 415, Value.int 77 0, Value.int 1 0, Value.int 0 0, Value.int 0 0, Value.int 3 0, Value.ref 177, Value.bool true, Value.int 181 0, Value.ref 178, Value.none, Value.none, Value.none, Value.ref 179, Value.int 416 0, Value.int 77 0, Value.str (Str.ofString "/claim/cut.py") 417] }
noncomputable def o122 (P : Params) : Obj := { cls := Value.type "function", data := Data.func { name := Str.ofString "told", qualname := Str.ofString "Box.told", params := a16, body := FuncBody.stmts b16, scope := c16, globals := 3, closure := [], defaults := Value.none, kwdefaults := Value.none, pyModule := Value.str (Str.ofString "postkeep.boxes") 323, code := Value.ref 180 } }
noncomputable def o123 (P : Params) : Obj := { cls := Value.type "tuple", data := Data.seq #[Value.str (Str.ofString "floor") 419, Value.str (Str.ofString "gone") 420, Value.str (Str.ofString "letters") 421, Value.str (Str.ofString "name") 422, Value.str (Str.ofString "next_uid") 423, Value.str (Str.ofString "top") 424, Value.str (Str.ofString "validity") 425] }
noncomputable def o124 (P : Params) : Obj := { cls := Value.type "dict", data := Data.dict #[{ hash := PyData.keyHash P (Str.ofString "__module__"), key := Value.str (Str.ofString "__module__") 384, val := Value.str (Str.ofString "postkeep.boxes") 323 }, { hash := PyData.keyHash P (Str.ofString "__firstlineno__"), key := Value.str (Str.ofString "__firstlineno__") 388, val := Value.int 59 387 }, { hash := PyData.keyHash P (Str.ofString "__init__"), key := Value.str (Str.ofString "__init__") 397, val := Value.ref 164 }, { hash := PyData.keyHash P (Str.ofString "letter"), key := Value.str (Str.ofString "letter") 406, val := Value.ref 171 }, { hash := PyData.keyHash P (Str.ofString "uids"), key := Value.str (Str.ofString "uids") 412, val := Value.ref 176 }, { hash := PyData.keyHash P (Str.ofString "told"), key := Value.str (Str.ofString "told") 418, val := Value.ref 181 }, { hash := PyData.keyHash P (Str.ofString "__static_attributes__"), key := Value.str (Str.ofString "__static_attributes__") 426, val := Value.ref 182 }, { hash := PyData.keyHash P (Str.ofString "__dict__"), key := Value.str (Str.ofString "__dict__") 428, val := Value.ref 185 }, { hash := PyData.keyHash P (Str.ofString "__weakref__"), key := Value.str (Str.ofString "__weakref__") 430, val := Value.ref 186 }, { hash := PyData.keyHash P (Str.ofString "__doc__"), key := Value.str (Str.ofString "__doc__") 431, val := Value.none }] 4 }
noncomputable def o125 (P : Params) : Obj := { cls := Value.type "type", data := Data.cls { name := Str.ofString "Box", bases := [Value.type "object"], mro := [Value.ref 184, Value.type "object"], ns := 183, qualname := Str.ofString "Box" }, slots := #[none, none, some (Value.str (Str.ofString "Box") 377), some (Value.str (Str.ofString "Box") 385), some (Value.builtin "object.__new__"), some (Value.bool true)] }
noncomputable def o126 (P : Params) : Obj := { cls := Value.type "getset_descriptor", data := Data.fields #[Value.str (Str.ofString "__dict__") 427, Value.ref 184, Value.builtin "function.__dict__", Value.builtin "function.__dict__#set"] }
noncomputable def o127 (P : Params) : Obj := { cls := Value.type "getset_descriptor", data := Data.fields #[Value.str (Str.ofString "__weakref__") 429, Value.ref 184, Value.builtin "ExceptionGroup.__weakref__", Value.none] }
noncomputable def o128 (P : Params) : Obj := { cls := Value.type "super", data := Data.fields #[Value.ref 184, Value.ref 184, Value.ref 184] }
noncomputable def o129 (P : Params) : Obj := { cls := Value.type "builtin_function_or_method", data := Data.fields #[Value.builtin "object.__init_subclass__", Value.ref 184] }
noncomputable def o130 (P : Params) : Obj := { cls := Value.type "tuple", data := Data.seq #[Value.str (Str.ofString "letters") 437, Value.str (Str.ofString "uid") 438, Value.str (Str.ofString "low") 439, Value.str (Str.ofString "high") 440, Value.str (Str.ofString "middle") 441] }
noncomputable def o131 (P : Params) : Obj := { cls := Value.none, data := Data.func { name := Str.ofString "place_of", qualname := Str.ofString "place_of", params := a17, body := FuncBody.stmts b17, scope := c17, globals := 0, closure := [], defaults := Value.none, kwdefaults := Value.none } }
noncomputable def o132 (P : Params) : Obj := { cls := Value.type "code", data := Data.fields #[Value.str (Str.ofString "place_of") 434, Value.str (Str.ofString "place_of") 435, Value.str (Str.ofString "/claim/cut.py") 436, Value.int 80 0, Value.int 2 0, Value.int 0 0, Value.int 0 0, Value.int 3 0, Value.ref 189, Value.bool true, Value.int 181 0, Value.ref 190, Value.none, Value.ref 191, Value.ref 192, Value.ref 193, Value.int 442 0, Value.int 80 0, Value.str (Str.ofString "/claim/cut.py") 443] }
noncomputable def o133 (P : Params) : Obj := { cls := Value.type "function", data := Data.func { name := Str.ofString "place_of", qualname := Str.ofString "place_of", params := a17, body := FuncBody.stmts b17, scope := c17, globals := 3, closure := [], defaults := Value.none, kwdefaults := Value.none, pyModule := Value.str (Str.ofString "postkeep.boxes") 323, code := Value.ref 194 } }
noncomputable def o134 (P : Params) : Obj := { cls := Value.none, data := Data.func { name := Str.ofString "upper_text", qualname := Str.ofString "upper_text", params := a18, body := FuncBody.stmts b18, scope := c18, globals := 0, closure := [], defaults := Value.none, kwdefaults := Value.none } }
noncomputable def o135 (P : Params) : Obj := { cls := Value.type "code", data := Data.fields #[Value.str (Str.ofString "upper_text") 447, Value.str (Str.ofString "upper_text") 448, Value.str (Str.ofString "/claim/cut.py") 449, Value.int 92 0, Value.int 1 0, Value.int 0 0, Value.int 0 0, Value.int 3 0, Value.ref 196, Value.bool true, Value.int 181 0, Value.ref 197, Value.none, Value.none, Value.none, Value.ref 198, Value.int 450 0, Value.int 92 0, Value.str (Str.ofString "/claim/cut.py") 451] }
noncomputable def o136 (P : Params) : Obj := { cls := Value.type "function", data := Data.func { name := Str.ofString "upper_text", qualname := Str.ofString "upper_text", params := a18, body := FuncBody.stmts b18, scope := c18, globals := 3, closure := [], defaults := Value.none, kwdefaults := Value.none, pyModule := Value.str (Str.ofString "postkeep.octets") 445, code := Value.ref 199 } }
noncomputable def o137 (P : Params) : Obj := { cls := Value.type "dict", data := Data.dict #[{ hash := PyData.keyHash P (Str.ofString "__name__"), key := Value.str (Str.ofString "__name__") 165, val := Value.str (Str.ofString "postkeep.store") 476 }, { hash := PyData.keyHash P (Str.ofString "__doc__"), key := Value.str (Str.ofString "__doc__") 166, val := Value.none }, { hash := PyData.keyHash P (Str.ofString "__package__"), key := Value.str (Str.ofString "__package__") 167, val := Value.none }, { hash := PyData.keyHash P (Str.ofString "__loader__"), key := Value.str (Str.ofString "__loader__") 168, val := Value.builtin "__main__.__loader__#opaque" }, { hash := PyData.keyHash P (Str.ofString "__spec__"), key := Value.str (Str.ofString "__spec__") 169, val := Value.none }, { hash := PyData.keyHash P (Str.ofString "__annotations__"), key := Value.str (Str.ofString "__annotations__") 170, val := Value.ref 6 }, { hash := PyData.keyHash P (Str.ofString "__builtins__"), key := Value.str (Str.ofString "__builtins__") 171, val := Value.ref 4 }, { hash := PyData.keyHash P (Str.ofString "__file__"), key := Value.str (Str.ofString "__file__") 173, val := Value.str (Str.ofString "/claim/cut.py") 172 }, { hash := PyData.keyHash P (Str.ofString "__cached__"), key := Value.str (Str.ofString "__cached__") 174, val := Value.none }, { hash := PyData.keyHash P (Str.ofString "_wall"), key := Value.str (Str.ofString "_wall") 193, val := Value.ref 21 }, { hash := PyData.keyHash P (Str.ofString "PostError"), key := Value.str (Str.ofString "PostError") 235, val := Value.ref 46 }, { hash := PyData.keyHash P (Str.ofString "StoreFault"), key := Value.str (Str.ofString "StoreFault") 251, val := Value.ref 59 }, { hash := PyData.keyHash P (Str.ofString "DeskFault"), key := Value.str (Str.ofString "DeskFault") 267, val := Value.ref 71 }, { hash := PyData.keyHash P (Str.ofString "parts_between"), key := Value.str (Str.ofString "parts_between") 277, val := Value.ref 79 }, { hash := PyData.keyHash P (Str.ofString "whole_number"), key := Value.str (Str.ofString "whole_number") 283, val := Value.ref 84 }, { hash := PyData.keyHash P (Str.ofString "words_of"), key := Value.str (Str.ofString "words_of") 292, val := Value.ref 91 }, { hash := PyData.keyHash P (Str.ofString "letter_line"), key := Value.str (Str.ofString "letter_line") 301, val := Value.ref 98 }, { hash := PyData.keyHash P (Str.ofString "box_told"), key := Value.str (Str.ofString "box_told") 307, val := Value.ref 103 }, { hash := PyData.keyHash P (Str.ofString "letter_in"), key := Value.str (Str.ofString "letter_in") 316, val := Value.ref 110 }, { hash := PyData.keyHash P (Str.ofString "numbers_told"), key := Value.str (Str.ofString "numbers_told") 322, val := Value.ref 115 }, { hash := PyData.keyHash P (Str.ofString "Letter"), key := Value.str (Str.ofString "Letter") 376, val := Value.ref 146 }, { hash := PyData.keyHash P (Str.ofString "Box"), key := Value.str (Str.ofString "Box") 433, val := Value.ref 184 }, { hash := PyData.keyHash P (Str.ofString "place_of"), key := Value.str (Str.ofString "place_of") 444, val := Value.ref 195 }, { hash := PyData.keyHash P (Str.ofString "upper_text"), key := Value.str (Str.ofString "upper_text") 452, val := Value.ref 200 }, { hash := PyData.keyHash P (Str.ofString "DELIMITER"), key := Value.str (Str.ofString "DELIMITER") 456, val := Value.str (Str.ofString "/") 455 }, { hash := PyData.keyHash P (Str.ofString "INBOX_names"), key := Value.str (Str.ofString "INBOX_names") 458, val := Value.str (Str.ofString "INBOX") 457 }, { hash := PyData.keyHash P (Str.ofString "first_part"), key := Value.str (Str.ofString "first_part") 466, val := Value.ref 207 }, { hash := PyData.keyHash P (Str.ofString "normal_name"), key := Value.str (Str.ofString "normal_name") 475, val := Value.ref 214 }, { hash := PyData.keyHash P (Str.ofString "INBOX_store"), key := Value.str (Str.ofString "INBOX_store") 479, val := Value.str (Str.ofString "INBOX") 478 }] 29 }
noncomputable def o138 (P : Params) : Obj := { cls := Value.none, data := Data.fields #[Value.int 1 0, Value.int 0 0, Value.ref 20, Value.int 5 0, Value.int 0 0, Value.ref 27, Value.int 14 0, Value.int 0 0, Value.ref 55, Value.int 16 0, Value.int 0 0, Value.ref 67, Value.int 19 0, Value.int 0 0, Value.ref 78, Value.int 22 0, Value.int 0 0, Value.ref 83, Value.int 26 0, Value.int 0 0, Value.ref 90, Value.int 31 0, Value.int 0 0, Value.ref 97, Value.int 34 0, Value.int 0 0, Value.ref 102, Value.int 37 0, Value.int 0 0, Value.ref 109, Value.int 42 0, Value.int 0 0, Value.ref 114, Value.int 45 0, Value.int 0 0, Value.ref 121, Value.int 59 0, Value.int 0 0, Value.ref 156, Value.int 80 0, Value.int 0 0, Value.ref 194, Value.int 92 0, Value.int 0 0, Value.ref 199, Value.int 97 0, Value.int 0 0, Value.ref 206, Value.int 102 0, Value.int 0 0, Value.ref 213] }
noncomputable def o139 (P : Params) : Obj := { cls := Value.type "tuple", data := Data.seq #[Value.str (Str.ofString "text") 462, Value.str (Str.ofString "end") 463] }
noncomputable def o140 (P : Params) : Obj := { cls := Value.none, data := Data.func { name := Str.ofString "first_part", qualname := Str.ofString "first_part", params := a19, body := FuncBody.stmts b19, scope := c19, globals := 0, closure := [], defaults := Value.none, kwdefaults := Value.none } }
noncomputable def o141 (P : Params) : Obj := { cls := Value.type "code", data := Data.fields #[Value.str (Str.ofString "first_part") 459, Value.str (Str.ofString "first_part") 460, Value.str (Str.ofString "/claim/cut.py") 461, Value.int 97 0, Value.int 1 0, Value.int 0 0, Value.int 0 0, Value.int 3 0, Value.ref 201, Value.bool true, Value.int 181 0, Value.ref 202, Value.none, Value.ref 203, Value.ref 204, Value.ref 205, Value.int 464 0, Value.int 97 0, Value.str (Str.ofString "/claim/cut.py") 465] }
noncomputable def o142 (P : Params) : Obj := { cls := Value.type "function", data := Data.func { name := Str.ofString "first_part", qualname := Str.ofString "first_part", params := a19, body := FuncBody.stmts b19, scope := c19, globals := 3, closure := [], defaults := Value.none, kwdefaults := Value.none, pyModule := Value.str (Str.ofString "postkeep.names") 453, code := Value.ref 206 } }
noncomputable def o143 (P : Params) : Obj := { cls := Value.type "tuple", data := Data.seq #[Value.str (Str.ofString "text") 470, Value.str (Str.ofString "head") 471, Value.str (Str.ofString "rest") 472] }
noncomputable def o144 (P : Params) : Obj := { cls := Value.none, data := Data.func { name := Str.ofString "normal_name", qualname := Str.ofString "normal_name", params := a20, body := FuncBody.stmts b20, scope := c20, globals := 0, closure := [], defaults := Value.none, kwdefaults := Value.none } }
noncomputable def o145 (P : Params) : Obj := { cls := Value.type "code", data := Data.fields #[Value.str (Str.ofString "normal_name") 467, Value.str (Str.ofString "normal_name") 468, Value.str (Str.ofString "/claim/cut.py") 469, Value.int 102 0, Value.int 1 0, Value.int 0 0, Value.int 0 0, Value.int 3 0, Value.ref 208, Value.bool true, Value.int 181 0, Value.ref 209, Value.none, Value.ref 210, Value.ref 211, Value.ref 212, Value.int 473 0, Value.int 102 0, Value.str (Str.ofString "/claim/cut.py") 474] }
noncomputable def o146 (P : Params) : Obj := { cls := Value.type "function", data := Data.func { name := Str.ofString "normal_name", qualname := Str.ofString "normal_name", params := a20, body := FuncBody.stmts b20, scope := c20, globals := 3, closure := [], defaults := Value.none, kwdefaults := Value.none, pyModule := Value.str (Str.ofString "postkeep.names") 453, code := Value.ref 213 } }
noncomputable def o147 (P : Params) : Obj := { cls := Value.type "dict", data := Data.dict #[{ hash := PyData.keyHash P (Str.ofString "__name__"), key := Value.str (Str.ofString "__name__") 165, val := Value.str (Str.ofString "law_pq0933_01") 540 }, { hash := PyData.keyHash P (Str.ofString "__doc__"), key := Value.str (Str.ofString "__doc__") 166, val := Value.none }, { hash := PyData.keyHash P (Str.ofString "__package__"), key := Value.str (Str.ofString "__package__") 167, val := Value.none }, { hash := PyData.keyHash P (Str.ofString "__loader__"), key := Value.str (Str.ofString "__loader__") 168, val := Value.builtin "__main__.__loader__#opaque" }, { hash := PyData.keyHash P (Str.ofString "__spec__"), key := Value.str (Str.ofString "__spec__") 169, val := Value.none }, { hash := PyData.keyHash P (Str.ofString "__annotations__"), key := Value.str (Str.ofString "__annotations__") 170, val := Value.ref 6 }, { hash := PyData.keyHash P (Str.ofString "__builtins__"), key := Value.str (Str.ofString "__builtins__") 171, val := Value.ref 4 }, { hash := PyData.keyHash P (Str.ofString "__file__"), key := Value.str (Str.ofString "__file__") 173, val := Value.str (Str.ofString "/claim/cut.py") 172 }, { hash := PyData.keyHash P (Str.ofString "__cached__"), key := Value.str (Str.ofString "__cached__") 174, val := Value.none }, { hash := PyData.keyHash P (Str.ofString "_wall"), key := Value.str (Str.ofString "_wall") 193, val := Value.ref 21 }, { hash := PyData.keyHash P (Str.ofString "PostError"), key := Value.str (Str.ofString "PostError") 235, val := Value.ref 46 }, { hash := PyData.keyHash P (Str.ofString "StoreFault"), key := Value.str (Str.ofString "StoreFault") 251, val := Value.ref 59 }, { hash := PyData.keyHash P (Str.ofString "DeskFault"), key := Value.str (Str.ofString "DeskFault") 267, val := Value.ref 71 }, { hash := PyData.keyHash P (Str.ofString "parts_between"), key := Value.str (Str.ofString "parts_between") 277, val := Value.ref 79 }, { hash := PyData.keyHash P (Str.ofString "whole_number"), key := Value.str (Str.ofString "whole_number") 283, val := Value.ref 84 }, { hash := PyData.keyHash P (Str.ofString "words_of"), key := Value.str (Str.ofString "words_of") 292, val := Value.ref 91 }, { hash := PyData.keyHash P (Str.ofString "letter_line"), key := Value.str (Str.ofString "letter_line") 301, val := Value.ref 98 }, { hash := PyData.keyHash P (Str.ofString "box_told"), key := Value.str (Str.ofString "box_told") 307, val := Value.ref 103 }, { hash := PyData.keyHash P (Str.ofString "letter_in"), key := Value.str (Str.ofString "letter_in") 316, val := Value.ref 110 }, { hash := PyData.keyHash P (Str.ofString "numbers_told"), key := Value.str (Str.ofString "numbers_told") 322, val := Value.ref 115 }, { hash := PyData.keyHash P (Str.ofString "Letter"), key := Value.str (Str.ofString "Letter") 376, val := Value.ref 146 }, { hash := PyData.keyHash P (Str.ofString "Box"), key := Value.str (Str.ofString "Box") 433, val := Value.ref 184 }, { hash := PyData.keyHash P (Str.ofString "place_of"), key := Value.str (Str.ofString "place_of") 444, val := Value.ref 195 }, { hash := PyData.keyHash P (Str.ofString "upper_text"), key := Value.str (Str.ofString "upper_text") 452, val := Value.ref 200 }, { hash := PyData.keyHash P (Str.ofString "DELIMITER"), key := Value.str (Str.ofString "DELIMITER") 456, val := Value.str (Str.ofString "/") 455 }, { hash := PyData.keyHash P (Str.ofString "INBOX_names"), key := Value.str (Str.ofString "INBOX_names") 458, val := Value.str (Str.ofString "INBOX") 457 }, { hash := PyData.keyHash P (Str.ofString "first_part"), key := Value.str (Str.ofString "first_part") 466, val := Value.ref 207 }, { hash := PyData.keyHash P (Str.ofString "normal_name"), key := Value.str (Str.ofString "normal_name") 475, val := Value.ref 214 }, { hash := PyData.keyHash P (Str.ofString "INBOX_store"), key := Value.str (Str.ofString "INBOX_store") 479, val := Value.str (Str.ofString "INBOX") 478 }, { hash := PyData.keyHash P (Str.ofString "Store"), key := Value.str (Str.ofString "Store") 539, val := Value.ref 257 }, { hash := PyData.keyHash P (Str.ofString "_law_urn"), key := Value.str (Str.ofString "_law_urn") 547, val := Value.ref 266 }] 31 }
noncomputable def o148 (P : Params) : Obj := { cls := Value.none, data := Data.fields #[Value.int 1 0, Value.int 0 0, Value.ref 20, Value.int 5 0, Value.int 0 0, Value.ref 27, Value.int 14 0, Value.int 0 0, Value.ref 55, Value.int 16 0, Value.int 0 0, Value.ref 67, Value.int 19 0, Value.int 0 0, Value.ref 78, Value.int 22 0, Value.int 0 0, Value.ref 83, Value.int 26 0, Value.int 0 0, Value.ref 90, Value.int 31 0, Value.int 0 0, Value.ref 97, Value.int 34 0, Value.int 0 0, Value.ref 102, Value.int 37 0, Value.int 0 0, Value.ref 109, Value.int 42 0, Value.int 0 0, Value.ref 114, Value.int 45 0, Value.int 0 0, Value.ref 121, Value.int 59 0, Value.int 0 0, Value.ref 156, Value.int 80 0, Value.int 0 0, Value.ref 194, Value.int 92 0, Value.int 0 0, Value.ref 199, Value.int 97 0, Value.int 0 0, Value.ref 206, Value.int 102 0, Value.int 0 0, Value.ref 213, Value.int 109 0, Value.int 0 0, Value.ref 220, Value.int 132 0, Value.int 0 0, Value.ref 265] }
noncomputable def o149 (P : Params) : Obj := { cls := Value.type "dict", data := Data.dict #[{ hash := PyData.keyHash P (Str.ofString "__module__"), key := Value.str (Str.ofString "__module__") 487, val := Value.str (Str.ofString "postkeep.store") 476 }, { hash := PyData.keyHash P (Str.ofString "__qualname__"), key := Value.str (Str.ofString "__qualname__") 489, val := Value.str (Str.ofString "Store") 488 }, { hash := PyData.keyHash P (Str.ofString "__firstlineno__"), key := Value.str (Str.ofString "__firstlineno__") 491, val := Value.int 109 490 }, { hash := PyData.keyHash P (Str.ofString "__init__"), key := Value.str (Str.ofString "__init__") 498, val := Value.ref 228 }, { hash := PyData.keyHash P (Str.ofString "has"), key := Value.str (Str.ofString "has") 506, val := Value.ref 235 }, { hash := PyData.keyHash P (Str.ofString "box"), key := Value.str (Str.ofString "box") 515, val := Value.ref 242 }, { hash := PyData.keyHash P (Str.ofString "names"), key := Value.str (Str.ofString "names") 522, val := Value.ref 249 }, { hash := PyData.keyHash P (Str.ofString "told"), key := Value.str (Str.ofString "told") 528, val := Value.ref 254 }, { hash := PyData.keyHash P (Str.ofString "__static_attributes__"), key := Value.str (Str.ofString "__static_attributes__") 532, val := Value.ref 255 }] 9 }
noncomputable def o150 (P : Params) : Obj := { cls := Value.none, data := Data.fields #[Value.int 111 0, Value.int 4 0, Value.ref 227, Value.int 116 0, Value.int 4 0, Value.ref 234, Value.int 119 0, Value.int 4 0, Value.ref 241, Value.int 125 0, Value.int 4 0, Value.ref 248, Value.int 128 0, Value.int 4 0, Value.ref 253] }
noncomputable def o151 (P : Params) : Obj := { cls := Value.type "code", data := Data.fields #[Value.str (Str.ofString "Store") 482, Value.str (Str.ofString "Store") 483, Value.str (Str.ofString "/claim/cut.py") 484, Value.int 109 0, Value.int 0 0, Value.int 0 0, Value.int 0 0, Value.int 0 0, Value.ref 218, Value.bool false, Value.int 181 0, Value.ref 219, Value.none, Value.none, Value.none, Value.none, Value.int 485 0, Value.int 109 0, Value.str (Str.ofString "/claim/cut.py") 486] }
noncomputable def o152 (P : Params) : Obj := { cls := Value.type "frame", slots := #[some (Value.ref 220), some (Value.ref 3), some (Value.ref 217), none, some (Value.str (Str.ofString "postkeep.store") 476), none, some (Value.ref 0)] }
noncomputable def o153 (P : Params) : Obj := { cls := Value.type "tuple", data := Data.seq #[Value.str (Str.ofString "self") 495] }
noncomputable def o154 (P : Params) : Obj := { cls := Value.none, data := Data.func { name := Str.ofString "__init__", qualname := Str.ofString "Store.__init__", params := a21, body := FuncBody.stmts b21, scope := c21, globals := 0, closure := [], defaults := Value.none, kwdefaults := Value.none } }
noncomputable def o155 (P : Params) : Obj := { cls := Value.type "code", data := Data.fields #[Value.str (Str.ofString "__init__") 492, Value.str (Str.ofString "Store.__init__") 493, Value.str (Str.ofString "/claim/cut.py") 494, Value.int 111 0, Value.int 1 0, Value.int 0 0, Value.int 0 0, Value.int 3 0, Value.ref 222, Value.bool true, Value.int 181 0, Value.ref 223, Value.none, Value.ref 224, Value.ref 225, Value.ref 226, Value.int 496 0, Value.int 111 0, Value.str (Str.ofString "/claim/cut.py") 497] }
noncomputable def o156 (P : Params) : Obj := { cls := Value.type "function", data := Data.func { name := Str.ofString "__init__", qualname := Str.ofString "Store.__init__", params := a21, body := FuncBody.stmts b21, scope := c21, globals := 3, closure := [], defaults := Value.none, kwdefaults := Value.none, pyModule := Value.str (Str.ofString "postkeep.store") 476, code := Value.ref 227 } }
noncomputable def o157 (P : Params) : Obj := { cls := Value.type "tuple", data := Data.seq #[Value.str (Str.ofString "self") 502, Value.str (Str.ofString "name") 503] }
noncomputable def o158 (P : Params) : Obj := { cls := Value.none, data := Data.func { name := Str.ofString "has", qualname := Str.ofString "Store.has", params := a22, body := FuncBody.stmts b22, scope := c22, globals := 0, closure := [], defaults := Value.none, kwdefaults := Value.none } }
noncomputable def o159 (P : Params) : Obj := { cls := Value.type "code", data := Data.fields #[Value.str (Str.ofString "has") 499, Value.str (Str.ofString "Store.has") 500, Value.str (Str.ofString "/claim/cut.py") 501, Value.int 116 0, Value.int 2 0, Value.int 0 0, Value.int 0 0, Value.int 3 0, Value.ref 229, Value.bool true, Value.int 181 0, Value.ref 230, Value.none, Value.ref 231, Value.ref 232, Value.ref 233, Value.int 504 0, Value.int 116 0, Value.str (Str.ofString "/claim/cut.py") 505] }
noncomputable def o160 (P : Params) : Obj := { cls := Value.type "function", data := Data.func { name := Str.ofString "has", qualname := Str.ofString "Store.has", params := a22, body := FuncBody.stmts b22, scope := c22, globals := 3, closure := [], defaults := Value.none, kwdefaults := Value.none, pyModule := Value.str (Str.ofString "postkeep.store") 476, code := Value.ref 234 } }
noncomputable def o161 (P : Params) : Obj := { cls := Value.type "tuple", data := Data.seq #[Value.str (Str.ofString "self") 510, Value.str (Str.ofString "name") 511, Value.str (Str.ofString "found") 512] }
noncomputable def o162 (P : Params) : Obj := { cls := Value.none, data := Data.func { name := Str.ofString "box", qualname := Str.ofString "Store.box", params := a23, body := FuncBody.stmts b23, scope := c23, globals := 0, closure := [], defaults := Value.none, kwdefaults := Value.none } }
noncomputable def o163 (P : Params) : Obj := { cls := Value.type "code", data := Data.fields #[Value.str (Str.ofString "box") 507, Value.str (Str.ofString "Store.box") 508, Value.str (Str.ofString "/claim/cut.py") 509, Value.int 119 0, Value.int 2 0, Value.int 0 0, Value.int 0 0, Value.int 3 0, Value.ref 236, Value.bool true, Value.int 181 0, Value.ref 237, Value.none, Value.ref 238, Value.ref 239, Value.ref 240, Value.int 513 0, Value.int 119 0, Value.str (Str.ofString "/claim/cut.py") 514] }
noncomputable def o164 (P : Params) : Obj := { cls := Value.type "function", data := Data.func { name := Str.ofString "box", qualname := Str.ofString "Store.box", params := a23, body := FuncBody.stmts b23, scope := c23, globals := 3, closure := [], defaults := Value.none, kwdefaults := Value.none, pyModule := Value.str (Str.ofString "postkeep.store") 476, code := Value.ref 241 } }
noncomputable def o165 (P : Params) : Obj := { cls := Value.type "tuple", data := Data.seq #[Value.str (Str.ofString "self") 519] }
noncomputable def o166 (P : Params) : Obj := { cls := Value.none, data := Data.func { name := Str.ofString "names", qualname := Str.ofString "Store.names", params := a24, body := FuncBody.stmts b24, scope := c24, globals := 0, closure := [], defaults := Value.none, kwdefaults := Value.none } }
noncomputable def o167 (P : Params) : Obj := { cls := Value.type "code", data := Data.fields #[Value.str (Str.ofString "names") 516, Value.str (Str.ofString "Store.names") 517, Value.str (Str.ofString "/claim/cut.py") 518, Value.int 125 0, Value.int 1 0, Value.int 0 0, Value.int 0 0, Value.int 3 0, Value.ref 243, Value.bool true, Value.int 181 0, Value.ref 244, Value.none, Value.ref 245, Value.ref 246, Value.ref 247, Value.int 520 0, Value.int 125 0, Value.str (Str.ofString "/claim/cut.py") 521] }
noncomputable def o168 (P : Params) : Obj := { cls := Value.type "function", data := Data.func { name := Str.ofString "names", qualname := Str.ofString "Store.names", params := a24, body := FuncBody.stmts b24, scope := c24, globals := 3, closure := [], defaults := Value.none, kwdefaults := Value.none, pyModule := Value.str (Str.ofString "postkeep.store") 476, code := Value.ref 248 } }
noncomputable def o169 (P : Params) : Obj := { cls := Value.none, data := Data.func { name := Str.ofString "told", qualname := Str.ofString "Store.told", params := a25, body := FuncBody.stmts b25, scope := c25, globals := 0, closure := [], defaults := Value.none, kwdefaults := Value.none } }
noncomputable def o170 (P : Params) : Obj := { cls := Value.type "code", data := Data.fields #[Value.str (Str.ofString "told") 523, Value.str (Str.ofString "Store.told") 524, Value.str (Str.ofString "/claim/cut.py") 525, Value.int 128 0, Value.int 1 0, Value.int 0 0, Value.int 0 0, Value.int 3 0, Value.ref 250, Value.bool true, Value.int 181 0, Value.ref 251, Value.none, Value.none, Value.none, Value.ref 252, Value.int 526 0, Value.int 128 0, Value.str (Str.ofString "/claim/cut.py") 527] }
noncomputable def o171 (P : Params) : Obj := { cls := Value.type "function", data := Data.func { name := Str.ofString "told", qualname := Str.ofString "Store.told", params := a25, body := FuncBody.stmts b25, scope := c25, globals := 3, closure := [], defaults := Value.none, kwdefaults := Value.none, pyModule := Value.str (Str.ofString "postkeep.store") 476, code := Value.ref 253 } }
noncomputable def o172 (P : Params) : Obj := { cls := Value.type "tuple", data := Data.seq #[Value.str (Str.ofString "boxes") 529, Value.str (Str.ofString "next_validity") 530, Value.str (Str.ofString "subscribed") 531] }
noncomputable def o173 (P : Params) : Obj := { cls := Value.type "dict", data := Data.dict #[{ hash := PyData.keyHash P (Str.ofString "__module__"), key := Value.str (Str.ofString "__module__") 487, val := Value.str (Str.ofString "postkeep.store") 476 }, { hash := PyData.keyHash P (Str.ofString "__firstlineno__"), key := Value.str (Str.ofString "__firstlineno__") 491, val := Value.int 109 490 }, { hash := PyData.keyHash P (Str.ofString "__init__"), key := Value.str (Str.ofString "__init__") 498, val := Value.ref 228 }, { hash := PyData.keyHash P (Str.ofString "has"), key := Value.str (Str.ofString "has") 506, val := Value.ref 235 }, { hash := PyData.keyHash P (Str.ofString "box"), key := Value.str (Str.ofString "box") 515, val := Value.ref 242 }, { hash := PyData.keyHash P (Str.ofString "names"), key := Value.str (Str.ofString "names") 522, val := Value.ref 249 }, { hash := PyData.keyHash P (Str.ofString "told"), key := Value.str (Str.ofString "told") 528, val := Value.ref 254 }, { hash := PyData.keyHash P (Str.ofString "__static_attributes__"), key := Value.str (Str.ofString "__static_attributes__") 532, val := Value.ref 255 }, { hash := PyData.keyHash P (Str.ofString "__dict__"), key := Value.str (Str.ofString "__dict__") 534, val := Value.ref 258 }, { hash := PyData.keyHash P (Str.ofString "__weakref__"), key := Value.str (Str.ofString "__weakref__") 536, val := Value.ref 259 }, { hash := PyData.keyHash P (Str.ofString "__doc__"), key := Value.str (Str.ofString "__doc__") 537, val := Value.none }] 4 }
noncomputable def o174 (P : Params) : Obj := { cls := Value.type "type", data := Data.cls { name := Str.ofString "Store", bases := [Value.type "object"], mro := [Value.ref 257, Value.type "object"], ns := 256, qualname := Str.ofString "Store" }, slots := #[none, none, some (Value.str (Str.ofString "Store") 480), some (Value.str (Str.ofString "Store") 488), some (Value.builtin "object.__new__"), some (Value.bool true)] }
noncomputable def o175 (P : Params) : Obj := { cls := Value.type "getset_descriptor", data := Data.fields #[Value.str (Str.ofString "__dict__") 533, Value.ref 257, Value.builtin "function.__dict__", Value.builtin "function.__dict__#set"] }
noncomputable def o176 (P : Params) : Obj := { cls := Value.type "getset_descriptor", data := Data.fields #[Value.str (Str.ofString "__weakref__") 535, Value.ref 257, Value.builtin "ExceptionGroup.__weakref__", Value.none] }
noncomputable def o177 (P : Params) : Obj := { cls := Value.type "super", data := Data.fields #[Value.ref 257, Value.ref 257, Value.ref 257] }
noncomputable def o178 (P : Params) : Obj := { cls := Value.type "builtin_function_or_method", data := Data.fields #[Value.builtin "object.__init_subclass__", Value.ref 257] }
noncomputable def o179 (P : Params) : Obj := { cls := Value.none, data := Data.func { name := Str.ofString "_law_urn", qualname := Str.ofString "_law_urn", params := a26, body := FuncBody.stmts b26, scope := c26, globals := 0, closure := [], defaults := Value.none, kwdefaults := Value.none } }
noncomputable def o180 (P : Params) : Obj := { cls := Value.type "code", data := Data.fields #[Value.str (Str.ofString "_law_urn") 542, Value.str (Str.ofString "_law_urn") 543, Value.str (Str.ofString "/claim/cut.py") 544, Value.int 132 0, Value.int 1 0, Value.int 0 0, Value.int 0 0, Value.int 3 0, Value.ref 262, Value.bool true, Value.int 181 0, Value.ref 263, Value.none, Value.none, Value.none, Value.ref 264, Value.int 545 0, Value.int 132 0, Value.str (Str.ofString "/claim/cut.py") 546] }
noncomputable def o181 (P : Params) : Obj := { cls := Value.type "function", data := Data.func { name := Str.ofString "_law_urn", qualname := Str.ofString "_law_urn", params := a26, body := FuncBody.stmts b26, scope := c26, globals := 3, closure := [], defaults := Value.none, kwdefaults := Value.none, pyModule := Value.str (Str.ofString "law_pq0933_01") 540, code := Value.ref 265 } }
noncomputable def o182 (P : Params) : Obj := { cls := Value.type "dict", data := Data.dict #[{ hash := PyData.keyHash P (Str.ofString "__name__"), key := Value.str (Str.ofString "__name__") 165, val := Value.str (Str.ofString "law_pq0933_01") 540 }, { hash := PyData.keyHash P (Str.ofString "__doc__"), key := Value.str (Str.ofString "__doc__") 166, val := Value.none }, { hash := PyData.keyHash P (Str.ofString "__package__"), key := Value.str (Str.ofString "__package__") 167, val := Value.none }, { hash := PyData.keyHash P (Str.ofString "__loader__"), key := Value.str (Str.ofString "__loader__") 168, val := Value.builtin "__main__.__loader__#opaque" }, { hash := PyData.keyHash P (Str.ofString "__spec__"), key := Value.str (Str.ofString "__spec__") 169, val := Value.none }, { hash := PyData.keyHash P (Str.ofString "__annotations__"), key := Value.str (Str.ofString "__annotations__") 170, val := Value.ref 6 }, { hash := PyData.keyHash P (Str.ofString "__builtins__"), key := Value.str (Str.ofString "__builtins__") 171, val := Value.ref 4 }, { hash := PyData.keyHash P (Str.ofString "__file__"), key := Value.str (Str.ofString "__file__") 173, val := Value.str (Str.ofString "/claim/cut.py") 172 }, { hash := PyData.keyHash P (Str.ofString "__cached__"), key := Value.str (Str.ofString "__cached__") 174, val := Value.none }, { hash := PyData.keyHash P (Str.ofString "_wall"), key := Value.str (Str.ofString "_wall") 193, val := Value.ref 21 }, { hash := PyData.keyHash P (Str.ofString "PostError"), key := Value.str (Str.ofString "PostError") 235, val := Value.ref 46 }, { hash := PyData.keyHash P (Str.ofString "StoreFault"), key := Value.str (Str.ofString "StoreFault") 251, val := Value.ref 59 }, { hash := PyData.keyHash P (Str.ofString "DeskFault"), key := Value.str (Str.ofString "DeskFault") 267, val := Value.ref 71 }, { hash := PyData.keyHash P (Str.ofString "parts_between"), key := Value.str (Str.ofString "parts_between") 277, val := Value.ref 79 }, { hash := PyData.keyHash P (Str.ofString "whole_number"), key := Value.str (Str.ofString "whole_number") 283, val := Value.ref 84 }, { hash := PyData.keyHash P (Str.ofString "words_of"), key := Value.str (Str.ofString "words_of") 292, val := Value.ref 91 }, { hash := PyData.keyHash P (Str.ofString "letter_line"), key := Value.str (Str.ofString "letter_line") 301, val := Value.ref 98 }, { hash := PyData.keyHash P (Str.ofString "box_told"), key := Value.str (Str.ofString "box_told") 307, val := Value.ref 103 }, { hash := PyData.keyHash P (Str.ofString "letter_in"), key := Value.str (Str.ofString "letter_in") 316, val := Value.ref 110 }, { hash := PyData.keyHash P (Str.ofString "numbers_told"), key := Value.str (Str.ofString "numbers_told") 322, val := Value.ref 115 }, { hash := PyData.keyHash P (Str.ofString "Letter"), key := Value.str (Str.ofString "Letter") 376, val := Value.ref 146 }, { hash := PyData.keyHash P (Str.ofString "Box"), key := Value.str (Str.ofString "Box") 433, val := Value.ref 184 }, { hash := PyData.keyHash P (Str.ofString "place_of"), key := Value.str (Str.ofString "place_of") 444, val := Value.ref 195 }, { hash := PyData.keyHash P (Str.ofString "upper_text"), key := Value.str (Str.ofString "upper_text") 452, val := Value.ref 200 }, { hash := PyData.keyHash P (Str.ofString "DELIMITER"), key := Value.str (Str.ofString "DELIMITER") 456, val := Value.str (Str.ofString "/") 455 }, { hash := PyData.keyHash P (Str.ofString "INBOX_names"), key := Value.str (Str.ofString "INBOX_names") 458, val := Value.str (Str.ofString "INBOX") 457 }, { hash := PyData.keyHash P (Str.ofString "first_part"), key := Value.str (Str.ofString "first_part") 466, val := Value.ref 207 }, { hash := PyData.keyHash P (Str.ofString "normal_name"), key := Value.str (Str.ofString "normal_name") 475, val := Value.ref 214 }, { hash := PyData.keyHash P (Str.ofString "INBOX_store"), key := Value.str (Str.ofString "INBOX_store") 479, val := Value.str (Str.ofString "INBOX") 478 }, { hash := PyData.keyHash P (Str.ofString "Store"), key := Value.str (Str.ofString "Store") 539, val := Value.ref 257 }, { hash := PyData.keyHash P (Str.ofString "_law_urn"), key := Value.str (Str.ofString "_law_urn") 547, val := Value.ref 266 }, { hash := PyData.keyHash P (Str.ofString "_law_pull"), key := Value.str (Str.ofString "_law_pull") 556, val := Value.ref 273 }, { hash := PyData.keyHash P (Str.ofString "_law_names"), key := Value.str (Str.ofString "_law_names") 561, val := Value.ref 274 }, { hash := PyData.keyHash P (Str.ofString "_law_spelled"), key := Value.str (Str.ofString "_law_spelled") 586, val := Value.ref 287 }, { hash := PyData.keyHash P (Str.ofString "_law_odd"), key := Value.str (Str.ofString "_law_odd") 597, val := Value.ref 288 }, { hash := PyData.keyHash P (Str.ofString "_law_box"), key := Value.str (Str.ofString "_law_box") 608, val := Value.ref 295 }, { hash := PyData.keyHash P (Str.ofString "_law_figures"), key := Value.str (Str.ofString "_law_figures") 617, val := Value.ref 302 }, { hash := PyData.keyHash P (Str.ofString "_law_number"), key := Value.str (Str.ofString "_law_number") 626, val := Value.ref 309 }, { hash := PyData.keyHash P (Str.ofString "_law_spelling"), key := Value.str (Str.ofString "_law_spelling") 641, val := Value.ref 316 }, { hash := PyData.keyHash P (Str.ofString "_law_rest"), key := Value.str (Str.ofString "_law_rest") 654, val := Value.ref 323 }, { hash := PyData.keyHash P (Str.ofString "_law_heard"), key := Value.str (Str.ofString "_law_heard") 665, val := Value.ref 330 }, { hash := PyData.keyHash P (Str.ofString "_law_read"), key := Value.str (Str.ofString "_law_read") 672, val := Value.ref 337 }, { hash := PyData.keyHash P (Str.ofString "_law_is_told"), key := Value.str (Str.ofString "_law_is_told") 678, val := Value.ref 342 }] 43 }
noncomputable def o183 (P : Params) : Obj := { cls := Value.none, data := Data.fields #[Value.int 1 0, Value.int 0 0, Value.ref 20, Value.int 5 0, Value.int 0 0, Value.ref 27, Value.int 14 0, Value.int 0 0, Value.ref 55, Value.int 16 0, Value.int 0 0, Value.ref 67, Value.int 19 0, Value.int 0 0, Value.ref 78, Value.int 22 0, Value.int 0 0, Value.ref 83, Value.int 26 0, Value.int 0 0, Value.ref 90, Value.int 31 0, Value.int 0 0, Value.ref 97, Value.int 34 0, Value.int 0 0, Value.ref 102, Value.int 37 0, Value.int 0 0, Value.ref 109, Value.int 42 0, Value.int 0 0, Value.ref 114, Value.int 45 0, Value.int 0 0, Value.ref 121, Value.int 59 0, Value.int 0 0, Value.ref 156, Value.int 80 0, Value.int 0 0, Value.ref 194, Value.int 92 0, Value.int 0 0, Value.ref 199, Value.int 97 0, Value.int 0 0, Value.ref 206, Value.int 102 0, Value.int 0 0, Value.ref 213, Value.int 109 0, Value.int 0 0, Value.ref 220, Value.int 132 0, Value.int 0 0, Value.ref 265, Value.int 135 0, Value.int 0 0, Value.ref 272, Value.int 145 0, Value.int 0 0, Value.ref 294, Value.int 154 0, Value.int 0 0, Value.ref 301, Value.int 159 0, Value.int 0 0, Value.ref 308, Value.int 168 0, Value.int 0 0, Value.ref 315, Value.int 179 0, Value.int 0 0, Value.ref 322, Value.int 193 0, Value.int 0 0, Value.ref 329, Value.int 203 0, Value.int 0 0, Value.ref 336, Value.int 208 0, Value.int 0 0, Value.ref 341] }
noncomputable def o184 (P : Params) : Obj := { cls := Value.type "tuple", data := Data.seq #[Value.str (Str.ofString "urn") 551, Value.str (Str.ofString "many") 552, Value.str (Str.ofString "digit") 553] }
noncomputable def o185 (P : Params) : Obj := { cls := Value.none, data := Data.func { name := Str.ofString "_law_pull", qualname := Str.ofString "_law_pull", params := a27, body := FuncBody.stmts b27, scope := c27, globals := 0, closure := [], defaults := Value.none, kwdefaults := Value.none } }
noncomputable def o186 (P : Params) : Obj := { cls := Value.type "code", data := Data.fields #[Value.str (Str.ofString "_law_pull") 548, Value.str (Str.ofString "_law_pull") 549, Value.str (Str.ofString "/claim/cut.py") 550, Value.int 135 0, Value.int 2 0, Value.int 0 0, Value.int 0 0, Value.int 3 0, Value.ref 267, Value.bool true, Value.int 181 0, Value.ref 268, Value.none, Value.ref 269, Value.ref 270, Value.ref 271, Value.int 554 0, Value.int 135 0, Value.str (Str.ofString "/claim/cut.py") 555] }
noncomputable def o187 (P : Params) : Obj := { cls := Value.type "function", data := Data.func { name := Str.ofString "_law_pull", qualname := Str.ofString "_law_pull", params := a27, body := FuncBody.stmts b27, scope := c27, globals := 3, closure := [], defaults := Value.none, kwdefaults := Value.none, pyModule := Value.str (Str.ofString "law_pq0933_01") 540, code := Value.ref 272 } }
noncomputable def o188 (P : Params) : Obj := { cls := Value.type "tuple", data := Data.seq #[Value.str (Str.ofString "INBOX") 557, Value.str (Str.ofString "INBOX/x") 558, Value.str (Str.ofString "a/b") 559, Value.str (Str.ofString "été") 560] }
noncomputable def o189 (P : Params) : Obj := { cls := Value.type "tuple", data := Data.seq #[Value.str (Str.ofString "INBOX") 562, Value.str (Str.ofString "INBOX") 563] }
noncomputable def o190 (P : Params) : Obj := { cls := Value.type "tuple", data := Data.seq #[Value.str (Str.ofString "inbox") 564, Value.str (Str.ofString "INBOX") 565] }
noncomputable def o191 (P : Params) : Obj := { cls := Value.type "tuple", data := Data.seq #[Value.str (Str.ofString "iNbOx") 566, Value.str (Str.ofString "INBOX") 567] }
noncomputable def o192 (P : Params) : Obj := { cls := Value.type "tuple", data := Data.seq #[Value.str (Str.ofString "inbox/x") 568, Value.str (Str.ofString "INBOX/x") 569] }
noncomputable def o193 (P : Params) : Obj := { cls := Value.type "tuple", data := Data.seq #[Value.str (Str.ofString "INBOX/X") 570, Value.str (Str.ofString "") 571] }
noncomputable def o194 (P : Params) : Obj := { cls := Value.type "tuple", data := Data.seq #[Value.str (Str.ofString "a/b") 572, Value.str (Str.ofString "a/b") 573] }
noncomputable def o195 (P : Params) : Obj := { cls := Value.type "tuple", data := Data.seq #[Value.str (Str.ofString "A/b") 574, Value.str (Str.ofString "") 575] }
noncomputable def o196 (P : Params) : Obj := { cls := Value.type "tuple", data := Data.seq #[Value.str (Str.ofString "été") 576, Value.str (Str.ofString "été") 577] }
noncomputable def o197 (P : Params) : Obj := { cls := Value.type "tuple", data := Data.seq #[Value.str (Str.ofString "Été") 578, Value.str (Str.ofString "") 579] }
noncomputable def o198 (P : Params) : Obj := { cls := Value.type "tuple", data := Data.seq #[Value.str (Str.ofString "INBOXX") 580, Value.str (Str.ofString "") 581] }
noncomputable def o199 (P : Params) : Obj := { cls := Value.type "tuple", data := Data.seq #[Value.str (Str.ofString "a") 582, Value.str (Str.ofString "") 583] }
noncomputable def o200 (P : Params) : Obj := { cls := Value.type "tuple", data := Data.seq #[Value.str (Str.ofString "a/b/") 584, Value.str (Str.ofString "") 585] }
noncomputable def o201 (P : Params) : Obj := { cls := Value.type "tuple", data := Data.seq #[Value.ref 275, Value.ref 276, Value.ref 277, Value.ref 278, Value.ref 279, Value.ref 280, Value.ref 281, Value.ref 282, Value.ref 283, Value.ref 284, Value.ref 285, Value.ref 286] }
noncomputable def o202 (P : Params) : Obj := { cls := Value.type "tuple", data := Data.seq #[Value.str (Str.ofString "+") 587, Value.str (Str.ofString "-") 588, Value.str (Str.ofString "_") 589, Value.str (Str.ofString ".") 590, Value.str (Str.ofString "x") 591, Value.str (Str.ofString " ") 592, Value.str (Str.ofString "٣") 593, Value.str (Str.ofString "²") 594, Value.str (Str.ofString "１") 595, Value.str (Str.ofString "\\") 596] }
noncomputable def o203 (P : Params) : Obj := { cls := Value.type "tuple", data := Data.seq #[Value.str (Str.ofString "urn") 601, Value.str (Str.ofString "name") 602, Value.str (Str.ofString "box") 603, Value.str (Str.ofString "uid") 604, Value.str (Str.ofString "spot") 605] }
noncomputable def o204 (P : Params) : Obj := { cls := Value.none, data := Data.func { name := Str.ofString "_law_box", qualname := Str.ofString "_law_box", params := a28, body := FuncBody.stmts b28, scope := c28, globals := 0, closure := [], defaults := Value.none, kwdefaults := Value.none } }
noncomputable def o205 (P : Params) : Obj := { cls := Value.type "code", data := Data.fields #[Value.str (Str.ofString "_law_box") 598, Value.str (Str.ofString "_law_box") 599, Value.str (Str.ofString "/claim/cut.py") 600, Value.int 145 0, Value.int 2 0, Value.int 0 0, Value.int 0 0, Value.int 3 0, Value.ref 289, Value.bool true, Value.int 181 0, Value.ref 290, Value.none, Value.ref 291, Value.ref 292, Value.ref 293, Value.int 606 0, Value.int 145 0, Value.str (Str.ofString "/claim/cut.py") 607] }
noncomputable def o206 (P : Params) : Obj := { cls := Value.type "function", data := Data.func { name := Str.ofString "_law_box", qualname := Str.ofString "_law_box", params := a28, body := FuncBody.stmts b28, scope := c28, globals := 3, closure := [], defaults := Value.none, kwdefaults := Value.none, pyModule := Value.str (Str.ofString "law_pq0933_01") 540, code := Value.ref 294 } }
noncomputable def o207 (P : Params) : Obj := { cls := Value.type "tuple", data := Data.seq #[Value.str (Str.ofString "number") 612, Value.str (Str.ofString "found") 613, Value.str (Str.ofString "left") 614] }
noncomputable def o208 (P : Params) : Obj := { cls := Value.none, data := Data.func { name := Str.ofString "_law_figures", qualname := Str.ofString "_law_figures", params := a29, body := FuncBody.stmts b29, scope := c29, globals := 0, closure := [], defaults := Value.none, kwdefaults := Value.none } }
noncomputable def o209 (P : Params) : Obj := { cls := Value.type "code", data := Data.fields #[Value.str (Str.ofString "_law_figures") 609, Value.str (Str.ofString "_law_figures") 610, Value.str (Str.ofString "/claim/cut.py") 611, Value.int 154 0, Value.int 1 0, Value.int 0 0, Value.int 0 0, Value.int 3 0, Value.ref 296, Value.bool true, Value.int 181 0, Value.ref 297, Value.none, Value.ref 298, Value.ref 299, Value.ref 300, Value.int 615 0, Value.int 154 0, Value.str (Str.ofString "/claim/cut.py") 616] }
noncomputable def o210 (P : Params) : Obj := { cls := Value.type "function", data := Data.func { name := Str.ofString "_law_figures", qualname := Str.ofString "_law_figures", params := a29, body := FuncBody.stmts b29, scope := c29, globals := 3, closure := [], defaults := Value.none, kwdefaults := Value.none, pyModule := Value.str (Str.ofString "law_pq0933_01") 540, code := Value.ref 301 } }
noncomputable def o211 (P : Params) : Obj := { cls := Value.type "tuple", data := Data.seq #[Value.str (Str.ofString "text") 621, Value.str (Str.ofString "total") 622, Value.str (Str.ofString "sign") 623] }
noncomputable def o212 (P : Params) : Obj := { cls := Value.none, data := Data.func { name := Str.ofString "_law_number", qualname := Str.ofString "_law_number", params := a30, body := FuncBody.stmts b30, scope := c30, globals := 0, closure := [], defaults := Value.none, kwdefaults := Value.none } }
noncomputable def o213 (P : Params) : Obj := { cls := Value.type "code", data := Data.fields #[Value.str (Str.ofString "_law_number") 618, Value.str (Str.ofString "_law_number") 619, Value.str (Str.ofString "/claim/cut.py") 620, Value.int 159 0, Value.int 1 0, Value.int 0 0, Value.int 0 0, Value.int 3 0, Value.ref 303, Value.bool true, Value.int 181 0, Value.ref 304, Value.none, Value.ref 305, Value.ref 306, Value.ref 307, Value.int 624 0, Value.int 159 0, Value.str (Str.ofString "/claim/cut.py") 625] }
noncomputable def o214 (P : Params) : Obj := { cls := Value.type "function", data := Data.func { name := Str.ofString "_law_number", qualname := Str.ofString "_law_number", params := a30, body := FuncBody.stmts b30, scope := c30, globals := 3, closure := [], defaults := Value.none, kwdefaults := Value.none, pyModule := Value.str (Str.ofString "law_pq0933_01") 540, code := Value.ref 308 } }
noncomputable def o215 (P : Params) : Obj := { cls := Value.type "tuple", data := Data.seq #[Value.str (Str.ofString "urn") 630, Value.str (Str.ofString "box") 631, Value.str (Str.ofString "way") 632, Value.str (Str.ofString "at") 633, Value.str (Str.ofString "number") 634, Value.str (Str.ofString "text") 635, Value.str (Str.ofString "wide") 636, Value.str (Str.ofString "spot") 637, Value.str (Str.ofString "odd") 638] }
noncomputable def o216 (P : Params) : Obj := { cls := Value.none, data := Data.func { name := Str.ofString "_law_spelling", qualname := Str.ofString "_law_spelling", params := a31, body := FuncBody.stmts b31, scope := c31, globals := 0, closure := [], defaults := Value.none, kwdefaults := Value.none } }
noncomputable def o217 (P : Params) : Obj := { cls := Value.type "code", data := Data.fields #[Value.str (Str.ofString "_law_spelling") 627, Value.str (Str.ofString "_law_spelling") 628, Value.str (Str.ofString "/claim/cut.py") 629, Value.int 168 0, Value.int 2 0, Value.int 0 0, Value.int 0 0, Value.int 3 0, Value.ref 310, Value.bool true, Value.int 181 0, Value.ref 311, Value.none, Value.ref 312, Value.ref 313, Value.ref 314, Value.int 639 0, Value.int 168 0, Value.str (Str.ofString "/claim/cut.py") 640] }
noncomputable def o218 (P : Params) : Obj := { cls := Value.type "function", data := Data.func { name := Str.ofString "_law_spelling", qualname := Str.ofString "_law_spelling", params := a31, body := FuncBody.stmts b31, scope := c31, globals := 3, closure := [], defaults := Value.none, kwdefaults := Value.none, pyModule := Value.str (Str.ofString "law_pq0933_01") 540, code := Value.ref 315 } }
noncomputable def o219 (P : Params) : Obj := { cls := Value.type "tuple", data := Data.seq #[Value.str (Str.ofString "urn") 645, Value.str (Str.ofString "name") 646, Value.str (Str.ofString "text") 647, Value.str (Str.ofString "bent") 648, Value.str (Str.ofString "trail") 649, Value.str (Str.ofString "rest") 650, Value.str (Str.ofString "plain") 651] }
noncomputable def o220 (P : Params) : Obj := { cls := Value.none, data := Data.func { name := Str.ofString "_law_rest", qualname := Str.ofString "_law_rest", params := a32, body := FuncBody.stmts b32, scope := c32, globals := 0, closure := [], defaults := Value.none, kwdefaults := Value.none } }
noncomputable def o221 (P : Params) : Obj := { cls := Value.type "code", data := Data.fields #[Value.str (Str.ofString "_law_rest") 642, Value.str (Str.ofString "_law_rest") 643, Value.str (Str.ofString "/claim/cut.py") 644, Value.int 179 0, Value.int 3 0, Value.int 0 0, Value.int 0 0, Value.int 3 0, Value.ref 317, Value.bool true, Value.int 181 0, Value.ref 318, Value.none, Value.ref 319, Value.ref 320, Value.ref 321, Value.int 652 0, Value.int 179 0, Value.str (Str.ofString "/claim/cut.py") 653] }
noncomputable def o222 (P : Params) : Obj := { cls := Value.type "function", data := Data.func { name := Str.ofString "_law_rest", qualname := Str.ofString "_law_rest", params := a32, body := FuncBody.stmts b32, scope := c32, globals := 3, closure := [], defaults := Value.none, kwdefaults := Value.none, pyModule := Value.str (Str.ofString "law_pq0933_01") 540, code := Value.ref 322 } }
noncomputable def o223 (P : Params) : Obj := { cls := Value.type "tuple", data := Data.seq #[Value.str (Str.ofString "store") 658, Value.str (Str.ofString "rest") 659, Value.str (Str.ofString "words") 660, Value.str (Str.ofString "found") 661, Value.str (Str.ofString "word") 662] }
noncomputable def o224 (P : Params) : Obj := { cls := Value.none, data := Data.func { name := Str.ofString "_law_heard", qualname := Str.ofString "_law_heard", params := a33, body := FuncBody.stmts b33, scope := c33, globals := 0, closure := [], defaults := Value.none, kwdefaults := Value.none } }
noncomputable def o225 (P : Params) : Obj := { cls := Value.type "code", data := Data.fields #[Value.str (Str.ofString "_law_heard") 655, Value.str (Str.ofString "_law_heard") 656, Value.str (Str.ofString "/claim/cut.py") 657, Value.int 193 0, Value.int 2 0, Value.int 0 0, Value.int 0 0, Value.int 3 0, Value.ref 324, Value.bool true, Value.int 181 0, Value.ref 325, Value.none, Value.ref 326, Value.ref 327, Value.ref 328, Value.int 663 0, Value.int 193 0, Value.str (Str.ofString "/claim/cut.py") 664] }
noncomputable def o226 (P : Params) : Obj := { cls := Value.type "function", data := Data.func { name := Str.ofString "_law_heard", qualname := Str.ofString "_law_heard", params := a33, body := FuncBody.stmts b33, scope := c33, globals := 3, closure := [], defaults := Value.none, kwdefaults := Value.none, pyModule := Value.str (Str.ofString "law_pq0933_01") 540, code := Value.ref 329 } }
noncomputable def o227 (P : Params) : Obj := { cls := Value.type "tuple", data := Data.seq #[Value.str (Str.ofString "text") 669] }
noncomputable def o228 (P : Params) : Obj := { cls := Value.none, data := Data.func { name := Str.ofString "_law_read", qualname := Str.ofString "_law_read", params := a34, body := FuncBody.stmts b34, scope := c34, globals := 0, closure := [], defaults := Value.none, kwdefaults := Value.none } }
noncomputable def o229 (P : Params) : Obj := { cls := Value.type "code", data := Data.fields #[Value.str (Str.ofString "_law_read") 666, Value.str (Str.ofString "_law_read") 667, Value.str (Str.ofString "/claim/cut.py") 668, Value.int 203 0, Value.int 1 0, Value.int 0 0, Value.int 0 0, Value.int 3 0, Value.ref 331, Value.bool true, Value.int 181 0, Value.ref 332, Value.none, Value.ref 333, Value.ref 334, Value.ref 335, Value.int 670 0, Value.int 203 0, Value.str (Str.ofString "/claim/cut.py") 671] }
noncomputable def o230 (P : Params) : Obj := { cls := Value.type "function", data := Data.func { name := Str.ofString "_law_read", qualname := Str.ofString "_law_read", params := a34, body := FuncBody.stmts b34, scope := c34, globals := 3, closure := [], defaults := Value.none, kwdefaults := Value.none, pyModule := Value.str (Str.ofString "law_pq0933_01") 540, code := Value.ref 336 } }
noncomputable def o231 (P : Params) : Obj := { cls := Value.none, data := Data.func { name := Str.ofString "_law_is_told", qualname := Str.ofString "_law_is_told", params := a35, body := FuncBody.stmts b35, scope := c35, globals := 0, closure := [], defaults := Value.none, kwdefaults := Value.none } }
noncomputable def o232 (P : Params) : Obj := { cls := Value.type "code", data := Data.fields #[Value.str (Str.ofString "_law_is_told") 673, Value.str (Str.ofString "_law_is_told") 674, Value.str (Str.ofString "/claim/cut.py") 675, Value.int 208 0, Value.int 1 0, Value.int 0 0, Value.int 0 0, Value.int 3 0, Value.ref 338, Value.bool true, Value.int 181 0, Value.ref 339, Value.none, Value.none, Value.none, Value.ref 340, Value.int 676 0, Value.int 208 0, Value.str (Str.ofString "/claim/cut.py") 677] }
noncomputable def o233 (P : Params) : Obj := { cls := Value.type "function", data := Data.func { name := Str.ofString "_law_is_told", qualname := Str.ofString "_law_is_told", params := a35, body := FuncBody.stmts b35, scope := c35, globals := 3, closure := [], defaults := Value.none, kwdefaults := Value.none, pyModule := Value.str (Str.ofString "law_pq0933_01") 540, code := Value.ref 341 } }
noncomputable def o234 (P : Params) : Obj := { cls := Value.type "dict", data := Data.dict #[{ hash := PyData.keyHash P (Str.ofString "__name__"), key := Value.str (Str.ofString "__name__") 165, val := Value.str (Str.ofString "law_pq0933_01") 540 }, { hash := PyData.keyHash P (Str.ofString "__doc__"), key := Value.str (Str.ofString "__doc__") 166, val := Value.none }, { hash := PyData.keyHash P (Str.ofString "__package__"), key := Value.str (Str.ofString "__package__") 167, val := Value.none }, { hash := PyData.keyHash P (Str.ofString "__loader__"), key := Value.str (Str.ofString "__loader__") 168, val := Value.builtin "__main__.__loader__#opaque" }, { hash := PyData.keyHash P (Str.ofString "__spec__"), key := Value.str (Str.ofString "__spec__") 169, val := Value.none }, { hash := PyData.keyHash P (Str.ofString "__annotations__"), key := Value.str (Str.ofString "__annotations__") 170, val := Value.ref 6 }, { hash := PyData.keyHash P (Str.ofString "__builtins__"), key := Value.str (Str.ofString "__builtins__") 171, val := Value.ref 4 }, { hash := PyData.keyHash P (Str.ofString "__file__"), key := Value.str (Str.ofString "__file__") 173, val := Value.str (Str.ofString "/claim/cut.py") 172 }, { hash := PyData.keyHash P (Str.ofString "__cached__"), key := Value.str (Str.ofString "__cached__") 174, val := Value.none }, { hash := PyData.keyHash P (Str.ofString "_wall"), key := Value.str (Str.ofString "_wall") 193, val := Value.ref 21 }, { hash := PyData.keyHash P (Str.ofString "PostError"), key := Value.str (Str.ofString "PostError") 235, val := Value.ref 46 }, { hash := PyData.keyHash P (Str.ofString "StoreFault"), key := Value.str (Str.ofString "StoreFault") 251, val := Value.ref 59 }, { hash := PyData.keyHash P (Str.ofString "DeskFault"), key := Value.str (Str.ofString "DeskFault") 267, val := Value.ref 71 }, { hash := PyData.keyHash P (Str.ofString "parts_between"), key := Value.str (Str.ofString "parts_between") 277, val := Value.ref 79 }, { hash := PyData.keyHash P (Str.ofString "whole_number"), key := Value.str (Str.ofString "whole_number") 283, val := Value.ref 84 }, { hash := PyData.keyHash P (Str.ofString "words_of"), key := Value.str (Str.ofString "words_of") 292, val := Value.ref 91 }, { hash := PyData.keyHash P (Str.ofString "letter_line"), key := Value.str (Str.ofString "letter_line") 301, val := Value.ref 98 }, { hash := PyData.keyHash P (Str.ofString "box_told"), key := Value.str (Str.ofString "box_told") 307, val := Value.ref 103 }, { hash := PyData.keyHash P (Str.ofString "letter_in"), key := Value.str (Str.ofString "letter_in") 316, val := Value.ref 110 }, { hash := PyData.keyHash P (Str.ofString "numbers_told"), key := Value.str (Str.ofString "numbers_told") 322, val := Value.ref 115 }, { hash := PyData.keyHash P (Str.ofString "Letter"), key := Value.str (Str.ofString "Letter") 376, val := Value.ref 146 }, { hash := PyData.keyHash P (Str.ofString "Box"), key := Value.str (Str.ofString "Box") 433, val := Value.ref 184 }, { hash := PyData.keyHash P (Str.ofString "place_of"), key := Value.str (Str.ofString "place_of") 444, val := Value.ref 195 }, { hash := PyData.keyHash P (Str.ofString "upper_text"), key := Value.str (Str.ofString "upper_text") 452, val := Value.ref 200 }, { hash := PyData.keyHash P (Str.ofString "DELIMITER"), key := Value.str (Str.ofString "DELIMITER") 456, val := Value.str (Str.ofString "/") 455 }, { hash := PyData.keyHash P (Str.ofString "INBOX_names"), key := Value.str (Str.ofString "INBOX_names") 458, val := Value.str (Str.ofString "INBOX") 457 }, { hash := PyData.keyHash P (Str.ofString "first_part"), key := Value.str (Str.ofString "first_part") 466, val := Value.ref 207 }, { hash := PyData.keyHash P (Str.ofString "normal_name"), key := Value.str (Str.ofString "normal_name") 475, val := Value.ref 214 }, { hash := PyData.keyHash P (Str.ofString "INBOX_store"), key := Value.str (Str.ofString "INBOX_store") 479, val := Value.str (Str.ofString "INBOX") 478 }, { hash := PyData.keyHash P (Str.ofString "Store"), key := Value.str (Str.ofString "Store") 539, val := Value.ref 257 }, { hash := PyData.keyHash P (Str.ofString "_law_urn"), key := Value.str (Str.ofString "_law_urn") 547, val := Value.ref 266 }, { hash := PyData.keyHash P (Str.ofString "_law_pull"), key := Value.str (Str.ofString "_law_pull") 556, val := Value.ref 273 }, { hash := PyData.keyHash P (Str.ofString "_law_names"), key := Value.str (Str.ofString "_law_names") 561, val := Value.ref 274 }, { hash := PyData.keyHash P (Str.ofString "_law_spelled"), key := Value.str (Str.ofString "_law_spelled") 586, val := Value.ref 287 }, { hash := PyData.keyHash P (Str.ofString "_law_odd"), key := Value.str (Str.ofString "_law_odd") 597, val := Value.ref 288 }, { hash := PyData.keyHash P (Str.ofString "_law_box"), key := Value.str (Str.ofString "_law_box") 608, val := Value.ref 295 }, { hash := PyData.keyHash P (Str.ofString "_law_figures"), key := Value.str (Str.ofString "_law_figures") 617, val := Value.ref 302 }, { hash := PyData.keyHash P (Str.ofString "_law_number"), key := Value.str (Str.ofString "_law_number") 626, val := Value.ref 309 }, { hash := PyData.keyHash P (Str.ofString "_law_spelling"), key := Value.str (Str.ofString "_law_spelling") 641, val := Value.ref 316 }, { hash := PyData.keyHash P (Str.ofString "_law_rest"), key := Value.str (Str.ofString "_law_rest") 654, val := Value.ref 323 }, { hash := PyData.keyHash P (Str.ofString "_law_heard"), key := Value.str (Str.ofString "_law_heard") 665, val := Value.ref 330 }, { hash := PyData.keyHash P (Str.ofString "_law_read"), key := Value.str (Str.ofString "_law_read") 672, val := Value.ref 337 }, { hash := PyData.keyHash P (Str.ofString "_law_is_told"), key := Value.str (Str.ofString "_law_is_told") 678, val := Value.ref 342 }, { hash := PyData.keyHash P (Str.ofString "law"), key := Value.str (Str.ofString "law") 684, val := Value.ref 347 }] 44 }
noncomputable def o235 (P : Params) : Obj := { cls := Value.none, data := Data.fields #[Value.int 1 0, Value.int 0 0, Value.ref 20, Value.int 5 0, Value.int 0 0, Value.ref 27, Value.int 14 0, Value.int 0 0, Value.ref 55, Value.int 16 0, Value.int 0 0, Value.ref 67, Value.int 19 0, Value.int 0 0, Value.ref 78, Value.int 22 0, Value.int 0 0, Value.ref 83, Value.int 26 0, Value.int 0 0, Value.ref 90, Value.int 31 0, Value.int 0 0, Value.ref 97, Value.int 34 0, Value.int 0 0, Value.ref 102, Value.int 37 0, Value.int 0 0, Value.ref 109, Value.int 42 0, Value.int 0 0, Value.ref 114, Value.int 45 0, Value.int 0 0, Value.ref 121, Value.int 59 0, Value.int 0 0, Value.ref 156, Value.int 80 0, Value.int 0 0, Value.ref 194, Value.int 92 0, Value.int 0 0, Value.ref 199, Value.int 97 0, Value.int 0 0, Value.ref 206, Value.int 102 0, Value.int 0 0, Value.ref 213, Value.int 109 0, Value.int 0 0, Value.ref 220, Value.int 132 0, Value.int 0 0, Value.ref 265, Value.int 135 0, Value.int 0 0, Value.ref 272, Value.int 145 0, Value.int 0 0, Value.ref 294, Value.int 154 0, Value.int 0 0, Value.ref 301, Value.int 159 0, Value.int 0 0, Value.ref 308, Value.int 168 0, Value.int 0 0, Value.ref 315, Value.int 179 0, Value.int 0 0, Value.ref 322, Value.int 193 0, Value.int 0 0, Value.ref 329, Value.int 203 0, Value.int 0 0, Value.ref 336, Value.int 208 0, Value.int 0 0, Value.ref 341, Value.int 223 0, Value.int 0 0, Value.ref 346] }
noncomputable def o236 (P : Params) : Obj := { cls := Value.none, data := Data.func { name := Str.ofString "law", qualname := Str.ofString "law", params := a36, body := FuncBody.stmts b36, scope := c36, globals := 0, closure := [], defaults := Value.none, kwdefaults := Value.none } }
noncomputable def o237 (P : Params) : Obj := { cls := Value.type "code", data := Data.fields #[Value.str (Str.ofString "law") 679, Value.str (Str.ofString "law") 680, Value.str (Str.ofString "/claim/cut.py") 681, Value.int 223 0, Value.int 1 0, Value.int 0 0, Value.int 0 0, Value.int 3 0, Value.ref 343, Value.bool true, Value.int 181 0, Value.ref 344, Value.none, Value.none, Value.none, Value.ref 345, Value.int 682 0, Value.int 223 0, Value.str (Str.ofString "/claim/cut.py") 683] }
noncomputable def o238 (P : Params) : Obj := { cls := Value.type "function", data := Data.func { name := Str.ofString "law", qualname := Str.ofString "law", params := a36, body := FuncBody.stmts b36, scope := c36, globals := 3, closure := [], defaults := Value.none, kwdefaults := Value.none, pyModule := Value.str (Str.ofString "law_pq0933_01") 540, code := Value.ref 346 } }
noncomputable def hA (P : Params) : Heap := ⟨⟨[boot_o_0 P, boot_o_1 P, boot_o_2 P, boot_o_3 P, boot_o_4 P, boot_o_5 P, boot_o_6 P, boot_o_7 P, boot_o_8 P, boot_o_9 P, boot_o_10 P, o0 P, o1 P, o2 P, o3 P]⟩, { }⟩
noncomputable def tB (P : Params) : BT := (.node (boot_o_0 P) (.node (boot_o_1 P) (.node (boot_o_3 P) (.node (boot_o_7 P) .nil .nil) (.node (o0 P) .nil .nil)) (.node (boot_o_5 P) (.node (boot_o_9 P) .nil .nil) (.node (o2 P) .nil .nil))) (.node (boot_o_2 P) (.node (boot_o_4 P) (.node (boot_o_8 P) .nil .nil) (.node (o1 P) .nil .nil)) (.node (boot_o_6 P) (.node (boot_o_10 P) .nil .nil) (.node (o3 P) .nil .nil))))
noncomputable def t0 (P : Params) : BT := (.node (boot_o_0 P) (.node (boot_o_1 P) (.node (o5 P) (.node (boot_o_7 P) (.node (o0 P) (.node (o1 P) .nil .nil) (.node (o29 P) .nil .nil)) (.node (o12 P) (.node (o22 P) .nil .nil) .nil)) (.node (o0 P) (.node (o8 P) (.node (o20 P) .nil .nil) .nil) (.node (o15 P) (.node (o25 P) .nil .nil) .nil))) (.node (boot_o_5 P) (.node (boot_o_9 P) (.node (o7 P) (.node (o0 P) .nil .nil) (.node (o31 P) .nil .nil)) (.node (o0 P) (.node (o23 P) .nil .nil) .nil)) (.node (o2 P) (.node (o10 P) (.node (o0 P) .nil .nil) .nil) (.node (o17 P) (.node (o27 P) .nil .nil) .nil)))) (.node (o4 P) (.node (boot_o_4 P) (.node (boot_o_8 P) (.node (o1 P) (.node (o18 P) .nil .nil) (.node (o30 P) .nil .nil)) (.node (o13 P) (.node (o0 P) .nil .nil) .nil)) (.node (o6 P) (.node (o9 P) (.node (o21 P) .nil .nil) .nil) (.node (o16 P) (.node (o26 P) .nil .nil) .nil))) (.node (boot_o_6 P) (.node (boot_o_10 P) (.node (o0 P) (.node (o19 P) .nil .nil) .nil) (.node (o14 P) (.node (o24 P) .nil .nil) .nil)) (.node (o3 P) (.node (o11 P) (.node (o1 P) .nil .nil) .nil) (.node (o0 P) (.node (o28 P) .nil .nil) .nil)))))
noncomputable def t1 (P : Params) : BT := (.node (boot_o_0 P) (.node (boot_o_1 P) (.node (o32 P) (.node (boot_o_7 P) (.node (o0 P) (.node (o1 P) .nil .nil) (.node (o29 P) .nil .nil)) (.node (o12 P) (.node (o22 P) .nil .nil) (.node (o37 P) .nil .nil))) (.node (o0 P) (.node (o8 P) (.node (o20 P) .nil .nil) (.node (o12 P) .nil .nil)) (.node (o15 P) (.node (o25 P) .nil .nil) (.node (o40 P) .nil .nil)))) (.node (boot_o_5 P) (.node (boot_o_9 P) (.node (o7 P) (.node (o0 P) .nil .nil) (.node (o31 P) .nil .nil)) (.node (o0 P) (.node (o23 P) .nil .nil) (.node (o0 P) .nil .nil))) (.node (o2 P) (.node (o10 P) (.node (o0 P) .nil .nil) (.node (o0 P) .nil .nil)) (.node (o17 P) (.node (o27 P) .nil .nil) (.node (o42 P) .nil .nil))))) (.node (o4 P) (.node (boot_o_4 P) (.node (boot_o_8 P) (.node (o1 P) (.node (o18 P) .nil .nil) (.node (o30 P) .nil .nil)) (.node (o13 P) (.node (o0 P) .nil .nil) (.node (o38 P) .nil .nil))) (.node (o33 P) (.node (o9 P) (.node (o21 P) .nil .nil) (.node (o36 P) .nil .nil)) (.node (o16 P) (.node (o26 P) .nil .nil) (.node (o41 P) .nil .nil)))) (.node (boot_o_6 P) (.node (boot_o_10 P) (.node (o0 P) (.node (o19 P) .nil .nil) (.node (o35 P) .nil .nil)) (.node (o14 P) (.node (o24 P) .nil .nil) (.node (o39 P) .nil .nil))) (.node (o3 P) (.node (o11 P) (.node (o1 P) .nil .nil) (.node (o1 P) .nil .nil)) (.node (o0 P) (.node (o34 P) .nil .nil) .nil)))))
noncomputable def t2 (P : Params) : BT := (.node (boot_o_0 P) (.node (boot_o_1 P) (.node (o43 P) (.node (boot_o_7 P) (.node (o0 P) (.node (o1 P) (.node (o12 P) .nil .nil) (.node (o0 P) .nil .nil)) (.node (o29 P) (.node (o56 P) .nil .nil) .nil)) (.node (o12 P) (.node (o22 P) (.node (o50 P) .nil .nil) (.node (o70 P) .nil .nil)) (.node (o37 P) (.node (o60 P) .nil .nil) .nil))) (.node (o0 P) (.node (o8 P) (.node (o20 P) (.node (o47 P) .nil .nil) (.node (o0 P) .nil .nil)) (.node (o12 P) (.node (o58 P) .nil .nil) .nil)) (.node (o15 P) (.node (o25 P) (.node (o0 P) .nil .nil) (.node (o0 P) .nil .nil)) (.node (o40 P) (.node (o63 P) .nil .nil) .nil)))) (.node (boot_o_5 P) (.node (boot_o_9 P) (.node (o7 P) (.node (o0 P) (.node (o0 P) .nil .nil) (.node (o66 P) .nil .nil)) (.node (o31 P) (.node (o1 P) .nil .nil) .nil)) (.node (o0 P) (.node (o23 P) (.node (o52 P) .nil .nil) (.node (o1 P) .nil .nil)) (.node (o0 P) (.node (o61 P) .nil .nil) .nil))) (.node (o2 P) (.node (o10 P) (.node (o0 P) (.node (o0 P) .nil .nil) (.node (o68 P) .nil .nil)) (.node (o0 P) (.node (o0 P) .nil .nil) .nil)) (.node (o17 P) (.node (o27 P) (.node (o54 P) .nil .nil) (.node (o73 P) .nil .nil)) (.node (o42 P) (.node (o1 P) .nil .nil) .nil))))) (.node (o4 P) (.node (boot_o_4 P) (.node (boot_o_8 P) (.node (o1 P) (.node (o18 P) (.node (o46 P) .nil .nil) (.node (o65 P) .nil .nil)) (.node (o30 P) (.node (o0 P) .nil .nil) .nil)) (.node (o13 P) (.node (o0 P) (.node (o51 P) .nil .nil) (.node (o0 P) .nil .nil)) (.node (o38 P) (.node (o0 P) .nil .nil) .nil))) (.node (o44 P) (.node (o9 P) (.node (o21 P) (.node (o48 P) .nil .nil) (.node (o1 P) .nil .nil)) (.node (o36 P) (.node (o59 P) .nil .nil) .nil)) (.node (o16 P) (.node (o26 P) (.node (o1 P) .nil .nil) (.node (o72 P) .nil .nil)) (.node (o41 P) (.node (o0 P) .nil .nil) .nil)))) (.node (boot_o_6 P) (.node (boot_o_10 P) (.node (o0 P) (.node (o19 P) (.node (o1 P) .nil .nil) (.node (o67 P) .nil .nil)) (.node (o35 P) (.node (o57 P) .nil .nil) .nil)) (.node (o14 P) (.node (o24 P) (.node (o53 P) .nil .nil) (.node (o71 P) .nil .nil)) (.node (o39 P) (.node (o62 P) .nil .nil) .nil))) (.node (o3 P) (.node (o11 P) (.node (o1 P) (.node (o49 P) .nil .nil) (.node (o69 P) .nil .nil)) (.node (o1 P) (.node (o1 P) .nil .nil) .nil)) (.node (o0 P) (.node (o45 P) (.node (o55 P) .nil .nil) (.node (o74 P) .nil .nil)) (.node (o35 P) (.node (o64 P) .nil .nil) .nil))))))
noncomputable def t3 (P : Params) : BT := (.node (boot_o_0 P) (.node (boot_o_1 P) (.node (o75 P) (.node (boot_o_7 P) (.node (o0 P) (.node (o1 P) (.node (o12 P) (.node (o85 P) .nil .nil) .nil) (.node (o0 P) .nil .nil)) (.node (o29 P) (.node (o56 P) (.node (o95 P) .nil .nil) .nil) (.node (o0 P) .nil .nil))) (.node (o12 P) (.node (o22 P) (.node (o50 P) (.node (o90 P) .nil .nil) .nil) (.node (o70 P) .nil .nil)) (.node (o37 P) (.node (o60 P) .nil .nil) (.node (o0 P) .nil .nil)))) (.node (o0 P) (.node (o8 P) (.node (o20 P) (.node (o47 P) (.node (o1 P) .nil .nil) .nil) (.node (o0 P) .nil .nil)) (.node (o12 P) (.node (o58 P) (.node (o99 P) .nil .nil) .nil) (.node (o79 P) .nil .nil))) (.node (o15 P) (.node (o25 P) (.node (o0 P) (.node (o92 P) .nil .nil) .nil) (.node (o0 P) .nil .nil)) (.node (o40 P) (.node (o63 P) .nil .nil) (.node (o0 P) .nil .nil))))) (.node (boot_o_5 P) (.node (boot_o_9 P) (.node (o7 P) (.node (o0 P) (.node (o0 P) (.node (o87 P) .nil .nil) .nil) (.node (o66 P) .nil .nil)) (.node (o31 P) (.node (o1 P) (.node (o97 P) .nil .nil) .nil) (.node (o77 P) .nil .nil))) (.node (o0 P) (.node (o23 P) (.node (o52 P) (.node (o0 P) .nil .nil) .nil) (.node (o1 P) .nil .nil)) (.node (o0 P) (.node (o61 P) .nil .nil) (.node (o82 P) .nil .nil)))) (.node (o2 P) (.node (o10 P) (.node (o0 P) (.node (o0 P) (.node (o0 P) .nil .nil) .nil) (.node (o68 P) .nil .nil)) (.node (o0 P) (.node (o0 P) (.node (o101 P) .nil .nil) .nil) (.node (o12 P) .nil .nil))) (.node (o17 P) (.node (o27 P) (.node (o54 P) (.node (o93 P) .nil .nil) .nil) (.node (o73 P) .nil .nil)) (.node (o42 P) (.node (o1 P) .nil .nil) (.node (o84 P) .nil .nil)))))) (.node (o4 P) (.node (boot_o_4 P) (.node (boot_o_8 P) (.node (o1 P) (.node (o18 P) (.node (o46 P) (.node (o86 P) .nil .nil) .nil) (.node (o65 P) .nil .nil)) (.node (o30 P) (.node (o0 P) (.node (o96 P) .nil .nil) .nil) (.node (o1 P) .nil .nil))) (.node (o13 P) (.node (o0 P) (.node (o51 P) (.node (o91 P) .nil .nil) .nil) (.node (o0 P) .nil .nil)) (.node (o38 P) (.node (o0 P) .nil .nil) (.node (o81 P) .nil .nil)))) (.node (o76 P) (.node (o9 P) (.node (o21 P) (.node (o48 P) (.node (o88 P) .nil .nil) .nil) (.node (o1 P) .nil .nil)) (.node (o36 P) (.node (o59 P) (.node (o100 P) .nil .nil) .nil) (.node (o0 P) .nil .nil))) (.node (o16 P) (.node (o26 P) (.node (o1 P) (.node (o0 P) .nil .nil) .nil) (.node (o72 P) .nil .nil)) (.node (o41 P) (.node (o0 P) .nil .nil) (.node (o1 P) .nil .nil))))) (.node (boot_o_6 P) (.node (boot_o_10 P) (.node (o0 P) (.node (o19 P) (.node (o1 P) (.node (o0 P) .nil .nil) .nil) (.node (o67 P) .nil .nil)) (.node (o35 P) (.node (o57 P) (.node (o98 P) .nil .nil) .nil) (.node (o78 P) .nil .nil))) (.node (o14 P) (.node (o24 P) (.node (o53 P) (.node (o1 P) .nil .nil) .nil) (.node (o71 P) .nil .nil)) (.node (o39 P) (.node (o62 P) .nil .nil) (.node (o83 P) .nil .nil)))) (.node (o3 P) (.node (o11 P) (.node (o1 P) (.node (o49 P) (.node (o89 P) .nil .nil) .nil) (.node (o69 P) .nil .nil)) (.node (o1 P) (.node (o1 P) (.node (o102 P) .nil .nil) .nil) (.node (o80 P) .nil .nil))) (.node (o0 P) (.node (o45 P) (.node (o55 P) (.node (o94 P) .nil .nil) .nil) (.node (o74 P) .nil .nil)) (.node (o35 P) (.node (o64 P) .nil .nil) (.node (o0 P) .nil .nil)))))))
noncomputable def t4 (P : Params) : BT := (.node (boot_o_0 P) (.node (boot_o_1 P) (.node (o103 P) (.node (boot_o_7 P) (.node (o0 P) (.node (o1 P) (.node (o12 P) (.node (o85 P) .nil .nil) (.node (o130 P) .nil .nil)) (.node (o0 P) (.node (o1 P) .nil .nil) .nil)) (.node (o29 P) (.node (o56 P) (.node (o95 P) .nil .nil) .nil) (.node (o0 P) (.node (o118 P) .nil .nil) .nil))) (.node (o12 P) (.node (o22 P) (.node (o50 P) (.node (o90 P) .nil .nil) (.node (o135 P) .nil .nil)) (.node (o70 P) (.node (o113 P) .nil .nil) .nil)) (.node (o37 P) (.node (o60 P) (.node (o0 P) .nil .nil) .nil) (.node (o0 P) (.node (o124 P) .nil .nil) .nil)))) (.node (o0 P) (.node (o8 P) (.node (o20 P) (.node (o47 P) (.node (o1 P) .nil .nil) (.node (o133 P) .nil .nil)) (.node (o0 P) (.node (o111 P) .nil .nil) .nil)) (.node (o12 P) (.node (o58 P) (.node (o99 P) .nil .nil) .nil) (.node (o79 P) (.node (o120 P) .nil .nil) .nil))) (.node (o15 P) (.node (o25 P) (.node (o0 P) (.node (o92 P) .nil .nil) .nil) (.node (o0 P) (.node (o116 P) .nil .nil) .nil)) (.node (o40 P) (.node (o63 P) (.node (o106 P) .nil .nil) .nil) (.node (o0 P) (.node (o128 P) .nil .nil) .nil))))) (.node (boot_o_5 P) (.node (boot_o_9 P) (.node (o7 P) (.node (o0 P) (.node (o0 P) (.node (o87 P) .nil .nil) (.node (o131 P) .nil .nil)) (.node (o66 P) (.node (o0 P) .nil .nil) .nil)) (.node (o31 P) (.node (o1 P) (.node (o97 P) .nil .nil) .nil) (.node (o77 P) (.node (o0 P) .nil .nil) .nil))) (.node (o0 P) (.node (o23 P) (.node (o52 P) (.node (o0 P) .nil .nil) .nil) (.node (o1 P) (.node (o114 P) .nil .nil) .nil)) (.node (o0 P) (.node (o61 P) (.node (o105 P) .nil .nil) .nil) (.node (o82 P) (.node (o126 P) .nil .nil) .nil)))) (.node (o2 P) (.node (o10 P) (.node (o0 P) (.node (o0 P) (.node (o0 P) .nil .nil) (.node (o1 P) .nil .nil)) (.node (o68 P) (.node (o0 P) .nil .nil) .nil)) (.node (o0 P) (.node (o0 P) (.node (o101 P) .nil .nil) .nil) (.node (o12 P) (.node (o122 P) .nil .nil) .nil))) (.node (o17 P) (.node (o27 P) (.node (o54 P) (.node (o93 P) .nil .nil) .nil) (.node (o73 P) (.node (o1 P) .nil .nil) .nil)) (.node (o42 P) (.node (o1 P) (.node (o108 P) .nil .nil) .nil) (.node (o84 P) (.node (o0 P) .nil .nil) .nil)))))) (.node (o4 P) (.node (boot_o_4 P) (.node (boot_o_8 P) (.node (o1 P) (.node (o18 P) (.node (o46 P) (.node (o86 P) .nil .nil) (.node (o0 P) .nil .nil)) (.node (o65 P) (.node (o109 P) .nil .nil) .nil)) (.node (o30 P) (.node (o0 P) (.node (o96 P) .nil .nil) .nil) (.node (o1 P) (.node (o119 P) .nil .nil) .nil))) (.node (o13 P) (.node (o0 P) (.node (o51 P) (.node (o91 P) .nil .nil) (.node (o136 P) .nil .nil)) (.node (o0 P) (.node (o0 P) .nil .nil) .nil)) (.node (o38 P) (.node (o0 P) (.node (o12 P) .nil .nil) .nil) (.node (o81 P) (.node (o125 P) .nil .nil) .nil)))) (.node (o104 P) (.node (o9 P) (.node (o21 P) (.node (o48 P) (.node (o88 P) .nil .nil) (.node (o0 P) .nil .nil)) (.node (o1 P) (.node (o112 P) .nil .nil) .nil)) (.node (o36 P) (.node (o59 P) (.node (o100 P) .nil .nil) .nil) (.node (o0 P) (.node (o121 P) .nil .nil) .nil))) (.node (o16 P) (.node (o26 P) (.node (o1 P) (.node (o0 P) .nil .nil) .nil) (.node (o72 P) (.node (o0 P) .nil .nil) .nil)) (.node (o41 P) (.node (o0 P) (.node (o107 P) .nil .nil) .nil) (.node (o1 P) (.node (o129 P) .nil .nil) .nil))))) (.node (boot_o_6 P) (.node (boot_o_10 P) (.node (o0 P) (.node (o19 P) (.node (o1 P) (.node (o0 P) .nil .nil) (.node (o132 P) .nil .nil)) (.node (o67 P) (.node (o110 P) .nil .nil) .nil)) (.node (o35 P) (.node (o57 P) (.node (o98 P) .nil .nil) .nil) (.node (o78 P) (.node (o1 P) .nil .nil) .nil))) (.node (o14 P) (.node (o24 P) (.node (o53 P) (.node (o1 P) .nil .nil) .nil) (.node (o71 P) (.node (o115 P) .nil .nil) .nil)) (.node (o39 P) (.node (o62 P) (.node (o0 P) .nil .nil) .nil) (.node (o83 P) (.node (o127 P) .nil .nil) .nil)))) (.node (o3 P) (.node (o11 P) (.node (o1 P) (.node (o49 P) (.node (o89 P) .nil .nil) (.node (o134 P) .nil .nil)) (.node (o69 P) (.node (o1 P) .nil .nil) .nil)) (.node (o1 P) (.node (o1 P) (.node (o102 P) .nil .nil) .nil) (.node (o80 P) (.node (o123 P) .nil .nil) .nil))) (.node (o0 P) (.node (o45 P) (.node (o55 P) (.node (o94 P) .nil .nil) .nil) (.node (o74 P) (.node (o117 P) .nil .nil) .nil)) (.node (o35 P) (.node (o64 P) (.node (o0 P) .nil .nil) .nil) (.node (o0 P) (.node (o1 P) .nil .nil) .nil)))))))
noncomputable def t5 (P : Params) : BT := (.node (boot_o_0 P) (.node (boot_o_1 P) (.node (o137 P) (.node (boot_o_7 P) (.node (o0 P) (.node (o1 P) (.node (o12 P) (.node (o85 P) .nil .nil) (.node (o130 P) .nil .nil)) (.node (o0 P) (.node (o1 P) .nil .nil) .nil)) (.node (o29 P) (.node (o56 P) (.node (o95 P) .nil .nil) (.node (o142 P) .nil .nil)) (.node (o0 P) (.node (o118 P) .nil .nil) .nil))) (.node (o12 P) (.node (o22 P) (.node (o50 P) (.node (o90 P) .nil .nil) (.node (o135 P) .nil .nil)) (.node (o70 P) (.node (o113 P) .nil .nil) .nil)) (.node (o37 P) (.node (o60 P) (.node (o0 P) .nil .nil) .nil) (.node (o0 P) (.node (o124 P) .nil .nil) .nil)))) (.node (o0 P) (.node (o8 P) (.node (o20 P) (.node (o47 P) (.node (o1 P) .nil .nil) (.node (o133 P) .nil .nil)) (.node (o0 P) (.node (o111 P) .nil .nil) .nil)) (.node (o12 P) (.node (o58 P) (.node (o99 P) .nil .nil) (.node (o0 P) .nil .nil)) (.node (o79 P) (.node (o120 P) .nil .nil) .nil))) (.node (o15 P) (.node (o25 P) (.node (o0 P) (.node (o92 P) .nil .nil) (.node (o139 P) .nil .nil)) (.node (o0 P) (.node (o116 P) .nil .nil) .nil)) (.node (o40 P) (.node (o63 P) (.node (o106 P) .nil .nil) .nil) (.node (o0 P) (.node (o128 P) .nil .nil) .nil))))) (.node (boot_o_5 P) (.node (boot_o_9 P) (.node (o7 P) (.node (o0 P) (.node (o0 P) (.node (o87 P) .nil .nil) (.node (o131 P) .nil .nil)) (.node (o66 P) (.node (o0 P) .nil .nil) .nil)) (.node (o31 P) (.node (o1 P) (.node (o97 P) .nil .nil) (.node (o1 P) .nil .nil)) (.node (o77 P) (.node (o0 P) .nil .nil) .nil))) (.node (o0 P) (.node (o23 P) (.node (o52 P) (.node (o0 P) .nil .nil) (.node (o0 P) .nil .nil)) (.node (o1 P) (.node (o114 P) .nil .nil) .nil)) (.node (o0 P) (.node (o61 P) (.node (o105 P) .nil .nil) .nil) (.node (o82 P) (.node (o126 P) .nil .nil) .nil)))) (.node (o2 P) (.node (o10 P) (.node (o0 P) (.node (o0 P) (.node (o0 P) .nil .nil) (.node (o1 P) .nil .nil)) (.node (o68 P) (.node (o0 P) .nil .nil) .nil)) (.node (o0 P) (.node (o0 P) (.node (o101 P) .nil .nil) (.node (o145 P) .nil .nil)) (.node (o12 P) (.node (o122 P) .nil .nil) .nil))) (.node (o17 P) (.node (o27 P) (.node (o54 P) (.node (o93 P) .nil .nil) (.node (o140 P) .nil .nil)) (.node (o73 P) (.node (o1 P) .nil .nil) .nil)) (.node (o42 P) (.node (o1 P) (.node (o108 P) .nil .nil) .nil) (.node (o84 P) (.node (o0 P) .nil .nil) .nil)))))) (.node (o4 P) (.node (boot_o_4 P) (.node (boot_o_8 P) (.node (o1 P) (.node (o18 P) (.node (o46 P) (.node (o86 P) .nil .nil) (.node (o0 P) .nil .nil)) (.node (o65 P) (.node (o109 P) .nil .nil) .nil)) (.node (o30 P) (.node (o0 P) (.node (o96 P) .nil .nil) (.node (o0 P) .nil .nil)) (.node (o1 P) (.node (o119 P) .nil .nil) .nil))) (.node (o13 P) (.node (o0 P) (.node (o51 P) (.node (o91 P) .nil .nil) (.node (o136 P) .nil .nil)) (.node (o0 P) (.node (o0 P) .nil .nil) .nil)) (.node (o38 P) (.node (o0 P) (.node (o12 P) .nil .nil) .nil) (.node (o81 P) (.node (o125 P) .nil .nil) .nil)))) (.node (o138 P) (.node (o9 P) (.node (o21 P) (.node (o48 P) (.node (o88 P) .nil .nil) (.node (o0 P) .nil .nil)) (.node (o1 P) (.node (o112 P) .nil .nil) .nil)) (.node (o36 P) (.node (o59 P) (.node (o100 P) .nil .nil) (.node (o144 P) .nil .nil)) (.node (o0 P) (.node (o121 P) .nil .nil) .nil))) (.node (o16 P) (.node (o26 P) (.node (o1 P) (.node (o0 P) .nil .nil) (.node (o0 P) .nil .nil)) (.node (o72 P) (.node (o0 P) .nil .nil) .nil)) (.node (o41 P) (.node (o0 P) (.node (o107 P) .nil .nil) .nil) (.node (o1 P) (.node (o129 P) .nil .nil) .nil))))) (.node (boot_o_6 P) (.node (boot_o_10 P) (.node (o0 P) (.node (o19 P) (.node (o1 P) (.node (o0 P) .nil .nil) (.node (o132 P) .nil .nil)) (.node (o67 P) (.node (o110 P) .nil .nil) .nil)) (.node (o35 P) (.node (o57 P) (.node (o98 P) .nil .nil) (.node (o143 P) .nil .nil)) (.node (o78 P) (.node (o1 P) .nil .nil) .nil))) (.node (o14 P) (.node (o24 P) (.node (o53 P) (.node (o1 P) .nil .nil) (.node (o1 P) .nil .nil)) (.node (o71 P) (.node (o115 P) .nil .nil) .nil)) (.node (o39 P) (.node (o62 P) (.node (o0 P) .nil .nil) .nil) (.node (o83 P) (.node (o127 P) .nil .nil) .nil)))) (.node (o3 P) (.node (o11 P) (.node (o1 P) (.node (o49 P) (.node (o89 P) .nil .nil) (.node (o134 P) .nil .nil)) (.node (o69 P) (.node (o1 P) .nil .nil) .nil)) (.node (o1 P) (.node (o1 P) (.node (o102 P) .nil .nil) (.node (o146 P) .nil .nil)) (.node (o80 P) (.node (o123 P) .nil .nil) .nil))) (.node (o0 P) (.node (o45 P) (.node (o55 P) (.node (o94 P) .nil .nil) (.node (o141 P) .nil .nil)) (.node (o74 P) (.node (o117 P) .nil .nil) .nil)) (.node (o35 P) (.node (o64 P) (.node (o0 P) .nil .nil) .nil) (.node (o0 P) (.node (o1 P) .nil .nil) .nil)))))))
noncomputable def t6 (P : Params) : BT := (.node (boot_o_0 P) (.node (boot_o_1 P) (.node (o147 P) (.node (boot_o_7 P) (.node (o0 P) (.node (o1 P) (.node (o12 P) (.node (o85 P) (.node (o172 P) .nil .nil) .nil) (.node (o130 P) .nil .nil)) (.node (o0 P) (.node (o1 P) .nil .nil) (.node (o1 P) .nil .nil))) (.node (o29 P) (.node (o56 P) (.node (o95 P) .nil .nil) (.node (o142 P) .nil .nil)) (.node (o0 P) (.node (o118 P) .nil .nil) (.node (o0 P) .nil .nil)))) (.node (o12 P) (.node (o22 P) (.node (o50 P) (.node (o90 P) (.node (o1 P) .nil .nil) .nil) (.node (o135 P) .nil .nil)) (.node (o70 P) (.node (o113 P) .nil .nil) (.node (o157 P) .nil .nil))) (.node (o37 P) (.node (o60 P) (.node (o0 P) .nil .nil) (.node (o0 P) .nil .nil)) (.node (o0 P) (.node (o124 P) .nil .nil) (.node (o166 P) .nil .nil))))) (.node (o0 P) (.node (o8 P) (.node (o20 P) (.node (o47 P) (.node (o1 P) (.node (o176 P) .nil .nil) .nil) (.node (o133 P) .nil .nil)) (.node (o0 P) (.node (o111 P) .nil .nil) (.node (o155 P) .nil .nil))) (.node (o12 P) (.node (o58 P) (.node (o99 P) .nil .nil) (.node (o0 P) .nil .nil)) (.node (o79 P) (.node (o120 P) .nil .nil) (.node (o0 P) .nil .nil)))) (.node (o15 P) (.node (o25 P) (.node (o0 P) (.node (o92 P) .nil .nil) (.node (o139 P) .nil .nil)) (.node (o0 P) (.node (o116 P) .nil .nil) (.node (o160 P) .nil .nil))) (.node (o40 P) (.node (o63 P) (.node (o106 P) .nil .nil) (.node (o150 P) .nil .nil)) (.node (o0 P) (.node (o128 P) .nil .nil) (.node (o1 P) .nil .nil)))))) (.node (boot_o_5 P) (.node (boot_o_9 P) (.node (o7 P) (.node (o0 P) (.node (o0 P) (.node (o87 P) (.node (o174 P) .nil .nil) .nil) (.node (o131 P) .nil .nil)) (.node (o66 P) (.node (o0 P) .nil .nil) (.node (o0 P) .nil .nil))) (.node (o31 P) (.node (o1 P) (.node (o97 P) .nil .nil) (.node (o1 P) .nil .nil)) (.node (o77 P) (.node (o0 P) .nil .nil) (.node (o163 P) .nil .nil)))) (.node (o0 P) (.node (o23 P) (.node (o52 P) (.node (o0 P) (.node (o180 P) .nil .nil) .nil) (.node (o0 P) .nil .nil)) (.node (o1 P) (.node (o114 P) .nil .nil) (.node (o158 P) .nil .nil))) (.node (o0 P) (.node (o61 P) (.node (o105 P) .nil .nil) (.node (o149 P) .nil .nil)) (.node (o82 P) (.node (o126 P) .nil .nil) (.node (o168 P) .nil .nil))))) (.node (o2 P) (.node (o10 P) (.node (o0 P) (.node (o0 P) (.node (o0 P) (.node (o178 P) .nil .nil) .nil) (.node (o1 P) .nil .nil)) (.node (o68 P) (.node (o0 P) .nil .nil) (.node (o0 P) .nil .nil))) (.node (o0 P) (.node (o0 P) (.node (o101 P) .nil .nil) (.node (o145 P) .nil .nil)) (.node (o12 P) (.node (o122 P) .nil .nil) (.node (o165 P) .nil .nil)))) (.node (o17 P) (.node (o27 P) (.node (o54 P) (.node (o93 P) .nil .nil) (.node (o140 P) .nil .nil)) (.node (o73 P) (.node (o1 P) .nil .nil) (.node (o1 P) .nil .nil))) (.node (o42 P) (.node (o1 P) (.node (o108 P) .nil .nil) (.node (o152 P) .nil .nil)) (.node (o84 P) (.node (o0 P) .nil .nil) (.node (o170 P) .nil .nil))))))) (.node (o4 P) (.node (boot_o_4 P) (.node (boot_o_8 P) (.node (o1 P) (.node (o18 P) (.node (o46 P) (.node (o86 P) (.node (o173 P) .nil .nil) .nil) (.node (o0 P) .nil .nil)) (.node (o65 P) (.node (o109 P) .nil .nil) (.node (o153 P) .nil .nil))) (.node (o30 P) (.node (o0 P) (.node (o96 P) .nil .nil) (.node (o0 P) .nil .nil)) (.node (o1 P) (.node (o119 P) .nil .nil) (.node (o162 P) .nil .nil)))) (.node (o13 P) (.node (o0 P) (.node (o51 P) (.node (o91 P) (.node (o179 P) .nil .nil) .nil) (.node (o136 P) .nil .nil)) (.node (o0 P) (.node (o0 P) .nil .nil) (.node (o0 P) .nil .nil))) (.node (o38 P) (.node (o0 P) (.node (o12 P) .nil .nil) (.node (o12 P) .nil .nil)) (.node (o81 P) (.node (o125 P) .nil .nil) (.node (o167 P) .nil .nil))))) (.node (o148 P) (.node (o9 P) (.node (o21 P) (.node (o48 P) (.node (o88 P) (.node (o177 P) .nil .nil) .nil) (.node (o0 P) .nil .nil)) (.node (o1 P) (.node (o112 P) .nil .nil) (.node (o156 P) .nil .nil))) (.node (o36 P) (.node (o59 P) (.node (o100 P) .nil .nil) (.node (o144 P) .nil .nil)) (.node (o0 P) (.node (o121 P) .nil .nil) (.node (o1 P) .nil .nil)))) (.node (o16 P) (.node (o26 P) (.node (o1 P) (.node (o0 P) .nil .nil) (.node (o0 P) .nil .nil)) (.node (o72 P) (.node (o0 P) .nil .nil) (.node (o0 P) .nil .nil))) (.node (o41 P) (.node (o0 P) (.node (o107 P) .nil .nil) (.node (o151 P) .nil .nil)) (.node (o1 P) (.node (o129 P) .nil .nil) (.node (o169 P) .nil .nil)))))) (.node (boot_o_6 P) (.node (boot_o_10 P) (.node (o0 P) (.node (o19 P) (.node (o1 P) (.node (o0 P) (.node (o175 P) .nil .nil) .nil) (.node (o132 P) .nil .nil)) (.node (o67 P) (.node (o110 P) .nil .nil) (.node (o154 P) .nil .nil))) (.node (o35 P) (.node (o57 P) (.node (o98 P) .nil .nil) (.node (o143 P) .nil .nil)) (.node (o78 P) (.node (o1 P) .nil .nil) (.node (o164 P) .nil .nil)))) (.node (o14 P) (.node (o24 P) (.node (o53 P) (.node (o1 P) (.node (o181 P) .nil .nil) .nil) (.node (o1 P) .nil .nil)) (.node (o71 P) (.node (o115 P) .nil .nil) (.node (o159 P) .nil .nil))) (.node (o39 P) (.node (o62 P) (.node (o0 P) .nil .nil) (.node (o0 P) .nil .nil)) (.node (o83 P) (.node (o127 P) .nil .nil) (.node (o0 P) .nil .nil))))) (.node (o3 P) (.node (o11 P) (.node (o1 P) (.node (o49 P) (.node (o89 P) (.node (o0 P) .nil .nil) .nil) (.node (o134 P) .nil .nil)) (.node (o69 P) (.node (o1 P) .nil .nil) (.node (o1 P) .nil .nil))) (.node (o1 P) (.node (o1 P) (.node (o102 P) .nil .nil) (.node (o146 P) .nil .nil)) (.node (o80 P) (.node (o123 P) .nil .nil) (.node (o0 P) .nil .nil)))) (.node (o0 P) (.node (o45 P) (.node (o55 P) (.node (o94 P) .nil .nil) (.node (o141 P) .nil .nil)) (.node (o74 P) (.node (o117 P) .nil .nil) (.node (o161 P) .nil .nil))) (.node (o35 P) (.node (o64 P) (.node (o0 P) .nil .nil) (.node (o0 P) .nil .nil)) (.node (o0 P) (.node (o1 P) .nil .nil) (.node (o171 P) .nil .nil))))))))
noncomputable def t7 (P : Params) : BT := (.node (boot_o_0 P) (.node (boot_o_1 P) (.node (o182 P) (.node (boot_o_7 P) (.node (o0 P) (.node (o1 P) (.node (o12 P) (.node (o85 P) (.node (o172 P) .nil .nil) .nil) (.node (o130 P) (.node (o219 P) .nil .nil) .nil)) (.node (o0 P) (.node (o1 P) (.node (o201 P) .nil .nil) .nil) (.node (o1 P) .nil .nil))) (.node (o29 P) (.node (o56 P) (.node (o95 P) (.node (o185 P) .nil .nil) .nil) (.node (o142 P) (.node (o228 P) .nil .nil) .nil)) (.node (o0 P) (.node (o118 P) (.node (o0 P) .nil .nil) .nil) (.node (o0 P) .nil .nil)))) (.node (o12 P) (.node (o22 P) (.node (o50 P) (.node (o90 P) (.node (o1 P) .nil .nil) .nil) (.node (o135 P) (.node (o0 P) .nil .nil) .nil)) (.node (o70 P) (.node (o113 P) (.node (o206 P) .nil .nil) .nil) (.node (o157 P) .nil .nil))) (.node (o37 P) (.node (o60 P) (.node (o0 P) (.node (o193 P) .nil .nil) .nil) (.node (o0 P) .nil .nil)) (.node (o0 P) (.node (o124 P) (.node (o1 P) .nil .nil) .nil) (.node (o166 P) .nil .nil))))) (.node (o0 P) (.node (o8 P) (.node (o20 P) (.node (o47 P) (.node (o1 P) (.node (o176 P) .nil .nil) .nil) (.node (o133 P) (.node (o222 P) .nil .nil) .nil)) (.node (o0 P) (.node (o111 P) (.node (o203 P) .nil .nil) .nil) (.node (o155 P) .nil .nil))) (.node (o12 P) (.node (o58 P) (.node (o99 P) (.node (o189 P) .nil .nil) .nil) (.node (o0 P) (.node (o1 P) .nil .nil) .nil)) (.node (o79 P) (.node (o120 P) (.node (o212 P) .nil .nil) .nil) (.node (o0 P) .nil .nil)))) (.node (o15 P) (.node (o25 P) (.node (o0 P) (.node (o92 P) (.node (o0 P) .nil .nil) .nil) (.node (o139 P) (.node (o0 P) .nil .nil) .nil)) (.node (o0 P) (.node (o116 P) (.node (o0 P) .nil .nil) .nil) (.node (o160 P) .nil .nil))) (.node (o40 P) (.node (o63 P) (.node (o106 P) (.node (o197 P) .nil .nil) .nil) (.node (o150 P) .nil .nil)) (.node (o0 P) (.node (o128 P) (.node (o217 P) .nil .nil) .nil) (.node (o1 P) .nil .nil)))))) (.node (boot_o_5 P) (.node (boot_o_9 P) (.node (o7 P) (.node (o0 P) (.node (o0 P) (.node (o87 P) (.node (o174 P) .nil .nil) .nil) (.node (o131 P) (.node (o220 P) .nil .nil) .nil)) (.node (o66 P) (.node (o0 P) (.node (o0 P) .nil .nil) .nil) (.node (o0 P) .nil .nil))) (.node (o31 P) (.node (o1 P) (.node (o97 P) (.node (o187 P) .nil .nil) .nil) (.node (o1 P) (.node (o230 P) .nil .nil) .nil)) (.node (o77 P) (.node (o0 P) (.node (o211 P) .nil .nil) .nil) (.node (o163 P) .nil .nil)))) (.node (o0 P) (.node (o23 P) (.node (o52 P) (.node (o0 P) (.node (o180 P) .nil .nil) .nil) (.node (o0 P) (.node (o225 P) .nil .nil) .nil)) (.node (o1 P) (.node (o114 P) (.node (o1 P) .nil .nil) .nil) (.node (o158 P) .nil .nil))) (.node (o0 P) (.node (o61 P) (.node (o105 P) (.node (o195 P) .nil .nil) .nil) (.node (o149 P) .nil .nil)) (.node (o82 P) (.node (o126 P) (.node (o0 P) .nil .nil) .nil) (.node (o168 P) .nil .nil))))) (.node (o2 P) (.node (o10 P) (.node (o0 P) (.node (o0 P) (.node (o0 P) (.node (o178 P) .nil .nil) .nil) (.node (o1 P) (.node (o1 P) .nil .nil) .nil)) (.node (o68 P) (.node (o0 P) (.node (o204 P) .nil .nil) .nil) (.node (o0 P) .nil .nil))) (.node (o0 P) (.node (o0 P) (.node (o101 P) (.node (o191 P) .nil .nil) .nil) (.node (o145 P) (.node (o232 P) .nil .nil) .nil)) (.node (o12 P) (.node (o122 P) (.node (o214 P) .nil .nil) .nil) (.node (o165 P) .nil .nil)))) (.node (o17 P) (.node (o27 P) (.node (o54 P) (.node (o93 P) (.node (o184 P) .nil .nil) .nil) (.node (o140 P) (.node (o227 P) .nil .nil) .nil)) (.node (o73 P) (.node (o1 P) (.node (o209 P) .nil .nil) .nil) (.node (o1 P) .nil .nil))) (.node (o42 P) (.node (o1 P) (.node (o108 P) (.node (o199 P) .nil .nil) .nil) (.node (o152 P) .nil .nil)) (.node (o84 P) (.node (o0 P) (.node (o0 P) .nil .nil) .nil) (.node (o170 P) .nil .nil))))))) (.node (o4 P) (.node (boot_o_4 P) (.node (boot_o_8 P) (.node (o1 P) (.node (o18 P) (.node (o46 P) (.node (o86 P) (.node (o173 P) .nil .nil) .nil) (.node (o0 P) (.node (o0 P) .nil .nil) .nil)) (.node (o65 P) (.node (o109 P) (.node (o202 P) .nil .nil) .nil) (.node (o153 P) .nil .nil))) (.node (o30 P) (.node (o0 P) (.node (o96 P) (.node (o186 P) .nil .nil) .nil) (.node (o0 P) (.node (o229 P) .nil .nil) .nil)) (.node (o1 P) (.node (o119 P) (.node (o1 P) .nil .nil) .nil) (.node (o162 P) .nil .nil)))) (.node (o13 P) (.node (o0 P) (.node (o51 P) (.node (o91 P) (.node (o179 P) .nil .nil) .nil) (.node (o136 P) (.node (o224 P) .nil .nil) .nil)) (.node (o0 P) (.node (o0 P) (.node (o0 P) .nil .nil) .nil) (.node (o0 P) .nil .nil))) (.node (o38 P) (.node (o0 P) (.node (o12 P) (.node (o194 P) .nil .nil) .nil) (.node (o12 P) .nil .nil)) (.node (o81 P) (.node (o125 P) (.node (o215 P) .nil .nil) .nil) (.node (o167 P) .nil .nil))))) (.node (o183 P) (.node (o9 P) (.node (o21 P) (.node (o48 P) (.node (o88 P) (.node (o177 P) .nil .nil) .nil) (.node (o0 P) (.node (o0 P) .nil .nil) .nil)) (.node (o1 P) (.node (o112 P) (.node (o0 P) .nil .nil) .nil) (.node (o156 P) .nil .nil))) (.node (o36 P) (.node (o59 P) (.node (o100 P) (.node (o190 P) .nil .nil) .nil) (.node (o144 P) (.node (o231 P) .nil .nil) .nil)) (.node (o0 P) (.node (o121 P) (.node (o213 P) .nil .nil) .nil) (.node (o1 P) .nil .nil)))) (.node (o16 P) (.node (o26 P) (.node (o1 P) (.node (o0 P) (.node (o1 P) .nil .nil) .nil) (.node (o0 P) (.node (o1 P) .nil .nil) .nil)) (.node (o72 P) (.node (o0 P) (.node (o208 P) .nil .nil) .nil) (.node (o0 P) .nil .nil))) (.node (o41 P) (.node (o0 P) (.node (o107 P) (.node (o198 P) .nil .nil) .nil) (.node (o151 P) .nil .nil)) (.node (o1 P) (.node (o129 P) (.node (o218 P) .nil .nil) .nil) (.node (o169 P) .nil .nil)))))) (.node (boot_o_6 P) (.node (boot_o_10 P) (.node (o0 P) (.node (o19 P) (.node (o1 P) (.node (o0 P) (.node (o175 P) .nil .nil) .nil) (.node (o132 P) (.node (o221 P) .nil .nil) .nil)) (.node (o67 P) (.node (o110 P) (.node (o1 P) .nil .nil) .nil) (.node (o154 P) .nil .nil))) (.node (o35 P) (.node (o57 P) (.node (o98 P) (.node (o188 P) .nil .nil) .nil) (.node (o143 P) (.node (o0 P) .nil .nil) .nil)) (.node (o78 P) (.node (o1 P) (.node (o0 P) .nil .nil) .nil) (.node (o164 P) .nil .nil)))) (.node (o14 P) (.node (o24 P) (.node (o53 P) (.node (o1 P) (.node (o181 P) .nil .nil) .nil) (.node (o1 P) (.node (o226 P) .nil .nil) .nil)) (.node (o71 P) (.node (o115 P) (.node (o207 P) .nil .nil) .nil) (.node (o159 P) .nil .nil))) (.node (o39 P) (.node (o62 P) (.node (o0 P) (.node (o196 P) .nil .nil) .nil) (.node (o0 P) .nil .nil)) (.node (o83 P) (.node (o127 P) (.node (o216 P) .nil .nil) .nil) (.node (o0 P) .nil .nil))))) (.node (o3 P) (.node (o11 P) (.node (o1 P) (.node (o49 P) (.node (o89 P) (.node (o0 P) .nil .nil) .nil) (.node (o134 P) (.node (o223 P) .nil .nil) .nil)) (.node (o69 P) (.node (o1 P) (.node (o205 P) .nil .nil) .nil) (.node (o1 P) .nil .nil))) (.node (o1 P) (.node (o1 P) (.node (o102 P) (.node (o192 P) .nil .nil) .nil) (.node (o146 P) (.node (o233 P) .nil .nil) .nil)) (.node (o80 P) (.node (o123 P) (.node (o0 P) .nil .nil) .nil) (.node (o0 P) .nil .nil)))) (.node (o0 P) (.node (o45 P) (.node (o55 P) (.node (o94 P) (.node (o0 P) .nil .nil) .nil) (.node (o141 P) (.node (o0 P) .nil .nil) .nil)) (.node (o74 P) (.node (o117 P) (.node (o210 P) .nil .nil) .nil) (.node (o161 P) .nil .nil))) (.node (o35 P) (.node (o64 P) (.node (o0 P) (.node (o200 P) .nil .nil) .nil) (.node (o0 P) .nil .nil)) (.node (o0 P) (.node (o1 P) (.node (o1 P) .nil .nil) .nil) (.node (o171 P) .nil .nil))))))))
noncomputable def t8 (P : Params) : BT := (.node (boot_o_0 P) (.node (boot_o_1 P) (.node (o234 P) (.node (boot_o_7 P) (.node (o0 P) (.node (o1 P) (.node (o12 P) (.node (o85 P) (.node (o172 P) .nil .nil) .nil) (.node (o130 P) (.node (o219 P) .nil .nil) .nil)) (.node (o0 P) (.node (o1 P) (.node (o201 P) .nil .nil) .nil) (.node (o1 P) .nil .nil))) (.node (o29 P) (.node (o56 P) (.node (o95 P) (.node (o185 P) .nil .nil) .nil) (.node (o142 P) (.node (o228 P) .nil .nil) .nil)) (.node (o0 P) (.node (o118 P) (.node (o0 P) .nil .nil) .nil) (.node (o0 P) .nil .nil)))) (.node (o12 P) (.node (o22 P) (.node (o50 P) (.node (o90 P) (.node (o1 P) .nil .nil) .nil) (.node (o135 P) (.node (o0 P) .nil .nil) .nil)) (.node (o70 P) (.node (o113 P) (.node (o206 P) .nil .nil) .nil) (.node (o157 P) .nil .nil))) (.node (o37 P) (.node (o60 P) (.node (o0 P) (.node (o193 P) .nil .nil) .nil) (.node (o0 P) (.node (o0 P) .nil .nil) .nil)) (.node (o0 P) (.node (o124 P) (.node (o1 P) .nil .nil) .nil) (.node (o166 P) .nil .nil))))) (.node (o0 P) (.node (o8 P) (.node (o20 P) (.node (o47 P) (.node (o1 P) (.node (o176 P) .nil .nil) .nil) (.node (o133 P) (.node (o222 P) .nil .nil) .nil)) (.node (o0 P) (.node (o111 P) (.node (o203 P) .nil .nil) .nil) (.node (o155 P) .nil .nil))) (.node (o12 P) (.node (o58 P) (.node (o99 P) (.node (o189 P) .nil .nil) .nil) (.node (o0 P) (.node (o1 P) .nil .nil) .nil)) (.node (o79 P) (.node (o120 P) (.node (o212 P) .nil .nil) .nil) (.node (o0 P) .nil .nil)))) (.node (o15 P) (.node (o25 P) (.node (o0 P) (.node (o92 P) (.node (o0 P) .nil .nil) .nil) (.node (o139 P) (.node (o0 P) .nil .nil) .nil)) (.node (o0 P) (.node (o116 P) (.node (o0 P) .nil .nil) .nil) (.node (o160 P) .nil .nil))) (.node (o40 P) (.node (o63 P) (.node (o106 P) (.node (o197 P) .nil .nil) .nil) (.node (o150 P) (.node (o238 P) .nil .nil) .nil)) (.node (o0 P) (.node (o128 P) (.node (o217 P) .nil .nil) .nil) (.node (o1 P) .nil .nil)))))) (.node (boot_o_5 P) (.node (boot_o_9 P) (.node (o7 P) (.node (o0 P) (.node (o0 P) (.node (o87 P) (.node (o174 P) .nil .nil) .nil) (.node (o131 P) (.node (o220 P) .nil .nil) .nil)) (.node (o66 P) (.node (o0 P) (.node (o0 P) .nil .nil) .nil) (.node (o0 P) .nil .nil))) (.node (o31 P) (.node (o1 P) (.node (o97 P) (.node (o187 P) .nil .nil) .nil) (.node (o1 P) (.node (o230 P) .nil .nil) .nil)) (.node (o77 P) (.node (o0 P) (.node (o211 P) .nil .nil) .nil) (.node (o163 P) .nil .nil)))) (.node (o0 P) (.node (o23 P) (.node (o52 P) (.node (o0 P) (.node (o180 P) .nil .nil) .nil) (.node (o0 P) (.node (o225 P) .nil .nil) .nil)) (.node (o1 P) (.node (o114 P) (.node (o1 P) .nil .nil) .nil) (.node (o158 P) .nil .nil))) (.node (o0 P) (.node (o61 P) (.node (o105 P) (.node (o195 P) .nil .nil) .nil) (.node (o149 P) (.node (o236 P) .nil .nil) .nil)) (.node (o82 P) (.node (o126 P) (.node (o0 P) .nil .nil) .nil) (.node (o168 P) .nil .nil))))) (.node (o2 P) (.node (o10 P) (.node (o0 P) (.node (o0 P) (.node (o0 P) (.node (o178 P) .nil .nil) .nil) (.node (o1 P) (.node (o1 P) .nil .nil) .nil)) (.node (o68 P) (.node (o0 P) (.node (o204 P) .nil .nil) .nil) (.node (o0 P) .nil .nil))) (.node (o0 P) (.node (o0 P) (.node (o101 P) (.node (o191 P) .nil .nil) .nil) (.node (o145 P) (.node (o232 P) .nil .nil) .nil)) (.node (o12 P) (.node (o122 P) (.node (o214 P) .nil .nil) .nil) (.node (o165 P) .nil .nil)))) (.node (o17 P) (.node (o27 P) (.node (o54 P) (.node (o93 P) (.node (o184 P) .nil .nil) .nil) (.node (o140 P) (.node (o227 P) .nil .nil) .nil)) (.node (o73 P) (.node (o1 P) (.node (o209 P) .nil .nil) .nil) (.node (o1 P) .nil .nil))) (.node (o42 P) (.node (o1 P) (.node (o108 P) (.node (o199 P) .nil .nil) .nil) (.node (o152 P) .nil .nil)) (.node (o84 P) (.node (o0 P) (.node (o0 P) .nil .nil) .nil) (.node (o170 P) .nil .nil))))))) (.node (o4 P) (.node (boot_o_4 P) (.node (boot_o_8 P) (.node (o1 P) (.node (o18 P) (.node (o46 P) (.node (o86 P) (.node (o173 P) .nil .nil) .nil) (.node (o0 P) (.node (o0 P) .nil .nil) .nil)) (.node (o65 P) (.node (o109 P) (.node (o202 P) .nil .nil) .nil) (.node (o153 P) .nil .nil))) (.node (o30 P) (.node (o0 P) (.node (o96 P) (.node (o186 P) .nil .nil) .nil) (.node (o0 P) (.node (o229 P) .nil .nil) .nil)) (.node (o1 P) (.node (o119 P) (.node (o1 P) .nil .nil) .nil) (.node (o162 P) .nil .nil)))) (.node (o13 P) (.node (o0 P) (.node (o51 P) (.node (o91 P) (.node (o179 P) .nil .nil) .nil) (.node (o136 P) (.node (o224 P) .nil .nil) .nil)) (.node (o0 P) (.node (o0 P) (.node (o0 P) .nil .nil) .nil) (.node (o0 P) .nil .nil))) (.node (o38 P) (.node (o0 P) (.node (o12 P) (.node (o194 P) .nil .nil) .nil) (.node (o12 P) (.node (o1 P) .nil .nil) .nil)) (.node (o81 P) (.node (o125 P) (.node (o215 P) .nil .nil) .nil) (.node (o167 P) .nil .nil))))) (.node (o235 P) (.node (o9 P) (.node (o21 P) (.node (o48 P) (.node (o88 P) (.node (o177 P) .nil .nil) .nil) (.node (o0 P) (.node (o0 P) .nil .nil) .nil)) (.node (o1 P) (.node (o112 P) (.node (o0 P) .nil .nil) .nil) (.node (o156 P) .nil .nil))) (.node (o36 P) (.node (o59 P) (.node (o100 P) (.node (o190 P) .nil .nil) .nil) (.node (o144 P) (.node (o231 P) .nil .nil) .nil)) (.node (o0 P) (.node (o121 P) (.node (o213 P) .nil .nil) .nil) (.node (o1 P) .nil .nil)))) (.node (o16 P) (.node (o26 P) (.node (o1 P) (.node (o0 P) (.node (o1 P) .nil .nil) .nil) (.node (o0 P) (.node (o1 P) .nil .nil) .nil)) (.node (o72 P) (.node (o0 P) (.node (o208 P) .nil .nil) .nil) (.node (o0 P) .nil .nil))) (.node (o41 P) (.node (o0 P) (.node (o107 P) (.node (o198 P) .nil .nil) .nil) (.node (o151 P) .nil .nil)) (.node (o1 P) (.node (o129 P) (.node (o218 P) .nil .nil) .nil) (.node (o169 P) .nil .nil)))))) (.node (boot_o_6 P) (.node (boot_o_10 P) (.node (o0 P) (.node (o19 P) (.node (o1 P) (.node (o0 P) (.node (o175 P) .nil .nil) .nil) (.node (o132 P) (.node (o221 P) .nil .nil) .nil)) (.node (o67 P) (.node (o110 P) (.node (o1 P) .nil .nil) .nil) (.node (o154 P) .nil .nil))) (.node (o35 P) (.node (o57 P) (.node (o98 P) (.node (o188 P) .nil .nil) .nil) (.node (o143 P) (.node (o0 P) .nil .nil) .nil)) (.node (o78 P) (.node (o1 P) (.node (o0 P) .nil .nil) .nil) (.node (o164 P) .nil .nil)))) (.node (o14 P) (.node (o24 P) (.node (o53 P) (.node (o1 P) (.node (o181 P) .nil .nil) .nil) (.node (o1 P) (.node (o226 P) .nil .nil) .nil)) (.node (o71 P) (.node (o115 P) (.node (o207 P) .nil .nil) .nil) (.node (o159 P) .nil .nil))) (.node (o39 P) (.node (o62 P) (.node (o0 P) (.node (o196 P) .nil .nil) .nil) (.node (o0 P) (.node (o237 P) .nil .nil) .nil)) (.node (o83 P) (.node (o127 P) (.node (o216 P) .nil .nil) .nil) (.node (o0 P) .nil .nil))))) (.node (o3 P) (.node (o11 P) (.node (o1 P) (.node (o49 P) (.node (o89 P) (.node (o0 P) .nil .nil) .nil) (.node (o134 P) (.node (o223 P) .nil .nil) .nil)) (.node (o69 P) (.node (o1 P) (.node (o205 P) .nil .nil) .nil) (.node (o1 P) .nil .nil))) (.node (o1 P) (.node (o1 P) (.node (o102 P) (.node (o192 P) .nil .nil) .nil) (.node (o146 P) (.node (o233 P) .nil .nil) .nil)) (.node (o80 P) (.node (o123 P) (.node (o0 P) .nil .nil) .nil) (.node (o0 P) .nil .nil)))) (.node (o0 P) (.node (o45 P) (.node (o55 P) (.node (o94 P) (.node (o0 P) .nil .nil) .nil) (.node (o141 P) (.node (o0 P) .nil .nil) .nil)) (.node (o74 P) (.node (o117 P) (.node (o210 P) .nil .nil) .nil) (.node (o161 P) .nil .nil))) (.node (o35 P) (.node (o64 P) (.node (o0 P) (.node (o200 P) .nil .nil) .nil) (.node (o0 P) .nil .nil)) (.node (o0 P) (.node (o1 P) (.node (o1 P) .nil .nil) .nil) (.node (o171 P) .nil .nil))))))))
noncomputable def hF (P : Params) : Heap := ⟨⟨[boot_o_0 P, boot_o_1 P, o4 P, o234 P, boot_o_4 P, boot_o_5 P, boot_o_6 P, boot_o_7 P, boot_o_8 P, boot_o_9 P, boot_o_10 P, o0 P, o235 P, o2 P, o3 P, o0 P, o1 P, o7 P, o0 P, o8 P, o9 P, o10 P, o11 P, o12 P, o13 P, o0 P, o14 P, o15 P, o16 P, o17 P, o0 P, o1 P, o18 P, o0 P, o19 P, o20 P, o21 P, o0 P, o1 P, o22 P, o0 P, o23 P, o24 P, o25 P, o26 P, o27 P, o45 P, o29 P, o30 P, o31 P, o35 P, o12 P, o36 P, o0 P, o1 P, o37 P, o38 P, o0 P, o39 P, o40 P, o41 P, o42 P, o35 P, o12 P, o46 P, o0 P, o1 P, o47 P, o48 P, o0 P, o49 P, o50 P, o51 P, o52 P, o53 P, o0 P, o1 P, o54 P, o55 P, o56 P, o0 P, o1 P, o57 P, o58 P, o59 P, o0 P, o1 P, o60 P, o0 P, o61 P, o62 P, o63 P, o0 P, o1 P, o64 P, o0 P, o65 P, o66 P, o67 P, o0 P, o1 P, o68 P, o69 P, o70 P, o0 P, o1 P, o71 P, o0 P, o72 P, o73 P, o74 P, o0 P, o1 P, o77 P, o78 P, o79 P, o0 P, o12 P, o80 P, o0 P, o81 P, o82 P, o83 P, o0 P, o1 P, o84 P, o0 P, o85 P, o86 P, o87 P, o0 P, o1 P, o88 P, o0 P, o89 P, o90 P, o91 P, o0 P, o1 P, o92 P, o0 P, o93 P, o94 P, o95 P, o96 P, o97 P, o98 P, o99 P, o100 P, o101 P, o102 P, o0 P, o12 P, o105 P, o0 P, o106 P, o107 P, o108 P, o0 P, o1 P, o109 P, o0 P, o110 P, o111 P, o112 P, o0 P, o1 P, o113 P, o0 P, o114 P, o115 P, o116 P, o0 P, o1 P, o117 P, o118 P, o119 P, o0 P, o1 P, o120 P, o121 P, o122 P, o123 P, o124 P, o125 P, o126 P, o127 P, o128 P, o129 P, o0 P, o1 P, o130 P, o0 P, o131 P, o132 P, o133 P, o0 P, o1 P, o134 P, o135 P, o136 P, o0 P, o1 P, o139 P, o0 P, o140 P, o141 P, o142 P, o0 P, o1 P, o143 P, o0 P, o144 P, o145 P, o146 P, o0 P, o12 P, o149 P, o0 P, o150 P, o151 P, o152 P, o0 P, o1 P, o153 P, o0 P, o154 P, o155 P, o156 P, o0 P, o1 P, o157 P, o0 P, o158 P, o159 P, o160 P, o0 P, o1 P, o161 P, o0 P, o162 P, o163 P, o164 P, o0 P, o1 P, o165 P, o0 P, o166 P, o167 P, o168 P, o0 P, o1 P, o169 P, o170 P, o171 P, o172 P, o173 P, o174 P, o175 P, o176 P, o177 P, o178 P, o0 P, o1 P, o179 P, o180 P, o181 P, o0 P, o1 P, o184 P, o0 P, o185 P, o186 P, o187 P, o188 P, o189 P, o190 P, o191 P, o192 P, o193 P, o194 P, o195 P, o196 P, o197 P, o198 P, o199 P, o200 P, o201 P, o202 P, o0 P, o1 P, o203 P, o0 P, o204 P, o205 P, o206 P, o0 P, o1 P, o207 P, o0 P, o208 P, o209 P, o210 P, o0 P, o1 P, o211 P, o0 P, o212 P, o213 P, o214 P, o0 P, o1 P, o215 P, o0 P, o216 P, o217 P, o218 P, o0 P, o1 P, o219 P, o0 P, o220 P, o221 P, o222 P, o0 P, o1 P, o223 P, o0 P, o224 P, o225 P, o226 P, o0 P, o1 P, o227 P, o0 P, o228 P, o229 P, o230 P, o0 P, o1 P, o231 P, o232 P, o233 P, o0 P, o1 P, o236 P, o237 P, o238 P]⟩, { }⟩
noncomputable def K (P : Params) : Frag := [(2, o4 P), (3, o234 P), (15, o0 P), (17, o7 P), (18, o0 P), (20, o9 P), (21, o10 P), (22, o11 P), (29, o17 P), (30, o0 P), (32, o18 P), (33, o0 P), (35, o20 P), (36, o21 P), (37, o0 P), (39, o22 P), (40, o0 P), (42, o24 P), (43, o25 P), (44, o26 P), (45, o27 P), (46, o45 P), (47, o29 P), (50, o35 P), (57, o0 P), (58, o39 P), (59, o40 P), (62, o35 P), (69, o0 P), (70, o49 P), (71, o50 P), (74, o53 P), (75, o0 P), (78, o55 P), (79, o56 P), (80, o0 P), (83, o58 P), (84, o59 P), (85, o0 P), (87, o60 P), (88, o0 P), (90, o62 P), (91, o63 P), (92, o0 P), (94, o64 P), (95, o0 P), (97, o66 P), (98, o67 P), (99, o0 P), (102, o69 P), (103, o70 P), (104, o0 P), (106, o71 P), (107, o0 P), (109, o73 P), (110, o74 P), (111, o0 P), (114, o78 P), (115, o79 P), (123, o0 P), (125, o84 P), (126, o0 P), (128, o86 P), (129, o87 P), (130, o0 P), (132, o88 P), (133, o0 P), (135, o90 P), (136, o91 P), (137, o0 P), (139, o92 P), (140, o0 P), (142, o94 P), (143, o95 P), (144, o96 P), (145, o97 P), (146, o98 P), (147, o99 P), (148, o100 P), (158, o0 P), (160, o109 P), (161, o0 P), (163, o111 P), (164, o112 P), (165, o0 P), (167, o113 P), (168, o0 P), (170, o115 P), (171, o116 P), (172, o0 P), (175, o118 P), (176, o119 P), (177, o0 P), (180, o121 P), (181, o122 P), (182, o123 P), (183, o124 P), (184, o125 P), (185, o126 P), (186, o127 P), (189, o0 P), (191, o130 P), (192, o0 P), (194, o132 P), (195, o133 P), (196, o0 P), (199, o135 P), (200, o136 P), (201, o0 P), (203, o139 P), (204, o0 P), (206, o141 P), (207, o142 P), (208, o0 P), (210, o143 P), (211, o0 P), (213, o145 P), (214, o146 P), (222, o0 P), (224, o153 P), (225, o0 P), (227, o155 P), (228, o156 P), (229, o0 P), (231, o157 P), (232, o0 P), (234, o159 P), (235, o160 P), (236, o0 P), (238, o161 P), (239, o0 P), (241, o163 P), (242, o164 P), (243, o0 P), (245, o165 P), (246, o0 P), (248, o167 P), (249, o168 P), (250, o0 P), (253, o170 P), (254, o171 P), (255, o172 P), (256, o173 P), (257, o174 P), (258, o175 P), (259, o176 P), (262, o0 P), (265, o180 P), (266, o181 P), (267, o0 P), (269, o184 P), (270, o0 P), (272, o186 P), (273, o187 P), (274, o188 P), (275, o189 P), (276, o190 P), (277, o191 P), (278, o192 P), (279, o193 P), (280, o194 P), (281, o195 P), (282, o196 P), (283, o197 P), (284, o198 P), (285, o199 P), (286, o200 P), (287, o201 P), (288, o202 P), (289, o0 P), (291, o203 P), (292, o0 P), (294, o205 P), (295, o206 P), (296, o0 P), (298, o207 P), (299, o0 P), (301, o209 P), (302, o210 P), (303, o0 P), (305, o211 P), (306, o0 P), (308, o213 P), (309, o214 P), (310, o0 P), (312, o215 P), (313, o0 P), (315, o217 P), (316, o218 P), (317, o0 P), (319, o219 P), (320, o0 P), (322, o221 P), (323, o222 P), (324, o0 P), (326, o223 P), (327, o0 P), (329, o225 P), (330, o226 P), (331, o0 P), (333, o227 P), (334, o0 P), (336, o229 P), (337, o230 P), (338, o0 P), (341, o232 P), (342, o233 P), (343, o0 P), (346, o237 P), (347, o238 P)]
noncomputable def kAs : List Addr := [2, 3, 15, 17, 18, 20, 21, 22, 29, 30, 32, 33, 35, 36, 37, 39, 40, 42, 43, 44, 45, 46, 47, 50, 57, 58, 59, 62, 69, 70, 71, 74, 75, 78, 79, 80, 83, 84, 85, 87, 88, 90, 91, 92, 94, 95, 97, 98, 99, 102, 103, 104, 106, 107, 109, 110, 111, 114, 115, 123, 125, 126, 128, 129, 130, 132, 133, 135, 136, 137, 139, 140, 142, 143, 144, 145, 146, 147, 148, 158, 160, 161, 163, 164, 165, 167, 168, 170, 171, 172, 175, 176, 177, 180, 181, 182, 183, 184, 185, 186, 189, 191, 192, 194, 195, 196, 199, 200, 201, 203, 204, 206, 207, 208, 210, 211, 213, 214, 222, 224, 225, 227, 228, 229, 231, 232, 234, 235, 236, 238, 239, 241, 242, 243, 245, 246, 248, 249, 250, 253, 254, 255, 256, 257, 258, 259, 262, 265, 266, 267, 269, 270, 272, 273, 274, 275, 276, 277, 278, 279, 280, 281, 282, 283, 284, 285, 286, 287, 288, 289, 291, 292, 294, 295, 296, 298, 299, 301, 302, 303, 305, 306, 308, 309, 310, 312, 313, 315, 316, 317, 319, 320, 322, 323, 324, 326, 327, 329, 330, 331, 333, 334, 336, 337, 338, 341, 342, 343, 346, 347]
end
section
set_option maxRecDepth 100000
set_option linter.unusedVariables false
noncomputable def bE : List Stmt := behindTheImports pw
noncomputable def env : Env := { scope := pw.main.scope, locals := mainNs, globals := mainNs, cells := [], code := .ref 13, frame := some 14 }
noncomputable def cE : Code := .body bE env
noncomputable def pos0 : Pos := { line := 0, col := 0, endLine := 0, endCol := 0 }
noncomputable def BF : List Frame := [topFrame pos0]
noncomputable def sts0 : List Stmt := (bE.drop 0).take 3
noncomputable def pos1 : Pos := { line := 5, col := 0, endLine := 13, endCol := 35 }
noncomputable def sts1 : List Stmt := (bE.drop 3).take 1
noncomputable def pos2 : Pos := { line := 14, col := 0, endLine := 15, endCol := 8 }
noncomputable def sts2 : List Stmt := (bE.drop 4).take 8
noncomputable def pos3 : Pos := { line := 37, col := 0, endLine := 41, endCol := 17 }
noncomputable def sts3 : List Stmt := (bE.drop 12).take 3
noncomputable def pos4 : Pos := { line := 45, col := 0, endLine := 58, endCol := 77 }
noncomputable def sts4 : List Stmt := (bE.drop 15).take 5
noncomputable def pos5 : Pos := { line := 94, col := 0, endLine := 94, endCol := 8 }
noncomputable def sts5 : List Stmt := (bE.drop 20).take 6
noncomputable def pos6 : Pos := { line := 108, col := 0, endLine := 108, endCol := 11 }
noncomputable def sts6 : List Stmt := (bE.drop 26).take 3
noncomputable def pos7 : Pos := { line := 132, col := 0, endLine := 134, endCol := 73 }
noncomputable def sts7 : List Stmt := (bE.drop 29).take 12
noncomputable def pos8 : Pos := { line := 208, col := 0, endLine := 222, endCol := 15 }
noncomputable def sts8 : List Stmt := (bE.drop 41).take 1
noncomputable def pos9 : Pos := { line := 223, col := 0, endLine := 248, endCol := 33 }
theorem pre (w : World) (os : OsState) : topGo treeTable pw w 11 (some (.ref 6)) 12 (Shared.mk (boot_heap w.params) (Array.mk []) boot_drawn boot_toks os) (topStub pw) = some ((Shared.mk (hA w.params) (Array.mk []) {} 187 os), Thread.mk (denote treeTable cE) cE pos0 BF) := by
  rw [PySem.W.Fast.te15667345088766844465, PySem.W.Fast.te14364793385576792824, PySem.W.Fast.te11892475500146522536]; kernel_rfl
theorem block (w : World) (os : OsState) : segRun treeTable pw w 11 (some (.ref 6)) 1 1 (Shared.mk (hA w.params) (Array.mk []) {} 187 os) (blockOf bE env cE pos0 BF) = some (.next, SharedT.abs (SharedT.mk (tB w.params) 15 {} (Array.mk []) {} 187 os), cE, pos0) := by
  rw [PySem.W.Fast.te14374325043358763698, PySem.W.Fast.te14364793385576792824]; kernel_rfl
theorem piece0 (w : World) (os : OsState) : segRunT treeTable pw w 11 (some (.ref 6)) 1 307 (SharedT.mk (tB w.params) 15 {} (Array.mk []) {} 187 os) (piecesOf sts0 env cE pos0 BF) = some (.next, (SharedT.mk (t0 w.params) 50 {} (Array.mk []) {} 236 os), cE, pos1) := by
  rw [PySem.W.Fast.te10110043849684766642, PySem.W.Fast.te14364793385576792824]; kernel_rfl
theorem piece1 (w : World) (os : OsState) : segRunT treeTable pw w 11 (some (.ref 6)) 1 214 (SharedT.mk (t0 w.params) 50 {} (Array.mk []) {} 236 os) (piecesOf sts1 env cE pos1 BF) = some (.next, (SharedT.mk (t1 w.params) 62 {} (Array.mk []) {} 252 os), cE, pos2) := by
  rw [PySem.W.Fast.te10110043849684766642, PySem.W.Fast.te14364793385576792824]; kernel_rfl
theorem piece2 (w : World) (os : OsState) : segRunT treeTable pw w 11 (some (.ref 6)) 1 401 (SharedT.mk (t1 w.params) 62 {} (Array.mk []) {} 252 os) (piecesOf sts2 env cE pos2 BF) = some (.next, (SharedT.mk (t2 w.params) 111 {} (Array.mk []) {} 317 os), cE, pos3) := by
  rw [PySem.W.Fast.te10110043849684766642, PySem.W.Fast.te14364793385576792824]; kernel_rfl
theorem piece3 (w : World) (os : OsState) : segRunT treeTable pw w 11 (some (.ref 6)) 1 329 (SharedT.mk (t2 w.params) 111 {} (Array.mk []) {} 317 os) (piecesOf sts3 env cE pos3 BF) = some (.next, (SharedT.mk (t3 w.params) 151 {} (Array.mk []) {} 377 os), cE, pos4) := by
  rw [PySem.W.Fast.te10110043849684766642, PySem.W.Fast.te14364793385576792824]; kernel_rfl
theorem piece4 (w : World) (os : OsState) : segRunT treeTable pw w 11 (some (.ref 6)) 1 396 (SharedT.mk (t3 w.params) 151 {} (Array.mk []) {} 377 os) (piecesOf sts4 env cE pos4 BF) = some (.next, (SharedT.mk (t4 w.params) 201 {} (Array.mk []) {} 455 os), cE, pos5) := by
  rw [PySem.W.Fast.te10110043849684766642, PySem.W.Fast.te14364793385576792824]; kernel_rfl
theorem piece5 (w : World) (os : OsState) : segRunT treeTable pw w 11 (some (.ref 6)) 1 98 (SharedT.mk (t4 w.params) 201 {} (Array.mk []) {} 455 os) (piecesOf sts5 env cE pos5 BF) = some (.next, (SharedT.mk (t5 w.params) 215 {} (Array.mk []) {} 480 os), cE, pos6) := by
  rw [PySem.W.Fast.te10110043849684766642, PySem.W.Fast.te14364793385576792824]; kernel_rfl
theorem piece6 (w : World) (os : OsState) : segRunT treeTable pw w 11 (some (.ref 6)) 1 383 (SharedT.mk (t5 w.params) 215 {} (Array.mk []) {} 480 os) (piecesOf sts6 env cE pos6 BF) = some (.next, (SharedT.mk (t6 w.params) 267 {} (Array.mk []) {} 548 os), cE, pos7) := by
  rw [PySem.W.Fast.te10110043849684766642, PySem.W.Fast.te14364793385576792824]; kernel_rfl
theorem piece7 (w : World) (os : OsState) : segRunT treeTable pw w 11 (some (.ref 6)) 1 379 (SharedT.mk (t6 w.params) 267 {} (Array.mk []) {} 548 os) (piecesOf sts7 env cE pos7 BF) = some (.next, (SharedT.mk (t7 w.params) 343 {} (Array.mk []) {} 679 os), cE, pos8) := by
  rw [PySem.W.Fast.te10110043849684766642, PySem.W.Fast.te14364793385576792824]; kernel_rfl
theorem piece8 (w : World) (os : OsState) : segRunT treeTable pw w 11 (some (.ref 6)) 1 27 (SharedT.mk (t7 w.params) 343 {} (Array.mk []) {} 679 os) (piecesOf sts8 env cE pos8 BF) = some (.next, (SharedT.mk (t8 w.params) 348 {} (Array.mk []) {} 685 os), cE, pos9) := by
  rw [PySem.W.Fast.te10110043849684766642, PySem.W.Fast.te14364793385576792824]; kernel_rfl
theorem fin (w : World) (os : OsState) : topRun treeTable pw w 11 (some (.ref 6)) 2 (SharedT.abs (SharedT.mk (t8 w.params) 348 {} (Array.mk []) {} 685 os)) (Thread.mk (doneF .next) cE pos9 BF) = some (Shared.mk (hF w.params) (Array.mk []) {} 685 os) := by
  rw [PySem.W.Fast.te14082659384304107361, PySem.W.Fast.te14364793385576792824]; kernel_rfl
end
section
set_option maxRecDepth 100000
theorem said : OpenLaw.wellSaid PySem.Challenge.rw_pq0933_01 = true := by rw [PySem.W.Fast.te9446332074065402090]; kernel_rfl
end
section
set_option maxRecDepth 100000
set_option linter.unusedVariables false
noncomputable def vq : Program := view pw [41]
noncomputable def loose : List Str := [Str.ofString "_wall", Str.ofString "PostError", Str.ofString "StoreFault", Str.ofString "DeskFault", Str.ofString "parts_between", Str.ofString "whole_number", Str.ofString "words_of", Str.ofString "letter_line", Str.ofString "box_told", Str.ofString "letter_in", Str.ofString "numbers_told", Str.ofString "Letter", Str.ofString "Box", Str.ofString "place_of", Str.ofString "upper_text", Str.ofString "DELIMITER", Str.ofString "INBOX_names", Str.ofString "first_part", Str.ofString "normal_name", Str.ofString "INBOX_store", Str.ofString "Store", Str.ofString "_law_urn", Str.ofString "_law_pull", Str.ofString "_law_names", Str.ofString "_law_spelled", Str.ofString "_law_odd", Str.ofString "_law_box", Str.ofString "_law_figures", Str.ofString "_law_number", Str.ofString "_law_spelling", Str.ofString "_law_rest", Str.ofString "_law_heard", Str.ofString "_law_read", Str.ofString "_law_is_told"]
noncomputable def vXt : Shared → Bool := fun s => xlAt vq [] s && recOk [] s
theorem kAs_eq (P : Params) : kAs = (K P).map (·.1) := by kernel_rfl
noncomputable def hook : Hook := kHook K kAs kAs_eq
theorem bE_split : bE = sts0 ++ (sts1 ++ (sts2 ++ (sts3 ++ (sts4 ++ (sts5 ++ (sts6 ++ (sts7 ++ (sts8 ++ [])))))))) := by kernel_rfl
theorem run1 (w : World) (os : OsState) : topRun treeTable pw w 11 (some (.ref 6)) (307 + (214 + (401 + (329 + (396 + (98 + (383 + (379 + (27 + 2))))))))) (SharedT.abs (SharedT.mk (tB w.params) 15 {} (Array.mk []) {} 187 os)) (restOf bE env cE pos0 [topFrame pos0]) = some (Shared.mk (hF w.params) (Array.mk []) {} 685 os) := by
  rw [bE_split]
  exact (piece_app (segRun_of (piece0 w os)) (piece_app (segRun_of (piece1 w os)) (piece_app (segRun_of (piece2 w os)) (piece_app (segRun_of (piece3 w os)) (piece_app (segRun_of (piece4 w os)) (piece_app (segRun_of (piece5 w os)) (piece_app (segRun_of (piece6 w os)) (piece_app (segRun_of (piece7 w os)) (piece_app (segRun_of (piece8 w os)) (piece_nil (fin w os)))))))))))
noncomputable def runM : Nat := (12 + (1 + (307 + (214 + (401 + (329 + (396 + (98 + (383 + (379 + (27 + 2)))))))))))
theorem run (w : World) (os : OsState) : topRun treeTable pw w 11 (some (.ref 6)) runM (Shared.mk (boot_heap w.params) (Array.mk []) boot_drawn boot_toks os) (topStub pw) = some (Shared.mk (hF w.params) (Array.mk []) {} 685 os) :=
  go_top (pre w os) (piece_block (block w os) (run1 w os))
theorem looks1 (w : World) (os : OsState) : (staticsOk (importedModules pw.main.body) (boot_heap w.params) (hF w.params) && namesBound pw (hF w.params) && gensDone (Shared.mk (hF w.params) (Array.mk []) {} 685 os) && laidKept (boot_heap w.params) (hF w.params)) = true := by
  rw [PySem.W.Fast.te5923862056798008813]; kernel_rfl
theorem looks2 (w : World) (os : OsState) : openSeen vq loose (importedModules pw.main.body) vXt true (Shared.mk (hF w.params) (Array.mk []) {} 685 os) = openGood vq loose := by
  rw [PySem.W.Fast.te4187177175401517315, PySem.W.Fast.te5923862056798008813]; kernel_rfl
theorem looks3 (w : World) (os : OsState) : hook.obs (Shared.mk (hF w.params) (Array.mk []) {} 685 os) = hook.val w := by
  kernel_rfl
theorem size (w : World) : ((boot_heap w.params).isNs mainGlobals && (#[] : Array GenState).size == 0, (boot_heap w.params).objs.size, (boot_heap w.params).nsMap mainGlobals "__annotations__") = (true, 11, some (.ref 6)) := by kernel_rfl
theorem openE : opening pw = plainProg pw.main.scope.names := by kernel_rfl
theorem left : LeftO pw vq loose vXt hook.obs hook.val 5176 :=
  LeftO.of_pieces (H₀ := boot_heap) (H₁ := hF) (gs₀ := #[]) (gs₁ := #[]) (d₀ := boot_drawn) (d₁ := {}) (k₀ := boot_toks) (M := runM) (boot_open openE (by decide +kernel) (fun s => by kernel_rfl)) size run (by decide +kernel)
    fun w => funext fun os => looks_pair (looks1 w os) (looks_pair (looks2 w os) (looks3 w os))
noncomputable def dLaw : DefRec := ⟨"law", a36, b36, c36, match d36 with | .FunctionDef _ _ _ _ _ _ _ _ _ pos => pos | _ => default⟩
theorem hdef : defOf vq "law" = some (dLaw, []) := by kernel_rfl
theorem hp : pw.theDef "law" = some (a36, b36, c36) := by kernel_rfl
theorem okq : (chainsOk vq && opensWell pw && (frees PySem.Challenge.rw_pq0933_01.row.toRowW && PySem.Challenge.rw_pq0933_01.row.within.isEmpty)) = true := by decide +kernel
theorem bareP : pw.bare := ⟨rfl, rfl, rfl, rfl, rfl, by decide +kernel⟩
theorem hd (walk : WalkO vq loose (XL vq []) hook.says PySem.Challenge.rw_pq0933_01.row.toRowW dLaw [] fun f vs => PySem.call f vs) : PySem.Challenge.rw_pq0933_01.Holds :=
  holds_law said fun sd => holds_open (q := vq) (loose := loose) (Xt := vXt) (XP := XL vq []) (Yf := hook.obs) (Ya := hook.val) (YP := hook.says) (N := 5176) (d := dLaw) (kwd := []) left hook.of hook.keeps
    (fun s e => xl_of s (Bool.and_eq_true_iff.mp e).1) XL.keeps hdef hp (by rfl) (fun s e => recFacts_of (Bool.and_eq_true_iff.mp e).2) (by rfl) sd okq bareP (by w_witness2) walk
end
section
set_option maxRecDepth 100000
set_option linter.unusedVariables false
@[elab_as_elim] theorem vsS {C : List Value → Prop} {n : Nat} {vs : List Value} (h : vs.length = n + 1) (k : ∀ a l, l.length = n → C (a :: l)) : C vs := by
  cases vs with
  | nil => cases h
  | cons a l => exact k a l (Nat.succ.inj h)
@[elab_as_elim] theorem vs0 {C : List Value → Prop} {vs : List Value} (h : vs.length = 0) (k : C []) : C vs := by rw [List.length_eq_zero_iff.mp h]; exact k
@[elab_as_elim] theorem vs1 {C : List Value → Prop} (k : ∀ a, C [a]) (vs : List Value) (h : vs.length = 1) : C vs := vsS h fun a l h => vs0 h (k a)
@[elab_as_elim] theorem vs2 {C : List Value → Prop} (k : ∀ a b, C [a, b]) (vs : List Value) (h : vs.length = 2) : C vs := vsS h fun a l h => vsS h fun b l h => vs0 h (k a b)
@[elab_as_elim] theorem vs3 {C : List Value → Prop} (k : ∀ a b c, C [a, b, c]) (vs : List Value) (h : vs.length = 3) : C vs := vsS h fun a l h => vsS h fun b l h => vsS h fun c l h => vs0 h (k a b c)
@[elab_as_elim] theorem vs6 {C : List Value → Prop} (k : ∀ a b c d e f, C [a, b, c, d, e, f]) (vs : List Value) (h : vs.length = 6) : C vs :=
  vsS h fun a l h => vsS h fun b l h => vsS h fun c l h => vsS h fun d l h => vsS h fun e l h => vsS h fun f l h => vs0 h (k a b c d e f)
theorem g_Exception : Glo K (Str.ofString "Exception") (.type "Exception") := fun P => ⟨.type "Exception", rfl, .inr ⟨by kernel_rfl, by kernel_rfl, by decide⟩⟩
theorem g_len : Glo K (Str.ofString "len") (.builtin "len") := fun P => ⟨.builtin "len", rfl, .inr ⟨by kernel_rfl, by kernel_rfl, by decide⟩⟩
theorem g_DeskFault : Glo K (Str.ofString "DeskFault") (.ref 71) := fun P => ⟨.ref 71, rfl, .inl (by kernel_rfl)⟩
theorem g_int : Glo K (Str.ofString "int") (.type "int") := fun P => ⟨.type "int", rfl, .inr ⟨by kernel_rfl, by kernel_rfl, by decide⟩⟩
theorem g_parts_between : Glo K (Str.ofString "parts_between") (.ref 79) := fun P => ⟨.ref 79, rfl, .inl (by kernel_rfl)⟩
theorem g_str : Glo K (Str.ofString "str") (.type "str") := fun P => ⟨.type "str", rfl, .inr ⟨by kernel_rfl, by kernel_rfl, by decide⟩⟩
theorem g_list : Glo K (Str.ofString "list") (.type "list") := fun P => ⟨.type "list", rfl, .inr ⟨by kernel_rfl, by kernel_rfl, by decide⟩⟩
theorem g_enumerate : Glo K (Str.ofString "enumerate") (.type "enumerate") := fun P => ⟨.type "enumerate", rfl, .inr ⟨by kernel_rfl, by kernel_rfl, by decide⟩⟩
theorem g_whole_number : Glo K (Str.ofString "whole_number") (.ref 84) := fun P => ⟨.ref 84, rfl, .inl (by kernel_rfl)⟩
theorem g_tuple : Glo K (Str.ofString "tuple") (.type "tuple") := fun P => ⟨.type "tuple", rfl, .inr ⟨by kernel_rfl, by kernel_rfl, by decide⟩⟩
theorem g__wall : Glo K (Str.ofString "_wall") (.ref 21) := fun P => ⟨.ref 21, rfl, .inl (by kernel_rfl)⟩
theorem g_place_of : Glo K (Str.ofString "place_of") (.ref 195) := fun P => ⟨.ref 195, rfl, .inl (by kernel_rfl)⟩
theorem g_DELIMITER : Glo K (Str.ofString "DELIMITER") (.str (Str.ofString "/")) := fun P => ⟨.str (Str.ofString "/") 455, ⟨_, rfl⟩, .inl (by kernel_rfl)⟩
theorem g_first_part : Glo K (Str.ofString "first_part") (.ref 207) := fun P => ⟨.ref 207, rfl, .inl (by kernel_rfl)⟩
theorem g_upper_text : Glo K (Str.ofString "upper_text") (.ref 200) := fun P => ⟨.ref 200, rfl, .inl (by kernel_rfl)⟩
theorem g_INBOX_names : Glo K (Str.ofString "INBOX_names") (.str (Str.ofString "INBOX")) := fun P => ⟨.str (Str.ofString "INBOX") 457, ⟨_, rfl⟩, .inl (by kernel_rfl)⟩
theorem g_INBOX_store : Glo K (Str.ofString "INBOX_store") (.str (Str.ofString "INBOX")) := fun P => ⟨.str (Str.ofString "INBOX") 478, ⟨_, rfl⟩, .inl (by kernel_rfl)⟩
theorem g_Box : Glo K (Str.ofString "Box") (.ref 184) := fun P => ⟨.ref 184, rfl, .inl (by kernel_rfl)⟩
theorem g_normal_name : Glo K (Str.ofString "normal_name") (.ref 214) := fun P => ⟨.ref 214, rfl, .inl (by kernel_rfl)⟩
theorem g_StoreFault : Glo K (Str.ofString "StoreFault") (.ref 59) := fun P => ⟨.ref 59, rfl, .inl (by kernel_rfl)⟩
theorem g_sorted : Glo K (Str.ofString "sorted") (.builtin "sorted") := fun P => ⟨.builtin "sorted", rfl, .inr ⟨by kernel_rfl, by kernel_rfl, by decide⟩⟩
theorem g_sum : Glo K (Str.ofString "sum") (.builtin "sum") := fun P => ⟨.builtin "sum", rfl, .inr ⟨by kernel_rfl, by kernel_rfl, by decide⟩⟩
theorem g__law_pull : Glo K (Str.ofString "_law_pull") (.ref 273) := fun P => ⟨.ref 273, rfl, .inl (by kernel_rfl)⟩
theorem g_range : Glo K (Str.ofString "range") (.type "range") := fun P => ⟨.type "range", rfl, .inr ⟨by kernel_rfl, by kernel_rfl, by decide⟩⟩
theorem g_Letter : Glo K (Str.ofString "Letter") (.ref 146) := fun P => ⟨.ref 146, rfl, .inl (by kernel_rfl)⟩
theorem g_max : Glo K (Str.ofString "max") (.builtin "max") := fun P => ⟨.builtin "max", rfl, .inr ⟨by kernel_rfl, by kernel_rfl, by decide⟩⟩
theorem g__law_figures : Glo K (Str.ofString "_law_figures") (.ref 302) := fun P => ⟨.ref 302, rfl, .inl (by kernel_rfl)⟩
theorem g__law_odd : Glo K (Str.ofString "_law_odd") (.ref 288) := fun P => ⟨.ref 288, rfl, .inl (by kernel_rfl)⟩
theorem g_words_of : Glo K (Str.ofString "words_of") (.ref 91) := fun P => ⟨.ref 91, rfl, .inl (by kernel_rfl)⟩
theorem g_letter_in : Glo K (Str.ofString "letter_in") (.ref 110) := fun P => ⟨.ref 110, rfl, .inl (by kernel_rfl)⟩
theorem g_numbers_told : Glo K (Str.ofString "numbers_told") (.ref 115) := fun P => ⟨.ref 115, rfl, .inl (by kernel_rfl)⟩
theorem g_box_told : Glo K (Str.ofString "box_told") (.ref 103) := fun P => ⟨.ref 103, rfl, .inl (by kernel_rfl)⟩
theorem g__law_urn : Glo K (Str.ofString "_law_urn") (.ref 266) := fun P => ⟨.ref 266, rfl, .inl (by kernel_rfl)⟩
theorem g_Store : Glo K (Str.ofString "Store") (.ref 257) := fun P => ⟨.ref 257, rfl, .inl (by kernel_rfl)⟩
theorem g__law_names : Glo K (Str.ofString "_law_names") (.ref 274) := fun P => ⟨.ref 274, rfl, .inl (by kernel_rfl)⟩
theorem g__law_box : Glo K (Str.ofString "_law_box") (.ref 295) := fun P => ⟨.ref 295, rfl, .inl (by kernel_rfl)⟩
theorem g__law_spelling : Glo K (Str.ofString "_law_spelling") (.ref 316) := fun P => ⟨.ref 316, rfl, .inl (by kernel_rfl)⟩
theorem g__law_rest : Glo K (Str.ofString "_law_rest") (.ref 323) := fun P => ⟨.ref 323, rfl, .inl (by kernel_rfl)⟩
theorem g__law_number : Glo K (Str.ofString "_law_number") (.ref 309) := fun P => ⟨.ref 309, rfl, .inl (by kernel_rfl)⟩
theorem g__law_heard : Glo K (Str.ofString "_law_heard") (.ref 330) := fun P => ⟨.ref 330, rfl, .inl (by kernel_rfl)⟩
theorem g__law_read : Glo K (Str.ofString "_law_read") (.ref 337) := fun P => ⟨.ref 337, rfl, .inl (by kernel_rfl)⟩
noncomputable abbrev l0 : List Str := []
noncomputable abbrev p0 : List Str := [Str.ofString "k"]
noncomputable abbrev G0 : List (Str × PV) := []
theorem F0 : Fn K 21 (Str.ofString "_wall") p0 l0 b0 c0 G0 [] := Fn.of (oc := .type "function") (od := none) (osl := #[]) (name := Str.ofString "_wall") (params := a0) (dV := Value.none) (kV := Value.none) (doc := Value.none) (pm := Value.str (Str.ofString "__main__") 164) (cdv := Value.ref 20) (ct := Value.none) (an := none)
  (fun P => by kernel_rfl) (fun P => by kernel_rfl) (fun P s vs _ hv => vs1 (fun a => ⟨[], .nil, BindsTo.of_eq (by kernel_rfl)⟩) vs hv) (by decide +kernel) (by decide +kernel) (by decide +kernel) (List.forall_mem_nil _) (by decide +kernel) (by kernel_rfl) (by kernel_rfl) (by kernel_rfl)
noncomputable abbrev l1 : List Str := []
noncomputable abbrev p1 : List Str := [Str.ofString "self", Str.ofString "what", Str.ofString "at"]
noncomputable abbrev G1 : List (Str × PV) := [(Str.ofString "Exception", .type "Exception")]
theorem F1 : Fn K 36 (Str.ofString "PostError.__init__") p1 l1 b1 c1 G1 [.int (-1)] := Fn.of (oc := .type "function") (od := none) (osl := #[]) (name := Str.ofString "__init__") (params := a1) (dV := Value.ref 29) (kV := Value.none) (doc := Value.none) (pm := Value.str (Str.ofString "postkeep.errors") 194) (cdv := Value.ref 35) (ct := Value.none) (an := none)
  (fun P => by kernel_rfl) (fun P => by kernel_rfl) (fun P s vs X hv => vs2 (fun a b => ⟨[.int (-1) 209], .cons ⟨_, rfl⟩ .nil, binds_K X (T := 29) (o := o17 P) (items := #[.int (-1) 209]) (n := 0) rfl (by kernel_rfl) (by kernel_rfl) rfl (by kernel_rfl)⟩) vs (Nat.succ.inj hv)) (by decide +kernel) (by decide +kernel) (by decide +kernel) (List.forall_mem_cons.mpr ⟨g_Exception, List.forall_mem_nil _⟩) (by decide +kernel) (by kernel_rfl) (by kernel_rfl) (by kernel_rfl)
noncomputable abbrev l2 : List Str := []
noncomputable abbrev p2 : List Str := [Str.ofString "self"]
noncomputable abbrev G2 : List (Str × PV) := []
theorem F2 : Fn K 43 (Str.ofString "PostError.told") p2 l2 b2 c2 G2 [] := Fn.of (oc := .type "function") (od := none) (osl := #[]) (name := Str.ofString "told") (params := a2) (dV := Value.none) (kV := Value.none) (doc := Value.none) (pm := Value.str (Str.ofString "postkeep.errors") 194) (cdv := Value.ref 42) (ct := Value.none) (an := none)
  (fun P => by kernel_rfl) (fun P => by kernel_rfl) (fun P s vs _ hv => vs1 (fun a => ⟨[], .nil, BindsTo.of_eq (by kernel_rfl)⟩) vs hv) (by decide +kernel) (by decide +kernel) (by decide +kernel) (List.forall_mem_nil _) (by decide +kernel) (by kernel_rfl) (by kernel_rfl) (by kernel_rfl)
noncomputable abbrev l3 : List Str := [Str.ofString "rows"]
noncomputable abbrev p3 : List Str := [Str.ofString "text", Str.ofString "sign", Str.ofString "most"]
noncomputable abbrev G3 : List (Str × PV) := []
theorem F3 : Fn K 79 (Str.ofString "parts_between") p3 l3 b3 c3 G3 [] := Fn.of (oc := .type "function") (od := none) (osl := #[]) (name := Str.ofString "parts_between") (params := a3) (dV := Value.ref 74) (kV := Value.none) (doc := Value.none) (pm := Value.str (Str.ofString "postkeep.desk") 268) (cdv := Value.ref 78) (ct := Value.none) (an := none)
  (fun P => by kernel_rfl) (fun P => by kernel_rfl) (fun P s vs X hv => vs3 (fun a b c => ⟨[], .nil, binds_K X (T := 74) (o := o53 P) (items := #[.int (-1) 271]) (n := 0) rfl (by kernel_rfl) (by kernel_rfl) rfl (by kernel_rfl)⟩) vs hv) (by decide +kernel) (by decide +kernel) (by decide +kernel) (List.forall_mem_nil _) (by decide +kernel) (by kernel_rfl) (by kernel_rfl) (by kernel_rfl)
noncomputable abbrev l4 : List Str := []
noncomputable abbrev p4 : List Str := [Str.ofString "text"]
noncomputable abbrev G4 : List (Str × PV) := [(Str.ofString "len", .builtin "len"), (Str.ofString "DeskFault", .ref 71), (Str.ofString "int", .type "int")]
theorem F4 : Fn K 84 (Str.ofString "whole_number") p4 l4 b4 c4 G4 [] := Fn.of (oc := .type "function") (od := none) (osl := #[]) (name := Str.ofString "whole_number") (params := a4) (dV := Value.none) (kV := Value.none) (doc := Value.none) (pm := Value.str (Str.ofString "postkeep.desk") 268) (cdv := Value.ref 83) (ct := Value.none) (an := none)
  (fun P => by kernel_rfl) (fun P => by kernel_rfl) (fun P s vs _ hv => vs1 (fun a => ⟨[], .nil, BindsTo.of_eq (by kernel_rfl)⟩) vs hv) (by decide +kernel) (by decide +kernel) (by decide +kernel) (List.forall_mem_cons.mpr ⟨g_len, List.forall_mem_cons.mpr ⟨g_DeskFault, List.forall_mem_cons.mpr ⟨g_int, List.forall_mem_nil _⟩⟩⟩) (by decide +kernel) (by kernel_rfl) (by kernel_rfl) (by kernel_rfl)
noncomputable abbrev l5 : List Str := [Str.ofString "words"]
noncomputable abbrev p5 : List Str := [Str.ofString "rest", Str.ofString "count"]
noncomputable abbrev G5 : List (Str × PV) := [(Str.ofString "parts_between", .ref 79), (Str.ofString "len", .builtin "len"), (Str.ofString "DeskFault", .ref 71), (Str.ofString "str", .type "str")]
theorem F5 : Fn K 91 (Str.ofString "words_of") p5 l5 b5 c5 G5 [] := Fn.of (oc := .type "function") (od := none) (osl := #[]) (name := Str.ofString "words_of") (params := a5) (dV := Value.none) (kV := Value.none) (doc := Value.none) (pm := Value.str (Str.ofString "postkeep.desk") 268) (cdv := Value.ref 90) (ct := Value.none) (an := none)
  (fun P => by kernel_rfl) (fun P => by kernel_rfl) (fun P s vs _ hv => vs2 (fun a b => ⟨[], .nil, BindsTo.of_eq (by kernel_rfl)⟩) vs hv) (by decide +kernel) (by decide +kernel) (by decide +kernel) (List.forall_mem_cons.mpr ⟨g_parts_between, List.forall_mem_cons.mpr ⟨g_len, List.forall_mem_cons.mpr ⟨g_DeskFault, List.forall_mem_cons.mpr ⟨g_str, List.forall_mem_nil _⟩⟩⟩⟩) (by decide +kernel) (by kernel_rfl) (by kernel_rfl) (by kernel_rfl)
noncomputable abbrev l6 : List Str := [Str.ofString "words"]
noncomputable abbrev p6 : List Str := [Str.ofString "number", Str.ofString "letter"]
noncomputable abbrev G6 : List (Str × PV) := [(Str.ofString "str", .type "str"), (Str.ofString "len", .builtin "len"), (Str.ofString "list", .type "list")]
theorem F6 : Fn K 98 (Str.ofString "letter_line") p6 l6 b6 c6 G6 [] := Fn.of (oc := .type "function") (od := none) (osl := #[]) (name := Str.ofString "letter_line") (params := a6) (dV := Value.none) (kV := Value.none) (doc := Value.none) (pm := Value.str (Str.ofString "postkeep.desk") 268) (cdv := Value.ref 97) (ct := Value.none) (an := none)
  (fun P => by kernel_rfl) (fun P => by kernel_rfl) (fun P s vs _ hv => vs2 (fun a b => ⟨[], .nil, BindsTo.of_eq (by kernel_rfl)⟩) vs hv) (by decide +kernel) (by decide +kernel) (by decide +kernel) (List.forall_mem_cons.mpr ⟨g_str, List.forall_mem_cons.mpr ⟨g_len, List.forall_mem_cons.mpr ⟨g_list, List.forall_mem_nil _⟩⟩⟩) (by decide +kernel) (by kernel_rfl) (by kernel_rfl) (by kernel_rfl)
noncomputable abbrev l7 : List Str := [Str.ofString "head"]
noncomputable abbrev p7 : List Str := [Str.ofString "box"]
noncomputable abbrev G7 : List (Str × PV) := [(Str.ofString "str", .type "str"), (Str.ofString "enumerate", .type "enumerate")]
theorem F7 : Fn K 103 (Str.ofString "box_told") p7 l7 b7 c7 G7 [] := Fn.of (oc := .type "function") (od := none) (osl := #[]) (name := Str.ofString "box_told") (params := a7) (dV := Value.none) (kV := Value.none) (doc := Value.none) (pm := Value.str (Str.ofString "postkeep.desk") 268) (cdv := Value.ref 102) (ct := Value.none) (an := none)
  (fun P => by kernel_rfl) (fun P => by kernel_rfl) (fun P s vs _ hv => vs1 (fun a => ⟨[], .nil, BindsTo.of_eq (by kernel_rfl)⟩) vs hv) (by decide +kernel) (by decide +kernel) (by decide +kernel) (List.forall_mem_cons.mpr ⟨g_str, List.forall_mem_cons.mpr ⟨g_enumerate, List.forall_mem_nil _⟩⟩) (by decide +kernel) (by kernel_rfl) (by kernel_rfl) (by kernel_rfl)
noncomputable abbrev l8 : List Str := [Str.ofString "letter"]
noncomputable abbrev p8 : List Str := [Str.ofString "box", Str.ofString "text"]
noncomputable abbrev G8 : List (Str × PV) := [(Str.ofString "whole_number", .ref 84), (Str.ofString "DeskFault", .ref 71)]
theorem F8 : Fn K 110 (Str.ofString "letter_in") p8 l8 b8 c8 G8 [] := Fn.of (oc := .type "function") (od := none) (osl := #[]) (name := Str.ofString "letter_in") (params := a8) (dV := Value.none) (kV := Value.none) (doc := Value.none) (pm := Value.str (Str.ofString "postkeep.desk") 268) (cdv := Value.ref 109) (ct := Value.none) (an := none)
  (fun P => by kernel_rfl) (fun P => by kernel_rfl) (fun P s vs _ hv => vs2 (fun a b => ⟨[], .nil, BindsTo.of_eq (by kernel_rfl)⟩) vs hv) (by decide +kernel) (by decide +kernel) (by decide +kernel) (List.forall_mem_cons.mpr ⟨g_whole_number, List.forall_mem_cons.mpr ⟨g_DeskFault, List.forall_mem_nil _⟩⟩) (by decide +kernel) (by kernel_rfl) (by kernel_rfl) (by kernel_rfl)
noncomputable abbrev l9 : List Str := []
noncomputable abbrev p9 : List Str := [Str.ofString "numbers"]
noncomputable abbrev G9 : List (Str × PV) := []
theorem F9 : Fn K 115 (Str.ofString "numbers_told") p9 l9 b9 c9 G9 [] := Fn.of (oc := .type "function") (od := none) (osl := #[]) (name := Str.ofString "numbers_told") (params := a9) (dV := Value.none) (kV := Value.none) (doc := Value.none) (pm := Value.str (Str.ofString "postkeep.desk") 268) (cdv := Value.ref 114) (ct := Value.none) (an := none)
  (fun P => by kernel_rfl) (fun P => by kernel_rfl) (fun P s vs _ hv => vs1 (fun a => ⟨[], .nil, BindsTo.of_eq (by kernel_rfl)⟩) vs hv) (by decide +kernel) (by decide +kernel) (by decide +kernel) (List.forall_mem_nil _) (by decide +kernel) (by kernel_rfl) (by kernel_rfl) (by kernel_rfl)
noncomputable abbrev l10 : List Str := []
noncomputable abbrev p10 : List Str := [Str.ofString "self", Str.ofString "uid", Str.ofString "octets", Str.ofString "flags", Str.ofString "instant", Str.ofString "modseq"]
noncomputable abbrev G10 : List (Str × PV) := [(Str.ofString "tuple", .type "tuple")]
theorem F10 : Fn K 129 (Str.ofString "Letter.__init__") p10 l10 b10 c10 G10 [] := Fn.of (oc := .type "function") (od := none) (osl := #[]) (name := Str.ofString "__init__") (params := a10) (dV := Value.none) (kV := Value.none) (doc := Value.none) (pm := Value.str (Str.ofString "postkeep.boxes") 323) (cdv := Value.ref 128) (ct := Value.none) (an := none)
  (fun P => by kernel_rfl) (fun P => by kernel_rfl) (fun P s vs _ hv => vs6 (fun a b c d e f => ⟨[], .nil, BindsTo.of_eq (by kernel_rfl)⟩) vs hv) (by decide +kernel) (by decide +kernel) (by decide +kernel) (List.forall_mem_cons.mpr ⟨g_tuple, List.forall_mem_nil _⟩) (by decide +kernel) (by kernel_rfl) (by kernel_rfl) (by kernel_rfl)
noncomputable abbrev l11 : List Str := []
noncomputable abbrev p11 : List Str := [Str.ofString "self", Str.ofString "name"]
noncomputable abbrev G11 : List (Str × PV) := [(Str.ofString "_wall", .ref 21)]
theorem F11 : Fn K 136 (Str.ofString "Letter.has") p11 l11 b11 c11 G11 [] := Fn.of (oc := .type "function") (od := none) (osl := #[]) (name := Str.ofString "has") (params := a11) (dV := Value.none) (kV := Value.none) (doc := Value.none) (pm := Value.str (Str.ofString "postkeep.boxes") 323) (cdv := Value.ref 135) (ct := Value.none) (an := none)
  (fun P => by kernel_rfl) (fun P => by kernel_rfl) (fun P s vs _ hv => vs2 (fun a b => ⟨[], .nil, BindsTo.of_eq (by kernel_rfl)⟩) vs hv) (by decide +kernel) (by decide +kernel) (by decide +kernel) (List.forall_mem_cons.mpr ⟨g__wall, List.forall_mem_nil _⟩) (by decide +kernel) (by kernel_rfl) (by kernel_rfl) (by kernel_rfl)
noncomputable abbrev l12 : List Str := []
noncomputable abbrev p12 : List Str := [Str.ofString "self"]
noncomputable abbrev G12 : List (Str × PV) := []
theorem F12 : Fn K 143 (Str.ofString "Letter.told") p12 l12 b12 c12 G12 [] := Fn.of (oc := .type "function") (od := none) (osl := #[]) (name := Str.ofString "told") (params := a12) (dV := Value.none) (kV := Value.none) (doc := Value.none) (pm := Value.str (Str.ofString "postkeep.boxes") 323) (cdv := Value.ref 142) (ct := Value.none) (an := none)
  (fun P => by kernel_rfl) (fun P => by kernel_rfl) (fun P s vs _ hv => vs1 (fun a => ⟨[], .nil, BindsTo.of_eq (by kernel_rfl)⟩) vs hv) (by decide +kernel) (by decide +kernel) (by decide +kernel) (List.forall_mem_nil _) (by decide +kernel) (by kernel_rfl) (by kernel_rfl) (by kernel_rfl)
noncomputable abbrev l13 : List Str := []
noncomputable abbrev p13 : List Str := [Str.ofString "self", Str.ofString "name", Str.ofString "validity"]
noncomputable abbrev G13 : List (Str × PV) := []
theorem F13 : Fn K 164 (Str.ofString "Box.__init__") p13 l13 b13 c13 G13 [] := Fn.of (oc := .type "function") (od := none) (osl := #[]) (name := Str.ofString "__init__") (params := a13) (dV := Value.none) (kV := Value.none) (doc := Value.none) (pm := Value.str (Str.ofString "postkeep.boxes") 323) (cdv := Value.ref 163) (ct := Value.none) (an := none)
  (fun P => by kernel_rfl) (fun P => by kernel_rfl) (fun P s vs _ hv => vs3 (fun a b c => ⟨[], .nil, BindsTo.of_eq (by kernel_rfl)⟩) vs hv) (by decide +kernel) (by decide +kernel) (by decide +kernel) (List.forall_mem_nil _) (by decide +kernel) (by kernel_rfl) (by kernel_rfl) (by kernel_rfl)
noncomputable abbrev l14 : List Str := [Str.ofString "at"]
noncomputable abbrev p14 : List Str := [Str.ofString "self", Str.ofString "uid"]
noncomputable abbrev G14 : List (Str × PV) := [(Str.ofString "place_of", .ref 195)]
theorem F14 : Fn K 171 (Str.ofString "Box.letter") p14 l14 b14 c14 G14 [] := Fn.of (oc := .type "function") (od := none) (osl := #[]) (name := Str.ofString "letter") (params := a14) (dV := Value.none) (kV := Value.none) (doc := Value.none) (pm := Value.str (Str.ofString "postkeep.boxes") 323) (cdv := Value.ref 170) (ct := Value.none) (an := none)
  (fun P => by kernel_rfl) (fun P => by kernel_rfl) (fun P s vs _ hv => vs2 (fun a b => ⟨[], .nil, BindsTo.of_eq (by kernel_rfl)⟩) vs hv) (by decide +kernel) (by decide +kernel) (by decide +kernel) (List.forall_mem_cons.mpr ⟨g_place_of, List.forall_mem_nil _⟩) (by decide +kernel) (by kernel_rfl) (by kernel_rfl) (by kernel_rfl)
noncomputable abbrev l15 : List Str := []
noncomputable abbrev p15 : List Str := [Str.ofString "self"]
noncomputable abbrev G15 : List (Str × PV) := []
theorem F15 : Fn K 176 (Str.ofString "Box.uids") p15 l15 b15 c15 G15 [] := Fn.of (oc := .type "function") (od := none) (osl := #[]) (name := Str.ofString "uids") (params := a15) (dV := Value.none) (kV := Value.none) (doc := Value.none) (pm := Value.str (Str.ofString "postkeep.boxes") 323) (cdv := Value.ref 175) (ct := Value.none) (an := none)
  (fun P => by kernel_rfl) (fun P => by kernel_rfl) (fun P s vs _ hv => vs1 (fun a => ⟨[], .nil, BindsTo.of_eq (by kernel_rfl)⟩) vs hv) (by decide +kernel) (by decide +kernel) (by decide +kernel) (List.forall_mem_nil _) (by decide +kernel) (by kernel_rfl) (by kernel_rfl) (by kernel_rfl)
noncomputable abbrev l16 : List Str := [Str.ofString "letters"]
noncomputable abbrev p16 : List Str := [Str.ofString "self"]
noncomputable abbrev G16 : List (Str × PV) := [(Str.ofString "tuple", .type "tuple")]
theorem F16 : Fn K 181 (Str.ofString "Box.told") p16 l16 b16 c16 G16 [] := Fn.of (oc := .type "function") (od := none) (osl := #[]) (name := Str.ofString "told") (params := a16) (dV := Value.none) (kV := Value.none) (doc := Value.none) (pm := Value.str (Str.ofString "postkeep.boxes") 323) (cdv := Value.ref 180) (ct := Value.none) (an := none)
  (fun P => by kernel_rfl) (fun P => by kernel_rfl) (fun P s vs _ hv => vs1 (fun a => ⟨[], .nil, BindsTo.of_eq (by kernel_rfl)⟩) vs hv) (by decide +kernel) (by decide +kernel) (by decide +kernel) (List.forall_mem_cons.mpr ⟨g_tuple, List.forall_mem_nil _⟩) (by decide +kernel) (by kernel_rfl) (by kernel_rfl) (by kernel_rfl)
noncomputable abbrev l17 : List Str := [Str.ofString "low", Str.ofString "high", Str.ofString "middle"]
noncomputable abbrev p17 : List Str := [Str.ofString "letters", Str.ofString "uid"]
noncomputable abbrev G17 : List (Str × PV) := [(Str.ofString "len", .builtin "len")]
theorem F17 : Fn K 195 (Str.ofString "place_of") p17 l17 b17 c17 G17 [] := Fn.of (oc := .type "function") (od := none) (osl := #[]) (name := Str.ofString "place_of") (params := a17) (dV := Value.none) (kV := Value.none) (doc := Value.none) (pm := Value.str (Str.ofString "postkeep.boxes") 323) (cdv := Value.ref 194) (ct := Value.none) (an := none)
  (fun P => by kernel_rfl) (fun P => by kernel_rfl) (fun P s vs _ hv => vs2 (fun a b => ⟨[], .nil, BindsTo.of_eq (by kernel_rfl)⟩) vs hv) (by decide +kernel) (by decide +kernel) (by decide +kernel) (List.forall_mem_cons.mpr ⟨g_len, List.forall_mem_nil _⟩) (by decide +kernel) (by kernel_rfl) (by kernel_rfl) (by kernel_rfl)
noncomputable abbrev l18 : List Str := []
noncomputable abbrev p18 : List Str := [Str.ofString "text"]
noncomputable abbrev G18 : List (Str × PV) := []
theorem F18 : Fn K 200 (Str.ofString "upper_text") p18 l18 b18 c18 G18 [] := Fn.of (oc := .type "function") (od := none) (osl := #[]) (name := Str.ofString "upper_text") (params := a18) (dV := Value.none) (kV := Value.none) (doc := Value.none) (pm := Value.str (Str.ofString "postkeep.octets") 445) (cdv := Value.ref 199) (ct := Value.none) (an := none)
  (fun P => by kernel_rfl) (fun P => by kernel_rfl) (fun P s vs _ hv => vs1 (fun a => ⟨[], .nil, BindsTo.of_eq (by kernel_rfl)⟩) vs hv) (by decide +kernel) (by decide +kernel) (by decide +kernel) (List.forall_mem_nil _) (by decide +kernel) (by kernel_rfl) (by kernel_rfl) (by kernel_rfl)
noncomputable abbrev l19 : List Str := [Str.ofString "end"]
noncomputable abbrev p19 : List Str := [Str.ofString "text"]
noncomputable abbrev G19 : List (Str × PV) := [(Str.ofString "DELIMITER", .str (Str.ofString "/"))]
theorem F19 : Fn K 207 (Str.ofString "first_part") p19 l19 b19 c19 G19 [] := Fn.of (oc := .type "function") (od := none) (osl := #[]) (name := Str.ofString "first_part") (params := a19) (dV := Value.none) (kV := Value.none) (doc := Value.none) (pm := Value.str (Str.ofString "postkeep.names") 453) (cdv := Value.ref 206) (ct := Value.none) (an := none)
  (fun P => by kernel_rfl) (fun P => by kernel_rfl) (fun P s vs _ hv => vs1 (fun a => ⟨[], .nil, BindsTo.of_eq (by kernel_rfl)⟩) vs hv) (by decide +kernel) (by decide +kernel) (by decide +kernel) (List.forall_mem_cons.mpr ⟨g_DELIMITER, List.forall_mem_nil _⟩) (by decide +kernel) (by kernel_rfl) (by kernel_rfl) (by kernel_rfl)
noncomputable abbrev l20 : List Str := [Str.ofString "head", Str.ofString "rest"]
noncomputable abbrev p20 : List Str := [Str.ofString "text"]
noncomputable abbrev G20 : List (Str × PV) := [(Str.ofString "first_part", .ref 207), (Str.ofString "upper_text", .ref 200), (Str.ofString "INBOX_names", .str (Str.ofString "INBOX"))]
theorem F20 : Fn K 214 (Str.ofString "normal_name") p20 l20 b20 c20 G20 [] := Fn.of (oc := .type "function") (od := none) (osl := #[]) (name := Str.ofString "normal_name") (params := a20) (dV := Value.none) (kV := Value.none) (doc := Value.none) (pm := Value.str (Str.ofString "postkeep.names") 453) (cdv := Value.ref 213) (ct := Value.none) (an := none)
  (fun P => by kernel_rfl) (fun P => by kernel_rfl) (fun P s vs _ hv => vs1 (fun a => ⟨[], .nil, BindsTo.of_eq (by kernel_rfl)⟩) vs hv) (by decide +kernel) (by decide +kernel) (by decide +kernel) (List.forall_mem_cons.mpr ⟨g_first_part, List.forall_mem_cons.mpr ⟨g_upper_text, List.forall_mem_cons.mpr ⟨g_INBOX_names, List.forall_mem_nil _⟩⟩⟩) (by decide +kernel) (by kernel_rfl) (by kernel_rfl) (by kernel_rfl)
noncomputable abbrev l21 : List Str := []
noncomputable abbrev p21 : List Str := [Str.ofString "self"]
noncomputable abbrev G21 : List (Str × PV) := [(Str.ofString "INBOX_store", .str (Str.ofString "INBOX")), (Str.ofString "Box", .ref 184)]
theorem F21 : Fn K 228 (Str.ofString "Store.__init__") p21 l21 b21 c21 G21 [] := Fn.of (oc := .type "function") (od := none) (osl := #[]) (name := Str.ofString "__init__") (params := a21) (dV := Value.none) (kV := Value.none) (doc := Value.none) (pm := Value.str (Str.ofString "postkeep.store") 476) (cdv := Value.ref 227) (ct := Value.none) (an := none)
  (fun P => by kernel_rfl) (fun P => by kernel_rfl) (fun P s vs _ hv => vs1 (fun a => ⟨[], .nil, BindsTo.of_eq (by kernel_rfl)⟩) vs hv) (by decide +kernel) (by decide +kernel) (by decide +kernel) (List.forall_mem_cons.mpr ⟨g_INBOX_store, List.forall_mem_cons.mpr ⟨g_Box, List.forall_mem_nil _⟩⟩) (by decide +kernel) (by kernel_rfl) (by kernel_rfl) (by kernel_rfl)
noncomputable abbrev l22 : List Str := []
noncomputable abbrev p22 : List Str := [Str.ofString "self", Str.ofString "name"]
noncomputable abbrev G22 : List (Str × PV) := [(Str.ofString "_wall", .ref 21)]
theorem F22 : Fn K 235 (Str.ofString "Store.has") p22 l22 b22 c22 G22 [] := Fn.of (oc := .type "function") (od := none) (osl := #[]) (name := Str.ofString "has") (params := a22) (dV := Value.none) (kV := Value.none) (doc := Value.none) (pm := Value.str (Str.ofString "postkeep.store") 476) (cdv := Value.ref 234) (ct := Value.none) (an := none)
  (fun P => by kernel_rfl) (fun P => by kernel_rfl) (fun P s vs _ hv => vs2 (fun a b => ⟨[], .nil, BindsTo.of_eq (by kernel_rfl)⟩) vs hv) (by decide +kernel) (by decide +kernel) (by decide +kernel) (List.forall_mem_cons.mpr ⟨g__wall, List.forall_mem_nil _⟩) (by decide +kernel) (by kernel_rfl) (by kernel_rfl) (by kernel_rfl)
noncomputable abbrev l23 : List Str := [Str.ofString "found"]
noncomputable abbrev p23 : List Str := [Str.ofString "self", Str.ofString "name"]
noncomputable abbrev G23 : List (Str × PV) := [(Str.ofString "normal_name", .ref 214), (Str.ofString "StoreFault", .ref 59)]
theorem F23 : Fn K 242 (Str.ofString "Store.box") p23 l23 b23 c23 G23 [] := Fn.of (oc := .type "function") (od := none) (osl := #[]) (name := Str.ofString "box") (params := a23) (dV := Value.none) (kV := Value.none) (doc := Value.none) (pm := Value.str (Str.ofString "postkeep.store") 476) (cdv := Value.ref 241) (ct := Value.none) (an := none)
  (fun P => by kernel_rfl) (fun P => by kernel_rfl) (fun P s vs _ hv => vs2 (fun a b => ⟨[], .nil, BindsTo.of_eq (by kernel_rfl)⟩) vs hv) (by decide +kernel) (by decide +kernel) (by decide +kernel) (List.forall_mem_cons.mpr ⟨g_normal_name, List.forall_mem_cons.mpr ⟨g_StoreFault, List.forall_mem_nil _⟩⟩) (by decide +kernel) (by kernel_rfl) (by kernel_rfl) (by kernel_rfl)
noncomputable abbrev l24 : List Str := []
noncomputable abbrev p24 : List Str := [Str.ofString "self"]
noncomputable abbrev G24 : List (Str × PV) := [(Str.ofString "sorted", .builtin "sorted"), (Str.ofString "list", .type "list")]
theorem F24 : Fn K 249 (Str.ofString "Store.names") p24 l24 b24 c24 G24 [] := Fn.of (oc := .type "function") (od := none) (osl := #[]) (name := Str.ofString "names") (params := a24) (dV := Value.none) (kV := Value.none) (doc := Value.none) (pm := Value.str (Str.ofString "postkeep.store") 476) (cdv := Value.ref 248) (ct := Value.none) (an := none)
  (fun P => by kernel_rfl) (fun P => by kernel_rfl) (fun P s vs _ hv => vs1 (fun a => ⟨[], .nil, BindsTo.of_eq (by kernel_rfl)⟩) vs hv) (by decide +kernel) (by decide +kernel) (by decide +kernel) (List.forall_mem_cons.mpr ⟨g_sorted, List.forall_mem_cons.mpr ⟨g_list, List.forall_mem_nil _⟩⟩) (by decide +kernel) (by kernel_rfl) (by kernel_rfl) (by kernel_rfl)
noncomputable abbrev l25 : List Str := [Str.ofString "boxes"]
noncomputable abbrev p25 : List Str := [Str.ofString "self"]
noncomputable abbrev G25 : List (Str × PV) := [(Str.ofString "tuple", .type "tuple")]
theorem Gv25 : ∀ p ∈ G25, Glo K p.1 p.2 := List.forall_mem_cons.mpr ⟨g_tuple, List.forall_mem_nil _⟩
noncomputable abbrev l26 : List Str := [Str.ofString "cells"]
noncomputable abbrev p26 : List Str := [Str.ofString "script"]
noncomputable abbrev G26 : List (Str × PV) := [(Str.ofString "sum", .builtin "sum")]
theorem F26 : Fn K 266 (Str.ofString "_law_urn") p26 l26 b26 c26 G26 [] := Fn.of (oc := .type "function") (od := none) (osl := #[]) (name := Str.ofString "_law_urn") (params := a26) (dV := Value.none) (kV := Value.none) (doc := Value.none) (pm := Value.str (Str.ofString "law_pq0933_01") 540) (cdv := Value.ref 265) (ct := Value.none) (an := none)
  (fun P => by kernel_rfl) (fun P => by kernel_rfl) (fun P s vs _ hv => vs1 (fun a => ⟨[], .nil, BindsTo.of_eq (by kernel_rfl)⟩) vs hv) (by decide +kernel) (by decide +kernel) (by decide +kernel) (List.forall_mem_cons.mpr ⟨g_sum, List.forall_mem_nil _⟩) (by decide +kernel) (by kernel_rfl) (by kernel_rfl) (by kernel_rfl)
noncomputable abbrev l27 : List Str := [Str.ofString "digit"]
noncomputable abbrev p27 : List Str := [Str.ofString "urn", Str.ofString "many"]
noncomputable abbrev G27 : List (Str × PV) := []
theorem F27 : Fn K 273 (Str.ofString "_law_pull") p27 l27 b27 c27 G27 [] := Fn.of (oc := .type "function") (od := none) (osl := #[]) (name := Str.ofString "_law_pull") (params := a27) (dV := Value.none) (kV := Value.none) (doc := Value.none) (pm := Value.str (Str.ofString "law_pq0933_01") 540) (cdv := Value.ref 272) (ct := Value.none) (an := none)
  (fun P => by kernel_rfl) (fun P => by kernel_rfl) (fun P s vs _ hv => vs2 (fun a b => ⟨[], .nil, BindsTo.of_eq (by kernel_rfl)⟩) vs hv) (by decide +kernel) (by decide +kernel) (by decide +kernel) (List.forall_mem_nil _) (by decide +kernel) (by kernel_rfl) (by kernel_rfl) (by kernel_rfl)
noncomputable abbrev l28 : List Str := [Str.ofString "box", Str.ofString "uid", Str.ofString "spot"]
noncomputable abbrev p28 : List Str := [Str.ofString "urn", Str.ofString "name"]
noncomputable abbrev G28 : List (Str × PV) := [(Str.ofString "Box", .ref 184), (Str.ofString "_law_pull", .ref 273), (Str.ofString "range", .type "range"), (Str.ofString "Letter", .ref 146)]
theorem F28 : Fn K 295 (Str.ofString "_law_box") p28 l28 b28 c28 G28 [] := Fn.of (oc := .type "function") (od := none) (osl := #[]) (name := Str.ofString "_law_box") (params := a28) (dV := Value.none) (kV := Value.none) (doc := Value.none) (pm := Value.str (Str.ofString "law_pq0933_01") 540) (cdv := Value.ref 294) (ct := Value.none) (an := none)
  (fun P => by kernel_rfl) (fun P => by kernel_rfl) (fun P s vs _ hv => vs2 (fun a b => ⟨[], .nil, BindsTo.of_eq (by kernel_rfl)⟩) vs hv) (by decide +kernel) (by decide +kernel) (by decide +kernel) (List.forall_mem_cons.mpr ⟨g_Box, List.forall_mem_cons.mpr ⟨g__law_pull, List.forall_mem_cons.mpr ⟨g_range, List.forall_mem_cons.mpr ⟨g_Letter, List.forall_mem_nil _⟩⟩⟩⟩) (by decide +kernel) (by kernel_rfl) (by kernel_rfl) (by kernel_rfl)
noncomputable abbrev l29 : List Str := [Str.ofString "found", Str.ofString "left"]
noncomputable abbrev p29 : List Str := [Str.ofString "number"]
noncomputable abbrev G29 : List (Str × PV) := []
theorem F29 : Fn K 302 (Str.ofString "_law_figures") p29 l29 b29 c29 G29 [] := Fn.of (oc := .type "function") (od := none) (osl := #[]) (name := Str.ofString "_law_figures") (params := a29) (dV := Value.none) (kV := Value.none) (doc := Value.none) (pm := Value.str (Str.ofString "law_pq0933_01") 540) (cdv := Value.ref 301) (ct := Value.none) (an := none)
  (fun P => by kernel_rfl) (fun P => by kernel_rfl) (fun P s vs _ hv => vs1 (fun a => ⟨[], .nil, BindsTo.of_eq (by kernel_rfl)⟩) vs hv) (by decide +kernel) (by decide +kernel) (by decide +kernel) (List.forall_mem_nil _) (by decide +kernel) (by kernel_rfl) (by kernel_rfl) (by kernel_rfl)
noncomputable abbrev l30 : List Str := [Str.ofString "total", Str.ofString "sign"]
noncomputable abbrev p30 : List Str := [Str.ofString "text"]
noncomputable abbrev G30 : List (Str × PV) := [(Str.ofString "len", .builtin "len")]
theorem F30 : Fn K 309 (Str.ofString "_law_number") p30 l30 b30 c30 G30 [] := Fn.of (oc := .type "function") (od := none) (osl := #[]) (name := Str.ofString "_law_number") (params := a30) (dV := Value.none) (kV := Value.none) (doc := Value.none) (pm := Value.str (Str.ofString "law_pq0933_01") 540) (cdv := Value.ref 308) (ct := Value.none) (an := none)
  (fun P => by kernel_rfl) (fun P => by kernel_rfl) (fun P s vs _ hv => vs1 (fun a => ⟨[], .nil, BindsTo.of_eq (by kernel_rfl)⟩) vs hv) (by decide +kernel) (by decide +kernel) (by decide +kernel) (List.forall_mem_cons.mpr ⟨g_len, List.forall_mem_nil _⟩) (by decide +kernel) (by kernel_rfl) (by kernel_rfl) (by kernel_rfl)
noncomputable abbrev l31 : List Str := [Str.ofString "way", Str.ofString "at", Str.ofString "number", Str.ofString "text", Str.ofString "wide", Str.ofString "spot", Str.ofString "odd"]
noncomputable abbrev p31 : List Str := [Str.ofString "urn", Str.ofString "box"]
noncomputable abbrev G31 : List (Str × PV) := [(Str.ofString "_law_pull", .ref 273), (Str.ofString "max", .builtin "max"), (Str.ofString "len", .builtin "len"), (Str.ofString "_law_figures", .ref 302), (Str.ofString "_law_odd", .ref 288)]
theorem F31 : Fn K 316 (Str.ofString "_law_spelling") p31 l31 b31 c31 G31 [] := Fn.of (oc := .type "function") (od := none) (osl := #[]) (name := Str.ofString "_law_spelling") (params := a31) (dV := Value.none) (kV := Value.none) (doc := Value.none) (pm := Value.str (Str.ofString "law_pq0933_01") 540) (cdv := Value.ref 315) (ct := Value.none) (an := none)
  (fun P => by kernel_rfl) (fun P => by kernel_rfl) (fun P s vs _ hv => vs2 (fun a b => ⟨[], .nil, BindsTo.of_eq (by kernel_rfl)⟩) vs hv) (by decide +kernel) (by decide +kernel) (by decide +kernel) (List.forall_mem_cons.mpr ⟨g__law_pull, List.forall_mem_cons.mpr ⟨g_max, List.forall_mem_cons.mpr ⟨g_len, List.forall_mem_cons.mpr ⟨g__law_figures, List.forall_mem_cons.mpr ⟨g__law_odd, List.forall_mem_nil _⟩⟩⟩⟩⟩) (by decide +kernel) (by kernel_rfl) (by kernel_rfl) (by kernel_rfl)
noncomputable abbrev l32 : List Str := [Str.ofString "bent", Str.ofString "trail", Str.ofString "rest", Str.ofString "plain"]
noncomputable abbrev p32 : List Str := [Str.ofString "urn", Str.ofString "name", Str.ofString "text"]
noncomputable abbrev G32 : List (Str × PV) := [(Str.ofString "_law_pull", .ref 273), (Str.ofString "len", .builtin "len")]
theorem F32 : Fn K 323 (Str.ofString "_law_rest") p32 l32 b32 c32 G32 [] := Fn.of (oc := .type "function") (od := none) (osl := #[]) (name := Str.ofString "_law_rest") (params := a32) (dV := Value.none) (kV := Value.none) (doc := Value.none) (pm := Value.str (Str.ofString "law_pq0933_01") 540) (cdv := Value.ref 322) (ct := Value.none) (an := none)
  (fun P => by kernel_rfl) (fun P => by kernel_rfl) (fun P s vs _ hv => vs3 (fun a b c => ⟨[], .nil, BindsTo.of_eq (by kernel_rfl)⟩) vs hv) (by decide +kernel) (by decide +kernel) (by decide +kernel) (List.forall_mem_cons.mpr ⟨g__law_pull, List.forall_mem_cons.mpr ⟨g_len, List.forall_mem_nil _⟩⟩) (by decide +kernel) (by kernel_rfl) (by kernel_rfl) (by kernel_rfl)
noncomputable abbrev l33 : List Str := [Str.ofString "words", Str.ofString "found", Str.ofString "word"]
noncomputable abbrev p33 : List Str := [Str.ofString "store", Str.ofString "rest"]
noncomputable abbrev G33 : List (Str × PV) := [(Str.ofString "tuple", .type "tuple"), (Str.ofString "words_of", .ref 91), (Str.ofString "letter_in", .ref 110), (Str.ofString "DeskFault", .ref 71), (Str.ofString "StoreFault", .ref 59)]
theorem F33 : Fn K 330 (Str.ofString "_law_heard") p33 l33 b33 c33 G33 [] := Fn.of (oc := .type "function") (od := none) (osl := #[]) (name := Str.ofString "_law_heard") (params := a33) (dV := Value.none) (kV := Value.none) (doc := Value.none) (pm := Value.str (Str.ofString "law_pq0933_01") 540) (cdv := Value.ref 329) (ct := Value.none) (an := none)
  (fun P => by kernel_rfl) (fun P => by kernel_rfl) (fun P s vs _ hv => vs2 (fun a b => ⟨[], .nil, BindsTo.of_eq (by kernel_rfl)⟩) vs hv) (by decide +kernel) (by decide +kernel) (by decide +kernel) (List.forall_mem_cons.mpr ⟨g_tuple, List.forall_mem_cons.mpr ⟨g_words_of, List.forall_mem_cons.mpr ⟨g_letter_in, List.forall_mem_cons.mpr ⟨g_DeskFault, List.forall_mem_cons.mpr ⟨g_StoreFault, List.forall_mem_nil _⟩⟩⟩⟩⟩) (by decide +kernel) (by kernel_rfl) (by kernel_rfl) (by kernel_rfl)
noncomputable abbrev l34 : List Str := []
noncomputable abbrev p34 : List Str := [Str.ofString "text"]
noncomputable abbrev G34 : List (Str × PV) := [(Str.ofString "whole_number", .ref 84), (Str.ofString "DeskFault", .ref 71)]
theorem F34 : Fn K 337 (Str.ofString "_law_read") p34 l34 b34 c34 G34 [] := Fn.of (oc := .type "function") (od := none) (osl := #[]) (name := Str.ofString "_law_read") (params := a34) (dV := Value.none) (kV := Value.none) (doc := Value.none) (pm := Value.str (Str.ofString "law_pq0933_01") 540) (cdv := Value.ref 336) (ct := Value.none) (an := none)
  (fun P => by kernel_rfl) (fun P => by kernel_rfl) (fun P s vs _ hv => vs1 (fun a => ⟨[], .nil, BindsTo.of_eq (by kernel_rfl)⟩) vs hv) (by decide +kernel) (by decide +kernel) (by decide +kernel) (List.forall_mem_cons.mpr ⟨g_whole_number, List.forall_mem_cons.mpr ⟨g_DeskFault, List.forall_mem_nil _⟩⟩) (by decide +kernel) (by kernel_rfl) (by kernel_rfl) (by kernel_rfl)
noncomputable abbrev l35 : List Str := [Str.ofString "uids", Str.ofString "row", Str.ofString "words", Str.ofString "lines", Str.ofString "at", Str.ofString "line"]
noncomputable abbrev p35 : List Str := [Str.ofString "box"]
noncomputable abbrev G35 : List (Str × PV) := [(Str.ofString "numbers_told", .ref 115), (Str.ofString "box_told", .ref 103), (Str.ofString "len", .builtin "len"), (Str.ofString "range", .type "range"), (Str.ofString "_law_figures", .ref 302), (Str.ofString "letter_in", .ref 110)]
theorem F35 : Fn K 342 (Str.ofString "_law_is_told") p35 l35 b35 c35 G35 [] := Fn.of (oc := .type "function") (od := none) (osl := #[]) (name := Str.ofString "_law_is_told") (params := a35) (dV := Value.none) (kV := Value.none) (doc := Value.none) (pm := Value.str (Str.ofString "law_pq0933_01") 540) (cdv := Value.ref 341) (ct := Value.none) (an := none)
  (fun P => by kernel_rfl) (fun P => by kernel_rfl) (fun P s vs _ hv => vs1 (fun a => ⟨[], .nil, BindsTo.of_eq (by kernel_rfl)⟩) vs hv) (by decide +kernel) (by decide +kernel) (by decide +kernel) (List.forall_mem_cons.mpr ⟨g_numbers_told, List.forall_mem_cons.mpr ⟨g_box_told, List.forall_mem_cons.mpr ⟨g_len, List.forall_mem_cons.mpr ⟨g_range, List.forall_mem_cons.mpr ⟨g__law_figures, List.forall_mem_cons.mpr ⟨g_letter_in, List.forall_mem_nil _⟩⟩⟩⟩⟩⟩) (by decide +kernel) (by kernel_rfl) (by kernel_rfl) (by kernel_rfl)
noncomputable abbrev l36 : List Str := [Str.ofString "spelled", Str.ofString "name", Str.ofString "before", Str.ofString "spelling", Str.ofString "text", Str.ofString "rest", Str.ofString "words", Str.ofString "here", Str.ofString "heard", Str.ofString "numbers", Str.ofString "row"]
noncomputable abbrev p36 : List Str := [Str.ofString "script"]
noncomputable abbrev G36 : List (Str × PV) := [(Str.ofString "_law_urn", .ref 266), (Str.ofString "range", .type "range"), (Str.ofString "Store", .ref 257), (Str.ofString "_law_names", .ref 274), (Str.ofString "_law_box", .ref 295), (Str.ofString "_law_spelling", .ref 316), (Str.ofString "_law_rest", .ref 323), (Str.ofString "_law_number", .ref 309), (Str.ofString "_law_heard", .ref 330), (Str.ofString "_law_read", .ref 337), (Str.ofString "_law_pull", .ref 273), (Str.ofString "numbers_told", .ref 115)]
theorem Gv36 : ∀ p ∈ G36, Glo K p.1 p.2 := List.forall_mem_cons.mpr ⟨g__law_urn, List.forall_mem_cons.mpr ⟨g_range, List.forall_mem_cons.mpr ⟨g_Store, List.forall_mem_cons.mpr ⟨g__law_names, List.forall_mem_cons.mpr ⟨g__law_box, List.forall_mem_cons.mpr ⟨g__law_spelling, List.forall_mem_cons.mpr ⟨g__law_rest, List.forall_mem_cons.mpr ⟨g__law_number, List.forall_mem_cons.mpr ⟨g__law_heard, List.forall_mem_cons.mpr ⟨g__law_read, List.forall_mem_cons.mpr ⟨g__law_pull, List.forall_mem_cons.mpr ⟨g_numbers_told, List.forall_mem_nil _⟩⟩⟩⟩⟩⟩⟩⟩⟩⟩⟩⟩
end
-- the walk's lines: «walk_at w» with w a list of rules, tried in order; a rule's premises stand as words: «_» is left to the walk, another word is the line that closes it
local macro_rules | `(tactic| walk_at "asm") => `(tactic| assumption)
local macro_rules | `(tactic| walk_at "rfl") => `(tactic| first | rfl | (intro _ _; rfl))
local macro_rules | `(tactic| walk_at "dec") => `(tactic| first | decide | omega | exact log2_small (by omega) | exact Or.inl (bits_small (by omega)) | exact Or.inr (bits_small (by omega)))
local macro_rules | `(tactic| walk_at "AT") => `(tactic| repeat' (first | exact At.head | refine' At.tail ?_))
local macro_rules | `(tactic| walk_at "PUT") => `(tactic| repeat' (first | exact PutAt.head | refine' PutAt.tail ?_))
local macro_rules | `(tactic| walk_at "UP") => `(tactic| repeat' (first | exact Up.head | refine' Up.tail ?_))
local macro_rules | `(tactic| walk_at "LSET") => `(tactic| repeat' (first | exact LSet.zero | refine' LSet.succ ?_))
local macro_rules | `(tactic| walk_at "MEM") => `(tactic| repeat' (first | exact List.Mem.head _ | refine List.Mem.tail _ ?_))
local macro_rules | `(tactic| walk_at "FZ") => `(tactic| first | assumption | (walk_at "MEM"; done) | (refine List.mem_append_right _ ?_; walk_at "FZ") | (refine List.mem_append_left _ ?_; walk_at "FZ"))
local macro_rules | `(tactic| walk_at "LOOK") => `(tactic| first | (refine Look.led ?_; walk_at "MEM"; done) | (refine Look.fz ?_; walk_at "FZ"; done))
local macro_rules | `(tactic| walk_at "SHOW") => `(tactic| ((with_reducible show _ ≤ _ ∧ _); refine ⟨Nat.le_of_ble_eq_true rfl, fun _ => ?_⟩; dsimp only))
local macro_rules | `(tactic| walk_at $s:str) => do
  let w := s.getString
  let l := if w = "ST" then "s_cons _|s_nil _|s_if _|s_return _|s_assign _ rfl|s_assign_sub _ rfl|s_assign_attr _ rfl|s_expr _ rfl|w_local asm AT _|w_glob asm MEM _|w_int _|w_str _|w_none _|w_bool _|w_binop _|w_cmp1 _ rfl|w_unary _|w_ifexp _|w_slice _|p_none _|p_some _|w_sub _|w_list _|w_tuple _|w_method _ rfl rfl rfl rfl|w_call _ rfl rfl|w_attr _ rfl|l_nil _|l_cons _ rfl|t_and _|t_and_nil _|t_or _|t_or_nil _|t_not _|t_cmp1 _ rfl|tr_bool _|b_add_int _|b_sub_int _|b_eq_int _|b_ne_int _|b_lt_int _|b_le_int _|b_gt_int _|b_ge_int _|u_neg_int _|b_eq_str _|b_ne_str _|b_in_str _|b_notin_str _|b_is_none _|b_isnot_none _|b_ne_nil LOOK LOOK _|b_eq_nil LOOK LOOK _|sub_list LOOK dec dec rfl _ rfl|put asm PUT _|set_list UP dec dec LSET _|seq_next _|seq_ret _|b_mod_int dec _|b_div_int dec dec _|b_mul_int dec _|wt _|wf _|wnt _|wnf _|SHOW"
    else ""
  if l = "" then Lean.Macro.throwUnsupported
  let nd (k : String) (a : List Lean.Syntax) : Lean.Syntax := .node .none k.toName a.toArray
  let at_ : String → Lean.Syntax := .atom .none
  let sq (a : List Lean.Syntax) : Lean.Syntax := nd "Lean.Parser.Tactic.tacticSeq" [nd "Lean.Parser.Tactic.tacticSeq1Indented" [nd "null" (a.intersperse (at_ ";"))]]
  let line (x : String) : Lean.Syntax := nd "PyProof.Rows.tacticWalk_at_" [at_ "walk_at", (Lean.Syntax.mkStrLit x).raw]
  let hole (k : Nat) : Lean.Syntax := (Lean.mkIdent ("h" ++ toString k).toName).raw
  let rule (r : String) : Lean.Syntax :=
    match r.splitOn " " with
    | ["SHOW"] => line "SHOW"
    | f :: ps =>
      let qs := ps.zipIdx
      let how := if ps.all fun p => p = "_" || p = "rfl" then "refine" else "refine'"
      sq (nd "Lean.Parser.Tactic.withReducible" [at_ "with_reducible", sq [nd ("Lean.Parser.Tactic." ++ how) [at_ how, (Lean.Syntax.mkApp (Lean.mkIdent f.toName) (qs.map fun q => ⟨nd "Lean.Parser.Term.syntheticHole" [at_ "?", if q.1 = "_" then at_ "_" else hole q.2]⟩).toArray).raw]]] ::
        (qs.filter fun q => q.1 ≠ "_").map fun q => nd "Lean.Parser.Tactic.case" [at_ "case", nd "null" [nd "Lean.Parser.Tactic.caseArg" [nd "Lean.binderIdent" [hole q.2], nd "null" []]], at_ "=>", sq [line q.1]])
    | [] => at_ ""
  return nd "Lean.Parser.Tactic.first" [at_ "first", nd "null" ((l.splitOn "|").map fun r => nd "group" [at_ "|", (let x := rule r; if x.isOfKind `Lean.Parser.Tactic.tacticSeq then x else sq [x])])]

section
set_option maxRecDepth 100000
set_option maxHeartbeats 8000000
set_option linter.unusedVariables false
theorem ty_pop : typeOf (.builtin "list.pop") = pure (.type "method_descriptor") := by show builtinType _ = _; rw [builtinType_eq_fast]; kernel_rfl
structure Urn where
  cells : List Int
  cur : Int
  k : Int
  z : Int
noncomputable abbrev UrnLed (urn cs : Addr) (u : Urn) : List (Addr × AO) := [(urn, .list [.ref cs, .int u.cur, .int u.k, .int u.z]), (cs, .list (u.cells.map .int))]
structure UrnOK (B : Int) (u : Urn) : Prop where
  cur : 0 ≤ u.cur ∧ u.cur < 10 ^ 60
  k : 0 ≤ u.k ∧ u.k ≤ B
  z : 0 ≤ u.z ∧ u.z ≤ 100000
  cells : ∀ x ∈ u.cells, 0 ≤ x ∧ x < 10 ^ 60
  len : u.cells.length ≤ 40

theorem pull_spec {prog : Program} {w : World} {urn cs : Addr} {u : Urn} {B many : Int} {fz : List (Addr × AO)} (hu : UrnOK B u) (hB : B ≤ 1000000) (hm : 0 < many ∧ many ≤ 10 ^ 18) :
    Spec K prog w 0 273 [.ref urn, .int many] (UrnLed urn cs u) fz (fun p mu fz' => fz' = fz ∧ ∃ d u', p = .int d ∧ 0 ≤ d ∧ d < many ∧ mu = UrnLed urn cs u' ∧ UrnOK (B + 1) u') := by
  refine enter F27 (by rfl) ?_
  intro c cK cn cp cw cN cG cC cS cF
  obtain ⟨cells, cur, k, z⟩ := u
  replace cN : c.names = (["urn", "many", "digit"] : List Str) := cN
  have e27 : ∃ b, b27 = b := ⟨_, rfl⟩
  show Wk c PF.Is _ _ ⟨[some (.ref urn), some (.int many), none], UrnLed urn cs ⟨cells, cur, k, z⟩, fz⟩
  dsimp only [UrnLed]
  refine s_cons (Wk.mono (Q := fun pf σ' => pf = .next ∧ ∃ u' x, UrnOK B u' ∧ Take σ'.led (UrnLed urn cs u') x ∧ σ' = ⟨[some (.ref urn), some (.int many), none], σ'.led, fz⟩) ?_ ?_)
  · repeat' walk_at "ST"
    refine wite (fun h0 => ?_) (fun h0 => ?_)
    · repeat' walk_at "ST"
      rcases cells with _ | ⟨n, ns⟩
      · refine wf ?_
        repeat' walk_at "ST"
        exact ⟨rfl, ⟨[], cur, k, z⟩, _, hu, .cons (.tail .head) (.cons (.tail .head) .nil), rfl⟩
      · refine wt ?_
        repeat' walk_at "ST"
        refine' m_list ?h1 PySem.F.slot_list_pop ty_pop ?_
        case h1 => walk_at "LOOK"
        refine ⟨fun _ => trivial, ?_⟩
        repeat' walk_at "ST"
        dsimp only [List.cons_append, List.nil_append]
        refine' c_pop0 (x := .int n) (xs := ns.map .int) ?U ?z ?_
        case U => walk_at "UP"
        case z => (rw [List.length_map]; have := hu.len; simp only [List.length_cons] at this; omega)
        repeat' walk_at "ST"
        exact ⟨rfl, ⟨ns, n, k, z⟩, _, ⟨hu.cells n (.head _), hu.k, hu.z, fun x hx => hu.cells x (.tail _ hx), Nat.le_trans (Nat.le_succ _) hu.len⟩, .cons (.tail .head) (.cons (.tail .head) .nil), rfl⟩
    · repeat' walk_at "ST"
      exact ⟨rfl, ⟨cells, cur, k, z⟩, _, hu, .cons .head (.cons .head .nil), rfl⟩
  · rintro pf ⟨loc, led, fz'⟩ ⟨rfl, u', x, hu', ht, e⟩
    cases e
    obtain ⟨cells', cur', k', z'⟩ := u'
    obtain ⟨hc, hk, hz, hcs, hln⟩ := hu'
    dsimp only at hc hk hz hcs hln
    refine Wk.conv ht .nil ?_
    dsimp only [UrnLed, List.nil_append]
    repeat' walk_at "ST"
    have hm0 : 0 < many := hm.1
    have q1 : 0 ≤ cur'.fdiv many := Int.fdiv_nonneg hc.1 (Int.le_of_lt hm0)
    have q2 : cur'.fdiv many ≤ cur' := by rw [Int.fdiv_eq_ediv_of_nonneg _ (Int.le_of_lt hm0)]; exact Int.ediv_le_self _ hc.1
    exact ⟨_, _, [], _, .cons .head (.cons .head .nil), .nil, rfl, _, ⟨cells', cur'.fdiv many, k' + 1, z'⟩, rfl, Int.fmod_nonneg_of_pos _ hm0, Int.fmod_lt_of_pos _ hm0, rfl,
      ⟨⟨q1, Int.lt_of_le_of_lt q2 hc.2⟩, ⟨by show 0 ≤ k' + 1; omega, by show k' + 1 ≤ B + 1; omega⟩, hz, hcs, hln⟩⟩
theorem wc_pull {c : Cx} {σ : St} {Q : PV → St → Prop} {urn cs : Addr} {u : Urn} {B many : Int} {rest : List (Addr × AO)} (hu : UrnOK B u) (hB : B ≤ 1000000) (hm : 0 < many ∧ many ≤ 10 ^ 18) (hK : c.K = K) (hn : 0 < c.n) (ht : Take σ.led (UrnLed urn cs u) rest)
    (k : ∀ d u', 0 ≤ d → d < many → UrnOK (B + 1) u' → Q (.int d) ⟨σ.loc, UrnLed urn cs u' ++ rest, σ.fz⟩) : WCall c (.ref 273) [.ref urn, .int many] Q σ :=
  wc_spec (pull_spec hu hB hm) hK rfl rfl hn ht fun p mu fz' h _ => by
    obtain ⟨e, d, u', e1, h0, h1, e2, h2⟩ := h
    rw [e, e1, e2]; exact k d u' h0 h1 h2
end
section
set_option maxRecDepth 100000
set_option linter.unusedVariables false

theorem n146_uid : ∀ P, findIn (K P) (.ref 146) (Str.ofString "uid") = some none := fun P => by kernel_rfl
theorem n146_octets : ∀ P, findIn (K P) (.ref 146) (Str.ofString "octets") = some none := fun P => by kernel_rfl
theorem n146_flags : ∀ P, findIn (K P) (.ref 146) (Str.ofString "flags") = some none := fun P => by kernel_rfl
theorem n146_instant : ∀ P, findIn (K P) (.ref 146) (Str.ofString "instant") = some none := fun P => by kernel_rfl
theorem n146_modseq : ∀ P, findIn (K P) (.ref 146) (Str.ofString "modseq") = some none := fun P => by kernel_rfl
theorem n184_name : ∀ P, findIn (K P) (.ref 184) (Str.ofString "name") = some none := fun P => by kernel_rfl
theorem n184_validity : ∀ P, findIn (K P) (.ref 184) (Str.ofString "validity") = some none := fun P => by kernel_rfl
theorem n184_next_uid : ∀ P, findIn (K P) (.ref 184) (Str.ofString "next_uid") = some none := fun P => by kernel_rfl
theorem n184_top : ∀ P, findIn (K P) (.ref 184) (Str.ofString "top") = some none := fun P => by kernel_rfl
theorem n184_floor : ∀ P, findIn (K P) (.ref 184) (Str.ofString "floor") = some none := fun P => by kernel_rfl
theorem n184_letters : ∀ P, findIn (K P) (.ref 184) (Str.ofString "letters") = some none := fun P => by kernel_rfl
theorem n184_gone : ∀ P, findIn (K P) (.ref 184) (Str.ofString "gone") = some none := fun P => by kernel_rfl
theorem n257_boxes : ∀ P, findIn (K P) (.ref 257) (Str.ofString "boxes") = some none := fun P => by kernel_rfl
theorem n257_subscribed : ∀ P, findIn (K P) (.ref 257) (Str.ofString "subscribed") = some none := fun P => by kernel_rfl
theorem n257_next_validity : ∀ P, findIn (K P) (.ref 257) (Str.ofString "next_validity") = some none := fun P => by kernel_rfl
theorem n59_what : ∀ P, findIn (K P) (.ref 59) (Str.ofString "what") = some none := fun P => by kernel_rfl
theorem n59_at : ∀ P, findIn (K P) (.ref 59) (Str.ofString "at") = some none := fun P => by kernel_rfl
theorem n71_what : ∀ P, findIn (K P) (.ref 71) (Str.ofString "what") = some none := fun P => by kernel_rfl
theorem n71_at : ∀ P, findIn (K P) (.ref 71) (Str.ofString "at") = some none := fun P => by kernel_rfl
theorem m146_told : ∀ P, findIn (K P) (.ref 146) (Str.ofString "told") = some (some (.ref 143)) := fun P => by kernel_rfl
theorem i143 : ∀ P, isFn (K P) (.ref 143) = true := fun P => by kernel_rfl
theorem m184_letter : ∀ P, findIn (K P) (.ref 184) (Str.ofString "letter") = some (some (.ref 171)) := fun P => by kernel_rfl
theorem i171 : ∀ P, isFn (K P) (.ref 171) = true := fun P => by kernel_rfl
theorem m184_uids : ∀ P, findIn (K P) (.ref 184) (Str.ofString "uids") = some (some (.ref 176)) := fun P => by kernel_rfl
theorem i176 : ∀ P, isFn (K P) (.ref 176) = true := fun P => by kernel_rfl
theorem m184_told : ∀ P, findIn (K P) (.ref 184) (Str.ofString "told") = some (some (.ref 181)) := fun P => by kernel_rfl
theorem i181 : ∀ P, isFn (K P) (.ref 181) = true := fun P => by kernel_rfl
theorem m257_box : ∀ P, findIn (K P) (.ref 257) (Str.ofString "box") = some (some (.ref 242)) := fun P => by kernel_rfl
theorem i242 : ∀ P, isFn (K P) (.ref 242) = true := fun P => by kernel_rfl
theorem m257_names : ∀ P, findIn (K P) (.ref 257) (Str.ofString "names") = some (some (.ref 249)) := fun P => by kernel_rfl
theorem i249 : ∀ P, isFn (K P) (.ref 249) = true := fun P => by kernel_rfl
theorem m257_told : ∀ P, findIn (K P) (.ref 257) (Str.ofString "told") = some (some (.ref 254)) := fun P => by kernel_rfl
theorem i254 : ∀ P, isFn (K P) (.ref 254) = true := fun P => by kernel_rfl
theorem R146 : ReadOK K 146 := ⟨fun P name => by kernel_rfl, fun P => by kernel_rfl⟩
theorem R184 : ReadOK K 184 := ⟨fun P name => by kernel_rfl, fun P => by kernel_rfl⟩
theorem R257 : ReadOK K 257 := ⟨fun P name => by kernel_rfl, fun P => by kernel_rfl⟩
theorem S146 : StoreOK K 146 := ⟨fun P => by kernel_rfl, [.ref 146, .type "object"], fun P => ⟨_, rfl, rfl, rfl⟩, fun self => rfl, by decide, rfl⟩
theorem S184 : StoreOK K 184 := ⟨fun P => by kernel_rfl, [.ref 184, .type "object"], fun P => ⟨_, rfl, rfl, rfl⟩, fun self => rfl, by decide, rfl⟩
theorem S257 : StoreOK K 257 := ⟨fun P => by kernel_rfl, [.ref 257, .type "object"], fun P => ⟨_, rfl, rfl, rfl⟩, fun self => rfl, by decide, rfl⟩
theorem S59 : StoreOK K 59 := ⟨fun P => by kernel_rfl, [.ref 59, .ref 46, .type "Exception", .type "BaseException", .type "object"], fun P => ⟨_, rfl, rfl, rfl⟩, fun self => rfl, by decide, rfl⟩
theorem S71 : StoreOK K 71 := ⟨fun P => by kernel_rfl, [.ref 71, .ref 46, .type "Exception", .type "BaseException", .type "object"], fun P => ⟨_, rfl, rfl, rfl⟩, fun self => rfl, by decide, rfl⟩
theorem M146 : MakeOK K 146 129 := ⟨fun P => by kernel_rfl, fun P => by kernel_rfl, fun P => by kernel_rfl⟩
theorem M184 : MakeOK K 184 164 := ⟨fun P => by kernel_rfl, fun P => by kernel_rfl, fun P => by kernel_rfl⟩
theorem M257 : MakeOK K 257 228 := ⟨fun P => by kernel_rfl, fun P => by kernel_rfl, fun P => by kernel_rfl⟩
theorem X59 : ExcCls K 59 36 := ⟨⟨_, _, _, _, _, _, _, _, _, _, _, _, _, _, _, _, ⟨by decide, by decide, by decide, by decide⟩, fun P => rfl⟩, fun P => by kernel_rfl, fun P => by kernel_rfl⟩
theorem X71 : ExcCls K 71 36 := ⟨⟨_, _, _, _, _, _, _, _, _, _, _, _, _, _, _, _, ⟨by decide, by decide, by decide, by decide⟩, fun P => rfl⟩, fun P => by kernel_rfl, fun P => by kernel_rfl⟩
theorem x71_71 : ∀ P, exmOne (K P) (.ref 71) (.ref 71) = some true := fun P => by kernel_rfl
theorem x59_59 : ∀ P, exmOne (K P) (.ref 59) (.ref 59) = some true := fun P => by kernel_rfl
theorem x71_59 : ∀ P, exmOne (K P) (.ref 71) (.ref 59) = some false := fun P => by kernel_rfl
theorem x59_71 : ∀ P, exmOne (K P) (.ref 59) (.ref 71) = some false := fun P => by kernel_rfl
theorem g_chr : Glo K (Str.ofString "chr") (.builtin "chr") := fun P => ⟨.builtin "chr", rfl, .inr ⟨by kernel_rfl, by kernel_rfl, by decide⟩⟩
theorem g_ord : Glo K (Str.ofString "ord") (.builtin "ord") := fun P => ⟨.builtin "ord", rfl, .inr ⟨by kernel_rfl, by kernel_rfl, by decide⟩⟩
theorem g_abs : Glo K (Str.ofString "abs") (.builtin "abs") := fun P => ⟨.builtin "abs", rfl, .inr ⟨by kernel_rfl, by kernel_rfl, by decide⟩⟩
theorem g_letter_line : Glo K (Str.ofString "letter_line") (.ref 98) := fun P => ⟨.ref 98, rfl, .inl (by kernel_rfl)⟩
theorem g__law_is_told : Glo K (Str.ofString "_law_is_told") (.ref 342) := fun P => ⟨.ref 342, rfl, .inl (by kernel_rfl)⟩
theorem g__law_spelled : Glo K (Str.ofString "_law_spelled") (.ref 287) := fun P => ⟨.ref 287, rfl, .inl (by kernel_rfl)⟩
theorem k79 : ∀ P, keepIn (K P) (.ref 79) = true := fun P => by kernel_rfl
theorem k84 : ∀ P, keepIn (K P) (.ref 84) = true := fun P => by kernel_rfl
theorem k91 : ∀ P, keepIn (K P) (.ref 91) = true := fun P => by kernel_rfl
theorem k98 : ∀ P, keepIn (K P) (.ref 98) = true := fun P => by kernel_rfl
theorem k103 : ∀ P, keepIn (K P) (.ref 103) = true := fun P => by kernel_rfl
theorem k110 : ∀ P, keepIn (K P) (.ref 110) = true := fun P => by kernel_rfl
theorem k115 : ∀ P, keepIn (K P) (.ref 115) = true := fun P => by kernel_rfl
theorem k195 : ∀ P, keepIn (K P) (.ref 195) = true := fun P => by kernel_rfl
theorem k200 : ∀ P, keepIn (K P) (.ref 200) = true := fun P => by kernel_rfl
theorem k207 : ∀ P, keepIn (K P) (.ref 207) = true := fun P => by kernel_rfl
theorem k214 : ∀ P, keepIn (K P) (.ref 214) = true := fun P => by kernel_rfl
theorem k266 : ∀ P, keepIn (K P) (.ref 266) = true := fun P => by kernel_rfl
theorem k273 : ∀ P, keepIn (K P) (.ref 273) = true := fun P => by kernel_rfl
theorem k295 : ∀ P, keepIn (K P) (.ref 295) = true := fun P => by kernel_rfl
theorem k302 : ∀ P, keepIn (K P) (.ref 302) = true := fun P => by kernel_rfl
theorem k309 : ∀ P, keepIn (K P) (.ref 309) = true := fun P => by kernel_rfl
theorem k316 : ∀ P, keepIn (K P) (.ref 316) = true := fun P => by kernel_rfl
theorem k323 : ∀ P, keepIn (K P) (.ref 323) = true := fun P => by kernel_rfl
theorem k330 : ∀ P, keepIn (K P) (.ref 330) = true := fun P => by kernel_rfl
theorem k337 : ∀ P, keepIn (K P) (.ref 337) = true := fun P => by kernel_rfl
theorem k342 : ∀ P, keepIn (K P) (.ref 342) = true := fun P => by kernel_rfl
theorem k59 : ∀ P, keepIn (K P) (.ref 59) = true := fun P => by kernel_rfl
theorem k71 : ∀ P, keepIn (K P) (.ref 71) = true := fun P => by kernel_rfl
theorem k146 : ∀ P, keepIn (K P) (.ref 146) = true := fun P => by kernel_rfl
theorem k184 : ∀ P, keepIn (K P) (.ref 184) = true := fun P => by kernel_rfl
theorem k257 : ∀ P, keepIn (K P) (.ref 257) = true := fun P => by kernel_rfl
theorem k143 : ∀ P, keepIn (K P) (.ref 143) = true := fun P => by kernel_rfl
theorem k171 : ∀ P, keepIn (K P) (.ref 171) = true := fun P => by kernel_rfl
theorem k176 : ∀ P, keepIn (K P) (.ref 176) = true := fun P => by kernel_rfl
theorem k181 : ∀ P, keepIn (K P) (.ref 181) = true := fun P => by kernel_rfl
theorem k242 : ∀ P, keepIn (K P) (.ref 242) = true := fun P => by kernel_rfl
theorem k249 : ∀ P, keepIn (K P) (.ref 249) = true := fun P => by kernel_rfl
theorem k254 : ∀ P, keepIn (K P) (.ref 254) = true := fun P => by kernel_rfl
theorem keepK {c : Cx} {a : Addr} (h : c.K = K) (e : ∀ P, keepIn (K P) (.ref a) = true) : ∀ P, KeepOK (c.K P) (.ref a) := fun P => by rw [h]; exact e P
end
section
set_option maxRecDepth 100000
set_option linter.unusedVariables false
/-! plain texts, no program in sight -/
noncomputable def isDig (c : Nat) : Bool := decide (48 ≤ c ∧ c ≤ 57)
noncomputable def okNum (l : List Nat) : Bool := !l.isEmpty && decide (l.length ≤ 18) && l.all isDig
noncomputable def valN (l : List Nat) : Nat := NumText.digitsVal l
noncomputable def numOf (l : List Nat) : Option Int := if okNum l = true then some (valN l) else none
noncomputable def dg (n : Nat) : List Nat := (Nat.toDigits 10 n).map Char.toNat
theorem T_cps (l : List Nat) : (T l).cps.toList = l := by simp [T]
theorem str_int (n : Nat) : Str.ofString (toString ((n : Nat) : Int)) = T (dg n) := text_ofNat n
theorem has_sign (x : Str) (ch : Nat) : Txt.contains x ⟨#[ch]⟩ = decide (ch ∈ x.cps.toList) := StrLaws.found_one x ch
theorem digits_lit : (Str.ofString "0123456789") = T [48, 49, 50, 51, 52, 53, 54, 55, 56, 57] := by decide +kernel
theorem has_dig (ch : Nat) : Txt.contains (Str.ofString "0123456789") ⟨#[ch]⟩ = isDig ch := by
  rw [has_sign, digits_lit, T_cps]
  unfold isDig
  refine decide_eq_decide.mpr ?_
  exact ⟨(by decide : ∀ x ∈ [48, 49, 50, 51, 52, 53, 54, 55, 56, 57], 48 ≤ x ∧ x ≤ 57) ch, fun h => (by decide : ∀ x, x < 58 → 48 ≤ x → x ∈ [48, 49, 50, 51, 52, 53, 54, 55, 56, 57]) ch (Nat.lt_succ_of_le h.2) h.1⟩
theorem T_nil : Str.ofString "" = T [] := by decide +kernel
theorem T_eq_nil (l : List Nat) : decide (T l = Str.ofString "") = l.isEmpty := by
  rw [T_nil]
  cases l with
  | nil => simp
  | cons a r => simp [T_inj]
theorem int_of_text {l : List Nat} (h : okNum l = true) : PySem.intText? (T l) = some (valN l : Int) := by
  unfold okNum at h
  simp only [Bool.and_eq_true, Bool.not_eq_true', decide_eq_true_eq] at h
  obtain ⟨⟨h1, h2⟩, h3⟩ := h
  have := intText_digits (x := T l) (by rw [T_cps]; intro c hc; have := List.all_eq_true.mp h3 c hc; unfold isDig at this; simpa using this) (by rw [T_cps]; intro e; rw [e] at h1; cases h1) (by rw [T_len]; omega)
  rwa [T_cps] at this
theorem signs_T (l : List Nat) : signs (T l) = l.map fun ch => PV.str ⟨#[ch]⟩ := by unfold signs; rw [T_cps]
theorem joinOK {sep : Str} {texts : List Str} (B : Nat) (hB : ∀ y ∈ texts, y.length ≤ B) (h : texts.length * B + texts.length * sep.length ≤ 16777216) : JoinOk sep texts = true := by
  unfold JoinOk
  rw [StrLaws.joinFits hB h]
  rfl
theorem take_filter {α : Type} {l : List α} {i : Nat} {x : α} (p : α → Bool) (h : l[i]? = some x) : (l.take (i + 1)).filter p = (l.take i).filter p ++ (if p x = true then [x] else []) := by
  rw [List.take_add_one, h, Option.toList_some, List.filter_append]
  congr 1
  cases hx : p x <;> simp [hx]
/-! decimal figures -/
theorem dig_char {d : Nat} (h : d < 10) : (Nat.digitChar d).toNat = 48 + d := (by decide : ∀ d, d < 10 → (Nat.digitChar d).toNat = 48 + d) d h
theorem dg_lt {n : Nat} (h : n < 10) : dg n = [48 + n] := by
  unfold dg
  rw [Nat.toDigits_of_lt_base h, List.map_cons, dig_char h]; rfl
theorem dg_ge {n : Nat} (h : 10 ≤ n) : dg n = dg (n / 10) ++ [48 + n % 10] := by
  unfold dg
  rw [Nat.toDigits_of_base_le (by decide) h, List.map_append, List.map_cons, dig_char (Nat.mod_lt _ (by decide))]; rfl
theorem dg_ne (n : Nat) : dg n ≠ [] := by
  by_cases h : n < 10
  · rw [dg_lt h]; simp
  · rw [dg_ge (by omega)]; simp
theorem dg_dig (n : Nat) : ∀ c ∈ dg n, 48 ≤ c ∧ c ≤ 57 := by
  induction n using Nat.strongRecOn with
  | _ n ih =>
    intro c hc
    by_cases h : n < 10
    · rw [dg_lt h] at hc
      obtain rfl := List.mem_singleton.mp hc
      omega
    · rw [dg_ge (by omega)] at hc
      rcases List.mem_append.mp hc with hc | hc
      · exact ih (n / 10) (by omega) c hc
      · obtain rfl := List.mem_singleton.mp hc
        have := Nat.mod_lt n (y := 10) (by decide)
        omega
theorem dg_len {k n : Nat} (hk : 1 ≤ k) (hn : n < 10 ^ k) : (dg n).length ≤ k := by
  unfold dg; rw [List.length_map]; exact digits10_le hk hn
theorem val_append (a : List Nat) (c : Nat) : valN (a ++ [c]) = valN a * 10 + (c - 48) := by
  unfold valN NumText.digitsVal
  rw [List.foldl_append]; rfl
theorem val_dg (n : Nat) : valN (dg n) = n := by
  induction n using Nat.strongRecOn with
  | _ n ih =>
    by_cases h : n < 10
    · rw [dg_lt h]; show 0 * 10 + (48 + n - 48) = n; omega
    · rw [dg_ge (by omega), val_append, ih (n / 10) (by omega)]
      omega
theorem okNum_of {l : List Nat} (h0 : l ≠ []) (h1 : l.length ≤ 18) (h2 : ∀ c ∈ l, 48 ≤ c ∧ c ≤ 57) : okNum l = true := by
  unfold okNum
  rw [decide_eq_true h1, List.all_eq_true.mpr (fun c hc => by unfold isDig; exact decide_eq_true (h2 c hc))]
  cases l with
  | nil => exact absurd rfl h0
  | cons a r => rfl
theorem ok_dg {n : Nat} (h : n < 10 ^ 18) : okNum (dg n) = true := okNum_of (dg_ne n) (dg_len (by decide) h) (dg_dig n)
theorem digit_at {c : Nat} (h : isDig c = true) : ∃ rest, Builtin.Str.occurrences (Str.ofString "0123456789") ⟨#[c]⟩ 0 (Str.ofString "0123456789").length 1 = (c - 48) :: rest := by
  unfold isDig at h
  have h : 48 ≤ c ∧ c ≤ 57 := by simpa using h
  exact ⟨[], (by decide +kernel : ∀ c, c < 58 → 48 ≤ c → Builtin.Str.occurrences (Str.ofString "0123456789") ⟨#[c]⟩ 0 (Str.ofString "0123456789").length 1 = [c - 48]) c (Nat.lt_succ_of_le h.2) h.1⟩
theorem digit_of {d : Nat} (h : d < 10) : (Str.ofString "0123456789").cps.toList[d]? = some (48 + d) := (by decide +kernel : ∀ d, d < 10 → (Str.ofString "0123456789").cps.toList[d]? = some (48 + d)) d h
end
section
open PySem.Builtin.Str (strSub occurrences partsBetween strKind)
set_option maxRecDepth 100000
set_option linter.unusedVariables false
/-! texts joined and parted -/
noncomputable def JL (sep : List Nat) : List (List Nat) → List Nat
  | [] => []
  | [p] => p
  | p :: q :: r => p ++ sep ++ JL sep (q :: r)
theorem join_T (sep : List Nat) : ∀ ps : List (List Nat), Str.join (T sep) (ps.map T) = T (JL sep ps)
  | [] => rfl
  | [p] => rfl
  | p :: q :: r => by
    have ih := join_T sep (q :: r)
    rw [List.map_cons] at ih
    show T p ++ T sep ++ Str.join (T sep) (T q :: r.map T) = _
    rw [ih, T_add, T_add]; rfl
theorem at_drop {l sep : List Nat} {i : Nat} : StrLaws.At (T l) (T sep) (T l).length i ↔ i + sep.length ≤ l.length ∧ (l.drop i).take sep.length = sep := by
  unfold StrLaws.At
  rw [StrLaws.subAt_eq, T_cps, T_cps, T_len, T_len, beq_iff_eq]
theorem sub_T (l : List Nat) (i j : Nat) : strSub (T l) i j = T ((l.drop i).take (j - i)) := by
  have := StrLaws.strSub_toList (T l) i j
  rw [T_cps] at this
  rw [T_of (strSub (T l) i j), this]
theorem no_at {l : List Nat} {c : Nat} {ys p rest : List Nat} {a k : Nat} (hd : l.drop a = p ++ rest) (hc : c ∉ p) (h1 : a ≤ k) (h2 : k < a + p.length) : ¬ StrLaws.At (T l) (T (c :: ys)) (T l).length k := fun h => by
  have h := (at_drop.mp h).2
  have e : l.drop k = (p.drop (k - a)) ++ rest := by
    have : l.drop k = (l.drop a).drop (k - a) := by rw [List.drop_drop]; congr 1; omega
    rw [this, hd, List.drop_append_of_le_length (by omega)]
  rw [e] at h
  have hp : p.drop (k - a) ≠ [] := by intro q; have := congrArg List.length q; simp at this; omega
  obtain ⟨z, zs, hz⟩ := List.exists_cons_of_ne_nil hp
  rw [hz, List.length_cons, List.cons_append, List.take_succ_cons] at h
  have hzc : z = c := (List.cons.inj h).1
  exact hc (hzc ▸ List.mem_of_mem_drop (hz ▸ List.mem_cons_self ..))
theorem parts_of {l : List Nat} {c : Nat} {ys : List Nat} : ∀ (ps : List (List Nat)) (a f : Nat) (cuts : List Nat), ps ≠ [] → (∀ p ∈ ps, c ∉ p) → l.drop a = JL (c :: ys) ps → a ≤ l.length →
    StrLaws.ChainG (T l) (T (c :: ys)) (T l).length a cuts f → (∀ k, f ≤ k → ¬ StrLaws.At (T l) (T (c :: ys)) (T l).length k) → StrLaws.partsFrom (T l) (c :: ys).length a cuts = ps.map T
  | [], _, _, _, h, _, _, _, _, _ => absurd rfl h
  | [p], a, f, [], _, hp, hd, ha, hc, hn => by
    show [strSub (T l) a (T l).length] = _
    rw [sub_T, T_len, List.take_of_length_le (by rw [List.length_drop]; exact Nat.le_refl _), hd]; rfl
  | [p], a, f, k :: r, _, hp, hd, ha, hc, hn => by
    obtain ⟨h1, h2, h3, h4⟩ := hc
    have h5 := (at_drop.mp h2).1
    have hl : (l.drop a).length = p.length := congrArg List.length hd
    rw [List.length_drop] at hl
    exact absurd h2 (no_at (rest := []) (by rw [List.append_nil]; exact hd) (hp p (.head _)) h1 (by simp at h5; omega))
  | p :: q :: r, a, f, cuts, _, hp, hd, ha, hc, hn => by
    have hd' : l.drop a = p ++ ((c :: ys) ++ JL (c :: ys) (q :: r)) := by rw [hd]; show p ++ (c :: ys) ++ _ = _; rw [List.append_assoc]
    have hlen := congrArg List.length hd'
    rw [List.length_drop, List.length_append, List.length_append] at hlen
    have hat : StrLaws.At (T l) (T (c :: ys)) (T l).length (a + p.length) := by
      refine at_drop.mpr ⟨by omega, ?_⟩
      have : l.drop (a + p.length) = (c :: ys) ++ JL (c :: ys) (q :: r) := by
        rw [← List.drop_drop, hd', List.drop_left]
      rw [this, List.take_left]
    match cuts, hc with
    | [], hc =>
      have e : f = a := hc
      exact absurd hat (hn _ (by omega))
    | k :: cs, ⟨h1, h2, h3, h4⟩ =>
      have hk : k = a + p.length := by
        rcases Nat.lt_trichotomy k (a + p.length) with h | h | h
        · exact absurd h2 (no_at hd' (hp p (.head _)) h1 h)
        · exact h
        · exact absurd hat (h3 _ (by omega) h)
      subst hk
      show strSub (T l) a (a + p.length) :: StrLaws.partsFrom (T l) (c :: ys).length (a + p.length + (c :: ys).length) cs = _
      rw [T_len] at h4
      rw [parts_of (q :: r) (a + p.length + (c :: ys).length) f cs (by simp) (fun z hz => hp z (.tail _ hz)) ?_ (by omega) h4 hn]
      · rw [sub_T, hd', Nat.add_sub_cancel_left, List.take_left]; rfl
      · rw [Nat.add_assoc, ← List.drop_drop, hd', ← List.append_assoc, ← List.length_append, List.drop_left]
theorem split_join {c : Nat} {ys : List Nat} {ps : List (List Nat)} (hk : strKind (T (c :: ys)) = 1) (h0 : ps ≠ []) (hp : ∀ p ∈ ps, c ∉ p) : Txt.split (T (JL (c :: ys) ps)) (T (c :: ys)) = ps.map T := by
  obtain ⟨f, h1, h2⟩ := StrLaws.occ_tight (T (JL (c :: ys) ps)) (T (c :: ys)) (by rw [T_len]; exact Nat.succ_le_succ (Nat.zero_le _))
  have key := parts_of ps 0 f _ h0 hp (by rw [List.drop_zero]) (Nat.zero_le _) h1 h2
  unfold Txt.split
  have one : ∀ cuts, StrLaws.partsFrom (T (JL (c :: ys) ps)) (c :: ys).length 0 cuts = ps.map T → cuts = [] → [T (JL (c :: ys) ps)] = ps.map T := fun cuts e h => by
    subst h
    rw [← e]
    show _ = [strSub _ 0 _]
    rw [StrLaws.sub_whole]
  split
  · rename_i h
    rw [hk] at h
    have hs : 1 ≤ strKind (T (JL (c :: ys) ps)) := strKind_pos _
    have hl : (T (JL (c :: ys) ps)).length < (T (c :: ys)).length := by
      simp only [Bool.or_eq_true, decide_eq_true_eq] at h
      rcases h with h | h
      · exact h
      · omega
    rw [T_len, T_len] at hl
    match ps, h0 with
    | [p], _ => rfl
    | p :: q :: r, _ =>
      exfalso
      have : JL (c :: ys) (p :: q :: r) = p ++ (c :: ys) ++ JL (c :: ys) (q :: r) := rfl
      rw [this, List.length_append, List.length_append] at hl
      omega
  · split
    · rename_i h
      exact one _ key (List.isEmpty_iff.mp h)
    · rw [StrLaws.partsBetween_eq, T_len]; exact key

/-! parted once -/
theorem split_once {p r : List Nat} (hp : 32 ∉ p) : Txt.splitMax (T (p ++ 32 :: r)) (T [32]) 1 = [T p, T r] := by
  have hat : StrLaws.At (T (p ++ 32 :: r)) (T [32]) (T (p ++ 32 :: r)).length p.length := by
    refine at_drop.mpr ⟨by simp, ?_⟩
    rw [List.drop_left]; rfl
  have hno : ∀ k, k < p.length → ¬ StrLaws.At (T (p ++ 32 :: r)) (T [32]) (T (p ++ 32 :: r)).length k := fun k h => no_at (a := 0) (rest := 32 :: r) (by rw [List.drop_zero]) hp (Nat.zero_le _) (by omega)
  have hocc : occurrences (T (p ++ 32 :: r)) (T [32]) 0 (T (p ++ 32 :: r)).length 1 = [p.length] := by
    rcases StrLaws.occ_head (T (p ++ 32 :: r)) (T [32]) 1 (Nat.le_refl _) with ⟨_, h⟩ | ⟨i, rs, h1, h2, h3⟩
    · exact absurd hat (h _)
    · have hi : i = p.length := by
        rcases Nat.lt_trichotomy i p.length with h | h | h
        · exact absurd h2 (hno i h)
        · exact h
        · exact absurd hat (h3 _ h)
      have hl := StrLaws.occ_length_le (T (p ++ 32 :: r)) (T [32]) 0 (T (p ++ 32 :: r)).length 1
      rw [h1] at hl
      have : rs = [] := by cases rs with | nil => rfl | cons a b => simp at hl
      rw [h1, hi, this]
  unfold Txt.splitMax
  have hk : strKind (T [32]) = 1 := by decide +kernel
  have hs : 1 ≤ strKind (T (p ++ 32 :: r)) := strKind_pos _
  have c1 : (decide ((T (p ++ 32 :: r)).length < (T [32]).length) || decide (strKind (T (p ++ 32 :: r)) < strKind (T [32]))) = false := by
    rw [hk, T_len, T_len, decide_eq_false (by simp), decide_eq_false (by omega)]; rfl
  rw [if_neg (ne_true_of_eq_false c1), show limitOf (T (p ++ 32 :: r)) 1 = 1 from rfl, hocc]
  rw [if_neg (ne_true_of_eq_false (by rfl))]
  show [strSub _ 0 p.length, strSub _ (p.length + _) _] = _
  rw [sub_T, sub_T, T_len, T_len, List.drop_zero, Nat.sub_zero, List.take_left, List.take_of_length_le (by simp; omega)]
  congr 2
  show T ((p ++ 32 :: r).drop (p.length + 1)) = _
  rw [← List.drop_drop, List.drop_left]; rfl
theorem split_never {p : List Nat} (hp : 32 ∉ p) : Txt.splitMax (T p) (T [32]) 1 = [T p] := by
  unfold Txt.splitMax
  split
  · rfl
  have hocc : occurrences (T p) (T [32]) 0 (T p).length 1 = [] := by
    rcases StrLaws.occ_head (T p) (T [32]) 1 (Nat.le_refl _) with ⟨h, _⟩ | ⟨i, rs, h1, h2, h3⟩
    · exact h
    · have h5 := (at_drop.mp h2).1
      exact absurd h2 (no_at (a := 0) (rest := []) (by rw [List.drop_zero, List.append_nil]) hp (Nat.zero_le _) (by simp at h5; omega))
  rw [show limitOf (T p) 1 = 1 from rfl, hocc]
  rfl
theorem slice_to_T (l : List Nat) (j : Nat) : Txt.slice (T l) none (some (j : Int)) = T (l.take j) := by
  by_cases h : j ≤ l.length
  · have := eq_of_beq (slice_closes_to (x := T l) (j := (j : Int)) (by rw [T_cps]; omega))
    rw [this, T_cps]
    show T _ = _
    simp
  · rw [slice_to_beyond (by rw [T_len]; omega)]
    have := eq_of_beq (slice_closes_to (x := T l) (j := ((T l).length : Int)) (by rw [T_cps, T_len]; omega))
    rw [this, T_cps, T_len]
    show T _ = _
    congr 1
    rw [List.take_of_length_le (by omega : l.length ≤ j)]
    simp
theorem slice_from_T (l : List Nat) (i : Nat) : Txt.slice (T l) (some (i : Int)) none = T (l.drop i) := by
  by_cases h : i ≤ l.length
  · have := eq_of_beq (slice_closes_from (x := T l) (i := (i : Int)) (by rw [T_cps]; omega))
    rw [this, T_cps]
    show T _ = _
    congr 1
    rw [List.take_of_length_le (by simp)]
    simp
  · rw [slice_beyond (by rw [T_len]; omega), List.drop_of_length_le (by omega)]
    rfl
theorem slice_init_T (l : List Nat) : Txt.slice (T l) none (some (-1)) = T l.dropLast := by
  rw [slice_to_neg (by decide)]
  have : max (0 : Int) (((T l).length : Int) + -1) = ((l.length - 1 : Nat) : Int) := by rw [T_len]; omega
  rw [this, slice_to_T, List.dropLast_eq_take]
theorem slice_last_T (l : List Nat) : Txt.slice (T l) (some (-1)) none = T (l.drop (l.length - 1)) := by
  rw [slice_from_neg (by decide)]
  have : max (0 : Int) (((T l).length : Int) + -1) = ((l.length - 1 : Nat) : Int) := by rw [T_len]; omega
  rw [this, slice_from_T]
end
section
set_option maxRecDepth 100000
set_option linter.unusedVariables false
/-! blanks taken off -/
noncomputable def offBy (p : Nat → Bool) (l : List Nat) : List Nat := ((l.dropWhile p).reverse.dropWhile p).reverse
theorem drop_takeWhile (p : Nat → Bool) : ∀ l : List Nat, l.drop (l.takeWhile p).length = l.dropWhile p
  | [] => rfl
  | a :: r => by
    rw [List.takeWhile_cons, List.dropWhile_cons]
    split
    · rw [List.length_cons, List.drop_succ_cons, drop_takeWhile p r]
    · rfl
theorem stripBy_T (p : Nat → Bool) (l : List Nat) : Txt.stripBy p true true (T l) = T (offBy p l) := by
  rw [PyProof.Rows.stripBy_eq]
  unfold stripLo stripHi
  rw [if_pos rfl, if_pos rfl, T_cps, T_len, drop_takeWhile, sub_T, drop_takeWhile]
  congr 1
  unfold offBy
  have h : (l.takeWhile p).length + (l.dropWhile p).length = l.length := by rw [← List.length_append, List.takeWhile_append_dropWhile]
  have e : l.length - ((l.dropWhile p).reverse.takeWhile p).length - (l.takeWhile p).length = (l.dropWhile p).length - ((l.dropWhile p).reverse.takeWhile p).length := by omega
  rw [e, ← drop_takeWhile p (l.dropWhile p).reverse, List.reverse_drop, List.reverse_reverse, List.length_reverse]
theorem dropWhile_congr {p q : Nat → Bool} : ∀ {l : List Nat}, (∀ c ∈ l, p c = q c) → l.dropWhile p = l.dropWhile q
  | [], _ => rfl
  | a :: r, h => by
    rw [List.dropWhile_cons, List.dropWhile_cons, h a (.head _), dropWhile_congr fun c hc => h c (.tail _ hc)]
theorem mem_dropWhile {p : Nat → Bool} : ∀ {l : List Nat} {c : Nat}, c ∈ l.dropWhile p → c ∈ l
  | [], _, h => by simp at h
  | a :: r, c, h => by
    rw [List.dropWhile_cons] at h
    split at h
    · exact .tail _ (mem_dropWhile h)
    · exact h
theorem off_congr {p q : Nat → Bool} {l : List Nat} (h : ∀ c ∈ l, p c = q c) : offBy p l = offBy q l := by
  unfold offBy
  rw [dropWhile_congr h, dropWhile_congr fun c hc => h c (mem_dropWhile (List.mem_reverse.mp hc))]
noncomputable def is32 (c : Nat) : Bool := c == 32
noncomputable def off (l : List Nat) : List Nat := offBy is32 l
theorem strip_T {l : List Nat} (h : ∀ c ∈ l, Unicode.isSpace c = is32 c) : Txt.strip (T l) = T (off l) := by
  show Txt.stripBy Unicode.isSpace true true (T l) = _
  rw [stripBy_T, off_congr h]; rfl
theorem len_dropWhile (p : Nat → Bool) : ∀ l : List Nat, (l.dropWhile p).length ≤ l.length
  | [] => Nat.le_refl _
  | a :: r => by
    rw [List.dropWhile_cons]
    split
    · exact Nat.le_succ_of_le (len_dropWhile p r)
    · exact Nat.le_refl _
theorem off_len (l : List Nat) : (off l).length ≤ l.length := by
  unfold off offBy
  rw [List.length_reverse]
  refine Nat.le_trans (len_dropWhile _ _) ?_
  rw [List.length_reverse]
  exact len_dropWhile _ _
theorem off_none {l : List Nat} (h : 32 ∉ l) : off l = l := by
  have hd : ∀ {m : List Nat}, 32 ∉ m → m.dropWhile is32 = m := fun {m} hm => by
    cases m with
    | nil => rfl
    | cons a r =>
      rw [List.dropWhile_cons, if_neg]
      unfold is32
      intro e
      exact hm (by rw [eq_of_beq e]; exact .head _)
  unfold off offBy
  rw [hd h, hd (fun hm => h (List.mem_reverse.mp hm)), List.reverse_reverse]
theorem off_blanks (k : Nat) : off (List.replicate k 32) = [] := by
  have : ∀ k, (List.replicate k 32).dropWhile is32 = [] := fun k => by
    induction k with
    | zero => rfl
    | succ k ih => rw [List.replicate_succ, List.dropWhile_cons, if_pos (by rfl), ih]
  unfold off offBy
  rw [this]; rfl
theorem mem_off {l : List Nat} {c : Nat} (h : c ∈ off l) : c ∈ l := mem_dropWhile (List.mem_reverse.mp (mem_dropWhile (List.mem_reverse.mp h)))
/-- from behind -/
noncomputable def rdrop (l : List Nat) : List Nat := (l.reverse.dropWhile is32).reverse
theorem off_eq (l : List Nat) : off l = rdrop (l.dropWhile is32) := rfl
theorem drop_step {r : List Nat} : (32 :: r).dropWhile is32 = r.dropWhile is32 := by rw [List.dropWhile_cons, if_pos (by rfl)]
theorem drop_stop {l : List Nat} (h : l.take 1 ≠ [32]) : l.dropWhile is32 = l := by
  cases l with
  | nil => rfl
  | cons a r =>
    rw [List.dropWhile_cons, if_neg]
    unfold is32
    intro e
    exact h (by rw [eq_of_beq e]; rfl)
theorem rdrop_step {l : List Nat} (h : l.drop (l.length - 1) = [32]) : rdrop l.dropLast = rdrop l ∧ l.dropLast.length < l.length := by
  have hne : l ≠ [] := by intro e; rw [e] at h; cases h
  have e : l = l.dropLast ++ [32] := by
    have := List.take_append_drop (l.length - 1) l
    rw [h, ← List.dropLast_eq_take] at this
    exact this.symm
  refine ⟨?_, by rw [List.length_dropLast]; have := List.length_pos_iff.mpr hne; omega⟩
  unfold rdrop
  rw [e, List.dropLast_concat, List.reverse_append]
  show _ = ((32 :: l.dropLast.reverse).dropWhile is32).reverse
  rw [drop_step]
theorem rdrop_stop {l : List Nat} (h : l.drop (l.length - 1) ≠ [32]) : rdrop l = l := by
  unfold rdrop
  rw [drop_stop, List.reverse_reverse]
  intro e
  apply h
  rw [List.take_reverse] at e
  have := congrArg List.reverse e
  rwa [List.reverse_reverse] at this
end
section
set_option maxRecDepth 100000
set_option maxHeartbeats 8000000
set_option linter.unusedVariables false
section
variable {c : Cx} {σ : St}
theorem sa_to {x C dx : Addr} {es : List (Str × PV)} (es' : List (Str × PV)) {name : Str} {p : PV} {Q : St → Prop} {led led' fz : List (Addr × AO)} {loc : List (Option PV)} (hK : c.K = K) (O : StoreOK K C) (hn : ∀ P, findIn (K P) (.ref C) name = some none) (hx : Look ⟨loc, led, fz⟩ x (.inst C dx))
    (U : Up led dx (.dict es) (.dict es') led') (he : putE name p es = es') (hz : es.length ≤ 1000) (k : Q ⟨loc, led', fz⟩) : WSetA c (.ref x) name p Q ⟨loc, led, fz⟩ := by
  subst he
  exact sa_inst hK O hn hx U hz k
theorem se_to {x C d : Addr} {es : List (Str × PV)} (es' : List (Str × PV)) {name : Str} {p : PV} {Q : St → Prop} {led led' fz : List (Addr × AO)} {loc : List (Option PV)} (hK : c.K = K) (O : StoreOK K C) (hn : ∀ P, findIn (K P) (.ref C) name = some none) (hx : Look ⟨loc, led, fz⟩ x (.exc C (some d)))
    (U : Up led d (.dict es) (.dict es') led') (he : putE name p es = es') (hz : es.length ≤ 1000) (k : Q ⟨loc, led', fz⟩) : WSetA c (.ref x) name p Q ⟨loc, led, fz⟩ := by
  subst he
  exact sa_exc1 hK O hn hx U hz k
end
theorem m_excType {c : Cx} {σ : St} {Q : PV × List PV → St → Prop} (hK : c.K = K) (k : Q (.builtin "Exception.__init__", []) σ) : WMeth c (.type "Exception") (Str.ofString "__init__") Q σ := fun ov pl e s R => by
  cases e
  obtain ⟨m, F, L⟩ := R.fr
  have hk := R.ok.sta.kin
  rw [hK] at hk
  exact method_type (K := K c.w.params) F hk (by rfl) (by decide +kernel) (v := .builtin "Exception.__init__") (by kernel_rfl) (by decide +kernel) ⟨(.builtin "Exception.__init__", []), σ, ⟨rfl, .nil⟩, R.toks _, k⟩
structure Lt where
  x : Addr
  dx : Addr
  fl : Addr
  uid : Int
  oct : Array UInt8
  mod : Int
noncomputable abbrev ltDict (u : Int) (o : Array UInt8) (fl : Addr) (m : Int) : List (Str × PV) :=
  [(Str.ofString "uid", .int u), (Str.ofString "octets", .bytes o), (Str.ofString "flags", .ref fl), (Str.ofString "instant", .int 0), (Str.ofString "modseq", .int m)]
noncomputable abbrev Lt.objs (l : Lt) : List (Addr × AO) := [(l.x, .inst 146 l.dx), (l.dx, .dict (ltDict l.uid l.oct l.fl l.mod)), (l.fl, .tuple [.str (Str.ofString "work")])]

theorem letterInit_spec {prog : Program} {w : World} {fz : List (Addr × AO)} {fl : Addr} {u m : Int} {o : Array UInt8} (x dx : Addr) (hf : (fl, AO.tuple [.str (Str.ofString "work")]) ∈ fz) :
    Spec K prog w 0 129 [.ref x, .int u, .bytes o, .ref fl, .int 0, .int m] [(x, .inst 146 dx), (dx, .dict [])] fz (fun p mu fz' => fz' = fz ∧ p = .none ∧ mu = [(x, .inst 146 dx), (dx, .dict (ltDict u o fl m))]) := by
  refine enter F10 (by rfl) ?_
  intro c cK cn cp cw cN cG cC cS cF
  replace cN : c.names = _ := cN
  replace cG : c.gl = _ := cG
  show Wk c PF.Is _ _ ⟨[some (.ref x), some (.int u), some (.bytes o), some (.ref fl), some (.int 0), some (.int m)], _, fz⟩
  refine s_cons ?_
  repeat' walk_at "ST"
  refine' sa_to [(Str.ofString "uid", .int u)] cK S146 n146_uid (by walk_at "LOOK") (by walk_at "UP") (by kernel_rfl) (Nat.le_of_ble_eq_true rfl) ?_
  repeat' walk_at "ST"
  refine' sa_to [(Str.ofString "uid", .int u), (Str.ofString "octets", .bytes o)] cK S146 n146_octets (by walk_at "LOOK") (by walk_at "UP") (by kernel_rfl) (Nat.le_of_ble_eq_true rfl) ?_
  repeat' walk_at "ST"
  refine ⟨fun _ => trivial, ?_⟩
  repeat' walk_at "ST"
  refine c_tuple_tuple (by walk_at "LOOK") ?_
  repeat' walk_at "ST"
  refine' sa_to [(Str.ofString "uid", .int u), (Str.ofString "octets", .bytes o), (Str.ofString "flags", .ref fl)] cK S146 n146_flags (by walk_at "LOOK") (by walk_at "UP") (by kernel_rfl) (Nat.le_of_ble_eq_true rfl) ?_
  repeat' walk_at "ST"
  refine' sa_to [(Str.ofString "uid", .int u), (Str.ofString "octets", .bytes o), (Str.ofString "flags", .ref fl), (Str.ofString "instant", .int 0)] cK S146 n146_instant (by walk_at "LOOK") (by walk_at "UP") (by kernel_rfl) (Nat.le_of_ble_eq_true rfl) ?_
  repeat' walk_at "ST"
  refine' sa_to (ltDict u o fl m) cK S146 n146_modseq (by walk_at "LOOK") (by walk_at "UP") (by kernel_rfl) (Nat.le_of_ble_eq_true rfl) ?_
  repeat' walk_at "ST"
  exact ⟨_, _, [], _, takeAll _, .nil, rfl, rfl, rfl⟩

noncomputable abbrev bxDict (nm : Str) (v nx : Int) (ls gn : Addr) : List (Str × PV) :=
  [(Str.ofString "name", .str nm), (Str.ofString "validity", .int v), (Str.ofString "next_uid", .int nx), (Str.ofString "top", .int 1), (Str.ofString "floor", .int 0), (Str.ofString "letters", .ref ls), (Str.ofString "gone", .ref gn)]
theorem boxInit_spec {prog : Program} {w : World} {fz : List (Addr × AO)} {nm : Str} {v : Int} (x dx : Addr) :
    Spec K prog w 0 164 [.ref x, .str nm, .int v] [(x, .inst 184 dx), (dx, .dict [])] fz (fun p mu fz' => fz' = fz ∧ p = .none ∧ ∃ ls gn, mu = [(gn, .list []), (ls, .list []), (x, .inst 184 dx), (dx, .dict (bxDict nm v 1 ls gn))]) := by
  refine enter F13 (by rfl) ?_
  intro c cK cn cp cw cN cG cC cS cF
  replace cN : c.names = _ := cN
  replace cG : c.gl = _ := cG
  show Wk c PF.Is _ _ ⟨[some (.ref x), some (.str nm), some (.int v)], _, fz⟩
  refine s_cons ?_
  repeat' walk_at "ST"
  refine' sa_to [(Str.ofString "name", .str nm)] cK S184 n184_name (by walk_at "LOOK") (by walk_at "UP") (by kernel_rfl) (Nat.le_of_ble_eq_true rfl) ?_
  repeat' walk_at "ST"
  refine' sa_to [(Str.ofString "name", .str nm), (Str.ofString "validity", .int v)] cK S184 n184_validity (by walk_at "LOOK") (by walk_at "UP") (by kernel_rfl) (Nat.le_of_ble_eq_true rfl) ?_
  repeat' walk_at "ST"
  refine' sa_to [(Str.ofString "name", .str nm), (Str.ofString "validity", .int v), (Str.ofString "next_uid", .int 1)] cK S184 n184_next_uid (by walk_at "LOOK") (by walk_at "UP") (by kernel_rfl) (Nat.le_of_ble_eq_true rfl) ?_
  repeat' walk_at "ST"
  refine' sa_to [(Str.ofString "name", .str nm), (Str.ofString "validity", .int v), (Str.ofString "next_uid", .int 1), (Str.ofString "top", .int 1)] cK S184 n184_top (by walk_at "LOOK") (by walk_at "UP") (by kernel_rfl) (Nat.le_of_ble_eq_true rfl) ?_
  repeat' walk_at "ST"
  refine' sa_to [(Str.ofString "name", .str nm), (Str.ofString "validity", .int v), (Str.ofString "next_uid", .int 1), (Str.ofString "top", .int 1), (Str.ofString "floor", .int 0)] cK S184 n184_floor (by walk_at "LOOK") (by walk_at "UP") (by kernel_rfl) (Nat.le_of_ble_eq_true rfl) ?_
  repeat' walk_at "ST"
  rename_i ls
  refine' sa_to [(Str.ofString "name", .str nm), (Str.ofString "validity", .int v), (Str.ofString "next_uid", .int 1), (Str.ofString "top", .int 1), (Str.ofString "floor", .int 0), (Str.ofString "letters", .ref ls)] cK S184 n184_letters (by walk_at "LOOK") (by walk_at "UP") (by kernel_rfl) (Nat.le_of_ble_eq_true rfl) ?_
  repeat' walk_at "ST"
  rename_i gn
  refine' sa_to (bxDict nm v 1 ls gn) cK S184 n184_gone (by walk_at "LOOK") (by walk_at "UP") (by kernel_rfl) (Nat.le_of_ble_eq_true rfl) ?_
  repeat' walk_at "ST"
  exact ⟨_, _, [], _, takeAll _, .nil, rfl, rfl, _, _, rfl⟩

/-- the exceptions of the text: their __init__ -/
theorem errInit_spec {prog : Program} {w : World} {fz : List (Addr × AO)} {C : Addr} {nm : Str} (X : ExcCls K C 36) (O : StoreOK K C) (h1 : ∀ P, findIn (K P) (.ref C) (Str.ofString "what") = some none) (h2 : ∀ P, findIn (K P) (.ref C) (Str.ofString "at") = some none) (x : Addr) :
    Spec K prog w 0 36 [.ref x, .str nm] [(x, .exc C none)] fz (fun p mu fz' => p = .none ∧ ∃ d rest, mu = (x, AO.exc C d) :: rest) := by
  refine enter F1 (by rfl) ?_
  intro c cK cn cp cw cN cG cC cS cF
  replace cN : c.names = _ := cN
  replace cG : c.gl = _ := cG
  show Wk c PF.Is _ _ ⟨[some (.ref x), some (.str nm), some (.int (-1))], _, fz⟩
  refine s_cons ?_
  repeat' walk_at "ST"
  refine m_excType cK ⟨fun _ => trivial, ?_⟩
  repeat' walk_at "ST"
  refine c_excInit cK X (by walk_at "MEM") ⟨rfl, ?_⟩
  repeat' walk_at "ST"
  refine' sa_exc0 cK O h1 (fun d => by walk_at "UP") fun d => ?_
  repeat' walk_at "ST"
  refine' se_to [(Str.ofString "what", .str nm), (Str.ofString "at", .int (-1))] cK O h2 (by walk_at "LOOK") (by walk_at "UP") (by kernel_rfl) (Nat.le_of_ble_eq_true rfl) ?_
  repeat' walk_at "ST"
  exact ⟨_, _, [], _, .cons (.tail .head) .nil, .nil, rfl, _, _, rfl⟩
end
section
set_option maxRecDepth 100000
set_option maxHeartbeats 8000000
set_option linter.unusedVariables false
theorem compOK {c : Cx} {scope : Scope} {cn : List Str} {gl : List (Str × PV)} (clos : closureFor scope c.env = pure [])
    (hb : (scope.kind == .function && scope.names.all (fun x => x.2 != .cell && (x.2 != .local || scope.names.lookup x.1 == some .local)) && decide cn.Nodup && cn.all (fun x => scope.names.lookup x == some .local && !(x == ("__debug__" : Str))) && gl.all (fun p => scope.names.lookup p.1 == some .globalImplicit && !(p.1 == ("__debug__" : Str)))) = true)
    (glv : ∀ p ∈ gl, Glo c.K p.1 p.2) : CompOK c scope [] cn gl [] := by
  simp only [Bool.and_eq_true, List.all_eq_true, beq_iff_eq, decide_eq_true_eq, Bool.not_eq_true', bne_iff_ne, Bool.or_eq_true, ne_eq] at hb
  obtain ⟨⟨⟨⟨h1, h2⟩, h3⟩, h4⟩, h5⟩ := hb
  exact ⟨clos, h1, fun x hx hl => ((h2 x hx).2).resolve_left (fun q => q hl), fun x hx => (h2 x hx).1, h3, fun x hx => h4 x hx, fun p hp => h5 p hp, glv, fun p hp => nomatch hp⟩
theorem noGl {c : Cx} : ∀ p ∈ ([] : List (Str × PV)), Glo c.K p.1 p.2 := fun p hp => nomatch hp

theorem whole_spec {prog : Program} {w : World} {fz : List (Addr × AO)} {l : List Nat} (hz : l.length ≤ 1000) :
    SpecX K prog w 2 84 [.str (T l)] [] fz (fun p mu fz' => fz' = fz ∧ mu = [] ∧ okNum l = true ∧ p = .int (valN l)) (fun C => C = 71 ∧ okNum l = false) := by
  refine enterX F4 (by rfl) ?_
  intro c cK cn cp cw cN cG cC cS cF cR cX cFr cFly cNew
  replace cN : c.names = _ := cN
  replace cG : c.gl = _ := cG
  show Wk c PF.Is _ _ ⟨[some (.str (T l))], _, fz⟩
  refine s_cons ?_
  refine s_if (Wk.mono (Q := fun b σ => b = !okNum l ∧ ∃ led, σ = ⟨[some (.str (T l))], led, fz⟩) ?_ ?_)
  · repeat' walk_at "ST"
    rw [T_eq_nil]
    refine wite (fun h0 => ?_) (fun h0 => ?_)
    · exact ⟨by unfold okNum; rw [h0]; rfl, _, rfl⟩
    repeat' walk_at "ST"
    refine ⟨fun _ => trivial, ?_⟩
    repeat' walk_at "ST"
    refine c_len_str (by rw [T_len]; omega) ?_
    repeat' walk_at "ST"
    rw [T_len]
    refine wite (fun h1 => ?_) (fun h1 => ?_)
    · refine ⟨?_, _, rfl⟩
      have : decide (l.length ≤ 18) = false := by simp only [decide_eq_true_eq, decide_eq_false_iff_not] at h1 ⊢; omega
      unfold okNum; rw [this, Bool.and_false]; rfl
    repeat' walk_at "ST"
    refine w_comp (items := (signs (T l)).map .val) (σ₁ := ⟨[some (.str (T l))], [], fz⟩) (compOK (cn := [Str.ofString "sign"]) (gl := []) rfl (by decide) noGl) (fun i acc led fz' => acc = ((l.take i).filter fun ch => !isDig ch).map (fun ch => PV.str ⟨#[ch]⟩) ∧ led = [] ∧ fz' = fz) ?_ ?_ ?_ ?_ ?_
    · repeat' walk_at "ST"
      exact itb_str
    · rw [List.length_map, signs_length]; simp [T]; omega
    · exact ⟨rfl, rfl, rfl⟩
    · intro c' S i acc loc led fz' x hx ⟨e1, e2, e3⟩ hl
      subst e1; subst e2; subst e3
      rw [signs_T, List.map_map, List.getElem?_map] at hx
      obtain ⟨ch, hch, rfl⟩ := Option.map_eq_some_iff.mp hx
      obtain ⟨u, rfl⟩ := one_of hl
      have cN' : c'.names = [Str.ofString "sign"] := S.names
      show Tgt _ _ _ _ _
      refine tg_name cN' .head (tests_one ?_)
      repeat' walk_at "ST"
      rw [has_dig]
      refine wite (fun h2 => ?_) (fun h2 => ?_)
      · repeat' walk_at "ST"
        exact ⟨_, _, [], _, .nil, .nil, by rw [take_filter _ hch, h2]; simp, rfl, rfl⟩
      · exact ⟨_, _, [], _, .nil, .nil, by rw [take_filter _ hch, h2]; simp, rfl, rfl⟩
    · intro acc led fz' D ⟨e1, e2, e3⟩
      subst e1; subst e2; subst e3
      repeat' walk_at "ST"
      rw [List.length_map, signs_length, show (T l).cps.size = l.length from T_len l, List.take_length]
      have key : (!(List.map (fun ch => PV.str ⟨#[ch]⟩) (List.filter (fun ch => !isDig ch) l)).isEmpty) = !okNum l := by
        unfold okNum
        have h1' : decide (l.length ≤ 18) = true := by simp only [decide_eq_false_iff_not, decide_eq_true_eq] at h1 ⊢; omega
        rw [h0, h1']
        show (!List.isEmpty _) = !(List.all _ _)
        congr 1
        rw [Bool.eq_iff_iff]
        simp
      rw [key]
      refine wite (fun h2 => ?_) (fun h2 => ?_)
      · exact ⟨h2.symm, _, rfl⟩
      · repeat' walk_at "ST"
        exact ⟨h2.symm, _, rfl⟩
  · rintro b ⟨loc, led, fz'⟩ ⟨hb, led', e⟩
    cases e
    subst hb
    refine wite (fun h0 => ?_) (fun h0 => ?_)
    · have h0' : okNum l = false := by simpa using h0
      repeat' walk_at "ST"
      refine s_raise cNew cK (K := K) ?_
      repeat' walk_at "ST"
      refine ⟨keepK cK k71, ?_⟩
      repeat' walk_at "ST"
      refine b_add_str (by rw [T_len, ofString_len]; exact Nat.le_trans (Nat.add_le_add_left hz _) (by decide)) ?_
      repeat' walk_at "ST"
      refine wc_exc X71 (fun x => errInit_spec X71 S71 n71_what n71_at x) cK cp cw (by rw [cn]; decide) (Nat.le_of_ble_eq_true rfl) (fun x p mu fz' h => h) fun x d rest fz' _ => ?_
      exact ⟨x, 71, d, 36, rfl, .head _, X71, rfl, h0'⟩
    · have h0' : okNum l = true := by simpa using h0
      repeat' walk_at "ST"
      refine ⟨fun _ => trivial, ?_⟩
      repeat' walk_at "ST"
      refine c_int_str (int_of_text h0') (by rw [T_len]; unfold okNum at h0'; simp only [Bool.and_eq_true, decide_eq_true_eq] at h0'; omega) ?_
      repeat' walk_at "ST"
      exact ⟨[], _, [], _, .nil, .nil, rfl, rfl, h0', rfl⟩
end
section
set_option maxRecDepth 100000
set_option maxHeartbeats 8000000
set_option linter.unusedVariables false
structure Bx where
  b : Addr
  db : Addr
  ls : Addr
  gn : Addr
  nm : Str
  v : Int
  nx : Int
  lts : List Lt
structure Lt.In (fz : List (Addr × AO)) (l : Lt) : Prop where
  x : (l.x, AO.inst 146 l.dx) ∈ fz
  dx : (l.dx, AO.dict (ltDict l.uid l.oct l.fl l.mod)) ∈ fz
  fl : (l.fl, AO.tuple [.str (Str.ofString "work")]) ∈ fz
  ob : l.oct.size ≤ 1000
  mb : 0 ≤ l.mod ∧ l.mod ≤ 1000
noncomputable abbrev Bx.refs (B : Bx) : List PV := B.lts.map fun l => .ref l.x
structure Bx.In (fz : List (Addr × AO)) (B : Bx) : Prop where
  b : (B.b, AO.inst 184 B.db) ∈ fz
  db : (B.db, AO.dict (bxDict B.nm B.v B.nx B.ls B.gn)) ∈ fz
  ls : (B.ls, AO.list B.refs) ∈ fz
  gn : (B.gn, AO.list []) ∈ fz
  lt : ∀ l ∈ B.lts, l.In fz
  len : B.lts.length ≤ 10
  up : B.lts.Pairwise fun a b => a.uid < b.uid
  pos : ∀ l ∈ B.lts, 0 < l.uid ∧ l.uid ≤ 4294967295
  nmb : B.nm.length ≤ 100 ∧ 10 ∉ B.nm.cps.toList
  vb : 0 ≤ B.v ∧ B.v ≤ 1000
  nb : 0 ≤ B.nx ∧ B.nx ≤ 4294967296
theorem Lt.In.sub {fz fz' : List (Addr × AO)} {l : Lt} (h : l.In fz) (k : ∀ q ∈ fz, q ∈ fz') : l.In fz' := ⟨k _ h.x, k _ h.dx, k _ h.fl, h.ob, h.mb⟩
theorem Bx.In.sub {fz fz' : List (Addr × AO)} {B : Bx} (h : B.In fz) (k : ∀ q ∈ fz, q ∈ fz') : B.In fz' := ⟨k _ h.b, k _ h.db, k _ h.ls, k _ h.gn, fun l hl => (h.lt l hl).sub k, h.len, h.up, h.pos, h.nmb, h.vb, h.nb⟩
theorem Bx.get {B : Bx} {i : Nat} {l : Lt} (h : B.lts[i]? = some l) : B.refs[i]? = some (.ref l.x) := by
  unfold Bx.refs; rw [List.getElem?_map, h]; rfl
theorem up_le {l : List Lt} (h : l.Pairwise fun a b => a.uid < b.uid) {i j : Nat} {a b : Lt} (hi : l[i]? = some a) (hj : l[j]? = some b) (hij : i ≤ j) : a.uid ≤ b.uid := by
  rcases Nat.lt_or_eq_of_le hij with hlt | rfl
  · obtain ⟨h1, rfl⟩ := List.getElem?_eq_some_iff.mp hi
    obtain ⟨h2, rfl⟩ := List.getElem?_eq_some_iff.mp hj
    exact Int.le_of_lt (List.pairwise_iff_getElem.mp h i j h1 h2 hlt)
  · rw [hi] at hj; cases hj; exact Int.le_refl _

/-- where the letter with this uid stands -/
noncomputable def Found (B : Bx) (u at_ : Int) : Prop := (∃ (k : Nat) (l : Lt), at_ = k ∧ B.lts[k]? = some l ∧ l.uid = u) ∨ (at_ = -1 ∧ ∀ l ∈ B.lts, l.uid ≠ u)
theorem place_spec {prog : Program} {w : World} {fz : List (Addr × AO)} {B : Bx} {u : Int} (hB : B.In fz) :
    Spec K prog w 0 195 [.ref B.ls, .int u] [] fz (fun p mu fz' => fz' = fz ∧ mu = [] ∧ ∃ at_, p = .int at_ ∧ Found B u at_) := by
  refine enter F17 (by rfl) ?_
  intro c cK cn cp cw cN cG cC cS cF
  replace cN : c.names = _ := cN
  replace cG : c.gl = _ := cG
  show Wk c PF.Is _ _ ⟨[some (.ref B.ls), some (.int u), none, none, none], _, fz⟩
  have hls := hB.ls
  have hlen : B.refs.length = B.lts.length := by unfold Bx.refs; rw [List.length_map]
  have hl10 := hB.len
  refine s_cons (s_assign_swap cN ?_ (by walk_at "MEM") (by walk_at "MEM") (by decide) rfl rfl rfl rfl rfl)
  repeat' walk_at "ST"
  refine ⟨fun _ => trivial, ?_⟩
  repeat' walk_at "ST"
  refine c_len_list (by walk_at "LOOK") (by omega) ?_
  repeat' walk_at "ST"
  rename_i t
  refine ⟨t, _, _, rfl, .led (.head _), ?_⟩
  refine put cN (by walk_at "PUT") (put cN (by walk_at "PUT") ?_)
  rw [hlen]
  refine seq_next (s_cons (s_while (n₀ := B.lts.length + 1) (fun n σ => ∃ (lo hi : Nat) (m : Option PV) (led : List (Addr × AO)), σ = ⟨[some (.ref B.ls), some (.int u), some (.int lo), some (.int hi), m], led, fz⟩ ∧ lo ≤ hi ∧ hi ≤ B.lts.length ∧ n = hi - lo + 1 ∧
    (∀ i l, i < lo → B.lts[i]? = some l → l.uid < u) ∧ (∀ i l, hi ≤ i → B.lts[i]? = some l → u ≤ l.uid)) ⟨0, B.lts.length, none, _, rfl, Nat.zero_le _, Nat.le_refl _, by omega, fun i l h => absurd h (Nat.not_lt_zero _), fun i l h e => absurd (List.getElem?_eq_some_iff.mp e).1 (by omega)⟩ ?_))
  rintro c' S n σ₁ ⟨lo, hi, m, led, rfl, h1, h2, rfl, h3, h4⟩
  have cN' : c'.names = _ := S.names.trans cN
  have cG' : c'.gl = _ := S.gl.trans cG
  repeat' walk_at "ST"
  refine wite (fun hlt => ?_) (fun hlt => ?_)
  · have hlt' : lo < hi := by simpa using hlt
    repeat' walk_at "ST"
    have hmid : ((lo : Int) + (hi : Int)).fdiv 2 = ((lo + hi) / 2 : Nat) := by
      rw [Int.fdiv_eq_ediv_of_nonneg _ (by decide)]; omega
    rw [hmid]
    have hm1 : (lo + hi) / 2 < hi := by omega
    have hm0 : lo ≤ (lo + hi) / 2 := by omega
    obtain ⟨l, hl⟩ : ∃ l, B.lts[(lo + hi) / 2]? = some l := ⟨_, List.getElem?_eq_getElem (by omega)⟩
    have L := hB.lt l (List.mem_of_getElem? hl)
    obtain ⟨lx, ldx, lfl, lob, lmb⟩ := L
    refine' sub_list (by walk_at "LOOK") (by omega) (by omega) (by rw [Int.toNat_natCast]; exact Bx.get hl) ?_ (by intro _ _; rfl)
    refine a_inst (S.K.trans cK) R146 n146_uid (by walk_at "LOOK") (by walk_at "LOOK") (by rfl) rfl ?_
    repeat' walk_at "ST"
    refine wite (fun hu => ?_) (fun hu => ?_)
    · have hu' : l.uid < u := by simpa using hu
      repeat' walk_at "ST"
      refine ⟨hi - ((lo + hi) / 2 + 1) + 1, by omega, (lo + hi) / 2 + 1, hi, _, _, rfl, by omega, h2, rfl, fun i a hi' ha => Int.lt_of_le_of_lt (up_le hB.up ha hl (by omega)) hu', h4⟩
    · have hu' : u ≤ l.uid := by simpa using hu
      repeat' walk_at "ST"
      refine ⟨(lo + hi) / 2 - lo + 1, by omega, lo, (lo + hi) / 2, _, _, rfl, by omega, by omega, rfl, h3, fun i a hi' ha => Int.le_trans hu' (up_le hB.up hl ha hi')⟩
  · have hlt' : lo = hi := by
      have : ¬ lo < hi := by simpa using hlt
      omega
    subst hlt'
    refine seq_next ?_
    refine s_cons (s_if (t_and (t_cmp1 ?_)))
    repeat' walk_at "ST"
    refine ⟨fun _ => trivial, ?_⟩
    repeat' walk_at "ST"
    refine c_len_list (by walk_at "LOOK") (by omega) ?_
    repeat' walk_at "ST"
    rw [hlen]
    refine wite (fun hl => ?_) (fun hl => ?_)
    · have hl' : lo < B.lts.length := by simpa using hl
      repeat' walk_at "ST"
      obtain ⟨l, hl⟩ : ∃ l, B.lts[lo]? = some l := ⟨_, List.getElem?_eq_getElem (by omega)⟩
      have L := hB.lt l (List.mem_of_getElem? hl)
      obtain ⟨lx, ldx, lfl, lob, lmb⟩ := L
      refine' sub_list (by walk_at "LOOK") (by omega) (by omega) (by rw [Int.toNat_natCast]; exact Bx.get hl) ?_ (by intro _ _; rfl)
      refine a_inst cK R146 n146_uid (by walk_at "LOOK") (by walk_at "LOOK") (by rfl) rfl ?_
      repeat' walk_at "ST"
      refine wite (fun hu => ?_) (fun hu => ?_)
      · have hu' : l.uid = u := by simpa using hu
        repeat' walk_at "ST"
        exact ⟨[], _, [], _, .nil, .nil, rfl, rfl, _, rfl, .inl ⟨lo, l, rfl, hl, hu'⟩⟩
      · have hu' : ¬ l.uid = u := by simpa using hu
        repeat' walk_at "ST"
        refine ⟨[], _, [], _, .nil, .nil, rfl, rfl, _, rfl, .inr ⟨rfl, fun a ha => ?_⟩⟩
        obtain ⟨i, hi⟩ := List.getElem?_of_mem ha
        by_cases h : i < lo
        · exact Int.ne_of_lt (h3 i a h hi)
        · intro e
          have q1 := up_le hB.up hl hi (by omega)
          have q2 := h4 lo l (Nat.le_refl _) hl
          omega
    · have hl' : ¬ lo < B.lts.length := by simpa using hl
      repeat' walk_at "ST"
      refine ⟨[], _, [], _, .nil, .nil, rfl, rfl, _, rfl, .inr ⟨rfl, fun a ha => ?_⟩⟩
      obtain ⟨i, hi⟩ := List.getElem?_of_mem ha
      have := (List.getElem?_eq_some_iff.mp hi).1
      exact Int.ne_of_lt (h3 i a (by omega) hi)
end
section
set_option maxRecDepth 100000
set_option maxHeartbeats 8000000
set_option linter.unusedVariables false
theorem b_le_str {c : Cx} {σ : St} {Q : PV → St → Prop} {x y : Str} (h : Q (.bool (!decide (y.cps.toList < x.cps.toList))) σ) : WB c (compareOp .LtE) (.str x) (.str y) Q σ := WB.atom h fun _ _ ⟨_, e1⟩ ⟨_, e2⟩ _ _ _ k => by subst e1; subst e2; (with_reducible refine P.le_str ?_); exact k _ _ rfl

theorem boxLetter_spec {prog : Program} {w : World} {fz : List (Addr × AO)} {B : Bx} {u : Int} (hB : B.In fz) :
    Spec K prog w 1 171 [.ref B.b, .int u] [] fz (fun p mu fz' => fz' = fz ∧ mu = [] ∧ ((∃ l ∈ B.lts, l.uid = u ∧ p = .ref l.x) ∨ ((∀ l ∈ B.lts, l.uid ≠ u) ∧ p = .none))) := by
  refine enter F14 (by rfl) ?_
  intro c cK cn cp cw cN cG cC cS cF
  replace cN : c.names = _ := cN
  replace cG : c.gl = _ := cG
  show Wk c PF.Is _ _ ⟨[some (.ref B.b), some (.int u), none], _, fz⟩
  obtain ⟨h1, h2, h3, h4, h5, h6, h7, h8, h9, h10, h11⟩ := id hB
  refine s_cons ?_
  repeat' walk_at "ST"
  refine ⟨keepK cK k195, ?_⟩
  repeat' walk_at "ST"
  refine a_inst cK R184 n184_letters (by walk_at "LOOK") (by walk_at "LOOK") (by rfl) rfl ?_
  repeat' walk_at "ST"
  refine wc_fun (place_spec (prog := prog) (w := w) (u := u) hB) cK cp cw (by rw [cn]; decide) ?_
  rintro p ⟨at_, rfl, hf⟩
  try dsimp only [List.nil_append]
  repeat' walk_at "ST"
  rcases hf with ⟨k, l, rfl, hl, hu⟩ | ⟨rfl, hn⟩
  · have e : decide ((0 : Int) ≤ (k : Int)) = true := by simp
    rw [e]
    refine wt ?_
    repeat' walk_at "ST"
    refine a_inst cK R184 n184_letters (by walk_at "LOOK") (by walk_at "LOOK") (by rfl) rfl ?_
    repeat' walk_at "ST"
    have hk := (List.getElem?_eq_some_iff.mp hl).1
    refine' sub_list (by walk_at "LOOK") (by omega) (by omega) (by rw [Int.toNat_natCast]; exact Bx.get hl) ?_ (by intro _ _; rfl)
    repeat' walk_at "ST"
    exact ⟨[], _, [], _, .nil, .nil, rfl, rfl, .inl ⟨l, List.mem_of_getElem? hl, hu, rfl⟩⟩
  · refine wf ?_
    repeat' walk_at "ST"
    exact ⟨[], _, [], _, .nil, .nil, rfl, rfl, .inr ⟨hn, rfl⟩⟩

noncomputable def Hit (B : Bx) (l : List Nat) (p : PV) : Prop := okNum l = true ∧ ∃ a ∈ B.lts, a.uid = valN l ∧ p = .ref a.x
noncomputable def Miss (B : Bx) (l : List Nat) : Prop := okNum l = false ∨ ∀ a ∈ B.lts, a.uid ≠ valN l
theorem letterIn_spec {prog : Program} {w : World} {fz : List (Addr × AO)} {B : Bx} {l : List Nat} (hB : B.In fz) (hz : l.length ≤ 1000) :
    SpecX K prog w 3 110 [.ref B.b, .str (T l)] [] fz (fun p mu fz' => fz' = fz ∧ mu = [] ∧ Hit B l p) (fun C => C = 71 ∧ Miss B l) := by
  refine enterX F8 (by rfl) ?_
  intro c cK cn cp cw cN cG cC cS cF cR cX cFr cFly cNew
  replace cN : c.names = _ := cN
  replace cG : c.gl = _ := cG
  show Wk c PF.Is _ _ ⟨[some (.ref B.b), some (.str (T l)), none], _, fz⟩
  obtain ⟨h1, h2, h3, h4, h5, h6, h7, h8, h9, h10, h11⟩ := id hB
  refine s_cons ?_
  repeat' walk_at "ST"
  refine m_inst cK R184 m184_letter i171 (by walk_at "LOOK") (by walk_at "LOOK") (by rfl) ⟨keepK cK k171, ?_⟩
  repeat' walk_at "ST"
  refine ⟨keepK cK k84, ?_⟩
  repeat' walk_at "ST"
  refine wc_funX (whole_spec (prog := prog) (w := w) hz) cK cp cw (by rw [cn]; decide) cFly (fun C h => ⟨h.1, .inl h.2⟩) ?_
  rintro p ⟨hok, rfl⟩
  repeat' walk_at "ST"
  refine wc_fun (boxLetter_spec (prog := prog) (w := w) (u := valN l) hB) cK cp cw (by rw [cn]; decide) ?_
  rintro p hp
  try dsimp only [List.nil_append]
  repeat' walk_at "ST"
  rcases hp with ⟨a, ha, hu, rfl⟩ | ⟨hn, rfl⟩
  · refine wf ?_
    repeat' walk_at "ST"
    exact ⟨[], _, [], _, .nil, .nil, rfl, rfl, hok, a, ha, hu, rfl⟩
  · refine wt ?_
    refine s_cons (s_raise cNew cK (K := K) ?_)
    repeat' walk_at "ST"
    refine ⟨keepK cK k71, ?_⟩
    repeat' walk_at "ST"
    refine wc_exc X71 (fun x => errInit_spec X71 S71 n71_what n71_at x) cK cp cw (by rw [cn]; decide) (Nat.le_of_ble_eq_true rfl) (fun x p mu fz' h => h) fun x d rest fz' _ => ?_
    exact ⟨x, 71, d, 36, rfl, .head _, X71, rfl, .inr hn⟩

/-! names -/
noncomputable def firstOf (x : Str) : Str × Str := if Txt.find x (Str.ofString "/") < 0 then (x, Str.ofString "") else (Txt.slice x none (some (Txt.find x (Str.ofString "/"))), Txt.slice x (some (Txt.find x (Str.ofString "/"))) none)
theorem firstPart_spec {prog : Program} {w : World} {fz : List (Addr × AO)} {x : Str} (hz : x.length ≤ 1000) :
    Spec K prog w 0 207 [.str x] [] fz (fun p mu fz' => fz' = fz ∧ ∃ a, p = .ref a ∧ mu = [(a, .tuple [.str (firstOf x).1, .str (firstOf x).2])]) := by
  refine enter F19 (by rfl) ?_
  intro c cK cn cp cw cN cG cC cS cF
  replace cN : c.names = _ := cN
  replace cG : c.gl = _ := cG
  show Wk c PF.Is _ _ ⟨[some (.str x), none], _, fz⟩
  refine s_cons ?_
  repeat' walk_at "ST"
  refine m_find ⟨fun _ => trivial, ?_⟩
  repeat' walk_at "ST"
  refine c_find ?_
  repeat' walk_at "ST"
  unfold firstOf
  refine wite (fun h => ?_) (fun h => ?_)
  · have h' : Txt.find x (Str.ofString "/") < 0 := by simpa using h
    repeat' walk_at "ST"
    rw [if_pos h']
    exact ⟨_, _, [], _, takeAll _, .nil, rfl, _, rfl, rfl⟩
  · have h' : ¬ Txt.find x (Str.ofString "/") < 0 := by simpa using h
    repeat' walk_at "ST"
    refine sl_str_to (by omega) ?_
    repeat' walk_at "ST"
    refine sl_str_from (by omega) ?_
    repeat' walk_at "ST"
    rw [if_neg h']
    exact ⟨_, _, [], _, takeAll _, .nil, rfl, _, rfl, rfl⟩
theorem lit_a : (Str.ofString "a").cps.toList = [97] := by decide +kernel
theorem lit_z : (Str.ofString "z").cps.toList = [122] := by decide +kernel
theorem take_map {α β : Type} {l : List α} {i : Nat} {x : α} (f : α → β) (h : l[i]? = some x) : (l.take (i + 1)).map f = (l.take i).map f ++ [f x] := by
  rw [List.take_add_one, h, Option.toList_some, List.map_append]; rfl
noncomputable def upC (ch : Nat) : Nat := if 97 ≤ ch ∧ ch ≤ 122 then ch - 32 else ch
theorem join_ones : ∀ (l : List Nat), (Str.join (Str.ofString "") (l.map fun ch => (⟨#[ch]⟩ : Str))) = T l := by
  intro l
  rw [T_nil]
  match l with
  | [] => rfl
  | a :: r =>
    induction r generalizing a with
    | nil => rfl
    | cons b r ih =>
      show Str.join (T []) (⟨#[a]⟩ :: ⟨#[b]⟩ :: r.map _) = _
      have h1 : Str.join (T []) (⟨#[a]⟩ :: ⟨#[b]⟩ :: r.map fun ch => (⟨#[ch]⟩ : Str)) = (⟨#[a]⟩ : Str) ++ T [] ++ Str.join (T []) (⟨#[b]⟩ :: r.map fun ch => (⟨#[ch]⟩ : Str)) := rfl
      rw [h1]
      have h2 := ih b
      rw [List.map_cons] at h2
      rw [h2]
      have : (⟨#[a]⟩ : Str) = T [a] := rfl
      rw [this, T_add, T_add]
      rfl
theorem upper_spec {prog : Program} {w : World} {fz : List (Addr × AO)} {l : List Nat} (hz : l.length ≤ 1000) (hc : ∀ ch ∈ l, ch < 1000000) :
    Spec K prog w 0 200 [.str (T l)] [] fz (fun p mu fz' => fz' = fz ∧ mu = [] ∧ p = .str (T (l.map upC))) := by
  refine enter F18 (by rfl) ?_
  intro c cK cn cp cw cN cG cC cS cF
  replace cN : c.names = _ := cN
  replace cG : c.gl = _ := cG
  show Wk c PF.Is _ _ ⟨[some (.str (T l))], _, fz⟩
  refine s_cons ?_
  repeat' walk_at "ST"
  refine m_join ⟨fun _ => trivial, ?_⟩
  repeat' walk_at "ST"
  refine w_comp (items := (signs (T l)).map .val) (σ₁ := ⟨[some (.str (T l))], [], fz⟩) (compOK (cn := [Str.ofString "sign"]) (gl := [(Str.ofString "chr", .builtin "chr"), (Str.ofString "ord", .builtin "ord")]) rfl (by decide) (fun p hp => ?_)) (fun i acc led fz' => acc = ((l.take i).map upC).map (fun ch => PV.str ⟨#[ch]⟩) ∧ led = [] ∧ fz' = fz) ?_ ?_ ?_ ?_ ?_
  · rw [cK]
    rcases List.mem_cons.mp hp with rfl | hp
    · exact g_chr
    · rcases List.mem_cons.mp hp with rfl | hp
      · exact g_ord
      · cases hp
  · repeat' walk_at "ST"
    exact itb_str
  · rw [List.length_map, signs_length]; simp [T]; omega
  · exact ⟨rfl, rfl, rfl⟩
  · intro c' S i acc loc led fz' x hx ⟨e1, e2, e3⟩ hl
    subst e1; subst e2; subst e3
    rw [signs_T, List.map_map, List.getElem?_map] at hx
    obtain ⟨ch, hch, rfl⟩ := Option.map_eq_some_iff.mp hx
    obtain ⟨u, rfl⟩ := one_of hl
    have cN' : c'.names = [Str.ofString "sign"] := S.names
    have cG' : c'.gl = _ := S.gl
    have hchb := hc ch (List.mem_of_getElem? hch)
    have key : upC ch = if (!decide ([ch] < [97])) = true then (if (!decide ([122] < [ch])) = true then ch - 32 else ch) else ch := by
      unfold upC
      simp only [List.cons_lt_cons_iff]
      by_cases h1 : 97 ≤ ch <;> by_cases h2 : ch ≤ 122 <;> simp [h1, h2] <;> omega
    show Tgt _ _ _ _ _
    refine tg_name cN' .head (tests_nil (wt ?_))
    refine w_ifexp (t_chain2 ?_)
    repeat' walk_at "ST"
    refine b_le_str ?_
    repeat' walk_at "ST"
    refine wite (fun h1 => ?_) (fun h1 => ?_)
    · repeat' walk_at "ST"
      refine b_le_str ?_
      repeat' walk_at "ST"
      refine wite (fun h2 => ?_) (fun h2 => ?_)
      · rw [lit_a] at h1
        rw [lit_z] at h2
        have hk : upC ch = ch - 32 := by rw [key]; simp only [h1, h2, if_true]
        have h97 : 97 ≤ ch := by simpa [List.cons_lt_cons_iff] using h1
        repeat' walk_at "ST"
        refine ⟨fun _ => trivial, ?_⟩
        repeat' walk_at "ST"
        refine ⟨fun _ => trivial, ?_⟩
        repeat' walk_at "ST"
        refine c_ord ?_
        repeat' walk_at "ST"
        refine c_chr (by omega) (by omega) ?_
        refine ⟨_, _, [], _, .nil, .nil, ?_, rfl, rfl⟩
        rw [List.map_map, List.map_map, take_map _ hch]
        show _ = _ ++ [PV.str ⟨#[upC ch]⟩]
        rw [hk, show ((ch : Int) - 32).toNat = ch - 32 by omega]
      · rw [lit_a] at h1
        rw [lit_z] at h2
        have hk : upC ch = ch := by rw [key]; simp only [h1, h2, if_true, Bool.false_eq_true, if_false]
        repeat' walk_at "ST"
        refine ⟨_, _, [], _, .nil, .nil, ?_, rfl, rfl⟩
        rw [List.map_map, List.map_map, take_map _ hch]
        show _ = _ ++ [PV.str ⟨#[upC ch]⟩]
        rw [hk]
    · rw [lit_a] at h1
      have hk : upC ch = ch := by rw [key]; simp only [h1, Bool.false_eq_true, if_false]
      repeat' walk_at "ST"
      refine ⟨_, _, [], _, .nil, .nil, ?_, rfl, rfl⟩
      rw [List.map_map, List.map_map, take_map _ hch]
      show _ = _ ++ [PV.str ⟨#[upC ch]⟩]
      rw [hk]
  · intro acc led fz' D ⟨e1, e2, e3⟩
    subst e1; subst e2; subst e3
    repeat' walk_at "ST"
    rw [List.length_map, signs_length, show (T l).cps.size = l.length from T_len l, List.take_length]
    refine c_join (xs := (l.map upC).map fun ch => (⟨#[ch]⟩ : Str)) (.led (by rw [List.map_map (f := fun ch => (⟨#[ch]⟩ : Str))]; exact .head _)) ?_ ?_
    · refine joinOK 1 (fun y hy => ?_) ?_
      · obtain ⟨ch, _, rfl⟩ := List.mem_map.mp hy
        exact Nat.le_refl _
      · rw [T_nil, T_len, List.length_map, List.length_map]
        simp only [List.length_nil]
        omega
    · rw [join_ones]
      repeat' walk_at "ST"
      exact ⟨[], _, [], _, .nil, .nil, rfl, rfl, rfl⟩

noncomputable def normS (x : Str) : Str := if T ((firstOf x).1.cps.toList.map upC) = Str.ofString "INBOX" then Str.ofString "INBOX" ++ (firstOf x).2 else x
theorem normal_spec {prog : Program} {w : World} {fz : List (Addr × AO)} {x : Str} (hz : x.length ≤ 1000) (h1 : (firstOf x).1.length ≤ 1000) (h2 : (firstOf x).2.length ≤ 1000) (hc : ∀ ch ∈ (firstOf x).1.cps.toList, ch < 1000000) :
    Spec K prog w 1 214 [.str x] [] fz (fun p mu fz' => fz' = fz ∧ mu = [] ∧ p = .str (normS x)) := by
  refine enter F20 (by rfl) ?_
  intro c cK cn cp cw cN cG cC cS cF
  replace cN : c.names = _ := cN
  replace cG : c.gl = _ := cG
  show Wk c PF.Is _ _ ⟨[some (.str x), none, none], _, fz⟩
  refine s_cons (s_assign_tup ?_)
  repeat' walk_at "ST"
  refine ⟨keepK cK k207, ?_⟩
  repeat' walk_at "ST"
  refine wc_spec (firstPart_spec (prog := prog) (w := w) hz) cK cp cw (by rw [cn]; decide) .nil ?_
  rintro p mu fz' ⟨rfl, a, rfl, rfl⟩ _
  refine tg_tuple2 (.led (.head _)) (put cN (by walk_at "PUT") (put cN (by walk_at "PUT") (seq_next ?_)))
  dsimp only [List.cons_append, List.nil_append]
  repeat' walk_at "ST"
  refine ⟨keepK cK k200, ?_⟩
  repeat' walk_at "ST"
  have hs := upper_spec (prog := prog) (w := w) (fz := fz') (l := (firstOf x).1.cps.toList) (by simpa [Str.length] using h1) hc
  rw [← T_of] at hs
  refine wc_val hs cK cp cw (by rw [cn]; decide) ?_
  try dsimp only [List.nil_append]
  repeat' walk_at "ST"
  unfold normS
  refine wite (fun h => ?_) (fun h => ?_)
  · repeat' walk_at "ST"
    refine b_add_str (by rw [ofString_len]; exact Nat.le_trans (Nat.add_le_add_left h2 _) (by decide)) ?_
    repeat' walk_at "ST"
    rw [if_pos (of_decide_eq_true h)]
    exact ⟨[], _, [], _, .nil, .nil, rfl, rfl, rfl⟩
  · repeat' walk_at "ST"
    rw [if_neg (of_decide_eq_false h)]
    exact ⟨[], _, [], _, .nil, .nil, rfl, rfl, rfl⟩
end
section
set_option maxRecDepth 100000
set_option maxHeartbeats 8000000
set_option linter.unusedVariables false
structure Sx where
  st : Addr
  ds : Addr
  bd : Addr
  sb : Addr
  bxs : List (Str × Bx)
noncomputable abbrev stDict (bd sb : Addr) : List (Str × PV) := [(Str.ofString "boxes", .ref bd), (Str.ofString "subscribed", .ref sb), (Str.ofString "next_validity", .int 2)]
noncomputable abbrev Sx.es (S : Sx) : List (Str × PV) := S.bxs.map fun p => (p.1, .ref p.2.b)
structure Sx.In (fz : List (Addr × AO)) (S : Sx) : Prop where
  st : (S.st, AO.inst 257 S.ds) ∈ fz
  ds : (S.ds, AO.dict (stDict S.bd S.sb)) ∈ fz
  bd : (S.bd, AO.dict S.es) ∈ fz
  sb : (S.sb, AO.list []) ∈ fz
  bx : ∀ p ∈ S.bxs, p.2.In fz
  nod : (S.es.map (·.1)).Nodup
  sys : (S.bd == sysModules) = false
theorem Sx.In.sub {fz fz' : List (Addr × AO)} {S : Sx} (h : S.In fz) (k : ∀ q ∈ fz, q ∈ fz') : S.In fz' := ⟨k _ h.st, k _ h.ds, k _ h.bd, k _ h.sb, fun p hp => (h.bx p hp).sub k, h.nod, h.sys⟩
theorem lookup_es {x : Str} : ∀ (l : List (Str × Bx)), (l.map fun p => (p.1, PV.ref p.2.b)).lookup x = (l.lookup x).map fun B => PV.ref B.b
  | [] => rfl
  | (k, B) :: r => by
    rw [List.map_cons, List.lookup_cons, List.lookup_cons]
    cases x == k with
    | true => rfl
    | false => exact lookup_es r
theorem lookup_mem {x : Str} {B : Bx} : ∀ {l : List (Str × Bx)}, l.lookup x = some B → (x, B) ∈ l
  | (k, B') :: r, h => by
    rw [List.lookup_cons] at h
    cases hx : x == k with
    | true => rw [hx] at h; cases h; rw [eq_of_beq hx]; exact .head _
    | false => rw [hx] at h; exact .tail _ (lookup_mem h)

structure NameOK (x : Str) : Prop where
  l0 : x.length ≤ 1000
  l1 : (firstOf x).1.length ≤ 1000
  l2 : (firstOf x).2.length ≤ 1000
  ch : ∀ c ∈ (firstOf x).1.cps.toList, c < 1000000
theorem storeBox_spec {prog : Program} {w : World} {fz : List (Addr × AO)} {S : Sx} {x : Str} (hS : S.In fz) (hx : NameOK x) :
    SpecX K prog w 3 242 [.ref S.st, .str x] [] fz (fun p mu fz' => fz' = fz ∧ mu = [] ∧ ∃ B, S.bxs.lookup (normS x) = some B ∧ p = .ref B.b) (fun C => C = 59 ∧ S.bxs.lookup (normS x) = none) := by
  refine enterX F23 (by rfl) ?_
  intro c cK cn cp cw cN cG cC cS cF cR cX cFr cFly cNew
  replace cN : c.names = _ := cN
  replace cG : c.gl = _ := cG
  show Wk c PF.Is _ _ ⟨[some (.ref S.st), some (.str x), none], _, fz⟩
  obtain ⟨h1, h2, h3, h4, h5, h6, h7⟩ := id hS
  refine s_cons ?_
  repeat' walk_at "ST"
  refine ⟨keepK cK k214, ?_⟩
  repeat' walk_at "ST"
  refine wc_val (normal_spec (prog := prog) (w := w) hx.l0 hx.l1 hx.l2 hx.ch) cK cp cw (by rw [cn]; decide) ?_
  try dsimp only [List.nil_append]
  repeat' walk_at "ST"
  refine a_inst cK R257 n257_boxes (by walk_at "LOOK") (by walk_at "LOOK") (by rfl) rfl ?_
  refine b_notin_dict (by walk_at "LOOK") h6 h7 ?_
  rw [lookup_es]
  repeat' walk_at "ST"
  cases hl : S.bxs.lookup (normS x) with
  | none =>
    refine wt ?_
    refine s_cons (s_raise cNew cK (K := K) ?_)
    repeat' walk_at "ST"
    refine ⟨keepK cK k59, ?_⟩
    repeat' walk_at "ST"
    refine wc_exc X59 (fun x => errInit_spec X59 S59 n59_what n59_at x) cK cp cw (by rw [cn]; decide) (Nat.le_of_ble_eq_true rfl) (fun x p mu fz' h => h) fun x d rest fz' _ => ?_
    exact ⟨x, 59, d, 36, rfl, .head _, X59, rfl, hl⟩
  | some B =>
    refine wf ?_
    repeat' walk_at "ST"
    refine a_inst cK R257 n257_boxes (by walk_at "LOOK") (by walk_at "LOOK") (by rfl) rfl ?_
    repeat' walk_at "ST"
    refine sub_dict (by walk_at "LOOK") h6 (p := .ref B.b) (by rw [lookup_es, hl]; rfl) ?_ (by intro _ _; rfl)
    exact ⟨[], _, [], _, .nil, .nil, rfl, rfl, B, rfl, rfl⟩

/-! words -/
noncomputable abbrev sp : Str := Str.ofString " "
noncomputable def wsOf (x : Str) : List Str := (Txt.splitMax x sp 1).map Txt.strip
theorem parts_spec {prog : Program} {w : World} {fz : List (Addr × AO)} {x : Str} (hz : x.length ≤ 100000) (hp : (Txt.splitMax x sp 1).length ≤ 1000) (hq : ∀ y ∈ Txt.splitMax x sp 1, y.length ≤ 100000) :
    Spec K prog w 0 79 [.str x, .str sp, .int 2] [] fz (fun p mu fz' => fz' = fz ∧ ∃ a, p = .ref a ∧ mu = [(a, .list ((wsOf x).map .str))]) := by
  refine enter F3 (by rfl) ?_
  intro c cK cn cp cw cN cG cC cS cF
  replace cN : c.names = _ := cN
  replace cG : c.gl = _ := cG
  show Wk c PF.Is _ _ ⟨[some (.str x), some (.str sp), some (.int 2), none], _, fz⟩
  refine s_cons ?_
  repeat' walk_at "ST"
  refine wf ?_
  repeat' walk_at "ST"
  refine m_split ⟨fun _ => trivial, ?_⟩
  repeat' walk_at "ST"
  refine c_split2 (by decide +kernel) (by decide) (by omega) fun a => ?_
  repeat' walk_at "ST"
  refine Wk.thaw fz cF ?_
  refine w_comp (items := ((Txt.splitMax x sp 1).map .str).map .val) (σ₁ := ⟨[some (.str x), some (.str sp), some (.int 2), some (.ref a)], [], (a, .list ((Txt.splitMax x sp 1).map .str)) :: fz⟩) (compOK (cn := [Str.ofString "row"]) (gl := []) rfl (by decide) noGl) (fun i acc led fz' => acc = ((Txt.splitMax x sp 1).take i).map (fun y => PV.str (Txt.strip y)) ∧ led = [] ∧ fz' = (a, .list ((Txt.splitMax x sp 1).map .str)) :: fz) ?_ ?_ ?_ ?_ ?_
  · repeat' walk_at "ST"
    exact Itb.conv (mu' := []) .nil (.cons .head .nil) (itb_list (by walk_at "FZ") (.inl ⟨_, _, rfl⟩))
  · rw [List.length_map, List.length_map]; omega
  · exact ⟨rfl, rfl, rfl⟩
  · intro c' S i acc loc led fz' y hy ⟨e1, e2, e3⟩ hl
    subst e1; subst e2; subst e3
    rw [List.map_map, List.getElem?_map] at hy
    obtain ⟨y, hy', rfl⟩ := Option.map_eq_some_iff.mp hy
    obtain ⟨u, rfl⟩ := one_of hl
    have cN' : c'.names = [Str.ofString "row"] := S.names
    show Tgt _ _ _ _ _
    refine tg_name cN' .head (tests_nil (wt ?_))
    repeat' walk_at "ST"
    refine m_strip ⟨fun _ => trivial, ?_⟩
    repeat' walk_at "ST"
    refine c_strip (Nat.le_trans (hq y (List.mem_of_getElem? hy')) (by decide)) ?_
    exact ⟨_, _, [], _, .nil, .nil, (take_map _ hy').symm, rfl, rfl⟩
  · intro acc led fz' D ⟨e1, e2, e3⟩
    subst e1; subst e2; subst e3
    rw [List.length_map, List.length_map, List.take_length]
    refine ⟨fun q hq => .tail _ hq, ?_⟩
    repeat' walk_at "ST"
    refine ⟨_, _, [], _, takeAll _, .nil, rfl, D, rfl, ?_⟩
    unfold wsOf
    rw [List.map_map]
    rfl
end
section
set_option maxRecDepth 100000
set_option maxHeartbeats 8000000
set_option linter.unusedVariables false
noncomputable def badW (x : Str) : Bool := decide ((wsOf x).length < 2) || decide (Str.ofString "" ∈ wsOf x)
structure LineOK (x : Str) : Prop where
  l0 : x.length ≤ 100000
  l1 : (Txt.splitMax x sp 1).length ≤ 1000
  l2 : ∀ y ∈ Txt.splitMax x sp 1, y.length ≤ 100000
theorem split2_le (x y : Str) : (Txt.splitMax x y 1).length ≤ 2 := by
  unfold Txt.splitMax
  split
  · exact Nat.le_succ _
  split
  · exact Nat.le_succ _
  · rw [length_partsBetween]
    have := StrLaws.occ_length_le x y 0 x.length (limitOf x 1)
    have e : limitOf x 1 = 1 := rfl
    omega
theorem wordsOf_spec {prog : Program} {w : World} {fz : List (Addr × AO)} {x : Str} (hx : LineOK x) :
    SpecX K prog w 2 91 [.str x, .int 2] [] fz (fun p mu fz' => mu = [] ∧ badW x = false ∧ ∃ a, p = .ref a ∧ (a, AO.list ((wsOf x).map .str)) ∈ fz') (fun C => C = 71 ∧ badW x = true) := by
  refine enterX F5 (by rfl) ?_
  intro c cK cn cp cw cN cG cC cS cF cR cX cFr cFly cNew
  replace cN : c.names = _ := cN
  replace cG : c.gl = _ := cG
  show Wk c PF.Is _ _ ⟨[some (.str x), some (.int 2), none], _, fz⟩
  have hw : (wsOf x).length ≤ 1000 := by unfold wsOf; rw [List.length_map]; exact hx.l1
  refine s_cons ?_
  repeat' walk_at "ST"
  refine ⟨keepK cK k79, ?_⟩
  repeat' walk_at "ST"
  refine wc_spec (parts_spec (prog := prog) (w := w) hx.l0 hx.l1 hx.l2) cK cp cw (by rw [cn]; decide) .nil ?_
  rintro p mu fz' ⟨rfl, a, rfl, rfl⟩ _
  dsimp only [List.nil_append, List.cons_append]
  refine put cN (by walk_at "PUT") (seq_next ?_)
  refine s_cons (s_if (Wk.mono (Q := fun b σ => b = badW x ∧ σ = ⟨[some (.str x), some (.int 2), some (.ref a)], [(a, .list ((wsOf x).map .str))], fz'⟩) ?_ ?_))
  · repeat' walk_at "ST"
    refine ⟨fun _ => trivial, ?_⟩
    repeat' walk_at "ST"
    refine c_len_list (by walk_at "LOOK") (by rw [List.length_map]; omega) ?_
    repeat' walk_at "ST"
    rw [List.length_map]
    have e : decide (((wsOf x).length : Int) < 2) = decide ((wsOf x).length < 2) := decide_eq_decide.mpr (by omega)
    rw [e]
    unfold badW
    refine wite (fun h => ?_) (fun h => ?_)
    · rw [h]; exact ⟨rfl, rfl⟩
    rw [h]
    repeat' walk_at "ST"
    refine b_in_strs (by walk_at "LOOK") ?_
    repeat' walk_at "ST"
    refine wite (fun h => ?_) (fun h => ?_)
    · rw [h]; exact ⟨rfl, rfl⟩
    · rw [h]
      repeat' walk_at "ST"
      exact ⟨rfl, rfl⟩
  · rintro b σ ⟨rfl, rfl⟩
    refine wite (fun h0 => ?_) (fun h0 => ?_)
    · refine s_cons (s_raise cNew cK (K := K) ?_)
      repeat' walk_at "ST"
      refine ⟨keepK cK k71, ?_⟩
      repeat' walk_at "ST"
      refine ⟨fun _ => trivial, ?_⟩
      repeat' walk_at "ST"
      refine c_str_int (by decide +kernel) ?_
      repeat' walk_at "ST"
      refine b_add_str (by decide +kernel) ?_
      repeat' walk_at "ST"
      refine wc_exc X71 (fun x => errInit_spec X71 S71 n71_what n71_at x) cK cp cw (by rw [cn]; decide) (Nat.le_of_ble_eq_true rfl) (fun x p mu fz' h => h) fun x d rest fz' _ => ?_
      exact ⟨x, 71, d, 36, rfl, .head _, X71, rfl, h0⟩
    · repeat' walk_at "ST"
      exact ⟨[], _, _, _, .nil, .cons .head .nil, rfl, h0, a, rfl, .head _⟩

/-! what was heard of a line -/
inductive Heard (S : Sx) (x : Str) : Option (Str × Str) → Option Lt → Str → Prop
  | bad : badW x = true → Heard S x none none (Str.ofString "desk")
  | store {a b} : badW x = false → wsOf x = [a, b] → S.bxs.lookup (normS a) = none → Heard S x (some (a, b)) none (Str.ofString "store")
  | desk {a b B} : badW x = false → wsOf x = [a, b] → S.bxs.lookup (normS a) = some B → Miss B b.cps.toList → Heard S x (some (a, b)) none (Str.ofString "desk")
  | ok {a b B l} : badW x = false → wsOf x = [a, b] → S.bxs.lookup (normS a) = some B → okNum b.cps.toList = true → l ∈ B.lts → l.uid = valN b.cps.toList → Heard S x (some (a, b)) (some l) (Str.ofString "")
noncomputable def wordsPV (fz : List (Addr × AO)) : Option (Str × Str) → PV → Prop
  | none, p => p = .none
  | some (a, b), p => ∃ t, p = .ref t ∧ (t, AO.tuple [.str a, .str b]) ∈ fz
noncomputable def foundPV : Option Lt → PV
  | none => .none
  | some l => .ref l.x
theorem fold_none {ts vs : List Expr} {k k' : Nat} {tp vp : Pos} {env : Env} (h : vs.all (foldedForSure 8) = true) : swappedStores [.Tuple ts k tp] (.Tuple vs k' vp) env = pure none := by
  delta swappedStores
  dsimp only
  split
  · rfl
  split
  · rfl
  split
  · rfl
  first | rfl | rw [if_pos h]
theorem three_names {c : Cx} {x y z : Str} {px py pz : Pos} {f : Value → Sem Unit} {i : Nat} {q : Str} {v : Value} {s : Shared} {Q' : Unit → Shared → Prop} (hz : [x, y, z][i]? = some q) (hf : [assign (.Name x px) c.env, assign (.Name y py) c.env, assign (.Name z pz) c.env][i]? = some f) (h : wpAny (model c.prog c.w) c.A (storeName c.env q v) Q' c.E s) : wpAny (model c.prog c.w) c.A (f v) Q' c.E s := by
  match i with
  | 0 => cases hz; cases hf; exact assign_Name h
  | 1 => cases hz; cases hf; exact assign_Name h
  | 2 => cases hz; cases hf; exact assign_Name h
  | i + 3 => cases hz
theorem tg_tuple3 {c : Cx} {σ : St} {x y z : Str} {px py pz pos : Pos} {k : Nat} {t : Addr} {p q r : PV} {Q : St → Prop} (hl : Look σ t (.tuple [p, q, r])) (h : Puts c [x, y, z] [p, q, r] Q σ) : Tgt c (.Tuple [.Name x px, .Name y py, .Name z pz] k pos) (.ref t) Q σ := fun v e s R => by
  cases e
  obtain ⟨vs, n, hv, ho⟩ := hl.tuple R
  refine assign_Tuple_tuple R.ok.hh ⟨_, ho, rfl, n, rfl⟩ (by rw [List.size_toArray, hv.length]; rfl) rfl fun h' he => ?_
  exact wpAny_mono (h.go hv (fs := [assign (.Name x px) c.env, assign (.Name y py) c.env, assign (.Name z pz) c.env]) rfl (fun i z f v s Q' hz hf k => three_names hz hf k) _ (R.stays (t := s.toks) (stays_of he))) (fun _ s' ⟨σ', R', k⟩ => ⟨(), σ', rfl, R', k⟩) fun _ _ e => e

/-- where an exception may come from -/
noncomputable def HH (S : Sx) (x : Str) (fz : List (Addr × AO)) (C : Addr) (σ : St) : Prop :=
  ∃ ws wv, σ.loc = [some (.ref S.st), some (.str x), some wv, some .none, some (.str (Str.ofString ""))] ∧ (∀ q ∈ fz, q ∈ σ.fz) ∧ wordsPV σ.fz ws wv ∧ ((C = 71 ∧ Heard S x ws none (Str.ofString "desk")) ∨ (C = 59 ∧ Heard S x ws none (Str.ofString "store")))
theorem heard_spec {prog : Program} {w : World} {fz : List (Addr × AO)} {S : Sx} {x : Str} (hS : S.In fz) (hx : LineOK x) (hn : ∀ a b, wsOf x = [a, b] → NameOK a ∧ b.length ≤ 1000) :
    Spec K prog w 4 330 [.ref S.st, .str x] [] fz (fun p mu fz' => mu = [] ∧ ∃ ws wv f wd h, p = .ref h ∧ (h, AO.tuple [wv, foundPV f, .str wd]) ∈ fz' ∧ wordsPV fz' ws wv ∧ Heard S x ws f wd) := by
  refine enterX F33 (by rfl) ?_
  intro c cK cn cp cw cN cG cC cS cF cR cX cFr cFly cNew
  replace cN : c.names = _ := cN
  replace cG : c.gl = _ := cG
  show Wk c PF.Is _ _ ⟨[some (.ref S.st), some (.str x), none, none, none], _, fz⟩
  refine s_cons (s_assign_tup ?_ (by rfl) (fold_none (by rfl)))
  repeat' walk_at "ST"
  refine tg_tuple3 (.led (.head _)) (put cN (by walk_at "PUT") (put cN (by walk_at "PUT") (put cN (by walk_at "PUT") (seq_next ?_))))
  refine s_cons (Wk.mono (Q := fun pf σ' => pf = .next ∧ ∃ ws wv f wd led' fz', σ' = ⟨[some (.ref S.st), some (.str x), some wv, some (foundPV f), some (.str wd)], led', fz'⟩ ∧ (∀ q ∈ fz, q ∈ fz') ∧ wordsPV fz' ws wv ∧ Heard S x ws f wd) ?_ ?_)
  · refine s_try (HH S x fz) cR cX cFr ?_ ?_
    · intro c' Sb cFly'
      have cN' : c'.names = _ := Sb.names.trans cN
      have cG' : c'.gl = _ := Sb.gl.trans cG
      have cK' := Sb.K.trans cK
      have cp' := Sb.prog.trans cp
      have cw' := Sb.w.trans cw
      have cn' := Sb.n.trans cn
      refine s_cons ?_
      repeat' walk_at "ST"
      refine ⟨fun _ => trivial, ?_⟩
      repeat' walk_at "ST"
      refine ⟨keepK cK' k91, ?_⟩
      repeat' walk_at "ST"
      refine wc_specX (wordsOf_spec (prog := prog) (w := w) hx) cK' cp' cw' (by rw [cn']; decide) cFly' (fun C h => ?_) ?_ (fun _ _ _ h => h.1)
      · exact ⟨none, .none, rfl, fun q hq => hq, rfl, .inl ⟨h.1, .bad h.2⟩⟩
      rintro p fz₁ ⟨_, hb, a, rfl, ha⟩ hs₁
      repeat' walk_at "ST"
      have hlen : (wsOf x).length = 2 := by
        have h1 : (wsOf x).length ≤ 2 := by unfold wsOf; rw [List.length_map]; exact split2_le _ _
        have h2 : ¬ (wsOf x).length < 2 := by unfold badW at hb; rw [Bool.or_eq_false_iff] at hb; exact of_decide_eq_false hb.1
        omega
      obtain ⟨wa, wb, hws⟩ : ∃ wa wb, wsOf x = [wa, wb] := by
        match h : wsOf x, hlen with
        | [wa, wb], _ => exact ⟨wa, wb, rfl⟩
      rw [hws] at ha
      refine c_tuple_list (.fz ha) (Nat.le_of_ble_eq_true rfl) fun t => ?_
      refine put cN' (by walk_at "PUT") (seq_next ?_)
      refine Wk.conv (σ := ⟨_, _, _⟩) (mu' := []) (fr := [(t, .tuple [.str wa, .str wb])]) .nil (.cons .head .nil) ?_
      dsimp only [List.cons_append, List.nil_append]
      have hS' : S.In ((t, AO.tuple [.str wa, .str wb]) :: fz₁) := (hS.sub hs₁).sub fun q hq => .tail _ hq
      obtain ⟨s1, s2, s3, s4, s5, s6, s7⟩ := id hS'
      refine s_cons ?_
      repeat' walk_at "ST"
      refine ⟨keepK cK' k110, ?_⟩
      repeat' walk_at "ST"
      refine m_inst cK' R257 m257_box i242 (by walk_at "LOOK") (by walk_at "LOOK") (by rfl) ⟨keepK cK' k242, ?_⟩
      repeat' walk_at "ST"
      refine' sub_tuple (by walk_at "LOOK") (by decide) (by decide) rfl ?_ (by intro _ _; rfl)
      repeat' walk_at "ST"
      have hw : wordsPV ((t, AO.tuple [.str wa, .str wb]) :: fz₁) (some (wa, wb)) (.ref t) := ⟨t, rfl, .head _⟩
      refine wc_specX (storeBox_spec (prog := prog) (w := w) hS' (hn _ _ hws).1) cK' cp' cw' (by rw [cn']; decide) cFly' (fun C h => ?_) ?_ (fun _ _ _ h => h.2.1)
      · exact ⟨some (wa, wb), .ref t, rfl, fun q hq => .tail _ (hs₁ q hq), hw, .inr ⟨h.1, .store hb hws h.2⟩⟩
      rintro p fz₂ ⟨rfl, _, B, hB, rfl⟩ _
      repeat' walk_at "ST"
      refine' sub_tuple (by walk_at "LOOK") (by decide) (by decide) rfl ?_ (by intro _ _; rfl)
      repeat' walk_at "ST"
      have hBin : B.In ((t, AO.tuple [.str wa, .str wb]) :: fz₁) := hS'.bx _ (lookup_mem hB)
      have hlb : wb.cps.toList.length ≤ 1000 := by have := (hn _ _ hws).2; simpa [Str.length] using this
      have hL := letterIn_spec (prog := prog) (w := w) (l := wb.cps.toList) hBin hlb
      rw [← T_of] at hL
      refine wc_specX hL cK' cp' cw' (by rw [cn']; decide) cFly' (fun C h => ?_) ?_ (fun _ _ _ h => h.2.1)
      · exact ⟨some (wa, wb), .ref t, rfl, fun q hq => .tail _ (hs₁ q hq), hw, .inl ⟨h.1, .desk hb hws hB h.2⟩⟩
      rintro p fz₃ ⟨rfl, _, hok, l, hl, hu, rfl⟩ _
      repeat' walk_at "ST"
      exact ⟨rfl, some (wa, wb), .ref t, some l, _, _, _, rfl, fun q hq => .tail _ (hs₁ q hq), hw, .ok hb hws hB hok hl hu⟩
    · rintro C σ' ⟨ws, wv, hloc, hs, hw, hc⟩
      obtain ⟨loc', led', fz'⟩ := σ'
      dsimp only at hloc hs hw
      subst hloc
      rcases hc with ⟨rfl, hh⟩ | ⟨rfl, hh⟩
      · refine .hit (C' := 71) (by rw [cG]; walk_at "MEM") (fun P => by rw [cK]; exact x71_71 P) (simple_assign_str ?_)
        refine put cN (by walk_at "PUT") ⟨rfl, ws, wv, none, _, _, _, rfl, hs, hw, hh⟩
      · refine .miss (C' := 71) (by rw [cG]; walk_at "MEM") (fun P => by rw [cK]; exact x59_71 P) ?_
        refine .hit (C' := 59) (by rw [cG]; walk_at "MEM") (fun P => by rw [cK]; exact x59_59 P) (simple_assign_str ?_)
        refine put cN (by walk_at "PUT") ⟨rfl, ws, wv, none, _, _, _, rfl, hs, hw, hh⟩
  · rintro pf σ' ⟨rfl, ws, wv, f, wd, led', fz', rfl, hs, hw, hh⟩
    repeat' walk_at "ST"
    rename_i h
    refine ⟨[], _, [(h, .tuple [wv, foundPV f, .str wd])], _, .nil, .cons .head .nil, rfl, ws, wv, f, wd, h, rfl, .head _, ?_, hh⟩
    cases ws with
    | none => exact hw
    | some ab => obtain ⟨t, e, ht⟩ := hw; exact ⟨t, e, .tail _ ht⟩
end
section
set_option maxRecDepth 100000
set_option maxHeartbeats 8000000
set_option linter.unusedVariables false
noncomputable def numPV (l : List Nat) : PV := if okNum l = true then .int (valN l) else .none
theorem read_spec {prog : Program} {w : World} {fz : List (Addr × AO)} {l : List Nat} (hz : l.length ≤ 1000) :
    Spec K prog w 3 337 [.str (T l)] [] fz (fun p mu fz' => fz' = fz ∧ mu = [] ∧ p = numPV l) := by
  refine enterX F34 (by rfl) ?_
  intro c cK cn cp cw cN cG cC cS cF cR cX cFr cFly cNew
  replace cN : c.names = _ := cN
  replace cG : c.gl = _ := cG
  show Wk c PF.Is _ _ ⟨[some (.str (T l))], _, fz⟩
  refine s_cons ?_
  refine s_try (fun C σ => C = 71 ∧ okNum l = false ∧ σ = ⟨[some (.str (T l))], [], fz⟩) cR cX cFr ?_ ?_
  · intro c' Sb cFly'
    have cN' : c'.names = _ := Sb.names.trans cN
    have cG' : c'.gl = _ := Sb.gl.trans cG
    have cK' := Sb.K.trans cK
    have cp' := Sb.prog.trans cp
    have cw' := Sb.w.trans cw
    have cn' := Sb.n.trans cn
    refine s_cons ?_
    repeat' walk_at "ST"
    refine ⟨keepK cK' k84, ?_⟩
    repeat' walk_at "ST"
    refine wc_funX (whole_spec (prog := prog) (w := w) hz) cK' cp' cw' (by rw [cn']; decide) cFly' (fun C h => ⟨h.1, h.2, rfl⟩) ?_
    rintro p ⟨hok, rfl⟩
    repeat' walk_at "ST"
    exact ⟨[], _, [], _, .nil, .nil, rfl, rfl, by unfold numPV; rw [if_pos hok]⟩
  · rintro C σ ⟨rfl, hok, rfl⟩
    refine .hit (C' := 71) (by rw [cG]; walk_at "MEM") (fun P => by rw [cK]; exact x71_71 P) (simple_return_none ?_)
    refine seq_ret ?_
    exact ⟨[], _, [], _, .nil, .nil, rfl, rfl, by unfold numPV; rw [if_neg (by rw [hok]; decide)]⟩

theorem lawNumber_spec {prog : Program} {w : World} {fz : List (Addr × AO)} {l : List Nat} (hz : l.length ≤ 1000) :
    Spec K prog w 0 309 [.str (T l)] [] fz (fun p mu fz' => fz' = fz ∧ mu = [] ∧ p = numPV l) := by
  refine enter F30 (by rfl) ?_
  intro c cK cn cp cw cN cG cC cS cF
  replace cN : c.names = _ := cN
  replace cG : c.gl = _ := cG
  show Wk c PF.Is _ _ ⟨[some (.str (T l)), none, none], _, fz⟩
  refine s_cons (s_if (t_not (t_chain2 ?_)))
  repeat' walk_at "ST"
  refine ⟨fun _ => trivial, ?_⟩
  repeat' walk_at "ST"
  refine c_len_str (by rw [T_len]; omega) ?_
  repeat' walk_at "ST"
  rw [T_len]
  have bad : okNum l = false → Fin (fun p mu fz' => fz' = fz ∧ mu = [] ∧ p = numPV l) PV.none ⟨[some (.str (T l)), none, none], [], fz⟩ := fun h => ⟨[], _, [], _, .nil, .nil, rfl, rfl, by unfold numPV; rw [if_neg (by rw [h]; decide)]⟩
  refine wite (fun h1 => ?_) (fun h1 => ?_)
  · repeat' walk_at "ST"
    refine wite (fun h2 => ?_) (fun h2 => ?_)
    · have h2' : ¬ (l.length : Int) ≤ 18 := by simpa using h2
      repeat' walk_at "ST"
      exact bad (by unfold okNum; rw [decide_eq_false (by omega)]; simp)
    have h1' : 1 ≤ l.length := by have := of_decide_eq_true h1; omega
    have h2' : l.length ≤ 18 := by have : (l.length : Int) ≤ 18 := by simpa using h2
                                   omega
    repeat' walk_at "ST"
    refine s_for (items := (signs (T l)).map .val) (σ₁ := ⟨[some (.str (T l)), some (.int 0), none], [], fz⟩) (fun i σ => ∃ u, σ = ⟨[some (.str (T l)), some (.int (valN (l.take i))), u], [], fz⟩ ∧ ∀ c ∈ l.take i, isDig c = true) ?_ ⟨none, rfl, fun c h => nomatch h⟩ ?_ ?_
    · repeat' walk_at "ST"
      exact itb_str
    · rintro c' Sb i σ₂ x hx ⟨u, rfl, hd⟩
      have cN' : c'.names = _ := Sb.names.trans cN
      have cG' : c'.gl = _ := Sb.gl.trans cG
      rw [signs_T, List.map_map, List.getElem?_map] at hx
      obtain ⟨ch, hch, rfl⟩ := Option.map_eq_some_iff.mp hx
      show Tgt _ _ _ _ _
      refine tg_name cN' (by walk_at "PUT") ?_
      refine s_cons ?_
      repeat' walk_at "ST"
      rw [has_dig]
      refine wite (fun h3 => ?_) (fun h3 => ?_)
      · repeat' walk_at "ST"
        refine ⟨[], _, [], _, .nil, .nil, rfl, rfl, ?_⟩
        have : okNum l = false := by
          unfold okNum
          have : l.all isDig = false := List.all_eq_false.mpr ⟨ch, List.mem_of_getElem? hch, by simpa using h3⟩
          rw [this]; simp
        unfold numPV
        rw [if_neg (by rw [this]; decide)]
      · have h3' : isDig ch = true := by simpa using h3
        obtain ⟨rest, hr⟩ := digit_at h3'
        repeat' walk_at "ST"
        refine m_index ⟨fun _ => trivial, ?_⟩
        repeat' walk_at "ST"
        refine c_index hr ?_
        repeat' walk_at "ST"
        have hvv : (10 * (valN (l.take i) : Int) + ((ch - 48 : Nat) : Int)) = (valN (l.take (i + 1)) : Int) := by
          rw [List.take_add_one, hch, Option.toList_some, val_append]
          omega
        rw [hvv]
        refine ⟨_, rfl, fun c hc => ?_⟩
        rw [List.take_add_one, hch, Option.toList_some] at hc
        rcases List.mem_append.mp hc with hc | hc
        · exact hd c hc
        · rw [List.mem_singleton.mp hc]; exact h3'
    · rintro σ₂ ⟨u, rfl, hd⟩
      rw [List.length_map, signs_length, show (T l).cps.size = l.length from T_len l, List.take_length] at *
      repeat' walk_at "ST"
      refine ⟨[], _, [], _, .nil, .nil, rfl, rfl, ?_⟩
      have : okNum l = true := by
        unfold okNum
        rw [List.all_eq_true.mpr hd, decide_eq_true h2']
        cases l with
        | nil => simp at h1'
        | cons a r => rfl
      unfold numPV
      rw [if_pos this]
  · have h1' : ¬ (1 : Int) ≤ l.length := by simpa using h1
    repeat' walk_at "ST"
    refine bad ?_
    cases l with
    | nil => rfl
    | cons a r => simp at h1'; omega
end
section
set_option maxRecDepth 100000
set_option maxHeartbeats 8000000
set_option linter.unusedVariables false
theorem fmod_nat (n : Nat) (k : Nat) : ((n : Int).fmod (k : Int)) = ((n % k : Nat) : Int) := by
  rw [Int.fmod_eq_emod_of_nonneg _ (by omega)]; omega
theorem fdiv_nat (n : Nat) (k : Nat) : ((n : Int).fdiv (k : Int)) = ((n / k : Nat) : Int) := by
  rw [Int.fdiv_eq_ediv_of_nonneg _ (by omega)]; omega
theorem fmod10 (n : Nat) : ((n : Int).fmod 10) = ((n % 10 : Nat) : Int) := fmod_nat n 10
theorem fdiv10 (n : Nat) : ((n : Int).fdiv 10) = ((n / 10 : Nat) : Int) := fdiv_nat n 10
noncomputable def hdg (n : Nat) : List Nat := if n = 0 then [] else dg n
theorem dg_step (n : Nat) : dg n = hdg (n / 10) ++ [48 + n % 10] := by
  unfold hdg
  by_cases h : n < 10
  · rw [dg_lt h, if_pos (by omega), Nat.mod_eq_of_lt h]; rfl
  · rw [dg_ge (by omega), if_neg (by omega)]
theorem figures_spec {prog : Program} {w : World} {fz : List (Addr × AO)} {n : Nat} (hz : n < 10 ^ 100) :
    Spec K prog w 0 302 [.int n] [] fz (fun p mu fz' => fz' = fz ∧ mu = [] ∧ p = .str (T (dg n))) := by
  refine enter F29 (by rfl) ?_
  intro c cK cn cp cw cN cG cC cS cF
  replace cN : c.names = _ := cN
  replace cG : c.gl = _ := cG
  show Wk c PF.Is _ _ ⟨[some (.int n), none, none], _, fz⟩
  refine s_cons (s_assign_swap cN ?_ (by walk_at "MEM") (by walk_at "MEM") (by decide) rfl rfl rfl rfl rfl)
  repeat' walk_at "ST"
  rw [fmod10]
  refine sub_str (n := 48 + n % 10) (by omega) (by omega) (by rw [Int.toNat_natCast]; exact digit_of (Nat.mod_lt _ (by decide))) ?_ (by intro _ _; rfl)
  repeat' walk_at "ST"
  rw [fdiv10]
  rename_i t
  refine ⟨t, _, _, rfl, .led (.head _), ?_⟩
  refine put cN (by walk_at "PUT") (put cN (by walk_at "PUT") (seq_next ?_))
  refine s_cons ?_
  refine s_while (n₀ := n / 10) (fun k σ => ∃ (fd : List Nat) (led : List (Addr × AO)), σ = ⟨[some (.int n), some (.str (T fd)), some (.int k)], led, fz⟩ ∧ dg n = hdg k ++ fd) ⟨[48 + n % 10], _, rfl, dg_step n⟩ ?_
  rintro c' Sb k σ₁ ⟨fd, led, rfl, hdq⟩
  have cN' : c'.names = _ := Sb.names.trans cN
  have cG' : c'.gl = _ := Sb.gl.trans cG
  have hfd : fd.length ≤ 100 := by
    have h1 := congrArg List.length hdq
    have h2 := dg_len (by decide) hz
    rw [List.length_append] at h1
    omega
  repeat' walk_at "ST"
  refine wite (fun h => ?_) (fun h => ?_)
  · have h' : 0 < k := by have := of_decide_eq_true h; omega
    refine s_cons (s_assign_swap cN' ?_ (by walk_at "MEM") (by walk_at "MEM") (by decide) rfl rfl rfl rfl rfl)
    repeat' walk_at "ST"
    rw [fmod10]
    refine sub_str (n := 48 + k % 10) (by omega) (by omega) (by rw [Int.toNat_natCast]; exact digit_of (Nat.mod_lt _ (by decide))) ?_ (by intro _ _; rfl)
    repeat' walk_at "ST"
    refine b_add_str (by rw [T_len]; show 1 + _ ≤ _; omega) ?_
    repeat' walk_at "ST"
    rw [fdiv10]
    rename_i t
    refine ⟨t, _, _, rfl, .led (.head _), ?_⟩
    refine put cN' (by walk_at "PUT") (put cN' (by walk_at "PUT") (seq_next ?_))
    repeat' walk_at "ST"
    have e : (⟨#[48 + k % 10]⟩ : Str) ++ T fd = T ((48 + k % 10) :: fd) := T_add [48 + k % 10] fd
    rw [e]
    refine ⟨k / 10, by omega, _, _, rfl, ?_⟩
    rw [hdq]
    have : hdg k = dg k := by unfold hdg; rw [if_neg (by omega)]
    rw [this, dg_step k, List.append_assoc]; rfl
  · have h' : k = 0 := by have := of_decide_eq_false h; omega
    subst h'
    repeat' walk_at "ST"
    refine ⟨[], _, [], _, .nil, .nil, rfl, rfl, ?_⟩
    rw [hdq]; rfl

theorem log2_nat {n : Nat} (h : n < 2 ^ 1900) : ((n : Int)).natAbs.log2 < 1920 := by
  rw [Int.natAbs_natCast]
  by_cases h0 : n = 0
  · subst h0; decide
  · exact Nat.lt_of_lt_of_le ((Nat.log2_lt h0).mpr h) (by decide)
noncomputable def told (ns : List Nat) : Str := Str.join sp (ns.map fun n => T (dg n))
theorem numbersTold_spec {prog : Program} {w : World} {fz : List (Addr × AO)} {a : Addr} {ns : List Nat} (ha : (a, AO.list (ns.map fun n : Nat => .int (n : Int))) ∈ fz) (hl : ns.length ≤ 1000) (hn : ∀ n ∈ ns, n < 10 ^ 100) :
    Spec K prog w 0 115 [.ref a] [] fz (fun p mu fz' => fz' = fz ∧ mu = [] ∧ p = .str (told ns)) := by
  refine enter F9 (by rfl) ?_
  intro c cK cn cp cw cN cG cC cS cF
  replace cN : c.names = _ := cN
  replace cG : c.gl = _ := cG
  show Wk c PF.Is _ _ ⟨[some (.ref a)], _, fz⟩
  refine s_cons ?_
  repeat' walk_at "ST"
  refine m_join ⟨fun _ => trivial, ?_⟩
  repeat' walk_at "ST"
  refine w_comp (items := (ns.map fun n : Nat => PV.int (n : Int)).map .val) (σ₁ := ⟨[some (.ref a)], [], fz⟩) (compOK (cn := [Str.ofString "number"]) (gl := [(Str.ofString "str", .type "str")]) rfl (by decide) (fun p hp => ?_)) (fun i acc led fz' => acc = (ns.take i).map (fun n => PV.str (T (dg n))) ∧ led = [] ∧ fz' = fz) ?_ ?_ ?_ ?_ ?_
  · rw [cK, List.mem_singleton.mp hp]; exact g_str
  · repeat' walk_at "ST"
    exact itb_list (by walk_at "FZ") (.inl ⟨_, _, rfl⟩)
  · rw [List.length_map, List.length_map]; omega
  · exact ⟨rfl, rfl, rfl⟩
  · intro c' S i acc loc led fz' y hy ⟨e1, e2, e3⟩ hl'
    subst e1; subst e2; subst e3
    rw [List.map_map, List.getElem?_map] at hy
    obtain ⟨n, hn', rfl⟩ := Option.map_eq_some_iff.mp hy
    obtain ⟨u, rfl⟩ := one_of hl'
    have cN' : c'.names = [Str.ofString "number"] := S.names
    have cG' : c'.gl = _ := S.gl
    show Tgt _ _ _ _ _
    refine tg_name cN' .head (tests_nil (wt ?_))
    repeat' walk_at "ST"
    refine ⟨fun _ => trivial, ?_⟩
    repeat' walk_at "ST"
    refine c_str_int (log2_nat (Nat.lt_trans (hn n (List.mem_of_getElem? hn')) (by decide +kernel))) ?_
    rw [str_int]
    exact ⟨_, _, [], _, .nil, .nil, (take_map (fun n => PV.str (T (dg n))) hn').symm, rfl, rfl⟩
  · intro acc led fz' D ⟨e1, e2, e3⟩
    subst e1; subst e2; subst e3
    repeat' walk_at "ST"
    rw [List.length_map, List.length_map, List.take_length]
    refine c_join (xs := ns.map fun n => T (dg n)) (.led (by rw [List.map_map]; exact .head _)) (joinOK 100 (fun y hy => ?_) ?_) ?_
    · obtain ⟨n, hn', rfl⟩ := List.mem_map.mp hy
      rw [T_len]; exact dg_len (by decide) (hn n hn')
    · rw [List.length_map, show sp.length = 1 by decide +kernel]; omega
    · repeat' walk_at "ST"
      exact ⟨[], _, [], _, .nil, .nil, rfl, rfl, rfl⟩
end
section
set_option maxRecDepth 100000
set_option maxHeartbeats 8000000
set_option linter.unusedVariables false
noncomputable def uidL : List Nat := [117, 105, 100, 32]
noncomputable def octL : List Nat := [111, 99, 116, 101, 116, 115, 32]
noncomputable def modL : List Nat := [109, 111, 100, 115, 101, 113, 32]
noncomputable def workL : List Nat := [119, 111, 114, 107]
noncomputable def lineParts (k : Nat) (l : Lt) : List (List Nat) := [dg k, uidL ++ dg l.uid.toNat, octL ++ dg l.oct.size, modL ++ dg l.mod.toNat, workL]
noncomputable def lineL (k : Nat) (l : Lt) : List Nat := JL [44, 32] (lineParts k l)
theorem int_nat {i : Int} (h : 0 ≤ i) : (i.toNat : Int) = i := Int.toNat_of_nonneg h
theorem str_of_int {i : Int} (h : 0 ≤ i) : Str.ofString (toString i) = T (dg i.toNat) := by
  obtain ⟨n, rfl⟩ := Int.eq_ofNat_of_zero_le h
  rw [str_int]; rfl
theorem log2_int {i : Int} (h0 : 0 ≤ i) (h1 : i < 10 ^ 20) : i.natAbs.log2 < 1920 := by
  obtain ⟨n, rfl⟩ := Int.eq_ofNat_of_zero_le h0
  exact log2_nat (Nat.lt_trans (m := 10 ^ 20) (by omega) (by decide +kernel))
theorem dg_short {i : Int} (h0 : 0 ≤ i) (h1 : i < 10 ^ 20) : (dg i.toNat).length ≤ 20 := dg_len (by decide) (by omega)
theorem letterLine_spec {prog : Program} {w : World} {fz : List (Addr × AO)} {k : Nat} {l : Lt} (hl : l.In fz) (hu : 0 < l.uid ∧ l.uid ≤ 4294967295) (hk : k ≤ 1000) :
    Spec K prog w 0 98 [.int k, .ref l.x] [] fz (fun p mu fz' => fz' = fz ∧ mu = [] ∧ p = .str (T (lineL k l))) := by
  refine enter F6 (by rfl) ?_
  intro c cK cn cp cw cN cG cC cS cF
  replace cN : c.names = _ := cN
  replace cG : c.gl = _ := cG
  show Wk c PF.Is _ _ ⟨[some (.int k), some (.ref l.x), none], _, fz⟩
  obtain ⟨h1, h2, h3, h4, h5⟩ := id hl
  have q1 : (dg k).length ≤ 20 := dg_len (by decide) (Nat.lt_of_le_of_lt hk (by decide))
  have q2 := dg_short (i := l.uid) (by omega) (by omega)
  have q3 : (dg l.oct.size).length ≤ 20 := dg_len (by decide) (Nat.lt_of_le_of_lt h4 (by decide))
  have q4 := dg_short (i := l.mod) (by omega) (by omega)
  have e1 : Str.ofString "uid " = T uidL := by decide +kernel
  have e2 : Str.ofString "octets " = T octL := by decide +kernel
  have e3 : Str.ofString "modseq " = T modL := by decide +kernel
  have e4 : Str.ofString "work" = T workL := by decide +kernel
  have e5 : Str.ofString ", " = T [44, 32] := by decide +kernel
  have z1 : uidL.length = 4 := rfl
  have z2 : octL.length = 7 := rfl
  have z3 : modL.length = 7 := rfl
  refine s_cons ?_
  repeat' walk_at "ST"
  refine ⟨fun _ => trivial, ?_⟩
  repeat' walk_at "ST"
  refine c_str_int (log2_nat (Nat.lt_of_le_of_lt hk (by decide +kernel))) ?_
  rw [str_int]
  repeat' walk_at "ST"
  refine ⟨fun _ => trivial, ?_⟩
  repeat' walk_at "ST"
  refine a_inst cK R146 n146_uid (by walk_at "LOOK") (by walk_at "LOOK") (by rfl) rfl ?_
  repeat' walk_at "ST"
  refine c_str_int (log2_int (by omega) (by omega)) ?_
  rw [str_of_int (by omega), e1]
  refine b_add_str (by rw [T_len, T_len]; omega) ?_
  rw [T_add]
  repeat' walk_at "ST"
  refine ⟨fun _ => trivial, ?_⟩
  repeat' walk_at "ST"
  refine ⟨fun _ => trivial, ?_⟩
  repeat' walk_at "ST"
  refine a_inst cK R146 n146_octets (by walk_at "LOOK") (by walk_at "LOOK") (by rfl) rfl ?_
  repeat' walk_at "ST"
  refine c_len_bytes (by omega) ?_
  repeat' walk_at "ST"
  refine c_str_int (log2_nat (Nat.lt_of_le_of_lt h4 (by decide +kernel))) ?_
  rw [str_int, e2]
  refine b_add_str (by rw [T_len, T_len]; omega) ?_
  rw [T_add]
  repeat' walk_at "ST"
  refine ⟨fun _ => trivial, ?_⟩
  repeat' walk_at "ST"
  refine a_inst cK R146 n146_modseq (by walk_at "LOOK") (by walk_at "LOOK") (by rfl) rfl ?_
  repeat' walk_at "ST"
  refine c_str_int (log2_int h5.1 (by omega)) ?_
  rw [str_of_int h5.1, e3]
  refine b_add_str (by rw [T_len, T_len]; omega) ?_
  rw [T_add]
  repeat' walk_at "ST"
  refine m_join ⟨fun _ => trivial, ?_⟩
  repeat' walk_at "ST"
  refine ⟨fun _ => trivial, ?_⟩
  repeat' walk_at "ST"
  refine a_inst cK R146 n146_flags (by walk_at "LOOK") (by walk_at "LOOK") (by rfl) rfl ?_
  repeat' walk_at "ST"
  refine c_list_tuple (by walk_at "LOOK") (Nat.le_of_ble_eq_true rfl) fun d => ?_
  refine b_add_list (by walk_at "LOOK") (by walk_at "LOOK") (Nat.le_of_ble_eq_true rfl) fun d => ?_
  repeat' walk_at "ST"
  refine c_join (xs := (lineParts k l).map T) (.led (by unfold lineParts; rw [List.map_map, e4]; exact .head _)) (joinOK 100 (fun y hy => ?_) ?_) ?_
  · obtain ⟨p, hp, rfl⟩ := List.mem_map.mp hy
    rw [T_len]
    unfold lineParts at hp
    simp only [List.mem_cons, List.not_mem_nil, or_false] at hp
    have z4 : workL.length = 4 := rfl
    rcases hp with rfl | rfl | rfl | rfl | rfl <;> (try rw [List.length_append]) <;> omega
  · rw [List.length_map, show (lineParts k l).length = 5 from rfl, show (Str.ofString ", ").length = 2 by decide +kernel]; decide
  · rw [e5, join_T]
    repeat' walk_at "ST"
    exact ⟨[], _, [], _, .nil, .nil, rfl, rfl, rfl⟩

noncomputable def boxLines (B : Bx) : List (List Nat) := (List.range B.lts.length).map fun i => lineL (i + 1) (B.lts.getD i ⟨0, 0, 0, 0, #[], 0⟩)
theorem lineL_len {fz : List (Addr × AO)} {k : Nat} {l : Lt} (hl : l.In fz) (hu : 0 < l.uid ∧ l.uid ≤ 4294967295) (hk : k ≤ 1000) : (lineL k l).length ≤ 1000 := by
  have h4 := hl.ob
  have h5 := hl.mb
  have q1 : (dg k).length ≤ 20 := dg_len (by decide) (Nat.lt_of_le_of_lt hk (by decide))
  have q2 := dg_short (i := l.uid) (by omega) (by omega)
  have q3 : (dg l.oct.size).length ≤ 20 := dg_len (by decide) (Nat.lt_of_le_of_lt h4 (by decide))
  have q4 := dg_short (i := l.mod) (by omega) (by omega)
  have z1 : uidL.length = 4 := rfl
  have z2 : octL.length = 7 := rfl
  have z3 : modL.length = 7 := rfl
  have z4 : workL.length = 4 := rfl
  unfold lineL lineParts JL JL JL JL JL
  simp only [List.length_append, List.length_cons, List.length_nil]
  omega
theorem boxTold_spec {prog : Program} {w : World} {fz : List (Addr × AO)} {B : Bx} (hB : B.In fz) :
    Spec K prog w 1 103 [.ref B.b] [] fz (fun p mu fz' => mu = [] ∧ ∃ hd, 10 ∉ hd ∧ hd.length ≤ 1000 ∧ p = .str (T (JL [10] (hd :: boxLines B)))) := by
  refine enter F7 (by rfl) ?_
  intro c cK cn cp cw cN cG cC cS cF
  replace cN : c.names = _ := cN
  replace cG : c.gl = _ := cG
  show Wk c PF.Is _ _ ⟨[some (.ref B.b), none], _, fz⟩
  obtain ⟨h1, h2, h3, h4, h5, h6, h7, h8, h9, h10, h11⟩ := id hB
  have q1 := dg_short (i := B.v) h10.1 (by omega)
  have q2 := dg_short (i := B.nx) h11.1 (by omega)
  have q3 := dg_short (i := 1) (by decide) (by decide)
  have f1 := dg_dig B.v.toNat
  have f2 := dg_dig B.nx.toNat
  have f3 := dg_dig (1 : Int).toNat
  have hnl : B.nm.cps.toList.length ≤ 100 := by have := h9.1; simpa [Str.length] using this
  have e1 : Str.ofString ": validity " = T [58, 32, 118, 97, 108, 105, 100, 105, 116, 121, 32] := by decide +kernel
  have e2 : Str.ofString ", next " = T [44, 32, 110, 101, 120, 116, 32] := by decide +kernel
  have e3 : Str.ofString ", top " = T [44, 32, 116, 111, 112, 32] := by decide +kernel
  have e4 : Str.ofString "\n" = T [10] := by decide +kernel
  refine s_cons ?_
  repeat' walk_at "ST"
  refine a_inst cK R184 n184_name (by walk_at "LOOK") (by walk_at "LOOK") (by rfl) rfl ?_
  repeat' walk_at "ST"
  rw [T_of B.nm, e1]
  refine b_add_str (by rw [T_len, T_len, List.length_cons]; simp only [List.length_cons, List.length_nil]; omega) ?_
  rw [T_add]
  repeat' walk_at "ST"
  refine ⟨fun _ => trivial, ?_⟩
  repeat' walk_at "ST"
  refine a_inst cK R184 n184_validity (by walk_at "LOOK") (by walk_at "LOOK") (by rfl) rfl ?_
  repeat' walk_at "ST"
  refine c_str_int (log2_int h10.1 (by omega)) ?_
  rw [str_of_int h10.1]
  refine b_add_str (by rw [T_len, T_len, List.length_append]; simp only [List.length_cons, List.length_nil]; omega) ?_
  rw [T_add]
  repeat' walk_at "ST"
  rw [e2]
  refine b_add_str (by rw [T_len, T_len]; simp only [List.length_append, List.length_cons, List.length_nil]; omega) ?_
  rw [T_add]
  repeat' walk_at "ST"
  refine ⟨fun _ => trivial, ?_⟩
  repeat' walk_at "ST"
  refine a_inst cK R184 n184_next_uid (by walk_at "LOOK") (by walk_at "LOOK") (by rfl) rfl ?_
  repeat' walk_at "ST"
  refine c_str_int (log2_int h11.1 (by omega)) ?_
  rw [str_of_int h11.1]
  refine b_add_str (by rw [T_len, T_len]; simp only [List.length_append, List.length_cons, List.length_nil]; omega) ?_
  rw [T_add]
  repeat' walk_at "ST"
  rw [e3]
  refine b_add_str (by rw [T_len, T_len]; simp only [List.length_append, List.length_cons, List.length_nil]; omega) ?_
  rw [T_add]
  repeat' walk_at "ST"
  refine ⟨fun _ => trivial, ?_⟩
  repeat' walk_at "ST"
  refine a_inst cK R184 n184_top (by walk_at "LOOK") (by walk_at "LOOK") (by rfl) rfl ?_
  repeat' walk_at "ST"
  refine c_str_int (by decide) ?_
  rw [str_of_int (i := 1) (by decide)]
  refine b_add_str (by rw [T_len, T_len]; simp only [List.length_append, List.length_cons, List.length_nil]; omega) ?_
  rw [T_add]
  generalize hh : (B.nm.cps.toList ++ _ ++ _ ++ _ ++ _ ++ _ ++ _ : List Nat) = hd
  have g1 : 10 ∉ hd := by
    subst hh
    intro hm
    simp only [List.mem_append, List.mem_cons, List.not_mem_nil, or_false] at hm
    rcases hm with (((((hm | hm) | hm) | hm) | hm) | hm) | hm
    · exact h9.2 hm
    · omega
    · have := f1 _ hm; omega
    · omega
    · have := f2 _ hm; omega
    · omega
    · have := f3 _ hm; omega
  have g2 : hd.length ≤ 1000 := by
    subst hh
    simp only [List.length_append, List.length_cons, List.length_nil]
    omega
  repeat' walk_at "ST"
  refine m_join ⟨fun _ => trivial, ?_⟩
  repeat' walk_at "ST"
  rename_i a
  have hrl : B.refs.length = B.lts.length := by unfold Bx.refs; rw [List.length_map]
  refine w_comp (items := (List.range B.refs.length).map fun i : Nat => .tup [.int (i : Int), B.refs.getD i .none]) (σ₁ := ⟨[some (.ref B.b), some (.str (T hd))], [(a, .list [.str (T hd)])], fz⟩)
    (compOK (cn := [Str.ofString "spot", Str.ofString "letter"]) (gl := [(Str.ofString "letter_line", .ref 98)]) rfl (by decide) (fun p hp => ?_)) (fun i acc led fz' => acc = ((boxLines B).take i).map (fun y => PV.str (T y)) ∧ led = [(a, .list [.str (T hd)])] ∧ fz' = fz) ?_ ?_ ?_ ?_ ?_
  · rw [cK, List.mem_singleton.mp hp]; exact g_letter_line
  · repeat' walk_at "ST"
    refine ⟨fun _ => trivial, ?_⟩
    repeat' walk_at "ST"
    refine a_inst cK R184 n184_letters (by walk_at "LOOK") (by walk_at "LOOK") (by rfl) rfl ?_
    repeat' walk_at "ST"
    refine c_enumerate (by walk_at "LOOK") fun e it => ?_
    exact itb_enum h3
  · rw [List.length_map, List.length_range]; omega
  · exact ⟨rfl, rfl, rfl⟩
  · intro c' S i acc loc led fz' y hy ⟨e1, e2, e3⟩ hl'
    subst e1; subst e2; subst e3
    rw [List.getElem?_map] at hy
    obtain ⟨j, hj, rfl⟩ := Option.map_eq_some_iff.mp hy
    obtain ⟨hj1, hj2⟩ := List.getElem?_eq_some_iff.mp hj
    rw [List.length_range] at hj1
    rw [List.getElem_range] at hj2
    subst hj2
    rw [hrl] at hj1
    obtain ⟨l, hl⟩ : ∃ l, B.lts[i]? = some l := ⟨_, List.getElem?_eq_getElem hj1⟩
    have hg : B.refs.getD i .none = .ref l.x := by rw [List.getD_eq_getElem?_getD, Bx.get hl]; rfl
    have hg2 : B.lts.getD i ⟨0, 0, 0, 0, #[], 0⟩ = l := by rw [List.getD_eq_getElem?_getD, hl]; rfl
    rw [hg]
    obtain ⟨u, u', rfl⟩ := two_of hl'
    have cN' : c'.names = [Str.ofString "spot", Str.ofString "letter"] := S.names
    have cG' : c'.gl = _ := S.gl
    intro TT
    refine tg_tuple2 (.led (.head _)) (put cN' (by walk_at "PUT") (put cN' (by walk_at "PUT") (tests_nil (wt ?_))))
    repeat' walk_at "ST"
    refine ⟨keepK (S.K.trans cK) k98, ?_⟩
    repeat' walk_at "ST"
    have hm := List.mem_of_getElem? hl
    refine wc_val (letterLine_spec (prog := prog) (w := w) (k := i + 1) (h5 l hm) (h8 l hm) (by omega)) (S.K.trans cK) (S.prog.trans cp) (S.w.trans cw) (by rw [S.n, cn]; decide) ?_
    have hb : (boxLines B)[i]? = some (lineL (i + 1) l) := by
      unfold boxLines
      rw [List.getElem?_map, List.getElem?_range hj1, Option.map_some, hg2]
    exact ⟨[(a, .list [.str (T hd)])], _, [], _, .cons (.tail .head) .nil, .nil, (take_map (fun y => PV.str (T y)) hb).symm, rfl, rfl⟩
  · intro acc led fz' D ⟨e1, e2, e3⟩
    subst e1; subst e2; subst e3
    have hbl : (boxLines B).length = B.lts.length := by unfold boxLines; rw [List.length_map, List.length_range]
    rw [List.length_map, List.length_range, hrl, ← hbl, List.take_length]
    refine b_add_list (by walk_at "LOOK") (by walk_at "LOOK") (by rw [List.length_map, hbl]; simp only [List.length_cons, List.length_nil]; omega) fun d => ?_
    repeat' walk_at "ST"
    refine c_join (xs := (hd :: boxLines B).map T) (.led (by rw [List.map_map, List.map_cons]; exact .head _)) (joinOK 1000 (fun y hy => ?_) ?_) ?_
    · obtain ⟨p, hp, rfl⟩ := List.mem_map.mp hy
      rw [T_len]
      rcases List.mem_cons.mp hp with rfl | hp
      · exact g2
      · unfold boxLines at hp
        obtain ⟨i, hi, rfl⟩ := List.mem_map.mp hp
        have hi' := List.mem_range.mp hi
        obtain ⟨l, hl⟩ : ∃ l, B.lts[i]? = some l := ⟨_, List.getElem?_eq_getElem hi'⟩
        have hg2 : B.lts.getD i ⟨0, 0, 0, 0, #[], 0⟩ = l := by rw [List.getD_eq_getElem?_getD, hl]; rfl
        rw [hg2]
        have hm := List.mem_of_getElem? hl
        exact lineL_len (h5 l hm) (h8 l hm) (by omega)
    · rw [List.length_map, List.length_cons, hbl, e4, T_len]; simp only [List.length_cons, List.length_nil]; omega
    · rw [e4, join_T]
      repeat' walk_at "ST"
      exact ⟨[], _, [], _, .nil, .nil, rfl, hd, g1, g2, rfl⟩
end
section
set_option maxRecDepth 100000
set_option maxHeartbeats 8000000
set_option linter.unusedVariables false
theorem Wk.ok {α β : Type} {c : Cx} {σ : St} {is : β → α → Prop} {t : Sem α} {Q : β → St → Prop} (h : Ok c → Wk c is t Q σ) : Wk c is t Q σ := fun s R => h R.ok s R
theorem swapT {c : Cx} (O : Ok c) {x : Str} {px pos : Pos} {e : Expr} {gs : List Comprehension} {scope : Scope} {line : Nat} (hx : x ∈ c.names) (h1 : (px.line == pos.line) = true) (h2 : (scope.names.any fun (n, k) => n == x && (k == .local || k == .cell)) = false) :
    swapsWith (.ListComp e gs scope pos) (some (.Name x px)) line c.env = pure true := by
  have bk : c.env.blockKind = .function := by unfold Env.blockKind; rw [O.kind]; rfl
  show (pure (c.env.blockKind == .function && c.env.kindOf x == some .local && px.line == pos.line && !(scope.names.any fun (n, k) => n == x && (k == .local || k == .cell))) : Sem Bool) = _
  rw [bk, O.loc x hx, h1, h2]; rfl
theorem free10_line {fz : List (Addr × AO)} {k : Nat} {l : Lt} : 10 ∉ lineL k l := by
  intro hm
  have f1 := dg_dig k
  have f2 := dg_dig l.uid.toNat
  have f3 := dg_dig l.oct.size
  have f4 := dg_dig l.mod.toNat
  unfold lineL lineParts JL JL JL JL JL uidL octL modL workL at hm
  simp only [List.mem_append, List.mem_cons, List.not_mem_nil, or_false] at hm
  rcases hm with (hm | hm) | (((hm | hm) | hm) | (((hm | hm) | hm) | (((hm | hm) | hm) | hm)))
  · have := f1 _ hm; omega
  · omega
  · omega
  · have := f2 _ hm; omega
  · omega
  · omega
  · have := f3 _ hm; omega
  · omega
  · omega
  · have := f4 _ hm; omega
  · omega
  · omega
theorem free44_parts {k : Nat} {l : Lt} : ∀ p ∈ lineParts k l, 44 ∉ p := by
  intro p hp hm
  have f1 := dg_dig k
  have f2 := dg_dig l.uid.toNat
  have f3 := dg_dig l.oct.size
  have f4 := dg_dig l.mod.toNat
  unfold lineParts uidL octL modL workL at hp
  simp only [List.mem_cons, List.not_mem_nil, or_false] at hp
  rcases hp with rfl | rfl | rfl | rfl | rfl <;> (try simp only [List.mem_append, List.mem_cons, List.not_mem_nil, or_false] at hm)
  · have := f1 _ hm; omega
  · rcases hm with hm | hm
    · omega
    · have := f2 _ hm; omega
  · rcases hm with hm | hm
    · omega
    · have := f3 _ hm; omega
  · rcases hm with hm | hm
    · omega
    · have := f4 _ hm; omega
  · omega
theorem uid_inj {B : Bx} {fz : List (Addr × AO)} (hB : B.In fz) {a b : Lt} (ha : a ∈ B.lts) (hb : b ∈ B.lts) (h : a.uid = b.uid) : a = b := by
  obtain ⟨i, hi⟩ := List.getElem?_of_mem ha
  obtain ⟨j, hj⟩ := List.getElem?_of_mem hb
  obtain ⟨h1, rfl⟩ := List.getElem?_eq_some_iff.mp hi
  obtain ⟨h2, rfl⟩ := List.getElem?_eq_some_iff.mp hj
  rcases Nat.lt_trichotomy i j with hij | rfl | hij
  · have := List.pairwise_iff_getElem.mp hB.up i j h1 h2 hij; omega
  · rfl
  · have := List.pairwise_iff_getElem.mp hB.up j i h2 h1 hij; omega
noncomputable def Bx.us (B : Bx) : List Nat := B.lts.map fun l => l.uid.toNat
theorem hit_dg {B : Bx} {fz : List (Addr × AO)} (hB : B.In fz) {l : Lt} (hl : l ∈ B.lts) : ¬ Miss B (dg l.uid.toNat) ∧ ∀ p, Hit B (dg l.uid.toNat) p → p = .ref l.x := by
  have hp := hB.pos l hl
  have hv : (valN (dg l.uid.toNat) : Int) = l.uid := by rw [val_dg]; omega
  refine ⟨fun h => ?_, fun p ⟨_, a, ha, hu, e⟩ => ?_⟩
  · rcases h with h | h
    · rw [ok_dg (by omega)] at h; cases h
    · exact h l hl hv.symm
  · rw [e, uid_inj hB ha hl (by rw [hu, hv])]
theorem told_len {us : List Nat} (h : us.length ≤ 1000) (hu : ∀ n ∈ us, n < 10 ^ 100) : (told us).length ≤ 1000000 := by
  unfold told
  refine Nat.le_trans (StrLaws.join_length_le _ _) ?_
  have h1 := StrLaws.sumLen_le (B := 100) (us.map fun n => T (dg n)) (fun y hy => by
    obtain ⟨n, hn, rfl⟩ := List.mem_map.mp hy
    rw [T_len]; exact dg_len (by decide) (hu n hn))
  rw [List.length_map] at h1
  have h2 : sp.length = 1 := by decide +kernel
  rw [List.length_map, h2]
  omega
theorem jl_len {sep : List Nat} {ps : List (List Nat)} {B : Nat} (hl : ps.length ≤ 100) (hs : sep.length ≤ 10) (h : ∀ p ∈ ps, p.length ≤ B) (hB : B ≤ 1000 := by decide) : (T (JL sep ps)).length ≤ 1000000 := by
  rw [← join_T]
  refine Nat.le_trans (StrLaws.join_length_le _ _) ?_
  have h1 := StrLaws.sumLen_le (B := B) (ps.map T) (fun y hy => by
    obtain ⟨n, hn, rfl⟩ := List.mem_map.mp hy
    rw [T_len]; exact h n hn)
  rw [List.length_map] at h1
  rw [List.length_map, T_len]
  have h2 : ps.length * B ≤ 100 * 1000 := Nat.mul_le_mul hl hB
  have h3 : ps.length * sep.length ≤ 100 * 10 := Nat.mul_le_mul hl hs
  omega
theorem boxLines_len {B : Bx} {fz : List (Addr × AO)} (hB : B.In fz) : ∀ p ∈ boxLines B, p.length ≤ 1000 := fun p hp => by
  unfold boxLines at hp
  obtain ⟨i, hi, rfl⟩ := List.mem_map.mp hp
  have hi' := List.mem_range.mp hi
  obtain ⟨l, hl⟩ : ∃ l, B.lts[i]? = some l := ⟨_, List.getElem?_eq_getElem hi'⟩
  have hg2 : B.lts.getD i ⟨0, 0, 0, 0, #[], 0⟩ = l := by rw [List.getD_eq_getElem?_getD, hl]; rfl
  rw [hg2]
  have hm := List.mem_of_getElem? hl
  have := hB.len
  exact lineL_len (hB.lt l hm) (hB.pos l hm) (by omega)
theorem isTold_spec {prog : Program} {w : World} {fz : List (Addr × AO)} {B : Bx} (hB : B.In fz) :
    Spec K prog w 4 342 [.ref B.b] [] fz (fun p mu fz' => mu = [] ∧ p = .bool true) := by
  refine enter F35 (by rfl) ?_
  intro c cK cn cp cw cN cG cC cS cF
  replace cN : c.names = _ := cN
  replace cG : c.gl = _ := cG
  show Wk c PF.Is _ _ ⟨[some (.ref B.b), none, none, none, none, none, none], _, fz⟩
  obtain ⟨h1, h2, h3, h4, h5, h6, h7, h8, h9, h10, h11⟩ := id hB
  have hus : B.us.length = B.lts.length := by unfold Bx.us; rw [List.length_map]
  have hub : ∀ n ∈ B.us, n < 10 ^ 100 := fun n hn => by
    obtain ⟨l, hl, rfl⟩ := List.mem_map.mp hn
    have := h8 l hl
    exact Nat.lt_of_le_of_lt (m := 4294967295) (by omega) (by decide)
  refine s_cons (Wk.ok fun O => ?_)
  refine s_assign_comp (items := B.refs.map .val) (σ₁ := ⟨[some (.ref B.b), none, none, none, none, none, none], [], fz⟩) (compOK (cn := [Str.ofString "letter"]) (gl := []) rfl (by decide) noGl) (fun i acc led fz' => acc = (B.us.take i).map (fun n : Nat => PV.int (n : Int)) ∧ led = [] ∧ fz' = fz) ?_ ?_ ?_ ?_ ?_ (swapT O (by rw [cN]; walk_at "MEM") rfl rfl)
  · repeat' walk_at "ST"
    refine a_inst cK R184 n184_letters (by walk_at "LOOK") (by walk_at "LOOK") (by rfl) rfl ?_
    exact itb_list h3 (.inl ⟨_, _, rfl⟩)
  · rw [List.length_map]; unfold Bx.refs; rw [List.length_map]; omega
  · exact ⟨rfl, rfl, rfl⟩
  · intro c' S i acc loc led fz' y hy ⟨e1, e2, e3⟩ hl'
    subst e1; subst e2; subst e3
    unfold Bx.refs at hy
    rw [List.map_map, List.getElem?_map] at hy
    obtain ⟨l, hl, rfl⟩ := Option.map_eq_some_iff.mp hy
    obtain ⟨u, rfl⟩ := one_of hl'
    have cN' : c'.names = [Str.ofString "letter"] := S.names
    have hm := List.mem_of_getElem? hl
    obtain ⟨l1, l2, l3, l4, l5⟩ := h5 l hm
    show Tgt _ _ _ _ _
    refine tg_name cN' .head (tests_nil (wt ?_))
    repeat' walk_at "ST"
    refine a_inst (S.K.trans cK) R146 n146_uid (by walk_at "LOOK") (by walk_at "LOOK") (by rfl) rfl ?_
    have hu : B.us[i]? = some l.uid.toNat := by unfold Bx.us; rw [List.getElem?_map, hl]; rfl
    refine ⟨_, _, [], _, .nil, .nil, ?_, rfl, rfl⟩
    rw [take_map (fun n : Nat => PV.int (n : Int)) hu, int_nat (by have := h8 l hm; omega)]
  · intro acc led fz' D ⟨e1, e2, e3⟩
    subst e1; subst e2; subst e3
    have e0 : (B.us.take (B.refs.map Itm.val).length) = B.us := by
      rw [List.length_map]; unfold Bx.refs; rw [List.length_map, ← hus, List.take_length]
    rw [e0]
    refine put cN (by walk_at "PUT") (seq_next ?_)
    refine Wk.conv (σ := ⟨_, _, _⟩) (mu' := []) (fr := [(D, .list (B.us.map fun n : Nat => .int (n : Int)))]) .nil (.cons .head .nil) ?_
    dsimp only [List.cons_append, List.nil_append]
    refine s_cons ?_
    repeat' walk_at "ST"
    refine ⟨keepK cK k115, ?_⟩
    repeat' walk_at "ST"
    refine wc_val (numbersTold_spec (prog := prog) (w := w) (a := D) (ns := B.us) (.head _) (by omega) hub) cK cp cw (by rw [cn]; decide) ?_
    try dsimp only [List.nil_append]
    repeat' walk_at "ST"
    refine m_join ⟨fun _ => trivial, ?_⟩
    repeat' walk_at "ST"
    have hmm : (B.us.map fun n : Nat => PV.int (n : Int)).length = B.us.length := List.length_map ..
    refine w_comp (items := (B.us.map fun n : Nat => PV.int (n : Int)).map .val) (σ₁ := ⟨[some (.ref B.b), some (.ref D), some (.str (told B.us)), none, none, none, none], [], (D, AO.list (B.us.map fun n : Nat => .int (n : Int))) :: fz'⟩) (compOK (cn := [Str.ofString "uid"]) (gl := [(Str.ofString "_law_figures", .ref 302)]) rfl (by decide) (fun p hp => ?_)) (fun i acc led fz2 => acc = (B.us.take i).map (fun n => PV.str (T (dg n))) ∧ led = [] ∧ fz2 = (D, AO.list (B.us.map fun n : Nat => .int (n : Int))) :: fz') ?_ ?_ ?_ ?_ ?_
    · rw [cK, List.mem_singleton.mp hp]; exact g__law_figures
    · repeat' walk_at "ST"
      exact itb_list (.head _) (.inl ⟨_, _, rfl⟩)
    · rw [List.length_map, hmm]; omega
    · exact ⟨rfl, rfl, rfl⟩
    · intro c' S i acc loc led fz2 y hy ⟨e1, e2, e3⟩ hl'
      subst e1; subst e2; subst e3
      rw [List.map_map, List.getElem?_map] at hy
      obtain ⟨n, hn, rfl⟩ := Option.map_eq_some_iff.mp hy
      obtain ⟨u, rfl⟩ := one_of hl'
      have cN' : c'.names = [Str.ofString "uid"] := S.names
      have cG' : c'.gl = _ := S.gl
      show Tgt _ _ _ _ _
      refine tg_name cN' .head (tests_nil (wt ?_))
      repeat' walk_at "ST"
      refine ⟨keepK (S.K.trans cK) k302, ?_⟩
      repeat' walk_at "ST"
      refine wc_val (figures_spec (prog := prog) (w := w) (n := n) (hub n (List.mem_of_getElem? hn))) (S.K.trans cK) (S.prog.trans cp) (S.w.trans cw) (by rw [S.n, cn]; decide) ?_
      exact ⟨[], _, [], _, .nil, .nil, (take_map (fun n => PV.str (T (dg n))) hn).symm, rfl, rfl⟩
    · intro acc led fz2 D2 ⟨e1, e2, e3⟩
      subst e1; subst e2; subst e3
      rw [List.length_map, hmm, List.take_length]
      repeat' walk_at "ST"
      have hsp : sp = T [32] := by decide +kernel
      refine c_join (xs := B.us.map fun n => T (dg n)) (.led (by rw [List.map_map]; exact .head _)) (joinOK 100 (fun y hy => ?_) ?_) ?_
      · obtain ⟨n, hn', rfl⟩ := List.mem_map.mp hy
        rw [T_len]; exact dg_len (by decide) (hub n hn')
      · rw [List.length_map, show (Str.ofString " ").length = 1 by decide +kernel]; omega
      repeat' walk_at "ST"
      rw [show (!decide (told B.us = Str.join (Str.ofString " ") (B.us.map fun n => T (dg n)))) = false by rw [show told B.us = Str.join (Str.ofString " ") (B.us.map fun n => T (dg n)) from rfl]; simp]
      repeat' walk_at "ST"
      refine s_assign_swap cN ?_ (by walk_at "MEM") (by walk_at "MEM") (by decide) rfl rfl rfl rfl rfl
      refine w_tuple (l_cons (Wk.mono (Q := fun p σ => ∃ a x, p = .ref a ∧ σ = ⟨[some (.ref B.b), some (.ref D), some (.str (told B.us)), none, none, none, none], [(a, .list (B.us.map fun n => .str (T (dg n)))), (x, .list []), (D2, .list (B.us.map fun n => .str (T (dg n))))], (D, AO.list (B.us.map fun n : Nat => .int (n : Int))) :: fz'⟩) ?_ ?_))
      · repeat' walk_at "ST"
        cases hE : B.us with
        | nil =>
          refine wf ?_
          repeat' walk_at "ST"
          exact ⟨_, _, rfl, rfl⟩
        | cons n0 ns =>
          refine wt ?_
          repeat' walk_at "ST"
          refine m_split ⟨fun _ => trivial, ?_⟩
          repeat' walk_at "ST"
          have e1 : told (n0 :: ns) = T (JL [32] ((n0 :: ns).map dg)) := by unfold told; rw [hsp, ← join_T, List.map_map]; rfl
          have e2 : Txt.split (told (n0 :: ns)) (Str.ofString " ") = (n0 :: ns).map fun n => T (dg n) := by
            rw [e1, show Str.ofString " " = T [32] from hsp, split_join (by decide +kernel) (by simp) (fun p hp hm => ?_), List.map_map]; rfl
            obtain ⟨n, _, rfl⟩ := List.mem_map.mp hp
            have := dg_dig n _ hm; omega
          refine c_split1 (by decide +kernel) ?_ fun a => ?_
          · rw [← hE]; exact told_len (by omega) hub
          · rw [e2, List.map_map]
            exact ⟨a, _, rfl, rfl⟩
      · rintro p σ ⟨a, x, rfl, rfl⟩
        have hbl : (boxLines B).length = B.lts.length := by unfold boxLines; rw [List.length_map, List.length_range]
        have e4 : Str.ofString "\n" = T [10] := by decide +kernel
        have hBz : B.In ((D, AO.list (B.us.map fun n : Nat => .int (n : Int))) :: fz') := hB.sub fun q hq => .tail _ hq
        repeat' walk_at "ST"
        refine ⟨keepK cK k103, ?_⟩
        repeat' walk_at "ST"
        refine wc_spec (boxTold_spec (prog := prog) (w := w) hBz) cK cp cw (by rw [cn]; decide) .nil ?_
        rintro p mu fz4 ⟨rfl, hd, g1, g2, rfl⟩ hs4
        dsimp only [List.nil_append]
        refine m_split ⟨fun _ => trivial, ?_⟩
        repeat' walk_at "ST"
        rw [e4]
        have hfree : ∀ p ∈ hd :: boxLines B, 10 ∉ p := fun p hp => by
          rcases List.mem_cons.mp hp with rfl | hp
          · exact g1
          · unfold boxLines at hp
            obtain ⟨i, hi, rfl⟩ := List.mem_map.mp hp
            exact free10_line (fz := fz')
        have hsl := split_join (c := 10) (ys := []) (ps := hd :: boxLines B) (by decide +kernel) (by simp) hfree
        refine c_split1 (by rw [T_len]; rfl) (jl_len (B := 1000) (by rw [List.length_cons, hbl]; omega) (by decide) (fun p hp => ?_)) fun L0 => ?_
        · rcases List.mem_cons.mp hp with rfl | hp
          · exact g2
          · exact boxLines_len hB p hp
        rw [hsl]
        repeat' walk_at "ST"
        refine sl_list (lo := some 1) (hi := none) (a := 1) (b := (hd :: boxLines B).length) (.led (.head _)) rfl rfl (by rw [List.length_map, List.length_map, List.length_cons]; omega) (by rw [List.length_map, List.length_map, List.length_cons]; show min 1 _ = 1; omega) (by rw [List.length_map, List.length_map]; rfl) fun L => ?_
        have hdrop : (((List.map T (hd :: boxLines B)).map PV.str).drop 1).take ((hd :: boxLines B).length - 1) = (boxLines B).map fun y => PV.str (T y) := by
          rw [List.map_cons, List.map_cons, List.drop_succ_cons, List.drop_zero, List.map_map, List.length_cons, Nat.add_sub_cancel, List.take_of_length_le (by rw [List.length_map]; exact Nat.le_refl _)]; rfl
        rw [hdrop]
        repeat' walk_at "ST"
        rename_i tt
        refine ⟨tt, _, _, rfl, .led (.head _), ?_⟩
        refine put cN (by walk_at "PUT") (put cN (by walk_at "PUT") (seq_next ?_))
        refine Wk.conv (σ := ⟨_, _, _⟩) (mu' := []) (fr := [(L, .list ((boxLines B).map fun y => .str (T y))), (a, .list (B.us.map fun n => .str (T (dg n))))]) .nil (.cons (.tail .head) (.cons (.tail (.tail .head)) .nil)) ?_
        dsimp only [List.cons_append, List.nil_append]
        have hB5 : B.In ((L, .list ((boxLines B).map fun y => .str (T y))) :: (a, .list (B.us.map fun n => .str (T (dg n)))) :: fz4) := (hBz.sub hs4).sub fun q hq => .tail _ (.tail _ hq)
        have hD5 : (D, AO.list (B.us.map fun n : Nat => .int (n : Int))) ∈ ((L, AO.list ((boxLines B).map fun y => .str (T y))) :: (a, AO.list (B.us.map fun n => .str (T (dg n)))) :: fz4) := .tail _ (.tail _ (hs4 _ (.head _)))
        have hL5 : (L, AO.list ((boxLines B).map fun y => .str (T y))) ∈ ((L, AO.list ((boxLines B).map fun y => .str (T y))) :: (a, AO.list (B.us.map fun n => .str (T (dg n)))) :: fz4) := .head _
        have hW5 : (a, AO.list (B.us.map fun n => .str (T (dg n)))) ∈ ((L, AO.list ((boxLines B).map fun y => .str (T y))) :: (a, AO.list (B.us.map fun n => .str (T (dg n)))) :: fz4) := .tail _ (.head _)
        generalize ((L, AO.list ((boxLines B).map fun y => .str (T y))) :: (a, AO.list (B.us.map fun n => .str (T (dg n)))) :: fz4) = fz5 at hB5 hD5 hL5 hW5
        clear hs4 hBz h1 h2 h3 h4 h5
        obtain ⟨h1, h2, h3, h4, h5, -, -, -, -, -, -⟩ := id hB5
        have ew : (List.map (fun n => PV.str (T (dg n))) B.us).length = B.lts.length := by rw [List.length_map, hus]
        have eu : (List.map (fun n : Nat => PV.int (n : Int)) B.us).length = B.lts.length := by rw [List.length_map, hus]
        have el : (List.map (fun y => PV.str (T y)) (boxLines B)).length = B.lts.length := by rw [List.length_map, hbl]
        have nn : ((B.lts.length : Int) != (B.lts.length : Int)) = false := by simp
        refine s_cons ?_
        repeat' walk_at "ST"
        refine ⟨fun _ => trivial, ?_⟩
        repeat' walk_at "ST"
        refine c_len_list (by walk_at "LOOK") (by omega) ?_
        repeat' walk_at "ST"
        refine ⟨fun _ => trivial, ?_⟩
        repeat' walk_at "ST"
        refine c_len_list (by walk_at "LOOK") (by omega) ?_
        repeat' walk_at "ST"
        rw [ew, eu, nn]
        repeat' walk_at "ST"
        refine ⟨fun _ => trivial, ?_⟩
        repeat' walk_at "ST"
        refine c_len_list (by walk_at "LOOK") (by omega) ?_
        repeat' walk_at "ST"
        refine ⟨fun _ => trivial, ?_⟩
        repeat' walk_at "ST"
        refine c_len_list (by walk_at "LOOK") (by omega) ?_
        repeat' walk_at "ST"
        rw [el, eu, nn]
        repeat' walk_at "ST"
        refine s_for (items := (List.range B.lts.length).map fun i : Nat => .val (.int (i : Int))) (σ₁ := ⟨[some (.ref B.b), some (.ref D), some (.str (told B.us)), some (.ref a), some (.ref L), none, none], [], fz5⟩) (fun i σ => ∃ u1 u2 led, σ = ⟨[some (.ref B.b), some (.ref D), some (.str (told B.us)), some (.ref a), some (.ref L), u1, u2], led, fz5⟩) ?_ ⟨none, none, _, rfl⟩ ?_ ?_
        · repeat' walk_at "ST"
          refine ⟨fun _ => trivial, ?_⟩
          repeat' walk_at "ST"
          refine ⟨fun _ => trivial, ?_⟩
          repeat' walk_at "ST"
          refine c_len_list (by walk_at "LOOK") (by omega) ?_
          repeat' walk_at "ST"
          rw [eu]
          refine c_range fun r => ?_
          exact Itb.weak (σ₁ := ⟨_, _, _⟩) (itb_range (n := B.lts.length) (.led (.head _)) (by omega)) (.nil : Take _ [] _)
        · rintro c' Sb i σ₂ y hy ⟨u1, u2, led, rfl⟩
          have cN' : c'.names = _ := Sb.names.trans cN
          have cG' : c'.gl = _ := Sb.gl.trans cG
          have cK' := Sb.K.trans cK
          rw [List.getElem?_map] at hy
          obtain ⟨j, hj, rfl⟩ := Option.map_eq_some_iff.mp hy
          obtain ⟨hj1, hj2⟩ := List.getElem?_eq_some_iff.mp hj
          rw [List.length_range] at hj1
          rw [List.getElem_range] at hj2
          subst hj2
          obtain ⟨l, hl⟩ : ∃ l, B.lts[i]? = some l := ⟨_, List.getElem?_eq_getElem hj1⟩
          have hm := List.mem_of_getElem? hl
          have hg2 : B.lts.getD i ⟨0, 0, 0, 0, #[], 0⟩ = l := by rw [List.getD_eq_getElem?_getD, hl]; rfl
          have hb : (boxLines B)[i]? = some (lineL (i + 1) l) := by
            unfold boxLines
            rw [List.getElem?_map, List.getElem?_range hj1, Option.map_some, hg2]
          have hu : B.us[i]? = some l.uid.toNat := by unfold Bx.us; rw [List.getElem?_map, hl]; rfl
          obtain ⟨hm1, hm2⟩ := hit_dg hB5 hm
          have hdl : (dg l.uid.toNat).length ≤ 1000 := Nat.le_trans (dg_len (by decide) (hub _ (List.mem_of_getElem? hu))) (by decide)
          have e5 : Str.ofString ", " = T [44, 32] := by decide +kernel
          show Tgt _ _ _ _ _
          refine tg_name cN' (by walk_at "PUT") ?_
          refine s_cons ?_
          repeat' walk_at "ST"
          refine' sub_list (by walk_at "LOOK") (by omega) (by omega) (by rw [Int.toNat_natCast, List.getElem?_map, hb]; rfl) ?_ (by intro _ _; rfl)
          refine m_split ⟨fun _ => trivial, ?_⟩
          repeat' walk_at "ST"
          rw [e5]
          refine c_split1 (by rw [T_len]; rfl) (by rw [T_len]; exact Nat.le_trans (boxLines_len hB5 _ (List.mem_of_getElem? hb)) (by decide)) fun LL => ?_
          have hsp2 := split_join (c := 44) (ys := [32]) (ps := lineParts (i + 1) l) (by decide +kernel) (by unfold lineParts; simp) free44_parts
          rw [show Txt.split (T (lineL (i + 1) l)) (T [44, 32]) = (lineParts (i + 1) l).map T from hsp2]
          repeat' walk_at "ST"
          refine ⟨keepK cK' k302, ?_⟩
          repeat' walk_at "ST"
          refine wc_val (figures_spec (prog := prog) (w := w) (n := i + 1) (Nat.lt_of_le_of_lt (m := 20) (by omega) (by decide))) cK' (Sb.prog.trans cp) (Sb.w.trans cw) (by rw [Sb.n, cn]; decide) ?_
          try dsimp only [List.nil_append]
          repeat' walk_at "ST"
          rw [show (!decide (T (dg (i + 1)) = T (dg (i + 1)))) = false by simp]
          repeat' walk_at "ST"
          refine sl_str_to (by rw [T_len, List.length_append]; have := dg_len (k := 100) (by decide) (hub _ (List.mem_of_getElem? hu)); show 4 + _ ≤ _; omega) ?_
          rw [show Txt.slice (T (uidL ++ dg l.uid.toNat)) none (some 4) = T uidL from slice_to_T _ 4]
          repeat' walk_at "ST"
          rw [show (!decide (T uidL = Str.ofString "uid ")) = false by decide +kernel]
          repeat' walk_at "ST"
          refine ⟨keepK cK' k110, ?_⟩
          repeat' walk_at "ST"
          refine' sub_list (by walk_at "LOOK") (by omega) (by omega) (by rw [Int.toNat_natCast, List.getElem?_map, hu]; rfl) ?_ (by intro _ _; rfl)
          repeat' walk_at "ST"
          refine wc_specX (H := fun _ _ => False) (letterIn_spec (prog := prog) (w := w) (l := dg l.uid.toNat) hB5 hdl) cK' (Sb.prog.trans cp) (Sb.w.trans cw) (by rw [Sb.n, cn]; decide) (fun _ _ _ _ _ h => h.elim) (fun C h => hm1 h.2) ?_ (fun _ _ _ h => h.2.1)
          rintro p fz7 ⟨rfl, _, hhit⟩ _
          rw [hm2 p hhit]
          repeat' walk_at "ST"
          refine a_inst cK' R184 n184_letters (by walk_at "LOOK") (by walk_at "LOOK") (by rfl) rfl ?_
          repeat' walk_at "ST"
          refine' sub_list (by walk_at "LOOK") (by omega) (by omega) (by rw [Int.toNat_natCast]; exact Bx.get hl) ?_ (by intro _ _; rfl)
          refine b_isnot_self ?_
          repeat' walk_at "ST"
          refine ⟨keepK cK' k110, ?_⟩
          repeat' walk_at "ST"
          refine sl_str_from (by rw [T_len, List.length_append]; have := dg_len (k := 100) (by decide) (hub _ (List.mem_of_getElem? hu)); show 4 + _ ≤ _; omega) ?_
          rw [show Txt.slice (T (uidL ++ dg l.uid.toNat)) (some 4) none = T (dg l.uid.toNat) from slice_from_T _ 4]
          repeat' walk_at "ST"
          refine wc_specX (H := fun _ _ => False) (letterIn_spec (prog := prog) (w := w) (l := dg l.uid.toNat) hB5 hdl) cK' (Sb.prog.trans cp) (Sb.w.trans cw) (by rw [Sb.n, cn]; decide) (fun _ _ _ _ _ h => h.elim) (fun C h => hm1 h.2) ?_ (fun _ _ _ h => h.2.1)
          rintro p fz8 ⟨rfl, _, hhit2⟩ _
          rw [hm2 p hhit2]
          repeat' walk_at "ST"
          refine a_inst cK' R184 n184_letters (by walk_at "LOOK") (by walk_at "LOOK") (by rfl) rfl ?_
          repeat' walk_at "ST"
          refine' sub_list (by walk_at "LOOK") (by omega) (by omega) (by rw [Int.toNat_natCast]; exact Bx.get hl) ?_ (by intro _ _; rfl)
          refine b_isnot_self ?_
          repeat' walk_at "ST"
          exact ⟨_, _, _, rfl⟩
        · rintro σ₂ ⟨u1, u2, led, rfl⟩
          repeat' walk_at "ST"
          exact ⟨[], _, [], _, .nil, .nil, rfl, rfl⟩
end
section
set_option maxRecDepth 100000
set_option maxHeartbeats 8000000
set_option linter.unusedVariables false
/-! what is told of the store -/
noncomputable def LtTold (fz : List (Addr × AO)) (l : Lt) (p : PV) : Prop := ∃ t, p = .ref t ∧ (t, AO.tuple [.int l.uid, .bytes l.oct, .ref l.fl, .int 0, .int l.mod]) ∈ fz
theorem letterTold_spec {prog : Program} {w : World} {fz : List (Addr × AO)} {l : Lt} (hl : l.In fz) :
    Spec K prog w 0 143 [.ref l.x] [] fz (fun p mu fz' => mu = [] ∧ LtTold fz' l p) := by
  refine enter F12 (by rfl) ?_
  intro c cK cn cp cw cN cG cC cS cF
  replace cN : c.names = _ := cN
  replace cG : c.gl = _ := cG
  show Wk c PF.Is _ _ ⟨[some (.ref l.x)], _, fz⟩
  obtain ⟨h1, h2, h3, h4, h5⟩ := id hl
  refine s_cons ?_
  repeat' walk_at "ST"
  refine a_inst cK R146 n146_uid (by walk_at "LOOK") (by walk_at "LOOK") (by rfl) rfl ?_
  repeat' walk_at "ST"
  refine a_inst cK R146 n146_octets (by walk_at "LOOK") (by walk_at "LOOK") (by rfl) rfl ?_
  repeat' walk_at "ST"
  refine a_inst cK R146 n146_flags (by walk_at "LOOK") (by walk_at "LOOK") (by rfl) rfl ?_
  repeat' walk_at "ST"
  refine a_inst cK R146 n146_instant (by walk_at "LOOK") (by walk_at "LOOK") (by rfl) rfl ?_
  repeat' walk_at "ST"
  refine a_inst cK R146 n146_modseq (by walk_at "LOOK") (by walk_at "LOOK") (by rfl) rfl ?_
  repeat' walk_at "ST"
  exact ⟨[], _, _, _, .nil, .cons .head .nil, rfl, _, rfl, .head _⟩
theorem LtTold.sub {fz fz' : List (Addr × AO)} {l : Lt} {p : PV} (h : LtTold fz l p) (k : ∀ q ∈ fz, q ∈ fz') : LtTold fz' l p := let ⟨t, e, m⟩ := h; ⟨t, e, k _ m⟩
/-- the letters' tuples, in order -/
inductive LtsTold (fz : List (Addr × AO)) : List Lt → List PV → Prop
  | nil : LtsTold fz [] []
  | cons {l p ls ps} : LtTold fz l p → LtsTold fz ls ps → LtsTold fz (l :: ls) (p :: ps)
theorem LtsTold.sub {fz fz' : List (Addr × AO)} {ls : List Lt} {ps : List PV} (h : LtsTold fz ls ps) (k : ∀ q ∈ fz, q ∈ fz') : LtsTold fz' ls ps := by
  induction h with
  | nil => exact .nil
  | cons a _ ih => exact .cons (a.sub k) ih
theorem LtsTold.snoc {fz : List (Addr × AO)} {ls : List Lt} {ps : List PV} {l : Lt} {p : PV} (h : LtsTold fz ls ps) (h1 : LtTold fz l p) : LtsTold fz (ls ++ [l]) (ps ++ [p]) := by
  induction h with
  | nil => exact .cons h1 .nil
  | cons a _ ih => exact .cons a ih
theorem LtsTold.length {fz : List (Addr × AO)} {ls : List Lt} {ps : List PV} (h : LtsTold fz ls ps) : ps.length = ls.length := by
  induction h with
  | nil => rfl
  | cons a _ ih => rw [List.length_cons, List.length_cons, ih]
noncomputable def BxTold (fz : List (Addr × AO)) (B : Bx) (p : PV) : Prop := ∃ t tl tg ps, p = .ref t ∧ (t, AO.tuple [.str B.nm, .int B.v, .int B.nx, .int 1, .int 0, .ref tl, .ref tg]) ∈ fz ∧ (tl, AO.tuple ps) ∈ fz ∧ (tg, AO.tuple []) ∈ fz ∧ LtsTold fz B.lts ps
theorem BxTold.sub {fz fz' : List (Addr × AO)} {B : Bx} {p : PV} (h : BxTold fz B p) (k : ∀ q ∈ fz, q ∈ fz') : BxTold fz' B p := let ⟨t, tl, tg, ps, e, m1, m2, m3, m4⟩ := h; ⟨t, tl, tg, ps, e, k _ m1, k _ m2, k _ m3, m4.sub k⟩
theorem boxTup_spec {prog : Program} {w : World} {fz : List (Addr × AO)} {B : Bx} (hB : B.In fz) :
    Spec K prog w 1 181 [.ref B.b] [] fz (fun p mu fz' => mu = [] ∧ BxTold fz' B p) := by
  refine enter F16 (by rfl) ?_
  intro c cK cn cp cw cN cG cC cS cF
  replace cN : c.names = _ := cN
  replace cG : c.gl = _ := cG
  show Wk c PF.Is _ _ ⟨[some (.ref B.b), none], _, fz⟩
  obtain ⟨h1, h2, h3, h4, h5, h6, h7, h8, h9, h10, h11⟩ := id hB
  refine s_cons ?_
  repeat' walk_at "ST"
  refine ⟨fun _ => trivial, ?_⟩
  repeat' walk_at "ST"
  refine w_comp (items := B.refs.map .val) (σ₁ := ⟨[some (.ref B.b), none], [], fz⟩) (compOK (cn := [Str.ofString "letter"]) (gl := []) rfl (by decide) noGl) (fun i acc led fz' => (∀ q ∈ fz, q ∈ fz') ∧ led = [] ∧ LtsTold fz' (B.lts.take i) acc) ?_ ?_ ?_ ?_ ?_
  · repeat' walk_at "ST"
    refine a_inst cK R184 n184_letters (by walk_at "LOOK") (by walk_at "LOOK") (by rfl) rfl ?_
    exact itb_list h3 (.inl ⟨_, _, rfl⟩)
  · rw [List.length_map]; unfold Bx.refs; rw [List.length_map]; omega
  · exact ⟨fun q hq => hq, rfl, .nil⟩
  · intro c' S i acc loc led fz' y hy ⟨e1, e2, e3⟩ hl'
    subst e2
    unfold Bx.refs at hy
    rw [List.map_map, List.getElem?_map] at hy
    obtain ⟨l, hl, rfl⟩ := Option.map_eq_some_iff.mp hy
    obtain ⟨u, rfl⟩ := one_of hl'
    have cN' : c'.names = [Str.ofString "letter"] := S.names
    have hm := List.mem_of_getElem? hl
    have hL := (h5 l hm).sub e1
    obtain ⟨l1, l2, l3, l4, l5⟩ := id hL
    show Tgt _ _ _ _ _
    refine tg_name cN' .head (tests_nil (wt ?_))
    repeat' walk_at "ST"
    refine m_inst (S.K.trans cK) R146 m146_told i143 (by walk_at "LOOK") (by walk_at "LOOK") (by rfl) ⟨keepK (S.K.trans cK) k143, ?_⟩
    repeat' walk_at "ST"
    refine wc_spec (letterTold_spec (prog := prog) (w := w) hL) (S.K.trans cK) (S.prog.trans cp) (S.w.trans cw) (by rw [S.n, cn]; decide) .nil ?_
    rintro p mu fz'' ⟨rfl, hp⟩ hs
    refine ⟨[], _, [], _, .nil, .nil, fun q hq => hs q (e1 q hq), rfl, ?_⟩
    rw [List.take_add_one, hl]
    exact (e3.sub hs).snoc hp
  · intro acc led fz' D ⟨e1, e2, e3⟩
    subst e2
    have e0 : (B.lts.take (B.refs.map Itm.val).length) = B.lts := by
      rw [List.length_map]; unfold Bx.refs; rw [List.length_map, List.take_length]
    rw [e0] at e3
    have hl := e3.length
    obtain ⟨g1, g2, g3, g4, -, -, -, -, -, -, -⟩ := id (hB.sub e1)
    repeat' walk_at "ST"
    refine c_tuple_list (xs := acc) (by exact .led (.head _)) (by omega) fun tl => ?_
    repeat' walk_at "ST"
    refine a_inst cK R184 n184_name (by walk_at "LOOK") (by walk_at "LOOK") (by rfl) rfl ?_
    repeat' walk_at "ST"
    refine a_inst cK R184 n184_validity (by walk_at "LOOK") (by walk_at "LOOK") (by rfl) rfl ?_
    repeat' walk_at "ST"
    refine a_inst cK R184 n184_next_uid (by walk_at "LOOK") (by walk_at "LOOK") (by rfl) rfl ?_
    repeat' walk_at "ST"
    refine a_inst cK R184 n184_top (by walk_at "LOOK") (by walk_at "LOOK") (by rfl) rfl ?_
    repeat' walk_at "ST"
    refine a_inst cK R184 n184_floor (by walk_at "LOOK") (by walk_at "LOOK") (by rfl) rfl ?_
    repeat' walk_at "ST"
    refine ⟨fun _ => trivial, ?_⟩
    repeat' walk_at "ST"
    refine a_inst cK R184 n184_gone (by walk_at "LOOK") (by walk_at "LOOK") (by rfl) rfl ?_
    repeat' walk_at "ST"
    refine c_tuple_list (xs := []) (by exact .fz g4) (Nat.zero_le _) fun tg => ?_
    repeat' walk_at "ST"
    rename_i t
    refine ⟨[], _, _, _, .nil, takeAll _, rfl, t, tl, tg, acc, rfl, .head _, by walk_at "FZ", .tail _ (.head _), e3.sub fun q hq => ?_⟩
    exact List.mem_append_right _ hq
end
section
set_option maxRecDepth 100000
set_option maxHeartbeats 8000000
set_option linter.unusedVariables false
theorem storeInit_spec {prog : Program} {w : World} {fz : List (Addr × AO)} (x dx : Addr) :
    Spec K prog w 2 228 [.ref x] [(x, .inst 257 dx), (dx, .dict [])] fz (fun p mu fz' => p = .none ∧ ∃ bd sb b0, mu = [(sb, .list []), (bd, .dict [(Str.ofString "INBOX", .ref b0)]), (x, .inst 257 dx), (dx, .dict (stDict bd sb))] ∧ (bd == sysModules) = false) := by
  refine enter F21 (by rfl) ?_
  intro c cK cn cp cw cN cG cC cS cF
  replace cN : c.names = _ := cN
  replace cG : c.gl = _ := cG
  show Wk c PF.Is _ _ ⟨[some (.ref x)], _, fz⟩
  refine s_cons ?_
  repeat' walk_at "ST"
  refine w_dict1 fun bd hbd => ?_
  repeat' walk_at "ST"
  refine ⟨_, rfl, ?_⟩
  repeat' walk_at "ST"
  refine ⟨keepK cK k184, ?_⟩
  repeat' walk_at "ST"
  refine wc_make M184 (fun y dy => boxInit_spec (prog := prog) (w := w) (fz := fz) y dy) cK cp cw (by rw [cn]; decide) .nil (fun _ _ _ _ _ h => h.2.1) ?_
  rintro b0 d0 mu fz' ⟨rfl, _, ls, gn, rfl⟩ _
  dsimp only [List.cons_append, List.nil_append]
  refine ⟨_, by walk_at "UP", ?_⟩
  repeat' walk_at "ST"
  refine' sa_to [(Str.ofString "boxes", .ref bd)] cK S257 n257_boxes (by walk_at "LOOK") (by walk_at "UP") (by kernel_rfl) (Nat.le_of_ble_eq_true rfl) ?_
  repeat' walk_at "ST"
  rename_i sb
  refine' sa_to [(Str.ofString "boxes", .ref bd), (Str.ofString "subscribed", .ref sb)] cK S257 n257_subscribed (by walk_at "LOOK") (by walk_at "UP") (by kernel_rfl) (Nat.le_of_ble_eq_true rfl) ?_
  repeat' walk_at "ST"
  refine' sa_to (stDict bd sb) cK S257 n257_next_validity (by walk_at "LOOK") (by walk_at "UP") (by kernel_rfl) (Nat.le_of_ble_eq_true rfl) ?_
  repeat' walk_at "ST"
  exact ⟨_, _, [], _, .cons .head (.cons (.tail (.tail (.tail (.tail .head)))) (.cons (.tail (.tail (.tail (.tail .head)))) (.cons (.tail (.tail (.tail (.tail .head)))) .nil))), .nil, rfl, bd, sb, b0, rfl, hbd⟩

theorem names_spec {prog : Program} {w : World} {fz : List (Addr × AO)} {S : Sx} (hS : S.In fz) (hl : S.bxs.length ≤ 10) :
    Spec K prog w 0 249 [.ref S.st] [] fz (fun p mu fz' => mu = [] ∧ ∃ a ys, p = .ref a ∧ (a, AO.list (ys.map .str)) ∈ fz' ∧ ys.Perm (S.bxs.map (·.1)) ∧ sortedS ys = true) := by
  refine enter F24 (by rfl) ?_
  intro c cK cn cp cw cN cG cC cS cF
  replace cN : c.names = _ := cN
  replace cG : c.gl = _ := cG
  show Wk c PF.Is _ _ ⟨[some (.ref S.st)], _, fz⟩
  obtain ⟨h1, h2, h3, h4, h5, h6, h7⟩ := id hS
  refine s_cons ?_
  repeat' walk_at "ST"
  refine ⟨fun _ => trivial, ?_⟩
  repeat' walk_at "ST"
  refine ⟨fun _ => trivial, ?_⟩
  repeat' walk_at "ST"
  refine a_inst cK R257 n257_boxes (by walk_at "LOOK") (by walk_at "LOOK") (by rfl) rfl ?_
  repeat' walk_at "ST"
  refine c_list_dict (es := S.es) (by exact .fz h3) h6 h7 (by unfold Sx.es; rw [List.length_map]; omega) fun a => ?_
  repeat' walk_at "ST"
  have e : (S.es.map fun e => PV.str e.1) = (S.bxs.map (·.1)).map .str := by unfold Sx.es; rw [List.map_map, List.map_map]; rfl
  rw [e]
  refine c_sorted (xs := S.bxs.map (·.1)) (by exact .led (.head _)) (by rw [List.length_map]; omega) fun d ys hp hs => ?_
  repeat' walk_at "ST"
  exact ⟨[], _, _, _, .nil, .cons .head .nil, rfl, d, ys, rfl, .head _, hp, hs⟩

theorem takeBut {x : Addr × AO} : ∀ (l : List (Addr × AO)), Take (x :: l) l [x]
  | [] => .nil
  | _ :: r => .cons (.tail .head) (takeBut r)
/-- the urn is made of a script -/
theorem urn_spec {prog : Program} {w : World} {fz : List (Addr × AO)} {a : Addr} {ns : List Int} (ha : (a, AO.list (ns.map .int)) ∈ fz) (hl : ns.length ≤ 100000) :
    Spec K prog w 0 266 [.ref a] [] fz (fun p mu fz' => ∃ (cells : List Int) (s : Int) (u cs : Addr), p = .ref u ∧ mu = [(u, .list [.ref cs, .int 0, .int 0, .int s]), (cs, .list (cells.map .int))] ∧ cells.length ≤ 40 ∧ (∀ x ∈ cells, 0 ≤ x ∧ x < 10 ^ 60) ∧ 0 ≤ s ∧ s ≤ 100000) := by
  refine enter F26 (by rfl) ?_
  intro c cK cn cp cw cN cG cC cS cF
  replace cN : c.names = _ := cN
  replace cG : c.gl = _ := cG
  show Wk c PF.Is _ _ ⟨[some (.ref a), none], _, fz⟩
  have hk : (ns.map PV.int).length = ns.length := List.length_map ..
  have ht : (((ns.map PV.int).drop 0).take (min 40 ns.length - 0)) = (ns.take 40).map .int := by
    rw [List.drop_zero, Nat.sub_zero, ← List.map_take]
    congr 1
    by_cases h : 40 ≤ ns.length
    · rw [Nat.min_eq_left h]
    · rw [Nat.min_eq_right (by omega), List.take_of_length_le (Nat.le_refl _), List.take_of_length_le (by omega)]
  have h40 : (ns.take 40).length ≤ 40 := List.length_take_le ..
  have hm : ((ns.take 40).map PV.int).length = (ns.take 40).length := List.length_map ..
  have iter : ∀ (loc : List (Option PV)) (led : List (Addr × AO)) (d : Addr) (x : Str) (px : Pos), Itb c (.ref d) (((ns.take 40).map PV.int).map .val) (.Name x px) ⟨loc, led, fz⟩ ⟨loc, (d, .list ((ns.take 40).map .int)) :: led, fz⟩ := fun loc led d x px =>
    Itb.thaw (σ₁ := ⟨loc, led, (d, .list ((ns.take 40).map .int)) :: fz⟩) (Itb.conv (σ := ⟨loc, _, fz⟩) (mu' := led) (rem := [(d, .list ((ns.take 40).map .int))]) (fr := [(d, .list ((ns.take 40).map .int))]) (rest := []) (takeBut led) (.cons .head .nil) (itb_list (.head _) (.inl ⟨_, _, rfl⟩))) cF fun q hq => .tail _ hq
  refine s_cons (Wk.ok fun O => ?_)
  refine s_assign_comp (items := ((ns.take 40).map PV.int).map .val) (σ₁ := ⟨[some (.ref a), none], [], fz⟩) (compOK (cn := [Str.ofString "cell"]) (gl := [(Str.ofString "abs", .builtin "abs"), (Str.ofString "int", .type "int")]) rfl (by decide) (fun p hp => ?_)) (fun i acc led fz' => ∃ cells : List Int, acc = cells.map .int ∧ cells.length = i ∧ (∀ x ∈ cells, 0 ≤ x ∧ x < 10 ^ 60) ∧ led = [] ∧ fz' = fz) ?_ ?_ ?_ ?_ ?_ (swapT O (by rw [cN]; walk_at "MEM") rfl rfl)
  · rw [cK]
    rcases List.mem_cons.mp hp with rfl | hp
    · exact g_abs
    · rw [List.mem_singleton.mp hp]; exact g_int
  · repeat' walk_at "ST"
    refine sl_list (lo := none) (hi := some 40) (a := 0) (b := min 40 ns.length) (by exact .fz ha) rfl rfl (by omega) rfl (by rw [hk]; rfl) fun d => ?_
    rw [ht]
    exact iter _ _ _ _ _
  · rw [List.length_map, hm]; omega
  · exact ⟨[], rfl, rfl, fun x hx => (nomatch hx), rfl, rfl⟩
  · rintro c' S i acc loc led fz' y hy ⟨cells, e1, e2, e3, e4, e5⟩ hl'
    subst e1; subst e4; subst e5
    rw [List.map_map, List.getElem?_map] at hy
    obtain ⟨n, hn, rfl⟩ := Option.map_eq_some_iff.mp hy
    obtain ⟨u, rfl⟩ := one_of hl'
    have cN' : c'.names = [Str.ofString "cell"] := S.names
    have cG' : c'.gl = _ := S.gl
    show Tgt _ _ _ _ _
    refine tg_name cN' .head (tests_nil (wt ?_))
    repeat' walk_at "ST"
    refine ⟨fun _ => trivial, ?_⟩
    repeat' walk_at "ST"
    refine ⟨fun _ => trivial, ?_⟩
    repeat' walk_at "ST"
    refine c_int_int ?_
    repeat' walk_at "ST"
    refine c_abs ?_
    repeat' walk_at "ST"
    refine b_pow_int (by decide) (by decide +kernel) ?_
    have h10 : (10 : Int) ^ (60 : Int).toNat = 10 ^ 60 := rfl
    rw [h10]
    refine b_mod_int (by decide +kernel) ?_
    have hp : (0 : Int) < 10 ^ 60 := by decide +kernel
    refine ⟨[], _, [], _, .nil, .nil, cells ++ [(if n < 0 then -n else n).fmod (10 ^ 60)], by rw [List.map_append]; rfl, by rw [List.length_append, e2]; rfl, fun x hx => ?_, rfl, rfl⟩
    rcases List.mem_append.mp hx with hx | hx
    · exact e3 x hx
    · rw [List.mem_singleton.mp hx]
      exact ⟨Int.fmod_nonneg_of_pos _ hp, Int.fmod_lt_of_pos _ hp⟩
  · rintro acc led fz' D ⟨cells, e1, e2, e3, e4, e5⟩
    subst e1; subst e4; subst e5
    rw [List.length_map, hm] at e2
    refine put cN (by walk_at "PUT") (seq_next ?_)
    repeat' walk_at "ST"
    refine ⟨fun _ => trivial, ?_⟩
    repeat' walk_at "ST"
    refine w_comp (items := ((ns.take 40).map PV.int).map .val) (σ₁ := ⟨[some (.ref a), some (.ref D)], [(D, .list (cells.map .int))], fz'⟩) (compOK (cn := [Str.ofString "cell"]) (gl := [(Str.ofString "int", .type "int")]) rfl (by decide) (fun p hp => ?_)) (fun i acc led fz2 => ∃ ms : List Int, acc = ms.map .int ∧ ms.length = i ∧ 0 ≤ ms.sum ∧ ms.sum ≤ 1009 * i ∧ led = [(D, .list (cells.map .int))] ∧ fz2 = fz') ?_ ?_ ?_ ?_ ?_
    · rw [cK, List.mem_singleton.mp hp]; exact g_int
    · repeat' walk_at "ST"
      refine sl_list (lo := none) (hi := some 40) (a := 0) (b := min 40 ns.length) (by exact .fz ha) rfl rfl (by omega) rfl (by rw [hk]; rfl) fun d => ?_
      rw [ht]
      exact iter _ _ _ _ _
    · rw [List.length_map, hm]; omega
    · exact ⟨[], rfl, rfl, Int.le_refl _, by simp, rfl, rfl⟩
    · rintro c' S i acc loc led fz2 y hy ⟨ms, e1, e6, e7, e8, e4, e5⟩ hl'
      subst e1; subst e4; subst e5
      rw [List.map_map, List.getElem?_map] at hy
      obtain ⟨n, hn, rfl⟩ := Option.map_eq_some_iff.mp hy
      obtain ⟨u, rfl⟩ := one_of hl'
      have cN' : c'.names = [Str.ofString "cell"] := S.names
      have cG' : c'.gl = _ := S.gl
      show Tgt _ _ _ _ _
      refine tg_name cN' .head (tests_nil (wt ?_))
      repeat' walk_at "ST"
      refine ⟨fun _ => trivial, ?_⟩
      repeat' walk_at "ST"
      refine c_int_int ?_
      repeat' walk_at "ST"
      have hp : (0 : Int) < 1009 := by decide
      have f1 := Int.fmod_nonneg_of_pos n hp
      have f2 := Int.fmod_lt_of_pos n hp
      refine ⟨[(D, .list (cells.map .int))], _, [], _, .cons .head .nil, .nil, ms ++ [n.fmod 1009], by rw [List.map_append]; rfl, by rw [List.length_append, e6]; rfl, ?_, ?_, rfl, rfl⟩
      · rw [List.sum_append, List.sum_singleton]; omega
      · rw [List.sum_append, List.sum_singleton]; omega
    · rintro acc led fz2 D2 ⟨ms, e1, e6, e7, e8, e4, e5⟩
      subst e1; subst e4; subst e5
      rw [List.length_map, hm] at e6 e8
      repeat' walk_at "ST"
      refine c_sum (ns := ms) (by exact .led (.head _)) ?_
      repeat' walk_at "ST"
      rename_i u
      exact ⟨_, _, [], _, .cons .head (.cons (.tail .head) .nil), .nil, cells, ms.sum, u, D, rfl, rfl, by omega, e3, e7, by omega⟩
end
section
set_option maxRecDepth 100000
set_option maxHeartbeats 8000000
set_option linter.unusedVariables false
theorem ty_append : typeOf (.builtin "list.append") = pure (.type "method_descriptor") := by show builtinType _ = _; rw [builtinType_eq_fast]; kernel_rfl
theorem b_mul_x {c : Cx} {σ : St} {Q : PV → St → Prop} {n : Int} (h0 : 0 ≤ n) (h1 : n ≤ 1000) (h : Q (.bytes (List.replicate n.toNat (120 : UInt8)).toArray) σ) : WB c (binaryOp .Mult) (.bytes [(120 : UInt8)].toArray) (.int n) Q σ := WB.atom h fun _ _ ⟨_, e1⟩ ⟨_, e2⟩ _ _ _ k => by
  subst e1; subst e2
  refine bytes_mul_any (b := [120]) (by simp) (by omega) (by omega) (by decide) fun t' tk => k _ _ ⟨t', ?_⟩
  congr 2
  induction n.toNat with
  | zero => rfl
  | succ m ih => rw [List.replicate_succ, List.replicate_succ, List.flatten_cons, ← ih]; rfl
theorem WCall.conv {c : Cx} {σ : St} {Q : PV → St → Prop} {f : PV} {ps : List PV} {mu' rem fr rest : List (Addr × AO)} (h1 : Take σ.led mu' rem) (h2 : Take rem fr rest) (k : WCall c f ps Q ⟨σ.loc, mu', fr ++ σ.fz⟩) : WCall c f ps Q σ :=
  fun fv vs hf ha => Wk.conv h1 h2 (k fv vs hf ha)
theorem remMid {x : Addr × AO} {l : List (Addr × AO)} : ∀ a : List (Addr × AO), Rem (a ++ x :: l) x (a ++ l)
  | [] => .head
  | _ :: r => .tail (remMid r)
theorem takeBehind (a : List (Addr × AO)) : ∀ l : List (Addr × AO), Take (a ++ l) l a
  | [] => by rw [List.append_nil]; exact .nil
  | _ :: r => .cons (remMid a) (takeBehind a r)
noncomputable abbrev lastLed (last : Option Lt) : List (Addr × AO) := match last with
  | none => []
  | some l => [(l.x, .inst 146 l.dx), (l.dx, .dict (ltDict l.uid l.oct l.fl l.mod))]
noncomputable abbrev bxLed (b db ls gn : Addr) (nm : Str) (v nx : Int) (lts : List Lt) : List (Addr × AO) := [(b, .inst 184 db), (db, .dict (bxDict nm v nx ls gn)), (ls, .list (lts.map fun l => .ref l.x)), (gn, .list [])]
structure BInv (fzc : List (Addr × AO)) (prev : List Lt) (last : Option Lt) (uid : Int) (i : Nat) : Prop where
  pin : ∀ l ∈ prev, l.In fzc
  lin : ∀ l, last = some l → (l.fl, AO.tuple [.str (Str.ofString "work")]) ∈ fzc ∧ l.oct.size ≤ 1000 ∧ 0 ≤ l.mod ∧ l.mod ≤ 1000
  up : (prev ++ last.toList).Pairwise fun a b => a.uid < b.uid
  pos : ∀ l ∈ prev ++ last.toList, 0 < l.uid ∧ l.uid ≤ uid
  lo : 1 ≤ uid
  hi : uid ≤ 1 + 4 * i
  len : (prev ++ last.toList).length = i
  emp : last = none → prev = []
theorem lawBox_spec {prog : Program} {w : World} {fz : List (Addr × AO)} {urn cs : Addr} {u : Urn} {B : Int} {nm : Str} (hu : UrnOK B u) (hB : B ≤ 900000) (hnm : nm.length ≤ 100 ∧ 10 ∉ nm.cps.toList) :
    Spec K prog w 2 295 [.ref urn, .str nm] (UrnLed urn cs u) fz (fun p mu fz' => ∃ (u' : Urn) (X : Bx), p = .ref X.b ∧ mu = UrnLed urn cs u' ∧ UrnOK (B + 30) u' ∧ X.In fz' ∧ X.nm = nm) := by
  refine enter F28 (by rfl) ?_
  intro c cK cn cp cw cN cG cC cS cF
  replace cN : c.names = _ := cN
  replace cG : c.gl = _ := cG
  show Wk c PF.Is _ _ ⟨[some (.ref urn), some (.str nm), none, none, none], UrnLed urn cs u, fz⟩
  refine s_cons (s_assign_swap cN ?_ (by walk_at "MEM") (by walk_at "MEM") (by decide) rfl rfl rfl rfl rfl)
  repeat' walk_at "ST"
  refine ⟨keepK cK k184, ?_⟩
  repeat' walk_at "ST"
  refine ⟨keepK cK k273, ?_⟩
  repeat' walk_at "ST"
  refine wc_pull (many := 9) hu (by omega) (by decide) cK (by rw [cn]; decide) (takeAll _) fun d u1 d0 d1 hu1 => ?_
  rw [List.append_nil]
  repeat' walk_at "ST"
  refine wc_make M184 (fun y dy => boxInit_spec (prog := prog) (w := w) (fz := fz) y dy) cK cp cw (by rw [cn]; decide) .nil (fun _ _ _ _ _ h => h.2.1) ?_
  rintro b db mu fz2 ⟨rfl, _, ls, gn, rfl⟩ _
  repeat' walk_at "ST"
  rename_i t
  refine ⟨t, _, _, rfl, .led (.head _), ?_⟩
  refine put cN (by walk_at "PUT") (put cN (by walk_at "PUT") (seq_next ?_))
  dsimp only [List.cons_append, List.nil_append]
  refine Wk.conv (σ := ⟨_, _, _⟩) (mu' := UrnLed urn cs u1 ++ bxLed b db ls gn nm (2 + d) 1 []) (fr := []) (.cons (.tail (.tail (.tail (.tail (.tail .head))))) (.cons (.tail (.tail (.tail (.tail (.tail .head))))) (.cons (.tail (.tail (.tail .head))) (.cons (.tail (.tail (.tail .head))) (.cons (.tail (.tail .head)) (.cons (.tail .head) .nil)))))) .nil ?_
  dsimp only [List.nil_append]
  refine s_cons (Wk.mono (Q := fun pf σ => pf = .next ∧ ∃ (u2 : Urn) (fzc : List (Addr × AO)) (prev : List Lt) (last : Option Lt) (uid : Int) (x : Option PV) (i : Nat), σ = ⟨[some (.ref urn), some (.str nm), some (.ref b), some (.int uid), x], lastLed last ++ (UrnLed urn cs u2 ++ bxLed b db ls gn nm (2 + d) 1 (prev ++ last.toList)), fzc⟩ ∧ UrnOK (B + 2 + 2 * i) u2 ∧ i ≤ 6 ∧ (∀ q ∈ fz2, q ∈ fzc) ∧ BInv fzc prev last uid i) ?_ ?_)
  · refine s_forX (Wk.mono (Q := fun p σ => ∃ (n : Nat) (r : Addr) (u2 : Urn), n ≤ 6 ∧ p = .ref r ∧ UrnOK (B + 2) u2 ∧ σ = ⟨[some (.ref urn), some (.str nm), some (.ref b), some (.int 1), none], (r, .range 0 n) :: (UrnLed urn cs u2 ++ bxLed b db ls gn nm (2 + d) 1 []), fz2⟩) ?_ ?_)
    · repeat' walk_at "ST"
      refine ⟨fun _ => trivial, ?_⟩
      repeat' walk_at "ST"
      refine ⟨keepK cK k273, ?_⟩
      repeat' walk_at "ST"
      refine wc_pull (many := 6) hu1 (by omega) (by decide) cK (by rw [cn]; decide) (.cons .head (.cons .head .nil)) fun d2 u2 e0 e1 hu2 => ?_
      dsimp only [List.cons_append, List.nil_append, UrnLed]
      repeat' walk_at "ST"
      refine wite (fun h => ?_) (fun h => ?_)
      · repeat' walk_at "ST"
        refine c_range fun r => ?_
        exact ⟨(d2 + 1).toNat, r, u2, by omega, rfl, ⟨hu2.cur, ⟨hu2.k.1, by have := hu2.k.2; omega⟩, hu2.z, hu2.cells, hu2.len⟩, by rw [Int.toNat_of_nonneg (by omega)]; rfl⟩
      · repeat' walk_at "ST"
        refine c_range fun r => ?_
        exact ⟨(d2 + 0).toNat, r, u2, by omega, rfl, ⟨hu2.cur, ⟨hu2.k.1, by have := hu2.k.2; omega⟩, hu2.z, hu2.cells, hu2.len⟩, by rw [Int.toNat_of_nonneg (by omega)]; rfl⟩
    · rintro p σ ⟨n, r, u2, hn, rfl, hu2, rfl⟩
      refine ⟨_, ⟨[some (.ref urn), some (.str nm), some (.ref b), some (.int 1), none], UrnLed urn cs u2 ++ bxLed b db ls gn nm (2 + d) 1 [], fz2⟩, fun i σ => ∃ (u2 : Urn) (fzc : List (Addr × AO)) (prev : List Lt) (last : Option Lt) (uid : Int) (x : Option PV), σ = ⟨[some (.ref urn), some (.str nm), some (.ref b), some (.int uid), x], lastLed last ++ (UrnLed urn cs u2 ++ bxLed b db ls gn nm (2 + d) 1 (prev ++ last.toList)), fzc⟩ ∧ UrnOK (B + 2 + 2 * i) u2 ∧ i ≤ 6 ∧ (∀ q ∈ fz2, q ∈ fzc) ∧ BInv fzc prev last uid i, Itb.weak (σ₁ := ⟨_, _, _⟩) (itb_range (n := n) (.led (.head _)) (by omega)) (takeBut _), ?_, ?_, ?_⟩
      · exact ⟨u2, fz2, [], none, 1, none, rfl, ⟨hu2.cur, ⟨hu2.k.1, by have := hu2.k.2; omega⟩, hu2.z, hu2.cells, hu2.len⟩, by omega, fun q hq => hq, ⟨fun l hl => (nomatch hl), fun l hl => (nomatch hl), .nil, fun l hl => (nomatch hl), by decide, by decide, rfl, fun _ => rfl⟩⟩
      · rintro c' Sb i σ₂ y hy ⟨u3, fzc, prev, last, uid, x, rfl, hu3, hi, hs, I⟩
        have cN' : c'.names = _ := Sb.names.trans cN
        have cG' : c'.gl = _ := Sb.gl.trans cG
        have cK' := Sb.K.trans cK
        rw [List.getElem?_map] at hy
        obtain ⟨j, hj, rfl⟩ := Option.map_eq_some_iff.mp hy
        obtain ⟨hj1, hj2⟩ := List.getElem?_eq_some_iff.mp hj
        rw [List.length_range] at hj1
        rw [List.getElem_range] at hj2
        subst hj2
        show Tgt _ _ _ _ _
        refine tg_name cN' (by walk_at "PUT") ?_
        -- the last letter is frozen
        refine Wk.conv (σ := ⟨_, _, _⟩) (mu' := UrnLed urn cs u3 ++ bxLed b db ls gn nm (2 + d) 1 (prev ++ last.toList)) (rem := lastLed last) (fr := lastLed last) (rest := []) (takeBehind _ _) (takeAll _) ?_
        have hfz : ∀ q ∈ fz2, q ∈ lastLed last ++ fzc := fun q hq => List.mem_append_right _ (hs q hq)
        have hin : ∀ l ∈ prev ++ last.toList, l.In (lastLed last ++ fzc) := fun l hl => by
          rcases List.mem_append.mp hl with hl | hl
          · exact (I.pin l hl).sub fun q hq => List.mem_append_right _ hq
          · have hl' : last = some l := by simpa using hl
            obtain ⟨f1, f2, f3, f4⟩ := I.lin l hl'
            subst hl'
            exact ⟨.head _, .tail _ (.head _), .tail _ (.tail _ f1), f2, f3, f4⟩
        have hup := I.up
        have hpos := I.pos
        have hlen := I.len
        have hlo := I.lo
        have hhi := I.hi
        clear hs I
        generalize hLL : prev ++ last.toList = lts at *
        generalize lastLed last ++ fzc = fzd at *
        dsimp only [List.cons_append, List.nil_append, UrnLed]
        refine s_cons ?_
        repeat' walk_at "ST"
        refine ⟨keepK cK' k273, ?_⟩
        repeat' walk_at "ST"
        refine wc_pull (many := 4) hu3 (by omega) (by decide) cK' (by rw [Sb.n, cn]; decide) (.cons .head (.cons .head .nil)) fun d3 u4 f0 f1 hu4 => ?_
        dsimp only [List.cons_append, List.nil_append, UrnLed]
        repeat' walk_at "ST"
        refine a_inst cK' R184 n184_letters (by walk_at "LOOK") (by walk_at "LOOK") (by rfl) rfl ?_
        refine' m_list ?h1 PySem.F.slot_list_append ty_append ⟨fun _ => trivial, ?_⟩
        case h1 => walk_at "LOOK"
        repeat' walk_at "ST"
        refine ⟨keepK cK' k146, ?_⟩
        repeat' walk_at "ST"
        refine w_constBytes ?_
        repeat' walk_at "ST"
        refine ⟨keepK cK' k273, ?_⟩
        repeat' walk_at "ST"
        refine wc_pull (many := 3) hu4 (by omega) (by decide) cK' (by rw [Sb.n, cn]; decide) (.cons .head (.cons .head .nil)) fun d4 u5 f2 f3 hu5 => ?_
        dsimp only [List.cons_append, List.nil_append, UrnLed]
        refine b_mul_x f2 (by omega) ?_
        repeat' walk_at "ST"
        rename_i fl
        refine WCall.conv (σ := ⟨_, _, _⟩) (mu' := UrnLed urn cs u5 ++ bxLed b db ls gn nm (2 + d) 1 lts) (fr := [(fl, .tuple [.str (Str.ofString "work")])]) (.cons (.tail .head) (.cons (.tail .head) (.cons (.tail .head) (.cons (.tail .head) (.cons (.tail .head) (.cons (.tail .head) .nil)))))) (.cons .head .nil) ?_
        refine wc_make M146 (fun y dy => letterInit_spec (prog := prog) (w := w) (fl := fl) (u := uid + 1 + d3) (m := 2 + (i : Int)) (o := (List.replicate d4.toNat (120 : UInt8)).toArray) y dy (.head _)) cK' (Sb.prog.trans cp) (Sb.w.trans cw) (by rw [Sb.n, cn]; decide) .nil (fun _ _ _ _ _ h => h.2.1) ?_
        rintro lx ldx mu fzg ⟨rfl, _, rfl⟩ _
        dsimp only [List.cons_append, List.nil_append, UrnLed, bxLed]
        repeat' walk_at "ST"
        refine' c_append ?U ?hz ?_
        case U => walk_at "UP"
        case hz => rw [List.length_map, hlen]; omega
        refine ⟨rfl, ?_⟩
        repeat' walk_at "ST"
        have hlast : ∀ l ∈ lts, l.uid < uid + 1 + d3 := fun l hl => by have := (hpos l hl).2; omega
        have emap : (lts.map fun l : Lt => PV.ref l.x) ++ [PV.ref lx] = (lts ++ [(⟨lx, ldx, fl, uid + 1 + d3, (List.replicate d4.toNat (120 : UInt8)).toArray, 2 + (i : Int)⟩ : Lt)]).map fun l : Lt => PV.ref l.x := by rw [List.map_append]; rfl
        rw [emap]
        refine ⟨u5, _, lts, some ⟨lx, ldx, fl, uid + 1 + d3, (List.replicate d4.toNat (120 : UInt8)).toArray, 2 + (i : Int)⟩, uid + 1 + d3, _, rfl, ⟨hu5.cur, ⟨hu5.k.1, by have := hu5.k.2; omega⟩, hu5.z, hu5.cells, hu5.len⟩, by omega, fun q hq => .tail _ (hfz q hq), ⟨fun l hl => (hin l hl).sub fun q hq => .tail _ hq, fun l hl => ?_, ?_, fun l hl => ?_, by omega, by omega, ?_, fun h => nomatch h⟩⟩
        · cases hl
          exact ⟨.head _, by simp; omega, by show 0 ≤ 2 + (i : Int); omega, by show 2 + (i : Int) ≤ 1000; omega⟩
        · rw [Option.toList_some]
          refine List.pairwise_append.mpr ⟨hup, List.pairwise_singleton _ _, fun l hl l' hl' => ?_⟩
          rw [List.mem_singleton.mp hl']
          exact hlast l hl
        · rcases List.mem_append.mp hl with hl | hl
          · have := hpos l hl; exact ⟨this.1, by omega⟩
          · rw [Option.toList_some] at hl
            rw [List.mem_singleton.mp hl]
            exact ⟨by show 0 < uid + 1 + d3; omega, Int.le_refl _⟩
        · rw [List.length_append, hlen]; rfl
      · rintro σ₂ ⟨u3, fzc, prev, last, uid, x, rfl, hu3, hi, hs, I⟩
        exact ⟨rfl, u3, fzc, prev, last, uid, x, _, rfl, hu3, hi, hs, I⟩
  · rintro pf σ ⟨rfl, u2, fzc, prev, last, uid, x, i, rfl, hu2, hi, hs, I⟩
    refine seq_next ?_
    have hbase : ∀ (u4 : Urn) (k : Int), UrnOK (B + 2 + 2 * i + k) u4 → k ≤ 1 → UrnOK (B + 30) u4 := fun u4 k h hk => ⟨h.cur, ⟨h.k.1, by have := h.k.2; omega⟩, h.z, h.cells, h.len⟩
    cases last with
    | none =>
      obtain rfl := I.emp rfl
      dsimp only [List.cons_append, List.nil_append, UrnLed, bxLed, lastLed, Option.toList, List.map_nil]
      refine s_cons ?_
      repeat' walk_at "ST"
      refine a_inst cK R184 n184_letters (by walk_at "LOOK") (by walk_at "LOOK") (by rfl) rfl ?_
      repeat' walk_at "ST"
      rw [show (!(List.map (fun l : Lt => PV.ref l.x) ([] : List Lt)).isEmpty) = false from rfl]
      repeat' walk_at "ST"
      refine a_inst cK R184 n184_letters (by walk_at "LOOK") (by walk_at "LOOK") (by rfl) rfl ?_
      repeat' walk_at "ST"
      rw [show (!(List.map (fun l : Lt => PV.ref l.x) ([] : List Lt)).isEmpty) = false from rfl]
      repeat' walk_at "ST"
      refine' sa_to (bxDict nm (2 + d) 7 ls gn) cK S184 n184_next_uid (by walk_at "LOOK") (by walk_at "UP") (by kernel_rfl) (Nat.le_of_ble_eq_true rfl) ?_
      repeat' walk_at "ST"
      refine ⟨UrnLed urn cs u2, _, bxLed b db ls gn nm (2 + d) 7 [], _, .cons (.tail (.tail .head)) (.cons (.tail (.tail .head)) .nil), .cons (.tail (.tail .head)) (.cons (.tail (.tail .head)) (.cons (.tail (.tail .head)) (.cons (.tail (.tail .head)) .nil))), u2, ⟨b, db, ls, gn, nm, 2 + d, 7, []⟩, rfl, rfl, hbase u2 0 (by rw [Int.add_zero]; exact hu2) (by decide), ⟨by walk_at "FZ", by walk_at "FZ", by walk_at "FZ", by walk_at "FZ", fun l hl => (nomatch hl), Nat.zero_le _, .nil, fun l hl => (nomatch hl), hnm, ⟨by show 0 ≤ 2 + d; omega, by show 2 + d ≤ 1000; omega⟩, ⟨by show (0:Int) ≤ 7; decide, by show (7:Int) ≤ 4294967296; decide⟩⟩, rfl⟩
    | some l =>
      have hlast : ∀ l' : Lt, l'.x = l.x → ((prev ++ [l]).map fun l : Lt => PV.ref l.x)[((-1 : Int) + (((prev ++ [l]).map fun l : Lt => PV.ref l.x).length : Int)).toNat]? = some (.ref l.x) := fun l' _ => by
        have e : ((-1 : Int) + (((prev ++ [l]).map fun l : Lt => PV.ref l.x).length : Int)).toNat = (prev.map fun l : Lt => PV.ref l.x).length := by
          rw [List.length_map, List.length_append, List.length_map]; simp only [List.length_cons, List.length_nil]; omega
        rw [e, List.map_append, List.getElem?_append_right (Nat.le_refl _), Nat.sub_self]; rfl
      have hne : ((prev ++ [l]).map fun l : Lt => PV.ref l.x).isEmpty = false := by rw [List.map_append]; cases prev <;> rfl
      have hlen1 : -(((prev ++ [l]).map fun l : Lt => PV.ref l.x).length : Int) ≤ -1 := by rw [List.length_map, List.length_append]; simp only [List.length_cons, List.length_nil]; omega
      refine s_cons (Wk.mono (Q := fun pf σ => pf = .next ∧ ∃ (u4 : Urn) (nu : Int) (y : Addr), (nu = l.uid ∨ nu = 4294967295) ∧ UrnOK (B + 30) u4 ∧ σ = ⟨[some (.ref urn), some (.str nm), some (.ref b), some (.int uid), x], UrnLed urn cs u4 ++ ((y, .list []) :: ([(l.x, .inst 146 l.dx), (l.dx, .dict (ltDict nu l.oct l.fl l.mod))] ++ bxLed b db ls gn nm (2 + d) 1 (prev ++ [l]))), fzc⟩) ?_ ?_)
      · dsimp only [List.cons_append, List.nil_append, UrnLed, bxLed, lastLed, Option.toList]
        repeat' walk_at "ST"
        refine a_inst cK R184 n184_letters (by walk_at "LOOK") (by walk_at "LOOK") (by rfl) rfl ?_
        repeat' walk_at "ST"
        rw [hne]
        repeat' walk_at "ST"
        refine ⟨keepK cK k273, ?_⟩
        repeat' walk_at "ST"
        refine wc_pull (many := 3) hu2 (by omega) (by decide) cK (by rw [cn]; decide) (.cons (.tail (.tail (.tail .head))) (.cons (.tail (.tail (.tail .head))) .nil)) fun d3 u4 f0 f1 hu4 => ?_
        dsimp only [List.cons_append, List.nil_append, UrnLed]
        repeat' walk_at "ST"
        refine wite (fun hz => ?_) (fun hz => ?_)
        · repeat' walk_at "ST"
          refine a_inst cK R184 n184_letters (by walk_at "LOOK") (by walk_at "LOOK") (by rfl) rfl ?_
          repeat' walk_at "ST"
          refine' sub_neg (by walk_at "LOOK") (by decide) hlen1 (by decide) (hlast l rfl) ?_ (by intro _ _; rfl)
          refine' sa_to (ltDict 4294967295 l.oct l.fl l.mod) cK S146 n146_uid (by walk_at "LOOK") (by walk_at "UP") (by kernel_rfl) (Nat.le_of_ble_eq_true rfl) ?_
          repeat' walk_at "ST"
          exact ⟨rfl, u4, 4294967295, _, .inr rfl, hbase u4 1 hu4 (by decide), rfl⟩
        · repeat' walk_at "ST"
          exact ⟨rfl, u4, l.uid, _, .inl rfl, hbase u4 1 hu4 (by decide), rfl⟩
      · rintro pf σ ⟨rfl, u4, nu, y, hnu, hu4, rfl⟩
        refine seq_next ?_
        dsimp only [List.cons_append, List.nil_append, UrnLed, bxLed]
        refine s_cons ?_
        repeat' walk_at "ST"
        refine a_inst cK R184 n184_letters (by walk_at "LOOK") (by walk_at "LOOK") (by rfl) rfl ?_
        repeat' walk_at "ST"
        rw [hne]
        repeat' walk_at "ST"
        refine a_inst cK R184 n184_letters (by walk_at "LOOK") (by walk_at "LOOK") (by rfl) rfl ?_
        repeat' walk_at "ST"
        refine' sub_neg (by walk_at "LOOK") (by decide) hlen1 (by decide) (hlast l rfl) ?_ (by intro _ _; rfl)
        refine a_inst cK R146 n146_uid (by walk_at "LOOK") (by walk_at "LOOK") (by rfl) rfl ?_
        repeat' walk_at "ST"
        refine' sa_to (bxDict nm (2 + d) (nu + 1) ls gn) cK S184 n184_next_uid (by walk_at "LOOK") (by walk_at "UP") (by kernel_rfl) (Nat.le_of_ble_eq_true rfl) ?_
        repeat' walk_at "ST"
        have hlu : l.uid ≤ uid ∧ 0 < l.uid := by have := I.pos l (by simp); exact ⟨this.2, this.1⟩
        have hhi := I.hi
        have hlo := I.lo
        have hnl : l.uid ≤ nu := by rcases hnu with rfl | rfl <;> omega
        have hnb : nu ≤ 4294967295 := by rcases hnu with rfl | rfl <;> omega
        have emap : ((prev ++ [l]).map fun l : Lt => PV.ref l.x) = ((prev ++ [(⟨l.x, l.dx, l.fl, nu, l.oct, l.mod⟩ : Lt)]).map fun l : Lt => PV.ref l.x) := by rw [List.map_append, List.map_append]; rfl
        rw [emap]
        have hup := List.pairwise_append.mp I.up
        obtain ⟨q1, q2, q3, q4⟩ := I.lin l rfl
        have hll := I.len
        rw [List.length_append] at hll
        refine ⟨UrnLed urn cs u4, _, [(l.x, .inst 146 l.dx), (l.dx, .dict (ltDict nu l.oct l.fl l.mod))] ++ bxLed b db ls gn nm (2 + d) (nu + 1) (prev ++ [(⟨l.x, l.dx, l.fl, nu, l.oct, l.mod⟩ : Lt)]), _, .cons (.tail .head) (.cons (.tail .head) .nil), .cons (.tail (.tail .head)) (.cons (.tail (.tail .head)) (.cons (.tail (.tail .head)) (.cons (.tail (.tail .head)) (.cons (.tail (.tail .head)) (.cons (.tail (.tail .head)) .nil))))), u4, ⟨b, db, ls, gn, nm, 2 + d, nu + 1, prev ++ [⟨l.x, l.dx, l.fl, nu, l.oct, l.mod⟩]⟩, rfl, rfl, hu4, ⟨by walk_at "FZ", by walk_at "FZ", by walk_at "FZ", by walk_at "FZ", fun a ha => ?_, ?_, ?_, fun a ha => ?_, hnm, ⟨by show 0 ≤ 2 + d; omega, by show 2 + d ≤ 1000; omega⟩, ⟨by show 0 ≤ nu + 1; omega, by show nu + 1 ≤ 4294967296; omega⟩⟩, rfl⟩
        · rcases List.mem_append.mp ha with ha | ha
          · exact (I.pin a ha).sub fun q hq => List.mem_append_right _ hq
          · rw [List.mem_singleton.mp ha]
            exact ⟨by walk_at "FZ", by walk_at "FZ", List.mem_append_right _ q1, q2, q3, q4⟩
        · show (prev ++ [_]).length ≤ 10
          rw [List.length_append]
          simp only [Option.toList_some, List.length_cons, List.length_nil] at hll ⊢
          omega
        · refine List.pairwise_append.mpr ⟨hup.1, List.pairwise_singleton _ _, fun a ha a' ha' => ?_⟩
          rw [List.mem_singleton.mp ha']
          have := hup.2.2 a ha l (by simp)
          show a.uid < nu
          omega
        · rcases List.mem_append.mp ha with ha | ha
          · have := I.pos a (List.mem_append_left _ ha)
            exact ⟨this.1, by omega⟩
          · rw [List.mem_singleton.mp ha]
            exact ⟨by show 0 < nu; omega, hnb⟩
end
section
set_option maxRecDepth 100000
set_option maxHeartbeats 8000000
set_option linter.unusedVariables false
theorem mul_ok {x : Str} {n : Int} (hx : x.length ≤ 100) (h0 : -100000 ≤ n) (h1 : n ≤ 1000) : MulOk x n := by
  refine ⟨by simp; omega, fun h2 h3 h4 => ?_, fun h2 h3 => ?_⟩
  · have hn : 0 < n := by omega
    have h5 : (x.length : Int) * n ≤ 100 * 1000 := Int.mul_le_mul (by omega) h1 (by omega) (by decide)
    have h6 := (Int.le_ediv_iff_mul_le hn (a := (x.length : Int)) (b := 2 ^ 63 - 1)).mpr (Int.le_trans h5 (by decide))
    omega
  · have h5 : x.length * n.toNat ≤ 100 * 1000 := Nat.mul_le_mul hx (by omega)
    exact short24 (by omega)
theorem mul_one (ch : Nat) (n : Int) : Txt.mul (T [ch]) n = T (List.replicate n.toNat ch) := by
  unfold Txt.mul
  split
  · have : n.toNat = 0 := by omega
    rw [this]; rfl
  split
  · rename_i h1 h2
    simp only [Bool.or_eq_true, beq_iff_eq] at h2
    rcases h2 with rfl | h2
    · rfl
    · rw [T_len] at h2; cases h2
  · have : ∀ (k : Nat) (acc : List Nat), (List.replicate k (T [ch]).cps).foldl (· ++ ·) acc.toArray = (acc ++ List.replicate k ch).toArray := by
      intro k
      induction k with
      | zero => intro acc; simp
      | succ k ih =>
        intro acc
        rw [List.replicate_succ, List.foldl_cons]
        show List.foldl _ (acc.toArray ++ [ch].toArray) _ = _
        rw [List.append_toArray, ih, List.replicate_succ, List.append_assoc]; rfl
    have h := this n.toNat []
    show Str.mk _ = Str.mk _
    congr 1

/-- the written tuples -/
noncomputable def oddT : List Str := [Str.ofString "+", Str.ofString "-", Str.ofString "_", Str.ofString ".", Str.ofString "x", Str.ofString " ", Str.ofString "٣", Str.ofString "²", Str.ofString "１", Str.ofString "\\"]
noncomputable def oddN : List Nat := [43, 45, 95, 46, 120, 32, 1635, 178, 65297, 92]
theorem odd_eq : oddT = oddN.map fun ch => T [ch] := by decide +kernel
noncomputable def TextCh (ch : Nat) : Prop := (48 ≤ ch ∧ ch ≤ 57) ∨ ch ∈ oddN
theorem max_one (n : Nat) : (if (1 : Int) > (n : Int) then (1 : Int) else (n : Int)) = ((max n 1 : Nat) : Int) := by
  by_cases h : n = 0
  · subst h; rfl
  · rw [if_neg (by omega)]; omega
theorem pick_int {l : List Int} {k : Int} (h0 : 0 ≤ k) (h1 : k < l.length) : ∃ n ∈ l, (l.map PV.int)[k.toNat]? = some (.int n) := by
  obtain ⟨n, hn⟩ : ∃ n, l[k.toNat]? = some n := ⟨_, List.getElem?_eq_getElem (by omega)⟩
  exact ⟨n, List.mem_of_getElem? hn, by rw [List.getElem?_map, hn]; rfl⟩
theorem spelling_spec {prog : Program} {w : World} {fz : List (Addr × AO)} {urn cs : Addr} {u : Urn} {B : Int} {X : Bx} (hu : UrnOK B u) (hB : B ≤ 900000) (hX : X.In fz) (hodd : (288, AO.tuple (oddT.map .str)) ∈ fz) :
    Spec K prog w 2 316 [.ref urn, .ref X.b] (UrnLed urn cs u) fz (fun p mu fz' => ∃ (u' : Urn) (l : List Nat), p = .str (T l) ∧ mu = UrnLed urn cs u' ∧ UrnOK (B + 20) u' ∧ l.length ≤ 100 ∧ ∀ ch ∈ l, TextCh ch) := by
  refine enter F31 (by rfl) ?_
  intro c cK cn cp cw cN cG cC cS cF
  replace cN : c.names = _ := cN
  replace cG : c.gl = _ := cG
  show Wk c PF.Is _ _ ⟨[some (.ref urn), some (.ref X.b), none, none, none, none, none, none, none], UrnLed urn cs u, fz⟩
  obtain ⟨h1, h2, h3, h4, h5, h6, h7, h8, h9, h10, h11⟩ := id hX
  have hrl : X.refs.length = X.lts.length := by unfold Bx.refs; rw [List.length_map]
  refine s_cons ?_
  repeat' walk_at "ST"
  refine ⟨keepK cK k273, ?_⟩
  repeat' walk_at "ST"
  refine wc_pull (many := 8) hu (by omega) (by decide) cK (by rw [cn]; decide) (takeAll _) fun way u1 w0 w1 hu1 => ?_
  rw [List.append_nil]
  repeat' walk_at "ST"
  refine ⟨keepK cK k273, ?_⟩
  repeat' walk_at "ST"
  refine ⟨fun _ => trivial, ?_⟩
  repeat' walk_at "ST"
  refine ⟨fun _ => trivial, ?_⟩
  repeat' walk_at "ST"
  refine a_inst cK R184 n184_letters (by walk_at "LOOK") (by walk_at "LOOK") (by rfl) rfl ?_
  repeat' walk_at "ST"
  refine c_len_list (by walk_at "LOOK") (by omega) ?_
  repeat' walk_at "ST"
  refine c_max2 ?_
  rw [hrl, max_one]
  repeat' walk_at "ST"
  refine wc_pull (many := ((max X.lts.length 1 : Nat) : Int)) hu1 (by omega) ⟨by omega, by omega⟩ cK (by rw [cn]; decide) (takeAll _) fun at_ u2 a0 a1 hu2 => ?_
  rw [List.append_nil]
  refine put cN (by walk_at "PUT") (seq_next ?_)
  refine s_cons (Wk.mono (Q := fun pf σ => pf = .next ∧ ∃ (n : Int) (u4 : Urn) (led : List (Addr × AO)), 0 ≤ n ∧ n ≤ 10 ^ 18 ∧ UrnOK (B + 1 + 1 + 1 + 1) u4 ∧ σ = ⟨[some (.ref urn), some (.ref X.b), some (.int way), some (.int at_), some (.int n), none, none, none, none], led, fz⟩ ∧ ∃ y z, led = y :: (UrnLed urn cs u4 ++ [z])) ?_ ?_)
  · refine s_assign (w_sub (w_tuple (l_cons (w_ifexp ?_))))
    repeat' walk_at "ST"
    refine a_inst cK R184 n184_letters (by walk_at "LOOK") (by walk_at "LOOK") (by rfl) rfl ?_
    repeat' walk_at "ST"
    cases hE : X.refs with
    | nil =>
        refine wf ?_
        repeat' walk_at "ST"
        refine a_inst cK R184 n184_next_uid (by walk_at "LOOK") (by walk_at "LOOK") (by rfl) rfl ?_
        repeat' walk_at "ST"
        refine b_pow_int (by decide) (by decide +kernel) ?_
        repeat' walk_at "ST"
        refine b_pow_int (by decide) (by decide +kernel) ?_
        repeat' walk_at "ST"
        refine ⟨keepK cK k273, ?_⟩
        repeat' walk_at "ST"
        refine wc_pull (many := 30) hu2 (by omega) (by decide) cK (by rw [cn]; decide) (.cons (.tail .head) (.cons (.tail .head) .nil)) fun d3 u3 e0 e1 hu3 => ?_
        dsimp only [List.cons_append, List.nil_append, UrnLed]
        repeat' walk_at "ST"
        refine ⟨keepK cK k273, ?_⟩
        repeat' walk_at "ST"
        refine b_pow_int (by decide) (by decide +kernel) ?_
        repeat' walk_at "ST"
        refine wc_pull (many := (10 : Int) ^ (17 : Int).toNat) hu3 (by omega) (by decide +kernel) cK (by rw [cn]; decide) (.cons .head (.cons .head .nil)) fun d4 u4 g0 g1 hu4 => ?_
        dsimp only [List.cons_append, List.nil_append, UrnLed]
        have g1' : d4 < 10 ^ 17 := g1
        repeat' walk_at "ST"
        obtain ⟨n, hn, hpick⟩ := pick_int (l := [5, at_ + 1, X.nx, 0, (10 : Int) ^ (18 : Int).toNat - 1, (10 : Int) ^ (18 : Int).toNat, d3, d4]) (k := way) w0 w1
        refine' sub_tuple (xs := ([5, at_ + 1, X.nx, 0, (10 : Int) ^ (18 : Int).toNat - 1, (10 : Int) ^ (18 : Int).toNat, d3, d4] : List Int).map .int) (by exact .led (.head _)) w0 (by omega) hpick ?_ (by intro _ _; rfl)
        refine put cN (by walk_at "PUT") ?_
        have h18 : (10 : Int) ^ (18 : Int).toNat = 10 ^ 18 := rfl
        rw [h18] at hn
        simp only [List.mem_cons, List.not_mem_nil, or_false] at hn
        refine ⟨rfl, n, u4, _, by rcases hn with rfl | rfl | rfl | rfl | rfl | rfl | rfl | rfl <;> omega, by rcases hn with rfl | rfl | rfl | rfl | rfl | rfl | rfl | rfl <;> omega, hu4, rfl, _, _, rfl⟩
    | cons r0 rs =>
        have hne : X.lts ≠ [] := by intro h; unfold Bx.refs at hE; rw [h] at hE; cases hE
        have hpos : 0 < X.lts.length := List.length_pos_iff.mpr hne
        have hat : at_.toNat < X.lts.length := by omega
        obtain ⟨l, hl⟩ : ∃ l, X.lts[at_.toNat]? = some l := ⟨_, List.getElem?_eq_getElem hat⟩
        have hm := List.mem_of_getElem? hl
        obtain ⟨l1, l2, l3, l4, l5⟩ := h5 l hm
        have hlu := h8 l hm
        refine wt ?_
        repeat' walk_at "ST"
        refine a_inst cK R184 n184_letters (by walk_at "LOOK") (by walk_at "LOOK") (by rfl) rfl ?_
        repeat' walk_at "ST"
        refine' sub_list (by exact .fz h3) a0 (by omega) (Bx.get hl) ?_ (by intro _ _; rfl)
        refine a_inst cK R146 n146_uid (by walk_at "LOOK") (by walk_at "LOOK") (by rfl) rfl ?_
        repeat' walk_at "ST"
        refine a_inst cK R184 n184_next_uid (by walk_at "LOOK") (by walk_at "LOOK") (by rfl) rfl ?_
        repeat' walk_at "ST"
        refine b_pow_int (by decide) (by decide +kernel) ?_
        repeat' walk_at "ST"
        refine b_pow_int (by decide) (by decide +kernel) ?_
        repeat' walk_at "ST"
        refine ⟨keepK cK k273, ?_⟩
        repeat' walk_at "ST"
        refine wc_pull (many := 30) hu2 (by omega) (by decide) cK (by rw [cn]; decide) (.cons (.tail .head) (.cons (.tail .head) .nil)) fun d3 u3 e0 e1 hu3 => ?_
        dsimp only [List.cons_append, List.nil_append, UrnLed]
        repeat' walk_at "ST"
        refine ⟨keepK cK k273, ?_⟩
        repeat' walk_at "ST"
        refine b_pow_int (by decide) (by decide +kernel) ?_
        repeat' walk_at "ST"
        refine wc_pull (many := (10 : Int) ^ (17 : Int).toNat) hu3 (by omega) (by decide +kernel) cK (by rw [cn]; decide) (.cons .head (.cons .head .nil)) fun d4 u4 g0 g1 hu4 => ?_
        dsimp only [List.cons_append, List.nil_append, UrnLed]
        have g1' : d4 < 10 ^ 17 := g1
        repeat' walk_at "ST"
        obtain ⟨n, hn, hpick⟩ := pick_int (l := [l.uid, at_ + 1, X.nx, 0, (10 : Int) ^ (18 : Int).toNat - 1, (10 : Int) ^ (18 : Int).toNat, d3, d4]) (k := way) w0 w1
        refine' sub_tuple (xs := ([l.uid, at_ + 1, X.nx, 0, (10 : Int) ^ (18 : Int).toNat - 1, (10 : Int) ^ (18 : Int).toNat, d3, d4] : List Int).map .int) (by exact .led (.head _)) w0 (by omega) hpick ?_ (by intro _ _; rfl)
        refine put cN (by walk_at "PUT") ?_
        have h18 : (10 : Int) ^ (18 : Int).toNat = 10 ^ 18 := rfl
        rw [h18] at hn
        simp only [List.mem_cons, List.not_mem_nil, or_false] at hn
        refine ⟨rfl, n, u4, _, by rcases hn with rfl | rfl | rfl | rfl | rfl | rfl | rfl | rfl <;> omega, by rcases hn with rfl | rfl | rfl | rfl | rfl | rfl | rfl | rfl <;> omega, hu4, rfl, _, _, rfl⟩
  · rintro pf σ ⟨rfl, n, u4, led, n0, n1, hu4, rfl, y, z, rfl⟩
    refine seq_next ?_
    refine Wk.conv (σ := ⟨_, _, _⟩) (mu' := UrnLed urn cs u4) (fr := []) (.cons (.tail .head) (.cons (.tail .head) .nil)) .nil ?_
    dsimp only [List.cons_append, List.nil_append, UrnLed]
    obtain ⟨m, rfl⟩ := Int.eq_ofNat_of_zero_le n0
    have hm : m < 10 ^ 19 := by omega
    have hdl : (dg m).length ≤ 19 := dg_len (by decide) hm
    have hdd := dg_dig m
    refine s_cons ?_
    repeat' walk_at "ST"
    refine ⟨keepK cK k302, ?_⟩
    repeat' walk_at "ST"
    refine wc_val (figures_spec (prog := prog) (w := w) (n := m) (Nat.lt_of_lt_of_le hm (by decide))) cK cp cw (by rw [cn]; decide) ?_
    try dsimp only [List.nil_append]
    repeat' walk_at "ST"
    refine ⟨keepK cK k273, ?_⟩
    repeat' walk_at "ST"
    refine wc_pull (many := 7) hu4 (by omega) (by decide) cK (by rw [cn]; decide) (.cons (.tail .head) (.cons (.tail .head) .nil)) fun d5 u5 e0 e1 hu5 => ?_
    dsimp only [List.cons_append, List.nil_append, UrnLed]
    obtain ⟨wd, hwd, hpick⟩ := pick_int (l := [0, 0, 0, 3, 17, 18, 19]) (k := d5) e0 e1
    have hwb : 0 ≤ wd ∧ wd ≤ 19 := by
      simp only [List.mem_cons, List.not_mem_nil, or_false] at hwd
      omega
    refine' sub_tuple (xs := ([0, 0, 0, 3, 17, 18, 19] : List Int).map .int) (by exact .led (by walk_at "MEM")) e0 (by omega) hpick ?_ (by intro _ _; rfl)
    repeat' walk_at "ST"
    refine ⟨fun _ => trivial, ?_⟩
    repeat' walk_at "ST"
    refine c_len_str (by rw [T_len]; omega) ?_
    repeat' walk_at "ST"
    rw [T_len, show Str.ofString "0" = T [48] by decide +kernel]
    refine b_mul_str (mul_ok (by rw [T_len]; decide) (by omega) (by omega)) ?_
    rw [mul_one]
    repeat' walk_at "ST"
    have hrep : (List.replicate (wd - ((dg m).length : Int)).toNat 48).length ≤ 19 := by rw [List.length_replicate]; omega
    refine b_add_str (by rw [T_len, T_len]; omega) ?_
    rw [T_add]
    generalize hl : List.replicate (wd - ((dg m).length : Int)).toNat 48 ++ dg m = l
    have hll : l.length ≤ 40 := by rw [← hl, List.length_append]; omega
    have hlc : ∀ ch ∈ l, TextCh ch := fun ch h => by
      rw [← hl] at h
      rcases List.mem_append.mp h with h | h
      · rw [List.eq_of_mem_replicate h]; exact .inl (by decide)
      · exact .inl (hdd ch h)
    clear hl hrep
    refine put cN (by walk_at "PUT") (seq_next ?_)
    refine s_cons (Wk.mono (Q := fun pf σ => pf = .next ∧ ∃ (l' : List Nat) (u6 : Urn) (a b : Option PV) (led : List (Addr × AO)), UrnOK (B + 20) u6 ∧ l'.length ≤ 100 ∧ (∀ ch ∈ l', TextCh ch) ∧ (∃ rest, Take led (UrnLed urn cs u6) rest) ∧ σ = ⟨[some (.ref urn), some (.ref X.b), some (.int way), some (.int at_), some (.int m), some (.str (T l')), some (.int wd), a, b], led, fz⟩) ?_ ?_)
    · repeat' walk_at "ST"
      refine ⟨keepK cK k273, ?_⟩
      repeat' walk_at "ST"
      refine wc_pull (many := 4) hu5 (by omega) (by decide) cK (by rw [cn]; decide) (.cons .head (.cons .head .nil)) fun d6 u6 f0 f1 hu6 => ?_
      dsimp only [List.cons_append, List.nil_append, UrnLed]
      repeat' walk_at "ST"
      refine wite (fun hz => ?_) (fun hz => ?_)
      · refine s_cons (s_assign_swap cN ?_ (by walk_at "MEM") (by walk_at "MEM") (by decide) rfl rfl rfl rfl rfl)
        repeat' walk_at "ST"
        refine ⟨keepK cK k273, ?_⟩
        repeat' walk_at "ST"
        refine ⟨fun _ => trivial, ?_⟩
        repeat' walk_at "ST"
        refine c_len_str (by rw [T_len]; omega) ?_
        repeat' walk_at "ST"
        rw [T_len]
        refine wc_pull (many := (l.length : Int) + 1) hu6 (by omega) ⟨by omega, by omega⟩ cK (by rw [cn]; decide) (.cons .head (.cons .head .nil)) fun d7 u7 g0 g1 hu7 => ?_
        dsimp only [List.cons_append, List.nil_append, UrnLed]
        repeat' walk_at "ST"
        refine ⟨keepK cK k273, ?_⟩
        repeat' walk_at "ST"
        refine wc_pull (many := 10) hu7 (by omega) (by decide) cK (by rw [cn]; decide) (.cons .head (.cons .head .nil)) fun d8 u8 i0 i1 hu8 => ?_
        dsimp only [List.cons_append, List.nil_append, UrnLed]
        obtain ⟨od, hod⟩ : ∃ od, oddN[d8.toNat]? = some od := ⟨_, List.getElem?_eq_getElem (by show d8.toNat < 10; omega)⟩
        have hodm := List.mem_of_getElem? hod
        refine' sub_tuple (by exact .fz hodd) i0 (by omega) (p := .str (T [od])) (by rw [odd_eq, List.map_map, List.getElem?_map, hod]; rfl) ?_ (by intro _ _; rfl)
        repeat' walk_at "ST"
        rename_i tt
        refine ⟨tt, _, _, rfl, .led (.head _), ?_⟩
        refine put cN (by walk_at "PUT") (put cN (by walk_at "PUT") (seq_next ?_))
        obtain ⟨sp7, rfl⟩ := Int.eq_ofNat_of_zero_le g0
        repeat' walk_at "ST"
        refine sl_str_to (by rw [T_len]; omega) ?_
        rw [slice_to_T]
        repeat' walk_at "ST"
        refine b_add_str (by rw [T_len, T_len, List.length_take]; simp only [List.length_cons, List.length_nil]; omega) ?_
        rw [T_add]
        repeat' walk_at "ST"
        refine ⟨keepK cK k273, ?_⟩
        repeat' walk_at "ST"
        refine wc_pull (many := 2) hu8 (by omega) (by decide) cK (by rw [cn]; decide) (.cons (.tail .head) (.cons (.tail .head) .nil)) fun d9 u9 j0 j1 hu9 => ?_
        obtain ⟨q9, rfl⟩ := Int.eq_ofNat_of_zero_le j0
        dsimp only [List.cons_append, List.nil_append, UrnLed]
        repeat' walk_at "ST"
        refine sl_str_from (by rw [T_len]; omega) ?_
        rw [show Txt.slice (T l) (some ((sp7 : Int) + (q9 : Int))) none = T (l.drop (sp7 + q9)) from slice_from_T l (sp7 + q9)]
        refine b_add_str (by rw [T_len, T_len, List.length_drop, List.length_append, List.length_take]; simp only [List.length_cons, List.length_nil]; omega) ?_
        rw [T_add]
        repeat' walk_at "ST"
        refine ⟨rfl, l.take sp7 ++ [od] ++ l.drop (sp7 + q9), u9, _, _, _, ⟨hu9.cur, ⟨hu9.k.1, by have := hu9.k.2; omega⟩, hu9.z, hu9.cells, hu9.len⟩, by rw [List.length_append, List.length_append, List.length_take, List.length_drop]; simp only [List.length_cons, List.length_nil]; omega, fun ch h => ?_, ⟨_, .cons .head (.cons .head .nil)⟩, rfl⟩
        rcases List.mem_append.mp h with h | h
        · rcases List.mem_append.mp h with h | h
          · exact hlc ch (List.mem_of_mem_take h)
          · rw [List.mem_singleton.mp h]; exact .inr hodm
        · exact hlc ch (List.mem_of_mem_drop h)
      · repeat' walk_at "ST"
        exact ⟨rfl, l, u6, _, _, _, ⟨hu6.cur, ⟨hu6.k.1, by have := hu6.k.2; omega⟩, hu6.z, hu6.cells, hu6.len⟩, by omega, hlc, ⟨_, .cons .head (.cons .head .nil)⟩, rfl⟩
    · rintro pf σ ⟨rfl, l', u6, a, b, led, hu6, hl', hc', ⟨rest, ht⟩, rfl⟩
      refine seq_next ?_
      repeat' walk_at "ST"
      exact ⟨_, _, [], _, ht, .nil, u6, l', rfl, rfl, hu6, hl', hc'⟩
end
section
set_option maxRecDepth 100000
set_option maxHeartbeats 8000000
set_option linter.unusedVariables false
theorem add_exact {prog : Program} {w : World} {A : Around} {E : Value → Shared → Prop} {s : Shared} {x y : Str} {t u : Tok} {Q : Value → Shared → Prop} (hx : (x.length == 0) = false) (hy : (y.length == 0) = false) (hz : x.length + y.length ≤ sizeLine)
    (h : Q (.str (x ++ y) s.toks) { heap := s.heap, gens := s.gens, drawn := s.drawn, toks := s.toks + 1, os := s.os }) : wpAny (model prog w) A (binaryOp .Add (.str x t) (.str y u)) Q E s := by
  refine binaryOp_concat (typeIs_str s x t) (typeIs_str s y u) PyProof.Rows.noFill_str_add PyProof.Rows.seq_str_add (wpAny_call_entry slot_str_add (typeIs_str s x t) entry_str_add ?_ (args_str_add _ _))
  show wpAny _ _ (if (true && x.length == 0) = true then _ else if (true && y.length == 0) = true then _ else retStr (x ++ y)) _ _ s
  rw [hx, hy]
  exact wpAny_bind (wpAny_mkStr (wpAny_pure ⟨_, rfl, h⟩) (by rw [strLen_append]; exact hz))
theorem localS {c : Cx} {σ : St} {s : Shared} {ns : List Str} {x : Str} {p : PV} {pos : Pos} {Q : Value → Shared → Prop} (hN : c.names = ns) (h : At ns σ.loc x p) (R : Rl c σ s) (k : ∀ v, p.Is v → Q v s) : wpAny (model c.prog c.w) c.A (eval (.Name x pos) c.env) Q c.E s := by
  obtain ⟨m, F, L⟩ := R.fr
  subst hN
  obtain ⟨i, a, b⟩ := h.ix
  obtain ⟨v, hv, hp⟩ := L.2 i x p a b
  exact wpAny_Name (wpAny_loadName_local R.ok.kind (R.ok.loc x h.mem) F.ns hv (k v hp)) (R.ok.nd x h.mem)
theorem w_tabReplace {c : Cx} {σ : St} {ns : List Str} {n tx : Str} {x y tab sep em : Str} {k1 k2 k3 : Nat} {p1 p2 p3 p4 p5 p6 p7 p8 p9 : Pos} {Q : PV → St → Prop} (hN : c.names = ns) (hn : At ns σ.loc n (.str x)) (ht : At ns σ.loc tx (.str y)) (hx : (x.length == 0) = false) (hxz : x.length ≤ 1000) (hy : y.length ≤ 1000)
    (htab : (tab.length == 0) = false ∧ tab.length ≤ 10) (hse : (sep == em) = false) (hem : em.length ≤ 14) (hl : (p5.endLine == p8.line) = true) (k : Q (.str (x ++ tab ++ Txt.replace y sep em)) σ) (hr : (Txt.replace y sep em).length ≤ 1000) :
    Wk c PV.Is (eval (.BinOp (.BinOp (.Name n p1) .Add (.Constant (.str tab) k1 p2) p3) .Add (.Call (.Attribute (.Name tx p4) (Str.ofString "replace") p5) [.Constant (.str sep) k2 p6, .Constant (.str em) k3 p7] [] p8) p9) c.env) Q σ := fun s R => by
  have hb : attributeBase (.Name tx p4) (Str.ofString "replace") c.env (eval (.Name tx p4) c.env) = eval (.Name tx p4) c.env := rfl
  refine wpAny_BinOp (wpAny_BinOp (localS hN hn R fun a ha => ?_))
  obtain ⟨t, rfl⟩ := ha
  refine wpAny_Constant_str (add_exact hx htab.1 (by rw [sizeLine_eq]; omega) ?_)
  have R₁ := R.toks (s.toks + 1 + 1)
  refine wpAny_Call_method_lateS hb rfl hl (localS hN ht R₁ fun b hb' => ?_)
  obtain ⟨t', rfl⟩ := hb'
  refine ⟨"str", "str.replace", PySem.F.plainAttrs_str, PySem.F.slot_str_replace, PySem.F.type_str_replace, typeIs_str _ _ _, (fun _ e => nomatch e), ?_⟩
  refine callWith_of (P := fun _ => True) rfl (fun hp _ => ⟨.machine, .inr (.inl rfl), Looks.of_pure rfl⟩) ?_
  refine evalArgs_plain (spliced_more (wpAny_Constant_str (spliced_more (wpAny_Constant_str (spliced_none ⟨trivial, ?_⟩)) rfl)) rfl)
  refine SC.replaceW (by show s.toks + 1 + 1 ≠ 0; omega) (by show s.toks + 1 + 1 + 1 ≠ 0; omega) (by show s.toks + 1 + 1 ≠ s.toks + 1 + 1 + 1; omega) hse (by omega) hem fun t2 tk => ?_
  have hlen : (x ++ tab).length = x.length + tab.length := strLen_append _ _
  exact add_str (fun t3 tk3 => ⟨.str _, σ, ⟨t3, rfl⟩, R.toks tk3, k⟩) (by rw [hlen, sizeLine_eq]; omega)

inductive RestR (nl l : List Nat) : List Nat → Option (Str × Str) → Prop
  | bare (k : Nat) : k ≤ 2 → RestR nl l (nl ++ List.replicate k 32) none
  | tab : RestR nl l (nl ++ [9] ++ l.filter (· != 32)) none
  | words (m : List Nat) : (∃ k j, k ≤ 2 ∧ j ≤ 2 ∧ m = List.replicate k 32 ++ l ++ List.replicate j 32) → off m ≠ [] → RestR nl l (nl ++ 32 :: m) (some (T nl, T (off m)))
  | blank (m : List Nat) : (∃ k j, k ≤ 2 ∧ j ≤ 2 ∧ m = List.replicate k 32 ++ l ++ List.replicate j 32) → off m = [] → RestR nl l (nl ++ 32 :: m) none
theorem sp_T : Str.ofString " " = T [32] := by decide +kernel
theorem rest_spec {prog : Program} {w : World} {fz : List (Addr × AO)} {urn cs : Addr} {u : Urn} {B : Int} {nl l : List Nat} (hu : UrnOK B u) (hB : B ≤ 900000) (hnl : nl ≠ [] ∧ nl.length ≤ 100) (hl : l.length ≤ 100) :
    Spec K prog w 1 323 [.ref urn, .str (T nl), .str (T l)] (UrnLed urn cs u) fz (fun p mu fz' => ∃ (u' : Urn) (t : Addr) (r : List Nat) (ws : Option (Str × Str)) (wv : PV), p = .ref t ∧ mu = UrnLed urn cs u' ∧ UrnOK (B + 10) u' ∧ (t, AO.tuple [.str (T r), wv]) ∈ fz' ∧ wordsPV fz' ws wv ∧ RestR nl l r ws) := by
  refine enter F32 (by rfl) ?_
  intro c cK cn cp cw cN cG cC cS cF
  replace cN : c.names = _ := cN
  replace cG : c.gl = _ := cG
  show Wk c PF.Is _ _ ⟨[some (.ref urn), some (.str (T nl)), some (.str (T l)), none, none, none, none], UrnLed urn cs u, fz⟩
  have up : ∀ (k : Int) (u' : Urn), UrnOK (B + k) u' → k ≤ 10 → UrnOK (B + 10) u' := fun k u' h hk => ⟨h.cur, ⟨h.k.1, by have := h.k.2; omega⟩, h.z, h.cells, h.len⟩
  refine s_cons ?_
  repeat' walk_at "ST"
  refine ⟨keepK cK k273, ?_⟩
  repeat' walk_at "ST"
  refine wc_pull (many := 9) hu (by omega) (by decide) cK (by rw [cn]; decide) (takeAll _) fun bent u1 w0 w1 hu1 => ?_
  rw [List.append_nil]
  repeat' walk_at "ST"
  refine ⟨keepK cK k273, ?_⟩
  repeat' walk_at "ST"
  refine wc_pull (many := 3) hu1 (by omega) (by decide) cK (by rw [cn]; decide) (takeAll _) fun d2 u2 e0 e1 hu2 => ?_
  rw [List.append_nil, sp_T]
  refine b_mul_str (mul_ok (by rw [T_len]; decide) (by omega) (by omega)) ?_
  rw [mul_one]
  have hj : d2.toNat ≤ 2 := by omega
  generalize d2.toNat = j at hj
  have hjl : (List.replicate j 32).length ≤ 2 := by rw [List.length_replicate]; exact hj
  repeat' walk_at "ST"
  refine wite (fun hb0 => ?_) (fun hb0 => ?_)
  · repeat' walk_at "ST"
    refine b_add_str (by rw [T_len, T_len]; omega) ?_
    rw [T_add]
    repeat' walk_at "ST"
    rename_i t
    exact ⟨UrnLed urn cs u2, _, _, _, .cons (.tail .head) (.cons (.tail .head) .nil), takeAll _, u2, t, _, none, .none, rfl, rfl, up 2 u2 (by have := hu2; rwa [show B + 1 + 1 = B + 2 by omega] at this) (by decide), .head _, rfl, .bare j hj⟩
  repeat' walk_at "ST"
  refine wite (fun hb1 => ?_) (fun hb1 => ?_)
  · refine s_cons (s_return (w_tuple (l_cons ?_)))
    have hrep : Txt.replace (T l) (T [32]) (Str.ofString "") = T (l.filter (· != 32)) := by
      have h := replace_strikes (T l) 32
      rw [T_cps] at h
      rw [show T [32] = ⟨#[32]⟩ from rfl, show Str.ofString "" = ⟨#[]⟩ from T_nil, ← h]
      exact T_of _
    have htab : Str.ofString "\t" = T [9] := by decide +kernel
    have hfl : (l.filter (· != 32)).length ≤ 100 := Nat.le_trans (List.length_filter_le ..) hl
    refine w_tabReplace cN (by walk_at "AT") (by walk_at "AT") (by rw [T_len]; cases nl with | nil => exact absurd rfl hnl.1 | cons a r => rfl) (by rw [T_len]; omega) (by rw [T_len]; omega) (by rw [htab, T_len]; exact ⟨rfl, by decide⟩) (by decide +kernel) (by decide +kernel) rfl ?_ (by rw [hrep, T_len]; omega)
    rw [hrep, htab, T_add, T_add]
    repeat' walk_at "ST"
    rename_i t
    exact ⟨UrnLed urn cs u2, _, _, _, .cons (.tail .head) (.cons (.tail .head) .nil), takeAll _, u2, t, _, none, .none, rfl, rfl, up 2 u2 (by have := hu2; rwa [show B + 1 + 1 = B + 2 by omega] at this) (by decide), .head _, rfl, .tab⟩
  refine s_nil (seq_next ?_)
  refine s_cons ?_
  repeat' walk_at "ST"
  refine b_add_str (by rw [T_len, T_len]; simp only [List.length_cons, List.length_nil]; omega) ?_
  rw [T_add]
  repeat' walk_at "ST"
  refine ⟨keepK cK k273, ?_⟩
  repeat' walk_at "ST"
  refine wc_pull (many := 3) hu2 (by omega) (by decide) cK (by rw [cn]; decide) (takeAll _) fun d3 u3 g0 g1 hu3 => ?_
  rw [List.append_nil]
  refine b_mul_str (mul_ok (by rw [T_len]; decide) (by omega) (by omega)) ?_
  rw [mul_one]
  have hk : d3.toNat ≤ 2 := by omega
  generalize d3.toNat = k at hk
  have hkl : (List.replicate k 32).length ≤ 2 := by rw [List.length_replicate]; exact hk
  refine b_add_str (by rw [T_len, T_len, List.length_append]; simp only [List.length_cons, List.length_nil]; omega) ?_
  rw [T_add]
  repeat' walk_at "ST"
  refine b_add_str (by rw [T_len, T_len, List.length_append, List.length_append]; simp only [List.length_cons, List.length_nil]; omega) ?_
  rw [T_add]
  repeat' walk_at "ST"
  refine b_add_str (by rw [T_len, T_len, List.length_append, List.length_append, List.length_append]; simp only [List.length_cons, List.length_nil]; omega) ?_
  rw [T_add]
  have hr : nl ++ [32] ++ List.replicate k 32 ++ l ++ List.replicate j 32 = nl ++ 32 :: (List.replicate k 32 ++ l ++ List.replicate j 32) := by simp [List.append_assoc]
  rw [hr]
  have hmm : ∃ k' j', k' ≤ 2 ∧ j' ≤ 2 ∧ List.replicate k 32 ++ l ++ List.replicate j 32 = List.replicate k' 32 ++ l ++ List.replicate j' 32 := ⟨k, j, hk, hj, rfl⟩
  have hml : (List.replicate k 32 ++ l ++ List.replicate j 32).length ≤ 104 := by rw [List.length_append, List.length_append]; omega
  generalize List.replicate k 32 ++ l ++ List.replicate j 32 = m at hmm hml
  repeat' walk_at "ST"
  refine ⟨fun _ => trivial, ?_⟩
  repeat' walk_at "ST"
  refine c_len_str (by rw [T_len]; omega) ?_
  repeat' walk_at "ST"
  rw [T_len]
  refine sl_str_from (by rw [T_len, List.length_append, List.length_cons]; omega) ?_
  rw [slice_from_T, List.drop_left]
  refine put cN (by walk_at "PUT") (seq_next ?_)
  refine s_cons ?_
  refine s_while (n₀ := m.length + 1) (fun n σ => ∃ p, n = p.length ∧ p.length ≤ 105 ∧ σ = ⟨[some (.ref urn), some (.str (T nl)), some (.str (T l)), some (.int bent), some (.str (T (List.replicate j 32))), some (.str (T (nl ++ 32 :: m))), some (.str (T p))], UrnLed urn cs u3, fz⟩ ∧ p.dropWhile is32 = m.dropWhile is32) ⟨32 :: m, rfl, by rw [List.length_cons]; omega, rfl, drop_step⟩ ?_
  rintro c' Sb n σ ⟨p, rfl, hpl, rfl, hp⟩
  have cN' : c'.names = _ := Sb.names.trans cN
  have cG' : c'.gl = _ := Sb.gl.trans cG
  repeat' walk_at "ST"
  refine sl_str_to (by rw [T_len]; omega) ?_
  rw [show Txt.slice (T p) none (some 1) = T (p.take 1) from slice_to_T p 1]
  repeat' walk_at "ST"
  refine wite (fun h => ?_) (fun h => ?_)
  · have h1 : p.take 1 = [32] := T_inj.mp (of_decide_eq_true h)
    repeat' walk_at "ST"
    refine sl_str_from (by rw [T_len]; omega) ?_
    rw [show Txt.slice (T p) (some 1) none = T (p.drop 1) from slice_from_T p 1]
    repeat' walk_at "ST"
    cases p with
    | nil => cases h1
    | cons a r =>
      obtain rfl : a = 32 := by simpa using h1
      refine ⟨r.length, by rw [List.length_cons]; omega, r, rfl, by rw [List.length_cons] at hpl; omega, rfl, ?_⟩
      rw [← hp, drop_step]
  · have h1 : p.take 1 ≠ [32] := fun e => of_decide_eq_false h (T_inj.mpr e)
    rw [drop_stop h1] at hp
    subst hp
    refine seq_next ?_
    refine s_cons ?_
    refine s_while (n₀ := (m.dropWhile is32).length) (fun n σ => ∃ p, n = p.length ∧ p.length ≤ 105 ∧ σ = ⟨[some (.ref urn), some (.str (T nl)), some (.str (T l)), some (.int bent), some (.str (T (List.replicate j 32))), some (.str (T (nl ++ 32 :: m))), some (.str (T p))], UrnLed urn cs u3, fz⟩ ∧ rdrop p = off m) ⟨_, rfl, hpl, rfl, (off_eq m).symm⟩ ?_
    rintro c2 Sb2 n2 σ2 ⟨p, rfl, hpl2, rfl, hp⟩
    have cN2 : c2.names = _ := Sb2.names.trans cN
    have cG2 : c2.gl = _ := Sb2.gl.trans cG
    repeat' walk_at "ST"
    refine sl_str_from (by rw [T_len]; omega) ?_
    rw [slice_last_T]
    repeat' walk_at "ST"
    refine wite (fun h => ?_) (fun h => ?_)
    · have h1 : p.drop (p.length - 1) = [32] := T_inj.mp (of_decide_eq_true h)
      repeat' walk_at "ST"
      refine sl_str_to (by rw [T_len]; omega) ?_
      rw [slice_init_T]
      repeat' walk_at "ST"
      obtain ⟨q1, q2⟩ := rdrop_step h1
      exact ⟨_, q2, _, rfl, by omega, rfl, by rw [q1, hp]⟩
    · have h1 : p.drop (p.length - 1) ≠ [32] := fun e => of_decide_eq_false h (T_inj.mpr e)
      rw [rdrop_stop h1] at hp
      subst hp
      refine seq_next ?_
      refine s_cons ?_
      have hu10 := up 3 u3 (by have := hu3; rwa [show B + 1 + 1 + 1 = B + 3 by omega] at this) (by decide)
      refine s_return (w_tuple (l_cons ?_))
      repeat' walk_at "ST"
      have e : decide (T (off m) = Str.ofString "") = (off m).isEmpty := T_eq_nil _
      rw [e]
      cases hE : (off m).isEmpty with
      | true =>
        have h0 : off m = [] := List.isEmpty_iff.mp hE
        repeat' walk_at "ST"
        rename_i t
        exact ⟨UrnLed urn cs u3, _, _, _, .cons (.tail .head) (.cons (.tail .head) .nil), takeAll _, u3, t, _, none, .none, rfl, rfl, hu10, .head _, rfl, .blank m hmm h0⟩
      | false =>
        have h0 : off m ≠ [] := fun e => by rw [e] at hE; cases hE
        repeat' walk_at "ST"
        rename_i t1 t
        exact ⟨UrnLed urn cs u3, _, _, _, .cons (.tail (.tail .head)) (.cons (.tail (.tail .head)) .nil), takeAll _, u3, t, _, some (T nl, T (off m)), .ref t1, rfl, rfl, hu10, .head _, ⟨t1, rfl, .tail _ (.head _)⟩, .words m hmm h0⟩
end
section
set_option maxRecDepth 100000
set_option maxHeartbeats 4000000
set_option linter.unusedVariables false
noncomputable abbrev cellLed (cl : Nat → List (Str × Addr)) (cvs : List (Option PV)) (n : Nat) : List (Addr × AO) := ((cl n).map (·.2)).zip (cvs.map .cell)
/-- the data of a def with cells -/
structure FnC (K : Params → Frag) (f : Addr) (qual : Str) (ps names : List Str) (body : List Stmt) (scope : Scope) (gl : List (Str × PV)) (cl : Nat → List (Str × Addr)) (args : List PV) (loc0 : List (Option PV)) (cvs : List (Option PV)) : Prop where
  at_ : ∃ oc od osl name params dV kV doc pm an cdv ct, ∀ P, (K P).lookup f = some ⟨oc, od, .func (fnX name qual params body scope [] dV kV doc pm an cdv ct), osl⟩ ∧ codeIn (K P) cdv qual = true ∧
    ∀ (s : Shared) vs, (K P).In s.heap → vs.length = ps.length → BindsTo s (fnX name qual params body scope [] dV kV doc pm an cdv ct) ⟨vs, []⟩ (ps.zip vs)
  al : ps.length = args.length
  nod : names.Nodup
  loc : (names.all fun x => scope.names.lookup x == some .local && !(x == ("__debug__" : Str))) = true
  glk : (gl.all fun p => scope.names.lookup p.1 == some .globalImplicit && !(p.1 == ("__debug__" : Str))) = true
  glv : ∀ p ∈ gl, Glo K p.1 p.2
  kind : scope.kind = .function
  co : scope.isCoroutine = false
  gen : scope.isGenerator = false
  cells : ∀ n, cellsFrom n scope.names [] = cl n
  hkind : ∀ n x, x ∈ ps → scope.names.lookup x = some .local ∨ (scope.names.lookup x = some .cell ∧ ((cl n).lookup x).isSome = true)
  clk : ∀ n, ∀ p ∈ cl n, (cl n).lookup p.1 = some p.2 ∧ scope.names.lookup p.1 = some .cell ∧ (p.1 == ("__debug__" : Str)) = false ∧ (p.1 == ("__classdict__" : Str)) = false
  low : ∀ n, ∀ p ∈ cl n, n ≤ p.2
  apart : ∀ n, ((cl n).map (·.2)).Nodup
  hl : ∀ vs, Are args vs → Locs names loc0 (bindL (fun x => scope.names.lookup x) (ps.zip vs) fun _ => none)
  hc : ∀ vs, Are args vs → ∀ n cells, CellsAre (bindC (fun x => scope.names.lookup x) (ps.zip vs) fun _ => none) (cl n) cells → ∀ P, ∀ p ∈ cellLed cl cvs n, ∃ o, (p.1, o) ∈ cells ∧ p.2.Is P o

theorem zip_fst {α β : Type} : ∀ (l : List α) (m : List β), ((l.zip m).map (·.1)).Sublist l
  | [], _ => by simp
  | _ :: _, [] => by simp
  | a :: l, b :: m => by rw [List.zip_cons_cons, List.map_cons]; exact (zip_fst l m).cons₂ a
theorem enterC {K : Params → Frag} {prog : Program} {w : World} {n : Nat} {f : Addr} {qual : Str} {ps names : List Str} {body : List Stmt} {scope : Scope} {gl : List (Str × PV)} {cl : Nat → List (Str × Addr)} {args : List PV} {loc0 : List (Option PV)} {cvs : List (Option PV)} {mu fz : List (Addr × AO)} {Post : PV → List (Addr × AO) → List (Addr × AO) → Prop} {Exc : Addr → Prop}
    (D : FnC K f qual ps names body scope gl cl args loc0 cvs)
    (h : ∀ (c : Cx) (nc : Nat), c.K = K → c.n = n → c.prog = prog → c.w = w → c.names = names → c.gl = gl → c.cl = cl nc → c.env.scope = scope → c.env.cells = cl nc → c.fz₀ = fz → c.rsv = [] → c.exc = [] → (c.env.frame = some c.env.locals ∧ ∃ outer, c.A.frames = some (c.env :: outer)) →
      Wk c PF.Is (execs body c.env) (fun pf σ => Fin Post (match pf with | .ret p => p | _ => .none) σ) ⟨loc0, cellLed cl cvs nc ++ mu, fz⟩) : SpecX K prog w n f args mu fz Post Exc := by
  intro A s vs R hh hd hu hB hS ha hmut hnod hfz hR hX
  obtain ⟨base, fr, B⟩ := hB
  obtain ⟨oc, od, osl, name, params, dV, kV, doc, pm, an, cdv, ct, hf⟩ := D.at_
  obtain ⟨ho, hcd, hbind⟩ := hf w.params
  have hvl : vs.length = ps.length := by rw [ha.length, D.al]
  have hfrA : frA A = fr.filterMap (·.frame) := frA_of B.stack
  have hg : (hideAll s.heap (Adr mu ++ frA A)).StaysIn s.heap := fun b o e => of_hideAll _ e
  have hloc : ∀ x ∈ names, scope.names.lookup x = some .local ∧ (x == ("__debug__" : Str)) = false := fun x hx => by
    have := List.all_eq_true.mp D.loc x hx
    simp only [Bool.and_eq_true, beq_iff_eq, Bool.not_eq_true'] at this
    exact this
  have hbind := hbind s vs (hS.kin.keeps fun b o e => of_hideAll _ e) hvl
  refine codeAny_call_function (by unfold recursionLimit; omega) (hg _ _ (hS.kin _ _ ho)) rfl D.co D.gen rfl (codeRec_of (hS.kin.keeps hg) hcd) (hbind _ _ _ _ ?_)
  refine wpAny_newFunctionEnv_cells D.kind (fun x hx => ?_) fun env' he s' x => ?_
  · rw [D.cells]; exact D.hkind _ _ (List.of_mem_zip hx).1
  subst he
  refine ⟨(hS.nolimit.keeps hg).keeps x.toInCall.keep, codeAny_func ?_⟩
  obtain ⟨h₁, tk, rfl, _⟩ := x.done
  have hk₁ := x.toInCall.keep
  have hns : h₁.Ns s.heap.objs.size (bindL (fun x => scope.names.lookup x) (ps.zip vs) fun _ => none) := x.toInCall.ns
  obtain ⟨cells, NC, Y⟩ := Cl.news (h₀ := s.heap) (L := s.heap.objs.size) (h := h₁) (cs := cl (s.heap.objs.size + 1)) (Nat.le_refl _) fun n' c' hm => by
    have hl := (D.clk _ _ hm).1
    refine ⟨x.cell n' c' (by show (cellsFrom _ _ _).lookup _ = _; rw [D.cells]; exact hl), x.above n' c' (by show _ ∈ cellsFrom _ _ _; rw [D.cells]; exact hm)⟩
  have hcell := D.hc vs ha _ _ Y
  let env := envOfC qual scope s.heap.objs.size f cdv
  let E : Value → Shared → Prop := fun e s' => wpAny (model prog w) (A.deeper env) (leaving env e) (fun _ s'' => R (.error e) s'') (fun e' s'' => R (.error e') s'') s'
  let ofr : List (Addr × Obj) := (frA A).filterMap fun b => (s.heap.get? b).map fun o => (b, o)
  let c : Cx := ⟨K, n, prog, w, A.deeper env, env, hideAll s.heap (Adr mu ++ frA A), s, E, names, gl, cl (s.heap.objs.size + 1), fz, [], [], ofr⟩
  have inFr : ∀ {b : Addr}, b ∈ frA A → base.get? b = none ∧ b ∉ Adr mu ∧ ∃ o, s.heap.get? b = some o ∧ (∀ vs, o.data ≠ .fields vs) ∧ (b, o) ∈ ofr := fun {b} hb => by
    rw [hfrA] at hb
    obtain ⟨h1, o, h2, h3⟩ := B.frames.mem hb
    refine ⟨h1, fun hm => ?_, o, of_hideAll _ h2, h3, List.mem_filterMap.mpr ⟨b, hfrA ▸ hb, by rw [of_hideAll _ h2]; rfl⟩⟩
    rw [hideAll_none _ hm] at h2; cases h2
  have ofIn : ∀ {p : Addr × Obj}, p ∈ ofr → p.1 ∈ frA A ∧ s.heap.get? p.1 = some p.2 := fun {p} hp => by
    obtain ⟨b, hb, e⟩ := List.mem_filterMap.mp hp
    obtain ⟨o, ho, rfl⟩ := Option.map_eq_some_iff.mp e
    exact ⟨hb, ho⟩
  have ofMap : ∀ {b : Addr}, b ∈ frA A → b ∈ ofr.map (·.1) := fun {b} hb => let ⟨_, _, o, _, _, h⟩ := inFr hb; List.mem_map.mpr ⟨(b, o), h, rfl⟩
  have st₁ : (hideAll s.heap (Adr mu ++ frA A)).StaysIn h₁ := fun b o e => hk₁ b o (hg b o e)
  have hfresh : ∀ {a : Addr} {x : AO}, Has w.params s.heap a x → a ≠ s.heap.objs.size := fun ⟨o, e, _⟩ => Nat.ne_of_lt (Heap.lt_size e)
  have ok : Ok c := by
    refine ⟨hS, hh, D.kind, D.nod, fun x hx => (hloc x hx).2, fun x hx => (hloc x hx).1, fun p hp => ⟨D.glv p hp, ?_⟩, rfl, rfl, fun p hp => ?_, ?_, ?_, fun p hp => ?_, ?_⟩
    · have := List.all_eq_true.mp D.glk p hp
      simp only [Bool.and_eq_true, beq_iff_eq, Bool.not_eq_true'] at this
      exact this
    · obtain ⟨c1, c2, c3, c4⟩ := D.clk _ p hp
      exact ⟨by show (cellsFrom _ _ _).lookup _ = _; rw [D.cells]; exact c1, .inl c2, c3, c4⟩
    · show A.depth + 1 + 2 * n < 900; omega
    · show A.units + 3 + 20 * n < 6000; omega
    · obtain ⟨h1, h2⟩ := ofIn hp
      refine ⟨hideAll_none _ (List.mem_append_right _ h1), ?_⟩
      obtain ⟨_, _, o, h3, h4, _⟩ := inFr h1
      rw [h2] at h3; cases h3
      exact h4
    · refine ⟨base, env :: fr, Around.frames_deeper B.stack, fun b hb => ?_, fun g m sg ns og => ⟨fun b o q => sg b o ?_, ?_⟩⟩
      · obtain ⟨z, hz, e⟩ := List.mem_filterMap.mp hb
        rcases List.mem_cons.mp hz with rfl | hz
        · exact .inl (Option.some.inj e).symm
        · exact .inr (ofMap (hfrA ▸ List.mem_filterMap.mpr ⟨z, hz, e⟩))
      · have q' := B.stays b o q
        refine hideAll_get _ (of_hideAll _ q') fun hm => ?_
        rcases List.mem_append.mp hm with hm | hm
        · rw [hideAll_none _ hm] at q'; cases q'
        · rw [(inFr hm).1] at q; cases q
      · obtain ⟨oL, es, ep, hL, hLd, r⟩ := ns
        refine ⟨by show scope.kind ≠ _; rw [D.kind]; decide, ⟨s.heap.objs.size, oL, rfl, ?_, hL, fun vs q => by rw [hLd] at q; cases q⟩, funFrames_on B.frames fun b hb o hbo => ?_⟩
        · cases q : base.get? s.heap.objs.size with
          | none => rfl
          | some o => exact absurd (Heap.lt_size (of_hideAll _ (B.stays _ _ q))) (Nat.lt_irrefl _)
        · obtain ⟨_, _, o', h1, _, h2⟩ := inFr (hfrA ▸ hb)
          rw [of_hideAll _ hbo] at h1; cases h1
          obtain ⟨sl, hs⟩ := og _ h2
          exact ⟨_, hs, rfl⟩
  have up : ∀ {a : Addr} {x : AO}, Has w.params s.heap a x → Has w.params h₁ a x := fun ⟨o, e, hi⟩ => ⟨o, hk₁ _ _ e, hi⟩
  have hcl : ∀ p ∈ cellLed cl cvs (s.heap.objs.size + 1), s.heap.objs.size + 1 ≤ p.1 := fun p hp => by
    have h1 := (List.of_mem_zip hp).1
    obtain ⟨z, hz, e⟩ := List.mem_map.mp h1
    rw [← e]; exact D.low _ z hz
  have old : ∀ {a : Addr} {x : AO}, Has w.params s.heap a x → a < s.heap.objs.size := fun ⟨o, e, _⟩ => Heap.lt_size e
  have cfresh : ∀ p ∈ cellLed cl cvs (s.heap.objs.size + 1), (hideAll s.heap (Adr mu ++ frA A)).get? p.1 = none := fun p hp => by
    cases q : (hideAll s.heap (Adr mu ++ frA A)).get? p.1 with
    | none => rfl
    | some o => exact absurd (Nat.lt_of_lt_of_le (Heap.lt_size (of_hideAll _ q)) (Nat.le_of_succ_le (hcl p hp))) (Nat.lt_irrefl _)
  have R₀ : Rl c ⟨loc0, cellLed cl cvs (s.heap.objs.size + 1) ++ mu, fz⟩ { heap := h₁, gens := s.gens, drawn := s.drawn, toks := tk, os := s.os } := by
    refine ⟨ok, rfl, rfl, rfl, ⟨_, ⟨hns, st₁, Nat.le_of_eq (hideAll_size _ _)⟩, D.hl vs ha⟩, fun p hp => ?_, ?_, fun p hp => ⟨up (hfz p hp).1, hfresh (hfz p hp).1, fun hm => ?_, .inl hp⟩, fun _ hp => hp, fun _ hp => (nomatch hp), fun _ hp => (nomatch hp), fun p hp => ⟨p.2.slots, hk₁ _ _ (ofIn hp).2⟩,
     fun p hp => ⟨Nat.ne_of_lt (Heap.lt_size (ofIn hp).2), fun hm => ?_, fun hm => by
       obtain ⟨z, hz, e⟩ := List.mem_map.mp hm
       exact (hfz z hz).2.2 (e ▸ (ofIn hp).1)⟩⟩
    · rcases List.mem_append.mp hp with hp | hp
      · obtain ⟨o, h1, h2⟩ := hcell w.params p hp
        exact ⟨⟨o, (NC _ h1).1, h2⟩, Nat.ne_of_gt (hcl p hp), cfresh p hp⟩
      · exact ⟨up (hmut p hp), hfresh (hmut p hp), hideAll_none _ (List.mem_append_left _ (List.mem_map_of_mem hp))⟩
    · show (List.map (·.1) (_ ++ mu)).Nodup
      rw [List.map_append]
      refine List.nodup_append.mpr ⟨?_, hnod, fun a ha b hb e => ?_⟩
      · exact (List.Sublist.nodup (l₂ := (cl (s.heap.objs.size + 1)).map (·.2)) (zip_fst _ _) (D.apart _))
      · subst e
        obtain ⟨p, hp, rfl⟩ := List.mem_map.mp ha
        obtain ⟨q, hq, e⟩ := List.mem_map.mp hb
        have h1 := old (hmut q hq)
        have h2 := hcl p hp
        rw [e] at h1
        exact absurd (Nat.lt_of_lt_of_le h1 (Nat.le_of_succ_le h2)) (Nat.lt_irrefl _)
    · rw [List.map_append] at hm
      rcases List.mem_append.mp hm with hm | hm
      · obtain ⟨q, hq, e⟩ := List.mem_map.mp hm
        have h1 := old (hfz p hp).1
        have h2 := hcl q hq
        rw [← e] at h1
        exact absurd (Nat.lt_of_lt_of_le h1 (Nat.le_of_succ_le h2)) (Nat.lt_irrefl _)
      · exact (hfz p hp).2.1 hm
    · rw [List.map_append] at hm
      rcases List.mem_append.mp hm with hm | hm
      · obtain ⟨q, hq, e⟩ := List.mem_map.mp hm
        have h1 := Heap.lt_size (ofIn hp).2
        have h2 := hcl q hq
        rw [← e] at h1
        exact absurd (Nat.lt_of_lt_of_le h1 (Nat.le_of_succ_le h2)) (Nat.lt_irrefl _)
      · exact (inFr (ofIn hp).1).2.1 hm
  have hsome : ∀ {a : Addr}, (hideAll s.heap (Adr mu ++ frA A)).get? a = none → a ∈ Adr mu ∨ a ∈ frA A ∨ s.heap.get? a = none := fun {a} e => by
    by_cases hm : a ∈ Adr mu ++ frA A
    · exact (List.mem_append.mp hm).imp id .inl
    · cases q : s.heap.get? a with
      | none => exact .inr (.inr rfl)
      | some o => rw [hideAll_get _ q hm] at e; cases e
  -- from the place's start to a state of its own, but for the frames
  have ups : ∀ {σ : St} {s₁ : Shared}, Rl c σ s₁ → (hideAll s.heap (Adr mu)).UpToSlots s₁.heap := fun {σ s₁} R₁ b o q hn => by
    obtain ⟨m, F, _⟩ := R₁.fr
    by_cases hb : b ∈ frA A
    · obtain ⟨_, _, o', h1, _, h2⟩ := inFr hb
      rw [of_hideAll _ q] at h1; cases h1
      exact R₁.ofo _ h2
    · refine ⟨o.slots, F.keep b o (hideAll_get _ (of_hideAll _ q) fun hm => ?_)⟩
      rcases List.mem_append.mp hm with hm | hm
      · rw [hideAll_none _ hm] at q; cases q
      · exact hb hm
  have onto : ∀ {σ : St} {s₁ : Shared} {as : List Addr}, Rl c σ s₁ → (∀ b ∈ as, b = s.heap.objs.size ∨ b ∈ frA A ∨ c.h₀.get? b = none) → (hideAll (hideAll s.heap (Adr mu)) (fr.filterMap (·.frame))).StaysIn (hideAll s₁.heap as) := fun {σ s₁ as} R₁ has b o q => by
    obtain ⟨m, F, _⟩ := R₁.fr
    have q1 := of_hideAll _ q
    have nf : b ∉ frA A := fun hm => by rw [hideAll_none _ (hfrA ▸ hm)] at q; cases q
    have q2 : c.h₀.get? b = some o := hideAll_get _ (of_hideAll _ q1) fun hm => by
      rcases List.mem_append.mp hm with hm | hm
      · rw [hideAll_none _ hm] at q1; cases q1
      · exact nf hm
    refine hideAll_get _ (F.keep b o q2) fun hm => ?_
    rcases has b hm with e | e | e
    · subst e; exact absurd (Heap.lt_size (of_hideAll _ q1)) (Nat.lt_irrefl _)
    · exact nf e
    · rw [q2] at e; cases e
  have fly : AccFly c (fun C _ => Exc C) := fun C σ s₁ e s' hC R₁ hF => by
    obtain ⟨z1, z2, z3, l, a0, hl, hfl, hup⟩ := hF
    rw [show c.A.frames = some (env :: fr) from Around.frames_deeper B.stack] at hl
    cases hl
    show wpAny _ _ _ _ _ _
    refine wpAny_leaves_onW (Around.frames_deeper B.stack) (L := s.heap.objs.size) rfl hfl fun h' x1 x2 => ?_
    refine hX C e _ hC ⟨z1.trans R₁.gens, z2.trans R₁.drawn, z3.trans R₁.os, fr, a0, B.stack, flyingW_base (onto R₁ fun b hb => ?_) x1, (ups R₁).trans (hup.trans x2)⟩
    obtain ⟨z, hz, hz'⟩ := List.mem_filterMap.mp hb
    rcases List.mem_cons.mp hz with rfl | hz
    · exact .inl (Option.some.inj hz').symm
    · exact .inr (.inl (hfrA ▸ List.mem_filterMap.mpr ⟨z, hz, hz'⟩))
  have new : AccNew c (fun C _ => Exc C) := fun C σ s₁ e d hC R₁ he => by
    obtain ⟨⟨oe, hoe, a0, rfl⟩, hel, he0⟩ := R₁.led _ he
    obtain ⟨m, F, _⟩ := R₁.fr
    obtain ⟨base', fr', hfr', _, hbl⟩ := R₁.ok.below
    rw [show c.A.frames = some (env :: fr) from Around.frames_deeper B.stack] at hfr'
    cases hfr'
    have ff := (hbl s₁.heap m F.keep F.ns R₁.ofo).2
    have hin : ∀ ev ∈ (env :: fr), ∀ b, ev.frame = some b → b ∈ e :: (env :: fr).filterMap (·.frame) := fun ev he' b hb => List.mem_cons_of_mem _ (List.mem_filterMap.mpr ⟨ev, he', hb⟩)
    show wpAny _ _ _ _ _ _
    refine wpAny_leaving_firstW (base := hideAll s₁.heap (e :: (env :: fr).filterMap (·.frame))) (a0 := a0) (Around.frames_deeper B.stack) (funFrames_hide ff hin) (L := s.heap.objs.size) rfl hoe (fun b o q => of_hideAll _ q) (hideAll_none _ (List.mem_cons_self ..)) rfl rfl rfl fun h' hL => ?_
    obtain ⟨k1, ⟨_, _, k2⟩, k3, k4⟩ := hL
    refine hX C e _ hC ⟨R₁.gens, R₁.drawn, R₁.os, fr, a0, B.stack, flyingW_base (onto R₁ fun b hb => ?_) (⟨k1, hideAll_none _ (List.mem_cons_self ..), k2, k3⟩ : Heap.FlyingW _ fr e (.ref C) a0 h'), (ups R₁).trans k4⟩
    rcases List.mem_cons.mp hb with rfl | hb
    · exact .inr (.inr he0)
    obtain ⟨z, hz, hz'⟩ := List.mem_filterMap.mp hb
    rcases List.mem_cons.mp hz with rfl | hz
    · exact .inl (Option.some.inj hz').symm
    · exact .inr (.inl (hfrA ▸ List.mem_filterMap.mpr ⟨z, hz, hz'⟩))
  refine wpAny_mono (h c (s.heap.objs.size + 1) rfl rfl rfl rfl rfl rfl rfl rfl (D.cells _) rfl rfl rfl ⟨rfl, fr, Around.frames_deeper B.stack⟩ _ R₀) (fun f s' hpat => ?_) fun _ _ e => e
  obtain ⟨pf, σ', hf, R', hq⟩ := hpat
  obtain ⟨mu', rem, fr', rest, t1, t2, hq⟩ := hq
  have R'' := R'.conv t1 t2
  obtain ⟨m, F, L⟩ := R''.fr
  have back : Back w.params A s mu fz s' mu' (fr' ++ σ'.fz) := ⟨R''.gens, R''.drawn, R''.os, F.keep, fun b hb o hbo => by
      obtain ⟨_, _, o', h1, _, h2⟩ := inFr hb
      rw [hbo] at h1; cases h1
      exact R''.ofo _ h2,
    fun p hp => ⟨(R''.led p hp).1, (hsome (R''.led p hp).2.2).imp id fun e => e.elim (fun e => (R''.ledFr hp (ofMap e)).elim) id⟩, R''.nod, R''.sub,
    fun p hp => ⟨(R''.fz p hp).1, (R''.fz p hp).2.2.1, (R''.fz p hp).2.2.2.imp id fun e => (hsome e).imp id fun e => e.elim (fun e => (R''.fzFr hp (ofMap e)).elim) id⟩⟩
  cases pf with
  | ret p => obtain ⟨v, rfl, hv⟩ := hf; exact hR v s' p _ _ hv back hq
  | next => cases hf; exact hR .none s' .none _ _ rfl back hq
  | brk => cases hf; exact hR .none s' .none _ _ rfl back hq
  | cont => cases hf; exact hR .none s' .none _ _ rfl back hq
end
section
set_option maxRecDepth 100000
set_option maxHeartbeats 4000000
set_option linter.unusedVariables false
theorem FC25 (a : Addr) : FnC K 254 (Str.ofString "Store.told") [Str.ofString "self"] [Str.ofString "boxes"] b25 c25 G25 (fun n => [(Str.ofString "self", n)]) [.ref a] [none] [some (.ref a)] where
  at_ := ⟨_, _, _, _, _, _, _, _, _, _, _, _, fun P => ⟨rfl, by kernel_rfl, fun s vs _ hv => vs1 (fun a => BindsTo.of_eq (by kernel_rfl)) vs hv⟩⟩
  al := rfl
  nod := by decide
  loc := by decide +kernel
  glk := by decide +kernel
  glv := Gv25
  kind := by kernel_rfl
  co := by kernel_rfl
  gen := by kernel_rfl
  cells := fun n => by rfl
  hkind := fun n x hx => by
    rw [List.mem_singleton.mp hx]
    exact .inr ⟨by kernel_rfl, by kernel_rfl⟩
  clk := fun n p hp => by
    rw [List.mem_singleton.mp hp]
    exact ⟨by kernel_rfl, by kernel_rfl, (by decide : (Str.ofString "self" == ("__debug__" : Str)) = false), (by decide : (Str.ofString "self" == ("__classdict__" : Str)) = false)⟩
  low := fun n p hp => by rw [List.mem_singleton.mp hp]; exact Nat.le_refl _
  apart := fun n => List.pairwise_singleton _ _
  hl := fun vs hv => by
    refine ⟨rfl, fun i x p hx hp => ?_⟩
    match i with
    | 0 => cases hp
    | i + 1 => cases hp
  hc := fun vs hv n cells hcs P p hp => by
    obtain ⟨v, rfl, e⟩ := hv.one
    cases e
    obtain ⟨o, rfl, ho⟩ := hcs.one
    rw [List.mem_singleton.mp hp]
    refine ⟨o, .head _, .ref a, rfl, ho.trans ?_⟩
    kernel_rfl

theorem FC36 (a : Addr) : FnC K 347 (Str.ofString "law") [Str.ofString "script"] (p36 ++ l36) b36 c36 G36 (fun n => [(Str.ofString "number", n + 2), (Str.ofString "store", n + 1), (Str.ofString "urn", n)]) [.ref a] [some (.ref a), none, none, none, none, none, none, none, none, none, none, none] [none, none, none] where
  at_ := ⟨_, _, _, _, _, _, _, _, _, _, _, _, fun P => ⟨rfl, by kernel_rfl, fun s vs _ hv => vs1 (fun a => BindsTo.of_eq (by kernel_rfl)) vs hv⟩⟩
  al := rfl
  nod := by decide
  loc := by decide +kernel
  glk := by decide +kernel
  glv := Gv36
  kind := by kernel_rfl
  co := by kernel_rfl
  gen := by kernel_rfl
  cells := fun n => by rfl
  hkind := fun n x hx => by
    rw [List.mem_singleton.mp hx]
    exact .inl (by kernel_rfl)
  clk := fun n p hp => by
    simp only [List.mem_cons, List.not_mem_nil, or_false] at hp
    rcases hp with rfl | rfl | rfl
    · exact ⟨by kernel_rfl, by kernel_rfl, (by decide : (Str.ofString "number" == ("__debug__" : Str)) = false), (by decide : (Str.ofString "number" == ("__classdict__" : Str)) = false)⟩
    · exact ⟨by kernel_rfl, by kernel_rfl, (by decide : (Str.ofString "store" == ("__debug__" : Str)) = false), (by decide : (Str.ofString "store" == ("__classdict__" : Str)) = false)⟩
    · exact ⟨by kernel_rfl, by kernel_rfl, (by decide : (Str.ofString "urn" == ("__debug__" : Str)) = false), (by decide : (Str.ofString "urn" == ("__classdict__" : Str)) = false)⟩
  low := fun n p hp => by
    simp only [List.mem_cons, List.not_mem_nil, or_false] at hp
    rcases hp with rfl | rfl | rfl
    · exact Nat.le_add_right _ _
    · exact Nat.le_add_right _ _
    · exact Nat.le_refl _
  apart := fun n => by
    show [n + 2, n + 1, n].Nodup
    simp
  hl := fun vs hv => by
    obtain ⟨v, rfl, e⟩ := hv.one
    cases e
    refine ⟨rfl, fun i x p hx hp => ?_⟩
    match i with
    | 0 =>
      cases hp; cases hx
      exact ⟨_, by kernel_rfl, rfl⟩
    | i + 1 =>
      exfalso
      have : ∀ (j : Nat), ([none, none, none, none, none, none, none, none, none, none, none] : List (Option PV))[j]? ≠ some (some p) := fun j h => by
        have := List.mem_of_getElem? h
        simp at this
      exact this i hp
  hc := fun vs hv n cells hcs P p hp => by
    obtain ⟨v, rfl, e⟩ := hv.one
    cases e
    cases hcs with
    | cons h1 r =>
      cases r with
      | cons h2 r =>
        cases r with
        | cons h3 r =>
          cases r
          simp only [cellLed, List.map_cons, List.map_nil, List.zip_cons_cons, List.zip_nil_right, List.mem_cons, List.not_mem_nil, or_false] at hp
          rcases hp with rfl | rfl | rfl
          · exact ⟨_, .head _, h1.trans (by kernel_rfl)⟩
          · exact ⟨_, .tail _ (.head _), h2.trans (by kernel_rfl)⟩
          · exact ⟨_, .tail _ (.tail _ (.head _)), h3.trans (by kernel_rfl)⟩
end
section
set_option maxRecDepth 100000
set_option maxHeartbeats 8000000
set_option linter.unusedVariables false
theorem compOKC {c : Cx} {scope : Scope} {cl ccl : List (Str × Addr)} {cn : List Str} {gl : List (Str × PV)} (clos : closureFor scope c.env = pure cl)
    (hb : (scope.kind == .function && scope.names.all (fun x => x.2 != .cell && (x.2 != .local || scope.names.lookup x.1 == some .local)) && decide cn.Nodup && cn.all (fun x => scope.names.lookup x == some .local && !(x == ("__debug__" : Str))) && gl.all (fun p => scope.names.lookup p.1 == some .globalImplicit && !(p.1 == ("__debug__" : Str)))) = true)
    (glv : ∀ p ∈ gl, Glo c.K p.1 p.2) (hc : ∀ p ∈ ccl, cl.lookup p.1 = some p.2 ∧ scope.names.lookup p.1 = some .free ∧ (p.1 == ("__debug__" : Str)) = false ∧ (p.1 == ("__classdict__" : Str)) = false) : CompOK c scope cl cn gl ccl := by
  simp only [Bool.and_eq_true, List.all_eq_true, beq_iff_eq, decide_eq_true_eq, Bool.not_eq_true', bne_iff_ne, Bool.or_eq_true, ne_eq] at hb
  obtain ⟨⟨⟨⟨h1, h2⟩, h3⟩, h4⟩, h5⟩ := hb
  exact ⟨clos, h1, fun x hx hl => ((h2 x hx).2).resolve_left (fun q => q hl), fun x hx => (h2 x hx).1, h3, fun x hx => h4 x hx, fun p hp => h5 p hp, glv, hc⟩
theorem w_compX {c : Cx} {σ : St} {Q : PV → St → Prop} {target iter elt : Expr} {ifs : List Expr} {scope : Scope} {pos : Pos} {cl : List (Str × Addr)} {cn : List Str} {gl : List (Str × PV)} {ccl : List (Str × Addr)}
    (O : CompOK c scope cl cn gl ccl) (hiter : Wk c PV.Is (eval iter c.env) (fun p σ' => ∃ (items : List Itm) (σ₁ : St) (Inv : Nat → List PV → List (Addr × AO) → List (Addr × AO) → Prop), Itb c p items target σ₁ σ' ∧ items.length ≤ 1000000 ∧ Inv 0 [] σ₁.led σ₁.fz ∧
    (∀ c', CSib c scope cn gl ccl c' → ∀ i acc loc led fz x, items[i]? = some x → Inv i acc led fz → loc.length = cn.length → Takes c' target x (fun σ₃ => Tests c' ifs (fun ok σ₄ => if ok = true then
      Wk c' PV.Is (eval elt c'.env) (fun y σ₅ => Fit (Inv (i + 1) (acc ++ [y])) σ₅) σ₄ else Fit (Inv (i + 1) acc) σ₄) σ₃) ⟨loc, led, fz⟩) ∧
    (∀ acc led fz D, Inv items.length acc led fz → Q (.ref D) ⟨σ₁.loc, (D, .list acc) :: led, fz⟩)) σ)
    (hfo : ∀ x, foldedSetIterable iter c.env x = pure x := by intro _; rfl) : Wk c PV.Is (eval (.ListComp elt [⟨target, iter, ifs, 0⟩] scope pos) c.env) Q σ := fun s R => by
  rw [eval_ListComp]
  refine wpAny_comprehension_free (use := none) rfl hfo O.clos O.kind O.names (wpAny_mono (hiter s R) (fun v s₁ hpat => ?_) fun _ _ e => e)
  obtain ⟨p', σ', hv, R₁, items, σ₁, Inv, hit, hz, h0, turn, done⟩ := hpat
  refine hit s₁ v _ _ R₁ hv ?_
  intro I fp wr S h' tk W st R₂ hfp hwr
  refine comp_core (RR := fun acc C => compPost (model c.prog c.w) c.A c.E none _ acc C) O Inv hz h0 turn W st R₂ hfp hwr ?_
  intro D C s' acc led fz hI R₃ ⟨m, hm⟩ h1 h2 h3 h4 h5 h6 h7
  exact ⟨m, hm, fun h'' hs => ⟨.ref D, _, rfl, R₃.but (t := s'.toks) hs h1 h2 h4 h3 h5 (fun hm => (h6 hm).elim) h7, done acc led fz D hI⟩⟩
inductive BxsTold (fz : List (Addr × AO)) (S : Sx) : List Str → List PV → Prop
  | nil : BxsTold fz S [] []
  | cons {y p ys ps B} : S.bxs.lookup y = some B → BxTold fz B p → BxsTold fz S ys ps → BxsTold fz S (y :: ys) (p :: ps)
theorem BxsTold.sub {fz fz' : List (Addr × AO)} {S : Sx} {ys : List Str} {ps : List PV} (h : BxsTold fz S ys ps) (k : ∀ q ∈ fz, q ∈ fz') : BxsTold fz' S ys ps := by
  induction h with
  | nil => exact .nil
  | cons a b _ ih => exact .cons a (b.sub k) ih
theorem BxsTold.snoc {fz : List (Addr × AO)} {S : Sx} {ys : List Str} {ps : List PV} {y : Str} {B : Bx} {p : PV} (h : BxsTold fz S ys ps) (h1 : S.bxs.lookup y = some B) (h2 : BxTold fz B p) : BxsTold fz S (ys ++ [y]) (ps ++ [p]) := by
  induction h with
  | nil => exact .cons h1 h2 .nil
  | cons a b _ ih => exact .cons a b ih
theorem BxsTold.length {fz : List (Addr × AO)} {S : Sx} {ys : List Str} {ps : List PV} (h : BxsTold fz S ys ps) : ps.length = ys.length := by
  induction h with
  | nil => rfl
  | cons a b _ ih => rw [List.length_cons, List.length_cons, ih]
noncomputable def StTold (fz : List (Addr × AO)) (S : Sx) (p : PV) : Prop := ∃ t ts tb ps ys, p = .ref t ∧ (t, AO.tuple [.int 2, .ref ts, .ref tb]) ∈ fz ∧ (ts, AO.tuple []) ∈ fz ∧ (tb, AO.tuple ps) ∈ fz ∧ ys.Perm (S.bxs.map (·.1)) ∧ sortedS ys = true ∧ BxsTold fz S ys ps
theorem mem_lookup {y : Str} : ∀ {l : List (Str × Bx)}, y ∈ l.map (·.1) → ∃ B, l.lookup y = some B
  | (k, B) :: r, h => by
    rw [List.lookup_cons]
    cases hx : y == k with
    | true => exact ⟨B, rfl⟩
    | false =>
      rcases List.mem_cons.mp h with e | h
      · exact absurd (beq_iff_eq.mpr e) (by rw [hx]; decide)
      · exact mem_lookup h
theorem told_spec {prog : Program} {w : World} {fz : List (Addr × AO)} {S : Sx} (hS : S.In fz) (hlen : S.bxs.length ≤ 10) :
    Spec K prog w 2 254 [.ref S.st] [] fz (fun p mu fz' => mu = [] ∧ StTold fz' S p) := by
  refine enterC (FC25 S.st) ?_
  intro c nc cK cn cp cw cN cG cC cS cE cF cR cX cFr
  replace cN : c.names = _ := cN
  replace cG : c.gl = _ := cG
  show Wk c PF.Is _ _ ⟨[none], [(nc, .cell (some (.ref S.st)))], fz⟩
  refine Wk.conv (σ := ⟨_, _, _⟩) (mu' := []) (fr := [(nc, .cell (some (.ref S.st)))]) .nil (.cons .head .nil) ?_
  dsimp only [List.cons_append, List.nil_append]
  have hS1 : S.In ((nc, AO.cell (some (.ref S.st))) :: fz) := hS.sub fun q hq => .tail _ hq
  have hcell : ∀ {fz' : List (Addr × AO)}, (∀ q ∈ ((nc, AO.cell (some (.ref S.st))) :: fz), q ∈ fz') → (nc, AO.cell (some (.ref S.st))) ∈ fz' := fun h => h _ (.head _)
  generalize hfz1 : ((nc, AO.cell (some (.ref S.st))) :: fz) = fz1 at *
  have hc1 : (nc, AO.cell (some (.ref S.st))) ∈ fz1 := by rw [← hfz1]; exact .head _
  obtain ⟨h1, h2, h3, h4, h5, h6, h7⟩ := id hS1
  refine s_cons ?_
  repeat' walk_at "ST"
  refine ⟨fun _ => trivial, ?_⟩
  repeat' walk_at "ST"
  have clos : ∀ env : Env, env.cells = [(Str.ofString "self", nc)] → ∀ p : Pos, closureFor { kind := ScopeKind.function, names := [(Str.ofString ".0", NameKind.local), (Str.ofString "name", NameKind.local), (Str.ofString "self", NameKind.free)], isGenerator := false, isCoroutine := false } env = pure [(Str.ofString "self", nc)] := fun env he _ => by
    obtain ⟨⟩ := env
    cases he
    rfl
  refine w_compX (compOKC (cl := [(Str.ofString "self", nc)]) (ccl := [(Str.ofString "self", nc)]) (cn := [Str.ofString "name"]) (gl := []) (clos _ cE ⟨0, 0, 0, 0⟩) (by decide) noGl (fun p hp => by
    rw [List.mem_singleton.mp hp]
    exact ⟨by kernel_rfl, by kernel_rfl, (by decide : (Str.ofString "self" == ("__debug__" : Str)) = false), (by decide : (Str.ofString "self" == ("__classdict__" : Str)) = false)⟩)) ?_
  repeat' walk_at "ST"
  refine w_cell cC (.head _) (.fz hc1) ?_
  refine m_inst cK R257 m257_names i249 (by walk_at "LOOK") (by walk_at "LOOK") (by rfl) ⟨keepK cK k249, ?_⟩
  repeat' walk_at "ST"
  refine wc_spec (names_spec (prog := prog) (w := w) hS1 hlen) cK cp cw (by rw [cn]; decide) .nil ?_
  rintro p mu fz2 ⟨rfl, a, ys, rfl, ha, hperm, hsort⟩ hs2
  have hyl : ys.length ≤ 10 := by rw [hperm.length_eq, List.length_map]; exact hlen
  dsimp only [List.nil_append]
  refine ⟨(ys.map .str).map .val, ⟨[none], [], fz2⟩, fun i acc led fz' => (∀ q ∈ fz2, q ∈ fz') ∧ led = [] ∧ BxsTold fz' S (ys.take i) acc, itb_list ha (.inl ⟨_, _, rfl⟩), by rw [List.length_map, List.length_map]; omega, ⟨fun q hq => hq, rfl, .nil⟩, ?_, ?_⟩
  · rintro c' CS i acc loc led fz' z hz ⟨e1, e2, e3⟩ hl'
    subst e2
    rw [List.map_map, List.getElem?_map] at hz
    obtain ⟨y, hy, rfl⟩ := Option.map_eq_some_iff.mp hz
    obtain ⟨u, rfl⟩ := one_of hl'
    have cN' : c'.names = [Str.ofString "name"] := CS.names
    have cC' : c'.cl = [(Str.ofString "self", nc)] := CS.cl
    have cK' := CS.K.trans cK
    have hm := hperm.mem_iff.mp (List.mem_of_getElem? hy)
    obtain ⟨B, hB⟩ := mem_lookup hm
    have hS3 : S.In fz' := hS1.sub fun q hq => e1 q (hs2 q hq)
    obtain ⟨g1, g2, g3, g4, g5, g6, g7⟩ := id hS3
    have hc3 : (nc, AO.cell (some (.ref S.st))) ∈ fz' := e1 _ (hs2 _ hc1)
    have hBin : B.In fz' := g5 _ (lookup_mem hB)
    obtain ⟨b1, b2, b3, b4, -, -, -, -, -, -, -⟩ := id hBin
    show Tgt _ _ _ _ _
    refine tg_name cN' .head (tests_nil (wt ?_))
    repeat' walk_at "ST"
    refine w_cell cC' (.head _) (.fz hc3) ?_
    refine a_inst cK' R257 n257_boxes (by walk_at "LOOK") (by walk_at "LOOK") (by rfl) rfl ?_
    repeat' walk_at "ST"
    refine sub_dict (by exact .fz g3) g6 (p := .ref B.b) (by rw [lookup_es, hB]; rfl) ?_ (by intro _ _; rfl)
    refine m_inst cK' R184 m184_told i181 (by walk_at "LOOK") (by walk_at "LOOK") (by rfl) ⟨keepK cK' k181, ?_⟩
    repeat' walk_at "ST"
    refine wc_spec (boxTup_spec (prog := prog) (w := w) hBin) cK' (CS.prog.trans cp) (CS.w.trans cw) (by rw [CS.n, cn]; decide) .nil ?_
    rintro p mu fz4 ⟨rfl, hp⟩ hs4
    refine ⟨[], _, [], _, .nil, .nil, fun q hq => hs4 q (e1 q hq), rfl, ?_⟩
    rw [List.take_add_one, hy]
    exact (e3.sub hs4).snoc hB hp
  · rintro acc led fz' D ⟨e1, e2, e3⟩
    subst e2
    rw [List.length_map, List.length_map, List.take_length] at e3
    have hal := e3.length
    have hS3 : S.In fz' := hS1.sub fun q hq => e1 q (hs2 q hq)
    obtain ⟨g1, g2, g3, g4, g5, g6, g7⟩ := id hS3
    have hc3 : (nc, AO.cell (some (.ref S.st))) ∈ fz' := e1 _ (hs2 _ hc1)
    repeat' walk_at "ST"
    refine c_tuple_list (xs := acc) (by exact .led (.head _)) (by omega) fun tb => ?_
    repeat' walk_at "ST"
    refine w_cell cC (.head _) (.fz hc3) ?_
    refine a_inst cK R257 n257_next_validity (by walk_at "LOOK") (by walk_at "LOOK") (by rfl) rfl ?_
    repeat' walk_at "ST"
    refine ⟨fun _ => trivial, ?_⟩
    repeat' walk_at "ST"
    refine w_cell cC (.head _) (.fz hc3) ?_
    refine a_inst cK R257 n257_subscribed (by walk_at "LOOK") (by walk_at "LOOK") (by rfl) rfl ?_
    repeat' walk_at "ST"
    refine c_tuple_list (xs := []) (by exact .fz g4) (Nat.zero_le _) fun ts => ?_
    repeat' walk_at "ST"
    rename_i t
    refine ⟨[], _, _, _, .nil, takeAll _, rfl, t, ts, tb, acc, ys, rfl, .head _, .tail _ (.head _), by walk_at "FZ", hperm, hsort, e3.sub fun q hq => ?_⟩
    exact List.mem_append_right _ hq
end
section
set_option maxRecDepth 100000
set_option maxHeartbeats 16000000
set_option linter.unusedVariables false
theorem s_assign_cell {c : Cx} {σ : St} {x : Str} {a : Addr} {pos' pos : Pos} {value : Expr} {Q : PF → St → Prop} (hC : (x, a) ∈ c.cl) (hk : c.env.kindOf x = some .cell)
    (h : Wk c PV.Is (eval value c.env) (fun p σ₁ => ∃ old led', Up σ₁.led a (.cell old) (.cell (some p)) led' ∧ Q .next ⟨σ₁.loc, led', σ₁.fz⟩) σ)
    (hs : swapsWith value (some (.Name x pos')) pos.line c.env = pure false := by rfl) : Wk c PF.Is (exec (.Assign [.Name x pos'] value pos) c.env) Q σ := fun s R =>
  wpAny_Assign_Name (wpAny_mono (h s R) (fun v s₁ ⟨p, σ₁, hv, R₁, old, led', U, h₁⟩ => by
    obtain ⟨h1, _, _, _⟩ := R₁.ok.cl _ hC
    obtain ⟨o, ho, hi⟩ := (R₁.led _ U.mem).1
    have hcell : ∃ v₀, s₁.heap.IsCell a v₀ := by
      cases old with
      | none => exact ⟨none, o, ho, hi⟩
      | some q => obtain ⟨u, _, hd⟩ := hi; exact ⟨some u, o, ho, hd⟩
    obtain ⟨v₀, hv₀⟩ := hcell
    refine wpAny_storeName_cell R₁.ok.kind hk h1 hv₀ fun h' hc hs => ?_
    obtain ⟨o', ho', hd'⟩ := hc
    exact ⟨.next, _, rfl, R₁.upd (t := s₁.toks) U hs ⟨o', ho', v, hv, hd'⟩, h₁⟩) fun _ _ e => e) hs
noncomputable def names4 : List Str := [Str.ofString "INBOX", Str.ofString "INBOX/x", Str.ofString "a/b", Str.ofString "été"]
noncomputable def spTab : List (Str × Str) := [(Str.ofString "INBOX", Str.ofString "INBOX"), (Str.ofString "inbox", Str.ofString "INBOX"), (Str.ofString "iNbOx", Str.ofString "INBOX"), (Str.ofString "inbox/x", Str.ofString "INBOX/x"), (Str.ofString "INBOX/X", Str.ofString ""), (Str.ofString "a/b", Str.ofString "a/b"), (Str.ofString "A/b", Str.ofString ""), (Str.ofString "été", Str.ofString "été"), (Str.ofString "Été", Str.ofString ""), (Str.ofString "INBOXX", Str.ofString ""), (Str.ofString "a", Str.ofString ""), (Str.ofString "a/b/", Str.ofString "")]
noncomputable def spFz : Nat → List (Str × Str) → List (Addr × AO)
  | _, [] => []
  | k, (a, b) :: r => (k, .tuple [.str a, .str b]) :: spFz (k + 1) r
noncomputable def kfz : List (Addr × AO) := (274, .tuple (names4.map .str)) :: (287, .tuple ((List.range 12).map fun i => .ref (275 + i))) :: (288, .tuple (oddT.map .str)) :: spFz 275 spTab
theorem k274 : ∀ P : Params, ∃ (vs : List Value) (n : Nat), (Mine.K P).lookup 274 = some { cls := .type "tuple", data := .seq (List.toArray vs) n } ∧ Are (names4.map .str) vs := fun P => ⟨_, _, rfl, .cons ⟨_, rfl⟩ (.cons ⟨_, rfl⟩ (.cons ⟨_, rfl⟩ (.cons ⟨_, rfl⟩ .nil)))⟩
theorem k288 : ∀ P : Params, ∃ (vs : List Value) (n : Nat), (Mine.K P).lookup 288 = some { cls := .type "tuple", data := .seq (List.toArray vs) n } ∧ Are (oddT.map .str) vs := fun P => ⟨_, _, rfl, .cons ⟨_, rfl⟩ (.cons ⟨_, rfl⟩ (.cons ⟨_, rfl⟩ (.cons ⟨_, rfl⟩ (.cons ⟨_, rfl⟩ (.cons ⟨_, rfl⟩ (.cons ⟨_, rfl⟩ (.cons ⟨_, rfl⟩ (.cons ⟨_, rfl⟩ (.cons ⟨_, rfl⟩ .nil)))))))))⟩
theorem k287 : ∀ P : Params, ∃ (vs : List Value) (n : Nat), (Mine.K P).lookup 287 = some { cls := .type "tuple", data := .seq (List.toArray vs) n } ∧ Are ((List.range 12).map fun i => .ref (275 + i)) vs := fun P => ⟨_, _, rfl, .cons rfl (.cons rfl (.cons rfl (.cons rfl (.cons rfl (.cons rfl (.cons rfl (.cons rfl (.cons rfl (.cons rfl (.cons rfl (.cons rfl .nil)))))))))))⟩
theorem kfz_has : ∀ P : Params, ∀ p ∈ kfz, ∃ o, (Mine.K P).lookup p.1 = some o ∧ p.2.Is P o := fun P p hp => by
  unfold kfz spTab spFz spFz spFz spFz spFz spFz spFz spFz spFz spFz spFz spFz spFz at hp
  simp only [List.mem_cons, List.not_mem_nil, or_false] at hp
  rcases hp with rfl | rfl | rfl | rfl | rfl | rfl | rfl | rfl | rfl | rfl | rfl | rfl | rfl | rfl | rfl
  · obtain ⟨vs, n, h, hv⟩ := k274 P; exact ⟨_, h, vs, n, hv, rfl⟩
  · obtain ⟨vs, n, h, hv⟩ := k287 P; exact ⟨_, h, vs, n, hv, rfl⟩
  · obtain ⟨vs, n, h, hv⟩ := k288 P; exact ⟨_, h, vs, n, hv, rfl⟩
  all_goals exact ⟨_, rfl, _, _, .cons ⟨_, rfl⟩ (.cons ⟨_, rfl⟩ .nil), rfl⟩
theorem sp_mem {k : Nat} (h : k < 12) : ∃ a b, (a, b) ∈ spTab ∧ (275 + k, AO.tuple [.str a, .str b]) ∈ kfz := by
  have go : ∀ (l : List (Str × Str)) (s j : Nat), j < l.length → ∃ a b, (a, b) ∈ l ∧ (s + j, AO.tuple [.str a, .str b]) ∈ spFz s l := by
    intro l
    induction l with
    | nil => intro s j h; cases h
    | cons x r ih =>
      intro s j h
      obtain ⟨a, b⟩ := x
      cases j with
      | zero => exact ⟨a, b, .head _, .head _⟩
      | succ j =>
        obtain ⟨a', b', h1, h2⟩ := ih (s + 1) j (by simpa using h)
        refine ⟨a', b', .tail _ h1, .tail _ ?_⟩
        rwa [show s + (j + 1) = s + 1 + j by omega]
  obtain ⟨a, b, h1, h2⟩ := go spTab 275 k h
  exact ⟨a, b, h1, .tail _ (.tail _ (.tail _ h2))⟩
end
section
set_option maxRecDepth 100000
set_option maxHeartbeats 4000000
set_option linter.unusedVariables false
theorem sp_names : ∀ p ∈ spTab, p.1.cps.toList ≠ [] ∧ (∀ c ∈ p.1.cps.toList, Unicode.isSpace c = false ∧ c ≠ 32) := by decide +kernel
theorem sp_norm : ∀ p ∈ spTab, if p.2 = Str.ofString "" then normS p.1 ∉ names4 else normS p.1 = p.2 ∧ p.2 ∈ names4 := by decide +kernel
theorem sp_sizes : ∀ p ∈ spTab, p.1.length ≤ 100 ∧ (firstOf p.1).1.length ≤ 1000 ∧ (firstOf p.1).2.length ≤ 1000 ∧ ∀ c ∈ (firstOf p.1).1.cps.toList, c < 1000000 := by decide +kernel
theorem sp_nameOK {p : Str × Str} (h : p ∈ spTab) : NameOK p.1 := let ⟨a, b, c, d⟩ := sp_sizes p h; ⟨Nat.le_trans a (by decide), b, c, d⟩
theorem text_blank {ch : Nat} (h : TextCh ch) : Unicode.isSpace ch = is32 ch := by
  have h1 : ∀ c ∈ List.range' 48 10, Unicode.isSpace c = is32 c := by decide +kernel
  have h2 : ∀ c ∈ oddN, Unicode.isSpace c = is32 c := by decide +kernel
  rcases h with h | h
  · exact h1 ch (List.mem_range'_1.mpr ⟨h.1, by omega⟩)
  · exact h2 ch h
theorem m_blank {l m : List Nat} (hl : ∀ ch ∈ l, TextCh ch) (hm : ∃ k j, k ≤ 2 ∧ j ≤ 2 ∧ m = List.replicate k 32 ++ l ++ List.replicate j 32) : ∀ c ∈ m, Unicode.isSpace c = is32 c := by
  obtain ⟨k, j, _, _, rfl⟩ := hm
  have h32 : Unicode.isSpace 32 = is32 32 := by decide +kernel
  intro c hc
  rcases List.mem_append.mp hc with hc | hc
  · rcases List.mem_append.mp hc with hc | hc
    · rw [List.eq_of_mem_replicate hc]; exact h32
    · exact text_blank (hl c hc)
  · rw [List.eq_of_mem_replicate hc]; exact h32
structure NmOK (nl : List Nat) : Prop where
  ne : nl ≠ []
  sp : ∀ c ∈ nl, Unicode.isSpace c = false ∧ c ≠ 32
  len : nl.length ≤ 100
theorem NmOK.strip {nl : List Nat} (h : NmOK nl) : Txt.strip (T nl) = T nl := by
  rw [strip_T fun c hc => by rw [(h.sp c hc).1]; exact (beq_eq_false_iff_ne.mpr (h.sp c hc).2).symm, off_none fun hm => (h.sp 32 hm).2 rfl]
theorem NmOK.no32 {nl : List Nat} (h : NmOK nl) : 32 ∉ nl := fun hm => (h.sp 32 hm).2 rfl
theorem sp_eq : sp = T [32] := by decide +kernel
theorem ws_once {nl m : List Nat} (h : NmOK nl) (hm : ∀ c ∈ m, Unicode.isSpace c = is32 c) : wsOf (T (nl ++ 32 :: m)) = [T nl, T (off m)] := by
  unfold wsOf
  rw [sp_eq, split_once h.no32]
  show [Txt.strip (T nl), Txt.strip (T m)] = _
  rw [h.strip, strip_T hm]
theorem ws_never {p : List Nat} (h : 32 ∉ p) : (wsOf (T p)).length = 1 := by
  unfold wsOf
  rw [sp_eq, split_never h]; rfl
theorem bad_of_empty {x : Str} {a : Str} (h : wsOf x = [a, T []]) : badW x = true := by
  unfold badW
  rw [h, Bool.or_eq_true, decide_eq_true_eq, decide_eq_true_eq]
  exact .inr (.tail _ (by rw [T_nil]; exact .head _))
theorem bad_of_one {x : Str} (h : (wsOf x).length = 1) : badW x = true := by
  unfold badW
  rw [h]; rfl
theorem good_of {nl q : List Nat} {x : Str} (h1 : nl ≠ []) (h2 : q ≠ []) (h : wsOf x = [T nl, T q]) : badW x = false := by
  unfold badW
  rw [h, Bool.or_eq_false_iff, decide_eq_false_iff_not, decide_eq_false_iff_not]
  refine ⟨Nat.not_lt.mpr (Nat.le_refl 2), fun hm => ?_⟩
  rw [T_nil] at hm
  rcases List.mem_cons.mp hm with hm | hm
  · exact h1 (T_inj.mp hm.symm)
  · exact h2 (T_inj.mp (List.mem_singleton.mp hm).symm)
theorem blanks_ok {k : Nat} : ∀ c ∈ List.replicate k 32, Unicode.isSpace c = is32 c := fun c hc => by
  rw [List.eq_of_mem_replicate hc]; decide +kernel
/-- what the line says, when it is one of the law's -/
theorem rest_ws {nl l r : List Nat} {ws : Option (Str × Str)} (h : NmOK nl) (hl : ∀ ch ∈ l, TextCh ch) (hr : RestR nl l r ws) :
    (match ws with | none => badW (T r) = true | some (a, b) => badW (T r) = false ∧ wsOf (T r) = [a, b] ∧ a = T nl) := by
  cases hr with
  | bare k hk =>
    show badW _ = true
    cases k with
    | zero => exact bad_of_one (by rw [List.replicate_zero, List.append_nil]; exact ws_never h.no32)
    | succ k => exact bad_of_empty (a := T nl) (by rw [List.replicate_succ, ws_once h blanks_ok, off_blanks])
  | tab =>
    refine bad_of_one (ws_never fun hm => ?_)
    rcases List.mem_append.mp hm with hm | hm
    · rcases List.mem_append.mp hm with hm | hm
      · exact h.no32 hm
      · exact absurd (List.mem_singleton.mp hm) (by decide)
    · have := (List.mem_filter.mp hm).2; exact absurd this (by decide)
  | words m hm h0 => exact ⟨good_of h.ne h0 (ws_once h (m_blank hl hm)), ws_once h (m_blank hl hm), rfl⟩
  | blank m hm h0 => exact bad_of_empty (a := T nl) (by rw [ws_once h (m_blank hl hm), h0])
theorem rest_len {nl l r : List Nat} {ws : Option (Str × Str)} (h : NmOK nl) (hl : l.length ≤ 100) (hr : RestR nl l r ws) : r.length ≤ 300 := by
  have hn := h.len
  cases hr with
  | bare k hk => rw [List.length_append, List.length_replicate]; omega
  | tab => have := List.length_filter_le (· != 32) l; rw [List.length_append, List.length_append]; simp only [List.length_cons, List.length_nil]; omega
  | words m hm _ => obtain ⟨k, j, hk, hj, rfl⟩ := hm; simp only [List.length_append, List.length_cons, List.length_replicate]; omega
  | blank m hm _ => obtain ⟨k, j, hk, hj, rfl⟩ := hm; simp only [List.length_append, List.length_cons, List.length_replicate]; omega
theorem sp_nm {p : Str × Str} (h : p ∈ spTab) : NmOK p.1.cps.toList := let ⟨a, b⟩ := sp_names p h; ⟨a, b, (sp_sizes p h).1⟩
/-- the letters here -/
noncomputable def hereOf (bs : List (Str × Bx)) (b : Str) : Option (Str × Str) → List Lt
  | none => []
  | some (_, y) => if b = Str.ofString "" then [] else match bs.lookup b with
    | none => []
    | some B => B.lts.filter fun l => okNum y.cps.toList && l.uid == valN y.cps.toList
noncomputable def wordOf (b : Str) (xs : List Lt) : Option (Str × Str) → Str
  | none => Str.ofString "desk"
  | some _ => if b = Str.ofString "" then Str.ofString "store" else if xs.isEmpty then Str.ofString "desk" else Str.ofString ""
theorem lookup_none {y : Str} : ∀ {l : List (Str × Bx)}, y ∉ l.map (·.1) → l.lookup y = none
  | [], _ => rfl
  | (k, B) :: r, h => by
    rw [List.lookup_cons]
    cases hx : y == k with
    | true => exact absurd (by rw [eq_of_beq hx]; exact .head _) h
    | false => exact lookup_none fun hm => h (.tail _ hm)
theorem filter_one {lts : List Lt} {l : Lt} (h : lts.Pairwise fun a b => a.uid < b.uid) (hl : l ∈ lts) : lts.filter (fun x => x.uid == l.uid) = [l] := by
  induction lts with
  | nil => cases hl
  | cons a r ih =>
    obtain ⟨h1, h2⟩ := List.pairwise_cons.mp h
    rw [List.filter_cons]
    rcases List.mem_cons.mp hl with rfl | hm
    · rw [if_pos (beq_self_eq_true _)]
      have : r.filter (fun x => x.uid == l.uid) = [] := List.filter_eq_nil_iff.mpr fun b hb e => by
        have := h1 b hb
        have := eq_of_beq e
        omega
      rw [this]
    · have := h1 l hm
      rw [if_neg (fun e => by have := eq_of_beq e; omega)]
      exact ih h2 hm
theorem heard_law {S : Sx} {fz : List (Addr × AO)} {a b : Str} {nl l r : List Nat} {ws ws' : Option (Str × Str)} {f : Option Lt} {wd : Str} (hS : S.In fz) (hn : S.bxs.map (·.1) = names4) (hp : (a, b) ∈ spTab) (ha : a = T nl) (hl : ∀ ch ∈ l, TextCh ch)
    (hr : RestR nl l r ws) (h : Heard S (T r) ws' f wd) : ws' = ws ∧ wd = wordOf b (hereOf S.bxs b ws) ws ∧ (wd = Str.ofString "" → ∃ l, f = some l ∧ hereOf S.bxs b ws = [l]) := by
  have hnl : NmOK nl := by have := sp_nm hp; rw [ha] at this; rwa [T_cps] at this
  have hws := rest_ws hnl hl hr
  have e1 : (Str.ofString "desk" = Str.ofString "") = False := eq_false (by decide +kernel)
  have e2 : (Str.ofString "store" = Str.ofString "") = False := eq_false (by decide +kernel)
  have hnm := sp_norm _ hp
  dsimp only at hnm
  cases ws with
  | none =>
    replace hws : badW (T r) = true := hws
    cases h with
    | bad _ => exact ⟨rfl, rfl, fun e => (e1 ▸ e).elim⟩
    | store h1 _ _ => rw [h1] at hws; cases hws
    | desk h1 _ _ _ => rw [h1] at hws; cases hws
    | ok h1 _ _ _ _ _ => rw [h1] at hws; cases hws
  | some q =>
    obtain ⟨a', y⟩ := q
    obtain ⟨w1, w2, rfl⟩ := hws
    have key : ∀ {a2 b2 : Str}, wsOf (T r) = [a2, b2] → a2 = a ∧ b2 = y := fun e => by
      rw [w2] at e; injection e with e1 e2; injection e2 with e2; exact ⟨by rw [← e1, ha], e2.symm⟩
    cases h with
    | bad h1 => rw [h1] at w1; cases w1
    | store h1 h2 h3 =>
      obtain ⟨rfl, rfl⟩ := key h2
      have hb : b = Str.ofString "" := Decidable.byContradiction fun hb => by
        rw [if_neg hb] at hnm
        rw [hnm.1] at h3
        obtain ⟨B, hB⟩ := mem_lookup (l := S.bxs) (y := b) (by rw [hn]; exact hnm.2)
        rw [hB] at h3; cases h3
      refine ⟨by rw [ha], ?_, fun e => (e2 ▸ e).elim⟩
      show _ = if _ then _ else _
      rw [if_pos hb]
    | @desk a2 b2 B h1 h2 h3 h4 =>
      obtain ⟨rfl, rfl⟩ := key h2
      have hb : b ≠ Str.ofString "" := fun hb => by
        rw [if_pos hb] at hnm
        rw [lookup_none (by rw [hn]; exact hnm)] at h3; cases h3
      rw [if_neg hb] at hnm
      rw [hnm.1] at h3
      refine ⟨by rw [ha], ?_, fun e => (e1 ▸ e).elim⟩
      show _ = if _ then _ else _
      rw [if_neg hb]
      have : hereOf S.bxs b (some (T nl, b2)) = [] := by
        unfold hereOf
        dsimp only
        rw [if_neg hb, h3]
        refine List.filter_eq_nil_iff.mpr fun x hx e => ?_
        rw [Bool.and_eq_true] at e
        rcases h4 with h4 | h4
        · rw [h4] at e; exact absurd e.1 (by decide)
        · exact h4 x hx (eq_of_beq e.2)
      rw [this]; rfl
    | @ok a2 b2 B l' h1 h2 h3 h4 h5 h6 =>
      obtain ⟨rfl, rfl⟩ := key h2
      have hb : b ≠ Str.ofString "" := fun hb => by
        rw [if_pos hb] at hnm
        rw [lookup_none (by rw [hn]; exact hnm)] at h3; cases h3
      rw [if_neg hb] at hnm
      rw [hnm.1] at h3
      have : hereOf S.bxs b (some (T nl, b2)) = [l'] := by
        unfold hereOf
        dsimp only
        rw [if_neg hb, h3]
        rw [← filter_one (hS.bx _ (lookup_mem h3)).up h5]
        refine List.filter_congr fun x _ => ?_
        rw [h4, h6]; rfl
      refine ⟨by rw [ha], ?_, fun _ => ⟨l', rfl, this⟩⟩
      show _ = if _ then _ else _
      rw [if_neg hb, this]; rfl
theorem line_ok {nl l r : List Nat} {ws : Option (Str × Str)} (h : NmOK nl) (hl : l.length ≤ 100) (hr : RestR nl l r ws) : LineOK (T r) := by
  have hz := rest_len h hl hr
  have go : ∀ p q : List Nat, 32 ∉ p → (p ++ 32 :: q).length ≤ 300 → LineOK (T (p ++ 32 :: q)) := fun p q hp hs => by
    refine ⟨by rw [T_len]; omega, by rw [sp_eq, split_once hp]; exact (by decide : 2 ≤ 1000), ?_⟩
    rw [sp_eq, split_once hp]
    rw [List.length_append, List.length_cons] at hs
    intro y hy
    rcases List.mem_cons.mp hy with rfl | hy
    · rw [T_len]; omega
    · rw [List.mem_singleton.mp hy, T_len]; omega
  have go1 : ∀ p : List Nat, 32 ∉ p → p.length ≤ 300 → LineOK (T p) := fun p hp hs => by
    refine ⟨by rw [T_len]; omega, by rw [sp_eq, split_never hp]; exact (by decide : 1 ≤ 1000), ?_⟩
    rw [sp_eq, split_never hp]
    intro y hy
    rw [List.mem_singleton.mp hy, T_len]; omega
  cases hr with
  | bare k hk =>
    cases k with
    | zero => rw [List.replicate_zero, List.append_nil] at hz ⊢; exact go1 _ h.no32 hz
    | succ k => rw [List.replicate_succ] at hz ⊢; exact go _ _ h.no32 hz
  | tab =>
    refine go1 _ (fun hm => ?_) hz
    rcases List.mem_append.mp hm with hm | hm
    · rcases List.mem_append.mp hm with hm | hm
      · exact h.no32 hm
      · exact absurd (List.mem_singleton.mp hm) (by decide)
    · have := (List.mem_filter.mp hm).2; exact absurd this (by decide)
  | words m hm h0 => exact go _ _ h.no32 hz
  | blank m hm h0 => exact go _ _ h.no32 hz
theorem words_ok {a b : Str} {nl l r : List Nat} {ws : Option (Str × Str)} (hp : (a, b) ∈ spTab) (ha : a = T nl) (hll : l.length ≤ 100) (hl : ∀ ch ∈ l, TextCh ch) (hr : RestR nl l r ws) : ∀ a' b', wsOf (T r) = [a', b'] → NameOK a' ∧ b'.length ≤ 1000 := by
  have hnl : NmOK nl := by have := sp_nm hp; rw [ha] at this; rwa [T_cps] at this
  have hz := rest_len hnl hll hr
  have go : ∀ q : List Nat, (∀ c ∈ q, Unicode.isSpace c = is32 c) → (nl ++ 32 :: q).length ≤ 300 → ∀ a' b', wsOf (T (nl ++ 32 :: q)) = [a', b'] → NameOK a' ∧ b'.length ≤ 1000 := fun q hq hs a' b' e => by
    rw [ws_once hnl hq] at e
    injection e with e1 e2
    injection e2 with e2
    rw [List.length_append, List.length_cons] at hs
    have := off_len q
    exact ⟨by rw [← e1, ← ha]; exact sp_nameOK hp, by rw [← e2, T_len]; omega⟩
  have go1 : ∀ p : List Nat, 32 ∉ p → ∀ a' b', wsOf (T p) = [a', b'] → NameOK a' ∧ b'.length ≤ 1000 := fun p hp a' b' e => by
    have := ws_never hp
    rw [e] at this
    cases this
  cases hr with
  | bare k hk =>
    cases k with
    | zero => rw [List.replicate_zero, List.append_nil]; exact go1 _ hnl.no32
    | succ k => rw [List.replicate_succ] at hz ⊢; exact go _ blanks_ok hz
  | tab =>
    refine go1 _ (fun hm => ?_)
    rcases List.mem_append.mp hm with hm | hm
    · rcases List.mem_append.mp hm with hm | hm
      · exact hnl.no32 hm
      · exact absurd (List.mem_singleton.mp hm) (by decide)
    · have := (List.mem_filter.mp hm).2; exact absurd this (by decide)
  | words m hm h0 => exact go _ (m_blank hl hm) hz
  | blank m hm h0 => exact go _ (m_blank hl hm) hz
end
section
set_option maxRecDepth 100000
set_option maxHeartbeats 4000000
set_option linter.unusedVariables false
theorem lts_deq {σ : St} {ls : List Lt} : ∀ {ps qs : List PV}, LtsTold σ.fz ls ps → LtsTold σ.fz ls qs → ps.length = qs.length ∧ ∀ (i : Nat) (p q : PV), ps[i]? = some p → qs[i]? = some q → Deq σ 1 p q := by
  induction ls with
  | nil => intro ps qs h1 h2; cases h1; cases h2; exact ⟨rfl, fun i p q e => by cases e⟩
  | cons l r ih =>
    intro ps qs h1 h2
    cases h1 with
    | cons a1 b1 => cases h2 with
      | cons a2 b2 =>
        obtain ⟨g1, g2⟩ := ih b1 b2
        refine ⟨by rw [List.length_cons, List.length_cons, g1], fun i p q e1 e2 => ?_⟩
        cases i with
        | succ i => exact g2 i p q e1 e2
        | zero =>
          cases e1; cases e2
          obtain ⟨t, rfl, ht⟩ := a1
          obtain ⟨t', rfl, ht'⟩ := a2
          refine .tup (.fz ht) (.fz ht') rfl fun i p q e1 e2 => ?_
          rw [e1] at e2; cases e2
          have hm := List.mem_of_getElem? e1
          simp only [List.mem_cons, List.not_mem_nil, or_false] at hm
          rcases hm with rfl | rfl | rfl | rfl | rfl
          · exact .int
          · exact .bytes
          · exact .same
          · exact .int
          · exact .int
theorem bx_deq {σ : St} {B : Bx} {p q : PV} (h1 : BxTold σ.fz B p) (h2 : BxTold σ.fz B q) : Deq σ 3 p q := by
  obtain ⟨t, tl, tg, ps, rfl, a1, a2, a3, a4⟩ := h1
  obtain ⟨t', tl', tg', ps', rfl, b1, b2, b3, b4⟩ := h2
  obtain ⟨g1, g2⟩ := lts_deq a4 b4
  refine .tup (.fz a1) (.fz b1) rfl fun i p q e1 e2 => ?_
  match i, e1, e2 with
  | 0, e1, e2 => cases e1; cases e2; exact .str
  | 1, e1, e2 => cases e1; cases e2; exact .int
  | 2, e1, e2 => cases e1; cases e2; exact .int
  | 3, e1, e2 => cases e1; cases e2; exact .int
  | 4, e1, e2 => cases e1; cases e2; exact .int
  | 5, e1, e2 => cases e1; cases e2; exact .tup (.fz a2) (.fz b2) g1 g2
  | 6, e1, e2 => cases e1; cases e2; exact .tup (.fz a3) (.fz b3) rfl fun i p q e => by cases e
theorem bxs_deq {σ : St} {S : Sx} {ys : List Str} : ∀ {ps qs : List PV}, BxsTold σ.fz S ys ps → BxsTold σ.fz S ys qs → ps.length = qs.length ∧ ∀ (i : Nat) (p q : PV), ps[i]? = some p → qs[i]? = some q → Deq σ 3 p q := by
  induction ys with
  | nil => intro ps qs h1 h2; cases h1; cases h2; exact ⟨rfl, fun i p q e => by cases e⟩
  | cons l r ih =>
    intro ps qs h1 h2
    cases h1 with
    | cons a1 c1 b1 => cases h2 with
      | cons a2 c2 b2 =>
        obtain ⟨g1, g2⟩ := ih b1 b2
        refine ⟨by rw [List.length_cons, List.length_cons, g1], fun i p q e1 e2 => ?_⟩
        cases i with
        | succ i => exact g2 i p q e1 e2
        | zero =>
          cases e1; cases e2
          rw [a1] at a2; cases a2
          exact bx_deq c1 c2
noncomputable abbrev leS (a b : Str) : Prop := a.cps.toList ≤ b.cps.toList
theorem rising_pw : ∀ (r : List Str) (p : Str), risingS p r = true → (p :: r).Pairwise leS
  | [], p, _ => List.pairwise_singleton _ _
  | x :: r, p, h => by
    have h' : (!Spec.ltCps x.cps.toList p.cps.toList && risingS x r) = true := h
    rw [Bool.and_eq_true] at h'
    have h1 : leS p x := by
      have := h'.1
      rw [ltCps_eq] at this
      exact List.not_lt.mp (by simpa using this)
    have ih := rising_pw r x h'.2
    refine List.pairwise_cons.mpr ⟨fun y hy => ?_, ih⟩
    rcases List.mem_cons.mp hy with rfl | hy
    · exact h1
    · exact List.le_trans h1 ((List.pairwise_cons.mp ih).1 y hy)
theorem sorted_pw : ∀ l : List Str, sortedS l = true → l.Pairwise leS
  | [], _ => .nil
  | x :: r, h => rising_pw r x h
theorem sorted_one {xs ys : List Str} (h1 : sortedS xs = true) (h2 : sortedS ys = true) (h : xs.Perm ys) : xs = ys :=
  List.Perm.eq_of_pairwise (fun a b _ _ g1 g2 => by
    have := List.le_antisymm g1 g2
    rw [T_of a, T_of b, this]) (sorted_pw xs h1) (sorted_pw ys h2) h
theorem st_eq {c : Cx} {σ : St} {S : Sx} {p q : PV} {Q : PV → St → Prop} (h1 : StTold σ.fz S p) (h2 : StTold σ.fz S q) (h : Q (.bool true) σ) : WB c (compareOp .Eq) p q Q σ := by
  obtain ⟨t, ts, tb, ps, ys, rfl, a1, a2, a3, a4, a5, a6⟩ := h1
  obtain ⟨t', ts', tb', ps', ys', rfl, b1, b2, b3, b4, b5, b6⟩ := h2
  obtain rfl := sorted_one a5 b5 (a4.trans b4.symm)
  obtain ⟨g1, g2⟩ := bxs_deq a6 b6
  refine b_eq_tuple (n := 4) (.fz a1) (.fz b1) rfl (by decide) (fun i p q e1 e2 => ?_) h
  match i, e1, e2 with
  | 0, e1, e2 => cases e1; cases e2; exact .int
  | 1, e1, e2 => cases e1; cases e2; exact .tup (.fz a2) (.fz b2) rfl fun i p q e => by cases e
  | 2, e1, e2 => cases e1; cases e2; exact .tup (.fz a3) (.fz b3) g1 g2
end
section
set_option maxRecDepth 100000
set_option maxHeartbeats 16000000
set_option linter.unusedVariables false
theorem clos_of {scope : Scope} {env : Env} {cs cl : List (Str × Addr)} (h : env.cells = cs) (k : ∀ env : Env, env.cells = cs → closureFor scope env = pure cl) : closureFor scope env = pure cl := k env h
noncomputable abbrev LC (nc : Nat) (nu st un : Option PV) : List (Addr × AO) := [(nc + 2, .cell nu), (nc + 1, .cell st), (nc, .cell un)]
theorem putE_new {x : Str} {p : PV} : ∀ {es : List (Str × PV)}, x ∉ es.map (·.1) → putE x p es = es ++ [(x, p)]
  | [], _ => rfl
  | (k, q) :: r, h => by
    have h1 : k ≠ x := fun e => h (by rw [e]; exact .head _)
    show (if k = x then _ else _) = _
    rw [if_neg h1, putE_new fun hm => h (.tail _ hm)]
    rfl
theorem StTold.sub {fz fz' : List (Addr × AO)} {S : Sx} {p : PV} (h : StTold fz S p) (k : ∀ q ∈ fz, q ∈ fz') : StTold fz' S p := by
  obtain ⟨t, ts, tb, ps, ys, h1, h2, h3, h4, h5, h6, h7⟩ := h
  exact ⟨t, ts, tb, ps, ys, h1, k _ h2, k _ h3, k _ h4, h5, h6, h7.sub k⟩
theorem b_ne_words {c : Cx} {σ : St} {ws : Option (Str × Str)} {p q : PV} {Q : PV → St → Prop} (h1 : wordsPV σ.fz ws p) (h2 : wordsPV σ.fz ws q) (h : Q (.bool false) σ) : WB c (compareOp .NotEq) p q Q σ := by
  cases ws with
  | none =>
    obtain rfl : p = .none := h1
    obtain rfl : q = .none := h2
    exact b_ne_none h
  | some w =>
    obtain ⟨a, b⟩ := w
    obtain ⟨t, rfl, ht⟩ := h1
    obtain ⟨t', rfl, ht'⟩ := h2
    refine b_ne_tuple (n := 0) (.fz ht) (.fz ht') rfl (by decide) (fun i p q e1 e2 => ?_) h
    rw [e1] at e2
    cases e2
    have := List.mem_of_getElem? e1
    rcases List.mem_cons.mp this with rfl | this
    · exact .str
    · rw [List.mem_singleton.mp this]; exact .str
theorem b_ne_num {c : Cx} {σ : St} {l : List Nat} {Q : PV → St → Prop} (h : Q (.bool false) σ) : WB c (compareOp .NotEq) (numPV l) (numPV l) Q σ := by
  unfold numPV
  cases okNum l with
  | true => rw [if_pos rfl]; refine b_ne_int ?_; simpa using h
  | false => rw [if_neg (by decide)]; exact b_ne_none h
theorem wordsPV.sub {fz fz' : List (Addr × AO)} {ws : Option (Str × Str)} {p : PV} (h : wordsPV fz ws p) (k : ∀ q ∈ fz, q ∈ fz') : wordsPV fz' ws p := by
  cases ws with
  | none => exact h
  | some w => obtain ⟨t, rfl, ht⟩ := h; exact ⟨t, rfl, k _ ht⟩
theorem remMidd {x : Addr × AO} {r : List (Addr × AO)} : ∀ pre : List (Addr × AO), Rem (pre ++ x :: r) x (pre ++ r)
  | [] => .head
  | _ :: p => .tail (remMidd p)
theorem takeEnd (pre : List (Addr × AO)) : ∀ l : List (Addr × AO), Take (pre ++ l) l pre
  | [] => by rw [List.append_nil]; exact .nil
  | _ :: r => .cons (remMidd pre) (takeEnd pre r)
noncomputable def wordsL (vs : List Nat) : List (List Nat) := if vs = [] then [[]] else vs.map dg
theorem told_split (vs : List Nat) : Txt.split (told vs) (Str.ofString " ") = (wordsL vs).map T := by
  have hsp : sp = T [32] := by decide +kernel
  have e : Str.ofString " " = T [32] := hsp
  unfold wordsL
  cases vs with
  | nil =>
    rw [if_pos rfl, e, show told [] = T (JL [32] [[]]) by decide +kernel]
    exact split_join (by decide +kernel) (by simp) (fun p hp hm => by rw [List.mem_singleton.mp hp] at hm; cases hm)
  | cons n0 ns =>
    rw [if_neg (by simp)]
    have e1 : told (n0 :: ns) = T (JL [32] ((n0 :: ns).map dg)) := by unfold told; rw [hsp, ← join_T, List.map_map]; rfl
    rw [e1, e]
    refine split_join (by decide +kernel) (by simp) (fun p hp hm => ?_)
    obtain ⟨n, _, rfl⟩ := List.mem_map.mp hp
    have := dg_dig n _ hm; omega
theorem wordsL_len {vs : List Nat} (h : ∀ n ∈ vs, n < 10 ^ 18) : (wordsL vs).length ≤ vs.length + 1 ∧ ∀ p ∈ wordsL vs, p.length ≤ 100 := by
  unfold wordsL
  split
  · exact ⟨Nat.le_add_left _ _, fun p hp => by rw [List.mem_singleton.mp hp]; exact Nat.zero_le _⟩
  · refine ⟨by rw [List.length_map]; omega, fun p hp => ?_⟩
    obtain ⟨n, hn, rfl⟩ := List.mem_map.mp hp
    exact Nat.le_trans (dg_len (k := 18) (by decide) (h n hn)) (by decide)
theorem wordsL_num {vs : List Nat} (h : ∀ n ∈ vs, n < 10 ^ 18) : (wordsL vs).map numPV = if vs = [] then [PV.none] else vs.map fun n : Nat => PV.int (n : Int) := by
  unfold wordsL
  split
  · rfl
  · rw [List.map_map]
    refine List.map_congr_left fun n hn => ?_
    show numPV (dg n) = _
    unfold numPV
    rw [if_pos (ok_dg (h n hn)), val_dg]
theorem deq_self {σ : St} {vs : List Nat} {n : Nat} : ∀ (i : Nat) (p q : PV), (if vs = [] then [PV.none] else vs.map fun n : Nat => PV.int (n : Int))[i]? = some p → (if vs = [] then [PV.none] else vs.map fun n : Nat => PV.int (n : Int))[i]? = some q → Deq σ n p q := fun i p q e1 e2 => by
  rw [e1] at e2
  cases e2
  have hm := List.mem_of_getElem? e1
  split at hm
  · rw [List.mem_singleton.mp hm]; exact .none
  · obtain ⟨k, _, rfl⟩ := List.mem_map.mp hm; exact .int
theorem names4_ok : ∀ y ∈ names4, y.length ≤ 100 ∧ 10 ∉ y.cps.toList := by decide +kernel
theorem names4_nodup : names4.Nodup := by decide +kernel
/-- the store's boxes so far -/
structure SoFar (fz : List (Addr × AO)) (bs : List (Str × Bx)) (i : Nat) : Prop where
  nm : bs.map (·.1) = names4.take i
  bx : ∀ p ∈ bs, p.2.In fz
  at_ : ∀ p ∈ bs, p.2.nm = p.1
noncomputable abbrev esOf (b0 : Addr) (bs : List (Str × Bx)) : List (Str × PV) := if bs = [] then [(Str.ofString "INBOX", .ref b0)] else bs.map fun p => (p.1, PV.ref p.2.b)
theorem esOf_put {fz : List (Addr × AO)} {b0 : Addr} {bs : List (Str × Bx)} {i : Nat} {y : Str} {X : Bx} (h : SoFar fz bs i) (hy : names4[i]? = some y) : ((esOf b0 bs).map (·.1)).Nodup ∧ (esOf b0 bs).length ≤ 1000 ∧ putE y (.ref X.b) (esOf b0 bs) = esOf b0 (bs ++ [(y, X)]) := by
  have hi : i < 4 := (List.getElem?_eq_some_iff.mp hy).1
  have hlen : bs.length ≤ 4 := by have := congrArg List.length h.nm; rw [List.length_map, List.length_take] at this; have : names4.length = 4 := rfl; omega
  unfold esOf
  rw [if_neg (List.append_ne_nil_of_right_ne_nil _ (List.cons_ne_nil _ _))]
  by_cases hb : bs = []
  · subst hb
    rw [if_pos rfl]
    obtain rfl : i = 0 := by have := congrArg List.length h.nm; rw [List.length_map, List.length_take] at this; have : names4.length = 4 := rfl; simp only [List.length_nil] at *; omega
    cases hy
    exact ⟨List.nodup_cons.mpr ⟨fun h => (nomatch h), List.nodup_nil⟩, Nat.le_of_ble_eq_true rfl, by show (if _ then _ else _) = _; rw [if_pos rfl]; rfl⟩
  · rw [if_neg hb]
    have hm : ((bs.map fun p => (p.1, PV.ref p.2.b)).map (·.1)) = names4.take i := by rw [List.map_map]; exact h.nm
    refine ⟨by rw [hm]; exact names4_nodup.sublist (List.take_sublist _ _), by rw [List.length_map]; omega, ?_⟩
    rw [putE_new, List.map_append]
    · rfl
    · rw [hm]
      intro hin
      obtain ⟨j, hj, he⟩ := List.getElem_of_mem hin
      rw [List.length_take] at hj
      rw [List.getElem_take] at he
      have h1 := (List.getElem?_eq_some_iff.mp hy).2
      have hp := List.pairwise_iff_getElem.mp names4_nodup j i (by show j < 4; omega) hi (by omega)
      exact hp (he.trans h1.symm)
theorem law_spec {prog : Program} {w : World} {fz : List (Addr × AO)} {a : Addr} {ns : List Int} (ha : (a, AO.list (ns.map .int)) ∈ fz) (hl : ns.length ≤ 100000) (hk : ∀ q ∈ kfz, q ∈ fz) :
    Spec K prog w 10 347 [.ref a] [] fz (fun p mu fz' => p = .bool true) := by
  refine enterC (FC36 a) ?_
  intro c nc cK cn cp cw cN cG cC cS cE cF cR cX cFr
  replace cN : c.names = _ := cN
  replace cG : c.gl = _ := cG
  have ku : c.env.kindOf (Str.ofString "urn") = some .cell := by show c.env.scope.names.lookup _ = _; rw [cS]; kernel_rfl
  have ks : c.env.kindOf (Str.ofString "store") = some .cell := by show c.env.scope.names.lookup _ = _; rw [cS]; kernel_rfl
  have kn : c.env.kindOf (Str.ofString "number") = some .cell := by show c.env.scope.names.lookup _ = _; rw [cS]; kernel_rfl
  have mu_ : (Str.ofString "urn", nc) ∈ c.cl := by rw [cC]; exact .tail _ (.tail _ (.head _))
  have ms_ : (Str.ofString "store", nc + 1) ∈ c.cl := by rw [cC]; exact .tail _ (.head _)
  have mn_ : (Str.ofString "number", nc + 2) ∈ c.cl := by rw [cC]; exact .head _
  show Wk c PF.Is _ _ ⟨[some (.ref a), none, none, none, none, none, none, none, none, none, none, none], LC nc none none none, fz⟩
  -- urn
  refine s_cons ?_
  refine s_assign_cell mu_ ku ?_
  repeat' walk_at "ST"
  refine ⟨keepK cK k266, ?_⟩
  repeat' walk_at "ST"
  refine wc_spec (urn_spec (prog := prog) (w := w) ha hl) cK cp cw (by rw [cn]; decide) .nil ?_
  rintro p mu fz1 ⟨cells, z, un, cs, rfl, rfl, hc1, hc2, hz0, hz1⟩ hs1
  have ha1 := hs1 _ ha
  have hk1 : ∀ q ∈ kfz, q ∈ fz1 := fun q hq => hs1 q (hk q hq)
  clear hs1
  have hu0 : UrnOK 0 ⟨cells, 0, 0, z⟩ := ⟨⟨by show (0:Int) ≤ 0; decide, by show (0:Int) < 10^60; decide +kernel⟩, ⟨by show (0:Int) ≤ 0; decide, by show (0:Int) ≤ 0; decide⟩, ⟨hz0, hz1⟩, hc2, hc1⟩
  refine ⟨none, LC nc none none (some (.ref un)) |> fun L => UrnLed un cs ⟨cells, 0, 0, z⟩ ++ L, .tail (.tail (.tail (.tail .head))), seq_next ?_⟩
  dsimp only [List.cons_append, List.nil_append]
  -- spelled
  refine s_cons (Wk.ok fun O => ?_)
  refine s_assign_comp (items := (List.range 3).map fun i : Nat => .val (.int (i : Int))) (σ₁ := ⟨[some (.ref a), none, none, none, none, none, none, none, none, none, none, none], UrnLed un cs ⟨cells, 0, 0, z⟩ ++ LC nc none none (some (.ref un)), fz1⟩)
    (compOKC (cl := [(Str.ofString "urn", nc)]) (ccl := [(Str.ofString "urn", nc)]) (cn := [Str.ofString "turn"]) (gl := [(Str.ofString "_law_spelled", .ref 287), (Str.ofString "_law_pull", .ref 273)]) (clos_of cE fun env he => ?_) (by decide) (fun p hp => ?_) (fun p hp => ?_))
    (fun i acc led fz' => ∃ (us : List Nat) (u : Urn), acc = us.map (fun k => PV.ref (275 + k)) ∧ us.length = i ∧ (∀ k ∈ us, k < 12) ∧ led = UrnLed un cs u ++ LC nc none none (some (.ref un)) ∧ UrnOK i u ∧ fz' = fz1) ?_ ?_ ?_ ?_ ?_ (swapT O (by rw [cN]; walk_at "MEM") rfl rfl)
  · obtain ⟨⟩ := env
    cases he
    rfl
  · rw [cK]
    rcases List.mem_cons.mp hp with rfl | hp
    · exact g__law_spelled
    · rw [List.mem_singleton.mp hp]; exact g__law_pull
  · rw [List.mem_singleton.mp hp]
    exact ⟨by kernel_rfl, by kernel_rfl, (by decide : (Str.ofString "urn" == ("__debug__" : Str)) = false), (by decide : (Str.ofString "urn" == ("__classdict__" : Str)) = false)⟩
  · repeat' walk_at "ST"
    refine ⟨fun _ => trivial, ?_⟩
    repeat' walk_at "ST"
    refine c_range (n := 3) fun r => ?_
    exact Itb.weak (σ₁ := ⟨_, _, _⟩) (itb_range (n := 3) (.led (.head _)) (by decide)) (takeBut _)
  · decide
  · exact ⟨[], _, rfl, rfl, fun _ h => (nomatch h), rfl, hu0, rfl⟩
  · rintro c' CS i acc loc led fz' y hy ⟨us, u, rfl, hul, husl, rfl, hu, rfl⟩ hl'
    rw [List.getElem?_map] at hy
    obtain ⟨j, hj, rfl⟩ := Option.map_eq_some_iff.mp hy
    have hi3 : i < 3 := by have := (List.getElem?_eq_some_iff.mp hj).1; rwa [List.length_range] at this
    obtain ⟨v, rfl⟩ := one_of hl'
    have cN' : c'.names = [Str.ofString "turn"] := CS.names
    have cG' : c'.gl = _ := CS.gl
    have cC' : c'.cl = [(Str.ofString "urn", nc)] := CS.cl
    have cK' := CS.K.trans cK
    show Tgt _ _ _ _ _
    refine tg_name cN' .head (tests_nil (wt ?_))
    repeat' walk_at "ST"
    refine ⟨keepK cK' k273, ?_⟩
    repeat' walk_at "ST"
    refine w_cell cC' (.head _) (by walk_at "LOOK") ?_
    repeat' walk_at "ST"
    refine wc_pull (many := 12) hu (by omega) (by decide) cK' (by rw [CS.n, cn]; decide) (.cons .head (.cons .head .nil)) fun d u' w0 w1 hu' => ?_
    dsimp only [List.cons_append, List.nil_append, UrnLed]
    obtain ⟨k, rfl⟩ := Int.eq_ofNat_of_zero_le w0
    have hk12 : k < 12 := by omega
    refine sub_tuple (by exact .fz (hk1 _ (.tail _ (.head _)))) w0 (by omega) (p := .ref (275 + k)) ?_ ?_
    · rw [List.getElem?_map, Int.toNat_natCast, List.getElem?_range hk12]; rfl
    refine ⟨_, [], [], _, takeAll _, .nil, us ++ [k], u', ?_, ?_, ?_, rfl, ?_, rfl⟩
    · rw [List.map_append]; rfl
    · rw [List.length_append, hul]; rfl
    · intro q hq
      rcases List.mem_append.mp hq with hq | hq
      · exact husl q hq
      · rw [List.mem_singleton.mp hq]; exact hk12
    · exact hu'
  rintro acc led fz' D ⟨us, u, rfl, hul, husl, rfl, hu, rfl⟩
  refine put cN (by walk_at "PUT") (seq_next ?_)
  dsimp only [List.cons_append, List.nil_append, UrnLed]
  -- store
  refine s_cons ?_
  refine s_assign_cell ms_ ks ?_
  repeat' walk_at "ST"
  refine ⟨keepK cK k257, ?_⟩
  repeat' walk_at "ST"
  refine wc_make M257 (fun y dy => storeInit_spec (prog := prog) (w := w) (fz := fz') y dy) cK cp cw (by rw [cn]; decide) .nil (fun _ _ _ _ _ h => h.1) ?_
  rintro st ds mu fz2 ⟨_, bd, sb, b0, rfl, hbd⟩ hs2
  have ha2 := hs2 _ ha1
  have hk2 : ∀ q ∈ kfz, q ∈ fz2 := fun q hq => hs2 q (hk1 q hq)
  clear hs2 ha1 hk1
  dsimp only [List.cons_append, List.nil_append]
  refine ⟨_, _, by walk_at "UP", seq_next ?_⟩
  replace hu : UrnOK 3 u := hu
  refine Wk.conv (σ := ⟨_, _, _⟩) (mu' := (bd, AO.dict [(Str.ofString "INBOX", .ref b0)]) :: (UrnLed un cs u ++ LC nc none (some (.ref st)) (some (.ref un)))) (fr := [(D, AO.list (us.map fun k => PV.ref (275 + k))), (st, AO.inst 257 ds), (ds, AO.dict (stDict bd sb)), (sb, AO.list [])])
    (.cons (.tail .head) (.cons (.tail (.tail (.tail (.tail .head)))) (.cons (.tail (.tail (.tail (.tail .head)))) (.cons (.tail (.tail (.tail (.tail .head)))) (.cons (.tail (.tail (.tail (.tail .head)))) (.cons (.tail (.tail (.tail (.tail .head)))) .nil)))))) (.cons (.tail (.tail (.tail .head))) (.cons (.tail .head) (.cons (.tail .head) (.cons .head .nil)))) ?_
  dsimp only [List.cons_append, List.nil_append]
  have hD : (D, AO.list (us.map fun k => PV.ref (275 + k))) ∈ (D, AO.list (us.map fun k => PV.ref (275 + k))) :: (st, AO.inst 257 ds) :: (ds, AO.dict (stDict bd sb)) :: (sb, AO.list []) :: fz2 := .head _
  have hst : (st, AO.inst 257 ds) ∈ (D, AO.list (us.map fun k => PV.ref (275 + k))) :: (st, AO.inst 257 ds) :: (ds, AO.dict (stDict bd sb)) :: (sb, AO.list []) :: fz2 := .tail _ (.head _)
  have hds : (ds, AO.dict (stDict bd sb)) ∈ (D, AO.list (us.map fun k => PV.ref (275 + k))) :: (st, AO.inst 257 ds) :: (ds, AO.dict (stDict bd sb)) :: (sb, AO.list []) :: fz2 := .tail _ (.tail _ (.head _))
  have hsb : (sb, AO.list []) ∈ (D, AO.list (us.map fun k => PV.ref (275 + k))) :: (st, AO.inst 257 ds) :: (ds, AO.dict (stDict bd sb)) :: (sb, AO.list []) :: fz2 := .tail _ (.tail _ (.tail _ (.head _)))
  have hk3 : ∀ q ∈ kfz, q ∈ (D, AO.list (us.map fun k => PV.ref (275 + k))) :: (st, AO.inst 257 ds) :: (ds, AO.dict (stDict bd sb)) :: (sb, AO.list []) :: fz2 := fun q hq => .tail _ (.tail _ (.tail _ (.tail _ (hk2 q hq))))
  generalize (D, AO.list (us.map fun k => PV.ref (275 + k))) :: (st, AO.inst 257 ds) :: (ds, AO.dict (stDict bd sb)) :: (sb, AO.list []) :: fz2 = fz3 at hD hst hds hsb hk3 ⊢
  clear hk2 ha2 hu0 O
  -- the boxes
  refine s_cons ?_
  refine s_for (items := (names4.map .str).map .val) (σ₁ := ⟨[some (.ref a), some (.ref D), none, none, none, none, none, none, none, none, none, none], (bd, AO.dict [(Str.ofString "INBOX", .ref b0)]) :: (UrnLed un cs u ++ LC nc none (some (.ref st)) (some (.ref un))), fz3⟩)
    (fun i σ => ∃ (nv : Option PV) (u' : Urn) (bs : List (Str × Bx)) (fz4 : List (Addr × AO)), σ = ⟨[some (.ref a), some (.ref D), nv, none, none, none, none, none, none, none, none, none], (bd, AO.dict (esOf b0 bs)) :: (UrnLed un cs u' ++ LC nc none (some (.ref st)) (some (.ref un))), fz4⟩ ∧ UrnOK (3 + 30 * i) u' ∧ (∀ q ∈ fz3, q ∈ fz4) ∧ SoFar fz4 bs i) ?_ ⟨none, u, [], fz3, rfl, by simpa using hu, fun _ h => h, ⟨rfl, fun _ h => (nomatch h), fun _ h => (nomatch h)⟩⟩ ?_ ?_
  · repeat' walk_at "ST"
    exact itb_tuple (hk3 _ (.head _))
  · rintro c' Sb i σ₂ x hx ⟨nv, u', bs, fz4, rfl, hu', hs4, hbs⟩
    have cN' : c'.names = _ := Sb.names.trans cN
    have cG' : c'.gl = _ := Sb.gl.trans cG
    have cC' : c'.cl = _ := Sb.cl.trans cC
    have cK' := Sb.K.trans cK
    rw [List.map_map, List.getElem?_map] at hx
    obtain ⟨y, hy, rfl⟩ := Option.map_eq_some_iff.mp hx
    have hi : i < 4 := (List.getElem?_eq_some_iff.mp hy).1
    have hyok := names4_ok y (List.mem_of_getElem? hy)
    show Tgt _ _ _ _ _
    dsimp only [UrnLed, LC, List.cons_append, List.nil_append]
    refine tg_name cN' (by walk_at "PUT") ?_
    repeat' walk_at "ST"
    refine ⟨keepK cK' k295, ?_⟩
    repeat' walk_at "ST"
    refine w_cell cC' (.tail _ (.tail _ (.head _))) (by walk_at "LOOK") ?_
    repeat' walk_at "ST"
    refine wc_spec (lawBox_spec (prog := prog) (w := w) hu' (by omega) hyok) cK' (Sb.prog.trans cp) (Sb.w.trans cw) (by rw [Sb.n, cn]; decide) (.cons (.tail .head) (.cons (.tail .head) .nil)) ?_
    refine hush fun H hH => ?_
    rintro p mu fz5 ⟨u2, X, rfl, rfl, hu2, hX, hXn⟩
    refine hH _ _ _ fun hs5 => ?_
    dsimp only [List.cons_append, List.nil_append, UrnLed]
    repeat' walk_at "ST"
    refine w_cell cC' (.tail _ (.head _)) (by walk_at "LOOK") ?_
    refine a_inst cK' R257 n257_boxes (.fz (hs5 _ (hs4 _ hst))) (.fz (hs5 _ (hs4 _ hds))) (by rfl) rfl ?_
    repeat' walk_at "ST"
    obtain ⟨q1, q2, q3⟩ := esOf_put (b0 := b0) (X := X) hbs hy
    refine set_dict (es := esOf b0 bs) (by walk_at "UP") q1 (Nat.le_trans q2 (by decide)) ?_
    refine seq_next (Wk.conv (σ := ⟨_, _, _⟩) (mu' := (bd, AO.dict (putE y (PV.ref X.b) (esOf b0 bs))) :: (UrnLed un cs u2 ++ LC nc none (some (.ref st)) (some (.ref un)))) (fr := []) (.cons (.tail (.tail .head)) (takeAll _)) .nil (s_nil ?_))
    refine ⟨some (.str y), u2, bs ++ [(y, X)], fz5, by rw [q3]; rfl, by have := hu2; rwa [show (3 + 30 * (i : Int) + 30) = 3 + 30 * ((i + 1 : Nat) : Int) by omega] at this, fun q hq => hs5 q (hs4 q hq), ?_, ?_, ?_⟩
    · rw [List.map_append, hbs.nm, List.take_add_one, hy]; rfl
    · intro q hq
      rcases List.mem_append.mp hq with hq | hq
      · exact (hbs.bx q hq).sub hs5
      · rw [List.mem_singleton.mp hq]; exact hX
    · intro q hq
      rcases List.mem_append.mp hq with hq | hq
      · exact hbs.at_ q hq
      · rw [List.mem_singleton.mp hq]; exact hXn
  rintro σ ⟨nv, u', bs, fz4, rfl, hu4, hs4, hbs⟩
  replace hbs : SoFar fz4 bs 4 := hbs
  replace hu4 : UrnOK 123 u' := hu4
  have hnm : bs.map (·.1) = names4 := hbs.nm
  have hbl : bs.length = 4 := by have := congrArg List.length hnm; rwa [List.length_map] at this
  have hes : esOf b0 bs = bs.map fun p => (p.1, PV.ref p.2.b) := if_neg (fun e => by rw [e] at hbl; cases hbl)
  rw [hes]
  dsimp only [UrnLed, LC, List.cons_append, List.nil_append]
  refine Wk.conv (σ := ⟨_, _, _⟩) (mu' := UrnLed un cs u' ++ LC nc none (some (.ref st)) (some (.ref un))) (fr := [(bd, AO.dict (bs.map fun p => (p.1, PV.ref p.2.b)))]) (.cons (.tail .head) (.cons (.tail .head) (.cons (.tail .head) (.cons (.tail .head) (.cons (.tail .head) .nil))))) (.cons .head .nil) ?_
  have hS : Sx.In ((bd, AO.dict (bs.map fun p => (p.1, PV.ref p.2.b))) :: fz4) ⟨st, ds, bd, sb, bs⟩ := ⟨.tail _ (hs4 _ hst), .tail _ (hs4 _ hds), .head _, .tail _ (hs4 _ hsb), fun p hp => (hbs.bx p hp).sub fun q hq => .tail _ hq, by show ((bs.map fun p => (p.1, PV.ref p.2.b)).map (·.1)).Nodup; rw [List.map_map]; exact (show bs.map (·.1) = names4 from hnm) ▸ names4_nodup, hbd⟩
  have hk4 : ∀ q ∈ kfz, q ∈ (bd, AO.dict (bs.map fun p => (p.1, PV.ref p.2.b))) :: fz4 := fun q hq => .tail _ (hs4 _ (hk3 q hq))
  have hD4 : (D, AO.list (us.map fun k => PV.ref (275 + k))) ∈ (bd, AO.dict (bs.map fun p => (p.1, PV.ref p.2.b))) :: fz4 := .tail _ (hs4 _ hD)
  have hat := hbs.at_
  generalize hfz5 : (bd, AO.dict (bs.map fun p => (p.1, PV.ref p.2.b))) :: fz4 = fz5 at hS hk4 hD4
  dsimp only [UrnLed, LC, List.cons_append, List.nil_append]
  rw [hfz5]
  clear hfz5 hes hbs hs4 hk3 hD hst hds hsb
  -- before
  refine s_cons ?_
  repeat' walk_at "ST"
  refine w_cell cC (.tail _ (.head _)) (by walk_at "LOOK") ?_
  refine m_inst cK R257 m257_told i254 (.fz hS.st) (.fz hS.ds) (by rfl) ⟨keepK cK k254, ?_⟩
  repeat' walk_at "ST"
  refine wc_spec (told_spec (prog := prog) (w := w) hS (by show bs.length ≤ 10; omega)) cK cp cw (by rw [cn]; decide) .nil ?_
  refine hush fun H hH => ?_
  rintro p mu fz6 ⟨rfl, hbef⟩
  refine hH _ _ _ fun hs6 => ?_
  replace hS := hS.sub hs6
  replace hk4 : ∀ q ∈ kfz, q ∈ fz6 := fun q hq => hs6 q (hk4 q hq)
  replace hD4 := hs6 _ hD4
  clear hH hs6
  clear H
  try dsimp only [List.nil_append]
  generalize p = bef at hbef ⊢
  refine put cN (by walk_at "PUT") (seq_next ?_)
  -- every box is told
  refine s_cons ?_
  repeat' walk_at "ST"
  refine w_compX (compOKC (cl := [(Str.ofString "store", nc + 1)]) (ccl := [(Str.ofString "store", nc + 1)]) (cn := [Str.ofString "name"]) (gl := [(Str.ofString "_law_is_told", .ref 342)]) (clos_of cE fun env he => ?_) (by decide) (fun p hp => ?_) (fun p hp => ?_)) ?_
  · obtain ⟨⟩ := env
    cases he
    rfl
  · rw [cK, List.mem_singleton.mp hp]; exact g__law_is_told
  · rw [List.mem_singleton.mp hp]
    exact ⟨by kernel_rfl, by kernel_rfl, (by decide : (Str.ofString "store" == ("__debug__" : Str)) = false), (by decide : (Str.ofString "store" == ("__classdict__" : Str)) = false)⟩
  repeat' walk_at "ST"
  refine ⟨(names4.map .str).map .val, ⟨_, _, _⟩, fun i acc led fz' => acc = [] ∧ led = UrnLed un cs u' ++ LC nc none (some (.ref st)) (some (.ref un)) ∧ (∀ q ∈ fz6, q ∈ fz'), itb_tuple (hk4 _ (.head _)), by decide, ⟨rfl, rfl, fun _ h => h⟩, ?_, ?_⟩
  · rintro c' CS i acc loc led fz' x hx ⟨rfl, rfl, hs7⟩ hl'
    rw [List.map_map, List.getElem?_map] at hx
    obtain ⟨y, hy, rfl⟩ := Option.map_eq_some_iff.mp hx
    obtain ⟨v, rfl⟩ := one_of hl'
    have cN' : c'.names = [Str.ofString "name"] := CS.names
    have cG' : c'.gl = _ := CS.gl
    have cC' : c'.cl = [(Str.ofString "store", nc + 1)] := CS.cl
    have cK' := CS.K.trans cK
    obtain ⟨B, hB⟩ := mem_lookup (l := bs) (y := y) (by rw [hnm]; exact List.mem_of_getElem? hy)
    have hS' := hS.sub hs7
    have hBin : B.In fz' := hS'.bx _ (lookup_mem hB)
    dsimp only [UrnLed, LC, List.cons_append, List.nil_append]
    show Tgt _ _ _ _ _
    refine tg_name cN' .head (tests_one ?_)
    refine t_not (t_plain ?_)
    repeat' walk_at "ST"
    refine ⟨keepK cK' k342, ?_⟩
    repeat' walk_at "ST"
    refine w_cell cC' (.head _) (by walk_at "LOOK") ?_
    refine a_inst cK' R257 n257_boxes (.fz hS'.st) (.fz hS'.ds) (by rfl) rfl ?_
    repeat' walk_at "ST"
    refine sub_dict (by exact .fz hS'.bd) hS'.nod (p := .ref B.b) (by rw [lookup_es, hB]; rfl) ?_ (by intro _ _; rfl)
    repeat' walk_at "ST"
    refine wc_spec (isTold_spec (prog := prog) (w := w) hBin) cK' (CS.prog.trans cp) (CS.w.trans cw) (by rw [CS.n, cn]; decide) .nil ?_
    rintro p mu fz7 ⟨rfl, rfl⟩ hs8
    repeat' walk_at "ST"
    exact ⟨_, [], [], _, takeAll _, .nil, rfl, rfl, fun q hq => hs8 q (hs7 q hq)⟩
  rintro acc led fz7 DD ⟨rfl, rfl, hs7⟩
  replace hS := hS.sub hs7
  replace hbef := hbef.sub hs7
  replace hk4 : ∀ q ∈ kfz, q ∈ fz7 := fun q hq => hs7 q (hk4 q hq)
  replace hD4 := hs7 _ hD4
  clear hs7
  repeat' walk_at "ST"
  refine wnf ?_
  repeat' walk_at "ST"
  dsimp only [UrnLed, LC, List.cons_append, List.nil_append]
  refine Wk.conv (σ := ⟨_, _, _⟩) (mu' := UrnLed un cs u' ++ LC nc none (some (.ref st)) (some (.ref un))) (fr := []) (.cons (.tail (.tail .head)) (.cons (.tail (.tail .head)) (.cons (.tail (.tail .head)) (.cons (.tail (.tail .head)) (.cons (.tail (.tail .head)) .nil))))) .nil ?_
  try dsimp only [List.nil_append]
  -- the turns
  refine s_for (items := (us.map fun k => PV.ref (275 + k)).map .val) (σ₁ := ⟨[some (.ref a), some (.ref D), nv, some bef, none, none, none, none, none, none, none, none], UrnLed un cs u' ++ LC nc none (some (.ref st)) (some (.ref un)), fz7⟩)
    (fun i σ => ∃ (n2 n4 n5 n6 n7 n8 n9 nb : Option PV) (u2 : Urn) (fz8 : List (Addr × AO)) (led rest : List (Addr × AO)), σ = ⟨[some (.ref a), some (.ref D), n2, some bef, n4, n5, n6, n7, n8, n9, none, none], led, fz8⟩ ∧ Take led (UrnLed un cs u2 ++ LC nc nb (some (.ref st)) (some (.ref un))) rest ∧ UrnOK (123 + 30 * i) u2 ∧ (∀ q ∈ fz7, q ∈ fz8)) ?_ ⟨_, _, _, _, _, _, _, _, u', fz7, _, _, rfl, takeAll _, by simpa using hu4, fun _ h => h⟩ ?_ ?_
  · repeat' walk_at "ST"
    exact itb_list hD4 (.inr ⟨⟨_, _, _, rfl⟩, fun x hx => by obtain ⟨k, _, rfl⟩ := List.mem_map.mp hx; exact ⟨_, rfl⟩⟩)
  · rintro c' Sb i σ₂ x hx ⟨n2, n4, n5, n6, n7, n8, n9, nb, u2, fz8, led0, rest0, rfl, htk, hu5, hs8⟩
    have cN' : c'.names = _ := Sb.names.trans cN
    have cG' : c'.gl = _ := Sb.gl.trans cG
    have cC' : c'.cl = _ := Sb.cl.trans cC
    have cK' := Sb.K.trans cK
    have cp' := Sb.prog.trans cp
    have cE' : c'.env.cells = _ := (congrArg Env.cells Sb.env).trans cE
    have cw' := Sb.w.trans cw
    have cn' : c'.n = 10 := Sb.n.trans cn
    have hi : i < 3 := by have := (List.getElem?_eq_some_iff.mp hx).1; rw [List.length_map, List.length_map, hul] at this; exact this
    rw [List.map_map, List.getElem?_map] at hx
    obtain ⟨k, hk, rfl⟩ := Option.map_eq_some_iff.mp hx
    obtain ⟨sa, sb', hp, hm⟩ := sp_mem (husl k (List.mem_of_getElem? hk))
    obtain ⟨nl, rfl⟩ : ∃ nl, sa = T nl := ⟨_, T_of sa⟩
    have hnl : NmOK nl := by have := sp_nm hp; rwa [T_cps] at this
    have hS8 := hS.sub hs8
    have hk8 : ∀ q ∈ kfz, q ∈ fz8 := fun q hq => hs8 q (hk4 q hq)
    clear hx
    have hz : ∃ z, z = (if sb' = Str.ofString "" then Str.ofString "INBOX" else sb') ∧ z ∈ names4 := by
      have := sp_norm _ hp
      dsimp only at this
      by_cases e : sb' = Str.ofString ""
      · exact ⟨_, rfl, by rw [if_pos e]; exact .head _⟩
      · rw [if_neg e] at this; exact ⟨_, rfl, by rw [if_neg e]; exact this.2⟩
    obtain ⟨z, hzd, hzm⟩ := hz
    obtain ⟨X, hX⟩ := mem_lookup (l := bs) (y := z) (by rw [hnm]; exact hzm)
    have hXin : X.In fz8 := hS8.bx _ (lookup_mem hX)
    show Tgt _ _ _ _ _
    dsimp only [UrnLed, LC, List.cons_append, List.nil_append]
    refine tg_tuple2 (p := .str (T nl)) (q := .str sb') (.fz (hk8 _ hm)) ?_
    show Put _ _ _ (Put _ _ _ _) _
    refine put cN' (by walk_at "PUT") (put cN' (by walk_at "PUT") ?_)
    show Wk c' PF.Is _ _ _
    refine Wk.conv (σ := ⟨_, _, _⟩) (mu' := UrnLed un cs u2 ++ LC nc nb (some (.ref st)) (some (.ref un))) (fr := []) htk .nil ?_
    dsimp only [UrnLed, LC, List.cons_append, List.nil_append]
    clear htk
    -- text
    refine s_cons ?_
    repeat' walk_at "ST"
    refine ⟨keepK cK' k316, ?_⟩
    repeat' walk_at "ST"
    refine w_cell cC' (.tail _ (.tail _ (.head _))) (by walk_at "LOOK") ?_
    repeat' walk_at "ST"
    refine w_cell cC' (.tail _ (.head _)) (by walk_at "LOOK") ?_
    refine a_inst cK' R257 n257_boxes (.fz hS8.st) (.fz hS8.ds) (by rfl) rfl ?_
    refine Wk.mono (Q := fun p σ' => p = .str z ∧ σ' = ⟨[some (.ref a), some (.ref D), some (.str sb'), some bef, some (.str (T nl)), n5, n6, n7, n8, n9, none, none], UrnLed un cs u2 ++ LC nc nb (some (.ref st)) (some (.ref un)), fz8⟩) ?_ ?_
    · repeat' walk_at "ST"
      refine wite (fun e => ?_) (fun e => ?_)
      · repeat' walk_at "ST"
        rw [if_neg (of_decide_eq_false (by simpa using e))] at hzd
        exact ⟨by rw [hzd], rfl⟩
      · repeat' walk_at "ST"
        rw [if_pos (of_decide_eq_true (by simpa using e))] at hzd
        exact ⟨by rw [hzd], rfl⟩
    rintro p σ' ⟨rfl, rfl⟩
    dsimp only [UrnLed, LC, List.cons_append, List.nil_append]
    refine sub_dict (by exact .fz hS8.bd) hS8.nod (p := .ref X.b) (by rw [lookup_es]; show Option.map _ (bs.lookup z) = _; rw [hX]; rfl) ?_ (by intro _ _; rfl)
    repeat' walk_at "ST"
    refine wc_spec (spelling_spec (prog := prog) (w := w) hu5 (by omega) hXin (hk8 _ (.tail _ (.tail _ (.head _))))) cK' cp' cw' (by rw [cn']; decide) (.cons .head (.cons .head .nil)) ?_
    refine hush fun H hH => ?_
    rintro p mu fz9 ⟨u3, l, rfl, rfl, hu6, hll, hlc⟩
    refine hH _ _ _ fun hs9 => ?_
    replace hs9 : ∀ q ∈ fz7, q ∈ fz9 := fun q hq => hs9 q (hs8 q hq)
    clear hH
    clear H
    dsimp only [UrnLed, LC, List.cons_append, List.nil_append]
    refine put cN' (by walk_at "PUT") (seq_next ?_)
    -- rest, words
    refine s_cons (s_assign_tup ?_)
    repeat' walk_at "ST"
    refine ⟨keepK cK' k323, ?_⟩
    repeat' walk_at "ST"
    refine w_cell cC' (.tail _ (.tail _ (.head _))) (by walk_at "LOOK") ?_
    repeat' walk_at "ST"
    refine wc_spec (rest_spec (prog := prog) (w := w) hu6 (by omega) ⟨hnl.ne, hnl.len⟩ hll) cK' cp' cw' (by rw [cn']; decide) (.cons .head (.cons .head .nil)) ?_
    refine hush fun H hH => ?_
    rintro p mu fz10 ⟨u4, t, r, ws, wv, rfl, rfl, hu7, ht, hwv, hr⟩
    refine hH _ _ _ fun hs10 => ?_
    replace hs10 : ∀ q ∈ fz7, q ∈ fz10 := fun q hq => hs10 q (hs9 q hq)
    clear hH
    clear H
    dsimp only [UrnLed, LC, List.cons_append, List.nil_append]
    refine tg_tuple2 (p := .str (T r)) (q := wv) (.fz ht) ?_
    show Put _ _ _ (Put _ _ _ _) _
    refine put cN' (by walk_at "PUT") (put cN' (by walk_at "PUT") (seq_next ?_))
    -- number
    have hrw := rest_ws hnl hlc hr
    refine s_cons (s_assign_cell (x := Str.ofString "number") (a := nc + 2) (by rw [cC']; exact .head _) (by rw [Sb.env]; exact kn) (Wk.mono (Q := fun p σ' => p = (match ws with | none => PV.none | some (_, y) => numPV y.cps.toList) ∧ σ' = ⟨[some (.ref a), some (.ref D), some (.str sb'), some bef, some (.str (T nl)), some (.str (T l)), some (.str (T r)), some wv, n8, n9, none, none], UrnLed un cs u4 ++ LC nc nb (some (.ref st)) (some (.ref un)), fz10⟩) ?_ ?_))
    · cases ws with
      | none =>
        obtain rfl : wv = .none := hwv
        repeat' walk_at "ST"
        refine wt ?_
        repeat' walk_at "ST"
        exact ⟨rfl, rfl⟩
      | some q =>
        obtain ⟨a', y⟩ := q
        obtain ⟨tw, rfl, htw⟩ := hwv
        have hyl := (words_ok hp rfl hll hlc hr a' y hrw.2.1).2
        obtain ⟨yl, rfl⟩ : ∃ yl, y = T yl := ⟨_, T_of y⟩
        rw [T_len] at hyl
        repeat' walk_at "ST"
        refine wf ?_
        repeat' walk_at "ST"
        refine ⟨keepK cK' k309, ?_⟩
        repeat' walk_at "ST"
        refine sub_tuple (by exact .fz htw) (by decide) (by decide) (p := .str (T yl)) rfl ?_
        repeat' walk_at "ST"
        refine wc_val (lawNumber_spec (prog := prog) (w := w) hyl) cK' cp' cw' (by rw [cn']; decide) ?_
        exact ⟨by show _ = numPV (T yl).cps.toList; rw [T_cps], rfl⟩
    rintro p σ' ⟨rfl, rfl⟩
    dsimp only [UrnLed, LC, List.cons_append, List.nil_append]
    refine ⟨_, _, by walk_at "UP", seq_next ?_⟩
    -- here
    have hS10 := hS.sub hs10
    have hX10 : X.In fz10 := hS10.bx _ (lookup_mem hX)
    refine s_cons (s_assign (Wk.mono (Q := fun p σ' => ∃ h, p = .ref h ∧ σ' = ⟨[some (.ref a), some (.ref D), some (.str sb'), some bef, some (.str (T nl)), some (.str (T l)), some (.str (T r)), some wv, n8, n9, none, none], (h, AO.list ((hereOf bs sb' ws).map fun l => PV.ref l.x)) :: (UrnLed un cs u4 ++ LC nc (some (match ws with | none => PV.none | some (_, y) => numPV y.cps.toList)) (some (.ref st)) (some (.ref un))), fz10⟩) ?_ ?_))
    · repeat' walk_at "ST"
      cases ws with
      | none =>
        obtain rfl : wv = .none := hwv
        refine wt ?_
        repeat' walk_at "ST"
        rename_i h
        exact ⟨h, rfl, rfl⟩
      | some q =>
        obtain ⟨a', y⟩ := q
        obtain ⟨tw, rfl, htw⟩ := hwv
        refine wf ?_
        repeat' walk_at "ST"
        refine wite (fun e => ?_) (fun e => ?_)
        · repeat' walk_at "ST"
          rename_i h
          refine ⟨h, rfl, ?_⟩
          unfold hereOf
          dsimp only
          rw [if_pos (of_decide_eq_true e)]; rfl
        · have hz' : z = sb' := by rw [hzd, if_neg (of_decide_eq_false e)]
          subst hz'
          repeat' walk_at "ST"
          refine w_compX (compOKC (cl := [(Str.ofString "number", nc + 2)]) (ccl := [(Str.ofString "number", nc + 2)]) (cn := [Str.ofString "letter"]) (gl := []) (clos_of cE' fun env he => ?_) (by decide) noGl (fun p hp => ?_)) ?_
          · obtain ⟨⟩ := env
            cases he
            rfl
          · rw [List.mem_singleton.mp hp]
            exact ⟨by kernel_rfl, by kernel_rfl, (by decide : (Str.ofString "number" == ("__debug__" : Str)) = false), (by decide : (Str.ofString "number" == ("__classdict__" : Str)) = false)⟩
          repeat' walk_at "ST"
          refine w_cell cC' (.tail _ (.head _)) (by walk_at "LOOK") ?_
          refine a_inst cK' R257 n257_boxes (.fz hS10.st) (.fz hS10.ds) (by rfl) rfl ?_
          repeat' walk_at "ST"
          refine sub_dict (by exact .fz hS10.bd) hS10.nod (p := .ref X.b) (by rw [lookup_es]; show Option.map _ (bs.lookup z) = _; rw [hX]; rfl) ?_ (by intro _ _; rfl)
          refine a_inst cK' R184 n184_letters (.fz hX10.b) (.fz hX10.db) (by rfl) rfl ?_
          refine ⟨X.refs.map .val, ⟨_, _, _⟩, fun i acc led fz' => acc = ((X.lts.take i).filter fun l : Lt => okNum y.cps.toList && l.uid == ((valN y.cps.toList : Nat) : Int)).map (fun l : Lt => PV.ref l.x) ∧ led = UrnLed un cs u4 ++ LC nc (some (numPV y.cps.toList)) (some (.ref st)) (some (.ref un)) ∧ fz' = fz10, itb_list hX10.ls (.inl ⟨_, _, rfl⟩), ?_, ⟨rfl, rfl, rfl⟩, ?_, ?_⟩
          · have := hX10.len
            rw [List.length_map]; unfold Bx.refs; rw [List.length_map]; omega
          · rintro c2 CS i acc loc led fz' x hx ⟨rfl, rfl, rfl⟩ hl'
            unfold Bx.refs at hx
            rw [List.map_map, List.getElem?_map] at hx
            obtain ⟨lt, hlt, rfl⟩ := Option.map_eq_some_iff.mp hx
            obtain ⟨v, rfl⟩ := one_of hl'
            have cN2 : c2.names = [Str.ofString "letter"] := CS.names
            have cC2 : c2.cl = [(Str.ofString "number", nc + 2)] := CS.cl
            have cK2 := CS.K.trans cK'
            obtain ⟨l1, l2, l3, l4, l5⟩ := hX10.lt lt (List.mem_of_getElem? hlt)
            have fin : ∀ b : Bool, (okNum y.cps.toList && lt.uid == ((valN y.cps.toList : Nat) : Int)) = b → ((X.lts.take (i + 1)).filter fun l : Lt => okNum y.cps.toList && l.uid == ((valN y.cps.toList : Nat) : Int)) = ((X.lts.take i).filter fun l : Lt => okNum y.cps.toList && l.uid == ((valN y.cps.toList : Nat) : Int)) ++ (if b = true then [lt] else []) := fun b hb => by
              rw [List.take_add_one, hlt, List.filter_append]
              show _ ++ List.filter _ [lt] = _
              rw [List.filter_cons, hb]; rfl
            show Tgt _ _ _ _ _
            dsimp only [UrnLed, LC, List.cons_append, List.nil_append]
            refine tg_name cN2 .head (tests_one ?_)
            repeat' walk_at "ST"
            refine a_inst cK2 R146 n146_uid (.fz l1) (.fz l2) (by rfl) rfl ?_
            refine w_cell cC2 (.head _) (by walk_at "LOOK") ?_
            cases hok : okNum y.cps.toList with
            | true =>
              rw [show numPV y.cps.toList = .int (valN y.cps.toList) from if_pos hok]
              repeat' walk_at "ST"
              rw [hok] at fin
              refine wite (fun e => ?_) (fun e => ?_)
              · repeat' walk_at "ST"
                refine ⟨_, [], [], _, takeAll _, .nil, ?_, ?_, rfl⟩
                · rw [fin true (by rw [Bool.true_and, beq_iff_eq]; have := of_decide_eq_true e; omega), List.map_append]; rfl
                · rfl
              · refine ⟨_, [], [], _, takeAll _, .nil, ?_, ?_, rfl⟩
                · rw [fin false (by rw [Bool.true_and, beq_eq_false_iff_ne]; have := of_decide_eq_false e; omega)]; exact (congrArg _ (List.append_nil _).symm)
                · rfl
            | false =>
              rw [show numPV y.cps.toList = .none from if_neg (by rw [hok]; decide)]
              refine b_eq_int_none ?_
              repeat' walk_at "ST"
              rw [hok] at fin
              refine ⟨_, [], [], _, takeAll _, .nil, ?_, ?_, rfl⟩
              · rw [fin false rfl]; exact (congrArg _ (List.append_nil _).symm)
              · rfl
          · rintro acc led fz' D ⟨rfl, rfl, rfl⟩
            refine ⟨D, rfl, ?_⟩
            unfold hereOf
            dsimp only
            rw [if_neg (of_decide_eq_false e), hX]
            have : (X.refs.map Itm.val).length = X.lts.length := by rw [List.length_map]; unfold Bx.refs; rw [List.length_map]
            rw [this, List.take_length]
    rintro p σ' ⟨h, rfl, rfl⟩
    dsimp only [UrnLed, LC, List.cons_append, List.nil_append]
    refine put cN' (by walk_at "PUT") (seq_next ?_)
    generalize hnv : (match ws with | none => PV.none | some (_, y) => numPV y.cps.toList) = nv'
    -- heard
    refine s_cons ?_
    repeat' walk_at "ST"
    refine ⟨keepK cK' k330, ?_⟩
    repeat' walk_at "ST"
    refine w_cell cC' (.tail _ (.head _)) (by walk_at "LOOK") ?_
    repeat' walk_at "ST"
    refine wc_spec (heard_spec (prog := prog) (w := w) hS10 (line_ok hnl hll hr) (words_ok hp rfl hll hlc hr)) cK' cp' cw' (by rw [cn']; decide) .nil ?_
    refine hush fun H hH => ?_
    rintro p mu fz11 ⟨rfl, ws', wv', f, wd, hd, rfl, hhd, hwv', hH'⟩
    refine hH _ _ _ fun hs11 => ?_
    clear hH
    clear H
    obtain ⟨rfl, hwd, hhere⟩ := heard_law hS10 hnm hp rfl hlc hr hH'
    try dsimp only [List.nil_append]
    refine put cN' (by walk_at "PUT") (seq_next ?_)
    -- the answers
    replace hwv := hwv.sub hs11
    replace hs11 : ∀ q ∈ fz7, q ∈ fz11 := fun q hq => hs11 q (hs10 q hq)
    refine s_cons ?_
    refine s_if (t_or ?_)
    repeat' walk_at "ST"
    refine sub_tuple (by exact .fz hhd) (by decide) (by decide) (p := wv') rfl ?_
    repeat' walk_at "ST"
    refine b_ne_words hwv' hwv ?_
    repeat' walk_at "ST"
    refine ⟨keepK cK' k337, ?_⟩
    repeat' walk_at "ST"
    refine wc_val (read_spec (prog := prog) (w := w) (l := l) (by omega)) cK' cp' cw' (by rw [cn']; decide) ?_
    try dsimp only [List.nil_append]
    repeat' walk_at "ST"
    refine ⟨keepK cK' k309, ?_⟩
    repeat' walk_at "ST"
    refine wc_val (lawNumber_spec (prog := prog) (w := w) (l := l) (by omega)) cK' cp' cw' (by rw [cn']; decide) ?_
    try dsimp only [List.nil_append]
    refine b_ne_num ?_
    repeat' walk_at "ST"
    refine sub_tuple (by exact .fz hhd) (by decide) (by decide) (p := .str wd) rfl ?_
    refine Wk.mono (Q := fun p σ' => p = .str (wordOf sb' (hereOf bs sb' ws') ws') ∧ ∃ pre, σ' = ⟨[some (.ref a), some (.ref D), some (.str sb'), some bef, some (.str (T nl)), some (.str (T l)), some (.str (T r)), some wv, some (.ref h), some (.ref hd), none, none], pre ++ ((h, AO.list ((hereOf bs sb' ws').map fun l => PV.ref l.x)) :: (UrnLed un cs u4 ++ LC nc (some nv') (some (.ref st)) (some (.ref un)))), fz11⟩) ?_ ?_
    · repeat' walk_at "ST"
      cases ws' with
      | none =>
        obtain rfl : wv = .none := hwv
        refine wt ?_
        repeat' walk_at "ST"
        exact ⟨rfl, [], rfl⟩
      | some q =>
        obtain ⟨a', y⟩ := q
        obtain ⟨tw, rfl, htw⟩ := hwv
        refine wf ?_
        repeat' walk_at "ST"
        refine wite (fun e => ?_) (fun e => ?_)
        · repeat' walk_at "ST"
          exact ⟨by show _ = PV.str (if _ then _ else _); rw [if_pos (of_decide_eq_true e)], [], rfl⟩
        · repeat' walk_at "ST"
          refine wite (fun e2 => ?_) (fun e2 => ?_)
          · repeat' walk_at "ST"
            refine ⟨?_, [_], rfl⟩
            show _ = PV.str (if _ then _ else if _ then _ else _)
            rw [List.isEmpty_map] at e2
            rw [if_neg (of_decide_eq_false e), if_pos e2]
          · repeat' walk_at "ST"
            refine ⟨?_, [_], rfl⟩
            show _ = PV.str (if _ then _ else if _ then _ else _)
            rw [List.isEmpty_map] at e2
            rw [if_neg (of_decide_eq_false e), if_neg (by rw [e2]; decide)]
    rintro p σ' ⟨rfl, pre, rfl⟩
    repeat' walk_at "ST"
    rw [show (decide (wd = wordOf sb' (hereOf bs sb' ws') ws')) = true from decide_eq_true hwd]
    repeat' walk_at "ST"
    refine sub_tuple (by exact .fz hhd) (by decide) (by decide) (p := .str wd) rfl ?_
    repeat' walk_at "ST"
    have hfin : ∀ pre : List (Addr × AO), ∃ (n2 n4 n5 n6 n7 n8 n9 nb : Option PV) (u2 : Urn) (fz8 : List (Addr × AO)) (led rest : List (Addr × AO)), (⟨[some (.ref a), some (.ref D), some (.str sb'), some bef, some (.str (T nl)), some (.str (T l)), some (.str (T r)), some wv, some (.ref h), some (.ref hd), none, none], pre ++ ((h, AO.list ((hereOf bs sb' ws').map fun l => PV.ref l.x)) :: (UrnLed un cs u4 ++ LC nc (some nv') (some (.ref st)) (some (.ref un)))), fz11⟩ : St) = ⟨[some (.ref a), some (.ref D), n2, some bef, n4, n5, n6, n7, n8, n9, none, none], led, fz8⟩ ∧ Take led (UrnLed un cs u2 ++ LC nc nb (some (.ref st)) (some (.ref un))) rest ∧ UrnOK (123 + 30 * ((i + 1 : Nat) : Int)) u2 ∧ (∀ q ∈ fz7, q ∈ fz8) := fun pre =>
      ⟨_, _, _, _, _, _, _, _, u4, fz11, _, pre ++ [_], rfl, by rw [← List.singleton_append, ← List.append_assoc]; exact takeEnd _ _, by have := hu7; rwa [show (123 + 30 * (i : Int) + 20 + 10) = 123 + 30 * ((i + 1 : Nat) : Int) by omega] at this, hs11⟩
    refine wite (fun e => ?_) (fun e => ?_)
    · obtain ⟨lt, rfl, hone⟩ := hhere (of_decide_eq_true e)
      replace hone : hereOf bs sb' ws' = [lt] := hone
      repeat' walk_at "ST"
      refine sub_tuple (by exact .fz hhd) (by decide) (by decide) (p := .ref lt.x) rfl ?_
      repeat' walk_at "ST"
      refine sub_list (xs := (hereOf bs sb' ws').map fun l => PV.ref l.x) (.led (List.mem_append_right _ (.head _))) (by decide) (by decide) (p := .ref lt.x) (by rw [hone]; rfl) ?_
      refine b_isnot_self ?_
      repeat' walk_at "ST"
      exact hfin pre
    · repeat' walk_at "ST"
      exact hfin pre
  rintro σ ⟨n2, n4, n5, n6, n7, n8, n9, nb, u2, fz8, led0, rest0, rfl, htk, hu5, hs8⟩
  refine Wk.conv (σ := ⟨_, _, _⟩) (mu' := UrnLed un cs u2 ++ LC nc nb (some (.ref st)) (some (.ref un))) (fr := []) htk .nil ?_
  dsimp only [UrnLed, LC, List.cons_append, List.nil_append]
  clear htk
  have hu6 : UrnOK 213 u2 := by
    have := hu5
    rw [List.length_map, List.length_map, hul] at this
    exact this
  clear hu5
  have hS8 := hS.sub hs8
  have hbef8 := hbef.sub hs8
  clear hs8
  -- numbers
  refine s_cons (Wk.ok fun O => ?_)
  refine s_assign_compX (compOKC (cl := [(Str.ofString "urn", nc)]) (ccl := [(Str.ofString "urn", nc)]) (cn := [Str.ofString "turn"]) (gl := [(Str.ofString "_law_pull", .ref 273)]) (clos_of cE fun env he => ?_) (by decide) (fun p hp => ?_) (fun p hp => ?_)) ?_ (swapT O (by rw [cN]; walk_at "MEM") rfl rfl)
  · obtain ⟨⟩ := env
    cases he
    rfl
  · rw [cK, List.mem_singleton.mp hp]; exact g__law_pull
  · rw [List.mem_singleton.mp hp]
    exact ⟨by kernel_rfl, by kernel_rfl, (by decide : (Str.ofString "urn" == ("__debug__" : Str)) = false), (by decide : (Str.ofString "urn" == ("__classdict__" : Str)) = false)⟩
  repeat' walk_at "ST"
  refine ⟨fun _ => trivial, ?_⟩
  repeat' walk_at "ST"
  refine ⟨keepK cK k273, ?_⟩
  repeat' walk_at "ST"
  refine w_cell cC (.tail _ (.tail _ (.head _))) (by walk_at "LOOK") ?_
  repeat' walk_at "ST"
  refine wc_pull (many := 4) hu6 (by decide) (by decide) cK (by rw [cn]; decide) (.cons .head (.cons .head .nil)) fun d u3 w0 w1 hu7 => ?_
  obtain ⟨m, rfl⟩ := Int.eq_ofNat_of_zero_le w0
  have hm4 : m < 4 := by omega
  dsimp only [UrnLed, LC, List.cons_append, List.nil_append]
  repeat' walk_at "ST"
  refine c_range (n := m) fun rr => ?_
  refine ⟨(List.range m).map fun i : Nat => .val (.int (i : Int)), ⟨_, UrnLed un cs u3 ++ LC nc nb (some (.ref st)) (some (.ref un)), _⟩, fun i acc led fz' => ∃ (vs : List Nat) (u : Urn), acc = vs.map (fun n : Nat => PV.int (n : Int)) ∧ vs.length = i ∧ (∀ n ∈ vs, n < 10 ^ 18) ∧ led = UrnLed un cs u ++ LC nc nb (some (.ref st)) (some (.ref un)) ∧ UrnOK (214 + i) u ∧ fz' = fz8, Itb.weak (σ₁ := ⟨_, _, _⟩) (itb_range (n := m) (.led (.head _)) (by omega)) (takeBut _), by rw [List.length_map, List.length_range]; omega, ⟨[], _, rfl, rfl, fun _ h => (nomatch h), rfl, by simpa using hu7, rfl⟩, ?_, ?_⟩
  · rintro c' CS i acc loc led fz' y hy ⟨vs, u, rfl, hvl, hvs, rfl, hu, rfl⟩ hl'
    rw [List.getElem?_map] at hy
    obtain ⟨j, hj, rfl⟩ := Option.map_eq_some_iff.mp hy
    have hi3 : i < 4 := by have := (List.getElem?_eq_some_iff.mp hj).1; rw [List.length_range] at this; omega
    obtain ⟨v, rfl⟩ := one_of hl'
    have cN' : c'.names = [Str.ofString "turn"] := CS.names
    have cG' : c'.gl = _ := CS.gl
    have cC' : c'.cl = [(Str.ofString "urn", nc)] := CS.cl
    have cK' := CS.K.trans cK
    show Tgt _ _ _ _ _
    dsimp only [UrnLed, LC, List.cons_append, List.nil_append]
    refine tg_name cN' .head (tests_nil (wt ?_))
    repeat' walk_at "ST"
    refine ⟨keepK cK' k273, ?_⟩
    repeat' walk_at "ST"
    refine w_cell cC' (.head _) (by walk_at "LOOK") ?_
    repeat' walk_at "ST"
    refine b_pow_int (by decide) (by decide +kernel) ?_
    repeat' walk_at "ST"
    refine wc_pull (many := 10 ^ 18) hu (by omega) (by decide) cK' (by rw [CS.n, cn]; decide) (.cons .head (.cons .head .nil)) fun d u' w0 w1 hu' => ?_
    dsimp only [List.cons_append, List.nil_append, UrnLed]
    obtain ⟨k, rfl⟩ := Int.eq_ofNat_of_zero_le w0
    refine ⟨_, [], [], _, takeAll _, .nil, vs ++ [k], u', ?_, ?_, ?_, rfl, ?_, rfl⟩
    · rw [List.map_append]; rfl
    · rw [List.length_append, hvl]; rfl
    · intro q hq
      rcases List.mem_append.mp hq with hq | hq
      · exact hvs q hq
      · rw [List.mem_singleton.mp hq]; exact Int.ofNat_lt.mp (by simpa using w1)
    · have := hu'; rwa [show (214 + (i : Int) + 1) = 214 + ((i + 1 : Nat) : Int) by omega] at this
  rintro acc led fz' NN ⟨vs, u4, rfl, hvl, hvs, rfl, hu8, rfl⟩
  rw [List.length_map, List.length_range] at hvl
  refine put cN (by walk_at "PUT") (seq_next ?_)
  refine Wk.conv (σ := ⟨_, _, _⟩) (mu' := LC nc nb (some (.ref st)) (some (.ref un))) (fr := [(NN, AO.list (vs.map fun n : Nat => PV.int (n : Int)))]) (.cons (.tail (.tail (.tail .head))) (.cons (.tail (.tail (.tail .head))) (.cons (.tail (.tail (.tail .head))) .nil))) (.cons .head .nil) ?_
  have hN : (NN, AO.list (vs.map fun n : Nat => PV.int (n : Int))) ∈ (NN, AO.list (vs.map fun n : Nat => PV.int (n : Int))) :: fz' := .head _
  replace hS8 : Sx.In ((NN, AO.list (vs.map fun n : Nat => PV.int (n : Int))) :: fz') _ := hS8.sub fun q hq => .tail _ hq
  replace hbef8 : StTold ((NN, AO.list (vs.map fun n : Nat => PV.int (n : Int))) :: fz') _ bef := hbef8.sub fun q hq => .tail _ hq
  dsimp only [LC, List.cons_append, List.nil_append]
  generalize (NN, AO.list (vs.map fun n : Nat => PV.int (n : Int))) :: fz' = fz10 at hN hS8 hbef8 ⊢
  -- row
  refine s_cons ?_
  repeat' walk_at "ST"
  refine ⟨keepK cK k115, ?_⟩
  repeat' walk_at "ST"
  refine wc_val (numbersTold_spec (prog := prog) (w := w) hN (by omega) fun n hn => Nat.lt_of_lt_of_le (hvs n hn) (Nat.pow_le_pow_right (by decide) (by decide))) cK cp cw (by rw [cn]; decide) ?_
  refine put cN (by walk_at "PUT") (seq_next ?_)
  try dsimp only [List.nil_append]
  refine s_cons ?_
  refine s_if (t_or ?_)
  repeat' walk_at "ST"
  refine m_join ⟨fun _ => trivial, ?_⟩
  repeat' walk_at "ST"
  refine w_compX (compOK (cn := [Str.ofString "number"]) (gl := [(Str.ofString "_law_figures", .ref 302)]) rfl (by decide) (fun p hp => ?_)) ?_
  · rw [cK, List.mem_singleton.mp hp]; exact g__law_figures
  repeat' walk_at "ST"
  have hmm : (vs.map fun n : Nat => PV.int (n : Int)).length = vs.length := List.length_map ..
  have hb100 : ∀ n ∈ vs, n < 10 ^ 100 := fun n hn => Nat.lt_of_lt_of_le (hvs n hn) (Nat.pow_le_pow_right (by decide) (by decide))
  refine ⟨(vs.map fun n : Nat => PV.int (n : Int)).map .val, ⟨_, LC nc nb (some (.ref st)) (some (.ref un)), fz10⟩, fun i acc led fz2 => acc = (vs.take i).map (fun n => PV.str (T (dg n))) ∧ led = LC nc nb (some (.ref st)) (some (.ref un)) ∧ fz2 = fz10, itb_list hN (.inl ⟨_, _, rfl⟩), by rw [List.length_map, hmm]; omega, ⟨rfl, rfl, rfl⟩, ?_, ?_⟩
  · rintro c' S i acc loc led fz2 y hy ⟨rfl, rfl, rfl⟩ hl'
    rw [List.map_map, List.getElem?_map] at hy
    obtain ⟨n, hn, rfl⟩ := Option.map_eq_some_iff.mp hy
    obtain ⟨u, rfl⟩ := one_of hl'
    have cN' : c'.names = [Str.ofString "number"] := S.names
    have cG' : c'.gl = _ := S.gl
    show Tgt _ _ _ _ _
    refine tg_name cN' .head (tests_nil (wt ?_))
    repeat' walk_at "ST"
    refine ⟨keepK (S.K.trans cK) k302, ?_⟩
    repeat' walk_at "ST"
    refine wc_val (figures_spec (prog := prog) (w := w) (n := n) (hb100 n (List.mem_of_getElem? hn))) (S.K.trans cK) (S.prog.trans cp) (S.w.trans cw) (by rw [S.n, cn]; decide) ?_
    exact ⟨_, [], [], _, takeAll _, .nil, (take_map (fun n => PV.str (T (dg n))) hn).symm, rfl, rfl⟩
  rintro acc led fz2 D2 ⟨rfl, rfl, rfl⟩
  rw [List.length_map, hmm, List.take_length]
  repeat' walk_at "ST"
  refine c_join (xs := vs.map fun n => T (dg n)) (.led (by rw [List.map_map]; exact .head _)) (joinOK 100 (fun y hy => ?_) ?_) ?_
  · obtain ⟨n, hn', rfl⟩ := List.mem_map.mp hy
    rw [T_len]; exact dg_len (by decide) (hb100 n hn')
  · rw [List.length_map, show (Str.ofString " ").length = 1 by decide +kernel]; omega
  repeat' walk_at "ST"
  rw [show (!decide (told vs = Str.join (Str.ofString " ") (vs.map fun n => T (dg n)))) = false by rw [show told vs = Str.join (Str.ofString " ") (vs.map fun n => T (dg n)) from rfl]; simp]
  repeat' walk_at "ST"
  refine w_compX (compOK (cn := [Str.ofString "word"]) (gl := [(Str.ofString "_law_read", .ref 337)]) rfl (by decide) (fun p hp => ?_)) ?_
  · rw [cK, List.mem_singleton.mp hp]; exact g__law_read
  repeat' walk_at "ST"
  refine m_split ⟨fun _ => trivial, ?_⟩
  repeat' walk_at "ST"
  obtain ⟨hwl, hwp⟩ := wordsL_len hvs
  refine c_split1 (by decide +kernel) (told_len (by omega) hb100) fun aw => ?_
  rw [told_split, List.map_map]
  dsimp only
  refine ⟨((wordsL vs).map (PV.str ∘ T)).map .val, ⟨_, (D2, AO.list (vs.map fun n => PV.str (T (dg n)))) :: LC nc nb (some (.ref st)) (some (.ref un)), (aw, AO.list ((wordsL vs).map (PV.str ∘ T))) :: fz2⟩, fun i acc led fz3 => acc = ((wordsL vs).take i).map numPV ∧ led = (D2, AO.list (vs.map fun n => PV.str (T (dg n)))) :: LC nc nb (some (.ref st)) (some (.ref un)) ∧ fz3 = (aw, AO.list ((wordsL vs).map (PV.str ∘ T))) :: fz2,
    Itb.conv (rem := [(aw, AO.list ((wordsL vs).map (PV.str ∘ T)))]) (fr := [(aw, AO.list ((wordsL vs).map (PV.str ∘ T)))]) (rest := []) (takeBut _) (.cons .head .nil) (itb_list (.head _) (.inl ⟨_, _, rfl⟩)), by rw [List.length_map, List.length_map]; omega, ⟨rfl, rfl, rfl⟩, ?_, ?_⟩
  · rintro c' S i acc loc led fz3 y hy ⟨rfl, rfl, rfl⟩ hl'
    rw [List.map_map, List.getElem?_map] at hy
    obtain ⟨n, hn, rfl⟩ := Option.map_eq_some_iff.mp hy
    obtain ⟨u, rfl⟩ := one_of hl'
    have cN' : c'.names = [Str.ofString "word"] := S.names
    have cG' : c'.gl = _ := S.gl
    show Tgt _ _ _ _ _
    refine tg_name cN' .head (tests_nil (wt ?_))
    repeat' walk_at "ST"
    refine ⟨keepK (S.K.trans cK) k337, ?_⟩
    repeat' walk_at "ST"
    refine wc_val (read_spec (prog := prog) (w := w) (l := n) (Nat.le_trans (hwp n (List.mem_of_getElem? hn)) (by decide))) (S.K.trans cK) (S.prog.trans cp) (S.w.trans cw) (by rw [S.n, cn]; decide) ?_
    exact ⟨_, [], [], _, takeAll _, .nil, (take_map numPV hn).symm, rfl, rfl⟩
  rintro acc led fz3 D3 ⟨rfl, rfl, rfl⟩
  rw [List.length_map, List.length_map, List.take_length, wordsL_num hvs]
  have hN3 : (NN, AO.list (vs.map fun n : Nat => PV.int (n : Int))) ∈ (aw, AO.list ((wordsL vs).map (PV.str ∘ T))) :: fz2 := .tail _ hN
  replace hS8 : Sx.In ((aw, AO.list ((wordsL vs).map (PV.str ∘ T))) :: fz2) _ := hS8.sub fun q hq => .tail _ hq
  replace hbef8 : StTold ((aw, AO.list ((wordsL vs).map (PV.str ∘ T))) :: fz2) _ bef := hbef8.sub fun q hq => .tail _ hq
  generalize (aw, AO.list ((wordsL vs).map (PV.str ∘ T))) :: fz2 = fz4 at hN3 hS8 hbef8 ⊢
  repeat' walk_at "ST"
  refine wite (fun e => ?_) (fun e => ?_)
  · have hvs0 : vs ≠ [] := fun h => by rw [h] at e; cases e
    rw [if_neg hvs0]
    repeat' walk_at "ST"
    refine b_ne_lists (n := 0) (by walk_at "LOOK") (by walk_at "LOOK") rfl (by decide) (fun i p q e1 e2 => deq_self (vs := vs) i p q (by rw [if_neg hvs0]; exact e1) (by rw [if_neg hvs0]; exact e2)) ?_
    repeat' walk_at "ST"
    refine w_cell cC (.tail _ (.head _)) (by walk_at "LOOK") ?_
    refine m_inst cK R257 m257_told i254 (.fz hS8.st) (.fz hS8.ds) (by rfl) ⟨keepK cK k254, ?_⟩
    repeat' walk_at "ST"
    refine wc_spec (told_spec (prog := prog) (w := w) hS8 (by show bs.length ≤ 10; omega)) cK cp cw (by rw [cn]; decide) .nil ?_
    refine hush fun H hH => ?_
    rintro p mu fz6 ⟨rfl, haft⟩
    refine hH _ _ _ fun hs6 => ?_
    try dsimp only [List.nil_append]
    repeat' walk_at "ST"
    refine st_eq haft (hbef8.sub hs6) ?_
    repeat' walk_at "ST"
    exact ⟨[], _, [], _, .nil, .nil, rfl⟩
  · have hvs0 : vs = [] := by cases vs with | nil => rfl | cons _ _ => cases e
    rw [if_pos hvs0]
    repeat' walk_at "ST"
    refine b_ne_lists (n := 0) (by walk_at "LOOK") (by walk_at "LOOK") rfl (by decide) (fun i p q e1 e2 => deq_self (vs := vs) i p q (by rw [if_pos hvs0]; exact e1) (by rw [if_pos hvs0]; exact e2)) ?_
    repeat' walk_at "ST"
    refine w_cell cC (.tail _ (.head _)) (by walk_at "LOOK") ?_
    refine m_inst cK R257 m257_told i254 (.fz hS8.st) (.fz hS8.ds) (by rfl) ⟨keepK cK k254, ?_⟩
    repeat' walk_at "ST"
    refine wc_spec (told_spec (prog := prog) (w := w) hS8 (by show bs.length ≤ 10; omega)) cK cp cw (by rw [cn]; decide) .nil ?_
    refine hush fun H hH => ?_
    rintro p mu fz6 ⟨rfl, haft⟩
    refine hH _ _ _ fun hs6 => ?_
    try dsimp only [List.nil_append]
    repeat' walk_at "ST"
    refine st_eq haft (hbef8.sub hs6) ?_
    repeat' walk_at "ST"
    exact ⟨[], _, [], _, .nil, .nil, rfl⟩
end
section
set_option maxRecDepth 100000
set_option maxHeartbeats 4000000
set_option linter.unusedVariables false
theorem walk_end : WalkO vq loose (XL vq []) hook.says PySem.Challenge.rw_pq0933_01.row.toRowW dLaw [] fun f vs => PySem.call f vs := by
  intro w s₀ s₁ mg mb G hY a o pm cd doc dV kV ha ho hcd hD hmg hgens args vals as hpre hlay hrd hwell hsys
  have X : (K w.params).In s₁.heap := kIn_of hY
  have e347 : a = 347 := by
    have h1 := mg_of (n := Str.ofString "law") (v := .ref 347) X G.T.g (by kernel_rfl)
    have h2 : mg (Str.ofString "law") = some (.ref a) := hmg
    rw [h1] at h2
    cases h2; rfl
  subst e347
  have S : Sta (K w.params) s₁.heap := ⟨X, ⟨mg, G.T.g⟩, ⟨mb, G.T.b, G.T.builtins⟩, G.T.nolimit, G.T.nodigits⟩
  wrow_args hpre hlay hrd hwell hsys
  rename_i ns hs hlay0 hL1 hr1 hl2 w4 w3 x vs w0 hLst ra wl r0 hI hr hc1 hc2
  have hl : ns.length ≤ 100000 := by omega
  have hnil : hideAll s₁.heap [] = s₁.heap := by rfl
  have hints : ∀ {vs : List Value} {ns : List Int}, IntsAre vs ns → Are (ns.map PV.int) vs := fun h => by
    induction h with
    | nil => exact .nil
    | cons n t _ ih => exact .cons ⟨t, rfl⟩ ih
  refine wpAny_call (law_spec (prog := PySem.Challenge.rw_pq0933_01.row.prog) (w := w) (fz := (x, AO.list (ns.map .int)) :: kfz) (a := x) (ns := ns) (.head _) hl (fun q hq => .tail _ hq) callerA s₁ [.ref x] _ rfl (by decide) (by decide) ⟨s₁.heap, [], by rw [show hideAll s₁.heap (Adr []) = s₁.heap from hnil]; exact below_caller _⟩ (by rw [show hideAll s₁.heap (Adr [] ++ frA callerA) = s₁.heap from hnil]; exact S) (.cons rfl .nil) (fun p hp => (nomatch hp)) List.nodup_nil (fun p hp => ?_) ?_ ?_)
  · rcases List.mem_cons.mp hp with rfl | hp
    · obtain ⟨ob, g1, g2, n, g3⟩ := hLst
      exact ⟨⟨ob, g1, vs, n, hints hI, by
        cases wl with
        | list q1 q2 =>
          rw [q1] at g1
          cases g1
          injection g3 with g3 g4
          subst g4
          rw [← g3]⟩, fun hm => (nomatch hm), fun hm => (nomatch hm)⟩
    · obtain ⟨ob, g1, g2⟩ := kfz_has w.params p hp
      exact ⟨⟨ob, X _ _ g1, g2⟩, fun hm => (nomatch hm), fun hm => (nomatch hm)⟩
  · rintro v s' p mu' fz' hv B rfl
    obtain rfl : v = .bool true := hv
    refine ⟨.inl ⟨_, _, [], rfl, fun _ => rfl, ReadsW.bool true, ?_, fun _ => ⟨List.nodup_nil, fun _ hm => (nomatch hm)⟩⟩, .of_keep fun b o e => B.kept b o e, B.os, .of_eq (by rw [B.gens, hgens])⟩
    first | rfl | wrow_post
  · intro C e s' hC
    exact hC.elim
end
end Mine
theorem PySem.Challenge.cw_pq0933_01_holds : PySem.Challenge.rw_pq0933_01.Holds := by
  exact Mine.hd Mine.walk_end
