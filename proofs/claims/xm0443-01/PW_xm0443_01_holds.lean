import PyProof.Rows.All
import Wide.All
import Open.Line
import Lean
import PySem.Challenge.RW_xm0443_01
open PySem PySem.W PySem.Calls PyProof.Rows
set_option Elab.async false
set_option maxRecDepth 100000
set_option linter.unusedVariables false
set_option maxHeartbeats 0

namespace Mine
structure Glo (H0 : Heap) (mg mb : Str → Option Value) : Prop where
  g : H0.Ns mainGlobals mg
  b : H0.Ns builtinsNs mb
  nolimit : H0.NoLimit
  bi : ∀ x : Str, x ≠ "__name__" → mb x = bootBuiltins x

structure Room (A : Around) (k : Nat) : Prop where
  handled : A.handled = none
  depth : A.depth + k ≤ 900
  units : A.units + 8 * k ≤ 900

def defAt (i : Nat) : DefItem := match PySem.Challenge.pw_xm0443_01.main.body[i]? with
  | some (.FunctionDef name args body _ _ _ scope _ _ pos) => ⟨name, args, body, scope, pos⟩
  | _ => ⟨"", ⟨[], [], none, [], [], none, []⟩, [], { kind := .module, names := [], isGenerator := false, isCoroutine := false, more := [] }, ⟨0, 0, 0, 0⟩⟩
abbrev idxs : List Nat := [4, 5, 6, 7, 8, 9, 14, 15, 16, 17, 18, 19, 21, 22, 23, 24, 25, 26, 27, 28, 29, 31, 32, 37, 39, 40, 41, 42, 43, 44, 45]
structure Env0 (H0 : Heap) (mg mb : Str → Option Value) : Prop where
  G : Glo H0 mg mb
  M : ∃ N, ∀ i ∈ idxs, DefItem.Made (defAt i) N mg H0
  no : mg "len" = none ∧ mg "range" = none ∧ mg "abs" = none ∧ mg "int" = none ∧ mg "enumerate" = none

section
variable {H0 : Heap} {mg mb : Str → Option Value}
theorem Env0.ofGlob {N : Nat} {defs : List DefItem} {consts : List (Str × PyData)} {objs : List (Str × (Obj → Prop))} {names : List Str} (GL : Glob N mg mb defs consts objs names H0)
    (hd : ∀ i ∈ idxs, defAt i ∈ defs)
    (hn : ∀ x ∈ (["len", "range", "abs", "int", "enumerate"] : List Str), x ∉ names ∧ x ∉ bootMainNames) : Env0 H0 mg mb := by
  have f : ∀ x ∈ (["len", "range", "abs", "int", "enumerate"] : List Str), mg x = none := fun x hx => GL.free x (hn x hx).1 (hn x hx).2
  exact ⟨⟨GL.g, GL.b, GL.nolimit, GL.builtins⟩, ⟨N, fun i hi => GL.made _ (hd i hi)⟩, f _ (.head _), f _ (.tail _ (.head _)), f _ (.tail _ (.tail _ (.head _))), f _ (.tail _ (.tail _ (.tail _ (.head _)))), f _ (.tail _ (.tail _ (.tail _ (.tail _ (.head _)))))⟩

end
theorem idx_one {defs : List DefItem} {i : Nat} (j : Nat) (h : defs[j]? = some (defAt i)) : defAt i ∈ defs := List.mem_of_getElem? h
theorem idx_all {defs : List DefItem} (h4 : defs[0]? = some (defAt 4)) (h5 : defs[1]? = some (defAt 5)) (h6 : defs[2]? = some (defAt 6)) (h7 : defs[3]? = some (defAt 7)) (h8 : defs[4]? = some (defAt 8)) (h9 : defs[5]? = some (defAt 9)) (h14 : defs[9]? = some (defAt 14)) (h15 : defs[10]? = some (defAt 15)) (h16 : defs[11]? = some (defAt 16)) (h17 : defs[12]? = some (defAt 17)) (h18 : defs[13]? = some (defAt 18)) (h19 : defs[14]? = some (defAt 19)) (h21 : defs[15]? = some (defAt 21)) (h22 : defs[16]? = some (defAt 22)) (h23 : defs[17]? = some (defAt 23)) (h24 : defs[18]? = some (defAt 24)) (h25 : defs[19]? = some (defAt 25)) (h26 : defs[20]? = some (defAt 26)) (h27 : defs[21]? = some (defAt 27)) (h28 : defs[22]? = some (defAt 28)) (h29 : defs[23]? = some (defAt 29)) (h31 : defs[24]? = some (defAt 31)) (h32 : defs[25]? = some (defAt 32)) (h37 : defs[30]? = some (defAt 37)) (h39 : defs[31]? = some (defAt 39)) (h40 : defs[32]? = some (defAt 40)) (h41 : defs[33]? = some (defAt 41)) (h42 : defs[34]? = some (defAt 42)) (h43 : defs[35]? = some (defAt 43)) (h44 : defs[36]? = some (defAt 44)) (h45 : defs[37]? = some (defAt 45)) : ∀ i ∈ idxs, defAt i ∈ defs := by
  simp only [List.forall_mem_cons]
  exact ⟨idx_one _ h4, idx_one _ h5, idx_one _ h6, idx_one _ h7, idx_one _ h8, idx_one _ h9, idx_one _ h14, idx_one _ h15, idx_one _ h16, idx_one _ h17, idx_one _ h18, idx_one _ h19, idx_one _ h21, idx_one _ h22, idx_one _ h23, idx_one _ h24, idx_one _ h25, idx_one _ h26, idx_one _ h27, idx_one _ h28, idx_one _ h29, idx_one _ h31, idx_one _ h32, idx_one _ h37, idx_one _ h39, idx_one _ h40, idx_one _ h41, idx_one _ h42, idx_one _ h43, idx_one _ h44, idx_one _ h45, List.forall_mem_nil _⟩
theorem law_post (l : OpenLaw) (args : List WData) : l.row.toRowW.claim.post args (.bool true) args = true := by
  refine postW_of (X := true) ?_ ?_ rfl
  · rfl
  · simp only [OpenLaw.row, WTm.value]
    exact congrArg (fun b => some (WData.bool b)) (by decide +kernel)
def LawCall : Prop := ∀ (prog : Program) (w : World) (mg mb : Str → Option Value) (s : Shared) (fa a : Addr) (o : Obj) (pm doc c' : Value) (ws : List Value) (zs : List Int) (R : Result → Shared → Prop) (A : Around), Env0 s.heap mg mb → s.heap.get? fa = some o → o.data = .func (docDef (defAt 46).name (defAt 46).params (defAt 46).body (defAt 46).scope pm c' doc) → s.heap.CodeRec c' (defAt 46).name →
    s.heap.IsList a ws.toArray → IntsAre ws zs → zs.length ≤ 900 → Room A 10 →
    (∀ h' tk, (∀ b o, s.heap.get? b = some o → h'.get? b = some o) → R (.ok (.ret (.bool true))) { s with heap := h', toks := tk }) →
    codeAny (model prog w) A (.call (.ref fa) ⟨[.ref a], []⟩) R s
def kept : List Nat := [1, 2, 3, 4, 5, 6, 7, 8, 9, 10, 11, 12, 14, 15, 16, 17, 18, 19, 21, 22, 23, 24, 25, 26, 27, 28, 29, 31, 32, 33, 34, 35, 36, 37, 39, 40, 41, 42, 43, 44, 45, 46]
def view : Program := { PySem.Challenge.pw_xm0443_01 with main := { PySem.Challenge.pw_xm0443_01.main with body := kept.filterMap fun i => PySem.Challenge.pw_xm0443_01.main.body[i]? } }
theorem left : LeftO PySem.Challenge.rw_xm0443_01.row.prog view [] (fun s => xlAt view [] s && recOk (RowW.records PySem.Challenge.rw_xm0443_01.row.toRowW) s) (Hook.obs Hook.none) (Hook.val Hook.none) 4018 := fun w => by kernel_rfl
set_option maxHeartbeats 8000000 in
theorem of_call (L : LawCall) : PySem.Challenge.rw_xm0443_01.Holds := by
  w_on; o_law
  refine holds_open (q := view) (loose := []) (Xt := fun s => xlAt view [] s && recOk (RowW.records PySem.Challenge.rw_xm0443_01.row.toRowW) s) (XP := XL view []) (Yf := Hook.obs Hook.none) (Ya := Hook.val Hook.none) (YP := Hook.says Hook.none) (N := 4018) left (Hook.of Hook.none) (Hook.keeps Hook.none) (fun s e => xl_of s (Bool.and_eq_true_iff.mp e).1) XL.keeps (by rfl) (by rfl) (by rfl) (fun s e => recFacts_of (Bool.and_eq_true_iff.mp e).2) (by rfl) (by first | assumption | decide +kernel) (by decide +kernel) ⟨rfl, rfl, rfl, rfl, rfl, by decide +kernel⟩ ?hw ?hc
  (case hw => w_witness2)
  intro w s₀ s₁ mg mb G Y fa o pm cd doc dV kV ho hd hcd hD hmg hg args vals as hpre hlay hrd hwl hlo
  have V := (Ground.X G).2
  have GL := glob_more (Ground.glob G (by decide +kernel) (by decide +kernel)) V
  refine Ground.open G ?_
  intro T B D TE TW
  try (refine guard_noD D (by decide +kernel) ?_; clear D)
  obtain ⟨_, _, he, B0⟩ := based_of_top T rfl hmg ho hd
  have he' : cd = _ := he
  subst he'
  clear he hmg
  have hv := Dflts.none hD rfl
  subst hv
  have hv := Dflts.noKw hD
  subst hv
  have X : Env0 s₁.heap mg mb := Env0.ofGlob GL (idx_all rfl rfl rfl rfl rfl rfl rfl rfl rfl rfl rfl rfl rfl rfl rfl rfl rfl rfl rfl rfl rfl rfl rfl rfl rfl rfl rfl rfl rfl rfl rfl) (by decide +kernel)
  wrow_args hpre hlay hrd hwl hlo
  all_goals (
    refine enter_call ?_
    refine codeAny_mono ?_ (fun _ _ g => GoodW.toG g)
    refine L _ _ _ _ _ _ _ _ _ _ _ _ _ _ _ X ho (fd_plain hd) hcd (by assumption) (by assumption) (by omega) ⟨rfl, by decide, by decide⟩ fun h' tk hk => ?_
    refine ⟨.inl ⟨_, _, _, rfl, fun _ => rfl, .bool true, law_post _ _, fun h => ?_⟩, hk, rfl, hg⟩
    exact ⟨.nil, List.forall_mem_nil _⟩)
end Mine

namespace Mine

abbrev PM := Addr → Option Obj

inductive PV where
  | int (i : Int)
  | bool (b : Bool)
  | list (l : List PV)
  | tup (l : List PV)
  | val (v : Value)
  | rng (a b d : Int)

mutual
inductive Rep (K : PM) : Value → PV → Prop
  | int (i : Int) (t : Tok) : Rep K (.int i t) (.int i)
  | bool (b : Bool) : Rep K (.bool b) (.bool b)
  | val (v : Value) : Rep K v (.val v)
  | rng {a : Addr} {x y d : Int} {t u q : Tok} : K a = some { cls := .type "range", dict := none, data := .fields #[.int x t, .int y u, .int d q], slots := #[] } → Rep K (.ref a) (.rng x y d)
  | list {a : Addr} {o : Obj} {vs : List Value} {l : List PV} {n : Nat} : K a = some o → o.cls = .type "list" → o.data = .seq vs.toArray n → Reps K vs l → Rep K (.ref a) (.list l)
  | tup {a : Addr} {o : Obj} {vs : List Value} {l : List PV} {n : Nat} : K a = some o → o.cls = .type "tuple" → o.data = .seq vs.toArray n → Reps K vs l → Rep K (.ref a) (.tup l)
inductive Reps (K : PM) : List Value → List PV → Prop
  | nil : Reps K [] []
  | cons {v : Value} {p : PV} {vs : List Value} {l : List PV} : Rep K v p → Reps K vs l → Reps K (v :: vs) (p :: l)
end

mutual
theorem Rep.mono {K K' : PM} (hk : ∀ b o, K b = some o → K' b = some o) : ∀ {v : Value} {p : PV}, Rep K v p → Rep K' v p
  | _, _, .int i t => .int i t
  | _, _, .bool b => .bool b
  | _, _, .val v => .val v
  | _, _, .rng h => .rng (hk _ _ h)
  | _, _, .list h1 h2 h3 h4 => .list (hk _ _ h1) h2 h3 (Reps.mono hk h4)
  | _, _, .tup h1 h2 h3 h4 => .tup (hk _ _ h1) h2 h3 (Reps.mono hk h4)
theorem Reps.mono {K K' : PM} (hk : ∀ b o, K b = some o → K' b = some o) : ∀ {vs : List Value} {l : List PV}, Reps K vs l → Reps K' vs l
  | _, _, .nil => .nil
  | _, _, .cons h1 h2 => .cons (h1.mono hk) (Reps.mono hk h2)
end

theorem Reps.length {K : PM} : ∀ {vs : List Value} {l : List PV}, Reps K vs l → vs.length = l.length
  | _, _, .nil => rfl
  | _, _, .cons _ h => by simp [Reps.length h]
theorem Reps.get {K : PM} : ∀ {vs : List Value} {l : List PV}, Reps K vs l → ∀ (i : Nat) (p : PV), l[i]? = some p → ∃ v, vs[i]? = some v ∧ Rep K v p
  | _, _, .nil, i, p, h => by simp at h
  | _, _, .cons h1 h2, 0, p, h => by simp at h; subst h; exact ⟨_, rfl, h1⟩
  | _, _, .cons h1 h2, i + 1, p, h => by simpa using Reps.get h2 i p (by simpa using h)
theorem Reps.append {K : PM} : ∀ {vs us : List Value} {l k : List PV}, Reps K vs l → Reps K us k → Reps K (vs ++ us) (l ++ k)
  | _, _, _, _, .nil, h => h
  | _, _, _, _, .cons h1 h2, h => .cons h1 (Reps.append h2 h)
theorem Reps.set {K : PM} : ∀ {vs : List Value} {l : List PV}, Reps K vs l → ∀ (i : Nat) {v : Value} {p : PV}, Rep K v p → Reps K (vs.set i v) (l.set i p)
  | _, _, .nil, _, _, _, _ => .nil
  | _, _, .cons _ h2, 0, _, _, h => .cons h h2
  | _, _, .cons h1 h2, i + 1, _, _, h => .cons h1 (Reps.set h2 i h)
theorem Reps.take {K : PM} : ∀ {vs : List Value} {l : List PV}, Reps K vs l → ∀ (i : Nat), Reps K (vs.take i) (l.take i)
  | _, _, _, 0 => .nil
  | _, _, .nil, _ + 1 => .nil
  | _, _, .cons h1 h2, i + 1 => .cons h1 (Reps.take h2 i)
theorem Reps.reverse {K : PM} {vs : List Value} {l : List PV} (h : Reps K vs l) : Reps K vs.reverse l.reverse := by
  match h with
  | .nil => exact .nil
  | .cons h1 h2 => simp only [List.reverse_cons]; exact Reps.append (Reps.reverse h2) (.cons h1 .nil)
termination_by vs.length

def Sub (K : PM) (h : PM) : Prop := ∀ b o, K b = some o → h b = some o

structure Grow (K h K' h' : PM) : Prop where
  up : ∀ b o, K b = some o → K' b = some o
  new : ∀ b o, K' b = some o → K b = some o ∨ h b = none
  keep : ∀ b o, h b = some o → h' b = some o
  sub : ∀ b o, K' b = some o → h' b = some o

theorem Grow.refl {K h : PM} (s : ∀ b o, K b = some o → h b = some o) : Grow K h K h := ⟨fun _ _ e => e, fun _ _ e => .inl e, fun _ _ e => e, s⟩
theorem Grow.trans {K h K₁ h₁ K₂ h₂ : PM} (a : Grow K h K₁ h₁) (b : Grow K₁ h₁ K₂ h₂) : Grow K h K₂ h₂ where
  up := fun x o e => b.up x o (a.up x o e)
  new := fun x o e => by
    rcases b.new x o e with e | e
    · exact a.new x o e
    · refine .inr ?_
      cases q : h x with
      | none => rfl
      | some o' => rw [a.keep x o' q] at e; cases e
  keep := fun x o e => b.keep x o (a.keep x o e)
  sub := b.sub
theorem Grow.keepOnly {K h h' : PM} (s : ∀ b o, K b = some o → h b = some o) (k : ∀ b o, h b = some o → h' b = some o) : Grow K h K h' :=
  ⟨fun _ _ e => e, fun _ _ e => .inl e, k, fun b o e => k b o (s b o e)⟩

def addK (K : PM) (a : Addr) (o : Obj) : PM := fun b => if b = a then some o else K b

/-- a new object, frozen at once -/
theorem Grow.push {K : PM} {h : Heap} (s : ∀ b o, K b = some o → h.get? b = some o) (o : Obj) (hf : o.isFreed = false) :
    Grow K h.get? (addK K h.objs.size o) (h.push o).get? := by
  have hn : h.get? h.objs.size = none := by
    cases q : h.get? h.objs.size with
    | none => rfl
    | some o' => exact absurd (Heap.lt_size q) (Nat.lt_irrefl _)
  refine ⟨fun b o' e => ?_, fun b o' e => ?_, fun b o' e => Heap.get?_push_of_some _ e, fun b o' e => ?_⟩
  · unfold addK
    by_cases hb : b = h.objs.size
    · subst hb; rw [s _ _ e] at hn; cases hn
    · rw [if_neg hb]; exact e
  · unfold addK at e
    by_cases hb : b = h.objs.size
    · subst hb; exact .inr hn
    · rw [if_neg hb] at e; exact .inl e
  · unfold addK at e
    by_cases hb : b = h.objs.size
    · subst hb; rw [if_pos rfl] at e; cases e; exact Heap.get?_push_size _ hf
    · rw [if_neg hb] at e; exact Heap.get?_push_of_some _ (s _ _ e)

structure Fc where
  A : Around
  env : Env
  k : Nat
  ln : List Str
  cn : List Str
  gl : List (Str × Value)
  oc : Bool

structure Sg where
  v : List (Option PV)
  cel : List (Option PV)
  own : Option (Nat × List PV)

def GlRes (mg : Str → Option Value) (p : Str × Value) : Prop := mg p.1 = some p.2 ∨ (mg p.1 = none ∧ bootBuiltins p.1 = some p.2 ∧ p.1 ≠ "__name__")

structure Wf (H0 : Heap) (mg mb : Str → Option Value) (c : Fc) : Prop where
  G : Glo H0 mg mb
  fk : c.env.scope.kind = .function
  lk : ∀ x ∈ c.ln, c.env.kindOf x = some .local ∧ (x == ("__debug__" : Str)) = false
  nd : c.ln.Nodup
  ck : ∀ x ∈ c.cn, c.env.kindOf x = some .cell ∧ (x == ("__debug__" : Str)) = false ∧ ∃ a, c.env.cells.lookup x = some a
  cnd : c.cn.Nodup
  cd : ∀ x ∈ c.cn, ∀ y ∈ c.cn, c.env.cells.lookup x = c.env.cells.lookup y → x = y
  gk : ∀ p ∈ c.gl, c.env.kindOf p.1 = some .globalImplicit ∧ (p.1 == ("__debug__" : Str)) = false ∧ GlRes mg p
  gg : c.env.globals = mainGlobals
  gb : c.env.builtins = builtinsNs
  room : Room c.A c.k

def OwnOk (c : Fc) (h0 : PM) (m : Str → Option Value) (K : PM) (h : Heap) (σ : Sg) : Prop :=
  ∀ i l, σ.own = some (i, l) → σ.v[i]? = some none ∧ ∃ x a o vs n, c.ln[i]? = some x ∧ m x = some (.ref a) ∧ h.get? a = some o ∧ o.cls = .type "list" ∧ o.dict = none ∧ o.data = .seq (List.toArray vs) n ∧ Reps K vs l ∧
    K a = none ∧ h0 a = none ∧ a ≠ c.env.locals ∧ ∀ y b, y ∈ c.cn → c.env.cells.lookup y = some b → b ≠ a

structure StB (H0 : Heap) (mg mb : Str → Option Value) (c : Fc) (K0 h0 K : PM) (m : Str → Option Value) (h : Heap) : Prop where
  wf : Wf H0 mg mb c
  ns : h.Ns c.env.locals m
  base : ∀ b o, H0.get? b = some o → K b = some o
  grow : Grow K0 h0 K h.get?
  freshL : h0 c.env.locals = none
  offL : K c.env.locals = none
  offC : ∀ x a, x ∈ c.cn → c.env.cells.lookup x = some a → K a = none ∧ a ≠ c.env.locals ∧ ∃ v, h.IsCell a v
  frC : c.oc = true → ∀ x a, x ∈ c.cn → c.env.cells.lookup x = some a → h0 a = none

structure St (H0 : Heap) (mg mb : Str → Option Value) (c : Fc) (K0 h0 K : PM) (σ : Sg) (s : Shared) : Prop where
  ex : ∃ m, StB H0 mg mb c K0 h0 K m s.heap ∧ (∀ (i : Nat) x p, c.ln[i]? = some x → σ.v[i]? = some (some p) → ∃ v, m x = some v ∧ Rep K v p) ∧
    (∀ (i : Nat) x p, c.cn[i]? = some x → σ.cel[i]? = some (some p) → ∃ a v, c.env.cells.lookup x = some a ∧ s.heap.IsCell a (some v) ∧ Rep K v p) ∧
    OwnOk c h0 m K s.heap σ

def E0 : Value → Shared → Prop := fun _ _ => False

def PostE (K : PM) (s : Shared) (p : PV) (v : Value) (s' : Shared) : Prop :=
  ∃ K' h' tk', s' = { s with heap := h', toks := tk' } ∧ Grow K s.heap.get? K' h'.get? ∧ Rep K' v p
def PostT (K : PM) (s : Shared) (b : Bool) (b' : Bool) (s' : Shared) : Prop :=
  b' = b ∧ ∃ K' h' tk', s' = { s with heap := h', toks := tk' } ∧ Grow K s.heap.get? K' h'.get?
def PostL (K : PM) (s : Shared) (l : List PV) (vs : List Value) (s' : Shared) : Prop :=
  ∃ K' h' tk', s' = { s with heap := h', toks := tk' } ∧ Grow K s.heap.get? K' h'.get? ∧ Reps K' vs l

inductive Res where
  | next (σ : Sg)
  | ret (p : PV)

def PostS (H0 : Heap) (mg mb : Str → Option Value) (c : Fc) (K0 h0 : PM) (s : Shared) : Res → Flow → Shared → Prop
  | .next σ, f, s' => f = .next ∧ ∃ K' h' tk', s' = { s with heap := h', toks := tk' } ∧ St H0 mg mb c K0 h0 K' σ s'
  | .ret p, f, s' => ∃ v K' h' tk', f = .ret v ∧ s' = { s with heap := h', toks := tk' } ∧ Grow K0 h0 K' h'.get? ∧ Rep K' v p

section
variable {prog : Program} {w : World} {H0 : Heap} {mg mb : Str → Option Value}

theorem St.sub {c : Fc} {K0 h0 K : PM} {σ : Sg} {s : Shared} (S : St H0 mg mb c K0 h0 K σ s) : ∀ b o, K b = some o → s.heap.get? b = some o := let ⟨_, B, _⟩ := S; B.grow.sub
theorem St.wf {c : Fc} {K0 h0 K : PM} {σ : Sg} {s : Shared} (S : St H0 mg mb c K0 h0 K σ s) : Wf H0 mg mb c := let ⟨_, B, _⟩ := S; B.wf
theorem St.base {c : Fc} {K0 h0 K : PM} {σ : Sg} {s : Shared} (S : St H0 mg mb c K0 h0 K σ s) : ∀ b o, H0.get? b = some o → K b = some o := let ⟨_, B, _⟩ := S; B.base

theorem Grow.off {K h K' h' : PM} (G : Grow K h K' h') {a : Addr} {o : Obj} (e : h a = some o) (hk : K a = none) : K' a = none := by
  cases q : K' a with
  | none => rfl
  | some o' =>
    rcases G.new a o' q with e' | e'
    · rw [hk] at e'; cases e'
    · rw [e] at e'; cases e'

theorem St.grow {c : Fc} {K0 h0 K K' : PM} {σ : Sg} {s : Shared} {h' : Heap} {tk' : Nat} (S : St H0 mg mb c K0 h0 K σ s) (G : Grow K s.heap.get? K' h'.get?) : St H0 mg mb c K0 h0 K' σ { s with heap := h', toks := tk' } := by
  obtain ⟨m, B, V, C, O⟩ := S
  refine ⟨m, ⟨B.wf, B.ns.keeps G.keep, fun b o e => G.up _ _ (B.base b o e), B.grow.trans G, B.freshL, ?_, fun x a hx ha => ?_, B.frC⟩, fun i x p e e' => ?_, fun i x p e e' => ?_, fun i l e => ?_⟩
  · obtain ⟨oL, _, _, hL, _⟩ := B.ns
    exact G.off hL B.offL
  · obtain ⟨h1, h2, v, o, ho, hd⟩ := B.offC x a hx ha
    exact ⟨G.off ho h1, h2, v, o, G.keep _ _ ho, hd⟩
  · obtain ⟨v, hv, r⟩ := V i x p e e'
    exact ⟨v, hv, r.mono G.up⟩
  · obtain ⟨a, v, ha, hv, r⟩ := C i x p e e'
    exact ⟨a, v, ha, hv.keeps G.keep, r.mono G.up⟩
  · obtain ⟨h0, x, a, o, vs, n, h1, h2, h3, h4, h5, h6, h7, h8, h9, h10, h11⟩ := O i l e
    exact ⟨h0, x, a, o, vs, n, h1, h2, G.keep _ _ h3, h4, h5, h6, h7.mono G.up, G.off h3 h8, h9, h10, h11⟩

variable (prog w H0 mg mb)
structure Ev (c : Fc) (σ : Sg) (e : Expr) (p : PV) : Prop where
  run : ∀ K0 h0 K s, St H0 mg mb c K0 h0 K σ s → wpAny (model prog w) c.A (eval e c.env) (PostE K s p) E0 s
structure EvT (c : Fc) (σ : Sg) (e : Expr) (b : Bool) : Prop where
  run : ∀ K0 h0 K s, St H0 mg mb c K0 h0 K σ s → wpAny (model prog w) c.A (isTrue e c.env (eval e c.env)) (PostT K s b) E0 s
structure EvA (c : Fc) (σ : Sg) (op : BoolOp) (es : List Expr) (b : Bool) : Prop where
  run : ∀ K0 h0 K s, St H0 mg mb c K0 h0 K σ s → wpAny (model prog w) c.A (allTrue op es c.env) (PostT K s b) E0 s
structure EvL (c : Fc) (σ : Sg) (pos : Pos) (es : List Expr) (l : List PV) : Prop where
  run : ∀ K0 h0 K s, St H0 mg mb c K0 h0 K σ s → wpAny (model prog w) c.A (spliced (backTo pos (starEach es c.env))) (PostL K s l) E0 s
structure Ex (c : Fc) (σ : Sg) (st : Stmt) (r : Res) : Prop where
  run : ∀ K0 h0 K s, St H0 mg mb c K0 h0 K σ s → wpAny (model prog w) c.A (exec st c.env) (PostS H0 mg mb c K0 h0 s r) E0 s
structure Exs (c : Fc) (σ : Sg) (sts : List Stmt) (r : Res) : Prop where
  run : ∀ K0 h0 K s, St H0 mg mb c K0 h0 K σ s → wpAny (model prog w) c.A (execs sts c.env) (PostS H0 mg mb c K0 h0 s r) E0 s
variable {prog w H0 mg mb}
variable {c : Fc} {σ : Sg}

theorem PostS.after {K0 h0 : PM} {s s₁ : Shared} {r : Res} {f : Flow} {s' : Shared} (e : ∃ h tk, s₁ = { s with heap := h, toks := tk }) (p : PostS H0 mg mb c K0 h0 s₁ r f s') : PostS H0 mg mb c K0 h0 s r f s' := by
  obtain ⟨h, tk, rfl⟩ := e
  cases r with
  | next σ => obtain ⟨rfl, K', h', tk', rfl, S⟩ := p; exact ⟨rfl, K', h', tk', rfl, S⟩
  | ret q => obtain ⟨v, K', h', tk', rfl, rfl, g, rp⟩ := p; exact ⟨v, K', h', tk', rfl, rfl, g, rp⟩

/-- run one expression, then go on -/
theorem Ev.bind {e : Expr} {p : PV} (H : Ev prog w H0 mg mb c σ e p) {K0 h0 K : PM} {s : Shared} (S : St H0 mg mb c K0 h0 K σ s) {Q : Value → Shared → Prop}
    (k : ∀ v K' h' tk', Grow K s.heap.get? K' h'.get? → Rep K' v p → St H0 mg mb c K0 h0 K' σ { s with heap := h', toks := tk' } → Q v { s with heap := h', toks := tk' }) :
    wpAny (model prog w) c.A (eval e c.env) Q E0 s :=
  wpAny_mono (H.run K0 h0 K s S) (fun v _ ⟨K', h', tk', e, G, R⟩ => e ▸ k v K' h' tk' G R (S.grow G)) fun _ _ f => f
theorem EvL.bind {pos : Pos} {es : List Expr} {l : List PV} (H : EvL prog w H0 mg mb c σ pos es l) {K0 h0 K : PM} {s : Shared} (S : St H0 mg mb c K0 h0 K σ s) {Q : List Value → Shared → Prop}
    (k : ∀ vs K' h' tk', Grow K s.heap.get? K' h'.get? → Reps K' vs l → St H0 mg mb c K0 h0 K' σ { s with heap := h', toks := tk' } → Q vs { s with heap := h', toks := tk' }) :
    wpAny (model prog w) c.A (spliced (backTo pos (starEach es c.env))) Q E0 s :=
  wpAny_mono (H.run K0 h0 K s S) (fun v _ ⟨K', h', tk', e, G, R⟩ => e ▸ k v K' h' tk' G R (S.grow G)) fun _ _ f => f

theorem Exs.nil : Exs prog w H0 mg mb c σ [] (.next σ) := .mk fun K0 h0 K s S => wpAny_execs_nil ⟨rfl, K, s.heap, s.toks, rfl, S⟩
theorem Exs.cons {st : Stmt} {rest : List Stmt} {σ₁ : Sg} {r : Res} (H : Ex prog w H0 mg mb c σ st (.next σ₁)) (H' : Exs prog w H0 mg mb c σ₁ rest r) : Exs prog w H0 mg mb c σ (st :: rest) r := .mk fun K0 h0 K s S =>
  wpAny_execs_cons (wpAny_mono (H.run K0 h0 K s S) (fun f s' p => by
    obtain ⟨rfl, K', h', tk', rfl, S'⟩ := p
    exact wpAny_mono (H'.run K0 h0 K' _ S') (fun f s₂ p₂ => PostS.after ⟨_, _, rfl⟩ p₂) fun _ _ f => f) fun _ _ f => f)
theorem Exs.cons_ret {st : Stmt} {rest : List Stmt} {p : PV} (H : Ex prog w H0 mg mb c σ st (.ret p)) : Exs prog w H0 mg mb c σ (st :: rest) (.ret p) := .mk fun K0 h0 K s S =>
  wpAny_execs_cons (wpAny_mono (H.run K0 h0 K s S) (fun f s' q => by
    obtain ⟨v, K', h', tk', rfl, rfl, g, rp⟩ := q
    exact ⟨v, K', h', tk', rfl, rfl, g, rp⟩) fun _ _ f => f)

theorem Ex.ret {e : Expr} {pos : Pos} {p : PV} (H : Ev prog w H0 mg mb c σ e p) : Ex prog w H0 mg mb c σ (.Return (some e) pos) (.ret p) := .mk fun K0 h0 K s S =>
  wpAny_Return_some (H.bind S fun v K' h' tk' G R S' => by
    obtain ⟨m, B, _⟩ := S'
    exact ⟨v, K', h', tk', rfl, rfl, B.grow, R⟩)

theorem Ex.ifT {test : Expr} {body orelse : List Stmt} {pos : Pos} {r : Res} (H : EvT prog w H0 mg mb c σ test true) (H' : Exs prog w H0 mg mb c σ body r) : Ex prog w H0 mg mb c σ (.If test body orelse pos) r := .mk fun K0 h0 K s S =>
  wpAny_If (wpAny_mono (H.run K0 h0 K s S) (fun _ _ ⟨e, K', h', tk', e', G⟩ => by
    subst e e'
    exact wpAny_mono (H'.run K0 h0 K' _ (S.grow G)) (fun f s₂ p₂ => PostS.after ⟨_, _, rfl⟩ p₂) fun _ _ f => f) fun _ _ f => f)
theorem Ex.ifF {test : Expr} {body orelse : List Stmt} {pos : Pos} {r : Res} (H : EvT prog w H0 mg mb c σ test false) (H' : Exs prog w H0 mg mb c σ orelse r) : Ex prog w H0 mg mb c σ (.If test body orelse pos) r := .mk fun K0 h0 K s S =>
  wpAny_If (wpAny_mono (H.run K0 h0 K s S) (fun _ _ ⟨e, K', h', tk', e', G⟩ => by
    subst e e'
    exact wpAny_mono (H'.run K0 h0 K' _ (S.grow G)) (fun f s₂ p₂ => PostS.after ⟨_, _, rfl⟩ p₂) fun _ _ f => f) fun _ _ f => f)

end
end Mine

namespace Mine

def fa (mg : Str → Option Value) (n : Str) : Addr := match mg n with | some (.ref a) => a | _ => 0

theorem intBits_le {a : Int} (h : a.natAbs < 2 ^ 64) : Builtin.Int.intBits a ≤ 64 := by
  unfold Builtin.Int.intBits
  split
  · omega
  · rename_i h0
    have h1 : a.natAbs ≠ 0 := by
      intro q
      apply h0
      have : a = 0 := by omega
      simp [this]
    have := (Nat.log2_lt h1).mpr h
    omega
theorem mulOk {a b : Int} (h : a.natAbs < 2 ^ 64) : IntMulOk a b := by
  unfold IntMulOk
  have h1 := intBits_le h
  have h2 : shortFactorBits = 64 := rfl
  rw [h2]
  intro q
  simp only [Bool.and_eq_true, decide_eq_true_eq] at q
  omega
theorem noPylong {a b : Int} (h : b.natAbs < 2 ^ 64) : Builtin.divisionGoesByPylong a b = false := by
  unfold Builtin.divisionGoesByPylong
  dsimp only
  rw [Bool.and_eq_false_iff]
  left
  rw [decide_eq_false_iff_not]
  split
  · omega
  · rename_i h0
    have h1 : b.natAbs ≠ 0 := by
      intro q
      apply h0
      have : b = 0 := by omega
      simp [this]
    have := (Nat.log2_lt h1).mpr h
    omega

section
variable {prog : Program} {w : World} {H0 : Heap} {mg mb : Str → Option Value} {c : Fc} {σ : Sg}

theorem PostE.same {K : PM} {s : Shared} {p : PV} {v : Value} (S : ∀ b o, K b = some o → s.heap.get? b = some o) (R : Rep K v p) : PostE K s p v s := ⟨K, s.heap, s.toks, rfl, Grow.refl S, R⟩
theorem PostE.tok {K : PM} {s : Shared} {p : PV} {v : Value} {t : Nat} (S : ∀ b o, K b = some o → s.heap.get? b = some o) (R : Rep K v p) : PostE K s p v { s with toks := t } := ⟨K, s.heap, t, rfl, Grow.refl S, R⟩
theorem PostE.after {K K₁ : PM} {s : Shared} {h₁ : Heap} {t₁ : Nat} {p : PV} {v : Value} {s' : Shared} (G : Grow K s.heap.get? K₁ h₁.get?) (P : PostE K₁ { s with heap := h₁, toks := t₁ } p v s') : PostE K s p v s' := by
  obtain ⟨K', h', tk', rfl, G', R⟩ := P
  exact ⟨K', h', tk', rfl, G.trans G', R⟩
theorem PostT.after {K K₁ : PM} {s : Shared} {h₁ : Heap} {t₁ : Nat} {b b' : Bool} {s' : Shared} (G : Grow K s.heap.get? K₁ h₁.get?) (P : PostT K₁ { s with heap := h₁, toks := t₁ } b b' s') : PostT K s b b' s' := by
  obtain ⟨e, K', h', tk', rfl, G'⟩ := P
  exact ⟨e, K', h', tk', rfl, G.trans G'⟩

theorem Ev.local (i : Nat) {x : Str} {pos : Pos} {p : PV} (hx : c.ln[i]? = some x) (hv : σ.v[i]? = some (some p)) : Ev prog w H0 mg mb c σ (.Name x pos) p := .mk fun K0 h0 K s S => by
  have hs := S.sub
  have hw := S.wf
  obtain ⟨m, B, V, _⟩ := S
  obtain ⟨v, hm, R⟩ := V i x p hx hv
  have hk := hw.lk x (List.mem_of_getElem? hx)
  exact wpAny_Name (wpAny_loadName_local hw.fk hk.1 B.ns hm (PostE.same hs R)) hk.2
theorem Ev.cell (i : Nat) {x : Str} {pos : Pos} {p : PV} (hx : c.cn[i]? = some x) (hv : σ.cel[i]? = some (some p)) : Ev prog w H0 mg mb c σ (.Name x pos) p := .mk fun K0 h0 K s S => by
  have hs := S.sub
  have hw := S.wf
  obtain ⟨m, B, V, C, _⟩ := S
  obtain ⟨a, v, ha, hc, R⟩ := C i x p hx hv
  have hk := hw.ck x (List.mem_of_getElem? hx)
  exact wpAny_Name (wpAny_loadName_cell hw.fk hk.1 ha hc (PostE.same hs R)) hk.2.1
theorem Ev.glob (i : Nat) {x : Str} {pos : Pos} {v : Value} (hx : c.gl[i]? = some (x, v)) : Ev prog w H0 mg mb c σ (.Name x pos) (.val v) := .mk fun K0 h0 K s S => by
  have hs := S.sub
  have hw := S.wf
  have up : ∀ b o, H0.get? b = some o → s.heap.get? b = some o := fun b o e => hs b o (S.base b o e)
  have hk := hw.gk _ (List.mem_of_getElem? hx)
  refine Name_function_global hw.fk hk.1 ?_ hk.2.1
  rcases hk.2.2 with h | ⟨h1, h2, h3⟩
  · exact loadGlobal_global (by rw [hw.gg]; exact hw.G.g.keeps up) h (PostE.same hs (.val _))
  · exact loadGlobal_builtin (by rw [hw.gg]; exact hw.G.g.keeps up) h1 (by rw [hw.gb]; exact hw.G.b.keeps up) ((hw.G.bi _ h3).trans h2) (PostE.same hs (.val _))

theorem Ev.int {i : Int} {k : Nat} {pos : Pos} : Ev prog w H0 mg mb c σ (.Constant (.int i) k pos) (.int i) := .mk fun K0 h0 K s S => wpAny_Constant_int (PostE.tok S.sub (.int _ _))
theorem Ev.bool {b : Bool} {k : Nat} {pos : Pos} : Ev prog w H0 mg mb c σ (.Constant (.bool b) k pos) (.bool b) := .mk fun K0 h0 K s S => wpAny_Constant_bool (PostE.same S.sub (.bool _))

/-- a binary operator over two ints -/
theorem Ev.opII {l r : Expr} {op : Operator} {pos : Pos} {a b z : Int} (hl : Ev prog w H0 mg mb c σ l (.int a)) (hr : Ev prog w H0 mg mb c σ r (.int b))
    (h : ∀ (A : Around) (t u : Tok) (Q : Value → Shared → Prop) (s : Shared), Q (.int z s.toks) { s with toks := s.toks + 1 } → wpAny (model prog w) A (binaryOp op (.int a t) (.int b u)) Q E0 s) :
    Ev prog w H0 mg mb c σ (.BinOp l op r pos) (.int z) := .mk fun K0 h0 K s S => by
  refine wpAny_BinOp (hl.bind S fun v K₁ h₁ t₁ G₁ R₁ S₁ => hr.bind S₁ fun v₂ K₂ h₂ t₂ G₂ R₂ S₂ => ?_)
  cases R₁; cases R₂
  exact h _ _ _ _ _ (PostE.after G₁ (PostE.after G₂ (PostE.tok S₂.sub (.int _ _))))

section
variable {l r : Expr} {pos : Pos} {a b : Int}
theorem Ev.add (hl : Ev prog w H0 mg mb c σ l (.int a)) (hr : Ev prog w H0 mg mb c σ r (.int b)) : Ev prog w H0 mg mb c σ (.BinOp l .Add r pos) (.int (a + b)) := Ev.opII hl hr fun _ _ _ _ _ h => PyProof.Rows.add_int h
theorem Ev.sub (hl : Ev prog w H0 mg mb c σ l (.int a)) (hr : Ev prog w H0 mg mb c σ r (.int b)) : Ev prog w H0 mg mb c σ (.BinOp l .Sub r pos) (.int (a - b)) := Ev.opII hl hr fun _ _ _ _ _ h => PyProof.Rows.sub_int h
theorem Ev.mul (hl : Ev prog w H0 mg mb c σ l (.int a)) (hr : Ev prog w H0 mg mb c σ r (.int b)) (ha : a.natAbs < 2 ^ 64) : Ev prog w H0 mg mb c σ (.BinOp l .Mult r pos) (.int (a * b)) := Ev.opII hl hr fun _ _ _ _ _ h => PyProof.Rows.mul_int h (mulOk ha)
theorem Ev.fdiv (hl : Ev prog w H0 mg mb c σ l (.int a)) (hr : Ev prog w H0 mg mb c σ r (.int b)) (hb : b ≠ 0 ∧ b.natAbs < 2 ^ 64) : Ev prog w H0 mg mb c σ (.BinOp l .FloorDiv r pos) (.int (a.fdiv b)) := Ev.opII hl hr fun _ _ _ _ _ h => floordiv_int hb.1 h (.inl (noPylong hb.2))
theorem Ev.fmod (hl : Ev prog w H0 mg mb c σ l (.int a)) (hr : Ev prog w H0 mg mb c σ r (.int b)) (hb : b ≠ 0) : Ev prog w H0 mg mb c σ (.BinOp l .Mod r pos) (.int (a.fmod b)) := Ev.opII hl hr fun _ _ _ _ _ h => mod_int' hb h
theorem Ev.shl (hl : Ev prog w H0 mg mb c σ l (.int a)) (hr : Ev prog w H0 mg mb c σ r (.int b)) (hb : 0 ≤ b ∧ b ≤ 1000000) (ha : a.natAbs < 2 ^ 64) : Ev prog w H0 mg mb c σ (.BinOp l .LShift r pos) (.int (a * 2 ^ b.toNat)) := Ev.opII hl hr fun _ _ _ _ _ h => lshift_int_small hb.1 hb.2 ha h
theorem Ev.shr (hl : Ev prog w H0 mg mb c σ l (.int a)) (hr : Ev prog w H0 mg mb c σ r (.int b)) (hb : 0 ≤ b) : Ev prog w H0 mg mb c σ (.BinOp l .RShift r pos) (.int (a.fdiv (2 ^ b.toNat))) := Ev.opII hl hr fun _ _ _ _ _ h => rshift_int hb h
theorem Ev.band (hl : Ev prog w H0 mg mb c σ l (.int a)) (hr : Ev prog w H0 mg mb c σ r (.int b)) : Ev prog w H0 mg mb c σ (.BinOp l .BitAnd r pos) (.int (Builtin.bitAnd a b)) := Ev.opII hl hr fun _ _ _ _ _ h => and_int h
theorem Ev.bor (hl : Ev prog w H0 mg mb c σ l (.int a)) (hr : Ev prog w H0 mg mb c σ r (.int b)) : Ev prog w H0 mg mb c σ (.BinOp l .BitOr r pos) (.int (Builtin.bitOr a b)) := Ev.opII hl hr fun _ _ _ _ _ h => or_int h
theorem Ev.pow (hl : Ev prog w H0 mg mb c σ l (.int a)) (hr : Ev prog w H0 mg mb c σ r (.int b)) (hb : 0 ≤ b ∧ b ≤ 1000) (ha : a.natAbs < 2 ^ 64) : Ev prog w H0 mg mb c σ (.BinOp l .Pow r pos) (.int (a ^ b.toNat)) := Ev.opII hl hr fun _ _ _ _ _ h => pow_int hb.1 (by
  have h1 := intBits_le ha
  have h2 : ((Builtin.Int.intBits a : Nat) : Int) * b ≤ 64 * b := Int.mul_le_mul_of_nonneg_right (by omega) hb.1
  omega) h
end

/-- a comparison of two values that gives a bool -/
structure CmpII (prog : Program) (w : World) (op : CmpOp) (a b : Int) (z : Bool) : Prop where
  run : ∀ (A : Around) (t u : Tok) (Q : Value → Shared → Prop) (s : Shared), Q (.bool z) s → wpAny (model prog w) A (compareOp op (.int a t) (.int b u)) Q E0 s
theorem CmpII.lt (a b : Int) : CmpII prog w .Lt a b (decide (a < b)) := .mk fun _ _ _ _ _ h => P.lt_int h
theorem CmpII.gt (a b : Int) : CmpII prog w .Gt a b (decide (a > b)) := .mk fun _ _ _ _ _ h => P.gt_int h
theorem CmpII.le (a b : Int) : CmpII prog w .LtE a b (decide (a ≤ b)) := .mk fun _ _ _ _ _ h => P.le_int h
theorem CmpII.ge (a b : Int) : CmpII prog w .GtE a b (decide (a ≥ b)) := .mk fun _ _ _ _ _ h => P.ge_int h
theorem CmpII.eq (a b : Int) : CmpII prog w .Eq a b (a == b) := .mk fun _ _ _ _ _ h => P.eq_int h
theorem CmpII.ne (a b : Int) : CmpII prog w .NotEq a b (a != b) := .mk fun _ _ _ _ _ h => P.ne_int h

theorem Ev.cmpII {l r : Expr} {op : CmpOp} {pos : Pos} {a b : Int} {z : Bool} (hl : Ev prog w H0 mg mb c σ l (.int a)) (hr : Ev prog w H0 mg mb c σ r (.int b)) (h : CmpII prog w op a b z) (hm : behindInMarks op r = false) :
    Ev prog w H0 mg mb c σ (.Compare l [op] [r] pos) (.bool z) := .mk fun K0 h0 K s S => by
  refine wpAny_Compare1 (hl.bind S fun v K₁ h₁ t₁ G₁ R₁ S₁ => hr.bind S₁ fun v₂ K₂ h₂ t₂ G₂ R₂ S₂ => ?_) hm
  cases R₁; cases R₂
  exact h.run _ _ _ _ _ (PostE.after G₁ (PostE.after G₂ (PostE.same S₂.sub (.bool _))))

/-- truth of a value -/
theorem EvT.ofBool {e : Expr} {b : Bool} (h : Ev prog w H0 mg mb c σ e (.bool b)) (he : ∀ whole : Sem Value, PySem.isTrue e c.env whole = (do let v ← whole; standAt e.pos; holding [v] (truthy v))) : EvT prog w H0 mg mb c σ e b := .mk fun K0 h0 K s S => by
  refine wpAny_isTrue_value (h.bind S fun v K₁ h₁ t₁ G₁ R₁ S₁ => ?_) (he _)
  cases R₁
  exact wpAny_truthy_bool (PostT.after G₁ ⟨rfl, K₁, h₁, t₁, rfl, Grow.refl S₁.sub⟩)
theorem EvT.cmpII {l r : Expr} {op : CmpOp} {pos : Pos} {a b : Int} {z : Bool} (hl : Ev prog w H0 mg mb c σ l (.int a)) (hr : Ev prog w H0 mg mb c σ r (.int b)) (h : CmpII prog w op a b z) (hm : behindInMarks op r = false) :
    EvT prog w H0 mg mb c σ (.Compare l [op] [r] pos) z := .mk fun K0 h0 K s S => by
  refine wpAny_isTrue_Compare1 (hl.bind S fun v K₁ h₁ t₁ G₁ R₁ S₁ => hr.bind S₁ fun v₂ K₂ h₂ t₂ G₂ R₂ S₂ => ?_) hm
  cases R₁; cases R₂
  exact h.run _ _ _ _ _ (wpAny_truthy_bool (PostT.after G₁ (PostT.after G₂ ⟨rfl, K₂, h₂, t₂, rfl, Grow.refl S₂.sub⟩)))
theorem EvT.not {e : Expr} {pos : Pos} {b : Bool} (h : EvT prog w H0 mg mb c σ e b) : EvT prog w H0 mg mb c σ (.UnaryOp .Not e pos) (!b) := .mk fun K0 h0 K s S =>
  wpAny_isTrue_Not (wpAny_mono (h.run K0 h0 K s S) (fun b' s' ⟨e, r⟩ => ⟨by rw [e], r⟩) fun _ _ f => f)

theorem EvA.andNil : EvA prog w H0 mg mb c σ .And [] true := .mk fun K0 h0 K s S => wpAny_allTrue_And_nil ⟨rfl, K, s.heap, s.toks, rfl, Grow.refl S.sub⟩
theorem EvA.orNil : EvA prog w H0 mg mb c σ .Or [] false := .mk fun K0 h0 K s S => wpAny_allTrue_Or_nil ⟨rfl, K, s.heap, s.toks, rfl, Grow.refl S.sub⟩
theorem EvA.andCons {e : Expr} {es : List Expr} {b b' : Bool} (h : EvT prog w H0 mg mb c σ e b) (h' : b = true → EvA prog w H0 mg mb c σ .And es b') : EvA prog w H0 mg mb c σ .And (e :: es) (b && b') := .mk fun K0 h0 K s S => by
  refine wpAny_allTrue_And_cons (wpAny_mono (h.run K0 h0 K s S) (fun d s' ⟨e', K₁, h₁, t₁, e₁, G⟩ => ?_) fun _ _ f => f)
  subst e₁ e'
  cases d with
  | false => exact ⟨rfl, K₁, h₁, t₁, rfl, G⟩
  | true => exact wpAny_mono ((h' rfl).run K0 h0 K₁ _ (S.grow G)) (fun d s' P => PostT.after G (by simpa using P)) fun _ _ f => f
theorem EvA.orCons {e : Expr} {es : List Expr} {b b' : Bool} (h : EvT prog w H0 mg mb c σ e b) (h' : b = false → EvA prog w H0 mg mb c σ .Or es b') : EvA prog w H0 mg mb c σ .Or (e :: es) (b || b') := .mk fun K0 h0 K s S => by
  refine wpAny_allTrue_Or_cons (wpAny_mono (h.run K0 h0 K s S) (fun d s' ⟨e', K₁, h₁, t₁, e₁, G⟩ => ?_) fun _ _ f => f)
  subst e₁ e'
  cases d with
  | true => exact ⟨rfl, K₁, h₁, t₁, rfl, G⟩
  | false => exact wpAny_mono ((h' rfl).run K0 h0 K₁ _ (S.grow G)) (fun d s' P => PostT.after G (by simpa using P)) fun _ _ f => f
theorem EvT.boolOp {op : BoolOp} {es : List Expr} {pos : Pos} {b : Bool} (h : EvA prog w H0 mg mb c σ op es b) : EvT prog w H0 mg mb c σ (.BoolOp op es pos) b := .mk fun K0 h0 K s S => wpAny_isTrue_BoolOp (h.run K0 h0 K s S)

theorem Ev.ifT {test body orelse : Expr} {pos : Pos} {p : PV} (h : EvT prog w H0 mg mb c σ test true) (h' : Ev prog w H0 mg mb c σ body p) : Ev prog w H0 mg mb c σ (.IfExp test body orelse pos) p := .mk fun K0 h0 K s S =>
  wpAny_IfExp (wpAny_mono (h.run K0 h0 K s S) (fun d s' ⟨e', K₁, h₁, t₁, e₁, G⟩ => by
    subst e₁ e'
    exact wpAny_mono (h'.run K0 h0 K₁ _ (S.grow G)) (fun d s' P => PostE.after G P) fun _ _ f => f) fun _ _ f => f)
theorem Ev.ifF {test body orelse : Expr} {pos : Pos} {p : PV} (h : EvT prog w H0 mg mb c σ test false) (h' : Ev prog w H0 mg mb c σ orelse p) : Ev prog w H0 mg mb c σ (.IfExp test body orelse pos) p := .mk fun K0 h0 K s S =>
  wpAny_IfExp (wpAny_mono (h.run K0 h0 K s S) (fun d s' ⟨e', K₁, h₁, t₁, e₁, G⟩ => by
    subst e₁ e'
    exact wpAny_mono (h'.run K0 h0 K₁ _ (S.grow G)) (fun d s' P => PostE.after G P) fun _ _ f => f) fun _ _ f => f)
theorem Ev.neg {e : Expr} {pos : Pos} {a : Int} (h : Ev prog w H0 mg mb c σ e (.int a)) : Ev prog w H0 mg mb c σ (.UnaryOp .USub e pos) (.int (-a)) := .mk fun K0 h0 K s S =>
  wpAny_UnaryOp (h.bind S fun v K₁ h₁ t₁ G₁ R₁ S₁ => by cases R₁; exact P.neg_int (PostE.after G₁ (PostE.tok S₁.sub (.int _ _))))
theorem Ev.notB {e : Expr} {pos : Pos} {b : Bool} (h : Ev prog w H0 mg mb c σ e (.bool b)) : Ev prog w H0 mg mb c σ (.UnaryOp .Not e pos) (.bool (!b)) := .mk fun K0 h0 K s S =>
  wpAny_UnaryOp (h.bind S fun v K₁ h₁ t₁ G₁ R₁ S₁ => by cases R₁; exact not_value (wpAny_truthy_bool (PostE.after G₁ (PostE.same S₁.sub (.bool _)))))

/-- «a and b» of two bools -/
theorem Ev.andB {l r : Expr} {pos : Pos} {a b : Bool} (hl : Ev prog w H0 mg mb c σ l (.bool a)) (hr : Ev prog w H0 mg mb c σ r (.bool b)) : Ev prog w H0 mg mb c σ (.BoolOp .And [l, r] pos) (.bool (a && b)) := .mk fun K0 h0 K s S => by
  refine wpAny_And2 (hl.bind S fun v K₁ h₁ t₁ G₁ R₁ S₁ => ?_)
  cases R₁
  refine wpAny_truthy_bool ?_
  cases a with
  | false => exact PostE.after G₁ (PostE.same S₁.sub (.bool _))
  | true => exact hr.bind S₁ fun v₂ K₂ h₂ t₂ G₂ R₂ S₂ => PostE.after G₁ (PostE.after G₂ (PostE.same S₂.sub R₂))
end
end Mine

namespace Mine
section
variable {prog : Program} {w : World} {H0 : Heap} {mg mb : Str → Option Value} {c : Fc} {σ : Sg}

theorem PostL.after {K K₁ : PM} {s : Shared} {h₁ : Heap} {t₁ : Nat} {l : List PV} {vs : List Value} {s' : Shared} (G : Grow K s.heap.get? K₁ h₁.get?) (P : PostL K₁ { s with heap := h₁, toks := t₁ } l vs s') : PostL K s l vs s' := by
  obtain ⟨K', h', tk', rfl, G', R⟩ := P
  exact ⟨K', h', tk', rfl, G.trans G', R⟩

theorem EvL.nil {pos : Pos} : EvL prog w H0 mg mb c σ pos [] [] := .mk fun K0 h0 K s S => wpAny_items_nil ⟨K, s.heap, s.toks, rfl, Grow.refl S.sub, .nil⟩
theorem EvL.cons {pos : Pos} {e : Expr} {es : List Expr} {p : PV} {l : List PV} (h : Ev prog w H0 mg mb c σ e p) (hs : EvL prog w H0 mg mb c σ pos es l)
    (he : starEach (e :: es) c.env = (false, eval e c.env) :: starEach es c.env) : EvL prog w H0 mg mb c σ pos (e :: es) (p :: l) := .mk fun K0 h0 K s S =>
  wpAny_items_cons (h.bind S fun v K₁ h₁ t₁ G₁ R₁ S₁ => hs.bind S₁ fun vs K₂ h₂ t₂ G₂ R₂ S₂ => PostL.after G₁ (PostL.after G₂ ⟨K₂, h₂, t₂, rfl, Grow.refl S₂.sub, .cons (R₁.mono G₂.up) R₂⟩)) he

theorem PostE.tupNew {K : PM} {s : Shared} {vs : List Value} {l : List PV} (S : ∀ b o, K b = some o → s.heap.get? b = some o) (R : Reps K vs l) :
    PostE K s (.tup l) (.ref s.heap.objs.size) { s with heap := s.heap.push { cls := .type "tuple", data := .seq vs.toArray } } := by
  have G := Grow.push S ({ cls := .type "tuple", data := .seq vs.toArray } : Obj) rfl
  exact ⟨_, _, s.toks, rfl, G, .tup (if_pos rfl) rfl rfl (R.mono G.up)⟩
theorem PostE.listNew {K : PM} {s : Shared} {vs : List Value} {l : List PV} (S : ∀ b o, K b = some o → s.heap.get? b = some o) (R : Reps K vs l) :
    PostE K s (.list l) (.ref s.heap.objs.size) { s with heap := s.heap.push { cls := .type "list", data := .seq vs.toArray } } := by
  have G := Grow.push S ({ cls := .type "list", data := .seq vs.toArray } : Obj) rfl
  exact ⟨_, _, s.toks, rfl, G, .list (if_pos rfl) rfl rfl (R.mono G.up)⟩

theorem Ev.tuple {pos : Pos} {es : List Expr} {k : Nat} {l : List PV} (h : EvL prog w H0 mg mb c σ pos es l) (hz : l.length ≤ 1000) : Ev prog w H0 mg mb c σ (.Tuple es k pos) (.tup l) := .mk fun K0 h0 K s S =>
  wpAny_Tuple (h.bind S fun vs K₁ h₁ t₁ G₁ R₁ S₁ => ⟨by rw [R₁.length, sizeLine_eq]; omega, PostE.after G₁ (PostE.tupNew S₁.sub R₁)⟩)
theorem Ev.listD {pos : Pos} {es : List Expr} {l : List PV} (h : EvL prog w H0 mg mb c σ pos es l) (hz : l.length ≤ 1000) : Ev prog w H0 mg mb c σ (.List es pos) (.list l) := .mk fun K0 h0 K s S =>
  wpAny_List (h.bind S fun vs K₁ h₁ t₁ G₁ R₁ S₁ => ⟨by rw [R₁.length, sizeLine_eq]; omega, PostE.after G₁ (PostE.listNew S₁.sub R₁)⟩)

/-- an item of a list -/
theorem Ev.item {e i : Expr} {pos : Pos} {l : List PV} {k : Int} {p : PV} (he : Ev prog w H0 mg mb c σ e (.list l)) (hi : Ev prog w H0 mg mb c σ i (.int k)) (hk : 0 ≤ k ∧ k < 2 ^ 62) (hp : l[k.toNat]? = some p)
    (hs : ∀ o x, subscripted i false o x = operate [o, x] (getItem o x)) : Ev prog w H0 mg mb c σ (.Subscript e i pos) p := .mk fun K0 h0 K s S => by
  refine Subscript_ (he.bind S fun v K₁ h₁ t₁ G₁ R₁ S₁ => hi.bind S₁ fun v₂ K₂ h₂ t₂ G₂ R₂ S₂ => ?_)
  have R₁' := R₁.mono G₂.up
  cases R₁' with
  | list h1 h2 h3 h4 =>
    cases R₂
    obtain ⟨x, hx, hr⟩ := h4.get _ _ hp
    have hl : Heap.IsList (Shared.heap { s with heap := h₂, toks := t₂ }) _ _ := ⟨_, S₂.sub _ _ h1, h2, _, h3⟩
    exact tail_any hl.typeIs slot_list_getitem.lookup (wpAny_getItem_list hl hk.1 (by omega) (by simpa using hx) (PostE.after G₁ (PostE.after G₂ (PostE.same S₂.sub hr)))) (hs _ _)
theorem Ev.itemNeg {e i : Expr} {pos : Pos} {l : List PV} {k : Int} {p : PV} (he : Ev prog w H0 mg mb c σ e (.list l)) (hi : Ev prog w H0 mg mb c σ i (.int k)) (hk : k < 0 ∧ -(l.length : Int) ≤ k ∧ -2 ^ 62 ≤ k) (hp : l[(k + l.length).toNat]? = some p)
    (hs : ∀ o x, subscripted i false o x = operate [o, x] (getItem o x)) : Ev prog w H0 mg mb c σ (.Subscript e i pos) p := .mk fun K0 h0 K s S => by
  refine Subscript_ (he.bind S fun v K₁ h₁ t₁ G₁ R₁ S₁ => hi.bind S₁ fun v₂ K₂ h₂ t₂ G₂ R₂ S₂ => ?_)
  have R₁' := R₁.mono G₂.up
  cases R₁' with
  | list h1 h2 h3 h4 =>
    cases R₂
    obtain ⟨x, hx, hr⟩ := h4.get _ _ hp
    have hlen := h4.length
    have hl : Heap.IsList (Shared.heap { s with heap := h₂, toks := t₂ }) _ _ := ⟨_, S₂.sub _ _ h1, h2, _, h3⟩
    exact tail_any hl.typeIs slot_list_getitem.lookup (wpAny_getItem_list_neg hl hk.1 (by simp [hlen]; omega) (by omega) (by simpa [hlen] using hx) (PostE.after G₁ (PostE.after G₂ (PostE.same S₂.sub hr)))) (hs _ _)
theorem Ev.itemT {e i : Expr} {pos : Pos} {l : List PV} {k : Int} {p : PV} (he : Ev prog w H0 mg mb c σ e (.tup l)) (hi : Ev prog w H0 mg mb c σ i (.int k)) (hk : 0 ≤ k ∧ k < 2 ^ 62) (hp : l[k.toNat]? = some p)
    (hs : ∀ o x, subscripted i false o x = operate [o, x] (getItem o x)) : Ev prog w H0 mg mb c σ (.Subscript e i pos) p := .mk fun K0 h0 K s S => by
  refine Subscript_ (he.bind S fun v K₁ h₁ t₁ G₁ R₁ S₁ => hi.bind S₁ fun v₂ K₂ h₂ t₂ G₂ R₂ S₂ => ?_)
  have R₁' := R₁.mono G₂.up
  cases R₁' with
  | tup h1 h2 h3 h4 =>
    cases R₂
    obtain ⟨x, hx, hr⟩ := h4.get _ _ hp
    have hlen := h4.length
    have hlt : k.toNat < l.length := (List.getElem?_eq_some_iff.mp hp).1
    have hl : IsTup (Shared.heap { s with heap := h₂, toks := t₂ }) _ _ := ⟨_, S₂.sub _ _ h1, h2, _, h3⟩
    refine tail_any hl.typeIs slot_tuple_getitem.lookup (getItem_tuple hl (by omega) (by omega) (j := k.toNat) ?_ (by simpa using hx) (PostE.after G₁ (PostE.after G₂ (PostE.same S₂.sub hr)))) (hs _ _)
    unfold seqIndex?
    rw [if_neg (by omega : ¬ k < 0)]
    simp only [List.size_toArray, hlen]
    rw [if_pos (by simp only [Bool.and_eq_true, decide_eq_true_eq]; omega)]

/-- an item of the frame's own list -/
theorem Ev.itemOwn {x : Str} {np : Pos} {i : Expr} {pos : Pos} {j : Nat} {l : List PV} {k : Int} {p : PV} (ho : σ.own = some (j, l)) (hx : c.ln[j]? = some x) (hi : Ev prog w H0 mg mb c σ i (.int k)) (hk : 0 ≤ k ∧ k < 2 ^ 62) (hp : l[k.toNat]? = some p)
    (hs : ∀ o x, subscripted i false o x = operate [o, x] (getItem o x)) : Ev prog w H0 mg mb c σ (.Subscript (.Name x np) i pos) p := .mk fun K0 h0 K s S => by
  have hw := S.wf
  have S' := S
  obtain ⟨m, B, V, C, O⟩ := S'
  obtain ⟨hnone, y, a, o, vs, n, h1, h2, h3, h4, h5, h6, h7, h8⟩ := O j l ho
  rw [hx] at h1; cases h1
  have hk' := hw.lk x (List.mem_of_getElem? hx)
  refine Subscript_ (wpAny_Name (wpAny_loadName_local hw.fk hk'.1 B.ns h2 (hi.bind S fun v₂ K₂ h₂ t₂ G₂ R₂ S₂ => ?_)) hk'.2)
  cases R₂
  obtain ⟨x, hx, hr⟩ := h7.get _ _ hp
  have hl : Heap.IsList (Shared.heap { s with heap := h₂, toks := t₂ }) a vs.toArray := ⟨o, G₂.keep _ _ h3, h4, n, h6⟩
  exact tail_any hl.typeIs slot_list_getitem.lookup (wpAny_getItem_list hl hk.1 (by omega) (by simpa using hx) (PostE.after G₂ (PostE.same S₂.sub (hr.mono G₂.up)))) (hs _ _)

theorem wpAny_evalPart_none {M : Model} {A : Around} {E : Value → Shared → Prop} {s : Shared} {env : Env} {Q : Value → Shared → Prop} (h : Q .none s) : wpAny M A (evalPart none env) Q E s := wpAny_pure h
theorem wpAny_evalPart_some {M : Model} {A : Around} {E : Value → Shared → Prop} {s : Shared} {env : Env} {e : Expr} {Q : Value → Shared → Prop} (h : wpAny M A (eval e env) Q E s) : wpAny M A (evalPart (some e) env) Q E s := h

theorem slice_core {A : Around} {K : PM} {s : Shared} {value slice : Expr} {a : Addr} {vs : List Value} {vl vu vk : Value} {lo hi st : Option Int} {l' : List PV} {ops : Value → Value → List Value}
    (S : ∀ b o, K b = some o → s.heap.get? b = some o) (hl : s.heap.IsList a vs.toArray) (pl : IsPart vl lo) (pu : IsPart vu hi) (pk : IsPart vk st) (hst : st ≠ some 0) (R : Reps K (slicePick vs.toArray lo hi st).toList l')
    (hz : vs.length ≤ 1000) (hs : ∀ o x, subscripted slice false o x = operate (ops o x) (getItem o x)) :
    wpAny (model prog w) A (subscriptTail value slice (.ref a) (.ref s.heap.objs.size)) (PostE K s (.list l')) E0 { s with heap := s.heap.push { cls := .type "slice", data := .fields #[vl, vu, vk] } } := by
  have k1 : ∀ b o, s.heap.get? b = some o → (s.heap.push { cls := .type "slice", data := .fields #[vl, vu, vk] }).get? b = some o := fun b o e => Heap.get?_push_of_some _ e
  have G1 : Grow K s.heap.get? K (s.heap.push { cls := .type "slice", data := .fields #[vl, vu, vk] }).get? := Grow.keepOnly S k1
  refine tail_any (Heap.IsList.typeIs (s := { s with heap := s.heap.push { cls := .type "slice", data := .fields #[vl, vu, vk] } }) (hl.push _)) list_getitem_lookup
    (wpAny_getItem_list_slice (hl.push _) (Heap.IsSliceOf.new ..) pl pu pk hst ?_ (by simp [sizeLine_eq]; omega)) (hs _ _)
  have P := PostE.listNew (K := K) (s := { s with heap := s.heap.push { cls := .type "slice", data := .fields #[vl, vu, vk] } }) G1.sub R
  exact PostE.after (t₁ := s.toks) G1 (by simpa using P)

/-- xs[:e], the end perhaps beyond the list -/
theorem Ev.upto {e h : Expr} {pos p : Pos} {l : List PV} {k : Int} (he : Ev prog w H0 mg mb c σ e (.list l)) (hi : Ev prog w H0 mg mb c σ h (.int k)) (hk : 0 ≤ k) (hz : l.length ≤ 1000) :
    Ev prog w H0 mg mb c σ (.Subscript e (.Slice none (some h) none p) pos) (.list (l.take k.toNat)) := .mk fun K0 h0 K s S => by
  refine Subscript_ (he.bind S fun v K₁ h₁ t₁ G₁ R₁ S₁ => wpAny_Slice (wpAny_evalPart_none (wpAny_evalPart_some (hi.bind S₁ fun v₂ K₂ h₂ t₂ G₂ R₂ S₂ => wpAny_evalPart_none ?_))))
  have R₁' := R₁.mono G₂.up
  cases R₁' with
  | list h1 h2 h3 h4 =>
    cases R₂
    have hlen := h4.length
    have hl : Heap.IsList (Shared.heap { s with heap := h₂, toks := t₂ }) _ _ := ⟨_, S₂.sub _ _ h1, h2, _, h3⟩
    refine wpAny_mono (slice_core (ops := fun o x => [x, o]) S₂.sub hl .none (.int _ _) .none (by simp) (l' := l.take k.toNat) ?_ (by omega) (fun _ _ => rfl)) (fun _ _ P => PostE.after G₁ (PostE.after G₂ P)) fun _ _ f => f
    rw [slicePick_plain]
    have e1 : ∀ n : Nat, clipAt n k = min k.toNat n := fun n => by
      simp only [clipAt]
      rw [if_neg (by omega)]
      omega
    simp only [Option.elim_none, Option.elim_some, e1, List.size_toArray, List.drop_zero, Nat.sub_zero]
    have h5 := h4.take k.toNat
    rw [List.take_eq_take_min] at h5
    simpa [hlen] using h5
/-- xs[:] -/
theorem Ev.all {e : Expr} {pos p : Pos} {l : List PV} (he : Ev prog w H0 mg mb c σ e (.list l)) (hz : l.length ≤ 1000) :
    Ev prog w H0 mg mb c σ (.Subscript e (.Slice none none none p) pos) (.list l) := .mk fun K0 h0 K s S => by
  refine Subscript_ (he.bind S fun v K₁ h₁ t₁ G₁ R₁ S₁ => wpAny_Slice (wpAny_evalPart_none (wpAny_evalPart_none (wpAny_evalPart_none ?_))))
  cases R₁ with
  | list h1 h2 h3 h4 =>
    have hlen := h4.length
    have hl : Heap.IsList (Shared.heap { s with heap := h₁, toks := t₁ }) _ _ := ⟨_, S₁.sub _ _ h1, h2, _, h3⟩
    refine wpAny_mono (slice_core (ops := fun o x => [x, o]) S₁.sub hl .none .none .none (by simp) (l' := l) ?_ (by omega) (fun _ _ => rfl)) (fun _ _ P => PostE.after G₁ P) fun _ _ f => f
    rw [slicePick_all]
    exact h4
theorem fm_congr {α β : Type} {f g : α → Option β} : ∀ {l : List α}, (∀ x ∈ l, f x = g x) → l.filterMap f = l.filterMap g
  | [], _ => rfl
  | x :: r, h => by rw [List.filterMap_cons, List.filterMap_cons, h x (.head _), fm_congr fun y hy => h y (.tail _ hy)]
theorem pick_rev (items : Array Value) : slicePick items none none (some (-1)) = items.toList.reverse.toArray := by
  have hb : slicePick items none none (some (-1)) = ((sliceRange ((items.size : Int) - 1) (-1) (-1)).filterMap (items[·]?)).toArray := rfl
  rw [hb]
  congr 1
  have hr : sliceRange ((items.size : Int) - 1) (-1) (-1) = (List.range items.size).map fun (k : Nat) => ((items.size : Int) - 1 + -1 * (k : Int)).toNat := by
    unfold sliceRange
    by_cases h0 : items.size = 0
    · rw [h0]; rfl
    · have h1 : ((items.size : Int) - 1 > -1) := by omega
      have h2 : ((items.size : Int) - 1 - -1 - -1 - 1) / (- -1) = items.size := by rw [show (- -1 : Int) = 1 from rfl, Int.ediv_one]; omega
      rw [if_neg (by decide : ¬ (-1 : Int) > 0), if_pos h1, h2]; dsimp only; rw [Int.toNat_natCast]
  have hp := pick_run items.toList.reverse.toArray 0 items.size
  have hl : List.take items.size items.toList.reverse = items.toList.reverse := List.take_of_length_le (by simp)
  simp only [Nat.zero_add, List.drop_zero, hl] at hp
  rw [hr, ← hp, List.filterMap_map, List.filterMap_map]
  refine fm_congr fun k hk => ?_
  have hk' := List.mem_range.mp hk
  have e : ((items.size : Int) - 1 + -1 * (k : Int)).toNat = items.size - 1 - k := by omega
  simp only [Function.comp, e]
  simp [hk']
/-- xs[::-1] -/
theorem Ev.rev {e h : Expr} {pos p : Pos} {l : List PV} (he : Ev prog w H0 mg mb c σ e (.list l)) (hi : Ev prog w H0 mg mb c σ h (.int (-1))) (hz : l.length ≤ 1000) :
    Ev prog w H0 mg mb c σ (.Subscript e (.Slice none none (some h) p) pos) (.list l.reverse) := .mk fun K0 h0 K s S => by
  refine Subscript_ (he.bind S fun v K₁ h₁ t₁ G₁ R₁ S₁ => wpAny_Slice (wpAny_evalPart_none (wpAny_evalPart_none (wpAny_evalPart_some (hi.bind S₁ fun v₂ K₂ h₂ t₂ G₂ R₂ S₂ => ?_)))))
  have R₁' := R₁.mono G₂.up
  cases R₁' with
  | list h1 h2 h3 h4 =>
    cases R₂
    have hlen := h4.length
    have hl : Heap.IsList (Shared.heap { s with heap := h₂, toks := t₂ }) _ _ := ⟨_, S₂.sub _ _ h1, h2, _, h3⟩
    refine wpAny_mono (slice_core (ops := fun o x => [o, x]) S₂.sub hl .none .none (.int _ _) (by simp) (l' := l.reverse) ?_ (by omega) (fun _ _ => rfl)) (fun _ _ P => PostE.after G₁ (PostE.after G₂ P)) fun _ _ f => f
    rw [pick_rev]
    simpa using h4.reverse
end
end Mine

namespace Mine
section
variable {prog : Program} {w : World} {H0 : Heap} {mg mb : Str → Option Value} {c : Fc} {σ : Sg}

/-! stores -/
theorem nodup_uniq {α : Type} {l : List α} (h : l.Nodup) {i j : Nat} {x : α} (hi : l[i]? = some x) (hj : l[j]? = some x) : i = j := by
  obtain ⟨hi1, hi2⟩ := List.getElem?_eq_some_iff.mp hi
  obtain ⟨hj1, hj2⟩ := List.getElem?_eq_some_iff.mp hj
  have hp := List.pairwise_iff_getElem.mp h
  rcases Nat.lt_trichotomy i j with hlt | heq | hlt
  · exact absurd (hi2.trans hj2.symm) (hp i j hi1 hj1 hlt)
  · exact heq
  · exact absurd (hj2.trans hi2.symm) (hp j i hj1 hi1 hlt)
theorem St.store {K0 h0 K : PM} {s : Shared} {x : Str} {i : Nat} {v : Value} {p : PV} {Q : Unit → Shared → Prop} (S : St H0 mg mb c K0 h0 K σ s) (hx : c.ln[i]? = some x) (hown : ∀ j l, σ.own = some (j, l) → j ≠ i) (R : Rep K v p)
    (h : ∀ h' tk', Heap.SameBut c.env.locals s.heap h' → St H0 mg mb c K0 h0 K { σ with v := σ.v.set i (some p) } { s with heap := h', toks := tk' } → Q () { s with heap := h', toks := tk' }) :
    wpAny (model prog w) c.A (storeName c.env x v) Q E0 s := by
  obtain ⟨m, B, V, C, O⟩ := S
  have hk := B.wf.lk x (List.mem_of_getElem? hx)
  have hlt : i < c.ln.length := (List.getElem?_eq_some_iff.mp hx).1
  have uniq : ∀ j y, c.ln[j]? = some y → j ≠ i → y ≠ x := fun j y hy hne e => by
    subst e
    exact hne (nodup_uniq B.wf.nd hy hx)
  refine wpAny_storeName_local hk.1 B.ns (fun h' hn hs => h h' _ hs ?_) (by rw [B.wf.fk]; rfl)
  have up : ∀ b o, b ≠ c.env.locals → s.heap.get? b = some o → h'.get? b = some o := fun b o hb e => (hs.2 b hb).trans e
  have offK : ∀ b o, K b = some o → b ≠ c.env.locals := fun b o e q => by rw [q, B.offL] at e; cases e
  have off0 : ∀ b o, h0 b = some o → b ≠ c.env.locals := fun b o e q => by rw [q, B.freshL] at e; cases e
  refine ⟨_, ⟨B.wf, hn, B.base, ⟨B.grow.up, B.grow.new, fun b o e => up b o (off0 b o e) (B.grow.keep b o e), fun b o e => up b o (offK b o e) (B.grow.sub b o e)⟩, B.freshL, B.offL, fun y a hy ha => ?_, B.frC⟩, fun j y q hy hq => ?_, fun j y q hy hq => ?_, fun j l e => ?_⟩
  · obtain ⟨h1, h2, v', hv⟩ := B.offC y a hy ha
    exact ⟨h1, h2, v', hv.sameBut hs h2⟩
  · by_cases hji : j = i
    · subst hji
      rw [hx] at hy; cases hy
      have hlen : j < σ.v.length := by
        have := (List.getElem?_eq_some_iff.mp hq).1
        simpa using this
      simp only [List.getElem?_set_self hlen] at hq
      cases hq
      exact ⟨v, by simp, R⟩
    · simp only [List.getElem?_set_ne (Ne.symm hji)] at hq
      obtain ⟨v', hv', r⟩ := V j y q hy hq
      exact ⟨v', by rw [if_neg (uniq j y hy hji)]; exact hv', r⟩
  · obtain ⟨a, v', ha, hv, r⟩ := C j y q hy hq
    obtain ⟨h1, h2, _⟩ := B.offC y a (List.mem_of_getElem? hy) ha
    exact ⟨a, v', ha, hv.sameBut hs h2, r⟩
  · have hne := hown j l e
    obtain ⟨h1, y, a, o, vs, n, h2, h3, h4, h5, h6, h7, h8, h9, h10, h11, h12⟩ := O j l e
    exact ⟨by simpa only [List.getElem?_set_ne (Ne.symm hne)] using h1, y, a, o, vs, n, h2, (if_neg (uniq j y h2 hne)).trans h3, up _ _ h11 h4, h5, h6, h7, h8, h9, h10, h11, h12⟩

/-- a cell's name -/
theorem St.storeC {K0 h0 K : PM} {s : Shared} {x : Str} {i : Nat} {v : Value} {p : PV} {Q : Unit → Shared → Prop} (S : St H0 mg mb c K0 h0 K σ s) (hx : c.cn[i]? = some x) (hoc : c.oc = true) (R : Rep K v p)
    (h : ∀ h' tk', St H0 mg mb c K0 h0 K { σ with cel := σ.cel.set i (some p) } { s with heap := h', toks := tk' } → Q () { s with heap := h', toks := tk' }) :
    wpAny (model prog w) c.A (storeName c.env x v) Q E0 s := by
  obtain ⟨m, B, V, C, O⟩ := S
  have hmem := List.mem_of_getElem? hx
  have hnd := B.wf.cnd
  have hfresh : ∀ a, c.env.cells.lookup x = some a → h0 a = none := fun a => B.frC hoc x a hmem
  obtain ⟨hk1, hk2, a, ha⟩ := B.wf.ck x hmem
  obtain ⟨hKa, hLa, v₀, hv₀⟩ := B.offC x a hmem ha
  have hlt : i < c.cn.length := (List.getElem?_eq_some_iff.mp hx).1
  have uniq : ∀ j y, c.cn[j]? = some y → j ≠ i → y ≠ x := fun j y hy hne e => by
    subst e
    exact hne (nodup_uniq hnd hy hx)
  refine wpAny_storeName_cell B.wf.fk hk1 ha hv₀ fun h' hv hs => h h' s.toks ?_
  have up : ∀ b o, b ≠ a → s.heap.get? b = some o → h'.get? b = some o := fun b o hb e => (hs.2 b hb).trans e
  have offK : ∀ b o, K b = some o → b ≠ a := fun b o e q => by rw [q, hKa] at e; cases e
  have off0 : ∀ b o, h0 b = some o → b ≠ a := fun b o e q => by rw [q, hfresh a ha] at e; cases e
  refine ⟨m, ⟨B.wf, B.ns.sameBut hs (Ne.symm hLa), B.base, ⟨B.grow.up, B.grow.new, fun b o e => up b o (off0 b o e) (B.grow.keep b o e), fun b o e => up b o (offK b o e) (B.grow.sub b o e)⟩, B.freshL, B.offL, fun y b hy hb => ?_, B.frC⟩, V, fun j y q hy hq => ?_, fun j l e => ?_⟩
  · obtain ⟨h1, h2, v', hv'⟩ := B.offC y b hy hb
    by_cases hba : b = a
    · subst hba; exact ⟨h1, h2, _, hv⟩
    · exact ⟨h1, h2, v', hv'.sameBut hs hba⟩
  · by_cases hji : j = i
    · subst hji
      rw [hx] at hy; cases hy
      have hlen : j < σ.cel.length := by
        have := (List.getElem?_eq_some_iff.mp hq).1
        simpa using this
      simp only [List.getElem?_set_self hlen] at hq
      cases hq
      exact ⟨a, v, ha, hv, R⟩
    · simp only [List.getElem?_set_ne (Ne.symm hji)] at hq
      obtain ⟨b, v', hb, hv', r⟩ := C j y q hy hq
      refine ⟨b, v', hb, hv'.sameBut hs fun e => uniq j y hy hji (B.wf.cd y (List.mem_of_getElem? hy) x hmem (by rw [hb, ha, e])), r⟩
  · obtain ⟨h1, y, b, o, vs, n, h2, h3, h4, h5, h6, h7, h8, h9, h10, h11, h12⟩ := O j l e
    exact ⟨h1, y, b, o, vs, n, h2, h3, up _ _ (fun q => h12 x a hmem ha q.symm) h4, h5, h6, h7, h8, h9, h10, h11, h12⟩

/-- an expression that gives a new list that nobody else holds -/
def PostO (K : PM) (s : Shared) (l : List PV) (v : Value) (s' : Shared) : Prop :=
  ∃ K' h' tk' a o vs n, s' = { s with heap := h', toks := tk' } ∧ Grow K s.heap.get? K' h'.get? ∧ v = .ref a ∧ h'.get? a = some o ∧ o.cls = .type "list" ∧ o.dict = none ∧ o.data = .seq (List.toArray vs) n ∧ Reps K' vs l ∧ K' a = none ∧ s.heap.get? a = none
structure EvO (prog : Program) (w : World) (H0 : Heap) (mg mb : Str → Option Value) (c : Fc) (σ : Sg) (e : Expr) (l : List PV) : Prop where
  run : ∀ K0 h0 K s, St H0 mg mb c K0 h0 K σ s → wpAny (model prog w) c.A (eval e c.env) (PostO K s l) E0 s

theorem get?_size_none (h : Heap) : h.get? h.objs.size = none := by
  cases q : h.get? h.objs.size with
  | none => rfl
  | some o' => exact absurd (Heap.lt_size q) (Nat.lt_irrefl _)

theorem EvO.listD {pos : Pos} {es : List Expr} {l : List PV} (h : EvL prog w H0 mg mb c σ pos es l) (hz : l.length ≤ 1000) : EvO prog w H0 mg mb c σ (.List es pos) l := .mk fun K0 h0 K s S =>
  wpAny_List (h.bind S fun vs K₁ h₁ t₁ G₁ R₁ S₁ => ⟨by rw [R₁.length, sizeLine_eq]; omega, by
    refine ⟨K₁, _, t₁, h₁.objs.size, { cls := .type "list", data := .seq vs.toArray }, vs, 0, rfl, G₁.trans (Grow.keepOnly S₁.sub fun b o e => Heap.get?_push_of_some _ e), rfl, Heap.get?_push_size _ rfl, rfl, rfl, rfl, R₁, ?_, ?_⟩
    · cases q : K₁ h₁.objs.size with
      | none => rfl
      | some o => exact absurd (Heap.lt_size (S₁.sub _ _ q)) (Nat.lt_irrefl _)
    · cases q : s.heap.get? h₁.objs.size with
      | none => rfl
      | some o => exact absurd (Heap.lt_size (G₁.keep _ _ q)) (Nat.lt_irrefl _)⟩)

theorem foldl_rep (v : Value) : ∀ (n : Nat) (acc : List Value), List.foldl (fun x1 x2 => x1 ++ x2) acc.toArray (List.replicate n #[v]) = (acc ++ List.replicate n v).toArray
  | 0, acc => by simp
  | n + 1, acc => by
    rw [List.replicate_succ, List.foldl_cons]
    have : acc.toArray ++ #[v] = (acc ++ [v]).toArray := by simp
    rw [this, foldl_rep v n (acc ++ [v])]
    simp [List.replicate_succ]

theorem rep_core {A : Around} {s : Shared} {a : Addr} {items : Array Value} {n : Nat} {x : Int} {u : Tok} {Q : Value → Shared → Prop}
    (hl : s.heap.get? a = some { cls := .type "list", dict := none, data := .seq items n, slots := #[] }) (hx : 0 ≤ x ∧ x ≤ 1000) (hz : items.size ≤ 1000)
    (h : Q (.ref s.heap.objs.size) { s with heap := s.heap.push { cls := .type "list", data := .seq (List.foldl (fun x1 x2 => x1 ++ x2) #[] (List.replicate (if items.isEmpty = true then 0 else x.toNat) items)) } }) :
    wpAny (model prog w) A (binaryOp .Mult (.ref a) (.int x u)) Q E0 s := by
  have hT : ∀ s' : Shared, s'.TypeIs (.int x u) "int" := fun s' => typeIs_int s' x u
  have hm : items.size * x.toNat ≤ 1000000 := Nat.le_trans (Nat.mul_le_mul hz (by omega : x.toNat ≤ 1000)) (by decide)
  refine wpAny_binaryOp_repeat_ref (T := "list") (U := "int") (by decide) ⟨_, hl, rfl⟩ hT noFill_list_mul F.fills_int_mul F.slot_int_rmul repeat_list F.slot_int_index.lookup ?_
  refine call_meets F.slot_int_rmul (hT s) F.entry_int_rmul (F.args_int_rmul_2 _ _) (int___rmul___int_list x u a items n) ⟨hl, rfl, ⟨_, hl, rfl⟩, ?_⟩
  refine call_meets F.slot_list_mul ⟨_, hl, rfl⟩ F.entry_list_mul (F.args_list_mul_2 _ _) (AutoListH.list___mul___list_int_3 a items n x u ?_ ?_ ?_) ⟨hl, h⟩
  · simp [Builtin.List.listFitsIndex]; omega
  · omega
  · simp [Builtin.List.listTooLong, sizeLine]; omega

/-- [e] * n -/
theorem EvO.rep {pos lp : Pos} {e0 e : Expr} {p : PV} {k : Int} (h : Ev prog w H0 mg mb c σ e0 p) (hs : starEach [e0] c.env = (false, eval e0 c.env) :: starEach [] c.env) (he : Ev prog w H0 mg mb c σ e (.int k)) (hk : 0 ≤ k ∧ k ≤ 1000) :
    EvO prog w H0 mg mb c σ (.BinOp (.List [e0] lp) .Mult e pos) (List.replicate k.toNat p) := .mk fun K0 h0 K s S => by
  refine wpAny_BinOp (wpAny_List ((EvL.cons h EvL.nil hs).bind S fun vs K₁ h₁ t₁ G₁ R₁ S₁ => ⟨by rw [R₁.length, sizeLine_eq]; simp, ?_⟩))
  have G₂ : Grow K₁ h₁.get? K₁ (h₁.push { cls := .type "list", data := .seq vs.toArray }).get? := Grow.keepOnly S₁.sub fun b o e => Heap.get?_push_of_some _ e
  have S₂ := S₁.grow (tk' := t₁) G₂
  refine he.bind S₂ fun v K₃ h₃ t₃ G₃ R₃ S₃ => ?_
  cases R₃
  rename_i t
  have hl : h₃.get? h₁.objs.size = some { cls := .type "list", dict := none, data := .seq vs.toArray 0, slots := #[] } := G₃.keep _ _ (Heap.get?_push_size _ rfl)
  have hlen := R₁.length
  match vs, R₁, hl with
  | [v0], R₁, hl =>
    have hsz : h₁.objs.size < h₃.objs.size := Heap.lt_size hl
    refine rep_core (s := { s with heap := h₃, toks := t₃ }) hl hk (by simp) ?_
    have e1 : List.foldl (fun x1 x2 => x1 ++ x2) #[] (List.replicate (if (#[v0] : Array Value).isEmpty = true then 0 else k.toNat) #[v0]) = (List.replicate k.toNat v0).toArray := by
      have := foldl_rep v0 k.toNat []
      simpa using this
    have e2 : ([v0] : List Value).toArray = #[v0] := rfl
    rw [e2, e1]
    have gr : Grow K₃ h₃.get? K₃ (h₃.push { cls := .type "list", data := .seq (List.toArray (List.replicate k.toNat v0)) }).get? := Grow.keepOnly S₃.sub fun b o e => Heap.get?_push_of_some _ e
    cases R₁ with
    | cons r _ =>
      refine ⟨K₃, _, t₃, h₃.objs.size, { cls := .type "list", data := .seq (List.replicate k.toNat v0).toArray }, List.replicate k.toNat v0, 0, rfl, G₁.trans (G₂.trans (G₃.trans gr)), rfl, Heap.get?_push_size _ rfl, rfl, rfl, rfl, ?_, ?_, ?_⟩
      · have r' := r.mono G₃.up
        generalize k.toNat = z
        induction z with
        | zero => exact .nil
        | succ z ih => rw [List.replicate_succ, List.replicate_succ]; exact .cons r' ih
      · cases q : K₃ h₃.objs.size with
        | none => rfl
        | some o => exact absurd (Heap.lt_size (S₃.sub _ _ q)) (Nat.lt_irrefl _)
      · cases q : s.heap.get? h₃.objs.size with
        | none => rfl
        | some o => exact absurd (Heap.lt_size (G₃.keep _ _ (G₂.keep _ _ (G₁.keep _ _ q)))) (Nat.lt_irrefl _)
  | [], _, _ => simp at hlen
  | _ :: _ :: _, _, _ => simp at hlen

end
end Mine

namespace Mine

inductive LeV : List (Option PV) → List (Option PV) → Prop
  | lnil : LeV [] []
  | ldrop {x : Option PV} {a b : List (Option PV)} : LeV a b → LeV (none :: a) (x :: b)
  | lsame {x : Option PV} {a b : List (Option PV)} : LeV a b → LeV (x :: a) (x :: b)
theorem LeV.get : ∀ {a b : List (Option PV)}, LeV a b → ∀ (i : Nat) (p : PV), a[i]? = some (some p) → b[i]? = some (some p)
  | _, _, .ldrop h, 0, p, e => by simp at e
  | _, _, .ldrop h, i + 1, p, e => by simpa using h.get i p (by simpa using e)
  | _, _, .lsame h, 0, p, e => by simpa using e
  | _, _, .lsame h, i + 1, p, e => by simpa using h.get i p (by simpa using e)
theorem LeV.hole : ∀ {a b : List (Option PV)}, LeV a b → ∀ (i : Nat), b[i]? = some none → a[i]? = some none
  | _, _, .ldrop h, 0, e => by simp
  | _, _, .ldrop h, i + 1, e => by simpa using h.hole i (by simpa using e)
  | _, _, .lsame h, 0, e => by simpa using e
  | _, _, .lsame h, i + 1, e => by simpa using h.hole i (by simpa using e)
theorem LeV.refl : ∀ (a : List (Option PV)), LeV a a
  | [] => .lnil
  | x :: a => .lsame (LeV.refl a)

section
variable {prog : Program} {w : World} {H0 : Heap} {mg mb : Str → Option Value} {c : Fc} {σ : Sg}

theorem St.weaken {K0 h0 K : PM} {s : Shared} {v' : List (Option PV)} (S : St H0 mg mb c K0 h0 K σ s) (hl : LeV v' σ.v) : St H0 mg mb c K0 h0 K { σ with v := v' } s := by
  obtain ⟨m, B, V, C, O⟩ := S
  refine ⟨m, B, fun i x p hx hp => V i x p hx (hl.get i p hp), C, fun i l e => ?_⟩
  obtain ⟨h1, r⟩ := O i l e
  exact ⟨hl.hole i h1, r⟩
theorem St.drop {K0 h0 K : PM} {s : Shared} (S : St H0 mg mb c K0 h0 K σ s) : St H0 mg mb c K0 h0 K { σ with own := none } s := by
  obtain ⟨m, B, V, C, O⟩ := S
  exact ⟨m, B, V, C, fun i l e => nomatch e⟩
theorem Exs.weaken {sts : List Stmt} {σ₁ : Sg} {v' : List (Option PV)} (h : Exs prog w H0 mg mb c σ sts (.next σ₁)) (hl : LeV v' σ₁.v) : Exs prog w H0 mg mb c σ sts (.next { σ₁ with v := v' }) := .mk fun K0 h0 K s S =>
  wpAny_mono (h.run K0 h0 K s S) (fun f s' ⟨e, K', h', tk', e', S'⟩ => ⟨e, K', h', tk', e', S'.weaken hl⟩) fun _ _ f => f
theorem Ex.weaken {st : Stmt} {σ₁ : Sg} {v' : List (Option PV)} (h : Ex prog w H0 mg mb c σ st (.next σ₁)) (hl : LeV v' σ₁.v) : Ex prog w H0 mg mb c σ st (.next { σ₁ with v := v' }) := .mk fun K0 h0 K s S =>
  wpAny_mono (h.run K0 h0 K s S) (fun f s' ⟨e, K', h', tk', e', S'⟩ => ⟨e, K', h', tk', e', S'.weaken hl⟩) fun _ _ f => f

/-- the own list is frozen -/
theorem St.freeze {K0 h0 K : PM} {s : Shared} {j : Nat} {l : List PV} (S : St H0 mg mb c K0 h0 K σ s) (ho : σ.own = some (j, l)) :
    ∃ K', St H0 mg mb c K0 h0 K' { σ with v := σ.v.set j (some (.list l)), own := none } s := by
  obtain ⟨m, B, V, C, O⟩ := S
  obtain ⟨hn, x, a, o, vs, n, h1, h2, h3, h4, h5, h6, h7, h8, h9, h10, h11⟩ := O j l ho
  have up : ∀ b q, K b = some q → addK K a o b = some q := fun b q e => by
    unfold addK
    by_cases hb : b = a
    · subst hb; rw [h8] at e; cases e
    · rw [if_neg hb]; exact e
  have off : ∀ b, b ≠ a → addK K a o b = K b := fun b hb => if_neg hb
  refine ⟨addK K a o, m, ⟨B.wf, B.ns, fun b q e => up b q (B.base b q e), ⟨fun b q e => up b q (B.grow.up b q e), fun b q e => ?_, B.grow.keep, fun b q e => ?_⟩, B.freshL, (off _ (Ne.symm h10)).trans B.offL, fun y b hy hb => ?_, B.frC⟩, fun i y p hy hp => ?_, fun i y p hy hp => ?_, fun i l e => nomatch e⟩
  · by_cases hb : b = a
    · subst hb; exact .inr h9
    · rw [off b hb] at e; exact B.grow.new b q e
  · by_cases hb : b = a
    · subst hb; rw [show addK K b o b = some o from if_pos rfl] at e; cases e; exact h3
    · rw [off b hb] at e; exact B.grow.sub b q e
  · obtain ⟨g1, g2, g3⟩ := B.offC y b hy hb
    exact ⟨(off b (h11 y b hy hb)).trans g1, g2, g3⟩
  · by_cases hij : i = j
    · subst hij
      have hlen : i < σ.v.length := (List.getElem?_eq_some_iff.mp hn).1
      rw [show (σ.v.set i (some (PV.list l)))[i]? = some (some (.list l)) by simp [hlen]] at hp
      cases hp
      rw [h1] at hy; cases hy
      exact ⟨_, h2, .list (if_pos rfl) h4 h6 (h7.mono up)⟩
    · simp only [List.getElem?_set_ne (Ne.symm hij)] at hp
      obtain ⟨v, hv, r⟩ := V i y p hy hp
      exact ⟨v, hv, r.mono up⟩
  · obtain ⟨b, v, hb, hv, r⟩ := C i y p hy hp
    exact ⟨b, v, hb, hv, r.mono up⟩
theorem Exs.freeze {sts : List Stmt} {r : Res} {j : Nat} {l : List PV} (ho : σ.own = some (j, l)) (h : Exs prog w H0 mg mb c { σ with v := σ.v.set j (some (.list l)), own := none } sts r) : Exs prog w H0 mg mb c σ sts r := .mk fun K0 h0 K s S => by
  obtain ⟨K', S'⟩ := S.freeze ho
  exact h.run K0 h0 K' s S'

theorem St.storeOwn {K0 h0 K : PM} {s : Shared} {x : Str} {i : Nat} {a : Addr} {o : Obj} {vs : List Value} {n : Nat} {l : List PV} {Q : Unit → Shared → Prop} (S : St H0 mg mb c K0 h0 K σ s) (hx : c.ln[i]? = some x) (hi : i < σ.v.length)
    (h3 : s.heap.get? a = some o) (h4 : o.cls = .type "list") (h5 : o.dict = none) (h6 : o.data = .seq (List.toArray vs) n) (h7 : Reps K vs l) (h8 : K a = none) (h9 : h0 a = none) (h10 : a ≠ c.env.locals) (h11 : ∀ y b, y ∈ c.cn → c.env.cells.lookup y = some b → b ≠ a)
    (h : ∀ h' tk', St H0 mg mb c K0 h0 K { σ with v := σ.v.set i none, own := some (i, l) } { s with heap := h', toks := tk' } → Q () { s with heap := h', toks := tk' }) :
    wpAny (model prog w) c.A (storeName c.env x (.ref a)) Q E0 s := by
  refine S.drop.store hx (fun _ _ e => nomatch e) (.val (.ref a)) fun h' tk' hs S' => h h' tk' ?_
  obtain ⟨m, B, V, C, O⟩ := S'
  have hset : ∀ j p, (σ.v.set i none)[j]? = some (some p) → (σ.v.set i (some (.val (.ref a))))[j]? = some (some p) := fun j p e => by
    by_cases hij : i = j
    · subst hij
      have : (σ.v.set i none)[i]? = some none := by simp [hi]
      rw [this] at e; cases e
    · rw [List.getElem?_set_ne hij] at e ⊢; exact e
  refine ⟨m, B, fun j y p hy hp => V j y p hy (hset j p hp), C, fun j l' e => ?_⟩
  cases e
  have hm : m x = some (.ref a) := by
    obtain ⟨v, hv, r⟩ := V i x (.val (.ref a)) hx (by simp [hi])
    cases r
    exact hv
  exact ⟨by simp [hi], x, a, o, vs, n, hx, hm, (hs.2 a h10).trans h3, h4, h5, h6, h7, h8, h9, h10, h11⟩

theorem St.offFresh {K0 h0 K : PM} {s : Shared} (S : St H0 mg mb c K0 h0 K σ s) {a : Addr} (ha : s.heap.get? a = none) : h0 a = none ∧ K a = none ∧ a ≠ c.env.locals ∧ ∀ y b, y ∈ c.cn → c.env.cells.lookup y = some b → b ≠ a := by
  obtain ⟨m, B, V, C, O⟩ := S
  refine ⟨?_, ?_, ?_, fun y b hy hb => ?_⟩
  · cases q : h0 a with
    | none => rfl
    | some o => rw [B.grow.keep _ _ q] at ha; cases ha
  · cases q : K a with
    | none => rfl
    | some o => rw [B.grow.sub _ _ q] at ha; cases ha
  · rintro rfl
    obtain ⟨oL, _, _, hL, _⟩ := B.ns
    rw [hL] at ha; cases ha
  · rintro rfl
    obtain ⟨_, _, _, o, ho, _⟩ := B.offC y b hy hb
    rw [ho] at ha; cases ha

/-! assignments -/
theorem Ex.assign {x : Str} {px pos : Pos} {e : Expr} {p : PV} (i : Nat) (h : Ev prog w H0 mg mb c σ e p) (hx : c.ln[i]? = some x) (hown : ∀ j l, σ.own = some (j, l) → j ≠ i) (hs : swapsWith e (some (.Name x px)) pos.line c.env = pure false) :
    Ex prog w H0 mg mb c σ (.Assign [.Name x px] e pos) (.next { σ with v := σ.v.set i (some p) }) := .mk fun K0 h0 K s S =>
  wpAny_Assign_Name (h.bind S fun v K' h' tk' G R S' => S'.store hx hown R fun h₂ tk₂ _ S₂ => ⟨rfl, K', h₂, tk₂, rfl, S₂⟩) hs
theorem Ex.assignOwn {x : Str} {px pos : Pos} {e : Expr} {l : List PV} (i : Nat) (h : EvO prog w H0 mg mb c σ e l) (hx : c.ln[i]? = some x) (hi : i < σ.v.length) (hs : swapsWith e (some (.Name x px)) pos.line c.env = pure false) :
    Ex prog w H0 mg mb c σ (.Assign [.Name x px] e pos) (.next { σ with v := σ.v.set i none, own := some (i, l) }) := .mk fun K0 h0 K s S =>
  wpAny_Assign_Name (wpAny_mono (h.run K0 h0 K s S) (fun v s' P => by
    obtain ⟨K', h', tk', a, o, vs, n, rfl, G, rfl, h3, h4, h5, h6, h7, h8, h9⟩ := P
    obtain ⟨f1, f2, f3, f4⟩ := S.offFresh h9
    exact (S.grow G).storeOwn hx hi h3 h4 h5 h6 h7 h8 f1 f3 f4 fun h₂ tk₂ S₂ => ⟨rfl, K', h₂, tk₂, rfl, S₂⟩) fun _ _ f => f) hs

/-- augmented assignment of a local int -/
theorem Ex.augII {x : Str} {np pos : Pos} {op : Operator} {e : Expr} {a b z : Int} (i : Nat) (hx : c.ln[i]? = some x) (hv : σ.v[i]? = some (some (.int a))) (hown : ∀ j l, σ.own = some (j, l) → j ≠ i) (h : Ev prog w H0 mg mb c σ e (.int b))
    (hop : ∀ (A : Around) (t u : Tok) (Q : Value → Shared → Prop) (s : Shared), Q (.int z s.toks) { s with toks := s.toks + 1 } → wpAny (model prog w) A (inplaceOp op (.int a t) (.int b u)) Q E0 s) :
    Ex prog w H0 mg mb c σ (.AugAssign (.Name x np) op e pos) (.next { σ with v := σ.v.set i (some (.int z)) }) := .mk fun K0 h0 K s S => by
  have hw := S.wf
  have S' := S
  obtain ⟨m, B, V, _⟩ := S'
  obtain ⟨v, hm, R⟩ := V i x _ hx hv
  have hk := hw.lk x (List.mem_of_getElem? hx)
  cases R
  refine wpAny_AugAssign_Name (wpAny_loadName_local hw.fk hk.1 B.ns hm (h.bind S fun v₂ K₂ h₂ t₂ G₂ R₂ S₂ => ?_))
  cases R₂
  refine hop _ _ _ _ _ ?_
  have S₃ := S₂.grow (tk' := t₂ + 1) (Grow.refl S₂.sub)
  exact S₃.store hx hown (.int _ _) fun h₃ t₃ _ S₄ => ⟨rfl, K₂, h₃, t₃, rfl, S₄⟩

section
variable {x : Str} {np pos : Pos} {e : Expr} {a b : Int} (i : Nat)
theorem Ex.augAdd (hx : c.ln[i]? = some x) (hv : σ.v[i]? = some (some (.int a))) (hown : ∀ j l, σ.own = some (j, l) → j ≠ i) (h : Ev prog w H0 mg mb c σ e (.int b)) : Ex prog w H0 mg mb c σ (.AugAssign (.Name x np) .Add e pos) (.next { σ with v := σ.v.set i (some (.int (a + b))) }) :=
  Ex.augII i hx hv hown h fun _ _ _ _ _ h => P.iadd_int h
theorem Ex.augMod (hx : c.ln[i]? = some x) (hv : σ.v[i]? = some (some (.int a))) (hown : ∀ j l, σ.own = some (j, l) → j ≠ i) (h : Ev prog w H0 mg mb c σ e (.int b)) (hb : b ≠ 0) : Ex prog w H0 mg mb c σ (.AugAssign (.Name x np) .Mod e pos) (.next { σ with v := σ.v.set i (some (.int (a.fmod b))) }) :=
  Ex.augII i hx hv hown h fun _ _ _ _ _ h => AutoIntOps.imod_1 (by simpa using hb) h
theorem Ex.augShr (hx : c.ln[i]? = some x) (hv : σ.v[i]? = some (some (.int a))) (hown : ∀ j l, σ.own = some (j, l) → j ≠ i) (h : Ev prog w H0 mg mb c σ e (.int b)) (hb : 0 ≤ b) : Ex prog w H0 mg mb c σ (.AugAssign (.Name x np) .RShift e pos) (.next { σ with v := σ.v.set i (some (.int (a.fdiv (2 ^ b.toNat)))) }) :=
  Ex.augII i hx hv hown h fun _ _ _ _ _ h => irshift_int hb h
theorem Ex.augSub (hx : c.ln[i]? = some x) (hv : σ.v[i]? = some (some (.int a))) (hown : ∀ j l, σ.own = some (j, l) → j ≠ i) (h : Ev prog w H0 mg mb c σ e (.int b)) : Ex prog w H0 mg mb c σ (.AugAssign (.Name x np) .Sub e pos) (.next { σ with v := σ.v.set i (some (.int (a - b))) }) :=
  Ex.augII i hx hv hown h fun _ _ _ _ _ h => P.isub_int h
end
end
end Mine

namespace Mine
section
variable {prog : Program} {w : World} {H0 : Heap} {mg mb : Str → Option Value} {c : Fc} {σ : Sg}

/-- one name is bound to a frozen value -/
inductive Bind1 (c : Fc) : Sg → Str → PV → Sg → Prop
  | loc {σ : Sg} {x : Str} {p : PV} (i : Nat) : c.ln[i]? = some x → (∀ j l, σ.own = some (j, l) → j ≠ i) → Bind1 c σ x p { σ with v := σ.v.set i (some p) }
  | cel {σ : Sg} {x : Str} {p : PV} (i : Nat) : c.cn[i]? = some x → c.oc = true → Bind1 c σ x p { σ with cel := σ.cel.set i (some p) }

theorem Bind1.run {σ' : Sg} {K0 h0 K : PM} {s : Shared} {x : Str} {v : Value} {p : PV} {Q : Unit → Shared → Prop} (B : Bind1 c σ x p σ') (S : St H0 mg mb c K0 h0 K σ s) (R : Rep K v p)
    (h : ∀ h' tk', St H0 mg mb c K0 h0 K σ' { s with heap := h', toks := tk' } → Q () { s with heap := h', toks := tk' }) : wpAny (model prog w) c.A (storeName c.env x v) Q E0 s := by
  cases B with
  | loc i hx ho => exact S.store hx ho R fun h' tk' _ S' => h h' tk' S'
  | cel i hx hoc => exact S.storeC hx hoc R fun h' tk' S' => h h' tk' S'

inductive Stores (c : Fc) : Sg → List (Str × PV) → Sg → Prop
  | nil {σ : Sg} : Stores c σ [] σ
  | cons {σ σ₁ σ₂ : Sg} {x : Str} {p : PV} {r : List (Str × PV)} : Bind1 c σ x p σ₁ → Stores c σ₁ r σ₂ → Stores c σ ((x, p) :: r) σ₂

theorem Stores.run {σ' : Sg} {xs : List (Str × PV)} (T : Stores c σ xs σ') : ∀ {K0 h0 K : PM} {s : Shared} {vs : List Value} {ts : List (Value → Sem Unit)} {Q : Unit → Shared → Prop}, St H0 mg mb c K0 h0 K σ s → Reps K vs (xs.map (·.2)) →
    (ts.length = xs.length) → (∀ (i : Nat) (t : Value → Sem Unit) (x : Str) (p : PV), ts[i]? = some t → xs[i]? = some (x, p) → ∀ (v : Value) (s : Shared) (Q' : Unit → Shared → Prop), wpAny (model prog w) c.A (storeName c.env x v) Q' E0 s → wpAny (model prog w) c.A (t v) Q' E0 s) →
    (∀ h' tk', St H0 mg mb c K0 h0 K σ' { s with heap := h', toks := tk' } → Q () { s with heap := h', toks := tk' }) → wpAny (model prog w) c.A (assignInOrder ts vs) Q E0 s := by
  induction T with
  | nil =>
    intro K0 h0 K s vs ts Q S R hl ht h
    cases R
    cases ts with
    | nil => exact wpAny_pure (h s.heap s.toks S)
    | cons t r => simp at hl
  | cons B T ih =>
    intro K0 h0 K s vs ts Q S R hl ht h
    cases R with
    | cons r rs =>
      cases ts with
      | nil => simp at hl
      | cons t ts =>
        refine wpAny_bind (wpAny_holding (ht 0 t _ _ rfl rfl _ _ _ (B.run S r fun h₁ t₁ S₁ => ?_)))
        exact ih S₁ rs (by simpa using hl) (fun i t x p e e' => ht (i + 1) t x p (by simpa using e) (by simpa using e')) fun h' tk' S' => h h' tk' S'

theorem unpack_core {K0 h0 K : PM} {s : Shared} {t : Addr} {o : Obj} {vs : List Value} {n : Nat} {Q : List Value → Shared → Prop} (S : St H0 mg mb c K0 h0 K σ s) (h1 : s.heap.get? t = some o) (h2 : o.cls = .type "tuple") (h3 : o.data = .seq vs.toArray n)
    (h : ∀ h' tk', (∀ b o, s.heap.get? b = some o → h'.get? b = some o) → St H0 mg mb c K0 h0 K σ { s with heap := h', toks := tk' } → Q vs { s with heap := h', toks := tk' }) :
    wpAny (model prog w) c.A (unpackItems (.ref t) vs.length none) Q E0 s := by
  have := unpackItems_tuple (prog := prog) (w := w) (E := E0) (Q := Q) (A := c.A) (s := s) (items := vs.toArray) S.wf.room.handled ⟨o, h1, h2, n, h3⟩ (fun h' hx => by
    have k : ∀ b o, s.heap.get? b = some o → h'.get? b = some o := fun b o e => hx b o (Nat.ne_of_lt (Heap.lt_size e)) e
    have r := h h' s.toks k (S.grow (Grow.keepOnly S.sub k))
    simpa using r)
  simpa using this

theorem bindName_run {env : Env} {x : Str} {A : Around} (v : Value) (s : Shared) (Q' : Unit → Shared → Prop) (h : wpAny (model prog w) A (storeName env x v) Q' E0 s) : wpAny (model prog w) A (bindName env x v) Q' E0 s := wpAny_bindName h

theorem Reps.zipRev {K : PM} {vs : List Value} {l : List PV} (R : Reps K vs l) (ns : List Str) (hl : ns.length = l.length) : Reps K vs.reverse ((ns.zip l).reverse.map (·.2)) := by
  rw [List.map_reverse]
  have : (ns.zip l).map (·.2) = l := by
    have := List.map_snd_zip (l₁ := ns) (l₂ := l) (by omega)
    simpa using this
  rw [this]
  exact R.reverse

/-- x, y = (e, e') : two or three locals, stored from behind -/
theorem Ex.tup {elts es : List Expr} {k k' : Nat} {tpos vpos pos : Pos} {ns : List Str} {l : List PV} {σ' : Sg} (h : EvL prog w H0 mg mb c σ vpos es l) (hl : ns.length = l.length) (hz : l.length ≤ 1000) (T : Stores c σ (ns.zip l).reverse σ')
    (hs : swapsWithSole [.Tuple elts k tpos] (.Tuple es k' vpos) pos.line c.env = pure false) (hw : swappedStores [.Tuple elts k tpos] (.Tuple es k' vpos) c.env = pure (some ns)) :
    Ex prog w H0 mg mb c σ (.Assign [.Tuple elts k tpos] (.Tuple es k' vpos) pos) (.next σ') := .mk fun K0 h0 K s S => by
  refine Assign_Tuple_swapped (wpAny_Tuple (h.bind S fun vs K₁ h₁ t₁ G₁ R₁ S₁ => ⟨by rw [R₁.length, sizeLine_eq]; omega, ?_⟩)) hs hw
  have G₂ : Grow K₁ h₁.get? K₁ (h₁.push { cls := .type "tuple", data := .seq vs.toArray }).get? := Grow.keepOnly S₁.sub fun b o e => Heap.get?_push_of_some _ e
  have S₂ := S₁.grow (tk' := t₁) G₂
  rw [hl, ← R₁.length]
  refine unpack_core S₂ (Heap.get?_push_size _ rfl) rfl rfl fun h₃ t₃ k₃ S₃ => ?_
  refine T.run S₃ (R₁.zipRev ns hl) (by simp [hl]) (fun i t x p e e' v s Q' hq => ?_) fun h₄ t₄ S₄ => ⟨rfl, K₁, h₄, t₄, rfl, S₄⟩
  have hx : (ns.reverse)[i]? = some x := by
    have e2 : ((ns.zip l).reverse.map (·.1))[i]? = some x := by rw [List.getElem?_map, e']; rfl
    rw [List.map_reverse, List.map_fst_zip (by omega)] at e2
    exact e2
  rw [List.getElem?_map, hx] at e
  cases e
  exact bindName_run v s Q' hq

/-! guarding some addresses: what a part of the run may not touch -/
def gd (h0 : PM) (wr : List Addr) (h : PM) : PM := fun b => if b ∈ wr then h b else h0 b
theorem gd_in {h0 : PM} {wr : List Addr} {h : PM} {b : Addr} (hb : b ∈ wr) : gd h0 wr h b = h b := if_pos hb
theorem gd_out {h0 : PM} {wr : List Addr} {h : PM} {b : Addr} (hb : b ∉ wr) : gd h0 wr h b = h0 b := if_neg hb

theorem St.enter {K0 h0 K K₂ : PM} {s : Shared} {h₁ : Heap} {t₁ : Nat} {wr : List Addr} (S : St H0 mg mb c K0 h0 K σ s) (G : Grow K s.heap.get? K₂ h₁.get?) (fr : ∀ b ∈ wr, s.heap.get? b = none) :
    St H0 mg mb c K₂ (gd h0 wr h₁.get?) K₂ σ { s with heap := h₁, toks := t₁ } := by
  have S' := S.grow (tk' := t₁) G
  have off : ∀ b o, s.heap.get? b = some o → b ∉ wr := fun b o e hb => by rw [fr b hb] at e; cases e
  obtain ⟨m, B, V, C, O⟩ := S
  obtain ⟨m', B', V', C', O'⟩ := S'
  obtain ⟨oL, _, _, hL, _⟩ := id B.ns
  refine ⟨m, ⟨B.wf, B.ns.keeps G.keep, B'.base, ⟨fun _ _ e => e, fun _ _ e => .inl e, fun b o e => ?_, G.sub⟩, (gd_out (off _ _ hL)).trans B.freshL, B'.offL, B'.offC, fun hoc x a hx ha => ?_⟩, fun i x p hx hp => ?_, C', fun i l e => ?_⟩
  · by_cases hb : b ∈ wr
    · rw [gd_in hb] at e; exact e
    · rw [gd_out hb] at e; exact B'.grow.keep b o e
  · obtain ⟨_, _, _, o, ho, _⟩ := B.offC x a hx ha
    exact (gd_out (off _ _ ho)).trans (B.frC hoc x a hx ha)
  · obtain ⟨v, hv, r⟩ := V i x p hx hp
    exact ⟨v, hv, r.mono G.up⟩
  · obtain ⟨hn, x, a, o, vs, n, h1, h2, h3, h4, h5, h6, h7, h8, h9, h10, h11⟩ := O i l e
    exact ⟨hn, x, a, o, vs, n, h1, h2, G.keep _ _ h3, h4, h5, h6, h7.mono G.up, G.off h3 h8, (gd_out (off _ _ h3)).trans h9, h10, h11⟩

/-- the guarded objects alone turn -/
theorem St.step {K0 h0 K : PM} {s : Shared} {h₁ : Heap} {t₁ : Nat} {wr : List Addr} (S : St H0 mg mb c K0 (gd h0 wr s.heap.get?) K σ s) (hw : ∀ b ∈ wr, K0 b = none ∧ s.heap.get? b ≠ none) (hc : ∀ x a, x ∈ c.cn → c.env.cells.lookup x = some a → a ∉ wr)
    (k : ∀ b o, b ∉ wr → s.heap.get? b = some o → h₁.get? b = some o) : St H0 mg mb c K0 (gd h0 wr h₁.get?) K σ { s with heap := h₁, toks := t₁ } := by
  obtain ⟨m, B, V, C, O⟩ := S
  have some_of : ∀ b ∈ wr, ∃ o, s.heap.get? b = some o := fun b hb => by
    cases q : s.heap.get? b with
    | none => exact absurd q (hw b hb).2
    | some o => exact ⟨o, rfl⟩
  have offG : ∀ b, gd h0 wr s.heap.get? b = none → b ∉ wr := fun b e hb => by
    rw [gd_in hb] at e
    exact (hw b hb).2 e
  have tr : ∀ b, gd h0 wr s.heap.get? b = none → gd h0 wr h₁.get? b = none := fun b e => by
    have hb := offG b e
    rw [gd_out hb] at e ⊢
    exact e
  have offK : ∀ b o, K b = some o → b ∉ wr := fun b o e hb => by
    rcases B.grow.new b o e with e' | e'
    · rw [(hw b hb).1] at e'; cases e'
    · exact offG b e' hb
  refine ⟨m, ⟨B.wf, B.ns.at' fun o e => k _ o (offG _ B.freshL) e, B.base, ⟨B.grow.up, fun b o e => ?_, fun b o e => ?_, fun b o e => k b o (offK b o e) (B.grow.sub b o e)⟩, tr _ B.freshL, B.offL, fun x a hx ha => ?_, fun hoc x a hx ha => tr _ (B.frC hoc x a hx ha)⟩, V, fun i x p hx hp => ?_, fun i l e => ?_⟩
  · rcases B.grow.new b o e with e' | e'
    · exact .inl e'
    · exact .inr (tr _ e')
  · by_cases hb : b ∈ wr
    · rw [gd_in hb] at e; exact e
    · rw [gd_out hb] at e
      exact k b o hb (B.grow.keep b o (by rw [gd_out hb]; exact e))
  · obtain ⟨g1, g2, v, o, ho, hd⟩ := B.offC x a hx ha
    exact ⟨g1, g2, v, o, k _ _ (hc x a hx ha) ho, hd⟩
  · obtain ⟨a, v, ha, ⟨o, ho, hd⟩, r⟩ := C i x p hx hp
    exact ⟨a, v, ha, ⟨o, k _ _ (hc x a (List.mem_of_getElem? hx) ha) ho, hd⟩, r⟩
  · obtain ⟨hn, x, a, o, vs, n, h1, h2, h3, h4, h5, h6, h7, h8, h9, h10, h11⟩ := O i l e
    exact ⟨hn, x, a, o, vs, n, h1, h2, k _ _ (offG _ h9) h3, h4, h5, h6, h7, h8, tr _ h9, h10, h11⟩
theorem St.cellsOff {K0 h0 K : PM} {s : Shared} {wr : List Addr} (S : St H0 mg mb c K0 h0 K σ s) (fr : ∀ b ∈ wr, s.heap.get? b = none) : ∀ x a, x ∈ c.cn → c.env.cells.lookup x = some a → a ∉ wr := fun x a hx ha hm => by
  obtain ⟨m, B, _⟩ := S
  obtain ⟨_, _, _, o, ho, _⟩ := B.offC x a hx ha
  rw [fr a hm] at ho; cases ho

/-- after a stretch under guard the guarded objects are as they were -/
theorem St.same {K0 h0 K : PM} {s : Shared} {h₁ : PM} {wr : List Addr} (S : St H0 mg mb c K0 (gd h0 wr h₁) K σ s) (hw : ∀ b ∈ wr, h₁ b ≠ none) : gd h0 wr h₁ = gd h0 wr s.heap.get? ∧ ∀ b ∈ wr, s.heap.get? b = h₁ b := by
  obtain ⟨m, B, _⟩ := S
  have e : ∀ b ∈ wr, s.heap.get? b = h₁ b := fun b hb => by
    cases q : h₁ b with
    | none => exact absurd q (hw b hb)
    | some o => exact B.grow.keep b o (by rw [gd_in hb]; exact q)
  refine ⟨?_, e⟩
  funext b
  by_cases hb : b ∈ wr
  · rw [gd_in hb, gd_in hb, e b hb]
  · rw [gd_out hb, gd_out hb]

theorem Grow.exit {K0 h0 K h K₁ K₂ h₁ h₂ : PM} {wr : List Addr} (G₀ : Grow K0 h0 K h) (G : Grow K h K₁ h₁) (fr : ∀ b ∈ wr, h b = none) (G₂ : Grow K₁ (gd h0 wr h₂) K₂ h₂) : Grow K0 h0 K₂ h₂ := by
  have f0 : ∀ b ∈ wr, h0 b = none := fun b hb => by
    cases q : h0 b with
    | none => rfl
    | some o => have := G₀.keep b o q; rw [fr b hb] at this; cases this
  have G' := G₀.trans G
  refine ⟨fun b o q => G₂.up b o (G'.up b o q), fun b o q => ?_, fun b o q => ?_, G₂.sub⟩
  · rcases G₂.new b o q with q' | q'
    · exact G'.new b o q'
    · by_cases hb : b ∈ wr
      · exact .inr (f0 b hb)
      · rw [gd_out hb] at q'; exact .inr q'
  · refine G₂.keep b o ?_
    have hb : b ∉ wr := fun hb => by rw [f0 b hb] at q; cases q
    rw [gd_out hb]; exact q

theorem St.exit {K0 h0 K K₁ K₂ : PM} {s s₂ : Shared} {h₁ : PM} {wr : List Addr} {σ' : Sg} (S : St H0 mg mb c K0 h0 K σ s) (G : Grow K s.heap.get? K₁ h₁) (fr : ∀ b ∈ wr, s.heap.get? b = none)
    (S₂ : St H0 mg mb c K₁ (gd h0 wr s₂.heap.get?) K₂ σ' s₂) : St H0 mg mb c K0 h0 K₂ σ' s₂ := by
  obtain ⟨m₀, B₀, V₀, C₀, O₀⟩ := S
  obtain ⟨m, B, V, C, O⟩ := S₂
  have f0 : ∀ b ∈ wr, h0 b = none := fun b hb => by
    cases q : h0 b with
    | none => rfl
    | some o => have := B₀.grow.keep b o q; rw [fr b hb] at this; cases this
  have back : ∀ b, gd h0 wr s₂.heap.get? b = none → h0 b = none := fun b q => by
    by_cases hb : b ∈ wr
    · exact f0 b hb
    · rw [gd_out hb] at q; exact q
  refine ⟨m, ⟨B.wf, B.ns, B.base, Grow.exit B₀.grow G fr B.grow, B₀.freshL, B.offL, B.offC, B₀.frC⟩, V, C, fun i l q => ?_⟩
  obtain ⟨hn, x, a, o, vs, n, h1, h2, h3, h4, h5, h6, h7, h8, h9, h10, h11⟩ := O i l q
  exact ⟨hn, x, a, o, vs, n, h1, h2, h3, h4, h5, h6, h7, h8, back _ h9, h10, h11⟩

theorem Grow.same {K K' h0 h₁ h₂ : PM} {wr : List Addr} (G : Grow K (gd h0 wr h₁) K' h₂) (hw : ∀ b ∈ wr, h₁ b ≠ none) : gd h0 wr h₁ = gd h0 wr h₂ := by
  funext b
  by_cases hb : b ∈ wr
  · rw [gd_in hb, gd_in hb]
    cases q : h₁ b with
    | none => exact absurd q (hw b hb)
    | some o => exact (G.keep b o (by rw [gd_in hb]; exact q)).symm
  · rw [gd_out hb, gd_out hb]

/-- a name that holds the address of a list of one's own -/
theorem St.adopt {K0 h0 K : PM} {s : Shared} {i : Nat} {a : Addr} {x : Str} {o : Obj} {vs : List Value} {n : Nat} {l : List PV} (S : St H0 mg mb c K0 h0 K σ s) (hv : σ.v[i]? = some (some (.val (.ref a)))) (hx : c.ln[i]? = some x)
    (h3 : s.heap.get? a = some o) (h4 : o.cls = .type "list") (h5 : o.dict = none) (h6 : o.data = .seq (List.toArray vs) n) (h7 : Reps K vs l) (h8 : K a = none) (h9 : h0 a = none) (h10 : a ≠ c.env.locals) (h11 : ∀ y b, y ∈ c.cn → c.env.cells.lookup y = some b → b ≠ a) :
    St H0 mg mb c K0 h0 K { σ with v := σ.v.set i none, own := some (i, l) } s := by
  obtain ⟨m, B, V, C, O⟩ := S
  have hi : i < σ.v.length := (List.getElem?_eq_some_iff.mp hv).1
  refine ⟨m, B, fun j y p hy hp => V j y p hy ?_, C, fun j l' e => ?_⟩
  · by_cases hij : i = j
    · subst hij
      have : (σ.v.set i none)[i]? = some none := by simp [hi]
      rw [this] at hp; cases hp
    · rw [List.getElem?_set_ne hij] at hp; exact hp
  · cases e
    have hm : m x = some (.ref a) := by
      obtain ⟨v, hv', r⟩ := V i x _ hx hv
      cases r
      exact hv'
    exact ⟨by simp [hi], x, a, o, vs, n, hx, hm, h3, h4, h5, h6, h7, h8, h9, h10, h11⟩

/-- x, y, .. = (a new list of one's own, e', ..): the address is bound as a mark first -/
theorem Ex.tupOwn {elts es : List Expr} {e0 : Expr} {k k' : Nat} {tpos vpos pos : Pos} {x0 : Str} {ns : List Str} {l0 l : List PV} {σ' : Sg} (i0 : Nat) (he0 : EvO prog w H0 mg mb c σ e0 l0) (h : EvL prog w H0 mg mb c σ vpos es l) (hl : ns.length = l.length) (hz : l.length ≤ 900)
    (hx : c.ln[i0]? = some x0) (T : ∀ a, Stores c σ ((x0 :: ns).zip (.val (.ref a) :: l)).reverse { σ' with v := σ'.v.set i0 (some (.val (.ref a))) }) (hi : i0 < σ'.v.length)
    (he : starEach (e0 :: es) c.env = (false, eval e0 c.env) :: starEach es c.env)
    (hs : swapsWithSole [.Tuple elts k tpos] (.Tuple (e0 :: es) k' vpos) pos.line c.env = pure false) (hw : swappedStores [.Tuple elts k tpos] (.Tuple (e0 :: es) k' vpos) c.env = pure (some (x0 :: ns))) :
    Ex prog w H0 mg mb c σ (.Assign [.Tuple elts k tpos] (.Tuple (e0 :: es) k' vpos) pos) (.next { σ' with v := σ'.v.set i0 none, own := some (i0, l0) }) := .mk fun K0 h0 K s S => by
  refine Assign_Tuple_swapped (wpAny_Tuple (wpAny_items_cons (wpAny_mono (he0.run K0 h0 K s S) (fun v s' P => ?_) fun _ _ f => f) he)) hs hw
  obtain ⟨K₁, h₁, t₁, a, o, us, n, rfl, G₁, rfl, g3, g4, g5, g6, g7, g8, g9⟩ := P
  obtain ⟨f1, f2, f3, f4⟩ := S.offFresh g9
  refine h.bind (S.grow G₁) fun vs K₂ h₂ t₂ G₂ R₂ S₂ => ⟨by rw [List.length_cons, R₂.length, sizeLine_eq]; omega, ?_⟩
  have G₃ : Grow K₂ h₂.get? K₂ (h₂.push { cls := .type "tuple", data := .seq (Value.ref a :: vs).toArray }).get? := Grow.keepOnly S₂.sub fun b o e => Heap.get?_push_of_some _ e
  have G := G₁.trans (G₂.trans G₃)
  have fr : ∀ b ∈ [a], s.heap.get? b = none := fun b hb => by rw [List.mem_singleton.mp hb]; exact g9
  have S₃ := S.enter (t₁ := t₂) G fr
  have ha : (h₂.push { cls := .type "tuple", data := .seq (Value.ref a :: vs).toArray }).get? a = some o := G₃.keep _ _ (G₂.keep _ _ g3)
  have hlen : (x0 :: ns).length = (Value.ref a :: vs).length := by simp [hl, R₂.length]
  have hlen' : (x0 :: ns).length = (PV.val (Value.ref a) :: l).length := by simp [hl]
  rw [hlen]
  have Ra : Reps K₂ (Value.ref a :: vs) (.val (.ref a) :: l) := .cons (.val _) R₂
  refine unpack_core S₃ (Heap.get?_push_size _ rfl) rfl rfl fun h₃ t₃ k₃ S₄ => ?_
  refine (T a).run S₄ (Ra.zipRev (x0 :: ns) hlen') (by simp [hl]) (fun i t x p e e' v s Q' hq => ?_) fun h₅ t₅ S₅ => ?_
  · have hx : ((x0 :: ns).reverse)[i]? = some x := by
      have e2 : (((x0 :: ns).zip (PV.val (Value.ref a) :: l)).reverse.map (·.1))[i]? = some x := by rw [List.getElem?_map, e']; rfl
      rw [List.map_reverse, List.map_fst_zip (by simp [hl])] at e2
      exact e2
    rw [List.getElem?_map, hx] at e
    cases e
    exact bindName_run v s Q' hq
  · have hne : ∀ b ∈ [a], (h₂.push { cls := .type "tuple", data := .seq (Value.ref a :: vs).toArray }).get? b ≠ none := fun b hb => by rw [List.mem_singleton.mp hb, ha]; exact nofun
    obtain ⟨e1, e2⟩ := S₅.same hne
    rw [e1] at S₅
    have ha5 : h₅.get? a = some o := (e2 a (.head _)).trans ha
    have S₆ := St.exit S G fr S₅
    refine ⟨rfl, K₂, h₅, t₅, rfl, ?_⟩
    have S₇ := S₆.adopt (i := i0) (a := a) (x := x0) (o := o) (vs := us) (n := n) (l := l0) (by simp [hi]) hx ha5 g4 g5 g6 (g7.mono G₂.up) (G₂.off g3 g8) f1 f3 f4
    simpa using S₇
end
end Mine

namespace Mine
theorem dict_mapSeq (o : Obj) (f : Array Value → Array Value) : (o.mapSeq f).dict = o.dict := by
  obtain ⟨c, d, dt, sl⟩ := o; cases dt <;> rfl
section
variable {prog : Program} {w : World} {H0 : Heap} {mg mb : Str → Option Value} {c : Fc} {σ : Sg}

theorem St.ownAt {K0 h0 K : PM} {s : Shared} {j : Nat} {l : List PV} {x : Str} (S : St H0 mg mb c K0 h0 K σ s) (ho : σ.own = some (j, l)) (hx : c.ln[j]? = some x) :
    ∃ a o vs n, (∀ (pos : Pos) (Q : Value → Shared → Prop) K₁ h₁ t₁, Grow K s.heap.get? K₁ h₁.get? → Q (.ref a) { s with heap := h₁, toks := t₁ } → wpAny (model prog w) c.A (eval (.Name x pos) c.env) Q E0 { s with heap := h₁, toks := t₁ }) ∧
      s.heap.get? a = some o ∧ o.cls = .type "list" ∧ o.dict = none ∧ o.data = .seq (List.toArray vs) n ∧ Reps K vs l ∧
      ∀ K₁ h₁ t₁, Grow K s.heap.get? K₁ (Heap.get? h₁) → ∀ (h₂ : Heap) o₂ vs₂ n₂ l₂, Heap.SameBut a h₁ h₂ → h₂.get? a = some o₂ → o₂.cls = .type "list" → o₂.dict = none → o₂.data = .seq (List.toArray vs₂) n₂ → Reps K₁ vs₂ l₂ →
        St H0 mg mb c K0 h0 K₁ { σ with own := some (j, l₂) } { s with heap := h₂, toks := t₁ } := by
  have S₀ := S
  obtain ⟨m, B, V, C, O⟩ := S
  obtain ⟨hn, y, a, o, vs, n, h1, h2, h3, h4, h5, h6, h7, h8, h9, h10, h11⟩ := O j l ho
  rw [hx] at h1; cases h1
  have hk := B.wf.lk x (List.mem_of_getElem? hx)
  refine ⟨a, o, vs, n, fun pos Q K₁ h₁ t₁ G hq => wpAny_Name (wpAny_loadName_local B.wf.fk hk.1 (B.ns.keeps G.keep) h2 hq) hk.2, h3, h4, h5, h6, h7, ?_⟩
  intro K₁ h₁ t₁ G h₂ o₂ vs₂ n₂ l₂ hs g1 g2 g3 g4 g5
  have S₁ := S₀.grow (tk' := t₁) G
  have hKa := G.off h3 h8
  obtain ⟨m₁, B₁, V₁, C₁, O₁⟩ := S₁
  have up : ∀ b q, b ≠ a → h₁.get? b = some q → h₂.get? b = some q := fun b q hb e => (hs.2 b hb).trans e
  have offK : ∀ b q, K₁ b = some q → b ≠ a := fun b q e z => by rw [z, hKa] at e; cases e
  have off0 : ∀ b q, h0 b = some q → b ≠ a := fun b q e z => by rw [z, h9] at e; cases e
  refine ⟨m, ⟨B.wf, (B.ns.keeps G.keep).sameBut hs (Ne.symm h10), B₁.base, ⟨B₁.grow.up, B₁.grow.new, fun b q e => up b q (off0 b q e) (B₁.grow.keep b q e), fun b q e => up b q (offK b q e) (B₁.grow.sub b q e)⟩, B.freshL, B₁.offL, fun y b hy hb => ?_, B.frC⟩, fun i y p hy hp => ?_, fun i y p hy hp => ?_, fun i l' e => ?_⟩
  · obtain ⟨k1, k2, v, hv⟩ := B₁.offC y b hy hb
    exact ⟨k1, k2, v, hv.sameBut hs (h11 y b hy hb)⟩
  · obtain ⟨v, hv, r⟩ := V i y p hy hp
    exact ⟨v, hv, r.mono G.up⟩
  · obtain ⟨b, v, hb, hv, r⟩ := C₁ i y p hy hp
    exact ⟨b, v, hb, hv.sameBut hs (h11 y b (List.mem_of_getElem? hy) hb), r⟩
  · cases e
    exact ⟨hn, x, a, o₂, vs₂, n₂, hx, h2, g1, g2, g3, g4, g5, hKa, h9, h10, h11⟩

theorem append_core {A : Around} {s : Shared} {a : Addr} {o : Obj} {vs : List Value} {n : Nat} {v : Value} {Q : Value → Shared → Prop} (ho : s.heap.get? a = some o) (hc : o.cls = .type "list") (hdn : o.dict = none) (hd : o.data = .seq (List.toArray vs) n) (hz : vs.length ≤ 1000)
    (h : ∀ h' o' n', Heap.SameBut a s.heap h' → h'.get? a = some o' → o'.cls = .type "list" → o'.dict = none → o'.data = .seq (List.toArray (vs ++ [v])) n' → Q .none { s with heap := h' }) :
    wpAny (model prog w) A (call (.builtin "list.append") [.ref a, v]) Q E0 s := by
  refine wpAny_call_entry slot_list_append ⟨_, ho, hc⟩ entry_list_append ?_ (args_list_append _ _)
  show wpAny _ _ (updateSeq a (·.push v) >>= fun _ => ret .none) _ _ s
  refine wpAny_bind ?_
  obtain ⟨n', hd'⟩ := Obj.data_mapSeq hd (·.push v)
  refine wpAny_updateSeq ho hd (wpAny_pure ⟨.none, rfl, h _ (o.mapSeq (·.push v)) n' (Heap.SameBut.update ..) (Heap.get?_update_self _ ho (Obj.isFreed_of_seq hd')) ((Obj.cls_mapSeq ..).trans hc) ((dict_mapSeq ..).trans hdn) (by rw [hd']; simp)⟩) ?_ ?_
  · simp [sizeLine_eq]; omega
  · simp [sizeLine_eq]; omega

/-- found.append(e) -/
theorem Ex.append {x : Str} {np apos cpos pos : Pos} {e : Expr} {p : PV} {j : Nat} {l : List PV} (ho : σ.own = some (j, l)) (hx : c.ln[j]? = some x) (hz : l.length ≤ 1000) (h : Ev prog w H0 mg mb c σ e p)
    (he : starEach [e] c.env = (false, eval e c.env) :: starEach [] c.env) (hi : interactive c.env = false)
    (hm : eval (.Call (.Attribute (.Name x np) "append" apos) [e] [] cpos) c.env = (do
      let ov ← eval (.Name x np) c.env
      standAt apos.atName
      let (f, first) ← holding [ov] (getMethod ov "append" (do return (← importBound (.Name x np) c.env).getD true))
      callWith cpos f first (backTo cpos (starEach [e] c.env)) [])) :
    Ex prog w H0 mg mb c σ (.Expr (.Call (.Attribute (.Name x np) "append" apos) [e] [] cpos) pos) (.next { σ with own := some (j, l ++ [p]) }) := .mk fun K0 h0 K s S => by
  obtain ⟨a, o, vs, n, hev, h3, h4, h5, h6, h7, back⟩ := S.ownAt (prog := prog) (w := w) ho hx
  refine wpAny_Expr (MethodCall_ (pl := do return (← importBound (.Name x np) c.env).getD true) (hev _ _ K s.heap s.toks (Grow.refl S.sub) (getMethod_list_append h3 h4 h5 (callWith_method1 ?_ he))) hm) hi
  refine wpAny_items_cons (h.bind S fun v K₁ h₁ t₁ G₁ R₁ S₁ => wpAny_items_nil ?_) he
  refine append_core (s := { s with heap := h₁, toks := t₁ }) (G₁.keep _ _ h3) h4 h5 h6 (by rw [h7.length]; exact hz) fun h' o' n' hs g1 g2 g3 g4 => ?_
  exact ⟨rfl, K₁, h', t₁, rfl, back K₁ h₁ t₁ G₁ h' o' (vs ++ [v]) n' _ hs g1 g2 g3 g4 ((h7.mono G₁.up).append (.cons R₁ .nil))⟩

theorem setItem_core {A : Around} {s : Shared} {a : Addr} {o : Obj} {vs : List Value} {n : Nat} {k : Int} {t : Tok} {v : Value} {Q : Unit → Shared → Prop} (ho : s.heap.get? a = some o) (hc : o.cls = .type "list") (hdn : o.dict = none) (hd : o.data = .seq (List.toArray vs) n)
    (h0 : 0 ≤ k) (hk : k < vs.length) (hz : vs.length ≤ 1000)
    (h : ∀ h' o' n', Heap.SameBut a s.heap h' → h'.get? a = some o' → o'.cls = .type "list" → o'.dict = none → o'.data = .seq (List.toArray (vs.set k.toNat v)) n' → Q () { s with heap := h' }) :
    wpAny (model prog w) A (setItem (.ref a) (.int k t) v) Q E0 s := by
  have hl : s.heap.IsList a vs.toArray := ⟨o, ho, hc, n, hd⟩
  unfold setItem
  try with_reducible refine wpAny_holding ?_
  first | refine wpAny_bind (wpAny_pure ?_) | skip
  refine wpAny_bind (wpAny_sequenceKey hl.typeIs (by decide) ?_)
  refine wpAny_bind (wpAny_callSpecial?_slot (name := Str.ofString "__setitem__") hl.typeIs slot_list_setitem
    (wpAny_call_entry slot_list_setitem hl.typeIs entry_list_setitem ?_ (args_list_setitem _ _ _)))
  show wpAny _ _ (Builtin.List.listSubscript? (.int k t) >>= _) _ _ s
  refine wpAny_bind (wpAny_listSubscript_int (fitsIndex_of h0 (by omega)) ?_)
  obtain ⟨j, rfl⟩ := Int.eq_ofNat_of_zero_le h0
  have hj : j < vs.length := by omega
  have hx' : (List.toArray vs)[j]? = some vs[j] := by simp [hj]
  show wpAny _ _ ((seqItemAt a j >>= fun r => pure (r.map (j, ·))) >>= _) _ _ s
  refine wpAny_bind (wpAny_bind (wpAny_seqItemAt ho hd (wpAny_pure ?_)))
  rw [hx']
  show wpAny _ _ (setSeqItemAt a j v >>= _) _ _ s
  obtain ⟨n', hd'⟩ := Obj.data_mapSeq hd (·.setIfInBounds j v)
  refine wpAny_bind (wpAny_setSeqItemAt ho hd ?_)
  have fin := h (s.heap.update a (Obj.mapSeq (·.setIfInBounds j v))) _ n' (Heap.SameBut.update ..) (Heap.get?_update_self _ ho (Obj.isFreed_of_seq hd')) ((Obj.cls_mapSeq ..).trans hc) ((dict_mapSeq ..).trans hdn) (by rw [hd']; simp)
  first
    | exact wpAny_bind (wpAny_pure (wpAny_pure ⟨.none, rfl, wpAny_pure fin⟩))
    | exact wpAny_pure ⟨.none, rfl, wpAny_pure fin⟩

/-- found[i] = e -/
theorem Ex.setOwn {x : Str} {np spos pos : Pos} {i e : Expr} {p : PV} {k : Int} {j : Nat} {l : List PV} (ho : σ.own = some (j, l)) (hx : c.ln[j]? = some x) (hz : l.length ≤ 1000) (h : Ev prog w H0 mg mb c σ e p) (hi : Ev prog w H0 mg mb c σ i (.int k)) (hk : 0 ≤ k ∧ k < l.length)
    (hs : swapsWith e (some (.Subscript (.Name x np) i spos)) pos.line c.env = pure false) :
    Ex prog w H0 mg mb c σ (.Assign [.Subscript (.Name x np) i spos] e pos) (.next { σ with own := some (j, l.set k.toNat p) }) := .mk fun K0 h0 K s S => by
  obtain ⟨a, o, vs, n, hev, h3, h4, h5, h6, h7, back⟩ := S.ownAt (prog := prog) (w := w) ho hx
  refine wpAny_Assign_Subscript (h.bind S fun v K₁ h₁ t₁ G₁ R₁ S₁ => hev _ _ K₁ h₁ t₁ G₁ (hi.bind S₁ fun v₂ K₂ h₂ t₂ G₂ R₂ S₂ => ?_)) hs
  cases R₂
  have G := G₁.trans G₂
  refine setItem_core (s := { s with heap := h₂, toks := t₂ }) (G.keep _ _ h3) h4 h5 h6 hk.1 (by rw [h7.length]; omega) (by rw [h7.length]; exact hz) fun h' o' n' hs g1 g2 g3 g4 => ?_
  exact ⟨rfl, K₂, h', t₂, rfl, back K₂ h₂ t₂ G h' o' _ n' _ hs g1 g2 g3 g4 ((h7.mono G.up).set _ (R₁.mono G₂.up))⟩

/-! loops -/
inductive WLoop (prog : Program) (w : World) (H0 : Heap) (mg mb : Str → Option Value) (c : Fc) (test : Expr) (body : List Stmt) : Nat → Sg → Res → Prop
  | done {σ : Sg} : EvT prog w H0 mg mb c σ test false → WLoop prog w H0 mg mb c test body 0 σ (.next σ)
  | step {n : Nat} {σ σ₁ : Sg} {r : Res} : EvT prog w H0 mg mb c σ test true → Exs prog w H0 mg mb c σ body (.next σ₁) → WLoop prog w H0 mg mb c test body n σ₁ r → WLoop prog w H0 mg mb c test body (n + 1) σ r
  | ret {σ : Sg} {p : PV} : EvT prog w H0 mg mb c σ test true → Exs prog w H0 mg mb c σ body (.ret p) → WLoop prog w H0 mg mb c test body 0 σ (.ret p)

theorem Ex.while_ {test : Expr} {body : List Stmt} {pos : Pos} {n : Nat} {r : Res} (L : WLoop prog w H0 mg mb c test body n σ r) : Ex prog w H0 mg mb c σ (.While test body [] pos) r := .mk fun K0 h0 K s S => by
  refine wpAny_While (codeAny_whileLoop (fun k s' => ∃ σ' K' h' tk', s' = { s with heap := h', toks := tk' } ∧ WLoop prog w H0 mg mb c test body k σ' r ∧ St H0 mg mb c K0 h0 K' σ' s') ?_ n ⟨σ, K, s.heap, s.toks, rfl, L, S⟩)
  rintro k s' ⟨σ', K', h', tk', rfl, L', S'⟩
  cases L' with
  | done ht =>
    refine wpAny_mono (ht.run K0 h0 K' _ S') (fun b s₂ P => ?_) fun _ _ f => f.elim
    obtain ⟨rfl, K₂, h₂, t₂, rfl, G⟩ := P
    rw [if_neg Bool.false_ne_true]
    exact wpAny_execs_nil ⟨rfl, K₂, h₂, t₂, rfl, S'.grow G⟩
  | step ht hb L₁ =>
    refine wpAny_mono (ht.run K0 h0 K' _ S') (fun b s₂ P => ?_) fun _ _ f => f.elim
    obtain ⟨rfl, K₂, h₂, t₂, rfl, G⟩ := P
    rw [if_pos rfl]
    refine wpAny_mono (hb.run K0 h0 K₂ _ (S'.grow G)) (fun f s₃ P => ?_) fun _ _ f => f.elim
    obtain ⟨rfl, K₃, h₃, t₃, rfl, S₃⟩ := P
    exact ⟨_, Nat.lt_succ_self _, _, K₃, h₃, t₃, rfl, L₁, S₃⟩
  | ret ht hb =>
    refine wpAny_mono (ht.run K0 h0 K' _ S') (fun b s₂ P => ?_) fun _ _ f => f.elim
    obtain ⟨rfl, K₂, h₂, t₂, rfl, G⟩ := P
    rw [if_pos rfl]
    refine wpAny_mono (hb.run K0 h0 K₂ _ (S'.grow G)) (fun f s₃ P => ?_) fun _ _ f => f.elim
    obtain ⟨v, K₃, h₃, t₃, rfl, rfl, G₃, R⟩ := P
    exact ⟨v, K₃, h₃, t₃, rfl, rfl, G₃, R⟩

/-- the turns of a for: its name is local i -/
inductive Loop (prog : Program) (w : World) (H0 : Heap) (mg mb : Str → Option Value) (c : Fc) (B : Sg → PV → Sg → Prop) (body : List Stmt) : Sg → List PV → Res → Prop
  | nil {σ : Sg} : Loop prog w H0 mg mb c B body σ [] (.next σ)
  | cons {σ σ₀ σ₁ : Sg} {p : PV} {l : List PV} {r : Res} : B σ p σ₀ → Exs prog w H0 mg mb c σ₀ body (.next σ₁) → Loop prog w H0 mg mb c B body σ₁ l r → Loop prog w H0 mg mb c B body σ (p :: l) r
  | ret {σ σ₀ : Sg} {p q : PV} {l : List PV} : B σ p σ₀ → Exs prog w H0 mg mb c σ₀ body (.ret q) → Loop prog w H0 mg mb c B body σ (p :: l) (.ret q)

/-- a for over an iterator that keeps to its own object -/
theorem for_walks {I : Addr} {fp : List Addr} {n : Nat} {P : Nat → Value → Prop} {Stt : Nat → Heap → Prop} {x : Str} {px : Pos} {body : List Stmt} {l : List PV} {r : Res} {K0 h0 K : PM} {s : Shared} {h₁ : Heap} {t₁ : Nat}
    (W : Walks prog w c.A I fp [I] n P Stt) (hfp : ∀ b ∈ fp, b = I ∨ ∃ o, K b = some o) (S : St H0 mg mb c K0 h0 K σ s) (hI : s.heap.get? I = none) (hk : ∀ b o, s.heap.get? b = some o → h₁.get? b = some o) (hst : Stt 0 h₁) (hIs : ∀ i h, Stt i h → h.get? I ≠ none)
    (hn : l.length = n) (hP : ∀ i v p, P i v → l[i]? = some p → Rep K v p) (L : Loop prog w H0 mg mb c (fun σ p σ₀ => Bind1 c σ x p σ₀) body σ l r) :
    codeAny (model prog w) c.A (.forLoop (.Name x px) (.ref I) body [] c.env) (fun r' s' => match r' with | .ok f => PostS H0 mg mb c K0 h0 s r f s' | .error e => cameBackBy (model prog w) c.A c.env E0 e s') { s with heap := h₁, toks := t₁ } := by
  have fr : ∀ b ∈ [I], s.heap.get? b = none := fun b hb => by rw [List.mem_singleton.mp hb]; exact hI
  have G₁ : Grow K s.heap.get? K h₁.get? := Grow.keepOnly S.sub hk
  have S₁ := S.enter (t₁ := t₁) G₁ fr
  have hc := S.cellsOff fr
  have hKI : ∀ b ∈ [I], K b = none := fun b hb => by
    cases q : K b with
    | none => rfl
    | some o => have := S.sub _ _ q; rw [fr b hb] at this; cases this
  refine codeAny_forLoop (fun k s' => ∃ i σ' K' h' tk', s' = { s with heap := h', toks := tk' } ∧ k = n - i ∧ i ≤ n ∧ Loop prog w H0 mg mb c (fun σ p σ₀ => Bind1 c σ x p σ₀) body σ' (l.drop i) r ∧ Stt i h' ∧
      St H0 mg mb c K (gd h0 [I] h'.get?) K' σ' s') ?_ n ⟨0, σ, K, h₁, t₁, rfl, rfl, Nat.zero_le _, by simpa using L, hst, S₁⟩
  rintro k s' ⟨i, σ', K', h', tk', rfl, rfl, hi, L', hst', S'⟩
  have hI' := hIs i h' hst'
  have hw' : ∀ b ∈ [I], K b = none ∧ Heap.get? h' b ≠ none := fun b hb => ⟨hKI b hb, by rw [List.mem_singleton.mp hb]; exact hI'⟩
  have Kup : ∀ b o, K b = some o → K' b = some o := let ⟨_, B, _⟩ := S'; B.grow.up
  by_cases hlt : i < n
  · have hli : l.drop i = l[i] :: l.drop (i + 1) := List.drop_eq_getElem_cons (by omega)
    rw [hli] at L'
    refine W.item i { s with heap := h', toks := tk' } _ _ hlt hst' fun v h₂ t₂ hv hst₂ hk₂ => ?_
    have hR : Rep K' v l[i] := (hP i v l[i] hv (by simp [hn, hlt])).mono Kup
    have hI₂ := hIs _ _ hst₂
    have hI₂' : ∀ b ∈ [I], h₂.get? b ≠ none := fun b hb => by rw [List.mem_singleton.mp hb]; exact hI₂
    have S₂ := S'.step (t₁ := t₂) (h₁ := h₂) hw' hc (fun b o hb e => hk₂ b o hb e)
    have fpSame : ∀ {K₄ : PM} {σ₄ : Sg} {h₄ : Heap} {t₄ : Nat}, St H0 mg mb c K (gd h0 [I] h₂.get?) K₄ σ₄ { s with heap := h₄, toks := t₄ } → Stt (i + 1) h₄ ∧ St H0 mg mb c K (gd h0 [I] h₄.get?) K₄ σ₄ { s with heap := h₄, toks := t₄ } := by
      intro K₄ σ₄ h₄ t₄ S₄
      obtain ⟨e1, e2⟩ := S₄.same hI₂'
      have S₄' := S₄
      rw [e1] at S₄'
      refine ⟨W.frame _ _ _ hst₂ fun b hb o e => ?_, S₄'⟩
      rcases hfp b hb with rfl | ⟨o', ho'⟩
      · exact (e2 _ (.head _)).trans e
      · have h2 : h₂.get? b = some o' := S₂.sub b o' (Kup b o' ho')
        rw [h2] at e; cases e
        have Kup4 : ∀ b o, K b = some o → K₄ b = some o := let ⟨_, B, _⟩ := S₄; B.grow.up
        exact S₄.sub b o (Kup4 b o ho')
    cases L' with
    | cons hB hb L₁ =>
      refine wpAny_assign_Name (wpAny_mono (hB.run S₂ hR (Q := fun _ s' => ∃ h₃ t₃, s' = { s with heap := h₃, toks := t₃ } ∧ St H0 mg mb c K (gd h0 [I] h₂.get?) K' _ { s with heap := h₃, toks := t₃ }) fun h₃ t₃ S₃ => ⟨h₃, t₃, rfl, S₃⟩) (fun _ s' q => ?_) fun _ _ f => f.elim)
      obtain ⟨h₃, t₃, rfl, S₃⟩ := q
      refine wpAny_mono (hb.run _ _ _ _ S₃) (fun f s₄ q => ?_) fun _ _ f => f.elim
      obtain ⟨rfl, K₄, h₄, t₄, rfl, S₄⟩ := q
      obtain ⟨st₄, S₅⟩ := fpSame S₄
      exact ⟨n - (i + 1), by omega, i + 1, _, K₄, h₄, t₄, rfl, rfl, hlt, L₁, st₄, S₅⟩
    | ret hB hb =>
      refine wpAny_assign_Name (wpAny_mono (hB.run S₂ hR (Q := fun _ s' => ∃ h₃ t₃, s' = { s with heap := h₃, toks := t₃ } ∧ St H0 mg mb c K (gd h0 [I] h₂.get?) K' _ { s with heap := h₃, toks := t₃ }) fun h₃ t₃ S₃ => ⟨h₃, t₃, rfl, S₃⟩) (fun _ s' q => ?_) fun _ _ f => f.elim)
      obtain ⟨h₃, t₃, rfl, S₃⟩ := q
      refine wpAny_mono (hb.run _ _ _ _ S₃) (fun f s₄ q => ?_) fun _ _ f => f.elim
      obtain ⟨v', K₄, h₄, t₄, rfl, rfl, G₄, R₄⟩ := q
      rw [G₄.same hI₂'] at G₄
      obtain ⟨m, B, _⟩ := S
      exact ⟨v', K₄, h₄, t₄, rfl, rfl, Grow.exit B.grow G₁ fr G₄, R₄⟩
  · have hin : i = n := by omega
    subst hin
    have hnil : l.drop i = [] := List.drop_eq_nil_iff.mpr (by omega)
    rw [hnil] at L'
    cases L' with
    | nil =>
      refine W.done { s with heap := h', toks := tk' } _ _ hst' fun h₂ t₂ hk₂ => wpAny_execs_nil ?_
      have S₂ := S'.step (t₁ := t₂) (h₁ := h₂) hw' hc (fun b o hb e => hk₂ b o hb e)
      exact ⟨rfl, K', h₂, t₂, rfl, St.exit S G₁ fr S₂⟩

/-- for x in a list -/
theorem Ex.forList {x : Str} {px pos : Pos} {iter : Expr} {body : List Stmt} {l : List PV} {r : Res} (h : Ev prog w H0 mg mb c σ iter (.list l)) (L : Loop prog w H0 mg mb c (fun σ p σ₀ => Bind1 c σ x p σ₀) body σ l r)
    (hs : ∀ v, foldedSetIterable iter c.env v = pure v) : Ex prog w H0 mg mb c σ (.For (.Name x px) iter body [] pos) r := .mk fun K0 h0 K s S => by
  refine wpAny_For (h.bind S fun v K₁ h₁ t₁ G₁ R₁ S₁ => ?_) hs
  cases R₁ with
  | list g1 g2 g3 g4 =>
    rename_i a o vs n
    have hl : Heap.IsList (Shared.heap { s with heap := h₁, toks := t₁ }) a vs.toArray := ⟨o, S₁.sub _ _ g1, g2, n, g3⟩
    have hne : a ≠ h₁.objs.size := fun e => by
      have := S₁.sub _ _ g1
      rw [e, show Shared.heap { s with heap := h₁, toks := t₁ } = h₁ from rfl, get?_size_none] at this
      cases this
    refine wpAny_pyIter_list hl (codeAny_mono (for_walks (t₁ := t₁) (Walks.list S.wf.room.handled h₁.objs.size a hne vs.toArray) (fun b hb => ?_) S₁ (get?_size_none _) (fun b o e => Heap.get?_push_of_some _ e) ⟨⟨_, Heap.get?_push_size _ rfl, rfl, rfl⟩, hl.push _⟩ (fun i h st => ?_) ?_ (fun i v p hv hp => ?_) L) fun r' s' q => ?_)
    · rcases List.mem_cons.mp hb with rfl | hb
      · exact .inl rfl
      · rw [List.mem_singleton.mp hb]; exact .inr ⟨o, g1⟩
    · obtain ⟨⟨o', ho', _⟩, _⟩ := st
      rw [ho']; exact nofun
    · simp [g4.length]
    · obtain ⟨v', hv', r'⟩ := g4.get i p hp
      have : vs[i]? = some v := by simpa using hv
      rw [this] at hv'; cases hv'
      exact r'
    · cases r' with
      | ok f => exact PostS.after ⟨h₁, t₁, rfl⟩ q
      | error e => exact q

/-- for x in range(..) -/
theorem Ex.forRange {x : Str} {px pos : Pos} {iter : Expr} {body : List Stmt} {a b d : Int} {n : Nat} {r : Res} (h : Ev prog w H0 mg mb c σ iter (.rng a b d)) (hsm : Builtin.Range.small a b d = true) (hn : Builtin.Range.rangeSize a b d = (n : Int))
    (L : Loop prog w H0 mg mb c (fun σ p σ₀ => Bind1 c σ x p σ₀) body σ ((List.range n).map fun (i : Nat) => PV.int (a + (i : Int) * d)) r)
    (hs : ∀ v, foldedSetIterable iter c.env v = pure v) : Ex prog w H0 mg mb c σ (.For (.Name x px) iter body [] pos) r := .mk fun K0 h0 K s S => by
  refine wpAny_For (h.bind S fun v K₁ h₁ t₁ G₁ R₁ S₁ => ?_) hs
  cases R₁ with
  | rng g1 =>
    rename_i A t u q
    have hr : IsRange (Shared.heap { s with heap := h₁, toks := t₁ }) A a b d t u q := S₁.sub _ _ g1
    refine wpAny_pyIter_range hr hsm (codeAny_mono (for_walks (t₁ := t₁) (Walks.range S.wf.room.handled h₁.objs.size a d n) (fun b hb => ?_) S₁ (get?_size_none _) (fun b o e => Heap.get?_push_of_some _ e) ?_ (fun i h st => ?_) ?_ (fun i v p hv hp => ?_) L) fun r' s' q => ?_)
    · exact .inl (List.mem_singleton.mp hb)
    · show IsRangeIter _ _ _ _ _
      rw [hn]
      simpa using Heap.get?_push_size _ rfl
    · have st' : IsRangeIter h h₁.objs.size _ _ _ := st
      rw [st']; exact nofun
    · simp
    · obtain ⟨t', rfl⟩ := hv
      rw [List.getElem?_map] at hp
      cases hq : (List.range n)[i]? with
      | none => rw [hq] at hp; cases hp
      | some z =>
        rw [hq] at hp
        have : z = i := by
          have := List.getElem?_eq_some_iff.mp hq
          obtain ⟨h1, h2⟩ := this
          simpa using h2.symm
        subst this
        cases hp
        exact .int _ _
    · cases r' with
      | ok f => exact PostS.after ⟨h₁, t₁, rfl⟩ q
      | error e => exact q

/-- for x in a tuple -/
theorem Ex.forTuple {x : Str} {px pos : Pos} {iter : Expr} {body : List Stmt} {l : List PV} {r : Res} (h : Ev prog w H0 mg mb c σ iter (.tup l)) (L : Loop prog w H0 mg mb c (fun σ p σ₀ => Bind1 c σ x p σ₀) body σ l r)
    (hs : ∀ v, foldedSetIterable iter c.env v = pure v) : Ex prog w H0 mg mb c σ (.For (.Name x px) iter body [] pos) r := .mk fun K0 h0 K s S => by
  refine wpAny_For (h.bind S fun v K₁ h₁ t₁ G₁ R₁ S₁ => ?_) hs
  cases R₁ with
  | tup g1 g2 g3 g4 =>
    rename_i a o vs n
    have hl : IsTup (Shared.heap { s with heap := h₁, toks := t₁ }) a vs.toArray := ⟨o, S₁.sub _ _ g1, g2, n, g3⟩
    have hne : a ≠ h₁.objs.size := fun e => by
      have := S₁.sub _ _ g1
      rw [e, show Shared.heap { s with heap := h₁, toks := t₁ } = h₁ from rfl, get?_size_none] at this
      cases this
    refine iter_tuple hl (codeAny_mono (for_walks (t₁ := t₁) (Walks.tuple S.wf.room.handled h₁.objs.size a hne vs.toArray) (fun b hb => ?_) S₁ (get?_size_none _) (fun b o e => Heap.get?_push_of_some _ e) ⟨⟨_, Heap.get?_push_size _ rfl, rfl, rfl⟩, hl.push _⟩ (fun i h st => ?_) ?_ (fun i v p hv hp => ?_) L) fun r' s' q => ?_)
    · rcases List.mem_cons.mp hb with rfl | hb
      · exact .inl rfl
      · rw [List.mem_singleton.mp hb]; exact .inr ⟨o, g1⟩
    · obtain ⟨⟨o', ho', _⟩, _⟩ := st
      rw [ho']; exact nofun
    · simp [g4.length]
    · obtain ⟨v', hv', r'⟩ := g4.get i p hp
      have : vs[i]? = some v := by simpa using hv
      rw [this] at hv'; cases hv'
      exact r'
    · cases r' with
      | ok f => exact PostS.after ⟨h₁, t₁, rfl⟩ q
      | error e => exact q
end
end Mine

namespace Mine
section
variable {prog : Program} {w : World} {H0 : Heap} {mg mb : Str → Option Value} {c : Fc} {σ : Sg}

/-- a call of a value upon values -/
structure CallOk (prog : Program) (w : World) (H0 : Heap) (A : Around) (f : Value) (l : List PV) (p : PV) : Prop where
  run : ∀ (K : PM) (s : Shared) (vs : List Value), (∀ b o, H0.get? b = some o → K b = some o) → (∀ b o, K b = some o → s.heap.get? b = some o) → Reps K vs l → wpAny (model prog w) A (call f vs) (PostE K s p) E0 s

theorem Ev.callB {x : Str} {np pos : Pos} {id : String} {e : Expr} {es : List Expr} {l : List PV} {p : PV} (hf : Ev prog w H0 mg mb c σ (.Name x np) (.val (.builtin id))) (ha : EvL prog w H0 mg mb c σ pos (e :: es) l) (hc : CallOk prog w H0 c.A (.builtin id) l p)
    (he : starEach (e :: es) c.env = (false, eval e c.env) :: starEach es c.env) (hp : (backTo pos (starEach es c.env)).any (·.1) = false) : Ev prog w H0 mg mb c σ (.Call (.Name x np) (e :: es) [] pos) p := .mk fun K0 h0 K s S => by
  refine Call_Name rfl (hf.bind S fun v K₁ h₁ t₁ G₁ R₁ S₁ => ?_)
  cases R₁
  refine callWith_builtin1 (ha.bind S₁ fun vs K₂ h₂ t₂ G₂ R₂ S₂ => ?_) he hp
  exact wpAny_mono (hc.run K₂ _ vs S₂.base S₂.sub R₂) (fun _ _ P => PostE.after G₁ (PostE.after G₂ P)) fun _ _ f => f
theorem Ev.callT {x : Str} {np pos : Pos} {id : String} {e : Expr} {es : List Expr} {l : List PV} {p : PV} (hf : Ev prog w H0 mg mb c σ (.Name x np) (.val (.type id))) (ha : EvL prog w H0 mg mb c σ pos (e :: es) l) (hc : CallOk prog w H0 c.A (.type id) l p)
    (he : starEach (e :: es) c.env = (false, eval e c.env) :: starEach es c.env) (hp : (backTo pos (starEach es c.env)).any (·.1) = false) : Ev prog w H0 mg mb c σ (.Call (.Name x np) (e :: es) [] pos) p := .mk fun K0 h0 K s S => by
  refine Call_Name rfl (hf.bind S fun v K₁ h₁ t₁ G₁ R₁ S₁ => ?_)
  cases R₁
  refine callWith_type1 (ha.bind S₁ fun vs K₂ h₂ t₂ G₂ R₂ S₂ => ?_) he hp
  exact wpAny_mono (hc.run K₂ _ vs S₂.base S₂.sub R₂) (fun _ _ P => PostE.after G₁ (PostE.after G₂ P)) fun _ _ f => f
/-- a def, by its name or by a name that holds it -/
theorem Ev.callF {x : Str} {np pos : Pos} {a : Addr} {o : Obj} {fd : FuncData} {e : Expr} {es : List Expr} {l : List PV} {p : PV} (hf : Ev prog w H0 mg mb c σ (.Name x np) (.val (.ref a))) (ha : EvL prog w H0 mg mb c σ pos (e :: es) l) (hc : CallOk prog w H0 c.A (.ref a) l p)
    (ho : H0.get? a = some o) (hd : o.data = .func fd)
    (he : starEach (e :: es) c.env = (false, eval e c.env) :: starEach es c.env) : Ev prog w H0 mg mb c σ (.Call (.Name x np) (e :: es) [] pos) p := .mk fun K0 h0 K s S => by
  refine Call_Name rfl (hf.bind S fun v K₁ h₁ t₁ G₁ R₁ S₁ => ?_)
  cases R₁
  refine callWith_def hd (ha.bind S₁ fun vs K₂ h₂ t₂ G₂ R₂ S₂ => ⟨S₂.sub _ _ (S₂.base _ _ ho), ?_⟩) he
  exact wpAny_mono (hc.run K₂ _ vs S₂.base S₂.sub R₂) (fun _ _ P => PostE.after G₁ (PostE.after G₂ P)) fun _ _ f => f

/-! built-ins -/
theorem ok_len {A : Around} {l : List PV} (hz : l.length ≤ 1000000) : CallOk prog w H0 A (.builtin "len") [.list l] (.int l.length) := .mk fun K s vs hB hS R => by
  cases R with
  | cons r rs =>
    cases rs
    cases r with
    | list g1 g2 g3 g4 =>
      rename_i a o us n
      have hl : s.heap.IsList a us.toArray := ⟨o, hS _ _ g1, g2, n, g3⟩
      have hlen := g4.length
      refine call_len_list hl (by simp [hlen]; omega) ?_
      have e : ((us.toArray.size : Nat) : Int) = (l.length : Int) := by simp [hlen]
      rw [e]
      exact PostE.tok (t := s.toks + 1 + 1) hS (.int _ _)
theorem ok_abs {A : Around} {a : Int} : CallOk prog w H0 A (.builtin "abs") [.int a] (.int a.natAbs) := .mk fun K s vs hB hS R => by
  cases R with
  | cons r rs =>
    cases rs
    cases r
    refine call_abs_int fun u tk => ?_
    have e : (if a < 0 then -a else a) = (a.natAbs : Int) := by split <;> omega
    rw [e]
    exact PostE.tok (t := tk) hS (.int _ _)
theorem ok_int {A : Around} {a : Int} : CallOk prog w H0 A (.type "int") [.int a] (.int a) := .mk fun K s vs hB hS R => by
  cases R with
  | cons r rs =>
    cases rs
    cases r
    exact call_int_int (PostE.same hS (.int _ _))
theorem PostE.rngNew {K : PM} {s : Shared} {a b d : Int} {t u q tk : Tok} (S : ∀ b o, K b = some o → s.heap.get? b = some o) :
    PostE K s (.rng a b d) (.ref s.heap.objs.size) { s with heap := s.heap.push { cls := .type "range", data := .fields #[.int a t, .int b u, .int d q] }, toks := tk } := by
  have G := Grow.push S ({ cls := .type "range", data := .fields #[.int a t, .int b u, .int d q] } : Obj) rfl
  exact ⟨_, _, tk, rfl, G, .rng (if_pos rfl)⟩
theorem ok_range1 {A : Around} {n : Int} : CallOk prog w H0 A (.type "range") [.int n] (.rng 0 n 1) := .mk fun K s vs hB hS R => by
  cases R with
  | cons r rs =>
    cases rs
    cases r
    exact call_range_1 (PostE.rngNew hS)
theorem ok_range2 {A : Around} {a b : Int} : CallOk prog w H0 A (.type "range") [.int a, .int b] (.rng a b 1) := .mk fun K s vs hB hS R => by
  cases R with
  | cons r rs =>
    cases rs with
    | cons r' rs' =>
      cases rs'
      cases r; cases r'
      exact call_range_2 (PostE.rngNew hS)
theorem ok_range3 {A : Around} {a b d : Int} (hd : d ≠ 0 ∧ d.natAbs < 2 ^ 64) : CallOk prog w H0 A (.type "range") [.int a, .int b, .int d] (.rng a b d) := .mk fun K s vs hB hS R => by
  cases R with
  | cons r rs =>
    cases rs with
    | cons r' rs' =>
      cases rs' with
      | cons r'' rs'' =>
        cases rs''
        cases r; cases r'; cases r''
        exact call_range_3 hd.1 (PostE.rngNew hS) (.inl (noPylong hd.2))

/-! contracts of defs -/
def Con (prog : Program) (w : World) (H0 : Heap) (mg : Str → Option Value) (k : Nat) (n : Str) (l : List PV) (p : PV) : Prop := ∀ A, Room A k → CallOk prog w H0 A (.ref (fa mg n)) l p

theorem zip_sub : ∀ (ns : List Str) (vs : List Value), ((ns.zip vs).map (·.1)).Sublist ns
  | [], _ => by simp
  | _ :: _, [] => by simp
  | n :: ns, v :: vs => by simpa using (zip_sub ns vs)

theorem lookup_zip {ns : List Str} (hnd : ns.Nodup) : ∀ {vs : List Value} (i : Nat) (x : Str) (v : Value), ns[i]? = some x → vs[i]? = some v → (ns.zip vs).reverse.lookup x = some v := by
  have mem_lookup : ∀ {l : List (Str × Value)} {x : Str} {v : Value}, (l.map (·.1)).Nodup → (x, v) ∈ l → l.lookup x = some v := by
    intro l
    induction l with
    | nil => intro x v _ h; cases h
    | cons q r ih =>
      intro x v hn h
      obtain ⟨y, u⟩ := q
      rw [List.map_cons, List.nodup_cons] at hn
      rw [List.lookup_cons]
      rcases List.mem_cons.mp h with e | h'
      · cases e; simp
      · have : x ≠ y := by
          rintro rfl
          exact hn.1 (List.mem_map.mpr ⟨_, h', rfl⟩)
        have hb : (x == y) = false := beq_eq_false_iff_ne.mpr this
        rw [hb]
        exact ih hn.2 h'
  intro vs i x v h1 h2
  refine mem_lookup ?_ ?_
  · rw [List.map_reverse]
    refine (List.reverse_perm _).nodup_iff.mpr ?_
    refine List.Nodup.sublist ?_ hnd
    exact zip_sub ns vs
  · rw [List.mem_reverse]
    refine List.mem_iff_getElem?.mpr ⟨i, ?_⟩
    rw [List.getElem?_zip_eq_some]
    exact ⟨h1, h2⟩

structure FnOk (d : DefItem) (pn ln : List Str) (gl : List (Str × Value)) : Prop where
  dflt : d.params.defaults = []
  kind : d.scope.kind = .function
  co : d.scope.isCoroutine = false
  gen : d.scope.isGenerator = false
  cells : ∀ x ∈ d.scope.names, x.2 ≠ .cell
  bind : ∀ (pm cd doc : Value) (vs : List Value), vs.length = pn.length → bindArgs (docDef d.name d.params d.body d.scope pm cd doc) ⟨vs, []⟩ = pure (pn.zip vs)
  lk : ∀ x ∈ ln, d.scope.names.lookup x = some .local ∧ (x == ("__debug__" : Str)) = false
  nd : ln.Nodup
  gk : ∀ p ∈ gl, d.scope.names.lookup p.1 = some .globalImplicit ∧ (p.1 == ("__debug__" : Str)) = false

theorem Con.intro {d : DefItem} {N : Nat} (G : Glo H0 mg mb) (hm : d.Made N mg H0) {rest : List Str} {pn : List Str} {gl : List (Str × Value)} (F : FnOk d pn (pn ++ rest) gl) (hg : ∀ p ∈ gl, GlRes mg p) {k : Nat} {l : List PV} {p : PV} (hl : pn.length = l.length)
    (h : ∀ A L a cd, Room A k → Exs prog w H0 mg mb ⟨A, envOf d.name d.scope L a cd, k, pn ++ rest, [], gl, true⟩ ⟨l.map some ++ List.replicate rest.length none, [], none⟩ d.body (.ret p)) : Con prog w H0 mg (k + 1) d.name l p := by
  intro A hA
  refine .mk fun K s vs hB hS R => ?_
  obtain ⟨a, c', o, pm, doc, _, _, h3, h4, h5, h6⟩ := hm.plain F.dflt
  have hfa : fa mg d.name = a := by unfold fa; rw [h3]
  rw [hfa]
  have up : ∀ b o, H0.get? b = some o → s.heap.get? b = some o := fun b o e => hS b o (hB b o e)
  have hlen : vs.length = pn.length := by rw [R.length, hl]
  refine wpAny_call (codeAny_call_def (fd := docDef d.name d.params d.body d.scope pm (.ref c') doc) (body := d.body) (binds := pn.zip vs) (by have := hA.depth; unfold recursionLimit; omega) (up _ _ h4) h5 (G.nolimit.keeps up) (h6.keeps up) rfl
    (BindsTo.of_eq (F.bind _ _ _ _ hlen)) F.cells (fun x hx => ?_) (fun h₀ hns hk => ?_) F.co F.gen F.kind)
  · obtain ⟨i, hi⟩ := List.mem_iff_getElem?.mp hx
    rw [List.getElem?_zip_eq_some] at hi
    exact (F.lk x.1 (List.mem_append_left _ (List.mem_of_getElem? hi.1))).1
  · have Hk := h (A.deeper (callEnv (docDef d.name d.params d.body d.scope pm (.ref c') doc) s.heap.objs.size a)) s.heap.objs.size a (.ref c') ⟨hA.handled, by show A.depth + 1 + k ≤ 900; have := hA.depth; omega, by show A.units + 3 + 8 * k ≤ 900; have := hA.units; omega⟩
    have G₁ : Grow K s.heap.get? K h₀.get? := Grow.keepOnly hS hk
    have S : St H0 mg mb ⟨A.deeper (callEnv (docDef d.name d.params d.body d.scope pm (.ref c') doc) s.heap.objs.size a), envOf d.name d.scope s.heap.objs.size a (.ref c'), k, pn ++ rest, [], gl, true⟩ K s.heap.get? K ⟨l.map some ++ List.replicate rest.length none, [], none⟩
        { s with heap := h₀, toks := s.toks + (pn.zip vs).length } := by
      have hL : s.heap.get? s.heap.objs.size = none := get?_size_none _
      refine ⟨_, ⟨⟨G, F.kind, F.lk, F.nd, by simp, .nil, by simp, fun q hq => ⟨(F.gk q hq).1, (F.gk q hq).2, hg q hq⟩, rfl, rfl, ⟨hA.handled, by show A.depth + 1 + k ≤ 900; have := hA.depth; omega, by show A.units + 3 + 8 * k ≤ 900; have := hA.units; omega⟩⟩, hns, hB, G₁, hL, ?_, by simp, by simp⟩, fun i x q hx hq => ?_, by simp, fun i l' e => nomatch e⟩
      · cases z : K s.heap.objs.size with
        | none => exact z
        | some o' => have := hS _ _ z; rw [hL] at this; cases this
      · have hi : i < l.length := by
          rcases Nat.lt_or_ge i l.length with hi | hi
          · exact hi
          · exfalso
            simp only at hq
            rw [List.getElem?_append_right (by simpa using hi)] at hq
            have := List.mem_of_getElem? hq
            rw [List.mem_replicate] at this
            exact nomatch this.2
        simp only at hx hq
        rw [List.getElem?_append_left (by omega)] at hx
        rw [List.getElem?_append_left (by simpa using hi), List.getElem?_map] at hq
        cases hq' : l[i]? with
        | none => rw [hq'] at hq; cases hq
        | some q' =>
          rw [hq'] at hq
          cases hq
          obtain ⟨v, hv, r⟩ := R.get i q hq'
          exact ⟨v, lookup_zip (List.Nodup.sublist (List.sublist_append_left _ _) F.nd) i x v hx hv, r⟩
    refine wpAny_mono (Hk.run K s.heap.get? K _ S) (fun f s' q => ?_) fun _ _ f => f.elim
    obtain ⟨v, K', h', tk', rfl, rfl, G', R'⟩ := q
    exact ⟨K', h', tk', rfl, G', R'⟩
end
end Mine

namespace Mine

inductive At {α : Type} : List α → Nat → α → Prop
  | z {x : α} {l : List α} : At (x :: l) 0 x
  | s {x y : α} {l : List α} {i : Nat} : At l i x → At (y :: l) (i + 1) x
theorem At.get {α : Type} : ∀ {l : List α} {i : Nat} {x : α}, At l i x → l[i]? = some x
  | _, _, _, .z => rfl
  | _, _, _, .s h => by simpa using h.get
inductive Var : List Str → List (Option PV) → Str → PV → Prop
  | z {x : Str} {ns : List Str} {p : PV} {vs : List (Option PV)} : Var (x :: ns) (some p :: vs) x p
  | s {x y : Str} {ns : List Str} {p : PV} {q : Option PV} {vs : List (Option PV)} : Var ns vs x p → Var (y :: ns) (q :: vs) x p
theorem Var.get : ∀ {ns : List Str} {vs : List (Option PV)} {x : Str} {p : PV}, Var ns vs x p → ∃ i : Nat, ns[i]? = some x ∧ vs[i]? = some (some p)
  | _, _, _, _, .z => ⟨0, rfl, rfl⟩
  | _, _, _, _, .s h => let ⟨i, h1, h2⟩ := h.get; ⟨i + 1, by simpa using h1, by simpa using h2⟩
inductive Upd2 : List Str → List (Option PV) → Str → Option PV → Nat → List (Option PV) → Prop
  | z {x : Str} {ns : List Str} {q p : Option PV} {vs : List (Option PV)} : Upd2 (x :: ns) (q :: vs) x p 0 (p :: vs)
  | s {x y : Str} {ns : List Str} {q p : Option PV} {vs vs' : List (Option PV)} {i : Nat} : Upd2 ns vs x p i vs' → Upd2 (y :: ns) (q :: vs) x p (i + 1) (q :: vs')
theorem Upd2.get : ∀ {ns : List Str} {vs : List (Option PV)} {x : Str} {p : Option PV} {i : Nat} {vs' : List (Option PV)}, Upd2 ns vs x p i vs' → ns[i]? = some x ∧ vs' = vs.set i p ∧ i < vs.length
  | _, _, _, _, _, _, .z => ⟨rfl, rfl, by simp⟩
  | _, _, _, _, _, _, .s h => let ⟨h1, h2, h3⟩ := h.get; ⟨by simpa using h1, by rw [h2]; rfl, by simpa using h3⟩
def OwnNe (o : Option (Nat × List PV)) (i : Nat) : Prop := match o with
  | none => True
  | some (j, _) => j ≠ i
theorem OwnNe.ne {o : Option (Nat × List PV)} {i : Nat} (h : OwnNe o i) : ∀ j l, o = some (j, l) → j ≠ i := fun j l e => by subst e; exact h

section
variable {prog : Program} {w : World} {H0 : Heap} {mg mb : Str → Option Value} {c : Fc} {σ : Sg}

theorem Ev.loc {x : Str} {pos : Pos} {p : PV} (h : Var c.ln σ.v x p) : Ev prog w H0 mg mb c σ (.Name x pos) p := let ⟨i, h1, h2⟩ := h.get; Ev.local i h1 h2
theorem Ev.cl {x : Str} {pos : Pos} {p : PV} (h : Var c.cn σ.cel x p) : Ev prog w H0 mg mb c σ (.Name x pos) p := let ⟨i, h1, h2⟩ := h.get; Ev.cell i h1 h2
theorem Ev.gl {x : Str} {pos : Pos} {v : Value} {i : Nat} (h : At c.gl i (x, v)) : Ev prog w H0 mg mb c σ (.Name x pos) (.val v) := Ev.glob i h.get

theorem Ex.asg {x : Str} {px pos : Pos} {e : Expr} {p : PV} {i : Nat} {v' : List (Option PV)} (h : Ev prog w H0 mg mb c σ e p) (hu : Upd2 c.ln σ.v x (some p) i v') (ho : OwnNe σ.own i) (hs : swapsWith e (some (.Name x px)) pos.line c.env = pure false) :
    Ex prog w H0 mg mb c σ (.Assign [.Name x px] e pos) (.next ⟨v', σ.cel, σ.own⟩) := by
  obtain ⟨h1, rfl, h3⟩ := hu.get
  exact Ex.assign i h h1 ho.ne hs
theorem Ex.asgOwn {x : Str} {px pos : Pos} {e : Expr} {l : List PV} {i : Nat} {v' : List (Option PV)} (h : EvO prog w H0 mg mb c σ e l) (hu : Upd2 c.ln σ.v x none i v') (hs : swapsWith e (some (.Name x px)) pos.line c.env = pure false) :
    Ex prog w H0 mg mb c σ (.Assign [.Name x px] e pos) (.next ⟨v', σ.cel, some (i, l)⟩) := by
  obtain ⟨h1, rfl, h3⟩ := hu.get
  exact Ex.assignOwn i h h1 h3 hs

section
variable {x : Str} {np pos : Pos} {e : Expr} {a b : Int} {i : Nat} {v' : List (Option PV)}
theorem aug_pre {z : PV} (hx : Var c.ln σ.v x z) (hu : Upd2 c.ln σ.v x p i v') (hn : c.ln.Nodup) : σ.v[i]? = some (some z) := by
  obtain ⟨j, h1, h2⟩ := hx.get
  obtain ⟨h3, _, _⟩ := hu.get
  rw [nodup_uniq hn h3 h1]; exact h2
theorem Ex.nodup {st : Stmt} {r : Res} (h : c.ln.Nodup → Ex prog w H0 mg mb c σ st r) : Ex prog w H0 mg mb c σ st r := .mk fun K0 h0 K s S => (h S.wf.nd).run K0 h0 K s S
theorem Ex.aAdd (hx : Var c.ln σ.v x (.int a)) (h : Ev prog w H0 mg mb c σ e (.int b)) (hu : Upd2 c.ln σ.v x (some (.int (a + b))) i v') (ho : OwnNe σ.own i) : Ex prog w H0 mg mb c σ (.AugAssign (.Name x np) .Add e pos) (.next ⟨v', σ.cel, σ.own⟩) :=
  Ex.nodup fun hn => by obtain ⟨h1, e1, h3⟩ := hu.get; have hv := aug_pre hx hu hn; subst e1; exact Ex.augAdd i h1 hv ho.ne h
theorem Ex.aSub (hx : Var c.ln σ.v x (.int a)) (h : Ev prog w H0 mg mb c σ e (.int b)) (hu : Upd2 c.ln σ.v x (some (.int (a - b))) i v') (ho : OwnNe σ.own i) : Ex prog w H0 mg mb c σ (.AugAssign (.Name x np) .Sub e pos) (.next ⟨v', σ.cel, σ.own⟩) :=
  Ex.nodup fun hn => by obtain ⟨h1, e1, h3⟩ := hu.get; have hv := aug_pre hx hu hn; subst e1; exact Ex.augSub i h1 hv ho.ne h
theorem Ex.aMod (hx : Var c.ln σ.v x (.int a)) (h : Ev prog w H0 mg mb c σ e (.int b)) (hu : Upd2 c.ln σ.v x (some (.int (a.fmod b))) i v') (ho : OwnNe σ.own i) (hb : b ≠ 0) : Ex prog w H0 mg mb c σ (.AugAssign (.Name x np) .Mod e pos) (.next ⟨v', σ.cel, σ.own⟩) :=
  Ex.nodup fun hn => by obtain ⟨h1, e1, h3⟩ := hu.get; have hv := aug_pre hx hu hn; subst e1; exact Ex.augMod i h1 hv ho.ne h hb
theorem Ex.aShr (hx : Var c.ln σ.v x (.int a)) (h : Ev prog w H0 mg mb c σ e (.int b)) (hu : Upd2 c.ln σ.v x (some (.int (a.fdiv (2 ^ b.toNat)))) i v') (ho : OwnNe σ.own i) (hb : 0 ≤ b) : Ex prog w H0 mg mb c σ (.AugAssign (.Name x np) .RShift e pos) (.next ⟨v', σ.cel, σ.own⟩) :=
  Ex.nodup fun hn => by obtain ⟨h1, e1, h3⟩ := hu.get; have hv := aug_pre hx hu hn; subst e1; exact Ex.augShr i h1 hv ho.ne h hb
end

/-- an item, by what the value is -/
inductive Item : PV → Int → PV → Prop
  | list {l : List PV} {k : Int} {p : PV} : 0 ≤ k ∧ k < 2 ^ 62 → l[k.toNat]? = some p → Item (.list l) k p
  | neg {l : List PV} {k : Int} {p : PV} : k < 0 ∧ -(l.length : Int) ≤ k ∧ -2 ^ 62 ≤ k → l[(k + l.length).toNat]? = some p → Item (.list l) k p
  | tup {l : List PV} {k : Int} {p : PV} : 0 ≤ k ∧ k < 2 ^ 62 → l[k.toNat]? = some p → Item (.tup l) k p
theorem Ev.at {e i : Expr} {pos : Pos} {q p : PV} {k : Int} (he : Ev prog w H0 mg mb c σ e q) (hi : Ev prog w H0 mg mb c σ i (.int k)) (h : Item q k p) (hs : ∀ o x, subscripted i false o x = operate [o, x] (getItem o x)) : Ev prog w H0 mg mb c σ (.Subscript e i pos) p := by
  cases h with
  | list h1 h2 => exact Ev.item he hi h1 h2 hs
  | neg h1 h2 => exact Ev.itemNeg he hi h1 h2 hs
  | tup h1 h2 => exact Ev.itemT he hi h1 h2 hs
theorem Ev.atOwn {x : Str} {np : Pos} {i : Expr} {pos : Pos} {j : Nat} {l : List PV} {k : Int} {p : PV} (ho : σ.own = some (j, l)) (hx : At c.ln j x) (hi : Ev prog w H0 mg mb c σ i (.int k)) (hk : 0 ≤ k ∧ k < 2 ^ 62) (hp : l[k.toNat]? = some p)
    (hs : ∀ o x, subscripted i false o x = operate [o, x] (getItem o x)) : Ev prog w H0 mg mb c σ (.Subscript (.Name x np) i pos) p := Ev.itemOwn ho hx.get hi hk hp hs

inductive Callee (H0 : Heap) : Value → Prop
  | b {id : String} : Callee H0 (.builtin id)
  | t {id : String} : Callee H0 (.type id)
  | f {a : Addr} {o : Obj} {fd : FuncData} : H0.get? a = some o → o.data = .func fd → Callee H0 (.ref a)
theorem Ev.call {x : Str} {np pos : Pos} {v : Value} {e : Expr} {es : List Expr} {l : List PV} {p : PV} (hf : Ev prog w H0 mg mb c σ (.Name x np) (.val v)) (ha : EvL prog w H0 mg mb c σ pos (e :: es) l) (hl : Callee H0 v) (hc : CallOk prog w H0 c.A v l p)
    (he : starEach (e :: es) c.env = (false, eval e c.env) :: starEach es c.env) (hp : (backTo pos (starEach es c.env)).any (·.1) = false) : Ev prog w H0 mg mb c σ (.Call (.Name x np) (e :: es) [] pos) p := by
  cases hl with
  | b => exact Ev.callB hf ha hc he hp
  | t => exact Ev.callT hf ha hc he hp
  | f h1 h2 => exact Ev.callF hf ha hc h1 h2 he

theorem Exs.cast {sts : List Stmt} {p q : PV} (h : Exs prog w H0 mg mb c σ sts (.ret q)) (e : q = p) : Exs prog w H0 mg mb c σ sts (.ret p) := e ▸ h
theorem Ev.cast {e : Expr} {p q : PV} (h : Ev prog w H0 mg mb c σ e q) (e' : q = p) : Ev prog w H0 mg mb c σ e p := e' ▸ h
theorem EvT.cast {e : Expr} {p q : Bool} (h : EvT prog w H0 mg mb c σ e q) (e' : q = p) : EvT prog w H0 mg mb c σ e p := e' ▸ h
theorem Ex.whileE {test : Expr} {body : List Stmt} {pos : Pos} {r : Res} (L : ∃ n, WLoop prog w H0 mg mb c test body n σ r) : Ex prog w H0 mg mb c σ (.While test body [] pos) r := let ⟨_, h⟩ := L; Ex.while_ h
theorem WLoop.doneE {test : Expr} {body : List Stmt} {b : Bool} (h : EvT prog w H0 mg mb c σ test b) (hb : b = false) : ∃ n, WLoop prog w H0 mg mb c test body n σ (.next σ) := ⟨0, .done (hb ▸ h)⟩
theorem WLoop.stepE {test : Expr} {body : List Stmt} {b : Bool} {σ₁ : Sg} {r : Res} (h : EvT prog w H0 mg mb c σ test b) (hb : b = true) (h1 : Exs prog w H0 mg mb c σ body (.next σ₁)) (h2 : ∃ n, WLoop prog w H0 mg mb c test body n σ₁ r) : ∃ n, WLoop prog w H0 mg mb c test body n σ r := let ⟨n, h⟩ := h2; ⟨n + 1, .step (hb ▸ ‹EvT prog w H0 mg mb c σ test b›) h1 h⟩
theorem Exs.one {st : Stmt} {σ₁ : Sg} (h : Ex prog w H0 mg mb c σ st (.next σ₁)) : Exs prog w H0 mg mb c σ [st] (.next σ₁) := Exs.cons h Exs.nil
theorem Ev.room {e : Expr} {p : PV} (h : Room c.A c.k → Ev prog w H0 mg mb c σ e p) : Ev prog w H0 mg mb c σ e p := .mk fun K0 h0 K s S => (h S.wf.room).run K0 h0 K s S
theorem Room.mono {A : Around} {k k' : Nat} (r : Room A k) (h : k' ≤ k) : Room A k' := ⟨r.handled, by have := r.depth; omega, by have := r.units; omega⟩
theorem CallOk.of {A : Around} {k k' : Nat} {n : Str} {l : List PV} {p : PV} (C : Con prog w H0 mg k' n l p) (r : Room A k) (h : k' ≤ k) : CallOk prog w H0 A (.ref (fa mg n)) l p := C A (r.mono h)

theorem Ex.ifT' {test : Expr} {body orelse : List Stmt} {pos : Pos} {b : Bool} {r : Res} (H : EvT prog w H0 mg mb c σ test b) (hb : b = true) (H' : Exs prog w H0 mg mb c σ body r) : Ex prog w H0 mg mb c σ (.If test body orelse pos) r := Ex.ifT (hb ▸ H) H'
theorem Ex.ifF' {test : Expr} {body orelse : List Stmt} {pos : Pos} {b : Bool} {r : Res} (H : EvT prog w H0 mg mb c σ test b) (hb : b = false) (H' : Exs prog w H0 mg mb c σ orelse r) : Ex prog w H0 mg mb c σ (.If test body orelse pos) r := Ex.ifF (hb ▸ H) H'
theorem Ev.ifT' {test body orelse : Expr} {pos : Pos} {b : Bool} {p : PV} (h : EvT prog w H0 mg mb c σ test b) (hb : b = true) (h' : Ev prog w H0 mg mb c σ body p) : Ev prog w H0 mg mb c σ (.IfExp test body orelse pos) p := Ev.ifT (hb ▸ h) h'
theorem Ev.ifF' {test body orelse : Expr} {pos : Pos} {b : Bool} {p : PV} (h : EvT prog w H0 mg mb c σ test b) (hb : b = false) (h' : Ev prog w H0 mg mb c σ orelse p) : Ev prog w H0 mg mb c σ (.IfExp test body orelse pos) p := Ev.ifF (hb ▸ h) h'
theorem EvA.and1 {e : Expr} {es : List Expr} {b b' : Bool} (h : EvT prog w H0 mg mb c σ e b) (h' : EvA prog w H0 mg mb c σ .And es b') : EvA prog w H0 mg mb c σ .And (e :: es) (b && b') := EvA.andCons h fun _ => h'
theorem EvA.andF {e : Expr} {es : List Expr} (h : EvT prog w H0 mg mb c σ e false) : EvA prog w H0 mg mb c σ .And (e :: es) false := by
  have := EvA.andCons (b' := true) (es := es) h (fun e => nomatch e)
  simpa using this
end

/-! the steps, by the syntax -/

theorem t1 : (defAt 4).name = "normal" := by rfl
theorem t2 : FnOk (defAt 4) ["a"] ["a", "end"] [("len", .builtin "len")] := by
  refine ⟨rfl, rfl, rfl, rfl, by decide +kernel, fun pm cd doc vs h => ?_, by decide +kernel, by decide +kernel, by decide +kernel⟩
  match vs, h with
  | [_], _ => rfl
end Mine

namespace Mine
inductive IfX : Bool → Prop → Prop → Prop
  | t {b : Bool} {P Q : Prop} : b = true → P → IfX b P Q
  | f {b : Bool} {P Q : Prop} : b = false → Q → IfX b P Q
section
variable {prog : Program} {w : World} {H0 : Heap} {mg mb : Str → Option Value} {c : Fc} {σ : Sg}
theorem Ex.ifX {test : Expr} {body orelse : List Stmt} {pos : Pos} {b : Bool} {r : Res} (H : EvT prog w H0 mg mb c σ test b) (H' : IfX b (Exs prog w H0 mg mb c σ body r) (Exs prog w H0 mg mb c σ orelse r)) : Ex prog w H0 mg mb c σ (.If test body orelse pos) r := by
  cases H' with
  | t h p => exact Ex.ifT' H h p
  | f h p => exact Ex.ifF' H h p
theorem Ev.ifX {test body orelse : Expr} {pos : Pos} {b : Bool} {p : PV} (H : EvT prog w H0 mg mb c σ test b) (H' : IfX b (Ev prog w H0 mg mb c σ body p) (Ev prog w H0 mg mb c σ orelse p)) : Ev prog w H0 mg mb c σ (.IfExp test body orelse pos) p := by
  cases H' with
  | t h p => exact Ev.ifT' H h p
  | f h p => exact Ev.ifF' H h p
theorem EvA.andX {e : Expr} {es : List Expr} {b b' : Bool} (h : EvT prog w H0 mg mb c σ e b) (h' : IfX b (EvA prog w H0 mg mb c σ .And es b') (b' = false)) : EvA prog w H0 mg mb c σ .And (e :: es) b' := by
  cases h' with
  | t hb p => subst hb; have := EvA.andCons h (fun _ => p); simpa using this
  | f hb p => subst hb; subst p; exact EvA.andF h

variable (prog w H0 mg mb) in
inductive Then (c : Fc) (rest : List Stmt) : Res → Res → Prop
  | next {σ₁ : Sg} {r : Res} : Exs prog w H0 mg mb c σ₁ rest r → Then c rest (.next σ₁) r
  | ret {p : PV} : Then c rest (.ret p) (.ret p)
theorem Exs.seq {st : Stmt} {rest : List Stmt} {r₁ r : Res} (h : Ex prog w H0 mg mb c σ st r₁) (h' : Then prog w H0 mg mb c rest r₁ r) : Exs prog w H0 mg mb c σ (st :: rest) r := by
  cases h' with
  | next h' => exact Exs.cons h h'
  | ret => exact Exs.cons_ret h

inductive LThen (prog : Program) (w : World) (H0 : Heap) (mg mb : Str → Option Value) (c : Fc) (B : Sg → PV → Sg → Prop) (body : List Stmt) (l : List PV) : Res → Res → Prop
  | next {σ₁ : Sg} {r : Res} : Loop prog w H0 mg mb c B body σ₁ l r → LThen prog w H0 mg mb c B body l (.next σ₁) r
  | ret {p : PV} : LThen prog w H0 mg mb c B body l (.ret p) (.ret p)
theorem Loop.x {B : Sg → PV → Sg → Prop} {body : List Stmt} {σ σ₀ : Sg} {p : PV} {l : List PV} {r₁ r : Res} (hB : B σ p σ₀) (h : Exs prog w H0 mg mb c σ₀ body r₁) (h' : LThen prog w H0 mg mb c B body l r₁ r) : Loop prog w H0 mg mb c B body σ (p :: l) r := by
  cases h' with
  | next h' => exact .cons hB h h'
  | ret => exact .ret hB h

theorem Bind1.l {x : Str} {p : PV} {i : Nat} {v' : List (Option PV)} (hu : Upd2 c.ln σ.v x (some p) i v') (ho : OwnNe σ.own i) : Bind1 c σ x p ⟨v', σ.cel, σ.own⟩ := by
  obtain ⟨h1, rfl, h3⟩ := hu.get
  exact Bind1.loc i h1 ho.ne
theorem Bind1.c' {x : Str} {p : PV} {i : Nat} {v' : List (Option PV)} (hu : Upd2 c.cn σ.cel x (some p) i v') (ho : c.oc = true) : Bind1 c σ x p ⟨σ.v, v', σ.own⟩ := by
  obtain ⟨h1, rfl, h3⟩ := hu.get
  exact Bind1.cel i h1 ho

/-- what a range runs through -/
inductive RngL : Int → Int → Int → List PV → Prop
  | of {a b d : Int} (n : Nat) : Builtin.Range.small a b d = true → Builtin.Range.rangeSize a b d = (n : Int) → RngL a b d ((List.range n).map fun (i : Nat) => PV.int (a + (i : Int) * d))
theorem RngL.n0 {a b d : Int} (h : Builtin.Range.small a b d = true) (h' : Builtin.Range.rangeSize a b d = 0) : RngL a b d [] := .of 0 h h'
theorem RngL.n1 {a b d : Int} (h : Builtin.Range.small a b d = true) (h' : Builtin.Range.rangeSize a b d = 1) : RngL a b d [.int a] := by
  have := RngL.of 1 h h'
  simpa [List.range_succ] using this
theorem RngL.down0 {a : Int} (h : a = -1) : RngL a (-1) (-1) [] := by subst h; exact RngL.n0 (by decide) (by decide)
theorem RngL.down1 {a : Int} (h : a = 0) : RngL a (-1) (-1) [.int 0] := by subst h; exact RngL.n1 (by decide) (by decide)
theorem RngL.up0 {a b : Int} (h : a = 0) (h' : b = 0) : RngL a b 1 [] := by subst h h'; exact RngL.n0 (by decide) (by decide)
theorem RngL.up1 {a b : Int} (h : a = 0) (h' : b = 1) : RngL a b 1 [.int 0] := by subst h h'; exact RngL.n1 (by decide) (by decide)
theorem RngL.up11 {a b : Int} (h : a = 1) (h' : b = 1) : RngL a b 1 [] := by subst h h'; exact RngL.n0 (by decide) (by decide)
theorem Ex.forRng {x : Str} {px pos : Pos} {iter : Expr} {body : List Stmt} {a b d : Int} {l : List PV} {r : Res} (h : Ev prog w H0 mg mb c σ iter (.rng a b d)) (hn : RngL a b d l)
    (L : Loop prog w H0 mg mb c (fun σ p σ₀ => Bind1 c σ x p σ₀) body σ l r)
    (hs : ∀ v, foldedSetIterable iter c.env v = pure v) : Ex prog w H0 mg mb c σ (.For (.Name x px) iter body [] pos) r := by
  cases hn with
  | of n h1 h2 => exact Ex.forRange h h1 h2 L hs

/-- a while that is decided turn by turn -/
inductive WThen (prog : Program) (w : World) (H0 : Heap) (mg mb : Str → Option Value) (c : Fc) (test : Expr) (body : List Stmt) : Res → Res → Prop
  | next {σ₁ : Sg} {r : Res} : (∃ n, WLoop prog w H0 mg mb c test body n σ₁ r) → WThen prog w H0 mg mb c test body (.next σ₁) r
  | ret {p : PV} : WThen prog w H0 mg mb c test body (.ret p) (.ret p)
theorem WLoop.doneX {test : Expr} {body : List Stmt} {b : Bool} (h : EvT prog w H0 mg mb c σ test b) (hb : b = false) : ∃ n, WLoop prog w H0 mg mb c test body n σ (.next σ) := WLoop.doneE h hb
theorem WLoop.stepX {test : Expr} {body : List Stmt} {b : Bool} {r₁ r : Res} (h : EvT prog w H0 mg mb c σ test b) (hb : b = true) (h1 : Exs prog w H0 mg mb c σ body r₁) (h2 : WThen prog w H0 mg mb c test body r₁ r) : ∃ n, WLoop prog w H0 mg mb c test body n σ r := by
  cases h2 with
  | next h2 => exact WLoop.stepE h hb h1 h2
  | ret => exact ⟨0, .ret (hb ▸ h) h1⟩

theorem Ex.tupX {elts es : List Expr} {k k' : Nat} {tpos vpos pos : Pos} {ns : List Str} {l : List PV} {xs : List (Str × PV)} {σ' : Sg} (hs : swapsWithSole [.Tuple elts k tpos] (.Tuple es k' vpos) pos.line c.env = pure false) (hw : swappedStores [.Tuple elts k tpos] (.Tuple es k' vpos) c.env = pure (some ns))
    (h : EvL prog w H0 mg mb c σ vpos es l) (hl : ns.length = l.length) (hz : l.length ≤ 1000) (hr : (ns.zip l).reverse = xs) (T : Stores c σ xs σ') :
    Ex prog w H0 mg mb c σ (.Assign [.Tuple elts k tpos] (.Tuple es k' vpos) pos) (.next σ') := by
  subst hr
  exact Ex.tup h hl hz T hs hw
/-- x0, .. = (a list of one's own, ..) -/
theorem Ex.tupOwnX {elts es : List Expr} {e0 : Expr} {k k' : Nat} {tpos vpos pos : Pos} {x0 : Str} {ns : List Str} {l0 l : List PV} {v' v₂ : List (Option PV)} {i0 : Nat}
    (hs : swapsWithSole [.Tuple elts k tpos] (.Tuple (e0 :: es) k' vpos) pos.line c.env = pure false) (hw : swappedStores [.Tuple elts k tpos] (.Tuple (e0 :: es) k' vpos) c.env = pure (some (x0 :: ns)))
    (he0 : EvO prog w H0 mg mb c σ e0 l0) (h : EvL prog w H0 mg mb c σ vpos es l) (hl : ns.length = l.length) (hz : l.length ≤ 900)
    (hx : At c.ln i0 x0) (T : ∀ a, Stores c σ ((x0 :: ns).zip (.val (.ref a) :: l)).reverse ⟨v'.set i0 (some (.val (.ref a))), σ.cel, none⟩) (hv : v'.set i0 none = v₂) (hi : i0 < v'.length)
    (he : starEach (e0 :: es) c.env = (false, eval e0 c.env) :: starEach es c.env) :
    Ex prog w H0 mg mb c σ (.Assign [.Tuple elts k tpos] (.Tuple (e0 :: es) k' vpos) pos) (.next ⟨v₂, σ.cel, some (i0, l0)⟩) := by
  subst hv
  exact Ex.tupOwn (σ' := ⟨v', σ.cel, none⟩) i0 he0 h hl hz hx.get T hi he hs hw

inductive AppR : List PV → PV → List PV → Prop
  | n0 {p : PV} : AppR [] p [p]
  | n1 {x p : PV} : AppR [x] p [x, p]
  | gen {l : List PV} {p : PV} : AppR l p (l ++ [p])
theorem AppR.eq {l l' : List PV} {p : PV} : AppR l p l' → l' = l ++ [p]
  | .n0 => rfl
  | .n1 => rfl
  | .gen => rfl
theorem Ex.appendX {x : Str} {np apos cpos pos : Pos} {e : Expr} {p : PV} {j : Nat} {l l' : List PV} {v cel : List (Option PV)} (hx : At c.ln j x) (hz : l.length ≤ 1000) (h : Ev prog w H0 mg mb c ⟨v, cel, some (j, l)⟩ e p)
    (he : starEach [e] c.env = (false, eval e c.env) :: starEach [] c.env) (hi : interactive c.env = false)
    (hm : eval (.Call (.Attribute (.Name x np) "append" apos) [e] [] cpos) c.env = (do
      let ov ← eval (.Name x np) c.env
      standAt apos.atName
      let (f, first) ← holding [ov] (getMethod ov "append" (do return (← importBound (.Name x np) c.env).getD true))
      callWith cpos f first (backTo cpos (starEach [e] c.env)) [])) (ha : AppR l p l') :
    Ex prog w H0 mg mb c ⟨v, cel, some (j, l)⟩ (.Expr (.Call (.Attribute (.Name x np) "append" apos) [e] [] cpos) pos) (.next ⟨v, cel, some (j, l')⟩) := by
  rw [ha.eq]
  exact Ex.append (σ := ⟨v, cel, some (j, l)⟩) rfl hx.get hz h he hi hm
theorem Ex.setOwnX {x : Str} {np spos pos : Pos} {i e : Expr} {p : PV} {k : Int} {j : Nat} {l l' : List PV} {v cel : List (Option PV)} (hx : At c.ln j x) (hz : l.length ≤ 1000) (h : Ev prog w H0 mg mb c ⟨v, cel, some (j, l)⟩ e p) (hi : Ev prog w H0 mg mb c ⟨v, cel, some (j, l)⟩ i (.int k)) (hk : 0 ≤ k ∧ k < l.length) (hl : l.set k.toNat p = l')
    (hs : swapsWith e (some (.Subscript (.Name x np) i spos)) pos.line c.env = pure false) :
    Ex prog w H0 mg mb c ⟨v, cel, some (j, l)⟩ (.Assign [.Subscript (.Name x np) i spos] e pos) (.next ⟨v, cel, some (j, l')⟩) := by
  subst hl
  exact Ex.setOwn (σ := ⟨v, cel, some (j, l)⟩) rfl hx.get hz h hi hk hs
theorem Ev.atOwnX {x : Str} {np : Pos} {i : Expr} {pos : Pos} {j : Nat} {l : List PV} {k : Int} {p : PV} {v cel : List (Option PV)} (hx : At c.ln j x) (hi : Ev prog w H0 mg mb c ⟨v, cel, some (j, l)⟩ i (.int k)) (hk : 0 ≤ k ∧ k < 2 ^ 62) (hp : l[k.toNat]? = some p)
    (hs : ∀ o x, subscripted i false o x = operate [o, x] (getItem o x)) : Ev prog w H0 mg mb c ⟨v, cel, some (j, l)⟩ (.Subscript (.Name x np) i pos) p := Ev.itemOwn (σ := ⟨v, cel, some (j, l)⟩) rfl hx.get hi hk hp hs

/-- x, y = a tuple's value -/
theorem Ex.unpack2 {x y : Str} {px py : Pos} {k : Nat} {tpos pos : Pos} {e : Expr} {p q : PV} {σ₁ σ₂ : Sg} (h : Ev prog w H0 mg mb c σ e (.tup [p, q])) (b1 : Bind1 c σ x p σ₁) (b2 : Bind1 c σ₁ y q σ₂)
    (hs : swapsWithSole [.Tuple [.Name x px, .Name y py] k tpos] e pos.line c.env = pure false) (hw : swappedStores [.Tuple [.Name x px, .Name y py] k tpos] e c.env = pure none) :
    Ex prog w H0 mg mb c σ (.Assign [.Tuple [.Name x px, .Name y py] k tpos] e pos) (.next σ₂) := .mk fun K0 h0 K s S => by
  refine Assign_Tuple (h.bind S fun v K₁ h₁ t₁ G₁ R₁ S₁ => ?_) hs hw
  cases R₁ with
  | tup g1 g2 g3 g4 =>
    rename_i a o vs n
    match vs, g4 with
    | [u, v], .cons r1 (.cons r2 .nil) =>
      refine assign_Tuple_tuple (prog := prog) (w := w) (E := E0) S.wf.room.handled (env := c.env) (elts := [Expr.Name x px, Expr.Name y py]) (items := #[u, v]) ⟨o, S₁.sub _ _ g1, g2, n, g3⟩ (by rfl) (by rfl) fun h' hx => ?_
      have k : ∀ b o, h₁.get? b = some o → h'.get? b = some o := fun b o e => hx b o (Nat.ne_of_lt (Heap.lt_size e)) e
      have S₂ := S₁.grow (tk' := t₁) (Grow.keepOnly S₁.sub k)
      show wpAny _ _ (assignInOrder [PySem.assign (Expr.Name x px) c.env, PySem.assign (Expr.Name y py) c.env] [u, v]) _ _ _
      refine assignInOrder_cons (wpAny_assign_Name (b1.run S₂ r1 fun h₃ t₃ S₃ => ?_))
      refine assignInOrder_cons (wpAny_assign_Name (b2.run S₃ r2 fun h₄ t₄ S₄ => ?_))
      exact assignInOrder_nil ⟨rfl, K₁, h₄, t₄, rfl, S₄⟩
inductive WGo (prog : Program) (w : World) (H0 : Heap) (mg mb : Str → Option Value) (c : Fc) (test : Expr) (body : List Stmt) (σ : Sg) (r : Res) : Prop
  | go {r₁ : Res} : Exs prog w H0 mg mb c σ body r₁ → WThen prog w H0 mg mb c test body r₁ r → WGo prog w H0 mg mb c test body σ r
theorem WLoop.x {test : Expr} {body : List Stmt} {b : Bool} {r : Res} (h : EvT prog w H0 mg mb c σ test b) (h' : IfX b (WGo prog w H0 mg mb c test body σ r) (r = .next σ)) : ∃ n, WLoop prog w H0 mg mb c test body n σ r := by
  cases h' with
  | t hb g => cases g with | go h1 h2 => exact WLoop.stepX h hb h1 h2
  | f hb e => subst e; exact WLoop.doneX h hb
inductive Runs : PV → List PV → Prop
  | list {l : List PV} : Runs (.list l) l
  | tup {l : List PV} : Runs (.tup l) l
  | rng {a b d : Int} {l : List PV} : RngL a b d l → Runs (.rng a b d) l
theorem Ex.forX {x : Str} {px pos : Pos} {iter : Expr} {body : List Stmt} {p : PV} {l : List PV} {r : Res} (h : Ev prog w H0 mg mb c σ iter p) (hn : Runs p l)
    (L : Loop prog w H0 mg mb c (fun σ p σ₀ => Bind1 c σ x p σ₀) body σ l r)
    (hs : ∀ v, foldedSetIterable iter c.env v = pure v) : Ex prog w H0 mg mb c σ (.For (.Name x px) iter body [] pos) r := by
  cases hn with
  | list => exact Ex.forList h L hs
  | tup => exact Ex.forTuple h L hs
  | rng hn => exact Ex.forRng h hn L hs
/-- a comparison of two values that gives a bool -/
structure CmpOk (prog : Program) (w : World) (op : CmpOp) (p q : PV) (z : Bool) : Prop where
  run : ∀ (A : Around) (K : PM) (s : Shared) (v u : Value), Room A 0 → (∀ b o, K b = some o → s.heap.get? b = some o) → Rep K v p → Rep K u q → wpAny (model prog w) A (compareOp op v u) (PostE K s (.bool z)) E0 s
theorem CmpOk.ii {op : CmpOp} {a b : Int} {z : Bool} (h : CmpII prog w op a b z) : CmpOk prog w op (.int a) (.int b) z := .mk fun A K s v u _ hs r1 r2 => by
  cases r1; cases r2
  exact h.run A _ _ _ s (PostE.same hs (.bool _))
theorem CmpOk.eqB {a b : Bool} : CmpOk prog w .Eq (.bool a) (.bool b) (a == b) := .mk fun A K s v u _ hs r1 r2 => by
  cases r1; cases r2
  exact eq_bool (PostE.same hs (.bool _))
theorem CmpOk.neB {a b : Bool} : CmpOk prog w .NotEq (.bool a) (.bool b) (a != b) := .mk fun A K s v u _ hs r1 r2 => by
  cases r1; cases r2
  exact ne_bool (PostE.same hs (.bool _))
theorem room0 {A : Around} {k : Nat} (r : Room A k) : Room A 0 := r.mono (Nat.zero_le _)
theorem Ev.cmpX {l r : Expr} {op : CmpOp} {pos : Pos} {p q : PV} {z : Bool} (hl : Ev prog w H0 mg mb c σ l p) (hr : Ev prog w H0 mg mb c σ r q) (h : CmpOk prog w op p q z) (hm : behindInMarks op r = false) :
    Ev prog w H0 mg mb c σ (.Compare l [op] [r] pos) (.bool z) := .mk fun K0 h0 K s S => by
  refine wpAny_Compare1 (hl.bind S fun v K₁ h₁ t₁ G₁ R₁ S₁ => hr.bind S₁ fun v₂ K₂ h₂ t₂ G₂ R₂ S₂ => ?_) hm
  exact wpAny_mono (h.run c.A K₂ _ v v₂ (room0 S₂.wf.room) S₂.sub (R₁.mono G₂.up) R₂) (fun _ _ P => PostE.after G₁ (PostE.after G₂ P)) fun _ _ f => f
theorem EvT.cmpX {l r : Expr} {op : CmpOp} {pos : Pos} {p q : PV} {z : Bool} (hl : Ev prog w H0 mg mb c σ l p) (hr : Ev prog w H0 mg mb c σ r q) (h : CmpOk prog w op p q z) (hm : behindInMarks op r = false) :
    EvT prog w H0 mg mb c σ (.Compare l [op] [r] pos) z := .mk fun K0 h0 K s S => by
  refine wpAny_isTrue_Compare1 (hl.bind S fun v K₁ h₁ t₁ G₁ R₁ S₁ => hr.bind S₁ fun v₂ K₂ h₂ t₂ G₂ R₂ S₂ => ?_) hm
  refine wpAny_mono (h.run c.A K₂ _ v v₂ (room0 S₂.wf.room) S₂.sub (R₁.mono G₂.up) R₂) (fun y s' P => ?_) fun _ _ f => f
  obtain ⟨K₃, h₃, t₃, rfl, G₃, R₃⟩ := P
  cases R₃
  exact wpAny_truthy_bool (PostT.after G₁ (PostT.after G₂ ⟨rfl, K₃, h₃, t₃, rfl, G₃⟩))
theorem Exs.frz {e : Option Expr} {pos : Pos} {rest : List Stmt} {x : Str} {v v' cel : List (Option PV)} {j : Nat} {l : List PV} {r : Res} (hv : Upd2 c.ln v x (some (.list l)) j v') (h : Exs prog w H0 mg mb c ⟨v', cel, none⟩ (.Return e pos :: rest) r) : Exs prog w H0 mg mb c ⟨v, cel, some (j, l)⟩ (.Return e pos :: rest) r := by
  obtain ⟨h1, rfl, h3⟩ := hv.get
  exact Exs.freeze (σ := ⟨v, cel, some (j, l)⟩) rfl h
end
theorem gk0 {d : DefItem} : ∀ p ∈ ([] : List (Str × Value)), d.scope.names.lookup p.1 = some .globalImplicit ∧ (p.1 == ("__debug__" : Str)) = false := List.forall_mem_nil _
theorem gk1 {d : DefItem} {x : Str} {v : Value} {l : List (Str × Value)} (h : d.scope.names.lookup x = some .globalImplicit ∧ (x == ("__debug__" : Str)) = false) (h' : ∀ p ∈ l, d.scope.names.lookup p.1 = some .globalImplicit ∧ (p.1 == ("__debug__" : Str)) = false) :
    ∀ p ∈ (x, v) :: l, d.scope.names.lookup p.1 = some .globalImplicit ∧ (p.1 == ("__debug__" : Str)) = false := List.forall_mem_cons.mpr ⟨h, h'⟩
section
variable {prog : Program} {w : World} {H0 : Heap} {mg mb : Str → Option Value} {c : Fc} {σ : Sg}
theorem Ex.tup2X {x y : Str} {px py : Pos} {e1 e2 : Expr} {k k' : Nat} {tpos vpos pos : Pos} {p q : PV} {σ₁ σ₂ : Sg}
    (hs : swapsWithSole [.Tuple [.Name x px, .Name y py] k tpos] (.Tuple [e1, e2] k' vpos) pos.line c.env = pure false) (hw : swappedStores [.Tuple [.Name x px, .Name y py] k tpos] (.Tuple [e1, e2] k' vpos) c.env = pure (some [x, y]))
    (h : EvL prog w H0 mg mb c σ vpos [e1, e2] [p, q]) (b1 : Bind1 c σ y q σ₁) (b2 : Bind1 c σ₁ x p σ₂) :
    Ex prog w H0 mg mb c σ (.Assign [.Tuple [.Name x px, .Name y py] k tpos] (.Tuple [e1, e2] k' vpos) pos) (.next σ₂) :=
  Ex.tup (ns := [x, y]) h rfl (Nat.le_of_ble_eq_true rfl) (.cons b1 (.cons b2 .nil)) hs hw
theorem Ex.tup3X {x y z : Str} {px py pz : Pos} {e1 e2 e3 : Expr} {k k' : Nat} {tpos vpos pos : Pos} {p q r : PV} {σ₁ σ₂ σ₃ : Sg}
    (hs : swapsWithSole [.Tuple [.Name x px, .Name y py, .Name z pz] k tpos] (.Tuple [e1, e2, e3] k' vpos) pos.line c.env = pure false) (hw : swappedStores [.Tuple [.Name x px, .Name y py, .Name z pz] k tpos] (.Tuple [e1, e2, e3] k' vpos) c.env = pure (some [x, y, z]))
    (h : EvL prog w H0 mg mb c σ vpos [e1, e2, e3] [p, q, r]) (b1 : Bind1 c σ z r σ₁) (b2 : Bind1 c σ₁ y q σ₂) (b3 : Bind1 c σ₂ x p σ₃) :
    Ex prog w H0 mg mb c σ (.Assign [.Tuple [.Name x px, .Name y py, .Name z pz] k tpos] (.Tuple [e1, e2, e3] k' vpos) pos) (.next σ₃) :=
  Ex.tup (ns := [x, y, z]) h rfl (Nat.le_of_ble_eq_true rfl) (.cons b1 (.cons b2 (.cons b3 .nil))) hs hw
theorem Ex.own2X {x y : Str} {px py : Pos} {e1 e2 : Expr} {k k' : Nat} {tpos vpos pos : Pos} {l0 : List PV} {q : PV} {i i0 : Nat} {v v₁ v₂ cel : List (Option PV)}
    (hs : swapsWithSole [.Tuple [.Name x px, .Name y py] k tpos] (.Tuple [e1, e2] k' vpos) pos.line c.env = pure false) (hw : swappedStores [.Tuple [.Name x px, .Name y py] k tpos] (.Tuple [e1, e2] k' vpos) c.env = pure (some [x, y]))
    (h0 : EvO prog w H0 mg mb c ⟨v, cel, none⟩ e1 l0) (h : EvL prog w H0 mg mb c ⟨v, cel, none⟩ vpos [e2] [q]) (b1 : Upd2 c.ln v y (some q) i v₁) (b2 : Upd2 c.ln v₁ x none i0 v₂)
    (he : starEach [e1, e2] c.env = (false, eval e1 c.env) :: starEach [e2] c.env) :
    Ex prog w H0 mg mb c ⟨v, cel, none⟩ (.Assign [.Tuple [.Name x px, .Name y py] k tpos] (.Tuple [e1, e2] k' vpos) pos) (.next ⟨v₂, cel, some (i0, l0)⟩) := by
  obtain ⟨g1, e1', g3⟩ := b1.get
  obtain ⟨f1, e2', f3⟩ := b2.get
  subst e2'
  refine Ex.tupOwn (σ' := ⟨v₁, cel, none⟩) (ns := [y]) i0 h0 h rfl (Nat.le_of_ble_eq_true rfl) f1 (fun a => ?_) f3 he hs hw
  subst e1'
  exact Stores.cons (σ₁ := ⟨v.set i (some q), cel, none⟩) (Bind1.loc (σ := ⟨v, cel, none⟩) i g1 (fun _ _ e => nomatch e)) (Stores.cons (Bind1.loc (σ := ⟨v.set i (some q), cel, none⟩) i0 f1 (fun _ _ e => nomatch e)) .nil)
theorem Ex.own3X {x y z : Str} {px py pz : Pos} {e1 e2 e3 : Expr} {k k' : Nat} {tpos vpos pos : Pos} {l0 : List PV} {q r : PV} {i j i0 : Nat} {v v₀ v₁ v₂ cel : List (Option PV)}
    (hs : swapsWithSole [.Tuple [.Name x px, .Name y py, .Name z pz] k tpos] (.Tuple [e1, e2, e3] k' vpos) pos.line c.env = pure false) (hw : swappedStores [.Tuple [.Name x px, .Name y py, .Name z pz] k tpos] (.Tuple [e1, e2, e3] k' vpos) c.env = pure (some [x, y, z]))
    (h0 : EvO prog w H0 mg mb c ⟨v, cel, none⟩ e1 l0) (h : EvL prog w H0 mg mb c ⟨v, cel, none⟩ vpos [e2, e3] [q, r]) (b0 : Upd2 c.ln v z (some r) j v₀) (b1 : Upd2 c.ln v₀ y (some q) i v₁) (b2 : Upd2 c.ln v₁ x none i0 v₂)
    (he : starEach [e1, e2, e3] c.env = (false, eval e1 c.env) :: starEach [e2, e3] c.env) :
    Ex prog w H0 mg mb c ⟨v, cel, none⟩ (.Assign [.Tuple [.Name x px, .Name y py, .Name z pz] k tpos] (.Tuple [e1, e2, e3] k' vpos) pos) (.next ⟨v₂, cel, some (i0, l0)⟩) := by
  obtain ⟨d1, e0', d3⟩ := b0.get
  obtain ⟨g1, e1', g3⟩ := b1.get
  obtain ⟨f1, e2', f3⟩ := b2.get
  subst e2'
  refine Ex.tupOwn (σ' := ⟨v₁, cel, none⟩) (ns := [y, z]) i0 h0 h rfl (Nat.le_of_ble_eq_true rfl) f1 (fun a => ?_) f3 he hs hw
  subst e1'
  subst e0'
  exact Stores.cons (Bind1.loc (σ := ⟨v, cel, none⟩) j d1 (fun _ _ e => nomatch e)) (Stores.cons (Bind1.loc (σ := ⟨v.set j (some r), cel, none⟩) i g1 (fun _ _ e => nomatch e)) (Stores.cons (Bind1.loc (σ := ⟨(v.set j (some r)).set i (some q), cel, none⟩) i0 f1 (fun _ _ e => nomatch e)) .nil))
end
section
variable {prog : Program} {w : World} {H0 : Heap} {mg mb : Str → Option Value} {c : Fc} {σ : Sg}
inductive RepR : Int → PV → List PV → Prop
  | n0 {k : Int} {p : PV} : k = 0 → RepR k p []
  | n1 {k : Int} {p : PV} : k = 1 → RepR k p [p]
  | n2 {k : Int} {p : PV} : k = 2 → RepR k p [p, p]
theorem EvO.repX {pos lp : Pos} {e0 e : Expr} {p : PV} {k : Int} {l : List PV} (h : Ev prog w H0 mg mb c σ e0 p) (hs : starEach [e0] c.env = (false, eval e0 c.env) :: starEach [] c.env) (he : Ev prog w H0 mg mb c σ e (.int k)) (hk : RepR k p l) :
    EvO prog w H0 mg mb c σ (.BinOp (.List [e0] lp) .Mult e pos) l := by
  cases hk with
  | n0 h' => subst h'; exact EvO.rep h hs he (by omega)
  | n1 h' => subst h'; exact EvO.rep h hs he (by omega)
  | n2 h' => subst h'; exact EvO.rep h hs he (by omega)
inductive SetR : List PV → Int → PV → List PV → Prop
  | z {x p : PV} {l : List PV} {k : Int} : k = 0 → SetR (x :: l) k p (p :: l)
  | o {x y p : PV} {l : List PV} {k : Int} : k = 1 → SetR (x :: y :: l) k p (x :: p :: l)
theorem Ex.setOwnR {x : Str} {np spos pos : Pos} {i e : Expr} {p : PV} {k : Int} {j : Nat} {l l' : List PV} {v cel : List (Option PV)} (hx : At c.ln j x) (h : Ev prog w H0 mg mb c ⟨v, cel, some (j, l)⟩ e p) (hi : Ev prog w H0 mg mb c ⟨v, cel, some (j, l)⟩ i (.int k)) (hl : SetR l k p l') (hz : l.length ≤ 1000)
    (hs : swapsWith e (some (.Subscript (.Name x np) i spos)) pos.line c.env = pure false) :
    Ex prog w H0 mg mb c ⟨v, cel, some (j, l)⟩ (.Assign [.Subscript (.Name x np) i spos] e pos) (.next ⟨v, cel, some (j, l')⟩) := by
  cases hl with
  | z h' => subst h'; exact Ex.setOwnX hx hz h hi ⟨by omega, by simp⟩ rfl hs
  | o h' => subst h'; exact Ex.setOwnX hx hz h hi ⟨by omega, by simp; omega⟩ rfl hs
end
end Mine

namespace Mine
section
variable {prog : Program} {w : World} {H0 : Heap} {mg mb : Str → Option Value} {c : Fc} {σ : Sg}

inductive Bind2 (c : Fc) (x y : Str) : Sg → PV → Sg → Prop
  | mk {σ σ₁ σ₂ : Sg} {p q : PV} : Bind1 c σ x p σ₁ → Bind1 c σ₁ y q σ₂ → Bind2 c x y σ (.tup [p, q]) σ₂
def enumP : Nat → List PV → List PV
  | _, [] => []
  | i, p :: l => .tup [.int i, p] :: enumP (i + 1) l
theorem enumP_length : ∀ (i : Nat) (l : List PV), (enumP i l).length = l.length
  | _, [] => rfl
  | i, p :: l => by simp [enumP, enumP_length (i + 1) l]
theorem enumP_get : ∀ (i : Nat) (l : List PV) (j : Nat) (p : PV), l[j]? = some p → (enumP i l)[j]? = some (.tup [.int (i + j : Nat), p])
  | _, [], _, _, h => by simp at h
  | i, p :: l, 0, q, h => by simp at h; subst h; simp [enumP]
  | i, p :: l, j + 1, q, h => by
    have := enumP_get (i + 1) l j q (by simpa using h)
    simp only [enumP, List.getElem?_cons_succ]
    rw [this, show i + 1 + j = i + (j + 1) by omega]

/-- a for over pairs, each a tuple of its own -/
theorem for_walksT {I : Addr} {fp wr : List Addr} {n : Nat} {Pt : Nat → Array Value → Prop} {Stt : Nat → Heap → Prop} {Mid : Nat → Addr → Heap → Prop} {x y : Str} {px py : Pos} {kk : Nat} {tpos : Pos} {body : List Stmt} {l : List PV} {r : Res} {K0 h0 K : PM} {s : Shared} {h₁ : Heap} {t₁ : Nat}
    (W : WalksT prog w c.A I fp wr n Pt Stt Mid) (hfp : ∀ b ∈ fp, b ∈ wr ∨ ∃ o, K b = some o) (S : St H0 mg mb c K0 h0 K σ s) (fr : ∀ b ∈ wr, s.heap.get? b = none) (hk : ∀ b o, s.heap.get? b = some o → h₁.get? b = some o) (hst : Stt 0 h₁) (hIs : ∀ i h, Stt i h → ∀ b ∈ wr, h.get? b ≠ none) (hIm : ∀ i T h, Mid i T h → ∀ b ∈ wr, h.get? b ≠ none)
    (hn : l.length = n) (hP : ∀ i vals p, Pt i vals → l[i]? = some p → ∃ v1 v2 p1 p2, vals = #[v1, v2] ∧ p = .tup [p1, p2] ∧ Rep K v1 p1 ∧ Rep K v2 p2) (L : Loop prog w H0 mg mb c (Bind2 c x y) body σ l r) :
    codeAny (model prog w) c.A (.forLoop (.Tuple [.Name x px, .Name y py] kk tpos) (.ref I) body [] c.env) (fun r' s' => match r' with | .ok f => PostS H0 mg mb c K0 h0 s r f s' | .error e => cameBackBy (model prog w) c.A c.env E0 e s') { s with heap := h₁, toks := t₁ } := by
  have G₁ : Grow K s.heap.get? K h₁.get? := Grow.keepOnly S.sub hk
  have S₁ := S.enter (t₁ := t₁) G₁ fr
  have hc := S.cellsOff fr
  have hKI : ∀ b ∈ wr, K b = none := fun b hb => by
    cases q : K b with
    | none => rfl
    | some o => have := S.sub _ _ q; rw [fr b hb] at this; cases this
  refine codeAny_forLoop_any (fun k s' => ∃ i σ' K' h' tk', s' = { s with heap := h', toks := tk' } ∧ k = n - i ∧ i ≤ n ∧ Loop prog w H0 mg mb c (Bind2 c x y) body σ' (l.drop i) r ∧ Stt i h' ∧
      St H0 mg mb c K (gd h0 wr h'.get?) K' σ' s') ?_ n ⟨0, σ, K, h₁, t₁, rfl, rfl, Nat.zero_le _, by simpa using L, hst, S₁⟩
  rintro k s' ⟨i, σ', K', h', tk', rfl, rfl, hi, L', hst', S'⟩
  have hw' : ∀ b ∈ wr, K b = none ∧ Heap.get? h' b ≠ none := fun b hb => ⟨hKI b hb, hIs i h' hst' b hb⟩
  have Kup : ∀ b o, K b = some o → K' b = some o := let ⟨_, B, _⟩ := S'; B.grow.up
  by_cases hlt : i < n
  · have hli : l.drop i = l[i] :: l.drop (i + 1) := List.drop_eq_getElem_cons (by omega)
    rw [hli] at L'
    refine W.item i { s with heap := h', toks := tk' } _ _ hlt hst' fun T vals h₂ t₂ hv hTs hT hM hk₂ => ?_
    have S₂ := S'.step (t₁ := t₂) (h₁ := h₂) hw' hc (fun b o hb e => hk₂ b o hb e)
    have hw₂ : ∀ b ∈ wr, K b = none ∧ h₂.get? b ≠ none := fun b hb => ⟨hKI b hb, hIm _ _ _ hM b hb⟩
    have hTw := W.apart _ _ _ hM
    refine W.go _ _ _ i T { s with heap := h₂, toks := t₂ } _ _ hM fun h₃ hst₃ hk₃ => ?_
    have S₃ := St.step (s := { s with heap := h₂, toks := t₂ }) (t₁ := t₂) (h₁ := h₃) S₂ hw₂ hc (fun b o hb e => hk₃ b o hb e)
    have hI₃ : ∀ b ∈ wr, h₃.get? b ≠ none := hIs _ _ hst₃
    obtain ⟨v1, v2, p1, p2, rfl, hp, r1, r2⟩ := hP i vals l[i] hv (by simp [hn, hlt])
    have r1' : Rep K' v1 p1 := r1.mono Kup
    have r2' : Rep K' v2 p2 := r2.mono Kup
    rw [hp] at L'
    have fpSame : ∀ {K₄ : PM} {σ₄ : Sg} {h₄ : Heap} {t₄ : Nat}, St H0 mg mb c K (gd h0 wr h₃.get?) K₄ σ₄ { s with heap := h₄, toks := t₄ } → Stt (i + 1) h₄ ∧ St H0 mg mb c K (gd h0 wr h₄.get?) K₄ σ₄ { s with heap := h₄, toks := t₄ } := by
      intro K₄ σ₄ h₄ t₄ S₄
      obtain ⟨e1, e2⟩ := S₄.same hI₃
      have S₄' := S₄
      rw [e1] at S₄'
      refine ⟨W.frame _ _ _ hst₃ fun b hb o e => ?_, S₄'⟩
      rcases hfp b hb with hbw | ⟨o', ho'⟩
      · exact (e2 _ hbw).trans e
      · have h2 : h₃.get? b = some o' := S₃.sub b o' (Kup b o' ho')
        rw [h2] at e; cases e
        have Kup4 : ∀ b o, K b = some o → K₄ b = some o := let ⟨_, B, _⟩ := S₄; B.grow.up
        exact S₄.sub b o (Kup4 b o ho')
    obtain ⟨oT, hT1, hT2, nT, hT3⟩ := hT
    have hT' : IsTup (Shared.heap { s with heap := h₃, toks := t₂ }) T #[v1, v2] := ⟨oT, hk₃ T oT hTw hT1, hT2, nT, hT3⟩
    have main : ∀ {σ₂ : Sg} {Q : Unit → Shared → Prop}, Bind2 c x y σ' (.tup [p1, p2]) σ₂ → (∀ h₄ t₄, St H0 mg mb c K (gd h0 wr h₃.get?) K' σ₂ { s with heap := h₄, toks := t₄ } → Q () { s with heap := h₄, toks := t₄ }) →
        wpAny (model prog w) c.A (PySem.assign (.Tuple [.Name x px, .Name y py] kk tpos) c.env (.ref T)) Q E0 { s with heap := h₃, toks := t₂ } := by
      intro σ₂ Q B hQ
      refine assign_Tuple_tuple (prog := prog) (w := w) (E := E0) S.wf.room.handled (env := c.env) (elts := [Expr.Name x px, Expr.Name y py]) (items := #[v1, v2]) hT' (by rfl) (by rfl) fun h' hx => ?_
      have k : ∀ b o, h₃.get? b = some o → h'.get? b = some o := fun b o e => hx b o (Nat.ne_of_lt (Heap.lt_size e)) e
      have S₄ := S₃.grow (tk' := t₂) (Grow.keepOnly S₃.sub k)
      show wpAny _ _ (assignInOrder [PySem.assign (Expr.Name x px) c.env, PySem.assign (Expr.Name y py) c.env] [v1, v2]) _ _ _
      cases B with
      | mk b1 b2 =>
        refine assignInOrder_cons (wpAny_assign_Name (b1.run S₄ r1' fun h₅ t₅ S₅ => ?_))
        refine assignInOrder_cons (wpAny_assign_Name (b2.run S₅ r2' fun h₆ t₆ S₆ => ?_))
        exact assignInOrder_nil (hQ _ _ S₆)
    cases L' with
    | cons hB hb L₁ =>
      refine wpAny_mono (main hB (Q := fun _ s' => ∃ h₃' t₃, s' = { s with heap := h₃', toks := t₃ } ∧ St H0 mg mb c K (gd h0 wr h₃.get?) K' _ { s with heap := h₃', toks := t₃ }) fun h₄ t₄ S₄ => ⟨h₄, t₄, rfl, S₄⟩) (fun _ s' q => ?_) fun _ _ f => f.elim
      obtain ⟨h₄, t₄, rfl, S₄⟩ := q
      refine wpAny_mono (hb.run _ _ _ _ S₄) (fun f s₅ q => ?_) fun _ _ f => f.elim
      obtain ⟨rfl, K₅, h₅, t₅, rfl, S₅⟩ := q
      obtain ⟨st₅, S₆⟩ := fpSame S₅
      exact ⟨n - (i + 1), by omega, i + 1, _, K₅, h₅, t₅, rfl, rfl, hlt, L₁, st₅, S₆⟩
    | ret hB hb =>
      refine wpAny_mono (main hB (Q := fun _ s' => ∃ h₃' t₃, s' = { s with heap := h₃', toks := t₃ } ∧ St H0 mg mb c K (gd h0 wr h₃.get?) K' _ { s with heap := h₃', toks := t₃ }) fun h₄ t₄ S₄ => ⟨h₄, t₄, rfl, S₄⟩) (fun _ s' q => ?_) fun _ _ f => f.elim
      obtain ⟨h₄, t₄, rfl, S₄⟩ := q
      refine wpAny_mono (hb.run _ _ _ _ S₄) (fun f s₅ q => ?_) fun _ _ f => f.elim
      obtain ⟨v', K₅, h₅, t₅, rfl, rfl, G₅, R₅⟩ := q
      rw [G₅.same hI₃] at G₅
      obtain ⟨m, B, _⟩ := S
      exact ⟨v', K₅, h₅, t₅, rfl, rfl, Grow.exit B.grow G₁ fr G₅, R₅⟩
  · have hin : i = n := by omega
    subst hin
    have hnil : l.drop i = [] := List.drop_eq_nil_iff.mpr (by omega)
    rw [hnil] at L'
    cases L' with
    | nil =>
      refine W.done { s with heap := h', toks := tk' } _ _ hst' fun h₂ t₂ hk₂ => wpAny_execs_nil ?_
      have S₂ := S'.step (t₁ := t₂) (h₁ := h₂) hw' hc (fun b o hb e => hk₂ b o hb e)
      exact ⟨rfl, K', h₂, t₂, rfl, St.exit S G₁ fr S₂⟩

theorem PostS.ofAfter {K0 h0 : PM} {s : Shared} {h₁ : Heap} {t₁ : Nat} {r : Res} {f : Flow} {s' : Shared} (p : PostS H0 mg mb c K0 h0 { s with heap := h₁, toks := t₁ } r f s') : PostS H0 mg mb c K0 h0 s r f s' := PostS.after ⟨h₁, t₁, rfl⟩ p

structure EnumR (p : PV) (l' : List PV) : Prop where
  ex : ∃ l, p = .list l ∧ enumP 0 l = l'

/-- for x, y in enumerate(a list) -/
theorem Ex.forEnum {x y : Str} {px py np cpos tpos pos : Pos} {kk : Nat} {e : Expr} {body : List Stmt} {p : PV} {l : List PV} {r : Res} (hf : Ev prog w H0 mg mb c σ (.Name "enumerate" np) (.val (.type "enumerate"))) (h : Ev prog w H0 mg mb c σ e p) (hp : p = .list l) (L : Loop prog w H0 mg mb c (Bind2 c x y) body σ (enumP 0 l) r)
    (hse : starEach [e] c.env = (false, eval e c.env) :: starEach [] c.env) (hpa : (backTo cpos (starEach [] c.env)).any (·.1) = false)
    (hs : ∀ v, foldedSetIterable (.Call (.Name "enumerate" np) [e] [] cpos) c.env v = pure v) : Ex prog w H0 mg mb c σ (.For (.Tuple [.Name x px, .Name y py] kk tpos) (.Call (.Name "enumerate" np) [e] [] cpos) body [] pos) r := .mk fun K0 h0 K s S => by
  subst hp
  refine wpAny_For (Call_Name rfl (hf.bind S fun v K₁ h₁ t₁ G₁ R₁ S₁ => ?_)) hs
  cases R₁
  refine callWith_type1 ((EvL.cons h EvL.nil hse).bind S₁ fun vs K₂ h₂ t₂ G₂ R₂ S₂ => ?_) hse hpa
  cases R₂ with
  | cons R R' =>
    cases R'
    cases R with
    | list g1 g2 g3 g4 =>
      rename_i a o vs n
      have hl : Heap.IsList (Shared.heap { s with heap := h₂, toks := t₂ }) a vs.toArray := ⟨o, S₂.sub _ _ g1, g2, n, g3⟩
      refine call_enumerate_list hl fun h₃ hE hI hz hk => ?_
      have hla : a < h₂.objs.size := Heap.lt_size (S₂.sub _ _ g1)
      have W := WalksT.enumerate (prog := prog) (w := w) (A := c.A) S.wf.room.handled (h₂.objs.size + 1) h₂.objs.size a (Nat.succ_ne_self _) (Nat.ne_of_lt (Nat.lt_succ_of_lt hla)) (Nat.ne_of_lt hla) vs.toArray
      have hst : (∃ old, IsEnum h₃ (h₂.objs.size + 1) h₂.objs.size ((0 : Nat) : Int) old) ∧ h₃.IsListIter h₂.objs.size a 0 ∧ h₃.IsList a vs.toArray := ⟨⟨_, hE⟩, hI, hl.at fun o x => hk a o x⟩
      refine W.self 0 { s with heap := h₃, toks := t₂ } _ _ hst (codeAny_mono (for_walksT (s := { s with heap := h₂, toks := t₂ }) (t₁ := t₂) W (fun b hb => ?_) S₂ (fun b hb => ?_) hk hst ?_ ?_ (l := enumP 0 l) ?_ ?_ L) fun r' s' q => ?_)
      · rcases List.mem_cons.mp hb with rfl | hb
        · exact .inl (.head _)
        · rcases List.mem_cons.mp hb with rfl | hb
          · exact .inl (.tail _ (.head _))
          · rw [List.mem_singleton.mp hb]; exact .inr ⟨o, g1⟩
      · cases q : Heap.get? (Shared.heap { s with heap := h₂, toks := t₂ }) b with
        | none => rfl
        | some o' =>
          have hlt : b < h₂.objs.size := Heap.lt_size q
          rcases List.mem_cons.mp hb with rfl | hb
          · exact absurd hlt (Nat.not_lt_of_le (Nat.le_succ _))
          · rw [List.mem_singleton.mp hb] at hlt; exact absurd hlt (Nat.lt_irrefl _)
      · rintro i h ⟨⟨old, he⟩, ⟨o', hi, _⟩, _⟩ b hb
        rcases List.mem_cons.mp hb with rfl | hb
        · have he' : h.get? (h₂.objs.size + 1) = some _ := he
          rw [he']; exact nofun
        · rw [List.mem_singleton.mp hb, hi]; exact nofun
      · rintro i T h ⟨⟨x, he⟩, ⟨o', hi, _⟩, _⟩ b hb
        rcases List.mem_cons.mp hb with rfl | hb
        · have he' : h.get? (h₂.objs.size + 1) = some _ := he
          rw [he']; exact nofun
        · rw [List.mem_singleton.mp hb, hi]; exact nofun
      · simp [enumP_length, g4.length]
      · rintro i vals q ⟨t, z, hz', rfl⟩ hq
        have hil : i < l.length := by
          have := (List.getElem?_eq_some_iff.mp hq).1
          simpa [enumP_length] using this
        have h1 := enumP_get 0 l i l[i] (by simp [hil])
        rw [h1] at hq
        cases hq
        obtain ⟨v', hv', r'⟩ := g4.get i l[i] (by simp [hil])
        have : vs[i]? = some z := by simpa using hz'
        rw [this] at hv'; cases hv'
        exact ⟨_, _, _, _, rfl, rfl, by simpa using Rep.int (i : Int) t, r'⟩
      · cases r' with
        | ok f => exact PostS.ofAfter (PostS.ofAfter q)
        | error e => exact q
theorem Ex.forEnumR {x y : Str} {px py np cpos tpos pos : Pos} {kk : Nat} {e : Expr} {body : List Stmt} {p : PV} {l : List PV} {r : Res} (hf : Ev prog w H0 mg mb c σ (.Name "enumerate" np) (.val (.type "enumerate"))) (h : Ev prog w H0 mg mb c σ e p) (hp : EnumR p l) (L : Loop prog w H0 mg mb c (Bind2 c x y) body σ l r)
    (hse : starEach [e] c.env = (false, eval e c.env) :: starEach [] c.env) (hpa : (backTo cpos (starEach [] c.env)).any (·.1) = false)
    (hs : ∀ v, foldedSetIterable (.Call (.Name "enumerate" np) [e] [] cpos) c.env v = pure v) : Ex prog w H0 mg mb c σ (.For (.Tuple [.Name x px, .Name y py] kk tpos) (.Call (.Name "enumerate" np) [e] [] cpos) body [] pos) r := by
  obtain ⟨l', h1, h2⟩ := hp.ex
  subst h2
  exact Ex.forEnum hf h h1 L hse hpa hs
end
end Mine

namespace Mine
section
variable {prog : Program} {w : World} {H0 : Heap} {mg mb : Str → Option Value} {c : Fc} {σ : Sg}

/-- the frame of a comprehension within frame c -/
def cFc (c : Fc) (scope : Scope) (cl : List (Str × Addr)) (C : Addr) (x : Str) (cn' : List Str) (gl' : List (Str × Value)) : Fc := ⟨c.A, compEnvC scope cl C c.env, c.k, [x], cn', gl', false⟩

structure CompFr (mg : Str → Option Value) (c : Fc) (scope : Scope) (cl : List (Str × Addr)) (x : Str) (cn' : List Str) (gl' : List (Str × Value)) : Prop where
  clos : closureFor scope c.env = pure cl
  kind : scope.kind = .function
  cell : ∀ y ∈ scope.names, y.2 ≠ .cell
  names : ∀ y ∈ scope.names, y.2 = .local → scope.names.lookup y.1 = some .local
  x1 : scope.names.lookup x = some .local
  x2 : (x == ("__debug__" : Str)) = false
  ck : ∀ y ∈ cn', (relabel scope c.env).names.lookup y = some .cell ∧ y ∈ c.cn ∧ cl.lookup y = c.env.cells.lookup y
  cnd : cn'.Nodup
  gk : ∀ p ∈ gl', (relabel scope c.env).names.lookup p.1 = some .globalImplicit ∧ (p.1 == ("__debug__" : Str)) = false ∧ GlRes mg p

theorem comp_go {K0 h0 K : PM} {s : Shared} {elt iter : Expr} {x : Str} {px pos : Pos} {scope : Scope} {cl : List (Str × Addr)} {cn' : List Str} {gl' : List (Str × Value)} {cel' : List (Option PV)} {l lr : List PV} {oI : Obj} {a : Addr} {oa : Obj} {n : Nat} {P : Nat → Value → Prop} {Stt : Nat → Heap → Prop}
    (S : St H0 mg mb c K0 h0 K σ s) (F : CompFr mg c scope cl x cn' gl') (hcel : ∀ (i : Nat) y p, cn'[i]? = some y → cel'[i]? = some (some p) → ∃ j : Nat, c.cn[j]? = some y ∧ σ.cel[j]? = some (some p))
    (he : ∀ (C : Addr) (i : Nat) p q, l[i]? = some p → lr[i]? = some q → Ev prog w H0 mg mb (cFc c scope cl C x cn' gl') ⟨[some p], cel', none⟩ elt q) (hlr : lr.length = l.length) (hz : l.length ≤ 900)
    (W : Walks prog w c.A s.heap.objs.size [s.heap.objs.size, a] [s.heap.objs.size] n P Stt) (hst : Stt 0 (s.heap.push oI)) (hIs : ∀ i h, Stt i h → h.get? s.heap.objs.size ≠ none) (hfr : oI.isFreed = false) (ha : K a = some oa)
    (hn : l.length = n) (hP : ∀ i v p, P i v → l[i]? = some p → Rep K v p) :
    wpAny (model prog w) c.A (newList []) (fun acc s₃ => wpAny (model prog w) c.A (newFunctionEnv scope c.env.globals cl [] c.env.qual none .none (some c.env)) (fun cenv s₄ =>
      codeAny (model prog w) c.A (.compStart (.ListComp elt [⟨.Name x px, iter, [], 0⟩] scope pos) 0 (.ref s.heap.objs.size) acc { cenv with scope := relabel scope c.env })
        (compPost (model prog w) c.A E0 none (PostE K s (.list lr)) acc cenv.locals) s₄) E0 s₃) E0 { s with heap := s.heap.push oI } := by
  refine wpAny_newObj_type (wpAny_newFunctionEnv F.cell (by intro y hy; simp at hy) (fun h₁ hns₁ hsb₁ => ?_) F.kind)
  dsimp only at hns₁ hsb₁ ⊢
  generalize hII : s.heap.objs.size = I at *
  generalize hH1 : s.heap.push oI = H1 at *
  have hD0 : H1.objs.size = I + 1 := by rw [← hH1, Heap.size_push, hII]
  generalize hDD : H1.objs.size = D at *
  generalize hH2 : H1.push { cls := .type "list", dict := none, data := .seq ([] : List Value).toArray } = H2 at hns₁ hsb₁ ⊢
  have hC0 : H2.objs.size = I + 2 := by rw [← hH2, Heap.size_push, hDD, hD0]
  generalize hCC : H2.objs.size = C at *
  have nI : s.heap.get? I = none := by rw [← hII]; exact get?_size_none _
  have lt0 : ∀ b o, s.heap.get? b = some o → @LT.lt Nat _ b I := fun b o e => hII ▸ Heap.lt_size e
  have nD : s.heap.get? D = none := by
    cases q : s.heap.get? D with
    | none => rfl
    | some o => have := lt0 _ _ q; omega
  have nC : s.heap.get? C = none := by
    cases q : s.heap.get? C with
    | none => rfl
    | some o => have := lt0 _ _ q; omega
  have hID : I ≠ D := by omega
  have hIC : I ≠ C := by omega
  have hDC : D ≠ C := by omega
  have k1 : ∀ b o, H1.get? b = some o → h₁.get? b = some o := fun b o e => by
    have hb : @LT.lt Nat _ b D := hDD ▸ Heap.lt_size e
    have hlt : @LT.lt Nat _ D C := by rw [hD0, hC0]; exact Nat.lt_succ_self _
    exact hsb₁.extBut b o (Nat.ne_of_lt (Nat.lt_trans hb hlt)) (Heap.get?_push_of_some _ (hH2 ▸ Heap.get?_push_of_some _ e))
  have k0 : ∀ b o, s.heap.get? b = some o → h₁.get? b = some o := fun b o e => k1 b o (hH1 ▸ Heap.get?_push_of_some _ e)
  have hI1 : h₁.get? I = some oI := k1 _ _ (by rw [← hH1, ← hII]; exact Heap.get?_push_size _ hfr)
  have hD1 : h₁.PlainList D #[] := ⟨_, hsb₁.extBut _ _ hDC (Heap.get?_push_of_some _ (by rw [← hH2, ← hDD]; exact Heap.get?_push_size _ rfl))⟩
  have hst₁ : Stt 0 h₁ := W.frame _ _ _ hst fun b _ o e => k1 b o e
  have Ksub := S.sub
  have hKI : K I = none := by
    cases q : K I with
    | none => rfl
    | some o => rw [Ksub _ _ q] at nI; cases nI
  have hKD : K D = none := by
    cases q : K D with
    | none => rfl
    | some o => rw [Ksub _ _ q] at nD; cases nD
  have hKC : K C = none := by
    cases q : K C with
    | none => rfl
    | some o => rw [Ksub _ _ q] at nC; cases nC
  have haD : a ≠ D := fun e => by rw [e, hKD] at ha; cases ha
  have haC : a ≠ C := fun e => by rw [e, hKC] at ha; cases ha
  have frm : ∀ b ∈ [I, D], s.heap.get? b = none := fun b hb => by
    rcases List.mem_cons.mp hb with rfl | hb
    · exact nI
    · rw [List.mem_singleton.mp hb]; exact nD
  have hcOff := S.cellsOff frm
  have hw : ∀ h : Heap, (h.get? I ≠ none) → (∃ ys, h.PlainList D ys) → ∀ b ∈ [I, D], K b = none ∧ h.get? b ≠ none := fun h h1 ⟨ys, n', h2⟩ b hb => by
    rcases List.mem_cons.mp hb with rfl | hb
    · exact ⟨hKI, h1⟩
    · rw [List.mem_singleton.mp hb]; exact ⟨hKD, by rw [h2]; exact nofun⟩
  -- the first state of the inner frame
  have S₀ : ∀ tk, St H0 mg mb (cFc c scope cl C x cn' gl') K (gd s.heap.get? [I, D] h₁.get?) K ⟨[none], cel', none⟩ { s with heap := h₁, toks := tk } := by
    intro tk
    have Swf := S.wf
    obtain ⟨m, B, V, Cc, O⟩ := S
    have gI : gd s.heap.get? [I, D] h₁.get? I ≠ none := by rw [gd_in (.head _), hI1]; exact nofun
    refine ⟨_, ⟨⟨Swf.G, F.kind, fun y hy => ?_, by show [x].Nodup; simp, fun y hy => ?_, F.cnd, fun y hy z hz e => ?_, F.gk, Swf.gg, Swf.gb, Swf.room⟩, hns₁, B.base, ⟨fun _ _ e => e, fun _ _ e => .inl e, fun b o e => ?_, fun b o e => k0 b o (Ksub b o e)⟩, ?_, hKC, fun y b hy hb => ?_, fun e => nomatch e⟩, fun i y p hy hp => ?_, fun i y p hy hp => ?_, fun i l' e => nomatch e⟩
    · rw [List.mem_singleton.mp hy]
      exact ⟨lookup_relabel_local F.x1, F.x2⟩
    · obtain ⟨g1, g2, g3⟩ := F.ck y hy
      obtain ⟨f1, f2, b, f3⟩ := Swf.ck y g2
      exact ⟨g1, f2, b, g3.trans f3⟩
    · obtain ⟨g1, g2, g3⟩ := F.ck y hy
      obtain ⟨f1, f2, f3⟩ := F.ck z hz
      exact Swf.cd y g2 z f2 (by rw [← g3, ← f3]; exact e)
    · by_cases hb : b ∈ [I, D]
      · rw [gd_in hb] at e; exact e
      · rw [gd_out hb] at e; exact k0 b o e
    · show gd _ _ _ C = none
      rw [gd_out (by simp; exact ⟨Ne.symm hIC, Ne.symm hDC⟩)]; exact nC
    · obtain ⟨g1, g2, g3⟩ := F.ck y hy
      have hb' : c.env.cells.lookup y = some b := by rw [← g3]; exact hb
      obtain ⟨f1, f2, v, o, ho, hd⟩ := B.offC y b g2 hb'
      exact ⟨f1, fun e => (by have e' : b = C := e; rw [e', nC] at ho; cases ho), v, o, k0 _ _ ho, hd⟩
    · match i, hy, hp with
      | 0, _, hp => simp at hp
      | i + 1, _, hp => simp at hp
    · obtain ⟨j, h1, h2⟩ := hcel i y p hy hp
      obtain ⟨b, v, hb, ⟨o, ho, hd⟩, r⟩ := Cc j y p h1 h2
      obtain ⟨g1, g2, g3⟩ := F.ck y (List.mem_of_getElem? hy)
      exact ⟨b, v, g3.trans hb, ⟨o, k0 _ _ ho, hd⟩, r⟩
  have cOff' : ∀ y b, y ∈ cn' → cl.lookup y = some b → b ∉ [I, D] := fun y b hy hb => by
    obtain ⟨g1, g2, g3⟩ := F.ck y hy
    exact hcOff y b g2 (by rw [← g3]; exact hb)
  have loop : ∀ s₃ : Shared, s₃ = { s with heap := h₁, toks := s.toks + ([] : List (Str × Value)).length } →
      codeAny (model prog w) c.A (.compLoop (.ListComp elt [⟨.Name x px, iter, [], 0⟩] scope pos) 0 (.ref I) (.ref D) (compEnvC scope cl C c.env))
        (compPost (model prog w) c.A E0 none (PostE K s (.list lr)) (.ref D) C) s₃ := by
    rintro s₃ rfl
    refine codeAny_compLoop_list (fun k s' => ∃ i K' h' tk' ys o, s' = { s with heap := h', toks := tk' } ∧ k = n - i ∧ i ≤ n ∧ Stt i h' ∧ h'.PlainList D ys ∧ Reps K' ys.toList (lr.take i) ∧
      St H0 mg mb (cFc c scope cl C x cn' gl') K (gd s.heap.get? [I, D] h'.get?) K' ⟨[o], cel', none⟩ s') ?_ n
      ⟨0, K, h₁, s.toks + ([] : List (Str × Value)).length, #[], none, rfl, rfl, Nat.zero_le _, hst₁, hD1, by simpa using Reps.nil, S₀ _⟩
    rintro k s' ⟨i, K', h', tk', ys, o', rfl, rfl, hi, hst', hpl, hys, S'⟩
    have Kup : ∀ b o, K b = some o → K' b = some o := let ⟨_, B, _⟩ := S'; B.grow.up
    have hys' : ys.size = i := by
      have := hys.length
      simp only [Array.length_toList, List.length_take] at this
      omega
    by_cases hlt : i < n
    · refine W.item i { s with heap := h', toks := tk' } _ _ hlt hst' fun v h₂ t₂ hv hst₂ hk₂ => ?_
      have hpl₂ : h₂.PlainList D ys := hpl.at fun o e => hk₂ D o (by simpa using Ne.symm hID) e
      have S₂ := S'.step (t₁ := t₂) (h₁ := h₂) (hw h' (hIs _ _ hst') ⟨_, hpl⟩) cOff' (fun b o hb e => hk₂ b o (fun hm => hb (by rw [List.mem_singleton.mp hm]; exact .head _)) e)
      have hw₂ := hw h₂ (hIs _ _ hst₂) ⟨_, hpl₂⟩
      have hli : i < l.length := by omega
      have hR : Rep K' v l[i] := (hP i v l[i] hv (by simp [hli])).mono Kup
      have B1 : Bind1 (cFc c scope cl C x cn' gl') ⟨[o'], cel', none⟩ x l[i] ⟨[some l[i]], cel', none⟩ := Bind1.loc (σ := ⟨[o'], cel', none⟩) 0 rfl (fun _ _ e => nomatch e)
      refine wpAny_assign_Name (wpAny_mono (B1.run S₂ hR (Q := fun _ s' => ∃ h₃ t₃, s' = { s with heap := h₃, toks := t₃ } ∧ St H0 mg mb (cFc c scope cl C x cn' gl') K (gd s.heap.get? [I, D] h₂.get?) K' ⟨[some l[i]], cel', none⟩ { s with heap := h₃, toks := t₃ }) fun h₃ t₃ S₃ => ⟨h₃, t₃, rfl, S₃⟩) (fun _ s' q => ?_) fun _ _ f => f.elim)
      obtain ⟨h₃, t₃, rfl, S₃⟩ := q
      obtain ⟨e1, e2⟩ := S₃.same (fun b hb => (hw₂ b hb).2)
      have S₃' := S₃
      rw [e1] at S₃'
      have hpl₃ : h₃.PlainList D ys := hpl₂.at fun o e => (e2 D (by simp)).trans e
      have a₂ : h₂.get? a = some oa := S₂.sub a oa (Kup a oa ha)
      have hst₃ : Stt (i + 1) h₃ := W.frame _ _ _ hst₂ fun b hb o e => by
        rcases List.mem_cons.mp hb with rfl | hb
        · exact (e2 b (by simp)).trans e
        · rw [List.mem_singleton.mp hb] at e ⊢
          rw [a₂] at e; cases e
          exact S₃.sub a oa (Kup a oa ha)
      have hlri : i < lr.length := by omega
      refine wpAny_mono ((he C i l[i] lr[i] (by simp [hli]) (by simp [hlri])).run _ _ _ _ S₃') (fun y s₄ q => ?_) fun _ _ f => f.elim
      obtain ⟨K₄, h₄, t₄, rfl, G₄, R₄⟩ := q
      have S₄ := S₃'.grow (tk' := t₄) G₄
      have hpl₄ : h₄.PlainList D ys := hpl₃.at fun o e => G₄.keep D o e
      have hst₄ : Stt (i + 1) h₄ := W.frame _ _ _ hst₃ fun b hb o e => G₄.keep b o e
      refine wpAny_list_append_plain (hsz := by simp [sizeLine_eq]; omega) hpl₄ fun h₅ hl₅ hs₅ => ?_
      have keep3 : gd s.heap.get? [I, D] h₃.get? = gd s.heap.get? [I, D] h₄.get? := by
        funext b
        by_cases hb : b ∈ [I, D]
        · rw [gd_in hb, gd_in hb]
          cases q : h₃.get? b with
          | none => exact absurd q (hw h₃ (hIs _ _ hst₃) ⟨_, hpl₃⟩ b hb).2
          | some o => exact (G₄.keep b o q).symm
        · rw [gd_out hb, gd_out hb]
      have S₄' : St H0 mg mb (cFc c scope cl C x cn' gl') K (gd s.heap.get? [I, D] h₄.get?) K₄ ⟨[some l[i]], cel', none⟩ { s with heap := h₄, toks := t₄ } := by rw [← keep3]; exact S₄
      have S₅ := S₄'.step (t₁ := t₄) (h₁ := h₅) (hw h₄ (hIs _ _ hst₄) ⟨_, hpl₄⟩) cOff' (fun b o hb e => (hs₅.2 b (fun q => hb (by rw [q]; simp))).trans e)
      refine ⟨n - (i + 1), by omega, i + 1, K₄, h₅, t₄, ys.push y, some l[i], rfl, rfl, hlt, ?_, hl₅, ?_, S₅⟩
      · refine W.frame _ _ _ hst₄ fun b hb o e => (hs₅.2 b fun q => ?_).trans e
        rcases List.mem_cons.mp hb with rfl | hb
        · exact hID q
        · rw [List.mem_singleton.mp hb] at q; exact haD q
      · have := (hys.mono G₄.up).append (.cons R₄ .nil)
        rw [Array.toList_push, List.take_add_one, List.getElem?_eq_getElem hlri]
        exact this
    · have hin : i = n := by omega
      subst hin
      refine W.done { s with heap := h', toks := tk' } _ _ hst' fun h₂ t₂ hk₂ => ?_
      have hpl₂ : h₂.PlainList D ys := hpl.at fun o e => hk₂ D o (by simpa using Ne.symm hID) e
      have hk₂' : ∀ b o, b ≠ I → h'.get? b = some o → h₂.get? b = some o := fun b o hb e => hk₂ b o (by simpa using hb) e
      obtain ⟨m, B, V, Cc, O⟩ := S'
      have hnsC : h₂.Ns C m := B.ns.at' fun o e => hk₂' C o (Ne.symm hIC) e
      have hK'C : K' C = none := B.offL
      have hK'I : K' I = none := by
        cases q : K' I with
        | none => rfl
        | some o =>
          rcases B.grow.new I o q with e | e
          · rw [hKI] at e; cases e
          · rw [gd_in (.head _)] at e; exact absurd e (hIs _ _ hst')
      have hK'D : K' D = none := by
        cases q : K' D with
        | none => rfl
        | some o =>
          rcases B.grow.new D o q with e | e
          · rw [hKD] at e; cases e
          · obtain ⟨n', hp⟩ := hpl
            rw [gd_in (by simp), hp] at e; cases e
      refine ⟨m, hnsC, fun h'' hs'' => ?_⟩
      obtain ⟨n', hp⟩ := hpl₂
      have hpD : h''.get? D = some { cls := .type "list", dict := none, data := .seq ys n' } := (hs''.2 D hDC).trans hp
      refine ⟨addK K' D { cls := .type "list", dict := none, data := .seq ys n' }, h'', t₂, rfl, ⟨fun b o e => ?_, fun b o e => ?_, fun b o e => ?_, fun b o e => ?_⟩, ?_⟩
      · have e' := Kup b o e
        unfold addK
        by_cases hb : b = D
        · subst hb; rw [hKD] at e; cases e
        · rw [if_neg hb]; exact e'
      · unfold addK at e
        by_cases hb : b = D
        · subst hb; exact .inr nD
        · rw [if_neg hb] at e
          rcases B.grow.new b o e with e' | e'
          · exact .inl e'
          · by_cases hb2 : b = I
            · subst hb2; exact .inr nI
            · rw [gd_out (by simp; exact ⟨hb2, hb⟩)] at e'; exact .inr e'
      · have hb1 := lt0 b o e
        have bI : b ≠ I := fun q => by rw [q, nI] at e; cases e
        have bD : b ≠ D := fun q => by rw [q, nD] at e; cases e
        have bC : b ≠ C := fun q => by rw [q, nC] at e; cases e
        have e1 : h'.get? b = some o := B.grow.keep b o (by rw [gd_out (by simp; exact ⟨bI, bD⟩)]; exact e)
        exact (hs''.2 b bC).trans (hk₂' b o bI e1)
      · unfold addK at e
        by_cases hb : b = D
        · subst hb; rw [if_pos rfl] at e; cases e; exact hpD
        · rw [if_neg hb] at e
          have hbC : b ≠ C := fun q => by rw [q, hK'C] at e; cases e
          have hbI : b ≠ I := fun q => by rw [q, hK'I] at e; cases e
          exact (hs''.2 b hbC).trans (hk₂' b o hbI (B.grow.sub b o e))
      · have hl : lr.take l.length = lr := by rw [← hlr]; exact List.take_length
        have up : ∀ b o, K' b = some o → addK K' D { cls := .type "list", dict := none, data := .seq ys n' } b = some o := fun b o e => by
          unfold addK
          by_cases hb : b = D
          · subst hb; rw [hK'D] at e; cases e
          · rw [if_neg hb]; exact e
        have := hys.mono up
        rw [← hn, hl] at this
        exact .list (o := { cls := .type "list", dict := none, data := .seq ys n' }) (vs := ys.toList) (n := n') (if_pos rfl) rfl (by simp) this
  exact codeAny_compStart_list (loop _ rfl) (W.self 0 _ _ _ hst₁ (loop _ rfl))

/-- [elt for x in iter] -/
theorem Ev.comp {elt iter : Expr} {x : Str} {px pos : Pos} {scope : Scope} {cl : List (Str × Addr)} {cn' : List Str} {gl' : List (Str × Value)} {cel' : List (Option PV)} {p : PV} {l lr : List PV}
    (hi : Ev prog w H0 mg mb c σ iter p) (hp : p = .list l ∨ p = .tup l) (F : CompFr mg c scope cl x cn' gl') (hcel : ∀ (i : Nat) y p, cn'[i]? = some y → cel'[i]? = some (some p) → ∃ j : Nat, c.cn[j]? = some y ∧ σ.cel[j]? = some (some p))
    (he : ∀ (C : Addr) (i : Nat) p q, l[i]? = some p → lr[i]? = some q → Ev prog w H0 mg mb (cFc c scope cl C x cn' gl') ⟨[some p], cel', none⟩ elt q) (hlr : lr.length = l.length) (hz : l.length ≤ 900)
    (hs : ∀ v, foldedSetIterable iter c.env v = pure v) : Ev prog w H0 mg mb c σ (.ListComp elt [⟨.Name x px, iter, [], 0⟩] scope pos) (.list lr) := .mk fun K0 h0 K s S => by
  rw [eval_ListComp]
  refine wpAny_comprehension_free (use := none) rfl hs F.clos F.kind F.names (hi.bind S fun v K₁ h₁ t₁ G₁ R₁ S₁ => ?_)
  have after : ∀ (v : Value) (s' : Shared), PostE K₁ { s with heap := h₁, toks := t₁ } (.list lr) v s' → PostE K s (.list lr) v s' := fun v s' P => PostE.after G₁ P
  have hk : ∀ (Q Q' : Value → Shared → Prop), (∀ v s', Q v s' → Q' v s') → ∀ acc C r s', compPost (model prog w) c.A E0 none Q acc C r s' → compPost (model prog w) c.A E0 none Q' acc C r s' := by
    intro Q Q' hQ acc C r s' P
    cases r with
    | ok f => obtain ⟨m, h1, h2⟩ := P; exact ⟨m, h1, fun h' hs => hQ _ _ (h2 h' hs)⟩
    | error e => exact P
  have lift : ∀ {s₂ : Shared} {it : Value}, wpAny (model prog w) c.A (newList []) (fun acc s₃ => wpAny (model prog w) c.A (newFunctionEnv scope c.env.globals cl [] c.env.qual none .none (some c.env)) (fun cenv s₄ =>
      codeAny (model prog w) c.A (.compStart (.ListComp elt [⟨.Name x px, iter, [], 0⟩] scope pos) 0 it acc { cenv with scope := relabel scope c.env })
        (compPost (model prog w) c.A E0 none (PostE K₁ { s with heap := h₁, toks := t₁ } (.list lr)) acc cenv.locals) s₄) E0 s₃) E0 s₂ → wpAny (model prog w) c.A (newList []) (fun acc s₃ => wpAny (model prog w) c.A (newFunctionEnv scope c.env.globals cl [] c.env.qual none .none (some c.env)) (fun cenv s₄ =>
      codeAny (model prog w) c.A (.compStart (.ListComp elt [⟨.Name x px, iter, [], 0⟩] scope pos) 0 it acc { cenv with scope := relabel scope c.env })
        (compPost (model prog w) c.A E0 none (PostE K s (.list lr)) acc cenv.locals) s₄) E0 s₃) E0 s₂ := fun H =>
    wpAny_mono H (fun acc s₃ H => wpAny_mono H (fun cenv s₄ H => codeAny_mono H fun r s' q => hk _ _ after _ _ _ _ q) fun _ _ f => f) fun _ _ f => f
  rcases hp with rfl | rfl
  · cases R₁ with
    | list g1 g2 g3 g4 =>
      rename_i a o vs n
      have hl : Heap.IsList (Shared.heap { s with heap := h₁, toks := t₁ }) a vs.toArray := ⟨o, S₁.sub _ _ g1, g2, n, g3⟩
      have hne : a ≠ h₁.objs.size := Nat.ne_of_lt (Heap.lt_size (S₁.sub _ _ g1))
      refine wpAny_pyIter_list hl (lift (comp_go S₁ F hcel he hlr hz (Walks.list S.wf.room.handled h₁.objs.size a hne vs.toArray) ⟨⟨_, Heap.get?_push_size _ rfl, rfl, rfl⟩, hl.push _⟩ (fun i h st => ?_) rfl g1 ?_ (fun i v p hv hp => ?_)))
      · obtain ⟨⟨o', ho', _⟩, _⟩ := st
        have ho'' : h.get? h₁.objs.size = some o' := ho'
        show h.get? h₁.objs.size ≠ none
        rw [ho'']; exact nofun
      · simp [g4.length]
      · obtain ⟨v', hv', r'⟩ := g4.get i p hp
        have : vs[i]? = some v := by simpa using hv
        rw [this] at hv'; cases hv'
        exact r'
  · cases R₁ with
    | tup g1 g2 g3 g4 =>
      rename_i a o vs n
      have hl : IsTup (Shared.heap { s with heap := h₁, toks := t₁ }) a vs.toArray := ⟨o, S₁.sub _ _ g1, g2, n, g3⟩
      have hne : a ≠ h₁.objs.size := Nat.ne_of_lt (Heap.lt_size (S₁.sub _ _ g1))
      refine iter_tuple hl (lift (comp_go S₁ F hcel he hlr hz (Walks.tuple S.wf.room.handled h₁.objs.size a hne vs.toArray) ⟨⟨_, Heap.get?_push_size _ rfl, rfl, rfl⟩, hl.push _⟩ (fun i h st => ?_) rfl g1 ?_ (fun i v p hv hp => ?_)))
      · obtain ⟨⟨o', ho', _⟩, _⟩ := st
        have ho'' : h.get? h₁.objs.size = some o' := ho'
        show h.get? h₁.objs.size ≠ none
        rw [ho'']; exact nofun
      · simp [g4.length]
      · obtain ⟨v', hv', r'⟩ := g4.get i p hp
        have : vs[i]? = some v := by simpa using hv
        rw [this] at hv'; cases hv'
        exact r'
end
end Mine

namespace Mine
theorem bindL_out (k : Str → Option NameKind) (x : Str) : ∀ (r : List (Str × Value)) (m : Str → Option Value), (∀ y ∈ r, y.1 ≠ x) → bindL k r m x = m x
  | [], m, _ => rfl
  | (n, v) :: r, m, h => by
    unfold bindL
    rw [bindL_out k x r _ fun y hy => h y (.tail _ hy)]
    split
    · exact if_neg (fun e => h (n, v) (.head _) e.symm)
    · rfl
theorem bindL_in (k : Str → Option NameKind) {x : Str} {v : Value} (hk : k x = some .local) : ∀ (r : List (Str × Value)) (m : Str → Option Value), (r.map (·.1)).Nodup → (x, v) ∈ r → bindL k r m x = some v
  | [], _, _, h => by cases h
  | (n, u) :: r, m, hn, h => by
    rw [List.map_cons, List.nodup_cons] at hn
    unfold bindL
    rcases List.mem_cons.mp h with e | h'
    · cases e
      rw [bindL_out k x r _ fun y hy e => hn.1 (List.mem_map.mpr ⟨y, hy, e⟩), if_pos hk, if_pos rfl]
    · exact bindL_in k hk r _ hn.2 h'
theorem bindC_out (k : Str → Option NameKind) (x : Str) : ∀ (r : List (Str × Value)) (m : Str → Option Value), (∀ y ∈ r, y.1 ≠ x) → bindC k r m x = m x
  | [], m, _ => rfl
  | (n, v) :: r, m, h => by
    unfold bindC
    rw [bindC_out k x r _ fun y hy => h y (.tail _ hy)]
    split
    · rfl
    · exact if_neg (fun e => h (n, v) (.head _) e.symm)
theorem bindC_in (k : Str → Option NameKind) {x : Str} {v : Value} (hk : ¬ k x = some .local) : ∀ (r : List (Str × Value)) (m : Str → Option Value), (r.map (·.1)).Nodup → (x, v) ∈ r → bindC k r m x = some v
  | [], _, _, h => by cases h
  | (n, u) :: r, m, hn, h => by
    rw [List.map_cons, List.nodup_cons] at hn
    unfold bindC
    rcases List.mem_cons.mp h with e | h'
    · cases e
      rw [bindC_out k x r _ fun y hy e => hn.1 (List.mem_map.mpr ⟨y, hy, e⟩), if_neg hk, if_pos rfl]
    · exact bindC_in k hk r _ hn.2 h'

section
variable {prog : Program} {w : World} {H0 : Heap} {mg mb : Str → Option Value}

structure FnOkC (d : DefItem) (pn ln cn : List Str) (gl : List (Str × Value)) : Prop where
  dflt : d.params.defaults = []
  kind : d.scope.kind = .function
  co : d.scope.isCoroutine = false
  gen : d.scope.isGenerator = false
  bind : ∀ (pm cd doc : Value) (vs : List Value), vs.length = pn.length → bindArgs (docDef d.name d.params d.body d.scope pm cd doc) ⟨vs, []⟩ = pure (pn.zip vs)
  pk : ∀ x ∈ pn, d.scope.names.lookup x = some .local ∨ (d.scope.names.lookup x = some .cell ∧ x ∈ cn)
  pnd : pn.Nodup
  lk : ∀ x ∈ ln, d.scope.names.lookup x = some .local ∧ (x == ("__debug__" : Str)) = false
  nd : ln.Nodup
  ck : ∀ x ∈ cn, d.scope.names.lookup x = some .cell ∧ (x == ("__debug__" : Str)) = false
  cs : ∀ L x, x ∈ cn → ∃ a, (cellsFrom (L + 1) d.scope.names []).lookup x = some a
  cnd : cn.Nodup
  gk : ∀ p ∈ gl, d.scope.names.lookup p.1 = some .globalImplicit ∧ (p.1 == ("__debug__" : Str)) = false

/-- the first state of a frame with cells -/
theorem St.first {K : PM} {s : Shared} {d : DefItem} {pn ln cn : List Str} {gl : List (Str × Value)} {l : List PV} {vs : List Value} {A : Around} {a : Addr} {cd : Value} {k : Nat} {v cel : List (Option PV)} {h₁ : Heap} {tk : Nat} (G : Glo H0 mg mb) (F : FnOkC d pn ln cn gl) (hg : ∀ p ∈ gl, GlRes mg p)
    (hB : ∀ b o, H0.get? b = some o → K b = some o) (hS : ∀ b o, K b = some o → s.heap.get? b = some o) (R : Reps K vs l) (hlen : vs.length = pn.length) (room : Room A k)
    (hv : ∀ (i : Nat) x p, ln[i]? = some x → v[i]? = some (some p) → ∃ j : Nat, pn[j]? = some x ∧ l[j]? = some p) (hc : ∀ (i : Nat) x p, cn[i]? = some x → cel[i]? = some (some p) → ∃ j : Nat, pn[j]? = some x ∧ l[j]? = some p)
    (hF : Fr s.heap s.heap.objs.size h₁ (bindL (envOfC d.name d.scope s.heap.objs.size a cd).kindOf (pn.zip vs) fun _ => none))
    (X : Cl s.heap.objs.size (cellsFrom (s.heap.objs.size + 1) d.scope.names []) h₁ (bindC (envOfC d.name d.scope s.heap.objs.size a cd).kindOf (pn.zip vs) fun _ => none)) :
    St H0 mg mb ⟨A, envOfC d.name d.scope s.heap.objs.size a cd, k, ln, cn, gl, true⟩ K s.heap.get? K ⟨v, cel, none⟩ { s with heap := h₁, toks := tk } := by
  have hL : s.heap.get? s.heap.objs.size = none := get?_size_none _
  have off : ∀ b, s.heap.objs.size ≤ b → s.heap.get? b = none := fun b hb => by
    cases q : s.heap.get? b with
    | none => rfl
    | some o => exact absurd (Heap.lt_size q) (Nat.not_lt.mpr hb)
  have offK : ∀ b, s.heap.objs.size ≤ b → K b = none := fun b hb => by
    cases q : K b with
    | none => rfl
    | some o => have := hS _ _ q; rw [off b hb] at this; cases this
  have hzip : ((pn.zip vs).map (·.1)).Nodup := List.Nodup.sublist (zip_sub pn vs) F.pnd
  refine ⟨_, ⟨⟨G, F.kind, F.lk, F.nd, fun x hx => ⟨(F.ck x hx).1, (F.ck x hx).2, F.cs _ x hx⟩, F.cnd, fun x hx y hy e => ?_, fun p hp => ⟨(F.gk p hp).1, (F.gk p hp).2, hg p hp⟩, rfl, rfl, room⟩, hF.ns, hB, Grow.keepOnly hS hF.keep, hL, offK _ (Nat.le_refl _), fun x b hx hb => ?_, fun _ x b hx hb => ?_⟩, fun i x p hx hp => ?_, fun i x p hx hp => ?_, fun i l' e => nomatch e⟩
  · obtain ⟨b, hb⟩ := F.cs s.heap.objs.size x hx
    have hb' : (cellsFrom (s.heap.objs.size + 1) d.scope.names []).lookup y = some b := by
      have : (envOfC d.name d.scope s.heap.objs.size a cd).cells.lookup x = _ := e
      rw [← hb]; exact this.symm
    exact name_of_addr X.apart (mem_of_lookup hb) (mem_of_lookup hb')
  · have hlt := X.above x b (mem_of_lookup hb)
    exact ⟨offK _ (Nat.le_of_lt hlt), Nat.ne_of_gt hlt, _, X.cell x b hb⟩
  · have hlt := X.above x b (mem_of_lookup hb)
    exact off _ (Nat.le_of_lt hlt)
  · obtain ⟨j, h1, h2⟩ := hv i x p hx hp
    obtain ⟨u, hu, r⟩ := R.get j p h2
    refine ⟨u, bindL_in _ (F.lk x (List.mem_of_getElem? hx)).1 _ _ hzip (List.mem_iff_getElem?.mpr ⟨j, ?_⟩), r⟩
    rw [List.getElem?_zip_eq_some]; exact ⟨h1, hu⟩
  · obtain ⟨j, h1, h2⟩ := hc i x p hx hp
    obtain ⟨u, hu, r⟩ := R.get j p h2
    obtain ⟨b, hb⟩ := F.cs s.heap.objs.size x (List.mem_of_getElem? hx)
    have hkc := (F.ck x (List.mem_of_getElem? hx)).1
    have hm : bindC (envOfC d.name d.scope s.heap.objs.size a cd).kindOf (pn.zip vs) (fun _ => none) x = some u := by
      refine bindC_in _ (fun e => ?_) _ _ hzip (List.mem_iff_getElem?.mpr ⟨j, ?_⟩)
      · have e' : d.scope.names.lookup x = some .local := e
        rw [hkc] at e'; cases e'
      · rw [List.getElem?_zip_eq_some]; exact ⟨h1, hu⟩
    exact ⟨b, u, hb, hm ▸ X.cell x b hb, r⟩

theorem Con.introC {d : DefItem} {N : Nat} (G : Glo H0 mg mb) (hm : d.Made N mg H0) {pn ln cn : List Str} {gl : List (Str × Value)} (F : FnOkC d pn ln cn gl) (hg : ∀ p ∈ gl, GlRes mg p) {k : Nat} {l : List PV} {p : PV} {v cel : List (Option PV)} (hl : pn.length = l.length)
    (hv : ∀ (i : Nat) x p, ln[i]? = some x → v[i]? = some (some p) → ∃ j : Nat, pn[j]? = some x ∧ l[j]? = some p) (hc : ∀ (i : Nat) x p, cn[i]? = some x → cel[i]? = some (some p) → ∃ j : Nat, pn[j]? = some x ∧ l[j]? = some p)
    (h : ∀ A L a cd, Room A k → Exs prog w H0 mg mb ⟨A, envOfC d.name d.scope L a cd, k, ln, cn, gl, true⟩ ⟨v, cel, none⟩ d.body (.ret p)) : Con prog w H0 mg (k + 1) d.name l p := by
  intro A hA
  refine .mk fun K s vs hB hS R => ?_
  obtain ⟨a, c', o, pm, doc, _, _, h3, h4, h5, h6⟩ := hm.plain F.dflt
  have hfa : fa mg d.name = a := by unfold fa; rw [h3]
  rw [hfa]
  have up : ∀ b o, H0.get? b = some o → s.heap.get? b = some o := fun b o e => hS b o (hB b o e)
  have hlen : vs.length = pn.length := by rw [R.length, hl]
  refine wpAny_call (call_cells_ret (name := d.name) (params := d.params) (body := d.body) (scope := d.scope) (pm := pm) (cd := .ref c') (doc := doc) (binds := pn.zip vs) (by have := hA.depth; unfold recursionLimit; omega) (up _ _ h4) h5 (G.nolimit.keeps up) (h6.keeps up)
    (F.bind _ _ _ _ hlen) (fun x hx => ?_) (fun h₁ tk hF X => ?_) F.co F.gen F.kind)
  · obtain ⟨i, hi⟩ := List.mem_iff_getElem?.mp hx
    rw [List.getElem?_zip_eq_some] at hi
    rcases F.pk x.1 (List.mem_of_getElem? hi.1) with h | ⟨h, h'⟩
    · exact .inl h
    · obtain ⟨b, hb⟩ := F.cs s.heap.objs.size x.1 h'
      exact .inr ⟨h, by rw [hb]; rfl⟩
  · have room : Room (A.deeper (envOfC d.name d.scope s.heap.objs.size a (.ref c'))) k := ⟨hA.handled, by show A.depth + 1 + k ≤ 900; have := hA.depth; omega, by show A.units + 3 + 8 * k ≤ 900; have := hA.units; omega⟩
    have S := St.first (tk := tk) G F hg hB hS R hlen room hv hc hF X
    refine wpAny_mono ((h _ s.heap.objs.size a (.ref c') room).run K s.heap.get? K _ S) (fun f s' q => ?_) fun _ _ f => f.elim
    obtain ⟨v, K', h', tk', rfl, rfl, G', R'⟩ := q
    exact ⟨K', h', tk', rfl, G', R'⟩
end
end Mine

namespace Mine
section
variable {prog : Program} {w : World} {H0 : Heap} {mg mb : Str → Option Value} {c : Fc} {σ : Sg}

/-- a call that changes the list it is handed -/
structure CallMut (prog : Program) (w : World) (H0 : Heap) (A : Around) (f : Value) (l l' : List PV) (arg p : PV) : Prop where
  run : ∀ (K : PM) (s : Shared) (a : Addr) (o : Obj) (vs : List Value) (n : Nat) (u : Value), (∀ b o, H0.get? b = some o → K b = some o) → (∀ b o, K b = some o → s.heap.get? b = some o) →
    s.heap.get? a = some o → o.cls = .type "list" → o.dict = none → o.data = .seq vs.toArray n → Reps K vs l → K a = none → Rep K u arg →
    wpAny (model prog w) A (call f [.ref a, u]) (fun v s' => ∃ K' h' tk' o' vs' n', s' = { s with heap := h', toks := tk' } ∧ Grow K (fun b => if b = a then none else s.heap.get? b) K' h'.get? ∧ K' a = none ∧
      h'.get? a = some o' ∧ o'.cls = .type "list" ∧ o'.dict = none ∧ o'.data = .seq (List.toArray vs') n' ∧ Reps K' vs' l' ∧ Rep K' v p) E0 s

/-- an expression that may change the frame's own list -/
structure EvM (prog : Program) (w : World) (H0 : Heap) (mg mb : Str → Option Value) (c : Fc) (σ : Sg) (e : Expr) (p : PV) (σ' : Sg) : Prop where
  run : ∀ K0 h0 K s, St H0 mg mb c K0 h0 K σ s → wpAny (model prog w) c.A (eval e c.env) (fun v s' => ∃ K' h' tk', s' = { s with heap := h', toks := tk' } ∧ (∀ b o, K b = some o → K' b = some o) ∧ Rep K' v p ∧ St H0 mg mb c K0 h0 K' σ' s') E0 s
theorem EvM.of {e : Expr} {p : PV} (h : Ev prog w H0 mg mb c σ e p) : EvM prog w H0 mg mb c σ e p σ := .mk fun K0 h0 K s S =>
  h.bind S fun v K' h' tk' G R S' => ⟨K', h', tk', rfl, G.up, R, S'⟩
theorem EvM.bind {e : Expr} {p : PV} {σ' : Sg} (H : EvM prog w H0 mg mb c σ e p σ') {K0 h0 K : PM} {s : Shared} (S : St H0 mg mb c K0 h0 K σ s) {Q : Value → Shared → Prop}
    (k : ∀ v K' h' tk', (∀ b o, K b = some o → K' b = some o) → Rep K' v p → St H0 mg mb c K0 h0 K' σ' { s with heap := h', toks := tk' } → Q v { s with heap := h', toks := tk' }) :
    wpAny (model prog w) c.A (eval e c.env) Q E0 s :=
  wpAny_mono (H.run K0 h0 K s S) (fun v _ ⟨K', h', tk', e, up, R, S'⟩ => by subst e; exact k v K' h' tk' up R S') fun _ _ f => f
theorem EvM.opII {σ₁ σ₂ : Sg} {l r : Expr} {op : Operator} {pos : Pos} {a b z : Int} (hl : EvM prog w H0 mg mb c σ l (.int a) σ₁) (hr : EvM prog w H0 mg mb c σ₁ r (.int b) σ₂)
    (hop : ∀ (A : Around) (t u : Tok) (Q : Value → Shared → Prop) (s : Shared), Q (.int z s.toks) { s with toks := s.toks + 1 } → wpAny (model prog w) A (binaryOp op (.int a t) (.int b u)) Q E0 s) :
    EvM prog w H0 mg mb c σ (.BinOp l op r pos) (.int z) σ₂ := .mk fun K0 h0 K s S => by
  refine wpAny_BinOp (hl.bind S fun v K₁ h₁ t₁ G₁ R₁ S₁ => hr.bind S₁ fun v₂ K₂ h₂ t₂ G₂ R₂ S₂ => ?_)
  cases R₁; cases R₂
  refine hop _ _ _ _ _ ?_
  exact ⟨K₂, h₂, t₂ + 1, rfl, fun b o e => G₂ b o (G₁ b o e), .int _ _, S₂.grow (tk' := t₂ + 1) (Grow.refl S₂.sub)⟩
theorem EvM.add {σ₁ σ₂ : Sg} {l r : Expr} {pos : Pos} {a b : Int} (hl : EvM prog w H0 mg mb c σ l (.int a) σ₁) (hr : EvM prog w H0 mg mb c σ₁ r (.int b) σ₂) : EvM prog w H0 mg mb c σ (.BinOp l .Add r pos) (.int (a + b)) σ₂ := EvM.opII hl hr fun _ _ _ _ _ h => PyProof.Rows.add_int h
theorem EvM.sub {σ₁ σ₂ : Sg} {l r : Expr} {pos : Pos} {a b : Int} (hl : EvM prog w H0 mg mb c σ l (.int a) σ₁) (hr : EvM prog w H0 mg mb c σ₁ r (.int b) σ₂) : EvM prog w H0 mg mb c σ (.BinOp l .Sub r pos) (.int (a - b)) σ₂ := EvM.opII hl hr fun _ _ _ _ _ h => PyProof.Rows.sub_int h

theorem St.ownAt2 {K0 h0 K : PM} {s : Shared} {j : Nat} {l : List PV} {x : Str} (S : St H0 mg mb c K0 h0 K σ s) (ho : σ.own = some (j, l)) (hx : c.ln[j]? = some x) :
    ∃ a o vs n, (∀ (pos : Pos) (Q : Value → Shared → Prop) K₁ h₁ t₁, Grow K s.heap.get? K₁ h₁.get? → Q (.ref a) { s with heap := h₁, toks := t₁ } → wpAny (model prog w) c.A (eval (.Name x pos) c.env) Q E0 { s with heap := h₁, toks := t₁ }) ∧
      K a = none ∧ s.heap.get? a = some o ∧ o.cls = .type "list" ∧ o.dict = none ∧ o.data = .seq (List.toArray vs) n ∧ Reps K vs l ∧
      ∀ K₁ h₁ t₁, Grow K s.heap.get? K₁ (Heap.get? h₁) → ∀ (h₂ : Heap) o₂ vs₂ n₂ l₂, Heap.SameBut a h₁ h₂ → h₂.get? a = some o₂ → o₂.cls = .type "list" → o₂.dict = none → o₂.data = .seq (List.toArray vs₂) n₂ → Reps K₁ vs₂ l₂ →
        St H0 mg mb c K0 h0 K₁ { σ with own := some (j, l₂) } { s with heap := h₂, toks := t₁ } := by
  have S₀ := S
  obtain ⟨m, B, V, C, O⟩ := S
  obtain ⟨hn, y, a, o, vs, n, h1, h2, h3, h4, h5, h6, h7, h8, h9, h10, h11⟩ := O j l ho
  rw [hx] at h1; cases h1
  have hk := B.wf.lk x (List.mem_of_getElem? hx)
  refine ⟨a, o, vs, n, fun pos Q K₁ h₁ t₁ G hq => wpAny_Name (wpAny_loadName_local B.wf.fk hk.1 (B.ns.keeps G.keep) h2 hq) hk.2, h8, h3, h4, h5, h6, h7, ?_⟩
  intro K₁ h₁ t₁ G h₂ o₂ vs₂ n₂ l₂ hs g1 g2 g3 g4 g5
  have S₁ := S₀.grow (tk' := t₁) G
  have hKa := G.off h3 h8
  obtain ⟨m₁, B₁, V₁, C₁, O₁⟩ := S₁
  have up : ∀ b q, b ≠ a → h₁.get? b = some q → h₂.get? b = some q := fun b q hb e => (hs.2 b hb).trans e
  have offK : ∀ b q, K₁ b = some q → b ≠ a := fun b q e z => by rw [z, hKa] at e; cases e
  have off0 : ∀ b q, h0 b = some q → b ≠ a := fun b q e z => by rw [z, h9] at e; cases e
  refine ⟨m, ⟨B.wf, (B.ns.keeps G.keep).sameBut hs (Ne.symm h10), B₁.base, ⟨B₁.grow.up, B₁.grow.new, fun b q e => up b q (off0 b q e) (B₁.grow.keep b q e), fun b q e => up b q (offK b q e) (B₁.grow.sub b q e)⟩, B.freshL, B₁.offL, fun y b hy hb => ?_, B.frC⟩, fun i y p hy hp => ?_, fun i y p hy hp => ?_, fun i l' e => ?_⟩
  · obtain ⟨k1, k2, v, hv⟩ := B₁.offC y b hy hb
    exact ⟨k1, k2, v, hv.sameBut hs (h11 y b hy hb)⟩
  · obtain ⟨v, hv, r⟩ := V i y p hy hp
    exact ⟨v, hv, r.mono G.up⟩
  · obtain ⟨b, v, hb, hv, r⟩ := C₁ i y p hy hp
    exact ⟨b, v, hb, hv.sameBut hs (h11 y b (List.mem_of_getElem? hy) hb), r⟩
  · cases e
    exact ⟨hn, x, a, o₂, vs₂, n₂, hx, h2, g1, g2, g3, g4, g5, hKa, h9, h10, h11⟩


/-- f(own, e) -/
theorem EvM.call {f x : Str} {fp np pos : Pos} {e : Expr} {A0 : Addr} {o0 : Obj} {fd : FuncData} {j : Nat} {l l' : List PV} {v cel : List (Option PV)} {arg p : PV}
    (hf : Ev prog w H0 mg mb c ⟨v, cel, some (j, l)⟩ (.Name f fp) (.val (.ref A0))) (ho : H0.get? A0 = some o0) (hd : o0.data = .func fd) (hx : At c.ln j x) (he : Ev prog w H0 mg mb c ⟨v, cel, some (j, l)⟩ e arg)
    (hc : CallMut prog w H0 c.A (.ref A0) l l' arg p)
    (hs1 : starEach [.Name x np, e] c.env = (false, eval (.Name x np) c.env) :: starEach [e] c.env) (hs2 : starEach [e] c.env = (false, eval e c.env) :: starEach [] c.env) :
    EvM prog w H0 mg mb c ⟨v, cel, some (j, l)⟩ (.Call (.Name f fp) [.Name x np, e] [] pos) p ⟨v, cel, some (j, l')⟩ := .mk fun K0 h0 K s S => by
  refine Call_Name rfl (hf.bind S fun u K₁ h₁ t₁ G₁ R₁ S₁ => ?_)
  cases R₁
  obtain ⟨a, o, vs, n, hev, hKa, g3, g4, g5, g6, g7, back⟩ := S₁.ownAt2 (prog := prog) (w := w) rfl hx.get
  refine callWith_def hd (wpAny_items_cons (hev _ _ K₁ h₁ t₁ (Grow.refl S₁.sub) ((EvL.cons he EvL.nil hs2).bind S₁ fun us K₂ h₂ t₂ G₂ R₂ S₂ => ⟨S₂.sub _ _ (S₂.base _ _ ho), ?_⟩)) hs1) hs1
  cases R₂ with
  | cons R R' =>
    cases R'
    have hK2a := G₂.off g3 hKa
    have g3' := G₂.keep _ _ g3
    refine wpAny_mono (hc.run K₂ { s with heap := h₂, toks := t₂ } a o vs n _ S₂.base S₂.sub g3' g4 g5 g6 (g7.mono G₂.up) hK2a R) (fun y s' P => ?_) fun _ _ f => f
    obtain ⟨K₃, h₃, t₃, o₃, vs₃, n₃, rfl, G₃, hK3a, q1, q2, q3, q4, q5, q6⟩ := P
    obtain ⟨n₄, hd₄⟩ := Obj.data_mapSeq g6 id
    have hfr : o.isFreed = false := Obj.isFreed_of_seq g6
    have hsame : Heap.SameBut a h₃ (h₃.update a fun _ => o) := Heap.SameBut.update ..
    have hself : (h₃.update a fun _ => o).get? a = some o := Heap.get?_update_self _ q1 hfr
    have G₅ : Grow K₂ h₂.get? K₃ (h₃.update a fun _ => o).get? := by
      refine ⟨G₃.up, fun b ob e => ?_, fun b ob e => ?_, fun b ob e => ?_⟩
      · rcases G₃.new b ob e with e' | e'
        · exact .inl e'
        · by_cases hb : b = a
          · subst hb; rw [hK3a] at e; cases e
          · rw [if_neg hb] at e'; exact .inr e'
      · by_cases hb : b = a
        · subst hb
          rw [hself]
          exact g3'.symm.trans e
        · exact (hsame.2 b hb).trans (G₃.keep b ob (by rw [if_neg hb]; exact e))
      · by_cases hb : b = a
        · subst hb; rw [hK3a] at e; cases e
        · exact (hsame.2 b hb).trans (G₃.sub b ob e)
    have Sf := back K₃ (h₃.update a fun _ => o) t₃ (G₂.trans G₅) h₃ o₃ vs₃ n₃ l' ⟨hsame.1.symm, fun b hb => (hsame.2 b hb).symm⟩ q1 q2 q3 q4 q5
    exact ⟨K₃, h₃, t₃, rfl, fun b ob e => G₃.up b ob (G₂.up b ob (G₁.up b ob e)), q6, Sf⟩

/-- a def f(own, arg) whose first statement is own[0] = own[0] + 1 and whose rest only reads -/
theorem mutIntro {d : DefItem} {N : Nat} (G : Glo H0 mg mb) (hm : d.Made N mg H0) {x y : Str} {gl : List (Str × Value)} (F : FnOk d [x, y] ([x, y] ++ []) gl) (hg : ∀ p ∈ gl, GlRes mg p) {k : Nat} {i r : Int} {l : List PV} {arg : PV} {np np' spos spos' bpos cpos cpos' cpos'' pos : Pos} {k1 k2 k3 : Nat} {rest : List Stmt}
    (hb : d.body = .Assign [.Subscript (.Name x np) (.Constant (.int 0) k1 cpos) spos] (.BinOp (.Subscript (.Name x np') (.Constant (.int 0) k2 cpos') spos') .Add (.Constant (.int 1) k3 cpos'') bpos) pos :: rest)
    (hsw : ∀ L a cd, swapsWith (.BinOp (.Subscript (.Name x np') (.Constant (.int 0) k2 cpos') spos') .Add (.Constant (.int 1) k3 cpos'') bpos) (some (.Subscript (.Name x np) (.Constant (.int 0) k1 cpos) spos)) pos.line (envOf d.name d.scope L a cd) = pure false)
    (h2 : ∀ A L a cd, Room A k → Exs prog w H0 mg mb ⟨A, envOf d.name d.scope L a cd, k, [x, y], [], gl, true⟩ ⟨[some (.list (.int (i + 1) :: l)), some arg], [], none⟩ rest (.ret (.int r))) (hln : l.length ≤ 900) {A : Around} (hA : Room A (k + 1)) :
    CallMut prog w H0 A (.ref (fa mg d.name)) (.int i :: l) (.int (i + 1) :: l) arg (.int r) := .mk fun K s a0 o0 vs n u hB hS ho hcl hdi hda R hKa Ru => by
  obtain ⟨a, c', o, pm, doc, _, _, h3, h4, h5, h6⟩ := hm.plain F.dflt
  have hfa : fa mg d.name = a := by unfold fa; rw [h3]
  rw [hfa]
  have up : ∀ b o, H0.get? b = some o → s.heap.get? b = some o := fun b o e => hS b o (hB b o e)
  cases R with
  | @cons v0 _ vs' _ r0 rs =>
  cases r0
  rename_i t0
  refine wpAny_call (codeAny_call_def (fd := docDef d.name d.params d.body d.scope pm (.ref c') doc) (body := d.body) (binds := [x, y].zip [.ref a0, u]) (by have := hA.depth; unfold recursionLimit; omega) (up _ _ h4) h5 (G.nolimit.keeps up) (h6.keeps up) rfl
    (BindsTo.of_eq (F.bind _ _ _ _ rfl)) F.cells (fun z hz => ?_) (fun h₀ hns hk => ?_) F.co F.gen F.kind)
  · obtain ⟨i, hi⟩ := List.mem_iff_getElem?.mp hz
    rw [List.getElem?_zip_eq_some] at hi
    exact (F.lk z.1 (List.mem_append_left _ (List.mem_of_getElem? hi.1))).1
  · have room : Room (A.deeper (callEnv (docDef d.name d.params d.body d.scope pm (.ref c') doc) s.heap.objs.size a)) k := ⟨hA.handled, by show A.depth + 1 + k ≤ 900; have := hA.depth; omega, by show A.units + 3 + 8 * k ≤ 900; have := hA.units; omega⟩
    have hL : s.heap.get? s.heap.objs.size = none := get?_size_none _
    have haL : a0 ≠ s.heap.objs.size := Nat.ne_of_lt (Heap.lt_size ho)
    have hx1 := F.lk x (.head _)
    have hmx : ([x, y].zip [Value.ref a0, u]).reverse.lookup x = some (.ref a0) := lookup_zip (List.Nodup.sublist (List.sublist_append_left _ _) F.nd) 0 x _ rfl rfl
    have hmy : ([x, y].zip [Value.ref a0, u]).reverse.lookup y = some u := lookup_zip (List.Nodup.sublist (List.sublist_append_left _ _) F.nd) 1 y _ rfl rfl
    have hl₀ : h₀.IsList a0 (Value.int i t0 :: vs').toArray := ⟨o0, hk _ _ ho, hcl, n, hda⟩
    have ldx : ∀ (pos : Pos) (Q : Value → Shared → Prop) (s' : Shared) (A' : Around), s'.heap = h₀ → Q (.ref a0) s' → wpAny (model prog w) A' (eval (.Name x pos) (callEnv (docDef d.name d.params d.body d.scope pm (.ref c') doc) s.heap.objs.size a)) Q E0 s' := fun pos Q s' A' e hq =>
      wpAny_Name (wpAny_loadName_local F.kind hx1.1 (e ▸ hns) hmx hq) hx1.2
    have hbody : (docDef d.name d.params d.body d.scope pm (.ref c') doc).name = d.name := rfl
    refine wpAny_mono (Q := fun f s' => ∃ v K' h' tk' o' vs'' n', f = .ret v ∧ s' = { s with heap := h', toks := tk' } ∧ Grow K (fun b => if b = a0 then none else s.heap.get? b) K' h'.get? ∧ K' a0 = none ∧
      h'.get? a0 = some o' ∧ o'.cls = .type "list" ∧ o'.dict = none ∧ o'.data = .seq (List.toArray vs'') n' ∧ Reps K' vs'' (.int (i + 1) :: l) ∧ Rep K' v (.int r)) (E := E0) ?_ (fun f s' q => ?_) fun _ _ f => f.elim
    · rw [hb]
      refine wpAny_execs_cons ?_
      refine wpAny_Assign_Subscript (wpAny_BinOp (Subscript_ (ldx _ _ _ _ rfl (wpAny_Constant_int (tail_any hl₀.typeIs slot_list_getitem.lookup (wpAny_getItem_list hl₀ (by decide) (by decide) rfl (wpAny_Constant_int (PyProof.Rows.add_int ?_))) rfl))))) (hsw _ _ _)
      refine ldx _ _ _ _ rfl (wpAny_Constant_int ?_)
      refine setItem_core (s := { s with heap := h₀, toks := _ }) (hk _ _ ho) hcl hdi hda (by decide) (by simp) ?_ fun h' o' n' hs g1 g2 g3 g4 => ?_
      · rw [List.length_cons, rs.length]; omega
      have kK : ∀ b o, K b = some o → b ≠ a0 := fun b o e q => by rw [q, hKa] at e; cases e
      have upK : ∀ b o, K b = some o → addK K a0 o' b = some o := fun b o e => by unfold addK; rw [if_neg (kK b o e)]; exact e
      have kh : ∀ b o, b ≠ a0 → s.heap.get? b = some o → h'.get? b = some o := fun b o hb e => (hs.2 b hb).trans (hk b o e)
      have hKL : K s.heap.objs.size = none := by
        cases q : K s.heap.objs.size with
        | none => rfl
        | some o' => have := hS _ _ q; rw [hL] at this; cases this
      have subK : ∀ b o, addK K a0 o' b = some o → h'.get? b = some o := fun b o e => by
        unfold addK at e
        by_cases hb : b = a0
        · subst hb; rw [if_pos rfl] at e; cases e; exact g1
        · rw [if_neg hb] at e; exact kh b o hb (hS b o e)
      have S : ∀ tk, St H0 mg mb ⟨A.deeper (callEnv (docDef d.name d.params d.body d.scope pm (.ref c') doc) s.heap.objs.size a), envOf d.name d.scope s.heap.objs.size a (.ref c'), k, [x, y], [], gl, true⟩ (addK K a0 o') (fun b => if b = s.heap.objs.size then none else h'.get? b) (addK K a0 o')
          ⟨[some (.list (.int (i + 1) :: l)), some arg], [], none⟩ { s with heap := h', toks := tk } := by
        intro tk
        refine ⟨_, ⟨⟨G, F.kind, F.lk, F.nd, by simp, .nil, by simp, fun q hq => ⟨(F.gk q hq).1, (F.gk q hq).2, hg q hq⟩, rfl, rfl, room⟩, hns.sameBut hs (Ne.symm haL), fun b o e => upK b o (hB b o e), ⟨fun _ _ e => e, fun _ _ e => .inl e, fun b o e => ?_, subK⟩, if_pos rfl, ?_, by simp, by simp⟩, fun j z q hz hq => ?_, by simp, fun i l' e => nomatch e⟩
        · by_cases hb' : b = s.heap.objs.size
          · rw [if_pos hb'] at e; cases e
          · rw [if_neg hb'] at e; exact e
        · show addK K a0 o' s.heap.objs.size = none
          unfold addK; rw [if_neg (Ne.symm haL)]; exact hKL
        · match j, hz, hq with
          | 0, hz, hq =>
            cases hz; cases hq
            exact ⟨_, hmx, .list (o := o') (if_pos rfl) g2 g4 (.cons (.int _ _) (rs.mono upK))⟩
          | 1, hz, hq =>
            cases hz; cases hq
            exact ⟨_, hmy, Ru.mono upK⟩
          | j + 2, hz, hq => simp at hz
      refine wpAny_mono ((h2 _ s.heap.objs.size a (.ref c') room).run _ _ _ _ (S _)) (fun f s' q => ?_) fun _ _ f => f
      obtain ⟨v, K₄, h₄, t₄, rfl, rfl, G₄, R₄⟩ := q
      cases R₄
      have up4 : ∀ b o, K b = some o → (fun b => if b = a0 then none else K₄ b) b = some o := fun b o e => by
        show (if b = a0 then none else K₄ b) = some o
        rw [if_neg (kK b o e)]; exact G₄.up b o (upK b o e)
      refine ⟨_, fun b => if b = a0 then none else K₄ b, h₄, t₄, o', _, n', rfl, rfl, ⟨up4, fun b o e => ?_, fun b o e => ?_, fun b o e => ?_⟩, if_pos rfl, G₄.sub _ _ (G₄.up _ _ (if_pos rfl)), g2, g3, g4, .cons (.int _ _) (rs.mono up4), .int _ _⟩
      · by_cases hb' : b = a0
        · rw [if_pos hb'] at e; cases e
        · rw [if_neg hb'] at e
          rcases G₄.new b o e with e' | e'
          · unfold addK at e'; rw [if_neg hb'] at e'; exact .inl e'
          · refine .inr ?_
            rw [if_neg hb']
            cases q : s.heap.get? b with
            | none => rfl
            | some oo =>
              have hne : b ≠ s.heap.objs.size := Nat.ne_of_lt (Heap.lt_size q)
              rw [if_neg hne, kh b oo hb' q] at e'; cases e'
      · by_cases hb' : b = a0
        · rw [if_pos hb'] at e; cases e
        · rw [if_neg hb'] at e
          have hne : b ≠ s.heap.objs.size := Nat.ne_of_lt (Heap.lt_size e)
          exact G₄.keep b o (by rw [if_neg hne]; exact kh b o hb' e)
      · by_cases hb' : b = a0
        · rw [if_pos hb'] at e; cases e
        · rw [if_neg hb'] at e; exact G₄.sub b o e
    · obtain ⟨v, K', h', tk', o', vs'', n', rfl, rfl, q1, q2, q3, q4, q5, q6, q7, q8⟩ := q
      exact ⟨K', h', tk', o', vs'', n', rfl, q1, q2, q3, q4, q5, q6, q7, q8⟩
end
end Mine

namespace Mine
section
variable {prog : Program} {w : World} {H0 : Heap} {mg mb : Str → Option Value}
def nz (ns : List Int) : Nat → Nat
  | 0 => 0
  | k + 1 => if ns.getD k 0 = 0 then nz ns k else k + 1
abbrev iL (ns : List Int) : PV := .list (ns.map .int)

theorem nz_le (ns : List Int) : ∀ k, nz ns k ≤ k
  | 0 => Nat.le_refl _
  | k + 1 => by unfold nz; split; exact Nat.le_succ_of_le (nz_le ns k); exact Nat.le_refl _

theorem Env0.cal (X : Env0 H0 mg mb) (i : Nat) (hi : i ∈ idxs) (hd : (defAt i).params.defaults = []) : Callee H0 (.ref (fa mg (defAt i).name)) := by
  obtain ⟨N, hm⟩ := X.M
  obtain ⟨a, c', o, pm, doc, _, _, h3, h4, h5, _⟩ := (hm i hi).plain hd
  have hfa : fa mg (defAt i).name = a := by unfold fa; rw [h3]
  rw [hfa]
  exact .f h4 h5
theorem Env0.gl (X : Env0 H0 mg mb) (i : Nat) (hi : i ∈ idxs) (hd : (defAt i).params.defaults = []) : GlRes mg ((defAt i).name, .ref (fa mg (defAt i).name)) := by
  obtain ⟨N, hm⟩ := X.M
  obtain ⟨a, c', o, pm, doc, _, _, h3, h4, h5, _⟩ := (hm i hi).plain hd
  have hfa : fa mg (defAt i).name = a := by unfold fa; rw [h3]
  rw [hfa]
  exact .inl h3
theorem Env0.bl (X : Env0 H0 mg mb) {x : Str} {v : Value} (h : mg x = none) (hb : bootBuiltins x = some v) (hx : x ≠ "__name__") : GlRes mg (x, v) := .inr ⟨h, hb, hx⟩
theorem Env0.len (X : Env0 H0 mg mb) : GlRes mg ("len", .builtin "len") := X.bl X.no.1 (by decide +kernel) (by decide)
theorem Env0.range (X : Env0 H0 mg mb) : GlRes mg ("range", .type "range") := X.bl X.no.2.1 (by decide +kernel) (by decide)
theorem Env0.abs (X : Env0 H0 mg mb) : GlRes mg ("abs", .builtin "abs") := X.bl X.no.2.2.1 (by decide +kernel) (by decide)
theorem Env0.int (X : Env0 H0 mg mb) : GlRes mg ("int", .type "int") := X.bl X.no.2.2.2.1 (by decide +kernel) (by decide)
theorem Env0.enumerate (X : Env0 H0 mg mb) : GlRes mg ("enumerate", .type "enumerate") := X.bl X.no.2.2.2.2 (by decide +kernel) (by decide)

/-- a def's contract from its body -/
theorem Con.of {i : Nat} (X : Env0 H0 mg mb) (hi : i ∈ idxs) {rest pn : List Str} {gl : List (Str × Value)} (F : FnOk (defAt i) pn (pn ++ rest) gl) (hg : ∀ p ∈ gl, GlRes mg p) {k : Nat} {l : List PV} {p : PV} (hl : pn.length = l.length)
    (h : ∀ A L a cd, Room A k → Exs prog w H0 mg mb ⟨A, envOf (defAt i).name (defAt i).scope L a cd, k, pn ++ rest, [], gl, true⟩ ⟨l.map some ++ List.replicate rest.length none, [], none⟩ (defAt i).body (.ret p)) : Con prog w H0 mg (k + 1) (defAt i).name l p := by
  obtain ⟨N, hm⟩ := X.M
  exact Con.intro X.G (hm i hi) F hg hl h

def nl (n : Nat) : List Int := if n = 0 then [] else [(n : Int)]
def nP (n : Nat) : PV := iL (nl n)
theorem nP_zero : nP 0 = .list [] := rfl
theorem nP_pos {n : Nat} (h : n ≠ 0) : nP n = .list [.int (n : Int)] := by simp [nP, nl, h]

theorem fn_compare : FnOk (defAt 5) ["a", "b"] ["a", "b", "at"] [("len", .builtin "len"), ("range", .type "range")] := by
  refine ⟨rfl, rfl, rfl, rfl, by decide +kernel, fun pm cd doc vs h => ?_, by decide +kernel, by decide +kernel, by decide +kernel⟩
  match vs, h with
  | [_, _], _ => rfl
abbrev cmpN (a b : Nat) : Int := if a < b then -1 else if b < a then 1 else 0
theorem cal_normal (X : Env0 H0 mg mb) : Callee H0 (.ref (fa mg "normal")) := X.cal 4 (by decide) rfl
theorem gl_normal (X : Env0 H0 mg mb) : GlRes mg ("normal", .ref (fa mg "normal")) := X.gl 4 (by decide) rfl
theorem cal_compare (X : Env0 H0 mg mb) : Callee H0 (.ref (fa mg "compare")) := X.cal 5 (by decide) rfl
theorem gl_compare (X : Env0 H0 mg mb) : GlRes mg ("compare", .ref (fa mg "compare")) := X.gl 5 (by decide) rfl
theorem cal_add (X : Env0 H0 mg mb) : Callee H0 (.ref (fa mg "add")) := X.cal 6 (by decide) rfl
theorem gl_add (X : Env0 H0 mg mb) : GlRes mg ("add", .ref (fa mg "add")) := X.gl 6 (by decide) rfl
theorem cal_sub (X : Env0 H0 mg mb) : Callee H0 (.ref (fa mg "sub")) := X.cal 7 (by decide) rfl
theorem gl_sub (X : Env0 H0 mg mb) : GlRes mg ("sub", .ref (fa mg "sub")) := X.gl 7 (by decide) rfl
theorem cal_add_limb (X : Env0 H0 mg mb) : Callee H0 (.ref (fa mg "add_limb")) := X.cal 8 (by decide) rfl
theorem gl_add_limb (X : Env0 H0 mg mb) : GlRes mg ("add_limb", .ref (fa mg "add_limb")) := X.gl 8 (by decide) rfl
theorem cal_divrem_limb (X : Env0 H0 mg mb) : Callee H0 (.ref (fa mg "divrem_limb")) := X.cal 9 (by decide) rfl
theorem gl_divrem_limb (X : Env0 H0 mg mb) : GlRes mg ("divrem_limb", .ref (fa mg "divrem_limb")) := X.gl 9 (by decide) rfl
theorem cal_signed (X : Env0 H0 mg mb) : Callee H0 (.ref (fa mg "signed")) := X.cal 14 (by decide) rfl
theorem gl_signed (X : Env0 H0 mg mb) : GlRes mg ("signed", .ref (fa mg "signed")) := X.gl 14 (by decide) rfl
theorem cal_s_neg (X : Env0 H0 mg mb) : Callee H0 (.ref (fa mg "s_neg")) := X.cal 15 (by decide) rfl
theorem gl_s_neg (X : Env0 H0 mg mb) : GlRes mg ("s_neg", .ref (fa mg "s_neg")) := X.gl 15 (by decide) rfl
theorem cal_s_add (X : Env0 H0 mg mb) : Callee H0 (.ref (fa mg "s_add")) := X.cal 16 (by decide) rfl
theorem gl_s_add (X : Env0 H0 mg mb) : GlRes mg ("s_add", .ref (fa mg "s_add")) := X.gl 16 (by decide) rfl
theorem cal_s_mul (X : Env0 H0 mg mb) : Callee H0 (.ref (fa mg "s_mul")) := X.cal 17 (by decide) rfl
theorem gl_s_mul (X : Env0 H0 mg mb) : GlRes mg ("s_mul", .ref (fa mg "s_mul")) := X.gl 17 (by decide) rfl
theorem cal_tdiv (X : Env0 H0 mg mb) : Callee H0 (.ref (fa mg "tdiv")) := X.cal 18 (by decide) rfl
theorem gl_tdiv (X : Env0 H0 mg mb) : GlRes mg ("tdiv", .ref (fa mg "tdiv")) := X.gl 18 (by decide) rfl
theorem cal_fdiv (X : Env0 H0 mg mb) : Callee H0 (.ref (fa mg "fdiv")) := X.cal 19 (by decide) rfl
theorem gl_fdiv (X : Env0 H0 mg mb) : GlRes mg ("fdiv", .ref (fa mg "fdiv")) := X.gl 19 (by decide) rfl
theorem cal_common (X : Env0 H0 mg mb) : Callee H0 (.ref (fa mg "common")) := X.cal 21 (by decide) rfl
theorem gl_common (X : Env0 H0 mg mb) : GlRes mg ("common", .ref (fa mg "common")) := X.gl 21 (by decide) rfl
theorem cal_cut_signed (X : Env0 H0 mg mb) : Callee H0 (.ref (fa mg "cut_signed")) := X.cal 22 (by decide) rfl
theorem gl_cut_signed (X : Env0 H0 mg mb) : GlRes mg ("cut_signed", .ref (fa mg "cut_signed")) := X.gl 22 (by decide) rfl
theorem cal_signed_of (X : Env0 H0 mg mb) : Callee H0 (.ref (fa mg "signed_of")) := X.cal 23 (by decide) rfl
theorem gl_signed_of (X : Env0 H0 mg mb) : GlRes mg ("signed_of", .ref (fa mg "signed_of")) := X.gl 23 (by decide) rfl
theorem cal_r_make (X : Env0 H0 mg mb) : Callee H0 (.ref (fa mg "r_make")) := X.cal 24 (by decide) rfl
theorem gl_r_make (X : Env0 H0 mg mb) : GlRes mg ("r_make", .ref (fa mg "r_make")) := X.gl 24 (by decide) rfl
theorem cal_r_neg (X : Env0 H0 mg mb) : Callee H0 (.ref (fa mg "r_neg")) := X.cal 25 (by decide) rfl
theorem gl_r_neg (X : Env0 H0 mg mb) : GlRes mg ("r_neg", .ref (fa mg "r_neg")) := X.gl 25 (by decide) rfl
theorem cal_r_add (X : Env0 H0 mg mb) : Callee H0 (.ref (fa mg "r_add")) := X.cal 26 (by decide) rfl
theorem gl_r_add (X : Env0 H0 mg mb) : GlRes mg ("r_add", .ref (fa mg "r_add")) := X.gl 26 (by decide) rfl
theorem cal_r_sub (X : Env0 H0 mg mb) : Callee H0 (.ref (fa mg "r_sub")) := X.cal 27 (by decide) rfl
theorem gl_r_sub (X : Env0 H0 mg mb) : GlRes mg ("r_sub", .ref (fa mg "r_sub")) := X.gl 27 (by decide) rfl
theorem cal_continued (X : Env0 H0 mg mb) : Callee H0 (.ref (fa mg "continued")) := X.cal 28 (by decide) rfl
theorem gl_continued (X : Env0 H0 mg mb) : GlRes mg ("continued", .ref (fa mg "continued")) := X.gl 28 (by decide) rfl
theorem cal_convergents (X : Env0 H0 mg mb) : Callee H0 (.ref (fa mg "convergents")) := X.cal 29 (by decide) rfl
theorem gl_convergents (X : Env0 H0 mg mb) : GlRes mg ("convergents", .ref (fa mg "convergents")) := X.gl 29 (by decide) rfl
theorem cal_mul_school (X : Env0 H0 mg mb) : Callee H0 (.ref (fa mg "mul_school")) := X.cal 31 (by decide) rfl
theorem gl_mul_school (X : Env0 H0 mg mb) : GlRes mg ("mul_school", .ref (fa mg "mul_school")) := X.gl 31 (by decide) rfl
theorem cal_divrem_small (X : Env0 H0 mg mb) : Callee H0 (.ref (fa mg "divrem_small")) := X.cal 32 (by decide) rfl
theorem gl_divrem_small (X : Env0 H0 mg mb) : GlRes mg ("divrem_small", .ref (fa mg "divrem_small")) := X.gl 32 (by decide) rfl
theorem cal_divrem_school (X : Env0 H0 mg mb) : Callee H0 (.ref (fa mg "divrem_school")) := X.cal 37 (by decide) rfl
theorem gl_divrem_school (X : Env0 H0 mg mb) : GlRes mg ("divrem_school", .ref (fa mg "divrem_school")) := X.gl 37 (by decide) rfl
theorem cal__law_next (X : Env0 H0 mg mb) : Callee H0 (.ref (fa mg "_law_next")) := X.cal 39 (by decide) rfl
theorem gl__law_next (X : Env0 H0 mg mb) : GlRes mg ("_law_next", .ref (fa mg "_law_next")) := X.gl 39 (by decide) rfl
theorem cal__law_limbs (X : Env0 H0 mg mb) : Callee H0 (.ref (fa mg "_law_limbs")) := X.cal 40 (by decide) rfl
theorem gl__law_limbs (X : Env0 H0 mg mb) : GlRes mg ("_law_limbs", .ref (fa mg "_law_limbs")) := X.gl 40 (by decide) rfl
theorem cal__law_signed (X : Env0 H0 mg mb) : Callee H0 (.ref (fa mg "_law_signed")) := X.cal 41 (by decide) rfl
theorem gl__law_signed (X : Env0 H0 mg mb) : GlRes mg ("_law_signed", .ref (fa mg "_law_signed")) := X.gl 41 (by decide) rfl
theorem cal__law_plain (X : Env0 H0 mg mb) : Callee H0 (.ref (fa mg "_law_plain")) := X.cal 42 (by decide) rfl
theorem gl__law_plain (X : Env0 H0 mg mb) : GlRes mg ("_law_plain", .ref (fa mg "_law_plain")) := X.gl 42 (by decide) rfl
theorem cal__law_read (X : Env0 H0 mg mb) : Callee H0 (.ref (fa mg "_law_read")) := X.cal 43 (by decide) rfl
theorem gl__law_read (X : Env0 H0 mg mb) : GlRes mg ("_law_read", .ref (fa mg "_law_read")) := X.gl 43 (by decide) rfl
theorem cal__law_near (X : Env0 H0 mg mb) : Callee H0 (.ref (fa mg "_law_near")) := X.cal 44 (by decide) rfl
theorem gl__law_near (X : Env0 H0 mg mb) : GlRes mg ("_law_near", .ref (fa mg "_law_near")) := X.gl 44 (by decide) rfl
theorem cal__law_divides_both (X : Env0 H0 mg mb) : Callee H0 (.ref (fa mg "_law_divides_both")) := X.cal 45 (by decide) rfl
theorem gl__law_divides_both (X : Env0 H0 mg mb) : GlRes mg ("_law_divides_both", .ref (fa mg "_law_divides_both")) := X.gl 45 (by decide) rfl

-- ST
local macro_rules | `(tactic| mem_news) => `(tactic| first
  | (with_reducible exact Var.z) | (with_reducible apply Var.s; mem_news)
  | (with_reducible exact At.z) | (with_reducible apply At.s; mem_news)
  | (with_reducible exact Upd2.z) | (with_reducible apply Upd2.s; mem_news))
local macro_rules | `(tactic| isplit) => `(tactic| first | with_reducible rfl | assumption | (simp; done) | (simp <;> omega) | (simp [*]; done))
local macro_rules | `(tactic| reads_via) => `(tactic| first
    | (with_reducible apply Ev.loc; focus mem_news)
    | (with_reducible exact Ev.int)
    | (with_reducible apply Ev.call)
    | (with_reducible apply Ev.gl; focus mem_news)
    | (with_reducible apply Ev.cl; focus mem_news)
    | (with_reducible exact Ev.bool)
    | (with_reducible apply Ev.add)
    | (with_reducible apply Ev.sub)
    | (with_reducible apply Ev.upto)
    | (with_reducible apply Ev.all)
    | (with_reducible apply Ev.rev)
    | (with_reducible apply Ev.atOwnX; focus mem_news)
    | (with_reducible apply Ev.at)
    | (with_reducible apply Ev.tuple)
    | (with_reducible apply Ev.neg)
    | (with_reducible apply Ev.ifX)
    | (with_reducible apply Ev.mul)
    | (with_reducible apply Ev.fdiv)
    | (with_reducible apply Ev.fmod)
    | (with_reducible apply Ev.shl)
    | (with_reducible apply Ev.shr)
    | (with_reducible apply Ev.band)
    | (with_reducible apply Ev.bor)
    | (with_reducible apply Ev.pow)
    | (with_reducible apply Ev.listD)
    | (with_reducible apply Ev.notB)
    | (with_reducible apply Ev.andB)
    | (with_reducible apply Ev.cmpX))
local macro_rules | `(tactic| fin_run) => `(tactic| first
    | (with_reducible apply Ex.ret)
    | (with_reducible apply Ex.ifX)
    | (with_reducible apply Ex.aAdd)
    | (with_reducible apply Ex.aSub)
    | (with_reducible apply Ex.aMod)
    | (with_reducible apply Ex.aShr)
    | (with_reducible apply Ex.appendX)
    | (with_reducible apply Ex.setOwnR)
    | (with_reducible apply Ex.forX)
    | (with_reducible apply Ex.forEnumR)
    | ((with_reducible apply Ex.whileE); (with_reducible apply WLoop.x))
    | ((with_reducible show Ex _ _ _ _ _ _ _ (Stmt.Assign [Expr.Tuple _ _ _] (Expr.Tuple (Expr.List _ _ :: _) _ _) _) _); first | (with_reducible apply Ex.own2X) | (with_reducible apply Ex.own3X))
    | ((with_reducible show Ex _ _ _ _ _ _ _ (Stmt.Assign [Expr.Tuple _ _ _] (Expr.Tuple (Expr.BinOp (Expr.List _ _) _ _ _ :: _) _ _) _) _); first | (with_reducible apply Ex.own2X) | (with_reducible apply Ex.own3X))
    | ((with_reducible show Ex _ _ _ _ _ _ _ (Stmt.Assign [Expr.Name _ _] (Expr.List _ _) _) _); (with_reducible apply Ex.asgOwn))
    | ((with_reducible show Ex _ _ _ _ _ _ _ (Stmt.Assign [Expr.Name _ _] (Expr.BinOp (Expr.List _ _) _ _ _) _) _); (with_reducible apply Ex.asgOwn))
    | (with_reducible apply Ex.tup2X)
    | (with_reducible apply Ex.tup3X)
    | (with_reducible apply Ex.unpack2)
    | (with_reducible apply Ex.asg))
local macro_rules | `(tactic| reads_via_all) => `(tactic| first
  | ((with_reducible show Then _ _ _ _ _ _ _ _ _); first | (with_reducible apply Then.next) | (with_reducible exact Then.ret))
  | ((with_reducible show IfX _ _ _); first | ((with_reducible apply IfX.t); focus isplit) | ((with_reducible apply IfX.f); focus isplit))
  | ((with_reducible show LThen _ _ _ _ _ _ _ _ _ _ _); first | (with_reducible apply LThen.next) | (with_reducible exact LThen.ret))
  | ((with_reducible show WThen _ _ _ _ _ _ _ _ _ _); first | (with_reducible apply WThen.next) | (with_reducible exact WThen.ret))
  | ((with_reducible show Loop _ _ _ _ _ _ _ _ _ _ _); first | (with_reducible exact Loop.nil) | (with_reducible apply Loop.x))
  | ((with_reducible show EvO _ _ _ _ _ _ _ _ _); first | (with_reducible apply EvO.listD) | (with_reducible apply EvO.repX))
  | ((with_reducible show EvA _ _ _ _ _ _ _ _ _ _); first | (with_reducible exact EvA.andNil) | (with_reducible apply EvA.andX))
  | (with_reducible apply WLoop.x)
  | ((with_reducible show WGo _ _ _ _ _ _ _ _ _ _); (with_reducible apply WGo.go))
  | ((with_reducible show Runs _ _); first | (with_reducible assumption) | (with_reducible exact Runs.list) | (with_reducible exact Runs.tup) | (with_reducible apply Runs.rng))
  | ((with_reducible show RepR _ _ _); first | (with_reducible apply RepR.n0; focus (simp; done)) | (with_reducible apply RepR.n1; focus (simp; done)) | (with_reducible apply RepR.n2; focus (simp; done)))
  | ((with_reducible show SetR _ _ _ _); first | (with_reducible apply SetR.z; focus (simp; done)) | (with_reducible apply SetR.o; focus (simp; done)))
  | ((with_reducible show AppR _ _ _); first | (with_reducible exact AppR.n0) | (with_reducible exact AppR.n1) | (with_reducible exact AppR.gen))
  | ((with_reducible show CmpOk _ _ _ _ _ _); first | (with_reducible apply CmpOk.ii) | (with_reducible exact CmpOk.eqB) | (with_reducible exact CmpOk.neB))
  | ((with_reducible show CmpII _ _ _ _ _ _); first | (with_reducible exact CmpII.lt _ _) | (with_reducible exact CmpII.gt _ _) | (with_reducible exact CmpII.le _ _) | (with_reducible exact CmpII.ge _ _) | (with_reducible exact CmpII.eq _ _) | (with_reducible exact CmpII.ne _ _))
  | ((with_reducible show Stores _ _ _ _); first | (with_reducible exact Stores.nil) | (with_reducible apply Stores.cons))
  | ((with_reducible show Bind2 _ _ _ _ _ _); (with_reducible apply Bind2.mk))
  | ((with_reducible show Bind1 _ _ _ _ _); first | (with_reducible apply Bind1.l; focus mem_news) | (with_reducible apply Bind1.c'; focus mem_news))
  | ((with_reducible show RngL _ _ _ _); first | (with_reducible apply RngL.down0; focus (simp; done)) | (with_reducible apply RngL.down1; focus (simp; done)) | (with_reducible apply RngL.up0 <;> focus (simp; done)) | (with_reducible apply RngL.up1 <;> focus (simp; done)) | (with_reducible apply RngL.up11 <;> focus (simp; done))))
local macro_rules | `(tactic| fold_depth) => `(tactic| first
  | ((with_reducible show CallOk _ _ _ _ (Value.builtin "len") [PV.list _] _); refine ok_len ?_; first | (exact Nat.le_of_ble_eq_true rfl) | skip)
  | ((with_reducible show CallOk _ _ _ _ (Value.builtin "abs") _ _); exact ok_abs)
  | ((with_reducible show CallOk _ _ _ _ (Value.type "int") _ _); exact ok_int)
  | ((with_reducible show CallOk _ _ _ _ (Value.type "range") [_] _); exact ok_range1)
  | ((with_reducible show CallOk _ _ _ _ (Value.type "range") [_, _] _); exact ok_range2)
  | ((with_reducible show CallOk _ _ _ _ (Value.type "range") [_, _, _] _); exact ok_range3 ⟨by decide, by decide⟩))
local macro_rules | `(tactic| nest_cls) => `(tactic| first
  | ((with_reducible show Ev _ _ _ _ _ _ _ _ _); reads_via)
  | ((with_reducible show EvL _ _ _ _ _ _ _ _ _ _); first | (with_reducible exact EvL.nil) | (with_reducible apply EvL.cons))
  | ((with_reducible show starEach _ _ = _); rfl)
  | ((with_reducible show Callee _ _); first | (with_reducible exact Callee.b) | (with_reducible exact Callee.t) | (with_reducible exact cal_normal ‹Env0 _ _ _›) | (with_reducible exact cal_compare ‹Env0 _ _ _›) | (with_reducible exact cal_add ‹Env0 _ _ _›) | (with_reducible exact cal_sub ‹Env0 _ _ _›) | (with_reducible exact cal_add_limb ‹Env0 _ _ _›) | (with_reducible exact cal_divrem_limb ‹Env0 _ _ _›) | (with_reducible exact cal_signed ‹Env0 _ _ _›) | (with_reducible exact cal_s_neg ‹Env0 _ _ _›) | (with_reducible exact cal_s_add ‹Env0 _ _ _›) | (with_reducible exact cal_s_mul ‹Env0 _ _ _›) | (with_reducible exact cal_tdiv ‹Env0 _ _ _›) | (with_reducible exact cal_fdiv ‹Env0 _ _ _›) | (with_reducible exact cal_common ‹Env0 _ _ _›) | (with_reducible exact cal_cut_signed ‹Env0 _ _ _›) | (with_reducible exact cal_signed_of ‹Env0 _ _ _›) | (with_reducible exact cal_r_make ‹Env0 _ _ _›) | (with_reducible exact cal_r_neg ‹Env0 _ _ _›) | (with_reducible exact cal_r_add ‹Env0 _ _ _›) | (with_reducible exact cal_r_sub ‹Env0 _ _ _›) | (with_reducible exact cal_continued ‹Env0 _ _ _›) | (with_reducible exact cal_convergents ‹Env0 _ _ _›) | (with_reducible exact cal_mul_school ‹Env0 _ _ _›) | (with_reducible exact cal_divrem_small ‹Env0 _ _ _›) | (with_reducible exact cal_divrem_school ‹Env0 _ _ _›) | (with_reducible exact cal__law_next ‹Env0 _ _ _›) | (with_reducible exact cal__law_limbs ‹Env0 _ _ _›) | (with_reducible exact cal__law_signed ‹Env0 _ _ _›) | (with_reducible exact cal__law_plain ‹Env0 _ _ _›) | (with_reducible exact cal__law_read ‹Env0 _ _ _›) | (with_reducible exact cal__law_near ‹Env0 _ _ _›) | (with_reducible exact cal__law_divides_both ‹Env0 _ _ _›))
  | ((with_reducible show (_ : Nat) ≤ _); first | (with_reducible assumption) | exact Nat.le_of_ble_eq_true rfl | omega)
  | ((with_reducible show _ ∧ _); first | (with_reducible assumption) | omega | (constructor <;> omega))
  | ((with_reducible show (0 : Int) ≤ _); first | (with_reducible assumption) | omega)
  | ((with_reducible show GetElem?.getElem? _ _ = some _); rfl)
  | ((with_reducible show (_ : Int) = 0); (simp [*]; done))
  | ((with_reducible show (_ : Nat) < _); first | (with_reducible assumption) | omega)
  | ((with_reducible show _ ≠ _); first | (with_reducible assumption) | omega)
  | ((with_reducible show CallOk _ _ _ _ _ _ _); fold_depth)
  | ((with_reducible show List.any _ _ = _); rfl)
  | ((with_reducible show Upd2 _ _ _ _ _ _); mem_news)
  | ((with_reducible show swapsWith _ _ _ _ = _); rfl)
  | ((with_reducible show EvT _ _ _ _ _ _ _ _ _); first
    | (with_reducible apply EvT.cmpX)
    | (with_reducible apply EvT.boolOp)
    | (with_reducible apply EvT.not)
    | (with_reducible apply EvT.ofBool))
  | ((with_reducible show ∀ _, PySem.isTrue _ _ _ = _); intro _; rfl)
  | ((with_reducible show behindInMarks _ _ = _); rfl)
  | ((with_reducible show Exs _ _ _ _ _ _ _ _ _); first | (with_reducible exact Exs.nil) | (with_reducible apply Exs.frz; focus mem_news) | (with_reducible apply Exs.seq))
  | ((with_reducible show Ex _ _ _ _ _ _ _ _ _); fin_run)
  | ((with_reducible show Item _ _ _); first | assumption | exact Item.tup ⟨by decide, by decide⟩ rfl | exact Item.list ⟨by decide, by decide⟩ rfl)
  | ((with_reducible show ∀ _ _, subscripted _ _ _ _ = _); intro _ _; rfl)
  | ((with_reducible show OwnNe _ _); first | exact trivial | (show (_ : Nat) ≠ _; decide))
  | ((with_reducible show Var _ _ _ _); mem_news)
  | ((with_reducible show At _ _ _); mem_news)
  | ((with_reducible show _ = Res.next _); rfl)
  | ((with_reducible show Fc.oc _ = true); rfl)
  | ((with_reducible show (_ : Bool) = false); with_reducible rfl)
  | ((with_reducible show interactive _ = _); rfl)
  | ((with_reducible show eval _ _ = _); rfl)
  | ((with_reducible show List.reverse _ = _); rfl)
  | ((with_reducible show swapsWithSole _ _ _ _ = _); rfl)
  | ((with_reducible show swappedStores _ _ _ = _); rfl)
  | ((with_reducible show ∀ _, foldedSetIterable _ _ _ = _); intro _; rfl)
  | reads_via_all)
local macro_rules | `(tactic| o_shape) => `(tactic| (apply Exs.cast; apply Exs.seq; all_goals repeat' nest_cls))
-- /ST

theorem normal_body (ns : List Int) (hz : ns.length ≤ 900) : ∀ A L a cd, Room A 0 → Exs prog w H0 mg mb ⟨A, envOf (defAt 4).name (defAt 4).scope L a cd, 0, ["a", "end"], [], [("len", .builtin "len")], true⟩ ⟨[some (iL ns), none], [], none⟩ (defAt 4).body (.ret (iL (ns.take (nz ns ns.length)))) := by
  intro A L a cd hr
  apply Exs.cast
  apply Exs.cons
  · repeat' nest_cls
    simp; omega
  apply Exs.cons (σ₁ := ⟨[some (iL ns), some (.int (nz ns ns.length))], [], none⟩)
  · have hlen : (ns.map PV.int).length = ns.length := by simp
    rw [hlen]
    apply Ex.whileE
    obtain ⟨k, hk, hle⟩ : ∃ k, ns.length = k ∧ k ≤ ns.length := ⟨_, rfl, Nat.le_refl _⟩
    rw [hk]
    clear hk
    induction k with
    | zero =>
      refine WLoop.doneE (b := false) (EvT.boolOp (EvA.andF ?_)) rfl
      apply EvT.cast
      repeat' nest_cls
      simp
    | succ k ih =>
      have hg : (ns.map PV.int)[k]? = some (.int (ns.getD k 0)) := by
        rw [List.getElem?_map, List.getElem?_eq_getElem (by omega)]
        simp [List.getD, List.getElem?_eq_getElem (by omega : k < ns.length)]
      have hk' : ((k + 1 : Nat) : Int) - 1 = (k : Nat) := by omega
      have it : Item (iL ns) (((k + 1 : Nat) : Int) - 1) (.int (ns.getD k 0)) := by
        rw [hk']
        exact Item.list ⟨by omega, by omega⟩ (by simpa using hg)
      have hlt' : decide (((k + 1 : Nat) : Int) > 0) = true := by simp
      by_cases h0 : ns.getD k 0 = 0
      · have h0' : (ns.getD k 0 == 0) = true := by rw [h0]; rfl
        have e : nz ns (k + 1) = nz ns k := by rw [nz, if_pos h0]
        rw [e]
        apply WLoop.stepE
        · repeat' nest_cls
        · rfl
        · apply Exs.one
          repeat' nest_cls
        · rw [hk']
          exact ih (by omega)
      · have h0' : (ns.getD k 0 == 0) = false := by simpa using h0
        have e : nz ns (k + 1) = k + 1 := by rw [nz, if_neg h0]
        rw [e]
        apply WLoop.doneE
        · repeat' nest_cls
        · rfl
  apply Exs.cons_ret
  · have := nz_le ns ns.length
    repeat' nest_cls
    all_goals (simp; omega)
  · simp [iL, List.map_take]

theorem con_normal (X : Env0 H0 mg mb) (ns : List Int) (hz : ns.length ≤ 900) : Con prog w H0 mg 1 "normal" [iL ns] (iL (ns.take (nz ns ns.length))) :=
  Con.of (i := 4) (pn := ["a"]) (rest := ["end"]) X (by decide) t2 (List.forall_mem_cons.mpr ⟨X.len, List.forall_mem_nil _⟩) rfl (normal_body ns hz)

theorem compare_body (a b : Nat) : ∀ A L ad cd, Room A 0 → Exs prog w H0 mg mb ⟨A, envOf (defAt 5).name (defAt 5).scope L ad cd, 0, ["a", "b", "at"], [], [("len", .builtin "len"), ("range", .type "range")], true⟩ ⟨[some (nP a), some (nP b), none], [], none⟩ (defAt 5).body (.ret (.int (cmpN a b))) := by
  intro A L ad cd hr
  by_cases ha : a = 0
  · by_cases hb : b = 0
    · subst ha hb
      rw [nP_zero]
      o_shape
      rfl
    · subst ha
      rw [nP_zero, nP_pos hb]
      o_shape
      simp [cmpN]; omega
  · by_cases hb : b = 0
    · subst hb
      rw [nP_zero, nP_pos ha]
      o_shape
      simp [cmpN]; omega
    · rw [nP_pos ha, nP_pos hb]
      by_cases h : a = b
      · o_shape
        simp [cmpN, h]
      · by_cases h' : a < b
        · o_shape
          simp [cmpN, h']
        · o_shape
          simp [cmpN, h']; omega

abbrev sP (z : Int) : PV := .tup [.bool (decide (z < 0)), nP z.natAbs]
abbrev rP (z : Int) (q : Nat) : PV := .tup [sP z, nP q]
def nL (q : Int) : PV := .list (if q = 0 then [] else [.int q])
theorem nL_nat {q : Int} {n : Nat} (h : q = n) : nL q = nP n := by
  subst h
  unfold nL nP nl
  by_cases h0 : n = 0
  · simp [h0]
  · simp [h0]
theorem mask_eq {wb : Nat} {x : Int} (h : 0 ≤ x ∧ x < 2048) (hw : 11 ≤ wb) : Builtin.bitAnd x (2 ^ wb - 1) = x := by
  have h2 : ((2 ^ 11 : Nat) : Int) ≤ ((2 ^ wb : Nat) : Int) := by exact_mod_cast Nat.pow_le_pow_right (by decide : 0 < 2) hw
  have h3 : ((2 ^ wb : Nat) : Int) = 2 ^ wb := by simp
  obtain ⟨n, rfl⟩ := Int.eq_ofNat_of_zero_le h.1
  have h5 : ((2 : Int) ^ wb - 1).toNat = 2 ^ wb - 1 := by omega
  rw [bitAnd_pp h.1 (by omega), h5, Int.toNat_natCast, Nat.and_two_pow_sub_one_eq_mod, Nat.mod_eq_of_lt (by omega)]
theorem shift_eq {wb : Nat} {x : Int} (h : 0 ≤ x ∧ x < 2048) (hw : 11 ≤ wb) : x.fdiv (2 ^ wb) = 0 := by
  have : (2048 : Int) ≤ 2 ^ wb := by
    have := Nat.pow_le_pow_right (by decide : 0 < 2) hw
    have h2 : ((2 ^ 11 : Nat) : Int) ≤ ((2 ^ wb : Nat) : Int) := by exact_mod_cast this
    simpa using h2
  rw [Int.fdiv_eq_ediv_of_nonneg _ (by omega)]
  exact Int.ediv_eq_zero_of_lt h.1 (by omega)
theorem bor0 (n : Nat) : Builtin.bitOr 0 (n : Int) = n := by
  unfold Builtin.bitOr Builtin.bitAnd Builtin.bitNot
  have h1 : decide ((0:Int) ≤ -0 - 1) = false := by decide
  have h2 : decide ((0:Int) ≤ -(n:Int) - 1) = false := by simp; omega
  rw [h1, h2]
  simp
  omega
theorem sg {b : Bool} {n : Nat} {z : Int} (h : b = true ∧ n ≠ 0 ↔ z < 0) (h' : n = z.natAbs) : PV.tup [.bool (b && decide (n ≠ 0)), nP n] = sP z := by
  subst h'
  have : (b && decide (z.natAbs ≠ 0)) = decide (z < 0) := by
    rw [Bool.eq_iff_iff]; simpa using h
  rw [this]

theorem ok_lenN {A : Around} {n : Nat} : CallOk prog w H0 A (.builtin "len") [nP n] (.int (if n = 0 then 0 else 1)) := by
  by_cases h : n = 0
  · subst h; exact ok_len (l := []) (by decide)
  · rw [nP_pos h, if_neg h]; exact ok_len (l := [.int (n : Int)]) (Nat.le_of_ble_eq_true rfl)
theorem ok_lenP {A : Around} {n : Nat} (h : n ≠ 0) : CallOk prog w H0 A (.builtin "len") [nP n] (.int 1) := by
  have := ok_lenN (prog := prog) (w := w) (H0 := H0) (A := A) (n := n)
  rwa [if_neg h] at this
theorem ok_lenE {A : Around} {n : Nat} (h : n = 0) : CallOk prog w H0 A (.builtin "len") [nP n] (.int 0) := by
  subst h; exact ok_lenN
theorem ok_lenZ {A : Around} : CallOk prog w H0 A (.builtin "len") [nP 0] (.int 0) := ok_lenN
theorem itN {n : Nat} (h : n ≠ 0) : Item (nP n) 0 (.int (n : Int)) := by rw [nP_pos h]; exact Item.list ⟨by decide, by decide⟩ rfl
theorem rnN {n : Nat} (h : n ≠ 0) : Runs (nP n) [.int (n : Int)] := by rw [nP_pos h]; exact Runs.list
theorem rn0 : Runs (nP 0) [] := Runs.list
theorem ok_normalI (X : Env0 H0 mg mb) {A : Around} {k : Nat} (r : Room A k) (hk : 1 ≤ k) (ns : List Int) (hz : ns.length ≤ 900) : CallOk prog w H0 A (.ref (fa mg "normal")) [iL ns] (iL (ns.take (nz ns ns.length))) := CallOk.of (con_normal X ns hz) r hk
theorem ok_normal0 (X : Env0 H0 mg mb) {A : Around} {k : Nat} (r : Room A k) (hk : 1 ≤ k) : CallOk prog w H0 A (.ref (fa mg "normal")) [.list []] (.list []) := ok_normalI X r hk [] (by decide)
theorem ok_normal1 (X : Env0 H0 mg mb) {A : Around} {k : Nat} (r : Room A k) (hk : 1 ≤ k) {q : Int} : CallOk prog w H0 A (.ref (fa mg "normal")) [.list [.int q]] (nL q) := by
  have := ok_normalI (prog := prog) (w := w) X r hk [q] (by simp)
  by_cases h : q = 0
  · subst h; exact this
  · have e : nL q = iL ([q].take (nz [q] [q].length)) := by simp [nL, h, nz]
    rw [e]; exact this
theorem ok_normal2 (X : Env0 H0 mg mb) {A : Around} {k : Nat} (r : Room A k) (hk : 1 ≤ k) {q z : Int} (hz : z = 0) : CallOk prog w H0 A (.ref (fa mg "normal")) [.list [.int q, .int z]] (nL q) := by
  subst hz
  have := ok_normalI (prog := prog) (w := w) X r hk [q, 0] (by simp)
  by_cases h : q = 0
  · subst h; exact this
  · have e : nL q = iL ([q, 0].take (nz [q, 0] [q, 0].length)) := by simp [nL, h, nz]
    rw [e]; exact this
theorem ok_normalN (X : Env0 H0 mg mb) {A : Around} {k : Nat} (r : Room A k) (hk : 1 ≤ k) {n : Nat} : CallOk prog w H0 A (.ref (fa mg "normal")) [nP n] (nP n) := by
  by_cases h : n = 0
  · subst h; exact ok_normal0 X r hk
  · have := ok_normal1 (prog := prog) (w := w) X r hk (q := n)
    rw [nL_nat rfl, ← nP_pos h] at this
    exact this
theorem ok_compare (X : Env0 H0 mg mb) {A : Around} {k : Nat} (r : Room A k) (hk : 1 ≤ k) {a b : Nat} : CallOk prog w H0 A (.ref (fa mg "compare")) [nP a, nP b] (.int (cmpN a b)) :=
  CallOk.of (Con.of (i := 5) X (by decide) (pn := ["a", "b"]) (rest := ["at"]) fn_compare (List.forall_mem_cons.mpr ⟨X.len, List.forall_mem_cons.mpr ⟨X.range, List.forall_mem_nil _⟩⟩) rfl (compare_body a b)) r hk
theorem fn_add : FnOk (defAt 6) ["a", "b", "w"] ["a", "b", "w", "found", "carry", "mask", "at"] [("len", .builtin "len"), ("range", .type "range")] := by
  refine ⟨rfl, rfl, rfl, rfl, by decide +kernel, fun pm cd doc vs h => ?_, by decide +kernel, by decide +kernel, gk1 ⟨by decide +kernel, by decide +kernel⟩ (gk1 ⟨by decide +kernel, by decide +kernel⟩ (gk0))⟩
  match vs, h with
  | [_, _, _], _ => rfl
theorem body_add (X : Env0 H0 mg mb) {a b wb : Nat} (hab : a + b < 2048) (hw : 11 ≤ wb ∧ wb ≤ 14) : ∀ A L ad cd, Room A 0 → Exs prog w H0 mg mb ⟨A, envOf (defAt 6).name (defAt 6).scope L ad cd, 0, ["a", "b", "w", "found", "carry", "mask", "at"], [], [("len", .builtin "len"), ("range", .type "range")], true⟩ ⟨[some (nP a), some (nP b), some (.int (wb : Int)), none, none, none, none], [], none⟩ (defAt 6).body (.ret (nP (a + b))) := by
  intro A L ad cd hr
  by_cases ha : a = 0
  · by_cases hb : b = 0
    · subst ha hb
      rw [nP_zero]
      o_shape
      simp [nP_zero]
    · subst ha
      rw [nP_zero, nP_pos hb, nP_pos (by omega)]
      have e1 := mask_eq (x := (b : Int)) (by omega) hw.1
      have e2 := shift_eq (x := (b : Int)) (by omega) hw.1
      o_shape
      simp [e1]
  · by_cases hb : b = 0
    · subst hb
      rw [nP_zero, nP_pos ha, nP_pos (by omega)]
      have e1 := mask_eq (x := (a : Int)) (by omega) hw.1
      have e2 := shift_eq (x := (a : Int)) (by omega) hw.1
      o_shape
      simp [e1]
    · rw [nP_pos ha, nP_pos hb, nP_pos (by omega)]
      have e1 := mask_eq (x := (a : Int) + b) (by omega) hw.1
      have e2 := shift_eq (x := (a : Int) + b) (by omega) hw.1
      o_shape
      simp [e1]
theorem ok_add (X : Env0 H0 mg mb) {A : Around} {k : Nat} (r : Room A k) (hk : 1 ≤ k) {a b wb : Nat} (hab : a + b < 2048) (hw : 11 ≤ wb ∧ wb ≤ 14) : CallOk prog w H0 A (.ref (fa mg "add")) [nP a, nP b, .int (wb : Int)] (nP (a + b)) :=
  CallOk.of (Con.of (i := 6) X (by decide) (pn := ["a", "b", "w"]) (rest := ["found", "carry", "mask", "at"]) fn_add (List.forall_mem_cons.mpr ⟨X.len, List.forall_mem_cons.mpr ⟨X.range, List.forall_mem_nil _⟩⟩) rfl (body_add X hab hw)) r hk
local macro_rules | `(tactic| fold_depth) => `(tactic| (with_reducible apply ok_add ‹Env0 _ _ _› ‹Room _ _›))
local macro_rules | `(tactic| reads_via_all) => `(tactic| ((with_reducible show Runs _ _); (with_reducible exact rn0)))
local macro_rules | `(tactic| fold_depth) => `(tactic| first
  | (with_reducible apply ok_lenP; focus (with_reducible assumption))
  | (with_reducible apply ok_lenZ)
  | (with_reducible apply ok_lenE; focus (with_reducible assumption))
  | (with_reducible apply ok_lenN)
  | (with_reducible apply ok_compare ‹Env0 _ _ _› ‹Room _ _›)
  | (with_reducible apply ok_normal1 ‹Env0 _ _ _› ‹Room _ _›)
  | (with_reducible apply ok_normal0 ‹Env0 _ _ _› ‹Room _ _›)
  | (with_reducible apply ok_normalN ‹Env0 _ _ _› ‹Room _ _›)
  | (with_reducible apply ok_normal2 ‹Env0 _ _ _› ‹Room _ _›))

theorem fn_sub : FnOk (defAt 7) ["a", "b", "w"] ["a", "b", "w", "found", "borrow", "base", "at", "limb"] [("len", .builtin "len"), ("range", .type "range"), ("compare", .ref (fa mg "compare")), ("normal", .ref (fa mg "normal"))] := by
  refine ⟨rfl, rfl, rfl, rfl, by decide +kernel, fun pm cd doc vs h => ?_, by decide +kernel, by decide +kernel, gk1 ⟨by decide +kernel, by decide +kernel⟩ (gk1 ⟨by decide +kernel, by decide +kernel⟩ (gk1 ⟨by decide +kernel, by decide +kernel⟩ (gk1 ⟨by decide +kernel, by decide +kernel⟩ (gk0))))⟩
  match vs, h with
  | [_, _, _], _ => rfl
theorem body_sub (X : Env0 H0 mg mb) {a b wb : Nat} (hab : b ≤ a ∧ a < 2048) (hw : 11 ≤ wb ∧ wb ≤ 14) : ∀ A L ad cd, Room A 1 → Exs prog w H0 mg mb ⟨A, envOf (defAt 7).name (defAt 7).scope L ad cd, 1, ["a", "b", "w", "found", "borrow", "base", "at", "limb"], [], [("len", .builtin "len"), ("range", .type "range"), ("compare", .ref (fa mg "compare")), ("normal", .ref (fa mg "normal"))], true⟩ ⟨[some (nP a), some (nP b), some (.int (wb : Int)), none, none, none, none, none], [], none⟩ (defAt 7).body (.ret (nP (a - b))) := by
  intro A L ad cd hr
  have hc : ¬ cmpN a b < 0 := by simp [cmpN]; split <;> first | omega | (split <;> omega)
  by_cases ha : a = 0
  · have hb : b = 0 := by omega
    subst ha hb
    o_shape
    simp [nP_zero]
  · have ia := itN ha
    by_cases hb : b = 0
    · subst hb
      o_shape
      refine nL_nat ?_; simp
    · have ib := itN hb
      o_shape
      refine nL_nat ?_; omega
theorem ok_sub (X : Env0 H0 mg mb) {A : Around} {k : Nat} (r : Room A k) (hk : 2 ≤ k) {a b wb : Nat} (hab : b ≤ a ∧ a < 2048) (hw : 11 ≤ wb ∧ wb ≤ 14) : CallOk prog w H0 A (.ref (fa mg "sub")) [nP a, nP b, .int (wb : Int)] (nP (a - b)) :=
  CallOk.of (Con.of (i := 7) X (by decide) (pn := ["a", "b", "w"]) (rest := ["found", "borrow", "base", "at", "limb"]) fn_sub (List.forall_mem_cons.mpr ⟨X.len, List.forall_mem_cons.mpr ⟨X.range, List.forall_mem_cons.mpr ⟨gl_compare X, List.forall_mem_cons.mpr ⟨gl_normal X, List.forall_mem_nil _⟩⟩⟩⟩) rfl (body_sub X hab hw)) r hk
local macro_rules | `(tactic| fold_depth) => `(tactic| (with_reducible apply ok_sub ‹Env0 _ _ _› ‹Room _ _›))
theorem fn_add_limb : FnOk (defAt 8) ["a", "limb", "w"] ["a", "limb", "w", "found", "mask", "one"] [] := by
  refine ⟨rfl, rfl, rfl, rfl, by decide +kernel, fun pm cd doc vs h => ?_, by decide +kernel, by decide +kernel, gk0⟩
  match vs, h with
  | [_, _, _], _ => rfl
theorem body_add_limb (X : Env0 H0 mg mb) {a d wb : Nat} (hab : a + d < 2048) (hw : 11 ≤ wb ∧ wb ≤ 14) : ∀ A L ad cd, Room A 0 → Exs prog w H0 mg mb ⟨A, envOf (defAt 8).name (defAt 8).scope L ad cd, 0, ["a", "limb", "w", "found", "mask", "one"], [], [], true⟩ ⟨[some (nP a), some (.int (d : Int)), some (.int (wb : Int)), none, none, none], [], none⟩ (defAt 8).body (.ret (nP (a + d))) := by
  intro A L ad cd hr
  have e1 := mask_eq (x := (d : Int) + a) (by omega) hw.1
  have e2 := shift_eq (x := (d : Int) + a) (by omega) hw.1
  by_cases ha : a = 0
  · subst ha
    by_cases hd : d = 0
    · subst hd
      o_shape
      simp [nP_zero]
    · have hd' : (d : Int) > 0 := by omega
      o_shape
      rw [nP_pos (by omega)]; simp
  · have ra := rnN ha
    o_shape
    rw [nP_pos (by omega)]; simp [e1]; omega
theorem ok_add_limb (X : Env0 H0 mg mb) {A : Around} {k : Nat} (r : Room A k) (hk : 1 ≤ k) {a d wb : Nat} (hab : a + d < 2048) (hw : 11 ≤ wb ∧ wb ≤ 14) : CallOk prog w H0 A (.ref (fa mg "add_limb")) [nP a, .int (d : Int), .int (wb : Int)] (nP (a + d)) :=
  CallOk.of (Con.of (i := 8) X (by decide) (pn := ["a", "limb", "w"]) (rest := ["found", "mask", "one"]) fn_add_limb (List.forall_mem_nil _) rfl (body_add_limb X hab hw)) r hk
local macro_rules | `(tactic| fold_depth) => `(tactic| (with_reducible apply ok_add_limb ‹Env0 _ _ _› ‹Room _ _›))
theorem fn_divrem_limb : FnOk (defAt 9) ["a", "limb", "w"] ["a", "limb", "w", "found", "rest", "at"] [("len", .builtin "len"), ("range", .type "range"), ("normal", .ref (fa mg "normal"))] := by
  refine ⟨rfl, rfl, rfl, rfl, by decide +kernel, fun pm cd doc vs h => ?_, by decide +kernel, by decide +kernel, gk1 ⟨by decide +kernel, by decide +kernel⟩ (gk1 ⟨by decide +kernel, by decide +kernel⟩ (gk1 ⟨by decide +kernel, by decide +kernel⟩ (gk0)))⟩
  match vs, h with
  | [_, _, _], _ => rfl
theorem body_divrem_limb (X : Env0 H0 mg mb) {a d wb : Nat} (hd : d ≠ 0 ∧ d < 2048) (hw : 11 ≤ wb ∧ wb ≤ 14) : ∀ A L ad cd, Room A 1 → Exs prog w H0 mg mb ⟨A, envOf (defAt 9).name (defAt 9).scope L ad cd, 1, ["a", "limb", "w", "found", "rest", "at"], [], [("len", .builtin "len"), ("range", .type "range"), ("normal", .ref (fa mg "normal"))], true⟩ ⟨[some (nP a), some (.int (d : Int)), some (.int (wb : Int)), none, none, none], [], none⟩ (defAt 9).body (.ret (.tup [nP (a / d), .int ((a % d : Nat) : Int)])) := by
  intro A L ad cd hr
  have hd1 : ¬ (d : Int) = 0 := by omega
  by_cases ha : a = 0
  · subst ha
    o_shape
    simp [nP_zero]
  · have ia := itN ha
    have e1 := bor0 a
    o_shape
    have e : Builtin.bitOr (0 * 2 ^ ((wb : Int)).toNat) (a : Int) = a := by simpa using bor0 a
    rw [e, Int.fdiv_eq_ediv_of_nonneg _ (by omega), Int.fmod_eq_emod_of_nonneg _ (by omega), nL_nat (n := a / d) (by simp)]
    simp
theorem ok_divrem_limb (X : Env0 H0 mg mb) {A : Around} {k : Nat} (r : Room A k) (hk : 2 ≤ k) {a d wb : Nat} (hd : d ≠ 0 ∧ d < 2048) (hw : 11 ≤ wb ∧ wb ≤ 14) : CallOk prog w H0 A (.ref (fa mg "divrem_limb")) [nP a, .int (d : Int), .int (wb : Int)] (.tup [nP (a / d), .int ((a % d : Nat) : Int)]) :=
  CallOk.of (Con.of (i := 9) X (by decide) (pn := ["a", "limb", "w"]) (rest := ["found", "rest", "at"]) fn_divrem_limb (List.forall_mem_cons.mpr ⟨X.len, List.forall_mem_cons.mpr ⟨X.range, List.forall_mem_cons.mpr ⟨gl_normal X, List.forall_mem_nil _⟩⟩⟩) rfl (body_divrem_limb X hd hw)) r hk
local macro_rules | `(tactic| fold_depth) => `(tactic| (with_reducible apply ok_divrem_limb ‹Env0 _ _ _› ‹Room _ _›))
theorem fn_signed : FnOk (defAt 14) ["is_below", "nat"] ["is_below", "nat"] [("len", .builtin "len")] := by
  refine ⟨rfl, rfl, rfl, rfl, by decide +kernel, fun pm cd doc vs h => ?_, by decide +kernel, by decide +kernel, gk1 ⟨by decide +kernel, by decide +kernel⟩ (gk0)⟩
  match vs, h with
  | [_, _], _ => rfl
theorem body_signed (X : Env0 H0 mg mb) {b : Bool} {n : Nat} : ∀ A L ad cd, Room A 0 → Exs prog w H0 mg mb ⟨A, envOf (defAt 14).name (defAt 14).scope L ad cd, 0, ["is_below", "nat"], [], [("len", .builtin "len")], true⟩ ⟨[some (.bool b), some (nP n)], [], none⟩ (defAt 14).body (.ret (.tup [.bool (b && decide (n ≠ 0)), nP n])) := by
  intro A L ad cd hr
  by_cases hn : n = 0
  · subst hn
    o_shape
    simp
  · o_shape
    simp [hn]
theorem ok_signed (X : Env0 H0 mg mb) {A : Around} {k : Nat} (r : Room A k) (hk : 1 ≤ k) {b : Bool} {n : Nat} : CallOk prog w H0 A (.ref (fa mg "signed")) [.bool b, nP n] (.tup [.bool (b && decide (n ≠ 0)), nP n]) :=
  CallOk.of (Con.of (i := 14) X (by decide) (pn := ["is_below", "nat"]) (rest := []) fn_signed (List.forall_mem_cons.mpr ⟨X.len, List.forall_mem_nil _⟩) rfl (body_signed X )) r hk
local macro_rules | `(tactic| fold_depth) => `(tactic| (with_reducible apply ok_signed ‹Env0 _ _ _› ‹Room _ _›))
theorem fn_s_neg : FnOk (defAt 15) ["x"] ["x"] [("signed", .ref (fa mg "signed"))] := by
  refine ⟨rfl, rfl, rfl, rfl, by decide +kernel, fun pm cd doc vs h => ?_, by decide +kernel, by decide +kernel, gk1 ⟨by decide +kernel, by decide +kernel⟩ (gk0)⟩
  match vs, h with
  | [_], _ => rfl
theorem body_s_neg (X : Env0 H0 mg mb) {x : Int} : ∀ A L ad cd, Room A 1 → Exs prog w H0 mg mb ⟨A, envOf (defAt 15).name (defAt 15).scope L ad cd, 1, ["x"], [], [("signed", .ref (fa mg "signed"))], true⟩ ⟨[some (sP x)], [], none⟩ (defAt 15).body (.ret (sP (-x))) := by
  intro A L ad cd hr
  o_shape
  rw [sg]
  · simp; omega
  · omega
theorem ok_s_neg (X : Env0 H0 mg mb) {A : Around} {k : Nat} (r : Room A k) (hk : 2 ≤ k) {x : Int} : CallOk prog w H0 A (.ref (fa mg "s_neg")) [sP x] (sP (-x)) :=
  CallOk.of (Con.of (i := 15) X (by decide) (pn := ["x"]) (rest := []) fn_s_neg (List.forall_mem_cons.mpr ⟨gl_signed X, List.forall_mem_nil _⟩) rfl (body_s_neg X )) r hk
local macro_rules | `(tactic| fold_depth) => `(tactic| (with_reducible apply ok_s_neg ‹Env0 _ _ _› ‹Room _ _›))
theorem fn_s_add : FnOk (defAt 16) ["x", "y", "w"] ["x", "y", "w"] [("signed", .ref (fa mg "signed")), ("add", .ref (fa mg "add")), ("compare", .ref (fa mg "compare")), ("sub", .ref (fa mg "sub"))] := by
  refine ⟨rfl, rfl, rfl, rfl, by decide +kernel, fun pm cd doc vs h => ?_, by decide +kernel, by decide +kernel, gk1 ⟨by decide +kernel, by decide +kernel⟩ (gk1 ⟨by decide +kernel, by decide +kernel⟩ (gk1 ⟨by decide +kernel, by decide +kernel⟩ (gk1 ⟨by decide +kernel, by decide +kernel⟩ (gk0))))⟩
  match vs, h with
  | [_, _, _], _ => rfl
theorem body_s_add (X : Env0 H0 mg mb) {x y : Int} {wb : Nat} (hab : x.natAbs < 2048 ∧ y.natAbs < 2048 ∧ (x + y).natAbs < 2048) (hw : 11 ≤ wb ∧ wb ≤ 14) : ∀ A L ad cd, Room A 2 → Exs prog w H0 mg mb ⟨A, envOf (defAt 16).name (defAt 16).scope L ad cd, 2, ["x", "y", "w"], [], [("signed", .ref (fa mg "signed")), ("add", .ref (fa mg "add")), ("compare", .ref (fa mg "compare")), ("sub", .ref (fa mg "sub"))], true⟩ ⟨[some (sP x), some (sP y), some (.int (wb : Int))], [], none⟩ (defAt 16).body (.ret (sP (x + y))) := by
  intro A L ad cd hr
  by_cases hs : (x < 0 ↔ y < 0)
  · o_shape
    rw [sg]
    · simp; omega
    · omega
  · by_cases hc : x.natAbs < y.natAbs
    · have hc1 : cmpN x.natAbs y.natAbs < 0 := by simp [cmpN, hc]
      o_shape
      rw [sg]
      · simp; omega
      · omega
    · have hc1 : ¬ cmpN x.natAbs y.natAbs < 0 := by simp [cmpN, hc]; split <;> omega
      o_shape
      rw [sg]
      · simp; omega
      · omega
theorem ok_s_add (X : Env0 H0 mg mb) {A : Around} {k : Nat} (r : Room A k) (hk : 3 ≤ k) {x y : Int} {wb : Nat} (hab : x.natAbs < 2048 ∧ y.natAbs < 2048 ∧ (x + y).natAbs < 2048) (hw : 11 ≤ wb ∧ wb ≤ 14) : CallOk prog w H0 A (.ref (fa mg "s_add")) [sP x, sP y, .int (wb : Int)] (sP (x + y)) :=
  CallOk.of (Con.of (i := 16) X (by decide) (pn := ["x", "y", "w"]) (rest := []) fn_s_add (List.forall_mem_cons.mpr ⟨gl_signed X, List.forall_mem_cons.mpr ⟨gl_add X, List.forall_mem_cons.mpr ⟨gl_compare X, List.forall_mem_cons.mpr ⟨gl_sub X, List.forall_mem_nil _⟩⟩⟩⟩) rfl (body_s_add X hab hw)) r hk
local macro_rules | `(tactic| fold_depth) => `(tactic| (with_reducible apply ok_s_add ‹Env0 _ _ _› ‹Room _ _›))
theorem fn_signed_of : FnOk (defAt 23) ["nat"] ["nat"] [] := by
  refine ⟨rfl, rfl, rfl, rfl, by decide +kernel, fun pm cd doc vs h => ?_, by decide +kernel, by decide +kernel, gk0⟩
  match vs, h with
  | [_], _ => rfl
theorem body_signed_of (X : Env0 H0 mg mb) {n : Nat} : ∀ A L ad cd, Room A 0 → Exs prog w H0 mg mb ⟨A, envOf (defAt 23).name (defAt 23).scope L ad cd, 0, ["nat"], [], [], true⟩ ⟨[some (nP n)], [], none⟩ (defAt 23).body (.ret (sP (n : Int))) := by
  intro A L ad cd hr
  o_shape
  simp
theorem ok_signed_of (X : Env0 H0 mg mb) {A : Around} {k : Nat} (r : Room A k) (hk : 1 ≤ k) {n : Nat} : CallOk prog w H0 A (.ref (fa mg "signed_of")) [nP n] (sP (n : Int)) :=
  CallOk.of (Con.of (i := 23) X (by decide) (pn := ["nat"]) (rest := []) fn_signed_of (List.forall_mem_nil _) rfl (body_signed_of X )) r hk
local macro_rules | `(tactic| fold_depth) => `(tactic| (with_reducible apply ok_signed_of ‹Env0 _ _ _› ‹Room _ _›))
theorem en0 : EnumR (nP 0) [] := ⟨⟨[], rfl, rfl⟩⟩
theorem en1 {n : Nat} (h : n ≠ 0) : EnumR (nP n) [.tup [.int 0, .int (n : Int)]] := ⟨⟨[.int (n : Int)], nP_pos h, rfl⟩⟩
theorem Ev.allN {c : Fc} {σ : Sg} {e : Expr} {pos p : Pos} {n : Nat} (he : Ev prog w H0 mg mb c σ e (nP n)) : Ev prog w H0 mg mb c σ (.Subscript e (.Slice none none none p) pos) (nP n) := by
  by_cases h : n = 0
  · subst h; exact Ev.all (l := []) he (by decide)
  · rw [nP_pos h] at he ⊢; exact Ev.all he (Nat.le_of_ble_eq_true rfl)
theorem Ev.revN {c : Fc} {σ : Sg} {e h : Expr} {pos p : Pos} {n : Nat} (he : Ev prog w H0 mg mb c σ e (nP n)) (hi : Ev prog w H0 mg mb c σ h (.int (-1))) : Ev prog w H0 mg mb c σ (.Subscript e (.Slice none none (some h) p) pos) (nP n) := by
  by_cases h0 : n = 0
  · subst h0; exact Ev.rev (l := []) he hi (by decide)
  · rw [nP_pos h0] at he ⊢; exact Ev.rev he hi (Nat.le_of_ble_eq_true rfl)
def tq (x : Int) (y : Nat) : Int := if x < 0 then -((x.natAbs / y : Nat) : Int) else ((x.natAbs / y : Nat) : Int)
def tr (x : Int) (y : Nat) : Int := if x < 0 then -((x.natAbs % y : Nat) : Int) else ((x.natAbs % y : Nat) : Int)
local macro_rules | `(tactic| reads_via) => `(tactic| first | (with_reducible apply Ev.allN) | (with_reducible apply Ev.revN))
local macro_rules | `(tactic| reads_via_all) => `(tactic| ((with_reducible show EnumR _ _); first | (with_reducible exact en0) | ((with_reducible apply en1); (with_reducible assumption))))
theorem fn_mul_school : FnOk (defAt 31) ["a", "b", "w"] ["a", "b", "w", "found", "mask", "at", "limb", "carry", "spot", "other"] [("len", .builtin "len"), ("enumerate", .type "enumerate"), ("normal", .ref (fa mg "normal"))] := by
  refine ⟨rfl, rfl, rfl, rfl, by decide +kernel, fun pm cd doc vs h => ?_, by decide +kernel, by decide +kernel, gk1 ⟨by decide +kernel, by decide +kernel⟩ (gk1 ⟨by decide +kernel, by decide +kernel⟩ (gk1 ⟨by decide +kernel, by decide +kernel⟩ (gk0)))⟩
  match vs, h with
  | [_, _, _], _ => rfl
theorem body_mul_school (X : Env0 H0 mg mb) {a b wb : Nat} (hab : a * b < 2048) (hw : 11 ≤ wb ∧ wb ≤ 14) : ∀ A L ad cd, Room A 1 → Exs prog w H0 mg mb ⟨A, envOf (defAt 31).name (defAt 31).scope L ad cd, 1, ["a", "b", "w", "found", "mask", "at", "limb", "carry", "spot", "other"], [], [("len", .builtin "len"), ("enumerate", .type "enumerate"), ("normal", .ref (fa mg "normal"))], true⟩ ⟨[some (nP a), some (nP b), some (.int (wb : Int)), none, none, none, none, none, none, none], [], none⟩ (defAt 31).body (.ret (nP (a * b))) := by
  intro A L ad cd hr
  by_cases ha : a = 0
  · subst ha
    by_cases hb : b = 0
    · subst hb
      o_shape
      rfl
    · o_shape
      refine nL_nat ?_; simp
  · by_cases hb : b = 0
    · subst hb
      o_shape
      refine nL_nat ?_; simp
    · have ha' : a < 2048 := Nat.lt_of_le_of_lt (Nat.le_mul_of_pos_right a (by omega)) hab
      have e1 := mask_eq (x := (a : Int) * b) ⟨Int.mul_nonneg (by omega) (by omega), by exact_mod_cast hab⟩ hw.1
      have e2 := shift_eq (x := (a : Int) * b) ⟨Int.mul_nonneg (by omega) (by omega), by exact_mod_cast hab⟩ hw.1
      o_shape
      refine nL_nat ?_; simp [e1]
theorem ok_mul_school (X : Env0 H0 mg mb) {A : Around} {k : Nat} (r : Room A k) (hk : 2 ≤ k) {a b wb : Nat} (hab : a * b < 2048) (hw : 11 ≤ wb ∧ wb ≤ 14) : CallOk prog w H0 A (.ref (fa mg "mul_school")) [nP a, nP b, .int (wb : Int)] (nP (a * b)) :=
  CallOk.of (Con.of (i := 31) X (by decide) (pn := ["a", "b", "w"]) (rest := ["found", "mask", "at", "limb", "carry", "spot", "other"]) fn_mul_school (List.forall_mem_cons.mpr ⟨X.len, List.forall_mem_cons.mpr ⟨X.enumerate, List.forall_mem_cons.mpr ⟨gl_normal X, List.forall_mem_nil _⟩⟩⟩) rfl (body_mul_school X hab hw)) r hk
local macro_rules | `(tactic| fold_depth) => `(tactic| (with_reducible apply ok_mul_school ‹Env0 _ _ _› ‹Room _ _›))
theorem fn_divrem_small : FnOk (defAt 32) ["a", "b", "w"] ["a", "b", "w", "quotient", "rest"] [("divrem_limb", .ref (fa mg "divrem_limb"))] := by
  refine ⟨rfl, rfl, rfl, rfl, by decide +kernel, fun pm cd doc vs h => ?_, by decide +kernel, by decide +kernel, gk1 ⟨by decide +kernel, by decide +kernel⟩ (gk0)⟩
  match vs, h with
  | [_, _, _], _ => rfl
theorem body_divrem_small (X : Env0 H0 mg mb) {a b wb : Nat} (hb : b ≠ 0 ∧ b < 2048) (hw : 11 ≤ wb ∧ wb ≤ 14) : ∀ A L ad cd, Room A 2 → Exs prog w H0 mg mb ⟨A, envOf (defAt 32).name (defAt 32).scope L ad cd, 2, ["a", "b", "w", "quotient", "rest"], [], [("divrem_limb", .ref (fa mg "divrem_limb"))], true⟩ ⟨[some (nP a), some (nP b), some (.int (wb : Int)), none, none], [], none⟩ (defAt 32).body (.ret (.tup [nP (a / b), nP (a % b)])) := by
  intro A L ad cd hr
  have ib := itN hb.1
  by_cases hr0 : a % b = 0
  · o_shape
    rw [hr0]; rfl
  · o_shape
    rw [nP_pos (n := a % b) hr0]
theorem ok_divrem_small (X : Env0 H0 mg mb) {A : Around} {k : Nat} (r : Room A k) (hk : 3 ≤ k) {a b wb : Nat} (hb : b ≠ 0 ∧ b < 2048) (hw : 11 ≤ wb ∧ wb ≤ 14) : CallOk prog w H0 A (.ref (fa mg "divrem_small")) [nP a, nP b, .int (wb : Int)] (.tup [nP (a / b), nP (a % b)]) :=
  CallOk.of (Con.of (i := 32) X (by decide) (pn := ["a", "b", "w"]) (rest := ["quotient", "rest"]) fn_divrem_small (List.forall_mem_cons.mpr ⟨gl_divrem_limb X, List.forall_mem_nil _⟩) rfl (body_divrem_small X hb hw)) r hk
local macro_rules | `(tactic| fold_depth) => `(tactic| (with_reducible apply ok_divrem_small ‹Env0 _ _ _› ‹Room _ _›))
theorem fn_divrem_school : FnOk (defAt 37) ["a", "b", "w"] ["a", "b", "w", "shift", "divisor", "rest", "quotient"] [("len", .builtin "len"), ("compare", .ref (fa mg "compare")), ("divrem_small", .ref (fa mg "divrem_small"))] := by
  refine ⟨rfl, rfl, rfl, rfl, by decide +kernel, fun pm cd doc vs h => ?_, by decide +kernel, by decide +kernel, gk1 ⟨by decide +kernel, by decide +kernel⟩ (gk1 ⟨by decide +kernel, by decide +kernel⟩ (gk1 ⟨by decide +kernel, by decide +kernel⟩ (gk0)))⟩
  match vs, h with
  | [_, _, _], _ => rfl
theorem body_divrem_school (X : Env0 H0 mg mb) {a b wb : Nat} (hb : b ≠ 0 ∧ b < 2048) (hw : 11 ≤ wb ∧ wb ≤ 14) : ∀ A L ad cd, Room A 3 → Exs prog w H0 mg mb ⟨A, envOf (defAt 37).name (defAt 37).scope L ad cd, 3, ["a", "b", "w", "shift", "divisor", "rest", "quotient"], [], [("len", .builtin "len"), ("compare", .ref (fa mg "compare")), ("divrem_small", .ref (fa mg "divrem_small"))], true⟩ ⟨[some (nP a), some (nP b), some (.int (wb : Int)), none, none, none, none], [], none⟩ (defAt 37).body (.ret (.tup [nP (a / b), nP (a % b)])) := by
  intro A L ad cd hr
  have hb1 := hb.1
  by_cases hc : a < b
  · have hc1 : cmpN a b < 0 := by simp [cmpN, hc]
    have hs : ∃ l, nP a = .list l ∧ l.length ≤ 1 := by
      by_cases ha : a = 0
      · exact ⟨[], by rw [ha]; rfl, by simp⟩
      · exact ⟨_, nP_pos ha, by simp⟩
    o_shape
    rw [Nat.div_eq_of_lt hc, Nat.mod_eq_of_lt hc]; rfl
  · have hc1 : ¬ cmpN a b < 0 := by simp [cmpN, hc]; split <;> omega
    o_shape
    rfl
theorem ok_divrem_school (X : Env0 H0 mg mb) {A : Around} {k : Nat} (r : Room A k) (hk : 4 ≤ k) {a b wb : Nat} (hb : b ≠ 0 ∧ b < 2048) (hw : 11 ≤ wb ∧ wb ≤ 14) : CallOk prog w H0 A (.ref (fa mg "divrem_school")) [nP a, nP b, .int (wb : Int)] (.tup [nP (a / b), nP (a % b)]) :=
  CallOk.of (Con.of (i := 37) X (by decide) (pn := ["a", "b", "w"]) (rest := ["shift", "divisor", "rest", "quotient"]) fn_divrem_school (List.forall_mem_cons.mpr ⟨X.len, List.forall_mem_cons.mpr ⟨gl_compare X, List.forall_mem_cons.mpr ⟨gl_divrem_small X, List.forall_mem_nil _⟩⟩⟩) rfl (body_divrem_school X hb hw)) r hk
local macro_rules | `(tactic| fold_depth) => `(tactic| (with_reducible apply ok_divrem_school ‹Env0 _ _ _› ‹Room _ _›))
theorem fn_s_mul : FnOk (defAt 17) ["x", "y", "w", "mul"] ["x", "y", "w", "mul"] [("signed", .ref (fa mg "signed"))] := by
  refine ⟨rfl, rfl, rfl, rfl, by decide +kernel, fun pm cd doc vs h => ?_, by decide +kernel, by decide +kernel, gk1 ⟨by decide +kernel, by decide +kernel⟩ (gk0)⟩
  match vs, h with
  | [_, _, _, _], _ => rfl
theorem body_s_mul (X : Env0 H0 mg mb) {x y : Int} {wb : Nat} (hab : x.natAbs * y.natAbs < 2048) (hw : 11 ≤ wb ∧ wb ≤ 14) : ∀ A L ad cd, Room A 2 → Exs prog w H0 mg mb ⟨A, envOf (defAt 17).name (defAt 17).scope L ad cd, 2, ["x", "y", "w", "mul"], [], [("signed", .ref (fa mg "signed"))], true⟩ ⟨[some (sP x), some (sP y), some (.int (wb : Int)), some (.val (.ref (fa mg "mul_school")))], [], none⟩ (defAt 17).body (.ret (sP (x * y))) := by
  intro A L ad cd hr
  o_shape
  rw [sg]
  · rcases Int.lt_trichotomy x 0 with hx | hx | hx <;> rcases Int.lt_trichotomy y 0 with hy | hy | hy
    · have := Int.mul_pos_of_neg_of_neg hx hy; simp; omega
    · subst hy; simp
    · have := Int.mul_neg_of_neg_of_pos hx hy; refine ⟨fun _ => this, fun _ => ⟨by simp; omega, Nat.mul_ne_zero (by omega) (by omega)⟩⟩
    · subst hx; simp
    · subst hx; simp
    · subst hx; simp
    · have := Int.mul_neg_of_pos_of_neg hx hy; refine ⟨fun _ => this, fun _ => ⟨by simp; omega, Nat.mul_ne_zero (by omega) (by omega)⟩⟩
    · subst hy; simp
    · have := Int.mul_pos hx hy; simp; omega
  · rw [Int.natAbs_mul]
theorem ok_s_mul (X : Env0 H0 mg mb) {A : Around} {k : Nat} (r : Room A k) (hk : 3 ≤ k) {x y : Int} {wb : Nat} (hab : x.natAbs * y.natAbs < 2048) (hw : 11 ≤ wb ∧ wb ≤ 14) : CallOk prog w H0 A (.ref (fa mg "s_mul")) [sP x, sP y, .int (wb : Int), .val (.ref (fa mg "mul_school"))] (sP (x * y)) :=
  CallOk.of (Con.of (i := 17) X (by decide) (pn := ["x", "y", "w", "mul"]) (rest := []) fn_s_mul (List.forall_mem_cons.mpr ⟨gl_signed X, List.forall_mem_nil _⟩) rfl (body_s_mul X hab hw)) r hk
local macro_rules | `(tactic| fold_depth) => `(tactic| (with_reducible apply ok_s_mul ‹Env0 _ _ _› ‹Room _ _›))
theorem fn_tdiv : FnOk (defAt 18) ["x", "y", "w", "divrem"] ["x", "y", "w", "divrem", "quotient", "rest"] [("len", .builtin "len"), ("signed", .ref (fa mg "signed"))] := by
  refine ⟨rfl, rfl, rfl, rfl, by decide +kernel, fun pm cd doc vs h => ?_, by decide +kernel, by decide +kernel, gk1 ⟨by decide +kernel, by decide +kernel⟩ (gk1 ⟨by decide +kernel, by decide +kernel⟩ (gk0))⟩
  match vs, h with
  | [_, _, _, _], _ => rfl
theorem body_tdiv (X : Env0 H0 mg mb) {x : Int} {y : Nat} {wb : Nat} (hy : y ≠ 0 ∧ y < 2048) (hw : 11 ≤ wb ∧ wb ≤ 14) : ∀ A L ad cd, Room A 4 → Exs prog w H0 mg mb ⟨A, envOf (defAt 18).name (defAt 18).scope L ad cd, 4, ["x", "y", "w", "divrem", "quotient", "rest"], [], [("len", .builtin "len"), ("signed", .ref (fa mg "signed"))], true⟩ ⟨[some (sP x), some (sP (y : Int)), some (.int (wb : Int)), some (.val (.ref (fa mg "divrem_school"))), none, none], [], none⟩ (defAt 18).body (.ret (.tup [sP (tq x y), sP (tr x y)])) := by
  intro A L ad cd hr
  have hy1 : ((y : Nat) : Int).natAbs ≠ 0 := by omega
  o_shape
  show PV.tup [_, _] = _
  congr 2
  · rw [sg]
    · unfold tq; rw [Int.natAbs_natCast]; generalize x.natAbs / y = q; by_cases hx : x < 0 <;> simp [hx] <;> omega
    · unfold tq; rw [Int.natAbs_natCast]; generalize x.natAbs / _ = q; split <;> omega
  · congr 1
    rw [sg]
    · unfold tr; rw [Int.natAbs_natCast]; generalize x.natAbs % y = q; by_cases hx : x < 0 <;> simp [hx] <;> omega
    · unfold tr; rw [Int.natAbs_natCast]; generalize x.natAbs % _ = q; split <;> omega
theorem ok_tdiv (X : Env0 H0 mg mb) {A : Around} {k : Nat} (r : Room A k) (hk : 5 ≤ k) {x : Int} {y : Nat} {wb : Nat} (hy : y ≠ 0 ∧ y < 2048) (hw : 11 ≤ wb ∧ wb ≤ 14) : CallOk prog w H0 A (.ref (fa mg "tdiv")) [sP x, sP (y : Int), .int (wb : Int), .val (.ref (fa mg "divrem_school"))] (.tup [sP (tq x y), sP (tr x y)]) :=
  CallOk.of (Con.of (i := 18) X (by decide) (pn := ["x", "y", "w", "divrem"]) (rest := ["quotient", "rest"]) fn_tdiv (List.forall_mem_cons.mpr ⟨X.len, List.forall_mem_cons.mpr ⟨gl_signed X, List.forall_mem_nil _⟩⟩) rfl (body_tdiv X hy hw)) r hk
local macro_rules | `(tactic| fold_depth) => `(tactic| (with_reducible apply ok_tdiv ‹Env0 _ _ _› ‹Room _ _›))
theorem ok_add_limb1 (X : Env0 H0 mg mb) {A : Around} {k : Nat} (r : Room A k) (hk : 1 ≤ k) {a wb : Nat} (hab : a + 1 < 2048) (hw : 11 ≤ wb ∧ wb ≤ 14) : CallOk prog w H0 A (.ref (fa mg "add_limb")) [nP a, .int 1, .int (wb : Int)] (nP (a + 1)) := ok_add_limb (d := 1) X r hk hab hw
local macro_rules | `(tactic| fold_depth) => `(tactic| (with_reducible apply ok_add_limb1 ‹Env0 _ _ _› ‹Room _ _›))
theorem tq_tr (x : Int) (y : Nat) (hy : y ≠ 0) : (x < 0 → (tr x y).natAbs ≠ 0 → x / (y : Int) = tq x y - 1 ∧ x % (y : Int) = tr x y + y) ∧ (¬ (x < 0 ∧ (tr x y).natAbs ≠ 0) → x / (y : Int) = tq x y ∧ x % (y : Int) = tr x y) := by
  have h1 := Nat.div_add_mod x.natAbs y
  have h2 := Nat.mod_lt x.natAbs (Nat.pos_of_ne_zero hy)
  unfold tq tr
  generalize x.natAbs / y = q at *
  generalize x.natAbs % y = r at *
  have h1' : (y : Int) * (q : Int) + r = x.natAbs := by exact_mod_cast h1
  constructor
  · intro hx hr
    rw [if_pos hx] at hr ⊢
    rw [if_pos hx]
    rw [Int.ediv_emod_unique (by omega)]
    refine ⟨?_, by omega, by omega⟩
    simp only [Int.mul_sub, Int.mul_neg]
    omega
  · intro hr
    rw [Int.ediv_emod_unique (by omega)]
    by_cases hx : x < 0
    · rw [if_pos hx] at hr ⊢
      rw [if_pos hx]
      refine ⟨?_, by omega, by omega⟩
      simp only [Int.mul_neg]
      omega
    · rw [if_neg hx, if_neg hx]
      refine ⟨by omega, by omega, by omega⟩
theorem fn_fdiv : FnOk (defAt 19) ["x", "y", "w", "divrem"] ["x", "y", "w", "divrem", "quotient", "rest"] [("len", .builtin "len"), ("tdiv", .ref (fa mg "tdiv")), ("add_limb", .ref (fa mg "add_limb")), ("s_add", .ref (fa mg "s_add"))] := by
  refine ⟨rfl, rfl, rfl, rfl, by decide +kernel, fun pm cd doc vs h => ?_, by decide +kernel, by decide +kernel, gk1 ⟨by decide +kernel, by decide +kernel⟩ (gk1 ⟨by decide +kernel, by decide +kernel⟩ (gk1 ⟨by decide +kernel, by decide +kernel⟩ (gk1 ⟨by decide +kernel, by decide +kernel⟩ (gk0))))⟩
  match vs, h with
  | [_, _, _, _], _ => rfl
theorem body_fdiv (X : Env0 H0 mg mb) {x : Int} {y : Nat} {wb : Nat} (hy : y ≠ 0 ∧ y < 1000) (hx : x.natAbs < 1000) (hw : 11 ≤ wb ∧ wb ≤ 14) : ∀ A L ad cd, Room A 5 → Exs prog w H0 mg mb ⟨A, envOf (defAt 19).name (defAt 19).scope L ad cd, 5, ["x", "y", "w", "divrem", "quotient", "rest"], [], [("len", .builtin "len"), ("tdiv", .ref (fa mg "tdiv")), ("add_limb", .ref (fa mg "add_limb")), ("s_add", .ref (fa mg "s_add"))], true⟩ ⟨[some (sP x), some (sP (y : Int)), some (.int (wb : Int)), some (.val (.ref (fa mg "divrem_school"))), none, none], [], none⟩ (defAt 19).body (.ret (.tup [sP (x / (y : Int)), sP (x % (y : Int))])) := by
  intro A L ad cd hr
  have hy2 : y ≠ 0 ∧ y < 2048 := ⟨hy.1, by omega⟩
  obtain ⟨f1, f2⟩ := tq_tr x y hy.1
  have hq : (tq x y).natAbs ≤ x.natAbs := by
    have := Nat.div_le_self x.natAbs y
    unfold tq; generalize x.natAbs / y = q at *; split <;> omega
  have hr2 : (tr x y).natAbs ≤ x.natAbs := by
    have := Nat.mod_le x.natAbs y
    unfold tr; generalize x.natAbs % y = q at *; split <;> omega
  have hq0 : x < 0 → tq x y ≤ 0 := fun h => by unfold tq; rw [if_pos h]; generalize x.natAbs / y = q; omega
  by_cases hr : (tr x y).natAbs = 0
  · obtain ⟨g1, g2⟩ := f2 (fun h => h.2 hr)
    by_cases hx0 : x < 0
    · o_shape
      rw [g1, g2]
    · o_shape
      rw [g1, g2]
  · by_cases hx0 : x < 0
    · obtain ⟨g1, g2⟩ := f1 hx0 hr
      have hq1 := hq0 hx0
      o_shape
      rw [g1, g2]
      have e1 : decide (tq x y - 1 < 0) = true := by simp; omega
      have e2 : (tq x y - 1).natAbs = (tq x y).natAbs + 1 := by omega
      rw [show sP (tq x y - 1) = .tup [.bool true, nP ((tq x y).natAbs + 1)] by show PV.tup [.bool _, nP _] = _; rw [e1, e2]]
    · obtain ⟨g1, g2⟩ := f2 (fun h => hx0 h.1)
      o_shape
      rw [g1, g2]
theorem ok_fdiv (X : Env0 H0 mg mb) {A : Around} {k : Nat} (r : Room A k) (hk : 6 ≤ k) {x : Int} {y : Nat} {wb : Nat} (hy : y ≠ 0 ∧ y < 1000) (hx : x.natAbs < 1000) (hw : 11 ≤ wb ∧ wb ≤ 14) : CallOk prog w H0 A (.ref (fa mg "fdiv")) [sP x, sP (y : Int), .int (wb : Int), .val (.ref (fa mg "divrem_school"))] (.tup [sP (x / (y : Int)), sP (x % (y : Int))]) :=
  CallOk.of (Con.of (i := 19) X (by decide) (pn := ["x", "y", "w", "divrem"]) (rest := ["quotient", "rest"]) fn_fdiv (List.forall_mem_cons.mpr ⟨X.len, List.forall_mem_cons.mpr ⟨gl_tdiv X, List.forall_mem_cons.mpr ⟨gl_add_limb X, List.forall_mem_cons.mpr ⟨gl_s_add X, List.forall_mem_nil _⟩⟩⟩⟩) rfl (body_fdiv X hy hx hw)) r hk
local macro_rules | `(tactic| fold_depth) => `(tactic| (with_reducible apply ok_fdiv ‹Env0 _ _ _› ‹Room _ _›))
theorem fn_common : FnOk (defAt 21) ["a", "b", "w", "divrem"] ["a", "b", "w", "divrem"] [("len", .builtin "len"), ("normal", .ref (fa mg "normal"))] := by
  refine ⟨rfl, rfl, rfl, rfl, by decide +kernel, fun pm cd doc vs h => ?_, by decide +kernel, by decide +kernel, gk1 ⟨by decide +kernel, by decide +kernel⟩ (gk1 ⟨by decide +kernel, by decide +kernel⟩ (gk0))⟩
  match vs, h with
  | [_, _, _, _], _ => rfl
theorem body_common (X : Env0 H0 mg mb) {a b : Nat} {wb : Nat} (hb : b < 2048) (hw : 11 ≤ wb ∧ wb ≤ 14) : ∀ A L ad cd, Room A 4 → Exs prog w H0 mg mb ⟨A, envOf (defAt 21).name (defAt 21).scope L ad cd, 4, ["a", "b", "w", "divrem"], [], [("len", .builtin "len"), ("normal", .ref (fa mg "normal"))], true⟩ ⟨[some (nP a), some (nP b), some (.int (wb : Int)), some (.val (.ref (fa mg "divrem_school")))], [], none⟩ (defAt 21).body (.ret (nP (Nat.gcd a b))) := by
  intro A L ad cd hr
  apply Exs.cast
  apply Exs.cons (σ₁ := ⟨[some (nP (Nat.gcd a b)), some (nP 0), some (.int (wb : Int)), some (.val (.ref (fa mg "divrem_school")))], [], none⟩)
  · apply Ex.whileE
    induction b using Nat.strongRecOn generalizing a with
    | _ b ih =>
      by_cases hb0 : b = 0
      · subst hb0
        rw [Nat.gcd_zero_right]
        apply WLoop.doneE
        · repeat' nest_cls
        · rfl
      · rw [Nat.gcd_comm, Nat.gcd_rec, Nat.gcd_comm]
        have hbb : b ≠ 0 ∧ b < 2048 := ⟨hb0, hb⟩
        apply WLoop.stepE
        · repeat' nest_cls
        · rfl
        · apply Exs.one
          repeat' nest_cls
        · have hlt := Nat.mod_lt a (Nat.pos_of_ne_zero hb0)
          exact ih (a % b) hlt (by omega)
  repeat' nest_cls
  rfl
theorem ok_common (X : Env0 H0 mg mb) {A : Around} {k : Nat} (r : Room A k) (hk : 5 ≤ k) {a b : Nat} {wb : Nat} (hb : b < 2048) (hw : 11 ≤ wb ∧ wb ≤ 14) : CallOk prog w H0 A (.ref (fa mg "common")) [nP a, nP b, .int (wb : Int), .val (.ref (fa mg "divrem_school"))] (nP (Nat.gcd a b)) :=
  CallOk.of (Con.of (i := 21) X (by decide) (pn := ["a", "b", "w", "divrem"]) (rest := []) fn_common (List.forall_mem_cons.mpr ⟨X.len, List.forall_mem_cons.mpr ⟨gl_normal X, List.forall_mem_nil _⟩⟩) rfl (body_common X hb hw)) r hk
local macro_rules | `(tactic| fold_depth) => `(tactic| (with_reducible apply ok_common ‹Env0 _ _ _› ‹Room _ _›))
theorem fn_cut_signed : FnOk (defAt 22) ["x", "d", "w", "divrem"] ["x", "d", "w", "divrem"] [] := by
  refine ⟨rfl, rfl, rfl, rfl, by decide +kernel, fun pm cd doc vs h => ?_, by decide +kernel, by decide +kernel, gk0⟩
  match vs, h with
  | [_, _, _, _], _ => rfl
theorem body_cut_signed (X : Env0 H0 mg mb) {x : Int} {d : Nat} {wb : Nat} (hd : d ≠ 0 ∧ d < 2048) (hw : 11 ≤ wb ∧ wb ≤ 14) : ∀ A L ad cd, Room A 4 → Exs prog w H0 mg mb ⟨A, envOf (defAt 22).name (defAt 22).scope L ad cd, 4, ["x", "d", "w", "divrem"], [], [], true⟩ ⟨[some (sP x), some (nP d), some (.int (wb : Int)), some (.val (.ref (fa mg "divrem_school")))], [], none⟩ (defAt 22).body (.ret (.tup [.bool (decide (x < 0)), nP (x.natAbs / d)])) := by
  intro A L ad cd hr
  o_shape
  rfl
theorem ok_cut_signed (X : Env0 H0 mg mb) {A : Around} {k : Nat} (r : Room A k) (hk : 5 ≤ k) {x : Int} {d : Nat} {wb : Nat} (hd : d ≠ 0 ∧ d < 2048) (hw : 11 ≤ wb ∧ wb ≤ 14) : CallOk prog w H0 A (.ref (fa mg "cut_signed")) [sP x, nP d, .int (wb : Int), .val (.ref (fa mg "divrem_school"))] (.tup [.bool (decide (x < 0)), nP (x.natAbs / d)]) :=
  CallOk.of (Con.of (i := 22) X (by decide) (pn := ["x", "d", "w", "divrem"]) (rest := []) fn_cut_signed (List.forall_mem_nil _) rfl (body_cut_signed X hd hw)) r hk
local macro_rules | `(tactic| fold_depth) => `(tactic| (with_reducible apply ok_cut_signed ‹Env0 _ _ _› ‹Room _ _›))
theorem sP_div {x : Int} {d : Nat} (hd : d ≠ 0) (h : d ∣ x.natAbs) : PV.tup [.bool (decide (x < 0)), nP (x.natAbs / d)] = sP (x / (d : Int)) := by
  obtain ⟨t, ht⟩ := h
  have hx : x = (d : Int) * t ∨ x = (d : Int) * (-(t : Int)) := by
    rw [Int.mul_neg]
    have : (x.natAbs : Int) = (d : Int) * t := by exact_mod_cast ht
    omega
  have hdp : (0 : Int) < d := by omega
  have e1 : x.natAbs / d = t := by rw [ht]; exact Nat.mul_div_cancel_left _ (by omega)
  rcases hx with hx | hx
  · have e2 : x / (d : Int) = t := by rw [hx]; exact Int.mul_ediv_cancel_left _ (by omega)
    have h0 : ¬ x < 0 := by
      have := Int.mul_nonneg (a := (d : Int)) (b := t) (by omega) (by omega)
      omega
    rw [e1]
    show _ = PV.tup [.bool _, nP _]
    rw [e2]
    simp [h0]
  · have e2 : x / (d : Int) = -(t : Int) := by rw [hx]; exact Int.mul_ediv_cancel_left _ (by omega)
    have h0 : x ≤ 0 := by
      have := Int.mul_nonneg (a := (d : Int)) (b := t) (by omega) (by omega)
      rw [Int.mul_neg] at hx
      omega
    rw [e1]
    show _ = PV.tup [.bool _, nP _]
    rw [e2]
    have ht0 : (d : Int) * t = 0 ↔ (t : Int) = 0 := by rw [Int.mul_eq_zero]; omega
    rw [Int.mul_neg] at hx
    have : (x < 0) ↔ (-(t : Int) < 0) := by omega
    simp [this]
theorem fn_r_make : FnOk (defAt 24) ["top", "bottom", "w", "divrem"] ["top", "bottom", "w", "divrem", "told"] [("len", .builtin "len"), ("common", .ref (fa mg "common"))] := by
  refine ⟨rfl, rfl, rfl, rfl, by decide +kernel, fun pm cd doc vs h => ?_, by decide +kernel, by decide +kernel, gk1 ⟨by decide +kernel, by decide +kernel⟩ (gk1 ⟨by decide +kernel, by decide +kernel⟩ (gk0))⟩
  match vs, h with
  | [_, _, _, _], _ => rfl
theorem body_r_make (X : Env0 H0 mg mb) {x : Int} {y : Nat} {wb : Nat} (hy : y ≠ 0 ∧ y < 2048) (hw : 11 ≤ wb ∧ wb ≤ 14) : ∀ A L ad cd, Room A 5 → Exs prog w H0 mg mb ⟨A, envOf (defAt 24).name (defAt 24).scope L ad cd, 5, ["top", "bottom", "w", "divrem", "told"], [], [("len", .builtin "len"), ("common", .ref (fa mg "common"))], true⟩ ⟨[some (sP x), some (sP (y : Int)), some (.int (wb : Int)), some (.val (.ref (fa mg "divrem_school"))), none], [], none⟩ (defAt 24).body (.ret (rP (x / (Nat.gcd x.natAbs y : Nat)) (y / Nat.gcd x.natAbs y))) := by
  intro A L ad cd hr
  have hy1 : ((y : Nat) : Int).natAbs ≠ 0 := by omega
  have hg : 0 < Nat.gcd x.natAbs y := Nat.gcd_pos_of_pos_right _ (by omega)
  have hg2 : Nat.gcd x.natAbs y ≤ y := Nat.gcd_le_right _ (by omega)
  have hgg : Nat.gcd x.natAbs ((y : Nat) : Int).natAbs ≠ 0 ∧ Nat.gcd x.natAbs ((y : Nat) : Int).natAbs < 2048 := by rw [Int.natAbs_natCast]; omega
  by_cases hx : x = 0
  · subst hx
    o_shape
    simp [nP_zero, Nat.div_self (Nat.pos_of_ne_zero hy.1)]
    rfl
  · have hx1 : x.natAbs ≠ 0 := by omega
    o_shape
    have e := sP_div (x := x) (Nat.ne_of_gt hg) (Nat.gcd_dvd_left _ _)
    show _ = PV.tup [_, _]
    rw [← e]
    have h0 : ¬ ((y : Int) < 0) := by omega
    simp [h0]
theorem ok_r_make (X : Env0 H0 mg mb) {A : Around} {k : Nat} (r : Room A k) (hk : 6 ≤ k) {x : Int} {y : Nat} {wb : Nat} (hy : y ≠ 0 ∧ y < 2048) (hw : 11 ≤ wb ∧ wb ≤ 14) : CallOk prog w H0 A (.ref (fa mg "r_make")) [sP x, sP (y : Int), .int (wb : Int), .val (.ref (fa mg "divrem_school"))] (rP (x / (Nat.gcd x.natAbs y : Nat)) (y / Nat.gcd x.natAbs y)) :=
  CallOk.of (Con.of (i := 24) X (by decide) (pn := ["top", "bottom", "w", "divrem"]) (rest := ["told"]) fn_r_make (List.forall_mem_cons.mpr ⟨X.len, List.forall_mem_cons.mpr ⟨gl_common X, List.forall_mem_nil _⟩⟩) rfl (body_r_make X hy hw)) r hk
local macro_rules | `(tactic| fold_depth) => `(tactic| (with_reducible apply ok_r_make ‹Env0 _ _ _› ‹Room _ _›))
theorem fn_r_neg : FnOk (defAt 25) ["x"] ["x"] [("s_neg", .ref (fa mg "s_neg"))] := by
  refine ⟨rfl, rfl, rfl, rfl, by decide +kernel, fun pm cd doc vs h => ?_, by decide +kernel, by decide +kernel, gk1 ⟨by decide +kernel, by decide +kernel⟩ (gk0)⟩
  match vs, h with
  | [_], _ => rfl
theorem body_r_neg (X : Env0 H0 mg mb) {a : Int} {b : Nat} : ∀ A L ad cd, Room A 2 → Exs prog w H0 mg mb ⟨A, envOf (defAt 25).name (defAt 25).scope L ad cd, 2, ["x"], [], [("s_neg", .ref (fa mg "s_neg"))], true⟩ ⟨[some (rP a b)], [], none⟩ (defAt 25).body (.ret (rP (-a) b)) := by
  intro A L ad cd hr
  o_shape
  rfl
theorem ok_r_neg (X : Env0 H0 mg mb) {A : Around} {k : Nat} (r : Room A k) (hk : 3 ≤ k) {a : Int} {b : Nat} : CallOk prog w H0 A (.ref (fa mg "r_neg")) [rP a b] (rP (-a) b) :=
  CallOk.of (Con.of (i := 25) X (by decide) (pn := ["x"]) (rest := []) fn_r_neg (List.forall_mem_cons.mpr ⟨gl_s_neg X, List.forall_mem_nil _⟩) rfl (body_r_neg X )) r hk
local macro_rules | `(tactic| fold_depth) => `(tactic| (with_reducible apply ok_r_neg ‹Env0 _ _ _› ‹Room _ _›))
def gT (a : Int) (b : Nat) (c : Int) (d : Nat) : Int := a * ((d / Nat.gcd b d : Nat) : Int) + c * ((b / Nat.gcd b d : Nat) : Int)
def gO (a : Int) (b : Nat) (c : Int) (d : Nat) : Nat := Nat.gcd (gT a b c d).natAbs (Nat.gcd b d)
def raT (a : Int) (b : Nat) (c : Int) (d : Nat) : Int := if gT a b c d = 0 then 0 else gT a b c d / (gO a b c d : Int)
def raB (a : Int) (b : Nat) (c : Int) (d : Nat) : Nat := if gT a b c d = 0 then 1 else b / Nat.gcd b d * (d / gO a b c d)
structure RaOk (a : Int) (b : Nat) (c : Int) (d : Nat) : Prop where
  b0 : b ≠ 0 ∧ b < 2048
  d0 : d ≠ 0 ∧ d < 2048
  m1 : a.natAbs * (d / Nat.gcd b d) < 2048
  m2 : c.natAbs * (b / Nat.gcd b d) < 2048
  s : (gT a b c d).natAbs < 2048
  m3 : b / Nat.gcd b d * (d / gO a b c d) < 2048
local macro_rules | `(tactic| reads_via_all) => `(tactic| ((with_reducible show RaOk _ _ _ _); with_reducible assumption))
theorem fn_r_add : FnOk (defAt 26) ["x", "y", "w", "mul", "divrem"] ["x", "y", "w", "mul", "divrem", "told", "here", "there", "top", "out"] [("len", .builtin "len"), ("common", .ref (fa mg "common")), ("s_add", .ref (fa mg "s_add")), ("s_mul", .ref (fa mg "s_mul")), ("signed_of", .ref (fa mg "signed_of")), ("cut_signed", .ref (fa mg "cut_signed"))] := by
  refine ⟨rfl, rfl, rfl, rfl, by decide +kernel, fun pm cd doc vs h => ?_, by decide +kernel, by decide +kernel, gk1 ⟨by decide +kernel, by decide +kernel⟩ (gk1 ⟨by decide +kernel, by decide +kernel⟩ (gk1 ⟨by decide +kernel, by decide +kernel⟩ (gk1 ⟨by decide +kernel, by decide +kernel⟩ (gk1 ⟨by decide +kernel, by decide +kernel⟩ (gk1 ⟨by decide +kernel, by decide +kernel⟩ (gk0))))))⟩
  match vs, h with
  | [_, _, _, _, _], _ => rfl
theorem body_r_add (X : Env0 H0 mg mb) {a c : Int} {b d : Nat} {wb : Nat} (ho : RaOk a b c d) (hw : 11 ≤ wb ∧ wb ≤ 14) : ∀ A L ad cd, Room A 5 → Exs prog w H0 mg mb ⟨A, envOf (defAt 26).name (defAt 26).scope L ad cd, 5, ["x", "y", "w", "mul", "divrem", "told", "here", "there", "top", "out"], [], [("len", .builtin "len"), ("common", .ref (fa mg "common")), ("s_add", .ref (fa mg "s_add")), ("s_mul", .ref (fa mg "s_mul")), ("signed_of", .ref (fa mg "signed_of")), ("cut_signed", .ref (fa mg "cut_signed"))], true⟩ ⟨[some (rP a b), some (rP c d), some (.int (wb : Int)), some (.val (.ref (fa mg "mul_school"))), some (.val (.ref (fa mg "divrem_school"))), none, none, none, none, none], [], none⟩ (defAt 26).body (.ret (rP (raT a b c d) (raB a b c d))) := by
  intro A L ad cd hr
  obtain ⟨hb, hd, m1, m2, ms, m3⟩ := ho
  have hd2 : d < 2048 := hd.2
  have hg : 0 < Nat.gcd b d := Nat.gcd_pos_of_pos_right _ (by omega)
  have hg2 : Nat.gcd b d ≤ d := Nat.gcd_le_right _ (by omega)
  have hgg : Nat.gcd b d ≠ 0 ∧ Nat.gcd b d < 2048 := by omega
  have hg3 : Nat.gcd b d < 2048 := by omega
  have n1 : a.natAbs * ((d / Nat.gcd b d : Nat) : Int).natAbs < 2048 := by rw [Int.natAbs_natCast]; exact m1
  have n2 : c.natAbs * ((b / Nat.gcd b d : Nat) : Int).natAbs < 2048 := by rw [Int.natAbs_natCast]; exact m2
  have n3 : (a * ((d / Nat.gcd b d : Nat) : Int)).natAbs < 2048 ∧ (c * ((b / Nat.gcd b d : Nat) : Int)).natAbs < 2048 ∧ (a * ((d / Nat.gcd b d : Nat) : Int) + c * ((b / Nat.gcd b d : Nat) : Int)).natAbs < 2048 := ⟨by rw [Int.natAbs_mul, Int.natAbs_natCast]; exact m1, by rw [Int.natAbs_mul, Int.natAbs_natCast]; exact m2, ms⟩
  have ho0 : 0 < gO a b c d := Nat.gcd_pos_of_pos_right _ hg
  have ho1 : gO a b c d ≤ Nat.gcd b d := Nat.gcd_le_right _ hg
  have hoo : gO a b c d ≠ 0 ∧ gO a b c d < 2048 := by omega
  have hoo' : Nat.gcd (a * ((d / Nat.gcd b d : Nat) : Int) + c * ((b / Nat.gcd b d : Nat) : Int)).natAbs (Nat.gcd b d) ≠ 0 ∧ Nat.gcd (a * ((d / Nat.gcd b d : Nat) : Int) + c * ((b / Nat.gcd b d : Nat) : Int)).natAbs (Nat.gcd b d) < 2048 := hoo
  by_cases ht : gT a b c d = 0
  · have ht' : (a * ((d / Nat.gcd b d : Nat) : Int) + c * ((b / Nat.gcd b d : Nat) : Int)).natAbs = 0 := by show (gT a b c d).natAbs = 0; rw [ht]; rfl
    o_shape
    have hgt : a * ((d / Nat.gcd b d : Nat) : Int) + c * ((b / Nat.gcd b d : Nat) : Int) = gT a b c d := rfl
    have hgo : Nat.gcd (gT a b c d).natAbs (Nat.gcd b d) = gO a b c d := rfl
    rw [hgt]
    unfold raT raB
    rw [if_pos ht, if_pos ht, ht]
    rfl
  · have ht' : (a * ((d / Nat.gcd b d : Nat) : Int) + c * ((b / Nat.gcd b d : Nat) : Int)).natAbs ≠ 0 := by show (gT a b c d).natAbs ≠ 0; omega
    have m3' : b / Nat.gcd b d * (d / Nat.gcd (a * ((d / Nat.gcd b d : Nat) : Int) + c * ((b / Nat.gcd b d : Nat) : Int)).natAbs (Nat.gcd b d)) < 2048 := m3
    o_shape
    have hgt : a * ((d / Nat.gcd b d : Nat) : Int) + c * ((b / Nat.gcd b d : Nat) : Int) = gT a b c d := rfl
    have hgo : Nat.gcd (gT a b c d).natAbs (Nat.gcd b d) = gO a b c d := rfl
    rw [hgt, hgo]
    unfold raT raB
    rw [if_neg ht, if_neg ht, sP_div hoo.1 (Nat.gcd_dvd_left _ _)]
theorem ok_r_add (X : Env0 H0 mg mb) {A : Around} {k : Nat} (r : Room A k) (hk : 6 ≤ k) {a c : Int} {b d : Nat} {wb : Nat} (ho : RaOk a b c d) (hw : 11 ≤ wb ∧ wb ≤ 14) : CallOk prog w H0 A (.ref (fa mg "r_add")) [rP a b, rP c d, .int (wb : Int), .val (.ref (fa mg "mul_school")), .val (.ref (fa mg "divrem_school"))] (rP (raT a b c d) (raB a b c d)) :=
  CallOk.of (Con.of (i := 26) X (by decide) (pn := ["x", "y", "w", "mul", "divrem"]) (rest := ["told", "here", "there", "top", "out"]) fn_r_add (List.forall_mem_cons.mpr ⟨X.len, List.forall_mem_cons.mpr ⟨gl_common X, List.forall_mem_cons.mpr ⟨gl_s_add X, List.forall_mem_cons.mpr ⟨gl_s_mul X, List.forall_mem_cons.mpr ⟨gl_signed_of X, List.forall_mem_cons.mpr ⟨gl_cut_signed X, List.forall_mem_nil _⟩⟩⟩⟩⟩⟩) rfl (body_r_add X ho hw)) r hk
local macro_rules | `(tactic| fold_depth) => `(tactic| (with_reducible apply ok_r_add ‹Env0 _ _ _› ‹Room _ _›))
theorem fn_r_sub : FnOk (defAt 27) ["x", "y", "w", "mul", "divrem"] ["x", "y", "w", "mul", "divrem"] [("r_add", .ref (fa mg "r_add")), ("r_neg", .ref (fa mg "r_neg"))] := by
  refine ⟨rfl, rfl, rfl, rfl, by decide +kernel, fun pm cd doc vs h => ?_, by decide +kernel, by decide +kernel, gk1 ⟨by decide +kernel, by decide +kernel⟩ (gk1 ⟨by decide +kernel, by decide +kernel⟩ (gk0))⟩
  match vs, h with
  | [_, _, _, _, _], _ => rfl
theorem body_r_sub (X : Env0 H0 mg mb) {a c : Int} {b d : Nat} {wb : Nat} (ho : RaOk a b (-c) d) (hw : 11 ≤ wb ∧ wb ≤ 14) : ∀ A L ad cd, Room A 6 → Exs prog w H0 mg mb ⟨A, envOf (defAt 27).name (defAt 27).scope L ad cd, 6, ["x", "y", "w", "mul", "divrem"], [], [("r_add", .ref (fa mg "r_add")), ("r_neg", .ref (fa mg "r_neg"))], true⟩ ⟨[some (rP a b), some (rP c d), some (.int (wb : Int)), some (.val (.ref (fa mg "mul_school"))), some (.val (.ref (fa mg "divrem_school")))], [], none⟩ (defAt 27).body (.ret (rP (raT a b (-c) d) (raB a b (-c) d))) := by
  intro A L ad cd hr
  o_shape
  rfl
theorem ok_r_sub (X : Env0 H0 mg mb) {A : Around} {k : Nat} (r : Room A k) (hk : 7 ≤ k) {a c : Int} {b d : Nat} {wb : Nat} (ho : RaOk a b (-c) d) (hw : 11 ≤ wb ∧ wb ≤ 14) : CallOk prog w H0 A (.ref (fa mg "r_sub")) [rP a b, rP c d, .int (wb : Int), .val (.ref (fa mg "mul_school")), .val (.ref (fa mg "divrem_school"))] (rP (raT a b (-c) d) (raB a b (-c) d)) :=
  CallOk.of (Con.of (i := 27) X (by decide) (pn := ["x", "y", "w", "mul", "divrem"]) (rest := []) fn_r_sub (List.forall_mem_cons.mpr ⟨gl_r_add X, List.forall_mem_cons.mpr ⟨gl_r_neg X, List.forall_mem_nil _⟩⟩) rfl (body_r_sub X ho hw)) r hk
local macro_rules | `(tactic| fold_depth) => `(tactic| (with_reducible apply ok_r_sub ‹Env0 _ _ _› ‹Room _ _›))
def whTest (i j : Nat) : Expr := match (defAt i).body[j]? with
  | some (.While t _ _ _) => t
  | _ => .Constant .none 0 ⟨0, 0, 0, 0⟩
def whBody (i j : Nat) : List Stmt := match (defAt i).body[j]? with
  | some (.While _ b _ _) => b
  | _ => []
def forBody (i j : Nat) : List Stmt := match (defAt i).body[j]? with
  | some (.For _ _ b _ _) => b
  | _ => []
inductive WW (prog : Program) (w : World) (H0 : Heap) (mg mb : Str → Option Value) (c : Fc) (test : Expr) (body : List Stmt) : Sg → Sg → Prop
  | done {σ : Sg} {b : Bool} {v' : List (Option PV)} : EvT prog w H0 mg mb c σ test b → b = false → LeV v' σ.v → WW prog w H0 mg mb c test body σ ⟨v', σ.cel, σ.own⟩
  | step {σ σ₁ σ' : Sg} {b : Bool} {v₁ : List (Option PV)} : EvT prog w H0 mg mb c σ test b → b = true → Exs prog w H0 mg mb c σ body (.next σ₁) → LeV v₁ σ₁.v → WW prog w H0 mg mb c test body ⟨v₁, σ₁.cel, σ₁.own⟩ σ' → WW prog w H0 mg mb c test body σ σ'
theorem WW.loop {c : Fc} {test : Expr} {body : List Stmt} {σ σ' : Sg} (h : WW prog w H0 mg mb c test body σ σ') : ∃ v'' n, WLoop prog w H0 mg mb c test body n σ (.next ⟨v'', σ'.cel, σ'.own⟩) ∧ LeV σ'.v v'' := by
  induction h with
  | done h hb hl => subst hb; exact ⟨_, 0, .done h, hl⟩
  | step h hb h1 hl _ ih =>
    subst hb
    obtain ⟨v'', n, h2, h3⟩ := ih
    exact ⟨v'', n + 1, .step h (Exs.weaken h1 hl) h2, h3⟩
theorem Ex.whileW {c : Fc} {test : Expr} {body : List Stmt} {pos : Pos} {σ σ' : Sg} (h : WW prog w H0 mg mb c test body σ σ') : Ex prog w H0 mg mb c σ (.While test body [] pos) (.next σ') := by
  obtain ⟨v'', n, h2, h3⟩ := h.loop
  have := Ex.weaken (v' := σ'.v) (Ex.while_ (pos := pos) h2) h3
  exact this
theorem app1 {α : Type} (l : List α) (x : α) (r : List α) : l ++ x :: r = (l ++ [x]) ++ r := by simp

def cf : Nat → Int → Nat → List Int
  | 0, _, _ => []
  | f + 1, a, b => if b = 0 then [] else (a / (b : Int)) :: cf f b (a % (b : Int)).toNat
def sL (l : List Int) : PV := .list (l.map sP)
def rL (l : List (Int × Nat)) : PV := .list (l.map fun x => rP x.1 x.2)
def cv : List Int → Int → Int → Int → Int → List (Int × Nat)
  | [], _, _, _, _ => []
  | t :: ts, p0, q0, p1, q1 => (t * p1 + p0, (t * q1 + q0).natAbs) :: cv ts p1 q1 (t * p1 + p0) (t * q1 + q0)
inductive CvOk : List Int → Int → Int → Int → Int → Prop
  | nil {p0 q0 p1 q1 : Int} : CvOk [] p0 q0 p1 q1
  | cons {t : Int} {ts : List Int} {p0 q0 p1 q1 : Int} : (t.natAbs * p1.natAbs < 2048 ∧ (t * p1).natAbs + p0.natAbs < 2048) ∧ (t.natAbs * q1.natAbs < 2048 ∧ (t * q1).natAbs + q0.natAbs < 2048) → CvOk ts p1 q1 (t * p1 + p0) (t * q1 + q0) → CvOk (t :: ts) p0 q0 p1 q1
theorem fn_continued : FnOk (defAt 28) ["x", "w", "divrem"] ["x", "w", "divrem", "found", "top", "bottom", "whole", "rest"] [("len", .builtin "len"), ("signed_of", .ref (fa mg "signed_of")), ("fdiv", .ref (fa mg "fdiv"))] := by
  refine ⟨rfl, rfl, rfl, rfl, by decide +kernel, fun pm cd doc vs h => ?_, by decide +kernel, by decide +kernel, gk1 ⟨by decide +kernel, by decide +kernel⟩ (gk1 ⟨by decide +kernel, by decide +kernel⟩ (gk1 ⟨by decide +kernel, by decide +kernel⟩ (gk0)))⟩
  match vs, h with
  | [_, _, _], _ => rfl
theorem body_continued (X : Env0 H0 mg mb) {a0 : Int} {b0 f : Nat} {wb : Nat} (hf : b0 < f ∧ f ≤ 500) (ha : a0.natAbs < 1000) (hw : 11 ≤ wb ∧ wb ≤ 14) : ∀ A L ad cd, Room A 6 → Exs prog w H0 mg mb ⟨A, envOf (defAt 28).name (defAt 28).scope L ad cd, 6, ["x", "w", "divrem", "found", "top", "bottom", "whole", "rest"], [], [("len", .builtin "len"), ("signed_of", .ref (fa mg "signed_of")), ("fdiv", .ref (fa mg "fdiv"))], true⟩ ⟨[some (rP a0 b0), some (.int (wb : Int)), some (.val (.ref (fa mg "divrem_school"))), none, none, none, none, none], [], none⟩ (defAt 28).body (.ret (sL (cf f a0 b0))) := by
  intro A L ad cd hr
  apply Exs.cast
  apply Exs.cons
  · repeat' nest_cls
  apply Exs.cons (σ₁ := ⟨[some (rP a0 b0), some (.int (wb : Int)), some (.val (.ref (fa mg "divrem_school"))), none, none, none, none, none], [], some (3, [] ++ (cf f a0 b0).map sP)⟩)
  · apply Ex.whileW
    have key : ∀ (f b : Nat) (a : Int) (l : List PV), b < f → b < 1000 → a.natAbs < 1000 → l.length + f ≤ 900 → WW prog w H0 mg mb ⟨A, envOf (defAt 28).name (defAt 28).scope L ad cd, 6, ["x", "w", "divrem", "found", "top", "bottom", "whole", "rest"], [], [("len", .builtin "len"), ("signed_of", .ref (fa mg "signed_of")), ("fdiv", .ref (fa mg "fdiv"))], true⟩ (whTest 28 1) (whBody 28 1)
        ⟨[some (rP a0 b0), some (.int (wb : Int)), some (.val (.ref (fa mg "divrem_school"))), none, some (sP a), some (sP (b : Int)), none, none], [], some (3, l)⟩
        ⟨[some (rP a0 b0), some (.int (wb : Int)), some (.val (.ref (fa mg "divrem_school"))), none, none, none, none, none], [], some (3, l ++ (cf f a b).map sP)⟩ := by
      intro f
      induction f with
      | zero => intro b a l h; omega
      | succ f ih =>
        intro b a l hb hb2 ha2 hl
        by_cases hb0 : b = 0
        · subst hb0
          rw [cf, if_pos rfl, List.map_nil, List.append_nil]
          apply WW.done
          · apply EvT.cmpX
            repeat' nest_cls
          · rfl
          · exact .lsame (.lsame (.lsame (.lsame (.ldrop (.ldrop (.lsame (.lsame .lnil)))))))
        · rw [cf, if_neg hb0, List.map_cons, app1 l]
          have hb1 : ((b : Nat) : Int).natAbs ≠ 0 := by omega
          have hbb : b ≠ 0 ∧ b < 1000 := ⟨hb0, hb2⟩
          have hnn : 0 ≤ a % (b : Int) := Int.emod_nonneg _ (by omega)
          have hlt : a % (b : Int) < b := Int.emod_lt_of_pos _ (by omega)
          have e : a % (b : Int) = ((a % (b : Int)).toNat : Int) := (Int.toNat_of_nonneg hnn).symm
          have hl1 : l.length ≤ 1000 := by omega
          apply WW.step (v₁ := [some (rP a0 b0), some (.int (wb : Int)), some (.val (.ref (fa mg "divrem_school"))), none, some (sP (b : Int)), some (sP (a % (b : Int))), none, none])
          · apply EvT.cmpX
            repeat' nest_cls
          · rfl
          · apply Exs.seq
            all_goals repeat' nest_cls
          · exact .lsame (.lsame (.lsame (.lsame (.lsame (.lsame (.ldrop (.ldrop .lnil)))))))
          · have := ih (a % (b : Int)).toNat (b : Int) (l ++ [sP (a / (b : Int))]) (by omega) (by omega) (by omega) (by simp; omega)
            rw [← e] at this
            exact this
    exact key f b0 a0 [] hf.1 (by omega) ha (by simp; omega)
  repeat' nest_cls
  rfl
theorem ok_continued (X : Env0 H0 mg mb) {A : Around} {k : Nat} (r : Room A k) (hk : 7 ≤ k) {a0 : Int} {b0 f : Nat} {wb : Nat} (hf : b0 < f ∧ f ≤ 500) (ha : a0.natAbs < 1000) (hw : 11 ≤ wb ∧ wb ≤ 14) : CallOk prog w H0 A (.ref (fa mg "continued")) [rP a0 b0, .int (wb : Int), .val (.ref (fa mg "divrem_school"))] (sL (cf f a0 b0)) :=
  CallOk.of (Con.of (i := 28) X (by decide) (pn := ["x", "w", "divrem"]) (rest := ["found", "top", "bottom", "whole", "rest"]) fn_continued (List.forall_mem_cons.mpr ⟨X.len, List.forall_mem_cons.mpr ⟨gl_signed_of X, List.forall_mem_cons.mpr ⟨gl_fdiv X, List.forall_mem_nil _⟩⟩⟩) rfl (body_continued X hf ha hw)) r hk
local macro_rules | `(tactic| fold_depth) => `(tactic| (with_reducible apply ok_continued ‹Env0 _ _ _› ‹Room _ _›))
theorem fn_convergents : FnOk (defAt 29) ["terms", "w", "mul"] ["terms", "w", "mul", "found", "before", "here", "term", "top", "bottom"] [("s_add", .ref (fa mg "s_add")), ("s_mul", .ref (fa mg "s_mul"))] := by
  refine ⟨rfl, rfl, rfl, rfl, by decide +kernel, fun pm cd doc vs h => ?_, by decide +kernel, by decide +kernel, gk1 ⟨by decide +kernel, by decide +kernel⟩ (gk1 ⟨by decide +kernel, by decide +kernel⟩ (gk0))⟩
  match vs, h with
  | [_, _, _], _ => rfl
theorem body_convergents (X : Env0 H0 mg mb) {ts : List Int} {wb : Nat} (ho : CvOk ts 0 1 1 0) (hl : ts.length ≤ 500) (hw : 11 ≤ wb ∧ wb ≤ 14) : ∀ A L ad cd, Room A 3 → Exs prog w H0 mg mb ⟨A, envOf (defAt 29).name (defAt 29).scope L ad cd, 3, ["terms", "w", "mul", "found", "before", "here", "term", "top", "bottom"], [], [("s_add", .ref (fa mg "s_add")), ("s_mul", .ref (fa mg "s_mul"))], true⟩ ⟨[some (sL ts), some (.int (wb : Int)), some (.val (.ref (fa mg "mul_school"))), none, none, none, none, none, none], [], none⟩ (defAt 29).body (.ret (rL (cv ts 0 1 1 0))) := by
  intro A L ad cd hr
  apply Exs.cast
  apply Exs.seq
  · repeat' nest_cls
  apply Then.next
  apply Exs.seq
  · repeat' nest_cls
  apply Then.next
  change Exs prog w H0 mg mb _ ⟨[some (sL ts), some (.int (wb : Int)), some (.val (.ref (fa mg "mul_school"))), none, some (.tup [sP 0, sP 1]), some (.tup [sP 1, sP 0]), none, none, none], [], some (3, [])⟩ _ _
  have key : ∀ (ts0 : List Int) (p0 q0 p1 q1 : Int) (l : List PV) (o1 o2 o3 : Option PV), CvOk ts0 p0 q0 p1 q1 → l.length + ts0.length ≤ 900 → ∃ o1' o2' o3' o4' o5' : Option PV, Loop prog w H0 mg mb ⟨A, envOf (defAt 29).name (defAt 29).scope L ad cd, 3, ["terms", "w", "mul", "found", "before", "here", "term", "top", "bottom"], [], [("s_add", .ref (fa mg "s_add")), ("s_mul", .ref (fa mg "s_mul"))], true⟩
      (fun σ p σ₀ => Bind1 ⟨A, envOf (defAt 29).name (defAt 29).scope L ad cd, 3, ["terms", "w", "mul", "found", "before", "here", "term", "top", "bottom"], [], [("s_add", .ref (fa mg "s_add")), ("s_mul", .ref (fa mg "s_mul"))], true⟩ σ "term" p σ₀) (forBody 29 2)
      ⟨[some (sL ts), some (.int (wb : Int)), some (.val (.ref (fa mg "mul_school"))), none, some (.tup [sP p0, sP q0]), some (.tup [sP p1, sP q1]), o1, o2, o3], [], some (3, l)⟩ (ts0.map sP)
      (.next ⟨[some (sL ts), some (.int (wb : Int)), some (.val (.ref (fa mg "mul_school"))), none, o4', o5', o1', o2', o3'], [], some (3, l ++ (cv ts0 p0 q0 p1 q1).map fun x => rP x.1 x.2)⟩) := by
    intro ts0
    induction ts0 with
    | nil =>
      intro p0 q0 p1 q1 l o1 o2 o3 _ _
      rw [cv, List.map_nil, List.map_nil, List.append_nil]
      exact ⟨_, _, _, _, _, Loop.nil⟩
    | cons t ts0 ih =>
      intro p0 q0 p1 q1 l o1 o2 o3 ho hl2
      cases ho with
      | cons hb ho =>
        obtain ⟨⟨b1, b2⟩, b3, b4⟩ := hb
        have hl1 : l.length ≤ 1000 := by simp at hl2; omega
        obtain ⟨o1', o2', o3', o4', o5', hL⟩ := ih p1 q1 (t * p1 + p0) (t * q1 + q0) (l ++ [rP (t * p1 + p0) (t * q1 + q0).natAbs]) (some (sP t)) (some (sP (t * p1 + p0))) (some (sP (t * q1 + q0))) ho (by simp at hl2 ⊢; omega)
        refine ⟨o1', o2', o3', o4', o5', ?_⟩
        rw [cv, List.map_cons, List.map_cons, app1 l]
        apply Loop.x
        · repeat' nest_cls
        · apply Exs.seq
          all_goals repeat' nest_cls
        · exact LThen.next hL
  obtain ⟨o1', o2', o3', o4', o5', hL⟩ := key ts 0 1 1 0 [] none none none ho (by simp; omega)
  apply Exs.cons
  · apply Ex.forX
    · repeat' nest_cls
    · exact Runs.list
    · exact hL
    · intro _; rfl
  repeat' nest_cls
  rfl
theorem ok_convergents (X : Env0 H0 mg mb) {A : Around} {k : Nat} (r : Room A k) (hk : 4 ≤ k) {ts : List Int} {wb : Nat} (ho : CvOk ts 0 1 1 0) (hl : ts.length ≤ 500) (hw : 11 ≤ wb ∧ wb ≤ 14) : CallOk prog w H0 A (.ref (fa mg "convergents")) [sL ts, .int (wb : Int), .val (.ref (fa mg "mul_school"))] (rL (cv ts 0 1 1 0)) :=
  CallOk.of (Con.of (i := 29) X (by decide) (pn := ["terms", "w", "mul"]) (rest := ["found", "before", "here", "term", "top", "bottom"]) fn_convergents (List.forall_mem_cons.mpr ⟨gl_s_add X, List.forall_mem_cons.mpr ⟨gl_s_mul X, List.forall_mem_nil _⟩⟩) rfl (body_convergents X ho hl hw)) r hk
local macro_rules | `(tactic| fold_depth) => `(tactic| (with_reducible apply ok_convergents ‹Env0 _ _ _› ‹Room _ _›))
theorem modeq {wb : Nat} {x : Int} (h : 0 ≤ x ∧ x < 2048) (hw : 11 ≤ wb) : x.fmod (2 ^ wb) = x := by
  have e := shift_eq h hw
  have := Int.mul_fdiv_add_fmod x (2 ^ wb)
  rw [e] at this; simpa using this
theorem fn__law_limbs : FnOk (defAt 40) ["number", "w"] ["number", "w", "found"] [] := by
  refine ⟨rfl, rfl, rfl, rfl, by decide +kernel, fun pm cd doc vs h => ?_, by decide +kernel, by decide +kernel, gk0⟩
  match vs, h with
  | [_, _], _ => rfl
theorem body__law_limbs (X : Env0 H0 mg mb) {n : Nat} {wb : Nat} (hn : n < 2048) (hw : 11 ≤ wb ∧ wb ≤ 14) : ∀ A L ad cd, Room A 0 → Exs prog w H0 mg mb ⟨A, envOf (defAt 40).name (defAt 40).scope L ad cd, 0, ["number", "w", "found"], [], [], true⟩ ⟨[some (.int (n : Int)), some (.int (wb : Int)), none], [], none⟩ (defAt 40).body (.ret (nP n)) := by
  intro A L ad cd hr
  by_cases h0 : n = 0
  · subst h0
    o_shape
    rfl
  · have e1 := shift_eq (x := (n : Int)) (by omega) hw.1
    have e2 := modeq (x := (n : Int)) (by omega) hw.1
    have p0 : ((2 : Int) ^ ((wb : Int)).toNat) ≠ 0 := by
      have := Int.pow_pos (n := 2) (m := ((wb : Int)).toNat) (by omega); omega
    have p1 : ((2 : Int) ^ ((wb : Int)).toNat) ≠ 0 ∧ ((2 : Int) ^ ((wb : Int)).toNat).natAbs < 2 ^ 64 := by
      refine ⟨p0, ?_⟩
      have h2 : ((2 : Int) ^ ((wb : Int)).toNat) = ((2 ^ wb : Nat) : Int) := by simp
      rw [h2, Int.natAbs_natCast]
      exact Nat.pow_lt_pow_right (by omega) (by omega)
    o_shape
    rw [nP_pos h0]; simp [e2]
theorem ok__law_limbs (X : Env0 H0 mg mb) {A : Around} {k : Nat} (r : Room A k) (hk : 1 ≤ k) {n : Nat} {wb : Nat} (hn : n < 2048) (hw : 11 ≤ wb ∧ wb ≤ 14) : CallOk prog w H0 A (.ref (fa mg "_law_limbs")) [.int (n : Int), .int (wb : Int)] (nP n) :=
  CallOk.of (Con.of (i := 40) X (by decide) (pn := ["number", "w"]) (rest := ["found"]) fn__law_limbs (List.forall_mem_nil _) rfl (body__law_limbs X hn hw)) r hk
local macro_rules | `(tactic| fold_depth) => `(tactic| (with_reducible apply ok__law_limbs ‹Env0 _ _ _› ‹Room _ _›))
theorem fn__law_signed : FnOk (defAt 41) ["number", "w"] ["number", "w"] [("_law_limbs", .ref (fa mg "_law_limbs")), ("abs", .builtin "abs")] := by
  refine ⟨rfl, rfl, rfl, rfl, by decide +kernel, fun pm cd doc vs h => ?_, by decide +kernel, by decide +kernel, gk1 ⟨by decide +kernel, by decide +kernel⟩ (gk1 ⟨by decide +kernel, by decide +kernel⟩ (gk0))⟩
  match vs, h with
  | [_, _], _ => rfl
theorem body__law_signed (X : Env0 H0 mg mb) {z : Int} {wb : Nat} (hz : z.natAbs < 2048) (hw : 11 ≤ wb ∧ wb ≤ 14) : ∀ A L ad cd, Room A 1 → Exs prog w H0 mg mb ⟨A, envOf (defAt 41).name (defAt 41).scope L ad cd, 1, ["number", "w"], [], [("_law_limbs", .ref (fa mg "_law_limbs")), ("abs", .builtin "abs")], true⟩ ⟨[some (.int z), some (.int (wb : Int))], [], none⟩ (defAt 41).body (.ret (sP z)) := by
  intro A L ad cd hr
  o_shape
  rfl
theorem ok__law_signed (X : Env0 H0 mg mb) {A : Around} {k : Nat} (r : Room A k) (hk : 2 ≤ k) {z : Int} {wb : Nat} (hz : z.natAbs < 2048) (hw : 11 ≤ wb ∧ wb ≤ 14) : CallOk prog w H0 A (.ref (fa mg "_law_signed")) [.int z, .int (wb : Int)] (sP z) :=
  CallOk.of (Con.of (i := 41) X (by decide) (pn := ["number", "w"]) (rest := []) fn__law_signed (List.forall_mem_cons.mpr ⟨gl__law_limbs X, List.forall_mem_cons.mpr ⟨X.abs, List.forall_mem_nil _⟩⟩) rfl (body__law_signed X hz hw)) r hk
local macro_rules | `(tactic| fold_depth) => `(tactic| (with_reducible apply ok__law_signed ‹Env0 _ _ _› ‹Room _ _›))
theorem fn__law_plain : FnOk (defAt 42) ["x", "w"] ["x", "w", "found", "limb"] [] := by
  refine ⟨rfl, rfl, rfl, rfl, by decide +kernel, fun pm cd doc vs h => ?_, by decide +kernel, by decide +kernel, gk0⟩
  match vs, h with
  | [_, _], _ => rfl
theorem body__law_plain (X : Env0 H0 mg mb) {b : Bool} {n : Nat} {wb : Nat} (hw : 11 ≤ wb ∧ wb ≤ 14) : ∀ A L ad cd, Room A 0 → Exs prog w H0 mg mb ⟨A, envOf (defAt 42).name (defAt 42).scope L ad cd, 0, ["x", "w", "found", "limb"], [], [], true⟩ ⟨[some (.tup [.bool b, nP n]), some (.int (wb : Int)), none, none], [], none⟩ (defAt 42).body (.ret (.int (if b = true then -(n : Int) else n))) := by
  intro A L ad cd hr
  by_cases h0 : n = 0
  · subst h0
    cases b
    · o_shape
      rfl
    · o_shape
      rfl
  · have rn := rnN h0
    cases b
    · o_shape
      simp
    · o_shape
      simp
theorem ok__law_plain (X : Env0 H0 mg mb) {A : Around} {k : Nat} (r : Room A k) (hk : 1 ≤ k) {b : Bool} {n : Nat} {wb : Nat} (hw : 11 ≤ wb ∧ wb ≤ 14) : CallOk prog w H0 A (.ref (fa mg "_law_plain")) [.tup [.bool b, nP n], .int (wb : Int)] (.int (if b = true then -(n : Int) else n)) :=
  CallOk.of (Con.of (i := 42) X (by decide) (pn := ["x", "w"]) (rest := ["found", "limb"]) fn__law_plain (List.forall_mem_nil _) rfl (body__law_plain X hw)) r hk
local macro_rules | `(tactic| fold_depth) => `(tactic| (with_reducible apply ok__law_plain ‹Env0 _ _ _› ‹Room _ _›))
theorem ok_law_plainS (X : Env0 H0 mg mb) {A : Around} {k : Nat} (r : Room A k) (hk : 1 ≤ k) {z : Int} {wb : Nat} (hw : 11 ≤ wb ∧ wb ≤ 14) : CallOk prog w H0 A (.ref (fa mg "_law_plain")) [sP z, .int (wb : Int)] (.int z) := by
  have := ok__law_plain (prog := prog) (w := w) X r hk (b := decide (z < 0)) (n := z.natAbs) hw
  have e : (if decide (z < 0) = true then -((z.natAbs : Nat) : Int) else z.natAbs) = z := by simp only [decide_eq_true_eq]; split <;> omega
  rwa [e] at this
theorem ok_law_plainF (X : Env0 H0 mg mb) {A : Around} {k : Nat} (r : Room A k) (hk : 1 ≤ k) {n : Nat} {wb : Nat} (hw : 11 ≤ wb ∧ wb ≤ 14) : CallOk prog w H0 A (.ref (fa mg "_law_plain")) [.tup [.bool false, nP n], .int (wb : Int)] (.int (n : Int)) := ok__law_plain (b := false) X r hk hw
local macro_rules | `(tactic| fold_depth) => `(tactic| first | (with_reducible apply ok_law_plainF ‹Env0 _ _ _› ‹Room _ _›) | (with_reducible apply ok_law_plainS ‹Env0 _ _ _› ‹Room _ _›))
theorem fn__law_read : FnOk (defAt 43) ["x", "w"] ["x", "w"] [("_law_plain", .ref (fa mg "_law_plain"))] := by
  refine ⟨rfl, rfl, rfl, rfl, by decide +kernel, fun pm cd doc vs h => ?_, by decide +kernel, by decide +kernel, gk1 ⟨by decide +kernel, by decide +kernel⟩ (gk0)⟩
  match vs, h with
  | [_, _], _ => rfl
theorem body__law_read (X : Env0 H0 mg mb) {a : Int} {b : Nat} {wb : Nat} (hw : 11 ≤ wb ∧ wb ≤ 14) : ∀ A L ad cd, Room A 1 → Exs prog w H0 mg mb ⟨A, envOf (defAt 43).name (defAt 43).scope L ad cd, 1, ["x", "w"], [], [("_law_plain", .ref (fa mg "_law_plain"))], true⟩ ⟨[some (rP a b), some (.int (wb : Int))], [], none⟩ (defAt 43).body (.ret (.tup [.int a, .int (b : Int)])) := by
  intro A L ad cd hr
  o_shape
  rfl
theorem ok__law_read (X : Env0 H0 mg mb) {A : Around} {k : Nat} (r : Room A k) (hk : 2 ≤ k) {a : Int} {b : Nat} {wb : Nat} (hw : 11 ≤ wb ∧ wb ≤ 14) : CallOk prog w H0 A (.ref (fa mg "_law_read")) [rP a b, .int (wb : Int)] (.tup [.int a, .int (b : Int)]) :=
  CallOk.of (Con.of (i := 43) X (by decide) (pn := ["x", "w"]) (rest := []) fn__law_read (List.forall_mem_cons.mpr ⟨gl__law_plain X, List.forall_mem_nil _⟩) rfl (body__law_read X hw)) r hk
local macro_rules | `(tactic| fold_depth) => `(tactic| (with_reducible apply ok__law_read ‹Env0 _ _ _› ‹Room _ _›))
def dv : Nat → Int → Int → Int
  | 0, a, _ => a
  | f + 1, a, b => if b = 0 then a else dv f b (a % b)
theorem fn__law_divides_both : FnOk (defAt 45) ["one", "other"] ["one", "other"] [("abs", .builtin "abs")] := by
  refine ⟨rfl, rfl, rfl, rfl, by decide +kernel, fun pm cd doc vs h => ?_, by decide +kernel, by decide +kernel, gk1 ⟨by decide +kernel, by decide +kernel⟩ (gk0)⟩
  match vs, h with
  | [_, _], _ => rfl
theorem body__law_divides_both (X : Env0 H0 mg mb) {f : Nat} {a b : Int} (hb : 0 ≤ b ∧ b < f) : ∀ A L ad cd, Room A 0 → Exs prog w H0 mg mb ⟨A, envOf (defAt 45).name (defAt 45).scope L ad cd, 0, ["one", "other"], [], [("abs", .builtin "abs")], true⟩ ⟨[some (.int a), some (.int b)], [], none⟩ (defAt 45).body (.ret (.int ((dv f a b).natAbs : Int))) := by
  intro A L ad cd hr
  apply Exs.cast
  apply Exs.cons (σ₁ := ⟨[some (.int (dv f a b)), none], [], none⟩)
  · apply Ex.whileW
    have key : ∀ (f : Nat) (a b : Int), 0 ≤ b → b < f → WW prog w H0 mg mb ⟨A, envOf (defAt 45).name (defAt 45).scope L ad cd, 0, ["one", "other"], [], [("abs", .builtin "abs")], true⟩ (whTest 45 0) (whBody 45 0) ⟨[some (.int a), some (.int b)], [], none⟩ ⟨[some (.int (dv f a b)), none], [], none⟩ := by
      intro f
      induction f with
      | zero => intro a b h1 h2; omega
      | succ f ih =>
        intro a b h1 h2
        by_cases hb0 : b = 0
        · subst hb0
          rw [dv, if_pos rfl]
          apply WW.done
          · apply EvT.cmpX
            repeat' nest_cls
          · rfl
          · exact .lsame (.ldrop .lnil)
        · rw [dv, if_neg hb0]
          apply WW.step (v₁ := [some (.int b), some (.int (a % b))])
          · apply EvT.cmpX
            repeat' nest_cls
          · simp [hb0]
          · apply Exs.seq
            all_goals repeat' nest_cls
          · rw [Int.fmod_eq_emod_of_nonneg _ h1]
            exact .lsame (.lsame .lnil)
          · exact ih b (a % b) (Int.emod_nonneg _ hb0) (by have := Int.emod_lt_of_pos a (by omega : 0 < b); omega)
    exact key f a b hb.1 hb.2
  repeat' nest_cls
  rfl
theorem ok__law_divides_both (X : Env0 H0 mg mb) {A : Around} {k : Nat} (r : Room A k) (hk : 1 ≤ k) {f : Nat} {a b : Int} (hb : 0 ≤ b ∧ b < f) : CallOk prog w H0 A (.ref (fa mg "_law_divides_both")) [.int a, .int b] (.int ((dv f a b).natAbs : Int)) :=
  CallOk.of (Con.of (i := 45) X (by decide) (pn := ["one", "other"]) (rest := []) fn__law_divides_both (List.forall_mem_cons.mpr ⟨X.abs, List.forall_mem_nil _⟩) rfl (body__law_divides_both X hb)) r hk
local macro_rules | `(tactic| fold_depth) => `(tactic| (with_reducible apply ok__law_divides_both ‹Env0 _ _ _› ‹Room _ _›))

structure NOk (a : Int) (b : Nat) (x : Int × Nat) : Prop where
  ra : RaOk a b (-x.1) x.2
  t : (raT a b (-x.1) x.2).natAbs < 2 ^ 20
  q : raB a b (-x.1) x.2 < 2 ^ 20
  y : x.2 < 2 ^ 20
def nb (a : Int) (b : Nat) (x : Int × Nat) (few : Int) : Bool := decide (raT a b (-x.1) x.2 * raT a b (-x.1) x.2 * few * (x.2 : Int) ^ 4 < (raB a b (-x.1) x.2 : Int) * (raB a b (-x.1) x.2 : Int))
def nbP (a : Int) (b : Nat) (x : Int × Nat) : PV := .list [.bool (nb a b x 4), .bool (nb a b x 5)]

abbrev nearGl (mg : Str → Option Value) : List (Str × Value) := [("_law_read", .ref (fa mg "_law_read")), ("r_sub", .ref (fa mg "r_sub")), ("mul_school", .ref (fa mg "mul_school")), ("divrem_school", .ref (fa mg "divrem_school"))]
theorem fn__law_near : FnOkC (defAt 44) ["x", "told", "many", "w"] ["x", "told", "many", "found"] ["w", "one", "top", "bottom"] (nearGl mg) := by
  refine ⟨rfl, rfl, rfl, rfl, fun pm cd doc vs h => ?_, by decide +kernel, by decide +kernel, by decide +kernel, by decide +kernel, by decide +kernel, fun L x hx => ?_, by decide +kernel, gk1 ⟨by decide +kernel, by decide +kernel⟩ (gk1 ⟨by decide +kernel, by decide +kernel⟩ (gk1 ⟨by decide +kernel, by decide +kernel⟩ (gk1 ⟨by decide +kernel, by decide +kernel⟩ gk0)))⟩
  · match vs, h with
    | [_, _, _, _], _ => rfl
  · rcases List.mem_cons.mp hx with rfl | hx
    · exact ⟨_, rfl⟩
    · rcases List.mem_cons.mp hx with rfl | hx
      · exact ⟨_, rfl⟩
      · rcases List.mem_cons.mp hx with rfl | hx
        · exact ⟨_, rfl⟩
        · rcases List.mem_cons.mp hx with rfl | hx
          · exact ⟨_, rfl⟩
          · cases hx
def nearElt : Expr := match forBody 44 1 with
  | [_, .Expr (.Call _ [.ListComp e _ _ _] _ _) _] => e
  | _ => .Constant .none 0 ⟨0, 0, 0, 0⟩
abbrev nearC (mg : Str → Option Value) (A : Around) (L a : Addr) (cd : Value) : Fc := ⟨A, envOfC (defAt 44).name (defAt 44).scope L a cd, 7, ["x", "told", "many", "found"], ["w", "one", "top", "bottom"], nearGl mg, true⟩
def nearScope : Scope := match forBody 44 1 with
  | [_, .Expr (.Call _ [.ListComp _ _ s _] _ _) _] => s
  | _ => (defAt 44).scope
theorem near_fr (X : Env0 H0 mg mb) (A : Around) (L a : Addr) (cd : Value) : CompFr mg (nearC mg A L a cd) nearScope [("w", L + 1), ("top", L + 3), ("one", L + 2), ("bottom", L + 4)] "few" ["bottom", "one", "top", "w"] [("_law_read", .ref (fa mg "_law_read"))] := by
  refine ⟨rfl, rfl, by decide +kernel, by decide +kernel, by decide +kernel, by decide +kernel, fun y hy => ?_, by decide +kernel, ?_⟩
  · rcases List.mem_cons.mp hy with rfl | hy
    · exact ⟨rfl, .tail _ (.tail _ (.tail _ (.head _))), rfl⟩
    · rcases List.mem_cons.mp hy with rfl | hy
      · exact ⟨rfl, .tail _ (.head _), rfl⟩
      · rcases List.mem_cons.mp hy with rfl | hy
        · exact ⟨rfl, .tail _ (.tail _ (.head _)), rfl⟩
        · rcases List.mem_cons.mp hy with rfl | hy
          · exact ⟨rfl, .head _, rfl⟩
          · cases hy
  · exact List.forall_mem_cons.mpr ⟨⟨rfl, rfl, gl__law_read X⟩, List.forall_mem_nil _⟩
theorem body__law_near (X : Env0 H0 mg mb) {a : Int} {b : Nat} {ts : List (Int × Nat)} {wb : Nat} (ho : ∀ x ∈ ts, NOk a b x) (hl : ts.length ≤ 500) (hw : 11 ≤ wb ∧ wb ≤ 14) :
    ∀ A L ad cd, Room A 7 → Exs prog w H0 mg mb (nearC mg A L ad cd) ⟨[some (rP a b), some (rL ts), some (.tup [.int 4, .int 5]), none], [some (.int (wb : Int)), none, none, none], none⟩ (defAt 44).body (.ret (.list (ts.map (nbP a b)))) := by
  intro A L ad cd hr
  apply Exs.cast
  apply Exs.seq
  · repeat' nest_cls
  apply Then.next
  have key : ∀ (ts0 : List (Int × Nat)) (l : List PV) (o1 o2 o3 : Option PV), (∀ x ∈ ts0, NOk a b x) → l.length + ts0.length ≤ 900 → ∃ o1' o2' o3' : Option PV, Loop prog w H0 mg mb (nearC mg A L ad cd)
      (fun σ p σ₀ => Bind1 (nearC mg A L ad cd) σ "one" p σ₀) (forBody 44 1)
      ⟨[some (rP a b), some (rL ts), some (.tup [.int 4, .int 5]), none], [some (.int (wb : Int)), o1, o2, o3], some (3, l)⟩ (ts0.map fun x => rP x.1 x.2)
      (.next ⟨[some (rP a b), some (rL ts), some (.tup [.int 4, .int 5]), none], [some (.int (wb : Int)), o1', o2', o3'], some (3, l ++ ts0.map (nbP a b))⟩) := by
    intro ts0
    induction ts0 with
    | nil =>
      intro l o1 o2 o3 _ _
      rw [List.map_nil, List.map_nil, List.append_nil]
      exact ⟨_, _, _, Loop.nil⟩
    | cons t ts0 ih =>
      intro l o1 o2 o3 ho hl2
      obtain ⟨hra, ht, hq, hy⟩ := ho t (.head _)
      have hl1 : l.length ≤ 1000 := by simp at hl2; omega
      obtain ⟨o1', o2', o3', hL⟩ := ih (l ++ [nbP a b t]) (some (rP t.1 t.2)) (some (.int (raT a b (-t.1) t.2))) (some (.int (raB a b (-t.1) t.2 : Int))) (fun x hx => ho x (.tail _ hx)) (by simp at hl2 ⊢; omega)
      refine ⟨o1', o2', o3', ?_⟩
      rw [List.map_cons, List.map_cons, app1 l]
      apply Loop.x
      · repeat' nest_cls
      · apply Exs.seq
        · repeat' nest_cls
        apply Then.next
        apply Exs.seq
        · apply Ex.appendX (p := nbP a b t)
          · repeat' nest_cls
          · exact hl1
          · unfold nbP
            refine Ev.comp (l := [.int 4, .int 5]) (lr := [.bool (nb a b t 4), .bool (nb a b t 5)]) (cel' := [some (.int (raB a b (-t.1) t.2 : Int)), some (rP t.1 t.2), some (.int (raT a b (-t.1) t.2)), some (.int (wb : Int))]) ?_ (.inr rfl) (near_fr X A L ad cd) ?_ ?_ rfl (by decide +kernel) (fun _ => rfl)
            · repeat' nest_cls
            · intro i y p h1 h2
              match i, h1, h2 with
              | 0, h1, h2 => cases h1; cases h2; exact ⟨3, rfl, rfl⟩
              | 1, h1, h2 => cases h1; cases h2; exact ⟨1, rfl, rfl⟩
              | 2, h1, h2 => cases h1; cases h2; exact ⟨2, rfl, rfl⟩
              | 3, h1, h2 => cases h1; cases h2; exact ⟨0, rfl, rfl⟩
            · have main : ∀ (C : Addr) (few : Int), few = 4 ∨ few = 5 → Ev prog w H0 mg mb (cFc (nearC mg A L ad cd) nearScope [("w", L + 1), ("top", L + 3), ("one", L + 2), ("bottom", L + 4)] C "few" ["bottom", "one", "top", "w"] [("_law_read", .ref (fa mg "_law_read"))])
                  ⟨[some (.int few)], [some (.int (raB a b (-t.1) t.2 : Int)), some (rP t.1 t.2), some (.int (raT a b (-t.1) t.2)), some (.int (wb : Int))], none⟩ nearElt (.bool (nb a b t few)) := by
                intro C few hf
                have hT2 : (raT a b (-t.1) t.2 * raT a b (-t.1) t.2).natAbs ≤ 2 ^ 20 * 2 ^ 20 := by rw [Int.natAbs_mul]; exact Nat.mul_le_mul (Nat.le_of_lt ht) (Nat.le_of_lt ht)
                have m1 : (raT a b (-t.1) t.2).natAbs < 2 ^ 64 := by omega
                have m2 : (raT a b (-t.1) t.2 * raT a b (-t.1) t.2).natAbs < 2 ^ 64 := by omega
                have m3 : (raT a b (-t.1) t.2 * raT a b (-t.1) t.2 * few).natAbs < 2 ^ 64 := by rcases hf with rfl | rfl <;> omega
                unfold cFc nearElt
                apply Ev.cast
                apply Ev.cmpX
                all_goals repeat' nest_cls
                rfl
              intro C i p q h1 h2
              match i, h1, h2 with
              | 0, h1, h2 => cases h1; cases h2; exact main C 4 (.inl rfl)
              | 1, h1, h2 => cases h1; cases h2; exact main C 5 (.inr rfl)
          · repeat' nest_cls
          · repeat' nest_cls
          · repeat' nest_cls
          · exact AppR.gen
        · repeat' nest_cls
      · exact LThen.next hL
  obtain ⟨o1', o2', o3', hL⟩ := key ts [] none none none ho (by simp; omega)
  apply Exs.seq
  · apply Ex.forX
    · repeat' nest_cls
    · exact Runs.list
    · exact hL
    · intro _; rfl
  apply Then.next
  repeat' nest_cls
  rfl
theorem ok__law_near (X : Env0 H0 mg mb) {A : Around} {k : Nat} (r : Room A k) (hk : 8 ≤ k) {a : Int} {b : Nat} {ts : List (Int × Nat)} {wb : Nat} (ho : ∀ x ∈ ts, NOk a b x) (hl : ts.length ≤ 500) (hw : 11 ≤ wb ∧ wb ≤ 14) :
    CallOk prog w H0 A (.ref (fa mg "_law_near")) [rP a b, rL ts, .tup [.int 4, .int 5], .int (wb : Int)] (.list (ts.map (nbP a b))) := by
  obtain ⟨N, hm⟩ := X.M
  refine CallOk.of (Con.introC (d := defAt 44) X.G (hm 44 (by decide)) fn__law_near (List.forall_mem_cons.mpr ⟨gl__law_read X, List.forall_mem_cons.mpr ⟨gl_r_sub X, List.forall_mem_cons.mpr ⟨gl_mul_school X, List.forall_mem_cons.mpr ⟨gl_divrem_school X, List.forall_mem_nil _⟩⟩⟩⟩) rfl ?_ ?_ (body__law_near X ho hl hw)) r hk
  · intro i x p h1 h2
    match i, h1, h2 with
    | 0, h1, h2 => cases h1; cases h2; exact ⟨0, rfl, rfl⟩
    | 1, h1, h2 => cases h1; cases h2; exact ⟨1, rfl, rfl⟩
    | 2, h1, h2 => cases h1; cases h2; exact ⟨2, rfl, rfl⟩
    | 3, h1, h2 => cases h2
  · intro i x p h1 h2
    match i, h1, h2 with
    | 0, h1, h2 => cases h1; cases h2; exact ⟨3, rfl, rfl⟩
    | 1, h1, h2 => cases h2
    | 2, h1, h2 => cases h2
    | 3, h1, h2 => cases h2

mutual
inductive Py : PV → PyData → Prop
  | int {i : Int} : Py (.int i) (.int i)
  | bool {b : Bool} : Py (.bool b) (.bool b)
  | list {l : List PV} {d : List PyData} : Pys l d → Py (.list l) (.list d)
  | tup {l : List PV} {d : List PyData} : Pys l d → Py (.tup l) (.tuple d)
inductive Pys : List PV → List PyData → Prop
  | nil : Pys [] []
  | cons {p : PV} {d : PyData} {l : List PV} {ds : List PyData} : Py p d → Pys l ds → Pys (p :: l) (d :: ds)
end
mutual
theorem Rep.reads {K : PM} {h : Heap} (hs : ∀ b o, K b = some o → h.get? b = some o) : ∀ {p : PV} {d : PyData} {v : Value}, Py p d → Rep K v p → ∃ as, Reads h v d as
  | _, _, _, .int, .int i t => ⟨_, .int i t⟩
  | _, _, _, .bool, .bool b => ⟨_, .bool b⟩
  | _, _, _, .list q, .list h1 h2 h3 h4 => let ⟨as, r⟩ := Reps.reads hs q h4; ⟨_, .list (hs _ _ h1) h2 h3 (by simpa using r)⟩
  | _, _, _, .tup q, .tup h1 h2 h3 h4 => let ⟨as, r⟩ := Reps.reads hs q h4; ⟨_, .tuple (hs _ _ h1) h2 h3 (by simpa using r)⟩
theorem Reps.reads {K : PM} {h : Heap} (hs : ∀ b o, K b = some o → h.get? b = some o) : ∀ {l : List PV} {d : List PyData} {vs : List Value}, Pys l d → Reps K vs l → ∃ as, ReadsAll h vs d as
  | _, _, _, .nil, .nil => ⟨_, .nil⟩
  | _, _, _, .cons q qs, .cons r rs => let ⟨_, a⟩ := Rep.reads hs q r; let ⟨_, b⟩ := Reps.reads hs qs rs; ⟨_, .cons a b⟩
end
def yN (n : Nat) : PyData := .list (if n = 0 then [] else [.int (n : Int)])
def yS (z : Int) : PyData := .tuple [.bool (decide (z < 0)), yN z.natAbs]
def yR (z : Int) (q : Nat) : PyData := .tuple [yS z, yN q]
theorem py_nP (n : Nat) : Py (nP n) (yN n) := by
  unfold yN
  by_cases h : n = 0
  · subst h; exact .list .nil
  · rw [nP_pos h, if_neg h]; exact .list (.cons .int .nil)
theorem py_sP (z : Int) : Py (sP z) (yS z) := .tup (.cons .bool (.cons (py_nP _) .nil))
theorem py_rP (z : Int) (q : Nat) : Py (rP z q) (yR z q) := .tup (.cons (py_sP z) (.cons (py_nP q) .nil))
theorem yN_lay (n : Nat) : (yN n).canLay0 = true := by unfold yN; split <;> rfl
theorem yS_lay (z : Int) : (yS z).canLay0 = true := by
  simp [yS, PyData.canLay0, PyData.canLayAll0, yN_lay]
theorem yR_lay (z : Int) (q : Nat) : (yR z q).canLay0 = true := by
  simp [yR, PyData.canLay0, PyData.canLayAll0, yN_lay, yS_lay]
theorem yN_depth (n : Nat) : (yN n).depth ≤ 2 := by unfold yN; split <;> simp [PyData.depth, PyData.depthAll]
theorem yN_eqv (n : Nat) : PyData.eqv (yN n) (yN n) = true := by
  unfold yN; split
  · rfl
  · simp [PyData.eqv, PyData.eqvAll]
theorem yR_eqv (z : Int) (q : Nat) : PyData.eqv (yR z q) (yR z q) = true := by
  simp [yR, yS, PyData.eqv, PyData.eqvAll, yN_eqv]

theorem CmpOk.neR {a : Int} {b : Nat} : CmpOk prog w .NotEq (rP a b) (rP a b) false := .mk fun A K s v u r hs r1 r2 => by
  obtain ⟨as, h1⟩ := Rep.reads hs (py_rP a b) r1
  obtain ⟨bs, h2⟩ := Rep.reads hs (py_rP a b) r2
  refine SeqAt.compareNe_reads h1 h2 (yR_lay a b) (yR_lay a b) ?_ (by rw [yR_eqv]; exact PostE.same hs (.bool _))
  have h3 : (yR a b).depth ≤ 64 := by
    have e1 := yN_depth a.natAbs
    have e2 := yN_depth b
    simp only [yR, yS, PyData.depth, PyData.depthAll]
    omega
  have := r.units
  have hc : 1000 ≤ cLine := by decide
  have h4 : min (yR a b).depth (yR a b).depth ≤ (yR a b).depth := Nat.min_le_left _ _
  omega
def yL (l : List (Int × Nat)) : List PyData := l.map fun x => yR x.1 x.2
theorem py_rL : ∀ (l : List (Int × Nat)), Pys (l.map fun x => rP x.1 x.2) (yL l)
  | [] => .nil
  | x :: l => .cons (py_rP _ _) (py_rL l)
theorem yL_lay : ∀ (l : List (Int × Nat)), PyData.canLayAll0 (yL l) = true
  | [] => rfl
  | x :: l => by
    have := yL_lay l
    unfold yL at *
    simp [PyData.canLayAll0, yR_lay, this]
theorem CmpOk.eqNil {l : List (Int × Nat)} (hl : l ≠ []) : CmpOk prog w .Eq (rL l) (.list []) false := .mk fun A K s v u r hs r1 r2 => by
  obtain ⟨as, h1⟩ := Rep.reads hs (d := .list (yL l)) (.list (py_rL l)) r1
  obtain ⟨bs, h2⟩ := Rep.reads hs (d := .list []) (.list .nil) r2
  refine SeqAt.compareEq_reads h1 h2 (yL_lay l) rfl ?_ ?_
  · have := r.units
    have hc : 1000 ≤ cLine := by decide
    have h4 : min (PyData.list (yL l)).depth (PyData.list []).depth ≤ (PyData.list []).depth := Nat.min_le_right _ _
    have h5 : (PyData.list []).depth ≤ 2 := by decide
    omega
  · have e : PyData.eqv (.list (yL l)) (.list []) = false := by
      cases l with
      | nil => exact absurd rfl hl
      | cons x l => rfl
    rw [e]; exact PostE.same hs (.bool _)
abbrev pr (x : Int × Nat) : PV := .tup [.int x.1, .int (x.2 : Int)]
def yP (l : List (Int × Nat)) : List PyData := l.map fun x => .tuple [.int x.1, .int (x.2 : Int)]
theorem py_pr : ∀ (l : List (Int × Nat)), Pys (l.map pr) (yP l)
  | [] => .nil
  | x :: l => .cons (.tup (.cons .int (.cons .int .nil))) (py_pr l)
theorem yP_lay : ∀ (l : List (Int × Nat)), PyData.canLayAll0 (yP l) = true
  | [] => rfl
  | x :: l => by
    have := yP_lay l
    unfold yP at *
    simp [PyData.canLayAll0, PyData.canLay0, this]
def isIn (o u : Int) (l : List (Int × Nat)) : Bool := l.any fun x => x.1 == o && (x.2 : Int) == u
theorem CmpOk.notIn {o u : Int} {l : List (Int × Nat)} : CmpOk prog w .NotIn (.tup [.int o, .int u]) (.list (l.map pr)) (!isIn o u l) := .mk fun A K s v c r hs r1 r2 => by
  obtain ⟨as, h1⟩ := Rep.reads hs (d := .list (yP l)) (.list (py_pr l)) r2
  obtain ⟨bs, h2⟩ := Rep.reads hs (d := .tuple [.int o, .int u]) (.tup (.cons .int (.cons .int .nil))) r1
  refine SeqAt.notIn_list_reads h1 h2 (yP_lay l) rfl ?_ ?_
  · have := r.units
    have hc : 1000 ≤ cLine := by decide
    have h4 : min (PyData.depthAll (yP l)) (PyData.tuple [.int o, .int u]).depth ≤ (PyData.tuple [.int o, .int u]).depth := Nat.min_le_right _ _
    have h5 : (PyData.tuple [.int o, .int u]).depth ≤ 2 := by simp [PyData.depth, PyData.depthAll]
    omega
  · have e : ((yP l).any fun y => PyData.eqv y (.tuple [.int o, .int u])) = isIn o u l := by
      unfold yP isIn
      rw [List.any_map]
      congr 1
      funext x
      simp [PyData.eqv, PyData.eqvAll]
    rw [e]; exact PostE.same hs (.bool _)

def nx (ns : List Int) (i many : Nat) : Int := if i + 1 ≤ ns.length then (ns.getD i 0).fmod many else (5 * ((i : Int) + 1) + ((i : Int) + 1).fdiv 2 + 61).fmod many
theorem fn__law_next : FnOk (defAt 39) ["yard", "many"] ["yard", "many"] [("len", .builtin "len")] := by
  refine ⟨rfl, rfl, rfl, rfl, by decide +kernel, fun pm cd doc vs h => ?_, by decide +kernel, by decide +kernel, by decide +kernel⟩
  match vs, h with
  | [_, _], _ => rfl
theorem mut__law_next (X : Env0 H0 mg mb) {A : Around} {k : Nat} (r : Room A k) (hk : 1 ≤ k) {ns : List Int} {i many : Nat} (hm : many ≠ 0) (hi : i < 5) (hl : ns.length ≤ 4) :
    CallMut prog w H0 A (.ref (fa mg "_law_next")) [.int (i : Int), iL ns] [.int ((i : Int) + 1), iL ns] (.int (many : Int)) (.int (nx ns i many)) := by
  obtain ⟨N, hmd⟩ := X.M
  refine mutIntro (d := defAt 39) (i := (i : Int)) (l := [iL ns]) (k := 0) X.G (hmd 39 (by decide)) fn__law_next (List.forall_mem_cons.mpr ⟨X.len, List.forall_mem_nil _⟩) rfl (fun _ _ _ => rfl) (fun A L a cd hr => ?_) (by simp) (r.mono hk)
  have hmm : (many : Int) ≠ 0 := by omega
  have hlen : (ns.map PV.int).length = ns.length := by simp
  by_cases h : i + 1 ≤ ns.length
  · have hd : decide ((i : Int) + 1 ≤ ((ns.map PV.int).length : Int)) = true := by rw [hlen]; simp; omega
    have it : Item (iL ns) ((i : Int) + 1 - 1) (.int (ns.getD i 0)) := by
      have e : (i : Int) + 1 - 1 = (i : Nat) := by omega
      rw [e]
      refine Item.list ⟨by omega, by omega⟩ ?_
      rw [Int.toNat_natCast, List.getElem?_map, List.getElem?_eq_getElem (by omega)]
      simp [List.getD, List.getElem?_eq_getElem (by omega : i < ns.length)]
    have hz : (ns.map PV.int).length ≤ 1000000 := by rw [hlen]; omega
    apply Exs.cast
    apply Exs.seq
    all_goals repeat' nest_cls
    unfold nx; rw [if_pos h]
  · have hd : decide ((i : Int) + 1 ≤ ((ns.map PV.int).length : Int)) = false := by rw [hlen]; simp; omega
    have hz : (ns.map PV.int).length ≤ 1000000 := by rw [hlen]; omega
    apply Exs.cast
    apply Exs.seq
    all_goals repeat' nest_cls
    unfold nx; rw [if_neg h]

theorem Ex.tup3M {c : Fc} {σ σ₁ σ₂ σ₃ σ₄ σ₅ σ₆ : Sg} {x y z : Str} {px py pz : Pos} {e1 e2 e3 : Expr} {k k' : Nat} {tpos vpos pos : Pos} {p q r : PV}
    (hs : swapsWithSole [.Tuple [.Name x px, .Name y py, .Name z pz] k tpos] (.Tuple [e1, e2, e3] k' vpos) pos.line c.env = pure false) (hw : swappedStores [.Tuple [.Name x px, .Name y py, .Name z pz] k tpos] (.Tuple [e1, e2, e3] k' vpos) c.env = pure none)
    (h1 : EvM prog w H0 mg mb c σ e1 p σ₁) (h2 : EvM prog w H0 mg mb c σ₁ e2 q σ₂) (h3 : EvM prog w H0 mg mb c σ₂ e3 r σ₃) (b1 : Bind1 c σ₃ x p σ₄) (b2 : Bind1 c σ₄ y q σ₅) (b3 : Bind1 c σ₅ z r σ₆)
    (hs1 : starEach [e1, e2, e3] c.env = (false, eval e1 c.env) :: starEach [e2, e3] c.env) (hs2 : starEach [e2, e3] c.env = (false, eval e2 c.env) :: starEach [e3] c.env) (hs3 : starEach [e3] c.env = (false, eval e3 c.env) :: starEach [] c.env) :
    Ex prog w H0 mg mb c σ (.Assign [.Tuple [.Name x px, .Name y py, .Name z pz] k tpos] (.Tuple [e1, e2, e3] k' vpos) pos) (.next σ₆) := .mk fun K0 h0 K s S => by
  refine Assign_Tuple (wpAny_Tuple (wpAny_items_cons (h1.bind S fun v K₁ h₁ t₁ G₁ R₁ S₁ => wpAny_items_cons (h2.bind S₁ fun v₂ K₂ h₂ t₂ G₂ R₂ S₂ => wpAny_items_cons (h3.bind S₂ fun v₃ K₃ h₃ t₃ G₃ R₃ S₃ => wpAny_items_nil ?_) hs3) hs2) hs1)) hs hw
  refine ⟨by rw [sizeLine_eq]; simp, ?_⟩
  have G₄ : Grow K₃ h₃.get? K₃ (h₃.push { cls := .type "tuple", data := .seq [v, v₂, v₃].toArray }).get? := Grow.keepOnly S₃.sub fun b o e => Heap.get?_push_of_some _ e
  have S₄ := S₃.grow (tk' := t₃) G₄
  refine assign_Tuple_tuple (prog := prog) (w := w) (E := E0) S.wf.room.handled (env := c.env) (elts := [Expr.Name x px, Expr.Name y py, Expr.Name z pz]) (items := #[v, v₂, v₃]) ⟨_, Heap.get?_push_size _ rfl, rfl, _, rfl⟩ (by rfl) (by rfl) fun h' hx => ?_
  have kk : ∀ b o, (h₃.push { cls := .type "tuple", data := .seq [v, v₂, v₃].toArray }).get? b = some o → h'.get? b = some o := fun b o e => hx b o (Nat.ne_of_lt (Heap.lt_size e)) e
  have S₅ := S₄.grow (tk' := t₃) (Grow.keepOnly S₄.sub kk)
  show wpAny _ _ (assignInOrder [PySem.assign (Expr.Name x px) c.env, PySem.assign (Expr.Name y py) c.env, PySem.assign (Expr.Name z pz) c.env] [v, v₂, v₃]) _ _ _
  refine assignInOrder_cons (wpAny_assign_Name (b1.run S₅ (R₁.mono fun b o e => G₃ b o (G₂ b o e)) fun h₅ t₅ S₅ => ?_))
  refine assignInOrder_cons (wpAny_assign_Name (b2.run S₅ (R₂.mono G₃) fun h₆ t₆ S₆ => ?_))
  refine assignInOrder_cons (wpAny_assign_Name (b3.run S₆ R₃ fun h₇ t₇ S₇ => ?_))
  exact assignInOrder_nil ⟨rfl, K₃, h₇, t₇, rfl, S₇⟩

theorem Loop.all {c : Fc} {B : Sg → PV → Sg → Prop} {body : List Stmt} {τ : Type} (S : τ → Sg) : ∀ (l : List PV), (∀ p ∈ l, ∀ t, ∃ σ₀ t', B (S t) p σ₀ ∧ Exs prog w H0 mg mb c σ₀ body (.next (S t'))) → ∀ t, ∃ t', Loop prog w H0 mg mb c B body (S t) l (.next (S t'))
  | [], _, t => ⟨t, .nil⟩
  | p :: l, h, t => by
    obtain ⟨σ₀, t₁, h1, h2⟩ := h p (.head _) t
    obtain ⟨t', h3⟩ := Loop.all S l (fun q hq => h q (.tail _ hq)) t₁
    exact ⟨t', .cons h1 h2 h3⟩

def lG (t : Int) (b : Nat) : Nat := Nat.gcd t.natAbs b
def lA (t : Int) (b : Nat) : Int := t / (lG t b : Int)
def lB (t : Int) (b : Nat) : Nat := b / lG t b
def lC (t : Int) (b : Nat) : List Int := cf 40 (lA t b) (lB t b)
def lT (t : Int) (b : Nat) : List (Int × Nat) := cv (lC t b) 0 1 1 0
def lW (t : Int) (b : Nat) : Nat := (dv 40 t b).natAbs
def lT2 (t : Int) (b : Nat) : Int := t.fdiv (lW t b : Int)
def lB2 (t : Int) (b : Nat) : Int := (b : Int).fdiv (lW t b : Int)
def lQ (t : Int) (b : Nat) (u : Int) : Int := (lT2 t b * u).fdiv (lB2 t b)
def legOk (t : Int) (b : Nat) (u o : Int) : Prop := o.natAbs < 4096 ∧ ((((lT2 t b * u - o * lB2 t b).natAbs : Int) * 2 * u < lB2 t b) → ((((dv 40 o u).natAbs : Int) == 1) && ((!isIn o u (lT t b)) && true)) = false)
structure LawOk (t : Int) (b : Nat) : Prop where
  tb : t.natAbs < 1000 ∧ b ≠ 0 ∧ b < 40
  ab : (lA t b).natAbs < 1000 ∧ lB t b < 40
  cvok : CvOk (lC t b) 0 1 1 0
  len : (lC t b).length ≤ 500
  ne : lT t b ≠ []
  last : Item (rL (lT t b)) (-1) (rP (lA t b) (lB t b))
  tl : (lT t b).length ≤ 100
  nok : ∀ x ∈ lT t b, NOk (lA t b) (lB t b) x
  near1 : ∀ (i : Nat) x y, (lT t b)[i]? = some x → (lT t b)[i + 1]? = some y → ((!nb (lA t b) (lB t b) x 4) && ((!nb (lA t b) (lB t b) y 4) && true)) = false
  near2 : ∀ (i : Nat) x y z, (lT t b)[i]? = some x → (lT t b)[i + 1]? = some y → (lT t b)[i + 2]? = some z → ((!nb (lA t b) (lB t b) x 5) && ((!nb (lA t b) (lB t b) y 5) && ((!nb (lA t b) (lB t b) z 5) && true))) = false
  wh : (lW t b : Int) ≠ 0 ∧ ((lW t b : Int)).natAbs < 2 ^ 64
  b2 : 0 < lB2 t b ∧ lB2 t b < 40
  t2 : (lT2 t b).natAbs < 4096
  leg : ∀ u : Int, 1 ≤ u → u ≤ lB2 t b → legOk t b u (lQ t b u) ∧ legOk t b u (lQ t b u + 1)

abbrev lawGl (mg : Str → Option Value) : List (Str × Value) := [("_law_next", .ref (fa mg "_law_next")), ("r_make", .ref (fa mg "r_make")), ("_law_signed", .ref (fa mg "_law_signed")), ("divrem_school", .ref (fa mg "divrem_school")), ("convergents", .ref (fa mg "convergents")), ("continued", .ref (fa mg "continued")), ("mul_school", .ref (fa mg "mul_school")), ("_law_near", .ref (fa mg "_law_near")), ("_law_divides_both", .ref (fa mg "_law_divides_both")), ("range", .type "range"), ("len", .builtin "len"), ("abs", .builtin "abs")]
abbrev lawLn : List Str := ["script", "yard", "bottom", "top", "x", "told", "plain", "near", "at", "whole", "under", "over"]
abbrev lawC (mg : Str → Option Value) (A : Around) (L a : Addr) (cd : Value) : Fc := ⟨A, envOfC (defAt 46).name (defAt 46).scope L a cd, 9, lawLn, ["w"], lawGl mg, true⟩
theorem fn_law : FnOkC (defAt 46) ["script"] lawLn ["w"] (lawGl mg) := by
  refine ⟨rfl, rfl, rfl, rfl, fun pm cd doc vs h => ?_, by decide +kernel, by decide +kernel, by decide +kernel, by decide +kernel, by decide +kernel, fun L x hx => ?_, by decide +kernel, gk1 ⟨by decide +kernel, by decide +kernel⟩ (gk1 ⟨by decide +kernel, by decide +kernel⟩ (gk1 ⟨by decide +kernel, by decide +kernel⟩ (gk1 ⟨by decide +kernel, by decide +kernel⟩ (gk1 ⟨by decide +kernel, by decide +kernel⟩ (gk1 ⟨by decide +kernel, by decide +kernel⟩ (gk1 ⟨by decide +kernel, by decide +kernel⟩ (gk1 ⟨by decide +kernel, by decide +kernel⟩ (gk1 ⟨by decide +kernel, by decide +kernel⟩ (gk1 ⟨by decide +kernel, by decide +kernel⟩ (gk1 ⟨by decide +kernel, by decide +kernel⟩ (gk1 ⟨by decide +kernel, by decide +kernel⟩ (gk0))))))))))))⟩
  · match vs, h with
    | [_], _ => rfl
  · rcases List.mem_cons.mp hx with rfl | hx
    · exact ⟨_, rfl⟩
    · cases hx
def comp0 : Expr × Scope := match (defAt 46).body with
  | Stmt.Assign _ (Expr.List [_, Expr.ListComp e _ s _] _) _ :: _ => (e, s)
  | _ => (.Constant .none 0 ⟨0, 0, 0, 0⟩, (defAt 46).scope)
def comp5 : Expr × Scope := match (defAt 46).body with
  | _ :: _ :: _ :: _ :: _ :: Stmt.Assign _ (Expr.Tuple [Expr.ListComp e _ s _, _] _ _) _ :: _ => (e, s)
  | _ => (.Constant .none 0 ⟨0, 0, 0, 0⟩, (defAt 46).scope)
theorem law_fr0 (X : Env0 H0 mg mb) (A : Around) (L a : Addr) (cd : Value) : CompFr mg (lawC mg A L a cd) comp0.2 [] "pole" [] [("abs", .builtin "abs"), ("int", .type "int")] := by
  refine ⟨rfl, rfl, by decide +kernel, by decide +kernel, by decide +kernel, by decide +kernel, fun y hy => (nomatch hy), .nil, ?_⟩
  exact List.forall_mem_cons.mpr ⟨⟨rfl, rfl, X.abs⟩, List.forall_mem_cons.mpr ⟨⟨rfl, rfl, X.int⟩, List.forall_mem_nil _⟩⟩
theorem law_fr5 (X : Env0 H0 mg mb) (A : Around) (L a : Addr) (cd : Value) : CompFr mg (lawC mg A L a cd) comp5.2 [("w", L + 1)] "one" ["w"] [("_law_read", .ref (fa mg "_law_read"))] := by
  refine ⟨rfl, rfl, by decide +kernel, by decide +kernel, by decide +kernel, by decide +kernel, fun y hy => ?_, by decide +kernel, ?_⟩
  · rcases List.mem_cons.mp hy with rfl | hy
    · exact ⟨rfl, .head _, rfl⟩
    · cases hy
  · exact List.forall_mem_cons.mpr ⟨⟨rfl, rfl, gl__law_read X⟩, List.forall_mem_nil _⟩
theorem Exs.consC {c : Fc} {σ σ₁ σ₂ : Sg} {st : Stmt} {rest : List Stmt} {r : Res} (h : Ex prog w H0 mg mb c σ st (.next σ₁)) (e : σ₁ = σ₂) (h' : Exs prog w H0 mg mb c σ₂ rest r) : Exs prog w H0 mg mb c σ (st :: rest) r := Exs.cons h (e ▸ h')
theorem EvA.or1 {c : Fc} {σ : Sg} {e : Expr} {es : List Expr} {b b' : Bool} (h : EvT prog w H0 mg mb c σ e b) (h' : EvA prog w H0 mg mb c σ .Or es b') : EvA prog w H0 mg mb c σ .Or (e :: es) (b || b') := EvA.orCons h fun _ => h'
local macro_rules | `(tactic| reads_via_all) => `(tactic| first
  | ((with_reducible show CvOk _ _ _ _ _); with_reducible assumption)
  | ((with_reducible show CmpOk _ _ _ _ _ _); first | (with_reducible exact CmpOk.neR) | ((with_reducible apply CmpOk.eqNil); (with_reducible assumption)) | (with_reducible exact CmpOk.notIn))
  | ((with_reducible show EvA _ _ _ _ _ _ _ BoolOp.Or _ _); first | (with_reducible exact EvA.orNil) | (with_reducible apply EvA.or1))
  | ((with_reducible show EvA _ _ _ _ _ _ _ BoolOp.And _ _); first | (with_reducible exact EvA.andNil) | (with_reducible apply EvA.and1)))

theorem law_start (X : Env0 H0 mg mb) (zs ns : List Int) (hns : ns = (zs.take 4).map fun z => (z.natAbs : Int)) (hz : zs.length ≤ 900) {n0 n1 : Nat} {n2 : Int} (e0 : nx ns 0 4 = n0) (e1 : nx ns 1 25 = n1) (e2 : nx ns 2 120 = n2)
    {A : Around} {L ad : Addr} {cd : Value} (hr : Room A 9) {rest : List Stmt} (hb : (defAt 46).body.drop 2 = rest)
    (h : ∀ l, Exs prog w H0 mg mb (lawC mg A L ad cd) ⟨[some (iL zs), none, some (.int ((5 + n1 : Nat) : Int)), some (.int (n2 - 40)), none, none, none, none, none, none, none, none], [some (.int ((11 + n0 : Nat) : Int))], some (1, l)⟩ rest (.ret (.bool true))) :
    Exs prog w H0 mg mb (lawC mg A L ad cd) ⟨[some (iL zs), none, none, none, none, none, none, none, none, none, none, none], [none], none⟩ (defAt 46).body (.ret (.bool true)) := by
  subst hb
  obtain ⟨oN, fdN, hN1, hN2⟩ : ∃ o fd, H0.get? (fa mg "_law_next") = some o ∧ o.data = .func fd := by
    cases cal__law_next X with
    | f h1 h2 => exact ⟨_, _, h1, h2⟩
  have hl4 : ns.length ≤ 4 := by rw [hns]; simp; omega
  have m0 := mut__law_next (prog := prog) (w := w) X hr (by decide) (ns := ns) (i := 0) (many := 4) (by decide) (by decide) hl4
  have m1 := mut__law_next (prog := prog) (w := w) X hr (by decide) (ns := ns) (i := 1) (many := 25) (by decide) (by decide) hl4
  have m2 := mut__law_next (prog := prog) (w := w) X hr (by decide) (ns := ns) (i := 2) (many := 120) (by decide) (by decide) hl4
  rw [e0] at m0
  rw [e1] at m1
  rw [e2] at m2
  replace m0 : CallMut prog w H0 A (.ref (fa mg "_law_next")) [.int 0, iL ns] [.int 1, iL ns] (.int 4) (.int (n0 : Int)) := m0
  replace m1 : CallMut prog w H0 A (.ref (fa mg "_law_next")) [.int 1, iL ns] [.int 2, iL ns] (.int 25) (.int (n1 : Int)) := m1
  replace m2 : CallMut prog w H0 A (.ref (fa mg "_law_next")) [.int 2, iL ns] [.int 3, iL ns] (.int 120) (.int n2) := m2
  have hz1 : ((zs.map PV.int).take 4).length ≤ 900 := by simp; omega
  apply Exs.cons
  · apply Ex.asgOwn (l := [.int 0, iL ns])
    · apply EvO.listD
      · apply EvL.cons
        · repeat' nest_cls
        · apply EvL.cons
          · refine Ev.comp (l := (zs.map PV.int).take 4) (lr := ns.map PV.int) (cel' := []) (p := .list ((zs.map PV.int).take 4)) ?_ (.inl rfl) (law_fr0 X A L ad cd) (fun i y p h1 _ => by simp at h1) ?_ (by rw [hns]; simp) hz1 (fun _ => rfl)
            · apply Ev.cast
              · apply Ev.upto
                · repeat' nest_cls
                · repeat' nest_cls
                · decide
                · simp; omega
              · rfl
            · intro C i p q h1 h2
              have hz3 : ∃ z : Int, p = .int z ∧ q = .int (z.natAbs : Int) := by
                rw [hns, List.map_map, List.getElem?_map] at h2
                rw [← List.map_take, List.getElem?_map] at h1
                cases hi : (zs.take 4)[i]? with
                | none => rw [hi] at h1; cases h1
                | some z =>
                  rw [hi] at h1 h2
                  cases h1; cases h2
                  exact ⟨z, rfl, rfl⟩
              obtain ⟨z, rfl, rfl⟩ := hz3
              unfold cFc
              apply Ev.call
              all_goals repeat' nest_cls
          · repeat' nest_cls
          · repeat' nest_cls
        · repeat' nest_cls
      · exact Nat.le_of_ble_eq_true rfl
    · repeat' nest_cls
    · repeat' nest_cls
  apply Exs.cons
  · apply Ex.tup3M
    · rfl
    · rfl
    · apply EvM.add
      · apply EvM.of; repeat' nest_cls
      · apply EvM.call (hd := hN2) (ho := hN1) (hc := m0)
        all_goals repeat' nest_cls
    · apply EvM.add
      · apply EvM.of; repeat' nest_cls
      · apply EvM.call (hd := hN2) (ho := hN1) (hc := m1)
        all_goals repeat' nest_cls
    · apply EvM.sub
      · apply EvM.call (hd := hN2) (ho := hN1) (hc := m2)
        all_goals repeat' nest_cls
      · apply EvM.of; repeat' nest_cls
    all_goals repeat' nest_cls
  have ew : (11 : Int) + (n0 : Int) = ((11 + n0 : Nat) : Int) := by omega
  have eb : (5 : Int) + (n1 : Int) = ((5 + n1 : Nat) : Int) := by omega
  rw [ew, eb]
  exact h _
local macro_rules | `(tactic| reads_via_all) => `(tactic| first
  | ((with_reducible show CvOk _ _ _ _ _); with_reducible assumption)
  | ((with_reducible show CmpOk _ _ _ _ _ _); first | (with_reducible exact CmpOk.neR) | ((with_reducible apply CmpOk.eqNil); (with_reducible assumption)) | (with_reducible exact CmpOk.notIn))
  | ((with_reducible show EvA _ _ _ _ _ _ _ BoolOp.Or _ _); first | (with_reducible exact EvA.orNil) | (with_reducible apply EvA.or1))
  | ((with_reducible show EvA _ _ _ _ _ _ _ BoolOp.And _ _); first | (with_reducible exact EvA.andNil) | (with_reducible apply EvA.and1)))

theorem small_up (a b : Int) (h : a.natAbs ≤ 100000) (h' : b.natAbs ≤ 100000) : Builtin.Range.small a b 1 = true := by
  simp [Builtin.Range.small, Builtin.Range.rangeFitsLong, Builtin.Range.rangeSize]
  split <;> omega
theorem size_up0 (n : Nat) (h : n ≤ 100000) : Builtin.Range.rangeSize 0 (n : Int) 1 = (n : Int) := by
  simp [Builtin.Range.rangeSize]
  omega
def lawSt (zs : List Int) (l : List PV) (t : Int) (b wb : Nat) (xx told plain near att whole under over : Option PV) : Sg := ⟨[some (iL zs), none, some (.int (b : Int)), some (.int t), xx, told, plain, near, att, whole, under, over], [some (.int (wb : Int))], some (1, l)⟩
theorem law_rest1 (X : Env0 H0 mg mb) (zs : List Int) {t : Int} {b wb : Nat} (ho : LawOk t b) (hw : 11 ≤ wb ∧ wb ≤ 14) (l : List PV) {A : Around} {L ad : Addr} {cd : Value} (hr : Room A 9)
    (h : Exs prog w H0 mg mb (lawC mg A L ad cd) ⟨[some (iL zs), none, some (.int (b : Int)), some (.int t), some (rP (lA t b) (lB t b)), some (rL (lT t b)), some (.list ((lT t b).map pr)), some (.list ((lT t b).map (nbP (lA t b) (lB t b)))), none, none, none, none], [some (.int (wb : Int))], some (1, l)⟩ ((defAt 46).body.drop 6) (.ret (.bool true))) :
    Exs prog w H0 mg mb (lawC mg A L ad cd) ⟨[some (iL zs), none, some (.int (b : Int)), some (.int t), none, none, none, none, none, none, none, none], [some (.int (wb : Int))], some (1, l)⟩ ((defAt 46).body.drop 2) (.ret (.bool true)) := by
  have hb2 : b ≠ 0 ∧ b < 2048 := ⟨ho.tb.2.1, by have := ho.tb.2.2; omega⟩
  have ht2 : t.natAbs < 2048 := by have := ho.tb.1; omega
  have hbn : ((b : Nat) : Int).natAbs < 2048 := by omega
  have hf : lB t b < 40 ∧ 40 ≤ 500 := ⟨ho.ab.2, by decide⟩
  have ha := ho.ab.1
  have hcv : CvOk (cf 40 (lA t b) (lB t b)) 0 1 1 0 := ho.cvok
  have hcl : (cf 40 (lA t b) (lB t b)).length ≤ 500 := ho.len
  apply Exs.consC (σ₂ := ⟨[some (iL zs), none, some (.int (b : Int)), some (.int t), some (rP (lA t b) (lB t b)), none, none, none, none, none, none, none], [some (.int (wb : Int))], some (1, l)⟩)
  · repeat' nest_cls
  · rfl
  apply Exs.consC (σ₂ := ⟨[some (iL zs), none, some (.int (b : Int)), some (.int t), some (rP (lA t b) (lB t b)), some (rL (lT t b)), none, none, none, none, none, none], [some (.int (wb : Int))], some (1, l)⟩)
  · repeat' nest_cls
  · rfl
  have hne := ho.ne
  have hlast := ho.last
  apply Exs.seq
  · repeat' nest_cls
  apply Then.next
  have hnok := ho.nok
  have htl : (lT t b).length ≤ 500 := by have := ho.tl; omega
  apply Exs.consC (σ₂ := ⟨[some (iL zs), none, some (.int (b : Int)), some (.int t), some (rP (lA t b) (lB t b)), some (rL (lT t b)), some (.list ((lT t b).map pr)), some (.list ((lT t b).map (nbP (lA t b) (lB t b)))), none, none, none, none], [some (.int (wb : Int))], some (1, l)⟩)
  · apply Ex.tup2X
    · rfl
    · rfl
    · apply EvL.cons
      · refine Ev.comp (p := rL (lT t b)) (l := (lT t b).map fun x => rP x.1 x.2) (lr := (lT t b).map pr) (cel' := [some (.int (wb : Int))]) ?_ (.inl rfl) (law_fr5 X A L ad cd) ?_ ?_ (by simp) (by simp; omega) (fun _ => rfl)
        · repeat' nest_cls
        · intro i y p h1 h2
          match i, h1, h2 with
          | 0, h1, h2 => cases h1; cases h2; exact ⟨0, rfl, rfl⟩
        · intro C i p q h1 h2
          rw [List.getElem?_map] at h1 h2
          cases hi : (lT t b)[i]? with
          | none => rw [hi] at h1; cases h1
          | some z =>
            rw [hi] at h1 h2
            cases h1; cases h2
            unfold cFc
            apply Ev.call
            all_goals repeat' nest_cls
      · apply EvL.cons
        · apply Ev.call
          · repeat' nest_cls
          · repeat' nest_cls
          · repeat' nest_cls
          · exact ok__law_near X hr (by decide) hnok htl hw
          · repeat' nest_cls
          · repeat' nest_cls
        · repeat' nest_cls
        · repeat' nest_cls
      · repeat' nest_cls
    · repeat' nest_cls
    · repeat' nest_cls
  · rfl
  exact h

theorem law_rest2 (X : Env0 H0 mg mb) (zs : List Int) {t : Int} {b wb : Nat} (ho : LawOk t b) (hw : 11 ≤ wb ∧ wb ≤ 14) (l : List PV) {A : Around} {L ad : Addr} {cd : Value} (hr : Room A 9)
    (h : ∀ o, Exs prog w H0 mg mb (lawC mg A L ad cd) ⟨[some (iL zs), none, some (.int (b : Int)), some (.int t), some (rP (lA t b) (lB t b)), some (rL (lT t b)), some (.list ((lT t b).map pr)), some (.list ((lT t b).map (nbP (lA t b) (lB t b)))), o, none, none, none], [some (.int (wb : Int))], some (1, l)⟩ ((defAt 46).body.drop 7) (.ret (.bool true))) :
    Exs prog w H0 mg mb (lawC mg A L ad cd) ⟨[some (iL zs), none, some (.int (b : Int)), some (.int t), some (rP (lA t b) (lB t b)), some (rL (lT t b)), some (.list ((lT t b).map pr)), some (.list ((lT t b).map (nbP (lA t b) (lB t b)))), none, none, none, none], [some (.int (wb : Int))], some (1, l)⟩ ((defAt 46).body.drop 6) (.ret (.bool true)) := by
  have hlen : ((lT t b).map (nbP (lA t b) (lB t b))).length = (lT t b).length := by simp
  have hle := ho.tl
  have hpos : 0 < (lT t b).length := List.length_pos_iff.mpr ho.ne
  have hz : ((lT t b).map (nbP (lA t b) (lB t b))).length ≤ 1000000 := by rw [hlen]; omega
  have hal := Loop.all (prog := prog) (w := w) (H0 := H0) (mg := mg) (mb := mb) (c := lawC mg A L ad cd) (B := fun σ p σ₀ => Bind1 (lawC mg A L ad cd) σ "at" p σ₀) (body := forBody 46 6)
    (fun o : Option PV => ⟨[some (iL zs), none, some (.int (b : Int)), some (.int t), some (rP (lA t b) (lB t b)), some (rL (lT t b)), some (.list ((lT t b).map pr)), some (.list ((lT t b).map (nbP (lA t b) (lB t b)))), o, none, none, none], [some (.int (wb : Int))], some (1, l)⟩)
    ((List.range ((lT t b).length - 1)).map fun (i : Nat) => PV.int (0 + (i : Int) * 1)) (fun p hp o => by
      obtain ⟨i, hi, rfl⟩ := List.mem_map.mp hp
      rw [List.mem_range] at hi
      have e1 : (0 : Int) + (i : Int) * 1 = (i : Int) := by omega
      rw [e1]
      have hx : (lT t b)[i]? = some ((lT t b)[i]'(by omega)) := List.getElem?_eq_getElem (by omega)
      have hy : (lT t b)[i + 1]? = some ((lT t b)[i + 1]'(by omega)) := List.getElem?_eq_getElem (by omega)
      generalize (lT t b)[i]'(by omega) = x at hx
      generalize (lT t b)[i + 1]'(by omega) = y at hy
      have itx : Item (.list ((lT t b).map (nbP (lA t b) (lB t b)))) (i : Int) (nbP (lA t b) (lB t b) x) := Item.list ⟨by omega, by omega⟩ (by rw [Int.toNat_natCast, List.getElem?_map, hx]; rfl)
      have ity : Item (.list ((lT t b).map (nbP (lA t b) (lB t b)))) ((i : Int) + 1) (nbP (lA t b) (lB t b) y) := Item.list ⟨by omega, by omega⟩ (by rw [show ((i : Int) + 1).toNat = i + 1 by omega, List.getElem?_map, hy]; rfl)
      have x0 : Item (nbP (lA t b) (lB t b) x) 0 (.bool (nb (lA t b) (lB t b) x 4)) := Item.list ⟨by decide, by decide⟩ rfl
      have x1 : Item (nbP (lA t b) (lB t b) x) 1 (.bool (nb (lA t b) (lB t b) x 5)) := Item.list ⟨by decide, by decide⟩ rfl
      have y0 : Item (nbP (lA t b) (lB t b) y) 0 (.bool (nb (lA t b) (lB t b) y 4)) := Item.list ⟨by decide, by decide⟩ rfl
      have y1 : Item (nbP (lA t b) (lB t b) y) 1 (.bool (nb (lA t b) (lB t b) y 5)) := Item.list ⟨by decide, by decide⟩ rfl
      have n1 := ho.near1 i x y hx hy
      refine ⟨_, some (.int (i : Int)), Bind1.l (by mem_news) (by show (_ : Nat) ≠ _; decide), ?_⟩
      apply Exs.seq
      · repeat' nest_cls
      apply Then.next
      apply Exs.one
      by_cases hi0 : i = 0
      · apply Ex.ifF' (b := false)
        · apply EvT.boolOp
          apply EvA.andF
          apply EvT.cast
          · repeat' nest_cls
          · simp; omega
        · rfl
        · exact Exs.nil
      · have hv : (lT t b)[i - 1]? = some ((lT t b)[i - 1]'(by omega)) := List.getElem?_eq_getElem (by omega)
        generalize (lT t b)[i - 1]'(by omega) = v at hv
        have itv : Item (.list ((lT t b).map (nbP (lA t b) (lB t b)))) ((i : Int) - 1) (nbP (lA t b) (lB t b) v) := Item.list ⟨by omega, by omega⟩ (by rw [show ((i : Int) - 1).toNat = i - 1 by omega, List.getElem?_map, hv]; rfl)
        have v1 : Item (nbP (lA t b) (lB t b) v) 1 (.bool (nb (lA t b) (lB t b) v 5)) := Item.list ⟨by decide, by decide⟩ rfl
        have n2 := ho.near2 (i - 1) v x y hv (by rw [show i - 1 + 1 = i by omega]; exact hx) (by rw [show i - 1 + 2 = i + 1 by omega]; exact hy)
        have n3 : (decide ((i : Int) > 0) && ((!nb (lA t b) (lB t b) v 5) && ((!nb (lA t b) (lB t b) x 5) && ((!nb (lA t b) (lB t b) y 5) && true)))) = false := by rw [n2, Bool.and_false]
        repeat' nest_cls) none
  obtain ⟨o', hal⟩ := hal
  apply Exs.cons
  · apply Ex.forX
    · repeat' nest_cls
    · apply Runs.rng
      refine RngL.of ((lT t b).length - 1) ?_ ?_
      · exact small_up _ _ (by decide) (by rw [hlen]; omega)
      · rw [hlen, show (((lT t b).length : Nat) : Int) - 1 = (((lT t b).length - 1 : Nat) : Int) by omega]; exact size_up0 _ (by omega)
    · exact hal
    · intro _; rfl
  exact h o'
local macro_rules | `(tactic| reads_via_all) => `(tactic| first
  | ((with_reducible show CvOk _ _ _ _ _); with_reducible assumption)
  | ((with_reducible show CmpOk _ _ _ _ _ _); first | (with_reducible exact CmpOk.neR) | ((with_reducible apply CmpOk.eqNil); (with_reducible assumption)) | (with_reducible exact CmpOk.notIn))
  | ((with_reducible show EvA _ _ _ _ _ _ _ BoolOp.Or _ _); first | (with_reducible exact EvA.orNil) | (with_reducible apply EvA.or1))
  | ((with_reducible show EvA _ _ _ _ _ _ _ BoolOp.And _ _); first | (with_reducible exact EvA.andNil) | (with_reducible apply EvA.and1)))


theorem size_up1 (n : Nat) (h : n ≤ 100000) : Builtin.Range.rangeSize 1 ((n : Int) + 1) 1 = (n : Int) := by
  simp [Builtin.Range.rangeSize]
  omega
def legBody : List Stmt := match forBody 46 9 with
  | [Stmt.For _ _ b _ _] => b
  | _ => []
theorem law_rest3 (X : Env0 H0 mg mb) (zs : List Int) {t : Int} {b wb : Nat} (ho : LawOk t b) (hw : 11 ≤ wb ∧ wb ≤ 14) (l : List PV) {A : Around} {L ad : Addr} {cd : Value} (hr : Room A 9) (o : Option PV) :
    Exs prog w H0 mg mb (lawC mg A L ad cd) ⟨[some (iL zs), none, some (.int (b : Int)), some (.int t), some (rP (lA t b) (lB t b)), some (rL (lT t b)), some (.list ((lT t b).map pr)), some (.list ((lT t b).map (nbP (lA t b) (lB t b)))), o, none, none, none], [some (.int (wb : Int))], some (1, l)⟩ ((defAt 46).body.drop 7) (.ret (.bool true)) := by
  have htb := ho.tb
  have hbf : (0 : Int) ≤ (b : Int) ∧ (b : Int) < ((40 : Nat) : Int) := by omega
  have hwh := ho.wh
  have hb2 := ho.b2
  have ht2 := ho.t2
  apply Exs.consC (σ₂ := ⟨[some (iL zs), none, some (.int (b : Int)), some (.int t), some (rP (lA t b) (lB t b)), some (rL (lT t b)), some (.list ((lT t b).map pr)), some (.list ((lT t b).map (nbP (lA t b) (lB t b)))), o, some (.int (lW t b : Int)), none, none], [some (.int (wb : Int))], some (1, l)⟩)
  · apply Ex.asg
    · apply Ev.call
      · repeat' nest_cls
      · repeat' nest_cls
      · repeat' nest_cls
      · exact ok__law_divides_both (f := 40) X hr (by decide) hbf
      · repeat' nest_cls
      · repeat' nest_cls
    · repeat' nest_cls
    · repeat' nest_cls
    · repeat' nest_cls
  · rfl
  apply Exs.consC (σ₂ := ⟨[some (iL zs), none, some (.int (lB2 t b)), some (.int (lT2 t b)), some (rP (lA t b) (lB t b)), some (rL (lT t b)), some (.list ((lT t b).map pr)), some (.list ((lT t b).map (nbP (lA t b) (lB t b)))), o, some (.int (lW t b : Int)), none, none], [some (.int (wb : Int))], some (1, l)⟩)
  · repeat' nest_cls
  · rfl
  obtain ⟨n, hn⟩ := Int.eq_ofNat_of_zero_le (Int.le_of_lt hb2.1)
  have main : ∀ (u q : Int) (o1 : Option PV), 1 ≤ u → u ≤ lB2 t b → legOk t b u q → Exs prog w H0 mg mb (lawC mg A L ad cd) ⟨[some (iL zs), none, some (.int (lB2 t b)), some (.int (lT2 t b)), some (rP (lA t b) (lB t b)), some (rL (lT t b)), some (.list ((lT t b).map pr)), some (.list ((lT t b).map (nbP (lA t b) (lB t b)))), o, some (.int (lW t b : Int)), some (.int u), some (.int q)], [some (.int (wb : Int))], some (1, l)⟩ legBody
      (.next ⟨[some (iL zs), none, some (.int (lB2 t b)), some (.int (lT2 t b)), some (rP (lA t b) (lB t b)), some (rL (lT t b)), some (.list ((lT t b).map pr)), some (.list ((lT t b).map (nbP (lA t b) (lB t b)))), o, some (.int (lW t b : Int)), some (.int u), some (.int q)], [some (.int (wb : Int))], some (1, l)⟩) := by
    intro u q o1 hu1 hu2 hq
    obtain ⟨hq1, hq2⟩ := hq
    have huf : (0 : Int) ≤ u ∧ u < ((40 : Nat) : Int) := by omega
    have p1 : (lT2 t b).natAbs < 2 ^ 64 := by omega
    have p2 : q.natAbs < 2 ^ 64 := by omega
    have q1 : (lT2 t b * u).natAbs ≤ 4096 * 40 := by rw [Int.natAbs_mul]; exact Nat.mul_le_mul (by omega) (by omega)
    have q2 : (q * lB2 t b).natAbs ≤ 4096 * 40 := by rw [Int.natAbs_mul]; exact Nat.mul_le_mul (by omega) (by omega)
    have p3 : (((lT2 t b * u - q * lB2 t b).natAbs : Nat) : Int).natAbs < 2 ^ 64 := by omega
    have p4 : ((((lT2 t b * u - q * lB2 t b).natAbs : Nat) : Int) * 2).natAbs < 2 ^ 64 := by omega
    unfold legBody
    by_cases hc : (((lT2 t b * u - q * lB2 t b).natAbs : Nat) : Int) * 2 * u < lB2 t b
    · have hd : decide ((((lT2 t b * u - q * lB2 t b).natAbs : Nat) : Int) * 2 * u < lB2 t b) = true := decide_eq_true hc
      have h2 := hq2 hc
      apply Exs.seq
      · apply Ex.ifX
        · repeat' nest_cls
        · apply IfX.t hd
          apply Exs.one
          apply Ex.ifX
          · apply EvT.boolOp
            apply EvA.and1
            · apply EvT.cmpX
              · apply Ev.call
                · repeat' nest_cls
                · repeat' nest_cls
                · repeat' nest_cls
                · exact ok__law_divides_both (f := 40) X hr (by decide) huf
                · repeat' nest_cls
                · repeat' nest_cls
              all_goals repeat' nest_cls
            · repeat' nest_cls
          · exact IfX.f h2 Exs.nil
      · repeat' nest_cls
    · have hd : decide ((((lT2 t b * u - q * lB2 t b).natAbs : Nat) : Int) * 2 * u < lB2 t b) = false := decide_eq_false hc
      apply Exs.seq
      · apply Ex.ifX
        · repeat' nest_cls
        · exact IfX.f hd Exs.nil
      · repeat' nest_cls
  have hal := Loop.all (prog := prog) (w := w) (H0 := H0) (mg := mg) (mb := mb) (c := lawC mg A L ad cd) (B := fun σ p σ₀ => Bind1 (lawC mg A L ad cd) σ "under" p σ₀) (body := forBody 46 9)
    (fun o2 : Option PV × Option PV => ⟨[some (iL zs), none, some (.int (lB2 t b)), some (.int (lT2 t b)), some (rP (lA t b) (lB t b)), some (rL (lT t b)), some (.list ((lT t b).map pr)), some (.list ((lT t b).map (nbP (lA t b) (lB t b)))), o, some (.int (lW t b : Int)), o2.1, o2.2], [some (.int (wb : Int))], some (1, l)⟩)
    ((List.range n).map fun (i : Nat) => PV.int (1 + (i : Int) * 1)) (fun p hp o2 => by
      obtain ⟨i, hi, rfl⟩ := List.mem_map.mp hp
      rw [List.mem_range] at hi
      obtain ⟨o1, o2⟩ := o2
      have hu1 : 1 ≤ 1 + (i : Int) * 1 := by omega
      have hu2 : 1 + (i : Int) * 1 ≤ lB2 t b := by omega
      generalize 1 + (i : Int) * 1 = u at hu1 hu2
      obtain ⟨l1, l2⟩ := ho.leg u hu1 hu2
      have p1 : (lT2 t b).natAbs < 2 ^ 64 := by omega
      have pb : lB2 t b ≠ 0 ∧ (lB2 t b).natAbs < 2 ^ 64 := by omega
      refine ⟨_, (some (.int u), some (.int (lQ t b u + 1))), Bind1.l (by mem_news) (by show (_ : Nat) ≠ _; decide), ?_⟩
      apply Exs.one
      apply Ex.forX (l := [.int (lQ t b u), .int (lQ t b u + 1)])
      · apply Ev.tuple
        · apply EvL.cons
          · repeat' nest_cls
          · apply EvL.cons
            · repeat' nest_cls
            · repeat' nest_cls
            · repeat' nest_cls
          · repeat' nest_cls
        · exact Nat.le_of_ble_eq_true rfl
      · exact Runs.tup
      · apply Loop.cons
        · repeat' nest_cls
        · exact main u (lQ t b u) o2 hu1 hu2 l1
        · apply Loop.cons
          · repeat' nest_cls
          · exact main u (lQ t b u + 1) o2 hu1 hu2 l2
          · exact Loop.nil
      · intro _; rfl) (none, none)
  obtain ⟨o', hal⟩ := hal
  apply Exs.cons
  · apply Ex.forX
    · repeat' nest_cls
    · apply Runs.rng
      refine RngL.of n ?_ ?_
      · rw [hn]; exact small_up _ _ (by omega) (by omega)
      · rw [hn]; exact size_up1 _ (by omega)
    · exact hal
    · intro _; rfl
  repeat' nest_cls
end
end Mine
namespace Mine
def cvB : List Int → Int → Int → Int → Int → Bool
  | [], _, _, _, _ => true
  | t :: ts, p0, q0, p1, q1 => decide (t.natAbs * p1.natAbs < 2048 ∧ (t * p1).natAbs + p0.natAbs < 2048) && decide (t.natAbs * q1.natAbs < 2048 ∧ (t * q1).natAbs + q0.natAbs < 2048) && cvB ts p1 q1 (t * p1 + p0) (t * q1 + q0)
theorem cvB_ok : ∀ (ts : List Int) (p0 q0 p1 q1 : Int), cvB ts p0 q0 p1 q1 = true → CvOk ts p0 q0 p1 q1
  | [], _, _, _, _, _ => .nil
  | t :: ts, p0, q0, p1, q1, h => by
    simp only [cvB, Bool.and_eq_true, decide_eq_true_eq] at h
    exact .cons ⟨h.1.1, h.1.2⟩ (cvB_ok ts _ _ _ _ h.2)
def raB' (a : Int) (b : Nat) (c : Int) (d : Nat) : Bool :=
  decide (b ≠ 0 ∧ b < 2048) && decide (d ≠ 0 ∧ d < 2048) && decide (a.natAbs * (d / Nat.gcd b d) < 2048) && decide (c.natAbs * (b / Nat.gcd b d) < 2048) && decide ((gT a b c d).natAbs < 2048) && decide (b / Nat.gcd b d * (d / gO a b c d) < 2048)
theorem raB'_ok {a : Int} {b : Nat} {c : Int} {d : Nat} (h : raB' a b c d = true) : RaOk a b c d := by
  simp only [raB', Bool.and_eq_true, decide_eq_true_eq] at h
  obtain ⟨⟨⟨⟨⟨h1, h2⟩, h3⟩, h4⟩, h5⟩, h6⟩ := h
  exact ⟨h1, h2, h3, h4, h5, h6⟩
def nokB (a : Int) (b : Nat) (x : Int × Nat) : Bool := raB' a b (-x.1) x.2 && decide ((raT a b (-x.1) x.2).natAbs < 2 ^ 20) && decide (raB a b (-x.1) x.2 < 2 ^ 20) && decide (x.2 < 2 ^ 20)
theorem nokB_ok {a : Int} {b : Nat} {x : Int × Nat} (h : nokB a b x = true) : NOk a b x := by
  simp only [nokB, Bool.and_eq_true, decide_eq_true_eq] at h
  exact ⟨raB'_ok h.1.1.1, h.1.1.2, h.1.2, h.2⟩
def n1B (a : Int) (b : Nat) (ts : List (Int × Nat)) : Bool := (List.range ts.length).all fun i => match ts[i]?, ts[i + 1]? with
  | some x, some y => !((!nb a b x 4) && ((!nb a b y 4) && true))
  | _, _ => true
def n2B (a : Int) (b : Nat) (ts : List (Int × Nat)) : Bool := (List.range ts.length).all fun i => match ts[i]?, ts[i + 1]?, ts[i + 2]? with
  | some x, some y, some z => !((!nb a b x 5) && ((!nb a b y 5) && ((!nb a b z 5) && true)))
  | _, _, _ => true
def legB2 (T B : Int) (ts : List (Int × Nat)) (u o : Int) : Bool := !((((dv 40 o u).natAbs : Int) == 1) && ((!isIn o u ts) && true))
def legF (T B : Int) (ts : List (Int × Nat)) (t b : Nat) : Bool := (List.range b).all fun i =>
  (Nat.ble b (t * (i + 1) % b * 2 * (i + 1)) || legB2 T B ts (1 + (i : Int)) ((T * (1 + (i : Int))).fdiv B)) && (Nat.ble b ((b - t * (i + 1) % b) * 2 * (i + 1)) || legB2 T B ts (1 + (i : Int)) ((T * (1 + (i : Int))).fdiv B + 1))
theorem legF_ok {T B : Int} {ts : List (Int × Nat)} (hB : 0 < B ∧ B < 40) (hT : T.natAbs < 100) (h : legF T B ts (T % B).toNat B.toNat = true) (u : Int) (hu : 1 ≤ u ∧ u < B + 1) :
    let P := fun o : Int => o.natAbs < 4096 ∧ ((((T * u - o * B).natAbs : Int) * 2 * u < B) → ((((dv 40 o u).natAbs : Int) == 1) && ((!isIn o u ts) && true)) = false)
    P ((T * u).fdiv B) ∧ P ((T * u).fdiv B + 1) := by
  intro P
  have h1 := List.all_eq_true.mp h (u - 1).toNat (List.mem_range.mpr (by omega))
  have eu : (1 : Int) + ((u - 1).toNat : Int) = u := by omega
  have eu' : ((((u - 1).toNat + 1 : Nat)) : Int) = u := by omega
  generalize hr : (T % B).toNat * ((u - 1).toNat + 1) % B.toNat = r at h1
  have hr' : (r : Int) = (T * u).fmod B := by
    rw [← hr, Int.natCast_emod, Int.natCast_mul, eu', Int.toNat_of_nonneg (Int.emod_nonneg _ (by omega)), Int.toNat_of_nonneg (by omega), Int.fmod_eq_emod_of_nonneg _ (by omega), Int.mul_emod, Int.emod_emod, ← Int.mul_emod]
  have h2 := Int.mul_fdiv_add_fmod (T * u) B
  have hlt : (r : Int) < B ∧ 0 ≤ (r : Int) := by
    rw [hr']
    exact ⟨Int.fmod_lt_of_pos _ hB.1, Int.fmod_nonneg_of_pos _ hB.1⟩
  rw [← hr'] at h2
  simp only [Bool.and_eq_true, Bool.or_eq_true, eu] at h1
  generalize hq : (T * u).fdiv B = q at h1 h2
  have e1 : T * u - q * B = r := by rw [Int.mul_comm q B]; omega
  have e2 : T * u - (q + 1) * B = r - B := by rw [Int.add_mul, Int.mul_comm q B]; omega
  have bq : q.natAbs < 4090 := by
    have b1 : (T * u).natAbs ≤ 99 * 40 := by rw [Int.natAbs_mul]; exact Nat.mul_le_mul (by omega) (by omega)
    have b2 : (B * q).natAbs ≤ 99 * 40 + 40 := by omega
    rw [Int.natAbs_mul] at b2
    have b3 : 1 * q.natAbs ≤ B.natAbs * q.natAbs := Nat.mul_le_mul_right _ (by omega)
    omega
  have two : ∀ m : Nat, (Nat.ble B.toNat (m * 2 * ((u - 1).toNat + 1)) = true) → ¬ ((m : Int) * 2 * u < B) := by
    intro m hm hc
    have := Nat.le_of_ble_eq_true hm
    have e : ((m * 2 * ((u - 1).toNat + 1) : Nat) : Int) = (m : Int) * 2 * u := by rw [Int.natCast_mul, Int.natCast_mul, eu']; rfl
    omega
  refine ⟨⟨by omega, fun hc => ?_⟩, ⟨by omega, fun hc => ?_⟩⟩
  · rw [e1, Int.natAbs_natCast] at hc
    rcases h1.1 with h | h
    · exact absurd hc (two r h)
    · exact (Bool.not_eq_true' _).mp h
  · rw [e2, show ((r : Int) - B).natAbs = B.toNat - r by omega] at hc
    rcases h1.2 with h | h
    · exact absurd hc (two _ h)
    · exact (Bool.not_eq_true' _).mp h
def lawB' (a : Int) (b : Nat) (C : List Int) (ts : List (Int × Nat)) (W T B : Int) : Bool :=
  decide (a.natAbs < 1000 ∧ b < 40) && cvB C 0 1 1 0 && decide (ts.getLast? = some (a, b)) && ts.all (nokB a b) && n1B a b ts && n2B a b ts && decide (W ≠ 0 ∧ W.natAbs < 2 ^ 64) && decide (0 < B ∧ B < 40) && decide (T.natAbs < 100) && legF T B ts (T % B).toNat B.toNat
def lawB (t : Int) (b : Nat) : Bool := lawB' (lA t b) (lB t b) (lC t b) (lT t b) (lW t b) (lT2 t b) (lB2 t b)
theorem cf_length : ∀ (f : Nat) (a : Int) (b : Nat), (cf f a b).length ≤ f
  | 0, _, _ => by simp [cf]
  | f + 1, a, b => by
    unfold cf
    split
    · simp
    · have := cf_length f b (a % (b : Int)).toNat
      simp; omega
theorem cv_length : ∀ (ts : List Int) (p0 q0 p1 q1 : Int), (cv ts p0 q0 p1 q1).length = ts.length
  | [], _, _, _, _ => rfl
  | t :: ts, _, _, _, _ => by simp [cv, cv_length ts]
theorem lawB_ok {t : Int} {b : Nat} (h0 : t.natAbs < 1000 ∧ b ≠ 0 ∧ b < 40) (h : lawB t b = true) : LawOk t b := by
  simp only [lawB, lawB', Bool.and_eq_true, decide_eq_true_eq] at h
  obtain ⟨⟨⟨⟨⟨⟨⟨⟨⟨h1, h2⟩, h3⟩, h4⟩, h5⟩, h6⟩, h7⟩, h8⟩, h9⟩, h10⟩ := h
  have hlC : (lC t b).length ≤ 40 := cf_length _ _ _
  have hlT : (lT t b).length ≤ 40 := by unfold lT; rw [cv_length]; exact hlC
  have hne : lT t b ≠ [] := fun e => by rw [e] at h3; cases h3
  have hpos : 0 < (lT t b).length := List.length_pos_iff.mpr hne
  refine ⟨h0, h1, cvB_ok _ _ _ _ _ h2, by omega, hne, ?_, by omega, fun x hx => nokB_ok (List.all_eq_true.mp h4 x hx), fun i x y hx hy => ?_, fun i x y z hx hy hz => ?_, h7, h8, by omega, fun u hu1 hu2 => ?_⟩
  · refine Item.neg ⟨by decide, by simp; omega, by decide⟩ ?_
    rw [List.length_map, show ((-1 : Int) + ((lT t b).length : Nat)).toNat = (lT t b).length - 1 by omega, List.getElem?_map, ← List.getLast?_eq_getElem?, h3]
    rfl
  · have hi : i < (lT t b).length := (List.getElem?_eq_some_iff.mp hx).1
    have := List.all_eq_true.mp h5 i (List.mem_range.mpr hi)
    simp only [hx, hy] at this
    exact (Bool.not_eq_true' _).mp this
  · have hi : i < (lT t b).length := (List.getElem?_eq_some_iff.mp hx).1
    have := List.all_eq_true.mp h6 i (List.mem_range.mpr hi)
    simp only [hx, hy, hz] at this
    exact (Bool.not_eq_true' _).mp this
  · exact legF_ok h8 h9 h10 u ⟨hu1, by omega⟩
theorem p5 : (List.range 120).all (fun i => lawB ((i : Int) - 40) 5) = true := by decide +kernel
theorem p6 : (List.range 120).all (fun i => lawB ((i : Int) - 40) 6) = true := by decide +kernel
theorem p7 : (List.range 120).all (fun i => lawB ((i : Int) - 40) 7) = true := by decide +kernel
theorem p8 : (List.range 120).all (fun i => lawB ((i : Int) - 40) 8) = true := by decide +kernel
theorem p9 : (List.range 120).all (fun i => lawB ((i : Int) - 40) 9) = true := by decide +kernel
theorem p10 : (List.range 120).all (fun i => lawB ((i : Int) - 40) 10) = true := by decide +kernel
theorem p11 : (List.range 120).all (fun i => lawB ((i : Int) - 40) 11) = true := by decide +kernel
theorem p12 : (List.range 120).all (fun i => lawB ((i : Int) - 40) 12) = true := by decide +kernel
theorem p13 : (List.range 120).all (fun i => lawB ((i : Int) - 40) 13) = true := by decide +kernel
theorem p14 : (List.range 120).all (fun i => lawB ((i : Int) - 40) 14) = true := by decide +kernel
theorem p15 : (List.range 120).all (fun i => lawB ((i : Int) - 40) 15) = true := by decide +kernel
theorem p16 : (List.range 120).all (fun i => lawB ((i : Int) - 40) 16) = true := by decide +kernel
theorem p17 : (List.range 120).all (fun i => lawB ((i : Int) - 40) 17) = true := by decide +kernel
theorem p18 : (List.range 120).all (fun i => lawB ((i : Int) - 40) 18) = true := by decide +kernel
theorem p19 : (List.range 120).all (fun i => lawB ((i : Int) - 40) 19) = true := by decide +kernel
theorem p20 : (List.range 120).all (fun i => lawB ((i : Int) - 40) 20) = true := by decide +kernel
theorem p21 : (List.range 120).all (fun i => lawB ((i : Int) - 40) 21) = true := by decide +kernel
theorem p22 : (List.range 120).all (fun i => lawB ((i : Int) - 40) 22) = true := by decide +kernel
theorem p23 : (List.range 120).all (fun i => lawB ((i : Int) - 40) 23) = true := by decide +kernel
theorem p24 : (List.range 120).all (fun i => lawB ((i : Int) - 40) 24) = true := by decide +kernel
theorem p25 : (List.range 120).all (fun i => lawB ((i : Int) - 40) 25) = true := by decide +kernel
theorem p26 : (List.range 120).all (fun i => lawB ((i : Int) - 40) 26) = true := by decide +kernel
theorem p27 : (List.range 120).all (fun i => lawB ((i : Int) - 40) 27) = true := by decide +kernel
theorem p28 : (List.range 120).all (fun i => lawB ((i : Int) - 40) 28) = true := by decide +kernel
theorem p29 : (List.range 120).all (fun i => lawB ((i : Int) - 40) 29) = true := by decide +kernel
theorem law_all (n1 n2 : Nat) (h1 : n1 < 25) (h2 : n2 < 120) : LawOk ((n2 : Int) - 40) (5 + n1) := by
  refine lawB_ok (by omega) ?_
  match n1, h1 with
  | 0, _ => exact List.all_eq_true.mp p5 n2 (List.mem_range.mpr h2)
  | 1, _ => exact List.all_eq_true.mp p6 n2 (List.mem_range.mpr h2)
  | 2, _ => exact List.all_eq_true.mp p7 n2 (List.mem_range.mpr h2)
  | 3, _ => exact List.all_eq_true.mp p8 n2 (List.mem_range.mpr h2)
  | 4, _ => exact List.all_eq_true.mp p9 n2 (List.mem_range.mpr h2)
  | 5, _ => exact List.all_eq_true.mp p10 n2 (List.mem_range.mpr h2)
  | 6, _ => exact List.all_eq_true.mp p11 n2 (List.mem_range.mpr h2)
  | 7, _ => exact List.all_eq_true.mp p12 n2 (List.mem_range.mpr h2)
  | 8, _ => exact List.all_eq_true.mp p13 n2 (List.mem_range.mpr h2)
  | 9, _ => exact List.all_eq_true.mp p14 n2 (List.mem_range.mpr h2)
  | 10, _ => exact List.all_eq_true.mp p15 n2 (List.mem_range.mpr h2)
  | 11, _ => exact List.all_eq_true.mp p16 n2 (List.mem_range.mpr h2)
  | 12, _ => exact List.all_eq_true.mp p17 n2 (List.mem_range.mpr h2)
  | 13, _ => exact List.all_eq_true.mp p18 n2 (List.mem_range.mpr h2)
  | 14, _ => exact List.all_eq_true.mp p19 n2 (List.mem_range.mpr h2)
  | 15, _ => exact List.all_eq_true.mp p20 n2 (List.mem_range.mpr h2)
  | 16, _ => exact List.all_eq_true.mp p21 n2 (List.mem_range.mpr h2)
  | 17, _ => exact List.all_eq_true.mp p22 n2 (List.mem_range.mpr h2)
  | 18, _ => exact List.all_eq_true.mp p23 n2 (List.mem_range.mpr h2)
  | 19, _ => exact List.all_eq_true.mp p24 n2 (List.mem_range.mpr h2)
  | 20, _ => exact List.all_eq_true.mp p25 n2 (List.mem_range.mpr h2)
  | 21, _ => exact List.all_eq_true.mp p26 n2 (List.mem_range.mpr h2)
  | 22, _ => exact List.all_eq_true.mp p27 n2 (List.mem_range.mpr h2)
  | 23, _ => exact List.all_eq_true.mp p28 n2 (List.mem_range.mpr h2)
  | 24, _ => exact List.all_eq_true.mp p29 n2 (List.mem_range.mpr h2)
  | n + 25, h => omega
end Mine

namespace Mine
section
variable {prog : Program} {w : World} {H0 : Heap} {mg mb : Str → Option Value}
theorem fmod_range (a : Int) (m : Nat) (hm : 0 < m) : 0 ≤ a.fmod m ∧ a.fmod m < m := by
  rw [Int.fmod_eq_emod_of_nonneg _ (by omega)]
  exact ⟨Int.emod_nonneg _ (by omega), Int.emod_lt_of_pos _ (by omega)⟩
theorem nx_range (ns : List Int) (i m : Nat) (hm : 0 < m) : ∃ n : Nat, nx ns i m = (n : Int) ∧ n < m := by
  have h : 0 ≤ nx ns i m ∧ nx ns i m < m := by
    unfold nx
    split
    · exact fmod_range _ m hm
    · exact fmod_range _ m hm
  obtain ⟨n, hn⟩ := Int.eq_ofNat_of_zero_le h.1
  exact ⟨n, hn, by omega⟩

theorem reps_ints {K : PM} : ∀ {ws : List Value} {zs : List Int}, IntsAre ws zs → Reps K ws (zs.map .int)
  | _, _, .nil => .nil
  | _, _, .cons n t h => .cons (.int n t) (reps_ints h)

theorem law_call {s : Shared} {fa a : Addr} {o : Obj} {pm doc c' : Value} {ws : List Value} {zs : List Int} {R : Result → Shared → Prop} {A : Around} (X : Env0 s.heap mg mb) (ho : s.heap.get? fa = some o) (hd : o.data = .func (docDef (defAt 46).name (defAt 46).params (defAt 46).body (defAt 46).scope pm c' doc)) (hcd : s.heap.CodeRec c' (defAt 46).name)
    (hL : s.heap.IsList a ws.toArray) (hI : IntsAre ws zs) (hz : zs.length ≤ 900) (hA : Room A 10)
    (hR : ∀ h' tk, (∀ b o, s.heap.get? b = some o → h'.get? b = some o) → R (.ok (.ret (.bool true))) { s with heap := h', toks := tk }) :
    codeAny (model prog w) A (.call (.ref fa) ⟨[.ref a], []⟩) R s := by
  obtain ⟨n0, e0, h0⟩ := nx_range ((zs.take 4).map fun z => (z.natAbs : Int)) 0 4 (by decide)
  obtain ⟨n1, e1, h1⟩ := nx_range ((zs.take 4).map fun z => (z.natAbs : Int)) 1 25 (by decide)
  obtain ⟨n2, e2, h2⟩ := nx_range ((zs.take 4).map fun z => (z.natAbs : Int)) 2 120 (by decide)
  have LO := law_all n1 n2 h1 h2
  have G := X.G
  have hg : ∀ p ∈ lawGl mg, GlRes mg p := List.forall_mem_cons.mpr ⟨gl__law_next X, List.forall_mem_cons.mpr ⟨gl_r_make X, List.forall_mem_cons.mpr ⟨gl__law_signed X, List.forall_mem_cons.mpr ⟨gl_divrem_school X, List.forall_mem_cons.mpr ⟨gl_convergents X, List.forall_mem_cons.mpr ⟨gl_continued X, List.forall_mem_cons.mpr ⟨gl_mul_school X, List.forall_mem_cons.mpr ⟨gl__law_near X, List.forall_mem_cons.mpr ⟨gl__law_divides_both X, List.forall_mem_cons.mpr ⟨X.range, List.forall_mem_cons.mpr ⟨X.len, List.forall_mem_cons.mpr ⟨X.abs, List.forall_mem_nil _⟩⟩⟩⟩⟩⟩⟩⟩⟩⟩⟩⟩
  have Rl : Rep s.heap.get? (.ref a) (iL zs) := by
    obtain ⟨oL, q1, q2, n, q3⟩ := hL
    exact .list q1 q2 q3 (reps_ints hI)
  have R1 : Reps s.heap.get? [.ref a] [iL zs] := .cons Rl .nil
  refine call_cells_ret (name := (defAt 46).name) (params := (defAt 46).params) (body := (defAt 46).body) (scope := (defAt 46).scope) (pm := pm) (cd := c') (doc := doc) (binds := (["script"] : List Str).zip [Value.ref a]) (by have := hA.depth; unfold recursionLimit; omega) ho hd G.nolimit hcd
    ((fn_law (mg := mg)).bind _ _ _ _ rfl) (fun x hx => ?_) (fun h₁ tk hF XC => ?_) rfl rfl rfl
  · rcases List.mem_cons.mp hx with rfl | hx
    · exact .inl rfl
    · cases hx
  · have room : Room (A.deeper (envOfC (defAt 46).name (defAt 46).scope s.heap.objs.size fa c')) 9 := ⟨hA.handled, by show A.depth + 1 + 9 ≤ 900; have := hA.depth; omega, by show A.units + 3 + 8 * 9 ≤ 900; have := hA.units; omega⟩
    have S := St.first (tk := tk) (k := 9) (v := [some (iL zs), none, none, none, none, none, none, none, none, none, none, none]) (cel := [none]) G fn_law hg (fun _ _ e => e) (fun _ _ e => e) R1 rfl room (fun i x p h1 h2 => by
      match i, h1, h2 with
      | 0, h1, h2 => cases h1; cases h2; exact ⟨0, rfl, rfl⟩
      | i + 1, h1, h2 =>
        have : ([none, none, none, none, none, none, none, none, none, none, none] : List (Option PV))[i]? = some (some p) := by simpa using h2
        have := List.mem_of_getElem? this
        simp at this) (fun i x p h1 h2 => by
      match i, h1, h2 with
      | 0, h1, h2 => cases h2
      | i + 1, h1, h2 => simp at h2) hF XC
    have run : Exs prog w s.heap mg mb (lawC mg (A.deeper (envOfC (defAt 46).name (defAt 46).scope s.heap.objs.size fa c')) s.heap.objs.size fa c') ⟨[some (iL zs), none, none, none, none, none, none, none, none, none, none, none], [none], none⟩ (defAt 46).body (.ret (.bool true)) := by
      refine law_start X zs _ rfl hz e0 e1 e2 room rfl fun l => ?_
      have hw : 11 ≤ 11 + n0 ∧ 11 + n0 ≤ 14 := by omega
      refine law_rest1 X zs LO hw l room ?_
      refine law_rest2 X zs LO hw l room fun o => ?_
      exact law_rest3 X zs LO hw l room o
    refine wpAny_mono (run.run _ _ _ _ S) (fun f s' q => ?_) fun _ _ f => f
    obtain ⟨v, K', h', tk', rfl, rfl, G', R'⟩ := q
    cases R'
    exact hR h' tk' G'.keep
end
end Mine

namespace Mine
theorem law_call_all : LawCall := fun _ _ _ _ _ _ _ _ _ _ _ _ _ _ _ X ho hd hcd hL hI hz hA hR => law_call X ho hd hcd hL hI hz hA hR
end Mine
theorem PySem.Challenge.cw_xm0443_01_holds : PySem.Challenge.rw_xm0443_01.Holds :=
  Mine.of_call Mine.law_call_all

