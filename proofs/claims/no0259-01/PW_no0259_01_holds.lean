import PyProof.Rows.All
import Wide.All
import OpenK.AllK
import Wide.FinOn
import PyProof.RulesAssignMore
import KE.KItem
import KE.KAssignIn
import KE.KLcFree
import PyProof.IsiPairs
import PyProof.IsiHeapPairs
import PyProof.Rows.EqDataRows
import PyProof.ExcInit
import PyProof.ExcClass3
import PyProof.StationsW
import PyProof.ExcAttrAll.Exception
import PyProof.InstStore
import PyProof.InstStoreFacts
import PyProof.ExcBaseAll.Exception
import KE.KFromBytes
import OpenK.KRaise
import KE.KIntText
import KE.KLam
import KE.KTryDeep
import PySem.Challenge.RW_no0259_01
open PySem PySem.W PySem.Calls PyProof.Rows PySem.Spec
set_option maxRecDepth 100000
set_option Elab.async false
set_option linter.all false
set_option compiler.extract_closed false
section
set_option maxHeartbeats 8000000
namespace Mine
theorem sd1 : namesResolve PySem.Challenge.rw_no0259_01.row.prog = true := by decide +kernel
theorem sd2 : noRoadLSs { strict := !(importedModules PySem.Challenge.rw_no0259_01.row.prog.main.body).all cThrough.contains, foot := none, bare := (["vars", "dir", "locals"] : List Str).filter (readsOut PySem.Challenge.rw_no0259_01.row.prog PySem.Challenge.rw_no0259_01.row.prog.main.body) } PySem.Challenge.rw_no0259_01.row.prog.main.body = true := by decide +kernel
theorem sd3 : namesMeet PySem.Challenge.rw_no0259_01.row.prog PySem.Challenge.rw_no0259_01.row.prog.main.body (fun _ n => attrL n) = true := by decide +kernel
theorem sd4 : looksOpen PySem.Challenge.rw_no0259_01.row.prog = true := by
  unfold looksOpen
  rw [sd1, sd2, sd3]
  decide +kernel
theorem sd5 : PySem.Challenge.rw_no0259_01.row.wellSaid = true := by
  unfold OpenRow.wellSaid OpenRow.partSaid
  rw [sd4]
  decide +kernel
theorem sd6 : namesMeet PySem.Challenge.rw_no0259_01.prog PySem.Challenge.rw_no0259_01.footing (fun sc n => (!(["type", "isinstance", "issubclass", "getattr", "hasattr"] : List Str).contains n || sc.names.lookup n == some .globalImplicit) &&
    (PySem.Challenge.rw_no0259_01.may != some n || sc.kind == .module || sc.names.lookup n == some .globalImplicit)) = true := by decide +kernel
theorem said : PySem.Challenge.rw_no0259_01.wellSaid = true := by
  unfold OpenLaw.wellSaid
  rw [sd5, sd6]
  decide +kernel
noncomputable def vw : Program := view PySem.Challenge.pw_no0259_01 [1, 2, 3, 4, 5, 6, 7, 8, 9, 11, 12, 13, 14, 15, 16, 17, 19, 20, 21, 22, 23, 24, 25, 26, 27, 28, 29, 30, 31, 32, 33, 34, 36, 37, 38, 39, 40, 41, 42, 43, 44, 45, 46, 47, 48, 49, 50, 52, 54, 55, 56, 57, 58, 59, 60, 61, 62]
theorem holds_two {r : OpenRow} {q : Program} {loose : List Str} {Xt : Shared → Bool} {XP : (Str → Option Value) → Heap → Prop} {α : Type} {Yf : Shared → α} {Ya : World → α} {YP : World → Heap → Prop} {d : DefRec} {kwd : List (Str × PySem.Expr)} {N : Nat}
    (hY : ∀ w s, Yf s = Ya w → YP w s.heap) (hYk : ∀ w h h', YP w h → (∀ b o, h.get? b = some o → h'.get? b = some o) → YP w h')
    (hX : ∀ s, Xt s = true → XP (s.heap.nsMap mainGlobals) s.heap) (hXk : ∀ mg h h', XP mg h → (∀ b o, h.get? b = some o → h'.get? b = some o) → XP mg h')
    (hdef : defOf q r.name = some (d, kwd)) (hp : r.prog.theDef r.name = some (d.params, d.body, d.scope)) (hk : kwWritten? d.params.kwonlyargs d.params.kw_defaults = some kwd) (hRf : ∀ s, Xt s = true → RecFacts r.records s.heap) (hwr : (!r.writes || r.records.isEmpty) = true)
    (k1 : r.wellSaid = true) (ok : (chainsOk q && opensWell r.prog && (frees r.toRowW && r.within.isEmpty)) = true) (hb : r.prog.bare) (hw : r.toRowW.promised)
    (both : LeftO r.prog q loose Xt Yf Ya N ∧ WalkO q loose XP YP r.toRowW d kwd fun f vs => PySem.call f vs) : r.Holds :=
  holds_open both.1 hY hYk hX hXk hdef hp hk hRf hwr k1 ok hb hw both.2
theorem left_of_run {p q : Program} {loose : List Str} {Xt : Shared → Bool} {α : Type} {Yf : Shared → α} {Ya : World → α} {N : Nat} {g0 : Bool} {H₀ : Params → Heap} {gs₀ : Array GenState} {d₀ : Drawn} {k₀ : Nat} {m₀ : Nat} {ann : Option Value}
    (open_ : ∀ w : World, (fencedOpening treeTable p w N).map (fun s => (s.heap, s.gens, s.drawn, s.toks)) = some (H₀ w.params, gs₀, d₀, k₀))
    (size : ∀ w : World, ((H₀ w.params).isNs mainGlobals && gs₀.size == 0, (H₀ w.params).objs.size, (H₀ w.params).nsMap mainGlobals "__annotations__") = (true, m₀, ann))
    (run1 : ∀ (w : World) (os : OsState), (topRun treeTable p w m₀ ann N ⟨H₀ w.params, gs₀, d₀, k₀, os⟩ (topStub p)).map (fun s₁ => (staticsOk (importedModules p.main.body) (H₀ w.params) s₁.heap && namesBound p s₁.heap && gensDone s₁ && laidKept (H₀ w.params) s₁.heap, Yf s₁)) = some (true, Ya w))
    (run2 : ∀ (w : World) (os : OsState), (topRun treeTable p w m₀ ann N ⟨H₀ w.params, gs₀, d₀, k₀, os⟩ (topStub p)).map (fun s₁ => seen ((recsOf q).map (·.name)) (ownsOf q) [] { s₁ with gens := #[] }) = some (expectedOf q))
    (run3 : ∀ (w : World) (os : OsState), (topRun treeTable p w m₀ ann N ⟨H₀ w.params, gs₀, d₀, k₀, os⟩ (topStub p)).map (fun s₁ => (s₁.heap.bltView, s₁.heap.keysOk (looseW q loose) ((recsOf q).map (·.name)) ((litsOf q).map (·.1)) ((clssOf q (looseW q loose)).map (·.name)) && s₁.heap.accountedOkI (importedModules p.main.body) && s₁.heap.isNs mainGlobals && s₁.heap.isNs builtinsNs && tablesOk q s₁.heap && Xt s₁ && (if g0 then s₁.gens.size == 0 else !leftWithCleanup s₁.gens))) = some (bltViewBooted, true))
    (run4 : ∀ (w : World) (os : OsState), (topRun treeTable p w m₀ ann N ⟨H₀ w.params, gs₀, d₀, k₀, os⟩ (topStub p)).map (fun s₁ => (tabsOk q s₁, pinSeenD q (drecsOf q) s₁, plainSeenE q (looseW q loose) s₁, plainSeenD q loose s₁, wideSeen q s₁, clsSeenW q loose s₁)) = some (true, pinGoodD (drecsOf q), plainGoodE q (looseW q loose), plainGoodD q loose, wideGood q, clsGoodW q loose)) : LeftO p q loose Xt Yf Ya N g0 := fun w => by
  obtain ⟨⟨h, gs, d, k, os⟩, e, e'⟩ := Option.map_eq_some_iff.mp (open_ w)
  obtain ⟨rfl, rfl, rfl, rfl⟩ : h = H₀ w.params ∧ gs = gs₀ ∧ d = d₀ ∧ k = k₀ := by simpa using e'
  obtain ⟨z1, z2, z3⟩ : _ ∧ _ ∧ _ := by simpa only [Prod.mk.injEq] using size w
  obtain ⟨s₁, r, l⟩ := Option.map_eq_some_iff.mp (run1 w os)
  obtain ⟨l1, l3⟩ : _ ∧ _ := by simpa only [Prod.mk.injEq] using l
  have a2 := run2 w os
  have a3 := run3 w os
  have a4 := run4 w os
  rw [r] at a2 a3 a4
  obtain ⟨b3, c3⟩ : _ ∧ _ := by simpa only [Prod.mk.injEq] using Option.some.inj a3
  have l2 : openSeen q loose (importedModules p.main.body) Xt g0 s₁ = openGood q loose := Prod.ext (Option.some.inj a2) (Prod.ext b3 (Prod.ext c3 (Option.some.inj a4)))
  have t : topFrom treeTable p w N ⟨H₀ w.params, gs, d, k, os⟩ = some s₁ := by
    unfold topFrom
    dsimp only
    rw [z1, z2, z3, r]
    show (match staticsOk (importedModules p.main.body) (H₀ w.params) s₁.heap && namesBound p s₁.heap && gensDone s₁ && laidKept (H₀ w.params) s₁.heap with | true => _ | false => _) = _
    rw [l1]
  unfold openEnds
  rw [e]
  show (topFrom treeTable p w N _).map _ = _
  rw [t]
  exact congrArg some (Prod.ext l2 l3)
theorem t_size : ∀ w : World, ((boot_heap w.params).isNs mainGlobals && (Array.mk [] : Array GenState).size == 0, (boot_heap w.params).objs.size, (boot_heap w.params).nsMap mainGlobals "__annotations__") = (true, 11, some (.ref 6)) := fun w => by kernel_rfl
theorem t_open : ∀ w : World, (fencedOpening treeTable PySem.Challenge.pw_no0259_01 w 5486).map (fun s => (s.heap, s.gens, s.drawn, s.toks)) = some (boot_heap w.params, Array.mk [], boot_drawn, boot_toks) := boot_open (by kernel_rfl) (by decide) (fun s => by kernel_rfl)
section
local macro_rules | `(tactic| o_law) => `(tactic| refine holds_law Mine.said fun said => ?_)
local macro_rules | `(tactic| o_head $H:term) => do
  let hw := Lean.mkIdent `hw
  let hc := Lean.mkIdent `hc
  `(tactic| refine holds_two (q := Mine.vw) (loose := []) (Xt := fun s => xlAt Mine.vw [] s && recOk (PySem.Challenge.rw_no0259_01.row.records) s) (XP := XL Mine.vw []) (Yf := Hook.obs $H) (Ya := Hook.val $H) (YP := Hook.says $H) (N := 5486) (Hook.of $H) (Hook.keeps $H) (fun s e => xl_of s (Bool.and_eq_true_iff.mp e).1) XL.keeps (by rfl) (by rfl) (by rfl) (fun s e => recFacts_of (Bool.and_eq_true_iff.mp e).2) (by rfl) (by first | assumption | decide +kernel) (by decide +kernel) ⟨rfl, rfl, rfl, rfl, rfl, by decide +kernel⟩ ?$hw ?$hc)
open_top hd for PySem.Challenge.rw_no0259_01
end
theorem t_run1 : ∀ (w : World) (os : OsState), (topRun treeTable PySem.Challenge.pw_no0259_01 w 11 (some (.ref 6)) 5486 ⟨boot_heap w.params, Array.mk [], boot_drawn, boot_toks, os⟩ (topStub PySem.Challenge.pw_no0259_01)).map (fun s₁ => (staticsOk (importedModules PySem.Challenge.pw_no0259_01.main.body) (boot_heap w.params) s₁.heap && namesBound PySem.Challenge.pw_no0259_01 s₁.heap && gensDone s₁ && laidKept (boot_heap w.params) s₁.heap, ((hd.heap_1 w.params).map (·.1)).map s₁.heap.get?, [388].map s₁.heap.get?)) = some (true, (hd.heap_1 w.params).map (fun p => some p.2), [388].map fun _ => some (tabObj #[])) := fun w os => by
  rw [PySem.W.Fast.te14082659384304107361, PySem.W.Fast.te14364793385576792824]
  kernel_rfl
theorem t_run2 : ∀ (w : World) (os : OsState), (topRun treeTable PySem.Challenge.pw_no0259_01 w 11 (some (.ref 6)) 5486 ⟨boot_heap w.params, Array.mk [], boot_drawn, boot_toks, os⟩ (topStub PySem.Challenge.pw_no0259_01)).map (fun s₁ => seen ((recsOf vw).map (·.name)) (ownsOf vw) [] { s₁ with gens := #[] }) = some (expectedOf vw) := fun w os => by
  rw [PySem.W.Fast.te14082659384304107361, PySem.W.Fast.te14364793385576792824]
  kernel_rfl
theorem t_run3 : ∀ (w : World) (os : OsState), (topRun treeTable PySem.Challenge.pw_no0259_01 w 11 (some (.ref 6)) 5486 ⟨boot_heap w.params, Array.mk [], boot_drawn, boot_toks, os⟩ (topStub PySem.Challenge.pw_no0259_01)).map (fun s₁ => (s₁.heap.bltView, s₁.heap.keysOk (looseW vw []) ((recsOf vw).map (·.name)) ((litsOf vw).map (·.1)) ((clssOf vw (looseW vw [])).map (·.name)) && s₁.heap.accountedOkI (importedModules PySem.Challenge.pw_no0259_01.main.body) && s₁.heap.isNs mainGlobals && s₁.heap.isNs builtinsNs && tablesOk vw s₁.heap && (xlAt vw [] s₁ && recOk PySem.Challenge.rw_no0259_01.row.records s₁) && s₁.gens.size == 0)) = some (bltViewBooted, true) := fun w os => by
  rw [PySem.W.Fast.te14082659384304107361, PySem.W.Fast.te14364793385576792824]
  kernel_rfl
theorem t_run4 : ∀ (w : World) (os : OsState), (topRun treeTable PySem.Challenge.pw_no0259_01 w 11 (some (.ref 6)) 5486 ⟨boot_heap w.params, Array.mk [], boot_drawn, boot_toks, os⟩ (topStub PySem.Challenge.pw_no0259_01)).map (fun s₁ => (tabsOk vw s₁, pinSeenD vw (drecsOf vw) s₁, plainSeenE vw (looseW vw []) s₁, plainSeenD vw [] s₁, wideSeen vw s₁, clsSeenW vw [] s₁)) = some (true, pinGoodD (drecsOf vw), plainGoodE vw (looseW vw []), plainGoodD vw [], wideGood vw, clsGoodW vw []) := fun w os => by
  rw [PySem.W.Fast.te14082659384304107361, PySem.W.Fast.te14364793385576792824]
  kernel_rfl
theorem head_left {as : List Addr} (e : ∀ P, as = (hd.heap_1 P).map (·.1)) : LeftO PySem.Challenge.rw_no0259_01.row.prog vw [] (fun s => xlAt vw [] s && recOk PySem.Challenge.rw_no0259_01.row.records s) (Hook.obs (kmHook hd.heap_1 as e [388])) (Hook.val (kmHook hd.heap_1 as e [388])) 5486 true :=
  left_of_run t_open t_size (fun w os => by
    have h := t_run1 w os
    rw [← e w.params] at h
    exact h) t_run2 t_run3 t_run4
end Mine
end
section
namespace Mine
abbrev Led := List (Addr × Obj)
abbrev tupO (vs : List Value) (c : Nat) : Obj := { cls := .type "tuple", data := .seq vs.toArray c }
inductive AV where
  | none
  | bool (b : Bool)
  | int (i : Int)
  | str (x : Str)
  | val (v : Value)
  | tup (l : List AV)
  | obj (C : Addr) (fs : List (Str × Int))
mutual
def Rep (K : Frag) (N : Led) : AV → Value → Prop
  | .none, v => v = .none
  | .bool b, v => v = .bool b
  | .int i, v => ∃ t, v = .int i t
  | .str x, v => x.length ≤ sizeLine ∧ ∃ t, v = .str x t
  | .val u, v => v = u
  | .tup l, v => ∃ a vs c, v = .ref a ∧ ((a, tupO vs c) ∈ N ∨ K.lookup a = some (tupO vs c)) ∧ RepL K N l vs
  | .obj C fs, v => ∃ x dx es n, v = .ref x ∧ (x, instObj C dx) ∈ N ∧ (dx, dictOf es n) ∈ N ∧ ∀ nm i, fs.lookup nm = some i → ∃ t, getL nm es = some (some (.int i t))
def RepL (K : Frag) (N : Led) : List AV → List Value → Prop
  | [], vs => vs = []
  | a :: l, vs => ∃ v r, vs = v :: r ∧ Rep K N a v ∧ RepL K N l r
end
def Solid (o : Obj) : Prop := (∃ vs c, o = tupO vs c) ∨ (∃ C dx, o = instObj C dx) ∨ ∃ es n, o = dictOf es n
def TupSub (N N' : Led) : Prop := ∀ a o, Solid o → (a, o) ∈ N → (a, o) ∈ N'
theorem solid_tup {vs : List Value} {c : Nat} : Solid (tupO vs c) := .inl ⟨vs, c, rfl⟩
theorem solid_inst {C dx : Addr} : Solid (instObj C dx) := .inr (.inl ⟨C, dx, rfl⟩)
theorem solid_dict {es : List DictEntry} {n : Nat} : Solid (dictOf es n) := .inr (.inr ⟨es, n, rfl⟩)
theorem not_solid {o : Obj} (h1 : ∀ es n, o.data ≠ .dict es n) (h2 : o.data ≠ .plain) (h3 : (∀ a c, o.data ≠ .seq a c) ∨ o.cls ≠ .type "tuple") : ¬ Solid o := by
  rintro (⟨vs, c, rfl⟩ | ⟨C, dx, rfl⟩ | ⟨es, n, rfl⟩)
  · exact h3.elim (fun h => h _ _ rfl) fun h => h rfl
  · exact h2 rfl
  · exact h1 _ _ rfl
mutual
theorem Rep.mono {K : Frag} {N N' : Led} (h : TupSub N N') : ∀ {av : AV} {v : Value}, Rep K N av v → Rep K N' av v
  | .none, _, r => r
  | .bool _, _, r => r
  | .int _, _, r => r
  | .str _, _, r => r
  | .val _, _, r => r
  | .tup _, _, ⟨a, vs, c, e, hm, hl⟩ => ⟨a, vs, c, e, hm.imp (h a _ solid_tup) id, RepL.mono h hl⟩
  | .obj _ _, _, ⟨x, dx, es, n, e, h1, h2, h3⟩ => ⟨x, dx, es, n, e, h _ _ solid_inst h1, h _ _ solid_dict h2, h3⟩
theorem RepL.mono {K : Frag} {N N' : Led} (h : TupSub N N') : ∀ {l : List AV} {vs : List Value}, RepL K N l vs → RepL K N' l vs
  | [], _, r => r
  | _ :: _, _, ⟨v, r, e, h1, h2⟩ => ⟨v, r, e, Rep.mono h h1, RepL.mono h h2⟩
end
structure Gl where
  prog : Program
  w : World
  K : Frag
  p : Program
  loose : List Str
  mean : ExcName → Option Value
  mg : Str → Option Value
  mb : Str → Option Value
abbrev Pen := Option (Addr × Int × Int)
structure Sto where
  loc : List (Str × AV)
  pen : Pen
structure Fm extends Gl where
  A : Around
  A₀ : Around
  base : Heap
  outer : List Env
  g : Heap
  L : Addr
  cn : Str
  cs : Scope
  a : Addr
  cd : Value
  cl : List (Str × Addr)
  W : List Addr
  room : Nat
abbrev Fm.env (f : Fm) : Env := envX f.cn f.cs f.L f.a f.cd f.cl
structure Fm.Ok (f : Fm) : Prop where
  B : Below f.A₀ f.base f.outer f.g
  X : f.K.In f.g
  T : Top f.p f.loose f.mean f.mg f.mb f.g
  hA : f.A.frames = some (f.env :: f.outer)
  hh : f.A.handled = none
  hk : f.cs.kind = .function
  hd : f.A.depth + f.room < recursionLimit
  hu : f.A.units + 8 * f.room + 8 < cLine
  nd : ∀ x ∈ f.cs.names, (x.1 == ("__debug__" : Str)) = false ∧ (x.1 == ("__classdict__" : Str)) = false
theorem mem_of_lookup {α : Type} : ∀ {l : List (Str × α)} {y : Str} {v : α}, l.lookup y = some v → (y, v) ∈ l
  | [], _, _, e => by simp at e
  | (x, u) :: r, y, v, e => by
    rw [List.lookup_cons] at e
    by_cases h : y = x
    · subst h
      simp at e
      rw [e]; exact .head _
    · have hb : (y == x) = false := beq_eq_false_iff_ne.mpr h
      rw [hb] at e
      exact .tail _ (mem_of_lookup e)
theorem Fm.Ok.dbg {f : Fm} (O : f.Ok) {x : Str} {k : NameKind} (h : f.cs.names.lookup x = some k) : (x == ("__debug__" : Str)) = false := (O.nd _ (mem_of_lookup h)).1
theorem Fm.Ok.cld {f : Fm} (O : f.Ok) {x : Str} {k : NameKind} (h : f.cs.names.lookup x = some k) : (x == ("__classdict__" : Str)) = false := (O.nd _ (mem_of_lookup h)).2
abbrev penO (n c : Int) (t₁ t₂ : Tok) (k : Nat) : Obj := listOf #[.int n t₁, .int c t₂] k
def PenIn (N : Led) (pen : Pen) : Prop := ∀ P n c, pen = some (P, n, c) → ∃ t₁ t₂ k, (P, penO n c t₁ t₂ k) ∈ N
def At (f : Fm) (m : Str → Option Value) (N : Led) (x : Str) (av : AV) : Prop :=
  (f.cs.names.lookup x = some .local ∧ ∃ v, m x = some v ∧ Rep f.K N av v) ∨
  ((f.cs.names.lookup x = some .cell ∨ f.cs.names.lookup x = some .free) ∧ ∃ c o v, f.cl.lookup x = some c ∧ (c, o) ∈ N ∧ o.data = .cell (some v) ∧ Rep f.K N av v)
structure Inv (f : Fm) (h : Heap) (m : Str → Option Value) (N : Led) (σ : Sto) : Prop where
  F : Fr f.g f.L h m
  nw : News f.g f.L h N
  loc : ∀ x av, σ.loc.lookup x = some av → At f m N x av
  pen : PenIn N σ.pen
  penW : ∀ P n c, σ.pen = some (P, n, c) → P ∈ f.W
  mt : ∀ c ∈ f.W, ∃ o, (c, o) ∈ N ∧ ¬ Solid o
  cells : ∀ x c, f.cl.lookup x = some c → ∃ o v₀, (c, o) ∈ N ∧ o.data = .cell v₀
def Ext (f : Fm) (N N' : Led) : Prop := ∀ q ∈ N, q.1 ∉ f.W → q ∈ N'
theorem Ext.refl {f : Fm} {N : Led} : Ext f N N := fun _ h _ => h
theorem Ext.trans {f : Fm} {N N' N'' : Led} (h : Ext f N N') (h' : Ext f N' N'') : Ext f N N'' := fun q hq hw => h' q (h q hq hw) hw
theorem Ext.cons {f : Fm} {N : Led} {p : Addr × Obj} : Ext f N (p :: N) := fun _ h _ => .tail _ h
theorem News.uniq {g h : Heap} {L a : Addr} {N : Led} {o o' : Obj} (n : News g L h N) (h1 : (a, o) ∈ N) (h2 : (a, o') ∈ N) : o = o' := by
  have e1 := (n _ h1).1
  have e2 := (n _ h2).1
  exact Option.some.inj (e1.symm.trans e2)
theorem Inv.tupSub {f : Fm} {h : Heap} {m : Str → Option Value} {N N' : Led} {σ : Sto} (I : Inv f h m N σ) (E : Ext f N N') : TupSub N N' := fun a o so hm => by
  refine E _ hm fun hw => ?_
  obtain ⟨o', ho, hn⟩ := I.mt a hw
  exact hn (News.uniq I.nw ho hm ▸ so)
theorem tupSub_of {N N' : Led} (h : ∀ q ∈ N, q ∈ N') : TupSub N N' := fun _ _ _ hm => h _ hm
theorem Fr.grow {g h h' : Heap} {L : Addr} {m : Str → Option Value} (F : Fr g L h m) (k : ∀ b o, h.get? b = some o → h'.get? b = some o) : Fr g L h' m := by
  obtain ⟨⟨oL, es, ep, hL, r⟩, kk, ab⟩ := F
  exact ⟨⟨oL, es, ep, k _ _ hL, r⟩, fun b o e => k _ _ (kk b o e), ab⟩
theorem News.grow {g h h' : Heap} {L : Addr} {N : Led} (n : News g L h N) (k : ∀ b o, h.get? b = some o → h'.get? b = some o) : News g L h' N := fun p hp => ⟨k _ _ (n p hp).1, (n p hp).2⟩
theorem Inv.grow {f : Fm} {h h' : Heap} {m : Str → Option Value} {N : Led} {σ : Sto} (I : Inv f h m N σ) (k : ∀ b o, h.get? b = some o → h'.get? b = some o) : Inv f h' m N σ :=
  ⟨Fr.grow I.F k, News.grow I.nw k, I.loc, I.pen, I.penW, I.mt, I.cells⟩
theorem Inv.more {f : Fm} {h : Heap} {m : Str → Option Value} {N N' : Led} {σ : Sto} (I : Inv f h m N σ) (hN : News f.g f.L h N') (s : ∀ q ∈ N, q ∈ N') : Inv f h m N' σ :=
  ⟨I.F, hN, fun x av hx => (I.loc x av hx).imp (fun ⟨a, v, b, c⟩ => ⟨a, v, b, c.mono (tupSub_of s)⟩) (fun ⟨a, c, o, v, e1, e2, e3, e4⟩ => ⟨a, c, o, v, e1, s _ e2, e3, e4.mono (tupSub_of s)⟩),
   fun P n c e => let ⟨t₁, t₂, k, hm⟩ := I.pen P n c e; ⟨t₁, t₂, k, s _ hm⟩, I.penW, (fun c hc => let ⟨o, ho, r⟩ := I.mt c hc; ⟨o, s _ ho, r⟩), fun x c hc => let ⟨o, v₀, ho, r⟩ := I.cells x c hc; ⟨o, v₀, s _ ho, r⟩⟩
theorem genP {M : Model} {A : Around} {α : Type} {c : Sem α} {P : α → Shared → Prop} {E : Value → Shared → Prop} {s : Shared} (h : ∀ P0 : α → Shared → Prop, (∀ a s, P a s → P0 a s) → wpAny M A c P0 E s) : wpAny M A c P E s := h P fun _ _ x => x
theorem genE {M : Model} {A : Around} {α : Type} {c : Sem α} {P : α → Shared → Prop} {E : Value → Shared → Prop} {s : Shared} (h : ∀ E0 : Value → Shared → Prop, (∀ a s, E a s → E0 a s) → wpAny M A c P E0 s) : wpAny M A c P E s := h E fun _ _ x => x
theorem genC {M : Model} {A : Around} {c : Code} {R : Result → Shared → Prop} {s : Shared} (h : ∀ R0 : Result → Shared → Prop, (∀ a s, R a s → R0 a s) → codeAny M A c R0 s) : codeAny M A c R s := h R fun _ _ x => x
inductive PostV (f : Fm) (s : Shared) (m : Str → Option Value) (N : Led) (Q : AV → Sto → Prop) (v : Value) (s' : Shared) : Prop
  | mk (av : AV) (σ' : Sto) (h' : Heap) (tk' : Nat) (N' : Led) (e : s' = { s with heap := h', toks := tk' }) (I : Inv f h' m N' σ') (E : Ext f N N') (R : Rep f.K N' av v) (q : Q av σ') : PostV f s m N Q v s'
def EV (f : Fm) (e : PySem.Expr) (σ : Sto) (Q : AV → Sto → Prop) : Prop :=
  f.Ok → ∀ (E : Value → Shared → Prop) (s : Shared) (m : Str → Option Value) (N : Led), Inv f s.heap m N σ → wpAny (model f.prog f.w) f.A (eval e f.env) (PostV f s m N Q) E s
inductive PostL (f : Fm) (s : Shared) (m : Str → Option Value) (N : Led) (Q : List AV → Sto → Prop) (vs : List Value) (s' : Shared) : Prop
  | mk (avs : List AV) (σ' : Sto) (h' : Heap) (tk' : Nat) (N' : Led) (e : s' = { s with heap := h', toks := tk' }) (I : Inv f h' m N' σ') (E : Ext f N N') (R : RepL f.K N' avs vs) (q : Q avs σ') : PostL f s m N Q vs s'
def EVs (f : Fm) (pos : Pos) (es : List PySem.Expr) (σ : Sto) (Q : List AV → Sto → Prop) : Prop :=
  f.Ok → ∀ (E : Value → Shared → Prop) (s : Shared) (m : Str → Option Value) (N : Led), Inv f s.heap m N σ → wpAny (model f.prog f.w) f.A (spliced (backTo pos (starEach es f.env))) (PostL f s m N Q) E s
inductive PostB (f : Fm) (s : Shared) (m : Str → Option Value) (N : Led) (Q : Bool → Sto → Prop) (b : Bool) (s' : Shared) : Prop
  | mk (σ' : Sto) (h' : Heap) (tk' : Nat) (N' : Led) (e : s' = { s with heap := h', toks := tk' }) (I : Inv f h' m N' σ') (E : Ext f N N') (q : Q b σ') : PostB f s m N Q b s'
def TR (f : Fm) (e : PySem.Expr) (σ : Sto) (Q : Bool → Sto → Prop) : Prop :=
  f.Ok → ∀ (E : Value → Shared → Prop) (s : Shared) (m : Str → Option Value) (N : Led), Inv f s.heap m N σ → wpAny (model f.prog f.w) f.A (isTrue e f.env (eval e f.env)) (PostB f s m N Q) E s
def Op1 (f : Fm) (t : Value → Sem Value) (a r : AV) : Prop :=
  f.Ok → ∀ (E : Value → Shared → Prop) (s : Shared) (m : Str → Option Value) (N : Led) (σ : Sto) (v : Value), Inv f s.heap m N σ → Rep f.K N a v →
    wpAny (model f.prog f.w) f.A (t v) (PostV f s m N fun r' σ' => r' = r ∧ σ' = σ) E s
def Op2 (f : Fm) (t : Value → Value → Sem Value) (a b r : AV) : Prop :=
  f.Ok → ∀ (E : Value → Shared → Prop) (s : Shared) (m : Str → Option Value) (N : Led) (σ : Sto) (v u : Value), Inv f s.heap m N σ → Rep f.K N a v → Rep f.K N b u →
    wpAny (model f.prog f.w) f.A (t v u) (PostV f s m N fun r' σ' => r' = r ∧ σ' = σ) E s
section
variable {f : Fm} {M : Model} {A : Around} {s : Shared} {m : Str → Option Value} {N : Led} {E : Value → Shared → Prop}
theorem PostV.k {t : Sem Value} {Q : AV → Sto → Prop} {P : Value → Shared → Prop} (w : wpAny M A t (PostV f s m N Q) E s)
    (k : ∀ a σ h tk N₁ v, Inv f h m N₁ σ → Ext f N N₁ → Rep f.K N₁ a v → Q a σ → P v { s with heap := h, toks := tk }) : wpAny M A t P E s :=
  wpAny_mono w (fun v s' p => by
    obtain ⟨a, σ, h, tk, N₁, rfl, I, E, R, q⟩ := p
    exact k a σ h tk N₁ v I E R q) fun _ _ e => e
theorem PostV.kk {t : Sem Value} {r : AV} {σ : Sto} {P : Value → Shared → Prop} (w : wpAny M A t (PostV f s m N fun r' σ' => r' = r ∧ σ' = σ) E s)
    (k : ∀ h tk N₁ v, Inv f h m N₁ σ → Ext f N N₁ → Rep f.K N₁ r v → P v { s with heap := h, toks := tk }) : wpAny M A t P E s :=
  PostV.k w fun a σ' h tk N₁ v I E R e => k h tk N₁ v (e.2 ▸ I) E (e.1 ▸ R)
theorem PostL.k {t : Sem (List Value)} {Q : List AV → Sto → Prop} {P : List Value → Shared → Prop} (w : wpAny M A t (PostL f s m N Q) E s)
    (k : ∀ a σ h tk N₁ v, Inv f h m N₁ σ → Ext f N N₁ → RepL f.K N₁ a v → Q a σ → P v { s with heap := h, toks := tk }) : wpAny M A t P E s :=
  wpAny_mono w (fun v s' p => by
    obtain ⟨a, σ, h, tk, N₁, rfl, I, E, R, q⟩ := p
    exact k a σ h tk N₁ v I E R q) fun _ _ e => e
theorem PostB.k {t : Sem Bool} {Q : Bool → Sto → Prop} {P : Bool → Shared → Prop} (w : wpAny M A t (PostB f s m N Q) E s)
    (k : ∀ σ h tk N₁ v, Inv f h m N₁ σ → Ext f N N₁ → Q v σ → P v { s with heap := h, toks := tk }) : wpAny M A t P E s :=
  wpAny_mono w (fun v s' p => by
    obtain ⟨σ, h, tk, N₁, rfl, I, E, q⟩ := p
    exact k σ h tk N₁ v I E q) fun _ _ e => e
end
section
variable (f : Fm)
@[reducible] def kOp (t : Value → Value → Sem Value) (a : AV) (Q : AV → Sto → Prop) : AV → Sto → Prop := fun b σ => ∃ c, Op2 f t a b c ∧ Q c σ
@[reducible] def kOpT (t : Value → Value → Sem Value) (a : AV) (Q : Bool → Sto → Prop) : AV → Sto → Prop := fun b σ => ∃ c, Op2 f t a b (.bool c) ∧ Q c σ
@[reducible] def kUn (t : Value → Sem Value) (Q : AV → Sto → Prop) : AV → Sto → Prop := fun a σ => ∃ c, Op1 f t a c ∧ Q c σ
@[reducible] def kBin (r : PySem.Expr) (t : Value → Value → Sem Value) (Q : AV → Sto → Prop) : AV → Sto → Prop := fun a σ => EV f r σ (kOp f t a Q)
@[reducible] def kTst (r : PySem.Expr) (t : Value → Value → Sem Value) (Q : Bool → Sto → Prop) : AV → Sto → Prop := fun a σ => EV f r σ (kOpT f t a Q)
@[reducible] def kB (Q : AV → Sto → Prop) : Bool → Sto → Prop := fun c σ => Q (.bool c) σ
@[reducible] def kNot (Q : Bool → Sto → Prop) : Bool → Sto → Prop := fun c σ => Q (!c) σ
@[reducible] def kBool (Q : Bool → Sto → Prop) : AV → Sto → Prop := fun a σ => ∃ c, a = .bool c ∧ Q c σ
@[reducible] def kIteE (b o : PySem.Expr) (Q : AV → Sto → Prop) : Bool → Sto → Prop := fun c σ => (c = true → EV f b σ Q) ∧ (c = false → EV f o σ Q)
@[reducible] def kAnd2 (y : PySem.Expr) (Q : AV → Sto → Prop) : AV → Sto → Prop := fun a σ => ∃ c, a = .bool c ∧ (c = true → EV f y σ Q) ∧ (c = false → Q (.bool false) σ)
@[reducible] def kCons2 (Q : List AV → Sto → Prop) (a : AV) : List AV → Sto → Prop := fun l σ => Q (a :: l) σ
@[reducible] def kCons (pos : Pos) (es : List PySem.Expr) (Q : List AV → Sto → Prop) : AV → Sto → Prop := fun a σ => EVs f pos es σ (kCons2 Q a)
@[reducible] def kTup (Q : AV → Sto → Prop) : List AV → Sto → Prop := fun l σ => l.length ≤ 100 ∧ Q (.tup l) σ
end
section
variable {f : Fm} {σ : Sto} {Q : AV → Sto → Prop}
theorem PostV.of {s : Shared} {m : Str → Option Value} {N N₁ : Led} {h₁ : Heap} {tk₁ : Nat} {v : Value} {s' : Shared} (E : Ext f N N₁) (p : PostV f { s with heap := h₁, toks := tk₁ } m N₁ Q v s') : PostV f s m N Q v s' := by
  obtain ⟨av, σ', h', tk', N', e, I, E', R, q⟩ := p
  exact ⟨av, σ', h', tk', N', e, I, E.trans E', R, q⟩
theorem PostL.of {Q : List AV → Sto → Prop} {s : Shared} {m : Str → Option Value} {N N₁ : Led} {h₁ : Heap} {tk₁ : Nat} {v : List Value} {s' : Shared} (E : Ext f N N₁) (p : PostL f { s with heap := h₁, toks := tk₁ } m N₁ Q v s') : PostL f s m N Q v s' := by
  obtain ⟨av, σ', h', tk', N', e, I, E', R, q⟩ := p
  exact ⟨av, σ', h', tk', N', e, I, E.trans E', R, q⟩
theorem PostB.of {Q : Bool → Sto → Prop} {s : Shared} {m : Str → Option Value} {N N₁ : Led} {h₁ : Heap} {tk₁ : Nat} {v : Bool} {s' : Shared} (E : Ext f N N₁) (p : PostB f { s with heap := h₁, toks := tk₁ } m N₁ Q v s') : PostB f s m N Q v s' := by
  obtain ⟨σ', h', tk', N', e, I, E', q⟩ := p
  exact ⟨σ', h', tk', N', e, I, E.trans E', q⟩
theorem EV.int {i : Int} {k : Nat} {pos : Pos} (h : Q (.int i) σ) : EV f (.Constant (.int i) k pos) σ Q := fun _ _ s m N I =>
  wpAny_Constant_int ⟨.int i, σ, _, _, N, rfl, I, .refl, ⟨_, rfl⟩, h⟩
theorem EV.str {x : Str} {k : Option Str} {kk} {pos : Pos} (hx : x.length ≤ sizeLine) (h : Q (.str x) σ) : EV f (.Constant (.str x) kk pos) σ Q := fun _ _ s m N I =>
  wpAny_Constant_str ⟨.str x, σ, _, _, N, rfl, I, .refl, ⟨hx, _, rfl⟩, h⟩
theorem EV.noneC {k} {pos : Pos} (h : Q .none σ) : EV f (.Constant .none k pos) σ Q := fun _ _ s m N I =>
  wpAny_Constant_none ⟨.none, σ, _, _, N, rfl, I, .refl, rfl, h⟩
theorem EV.bool {b : Bool} {k} {pos : Pos} (h : Q (.bool b) σ) : EV f (.Constant (.bool b) k pos) σ Q := fun _ _ s m N I =>
  wpAny_Constant_bool ⟨.bool b, σ, _, _, N, rfl, I, .refl, rfl, h⟩
theorem EV.name {x : Str} {pos : Pos} {av : AV} (e : σ.loc.lookup x = some av) (h : Q av σ) : EV f (.Name x pos) σ Q := fun O _ s m N I => by
  rcases I.loc x av e with ⟨hx, v, hv, hr⟩ | ⟨hx, c, o, v, hc, hm, hdt, hr⟩
  · exact nameX_L I.F hv ⟨_, _, _, _, _, rfl, I, .refl, hr, h⟩ O.hk hx (O.dbg hx)
  · rcases hx with hx | hx
    · exact nameX_C I.nw hc hm hdt ⟨_, _, _, _, _, rfl, I, .refl, hr, h⟩ O.hk hx (O.dbg hx)
    · exact nameX_F I.nw hc hm hdt ⟨_, _, _, _, _, rfl, I, .refl, hr, h⟩ O.hk hx (O.dbg hx) (O.cld hx)
theorem topRead {f : Fm} (O : f.Ok) : TopRead f.p f.loose f.mg f.mb f.g := topRead_of O.T
theorem EV.glob {x : Str} {pos : Pos} {v : Value} {av : AV} (e : nsIn f.K mainGlobals x = some (some v)) (hx : f.cs.names.lookup x = some .globalImplicit) (r : Rep f.K [] av v) (h : Q av σ) : EV f (.Name x pos) σ Q := fun O _ s m N I =>
  nameX_K I.F O.X (topRead O) e ⟨_, _, _, _, _, rfl, I, .refl, r.mono (tupSub_of (N := []) fun _ hm => absurd hm List.not_mem_nil), h⟩ O.hk hx (O.dbg hx)
theorem EV.blt {x : Str} {pos : Pos} {v : Value} (e : nsIn f.K mainGlobals x = some Option.none) (hv : bootBuiltins x = some v) (hx : f.cs.names.lookup x = some .globalImplicit) (h : Q (.val v) σ) (hn : x ≠ "__name__" := by decide) : EV f (.Name x pos) σ Q := fun O _ s m N I =>
  nameX_B I.F O.X (topRead O) e hv hn ⟨.val v, σ, _, _, N, rfl, I, .refl, rfl, h⟩ O.hk hx (O.dbg hx)
theorem EV.binop {l r : PySem.Expr} {op : Operator} {pos : Pos} (h : EV f l σ (kBin f r (binaryOp op) Q)) : EV f (.BinOp l op r pos) σ Q := fun O E s m N I => by
  refine wpAny_BinOp (PostV.k (h O E s m N I) fun a σ₁ h₁ t₁ N₁ v I₁ E₁ R₁ q₁ => ?_)
  refine PostV.k (q₁ O E _ m N₁ I₁) fun b σ₂ h₂ t₂ N₂ u I₂ E₂ R₂ qq => ?_
  obtain ⟨c, op2, q₂⟩ := qq
  refine PostV.kk (op2 O E { s with heap := h₂, toks := t₂ } m N₂ σ₂ v u I₂ (R₁.mono (I₁.tupSub E₂)) R₂) fun h₃ t₃ N₃ w I₃ E₃ R₃ => ?_
  exact ⟨_, _, _, _, _, rfl, I₃, E₁.trans (E₂.trans E₃), R₃, q₂⟩
theorem EV.cmp {l r : PySem.Expr} {op : CmpOp} {pos : Pos} (h : EV f l σ (kTst f r (compareOp op) (kB Q))) (hm : behindInMarks op r = false := by with_unfolding_all rfl) : EV f (.Compare l [op] [r] pos) σ Q := fun O E s m N I => by
  refine wpAny_Compare1 (PostV.k (h O E s m N I) fun a σ₁ h₁ t₁ N₁ v I₁ E₁ R₁ q₁ => ?_) hm
  refine PostV.k (q₁ O E _ m N₁ I₁) fun b σ₂ h₂ t₂ N₂ u I₂ E₂ R₂ qq => ?_
  obtain ⟨c, op2, q₂⟩ := qq
  refine PostV.kk (op2 O E { s with heap := h₂, toks := t₂ } m N₂ σ₂ v u I₂ (R₁.mono (I₁.tupSub E₂)) R₂) fun h₃ t₃ N₃ w I₃ E₃ R₃ => ?_
  exact ⟨_, _, _, _, _, rfl, I₃, E₁.trans (E₂.trans E₃), R₃, q₂⟩
theorem EV.unop {x : PySem.Expr} {op : UnaryOp} {pos : Pos} (h : EV f x σ (kUn f (unaryOp op) Q)) : EV f (.UnaryOp op x pos) σ Q := fun O E s m N I => by
  refine UnaryOp_ (PostV.k (h O E s m N I) fun a σ₁ h₁ t₁ N₁ v I₁ E₁ R₁ qq => ?_)
  obtain ⟨c, op1, q₁⟩ := qq
  refine PostV.kk (op1 O E { s with heap := h₁, toks := t₁ } m N₁ σ₁ v I₁ R₁) fun h₃ t₃ N₃ w I₃ E₃ R₃ => ?_
  exact ⟨_, _, _, _, _, rfl, I₃, E₁.trans E₃, R₃, q₁⟩
theorem TR.cmp {Q : Bool → Sto → Prop} {l r : PySem.Expr} {op : CmpOp} {pos : Pos} (h : EV f l σ (kTst f r (compareOp op) Q)) (hm : behindInMarks op r = false := by with_unfolding_all rfl) : TR f (.Compare l [op] [r] pos) σ Q := fun O E s m N I => by
  refine wpAny_isTrue_Compare1 (PostV.k (h O E s m N I) fun a σ₁ h₁ t₁ N₁ v I₁ E₁ R₁ q₁ => ?_) hm
  refine PostV.k (q₁ O E _ m N₁ I₁) fun b σ₂ h₂ t₂ N₂ u I₂ E₂ R₂ qq => ?_
  obtain ⟨c, op2, q₂⟩ := qq
  refine PostV.kk (op2 O E { s with heap := h₂, toks := t₂ } m N₂ σ₂ v u I₂ (R₁.mono (I₁.tupSub E₂)) R₂) fun h₃ t₃ N₃ w I₃ E₃ R₃ => ?_
  obtain rfl : w = .bool c := R₃
  exact wpAny_truthy_bool ⟨_, _, _, _, rfl, I₃, E₁.trans (E₂.trans E₃), q₂⟩
theorem TR.val {Q : Bool → Sto → Prop} {e : PySem.Expr} (h : EV f e σ (kBool Q))
    (hp : ∀ env whole, isTrue e env whole = (do let v ← whole; standAt e.pos; holding [v] (truthy v)) := by intros; rfl) : TR f e σ Q := fun O E s m N I => by
  refine isTrue_plain (PostV.k (h O E s m N I) fun a σ₁ h₁ t₁ N₁ v I₁ E₁ R₁ qq => ?_) (hp _ _)
  obtain ⟨c, rfl, q₁⟩ := qq
  obtain rfl : v = .bool c := R₁
  exact wpAny_truthy_bool ⟨_, _, _, _, rfl, I₁, E₁, q₁⟩
theorem TR.not {Q : Bool → Sto → Prop} {e : PySem.Expr} {pos : Pos} (h : TR f e σ (kNot Q)) : TR f (.UnaryOp .Not e pos) σ Q := fun O E s m N I =>
  wpAny_isTrue_Not (wpAny_mono (h O E s m N I) (fun _ _ ⟨σ', h', tk', N', e, I', E', q⟩ => ⟨σ', h', tk', N', e, I', E', q⟩) fun _ _ e => e)
def TRs (f : Fm) (op : BoolOp) (es : List PySem.Expr) (σ : Sto) (Q : Bool → Sto → Prop) : Prop :=
  f.Ok → ∀ (E : Value → Shared → Prop) (s : Shared) (m : Str → Option Value) (N : Led), Inv f s.heap m N σ → wpAny (model f.prog f.w) f.A (allTrue op es f.env) (PostB f s m N Q) E s
theorem TR.boolop {Q : Bool → Sto → Prop} {op : BoolOp} {es : List PySem.Expr} {pos : Pos} (h : TRs f op es σ Q) : TR f (.BoolOp op es pos) σ Q := fun O E s m N I => wpAny_isTrue_BoolOp (h O E s m N I)
@[reducible] def kAnd (f : Fm) (es : List PySem.Expr) (Q : Bool → Sto → Prop) : Bool → Sto → Prop := fun b σ => (b = true → TRs f .And es σ Q) ∧ (b = false → Q false σ)
@[reducible] def kOr (f : Fm) (es : List PySem.Expr) (Q : Bool → Sto → Prop) : Bool → Sto → Prop := fun b σ => (b = false → TRs f .Or es σ Q) ∧ (b = true → Q true σ)
theorem TRs.and_nil {Q : Bool → Sto → Prop} (h : Q true σ) : TRs f .And [] σ Q := fun O E s m N I => wpAny_allTrue_And_nil ⟨_, _, _, _, rfl, I, .refl, h⟩
theorem TRs.or_nil {Q : Bool → Sto → Prop} (h : Q false σ) : TRs f .Or [] σ Q := fun O E s m N I => wpAny_allTrue_Or_nil ⟨_, _, _, _, rfl, I, .refl, h⟩
theorem TRs.and_cons {Q : Bool → Sto → Prop} {e : PySem.Expr} {es : List PySem.Expr} (h : TR f e σ (kAnd f es Q)) : TRs f .And (e :: es) σ Q := fun O E s m N I => by
  refine wpAny_allTrue_And_cons (PostB.k (h O E s m N I) fun σ₁ h₁ t₁ N₁ b I₁ E₁ q => ?_)
  cases b with
  | true => exact wpAny_mono (q.1 rfl O E _ m N₁ I₁) (fun b s₂ p₂ => PostB.of E₁ p₂) fun _ _ e => e
  | false => exact ⟨_, _, _, _, rfl, I₁, E₁, q.2 rfl⟩
theorem TRs.or_cons {Q : Bool → Sto → Prop} {e : PySem.Expr} {es : List PySem.Expr} (h : TR f e σ (kOr f es Q)) : TRs f .Or (e :: es) σ Q := fun O E s m N I => by
  refine wpAny_allTrue_Or_cons (PostB.k (h O E s m N I) fun σ₁ h₁ t₁ N₁ b I₁ E₁ q => ?_)
  cases b with
  | false => exact wpAny_mono (q.1 rfl O E _ m N₁ I₁) (fun b s₂ p₂ => PostB.of E₁ p₂) fun _ _ e => e
  | true => exact ⟨_, _, _, _, rfl, I₁, E₁, q.2 rfl⟩
theorem EV.ite {test b o : PySem.Expr} {pos : Pos} (h : TR f test σ (kIteE f b o Q)) : EV f (.IfExp test b o pos) σ Q := fun O E s m N I => by
  refine IfExp_ (PostB.k (h O E s m N I) fun σ₁ h₁ t₁ N₁ c I₁ E₁ q => ?_)
  cases c with
  | true => exact wpAny_mono (q.1 rfl O E _ m N₁ I₁) (fun b s₂ p₂ => PostV.of E₁ p₂) fun _ _ e => e
  | false => exact wpAny_mono (q.2 rfl O E _ m N₁ I₁) (fun b s₂ p₂ => PostV.of E₁ p₂) fun _ _ e => e
theorem EV.and2 {x y : PySem.Expr} {pos : Pos} (h : EV f x σ (kAnd2 f y Q)) : EV f (.BoolOp .And [x, y] pos) σ Q := fun O E s m N I => by
  refine BoolOp_and (PostV.k (h O E s m N I) fun a σ₁ h₁ t₁ N₁ v I₁ E₁ R₁ qq => ?_)
  obtain ⟨c, rfl, q⟩ := qq
  obtain rfl : v = .bool c := R₁
  refine wpAny_truthy_bool ?_
  cases c with
  | true => exact BoolOp_one (wpAny_mono (q.1 rfl O E _ m N₁ I₁) (fun b s₂ p₂ => PostV.of E₁ p₂) fun _ _ e => e)
  | false => exact ⟨.bool false, _, _, _, _, rfl, I₁, E₁, rfl, q.2 rfl⟩
theorem EVs.nil {Q : List AV → Sto → Prop} {pos : Pos} (h : Q [] σ) : EVs f pos [] σ Q := fun O E s m N I => wpAny_items_nil ⟨[], σ, _, _, N, rfl, I, .refl, rfl, h⟩
theorem EVs.cons {Q : List AV → Sto → Prop} {pos : Pos} {e : PySem.Expr} {es : List PySem.Expr} (h : EV f e σ (kCons f pos es Q))
    (he : ∀ env, starEach (e :: es) env = (false, eval e env) :: starEach es env := by intros; rfl) : EVs f pos (e :: es) σ Q := fun O E s m N I => by
  refine wpAny_items_cons (PostV.k (h O E s m N I) fun a σ₁ h₁ t₁ N₁ v I₁ E₁ R₁ q => ?_) (he _)
  refine PostL.k (q O E _ m N₁ I₁) fun l σ₂ h₂ t₂ N₂ vs I₂ E₂ R₂ q₂ => ?_
  exact ⟨a :: l, _, _, _, _, rfl, I₂, E₁.trans E₂, ⟨v, vs, rfl, R₁.mono (I₁.tupSub E₂), R₂⟩, q₂⟩
theorem EV.tuple {es : List PySem.Expr} {k : Nat} {pos : Pos} (h : EVs f pos es σ (kTup Q)) : EV f (.Tuple es k pos) σ Q := fun O E s m N I => by
  refine Tuple_ (PostL.k (h O E s m N I) fun l σ₁ h₁ t₁ N₁ vs I₁ E₁ R₁ qq => ?_)
  obtain ⟨hl, q⟩ := qq
  have len : ∀ (l : List AV) (vs : List Value), RepL f.K N₁ l vs → vs.length = l.length := by
    intro l
    induction l with
    | nil => intro vs h; have : vs = [] := h; rw [this]; rfl
    | cons a l ih => intro vs h; obtain ⟨v, r, rfl, _, h2⟩ := h; rw [List.length_cons, List.length_cons, ih r h2]
  have hlen := len l vs R₁
  refine newTuple_N I₁.F I₁.nw (fun h' F' N' => ?_) (by rw [hlen]; exact Nat.le_trans hl (by decide))
  refine ⟨.tup l, σ₁, h', _, _, rfl, ?_, E₁.trans Ext.cons, ⟨_, vs, 0, rfl, .inl (.head _), R₁.mono (tupSub_of fun q hq => .tail _ hq)⟩, q⟩
  have I' : Inv f h' m N₁ σ₁ := ⟨F', fun p hp => N' p (.tail _ hp), I₁.loc, I₁.pen, I₁.penW, I₁.mt, I₁.cells⟩
  exact I'.more N' fun q hq => .tail _ hq
end
end Mine
end
section
namespace Mine
inductive Fl where
  | next
  | ret (a : AV)
def RepF (K : Frag) (N : Led) : Fl → Flow → Prop
  | .next, fl => fl = .next
  | .ret a, fl => ∃ v, fl = .ret v ∧ Rep K N a v
inductive PostS (f : Fm) (s : Shared) (N : Led) (Q : Fl → Sto → Prop) (fl : Flow) (s' : Shared) : Prop
  | mk (φ : Fl) (σ' : Sto) (h' : Heap) (tk' : Nat) (m' : Str → Option Value) (N' : Led) (e : s' = { s with heap := h', toks := tk' }) (I : Inv f h' m' N' σ') (E : Ext f N N') (R : RepF f.K N' φ fl) (q : Q φ σ') : PostS f s N Q fl s'
def EX (f : Fm) (b : List Stmt) (σ : Sto) (Q : Fl → Sto → Prop) : Prop :=
  f.Ok → ∀ (E : Value → Shared → Prop) (s : Shared) (m : Str → Option Value) (N : Led), Inv f s.heap m N σ → wpAny (model f.prog f.w) f.A (execs b f.env) (PostS f s N Q) E s
def E1 (f : Fm) (b : Stmt) (σ : Sto) (Q : Fl → Sto → Prop) : Prop :=
  f.Ok → ∀ (E : Value → Shared → Prop) (s : Shared) (m : Str → Option Value) (N : Led), Inv f s.heap m N σ → wpAny (model f.prog f.w) f.A (exec b f.env) (PostS f s N Q) E s
def Fl.cont (f : Fm) (rest : List Stmt) (Q : Fl → Sto → Prop) : Fl → Sto → Prop
  | .next, σ => EX f rest σ Q
  | .ret a, σ => Q (.ret a) σ
def Fl.loop (J : Sto → Prop) (Q : Fl → Sto → Prop) : Fl → Sto → Prop
  | .next, σ => J σ
  | .ret a, σ => Q (.ret a) σ
def Sto.put (σ : Sto) (x : Str) (a : AV) : Sto := { σ with loc := (x, a) :: σ.loc }
def Stb (f : Fm) (x : Str) : Prop :=
  f.cs.names.lookup x = some .local ∨ (f.cs.names.lookup x = some .cell ∧ (∃ c, f.cl.lookup x = some c ∧ c ∈ f.W) ∧ ∀ y z c, f.cl.lookup y = some c → f.cl.lookup z = some c → y = z)
@[reducible] def kRet (Q : Fl → Sto → Prop) : AV → Sto → Prop := fun a σ => Q (.ret a) σ
@[reducible] def kAsg (f : Fm) (x : Str) (Q : Fl → Sto → Prop) : AV → Sto → Prop := fun a σ => Stb f x ∧ Q .next (σ.put x a)
@[reducible] def kPut (x : Str) (Q : Fl → Sto → Prop) : AV → Sto → Prop := fun a σ => Q .next (σ.put x a)
@[reducible] def kIte (f : Fm) (b o : List Stmt) (Q : Fl → Sto → Prop) : Bool → Sto → Prop := fun c σ => (c = true → EX f b σ Q) ∧ (c = false → EX f o σ Q)
theorem PostS.of {f : Fm} {Q : Fl → Sto → Prop} {s : Shared} {N N₁ : Led} {h₁ : Heap} {tk₁ : Nat} {v : Flow} {s' : Shared} (E : Ext f N N₁) (p : PostS f { s with heap := h₁, toks := tk₁ } N₁ Q v s') : PostS f s N Q v s' := by
  obtain ⟨av, σ', h', tk', m', N', e, I, E', R, q⟩ := p
  exact ⟨av, σ', h', tk', m', N', e, I, E.trans E', R, q⟩
theorem PostS.k {f : Fm} {M : Model} {A : Around} {s : Shared} {N : Led} {E : Value → Shared → Prop} {t : Sem Flow} {Q : Fl → Sto → Prop} {P : Flow → Shared → Prop} (w : wpAny M A t (PostS f s N Q) E s)
    (k : ∀ φ σ h tk m N₁ v, Inv f h m N₁ σ → Ext f N N₁ → RepF f.K N₁ φ v → Q φ σ → P v { s with heap := h, toks := tk }) : wpAny M A t P E s :=
  wpAny_mono w (fun v s' p => by
    obtain ⟨φ, σ, h, tk, m, N₁, rfl, I, E, R, q⟩ := p
    exact k φ σ h tk m N₁ v I E R q) fun _ _ e => e
section
variable {f : Fm} {σ : Sto}
theorem lookup_put {σ : Sto} {x y : Str} {a b : AV} (e : (σ.put x a).loc.lookup y = some b) : (y = x ∧ b = a) ∨ (y ≠ x ∧ σ.loc.lookup y = some b) := by
  simp only [Sto.put, List.lookup_cons] at e
  by_cases h : y = x
  · subst h; simp at e; exact .inl ⟨rfl, e.symm⟩
  · have hb : (y == x) = false := beq_eq_false_iff_ne.mpr h
    rw [hb] at e
    exact .inr ⟨h, e⟩
theorem store {Q : Unit → Shared → Prop} {E : Value → Shared → Prop} {s : Shared} {m : Str → Option Value} {N : Led} {x : Str} {a : AV} {v : Value} (O : f.Ok) (I : Inv f s.heap m N σ) (R : Rep f.K N a v) (S : Stb f x)
    (h : ∀ h' m' N' tk', Inv f h' m' N' (σ.put x a) → Ext f N N' → Q () { s with heap := h', toks := tk' }) : wpAny (model f.prog f.w) f.A (storeName f.env x v) Q E s := by
  rcases S with hx | ⟨hx, ⟨c, hc, hw⟩, inj⟩
  · refine storeX_L I.F I.nw (fun h' F' N' => h h' _ N _ ⟨F', N', fun y b e => ?_, I.pen, I.penW, I.mt, I.cells⟩ .refl) O.hk hx
    rcases lookup_put e with ⟨rfl, rfl⟩ | ⟨ne, e⟩
    · exact .inl ⟨hx, v, by simp, R⟩
    · rcases I.loc y b e with ⟨hy, u, hu, r⟩ | r
      · exact .inl ⟨hy, u, by simp [ne, hu], r⟩
      · exact .inr r
  · · obtain ⟨o, v₀, hm, hd⟩ := I.cells x c hc
      have n := I.nw _ hm
      refine wpAny_storeName_cell O.hk hx hc ⟨o, n.1, hd⟩ fun h' hv hs => ?_
      obtain ⟨o', ho', hd'⟩ := hv
      have Nn : News f.g f.L h' ((c, o') :: N.filter (fun p => p.1 != c)) := fun p hp => by
        rcases List.mem_cons.mp hp with rfl | hp
        · exact ⟨ho', n.2⟩
        · obtain ⟨hp, hne⟩ := List.mem_filter.mp hp
          have ne : p.1 ≠ c := by simpa using hne
          exact ⟨(hs.2 _ ne).trans (I.nw _ hp).1, (I.nw _ hp).2⟩
      have E' : Ext f N ((c, o') :: N.filter (fun p => p.1 != c)) := fun q hq hqw => .tail _ (List.mem_filter.mpr ⟨hq, by
        have : q.1 ≠ c := fun e => hqw (e ▸ hw)
        simpa using this⟩)
      have F' : Fr f.g f.L h' m := ⟨I.F.ns.sameBut hs (Ne.symm n.2.1), fun b ob e => (hs.2 b (fun q => by rw [q, n.2.2] at e; cases e)).trans (I.F.keep b ob e), I.F.above⟩
      have ts := I.tupSub E'
      have notc : ∀ q ∈ N, q.1 ≠ c → q ∈ (c, o') :: N.filter (fun p => p.1 != c) := fun q hq ne => .tail _ (List.mem_filter.mpr ⟨hq, by simpa using ne⟩)
      refine h h' m _ _ ⟨F', Nn, fun y b e => ?_, fun P n' c' e => ?_, I.penW, fun c' hc' => ?_, fun y c' hc' => ?_⟩ E'
      · rcases lookup_put e with ⟨rfl, rfl⟩ | ⟨ne, e⟩
        · exact .inr ⟨.inl hx, c, o', v, hc, .head _, hd', R.mono ts⟩
        · rcases I.loc y b e with ⟨hy, u, hu, r⟩ | ⟨hy, c₁, o₁, v₁, e₁, m₁, d₁, r₁⟩
          · exact .inl ⟨hy, u, hu, r.mono ts⟩
          · refine .inr ⟨hy, c₁, o₁, v₁, e₁, notc _ m₁ (fun (z : c₁ = c) => ne (inj y x c (z ▸ e₁) hc)), d₁, r₁.mono ts⟩
      · obtain ⟨t₁, t₂, k, hp⟩ := I.pen P n' c' e
        refine ⟨t₁, t₂, k, notc _ hp fun (z : P = c) => ?_⟩
        subst z
        have := News.uniq I.nw hm hp
        rw [this] at hd
        exact nomatch hd
      · by_cases z : c' = c
        · subst z
          exact ⟨o', .head _, not_solid (fun es n e => by rw [hd'] at e; exact nomatch e) (fun e => by rw [hd'] at e; exact nomatch e) (.inl fun a c e => by rw [hd'] at e; exact nomatch e)⟩
        · obtain ⟨o₁, h₁, r₁⟩ := I.mt c' hc'
          exact ⟨o₁, notc _ h₁ z, r₁⟩
      · by_cases z : c' = c
        · subst z
          exact ⟨o', _, .head _, hd'⟩
        · obtain ⟨o₁, v₁, h₁, r₁⟩ := I.cells y c' hc'
          exact ⟨o₁, v₁, notc _ h₁ z, r₁⟩
theorem EX.nil {Q : Fl → Sto → Prop} (h : Q .next σ) : EX f [] σ Q := fun O E s m N I => wpAny_execs_nil ⟨.next, σ, _, _, m, N, rfl, I, .refl, rfl, h⟩
theorem EX.cons {Q : Fl → Sto → Prop} {st : Stmt} {rest : List Stmt} (h : E1 f st σ (Fl.cont f rest Q)) : EX f (st :: rest) σ Q := fun O E s m N I => by
  refine wpAny_execs_cons (PostS.k (h O E s m N I) fun φ σ₁ h₁ t₁ m₁ N₁ fl I₁ E₁ R₁ q => ?_)
  cases φ with
  | next =>
    obtain rfl : fl = .next := R₁
    exact wpAny_mono (q O E _ m₁ N₁ I₁) (fun b s₂ p₂ => PostS.of E₁ p₂) fun _ _ e => e
  | ret a =>
    obtain ⟨v, rfl, R⟩ := R₁
    exact ⟨.ret a, σ₁, h₁, t₁, m₁, N₁, rfl, I₁, E₁, ⟨v, rfl, R⟩, q⟩
theorem Fl.go {Q : Fl → Sto → Prop} {rest : List Stmt} (h : EX f rest σ Q) : Fl.cont f rest Q .next σ := h
theorem Fl.back {Q : Fl → Sto → Prop} {rest : List Stmt} {a : AV} (h : Q (.ret a) σ) : Fl.cont f rest Q (.ret a) σ := h
theorem E1.ret {Q : Fl → Sto → Prop} {e : PySem.Expr} {pos : Pos} (h : EV f e σ (kRet Q)) : E1 f (.Return (some e) pos) σ Q := fun O E s m N I => by
  refine wpAny_Return_some (PostV.k (h O E s m N I) fun a σ₁ h₁ t₁ N₁ v I₁ E₁ R₁ q => ?_)
  exact ⟨.ret a, σ₁, _, _, m, _, rfl, I₁, E₁, ⟨v, rfl, R₁⟩, q⟩
theorem E1.assign {Q : Fl → Sto → Prop} {x : Str} {p' : Pos} {value : PySem.Expr} {pos : Pos} (h : EV f value σ (kAsg f x Q))
    (hs : ∀ env, swapsWith value (some (.Name x p')) pos.line env = pure false := by intros; rfl) : E1 f (.Assign [.Name x p'] value pos) σ Q := fun O E s m N I => by
  refine wpAny_Assign_Name (PostV.k (h O E s m N I) fun a σ₁ h₁ t₁ N₁ v I₁ E₁ R₁ qq => ?_) (hs _)
  obtain ⟨st, q⟩ := qq
  exact store O I₁ R₁ st fun h' m' N' tk' I' E' => ⟨.next, _, h', tk', m', N', rfl, I', E₁.trans E', rfl, q⟩
theorem E1.ite {Q : Fl → Sto → Prop} {test : PySem.Expr} {body orelse : List Stmt} {pos : Pos} (h : TR f test σ (kIte f body orelse Q)) : E1 f (.If test body orelse pos) σ Q := fun O E s m N I => by
  refine wpAny_If (PostB.k (h O E s m N I) fun σ₁ h₁ t₁ N₁ c I₁ E₁ q => ?_)
  cases c with
  | true => exact wpAny_mono (q.1 rfl O E _ m N₁ I₁) (fun b s₂ p₂ => PostS.of E₁ p₂) fun _ _ e => e
  | false => exact wpAny_mono (q.2 rfl O E _ m N₁ I₁) (fun b s₂ p₂ => PostS.of E₁ p₂) fun _ _ e => e
theorem E1.aug {Q : Fl → Sto → Prop} {x : Str} {p' : Pos} {op : Operator} {value : PySem.Expr} {pos : Pos} {a : AV} (e : σ.loc.lookup x = some a) (hx : f.cs.names.lookup x = some .local)
    (h : EV f value σ (kOp f (inplaceOp op) a (kPut x Q))) : E1 f (.AugAssign (.Name x p') op value pos) σ Q := fun O E s m N I => by
  refine wpAny_AugAssign_Name ?_
  have go : ∀ v, Rep f.K N a v → wpAny (model f.prog f.w) f.A (eval value f.env) (fun u s₂ => wpAny (model f.prog f.w) f.A (inplaceOp op v u) (fun r s₃ => wpAny (model f.prog f.w) f.A (storeName f.env x r) (fun _ => PostS f s N Q .next) E s₃) E s₂) E s := by
    intro v R
    refine PostV.k (h O E s m N I) fun b σ₁ h₁ t₁ N₁ u I₁ E₁ R₁ qq => ?_
    obtain ⟨c, o2, q⟩ := qq
    refine PostV.kk (o2 O E { s with heap := h₁, toks := t₁ } m N₁ σ₁ v u I₁ (R.mono (I.tupSub E₁)) R₁) fun h₂ t₂ N₂ w I₂ E₂ R₂ => ?_
    exact store O I₂ R₂ (.inl hx) fun h' m' N' tk' I' E' => ⟨.next, _, h', tk', m', N', rfl, I', E₁.trans (E₂.trans E'), rfl, q⟩
  rcases I.loc x a e with ⟨hx, v, hv, hr⟩ | ⟨hy, c, o, v, hc, hm, hdt, hr⟩
  · exact wpAny_loadName_local O.hk hx I.F.ns hv (go v hr)
  · rw [hx] at hy
    rcases hy with hy | hy <;> cases hy
theorem E1.while {Q : Fl → Sto → Prop} {test : PySem.Expr} {body : List Stmt} {pos : Pos} (J : Nat → Sto → Prop) (n : Nat) (h : J n σ)
    (step : ∀ n σ', J n σ' → TR f test σ' fun c σ₁ => (c = true → EX f body σ₁ (Fl.loop (fun σ₂ => ∃ k, k < n ∧ J k σ₂) Q)) ∧ (c = false → Q .next σ₁)) : E1 f (.While test body [] pos) σ Q := fun O E s m N I => by
  refine wpAny_While (codeAny_whileLoop (fun n s' => ∃ σ' h' tk' m' N', s' = { s with heap := h', toks := tk' } ∧ Inv f h' m' N' σ' ∧ Ext f N N' ∧ J n σ') ?_ n ⟨σ, s.heap, s.toks, m, N, rfl, I, .refl, h⟩)
  rintro n s' ⟨σ', h', tk', m', N', rfl, I', E', hJ⟩
  refine PostB.k (step n σ' hJ O _ { s with heap := h', toks := tk' } m' N' I') fun σ₁ h₁ t₁ N₁ c I₁ E₁ q => ?_
  cases c with
  | true =>
    refine PostS.k (q.1 rfl O _ { s with heap := h₁, toks := t₁ } m' N₁ I₁) fun φ σ₂ h₂ t₂ m₂ N₂ b I₂ E₂ R₂ q₂ => ?_
    cases φ with
    | next =>
      obtain rfl : b = .next := R₂
      obtain ⟨k, hk, hJ₂⟩ := q₂
      exact ⟨k, hk, σ₂, h₂, t₂, m₂, N₂, rfl, I₂, E'.trans (E₁.trans E₂), hJ₂⟩
    | ret a =>
      obtain ⟨v, rfl, R⟩ := R₂
      exact ⟨.ret a, σ₂, h₂, t₂, m₂, N₂, rfl, I₂, E'.trans (E₁.trans E₂), ⟨v, rfl, R⟩, q₂⟩
  | false => exact wpAny_execs_nil ⟨.next, σ₁, h₁, t₁, m', N₁, rfl, I₁, E'.trans E₁, rfl, q.2 rfl⟩
theorem Inv.swap {h h' : Heap} {m : Str → Option Value} {N : Led} {I : Addr} {o o' : Obj} (V : Inv f h m N σ) (hm : (I, o) ∈ N) (hs : Heap.SameBut I h h') (ho : h'.get? I = some o')
    (hW : I ∉ f.W) (h1 : ∀ v, o.data ≠ .cell v) (h2 : ¬ Solid o) : Inv f h' m ((I, o') :: N.filter (fun p => p.1 != I)) σ := by
  have n := V.nw _ hm
  have keep : ∀ q ∈ N, q.1 ≠ I → q ∈ (I, o') :: N.filter (fun p => p.1 != I) := fun q hq ne => .tail _ (List.mem_filter.mpr ⟨hq, by simpa using ne⟩)
  have ts : TupSub N ((I, o') :: N.filter (fun p => p.1 != I)) := fun a o₁ so hc => keep _ hc fun (z : a = I) => h2 (by subst z; exact News.uniq V.nw hm hc ▸ so)
  have nc : ∀ c oc v, (c, oc) ∈ N → oc.data = .cell v → c ≠ I := fun c oc v hc hd z => by subst z; exact h1 v (by rw [News.uniq V.nw hm hc]; exact hd)
  refine ⟨⟨V.F.ns.sameBut hs (Ne.symm n.2.1), fun b ob e => (hs.2 b (fun q => by rw [q, n.2.2] at e; cases e)).trans (V.F.keep b ob e), V.F.above⟩, fun p hp => ?_, fun y b e => ?_, fun P n' c' e => ?_, V.penW, fun c' hc' => ?_, fun y c' hc' => ?_⟩
  · rcases List.mem_cons.mp hp with rfl | hp
    · exact ⟨ho, n.2⟩
    · obtain ⟨hp, hne⟩ := List.mem_filter.mp hp
      have ne : p.1 ≠ I := by simpa using hne
      exact ⟨(hs.2 _ ne).trans (V.nw _ hp).1, (V.nw _ hp).2⟩
  · rcases V.loc y b e with ⟨hy, u, hu, r⟩ | ⟨hy, c₁, o₁, v₁, e₁, m₁, d₁, r₁⟩
    · exact .inl ⟨hy, u, hu, r.mono ts⟩
    · exact .inr ⟨hy, c₁, o₁, v₁, e₁, keep _ m₁ (nc _ _ _ m₁ d₁), d₁, r₁.mono ts⟩
  · obtain ⟨t₁, t₂, k, hp⟩ := V.pen P n' c' e
    exact ⟨t₁, t₂, k, keep _ hp fun (z : P = I) => hW (z ▸ V.penW P n' c' e)⟩
  · obtain ⟨o₁, k₁, r₁⟩ := V.mt c' hc'
    exact ⟨o₁, keep _ k₁ fun (z : c' = I) => hW (z ▸ hc'), r₁⟩
  · obtain ⟨o₁, v₁, k₁, r₁⟩ := V.cells y c' hc'
    exact ⟨o₁, v₁, keep _ k₁ (nc _ _ _ k₁ r₁), r₁⟩
theorem Ext.swap {N : Led} {I : Addr} {o' : Obj} {N₀ : Led} (E : Ext f N₀ N) (hI : ∀ p ∈ N₀, p.1 ≠ I) : Ext f N₀ ((I, o') :: N.filter (fun p => p.1 != I)) := fun q hq hw => .tail _ (List.mem_filter.mpr ⟨E q hq hw, by simpa using hI q hq⟩)
end
end Mine
end
section
namespace Mine
def penA : Pen → List Addr
  | none => []
  | some (P, _, _) => [P]
inductive PostC (f : Fm) (s : Shared) (m : Str → Option Value) (N : Led) (pen : Pen) (Q : AV → Pen → Prop) (v : Value) (s' : Shared) : Prop
  | mk (av : AV) (pen' : Pen) (h' : Heap) (tk' : Nat) (N' : Led) (e : s' = { s with heap := h', toks := tk' }) (F : Fr f.g f.L h' m) (n : News f.g f.L h' N') (E : ∀ q ∈ N, q.1 ∉ penA pen → q ∈ N') (p : PenIn N' pen')
    (w : ∀ P n c, pen' = some (P, n, c) → P ∈ penA pen) (R : Rep f.K N' av v) (q : Q av pen') (t : ∀ c ∈ penA pen, ∃ o, (c, o) ∈ N' ∧ ¬ Solid o) : PostC f s m N pen Q v s'
def SPEC (G : Gl) (need : Nat) (fa : Addr) (args : List AV) (pen : Pen) (Q : AV → Pen → Prop) : Prop :=
  ∀ (f : Fm), f.toGl = G → f.Ok → need + 1 ≤ f.room → ∀ (E : Value → Shared → Prop) (s : Shared) (m : Str → Option Value) (N : Led) (vs : List Value),
    Fr f.g f.L s.heap m → News f.g f.L s.heap N → RepL f.K N args vs → PenIn N pen → wpAny (model f.prog f.w) f.A (call (.ref fa) vs) (PostC f s m N pen Q) E s
@[reducible] def kPen (Q : AV → Sto → Prop) (σ : Sto) : AV → Pen → Prop := fun r p => Q r { σ with pen := p }
@[reducible] def kCall (f : Fm) (fa : Addr) (Q : AV → Sto → Prop) : List AV → Sto → Prop := fun avs σ => ∃ need, need + 1 ≤ f.room ∧ SPEC f.toGl need fa avs σ.pen (kPen Q σ)
theorem SPEC.mono {G : Gl} {need : Nat} {fa : Addr} {args : List AV} {pen : Pen} {Q Q' : AV → Pen → Prop} (h : SPEC G need fa args pen Q) (hq : ∀ a p, Q a p → Q' a p) : SPEC G need fa args pen Q' :=
  fun f e O r E s m N vs F n R P => wpAny_mono (h f e O r E s m N vs F n R P) (fun v s' ⟨av, pen', h', tk', N', a1, a2, a3, a4, a5, a6, a7, a8, a9⟩ => ⟨av, pen', h', tk', N', a1, a2, a3, a4, a5, a6, a7, hq _ _ a8, a9⟩) fun _ _ e => e
theorem penO_ne {n c : Int} {t₁ t₂ : Tok} {k : Nat} : ¬ Solid (penO n c t₁ t₂ k) :=
  not_solid (fun es n e => nomatch e) (fun e => nomatch e) (.inr fun e => absurd e (by show Value.type "list" ≠ Value.type "tuple"; intro q; injection q with q; exact absurd q (by decide)))
section
variable {f : Fm} {σ : Sto} {Q : AV → Sto → Prop}
theorem EV.call {x : Str} {np pos : Pos} {e : PySem.Expr} {es : List PySem.Expr} {fa : Addr} (hn : nsIn f.K mainGlobals x = some (some (.ref fa))) (hx : f.cs.names.lookup x = some .globalImplicit) (hk : keepIn f.K (.ref fa) = true)
    (h : EVs f pos (e :: es) σ (kCall f fa Q))
    (he : ∀ env, starEach (e :: es) env = (false, eval e env) :: starEach es env := by intros; rfl) (hplain : ∀ env, (backTo pos (starEach es env)).any (·.1) = false := by intros; rfl)
    (hc : ∀ env, eval (.Call (.Name x np) (e :: es) [] pos) env = (do let fv ← eval (.Name x np) env; callWith pos fv [] (backTo pos (starEach (e :: es) env)) (backToKw pos (keywordEach [] env))) := by intros; rfl) : EV f (.Call (.Name x np) (e :: es) [] pos) σ Q := fun O E s m N I => by
  refine Call_ (nameX_K I.F O.X (topRead O) hn ?_ O.hk hx (O.dbg hx)) (hc _)
  refine callWith_K O.X hk (PostL.k (h O E s m N I) fun l σ₁ h₁ t₁ N₁ vs I₁ E₁ R₁ qq => ?_) (he _) (hplain _)
  obtain ⟨need, hr, sp⟩ := qq
  refine ⟨O.X.keeps I₁.F.keep, ?_⟩
  refine wpAny_mono (sp f rfl O hr E { s with heap := h₁, toks := t₁ } m N₁ vs I₁.F I₁.nw R₁ I₁.pen) (fun v s₂ p₂ => ?_) fun _ _ e => e
  obtain ⟨av, pen', h₂, t₂, N₂, rfl, F₂, n₂, ext, pi, pt, R₂, q, mt⟩ := p₂
  have sub : ∀ P ∈ penA σ₁.pen, P ∈ f.W := fun P hP => by
    cases hp : σ₁.pen with
    | none => rw [hp] at hP; cases hP
    | some x =>
      obtain ⟨P', n, c⟩ := x
      rw [hp] at hP
      obtain rfl : P = P' := List.mem_singleton.mp hP
      exact I₁.penW _ _ _ hp
  have E₂ : Ext f N₁ N₂ := fun q hq hw => ext q hq fun z => hw (sub _ z)
  have ts : TupSub N₁ N₂ := I₁.tupSub E₂
  have ncell : ∀ c o v, (c, o) ∈ N₁ → o.data = .cell v → c ∉ penA σ₁.pen := fun c o v hm hd z => by
    cases hp : σ₁.pen with
    | none => rw [hp] at z; cases z
    | some x =>
      obtain ⟨P', n, c'⟩ := x
      rw [hp] at z
      obtain rfl : c = P' := List.mem_singleton.mp z
      obtain ⟨_, _, _, hm'⟩ := I₁.pen _ _ _ hp
      rw [News.uniq I₁.nw hm hm'] at hd
      exact nomatch hd
  refine ⟨av, { σ₁ with pen := pen' }, h₂, t₂, N₂, rfl, ⟨F₂, n₂, fun y b e => ?_, pi, fun P n c e => sub _ (pt P n c e), fun c hc => ?_, fun y c hc => ?_⟩, E₁.trans E₂, R₂, q⟩
  · rcases I₁.loc y b e with ⟨hy, u, hu, r⟩ | ⟨hy, c₁, o₁, v₁, e₁, m₁, d₁, r₁⟩
    · exact .inl ⟨hy, u, hu, r.mono ts⟩
    · exact .inr ⟨hy, c₁, o₁, v₁, e₁, ext _ m₁ (ncell _ _ _ m₁ d₁), d₁, r₁.mono ts⟩
  · by_cases z : c ∈ penA σ₁.pen
    · exact mt c z
    · obtain ⟨o, ho, r⟩ := I₁.mt c hc
      exact ⟨o, ext _ ho z, r⟩
  · obtain ⟨o, v, ho, r⟩ := I₁.cells y c hc
    exact ⟨o, v, ext _ ho (ncell _ _ _ ho r), r⟩
def Bi (f : Fm) (σ : Sto) (t : List Value → Sem Value) (avs : List AV) (r : AV) : Prop :=
  f.Ok → ∀ (E : Value → Shared → Prop) (s : Shared) (m : Str → Option Value) (N : Led) (vs : List Value), Inv f s.heap m N σ → RepL f.K N avs vs → wpAny (model f.prog f.w) f.A (t vs) (PostV f s m N fun r' σ' => r' = r ∧ σ' = σ) E s
@[reducible] def kBi (f : Fm) (t : List Value → Sem Value) (Q : AV → Sto → Prop) : List AV → Sto → Prop := fun avs σ => ∃ r, Bi f σ t avs r ∧ Q r σ
@[reducible] def bltT (id : String) : List Value → Sem Value := fun vs => PySem.call (.builtin id) vs
@[reducible] def typT (id : String) : List Value → Sem Value := fun vs => PySem.call (.type id) vs
theorem EV.callB {x : Str} {np pos : Pos} {e : PySem.Expr} {es : List PySem.Expr} {id : String} (hn : nsIn f.K mainGlobals x = some Option.none) (hv : bootBuiltins x = some (.builtin id)) (hx : f.cs.names.lookup x = some .globalImplicit)
    (h : EVs f pos (e :: es) σ (kBi f (bltT id) Q))
    (hnn : x ≠ "__name__" := by decide)
    (he : ∀ env, starEach (e :: es) env = (false, eval e env) :: starEach es env := by intros; rfl) (hplain : ∀ env, (backTo pos (starEach es env)).any (·.1) = false := by intros; rfl)
    (hc : ∀ env, eval (.Call (.Name x np) (e :: es) [] pos) env = (do let fv ← eval (.Name x np) env; callWith pos fv [] (backTo pos (starEach (e :: es) env)) (backToKw pos (keywordEach [] env))) := by intros; rfl) : EV f (.Call (.Name x np) (e :: es) [] pos) σ Q := fun O E s m N I => by
  refine Call_ (nameX_B I.F O.X (topRead O) hn hv hnn ?_ O.hk hx (O.dbg hx)) (hc _)
  refine PyProof.Rows.callWith_builtin1 (PostL.k (h O E s m N I) fun l σ₁ h₁ t₁ N₁ vs I₁ E₁ R₁ qq => ?_) (he _) (hplain _)
  obtain ⟨r, op, q⟩ := qq
  refine PostV.kk (op O E { s with heap := h₁, toks := t₁ } m N₁ vs I₁ R₁) fun h₂ t₂ N₂ v I₂ E₂ R₂ => ?_
  exact ⟨_, _, _, _, _, rfl, I₂, E₁.trans E₂, R₂, q⟩
theorem EV.callT {x : Str} {np pos : Pos} {e : PySem.Expr} {es : List PySem.Expr} {id : String} (hn : nsIn f.K mainGlobals x = some Option.none) (hv : bootBuiltins x = some (.type id)) (hx : f.cs.names.lookup x = some .globalImplicit)
    (h : EVs f pos (e :: es) σ (kBi f (typT id) Q))
    (hnn : x ≠ "__name__" := by decide)
    (he : ∀ env, starEach (e :: es) env = (false, eval e env) :: starEach es env := by intros; rfl) (hplain : ∀ env, (backTo pos (starEach es env)).any (·.1) = false := by intros; rfl)
    (hc : ∀ env, eval (.Call (.Name x np) (e :: es) [] pos) env = (do let fv ← eval (.Name x np) env; callWith pos fv [] (backTo pos (starEach (e :: es) env)) (backToKw pos (keywordEach [] env))) := by intros; rfl) : EV f (.Call (.Name x np) (e :: es) [] pos) σ Q := fun O E s m N I => by
  refine Call_ (nameX_B I.F O.X (topRead O) hn hv hnn ?_ O.hk hx (O.dbg hx)) (hc _)
  refine PyProof.Rows.callWith_type1 (PostL.k (h O E s m N I) fun l σ₁ h₁ t₁ N₁ vs I₁ E₁ R₁ qq => ?_) (he _) (hplain _)
  obtain ⟨r, op, q⟩ := qq
  refine PostV.kk (op O E { s with heap := h₁, toks := t₁ } m N₁ vs I₁ R₁) fun h₂ t₂ N₂ v I₂ E₂ R₂ => ?_
  exact ⟨_, _, _, _, _, rfl, I₂, E₁.trans E₂, R₂, q⟩
end
theorem lookup_zip : ∀ {names : List Str} {args : List AV} {vs : List Value} {K : Frag} {N : Led} {y : Str} {av : AV}, RepL K N args vs → (names.zip args).lookup y = some av → ∃ v, (names.zip vs).lookup y = some v ∧ Rep K N av v
  | [], _, _, _, _, _, _, _, e => by simp at e
  | _ :: _, [], _, _, _, _, _, _, e => by simp at e
  | x :: names, a :: args, vs, K, N, y, av, ⟨v, r, hvs, h1, h2⟩, e => by
    subst hvs
    simp only [List.zip_cons_cons, List.lookup_cons] at e ⊢
    by_cases h : (y == x) = true
    · simp only [h] at e ⊢
      obtain rfl := Option.some.inj e
      exact ⟨v, rfl, h1⟩
    · have h : (y == x) = false := by simpa using h
      simp only [h] at e ⊢
      exact lookup_zip h2 e
theorem lookup_rev {l : List (Str × Value)} (hn : (l.map (·.1)).Nodup) (y : Str) : l.reverse.lookup y = l.lookup y := by
  induction l with
  | nil => rfl
  | cons p r ih =>
    obtain ⟨x, v⟩ := p
    simp only [List.map_cons, List.nodup_cons] at hn
    rw [List.reverse_cons, List.lookup_append, ih hn.2, List.lookup_cons, List.lookup_cons, List.lookup_nil]
    by_cases h : y = x
    · subst h
      have : r.lookup y = none := by
        rw [List.lookup_eq_none_iff]
        intro p hp
        have : p.1 ≠ y := fun q => hn.1 (q ▸ List.mem_map_of_mem hp)
        simpa using Ne.symm this
      rw [this]; simp
    · have hb : (y == x) = false := beq_eq_false_iff_ne.mpr h
      rw [hb]; simp
theorem RepL.length : ∀ {K : Frag} {N : Led} {l : List AV} {vs : List Value}, RepL K N l vs → vs.length = l.length
  | _, _, [], _, h => by have : _ = [] := h; rw [this]; rfl
  | _, _, _ :: _, _, ⟨_, _, e, _, h2⟩ => by rw [e, List.length_cons, List.length_cons, RepL.length h2]
def endQ (Q : AV → Pen → Prop) : Fl → Sto → Prop
  | .next, σ => Q .none σ.pen
  | .ret a, σ => Q a σ.pen
def HBind (fd : FuncData) (names : List Str) (n : Nat) : Prop := ∀ vs : List Value, vs.length = n → bindArgs fd ⟨vs, []⟩ = pure (names.zip vs)
theorem SPEC.enter {G : Gl} {need : Nat} {fa : Addr} {args : List AV} {pen : Pen} {Q : AV → Pen → Prop} {name qual : Str} {params : Arguments} {body : List Stmt} {scope : Scope} {dV kV doc pm cdv ct oc : Value} {an od : Option Addr} {osl : Array (Option Value)} (names : List Str)
    (ho : G.K.lookup fa = some ⟨oc, od, .func (fnOf name qual params body scope dV kV doc pm an cdv ct), osl⟩) (hcd : codeIn G.K cdv qual = true)
    (hb : HBind (fnOf name qual params body scope dV kV doc pm an cdv ct) names args.length) (hnd : names.Nodup) (hlen : names.length = args.length)
    (hloc : ∀ x ∈ names, scope.names.lookup x = some .local)
    (hco : scope.isCoroutine = false) (hgen : scope.isGenerator = false) (hk : scope.kind = .function) (hcell : ∀ x ∈ scope.names, x.2 ≠ .cell) (hdb : ∀ x ∈ scope.names, (x.1 == ("__debug__" : Str)) = false ∧ (x.1 == ("__classdict__" : Str)) = false)
    (h : ∀ (A A₀ : Around) (base : Heap) (outer : List Env) (g : Heap) (L : Addr), EX ⟨G, A, A₀, base, outer, g, L, qual, scope, fa, cdv, [], penA pen, need⟩ body ⟨names.zip args, pen⟩ (endQ Q)) : SPEC G need fa args pen Q := by
  rintro f rfl O hr E s m N vs F n R P
  refine wpAny_call (code_def O.B F O.X n O.T O.hA rfl O.hk ho hcd (Nat.lt_of_le_of_lt (Nat.le_add_right _ _) O.hd) (BindsTo.of_eq (hb vs R.length)) (fun y hy => hloc _ (List.of_mem_zip hy).1) (fun g L' h₁ FG F' N' B' X' T' => ?_) hco hgen hk hcell)
  let f' : Fm := ⟨f.toGl, f.A.deeper (envOf qual scope L' fa cdv), f.A, f.base, f.env :: f.outer, g, L', qual, scope, fa, cdv, [], penA pen, need⟩
  have O' : f'.Ok := ⟨B', X', T', Around.frames_deeper O.hA, O.hh, hk, by show f.A.depth + 1 + need < _; have := O.hd; omega, by show f.A.units + 3 + 8 * need + 8 < _; have := O.hu; omega, hdb⟩
  have hnd' : ((names.zip vs).map (·.1)).Nodup := by
    rw [List.map_fst_zip (by rw [hlen, R.length]; exact Nat.le_refl _)]; exact hnd
  have I' : Inv f' h₁ (fun y => (names.zip vs).reverse.lookup y) N ⟨names.zip args, pen⟩ := by
    refine ⟨F', N', fun y av e => .inl ?_, P, fun P' n' c' e => ?_, fun c hc => ?_, fun y c hc => nomatch hc⟩
    · obtain ⟨v, hv, hr⟩ := lookup_zip R e
      refine ⟨hloc y ?_, v, (lookup_rev hnd' y).trans hv, hr⟩
      have : (y, v) ∈ names.zip vs := mem_of_lookup hv
      exact (List.of_mem_zip this).1
    · show P' ∈ penA pen
      have e' : pen = some (P', n', c') := e
      rw [e']; exact List.mem_singleton.mpr rfl
    · have hc' : c ∈ penA pen := hc
      cases hp : pen with
      | none => rw [hp] at hc'; cases hc'
      | some x =>
        obtain ⟨P', n', c'⟩ := x
        rw [hp] at hc'
        obtain rfl : c = P' := List.mem_singleton.mp hc'
        obtain ⟨t₁, t₂, k, hm⟩ := P _ _ _ hp
        exact ⟨_, hm, penO_ne⟩
  refine PostS.k (h _ _ _ _ _ _ O' _ { s with heap := h₁, toks := _ } _ N I') fun φ σ' h' tk' m' N₁ fl I₁ E₁ R₁ q => ?_
  refine leaveK_ I₁.F I₁.nw fun F₂ N₂ => ?_
  have fin : ∀ av v, Rep f.K N₁ av v → Q av σ'.pen → PostC f s m N pen Q v { s with heap := h', toks := tk' } := fun av v r q =>
    ⟨av, σ'.pen, h', tk', N₁, rfl, F₂, N₂, E₁, I₁.pen, I₁.penW, r, q, I₁.mt⟩
  cases φ with
  | next =>
    obtain rfl : fl = .next := R₁
    exact fin .none .none rfl q
  | ret a =>
    obtain ⟨v, rfl, r⟩ := R₁
    exact fin a v r q
end Mine
end
section
namespace Mine
section
variable {f : Fm} {σ : Sto}
theorem iter_off {h : Heap} {m : Str → Option Value} {N : Led} (I : Inv f h m N σ) (o : Obj) (hf : o.isFreed = false) : Inv f (h.push o) m ((h.objs.size, o) :: N) σ ∧ h.objs.size ∉ f.W ∧ (∀ p ∈ N, p.1 ≠ h.objs.size) := by
  have lt : ∀ p ∈ N, p.1 < h.objs.size := fun p hp => Heap.lt_size (I.nw p hp).1
  refine ⟨Inv.more ⟨I.F.push o, fun p hp => ⟨Heap.get?_push_of_some _ (I.nw p hp).1, (I.nw p hp).2⟩, I.loc, I.pen, I.penW, I.mt, I.cells⟩ (News.push I.F I.nw o hf) fun q hq => .tail _ hq, fun hw => ?_, fun p hp => Nat.ne_of_lt (lt p hp)⟩
  obtain ⟨_, hm, _⟩ := I.mt _ hw
  exact absurd (lt _ hm) (Nat.lt_irrefl _)
def itA (ty : String) (x : Str) (t : Tok) (i : Nat) : Obj := { cls := .type ty, data := .fields #[.str x t, .int i 0] }
theorem Inv.drop {h h' : Heap} {m : Str → Option Value} {N : Led} {I : Addr} {o : Obj} (V : Inv f h m N σ) (hm : (I, o) ∈ N) (he : Heap.ExtBut I h h')
    (hW : I ∉ f.W) (h1 : ∀ v, o.data ≠ .cell v) (h2 : ¬ Solid o) : Inv f h' m (N.filter fun p => p.1 != I) σ := by
  have n := V.nw _ hm
  have keep : ∀ q ∈ N, q.1 ≠ I → q ∈ N.filter (fun p => p.1 != I) := fun q hq ne => List.mem_filter.mpr ⟨hq, by simpa using ne⟩
  have ts : TupSub N (N.filter (fun p => p.1 != I)) := fun a o₁ so hc => keep _ hc fun (z : a = I) => h2 (by subst z; exact News.uniq V.nw hm hc ▸ so)
  have nc : ∀ c oc v, (c, oc) ∈ N → oc.data = .cell v → c ≠ I := fun c oc v hc hd z => by subst z; exact h1 v (by rw [News.uniq V.nw hm hc]; exact hd)
  obtain ⟨⟨oL, es, ep, hL', r⟩, kk, ab⟩ := V.F
  refine ⟨⟨⟨oL, es, ep, he _ _ (Ne.symm n.2.1) hL', r⟩, fun b o e => he _ _ (fun z => by rw [z, n.2.2] at e; cases e) (kk b o e), ab⟩, fun p hp => ?_, fun z b e => ?_, fun P n' c' e => ?_, V.penW, fun c' hc' => ?_, fun z c' hc' => ?_⟩
  · obtain ⟨hp, hne⟩ := List.mem_filter.mp hp
    exact ⟨he _ _ (by simpa using hne) (V.nw _ hp).1, (V.nw _ hp).2⟩
  · rcases V.loc z b e with ⟨hy, u, hu, r⟩ | ⟨hy, c₁, o₁, v₁, e₁, m₁, d₁, r₁⟩
    · exact .inl ⟨hy, u, hu, r.mono ts⟩
    · exact .inr ⟨hy, c₁, o₁, v₁, e₁, keep _ m₁ (nc _ _ _ m₁ d₁), d₁, r₁.mono ts⟩
  · obtain ⟨t₁, t₂, k, hp⟩ := V.pen P n' c' e
    exact ⟨t₁, t₂, k, keep _ hp fun (z : P = _) => hW (z ▸ V.penW P n' c' e)⟩
  · obtain ⟨o₁, k₁, r₁⟩ := V.mt c' hc'
    exact ⟨o₁, keep _ k₁ fun (z : c' = _) => hW (z ▸ hc'), r₁⟩
  · obtain ⟨o₁, v₁, k₁, r₁⟩ := V.cells z c' hc'
    exact ⟨o₁, v₁, keep _ k₁ (nc _ _ _ k₁ r₁), r₁⟩
theorem E1.forStr {Q : Fl → Sto → Prop} {y : Str} {py : Pos} {iter : PySem.Expr} {body : List Stmt} {pos : Pos}
    (h : EV f iter σ fun a σ₁ => ∃ x : Str, a = .str x ∧ Stb f y ∧ ∃ J : List Nat → Sto → Prop, J x.cps.toList σ₁ ∧ (∀ c r σ', J (c :: r) σ' → EX f body (σ'.put y (.str ⟨#[c]⟩)) (Fl.loop (J r) Q)) ∧ ∀ σ', J [] σ' → Q .next σ')
    (hs : ∀ env x, foldedSetIterable iter env x = pure x := by intros; rfl) (ht : ∀ it v, letOwnedTupleGo (.Name y py) it v = pure () := by intros; rfl) : E1 f (.For (.Name y py) iter body [] pos) σ Q := fun O E s m N I => by
  refine wpAny_For (PostV.k (h O E s m N I) fun a σ₁ h₁ t₁ N₁ v I₁ E₁ R₁ qq => ?_) (hs _)
  obtain ⟨x, rfl, st, J, hJ, step, fin⟩ := qq
  obtain ⟨_, tk, rfl⟩ := R₁
  have main : ∀ ty : String, (∀ i (h : Heap) c (Q' : Option Value → Shared → Prop) (E' : Value → Shared → Prop) (s' : Shared), s'.heap.IsStrIter h₁.objs.size ty x tk i → x.cps[i]? = some c →
        (∀ h', h'.IsStrIter h₁.objs.size ty x tk (i + 1) → Heap.SameBut h₁.objs.size s'.heap h' → Q' (some (.str ⟨#[c]⟩ s'.toks)) { s' with heap := h', toks := s'.toks + 1 }) → wpAny (model f.prog f.w) f.A (pyNext (.ref h₁.objs.size)) Q' E' s') →
      (∀ i (Q' : Option Value → Shared → Prop) (E' : Value → Shared → Prop) (s' : Shared), s'.heap.IsStrIter h₁.objs.size ty x tk i → x.cps[i]? = none →
        (∀ h', Heap.ExtBut h₁.objs.size s'.heap h' → Q' none { s' with heap := h' }) → wpAny (model f.prog f.w) f.A (pyNext (.ref h₁.objs.size)) Q' E' s') →
      codeAny (model f.prog f.w) f.A (.forLoop (.Name y py) (.ref h₁.objs.size) body [] f.env) (fun r s' => match r with | .ok fl => PostS f s N Q fl s' | .error e => cameBackBy (model f.prog f.w) f.A f.env E e s')
        { s with heap := h₁.push { cls := .type ty, data := .fields #[.str x tk, .int 0 0] }, toks := t₁ } := by
    intro ty item done
    obtain ⟨I₂, hW, off⟩ := iter_off I₁ (itA ty x tk 0) rfl
    obtain ⟨J0, hJ0⟩ : ∃ J0 : Nat → Shared → Prop, ∀ k₀ s₀, J0 k₀ s₀ ↔ (fun n s' => ∃ i σ' h' tk' m' N', n = x.cps.size + 1 - i ∧ i ≤ x.cps.size ∧ s' = { s with heap := h', toks := tk' } ∧ Inv f h' m' N' σ' ∧ (∃ oi : Obj, (h₁.objs.size, oi) ∈ N' ∧ oi.cls = .type ty ∧ oi.data = .fields #[.str x tk, .int (i : Nat) 0]) ∧ Ext f N₁ N' ∧ J (x.cps.toList.drop i) σ') k₀ s₀ := ⟨_, fun _ _ => Iff.rfl⟩
    dsimp only at hJ0
    refine codeAny_forLoop J0 ?_ (x.cps.size + 1) ((hJ0 _ _).mpr ⟨0, σ₁, _, t₁, m, _, rfl, Nat.zero_le _, rfl, I₂, ⟨_, .head _, rfl, rfl⟩, Ext.cons, hJ⟩) (fun v => ht _ v)
    intro n s' hk
    obtain ⟨i, σ', h', tk', m', N', rfl, hi, rfl, I', ⟨oi, hit, hoc, hod⟩, E', hJ'⟩ := (hJ0 _ _).mp hk
    clear hk
    have hget : h'.IsStrIter h₁.objs.size ty x tk i := ⟨_, (I'.nw _ hit).1, hoc, hod⟩
    have oncell : ∀ v, oi.data ≠ .cell v := fun v e => by rw [hod] at e; exact nomatch e
    have ontup : ¬ Solid oi := not_solid (fun es n e => by rw [hod] at e; exact nomatch e) (fun e => by rw [hod] at e; exact nomatch e) (.inl fun a c e => by rw [hod] at e; exact nomatch e)
    cases hv : x.cps[i]? with
    | none =>
      have hsz : x.cps.size ≤ i := Array.getElem?_eq_none_iff.mp hv
      refine done i _ _ { s with heap := h', toks := tk' } hget hv fun h₂ he => wpAny_execs_nil ?_
      have hd : x.cps.toList.drop i = [] := List.drop_eq_nil_of_le (by rw [Array.length_toList]; exact hsz)
      rw [hd] at hJ'
      have V := I'.drop hit he hW oncell ontup
      exact ⟨.next, σ', h₂, _, m', _, rfl, V, E₁.trans fun q hq hw => List.mem_filter.mpr ⟨E' q hq hw, by simpa using off q hq⟩, rfl, fin σ' hJ'⟩
    | some c =>
      have hlt : i < x.cps.size := (Array.getElem?_eq_some_iff.mp hv).1
      refine item i h' c _ _ { s with heap := h', toks := tk' } hget hv fun h₂ hi₂ hs₂ => ?_
      obtain ⟨o₂, ho₂, hc₂, hd₂⟩ := hi₂
      have I₃ := I'.swap hit hs₂ ho₂ hW oncell ontup
      have hdrop : x.cps.toList.drop i = c :: x.cps.toList.drop (i + 1) := by
        have hx : x.cps.toList[i]? = some c := by rw [Array.getElem?_toList]; exact hv
        obtain ⟨hlt', hx'⟩ := List.getElem?_eq_some_iff.mp hx
        rw [List.drop_eq_getElem_cons hlt', hx']
      rw [hdrop] at hJ'
      have rs : Rep f.K ((h₁.objs.size, o₂) :: N'.filter (fun p => p.1 != h₁.objs.size)) (.str ⟨#[c]⟩) (.str ⟨#[c]⟩ tk') := ⟨by show 1 ≤ sizeLine; decide, _, rfl⟩
      refine wpAny_assign_Name (store O (s := { s with heap := h₂, toks := tk' + 1 }) I₃ rs st fun h₃ m₃ N₃ t₃ I₄ E₄ => ?_)
      refine PostS.k (step c _ σ' hJ' O _ { s with heap := h₃, toks := t₃ } m₃ N₃ I₄) fun φ σ₅ h₅ t₅ m₅ N₅ fl I₅ E₅ R₅ q₅ => ?_
      have ext : Ext f N₁ N₅ := (Ext.swap E' off).trans (E₄.trans E₅)
      cases φ with
      | next =>
        obtain rfl : fl = .next := R₅
        exact ⟨x.cps.size + 1 - (i + 1), by omega, (hJ0 _ _).mpr ⟨i + 1, σ₅, h₅, t₅, m₅, N₅, rfl, hlt, rfl, I₅, ⟨o₂, E₅ _ (E₄ _ (.head _) hW) hW, hc₂, hd₂⟩, ext, q₅⟩⟩
      | ret a =>
        obtain ⟨v, rfl, r⟩ := R₅
        exact ⟨.ret a, σ₅, h₅, t₅, m₅, N₅, rfl, I₅, E₁.trans ext, ⟨v, rfl, r⟩, q₅⟩
  cases ha : x.cps.all (· < 128) with
  | true =>
    refine wpAny_pyIter_ascii ha (main _ (fun i h c Q' E' s' hit hx k => wpAny_pyNext_ascii_item hit hx k) fun i Q' E' s' hit hx k => wpAny_pyNext_ascii_end O.hh hit hx k)
  | false =>
    refine wpAny_pyIter_wide ha (main _ (fun i h c Q' E' s' hit hx k => wpAny_pyNext_wide_item hit hx k) fun i Q' E' s' hit hx k => wpAny_pyNext_wide_end O.hh hit hx k)
end
end Mine
end
section
namespace Mine
section
variable {f : Fm} {σ : Sto}
def itRg (i n : Nat) : Obj := { cls := .type "range_iterator", data := .fields #[rawInt (i : Int), rawInt ((n : Int) - (i : Int)), rawInt 1] }
theorem itRg_no {i n : Nat} : ¬ Solid (itRg i n) := not_solid (fun es n e => nomatch e) (fun e => nomatch e) (.inr fun e => absurd e (by show Value.type "range_iterator" ≠ Value.type "tuple"; intro q; injection q with q; exact absurd q (by decide)))
theorem E1.forRange {Q : Fl → Sto → Prop} {y : Str} {py np cp : Pos} {e : PySem.Expr} {body : List Stmt} {pos : Pos}
    (hn : nsIn f.K mainGlobals (Str.ofString "range") = some Option.none) (hx : f.cs.names.lookup (Str.ofString "range") = some .globalImplicit)
    (h : EV f e σ fun a σ₁ => ∃ n : Nat, a = .int n ∧ n < 2 ^ 31 ∧ Stb f y ∧ ∃ J : Nat → Sto → Prop, J 0 σ₁ ∧ (∀ i σ', i < n → J i σ' → EX f body (σ'.put y (.int i)) (Fl.loop (J (i + 1)) Q)) ∧ ∀ σ', J n σ' → Q .next σ')
    (hs : ∀ env x, foldedSetIterable (.Call (.Name (Str.ofString "range") np) [e] [] cp) env x = pure x := by intros; rfl) (ht : ∀ it v, letOwnedTupleGo (.Name y py) it v = pure () := by intros; rfl)
    (he : ∀ env, starEach [e] env = (false, eval e env) :: starEach [] env := by intros; rfl) : E1 f (.For (.Name y py) (.Call (.Name (Str.ofString "range") np) [e] [] cp) body [] pos) σ Q := fun O E s m N I => by
  refine wpAny_For (Call_ (nameX_B I.F O.X (topRead O) hn (v := .type "range") (by decide +kernel) (by decide) ?_ O.hk hx (by decide)) rfl) (hs _)
  refine PyProof.Rows.callWith_type1 (wpAny_items_cons (PostV.k (h O E s m N I) fun a σ₁ h₁ t₁ N₁ v I₁ E₁ R₁ qq => ?_) (he _)) (he _) rfl
  obtain ⟨n, rfl, hnn, st, J, hJ, step, fin⟩ := qq
  obtain ⟨tk, rfl⟩ := R₁
  refine wpAny_items_nil ?_
  refine range1_rows I₁.F I₁.nw fun h₂ t₂ u₁ u₂ u₃ hr F₂ N₂ grow => ?_
  have I₂ := I₁.grow grow
  have hsmall : Builtin.Range.small 0 (n : Int) 1 = true := small_one (by decide) (by decide) (by omega) (by omega)
  refine wpAny_pyIter_range hr hsmall ?_
  have hsize : Builtin.Range.rangeSize 0 (n : Int) 1 = (n : Int) := by
    unfold Builtin.Range.rangeSize
    simp only [show (1 : Int) > 0 from by decide, if_true]
    split
    · simp; 
    · omega
  rw [hsize]
  obtain ⟨I₃, hW, off⟩ := iter_off I₂ (itRg 0 n) rfl
  have first : ({ cls := Value.type "range_iterator", data := Data.fields #[rawInt 0, rawInt ↑n, rawInt 1] } : Obj) = itRg 0 n := by
    unfold itRg; simp
  rw [first]
  obtain ⟨J0, hJ0⟩ : ∃ J0 : Nat → Shared → Prop, ∀ k₀ s₀, J0 k₀ s₀ ↔ (fun k s' => ∃ i σ' h' tk' m' N', k = n + 1 - i ∧ i ≤ n ∧ s' = { s with heap := h', toks := tk' } ∧ Inv f h' m' N' σ' ∧ (h₂.objs.size, itRg i n) ∈ N' ∧ Ext f N₁ N' ∧ J i σ') k₀ s₀ := ⟨_, fun _ _ => Iff.rfl⟩
  dsimp only at hJ0
  refine codeAny_forLoop J0 ?_ (n + 1) ((hJ0 _ _).mpr ⟨0, σ₁, _, _, m, _, rfl, Nat.zero_le _, rfl, I₃, .head _, Ext.cons, hJ⟩) (fun v => ht _ v)
  intro k s' hk
  obtain ⟨i, σ', h', tk', m', N', rfl, hi, rfl, I', hit, E', hJ'⟩ := (hJ0 _ _).mp hk
  clear hk
  have hget := (I'.nw _ hit).1
  have hri : IsRangeIter h' h₂.objs.size (i : Int) ((n : Int) - (i : Int)) 1 := hget
  by_cases hlt : i < n
  · refine wpAny_pyNext_range_item hri (by omega) fun h₄ hit₄ hs₄ => ?_
    have o₄ : h₄.get? h₂.objs.size = some (itRg (i + 1) n) := by
      unfold itRg
      rw [show (((i + 1 : Nat) : Int)) = (i : Int) + 1 from by omega, show (n : Int) - ((i : Int) + 1) = (n : Int) - (i : Int) - 1 from by omega]
      exact hit₄
    have I₄ := I'.swap hit hs₄ o₄ hW (fun v e => nomatch e) itRg_no
    have rs : Rep f.K ((h₂.objs.size, itRg (i + 1) n) :: N'.filter (fun p => p.1 != h₂.objs.size)) (.int i) (.int i tk') := ⟨_, rfl⟩
    refine wpAny_assign_Name (store O (s := { s with heap := h₄, toks := tk' + 1 }) I₄ rs st fun h₅ m₅ N₅ t₅ I₅ E₅ => ?_)
    refine PostS.k (step i σ' hlt hJ' O _ { s with heap := h₅, toks := t₅ } m₅ N₅ I₅) fun φ σ₆ h₆ t₆ m₆ N₆ fl I₆ E₆ R₆ q₆ => ?_
    have ext : Ext f N₁ N₆ := (Ext.swap E' off).trans (E₅.trans E₆)
    cases φ with
    | next =>
      obtain rfl : fl = .next := R₆
      exact ⟨n + 1 - (i + 1), by omega, (hJ0 _ _).mpr ⟨i + 1, σ₆, h₆, t₆, m₆, N₆, rfl, hlt, rfl, I₆, E₆ _ (E₅ _ (.head _) hW) hW, ext, q₆⟩⟩
    | ret a =>
      obtain ⟨v, rfl, r⟩ := R₆
      exact ⟨.ret a, σ₆, h₆, t₆, m₆, N₆, rfl, I₆, E₁.trans ext, ⟨v, rfl, r⟩, q₆⟩
  · obtain rfl : i = n := by omega
    refine wpAny_pyNext_range_end O.hh hri (by omega) fun h₄ he₄ => wpAny_execs_nil ?_
    have V := I'.drop hit he₄ hW (fun v e => nomatch e) itRg_no
    exact ⟨.next, σ', h₄, _, m', _, rfl, V, E₁.trans fun q hq hw => List.mem_filter.mpr ⟨E' q hq hw, by simpa using off q hq⟩, rfl, fin σ' hJ'⟩
def AO (f : Fm) (ts : List (Value → Sem Unit)) (avs : List AV) (σ : Sto) (Q : Sto → Prop) : Prop :=
  f.Ok → ∀ (E : Value → Shared → Prop) (s : Shared) (m : Str → Option Value) (N : Led) (vs : List Value), Inv f s.heap m N σ → RepL f.K N avs vs →
    wpAny (model f.prog f.w) f.A (assignInOrder ts vs) (fun _ s' => PostS f s N (fun _ => Q) .next s') E s
theorem PostS.nextIff {s : Shared} {N : Led} {Q : Sto → Prop} {σ' : Sto} {h' : Heap} {tk' : Nat} {m' : Str → Option Value} {N' : Led} (I : Inv f h' m' N' σ') (E : Ext f N N') (q : Q σ') : PostS f s N (fun _ => Q) .next { s with heap := h', toks := tk' } :=
  ⟨.next, σ', h', tk', m', N', rfl, I, E, rfl, q⟩
theorem AO.nil {vs : List AV} {Q : Sto → Prop} (h : Q σ) : AO f [] vs σ Q := fun O E s m N vs I R => assignInOrder_nil (PostS.nextIff (tk' := s.toks) I .refl h)
theorem AO.name {x : Str} {p : Pos} {ts : List (Value → Sem Unit)} {a : AV} {avs : List AV} {Q : Sto → Prop} (st : Stb f x) (h : AO f ts avs (σ.put x a) Q) : AO f (assign (.Name x p) f.env :: ts) (a :: avs) σ Q := fun O E s m N vs I R => by
  obtain ⟨v, r, rfl, R₁, R₂⟩ := R
  refine assignInOrder_cons (assign_Name (store O I R₁ st fun h' m' N' tk' I' E' => ?_))
  refine wpAny_mono (h O E { s with heap := h', toks := tk' } m' N' r I' (R₂.mono (I.tupSub E'))) (fun _ s₂ p => ?_) fun _ _ e => e
  exact PostS.of E' p
theorem AO.bind {x : Str} {ts : List (Value → Sem Unit)} {a : AV} {avs : List AV} {Q : Sto → Prop} (st : Stb f x) (h : AO f ts avs (σ.put x a) Q) : AO f ((fun v => bindName f.env x v) :: ts) (a :: avs) σ Q := fun O E s m N vs I R => by
  obtain ⟨v, r, rfl, R₁, R₂⟩ := R
  refine assignInOrder_cons (wpAny_bindName (store O I R₁ st fun h' m' N' tk' I' E' => ?_))
  refine wpAny_mono (h O E { s with heap := h', toks := tk' } m' N' r I' (R₂.mono (I.tupSub E'))) (fun _ s₂ p => ?_) fun _ _ e => e
  exact PostS.of E' p
theorem isTup_of {h : Heap} {m : Str → Option Value} {N : Led} {a : Addr} {vs : List Value} {c : Nat} (O : f.Ok) (I : Inv f h m N σ) (hm : (a, tupO vs c) ∈ N ∨ f.K.lookup a = some (tupO vs c)) : IsTup h a vs.toArray := by
  rcases hm with hm | hm
  · exact ⟨_, (I.nw _ hm).1, rfl, c, rfl⟩
  · exact ⟨_, I.F.keep _ _ (O.X _ _ hm), rfl, c, rfl⟩
theorem E1.unpack {Q : Fl → Sto → Prop} {elts : List PySem.Expr} {k : Nat} {tp pos : Pos} {value : PySem.Expr} (n : Nat)
    (h : EV f value σ fun a σ₁ => ∃ l, a = .tup l ∧ l.length = n ∧ AO f ((assignEach elts f.env).map (·.2)) l σ₁ (Q .next))
    (hs : ∀ env, swapsWithSole [.Tuple elts k tp] value pos.line env = pure false) (hw : swappedStores [.Tuple elts k tp] value f.env = pure none)
    (hn : ∀ env, (assignEach elts env).length = n) (hstar : ∀ env, (assignEach elts env).findIdx? (·.1) = none) : E1 f (.Assign [.Tuple elts k tp] value pos) σ Q := fun O E s m N I => by
  refine Assign_Tuple (PostV.k (h O E s m N I) fun a σ₁ h₁ t₁ N₁ v I₁ E₁ R₁ qq => ?_) (hs _) hw
  obtain ⟨l, rfl, hl, ao⟩ := qq
  obtain ⟨ad, vs, c, rfl, hm, rl⟩ := R₁
  have hlen : vs.length = n := rl.length.trans hl
  refine assign_Tuple_tuple O.hh (isTup_of O I₁ hm) (by rw [hn, List.size_toArray, hlen]) (hstar _) fun h' he => ?_
  have grow : ∀ b o, h₁.get? b = some o → h'.get? b = some o := fun b o e => he b o (Nat.ne_of_lt (Heap.lt_size e)) e
  refine wpAny_mono (ao O E { s with heap := h', toks := t₁ } m N₁ vs (I₁.grow grow) rl) (fun _ s₂ p => ?_) fun _ _ e => e
  obtain ⟨φ, σ₂, h₂, t₂, m₂, N₂, rfl, I₂, E₂, R₂, q⟩ := p
  exact ⟨.next, σ₂, h₂, t₂, m₂, N₂, rfl, I₂, E₁.trans E₂, rfl, q⟩
theorem RepL.reverse {K : Frag} {N : Led} : ∀ {l : List AV} {vs : List Value}, RepL K N l vs → RepL K N l.reverse vs.reverse := by
  have app : ∀ {l : List AV} {vs : List Value} {l' : List AV} {vs' : List Value}, RepL K N l vs → RepL K N l' vs' → RepL K N (l ++ l') (vs ++ vs') := by
    intro l
    induction l with
    | nil => intro vs l' vs' h h'; have : vs = [] := h; subst this; exact h'
    | cons a l ih => intro vs l' vs' h h'; obtain ⟨v, r, rfl, h1, h2⟩ := h; exact ⟨v, r ++ vs', rfl, h1, ih h2 h'⟩
  intro l
  induction l with
  | nil => intro vs h; have : vs = [] := h; subst this; rfl
  | cons a l ih => intro vs h; obtain ⟨v, r, rfl, h1, h2⟩ := h; rw [List.reverse_cons, List.reverse_cons]; exact app (ih h2) ⟨v, [], rfl, h1, rfl⟩
theorem E1.swapped {Q : Fl → Sto → Prop} {elts : List PySem.Expr} {k : Nat} {tp pos : Pos} {value : PySem.Expr} (names : List Str)
    (h : EV f value σ fun a σ₁ => ∃ l, a = .tup l ∧ l.length = names.length ∧ AO f (names.reverse.map fun n => bindName f.env n) l.reverse σ₁ (Q .next))
    (hs : ∀ env, swapsWithSole [.Tuple elts k tp] value pos.line env = pure false) (hw : swappedStores [.Tuple elts k tp] value f.env = pure (some names)) : E1 f (.Assign [.Tuple elts k tp] value pos) σ Q := fun O E s m N I => by
  refine Assign_Tuple_swapped (PostV.k (h O E s m N I) fun a σ₁ h₁ t₁ N₁ v I₁ E₁ R₁ qq => ?_) (hs _) hw
  obtain ⟨l, rfl, hl, ao⟩ := qq
  obtain ⟨ad, vs, c, rfl, hm, rl⟩ := R₁
  have hlen : vs.length = names.length := rl.length.trans hl
  have hsz : names.length = vs.toArray.size := by rw [List.size_toArray, hlen]
  rw [hsz]
  refine unpackItems_tuple O.hh (isTup_of O I₁ hm) fun h' he => ?_
  have grow : ∀ b o, h₁.get? b = some o → h'.get? b = some o := fun b o e => he b o (Nat.ne_of_lt (Heap.lt_size e)) e
  refine wpAny_mono (ao O E { s with heap := h', toks := t₁ } m N₁ vs.reverse (I₁.grow grow) rl.reverse) (fun _ s₂ p => ?_) fun _ _ e => e
  obtain ⟨φ, σ₂, h₂, t₂, m₂, N₂, rfl, I₂, E₂, R₂, q⟩ := p
  exact ⟨.next, σ₂, h₂, t₂, m₂, N₂, rfl, I₂, E₁.trans E₂, rfl, q⟩
end
end Mine
end
section
namespace Mine
abbrev T (l : List Nat) : Str := ⟨l.toArray⟩
theorem T_len (l : List Nat) : (T l).length = l.length := by simp [Str.length]
theorem T_app (a b : List Nat) : T a ++ T b = T (a ++ b) := by apply Str.ext'; rw [Str.cps_append]; simp
theorem T_beq (a b : List Nat) : (T a == T b) = (a == b) := by
  rw [Bool.eq_iff_iff, beq_iff_eq, beq_iff_eq]
  exact ⟨fun e => by simpa using congrArg Str.cps e, fun e => by rw [e]⟩
theorem T_bne (a b : List Nat) : (T a != T b) = (a != b) := by simp only [bne, T_beq]
section
variable {f : Fm}
theorem Inv.tk {h : Heap} {m : Str → Option Value} {N : Led} {σ : Sto} (I : Inv f h m N σ) : Inv f h m N σ := I
theorem op_done {s : Shared} {m : Str → Option Value} {N : Led} {σ : Sto} {r : AV} {v : Value} {tk : Nat} (I : Inv f s.heap m N σ) (R : Rep f.K N r v) : PostV f s m N (fun r' σ' => r' = r ∧ σ' = σ) v { s with toks := tk } :=
  ⟨r, σ, s.heap, tk, N, rfl, I, .refl, R, rfl, rfl⟩
theorem Rep.mkInt {K : Frag} {N : Led} {i : Int} {t : Tok} : Rep K N (.int i) (.int i t) := ⟨_, rfl⟩
theorem Rep.mkBool {K : Frag} {N : Led} {b : Bool} : Rep K N (.bool b) (.bool b) := rfl
theorem Rep.mkNone {K : Frag} {N : Led} : Rep K N .none .none := rfl
theorem Rep.mkVal {K : Frag} {N : Led} {v : Value} : Rep K N (.val v) v := rfl
theorem Rep.mkStr {K : Frag} {N : Led} {x : Str} {t : Tok} (h : x.length ≤ sizeLine) : Rep K N (.str x) (.str x t) := ⟨h, _, rfl⟩
theorem Rep.outInt {K : Frag} {N : Led} {i : Int} {v : Value} (h : Rep K N (.int i) v) : ∃ t, v = .int i t := h
theorem Rep.outStr {K : Frag} {N : Led} {x : Str} {v : Value} (h : Rep K N (.str x) v) : x.length ≤ sizeLine ∧ ∃ t, v = .str x t := h
theorem Rep.outBool {K : Frag} {N : Led} {b : Bool} {v : Value} (h : Rep K N (.bool b) v) : v = .bool b := h
theorem Rep.outNone {K : Frag} {N : Led} {v : Value} (h : Rep K N .none v) : v = .none := h
theorem Rep.outVal {K : Frag} {N : Led} {u v : Value} (h : Rep K N (.val u) v) : v = u := h
theorem Rep.outTup {K : Frag} {N : Led} {l : List AV} {v : Value} (h : Rep K N (.tup l) v) : ∃ a vs c, v = .ref a ∧ ((a, tupO vs c) ∈ N ∨ K.lookup a = some (tupO vs c)) ∧ RepL K N l vs := h
theorem RepL.outNil {K : Frag} {N : Led} {vs : List Value} (h : RepL K N [] vs) : vs = [] := h
theorem RepL.outCons {K : Frag} {N : Led} {a : AV} {l : List AV} {vs : List Value} (h : RepL K N (a :: l) vs) : ∃ v r, vs = v :: r ∧ Rep K N a v ∧ RepL K N l r := h
theorem RepL.mkCons {K : Frag} {N : Led} {a : AV} {l : List AV} {v : Value} {r : List Value} (h1 : Rep K N a v) (h2 : RepL K N l r) : RepL K N (a :: l) (v :: r) := ⟨v, r, rfl, h1, h2⟩
theorem RepL.mkNil {K : Frag} {N : Led} : RepL K N [] [] := rfl
theorem op_int {s : Shared} {m : Str → Option Value} {N : Led} {σ : Sto} {i : Int} {t : Tok} {tk : Nat} (I : Inv f s.heap m N σ) : PostV f s m N (fun r' σ' => r' = .int i ∧ σ' = σ) (.int i t) { s with toks := tk } := op_done I Rep.mkInt
theorem op_bool {s : Shared} {m : Str → Option Value} {N : Led} {σ : Sto} {b : Bool} (I : Inv f s.heap m N σ) : PostV f s m N (fun r' σ' => r' = .bool b ∧ σ' = σ) (.bool b) s := op_done (tk := s.toks) I Rep.mkBool
theorem op_str {s : Shared} {m : Str → Option Value} {N : Led} {σ : Sto} {x : Str} {t : Tok} {tk : Nat} (I : Inv f s.heap m N σ) (h : x.length ≤ sizeLine) : PostV f s m N (fun r' σ' => r' = .str x ∧ σ' = σ) (.str x t) { s with toks := tk } := op_done I (Rep.mkStr h)
theorem o_add {a b : Int} : Op2 f (binaryOp .Add) (.int a) (.int b) (.int (a + b)) := fun _ E s m N σ v u I R R' => by
  obtain ⟨_, rfl⟩ := R.outInt; obtain ⟨_, rfl⟩ := R'.outInt; with_reducible refine add_int ?_; exact op_int I
theorem o_sub {a b : Int} : Op2 f (binaryOp .Sub) (.int a) (.int b) (.int (a - b)) := fun _ E s m N σ v u I R R' => by
  obtain ⟨_, rfl⟩ := R.outInt; obtain ⟨_, rfl⟩ := R'.outInt; with_reducible refine sub_int ?_; exact op_int I
theorem o_mul {a b : Int} (h : IntMulOk a b) : Op2 f (binaryOp .Mult) (.int a) (.int b) (.int (a * b)) := fun _ E s m N σ v u I R R' => by
  obtain ⟨_, rfl⟩ := R.outInt; obtain ⟨_, rfl⟩ := R'.outInt; with_reducible refine mul_int ?_ h; exact op_int I
theorem o_div {a b : Int} (h : b ≠ 0) (hb : b.natAbs < 1073741824) : Op2 f (binaryOp .FloorDiv) (.int a) (.int b) (.int (a.fdiv b)) := fun _ E s m N σ v u I R R' => by
  obtain ⟨_, rfl⟩ := R.outInt; obtain ⟨_, rfl⟩ := R'.outInt; with_reducible refine floordiv_int h ?_ (.inl (PyProof.noPylong_small hb)); exact op_int I
theorem o_divL {a b : Int} (h : b ≠ 0) (hb : Builtin.divisionGoesByPylong a b = false) : Op2 f (binaryOp .FloorDiv) (.int a) (.int b) (.int (a.fdiv b)) := fun _ E s m N σ v u I R R' => by
  obtain ⟨_, rfl⟩ := R.outInt; obtain ⟨_, rfl⟩ := R'.outInt; with_reducible refine floordiv_int h ?_ (.inl hb); exact op_int I
theorem o_mod {a b : Int} (h : b ≠ 0) : Op2 f (binaryOp .Mod) (.int a) (.int b) (.int (a.fmod b)) := fun _ E s m N σ v u I R R' => by
  obtain ⟨_, rfl⟩ := R.outInt; obtain ⟨_, rfl⟩ := R'.outInt; with_reducible refine mod_int' h ?_; exact op_int I
theorem o_pow {a n : Int} (h0 : 0 ≤ n) (h1 : n ≤ 1000000) (h2 : a.natAbs < 2 ^ 64) : Op2 f (binaryOp .Pow) (.int a) (.int n) (.int (a ^ n.toNat)) := fun _ E s m N σ v u I R R' => by
  obtain ⟨_, rfl⟩ := R.outInt; obtain ⟨_, rfl⟩ := R'.outInt; with_reducible refine pow_int_small h0 h1 h2 ?_; exact op_int I
theorem o_shl {a n : Int} (h0 : 0 ≤ n) (h1 : (Builtin.Int.intBits a : Int) + n ≤ 2 ^ 27) : Op2 f (binaryOp .LShift) (.int a) (.int n) (.int (a * 2 ^ n.toNat)) := fun O E s m N σ v u I R R' => by
  obtain ⟨_, rfl⟩ := R.outInt; obtain ⟨_, rfl⟩ := R'.outInt; with_reducible refine lshift_int_or O.hh (fun h => absurd h (by omega)) (fun _ => h1) fun _ => ?_; exact op_int I
theorem o_iadd {a b : Int} : Op2 f (inplaceOp .Add) (.int a) (.int b) (.int (a + b)) := fun _ E s m N σ v u I R R' => by
  obtain ⟨_, rfl⟩ := R.outInt; obtain ⟨_, rfl⟩ := R'.outInt; with_reducible refine iadd_int ?_; exact op_int I
theorem o_isub {a b : Int} : Op2 f (inplaceOp .Sub) (.int a) (.int b) (.int (a - b)) := fun _ E s m N σ v u I R R' => by
  obtain ⟨_, rfl⟩ := R.outInt; obtain ⟨_, rfl⟩ := R'.outInt; with_reducible refine isub_int ?_; exact op_int I
theorem o_idiv {a b : Int} (h : b ≠ 0) (hb : b.natAbs < 1073741824) : Op2 f (inplaceOp .FloorDiv) (.int a) (.int b) (.int (a.fdiv b)) := fun O E s m N σ v u I R R' => by
  obtain ⟨_, rfl⟩ := R.outInt; obtain ⟨_, rfl⟩ := R'.outInt; with_reducible refine ifloordiv_int_or O.hh (fun z => absurd z h) (fun _ => ?_) fun _ => .inl (PyProof.noPylong_small hb); exact op_int I
theorem o_neg {a : Int} : Op1 f (unaryOp .USub) (.int a) (.int (-a)) := fun _ E s m N σ v I R => by
  obtain ⟨_, rfl⟩ := R.outInt; with_reducible refine neg_int ?_; exact op_int I
theorem o_cat {a b : List Nat} (h : a.length + b.length ≤ sizeLine) : Op2 f (binaryOp .Add) (.str (T a)) (.str (T b)) (.str (T (a ++ b))) := fun _ E s m N σ v u I R R' => by
  obtain ⟨_, _, rfl⟩ := R.outStr; obtain ⟨_, _, rfl⟩ := R'.outStr
  with_reducible refine add_str (fun t' tk => ?_) (by rw [T_len, T_len]; exact h)
  rw [T_app]
  exact op_str I (by rw [T_len, List.length_append]; exact h)
theorem o_icat {a b : List Nat} (h : a.length + b.length ≤ sizeLine) : Op2 f (inplaceOp .Add) (.str (T a)) (.str (T b)) (.str (T (a ++ b))) := fun _ E s m N σ v u I R R' => by
  obtain ⟨_, _, rfl⟩ := R.outStr; obtain ⟨_, _, rfl⟩ := R'.outStr
  with_reducible refine iadd_str (fun t' tk => ?_) (by rw [T_len, T_len]; exact h)
  rw [T_app]
  exact op_str I (by rw [T_len, List.length_append]; exact h)
theorem foldl_app (c : Nat) : ∀ (n : Nat) (acc : Array Nat), List.foldl (fun x1 x2 => x1 ++ x2) acc (List.replicate n #[c]) = acc ++ (List.replicate n c).toArray
  | 0, acc => by simp
  | n + 1, acc => by
    rw [List.replicate_succ, List.foldl_cons, foldl_app c n, List.replicate_succ]
    apply Array.ext'
    simp
theorem T_mul (c : Nat) (n : Int) : Txt.mul (T [c]) n = T (List.replicate n.toNat c) := by
  unfold Txt.mul
  by_cases h : n < 1
  · rw [if_pos h, show n.toNat = 0 from by omega]; rfl
  · rw [if_neg h]
    by_cases h1 : n = 1
    · subst h1; rfl
    · rw [if_neg (by simp [h1, T, Str.length])]
      apply Str.ext'
      show List.foldl _ #[] (List.replicate n.toNat #[c]) = _
      rw [foldl_app]; simp
theorem o_rep {c : Nat} {n : Int} (h : n ≤ 100000) (h' : -100000 ≤ n) : Op2 f (binaryOp .Mult) (.str (T [c])) (.int n) (.str (T (List.replicate n.toNat c))) := fun _ E s m N σ v u I R R' => by
  obtain ⟨_, _, rfl⟩ := R.outStr; obtain ⟨_, rfl⟩ := R'.outInt
  with_reducible refine SB.mul (mulOk_of 1 100000 (by rw [T_len]; simp) (by omega) (by omega) (by decide) (by decide)) fun t' k => ?_
  rw [T_mul]
  exact op_str I (by rw [T_len, List.length_replicate, sizeLine_eq]; omega)
theorem c_lt {a b : Int} : Op2 f (compareOp .Lt) (.int a) (.int b) (.bool (decide (a < b))) := fun _ E s m N σ v u I R R' => by
  obtain ⟨_, rfl⟩ := R.outInt; obtain ⟨_, rfl⟩ := R'.outInt; with_reducible refine lt_int ?_; exact op_bool I
theorem c_le {a b : Int} : Op2 f (compareOp .LtE) (.int a) (.int b) (.bool (decide (a ≤ b))) := fun _ E s m N σ v u I R R' => by
  obtain ⟨_, rfl⟩ := R.outInt; obtain ⟨_, rfl⟩ := R'.outInt; with_reducible refine le_int ?_; exact op_bool I
theorem c_gt {a b : Int} : Op2 f (compareOp .Gt) (.int a) (.int b) (.bool (decide (b < a))) := fun _ E s m N σ v u I R R' => by
  obtain ⟨_, rfl⟩ := R.outInt; obtain ⟨_, rfl⟩ := R'.outInt; with_reducible refine gt_int ?_; exact op_bool I
theorem c_ge {a b : Int} : Op2 f (compareOp .GtE) (.int a) (.int b) (.bool (decide (b ≤ a))) := fun _ E s m N σ v u I R R' => by
  obtain ⟨_, rfl⟩ := R.outInt; obtain ⟨_, rfl⟩ := R'.outInt; with_reducible refine ge_int ?_; exact op_bool I
theorem c_eq {a b : Int} : Op2 f (compareOp .Eq) (.int a) (.int b) (.bool (a == b)) := fun _ E s m N σ v u I R R' => by
  obtain ⟨_, rfl⟩ := R.outInt; obtain ⟨_, rfl⟩ := R'.outInt; with_reducible refine eq_int ?_; exact op_bool I
theorem c_ne {a b : Int} : Op2 f (compareOp .NotEq) (.int a) (.int b) (.bool (a != b)) := fun _ E s m N σ v u I R R' => by
  obtain ⟨_, rfl⟩ := R.outInt; obtain ⟨_, rfl⟩ := R'.outInt; with_reducible refine ne_int ?_; exact op_bool I
theorem c_eqs {a b : List Nat} : Op2 f (compareOp .Eq) (.str (T a)) (.str (T b)) (.bool (a == b)) := fun _ E s m N σ v u I R R' => by
  obtain ⟨_, _, rfl⟩ := R.outStr; obtain ⟨_, _, rfl⟩ := R'.outStr; with_reducible refine eq_str ?_; rw [T_beq a b]; exact op_bool I
theorem c_nes {a b : List Nat} : Op2 f (compareOp .NotEq) (.str (T a)) (.str (T b)) (.bool (a != b)) := fun _ E s m N σ v u I R R' => by
  obtain ⟨_, _, rfl⟩ := R.outStr; obtain ⟨_, _, rfl⟩ := R'.outStr; with_reducible refine ne_str ?_; rw [T_bne a b]; exact op_bool I
theorem c_neb {a b : Bool} : Op2 f (compareOp .NotEq) (.bool a) (.bool b) (.bool (a != b)) := fun _ E s m N σ v u I e e' => by
  obtain rfl : v = .bool a := e
  obtain rfl : u = .bool b := e'
  with_reducible refine ne_bool ?_; exact op_bool I
theorem c_isN {a : AV} {c : Bool} (h : ∀ K N v, Rep K N a v → (v == Value.none) = c) : Op2 f (compareOp .Is) a .none (.bool c) := fun _ E s m N σ v u I R e' => by
  obtain rfl : u = .none := e'
  with_reducible refine is_none ?_; rw [h _ _ _ R]; exact op_bool I
theorem c_isntN {a : AV} {c : Bool} (h : ∀ K N v, Rep K N a v → (v == Value.none) = !c) : Op2 f (compareOp .IsNot) a .none (.bool c) := fun _ E s m N σ v u I R e' => by
  obtain rfl : u = .none := e'
  with_reducible refine isNot_none ?_
  rw [h _ _ _ R, Bool.not_not]
  exact op_bool I
theorem isN_none : ∀ K N v, Rep K N .none v → (v == Value.none) = true := fun _ _ v e => by obtain rfl : v = .none := e; rfl
theorem isN_int {i : Int} : ∀ K N v, Rep K N (.int i) v → (v == Value.none) = false := fun _ _ v ⟨_, e⟩ => by subst e; rfl
theorem isN_str {i : Str} : ∀ K N v, Rep K N (.str i) v → (v == Value.none) = false := fun _ _ v ⟨_, _, e⟩ => by subst e; rfl
def AV.isNone : AV → Bool
  | .none => true
  | _ => false
theorem isN_opt {a : AV} (h : a = .none ∨ (∃ i, a = .int i) ∨ ∃ x, a = .str x) : ∀ K N v, Rep K N a v → (v == Value.none) = a.isNone := by
  rcases h with rfl | ⟨i, rfl⟩ | ⟨x, rfl⟩
  · exact isN_none
  · exact isN_int
  · exact isN_str
def strsOf : List AV → List Str
  | .str x :: r => x :: strsOf r
  | _ => []
def allStr : List AV → Bool
  | [] => true
  | .str _ :: r => allStr r
  | _ => false
theorem strsAre_of : ∀ {K : Frag} {N : Led} {l : List AV} {vs : List Value}, allStr l = true → RepL K N l vs → StrsAre vs (strsOf l)
  | _, _, [], vs, _, h => by have : vs = [] := h; subst this; exact .nil
  | K, N, .str x :: r, vs, ha, ⟨v, r', e, ⟨_, t, hv⟩, h2⟩ => by subst e; subst hv; exact .cons _ _ (strsAre_of ha h2)
theorem c_inT {x : Str} {l : List AV} (h : allStr l = true) : Op2 f (compareOp .In) (.str x) (.tup l) (.bool ((strsOf l).any (· == x))) := fun O E s m N σ v u I ⟨_, _, e⟩ R => by
  subst e
  obtain ⟨a, vs, c, rfl, hm, rl⟩ := R
  with_reducible refine in_tuple_strs (isTup_of O I hm) (by simpa using strsAre_of h rl) ?_; exact op_bool I
theorem contains_one (x : List Nat) (c : Nat) : Txt.contains (T x) (T [c]) = decide (c ∈ x) := by
  have := StrLaws.found_one (T x) c
  show (!(Builtin.Str.occurrences (T x) ⟨#[c]⟩ 0 (T x).length 1).isEmpty) = _
  rw [this]
theorem c_inS {x : List Nat} {c : Nat} : Op2 f (compareOp .In) (.str (T [c])) (.str (T x)) (.bool (decide (c ∈ x))) := fun O E s m N σ v u I R R' => by
  obtain ⟨_, _, rfl⟩ := R.outStr; obtain ⟨_, _, rfl⟩ := R'.outStr
  with_reducible refine SB.contains ?_; rw [contains_one]; exact op_bool I
end
end Mine
end
section
namespace Mine
section
variable {f : Fm} {σ : Sto}
theorem b_len {l : List Nat} : Bi f σ (fun vs => PySem.call (.builtin "len") vs) [.str (T l)] (.int l.length) := fun O E s m N vs I R => by
  obtain ⟨v, r, rfl, R₁, R₂⟩ := R.outCons
  obtain rfl := R₂.outNil
  obtain ⟨hl, _, rfl⟩ := R₁.outStr
  with_reducible refine SBL.len ?_ ?_
  · have := sizeLine_eq; omega
  · rw [T_len]; exact op_int I
theorem b_lenT {l : List AV} (h : l.length ≤ 1000) : Bi f σ (fun vs => PySem.call (.builtin "len") vs) [.tup l] (.int l.length) := fun O E s m N vs I R => by
  obtain ⟨v, r, rfl, R₁, R₂⟩ := R.outCons
  obtain rfl := R₂.outNil
  obtain ⟨a, vs, c, rfl, hm, rl⟩ := R₁.outTup
  have hl := rl.length
  with_reducible refine len_tuple (isTup_of O I hm) ?_ ?_
  · rw [List.size_toArray, hl]; omega
  · rw [List.size_toArray, hl]; exact op_int I
theorem b_abs {a : Int} : Bi f σ (fun vs => PySem.call (.builtin "abs") vs) [.int a] (.int a.natAbs) := fun O E s m N vs I R => by
  obtain ⟨v, r, rfl, R₁, R₂⟩ := R.outCons
  obtain rfl := R₂.outNil
  obtain ⟨_, rfl⟩ := R₁.outInt
  with_reducible refine call_abs_int fun u tk => ?_
  rw [show (if a < 0 then -a else a) = (a.natAbs : Int) from by split <;> omega]
  exact op_int I
theorem b_str {a : Int} (h : a.natAbs.log2 < 1920) (hl : (Str.ofString (toString a)).length ≤ sizeLine) : Bi f σ (fun vs => PySem.call (.type "str") vs) [.int a] (.str (Str.ofString (toString a))) := fun O E s m N vs I R => by
  obtain ⟨v, r, rfl, R₁, R₂⟩ := R.outCons
  obtain rfl := R₂.outNil
  obtain ⟨_, rfl⟩ := R₁.outInt
  with_reducible refine P.str_of_int h ?_
  exact op_str I hl
theorem b_intB {b : Bool} : Bi f σ (fun vs => PySem.call (.type "int") vs) [.bool b] (.int (if b = true then 1 else 0)) := fun O E s m N vs I R => by
  obtain ⟨v, r, rfl, R₁, R₂⟩ := R.outCons
  obtain rfl := R₂.outNil
  obtain rfl := R₁.outBool
  with_reducible refine call_int_bool ?_
  exact op_int I
theorem b_divmod {a b : Int} (h : b ≠ 0) (hp : Builtin.divisionGoesByPylong a b = false) : Bi f σ (fun vs => PySem.call (.builtin "divmod") vs) [.int a, .int b] (.tup [.int (a.fdiv b), .int (a.fmod b)]) := fun O E s m N vs I R => by
  obtain ⟨v, r, rfl, Ra, Rb⟩ := R.outCons
  obtain ⟨u, r', rfl, Rc, Rd⟩ := Rb.outCons
  obtain rfl := Rd.outNil
  obtain ⟨_, rfl⟩ := Ra.outInt
  obtain ⟨_, rfl⟩ := Rc.outInt
  refine divmod_N I.F I.nw h (fun h' F' N' => ?_) (.inl hp)
  have I' : Inv f h' m N σ := ⟨F', fun p hp => N' p (.tail _ hp), I.loc, I.pen, I.penW, I.mt, I.cells⟩
  exact ⟨.tup [.int (a.fdiv b), .int (a.fmod b)], σ, h', _, _, rfl, I'.more N' fun q hq => .tail _ hq, Ext.cons, ⟨_, [_, _], 0, rfl, .inl (.head _), RepL.mkCons Rep.mkInt (RepL.mkCons Rep.mkInt RepL.mkNil)⟩, rfl, rfl⟩
theorem EV.find {Q : AV → Sto → Prop} {o e : PySem.Expr} {ap pos : Pos} (pl : Env → Sem Bool) (h : EV f o σ fun a σ₁ => ∃ x, a = .str x ∧ EV f e σ₁ fun b σ₂ => ∃ y, b = .str y ∧ Q (.int (Txt.find x y)) σ₂)
    (hc : ∀ env, eval (.Call (.Attribute o (Str.ofString "find") ap) [e] [] pos) env = (do let ov ← eval o env; standAt ap.atName; let (fn, first) ← holding [ov] (getMethod ov (Str.ofString "find") (pl env)); callWith pos fn first (backTo pos (starEach [e] env)) []) := by intros; rfl)
    (he : ∀ env, starEach [e] env = (false, eval e env) :: starEach [] env := by intros; rfl) : EV f (.Call (.Attribute o (Str.ofString "find") ap) [e] [] pos) σ Q := fun O E s m N I => by
  refine MethodCall_ (PostV.k (h O E s m N I) fun a σ₁ h₁ t₁ N₁ v I₁ E₁ R₁ qq => ?_) (hc _)
  obtain ⟨x, rfl, q⟩ := qq
  obtain ⟨hx, tx, rfl⟩ := R₁.outStr
  with_reducible refine GM.find ?_
  refine callWith_method1 (wpAny_items_cons (PostV.k (q O E { s with heap := h₁, toks := t₁ } m N₁ I₁) fun b σ₂ h₂ t₂ N₂ u I₂ E₂ R₂ qq => ?_) (he _)) (he _) rfl
  obtain ⟨y, rfl, q₂⟩ := qq
  obtain ⟨hy, ty, rfl⟩ := R₂.outStr
  refine wpAny_items_nil ?_
  show wpAny _ _ (PySem.call (.builtin "str.find") [.str x tx, .str y ty]) _ _ _
  with_reducible refine SC.find ?_
  exact ⟨_, σ₂, h₂, _, N₂, rfl, I₂, E₁.trans E₂, Rep.mkInt, q₂⟩
theorem EV.item {Q : AV → Sto → Prop} {value i : PySem.Expr} {pos : Pos} (h : EV f value σ (kBin f i (subscriptTail value i) Q)) : EV f (.Subscript value i pos) σ Q := fun O E s m N I => by
  refine Subscript_ (PostV.k (h O E s m N I) fun a σ₁ h₁ t₁ N₁ v I₁ E₁ R₁ q₁ => ?_)
  refine PostV.k (q₁ O E _ m N₁ I₁) fun b σ₂ h₂ t₂ N₂ u I₂ E₂ R₂ qq => ?_
  obtain ⟨c, op2, q₂⟩ := qq
  refine PostV.kk (op2 O E { s with heap := h₂, toks := t₂ } m N₂ σ₂ v u I₂ (R₁.mono (I₁.tupSub E₂)) R₂) fun h₃ t₃ N₃ w I₃ E₃ R₃ => ?_
  exact ⟨_, _, _, _, _, rfl, I₃, E₁.trans (E₂.trans E₃), R₃, q₂⟩
theorem RepL.at {K : Frag} {N : Led} : ∀ {l : List AV} {vs : List Value} {k : Nat} {a : AV}, RepL K N l vs → l[k]? = some a → ∃ v, vs[k]? = some v ∧ Rep K N a v
  | [], _, _, _, _, e => by simp at e
  | x :: l, vs, 0, a, h, e => by
    obtain ⟨v, r, rfl, h1, _⟩ := h.outCons
    obtain rfl : x = a := by simpa using e
    exact ⟨v, rfl, h1⟩
  | x :: l, vs, k + 1, a, h, e => by
    obtain ⟨v, r, rfl, _, h2⟩ := h.outCons
    have e' : l[k]? = some a := by simpa using e
    obtain ⟨w, hw, rw'⟩ := RepL.at h2 e'
    exact ⟨w, by simpa using hw, rw'⟩
theorem i_tup {value slice : PySem.Expr} {l : List AV} {k : Nat} {a : AV} (h : l[k]? = some a) (hk : k < 1000)
    (hs : ∀ t k' u, subscripted slice false (.ref t) (.int k' u) = operate [.ref t, .int k' u] (getItem (.ref t) (.int k' u)) := by intros; with_unfolding_all rfl) : Op2 f (subscriptTail value slice) (.tup l) (.int k) a := fun O E s m N σ v u I R R' => by
  obtain ⟨ad, vs, c, rfl, hm, rl⟩ := R.outTup
  obtain ⟨_, rfl⟩ := R'.outInt
  obtain ⟨x, hx, rx⟩ := rl.at h
  have hlt : k < vs.length := (List.getElem?_eq_some_iff.mp hx).1
  refine item_tupleT (isTup_of O I hm) (by omega) (by omega) (StrLaws.seqIndex_nonneg (by omega) (by omega)) (by rw [Int.toNat_natCast]; exact hx) ?_ (hs _ _ _)
  exact op_done (tk := s.toks) I rx
theorem item_T {l : List Nat} {i c : Nat} (h : l[i]? = some c) : Txt.item (T l) (i : Int) = T [c] := by
  unfold Txt.item Txt.charAt
  have : (seqIndex? (i : Int) (T l).length).bind ((T l).cps[·]?) = some c := StrLaws.at_nonneg (by omega) (by simpa using h)
  rw [this]; rfl
theorem item_last {l : List Nat} {c : Nat} : Txt.item (T (l ++ [c])) (-1) = T [c] := by
  unfold Txt.item Txt.charAt
  rw [StrLaws.seqIndex_neg (by decide) (by rw [T_len, List.length_append]; simp; omega)]
  rw [T_len, List.length_append, show ((-1 : Int) + ((l.length + [c].length : Nat) : Int)).toNat = l.length from by simp; omega]
  simp
theorem i_str {value slice : PySem.Expr} {l : List Nat} {k c : Nat} (h : l[k]? = some c)
    (hs : ∀ x t k' u, subscripted slice false (.str x t) (.int k' u) = operate [.str x t, .int k' u] (getItem (.str x t) (.int k' u)) := by intros; with_unfolding_all rfl)
    (hl : ∀ x t r, letTemporaryGo value (.str x t) r = pure () := by intros; with_unfolding_all rfl) : Op2 f (subscriptTail value slice) (.str (T l)) (.int k) (.str (T [c])) := fun O E s m N σ v u I R R' => by
  obtain ⟨hx, _, rfl⟩ := R.outStr
  obtain ⟨_, rfl⟩ := R'.outInt
  have hlt : k < l.length := (List.getElem?_eq_some_iff.mp h).1
  rw [T_len] at hx
  have := sizeLine_eq
  refine item_str (fitsSsize_of (N := 9223372036854775807) (by omega) (by omega) (by decide)) (by rw [T_len]; omega) (by rw [T_len]; omega) (fun _ => ?_) (hs _ _ _ _) (hl _ _)
  rw [item_T h]
  exact op_str I (by rw [T_len]; show 1 ≤ sizeLine; decide)
theorem i_last {value slice : PySem.Expr} {l : List Nat} {c : Nat}
    (hs : ∀ x t k' u, subscripted slice false (.str x t) (.int k' u) = operate [.str x t, .int k' u] (getItem (.str x t) (.int k' u)) := by intros; with_unfolding_all rfl)
    (hl : ∀ x t r, letTemporaryGo value (.str x t) r = pure () := by intros; with_unfolding_all rfl) : Op2 f (subscriptTail value slice) (.str (T (l ++ [c]))) (.int (-1)) (.str (T [c])) := fun O E s m N σ v u I R R' => by
  obtain ⟨hx, _, rfl⟩ := R.outStr
  obtain ⟨_, rfl⟩ := R'.outInt
  refine item_str (by decide) (by rw [T_len, List.length_append]; simp; omega) (by rw [T_len, List.length_append]; simp; omega) (fun _ => ?_) (hs _ _ _ _) (hl _ _)
  rw [item_last]
  exact op_str I (by rw [T_len]; show 1 ≤ sizeLine; decide)
theorem take_all (l : List Nat) (i : Nat) : List.take (l.length - i) (l.drop i) = l.drop i := List.take_of_length_le (by rw [List.length_drop]; exact Nat.le_refl _)
theorem sl_from {l : List Nat} {i : Nat} : Txt.slice (T l) (some (i : Int)) none = T (l.drop i) := by
  by_cases h : i ≤ l.length
  · rw [slice_from_eq (b := (l.length : Int)) (by omega) (by rw [T_len]; omega) (by rw [T_len])]
    show (⟨(List.take ((l.length : Int) - (i : Int)).toNat (List.drop ((i : Int)).toNat l.toArray.toList)).toArray⟩ : Str) = _
    rw [show ((l.length : Int) - (i : Int)).toNat = l.length - i from by omega, Int.toNat_natCast, take_all]
  · rw [slice_beyond (by rw [T_len]; omega), List.drop_eq_nil_of_le (by omega)]
    rfl
theorem idx_cut {lo : Option Int} {j n : Nat} (h : n ≤ j) : Builtin.Str.strSliceIndices lo (some (j : Int)) 1 n = Builtin.Str.strSliceIndices lo (some (n : Int)) 1 n := by
  have h0 : ¬ (j : Int) < 0 := by omega
  have h1 : ¬ ((n : Int) < 0) := by omega
  have h2 : (1 : Int) > 0 := by decide
  simp only [Builtin.Str.strSliceIndices, h0, h1, h2, if_false, if_true, Int.min_eq_right (show (n : Int) ≤ j by omega), Int.min_self]
theorem sl_toS {l : List Nat} {j : Nat} (h : j ≤ l.length) : Txt.slice (T l) none (some (j : Int)) = T (l.take j) := by
  have := beq_iff_eq.mp (slice_closes_to (x := T l) (j := j) (by simp; omega))
  rw [this]
  simp
theorem sl_to {l : List Nat} {j : Nat} : Txt.slice (T l) none (some (j : Int)) = T (l.take j) := by
  by_cases h : j ≤ l.length
  · exact sl_toS h
  · have e : Txt.slice (T l) none (some (j : Int)) = Txt.slice (T l) none (some (l.length : Int)) := by
      unfold Txt.slice
      rw [T_len, idx_cut (by omega)]
    rw [e, sl_toS (Nat.le_refl _), List.take_of_length_le (Nat.le_refl _), List.take_of_length_le (by omega)]
theorem sl_one {l : List Nat} {i : Nat} (hi : i ≤ l.length) : Txt.slice (T l) (some (i : Int)) (some ((i + 1 : Nat) : Int)) = T ((l.drop i).take 1) := by
  by_cases h : i + 1 ≤ l.length
  · have := beq_iff_eq.mp (slice_closes (x := T l) (i := i) (j := (i + 1 : Nat)) (by simp; omega))
    rw [this, show (((i + 1 : Nat) : Int) - (i : Int)).toNat = 1 from by omega, Int.toNat_natCast]
  · obtain rfl : i = l.length := by omega
    have e : Txt.slice (T l) (some (l.length : Int)) (some ((l.length + 1 : Nat) : Int)) = Txt.slice (T l) (some (l.length : Int)) (some (l.length : Int)) := by
      unfold Txt.slice
      rw [T_len, idx_cut (by omega)]
    have := beq_iff_eq.mp (slice_closes (x := T l) (i := l.length) (j := l.length) (by simp))
    rw [e, this]
    simp
theorem slice_keep {s : Shared} {m : Str → Option Value} {N : Led} {h' : Heap} {tk : Nat} {r : Str} {t : Tok} (I : Inv f s.heap m N σ) (F : Fr f.g f.L h' m) (n : News f.g f.L h' N) (hr : r.length ≤ sizeLine) : PostV f s m N (fun r' σ' => r' = .str r ∧ σ' = σ) (.str r t) { s with heap := h', toks := tk } :=
  ⟨.str r, σ, h', tk, N, rfl, ⟨F, n, I.loc, I.pen, I.penW, I.mt, I.cells⟩, .refl, Rep.mkStr hr, rfl, rfl⟩
def SlOk (value slice : PySem.Expr) : Prop := (∀ x t a, subscripted slice false (.str x t) (.ref a) = operate [.ref a, .str x t] (getItem (.str x t) (.ref a))) ∧ ∀ x t r, letTemporaryGo value (.str x t) r = pure ()
theorem EV.slFrom {Q : AV → Sto → Prop} {value e : PySem.Expr} {sp pos : Pos} (h : EV f value σ fun a σ₁ => ∃ l, a = .str (T l) ∧ EV f e σ₁ fun b σ₂ => ∃ i : Nat, b = .int i ∧ Q (.str (T (l.drop i))) σ₂)
    (ok : SlOk value (.Slice (some e) none none sp) := by constructor <;> (intros; with_unfolding_all rfl)) : EV f (.Subscript value (.Slice (some e) none none sp) pos) σ Q := fun O E s m N I => by
  refine Subscript_ (PostV.k (h O E s m N I) fun a σ₁ h₁ t₁ N₁ v I₁ E₁ R₁ qq => ?_)
  obtain ⟨l, rfl, q₁⟩ := qq
  obtain ⟨hx, tx, rfl⟩ := R₁.outStr
  refine wpAny_Slice (evalPart_some_step (wpAny_mono (q₁ O E { s with heap := h₁, toks := t₁ } m N₁ I₁) (fun u s₂ p₂ => ?_) fun _ _ e => e))
  obtain ⟨b, σ₂, h₂, t₂, N₂, rfl, I₂, E₂, R₂, i, rfl, q₂⟩ := p₂
  obtain ⟨ti, rfl⟩ := R₂.outInt
  refine evalPart_none_step (evalPart_none_step ?_)
  refine slice_strN_sn (s := { s with heap := h₂, toks := t₂ }) I₂.F I₂.nw (fun h' t' k F' N' => ?_) (ok.1 _ _ _) (fun r => ok.2 _ _ r) hx
  rw [sl_from]
  exact ⟨_, σ₂, h', k, N₂, rfl, ⟨F', N', I₂.loc, I₂.pen, I₂.penW, I₂.mt, I₂.cells⟩, E₁.trans E₂, Rep.mkStr (by rw [T_len] at hx ⊢; rw [List.length_drop]; omega), q₂⟩
theorem EV.slTo {Q : AV → Sto → Prop} {value e : PySem.Expr} {sp pos : Pos} (h : EV f value σ fun a σ₁ => ∃ l, a = .str (T l) ∧ EV f e σ₁ fun b σ₂ => ∃ i : Nat, b = .int i ∧ Q (.str (T (l.take i))) σ₂)
    (ok : SlOk value (.Slice none (some e) none sp) := by constructor <;> (intros; with_unfolding_all rfl)) : EV f (.Subscript value (.Slice none (some e) none sp) pos) σ Q := fun O E s m N I => by
  refine Subscript_ (PostV.k (h O E s m N I) fun a σ₁ h₁ t₁ N₁ v I₁ E₁ R₁ qq => ?_)
  obtain ⟨l, rfl, q₁⟩ := qq
  obtain ⟨hx, tx, rfl⟩ := R₁.outStr
  refine wpAny_Slice (evalPart_none_step (evalPart_some_step (wpAny_mono (q₁ O E { s with heap := h₁, toks := t₁ } m N₁ I₁) (fun u s₂ p₂ => ?_) fun _ _ e => e)))
  obtain ⟨b, σ₂, h₂, t₂, N₂, rfl, I₂, E₂, R₂, i, rfl, q₂⟩ := p₂
  obtain ⟨ti, rfl⟩ := R₂.outInt
  refine evalPart_none_step ?_
  refine slice_strN_ns (s := { s with heap := h₂, toks := t₂ }) I₂.F I₂.nw (fun h' t' k F' N' => ?_) (ok.1 _ _ _) (fun r => ok.2 _ _ r) hx
  rw [sl_to]
  exact ⟨_, σ₂, h', k, N₂, rfl, ⟨F', N', I₂.loc, I₂.pen, I₂.penW, I₂.mt, I₂.cells⟩, E₁.trans E₂, Rep.mkStr (by rw [T_len] at hx ⊢; rw [List.length_take]; omega), q₂⟩
theorem EV.slOne {Q : AV → Sto → Prop} {value e e' : PySem.Expr} {sp pos : Pos} (h : EV f value σ fun a σ₁ => ∃ l, a = .str (T l) ∧ EV f e σ₁ fun b σ₂ => ∃ i : Nat, b = .int i ∧ i ≤ l.length ∧ EV f e' σ₂ fun b' σ₃ => b' = .int (i + 1 : Nat) ∧ Q (.str (T ((l.drop i).take 1))) σ₃)
    (ok : SlOk value (.Slice (some e) (some e') none sp) := by constructor <;> (intros; with_unfolding_all rfl)) : EV f (.Subscript value (.Slice (some e) (some e') none sp) pos) σ Q := fun O E s m N I => by
  refine Subscript_ (PostV.k (h O E s m N I) fun a σ₁ h₁ t₁ N₁ v I₁ E₁ R₁ qq => ?_)
  obtain ⟨l, rfl, q₁⟩ := qq
  obtain ⟨hx, tx, rfl⟩ := R₁.outStr
  refine wpAny_Slice (evalPart_some_step (wpAny_mono (q₁ O E { s with heap := h₁, toks := t₁ } m N₁ I₁) (fun u s₂ p₂ => ?_) fun _ _ e => e))
  obtain ⟨b, σ₂, h₂, t₂, N₂, rfl, I₂, E₂, R₂, i, rfl, hi, q₂⟩ := p₂
  obtain ⟨ti, rfl⟩ := R₂.outInt
  refine evalPart_some_step (PostV.k (q₂ O E { s with heap := h₂, toks := t₂ } m N₂ I₂) fun b' σ₃ h₃ t₃ N₃ u I₃ E₃ R₃ qq => ?_)
  obtain ⟨rfl, q₃⟩ := qq
  obtain ⟨tj, rfl⟩ := R₃.outInt
  refine evalPart_none_step ?_
  refine slice_strN_ss (s := { s with heap := h₃, toks := t₃ }) I₃.F I₃.nw (fun h' t' k F' N' => ?_) (ok.1 _ _ _) (fun r => ok.2 _ _ r) hx
  rw [sl_one hi]
  exact ⟨_, σ₃, h', k, N₃, rfl, ⟨F', N', I₃.loc, I₃.pen, I₃.penW, I₃.mt, I₃.cells⟩, E₁.trans (E₂.trans E₃), Rep.mkStr (by rw [T_len] at hx ⊢; rw [List.length_take, List.length_drop]; omega), q₃⟩
end
end Mine
end
section
namespace Mine
section
variable {f : Fm} {σ : Sto}
@[reducible] def kCh2 (f : Fm) (t : Value → Value → Sem Value) (r : PySem.Expr) (b : AV) (Q : Bool → Sto → Prop) : Bool → Sto → Prop := fun c σ => (c = true → EV f r σ (kOpT f t b Q)) ∧ (c = false → Q false σ)
@[reducible] def kCh1 (f : Fm) (t₁ : Value → Value → Sem Value) (a : AV) (t : Value → Value → Sem Value) (r : PySem.Expr) (Q : Bool → Sto → Prop) : AV → Sto → Prop := fun b σ => kOpT f t₁ a (kCh2 f t r b Q) b σ
@[reducible] def kCh (f : Fm) (r₁ : PySem.Expr) (t₁ : Value → Value → Sem Value) (t : Value → Value → Sem Value) (r : PySem.Expr) (Q : Bool → Sto → Prop) : AV → Sto → Prop := fun a σ => EV f r₁ σ (kCh1 f t₁ a t r Q)
theorem EV.chain {Q : AV → Sto → Prop} {l r₁ r₂ : PySem.Expr} {op₁ op₂ : CmpOp} {pos : Pos}
    (h : EV f l σ (kCh f r₁ (compareOp op₁) (compareOp op₂) r₂ (kB Q)))
    (hm : lastMarks [op₁, op₂] [r₁, r₂] = false) (he : ∀ env, evalEach [r₁, r₂] env = [eval r₁ env, eval r₂ env] := by intros; rfl) : EV f (.Compare l [op₁, op₂] [r₁, r₂] pos) σ Q := fun O E s m N I => by
  refine Compare_chain (PostV.k (h O E s m N I) fun a σ₁ h₁ t₁ N₁ v I₁ E₁ R₁ q₁ => ?_) hm
  show wpAny _ _ (compareChain pos v [op₁, op₂] [eval r₁ f.env, eval r₂ f.env]) _ _ _
  refine chain_link (PostV.k (q₁ O E _ m N₁ I₁) fun b σ₂ h₂ t₂ N₂ u I₂ E₂ R₂ qq => ?_)
  obtain ⟨c, op2, q₂⟩ := qq
  refine PostV.kk (op2 O E { s with heap := h₂, toks := t₂ } m N₂ σ₂ v u I₂ (R₁.mono (I₁.tupSub E₂)) R₂) fun h₃ t₃ N₃ w I₃ E₃ R₃ => ?_
  obtain rfl := R₃.outBool
  refine wpAny_truthy_bool ?_
  cases c with
  | false => exact ⟨.bool false, _, _, _, _, rfl, I₃, E₁.trans (E₂.trans E₃), Rep.mkBool, q₂.2 rfl⟩
  | true =>
    refine chain_last (PostV.k (q₂.1 rfl O E _ m N₃ I₃) fun d σ₄ h₄ t₄ N₄ u' I₄ E₄ R₄ qq => ?_)
    obtain ⟨c', op2', q₄⟩ := qq
    have E₃₄ := E₃.trans E₄
    refine PostV.kk (op2' O E { s with heap := h₄, toks := t₄ } m N₄ σ₄ u u' I₄ (R₂.mono (I₂.tupSub E₃₄)) R₄) fun h₅ t₅ N₅ w I₅ E₅ R₅ => ?_
    exact ⟨_, _, _, _, _, rfl, I₅, E₁.trans (E₂.trans (E₃₄.trans E₅)), R₅, q₄⟩
theorem TR.chain {Q : Bool → Sto → Prop} {l r₁ r₂ : PySem.Expr} {op₁ op₂ : CmpOp} {pos : Pos}
    (h : EV f l σ (kCh f r₁ (compareOp op₁) (compareOp op₂) r₂ Q))
    (hm : lastMarks [op₁, op₂] [r₁, r₂] = false) : TR f (.Compare l [op₁, op₂] [r₁, r₂] pos) σ Q := fun O E s m N I => by
  refine PyProof.Rows.isTrue_chain (PostV.k (h O E s m N I) fun a σ₁ h₁ t₁ N₁ v I₁ E₁ R₁ q₁ => ?_) hm
  show wpAny _ _ (testChain pos v [op₁, op₂] [eval r₁ f.env, eval r₂ f.env]) _ _ _
  refine test_link (PostV.k (q₁ O E _ m N₁ I₁) fun b σ₂ h₂ t₂ N₂ u I₂ E₂ R₂ qq => ?_)
  obtain ⟨c, op2, q₂⟩ := qq
  refine PostV.kk (op2 O E { s with heap := h₂, toks := t₂ } m N₂ σ₂ v u I₂ (R₁.mono (I₁.tupSub E₂)) R₂) fun h₃ t₃ N₃ w I₃ E₃ R₃ => ?_
  obtain rfl := R₃.outBool
  refine wpAny_truthy_bool ?_
  cases c with
  | false => exact ⟨_, _, _, _, rfl, I₃, E₁.trans (E₂.trans E₃), q₂.2 rfl⟩
  | true =>
    refine test_last (PostV.k (q₂.1 rfl O E _ m N₃ I₃) fun d σ₄ h₄ t₄ N₄ u' I₄ E₄ R₄ qq => ?_)
    obtain ⟨c', op2', q₄⟩ := qq
    have E₃₄ := E₃.trans E₄
    refine PostV.kk (op2' O E { s with heap := h₄, toks := t₄ } m N₄ σ₄ u u' I₄ (R₂.mono (I₂.tupSub E₃₄)) R₄) fun h₅ t₅ N₅ w I₅ E₅ R₅ => ?_
    obtain rfl := R₅.outBool
    exact wpAny_truthy_bool ⟨_, _, _, _, rfl, I₅, E₁.trans (E₂.trans (E₃₄.trans E₅)), q₄⟩
theorem E1.try {Q : Fl → Sto → Prop} {body : List Stmt} {h₀ : ExceptHandler} {hs : List ExceptHandler} {pos : Pos} (h : EX f body σ Q) : E1 f (.Try body (h₀ :: hs) [] [] pos) σ Q := fun O E s m N I => by
  refine wpAny_Try_except (PostS.k (h O _ s m N I) fun φ σ₁ h₁ t₁ m₁ N₁ fl I₁ E₁ R₁ q => ?_)
  cases φ with
  | next =>
    obtain rfl : fl = .next := R₁
    exact wpAny_execs_nil ⟨.next, σ₁, h₁, t₁, m₁, N₁, rfl, I₁, E₁, rfl, q⟩
  | ret a =>
    obtain ⟨v, rfl, R⟩ := R₁
    exact ⟨.ret a, σ₁, h₁, t₁, m₁, N₁, rfl, I₁, E₁, ⟨v, rfl, R⟩, q⟩
theorem EV.attr {Q : AV → Sto → Prop} {x attr : Str} {xp pos : Pos} {C : Addr} {fs : List (Str × Int)} {i : Int} {a : Option Value} (e : σ.loc.lookup x = some (.obj C fs)) (hi : fs.lookup attr = some i)
    (h1 : plainGet f.K C attr = true) (h2 : hasDictIn f.K C = true) (h3 : findIn f.K (.ref C) attr = some a) (h4 : noGet f.K a = true) (h : Q (.int i) σ)
    (he : ∀ env, eval (.Attribute (.Name x xp) attr pos) env = (do
      let o ← eval (.Name x xp) env
      standAt pos.atName
      let r ← holding [o] (getAttr o attr true)
      letTemporaryGo (.Name x xp) o r
      pure r) := by intros; rfl) : EV f (.Attribute (.Name x xp) attr pos) σ Q := fun O E s m N I => by
  refine Attribute_Name_ (PostV.kk (EV.name (Q := fun a σ' => a = .obj C fs ∧ σ' = σ) e ⟨rfl, rfl⟩ O E s m N I) fun h₁ t₁ N₁ v I₁ E₁ R₁ => ?_) (he _)
  obtain ⟨ad, dx, es, n, rfl, m1, m2, hf⟩ : ∃ x dx es n, v = .ref x ∧ (x, instObj C dx) ∈ N₁ ∧ (dx, dictOf es n) ∈ N₁ ∧ ∀ nm i, fs.lookup nm = some i → ∃ t, getL nm es = some (some (.int i t)) := R₁
  obtain ⟨t, ht⟩ := hf _ _ hi
  refine get_own I₁.F O.X (InstAt.of_news I₁.nw m1 m2) h1 h2 h3 h4 ht (by rfl) ?_
  exact ⟨.int i, _, h₁, _, N₁, rfl, I₁, E₁, Rep.mkInt, h⟩
end
end Mine
end
section
namespace Mine
section
variable {f : Fm} {σ : Sto}
theorem Inv.penSet {h h' : Heap} {m : Str → Option Value} {N : Led} {P : Addr} {n c n' c' : Int} {t₁ t₂ : Tok} {k : Nat} (V : Inv f h m N σ) (hp : σ.pen = some (P, n, c)) (hs : Heap.SameBut P h h') (ho : h'.get? P = some (penO n' c' t₁ t₂ k)) :
    ∃ N', Inv f h' m N' { σ with pen := some (P, n', c') } ∧ Ext f N N' := by
  obtain ⟨u₁, u₂, k₀, hm⟩ := V.pen _ _ _ hp
  have nw := V.nw _ hm
  have keep : ∀ q ∈ N, q.1 ≠ P → q ∈ (P, penO n' c' t₁ t₂ k) :: N.filter (fun p => p.1 != P) := fun q hq ne => .tail _ (List.mem_filter.mpr ⟨hq, by simpa using ne⟩)
  have ts : TupSub N ((P, penO n' c' t₁ t₂ k) :: N.filter (fun p => p.1 != P)) := fun a o₁ so hc => keep _ hc fun (z : a = P) => penO_ne (by subst z; exact News.uniq V.nw hm hc ▸ so)
  have nc : ∀ c₀ oc v, (c₀, oc) ∈ N → oc.data = .cell v → c₀ ≠ P := fun c₀ oc v hc hd z => by
    subst z; rw [News.uniq V.nw hc hm] at hd; exact nomatch hd
  refine ⟨(P, penO n' c' t₁ t₂ k) :: N.filter (fun p => p.1 != P), ⟨⟨V.F.ns.sameBut hs (Ne.symm nw.2.1), fun b ob e => (hs.2 b (fun q => by rw [q, nw.2.2] at e; cases e)).trans (V.F.keep b ob e), V.F.above⟩, fun p hp => ?_, fun y b e => ?_, fun P' n₂ c₂ e => ?_, fun P' n₂ c₂ e => ?_, fun c' hc' => ?_, fun y c' hc' => ?_⟩, fun q hq hw => ?_⟩
  · rcases List.mem_cons.mp hp with rfl | hp
    · exact ⟨ho, nw.2⟩
    · obtain ⟨hp, hne⟩ := List.mem_filter.mp hp
      have ne : p.1 ≠ P := by simpa using hne
      exact ⟨(hs.2 _ ne).trans (V.nw _ hp).1, (V.nw _ hp).2⟩
  · rcases V.loc y b e with ⟨hy, u, hu, r⟩ | ⟨hy, c₁, o₁, v₁, e₁, m₁, d₁, r₁⟩
    · exact .inl ⟨hy, u, hu, r.mono ts⟩
    · exact .inr ⟨hy, c₁, o₁, v₁, e₁, keep _ m₁ (nc _ _ _ m₁ d₁), d₁, r₁.mono ts⟩
  · have e' : some (P, n', c') = some (P', n₂, c₂) := e
    injection e' with e'
    injection e' with e1 e'
    injection e' with e2 e3
    subst e1; subst e2; subst e3
    exact ⟨t₁, t₂, k, .head _⟩
  · have e' : some (P, n', c') = some (P', n₂, c₂) := e
    injection e' with e'
    injection e' with e1 e'
    subst e1
    exact V.penW _ _ _ hp
  · by_cases z : c' = P
    · subst z; exact ⟨_, .head _, penO_ne⟩
    · obtain ⟨o₁, k₁, r₁⟩ := V.mt c' hc'
      exact ⟨o₁, keep _ k₁ z, r₁⟩
  · obtain ⟨o₁, v₁, k₁, r₁⟩ := V.cells y c' hc'
    exact ⟨o₁, v₁, keep _ k₁ (nc _ _ _ k₁ r₁), r₁⟩
  · exact keep q hq fun z => hw (z ▸ V.penW _ _ _ hp)
theorem pen_list {h : Heap} {m : Str → Option Value} {N : Led} {P : Addr} {n c : Int} (V : Inv f h m N σ) (hp : σ.pen = some (P, n, c)) : ∃ t₁ t₂ k, h.get? P = some (penO n c t₁ t₂ k) := by
  obtain ⟨u₁, u₂, k₀, hm⟩ := V.pen _ _ _ hp
  exact ⟨u₁, u₂, k₀, (V.nw _ hm).1⟩
theorem pen_get0 {E : Value → Shared → Prop} {s : Shared} {m : Str → Option Value} {N : Led} {P : Addr} {n c : Int} {u : Tok} {Q : Value → Shared → Prop} (V : Inv f s.heap m N σ) (hp : σ.pen = some (P, n, c)) (h : ∀ t, Q (.int n t) s) :
    wpAny (model f.prog f.w) f.A (getItem (.ref P) (.int 0 u)) Q E s := by
  obtain ⟨t₁, t₂, k, ho⟩ := pen_list V hp
  exact wpAny_getItem_list (PySem.IsL.isList (n := k) ho) (by decide) (by decide) rfl (h _)
theorem pen_get1 {E : Value → Shared → Prop} {s : Shared} {m : Str → Option Value} {N : Led} {P : Addr} {n c : Int} {u : Tok} {Q : Value → Shared → Prop} (V : Inv f s.heap m N σ) (hp : σ.pen = some (P, n, c)) (h : ∀ t, Q (.int c t) s) :
    wpAny (model f.prog f.w) f.A (getItem (.ref P) (.int 1 u)) Q E s := by
  obtain ⟨t₁, t₂, k, ho⟩ := pen_list V hp
  exact wpAny_getItem_list (PySem.IsL.isList (n := k) ho) (by decide) (by decide) rfl (h _)
theorem pen_set0 {E : Value → Shared → Prop} {s : Shared} {m : Str → Option Value} {N : Led} {P : Addr} {n c n' : Int} {u t : Tok} {Q : Unit → Shared → Prop} (V : Inv f s.heap m N σ) (hp : σ.pen = some (P, n, c))
    (h : ∀ h' N', Inv f h' m N' { σ with pen := some (P, n', c) } → Ext f N N' → Q () { s with heap := h' }) : wpAny (model f.prog f.w) f.A (setItem (.ref P) (.int 0 u) (.int n' t)) Q E s := by
  obtain ⟨t₁, t₂, k, ho⟩ := pen_list V hp
  refine ki_setAt ho (by decide) (by decide) (by simp) ?_
  have q := PySem.IsL.update (n := k) ho (·.setIfInBounds (0 : Int).toNat (.int n' t))
  obtain ⟨N', I', E'⟩ := V.penSet (n' := n') (c' := c) (t₁ := t) (t₂ := t₂) (k := k) hp (Heap.SameBut.update ..) q
  exact h _ N' I' E'
theorem pen_set1 {E : Value → Shared → Prop} {s : Shared} {m : Str → Option Value} {N : Led} {P : Addr} {n c c' : Int} {u t : Tok} {Q : Unit → Shared → Prop} (V : Inv f s.heap m N σ) (hp : σ.pen = some (P, n, c))
    (h : ∀ h' N', Inv f h' m N' { σ with pen := some (P, n, c') } → Ext f N N' → Q () { s with heap := h' }) : wpAny (model f.prog f.w) f.A (setItem (.ref P) (.int 1 u) (.int c' t)) Q E s := by
  obtain ⟨t₁, t₂, k, ho⟩ := pen_list V hp
  refine ki_setAt ho (by decide) (by decide) (by simp) ?_
  have q := PySem.IsL.update (n := k) ho (·.setIfInBounds (1 : Int).toNat (.int c' t))
  obtain ⟨N', I', E'⟩ := V.penSet (n' := n) (c' := c') (t₁ := t₁) (t₂ := t) (k := k) hp (Heap.SameBut.update ..) q
  exact h _ N' I' E'
@[reducible] def kPen0 (x : Str) (Q : Fl → Sto → Prop) : AV → Sto → Prop := fun a σ => ∃ i, a = .int i ∧ ∃ P n c, σ.loc.lookup x = some (.val (.ref P)) ∧ σ.pen = some (P, n, c) ∧ Q .next { σ with pen := some (P, i, c) }
@[reducible] def kPenI (σ : Sto) (P : Addr) (n c : Int) (Q : Fl → Sto → Prop) : AV → Sto → Prop := fun a σ₁ => ∃ i, a = .int i ∧ σ₁ = σ ∧ Q .next { σ with pen := some (P, n, c + i) }
@[reducible] def kPen2 (f : Fm) (x y : Str) (Q : Fl → Sto → Prop) : AV → Sto → Prop := fun a σ => ∃ i b, a = .tup [.int i, b] ∧ ∃ P n c, σ.loc.lookup x = some (.val (.ref P)) ∧ σ.pen = some (P, n, c) ∧ f.cs.names.lookup y = some .local ∧ Q .next (Sto.put { σ with pen := some (P, i, c) } y b)
section
variable {x : Str} {xp kp sp pos : Pos} {kk : Nat} {P : Addr} {n c : Int}
theorem EV.pen0 {Q : AV → Sto → Prop} (e : σ.loc.lookup x = some (.val (.ref P))) (hp : σ.pen = some (P, n, c)) (h : Q (.int n) σ)
    (hs : ∀ t k' u, subscripted (.Constant (.int 0) kk kp) false (.ref t) (.int k' u) = operate [.ref t, .int k' u] (getItem (.ref t) (.int k' u)) := by intros; with_unfolding_all rfl) : EV f (.Subscript (.Name x xp) (.Constant (.int 0) kk kp) pos) σ Q := fun O E s m N I => by
  refine Subscript_ (PostV.kk (EV.name (Q := fun a σ' => a = .val (.ref P) ∧ σ' = σ) e ⟨rfl, rfl⟩ O E s m N I) fun h₁ t₁ N₁ v I₁ E₁ R₁ => ?_)
  obtain rfl := R₁.outVal
  refine wpAny_Constant_int ?_
  obtain ⟨t₁, t₂, k, ho⟩ := pen_list I₁ hp
  exact tail_any (PySem.IsL.isList (n := k) ho).typeIs slot_list_getitem.lookup (pen_get0 I₁ hp fun t => ⟨_, _, h₁, _, N₁, rfl, I₁, E₁, Rep.mkInt, h⟩) (hs _ _ _)
theorem EV.pen1 {Q : AV → Sto → Prop} (e : σ.loc.lookup x = some (.val (.ref P))) (hp : σ.pen = some (P, n, c)) (h : Q (.int c) σ)
    (hs : ∀ t k' u, subscripted (.Constant (.int 1) kk kp) false (.ref t) (.int k' u) = operate [.ref t, .int k' u] (getItem (.ref t) (.int k' u)) := by intros; with_unfolding_all rfl) : EV f (.Subscript (.Name x xp) (.Constant (.int 1) kk kp) pos) σ Q := fun O E s m N I => by
  refine Subscript_ (PostV.kk (EV.name (Q := fun a σ' => a = .val (.ref P) ∧ σ' = σ) e ⟨rfl, rfl⟩ O E s m N I) fun h₁ t₁ N₁ v I₁ E₁ R₁ => ?_)
  obtain rfl := R₁.outVal
  refine wpAny_Constant_int ?_
  obtain ⟨t₁, t₂, k, ho⟩ := pen_list I₁ hp
  exact tail_any (PySem.IsL.isList (n := k) ho).typeIs slot_list_getitem.lookup (pen_get1 I₁ hp fun t => ⟨_, _, h₁, _, N₁, rfl, I₁, E₁, Rep.mkInt, h⟩) (hs _ _ _)
theorem E1.pen0 {Q : Fl → Sto → Prop} {value : PySem.Expr} (h : EV f value σ (kPen0 x Q))
    (hs : ∀ env, swapsWith value (some (.Subscript (.Name x xp) (.Constant (.int 0) kk kp) sp)) pos.line env = pure false := by intros; rfl) : E1 f (.Assign [.Subscript (.Name x xp) (.Constant (.int 0) kk kp) sp] value pos) σ Q := fun O E s m N I => by
  refine wpAny_Assign_Subscript (PostV.k (h O E s m N I) fun a σ₁ h₁ t₁ N₁ v I₁ E₁ R₁ qq => ?_) (hs _)
  obtain ⟨i, rfl, P, n, c, e, hp, q⟩ := qq
  obtain ⟨ti, rfl⟩ := R₁.outInt
  refine PostV.kk (EV.name (Q := fun a σ' => a = .val (.ref P) ∧ σ' = σ₁) e ⟨rfl, rfl⟩ O E { s with heap := h₁, toks := t₁ } m N₁ I₁) fun h₂ t₂ N₂ v I₂ E₂ R₂ => ?_
  obtain rfl := R₂.outVal
  refine wpAny_Constant_int ?_
  refine pen_set0 (s := { s with heap := h₂, toks := t₂ + 1 }) I₂ hp fun h' N' I' E' => ?_
  exact ⟨.next, _, h', _, m, N', rfl, I', E₁.trans (E₂.trans E'), rfl, q⟩
theorem E1.penInc {Q : Fl → Sto → Prop} {value : PySem.Expr} (e : σ.loc.lookup x = some (.val (.ref P))) (hp : σ.pen = some (P, n, c)) (h : EV f value σ (kPenI σ P n c Q))
    (hi : ∀ ov iv new, augStore (.Constant (.int 1) kk kp) ov iv new = (do holding [new, ov, iv] (setItem ov iv new); release [new, ov, iv] []; pure .next) := by intros; rfl) : E1 f (.AugAssign (.Subscript (.Name x xp) (.Constant (.int 1) kk kp) sp) .Add value pos) σ Q := fun O E s m N I => by
  refine wpAny_AugAssign_SubscriptAny ?_ hi
  refine PostV.kk (EV.name (Q := fun a σ' => a = .val (.ref P) ∧ σ' = σ) e ⟨rfl, rfl⟩ O E s m N I) fun h₂ t₂ N₂ v I₂ E₂ R₂ => ?_
  obtain rfl := R₂.outVal
  refine wpAny_Constant_int ?_
  refine pen_get1 (s := { s with heap := h₂, toks := t₂ + 1 }) I₂ hp fun t => ?_
  refine PostV.k (h O E { s with heap := h₂, toks := t₂ + 1 } m N₂ I₂) fun a σ₁ h₁ t₁ N₁ v I₁ E₁ R₁ qq => ?_
  obtain ⟨i, rfl, rfl, q⟩ := qq
  obtain ⟨ti, rfl⟩ := R₁.outInt
  with_reducible refine iadd_int ?_
  refine pen_set1 (s := { s with heap := h₁, toks := t₁ + 1 }) I₁ hp fun h' N' I' E' => ?_
  exact ⟨.next, _, h', _, m, N', rfl, I', E₂.trans (E₁.trans E'), rfl, q⟩
theorem AO.pen0 {ts : List (Value → Sem Unit)} {i : Int} {avs : List AV} {Q : Sto → Prop} (e : σ.loc.lookup x = some (.val (.ref P))) (hp : σ.pen = some (P, n, c)) (h : AO f ts avs { σ with pen := some (P, i, c) } Q) :
    AO f (assign (.Subscript (.Name x xp) (.Constant (.int 0) kk kp) sp) f.env :: ts) (.int i :: avs) σ Q := fun O E s m N vs I R => by
  obtain ⟨v, r, rfl, R₁, R₂⟩ := R
  obtain ⟨ti, rfl⟩ := R₁.outInt
  refine assignInOrder_cons (kas_sub ?_)
  refine PostV.kk (EV.name (Q := fun a σ' => a = .val (.ref P) ∧ σ' = σ) e ⟨rfl, rfl⟩ O E s m N I) fun h₂ t₂ N₂ v I₂ E₂ R₃ => ?_
  obtain rfl := R₃.outVal
  refine wpAny_Constant_int ?_
  refine pen_set0 (s := { s with heap := h₂, toks := t₂ + 1 }) I₂ hp fun h' N' I' E' => ?_
  have E₃ := E₂.trans E'
  refine wpAny_mono (h O E { s with heap := h', toks := t₂ + 1 } m N' r I' (R₂.mono (I.tupSub E₃))) (fun _ s₂ p => ?_) fun _ _ e => e
  exact PostS.of E₃ p
theorem E1.penTwo {Q : Fl → Sto → Prop} {y : Str} {yp tp : Pos} {k : Nat} {value : PySem.Expr} (h : EV f value σ (kPen2 f x y Q))
    (hs : ∀ env, swapsWithSole [.Tuple [.Subscript (.Name x xp) (.Constant (.int 0) kk kp) sp, .Name y yp] k tp] value pos.line env = pure false) (hw : swappedStores [.Tuple [.Subscript (.Name x xp) (.Constant (.int 0) kk kp) sp, .Name y yp] k tp] value f.env = pure none) :
    E1 f (.Assign [.Tuple [.Subscript (.Name x xp) (.Constant (.int 0) kk kp) sp, .Name y yp] k tp] value pos) σ Q :=
  E1.unpack 2 (fun O E s m N I => wpAny_mono (h O E s m N I) (fun v s' ⟨av, σ', h', tk', N', a1, a2, a3, a4, i, b, e, P, n, c, e1, e2, e3, q⟩ => ⟨av, σ', h', tk', N', a1, a2, a3, a4, [.int i, b], e, rfl, AO.pen0 e1 e2 (AO.name (.inl e3) (AO.nil q))⟩) fun _ _ e => e) hs hw (fun _ => rfl) (fun _ => rfl)
end
end
end Mine
end
section
namespace Mine
theorem bindL_lookup (k : Str → Option NameKind) (y : Str) (hy : k y = some .local) : ∀ (b : List (Str × Value)) (m : Str → Option Value), (b.map (·.1)).Nodup → bindL k b m y = (match b.lookup y with | some v => some v | none => m y)
  | [], m, _ => rfl
  | (n, v) :: r, m, hn => by
    simp only [List.map_cons, List.nodup_cons] at hn
    unfold bindL
    rw [bindL_lookup k y hy r _ hn.2, List.lookup_cons]
    by_cases h : y = n
    · subst h
      have : r.lookup y = none := by
        rw [List.lookup_eq_none_iff]
        intro p hp
        have : p.1 ≠ y := fun q => hn.1 (q ▸ List.mem_map_of_mem hp)
        simpa using Ne.symm this
      rw [this]
      simp [hy]
    · have hb : (y == n) = false := beq_eq_false_iff_ne.mpr h
      rw [hb]
      cases r.lookup y with
      | some u => rfl
      | none =>
        show (if k n = some .local then fun z => if z = n then some v else m z else m) y = m y
        split
        · simp [h]
        · rfl
theorem bindC_lookup (k : Str → Option NameKind) (y : Str) (hy : k y ≠ some .local) : ∀ (b : List (Str × Value)) (m : Str → Option Value), (b.map (·.1)).Nodup → bindC k b m y = (match b.lookup y with | some v => some v | none => m y)
  | [], m, _ => rfl
  | (n, v) :: r, m, hn => by
    simp only [List.map_cons, List.nodup_cons] at hn
    unfold bindC
    rw [bindC_lookup k y hy r _ hn.2, List.lookup_cons]
    by_cases h : y = n
    · subst h
      have : r.lookup y = none := by
        rw [List.lookup_eq_none_iff]
        intro p hp
        have : p.1 ≠ y := fun q => hn.1 (q ▸ List.mem_map_of_mem hp)
        simpa using Ne.symm this
      rw [this]
      simp [hy]
    · have hb : (y == n) = false := beq_eq_false_iff_ne.mpr h
      rw [hb]
      cases r.lookup y with
      | some u => rfl
      | none =>
        show (if k n = some .local then m else fun z => if z = n then some v else m z) y = m y
        split
        · rfl
        · simp [h]
theorem SPEC.enterC {G : Gl} {need : Nat} {fa : Addr} {args : List AV} {pen : Pen} {Q : AV → Pen → Prop} {name qual : Str} {params : Arguments} {body : List Stmt} {scope : Scope} {dV kV doc pm cdv ct oc : Value} {an od : Option Addr} {osl : Array (Option Value)} (names : List Str) (xc : Str)
    (ho : G.K.lookup fa = some ⟨oc, od, .func (fnOf name qual params body scope dV kV doc pm an cdv ct), osl⟩) (hcd : codeIn G.K cdv qual = true)
    (hb : HBind (fnOf name qual params body scope dV kV doc pm an cdv ct) names args.length) (hnd : names.Nodup) (hlen : names.length = args.length)
    (hloc : ∀ x ∈ names, scope.names.lookup x = some .local ∨ (x = xc ∧ scope.names.lookup x = some .cell)) (hxn : xc ∈ names) (hxc : scope.names.lookup xc = some .cell) (hcl : ∀ n, cellsFrom n scope.names [] = [(xc, n)])
    (hco : scope.isCoroutine = false) (hgen : scope.isGenerator = false) (hk : scope.kind = .function) (hdb : ∀ x ∈ scope.names, (x.1 == ("__debug__" : Str)) = false ∧ (x.1 == ("__classdict__" : Str)) = false)
    (h : ∀ (A A₀ : Around) (base : Heap) (outer : List Env) (g : Heap) (L : Addr), EX ⟨G, A, A₀, base, outer, g, L, qual, scope, fa, cdv, [(xc, L + 1)], penA pen, need⟩ body ⟨names.zip args, pen⟩ (endQ Q)) : SPEC G need fa args pen Q := by
  rintro f rfl O hr E s m N vs F n R P
  have hnd' : ((names.zip vs).map (·.1)).Nodup := by
    rw [List.map_fst_zip (by rw [hlen, R.length]; exact Nat.le_refl _)]; exact hnd
  refine wpAny_call (code_defC O.B F O.X n O.T O.hA rfl O.hk ho hcd (Nat.lt_of_le_of_lt (Nat.le_add_right _ _) O.hd) (BindsTo.of_eq (hb vs R.length)) ?_ (by rw [hcl]; simp) (fun g L' h₁ tk cells FG F' N' Y B' X' T' _ => ?_) hco hgen hk)
  · rw [List.all_eq_true]
    intro y hy
    rcases hloc _ (List.of_mem_zip hy).1 with e | ⟨_, e⟩
    · simp [e]
    · simp [e]
  have he : envOfC qual scope L' fa cdv = envX qual scope L' fa cdv [(xc, L' + 1)] := by unfold envOfC; rw [hcl]
  rw [hcl] at Y
  obtain ⟨oc', rfl, hoc⟩ := Y.one
  have hko : ∀ y, (envOfC qual scope L' fa cdv).kindOf y = scope.names.lookup y := fun y => rfl
  have hoc' : ∃ v, oc'.data = .cell (some v) ∧ (names.zip vs).lookup xc = some v := by
    rw [bindC_lookup _ xc (by rw [hko, hxc]; decide) _ _ hnd'] at hoc
    cases hl : (names.zip vs).lookup xc with
    | some v => rw [hl] at hoc; exact ⟨v, hoc, rfl⟩
    | none =>
      exfalso
      rw [List.lookup_eq_none_iff] at hl
      obtain ⟨i, hi, hx⟩ := List.getElem_of_mem hxn
      have hi' : i < vs.length := by rw [R.length, ← hlen]; exact hi
      have : (xc, vs[i]) ∈ names.zip vs := by
        rw [List.mem_iff_getElem]
        exact ⟨i, by rw [List.length_zip]; omega, by simp [hx]⟩
      simpa using hl _ this
  obtain ⟨v, hdv, hlv⟩ := hoc'
  rw [he]
  let f' : Fm := ⟨f.toGl, f.A.deeper (envX qual scope L' fa cdv [(xc, L' + 1)]), f.A, f.base, f.env :: f.outer, g, L', qual, scope, fa, cdv, [(xc, L' + 1)], penA pen, need⟩
  have O' : f'.Ok := ⟨B', X', T', Around.frames_deeper O.hA, O.hh, hk, by show f.A.depth + 1 + need < _; have := O.hd; omega, by show f.A.units + 3 + 8 * need + 8 < _; have := O.hu; omega, hdb⟩
  have sub : ∀ q ∈ N, q ∈ [(L' + 1, oc')] ++ N := fun q hq => List.mem_append_right _ hq
  have I' : Inv f' h₁ (bindL (envOfC qual scope L' fa cdv).kindOf (names.zip vs) fun _ => none) ([(L' + 1, oc')] ++ N) ⟨names.zip args, pen⟩ := by
    refine ⟨F', N', fun y av e => ?_, fun P' n' c' e => ?_, fun P' n' c' e => ?_, fun c hc => ?_, fun y c hc => ?_⟩
    · obtain ⟨u, hu, hr⟩ := lookup_zip R e
      have hmem : y ∈ names := (List.of_mem_zip (mem_of_lookup hu)).1
      rcases hloc y hmem with hy | ⟨rfl, hy⟩
      · refine .inl ⟨hy, u, ?_, hr.mono (tupSub_of sub)⟩
        rw [bindL_lookup _ y (by rw [hko, hy]) _ _ hnd', hu]
      · refine .inr ⟨.inl hy, L' + 1, oc', u, ?_, List.mem_append_left _ (.head _), ?_, hr.mono (tupSub_of sub)⟩
        · show List.lookup y [(y, L' + 1)] = _
          simp
        · rw [hdv, ← hlv, hu]
    · obtain ⟨t₁, t₂, k, hm⟩ := P P' n' c' e
      exact ⟨t₁, t₂, k, sub _ hm⟩
    · show P' ∈ penA pen
      have e' : pen = some (P', n', c') := e
      rw [e']; exact List.mem_singleton.mpr rfl
    · have hc' : c ∈ penA pen := hc
      cases hp : pen with
      | none => rw [hp] at hc'; cases hc'
      | some x =>
        obtain ⟨P', n', c'⟩ := x
        rw [hp] at hc'
        obtain rfl : c = P' := List.mem_singleton.mp hc'
        obtain ⟨t₁, t₂, k, hm⟩ := P _ _ _ hp
        exact ⟨_, sub _ hm, penO_ne⟩
    · have hc' : List.lookup y [(xc, L' + 1)] = some c := hc
      have hm := mem_of_lookup hc'
      rw [List.mem_singleton] at hm
      injection hm with h1 h2
      subst h2
      exact ⟨oc', _, List.mem_append_left _ (.head _), hdv⟩
  refine PostS.k (h _ _ _ _ _ _ O' _ { s with heap := h₁, toks := tk } _ _ I') fun φ σ' h' tk' m' N₁ fl I₁ E₁ R₁ q => ?_
  refine leaveK_ I₁.F I₁.nw fun F₂ N₂ => ?_
  have fin : ∀ av v, Rep f.K N₁ av v → Q av σ'.pen → PostC f s m N pen Q v { s with heap := h', toks := tk' } := fun av v r q =>
    ⟨av, σ'.pen, h', tk', N₁, rfl, F₂, N₂, fun q' hq hw => E₁ q' (sub _ hq) hw, I₁.pen, I₁.penW, r, q, I₁.mt⟩
  cases φ with
  | next =>
    obtain rfl : fl = .next := R₁
    exact fin .none .none rfl q
  | ret a =>
    obtain ⟨v, rfl, r⟩ := R₁
    exact fin a v r q
section
variable {f : Fm} {σ : Sto}
theorem Inv.carry {h h' : Heap} {m : Str → Option Value} {N N' : Led} {pen' : Pen} (V : Inv f h m N σ) (F₂ : Fr f.g f.L h' m) (n₂ : News f.g f.L h' N') (ext : ∀ q ∈ N, q.1 ∉ penA σ.pen → q ∈ N') (pi : PenIn N' pen')
    (pt : ∀ P n c, pen' = some (P, n, c) → P ∈ penA σ.pen) (mt : ∀ c ∈ penA σ.pen, ∃ o, (c, o) ∈ N' ∧ ¬ Solid o) : Inv f h' m N' { σ with pen := pen' } ∧ Ext f N N' := by
  have sub : ∀ P ∈ penA σ.pen, P ∈ f.W := fun P hP => by
    cases hp : σ.pen with
    | none => rw [hp] at hP; cases hP
    | some x =>
      obtain ⟨P', n, c⟩ := x
      rw [hp] at hP
      obtain rfl : P = P' := List.mem_singleton.mp hP
      exact V.penW _ _ _ hp
  have E₂ : Ext f N N' := fun q hq hw => ext q hq fun z => hw (sub _ z)
  have ts : TupSub N N' := V.tupSub E₂
  have ncell : ∀ c o v, (c, o) ∈ N → o.data = .cell v → c ∉ penA σ.pen := fun c o v hm hd z => by
    cases hp : σ.pen with
    | none => rw [hp] at z; cases z
    | some x =>
      obtain ⟨P', n, c'⟩ := x
      rw [hp] at z
      obtain rfl : c = P' := List.mem_singleton.mp z
      obtain ⟨_, _, _, hm'⟩ := V.pen _ _ _ hp
      rw [News.uniq V.nw hm hm'] at hd
      exact nomatch hd
  refine ⟨⟨F₂, n₂, fun y b e => ?_, pi, fun P n c e => sub _ (pt P n c e), fun c hc => ?_, fun y c hc => ?_⟩, E₂⟩
  · rcases V.loc y b e with ⟨hy, u, hu, r⟩ | ⟨hy, c₁, o₁, v₁, e₁, m₁, d₁, r₁⟩
    · exact .inl ⟨hy, u, hu, r.mono ts⟩
    · exact .inr ⟨hy, c₁, o₁, v₁, e₁, ext _ m₁ (ncell _ _ _ m₁ d₁), d₁, r₁.mono ts⟩
  · by_cases z : c ∈ penA σ.pen
    · exact mt c z
    · obtain ⟨o, ho, r⟩ := V.mt c hc
      exact ⟨o, ext _ ho z, r⟩
  · obtain ⟨o, v, ho, r⟩ := V.cells y c hc
    exact ⟨o, v, ext _ ho (ncell _ _ _ ho r), r⟩
end
end Mine
end
section
namespace Mine
theorem join_T : ∀ t : List Nat, Txt.join (T []) (t.map fun c => T [c]) = T t := by
  have key : ∀ (t : List Nat), Str.join (T []) (t.map fun c => T [c]) = T t := by
    intro t
    induction t with
    | nil => rfl
    | cons c r ih =>
      cases r with
      | nil => rfl
      | cons d r =>
        show T [c] ++ T [] ++ Str.join (T []) ((d :: r).map fun c => T [c]) = _
        rw [ih, T_app, T_app]; rfl
  intro t
  show Builtin.Str.glued (T []) _ = _
  rw [StrLaws.glued_eq_join]
  exact key t
theorem strsAre_snoc {y : Str} {t : Tok} : ∀ {vs : List Value} {ys : List Str}, StrsAre vs ys → StrsAre (vs ++ [.str y t]) (ys ++ [y])
  | _, _, .nil => .cons y t .nil
  | _, _, .cons z u r => .cons z u (strsAre_snoc r)
section
variable {f : Fm} {σ : Sto}
theorem EV.joinComp {Q : AV → Sto → Prop} {pk pn y : Str} {fa : Addr} {need : Nat} {xs : List Nat} {scope : Scope} {cl : List (Str × Addr)} {e : PySem.Expr} {kj kx : Nat} {jp ap np pp xp cp yp rp rp' lp pos : Pos} {P : Addr} (x : Str) (ex : x = T xs) (pl : Env → Sem Bool)
    (hr : nsIn f.K mainGlobals (Str.ofString "range") = some none) (hrx : f.cs.names.lookup (Str.ofString "range") = some .globalImplicit)
    (hn : nsIn f.K mainGlobals pk = some (some (.ref fa))) (hkp : keepIn f.K (.ref fa) = true)
    (hpk : ∀ C, (compEnvC scope cl C f.env).kindOf pk = some .globalImplicit) (hpk2 : (pk == ("__debug__" : Str)) = false)
    (hpc : ∀ C, (compEnvC scope cl C f.env).kindOf pn = some .cell) (hpc2 : (pn == ("__debug__" : Str)) = false) (hcl : cl.lookup pn = f.cl.lookup pn) (hpn : f.cs.names.lookup pn = some .cell)
    (hclos : closureFor scope f.env = pure cl) (hcell : ∀ y ∈ scope.names, y.2 ≠ .cell) (hkind : scope.kind = .function)
    (hnames : ∀ y ∈ scope.names, y.2 = .local → scope.names.lookup y.1 = some .local) (hy : scope.names.lookup y = some .local)
    (hspec : ∀ i c, SPEC f.toGl need fa [.val (.ref P), .str (T xs)] (some (P, i, c)) (fun r q => (∃ n' c', q = some (P, n', c')) ∧ ∃ ch, ch ∈ xs ∧ r = .str (T [ch]))) (hroom : need + 1 ≤ f.room) (hxs : xs.length ≤ 1000)
    (h : EV f e σ fun a σ₁ => ∃ n : Nat, a = .int n ∧ n ≤ 1000 ∧ σ₁.loc.lookup pn = some (.val (.ref P)) ∧ (∃ i c, σ₁.pen = some (P, i, c)) ∧ ∀ t i' c', t.length = n → (∀ c ∈ t, c ∈ xs) → Q (.str (T t)) { σ₁ with pen := some (P, i', c') })
    (hc : ∀ env, eval (.Call (.Attribute (.Constant (.str (Str.ofString "")) kj jp) (Str.ofString "join") ap) [.ListComp (.Call (.Name pk np) [.Name pn pp, .Constant (.str x) kx xp] [] cp) [⟨.Name y yp, .Call (.Name (Str.ofString "range") rp) [e] [] rp', [], 0⟩] scope lp] [] pos) env = (do let ov ← eval (.Constant (.str (Str.ofString "")) kj jp) env; standAt ap.atName; let (fn, first) ← holding [ov] (getMethod ov (Str.ofString "join") (pl env)); callWith pos fn first (backTo pos (starEach [.ListComp (.Call (.Name pk np) [.Name pn pp, .Constant (.str x) kx xp] [] cp) [⟨.Name y yp, .Call (.Name (Str.ofString "range") rp) [e] [] rp', [], 0⟩] scope lp] env)) []) := by intros; rfl)
    (hc2 : ∀ env, eval (.Call (.Name pk np) [.Name pn pp, .Constant (.str x) kx xp] [] cp) env = (do let fv ← eval (.Name pk np) env; callWith cp fv [] (backTo cp (starEach [.Name pn pp, .Constant (.str x) kx xp] env)) (backToKw cp (keywordEach [] env))) := by intros; rfl)
    (he2 : ∀ env, starEach [e] env = (false, eval e env) :: starEach [] env := by intros; rfl)
    (hs : ∀ env x, foldedSetIterable (.Call (.Name (Str.ofString "range") rp) [e] [] rp') env x = pure x := by intros; rfl) :
    EV f (.Call (.Attribute (.Constant (.str (Str.ofString "")) kj jp) (Str.ofString "join") ap) [.ListComp (.Call (.Name pk np) [.Name pn pp, .Constant (.str x) kx xp] [] cp) [⟨.Name y yp, .Call (.Name (Str.ofString "range") rp) [e] [] rp', [], 0⟩] scope lp] [] pos) σ Q := fun O E s m N I => by
  subst ex
  refine MethodCall_ (wpAny_Constant_str ?_) (hc _)
  with_reducible refine GM.join ?_
  refine callWith_method1 (wpAny_items_cons (LCg.ListComp_U (s := { s with toks := s.toks + 1 }) I.F hclos hcell hkind hnames hy ?_ (hs _)) rfl) rfl rfl
  refine Call_ (nameX_B I.F O.X (topRead O) hr (v := .type "range") (by decide +kernel) (by decide) ?_ O.hk hrx (by decide)) rfl
  refine PyProof.Rows.callWith_type1 (wpAny_items_cons (PostV.k (h O E { s with toks := s.toks + 1 } m N I) fun a σ₁ h₁ t₁ N₁ v I₁ E₁ R₁ qq => ?_) (he2 _)) (he2 _) rfl
  obtain ⟨n, rfl, hnn, hpl, ⟨i₀, c₀, hpp⟩, hq⟩ := qq
  obtain ⟨tk, rfl⟩ := R₁
  refine wpAny_items_nil ?_
  refine range1_rows I₁.F I₁.nw fun h₂ t₂ u₁ u₂ u₃ hrg F₂ N₂ grow => ?_
  have I₂ := I₁.grow grow
  have hsmall : Builtin.Range.small 0 (n : Int) 1 = true := small_one (by decide) (by decide) (by omega) (by omega)
  have hsize : Builtin.Range.rangeSize 0 (n : Int) 1 = (n : Int) := by
    unfold Builtin.Range.rangeSize
    simp only [show (1 : Int) > 0 from by decide, if_true]
    split
    · simp
    · omega
  have hle : n ≤ sizeLine := by have := sizeLine_eq; omega
  refine LCg.CompSrc.range (n := n) O.hh F₂ N₂ hrg hsmall hsize hle fun g => ?_
  have key : ∀ (j i : Nat) (ys : List Value) (news : Led) (t : List Nat) (i' c' : Int), i + j = n → StrsAre ys (t.map fun c => T [c]) → (t.length = i ∧ ∀ c ∈ t, c ∈ xs) → (∀ h, Fr f.g f.L h m → News f.g f.L h news → Inv f h m news { σ₁ with pen := some (P, i', c') }) → Ext f N₁ news →
      ∀ (Fin : List Value → List (Addr × Obj) → Prop) (s₂ : Shared), (∀ (ys : List Value) (news : Led) (t : List Nat) (i' c' : Int), StrsAre ys (t.map fun c => T [c]) → (t.length = n ∧ ∀ c ∈ t, c ∈ xs) → (∀ h, Fr f.g f.L h m → News f.g f.L h news → Inv f h m news { σ₁ with pen := some (P, i', c') }) → Ext f N₁ news → Fin ys news) →
      LCg.CompRest f.prog f.w f.A f.g f.L m f.env (.Call (.Name pk np) [.Name pn pp, .Constant (.str (T xs)) kx xp] [] cp) y scope cl s₂ (fun _ => True) (fun i v => ∃ t, v = .int (0 + (i : Int)) t) Fin j i ys news := by
    intro j
    induction j with
    | zero =>
      intro i ys news t i' c' hi hy' ht K Ex Fin s₂ hF
      exact LCg.CompRest.zero (hF ys news t i' c' hy' ⟨by have := ht.1; omega, ht.2⟩ K Ex)
    | succ j ih =>
      intro i ys news t i' c' hi hys ht K Ex Fin s₂ hF
      refine LCg.CompRest.succ ?_
      intro v Ia oI Ca oC Da m₂ h₃ tk₃ E' hv hC hx F₃ N₃ off ne
      have N₃' : News f.g f.L h₃ news := fun p hp => N₃ p (.tail _ (.tail _ (.tail _ hp)))
      have V := K h₃ F₃ N₃'
      obtain ⟨c₁, o₁, hc₁, hm₁, hd₁⟩ : ∃ c o, f.cl.lookup pn = some c ∧ (c, o) ∈ news ∧ o.data = .cell (some (.ref P)) := by
        rcases V.loc pn _ hpl with ⟨hx, _⟩ | ⟨_, c, o, v, h1, h2, h3, h4⟩
        · rw [hpn] at hx; cases hx
        · obtain rfl := h4.outVal
          exact ⟨c, o, h1, h2, h3⟩
      refine genP fun P1 p1 => ?_
      refine Call_ (LCgL.ld_global (env := f.env) F₃ O.X O.T hn ?_ rfl hkind (hpk _) hpk2) (hc2 _)
      refine callWith_K O.X hkp (wpAny_items_cons (lcf_cell N₃' (hcl.trans hc₁) hm₁ hd₁ (wpAny_items_cons (wpAny_Constant_str (wpAny_items_nil ?_)) rfl) hkind (hpc _) hpc2) rfl) rfl rfl
      refine ⟨O.X.keeps F₃.keep, ?_⟩
      have offm := off.mem
      obtain ⟨q₁, q₂, qk, hPm⟩ := V.pen P i' c' rfl
      have hPoff := offm _ hPm
      refine wpAny_mono (hspec i' c' f rfl O hroom E' { s₂ with heap := h₃, toks := tk₃ + 1 } m _ _ F₃ N₃ (RepL.mkCons Rep.mkVal (RepL.mkCons (Rep.mkStr (by rw [T_len]; have := sizeLine_eq; omega)) RepL.mkNil)) (fun P' n' c'' e => by
        obtain ⟨a1, a2, a3, a4⟩ := V.pen P' n' c'' e
        exact ⟨a1, a2, a3, .tail _ (.tail _ (.tail _ a4))⟩)) (fun v₄ s₄ p₄ => ?_) fun _ _ e => e
      obtain ⟨av, pen', h₄, t₄, N₄, rfl, F₄, n₄, ext, pi, pt, R₄, ⟨⟨i'', c'', rfl⟩, ch, hch, rfl⟩, mt⟩ := p₄
      obtain ⟨_, tv, rfl⟩ := R₄.outStr
      have keepf : ∀ q : Addr × Obj, q ∈ N₄ → (q.1 ≠ Ia ∧ q.1 ≠ Ca ∧ q.1 ≠ Da) → q ∈ N₄.filter (fun p => p.1 != Ia && (p.1 != Ca && p.1 != Da)) := fun q hq hne => List.mem_filter.mpr ⟨hq, by simp [hne.1, hne.2.1, hne.2.2]⟩
      have n₄' : News f.g f.L h₄ (N₄.filter (fun p => p.1 != Ia && (p.1 != Ca && p.1 != Da))) := fun p hp => n₄ p (List.mem_filter.mp hp).1
      obtain ⟨I₄, E₄⟩ := V.carry (N' := N₄.filter (fun p => p.1 != Ia && (p.1 != Ca && p.1 != Da))) (pen' := some (P, i'', c'')) F₄ n₄' (fun q hq hw => keepf q (ext q (.tail _ (.tail _ (.tail _ hq))) hw) (offm q hq))
        (fun P' n' c₂ e => by
          obtain ⟨a1, a2, a3, a4⟩ := pi P' n' c₂ e
          injection e with e; injection e with e1 e2; subst e1
          exact ⟨a1, a2, a3, keepf _ a4 hPoff⟩)
        (fun P' n' c₂ e => pt P' n' c₂ e)
        (fun c hc => by
          obtain ⟨o, ho, hso⟩ := mt c hc
          have : c = P := List.mem_singleton.mp hc
          subst this
          exact ⟨o, keepf _ ho hPoff, hso⟩)
      have up : ∀ q : Addr × Obj, q ∈ ((Ia, oI) :: (Ca, oC) :: (Da, LCg.lst ys) :: news) → q.1 ≠ P → q ∈ N₄ := fun q hq hne => ext q hq fun z => hne (List.mem_singleton.mp z)
      refine p1 _ _ ⟨h₄, t₄, N₄.filter (fun p => p.1 != Ia && (p.1 != Ca && p.1 != Da)), rfl, F₄, fun p hp => ?_, LCg.Off3.of fun p hp => ?_, trivial, ?_⟩
      · rcases List.mem_cons.mp hp with rfl | hp
        · exact n₄ _ (up _ (.head _) (Ne.symm hPoff.1))
        · rcases List.mem_cons.mp hp with rfl | hp
          · exact n₄ _ (up _ (.tail _ (.head _)) (Ne.symm hPoff.2.1))
          · rcases List.mem_cons.mp hp with rfl | hp
            · exact n₄ _ (up _ (.tail _ (.tail _ (.head _))) (Ne.symm hPoff.2.2))
            · exact n₄' p hp
      · have := (List.mem_filter.mp hp).2
        simp only [Bool.and_eq_true, bne_iff_ne] at this
        exact this
      · refine ih (i + 1) _ _ (t ++ [ch]) i'' c'' (by omega) ?_ ⟨by rw [List.length_append, ht.1]; rfl, fun c hc => (List.mem_append.mp hc).elim (ht.2 c) fun h => by rw [List.mem_singleton.mp h]; exact hch⟩ (fun h F N => ⟨F, N, I₄.loc, I₄.pen, I₄.penW, I₄.mt, I₄.cells⟩) (Ex.trans E₄) Fin s₂ hF
        rw [List.map_append]
        exact strsAre_snoc hys
  refine key n 0 [] N₁ [] i₀ c₀ (by omega) .nil ⟨rfl, fun c hc => nomatch hc⟩ (fun h F N => ?_) .refl _ _ ?_
  · have I₃ : Inv f h m N₁ σ₁ := ⟨F, N, I₁.loc, I₁.pen, I₁.penW, I₁.mt, I₁.cells⟩
    have : σ₁ = { σ₁ with pen := some (P, i₀, c₀) } := by rw [← hpp]
    rw [← this]; exact I₃
  · intro ys news t i' c' hys ⟨ht, hmem⟩ K Ex
    show LCg.FinE _ _ _ _ _ _ _
    intro D h₅ tk₅ F₅ N₅ off1
    have hlD : h₅.IsList D ys.toArray := ⟨_, (N₅ (D, LCg.lst ys) (.head _)).1, rfl, _, rfl⟩
    refine wpAny_items_nil ?_
    show wpAny _ _ (PySem.call (.builtin "str.join") [.str (Str.ofString "") s.toks, .ref D]) _ _ _
    have hlen : (t.map fun c => T [c]).length = n := by rw [List.length_map, ht]
    have hsum : ((t.map fun c => T [c]).map (·.length)).sum = n := by
      rw [List.map_map]
      have : ((fun x : Str => x.length) ∘ fun c : Nat => T [c]) = fun _ => 1 := by funext c; rfl
      rw [this, ← ht]
      clear ht hys hlen K hmem
      induction t with
      | nil => rfl
      | cons a r ih => rw [List.map_cons, List.sum_cons, ih, List.length_cons]; omega
    refine join_listW hlD (by simpa using hys) (by decide) (by rw [hsum, hlen]; omega) fun t' k => ?_
    have hj : Txt.join (Str.ofString "") (t.map fun c => T [c]) = T t := by
      rw [show Str.ofString "" = T [] from by decide +kernel]; exact join_T t
    rw [hj]
    have N₅' : News f.g f.L h₅ news := fun p hp => N₅ p (.tail _ hp)
    exact ⟨.str (T t), _, h₅, k, news, rfl, K h₅ F₅ N₅', E₁.trans Ex, Rep.mkStr (by rw [T_len, ht]; exact hle), hq t i' c' ht hmem⟩
end
end Mine
end
section
namespace Mine
section
variable {f : Fm} {σ : Sto}
def itL (l : Addr) (i : Nat) : Obj := { cls := .type "list_iterator", data := .fields #[.ref l, .int i 0] }
theorem IntsAre.get : ∀ {vs : List Value} {ns : List Int} {i : Nat} {v : Value}, IntsAre vs ns → vs[i]? = some v → ∃ k t, v = .int k t
  | _, _, i, v, .nil, h => by simp at h
  | _, _, 0, v, .cons n t r, h => by simp at h; exact ⟨_, _, h.symm⟩
  | _, _, i + 1, v, .cons n t r, h => IntsAre.get r (by simpa using h)
theorem E1.forSlice {Q : Fl → Sto → Prop} {x y : Str} {xp yp ip sp bp pos : Pos} {k kk : Nat} {body : List Stmt} {sc : Addr} {vs : List Value} {ns : List Int} (e : σ.loc.lookup x = some (.val (.ref sc))) (hl : f.g.IsList sc vs.toArray) (hi : IntsAre vs ns) (hsz : vs.length ≤ 1000)
    (st : Stb f y) (J : Sto → Prop) (hJ : J σ) (step : ∀ i σ', J σ' → EX f body (σ'.put y (.int i)) (Fl.loop J Q)) (fin : ∀ σ', J σ' → Q .next σ')
    (hs : ∀ env z, foldedSetIterable (.Subscript (.Name x xp) (.Slice none (some (.Constant (.int (k : Nat)) kk ip)) none sp) bp) env z = pure z := by intros; rfl) (ht : ∀ it v, letOwnedTupleGo (.Name y yp) it v = pure () := by intros; rfl)
    (hb : ∀ l a, subscripted (.Slice none (some (.Constant (.int (k : Nat)) kk ip)) none sp) false (.ref l) (.ref a) = operate [.ref a, .ref l] (getItem (.ref l) (.ref a)) := by intros; with_unfolding_all rfl)
    (hg : ∀ l r, letTemporaryGo (.Name x xp) (.ref l) r = pure () := by intros; with_unfolding_all rfl) :
    E1 f (.For (.Name y yp) (.Subscript (.Name x xp) (.Slice none (some (.Constant (.int (k : Nat)) kk ip)) none sp) bp) body [] pos) σ Q := fun O E s m N I => by
  refine wpAny_For (Subscript_ (wpAny_mono (EV.name (Q := fun a σ' => a = .val (.ref sc) ∧ σ' = σ) e ⟨rfl, rfl⟩ O E s m N I) (fun v s₁ p => ?_) fun _ _ e => e)) (hs _)
  obtain ⟨_, _, h₁, t₁, N₁, rfl, I₁, E₁, R₁, rfl, hσ⟩ := p
  rw [hσ] at I₁
  obtain rfl := R₁.outVal
  refine wpAny_Slice (evalPart_none_step (evalPart_some_step (wpAny_Constant_int (evalPart_none_step ?_))))
  have hlh : h₁.IsList sc vs.toArray := by obtain ⟨o, ho, r⟩ := hl; exact ⟨o, I₁.F.keep _ _ ho, r⟩
  have hsl : vs.toArray.size ≤ sizeLine := by have := sizeLine_eq; rw [List.size_toArray]; omega
  refine slice_list (s := { s with heap := h₁, toks := t₁ + 1 }) I₁.F I₁.nw hlh .none (.int _ _) (fun h₂ F₂ N₂ => ?_) (hb _ _) (hg _) hsl
  have hii := slice_ints_uptoW hi (y := (k : Nat)) (by omega)
  have hle : (slicePick vs.toArray none (some (k : Nat)) none).size ≤ vs.length := by have := slicePick_size_le vs.toArray none (some (k : Nat)) none; rwa [List.size_toArray] at this
  generalize slicePick vs.toArray none (some (k : Nat)) none = its at F₂ N₂ hii hle ⊢
  have hoN : News f.g f.L h₂ N₁ := fun p hp => N₂ p (.tail _ hp)
  have I₂ : Inv f h₂ m ((h₁.objs.size + 1, ({ cls := .type "list", data := .seq its } : Obj)) :: N₁) σ := (show Inv f h₂ m N₁ σ from ⟨F₂, hoN, I₁.loc, I₁.pen, I₁.penW, I₁.mt, I₁.cells⟩).more N₂ fun q hq => .tail _ hq
  refine wpAny_pyIter_list (s := { s with heap := h₂, toks := t₁ + 1 }) ⟨_, (N₂ _ (.head _)).1, rfl, _, rfl⟩ ?_
  obtain ⟨I₃, hW, off⟩ := iter_off I₂ (itL (h₁.objs.size + 1) 0) rfl
  have hWl : h₁.objs.size + 1 ∉ f.W := fun hw => by
    obtain ⟨o, hm, _⟩ := I₁.mt _ hw
    exact absurd (Heap.lt_size (I₁.nw _ hm).1) (Nat.not_lt.mpr (Nat.le_succ _))
  obtain ⟨J0, hJ0⟩ : ∃ J0 : Nat → Shared → Prop, ∀ k₀ s₀, J0 k₀ s₀ ↔ (fun n s' => ∃ i σ' h' tk' m' N', n = its.size + 1 - i ∧ i ≤ its.size ∧ s' = { s with heap := h', toks := tk' } ∧ Inv f h' m' N' σ' ∧ (∃ oi : Obj, (h₂.objs.size, oi) ∈ N' ∧ oi.cls = .type "list_iterator" ∧ oi.data = .fields #[.ref (h₁.objs.size + 1), .int (i : Nat) 0]) ∧ Ext f ((h₁.objs.size + 1, ({ cls := .type "list", data := .seq its } : Obj)) :: N₁) N' ∧ J σ') k₀ s₀ := ⟨_, fun _ _ => Iff.rfl⟩
  dsimp only at hJ0
  refine codeAny_forLoop J0 ?_ (its.size + 1) ((hJ0 _ _).mpr ⟨0, σ, _, _, m, _, rfl, Nat.zero_le _, rfl, I₃, ⟨_, .head _, rfl, rfl⟩, Ext.cons, hJ⟩) (fun v => ht _ v)
  intro n s' hk
  obtain ⟨i, σ', h', tk', m', N', rfl, hi', rfl, I', ⟨oi, hit, hoc, hod⟩, E', hJ'⟩ := (hJ0 _ _).mp hk
  clear hk
  have hget : h'.IsListIter h₂.objs.size (h₁.objs.size + 1) i := ⟨_, (I'.nw _ hit).1, hoc, hod⟩
  have hlst : h'.IsList (h₁.objs.size + 1) its := ⟨_, (I'.nw _ (E' _ (.head _) hWl)).1, rfl, _, rfl⟩
  have oncell : ∀ v, oi.data ≠ .cell v := fun v e => by rw [hod] at e; exact nomatch e
  have ontup : ¬ Solid oi := not_solid (fun es n e => by rw [hod] at e; exact nomatch e) (fun e => by rw [hod] at e; exact nomatch e) (.inl fun a c e => by rw [hod] at e; exact nomatch e)
  have sub : Ext f N₁ N' := fun q hq hw => E' q (.tail _ hq) hw
  have offN : ∀ q ∈ N₁, q.1 ≠ h₂.objs.size := fun q hq => off q (.tail _ hq)
  cases hv : its[i]? with
  | none =>
    refine wpAny_pyNext_list_end (s := { s with heap := h', toks := tk' }) O.hh hget hlst hv fun h₃ he => wpAny_execs_nil ?_
    have V := I'.drop hit he hW oncell ontup
    exact ⟨.next, σ', h₃, _, m', _, rfl, V, E₁.trans fun q hq hw => List.mem_filter.mpr ⟨sub q hq hw, by simpa using offN q hq⟩, rfl, fin σ' hJ'⟩
  | some v =>
    have hlt : i < its.size := (Array.getElem?_eq_some_iff.mp hv).1
    obtain ⟨kv, tv, rfl⟩ := IntsAre.get hii (i := i) (v := v) (by rw [Array.getElem?_toList]; exact hv)
    refine wpAny_pyNext_list_item (s := { s with heap := h', toks := tk' }) hget hlst hv fun h₃ hi₃ hs₃ => ?_
    obtain ⟨o₃, ho₃, hc₃, hd₃⟩ := hi₃
    have I₄ := I'.swap hit hs₃ ho₃ hW oncell ontup
    have rs : Rep f.K ((h₂.objs.size, o₃) :: N'.filter (fun p => p.1 != h₂.objs.size)) (.int kv) (.int kv tv) := ⟨_, rfl⟩
    refine wpAny_assign_Name (store O (s := { s with heap := h₃, toks := tk' }) I₄ rs st fun h₅ m₅ N₅ t₅ I₅ E₅ => ?_)
    refine PostS.k (step kv σ' hJ' O _ { s with heap := h₅, toks := t₅ } m₅ N₅ I₅) fun φ σ₆ h₆ t₆ m₆ N₆ fl I₆ E₆ R₆ q₆ => ?_
    have ext := (Ext.swap E' off).trans (E₅.trans E₆)
    cases φ with
    | next =>
      obtain rfl : fl = .next := R₆
      exact ⟨its.size + 1 - (i + 1), by omega, (hJ0 _ _).mpr ⟨i + 1, σ₆, h₆, t₆, m₆, N₆, rfl, hlt, rfl, I₆, ⟨o₃, E₆ _ (E₅ _ (.head _) hW) hW, hc₃, hd₃⟩, ext, q₆⟩⟩
    | ret a =>
      obtain ⟨v, rfl, r⟩ := R₆
      exact ⟨.ret a, σ₆, h₆, t₆, m₆, N₆, rfl, I₆, E₁.trans fun q hq hw => ext q (.tail _ hq) hw, ⟨v, rfl, r⟩, q₆⟩
end
theorem enterRaw {f : Fm} {need : Nat} {fa : Addr} {args : List AV} {name qual : Str} {params : Arguments} {body : List Stmt} {scope : Scope} {dV kV doc pm cdv ct oc : Value} {an od : Option Addr} {osl : Array (Option Value)} {E : Value → Shared → Prop} {s : Shared} {m : Str → Option Value} {N : Led} {vs : List Value} {R : Value → Shared → Led → Prop} (names : List Str)
    (O : f.Ok) (hr : need + 1 ≤ f.room) (F : Fr f.g f.L s.heap m) (n : News f.g f.L s.heap N) (Ra : RepL f.K N args vs)
    (ho : f.K.lookup fa = some ⟨oc, od, .func (fnOf name qual params body scope dV kV doc pm an cdv ct), osl⟩) (hcd : codeIn f.K cdv qual = true)
    (hb : HBind (fnOf name qual params body scope dV kV doc pm an cdv ct) names args.length) (hnd : names.Nodup) (hlen : names.length = args.length)
    (hloc : ∀ x ∈ names, scope.names.lookup x = some .local)
    (hco : scope.isCoroutine = false) (hgen : scope.isGenerator = false) (hk : scope.kind = .function) (hcell : ∀ x ∈ scope.names, x.2 ≠ .cell) (hdb : ∀ x ∈ scope.names, (x.1 == ("__debug__" : Str)) = false ∧ (x.1 == ("__classdict__" : Str)) = false)
    (h : ∀ (A A₀ : Around) (base : Heap) (outer : List Env) (g : Heap) (L : Addr) (E' : Value → Shared → Prop) (h₁ : Heap) (tk : Nat) (m₁ : Str → Option Value), Fm.Ok ⟨f.toGl, A, A₀, base, outer, g, L, qual, scope, fa, cdv, [], [], need⟩ → (∀ b o, f.g.get? b = some o → g.get? b = some o) →
      Inv ⟨f.toGl, A, A₀, base, outer, g, L, qual, scope, fa, cdv, [], [], need⟩ h₁ m₁ N ⟨names.zip args, none⟩ →
      wpAny (model f.prog f.w) A (execs body (envX qual scope L fa cdv [])) (fun fl s' => ∃ m' N', Fr g L s'.heap m' ∧ News g L s'.heap N' ∧ R (match fl with | .ret v => v | _ => .none) s' N') E' { s with heap := h₁, toks := tk }) :
    wpAny (model f.prog f.w) f.A (call (.ref fa) vs) (fun v s' => ∃ N', Fr f.g f.L s'.heap m ∧ News f.g f.L s'.heap N' ∧ R v s' N') E s := by
  refine wpAny_call (code_def O.B F O.X n O.T O.hA rfl O.hk ho hcd (Nat.lt_of_le_of_lt (Nat.le_add_right _ _) O.hd) (BindsTo.of_eq (hb vs Ra.length)) (fun y hy => hloc _ (List.of_mem_zip hy).1) (fun g L' h₁ FG F' N' B' X' T' => ?_) hco hgen hk hcell)
  let f' : Fm := ⟨f.toGl, f.A.deeper (envOf qual scope L' fa cdv), f.A, f.base, f.env :: f.outer, g, L', qual, scope, fa, cdv, [], [], need⟩
  have O' : f'.Ok := ⟨B', X', T', Around.frames_deeper O.hA, O.hh, hk, by show f.A.depth + 1 + need < _; have := O.hd; omega, by show f.A.units + 3 + 8 * need + 8 < _; have := O.hu; omega, hdb⟩
  have hnd' : ((names.zip vs).map (·.1)).Nodup := by
    rw [List.map_fst_zip (by rw [hlen, Ra.length]; exact Nat.le_refl _)]; exact hnd
  have I' : Inv f' h₁ (fun y => (names.zip vs).reverse.lookup y) N ⟨names.zip args, none⟩ := by
    refine ⟨F', N', fun y av e => .inl ?_, (fun P' n' c' e => nomatch e), (fun P' n' c' e => nomatch e), (fun c hc => nomatch hc), fun y c hc => nomatch hc⟩
    obtain ⟨v, hv, hr⟩ := lookup_zip Ra e
    refine ⟨hloc y ?_, v, (lookup_rev hnd' y).trans hv, hr⟩
    exact (List.of_mem_zip (mem_of_lookup hv)).1
  refine wpAny_mono (h _ _ _ _ _ _ _ h₁ _ _ O' FG.keep I') (fun fl s₁ p => ?_) fun _ _ e => e
  obtain ⟨m', N₁, F₂, N₂, r⟩ := p
  exact leaveK_ F₂ N₂ fun F₃ N₃ => ⟨N₁, F₃, N₃, r⟩
theorem execs_step {f : Fm} (O : f.Ok) {st : Stmt} {rest : List Stmt} {σ : Sto} {s : Shared} {m : Str → Option Value} {N : Led} {E : Value → Shared → Prop} {R : Flow → Shared → Prop} {Q1 : Fl → Sto → Prop} (I : Inv f s.heap m N σ) (h1 : E1 f st σ Q1) (hret : ∀ a σ', ¬ Q1 (.ret a) σ')
    (h2 : ∀ σ' h' tk' m' N', Inv f h' m' N' σ' → Ext f N N' → Q1 .next σ' → wpAny (model f.prog f.w) f.A (execs rest f.env) R E { s with heap := h', toks := tk' }) : wpAny (model f.prog f.w) f.A (execs (st :: rest) f.env) R E s := by
  refine wpAny_execs_cons (PostS.k (h1 O E s m N I) fun φ σ₁ h₁ t₁ m₁ N₁ fl I₁ E₁ R₁ q => ?_)
  cases φ with
  | next =>
    obtain rfl : fl = .next := R₁
    exact h2 σ₁ h₁ t₁ m₁ N₁ I₁ E₁ q
  | ret a => exact absurd q (hret a σ₁)
end Mine
end
section
namespace Mine
section
variable {w : World}
theorem glcountdigits : nsIn (hd.heap_1 w.params) mainGlobals (Str.ofString "count_digits") = some (some (.ref 92)) := by kernel_rfl
theorem kp92 : keepIn (hd.heap_1 w.params) (.ref 92) = true := by kernel_rfl
theorem glstripzeros : nsIn (hd.heap_1 w.params) mainGlobals (Str.ofString "strip_zeros") = some (some (.ref 99)) := by kernel_rfl
theorem kp99 : keepIn (hd.heap_1 w.params) (.ref 99) = true := by kernel_rfl
theorem glrounddigits : nsIn (hd.heap_1 w.params) mainGlobals (Str.ofString "round_digits") = some (some (.ref 106)) := by kernel_rfl
theorem kp106 : keepIn (hd.heap_1 w.params) (.ref 106) = true := by kernel_rfl
theorem glroundreal : nsIn (hd.heap_1 w.params) mainGlobals (Str.ofString "round_real") = some (some (.ref 113)) := by kernel_rfl
theorem kp113 : keepIn (hd.heap_1 w.params) (.ref 113) = true := by kernel_rfl
theorem gldigitsof : nsIn (hd.heap_1 w.params) mainGlobals (Str.ofString "digits_of") = some (some (.ref 120)) := by kernel_rfl
theorem kp120 : keepIn (hd.heap_1 w.params) (.ref 120) = true := by kernel_rfl
theorem glsolidfield : nsIn (hd.heap_1 w.params) mainGlobals (Str.ofString "solid_field") = some (some (.ref 128)) := by kernel_rfl
theorem kp128 : keepIn (hd.heap_1 w.params) (.ref 128) = true := by kernel_rfl
theorem glwholeof : nsIn (hd.heap_1 w.params) mainGlobals (Str.ofString "whole_of") = some (some (.ref 135)) := by kernel_rfl
theorem kp135 : keepIn (hd.heap_1 w.params) (.ref 135) = true := by kernel_rfl
theorem glcutsign : nsIn (hd.heap_1 w.params) mainGlobals (Str.ofString "cut_sign") = some (some (.ref 142)) := by kernel_rfl
theorem kp142 : keepIn (hd.heap_1 w.params) (.ref 142) = true := by kernel_rfl
theorem glinwidth : nsIn (hd.heap_1 w.params) mainGlobals (Str.ofString "in_width") = some (some (.ref 149)) := by kernel_rfl
theorem kp149 : keepIn (hd.heap_1 w.params) (.ref 149) = true := by kernel_rfl
theorem glreadint : nsIn (hd.heap_1 w.params) mainGlobals (Str.ofString "read_int") = some (some (.ref 156)) := by kernel_rfl
theorem kp156 : keepIn (hd.heap_1 w.params) (.ref 156) = true := by kernel_rfl
theorem glcutexponent : nsIn (hd.heap_1 w.params) mainGlobals (Str.ofString "cut_exponent") = some (some (.ref 163)) := by kernel_rfl
theorem kp163 : keepIn (hd.heap_1 w.params) (.ref 163) = true := by kernel_rfl
theorem glfieldexponent : nsIn (hd.heap_1 w.params) mainGlobals (Str.ofString "field_exponent") = some (some (.ref 170)) := by kernel_rfl
theorem kp170 : keepIn (hd.heap_1 w.params) (.ref 170) = true := by kernel_rfl
theorem glreadfigures : nsIn (hd.heap_1 w.params) mainGlobals (Str.ofString "read_figures") = some (some (.ref 177)) := by kernel_rfl
theorem kp177 : keepIn (hd.heap_1 w.params) (.ref 177) = true := by kernel_rfl
theorem glreadreal : nsIn (hd.heap_1 w.params) mainGlobals (Str.ofString "read_real") = some (some (.ref 184)) := by kernel_rfl
theorem kp184 : keepIn (hd.heap_1 w.params) (.ref 184) = true := by kernel_rfl
theorem glreadlogical : nsIn (hd.heap_1 w.params) mainGlobals (Str.ofString "read_logical") = some (some (.ref 191)) := by kernel_rfl
theorem kp191 : keepIn (hd.heap_1 w.params) (.ref 191) = true := by kernel_rfl
theorem glreadtext : nsIn (hd.heap_1 w.params) mainGlobals (Str.ofString "read_text") = some (some (.ref 198)) := by kernel_rfl
theorem kp198 : keepIn (hd.heap_1 w.params) (.ref 198) = true := by kernel_rfl
theorem glreadvalue : nsIn (hd.heap_1 w.params) mainGlobals (Str.ofString "read_value") = some (some (.ref 205)) := by kernel_rfl
theorem kp205 : keepIn (hd.heap_1 w.params) (.ref 205) = true := by kernel_rfl
theorem glfield : nsIn (hd.heap_1 w.params) mainGlobals (Str.ofString "field") = some (some (.ref 212)) := by kernel_rfl
theorem kp212 : keepIn (hd.heap_1 w.params) (.ref 212) = true := by kernel_rfl
theorem glsigntext : nsIn (hd.heap_1 w.params) mainGlobals (Str.ofString "sign_text") = some (some (.ref 219)) := by kernel_rfl
theorem kp219 : keepIn (hd.heap_1 w.params) (.ref 219) = true := by kernel_rfl
theorem glscaled : nsIn (hd.heap_1 w.params) mainGlobals (Str.ofString "scaled") = some (some (.ref 226)) := by kernel_rfl
theorem kp226 : keepIn (hd.heap_1 w.params) (.ref 226) = true := by kernel_rfl
theorem gleditint : nsIn (hd.heap_1 w.params) mainGlobals (Str.ofString "edit_int") = some (some (.ref 233)) := by kernel_rfl
theorem kp233 : keepIn (hd.heap_1 w.params) (.ref 233) = true := by kernel_rfl
theorem glpointfield : nsIn (hd.heap_1 w.params) mainGlobals (Str.ofString "point_field") = some (some (.ref 240)) := by kernel_rfl
theorem kp240 : keepIn (hd.heap_1 w.params) (.ref 240) = true := by kernel_rfl
theorem gleditfixed : nsIn (hd.heap_1 w.params) mainGlobals (Str.ofString "edit_fixed") = some (some (.ref 247)) := by kernel_rfl
theorem kp247 : keepIn (hd.heap_1 w.params) (.ref 247) = true := by kernel_rfl
theorem glleading : nsIn (hd.heap_1 w.params) mainGlobals (Str.ofString "leading") = some (some (.ref 254)) := by kernel_rfl
theorem kp254 : keepIn (hd.heap_1 w.params) (.ref 254) = true := by kernel_rfl
theorem glexponenttext : nsIn (hd.heap_1 w.params) mainGlobals (Str.ofString "exponent_text") = some (some (.ref 261)) := by kernel_rfl
theorem kp261 : keepIn (hd.heap_1 w.params) (.ref 261) = true := by kernel_rfl
theorem gleditexp : nsIn (hd.heap_1 w.params) mainGlobals (Str.ofString "edit_exp") = some (some (.ref 268)) := by kernel_rfl
theorem kp268 : keepIn (hd.heap_1 w.params) (.ref 268) = true := by kernel_rfl
theorem glisgeneralfixed : nsIn (hd.heap_1 w.params) mainGlobals (Str.ofString "is_general_fixed") = some (some (.ref 275)) := by kernel_rfl
theorem kp275 : keepIn (hd.heap_1 w.params) (.ref 275) = true := by kernel_rfl
theorem gleditgeneral : nsIn (hd.heap_1 w.params) mainGlobals (Str.ofString "edit_general") = some (some (.ref 282)) := by kernel_rfl
theorem kp282 : keepIn (hd.heap_1 w.params) (.ref 282) = true := by kernel_rfl
theorem gleditlogical : nsIn (hd.heap_1 w.params) mainGlobals (Str.ofString "edit_logical") = some (some (.ref 289)) := by kernel_rfl
theorem kp289 : keepIn (hd.heap_1 w.params) (.ref 289) = true := by kernel_rfl
theorem gledittext : nsIn (hd.heap_1 w.params) mainGlobals (Str.ofString "edit_text") = some (some (.ref 296)) := by kernel_rfl
theorem kp296 : keepIn (hd.heap_1 w.params) (.ref 296) = true := by kernel_rfl
theorem gleditreal : nsIn (hd.heap_1 w.params) mainGlobals (Str.ofString "edit_real") = some (some (.ref 303)) := by kernel_rfl
theorem kp303 : keepIn (hd.heap_1 w.params) (.ref 303) = true := by kernel_rfl
theorem gleditvalue : nsIn (hd.heap_1 w.params) mainGlobals (Str.ofString "edit_value") = some (some (.ref 310)) := by kernel_rfl
theorem kp310 : keepIn (hd.heap_1 w.params) (.ref 310) = true := by kernel_rfl
theorem gllawpen : nsIn (hd.heap_1 w.params) mainGlobals (Str.ofString "_law_pen") = some (some (.ref 339)) := by kernel_rfl
theorem kp339 : keepIn (hd.heap_1 w.params) (.ref 339) = true := by kernel_rfl
theorem gllawdraw : nsIn (hd.heap_1 w.params) mainGlobals (Str.ofString "_law_draw") = some (some (.ref 346)) := by kernel_rfl
theorem kp346 : keepIn (hd.heap_1 w.params) (.ref 346) = true := by kernel_rfl
theorem gllawpick : nsIn (hd.heap_1 w.params) mainGlobals (Str.ofString "_law_pick") = some (some (.ref 353)) := by kernel_rfl
theorem kp353 : keepIn (hd.heap_1 w.params) (.ref 353) = true := by kernel_rfl
theorem gllawitem : nsIn (hd.heap_1 w.params) mainGlobals (Str.ofString "_law_item") = some (some (.ref 360)) := by kernel_rfl
theorem kp360 : keepIn (hd.heap_1 w.params) (.ref 360) = true := by kernel_rfl
theorem gllawvalue : nsIn (hd.heap_1 w.params) mainGlobals (Str.ofString "_law_value") = some (some (.ref 365)) := by kernel_rfl
theorem kp365 : keepIn (hd.heap_1 w.params) (.ref 365) = true := by kernel_rfl
theorem gllawcut : nsIn (hd.heap_1 w.params) mainGlobals (Str.ofString "_law_cut") = some (some (.ref 372)) := by kernel_rfl
theorem kp372 : keepIn (hd.heap_1 w.params) (.ref 372) = true := by kernel_rfl
theorem gllawdue : nsIn (hd.heap_1 w.params) mainGlobals (Str.ofString "_law_due") = some (some (.ref 379)) := by kernel_rfl
theorem kp379 : keepIn (hd.heap_1 w.params) (.ref 379) = true := by kernel_rfl
theorem gllawheard : nsIn (hd.heap_1 w.params) mainGlobals (Str.ofString "_law_heard") = some (some (.ref 386)) := by kernel_rfl
theorem kp386 : keepIn (hd.heap_1 w.params) (.ref 386) = true := by kernel_rfl
theorem giINTEGER : nsIn (hd.heap_1 w.params) mainGlobals (Str.ofString "INTEGER") = some (some (.int 0 286)) := by kernel_rfl
theorem giREAL : nsIn (hd.heap_1 w.params) mainGlobals (Str.ofString "REAL") = some (some (.int 1 288)) := by kernel_rfl
theorem giDOUBLE : nsIn (hd.heap_1 w.params) mainGlobals (Str.ofString "DOUBLE") = some (some (.int 2 290)) := by kernel_rfl
theorem giLOGICAL : nsIn (hd.heap_1 w.params) mainGlobals (Str.ofString "LOGICAL") = some (some (.int 4 292)) := by kernel_rfl
theorem giCHARACTER : nsIn (hd.heap_1 w.params) mainGlobals (Str.ofString "CHARACTER") = some (some (.int 5 294)) := by kernel_rfl
theorem giBADFIELD : nsIn (hd.heap_1 w.params) mainGlobals (Str.ofString "BAD_FIELD") = some (some (.int 1 353)) := by kernel_rfl
theorem giTOOGREAT : nsIn (hd.heap_1 w.params) mainGlobals (Str.ofString "TOO_GREAT") = some (some (.int 2 355)) := by kernel_rfl
theorem giWRONGKIND : nsIn (hd.heap_1 w.params) mainGlobals (Str.ofString "WRONG_KIND") = some (some (.int 3 357)) := by kernel_rfl
theorem gblen : nsIn (hd.heap_1 w.params) mainGlobals (Str.ofString "len") = some none := by kernel_rfl
theorem bblen : bootBuiltins (Str.ofString "len") = some (.builtin "len") := by kernel_rfl
theorem gbabs : nsIn (hd.heap_1 w.params) mainGlobals (Str.ofString "abs") = some none := by kernel_rfl
theorem bbabs : bootBuiltins (Str.ofString "abs") = some (.builtin "abs") := by kernel_rfl
theorem gbdivmod : nsIn (hd.heap_1 w.params) mainGlobals (Str.ofString "divmod") = some none := by kernel_rfl
theorem bbdivmod : bootBuiltins (Str.ofString "divmod") = some (.builtin "divmod") := by kernel_rfl
theorem gbisinstance : nsIn (hd.heap_1 w.params) mainGlobals (Str.ofString "isinstance") = some none := by kernel_rfl
theorem bbisinstance : bootBuiltins (Str.ofString "isinstance") = some (.builtin "isinstance") := by kernel_rfl
theorem gbstr : nsIn (hd.heap_1 w.params) mainGlobals (Str.ofString "str") = some none := by kernel_rfl
theorem bbstr : bootBuiltins (Str.ofString "str") = some (.type "str") := by kernel_rfl
theorem gbint : nsIn (hd.heap_1 w.params) mainGlobals (Str.ofString "int") = some none := by kernel_rfl
theorem bbint : bootBuiltins (Str.ofString "int") = some (.type "int") := by kernel_rfl
theorem gbrange : nsIn (hd.heap_1 w.params) mainGlobals (Str.ofString "range") = some none := by kernel_rfl
theorem bbrange : bootBuiltins (Str.ofString "range") = some (.type "range") := by kernel_rfl
theorem gbbool : nsIn (hd.heap_1 w.params) mainGlobals (Str.ofString "bool") = some none := by kernel_rfl
theorem bbbool : bootBuiltins (Str.ofString "bool") = some (.type "bool") := by kernel_rfl
theorem pgwidth : plainGet (hd.heap_1 w.params) 328 (Str.ofString "width") = true := by kernel_rfl
theorem fiwidth : findIn (hd.heap_1 w.params) (.ref 328) (Str.ofString "width") = some none := by kernel_rfl
theorem pgrealdigits : plainGet (hd.heap_1 w.params) 328 (Str.ofString "real_digits") = true := by kernel_rfl
theorem firealdigits : findIn (hd.heap_1 w.params) (.ref 328) (Str.ofString "real_digits") = some none := by kernel_rfl
theorem pgdoubledigits : plainGet (hd.heap_1 w.params) 328 (Str.ofString "double_digits") = true := by kernel_rfl
theorem fidoubledigits : findIn (hd.heap_1 w.params) (.ref 328) (Str.ofString "double_digits") = some none := by kernel_rfl
theorem pgtopexponent : plainGet (hd.heap_1 w.params) 328 (Str.ofString "top_exponent") = true := by kernel_rfl
theorem fitopexponent : findIn (hd.heap_1 w.params) (.ref 328) (Str.ofString "top_exponent") = some none := by kernel_rfl
theorem hd328 : hasDictIn (hd.heap_1 w.params) 328 = true := by kernel_rfl
theorem ng328 : noGet (hd.heap_1 w.params) none = true := by kernel_rfl
theorem glREALWORDS : nsIn (hd.heap_1 w.params) mainGlobals (Str.ofString "REAL_WORDS") = some (some (.ref 121)) := by kernel_rfl
theorem kw121 : ∃ t1 t2 t3 t4 c, (hd.heap_1 w.params).lookup 121 = some (tupO [.str (Str.ofString "F") t1, .str (Str.ofString "E") t2, .str (Str.ofString "D") t3, .str (Str.ofString "G") t4] c) := ⟨_, _, _, _, _, by with_unfolding_all rfl⟩
theorem glNOUGHT : nsIn (hd.heap_1 w.params) mainGlobals (Str.ofString "NOUGHT") = some (some (.ref 85)) := by kernel_rfl
theorem kw85 : ∃ t u c, (hd.heap_1 w.params).lookup 85 = some (tupO [.int 0 t, .int 0 u] c) := ⟨_, _, _, by with_unfolding_all rfl⟩
theorem glFIGURES : nsIn (hd.heap_1 w.params) mainGlobals (Str.ofString "FIGURES") = some (some (.str (Str.ofString "0123456789") 301)) := by kernel_rfl
end
end Mine
end
section
namespace Mine
noncomputable abbrev GG (w : World) (mean : ExcName → Option Value) (mg mb : Str → Option Value) : Gl := ⟨PySem.Challenge.rw_no0259_01.row.prog, w, hd.heap_1 w.params, topProg, looseW vw [] ++ (recsOf vw).map (·.name) ++ (litsOf vw).map (·.1) ++ (clssOf vw (looseW vw [])).map (·.name), mean, mg, mb⟩
theorem cons_of {α : Type} {n : Nat} : ∀ {l : List α}, l.length = n + 1 → ∃ a r, l = a :: r ∧ r.length = n
  | a :: r, e => ⟨a, r, rfl, Nat.succ.inj e⟩
theorem HBind.n1 {fd : FuncData} {a : Str} (h : ∀ v1, bindArgs fd ⟨[v1], []⟩ = pure [(a, v1)]) : HBind fd [a] 1 := fun vs e => by
  obtain ⟨v1, r1, rfl, e1⟩ := cons_of e
  obtain rfl := List.length_eq_zero_iff.mp e1
  exact h v1
theorem HBind.n2 {fd : FuncData} {a b : Str} (h : ∀ v1 v2, bindArgs fd ⟨[v1, v2], []⟩ = pure [(a, v1), (b, v2)]) : HBind fd [a, b] 2 := fun vs e => by
  obtain ⟨v1, r1, rfl, e1⟩ := cons_of e
  obtain ⟨v2, r2, rfl, e2⟩ := cons_of e1
  obtain rfl := List.length_eq_zero_iff.mp e2
  exact h v1 v2
theorem HBind.n3 {fd : FuncData} {a b c : Str} (h : ∀ v1 v2 v3, bindArgs fd ⟨[v1, v2, v3], []⟩ = pure [(a, v1), (b, v2), (c, v3)]) : HBind fd [a, b, c] 3 := fun vs e => by
  obtain ⟨v1, r1, rfl, e1⟩ := cons_of e
  obtain ⟨v2, r2, rfl, e2⟩ := cons_of e1
  obtain ⟨v3, r3, rfl, e3⟩ := cons_of e2
  obtain rfl := List.length_eq_zero_iff.mp e3
  exact h v1 v2 v3
theorem HBind.n4 {fd : FuncData} {a b c d : Str} (h : ∀ v1 v2 v3 v4, bindArgs fd ⟨[v1, v2, v3, v4], []⟩ = pure [(a, v1), (b, v2), (c, v3), (d, v4)]) : HBind fd [a, b, c, d] 4 := fun vs e => by
  obtain ⟨v1, r1, rfl, e1⟩ := cons_of e
  obtain ⟨v2, r2, rfl, e2⟩ := cons_of e1
  obtain ⟨v3, r3, rfl, e3⟩ := cons_of e2
  obtain ⟨v4, r4, rfl, e4⟩ := cons_of e3
  obtain rfl := List.length_eq_zero_iff.mp e4
  exact h v1 v2 v3 v4
theorem HBind.n5 {fd : FuncData} {a b c d e' : Str} (h : ∀ v1 v2 v3 v4 v5, bindArgs fd ⟨[v1, v2, v3, v4, v5], []⟩ = pure [(a, v1), (b, v2), (c, v3), (d, v4), (e', v5)]) : HBind fd [a, b, c, d, e'] 5 := fun vs e => by
  obtain ⟨v1, r1, rfl, e1⟩ := cons_of e
  obtain ⟨v2, r2, rfl, e2⟩ := cons_of e1
  obtain ⟨v3, r3, rfl, e3⟩ := cons_of e2
  obtain ⟨v4, r4, rfl, e4⟩ := cons_of e3
  obtain ⟨v5, r5, rfl, e5⟩ := cons_of e4
  obtain rfl := List.length_eq_zero_iff.mp e5
  exact h v1 v2 v3 v4 v5
theorem HBind.n6 {fd : FuncData} {a b c d e' f' : Str} (h : ∀ v1 v2 v3 v4 v5 v6, bindArgs fd ⟨[v1, v2, v3, v4, v5, v6], []⟩ = pure [(a, v1), (b, v2), (c, v3), (d, v4), (e', v5), (f', v6)]) : HBind fd [a, b, c, d, e', f'] 6 := fun vs e => by
  obtain ⟨v1, r1, rfl, e1⟩ := cons_of e
  obtain ⟨v2, r2, rfl, e2⟩ := cons_of e1
  obtain ⟨v3, r3, rfl, e3⟩ := cons_of e2
  obtain ⟨v4, r4, rfl, e4⟩ := cons_of e3
  obtain ⟨v5, r5, rfl, e5⟩ := cons_of e4
  obtain ⟨v6, r6, rfl, e6⟩ := cons_of e5
  obtain rfl := List.length_eq_zero_iff.mp e6
  exact h v1 v2 v3 v4 v5 v6
theorem HBind.n7 {fd : FuncData} {a b c d e' f' g' : Str} (h : ∀ v1 v2 v3 v4 v5 v6 v7, bindArgs fd ⟨[v1, v2, v3, v4, v5, v6, v7], []⟩ = pure [(a, v1), (b, v2), (c, v3), (d, v4), (e', v5), (f', v6), (g', v7)]) : HBind fd [a, b, c, d, e', f', g'] 7 := fun vs e => by
  obtain ⟨v1, r1, rfl, e1⟩ := cons_of e
  obtain ⟨v2, r2, rfl, e2⟩ := cons_of e1
  obtain ⟨v3, r3, rfl, e3⟩ := cons_of e2
  obtain ⟨v4, r4, rfl, e4⟩ := cons_of e3
  obtain ⟨v5, r5, rfl, e5⟩ := cons_of e4
  obtain ⟨v6, r6, rfl, e6⟩ := cons_of e5
  obtain ⟨v7, r7, rfl, e7⟩ := cons_of e6
  obtain rfl := List.length_eq_zero_iff.mp e7
  exact h v1 v2 v3 v4 v5 v6 v7
theorem EV.strT {f : Fm} {σ : Sto} {Q : AV → Sto → Prop} {x : Str} {kk} {pos : Pos} {l : List Nat} (e : x = T l) (hl : l.length ≤ 1000) (h : Q (.str (T l)) σ) : EV f (.Constant (.str x) kk pos) σ Q := by
  subst e
  exact EV.str (k := none) (by rw [T_len]; exact Nat.le_trans hl (by decide)) h
theorem lit_empty : Str.ofString "" = T [] := by decide +kernel
theorem lit_space : Str.ofString " " = T [32] := by decide +kernel
theorem lit_star : Str.ofString "*" = T [42] := by decide +kernel
theorem lit_plus : Str.ofString "+" = T [43] := by decide +kernel
theorem lit_minus : Str.ofString "-" = T [45] := by decide +kernel
theorem lit_dot : Str.ofString "." = T [46] := by decide +kernel
theorem lit_0 : Str.ofString "0" = T [48] := by decide +kernel
theorem lit_0dot : Str.ofString "0." = T [48, 46] := by decide +kernel
theorem lit_A : Str.ofString "A" = T [65] := by decide +kernel
theorem lit_D : Str.ofString "D" = T [68] := by decide +kernel
theorem lit_E : Str.ofString "E" = T [69] := by decide +kernel
theorem lit_F : Str.ofString "F" = T [70] := by decide +kernel
theorem lit_G : Str.ofString "G" = T [71] := by decide +kernel
theorem lit_I : Str.ofString "I" = T [73] := by decide +kernel
theorem lit_L : Str.ofString "L" = T [76] := by decide +kernel
theorem lit_T : Str.ofString "T" = T [84] := by decide +kernel
theorem lit_FEDG : Str.ofString "FEDG" = T [70, 69, 68, 71] := by decide +kernel
theorem lit_IFEDG : Str.ofString "IFEDG" = T [73, 70, 69, 68, 71] := by decide +kernel
theorem lit_ok : Str.ofString "ok" = T [111, 107] := by decide +kernel
theorem lit_fault : Str.ofString "fault" = T [102, 97, 117, 108, 116] := by decide +kernel
theorem lit_abs : Str.ofString "ab *'" = T [97, 98, 32, 42, 39] := by decide +kernel
theorem endQ_ret {Q : AV → Pen → Prop} {a : AV} {σ : Sto} (h : Q a σ.pen) : endQ Q (.ret a) σ := h
theorem endQ_next {Q : AV → Pen → Prop} {σ : Sto} (h : Q .none σ.pen) : endQ Q .next σ := h
theorem loop_next {J : Sto → Prop} {Q : Fl → Sto → Prop} {σ : Sto} (h : J σ) : Fl.loop J Q .next σ := h
theorem loop_ret {J : Sto → Prop} {Q : Fl → Sto → Prop} {σ : Sto} {a : AV} (h : Q (.ret a) σ) : Fl.loop J Q (.ret a) σ := h
theorem exT {P : List Nat → Prop} {l : List Nat} (h : P l) : ∃ l', AV.str (T l) = .str (T l') ∧ P l' := ⟨l, rfl, h⟩
theorem exStr {P : Str → Prop} {l : Str} (h : P l) : ∃ l', AV.str l = .str l' ∧ P l' := ⟨l, rfl, h⟩
theorem exTup {P : List AV → Prop} {l : List AV} (h : P l) : ∃ l', AV.tup l = .tup l' ∧ P l' := ⟨l, rfl, h⟩
theorem exBool {P : Bool → Prop} {l : Bool} (h : P l) : ∃ l', AV.bool l = .bool l' ∧ P l' := ⟨l, rfl, h⟩
theorem exN0 {P : Nat → Prop} (h : P 0) : ∃ i : Nat, AV.int 0 = .int (i : Int) ∧ P i := ⟨0, rfl, h⟩
theorem exN1 {P : Nat → Prop} (h : P 1) : ∃ i : Nat, AV.int 1 = .int (i : Int) ∧ P i := ⟨1, rfl, h⟩
theorem exN {P : Nat → Prop} {n : Nat} (h : P n) : ∃ i : Nat, AV.int (n : Int) = .int (i : Int) ∧ P i := ⟨n, rfl, h⟩
theorem exNS {P : Nat → Prop} {n : Nat} (h : P (n + 1)) : ∃ i : Nat, AV.int ((n : Int) + 1) = .int (i : Int) ∧ P i := ⟨n + 1, rfl, h⟩
section
variable {f : Fm} {a b : Int} {x y : List Nat} {c d : Bool} {n : Nat}
theorem x_add {Q : AV → Sto → Prop} {σ : Sto} (h : Q (.int (a + b)) σ) : kOp f (binaryOp .Add) (.int a) Q (.int b) σ := ⟨_, o_add, h⟩
theorem x_sub {Q : AV → Sto → Prop} {σ : Sto} (h : Q (.int (a - b)) σ) : kOp f (binaryOp .Sub) (.int a) Q (.int b) σ := ⟨_, o_sub, h⟩
theorem x_neg {P : AV → Prop} (h : P (.int (-a))) : ∃ c, Op1 f (unaryOp .USub) (.int a) c ∧ P c := ⟨_, o_neg, h⟩
theorem x_iadd {Q : AV → Sto → Prop} {σ : Sto} (h : Q (.int (a + b)) σ) : kOp f (inplaceOp .Add) (.int a) Q (.int b) σ := ⟨_, o_iadd, h⟩
theorem x_isub {Q : AV → Sto → Prop} {σ : Sto} (h : Q (.int (a - b)) σ) : kOp f (inplaceOp .Sub) (.int a) Q (.int b) σ := ⟨_, o_isub, h⟩
theorem x_lt {Q : Bool → Sto → Prop} {σ : Sto} (h : Q (decide (a < b)) σ) : kOpT f (compareOp .Lt) (.int a) Q (.int b) σ := ⟨_, c_lt, h⟩
theorem x_le {Q : Bool → Sto → Prop} {σ : Sto} (h : Q (decide (a ≤ b)) σ) : kOpT f (compareOp .LtE) (.int a) Q (.int b) σ := ⟨_, c_le, h⟩
theorem x_gt {Q : Bool → Sto → Prop} {σ : Sto} (h : Q (decide (b < a)) σ) : kOpT f (compareOp .Gt) (.int a) Q (.int b) σ := ⟨_, c_gt, h⟩
theorem x_ge {Q : Bool → Sto → Prop} {σ : Sto} (h : Q (decide (b ≤ a)) σ) : kOpT f (compareOp .GtE) (.int a) Q (.int b) σ := ⟨_, c_ge, h⟩
theorem x_eq {Q : Bool → Sto → Prop} {σ : Sto} (h : Q (a == b) σ) : kOpT f (compareOp .Eq) (.int a) Q (.int b) σ := ⟨_, c_eq, h⟩
theorem x_ne {Q : Bool → Sto → Prop} {σ : Sto} (h : Q (a != b) σ) : kOpT f (compareOp .NotEq) (.int a) Q (.int b) σ := ⟨_, c_ne, h⟩
theorem x_eqs {Q : Bool → Sto → Prop} {σ : Sto} (h : Q (x == y) σ) : kOpT f (compareOp .Eq) (.str (T x)) Q (.str (T y)) σ := ⟨_, c_eqs, h⟩
theorem x_nes {Q : Bool → Sto → Prop} {σ : Sto} (h : Q (x != y) σ) : kOpT f (compareOp .NotEq) (.str (T x)) Q (.str (T y)) σ := ⟨_, c_nes, h⟩
theorem x_neb {Q : Bool → Sto → Prop} {σ : Sto} (h : Q (c != d) σ) : kOpT f (compareOp .NotEq) (.bool c) Q (.bool d) σ := ⟨_, c_neb, h⟩
theorem x_inS {Q : Bool → Sto → Prop} {σ : Sto} (h : Q (decide (n ∈ x)) σ) : kOpT f (compareOp .In) (.str (T [n])) Q (.str (T x)) σ := ⟨_, c_inS, h⟩
theorem x_inT {Q : Bool → Sto → Prop} {σ : Sto} {z : Str} {l : List AV} (hl : allStr l = true) (h : Q ((strsOf l).any (· == z)) σ) : kOpT f (compareOp .In) (.str z) Q (.tup l) σ := ⟨_, c_inT hl, h⟩
theorem le100 {a : Nat} {P : Prop} (h : P) (hl : a ≤ 100) : a ≤ 100 ∧ P := ⟨hl, h⟩
end
section
variable {f : Fm} {σ : Sto}
theorem x_len {Q : AV → Sto → Prop} {l : List Nat} (h : Q (.int (l.length : Int)) σ) : kBi f (bltT "len") Q [.str (T l)] σ := ⟨_, b_len, h⟩
theorem x_abs {Q : AV → Sto → Prop} {a : Int} (h : Q (.int (a.natAbs : Int)) σ) : kBi f (bltT "abs") Q [.int a] σ := ⟨_, b_abs, h⟩
theorem x_intB {Q : AV → Sto → Prop} {b : Bool} (h : Q (.int (if b = true then 1 else 0)) σ) : kBi f (typT "int") Q [.bool b] σ := ⟨_, b_intB, h⟩
theorem EV.globI {Q : AV → Sto → Prop} {x : Str} {pos : Pos} {i : Int} {t : Tok} (e : nsIn f.K mainGlobals x = some (some (.int i t))) (hx : f.cs.names.lookup x = some .globalImplicit) (h : Q (.int i) σ) : EV f (.Name x pos) σ Q :=
  EV.glob e hx Rep.mkInt h
theorem EV.globS {Q : AV → Sto → Prop} {x : Str} {pos : Pos} {y : Str} {l : List Nat} {t : Tok} (e : nsIn f.K mainGlobals x = some (some (.str y t))) (hy : y = T l) (hl : l.length ≤ 1000) (hx : f.cs.names.lookup x = some .globalImplicit) (h : Q (.str (T l)) σ) : EV f (.Name x pos) σ Q := by
  subst hy
  exact EV.glob e hx (Rep.mkStr (by rw [T_len]; exact Nat.le_trans hl (by decide))) h
theorem useSpec {G : Gl} {need : Nat} {fa : Addr} {args : List AV} {pen : Pen} {Q Q' : AV → Pen → Prop} {room : Nat} (sp : SPEC G need fa args pen Q') (hr : Nat.ble (need + 1) room = true) (h : ∀ a p, Q' a p → Q a p) : ∃ need, need + 1 ≤ room ∧ SPEC G need fa args pen Q :=
  ⟨need, Nat.le_of_ble_eq_true hr, sp.mono h⟩
end
def Sees (l : List (Str × AV)) : List (Str × AV) → Prop
  | [] => True
  | p :: r => l.lookup p.1 = some p.2 ∧ Sees l r
def SeesS (σ σ' : Sto) : Prop := (∀ x a, σ'.loc.lookup x = some a → σ.loc.lookup x = some a) ∧ σ.pen = σ'.pen
theorem Sees.at {l : List (Str × AV)} : ∀ {l' : List (Str × AV)} {x : Str} {a : AV}, Sees l l' → l'.lookup x = some a → l.lookup x = some a
  | [], _, _, _, e => by simp at e
  | (y, b) :: r, x, a, ⟨h1, h2⟩, e => by
    rw [List.lookup_cons] at e
    by_cases h : x = y
    · subst h
      simp at e
      rw [← e]; exact h1
    · have hb : (x == y) = false := beq_eq_false_iff_ne.mpr h
      rw [hb] at e
      exact Sees.at h2 e
theorem SeesS.of {σ σ' : Sto} (h : Sees σ.loc σ'.loc) (hp : σ.pen = σ'.pen) : SeesS σ σ' := ⟨fun _ _ e => h.at e, hp⟩
theorem SeesS.put {σ σ' : Sto} (s : SeesS σ σ') (y : Str) (a : AV) : SeesS (σ.put y a) (σ'.put y a) := by
  refine ⟨fun x b e => ?_, s.2⟩
  rcases lookup_put e with ⟨rfl, rfl⟩ | ⟨ne, e⟩
  · simp [Sto.put]
  · have hb : (x == y) = false := beq_eq_false_iff_ne.mpr ne
    simp only [Sto.put, List.lookup_cons, hb]
    exact s.1 _ _ e
theorem Inv.sees {f : Fm} {h : Heap} {m : Str → Option Value} {N : Led} {σ σ' : Sto} (I : Inv f h m N σ) (s : SeesS σ σ') : Inv f h m N σ' :=
  ⟨I.F, I.nw, fun x av e => I.loc x av (s.1 _ _ e), s.2 ▸ I.pen, fun P n c e => I.penW P n c (s.2.trans e), I.mt, I.cells⟩
section
variable {f : Fm} {σ : Sto}
theorem TR.sees {e : PySem.Expr} {σ' : Sto} {Q : Bool → Sto → Prop} (s : SeesS σ σ') (h : TR f e σ' Q) : TR f e σ Q := fun O E s' m N I => h O E s' m N (I.sees s)
theorem EX.sees {b : List Stmt} {σ' : Sto} {Q : Fl → Sto → Prop} (s : SeesS σ σ') (h : EX f b σ' Q) : EX f b σ Q := fun O E s' m N I => h O E s' m N (I.sees s)
theorem EX.weak {b : List Stmt} {Q Q' : Fl → Sto → Prop} (h : EX f b σ Q) (hq : ∀ φ σ', Q φ σ' → Q' φ σ') : EX f b σ Q' := fun O E s m N I =>
  wpAny_mono (h O E s m N I) (fun _ _ ⟨φ, σ', h', tk', m', N', a1, a2, a3, a4, a5⟩ => ⟨φ, σ', h', tk', m', N', a1, a2, a3, a4, hq _ _ a5⟩) fun _ _ e => e
theorem E1.whileL {Q : Fl → Sto → Prop} {test : PySem.Expr} {body : List Stmt} {pos : Pos} {ι : Type} (S : ι → Sto) (J : Nat → ι → Prop) (n : Nat) (i : ι) (h0 : SeesS σ (S i)) (hJ : J n i)
    (step : ∀ n i, J n i → TR f test (S i) fun c σ₁ => (c = true → EX f body σ₁ (Fl.loop (fun σ₂ => ∃ k i', k < n ∧ J k i' ∧ SeesS σ₂ (S i')) Q)) ∧ (c = false → Q .next σ₁)) : E1 f (.While test body [] pos) σ Q := by
  refine E1.while (fun n σ' => ∃ i, J n i ∧ SeesS σ' (S i)) n ⟨i, hJ, h0⟩ fun n σ' ⟨i, hJ, hs⟩ => ?_
  refine TR.sees hs ?_
  intro O E s m N I
  refine PostB.k (step n i hJ O E s m N I) fun σ₁ h₁ t₁ N₁ c I₁ E₁ q => ?_
  refine ⟨σ₁, h₁, t₁, N₁, rfl, I₁, E₁, fun hc => EX.weak (q.1 hc) fun φ σ' hq => ?_, q.2⟩
  cases φ with
  | next => obtain ⟨k, i', a, b, c⟩ := hq; exact ⟨k, a, i', b, c⟩
  | ret a => exact hq
theorem E1.forStrL {Q : Fl → Sto → Prop} {y : Str} {py : Pos} {iter : PySem.Expr} {body : List Stmt} {pos : Pos} {ι : Type} (S : ι → Sto) (J : List Nat → ι → Prop)
    (h : EV f iter σ fun a σ₁ => ∃ l : List Nat, a = .str (T l) ∧ f.cs.names.lookup y = some .local ∧ (∃ i, SeesS σ₁ (S i) ∧ J l i) ∧
      (∀ c r i, J (c :: r) i → EX f body ((S i).put y (.str (T [c]))) (Fl.loop (fun σ₂ => ∃ i', J r i' ∧ SeesS σ₂ (S i')) Q)) ∧ ∀ i, J [] i → Q .next (S i))
    (hq : ∀ i σ', SeesS σ' (S i) → Q .next (S i) → Q .next σ')
    (hs : ∀ env x, foldedSetIterable iter env x = pure x := by intros; rfl) (ht : ∀ it v, letOwnedTupleGo (.Name y py) it v = pure () := by intros; rfl) : E1 f (.For (.Name y py) iter body [] pos) σ Q := by
  refine E1.forStr ?_ hs ht
  intro O E s m N I
  refine PostV.k (h O E s m N I) fun a σ₁ h₁ t₁ N₁ v I₁ E₁ R₁ qq => ?_
  obtain ⟨l, rfl, hy, ⟨i, hi, hJ⟩, step, fin⟩ := qq
  refine ⟨_, σ₁, h₁, t₁, N₁, rfl, I₁, E₁, R₁, T l, rfl, .inl hy, fun r σ' => ∃ i, J r i ∧ SeesS σ' (S i), ⟨i, by simpa using hJ, hi⟩, fun c r σ' ⟨i, hJ, hs⟩ => ?_, fun σ' ⟨i, hJ, hs⟩ => hq i σ' hs (fin i hJ)⟩
  have put := hs.put y (.str (T [c]))
  exact EX.sees put (EX.weak (step c r i hJ) fun φ σ'' hq => by cases φ with | next => exact hq | ret a => exact hq)
theorem E1.forRangeL {Q : Fl → Sto → Prop} {y : Str} {py np cp : Pos} {e : PySem.Expr} {body : List Stmt} {pos : Pos} {ι : Type} (S : ι → Sto) (J : Nat → ι → Prop)
    (hn : nsIn f.K mainGlobals (Str.ofString "range") = some Option.none) (hx : f.cs.names.lookup (Str.ofString "range") = some .globalImplicit)
    (h : EV f e σ fun a σ₁ => ∃ n : Nat, a = .int n ∧ n < 2 ^ 31 ∧ f.cs.names.lookup y = some .local ∧ (∃ i, SeesS σ₁ (S i) ∧ J 0 i) ∧
      (∀ k i, k < n → J k i → EX f body ((S i).put y (.int k)) (Fl.loop (fun σ₂ => ∃ i', J (k + 1) i' ∧ SeesS σ₂ (S i')) Q)) ∧ ∀ i, J n i → Q .next (S i))
    (hq : ∀ i σ', SeesS σ' (S i) → Q .next (S i) → Q .next σ')
    (hs : ∀ env x, foldedSetIterable (.Call (.Name (Str.ofString "range") np) [e] [] cp) env x = pure x := by intros; rfl) (ht : ∀ it v, letOwnedTupleGo (.Name y py) it v = pure () := by intros; rfl)
    (he : ∀ env, starEach [e] env = (false, eval e env) :: starEach [] env := by intros; rfl) : E1 f (.For (.Name y py) (.Call (.Name (Str.ofString "range") np) [e] [] cp) body [] pos) σ Q := by
  refine E1.forRange hn hx ?_ hs ht he
  intro O E s m N I
  refine PostV.k (h O E s m N I) fun a σ₁ h₁ t₁ N₁ v I₁ E₁ R₁ qq => ?_
  obtain ⟨n, rfl, hnn, hy, ⟨i, hi, hJ⟩, step, fin⟩ := qq
  refine ⟨_, σ₁, h₁, t₁, N₁, rfl, I₁, E₁, R₁, n, rfl, hnn, .inl hy, fun k σ' => ∃ i, J k i ∧ SeesS σ' (S i), ⟨i, hJ, hi⟩, fun k σ' hk ⟨i, hJ, hs⟩ => ?_, fun σ' ⟨i, hJ, hs⟩ => hq i σ' hs (fin i hJ)⟩
  exact EX.sees (hs.put y (.int k)) (EX.weak (step k i hk hJ) fun φ σ'' hq => by cases φ with | next => exact hq | ret a => exact hq)
theorem Fl.contSees {rest : List Stmt} {Q : Fl → Sto → Prop} {σ σ' : Sto} (s : SeesS σ σ') (h : Fl.cont f rest Q .next σ') : Fl.cont f rest Q .next σ := EX.sees s h
theorem stbI {x : Str} {P : Prop} (hl : f.cs.names.lookup x = some .local) (h : P) : Stb f x ∧ P := ⟨.inl hl, h⟩
end
section
variable {f : Fm} {a b : Int}
theorem x_div {Q : AV → Sto → Prop} {σ : Sto} (h1 : 0 < b) (h2 : b < 1073741824) (h : Q (.int (a / b)) σ) : kOp f (binaryOp .FloorDiv) (.int a) Q (.int b) σ :=
  ⟨_, o_div (by omega) (by omega), by rw [Int.fdiv_eq_ediv_of_nonneg a (by omega)]; exact h⟩
theorem x_mod {Q : AV → Sto → Prop} {σ : Sto} (h1 : 0 < b) (h : Q (.int (a % b)) σ) : kOp f (binaryOp .Mod) (.int a) Q (.int b) σ :=
  ⟨_, o_mod (by omega), by rw [Int.fmod_eq_emod_of_nonneg a (by omega)]; exact h⟩
theorem x_idiv {Q : AV → Sto → Prop} {σ : Sto} (h1 : 0 < b) (h2 : b < 1073741824) (h : Q (.int (a / b)) σ) : kOp f (inplaceOp .FloorDiv) (.int a) Q (.int b) σ :=
  ⟨_, o_idiv (by omega) (by omega), by rw [Int.fdiv_eq_ediv_of_nonneg a (by omega)]; exact h⟩
end
theorem EV.globP {f : Fm} {σ : Sto} {Q : AV → Sto → Prop} {x : Str} {pos : Pos} {a : Addr} {i j : Int} (e : nsIn f.K mainGlobals x = some (some (.ref a))) (hl : ∃ t u c, f.K.lookup a = some (tupO [.int i t, .int j u] c)) (hx : f.cs.names.lookup x = some .globalImplicit) (h : Q (.tup [.int i, .int j]) σ) : EV f (.Name x pos) σ Q := by
  obtain ⟨t, u, c, hl⟩ := hl
  exact EV.glob (av := .tup [.int i, .int j]) e hx ⟨a, [.int i t, .int j u], c, rfl, .inr hl, RepL.mkCons Rep.mkInt (RepL.mkCons Rep.mkInt RepL.mkNil)⟩ h
section
variable {f : Fm} {σ : Sto}
theorem AO.two {x y : Str} {p q : Pos} {a b : AV} {Q : Sto → Prop} (hx : f.cs.names.lookup x = some .local) (hy : f.cs.names.lookup y = some .local) (h : Q ((σ.put x a).put y b)) : AO f ((assignEach [.Name x p, .Name y q] f.env).map (·.2)) [a, b] σ Q :=
  AO.name (ts := [assign (.Name y q) f.env]) (.inl hx) (AO.name (ts := []) (.inl hy) (AO.nil h))
theorem AO.three {x y z : Str} {p q r : Pos} {a b c : AV} {Q : Sto → Prop} (hx : f.cs.names.lookup x = some .local) (hy : f.cs.names.lookup y = some .local) (hz : f.cs.names.lookup z = some .local) (h : Q (((σ.put x a).put y b).put z c)) : AO f ((assignEach [.Name x p, .Name y q, .Name z r] f.env).map (·.2)) [a, b, c] σ Q :=
  AO.name (ts := [assign (.Name y q) f.env, assign (.Name z r) f.env]) (.inl hx) (AO.name (ts := [assign (.Name z r) f.env]) (.inl hy) (AO.name (ts := []) (.inl hz) (AO.nil h)))
@[reducible] def kUnp2 (x y : Str) (Q : Fl → Sto → Prop) : AV → Sto → Prop := fun r σ => ∃ a b, r = .tup [a, b] ∧ Q .next ((σ.put x a).put y b)
@[reducible] def kSwp2 (x y : Str) (Q : Fl → Sto → Prop) : AV → Sto → Prop := fun r σ => ∃ a b, r = .tup [a, b] ∧ Q .next ((σ.put y b).put x a)
@[reducible] def kUnp3 (x y z : Str) (Q : Fl → Sto → Prop) : AV → Sto → Prop := fun r σ => ∃ a b c, r = .tup [a, b, c] ∧ Q .next (((σ.put x a).put y b).put z c)
theorem x_unp2 {x y : Str} {Q : Fl → Sto → Prop} {a b : AV} (h : Q .next ((σ.put x a).put y b)) : kUnp2 x y Q (.tup [a, b]) σ := ⟨a, b, rfl, h⟩
theorem x_swp2 {x y : Str} {Q : Fl → Sto → Prop} {a b : AV} (h : Q .next ((σ.put y b).put x a)) : kSwp2 x y Q (.tup [a, b]) σ := ⟨a, b, rfl, h⟩
theorem x_unp3 {x y z : Str} {Q : Fl → Sto → Prop} {a b c : AV} (h : Q .next (((σ.put x a).put y b).put z c)) : kUnp3 x y z Q (.tup [a, b, c]) σ := ⟨a, b, c, rfl, h⟩
theorem x_bool {Q : Bool → Sto → Prop} {c : Bool} (h : Q c σ) : kBool Q (.bool c) σ := ⟨c, rfl, h⟩
theorem x_and2 {y : PySem.Expr} {Q : AV → Sto → Prop} {c : Bool} (h : (c = true → EV f y σ Q) ∧ (c = false → Q (.bool false) σ)) : kAnd2 f y Q (.bool c) σ := ⟨c, rfl, h⟩
theorem E1.unpack2 {Q : Fl → Sto → Prop} {x y : Str} {p q : Pos} {k : Nat} {tp pos : Pos} {value : PySem.Expr}
    (h : EV f value σ (kUnp2 x y Q))
    (hx : f.cs.names.lookup x = some .local) (hy : f.cs.names.lookup y = some .local)
    (hs : ∀ env, swapsWithSole [.Tuple [.Name x p, .Name y q] k tp] value pos.line env = pure false) (hw : swappedStores [.Tuple [.Name x p, .Name y q] k tp] value f.env = pure none) : E1 f (.Assign [.Tuple [.Name x p, .Name y q] k tp] value pos) σ Q :=
  E1.unpack 2 (fun O E s m N I => wpAny_mono (h O E s m N I) (fun v s' ⟨av, σ', h', tk', N', a1, a2, a3, a4, a, b, e, q⟩ => ⟨av, σ', h', tk', N', a1, a2, a3, a4, [a, b], e, rfl, AO.two hx hy q⟩) fun _ _ e => e) hs hw (fun _ => rfl) (fun _ => rfl)
theorem E1.unpack3 {Q : Fl → Sto → Prop} {x y z : Str} {p q r : Pos} {k : Nat} {tp pos : Pos} {value : PySem.Expr}
    (h : EV f value σ (kUnp3 x y z Q))
    (hx : f.cs.names.lookup x = some .local) (hy : f.cs.names.lookup y = some .local) (hz : f.cs.names.lookup z = some .local)
    (hs : ∀ env, swapsWithSole [.Tuple [.Name x p, .Name y q, .Name z r] k tp] value pos.line env = pure false) (hw : swappedStores [.Tuple [.Name x p, .Name y q, .Name z r] k tp] value f.env = pure none) : E1 f (.Assign [.Tuple [.Name x p, .Name y q, .Name z r] k tp] value pos) σ Q :=
  E1.unpack 3 (fun O E s m N I => wpAny_mono (h O E s m N I) (fun v s' ⟨av, σ', h', tk', N', a1, a2, a3, a4, a, b, c, e, q⟩ => ⟨av, σ', h', tk', N', a1, a2, a3, a4, [a, b, c], e, rfl, AO.three hx hy hz q⟩) fun _ _ e => e) hs hw (fun _ => rfl) (fun _ => rfl)
theorem E1.swap2 {Q : Fl → Sto → Prop} {x y : Str} {p q : Pos} {k : Nat} {tp pos : Pos} {value : PySem.Expr}
    (h : EV f value σ (kSwp2 x y Q))
    (hx : f.cs.names.lookup x = some .local) (hy : f.cs.names.lookup y = some .local)
    (hs : ∀ env, swapsWithSole [.Tuple [.Name x p, .Name y q] k tp] value pos.line env = pure false) (hw : swappedStores [.Tuple [.Name x p, .Name y q] k tp] value f.env = pure (some [x, y])) : E1 f (.Assign [.Tuple [.Name x p, .Name y q] k tp] value pos) σ Q :=
  E1.swapped [x, y] (fun O E s m N I => wpAny_mono (h O E s m N I) (fun v s' ⟨av, σ', h', tk', N', a1, a2, a3, a4, a, b, e, q⟩ => ⟨av, σ', h', tk', N', a1, a2, a3, a4, [a, b], e, rfl, AO.bind (ts := [fun v => bindName f.env x v]) (.inl hy) (AO.bind (ts := []) (.inl hx) (AO.nil q))⟩) fun _ _ e => e) hs hw
theorem exTup2 {P : AV → AV → Prop} {a b : AV} (h : P a b) : ∃ a' b', AV.tup [a, b] = .tup [a', b'] ∧ P a' b' := ⟨a, b, rfl, h⟩
theorem exTup3 {P : AV → AV → AV → Prop} {a b c : AV} (h : P a b c) : ∃ a' b' c', AV.tup [a, b, c] = .tup [a', b', c'] ∧ P a' b' c' := ⟨a, b, c, rfl, h⟩
end
section
variable {P Q : Prop}
theorem an_tt (h : P) : (true = true → P) ∧ (true = false → Q) := ⟨fun _ => h, fun e => nomatch e⟩
theorem an_ff (h : Q) : (false = true → P) ∧ (false = false → Q) := ⟨fun e => (nomatch e), fun _ => h⟩
theorem an_dec {p : Prop} [Decidable p] (h : p → P) (h' : ¬ p → Q) : (decide p = true → P) ∧ (decide p = false → Q) := ⟨fun e => h (of_decide_eq_true e), fun e => h' (of_decide_eq_false e)⟩
theorem an_beq {α : Type} [BEq α] [LawfulBEq α] {a b : α} (h : a = b → P) (h' : ¬ a = b → Q) : ((a == b) = true → P) ∧ ((a == b) = false → Q) := ⟨fun e => h (beq_iff_eq.mp e), fun e => h' (beq_eq_false_iff_ne.mp e)⟩
theorem an_bne {α : Type} [BEq α] [LawfulBEq α] {a b : α} (h : ¬ a = b → P) (h' : a = b → Q) : ((a != b) = true → P) ∧ ((a != b) = false → Q) := ⟨fun e => h (bne_iff_ne.mp e), fun e => h' (by simpa using e)⟩
theorem an_not {c : Bool} (h : c = false → P) (h' : c = true → Q) : ((!c) = true → P) ∧ ((!c) = false → Q) := ⟨fun e => h (by simpa using e), fun e => h' (by simpa using e)⟩
theorem an_nt (h : Q) : ((!true) = true → P) ∧ ((!true) = false → Q) := ⟨fun e => (nomatch e), fun _ => h⟩
theorem an_nf (h : P) : ((!false) = true → P) ∧ ((!false) = false → Q) := ⟨fun _ => h, fun e => nomatch e⟩
theorem an_var {c : Bool} (h : c = true → P) (h' : c = false → Q) : (c = true → P) ∧ (c = false → Q) := ⟨h, h'⟩
theorem ro_tt (h : Q) : (true = false → P) ∧ (true = true → Q) := ⟨fun e => (nomatch e), fun _ => h⟩
theorem ro_ff (h : P) : (false = false → P) ∧ (false = true → Q) := ⟨fun _ => h, fun e => nomatch e⟩
theorem ro_dec {p : Prop} [Decidable p] (h : ¬ p → P) (h' : p → Q) : (decide p = false → P) ∧ (decide p = true → Q) := ⟨fun e => h (of_decide_eq_false e), fun e => h' (of_decide_eq_true e)⟩
theorem ro_beq {α : Type} [BEq α] [LawfulBEq α] {a b : α} (h : ¬ a = b → P) (h' : a = b → Q) : ((a == b) = false → P) ∧ ((a == b) = true → Q) := ⟨fun e => h (beq_eq_false_iff_ne.mp e), fun e => h' (beq_iff_eq.mp e)⟩
theorem ro_bne {α : Type} [BEq α] [LawfulBEq α] {a b : α} (h : a = b → P) (h' : ¬ a = b → Q) : ((a != b) = false → P) ∧ ((a != b) = true → Q) := ⟨fun e => h (by simpa using e), fun e => h' (bne_iff_ne.mp e)⟩
theorem ro_var {c : Bool} (h : c = false → P) (h' : c = true → Q) : (c = false → P) ∧ (c = true → Q) := ⟨h, h'⟩
end
section
variable {f : Fm} {x y : List Nat} {c : Nat} {n : Int}
theorem x_cat {Q : AV → Sto → Prop} {σ : Sto} (hz : x.length + y.length ≤ sizeLine) (h : Q (.str (T (x ++ y))) σ) : kOp f (binaryOp .Add) (.str (T x)) Q (.str (T y)) σ := ⟨_, o_cat hz, h⟩
theorem x_icat {Q : AV → Sto → Prop} {σ : Sto} (hz : x.length + y.length ≤ sizeLine) (h : Q (.str (T (x ++ y))) σ) : kOp f (inplaceOp .Add) (.str (T x)) Q (.str (T y)) σ := ⟨_, o_icat hz, h⟩
theorem x_rep {Q : AV → Sto → Prop} {σ : Sto} (h1 : n ≤ 100000) (h2 : -100000 ≤ n) (h : Q (.str (T (List.replicate n.toNat c))) σ) : kOp f (binaryOp .Mult) (.str (T [c])) Q (.int n) σ := ⟨_, o_rep h1 h2, h⟩
theorem x_last {Q : AV → Sto → Prop} {σ : Sto} {value slice : PySem.Expr} (ho : ¬ x = []) (h : Q (.str (T [x.getLast ho])) σ)
    (hs : ∀ x t k' u, subscripted slice false (.str x t) (.int k' u) = operate [.str x t, .int k' u] (getItem (.str x t) (.int k' u)))
    (hl : ∀ x t r, letTemporaryGo value (.str x t) r = pure ()) : kOp f (subscriptTail value slice) (.str (T x)) Q (.int (-1)) σ := by
  refine ⟨_, ?_, h⟩
  have := i_last (f := f) (value := value) (slice := slice) (l := x.dropLast) (c := x.getLast ho) hs hl
  rwa [List.dropLast_concat_getLast] at this
theorem x_at {Q : AV → Sto → Prop} {σ : Sto} {value slice : PySem.Expr} {k c : Nat} (hx : x[k]? = some c) (h : Q (.str (T [c])) σ)
    (hs : ∀ x t k' u, subscripted slice false (.str x t) (.int k' u) = operate [.str x t, .int k' u] (getItem (.str x t) (.int k' u)))
    (hl : ∀ x t r, letTemporaryGo value (.str x t) r = pure ()) : kOp f (subscriptTail value slice) (.str (T x)) Q (.int k) σ := ⟨_, i_str hx hs hl, h⟩
theorem x_tup0 {Q : AV → Sto → Prop} {σ : Sto} {value slice : PySem.Expr} {a : AV} {l : List AV} (h : Q a σ)
    (hs : ∀ t k' u, subscripted slice false (.ref t) (.int k' u) = operate [.ref t, .int k' u] (getItem (.ref t) (.int k' u))) : kOp f (subscriptTail value slice) (.tup (a :: l)) Q (.int 0) σ := ⟨_, i_tup (k := 0) rfl (by decide) hs, h⟩
theorem x_tup1 {Q : AV → Sto → Prop} {σ : Sto} {value slice : PySem.Expr} {a b : AV} {l : List AV} (h : Q b σ)
    (hs : ∀ t k' u, subscripted slice false (.ref t) (.int k' u) = operate [.ref t, .int k' u] (getItem (.ref t) (.int k' u))) : kOp f (subscriptTail value slice) (.tup (a :: b :: l)) Q (.int 1) σ := ⟨_, i_tup (k := 1) rfl (by decide) hs, h⟩
theorem x_tup2 {Q : AV → Sto → Prop} {σ : Sto} {value slice : PySem.Expr} {a b c : AV} {l : List AV} (h : Q c σ)
    (hs : ∀ t k' u, subscripted slice false (.ref t) (.int k' u) = operate [.ref t, .int k' u] (getItem (.ref t) (.int k' u))) : kOp f (subscriptTail value slice) (.tup (a :: b :: c :: l)) Q (.int 2) σ := ⟨_, i_tup (k := 2) rfl (by decide) hs, h⟩
theorem x_tup3 {Q : AV → Sto → Prop} {σ : Sto} {value slice : PySem.Expr} {a b c d : AV} {l : List AV} (h : Q d σ)
    (hs : ∀ t k' u, subscripted slice false (.ref t) (.int k' u) = operate [.ref t, .int k' u] (getItem (.ref t) (.int k' u))) : kOp f (subscriptTail value slice) (.tup (a :: b :: c :: d :: l)) Q (.int 3) σ := ⟨_, i_tup (k := 3) rfl (by decide) hs, h⟩
end
abbrev figs : List Nat := [48, 49, 50, 51, 52, 53, 54, 55, 56, 57]
theorem lit_figs : Str.ofString "0123456789" = T figs := by decide +kernel
theorem x_mul {f : Fm} {a b : Int} {Q : AV → Sto → Prop} {σ : Sto} (h : IntMulOk a b) (hp : Q (.int (a * b)) σ) : kOp f (binaryOp .Mult) (.int a) Q (.int b) σ := ⟨_, o_mul h, hp⟩
theorem leLen {a : Nat} {x : List Nat} {P : Prop} (hl : a ≤ x.length) (h : P) : a ≤ x.length ∧ P := ⟨hl, h⟩
theorem eqS {i : Nat} {P : Prop} (h : P) : AV.int ((i : Int) + 1) = AV.int ((i + 1 : Nat) : Int) ∧ P := ⟨rfl, h⟩
theorem EV.globW {f : Fm} {σ : Sto} {Q : AV → Sto → Prop} {x : Str} {pos : Pos} {a : Addr} (e : nsIn f.K mainGlobals x = some (some (.ref a)))
    (hl : ∃ t1 t2 t3 t4 c, f.K.lookup a = some (tupO [.str (Str.ofString "F") t1, .str (Str.ofString "E") t2, .str (Str.ofString "D") t3, .str (Str.ofString "G") t4] c)) (hx : f.cs.names.lookup x = some .globalImplicit) (h : Q (.tup [.str (T [70]), .str (T [69]), .str (T [68]), .str (T [71])]) σ) : EV f (.Name x pos) σ Q := by
  obtain ⟨t1, t2, t3, t4, c, hl⟩ := hl
  rw [lit_F, lit_E, lit_D, lit_G] at hl
  exact EV.glob (av := .tup [.str (T [70]), .str (T [69]), .str (T [68]), .str (T [71])]) e hx ⟨a, _, c, rfl, .inr hl, RepL.mkCons (Rep.mkStr (by decide)) (RepL.mkCons (Rep.mkStr (by decide)) (RepL.mkCons (Rep.mkStr (by decide)) (RepL.mkCons (Rep.mkStr (by decide)) RepL.mkNil)))⟩ h
theorem x_inTt {f : Fm} {Q : Bool → Sto → Prop} {σ : Sto} {z : Str} {l : List AV} (hl : allStr l = true) (hr : ((strsOf l).any (· == z)) = true) (h : Q true σ) : kOpT f (compareOp .In) (.str z) Q (.tup l) σ := ⟨_, hr ▸ c_inT hl, h⟩
theorem x_inTf {f : Fm} {Q : Bool → Sto → Prop} {σ : Sto} {z : Str} {l : List AV} (hl : allStr l = true) (hr : ((strsOf l).any (· == z)) = false) (h : Q false σ) : kOpT f (compareOp .In) (.str z) Q (.tup l) σ := ⟨_, hr ▸ c_inT hl, h⟩
section
variable {P Q : Prop} {c : Bool}
theorem an_isT (hc : c = true) (h : P) : (c = true → P) ∧ (c = false → Q) := ⟨fun _ => h, fun e => (by rw [hc] at e; cases e)⟩
theorem an_isF (hc : c = false) (h : Q) : (c = true → P) ∧ (c = false → Q) := ⟨fun e => (by rw [hc] at e; cases e), fun _ => h⟩
theorem ro_isT (hc : c = true) (h : Q) : (c = false → P) ∧ (c = true → Q) := ⟨fun e => (by rw [hc] at e; cases e), fun _ => h⟩
theorem ro_isF (hc : c = false) (h : P) : (c = false → P) ∧ (c = true → Q) := ⟨fun _ => h, fun e => (by rw [hc] at e; cases e)⟩
end
set_option exponentiation.threshold 3000
def dg (n : Nat) : List Nat := (Nat.toDigits 10 n).map Char.toNat
theorem dg_text (n : Nat) : Str.ofString (toString ((n : Nat) : Int)) = T (dg n) := by
  have := KIN.signs_num n
  apply Str.ext'
  rw [← Array.toArray_toList (xs := (Str.ofString (toString ((n : Nat) : Int))).cps), this]
  rfl
theorem dg_len {n k : Nat} (hk : 0 < k) (h : n < 10 ^ k) : (dg n).length ≤ k := by
  rw [dg, List.length_map]; exact (Nat.length_toDigits_le_iff (by decide) hk).mpr h
theorem x_str {f : Fm} {Q : AV → Sto → Prop} {σ : Sto} {n : Nat} (hn : n < 10 ^ 200) (h : Q (.str (T (dg n))) σ) : kBi f (typT "str") Q [.int (n : Nat)] σ := by
  refine ⟨_, b_str ?_ ?_, ?_⟩
  · have h2 : n < 2 ^ 1920 := Nat.lt_trans hn (by decide)
    show n.log2 < 1920
    by_cases h0 : n = 0
    · subst h0; decide
    · exact (Nat.log2_lt h0).mpr h2
  · rw [dg_text, T_len]
    have := dg_len (by decide) hn
    rw [sizeLine_eq]; omega
  · rw [dg_text]; exact h
theorem x_pow10 {f : Fm} {Q : AV → Sto → Prop} {σ : Sto} {k : Int} (h0 : 0 ≤ k) (h1 : k ≤ 100) (h : Q (.int ((10 ^ k.toNat : Nat) : Int)) σ) : kOp f (binaryOp .Pow) (.int 10) Q (.int k) σ :=
  ⟨_, o_pow h0 (by omega) (by decide), by rw [show (10 : Int) ^ k.toNat = ((10 ^ k.toNat : Nat) : Int) from by rw [Int.natCast_pow]; rfl]; exact h⟩
theorem log2_small {n : Nat} (h : n < 10 ^ 102) : n.log2 < 9000 := by
  by_cases h0 : n = 0
  · subst h0; decide
  · have : n.log2 < 400 := (Nat.log2_lt h0).mpr (Nat.lt_trans h (by decide))
    omega
theorem div10_lt {i : Int} (h : ¬ i = 0) (hm : i % 10 = 0) : (i / 10).natAbs < i.natAbs := by omega
theorem div10_ne {i : Int} (h : ¬ i = 0) (hm : i % 10 = 0) : i / 10 ≠ 0 := by omega
theorem div10_mul {i : Int} (hm : i % 10 = 0) : i / 10 * 10 = i := by omega
theorem div10_mulN {i : Int} (hm : i % 10 = 0) : (i / 10).natAbs * 10 = i.natAbs := by omega
theorem sub_up {a b : Nat} (h : 1 ≤ a) (h' : a ≤ b) : a - 1 + (b - a) = b - 1 := by omega
theorem step1 {c u : Int} {j : Nat} (h : c = u + j) : c + 1 = u + ((j + 1 : Nat) : Int) := by omega
theorem x_divU {f : Fm} {Q : AV → Sto → Prop} {σ : Sto} {a b : Int} (h1 : 0 < b) (h2 : b.natAbs < 10 ^ 102) (h : Q (.int (a / b)) σ) : kOp f (binaryOp .FloorDiv) (.int a) Q (.int b) σ :=
  ⟨_, o_divL (by omega) (PyProof.noPylong_of_log2 (log2_small h2)), by rw [Int.fdiv_eq_ediv_of_nonneg a (by omega)]; exact h⟩
section
variable {f : Fm}
theorem x_isNn {Q : Bool → Sto → Prop} {σ : Sto} (h : Q true σ) : kOpT f (compareOp .Is) .none Q .none σ := ⟨_, c_isN isN_none, h⟩
theorem x_isNi {Q : Bool → Sto → Prop} {σ : Sto} {i : Int} (h : Q false σ) : kOpT f (compareOp .Is) (.int i) Q .none σ := ⟨_, c_isN isN_int, h⟩
theorem x_isNs {Q : Bool → Sto → Prop} {σ : Sto} {i : Str} (h : Q false σ) : kOpT f (compareOp .Is) (.str i) Q .none σ := ⟨_, c_isN isN_str, h⟩
theorem x_isntNn {Q : Bool → Sto → Prop} {σ : Sto} (h : Q false σ) : kOpT f (compareOp .IsNot) .none Q .none σ := ⟨_, c_isntN (c := false) isN_none, h⟩
theorem x_isntNi {Q : Bool → Sto → Prop} {σ : Sto} {i : Int} (h : Q true σ) : kOpT f (compareOp .IsNot) (.int i) Q .none σ := ⟨_, c_isntN (c := true) isN_int, h⟩
end
theorem TR.inList {f : Fm} {σ : Sto} {Q : Bool → Sto → Prop} {l : PySem.Expr} {elts : List PySem.Expr} {lp pos : Pos}
    (h : EV f l σ fun a σ₁ => ∃ x, a = .str x ∧ EVs f lp elts σ₁ fun avs σ₂ => allStr avs = true ∧ avs.length ≤ 100 ∧ Q ((strsOf avs).any (· == x)) σ₂) : TR f (.Compare l [.In] [.List elts lp] pos) σ Q := fun O E s m N I => by
  refine wpAny_isTrue_Compare1 (PostV.k (h O E s m N I) fun a σ₁ h₁ t₁ N₁ v I₁ E₁ R₁ qq => ?_) (by rfl)
  obtain ⟨x, rfl, q₁⟩ := qq
  obtain ⟨hx, tx, rfl⟩ := R₁.outStr
  refine List_ (PostL.k (q₁ O E { s with heap := h₁, toks := t₁ } m N₁ I₁) fun avs σ₂ h₂ t₂ N₂ vs I₂ E₂ R₂ qq => ?_)
  obtain ⟨ha, hl, q₂⟩ := qq
  have hlen := R₂.length
  refine newList_N I₂.F I₂.nw (fun h' F' N' => ?_) (by rw [hlen]; exact Nat.le_trans hl (by decide))
  have I' : Inv f h' m N₂ σ₂ := ⟨F', fun p hp => N' p (.tail _ hp), I₂.loc, I₂.pen, I₂.penW, I₂.mt, I₂.cells⟩
  have I₃ := I'.more N' fun q hq => .tail _ hq
  refine in_list_strs (News.isList N' (.head _)) (strsAre_of ha R₂) (wpAny_truthy_bool ?_)
  exact ⟨σ₂, h', _, _, rfl, I₃, E₁.trans (E₂.trans Ext.cons), q₂⟩
theorem inLt {avs : List AV} {z : Str} {P Q : Prop} (ha : allStr avs = true) (hl : Nat.ble avs.length 100 = true) (hr : ((strsOf avs).any (· == z)) = true) (h : P) : allStr avs = true ∧ avs.length ≤ 100 ∧ (((strsOf avs).any (· == z)) = true → P) ∧ (((strsOf avs).any (· == z)) = false → Q) := ⟨ha, Nat.le_of_ble_eq_true hl, an_isT hr h⟩
theorem inLf {avs : List AV} {z : Str} {P Q : Prop} (ha : allStr avs = true) (hl : Nat.ble avs.length 100 = true) (hr : ((strsOf avs).any (· == z)) = false) (h : Q) : allStr avs = true ∧ avs.length ≤ 100 ∧ (((strsOf avs).any (· == z)) = true → P) ∧ (((strsOf avs).any (· == z)) = false → Q) := ⟨ha, Nat.le_of_ble_eq_true hl, an_isF hr h⟩
theorem x_at0 {f : Fm} {Q : AV → Sto → Prop} {σ : Sto} {value slice : PySem.Expr} {c : Nat} {r : List Nat} (h : Q (.str (T [c])) σ)
    (hs : ∀ x t k' u, subscripted slice false (.str x t) (.int k' u) = operate [.str x t, .int k' u] (getItem (.str x t) (.int k' u)))
    (hl : ∀ x t r, letTemporaryGo value (.str x t) r = pure ()) : kOp f (subscriptTail value slice) (.str (T (c :: r))) Q (.int 0) σ := ⟨_, i_str (k := 0) rfl hs hl, h⟩
theorem x_divmod {f : Fm} {Q : AV → Sto → Prop} {σ : Sto} {a b : Int} (h1 : 0 < b) (h2 : b.natAbs < 10 ^ 102) (h : Q (.tup [.int (a / b), .int (a % b)]) σ) : kBi f (bltT "divmod") Q [.int a, .int b] σ := by
  refine ⟨_, b_divmod (by omega) (PyProof.noPylong_of_log2 (log2_small h2)), ?_⟩
  rw [Int.fdiv_eq_ediv_of_nonneg a (by omega), Int.fmod_eq_emod_of_nonneg a (by omega)]; exact h
theorem x_lenT {f : Fm} {Q : AV → Sto → Prop} {σ : Sto} {l : List AV} {n : Nat} (hl : l.length = n) (hn : n ≤ 1000) (h : Q (.int (n : Int)) σ) : kBi f (bltT "len") Q [.tup l] σ := by
  subst hl; exact ⟨_, b_lenT hn, h⟩
theorem exInt {P : Int → Prop} {i : Int} (h : P i) : ∃ i', AV.int i = .int i' ∧ P i' := ⟨i, rfl, h⟩
theorem exPen {P : Addr → Int → Int → Prop} {a : Option AV} {Pa : Addr} {n c : Int} {pen : Pen} (e1 : a = some (.val (.ref Pa))) (e2 : pen = some (Pa, n, c)) (h : P Pa n c) : ∃ Pa n c, a = some (.val (.ref Pa)) ∧ pen = some (Pa, n, c) ∧ P Pa n c := ⟨Pa, n, c, e1, e2, h⟩
theorem exIntB {P : Int → AV → Prop} {i : Int} {b : AV} (h : P i b) : ∃ i' b', AV.tup [.int i, b] = .tup [.int i', b'] ∧ P i' b' := ⟨i, b, rfl, h⟩
theorem eqSto {σ : Sto} {P : Prop} (h : P) : σ = σ ∧ P := ⟨rfl, h⟩
theorem locI {l : List (Str × NameKind)} {y : Str} {P : Prop} (e : l.lookup y = some .local) (h : P) : l.lookup y = some .local ∧ P := ⟨e, h⟩
section
variable {G : Gl} {need : Nat} {fa : Addr} {args : List AV} {pen : Pen} {Q : AV → Pen → Prop} {room : Nat} {a : AV}
theorem useSpecER (sp : SPEC G need fa args pen (fun r p => p = pen ∧ r = a)) (hr : need + 1 ≤ room) (h : Q a pen) : ∃ need, need + 1 ≤ room ∧ SPEC G need fa args pen Q :=
  ⟨need, hr, sp.mono fun _ _ e => e.1.symm ▸ e.2.symm ▸ h⟩
theorem useSpecE (sp : SPEC G need fa args pen (fun r p => p = pen ∧ r = a)) (hr : Nat.ble (need + 1) room = true) (h : Q a pen) : ∃ need, need + 1 ≤ room ∧ SPEC G need fa args pen Q := useSpecER sp (Nat.le_of_ble_eq_true hr) h
theorem useSpecSR {S : Int → Int → Prop} (sp : SPEC G need fa args pen (fun r p => p = pen ∧ ∃ m' e', r = .tup [.int m', .int e'] ∧ S m' e')) (hr : need + 1 ≤ room) (h : ∀ m' e', S m' e' → Q (.tup [.int m', .int e']) pen) : ∃ need, need + 1 ≤ room ∧ SPEC G need fa args pen Q :=
  ⟨need, hr, sp.mono fun _ _ e => let ⟨m', e', e2, s⟩ := e.2; e.1.symm ▸ e2.symm ▸ h m' e' s⟩
theorem useSpecS {S : Int → Int → Prop} (sp : SPEC G need fa args pen (fun r p => p = pen ∧ ∃ m' e', r = .tup [.int m', .int e'] ∧ S m' e')) (hr : Nat.ble (need + 1) room = true) (h : ∀ m' e', S m' e' → Q (.tup [.int m', .int e']) pen) : ∃ need, need + 1 ≤ room ∧ SPEC G need fa args pen Q := useSpecSR sp (Nat.le_of_ble_eq_true hr) h
theorem useSpecDR {P : Addr} {many : Nat} (sp : SPEC G need fa args pen (fun r q => ∃ n' c' k, q = some (P, n', c') ∧ r = .int (k : Nat) ∧ k < many)) (hr : need + 1 ≤ room) (h : ∀ n' c' (k : Nat), k < many → Q (.int (k : Nat)) (some (P, n', c'))) : ∃ need, need + 1 ≤ room ∧ SPEC G need fa args pen Q :=
  ⟨need, hr, sp.mono fun _ _ e => let ⟨n', c', k, e1, e2, s⟩ := e; e1.symm ▸ e2.symm ▸ h n' c' k s⟩
theorem useSpecD {P : Addr} {many : Nat} (sp : SPEC G need fa args pen (fun r q => ∃ n' c' k, q = some (P, n', c') ∧ r = .int (k : Nat) ∧ k < many)) (hr : Nat.ble (need + 1) room = true) (h : ∀ n' c' (k : Nat), k < many → Q (.int (k : Nat)) (some (P, n', c'))) : ∃ need, need + 1 ≤ room ∧ SPEC G need fa args pen Q := useSpecDR sp (Nat.le_of_ble_eq_true hr) h
theorem useSpecPR {P : Addr} {R : AV → Prop} (sp : SPEC G need fa args pen (fun r q => (∃ n' c', q = some (P, n', c')) ∧ R r)) (hr : need + 1 ≤ room) (h : ∀ n' c' r, R r → Q r (some (P, n', c'))) : ∃ need, need + 1 ≤ room ∧ SPEC G need fa args pen Q :=
  ⟨need, hr, sp.mono fun r _ e => let ⟨n', c', e1⟩ := e.1; e1.symm ▸ h n' c' r e.2⟩
theorem useSpecP {P : Addr} {R : AV → Prop} (sp : SPEC G need fa args pen (fun r q => (∃ n' c', q = some (P, n', c')) ∧ R r)) (hr : Nat.ble (need + 1) room = true) (h : ∀ n' c' r, R r → Q r (some (P, n', c'))) : ∃ need, need + 1 ≤ room ∧ SPEC G need fa args pen Q := useSpecPR sp (Nat.le_of_ble_eq_true hr) h
end
theorem TRs.orK {f : Fm} {σ : Sto} {Q : Bool → Sto → Prop} {x y1 y2 : Str} {p1 p2 p3 p4 q1 q2 : Pos} {k i1 i2 : Int} {t1 t2 : Tok} (e : σ.loc.lookup x = some (.int k)) (g1 : nsIn f.K mainGlobals y1 = some (some (.int i1 t1))) (hx1 : f.cs.names.lookup y1 = some .globalImplicit) (g2 : nsIn f.K mainGlobals y2 = some (some (.int i2 t2))) (hx2 : f.cs.names.lookup y2 = some .globalImplicit)
    (hk : k = i1 ∨ k = i2) (h : Q true σ) : TRs f .Or [.Compare (.Name x p1) [.Eq] [.Name y1 p2] q1, .Compare (.Name x p3) [.Eq] [.Name y2 p4] q2] σ Q :=
  TRs.or_cons (TR.cmp (EV.name e (EV.globI g1 hx1 ⟨_, c_eq, fun _ => TRs.or_cons (TR.cmp (EV.name e (EV.globI g2 hx2 ⟨_, c_eq, fun hf => absurd (hk.resolve_left fun z => by subst z; simp at *) (by simpa using hf), fun _ => h⟩))), fun _ => h⟩)))
def isRealW (c : Nat) : Prop := c = 70 ∨ c = 69 ∨ c = 68 ∨ c = 71
structure RealW (c : Nat) : Prop where
  nI : ([c] == [73]) = false
  nL : ([c] == [76]) = false
  nA : ([c] == [65]) = false
  inW : ((strsOf [AV.str (T [70]), .str (T [69]), .str (T [68]), .str (T [71])]).any (· == T [c])) = true
  in4 : decide (c ∈ [70, 69, 68, 71]) = true
  in5 : decide (c ∈ [73, 70, 69, 68, 71]) = true
theorem isRealW.all {c : Nat} (h : isRealW c) : RealW c := by
  rcases h with rfl | rfl | rfl | rfl <;> exact ⟨by decide, by decide, by decide, by decide +kernel, by decide, by decide⟩
end Mine
end
section
open Sem (wp)
namespace Mine
section
variable {prog : Program} {w : World} {A : Around} {E : Value → Shared → Prop} {h : Heap} {g : Array GenState} {d : Drawn} {t : Nat} {os : OsState}
variable {nm q : Str} {C N : Addr} {bs bm bmB : List Value} {hdct : Bool} {sn : List Str} {sub : List Value} {ab : Bool} {col : Option Bool} {dd : Option Addr} {k0 k1 k2 k3 k5 : Option Value} {B Bn newId nid initId inN : String} {bmN : List Value}
structure TailOk (Bn : String) (bm : List Value) : Prop where
  hasB : bm.contains (.type Bn) = true
  noAttr : bm.contains (.type "AttributeError") = false
  noName : bm.contains (.type "NameError") = false
theorem new_own (Fn : ExcBaseFacts Bn newId inN bmN) (T : TailOk Bn bm) {R : Result → Shared → Prop} {rest : List Value} (hC : h.get? C = some (excClassObj nm q C N bs bm hdct sn sub ab col dd k0 k1 k2 k3 k5 newId))
    (hq : R (.ok (.ret (.ref (h.objs.size + 1)))) ⟨(h.push { cls := .type "tuple", data := .seq rest.toArray }).push { cls := .ref C, data := .fields #[.ref h.objs.size, .none, .none, .none, .bool false, .none] }, g, d, t, os⟩) (hrest : rest.length ≤ sizeLine) :
    codeAny (model prog w) A (.builtin newId ⟨.ref C :: rest, []⟩) R ⟨h, g, d, t, os⟩ := by
  have e1 := Fn.ends
  have e2 : (Value.ref C :: bm).contains (.type Bn) = true := by rw [List.contains_cons, T.hasB, Bool.or_true]
  have e3 : (Value.ref C :: bm).contains (.type "AttributeError") = false := by rw [List.contains_cons, T.noAttr]; rfl
  have e4 : (Value.ref C :: bm).contains (.type "NameError") = false := by rw [List.contains_cons, T.noName]; rfl
  refine codeAny_builtinAt Fn.entry ?_
  unfold Builtin.«BaseException.__new__»
  refine PySem.wpAt_bind ?_
  show PySem.wpAt _ _ _ (stack >>= _) _ _ _
  refine PySem.wpAt_bind (PySem.wpAt_stack fun p below => PySem.wpAt_of_wpAny ?_)
  wp_walk
  refine PySem.wpAt_of_wpAny ?_
  rw [Fn.owner]
  repeat (first | with_reducible refine wpAny_madeHere_exc Fn.canon hC ?_ | with_reducible refine wpAny_loadPart_at hC ?_ | (with_reducible refine wpAny_isSubtype_exc hC ?_; first | rw [e2] | rw [e3] | rw [e4]) | wp_step)
  show R _ _
  rw [Heap.size_push]
  exact hq
theorem type_call_initU (Fn : ExcBaseFacts Bn newId inN bmN) (T : TailOk Bn bm) {mN : Str → Option Value} {rest : List Value} {fI : Addr} {oI : Obj} {Q : Fin → Shared → Prop}
    (hC : h.get? C = some (excClassObj nm q C N bs bm hdct sn sub ab col dd k0 k1 k2 k3 k5 newId)) (hn : h.Ns N mN) (hi : mN "__init__" = some (.ref fI)) (hfI : h.get? fI = some oI) (hfc : oI.cls = .type "function")
    (hq : ∀ h' e, Heap.MadeExcOf h h' e (.ref C) rest → wpAny (model prog w) A (call (.ref fI) (.ref e :: rest)) (fun r s' => r = .none ∧ Q (.done (.ret (.ref e))) s') E ⟨h', g, d, t, os⟩) (hrest : rest.length ≤ sizeLine) :
    wpAny (model prog w) A (Builtin.«type.__call__» ⟨.ref C :: rest, []⟩) Q E ⟨h, g, d, t, os⟩ := by
  repeat (first | with_reducible refine wpAny_loadPart_at hC ?_ | with_reducible refine wpAny_madeBy_exc hC ?_ | wp_step)
  refine codeAny_call_builtin_code (Code.quiet_builtin _ Fn.quiet) (wpAny_check_new_subU Fn T.hasB OwnTail.base hC ?_)
  refine new_own Fn T hC ?_ hrest
  show wpAny _ _ _ _ _ _
  generalize hH : (h.push { cls := .type "tuple", data := .seq rest.toArray }).push { cls := .ref C, data := .fields #[.ref h.objs.size, .none, .none, .none, .bool false, .none] } = H
  have up : ∀ b o, h.get? b = some o → H.get? b = some o := fun b o e => by rw [← hH]; exact Heap.get?_push_of_some _ (Heap.get?_push_of_some _ e)
  have hget : H.get? (h.objs.size + 1) = some { cls := .ref C, data := .fields #[.ref h.objs.size, .none, .none, .none, .bool false, .none] } := by rw [← hH]; heap_get
  have htup : H.get? h.objs.size = some { cls := .type "tuple", data := .seq rest.toArray } := by rw [← hH]; exact Heap.get?_push_of_some _ (Heap.get?_push_at rfl rfl)
  have hC₁ := up _ _ hC
  have hn₁ : H.Ns N mN := let ⟨o, es, ep, e, r⟩ := hn; ⟨o, es, ep, up _ _ e, r⟩
  have hcC : (Value.ref C :: bm).contains (.ref C) = true := by simp
  unfold isInstance
  repeat (first | with_reducible refine wpAny_loadPart_at hget ?_ | (with_reducible refine wpAny_isSubtype_exc hC₁ ?_; rw [hcC]) | wp_step)
  show wpAny _ _ (typeLookup (.ref C) _) _ _ _
  rw [typeLookup_eq]
  refine wpAny_bind (wpAny_mroOf_exc hC₁ ?_)
  rw [lookupAlong_cons]
  refine wpAny_bind (wpAny_classOwn_exc hC₁ hn₁ ?_)
  rw [hi]
  refine wpAny_pure ?_
  refine wpAny_holding (wpAny_bind ?_)
  unfold bindSpecial
  refine wpAny_bind (wpAny_typeOf (T := "function") ⟨_, up _ _ hfI, hfc⟩ ?_)
  rw [if_pos (by decide)]
  refine wpAny_pure (wpAny_bind (wpAny_mono (hq H (h.objs.size + 1) ⟨up, Heap.get?_none_of_le (Nat.le_succ _), h.objs.size, hget, Heap.get?_none_of_le (Nat.le_refl _), htup⟩) (fun r s' hr => ?_) fun _ _ x => x))
  obtain ⟨rfl, hQ⟩ := hr
  wp_walk
  exact hQ
theorem call_initU (Fn : ExcBaseFacts Bn newId inN bmN) (T : TailOk Bn bm) {mN : Str → Option Value} {rest : List Value} {fI : Addr} {oI : Obj} {Q : Value → Shared → Prop}
    (hC : h.get? C = some (excClassObj nm q C N bs bm hdct sn sub ab col dd k0 k1 k2 k3 k5 newId)) (hn : h.Ns N mN) (hi : mN "__init__" = some (.ref fI)) (hfI : h.get? fI = some oI) (hfc : oI.cls = .type "function")
    (hq : ∀ h' e, Heap.MadeExcOf h h' e (.ref C) rest → wpAny (model prog w) (A.under (.builtin "type.__call__" ⟨.ref C :: rest, []⟩)) (call (.ref fI) (.ref e :: rest)) (fun r s' => r = .none ∧ Q (.ref e) s') E ⟨h', g, d, t, os⟩) (hrest : rest.length ≤ sizeLine) :
    wpAny (model prog w) A (call (.ref C) rest) Q E ⟨h, g, d, t, os⟩ := by
  have f1 := tc_lookup
  have f2 := tc_bind (.ref C)
  have hT : (⟨h, g, d, t, os⟩ : Shared).TypeIs (.ref C) "type" := ⟨_, hC, rfl⟩
  refine wpAny_call (codeAny_of_tree ?_)
  show wpAny _ _ (callAny (.ref C) _) _ _ _
  repeat (any_goals (first | assumption | with_reducible refine wpAny_loadPart_at hC ?_ | wp_step))
  refine ⟨rfl, ?_⟩
  refine codeAny_call_builtin_at (Code.quiet_builtin _ (by decide +kernel)) entry_typeCall (wpAny_check_type_call_sub hC (type_call_initU Fn T hC hn hi hfI hfc (fun h' e hm => ?_) hrest))
  exact hq h' e hm
end
end Mine
end
section
open Sem (wp)
namespace Mine
structure Thr (B : Heap) (l : List Env) (e : Addr) (C : Value) (d : Addr) (fl : Value) (h : Heap) : Prop where
  stay : B.StaysIn h
  ne : B.get? e = none
  fr : h.FunFrames B l
  tr : ∃ oe vs T oT ts, h.get? e = some oe ∧ oe.cls = C ∧ oe.dict = some d ∧ oe.data = .fields vs ∧ vs[1]? = some (.ref T) ∧ B.get? T = none ∧ T ≠ e ∧ h.get? T = some oT ∧ oT.data = .fields ts ∧ ts[3]? = some fl
section
variable {M : Model} {A : Around} {E : Value → Shared → Prop} {s : Shared} {B : Heap} {env : Env} {outer l : List Env} {L e d : Addr} {C fl : Value} {Q : Unit → Shared → Prop}
theorem entry_step {oe : Obj} {vs : Array Value} {head : Value} {hadNext : Bool} (hfr : A.frames = some (env :: outer)) (hl : s.heap.FunFrames B (env :: outer)) (hf : env.frame = some L) (he : s.heap.get? e = some oe) (hB : B.StaysIn s.heap) (hn : B.get? e = none)
    (hd : oe.data = .fields vs) (hsz : 1 < vs.size) (hdict : oe.dict = some d) (h : ∀ h', Thr B (env :: outer) e oe.cls d (rawInt L) h' → s.heap.UpToSlots h' → Q () { s with heap := h' }) :
    wpAny M A (do let a ← frameOf env; let pl ← entryPlaceOf L hadNext; let b ← EntryCells.newEntry head a .none (rawInt L) .none pl; setField (.ref e) 1 b) Q E s := by
  have apart : ∀ b o, s.heap.get? b = some o → (∀ ws, o.data ≠ .fields ws) → b ≠ e := fun b o hb hnf q => by
    subst q; rw [he] at hb; injection hb with hb; subst hb; exact hnf vs hd
  have hef : e ∉ (env :: outer).filterMap (·.frame) := fun hm => by
    obtain ⟨_, o, ho, hnf⟩ := hl.mem hm
    exact apart e o ho hnf rfl
  refine wpAny_bind (wpAny_frameOf_fun hfr hl hf fun h₁ hs₁ => wpAny_bind (wpAny_entryPlaceOf fun pl hpl => ?_))
  unfold EntryCells.newEntry newFields
  refine wpAny_bind (wpAny_newObj_type ?_ (hpl.sizeOk5 _ _ _ _ _))
  have stay₁ : B.StaysIn h₁ := fun b o hb => (hs₁.2.1 b fun hm => by rw [(hl.mem hm).1] at hb; cases hb).trans (hB b o hb)
  have he₁ : h₁.get? e = some oe := (hs₁.2.1 e hef).trans he
  have freshT : B.get? h₁.objs.size = none := stay₁.fresh
  have neT : h₁.objs.size ≠ e := Nat.ne_of_gt (Heap.lt_size he₁)
  generalize hT : ({ cls := .type "traceback", dict := none, data := .fields ([head, .ref L, .none, rawInt L, .none] ++ (if pl.isEmpty then List.replicate 6 Value.none else pl)).toArray } : Obj) = oT
  have hTd : ∃ ts, oT.data = .fields ts ∧ ts[3]? = some (rawInt L) := by
    subst hT
    exact ⟨_, rfl, by first | (simp; done) | (rcases hpl with rfl | ⟨_, _, _, _, _, _, _, rfl⟩ <;> simp)⟩
  have hTf : oT.isFreed = false := by subst hT; rfl
  obtain ⟨ts, hTd, hT3⟩ := hTd
  have he₂ := Heap.get?_push_of_some oT he₁
  refine wpAny_setField he₂ hd hsz (h _ ?_ ?_)
  all_goals
    have hd₃ := Obj.data_mapFields hd (·.setIfInBounds 1 (Value.ref h₁.objs.size))
    have he₃ := Heap.get?_update_self (Obj.mapFields (·.setIfInBounds 1 (Value.ref h₁.objs.size))) he₂ (Obj.isFreed_of_fields hd₃)
    have other : ∀ b o, b ≠ e → h₁.get? b = some o → ((h₁.push oT).update e (Obj.mapFields (·.setIfInBounds 1 (Value.ref h₁.objs.size)))).get? b = some o := fun b o hbe hb => by
      rw [Heap.get?_update_other _ _ (Ne.symm hbe)]
      exact Heap.get?_push_of_some _ hb
  · refine ⟨fun b o hb => other b o (fun q => by rw [q, hn] at hb; cases hb) (stay₁ b o hb), hn, hl.of_keeps fun b o hb hnf => ?_, _, _, h₁.objs.size, oT, ts, he₃, Obj.cls_mapFields _ _, ?_, hd₃, by simp [hsz], freshT, neT, ?_, hTd, hT3⟩
    · obtain ⟨sl, hs⟩ := hs₁.2.2 b o hb
      exact ⟨_, other b _ (apart b o hb hnf) hs, rfl⟩
    · show (Obj.mapFields _ oe).dict = _
      obtain ⟨c0, d0, data0, sl0⟩ := oe
      dsimp only at hd hdict
      subst hd
      exact hdict
    · rw [Heap.get?_update_other _ _ (Ne.symm neT)]
      exact Heap.get?_push_size _ hTf
  · intro b o hb hnf
    obtain ⟨sl, hs⟩ := hs₁.2.2 b o hb
    exact ⟨sl, other b _ (apart b o hb hnf) hs⟩
theorem note_first {oe : Obj} {vs : Array Value} (hfr : A.frames = some (env :: outer)) (hl : s.heap.FunFrames B (env :: outer)) (hf : env.frame = some L) (he : s.heap.get? e = some oe) (hB : B.StaysIn s.heap) (hn : B.get? e = none)
    (hd : oe.data = .fields vs) (h1 : vs[1]? = some .none) (hdict : oe.dict = some d) (h : ∀ h', Thr B (env :: outer) e oe.cls d (rawInt L) h' → s.heap.UpToSlots h' → Q () { s with heap := h' }) : wpAny M A (noteFrame (.ref e) env) Q E s := by
  unfold noteFrame
  simp only [hf]
  refine wpAny_bind (wpAny_field he hd h1 ?_)
  rw [if_neg (by decide)]
  exact entry_step hfr hl hf he hB hn hd (Array.getElem?_eq_some_iff.mp h1).1 hdict h
theorem note_next (hfr : A.frames = some (env :: outer)) (hf : env.frame = some L) (x : Thr B (env :: outer) e C d .none s.heap) (h : ∀ h', Thr B (env :: outer) e C d (rawInt L) h' → s.heap.UpToSlots h' → Q () { s with heap := h' }) : wpAny M A (noteFrame (.ref e) env) Q E s := by
  obtain ⟨hB, hn, hl, oe, vs, T, oT, ts, he, rfl, hdict, hd, h1, hnT, hTe, hT, hdT, h3⟩ := x
  unfold noteFrame
  simp only [hf]
  refine wpAny_bind (wpAny_field he hd h1 ?_)
  rw [if_pos (show (Value.ref T != Value.none) = true from by simp)]
  refine wpAny_bind (wpAny_field hT hdT h3 ?_)
  rw [if_neg (show ¬ ((Value.none == rawInt L) = true) from by simp [rawInt])]
  refine wpAny_bind (wpAny_setField hT hdT (Array.getElem?_eq_some_iff.mp h3).1 ?_)
  have other : ∀ b, b ≠ T → (s.heap.update T (Obj.mapFields (·.setIfInBounds 3 Value.none))).get? b = s.heap.get? b := fun b hb => Heap.get?_update_other _ _ (Ne.symm hb)
  have apart : ∀ b o, s.heap.get? b = some o → (∀ ws, o.data ≠ .fields ws) → b ≠ T := fun b o hb hnf q => by
    subst q; rw [hT] at hb; injection hb with hb; subst hb; exact hnf ts hdT
  refine entry_step hfr (hl.of_keeps fun b o hb hnf => ⟨o, (other b (apart b o hb hnf)).trans hb, rfl⟩) hf ((other e (Ne.symm hTe)).trans he) (fun b o hb => (other b fun q => by rw [q, hnT] at hb; cases hb).trans (hB b o hb)) hn hd
    (Array.getElem?_eq_some_iff.mp h1).1 hdict fun h' x' u => h h' x' fun b o hb hnf => u b o ((other b (apart b o hb hnf)).trans hb) hnf
theorem note_again (hf : env.frame = some L) (x : Thr B l e C d (rawInt L) s.heap) (h : Q () s) : wpAny M A (noteFrame (.ref e) env) Q E s := by
  obtain ⟨hB, hn, hl, oe, vs, T, oT, ts, he, hc, hdict, hd, h1, hnT, hTe, hT, hdT, h3⟩ := x
  unfold noteFrame
  simp only [hf]
  refine wpAny_bind (wpAny_field he hd h1 ?_)
  rw [if_pos (show (Value.ref T != Value.none) = true from by simp)]
  refine wpAny_bind (wpAny_field hT hdT h3 ?_)
  rw [if_pos (show (rawInt L == rawInt L) = true from by simp)]
  exact wpAny_pure h
theorem flight_set {fr : Option Addr} (x : Thr B l e C d fl s.heap) (h : ∀ h', Thr B l e C d (fr.elim Value.none fun f => rawInt f) h' → s.heap.UpToSlots h' → Q () { s with heap := h' }) : wpAny M A (setFlight (.ref e) fr) Q E s := by
  obtain ⟨hB, hn, hl, oe, vs, T, oT, ts, he, hc, hdict, hd, h1, hnT, hTe, hT, hdT, h3⟩ := x
  have hsz : 3 < ts.size := (Array.getElem?_eq_some_iff.mp h3).1
  have other : ∀ b, b ≠ T → (s.heap.update T (Obj.mapFields (·.setIfInBounds 3 (fr.elim Value.none fun f => rawInt f)))).get? b = s.heap.get? b := fun b hb => Heap.get?_update_other _ _ (Ne.symm hb)
  have apart : ∀ b o, s.heap.get? b = some o → (∀ ws, o.data ≠ .fields ws) → b ≠ T := fun b o hb hnf q => by
    subst q; rw [hT] at hb; injection hb with hb; subst hb; exact hnf ts hdT
  unfold setFlight
  refine wpAny_bind (wpAny_field he hd h1 ?_)
  rw [if_pos (show (Value.ref T != Value.none) = true from by simp)]
  refine wpAny_setField hT hdT hsz (h _ ⟨fun b o hb => (other b fun q => by rw [q, hnT] at hb; cases hb).trans (hB b o hb), hn, hl.of_keeps fun b o hb hnf => ⟨o, (other b (apart b o hb hnf)).trans hb, rfl⟩, ?_⟩ fun b o hb hnf => ⟨o.slots, (other b (apart b o hb hnf)).trans hb⟩)
  exact ⟨oe, vs, T, _, _, (other e (Ne.symm hTe)).trans he, hc, hdict, hd, h1, hnT, hTe, Heap.get?_update_self _ hT (Obj.isFreed_of_fields (Obj.data_mapFields hdT _)), Obj.data_mapFields hdT _, by simp [hsz]⟩
theorem Thr.tail {h : Heap} (x : Thr B (env :: outer) e C d fl h) : Thr B outer e C d fl h := by
  obtain ⟨hB, hn, ⟨_, _, hl⟩, r⟩ := x
  exact ⟨hB, hn, hl, r⟩
theorem leave_first {oe : Obj} {vs : Array Value} (hfr : A.frames = some (env :: outer)) (hl : s.heap.FunFrames B (env :: outer)) (hf : env.frame = some L) (he : s.heap.get? e = some oe) (hB : B.StaysIn s.heap) (hn : B.get? e = none)
    (hd : oe.data = .fields vs) (h1 : vs[1]? = some .none) (hdict : oe.dict = some d) (h : ∀ h', Thr B outer e oe.cls d .none h' → s.heap.UpToSlots h' → Q () { s with heap := h' }) : wpAny M A (leaving env (.ref e)) Q E s := by
  unfold leaving
  refine wpAny_bind (note_first hfr hl hf he hB hn hd h1 hdict fun h₁ x u => flight_set (s := { s with heap := h₁ }) (fr := none) x fun h₂ x₂ u₂ => h h₂ x₂.tail (u.trans u₂))
theorem leave_next (hfr : A.frames = some (env :: outer)) (hf : env.frame = some L) (x : Thr B (env :: outer) e C d .none s.heap) (h : ∀ h', Thr B outer e C d .none h' → s.heap.UpToSlots h' → Q () { s with heap := h' }) : wpAny M A (leaving env (.ref e)) Q E s := by
  unfold leaving
  refine wpAny_bind (note_next hfr hf x fun h₁ x u => flight_set (s := { s with heap := h₁ }) (fr := none) x fun h₂ x₂ u₂ => h h₂ x₂.tail (u.trans u₂))
end
end Mine
end
section
open Sem (wp)
namespace Mine
section
variable {A : Around} {E : Value → Shared → Prop} {s : Shared} {env : Env}
variable {nm q : Str} {C N : Addr} {bs bm bmN : List Value} {hdct : Bool} {sn : List Str} {sub : List Value} {ab : Bool} {col : Option Bool} {dd : Option Addr} {k0 k1 k2 k3 k5 : Option Value} {Bn newId inN : String}
abbrev excO (C t d : Addr) : Obj := { cls := .ref C, dict := some d, data := .fields #[.ref t, .none, .none, .none, .bool false, .none] }
theorem raiseStmt_own {M : Model} {x : Sem Value} {Q : Flow → Shared → Prop} (hbase : bm.contains (.type "BaseException") = true) (hh : A.handled = none)
    (h : wpAny M A x (fun v s₁ => ∃ e t d, v = .ref e ∧ s₁.heap.get? C = some (excClassObj nm q C N bs bm hdct sn sub ab col dd k0 k1 k2 k3 k5 newId) ∧ s₁.heap.get? e = some (excO C t d) ∧ E (.ref e) s₁) E s) : wpAny M A (raiseStmt env (some x) none) Q E s := by
  have hcB : (Value.ref C :: bm).contains (.type "BaseException") = true := by rw [List.contains_cons, hbase, Bool.or_true]
  unfold raiseStmt
  refine wpAny_bind (wpAny_mono h (fun v s₁ h₁ => ?_) fun _ _ x => x)
  obtain ⟨e, t, d, rfl, hC, he, hE⟩ := h₁
  obtain ⟨hp, g, d, tk, os⟩ := s₁
  repeat (first | with_reducible refine wpAny_loadPart_at he ?_ | with_reducible refine wpAny_loadPart_at hC ?_ | (with_reducible refine wpAny_isSubtype_exc hC ?_; rw [hcB]) | wp_step)
  exact wpAny_raiseNew_none hh hE
variable {prog : Program} {w : World}
theorem Raise_own {x : Str} {np cpos pos : Pos} {a₀ : PySem.Expr} {args : List PySem.Expr} {Q : Flow → Shared → Prop} {fI : Addr} {oI : Obj} {mN : Str → Option Value} (Fn : ExcBaseFacts Bn newId inN bmN) (T : TailOk Bn bm) (hbase : bm.contains (.type "BaseException") = true) (hh : A.handled = none)
    (hi : mN "__init__" = some (.ref fI)) (hfc : oI.cls = .type "function")
    (he : starEach (a₀ :: args) env = (false, eval a₀ env) :: starEach args env) (hplain : (backTo cpos (starEach args env)).any (·.1) = false)
    (h : wpAny (model prog w) A (eval (.Name x np) env) (fun f s₁ => f = .ref C ∧ wpAny (model prog w) A (spliced (backTo cpos (starEach (a₀ :: args) env)))
      (fun vs s₂ => vs.length ≤ sizeLine ∧ s₂.heap.get? C = some (excClassObj nm q C N bs bm hdct sn sub ab col dd k0 k1 k2 k3 k5 newId) ∧ s₂.heap.Ns N mN ∧ s₂.heap.get? fI = some oI ∧
        ∀ h' e, Heap.MadeExcOf s₂.heap h' e (.ref C) vs → wpAny (model prog w) (A.under (.builtin "type.__call__" ⟨.ref C :: vs, []⟩)) (call (.ref fI) (.ref e :: vs)) (fun r s' => r = .none ∧ ∃ t d, s'.heap.get? C = some (excClassObj nm q C N bs bm hdct sn sub ab col dd k0 k1 k2 k3 k5 newId) ∧ s'.heap.get? e = some (excO C t d) ∧ E (.ref e) s') E { s₂ with heap := h' }) E s₁) E s) :
    wpAny (model prog w) A (exec (.Raise (some (.Call (.Name x np) (a₀ :: args) [] cpos)) none pos) env) Q E s := by
  rw [arm_exec_Raise]
  have key : wpAny (model prog w) A (raiseStmt env (some (do let v ← eval (.Call (.Name x np) (a₀ :: args) [] cpos) env; standAt pos; pure v)) none) Q E s := by
    refine raiseStmt_own (C := C) (nm := nm) (q := q) (N := N) (bs := bs) (bm := bm) (hdct := hdct) (sn := sn) (sub := sub) (ab := ab) (col := col) (dd := dd) (k0 := k0) (k1 := k1) (k2 := k2) (k3 := k3) (k5 := k5) (newId := newId) hbase hh ?_
    refine wpAny_bind (wpAny_mono (wpAny_Call_ofName (wpAny_mono h (fun f s₁ h₁ => ?_) fun _ _ x => x)) (fun v s₃ h₃ => wpAny_bind (wpAny_standAt (wpAny_pure h₃))) fun _ _ x => x)
    obtain ⟨rfl, h₁⟩ := h₁
    show wpAny _ _ (callWith cpos (.ref C) [] (backTo cpos (starEach (a₀ :: args) env)) []) _ _ _
    have hpl : (backTo cpos (starEach (a₀ :: args) env)).any (·.1) = false := by
      rw [he]; show (false || (backTo cpos (starEach args env)).any (·.1)) = false; rw [hplain]; rfl
    have h₂ := evalArgs_plain (f := .ref C) (Q := fun a s₂ => a.kw = [] ∧ a.pos.length ≤ sizeLine ∧ s₂.heap.get? C = some (excClassObj nm q C N bs bm hdct sn sub ab col dd k0 k1 k2 k3 k5 newId) ∧ s₂.heap.Ns N mN ∧ s₂.heap.get? fI = some oI ∧
        ∀ h' e, Heap.MadeExcOf s₂.heap h' e (.ref C) a.pos → wpAny (model prog w) (A.under (.builtin "type.__call__" ⟨.ref C :: a.pos, []⟩)) (call (.ref fI) (.ref e :: a.pos)) (fun r s' => r = .none ∧ ∃ t d, s'.heap.get? C = some (excClassObj nm q C N bs bm hdct sn sub ab col dd k0 k1 k2 k3 k5 newId) ∧ s'.heap.get? e = some (excO C t d) ∧ E (.ref e) s') E { s₂ with heap := h' })
      (wpAny_mono (by rw [he] at h₁; exact h₁) (fun vs s₂ x => ⟨rfl, x⟩) fun _ _ x => x)
    unfold callWith
    refine wpAny_bind (wpAny_holding (wpAny_mono (by rw [he]; exact h₂) (fun a s₂ h₂ => wpAny_bind (wpAny_standAt ?_)) fun _ _ x => x))
    obtain ⟨apos, akw⟩ := a
    obtain ⟨hkw, hlen, hC, hn, hf, h₃⟩ := h₂
    obtain rfl : akw = [] := hkw
    obtain ⟨hp, g, d, tk, os⟩ := s₂
    simp only [hpl]
    refine wpAny_bind (wpAny_keeperOf_exc hC ?_)
    refine wpAny_bind (call_initU Fn T hC hn hi hf hfc (fun h' e hm => ?_) hlen)
    refine wpAny_mono (h₃ h' e hm) (fun r s' hr => ?_) fun _ _ x => x
    obtain ⟨rfl, t, d', h4, h5, h6⟩ := hr
    exact ⟨rfl, wpAny_bind (wpAny_holding (wpAny_point (wpAny_pure ⟨e, t, d', rfl, h4, h5, h6⟩)))⟩
  first
    | exact wpAny_bind (wpAny_standAt key)
    | (simp only [evalOpt, Option.map]; exact wpAny_bind (wpAny_standAt key))
    | (show wpAny _ _ (do standAt pos; raiseStmt env (some (do let v ← eval (.Call (.Name x np) (a₀ :: args) [] cpos) env; standAt pos; pure v)) none) Q E s; exact wpAny_bind (wpAny_standAt key))
end
end Mine
end
section
open Sem (wp)
namespace Mine
section
variable {prog : Program} {w : World} {A : Around} {E : Value → Shared → Prop} {s : Shared} {K : Frag} {x C : Addr} {ox : Obj} {od : Option Obj} {name : Str} {expr : Bool}
theorem exc_get {Q : Value → Shared → Prop} {v : Value} (X : K.In s.heap) (I : InstAt s.heap x ox C od) (hga : findIn K (.ref C) "__getattribute__" = some (some (.builtin "BaseException.__getattribute__"))) (hno : findIn K (.ref C) "__getattr__" = some none)
    (hm : mroIn K C (.type "BaseException") = some true) (hf : findObj K C od name = some (.value v)) (hh : handedIn v = true) (h : Q v { s with toks := s.toks + 1 }) : wpAny (model prog w) A (getAttr (.ref x) name expr) Q E s := by
  obtain ⟨hp, g, d, t, os⟩ := s
  have L0 := I.type (M := model prog w)
  have L1 := looks_findIn (M := model prog w) X hga
  have L2 := looks_findIn (M := model prog w) X hno
  have L3 := looks_find (M := model prog w) X I hf
  have sub : Looks (model prog w) hp (isInstance (.ref x) (.type "BaseException")) true := L0.andThen (looks_mroIn X hm)
  have hx0 : (expr && onTheHeap (Value.builtin "BaseException.__getattribute__")) = false := by cases expr <;> rfl
  have hx2 : (Value.builtin "BaseException.__getattribute__" == Value.builtin "object.__getattribute__") = false := by decide +kernel
  have hx1 : (onTheHeap (Value.ref C) && Value.builtin "BaseException.__getattribute__" == Value.builtin "object.__getattribute__") = false := by rw [hx2]; rfl
  have f3 := F.attr_Exception.ga.bind (.ref x)
  unfold getAttr getAttrBy
  refine wpAny_bind (wpAny_mkText (wpAny_holding (wpAny_bind (L0.at (wpAny_bind (L1.at ?_))))))
  dsimp only
  rw [hx1, if_neg (by decide)]
  unfold getAttrByItsOwn hookBefore
  rw [if_pos (show onTheHeap (Value.ref C) = true from rfl)]
  refine wpAny_bind (L2.at ?_)
  refine wpAny_bind (wpAny_attempt (wpAny_holding ?_))
  unfold callGetattribute
  rw [hx0, if_neg (by decide)]
  unfold boundAndCalled
  rw [f3]
  refine wpAny_bind (wpAny_pure (wpAny_call ?_))
  refine codeAny_call_builtin F.attr_Exception.ga.plain F.entry_bexc_ga (@check_slot (model prog w) _ _ _ "BaseException.__getattribute__" "BaseException" "__getattribute__" (.ref x) [.str name t] [] _ (by decide +kernel) (by decide +kernel) sub (F.args_bexc_ga _ _) ?_)
  unfold Builtin.«object.__getattribute__»
  refine wpAny_bind (wpAny_pure (wpAny_bind (wpAny_pure (wpAny_bind (L0.at (wpAny_bind (L3.at ?_)))))))
  refine wpAny_pure ?_
  show wpAny _ _ (handedOut v) _ _ _
  rw [handedOut_of hh]; exact wpAny_pure h
end
end Mine
end
section
open PySem.Builtin PySem.Builtin.ObjectAttr
open Sem (wp)
namespace Mine
theorem refuse_exc (self : Value) (a b : Addr) : refuseLoop self "__setattr__" [.ref a, .ref b, .type "Exception", .type "BaseException", .type "object"] = pure () := by
  rw [refuseLoop_ref, refuseLoop_ref]
  exact PySem.F.store_Exception.passes self
section
variable {prog : Program} {w : World} {A : Around} {E : Value → Shared → Prop} {s : Shared} {K : Frag} {x C : Addr} {o : Obj} {name : Str} {v : Value} {cd : ClassData} {mA : Str → Option Value} {ns : List Str}
theorem exc_set {Q : Unit → Shared → Prop} (X : K.In s.heap) (hx : s.heap.get? x = some o) (hc : o.cls = .ref C) (hnc : notCls o = true) (hcd : clsIn K C = some cd) (hdict : cd.hasDict = true) (hrefuse : refuseLoop (.ref x) "__setattr__" cd.mro = pure ()) (hne : cd.mro.isEmpty = false)
    (hob : cd.mro.contains (.type "object") = true) (hs : findIn K (.ref C) "__setattr__" = some (some (.builtin "object.__setattr__"))) (hn : findIn K (.ref C) name = some none)
    (D : (o.dict = none ∧ mA = fun _ => none) ∨ ∃ d, o.dict = some d ∧ d ≠ x ∧ s.heap.Ns1 d mA) (hw : Within mA ns) (hsz : ns.length ≤ 1000)
    (hq : ∀ h' tk' d, h'.get? x = some { o with dict := some d } → d ≠ x → h'.Ns1 d (fun y => if y = name then some v else mA y) → (∀ b ob, b ≠ x → o.dict ≠ some b → s.heap.get? b = some ob → h'.get? b = some ob) → (o.dict = none → s.heap.get? d = none) → (∀ d₀, o.dict = some d₀ → d = d₀) → Q () { s with heap := h', toks := tk' }) :
    wpAny (model prog w) A (setAttr (.ref x) name v) Q E s := by
  obtain ⟨od, I⟩ : ∃ od, W.InstAt s.heap x o C od := by
    rcases D with ⟨h1, _⟩ | ⟨d, h1, h2, h3⟩
    · exact ⟨none, hx, hc, hnc, by rw [h1]; trivial⟩
    · obtain ⟨oD, es, ep, e, _⟩ := h3
      exact ⟨some oD, hx, hc, hnc, by rw [h1]; exact e⟩
  refine set_plain X I hs ?_
  have SF := PySem.F.store_object
  have sub : Looks (model prog w) s.heap (isInstance (.ref x) (.type "object")) true := I.type.andThen (looks_mroIn X (by unfold mroIn; rw [hcd, Option.bind_some, if_neg (by rw [hne]; decide), hob]))
  refine codeAny_call_builtin SF.slot.plain SF.entry (@check_slot (model prog w) _ _ { s with toks := s.toks + 1 } "object.__setattr__" "object" "__setattr__" (.ref x) [.str name s.toks, v] [] _ SF.kind SF.split sub (SF.args (.ref x) (.str name s.toks) v) ?_)
  have hm : Looks (model prog w) s.heap (mroOf (.ref C)) cd.mro := (looks_clsIn X hcd).andThen .now
  rw [osa_eq, refuse_eq]
  refine wpAny_bind (wpAny_bind (I.type.here (s := { s with toks := s.toks + 1 }) (wpAny_bind (hm.here (s := { s with toks := s.toks + 1 }) ?_))))
  rw [hrefuse]
  refine wpAny_pure (wpAny_bind (I.type.here (s := { s with toks := s.toks + 1 }) (wpAny_bind ((looks_findIn X hn).here (s := { s with toks := s.toks + 1 }) (wpAny_bind (wpAny_pure ?_))))))
  refine wpAny_bind (wpAny_pure (wpAny_bind (wpAny_bind (wpAny_loadPart hx ?_))))
  obtain ⟨oc, odi, oda, osl⟩ := o
  dsimp only at hc D hq ⊢
  subst hc
  refine wpAny_bind ((looks_clsIn X hcd).here (s := { s with toks := s.toks + 1 }) ?_)
  rw [hdict]
  rcases D with ⟨rfl, rfl⟩ | ⟨d, rfl, hdx, hns⟩
  · have ncl : ∀ c, oda ≠ .cls c := fun c e => by subst e; cases hnc
    have hx₁ : (s.heap.push { cls := .type "dict", data := .dict #[] }).get? x = some ⟨.ref C, none, oda, osl⟩ := Heap.get?_push_of_some _ hx
    have hxs : x ≠ s.heap.objs.size := Nat.ne_of_lt (Heap.lt_size hx)
    have hgd : ((s.heap.push { cls := .type "dict", data := .dict #[] }).update x fun o => { cls := o.cls, dict := some s.heap.objs.size, data := o.data, slots := o.slots }).get? s.heap.objs.size = some { cls := .type "dict", data := .dict #[] } :=
      (Heap.get?_update_ne _ _ _ _ hxs.symm).trans (Heap.get?_push_at rfl rfl)
    have hnd : ((s.heap.push { cls := .type "dict", data := .dict #[] }).update x fun o => { cls := o.cls, dict := some s.heap.objs.size, data := o.data, slots := o.slots }).Ns s.heap.objs.size (fun _ => none) :=
      ⟨_, #[], _, hgd, rfl, fun e he => absurd he (by simp), fun _ => rfl⟩
    have hxx : ((s.heap.push { cls := .type "dict", data := .dict #[] }).update x fun o => { cls := o.cls, dict := some s.heap.objs.size, data := o.data, slots := o.slots }).get? x = some ⟨.ref C, some s.heap.objs.size, oda, osl⟩ := by
      refine (Heap.get?_update_self _ hx₁ ?_)
      have hfr := (Heap.get?_some_iff.mp hx).2
      cases oda <;> first | rfl | exact hfr
    rw [if_neg (by decide), if_neg (by simp [typeHasDict])]
    have go : wpAny (model prog w) A.in1 (do let d ← alloc { cls := .type "dict", data := .dict #[] }; update x (fun o => { cls := o.cls, dict := some d, data := o.data, slots := o.slots }); dictMade (.ref C) x d) (fun a s' => wpAny (model prog w) A.in1 (match a with | some d => storeInDict d (.str name s.toks) name v | none => noDictFor (.ref x) (.ref C) name (none : Option Value).isSome) (fun fin s' => (match fin with | Fin.done f => (match (Except.ok f : Except Value Flow) with | .ok (.ret v) => Q () s' | .ok _ => False | .error e => E e s') | Fin.again c' => c'.quiet = true ∧ codeAny (model prog w) A c' (fun r s' => match r with | .ok (.ret v) => Q () s' | .ok _ => False | .error e => E e s') s')) (fun e s' => E e s') s') (fun e s' => E e s') { s with toks := s.toks + 1 } := by
      refine wpAny_bind (wpAny_alloc' ?_)
      refine wpAny_bind (wpAny_update' hx₁ ?_)
      refine wpAny_pure ?_
      show wpAny _ _ (storeInDict s.heap.objs.size (.str name s.toks) name v) _ _ _
      unfold storeInDict newKeyGuard
      refine wpAny_bind (wpAny_pure (wpAny_bind (wpAny_nsSet1 (Heap.Ns1.of_empty hnd) fun h' hn' hs' => ?_)))
      obtain ⟨oD, esD, epD, hoD, hdD, hcD⟩ := hn'.count (Within.cons name v Within.nil)
      refine wpAny_bind (wpAny_lookBehind hoD (by rw [hdD]; exact pastItsLine_dict (Nat.le_trans hcD (by rw [List.length_cons, List.length_nil, sizeLine_eq]; omega))) ?_)
      refine wpAny_pure ?_
      refine hq h' _ s.heap.objs.size ((hs'.2 x hxs).trans hxx) (Ne.symm hxs) hn' (fun b ob hbx _ hb => ?_) (fun _ => Heap.get?_none_of_le (Nat.le_refl _)) (fun d₀ e => nomatch e)
      exact (hs'.2 b (Nat.ne_of_lt (Heap.lt_size hb))).trans ((Heap.get?_update_ne _ _ _ _ hbx).trans (Heap.get?_push_of_some _ hb))
    cases oda <;> first | exact go | exact absurd rfl (ncl _)
  · refine wpAny_pure ?_
    show wpAny _ _ (storeInDict d (.str name s.toks) name v) _ _ _
    unfold storeInDict newKeyGuard
    refine wpAny_bind (wpAny_pure (wpAny_bind (wpAny_nsSet1 hns fun h' hn' hs' => ?_)))
    obtain ⟨oD, esD, epD, hoD, hdD, hcD⟩ := hn'.count (Within.cons name v hw)
    refine wpAny_bind (wpAny_lookBehind hoD (by rw [hdD]; exact pastItsLine_dict (Nat.le_trans hcD (by rw [List.length_cons, sizeLine_eq]; omega))) ?_)
    refine wpAny_pure ?_
    exact hq h' _ d ((hs'.2 x (Ne.symm hdx)).trans hx) hdx hn' (fun b ob _ hbd hb => (hs'.2 b fun z => hbd (by rw [z])).trans hb) (fun e => nomatch e) (fun d₀ e => by injection e)
end
end Mine
end
section
open PySem.Builtin PySem.Builtin.ObjectAttr
open Sem (wp)
namespace Mine
section
variable {prog : Program} {w : World} {A : Around} {E : Value → Shared → Prop} {x C t0 N : Addr} {v : Value} {h : Heap} {g : Array GenState} {d : Drawn} {t : Nat} {os : OsState}
variable {nm q : Str} {bs bm : List Value} {hdct : Bool} {sn : List Str} {sub : List Value} {ab : Bool} {col : Option Bool} {dd : Option Addr} {k0 k1 k2 k3 k5 : Option Value} {newId : String}
theorem check_base_init {M : Model} {oe : Obj} {rest : List Value} {Q : Unit → Shared → Prop} (T : TailOk "Exception" bm)
    (hC : h.get? C = some (excClassObj nm q C N bs bm hdct sn sub ab col dd k0 k1 k2 k3 k5 newId)) (he : h.get? x = some oe) (hcls : oe.cls = .ref C) (hq : Q () ⟨h, g, d, t, os⟩) :
    wpAny M A (checkBuiltinCall "Exception.__init__" ⟨.ref x :: rest, []⟩) Q E ⟨h, g, d, t, os⟩ := by
  have e2 : (Value.ref C :: bm).contains (.type "Exception") = true := by rw [List.contains_cons, T.hasB, Bool.or_true]
  have FB := F.excBase_Exception
  have hshort := FB.noStar
  simp only [checkBuiltinCall, FB.initKind, FB.initSplit, FB.initRow]
  repeat (first | (with_reducible refine wpAny_loadPart_at he ?_; rw [hcls]) | with_reducible refine wpAny_loadPart_at hC ?_ | (with_reducible refine wpAny_isSubtype_exc hC ?_; rw [e2]) | wp_step)
  refine wpAny_onRaise ?_
  rw [show ∀ (a b : String) (n : Nat), Bind.check ⟨.positional, "*", "Exception", .self, [⟨"args", .varPos, false⟩]⟩ a b n (List.map (fun x => x.fst) ({ pos := Value.ref x :: rest } : Args).kw) = pure () from fun a b n => check_star_args _ _ _ _ _ _]
  exact wpAny_pure hq
theorem base_init {Q : Value → Shared → Prop} (T : TailOk "Exception" bm) (hC : h.get? C = some (excClassObj nm q C N bs bm hdct sn sub ab col dd k0 k1 k2 k3 k5 newId))
    (hx : h.get? x = some { cls := .ref C, data := .fields #[.ref t0, .none, .none, .none, .bool false, .none] })
    (hq : Q .none ⟨(h.push { cls := .type "tuple", data := .seq #[v] }).update x (Obj.mapFields (·.setIfInBounds 0 (.ref h.objs.size))), g, d, t, os⟩) : wpAny (model prog w) A (call (.builtin "Exception.__init__") [.ref x, v]) Q E ⟨h, g, d, t, os⟩ := by
  have FB := F.excBase_Exception
  refine wpAny_call (codeAny_call_builtin FB.init.plain FB.initEntry (check_base_init T hC hx rfl ?_))
  unfold Builtin.«BaseException.__init__»
  wp_walk
  exact hq
end
end Mine
end
section
open PySem.Builtin PySem.Builtin.ObjectAttr
open Sem (wp)
namespace Mine
section
variable {w : World}
theorem k_ga : findIn (hd.heap_1 (World.params w)) (.ref 82) "__getattribute__" = some (some (.builtin "BaseException.__getattribute__")) := by kernel_rfl
theorem k_no : findIn (hd.heap_1 (World.params w)) (.ref 82) "__getattr__" = some none := by kernel_rfl
theorem k_sa : findIn (hd.heap_1 (World.params w)) (.ref 82) "__setattr__" = some (some (.builtin "object.__setattr__")) := by kernel_rfl
theorem k_code : findIn (hd.heap_1 (World.params w)) (.ref 82) "code" = some none := by kernel_rfl
theorem k_text : findIn (hd.heap_1 (World.params w)) (.ref 82) "text" = some none := by kernel_rfl
theorem k_mB : mroIn (hd.heap_1 (World.params w)) 82 (.type "BaseException") = some true := by kernel_rfl
theorem k_cls : ∃ cd, clsIn (hd.heap_1 (World.params w)) 82 = some cd ∧ cd.mro = [.ref 82, .ref 31, .type "Exception", .type "BaseException", .type "object"] ∧ cd.hasDict = true := ⟨_, by with_unfolding_all rfl, by with_unfolding_all rfl, by with_unfolding_all rfl⟩
theorem k_f77 : findCls (hd.heap_1 (World.params w)) (.ref 31) (.type "type") "__init__" = some (.val (.ref 28)) := by kernel_rfl
theorem k_f77r : readsIn (hd.heap_1 (World.params w)) 31 (.type "type") = true := by kernel_rfl
theorem k_f77s : specialIn (hd.heap_1 (World.params w)) (.ref 31) "__getattribute__" = some (some (.builtin "type.__getattribute__")) := by kernel_rfl
theorem k_exc : findCls (hd.heap_1 (World.params w)) (.type "Exception") (.type "type") "__init__" = some (.val (.builtin "Exception.__init__")) := by kernel_rfl
theorem k_kp79 : keepIn (hd.heap_1 (World.params w)) (.ref 79) = true := by kernel_rfl
theorem k_kp28 : keepIn (hd.heap_1 (World.params w)) (.ref 28) = true := by kernel_rfl
theorem k_io : nsIn (hd.heap_1 (World.params w)) mainGlobals (Str.ofString "IoFault") = some (some (.ref 82)) := by kernel_rfl
theorem k_f7 : nsIn (hd.heap_1 (World.params w)) mainGlobals (Str.ofString "F77Error") = some (some (.ref 31)) := by kernel_rfl
theorem k_ex : nsIn (hd.heap_1 (World.params w)) mainGlobals (Str.ofString "Exception") = some none := by kernel_rfl
theorem b_ex : bootBuiltins (Str.ofString "Exception") = some (.type "Exception") := by kernel_rfl
theorem k_obj : ∃ nm q N bs hdct sn sub ab col dd k0 k1 k2 k3 k5, ((hd.heap_1 (World.params w))).lookup 82 = some (excClassObj nm q 82 N bs [.ref 31, .type "Exception", .type "BaseException", .type "object"] hdct sn sub ab col dd k0 k1 k2 k3 k5 "Exception.__new__") ∧ nsIn (hd.heap_1 (World.params w)) N "__init__" = some (some (.ref 79)) ∧ nsOkIn (hd.heap_1 (World.params w)) N = true := ⟨_, _, _, _, _, _, _, _, _, _, _, _, _, _, _, by with_unfolding_all rfl, by kernel_rfl, by kernel_rfl⟩
theorem tailE : TailOk "Exception" [.ref 31, .type "Exception", .type "BaseException", .type "object"] := ⟨by decide +kernel, by decide +kernel, by decide +kernel⟩
end
end Mine
end
section
open PySem.Builtin PySem.Builtin.ObjectAttr
open Sem (wp)
namespace Mine
section
variable {prog : Program} {w : World} {A : Around} {E : Value → Shared → Prop} {s : Shared} {K : Frag}
theorem getM_exc {pl : Sem Bool} {Q : Value × List Value → Shared → Prop} (X : K.In s.heap) (e : findCls K (.type "Exception") (.type "type") (Str.ofString "__init__") = some (.val (.builtin "Exception.__init__")))
    (h : Q (.builtin "Exception.__init__", []) { s with toks := s.toks + 1 }) : wpAny (model prog w) A (getMethod (.type "Exception") (Str.ofString "__init__") pl) Q E s := by
  have hstub : opaqueClassAbove (.type "Exception") = pure none := by unfold opaqueClassAbove; dsimp only; rw [show Manifest.isStub "Exception" = false by decide +kernel]; rfl
  have ht : typeOf (.type "Exception") = pure (.type "type") := by first | rfl | kernel_rfl
  have L0 : Looks (model prog w) s.heap (typeOf (.type "Exception")) (.type "type") := Looks.of_pure ht
  have hg : findIn K (.type "type") "__getattribute__" = some (some (.builtin "type.__getattribute__")) := type_tga
  unfold getMethod specialOf
  refine wpAny_bind (wpAny_bind (L0.here ((looks_findIn X hg).here ?_)))
  dsimp only
  rw [if_pos canon_tga]
  refine wpAny_bind (wpAny_mono (Q := fun v => Q (v, [])) (E := E) ?_ (fun _ _ z => wpAny_pure z) fun _ _ z => z)
  have LO : Looks (model prog w) s.heap (opaqueClassAbove (.type "Exception")) none := Looks.of_pure hstub
  refine cls_open X LO L0 hg (looks_hook X (r := none) (by rfl)) (by show subIn K _ _ = _; rfl) e ?_
  refine wpAny_pure ?_
  show wpAny _ _ (handedOut (.builtin "Exception.__init__")) _ _ _
  rw [handedOut_of (by decide +kernel)]
  exact wpAny_pure h
end
end Mine
end
section
open Sem (wp)
namespace Mine
abbrev frs (l : List Env) : List Addr := l.filterMap (·.frame)
def UpS (g h : Heap) : Prop := ∀ b o, g.get? b = some o → (∀ vs, o.data ≠ .fields vs) → ∃ sl, h.get? b = some { o with slots := sl }
theorem UpS.trans {g h h' : Heap} (x : UpS g h) (y : h.UpToSlots h') : UpS g h' := fun b o hb hn => by
  obtain ⟨sl, e⟩ := x b o hb hn
  obtain ⟨sl', e'⟩ := y b _ e hn
  exact ⟨sl', e'⟩
theorem UpS.ns {g h : Heap} {L : Addr} {m : Str → Option Value} (x : UpS g h) (n : g.Ns L m) : h.Ns L m := by
  obtain ⟨o, es, ep, ho, hd, r⟩ := n
  obtain ⟨sl, e⟩ := x L o ho fun vs q => by rw [hd] at q; cases q
  exact ⟨_, es, ep, e, hd, r⟩
inductive Flt (f : Fm) (m : Str → Option Value) (N : Led) (s : Shared) (e : Value) (s' : Shared) : Prop
  | mk (ea d : Addr) (B h' : Heap) (tk' : Nat) (mA : Str → Option Value) (tc : Tok) (e1 : e = .ref ea) (e2 : s' = { s with heap := h', toks := tk' }) (T : Thr B (f.env :: f.outer) ea (.ref 82) d .none h') (a1 : ∀ b o, f.g.get? b = some o → b ∉ frs f.outer → B.get? b = some o) (a2 : ∀ q ∈ N, B.get? q.1 = some q.2)
    (a3 : UpS f.g h') (a4 : h'.Ns f.L m) (a5 : B.Ns1 d mA) (a6 : mA (Str.ofString "code") = some (.int 1 tc)) : Flt f m N s e s'
inductive Out (f : Fm) (N : Led) (s : Shared) (e : Value) (s' : Shared) : Prop
  | mk (ea d : Addr) (B h' : Heap) (tk' : Nat) (mA : Str → Option Value) (tc : Tok) (e1 : e = .ref ea) (e2 : s' = { s with heap := h', toks := tk' })
    (a0 : ∀ (Q : Unit → Shared → Prop) (E : Value → Shared → Prop), (∀ h'', Thr B f.outer ea (.ref 82) d .none h'' → h'.UpToSlots h'' → Q () { s with heap := h'', toks := tk' }) → wpAny (model f.prog f.w) f.A (leaving f.env (.ref ea)) Q E s')
    (a1 : ∀ b o, f.g.get? b = some o → b ∉ frs f.outer → B.get? b = some o) (a2 : ∀ q ∈ N, B.get? q.1 = some q.2) (a3 : UpS f.g h') (a5 : B.Ns1 d mA) (a6 : mA (Str.ofString "code") = some (.int 1 tc)) : Out f N s e s'
theorem Flt.out {f : Fm} {m : Str → Option Value} {N : Led} {s : Shared} {e : Value} {s' : Shared} (O : f.Ok) (x : Flt f m N s e s') : Out f N s e s' := by
  obtain ⟨ea, d, B, h', tk', mA, tc, rfl, rfl, T, a1, a2, a3, _, a5, a6⟩ := x
  exact ⟨ea, d, B, h', tk', mA, tc, rfl, rfl, fun Q E hq => leave_next (s := { s with heap := h', toks := tk' }) O.hA rfl T fun h'' x' u => hq h'' x' u, a1, a2, a3, a5, a6⟩
theorem Out.more {f : Fm} {N N' : Led} {s : Shared} {h : Heap} {tk : Nat} {e : Value} {s' : Shared} (x : Out f N' { s with heap := h, toks := tk } e s') (sub : ∀ q ∈ N, q ∈ N') : Out f N s e s' := by
  obtain ⟨ea, d, B, h', tk', mA, tc, rfl, rfl, a0, a1, a2, a3, a5, a6⟩ := x
  exact ⟨ea, d, B, h', tk', mA, tc, rfl, rfl, a0, a1, fun q hq => a2 q (sub q hq), a3, a5, a6⟩
def RaiseS (G : Gl) (need : Nat) (fa : Addr) (args : List AV) : Prop :=
  ∀ (f : Fm), f.toGl = G → f.Ok → need + 1 ≤ f.room → ∀ (E : Value → Shared → Prop) (s : Shared) (m : Str → Option Value) (N : Led) (vs : List Value),
    Fr f.g f.L s.heap m → News f.g f.L s.heap N → RepL f.K N args vs → (∀ e s', Flt f m N s e s' → E e s') → wpAny (model f.prog f.w) f.A (call (.ref fa) vs) (fun _ _ => False) E s
def EXR (f : Fm) (b : List Stmt) (σ : Sto) : Prop :=
  f.Ok → ∀ (E : Value → Shared → Prop) (s : Shared) (m : Str → Option Value) (N : Led), Inv f s.heap m N σ → (∀ e s', Out f N s e s' → E e s') → wpAny (model f.prog f.w) f.A (execs b f.env) (fun _ _ => False) E s
theorem RaiseS.enter {G : Gl} {need : Nat} {fa : Addr} {args : List AV} {name qual : Str} {params : Arguments} {body : List Stmt} {scope : Scope} {dV kV doc pm cdv ct oc : Value} {an od : Option Addr} {osl : Array (Option Value)} (names : List Str)
    (ho : G.K.lookup fa = some ⟨oc, od, .func (fnOf name qual params body scope dV kV doc pm an cdv ct), osl⟩) (hcd : codeIn G.K cdv qual = true)
    (hb : HBind (fnOf name qual params body scope dV kV doc pm an cdv ct) names args.length) (hnd : names.Nodup) (hlen : names.length = args.length)
    (hloc : ∀ x ∈ names, scope.names.lookup x = some .local)
    (hco : scope.isCoroutine = false) (hgen : scope.isGenerator = false) (hk : scope.kind = .function) (hcell : ∀ x ∈ scope.names, x.2 ≠ .cell) (hdb : ∀ x ∈ scope.names, (x.1 == ("__debug__" : Str)) = false ∧ (x.1 == ("__classdict__" : Str)) = false)
    (h : ∀ (A A₀ : Around) (base : Heap) (outer : List Env) (g : Heap) (L : Addr), EXR ⟨G, A, A₀, base, outer, g, L, qual, scope, fa, cdv, [], [], need⟩ body ⟨names.zip args, none⟩) : RaiseS G need fa args := by
  rintro f rfl O hr E s m N vs F n R hE
  have noL : f.g.get? f.L = none := Heap.get?_none_of_le F.above
  refine wpAny_call (code_def O.B F O.X n O.T O.hA rfl O.hk ho hcd (Nat.lt_of_le_of_lt (Nat.le_add_right _ _) O.hd) (BindsTo.of_eq (hb vs R.length)) (fun y hy => hloc _ (List.of_mem_zip hy).1) (fun g L' h₁ FG F' N' B' X' T' => ?_) hco hgen hk hcell)
  let f' : Fm := ⟨f.toGl, f.A.deeper (envOf qual scope L' fa cdv), f.A, f.base, f.env :: f.outer, g, L', qual, scope, fa, cdv, [], [], need⟩
  have O' : f'.Ok := ⟨B', X', T', Around.frames_deeper O.hA, O.hh, hk, by show f.A.depth + 1 + need < _; have := O.hd; omega, by show f.A.units + 3 + 8 * need + 8 < _; have := O.hu; omega, hdb⟩
  have hnd' : ((names.zip vs).map (·.1)).Nodup := by
    rw [List.map_fst_zip (by rw [hlen, R.length]; exact Nat.le_refl _)]; exact hnd
  have I' : Inv f' h₁ (fun y => (names.zip vs).reverse.lookup y) N ⟨names.zip args, none⟩ := by
    refine ⟨F', N', fun y av e => .inl ?_, (fun P' n' c' e => nomatch e), (fun P' n' c' e => nomatch e), (fun c hc => nomatch hc), fun y c hc => nomatch hc⟩
    obtain ⟨v, hv, hr⟩ := lookup_zip R e
    exact ⟨hloc y (List.of_mem_zip (mem_of_lookup hv)).1, v, (lookup_rev hnd' y).trans hv, hr⟩
  refine wpAny_mono (h _ _ _ _ _ _ O' _ { s with heap := h₁, toks := _ } _ N I' fun e s' x => ?_) (fun _ _ x => x.elim) fun _ _ x => x
  obtain ⟨ea, d, B, h', tk', mA, tc, rfl, rfl, a0, a1, a2, a3, a5, a6⟩ := x
  refine a0 _ _ fun h'' T'' u => ?_
  refine hE _ _ ⟨ea, d, B, h'', tk', mA, tc, rfl, rfl, T'', fun b o hb hn => a1 b o (FG.keep b o hb) (fun hm => ?_), a2, (fun b o hb hn => (a3.trans u) b o (FG.keep b o hb) hn), (a3.trans u).ns FG.ns, a5, a6⟩
  rcases List.mem_cons.mp (show b ∈ f.L :: frs f.outer from hm) with rfl | hm
  · rw [noL] at hb; cases hb
  · exact hn hm
end Mine
end
namespace Mine
section
variable {w : World} {mean : ExcName → Option Value} {mg mb : Str → Option Value} {pen : Pen}
local macro_rules | `(tactic| walk_at "in") => `(tactic| ((case ho => with_unfolding_all rfl); (case hcd => with_unfolding_all rfl); (case hb => first | exact HBind.n1 (fun _ => by rfl) | exact HBind.n2 (fun _ _ => by rfl) | exact HBind.n3 (fun _ _ _ => by rfl) | exact HBind.n4 (fun _ _ _ _ => by rfl) | exact HBind.n5 (fun _ _ _ _ _ => by rfl) | exact HBind.n6 (fun _ _ _ _ _ _ => by rfl) | exact HBind.n7 (fun _ _ _ _ _ _ _ => by rfl)); (case hnd => decide); (case hlen => rfl); (case hloc => decide); (case hco => rfl); (case hgen => rfl); (case hk => rfl); (case hcell => decide); (case hdb => decide); (intro A A₀ base outer g L)))
local macro_rules | `(tactic| walk_at "inC") => `(tactic| ((case ho => with_unfolding_all rfl); (case hcd => with_unfolding_all rfl); (case hb => first | exact HBind.n1 (fun _ => by rfl) | exact HBind.n2 (fun _ _ => by rfl) | exact HBind.n3 (fun _ _ _ => by rfl)); (case hnd => decide); (case hlen => rfl); (case hloc => decide); (case hxn => decide); (case hxc => rfl); (case hcl => intro n; with_unfolding_all rfl); (case hco => rfl); (case hgen => rfl); (case hk => rfl); (case hdb => decide); (intro A A₀ base outer g L)))
local macro_rules | `(tactic| walk_at "and") => `(tactic| first
  | ((with_reducible refine' le100 ?_ ?hl); (case hl => exact Nat.le_of_ble_eq_true rfl))
  | ((with_reducible refine' stbI ?hl ?_); (case hl => rfl))
  | with_reducible refine eqSto ?_
  | ((with_reducible refine' locI ?e ?_); (case e => rfl))
  | with_reducible refine an_tt ?_
  | ((with_reducible refine' inLt ?ha ?hl ?hr ?_); (case ha => rfl); (case hl => rfl); (case hr => decide +kernel))
  | ((with_reducible refine' inLf ?ha ?hl ?hr ?_); (case ha => rfl); (case hl => rfl); (case hr => decide +kernel))
  | ((with_reducible refine' leLen ?hl ?_); (case hl => walk_at "len"))
  | with_reducible refine eqS ?_
  | with_reducible refine an_ff ?_
  | ((with_reducible refine' an_isT ?hc ?_); (case hc => decide))
  | ((with_reducible refine' an_isF ?hc ?_); (case hc => decide))
  | ((with_reducible refine' ro_isT ?hc ?_); (case hc => decide))
  | ((with_reducible refine' ro_isF ?hc ?_); (case hc => decide))
  | with_reducible refine an_dec (fun hc => ?_) (fun hc => ?_)
  | with_reducible refine an_beq (fun hc => ?_) (fun hc => ?_)
  | with_reducible refine an_bne (fun hc => ?_) (fun hc => ?_)
  | with_reducible refine an_nt ?_
  | with_reducible refine an_nf ?_
  | with_reducible refine an_not (fun hc => ?_) (fun hc => ?_)
  | with_reducible refine ro_tt ?_
  | with_reducible refine ro_ff ?_
  | with_reducible refine ro_dec (fun hc => ?_) (fun hc => ?_)
  | with_reducible refine ro_beq (fun hc => ?_) (fun hc => ?_)
  | with_reducible refine ro_bne (fun hc => ?_) (fun hc => ?_)
  | with_reducible refine an_var (fun hc => ?_) (fun hc => ?_)
  | with_reducible refine ro_var (fun hc => ?_) (fun hc => ?_))
local macro_rules | `(tactic| walk_at "g fn") => `(tactic| with_reducible first | exact glcountdigits | exact glstripzeros | exact glrounddigits | exact glroundreal | exact gldigitsof | exact glsolidfield | exact glwholeof | exact glcutsign | exact glinwidth | exact glreadint | exact glcutexponent | exact glfieldexponent | exact glreadfigures | exact glreadreal | exact glreadlogical | exact glreadtext | exact glreadvalue | exact glfield | exact glsigntext | exact glscaled | exact gleditint | exact glpointfield | exact gleditfixed | exact glleading | exact glexponenttext | exact gleditexp | exact glisgeneralfixed | exact gleditgeneral | exact gleditlogical | exact gledittext | exact gleditreal | exact gleditvalue | exact gllawpen | exact gllawdraw | exact gllawpick | exact gllawitem | exact gllawvalue | exact gllawcut | exact gllawdue | exact gllawheard)
local macro_rules | `(tactic| walk_at "g kp") => `(tactic| with_reducible first | exact kp92 | exact kp99 | exact kp106 | exact kp113 | exact kp120 | exact kp128 | exact kp135 | exact kp142 | exact kp149 | exact kp156 | exact kp163 | exact kp170 | exact kp177 | exact kp184 | exact kp191 | exact kp198 | exact kp205 | exact kp212 | exact kp219 | exact kp226 | exact kp233 | exact kp240 | exact kp247 | exact kp254 | exact kp261 | exact kp268 | exact kp275 | exact kp282 | exact kp289 | exact kp296 | exact kp303 | exact kp310 | exact kp339 | exact kp346 | exact kp353 | exact kp360 | exact kp365 | exact kp372 | exact kp379 | exact kp386)
local macro_rules | `(tactic| walk_at "g int") => `(tactic| with_reducible first | exact giINTEGER | exact giREAL | exact giDOUBLE | exact giLOGICAL | exact giCHARACTER | exact giBADFIELD | exact giTOOGREAT | exact giWRONGKIND)
local macro_rules | `(tactic| walk_at "g bl") => `(tactic| with_reducible first | exact gblen | exact gbabs | exact gbdivmod | exact gbisinstance | exact gbstr | exact gbint | exact gbrange | exact gbbool)
local macro_rules | `(tactic| walk_at "g bb") => `(tactic| with_reducible first | exact bblen | exact bbabs | exact bbdivmod | exact bbisinstance | exact bbstr | exact bbint | exact bbrange | exact bbbool)
local macro_rules | `(tactic| walk_at "g pg") => `(tactic| with_reducible first | exact pgwidth | exact pgrealdigits | exact pgdoubledigits | exact pgtopexponent)
local macro_rules | `(tactic| walk_at "g fi") => `(tactic| with_reducible first | exact fiwidth | exact firealdigits | exact fidoubledigits | exact fitopexponent)
local macro_rules | `(tactic| walk_at "lit") => `(tactic| first | exact lit_empty | exact lit_space | exact lit_star | exact lit_plus | exact lit_minus | exact lit_dot | exact lit_0 | exact lit_0dot | exact lit_A | exact lit_D | exact lit_E | exact lit_F | exact lit_G | exact lit_I | exact lit_L | exact lit_T | exact lit_FEDG | exact lit_IFEDG | exact lit_ok | exact lit_fault | exact lit_abs)
local macro_rules | `(tactic| walk_at "name") => `(tactic| first
  | ((with_reducible refine' EV.name ?e ?h); (case e => exact rfl))
  | ((with_reducible refine' EV.globI ?e ?hx ?h); (case e => walk_at "g int"); (case hx => rfl))
  | ((with_reducible refine' EV.globS ?e ?hy ?hl ?hx ?h); (case e => with_reducible exact glFIGURES); (case hy => exact lit_figs); (case hl => decide); (case hx => rfl))
  | ((with_reducible refine' EV.globW ?e ?hl ?hx ?h); (case e => with_reducible exact glREALWORDS); (case hl => exact kw121); (case hx => rfl))
  | ((with_reducible refine' EV.globP ?e ?hl ?hx ?h); (case e => with_reducible exact glNOUGHT); (case hl => exact kw85); (case hx => rfl)))
local macro_rules | `(tactic| walk_at "call") => `(tactic| first
  | ((with_reducible refine' EV.call ?hn ?hx ?hk ?h ?he ?hplain ?hc); (case hn => walk_at "g fn"); (case hx => rfl); (case hk => walk_at "g kp"); (case he => intros; rfl); (case hplain => intros; rfl); (case hc => intros; rfl))
  | ((with_reducible refine' EV.callB ?hn ?hv ?hx ?h ?hnn ?he ?hplain ?hc); (case hn => walk_at "g bl"); (case hv => walk_at "g bb"); (case hx => rfl); (case hnn => decide); (case he => intros; rfl); (case hplain => intros; rfl); (case hc => intros; rfl))
  | ((with_reducible refine' EV.callT ?hn ?hv ?hx ?h ?hnn ?he ?hplain ?hc); (case hn => walk_at "g bl"); (case hv => walk_at "g bb"); (case hx => rfl); (case hnn => decide); (case he => intros; rfl); (case hplain => intros; rfl); (case hc => intros; rfl)))
local macro_rules | `(tactic| walk_at "EV") => `(tactic| first
  | ((fail_if_success fail_if_success with_reducible show EV _ (PySem.Expr.Name _ _) _ _); walk_at "name")
  | with_reducible refine EV.int ?_
  | with_reducible refine EV.binop ?_
  | ((with_reducible refine' EV.strT ?e ?hl ?_); (case e => walk_at "lit"); (case hl => exact Nat.le_of_ble_eq_true rfl))
  | ((fail_if_success fail_if_success with_reducible show EV _ (PySem.Expr.Call (PySem.Expr.Name _ _) _ _ _) _ _); walk_at "call")
  | ((fail_if_success fail_if_success with_reducible show EV _ (PySem.Expr.Subscript _ (PySem.Expr.Slice _ _ _ _) _) _ _); first
    | ((with_reducible refine' EV.slFrom ?_ ?ok); (case ok => constructor <;> (intros; with_unfolding_all rfl)))
    | ((with_reducible refine' EV.slTo ?_ ?ok); (case ok => constructor <;> (intros; with_unfolding_all rfl)))
    | ((with_reducible refine' EV.slOne ?_ ?ok); (case ok => constructor <;> (intros; with_unfolding_all rfl))))
  | ((with_reducible refine' EV.pen0 ?e ?hp ?_ ?hs); (case e => rfl); (case hp => rfl); (case hs => intros; with_unfolding_all rfl))
  | ((with_reducible refine' EV.pen1 ?e ?hp ?_ ?hs); (case e => rfl); (case hp => rfl); (case hs => intros; with_unfolding_all rfl))
  | with_reducible refine EV.item ?_
  | with_reducible refine EV.noneC ?_
  | with_reducible refine EV.bool ?_
  | ((with_reducible refine' EV.cmp ?_ ?hm); (case hm => with_unfolding_all rfl))
  | with_reducible refine EV.unop ?_
  | with_reducible refine EV.tuple ?_
  | with_reducible refine EV.ite ?_
  | with_reducible refine EV.and2 ?_
  | ((with_reducible refine' EV.attr ?e ?hi ?h1 ?h2 ?h3 ?h4 ?_ ?he); (case e => rfl); (case hi => rfl); (case h1 => walk_at "g pg"); (case h2 => exact hd328); (case h3 => walk_at "g fi"); (case h4 => exact ng328); (case he => intros; rfl))
  | ((with_reducible refine' EV.find (fun env => do return (← importBound _ env).getD true) ?_ ?hc ?he); (case hc => intros; rfl); (case he => intros; rfl))
  | ((with_reducible refine' EV.chain ?_ ?hm ?he); (case hm => with_unfolding_all rfl); (case he => intros; rfl)))
local macro_rules | `(tactic| walk_at "TR") => `(tactic| first
  | with_reducible refine TR.inList ?_
  | ((with_reducible refine' TR.cmp ?_ ?hm); (case hm => with_unfolding_all rfl))
  | with_reducible refine TR.boolop ?_
  | with_reducible refine TR.not ?_
  | ((with_reducible refine' TR.chain ?_ ?hm); (case hm => with_unfolding_all rfl))
  | ((with_reducible refine' TR.val ?_ ?hp); (case hp => intros; rfl)))
local macro_rules | `(tactic| walk_at "TRs") => `(tactic| with_reducible first | refine TRs.and_cons ?_ | refine TRs.or_cons ?_ | refine TRs.and_nil ?_ | refine TRs.or_nil ?_)
local macro_rules | `(tactic| walk_at "E1") => `(tactic| first
  | ((with_reducible refine' E1.assign ?_ ?hs); (case hs => intros; rfl))
  | with_reducible refine E1.ite ?_
  | with_reducible refine E1.ret ?_
  | ((with_reducible refine' E1.pen0 ?_ ?hs); (case hs => intros; rfl))
  | ((with_reducible refine' E1.penInc ?e ?hp ?_ ?hi); (case e => rfl); (case hp => rfl); (case hi => intros; rfl))
  | ((with_reducible refine' E1.penTwo ?_ ?hs ?hw); (case hw => rfl); (case hs => intros; rfl))
  | with_reducible refine E1.try ?_
  | ((with_reducible refine' E1.aug ?e ?hx ?_); (case e => rfl); (case hx => rfl))
  | ((with_reducible refine' E1.unpack2 ?h ?hx ?hy ?hs ?hw); (case hw => rfl); (case hx => rfl); (case hy => rfl); (case hs => intros; rfl))
  | ((with_reducible refine' E1.swap2 ?h ?hx ?hy ?hs ?hw); (case hw => rfl); (case hx => rfl); (case hy => rfl); (case hs => intros; rfl))
  | ((with_reducible refine' E1.unpack3 ?h ?hx ?hy ?hz ?hs ?hw); (case hw => rfl); (case hx => rfl); (case hy => rfl); (case hz => rfl); (case hs => intros; rfl)))
local macro_rules | `(tactic| walk_at "len") => `(tactic| ((try simp only [List.length_append, List.length_cons, List.length_nil, List.length_replicate, List.length_take, List.length_drop]); (try rw [sizeLine_eq]); omega))
local macro_rules | `(tactic| walk_at "ex") => `(tactic| first
  | (with_reducible first | apply x_add | apply x_sub | apply x_bool | apply x_and2 | apply x_unp2 | apply x_unp3 | apply x_swp2 | apply x_lt | apply x_le | apply x_gt | apply x_ge | apply x_eq | apply x_ne | apply x_eqs | apply x_nes | apply x_len | apply x_abs | apply exT | apply exTup2 | apply exTup3 | apply exTup | apply exBool | apply exN0 | apply exN1 | apply exN | apply exNS | apply exStr | apply x_neg | apply x_iadd | apply x_isub | apply x_neb | apply x_inS | apply x_intB | apply x_isNn | apply x_isNi | apply x_isNs | apply x_isntNn | apply x_isntNi)
  | (with_reducible first | apply exInt | apply exIntB)
  | ((with_reducible refine' exPen ?e1 ?e2 ?_); (case e1 => rfl); (case e2 => rfl))
  | ((with_reducible refine' x_divmod ?h1 ?h2 ?_); (case h1 => omega); (case h2 => first | (decide; done) | (omega; done) | assumption))
  | ((with_reducible refine' x_lenT ?hl ?hn ?_); (case hl => rfl); (case hn => first | (decide; done) | assumption | omega))
  | ((with_reducible refine' x_idiv ?h1 ?h2 ?_); (case h1 => decide); (case h2 => decide))
  | ((with_reducible refine' x_div ?h1 ?h2 ?_); (case h1 => decide); (case h2 => decide))
  | ((with_reducible refine' x_mod ?h1 ?_); (case h1 => decide))
  | ((with_reducible refine' x_mul ?h ?_); (case h => first | exact IntMulOk.of_right (by decide) | exact IntMulOk.of_left (by decide) | assumption))
  | ((with_reducible refine' x_str ?hn ?_); (case hn => first | assumption | omega))
  | ((with_reducible refine' x_inTt ?hl ?hr ?_); (case hl => rfl); (case hr => decide +kernel))
  | ((with_reducible refine' x_inTf ?hl ?hr ?_); (case hl => rfl); (case hr => decide +kernel))
  | ((with_reducible refine' x_icat ?hz ?_); (case hz => walk_at "len"))
  | ((with_reducible refine' x_cat ?hz ?_); (case hz => walk_at "len"))
  | ((with_reducible refine' x_tup0 ?_ ?hs); (case hs => intros; with_unfolding_all rfl))
  | ((with_reducible refine' x_tup1 ?_ ?hs); (case hs => intros; with_unfolding_all rfl))
  | ((with_reducible refine' x_tup2 ?_ ?hs); (case hs => intros; with_unfolding_all rfl))
  | ((with_reducible refine' x_tup3 ?_ ?hs); (case hs => intros; with_unfolding_all rfl))
  | ((with_reducible refine' x_last ?ho ?_ ?hs ?hl); (case ho => assumption); (case hs => intros; with_unfolding_all rfl); (case hl => intros; with_unfolding_all rfl))
  | ((with_reducible refine' x_at0 ?_ ?hs ?hl); (case hs => intros; with_unfolding_all rfl); (case hl => intros; with_unfolding_all rfl))
  | ((with_reducible refine' x_at ?hx ?_ ?hs ?hl); (case hx => first | assumption | (simp; done)); (case hs => intros; with_unfolding_all rfl); (case hl => intros; with_unfolding_all rfl))
  | ((with_reducible refine' x_rep ?h1 ?h2 ?_); (case h1 => ((try simp only [List.length_nil]); omega)); (case h2 => ((try simp only [List.length_nil]); omega))))
local macro_rules | `(tactic| walk_at "s") => `(tactic| first
  | ((fail_if_success fail_if_success with_reducible show EV _ _ _ _); walk_at "EV")
  | ((fail_if_success fail_if_success with_reducible show Exists _); walk_at "ex")
  | ((fail_if_success fail_if_success with_reducible show _ ∧ _); walk_at "and")
  | with_reducible refine EVs.nil ?_
  | ((with_reducible refine' EVs.cons ?_ ?he); (case he => intros; rfl))
  | with_reducible refine EX.cons ?_
  | ((fail_if_success fail_if_success with_reducible show E1 _ _ _ _); walk_at "E1")
  | with_reducible refine Fl.go ?_
  | with_reducible refine Fl.back ?_
  | with_reducible refine EX.nil ?_
  | ((fail_if_success fail_if_success with_reducible show TR _ _ _ _); walk_at "TR")
  | ((fail_if_success fail_if_success with_reducible show TRs _ _ _ _ _); walk_at "TRs")
  | with_reducible refine endQ_ret ?_
  | with_reducible refine endQ_next ?_
  | with_reducible refine loop_next ?_
  | with_reducible refine loop_ret ?_
  | fail "no step")
section
noncomputable def lawPack (w : World) : { p : List Stmt × Scope // ∃ oc od osl name qual params dV kV doc pm an cdv ct, (hd.heap_1 w.params).lookup 393 = some ⟨oc, od, .func (fnOf name qual params p.1 p.2 dV kV doc pm an cdv ct), osl⟩ } :=
  ⟨(_, _), ⟨_, _, _, _, _, _, _, _, _, _, _, _, _, by with_unfolding_all rfl⟩⟩
noncomputable def lawCut (w : World) : { q : List Stmt × Stmt × List Stmt // ∃ s1 s2 t it p r, (lawPack w).1.1 = [s1, s2, .For t it (q.1 ++ q.2.1 :: q.2.2) [] p, r] } :=
  ⟨([_, _, _, _, _, _, _], _, [_, _, _, _, _]), _, _, _, _, _, _, rfl⟩
noncomputable abbrev lawPre (w : World) : List Stmt := (lawCut w).1.1
noncomputable abbrev lawTold (w : World) : Stmt := (lawCut w).1.2.1
noncomputable abbrev lawSuf (w : World) : List Stmt := (lawCut w).1.2.2
noncomputable abbrev lawScope (w : World) : Scope := (lawPack w).1.2
structure LawF (w : World) (mean : ExcName → Option Value) (mg mb : Str → Option Value) (f : Fm) : Prop where
  G : f.toGl = GG w mean mg mb
  out : f.outer = []
  cs : f.cs = lawScope w
  stb : ∀ x ∈ [Str.ofString "is_filled", Str.ofString "item", Str.ofString "kind", Str.ofString "length", Str.ofString "limits", Str.ofString "scale", Str.ofString "text"], Stb f x
  room : 20 ≤ f.room
end
section
section
variable {f : Fm} {σ : Sto}
def DT (f : Fm) (a : AV) (d : PyData) : Prop := ∀ (h : Heap) (m : Str → Option Value) (N : Led) (σ : Sto) (v : Value), f.Ok → Inv f h m N σ → Rep f.K N a v → ∃ as, Reads h v d as
theorem DT.int {i : Int} : DT f (.int i) (.int i) := fun h m N σ v O I R => by
  obtain ⟨t, rfl⟩ := R.outInt; exact ⟨_, Reads.int _ _⟩
theorem DT.bool {b : Bool} : DT f (.bool b) (.bool b) := fun h m N σ v O I R => by
  obtain rfl : v = .bool b := R
  exact ⟨_, Reads.bool _⟩
theorem DT.str {x : Str} : DT f (.str x) (.str x) := fun h m N σ v O I R => by
  obtain ⟨_, t, rfl⟩ := R.outStr; exact ⟨_, Reads.str _ _⟩
theorem DT.tup2 {a b : AV} {d e : PyData} (ha : DT f a d) (hb : DT f b e) : DT f (.tup [a, b]) (.tuple [d, e]) := fun h m N σ v O I R => by
  obtain ⟨ad, vs, c, rfl, hm, rl⟩ := R
  obtain ⟨v1, r1, rfl, R1, r2⟩ := rl
  obtain ⟨v2, r3, rfl, R2, r4⟩ := r2
  obtain rfl : r3 = [] := r4
  obtain ⟨as, h1⟩ := ha h m N σ _ O I R1
  obtain ⟨bs, h2⟩ := hb h m N σ _ O I R2
  have hg : h.get? ad = some (tupO [v1, v2] c) := by
    rcases hm with hm | hm
    · exact (I.nw _ hm).1
    · exact I.F.keep _ _ (O.X _ _ hm)
  exact ⟨_, reads_tuple_at hg rfl rfl (ReadsAll.cons h1 (ReadsAll.cons h2 ReadsAll.nil))⟩
theorem c_neD {a : AV} {d : PyData} (hd : DT f a d) (hs : SeqAt.shaped d = true) (he : PyData.eqv d d = true) (hr : 8 ≤ f.room) : Op2 f (compareOp .NotEq) a a (.bool false) := fun O E s m N σ v u I R R' => by
  obtain ⟨as, r1⟩ := hd _ m N σ v O I R
  obtain ⟨bs, r2⟩ := hd _ m N σ u O I R'
  refine ne_dataH r1 r2 hs hs (by have := O.hu; omega) ?_
  rw [he]
  exact op_bool I
theorem strOkT {x : List Nat} (h : ∀ c ∈ x, c < 128) : PyData.strOk (T x) = true := by
  unfold PyData.strOk
  rw [← Array.all_toList]
  exact List.all_eq_true.mpr fun c hc => by have := h c hc; exact decide_eq_true (by omega)
theorem x_neI {Q : Bool → Sto → Prop} {x : List Nat} {i : Int} (hx : PyData.strOk (T x) = true) (hr : 8 ≤ f.room) (h : Q false σ) : kOpT f (compareOp .NotEq) (.tup [.str (T x), .int i]) Q (.tup [.str (T x), .int i]) σ :=
  ⟨_, c_neD (.tup2 .str .int) (by simp [SeqAt.shaped, PyData.canLay0, PyData.canLayAll0, PyData.depth, PyData.depthAll, hx]) (by simp [PyData.eqv, PyData.eqvAll]) hr, h⟩
theorem x_neB {Q : Bool → Sto → Prop} {x : List Nat} {i : Bool} (hx : PyData.strOk (T x) = true) (hr : 8 ≤ f.room) (h : Q false σ) : kOpT f (compareOp .NotEq) (.tup [.str (T x), .bool i]) Q (.tup [.str (T x), .bool i]) σ :=
  ⟨_, c_neD (.tup2 .str .bool) (by simp [SeqAt.shaped, PyData.canLay0, PyData.canLayAll0, PyData.depth, PyData.depthAll, hx]) (by simp [PyData.eqv, PyData.eqvAll]) hr, h⟩
theorem x_neS {Q : Bool → Sto → Prop} {x y : List Nat} (hx : PyData.strOk (T x) = true) (hy : PyData.strOk (T y) = true) (hr : 8 ≤ f.room) (h : Q false σ) : kOpT f (compareOp .NotEq) (.tup [.str (T x), .str (T y)]) Q (.tup [.str (T x), .str (T y)]) σ :=
  ⟨_, c_neD (.tup2 .str .str) (by simp [SeqAt.shaped, PyData.canLay0, PyData.canLayAll0, PyData.depth, PyData.depthAll, hx, hy]) (by simp [PyData.eqv, PyData.eqvAll]) hr, h⟩
theorem x_neR {Q : Bool → Sto → Prop} {x : List Nat} {i j : Int} (hx : PyData.strOk (T x) = true) (hr : 8 ≤ f.room) (h : Q false σ) : kOpT f (compareOp .NotEq) (.tup [.str (T x), .tup [.int i, .int j]]) Q (.tup [.str (T x), .tup [.int i, .int j]]) σ :=
  ⟨_, c_neD (.tup2 .str (.tup2 .int .int)) (by simp [SeqAt.shaped, PyData.canLay0, PyData.canLayAll0, PyData.depth, PyData.depthAll, hx]) (by simp [PyData.eqv, PyData.eqvAll]) hr, h⟩
theorem x_isiI {Q : AV → Sto → Prop} {i : Int} (h : Q (.bool false) σ) : kBi f (bltT "isinstance") Q [.int i, .val (.type "bool")] σ := ⟨_, fun O E s m N vs I R => by
  obtain ⟨v, r, rfl, R₁, R₂⟩ := R.outCons
  obtain ⟨u, r', rfl, R₃, R₄⟩ := R₂.outCons
  obtain rfl := R₄.outNil
  obtain ⟨_, rfl⟩ := R₁.outInt
  obtain rfl := R₃.outVal
  exact IsiPair.int_bool (op_done I Rep.mkBool), h⟩
theorem x_isiS {Q : AV → Sto → Prop} {i : Str} (h : Q (.bool false) σ) : kBi f (bltT "isinstance") Q [.str i, .val (.type "bool")] σ := ⟨_, fun O E s m N vs I R => by
  obtain ⟨v, r, rfl, R₁, R₂⟩ := R.outCons
  obtain ⟨u, r', rfl, R₃, R₄⟩ := R₂.outCons
  obtain rfl := R₄.outNil
  obtain ⟨_, _, rfl⟩ := R₁.outStr
  obtain rfl := R₃.outVal
  exact IsiPair.str_bool (op_done I Rep.mkBool), h⟩
theorem x_isiB {Q : AV → Sto → Prop} {i : Bool} (h : Q (.bool true) σ) : kBi f (bltT "isinstance") Q [.bool i, .val (.type "bool")] σ := ⟨_, fun O E s m N vs I R => by
  obtain ⟨v, r, rfl, R₁, R₂⟩ := R.outCons
  obtain ⟨u, r', rfl, R₃, R₄⟩ := R₂.outCons
  obtain rfl := R₄.outNil
  obtain rfl : v = .bool i := R₁
  obtain rfl := R₃.outVal
  exact IsiPair.bool_bool (op_bool I), h⟩
theorem x_isiT {Q : AV → Sto → Prop} {l : List AV} (h : Q (.bool false) σ) : kBi f (bltT "isinstance") Q [.tup l, .val (.type "bool")] σ := ⟨_, fun O E s m N vs I R => by
  obtain ⟨v, r, rfl, R₁, R₂⟩ := R.outCons
  obtain ⟨u, r', rfl, R₃, R₄⟩ := R₂.outCons
  obtain rfl := R₄.outNil
  obtain ⟨a, vs, c, rfl, hm, rl⟩ := R₁.outTup
  obtain rfl := R₃.outVal
  obtain ⟨o, ho, hc, _⟩ := isTup_of O I hm
  exact IsiPair.tuple_bool ho hc (op_done I Rep.mkBool), h⟩
theorem stbA {x : Str} {P : Prop} (hl : Stb f x) (h : P) : Stb f x ∧ P := ⟨hl, h⟩
theorem AO.threeS {x y z : Str} {p q r : Pos} {a b c : AV} {Q : Sto → Prop} (hx : Stb f x) (hy : Stb f y) (hz : Stb f z) (h : Q (((σ.put x a).put y b).put z c)) : AO f ((assignEach [.Name x p, .Name y q, .Name z r] f.env).map (·.2)) [a, b, c] σ Q :=
  AO.name (ts := [assign (.Name y q) f.env, assign (.Name z r) f.env]) hx (AO.name (ts := [assign (.Name z r) f.env]) hy (AO.name (ts := []) hz (AO.nil h)))
theorem E1.unpack3S {Q : Fl → Sto → Prop} {x y z : Str} {p q r : Pos} {k : Nat} {tp pos : Pos} {value : PySem.Expr}
    (h : EV f value σ fun w σ₁ => ∃ a b c, w = .tup [a, b, c] ∧ Q .next (((σ₁.put x a).put y b).put z c))
    (hx : Stb f x) (hy : Stb f y) (hz : Stb f z)
    (hs : ∀ env, swapsWithSole [.Tuple [.Name x p, .Name y q, .Name z r] k tp] value pos.line env = pure false) (hw : swappedStores [.Tuple [.Name x p, .Name y q, .Name z r] k tp] value f.env = pure none) : E1 f (.Assign [.Tuple [.Name x p, .Name y q, .Name z r] k tp] value pos) σ Q :=
  E1.unpack 3 (fun O E s m N I => wpAny_mono (h O E s m N I) (fun v s' ⟨av, σ', h', tk', N', a1, a2, a3, a4, a, b, c, e, q⟩ => ⟨av, σ', h', tk', N', a1, a2, a3, a4, [a, b, c], e, rfl, AO.threeS hx hy hz q⟩) fun _ _ e => e) hs hw (fun _ => rfl) (fun _ => rfl)
end
end
section
def nd (n : Nat) : Nat := if h : n = 0 then 0 else nd (n / 10) + 1
termination_by n
theorem nd_zero : nd 0 = 0 := by rw [nd]; simp
theorem nd_pos {n : Nat} (h : n ≠ 0) : nd n = nd (n / 10) + 1 := by rw [nd]; simp [h]
theorem nd_pow {n : Nat} : ∀ k, 10 ^ k ≤ n → nd n = nd (n / 10 ^ k) + k
  | 0, _ => by simp
  | k + 1, h => by
    have hp : 0 < 10 ^ k := Nat.pow_pos (by decide)
    rw [nd_pow k (Nat.le_trans (Nat.pow_le_pow_right (by decide) (by omega)) h), nd_pos (by
      have : 1 ≤ n / 10 ^ k := (Nat.le_div_iff_mul_le hp).mpr (by
        have := Nat.pow_le_pow_right (n := 10) (by decide) (show k ≤ k + 1 by omega)
        omega)
      omega), Nat.div_div_eq_div_mul, Nat.pow_succ]
    omega
theorem sp_count_digits (n : Int) : SPEC (GG w mean mg mb) 1 92 [.int n] pen (fun r p => p = pen ∧ r = .int (nd n.natAbs : Nat)) := by
  refine' SPEC.enter [Str.ofString "n"] ?ho ?hcd ?hb ?hnd ?hlen ?hloc ?hco ?hgen ?hk ?hcell ?hdb ?h
  walk_at "in"
  repeat' walk_at "s"
  refine E1.whileL (ι := Nat × Nat) (fun i => ⟨[(Str.ofString "n", .int (i.1 : Nat)), (Str.ofString "count", .int (i.2 : Nat))], pen⟩) (fun k i => i.1 = k ∧ nd i.1 + i.2 = nd n.natAbs) n.natAbs (n.natAbs, 0) (SeesS.of ⟨rfl, rfl, trivial⟩ rfl) ⟨rfl, rfl⟩ ?_
  rintro k ⟨i, c⟩ ⟨rfl, hi⟩
  dsimp only at hi ⊢
  repeat' walk_at "s"
  · refine ⟨i / 1000000000, (i / 1000000000, c + 9), by omega, ⟨rfl, ?_⟩, SeesS.of ⟨rfl, rfl, trivial⟩ rfl⟩
    dsimp only
    have : nd i = nd (i / 1000000000) + 9 := nd_pow (n := i) 9 (by omega)
    omega
  refine E1.whileL (ι := Nat × Nat) (fun i => ⟨[(Str.ofString "n", .int (i.1 : Nat)), (Str.ofString "count", .int (i.2 : Nat))], pen⟩) (fun k i => i.1 = k ∧ nd i.1 + i.2 = nd n.natAbs) i (i, c) (SeesS.of ⟨rfl, rfl, trivial⟩ rfl) ⟨rfl, hi⟩ ?_
  clear hi
  rintro k ⟨i, c⟩ ⟨rfl, hi⟩
  dsimp only at hi ⊢
  repeat' walk_at "s"
  · refine ⟨i / 10, (i / 10, c + 1), by omega, ⟨rfl, ?_⟩, SeesS.of ⟨rfl, rfl, trivial⟩ rfl⟩
    dsimp only
    have := nd_pos (n := i) (by omega)
    omega
  · obtain rfl : i = 0 := by omega
    rw [nd_zero] at hi
    exact ⟨rfl, congrArg AV.int (by omega)⟩
end
section
def fieldT (t : List Nat) (w : Nat) : List Nat := if w < t.length then List.replicate w 42 else List.replicate (w - t.length) 32 ++ t
theorem sp_field (t : List Nat) (wd : Nat) (ht : t.length ≤ 1000) (hw : wd ≤ 1000) : SPEC (GG w mean mg mb) 1 212 [.str (T t), .int (wd : Nat)] pen (fun r p => p = pen ∧ r = .str (T (fieldT t wd))) := by
  refine' SPEC.enter [Str.ofString "text", Str.ofString "width"] ?ho ?hcd ?hb ?hnd ?hlen ?hloc ?hco ?hgen ?hk ?hcell ?hdb ?h
  walk_at "in"
  repeat' walk_at "s"
  all_goals
    refine ⟨rfl, ?_⟩
    rename_i hc
    unfold fieldT
  · rw [if_pos (by omega), Int.toNat_natCast]
  · rw [if_neg (by omega), show ((wd : Int) - (t.length : Int)).toNat = wd - t.length from Int.toNat_sub _ _]
def signT (m p : Bool) : List Nat := if m = true then [45] else if p = true then [43] else []
theorem sp_sign_text (m p : Bool) : SPEC (GG w mean mg mb) 1 219 [.bool m, .bool p] pen (fun r q => q = pen ∧ r = .str (T (signT m p))) := by
  refine' SPEC.enter [Str.ofString "is_minus", Str.ofString "is_plus"] ?ho ?hcd ?hb ?hnd ?hlen ?hloc ?hco ?hgen ?hk ?hcell ?hdb ?h
  walk_at "in"
  repeat' walk_at "s"
  all_goals exact ⟨rfl, by simp_all [signT]⟩
theorem signT_len (m p : Bool) : (signT m p).length ≤ 1 := by cases m <;> cases p <;> decide
def scaledN (n : Nat) (p : Int) : Nat := if 0 ≤ p then n * 10 ^ p.toNat else (2 * n + 10 ^ (-p).toNat) / (2 * 10 ^ (-p).toNat)
theorem pow10_lt {k : Nat} (h : k ≤ 100) : 10 ^ k ≤ 10 ^ 100 := Nat.pow_le_pow_right (by decide) h
theorem intBits_small {n : Nat} (h : n < 2 ^ 63) : Builtin.Int.intBits (n : Int) ≤ 64 := intBits_le_64 (by omega) (by omega)
theorem sp_scaled (n : Nat) (p : Int) (hn : n < 2 ^ 60) (h1 : -100 ≤ p) (h2 : p ≤ 100) : SPEC (GG w mean mg mb) 1 226 [.int (n : Nat), .int p] pen (fun r q => q = pen ∧ r = .int (scaledN n p : Nat)) := by
  refine' SPEC.enter [Str.ofString "number", Str.ofString "power"] ?ho ?hcd ?hb ?hnd ?hlen ?hloc ?hco ?hgen ?hk ?hcell ?hdb ?h
  walk_at "in"
  repeat' walk_at "s"
  · rename_i h0
    refine x_pow10 h0 (by omega) ?_
    refine ⟨_, o_mul (IntMulOk.of_left (intBits_small (Nat.lt_trans hn (by decide)))), ?_⟩
    repeat' walk_at "s"
    refine ⟨rfl, ?_⟩
    rw [scaledN, if_pos h0, Int.natCast_mul]
  · rename_i h0
    have hp : 0 < 10 ^ (-p).toNat := Nat.pow_pos (by decide)
    have hp' : 10 ^ (-p).toNat ≤ 10 ^ 100 := pow10_lt (by omega)
    refine x_pow10 (by omega) (by omega) ?_
    repeat' walk_at "s"
    refine x_divU (by omega) (by omega) ?_
    repeat' walk_at "s"
    refine ⟨rfl, ?_⟩
    rw [scaledN, if_neg h0]
    generalize 10 ^ (-p).toNat = u
    simp
def editInt (v : Int) (wd least : Nat) (plus : Bool) : List Nat :=
  if v = 0 ∧ least = 0 then List.replicate wd 32 else fieldT (signT (decide (v < 0)) plus ++ (List.replicate (least - (dg v.natAbs).length) 48 ++ dg v.natAbs)) wd
def optN : Option Nat → AV
  | none => .none
  | some n => .int (n : Nat)
theorem sp_edit_int (v : Int) (wd : Nat) (least : Option Nat) (plus : Bool) (hv : v.natAbs < 10 ^ 20) (hw : wd ≤ 1000) (hl : ∀ n, least = some n → n ≤ 100) :
    SPEC (GG w mean mg mb) 2 233 [.int v, .int (wd : Nat), optN least, .bool plus] pen (fun r q => q = pen ∧ r = .str (T (editInt v wd (least.getD 1) plus))) := by
  have hd := dg_len (k := 20) (by decide) hv
  have hsl := signT_len (decide (v < 0)) plus
  refine' SPEC.enter [Str.ofString "value", Str.ofString "width", Str.ofString "least", Str.ofString "is_plus"] ?ho ?hcd ?hb ?hnd ?hlen ?hloc ?hco ?hgen ?hk ?hcell ?hdb ?h
  walk_at "in"
  cases least with
  | none =>
    show EX _ _ ⟨[Str.ofString "value", Str.ofString "width", Str.ofString "least", Str.ofString "is_plus"].zip [.int v, .int (wd : Nat), .none, .bool plus], pen⟩ _
    repeat' walk_at "s"
    all_goals
      refine useSpecE (sp_sign_text _ _) rfl ?_
      repeat' walk_at "s"
      refine useSpecE (sp_field _ wd (by simp only [List.length_append, List.length_replicate]; omega) hw) rfl ?_
      repeat' walk_at "s"
      refine ⟨rfl, ?_⟩
      rw [editInt, if_neg (by simp), show (1 - ((dg v.natAbs).length : Int)).toNat = (Option.getD none 1) - (dg v.natAbs).length from Int.toNat_sub 1 _]
  | some n =>
    have hn := hl n rfl
    show EX _ _ ⟨[Str.ofString "value", Str.ofString "width", Str.ofString "least", Str.ofString "is_plus"].zip [.int v, .int (wd : Nat), .int (n : Nat), .bool plus], pen⟩ _
    repeat' walk_at "s"
    · rename_i h1 h2
      refine ⟨rfl, ?_⟩
      rw [editInt, if_pos ⟨h1, by simpa using h2⟩, Int.toNat_natCast]
    all_goals
      refine useSpecE (sp_sign_text _ _) rfl ?_
      repeat' walk_at "s"
      refine useSpecE (sp_field _ wd (by simp only [List.length_append, List.length_replicate]; omega) hw) rfl ?_
      repeat' walk_at "s"
      refine ⟨rfl, ?_⟩
      rw [editInt, if_neg (by simp; omega), show ((n : Int) - ((dg v.natAbs).length : Int)).toNat = (Option.getD (some n) 1) - (dg v.natAbs).length from Int.toNat_sub _ _]
def pointT (s wh re : List Nat) (wd : Nat) : List Nat :=
  if wh = [] ∧ re = [] then fieldT (s ++ [48] ++ 46 :: re) wd
  else if wh = [] ∧ s.length + 2 + re.length ≤ wd then fieldT (s ++ [48, 46] ++ re) wd
  else fieldT (s ++ wh ++ 46 :: re) wd
theorem sp_point_field (s wh re : List Nat) (wd : Nat) (hl : s.length + wh.length + re.length ≤ 500) (hw : wd ≤ 1000) :
    SPEC (GG w mean mg mb) 2 240 [.str (T s), .str (T wh), .str (T re), .int (wd : Nat)] pen (fun r q => q = pen ∧ r = .str (T (pointT s wh re wd))) := by
  refine' SPEC.enter [Str.ofString "sign", Str.ofString "whole", Str.ofString "rest", Str.ofString "width"] ?ho ?hcd ?hb ?hnd ?hlen ?hloc ?hco ?hgen ?hk ?hcell ?hdb ?h
  walk_at "in"
  repeat' walk_at "s"
  all_goals
    refine useSpecE (sp_field _ wd (by simp only [List.length_append, List.length_cons, List.length_nil]; omega) hw) rfl ?_
    repeat' walk_at "s"
    refine ⟨rfl, congrArg (fun l => AV.str (T l)) ?_⟩
    (try simp only [List.length_append, List.length_cons, List.length_nil] at *)
    unfold pointT
    repeat' split
  all_goals first
    | (simp_all; done)
    | (exfalso; simp_all; done)
    | (exfalso; simp_all; omega)
    | trace_state
end
section
def fixDs (n places : Nat) : List Nat := List.replicate (places - (if n = 0 then [] else dg n).length) 48 ++ (if n = 0 then [] else dg n)
def fixedT (m e : Int) (wd places : Nat) (scale : Int) (plus : Bool) : List Nat :=
  let n := scaledN m.natAbs (e + scale + places)
  pointT (signT (decide (m < 0) && decide (0 < n)) plus) ((fixDs n places).take ((fixDs n places).length - places)) ((fixDs n places).drop ((fixDs n places).length - places)) wd
theorem scaledN_lt {n : Nat} {p : Int} (hn : n < 10 ^ 18) (hp : p ≤ 100) : scaledN n p < 10 ^ 120 := by
  unfold scaledN
  split
  · have h1 : 10 ^ p.toNat ≤ 10 ^ 100 := pow10_lt (by omega)
    have := Nat.mul_le_mul (Nat.le_of_lt hn) h1
    have h2 : (10 : Nat) ^ 18 * 10 ^ 100 < 10 ^ 120 := by decide
    omega
  · have hpos : 0 < 10 ^ (-p).toNat := Nat.pow_pos (by decide)
    refine Nat.lt_of_le_of_lt (Nat.div_le_of_le_mul (n := n + 1) ?_) (by omega)
    generalize 10 ^ (-p).toNat = u at hpos
    have : n ≤ n * u := Nat.le_mul_of_pos_right _ hpos
    rw [Nat.mul_assoc, Nat.mul_comm u (n + 1), Nat.add_mul]
    omega
theorem fixDs_len {n places : Nat} (hn : n < 10 ^ 120) (hp : places ≤ 100) : (fixDs n places).length ≤ 220 := by
  have := dg_len (by decide) hn
  unfold fixDs
  rw [List.length_append, List.length_replicate]
  split <;> simp <;> omega
theorem fixDs_ge (n places : Nat) : places ≤ (fixDs n places).length := by
  unfold fixDs
  rw [List.length_append, List.length_replicate]; omega
theorem fixDs_pos {n places : Nat} (h : ¬ (n : Int) = 0) : List.replicate ((places : Int) - ((dg n).length : Int)).toNat 48 ++ dg n = fixDs n places := by
  rw [fixDs, if_neg (by omega), show ((places : Int) - ((dg n).length : Int)).toNat = places - (dg n).length from Int.toNat_sub _ _]
theorem fixDs_zero {n places : Nat} (h : (n : Int) = 0) : List.replicate ((places : Int) - (([] : List Nat).length : Int)).toNat 48 ++ [] = fixDs n places := by
  rw [fixDs, if_pos (by omega), show ((places : Int) - (([] : List Nat).length : Int)).toNat = places - ([] : List Nat).length from by simp]
theorem sp_edit_fixed (m e : Int) (wd places : Nat) (scale : Int) (plus : Bool) (hm : m.natAbs < 10 ^ 18) (he : -30 ≤ e ∧ e ≤ 30) (hw : wd ≤ 1000) (hp : places ≤ 30) (hs : -10 ≤ scale ∧ scale ≤ 10) :
    SPEC (GG w mean mg mb) 3 247 [.tup [.int m, .int e], .int (wd : Nat), .int (places : Nat), .int scale, .bool plus] pen (fun r q => q = pen ∧ r = .str (T (fixedT m e wd places scale plus))) := by
  have hn := scaledN_lt (n := m.natAbs) (p := e + scale + places) hm (by omega)
  have hlen := fixDs_len hn (by omega : places ≤ 100)
  have hge := fixDs_ge (scaledN m.natAbs (e + scale + places)) places
  refine' SPEC.enter [Str.ofString "value", Str.ofString "width", Str.ofString "places", Str.ofString "scale", Str.ofString "is_plus"] ?ho ?hcd ?hb ?hnd ?hlen ?hloc ?hco ?hgen ?hk ?hcell ?hdb ?h
  walk_at "in"
  repeat' walk_at "s"
  refine useSpecE (sp_scaled m.natAbs (e + scale + places) (Nat.lt_trans hm (by decide)) (by omega) (by omega)) rfl ?_
  unfold fixedT
  dsimp only
  generalize hN : scaledN m.natAbs (e + scale + places) = n at *
  have hd := dg_len (n := n) (k := 120) (by decide) hn
  repeat' walk_at "s"
  all_goals
    rename_i h1 h2
    first | rw [fixDs_zero h1] | rw [fixDs_pos h1]
    refine useSpecE (sp_sign_text _ _) rfl ?_
    repeat' walk_at "s"
    refine ⟨(fixDs n places).length - places, congrArg AV.int (by omega), ?_⟩
    repeat' walk_at "s"
    refine ⟨(fixDs n places).length - places, congrArg AV.int (by omega), ?_⟩
    repeat' walk_at "s"
    refine useSpec (sp_point_field _ _ _ wd ?_ hw) rfl ?_
    · rw [List.length_take, List.length_drop]
      have := signT_len (decide (0 < (n : Int))) plus
      have := signT_len false plus
      omega
    rintro x p ⟨rfl, rfl⟩
    repeat' walk_at "s"
    refine ⟨rfl, ?_⟩
    first
      | (simp_all; done)
      | (rw [show decide (m < 0) = false from decide_eq_false (by omega)]; rfl)
def leadT (m e : Int) (count : Nat) : List Nat × Int :=
  if m = 0 then (List.replicate count 48, 0)
  else
    let ds := dg (scaledN m.natAbs ((count : Int) - ((dg m.natAbs).length : Int)))
    if count < ds.length then (ds.take count, ((dg m.natAbs).length : Int) + e + 1) else (ds, ((dg m.natAbs).length : Int) + e)
theorem sp_leading (m e : Int) (count : Nat) (hm : m.natAbs < 10 ^ 18) (hc : count ≤ 50) :
    SPEC (GG w mean mg mb) 2 254 [.tup [.int m, .int e], .int (count : Nat)] pen (fun r q => q = pen ∧ r = .tup [.str (T (leadT m e count).1), .int (leadT m e count).2]) := by
  have hd := dg_len (n := m.natAbs) (k := 18) (by decide) hm
  have hn := scaledN_lt (n := m.natAbs) (p := (count : Int) - ((dg m.natAbs).length : Int)) hm (by omega)
  refine' SPEC.enter [Str.ofString "value", Str.ofString "count"] ?ho ?hcd ?hb ?hnd ?hlen ?hloc ?hco ?hgen ?hk ?hcell ?hdb ?h
  walk_at "in"
  repeat' walk_at "s"
  · rename_i h
    have h0 : m = 0 := by omega
    subst h0
    exact ⟨rfl, by simp [leadT]⟩
  rename_i h
  have h0 : ¬ m = 0 := by omega
  refine useSpecE (sp_scaled m.natAbs _ (Nat.lt_trans hm (by decide)) (by omega) (by omega)) rfl ?_
  repeat' walk_at "s"
  all_goals
    rename_i hc'
    refine ⟨rfl, ?_⟩
    unfold leadT
    dsimp only
    rw [if_neg h0]
  · rw [if_pos (by omega)]
  · rw [if_neg (by omega)]
def expT (letter : Nat) (p : Int) (k : Nat) : List Nat := letter :: (if p < 0 then 45 else 43) :: (List.replicate (k - (dg p.natAbs).length) 48 ++ dg p.natAbs)
theorem sp_exponent_text (letter : Nat) (p : Int) (size : Option Nat) (hp : p.natAbs < 100) (hz : ∀ n, size = some n → 2 ≤ n ∧ n ≤ 10) :
    SPEC (GG w mean mg mb) 1 261 [.str (T [letter]), .int p, optN size] pen (fun r q => q = pen ∧ r = .str (T (expT letter p (size.getD 2)))) := by
  have hd := dg_len (n := p.natAbs) (k := 2) (by decide) hp
  refine' SPEC.enter [Str.ofString "letter", Str.ofString "power", Str.ofString "size"] ?ho ?hcd ?hb ?hnd ?hlen ?hloc ?hco ?hgen ?hk ?hcell ?hdb ?h
  walk_at "in"
  cases size with
  | none =>
    show EX _ _ ⟨[Str.ofString "letter", Str.ofString "power", Str.ofString "size"].zip [.str (T [letter]), .int p, .none], pen⟩ _
    repeat' walk_at "s"
    all_goals first
      | (exfalso; omega)
      | (refine ⟨rfl, ?_⟩
         rw [show ((2 : Int) - ((dg p.natAbs).length : Int)).toNat = (Option.getD none 2) - (dg p.natAbs).length from Int.toNat_sub 2 _]
         simp [expT, *])
  | some n =>
    have hn := hz n rfl
    show EX _ _ ⟨[Str.ofString "letter", Str.ofString "power", Str.ofString "size"].zip [.str (T [letter]), .int p, .int (n : Nat)], pen⟩ _
    repeat' walk_at "s"
    all_goals first
      | (exfalso; omega)
      | (refine ⟨rfl, ?_⟩
         rw [show ((n : Int) - ((dg p.natAbs).length : Int)).toNat = (Option.getD (some n) 2) - (dg p.natAbs).length from Int.toNat_sub _ _]
         simp [expT, *])
end
section
def expF (letter : Nat) (m e : Int) (wd places k : Nat) (scale : Int) (plus : Bool) : List Nat :=
  let count := if scale ≤ 0 then (places + scale).toNat else places + 1
  let L := leadT m e count
  let p := if m = 0 then L.2 else L.2 - scale
  let sg := signT (decide (m < 0)) plus
  if 0 < scale then pointT sg (L.1.take scale.toNat) (L.1.drop scale.toNat ++ expT letter p k) wd
  else pointT sg [] (List.replicate (-scale).toNat 48 ++ L.1 ++ expT letter p k) wd
theorem leadT_len {m e : Int} {count : Nat} (hm : m.natAbs < 10 ^ 18) (hc : count ≤ 50) : (leadT m e count).1.length ≤ 120 := by
  have hn := scaledN_lt (n := m.natAbs) (p := (count : Int) - ((dg m.natAbs).length : Int)) hm (by omega)
  have := dg_len (by decide) hn
  unfold leadT
  split
  · simp; omega
  · dsimp only
    split
    · simp; omega
    · simpa using this
theorem expT_len {letter : Nat} {p : Int} {k : Nat} (hp : p.natAbs < 100) (hk : k ≤ 10) : (expT letter p k).length ≤ 14 := by
  have hd := dg_len (n := p.natAbs) (k := 2) (by decide) hp
  unfold expT
  simp
  omega
theorem sp_edit_exp (letter : Nat) (m e : Int) (wd places : Nat) (size : Option Nat) (scale : Int) (plus : Bool) (hm : m.natAbs < 10 ^ 18) (he : -30 ≤ e ∧ e ≤ 30) (hw : wd ≤ 1000) (hp : 2 ≤ places ∧ places ≤ 30) (hs : -1 ≤ scale ∧ scale ≤ 2)
    (hz : ∀ n, size = some n → 2 ≤ n ∧ n ≤ 10) (hpw : ((leadT m e (if scale ≤ 0 then (places + scale).toNat else places + 1)).2 - scale).natAbs < 100) :
    SPEC (GG w mean mg mb) 3 268 [.str (T [letter]), .tup [.int m, .int e], .int (wd : Nat), .int (places : Nat), optN size, .int scale, .bool plus] pen (fun r q => q = pen ∧ r = .str (T (expF letter m e wd places (size.getD 2) scale plus))) := by
  have hk : size.getD 2 ≤ 10 := by cases size with | none => decide | some n => exact (hz n rfl).2
  refine' SPEC.enter [Str.ofString "letter", Str.ofString "value", Str.ofString "width", Str.ofString "places", Str.ofString "size", Str.ofString "scale", Str.ofString "is_plus"] ?ho ?hcd ?hb ?hnd ?hlen ?hloc ?hco ?hgen ?hk ?hcell ?hdb ?h
  walk_at "in"
  repeat' walk_at "s"
  all_goals first
    | (exfalso; omega)
    | skip
  · rename_i h1 h2 h3
    obtain ⟨c, hc⟩ : ∃ c : Nat, (places : Int) + scale = c := ⟨((places : Int) + scale).toNat, by omega⟩
    rw [if_pos h3, hc, Int.toNat_natCast] at hpw
    obtain ⟨pw, h0, h1', hpp⟩ : ∃ pw : Int, (m = 0 → pw = (leadT m e c).2) ∧ (¬ m = 0 → pw = (leadT m e c).2 - scale) ∧ pw.natAbs < 100 := by
      by_cases hm0 : m = 0
      · exact ⟨(leadT m e c).2, fun _ => rfl, fun h => absurd hm0 h, by simp [leadT, hm0]⟩
      · exact ⟨(leadT m e c).2 - scale, fun h => absurd h hm0, fun _ => rfl, hpw⟩
    have hF : expF letter m e wd places (size.getD 2) scale plus = pointT (signT (decide (m < 0)) plus) [] (List.replicate (-scale).toNat 48 ++ (leadT m e c).1 ++ expT letter pw (size.getD 2)) wd := by
      unfold expF
      dsimp only
      rw [if_pos h3, hc, Int.toNat_natCast, if_neg (by omega)]
      by_cases hm0 : m = 0
      · rw [if_pos hm0, h0 hm0]
      · rw [if_neg hm0, h1' hm0]
    rw [hF, hc]
    have hll := leadT_len (e := e) hm (show c ≤ 50 by omega)
    have hel := expT_len (letter := letter) hpp hk
    have hsl := signT_len (decide (m < 0)) plus
    have hspec := sp_exponent_text (w := w) (mean := mean) (mg := mg) (mb := mb) (pen := pen) letter pw size hpp hz
    refine useSpecE (sp_leading m e c hm (by omega)) rfl ?_
    repeat' walk_at "s"
    all_goals
      rename_i h4
      first | rw [← h1' h4] | rw [← h0 h4]
      refine useSpecE hspec rfl ?_
      repeat' walk_at "s"
      refine useSpecE (sp_sign_text _ _) rfl ?_
      repeat' walk_at "s"
      all_goals first | (exfalso; omega) | skip
      refine useSpecE (sp_point_field _ _ _ wd (by simp only [List.length_append, List.length_replicate, List.length_nil]; omega) hw) rfl ?_
      repeat' walk_at "s"
      exact ⟨rfl, rfl⟩
  · rename_i h1 h2 h3
    obtain ⟨sc, hsc⟩ : ∃ sc : Nat, scale = sc := ⟨scale.toNat, by omega⟩
    rw [if_neg h3] at hpw
    obtain ⟨pw, h0, h1', hpp⟩ : ∃ pw : Int, (m = 0 → pw = (leadT m e (places + 1)).2) ∧ (¬ m = 0 → pw = (leadT m e (places + 1)).2 - scale) ∧ pw.natAbs < 100 := by
      by_cases hm0 : m = 0
      · exact ⟨(leadT m e (places + 1)).2, fun _ => rfl, fun h => absurd hm0 h, by simp [leadT, hm0]⟩
      · exact ⟨(leadT m e (places + 1)).2 - scale, fun h => absurd h hm0, fun _ => rfl, hpw⟩
    have hF : expF letter m e wd places (size.getD 2) scale plus = pointT (signT (decide (m < 0)) plus) ((leadT m e (places + 1)).1.take sc) ((leadT m e (places + 1)).1.drop sc ++ expT letter pw (size.getD 2)) wd := by
      unfold expF
      dsimp only
      rw [if_neg h3, if_pos (by omega), hsc, Int.toNat_natCast, ← hsc]
      by_cases hm0 : m = 0
      · rw [if_pos hm0, h0 hm0]
      · rw [if_neg hm0, h1' hm0]
    rw [hF]
    have hll := leadT_len (e := e) hm (show places + 1 ≤ 50 by omega)
    have hel := expT_len (letter := letter) hpp hk
    have hsl := signT_len (decide (m < 0)) plus
    have hspec := sp_exponent_text (w := w) (mean := mean) (mg := mg) (mb := mb) (pen := pen) letter pw size hpp hz
    refine useSpecE (sp_leading m e (places + 1) hm (by omega)) rfl ?_
    repeat' walk_at "s"
    all_goals
      rename_i h4
      first | rw [← h1' h4] | rw [← h0 h4]
      refine useSpecE hspec rfl ?_
      repeat' walk_at "s"
      refine useSpecE (sp_sign_text _ _) rfl ?_
      repeat' walk_at "s"
      all_goals first | (exfalso; omega) | skip
      refine ⟨sc, congrArg AV.int hsc, ?_⟩
      repeat' walk_at "s"
      refine ⟨sc, congrArg AV.int hsc, ?_⟩
      repeat' walk_at "s"
      refine useSpecE (sp_point_field _ _ _ wd (by simp only [List.length_append, List.length_take, List.length_drop]; omega) hw) rfl ?_
      repeat' walk_at "s"
      exact ⟨rfl, rfl⟩
end
section
def genFix (m e : Int) (places : Nat) : Bool := decide (m ≠ 0 ∧ 0 ≤ ((dg m.natAbs).length : Int) + e ∧ ((dg m.natAbs).length : Int) + e ≤ places)
theorem sp_is_general_fixed (m e : Int) (places : Nat) (hm : m.natAbs < 10 ^ 18) : SPEC (GG w mean mg mb) 1 275 [.tup [.int m, .int e], .int (places : Nat)] pen (fun r q => q = pen ∧ r = .bool (genFix m e places)) := by
  refine' SPEC.enter [Str.ofString "value", Str.ofString "places"] ?ho ?hcd ?hb ?hnd ?hlen ?hloc ?hco ?hgen ?hk ?hcell ?hdb ?h
  walk_at "in"
  repeat' walk_at "s"
  all_goals
    refine ⟨rfl, congrArg AV.bool ?_⟩
    unfold genFix
    first
      | (symm; apply decide_eq_false; omega)
      | (apply decide_eq_decide.mpr; omega)
theorem fieldT_len (t : List Nat) (wd : Nat) : (fieldT t wd).length = wd := by
  unfold fieldT
  split
  · simp
  · rw [List.length_append, List.length_replicate]; omega
theorem pointT_len (s wh re : List Nat) (wd : Nat) : (pointT s wh re wd).length = wd := by
  unfold pointT
  split
  · exact fieldT_len _ _
  · split <;> exact fieldT_len _ _
theorem fixedT_len (m e : Int) (wd places : Nat) (scale : Int) (plus : Bool) : (fixedT m e wd places scale plus).length = wd := pointT_len _ _ _ _
def genT (m e : Int) (wd places k : Nat) (scale : Int) (plus : Bool) : List Nat :=
  if genFix m e places = true then
    let t := fixedT m e (wd - (k + 2)) (places - (((dg m.natAbs).length : Int) + e).toNat) 0 plus
    if t.head? = some 42 then List.replicate wd 42 else t ++ List.replicate (k + 2) 32
  else expF 69 m e wd places k scale plus
theorem sp_edit_general (m e : Int) (wd places : Nat) (size : Option Nat) (scale : Int) (plus : Bool) (hm : m.natAbs < 10 ^ 18) (he : -30 ≤ e ∧ e ≤ 30) (hw : wd ≤ 900) (hp : 2 ≤ places ∧ places ≤ 30) (hs : -1 ≤ scale ∧ scale ≤ 2)
    (hz : ∀ n, size = some n → 2 ≤ n ∧ n ≤ 10) (hpw : ((leadT m e (if scale ≤ 0 then (places + scale).toNat else places + 1)).2 - scale).natAbs < 100) (hwk : size.getD 2 + 2 < wd) :
    SPEC (GG w mean mg mb) 4 282 [.tup [.int m, .int e], .int (wd : Nat), .int (places : Nat), optN size, .int scale, .bool plus] pen (fun r q => q = pen ∧ r = .str (T (genT m e wd places (size.getD 2) scale plus))) := by
  have hgf := sp_is_general_fixed (w := w) (mean := mean) (mg := mg) (mb := mb) (pen := pen) m e places hm
  refine' SPEC.enter [Str.ofString "value", Str.ofString "width", Str.ofString "places", Str.ofString "size", Str.ofString "scale", Str.ofString "is_plus"] ?ho ?hcd ?hb ?hnd ?hlen ?hloc ?hco ?hgen ?hk ?hcell ?hdb ?h
  walk_at "in"
  unfold genT
  cases hg : genFix m e places with
  | false =>
    rw [hg] at hgf
    rw [if_neg (by decide)]
    repeat' walk_at "s"
    refine useSpecE hgf rfl ?_
    repeat' walk_at "s"
    refine useSpecE (sp_edit_exp 69 m e wd places size scale plus hm he (by omega) hp hs hz hpw) rfl ?_
    repeat' walk_at "s"
    exact ⟨rfl, rfl⟩
  | true =>
    rw [hg] at hgf
    rw [if_pos rfl]
    unfold genFix at hg
    have hg' := of_decide_eq_true hg
    have hd := dg_len (n := m.natAbs) (k := 18) (by decide) hm
    have hfx := sp_edit_fixed (w := w) (mean := mean) (mg := mg) (mb := mb) (pen := pen) m e (wd - (size.getD 2 + 2)) (places - (((dg m.natAbs).length : Int) + e).toNat) 0 plus hm he (by omega) (by omega) (by omega)
    have hfl := fixedT_len m e (wd - (size.getD 2 + 2)) (places - (((dg m.natAbs).length : Int) + e).toNat) 0 plus
    dsimp only
    generalize fixedT m e (wd - (size.getD 2 + 2)) (places - (((dg m.natAbs).length : Int) + e).toNat) 0 plus = t at *
    have hbl : size.getD 2 ≤ 10 := by cases size with | none => decide | some n => exact (hz n rfl).2
    cases t with
    | nil => exact absurd hfl (by simp; omega)
    | cons c r =>
      rw [List.length_cons] at hfl
      have hwh : ((((dg m.natAbs).length : Int) + e).toNat : Int) = ((dg m.natAbs).length : Int) + e := by omega
      cases size with
      | none =>
        show EX _ _ ⟨[Str.ofString "value", Str.ofString "width", Str.ofString "places", Str.ofString "size", Str.ofString "scale", Str.ofString "is_plus"].zip [.tup [.int m, .int e], .int (wd : Nat), .int (places : Nat), .none, .int scale, .bool plus], pen⟩ _
        have hwk' : 4 < wd := hwk
        have e1 : (((wd - (Option.getD none 2 + 2) : Nat)) : Int) = (wd : Int) - 4 := by simp only [Option.getD_none]; omega
        have e2 : ((places - (((dg m.natAbs).length : Int) + e).toNat : Nat) : Int) = (places : Int) - (((dg m.natAbs).length : Int) + e) := by omega
        rw [e1, e2] at hfx
        repeat' walk_at "s"
        refine useSpecE hgf rfl ?_
        repeat' walk_at "s"
        · exfalso; omega
        refine useSpecE hfx rfl ?_
        repeat' walk_at "s"
        · rename_i h
          refine ⟨rfl, ?_⟩
          rw [if_pos (by rw [List.head?_cons, List.head_eq_of_cons_eq h]), Int.toNat_natCast]
        · rename_i h
          refine ⟨rfl, ?_⟩
          rw [if_neg (fun e => h (by rw [List.head?_cons] at e; rw [Option.some.inj e]))]
          rfl
      | some n =>
        have hzn := hz n rfl
        show EX _ _ ⟨[Str.ofString "value", Str.ofString "width", Str.ofString "places", Str.ofString "size", Str.ofString "scale", Str.ofString "is_plus"].zip [.tup [.int m, .int e], .int (wd : Nat), .int (places : Nat), .int (n : Nat), .int scale, .bool plus], pen⟩ _
        have hwk' : n + 2 < wd := hwk
        have e1 : (((wd - (Option.getD (some n) 2 + 2) : Nat)) : Int) = (wd : Int) - ((n : Int) + 2) := by simp only [Option.getD_some]; omega
        have e2 : ((places - (((dg m.natAbs).length : Int) + e).toNat : Nat) : Int) = (places : Int) - (((dg m.natAbs).length : Int) + e) := by omega
        rw [e1, e2] at hfx
        repeat' walk_at "s"
        refine useSpecE hgf rfl ?_
        repeat' walk_at "s"
        · exfalso; omega
        refine useSpecE hfx rfl ?_
        repeat' walk_at "s"
        · rename_i h
          refine ⟨rfl, ?_⟩
          rw [if_pos (by rw [List.head?_cons, List.head_eq_of_cons_eq h]), Int.toNat_natCast]
        · rename_i h
          refine ⟨rfl, ?_⟩
          rw [if_neg (fun e => h (by rw [List.head?_cons] at e; rw [Option.some.inj e]))]
          rfl
theorem sp_edit_logical (b : Bool) (wd : Nat) (hw : wd ≤ 900) : SPEC (GG w mean mg mb) 2 289 [.bool b, .int (wd : Nat)] pen (fun r q => q = pen ∧ r = .str (T (fieldT [if b = true then 84 else 70] wd))) := by
  refine' SPEC.enter [Str.ofString "value", Str.ofString "width"] ?ho ?hcd ?hb ?hnd ?hlen ?hloc ?hco ?hgen ?hk ?hcell ?hdb ?h
  walk_at "in"
  cases b
  all_goals
    repeat' walk_at "s"
    refine useSpecE (sp_field _ wd (by simp) (by omega)) rfl ?_
    repeat' walk_at "s"
    exact ⟨rfl, rfl⟩
def textT (t : List Nat) : Option Nat → List Nat
  | none => t
  | some wd => if wd < t.length then t.take wd else fieldT t wd
theorem sp_edit_text (t : List Nat) (wd : Option Nat) (ht : t.length ≤ 1000) (hw : ∀ n, wd = some n → n ≤ 900) : SPEC (GG w mean mg mb) 2 296 [.str (T t), optN wd] pen (fun r q => q = pen ∧ r = .str (T (textT t wd))) := by
  refine' SPEC.enter [Str.ofString "text", Str.ofString "width"] ?ho ?hcd ?hb ?hnd ?hlen ?hloc ?hco ?hgen ?hk ?hcell ?hdb ?h
  walk_at "in"
  cases wd with
  | none =>
    show EX _ _ ⟨[Str.ofString "text", Str.ofString "width"].zip [.str (T t), .none], pen⟩ _
    repeat' walk_at "s"
    exact ⟨rfl, rfl⟩
  | some n =>
    have hn := hw n rfl
    show EX _ _ ⟨[Str.ofString "text", Str.ofString "width"].zip [.str (T t), .int (n : Nat)], pen⟩ _
    repeat' walk_at "s"
    · refine ⟨rfl, ?_⟩
      rw [textT, if_pos (by omega)]
    · refine useSpecE (sp_field _ n ht (by omega)) rfl ?_
      repeat' walk_at "s"
      refine ⟨rfl, ?_⟩
      rw [textT, if_neg (by omega)]
end
section
local macro_rules | `(tactic| walk_at "and") => `(tactic| first
  | ((with_reducible refine' an_isF ?hc ?_); (case hc => assumption))
  | ((with_reducible refine' an_isT ?hc ?_); (case hc => assumption)))
local macro_rules | `(tactic| walk_at "TRs") => `(tactic| ((with_reducible refine' TRs.orK ?e ?g1 ?hx1 ?g2 ?hx2 ?hk ?_); (case e => rfl); (case g1 => walk_at "g int"); (case hx1 => rfl); (case g2 => walk_at "g int"); (case hx2 => rfl); (case hk => assumption)))
local macro_rules | `(tactic| walk_at "and") => `(tactic| ((with_reducible refine' inLt ?ha ?hl ?hr ?_); (case ha => rfl); (case hl => rfl); (case hr => assumption)))
local macro_rules | `(tactic| walk_at "ex") => `(tactic| ((with_reducible refine' x_inTt ?hl ?hr ?_); (case hl => rfl); (case hr => assumption)))
theorem sp_er_F {Q : AV → Pen → Prop} (a1 a2 : AV) (rest : List AV) (m e sc : Int) (pl : Bool) (h : SPEC (GG w mean mg mb) 5 247 [.tup [.int m, .int e], a1, a2, .int sc, .bool pl] pen Q) :
    SPEC (GG w mean mg mb) 6 303 [.tup (.str (T [70]) :: a1 :: a2 :: rest), .tup [.int m, .int e], .int sc, .bool pl] pen Q := by
  refine' SPEC.enter [Str.ofString "item", Str.ofString "value", Str.ofString "scale", Str.ofString "is_plus"] ?ho ?hcd ?hb ?hnd ?hlen ?hloc ?hco ?hgen ?hk ?hcell ?hdb ?h
  walk_at "in"
  repeat' walk_at "s"
  refine useSpec h rfl ?_
  intro a p hq
  repeat' walk_at "s"
  exact hq
theorem sp_er_D {Q : AV → Pen → Prop} (a1 a2 : AV) (rest : List AV) (m e sc : Int) (pl : Bool) (h : SPEC (GG w mean mg mb) 5 268 [.str (T [68]), .tup [.int m, .int e], a1, a2, .none, .int sc, .bool pl] pen Q) :
    SPEC (GG w mean mg mb) 6 303 [.tup (.str (T [68]) :: a1 :: a2 :: rest), .tup [.int m, .int e], .int sc, .bool pl] pen Q := by
  refine' SPEC.enter [Str.ofString "item", Str.ofString "value", Str.ofString "scale", Str.ofString "is_plus"] ?ho ?hcd ?hb ?hnd ?hlen ?hloc ?hco ?hgen ?hk ?hcell ?hdb ?h
  walk_at "in"
  repeat' walk_at "s"
  refine useSpec h rfl ?_
  intro a p hq
  repeat' walk_at "s"
  exact hq
theorem sp_er_E {Q : AV → Pen → Prop} (a1 a2 a3 : AV) (rest : List AV) (m e sc : Int) (pl : Bool) (h : SPEC (GG w mean mg mb) 5 268 [.str (T [69]), .tup [.int m, .int e], a1, a2, a3, .int sc, .bool pl] pen Q) :
    SPEC (GG w mean mg mb) 6 303 [.tup (.str (T [69]) :: a1 :: a2 :: a3 :: rest), .tup [.int m, .int e], .int sc, .bool pl] pen Q := by
  refine' SPEC.enter [Str.ofString "item", Str.ofString "value", Str.ofString "scale", Str.ofString "is_plus"] ?ho ?hcd ?hb ?hnd ?hlen ?hloc ?hco ?hgen ?hk ?hcell ?hdb ?h
  walk_at "in"
  repeat' walk_at "s"
  refine useSpec h rfl ?_
  intro a p hq
  repeat' walk_at "s"
  exact hq
theorem sp_er_G {Q : AV → Pen → Prop} (a1 a2 a3 : AV) (rest : List AV) (m e sc : Int) (pl : Bool) (h : SPEC (GG w mean mg mb) 5 282 [.tup [.int m, .int e], a1, a2, a3, .int sc, .bool pl] pen Q) :
    SPEC (GG w mean mg mb) 6 303 [.tup (.str (T [71]) :: a1 :: a2 :: a3 :: rest), .tup [.int m, .int e], .int sc, .bool pl] pen Q := by
  refine' SPEC.enter [Str.ofString "item", Str.ofString "value", Str.ofString "scale", Str.ofString "is_plus"] ?ho ?hcd ?hb ?hnd ?hlen ?hloc ?hco ?hgen ?hk ?hcell ?hdb ?h
  walk_at "in"
  repeat' walk_at "s"
  refine useSpec h rfl ?_
  intro a p hq
  repeat' walk_at "s"
  exact hq
theorem sp_ev_I {Q : AV → Pen → Prop} (a1 a2 : AV) (rest : List AV) (v sc : Int) (pl : Bool) (h : SPEC (GG w mean mg mb) 5 233 [.int v, a1, a2, .bool pl] pen Q) :
    SPEC (GG w mean mg mb) 7 310 [.tup (.str (T [73]) :: a1 :: a2 :: rest), .int 0, .int v, .int sc, .bool pl] pen Q := by
  refine' SPEC.enter [Str.ofString "item", Str.ofString "kind", Str.ofString "value", Str.ofString "scale", Str.ofString "is_plus"] ?ho ?hcd ?hb ?hnd ?hlen ?hloc ?hco ?hgen ?hk ?hcell ?hdb ?h
  walk_at "in"
  repeat' walk_at "s"
  refine useSpec h rfl ?_
  intro a p hq
  repeat' walk_at "s"
  exact hq
theorem sp_ev_L {Q : AV → Pen → Prop} (a1 : AV) (rest : List AV) (v : Bool) (sc : Int) (pl : Bool) (h : SPEC (GG w mean mg mb) 5 289 [.bool v, a1] pen Q) :
    SPEC (GG w mean mg mb) 7 310 [.tup (.str (T [76]) :: a1 :: rest), .int 4, .bool v, .int sc, .bool pl] pen Q := by
  refine' SPEC.enter [Str.ofString "item", Str.ofString "kind", Str.ofString "value", Str.ofString "scale", Str.ofString "is_plus"] ?ho ?hcd ?hb ?hnd ?hlen ?hloc ?hco ?hgen ?hk ?hcell ?hdb ?h
  walk_at "in"
  repeat' walk_at "s"
  refine useSpec h rfl ?_
  intro a p hq
  repeat' walk_at "s"
  exact hq
theorem sp_ev_A {Q : AV → Pen → Prop} (a1 : AV) (rest : List AV) (l : List Nat) (sc : Int) (pl : Bool) (h : SPEC (GG w mean mg mb) 5 296 [.str (T l), a1] pen Q) :
    SPEC (GG w mean mg mb) 7 310 [.tup (.str (T [65]) :: a1 :: rest), .int 5, .str (T l), .int sc, .bool pl] pen Q := by
  refine' SPEC.enter [Str.ofString "item", Str.ofString "kind", Str.ofString "value", Str.ofString "scale", Str.ofString "is_plus"] ?ho ?hcd ?hb ?hnd ?hlen ?hloc ?hco ?hgen ?hk ?hcell ?hdb ?h
  walk_at "in"
  repeat' walk_at "s"
  refine useSpec h rfl ?_
  intro a p hq
  repeat' walk_at "s"
  exact hq
theorem sp_ev_real {c : Nat} (hw : isRealW c) {Q : AV → Pen → Prop} (rest : List AV) (k : Int) (hk : k = 1 ∨ k = 2) (m e sc : Int) (pl : Bool) (h : SPEC (GG w mean mg mb) 6 303 [.tup (.str (T [c]) :: rest), .tup [.int m, .int e], .int sc, .bool pl] pen Q) :
    SPEC (GG w mean mg mb) 7 310 [.tup (.str (T [c]) :: rest), .int k, .tup [.int m, .int e], .int sc, .bool pl] pen Q := by
  obtain ⟨w1, w2, w3, w4, w5, w6⟩ := hw.all
  refine' SPEC.enter [Str.ofString "item", Str.ofString "kind", Str.ofString "value", Str.ofString "scale", Str.ofString "is_plus"] ?ho ?hcd ?hb ?hnd ?hlen ?hloc ?hco ?hgen ?hk ?hcell ?hdb ?h
  walk_at "in"
  repeat' walk_at "s"
  refine useSpec h rfl ?_
  intro a p hq
  repeat' walk_at "s"
  exact hq
theorem sp_ev_F {Q : AV → Pen → Prop} (a1 a2 : AV) (rest : List AV) (k : Int) (hk : k = 1 ∨ k = 2) (m e sc : Int) (pl : Bool) (h : SPEC (GG w mean mg mb) 5 247 [.tup [.int m, .int e], a1, a2, .int sc, .bool pl] pen Q) :
    SPEC (GG w mean mg mb) 7 310 [.tup (.str (T [70]) :: a1 :: a2 :: rest), .int k, .tup [.int m, .int e], .int sc, .bool pl] pen Q := sp_ev_real (c := 70) (by unfold isRealW; decide) _ k hk m e sc pl (sp_er_F a1 a2 rest m e sc pl h)
theorem sp_ev_D {Q : AV → Pen → Prop} (a1 a2 : AV) (rest : List AV) (k : Int) (hk : k = 1 ∨ k = 2) (m e sc : Int) (pl : Bool) (h : SPEC (GG w mean mg mb) 5 268 [.str (T [68]), .tup [.int m, .int e], a1, a2, .none, .int sc, .bool pl] pen Q) :
    SPEC (GG w mean mg mb) 7 310 [.tup (.str (T [68]) :: a1 :: a2 :: rest), .int k, .tup [.int m, .int e], .int sc, .bool pl] pen Q := sp_ev_real (c := 68) (by unfold isRealW; decide) _ k hk m e sc pl (sp_er_D a1 a2 rest m e sc pl h)
theorem sp_ev_E {Q : AV → Pen → Prop} (a1 a2 a3 : AV) (rest : List AV) (k : Int) (hk : k = 1 ∨ k = 2) (m e sc : Int) (pl : Bool) (h : SPEC (GG w mean mg mb) 5 268 [.str (T [69]), .tup [.int m, .int e], a1, a2, a3, .int sc, .bool pl] pen Q) :
    SPEC (GG w mean mg mb) 7 310 [.tup (.str (T [69]) :: a1 :: a2 :: a3 :: rest), .int k, .tup [.int m, .int e], .int sc, .bool pl] pen Q := sp_ev_real (c := 69) (by unfold isRealW; decide) _ k hk m e sc pl (sp_er_E a1 a2 a3 rest m e sc pl h)
theorem sp_ev_G {Q : AV → Pen → Prop} (a1 a2 a3 : AV) (rest : List AV) (k : Int) (hk : k = 1 ∨ k = 2) (m e sc : Int) (pl : Bool) (h : SPEC (GG w mean mg mb) 5 282 [.tup [.int m, .int e], a1, a2, a3, .int sc, .bool pl] pen Q) :
    SPEC (GG w mean mg mb) 7 310 [.tup (.str (T [71]) :: a1 :: a2 :: a3 :: rest), .int k, .tup [.int m, .int e], .int sc, .bool pl] pen Q := sp_ev_real (c := 71) (by unfold isRealW; decide) _ k hk m e sc pl (sp_er_G a1 a2 a3 rest m e sc pl h)
end
section
theorem init28 {f : Fm} (hG : f.toGl = GG w mean mg mb) (O : f.Ok) (hr : 2 ≤ f.room) {E : Value → Shared → Prop} {s : Shared} {m : Str → Option Value} {N : Led} {e t0 : Addr} {txt : Str} {tx : Tok} (F : Fr f.g f.L s.heap m) (n : News f.g f.L s.heap ((e, { cls := .ref 82, data := .fields #[.ref t0, .none, .none, .none, .bool false, .none] }) :: N)) (hN : ∀ q ∈ N, q.1 ≠ e) (hlen : txt.length ≤ sizeLine) :
    wpAny (model f.prog f.w) f.A (call (.ref 28) [.ref e, .str txt tx]) (fun v s' => ∃ N', Fr f.g f.L s'.heap m ∧ News f.g f.L s'.heap N' ∧ v = .none ∧ ∃ h' tk' t1 d mA, s' = { s with heap := h', toks := tk' } ∧ (∀ q ∈ N, q ∈ N') ∧ (e, excO 82 t1 d) ∈ N' ∧ h'.Ns1 d mA ∧ Within mA [Str.ofString "text"] ∧ d ≠ e ∧ (∃ od, (d, od) ∈ N') ∧ ∀ q ∈ N, q.1 ≠ d) E s := by
  obtain ⟨tg, A, A₀, base, outer, g, L, cn, cs, a, cd, cl, W, room⟩ := f
  dsimp only at hG
  subst hG
  refine' enterRaw (need := 1) (args := [.val (.ref e), .str txt]) (R := fun v s' N' => v = .none ∧ ∃ h' tk' t1 d mA, s' = { s with heap := h', toks := tk' } ∧ (∀ q ∈ N, q ∈ N') ∧ (e, excO 82 t1 d) ∈ N' ∧ h'.Ns1 d mA ∧ Within mA [Str.ofString "text"] ∧ d ≠ e ∧ (∃ od, (d, od) ∈ N') ∧ ∀ q ∈ N, q.1 ≠ d) [Str.ofString "self", Str.ofString "text"] O hr F n (RepL.mkCons Rep.mkVal (RepL.mkCons (Rep.mkStr hlen) RepL.mkNil)) ?ho ?hcd ?hb ?hnd ?hlen ?hloc ?hco ?hgen ?hk ?hcell ?hdb ?h
  walk_at "in"
  rename_i A A₀ base outer g L
  intro E' h₁ tk m₁ O' keep I'
  dsimp only at O' keep I' ⊢
  refine genP fun P0 p0 => ?_
  refine wpAny_execs_cons (wpAny_Expr (MethodCall_ (pl := do return (← importBound _ _).getD true) (nameX_B I'.F O'.X (topRead O') k_ex b_ex (by decide) ?_ rfl rfl (by decide)) rfl))
  refine getM_exc (s := { s with heap := h₁, toks := tk }) (O'.X.keeps I'.F.keep) k_exc ?_
  refine callWith_method1 (wpAny_items_cons (PostV.kk (EV.name (Q := fun a σ' => a = .val (.ref e) ∧ σ' = ⟨[Str.ofString "self", Str.ofString "text"].zip [AV.val (Value.ref e), AV.str txt], none⟩) rfl ⟨rfl, rfl⟩ O' E' { s with heap := h₁, toks := tk + 1 } m₁ _ I') fun h₂ t₂ N₂ v I₂ E₂ R₂ => ?_) rfl) rfl rfl
  obtain rfl := R₂.outVal
  refine wpAny_items_cons (PostV.kk (EV.name (Q := fun a σ' => a = .str txt ∧ σ' = ⟨[Str.ofString "self", Str.ofString "text"].zip [AV.val (Value.ref e), AV.str txt], none⟩) rfl ⟨rfl, rfl⟩ O' E' { s with heap := h₂, toks := t₂ } m₁ _ I₂) fun h₃ t₃ N₃ v I₃ E₃ R₃ => ?_) rfl
  obtain ⟨_, tv, rfl⟩ := R₃.outStr
  refine wpAny_items_nil ?_
  obtain ⟨nm, q, Nn, bs, hdct, sn, sub, ab, col, dd, k0, k1, k2, k3, k5, hC, -, -⟩ := k_obj (w := w)
  have X₃ := O'.X.keeps I₃.F.keep
  have E₁₃ := E₂.trans E₃
  have he₃ := I₃.nw _ (E₁₃ _ (.head _) List.not_mem_nil)
  refine base_init tailE (X₃ _ _ hC) he₃.1 ?_
  show wpAny _ _ (execs _ _) _ _ _
  generalize hH : (h₃.push { cls := .type "tuple", data := .seq #[.str txt tv] }).update e (Obj.mapFields (·.setIfInBounds 0 (.ref h₃.objs.size))) = H₄
  have nes : e ≠ h₃.objs.size := Nat.ne_of_lt (Heap.lt_size he₃.1)
  have kp : ∀ b o, b ∉ [e] → h₃.get? b = some o → H₄.get? b = some o := fun b o hb ho => by
    rw [← hH, Heap.get?_update_other _ _ (fun z => hb (by rw [z]; exact List.mem_singleton.mpr rfl))]
    exact Heap.get?_push_of_some _ ho
  have he₄ : H₄.get? e = some { cls := .ref 82, data := .fields #[.ref h₃.objs.size, .none, .none, .none, .bool false, .none] } := by
    rw [← hH]; exact Heap.get?_update_self _ (Heap.get?_push_of_some _ he₃.1) rfl
  have F₄ : Fr g L H₄ m₁ := LCg.fr_but I₃.F kp (Ne.symm he₃.2.1) he₃.2.2
  have N₄ : News g L H₄ N := LCg.news_but (fun q hq => I₃.nw _ (E₁₃ _ (.tail _ hq) List.not_mem_nil)) kp hN
  have hself : m₁ (Str.ofString "self") = some (.ref e) := by
    rcases I₃.loc (Str.ofString "self") _ rfl with ⟨_, v, hv, hr⟩ | ⟨_, c, o, v, hc, _⟩
    · rw [hv, hr.outVal]
    · exact nomatch hc
  have htext : ∃ tv, m₁ (Str.ofString "text") = some (.str txt tv) := by
    rcases I₃.loc (Str.ofString "text") _ rfl with ⟨_, v, hv, hr⟩ | ⟨_, c, o, v, hc, _⟩
    · obtain ⟨_, tv, rfl⟩ := hr.outStr; exact ⟨tv, hv⟩
    · exact nomatch hc
  obtain ⟨tv', htext⟩ := htext
  obtain ⟨cd', hcd', hmro, hdict⟩ := k_cls (w := w)
  refine wpAny_execs_cons (plainObj_wpAny_Assign_Attribute (nameX_L F₄ htext (nameX_L F₄ hself ?_ rfl rfl (by decide)) rfl rfl (by decide)) rfl)
  refine exc_set (s := { s with heap := H₄, toks := _ }) (mA := fun _ => none) (ns := []) (O'.X.keeps F₄.keep) he₄ rfl rfl hcd' hdict (by rw [hmro]; exact refuse_exc _ _ _) (by rw [hmro]; rfl) (by rw [hmro]; decide +kernel) k_sa k_text (.inl ⟨rfl, rfl⟩) PySem.Within.nil (by decide) fun h' tk' d hx' hdx hns hk hfresh _ => ?_
  refine wpAny_execs_nil ?_
  have kp₅ : ∀ b o, b ∉ [e] → H₄.get? b = some o → h'.get? b = some o := fun b o hb ho => hk b o (fun z => hb (by rw [z]; exact List.mem_singleton.mpr rfl)) (fun z => nomatch z) ho
  have hfr := hfresh rfl
  have F₅ : Fr g L h' m₁ := LCg.fr_but F₄ kp₅ (Ne.symm he₃.2.1) he₃.2.2
  have N₅ : News g L h' N := LCg.news_but N₄ kp₅ hN
  obtain ⟨oD, es, ep, hoD, r1, r2, r3, r4⟩ := id hns
  have hgd : g.get? d = none := by
    cases z : g.get? d with
    | none => rfl
    | some o => have := F₄.keep _ _ z; rw [hfr] at this; cases this
  have hdL : d ≠ L := fun z => by
    obtain ⟨oL, _, _, hL, _⟩ := F₄.ns
    rw [z, hL] at hfr; cases hfr
  have hNd : ∀ q ∈ N, q.1 ≠ d := fun q hq z => by have := (N₄ q hq).1; rw [z, hfr] at this; cases this
  refine p0 _ _ ⟨m₁, (e, excO 82 h₃.objs.size d) :: (d, oD) :: N, F₅, fun p hp => ?_, rfl, h', _, h₃.objs.size, d, _, rfl, fun q hq => .tail _ (.tail _ hq), .head _, hns, PySem.Within.cons _ _ PySem.Within.nil, hdx, ⟨oD, .tail _ (.head _)⟩, hNd⟩
  rcases List.mem_cons.mp hp with rfl | hp
  · exact ⟨hx', he₃.2⟩
  · rcases List.mem_cons.mp hp with rfl | hp
    · exact ⟨hoD, hdL, hgd⟩
    · exact N₅ p hp
end
section
theorem init79 {f : Fm} (hG : f.toGl = GG w mean mg mb) (O : f.Ok) (hr : 4 ≤ f.room) {E : Value → Shared → Prop} {s : Shared} {m : Str → Option Value} {N : Led} {e t0 : Addr} {txt : Str} {tx tc : Tok} (F : Fr f.g f.L s.heap m) (n : News f.g f.L s.heap ((e, { cls := .ref 82, data := .fields #[.ref t0, .none, .none, .none, .bool false, .none] }) :: N)) (hN : ∀ q ∈ N, q.1 ≠ e) (hlen : txt.length ≤ sizeLine) :
    wpAny (model f.prog f.w) f.A (call (.ref 79) [.ref e, .int 1 tc, .str txt tx]) (fun v s' => ∃ N', Fr f.g f.L s'.heap m ∧ News f.g f.L s'.heap N' ∧ v = .none ∧ ∃ h' tk' t1 d mA tc', s' = { s with heap := h', toks := tk' } ∧ (∀ q ∈ N, q ∈ N') ∧ (e, excO 82 t1 d) ∈ N' ∧ h'.Ns1 d mA ∧ mA (Str.ofString "code") = some (.int 1 tc') ∧ d ≠ e ∧ (∃ od, (d, od) ∈ N')) E s := by
  obtain ⟨tg, A, A₀, base, outer, g, L, cn, cs, a, cd, cl, W, room⟩ := f
  dsimp only at hG
  subst hG
  refine' enterRaw (need := 3) (args := [.val (.ref e), .int 1, .str txt]) (R := fun v s' N' => v = .none ∧ ∃ h' tk' t1 d mA tc', s' = { s with heap := h', toks := tk' } ∧ (∀ q ∈ N, q ∈ N') ∧ (e, excO 82 t1 d) ∈ N' ∧ h'.Ns1 d mA ∧ mA (Str.ofString "code") = some (.int 1 tc') ∧ d ≠ e ∧ (∃ od, (d, od) ∈ N')) [Str.ofString "self", Str.ofString "code", Str.ofString "text"] O hr F n (RepL.mkCons Rep.mkVal (RepL.mkCons Rep.mkInt (RepL.mkCons (Rep.mkStr hlen) RepL.mkNil))) ?ho ?hcd ?hb ?hnd ?hlen ?hloc ?hco ?hgen ?hk ?hcell ?hdb ?h
  walk_at "in"
  rename_i A A₀ base outer g L
  intro E' h₁ tk m₁ O' keep I'
  dsimp only at O' keep I' ⊢
  refine genP fun P0 p0 => ?_
  have hself : m₁ (Str.ofString "self") = some (.ref e) := by
    rcases I'.loc (Str.ofString "self") _ rfl with ⟨_, v, hv, hr⟩ | ⟨_, c, o, v, hc, _⟩
    · rw [hv, hr.outVal]
    · exact nomatch hc
  have htext : ∃ tv, m₁ (Str.ofString "text") = some (.str txt tv) := by
    rcases I'.loc (Str.ofString "text") _ rfl with ⟨_, v, hv, hr⟩ | ⟨_, c, o, v, hc, _⟩
    · obtain ⟨_, tv, rfl⟩ := hr.outStr; exact ⟨tv, hv⟩
    · exact nomatch hc
  have hcode : ∃ tv, m₁ (Str.ofString "code") = some (.int 1 tv) := by
    rcases I'.loc (Str.ofString "code") _ rfl with ⟨_, v, hv, hr⟩ | ⟨_, c, o, v, hc, _⟩
    · obtain ⟨tv, rfl⟩ := hr.outInt; exact ⟨tv, hv⟩
    · exact nomatch hc
  obtain ⟨tt, htext⟩ := htext
  obtain ⟨tc', hcode⟩ := hcode
  have he₁ := I'.nw _ (.head _)
  refine wpAny_execs_cons (wpAny_Expr (MethodCall_ (pl := do return (← importBound _ _).getD true) (nameX_K I'.F O'.X (topRead O') k_f7 ?_ rfl rfl (by decide)) rfl))
  refine method_of_cls (s := { s with heap := h₁, toks := tk }) I'.F O'.X k_f77s (cls_val (s := { s with heap := h₁, toks := tk }) (mc := .type "type") I'.F O'.X (by kernel_rfl) k_f77r k_f77 rfl ?_)
  refine callWith_K O'.X k_kp28 (wpAny_items_cons (nameX_L (s := { s with heap := h₁, toks := tk + 1 }) I'.F hself (wpAny_items_cons (nameX_L (s := { s with heap := h₁, toks := tk + 1 }) I'.F htext (wpAny_items_nil ?_) rfl rfl (by decide)) rfl) rfl rfl (by decide)) rfl) rfl rfl
  refine ⟨O'.X.keeps I'.F.keep, ?_⟩
  refine wpAny_mono (init28 rfl O' (by show 2 ≤ 3; decide) (s := { s with heap := h₁, toks := tk + 1 }) (N := N) I'.F I'.nw hN hlen) (fun v s₂ p => ?_) fun _ _ x => x
  obtain ⟨N₂, F₂, n₂, rfl, h₂, t₂, t1, d, mA, rfl, sub, hem, hns, hwi, hde, ⟨od, hod⟩, hNd⟩ := p
  have he₂ := n₂ _ hem
  obtain ⟨cd', hcd', hmro, hdict⟩ := k_cls (w := w)
  refine wpAny_execs_cons (plainObj_wpAny_Assign_Attribute (nameX_L (s := { s with heap := h₂, toks := t₂ }) F₂ hcode (nameX_L (s := { s with heap := h₂, toks := t₂ }) F₂ hself ?_ rfl rfl (by decide)) rfl rfl (by decide)) rfl)
  refine exc_set (s := { s with heap := h₂, toks := t₂ }) (O'.X.keeps F₂.keep) he₂.1 rfl rfl hcd' hdict (by rw [hmro]; exact refuse_exc _ _ _) (by rw [hmro]; rfl) (by rw [hmro]; decide +kernel) k_sa k_code (.inr ⟨d, rfl, hde, hns⟩) hwi (by decide) fun h' tk' d' hx' hdx hns' hk _ hsame => ?_
  obtain rfl := hsame d rfl
  refine wpAny_execs_nil ?_
  have hd₂ := n₂ _ hod
  have kp : ∀ b o, b ≠ e → b ≠ d' → h₂.get? b = some o → h'.get? b = some o := fun b o h1 h2 ho => hk b o h1 (fun z => h2 (Option.some.inj z).symm) ho
  have F₃ : Fr g L h' m₁ := ⟨F₂.ns.at' fun o ho => kp L o (Ne.symm he₂.2.1) (Ne.symm hd₂.2.1) ho, fun b o hb => kp b o (fun z => by rw [z, he₂.2.2] at hb; cases hb) (fun z => by rw [z, hd₂.2.2] at hb; cases hb) (F₂.keep b o hb), F₂.above⟩
  obtain ⟨oD, es, ep, hoD, r1, r2, r3, r4⟩ := id hns'
  refine p0 _ _ ⟨m₁, (e, excO 82 t1 d') :: (d', oD) :: N, F₃, fun p hp => ?_, rfl, h', _, t1, d', _, tc', rfl, fun q hq => .tail _ (.tail _ hq), .head _, hns', ?_, hde, ⟨oD, .tail _ (.head _)⟩⟩
  · rcases List.mem_cons.mp hp with rfl | hp
    · exact ⟨hx', he₂.2⟩
    · rcases List.mem_cons.mp hp with rfl | hp
      · exact ⟨hoD, hd₂.2⟩
      · exact ⟨kp _ _ (hN p hp) (hNd p hp) (n₂ _ (sub _ hp)).1, (n₂ _ (sub _ hp)).2⟩
  · exact if_pos rfl
end
section
theorem under_ok {f : Fm} (O : f.Ok) (hr : 1 ≤ f.room) (vs : List Value) : Fm.Ok { f with A := f.A.under (.builtin "type.__call__" ⟨.ref 82 :: vs, []⟩), room := f.room - 1 } := by
  obtain ⟨tg, A, A₀, base, outer, g, L, cn, cs, a, cd, cl, W, room⟩ := f
  obtain ⟨B, X, T, hA, hh, hk, hd, hu, nd⟩ := O
  dsimp only at *
  refine ⟨B, X, T, ?_, hh, hk, ?_, ?_, nd⟩
  · have : (A.under (.builtin "type.__call__" ⟨.ref 82 :: vs, []⟩)).frames = A.frames := by
      show pushEnvs [] A.frames = A.frames
      rw [hA]; rfl
    exact this.trans hA
  · show A.depth + 1 + (room - 1) < _
    omega
  · show A.units + _ + 8 * (room - 1) + 8 < _
    have : (Code.builtin "type.__call__" ⟨.ref 82 :: vs, []⟩).cUnits ≤ 8 := by
      have h : (Code.builtin "type.__call__" ⟨.ref 82 :: vs, []⟩).frames = 0 := rfl
      unfold Code.cUnits
      first | (rw [h]; decide) | (simp [h]; done) | (split <;> omega)
    omega
theorem k_fn79 : ∃ o, (hd.heap_1 (World.params w)).lookup 79 = some o ∧ o.cls = .type "function" := ⟨_, by with_unfolding_all rfl, by with_unfolding_all rfl⟩
theorem ns_some {K : Frag} {h : Heap} {N : Addr} {mg : Str → Option Value} {n : Str} {v : Value} (X : K.In h) (G : h.Ns N mg) (e : nsIn K N n = some (some v)) : mg n = some v := by
  obtain ⟨o, es, ep, ho, hd, _, hf⟩ := G
  unfold nsIn at e
  split at e
  · rename_i q
    have := X _ _ q
    rw [ho] at this
    cases this
    cases hd
    split at e
    · rename_i he
      cases e
      rw [← hf]
      unfold nsFind findBy
      rw [← Array.find?_toList, he]
      rfl
    · split at e <;> cases e
  · cases e
theorem raise_io {f : Fm} (hG : f.toGl = GG w mean mg mb) (O : f.Ok) (hr : 6 ≤ f.room) {σ : Sto} {E : Value → Shared → Prop} {R : Flow → Shared → Prop} {s : Shared} {m : Str → Option Value} {N : Led} (I : Inv f s.heap m N σ) {txt : Str} (htxt : txt.length ≤ sizeLine) {np bp tp cp pos : Pos} {kk : Nat}
    (hio : f.cs.names.lookup (Str.ofString "IoFault") = some .globalImplicit) (hbf : f.cs.names.lookup (Str.ofString "BAD_FIELD") = some .globalImplicit)
    (hE : ∀ h' tk' ea t d mA tc N', Fr f.g f.L h' m → News f.g f.L h' N' → (∀ q ∈ N, q ∈ N') → (ea, excO 82 t d) ∈ N' → h'.Ns1 d mA → mA (Str.ofString "code") = some (.int 1 tc) → d ≠ ea → (∃ od, (d, od) ∈ N') → (∀ q ∈ N, q.1 ≠ ea) → E (.ref ea) { s with heap := h', toks := tk' }) :
    wpAny (model f.prog f.w) f.A (exec (.Raise (some (.Call (.Name (Str.ofString "IoFault") np) [.Name (Str.ofString "BAD_FIELD") bp, .Constant (.str txt) kk tp] [] cp)) none pos) f.env) R E s := by
  obtain ⟨tg, A, A₀, base, outer, g, L, cn, cs, a, cd, cl, W, room⟩ := f
  dsimp only at hG
  subst hG
  obtain ⟨nm, q, Nn, bs, hdct, sn, sub, ab, col, dd, k0, k1, k2, k3, k5, hC, hi, hok⟩ := k_obj (w := w)
  obtain ⟨oI, hoI, hfc⟩ := k_fn79 (w := w)
  have ns₀ : g.Ns Nn (g.nsMap Nn) := .of_isNs (isNs_of_in O.X hok)
  have hi' := ns_some O.X ns₀ hi
  refine Raise_own (C := 82) (nm := nm) (q := q) (N := Nn) (bs := bs) (hdct := hdct) (sn := sn) (sub := sub) (ab := ab) (col := col) (dd := dd) (k0 := k0) (k1 := k1) (k2 := k2) (k3 := k3) (k5 := k5) F.excBase_Exception tailE (by decide +kernel) O.hh hi' hfc rfl rfl ?_
  refine nameX_K I.F O.X (topRead O) k_io ⟨rfl, ?_⟩ O.hk hio (by decide)
  refine wpAny_items_cons (nameX_K I.F O.X (topRead O) giBADFIELD (wpAny_items_cons (wpAny_Constant_str (wpAny_items_nil ?_)) rfl) O.hk hbf (by decide)) rfl
  have X := O.X.keeps I.F.keep
  refine ⟨by show 2 ≤ sizeLine; decide, X _ _ hC, ns₀.keeps I.F.keep, X _ _ hoI, fun h' e hm => ?_⟩
  obtain ⟨t, het, htn, htt⟩ := hm.there
  have fresh : ∀ b, s.heap.get? b = none → g.get? b = none := fun b hb => by
    cases z : g.get? b with
    | none => rfl
    | some o => have := I.F.keep _ _ z; rw [hb] at this; cases this
  have hLs : ∀ b, s.heap.get? b = none → b ≠ L := fun b hb z => by
    obtain ⟨oL, _, _, hL, _⟩ := I.F.ns
    rw [z, hL] at hb; cases hb
  have F' : Fr g L h' m := ⟨I.F.ns.at' fun o ho => hm.keeps _ _ ho, fun b o hb => hm.keeps _ _ (I.F.keep b o hb), I.F.above⟩
  have n' : News g L h' ((e, { cls := .ref 82, data := .fields #[.ref t, .none, .none, .none, .bool false, .none] }) :: N) := fun p hp => by
    rcases List.mem_cons.mp hp with rfl | hp
    · exact ⟨het, hLs _ hm.new, fresh _ hm.new⟩
    · exact ⟨hm.keeps _ _ (I.nw p hp).1, (I.nw p hp).2⟩
  have hN : ∀ p ∈ N, p.1 ≠ e := fun p hp z => by have := (I.nw p hp).1; rw [z, hm.new] at this; cases this
  refine wpAny_mono (init79 rfl (under_ok O (by show 1 ≤ room; exact Nat.le_trans (by decide) hr) _) (by show 4 ≤ room - 1; have : 6 ≤ room := hr; omega) (s := { s with heap := h', toks := _ }) F' n' hN htxt) (fun v s₂ p => ?_) fun _ _ x => x
  obtain ⟨N₂, F₂, n₂, rfl, h₂, t₂, t1, d, mA, tc', rfl, sub', hem, hns, hmc, hde, hod⟩ := p
  exact ⟨rfl, t1, d, (O.X.keeps F₂.keep) _ _ hC, (n₂ _ hem).1, hE h₂ t₂ e t1 d mA tc' N₂ F₂ n₂ sub' hem hns hmc hde hod hN⟩
end
section
theorem born_out {f : Fm} (O : f.Ok) {m : Str → Option Value} {N N' : Led} {s : Shared} {h' : Heap} {tk' : Nat} {ea t d : Addr} {mA : Str → Option Value} {tc : Tok} (F : Fr f.g f.L h' m) (n : News f.g f.L h' N') (sub : ∀ q ∈ N, q ∈ N') (hN : ∀ q ∈ N, q.1 ≠ ea) (he : (ea, excO 82 t d) ∈ N') (hns : h'.Ns1 d mA) (hc : mA (Str.ofString "code") = some (.int 1 tc)) (hde : d ≠ ea) (hod : ∃ od, (d, od) ∈ N') :
    Out f N s (.ref ea) { s with heap := h', toks := tk' } := by
  have K' := O.B.push (name := f.cn) (scope := f.cs) (a := f.a) (cd := f.cd) F O.hk
  have nofr : ∀ b o, (b, o) ∈ N' → b ∉ frs (f.env :: f.outer) := fun b o hb hm => by
    rcases List.mem_cons.mp (show b ∈ f.L :: frs f.outer from hm) with z | hm
    · exact (n _ hb).2.1 z
    · obtain ⟨_, o', ho', _⟩ := O.B.frames.mem hm
      have := (n _ hb).2.2
      rw [ho'] at this; cases this
  have hget : ∀ b o, h'.get? b = some o → b ≠ ea → b ∉ frs (f.env :: f.outer) → (hideAll h' (ea :: frs (f.env :: f.outer))).get? b = some o := fun b o hb h1 h2 => hideAll_get _ hb (fun hm => by
    rcases List.mem_cons.mp hm with z | hm
    · exact h1 z
    · exact h2 hm)
  obtain ⟨od, hod⟩ := hod
  refine ⟨ea, d, hideAll h' (ea :: frs (f.env :: f.outer)), h', tk', mA, tc, rfl, rfl, fun Q E hq => ?_, fun b o hb hn => ?_, fun q hq => ?_, fun b o hb _ => ⟨o.slots, F.keep b o hb⟩, ?_, hc⟩
  · refine leave_first (s := { s with heap := h', toks := tk' }) O.hA (funFrames_hide K'.frames fun env hm b hb => .tail _ (List.mem_filterMap.mpr ⟨env, hm, hb⟩)) rfl (n _ he).1 (fun b o hb => of_hideAll _ hb) (hideAll_none _ (.head _)) rfl rfl rfl fun h'' x u => hq h'' x u
  · refine hget b o (F.keep b o hb) (fun z => by rw [z, (n _ he).2.2] at hb; cases hb) fun hm => ?_
    rcases List.mem_cons.mp (show b ∈ f.L :: frs f.outer from hm) with z | hm
    · rw [z, Heap.get?_none_of_le F.above] at hb; cases hb
    · exact hn hm
  · exact hget _ _ (n _ (sub q hq)).1 (hN q hq) (nofr _ _ (sub q hq))
  · obtain ⟨o, es, ep, e1, r⟩ := hns
    exact ⟨o, es, ep, hget d o e1 hde (nofr _ _ hod), r⟩
theorem EXR.raise {f : Fm} (hG : f.toGl = GG w mean mg mb) (hr : 6 ≤ f.room) {σ : Sto} {txt : Str} (htxt : txt.length ≤ sizeLine) {np bp tp cp pos : Pos} {kk : Nat} {rest : List Stmt}
    (hio : f.cs.names.lookup (Str.ofString "IoFault") = some .globalImplicit) (hbf : f.cs.names.lookup (Str.ofString "BAD_FIELD") = some .globalImplicit) :
    EXR f (.Raise (some (.Call (.Name (Str.ofString "IoFault") np) [.Name (Str.ofString "BAD_FIELD") bp, .Constant (.str txt) kk tp] [] cp)) none pos :: rest) σ := fun O E s m N I hE => by
  refine wpAny_execs_cons (raise_io hG O hr I htxt hio hbf fun h' tk' ea t d mA tc N' F n sub hem hns hc hde hod hN => hE _ _ ?_)
  exact born_out O F n sub hN hem hns hc hde hod
theorem EXR.cons {f : Fm} {σ : Sto} {st : Stmt} {rest : List Stmt} (hW : f.W = []) (h : E1 f st σ (fun φ σ' => φ = .next ∧ EXR f rest σ')) : EXR f (st :: rest) σ := fun O E s m N I hE => by
  refine execs_step O I h (fun a σ' q => nomatch q.1) fun σ' h' tk' m' N' I' E' q => ?_
  exact q.2 O E { s with heap := h', toks := tk' } m' N' I' fun e s' x => hE e s' (x.more fun p hp => E' p hp (by rw [hW]; exact List.not_mem_nil))
theorem EXR.ite {f : Fm} {σ : Sto} {test : PySem.Expr} {body rest : List Stmt} {pos : Pos} (hW : f.W = []) (h : TR f test σ fun c σ₁ => (c = true → EXR f body σ₁) ∧ (c = false → EXR f rest σ₁)) : EXR f (.If test body [] pos :: rest) σ := fun O E s m N I hE => by
  refine wpAny_execs_cons (wpAny_If (wpAny_mono (h O E s m N I) (fun c s₁ p => ?_) fun _ _ e => e))
  obtain ⟨σ₁, h₁, t₁, N₁, rfl, I₁, E₁, q⟩ := p
  have hE' : ∀ e s', Out f N₁ { s with heap := h₁, toks := t₁ } e s' → E e s' := fun e s' x => hE e s' (x.more fun p hp => E₁ p hp (by rw [hW]; exact List.not_mem_nil))
  cases c with
  | true => exact wpAny_mono (q.1 rfl O E { s with heap := h₁, toks := t₁ } m N₁ I₁ hE') (fun _ _ (x : False) => x.elim) fun _ _ x => x
  | false => exact wpAny_execs_nil (wpAny_mono (q.2 rfl O E { s with heap := h₁, toks := t₁ } m N₁ I₁ hE') (fun _ _ (x : False) => x.elim) fun _ _ x => x)
end
section
def EVR (f : Fm) (e : PySem.Expr) (σ : Sto) : Prop :=
  f.Ok → ∀ (E : Value → Shared → Prop) (s : Shared) (m : Str → Option Value) (N : Led), Inv f s.heap m N σ → (∀ e s', Out f N s e s' → E e s') → wpAny (model f.prog f.w) f.A (eval e f.env) (fun _ _ => False) E s
theorem EVR.call {f : Fm} {σ : Sto} {x : Str} {np pos : Pos} {e : PySem.Expr} {es : List PySem.Expr} {fa : Addr} (hW : f.W = []) (hn : nsIn f.K mainGlobals x = some (some (.ref fa))) (hx : f.cs.names.lookup x = some .globalImplicit) (hk : keepIn f.K (.ref fa) = true)
    (h : EVs f pos (e :: es) σ fun avs σ₁ => ∃ need, need + 1 ≤ f.room ∧ RaiseS f.toGl need fa avs)
    (he : ∀ env, starEach (e :: es) env = (false, eval e env) :: starEach es env) (hplain : ∀ env, (backTo pos (starEach es env)).any (·.1) = false)
    (hc : ∀ env, eval (.Call (.Name x np) (e :: es) [] pos) env = (do let fv ← eval (.Name x np) env; callWith pos fv [] (backTo pos (starEach (e :: es) env)) (backToKw pos (keywordEach [] env)))) : EVR f (.Call (.Name x np) (e :: es) [] pos) σ := fun O E s m N I hE => by
  refine Call_ (nameX_K I.F O.X (topRead O) hn ?_ O.hk hx (O.dbg hx)) (hc _)
  refine callWith_K O.X hk (PostL.k (h O E s m N I) fun l σ₁ h₁ t₁ N₁ vs I₁ E₁ R₁ qq => ?_) (he _) (hplain _)
  obtain ⟨need, hr, sp⟩ := qq
  refine ⟨O.X.keeps I₁.F.keep, ?_⟩
  exact sp f rfl O hr E { s with heap := h₁, toks := t₁ } m N₁ vs I₁.F I₁.nw R₁ fun e s' x => hE e s' ((x.out O).more fun p hp => E₁ p hp (by rw [hW]; exact List.not_mem_nil))
theorem EXR.ret {f : Fm} {σ : Sto} {e : PySem.Expr} {pos : Pos} {rest : List Stmt} (h : EVR f e σ) : EXR f (.Return (some e) pos :: rest) σ := fun O E s m N I hE =>
  wpAny_execs_cons (wpAny_Return_some (wpAny_mono (h O E s m N I hE) (fun _ _ (x : False) => x.elim) fun _ _ e => e))
theorem EXR.unpack {f : Fm} {σ : Sto} {elts : List PySem.Expr} {k : Nat} {tp pos : Pos} {value : PySem.Expr} {rest : List Stmt} (h : EVR f value σ)
    (hs : ∀ env, swapsWithSole [.Tuple elts k tp] value pos.line env = pure false) (hw : swappedStores [.Tuple elts k tp] value f.env = pure none) : EXR f (.Assign [.Tuple elts k tp] value pos :: rest) σ := fun O E s m N I hE =>
  wpAny_execs_cons (Assign_Tuple (wpAny_mono (h O E s m N I hE) (fun _ _ (x : False) => x.elim) fun _ _ e => e) (hs _) hw)
end
section
def Strip (m e m' e' : Int) : Prop := (m = 0 ∧ m' = 0 ∧ e' = 0) ∨ (m' % 10 ≠ 0 ∧ ∃ k : Nat, m = m' * 10 ^ k ∧ e' = e + k)
theorem sp_strip_zeros (m e : Int) : SPEC (GG w mean mg mb) 1 99 [.int m, .int e] pen (fun r p => p = pen ∧ ∃ m' e', r = .tup [.int m', .int e'] ∧ Strip m e m' e') := by
  refine' SPEC.enter [Str.ofString "m", Str.ofString "e"] ?ho ?hcd ?hb ?hnd ?hlen ?hloc ?hco ?hgen ?hk ?hcell ?hdb ?h
  walk_at "in"
  repeat' walk_at "s"
  · refine ⟨rfl, 0, 0, rfl, .inl ⟨?_, rfl, rfl⟩⟩
    assumption
  rename_i hm
  refine E1.whileL (ι := Int × Int) (fun i => ⟨[(Str.ofString "m", .int i.1), (Str.ofString "e", .int i.2)], pen⟩) (fun k i => i.1.natAbs = k ∧ i.1 ≠ 0 ∧ ∃ j : Nat, m = i.1 * 10 ^ j ∧ i.2 = e + j) m.natAbs (m, e) (SeesS.of ⟨rfl, rfl, trivial⟩ rfl) ⟨rfl, hm, 0, by simp, by simp⟩ ?_
  rintro k ⟨i, c⟩ ⟨hk, h0, j, hj, he⟩
  dsimp only at hk h0 hj he ⊢
  repeat' walk_at "s"
  · rename_i hd
    refine ⟨(i / 10).natAbs, (i / 10, c + 1), by omega, ⟨rfl, by dsimp only; omega, j + 1, ?_, ?_⟩, SeesS.of ⟨rfl, rfl, trivial⟩ rfl⟩
    · dsimp only
      rw [hj, Int.pow_succ, ← Int.mul_assoc, Int.mul_right_comm, show i / 10 * 10 = i by omega]
    · dsimp only; omega
  · rename_i hd
    exact ⟨rfl, i, c, rfl, .inr ⟨hd, j, hj, he⟩⟩
end
section
theorem nd_mul_pow (n : Nat) (h : n ≠ 0) : ∀ k, nd (n * 10 ^ k) = nd n + k
  | 0 => by simp
  | k + 1 => by
    have hp : 0 < 10 ^ k := Nat.pow_pos (by decide)
    rw [nd_pos (by rw [Nat.pow_succ]; have := Nat.mul_pos (Nat.pos_of_ne_zero h) (Nat.mul_pos hp (show 0 < 10 by decide)); omega), Nat.pow_succ, ← Nat.mul_assoc, Nat.mul_div_cancel _ (by decide), nd_mul_pow n h k]
    omega
theorem natAbs_mul_pow (m : Int) (k : Nat) : (m * 10 ^ k).natAbs = m.natAbs * 10 ^ k := by
  rw [Int.natAbs_mul, Int.natAbs_pow]; rfl
theorem Strip.nd {m e m' e' : Int} (h : Strip m e m' e') (h0 : m ≠ 0) : m' ≠ 0 ∧ e' + (Mine.nd m'.natAbs : Nat) = e + (Mine.nd m.natAbs : Nat) := by
  rcases h with ⟨h, _, _⟩ | ⟨h, k, rfl, rfl⟩
  · exact absurd h h0
  · have hm : m' ≠ 0 := fun e => h (by rw [e]; rfl)
    refine ⟨hm, ?_⟩
    rw [natAbs_mul_pow, nd_mul_pow _ (by omega)]
    omega
theorem Strip.ne {m e m' e' : Int} (h : Strip m e m' e') (h0 : ¬ m' = 0) : m ≠ 0 := fun hm => by
  rcases h with ⟨_, h, _⟩ | ⟨_, k, h, _⟩
  · exact h0 h
  · rw [hm] at h
    rcases Int.mul_eq_zero.mp h.symm with h | h
    · exact h0 h
    · have := Int.pow_pos (n := 10) (m := k) (by decide)
      omega
theorem Strip.zero {m e m' e' : Int} (h : Strip m e m' e') (h0 : m' = 0) : Strip m e 0 0 := by
  rcases h with ⟨h, _, _⟩ | ⟨h, _⟩
  · exact .inl ⟨h, rfl, rfl⟩
  · exact absurd (by rw [h0]; rfl) h
theorem sp_round_digits (m e d : Int) (hd : (nd m.natAbs : Int) ≤ d) : SPEC (GG w mean mg mb) 2 106 [.int m, .int e, .int d] pen (fun r p => p = pen ∧ ∃ m' e', r = .tup [.int m', .int e'] ∧ Strip m e m' e') := by
  refine' SPEC.enter [Str.ofString "m", Str.ofString "e", Str.ofString "digits"] ?ho ?hcd ?hb ?hnd ?hlen ?hloc ?hco ?hgen ?hk ?hcell ?hdb ?h
  walk_at "in"
  repeat' walk_at "s"
  refine useSpecE (sp_count_digits m) rfl ?_
  repeat' walk_at "s"
  · omega
  refine useSpecS (sp_strip_zeros m e) rfl fun m' e' hs => ?_
  repeat' walk_at "s"
  exact ⟨rfl, m', e', rfl, hs⟩
theorem sp_round_real (m e d top : Int) (hd : (nd m.natAbs : Int) ≤ d) (hlo : m ≠ 0 → -top ≤ e + nd m.natAbs - 1) (hhi : m ≠ 0 → e + nd m.natAbs - 1 ≤ top) : SPEC (GG w mean mg mb) 3 113 [.int m, .int e, .int d, .int top] pen (fun r p => p = pen ∧ ∃ m' e', r = .tup [.int m', .int e'] ∧ Strip m e m' e') := by
  refine' SPEC.enter [Str.ofString "m", Str.ofString "e", Str.ofString "digits", Str.ofString "top"] ?ho ?hcd ?hb ?hnd ?hlen ?hloc ?hco ?hgen ?hk ?hcell ?hdb ?h
  walk_at "in"
  repeat' walk_at "s"
  refine useSpecS (sp_round_digits m e d hd) rfl fun m' e' hs => ?_
  repeat' walk_at "s"
  refine useSpecE (sp_count_digits m') rfl ?_
  repeat' walk_at "s"
  all_goals first
    | exact ⟨rfl, m', e', rfl, hs⟩
    | exact ⟨rfl, 0, 0, rfl, hs.zero (by assumption)⟩
    | (exfalso; have h1 := hs.ne (by assumption); have := hs.nd h1; have := hlo h1; have := hhi h1; omega)
abbrev limF : List (Str × Int) := [(Str.ofString "width", 32), (Str.ofString "real_digits", 40), (Str.ofString "double_digits", 40), (Str.ofString "top_exponent", 400)]
theorem sp_digits_of (kind : Int) : SPEC (GG w mean mg mb) 1 120 [.int kind, .obj 328 limF] pen (fun r p => p = pen ∧ r = .int 40) := by
  refine' SPEC.enter [Str.ofString "kind", Str.ofString "limits"] ?ho ?hcd ?hb ?hnd ?hlen ?hloc ?hco ?hgen ?hk ?hcell ?hdb ?h
  walk_at "in"
  repeat' walk_at "s"
  all_goals exact ⟨rfl, rfl⟩
end
section
theorem occ_one (l : List Nat) (c i : Nat) : StrLaws.At (T l) (T [c]) (T l).length i ↔ l[i]? = some c := by
  have := StrLaws.subAt_one (T l) c i
  unfold StrLaws.At
  simpa using this
theorem find_mem {l : List Nat} {c i : Nat} (h : l[i]? = some c) (hn : ∀ k, k < i → l[k]? ≠ some c) : Txt.find (T l) (T [c]) = i := by
  unfold Txt.find
  rcases StrLaws.occ_head (T l) (T [c]) 1 (by decide) with ⟨_, h0⟩ | ⟨j, r, e, hj, hk⟩
  · exact absurd ((occ_one l c i).mpr h) (h0 i)
  · rw [e]
    have hj' := (occ_one l c j).mp hj
    have : j = i := by
      rcases Nat.lt_trichotomy j i with h1 | h1 | h1
      · exact absurd hj' (hn j h1)
      · exact h1
      · exact absurd ((occ_one l c i).mpr h) (hk i h1)
    rw [this]
theorem find_no {l : List Nat} {c : Nat} (h : c ∉ l) : Txt.find (T l) (T [c]) = -1 := by
  unfold Txt.find
  rcases StrLaws.occ_head (T l) (T [c]) 1 (by decide) with ⟨e, _⟩ | ⟨j, r, e, hj, _⟩
  · rw [e]
  · exact absurd (List.mem_of_getElem? ((occ_one l c j).mp hj)) h
theorem find_split {a b : List Nat} {c : Nat} (h : c ∉ a) : Txt.find (T (a ++ c :: b)) (T [c]) = a.length :=
  find_mem (by simp) fun k hk e => h (by
    rw [List.getElem?_append_left hk] at e
    exact List.mem_of_getElem? e)
def figAt (c : Nat) : Int := if 48 ≤ c ∧ c ≤ 57 then (c : Int) - 48 else -1
theorem figs_at : ∀ k, k < 10 → figs[k]? = some (48 + k) := by decide
theorem figs_mem : ∀ c ∈ figs, 48 ≤ c ∧ c ≤ 57 := by decide
theorem find_figs (c : Nat) : Txt.find (T figs) (T [c]) = figAt c := by
  unfold figAt
  split
  · rename_i h
    have hc : 48 + (c - 48) = c := Nat.add_sub_cancel' h.1
    have hlt : c - 48 < 10 := Nat.sub_lt_left_of_lt_add h.1 (Nat.lt_succ_of_le h.2)
    rw [find_mem (i := c - 48) (by rw [figs_at _ hlt, hc]) fun k hk e => Nat.ne_of_lt hk (Nat.add_left_cancel ((Option.some.inj ((figs_at k (Nat.lt_trans hk hlt)).symm.trans e)).trans hc.symm))]
    exact Int.ofNat_sub h.1
  · rename_i h
    exact find_no fun hm => h (figs_mem c hm)
def solidStep (z : Bool) (out : List Nat) (c : Nat) : List Nat :=
  if c ≠ 32 then out ++ [c] else if z = true ∧ out ≠ [] ∧ out.getLast? ≠ some 69 ∧ out.getLast? ≠ some 68 then out ++ [48] else out
def solid (z : Bool) (l : List Nat) : List Nat := l.foldl (solidStep z) []
theorem sp_solid_field (l : List Nat) (z : Bool) (hl : l.length ≤ 1000) : SPEC (GG w mean mg mb) 1 128 [.str (T l), .bool z] pen (fun r p => p = pen ∧ r = .str (T (solid z l))) := by
  refine' SPEC.enter [Str.ofString "field", Str.ofString "is_zero"] ?ho ?hcd ?hb ?hnd ?hlen ?hloc ?hco ?hgen ?hk ?hcell ?hdb ?h
  walk_at "in"
  repeat' walk_at "s"
  refine E1.forStrL (ι := List Nat) (fun o => ⟨[(Str.ofString "out", .str (T o)), (Str.ofString "is_zero", .bool z)], pen⟩) (fun rest o => rest.foldl (solidStep z) o = solid z l ∧ o.length + rest.length ≤ 1000) ?_ (fun i σ' hs h => Fl.contSees hs h) (by intros; rfl) (by intros; rfl)
  repeat' walk_at "s"
  refine ⟨⟨[], SeesS.of ⟨rfl, rfl, trivial⟩ rfl, rfl, by simpa using hl⟩, ?_, ?_⟩
  · rintro c r o ⟨h1, h2⟩
    rw [List.length_cons] at h2
    repeat' walk_at "s"
    · rename_i hc
      refine ⟨o ++ [c], ⟨?_, by simp; omega⟩, SeesS.of ⟨rfl, rfl, trivial⟩ rfl⟩
      rw [← h1, List.foldl_cons, solidStep, if_pos (by simpa using hc)]
    · rename_i hc hz ho h69 h68
      refine ⟨o ++ [48], ⟨?_, by simp; omega⟩, SeesS.of ⟨rfl, rfl, trivial⟩ rfl⟩
      rw [← h1, List.foldl_cons, solidStep, if_neg (by simpa using hc), if_pos ⟨hz, ho, by rw [List.getLast?_eq_some_getLast ho]; simpa using h69, by rw [List.getLast?_eq_some_getLast ho]; simpa using h68⟩]
    all_goals
      refine ⟨o, ⟨?_, by omega⟩, SeesS.of ⟨rfl, rfl, trivial⟩ rfl⟩
      rw [← h1, List.foldl_cons, solidStep, if_neg (by simp_all)]
      rw [if_neg]
      rintro ⟨g1, g2, g3, g4⟩
      simp_all [List.getLast?_eq_some_getLast]
  · rintro o ⟨h1, h2⟩
    repeat' walk_at "s"
    exact ⟨rfl, by rw [← h1]; rfl⟩
def valStep (a : Nat) (c : Nat) : Nat := a * 10 + (c - 48)
def val (l : List Nat) : Nat := l.foldl valStep 0
def isFig (c : Nat) : Prop := 48 ≤ c ∧ c ≤ 57
theorem sp_whole_of (l : List Nat) (hl : l ≠ []) (hf : ∀ c ∈ l, isFig c) : SPEC (GG w mean mg mb) 1 135 [.str (T l)] pen (fun r p => p = pen ∧ r = .int (val l : Nat)) := by
  refine' SPEC.enter [Str.ofString "figures"] ?ho ?hcd ?hb ?hnd ?hlen ?hloc ?hco ?hgen ?hk ?hcell ?hdb ?h
  walk_at "in"
  repeat' walk_at "s"
  refine E1.forStrL (ι := Nat) (fun o => ⟨[(Str.ofString "number", .int (o : Nat)), (Str.ofString "figures", .str (T l))], pen⟩) (fun rest o => rest.foldl valStep o = val l ∧ ∀ c ∈ rest, isFig c) ?_ (fun i σ' hs h => Fl.contSees hs h) (by intros; rfl) (by intros; rfl)
  repeat' walk_at "s"
  refine ⟨⟨0, SeesS.of ⟨rfl, rfl, trivial⟩ rfl, rfl, hf⟩, ?_, ?_⟩
  · rintro c r o ⟨h1, h2⟩
    repeat' walk_at "s"
    · rename_i hc
      have := (h2 c (.head _)).1
      rw [find_figs, figAt, if_pos (show 48 ≤ c ∧ c ≤ 57 from h2 c (.head _))] at hc
      omega
    · refine ⟨valStep o c, ⟨h1, fun d hd => h2 d (.tail _ hd)⟩, SeesS.of ⟨congrArg some (congrArg AV.int ?_), rfl, trivial⟩ rfl⟩
      have := (h2 c (.head _)).1
      rw [find_figs, figAt, if_pos (show 48 ≤ c ∧ c ≤ 57 from h2 c (.head _)), valStep]
      omega
  · rintro o ⟨h1, h2⟩
    repeat' walk_at "s"
    · rename_i h; exact absurd h hl
    · exact ⟨rfl, by rw [← h1]; rfl⟩
theorem sp_whole_bad (l : List Nat) (a : Nat) (r : List Nat) (hl : l = a :: r) (hf : ¬ isFig a) : SPEC (GG w mean mg mb) 1 135 [.str (T l)] pen (fun r p => p = pen ∧ r = .int (-1)) := by
  refine' SPEC.enter [Str.ofString "figures"] ?ho ?hcd ?hb ?hnd ?hlen ?hloc ?hco ?hgen ?hk ?hcell ?hdb ?h
  walk_at "in"
  repeat' walk_at "s"
  refine E1.forStrL (ι := Unit) (fun o => ⟨[(Str.ofString "number", .int 0), (Str.ofString "figures", .str (T l))], pen⟩) (fun rest o => rest = l) ?_ (fun i σ' hs h => Fl.contSees hs h) (by intros; rfl) (by intros; rfl)
  repeat' walk_at "s"
  refine ⟨⟨(), SeesS.of ⟨rfl, rfl, trivial⟩ rfl, rfl⟩, ?_, ?_⟩
  · rintro c r o h1
    repeat' walk_at "s"
    · exact ⟨rfl, rfl⟩
    · rename_i hc
      rw [hl] at h1
      injection h1 with h1 _
      subst h1
      rw [find_figs, figAt, if_neg (show ¬ (48 ≤ c ∧ c ≤ 57) from hf)] at hc
      exact absurd (by decide) hc
  · rintro o h1
    rw [hl] at h1
    cases h1
end
section
theorem sp_cut_sign (l : List Nat) : SPEC (GG w mean mg mb) 1 142 [.str (T l)] pen (fun r p => p = pen ∧ r = .tup [.int (if l.take 1 = [45] then -1 else 1), .str (T (if l.take 1 = [45] ∨ l.take 1 = [43] then l.drop 1 else l))]) := by
  refine' SPEC.enter [Str.ofString "text"] ?ho ?hcd ?hb ?hnd ?hlen ?hloc ?hco ?hgen ?hk ?hcell ?hdb ?h
  walk_at "in"
  repeat' walk_at "s"
  all_goals (refine ⟨rfl, ?_⟩; simp [*])
def sgv (s : List Nat) : Int := if s = [45] then -1 else 1
def SignOf (s l : List Nat) : Prop := s = [45] ∨ s = [43] ∨ (s = [] ∧ ∀ c r, l = c :: r → c ≠ 45 ∧ c ≠ 43)
theorem sp_cut (s l : List Nat) (hs : SignOf s l) : SPEC (GG w mean mg mb) 1 142 [.str (T (s ++ l))] pen (fun r p => p = pen ∧ r = .tup [.int (sgv s), .str (T l)]) := by
  refine (sp_cut_sign (s ++ l)).mono ?_
  rintro a p ⟨rfl, rfl⟩
  refine ⟨rfl, ?_⟩
  rcases hs with rfl | rfl | ⟨rfl, h⟩
  · simp [sgv]
  · simp [sgv]
  · cases l with
    | nil => simp [sgv]
    | cons c r =>
      have := h c r rfl
      simp [sgv, this.1, this.2]
end
section
def isMark (c : Nat) : Prop := c = 69 ∨ c = 68 ∨ c = 43 ∨ c = 45
def cutTail : List Nat → List Nat
  | [] => []
  | c :: r => if c = 69 ∨ c = 68 then r else c :: r
theorem mark_at {a b : List Nat} {k c : Nat} (ha : ∀ c ∈ a, ¬ isMark c) (hk : k ≤ a.length) (hc : (a ++ b)[k]? = some c) (hm : isMark c) : k = a.length ∧ ∃ r, b = c :: r := by
  by_cases h : k < a.length
  · rw [List.getElem?_append_left h] at hc
    exact absurd hm (ha c (List.mem_of_getElem? hc))
  · have hk' : k = a.length := by omega
    subst hk'
    refine ⟨rfl, ?_⟩
    rw [List.getElem?_append_right (Nat.le_refl _), Nat.sub_self] at hc
    cases b with
    | nil => simp at hc
    | cons d r => exact ⟨r, by simpa using hc⟩
theorem no_mark_at {a b : List Nat} {k c : Nat} (hb : b = [] ∨ ∃ c r, b = c :: r ∧ isMark c) (hk : k ≤ a.length) (hc : (a ++ b)[k]? = some c) (hm : ¬ isMark c) : k + 1 ≤ a.length := by
  by_cases h : k < a.length
  · omega
  · exfalso
    have hk' : k = a.length := by omega
    subst hk'
    rw [List.getElem?_append_right (Nat.le_refl _), Nat.sub_self] at hc
    rcases hb with rfl | ⟨d, r, rfl, hd⟩
    · simp at hc
    · have : d = c := by simpa using hc
      exact hm (this ▸ hd)
theorem sp_cut_exponent (a b : List Nat) (ha : ∀ c ∈ a, ¬ isMark c) (hb : b = [] ∨ ∃ c r, b = c :: r ∧ isMark c) (hl : a.length + b.length ≤ 1000) :
    SPEC (GG w mean mg mb) 1 163 [.str (T (a ++ b))] pen (fun r p => p = pen ∧ r = .tup [.str (T a), .str (T (cutTail b)), .bool (!b.isEmpty)]) := by
  refine' SPEC.enter [Str.ofString "text"] ?ho ?hcd ?hb ?hnd ?hlen ?hloc ?hco ?hgen ?hk ?hcell ?hdb ?h
  walk_at "in"
  repeat' walk_at "s"
  refine E1.forRangeL (ι := Unit) (fun o => ⟨[(Str.ofString "text", .str (T (a ++ b)))], pen⟩) (fun k o => k ≤ a.length) (by with_unfolding_all rfl) rfl ?_ (fun i σ' hs h => Fl.contSees hs h) (by intros; rfl) (by intros; rfl) (by intros; rfl)
  repeat' walk_at "s"
  refine ⟨by rw [List.length_append]; omega, rfl, ⟨(), SeesS.of ⟨rfl, trivial⟩ rfl, Nat.zero_le _⟩, ?_, ?_⟩
  · rintro k _ hk hk'
    have ⟨c, hc⟩ : ∃ c, (a ++ b)[k]? = some c := ⟨_, List.getElem?_eq_getElem hk⟩
    repeat' walk_at "s"
    · refine ⟨(), no_mark_at hb hk' hc ?_, SeesS.of ⟨rfl, trivial⟩ rfl⟩
      simp_all [isMark]
    all_goals
      rename_i hm
      have hm' := List.head_eq_of_cons_eq hm
      obtain ⟨rfl, r, rfl⟩ := mark_at ha hk' hc (by subst hm'; simp [isMark])
      subst hm'
      exact ⟨rfl, by simp [cutTail]⟩
  · rintro o h1
    repeat' walk_at "s"
    have : b = [] := List.eq_nil_of_length_eq_zero (by rw [List.length_append] at h1; omega)
    subst this
    exact ⟨rfl, by simp [cutTail]⟩
theorem sp_cutexp_none (a : List Nat) (ha : ∀ c ∈ a, ¬ isMark c) (hl : a.length ≤ 1000) : SPEC (GG w mean mg mb) 1 163 [.str (T a)] pen (fun r p => p = pen ∧ r = .tup [.str (T a), .str (T []), .bool false]) := by
  have := sp_cut_exponent (w := w) (mean := mean) (mg := mg) (mb := mb) (pen := pen) a [] ha (.inl rfl) (by simpa using hl)
  rwa [List.append_nil] at this
theorem sp_cutexp_some (a r : List Nat) (c : Nat) (ha : ∀ c ∈ a, ¬ isMark c) (hc : c = 69 ∨ c = 68) (hl : a.length + r.length + 1 ≤ 1000) : SPEC (GG w mean mg mb) 1 163 [.str (T (a ++ c :: r))] pen (fun x p => p = pen ∧ x = .tup [.str (T a), .str (T r), .bool true]) := by
  refine (sp_cut_exponent (w := w) (mean := mean) (mg := mg) (mb := mb) (pen := pen) a (c :: r) ha (.inr ⟨c, r, rfl, by unfold isMark; omega⟩) (by simp; omega)).mono ?_
  rintro x p ⟨rfl, rfl⟩
  refine ⟨rfl, ?_⟩
  rw [cutTail, if_pos hc]
  rfl
theorem sp_field_exponent (sg l : List Nat) (hs : SignOf sg l) (hl : l ≠ []) (hf : ∀ c ∈ l, isFig c) :
    SPEC (GG w mean mg mb) 2 170 [.str (T (sg ++ l))] pen (fun r p => p = pen ∧ r = .int (sgv sg * (val l : Int))) := by
  refine' SPEC.enter [Str.ofString "text"] ?ho ?hcd ?hb ?hnd ?hlen ?hloc ?hco ?hgen ?hk ?hcell ?hdb ?h
  walk_at "in"
  repeat' walk_at "s"
  refine useSpecE (sp_cut sg l hs) rfl ?_
  repeat' walk_at "s"
  refine useSpecE (sp_whole_of l hl hf) rfl ?_
  have hmul : IntMulOk (sgv sg) (val l : Int) := IntMulOk.of_left (by unfold sgv; split <;> decide)
  repeat' walk_at "s"
  · exfalso; omega
  · exact ⟨rfl, rfl⟩
theorem sp_read_figures (a b : List Nat) (d : Int) (ha : ∀ c ∈ a, isFig c) (hb : ∀ c ∈ b, isFig c) (hn : a ++ b ≠ []) (hl : a.length + b.length ≤ 1000) :
    SPEC (GG w mean mg mb) 2 177 [.str (T (a ++ 46 :: b)), .int d] pen (fun r p => p = pen ∧ r = .tup [.int (val (a ++ b) : Nat), .int (b.length : Nat)]) := by
  have hpt : Txt.find (T (a ++ 46 :: b)) (T [46]) = (a.length : Int) := find_split fun h => by have := ha _ h; unfold isFig at this; omega
  refine' SPEC.enter [Str.ofString "text", Str.ofString "d"] ?ho ?hcd ?hb ?hnd ?hlen ?hloc ?hco ?hgen ?hk ?hcell ?hdb ?h
  walk_at "in"
  repeat' walk_at "s"
  all_goals rename_i hc
  all_goals rw [hpt] at hc
  · exfalso; omega
  rw [hpt]
  repeat' walk_at "s"
  rw [List.take_left, show List.drop (a.length + 1) (a ++ 46 :: b) = b from by rw [show a ++ 46 :: b = (a ++ [46]) ++ b from by simp]; exact List.drop_left' (by simp)]
  refine useSpecE (sp_whole_of (a ++ b) hn (fun c h => (List.mem_append.mp h).elim (ha c) (hb c))) rfl ?_
  repeat' walk_at "s"
  · exfalso; omega
  · refine ⟨rfl, ?_⟩
    rw [show ((a ++ 46 :: b).length : Int) - (a.length : Int) - 1 = (b.length : Int) from by simp; omega]
end
section
theorem sp_in_width (n : Int) (h1 : -2147483648 ≤ n) (h2 : n < 2147483648) : SPEC (GG w mean mg mb) 1 149 [.int n, .int 32] pen (fun r p => p = pen ∧ r = .bool true) := by
  refine' SPEC.enter [Str.ofString "number", Str.ofString "width"] ?ho ?hcd ?hb ?hnd ?hlen ?hloc ?hco ?hgen ?hk ?hcell ?hdb ?h
  walk_at "in"
  repeat' walk_at "s"
  refine ⟨_, o_shl (by decide) (by decide), ?_⟩
  repeat' walk_at "s"
  all_goals rename_i hc
  · exact ⟨rfl, congrArg AV.bool (decide_eq_true (by simpa using h2))⟩
  · exact absurd h1 (by simpa using hc)
theorem sp_read_int (l : List Nat) (z : Bool) (s ds : List Nat) (hl : l.length ≤ 1000) (he : solid z l = s ++ ds) (hs : SignOf s ds) (hd : ds ≠ []) (hf : ∀ c ∈ ds, isFig c) (hv : val ds < 2147483648) :
    SPEC (GG w mean mg mb) 3 156 [.str (T l), .bool z, .int 32] pen (fun r p => p = pen ∧ r = .int (sgv s * (val ds : Int))) := by
  refine' SPEC.enter [Str.ofString "field", Str.ofString "is_zero", Str.ofString "width"] ?ho ?hcd ?hb ?hnd ?hlen ?hloc ?hco ?hgen ?hk ?hcell ?hdb ?h
  walk_at "in"
  repeat' walk_at "s"
  refine useSpec (sp_solid_field l z hl) rfl ?_
  rw [he]
  rintro a p ⟨rfl, rfl⟩
  repeat' walk_at "s"
  · rename_i h
    exact absurd (List.append_eq_nil_iff.mp h).2 hd
  refine useSpecE (sp_cut s ds hs) rfl ?_
  repeat' walk_at "s"
  refine useSpecE (sp_whole_of ds hd hf) rfl ?_
  have hmul : IntMulOk (sgv s) (val ds : Int) := IntMulOk.of_left (by unfold sgv; split <;> decide)
  have hb : -2147483648 ≤ sgv s * (val ds : Int) ∧ sgv s * (val ds : Int) < 2147483648 := by unfold sgv; split <;> omega
  repeat' walk_at "s"
  · exfalso; omega
  refine useSpecE (sp_in_width _ hb.1 hb.2) rfl ?_
  repeat' walk_at "s"
  exact ⟨rfl, rfl⟩
theorem sp_read_int_nil (l : List Nat) (z : Bool) (hl : l.length ≤ 1000) (he : solid z l = []) :
    SPEC (GG w mean mg mb) 3 156 [.str (T l), .bool z, .int 32] pen (fun r p => p = pen ∧ r = .int 0) := by
  refine' SPEC.enter [Str.ofString "field", Str.ofString "is_zero", Str.ofString "width"] ?ho ?hcd ?hb ?hnd ?hlen ?hloc ?hco ?hgen ?hk ?hcell ?hdb ?h
  walk_at "in"
  repeat' walk_at "s"
  refine useSpec (sp_solid_field l z hl) rfl ?_
  rw [he]
  rintro a p ⟨rfl, rfl⟩
  repeat' walk_at "s"
  exact ⟨rfl, rfl⟩
theorem nd_le_of_lt : ∀ {k n : Nat}, n < 10 ^ k → nd n ≤ k
  | 0, n, h => by
    have : n = 0 := by simpa using h
    rw [this, nd_zero]; exact Nat.le_refl _
  | k + 1, n, h => by
    by_cases h0 : n = 0
    · rw [h0, nd_zero]; omega
    · rw [nd_pos h0]
      have := nd_le_of_lt (k := k) (n := n / 10) (by rw [Nat.pow_succ] at h; omega)
      omega
theorem val_lt : ∀ {l : List Nat} (a k : Nat), (∀ c ∈ l, isFig c) → a < 10 ^ k → l.foldl valStep a < 10 ^ (k + l.length)
  | [], a, k, _, h => h
  | c :: r, a, k, hf, h => by
    have hc := (hf c (.head _)).2
    have : valStep a c < 10 ^ (k + 1) := by
      unfold valStep
      rw [Nat.pow_succ]; omega
    have := val_lt (valStep a c) (k + 1) (fun d hd => hf d (.tail _ hd)) this
    rw [List.foldl_cons, List.length_cons, show k + (r.length + 1) = k + 1 + r.length from by omega]
    exact this
theorem val_lt_pow {l : List Nat} (hf : ∀ c ∈ l, isFig c) : val l < 10 ^ l.length := by
  have := val_lt (l := l) 0 0 hf (by decide)
  rw [Nat.zero_add] at this
  exact this
theorem nd_val {l : List Nat} (hf : ∀ c ∈ l, isFig c) : nd (val l) ≤ l.length := nd_le_of_lt (val_lt_pow hf)
theorem fig_not_mark {c : Nat} (h : isFig c) : ¬ isMark c := by unfold isFig at h; unfold isMark; omega
theorem fig_append {a b : List Nat} (ha : ∀ c ∈ a, isFig c) (hb : ∀ c ∈ b, isFig c) : ∀ c ∈ a ++ b, isFig c := fun c h => (List.mem_append.mp h).elim (ha c) (hb c)
structure RealField (z : Bool) (l s a b : List Nat) : Prop where
  len : l.length ≤ 1000
  sgn : SignOf s (a ++ 46 :: b)
  fa : ∀ c ∈ a, isFig c
  fb : ∀ c ∈ b, isFig c
  some : a ++ b ≠ []
  few : a.length + b.length ≤ 40
theorem natAbs_sgv (s : List Nat) (n : Nat) : (sgv s * (n : Int)).natAbs = n := by unfold sgv; split <;> omega
theorem RealField.noMark {z : Bool} {l s a b : List Nat} (F : RealField z l s a b) : ∀ c ∈ a ++ 46 :: b, ¬ isMark c := fun c h => by
  rcases List.mem_append.mp h with h | h
  · exact fig_not_mark (F.fa c h)
  · rcases List.mem_cons.mp h with rfl | h
    · unfold isMark; omega
    · exact fig_not_mark (F.fb c h)
theorem sp_read_real_plain (l : List Nat) (z : Bool) (s a b : List Nat) (d scale : Int) (F : RealField z l s a b) (he : solid z l = s ++ (a ++ 46 :: b)) (h1 : -100 ≤ scale) (h2 : scale ≤ 100) :
    SPEC (GG w mean mg mb) 4 184 [.str (T l), .int d, .int scale, .bool z, .int 40, .int 400] pen (fun r p => p = pen ∧ ∃ m' e', r = .tup [.int m', .int e'] ∧ Strip (sgv s * (val (a ++ b) : Int)) (-scale - b.length) m' e') := by
  have hfew := F.few
  refine' SPEC.enter [Str.ofString "field", Str.ofString "d", Str.ofString "scale", Str.ofString "is_zero", Str.ofString "digits", Str.ofString "top"] ?ho ?hcd ?hb ?hnd ?hlen ?hloc ?hco ?hgen ?hk ?hcell ?hdb ?h
  walk_at "in"
  repeat' walk_at "s"
  refine useSpec (sp_solid_field l z F.len) rfl ?_
  rw [he]
  rintro x p ⟨rfl, rfl⟩
  repeat' walk_at "s"
  · rename_i h
    simp at h
  refine useSpecE (sp_cut s (a ++ 46 :: b) F.sgn) rfl ?_
  repeat' walk_at "s"
  refine useSpecE (sp_cutexp_none (a ++ 46 :: b) F.noMark (by simp; omega)) rfl ?_
  repeat' walk_at "s"
  refine useSpecE (sp_read_figures a b d F.fa F.fb F.some (by omega)) rfl ?_
  have hmul : IntMulOk (sgv s) (val (a ++ b) : Int) := IntMulOk.of_left (by unfold sgv; split <;> decide)
  repeat' walk_at "s"
  have hnd := nd_val (fig_append F.fa F.fb)
  rw [List.length_append] at hnd
  refine useSpecS (sp_round_real _ _ 40 400 (by rw [natAbs_sgv]; omega) (fun _ => by rw [natAbs_sgv]; omega) (fun _ => by rw [natAbs_sgv]; omega)) rfl fun m' e' hs => ?_
  repeat' walk_at "s"
  exact ⟨rfl, m', e', rfl, hs⟩
theorem sp_read_real_exp (l : List Nat) (z : Bool) (s a b : List Nat) (c : Nat) (sg ex : List Nat) (d scale : Int) (F : RealField z l s a b) (hc : c = 69 ∨ c = 68) (hsg : SignOf sg ex) (hx : ex ≠ []) (hfx : ∀ c ∈ ex, isFig c) (hlx : ex.length ≤ 20)
    (hvx : val ex ≤ 200) (he : solid z l = s ++ (a ++ 46 :: b ++ c :: (sg ++ ex))) :
    SPEC (GG w mean mg mb) 4 184 [.str (T l), .int d, .int scale, .bool z, .int 40, .int 400] pen (fun r p => p = pen ∧ ∃ m' e', r = .tup [.int m', .int e'] ∧ Strip (sgv s * (val (a ++ b) : Int)) (sgv sg * (val ex : Int) - b.length) m' e') := by
  have hfew := F.few
  have hsgl : sg.length ≤ 1 := by rcases hsg with rfl | rfl | ⟨rfl, _⟩ <;> simp
  have hsn : SignOf s (a ++ 46 :: b ++ c :: (sg ++ ex)) := by
    rcases F.sgn with h | h | ⟨h, h'⟩
    · exact .inl h
    · exact .inr (.inl h)
    · refine .inr (.inr ⟨h, fun d r e => ?_⟩)
      cases a with
      | nil =>
        have e' : (46 : Nat) = d := (List.cons.inj e).1
        omega
      | cons a0 ar =>
        have e' : a0 = d := (List.cons.inj e).1
        have := F.fa a0 (.head _)
        unfold isFig at this
        omega
  refine' SPEC.enter [Str.ofString "field", Str.ofString "d", Str.ofString "scale", Str.ofString "is_zero", Str.ofString "digits", Str.ofString "top"] ?ho ?hcd ?hb ?hnd ?hlen ?hloc ?hco ?hgen ?hk ?hcell ?hdb ?h
  walk_at "in"
  repeat' walk_at "s"
  refine useSpec (sp_solid_field l z F.len) rfl ?_
  rw [he]
  rintro x p ⟨rfl, rfl⟩
  repeat' walk_at "s"
  · rename_i h
    simp at h
  refine useSpecE (sp_cut s (a ++ 46 :: b ++ c :: (sg ++ ex)) hsn) rfl ?_
  repeat' walk_at "s"
  refine useSpecE (sp_cutexp_some (a ++ 46 :: b) (sg ++ ex) c F.noMark hc (by simp; omega)) rfl ?_
  repeat' walk_at "s"
  refine useSpecE (sp_read_figures a b d F.fa F.fb F.some (by omega)) rfl ?_
  have hmul : IntMulOk (sgv s) (val (a ++ b) : Int) := IntMulOk.of_left (by unfold sgv; split <;> decide)
  repeat' walk_at "s"
  refine useSpecE (sp_field_exponent sg ex hsg hx hfx) rfl ?_
  repeat' walk_at "s"
  have hnd := nd_val (fig_append F.fa F.fb)
  rw [List.length_append] at hnd
  have hb : -200 ≤ sgv sg * (val ex : Int) ∧ sgv sg * (val ex : Int) ≤ 200 := by unfold sgv; split <;> omega
  refine useSpecS (sp_round_real _ _ 40 400 (by rw [natAbs_sgv]; omega) (fun _ => by rw [natAbs_sgv]; omega) (fun _ => by rw [natAbs_sgv]; omega)) rfl fun m' e' hs => ?_
  repeat' walk_at "s"
  exact ⟨rfl, m', e', rfl, hs⟩
end
section
section
local macro_rules | `(tactic| walk_at "and") => `(tactic| first
  | ((with_reducible refine' an_isF ?hc ?_); (case hc => assumption))
  | ((with_reducible refine' an_isT ?hc ?_); (case hc => assumption)))
theorem sp_read_logical_of (l : List Nat) (k c : Nat) (hc : c = 84 ∨ c = 70) (hl : l.length = k + 1) (h1 : ∀ i, i < k → l[i]? = some 32) (h2 : l[k]? = some c) (h3 : (l.drop k).take 1 = [c]) : SPEC (GG w mean mg mb) 1 191 [.str (T l)] pen (fun r p => p = pen ∧ r = .bool (c == 84)) := by
  refine' SPEC.enter [Str.ofString "field"] ?ho ?hcd ?hb ?hnd ?hlen ?hloc ?hco ?hgen ?hk ?hcell ?hdb ?h
  walk_at "in"
  repeat' walk_at "s"
  refine E1.whileL (ι := Nat) (fun i => ⟨[(Str.ofString "at", .int (i : Nat)), (Str.ofString "field", .str (T l))], pen⟩) (fun n i => i ≤ k ∧ k - i = n) k 0 (SeesS.of ⟨rfl, rfl, trivial⟩ rfl) ⟨Nat.zero_le _, rfl⟩ ?_
  rintro n i ⟨hi, hn⟩
  have hle : i < l.length := by rw [hl]; exact Nat.lt_succ_of_le hi
  have hlt : decide ((i : Int) < (l.length : Int)) = true := decide_eq_true (Int.ofNat_lt.mpr hle)
  have hle := Nat.le_of_lt hle
  rcases Nat.lt_or_eq_of_le hi with h | rfl
  · have hx := h1 i h
    repeat' walk_at "s"
    exact ⟨k - (i + 1), i + 1, hn ▸ Nat.sub_succ_lt_self k i h, ⟨h, rfl⟩, SeesS.of ⟨rfl, rfl, trivial⟩ rfl⟩
  · rcases hc with rfl | rfl
    · have e46 : ((l.drop i).take 1 == [46]) = false := by rw [h3]; decide
      have eT : ((l.drop i).take 1 == [84]) = true := by rw [h3]; decide
      repeat' walk_at "s"
      exact ⟨rfl, rfl⟩
    · have e46 : ((l.drop i).take 1 == [46]) = false := by rw [h3]; decide
      have eT : ((l.drop i).take 1 == [84]) = false := by rw [h3]; decide
      have eF : ((l.drop i).take 1 == [70]) = true := by rw [h3]; decide
      repeat' walk_at "s"
      exact ⟨rfl, rfl⟩
end
theorem sp_read_logical (k c : Nat) (hk : k ≤ 900) (hc : c = 84 ∨ c = 70) : SPEC (GG w mean mg mb) 1 191 [.str (T (List.replicate k 32 ++ [c]))] pen (fun r p => p = pen ∧ r = .bool (c == 84)) :=
  sp_read_logical_of _ k c hc (by rw [List.length_append, List.length_replicate]; rfl) (fun i h => by rw [List.getElem?_append_left (by rw [List.length_replicate]; exact h), List.getElem?_replicate, if_pos h]) (by rw [List.getElem?_append_right (by rw [List.length_replicate]; exact Nat.le_refl _), List.length_replicate, Nat.sub_self]; rfl) (by rw [List.drop_left' List.length_replicate]; rfl)
theorem sp_read_text_long (l : List Nat) (n : Nat) (h : n ≤ l.length) : SPEC (GG w mean mg mb) 1 198 [.str (T l), .int (n : Nat)] pen (fun r p => p = pen ∧ r = .str (T (l.drop (l.length - n)))) := by
  refine' SPEC.enter [Str.ofString "field", Str.ofString "length"] ?ho ?hcd ?hb ?hnd ?hlen ?hloc ?hco ?hgen ?hk ?hcell ?hdb ?h
  walk_at "in"
  repeat' walk_at "s"
  · refine ⟨l.length - n, congrArg AV.int (by omega), ?_⟩
    repeat' walk_at "s"
    exact ⟨rfl, rfl⟩
  all_goals (exfalso; omega)
theorem sp_read_text_short (l : List Nat) (n : Nat) (h : ¬ n ≤ l.length) (hn : n ≤ 1000) : SPEC (GG w mean mg mb) 1 198 [.str (T l), .int (n : Nat)] pen (fun r p => p = pen ∧ r = .str (T (l ++ List.replicate (n - l.length) 32))) := by
  refine' SPEC.enter [Str.ofString "field", Str.ofString "length"] ?ho ?hcd ?hb ?hnd ?hlen ?hloc ?hco ?hgen ?hk ?hcell ?hdb ?h
  walk_at "in"
  repeat' walk_at "s"
  · exfalso; omega
  · refine ⟨rfl, ?_⟩
    rw [show ((n : Int) - (l.length : Int)).toNat = n - l.length from Int.toNat_sub _ _]
end
section
local macro_rules | `(tactic| walk_at "and") => `(tactic| first
  | ((with_reducible refine' an_isF ?hc ?_); (case hc => assumption))
  | ((with_reducible refine' an_isT ?hc ?_); (case hc => assumption)))
local macro_rules | `(tactic| walk_at "TRs") => `(tactic| ((with_reducible refine' TRs.orK ?e ?g1 ?hx1 ?g2 ?hx2 ?hk ?_); (case e => rfl); (case g1 => walk_at "g int"); (case hx1 => rfl); (case g2 => walk_at "g int"); (case hx2 => rfl); (case hk => assumption)))
local macro_rules | `(tactic| walk_at "ex") => `(tactic| ((with_reducible refine' x_inTt ?hl ?hr ?_); (case hl => rfl); (case hr => assumption)))
theorem sp_rv_I {Q : AV → Pen → Prop} (rest : List AV) (ln sc : AV) (l : List Nat) (z : Bool) (h : SPEC (GG w mean mg mb) 3 156 [.str (T l), .bool z, .int 32] pen Q) :
    SPEC (GG w mean mg mb) 4 205 [.tup (.str (T [73]) :: rest), .int 0, ln, .str (T l), sc, .bool z, .obj 328 limF] pen Q := by
  refine' SPEC.enter [Str.ofString "item", Str.ofString "kind", Str.ofString "length", Str.ofString "field", Str.ofString "scale", Str.ofString "is_zero", Str.ofString "limits"] ?ho ?hcd ?hb ?hnd ?hlen ?hloc ?hco ?hgen ?hk ?hcell ?hdb ?h
  walk_at "in"
  repeat' walk_at "s"
  refine useSpec h rfl ?_
  intro a p hq
  repeat' walk_at "s"
  exact hq
theorem sp_rv_L {Q : AV → Pen → Prop} (rest : List AV) (ln sc : AV) (l : List Nat) (z : Bool) (h : SPEC (GG w mean mg mb) 1 191 [.str (T l)] pen Q) :
    SPEC (GG w mean mg mb) 4 205 [.tup (.str (T [76]) :: rest), .int 4, ln, .str (T l), sc, .bool z, .obj 328 limF] pen Q := by
  refine' SPEC.enter [Str.ofString "item", Str.ofString "kind", Str.ofString "length", Str.ofString "field", Str.ofString "scale", Str.ofString "is_zero", Str.ofString "limits"] ?ho ?hcd ?hb ?hnd ?hlen ?hloc ?hco ?hgen ?hk ?hcell ?hdb ?h
  walk_at "in"
  repeat' walk_at "s"
  refine useSpec h rfl ?_
  intro a p hq
  repeat' walk_at "s"
  exact hq
theorem sp_rv_A {Q : AV → Pen → Prop} (rest : List AV) (sc : AV) (l : List Nat) (n : Int) (z : Bool) (h : SPEC (GG w mean mg mb) 1 198 [.str (T l), .int n] pen Q) :
    SPEC (GG w mean mg mb) 4 205 [.tup (.str (T [65]) :: rest), .int 5, .int n, .str (T l), sc, .bool z, .obj 328 limF] pen Q := by
  refine' SPEC.enter [Str.ofString "item", Str.ofString "kind", Str.ofString "length", Str.ofString "field", Str.ofString "scale", Str.ofString "is_zero", Str.ofString "limits"] ?ho ?hcd ?hb ?hnd ?hlen ?hloc ?hco ?hgen ?hk ?hcell ?hdb ?h
  walk_at "in"
  repeat' walk_at "s"
  refine useSpec h rfl ?_
  intro a p hq
  repeat' walk_at "s"
  exact hq
theorem sp_rv_real {c : Nat} (hw : isRealW c) {Q : AV → Pen → Prop} (a1 : AV) (d : Int) (rest : List AV) (k : Int) (hk : k = 1 ∨ k = 2) (ln : AV) (sc : Int) (l : List Nat) (z : Bool)
    (h : SPEC (GG w mean mg mb) 4 184 [.str (T l), .int d, .int sc, .bool z, .int 40, .int 400] pen Q) :
    SPEC (GG w mean mg mb) 5 205 [.tup (.str (T [c]) :: a1 :: .int d :: rest), .int k, ln, .str (T l), .int sc, .bool z, .obj 328 limF] pen Q := by
  obtain ⟨w1, w2, w3, w4, w5, w6⟩ := hw.all
  refine' SPEC.enter [Str.ofString "item", Str.ofString "kind", Str.ofString "length", Str.ofString "field", Str.ofString "scale", Str.ofString "is_zero", Str.ofString "limits"] ?ho ?hcd ?hb ?hnd ?hlen ?hloc ?hco ?hgen ?hk ?hcell ?hdb ?h
  walk_at "in"
  repeat' walk_at "s"
  refine useSpecE (sp_digits_of _) rfl ?_
  repeat' walk_at "s"
  refine useSpec h rfl ?_
  intro a p hq
  repeat' walk_at "s"
  exact hq
end
section
theorem rs_read_int (l : List Nat) (z : Bool) (c : Nat) (r : List Nat) (hl : l.length ≤ 1000) (he : solid z l = c :: r) (hc : c = 42) : RaiseS (GG w mean mg mb) 7 156 [.str (T l), .bool z, .int 32] := by
  subst hc
  refine' RaiseS.enter [Str.ofString "field", Str.ofString "is_zero", Str.ofString "width"] ?ho ?hcd ?hb ?hnd ?hlen ?hloc ?hco ?hgen ?hk ?hcell ?hdb ?h
  walk_at "in"
  refine EXR.cons rfl ?_
  repeat' walk_at "s"
  refine useSpecE (sp_solid_field l z hl) rfl ?_
  rw [he]
  repeat' walk_at "s"
  refine ⟨rfl, ?_⟩
  refine EXR.ite rfl ?_
  repeat' walk_at "s"
  · exfalso; simp_all
  refine EXR.cons rfl ?_
  repeat' walk_at "s"
  refine useSpecE (sp_cut [] (42 :: r) (.inr (.inr ⟨rfl, fun c r e => by injection e with e1 e2; subst e1; exact ⟨by decide, by decide⟩⟩))) rfl ?_
  repeat' walk_at "s"
  refine ⟨rfl, ?_⟩
  refine EXR.cons rfl ?_
  repeat' walk_at "s"
  refine useSpecE (sp_whole_bad (42 :: r) 42 r rfl (by unfold isFig; omega)) rfl ?_
  repeat' walk_at "s"
  refine ⟨rfl, ?_⟩
  refine EXR.ite rfl ?_
  repeat' walk_at "s"
  · exact EXR.raise rfl (by show 6 ≤ 7; decide) (by decide) rfl rfl
end
section
theorem rs_read_figures (r : List Nat) (d : Int) (hfind : Txt.find (T (42 :: r)) (T [46]) = -1) (hl : r.length ≤ 900) : RaiseS (GG w mean mg mb) 7 177 [.str (T (42 :: r)), .int d] := by
  refine' RaiseS.enter [Str.ofString "text", Str.ofString "d"] ?ho ?hcd ?hb ?hnd ?hlen ?hloc ?hco ?hgen ?hk ?hcell ?hdb ?h
  walk_at "in"
  refine EXR.cons rfl ?_
  repeat' walk_at "s"
  rw [hfind]
  repeat' walk_at "s"
  refine ⟨rfl, ?_⟩
  refine EXR.cons rfl ?_
  repeat' walk_at "s"
  all_goals first
    | (exfalso; omega)
    | skip
  refine ⟨rfl, ?_⟩
  refine EXR.cons rfl ?_
  repeat' walk_at "s"
  refine useSpecE (sp_whole_bad (42 :: r) 42 r rfl (by unfold isFig; omega)) rfl ?_
  repeat' walk_at "s"
  refine ⟨rfl, ?_⟩
  refine EXR.ite rfl ?_
  repeat' walk_at "s"
  · exact EXR.raise rfl (by show 6 ≤ 7; decide) (by decide) rfl rfl
end
section
theorem rs_read_real (l : List Nat) (z : Bool) (r : List Nat) (d scale : Int) (hl : l.length ≤ 900) (he : solid z l = 42 :: r) (hr : r.length ≤ 900) (hm : ∀ c ∈ r, ¬ isMark c) (hfind : Txt.find (T (42 :: r)) (T [46]) = -1) : RaiseS (GG w mean mg mb) 8 184 [.str (T l), .int d, .int scale, .bool z, .int 40, .int 400] := by
  refine' RaiseS.enter [Str.ofString "field", Str.ofString "d", Str.ofString "scale", Str.ofString "is_zero", Str.ofString "digits", Str.ofString "top"] ?ho ?hcd ?hb ?hnd ?hlen ?hloc ?hco ?hgen ?hk ?hcell ?hdb ?h
  walk_at "in"
  refine EXR.cons rfl ?_
  repeat' walk_at "s"
  refine useSpecE (sp_solid_field l z (by omega)) rfl ?_
  rw [he]
  repeat' walk_at "s"
  refine ⟨rfl, ?_⟩
  refine EXR.ite rfl ?_
  repeat' walk_at "s"
  · exfalso; simp_all
  refine EXR.cons rfl ?_
  repeat' walk_at "s"
  refine useSpecE (sp_cut [] (42 :: r) (.inr (.inr ⟨rfl, fun c r e => by injection e with e1 e2; subst e1; exact ⟨by decide, by decide⟩⟩))) rfl ?_
  repeat' walk_at "s"
  refine ⟨rfl, ?_⟩
  refine EXR.cons rfl ?_
  repeat' walk_at "s"
  refine useSpecE (sp_cutexp_none (42 :: r) (fun c hc => by rcases List.mem_cons.mp hc with rfl | hc; exact (by unfold isMark; omega); exact hm c hc) (by simp; omega)) rfl ?_
  repeat' walk_at "s"
  refine ⟨rfl, ?_⟩
  refine' EXR.unpack ?hv ?hs ?hw
  case hw => rfl
  case hs => intros; rfl
  refine' EVR.call rfl ?hn ?hx ?hk ?hq ?he ?hplain ?hc
  case hn => exact glreadfigures
  case hx => rfl
  case hk => exact kp177
  case he => intros; rfl
  case hplain => intros; rfl
  case hc => intros; rfl
  repeat' walk_at "s"
  exact ⟨7, by show 8 ≤ 8; decide, rs_read_figures r d hfind hr⟩
end
section
local macro_rules | `(tactic| walk_at "and") => `(tactic| first
  | ((with_reducible refine' an_isF ?hc ?_); (case hc => assumption))
  | ((with_reducible refine' an_isT ?hc ?_); (case hc => assumption)))
local macro_rules | `(tactic| walk_at "TRs") => `(tactic| ((with_reducible refine' TRs.orK ?e ?g1 ?hx1 ?g2 ?hx2 ?hk ?_); (case e => rfl); (case g1 => walk_at "g int"); (case hx1 => rfl); (case g2 => walk_at "g int"); (case hx2 => rfl); (case hk => assumption)))
local macro_rules | `(tactic| walk_at "ex") => `(tactic| ((with_reducible refine' x_inTt ?hl ?hr ?_); (case hl => rfl); (case hr => assumption)))
theorem rs_rv_I (rest : List AV) (ln sc : AV) (l : List Nat) (z : Bool) (h : RaiseS (GG w mean mg mb) 7 156 [.str (T l), .bool z, .int 32]) :
    RaiseS (GG w mean mg mb) 8 205 [.tup (.str (T [73]) :: rest), .int 0, ln, .str (T l), sc, .bool z, .obj 328 limF] := by
  refine' RaiseS.enter [Str.ofString "item", Str.ofString "kind", Str.ofString "length", Str.ofString "field", Str.ofString "scale", Str.ofString "is_zero", Str.ofString "limits"] ?ho ?hcd ?hb ?hnd ?hlen ?hloc ?hco ?hgen ?hk ?hcell ?hdb ?h
  walk_at "in"
  refine EXR.cons rfl ?_
  repeat' walk_at "s"
  refine ⟨rfl, ?_⟩
  refine EXR.ite rfl ?_
  repeat' walk_at "s"
  refine EXR.ret ?_
  refine' EVR.call rfl ?rn ?rx ?rk ?rq ?re ?rp ?rc
  case rn => exact glreadint
  case rx => rfl
  case rk => exact kp156
  case re => intros; rfl
  case rp => intros; rfl
  case rc => intros; rfl
  repeat' walk_at "s"
  exact ⟨7, by show 8 ≤ 8; decide, h⟩
theorem rs_rv_real {c : Nat} (hw : isRealW c) (a1 : AV) (d : Int) (rest : List AV) (k : Int) (hk : k = 1 ∨ k = 2) (ln : AV) (sc : Int) (l : List Nat) (z : Bool) (h : RaiseS (GG w mean mg mb) 8 184 [.str (T l), .int d, .int sc, .bool z, .int 40, .int 400]) :
    RaiseS (GG w mean mg mb) 9 205 [.tup (.str (T [c]) :: a1 :: .int d :: rest), .int k, ln, .str (T l), .int sc, .bool z, .obj 328 limF] := by
  obtain ⟨w1, w2, w3, w4, w5, w6⟩ := hw.all
  refine' RaiseS.enter [Str.ofString "item", Str.ofString "kind", Str.ofString "length", Str.ofString "field", Str.ofString "scale", Str.ofString "is_zero", Str.ofString "limits"] ?ho ?hcd ?hb ?hnd ?hlen ?hloc ?hco ?hgen ?hk ?hcell ?hdb ?h
  walk_at "in"
  refine EXR.cons rfl ?_
  repeat' walk_at "s"
  refine ⟨rfl, ?_⟩
  refine EXR.ite rfl ?_
  repeat' walk_at "s"
  refine EXR.ite rfl ?_
  repeat' walk_at "s"
  refine EXR.ret (EVR.call rfl glreadreal rfl kp184 ?_ (by intros; rfl) (by intros; rfl) (by intros; rfl))
  repeat' walk_at "s"
  refine useSpecE (sp_digits_of _) rfl ?_
  repeat' walk_at "s"
  exact ⟨8, by show 9 ≤ 9; decide, h⟩
end
section
theorem round_half (n u : Nat) (hu : 0 < u) : (2 * n + u) / (2 * u) = n / u + (if u ≤ 2 * (n % u) then 1 else 0) := by
  have h := Nat.div_add_mod n u
  have hr := Nat.mod_lt n hu
  generalize n / u = q at h ⊢
  generalize n % u = r at h hr ⊢
  subst h
  rw [show 2 * (u * q + r) + u = (2 * r + u) + (2 * u) * q by rw [Nat.mul_add, Nat.mul_assoc]; omega, Nat.add_mul_div_left _ _ (by omega), Nat.add_comm]
  congr 1
  split
  · exact Nat.div_eq_of_lt_le (by omega) (by omega)
  · exact Nat.div_eq_of_lt (by omega)
theorem strip_neg {m e m' e' : Int} (h : m' % 10 ≠ 0) (k : Nat) (h1 : m = m' * 10 ^ k) (h2 : e' = e + k) : Strip (-m) e (-m') e' := .inr ⟨by omega, k, by rw [h1, Int.neg_mul], h2⟩
theorem sp_law_cut (m e unit : Int) (hm : m.natAbs < 10 ^ 18) (h1 : -100 ≤ e - unit) (h2 : e - unit ≤ 100) : SPEC (GG w mean mg mb) 1 372 [.tup [.int m, .int e], .int unit] pen (fun r p => p = pen ∧ ∃ m' e', r = .tup [.int m', .int e'] ∧ Strip (if 0 < m then (scaledN m.natAbs (e - unit) : Int) else -(scaledN m.natAbs (e - unit) : Int)) unit m' e') := by
  refine' SPEC.enter [Str.ofString "value", Str.ofString "unit"] ?ho ?hcd ?hb ?hnd ?hlen ?hloc ?hco ?hgen ?hk ?hcell ?hdb ?h
  walk_at "in"
  by_cases h0 : unit ≤ e
  · have hX : (m.natAbs : Int) * ((10 ^ (e - unit).toNat : Nat) : Int) = ((scaledN m.natAbs (e - unit) : Nat) : Int) := by rw [scaledN, if_pos (by omega), Int.natCast_mul]
    generalize scaledN m.natAbs (e - unit) = nn at *
    repeat' walk_at "s"
    · refine x_pow10 (by omega) (by omega) ?_
      refine ⟨_, o_mul (IntMulOk.of_left (intBits_small (Nat.lt_trans hm (by decide)))), ?_⟩
      rw [hX]
      repeat' walk_at "s"
      · exact ⟨rfl, 0, 0, rfl, .inl ⟨by split <;> omega, rfl, rfl⟩⟩
      · refine E1.whileL (ι := Int × Int) (fun i => ⟨[(Str.ofString "number", .int i.1), (Str.ofString "unit", .int i.2), (Str.ofString "m", .int m)], pen⟩) (fun k i => i.1.natAbs = k ∧ i.1 ≠ 0 ∧ ∃ j : Nat, (nn : Int) = i.1 * 10 ^ j ∧ i.2 = unit + j) (nn : Int).natAbs ((nn : Int), unit) (SeesS.of ⟨rfl, rfl, rfl, trivial⟩ rfl) ⟨rfl, by assumption, 0, by simp, by simp⟩ ?_
        rintro k ⟨i, c⟩ ⟨hk, h0', j, hj, he⟩
        dsimp only at hk h0' hj he ⊢
        repeat' walk_at "s"
        · rename_i hd
          refine ⟨(i / 10).natAbs, (i / 10, c + 1), hk ▸ div10_lt h0' hd, ⟨rfl, div10_ne h0' hd, j + 1, ?_, ?_⟩, SeesS.of ⟨rfl, rfl, rfl, trivial⟩ rfl⟩
          · dsimp only
            rw [hj, Int.pow_succ, ← Int.mul_assoc, Int.mul_right_comm, div10_mul hd]
          · exact step1 he
        · rename_i hd hpos
          rw [if_pos hpos]
          exact ⟨rfl, i, c, rfl, .inr ⟨hd, j, hj, he⟩⟩
        · rename_i hd hpos
          rw [if_neg hpos]
          exact ⟨rfl, -i, c, rfl, strip_neg hd j hj he⟩
    · exfalso; omega
  · have hp : 0 < 10 ^ (unit - e).toNat := Nat.pow_pos (by decide)
    have hp' : 10 ^ (unit - e).toNat ≤ 10 ^ 100 := pow10_lt (by omega)
    have hX : ((m.natAbs : Int) / ((10 ^ (unit - e).toNat : Nat) : Int) + (if decide (((10 ^ (unit - e).toNat : Nat) : Int) ≤ 2 * ((m.natAbs : Int) % ((10 ^ (unit - e).toNat : Nat) : Int))) = true then 1 else 0)) = ((scaledN m.natAbs (e - unit) : Nat) : Int) := by
      have hs : scaledN m.natAbs (e - unit) = (2 * m.natAbs + 10 ^ (-(e - unit)).toNat) / (2 * 10 ^ (-(e - unit)).toNat) := if_neg (by omega)
      rw [hs, show -(e - unit) = unit - e by omega, round_half _ _ hp]
      generalize 10 ^ (unit - e).toNat = u
      have e1 : decide ((u : Int) ≤ 2 * ((m.natAbs : Int) % (u : Int))) = decide (u ≤ 2 * (m.natAbs % u)) := by
        rw [← Int.natCast_emod]; apply decide_eq_decide.mpr; omega
      rw [e1, ← Int.natCast_ediv]
      by_cases hc : u ≤ 2 * (m.natAbs % u)
      · simp [hc]
      · simp [hc]
    generalize scaledN m.natAbs (e - unit) = nn at *
    generalize hu : 10 ^ (unit - e).toNat = u at *
    repeat' walk_at "s"
    · exfalso; omega
    · refine x_pow10 (by omega) (by omega) ?_
      rw [hu]
      have hu2 : (u : Int).natAbs < 10 ^ 102 := by rw [Int.natAbs_natCast]; exact Nat.lt_of_le_of_lt hp' (by decide)
      repeat' walk_at "s"
      refine x_pow10 (by omega) (by omega) ?_
      rw [hu]
      repeat' walk_at "s"
      all_goals rename_i hc
      all_goals rw [hX] at hc ⊢
      · exact ⟨rfl, 0, 0, rfl, .inl ⟨by split <;> omega, rfl, rfl⟩⟩
      · refine E1.whileL (ι := Int × Int) (fun i => ⟨[(Str.ofString "number", .int i.1), (Str.ofString "unit", .int i.2), (Str.ofString "m", .int m)], pen⟩) (fun k i => i.1.natAbs = k ∧ i.1 ≠ 0 ∧ ∃ j : Nat, (nn : Int) = i.1 * 10 ^ j ∧ i.2 = unit + j) (nn : Int).natAbs ((nn : Int), unit) (SeesS.of ⟨rfl, rfl, rfl, trivial⟩ rfl) ⟨rfl, by assumption, 0, by simp, by simp⟩ ?_
        rintro k ⟨i, c⟩ ⟨hk, h0', j, hj, he⟩
        dsimp only at hk h0' hj he ⊢
        repeat' walk_at "s"
        · rename_i hd
          refine ⟨(i / 10).natAbs, (i / 10, c + 1), hk ▸ div10_lt h0' hd, ⟨rfl, div10_ne h0' hd, j + 1, ?_, ?_⟩, SeesS.of ⟨rfl, rfl, rfl, trivial⟩ rfl⟩
          · dsimp only
            rw [hj, Int.pow_succ, ← Int.mul_assoc, Int.mul_right_comm, div10_mul hd]
          · exact step1 he
        · rename_i hd hpos
          rw [if_pos hpos]
          exact ⟨rfl, i, c, rfl, .inr ⟨hd, j, hj, he⟩⟩
        · rename_i hd hpos
          rw [if_neg hpos]
          exact ⟨rfl, -i, c, rfl, strip_neg hd j hj he⟩
end
section
def cutN (m k : Int) : Int := if 0 < m then (scaledN m.natAbs k : Int) else -(scaledN m.natAbs k : Int)
theorem cutN_zero {m k : Int} (h : m = 0) : cutN m k = 0 := by
  subst h
  have : scaledN (Int.natAbs 0) k = 0 := by
    unfold scaledN
    split
    · simp
    · have := Nat.pow_pos (n := (-k).toNat) (show 0 < 10 by decide)
      rw [Int.natAbs_zero, Nat.mul_zero, Nat.zero_add]
      exact Nat.div_eq_of_lt (by omega)
  rw [cutN, this]; rfl
theorem strip_shift {m e m' e' s : Int} (h : Strip m e m' e') : (m' ≠ 0 → Strip m (e - s) m' (e' - s)) ∧ (m' = 0 → Strip m (e - s) 0 0) := by
  rcases h with ⟨h1, h2, h3⟩ | ⟨h1, k, h2, h3⟩
  · subst h2; exact ⟨fun h => absurd rfl h, fun _ => .inl ⟨h1, rfl, rfl⟩⟩
  · exact ⟨fun _ => .inr ⟨h1, k, h2, by omega⟩, fun h0 => by subst h0; exact absurd rfl h1⟩
theorem sp_due_F (a1 : AV) (rest : List AV) (m e sc : Int) (d : Nat) (hm : m.natAbs < 10 ^ 18) (he : -30 ≤ e ∧ e ≤ 30) (hs : -5 ≤ sc ∧ sc ≤ 5) (hd : d ≤ 20) : SPEC (GG w mean mg mb) 3 379 [.tup (.str (T [70]) :: a1 :: .int (d : Nat) :: rest), .tup [.int m, .int e], .int sc] pen (fun r p => p = pen ∧ ∃ m' e', r = .tup [.int m', .int e'] ∧ Strip (cutN m (e - (-(d : Int) - sc))) (-(d : Int) - sc) m' e') := by
  have hl := dg_len (n := m.natAbs) (k := 18) (by decide) hm
  have hn200 : m.natAbs < 10 ^ 200 := Nat.lt_trans hm (by decide)
  refine' SPEC.enter [Str.ofString "item", Str.ofString "value", Str.ofString "scale"] ?ho ?hcd ?hb ?hnd ?hlen ?hloc ?hco ?hgen ?hk ?hcell ?hdb ?h
  walk_at "in"
  repeat' walk_at "s"
  · exact ⟨rfl, 0, 0, rfl, .inl ⟨cutN_zero (by assumption), rfl, rfl⟩⟩
  · refine useSpecS (sp_law_cut m e (-(d : Int) - sc) hm (by omega) (by omega)) rfl fun m' e' hst => ?_
    repeat' walk_at "s"
    exact ⟨rfl, m', e', rfl, hst⟩
theorem sp_due_E (a1 : AV) (rest : List AV) (m e sc : Int) (d : Nat) (hm : m.natAbs < 10 ^ 18) (he : -30 ≤ e ∧ e ≤ 30) (hs : -5 ≤ sc ∧ sc ≤ 5) (hd : d ≤ 20) : SPEC (GG w mean mg mb) 3 379 [.tup (.str (T [69]) :: a1 :: .int (d : Nat) :: rest), .tup [.int m, .int e], .int sc] pen (fun r p => p = pen ∧ ∃ m' e', r = .tup [.int m', .int e'] ∧ Strip (cutN m (e - ((((dg m.natAbs).length : Int) + e) - (if sc ≤ 0 then (d : Int) + sc else (d : Int) + 1)))) ((((dg m.natAbs).length : Int) + e) - (if sc ≤ 0 then (d : Int) + sc else (d : Int) + 1)) m' e') := by
  have hl := dg_len (n := m.natAbs) (k := 18) (by decide) hm
  have hn200 : m.natAbs < 10 ^ 200 := Nat.lt_trans hm (by decide)
  refine' SPEC.enter [Str.ofString "item", Str.ofString "value", Str.ofString "scale"] ?ho ?hcd ?hb ?hnd ?hlen ?hloc ?hco ?hgen ?hk ?hcell ?hdb ?h
  walk_at "in"
  repeat' walk_at "s"
  · exact ⟨rfl, 0, 0, rfl, .inl ⟨cutN_zero (by assumption), rfl, rfl⟩⟩
  all_goals
    refine useSpecS (sp_law_cut m e _ hm (by omega) (by omega)) rfl fun m' e' hst => ?_
    repeat' walk_at "s"
    exact ⟨rfl, m', e', rfl, by first | (rw [if_pos (by assumption)]; exact hst) | (rw [if_neg (by assumption)]; exact hst)⟩
theorem sp_due_D (a1 : AV) (rest : List AV) (m e sc : Int) (d : Nat) (hm : m.natAbs < 10 ^ 18) (he : -30 ≤ e ∧ e ≤ 30) (hs : -5 ≤ sc ∧ sc ≤ 5) (hd : d ≤ 20) : SPEC (GG w mean mg mb) 3 379 [.tup (.str (T [68]) :: a1 :: .int (d : Nat) :: rest), .tup [.int m, .int e], .int sc] pen (fun r p => p = pen ∧ ∃ m' e', r = .tup [.int m', .int e'] ∧ Strip (cutN m (e - ((((dg m.natAbs).length : Int) + e) - (if sc ≤ 0 then (d : Int) + sc else (d : Int) + 1)))) ((((dg m.natAbs).length : Int) + e) - (if sc ≤ 0 then (d : Int) + sc else (d : Int) + 1)) m' e') := by
  have hl := dg_len (n := m.natAbs) (k := 18) (by decide) hm
  have hn200 : m.natAbs < 10 ^ 200 := Nat.lt_trans hm (by decide)
  refine' SPEC.enter [Str.ofString "item", Str.ofString "value", Str.ofString "scale"] ?ho ?hcd ?hb ?hnd ?hlen ?hloc ?hco ?hgen ?hk ?hcell ?hdb ?h
  walk_at "in"
  repeat' walk_at "s"
  · exact ⟨rfl, 0, 0, rfl, .inl ⟨cutN_zero (by assumption), rfl, rfl⟩⟩
  all_goals
    refine useSpecS (sp_law_cut m e _ hm (by omega) (by omega)) rfl fun m' e' hst => ?_
    repeat' walk_at "s"
    exact ⟨rfl, m', e', rfl, by first | (rw [if_pos (by assumption)]; exact hst) | (rw [if_neg (by assumption)]; exact hst)⟩
theorem sp_due_Gx (a1 : AV) (rest : List AV) (m e sc : Int) (d : Nat) (hm : m.natAbs < 10 ^ 18) (he : -30 ≤ e ∧ e ≤ 30) (hs : -5 ≤ sc ∧ sc ≤ 5) (hd : d ≤ 20) (hg : genFix m e d = false) : SPEC (GG w mean mg mb) 3 379 [.tup (.str (T [71]) :: a1 :: .int (d : Nat) :: rest), .tup [.int m, .int e], .int sc] pen (fun r p => p = pen ∧ ∃ m' e', r = .tup [.int m', .int e'] ∧ Strip (cutN m (e - ((((dg m.natAbs).length : Int) + e) - (if sc ≤ 0 then (d : Int) + sc else (d : Int) + 1)))) ((((dg m.natAbs).length : Int) + e) - (if sc ≤ 0 then (d : Int) + sc else (d : Int) + 1)) m' e') := by
  have hl := dg_len (n := m.natAbs) (k := 18) (by decide) hm
  have hn200 : m.natAbs < 10 ^ 200 := Nat.lt_trans hm (by decide)
  refine' SPEC.enter [Str.ofString "item", Str.ofString "value", Str.ofString "scale"] ?ho ?hcd ?hb ?hnd ?hlen ?hloc ?hco ?hgen ?hk ?hcell ?hdb ?h
  walk_at "in"
  have hg' := of_decide_eq_false hg
  repeat' walk_at "s"
  · exact ⟨rfl, 0, 0, rfl, .inl ⟨cutN_zero (by assumption), rfl, rfl⟩⟩
  all_goals first
   | (exfalso; omega)
   | skip
  all_goals
    refine useSpecS (sp_law_cut m e _ hm (by omega) (by omega)) rfl fun m' e' hst => ?_
    repeat' walk_at "s"
    exact ⟨rfl, m', e', rfl, by first | (rw [if_pos (by assumption)]; exact hst) | (rw [if_neg (by assumption)]; exact hst)⟩
theorem sp_due_Gf (a1 : AV) (rest : List AV) (m e sc : Int) (d : Nat) (hm : m.natAbs < 10 ^ 18) (he : -30 ≤ e ∧ e ≤ 30) (hs : -5 ≤ sc ∧ sc ≤ 5) (hd : d ≤ 20) (hg : genFix m e d = true) : SPEC (GG w mean mg mb) 3 379 [.tup (.str (T [71]) :: a1 :: .int (d : Nat) :: rest), .tup [.int m, .int e], .int sc] pen (fun r p => p = pen ∧ ∃ m' e', r = .tup [.int m', .int e'] ∧ Strip (cutN m (e - ((((dg m.natAbs).length : Int) + e) - d))) (((((dg m.natAbs).length : Int) + e) - d) - sc) m' e') := by
  have hl := dg_len (n := m.natAbs) (k := 18) (by decide) hm
  have hn200 : m.natAbs < 10 ^ 200 := Nat.lt_trans hm (by decide)
  refine' SPEC.enter [Str.ofString "item", Str.ofString "value", Str.ofString "scale"] ?ho ?hcd ?hb ?hnd ?hlen ?hloc ?hco ?hgen ?hk ?hcell ?hdb ?h
  walk_at "in"
  have hg' := of_decide_eq_true hg
  repeat' walk_at "s"
  all_goals first
   | (exfalso; omega)
   | skip
  refine useSpecS (sp_law_cut m e _ hm (by omega) (by omega)) rfl fun m' e' hst => ?_
  have hsh := strip_shift (s := sc) hst
  repeat' walk_at "s"
  · rename_i h0
    exact ⟨rfl, _, _, rfl, hsh.1 h0⟩
  · rename_i h0
    exact ⟨rfl, _, _, rfl, hsh.2 (by omega)⟩
end
section
theorem val_dg (n : Nat) : val (dg n) = n := KIN.val_back n
theorem dg_fig (n : Nat) : ∀ c ∈ dg n, isFig c := fun c hc => by
  unfold dg at hc
  obtain ⟨ch, hch, e⟩ := List.mem_map.mp hc
  have r := digit_range (Nat.isDigit_of_mem_toDigits (by decide) (by decide) hch)
  rw [← e]; exact r
theorem val_go (l : List Nat) : ∀ k, l.foldl valStep k = k * 10 ^ l.length + val l := by
  induction l with
  | nil => intro k; simp [val]
  | cons c r ih =>
    intro k
    show r.foldl valStep (valStep k c) = _ * 10 ^ (r.length + 1) + r.foldl valStep (valStep 0 c)
    rw [ih, ih (valStep 0 c)]
    unfold valStep
    rw [Nat.add_mul, Nat.pow_succ, Nat.mul_assoc, Nat.mul_comm 10 (10 ^ r.length), Nat.zero_mul, Nat.zero_add]
    omega
theorem val_app (a b : List Nat) : val (a ++ b) = val a * 10 ^ b.length + val b := by
  unfold val; rw [List.foldl_append]; exact val_go b _
theorem val_zeros (k : Nat) : val (List.replicate k 48) = 0 := by
  induction k with
  | zero => rfl
  | succ k ih => rw [List.replicate_succ, show (48 :: List.replicate k 48) = [48] ++ List.replicate k 48 from rfl, val_app, ih]; simp [val, valStep]
theorem val_zeros_app (k : Nat) (l : List Nat) : val (List.replicate k 48 ++ l) = val l := by rw [val_app, val_zeros]; omega
theorem fig_zeros (k : Nat) : ∀ c ∈ List.replicate k 48, isFig c := fun c h => by rw [(List.mem_replicate.mp h).2]; unfold isFig; omega
theorem dg_lt (n : Nat) : n < 10 ^ (dg n).length := by
  have := Nat.length_toDigits_le_iff (b := 10) (n := n) (k := (dg n).length) (by decide) (by unfold dg; rw [List.length_map]; exact Nat.length_toDigits_pos)
  exact this.mp (by unfold dg; rw [List.length_map]; exact Nat.le_refl _)
theorem dg_pos (n : Nat) : 1 ≤ (dg n).length := by unfold dg; rw [List.length_map]; exact Nat.length_toDigits_pos
theorem dg_ne (n : Nat) : dg n ≠ [] := fun h => by have := dg_pos n; rw [h] at this; exact absurd this (by decide)
theorem dg_ge {n : Nat} (h : n ≠ 0) : 10 ^ ((dg n).length - 1) ≤ n := by
  rcases Nat.lt_or_ge n (10 ^ ((dg n).length - 1)) with q | q
  · by_cases h1 : (dg n).length - 1 = 0
    · rw [h1] at q; omega
    · have := dg_len (by omega) q
      have := dg_pos n
      omega
  · exact q
theorem dg_len_eq {n k : Nat} (h1 : 10 ^ k ≤ n) (h2 : n < 10 ^ (k + 1)) : (dg n).length = k + 1 := by
  have a := dg_len (by omega) h2
  have b := dg_lt n
  rcases Nat.lt_or_ge k (dg n).length with q | q
  · omega
  · have := Nat.pow_le_pow_right (show 0 < 10 by decide) q
    omega
theorem solid_go {z : Bool} : ∀ {t o : List Nat}, (∀ c ∈ t, c ≠ 32) → t.foldl (solidStep z) o = o ++ t
  | [], o, _ => by simp
  | c :: r, o, h => by
    show r.foldl (solidStep z) (solidStep z o c) = _
    have hc := h c (.head _)
    rw [show solidStep z o c = o ++ [c] from if_pos hc, solid_go fun d hd => h d (.tail _ hd), List.append_assoc]; rfl
theorem solid_nil {z : Bool} (n : Nat) : (List.replicate n 32).foldl (solidStep z) [] = [] := by
  induction n with
  | zero => rfl
  | succ n ih =>
    show (List.replicate n 32).foldl (solidStep z) (solidStep z [] 32) = []
    rw [show solidStep z [] 32 = [] from by simp [solidStep]]; exact ih
theorem solid_blank {z : Bool} (n : Nat) (t r : List Nat) (h : ∀ c ∈ t, c ≠ 32) : solid z (List.replicate n 32 ++ (t ++ r)) = r.foldl (solidStep z) t := by
  unfold solid
  rw [List.foldl_append, solid_nil, List.foldl_append, solid_go h, List.nil_append]
theorem solid_field (z : Bool) (n : Nat) (t : List Nat) (h : ∀ c ∈ t, c ≠ 32) : solid z (List.replicate n 32 ++ t) = t := by
  have := solid_blank (z := z) n t [] h
  rwa [List.append_nil] at this
theorem solid_back {z : Bool} (k : Nat) : ∀ (o : List Nat), o ≠ [] → o.getLast? ≠ some 69 → o.getLast? ≠ some 68 → (List.replicate k 32).foldl (solidStep z) o = if z = true then o ++ List.replicate k 48 else o := by
  induction k with
  | zero => intro o _ _ _; simp
  | succ k ih =>
    intro o h1 h2 h3
    show (List.replicate k 32).foldl (solidStep z) (solidStep z o 32) = _
    cases z with
    | true =>
      rw [show solidStep true o 32 = o ++ [48] from by simp [solidStep, h1, h2, h3], ih _ (by simp) (by simp) (by simp)]
      simp [List.replicate_succ]
    | false =>
      rw [show solidStep false o 32 = o from by simp [solidStep], ih _ h1 h2 h3]
      rfl
theorem field_cases (t : List Nat) (wd : Nat) : (wd < t.length ∧ fieldT t wd = List.replicate wd 42) ∨ (t.length ≤ wd ∧ fieldT t wd = List.replicate (wd - t.length) 32 ++ t) := by
  unfold fieldT
  by_cases h : wd < t.length
  · exact .inl ⟨h, if_pos h⟩
  · exact .inr ⟨by omega, if_neg h⟩
theorem not_stars {l : List Nat} {wd c : Nat} (h : c ∈ l) (hc : c ≠ 42) : l ≠ List.replicate wd 42 := fun e => hc ((List.mem_replicate.mp (e ▸ h)).2)
theorem pow10_uniq {a b : Int} {p q : Nat} (ha : a % 10 ≠ 0) (hb : b % 10 ≠ 0) (h : a * 10 ^ p = b * 10 ^ q) : a = b ∧ p = q := by
  have go : ∀ {a b : Int} {p r : Nat}, a % 10 ≠ 0 → a * 10 ^ p = b * 10 ^ (p + (r + 1)) → False := by
    intro a b p r ha h
    have hp : (10 : Int) ^ p ≠ 0 := Int.ne_of_gt (Int.pow_pos (by decide))
    rw [Nat.add_comm, Int.pow_add, ← Int.mul_assoc] at h
    have := Int.eq_of_mul_eq_mul_right hp h
    rw [Int.pow_succ, ← Int.mul_assoc] at this
    omega
  rcases Nat.lt_trichotomy p q with q' | q' | q'
  · exact (go (b := b) (p := p) (r := q - p - 1) ha (by rw [show p + (q - p - 1 + 1) = q by omega]; exact h)).elim
  · subst q'
    have hp : (10 : Int) ^ p ≠ 0 := Int.ne_of_gt (Int.pow_pos (by decide))
    exact ⟨Int.eq_of_mul_eq_mul_right hp h, rfl⟩
  · exact (go (b := a) (p := q) (r := p - q - 1) hb (by rw [show q + (p - q - 1 + 1) = p by omega]; exact h.symm)).elim
def Same (m e m' e' : Int) : Prop := ∃ k : Nat, m' = m * 10 ^ k ∧ e = e' + k
theorem strip_same {m e m' e' a b a' b' : Int} (h : Strip m e a b) (h' : Strip m' e' a' b') (s : Same m e m' e') : a = a' ∧ b = b' := by
  obtain ⟨k, hk, he⟩ := s
  rcases h with ⟨h1, rfl, rfl⟩ | ⟨h1, p, h2, h3⟩
  · rw [h1, Int.zero_mul] at hk
    rcases h' with ⟨_, rfl, rfl⟩ | ⟨g1, q, g2, _⟩
    · exact ⟨rfl, rfl⟩
    · rw [hk] at g2
      have hp : (10 : Int) ^ q ≠ 0 := Int.ne_of_gt (Int.pow_pos (by decide))
      have : a' = 0 := (Int.mul_eq_zero.mp g2.symm).resolve_right hp
      subst this
      exact absurd rfl g1
  · have hp : (10 : Int) ^ (p + k) ≠ 0 := Int.ne_of_gt (Int.pow_pos (by decide))
    rw [h2, Int.mul_assoc, ← Int.pow_add] at hk
    rcases h' with ⟨g1, _, _⟩ | ⟨g1, q, g2, g3⟩
    · rw [g1] at hk
      have : a = 0 := (Int.mul_eq_zero.mp hk.symm).resolve_right hp
      subst this
      exact absurd rfl h1
    · rw [g2] at hk
      obtain ⟨rfl, rfl⟩ := pow10_uniq h1 g1 hk.symm
      exact ⟨rfl, by omega⟩
theorem Same.refl (m e : Int) : Same m e m e := ⟨0, by simp, by simp⟩
theorem strip_ex : ∀ (n : Nat) (m e : Int), m.natAbs = n → ∃ a b, Strip m e a b := by
  intro n
  induction n using Nat.strongRecOn with
  | _ n ih =>
    intro m e hn
    by_cases h0 : m = 0
    · exact ⟨0, 0, .inl ⟨h0, rfl, rfl⟩⟩
    · by_cases h1 : m % 10 = 0
      · obtain ⟨a, b, h⟩ := ih (m / 10).natAbs (hn ▸ div10_lt h0 h1) (m / 10) (e + 1) rfl
        refine ⟨a, b, ?_⟩
        rcases h with ⟨h, _, _⟩ | ⟨h2, k, h3, h4⟩
        · omega
        · refine .inr ⟨h2, k + 1, ?_, by omega⟩
          rw [Int.pow_succ, ← Int.mul_assoc, ← h3]; omega
      · exact ⟨m, e, .inr ⟨h1, 0, by simp, by simp⟩⟩
end
section
theorem cutN_eq (m k : Int) (pl : Bool) : sgv (signT (decide (m < 0) && decide (0 < (scaledN m.natAbs k : Int))) pl) * (scaledN m.natAbs k : Int) = cutN m k := by
  by_cases h0 : m = 0
  · rw [cutN_zero h0]
    have h1 : scaledN m.natAbs k = 0 := by
      have := cutN_zero (k := k) h0
      unfold cutN at this
      rw [if_neg (by omega)] at this
      omega
    rw [h1]; simp
  · unfold cutN
    generalize scaledN m.natAbs k = n
    by_cases h1 : 0 < m
    · rw [if_pos h1]
      have : decide (m < 0) = false := decide_eq_false (by omega)
      rw [this, Bool.false_and]
      cases pl <;> simp [signT, sgv]
    · rw [if_neg h1]
      have : decide (m < 0) = true := decide_eq_true (by omega)
      rw [this, Bool.true_and]
      by_cases h2 : 0 < (n : Int)
      · rw [decide_eq_true h2]; simp [signT, sgv]
      · have : (n : Int) = 0 := by omega
        rw [this]; simp
theorem sgv_sign (m : Int) (pl : Bool) (h : m ≠ 0) (n : Int) : sgv (signT (decide (m < 0)) pl) * n = if 0 < m then n else -n := by
  by_cases h1 : 0 < m
  · rw [if_pos h1, decide_eq_false (by omega)]
    cases pl <;> simp [signT, sgv]
  · rw [if_neg h1, decide_eq_true (by omega)]; simp [signT, sgv]
theorem signOf_signT (m p : Bool) {t : List Nat} (h : ∀ c r, t = c :: r → c ≠ 45 ∧ c ≠ 43) : SignOf (signT m p) t := by
  cases m
  · cases p
    · exact .inr (.inr ⟨rfl, h⟩)
    · exact .inr (.inl rfl)
  · exact .inl rfl
theorem sign_ns (m p : Bool) : ∀ c ∈ signT m p, c ≠ 32 ∧ c ≠ 42 := fun c hc => by
  cases m <;> cases p <;> simp [signT] at hc <;> omega
theorem fig_head {t : List Nat} (h : ∀ c ∈ t, isFig c) : ∀ c r, t = c :: r → c ≠ 45 ∧ c ≠ 43 := fun c r e => by
  have := h c (e ▸ .head _)
  unfold isFig at this; omega
theorem pt_head {a b : List Nat} (h : ∀ c ∈ a, isFig c) : ∀ c r, a ++ 46 :: b = c :: r → c ≠ 45 ∧ c ≠ 43 := fun c r e => by
  cases a with
  | nil => have : (46 : Nat) = c := (List.cons.inj e).1; omega
  | cons x y => have : x = c := (List.cons.inj e).1; subst this; have := h x (.head _); unfold isFig at this; omega
theorem point_cases (s wh re : List Nat) (wd : Nat) : ∃ a, (a = wh ∨ (wh = [] ∧ a = [48])) ∧ a ++ re ≠ [] ∧ pointT s wh re wd = fieldT (s ++ (a ++ 46 :: re)) wd := by
  unfold pointT
  by_cases h1 : wh = [] ∧ re = []
  · exact ⟨[48], .inr ⟨h1.1, rfl⟩, by simp, by rw [if_pos h1]; simp⟩
  · rw [if_neg h1]
    by_cases h2 : wh = [] ∧ s.length + 2 + re.length ≤ wd
    · exact ⟨[48], .inr ⟨h2.1, rfl⟩, by simp, by rw [if_pos h2]; simp⟩
    · exact ⟨wh, .inl rfl, fun e => h1 (List.append_eq_nil_iff.mp e), by rw [if_neg h2, List.append_assoc]⟩
theorem val_a {a wh re : List Nat} (h : a = wh ∨ (wh = [] ∧ a = [48])) : val (a ++ re) = val (wh ++ re) := by
  rcases h with rfl | ⟨rfl, rfl⟩
  · rfl
  · exact val_zeros_app 1 re
theorem fig_a {a wh : List Nat} (h : a = wh ∨ (wh = [] ∧ a = [48])) (hf : ∀ c ∈ wh, isFig c) : ∀ c ∈ a, isFig c := by
  rcases h with rfl | ⟨rfl, rfl⟩
  · exact hf
  · exact fig_zeros 1
theorem fixDs_fig (n places : Nat) : ∀ c ∈ fixDs n places, isFig c := by
  unfold fixDs
  refine fig_append (fig_zeros _) ?_
  split
  · exact fun c h => nomatch h
  · exact dg_fig n
theorem fixDs_val (n places : Nat) : val (fixDs n places) = n := by
  unfold fixDs
  rw [val_zeros_app]
  split
  · rename_i h; rw [h]; rfl
  · exact val_dg n
theorem fixed_shape (m e : Int) (wd places : Nat) (scale : Int) (plus : Bool) : ∃ s a b, fixedT m e wd places scale plus = fieldT (s ++ (a ++ 46 :: b)) wd ∧ SignOf s (a ++ 46 :: b) ∧ (∀ c ∈ s, c ≠ 32 ∧ c ≠ 42) ∧ (∀ c ∈ a, isFig c) ∧ (∀ c ∈ b, isFig c) ∧ a ++ b ≠ [] ∧ b.length = places ∧ sgv s * (val (a ++ b) : Int) = cutN m (e + scale + places) := by
  unfold fixedT
  dsimp only
  have hn := cutN_eq m (e + scale + places) plus
  have hc : decide (0 < (scaledN m.natAbs (e + scale + places) : Int)) = decide (0 < scaledN m.natAbs (e + scale + places)) := by apply decide_eq_decide.mpr; omega
  rw [hc] at hn
  generalize scaledN m.natAbs (e + scale + places) = n at *
  obtain ⟨a, ha, hne, he⟩ := point_cases (signT (decide (m < 0) && decide (0 < n)) plus) ((fixDs n places).take ((fixDs n places).length - places)) ((fixDs n places).drop ((fixDs n places).length - places)) wd
  have hf := fixDs_fig n places
  have hfa := fig_a ha fun c hc => hf c (List.mem_of_mem_take hc)
  refine ⟨_, a, _, he, signOf_signT _ _ (pt_head hfa), sign_ns _ _, hfa, fun c hc => hf c (List.mem_of_mem_drop hc), hne, ?_, ?_⟩
  · rw [List.length_drop]; have := fixDs_ge n places; omega
  · rw [val_a ha, List.take_append_drop, fixDs_val]; exact hn
theorem pt_ns {s a b : List Nat} (hs : ∀ c ∈ s, c ≠ 32 ∧ c ≠ 42) (ha : ∀ c ∈ a, isFig c) (hb : ∀ c ∈ b, isFig c) : ∀ c ∈ s ++ (a ++ 46 :: b), c ≠ 32 := fun c hc => by
  rcases List.mem_append.mp hc with h | h
  · exact (hs c h).1
  · rcases List.mem_append.mp h with h | h
    · have := ha c h; unfold isFig at this; omega
    · rcases List.mem_cons.mp h with rfl | h
      · decide
      · have := hb c h; unfold isFig at this; omega
def RReal (w : World) (mean : ExcName → Option Value) (mg mb : Str → Option Value) (l : List Nat) (d sc : Int) (z : Bool) (V : Int × Int) : Prop :=
  ∀ pen, SPEC (GG w mean mg mb) 4 184 [.str (T l), .int d, .int sc, .bool z, .int 40, .int 400] pen (fun r p => p = pen ∧ r = .tup [.int V.1, .int V.2])
theorem rreal_plain (l : List Nat) (z : Bool) (s a b : List Nat) (d sc : Int) (F : RealField z l s a b) (he : solid z l = s ++ (a ++ 46 :: b)) (h1 : -100 ≤ sc) (h2 : sc ≤ 100) {m e : Int} {V : Int × Int} (hV : Strip m e V.1 V.2) (hs : Same m e (sgv s * (val (a ++ b) : Int)) (-sc - b.length)) : RReal w mean mg mb l d sc z V := fun pen =>
  (sp_read_real_plain l z s a b d sc F he h1 h2).mono fun r p ⟨hp, m', e', hr, st⟩ => by
    obtain ⟨x, y⟩ := strip_same hV st hs
    exact ⟨hp, by rw [hr, ← x, ← y]⟩
theorem rreal_fixed (m e : Int) (wd places : Nat) (sc : Int) (plus : Bool) (hw : wd ≤ 40) (h1 : -100 ≤ sc) (h2 : sc ≤ 100) (z : Bool) (d : Int) {V : Int × Int} (hV : Strip (cutN m (e + sc + places)) (-(places : Int) - sc) V.1 V.2) :
    fixedT m e wd places sc plus = List.replicate wd 42 ∨ (fixedT m e wd places sc plus ≠ List.replicate wd 42 ∧ RReal w mean mg mb (fixedT m e wd places sc plus) d sc z V) := by
  obtain ⟨s, a, b, he, hsg, hs, ha, hb, hne, hlb, hv⟩ := fixed_shape m e wd places sc plus
  rw [he]
  rcases field_cases (s ++ (a ++ 46 :: b)) wd with ⟨_, h⟩ | ⟨hle, h⟩
  · exact .inl h
  · refine .inr ⟨by rw [h]; exact not_stars (c := 46) (by simp) (by decide), ?_⟩
    have hlen : a.length + b.length ≤ 40 := by simp only [List.length_append, List.length_cons] at hle; omega
    rw [h]
    refine rreal_plain _ z s a b d sc ⟨by rw [List.length_append, List.length_replicate]; omega, hsg, ha, hb, hne, hlen⟩ (solid_field z _ _ (pt_ns hs ha hb)) h1 h2 hV ?_
    rw [hv, hlb, show -sc - (places : Int) = -(places : Int) - sc by omega]
    exact Same.refl _ _
theorem rreal_general (m e : Int) (wd places k : Nat) (sc : Int) (plus : Bool) (hw : wd + k ≤ 40) (h1 : -100 ≤ sc) (h2 : sc ≤ 100) (z : Bool) (d : Int) {V : Int × Int} (hV : Strip (cutN m (e + places)) (-(places : Int) - sc) V.1 V.2) :
    fixedT m e wd places 0 plus = List.replicate wd 42 ∨ ((fixedT m e wd places 0 plus).head? ≠ some 42 ∧ 46 ∈ fixedT m e wd places 0 plus ∧ RReal w mean mg mb (fixedT m e wd places 0 plus ++ List.replicate k 32) d sc z V) := by
  obtain ⟨s, a, b, he, hsg, hs, ha, hb, hne, hlb, hv⟩ := fixed_shape m e wd places 0 plus
  rw [he]
  rcases field_cases (s ++ (a ++ 46 :: b)) wd with ⟨_, h⟩ | ⟨hle, h⟩
  · exact .inl h
  · have hn42 : ∀ c ∈ List.replicate (wd - (s ++ (a ++ 46 :: b)).length) 32 ++ (s ++ (a ++ 46 :: b)), c ≠ 42 := fun c hc => by
      rcases List.mem_append.mp hc with hc | hc
      · rw [(List.mem_replicate.mp hc).2]; decide
      · rcases List.mem_append.mp hc with h | h
        · exact (hs c h).2
        · rcases List.mem_append.mp h with h | h
          · have := ha c h; unfold isFig at this; omega
          · rcases List.mem_cons.mp h with rfl | h
            · decide
            · have := hb c h; unfold isFig at this; omega
    rw [h]
    refine .inr ⟨fun q => hn42 42 (List.mem_of_mem_head? q) rfl, by simp, ?_⟩
    have hlen : a.length + b.length + k ≤ 40 := by simp only [List.length_append, List.length_cons] at hle; omega
    have hlast : (s ++ (a ++ 46 :: b)).getLast? ≠ some 69 ∧ (s ++ (a ++ 46 :: b)).getLast? ≠ some 68 := by
      have e1 : (s ++ (a ++ 46 :: b)).getLast? = (46 :: b).getLast? := by simp [List.getLast?_append, List.getLast?_cons]
      rw [e1]
      have all : ∀ c ∈ 46 :: b, c ≠ 69 ∧ c ≠ 68 := fun c hc => by
        rcases List.mem_cons.mp hc with rfl | hc
        · decide
        · have := hb c hc; unfold isFig at this; omega
      exact ⟨fun q => (all 69 (List.mem_of_getLast? q)).1 rfl, fun q => (all 68 (List.mem_of_getLast? q)).2 rfl⟩
    have hso : solid z (List.replicate (wd - (s ++ (a ++ 46 :: b)).length) 32 ++ (s ++ (a ++ 46 :: b)) ++ List.replicate k 32) = if z = true then s ++ (a ++ 46 :: b) ++ List.replicate k 48 else s ++ (a ++ 46 :: b) := by
      rw [List.append_assoc, solid_blank _ _ _ (pt_ns hs ha hb), solid_back k _ (by simp) hlast.1 hlast.2]
    have hl : (List.replicate (wd - (s ++ (a ++ 46 :: b)).length) 32 ++ (s ++ (a ++ 46 :: b)) ++ List.replicate k 32).length ≤ 1000 := by rw [List.length_append, List.length_append, List.length_replicate, List.length_replicate]; omega
    rw [Int.add_zero] at hv
    cases z with
    | true =>
      have hb' := fig_append hb (fig_zeros k)
      have hsg' : SignOf s (a ++ 46 :: (b ++ List.replicate k 48)) := by
        rcases hsg with h | h | ⟨h, _⟩
        · exact .inl h
        · exact .inr (.inl h)
        · exact .inr (.inr ⟨h, pt_head ha⟩)
      refine rreal_plain _ true s a (b ++ List.replicate k 48) d sc ⟨hl, hsg', ha, hb', by rw [← List.append_assoc]; exact fun q => hne (List.append_eq_nil_iff.mp q).1, by rw [List.length_append, List.length_replicate]; omega⟩ (by rw [hso]; simp) h1 h2 hV ⟨k, ?_, ?_⟩
      · rw [← List.append_assoc, val_app, val_zeros, List.length_replicate, ← hv, Nat.add_zero, Int.natCast_mul, Int.natCast_pow, ← Int.mul_assoc]; rfl
      · rw [List.length_append, List.length_replicate, hlb]; omega
    | false =>
      refine rreal_plain _ false s a b d sc ⟨hl, hsg, ha, hb, hne, by omega⟩ (by rw [hso]; simp) h1 h2 hV ?_
      rw [hv, hlb, show -sc - (places : Int) = -(places : Int) - sc by omega]
      exact Same.refl _ _
end
section
theorem scaled_bounds {n count : Nat} (h0 : n ≠ 0) (hc : 1 ≤ count) : 10 ^ (count - 1) ≤ scaledN n ((count : Int) - ((dg n).length : Int)) ∧ scaledN n ((count : Int) - ((dg n).length : Int)) ≤ 10 ^ count := by
  have h1 := dg_ge h0
  have h2 := dg_lt n
  have h3 := dg_pos n
  generalize (dg n).length = len at *
  unfold scaledN
  by_cases h : (0 : Int) ≤ (count : Int) - (len : Int)
  · rw [if_pos h, show ((count : Int) - (len : Int)).toNat = count - len from Int.toNat_sub _ _]
    have a := Nat.mul_le_mul_right (10 ^ (count - len)) h1
    have b := Nat.mul_le_mul_right (10 ^ (count - len)) (Nat.le_of_lt h2)
    rw [← Nat.pow_add] at a b
    rw [sub_up h3 (by omega)] at a
    rw [Nat.add_sub_cancel' (by omega)] at b
    exact ⟨a, b⟩
  · rw [if_neg h, show (-((count : Int) - (len : Int))).toNat = len - count by rw [Int.neg_sub]; exact Int.toNat_sub _ _]
    have hu : 0 < 10 ^ (len - count) := Nat.pow_pos (by decide)
    have e1 : 10 ^ (count - 1) * 10 ^ (len - count) = 10 ^ (len - 1) := by rw [← Nat.pow_add, sub_up hc (by omega)]
    have e2 : 10 ^ count * 10 ^ (len - count) = 10 ^ len := by rw [← Nat.pow_add, Nat.add_sub_cancel' (by omega)]
    generalize 10 ^ (len - count) = u at *
    constructor
    · rw [Nat.le_div_iff_mul_le (by omega)]
      generalize 10 ^ (count - 1) = x at *
      have : x * (2 * u) = 2 * (x * u) := by rw [← Nat.mul_assoc, Nat.mul_comm x 2, Nat.mul_assoc]
      omega
    · apply Nat.le_of_lt_succ
      rw [Nat.div_lt_iff_lt_mul (by omega)]
      generalize 10 ^ count = x at *
      have : (x + 1) * (2 * u) = 2 * (x * u) + 2 * u := by rw [Nat.add_mul, Nat.one_mul, ← Nat.mul_assoc, Nat.mul_comm x 2, Nat.mul_assoc]
      rw [Nat.succ_eq_add_one, this]
      omega
theorem val_one {c : Nat} (h : isFig c) : val [c] ≤ 9 := by
  unfold isFig at h
  simp [val, valStep]; omega
theorem lead_facts {m e : Int} {count : Nat} (hm : m ≠ 0) (hc : 1 ≤ count) : ∃ k : Nat, (leadT m e count).1.length = count ∧ (∀ c ∈ (leadT m e count).1, isFig c) ∧ scaledN m.natAbs ((count : Int) - ((dg m.natAbs).length : Int)) = val (leadT m e count).1 * 10 ^ k ∧ (leadT m e count).2 = ((dg m.natAbs).length : Int) + e + k := by
  obtain ⟨b1, b2⟩ := scaled_bounds (n := m.natAbs) (by omega) hc
  unfold leadT
  rw [if_neg hm]
  dsimp only
  generalize scaledN m.natAbs ((count : Int) - ((dg m.natAbs).length : Int)) = N at *
  have hN0 : N ≠ 0 := by have := Nat.pow_pos (n := count - 1) (show 0 < 10 by decide); omega
  have g1 := dg_ge hN0
  have g2 := dg_lt N
  by_cases h : count < (dg N).length
  · rw [if_pos h]
    have g3 := Nat.pow_le_pow_right (show 0 < 10 by decide) (show count ≤ (dg N).length - 1 by omega)
    have hN : N = 10 ^ count := by omega
    have hl : (dg N).length = count + 1 := dg_len_eq (by omega) (by rw [Nat.pow_succ]; have := Nat.pow_pos (n := count) (show 0 < 10 by decide); omega)
    refine ⟨1, by rw [List.length_take]; omega, fun c hc => dg_fig N c (List.mem_of_mem_take hc), ?_, by simp⟩
    obtain ⟨c, hcd⟩ : ∃ c, (dg N).drop count = [c] := List.length_eq_one_iff.mp (by rw [List.length_drop]; omega)
    have hv := val_dg N
    rw [← List.take_append_drop count (dg N), hcd, val_app] at hv
    have h9 := val_one (dg_fig N c (List.mem_of_mem_drop (hcd ▸ List.mem_singleton.mpr rfl)))
    have hm10 : N % 10 = 0 := by
      rw [hN, show count = count - 1 + 1 by omega, Nat.pow_succ]; exact Nat.mul_mod_left _ _
    rw [List.length_singleton, Nat.pow_one] at hv
    show N = val ((dg N).take count) * 10 ^ 1
    rw [Nat.pow_one]
    omega
  · rw [if_neg h]
    have hl : (dg N).length = count := by
      rcases Nat.lt_or_ge (count - 1) (dg N).length with q | q
      · omega
      · have := Nat.pow_le_pow_right (show 0 < 10 by decide) q
        omega
    exact ⟨0, hl, dg_fig N, by rw [val_dg]; omega, by simp⟩
theorem expo (p : Int) (k : Nat) (hp : p.natAbs < 100) (hk : k ≤ 10) : SignOf [if p < 0 then 45 else 43] (List.replicate (k - (dg p.natAbs).length) 48 ++ dg p.natAbs) ∧ (List.replicate (k - (dg p.natAbs).length) 48 ++ dg p.natAbs) ≠ [] ∧ (∀ c ∈ List.replicate (k - (dg p.natAbs).length) 48 ++ dg p.natAbs, isFig c) ∧ (List.replicate (k - (dg p.natAbs).length) 48 ++ dg p.natAbs).length ≤ 20 ∧ val (List.replicate (k - (dg p.natAbs).length) 48 ++ dg p.natAbs) ≤ 200 ∧ sgv [if p < 0 then 45 else 43] * (val (List.replicate (k - (dg p.natAbs).length) 48 ++ dg p.natAbs) : Int) = p := by
  have hd := dg_len (n := p.natAbs) (k := 2) (by decide) hp
  refine ⟨?_, fun h => dg_ne _ (List.append_eq_nil_iff.mp h).2, fig_append (fig_zeros _) (dg_fig _), by simp; omega, by rw [val_zeros_app, val_dg]; omega, ?_⟩
  · by_cases h : p < 0
    · rw [if_pos h]; exact .inl rfl
    · rw [if_neg h]; exact .inr (.inl rfl)
  · rw [val_zeros_app, val_dg]
    by_cases h : p < 0
    · rw [if_pos h]; simp [sgv]; omega
    · rw [if_neg h]; simp [sgv]; omega
abbrev expC (places : Nat) (sc : Int) : Int := if sc ≤ 0 then (places : Int) + sc else (places : Int) + 1
theorem exp_shape (letter : Nat) (m e : Int) (wd places k : Nat) (sc : Int) (plus : Bool) (hp : 2 ≤ places) (hs : -1 ≤ sc ∧ sc ≤ 2) (hk : k ≤ 10) (hpw : ((leadT m e (if sc ≤ 0 then (places + sc).toNat else places + 1)).2 - sc).natAbs < 100) :
    ∃ s a b sg ex, expF letter m e wd places k sc plus = fieldT (s ++ (a ++ 46 :: b ++ letter :: (sg ++ ex))) wd ∧ SignOf s (a ++ 46 :: b) ∧ (∀ c ∈ s, c ≠ 32 ∧ c ≠ 42) ∧ (∀ c ∈ a, isFig c) ∧ (∀ c ∈ b, isFig c) ∧ a ++ b ≠ [] ∧ SignOf sg ex ∧ (sg = [43] ∨ sg = [45]) ∧ ex ≠ [] ∧ (∀ c ∈ ex, isFig c) ∧ ex.length ≤ 20 ∧ val ex ≤ 200 ∧
      ((m = 0 ∧ val (a ++ b) = 0) ∨ Same (sgv s * (val (a ++ b) : Int)) (sgv sg * (val ex : Int) - b.length) (cutN m (e - (((dg m.natAbs).length : Int) + e - expC places sc))) (((dg m.natAbs).length : Int) + e - expC places sc)) := by
  obtain ⟨count, hcount, hC, hc1, hcs⟩ : ∃ count : Nat, (if sc ≤ 0 then (places + sc).toNat else places + 1) = count ∧ expC places sc = count ∧ 1 ≤ count ∧ (0 < sc → sc.toNat ≤ count) := by
    refine ⟨_, rfl, ?_, ?_, ?_⟩
    · unfold expC; split <;> omega
    · split <;> omega
    · intro h; rw [if_neg (by omega)]; omega
  unfold expF
  rw [hcount] at hpw ⊢
  dsimp only
  rw [hC]
  obtain ⟨hL1, hLf, hval⟩ : (leadT m e count).1.length = count ∧ (∀ c ∈ (leadT m e count).1, isFig c) ∧ ((m = 0 ∧ val (leadT m e count).1 = 0) ∨ ∃ kk : Nat, m ≠ 0 ∧ scaledN m.natAbs ((count : Int) - ((dg m.natAbs).length : Int)) = val (leadT m e count).1 * 10 ^ kk ∧ (leadT m e count).2 = ((dg m.natAbs).length : Int) + e + kk) := by
    by_cases h0 : m = 0
    · refine ⟨by simp [leadT, h0], ?_, .inl ⟨h0, ?_⟩⟩
      · rw [show (leadT m e count).1 = List.replicate count 48 by simp [leadT, h0]]; exact fig_zeros _
      · rw [show (leadT m e count).1 = List.replicate count 48 by simp [leadT, h0]]; exact val_zeros _
    · obtain ⟨kk, a, b, c, d⟩ := lead_facts (e := e) h0 hc1
      exact ⟨a, b, .inr ⟨kk, h0, c, d⟩⟩
  have hpn : (if m = 0 then (leadT m e count).2 else (leadT m e count).2 - sc).natAbs < 100 := by
    by_cases h0 : m = 0
    · rw [if_pos h0, show (leadT m e count).2 = 0 by simp [leadT, h0]]; decide
    · rw [if_neg h0]; exact hpw
  have hpe : m ≠ 0 → (if m = 0 then (leadT m e count).2 else (leadT m e count).2 - sc) = (leadT m e count).2 - sc := fun h => if_neg h
  generalize (if m = 0 then (leadT m e count).2 else (leadT m e count).2 - sc) = p at *
  obtain ⟨x1, x2, x3, x4, x5, x6⟩ := expo p k hpn hk
  have hsg : [if p < 0 then 45 else 43] = [43] ∨ [if p < 0 then 45 else 43] = [45] := by split <;> simp
  have hexp : expT letter p k = letter :: ([if p < 0 then 45 else 43] ++ (List.replicate (k - (dg p.natAbs).length) 48 ++ dg p.natAbs)) := rfl
  generalize [if p < 0 then 45 else 43] = sg at *
  generalize List.replicate (k - (dg p.natAbs).length) 48 ++ dg p.natAbs = ex at *
  have fin : ∀ wh b, (∀ c ∈ wh, isFig c) → (∀ c ∈ b, isFig c) → wh ++ b ≠ [] → val (wh ++ b) = val (leadT m e count).1 → (b.length : Int) = count - sc →
      ∃ s a b' sg' ex', pointT (signT (decide (m < 0)) plus) wh (b ++ expT letter p k) wd = fieldT (s ++ (a ++ 46 :: b' ++ letter :: (sg' ++ ex'))) wd ∧ SignOf s (a ++ 46 :: b') ∧ (∀ c ∈ s, c ≠ 32 ∧ c ≠ 42) ∧ (∀ c ∈ a, isFig c) ∧ (∀ c ∈ b', isFig c) ∧ a ++ b' ≠ [] ∧ SignOf sg' ex' ∧ (sg' = [43] ∨ sg' = [45]) ∧ ex' ≠ [] ∧ (∀ c ∈ ex', isFig c) ∧ ex'.length ≤ 20 ∧ val ex' ≤ 200 ∧
      ((m = 0 ∧ val (a ++ b') = 0) ∨ Same (sgv s * (val (a ++ b') : Int)) (sgv sg' * (val ex' : Int) - b'.length) (cutN m (e - (((dg m.natAbs).length : Int) + e - count))) (((dg m.natAbs).length : Int) + e - count)) := by
    intro wh b hwf hbf hne hv hbl
    obtain ⟨a, ha, _, he⟩ := point_cases (signT (decide (m < 0)) plus) wh (b ++ expT letter p k) wd
    have hfa := fig_a ha hwf
    have hva := val_a (re := b) ha
    have hane : a ++ b ≠ [] := by
      rcases ha with rfl | ⟨_, rfl⟩
      · exact hne
      · simp
    refine ⟨signT (decide (m < 0)) plus, a, b, sg, ex, ?_, signOf_signT _ _ (pt_head hfa), sign_ns _ _, hfa, hbf, hane, x1, hsg, x2, x3, x4, x5, ?_⟩
    · rw [he, hexp]; congr 1; simp
    · rw [hva, hv, x6]
      rcases hval with ⟨h0, h1⟩ | ⟨kk, h0, h1, h2⟩
      · exact .inl ⟨h0, h1⟩
      · refine .inr ⟨kk, ?_, ?_⟩
        · rw [show e - (((dg m.natAbs).length : Int) + e - count) = (count : Int) - ((dg m.natAbs).length : Int) by omega, sgv_sign m plus h0]
          unfold cutN
          rw [h1]
          split
          · rw [Int.natCast_mul, Int.natCast_pow]; rfl
          · rw [Int.natCast_mul, Int.natCast_pow, Int.neg_mul]; rfl
        · rw [hpe h0, h2, hbl]; omega
  by_cases hs0 : 0 < sc
  · rw [if_pos hs0]
    refine fin _ _ (fun c hc => hLf c (List.mem_of_mem_take hc)) (fun c hc => hLf c (List.mem_of_mem_drop hc)) ?_ ?_ ?_
    · rw [List.take_append_drop]; intro q; rw [q] at hL1; simp at hL1; omega
    · rw [List.take_append_drop]
    · rw [List.length_drop, hL1]; have := hcs hs0; omega
  · rw [if_neg hs0]
    refine fin [] _ (fun c h => nomatch h) (fig_append (fig_zeros _) hLf) ?_ ?_ ?_
    · intro q
      have := (List.append_eq_nil_iff.mp (List.append_eq_nil_iff.mp q).2).2
      rw [this] at hL1; simp at hL1; omega
    · rw [List.nil_append, val_zeros_app]
    · rw [List.length_append, List.length_replicate, hL1]; omega
theorem rreal_exp (letter : Nat) (hlt : letter = 69 ∨ letter = 68) (m e : Int) (wd places k : Nat) (sc : Int) (plus : Bool) (hp : 2 ≤ places) (hs : -1 ≤ sc ∧ sc ≤ 2) (hk : k ≤ 10) (hpw : ((leadT m e (if sc ≤ 0 then (places + sc).toNat else places + 1)).2 - sc).natAbs < 100) (hw : wd ≤ 40) (z : Bool) (d : Int) {V : Int × Int}
    (hV : Strip (cutN m (e - (((dg m.natAbs).length : Int) + e - expC places sc))) (((dg m.natAbs).length : Int) + e - expC places sc) V.1 V.2) :
    expF letter m e wd places k sc plus = List.replicate wd 42 ∨ (expF letter m e wd places k sc plus ≠ List.replicate wd 42 ∧ RReal w mean mg mb (expF letter m e wd places k sc plus) d sc z V) := by
  obtain ⟨s, a, b, sg, ex, he, hsg, hsn, ha, hb, hne, h1, h1', h2, h3, h4, h5, h6⟩ := exp_shape letter m e wd places k sc plus hp hs hk hpw
  rw [he]
  rcases field_cases (s ++ (a ++ 46 :: b ++ letter :: (sg ++ ex))) wd with ⟨_, h⟩ | ⟨hle, h⟩
  · exact .inl h
  · refine .inr ⟨by rw [h]; exact not_stars (c := 46) (by simp) (by decide), ?_⟩
    have hlen : a.length + b.length ≤ 40 := by simp only [List.length_append, List.length_cons] at hle; omega
    have hns : ∀ c ∈ s ++ (a ++ 46 :: b ++ letter :: (sg ++ ex)), c ≠ 32 := fun c hc => by
      rw [← List.append_assoc] at hc
      rcases List.mem_append.mp hc with h | h
      · exact pt_ns hsn ha hb c h
      · rcases List.mem_cons.mp h with rfl | h
        · omega
        · rcases List.mem_append.mp h with h | h
          · rcases h1' with rfl | rfl <;> (have := List.mem_singleton.mp h; omega)
          · have := h3 c h; unfold isFig at this; omega
    rw [h]
    intro pen
    refine (sp_read_real_exp _ z s a b letter sg ex d sc ⟨by rw [List.length_append, List.length_replicate]; omega, hsg, ha, hb, hne, hlen⟩ hlt h1 h2 h3 h4 h5 (solid_field z _ _ hns)).mono fun r p ⟨hp, m', e', hr, st⟩ => ?_
    have : V.1 = m' ∧ V.2 = e' := by
      rcases h6 with ⟨g1, g2⟩ | g
      · rw [g2] at st
        rw [cutN_zero g1] at hV
        rcases hV with ⟨_, y1, y2⟩ | ⟨y, kk, y1, _⟩
        · rcases st with ⟨_, z1, z2⟩ | ⟨z, kk, z1, _⟩
          · exact ⟨by omega, by omega⟩
          · exfalso
            have hp' : (10 : Int) ^ kk ≠ 0 := Int.ne_of_gt (Int.pow_pos (by decide))
            have : m' = 0 := (Int.mul_eq_zero.mp (by rw [← z1]; simp)).resolve_right hp'
            omega
        · exfalso
          have hp' : (10 : Int) ^ kk ≠ 0 := Int.ne_of_gt (Int.pow_pos (by decide))
          have : V.1 = 0 := (Int.mul_eq_zero.mp y1.symm).resolve_right hp'
          omega
      · obtain ⟨x, y⟩ := strip_same st hV g
        exact ⟨x.symm, y.symm⟩
    exact ⟨hp, by rw [hr, this.1, this.2]⟩
end
section
def ToldS (w : World) (mean : ExcName → Option Value) (mg mb : Str → Option Value) (item kind len : AV) (text : List Nat) (sc : Int) (z : Bool) (told : AV) : Prop :=
  (∃ V need, told = .tup [.str (T [111, 107]), V] ∧ need ≤ 9 ∧ SPEC (GG w mean mg mb) need 205 [item, kind, len, .str (T text), .int sc, .bool z, .obj 328 limF] none (fun r _ => r = V)) ∨
  (∃ need, told = .tup [.str (T [102, 97, 117, 108, 116]), .int 1] ∧ need ≤ 9 ∧ RaiseS (GG w mean mg mb) need 205 [item, kind, len, .str (T text), .int sc, .bool z, .obj 328 limF])
abbrev okT (V : AV) : AV := .tup [.str (T [111, 107]), V]
abbrev badT : AV := .tup [.str (T [102, 97, 117, 108, 116]), .int 1]
theorem find_none : ∀ n, n < 41 → Txt.find (T (42 :: List.replicate n 42)) (T [46]) = -1 := by decide +kernel
theorem solid_stars (z : Bool) (n : Nat) : solid z (List.replicate (n + 1) 42) = 42 :: List.replicate n 42 := by
  have := solid_field z 0 (List.replicate (n + 1) 42) (fun c h => by rw [(List.mem_replicate.mp h).2]; decide)
  rw [List.replicate_zero, List.nil_append] at this
  exact this
theorem rs_stars (n : Nat) (hn : n < 41) (z : Bool) (d sc : Int) : RaiseS (GG w mean mg mb) 8 184 [.str (T (List.replicate (n + 1) 42)), .int d, .int sc, .bool z, .int 40, .int 400] :=
  rs_read_real _ z (List.replicate n 42) d sc (by rw [List.length_replicate]; omega) (solid_stars z n) (by rw [List.length_replicate]; omega) (fun c h => by rw [(List.mem_replicate.mp h).2]; unfold isMark; omega) (find_none n hn)
theorem told_real {c : Nat} (hc : isRealW c) (a1 : AV) (d : Int) (rest : List AV) (k : Int) (hk : k = 1 ∨ k = 2) (ln : AV) (sc : Int) (l : List Nat) (wd : Nat) (hw : 1 ≤ wd ∧ wd ≤ 40) (z : Bool) (V : Int × Int)
    (h : l = List.replicate wd 42 ∨ (l ≠ List.replicate wd 42 ∧ RReal w mean mg mb l d sc z V)) :
    ToldS w mean mg mb (.tup (.str (T [c]) :: a1 :: .int d :: rest)) (.int k) ln l sc z (if l = List.replicate wd 42 then badT else okT (.tup [.int V.1, .int V.2])) := by
  rcases h with h | ⟨h, hr⟩
  · rw [if_pos h]
    obtain ⟨n, rfl⟩ : ∃ n, wd = n + 1 := ⟨wd - 1, by omega⟩
    subst h
    have hrs := rs_stars (w := w) (mean := mean) (mg := mg) (mb := mb) n (by omega) z d sc
    refine .inr ⟨9, rfl, Nat.le_refl _, ?_⟩
    exact rs_rv_real hc a1 d rest k hk ln sc _ z hrs
  · rw [if_neg h]
    have hq := (hr none).mono (Q' := fun r _ => r = .tup [.int V.1, .int V.2]) fun r p e => e.2
    refine .inl ⟨_, 5, rfl, by decide, ?_⟩
    exact sp_rv_real hc a1 d rest k hk ln sc l z hq
theorem told_int (v : Int) (wd least : Nat) (plus : Bool) (rest : List AV) (ln : AV) (sc : Int) (z : Bool) (hw : 1 ≤ wd ∧ wd ≤ 40) (hv : v.natAbs < 1000000) :
    ToldS w mean mg mb (.tup (.str (T [73]) :: rest)) (.int 0) ln (editInt v wd least plus) sc z (if editInt v wd least plus = List.replicate wd 42 then badT else okT (.int v)) := by
  obtain ⟨n, rfl⟩ : ∃ n, wd = n + 1 := ⟨wd - 1, by omega⟩
  have bad : ToldS w mean mg mb (.tup (.str (T [73]) :: rest)) (.int 0) ln (List.replicate (n + 1) 42) sc z badT :=
    .inr ⟨8, rfl, by decide, rs_rv_I rest ln (.int sc) _ z (rs_read_int _ z 42 (List.replicate n 42) (by rw [List.length_replicate]; omega) (solid_stars z n) rfl)⟩
  have good : ∀ l, (∀ pen, SPEC (GG w mean mg mb) 3 156 [.str (T l), .bool z, .int 32] pen (fun r p => p = pen ∧ r = .int v)) → ToldS w mean mg mb (.tup (.str (T [73]) :: rest)) (.int 0) ln l sc z (okT (.int v)) := fun l h =>
    .inl ⟨_, 4, rfl, by decide, sp_rv_I rest ln (.int sc) l z ((h none).mono fun r p e => e.2)⟩
  unfold editInt
  by_cases h0 : v = 0 ∧ least = 0
  · rw [if_pos h0]
    rw [if_neg (by rw [List.replicate_succ, List.replicate_succ]; intro q; exact absurd (List.cons.inj q).1 (by decide))]
    refine good _ fun pen => ?_
    have := sp_read_int_nil (w := w) (mean := mean) (mg := mg) (mb := mb) (pen := pen) (List.replicate (n + 1) 32) z (by rw [List.length_replicate]; omega) (solid_nil _)
    rw [h0.1]; exact this
  · rw [if_neg h0]
    rcases field_cases (signT (decide (v < 0)) plus ++ (List.replicate (least - (dg v.natAbs).length) 48 ++ dg v.natAbs)) (n + 1) with ⟨_, h⟩ | ⟨hle, h⟩
    · rw [h, if_pos rfl]; exact bad
    · have hf : ∀ c ∈ List.replicate (least - (dg v.natAbs).length) 48 ++ dg v.natAbs, isFig c := fig_append (fig_zeros _) (dg_fig _)
      have hne : List.replicate (least - (dg v.natAbs).length) 48 ++ dg v.natAbs ≠ [] := fun q => dg_ne _ (List.append_eq_nil_iff.mp q).2
      rw [h, if_neg ?_]
      · refine good _ fun pen => ?_
        have := sp_read_int (w := w) (mean := mean) (mg := mg) (mb := mb) (pen := pen) _ z (signT (decide (v < 0)) plus) _ (by rw [List.length_append, List.length_replicate]; omega) (solid_field z (n + 1 - (signT (decide (v < 0)) plus ++ (List.replicate (least - (dg v.natAbs).length) 48 ++ dg v.natAbs)).length) _ (fun c hc => ?_)) (signOf_signT _ _ (fig_head hf)) hne hf (by rw [val_zeros_app, val_dg]; omega)
        · rw [val_zeros_app, val_dg] at this
          have e : sgv (signT (decide (v < 0)) plus) * (v.natAbs : Int) = v := by
            by_cases h1 : v = 0
            · subst h1; simp
            · rw [sgv_sign v plus h1]; split <;> omega
          rw [e] at this
          exact this
        · rcases List.mem_append.mp hc with q | q
          · exact (sign_ns _ _ c q).1
          · have := hf c q; unfold isFig at this; omega
      · obtain ⟨c, hc⟩ := List.exists_mem_of_ne_nil _ hne
        have := hf c hc
        exact not_stars (c := c) (List.mem_append.mpr (.inr (List.mem_append.mpr (.inr hc)))) (by unfold isFig at this; omega)
theorem editInt_len (v : Int) (wd least : Nat) (plus : Bool) : (editInt v wd least plus).length = wd := by
  unfold editInt
  split
  · exact List.length_replicate
  · exact fieldT_len _ _
theorem told_logical (b : Bool) (wd : Nat) (hw : 1 ≤ wd ∧ wd ≤ 40) (rest : List AV) (ln : AV) (sc : Int) (z : Bool) :
    ToldS w mean mg mb (.tup (.str (T [76]) :: rest)) (.int 4) ln (fieldT [if b = true then 84 else 70] wd) sc z (okT (.bool b)) := by
  rcases field_cases [if b = true then 84 else 70] wd with ⟨h, _⟩ | ⟨hle, h⟩
  · rw [List.length_singleton] at h; omega
  · rw [h]
    refine .inl ⟨_, 4, rfl, by decide, sp_rv_L rest ln (.int sc) _ z ((sp_read_logical _ _ (by omega) (by cases b <;> simp)).mono fun r p e => ?_)⟩
    rw [e.2]; cases b <;> rfl
def dueA (t : List Nat) : Option Nat → List Nat
  | none => t
  | some wd => if wd < t.length then t.take wd ++ List.replicate (t.length - wd) 32 else t
theorem told_text (t : List Nat) (wd : Option Nat) (ht : t.length ≤ 40) (hw : ∀ n, wd = some n → n ≤ 40) (rest : List AV) (sc : Int) (z : Bool) :
    ToldS w mean mg mb (.tup (.str (T [65]) :: rest)) (.int 5) (.int (t.length : Nat)) (textT t wd) sc z (okT (.str (T (dueA t wd)))) := by
  have long : ∀ l, t.length ≤ l.length → ToldS w mean mg mb (.tup (.str (T [65]) :: rest)) (.int 5) (.int (t.length : Nat)) l sc z (okT (.str (T (l.drop (l.length - t.length))))) := fun l h =>
    .inl ⟨_, 4, rfl, by decide, sp_rv_A rest (.int sc) l _ z ((sp_read_text_long l t.length h).mono fun r p e => e.2)⟩
  cases wd with
  | none =>
    have := long t (Nat.le_refl _)
    rw [Nat.sub_self, List.drop_zero] at this
    exact this
  | some n =>
    have hn := hw n rfl
    show ToldS w mean mg mb _ _ _ (if n < t.length then t.take n else fieldT t n) sc z (okT (.str (T (if n < t.length then t.take n ++ List.replicate (t.length - n) 32 else t))))
    by_cases h : n < t.length
    · rw [if_pos h]
      have hl : (t.take n).length = n := by rw [List.length_take]; omega
      refine .inl ⟨_, 4, rfl, by decide, sp_rv_A rest (.int sc) _ _ z ((sp_read_text_short (t.take n) t.length (by omega) (by omega)).mono fun r p e => ?_)⟩
      rw [e.2, hl, if_pos h]
    · rw [if_neg h, if_neg h]
      rcases field_cases t n with ⟨q, _⟩ | ⟨hle, q⟩
      · omega
      · rw [q]
        have := long (List.replicate (n - t.length) 32 ++ t) (by rw [List.length_append]; omega)
        rw [List.length_append, List.length_replicate, Nat.add_sub_cancel, List.drop_left' List.length_replicate] at this
        exact this
theorem textT_len (t : List Nat) (wd : Option Nat) : (textT t wd).length = wd.getD t.length := by
  cases wd with
  | none => rfl
  | some n =>
    show (if n < t.length then t.take n else fieldT t n).length = n
    split
    · rw [List.length_take]; omega
    · exact fieldT_len _ _
end
section
theorem sp_draw {P : Addr} {n c : Int} (many : Nat) (h0 : 0 < many) (h1 : many ≤ 1000000) : SPEC (GG w mean mg mb) 1 346 [.val (.ref P), .int (many : Nat)] (some (P, n, c)) (fun r q => ∃ n' c' k, q = some (P, n', c') ∧ r = .int (k : Nat) ∧ k < many) := by
  have fin : ∀ a : Int, ∃ k : Nat, a % (many : Int) = k ∧ k < many := fun a => ⟨(a % (many : Int)).toNat, by rw [Int.toNat_of_nonneg (Int.emod_nonneg _ (by omega))], by have := Int.emod_lt_of_pos a (show (0 : Int) < many by omega); omega⟩
  refine' SPEC.enter [Str.ofString "pen", Str.ofString "many"] ?ho ?hcd ?hb ?hnd ?hlen ?hloc ?hco ?hgen ?hk ?hcell ?hdb ?h
  walk_at "in"
  repeat' walk_at "s"
  · obtain ⟨k, e, hk⟩ := fin (7919 * (c + 1) + 104729)
    exact ⟨_, _, k, rfl, congrArg AV.int e, hk⟩
  · obtain ⟨k, e, hk⟩ := fin n
    exact ⟨_, _, k, rfl, congrArg AV.int e, hk⟩
end
section
theorem sp_pickT {P : Addr} {n c : Int} (l : List AV) (h0 : 0 < l.length) (h1 : l.length ≤ 100) : SPEC (GG w mean mg mb) 2 353 [.val (.ref P), .tup l] (some (P, n, c)) (fun r q => (∃ n' c', q = some (P, n', c')) ∧ r ∈ l) := by
  refine' SPEC.enter [Str.ofString "pen", Str.ofString "some"] ?ho ?hcd ?hb ?hnd ?hlen ?hloc ?hco ?hgen ?hk ?hcell ?hdb ?h
  walk_at "in"
  have h2 : l.length ≤ 1000 := by omega
  repeat' walk_at "s"
  refine useSpecD (sp_draw l.length h0 (by omega)) rfl fun n' c' k hk => ?_
  obtain ⟨a, ha⟩ : ∃ a, l[k]? = some a := ⟨_, List.getElem?_eq_getElem hk⟩
  refine ⟨a, i_tup ha (by omega) (by intros; with_unfolding_all rfl), ?_⟩
  repeat' walk_at "s"
  exact ⟨⟨n', c', rfl⟩, List.mem_of_getElem? ha⟩
theorem sp_pickS {P : Addr} {n c : Int} (l : List Nat) (h0 : 0 < l.length) (h1 : l.length ≤ 100) : SPEC (GG w mean mg mb) 2 353 [.val (.ref P), .str (T l)] (some (P, n, c)) (fun r q => (∃ n' c', q = some (P, n', c')) ∧ ∃ x, x ∈ l ∧ r = .str (T [x])) := by
  refine' SPEC.enter [Str.ofString "pen", Str.ofString "some"] ?ho ?hcd ?hb ?hnd ?hlen ?hloc ?hco ?hgen ?hk ?hcell ?hdb ?h
  walk_at "in"
  repeat' walk_at "s"
  refine useSpecD (sp_draw l.length h0 (by omega)) rfl fun n' c' k hk => ?_
  obtain ⟨a, ha⟩ : ∃ a, l[k]? = some a := ⟨_, List.getElem?_eq_getElem hk⟩
  refine ⟨.str (T [a]), i_str ha (by intros; with_unfolding_all rfl) (by intros; with_unfolding_all rfl), ?_⟩
  repeat' walk_at "s"
  exact ⟨⟨n', c', rfl⟩, a, List.mem_of_getElem? ha, rfl⟩
end
section
inductive IsI : AV → Prop
  | mk (wd : Nat) (least : Option Nat) (h0 : 7 ≤ wd) (h1 : wd ≤ 18) (h2 : (∀ n, least = some n → n ≤ 4)) : IsI (.tup [.str (T [73]), .int (wd : Nat), optN least])
inductive IsE : AV → Prop
  | mk (wd d : Nat) (size : Option Nat) (h0 : 7 ≤ wd) (h1 : wd ≤ 18) (h2 : 2 ≤ d) (h3 : d ≤ 6) (h4 : (∀ n, size = some n → 2 ≤ n ∧ n ≤ 3)) : IsE (.tup [.str (T [69]), .int (wd : Nat), .int (d : Nat), optN size])
inductive IsG : AV → Prop
  | mk (wd d : Nat) (size : Option Nat) (h0 : 7 ≤ wd) (h1 : wd ≤ 18) (h2 : 2 ≤ d) (h3 : d ≤ 6) (h4 : (∀ n, size = some n → n = 2)) : IsG (.tup [.str (T [71]), .int (wd : Nat), .int (d : Nat), optN size])
inductive IsD : AV → Prop
  | mk (wd d : Nat) (h0 : 7 ≤ wd) (h1 : wd ≤ 18) (h2 : 2 ≤ d) (h3 : d ≤ 6) : IsD (.tup [.str (T [68]), .int (wd : Nat), .int (d : Nat)])
inductive IsL : AV → Prop
  | mk (wd : Nat) (h0 : 7 ≤ wd) (h1 : wd ≤ 18) : IsL (.tup [.str (T [76]), .int (wd : Nat)])
inductive IsF : AV → Prop
  | mk (wd d : Nat) (h0 : 7 ≤ wd) (h1 : wd ≤ 18) (h2 : d ≤ 6) : IsF (.tup [.str (T [70]), .int (wd : Nat), .int (d : Nat)])
inductive IsA : AV → Prop
  | mk (wd : Option Nat) (h0 : (∀ n, wd = some n → 1 ≤ n ∧ n ≤ 9)) : IsA (.tup [.str (T [65]), optN wd])
theorem mem4 {a b c d r : AV} (h : r ∈ [a, b, c, d]) : r = a ∨ r = b ∨ r = c ∨ r = d := by simpa using h
theorem mem3 {a b c r : AV} (h : r ∈ [a, b, c]) : r = a ∨ r = b ∨ r = c := by simpa using h
theorem mem2 {a b r : AV} (h : r ∈ [a, b]) : r = a ∨ r = b := by simpa using h
theorem sp_item_I {P : Addr} {n c : Int} : SPEC (GG w mean mg mb) 3 360 [.val (.ref P), .str (T [73])] (some (P, n, c)) (fun r q => (∃ n' c', q = some (P, n', c')) ∧ IsI r) := by
  refine' SPEC.enter [Str.ofString "pen", Str.ofString "word"] ?ho ?hcd ?hb ?hnd ?hlen ?hloc ?hco ?hgen ?hk ?hcell ?hdb ?h
  walk_at "in"
  repeat' walk_at "s"
  refine useSpecD (sp_draw 12 (by decide) (by decide)) rfl fun n1 c1 k1 hk1 => ?_
  repeat' walk_at "s"
  refine useSpecD (sp_draw 5 (by decide) (by decide)) rfl fun n2 c2 k2 hk2 => ?_
  repeat' walk_at "s"
  refine useSpecP (sp_pickT _ (Nat.le_of_ble_eq_true rfl) (Nat.le_of_ble_eq_true rfl)) rfl fun n3 c3 r hr => ?_
  rcases mem4 hr with rfl | rfl | rfl | rfl
  · repeat' walk_at "s"
    exact ⟨⟨_, _, rfl⟩, 7 + k1, none, by omega, by omega, (fun n e => nomatch e)⟩
  · repeat' walk_at "s"
    exact ⟨⟨_, _, rfl⟩, 7 + k1, some 0, by omega, by omega, (fun n e => by injection e with e; subst e; decide)⟩
  · repeat' walk_at "s"
    exact ⟨⟨_, _, rfl⟩, 7 + k1, some 1, by omega, by omega, (fun n e => by injection e with e; subst e; decide)⟩
  · repeat' walk_at "s"
    exact ⟨⟨_, _, rfl⟩, 7 + k1, some 4, by omega, by omega, (fun n e => by injection e with e; subst e; decide)⟩
theorem sp_item_E {P : Addr} {n c : Int} : SPEC (GG w mean mg mb) 3 360 [.val (.ref P), .str (T [69])] (some (P, n, c)) (fun r q => (∃ n' c', q = some (P, n', c')) ∧ IsE r) := by
  refine' SPEC.enter [Str.ofString "pen", Str.ofString "word"] ?ho ?hcd ?hb ?hnd ?hlen ?hloc ?hco ?hgen ?hk ?hcell ?hdb ?h
  walk_at "in"
  repeat' walk_at "s"
  refine useSpecD (sp_draw 12 (by decide) (by decide)) rfl fun n1 c1 k1 hk1 => ?_
  repeat' walk_at "s"
  refine useSpecD (sp_draw 5 (by decide) (by decide)) rfl fun n2 c2 k2 hk2 => ?_
  repeat' walk_at "s"
  refine useSpecP (sp_pickT _ (Nat.le_of_ble_eq_true rfl) (Nat.le_of_ble_eq_true rfl)) rfl fun n3 c3 r hr => ?_
  rcases mem3 hr with rfl | rfl | rfl
  · repeat' walk_at "s"
    exact ⟨⟨_, _, rfl⟩, 7 + k1, 2 + k2, none, by omega, by omega, by omega, by omega, (fun n e => nomatch e)⟩
  · repeat' walk_at "s"
    exact ⟨⟨_, _, rfl⟩, 7 + k1, 2 + k2, some 2, by omega, by omega, by omega, by omega, (fun n e => by injection e with e; subst e; decide)⟩
  · repeat' walk_at "s"
    exact ⟨⟨_, _, rfl⟩, 7 + k1, 2 + k2, some 3, by omega, by omega, by omega, by omega, (fun n e => by injection e with e; subst e; decide)⟩
theorem sp_item_G {P : Addr} {n c : Int} : SPEC (GG w mean mg mb) 3 360 [.val (.ref P), .str (T [71])] (some (P, n, c)) (fun r q => (∃ n' c', q = some (P, n', c')) ∧ IsG r) := by
  refine' SPEC.enter [Str.ofString "pen", Str.ofString "word"] ?ho ?hcd ?hb ?hnd ?hlen ?hloc ?hco ?hgen ?hk ?hcell ?hdb ?h
  walk_at "in"
  repeat' walk_at "s"
  refine useSpecD (sp_draw 12 (by decide) (by decide)) rfl fun n1 c1 k1 hk1 => ?_
  repeat' walk_at "s"
  refine useSpecD (sp_draw 5 (by decide) (by decide)) rfl fun n2 c2 k2 hk2 => ?_
  repeat' walk_at "s"
  refine useSpecP (sp_pickT _ (Nat.le_of_ble_eq_true rfl) (Nat.le_of_ble_eq_true rfl)) rfl fun n3 c3 r hr => ?_
  rcases mem2 hr with rfl | rfl
  · repeat' walk_at "s"
    exact ⟨⟨_, _, rfl⟩, 7 + k1, 2 + k2, none, by omega, by omega, by omega, by omega, (fun n e => nomatch e)⟩
  · repeat' walk_at "s"
    exact ⟨⟨_, _, rfl⟩, 7 + k1, 2 + k2, some 2, by omega, by omega, by omega, by omega, (fun n e => by injection e with e; exact e.symm)⟩
theorem sp_item_D {P : Addr} {n c : Int} : SPEC (GG w mean mg mb) 3 360 [.val (.ref P), .str (T [68])] (some (P, n, c)) (fun r q => (∃ n' c', q = some (P, n', c')) ∧ IsD r) := by
  refine' SPEC.enter [Str.ofString "pen", Str.ofString "word"] ?ho ?hcd ?hb ?hnd ?hlen ?hloc ?hco ?hgen ?hk ?hcell ?hdb ?h
  walk_at "in"
  repeat' walk_at "s"
  refine useSpecD (sp_draw 12 (by decide) (by decide)) rfl fun n1 c1 k1 hk1 => ?_
  repeat' walk_at "s"
  refine useSpecD (sp_draw 5 (by decide) (by decide)) rfl fun n2 c2 k2 hk2 => ?_
  repeat' walk_at "s"
  exact ⟨⟨_, _, rfl⟩, 7 + k1, 2 + k2, by omega, by omega, by omega, by omega⟩
theorem sp_item_L {P : Addr} {n c : Int} : SPEC (GG w mean mg mb) 3 360 [.val (.ref P), .str (T [76])] (some (P, n, c)) (fun r q => (∃ n' c', q = some (P, n', c')) ∧ IsL r) := by
  refine' SPEC.enter [Str.ofString "pen", Str.ofString "word"] ?ho ?hcd ?hb ?hnd ?hlen ?hloc ?hco ?hgen ?hk ?hcell ?hdb ?h
  walk_at "in"
  repeat' walk_at "s"
  refine useSpecD (sp_draw 12 (by decide) (by decide)) rfl fun n1 c1 k1 hk1 => ?_
  repeat' walk_at "s"
  refine useSpecD (sp_draw 5 (by decide) (by decide)) rfl fun n2 c2 k2 hk2 => ?_
  repeat' walk_at "s"
  exact ⟨⟨_, _, rfl⟩, 7 + k1, by omega, by omega⟩
theorem sp_item_F {P : Addr} {n c : Int} : SPEC (GG w mean mg mb) 3 360 [.val (.ref P), .str (T [70])] (some (P, n, c)) (fun r q => (∃ n' c', q = some (P, n', c')) ∧ IsF r) := by
  refine' SPEC.enter [Str.ofString "pen", Str.ofString "word"] ?ho ?hcd ?hb ?hnd ?hlen ?hloc ?hco ?hgen ?hk ?hcell ?hdb ?h
  walk_at "in"
  repeat' walk_at "s"
  refine useSpecD (sp_draw 12 (by decide) (by decide)) rfl fun n1 c1 k1 hk1 => ?_
  repeat' walk_at "s"
  refine useSpecD (sp_draw 5 (by decide) (by decide)) rfl fun n2 c2 k2 hk2 => ?_
  repeat' walk_at "s"
  refine useSpecD (sp_draw 7 (by decide) (by decide)) rfl fun n3 c3 k3 hk3 => ?_
  repeat' walk_at "s"
  exact ⟨⟨_, _, rfl⟩, 7 + k1, k3, by omega, by omega, by omega⟩
theorem sp_item_A {P : Addr} {n c : Int} : SPEC (GG w mean mg mb) 3 360 [.val (.ref P), .str (T [65])] (some (P, n, c)) (fun r q => (∃ n' c', q = some (P, n', c')) ∧ IsA r) := by
  refine' SPEC.enter [Str.ofString "pen", Str.ofString "word"] ?ho ?hcd ?hb ?hnd ?hlen ?hloc ?hco ?hgen ?hk ?hcell ?hdb ?h
  walk_at "in"
  repeat' walk_at "s"
  refine useSpecD (sp_draw 12 (by decide) (by decide)) rfl fun n1 c1 k1 hk1 => ?_
  repeat' walk_at "s"
  refine useSpecD (sp_draw 5 (by decide) (by decide)) rfl fun n2 c2 k2 hk2 => ?_
  repeat' walk_at "s"
  refine useSpecD (sp_draw 9 (by decide) (by decide)) rfl fun n3 c3 k3 hk3 => ?_
  repeat' walk_at "s"
  refine useSpecP (sp_pickT _ (Nat.le_of_ble_eq_true rfl) (Nat.le_of_ble_eq_true rfl)) rfl fun n4 c4 r hr => ?_
  rcases mem2 hr with rfl | rfl
  · repeat' walk_at "s"
    exact ⟨⟨_, _, rfl⟩, none, (fun n e => nomatch e)⟩
  · repeat' walk_at "s"
    exact ⟨⟨_, _, rfl⟩, some (1 + k3), (fun n e => by injection e with e; omega)⟩
end
section
local macro_rules | `(tactic| walk_at "and") => `(tactic| first
  | ((with_reducible refine' an_isF ?hc ?_); (case hc => assumption))
  | ((with_reducible refine' an_isT ?hc ?_); (case hc => assumption)))
def RealOk (m e : Int) : Prop := m.natAbs < 1000000 ∧ ((m = 0 ∧ e = 0) ∨ (m % 10 ≠ 0 ∧ -9 ≤ e ∧ e ≤ 9))
inductive VaI : AV → Prop
  | mk (v : Int) (h0 : -200000 ≤ v) (h1 : v < 800000) : VaI (.tup [.int 0, .int v, .int 0])
inductive VaL : AV → Prop
  | mk (b : Bool)  : VaL (.tup [.int 4, .bool b, .int 0])
inductive VaA : AV → Prop
  | mk (t : List Nat) (h0 : 1 ≤ t.length) (h1 : t.length ≤ 6) (h2 : (∀ c ∈ t, c < 128)) : VaA (.tup [.int 5, .str (T t), .int (t.length : Nat)])
inductive VaR : AV → Prop
  | mk (k m e : Int) (h0 : (k = 1 ∨ k = 2)) (h1 : RealOk m e) : VaR (.tup [.int k, .tup [.int m, .int e], .int 0])
theorem pow_small {a k : Nat} (h : 1 ≤ a) (hk : a * 10 ^ k < 1000000) : k ≤ 5 := by
  by_cases hc : k ≤ 5
  · exact hc
  · exfalso
    have h1 : 10 ^ 6 ≤ 10 ^ k := Nat.pow_le_pow_right (by decide) (by omega)
    have h2 := Nat.mul_le_mul h h1
    omega
theorem sp_value_I {P : Addr} {n c : Int} : SPEC (GG w mean mg mb) 3 365 [.val (.ref P), .str (T [73])] (some (P, n, c)) (fun r q => (∃ n' c', q = some (P, n', c')) ∧ VaI r) := by
  refine' SPEC.enterC [Str.ofString "pen", Str.ofString "word"] (Str.ofString "pen") ?ho ?hcd ?hb ?hnd ?hlen ?hloc ?hxn ?hxc ?hcl ?hco ?hgen ?hk ?hdb ?h
  walk_at "inC"
  rename_i A A₀ base outer g L
  repeat' walk_at "s"
  refine x_pow10 (by decide) (by decide) ?_
  repeat' walk_at "s"
  refine useSpecD (sp_draw _ (by decide) (by decide)) rfl fun n1 c1 k1 hk1 => ?_
  have hk1' : k1 < 1000000 := hk1
  repeat' walk_at "s"
  exact ⟨⟨_, _, rfl⟩, (k1 : Int) - 200000, by omega, by omega⟩
theorem sp_value_L {P : Addr} {n c : Int} : SPEC (GG w mean mg mb) 3 365 [.val (.ref P), .str (T [76])] (some (P, n, c)) (fun r q => (∃ n' c', q = some (P, n', c')) ∧ VaL r) := by
  refine' SPEC.enterC [Str.ofString "pen", Str.ofString "word"] (Str.ofString "pen") ?ho ?hcd ?hb ?hnd ?hlen ?hloc ?hxn ?hxc ?hcl ?hco ?hgen ?hk ?hdb ?h
  walk_at "inC"
  rename_i A A₀ base outer g L
  repeat' walk_at "s"
  refine x_pow10 (by decide) (by decide) ?_
  repeat' walk_at "s"
  refine useSpecD (sp_draw _ (by decide) (by decide)) rfl fun n1 c1 k1 hk1 => ?_
  have hk1' : k1 < 1000000 := hk1
  repeat' walk_at "s"
  exact ⟨⟨_, _, rfl⟩, .mk _⟩
theorem sp_value_A {P : Addr} {n c : Int} : SPEC (GG w mean mg mb) 3 365 [.val (.ref P), .str (T [65])] (some (P, n, c)) (fun r q => (∃ n' c', q = some (P, n', c')) ∧ VaA r) := by
  refine' SPEC.enterC [Str.ofString "pen", Str.ofString "word"] (Str.ofString "pen") ?ho ?hcd ?hb ?hnd ?hlen ?hloc ?hxn ?hxc ?hcl ?hco ?hgen ?hk ?hdb ?h
  walk_at "inC"
  rename_i A A₀ base outer g L
  repeat' walk_at "s"
  refine x_pow10 (by decide) (by decide) ?_
  repeat' walk_at "s"
  refine useSpecD (sp_draw _ (by decide) (by decide)) rfl fun n1 c1 k1 hk1 => ?_
  have hk1' : k1 < 1000000 := hk1
  repeat' walk_at "s"
  refine' EV.joinComp (P := P) (fa := 353) (need := 2) (xs := [97, 98, 32, 42, 39]) (cl := [(Str.ofString "pen", L + 1)]) _ ?ex (fun env => do return (← importBound _ env).getD true) ?hr ?hrx ?hn ?hkp ?hpk ?hpk2 ?hpc ?hpc2 ?hcl ?hpn ?hclos ?hcell ?hkind ?hnames ?hy ?hspec ?hroom ?hxs ?h ?hc ?hc2 ?he2 ?hs
  case ex => exact lit_abs
  case hr => exact gbrange
  case hrx => rfl
  case hn => exact gllawpick
  case hkp => exact kp353
  case hpk => intro C; with_unfolding_all rfl
  case hpk2 => decide
  case hpc => intro C; with_unfolding_all rfl
  case hpc2 => decide
  case hcl => with_unfolding_all rfl
  case hpn => rfl
  case hclos => with_unfolding_all rfl
  case hcell => decide
  case hkind => rfl
  case hnames => decide
  case hy => rfl
  case hspec => exact fun i c => sp_pickS [97, 98, 32, 42, 39] (by decide) (by decide)
  case hroom => exact Nat.le_refl _
  case hxs => decide
  case hc => intros; rfl
  case hc2 => intros; rfl
  case he2 => intros; rfl
  case hs => intros; rfl
  repeat' walk_at "s"
  refine useSpecD (sp_draw 6 (by decide) (by decide)) rfl fun n2 c2 k2 hk2 => ?_
  repeat' walk_at "s"
  refine ⟨1 + k2, congrArg AV.int (by omega), by omega, rfl, ⟨_, _, rfl⟩, fun t i' c' ht hm => ?_⟩
  repeat' walk_at "s"
  exact ⟨⟨_, _, rfl⟩, t, by omega, by omega, fun c hc => by have := hm c hc; simp at this; omega⟩
theorem sp_value_R {cw : Nat} (hw : isRealW cw) {P : Addr} {n c : Int} : SPEC (GG w mean mg mb) 3 365 [.val (.ref P), .str (T [cw])] (some (P, n, c)) (fun r q => (∃ n' c', q = some (P, n', c')) ∧ VaR r) := by
  obtain ⟨w1, w2, w3, w4, w5, w6⟩ := hw.all
  refine' SPEC.enterC [Str.ofString "pen", Str.ofString "word"] (Str.ofString "pen") ?ho ?hcd ?hb ?hnd ?hlen ?hloc ?hxn ?hxc ?hcl ?hco ?hgen ?hk ?hdb ?h
  walk_at "inC"
  rename_i A A₀ base outer g L
  repeat' walk_at "s"
  refine x_pow10 (by decide) (by decide) ?_
  repeat' walk_at "s"
  refine useSpecD (sp_draw _ (by decide) (by decide)) rfl fun n1 c1 k1 hk1 => ?_
  have hk1' : k1 < 1000000 := hk1
  repeat' walk_at "s"
  refine useSpecD (sp_draw 13 (by decide) (by decide)) rfl fun n2 c2 k2 hk2 => ?_
  repeat' walk_at "s"
  refine E1.whileL (ι := Int × Int) (fun i => ⟨[(Str.ofString "number", .int i.1), (Str.ofString "power", .int i.2), (Str.ofString "pen", .val (.ref P))], some (P, n2, c2)⟩) (fun j i => i.1.natAbs = j ∧ ∃ k : Nat, i.2 = (k2 : Int) - 9 + k ∧ i.1.natAbs * 10 ^ k < 1000000) ((k1 : Int) - 200000).natAbs ((k1 : Int) - 200000, (k2 : Int) - 9) (SeesS.of ⟨rfl, rfl, rfl, trivial⟩ rfl) ⟨rfl, 0, by simp, by simp; omega⟩ ?_
  rintro j ⟨i, q⟩ ⟨hj, k, hq, hk⟩
  dsimp only at hj hq hk ⊢
  repeat' walk_at "s"
  · rename_i h0 hd
    refine ⟨(i / 10).natAbs, (i / 10, q + 1), hj ▸ div10_lt h0 hd, ⟨rfl, k + 1, step1 hq, ?_⟩, SeesS.of ⟨rfl, rfl, rfl, trivial⟩ rfl⟩
    dsimp only
    rw [Nat.pow_succ, Nat.mul_comm (10 ^ k) 10, ← Nat.mul_assoc, div10_mulN hd]; exact hk
  all_goals
    have hok : ¬ i = 0 → ¬ i % 10 = 0 → RealOk i q := fun h0 h1 => ⟨by have h2 := Nat.mul_le_mul_left i.natAbs (Nat.pow_pos (n := k) (show 0 < 10 by decide)); omega, .inr ⟨h1, by omega, by have := pow_small (show 1 ≤ i.natAbs by omega) hk; omega⟩⟩
    have hz : i = 0 → RealOk i 0 := fun h0 => ⟨by rw [h0]; decide, .inl ⟨h0, rfl⟩⟩
    refine useSpecP (sp_pickT _ (Nat.le_of_ble_eq_true rfl) (Nat.le_of_ble_eq_true rfl)) rfl fun n3 c3 r hr => ?_
    rcases mem2 hr with rfl | rfl
    all_goals
      repeat' walk_at "s"
      all_goals first
        | (exfalso; omega)
        | exact ⟨⟨_, _, rfl⟩, _, i, q, by first | exact .inl rfl | exact .inr rfl, hok (by assumption) (by assumption)⟩
        | exact ⟨⟨_, _, rfl⟩, _, i, 0, by first | exact .inl rfl | exact .inr rfl, hz (by assumption)⟩
end
section
theorem realOk_e {m e : Int} (h : RealOk m e) : m.natAbs < 1000000 ∧ -9 ≤ e ∧ e ≤ 9 := by
  obtain ⟨a, b⟩ := h
  refine ⟨a, ?_⟩
  rcases b with ⟨_, rfl⟩ | ⟨_, b, c⟩
  · exact ⟨by decide, by decide⟩
  · exact ⟨b, c⟩
theorem lead_small {m e : Int} {count : Nat} {sc : Int} (h : RealOk m e) (hs : -1 ≤ sc ∧ sc ≤ 2) : ((leadT m e count).2 - sc).natAbs < 100 := by
  obtain ⟨a, b, c⟩ := realOk_e h
  have hd := dg_len (n := m.natAbs) (k := 6) (by decide) a
  unfold leadT
  split
  · dsimp only; omega
  · dsimp only
    split
    · dsimp only; omega
    · dsimp only; omega
theorem rreal_gen (m e : Int) (hm : RealOk m e) (wd places k : Nat) (sc : Int) (plus : Bool) (hg : genFix m e places = true) (hw : wd ≤ 40) (hk : k + 2 < wd) (hs : -1 ≤ sc ∧ sc ≤ 2) (z : Bool) (d : Int) {V : Int × Int}
    (hV : Strip (cutN m (e - (((dg m.natAbs).length : Int) + e - places))) ((((dg m.natAbs).length : Int) + e - places) - sc) V.1 V.2) :
    genT m e wd places k sc plus = List.replicate wd 42 ∨ (genT m e wd places k sc plus ≠ List.replicate wd 42 ∧ RReal w mean mg mb (genT m e wd places k sc plus) d sc z V) := by
  have hg' := of_decide_eq_true hg
  unfold genT
  rw [if_pos hg]
  dsimp only
  have h := rreal_general (w := w) (mean := mean) (mg := mg) (mb := mb) m e (wd - (k + 2)) (places - (((dg m.natAbs).length : Int) + e).toNat) (k + 2) sc plus (by omega) (by omega) (by omega) z d (V := V) (by
    rw [show e + ((places - (((dg m.natAbs).length : Int) + e).toNat : Nat) : Int) = e - (((dg m.natAbs).length : Int) + e - places) by omega, show -((places - (((dg m.natAbs).length : Int) + e).toNat : Nat) : Int) - sc = ((((dg m.natAbs).length : Int) + e - places) - sc) by omega]
    exact hV)
  generalize fixedT m e (wd - (k + 2)) (places - (((dg m.natAbs).length : Int) + e).toNat) 0 plus = t at *
  rcases h with h | ⟨h1, h2, h3⟩
  · left
    rw [h, if_pos]
    rw [← Nat.sub_add_cancel (Nat.sub_pos_of_lt hk), List.replicate_succ]; rfl
  · right
    rw [if_neg h1]
    exact ⟨not_stars (c := 46) (List.mem_append.mpr (.inl h2)) (by decide), h3⟩
theorem genT_exp {m e : Int} {wd places k : Nat} {sc : Int} {plus : Bool} (hg : genFix m e places = false) : genT m e wd places k sc plus = expF 69 m e wd places k sc plus := by
  unfold genT; rw [hg, if_neg (by decide)]
theorem expF_len (letter : Nat) (m e : Int) (wd places k : Nat) (sc : Int) (plus : Bool) : (expF letter m e wd places k sc plus).length = wd := by
  unfold expF
  dsimp only
  split
  · exact pointT_len _ _ _ _
  · exact pointT_len _ _ _ _
theorem genT_len (m e : Int) (wd places k : Nat) (sc : Int) (plus : Bool) (hk : k + 2 ≤ wd) : (genT m e wd places k sc plus).length = wd := by
  unfold genT
  split
  · dsimp only
    split
    · exact List.length_replicate
    · rw [List.length_append, fixedT_len, List.length_replicate]; omega
  · exact expF_len _ _ _ _ _ _ _ _
def RealTurn (w : World) (mean : ExcName → Option Value) (mg mb : Str → Option Value) (item : AV) (m e sc : Int) (d : Int) (text : List Nat) (wd : Nat) (z : Bool) : Prop :=
  ∃ V : Int × Int, (∀ pen, SPEC (GG w mean mg mb) 3 379 [item, .tup [.int m, .int e], .int sc] pen (fun r p => p = pen ∧ r = .tup [.int V.1, .int V.2])) ∧ (text = List.replicate wd 42 ∨ (text ≠ List.replicate wd 42 ∧ RReal w mean mg mb text d sc z V))
theorem due_of {item : AV} {m e sc M E : Int} {V : Int × Int} (hV : Strip M E V.1 V.2) (h : ∀ pen, SPEC (GG w mean mg mb) 3 379 [item, .tup [.int m, .int e], .int sc] pen (fun r p => p = pen ∧ ∃ m' e', r = .tup [.int m', .int e'] ∧ Strip M E m' e')) :
    ∀ pen, SPEC (GG w mean mg mb) 3 379 [item, .tup [.int m, .int e], .int sc] pen (fun r p => p = pen ∧ r = .tup [.int V.1, .int V.2]) := fun pen =>
  (h pen).mono fun r p ⟨a, m', e', b, c⟩ => by
    obtain ⟨x, y⟩ := strip_same hV c (Same.refl _ _)
    exact ⟨a, by rw [b, x, y]⟩
theorem small18 {m : Int} (h : m.natAbs < 1000000) : m.natAbs < 10 ^ 18 := Nat.lt_trans h (by decide)
theorem turn_F {m e : Int} (h : RealOk m e) (wd d : Nat) (hw : wd ≤ 40) (hd : d ≤ 6) (rest : List AV) (sc : Int) (hs : -1 ≤ sc ∧ sc ≤ 2) (plus z : Bool) :
    RealTurn w mean mg mb (.tup (.str (T [70]) :: .int (wd : Nat) :: .int (d : Nat) :: rest)) m e sc d (fixedT m e wd d sc plus) wd z := by
  obtain ⟨a, b, hV⟩ := strip_ex _ (cutN m (e - (-(d : Int) - sc))) (-(d : Int) - sc) rfl
  obtain ⟨h1, h2, h3⟩ := realOk_e h
  refine ⟨(a, b), due_of hV fun pen => sp_due_F _ rest m e sc d (small18 h1) (by omega) (by omega) (by omega), ?_⟩
  refine rreal_fixed m e wd d sc plus hw (by omega) (by omega) z d (V := (a, b)) ?_
  rw [show e + sc + (d : Int) = e - (-(d : Int) - sc) by omega]
  exact hV
theorem turn_E {m e : Int} (h : RealOk m e) (wd d k : Nat) (hw : wd ≤ 40) (hd : 2 ≤ d ∧ d ≤ 6) (hk : k ≤ 10) (rest : List AV) (sc : Int) (hs : -1 ≤ sc ∧ sc ≤ 2) (plus z : Bool) :
    RealTurn w mean mg mb (.tup (.str (T [69]) :: .int (wd : Nat) :: .int (d : Nat) :: rest)) m e sc d (expF 69 m e wd d k sc plus) wd z := by
  obtain ⟨a, b, hV⟩ := strip_ex _ (cutN m (e - ((((dg m.natAbs).length : Int) + e) - expC d sc))) ((((dg m.natAbs).length : Int) + e) - expC d sc) rfl
  obtain ⟨h1, h2, h3⟩ := realOk_e h
  exact ⟨(a, b), due_of hV fun pen => sp_due_E _ rest m e sc d (small18 h1) (by omega) (by omega) (by omega), rreal_exp 69 (.inl rfl) m e wd d k sc plus hd.1 hs hk (lead_small h hs) hw z d hV⟩
theorem turn_D {m e : Int} (h : RealOk m e) (wd d k : Nat) (hw : wd ≤ 40) (hd : 2 ≤ d ∧ d ≤ 6) (hk : k ≤ 10) (rest : List AV) (sc : Int) (hs : -1 ≤ sc ∧ sc ≤ 2) (plus z : Bool) :
    RealTurn w mean mg mb (.tup (.str (T [68]) :: .int (wd : Nat) :: .int (d : Nat) :: rest)) m e sc d (expF 68 m e wd d k sc plus) wd z := by
  obtain ⟨a, b, hV⟩ := strip_ex _ (cutN m (e - ((((dg m.natAbs).length : Int) + e) - expC d sc))) ((((dg m.natAbs).length : Int) + e) - expC d sc) rfl
  obtain ⟨h1, h2, h3⟩ := realOk_e h
  exact ⟨(a, b), due_of hV fun pen => sp_due_D _ rest m e sc d (small18 h1) (by omega) (by omega) (by omega), rreal_exp 68 (.inr rfl) m e wd d k sc plus hd.1 hs hk (lead_small h hs) hw z d hV⟩
theorem turn_G {m e : Int} (h : RealOk m e) (wd d k : Nat) (hw : wd ≤ 40) (hd : 2 ≤ d ∧ d ≤ 6) (hk : k ≤ 10) (hkw : k + 2 < wd) (rest : List AV) (sc : Int) (hs : -1 ≤ sc ∧ sc ≤ 2) (plus z : Bool) :
    RealTurn w mean mg mb (.tup (.str (T [71]) :: .int (wd : Nat) :: .int (d : Nat) :: rest)) m e sc d (genT m e wd d k sc plus) wd z := by
  obtain ⟨h1, h2, h3⟩ := realOk_e h
  cases hg : genFix m e d with
  | true =>
    obtain ⟨a, b, hV⟩ := strip_ex _ (cutN m (e - ((((dg m.natAbs).length : Int) + e) - d))) (((((dg m.natAbs).length : Int) + e) - d) - sc) rfl
    exact ⟨(a, b), due_of hV fun pen => sp_due_Gf _ rest m e sc d (small18 h1) (by omega) (by omega) (by omega) hg, rreal_gen m e h wd d k sc plus hg hw hkw hs z d hV⟩
  | false =>
    rw [genT_exp hg]
    obtain ⟨a, b, hV⟩ := strip_ex _ (cutN m (e - ((((dg m.natAbs).length : Int) + e) - expC d sc))) ((((dg m.natAbs).length : Int) + e) - expC d sc) rfl
    exact ⟨(a, b), due_of hV fun pen => sp_due_Gx _ rest m e sc d (small18 h1) (by omega) (by omega) (by omega) hg, rreal_exp 69 (.inl rfl) m e wd d k sc plus hd.1 hs hk (lead_small h hs) hw z d hV⟩
end
section
theorem glLimits : nsIn (hd.heap_1 w.params) mainGlobals (Str.ofString "Limits") = some (some (.ref 328)) := by kernel_rfl
theorem kp328 : keepIn (hd.heap_1 w.params) (.ref 328) = true := by kernel_rfl
theorem mk328 : makesIn (hd.heap_1 w.params) 328 = true := by kernel_rfl
theorem fi328 : findIn (hd.heap_1 w.params) (.ref 328) "__init__" = some (some (.ref 325)) := by kernel_rfl
theorem fn325 : isFn (hd.heap_1 w.params) (.ref 325) = true := by kernel_rfl
theorem sa328 : findIn (hd.heap_1 w.params) (.ref 328) "__setattr__" = some (some (.builtin "object.__setattr__")) := by kernel_rfl
theorem po328 : plainOver (hd.heap_1 w.params) 328 = true := by kernel_rfl
theorem putL_len {nm : Str} {hsh : Int} {k v : Value} : ∀ {es : List DictEntry}, (putL nm hsh k v es).length ≤ es.length + 1
  | [] => Nat.le_refl _
  | e :: r => by
    unfold putL
    split
    · exact Nat.le_succ _
    · exact Nat.succ_le_succ putL_len
theorem lim_set {prog : Program} {A : Around} {E : Value → Shared → Prop} {s : Shared} {g : Heap} {L x dx : Addr} {m : Str → Option Value} {es : List DictEntry} {n : Nat} {N : Led} {nm : Str} {v : Value} {Q : Unit → Shared → Prop} (F : Fr g L s.heap m) (X : (hd.heap_1 w.params).In g) (n' : News g L s.heap ((x, instObj 328 dx) :: (dx, dictOf es n) :: N)) (hlt : ∀ p ∈ N, p.1 ≠ dx) (hne : x ≠ dx)
    (ht : takerIn (hd.heap_1 w.params) 328 nm = some none) (hl : (getL nm es).isSome = true) (hz : es.length ≤ 900)
    (h : ∀ h' tk' tk hs n', Fr g L h' m → News g L h' ((x, instObj 328 dx) :: (dx, dictOf (putL nm hs (.str nm tk) v es) n') :: N) → Q () { s with heap := h', toks := tk' }) : wpAny (model prog w) A (setAttr (.ref x) nm v) Q E s :=
  set_dict F X n' (InstAt.of_news n' (.head _) (.tail _ (.head _))) rfl sa328 po328 ht hd328 hl rfl (.tail hne (.head hlt)) (Nat.le_trans putL_len (by omega)) fun h' F' N' => h h' _ _ _ _ F' N'
theorem tk_width : takerIn (hd.heap_1 w.params) 328 (Str.ofString "width") = some none := by kernel_rfl
theorem tk_real : takerIn (hd.heap_1 w.params) 328 (Str.ofString "real_digits") = some none := by kernel_rfl
theorem tk_double : takerIn (hd.heap_1 w.params) 328 (Str.ofString "double_digits") = some none := by kernel_rfl
theorem tk_top : takerIn (hd.heap_1 w.params) 328 (Str.ofString "top_exponent") = some none := by kernel_rfl
theorem tk_steps : takerIn (hd.heap_1 w.params) 328 (Str.ofString "steps") = some none := by kernel_rfl
theorem tk_cont : takerIn (hd.heap_1 w.params) 328 (Str.ofString "continuations") = some none := by kernel_rfl
theorem tk_col : takerIn (hd.heap_1 w.params) 328 (Str.ofString "columns") = some none := by kernel_rfl
theorem tk_depth : takerIn (hd.heap_1 w.params) 328 (Str.ofString "depth") = some none := by kernel_rfl
theorem CallKwN {M : Model} {A : Around} {E : Value → Shared → Prop} {s : Shared} {env : Env} {func : PySem.Expr} {args : List PySem.Expr} {kws : List Keyword} {pos : Pos} {Q : Value → Shared → Prop}
    (h : wpAny M A (eval func env) (fun f s₁ => wpAny M A (callWith pos f [] (backTo pos (starEach args env)) (backToKw pos (keywordEach kws env))) Q E s₁) E s)
    (he : eval (.Call func args kws pos) env = (do callWith pos (← eval func env) [] (backTo pos (starEach args env)) (backToKw pos (keywordEach kws env))) := by rfl) :
    wpAny M A (eval (.Call func args kws pos) env) Q E s := by
  rw [he]; exact wpAny_bind h
theorem locs_ok {names : List (Str × NameKind)} {b : List (Str × Value)} (h : (b.all fun y => names.lookup y.1 == some .local) = true) : ∀ y ∈ b, names.lookup y.1 = some .local := fun y hy => beq_iff_eq.mp (List.all_eq_true.mp h y hy)
theorem lim_get {es : List DictEntry} {t1 t2 t3 t4 : Tok} (h1 : getL (Str.ofString "width") es = some (some (.int 32 t1))) (h2 : getL (Str.ofString "real_digits") es = some (some (.int 40 t2))) (h3 : getL (Str.ofString "double_digits") es = some (some (.int 40 t3))) (h4 : getL (Str.ofString "top_exponent") es = some (some (.int 400 t4))) :
    ∀ nm i, limF.lookup nm = some i → ∃ t, getL nm es = some (some (.int i t)) := fun nm i e => by
  have hm := mem_of_lookup e
  simp only [limF, List.mem_cons, Prod.mk.injEq, List.not_mem_nil, or_false] at hm
  rcases hm with ⟨rfl, rfl⟩ | ⟨rfl, rfl⟩ | ⟨rfl, rfl⟩ | ⟨rfl, rfl⟩
  · exact ⟨_, h1⟩
  · exact ⟨_, h2⟩
  · exact ⟨_, h3⟩
  · exact ⟨_, h4⟩
theorem limits_made {f : Fm} {σ : Sto} {Q : AV → Sto → Prop} (hG : f.toGl = GG w mean mg mb) {np cp p1 p2 p3 p4 q1 q2 q3 q4 : Pos} {k1 k2 k3 k4 : Nat} (hx : f.cs.names.lookup (Str.ofString "Limits") = some .globalImplicit) (hr : 2 ≤ f.room) (h : Q (.obj 328 limF) σ) :
    EV f (.Call (.Name (Str.ofString "Limits") np) [] [⟨some (Str.ofString "width"), .Constant (.int 32) k1 p1, q1⟩, ⟨some (Str.ofString "real_digits"), .Constant (.int 40) k2 p2, q2⟩, ⟨some (Str.ofString "double_digits"), .Constant (.int 40) k3 p3, q3⟩, ⟨some (Str.ofString "top_exponent"), .Constant (.int 400) k4 p4, q4⟩] cp) σ Q := by
  obtain ⟨tg, A, A₀, base, outer, g, L, cn, cs, fa, cd, cl', W, room⟩ := f
  dsimp only at hG
  subst hG
  intro O E s m N I
  refine genP fun PQ pq => ?_
  refine CallKwN (nameX_K I.F O.X (topRead O) glLimits ?_ O.hk hx (by decide)) rfl
  refine callWith_KW0 O.X kp328 rfl (kwAll_cons (wpAny_Constant_int (kwAll_cons (wpAny_Constant_int (kwAll_cons (wpAny_Constant_int (kwAll_cons (wpAny_Constant_int (kwAll_nil ⟨O.X.keeps I.F.keep, ?_⟩))))))))) rfl
  refine call_cls (K := hd.heap_1 w.params) (s := { s with toks := _ }) I.F O.X I.nw mk328 fi328 fn325 fun x dx h₁ F₁ N₁ lt1 lt2 => ?_
  refine PySem.W.code_def (binds := [(Str.ofString "self", .ref x), (Str.ofString "width", .int 32 s.toks), (Str.ofString "real_digits", .int 40 (s.toks + 1)), (Str.ofString "double_digits", .int 40 (s.toks + 1 + 1)), (Str.ofString "top_exponent", .int 400 (s.toks + 1 + 1 + 1)), (Str.ofString "steps", _), (Str.ofString "continuations", _), (Str.ofString "columns", _), (Str.ofString "depth", _)]) O.B F₁ O.X N₁ O.T (show (A.under _).frames = _ from O.hA) rfl O.hk (by with_unfolding_all rfl) (by with_unfolding_all rfl) ?_ (binds_K (O.X.keeps F₁.keep) rfl (by with_unfolding_all rfl) rfl (by rfl) (by rfl)) ?_ (fun g' L' h₂ FG F' N' B' X' T' => ?_) rfl rfl rfl (by decide)
  · show A.depth + 1 < _
    have := O.hd
    dsimp only at this hr
    omega
  · exact locs_ok (by rfl)
  refine genP fun P0 p0 => ?_
  have lt' : ∀ p ∈ N, p.1 ≠ dx := fun p hp => Nat.ne_of_lt (lt1 p hp)
  have ne' : x ≠ dx := Nat.ne_of_gt lt2
  refine wpAny_execs_cons (plainObj_wpAny_Assign_Attribute (nameX_L F' (by rfl) (nameX_L F' (v := .ref x) (by rfl) ?_ rfl rfl (by decide)) rfl rfl (by decide)) rfl)
  refine lim_set F' X' N' lt' ne' tk_width (by rfl) (Nat.le_of_ble_eq_true rfl) fun h₃ t₃ tk₃ hs₃ n₃ F₃ N₃ => ?_
  refine wpAny_execs_cons (plainObj_wpAny_Assign_Attribute (nameX_L F₃ (by rfl) (nameX_L F₃ (v := .ref x) (by rfl) ?_ rfl rfl (by decide)) rfl rfl (by decide)) rfl)
  refine lim_set F₃ X' N₃ lt' ne' tk_real (by rfl) (Nat.le_of_ble_eq_true rfl) fun h₄ t₄ tk₄ hs₄ n₄ F₄ N₄ => ?_
  refine wpAny_execs_cons (plainObj_wpAny_Assign_Attribute (nameX_L F₄ (by rfl) (nameX_L F₄ (v := .ref x) (by rfl) ?_ rfl rfl (by decide)) rfl rfl (by decide)) rfl)
  refine lim_set F₄ X' N₄ lt' ne' tk_double (by rfl) (Nat.le_of_ble_eq_true rfl) fun h₅ t₅ tk₅ hs₅ n₅ F₅ N₅ => ?_
  refine wpAny_execs_cons (plainObj_wpAny_Assign_Attribute (nameX_L F₅ (by rfl) (nameX_L F₅ (v := .ref x) (by rfl) ?_ rfl rfl (by decide)) rfl rfl (by decide)) rfl)
  refine lim_set F₅ X' N₅ lt' ne' tk_top (by rfl) (Nat.le_of_ble_eq_true rfl) fun h₆ t₆ tk₆ hs₆ n₆ F₆ N₆ => ?_
  refine wpAny_execs_cons (plainObj_wpAny_Assign_Attribute (nameX_L F₆ (by rfl) (nameX_L F₆ (v := .ref x) (by rfl) ?_ rfl rfl (by decide)) rfl rfl (by decide)) rfl)
  refine lim_set F₆ X' N₆ lt' ne' tk_steps (by rfl) (Nat.le_of_ble_eq_true rfl) fun h₇ t₇ tk₇ hs₇ n₇ F₇ N₇ => ?_
  refine wpAny_execs_cons (plainObj_wpAny_Assign_Attribute (nameX_L F₇ (by rfl) (nameX_L F₇ (v := .ref x) (by rfl) ?_ rfl rfl (by decide)) rfl rfl (by decide)) rfl)
  refine lim_set F₇ X' N₇ lt' ne' tk_cont (by rfl) (Nat.le_of_ble_eq_true rfl) fun h₈ t₈ tk₈ hs₈ n₈ F₈ N₈ => ?_
  refine wpAny_execs_cons (plainObj_wpAny_Assign_Attribute (nameX_L F₈ (by rfl) (nameX_L F₈ (v := .ref x) (by rfl) ?_ rfl rfl (by decide)) rfl rfl (by decide)) rfl)
  refine lim_set F₈ X' N₈ lt' ne' tk_col (by rfl) (Nat.le_of_ble_eq_true rfl) fun h₉ t₉ tk₉ hs₉ n₉ F₉ N₉ => ?_
  refine wpAny_execs_cons (plainObj_wpAny_Assign_Attribute (nameX_L F₉ (by rfl) (nameX_L F₉ (v := .ref x) (by rfl) ?_ rfl rfl (by decide)) rfl rfl (by decide)) rfl)
  refine lim_set F₉ X' N₉ lt' ne' tk_depth (by rfl) (Nat.le_of_ble_eq_true rfl) fun h' t' tk' hs' n' F'' N'' => ?_
  refine wpAny_execs_nil (p0 _ _ (leaveK_ F'' N'' fun FE NE => ⟨rfl, ?_⟩))
  have I₁ : Inv ⟨GG w mean mg mb, A, A₀, base, outer, g, L, cn, cs, fa, cd, cl', W, room⟩ h' m N σ := ⟨FE, fun p hp => NE p (.tail _ (.tail _ hp)), I.loc, I.pen, I.penW, I.mt, I.cells⟩
  refine pq _ _ ⟨.obj 328 limF, σ, h', _, _, rfl, I₁.more NE (fun q hq => .tail _ (.tail _ hq)), Ext.cons.trans Ext.cons, ⟨x, dx, _, _, rfl, .head _, .tail _ (.head _), lim_get (by rfl) (by rfl) (by rfl) (by rfl)⟩, h⟩
end
section
theorem useSpecR {G : Gl} {need : Nat} {fa : Addr} {args : List AV} {pen : Pen} {Q Q' : AV → Pen → Prop} {room : Nat} (sp : SPEC G need fa args pen Q') (hr : need + 1 ≤ room) (h : ∀ a p, Q' a p → Q a p) : ∃ need, need + 1 ≤ room ∧ SPEC G need fa args pen Q := ⟨need, hr, sp.mono h⟩
theorem SPEC.up {G : Gl} {need need' : Nat} {fa : Addr} {args : List AV} {pen : Pen} {Q : AV → Pen → Prop} (h : SPEC G need fa args pen Q) (hn : need ≤ need') : SPEC G need' fa args pen Q := fun f e O r => h f e O (Nat.le_trans (Nat.succ_le_succ hn) r)
def Jt (P : Addr) (σ : Sto) : Prop := ∃ i c, SeesS σ ⟨[(Str.ofString "pen", .val (.ref P)), (Str.ofString "limits", .obj 328 limF)], some (P, i, c)⟩
def TurnPost (w : World) (mean : ExcName → Option Value) (mg mb : Str → Option Value) (f : Fm) (P : Addr) (suf : List Stmt) (φ : Fl) (σ : Sto) : Prop :=
  φ = .next ∧ ∃ item kind len text sc z told i c, σ.loc.lookup (Str.ofString "item") = some item ∧ σ.loc.lookup (Str.ofString "kind") = some kind ∧ σ.loc.lookup (Str.ofString "length") = some len ∧ σ.loc.lookup (Str.ofString "text") = some (.str (T text)) ∧
    σ.loc.lookup (Str.ofString "scale") = some (.int sc) ∧ σ.loc.lookup (Str.ofString "is_filled") = some (.bool z) ∧ σ.loc.lookup (Str.ofString "limits") = some (.obj 328 limF) ∧ σ.pen = some (P, i, c) ∧ ToldS w mean mg mb item kind len text sc z told ∧
    EX f suf (σ.put (Str.ofString "told") told) (fun φ σ' => φ = .next ∧ Jt P σ')
end
section
local macro_rules | `(tactic| walk_at "and") => `(tactic| first
  | ((with_reducible refine' stbA ?hl ?_); (case hl => assumption))
  | ((with_reducible refine' an_isF ?hc ?_); (case hc => assumption))
  | ((with_reducible refine' an_isT ?hc ?_); (case hc => assumption))
  | ((with_reducible refine' ro_isF ?hc ?_); (case hc => assumption)))
local macro_rules | `(tactic| walk_at "E1") => `(tactic| ((with_reducible refine' E1.unpack3S ?h ?hx ?hy ?hz ?hs ?hw); (case hw => rfl); (case hx => first | exact Or.inl rfl | assumption); (case hy => first | exact Or.inl rfl | assumption); (case hz => first | exact Or.inl rfl | assumption); (case hs => intros; rfl)))
local macro_rules | `(tactic| walk_at "name") => `(tactic| first
  | ((with_reducible refine' EV.name ?e ?h); (case e => exact rfl))
  | ((with_reducible refine' EV.blt ?e ?hv ?hx ?h ?hn); (case e => walk_at "g bl"); (case hv => walk_at "g bb"); (case hx => rfl); (case hn => decide)))
local macro_rules | `(tactic| walk_at "ex") => `(tactic| first
  | (with_reducible first | apply x_isiI | apply x_isiS | apply x_isiB | apply x_isiT)
  | ((with_reducible refine' x_neI ?hx ?hr ?_); (case hx => exact strOkT (by decide)); (case hr => assumption))
  | ((with_reducible refine' x_neB ?hx ?hr ?_); (case hx => exact strOkT (by decide)); (case hr => assumption))
  | ((with_reducible refine' x_neS ?hx ?hy ?hr ?_); (case hx => exact strOkT (by decide)); (case hy => assumption); (case hr => assumption))
  | ((with_reducible refine' x_neR ?hx ?hr ?_); (case hx => exact strOkT (by decide)); (case hr => assumption)))
def SufOk (w : World) (f : Fm) (P : Addr) (cw : Nat) (item : AV) (sc : Int) (x : AV) (len : Int) (text : List Nat) (told : AV) : Prop := ∀ i c, EX f (lawSuf w)
  ⟨[(Str.ofString "word", .str (T [cw])), (Str.ofString "item", item), (Str.ofString "scale", .int sc), (Str.ofString "value", x), (Str.ofString "length", .int len), (Str.ofString "text", .str (T text)), (Str.ofString "width", .int (text.length : Nat)), (Str.ofString "told", told), (Str.ofString "pen", .val (.ref P)), (Str.ofString "limits", .obj 328 limF)], some (P, i, c)⟩ (fun φ σ' => φ = .next ∧ Jt P σ')
set_option maxHeartbeats 4000000 in
theorem suf_I {f : Fm} (hf : LawF w mean mg mb f) (P : Addr) (item : AV) (sc len v : Int) (text : List Nat) (hw : text.length ≤ 40) : SufOk w f P 73 item sc (.int v) len text (if text = List.replicate text.length 42 then badT else okT (.int v)) := by
  intro i c
  obtain ⟨hG, hout, hcs, hstb, hroom⟩ := hf
  have s0 := hstb (Str.ofString "is_filled") (by decide)
  have s1 := hstb (Str.ofString "item") (by decide)
  have s2 := hstb (Str.ofString "kind") (by decide)
  have s3 := hstb (Str.ofString "length") (by decide)
  have s4 := hstb (Str.ofString "limits") (by decide)
  have s5 := hstb (Str.ofString "scale") (by decide)
  have s6 := hstb (Str.ofString "text") (by decide)
  have h8 : 8 ≤ f.room := Nat.le_trans (by decide) hroom
  clear hstb
  obtain ⟨tg, A, A₀, base, outer, g, L, cn, cs, fa, cd, cl, W, room⟩ := f
  dsimp only at hG hout hcs hroom h8
  have hcs' : cs = ⟨_, _, _, _, _⟩ := hcs
  clear hcs
  subst hG hout hcs'
  have hro : 10 ≤ room := by omega
  by_cases hst : text = List.replicate text.length 42
  all_goals
    first | rw [if_pos hst] | rw [if_neg hst]
    show EX _ [_, _, _, _, _] _ _
    repeat' walk_at "s"
    all_goals first
      | (exact ⟨rfl, i, c, SeesS.of ⟨rfl, rfl, trivial⟩ rfl⟩)
      | (exfalso; rename_i hc; first | exact hc (by simpa using hst) | exact hst (by simpa using hc))
set_option maxHeartbeats 4000000 in
theorem suf_real {f : Fm} (hf : LawF w mean mg mb f) (P : Addr) {cw : Nat} (hcw : isRealW cw) (item : AV) (m e sc len : Int) (V : Int × Int) (hdue : ∀ pen, SPEC (GG w mean mg mb) 3 379 [item, .tup [.int m, .int e], .int sc] pen (fun r p => p = pen ∧ r = .tup [.int V.1, .int V.2])) (text : List Nat) (hw : text.length ≤ 40) : SufOk w f P cw item sc (.tup [.int m, .int e]) len text (if text = List.replicate text.length 42 then badT else okT (.tup [.int V.1, .int V.2])) := by
  intro i c
  obtain ⟨hG, hout, hcs, hstb, hroom⟩ := hf
  have s0 := hstb (Str.ofString "is_filled") (by decide)
  have s1 := hstb (Str.ofString "item") (by decide)
  have s2 := hstb (Str.ofString "kind") (by decide)
  have s3 := hstb (Str.ofString "length") (by decide)
  have s4 := hstb (Str.ofString "limits") (by decide)
  have s5 := hstb (Str.ofString "scale") (by decide)
  have s6 := hstb (Str.ofString "text") (by decide)
  have h8 : 8 ≤ f.room := Nat.le_trans (by decide) hroom
  clear hstb
  obtain ⟨tg, A, A₀, base, outer, g, L, cn, cs, fa, cd, cl, W, room⟩ := f
  dsimp only at hG hout hcs hroom h8
  have hcs' : cs = ⟨_, _, _, _, _⟩ := hcs
  clear hcs
  subst hG hout hcs'
  have hro : 10 ≤ room := by omega
  obtain ⟨w1, w2, w3, w4, w5, w6⟩ := hcw.all
  have w7 : (false != ([cw] == [76])) = false := by rw [w2]; rfl
  by_cases hst : text = List.replicate text.length 42
  all_goals
    first | rw [if_pos hst] | rw [if_neg hst]
    show EX _ [_, _, _, _, _] _ _
    repeat' walk_at "s"
    refine useSpecER (hdue _) (Nat.le_trans (by decide) hro) ?_
    repeat' walk_at "s"
    all_goals first
      | (exact ⟨rfl, i, c, SeesS.of ⟨rfl, rfl, trivial⟩ rfl⟩)
      | (exfalso; rename_i hc; first | exact hc (by simpa using hst) | exact hst (by simpa using hc))
set_option maxHeartbeats 4000000 in
theorem suf_L {f : Fm} (hf : LawF w mean mg mb f) (P : Addr) (item : AV) (sc len : Int) (b : Bool) (text : List Nat) (hw : text.length ≤ 40) : SufOk w f P 76 item sc (.bool b) len text (okT (.bool b)) := by
  intro i c
  obtain ⟨hG, hout, hcs, hstb, hroom⟩ := hf
  have s0 := hstb (Str.ofString "is_filled") (by decide)
  have s1 := hstb (Str.ofString "item") (by decide)
  have s2 := hstb (Str.ofString "kind") (by decide)
  have s3 := hstb (Str.ofString "length") (by decide)
  have s4 := hstb (Str.ofString "limits") (by decide)
  have s5 := hstb (Str.ofString "scale") (by decide)
  have s6 := hstb (Str.ofString "text") (by decide)
  have h8 : 8 ≤ f.room := Nat.le_trans (by decide) hroom
  clear hstb
  obtain ⟨tg, A, A₀, base, outer, g, L, cn, cs, fa, cd, cl, W, room⟩ := f
  dsimp only at hG hout hcs hroom h8
  have hcs' : cs = ⟨_, _, _, _, _⟩ := hcs
  clear hcs
  subst hG hout hcs'
  have hro : 10 ≤ room := by omega
  show EX _ [_, _, _, _, _] _ _
  repeat' walk_at "s"
  all_goals first
      | (exact ⟨rfl, i, c, SeesS.of ⟨rfl, rfl, trivial⟩ rfl⟩)
set_option maxHeartbeats 4000000 in
theorem suf_A {f : Fm} (hf : LawF w mean mg mb f) (P : Addr) (item : AV) (sc : Int) (t text : List Nat) (hw : text.length ≤ 40) (ht : t.length ≤ 40) (h128 : ∀ c ∈ t, c < 128) : SufOk w f P 65 item sc (.str (T t)) (t.length : Nat) text (okT (.str (T (if text.length < t.length then t.take text.length ++ List.replicate (t.length - text.length) 32 else t)))) := by
  intro i c
  obtain ⟨hG, hout, hcs, hstb, hroom⟩ := hf
  have s0 := hstb (Str.ofString "is_filled") (by decide)
  have s1 := hstb (Str.ofString "item") (by decide)
  have s2 := hstb (Str.ofString "kind") (by decide)
  have s3 := hstb (Str.ofString "length") (by decide)
  have s4 := hstb (Str.ofString "limits") (by decide)
  have s5 := hstb (Str.ofString "scale") (by decide)
  have s6 := hstb (Str.ofString "text") (by decide)
  have h8 : 8 ≤ f.room := Nat.le_trans (by decide) hroom
  clear hstb
  obtain ⟨tg, A, A₀, base, outer, g, L, cn, cs, fa, cd, cl, W, room⟩ := f
  dsimp only at hG hout hcs hroom h8
  have hcs' : cs = ⟨_, _, _, _, _⟩ := hcs
  clear hcs
  subst hG hout hcs'
  have hro : 10 ≤ room := by omega
  have ok1 := strOkT h128
  have ok2 : PyData.strOk (T (t.take text.length ++ List.replicate ((t.length : Int) - (text.length : Int)).toNat 32)) = true := strOkT fun c hc => by
    rcases List.mem_append.mp hc with h | h
    · exact h128 c (List.mem_of_mem_take h)
    · rw [(List.mem_replicate.mp h).2]; decide
  have hn : t.length - text.length = ((t.length : Int) - (text.length : Int)).toNat := (Int.toNat_sub _ _).symm
  by_cases hst : text.length < t.length
  all_goals
    first | rw [if_pos hst, hn] | rw [if_neg hst]
    show EX _ [_, _, _, _, _] _ _
    repeat' walk_at "s"
    all_goals first
      | (exact ⟨rfl, i, c, SeesS.of ⟨rfl, rfl, trivial⟩ rfl⟩)
      | (exfalso; rename_i hc; omega)
inductive TurnOk (w : World) (mean : ExcName → Option Value) (mg mb : Str → Option Value) (f : Fm) (P : Addr) (cw : Nat) (r a1 k x : AV) (len sc : Int) (pl z : Bool) : Prop
  | mk (text : List Nat) (told : AV) (hs : ∀ pen, SPEC (GG w mean mg mb) 7 310 [r, k, x, .int sc, .bool pl] pen (fun r p => p = pen ∧ r = .str (T text))) (hl : a1 = .int (text.length : Nat) ∨ a1 = .none ∧ len = (text.length : Nat))
    (ht : ToldS w mean mg mb r k (.int len) text sc z told) (hf : SufOk w f P cw r sc x len text told) : TurnOk w mean mg mb f P cw r a1 k x len sc pl z
inductive WordOk (w : World) (mean : ExcName → Option Value) (mg mb : Str → Option Value) (f : Fm) (P : Addr) (cw : Nat) : AV → AV → Prop
  | mk (a1 : AV) (rest : List AV) (k x : AV) (len : Int) (h : ∀ sc pl z, -1 ≤ sc ∧ sc ≤ 2 → TurnOk w mean mg mb f P cw (.tup (.str (T [cw]) :: a1 :: rest)) a1 k x len sc pl z) : WordOk w mean mg mb f P cw (.tup (.str (T [cw]) :: a1 :: rest)) (.tup [k, x, .int len])
abbrev TurnT (w : World) (mean : ExcName → Option Value) (mg mb : Str → Option Value) (f : Fm) (P : Addr) (i c : Int) (cw : Nat) : Prop := EX f (lawPre w).tail ⟨[(Str.ofString "word", .str (T [cw])), (Str.ofString "pen", .val (.ref P)), (Str.ofString "limits", .obj 328 limF)], some (P, i, c)⟩ (TurnPost w mean mg mb f P (lawSuf w))
set_option maxHeartbeats 4000000 in
theorem turn_gen {f : Fm} (hf : LawF w mean mg mb f) (P : Addr) (i c : Int) {cw : Nat} {R V : AV → Prop}
    (hitem : ∀ {n c}, SPEC (GG w mean mg mb) 3 360 [.val (.ref P), .str (T [cw])] (some (P, n, c)) (fun r q => (∃ n' c', q = some (P, n', c')) ∧ R r))
    (hval : ∀ {n c}, SPEC (GG w mean mg mb) 3 365 [.val (.ref P), .str (T [cw])] (some (P, n, c)) (fun r q => (∃ n' c', q = some (P, n', c')) ∧ V r))
    (hR : ∀ r v, R r → V v → WordOk w mean mg mb f P cw r v) :
    TurnT w mean mg mb f P i c cw := by
  obtain ⟨hG, hout, hcs, hstb, hroom⟩ := hf
  have s0 := hstb (Str.ofString "is_filled") (by decide)
  have s1 := hstb (Str.ofString "item") (by decide)
  have s2 := hstb (Str.ofString "kind") (by decide)
  have s3 := hstb (Str.ofString "length") (by decide)
  have s4 := hstb (Str.ofString "limits") (by decide)
  have s5 := hstb (Str.ofString "scale") (by decide)
  have s6 := hstb (Str.ofString "text") (by decide)
  have h8 : 8 ≤ f.room := Nat.le_trans (by decide) hroom
  clear hstb
  obtain ⟨tg, A, A₀, base, outer, g, L, cn, cs, fa, cd, cl, W, room⟩ := f
  dsimp only at hG hout hcs hroom h8
  have hcs' : cs = ⟨_, _, _, _, _⟩ := hcs
  clear hcs
  subst hG hout hcs'
  have hro : 10 ≤ room := by omega
  show EX _ [_, _, _, _, _, _] _ _
  repeat' walk_at "s"
  refine useSpecPR hitem (Nat.le_trans (by decide) hro) fun n1 c1 r hr => ?_
  repeat' walk_at "s"
  refine useSpecDR (sp_draw 4 (by decide) (by decide)) (Nat.le_trans (by decide) hro) fun n2 c2 k2 hk2 => ?_
  repeat' walk_at "s"
  refine useSpecDR (sp_draw 2 (by decide) (by decide)) (Nat.le_trans (by decide) hro) fun n3 c3 k3 hk3 => ?_
  repeat' walk_at "s"
  refine useSpecDR (sp_draw 2 (by decide) (by decide)) (Nat.le_trans (by decide) hro) fun n4 c4 k4 hk4 => ?_
  repeat' walk_at "s"
  refine useSpecPR hval (Nat.le_trans (by decide) hro) fun n5 c5 v hv => ?_
  have hsc : -1 ≤ (k2 : Int) - 1 ∧ (k2 : Int) - 1 ≤ 2 := ⟨by omega, by omega⟩
  generalize (k2 : Int) - 1 = sc at *
  generalize ((k3 : Int) == 1) = pl at *
  generalize ((k4 : Int) == 1) = z at *
  obtain ⟨a1, rest, k, x, len, hall⟩ := hR r v hr hv
  obtain ⟨text, told, hspec, hlen, htold, hsuf⟩ := hall sc pl z hsc
  repeat' walk_at "s"
  refine useSpecER (hspec _) (Nat.le_trans (by decide) hro) ?_
  repeat' walk_at "s"
  rcases hlen with rfl | ⟨rfl, rfl⟩
  all_goals
    repeat' walk_at "s"
    · rename_i hc
      exact absurd rfl hc
    · refine ⟨rfl, _, _, _, text, _, _, told, _, _, rfl, rfl, rfl, rfl, rfl, rfl, rfl, rfl, htold, ?_⟩
      refine EX.sees ?_ (hsuf n5 c5)
      exact SeesS.of ⟨rfl, rfl, rfl, rfl, rfl, rfl, rfl, rfl, rfl, rfl, trivial⟩ rfl
theorem turn_I {f : Fm} (hf : LawF w mean mg mb f) (P : Addr) (i c : Int) : TurnT w mean mg mb f P i c 73 := turn_gen hf P i c sp_item_I sp_value_I fun r v hr hv => by
  obtain ⟨wd, least, hw1, hw2, hl⟩ := hr
  obtain ⟨v, hv1, hv2⟩ := hv
  refine ⟨_, _, _, _, _, fun sc pl z hsc => ?_⟩
  have htold := told_int (w := w) (mean := mean) (mg := mg) (mb := mb) v wd (least.getD 1) pl [.int (wd : Nat), optN least] (.int 0) sc z ⟨by omega, by omega⟩ (by omega)
  have hlen := editInt_len v wd (least.getD 1) pl
  have hs := fun pen : Pen => sp_ev_I (pen := pen) _ _ [] v sc pl ((sp_edit_int (w := w) (mean := mean) (mg := mg) (mb := mb) v wd least pl (by omega) (by omega) (fun n e => by have := hl n e; omega)).up (by decide))
  generalize editInt v wd (least.getD 1) pl = text at *
  subst hlen
  exact ⟨text, _, hs, .inl rfl, htold, suf_I hf P _ sc _ v text (by omega)⟩
theorem real_ok {f : Fm} (hf : LawF w mean mg mb f) (P : Addr) {cw : Nat} (hcw : isRealW cw) {wd d : Nat} {rest : List AV} {k m e sc : Int} {pl z : Bool} {text : List Nat} (hk : k = 1 ∨ k = 2) (hw : 7 ≤ wd ∧ wd ≤ 18) (hlen : text.length = wd)
    (hs : ∀ pen, SPEC (GG w mean mg mb) 7 310 [.tup (.str (T [cw]) :: .int (wd : Nat) :: .int (d : Nat) :: rest), .int k, .tup [.int m, .int e], .int sc, .bool pl] pen (fun r p => p = pen ∧ r = .str (T text)))
    (ht : RealTurn w mean mg mb (.tup (.str (T [cw]) :: .int (wd : Nat) :: .int (d : Nat) :: rest)) m e sc d text wd z) :
    TurnOk w mean mg mb f P cw (.tup (.str (T [cw]) :: .int (wd : Nat) :: .int (d : Nat) :: rest)) (.int (wd : Nat)) (.int k) (.tup [.int m, .int e]) 0 sc pl z := by
  obtain ⟨V, hdue, hst⟩ := ht
  have htold := told_real hcw (.int (wd : Nat)) d rest k hk (.int 0) sc text wd ⟨by omega, by omega⟩ z V hst
  subst hlen
  exact ⟨text, _, hs, .inl rfl, htold, suf_real hf P hcw _ m e sc 0 V hdue text (by omega)⟩
theorem size10 {size : Option Nat} {b : Nat} (hz : ∀ n, size = some n → 2 ≤ n ∧ n ≤ b) (hb : 2 ≤ b) : size.getD 2 ≤ b := by
  cases size with
  | none => exact hb
  | some n => exact (hz n rfl).2
theorem turn_Fw {f : Fm} (hf : LawF w mean mg mb f) (P : Addr) (i c : Int) : TurnT w mean mg mb f P i c 70 := turn_gen hf P i c sp_item_F (sp_value_R (cw := 70) (by unfold isRealW; omega)) fun r v hr hv => by
  obtain ⟨wd, d, hw1, hw2, hd⟩ := hr
  obtain ⟨k, m, e, hk, hm⟩ := hv
  exact ⟨_, .int (_ : Nat) :: [], _, _, _, fun sc pl z hsc => real_ok hf P (by unfold isRealW; omega) hk ⟨by omega, by omega⟩ (fixedT_len m e wd d sc pl)
    (fun pen => sp_ev_F (pen := pen) _ _ [] k hk m e sc pl ((sp_edit_fixed m e wd d sc pl (small18 (realOk_e hm).1) (by have := realOk_e hm; omega) (by omega) (by omega) (by omega)).up (by decide)))
    (turn_F hm wd d (by omega) hd [] sc hsc pl z)⟩
theorem turn_Ew {f : Fm} (hf : LawF w mean mg mb f) (P : Addr) (i c : Int) : TurnT w mean mg mb f P i c 69 := turn_gen hf P i c sp_item_E (sp_value_R (cw := 69) (by unfold isRealW; omega)) fun r v hr hv => by
  obtain ⟨wd, d, size, hw1, hw2, hd1, hd2, hz⟩ := hr
  obtain ⟨k, m, e, hk, hm⟩ := hv
  have hk10 := size10 hz (by decide)
  exact ⟨_, .int (_ : Nat) :: [optN size], _, _, _, fun sc pl z hsc => real_ok hf P (by unfold isRealW; omega) hk ⟨by omega, by omega⟩ (expF_len 69 m e wd d (size.getD 2) sc pl)
    (fun pen => sp_ev_E (pen := pen) _ _ _ [] k hk m e sc pl ((sp_edit_exp 69 m e wd d size sc pl (small18 (realOk_e hm).1) (by have := realOk_e hm; omega) (by omega) ⟨by omega, by omega⟩ hsc (fun n h => by have := hz n h; omega) (lead_small hm hsc)).up (by decide)))
    (turn_E hm wd d (size.getD 2) (by omega) ⟨hd1, hd2⟩ (Nat.le_trans hk10 (by decide)) [optN size] sc hsc pl z)⟩
theorem turn_Dw {f : Fm} (hf : LawF w mean mg mb f) (P : Addr) (i c : Int) : TurnT w mean mg mb f P i c 68 := turn_gen hf P i c sp_item_D (sp_value_R (cw := 68) (by unfold isRealW; omega)) fun r v hr hv => by
  obtain ⟨wd, d, hw1, hw2, hd1, hd2⟩ := hr
  obtain ⟨k, m, e, hk, hm⟩ := hv
  exact ⟨_, .int (_ : Nat) :: [], _, _, _, fun sc pl z hsc => real_ok hf P (by unfold isRealW; omega) hk ⟨by omega, by omega⟩ (expF_len 68 m e wd d (Option.getD none 2) sc pl)
    (fun pen => sp_ev_D (pen := pen) _ _ [] k hk m e sc pl ((sp_edit_exp 68 m e wd d none sc pl (small18 (realOk_e hm).1) (by have := realOk_e hm; omega) (by omega) ⟨by omega, by omega⟩ hsc (fun n h => nomatch h) (lead_small hm hsc)).up (by decide)))
    (turn_D hm wd d (Option.getD none 2) (by omega) ⟨hd1, hd2⟩ (by decide) [] sc hsc pl z)⟩
theorem turn_Gw {f : Fm} (hf : LawF w mean mg mb f) (P : Addr) (i c : Int) : TurnT w mean mg mb f P i c 71 := turn_gen hf P i c sp_item_G (sp_value_R (cw := 71) (by unfold isRealW; omega)) fun r v hr hv => by
  obtain ⟨wd, d, size, hw1, hw2, hd1, hd2, hz⟩ := hr
  obtain ⟨k, m, e, hk, hm⟩ := hv
  have hk10 := size10 (b := 2) (fun n h => by have := hz n h; omega) (by decide)
  have hk2 : size.getD 2 + 2 < wd := by omega
  exact ⟨_, .int (_ : Nat) :: [optN size], _, _, _, fun sc pl z hsc => real_ok hf P (by unfold isRealW; omega) hk ⟨by omega, by omega⟩ (genT_len m e wd d (size.getD 2) sc pl (by omega))
    (fun pen => sp_ev_G (pen := pen) _ _ _ [] k hk m e sc pl ((sp_edit_general m e wd d size sc pl (small18 (realOk_e hm).1) (by have := realOk_e hm; omega) (by omega) ⟨by omega, by omega⟩ hsc (fun n h => by have := hz n h; omega) (lead_small hm hsc) hk2).up (by decide)))
    (turn_G hm wd d (size.getD 2) (by omega) ⟨hd1, hd2⟩ (by omega) hk2 [optN size] sc hsc pl z)⟩
theorem turn_L {f : Fm} (hf : LawF w mean mg mb f) (P : Addr) (i c : Int) : TurnT w mean mg mb f P i c 76 := turn_gen hf P i c sp_item_L sp_value_L fun r v hr hv => by
  obtain ⟨wd, hw1, hw2⟩ := hr
  obtain ⟨b⟩ := hv
  refine ⟨_, _, _, _, _, fun sc pl z hsc => ?_⟩
  have htold := told_logical (w := w) (mean := mean) (mg := mg) (mb := mb) b wd ⟨by omega, by omega⟩ [.int (wd : Nat)] (.int 0) sc z
  have hlen := fieldT_len [if b = true then 84 else 70] wd
  have hs := fun pen : Pen => sp_ev_L (pen := pen) _ [] b sc pl ((sp_edit_logical (w := w) (mean := mean) (mg := mg) (mb := mb) b wd (by omega)).up (by decide))
  generalize fieldT [if b = true then 84 else 70] wd = text at *
  subst hlen
  exact ⟨text, _, hs, .inl rfl, htold, suf_L hf P _ sc _ b text (by omega)⟩
theorem turn_A {f : Fm} (hf : LawF w mean mg mb f) (P : Addr) (i c : Int) : TurnT w mean mg mb f P i c 65 := turn_gen hf P i c sp_item_A sp_value_A fun r v hr hv => by
  obtain ⟨wd, hwd⟩ := hr
  obtain ⟨t, ht1, ht2, h128⟩ := hv
  refine ⟨_, _, _, _, _, fun sc pl z hsc => ?_⟩
  have htold := told_text (w := w) (mean := mean) (mg := mg) (mb := mb) t wd (by omega) (fun n e => by have := hwd n e; omega) [optN wd] sc z
  have hlen := textT_len t wd
  have hs := fun pen : Pen => sp_ev_A (pen := pen) _ [] t sc pl ((sp_edit_text (w := w) (mean := mean) (mg := mg) (mb := mb) t wd (by omega) (fun n e => by have := hwd n e; omega)).up (by decide))
  generalize textT t wd = text at *
  cases wd with
  | none =>
    replace hlen : text.length = t.length := hlen
    have h := suf_A hf P (.tup [.str (T [65]), optN none]) sc t text (by omega) (by omega) h128
    rw [if_neg (by omega)] at h
    exact ⟨text, _, hs, .inr ⟨rfl, by omega⟩, htold, h⟩
  | some n =>
    have hn := hwd n rfl
    replace hlen : text.length = n := hlen
    subst hlen
    exact ⟨text, _, hs, .inl rfl, htold, suf_A hf P _ sc t text (by omega) (by omega) h128⟩
end
section
theorem mem7 {a b c d e' f' g' r : AV} (h : r ∈ [a, b, c, d, e', f', g']) : r = a ∨ r = b ∨ r = c ∨ r = d ∨ r = e' ∨ r = f' ∨ r = g' := by simpa using h
theorem turn_pre {f : Fm} (hf : LawF w mean mg mb f) (P : Addr) {σ : Sto} (hs : Jt P σ) : EX f (lawPre w) σ (TurnPost w mean mg mb f P (lawSuf w)) := by
  obtain ⟨i, c, hs⟩ := hs
  refine EX.sees hs ?_
  have tI := turn_I hf P
  have tE := turn_Ew hf P
  have tF := turn_Fw hf P
  have tG := turn_Gw hf P
  have tD := turn_Dw hf P
  have tL := turn_L hf P
  have tA := turn_A hf P
  obtain ⟨hG, hout, hcs, hstb, hroom⟩ := hf
  clear hstb
  obtain ⟨tg, A, A₀, base, outer, g, L, cn, cs, fa, cd, cl, W, room⟩ := f
  dsimp only at hG hout hcs hroom
  have hcs' : cs = ⟨_, _, _, _, _⟩ := hcs
  clear hcs
  subst hG hout hcs'
  have hro : 10 ≤ room := by omega
  show EX _ [_, _, _, _, _, _, _] _ _
  repeat' walk_at "s"
  refine useSpecPR (sp_pickT _ (by decide) (by decide)) (Nat.le_trans (by decide) hro) fun n1 c1 r hr => ?_
  rcases mem7 hr with rfl | rfl | rfl | rfl | rfl | rfl | rfl
  · exact ⟨.inl rfl, tE n1 c1⟩
  · exact ⟨.inl rfl, tF n1 c1⟩
  · exact ⟨.inl rfl, tG n1 c1⟩
  · exact ⟨.inl rfl, tI n1 c1⟩
  · exact ⟨.inl rfl, tD n1 c1⟩
  · exact ⟨.inl rfl, tL n1 c1⟩
  · exact ⟨.inl rfl, tA n1 c1⟩
end
section
structure LamIn (K : Frag) (N : Led) (fo c' : Addr) (name qual : Str) (params : Arguments) (body : PySem.Expr) (scope : Scope) (cl : List (Str × Addr)) (σ : List (Str × AV)) : Prop where
  fn : ∃ pm ctv, (fo, kla_obj name qual params body scope cl pm c' ctv) ∈ N
  code : ∃ oc vs t, (c', oc) ∈ N ∧ oc.data = .fields vs ∧ vs[1]? = some (.str qual t)
  cells : ∀ x c, cl.lookup x = some c → ∃ o v₀, (c, o) ∈ N ∧ o.data = .cell v₀
  loc : ∀ x av, σ.lookup x = some av → scope.names.lookup x = some .free ∧ ∃ c o v, cl.lookup x = some c ∧ (c, o) ∈ N ∧ o.data = .cell (some v) ∧ Rep K N av v
theorem LamIn.mono {K : Frag} {N N' : Led} {fo c' : Addr} {name qual : Str} {params : Arguments} {body : PySem.Expr} {scope : Scope} {cl : List (Str × Addr)} {σ : List (Str × AV)} (l : LamIn K N fo c' name qual params body scope cl σ) (h : ∀ q ∈ N, q ∈ N') : LamIn K N' fo c' name qual params body scope cl σ :=
  ⟨let ⟨a, b, e⟩ := l.fn; ⟨a, b, h _ e⟩, let ⟨a, b, c, e, r⟩ := l.code; ⟨a, b, c, h _ e, r⟩, fun x c e => let ⟨o, v, m, r⟩ := l.cells x c e; ⟨o, v, h _ m, r⟩,
    fun x av e => let ⟨a, c, o, v, b, m, d, r⟩ := l.loc x av e; ⟨a, c, o, v, b, h _ m, d, r.mono (tupSub_of h)⟩⟩
section
variable {f : Fm} {need : Nat} {fo c' : Addr} {name qual : Str} {params : Arguments} {body : PySem.Expr} {scope : Scope} {cl : List (Str × Addr)} {loc : List (Str × AV)}
theorem lam_call {Q : AV → Prop} (O : f.Ok) (hr : need + 1 ≤ f.room) {E : Value → Shared → Prop} {s : Shared} {m : Str → Option Value} {N : Led} (F : Fr f.g f.L s.heap m) (n : News f.g f.L s.heap N) (I : LamIn f.K N fo c' name qual params body scope cl loc)
    (hb : ∀ pm ctv, bindArgs (kla_fn name qual params body scope cl pm (.ref c') ctv) ⟨[], []⟩ = pure []) (hco : scope.isCoroutine = false) (hgen : scope.isGenerator = false) (hk : scope.kind = .function) (hcell : ∀ x ∈ scope.names, x.2 ≠ .cell) (hdb : ∀ x ∈ scope.names, (x.1 == ("__debug__" : Str)) = false ∧ (x.1 == ("__classdict__" : Str)) = false)
    (h : ∀ (A A₀ : Around) (base : Heap) (outer : List Env) (g : Heap) (L : Addr), EV ⟨f.toGl, A, A₀, base, outer, g, L, qual, scope, fo, .ref c', cl, [], need⟩ body ⟨loc, none⟩ fun a _ => Q a) :
    wpAny (model f.prog f.w) f.A (call (.ref fo) []) (PostC f s m N none fun a _ => Q a) E s := by
  obtain ⟨pm, ctv, hfo⟩ := I.fn
  obtain ⟨oc, vs, t, hc, hcd, hcv⟩ := I.code
  refine wpAny_call (kla_code (binds := []) O.B F O.X n O.T O.hA rfl O.hk hfo ⟨c', oc, vs, t, rfl, (n _ hc).1, hcd, hcv⟩ (Nat.lt_of_le_of_lt (Nat.le_add_right _ _) O.hd) (hb pm ctv) (fun y hy => nomatch hy) (fun g L' h₁ FG F' N' B' X' T' => ?_) hco hgen hk hcell)
  let f' : Fm := ⟨f.toGl, f.A.deeper (envX qual scope L' fo (.ref c') cl), f.A, f.base, f.env :: f.outer, g, L', qual, scope, fo, .ref c', cl, [], need⟩
  have O' : f'.Ok := ⟨B', X', T', Around.frames_deeper O.hA, O.hh, hk, by show f.A.depth + 1 + need < _; have := O.hd; omega, by show f.A.units + 3 + 8 * need + 8 < _; have := O.hu; omega, hdb⟩
  have I' : Inv f' h₁ (fun y => ([] : List (Str × Value)).reverse.lookup y) N ⟨loc, none⟩ := by
    refine ⟨F', N', fun y av e => .inr ?_, (fun P' n' c' e => nomatch e), (fun P' n' c' e => nomatch e), (fun c hc => nomatch hc), fun y c hc => I.cells y c hc⟩
    obtain ⟨a, c, o, v, r⟩ := I.loc y av e
    exact ⟨.inr a, c, o, v, r⟩
  refine PostV.k (h _ _ _ _ _ _ O' _ { s with heap := h₁, toks := _ } _ N I') fun av σ' h' tk' N₁ v I₁ E₁ R₁ q => ?_
  refine leaveK_ I₁.F I₁.nw fun F₂ N₂ => ?_
  exact ⟨av, none, h', tk', N₁, rfl, F₂, N₂, fun q hq hw => E₁ q hq hw, (fun P n c e => nomatch e), (fun P n c e => nomatch e), R₁, q, fun c hc => nomatch hc⟩
theorem lam_raise (O : f.Ok) (hr : need + 1 ≤ f.room) {E : Value → Shared → Prop} {s : Shared} {m : Str → Option Value} {N : Led} (F : Fr f.g f.L s.heap m) (n : News f.g f.L s.heap N) (I : LamIn f.K N fo c' name qual params body scope cl loc)
    (hb : ∀ pm ctv, bindArgs (kla_fn name qual params body scope cl pm (.ref c') ctv) ⟨[], []⟩ = pure []) (hco : scope.isCoroutine = false) (hgen : scope.isGenerator = false) (hk : scope.kind = .function) (hcell : ∀ x ∈ scope.names, x.2 ≠ .cell) (hdb : ∀ x ∈ scope.names, (x.1 == ("__debug__" : Str)) = false ∧ (x.1 == ("__classdict__" : Str)) = false)
    (h : ∀ (A A₀ : Around) (base : Heap) (outer : List Env) (g : Heap) (L : Addr), EVR ⟨f.toGl, A, A₀, base, outer, g, L, qual, scope, fo, .ref c', cl, [], need⟩ body ⟨loc, none⟩) (hE : ∀ e s', Flt f m N s e s' → E e s') :
    wpAny (model f.prog f.w) f.A (call (.ref fo) []) (fun _ _ => False) E s := by
  obtain ⟨pm, ctv, hfo⟩ := I.fn
  obtain ⟨oc, vs, t, hc, hcd, hcv⟩ := I.code
  have noL : f.g.get? f.L = none := Heap.get?_none_of_le F.above
  refine wpAny_call (kla_code (binds := []) O.B F O.X n O.T O.hA rfl O.hk hfo ⟨c', oc, vs, t, rfl, (n _ hc).1, hcd, hcv⟩ (Nat.lt_of_le_of_lt (Nat.le_add_right _ _) O.hd) (hb pm ctv) (fun y hy => nomatch hy) (fun g L' h₁ FG F' N' B' X' T' => ?_) hco hgen hk hcell)
  let f' : Fm := ⟨f.toGl, f.A.deeper (envX qual scope L' fo (.ref c') cl), f.A, f.base, f.env :: f.outer, g, L', qual, scope, fo, .ref c', cl, [], need⟩
  have O' : f'.Ok := ⟨B', X', T', Around.frames_deeper O.hA, O.hh, hk, by show f.A.depth + 1 + need < _; have := O.hd; omega, by show f.A.units + 3 + 8 * need + 8 < _; have := O.hu; omega, hdb⟩
  have I' : Inv f' h₁ (fun y => ([] : List (Str × Value)).reverse.lookup y) N ⟨loc, none⟩ := by
    refine ⟨F', N', fun y av e => .inr ?_, (fun P' n' c' e => nomatch e), (fun P' n' c' e => nomatch e), (fun c hc => nomatch hc), fun y c hc => I.cells y c hc⟩
    obtain ⟨a, c, o, v, r⟩ := I.loc y av e
    exact ⟨.inr a, c, o, v, r⟩
  refine wpAny_mono (h _ _ _ _ _ _ O' _ { s with heap := h₁, toks := _ } _ N I' fun e s' x => ?_) (fun _ _ x => x.elim) fun _ _ x => x
  obtain ⟨ea, d, B, h', tk', mA, tc, rfl, rfl, a0, a1, a2, a3, a5, a6⟩ := x
  refine a0 _ _ fun h'' T'' u => ?_
  refine hE _ _ ⟨ea, d, B, h'', tk', mA, tc, rfl, rfl, T'', fun b o hb hn => a1 b o (FG.keep b o hb) (fun hm => ?_), a2, (fun b o hb hn => (a3.trans u) b o (FG.keep b o hb) hn), (a3.trans u).ns FG.ns, a5, a6⟩
  rcases List.mem_cons.mp (show b ∈ f.L :: frs f.outer from hm) with rfl | hm
  · rw [noL] at hb; cases hb
  · exact hn hm
end
end
section
theorem enterS0 {f : Fm} {need : Nat} {fa : Addr} {args : List AV} {name qual : Str} {params : Arguments} {body : List Stmt} {scope : Scope} {dV kV doc pm cdv ct oc : Value} {an od : Option Addr} {osl : Array (Option Value)} {E : Value → Shared → Prop} {s : Shared} {m : Str → Option Value} {N : Led} {vs : List Value} {R : Value → Shared → Led → Prop} (names : List Str)
    (O : f.Ok) (hout : f.outer = []) (hr : need + 1 ≤ f.room) (F : Fr f.g f.L s.heap m) (n : News f.g f.L s.heap N) (Ra : RepL f.K N args vs)
    (ho : f.K.lookup fa = some ⟨oc, od, .func (fnOf name qual params body scope dV kV doc pm an cdv ct), osl⟩) (hcd : codeIn f.K cdv qual = true)
    (hb : HBind (fnOf name qual params body scope dV kV doc pm an cdv ct) names args.length) (hnd : names.Nodup) (hlen : names.length = args.length)
    (hloc : ∀ x ∈ names, scope.names.lookup x = some .local)
    (hco : scope.isCoroutine = false) (hgen : scope.isGenerator = false) (hk : scope.kind = .function) (hcell : ∀ x ∈ scope.names, x.2 ≠ .cell) (hdb : ∀ x ∈ scope.names, (x.1 == ("__debug__" : Str)) = false ∧ (x.1 == ("__classdict__" : Str)) = false)
    (h : ∀ (A A₀ : Around) (base : Heap) (outer : List Env) (g : Heap) (L : Addr) (E' : Value → Shared → Prop) (h₁ : Heap) (tk : Nat) (m₁ : Str → Option Value), Fm.Ok ⟨f.toGl, A, A₀, base, outer, g, L, qual, scope, fa, cdv, [], [], need⟩ →
      (∀ g', KtsTurn (frs outer) g g' → f.K.In g' ∧ Top f.p f.loose f.mean f.mg f.mb g') → (∀ b ∈ frs outer, ∃ o, g.get? b = some o ∧ ∀ vs, o.data ≠ .fields vs) →
      Inv ⟨f.toGl, A, A₀, base, outer, g, L, qual, scope, fa, cdv, [], [], need⟩ h₁ m₁ N ⟨names.zip args, none⟩ →
      wpAny (model f.prog f.w) A (execs body (envX qual scope L fa cdv [])) (fun fl s' => ∃ g' m' N', KtsTurn (frs outer) g g' ∧ Fr g' L s'.heap m' ∧ News g' L s'.heap N' ∧ R (match fl with | .ret v => v | _ => .none) s' N') E' { s with heap := h₁, toks := tk }) :
    wpAny (model f.prog f.w) f.A (call (.ref fa) vs) (fun v s' => ∃ N', Fr f.g f.L s'.heap m ∧ News f.g f.L s'.heap N' ∧ R v s' N') E s := by
  have X := O.X.keeps F.keep
  have nL₀ : f.g.get? f.L = none := Heap.get?_none_of_le F.above
  refine wpAny_call (codeAny_call_def (fd := fnOf name qual params body scope dV kV doc pm an cdv ct) (body := body) (binds := names.zip vs) (Nat.lt_of_le_of_lt (Nat.le_add_right _ _) O.hd) (X _ _ ho) rfl (O.T.nolimit.keeps F.keep) (codeRec_of X hcd) rfl (BindsTo.of_eq (hb vs Ra.length)) hcell (fun y hy => hloc _ (List.of_mem_zip hy).1) (fun h₁ hns hk₁ => ?_) hco hgen hk)
  obtain ⟨FG, BG, st, _⟩ := groundX (R := fun _ _ => True) O.B F n O.hA rfl O.hk
  obtain ⟨oL, es, ep, hLg, hLd, rest⟩ := FG.ns
  have hfr : ∀ b, b ∈ frs (f.env :: f.outer) → b = f.L := fun b hb => by
    rw [hout] at hb
    exact List.mem_singleton.mp (show b ∈ [f.L] from hb)
  have keep : ∀ g', KtsTurn (frs (f.env :: f.outer)) (hideAll s.heap (N.map (·.1))) g' → f.g.StaysIn g' := fun g' T b o e => T.other b o (st b o e) fun q => by
    rw [hfr b q, nL₀] at e; cases e
  let f' : Fm := ⟨f.toGl, f.A.deeper (envOf qual scope s.heap.objs.size fa cdv), f.A, f.base, f.env :: f.outer, hideAll s.heap (N.map (·.1)), s.heap.objs.size, qual, scope, fa, cdv, [], [], need⟩
  have O' : f'.Ok := ⟨BG, O.X.keeps st, O.T.keeps st, Around.frames_deeper O.hA, O.hh, hk, by show f.A.depth + 1 + need < _; have := O.hd; omega, by show f.A.units + 3 + 8 * need + 8 < _; have := O.hu; omega, hdb⟩
  have hnd' : ((names.zip vs).map (·.1)).Nodup := by
    rw [List.map_fst_zip (by rw [hlen, Ra.length]; exact Nat.le_refl _)]; exact hnd
  have I' : Inv f' h₁ (fun y => (names.zip vs).reverse.lookup y) N ⟨names.zip args, none⟩ := by
    refine ⟨⟨hns, fun b o e => hk₁ b o (of_hideAll _ e), Nat.le_of_eq (hideAll_size _ _)⟩, (fun p hp => ⟨hk₁ _ _ (n p hp).1, Nat.ne_of_lt (Heap.lt_size (n p hp).1), hideAll_none _ (List.mem_map_of_mem hp)⟩), fun y av e => .inl ?_, (fun P' n' c' e => nomatch e), (fun P' n' c' e => nomatch e), (fun c hc => nomatch hc), fun y c hc => nomatch hc⟩
    obtain ⟨v, hv, hr⟩ := lookup_zip Ra e
    exact ⟨hloc y (List.of_mem_zip (mem_of_lookup hv)).1, v, (lookup_rev hnd' y).trans hv, hr⟩
  refine wpAny_mono (h _ _ _ _ _ _ _ h₁ _ _ O' (fun g' T => ⟨O.X.keeps (keep g' T), O.T.keeps (keep g' T)⟩) (fun b hb => ?_) I') (fun fl s₁ p => ?_) fun _ _ e => e
  · rw [hfr b hb]
    exact ⟨oL, hLg, fun vs q => by rw [hLd] at q; cases q⟩
  obtain ⟨g', m', N', T', F', N₂, r⟩ := p
  obtain ⟨sl, hs⟩ := T'.up hLg
  refine ⟨N', ⟨⟨_, es, ep, F'.keep _ _ hs, hLd, rest⟩, fun b o e => F'.keep b o (keep g' T' b o e), F.above⟩, fun p hp => ⟨(N₂ p hp).1, fun q => ?_, ?_⟩, r⟩
  · have := (N₂ p hp).2.2; rw [q, hs] at this; cases this
  · cases q : f.g.get? p.1 with
    | none => rfl
    | some o =>
      have := (N₂ p hp).2.2
      rw [keep g' T' _ _ q] at this
      cases this
theorem thr_ground {f : Fm} {B : Heap} {e d : Addr} {C fl : Value} {l : List Env} {h : Heap} {m : Str → Option Value} (hfs : ∀ b ∈ frs f.outer, ∃ o, f.g.get? b = some o ∧ ∀ vs, o.data ≠ .fields vs) (a1 : ∀ b o, f.g.get? b = some o → b ∉ frs f.outer → B.get? b = some o) (T : Thr B l e C d fl h) (u : UpS f.g h) (ns : h.Ns f.L m) (above : f.g.objs.size ≤ f.L) :
    ∃ g', KtsTurn (frs f.outer) f.g g' ∧ Fr g' f.L h m := by
  obtain ⟨T', S⟩ := kts_turn_at (h := h) (fs := frs f.outer) (g := f.g) (fun b hb => let ⟨o, e, _⟩ := hfs b hb; ⟨o, e⟩) (fun b o e nm => T.stay b o (a1 b o e nm)) (fun b o e hm => by
    obtain ⟨o', e', hn⟩ := hfs b hm
    rw [e] at e'; cases e'
    exact u b o e hn)
  exact ⟨_, T', ns, S, by rw [T'.size]; exact above⟩
theorem look_ns1 {B : Heap} {d : Addr} {mA : Str → Option Value} {x : Str} {v : Value} (n : B.Ns1 d mA) (e : mA x = some v) : ∃ od, B.get? d = some od ∧ lookIn x od = some (some v) := by
  obtain ⟨od, es, ep, h1, h2, _, _, h3⟩ := n
  refine ⟨od, h1, ?_⟩
  unfold lookIn
  rw [h2]
  have := (h3 x).trans e
  unfold nsFind findBy at this
  dsimp only
  rw [← Array.find?_toList] at this
  cases hq : es.toList.find? (·.key.isStr x) with
  | none => simp [hq] at this
  | some en => simp [hq] at this; simp [this]
end
section
section
variable {need : Nat} {fo c' : Addr} {name qual : Str} {params : Arguments} {body : PySem.Expr} {scope : Scope} {cl : List (Str × Addr)} {loc : List (Str × AV)}
def Heard (s : Shared) (K : Frag) (N : Led) (r : AV) (v : Value) (s' : Shared) (N' : Led) : Prop := (∃ h' tk', s' = { s with heap := h', toks := tk' }) ∧ (∀ q ∈ N, q ∈ N') ∧ Rep K N' r v
theorem heard_ok {f : Fm} (hG : f.toGl = GG w mean mg mb) (O : f.Ok) (hout : f.outer = []) (hr : need + 2 + 1 ≤ f.room) {E : Value → Shared → Prop} {s : Shared} {m : Str → Option Value} {N : Led} (F : Fr f.g f.L s.heap m) (n : News f.g f.L s.heap N) (I : LamIn f.K N fo c' name qual params body scope cl loc) {a : AV}
    (hb : ∀ pm ctv, bindArgs (kla_fn name qual params body scope cl pm (.ref c') ctv) ⟨[], []⟩ = pure []) (hco : scope.isCoroutine = false) (hgen : scope.isGenerator = false) (hk : scope.kind = .function) (hcell : ∀ x ∈ scope.names, x.2 ≠ .cell) (hdb : ∀ x ∈ scope.names, (x.1 == ("__debug__" : Str)) = false ∧ (x.1 == ("__classdict__" : Str)) = false)
    (h : ∀ (A A₀ : Around) (base : Heap) (outer : List Env) (g : Heap) (L : Addr), EV ⟨GG w mean mg mb, A, A₀, base, outer, g, L, qual, scope, fo, .ref c', cl, [], need⟩ body ⟨loc, none⟩ fun r _ => r = a) :
    wpAny (model f.prog f.w) f.A (call (.ref 386) [.ref fo]) (fun v s' => ∃ N', Fr f.g f.L s'.heap m ∧ News f.g f.L s'.heap N' ∧ Heard s f.K N (.tup [.str (Str.ofString "ok"), a]) v s' N') E s := by
  obtain ⟨tg, A, A₀, base, outer, g, L, cn, cs, fa, cd, cl', W, room⟩ := f
  dsimp only at hG
  subst hG
  refine' enterS0 (need := need + 2) (args := [.val (.ref fo)]) (R := fun v s' N' => Heard s (GG w mean mg mb).K N (.tup [.str (Str.ofString "ok"), a]) v s' N') [Str.ofString "ask"] O hout hr F n (RepL.mkCons Rep.mkVal RepL.mkNil) ?ho ?hcd ?hb ?hnd ?hlen ?hloc ?hco ?hgen ?hk ?hcell ?hdb ?h
  walk_at "in"
  rename_i A A₀ base outer g L
  intro E' h₁ tk m₁ O' hK hfs I'
  dsimp only at O' hK I' ⊢
  refine genP fun P0 p0 => ?_
  refine wpAny_execs_cons (wpAny_Try_except (wpAny_execs_cons (wpAny_Return_some (Tuple_ (wpAny_items_cons (wpAny_Constant_str (wpAny_items_cons ?_ (by rfl))) (by rfl))))))
  refine Call_ (PostV.kk (EV.name (Q := fun r σ' => r = .val (.ref fo) ∧ σ' = ⟨[(Str.ofString "ask", .val (.ref fo))], none⟩) rfl ⟨rfl, rfl⟩ O' _ { s with heap := h₁, toks := tk + 1 } m₁ N I') fun h₂ t₂ N₂ v I₂ E₂ R₂ => ?_) (by rfl)
  obtain rfl := R₂.outVal
  have sub₂ : ∀ q ∈ N, q ∈ N₂ := fun q hq => E₂ q hq List.not_mem_nil
  have L₂ := I.mono sub₂
  obtain ⟨pm, ctv, hfo⟩ := L₂.fn
  refine callWith_F0 (FnAt.of I₂.nw hfo) ?_
  refine wpAny_mono (lam_call (Q := fun r => r = a) O' (show need + 1 ≤ need + 2 by omega) (s := { s with heap := h₂, toks := t₂ }) I₂.F I₂.nw L₂ hb hco hgen hk hcell hdb h) (fun v s₃ p => ?_) fun _ _ e => e
  obtain ⟨_, _, h₃, t₃, N₃, rfl, F₃, n₃, E₃, _, _, R₃, rfl, _⟩ := p
  refine wpAny_items_nil (newTuple_N (s := { s with heap := h₃, toks := t₃ }) F₃ n₃ (fun h' F' N' => ?_) (by show 2 ≤ sizeLine; decide))
  refine p0 _ _ ⟨g, m₁, _, .refl, F', N', ⟨h', _, rfl⟩, fun q hq => .tail _ (E₃ q (sub₂ q hq) (by show q.1 ∉ []; exact List.not_mem_nil)), _, _, 0, rfl, .inl (.head _), _, _, rfl, ⟨by decide, _, rfl⟩, _, _, rfl, R₃.mono (tupSub_of fun q hq => .tail _ hq), rfl⟩
set_option maxHeartbeats 4000000 in
theorem heard_bad {f : Fm} (hG : f.toGl = GG w mean mg mb) (O : f.Ok) (hout : f.outer = []) (hr : need + 2 + 1 ≤ f.room) {E : Value → Shared → Prop} {s : Shared} {m : Str → Option Value} {N : Led} (F : Fr f.g f.L s.heap m) (n : News f.g f.L s.heap N) (I : LamIn f.K N fo c' name qual params body scope cl loc)
    (hb : ∀ pm ctv, bindArgs (kla_fn name qual params body scope cl pm (.ref c') ctv) ⟨[], []⟩ = pure []) (hco : scope.isCoroutine = false) (hgen : scope.isGenerator = false) (hk : scope.kind = .function) (hcell : ∀ x ∈ scope.names, x.2 ≠ .cell) (hdb : ∀ x ∈ scope.names, (x.1 == ("__debug__" : Str)) = false ∧ (x.1 == ("__classdict__" : Str)) = false)
    (h : ∀ (A A₀ : Around) (base : Heap) (outer : List Env) (g : Heap) (L : Addr), EVR ⟨GG w mean mg mb, A, A₀, base, outer, g, L, qual, scope, fo, .ref c', cl, [], need⟩ body ⟨loc, none⟩) :
    wpAny (model f.prog f.w) f.A (call (.ref 386) [.ref fo]) (fun v s' => ∃ N', Fr f.g f.L s'.heap m ∧ News f.g f.L s'.heap N' ∧ Heard s f.K N (.tup [.str (Str.ofString "fault"), .int 1]) v s' N') E s := by
  obtain ⟨tg, A, A₀, base, outer, g, L, cn, cs, fa, cd, cl', W, room⟩ := f
  dsimp only at hG
  subst hG
  refine' enterS0 (need := need + 2) (args := [.val (.ref fo)]) (R := fun v s' N' => Heard s (GG w mean mg mb).K N (.tup [.str (Str.ofString "fault"), .int 1]) v s' N') [Str.ofString "ask"] O hout hr F n (RepL.mkCons Rep.mkVal RepL.mkNil) ?ho ?hcd ?hb ?hnd ?hlen ?hloc ?hco ?hgen ?hk ?hcell ?hdb ?h
  walk_at "in"
  rename_i A A₀ base outer g L
  intro E' h₁ tk m₁ O' hK hfs I'
  dsimp only at O' hK I' ⊢
  refine genP fun P0 p0 => ?_
  refine wpAny_execs_cons (wpAny_Try_except (wpAny_execs_cons (wpAny_Return_some (Tuple_ (wpAny_items_cons (wpAny_Constant_str (wpAny_items_cons ?_ (by rfl))) (by rfl))))))
  refine Call_ (PostV.kk (EV.name (Q := fun r σ' => r = .val (.ref fo) ∧ σ' = ⟨[(Str.ofString "ask", .val (.ref fo))], none⟩) rfl ⟨rfl, rfl⟩ O' _ { s with heap := h₁, toks := tk + 1 } m₁ N I') fun h₂ t₂ N₂ v I₂ E₂ R₂ => ?_) (by rfl)
  obtain rfl := R₂.outVal
  have sub₂ : ∀ q ∈ N, q ∈ N₂ := fun q hq => E₂ q hq List.not_mem_nil
  have L₂ := I.mono sub₂
  obtain ⟨pm, ctv, hfo⟩ := L₂.fn
  refine genP fun P1 _ => ?_
  refine genE fun E1 e1 => ?_
  refine callWith_F0 (FnAt.of I₂.nw hfo) ?_
  refine wpAny_mono (lam_raise O' (show need + 1 ≤ need + 2 by omega) (s := { s with heap := h₂, toks := t₂ }) I₂.F I₂.nw L₂ hb hco hgen hk hcell hdb h fun e s' x => ?_) (fun _ _ x => x.elim) fun _ _ e => e
  obtain ⟨ea, d, B, h₃, tk₃, mA, tc, rfl, rfl, T₃, a1, a2, u₃, ns₃, a5, a6⟩ := x
  refine e1 _ _ ?_
  refine note_next (s := { s with heap := h₃, toks := tk₃ }) O'.hA rfl T₃ fun h₄ T₄ u₄ => ?_
  refine flight_set (s := { s with heap := h₄, toks := tk₃ }) (fr := none) T₄ fun h₅ T₅ u₅ => ?_
  have u' := (u₃.trans u₄).trans u₅
  have ns' : h₅.Ns L m₁ := (UpS.trans (UpS.trans (fun b o e _ => ⟨o.slots, e⟩) u₄) u₅).ns ns₃
  obtain ⟨g₅, K₅, F₅⟩ := thr_ground (f := ⟨GG w mean mg mb, A, A₀, base, outer, g, L, _, _, 386, _, [], [], need + 2⟩) hfs a1 T₅ u' ns' I'.F.above
  obtain ⟨X₅, P₅⟩ := hK g₅ K₅
  refine genP fun P2 p2 => ?_
  refine genE fun E2 _ => ?_
  refine wpAny_handleBy_cons (codeAny_handlers_test (nameX_K F₅ X₅ (topRead_of P₅) k_io ?_ rfl rfl (by decide))) (by intro q; cases q)
  obtain ⟨nm, qq, NN, bs, hdct, sn, sub, ab, col, dd, k0, k1, k2, k3, k5, hC, _, _⟩ := k_obj (w := w)
  have hC₅ := F₅.keep _ _ (X₅ _ _ hC)
  obtain ⟨oe, ves, Tt, oT, ts, he, hec, hed, hedt, he1, hnT, hTe, hT, hTd, hT3⟩ := T₅.tr
  refine wpAny_excMatches_sub_self hC₅ he hec (by decide +kernel) (codeAny_handlers_suite_as ?_)
  refine flight_set (s := { s with heap := h₅, toks := tk₃ }) (fr := none) T₅ fun h₆ T₆ u₆ => ?_
  have u'' := u'.trans u₆
  have ns'' : h₆.Ns L m₁ := (UpS.trans (fun b o e _ => ⟨o.slots, e⟩) u₆).ns ns'
  obtain ⟨g₆, K₆, F₆⟩ := thr_ground (f := ⟨GG w mean mg mb, A, A₀, base, outer, g, L, _, _, 386, _, [], [], need + 2⟩) hfs a1 T₆ u'' ns'' I'.F.above
  obtain ⟨X₆, P₆⟩ := hK g₆ K₆
  have hBL : B.get? L = none := by
    obtain ⟨_, ⟨L', o, hf, hn, _⟩, _⟩ := T₆.fr
    obtain rfl : L = L' := Option.some.inj hf
    exact hn
  have n₆ : News g₆ L h₆ N₂ := fun q hq => ⟨T₆.stay _ _ (a2 q hq), (fun z => by
      have := a2 q hq
      rw [z, hBL] at this; cases this), K₆.none_ _ (I₂.nw q hq).2.2⟩
  obtain ⟨oe, ves, Tt, oT, ts, he, hec, hed, hedt, he1, hnT, hTe, hT, hTd, hT3⟩ := T₆.tr
  obtain ⟨od, hod, hlook⟩ := look_ns1 a5 a6
  have heL : ea ≠ L := fun z => by
    obtain ⟨o, es, ep, ho, hd', _⟩ := ns''
    rw [← z, he] at ho; cases ho
    rw [hedt] at hd'; cases hd'
  have hdL : d ≠ L := fun z => by rw [z, hBL] at hod; cases hod
  refine wpAny_storeName_local (s := { s with heap := h₆, toks := tk₃ }) rfl ns'' (fun h₇ ns₇ hs₇ => ?_) rfl
  have F₇ : Fr g₆ L h₇ _ := F₆.set ns₇ hs₇
  have n₇ : News g₆ L h₇ N₂ := n₆.set hs₇
  refine genP fun P3 p3 => ?_
  refine genE fun E3 _ => ?_
  refine wpAny_execs_cons (wpAny_Return_some (Tuple_ (wpAny_items_cons (wpAny_Constant_str (wpAny_items_cons ?_ (by rfl))) (by rfl))))
  refine Attribute_name (nameX_L F₇ (v := .ref ea) rfl ?_ rfl rfl (by decide))
  refine exc_get (v := .int 1 tc) (X₆.keeps F₇.keep) (ox := oe) (od := some od) ⟨(hs₇.2 ea heL).trans he, hec, by unfold notCls; rw [hedt], by rw [hed]; exact (hs₇.2 d hdL).trans (T₆.stay _ _ hod)⟩ k_ga k_no k_mB ?_ rfl ?_
  · obtain ⟨cd, hcd, _, hdict⟩ := k_cls (w := w)
    exact findObj_own (by unfold hasDictIn; rw [hcd]; exact hdict) k_code rfl hlook
  refine wpAny_items_nil (newTuple_N F₇ n₇ (fun h₈ F₈ n₈ => ?_) (by show 2 ≤ sizeLine; decide))
  refine p3 _ _ ?_
  refine wpAny_nameGoes rfl F₈.ns rfl fun h₉ m₉ ns₉ hs₉ => ?_
  refine p2 _ _ (p0 _ _ ?_)
  refine ⟨g₆, m₉, _, K₆, F₈.set ns₉ hs₉, n₈.set hs₉, ⟨h₉, _, rfl⟩, fun q hq => .tail _ (sub₂ q hq), _, _, 0, rfl, .inl (.head _), _, _, rfl, ⟨by decide, _, rfl⟩, _, _, rfl, ⟨_, rfl⟩, rfl⟩
end
end
section
def Tab (pos : Pos) (qual : Str) (W : List Addr) (N : Led) : Prop := ∃ ps, (388, tabObj ps) ∈ N ∧ TriplesOk ps.toList ∧
  (codeAmong pos ps.toList = none ∨ ∃ c' oc vs t, codeAmong pos ps.toList = some (.ref c') ∧ (c', oc) ∈ N ∧ c' ∉ W ∧ c' ≠ 388 ∧ oc.data = .fields vs ∧ vs[1]? = some (.str qual t))
theorem Tab.ext {f : Fm} {pos : Pos} {qual : Str} {N N' : Led} (h : Tab pos qual f.W N) (hW : 388 ∉ f.W) (E : Ext f N N') : Tab pos qual f.W N' := by
  obtain ⟨ps, a, b, c⟩ := h
  refine ⟨ps, E _ a hW, b, c.imp id ?_⟩
  rintro ⟨c', oc, vs, t, e1, e2, e3, e4⟩
  exact ⟨c', oc, vs, t, e1, E _ e2 e3, e3, e4⟩
noncomputable def lamPack (w : World) : { p : Pos × Arguments × PySem.Expr × Scope // ∃ x y z u v r, lawTold w = .Assign [.Name x y] (.Call (.Name z u) [.Lambda p.2.1 p.2.2.1 p.2.2.2 p.1] [] v) r } := ⟨(_, _, _, _), _, _, _, _, _, _, rfl⟩
abbrev closL (c1 c2 c3 c4 c5 c6 c7 : Addr) : List (Str × Addr) := [(Str.ofString "text", c7), (Str.ofString "scale", c6), (Str.ofString "limits", c5), (Str.ofString "length", c4), (Str.ofString "kind", c3), (Str.ofString "item", c2), (Str.ofString "is_filled", c1)]
abbrev cellL (c1 c2 c3 c4 c5 c6 c7 : Addr) : List (Str × Addr) := [(Str.ofString "text", c7), (Str.ofString "scale", c6), (Str.ofString "limits", c5), (Str.ofString "length", c4), (Str.ofString "kind", c3), (Str.ofString "item", c2), (Str.ofString "is_filled", c1)]
abbrev locL (item kind len : AV) (text : List Nat) (sc : Int) (z : Bool) : List (Str × AV) := [(Str.ofString "is_filled", .bool z), (Str.ofString "item", item), (Str.ofString "kind", kind), (Str.ofString "length", len), (Str.ofString "limits", .obj 328 limF), (Str.ofString "scale", .int sc), (Str.ofString "text", .str (T text))]
theorem cellOf {f : Fm} {h : Heap} {m : Str → Option Value} {N : Led} {σ : Sto} (I : Inv f h m N σ) {x : Str} {av : AV} {c : Addr} (e : σ.loc.lookup x = some av) (hx : f.cs.names.lookup x = some .cell) (hc : f.cl.lookup x = some c) : ∃ o v, (c, o) ∈ N ∧ o.data = .cell (some v) ∧ Rep f.K N av v := by
  rcases I.loc x av e with ⟨h', _⟩ | ⟨_, c', o, v, e1, e2, e3, e4⟩
  · rw [hx] at h'; cases h'
  · rw [hc] at e1; cases e1
    exact ⟨o, v, e2, e3, e4⟩
theorem lam_in {f : Fm} {h : Heap} {m : Str → Option Value} {N N' : Led} {σ : Sto} (I : Inv f h m N σ) (hN : ∀ q ∈ N, (∃ v, q.2.data = .cell v) → q ∈ N') (ts : TupSub N N') {c1 c2 c3 c4 c5 c6 c7 : Addr} (hcl : f.cl = cellL c1 c2 c3 c4 c5 c6 c7) (hcs : f.cs = lawScope w) {item kind len : AV} {text : List Nat} {sc : Int} {z : Bool}
    (e2 : σ.loc.lookup (Str.ofString "item") = some item) (e3 : σ.loc.lookup (Str.ofString "kind") = some kind) (e4 : σ.loc.lookup (Str.ofString "length") = some len) (e7 : σ.loc.lookup (Str.ofString "text") = some (.str (T text))) (e6 : σ.loc.lookup (Str.ofString "scale") = some (.int sc)) (e1 : σ.loc.lookup (Str.ofString "is_filled") = some (.bool z)) (e5 : σ.loc.lookup (Str.ofString "limits") = some (.obj 328 limF))
    {fo c' : Addr} {name qual : Str} {params : Arguments} {body : PySem.Expr} {pm ctv : Value} (hfo : (fo, kla_obj name qual params body (lamPack w).1.2.2.2 (closL c1 c2 c3 c4 c5 c6 c7) pm c' ctv) ∈ N')
    (hcode : ∃ oc vs t, (c', oc) ∈ N' ∧ oc.data = .fields vs ∧ vs[1]? = some (.str qual t)) : LamIn f.K N' fo c' name qual params body (lamPack w).1.2.2.2 (closL c1 c2 c3 c4 c5 c6 c7) (locL item kind len text sc z) := by
  refine ⟨⟨pm, ctv, hfo⟩, hcode, fun x c e => ?_, fun x av e => ?_⟩
  · have hm := mem_of_lookup e
    have go : ∀ y cc, f.cl.lookup y = some cc → ∃ o v₀, (cc, o) ∈ N' ∧ o.data = .cell v₀ := fun y cc hy => by
      obtain ⟨o, v, a, b⟩ := I.cells y cc hy
      exact ⟨o, v, hN _ a ⟨v, b⟩, b⟩
    rw [hcl] at go
    simp only [closL, List.mem_cons, Prod.mk.injEq, List.not_mem_nil, or_false] at hm
    rcases hm with ⟨rfl, rfl⟩ | ⟨rfl, rfl⟩ | ⟨rfl, rfl⟩ | ⟨rfl, rfl⟩ | ⟨rfl, rfl⟩ | ⟨rfl, rfl⟩ | ⟨rfl, rfl⟩
    · exact go (Str.ofString "text") _ rfl
    · exact go (Str.ofString "scale") _ rfl
    · exact go (Str.ofString "limits") _ rfl
    · exact go (Str.ofString "length") _ rfl
    · exact go (Str.ofString "kind") _ rfl
    · exact go (Str.ofString "item") _ rfl
    · exact go (Str.ofString "is_filled") _ rfl
  · have hm := mem_of_lookup e
    have go : ∀ y a cc, σ.loc.lookup y = some a → f.cs.names.lookup y = some .cell → f.cl.lookup y = some cc → (closL c1 c2 c3 c4 c5 c6 c7).lookup y = some cc → ∃ c o v, (closL c1 c2 c3 c4 c5 c6 c7).lookup y = some c ∧ (c, o) ∈ N' ∧ o.data = .cell (some v) ∧ Rep f.K N' a v := fun y a cc h1 h2 h3 h4 => by
      obtain ⟨o, v, a, b, c⟩ := cellOf I h1 h2 h3
      exact ⟨cc, o, v, h4, hN _ a ⟨_, b⟩, b, c.mono ts⟩
    rw [hcl, hcs] at go
    simp only [locL, List.mem_cons, Prod.mk.injEq, List.not_mem_nil, or_false] at hm
    rcases hm with ⟨rfl, rfl⟩ | ⟨rfl, rfl⟩ | ⟨rfl, rfl⟩ | ⟨rfl, rfl⟩ | ⟨rfl, rfl⟩ | ⟨rfl, rfl⟩ | ⟨rfl, rfl⟩
    all_goals refine ⟨rfl, go _ _ _ (by assumption) rfl rfl rfl⟩
theorem lam_made {f : Fm} (hf : LawF w mean mg mb f) {c1 c2 c3 c4 c5 c6 c7 : Addr} (hcl : f.cl = cellL c1 c2 c3 c4 c5 c6 c7) (hcd : f.cd = .ref 392) (hC : CodeHd f.g 392 388) (hW : 388 ∉ f.W) (O : f.Ok) {E : Value → Shared → Prop} {s : Shared} {m : Str → Option Value} {N : Led} {σ : Sto} (I : Inv f s.heap m N σ) {item kind len : AV} {text : List Nat} {sc : Int} {z : Bool}
    (e2 : σ.loc.lookup (Str.ofString "item") = some item) (e3 : σ.loc.lookup (Str.ofString "kind") = some kind) (e4 : σ.loc.lookup (Str.ofString "length") = some len) (e7 : σ.loc.lookup (Str.ofString "text") = some (.str (T text))) (e6 : σ.loc.lookup (Str.ofString "scale") = some (.int sc)) (e1 : σ.loc.lookup (Str.ofString "is_filled") = some (.bool z)) (e5 : σ.loc.lookup (Str.ofString "limits") = some (.obj 328 limF))
    (hT : Tab (lamPack w).1.1 (f.env.qual ++ "<lambda>") f.W N) :
    wpAny (model f.prog f.w) f.A (eval (.Lambda (lamPack w).1.2.1 (lamPack w).1.2.2.1 (lamPack w).1.2.2.2 (lamPack w).1.1) f.env) (fun v s' => ∃ fo c' h' tk' N', v = .ref fo ∧ s' = { s with heap := h', toks := tk' } ∧ Inv f h' m N' σ ∧ (∀ q ∈ N, q.1 ≠ 388 → q ∈ N') ∧ Tab (lamPack w).1.1 (f.env.qual ++ "<lambda>") f.W N' ∧
      LamIn f.K N' fo c' "<lambda>" (f.env.qual ++ "<lambda>") (lamPack w).1.2.1 (lamPack w).1.2.2.1 (lamPack w).1.2.2.2 (closL c1 c2 c3 c4 c5 c6 c7) (locL item kind len text sc z)) E s := by
  obtain ⟨ps, hP, ht, hcase⟩ := hT
  have tabno : ∀ ps, ¬ Solid (tabObj ps) := fun ps => not_solid (fun es n e => nomatch e) (fun e => nomatch e) (.inl fun a c e => nomatch e)
  have hclos : closureFor (lamPack w).1.2.2.2 (envX f.cn f.cs f.L f.a f.cd f.cl) = pure (closL c1 c2 c3 c4 c5 c6 c7) := by rw [hcl, hf.cs]; rfl
  refine genP fun P0 p0 => ?_
  refine kla_eval rfl ?_
  rcases hcase with hn | ⟨c', oc, vs, t, hc, hm, hcW, hc8, hd, hv⟩
  · -- the first turn
    have keepP : ∀ q ∈ N, q.1 ≠ 388 → q ∈ N.filter (fun p => p.1 != 388) := fun q hq ne => List.mem_filter.mpr ⟨hq, by simpa using ne⟩
    refine kla_nest (news := (388, tabObj ps) :: N.filter (fun p => p.1 != 388)) (g := fun o' => (388, o') :: N.filter (fun p => p.1 != 388)) (clos := closL c1 c2 c3 c4 c5 c6 c7) I.F (fun q hq => ?_) O.T hC hcd (.head fun p hp => by simpa using (List.mem_filter.mp hp).2) ht hn hclos fun fo c' oc vs t ctv h' tk F' N' hd hv lt1 lt2 => ?_
    · rcases List.mem_cons.mp hq with rfl | hq
      · exact I.nw _ hP
      · exact I.nw q (List.mem_filter.mp hq).1
    · dsimp only at N'
      have ne8 : ∀ o, (388, o) ∈ N → ¬ Solid o ∧ ∀ v, o.data ≠ .cell v := fun o ho => by
        rw [← News.uniq I.nw hP ho]; exact ⟨tabno ps, fun v e => nomatch e⟩
      have ts : TupSub N (N.filter fun p => p.1 != 388) := fun a o so hm => keepP _ hm fun (z : a = 388) => (ne8 o (z ▸ hm)).1 so
      have nc : ∀ c oc v, (c, oc) ∈ N → oc.data = .cell v → c ≠ 388 := fun c oc v hc hd z => (ne8 oc (z ▸ hc)).2 v hd
      have Nf : News f.g f.L h' (N.filter fun p => p.1 != 388) := fun q hq => N' q (.tail _ (.tail _ (.tail _ hq)))
      have I₀ : Inv f h' m (N.filter fun p => p.1 != 388) σ := by
        refine ⟨F', Nf, fun x av e => (I.loc x av e).imp (fun ⟨a, v, b, c⟩ => ⟨a, v, b, c.mono ts⟩) (fun ⟨a, c, o, v, b1, b2, b3, b4⟩ => ⟨a, c, o, v, b1, keepP _ b2 (nc _ _ _ b2 b3), b3, b4.mono ts⟩), fun P n c e => ?_, I.penW, fun c hc => ?_, fun x c hx => ?_⟩
        · obtain ⟨t1, t2, k, hp⟩ := I.pen P n c e
          exact ⟨t1, t2, k, keepP _ hp fun (z : P = 388) => hW (z ▸ I.penW P n c e)⟩
        · obtain ⟨o, ho, hs⟩ := I.mt c hc
          exact ⟨o, keepP _ ho fun (z : c = 388) => hW (z ▸ hc), hs⟩
        · obtain ⟨o, v, ho, hv⟩ := I.cells x c hx
          exact ⟨o, v, keepP _ ho (nc _ _ _ ho hv), hv⟩
      have sub : ∀ q ∈ N.filter (fun p => p.1 != 388), q ∈ (fo, kla_obj "<lambda>" (f.env.qual ++ "<lambda>") (lamPack w).1.2.1 (lamPack w).1.2.2.1 (lamPack w).1.2.2.2 (closL c1 c2 c3 c4 c5 c6 c7) ((f.mg "__name__").getD .none) c' ctv) :: (c', oc) :: (388, tabObj (ps ++ #[rawInt (lamPack w).1.1.line, rawInt (lamPack w).1.1.col, .ref c'])) :: N.filter (fun p => p.1 != 388) := fun q hq => .tail _ (.tail _ (.tail _ hq))
      have hcW : c' ∉ f.W := fun hw => by
        obtain ⟨o, ho, _⟩ := I.mt c' hw
        exact absurd (lt1 _ (.tail _ (keepP _ ho fun (z : c' = 388) => hW (z ▸ hw)))) (Nat.lt_irrefl _)
      have hc8 : c' ≠ 388 := Nat.ne_of_gt (lt1 _ (.head _))
      have tsN : TupSub N ((fo, kla_obj "<lambda>" (f.env.qual ++ "<lambda>") (lamPack w).1.2.1 (lamPack w).1.2.2.1 (lamPack w).1.2.2.2 (closL c1 c2 c3 c4 c5 c6 c7) ((f.mg "__name__").getD .none) c' ctv) :: (c', oc) :: (388, tabObj (ps ++ #[rawInt (lamPack w).1.1.line, rawInt (lamPack w).1.1.col, .ref c'])) :: N.filter (fun p => p.1 != 388)) := fun a o so hm => sub _ (ts a o so hm)
      refine p0 _ _ ⟨fo, c', h', tk, _, rfl, rfl, I₀.more N' sub, fun q hq ne => sub _ (keepP q hq ne), ?_, lam_in I (fun q hq ⟨v, hv⟩ => sub _ (keepP q hq (nc q.1 q.2 v hq hv))) tsN hcl hf.cs e2 e3 e4 e7 e6 e1 e5 (.head _) ⟨oc, vs, t, .tail _ (.head _), hd, hv⟩⟩
      refine ⟨_, .tail _ (.tail _ (.head _)), ?_, .inr ⟨c', oc, vs, t, ?_, .tail _ (.head _), hcW, hc8, hd, hv⟩⟩
      · rw [Array.toList_append]; exact TriplesOk_snoc _ _ _ _ ht
      · rw [Array.toList_append]; exact codeAmong_snoc _ ht hn
  · -- later turns
    refine kla_hit (clos := closL c1 c2 c3 c4 c5 c6 c7) (c' := c') I.F I.nw O.T hC hcd hP ht hc hclos fun fo ctv h' tk F' N' lt1 => ?_
    have sub : ∀ q ∈ N, q ∈ (fo, kla_obj "<lambda>" (f.env.qual ++ "<lambda>") (lamPack w).1.2.1 (lamPack w).1.2.2.1 (lamPack w).1.2.2.2 (closL c1 c2 c3 c4 c5 c6 c7) ((f.mg "__name__").getD .none) c' ctv) :: N := fun q hq => .tail _ hq
    have I₀ : Inv f h' m N σ := ⟨F', fun q hq => N' q (.tail _ hq), I.loc, I.pen, I.penW, I.mt, I.cells⟩
    refine p0 _ _ ⟨fo, c', h', tk, _, rfl, rfl, I₀.more N' sub, fun q hq _ => sub q hq, ⟨ps, sub _ hP, ht, .inr ⟨c', oc, vs, t, hc, sub _ hm, hcW, hc8, hd, hv⟩⟩, lam_in I (fun q hq _ => sub q hq) (tupSub_of sub) hcl hf.cs e2 e3 e4 e7 e6 e1 e5 (.head _) ⟨oc, vs, t, sub _ hm, hd, hv⟩⟩
end
section
theorem lam_ok {need : Nat} (A A₀ : Around) (base : Heap) (outer : List Env) (g : Heap) (L fo : Addr) (cd : Value) (cl : List (Str × Addr)) (qual : Str) {item kind len V : AV} {text : List Nat} {sc : Int} {z : Bool} (hn : need + 1 ≤ 10) (sp : SPEC (GG w mean mg mb) need 205 [item, kind, len, .str (T text), .int sc, .bool z, .obj 328 limF] none (fun r _ => r = V)) :
    EV ⟨GG w mean mg mb, A, A₀, base, outer, g, L, qual, (lamPack w).1.2.2.2, fo, cd, cl, [], 10⟩ (lamPack w).1.2.2.1 ⟨locL item kind len text sc z, none⟩ fun r _ => r = V := by
  show EV ⟨_, _, _, _, _, _, _, _, ⟨_, _, _, _, _⟩, _, _, _, _, _⟩ (.Call (.Name _ _) [_, _, _, _, _, _, _] [] _) _ _
  repeat' walk_at "s"
  exact ⟨need, hn, sp.mono fun r p e => e⟩
theorem lam_bad {need : Nat} (A A₀ : Around) (base : Heap) (outer : List Env) (g : Heap) (L fo : Addr) (cd : Value) (cl : List (Str × Addr)) (qual : Str) {item kind len : AV} {text : List Nat} {sc : Int} {z : Bool} (hn : need + 1 ≤ 10) (sp : RaiseS (GG w mean mg mb) need 205 [item, kind, len, .str (T text), .int sc, .bool z, .obj 328 limF]) :
    EVR ⟨GG w mean mg mb, A, A₀, base, outer, g, L, qual, (lamPack w).1.2.2.2, fo, cd, cl, [], 10⟩ (lamPack w).1.2.2.1 ⟨locL item kind len text sc z, none⟩ := by
  show EVR ⟨_, _, _, _, _, _, _, _, ⟨_, _, _, _, _⟩, _, _, _, _, _⟩ (.Call (.Name _ _) [_, _, _, _, _, _, _] [] _) _
  refine' EVR.call rfl ?rn ?rx ?rk ?rq ?re ?rp ?rc
  case rn => exact glreadvalue
  case rx => rfl
  case rk => exact kp205
  case re => intros; rfl
  case rp => intros; rfl
  case rc => intros; rfl
  repeat' walk_at "s"
  exact ⟨need, hn, sp⟩
theorem lam_nc : ∀ x ∈ (lamPack w).1.2.2.2.names, x.2 ≠ .cell := by
  show ∀ x ∈ [_, _, _, _, _, _, _, _], _
  decide +kernel
theorem lam_nd : ∀ x ∈ (lamPack w).1.2.2.2.names, (x.1 == ("__debug__" : Str)) = false ∧ (x.1 == ("__classdict__" : Str)) = false := by
  show ∀ x ∈ [_, _, _, _, _, _, _, _], _
  decide +kernel
theorem told_stmt {f : Fm} (hf : LawF w mean mg mb f) {c1 c2 c3 c4 c5 c6 c7 : Addr} (hcl : f.cl = cellL c1 c2 c3 c4 c5 c6 c7) (hcd : f.cd = .ref 392) (hC : CodeHd f.g 392 388) (hW : 388 ∉ f.W) (O : f.Ok) {E : Value → Shared → Prop} {s : Shared} {m : Str → Option Value} {N : Led} {σ : Sto} (I : Inv f s.heap m N σ) {item kind len told : AV} {text : List Nat} {sc : Int} {z : Bool}
    (e2 : σ.loc.lookup (Str.ofString "item") = some item) (e3 : σ.loc.lookup (Str.ofString "kind") = some kind) (e4 : σ.loc.lookup (Str.ofString "length") = some len) (e7 : σ.loc.lookup (Str.ofString "text") = some (.str (T text))) (e6 : σ.loc.lookup (Str.ofString "scale") = some (.int sc)) (e1 : σ.loc.lookup (Str.ofString "is_filled") = some (.bool z)) (e5 : σ.loc.lookup (Str.ofString "limits") = some (.obj 328 limF))
    (hT : Tab (lamPack w).1.1 (f.env.qual ++ "<lambda>") f.W N) (ht : ToldS w mean mg mb item kind len text sc z told) :
    wpAny (model f.prog f.w) f.A (exec (lawTold w) f.env) (fun fl s' => fl = .next ∧ ∃ h' tk' m' N', s' = { s with heap := h', toks := tk' } ∧ Inv f h' m' N' (σ.put (Str.ofString "told") told) ∧ (∀ q ∈ N, q.1 ∉ f.W → q.1 ≠ 388 → q ∈ N') ∧ Tab (lamPack w).1.1 (f.env.qual ++ "<lambda>") f.W N') E s := by
  show wpAny _ _ (exec (.Assign [.Name (Str.ofString "told") _] (.Call (.Name (Str.ofString "_law_heard") _) [.Lambda (lamPack w).1.2.1 (lamPack w).1.2.2.1 (lamPack w).1.2.2.2 (lamPack w).1.1] [] _) _) _) _ _ _
  have hgl : nsIn f.K mainGlobals (Str.ofString "_law_heard") = some (some (.ref 386)) := by rw [hf.G]; exact gllawheard
  have hkp : keepIn f.K (.ref 386) = true := by rw [hf.G]; exact kp386
  refine genP fun P0 p0 => ?_
  refine wpAny_Assign_Name (Call_ (nameX_K I.F O.X (topRead O) hgl ?_ O.hk (by rw [hf.cs]; rfl) (by decide)) rfl) rfl
  refine callWith_K O.X hkp (wpAny_items_cons (wpAny_mono (lam_made hf hcl hcd hC hW O I e2 e3 e4 e7 e6 e1 e5 hT) (fun v s₁ p => ?_) fun _ _ e => e) (by rfl)) (by rfl) (by rfl)
  obtain ⟨fo, c', h₁, t₁, N₁, rfl, rfl, I₁, E₁, T₁, L₁⟩ := p
  refine wpAny_items_nil ⟨O.X.keeps I₁.F.keep, ?_⟩
  have fin : ∀ v s', (∃ N', Fr f.g f.L s'.heap m ∧ News f.g f.L s'.heap N' ∧ Heard { s with heap := h₁, toks := t₁ } f.K N₁ told v s' N') → wpAny (model f.prog f.w) f.A (storeName f.env (Str.ofString "told") v) (fun _ => P0 .next) E s' := by
    rintro v s' ⟨N₂, F₂, n₂, ⟨h₂, t₂, rfl⟩, sub, R⟩
    have I₂ : Inv f h₂ m N₂ σ := (show Inv f h₂ m N₁ σ from ⟨F₂, fun q hq => n₂ q (sub q hq), I₁.loc, I₁.pen, I₁.penW, I₁.mt, I₁.cells⟩).more n₂ sub
    refine store O (s := { s with heap := h₂, toks := t₂ }) I₂ R (.inl (by rw [hf.cs]; rfl)) fun h₃ m₃ N₃ t₃ I₃ E₃ => ?_
    have T₂ : Tab (lamPack w).1.1 (f.env.qual ++ "<lambda>") f.W N₂ := T₁.ext hW fun q hq _ => sub q hq
    exact p0 _ _ ⟨rfl, h₃, t₃, m₃, N₃, rfl, I₃, fun q hq hw h8 => E₃ q (sub q (E₁ q hq h8)) hw, T₂.ext hW E₃⟩
  have hroom := hf.room
  rcases ht with ⟨V, need, rfl, hn, sp⟩ | ⟨need, rfl, hn, sp⟩
  · have hh := heard_ok (need := 10) (E := E) (s := { s with heap := h₁, toks := t₁ }) hf.G O hf.out (by omega) I₁.F I₁.nw L₁ (a := V) (by intros; rfl) (by rfl) (by rfl) (by rfl) lam_nc lam_nd fun A A₀ base outer g L => lam_ok A A₀ base outer g L fo _ _ _ (by omega) sp
    rw [lit_ok] at hh
    exact wpAny_mono hh (fun v s' p => fin v s' p) fun _ _ e => e
  · have hh := heard_bad (need := 10) (E := E) (s := { s with heap := h₁, toks := t₁ }) hf.G O hf.out (by omega) I₁.F I₁.nw L₁ (by intros; rfl) (by rfl) (by rfl) (by rfl) lam_nc lam_nd fun A A₀ base outer g L => lam_bad A A₀ base outer g L fo _ _ _ (by omega) sp
    rw [lit_fault] at hh
    exact wpAny_mono hh (fun v s' p => fin v s' p) fun _ _ e => e
end
section
section
open Sem (wp)
theorem wp_execs_app {M : Model} {Γ : PySem.Ctx} {env : Env} {b : List Stmt} {Q : Flow → Pos → Shared → Prop} {E : Value → Pos → Shared → Prop} : ∀ (a : List Stmt) (p : Pos) (s : Shared),
    Sem.wp M Γ (execs a env) (fun f p' s' => match f with | .next => Sem.wp M Γ (execs b env) Q E p' s' | f => Q f p' s') E p s → Sem.wp M Γ (execs (a ++ b) env) Q E p s
  | [], p, s, h => by
    rw [execs_nil, Sem.wp_pure'] at h
    exact h
  | st :: r, p, s, h => by
    rw [List.cons_append, execs_cons, Sem.wp_bind']
    rw [execs_cons, Sem.wp_bind'] at h
    refine Sem.wp_mono M Γ _ (fun f p' s' h' => ?_) (fun _ _ _ h' => h') _ _ h
    cases f with
    | next => exact wp_execs_app r p' s' h'
    | _ => rw [Sem.wp_pure'] at h' ⊢; exact h'
end
theorem execs_app {M : Model} {A : Around} {E : Value → Shared → Prop} {s : Shared} {env : Env} {a b : List Stmt} {Q : Flow → Shared → Prop} (h : wpAny M A (execs a env) (fun f s' => match f with | .next => wpAny M A (execs b env) Q E s' | f => Q f s') E s) : wpAny M A (execs (a ++ b) env) Q E s := fun Γ p hΓ => by
  refine wp_execs_app a p s (Sem.wp_mono M Γ _ (fun f p' s' h' => ?_) (fun _ _ _ h' => h') _ _ (h Γ p hΓ))
  cases f with
  | next => exact h' Γ p' hΓ
  | _ => exact h'
theorem turn_all {f : Fm} (hf : LawF w mean mg mb f) {c1 c2 c3 c4 c5 c6 c7 : Addr} (hcl : f.cl = cellL c1 c2 c3 c4 c5 c6 c7) (hcd : f.cd = .ref 392) (hC : CodeHd f.g 392 388) (hW : 388 ∉ f.W) (O : f.Ok) {E : Value → Shared → Prop} {s : Shared} {m : Str → Option Value} {N : Led} {σ : Sto} (I : Inv f s.heap m N σ) {P : Addr} (hJ : Jt P σ)
    (hT : Tab (lamPack w).1.1 (f.env.qual ++ "<lambda>") f.W N) :
    wpAny (model f.prog f.w) f.A (execs (lawPre w ++ lawTold w :: lawSuf w) f.env) (fun fl s' => fl = .next ∧ ∃ σ' h' tk' m' N', s' = { s with heap := h', toks := tk' } ∧ Inv f h' m' N' σ' ∧ Jt P σ' ∧ (∀ q ∈ N, q.1 ∉ f.W → q.1 ≠ 388 → q ∈ N') ∧ Tab (lamPack w).1.1 (f.env.qual ++ "<lambda>") f.W N') E s := by
  refine genP fun P0 p0 => ?_
  refine execs_app (PostS.k (turn_pre hf P hJ O E s m N I) fun φ σ₁ h₁ t₁ m₁ N₁ fl I₁ E₁ R₁ qq => ?_)
  obtain ⟨rfl, item, kind, len, text, sc, z, told, i, c, e2, e3, e4, e7, e6, e1, e5, hp, ht, hsuf⟩ := qq
  obtain rfl : fl = .next := R₁
  refine wpAny_execs_cons (wpAny_mono (told_stmt hf hcl hcd hC hW O (s := { s with heap := h₁, toks := t₁ }) I₁ e2 e3 e4 e7 e6 e1 e5 (hT.ext hW E₁) ht) (fun fl s₂ p => ?_) fun _ _ e => e)
  obtain ⟨rfl, h₂, t₂, m₂, N₂, rfl, I₂, k₂, T₂⟩ := p
  refine PostS.k (hsuf O E { s with heap := h₂, toks := t₂ } m₂ N₂ I₂) fun φ σ₃ h₃ t₃ m₃ N₃ fl I₃ E₃ R₃ qq => ?_
  obtain ⟨rfl, hJ₃⟩ := qq
  exact p0 _ _ ⟨R₃, σ₃, h₃, t₃, m₃, N₃, rfl, I₃, hJ₃, fun q hq hw h8 => E₃ q (k₂ q (E₁ q hq hw) hw h8) hw, T₂.ext hW E₃⟩
end
section
theorem Tab.swap {pos : Pos} {qual : Str} {W : List Addr} {g h : Heap} {L : Addr} {N : Led} {It : Addr} {i n : Nat} {o' : Obj} (T : Tab pos qual W N) (nw : News g L h N) (hit : (It, itRg i n) ∈ N) : Tab pos qual W ((It, o') :: N.filter (fun p => p.1 != It)) := by
  obtain ⟨ps, a, b, c⟩ := T
  have keep : ∀ q ∈ N, q.1 ≠ It → q ∈ (It, o') :: N.filter (fun p => p.1 != It) := fun q hq ne => .tail _ (List.mem_filter.mpr ⟨hq, by simpa using ne⟩)
  refine ⟨ps, keep _ a fun (z : 388 = It) => ?_, b, c.imp id ?_⟩
  · subst z
    have e := congrArg Obj.cls (News.uniq nw a hit)
    exact nomatch e
  · rintro ⟨c', oc, vs, t, e1, e2, e3, e4, e5, e6⟩
    refine ⟨c', oc, vs, t, e1, keep _ e2 fun (z : c' = It) => ?_, e3, e4, e5, e6⟩
    subst z
    have e := News.uniq nw e2 hit
    rw [e] at e5
    injection e5 with e5
    rw [← e5] at e6
    exact nomatch e6
theorem Tab.tabs {pos : Pos} {qual : Str} {W : List Addr} {N : Led} (T : Tab pos qual W N) : ∃ ps, (388, tabObj ps) ∈ N := let ⟨ps, a, _⟩ := T; ⟨ps, a⟩
theorem Tab.out {pos : Pos} {qual : Str} {W : List Addr} {g h : Heap} {L : Addr} {N : Led} {It : Addr} {i n : Nat} (T : Tab pos qual W N) (nw : News g L h N) (hit : (It, itRg i n) ∈ N) : ∃ ps, (388, tabObj ps) ∈ N.filter (fun p => p.1 != It) := by
  obtain ⟨ps, a⟩ := T.tabs
  refine ⟨ps, List.mem_filter.mpr ⟨a, ?_⟩⟩
  have : (388 : Addr) ≠ It := fun z => by
    subst z
    have e := congrArg Obj.cls (News.uniq nw a hit)
    exact nomatch e
  simpa using this
theorem law_loop {f : Fm} (hf : LawF w mean mg mb f) {c1 c2 c3 c4 c5 c6 c7 : Addr} (hcl : f.cl = cellL c1 c2 c3 c4 c5 c6 c7) (hcd : f.cd = .ref 392) (hC : CodeHd f.g 392 388) (hW8 : 388 ∉ f.W) (O : f.Ok) {E : Value → Shared → Prop} {s : Shared} {m : Str → Option Value} {N : Led} {σ : Sto} (I : Inv f s.heap m N σ) {P : Addr} (hJ : Jt P σ)
    (hT : Tab (lamPack w).1.1 (f.env.qual ++ "<lambda>") f.W N) {p1 p2 p3 p4 p5 : Pos} {k3 : Nat} :
    wpAny (model f.prog f.w) f.A (exec (.For (.Name (Str.ofString "turn") p1) (.Call (.Name (Str.ofString "range") p2) [.Constant (.int 3) k3 p3] [] p4) (lawPre w ++ lawTold w :: lawSuf w) [] p5) f.env) (fun fl s' => fl = .next ∧ ∃ σ' h' tk' m' N', s' = { s with heap := h', toks := tk' } ∧ Inv f h' m' N' σ' ∧ (∃ ps, (388, tabObj ps) ∈ N')) E s := by
  have hn : nsIn f.K mainGlobals (Str.ofString "range") = some none := by rw [hf.G]; exact gbrange
  have hx : f.cs.names.lookup (Str.ofString "range") = some .globalImplicit := by rw [hf.cs]; rfl
  have st : Stb f (Str.ofString "turn") := .inl (by rw [hf.cs]; rfl)
  refine genP fun P0 p0 => ?_
  refine wpAny_For (Call_ (nameX_B I.F O.X (topRead O) hn (v := .type "range") (by decide +kernel) (by decide) ?_ O.hk hx (by decide)) rfl) (by intros; rfl)
  refine PyProof.Rows.callWith_type1 (wpAny_items_cons (wpAny_Constant_int (wpAny_items_nil ?_)) rfl) rfl rfl
  refine range1_rows (s := { s with toks := s.toks + 1 }) I.F I.nw fun h₂ t₂ u₁ u₂ u₃ hr F₂ N₂ grow => ?_
  have I₂ := I.grow grow
  have hsmall : Builtin.Range.small 0 3 1 = true := small_one (by decide) (by decide) (by decide) (by decide)
  refine wpAny_pyIter_range hr hsmall ?_
  have hsize : Builtin.Range.rangeSize 0 3 1 = (3 : Int) := by decide +kernel
  rw [hsize]
  obtain ⟨I₃, hW, off⟩ := iter_off I₂ (itRg 0 3) rfl
  have first : ({ cls := Value.type "range_iterator", data := Data.fields #[rawInt 0, rawInt 3, rawInt 1] } : Obj) = itRg 0 3 := by
    unfold itRg; simp
  rw [first]
  obtain ⟨J0, hJ0⟩ : ∃ J0 : Nat → Shared → Prop, ∀ k₀ s₀, J0 k₀ s₀ ↔ (fun k s' => ∃ i σ' h' tk' m' N', k = 3 + 1 - i ∧ i ≤ 3 ∧ s' = { s with heap := h', toks := tk' } ∧ Inv f h' m' N' σ' ∧ (h₂.objs.size, itRg i 3) ∈ N' ∧ (∀ q ∈ N, q.1 ∉ f.W → q.1 ≠ 388 → q ∈ N') ∧ Jt P σ' ∧ Tab (lamPack w).1.1 (f.env.qual ++ "<lambda>") f.W N') k₀ s₀ := ⟨_, fun _ _ => Iff.rfl⟩
  dsimp only at hJ0
  refine codeAny_forLoop J0 ?_ (3 + 1) ((hJ0 _ _).mpr ⟨0, σ, _, _, m, _, rfl, Nat.zero_le _, rfl, I₃, .head _, fun q hq _ _ => .tail _ hq, hJ, hT.ext hW8 Ext.cons⟩) (fun v => rfl)
  intro k s' hk
  obtain ⟨i, σ', h', tk', m', N', rfl, hi, rfl, I', hit, E', hJ', hT'⟩ := (hJ0 _ _).mp hk
  clear hk
  have hget := (I'.nw _ hit).1
  have hri : IsRangeIter h' h₂.objs.size (i : Int) ((3 : Int) - (i : Int)) 1 := hget
  by_cases hlt : i < 3
  · refine wpAny_pyNext_range_item hri (by omega) fun h₄ hit₄ hs₄ => ?_
    have o₄ : h₄.get? h₂.objs.size = some (itRg (i + 1) 3) := by
      unfold itRg
      rw [show (((i + 1 : Nat) : Int)) = (i : Int) + 1 from by omega, show ((3 : Nat) : Int) - ((i : Int) + 1) = (3 : Int) - (i : Int) - 1 from by omega]
      exact hit₄
    have I₄ := I'.swap hit hs₄ o₄ hW (fun v e => nomatch e) itRg_no
    have T₄ : Tab (lamPack w).1.1 (f.env.qual ++ "<lambda>") f.W ((h₂.objs.size, itRg (i + 1) 3) :: N'.filter (fun p => p.1 != h₂.objs.size)) := hT'.swap I'.nw hit
    have rs : Rep f.K ((h₂.objs.size, itRg (i + 1) 3) :: N'.filter (fun p => p.1 != h₂.objs.size)) (.int i) (.int i tk') := ⟨_, rfl⟩
    refine wpAny_assign_Name (store O (s := { s with heap := h₄, toks := tk' + 1 }) I₄ rs st fun h₅ m₅ N₅ t₅ I₅ E₅ => ?_)
    have hJ₅ : Jt P (σ'.put (Str.ofString "turn") (.int i)) := by
      obtain ⟨a, b, hs⟩ := hJ'
      refine ⟨a, b, fun x av e => ?_, hs.2⟩
      have hne : x ≠ Str.ofString "turn" := fun z => by
        subst z
        have hno : ([(Str.ofString "pen", AV.val (.ref P)), (Str.ofString "limits", AV.obj 328 limF)] : List (Str × AV)).lookup (Str.ofString "turn") = none := rfl
        exact absurd (e.symm.trans hno) (by simp)
      have hb : (x == Str.ofString "turn") = false := beq_eq_false_iff_ne.mpr hne
      simp only [Sto.put, List.lookup_cons, hb]
      exact hs.1 x av e
    refine wpAny_mono (turn_all hf hcl hcd hC hW8 O (s := { s with heap := h₅, toks := t₅ }) I₅ hJ₅ (T₄.ext hW8 E₅)) (fun fl s₆ p₆ => ?_) fun _ _ e => e
    obtain ⟨rfl, σ₆, h₆, t₆, m₆, N₆, rfl, I₆, hJ₆, E₆, T₆⟩ := p₆
    have hI8 : h₂.objs.size ≠ 388 := fun z => by
      obtain ⟨ps, a, _⟩ := hT
      exact off _ a z.symm
    refine ⟨3 + 1 - (i + 1), by omega, (hJ0 _ _).mpr ⟨i + 1, σ₆, h₆, t₆, m₆, N₆, rfl, hlt, rfl, I₆, E₆ _ (E₅ _ (.head _) hW) hW hI8, fun q hq hw h8 => E₆ q (E₅ q (.tail _ (List.mem_filter.mpr ⟨E' q hq hw h8, by simpa using off q hq⟩)) hw) hw h8, hJ₆, T₆⟩⟩
  · obtain rfl : i = 3 := by omega
    refine wpAny_pyNext_range_end O.hh hri (by omega) fun h₄ he₄ => wpAny_execs_nil ?_
    have V := I'.drop hit he₄ hW (fun v e => nomatch e) itRg_no
    exact p0 _ _ ⟨rfl, σ', h₄, _, m', _, rfl, V, hT'.out I'.nw hit⟩
end
section
theorem lawpen {f : Fm} (hG : f.toGl = GG w mean mg mb) (O : f.Ok) (hr : 2 ≤ f.room) {E : Value → Shared → Prop} {s : Shared} {m : Str → Option Value} {N : Led} (F : Fr f.g f.L s.heap m) (n : News f.g f.L s.heap N) {sc : Addr} {vs : List Value} {ns : List Int} (hl : f.g.IsList sc vs.toArray) (hi : IntsAre vs ns) (hsz : vs.length ≤ 1000) :
    wpAny (model f.prog f.w) f.A (call (.ref 339) [.ref sc]) (fun v s' => ∃ N', Fr f.g f.L s'.heap m ∧ News f.g f.L s'.heap N' ∧ ∃ P i h' tk' t1 t2, s' = { s with heap := h', toks := tk' } ∧ v = .ref P ∧ (∀ q ∈ N, q ∈ N') ∧ (P, penO i 0 t1 t2 0) ∈ N') E s := by
  obtain ⟨tg, A, A₀, base, outer, g, L, cn, cs, a, cd, cl, W, room⟩ := f
  dsimp only at hG
  subst hG
  refine' enterRaw (need := 1) (args := [.val (.ref sc)]) (R := fun v s' N' => ∃ P i h' tk' t1 t2, s' = { s with heap := h', toks := tk' } ∧ v = .ref P ∧ (∀ q ∈ N, q ∈ N') ∧ (P, penO i 0 t1 t2 0) ∈ N') [Str.ofString "script"] O hr F n (RepL.mkCons Rep.mkVal RepL.mkNil) ?ho ?hcd ?hb ?hnd ?hlen ?hloc ?hco ?hgen ?hk ?hcell ?hdb ?h
  walk_at "in"
  rename_i A A₀ base outer g L
  intro E' h₁ tk m₁ O' keep I'
  dsimp only at O' keep I' ⊢
  refine genP fun P0 p0 => ?_
  have hl' : g.IsList sc vs.toArray := by obtain ⟨o, ho, r⟩ := hl; exact ⟨o, keep _ _ ho, r⟩
  refine execs_step (s := { s with heap := h₁, toks := tk }) O' I' (Q1 := fun φ σ' => φ = .next ∧ σ'.loc.lookup (Str.ofString "number") = some (.int 7) ∧ σ'.loc.lookup (Str.ofString "script") = some (.val (.ref sc)) ∧ σ'.pen = none) ?_ (fun a σ' q => nomatch q.1) fun σ₂ h₂ tk₂ m₂ N₂ I₂ E₂ q₂ => ?_
  · repeat' walk_at "s"
    exact ⟨rfl, rfl, rfl, rfl⟩
  obtain ⟨-, hn7, hscr, hp2⟩ := q₂
  refine execs_step (s := { s with heap := h₂, toks := tk₂ }) O' I₂ (Q1 := fun φ σ' => φ = .next ∧ ∃ i, σ'.loc.lookup (Str.ofString "number") = some (.int i)) ?_ (fun a σ' q => nomatch q.1) fun σ₃ h₃ tk₃ m₃ N₃ I₃ E₃ q₃ => ?_
  · refine' E1.forSlice (k := 24) hscr hl' hi hsz ?st (fun σ' => ∃ i, SeesS σ' ⟨[(Str.ofString "number", .int i)], none⟩) ?hJ ?step ?fin ?hs ?ht ?hb ?hg
    case st => exact .inl rfl
    case hJ => exact ⟨7, SeesS.of ⟨hn7, trivial⟩ hp2⟩
    case hs => intros; rfl
    case ht => intros; rfl
    case hb => intros; with_unfolding_all rfl
    case hg => intros; with_unfolding_all rfl
    case step =>
      rintro c σ' ⟨i, hs⟩
      refine EX.sees (hs.put _ _) ?_
      repeat' walk_at "s"
      exact ⟨_, SeesS.of ⟨rfl, trivial⟩ rfl⟩
    case fin =>
      rintro σ' ⟨i, hs⟩
      exact ⟨rfl, i, hs.1 _ _ rfl⟩
  · obtain ⟨-, i, hi⟩ := q₃
    refine wpAny_execs_cons (wpAny_Return_some (List_ (wpAny_items_cons (PostV.kk (EV.name (Q := fun a σ' => a = .int i ∧ σ' = σ₃) hi ⟨rfl, rfl⟩ O' E' { s with heap := h₃, toks := tk₃ } m₃ N₃ I₃) fun h₄ t₄ N₄ v I₄ E₄ R₄ => ?_) rfl)))
    obtain ⟨ti, rfl⟩ := R₄.outInt
    refine wpAny_items_cons (wpAny_Constant_int (wpAny_items_nil ?_)) rfl
    refine newList_N (s := { s with heap := h₄, toks := t₄ + 1 }) I₄.F I₄.nw (fun h' F' N' => ?_) (by show 2 ≤ sizeLine; decide)
    have E₅ := E₂.trans (E₃.trans E₄)
    exact p0 _ _ ⟨m₃, _, F', N', h₄.objs.size, i, h', _, ti, _, rfl, rfl, fun q hq => .tail _ (E₅ q hq List.not_mem_nil), .head _⟩
end
section
theorem lookup_inj : ∀ {l : List (Str × Addr)} {y z : Str} {c : Addr}, (l.map (·.2)).Nodup → l.lookup y = some c → l.lookup z = some c → y = z
  | [], _, _, _, _, e, _ => nomatch e
  | (x, u) :: r, y, z, c, nd, e1, e2 => by
    rw [List.map_cons, List.nodup_cons] at nd
    have no : ∀ {t : Str}, r.lookup t = some c → c ≠ u := fun {t} h q => nd.1 (by rw [← q]; exact List.mem_map_of_mem (f := (·.2)) (mem_of_lookup h))
    have cs : ∀ {t : Str}, ((x, u) :: r).lookup t = some c → (t = x ∧ u = c) ∨ r.lookup t = some c := fun {t} h => by
      rw [List.lookup_cons] at h
      cases q : t == x with
      | true => rw [q] at h; exact .inl ⟨beq_iff_eq.mp q, Option.some.inj h⟩
      | false => rw [q] at h; exact .inr h
    rcases cs e1 with ⟨a, b⟩ | h1
    · rcases cs e2 with ⟨a', _⟩ | h2
      · rw [a, a']
      · exact absurd b.symm (no h2)
    · rcases cs e2 with ⟨_, b⟩ | h2
      · exact absurd b.symm (no h1)
      · exact lookup_inj nd.2 h1 h2
theorem cell_inj {c1 c2 c3 c4 c5 c6 c7 : Addr} (nd : [c1, c2, c3, c4, c5, c6, c7].Nodup) : ∀ y z c, (cellL c1 c2 c3 c4 c5 c6 c7).lookup y = some c → (cellL c1 c2 c3 c4 c5 c6 c7).lookup z = some c → y = z :=
  fun _ _ _ => lookup_inj (List.pairwise_reverse.mpr (List.Pairwise.imp (fun h => Ne.symm h) nd))
theorem law_run {f : Fm} (hG : f.toGl = GG w mean mg mb) (hout : f.outer = []) (hcs : f.cs = lawScope w) {c1 c2 c3 c4 c5 c6 c7 : Addr} (hcl : f.cl = cellL c1 c2 c3 c4 c5 c6 c7) (nd : [c1, c2, c3, c4, c5, c6, c7].Nodup) (hW : f.W = [c1, c2, c3, c4, c5, c6, c7]) (hcd : f.cd = .ref 392) (hC : CodeHd f.g 392 388) (hroom : 20 ≤ f.room) (O : f.Ok) {E : Value → Shared → Prop} {s : Shared} {m : Str → Option Value} {N : Led} {sc : Addr} {vs : List Value} {ns : List Int}
    (I : Inv f s.heap m N ⟨[(Str.ofString "script", .val (.ref sc))], none⟩) (hl : f.g.IsList sc vs.toArray) (hi : IntsAre vs ns) (hsz : vs.length ≤ 1000) (h8 : (388, tabObj #[]) ∈ N) (h8W : 388 ∉ f.W) :
    wpAny (model f.prog f.w) f.A (execs (lawPack w).1.1 f.env) (fun fl s' => fl = .ret (.bool true) ∧ ∃ h' tk' m' N', s' = { s with heap := h', toks := tk' } ∧ Fr f.g f.L h' m' ∧ News f.g f.L h' N' ∧ ∃ ps, (388, tabObj ps) ∈ N') E s := by
  have hgl : nsIn f.K mainGlobals (Str.ofString "_law_pen") = some (some (.ref 339)) := by rw [hG]; exact gllawpen
  have hkp : keepIn f.K (.ref 339) = true := by rw [hG]; exact kp339
  show wpAny _ _ (execs [.Assign [.Name (Str.ofString "pen") _] (.Call (.Name (Str.ofString "_law_pen") _) [.Name (Str.ofString "script") _] [] _) _, .Assign [.Name (Str.ofString "limits") _] (.Call (.Name (Str.ofString "Limits") _) [] [⟨some (Str.ofString "width"), .Constant (.int 32) _ _, _⟩, ⟨some (Str.ofString "real_digits"), .Constant (.int 40) _ _, _⟩, ⟨some (Str.ofString "double_digits"), .Constant (.int 40) _ _, _⟩, ⟨some (Str.ofString "top_exponent"), .Constant (.int 400) _ _, _⟩] _) _,
    .For (.Name (Str.ofString "turn") _) (.Call (.Name (Str.ofString "range") _) [.Constant (.int 3) _ _] [] _) (lawPre w ++ lawTold w :: lawSuf w) [] _, .Return (some (.Constant (.bool true) _ _)) _] _) _ _ _
  refine genP fun P0 p0 => ?_
  refine wpAny_execs_cons (wpAny_Assign_Name (Call_ (nameX_K I.F O.X (topRead O) hgl ?_ O.hk (by rw [hcs]; rfl) (by decide)) rfl) rfl)
  refine callWith_K O.X hkp (wpAny_items_cons (PostV.kk (EV.name (Q := fun a σ' => a = .val (.ref sc) ∧ σ' = ⟨[(Str.ofString "script", .val (.ref sc))], none⟩) rfl ⟨rfl, rfl⟩ O E s m N I) fun h₁ t₁ N₁ v I₁ E₁ R₁ => ?_) (by rfl)) (by rfl) (by rfl)
  obtain rfl := R₁.outVal
  refine wpAny_items_nil ⟨O.X.keeps I₁.F.keep, ?_⟩
  refine wpAny_mono (lawpen hG O (by omega) (s := { s with heap := h₁, toks := t₁ }) I₁.F I₁.nw hl hi hsz) (fun v s₂ p => ?_) fun _ _ e => e
  obtain ⟨N₂, F₂, n₂, P, i, h₂, t₂, u1, u2, rfl, rfl, sub, hP⟩ := p
  have h8₂ : (388, tabObj #[]) ∈ N₂ := sub _ (E₁ _ h8 h8W)
  have hP8 : P ≠ 388 := fun z => by
    have e := congrArg Obj.cls (News.uniq n₂ hP (z ▸ h8₂))
    exact nomatch e
  let f' : Fm := { f with W := P :: f.W }
  have O' : f'.Ok := ⟨O.B, O.X, O.T, O.hA, O.hh, O.hk, O.hd, O.hu, O.nd⟩
  have stb : ∀ x c, f.cs.names.lookup x = some .cell → f.cl.lookup x = some c → c ∈ f.W → Stb f' x := fun x c h1 h2 h3 => .inr ⟨h1, ⟨c, h2, .tail _ h3⟩, by show ∀ y z c, f.cl.lookup y = some c → f.cl.lookup z = some c → y = z; rw [hcl]; exact cell_inj nd⟩
  have hf : LawF w mean mg mb f' := by
    refine ⟨hG, hout, hcs, fun x hx => ?_, hroom⟩
    have go := stb x
    rw [hcs, hcl, hW] at go
    simp only [List.mem_cons, List.not_mem_nil, or_false] at hx
    rcases hx with rfl | rfl | rfl | rfl | rfl | rfl | rfl
    · exact go c1 rfl rfl (by simp)
    · exact go c2 rfl rfl (by simp)
    · exact go c3 rfl rfl (by simp)
    · exact go c4 rfl rfl (by simp)
    · exact go c5 rfl rfl (by simp)
    · exact go c6 rfl rfl (by simp)
    · exact go c7 rfl rfl (by simp)
  have h8W' : 388 ∉ f'.W := fun h => by
    rcases List.mem_cons.mp h with h | h
    · exact hP8 h.symm
    · exact h8W h
  have I₂ : Inv f' h₂ m N₂ ⟨[], some (P, i, 0)⟩ := by
    refine ⟨F₂, n₂, fun x av e => (nomatch e), fun P' n' c' e => ?_, fun P' n' c' e => ?_, fun c hc => ?_, fun x c hx => ?_⟩
    · injection e with e; injection e with a b; injection b with b c
      subst a b c
      exact ⟨_, _, _, hP⟩
    · injection e with e; injection e with a b
      subst a
      exact .head _
    · rcases List.mem_cons.mp hc with rfl | hc
      · exact ⟨_, hP, penO_ne⟩
      · obtain ⟨o, ho, hs⟩ := I₁.mt c hc
        exact ⟨o, sub _ ho, hs⟩
    · obtain ⟨o, v, ho, hv⟩ := I₁.cells x c hx
      exact ⟨o, v, sub _ ho, hv⟩
  refine store (f := f') O' (s := { s with heap := h₂, toks := t₂ }) (σ := ⟨[], some (P, i, 0)⟩) (a := .val (.ref P)) I₂ rfl (.inl (by show f.cs.names.lookup _ = _; rw [hcs]; rfl)) fun h₃ m₃ N₃ t₃ I₃ E₃ => ?_
  have hlim : Stb f' (Str.ofString "limits") := hf.stb _ (by simp)
  refine execs_step (f := f') O' (s := { s with heap := h₃, toks := t₃ }) I₃ (Q1 := fun φ σ' => φ = .next ∧ σ' = ((⟨[], some (P, i, 0)⟩ : Sto).put (Str.ofString "pen") (.val (.ref P))).put (Str.ofString "limits") (.obj 328 limF)) (E1.assign (limits_made (f := f') hf.G (by rw [show f'.cs = lawScope w from hcs]; rfl) (by show 2 ≤ f.room; omega) ⟨hlim, rfl, rfl⟩)) (fun a σ' q => nomatch q.1) fun σ₄ h₄ t₄ m₄ N₄ I₄ E₄ q₄ => ?_
  obtain ⟨-, rfl⟩ := q₄
  have T₄ : Tab (lamPack w).1.1 (f'.env.qual ++ "<lambda>") f'.W N₄ := ⟨#[], E₄ _ (E₃ _ h8₂ h8W') h8W', trivial, .inl rfl⟩
  refine wpAny_execs_cons (wpAny_mono (law_loop hf hcl hcd hC h8W' O' (s := { s with heap := h₄, toks := t₄ }) I₄ (P := P) ⟨i, 0, SeesS.of ⟨rfl, rfl, trivial⟩ rfl⟩ T₄) (fun fl s₅ p => ?_) fun _ _ e => e)
  obtain ⟨rfl, σ₅, h₅, t₅, m₅, N₅, rfl, I₅, g₅⟩ := p
  refine wpAny_execs_cons (wpAny_Return_some (wpAny_Constant_bool (p0 _ _ ⟨rfl, h₅, t₅, m₅, N₅, rfl, I₅.F, I₅.nw, g₅⟩)))
end
section
theorem far (n : Nat) (h : 388 < n) (h' : 388 ∈ [n + 1, n + 1 + 1, n + 1 + 1 + 1, n + 1 + 1 + 1 + 1, n + 1 + 1 + 1 + 1 + 1, n + 1 + 1 + 1 + 1 + 1 + 1, n + 1 + 1 + 1 + 1 + 1 + 1 + 1]) : False := by
  simp only [List.mem_cons, List.not_mem_nil, or_false] at h'
  omega
theorem ints_len : ∀ {vs : List Value} {ns : List Int}, IntsAre vs ns → vs.length = ns.length
  | _, _, .nil => rfl
  | _, _, .cons n t r => by rw [List.length_cons, List.length_cons, ints_len r]
theorem law_gen {c1 c2 c3 c4 c5 c6 c7 : Addr} (nd' : [c1, c2, c3, c4, c5, c6, c7].Nodup) (far : 388 ∉ [c1, c2, c3, c4, c5, c6, c7]) {s : Shared} {gh h₁ : Heap} {L fa : Addr} {m : Str → Option Value} {tk : Nat} {o1 o2 o3 o4 o5 o6 o7 : Obj} {v1 v2 v3 v4 v5 v6 v7 : Option Value} {sc : Addr} {vs : List Value} {ns : List Int} {E : Value → Shared → Prop}
    (X : (hd.heap_1 w.params).In gh) (T : Top topProg (looseW vw [] ++ (recsOf vw).map (·.name) ++ (litsOf vw).map (·.1) ++ (clssOf vw (looseW vw [])).map (·.name)) mean mg mb gh) (B : Below callerA gh [] gh) (F : Fr gh L h₁ m) (hm : m (Str.ofString "script") = some (.ref sc))
    (hl : gh.IsList sc vs.toArray) (hi : IntsAre vs ns) (hlen : ns.length ≤ 63) (hC : CodeHd gh 392 388)
    (N : News gh L h₁ [(c7, o7), (c6, o6), (c5, o5), (c4, o4), (c3, o3), (c2, o2), (c1, o1), (388, tabObj #[])])
    (d1 : o1.data = .cell v1) (d2 : o2.data = .cell v2) (d3 : o3.data = .cell v3) (d4 : o4.data = .cell v4) (d5 : o5.data = .cell v5) (d6 : o6.data = .cell v6) (d7 : o7.data = .cell v7) :
    wpAny (model PySem.Challenge.rw_no0259_01.row.prog w) (callerA.deeper (envX "law" (lawScope w) L fa (.ref 392) (cellL c1 c2 c3 c4 c5 c6 c7)))
      (execs (lawPack w).1.1 (envX "law" (lawScope w) L fa (.ref 392) (cellL c1 c2 c3 c4 c5 c6 c7)))
      (fun fl s' => fl = .ret (.bool true) ∧ ∃ h' tk' m' N', s' = { s with heap := h', toks := tk' } ∧ Fr gh L h' m' ∧ News gh L h' N' ∧ ∃ ps, (388, tabObj ps) ∈ N') E { s with heap := h₁, toks := tk } := by
  let f : Fm := ⟨GG w mean mg mb, callerA.deeper (envX "law" (lawScope w) L fa (.ref 392) (cellL c1 c2 c3 c4 c5 c6 c7)), callerA, gh, [], gh, L, "law", lawScope w, fa, .ref 392, cellL c1 c2 c3 c4 c5 c6 c7, [c1, c2, c3, c4, c5, c6, c7], 20⟩
  have nd : ∀ x ∈ (lawScope w).names, (x.1 == ("__debug__" : Str)) = false ∧ (x.1 == ("__classdict__" : Str)) = false := by
    show ∀ x ∈ [_, _, _, _, _, _, _, _, _, _, _, _, _, _, _, _, _, _, _, _, _, _, _, _, _, _, _, _, _], _
    decide +kernel
  have O : f.Ok := ⟨B, X, T, rfl, rfl, rfl, (by decide +kernel : callerA.depth + 1 + 20 < recursionLimit), (by decide +kernel : callerA.units + 3 + 8 * 20 + 8 < cLine), nd⟩
  have notSol : ∀ {o : Obj} {v : Option Value}, o.data = .cell v → ¬ Solid o := fun {o v} e => not_solid (fun es n q => by rw [e] at q; exact nomatch q) (fun q => by rw [e] at q; exact nomatch q) (.inl fun a c q => by rw [e] at q; exact nomatch q)
  have I : Inv f h₁ m [(c7, o7), (c6, o6), (c5, o5), (c4, o4), (c3, o3), (c2, o2), (c1, o1), (388, tabObj #[])] ⟨[(Str.ofString "script", .val (.ref sc))], none⟩ := by
    refine ⟨F, N, fun x av e => .inl ?_, (fun P n c e => nomatch e), (fun P n c e => nomatch e), fun c hc => ?_, fun x c hx => ?_⟩
    · have hmem := mem_of_lookup e
      simp only [List.mem_singleton, Prod.mk.injEq] at hmem
      obtain ⟨rfl, rfl⟩ := hmem
      exact ⟨rfl, .ref sc, hm, rfl⟩
    · have hc' : c ∈ [c1, c2, c3, c4, c5, c6, c7] := hc
      simp only [List.mem_cons, List.not_mem_nil, or_false] at hc'
      rcases hc' with rfl | rfl | rfl | rfl | rfl | rfl | rfl
      · exact ⟨o1, by simp, notSol d1⟩
      · exact ⟨o2, by simp, notSol d2⟩
      · exact ⟨o3, by simp, notSol d3⟩
      · exact ⟨o4, by simp, notSol d4⟩
      · exact ⟨o5, by simp, notSol d5⟩
      · exact ⟨o6, by simp, notSol d6⟩
      · exact ⟨o7, by simp, notSol d7⟩
    · have hmem := mem_of_lookup (show (cellL c1 c2 c3 c4 c5 c6 c7).lookup x = some c from hx)
      simp only [cellL, List.mem_cons, Prod.mk.injEq, List.not_mem_nil, or_false] at hmem
      rcases hmem with ⟨rfl, rfl⟩ | ⟨rfl, rfl⟩ | ⟨rfl, rfl⟩ | ⟨rfl, rfl⟩ | ⟨rfl, rfl⟩ | ⟨rfl, rfl⟩ | ⟨rfl, rfl⟩
      · exact ⟨o7, v7, by simp, d7⟩
      · exact ⟨o6, v6, by simp, d6⟩
      · exact ⟨o5, v5, by simp, d5⟩
      · exact ⟨o4, v4, by simp, d4⟩
      · exact ⟨o3, v3, by simp, d3⟩
      · exact ⟨o2, v2, by simp, d2⟩
      · exact ⟨o1, v1, by simp, d1⟩
  exact law_run (f := f) rfl rfl rfl rfl nd' rfl rfl hC (Nat.le_refl _) O (s := { s with heap := h₁, toks := tk }) I hl hi (by have := ints_len hi; omega) (by simp) far
theorem law_final {s : Shared} {gh h₁ : Heap} {L fa : Addr} {m : Str → Option Value} {tk : Nat} {o1 o2 o3 o4 o5 o6 o7 : Obj} {v1 v2 v3 v4 v5 v6 v7 : Option Value} {sc : Addr} {vs : List Value} {ns : List Int} {E : Value → Shared → Prop}
    (X : (hd.heap_1 w.params).In gh) (T : Top topProg (looseW vw [] ++ (recsOf vw).map (·.name) ++ (litsOf vw).map (·.1) ++ (clssOf vw (looseW vw [])).map (·.name)) mean mg mb gh) (B : Below callerA gh [] gh) (F : Fr gh L h₁ m) (hm : m (Str.ofString "script") = some (.ref sc))
    (hl : gh.IsList sc vs.toArray) (hi : IntsAre vs ns) (hlen : ns.length ≤ 63) (hC : CodeHd gh 392 388)
    (N : News gh L h₁ [(L + 1 + 1 + 1 + 1 + 1 + 1 + 1, o7), (L + 1 + 1 + 1 + 1 + 1 + 1, o6), (L + 1 + 1 + 1 + 1 + 1, o5), (L + 1 + 1 + 1 + 1, o4), (L + 1 + 1 + 1, o3), (L + 1 + 1, o2), (L + 1, o1), (388, tabObj #[])]) (hL : 388 < L)
    (d1 : o1.data = .cell v1) (d2 : o2.data = .cell v2) (d3 : o3.data = .cell v3) (d4 : o4.data = .cell v4) (d5 : o5.data = .cell v5) (d6 : o6.data = .cell v6) (d7 : o7.data = .cell v7) :
    wpAny (model PySem.Challenge.rw_no0259_01.row.prog w) (callerA.deeper (envX "law" (lawScope w) L fa (.ref 392) (cellL (L + 1) (L + 1 + 1) (L + 1 + 1 + 1) (L + 1 + 1 + 1 + 1) (L + 1 + 1 + 1 + 1 + 1) (L + 1 + 1 + 1 + 1 + 1 + 1) (L + 1 + 1 + 1 + 1 + 1 + 1 + 1))))
      (execs (lawPack w).1.1 (envX "law" (lawScope w) L fa (.ref 392) (cellL (L + 1) (L + 1 + 1) (L + 1 + 1 + 1) (L + 1 + 1 + 1 + 1) (L + 1 + 1 + 1 + 1 + 1) (L + 1 + 1 + 1 + 1 + 1 + 1) (L + 1 + 1 + 1 + 1 + 1 + 1 + 1))))
      (fun fl s' => fl = .ret (.bool true) ∧ ∃ h' tk' m' N', s' = { s with heap := h', toks := tk' } ∧ Fr gh L h' m' ∧ News gh L h' N' ∧ ∃ ps, (388, tabObj ps) ∈ N') E { s with heap := h₁, toks := tk } :=
  law_gen (by simp) (fun h => far L hL h) X T B F hm hl hi hlen hC N d1 d2 d3 d4 d5 d6 d7
end
end
end Mine
set_option maxHeartbeats 4000000 in
theorem PySem.Challenge.cw_no0259_01_holds : PySem.Challenge.rw_no0259_01.Holds := by
  refine Mine.hd ⟨Mine.head_left _, ?_⟩
  k_go0
  all_goals try k_fold
  rename_i w s₀ s₁ mg mb G Y fa o pm doc ho hg X V T B TE TW hcd ns hs hlay0 hLay hr hl2 w1 w2 sc vs w3 hList ra well r0 hI hrW hcond hcond2 hD h₁ tk o7 o6 o5 o4 o3 o2 o1 d7 d6 d5 d4 d3 d2 d1 X0 X' T' K' F' N' l0
  refine wpAny_mono (Mine.law_final (s := s₁) (tk := tk) X' T' K' F' ?hm lifted hI ?hlen codeHd N' l0 d1 d2 d3 d4 d5 d6 d7) (fun fl s' p => ?hpost) (fun e s' h => h)
  case hm => rfl
  case hlen => omega
  case hpost =>
    obtain ⟨rfl, h', tk', m', N'', rfl, F'', N2, ps, hps⟩ := p
    refine ⟨⟨.inl ⟨_, .bool true, [], rfl, ?_, ReadsW.bool true, ?_, fun _ => ⟨List.nodup_nil, fun _ hm => (nomatch hm)⟩⟩, F''.keep, rfl, hg⟩, GrownAt.of N2 hps, trivial⟩
    · intro cls; rfl
    · kc_post
