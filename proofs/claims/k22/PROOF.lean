import PyProof.Rows.All
import Wide.All
import OpenK.AllK
import Wide.FinOn
import PyProof.EqAt
import PyProof.EqKinds
import PyProof.TupleCall
import HandS.ForMost
import HandS.ForExc
import HandS.Wide
import HandS.CallSlots
import HandS.Zip
import HandS.Style
import HandS.Defaults
import HandS.IsInst
import HandS.HeadEnd
import HandS.HeadHook4
import HandS.Nested
import HandS.EndTab
import HandS.TupMul
import HandS.NoneIn
import PyProof.P3Eq
import HandS.TryMany
import HandS.ExcField
import HandS.FStr
import PyProof.FString2
import PyProof.RowDictHeap
import PyProof.ReprRoads
import KE.KExcSuper
import KE.KExcInit
import HandS.ExcInit
import HandS.ExcOwn
import HandS.RaiseMore
import PyProof.ExcBaseAll.LookupError
import PyProof.ExcBaseAll.IndexError
import PyProof.ExcBaseAll.OverflowError
import PyProof.ExcBaseAll.ArithmeticError
import HandS.Lambda
import HandS.Text
import HandS.Dict
import HandS.Head0
import HandS.Head1
import HandS.Head2
import HandS.HeadWalk
import PySem.Challenge.RW_keepersapart_k22_errors_and_judges_of_nu
set_option Elab.async false
set_option linter.all false
set_option maxRecDepth 100000
namespace Mir
open PySem PySem.Spec PyProof.Rows L2
/-- the names that code objects made at a place of the text bear: one function for each law -/
def nmG : Nat → Nat → Str := fun l _ => if l < 191 then "_law_right.<locals>.<lambda>" else "law.<locals>.<lambda>"
/-- tables of code objects -/
def TbsG (T : List Addr) (H : Hp) : Prop := ∀ P ∈ T, NdefX.TabN H P nmG
/-- what a def's caller has room for: no repr under way, a division of very large numbers -/
structure Gd (k : Nat) (P : Program) (base : Heap) (A : Around) : Prop where
  rg : A.guards = some []
  ns : base.NoSeer
  tr : P.given.tree = none
  dp : A.depth + 3 * k + 105 < recursionLimit
theorem Gd.mono {j k : Nat} {P : Program} {base : Heap} {A : Around} (g : Gd k P base A) (h : j ≤ k) : Gd j P base A := ⟨g.rg, g.ns, g.tr, by have := g.dp; omega⟩
/-- a def's promise where no repr is under way -/
structure FnG (P : Program) (w : World) (K : PySem.W.Frag) (mg : Str → Option Value) (base : Heap) (T : List Addr) (CX : CXT) (k : Nat) (f : Addr) (fd : FuncData) (ps : List Str) (sp : Sp) : Prop where
  len : ∀ vs H Q E, sp vs H Q E → vs.length = ps.length
  run : ∀ (A : Around) (outer : List Env) (s : Shared) (H : Hp) (args : Args) (us : List Value) (vs : List V) (Q : VK) (E : XK), Gd k P base A → Room k A → TbsG T H → Env0 P w K mg base A outer s H → BindsTo s fd args (ps.zip us) → Vals vs us → sp vs H Q E →
    codeAny (model P w) A (.call (.ref f) args) (CR CX outer P w H s Q E) s
section
variable {CX : CXT} {P : Program} {w : World} {K : PySem.W.Frag} {mg : Str → Option Value} {base : Heap} {T : List Addr} {k : Nat} {f : Addr} {x qual : Str} {params : Arguments} {body : List Stmt} {scope : Scope} {dvs : List V} {kws : List (Str × V)} {fd : FuncData} {N ps : List Str} {sp : Sp}
theorem guards_deeper (A : Around) (env : Env) (h : A.guards = some []) : (A.deeper env).guards = some [] := by
  first
    | exact h
    | (unfold Around.deeper; exact h)
    | simpa [Around.deeper] using h
theorem Gd.deeper {k : Nat} {A : Around} (g : Gd (k + 1) P base A) (env : Env) : Gd k P base (A.deeper env) := ⟨guards_deeper A env g.rg, g.ns, g.tr, by
  have := g.dp
  show A.depth + 1 + 3 * k + 105 < _
  omega⟩
/-- the code object of the def at f -/
def CodeAt (K : PySem.W.Frag) (f : Addr) (cdv : Value) : Prop := ∃ (oc : Value) (od : Option Addr) (fd : FuncData) (osl : Array (Option Value)) (c : Addr), K.lookup f = some ⟨oc, od, .func fd, osl⟩ ∧ fd.code = .ref c ∧ cdv = .ref c
theorem CodeAt.eq {K : PySem.W.Frag} {p : Str × Option Str} {cdv : Value} (h : CodeAt K (He.fAd K p) cdv) : cdv = .ref (He.codeOf K p) := by
  obtain ⟨oc, od, fd, osl, c, h1, h2, h3⟩ := h
  rw [He.codeOf_eq h1 h2, h3]
theorem funG (F : FunD K x qual params body scope dvs kws f fd) (S : FnScope N ps scope) (len : ∀ vs H Q E, sp vs H Q E → vs.length = ps.length)
    (go : ∀ (cdv : Value) (A : Around) (outer : List Env) (s : Shared) (H : Hp) (vs : List V) (Q : VK) (E : XK), CodeAt K f cdv → Gd k P base (A.deeper (envOfC qual scope s.heap.objs.size f cdv)) → Room k (A.deeper (envOfC qual scope s.heap.objs.size f cdv)) → TbsG T H → sp vs H Q E →
      ∃ t, PSs (cxOf CX P w K mg base N qual scope f cdv A outer s H E) body t ∧ t { nx := fun _ H' => Q .non H', rt := Q } (L2.start N vs) H) : FnG P w K mg base T CX (k + 1) f fd ps sp := by
  obtain ⟨oc, od, dV, kV, doc, pm, an, cdv, ct, osl, rfl, at_, code, _, _⟩ := F.ex
  constructor
  · exact len
  intro A outer s H args us vs Q E gd room tb env bind rel want
  have size := len _ _ _ _ want
  have inK : K.In s.heap := env.mod.kin.keeps fun b o e => (env.bs b o e).1
  have noLim : s.heap.NoLimit := env.mod.nolimit.keeps fun b o e => (env.bs b o e).1
  have kinds : ∀ y ∈ ps.zip us, scope.names.lookup y.1 = some .local ∨ (scope.names.lookup y.1 = some .cell ∧ ((cellsFrom (s.heap.objs.size + 1) scope.names []).lookup y.1).isSome = true) := by
    rintro ⟨n, v⟩ mem
    rcases S.par n (List.of_mem_zip mem).1 with l | c
    · exact Or.inl l
    · exact Or.inr ⟨c, PySem.W.cellsFrom_some _ _ _ (Or.inl c)⟩
  refine codeAny_call_function room.depth (inK _ _ at_) rfl S.co S.gen rfl (PySem.W.codeRec_of inK code) (bind _ _ _ _ ?_)
  refine wpAny_newFunctionEnv_cells S.kind kinds fun fr e1 s1 called => ?_
  subst e1
  refine ⟨noLim.keeps called.toInCall.keep, codeAny_func ?_⟩
  obtain ⟨cc, ec⟩ := He.codeIn_ref code
  obtain ⟨t, runs, reads⟩ := go cdv A outer s H vs Q E ⟨_, _, _, _, cc, at_, ec, ec⟩ (gd.deeper _) (room.deeper _) tb want
  have J := inv_start (CX := CX) (E := E) S room.hd env size rel called
  refine wpAny_mono (runs.run [] s1 (L2.start N vs) H _ J reads) (fun flow s2 done => ?_) fun _ _ z => z
  match flow, done with
  | .ret u, done =>
    obtain ⟨v, σ2, H2, J2, rv, q⟩ := done
    exact ⟨v, H2, J2.os, J2.bare, J2.base, J2.hok, rv, q⟩
  | .next, done =>
    obtain ⟨σ2, H2, J2, q⟩ := done
    exact ⟨V.non, H2, J2.os, J2.bare, J2.base, J2.hok, rfl, q⟩
  | .brk, done =>
    obtain ⟨_, _, _, q⟩ := done
    exact q.elim
  | .cont, done =>
    obtain ⟨_, _, _, q⟩ := done
    exact q.elim
end
section
variable {X : Cx} {CX : CXT} {T : List Addr} {k : Nat} {f : Addr} {fd : FuncData} {ps : List Str} {sp : Sp} {dvs : List V} {ds : List Value} {W : WX} {x : Str} {p pos : Pos} {e : Expr} {es : List Expr} {t : TA}
theorem pe_callG (F : FnG X.prog X.w X.K X.mg X.base T CX k f fd ps sp) (gd : Gd k X.prog X.base X.A) (room : Room k X.A) (hg : Gl X x) (hm : X.mg x = some (.ref f)) (hk : PySem.W.keepIn X.K (.ref f) = true) (hb : Binds X.K fd ps ds) (hd : Vals dvs ds) (hx : ∀ σ, PassesAt CX X σ (WE W σ))
    (ha : PA X (e :: es) t) (hdb : (x == ("__debug__" : Str)) = false := by decide) (he : starEach (e :: es) X.env = (false, eval e X.env) :: starEach es X.env := by rfl) (hpl : (backTo pos (starEach es X.env)).any (·.1) = false := by rfl) :
    PE X (.Call (.Name x p) (e :: es) [] pos) (fun σ H Q => t σ H fun vs H1 => TbsG T H1 ∧ sp (vs ++ dvs) H1 Q (WE W σ)) := by
  constructor
  intro pins s σ H Q I want
  refine wpAny_Call_Name_kw (ld_glob I hg hm ?_ hdb)
  refine PySem.W.callWith_K (h₀ := X.base) I.ok.mod.kin hk (thn (ha.run pos pins s σ H _ I want) fun us s1 got => ?_) he hpl
  obtain ⟨vs, H1, I1, rel, tb, q⟩ := got
  refine ⟨I1.kIn, ?_⟩
  have rel2 : Vals (vs ++ dvs) (us ++ ds) := rel.append hd
  have size : (us ++ ds).length = ps.length := rel2.length.symm.trans (F.len _ _ _ _ q)
  refine wpAny_call (codeAny_mono (F.run X.A X.stack s1 H1 ⟨us, []⟩ _ _ Q (WE W σ) gd room tb I1.env0 (hb s1 us I1.kIn size) rel2 q) fun r s2 out => ?_)
  match r, out with
  | .error ex, out => exact hx σ pins H1 s1 ex s2 I1 out
  | .ok (.ret u), out => exact I1.after out
  | .ok .next, out => exact False.elim out
  | .ok .brk, out => exact False.elim out
  | .ok .cont, out => exact False.elim out
end
/-! the law's end -/
/-- at the law's entry: the script, the tables, nothing else -/
structure At0 (H : Hp) (a : Addr) (us : List Addr) : Prop where
  tabs : ∀ b ∈ us, H b = some (.tbl #[])
  only : ∀ b, H b = none ∨ b ∈ us ∨ ∃ o xs, H b = some (.frz o (.lst xs))
  not : a ∉ us
theorem TabsN0 {H : Hp} {T : List Addr} {us : List Addr} (h : ∀ b ∈ us, H b = some (.tbl #[])) (hT : ∀ p ∈ T, p ∈ us) : TbsG T H := fun p hp => NdefX.TabN.nil (h _ (hT p hp))
theorem lawG {P : Program} {w : World} {K : PySem.W.Frag} {mg mb : Str → Option Value} {CX : CXT} {k : Nat} {fa a : Addr} {cs : List (Addr × Addr)} {T : List Addr} {fd : FuncData} {x : Str} {sp : Sp} {s : Shared} {items : List Value} {ns : List Int}
    (inK : K.In s.heap) (globals : s.heap.Ns mainGlobals mg) (blts : s.heap.Ns builtinsNs mb) (boots : ∀ x : Str, x ≠ "__name__" → mb x = bootBuiltins x) (noLim : s.heap.NoLimit) (noGens : s.gens = #[])
    (hT : ∀ p ∈ cs, s.heap.get? p.2 = some { cls := .none, data := .fields #[] }) (nT : ∀ p ∈ cs, K.lookup p.2 = none) (heads : ∀ p ∈ cs, PySem.W.CodeHd s.heap p.1 p.2) (tT : ∀ p ∈ T, p ∈ cs.map (·.2))
    (bmain : ∃ (bm : Addr) (ob : Obj), mg "__builtins__" = some (.ref bm) ∧ bm ≠ builtinsNs ∧ s.heap.get? bm = some ob ∧ ob.cls = .type "module" ∧ ob.dict = some builtinsNs ∧ ob.data = .plain)
    (script : s.heap.get? a = some { cls := .type "list", data := .seq items.toArray }) (areInts : IntsAre items ns) (few : ns.length ≤ sizeLine) (room : Room k callerA) (seer : s.heap.NoSeer) (tree : P.given.tree = none) (deep : callerA.depth + 3 * k + 105 < recursionLimit)
    (F : ∀ base : Heap, K.In base → base.Ns mainGlobals mg → (∀ p ∈ cs, LamX.TabB base mg p.1 p.2) → FnG P w K mg base T CX k fa fd [x] sp) (binds : ∀ (s : Shared) (u : Value), BindsTo s fd ⟨[u], []⟩ [(x, u)])
    (want : ∀ H : Hp, At0 H a (cs.map (·.2)) → SqL K H a (ns.map V.int) → sp [.ref a] H (fun v _ => v = .bl true) fun _ _ _ => False)
    (never : ∀ H e s', CX [] H s (fun _ _ _ => False) e s' → False) :
    codeAny (model P w) callerA (.call (.ref fa) ⟨[.ref a], []⟩) (fun r s' => r = .ok (.ret (.bool true)) ∧ OldK s.heap s'.heap ∧ s'.os = s.os ∧ AllBare s'.gens) s := by
  have vals := vals_ints areInts
  have size := areInts.length
  have empty : ∀ b : Addr, b ∈ cs.map (·.2) → s.heap.get? b = some { cls := .none, data := .fields #[] } := fun b hb => by
    obtain ⟨p, hp, e⟩ := List.mem_map.mp hb
    rw [← e]; exact hT p hp
  have apart : a ∉ cs.map (·.2) := fun z => by
    have q := empty a z
    rw [script] at q
    cases (show Data.seq items.toArray _ = Data.fields #[] from congrArg Obj.data (Option.some.inj q))
  have main : ∀ H : Hp, At0 H a (cs.map (·.2)) → SqL K H a (ns.map V.int) → HOk P w H s.heap → (∀ b u, H b = some u → b = a ∨ b ∈ cs.map (·.2)) → (∀ u, H a = some u → K.lookup a = none) →
      codeAny (model P w) callerA (.call (.ref fa) ⟨[.ref a], []⟩) (fun r s' => r = .ok (.ret (.bool true)) ∧ OldK s.heap s'.heap ∧ s'.os = s.os ∧ AllBare s'.gens) s := by
    intro H at0 sq held alone outside
    have plainFree : ∀ {b : Addr} {o : Obj}, s.heap.get? b = some o → (∀ vs n, o.data ≠ .seq vs n) → o.data ≠ .fields #[] → H b = none := fun {b o} e h1 h2 => by
      cases q : H b with
      | none => rfl
      | some u =>
        rcases alone b u q with z | z
        · rw [z, script] at e; cases e; exact absurd rfl (h1 _ _)
        · rw [empty b z] at e; cases e; exact absurd rfl h2
    have dictFree : ∀ {b : Addr} {o : Obj} {es : Array DictEntry} {ep : Nat}, s.heap.get? b = some o → o.data = .dict es ep → H b = none := fun {b o es ep} e d =>
      plainFree e (fun _ _ z => by rw [d] at z; cases z) (fun z => by rw [d] at z; cases z)
    have there : ∀ {b : Addr} {o : Obj}, s.heap.get? b = some o → H b = none → (hidT s.heap H).get? b = some o := fun e n => hidT_get e n
    have spaces : ∀ {b : Addr} {m : Str → Option Value}, s.heap.Ns b m → (hidT s.heap H).Ns b m := by
      rintro b m ⟨o, es, ep, e, d, r⟩
      exact ⟨o, es, ep, there e (dictFree e d), d, r⟩
    have inBase : K.In (hidT s.heap H) := by
      intro b o e
      refine there (inK b o e) ?_
      cases q : H b with
      | none => rfl
      | some u =>
        rcases alone b u q with z | z
        · subst z
          rw [outside u q] at e
          cases e
        · obtain ⟨p, hp, ep⟩ := List.mem_map.mp z
          rw [← ep, nT p hp] at e
          cases e
    obtain ⟨mc, lim1, lim2⟩ := noLim
    have quiet : (hidT s.heap H).NoSeer := by
      obtain ⟨m1, p1, p2⟩ := seer.statics
      obtain ⟨m2, q1, q2⟩ := seer.mods
      obtain ⟨m3, r1, r2⟩ := seer.imp
      obtain ⟨m4, bm, ob, t1, t2, t3, t4, t5⟩ := seer.main
      refine ⟨⟨m1, spaces p1, p2⟩, ⟨m2, spaces q1, q2⟩, ⟨m3, spaces r1, r2⟩, ⟨m4, bm, ob, spaces t1, t2, there t3 ?_, t4, t5⟩⟩
      cases q : H bm with
      | none => rfl
      | some u =>
        rcases alone bm u q with z | z
        · subst z
          rw [script] at t3
          cases t3
          exact absurd t4 (by simp)
        · rw [empty bm z] at t3
          cases t3
          exact absurd t4 (by simp)
    have tables : ∀ p ∈ cs, LamX.TabB (hidT s.heap H) mg p.1 p.2 := fun p hp => by
      have hTp := hT p hp
      obtain ⟨o, us, file, tf, flags, tg, inF, text, tt, e1, r1, r2, r3, r4⟩ := heads p hp
      obtain ⟨bm, ob, b1, b2, b3, b4, b5, b6⟩ := bmain
      obtain ⟨og, es, ep, eg, dg, rg⟩ := id globals
      have nG : bm ≠ mainGlobals := fun q => by
        rw [q, eg] at b3; cases b3
        rw [dg] at b6; cases b6
      have nP : bm ≠ p.2 := fun q => by
        rw [q, hTp] at b3; cases b3; cases b6
      have gP : mainGlobals ≠ p.2 := fun z => by
        rw [z, hTp] at eg; cases eg; cases dg
      have fr1 : H p.1 = none := plainFree e1 (fun _ _ z => by rw [r2] at z; cases z) (fun z => by rw [r2] at z; cases z; simp at r3)
      have fr2 : H bm = none := plainFree b3 (fun _ _ z => by rw [b6] at z; cases z) (fun z => by rw [b6] at z; cases z)
      exact ⟨⟨o, us, file, tf, flags, tg, inF, text, tt, there e1 fr1, r1, r2, r3, r4⟩, ⟨bm, ob, b1, b2, nG, nP, there b3 fr2, b4, b5, b6⟩, gP⟩
    have here : Env0 P w K mg (hidT s.heap H) callerA [] s H := by
      refine ⟨rfl, ⟨inBase, spaces globals, ⟨mb, spaces blts, boots⟩, ⟨mc, spaces lim1, lim2⟩⟩, fun b o e => of_hidT e, Nat.le_of_eq (hidT_size _ _), trivial, ?_, held, .of_eq noGens⟩
      intro b hb
      exact absurd (show b ∈ ([] : List Addr) from hb) (List.not_mem_nil)
    have ran := (F _ inBase (spaces globals) tables).run callerA [] s H ⟨[.ref a], []⟩ [.ref a] [.ref a] _ _ ⟨rfl, quiet, tree, deep⟩ room (TabsN0 at0.tabs tT) here (binds s (.ref a)) (.cons rfl .nil) (want H at0 sq)
    refine codeAny_mono ran fun r s2 out => ?_
    match r, out with
    | .error e, out => exact (never H e s2 out).elim
    | .ok .next, out => exact False.elim out
    | .ok .brk, out => exact False.elim out
    | .ok .cont, out => exact False.elim out
    | .ok (.ret u), out =>
      obtain ⟨v, H2, os, bare, un, held2, rel, q⟩ := out
      have qv : v = .bl true := q
      subst qv
      have qu : u = Value.bool true := rel
      subst qu
      have grown : ∀ b ∈ cs.map (·.2), ∃ more : Array Value, s2.heap.get? b = some { cls := .none, data := .fields more } := fun b hb => by
        obtain ⟨more, z⟩ := un.tbls b #[] (at0.tabs b hb)
        exact ⟨_, held2 b _ z⟩
      have kept : ∀ b o, b ∉ cs.map (·.2) → s.heap.get? b = some o → s2.heap.get? b = some o := fun b o nb e => by
        cases q : H b with
        | none => exact un.keep b o e q (fun z => absurd (show b ∈ ([] : List Addr) from z) List.not_mem_nil) List.not_mem_nil
        | some u =>
          rcases at0.only b with z | z | ⟨ob, xs, z⟩
          · rw [q] at z; cases z
          · exact absurd z nb
          · obtain ⟨f1, _⟩ := held b _ z
            obtain ⟨f2, _⟩ := held2 b _ (un.frzs b ob _ z)
            rw [e] at f1
            cases f1
            exact f2
      refine ⟨rfl, ⟨fun b o e => ?_, fun b o e => ?_⟩, os, bare⟩
      · by_cases hb : b ∈ cs.map (·.2)
        · obtain ⟨more, hm⟩ := grown b hb
          obtain ⟨p, hp, ep⟩ := List.mem_map.mp hb
          rw [empty b hb] at e
          cases e
          refine .inr (.inl ⟨?_, rfl, #[], more, rfl, by rw [Array.empty_append]; exact hm⟩)
          rw [← ep]
          exact ((heads p hp).tab (hT p hp)).isCodeTable
        · exact .inl (kept b o hb e)
      · by_cases hb : b ∈ cs.map (·.2)
        · obtain ⟨more, hm⟩ := grown b hb
          exact ⟨_, hm⟩
        · exact ⟨o, kept b o hb e⟩
  let tab : Hp := fun b => if b ∈ cs.map (·.2) then some (.tbl #[]) else none
  cases own : K.lookup a with
  | some o =>
    have e := inK a o own
    rw [script] at e
    cases e
    have tin : ∀ b, b ∈ cs.map (·.2) → tab b = some (.tbl #[]) := fun b hb => if_pos hb
    have tout : ∀ b, b ∉ cs.map (·.2) → tab b = none := fun b hb => if_neg hb
    have only : ∀ b u, tab b = some u → b ∈ cs.map (·.2) ∧ u = .tbl #[] := fun b u z => by
      by_cases hb : b ∈ cs.map (·.2)
      · rw [tin b hb] at z; cases z; exact ⟨hb, rfl⟩
      · rw [tout b hb] at z; cases z
    refine main tab ⟨tin, fun b => ?_, apart⟩ (Or.inr ⟨_, items.toArray, _, own, rfl, rfl, rfl, by rw [List.size_toArray, size]; exact few, by simpa using vals⟩) (fun b u z => ?_) (fun b u z => .inr (only b u z).1) fun u z => absurd (only a u z).1 apart
    · by_cases hb : b ∈ cs.map (·.2)
      · exact .inr (.inl hb)
      · exact .inl (tout b hb)
    · obtain ⟨hb, rfl⟩ := only b u z
      exact empty b hb
  | none =>
    let obj : Obj := { cls := .type "list", data := .seq items.toArray }
    let H : Hp := fun b => if b = a then some (.frz obj (.lst (ns.map V.int))) else tab b
    have at_a : H a = some (.frz obj (.lst (ns.map V.int))) := if_pos rfl
    have off_a : ∀ b, b ≠ a → H b = tab b := fun b h => if_neg h
    have tin : ∀ b, b ∈ cs.map (·.2) → H b = some (.tbl #[]) := fun b hb => by
      rw [off_a b fun z => apart (by rw [← z]; exact hb)]
      exact if_pos hb
    have tout : ∀ b, b ≠ a → b ∉ cs.map (·.2) → H b = none := fun b h hb => by
      rw [off_a b h]
      exact if_neg hb
    have split : ∀ b u, H b = some u → b = a ∨ (b ∈ cs.map (·.2) ∧ u = .tbl #[]) := fun b u z => by
      by_cases h : b = a
      · exact .inl h
      · by_cases hb : b ∈ cs.map (·.2)
        · rw [tin b hb] at z; cases z; exact .inr ⟨hb, rfl⟩
        · rw [tout b h hb] at z; cases z
    refine main H ⟨tin, fun b => ?_, apart⟩ (Or.inl (Or.inr ⟨obj, at_a⟩)) (fun b u z => ?_) (fun b u z => (split b u z).imp id fun z => z.1) fun _ _ => own
    · by_cases h : b = a
      · rw [h]; exact .inr (.inr ⟨_, _, at_a⟩)
      · by_cases hb : b ∈ cs.map (·.2)
        · exact .inr (.inl hb)
        · exact .inl (tout b h hb)
    · rcases split b u z with h | ⟨hb, rfl⟩
      · subst h
        rw [at_a] at z
        cases z
        exact ⟨script, by rw [List.length_map]; exact few, items, _, vals, script⟩
      · exact empty b hb
theorem walkG {l : PySem.W.OpenLaw} {n k : Nat} {q : Program} {loose : List Str} {XP : (Str → Option Value) → Heap → Prop} {YP : World → Heap → Prop} {d : DefRec} {CX : CXT} {x : Str}
    (hn : l.most = some n) (hn2 : n ≤ sizeLine) (hdf : d.params.defaults = []) (room : Room k callerA) (noImp : importsNone q = true) (tree : l.prog.given.tree = none) (deep : callerA.depth + 3 * k + 105 < recursionLimit)
    (F : ∀ (w : World) (mg : Str → Option Value) (fa : Addr) (h : Heap), YP w h → h.Ns mainGlobals mg → mg d.name = some (.ref fa) →
      ∃ (K : PySem.W.Frag) (fd : FuncData) (cs : List (Addr × Addr)) (T : List Addr) (sp : Sp), K.In h ∧ (∀ p ∈ cs, h.get? p.2 = some { cls := .none, data := .fields #[] }) ∧ (∀ p ∈ cs, K.lookup p.2 = none) ∧ (∀ p ∈ cs, PySem.W.CodeHd h p.1 p.2) ∧ (∀ p ∈ T, p ∈ cs.map (·.2)) ∧ (∀ (s : Shared) (u : Value), BindsTo s fd ⟨[u], []⟩ [(x, u)]) ∧
        (∀ (H : Hp) (a : Addr) (ns : List Int), ns.length ≤ n → At0 H a (cs.map (·.2)) → SqL K H a (ns.map V.int) → sp [.ref a] H (fun v _ => v = .bl true) fun _ _ _ => False) ∧
        ∀ base : Heap, K.In base → base.Ns mainGlobals mg → (∀ p ∈ cs, LamX.TabB base mg p.1 p.2) → FnG l.prog w K mg base T CX k fa fd [x] sp)
    (never : ∀ (H : Hp) (s : Shared) (e : Value) (s' : Shared), CX [] H s (fun _ _ _ => False) e s' → False) :
    PySem.W.WalkO q loose XP YP l.row.toRowW d [] (fun f vs => PySem.call f vs) := by
  apply Att.attach_call hn hdf
  intro w s₀ s₁ mg mb fa o pm cd doc a vs ns G Y ho hd hcd hmg hobj hints hlen hg
  obtain ⟨K, fd, cs, T, sp, inK, hT, nT, heads, tT, hb, want, hF⟩ := F w mg fa _ Y G.T.g hmg
  exact lawG inK G.T.g G.T.b G.T.builtins G.T.nolimit hg hT nT heads tT G.T.bmain hobj hints (Nat.le_trans hlen hn2) room (G.T.seer noImp) tree deep hF hb (fun H at0 sq => want H a ns hlen at0 sq) fun H e s' => never H s₁ e s'
end Mir

namespace Mir
open PySem L2

/-! data -/
inductive D where
  | non | bl (b : Bool) | int (i : Int) | str (x : Str)
  | tup (xs : List D) | lst (xs : List D) | frl (xs : List D)
  | ref (a : Addr) | ty (n : String) | cl (c : Str) | fn (f : Str)
  | dct (ks : List Key) (vs : List D) | dtt (ks : List (List Key)) (vs : List D) | obj (c : Str) (ns : List Str) (vs : List D)

/-- a field of an own object: data, or what the ghost slot k holds -/
inductive Fo where
  | d (x : D) | lk (k : Nat)
/-- what a slot of the def holds -/
inductive Mo where
  | ls (xs : List D) | dc (ks : List Key) (vs : List D) | dt (ks : List (List Key)) (vs : List D) | ob (c : Str) (ns : List Str) (fs : List Fo) | th
inductive Sl where
  | no | va (d : D) | ow (m : Mo) | pm (m : Mo) | gh (m : Mo) | er (fs : List (Str × D))
abbrev En := List Sl
structure Xn where
  cls : Str
  fs : Option (List (Str × D))
inductive Rs (α : Type) where
  | ok (a : α) (g : En) | ex (x : Xn) (g : En) | bad
abbrev M (α : Type) := En → Rs α
def ret {α : Type} (a : α) : M α := fun g => .ok a g
def bnd {α β : Type} (m : M α) (f : α → M β) : M β := fun g => match m g with
  | .ok a g' => f a g'
  | .ex x g' => .ex x g'
  | .bad => .bad
def bad {α : Type} : M α := fun _ => .bad
def opt {α : Type} : Option α → M α
  | some a => ret a
  | none => bad
def gt : En → Nat → Sl
  | [], _ => .no
  | s :: _, 0 => s
  | _ :: r, i + 1 => gt r i
theorem gt_eq : ∀ (g : En) (i : Nat), gt g i = (g[i]?).getD .no
  | [], _ => rfl
  | s :: _, 0 => rfl
  | _ :: r, i + 1 => by
    show gt r i = _
    rw [gt_eq r i]; rfl
def Out {α : Type} (r : Rs α) (P : α → En → Prop) (E : Xn → En → Prop) : Prop := match r with
  | .ok a g => P a g
  | .ex x g => E x g
  | .bad => False
theorem Out.mono {α : Type} {r : Rs α} {P P' : α → En → Prop} {E E' : Xn → En → Prop} (h : Out r P E) (hP : ∀ a g, P a g → P' a g) (hE : ∀ x g, E x g → E' x g) : Out r P' E' := by
  cases r with
  | ok a g => exact hP _ _ h
  | ex x g => exact hE _ _ h
  | bad => exact h
theorem Out.bnd {α β : Type} {m : M α} {f : α → M β} {g : En} {P : β → En → Prop} {E : Xn → En → Prop} (h : Out (bnd m f g) P E) : Out (m g) (fun a g' => Out (f a g') P E) E := by
  unfold Mir.bnd at h
  cases e : m g with
  | ok a g' => rw [e] at h; exact h
  | ex x g' => rw [e] at h; exact h
  | bad => rw [e] at h; exact h

/-! what a frame knows: the objects of its parameters, the tables of code -/
structure Pa where
  f : Nat → Option Addr
  T : List Addr
  er : Option (Addr × Addr) := none
instance : CoeFun Pa (fun _ => Nat → Option Addr) := ⟨Pa.f⟩

/-! representation -/
/-- a list that never changes -/
def SqF (K : PySem.W.Frag) (H : Hp) (a : Addr) (xs : List V) : Prop :=
  (∃ o, H a = some (.frz o (.lst xs))) ∨
    ∃ (o : Obj) (its : Array Value) (n : Nat), K.lookup a = some o ∧ o.cls = .type "list" ∧ o.dict = none ∧ o.data = .seq its n ∧ its.size ≤ sizeLine ∧ Vals xs its.toList
theorem SqF.sq {K : PySem.W.Frag} {H : Hp} {a : Addr} {xs : List V} (h : SqF K H a xs) : SqL K H a xs := h.elim (fun e => .inl (.inr e)) .inr
section
variable (K : PySem.W.Frag)
mutual
inductive Rep (ms : Addr → Prop) (H : Hp) : V → D → Prop
  | non : Rep ms H .non .non
  | bl (b : Bool) : Rep ms H (.bl b) (.bl b)
  | int (i : Int) : Rep ms H (.int i) (.int i)
  | str (x : Str) : Rep ms H (.str x) (.str x)
  | ref (a : Addr) : Rep ms H (.ref a) (.ref a)
  | ty (n : String) : Rep ms H (.ty n) (.ty n)
  | cl (c : Str) : Rep ms H (.ref (He.ga K c)) (.cl c)
  | fn (c : Str) : Rep ms H (.ref (He.ga K c)) (.fn c)
  | tup {a : Addr} {xs : List V} {ds : List D} : SqT K H a xs → RepL ms H xs ds → Rep ms H (.ref a) (.tup ds)
  | lst {a : Addr} {xs : List V} {ds : List D} : ¬ ms a → H a = some (.lst xs) → RepL ms H xs ds → Rep ms H (.ref a) (.lst ds)
  | frl {a : Addr} {xs : List V} {ds : List D} : SqF K H a xs → RepL ms H xs ds → Rep ms H (.ref a) (.frl ds)
  | dct {a : Addr} {kvs : List (Key × V)} {ks : List Key} {ds : List D} : ¬ ms a → Rd H a (.dK kvs) → kvs.map (·.1) = ks → RepL ms H (kvs.map (·.2)) ds → Rep ms H (.ref a) (.dct ks ds)
  | dtt {a : Addr} {kvs : List (List Key × V)} {ks : List (List Key)} {ds : List D} : ¬ ms a → Rd H a (.dT kvs) → kvs.map (·.1) = ks → RepL ms H (kvs.map (·.2)) ds → Rep ms H (.ref a) (.dtt ks ds)
  | obj {a dx : Addr} {c : Str} {fs : List (Str × V)} {ns : List Str} {ds : List D} : ¬ ms a → H a = some (.ins (He.ga K c) dx fs) → fs.map (·.1) = ns → RepL ms H (fs.map (·.2)) ds → Rep ms H (.ref a) (.obj c ns ds)
inductive RepL (ms : Addr → Prop) (H : Hp) : List V → List D → Prop
  | nil : RepL ms H [] []
  | cons {v : V} {d : D} {vs : List V} {ds : List D} : Rep ms H v d → RepL ms H vs ds → RepL ms H (v :: vs) (d :: ds)
end
end
def Frz : HO → Prop
  | .tup _ => True
  | .frz _ _ => True
  | _ => False
/-- what a def may change -/
def Mu : HO → Prop
  | .lst _ => True
  | .dK _ => True
  | .dT _ => True
  | .ins _ _ _ => True
  | _ => False
theorem Mu.nf {o : HO} (h : Mu o) : ¬ Frz o := by cases o <;> first | exact fun z => z | exact h.elim
/-- not a table -/
def NT : HO → Prop
  | .tbl _ => False
  | _ => True
theorem Mu.nt {o : HO} (h : Mu o) : NT o := by cases o <;> first | trivial | exact h.elim
/-- all objects stay but those at W (and even there what is frozen); tables grow -/
structure Kp (W : Addr → Prop) (H H' : Hp) : Prop where
  st : ∀ a o, H a = some o → NT o → (W a → Frz o) → H' a = some o
  no : ∀ a, H' a = none → H a = none
  tb : ∀ P nm, nm = nmG → NdefX.TabN H P nm → NdefX.TabN H' P nm
abbrev NoW : Addr → Prop := fun _ => False
theorem Kp.refl {W : Addr → Prop} {H : Hp} : Kp W H H := ⟨fun _ _ e _ _ => e, fun _ e => e, fun _ _ _ t => t⟩
theorem Kp.trans {W : Addr → Prop} {H H1 H2 : Hp} (a : Kp W H H1) (b : Kp W H1 H2) : Kp W H H2 := ⟨fun p o e n f => b.st p o (a.st p o e n f) n f, fun p e => a.no p (b.no p e), fun P nm n t => b.tb P nm n (a.tb P nm n t)⟩
theorem Kp.weak {W W' : Addr → Prop} {H H' : Hp} (a : Kp W H H') (h : ∀ p, W p → W' p) : Kp W' H H' := ⟨fun p o e n f => a.st p o e n fun w => f (h p w), a.no, a.tb⟩
theorem Kp.new {W : Addr → Prop} {H : Hp} {p : Addr} {o : HO} (h : H p = none) : Kp W H (upd H p o) := ⟨fun a u e _ _ => by
    rw [upd_ne (ne_of_none e h)]; exact e, fun a e => by
    by_cases hp : a = p
    · subst hp; exact h
    · rwa [upd_ne hp] at e, fun P nm _ t => t.ext fun b u e => by rw [upd_ne (ne_of_none e h)]; exact e⟩
theorem Kp.set {W : Addr → Prop} {H : Hp} {p : Addr} {o u : HO} (h : H p = some u) (hu : Mu u) (w : W p) : Kp W H (upd H p o) := ⟨fun a v e _ f => by
    by_cases hp : a = p
    · subst hp
      rw [h] at e; cases e
      exact absurd (f w) hu.nf
    · rw [upd_ne hp]; exact e, fun a e => by
    by_cases hp : a = p
    · subst hp; rw [upd_same] at e; cases e
    · rwa [upd_ne hp] at e, fun P nm _ ⟨ps, e1, e2, e3⟩ => by
      have nP : P ≠ p := fun z => by rw [← z, e1] at h; cases h; exact hu
      refine ⟨ps, by rw [upd_ne nP]; exact e1, e2, fun pos cv hc => ?_⟩
      obtain ⟨c, e4, e5⟩ := e3 pos cv hc
      have nc : c ≠ p := fun z => by
        rw [← z, e5] at h
        have := Option.some.inj h
        unfold LamX.CodeO at this
        rw [← this] at hu
        exact hu
      exact ⟨c, e4, by rw [upd_ne nc]; exact e5⟩⟩
/-- new ones written do not count -/
theorem Kp.fresh {W W' : Addr → Prop} {H H1 H2 : Hp} (a : Kp W H H1) (b : Kp W' H1 H2) (h : ∀ p, W' p → W p ∨ H p = none) : Kp W H H2 := ⟨fun p o e n f => b.st p o (a.st p o e n f) n fun w => (h p w).elim f fun n => (by rw [n] at e; cases e), fun p e => a.no p (b.no p e), fun P nm n t => b.tb P nm n (a.tb P nm n t)⟩
theorem Kp.tabs {W : Addr → Prop} {H H' : Hp} {T : List Addr} (k : Kp W H H') (t : TbsG T H) : TbsG T H' := fun p hp => k.tb _ _ rfl (t p hp)

section
variable {K : PySem.W.Frag} {ms ms' W : Addr → Prop} {H H' : Hp}
theorem Rd.keep {a : Addr} {u : HO} (r : Rd H a u) (k : Kp W H H') (n : NT u) (h : ¬ W a ∨ Frz u) : Rd H' a u := by
  rcases r with e | ⟨o, e⟩
  · exact .inl (k.st a _ e n fun w => h.elim (fun n => absurd w n) id)
  · exact .inr ⟨o, k.st a _ e trivial fun _ => trivial⟩
theorem SqT.keep {a : Addr} {xs : List V} (r : SqT K H a xs) (k : Kp W H H') : SqT K H' a xs := by
  rcases r with e | e
  · exact .inl (Rd.keep e k trivial (.inr trivial))
  · exact .inr e
theorem SqF.keep {a : Addr} {xs : List V} (r : SqF K H a xs) (k : Kp W H H') : SqF K H' a xs := r.elim (fun ⟨o, e⟩ => .inl ⟨o, k.st a _ e trivial fun _ => trivial⟩) .inr
theorem ms_none {a : Addr} (hm : ∀ a, ms' a → ms a ∨ H a = none) (n : ¬ ms a) (s : H a ≠ none) : ¬ ms' a := fun q => (hm _ q).elim n s
theorem Rd.some {a : Addr} {u : HO} (r : Rd H a u) : H a ≠ none := by
  rcases r with e | ⟨o, e⟩ <;> (rw [e]; exact fun z => nomatch z)
mutual
theorem Rep.move (k : Kp W H H') (hw : ∀ a, W a → ms a) (hm : ∀ a, ms' a → ms a ∨ H a = none) : ∀ {v : V} {d : D}, Rep K ms H v d → Rep K ms' H' v d
  | _, _, .non => .non
  | _, _, .bl b => .bl b
  | _, _, .int i => .int i
  | _, _, .str x => .str x
  | _, _, .ref a => .ref a
  | _, _, .ty n => .ty n
  | _, _, .cl n => .cl n
  | _, _, .fn n => .fn n
  | _, _, .tup s l => .tup (SqT.keep s k) (RepL.move k hw hm l)
  | _, _, .lst n s l => .lst (ms_none hm n (by rw [s]; exact fun z => nomatch z)) (k.st _ _ s trivial fun w => absurd (hw _ w) n) (RepL.move k hw hm l)
  | _, _, .frl s l => .frl (SqF.keep s k) (RepL.move k hw hm l)
  | _, _, .dct n s e l => .dct (ms_none hm n (Rd.some s)) (Rd.keep s k trivial (.inl fun w => n (hw _ w))) e (RepL.move k hw hm l)
  | _, _, .dtt n s e l => .dtt (ms_none hm n (Rd.some s)) (Rd.keep s k trivial (.inl fun w => n (hw _ w))) e (RepL.move k hw hm l)
  | _, _, .obj n s e l => .obj (ms_none hm n (by rw [s]; exact fun z => nomatch z)) (k.st _ _ s trivial fun w => absurd (hw _ w) n) e (RepL.move k hw hm l)
theorem RepL.move (k : Kp W H H') (hw : ∀ a, W a → ms a) (hm : ∀ a, ms' a → ms a ∨ H a = none) : ∀ {vs : List V} {ds : List D}, RepL K ms H vs ds → RepL K ms' H' vs ds
  | _, _, .nil => .nil
  | _, _, .cons a l => .cons (Rep.move k hw hm a) (RepL.move k hw hm l)
end
theorem Rep.keep {v : V} {d : D} (r : Rep K ms H v d) (k : Kp W H H') (hw : ∀ a, W a → ms a) : Rep K ms H' v d := r.move k hw fun _ q => .inl q
theorem RepL.keep {v : List V} {d : List D} (r : RepL K ms H v d) (k : Kp W H H') (hw : ∀ a, W a → ms a) : RepL K ms H' v d := r.move k hw fun _ q => .inl q
theorem Rep.anti {v : V} {d : D} (r : Rep K ms H v d) (hm : ∀ a, ms' a → ms a ∨ H a = none) : Rep K ms' H v d := r.move (W := NoW) Kp.refl (fun _ q => q.elim) hm
theorem RepL.anti {v : List V} {d : List D} (r : RepL K ms H v d) (hm : ∀ a, ms' a → ms a ∨ H a = none) : RepL K ms' H v d := r.move (W := NoW) Kp.refl (fun _ q => q.elim) hm
theorem RepL.length {v : List V} {d : List D} (r : RepL K ms H v d) : v.length = d.length := by
  induction d generalizing v with
  | nil => cases r; rfl
  | cons x xs ih => cases r with | cons a l => simp [ih l]
theorem RepL.get {v : List V} {d : List D} (r : RepL K ms H v d) {i : Nat} {x : D} (h : d[i]? = some x) : ∃ u, v[i]? = some u ∧ Rep K ms H u x := by
  induction d generalizing v i with
  | nil => cases h
  | cons y ys ih =>
    cases r with
    | cons a l =>
      cases i with
      | zero => simp at h; subst h; exact ⟨_, rfl, a⟩
      | succ i => exact ih l (by simpa using h)
theorem RepL.set {v : List V} {d : List D} (r : RepL K ms H v d) (i : Nat) {u : V} {x : D} (h : Rep K ms H u x) : RepL K ms H (v.set i u) (d.set i x) := by
  induction d generalizing v i with
  | nil => cases r; exact .nil
  | cons y ys ih =>
    cases r with
    | cons a l =>
      cases i with
      | zero => exact .cons h l
      | succ i => exact .cons a (ih l i)
theorem RepL.append {v v' : List V} {d d' : List D} (r : RepL K ms H v d) (r' : RepL K ms H v' d') : RepL K ms H (v ++ v') (d ++ d') := by
  induction d generalizing v with
  | nil => cases r; exact r'
  | cons y ys ih => cases r with | cons a l => exact .cons a (ih l)
/-- fields -/
def FRep (K : PySem.W.Frag) (ms : Addr → Prop) (H : Hp) (v : V) : Fo → Prop
  | .d x => Rep K ms H v x
  | .lk _ => True
def FRepL (K : PySem.W.Frag) (ms : Addr → Prop) (H : Hp) : List V → List Fo → Prop := Paired (FRep K ms H)
theorem FRepL.move {vs : List V} {fs : List Fo} (r : FRepL K ms H vs fs) (k : Kp W H H') (hw : ∀ a, W a → ms a) (hm : ∀ a, ms' a → ms a ∨ H a = none) : FRepL K ms' H' vs fs := Paired.mapP r fun v f q => by
  cases f with
  | d x => exact Rep.move k hw hm q
  | lk i => trivial
def MRep (K : PySem.W.Frag) (ms : Addr → Prop) (H : Hp) (p : Addr) : Mo → Prop
  | .ls xs => ∃ vs, H p = some (.lst vs) ∧ RepL K ms H vs xs
  | .dc ks ds => ∃ kvs, H p = some (.dK kvs) ∧ kvs.map (·.1) = ks ∧ RepL K ms H (kvs.map (·.2)) ds
  | .dt ks ds => ∃ kvs, H p = some (.dT kvs) ∧ kvs.map (·.1) = ks ∧ RepL K ms H (kvs.map (·.2)) ds
  | .ob c ns fs => ∃ dx fvs, H p = some (.ins (He.ga K c) dx fvs) ∧ fvs.map (·.1) = ns ∧ FRepL K ms H (fvs.map (·.2)) fs
  | .th => ∃ φ, H p = some (.ext φ)
theorem MRep.move {p : Addr} {m : Mo} (r : MRep K ms H p m) (k : Kp W H H') (hw : ∀ a, W a → ms a) (hm : ∀ a, ms' a → ms a ∨ H a = none) (hp : ¬ W p) : MRep K ms' H' p m := by
  have st : ∀ {o}, H p = some o → NT o → H' p = some o := fun e n => k.st p _ e n fun w => absurd w hp
  cases m with
  | ls xs => obtain ⟨vs, e1, e2⟩ := r; exact ⟨vs, st e1 trivial, e2.move k hw hm⟩
  | dc ks ds => obtain ⟨vs, e1, e3, e2⟩ := r; exact ⟨vs, st e1 trivial, e3, e2.move k hw hm⟩
  | dt ks ds => obtain ⟨vs, e1, e3, e2⟩ := r; exact ⟨vs, st e1 trivial, e3, e2.move k hw hm⟩
  | ob c ns fs => obtain ⟨dx, vs, e1, e3, e2⟩ := r; exact ⟨dx, vs, st e1 trivial, e3, e2.move k hw hm⟩
  | th => obtain ⟨φ, e⟩ := r; exact ⟨φ, st e trivial⟩
theorem MRep.anti {p : Addr} {m : Mo} (r : MRep K ms H p m) (hm : ∀ a, ms' a → ms a ∨ H a = none) : MRep K ms' H p m := r.move (W := NoW) Kp.refl (fun _ q => q.elim) hm fun q => q
theorem MRep.keep {p : Addr} {m : Mo} (r : MRep K ms H p m) (k : Kp W H H') (hw : ∀ a, W a → ms a) (hp : ¬ W p) : MRep K ms H' p m := r.move k hw (fun _ q => .inl q) hp

/-! links: a field that a ghost slot stands for -/
def Mo.lkAt : Mo → Nat → Option Nat
  | .ob _ _ fs, j => match fs[j]? with
    | some (.lk k) => some k
    | _ => none
  | _, _ => none
def Fo.isD : Fo → Bool
  | .d _ => true
  | .lk _ => false
def Mo.nolk : Mo → Bool
  | .ob _ _ fs => fs.all Fo.isD
  | _ => true
theorem Mo.nolk_at {m : Mo} (h : m.nolk = true) (j : Nat) : m.lkAt j = none := by
  cases m with
  | ob c ns fs =>
    have h : fs.all Fo.isD = true := h
    cases e : fs[j]? with
    | none => simp only [Mo.lkAt, e]
    | some f =>
      have := List.all_eq_true.mp h f (List.mem_of_getElem? e)
      cases f with
      | d x => simp only [Mo.lkAt, e]
      | lk k => cases this
  | _ => rfl
/-- the j-th field of the object at p is the object at q -/
def FldAt (H : Hp) (p : Addr) (j : Nat) (q : Addr) : Prop := ∃ C dx fvs f, H p = some (.ins C dx fvs) ∧ fvs[j]? = some (f, .ref q)

/-- the handled error at a, its dict's content -/
def ErAt (K : PySem.W.Frag) (ms : Addr → Prop) (H : Hp) (e : Option (Addr × Addr)) (a : Addr) (fs : List (Str × D)) : Prop := ∃ dd vs, e = some (a, dd) ∧ ¬ ms dd ∧ H dd = some (.xd vs) ∧ vs.map (·.1) = fs.map (·.1) ∧ RepL K ms H (vs.map (·.2)) (fs.map (·.2))
theorem ErAt.move {e : Option (Addr × Addr)} {a : Addr} {fs : List (Str × D)} (r : ErAt K ms H e a fs) (k : Kp W H H') (hw : ∀ a, W a → ms a) (hm : ∀ a, ms' a → ms a ∨ H a = none) : ErAt K ms' H' e a fs := by
  obtain ⟨dd, vs, e1, n, e2, e3, e4⟩ := r
  exact ⟨dd, vs, e1, ms_none hm n (by rw [e2]; exact fun z => nomatch z), k.st dd _ e2 trivial fun w => absurd (hw _ w) n, e3, e4.move k hw hm⟩
/-! the def's slots -/
def Sl.mo : Sl → Option Mo
  | .ow m => some m
  | .pm m => some m
  | .gh m => some m
  | _ => none
structure Rl (K : PySem.W.Frag) (pa : Pa) (ms os : Addr → Prop) (σ : St) (H : Hp) (g : En) : Prop where
  va : ∀ i d, gt g i = .va d → ∃ v, σ[i]? = some (some v) ∧ Rep K ms H v d
  mo : ∀ i m, (gt g i).mo = some m → ∃ p, σ[i]? = some (some (.ref p)) ∧ os p ∧ MRep K ms H p m
  ap : ∀ i j m m' p, (gt g i).mo = some m → (gt g j).mo = some m' → σ[i]? = some (some (.ref p)) → σ[j]? = some (some (.ref p)) → i = j
  pm : ∀ i m p, gt g i = .pm m → σ[i]? = some (some (.ref p)) → pa i = some p
  pk : ∀ i p, pa i = some p → ∃ m, gt g i = .pm m ∧ σ[i]? = some (some (.ref p))
  len : g.length ≤ σ.length
  sub : ∀ a, os a → ms a
  dom : ∀ a, ms a → H a ≠ none
  lk : ∀ i m j k m2, (gt g i).mo = some m → m.lkAt j = some k → gt g k = .gh m2 → ∃ p q, σ[i]? = some (some (.ref p)) ∧ FldAt H p j q ∧ σ[k]? = some (some (.ref q))
  tb : TbsG pa.T H
  er : ∀ i fs, gt g i = .er fs → ∃ a, σ[i]? = some (some (.ref a)) ∧ ErAt K ms H pa.er a fs
end
section
variable {K : PySem.W.Frag} {pa : Pa} {ms os : Addr → Prop} {σ : St} {H H' : Hp} {g : En}
theorem FldAt.keep {W : Addr → Prop} {p q : Addr} {j : Nat} (f : FldAt H p j q) (k : Kp W H H') (n : ¬ W p) : FldAt H' p j q := let ⟨C, dx, fvs, x, e1, e2⟩ := f; ⟨C, dx, fvs, x, k.st p _ e1 trivial fun w => absurd w n, e2⟩
/-- the heap grew -/
theorem Rl.grow {ms' : Addr → Prop} (r : Rl K pa ms os σ H g) (k : Kp NoW H H') (hm : ∀ a, ms' a → ms a ∨ H a = none) (hs : ∀ a, ms a → ms' a) (hd : ∀ a, ms' a → H' a ≠ none) : Rl K pa ms' os σ H' g where
  va := fun i d e => let ⟨v, h1, h2⟩ := r.va i d e; ⟨v, h1, h2.move k (fun _ q => q.elim) hm⟩
  mo := fun i m e => by
    obtain ⟨p, h1, h2, h3⟩ := r.mo i m e
    exact ⟨p, h1, h2, h3.move k (fun _ q => q.elim) hm fun q => q⟩
  ap := r.ap
  pm := r.pm
  pk := r.pk
  len := r.len
  sub := fun a h => hs a (r.sub a h)
  dom := hd
  lk := fun i m j k' m2 e1 e2 e3 => by
    obtain ⟨p, q, h1, h2, h3⟩ := r.lk i m j k' m2 e1 e2 e3
    exact ⟨p, q, h1, h2.keep k fun z => z, h3⟩
  tb := k.tabs r.tb
  er := fun i fs e => let ⟨a, h1, h2⟩ := r.er i fs e; ⟨a, h1, h2.move k (fun _ q => q.elim) hm⟩
theorem Rl.kp (r : Rl K pa ms os σ H g) (k : Kp NoW H H') : Rl K pa ms os σ H' g := r.grow k (fun _ q => .inl q) (fun _ q => q) fun a q e => r.dom a q (k.no a e)
end

/-! operands -/
inductive Op where
  | d (x : D) | o (i : Nat)
def Fo.dats : List Fo → Option (List D)
  | [] => some []
  | .d x :: r => (Fo.dats r).map (x :: ·)
  | .lk _ :: _ => none
def Mo.dat : Mo → Option D
  | .ls xs => some (.lst xs)
  | .dc ks vs => some (.dct ks vs)
  | .dt ks vs => some (.dtt ks vs)
  | .ob c ns fs => (Fo.dats fs).map (.obj c ns)
  | .th => none
def res (g : En) : Op → Option D
  | .d x => some x
  | .o i => match (gt g i).mo with
    | some m => m.dat
    | none => none
/-- data that may be an own object's content -/
def RepB (K : PySem.W.Frag) (ms os : Addr → Prop) (H : Hp) (v : V) (d : D) : Prop :=
  Rep K ms H v d ∨ ∃ p m, v = .ref p ∧ os p ∧ m.dat = some d ∧ MRep K ms H p m
def RepO (K : PySem.W.Frag) (ms : Addr → Prop) (σ : St) (H : Hp) (v : V) : Op → Prop
  | .d x => Rep K ms H v x
  | .o i => σ[i]? = some (some v)
section
variable {K : PySem.W.Frag} {pa : Pa} {ms os : Addr → Prop} {σ : St} {H H' : Hp} {g g' : En}
theorem RepO.keep {v : V} {x : Op} (r : RepO K ms σ H v x) (k : Kp os H H') (hs : ∀ a, os a → ms a) : RepO K ms σ H' v x := by
  cases x with
  | d x => exact Rep.keep r k hs
  | o i => exact r
theorem RepO.res {v : V} {x : Op} {d : D} (r : RepO K ms σ H v x) (l : Rl K pa ms os σ H g) (e : res g x = some d) : RepB K ms os H v d := by
  cases x with
  | d x => cases e; exact .inl r
  | o i =>
    cases hm : (gt g i).mo with
    | none => simp only [Mir.res, hm] at e; cases e
    | some m =>
      simp only [Mir.res, hm] at e
      obtain ⟨p, h1, h2, h3⟩ := l.mo i m hm
      have r : σ[i]? = some (some v) := r
      rw [h1] at r
      cases r
      exact .inr ⟨p, m, rfl, h2, e, h3⟩
theorem FRepL.dats {vs : List V} {fs : List Fo} {ds : List D} (r : FRepL K ms H vs fs) (e : Fo.dats fs = some ds) : RepL K ms H vs ds := by
  induction fs generalizing vs ds with
  | nil => cases r; cases e; exact .nil
  | cons f fs ih =>
    cases r with
    | cons a l =>
      cases f with
      | lk k => cases e
      | d x =>
        obtain ⟨ds', h1, rfl⟩ := Option.map_eq_some_iff.mp (show (Fo.dats fs).map (x :: ·) = some ds from e)
        exact .cons a (ih l h1)
/-- an own object's content as data, where the object is not taken for own -/
theorem MRep.rep {ms' : Addr → Prop} {p : Addr} {m : Mo} {d : D} (r : MRep K ms' H p m) (e : m.dat = some d) (n : ¬ ms' p) : Rep K ms' H (.ref p) d := by
  cases m with
  | ls xs => obtain ⟨vs, e1, e2⟩ := r; cases e; exact .lst n e1 e2
  | dc ks vs => obtain ⟨kvs, e1, e3, e2⟩ := r; cases e; exact .dct n (.inl e1) e3 e2
  | dt ks vs => obtain ⟨kvs, e1, e3, e2⟩ := r; cases e; exact .dtt n (.inl e1) e3 e2
  | ob c ns fs =>
    obtain ⟨dx, fvs, e1, e3, e2⟩ := r
    obtain ⟨ds, h1, rfl⟩ := Option.map_eq_some_iff.mp (show (Fo.dats fs).map (.obj c ns) = some d from e)
    exact .obj n e1 e3 (e2.dats h1)
  | th => cases e
/-- data of an own object or not, where own objects are not taken for such -/
theorem RepB.rep {ms' : Addr → Prop} {v : V} {d : D} (r : RepB K ms os H v d) (h1 : ∀ a, ms' a → ms a ∨ H a = none) (h2 : ∀ a, ms' a → ¬ os a) : Rep K ms' H v d := by
  rcases r with r | ⟨p, m, rfl, ho, e, hm⟩
  · exact r.anti h1
  · exact (hm.anti h1).rep e fun z => h2 p z ho
end

/-! the readings -/
section
variable (K : PySem.W.Frag) (pa : Pa) (W : WX)
def XRep (ms : Addr → Prop) (H : Hp) (x : Xn) (c : Value) (dx : Option Addr) : Prop :=
  c = .ref (He.ga K x.cls) ∧ match x.fs with
  | none => dx = none
  | some fs => ∃ a vs, dx = some a ∧ ¬ ms a ∧ H a = some (.xd vs) ∧ vs.map (·.1) = fs.map (·.1) ∧ RepL K ms H (vs.map (·.2)) (fs.map (·.2))
/-- what is wanted of an exception, from the heap H on -/
def Xw (ms os : Addr → Prop) (σ : St) (H : Hp) : Xn → En → Prop := fun x g => ∀ c dx H', Rl K pa ms os σ H' g → Kp os H H' → XRep K ms H' x c dx → W c dx σ H'
def Eo (m : M Op) : TE := fun σ H Q => ∃ ms os g, Rl K pa ms os σ H g ∧ Out (m g) (fun x g' => ∀ v H', Rl K pa ms os σ H' g' → Kp os H H' → RepO K ms σ H' v x → Q v H') (Xw K pa W ms os σ H)
def Ed (m : M D) : TE := fun σ H Q => ∃ ms os g, Rl K pa ms os σ H g ∧ Out (m g) (fun x g' => ∀ v H', Rl K pa ms os σ H' g' → Kp os H H' → Rep K ms H' v x → Q v H') (Xw K pa W ms os σ H)
def Et (m : M Bool) : TT := fun σ H Q => ∃ ms os g, Rl K pa ms os σ H g ∧ Out (m g) (fun b g' => ∀ H', Rl K pa ms os σ H' g' → Kp os H H' → Q b H') (Xw K pa W ms os σ H)
def Ea (m : M (List Op)) : TA := fun σ H Q => ∃ ms os g, Rl K pa ms os σ H g ∧ Out (m g) (fun xs g' => ∀ vs H', Rl K pa ms os σ H' g' → Kp os H H' → Paired (RepO K ms σ H') vs xs → Q vs H') (Xw K pa W ms os σ H)
end
structure RO (X : Cx) (pa : Pa) (W : WX) (e : Expr) (m : M Op) : Prop where
  pe : PE X e (Eo X.K pa W m)
structure RE (X : Cx) (pa : Pa) (W : WX) (e : Expr) (m : M D) : Prop where
  pe : PE X e (Ed X.K pa W m)
structure RT (X : Cx) (pa : Pa) (W : WX) (e : Expr) (m : M Bool) : Prop where
  pt : PT X e (Et X.K pa W m)
structure RA (X : Cx) (pa : Pa) (W : WX) (es : List Expr) (m : M (List Op)) : Prop where
  pa : PA X es (Ea X.K pa W m)
end Mir

namespace Mir
open PySem L2
theorem _root_.L2.PE.imp {X : Cx} {e : Expr} {t t' : TE} (h : PE X e t) (q : ∀ σ H Q, t' σ H Q → t σ H Q) : PE X e t' := ⟨fun pins s σ H Q I z => h.run pins s σ H Q I (q σ H Q z)⟩
theorem _root_.L2.PT.imp {X : Cx} {e : Expr} {t t' : TT} (h : PT X e t) (q : ∀ σ H Q, t' σ H Q → t σ H Q) : PT X e t' := ⟨fun pins s σ H Q I z => h.run pins s σ H Q I (q σ H Q z)⟩
theorem _root_.L2.PA.imp {X : Cx} {e : List Expr} {t t' : TA} (h : PA X e t) (q : ∀ σ H Q, t' σ H Q → t σ H Q) : PA X e t' := ⟨fun pos pins s σ H Q I z => h.run pos pins s σ H Q I (q σ H Q z)⟩
theorem _root_.L2.PS.imp {X : Cx} {e : Stmt} {t t' : TS} (h : PS X e t) (q : ∀ D σ H, t' D σ H → t D σ H) : PS X e t' := ⟨fun pins s σ H D I z => h.run pins s σ H D I (q D σ H z)⟩
theorem _root_.L2.PSs.imp {X : Cx} {e : List Stmt} {t t' : TS} (h : PSs X e t) (q : ∀ D σ H, t' D σ H → t D σ H) : PSs X e t' := ⟨fun pins s σ H D I z => h.run pins s σ H D I (q D σ H z)⟩
theorem _root_.L2.PG.imp {X : Cx} {e : Expr} {t t' : TG} (h : PG X e t) (q : ∀ v σ H Q, t' v σ H Q → t v σ H Q) : PG X e t' := ⟨fun pins s σ H v u Q I r z => h.run pins s σ H v u Q I r (q v σ H Q z)⟩
section
variable {K : PySem.W.Frag} {pa : Pa} {W : WX} {ms os : Addr → Prop} {σ : L2.St} {H H1 H' : Hp} {g : En} {x : Xn}
theorem Xw.later (h : Xw K pa W ms os σ H x g) (k : Kp os H H1) : Xw K pa W ms os σ H1 x g := fun c dx H' r k' xr => h c dx H' r (k.trans k') xr
/-- what is wanted of a value, from the heap H on -/
def Vw (K : PySem.W.Frag) (pa : Pa) (ms os : Addr → Prop) (σ : L2.St) (H : Hp) (Q : VK) : D → En → Prop := fun x g' => ∀ v H', Rl K pa ms os σ H' g' → Kp os H H' → Rep K ms H' v x → Q v H'
theorem Vw.later {Q : VK} {x : D} (h : Vw K pa ms os σ H Q x g) (k : Kp os H H1) : Vw K pa ms os σ H1 Q x g := fun v H' r k' z => h v H' r (k.trans k') z
def Tw (K : PySem.W.Frag) (pa : Pa) (ms os : Addr → Prop) (σ : L2.St) (H : Hp) (Q : Bool → Hp → Prop) : Bool → En → Prop := fun x g' => ∀ H', Rl K pa ms os σ H' g' → Kp os H H' → Q x H'
theorem Tw.later {Q : Bool → Hp → Prop} {x : Bool} (h : Tw K pa ms os σ H Q x g) (k : Kp os H H1) : Tw K pa ms os σ H1 Q x g := fun H' r k' => h H' r (k.trans k')
def Ow (K : PySem.W.Frag) (pa : Pa) (ms os : Addr → Prop) (σ : L2.St) (H : Hp) (Q : VK) : Op → En → Prop := fun x g' => ∀ v H', Rl K pa ms os σ H' g' → Kp os H H' → RepO K ms σ H' v x → Q v H'
theorem Ow.later {Q : VK} {x : Op} (h : Ow K pa ms os σ H Q x g) (k : Kp os H H1) : Ow K pa ms os σ H1 Q x g := fun v H' r k' z => h v H' r (k.trans k') z
/-- the very form of Ed, Eo, Et -/
theorem Ed.mk {m : M D} {Q : VK} (r : Rl K pa ms os σ H g) (h : Out (m g) (Vw K pa ms os σ H Q) (Xw K pa W ms os σ H)) : Ed K pa W m σ H Q := ⟨ms, os, g, r, h⟩
theorem Eo.mk {m : M Op} {Q : VK} (r : Rl K pa ms os σ H g) (h : Out (m g) (Ow K pa ms os σ H Q) (Xw K pa W ms os σ H)) : Eo K pa W m σ H Q := ⟨ms, os, g, r, h⟩
theorem Et.mk {m : M Bool} {Q : Bool → Hp → Prop} (r : Rl K pa ms os σ H g) (h : Out (m g) (Tw K pa ms os σ H Q) (Xw K pa W ms os σ H)) : Et K pa W m σ H Q := ⟨ms, os, g, r, h⟩
/-- one step: an operand is evaluated, then the rest -/
theorem Eo.step {m : M Op} {α : Type} {f : Op → M α} {P : Hp → α → En → Prop} {Q : VK} (r : Rl K pa ms os σ H g) (h : Out (bnd m f g) (P H) (Xw K pa W ms os σ H))
    (hP : ∀ a g' H1, P H a g' → Kp os H H1 → P H1 a g')
    (hQ : ∀ v x H1 g1, Rl K pa ms os σ H1 g1 → Kp os H H1 → RepO K ms σ H1 v x → Out (f x g1) (P H1) (Xw K pa W ms os σ H1) → Q v H1) : Eo K pa W m σ H Q :=
  Eo.mk r (h.bnd.mono (fun x g1 z v H1 r1 k1 rep => hQ v x H1 g1 r1 k1 rep (z.mono (fun a g' q => hP a g' H1 q k1) fun _ _ q => q.later k1)) fun _ _ q => q)
theorem Ed.step {m : M D} {α : Type} {f : D → M α} {P : Hp → α → En → Prop} {Q : VK} (r : Rl K pa ms os σ H g) (h : Out (bnd m f g) (P H) (Xw K pa W ms os σ H))
    (hP : ∀ a g' H1, P H a g' → Kp os H H1 → P H1 a g')
    (hQ : ∀ v x H1 g1, Rl K pa ms os σ H1 g1 → Kp os H H1 → Rep K ms H1 v x → Out (f x g1) (P H1) (Xw K pa W ms os σ H1) → Q v H1) : Ed K pa W m σ H Q :=
  Ed.mk r (h.bnd.mono (fun x g1 z v H1 r1 k1 rep => hQ v x H1 g1 r1 k1 rep (z.mono (fun a g' q => hP a g' H1 q k1) fun _ _ q => q.later k1)) fun _ _ q => q)
theorem Et.step {m : M Bool} {α : Type} {f : Bool → M α} {P : Hp → α → En → Prop} {Q : Bool → Hp → Prop} (r : Rl K pa ms os σ H g) (h : Out (bnd m f g) (P H) (Xw K pa W ms os σ H))
    (hP : ∀ a g' H1, P H a g' → Kp os H H1 → P H1 a g')
    (hQ : ∀ x H1 g1, Rl K pa ms os σ H1 g1 → Kp os H H1 → Out (f x g1) (P H1) (Xw K pa W ms os σ H1) → Q x H1) : Et K pa W m σ H Q :=
  Et.mk r (h.bnd.mono (fun x g1 z H1 r1 k1 => hQ x H1 g1 r1 k1 (z.mono (fun a g' q => hP a g' H1 q k1) fun _ _ q => q.later k1)) fun _ _ q => q)
theorem Ea.step {m : M (List Op)} {α : Type} {f : List Op → M α} {P : Hp → α → En → Prop} {Q : List V → Hp → Prop} (r : Rl K pa ms os σ H g) (h : Out (bnd m f g) (P H) (Xw K pa W ms os σ H))
    (hP : ∀ a g' H1, P H a g' → Kp os H H1 → P H1 a g')
    (hQ : ∀ vs xs H1 g1, Rl K pa ms os σ H1 g1 → Kp os H H1 → Paired (RepO K ms σ H1) vs xs → Out (f xs g1) (P H1) (Xw K pa W ms os σ H1) → Q vs H1) : Ea K pa W m σ H Q :=
  ⟨ms, os, g, r, h.bnd.mono (fun x g1 z v H1 r1 k1 rep => hQ v x H1 g1 r1 k1 rep (z.mono (fun a g' q => hP a g' H1 q k1) fun _ _ q => q.later k1)) fun _ _ q => q⟩
end

/-! names, constants -/
def eN (i : Nat) : M Op := fun g => match gt g i with
  | .va d => .ok (.d d) g
  | .ow _ => .ok (.o i) g
  | .pm _ => .ok (.o i) g
  | .gh _ => .bad
  | .er _ => .bad
  | .no => .bad
/-- an operand as a value -/
def vl : Op → M D
  | .d x => ret x
  | .o _ => bad
def eV (m : M Op) : M D := bnd m vl
def eD (m : M D) : M Op := bnd m fun d => ret (.d d)
section
variable {X : Cx} {pa : Pa} {W : WX} {pos : Pos}
theorem ro_name {i : Nat} {x : Str} (hN : X.N[i]? = some x) (hv : Vis X.env.scope x) (hd : (x == ("__debug__" : Str)) = false := by decide) (hcd : (x == ("__classdict__" : Str)) = false := by decide) : RO X pa W (.Name x pos) (eN i) :=
  ⟨(pe_var hN hv hd hcd).imp fun σ H Q ⟨ms, os, g, r, h⟩ => by
    unfold eN at h
    cases e : gt g i with
    | no => rw [e] at h; exact h.elim
    | gh m => rw [e] at h; exact h.elim
    | er m => rw [e] at h; exact h.elim
    | va d =>
      rw [e] at h
      obtain ⟨v, h1, h2⟩ := r.va i d e
      exact ⟨v, h1, h v H r .refl h2⟩
    | ow m =>
      rw [e] at h
      obtain ⟨p, h1, h2, h3⟩ := r.mo i m (by rw [e]; rfl)
      exact ⟨_, h1, h _ H r .refl h1⟩
    | pm m =>
      rw [e] at h
      obtain ⟨p, h1, h2, h3⟩ := r.mo i m (by rw [e]; rfl)
      exact ⟨_, h1, h _ H r .refl h1⟩⟩
theorem re_ro {e : Expr} {m : M Op} (h : RO X pa W e m) : RE X pa W e (eV m) :=
  ⟨h.pe.imp fun σ H Q ⟨ms, os, g, r, z⟩ => Eo.step (P := fun H1 => Vw X.K pa ms os σ H1 Q) r z (fun _ _ _ q k => q.later k) fun v x H1 g1 r1 k1 rep o => by
    cases x with
    | d x => exact o v H1 r1 .refl rep
    | o i => exact o.elim⟩
theorem ro_re {e : Expr} {m : M D} (h : RE X pa W e m) : RO X pa W e (eD m) :=
  ⟨h.pe.imp fun σ H Q ⟨ms, os, g, r, z⟩ => Ed.step (P := fun H1 => Ow X.K pa ms os σ H1 Q) r z (fun _ _ _ q k => q.later k) fun v x H1 g1 r1 k1 rep o => o v H1 r1 .refl rep⟩
/-- a value that hangs on nothing -/
theorem re_const {e : Expr} {v : V} {d : D} (h : PE X e (tC v)) (hr : ∀ ms H, Rep X.K ms H v d) : RE X pa W e (ret d) :=
  ⟨h.imp fun σ H Q ⟨ms, os, g, r, z⟩ => z v H r .refl (hr ms H)⟩
theorem re_int {i : Int} {j : Nat} : RE X pa W (.Constant (.int i) j pos) (ret (.int i)) := re_const pe_int fun _ _ => .int i
theorem re_bl {b : Bool} {j : Nat} : RE X pa W (.Constant (.bool b) j pos) (ret (.bl b)) := re_const pe_bl fun _ _ => .bl b
theorem re_non {j : Nat} : RE X pa W (.Constant .none j pos) (ret .non) := re_const pe_non fun _ _ => .non
theorem re_str {x : Str} {j : Nat} : RE X pa W (.Constant (.str x) j pos) (ret (.str x)) := re_const pe_str fun _ _ => .str x
theorem re_glob {x : Str} {v : V} {u : Value} {d : D} (hg : Gl X x) (hm : X.mg x = some u) (r : RelV v u) (hr : ∀ ms H, Rep X.K ms H v d) (hd : (x == ("__debug__" : Str)) = false := by decide) : RE X pa W (.Name x pos) (ret d) :=
  re_const (pe_glob hg hm r hd) hr
end

/-! two operands -/
def ap2 {α : Type} (f : D → D → M α) (x y : Op) : M α := fun g => match res g x, res g y with
  | some a, some b => f a b g
  | _, _ => .bad
def ap1 {α : Type} (f : D → M α) (x : Op) : M α := fun g => match res g x with
  | some a => f a g
  | none => .bad
def e1 {α : Type} (a : M Op) (f : D → M α) : M α := bnd a (ap1 f)
def e2 {α : Type} (a b : M Op) (f : D → D → M α) : M α := bnd a fun x => bnd b fun y => ap2 f x y
section
variable {X : Cx} {K : PySem.W.Frag} {pa : Pa} {W : WX} {ms os : Addr → Prop} {σ : L2.St} {H : Hp} {g : En}
theorem Out.ap1 {α : Type} {f : D → M α} {x : Op} {P : α → En → Prop} {E : Xn → En → Prop} (h : Out (ap1 f x g) P E) : ∃ d, res g x = some d ∧ Out (f d g) P E := by
  unfold Mir.ap1 at h
  cases e : res g x with
  | none => rw [e] at h; exact h.elim
  | some d => rw [e] at h; exact ⟨d, rfl, h⟩
theorem Out.ap2 {α : Type} {f : D → D → M α} {x y : Op} {P : α → En → Prop} {E : Xn → En → Prop} (h : Out (ap2 f x y g) P E) : ∃ d d', res g x = some d ∧ res g y = some d' ∧ Out (f d d' g) P E := by
  unfold Mir.ap2 at h
  cases e : res g x with
  | none => rw [e] at h; exact h.elim
  | some d =>
    cases e' : res g y with
    | none => rw [e, e'] at h; exact h.elim
    | some d' => rw [e, e'] at h; exact ⟨d, d', rfl, rfl, h⟩
theorem step1 {α : Type} {a : M Op} {f : D → M α} {P : Hp → α → En → Prop} {R : V → Hp → Prop} (r : Rl K pa ms os σ H g) (h : Out (e1 a f g) (P H) (Xw K pa W ms os σ H)) (hP : ∀ a g' H H1, P H a g' → Kp os H H1 → P H1 a g')
    (hR : ∀ v d H1 g1, Rl K pa ms os σ H1 g1 → RepB K ms os H1 v d → Out (f d g1) (P H1) (Xw K pa W ms os σ H1) → R v H1) : Eo K pa W a σ H R :=
  Eo.step (P := P) r h (fun a g' H1 => hP a g' H H1) fun v x H1 g1 r1 k1 rep o => by
    obtain ⟨d, e, o⟩ := o.ap1
    exact hR v d H1 g1 r1 (rep.res r1 e) o
theorem step2 {α : Type} {a b : M Op} {f : D → D → M α} {P : Hp → α → En → Prop} {R : V → V → Hp → Prop} (r : Rl K pa ms os σ H g) (h : Out (e2 a b f g) (P H) (Xw K pa W ms os σ H)) (hP : ∀ a g' H H1, P H a g' → Kp os H H1 → P H1 a g')
    (hR : ∀ v v' d d' H1 g1, Rl K pa ms os σ H1 g1 → RepB K ms os H1 v d → RepB K ms os H1 v' d' → Out (f d d' g1) (P H1) (Xw K pa W ms os σ H1) → R v v' H1) : Eo K pa W a σ H fun v H1 => Eo K pa W b σ H1 fun v' H2 => R v v' H2 :=
  Eo.step (P := P) r h (fun a g' H1 => hP a g' H H1) fun v x H1 g1 r1 k1 rep o => Eo.step (P := P) r1 o (fun a g' H2 => hP a g' H1 H2) fun v' y H2 g2 r2 k2 rep2 o2 => by
    obtain ⟨d, d', e, e', o2⟩ := o2.ap2
    exact hR v v' d d' H2 g2 r2 ((rep.keep k2 r1.sub).res r2 e) (rep2.res r2 e') o2
/-- a pure operation of two operands -/
def f2 {α : Type} (f : D → D → Option α) : D → D → M α := fun a b => opt (f a b)
def f1 {α : Type} (f : D → Option α) : D → M α := fun a => opt (f a)
theorem Out.opt {α : Type} {o : Option α} {P : α → En → Prop} {E : Xn → En → Prop} (h : Out (opt o g) P E) : ∃ a, o = some a ∧ P a g := by
  cases o with
  | none => exact h.elim
  | some a => exact ⟨a, rfl, h⟩
/-- what an operation by values is to do on data -/
def Op2 (K : PySem.W.Frag) (r : R2) (f : D → D → Option D) : Prop := ∀ (ms os : Addr → Prop) (H : Hp) (Q : VK) (v w : V) (x y z : D), (∀ a, os a → ms a) → (∀ a, ms a → H a ≠ none) → RepB K ms os H v x → RepB K ms os H w y → f x y = some z →
  (∀ u H', Kp NoW H H' → Rep K ms H' u z → Q u H') → r v w H Q
theorem re_bin {a b : Expr} {op : Operator} {r : R2} {ma mb : M Op} {f : D → D → Option D} {pos : Pos} (ho : OpR X (binaryOp op) r) (hf : Op2 X.K r f) (ha : RO X pa W a ma) (hb : RO X pa W b mb) : RE X pa W (.BinOp a op b pos) (e2 ma mb (f2 f)) :=
  ⟨(pe_op ho ha.pe hb.pe).imp fun σ H Q ⟨ms, os, g, rl, z⟩ => step2 (P := fun H1 => Vw X.K pa ms os σ H1 Q) rl z (fun _ _ _ _ q k => q.later k) fun v v' d d' H1 g1 r1 q1 q2 o => by
    obtain ⟨y, e, o⟩ := o.opt
    exact hf ms os H1 Q v v' d d' y r1.sub r1.dom q1 q2 e fun u H' k rp => o u H' (r1.kp k) (k.weak fun _ q => q.elim) rp⟩
theorem re_cmp {a b : Expr} {op : CmpOp} {r : R2} {ma mb : M Op} {f : D → D → Option D} {pos : Pos} (ho : OpR X (compareOp op) r) (hf : Op2 X.K r f) (ha : RO X pa W a ma) (hb : RO X pa W b mb) (hm : behindInMarks op b = false) : RE X pa W (.Compare a [op] [b] pos) (e2 ma mb (f2 f)) :=
  ⟨(pe_cmpR ho ha.pe hb.pe hm).imp fun σ H Q ⟨ms, os, g, rl, z⟩ => step2 (P := fun H1 => Vw X.K pa ms os σ H1 Q) rl z (fun _ _ _ _ q k => q.later k) fun v v' d d' H1 g1 r1 q1 q2 o => by
    obtain ⟨y, e, o⟩ := o.opt
    exact hf ms os H1 Q v v' d d' y r1.sub r1.dom q1 q2 e fun u H' k rp => o u H' (r1.kp k) (k.weak fun _ q => q.elim) rp⟩
theorem re_ix {a b : Expr} {r : R2} {ma mb : M Op} {f : D → D → Option D} {pos : Pos} (ho : IxR X r) (hf : Op2 X.K r f) (ha : RO X pa W a ma) (hb : RO X pa W b mb) (hs : PlainIx b) : RE X pa W (.Subscript a b pos) (e2 ma mb (f2 f)) :=
  ⟨(pe_ix ho ha.pe hb.pe hs).imp fun σ H Q ⟨ms, os, g, rl, z⟩ => step2 (P := fun H1 => Vw X.K pa ms os σ H1 Q) rl z (fun _ _ _ _ q k => q.later k) fun v v' d d' H1 g1 r1 q1 q2 o => by
    obtain ⟨y, e, o⟩ := o.opt
    exact hf ms os H1 Q v v' d d' y r1.sub r1.dom q1 q2 e fun u H' k rp => o u H' (r1.kp k) (k.weak fun _ q => q.elim) rp⟩
end
end Mir

namespace Mir
open PySem L2
/-! data for == -/
mutual
def D.py : D → Option PyData
  | .non => some .none
  | .bl b => some (.bool b)
  | .int i => some (.int i)
  | .str x => some (.str x)
  | .tup xs => (D.pys xs).map .tuple
  | .lst xs => (D.pys xs).map .list
  | .frl _ => none
  | .ref _ => none
  | .ty _ => none
  | .cl _ => none
  | .fn _ => none
  | .dct _ _ => none
  | .dtt _ _ => none
  | .obj _ _ _ => none
def D.pys : List D → Option (List PyData)
  | [] => some []
  | d :: ds => match D.py d, D.pys ds with
    | some x, some xs => some (x :: xs)
    | _, _ => none
end
section
variable {K : PySem.W.Frag} {ms os : Addr → Prop} {H : Hp}
mutual
theorem Rep.dp : ∀ {v : V} {d : D} {p : PyData}, Rep K ms H v d → d.py = some p → Dp K H v p
  | _, .non, _, r, e => by cases r; cases e; exact .non
  | _, .bl b, _, r, e => by cases r; cases e; exact .bl b
  | _, .int b, _, r, e => by cases r; cases e; exact .int b
  | _, .str b, _, r, e => by cases r; cases e; exact .str b
  | _, .tup xs, _, r, e => by
    cases r with
    | tup s l =>
      unfold D.py at e
      obtain ⟨ps, h1, rfl⟩ := Option.map_eq_some_iff.mp e
      exact .tup s (RepL.dp l h1)
  | _, .lst xs, _, r, e => by
    cases r with
    | lst n s l =>
      unfold D.py at e
      obtain ⟨ps, h1, rfl⟩ := Option.map_eq_some_iff.mp e
      exact .lst (SqL.of s) (RepL.dp l h1)
  | _, .frl xs, _, r, e => by cases e
  | _, .ref _, _, r, e => by cases e
  | _, .ty _, _, r, e => by cases e
  | _, .cl _, _, r, e => by cases e
  | _, .fn _, _, r, e => by cases e
  | _, .dct _ _, _, r, e => by cases e
  | _, .dtt _ _, _, r, e => by cases e
  | _, .obj _ _ _, _, r, e => by cases e
theorem RepL.dp : ∀ {v : List V} {d : List D} {p : List PyData}, RepL K ms H v d → D.pys d = some p → DpAll K H v p
  | _, [], _, r, e => by cases r; cases e; exact .nil
  | _, d :: ds, _, r, e => by
    cases r with
    | cons a l =>
      unfold D.pys at e
      cases h1 : d.py with
      | none => rw [h1] at e; cases e
      | some x =>
        cases h2 : D.pys ds with
        | none => rw [h1, h2] at e; cases e
        | some xs =>
          rw [h1, h2] at e
          cases e
          exact .cons (Rep.dp a h1) (RepL.dp l h2)
end
theorem dat_lst {m : Mo} {xs : List D} (h : m.dat = some (.lst xs)) : m = .ls xs := by
  cases m with
  | ls ys => cases h; rfl
  | dc ks vs => cases h
  | dt ks vs => cases h
  | ob c ns fs =>
    obtain ⟨ds, _, e⟩ := Option.map_eq_some_iff.mp (show (Fo.dats fs).map (D.obj c ns) = some (D.lst xs) from h)
    cases e
  | th => cases h
theorem dat_dct {m : Mo} {ks : List Key} {xs : List D} (h : m.dat = some (.dct ks xs)) : m = .dc ks xs := by
  cases m with
  | ls ys => cases h
  | dc ks vs => cases h; rfl
  | dt ks vs => cases h
  | ob c ns fs =>
    obtain ⟨ds, _, e⟩ := Option.map_eq_some_iff.mp (show (Fo.dats fs).map (D.obj c ns) = some (D.dct ks xs) from h)
    cases e
  | th => cases h
theorem dat_dtt {m : Mo} {ks : List (List Key)} {xs : List D} (h : m.dat = some (.dtt ks xs)) : m = .dt ks xs := by
  cases m with
  | ls ys => cases h
  | dc ks vs => cases h
  | dt ks vs => cases h; rfl
  | ob c ns fs =>
    obtain ⟨ds, _, e⟩ := Option.map_eq_some_iff.mp (show (Fo.dats fs).map (D.obj c ns) = some (D.dtt ks xs) from h)
    cases e
  | th => cases h
theorem dat_obj {m : Mo} {c : Str} {ns : List Str} {xs : List D} (h : m.dat = some (.obj c ns xs)) : ∃ fs, m = .ob c ns fs ∧ Fo.dats fs = some xs := by
  cases m with
  | ls ys => cases h
  | dc ks vs => cases h
  | dt ks vs => cases h
  | ob c ns fs =>
    obtain ⟨ds, h1, e⟩ := Option.map_eq_some_iff.mp (show (Fo.dats fs).map (D.obj c ns) = some (D.obj _ _ xs) from h)
    cases e
    exact ⟨fs, rfl, h1⟩
  | th => cases h
/-- not the content of an own object -/
def D.imm : D → Bool
  | .lst _ => false
  | .dct _ _ => false
  | .dtt _ _ => false
  | .obj _ _ _ => false
  | _ => true
theorem RepB.imm {v : V} {d : D} (r : RepB K ms os H v d) (h : d.imm = true) : Rep K ms H v d := by
  rcases r with r | ⟨p, m, rfl, _, e, _⟩
  · exact r
  · cases m with
    | ls ys => cases e; cases h
    | dc ks vs => cases e; cases h
    | dt ks vs => cases e; cases h
    | ob c ns fs =>
      obtain ⟨ds, _, rfl⟩ := Option.map_eq_some_iff.mp (show (Fo.dats fs).map (D.obj c ns) = some d from e)
      cases h
    | th => cases e
theorem RepB.dp {v : V} {d : D} {p : PyData} (r : RepB K ms os H v d) (e : d.py = some p) : Dp K H v p := by
  rcases r with r | ⟨a, m, rfl, h1, h2, h3⟩
  · exact r.dp e
  · cases m with
    | ls ys =>
      cases h2
      obtain ⟨vs, h4, h5⟩ := h3
      unfold D.py at e
      obtain ⟨ps, h6, rfl⟩ := Option.map_eq_some_iff.mp e
      exact .lst (SqL.of h4) (RepL.dp h5 h6)
    | dc ks vs => cases h2; cases e
    | dt ks vs => cases h2; cases e
    | ob c ns fs =>
      obtain ⟨ds, _, rfl⟩ := Option.map_eq_some_iff.mp (show (Fo.dats fs).map (D.obj c ns) = some d from h2)
      cases e
    | th => cases h2
theorem RepB.int {v : V} {i : Int} (r : RepB K ms os H v (.int i)) : v = .int i := by cases r.imm rfl; rfl
theorem RepB.bl {v : V} {i : Bool} (r : RepB K ms os H v (.bl i)) : v = .bl i := by cases r.imm rfl; rfl
theorem RepB.str {v : V} {i : Str} (r : RepB K ms os H v (.str i)) : v = .str i := by cases r.imm rfl; rfl
theorem RepB.non {v : V} (r : RepB K ms os H v .non) : v = .non := by cases r.imm rfl; rfl
theorem RepB.ty {v : V} {n : String} (r : RepB K ms os H v (.ty n)) : v = .ty n := by cases r.imm rfl; rfl
theorem RepB.cl {v : V} {n : Str} (r : RepB K ms os H v (.cl n)) : v = .ref (He.ga K n) := by cases r.imm rfl; rfl
theorem RepB.fn {v : V} {n : Str} (r : RepB K ms os H v (.fn n)) : v = .ref (He.ga K n) := by cases r.imm rfl; rfl
theorem RepB.tup {v : V} {ds : List D} (r : RepB K ms os H v (.tup ds)) : ∃ a vs, v = .ref a ∧ SqT K H a vs ∧ RepL K ms H vs ds := by
  cases r.imm rfl with | tup s l => exact ⟨_, _, rfl, s, l⟩
theorem RepB.lst {v : V} {ds : List D} (r : RepB K ms os H v (.lst ds)) : ∃ a vs, v = .ref a ∧ H a = some (.lst vs) ∧ RepL K ms H vs ds := by
  rcases r with r | ⟨a, m, rfl, h1, h2, h3⟩
  · cases r with | lst n s l => exact ⟨_, _, rfl, s, l⟩
  · rw [dat_lst h2] at h3
    obtain ⟨vs, h4, h5⟩ := h3
    exact ⟨_, _, rfl, h4, h5⟩
theorem RepB.frl {v : V} {ds : List D} (r : RepB K ms os H v (.frl ds)) : ∃ a vs, v = .ref a ∧ SqF K H a vs ∧ RepL K ms H vs ds := by
  cases r.imm rfl with | frl s l => exact ⟨_, _, rfl, s, l⟩
theorem RepB.dct {v : V} {ks : List Key} {ds : List D} (r : RepB K ms os H v (.dct ks ds)) : ∃ a kvs, v = .ref a ∧ Rd H a (.dK kvs) ∧ kvs.map (·.1) = ks ∧ RepL K ms H (kvs.map (·.2)) ds := by
  rcases r with r | ⟨a, m, rfl, h1, h2, h3⟩
  · cases r with | dct n s e l => exact ⟨_, _, rfl, s, e, l⟩
  · rw [dat_dct h2] at h3
    obtain ⟨vs, h4, h5, h6⟩ := h3
    exact ⟨_, _, rfl, .inl h4, h5, h6⟩
theorem RepB.dtt {v : V} {ks : List (List Key)} {ds : List D} (r : RepB K ms os H v (.dtt ks ds)) : ∃ a kvs, v = .ref a ∧ Rd H a (.dT kvs) ∧ kvs.map (·.1) = ks ∧ RepL K ms H (kvs.map (·.2)) ds := by
  rcases r with r | ⟨a, m, rfl, h1, h2, h3⟩
  · cases r with | dtt n s e l => exact ⟨_, _, rfl, s, e, l⟩
  · rw [dat_dtt h2] at h3
    obtain ⟨vs, h4, h5, h6⟩ := h3
    exact ⟨_, _, rfl, .inl h4, h5, h6⟩
theorem RepB.obj {v : V} {c : Str} {ns : List Str} {ds : List D} (r : RepB K ms os H v (.obj c ns ds)) : ∃ a dx fs, v = .ref a ∧ H a = some (.ins (He.ga K c) dx fs) ∧ fs.map (·.1) = ns ∧ RepL K ms H (fs.map (·.2)) ds := by
  rcases r with r | ⟨a, m, rfl, h1, h2, h3⟩
  · cases r with | obj n s e l => exact ⟨_, _, _, rfl, s, e, l⟩
  · obtain ⟨fs, rfl, h4⟩ := dat_obj h2
    obtain ⟨dx, vs, h5, h6, h7⟩ := h3
    exact ⟨_, _, _, rfl, h5, h6, h7.dats h4⟩
end

/-! operators -/
def mulOk (a b : Int) : Bool := decide (a.natAbs < 18446744073709551616) || decide (b.natAbs < 18446744073709551616) || decide (a.natAbs.log2 + b.natAbs.log2 < 134217000)
theorem mulOk.ok {i j : Int} (h : mulOk i j = true) : IntMulOk i j := by
  unfold mulOk at h
  rw [Bool.or_eq_true, Bool.or_eq_true] at h
  rcases h with (h | h) | h
  · have := of_decide_eq_true h
    exact .of_left (PySem.intBits_le_64 (by omega) (by omega))
  · have := of_decide_eq_true h
    exact .of_right (PySem.intBits_le_64 (by omega) (by omega))
  have b : ∀ x : Int, Builtin.Int.intBits x ≤ x.natAbs.log2 + 1 := fun x => by
    unfold Builtin.Int.intBits
    split <;> omega
  have h1 := b i
  have h2 := b j
  have h3 : i.natAbs.log2 + j.natAbs.log2 < 134217000 := of_decide_eq_true h
  have e : bitsLine = 134217728 := by decide
  unfold IntMulOk
  intro z
  rw [Bool.and_eq_true] at z
  have z2 := z.2
  unfold Builtin.Int.intTooBig at z2
  have z3 := of_decide_eq_true z2
  rw [e] at z3
  omega
def powOk (a n : Int) : Bool := decide (0 ≤ n) && decide (((a.natAbs.log2 : Int) + 1) * n ≤ 2 ^ 27)
def divOk (a b : Int) : Bool := (b != 0) && !(Builtin.divisionGoesByPylong a b)
/-! a tuple taken several times: none, once -/
section
open PySem.Spec PyProof.Rows
theorem tup_none (l : Addr) (its : Array Value) (n : Nat) (dd : Option Addr) (sl : Array (Option Value)) (u : Tok) (hne : its.isEmpty = false) :
    Meets (Builtin.«tuple.__mul__» ⟨[.ref l, .int 0 u], []⟩) (fun _ R s => s.heap.get? l = some ⟨.type "tuple", dd, .seq its n, sl⟩ ∧
      R (.ok (.ret (Value.ref s.heap.objs.size))) { s with heap := s.heap.push { cls := Value.type "tuple", data := Data.seq #[] }, toks := s.toks }) :=
  .of_wp fun prog w A R s h => by
    obtain ⟨hp, g, d, tk, os⟩ := s
    obtain ⟨hl, h⟩ := h
    have f1 := AutoSeq1.idx_int
    wp_walk using wpAny_loadPart' hl
    repeat (first
      | (refine wpAny_ite_false (by decide) ?_; wp_walk using wpAny_loadPart' hl)
      | (refine wpAny_ite_false (by rw [hne]; decide) ?_; wp_walk using wpAny_loadPart' hl)
      | (refine wpAny_ite_true (by rfl) ?_; wp_walk using wpAny_loadPart' hl))
    exact ⟨_, rfl, h⟩
theorem tup_once (l : Addr) (its : Array Value) (n : Nat) (dd : Option Addr) (sl : Array (Option Value)) (u : Tok) :
    Meets (Builtin.«tuple.__mul__» ⟨[.ref l, .int 1 u], []⟩) (fun _ R s => s.heap.get? l = some ⟨.type "tuple", dd, .seq its n, sl⟩ ∧ R (.ok (.ret (.ref l))) s) :=
  .of_wp fun prog w A R s h => by
    obtain ⟨hp, g, d, tk, os⟩ := s
    obtain ⟨hl, h⟩ := h
    have f1 := AutoSeq1.idx_int
    wp_walk using wpAny_loadPart' hl
    repeat (first
      | (refine wpAny_ite_false (by decide) ?_; wp_walk using wpAny_loadPart' hl)
      | (refine wpAny_ite_true (by simp) ?_; wp_walk using wpAny_loadPart' hl))
    exact ⟨_, rfl, h⟩
/-- a tuple times 0 or 1 -/
def rFew (K : PySem.W.Frag) : R2 := fun x y H Q => ∃ l k xs, x = .ref l ∧ y = .int k ∧ SqT K H l xs ∧ xs ≠ [] ∧ ((k = 1 ∧ Q (.ref l) H) ∨ (k = 0 ∧ ∀ p, H p = none → Q (.ref p) (upd H p (.tup []))))
theorem op_few {X : Cx} : OpR X (binaryOp .Mult) (rFew X.K) := by
  intro pins s σ H x y v u Q I rx ry h
  obtain ⟨l, k, xs, rfl, rfl, hT, hne, h⟩ := h
  cases rx
  obtain ⟨t, rfl⟩ := ry
  obtain ⟨its, r, ⟨⟨cls, dd, data, sl⟩, ho, hc, n, hd⟩, hs⟩ := I.tuple hT
  simp only at hc hd
  subst hc hd
  have hn : its.toArray.isEmpty = false := by
    have := r.length
    cases its with
    | nil => cases xs with
      | nil => exact (hne rfl).elim
      | cons _ _ => cases this
    | cons _ _ => rfl
  refine wpAny_binaryOp_repeat_ref (T := "tuple") (U := "int") (by decide) ⟨_, ho, rfl⟩ (fun s' => typeIs_int s' k t) noFill_tuple_mul F.fills_int_mul F.slot_int_rmul repeat_tuple F.slot_int_index.lookup ?_
  refine call_meets F.slot_int_rmul (typeIs_int s k t) F.entry_int_rmul (F.args_int_rmul_2 _ _) (int_rmul_tuple k t l its.toArray n dd sl) ⟨ho, rfl, ⟨_, ho, rfl⟩, ?_⟩
  rcases h with ⟨rfl, q⟩ | ⟨rfl, q⟩
  · exact call_meets F.slot_tuple_mul ⟨_, ho, rfl⟩ F.entry_tuple_mul (F.args_tuple_mul_2 _ _) (tup_once l its.toArray n dd sl t) ⟨ho, .ref l, H, I, rfl, q⟩
  · refine call_meets F.slot_tuple_mul ⟨_, ho, rfl⟩ F.entry_tuple_mul (F.args_tuple_mul_2 _ _) (tup_none l its.toArray n dd sl t hn) ⟨ho, ?_⟩
    exact ⟨.ref s.heap.objs.size, _, I.laid (t' := s.toks) (o := .tup []) (fun b ob q => Heap.get?_push_of_some _ q) (Nat.le_refl _) ⟨by decide, _, .nil, IsTup.new _ _⟩, rfl, q _ (I.hok.fresh (Nat.le_refl _))⟩
end
section
variable {X : Cx}
def rMulX (K : PySem.W.Frag) : R2 := fun x y H Q => ((rI (fun i j => mulOk i j = true) fun i j => .int (i * j)) x y H Q ∨ rFew K x y H Q) ∨ rRepT K x y H Q
theorem op_mulI : OpR X (binaryOp .Mult) (rI (fun i j => mulOk i j = true) fun i j => .int (i * j)) := opI fun _ _ _ _ _ _ _ hc q => PyProof.Rows.mul_int q (mulOk.ok hc)
theorem op_mulX : OpR X (binaryOp .Mult) (rMulX X.K) := OpR.or (OpR.or op_mulI op_few) op_repT
theorem op_powX : OpR X (binaryOp .Pow) (rI (fun i j => powOk i j = true) fun i j => .int (i ^ j.toNat)) := opI fun i j _ _ _ _ _ hc q => by
  have b : Builtin.Int.intBits i ≤ i.natAbs.log2 + 1 := by
    unfold Builtin.Int.intBits
    split <;> omega
  unfold powOk at hc
  obtain ⟨h1, h2⟩ := Bool.and_eq_true_iff.mp hc
  have h3 := of_decide_eq_true h1
  have h4 := of_decide_eq_true h2
  refine PyProof.Rows.pow_int h3 (Int.le_trans (Int.mul_le_mul_of_nonneg_right ?_ h3) h4) q
  omega
theorem op_fdivX {k : Nat} (gd : Gd k X.prog X.base X.A) (hst : X.stack = X.env :: X.outer := by rfl) (hg : X.env.scope.isGenerator = false := by rfl) (hc : X.env.scope.isCoroutine = false := by rfl) : OpR X (binaryOp .FloorDiv) (rI (fun i j => j ≠ 0) fun i j => .int (i.fdiv j)) := by
  intro pins s σ H x y v u Q I rx ry h
  obtain ⟨i, j, rfl, rfl, c, q⟩ := h
  obtain ⟨t, rfl⟩ := rx
  obtain ⟨t', rfl⟩ := ry
  have seer : PySem.SeerAt (model X.prog X.w) X.A s.heap := PySem.SeerAt.of (gd.ns.keeps I.bk) gd.tr (I.ok.frames.trans (congrArg some hst)) hg hc I.ok.blt I.ok.glob
  have room : PySem.PylongRoom (model X.prog X.w) X.A s := PySem.PylongRoom.of I.nolimit (by have := gd.dp; have e : Builtin.pylongFrames = 100 := rfl; omega) seer
  refine PyProof.Rows.floordiv_int c ?_ (.inr room)
  exact ⟨.int (i.fdiv j), H, I.tok _, ⟨_, rfl⟩, q⟩
theorem op_any {f : Value → Value → Sem Value} {r r' : R2} (h : OpR X f r) (h' : OpR X f r') : OpR X f (fun x y H Q => r x y H Q ∨ r' x y H Q) := h.or h'
end
def addD : D → D → Option D
  | .int a, .int b => some (.int (a + b))
  | .str a, .str b => if a.length + b.length ≤ sizeLine then some (.str (a ++ b)) else none
  | .tup a, .tup b => if a.isEmpty then none else if a.length + b.length ≤ sizeLine then some (.tup (a ++ b)) else none
  | .lst a, .lst b => if a.length + b.length ≤ sizeLine then some (.lst (a ++ b)) else none
  | _, _ => none
def subD : D → D → Option D
  | .int a, .int b => some (.int (a - b))
  | _, _ => none
def mulD : D → D → Option D
  | .int a, .int b => if mulOk a b then some (.int (a * b)) else none
  | .tup xs, .int k => if xs.isEmpty then none else if (0 ≤ k ∧ k ≤ 1000) ∧ xs.length ≤ 1000 then some (.tup (List.replicate k.toNat xs).flatten) else none
  | _, _ => none
def powD : D → D → Option D
  | .int a, .int b => if powOk a b then some (.int (a ^ b.toNat)) else none
  | _, _ => none
def fdvD : D → D → Option D
  | .int a, .int b => if b = 0 then none else some (.int (a.fdiv b))
  | _, _ => none
def modD : D → D → Option D
  | .int a, .int b => if b = 0 then none else some (.int (a.fmod b))
  | _, _ => none
def ltD : D → D → Option D
  | .int a, .int b => some (.bl (decide (a < b)))
  | _, _ => none
def leD : D → D → Option D
  | .int a, .int b => some (.bl (decide (a ≤ b)))
  | _, _ => none
def gtD : D → D → Option D
  | .int a, .int b => some (.bl (decide (b < a)))
  | _, _ => none
def geD : D → D → Option D
  | .int a, .int b => some (.bl (decide (b ≤ a)))
  | _, _ => none
def pyE (x y : D) : Option Bool := match x.py, y.py with
  | some a, some b => if SeqAt.shaped a && SeqAt.shaped b then some (PyData.eqv a b) else none
  | _, _ => none
def eqD (x y : D) : Option D := (pyE x y).map .bl
def neD (x y : D) : Option D := (pyE x y).map fun b => .bl (!b)
section
variable {K : PySem.W.Frag}
theorem o2_I {f : D → D → Option D} {C : Int → Int → Prop} {g : Int → Int → V} (hf : ∀ x y z, f x y = some z → ∃ i j, x = .int i ∧ y = .int j ∧ C i j ∧ ∀ ms H, Rep K ms H (g i j) z) : Op2 K (rI C g) f := fun ms os H Q v w x y z _ _ hv hw e hQ => by
  obtain ⟨i, j, rfl, rfl, c, r⟩ := hf x y z e
  exact ⟨i, j, hv.int, hw.int, c, hQ _ H .refl (r ms H)⟩
theorem o2_I0 {f : D → D → Option D} {g : Int → Int → V} (hf : ∀ x y z, f x y = some z → ∃ i j, x = .int i ∧ y = .int j ∧ ∀ ms H, Rep K ms H (g i j) z) : Op2 K (rI0 g) f := fun ms os H Q v w x y z _ _ hv hw e hQ => by
  obtain ⟨i, j, rfl, rfl, r⟩ := hf x y z e
  exact ⟨i, j, hv.int, hw.int, hQ _ H .refl (r ms H)⟩
theorem o2_sub : Op2 K (rI0 fun i j => .int (i - j)) subD := o2_I0 fun x y z e => by
  unfold subD at e; split at e <;> cases e; exact ⟨_, _, rfl, rfl, fun _ _ => .int _⟩
theorem new_tup {ms : Addr → Prop} {H : Hp} {p : Addr} {vs : List V} {ds : List D} (h : H p = none) (r : RepL K ms H vs ds) : Kp NoW H (upd H p (.tup vs)) ∧ Rep K ms (upd H p (.tup vs)) (.ref p) (.tup ds) :=
  ⟨.new h, .tup (.inl (.inl upd_same)) (r.keep (W := NoW) (.new h) fun _ q => q.elim)⟩
theorem new_lst {ms : Addr → Prop} {H : Hp} {p : Addr} {vs : List V} {ds : List D} (hd : ∀ a, ms a → H a ≠ none) (h : H p = none) (r : RepL K ms H vs ds) : Kp NoW H (upd H p (.lst vs)) ∧ Rep K ms (upd H p (.lst vs)) (.ref p) (.lst ds) :=
  ⟨.new h, .lst (fun q => hd p q h) upd_same (r.keep (W := NoW) (.new h) fun _ q => q.elim)⟩
theorem RepL.several {ms : Addr → Prop} {H : Hp} {vs : List V} {ds : List D} (r : RepL K ms H vs ds) : ∀ n : Nat, RepL K ms H (List.replicate n vs).flatten (List.replicate n ds).flatten
  | 0 => .nil
  | n + 1 => by
    rw [List.replicate_succ, List.replicate_succ, List.flatten_cons, List.flatten_cons]
    exact r.append (RepL.several r n)
theorem o2_mul : Op2 K (rMulX K) mulD := fun ms os H Q v w x y z hs hd hv hw e hQ => by
  unfold mulD at e
  split at e
  · split at e <;> cases e
    exact .inl (.inl ⟨_, _, hv.int, hw.int, by assumption, hQ _ H .refl (.int _)⟩)
  · rename_i xs k
    obtain ⟨p, vs, rfl, s1, l1⟩ := hv.tup
    have hk := hw.int
    subst hk
    have e1 := l1.length
    split at e
    · cases e
    · split at e <;> cases e
      rename_i h1 h2
      obtain ⟨⟨h2, h3⟩, h4⟩ := h2
      have hne : vs ≠ [] := by
        intro z
        subst z
        cases xs with
        | nil => exact h1 rfl
        | cons _ _ => simp at e1
      by_cases k0 : k = 0
      · subst k0
        refine .inl (.inr ⟨p, 0, vs, rfl, rfl, s1, hne, .inr ⟨rfl, fun r hr => ?_⟩⟩)
        obtain ⟨k, rp⟩ := new_tup hr (.nil : RepL K ms H [] [])
        exact hQ _ _ k rp
      by_cases k1 : k = 1
      · subst k1
        refine .inl (.inr ⟨p, 1, vs, rfl, rfl, s1, hne, .inl ⟨rfl, hQ _ H .refl ?_⟩⟩)
        have z : (List.replicate (1 : Int).toNat xs).flatten = xs := by simp
        rw [z]; exact .tup s1 l1
      · refine .inr ⟨p, k, vs, rfl, rfl, s1, hne, by omega, h3, by rw [e1]; exact h4, fun r hr => ?_⟩
        obtain ⟨k, rp⟩ := new_tup hr (l1.several k.toNat)
        exact hQ _ _ k rp
  · cases e
theorem o2_pow : Op2 K (rI (fun i j => powOk i j = true) fun i j => .int (i ^ j.toNat)) powD := o2_I fun x y z e => by
  unfold powD at e; split at e
  · split at e <;> cases e; exact ⟨_, _, rfl, rfl, by assumption, fun _ _ => .int _⟩
  · cases e
theorem o2_fdv : Op2 K (rI (fun _ j => j ≠ 0) fun i j => .int (i.fdiv j)) fdvD := o2_I fun x y z e => by
  unfold fdvD at e; split at e
  · split at e <;> cases e; exact ⟨_, _, rfl, rfl, by assumption, fun _ _ => .int _⟩
  · cases e
theorem o2_mod : Op2 K (rI (fun _ j => j ≠ 0) fun i j => .int (i.fmod j)) modD := o2_I fun x y z e => by
  unfold modD at e; split at e
  · split at e <;> cases e; exact ⟨_, _, rfl, rfl, by assumption, fun _ _ => .int _⟩
  · cases e
theorem o2_lt : Op2 K (rI0 fun i j => .bl (decide (i < j))) ltD := o2_I0 fun x y z e => by
  unfold ltD at e; split at e <;> cases e; exact ⟨_, _, rfl, rfl, fun _ _ => .bl _⟩
theorem o2_le : Op2 K (rI0 fun i j => .bl (decide (i ≤ j))) leD := o2_I0 fun x y z e => by
  unfold leD at e; split at e <;> cases e; exact ⟨_, _, rfl, rfl, fun _ _ => .bl _⟩
theorem o2_gt : Op2 K (rI0 fun i j => .bl (decide (j < i))) gtD := o2_I0 fun x y z e => by
  unfold gtD at e; split at e <;> cases e; exact ⟨_, _, rfl, rfl, fun _ _ => .bl _⟩
theorem o2_ge : Op2 K (rI0 fun i j => .bl (decide (j ≤ i))) geD := o2_I0 fun x y z e => by
  unfold geD at e; split at e <;> cases e; exact ⟨_, _, rfl, rfl, fun _ _ => .bl _⟩
theorem pyE.of {x y : D} {b : Bool} (h : pyE x y = some b) : ∃ p q, x.py = some p ∧ y.py = some q ∧ SeqAt.shaped p = true ∧ SeqAt.shaped q = true ∧ PyData.eqv p q = b := by
  unfold pyE at h
  split at h
  · split at h
    · rename_i h1 h2 h3
      obtain ⟨a, c⟩ := Bool.and_eq_true_iff.mp h3
      cases h
      exact ⟨_, _, h1, h2, a, c, rfl⟩
    · cases h
  · cases h
theorem o2_eq : Op2 K (rEqD K) eqD := fun ms os H Q v w x y z _ _ hv hw e hQ => by
  obtain ⟨b, h, rfl⟩ := Option.map_eq_some_iff.mp e
  obtain ⟨p, q, h1, h2, h3, h4, h5⟩ := pyE.of h
  exact ⟨p, q, hv.dp h1, hw.dp h2, h3, h4, by rw [h5]; exact hQ _ H .refl (.bl b)⟩
theorem o2_ne : Op2 K (rNeD K) neD := fun ms os H Q v w x y z _ _ hv hw e hQ => by
  obtain ⟨b, h, rfl⟩ := Option.map_eq_some_iff.mp e
  obtain ⟨p, q, h1, h2, h3, h4, h5⟩ := pyE.of h
  exact ⟨p, q, hv.dp h1, hw.dp h2, h3, h4, by rw [h5]; exact hQ _ H .refl (.bl (!b))⟩
/-- + of all kinds -/
def rAddX (K : PySem.W.Frag) : R2 := fun x y H Q => (((rI0 fun i j => .int (i + j)) x y H Q ∨ (∃ i j, x = V.str i ∧ y = V.str j ∧ i.length + j.length ≤ sizeLine ∧ Q (.str (i ++ j)) H)) ∨ rCatT K x y H Q) ∨ rCat x y H Q
theorem op_addX {X : Cx} : OpR X (binaryOp .Add) (rAddX X.K) := OpR.or (OpR.or (OpR.or op_add op_add_str) op_catT) op_cat
theorem o2_add : Op2 K (rAddX K) addD := fun ms os H Q v w x y z hs hd hv hw e hQ => by
  unfold addD at e
  split at e
  · cases e
    exact .inl (.inl (.inl ⟨_, _, hv.int, hw.int, hQ _ H .refl (.int _)⟩))
  · split at e <;> cases e
    exact .inl (.inl (.inr ⟨_, _, hv.str, hw.str, by assumption, hQ _ H .refl (.str _)⟩))
  · rename_i a b
    obtain ⟨p, vs, rfl, s1, l1⟩ := hv.tup
    obtain ⟨q, ws, rfl, s2, l2⟩ := hw.tup
    split at e
    · cases e
    · split at e <;> cases e
      rename_i h1 h2
      have e1 := l1.length
      have e2 := l2.length
      refine .inl (.inr ⟨p, q, vs, ws, rfl, rfl, s1, s2, ?_, by rw [e1, e2]; exact h2, fun z => ?_, fun z r hr => ?_⟩)
      · intro z
        subst z
        cases a with
        | nil => exact h1 rfl
        | cons _ _ => simp at e1
      · subst z
        cases l2
        exact hQ _ H .refl (by rw [List.append_nil]; exact .tup s1 l1)
      · obtain ⟨k, rp⟩ := new_tup hr (l1.append l2)
        exact hQ _ _ k rp
  · rename_i a b
    obtain ⟨p, vs, rfl, s1, l1⟩ := hv.lst
    obtain ⟨q, ws, rfl, s2, l2⟩ := hw.lst
    split at e <;> cases e
    rename_i h2
    refine .inr ⟨p, q, vs, ws, rfl, rfl, s1, s2, by rw [l1.length, l2.length]; exact h2, fun r hr => ?_⟩
    obtain ⟨k, rp⟩ := new_lst hd hr (l1.append l2)
    exact hQ _ _ k rp
  · cases e
/-- is None -/
def isND : D → D → Option D
  | .ref _, .non => none
  | x, .non => some (.bl (match x with | .non => true | _ => false))
  | _, _ => none
def notND : D → D → Option D
  | .ref _, .non => none
  | x, .non => some (.bl (match x with | .non => false | _ => true))
  | _, _ => none
theorem RepB.none {ms os : Addr → Prop} {H : Hp} {v : V} {d : D} (r : RepB K ms os H v d) : decide (v = .non) = (match d with | .non => true | _ => false) := by
  rcases r with r | ⟨a, m, rfl, h1, h2, h3⟩
  · cases r <;> simp
  · cases d with
    | non => cases m <;> first | cases h2 | (obtain ⟨ds, _, e⟩ := Option.map_eq_some_iff.mp h2; cases e)
    | _ => simp
theorem o2_isN : Op2 K (fun x y H Q => y = .non ∧ Q (.bl (decide (x = .non))) H) isND := fun ms os H Q v w x y z _ _ hv hw e hQ => by
  have n := hv.none
  unfold isND at e
  split at e
  · cases e
  · cases e
    refine ⟨hw.non, ?_⟩
    rw [n]
    refine hQ _ H .refl ?_
    cases x <;> exact .bl _
  · cases e
theorem o2_notN : Op2 K (fun x y H Q => y = .non ∧ Q (.bl (!decide (x = .non))) H) notND := fun ms os H Q v w x y z _ _ hv hw e hQ => by
  have n := hv.none
  unfold notND at e
  split at e
  · cases e
  · cases e
    refine ⟨hw.non, ?_⟩
    rw [n]
    refine hQ _ H .refl ?_
    cases x <;> exact .bl _
  · cases e
/-! subscripts -/
def ixD : D → D → Option D
  | .tup xs, .int i => atI xs i
  | .lst xs, .int i => atI xs i
  | .frl xs, .int i => atI xs i
  | .str x, .int i => if x.length ≤ sizeLine then (atI x.cps.toList i).map fun c => .str ⟨#[c]⟩ else none
  | _, _ => none
theorem RepL.atI {ms : Addr → Prop} {H : Hp} {v : List V} {d : List D} (r : RepL K ms H v d) {i : Int} {x : D} (h : atI d i = some x) : ∃ u, atI v i = some u ∧ Rep K ms H u x := by
  unfold L2.atI at h ⊢
  rw [r.length]
  cases e : ixN d.length i with
  | none => rw [e] at h; cases h
  | some j =>
    rw [e] at h
    exact r.get h
def rIxX (K : PySem.W.Frag) : R2 := fun x y H Q => (rIxL K x y H Q ∨ rIxT K x y H Q) ∨ rIxS x y H Q
theorem ix_X {X : Cx} : IxR X (rIxX X.K) := IxR.or (IxR.or ix_list ix_tup) ix_str
theorem o2_ix : Op2 K (rIxX K) ixD := fun ms os H Q v w x y z hs hd hv hw e hQ => by
  unfold ixD at e
  split at e
  · obtain ⟨p, vs, rfl, s1, l1⟩ := hv.tup
    obtain ⟨u, h1, h2⟩ := l1.atI e
    exact .inl (.inr ⟨p, vs, _, u, rfl, hw.int, s1, h1, hQ _ H .refl h2⟩)
  · obtain ⟨p, vs, rfl, s1, l1⟩ := hv.lst
    obtain ⟨u, h1, h2⟩ := l1.atI e
    exact .inl (.inl ⟨p, vs, _, u, rfl, hw.int, SqL.of s1, h1, hQ _ H .refl h2⟩)
  · obtain ⟨p, vs, rfl, s1, l1⟩ := hv.frl
    obtain ⟨u, h1, h2⟩ := l1.atI e
    exact .inl (.inl ⟨p, vs, _, u, rfl, hw.int, s1.sq, h1, hQ _ H .refl h2⟩)
  · split at e
    · obtain ⟨c, h1, rfl⟩ := Option.map_eq_some_iff.mp e
      exact .inr ⟨_, _, c, hv.str, hw.int, by assumption, h1, hQ _ H .refl (.str _)⟩
    · cases e
  · cases e
end
end Mir

namespace Mir
open PySem L2
def asB : D → M Bool
  | .bl b => ret b
  | _ => bad
def tB (m : M D) : M Bool := bnd m asB
def ite' {α : Type} (c : M Bool) (a b : M α) : M α := bnd c fun k => match k with
  | true => a
  | false => b
def notM (c : M Bool) : M Bool := bnd c fun b => ret (!b)
def andM (a b : M Bool) : M Bool := bnd a fun k => match k with
  | true => b
  | false => ret false
def orM (a b : M Bool) : M Bool := bnd a fun k => match k with
  | true => ret true
  | false => b
/-- the same as values -/
def ofB (m : M Bool) : M D := bnd m fun b => ret (.bl b)
structure RW (X : Cx) (pa : Pa) (W : WX) (e : Expr) (m : M Bool) : Prop where
  pw : PW X e (Et X.K pa W m)
theorem _root_.L2.PW.imp {X : Cx} {e : Expr} {t t' : TT} (h : PW X e t) (q : ∀ σ H Q, t' σ H Q → t σ H Q) : PW X e t' := ⟨fun wh pins s σ H Q I z => h.run wh pins s σ H Q I (q σ H Q z)⟩
section
variable {X : Cx} {K : PySem.W.Frag} {pa : Pa} {W : WX} {ms os : Addr → Prop} {σ : L2.St} {H : Hp} {g : En} {pos : Pos} {a b c e : Expr} {rest : List Expr}
theorem rep_bl {v : V} {b : Bool} (r : Rep K ms H v (.bl b)) : v = .bl b := by cases r; rfl
theorem rt_val {m : M D} (h : RE X pa W e m) (he : ∀ whole, isTrue e X.env whole = (do let v ← whole; standAt e.pos; holding [v] (truthy v)) := by intro _; rfl) : RT X pa W e (tB m) :=
  ⟨(pt_val h.pe he).imp fun σ H Q ⟨ms, os, g, r, z⟩ => Ed.step (P := fun H1 => Tw X.K pa ms os σ H1 Q) r z (fun _ _ _ q k => q.later k) fun v x H1 g1 r1 k1 rep o => by
    cases x with
    | bl b => exact ⟨b, rep_bl rep, o H1 r1 .refl⟩
    | _ => exact o.elim⟩
theorem rt_cmp {op : CmpOp} {r : R2} {ma mb : M Op} {f : D → D → Option D} (ho : OpR X (compareOp op) r) (hf : Op2 X.K r f) (ha : RO X pa W a ma) (hb : RO X pa W b mb) (hm : behindInMarks op b = false) : RT X pa W (.Compare a [op] [b] pos) (tB (e2 ma mb (f2 f))) :=
  ⟨(pt_cmpR ho ha.pe hb.pe hm).imp fun σ H Q ⟨ms, os, g, rl, z⟩ => by
    have z2 := z.bnd
    refine step2 (P := fun H1 d g' => Out (asB d g') (Tw X.K pa ms os σ H1 Q) (Xw X.K pa W ms os σ H1)) rl z2 (fun d g' H H1 q k => q.mono (fun _ _ q => q.later k) fun _ _ q => q.later k) fun v v' d d' H1 g1 r1 q1 q2 o => ?_
    obtain ⟨y, e, o⟩ := o.opt
    refine hf ms os H1 _ v v' d d' y r1.sub r1.dom q1 q2 e fun u H' k rp => ?_
    cases y with
    | bl b => exact ⟨b, rep_bl rp, o H' (r1.kp k) (k.weak fun _ q => q.elim)⟩
    | _ => exact o.elim⟩
theorem rt_not {m : M Bool} (h : RT X pa W a m) : RT X pa W (.UnaryOp .Not a pos) (notM m) :=
  ⟨(pt_not h.pt).imp fun σ H Q ⟨ms, os, g, r, z⟩ => Et.step (P := fun H1 => Tw X.K pa ms os σ H1 Q) r z (fun _ _ _ q k => q.later k) fun x H1 g1 r1 k1 o => o H1 r1 .refl⟩
theorem rw_and1 {m : M Bool} (h : RT X pa W a m) : RW X pa W (.BoolOp .And [a] pos) m := ⟨pw_and1 h.pt⟩
theorem rw_or1 {m : M Bool} (h : RT X pa W a m) : RW X pa W (.BoolOp .Or [a] pos) m := ⟨pw_or1 h.pt⟩
theorem rw_and {m m' : M Bool} (h : RT X pa W a m) (h' : RW X pa W (.BoolOp .And (b :: rest) pos) m') : RW X pa W (.BoolOp .And (a :: b :: rest) pos) (andM m m') :=
  ⟨(pw_and h.pt h'.pw).imp fun σ H Q ⟨ms, os, g, r, z⟩ => Et.step (P := fun H1 => Tw X.K pa ms os σ H1 Q) r z (fun _ _ _ q k => q.later k) fun x H1 g1 r1 k1 o => by
    cases x with
    | true => rw [if_pos rfl]; exact ⟨ms, os, g1, r1, o⟩
    | false => rw [if_neg (by decide)]; exact o H1 r1 .refl⟩
theorem rw_or {m m' : M Bool} (h : RT X pa W a m) (h' : RW X pa W (.BoolOp .Or (b :: rest) pos) m') : RW X pa W (.BoolOp .Or (a :: b :: rest) pos) (orM m m') :=
  ⟨(pw_or h.pt h'.pw).imp fun σ H Q ⟨ms, os, g, r, z⟩ => Et.step (P := fun H1 => Tw X.K pa ms os σ H1 Q) r z (fun _ _ _ q k => q.later k) fun x H1 g1 r1 k1 o => by
    cases x with
    | false => rw [if_neg (by decide)]; exact ⟨ms, os, g1, r1, o⟩
    | true => rw [if_pos rfl]; exact o H1 r1 .refl⟩
theorem rt_rw {m : M Bool} (h : RW X pa W e m) : RT X pa W e m := ⟨h.pw.pt⟩
theorem re_and {m m' : M D} (h : RE X pa W a m) (h' : RE X pa W (.BoolOp .And (b :: rest) pos) m') : RE X pa W (.BoolOp .And (a :: b :: rest) pos) (ite' (tB m) m' (ret (.bl false))) :=
  ⟨(pe_and h.pe h'.pe).imp fun σ H Q ⟨ms, os, g, r, z⟩ => by
    have z2 := z.bnd.bnd
    refine Ed.mk r (z2.mono (fun d g1 o v H1 r1 k1 rep => ?_) fun _ _ q => q)
    cases d with
    | bl b =>
      refine ⟨b, rep_bl rep, ?_⟩
      cases b with
      | true => rw [if_pos rfl]; exact ⟨ms, os, g1, r1, Out.mono (show Out (m' g1) (Vw X.K pa ms os σ H Q) (Xw X.K pa W ms os σ H) from o) (fun _ _ q => Vw.later q k1) fun _ _ q => Xw.later q k1⟩
      | false => rw [if_neg (by decide)]; exact Vw.later o k1 _ H1 r1 .refl (.bl false)
    | _ => exact o.elim⟩
theorem re_or {m m' : M D} (h : RE X pa W a m) (h' : RE X pa W (.BoolOp .Or (b :: rest) pos) m') : RE X pa W (.BoolOp .Or (a :: b :: rest) pos) (ite' (tB m) (ret (.bl true)) m') :=
  ⟨(pe_or h.pe h'.pe).imp fun σ H Q ⟨ms, os, g, r, z⟩ => by
    have z2 := z.bnd.bnd
    refine Ed.mk r (z2.mono (fun d g1 o v H1 r1 k1 rep => ?_) fun _ _ q => q)
    cases d with
    | bl b =>
      refine ⟨b, rep_bl rep, ?_⟩
      cases b with
      | false => rw [if_neg (by decide)]; exact ⟨ms, os, g1, r1, Out.mono (show Out (m' g1) (Vw X.K pa ms os σ H Q) (Xw X.K pa W ms os σ H) from o) (fun _ _ q => Vw.later q k1) fun _ _ q => Xw.later q k1⟩
      | true => rw [if_pos rfl]; exact Vw.later o k1 _ H1 r1 .refl (.bl true)
    | _ => exact o.elim⟩
theorem re_one {op : BoolOp} {m : M D} (h : RE X pa W a m) : RE X pa W (.BoolOp op [a] pos) m := ⟨pe_one h.pe⟩
theorem re_not {m : M D} (h : RE X pa W a m) : RE X pa W (.UnaryOp .Not a pos) (ofB (notM (tB m))) :=
  ⟨(pe_not h.pe).imp fun σ H Q ⟨ms, os, g, r, z⟩ => by
    have z2 := z.bnd.bnd.bnd
    refine Ed.mk r (z2.mono (fun d g1 o v H1 r1 k1 rep => ?_) fun _ _ q => q)
    cases d with
    | bl b => exact ⟨b, rep_bl rep, o _ H1 r1 k1 (.bl (!b))⟩
    | _ => exact o.elim⟩
theorem re_ifExp {m : M Bool} {ma mb : M D} (h : RT X pa W c m) (ha : RE X pa W a ma) (hb : RE X pa W b mb) : RE X pa W (.IfExp c a b pos) (ite' m ma mb) :=
  ⟨(pe_ifExp h.pt ha.pe hb.pe).imp fun σ H Q ⟨ms, os, g, r, z⟩ => Et.step (P := fun H1 => Vw X.K pa ms os σ H1 Q) r z (fun _ _ _ q k => q.later k) fun x H1 g1 r1 k1 o => by
    cases x with
    | true => rw [if_pos rfl]; exact ⟨ms, os, g1, r1, o⟩
    | false => rw [if_neg (by decide)]; exact ⟨ms, os, g1, r1, o⟩⟩
/-! a < b < c -/
def chM (ma mb mc : M Op) (f f' : D → D → Option D) : M D := bnd ma fun x => bnd mb fun y => bnd (ap2 (f2 f) x y) fun k => bnd (asB k) fun t => match t with
  | true => bnd mc fun z => ap2 (f2 f') y z
  | false => ret (.bl false)
theorem re_chain {op op' : CmpOp} {r r' : R2} {ma mb mc : M Op} {f f' : D → D → Option D} (ho : OpR X (compareOp op) r) (ho' : OpR X (compareOp op') r') (hf : Op2 X.K r f) (hf' : Op2 X.K r' f') (ha : RO X pa W a ma) (hb : RO X pa W b mb) (hc : RO X pa W c mc)
    (hm : lastMarks [op, op'] [b, c] = false := by with_unfolding_all rfl) : RE X pa W (.Compare a [op, op'] [b, c] pos) (chM ma mb mc f f') :=
  ⟨(pe_chain ho ho' ha.pe hb.pe hc.pe hm).imp fun σ H Q ⟨ms, os, g, rl, z⟩ => Eo.step (P := fun H1 => Vw X.K pa ms os σ H1 Q) rl z (fun _ _ _ q k => q.later k) fun v x H1 g1 r1 k1 rep o => Eo.step (P := fun H1 => Vw X.K pa ms os σ H1 Q) r1 o (fun _ _ _ q k => q.later k) fun v' y H2 g2 r2 k2 rep2 o2 => by
    obtain ⟨d, d', e1, e2, o3⟩ := o2.bnd.ap2
    obtain ⟨q, e3, o4⟩ := o3.opt
    refine hf ms os H2 _ v v' d d' q r2.sub r2.dom ((rep.keep k2 r2.sub).res r2 e1) (rep2.res r2 e2) e3 fun u H3 k3 rp => ?_
    have o5 := Out.bnd o4
    have r3 := r2.kp k3
    have k3' : Kp os H2 H3 := k3.weak fun _ q => q.elim
    cases q with
    | bl b =>
      refine ⟨b, rep_bl rp, ?_⟩
      cases b with
      | false => rw [if_neg (by decide)]; exact o5 _ H3 r3 k3' (.bl false)
      | true =>
        rw [if_pos rfl]
        have o6 : Out (bnd mc (fun z => ap2 (f2 f') y z) g2) (Vw X.K pa ms os σ H3 Q) (Xw X.K pa W ms os σ H3) := Out.mono o5 (fun _ _ q => Vw.later q k3') fun _ _ q => Xw.later q k3'
        refine Eo.step (P := fun H1 => Vw X.K pa ms os σ H1 Q) r3 o6 (fun _ _ _ q k => q.later k) fun w z H4 g4 r4 k4 rep4 o7 => ?_
        obtain ⟨d, d', e1, e2, o8⟩ := o7.ap2
        obtain ⟨q, e3, o9⟩ := o8.opt
        exact hf' ms os H4 _ v' w d d' q r4.sub r4.dom (((rep2.keep k3' r2.sub).keep k4 r4.sub).res r4 e1) (rep4.res r4 e2) e3 fun u H5 k5 rp => o9 u H5 (r4.kp k5) (k5.weak fun _ q => q.elim) rp
    | _ => exact o5.elim⟩
theorem rt_chain {op op' : CmpOp} {r r' : R2} {ma mb mc : M Op} {f f' : D → D → Option D} (ho : OpR X (compareOp op) r) (ho' : OpR X (compareOp op') r') (hf : Op2 X.K r f) (hf' : Op2 X.K r' f') (ha : RO X pa W a ma) (hb : RO X pa W b mb) (hc : RO X pa W c mc)
    (hm : lastMarks [op, op'] [b, c] = false := by with_unfolding_all rfl) : RT X pa W (.Compare a [op, op'] [b, c] pos) (tB (chM ma mb mc f f')) :=
  ⟨(pt_chain ho ho' ha.pe hb.pe hc.pe hm).imp fun σ H Q ⟨ms, os, g, rl, z⟩ => by
    let P : Hp → D → En → Prop := fun H1 d g' => Out (asB d g') (Tw X.K pa ms os σ H1 Q) (Xw X.K pa W ms os σ H1)
    have hP : ∀ d g' H H1, P H d g' → Kp os H H1 → P H1 d g' := fun d g' H H1 q k => Out.mono q (fun _ _ q => q.later k) fun _ _ q => q.later k
    have z0 := z.bnd
    refine Eo.step (P := P) rl z0 (fun d g' H1 => hP d g' H H1) fun v x H1 g1 r1 k1 rep o => Eo.step (P := P) r1 o (fun d g' H2 => hP d g' H1 H2) fun v' y H2 g2 r2 k2 rep2 o2 => ?_
    obtain ⟨d, d', e1, e2, o3⟩ := o2.bnd.ap2
    obtain ⟨q, e3, o4⟩ := o3.opt
    refine hf ms os H2 _ v v' d d' q r2.sub r2.dom ((rep.keep k2 r2.sub).res r2 e1) (rep2.res r2 e2) e3 fun u H3 k3 rp => ?_
    have o5 := Out.bnd o4
    have r3 := r2.kp k3
    have k3' : Kp os H2 H3 := k3.weak fun _ q => q.elim
    cases q with
    | bl b =>
      refine ⟨b, rep_bl rp, ?_⟩
      cases b with
      | false => rw [if_neg (by decide)]; exact ⟨false, rfl, o5 H3 r3 k3'⟩
      | true =>
        rw [if_pos rfl]
        have o6 : Out (bnd mc (fun z => ap2 (f2 f') y z) g2) (P H3) (Xw X.K pa W ms os σ H3) := Out.mono o5 (fun d g' q => hP d g' H2 H3 q k3') fun _ _ q => Xw.later q k3'
        refine Eo.step (P := P) r3 o6 (fun d g' H4 => hP d g' H3 H4) fun w z H4 g4 r4 k4 rep4 o7 => ?_
        obtain ⟨d, d', e1, e2, o8⟩ := o7.ap2
        obtain ⟨q, e3, o9⟩ := o8.opt
        refine hf' ms os H4 _ v' w d d' q r4.sub r4.dom (((rep2.keep k3' r2.sub).keep k4 r4.sub).res r4 e1) (rep4.res r4 e2) e3 fun u H5 k5 rp => ?_
        cases q with
        | bl b => exact ⟨b, rep_bl rp, o9 H5 (r4.kp k5) (k5.weak fun _ q => q.elim)⟩
        | _ => exact o9.elim
    | _ => exact o5.elim⟩
end
end Mir

namespace Mir
open PySem L2
/-! arguments -/
def eArgs : List (M Op) → M (List Op)
  | [] => ret []
  | m :: ms => bnd m fun x => bnd (eArgs ms) fun xs => ret (x :: xs)
def vls : List Op → Option (List D)
  | [] => some []
  | .d x :: r => match vls r with
    | some ds => some (x :: ds)
    | none => none
  | .o _ :: _ => none
def resL (g : En) : List Op → Option (List D)
  | [] => some []
  | x :: r => match res g x, resL g r with
    | some d, some ds => some (d :: ds)
    | _, _ => none
def anyO : List Op → Bool
  | [] => false
  | .o _ :: _ => true
  | .d _ :: r => anyO r
section
variable {X : Cx} {K : PySem.W.Frag} {pa : Pa} {W : WX} {ms os : Addr → Prop} {σ : L2.St} {H H' : Hp} {g : En} {pos : Pos} {e : Expr} {es : List Expr}
theorem Paired.keepO {vs : List V} {xs : List Op} (r : Paired (RepO K ms σ H) vs xs) (k : Kp os H H') (hs : ∀ a, os a → ms a) : Paired (RepO K ms σ H') vs xs := Paired.mapP r fun _ _ q => q.keep k hs
theorem ra_nil : RA X pa W [] (eArgs []) := ⟨pa_nil.imp fun σ H Q ⟨ms, os, g, r, z⟩ => z [] H r .refl .nil⟩
theorem ra_cons {m : M Op} {ms' : List (M Op)} (h : RO X pa W e m) (t : RA X pa W es (eArgs ms')) (hs : starEach (e :: es) X.env = (false, eval e X.env) :: starEach es X.env := by rfl) : RA X pa W (e :: es) (eArgs (m :: ms')) :=
  ⟨(pa_cons h.pe t.pa hs).imp fun σ H Q ⟨ms, os, g, r, z⟩ => by
    let P : Hp → List Op → En → Prop := fun H1 xs g' => ∀ vs H', Rl X.K pa ms os σ H' g' → Kp os H1 H' → Paired (RepO X.K ms σ H') vs xs → Q vs H'
    have hP : ∀ d g' H H1, P H d g' → Kp os H H1 → P H1 d g' := fun d g' H H1 q k vs H' r' k' rep => q vs H' r' (k.trans k') rep
    exact Eo.step (P := P) r z (fun d g' H1 => hP d g' H H1) fun v x H1 g1 r1 k1 rep o => Ea.step (P := P) r1 o (fun d g' H2 => hP d g' H1 H2) fun vs xs H2 g2 r2 k2 rep2 o2 => o2 (v :: vs) H2 r2 .refl (.cons (rep.keep k2 r1.sub) rep2)⟩
theorem vls_ok : ∀ {xs : List Op} {vs : List V} {ds : List D}, Paired (RepO K ms σ H) vs xs → vls xs = some ds → RepL K ms H vs ds
  | [], _, _, .nil, e => by cases e; exact .nil
  | .d x :: r, _, _, .cons a l, e => by
    unfold vls at e
    cases h : vls r with
    | none => rw [h] at e; cases e
    | some ds => rw [h] at e; cases e; exact .cons a (vls_ok l h)
  | .o i :: r, _, _, .cons a l, e => by cases e
/-- with own objects among them -/
def mc (ms os : Addr → Prop) : Addr → Prop := fun a => ms a ∧ ¬ os a
theorem mc_ms {H : Hp} : ∀ a, mc ms os a → ms a ∨ H a = none := fun _ q => .inl q.1
theorem resL_ok : ∀ {xs : List Op} {vs : List V} {ds : List D}, Rl K pa ms os σ H g → Paired (RepO K ms σ H) vs xs → resL g xs = some ds → RepL K (mc ms os) H vs ds
  | [], _, _, _, .nil, e => by cases e; exact .nil
  | x :: r, _, _, rl, .cons a l, e => by
    unfold resL at e
    cases h : res g x with
    | none => rw [h] at e; cases e
    | some d =>
      cases h2 : resL g r with
      | none => rw [h, h2] at e; cases e
      | some ds =>
        rw [h, h2] at e; cases e
        refine .cons ?_ (resL_ok rl l h2)
        exact (a.res rl h).rep mc_ms fun _ z => z.2
theorem resL_vls : ∀ {xs : List Op} {vs : List V} {ds : List D}, Paired (RepO K ms σ H) vs xs → anyO xs = false → resL g xs = some ds → RepL K ms H vs ds
  | [], _, _, .nil, _, e => by cases e; exact .nil
  | .d x :: r, _, _, .cons a l, n, e => by
    unfold resL at e
    cases h2 : resL g r with
    | none => rw [h2] at e; cases e
    | some ds => rw [h2] at e; cases e; exact .cons a (resL_vls l n h2)
  | .o i :: r, _, _, .cons a l, n, e => by cases n
end
mutual
/-- no list within -/
def D.flat : D → Bool
  | .tup xs => D.flats xs
  | .lst _ => false
  | .frl _ => false
  | .dct _ _ => false
  | .dtt _ _ => false
  | .obj _ _ _ => false
  | _ => true
def D.flats : List D → Bool
  | [] => true
  | d :: ds => D.flat d && D.flats ds
end
section
variable {K : PySem.W.Frag} {ms ms' : Addr → Prop} {H : Hp}
mutual
theorem Rep.flat : ∀ {v : V} {d : D}, Rep K ms H v d → d.flat = true → Rep K ms' H v d
  | _, .non, r, _ => by cases r; exact .non
  | _, .bl _, r, _ => by cases r; exact .bl _
  | _, .int _, r, _ => by cases r; exact .int _
  | _, .str _, r, _ => by cases r; exact .str _
  | _, .ref _, r, _ => by cases r; exact .ref _
  | _, .ty _, r, _ => by cases r; exact .ty _
  | _, .cl _, r, _ => by cases r; exact .cl _
  | _, .fn _, r, _ => by cases r; exact .fn _
  | _, .tup xs, r, e => by cases r with | tup s l => exact .tup s (RepL.flat l e)
  | _, .lst _, r, e => by cases e
  | _, .frl xs, r, e => by cases e
  | _, .dct _ _, r, e => by cases e
  | _, .dtt _ _, r, e => by cases e
  | _, .obj _ _ _, r, e => by cases e
theorem RepL.flat : ∀ {v : List V} {d : List D}, RepL K ms H v d → D.flats d = true → RepL K ms' H v d
  | _, [], r, _ => by cases r; exact .nil
  | _, d :: ds, r, e => by
    cases r with
    | cons a l =>
      obtain ⟨h1, h2⟩ := Bool.and_eq_true_iff.mp (show (D.flat d && D.flats ds) = true from e)
      exact .cons (Rep.flat a h1) (RepL.flat l h2)
end
end
/-! displays -/
def tupM (xs : List Op) : M D := match vls xs with
  | some ds => if ds.length ≤ 65536 then ret (.tup ds) else bad
  | none => bad
def lstM (xs : List Op) : M (List D) := match vls xs with
  | some ds => if ds.length ≤ 65536 then ret ds else bad
  | none => bad
theorem le_size {n : Nat} (h : n ≤ 65536) : n ≤ sizeLine := Nat.le_trans h (by decide)
/-- a new list -/
def plus (ms : Addr → Prop) (p : Addr) : Addr → Prop := fun a => ms a ∨ a = p
def Nw (K : PySem.W.Frag) (pa : Pa) (ms os : Addr → Prop) (σ : L2.St) (H : Hp) (Q : VK) : List D → En → Prop := fun xs g' => ∀ p vs H', H p = none → H' p = some (.lst vs) → Rl K pa (plus ms p) os σ H' g' → Kp os H H' → RepL K (plus ms p) H' vs xs → Q (.ref p) H'
def Enw (K : PySem.W.Frag) (pa : Pa) (W : WX) (m : M (List D)) : TE := fun σ H Q => ∃ ms os g, Rl K pa ms os σ H g ∧ Out (m g) (Nw K pa ms os σ H Q) (Xw K pa W ms os σ H)
structure RN (X : Cx) (pa : Pa) (W : WX) (e : Expr) (m : M (List D)) : Prop where
  pe : PE X e (Enw X.K pa W m)
section
variable {X : Cx} {K : PySem.W.Frag} {pa : Pa} {W : WX} {ms os : Addr → Prop} {σ : L2.St} {H H' : Hp} {g : En} {pos : Pos} {e : Expr} {es : List Expr}
theorem Rl.less {ms' : Addr → Prop} (r : Rl K pa ms' os σ H g) (h : ∀ a, ms a → ms' a) (ho : ∀ a, os a → ms a) : Rl K pa ms os σ H g where
  va := fun i d e => let ⟨v, h1, h2⟩ := r.va i d e; ⟨v, h1, h2.anti fun a q => .inl (h a q)⟩
  mo := fun i m e => by
    obtain ⟨p, h1, h2, h3⟩ := r.mo i m e
    exact ⟨p, h1, h2, h3.anti fun a q => .inl (h a q)⟩
  ap := r.ap
  pm := r.pm
  pk := r.pk
  len := r.len
  sub := ho
  dom := fun a q => r.dom a (h a q)
  lk := r.lk
  tb := r.tb
  er := fun i fs e => let ⟨a, h1, h2⟩ := r.er i fs e; ⟨a, h1, h2.move (W := NoW) .refl (fun _ q => q.elim) fun a q => .inl (h a q)⟩
theorem re_rn {m : M (List D)} (h : RN X pa W e m) : RE X pa W e (bnd m fun xs => ret (.lst xs)) :=
  ⟨h.pe.imp fun σ H Q ⟨ms, os, g, r, z⟩ => ⟨ms, os, g, r, z.bnd.mono (fun xs g1 o p vs H' hp e r1 k rep =>
    o _ H' (r1.less (fun a q => .inl q) r.sub) k (.lst (fun q => r.dom p q hp) e (rep.anti fun a q => .inl (.inl q)))) fun _ _ q => q⟩⟩
/-- laid anew -/
theorem Rl.laid {p : Addr} {vs : List V} (r : Rl K pa ms os σ H g) (h : H p = none) : Rl K pa (plus ms p) os σ (upd H p (.lst vs)) g :=
  r.grow (.new h) (fun a q => q.imp id fun e => by rw [e]; exact h) (fun _ q => .inl q) fun a q => by
    rcases q with q | q
    · intro e
      by_cases hp : a = p
      · subst hp; rw [upd_same] at e; cases e
      · rw [upd_ne hp] at e; exact r.dom a q e
    · subst q; rw [upd_same]; exact fun z => nomatch z
theorem re_tup {m : M (List Op)} {k : Nat} (h : RA X pa W es m) : RE X pa W (.Tuple es k pos) (bnd m tupM) :=
  ⟨(pe_tup h.pa).imp fun σ H Q ⟨ms, os, g, r, z⟩ => Ea.step (P := fun H1 => Vw X.K pa ms os σ H1 Q) r z (fun _ _ _ q k => q.later k) fun vs xs H1 g1 r1 k1 rep o => by
    unfold tupM at o
    cases e : vls xs with
    | none => rw [e] at o; exact o.elim
    | some ds =>
      rw [e] at o
      have rl := vls_ok rep e
      by_cases hl : ds.length ≤ 65536
      · have o : Out ((if ds.length ≤ 65536 then ret (.tup ds) else bad : M D) g1) (Vw X.K pa ms os σ H1 Q) (Xw X.K pa W ms os σ H1) := o
        rw [if_pos hl] at o
        refine ⟨by rw [rl.length]; exact le_size hl, fun p hp => ?_⟩
        obtain ⟨k, rp⟩ := new_tup hp rl
        exact o _ _ (r1.kp k) (k.weak fun _ q => q.elim) rp
      · have o : Out ((if ds.length ≤ 65536 then ret (.tup ds) else bad : M D) g1) (Vw X.K pa ms os σ H1 Q) (Xw X.K pa W ms os σ H1) := o
        rw [if_neg hl] at o
        exact o.elim⟩
theorem rn_lst {m : M (List Op)} (h : RA X pa W es m) : RN X pa W (.List es pos) (bnd m lstM) :=
  ⟨(pe_lst h.pa).imp fun σ H Q ⟨ms, os, g, r, z⟩ => Ea.step (P := fun H1 => Nw X.K pa ms os σ H1 Q) r z (fun xs g' H1 q k p vs H' hp e r' k' rep => q p vs H' (k.no p hp) e r' (k.trans k') rep) fun vs xs H1 g1 r1 k1 rep o => by
    unfold lstM at o
    cases e : vls xs with
    | none => rw [e] at o; exact o.elim
    | some ds =>
      rw [e] at o
      have rl := vls_ok rep e
      have o : Out ((if ds.length ≤ 65536 then ret ds else bad : M (List D)) g1) (Nw X.K pa ms os σ H1 Q) (Xw X.K pa W ms os σ H1) := o
      by_cases hl : ds.length ≤ 65536
      · rw [if_pos hl] at o
        refine ⟨by rw [rl.length]; exact le_size hl, fun p hp => ?_⟩
        exact o p vs _ hp upd_same (r1.laid hp) (.new hp) (rl.move (W := NoW) (.new hp) (fun _ q => q.elim) fun a q => q.imp id fun z => by rw [z]; exact hp)
      · rw [if_neg hl] at o
        exact o.elim⟩
end
end Mir

namespace Mir
open PySem L2
/-! calls of defs -/
inductive Fd where
  | ok (d : D) | new (m : Mo) | ex (x : Xn) | bad
inductive Fm where
  | ok (d : D) (m : Mo) | new (o : Mo) (m : Mo) | ex (x : Xn) (m : Mo) | bad
def Fo.flat : Fo → Bool
  | .d x => x.flat
  | .lk _ => false
/-- no list or dict within the object -/
def Mo.inner : Mo → Bool
  | .ls xs => D.flats xs
  | .dc _ vs => D.flats vs
  | .dt _ vs => D.flats vs
  | .ob _ _ fs => fs.all Fo.flat
  | .th => false
def Xn.flat (x : Xn) : Bool := x.fs.isNone
/-- a def of data alone -/
def spD (K : PySem.W.Frag) (n : Nat) (f : List D → Fd) : Sp := fun vs H Q E => ∃ ms ds, (∀ a, ms a → H a ≠ none) ∧ RepL K ms H vs ds ∧ ds.length = n ∧ match f ds with
  | .ok d => ∀ v H', Kp NoW H H' → Rep K ms H' v d → Q v H'
  | .new o => ∀ p H', H p = none → Kp NoW H H' → MRep K (plus ms p) H' p o → Q (.ref p) H'
  | .ex x => ∀ c dx H', Kp NoW H H' → XRep K ms H' x c dx → E c dx H'
  | .bad => False
/-- a def that changes the object of its first parameter -/
def spM (K : PySem.W.Frag) (n : Nat) (f : Mo → List D → Fm) : Sp := fun vs H Q E => ∃ ms p m ws ds, vs = .ref p :: ws ∧ ms p ∧ (∀ a, ms a → H a ≠ none) ∧ MRep K ms H p m ∧ RepL K ms H ws ds ∧ ds.length + 1 = n ∧ match f m ds with
  | .ok d m' => ∀ v H', Kp (fun a => a = p) H H' → MRep K ms H' p m' → Rep K ms H' v d → Q v H'
  | .new o m' => ∀ q H', H q = none → Kp (fun a => a = p) H H' → MRep K (plus ms q) H' p m' → MRep K (plus ms q) H' q o → Q (.ref q) H'
  | .ex x m' => ∀ c dx H', Kp (fun a => a = p) H H' → MRep K ms H' p m' → XRep K ms H' x c dx → E c dx H'
  | .bad => False
def callF (n : Nat) (f : List D → Fd) (dfl : List D) (xs : List Op) : M D := fun g => match resL g xs with
  | none => .bad
  | some ds => if ds.length + dfl.length = n then match f (ds ++ dfl) with
    | .ok d => if anyO xs && !d.flat then .bad else .ok d g
    | .new m => match m.dat with
      | some d => if anyO xs && !m.inner then .bad else .ok d g
      | none => .bad
    | .ex x => if anyO xs && !x.flat then .bad else .ex x g
    | .bad => .bad
    else .bad
/-- the call of a def that hands back a new object -/
def callN (n : Nat) (f : List D → Fd) (dfl : List D) (xs : List Op) : M Mo := fun g => match resL g xs with
  | none => .bad
  | some ds => if ds.length + dfl.length = n then match f (ds ++ dfl) with
    | .new m => match m.dat with
      | some _ => if anyO xs && !m.inner then .bad else .ok m g
      | none => .bad
    | .ex x => if anyO xs && !x.flat then .bad else .ex x g
    | _ => .bad
    else .bad
def setMo (g : En) (i : Nat) (m : Mo) : En := g.set i (match gt g i with
  | .ow _ => .ow m
  | .pm _ => .pm m
  | .gh _ => .gh m
  | s => s)
def callM (n : Nat) (f : Mo → List D → Fm) (dfl : List D) : List Op → M D
  | .o i :: xs => fun g => match (gt g i).mo, vls xs with
    | some m, some ds => if ds.length + dfl.length + 1 = n then match f m (ds ++ dfl) with
      | .ok d m' => if m'.nolk then .ok d (setMo g i m') else .bad
      | .new o m' => match o.dat with
        | some d => if m'.nolk then .ok d (setMo g i m') else .bad
        | none => .bad
      | .ex x m' => if m'.nolk then .ex x (setMo g i m') else .bad
      | .bad => .bad
      else .bad
    | _, _ => .bad
  | _ => bad
def callMN (n : Nat) (f : Mo → List D → Fm) (dfl : List D) : List Op → M Mo
  | .o i :: xs => fun g => match (gt g i).mo, vls xs with
    | some m, some ds => if ds.length + dfl.length + 1 = n then match f m (ds ++ dfl) with
      | .new o m' => match o.dat with
        | some _ => if m'.nolk then .ok o (setMo g i m') else .bad
        | none => .bad
      | .ex x m' => if m'.nolk then .ex x (setMo g i m') else .bad
      | _ => .bad
      else .bad
    | _, _ => .bad
  | _ => bad
theorem gt_set {g : En} {i j : Nat} {s : Sl} : gt (g.set i s) j = if i = j ∧ i < g.length then s else gt g j := by
  rw [gt_eq, gt_eq, List.getElem?_set]
  by_cases h : i = j
  · subst h
    by_cases h2 : i < g.length
    · simp [h2]
    · simp [h2]
  · simp [h]
theorem gt_len {g : En} {i : Nat} (h : gt g i ≠ .no) : i < g.length := by
  rw [gt_eq] at h
  by_cases h2 : i < g.length
  · exact h2
  · rw [List.getElem?_eq_none (by omega)] at h; exact absurd rfl h
section
variable {X : Cx} {K : PySem.W.Frag} {pa : Pa} {W : WX} {ms ms' os : Addr → Prop} {σ : L2.St} {H H' : Hp} {g : En} {pos p : Pos} {e : Expr} {es : List Expr}
theorem XRep.flat {x : Xn} {c : Value} {dx : Option Addr} (h : XRep K ms H x c dx) (f : x.flat = true) : XRep K ms' H x c dx := by
  obtain ⟨h1, h2⟩ := h
  refine ⟨h1, ?_⟩
  unfold Xn.flat at f
  cases hf : x.fs with
  | none => rw [hf] at h2; exact h2
  | some fs => rw [hf] at f; cases f
theorem Kp.now {W : Addr → Prop} (k : Kp NoW H H') : Kp W H H' := k.weak fun _ q => q.elim
theorem MRep.dom {p : Addr} {m : Mo} (r : MRep K ms H p m) : H p ≠ none := by
  cases m with
  | ls xs => obtain ⟨vs, e1, _⟩ := r; rw [e1]; exact fun z => nomatch z
  | dc ks ds => obtain ⟨vs, e1, _⟩ := r; rw [e1]; exact fun z => nomatch z
  | dt ks ds => obtain ⟨vs, e1, _⟩ := r; rw [e1]; exact fun z => nomatch z
  | ob c ns fs => obtain ⟨dx, vs, e1, _⟩ := r; rw [e1]; exact fun z => nomatch z
  | th => obtain ⟨φ, e⟩ := r; rw [e]; exact fun z => nomatch z
theorem MRep.inner {p : Addr} {m : Mo} (r : MRep K ms H p m) (h : m.inner = true) : MRep K ms' H p m := by
  cases m with
  | ls xs => obtain ⟨vs, e1, e2⟩ := r; exact ⟨vs, e1, e2.flat h⟩
  | dc ks ds => obtain ⟨vs, e1, e3, e2⟩ := r; exact ⟨vs, e1, e3, e2.flat h⟩
  | dt ks ds => obtain ⟨vs, e1, e3, e2⟩ := r; exact ⟨vs, e1, e3, e2.flat h⟩
  | ob c ns fs =>
    obtain ⟨dx, vs, e1, e3, e2⟩ := r
    refine ⟨dx, vs, e1, e3, ?_⟩
    have key : ∀ {vs : List V} {fs : List Fo}, FRepL K ms H vs fs → fs.all Fo.flat = true → FRepL K ms' H vs fs := by
      intro vs fs
      induction fs generalizing vs with
      | nil => intro r _; cases r; exact .nil
      | cons f fs ih =>
        intro r h
        cases r with
        | cons a l =>
          obtain ⟨h1, h2⟩ := Bool.and_eq_true_iff.mp (show (f.flat && fs.all Fo.flat) = true by rw [← List.all_cons]; exact h)
          refine .cons ?_ (ih l h2)
          cases f with
          | d x => exact Rep.flat a h1
          | lk k => trivial
    exact key e2 h
  | th => cases h
/-- the slot's object is another one's content now, the slot's kind stays -/
def Sl.with (s : Sl) (m : Mo) : Sl := match s with
  | .ow _ => .ow m
  | .pm _ => .pm m
  | .gh _ => .gh m
  | s => s
theorem with_mo {s : Sl} {m m' : Mo} (h : s.mo = some m) : (s.with m').mo = some m' := by
  cases s <;> first | rfl | cases h
theorem with_pm {s : Sl} {m m2 : Mo} (h : s.with m = .pm m2) : ∃ m0, s = .pm m0 := by
  cases s with
  | pm x => exact ⟨x, rfl⟩
  | _ => cases h
theorem with_gh {s : Sl} {m m2 : Mo} (h : s.with m = .gh m2) : ∃ m0, s = .gh m0 := by
  cases s with
  | gh x => exact ⟨x, rfl⟩
  | _ => cases h
theorem with_va {s : Sl} {m : Mo} {d : D} (h : s.with m = .va d) : s = .va d := by
  cases s with
  | va x => exact h
  | _ => cases h
/-- the object of slot i has changed -/
theorem Rl.setMo2 {i : Nat} {m m' : Mo} {p : Addr} {Wr : Addr → Prop} (r : Rl K pa ms os σ H g) (hi : (gt g i).mo = some m) (hp : σ[i]? = some (some (.ref p))) (k : Kp Wr H H') (hwm : ∀ a, Wr a → ms a) (hwo : ∀ j m2 a, (gt g j).mo = some m2 → σ[j]? = some (some (.ref a)) → Wr a → j = i) (hm : MRep K ms H' p m') (hl : m'.nolk = true) : Rl K pa ms os σ H' (setMo g i m') := by
  have hlen : i < g.length := gt_len fun z => by rw [z] at hi; cases hi
  obtain ⟨q, q1, q2, q3⟩ := r.mo i m hi
  have hpq : q = p := by rw [hp] at q1; cases q1; rfl
  subst hpq
  have key : ∀ j, gt (Mir.setMo g i m') j = if i = j then (gt g i).with m' else gt g j := fun j => by
    show gt (g.set i ((gt g i).with m')) j = _
    rw [gt_set]
    by_cases h : i = j
    · rw [if_pos ⟨h, hlen⟩, if_pos h]
    · rw [if_neg (fun z => h z.1), if_neg h]
  have keyi : (gt (Mir.setMo g i m') i).mo = some m' := by rw [key, if_pos rfl]; exact with_mo hi
  have back : ∀ j m2, (gt (Mir.setMo g i m') j).mo = some m2 → ∃ m3, (gt g j).mo = some m3 ∧ (j ≠ i → m3 = m2) := fun j m2 e => by
    by_cases h : i = j
    · subst h; exact ⟨m, hi, fun z => absurd rfl z⟩
    · rw [key, if_neg h] at e; exact ⟨m2, e, fun _ => rfl⟩
  refine ⟨fun j d e => ?_, fun j m2 e => ?_, fun j l m2 m3 p2 e1 e2 e3 e4 => ?_, fun j m2 p2 e1 e2 => ?_, fun j p2 e1 => ?_, by unfold Mir.setMo; rw [List.length_set]; exact r.len, r.sub, fun a q e => r.dom a q (k.no a e), fun j m2 l k2 m3 e1 e2 e3 => ?_, k.tabs r.tb, fun j fs e => ?_⟩
  · have h : i ≠ j := by
      rintro rfl
      have := keyi
      rw [e] at this; cases this
    rw [key, if_neg h] at e
    obtain ⟨v, h1, h2⟩ := r.va j d e
    exact ⟨v, h1, h2.keep k hwm⟩
  · by_cases h : i = j
    · subst h
      rw [keyi] at e; cases e
      exact ⟨q, hp, q2, hm⟩
    · rw [key, if_neg h] at e
      obtain ⟨p2, h1, h2, h3⟩ := r.mo j m2 e
      exact ⟨p2, h1, h2, h3.keep k hwm fun z => h (hwo j m2 p2 e h1 z).symm⟩
  · obtain ⟨n1, f1, _⟩ := back j m2 e1
    obtain ⟨n2, f2, _⟩ := back l m3 e2
    exact r.ap j l n1 n2 p2 f1 f2 e3 e4
  · by_cases h : i = j
    · subst h
      rw [key, if_pos rfl] at e1
      obtain ⟨m0, z⟩ := with_pm e1
      exact r.pm i m0 p2 z e2
    · rw [key, if_neg h] at e1
      exact r.pm j m2 p2 e1 e2
  · obtain ⟨m2, h1, h2⟩ := r.pk j p2 e1
    by_cases h : i = j
    · subst h
      exact ⟨m', by rw [key, if_pos rfl, h1]; rfl, h2⟩
    · exact ⟨m2, by rw [key, if_neg h]; exact h1, h2⟩
  · by_cases h : i = j
    · subst h
      rw [keyi] at e1; cases e1
      rw [Mo.nolk_at hl] at e2; cases e2
    · rw [key, if_neg h] at e1
      have e3' : ∃ m4, gt g k2 = .gh m4 := by
        by_cases h2 : i = k2
        · subst h2
          rw [key, if_pos rfl] at e3
          exact with_gh e3
        · rw [key, if_neg h2] at e3; exact ⟨m3, e3⟩
      obtain ⟨m4, e4⟩ := e3'
      obtain ⟨p2, q3, f1, f2, f3⟩ := r.lk j m2 l k2 m4 e1 e2 e4
      exact ⟨p2, q3, f1, f2.keep k fun z => h (hwo j m2 p2 e1 f1 z).symm, f3⟩
  · have h : i ≠ j := by
      rintro rfl
      have := keyi
      rw [e] at this; cases this
    rw [key, if_neg h] at e
    obtain ⟨a, h1, h2⟩ := r.er j fs e
    exact ⟨a, h1, h2.move k hwm fun _ q => .inl q⟩
theorem Rl.setMo {i : Nat} {m m' : Mo} {p : Addr} (r : Rl K pa ms os σ H g) (hi : (gt g i).mo = some m) (hp : σ[i]? = some (some (.ref p))) (k : Kp (fun a => a = p) H H') (hm : MRep K ms H' p m') (hl : m'.nolk = true) : Rl K pa ms os σ H' (setMo g i m') := by
  obtain ⟨q, q1, q2, q3⟩ := r.mo i m hi
  have hpq : q = p := by rw [hp] at q1; cases q1; rfl
  subst hpq
  exact r.setMo2 hi hp k (fun a e => by rw [e]; exact r.sub _ q2) (fun j m2 a h1 h2 h3 => r.ap j i m2 m a h1 hi h2 (by rw [h3]; exact hp)) hm hl
/-- with a new object q kept apart -/
theorem Rl.more {q : Addr} (r : Rl K pa ms os σ H g) (k : Kp NoW H H') (hq : H q = none) (hq' : H' q ≠ none) : Rl K pa (plus ms q) os σ H' g :=
  r.grow k (fun a z => z.imp id fun z => by rw [z]; exact hq) (fun a z => .inl z) fun a z e => z.elim (fun z => r.dom a z (k.no a e)) fun z => by rw [z] at e; exact hq' e
variable {n : Nat} {F : List D → Fd} {FM : Mo → List D → Fm} {dfl : List D} {vs dvs : List V} {xs : List Op} {ds : List D}
/-- what is asked of a new object -/
def Nm (K : PySem.W.Frag) (pa : Pa) (ms os : Addr → Prop) (σ : L2.St) (H : Hp) (Q : VK) : Mo → En → Prop := fun m g' => ∀ p H', H p = none → Rl K pa (plus ms p) os σ H' g' → Kp os H H' → MRep K (plus ms p) H' p m → Q (.ref p) H'
theorem Nm.later {H1 : Hp} {Q : VK} {m : Mo} (h : Nm K pa ms os σ H Q m g) (k : Kp os H H1) : Nm K pa ms os σ H1 Q m g := fun p H' hp r k' rep => h p H' (k.no p hp) r (k.trans k') rep
def Enm (K : PySem.W.Frag) (pa : Pa) (W : WX) (m : M Mo) : TE := fun σ H Q => ∃ ms os g, Rl K pa ms os σ H g ∧ Out (m g) (Nm K pa ms os σ H Q) (Xw K pa W ms os σ H)
structure RM (X : Cx) (pa : Pa) (W : WX) (e : Expr) (m : M Mo) : Prop where
  pe : PE X e (Enm X.K pa W m)
theorem new_val {o : Mo} {d : D} {q : Addr} (r : Rl K pa ms os σ H g) (hq : H q = none) (hm : MRep K (plus ms q) H' q o) (e : o.dat = some d) : Rep K ms H' (.ref q) d :=
  (hm.anti (ms' := ms) fun a z => .inl (.inl z)).rep e fun z => r.dom q z hq
/-- a call's promise from its reckoning -/
theorem callF_ok {H1 : Hp} {g1 : En} {Q : VK} (r1 : Rl K pa ms os σ H1 g1) (rep : Paired (RepO K ms σ H1) vs xs) (hdf : ∀ ms H, RepL K ms H dvs dfl) (o : Out (callF n F dfl xs g1) (Vw K pa ms os σ H1 Q) (Xw K pa W ms os σ H1)) : TbsG pa.T H1 ∧ spD K n F (vs ++ dvs) H1 Q (WE W σ) := by
  refine ⟨r1.tb, ?_⟩
  unfold callF at o
  cases e1 : resL g1 xs with
  | none => rw [e1] at o; exact o.elim
  | some ds =>
    rw [e1] at o
    simp only at o
    by_cases hl : ds.length + dfl.length = n
    · rw [if_pos hl] at o
      by_cases ho : anyO xs = true
      · refine ⟨mc ms os, ds ++ dfl, fun a q => r1.dom a q.1, (resL_ok r1 rep e1).append (hdf _ _), by rw [List.length_append]; exact hl, ?_⟩
        cases ef : F (ds ++ dfl) with
        | ok d =>
          rw [ef] at o
          simp only [ho, Bool.true_and] at o
          intro v H2 k2 rp
          cases hfl : d.flat with
          | true => rw [hfl] at o; exact o v H2 (r1.kp k2) k2.now (rp.flat hfl)
          | false => rw [hfl] at o; exact o.elim
        | new m =>
          rw [ef] at o
          simp only at o
          intro p H2 hp k2 hm
          cases hd : m.dat with
          | none => rw [hd] at o; exact o.elim
          | some d =>
            rw [hd] at o
            simp only [ho, Bool.true_and] at o
            cases hfl : m.inner with
            | true => rw [hfl] at o; exact o _ H2 (r1.kp k2) k2.now (new_val r1 hp (hm.inner hfl) hd)
            | false => rw [hfl] at o; exact o.elim
        | ex x =>
          rw [ef] at o
          simp only [ho, Bool.true_and] at o
          intro c dx H2 k2 xr
          cases hfl : x.flat with
          | true => rw [hfl] at o; exact o c dx H2 (r1.kp k2) k2.now (xr.flat hfl)
          | false => rw [hfl] at o; exact o.elim
        | bad => rw [ef] at o; exact o
      · have ho : anyO xs = false := by simpa using ho
        refine ⟨ms, ds ++ dfl, r1.dom, (resL_vls rep ho e1).append (hdf _ _), by rw [List.length_append]; exact hl, ?_⟩
        cases ef : F (ds ++ dfl) with
        | ok d =>
          rw [ef] at o
          simp only [ho, Bool.false_and] at o
          exact fun v H2 k2 rp => o v H2 (r1.kp k2) k2.now rp
        | new m =>
          rw [ef] at o
          simp only at o
          intro p H2 hp k2 hm
          cases hd : m.dat with
          | none => rw [hd] at o; exact o.elim
          | some d =>
            rw [hd] at o
            simp only [ho, Bool.false_and] at o
            exact o _ H2 (r1.kp k2) k2.now (new_val r1 hp hm hd)
        | ex x =>
          rw [ef] at o
          simp only [ho, Bool.false_and] at o
          exact fun c dx H2 k2 xr => o c dx H2 (r1.kp k2) k2.now xr
        | bad => rw [ef] at o; exact o
    · rw [if_neg hl] at o
      exact o.elim
theorem callN_ok {H1 : Hp} {g1 : En} {Q : VK} (r1 : Rl K pa ms os σ H1 g1) (rep : Paired (RepO K ms σ H1) vs xs) (hdf : ∀ ms H, RepL K ms H dvs dfl) (o : Out (callN n F dfl xs g1) (Nm K pa ms os σ H1 Q) (Xw K pa W ms os σ H1)) : TbsG pa.T H1 ∧ spD K n F (vs ++ dvs) H1 Q (WE W σ) := by
  refine ⟨r1.tb, ?_⟩
  unfold callN at o
  cases e1 : resL g1 xs with
  | none => rw [e1] at o; exact o.elim
  | some ds =>
    rw [e1] at o
    simp only at o
    by_cases hl : ds.length + dfl.length = n
    · rw [if_pos hl] at o
      by_cases ho : anyO xs = true
      · refine ⟨mc ms os, ds ++ dfl, fun a q => r1.dom a q.1, (resL_ok r1 rep e1).append (hdf _ _), by rw [List.length_append]; exact hl, ?_⟩
        cases ef : F (ds ++ dfl) with
        | ok d => rw [ef] at o; exact o.elim
        | new m =>
          rw [ef] at o
          simp only at o
          intro p H2 hp k2 hm
          cases hd : m.dat with
          | none => rw [hd] at o; exact o.elim
          | some d =>
            rw [hd] at o
            simp only [ho, Bool.true_and] at o
            cases hfl : m.inner with
            | true => rw [hfl] at o; exact o p H2 hp (r1.more k2 hp hm.dom) k2.now (hm.inner hfl)
            | false => rw [hfl] at o; exact o.elim
        | ex x =>
          rw [ef] at o
          simp only [ho, Bool.true_and] at o
          intro c dx H2 k2 xr
          cases hfl : x.flat with
          | true => rw [hfl] at o; exact o c dx H2 (r1.kp k2) k2.now (xr.flat hfl)
          | false => rw [hfl] at o; exact o.elim
        | bad => rw [ef] at o; exact o
      · have ho : anyO xs = false := by simpa using ho
        refine ⟨ms, ds ++ dfl, r1.dom, (resL_vls rep ho e1).append (hdf _ _), by rw [List.length_append]; exact hl, ?_⟩
        cases ef : F (ds ++ dfl) with
        | ok d => rw [ef] at o; exact o.elim
        | new m =>
          rw [ef] at o
          simp only at o
          intro p H2 hp k2 hm
          cases hd : m.dat with
          | none => rw [hd] at o; exact o.elim
          | some d =>
            rw [hd] at o
            simp only [ho, Bool.false_and] at o
            exact o p H2 hp (r1.more k2 hp hm.dom) k2.now hm
        | ex x =>
          rw [ef] at o
          simp only [ho, Bool.false_and] at o
          exact fun c dx H2 k2 xr => o c dx H2 (r1.kp k2) k2.now xr
        | bad => rw [ef] at o; exact o
    · rw [if_neg hl] at o
      exact o.elim
/-- the object of a slot after a call that changed it, a new object q beside it -/
theorem Rl.setMoN {i : Nat} {m m' : Mo} {p q : Addr} (r : Rl K pa ms os σ H g) (hi : (gt g i).mo = some m) (hp : σ[i]? = some (some (.ref p))) (hq : H q = none) (k : Kp (fun a => a = p) H H') (hm : MRep K (plus ms q) H' p m') (hl : m'.nolk = true) (hq' : H' q ≠ none) : Rl K pa (plus ms q) os σ H' (Mir.setMo g i m') := by
  obtain ⟨p', q1, q2, q3⟩ := r.mo i m hi
  have hpq : p' = p := by rw [hp] at q1; cases q1; rfl
  subst hpq
  have npq : p' ≠ q := fun z => q3.dom (by rw [z]; exact hq)
  -- q is laid first as an empty list, then all else happens
  have r1 : Rl K pa (plus ms q) os σ (upd H q (.lst [])) g := r.more (.new hq) hq (by rw [upd_same]; exact fun z => nomatch z)
  have k2 : Kp (fun a => a = p' ∨ a = q) (upd H q (.lst [])) H' := ⟨fun a o' ea n f => by
      by_cases ha : a = q
      · subst ha
        rw [upd_same] at ea; cases ea
        exact (f (.inr rfl)).elim
      · rw [upd_ne ha] at ea
        exact k.st a o' ea n fun z => f (.inl z), fun a ea => by
      by_cases ha : a = q
      · subst ha; exact absurd ea hq'
      · rw [upd_ne ha]; exact k.no a ea, fun P nm n t => by
      refine k.tb P nm n ?_
      obtain ⟨ps, e1, e2, e3⟩ := t
      have nP : P ≠ q := fun z => by rw [z, upd_same] at e1; cases e1
      rw [upd_ne nP] at e1
      refine ⟨ps, e1, e2, fun pos cv hc => ?_⟩
      obtain ⟨c, e4, e5⟩ := e3 pos cv hc
      have nc : c ≠ q := fun z => by
        rw [z, upd_same] at e5
        have := Option.some.inj e5
        unfold LamX.CodeO at this
        cases this
      rw [upd_ne nc] at e5
      exact ⟨c, e4, e5⟩⟩
  exact r1.setMo2 hi hp k2 (fun a z => z.elim (fun z => by rw [z]; exact .inl (r.sub _ q2)) fun z => .inr z) (fun j m3 a h3 h4 z => z.elim (fun z => r.ap j i m3 m p' h3 hi (by rw [← z]; exact h4) hp) fun z => by
    obtain ⟨b, b1, b2, b3⟩ := r.mo j m3 h3
    rw [h4] at b1; cases b1
    exact absurd hq (by rw [← z]; exact b3.dom)) hm hl
theorem callM_ok {H1 : Hp} {g1 : En} {Q : VK} (r1 : Rl K pa ms os σ H1 g1) (rep : Paired (RepO K ms σ H1) vs xs) (hdf : ∀ ms H, RepL K ms H dvs dfl) (o : Out (callM n FM dfl xs g1) (Vw K pa ms os σ H1 Q) (Xw K pa W ms os σ H1)) : TbsG pa.T H1 ∧ spM K n FM (vs ++ dvs) H1 Q (WE W σ) := by
  refine ⟨r1.tb, ?_⟩
  cases rep with
  | nil => exact o.elim
  | @cons v x vs xs rx rxs =>
    cases x with
    | d y => exact o.elim
    | o i =>
      simp only [callM] at o
      cases e1 : (gt g1 i).mo with
      | none => rw [e1] at o; exact o.elim
      | some m0 =>
        cases e2 : vls xs with
        | none => rw [e1, e2] at o; exact o.elim
        | some ds =>
          rw [e1, e2] at o
          simp only at o
          obtain ⟨q, q1, q2, q3⟩ := r1.mo i m0 e1
          have rx : σ[i]? = some (some v) := rx
          rw [q1] at rx
          cases rx
          have hwm : ∀ a, a = q → os a := fun a e => by rw [e]; exact q2
          by_cases hl : ds.length + dfl.length + 1 = n
          · rw [if_pos hl] at o
            refine ⟨ms, q, m0, vs ++ dvs, ds ++ dfl, rfl, r1.sub _ q2, r1.dom, q3, (vls_ok rxs e2).append (hdf _ _), by rw [List.length_append]; exact hl, ?_⟩
            cases ef : FM m0 (ds ++ dfl) with
            | ok d m' =>
              rw [ef] at o
              simp only at o
              intro v H2 k2 hm rp
              cases hk : m'.nolk with
              | false => rw [hk] at o; exact o.elim
              | true => rw [hk] at o; exact o v H2 (r1.setMo e1 q1 k2 hm hk) (k2.weak hwm) rp
            | new w m' =>
              rw [ef] at o
              simp only at o
              intro p H2 hp k2 hm rp
              cases hd : w.dat with
              | none => rw [hd] at o; exact o.elim
              | some d =>
                rw [hd] at o
                simp only at o
                cases hk : m'.nolk with
                | false => rw [hk] at o; exact o.elim
                | true => rw [hk] at o; exact o _ H2 (r1.setMo e1 q1 k2 (hm.anti fun a z => .inl (.inl z)) hk) (k2.weak hwm) (new_val r1 hp rp hd)
            | ex x m' =>
              rw [ef] at o
              simp only at o
              intro c dx H2 k2 hm xr
              cases hk : m'.nolk with
              | false => rw [hk] at o; exact o.elim
              | true => rw [hk] at o; exact o c dx H2 (r1.setMo e1 q1 k2 hm hk) (k2.weak hwm) xr
            | bad => rw [ef] at o; exact o
          · rw [if_neg hl] at o
            exact o.elim
theorem callMN_ok {H1 : Hp} {g1 : En} {Q : VK} (r1 : Rl K pa ms os σ H1 g1) (rep : Paired (RepO K ms σ H1) vs xs) (hdf : ∀ ms H, RepL K ms H dvs dfl) (o : Out (callMN n FM dfl xs g1) (Nm K pa ms os σ H1 Q) (Xw K pa W ms os σ H1)) : TbsG pa.T H1 ∧ spM K n FM (vs ++ dvs) H1 Q (WE W σ) := by
  refine ⟨r1.tb, ?_⟩
  cases rep with
  | nil => exact o.elim
  | @cons v x vs xs rx rxs =>
    cases x with
    | d y => exact o.elim
    | o i =>
      simp only [callMN] at o
      cases e1 : (gt g1 i).mo with
      | none => rw [e1] at o; exact o.elim
      | some m0 =>
        cases e2 : vls xs with
        | none => rw [e1, e2] at o; exact o.elim
        | some ds =>
          rw [e1, e2] at o
          simp only at o
          obtain ⟨q, q1, q2, q3⟩ := r1.mo i m0 e1
          have rx : σ[i]? = some (some v) := rx
          rw [q1] at rx
          cases rx
          have hwm : ∀ a, a = q → os a := fun a e => by rw [e]; exact q2
          by_cases hl : ds.length + dfl.length + 1 = n
          · rw [if_pos hl] at o
            refine ⟨ms, q, m0, vs ++ dvs, ds ++ dfl, rfl, r1.sub _ q2, r1.dom, q3, (vls_ok rxs e2).append (hdf _ _), by rw [List.length_append]; exact hl, ?_⟩
            cases ef : FM m0 (ds ++ dfl) with
            | ok d m' => rw [ef] at o; exact o.elim
            | new w m' =>
              rw [ef] at o
              simp only at o
              intro p H2 hp k2 hm rp
              cases hd : w.dat with
              | none => rw [hd] at o; exact o.elim
              | some d =>
                rw [hd] at o
                simp only at o
                cases hk : m'.nolk with
                | false => rw [hk] at o; exact o.elim
                | true => rw [hk] at o; exact o p H2 hp (r1.setMoN e1 q1 hp k2 hm hk rp.dom) (k2.weak hwm) rp
            | ex x m' =>
              rw [ef] at o
              simp only at o
              intro c dx H2 k2 hm xr
              cases hk : m'.nolk with
              | false => rw [hk] at o; exact o.elim
              | true => rw [hk] at o; exact o c dx H2 (r1.setMo e1 q1 k2 hm hk) (k2.weak hwm) xr
            | bad => rw [ef] at o; exact o
          · rw [if_neg hl] at o
            exact o.elim
/-! calls by name -/
section
variable {m : M (List Op)} {CX : CXT} {k : Nat} {f : Addr} {fd : FuncData} {ps : List Str} {us : List Value} {x : Str}
theorem re_call (hF : FnG X.prog X.w X.K X.mg X.base pa.T (L2.CX X.prog X.w) k f fd ps (spD X.K n F)) (gd : Gd k X.prog X.base X.A) (hr : Room k X.A) (tk : Takes X W) (hg : Gl X x) (hm : X.mg x = some (.ref f)) (hk : PySem.W.keepIn X.K (.ref f) = true)
    (hb : Binds X.K fd ps us) (hd : Vals dvs us) (hdf : ∀ ms H, RepL X.K ms H dvs dfl) (ha : RA X pa W (e :: es) m) (hdb : (x == ("__debug__" : Str)) = false := by decide) (he : starEach (e :: es) X.env = (false, eval e X.env) :: starEach es X.env := by rfl)
    (hpl : (backTo pos (starEach es X.env)).any (·.1) = false := by rfl) : RE X pa W (.Call (.Name x p) (e :: es) [] pos) (bnd m (callF n F dfl)) :=
  ⟨(pe_callG hF gd hr hg hm hk hb hd (fun σ => passAt tk σ) ha.pa hdb he hpl).imp fun σ H Q ⟨ms, os, g, r, z⟩ => Ea.step (P := fun H1 => Vw X.K pa ms os σ H1 Q) r z (fun _ _ _ q k => q.later k) fun vs xs H1 g1 r1 k1 rep o => callF_ok r1 rep hdf o⟩
theorem re_callM (hF : FnG X.prog X.w X.K X.mg X.base pa.T (L2.CX X.prog X.w) k f fd ps (spM X.K n FM)) (gd : Gd k X.prog X.base X.A) (hr : Room k X.A) (tk : Takes X W) (hg : Gl X x) (hm : X.mg x = some (.ref f)) (hk : PySem.W.keepIn X.K (.ref f) = true)
    (hb : Binds X.K fd ps us) (hd : Vals dvs us) (hdf : ∀ ms H, RepL X.K ms H dvs dfl) (ha : RA X pa W (e :: es) m) (hdb : (x == ("__debug__" : Str)) = false := by decide) (he : starEach (e :: es) X.env = (false, eval e X.env) :: starEach es X.env := by rfl)
    (hpl : (backTo pos (starEach es X.env)).any (·.1) = false := by rfl) : RE X pa W (.Call (.Name x p) (e :: es) [] pos) (bnd m (callM n FM dfl)) :=
  ⟨(pe_callG hF gd hr hg hm hk hb hd (fun σ => passAt tk σ) ha.pa hdb he hpl).imp fun σ H Q ⟨ms, os, g, r, z⟩ => Ea.step (P := fun H1 => Vw X.K pa ms os σ H1 Q) r z (fun _ _ _ q k => q.later k) fun vs xs H1 g1 r1 k1 rep o => callM_ok r1 rep hdf o⟩
theorem rn_call (hF : FnG X.prog X.w X.K X.mg X.base pa.T (L2.CX X.prog X.w) k f fd ps (spD X.K n F)) (gd : Gd k X.prog X.base X.A) (hr : Room k X.A) (tk : Takes X W) (hg : Gl X x) (hm : X.mg x = some (.ref f)) (hk : PySem.W.keepIn X.K (.ref f) = true)
    (hb : Binds X.K fd ps us) (hd : Vals dvs us) (hdf : ∀ ms H, RepL X.K ms H dvs dfl) (ha : RA X pa W (e :: es) m) (hdb : (x == ("__debug__" : Str)) = false := by decide) (he : starEach (e :: es) X.env = (false, eval e X.env) :: starEach es X.env := by rfl)
    (hpl : (backTo pos (starEach es X.env)).any (·.1) = false := by rfl) : RM X pa W (.Call (.Name x p) (e :: es) [] pos) (bnd m (callN n F dfl)) :=
  ⟨(pe_callG hF gd hr hg hm hk hb hd (fun σ => passAt tk σ) ha.pa hdb he hpl).imp fun σ H Q ⟨ms, os, g, r, z⟩ => Ea.step (P := fun H1 => Nm X.K pa ms os σ H1 Q) r z (fun _ _ _ q k => q.later k) fun vs xs H1 g1 r1 k1 rep o => callN_ok r1 rep hdf o⟩
theorem rn_callM (hF : FnG X.prog X.w X.K X.mg X.base pa.T (L2.CX X.prog X.w) k f fd ps (spM X.K n FM)) (gd : Gd k X.prog X.base X.A) (hr : Room k X.A) (tk : Takes X W) (hg : Gl X x) (hm : X.mg x = some (.ref f)) (hk : PySem.W.keepIn X.K (.ref f) = true)
    (hb : Binds X.K fd ps us) (hd : Vals dvs us) (hdf : ∀ ms H, RepL X.K ms H dvs dfl) (ha : RA X pa W (e :: es) m) (hdb : (x == ("__debug__" : Str)) = false := by decide) (he : starEach (e :: es) X.env = (false, eval e X.env) :: starEach es X.env := by rfl)
    (hpl : (backTo pos (starEach es X.env)).any (·.1) = false := by rfl) : RM X pa W (.Call (.Name x p) (e :: es) [] pos) (bnd m (callMN n FM dfl)) :=
  ⟨(pe_callG hF gd hr hg hm hk hb hd (fun σ => passAt tk σ) ha.pa hdb he hpl).imp fun σ H Q ⟨ms, os, g, r, z⟩ => Ea.step (P := fun H1 => Nm X.K pa ms os σ H1 Q) r z (fun _ _ _ q k => q.later k) fun vs xs H1 g1 r1 k1 rep o => callMN_ok r1 rep hdf o⟩
end
/-- a new object as a value -/
def moD (m : Mo) : M D := match m.dat with
  | some d => ret d
  | none => bad
theorem re_rm {m : M Mo} (h : RM X pa W e m) : RE X pa W e (bnd m moD) :=
  ⟨h.pe.imp fun σ H Q ⟨ms, os, g, r, z⟩ => ⟨ms, os, g, r, z.bnd.mono (fun m g1 o p H' hp r1 k hm => by
    unfold moD at o
    cases hd : m.dat with
    | none => rw [hd] at o; exact o.elim
    | some d =>
      rw [hd] at o
      exact o _ H' (r1.less (fun a q => .inl q) r.sub) k (new_val r hp hm hd)) fun _ _ q => q⟩⟩
/-- a new list as a new object -/
theorem rm_rn {m : M (List D)} (h : RN X pa W e m) : RM X pa W e (bnd m fun xs => ret (.ls xs)) :=
  ⟨h.pe.imp fun σ H Q ⟨ms, os, g, r, z⟩ => ⟨ms, os, g, r, z.bnd.mono (fun xs g1 o p vs H' hp e r1 k rep => o p H' hp r1 k ⟨vs, e, rep⟩) fun _ _ q => q⟩⟩
section
variable {x : Str}
/-! built-in functions and types -/
def apL {α : Type} (f : List D → Option α) (xs : List Op) : M α := fun g => match resL g xs with
  | some ds => opt (f ds) g
  | none => .bad
/-- what a built-in call is to do on data; RepB of each argument -/
def OpN (K : PySem.W.Frag) (r : List V → Hp → VK → Prop) (f : List D → Option D) : Prop := ∀ (ms os : Addr → Prop) (H : Hp) (Q : VK) (vs : List V) (xs : List D) (z : D), (∀ a, os a → ms a) → (∀ a, ms a → H a ≠ none) → Paired (RepB K ms os H) vs xs → f xs = some z →
  (∀ u H', Kp NoW H H' → Rep K ms H' u z → Q u H') → r vs H Q
theorem resB : ∀ {xs : List Op} {vs : List V} {ds : List D}, Rl K pa ms os σ H g → Paired (RepO K ms σ H) vs xs → resL g xs = some ds → Paired (RepB K ms os H) vs ds
  | [], _, _, _, .nil, e => by cases e; exact .nil
  | x :: r, _, _, rl, .cons a l, e => by
    unfold resL at e
    cases h : res g x with
    | none => rw [h] at e; cases e
    | some d =>
      cases h2 : resL g r with
      | none => rw [h, h2] at e; cases e
      | some ds => rw [h, h2] at e; cases e; exact .cons (a.res rl h) (resB rl l h2)
theorem builtin_run {r : List V → Hp → VK → Prop} {F : List D → Option D} (hF : OpN K r F) {m : M (List Op)} {Q : VK} (rl : Rl K pa ms os σ H g) (z : Out (bnd m (apL F) g) (Vw K pa ms os σ H Q) (Xw K pa W ms os σ H)) : Ea K pa W m σ H fun vs H1 => r vs H1 Q :=
  Ea.step (P := fun H1 => Vw K pa ms os σ H1 Q) rl z (fun _ _ _ q k => q.later k) fun vs xs H1 g1 r1 k1 rep o => by
    unfold apL at o
    cases e1 : resL g1 xs with
    | none => rw [e1] at o; exact o.elim
    | some ds =>
      rw [e1] at o
      obtain ⟨y, e2, o⟩ := Out.opt o
      exact hF ms os H1 Q vs ds y r1.sub r1.dom (resB r1 rep e1) e2 fun u H' k rp => o u H' (r1.kp k) k.now rp
theorem re_callB {id : String} {r : List V → Hp → VK → Prop} {F : List D → Option D} {m : M (List Op)} (hc : CallR X (.builtin id) r) (hF : OpN X.K r F) (hg : Gl X x) (hm : X.mg x = none) (hv : bootBuiltins x = some (.builtin id)) (ha : RA X pa W (e :: es) m) (hn : x ≠ "__name__" := by decide) (hdb : (x == ("__debug__" : Str)) = false := by decide)
    (he : starEach (e :: es) X.env = (false, eval e X.env) :: starEach es X.env := by rfl) (hpl : (backTo pos (starEach es X.env)).any (·.1) = false := by rfl) : RE X pa W (.Call (.Name x p) (e :: es) [] pos) (bnd m (apL F)) :=
  ⟨(pe_callB hc hg hm hv ha.pa hn hdb he hpl).imp fun σ H Q ⟨ms, os, g, r, z⟩ => builtin_run hF r z⟩
theorem re_callTy {id : String} {r : List V → Hp → VK → Prop} {F : List D → Option D} {m : M (List Op)} (hc : CallR X (.type id) r) (hF : OpN X.K r F) (hg : Gl X x) (hm : X.mg x = none) (hv : bootBuiltins x = some (.type id)) (ha : RA X pa W (e :: es) m) (hn : x ≠ "__name__" := by decide) (hdb : (x == ("__debug__" : Str)) = false := by decide)
    (he : starEach (e :: es) X.env = (false, eval e X.env) :: starEach es X.env := by rfl) (hpl : (backTo pos (starEach es X.env)).any (·.1) = false := by rfl) : RE X pa W (.Call (.Name x p) (e :: es) [] pos) (bnd m (apL F)) :=
  ⟨(pe_callTy hc hg hm hv ha.pa hn hdb he hpl).imp fun σ H Q ⟨ms, os, g, r, z⟩ => builtin_run hF r z⟩
theorem re_un {op : UnaryOp} {r : V → Hp → VK → Prop} {F : D → Option D} {m : M Op} (ho : UnR X (unaryOp op) r) (hF : OpN X.K (fun vs H Q => ∃ v, vs = [v] ∧ r v H Q) (fun ds => match ds with | [d] => F d | _ => none)) (ha : RO X pa W e m) : RE X pa W (.UnaryOp op e pos) (e1 m (f1 F)) :=
  ⟨(pe_un ho ha.pe).imp fun σ H Q ⟨ms, os, g, rl, z⟩ => step1 (P := fun H1 => Vw X.K pa ms os σ H1 Q) rl z (fun _ _ _ _ q k => q.later k) fun v d H1 g1 r1 q1 o => by
    obtain ⟨y, e, o⟩ := o.opt
    obtain ⟨w, hw, q⟩ := hF ms os H1 Q [v] [d] y r1.sub r1.dom (.cons q1 .nil) e fun u H' k rp => o u H' (r1.kp k) k.now rp
    cases hw
    exact q⟩
end
end
end Mir

namespace Mir
open PySem L2
inductive Ro where
  | nx (g : En) | rt (s : Sl) (g : En) | bk (g : En) | ct (g : En) | ex (x : Xn) (g : En) | bad
abbrev Ms := En → Ro
structure Ks (ms os : Addr → Prop) (H : Hp) (ms' os' : Addr → Prop) (H' : Hp) : Prop where
  kp : Kp os H H'
  up : ∀ a, ms a → ms' a ∨ os a ∨ H a = none
  og : ∀ a, os' a → os a ∨ H a = none
  mg : ∀ a, ms' a → ms a ∨ H a = none
theorem Ks.trans {ms os ms1 os1 ms2 os2 : Addr → Prop} {H H1 H2 : Hp} (a : Ks ms os H ms1 os1 H1) (b : Ks ms1 os1 H1 ms2 os2 H2) : Ks ms os H ms2 os2 H2 :=
  ⟨a.kp.fresh b.kp a.og, fun p q => (a.up p q).elim (fun q => (b.up p q).elim .inl fun z => .inr (z.elim (a.og p) fun e => .inr (a.kp.no p e))) .inr, fun p q => (b.og p q).elim (a.og p) fun e => .inr (a.kp.no p e), fun p q => (b.mg p q).elim (a.mg p) fun e => .inr (a.kp.no p e)⟩
theorem Ks.same {ms os : Addr → Prop} {H H1 : Hp} (k : Kp os H H1) : Ks ms os H ms os H1 := ⟨k, fun _ q => .inl q, fun _ q => .inl q, fun _ q => .inl q⟩
def RepS (K : PySem.W.Frag) (pa : Pa) (ms os : Addr → Prop) (H : Hp) (v : V) : Sl → Prop
  | .va d => Rep K ms H v d
  | .ow m => ∃ p, v = .ref p ∧ os p ∧ MRep K ms H p m ∧ ∀ i, pa i ≠ some p
  | _ => False
def Fin (K : PySem.W.Frag) (pa : Pa) (W : WX) (D : Ends) (ms os : Addr → Prop) (H : Hp) : Ro → Prop
  | .nx g => ∀ ms' os' σ' H', Rl K pa ms' os' σ' H' g → Ks ms os H ms' os' H' → D.nx σ' H'
  | .bk g => ∀ ms' os' σ' H', Rl K pa ms' os' σ' H' g → Ks ms os H ms' os' H' → D.bk σ' H'
  | .ct g => ∀ ms' os' σ' H', Rl K pa ms' os' σ' H' g → Ks ms os H ms' os' H' → D.ct σ' H'
  | .rt s g => ∀ ms' os' σ' H' v, Rl K pa ms' os' σ' H' g → Ks ms os H ms' os' H' → RepS K pa ms' os' H' v s → D.rt v H'
  | .ex x g => ∀ ms' os' σ' H' c dx, Rl K pa ms' os' σ' H' g → Ks ms os H ms' os' H' → XRep K ms' H' x c dx → W c dx σ' H'
  | .bad => False
def Sx (K : PySem.W.Frag) (pa : Pa) (W : WX) (m : Ms) : TS := fun D σ H => ∃ ms os g, Rl K pa ms os σ H g ∧ Fin K pa W D ms os H (m g)
structure RS (X : Cx) (pa : Pa) (W : WX) (st : Stmt) (m : Ms) : Prop where
  ps : PS X st (Sx X.K pa W m)
structure RSs (X : Cx) (pa : Pa) (W : WX) (st : List Stmt) (m : Ms) : Prop where
  ps : PSs X st (Sx X.K pa W m)
/-- from an expression on -/
def thenE {α : Type} (m : M α) (f : α → En → Ro) : Ms := fun g => match m g with
  | .ok a g' => f a g'
  | .ex x g' => .ex x g'
  | .bad => .bad
section
variable {X : Cx} {K : PySem.W.Frag} {pa : Pa} {W : WX} {ms ms' os os' ms1 os1 : Addr → Prop} {σ : L2.St} {H H' H1 : Hp} {g : En} {pos p : Pos} {e : Expr} {es : List Expr} {Z : Ends}
theorem Fin.later {r : Ro} (h : Fin K pa W Z ms os H r) (k : Ks ms os H ms1 os1 H1) : Fin K pa W Z ms1 os1 H1 r := by
  cases r with
  | nx g => exact fun ms' os' σ' H' rl k' => h ms' os' σ' H' rl (k.trans k')
  | bk g => exact fun ms' os' σ' H' rl k' => h ms' os' σ' H' rl (k.trans k')
  | ct g => exact fun ms' os' σ' H' rl k' => h ms' os' σ' H' rl (k.trans k')
  | rt s g => exact fun ms' os' σ' H' v rl k' => h ms' os' σ' H' v rl (k.trans k')
  | ex x g => exact fun ms' os' σ' H' c dx rl k' => h ms' os' σ' H' c dx rl (k.trans k')
  | bad => exact h
theorem thenE.out {α : Type} {m : M α} {f : α → En → Ro} (h : Fin K pa W Z ms os H (thenE m f g)) : Out (m g) (fun a g' => Fin K pa W Z ms os H (f a g')) (Xw K pa W ms os σ H) := by
  unfold thenE at h
  cases e : m g with
  | ok a g' => rw [e] at h; exact h
  | ex x g' => rw [e] at h; exact fun c dx H' rl k xr => h ms os σ H' c dx rl (.same k) xr
  | bad => rw [e] at h; exact h
def sQ (a b : Ms) : Ms := fun g => match a g with
  | .nx g' => b g'
  | o => o
def sNil : Ms := fun g => .nx g
variable {st : Stmt} {sts : List Stmt} {a b : Ms}
theorem rss_nil : RSs X pa W [] sNil := ⟨pss_nil.imp fun D σ H ⟨ms, os, g, r, z⟩ => z ms os σ H r (.same .refl)⟩
theorem rss_one (h : RS X pa W st a) : RSs X pa W [st] a := ⟨pss_one h.ps⟩
theorem rss_cons (h : RS X pa W st a) (t : RSs X pa W sts b) : RSs X pa W (st :: sts) (sQ a b) :=
  ⟨(pss_cons h.ps t.ps).imp fun D σ H ⟨ms, os, g, r, z⟩ => ⟨ms, os, g, r, by
    unfold sQ at z
    cases e : a g with
    | nx g1 => rw [e] at z; exact fun ms1 os1 σ1 H1 r1 k1 => ⟨ms1, os1, g1, r1, z.later k1⟩
    | rt s g1 => rw [e] at z; exact z
    | bk g1 => rw [e] at z; exact z
    | ct g1 => rw [e] at z; exact z
    | ex x g1 => rw [e] at z; exact z
    | bad => rw [e] at z; exact z⟩⟩
def sPass : Ms := fun g => .nx g
def sBrk : Ms := fun g => .bk g
def sCnt : Ms := fun g => .ct g
def sBad : Ms := fun _ => .bad
theorem rs_pass : RS X pa W (.Pass pos) sPass := ⟨ps_pass.imp fun D σ H ⟨ms, os, g, r, z⟩ => z ms os σ H r (.same .refl)⟩
theorem rs_break : RS X pa W (.Break pos) sBrk := ⟨ps_break.imp fun D σ H ⟨ms, os, g, r, z⟩ => z ms os σ H r (.same .refl)⟩
theorem rs_continue : RS X pa W (.Continue pos) sCnt := ⟨ps_continue.imp fun D σ H ⟨ms, os, g, r, z⟩ => z ms os σ H r (.same .refl)⟩
theorem rs_bad : RS X pa W st sBad := ⟨ps_never.imp fun D σ H ⟨ms, os, g, r, z⟩ => z.elim⟩
/-- an expression, its value dropped -/
def sExp {α : Type} (m : M α) : Ms := thenE m fun _ g => .nx g
theorem rs_exp {m : M D} (h : RE X pa W e m) (hs : swapsWith e none pos.line X.env = pure false := by rfl) : RS X pa W (.Expr e pos) (sExp m) :=
  ⟨(ps_expr h.pe hs).imp fun D σ H ⟨ms, os, g, r, z⟩ => ⟨ms, os, g, r, (thenE.out z).mono (fun d g1 q v H1 r1 k1 rep => q ms os σ H1 r1 (.same k1)) fun _ _ q => q⟩⟩
def sRet (m : M Op) : Ms := thenE m fun x g => match x with
  | .d d => .rt (.va d) g
  | .o i => match gt g i with
    | .ow mo => .rt (.ow mo) g
    | _ => .bad
theorem rs_ret {m : M Op} (h : RO X pa W e m) : RS X pa W (.Return (some e) pos) (sRet m) :=
  ⟨(ps_ret h.pe).imp fun D σ H ⟨ms, os, g, r, z⟩ => ⟨ms, os, g, r, (thenE.out z).mono (fun x g1 q v H1 r1 k1 rep => by
    cases x with
    | d d => exact q ms os σ H1 v r1 (.same k1) rep
    | o i =>
      simp only at q
      cases e1 : gt g1 i with
      | ow mo =>
        rw [e1] at q
        obtain ⟨p, h1, h2, h3⟩ := r1.mo i mo (by rw [e1]; rfl)
        have rep : σ[i]? = some (some v) := rep
        rw [h1] at rep; cases rep
        refine q ms os σ H1 _ r1 (.same k1) ⟨p, rfl, h2, h3, fun j hj => ?_⟩
        obtain ⟨m2, h4, h5⟩ := r1.pk j p hj
        have := r1.ap i j mo m2 p (by rw [e1]; rfl) (by rw [h4]; rfl) h1 h5
        subst this
        rw [e1] at h4; cases h4
      | no => rw [e1] at q; exact q.elim
      | va d => rw [e1] at q; exact q.elim
      | gh d => rw [e1] at q; exact q.elim
      | er d => rw [e1] at q; exact q.elim
      | pm mo => rw [e1] at q; exact q.elim) fun _ _ q => q⟩⟩
/-- a new object handed back -/
def sRetW (m : M Mo) : Ms := thenE m fun o g => .rt (.ow o) g
theorem rs_retW {m : M Mo} (h : RM X pa W e m) : RS X pa W (.Return (some e) pos) (sRetW m) :=
  ⟨(ps_ret h.pe).imp fun D σ H ⟨ms, os, g, r, z⟩ => ⟨ms, os, g, r, (thenE.out z).mono (fun o g1 q p H1 hp r1 k1 hm => by
    have nos : ¬ os p := fun o => r.dom p (r.sub p o) hp
    have r2 : Rl X.K pa (plus ms p) (plus os p) σ H1 g1 := ⟨r1.va, fun i m e => let ⟨a, h1, h2, h3⟩ := r1.mo i m e; ⟨a, h1, .inl h2, h3⟩, r1.ap, r1.pm, r1.pk, r1.len, fun a z => z.elim (fun z => r1.sub a z) fun z => .inr z, r1.dom, r1.lk, r1.tb, r1.er⟩
    refine q (plus ms p) (plus os p) σ H1 _ r2 ⟨k1, fun a z => .inl (.inl z), fun a z => z.imp id fun z => by rw [z]; exact hp, fun a z => z.imp id fun z => by rw [z]; exact hp⟩ ⟨p, rfl, .inr rfl, hm, fun i hi => ?_⟩
    obtain ⟨m, h1, h2⟩ := r1.pk i p hi
    obtain ⟨a, h3, h4, _⟩ := r1.mo i m (by rw [h1]; rfl)
    rw [h2] at h3; cases h3
    exact nos h4) fun _ _ q => q⟩⟩
def sRetN : Ms := fun g => .rt (.va .non) g
theorem rs_retN : RS X pa W (.Return none pos) sRetN := ⟨ps_retN.imp fun D σ H ⟨ms, os, g, r, z⟩ => z ms os σ H .non r (.same .refl) .non⟩
def sIf (c : M Bool) (a b : Ms) : Ms := thenE c fun k g => match k with
  | true => a g
  | false => b g
theorem rs_if {c : Expr} {s1 s2 : List Stmt} {m : M Bool} (hc : RT X pa W c m) (ha : RSs X pa W s1 a) (hb : RSs X pa W s2 b) : RS X pa W (.If c s1 s2 pos) (sIf m a b) :=
  ⟨(ps_if hc.pt ha.ps hb.ps).imp fun D σ H ⟨ms, os, g, r, z⟩ => ⟨ms, os, g, r, (thenE.out z).mono (fun k g1 q H1 r1 k1 => by
    cases k with
    | true => rw [if_pos rfl]; exact ⟨ms, os, g1, r1, Fin.later q (.same k1)⟩
    | false => rw [if_neg (by decide)]; exact ⟨ms, os, g1, r1, Fin.later q (.same k1)⟩) fun _ _ q => q⟩⟩
/-! targets -/
abbrev Tg := D → En → Option En
/-- off the slots at is nothing changes -/
def Off (is : List Nat) (σ σ' : L2.St) : Prop := σ'.length = σ.length ∧ ∀ j, j ∉ is → σ'[j]? = σ[j]?
def Gx (K : PySem.W.Frag) (pa : Pa) (is : List Nat) (t : Tg) : TG := fun v σ H Q => ∃ ms os g d g', Rl K pa ms os σ H g ∧ Rep K ms H v d ∧ t d g = some g' ∧ ∀ σ' H', Off is σ σ' → Rl K pa ms os σ' H' g' → Kp os H H' → Q σ' H'
def Gxs (K : PySem.W.Frag) (pa : Pa) (is : List Nat) (t : List D → En → Option En) : TGs := fun vs σ H Q => ∃ ms os g d g', Rl K pa ms os σ H g ∧ RepL K ms H vs d ∧ t d g = some g' ∧ ∀ σ' H', Off is σ σ' → Rl K pa ms os σ' H' g' → Kp os H H' → Q σ' H'
structure RG (X : Cx) (pa : Pa) (tg : Expr) (is : List Nat) (t : Tg) : Prop where
  pg : PG X tg (Gx X.K pa is t)
structure RGs (X : Cx) (pa : Pa) (tg : List Expr) (is : List Nat) (t : List D → En → Option En) : Prop where
  pg : PGs X tg (Gxs X.K pa is t)
theorem Off.refl {is : List Nat} {σ : L2.St} : Off is σ σ := ⟨rfl, fun _ _ => rfl⟩
theorem Off.trans {is js : List Nat} {σ σ1 σ2 : L2.St} (a : Off is σ σ1) (b : Off js σ1 σ2) : Off (is ++ js) σ σ2 := ⟨b.1.trans a.1, fun j h => (b.2 j fun q => h (List.mem_append_right _ q)).trans (a.2 j fun q => h (List.mem_append_left _ q))⟩
theorem Off.set {i : Nat} {σ : L2.St} {v : Option V} : Off [i] σ (σ.set i v) := ⟨List.length_set, fun j h => List.getElem?_set_ne fun e => h (by rw [e]; exact List.mem_singleton.mpr rfl)⟩
theorem _root_.L2.PGs.imp {X : Cx} {e : List Expr} {t t' : TGs} (h : PGs X e t) (q : ∀ v σ H Q, t' v σ H Q → t v σ H Q) : PGs X e t' := ⟨fun pins s σ H v u Q I r z => h.run pins s σ H v u Q I r (q v σ H Q z)⟩
def setV (g : En) (i : Nat) (d : D) : Option En := match gt g i with
  | .pm _ => none
  | .gh _ => none
  | _ => some (g.set i (.va d))
def tName (i : Nat) : Tg := fun d g => setV g i d
theorem set_get {α : Type} {l : List α} {i j : Nat} {x : α} (h : i ≠ j) : (l.set i x)[j]? = l[j]? := List.getElem?_set_ne h
theorem Rl.setV {i : Nat} {d : D} {v : V} {g' : En} (r : Rl K pa ms os σ H g) (h : setV g i d = some g') (rep : Rep K ms H v d) : Rl K pa ms os (σ.set i (some v)) H g' := by
  unfold Mir.setV at h
  have np : ∀ m, gt g i ≠ .pm m := fun m e => by rw [e] at h; cases h
  have ng : ∀ m, gt g i ≠ .gh m := fun m e => by rw [e] at h; cases h
  have hg' : g' = g.set i (.va d) := by
    cases e : gt g i with
    | pm m => exact absurd e (np m)
    | gh m => exact absurd e (ng m)
    | no => rw [e] at h; cases h; rfl
    | va d => rw [e] at h; cases h; rfl
    | ow d => rw [e] at h; cases h; rfl
    | er d => rw [e] at h; cases h; rfl
  subst hg'
  have key : ∀ j, gt (g.set i (.va d)) j = if i = j ∧ i < g.length then .va d else gt g j := fun j => gt_set
  have mo : ∀ j m, (gt (g.set i (.va d)) j).mo = some m → i ≠ j ∧ (gt g j).mo = some m := fun j m e => by
    rw [key] at e
    by_cases h : i = j ∧ i < g.length
    · rw [if_pos h] at e; cases e
    · rw [if_neg h] at e
      refine ⟨fun z => ?_, e⟩
      subst z
      exact h ⟨rfl, gt_len fun z => by rw [z] at e; cases e⟩
  refine ⟨fun j d' e => ?_, fun j m e => ?_, fun j l m m' q e1 e2 e3 e4 => ?_, fun j m q e1 e2 => ?_, fun j q e => ?_, ?_, r.sub, r.dom, fun j m l k m2 e1 e2 e3 => ?_, r.tb, fun j fs e => ?_⟩
  · rw [key] at e
    by_cases h : i = j ∧ i < g.length
    · rw [if_pos h] at e; cases e
      obtain ⟨rfl, hl⟩ := h
      exact ⟨v, List.getElem?_set_self (Nat.lt_of_lt_of_le hl r.len), rep⟩
    · rw [if_neg h] at e
      have hij : i ≠ j := fun z => by
        subst z
        exact h ⟨rfl, gt_len fun z => by rw [z] at e; cases e⟩
      rw [set_get hij]
      exact r.va j d' e
  · obtain ⟨h1, h2⟩ := mo j m e
    rw [set_get h1]
    exact r.mo j m h2
  · obtain ⟨h1, h2⟩ := mo j m e1
    obtain ⟨h3, h4⟩ := mo l m' e2
    rw [set_get h1] at e3
    rw [set_get h3] at e4
    exact r.ap j l m m' q h2 h4 e3 e4
  · obtain ⟨h1, h2⟩ := mo j m (by rw [e1]; rfl)
    rw [set_get h1] at e2
    have e1' : gt g j = .pm m := by rw [key, if_neg (fun z => h1 z.1)] at e1; exact e1
    exact r.pm j m q e1' e2
  · obtain ⟨m, h1, h2⟩ := r.pk j q e
    have hij : i ≠ j := fun z => by subst z; exact np m h1
    exact ⟨m, by rw [key, if_neg (fun z => hij z.1)]; exact h1, by rw [set_get hij]; exact h2⟩
  · rw [List.length_set, List.length_set]; exact r.len
  · obtain ⟨h1, h2⟩ := mo j m e1
    have hik : i ≠ k := fun z => by
      subst z
      rw [key] at e3
      by_cases h : i = i ∧ i < g.length
      · rw [if_pos h] at e3; cases e3
      · rw [if_neg h] at e3; exact ng _ e3
    rw [key, if_neg (fun z => hik z.1)] at e3
    obtain ⟨p, q, f1, f2, f3⟩ := r.lk j m l k m2 h2 e2 e3
    exact ⟨p, q, by rw [set_get h1]; exact f1, f2, by rw [set_get hik]; exact f3⟩
  · rw [key] at e
    by_cases h : i = j ∧ i < g.length
    · rw [if_pos h] at e; cases e
    · rw [if_neg h] at e
      have hij : i ≠ j := fun z => by
        subst z
        exact h ⟨rfl, gt_len fun z => by rw [z] at e; cases e⟩
      obtain ⟨a, h1, h2⟩ := r.er j fs e
      exact ⟨a, by rw [set_get hij]; exact h1, h2⟩
theorem rg_name {i : Nat} {x : Str} (hN : X.N.Nodup) (hi : X.N[i]? = some x) (hx : Loc X.env.scope x) (hf : X.fn x = true ∨ X.env.scope.names.lookup x = some .local := by first | exact .inl rfl | exact .inr rfl | assumption) : RG X pa (.Name x pos) [i] (tName i) :=
  ⟨(pg_name hN hi hx hf).imp fun v σ H Q ⟨ms, os, g, d, g', r, rep, e, q⟩ => q _ H .set (r.setV e rep) .refl⟩
def tNil : List D → En → Option En
  | [], g => some g
  | _ :: _, _ => none
def tCons (t : Tg) (u : List D → En → Option En) : List D → En → Option En
  | d :: ds, g => (t d g).bind (u ds)
  | [], _ => none
theorem rgs_nil : RGs X pa [] [] tNil := ⟨pgs_nil.imp fun v σ H Q ⟨ms, os, g, d, g', r, rep, e, q⟩ => by
  cases rep with
  | nil => cases e; exact ⟨rfl, q σ H .refl r .refl⟩
  | cons a l => cases e⟩
theorem rgs_cons {is js : List Nat} {t : Tg} {u : List D → En → Option En} (h1 : RG X pa e is t) (h2 : RGs X pa es js u) (hs : (assignEach (e :: es) X.env).map (·.2) = assign e X.env :: (assignEach es X.env).map (·.2) := by rfl) : RGs X pa (e :: es) (is ++ js) (tCons t u) :=
  ⟨(pgs_cons h1.pg h2.pg hs).imp fun v σ H Q ⟨ms, os, g, d, g', r, rep, e, q⟩ => by
    cases rep with
    | nil => cases e
    | @cons v d vs ds a l =>
      obtain ⟨g1, e1, e2⟩ := Option.bind_eq_some_iff.mp e
      exact ⟨v, vs, rfl, ms, os, g, d, g1, r, a, e1, fun σ1 H1 f1 r1 k1 => ⟨ms, os, g1, ds, g', r1, l.keep k1 r1.sub, e2, fun σ2 H2 f2 r2 k2 => q σ2 H2 (f1.trans f2) r2 (k1.trans k2)⟩⟩⟩
def tTup (n : Nat) (u : List D → En → Option En) : Tg := fun d g => match d with
  | .tup ds => if ds.length = n then u ds g else none
  | .lst ds => if ds.length = n then u ds g else none
  | _ => none
def gBoth (K : PySem.W.Frag) (n : Nat) (t : TGs) : TG := fun v σ H Q => gTup K n t v σ H Q ∨ gUnl K n t v σ H Q
theorem pg_both {k n : Nat} {t : TGs} (hc : X.calm = true) (h : PGs X es t) (hn : (assignEach es X.env).length = n) (hst : (assignEach es X.env).findIdx? (·.1) = none) : PG X (.Tuple es k pos) (gBoth X.K n t) :=
  ⟨fun pins s σ H v u Q I r hw => hw.elim (fun z => (pg_tup hc h hn hst).run pins s σ H v u Q I r z) fun z => (pg_unl hc h hn hst).run pins s σ H v u Q I r z⟩
theorem rg_tup {k n : Nat} {is : List Nat} {u : List D → En → Option En} (hc : X.calm = true) (h : RGs X pa es is u) (hn : (assignEach es X.env).length = n := by rfl) (hst : (assignEach es X.env).findIdx? (·.1) = none := by rfl) : RG X pa (.Tuple es k pos) is (tTup n u) :=
  ⟨(pg_both hc h.pg hn hst).imp fun v σ H Q ⟨ms, os, g, d, g', r, rep, e, q⟩ => by
    unfold tTup at e
    split at e
    · split at e
      · rename_i ds hl
        cases rep with
        | tup s l => exact .inl ⟨_, _, rfl, s, by rw [l.length]; exact hl, ms, os, g, ds, g', r, l, e, q⟩
      · cases e
    · split at e
      · rename_i ds hl
        cases rep with
        | lst n s l => exact .inr ⟨_, _, rfl, SqL.of s, by rw [l.length]; exact hl, ms, os, g, ds, g', r, l, e, q⟩
      · cases e
    · cases e⟩
def sAsg (m : M D) (t : Tg) : Ms := thenE m fun d g => match t d g with
  | some g' => .nx g'
  | none => .bad
theorem rs_asg {tg : Expr} {is : List Nat} {m : M D} {t : Tg} (he : RE X pa W e m) (hg : RG X pa tg is t) (hs : swapsWithSole [tg] e pos.line X.env = pure false := by rfl) (hw : swappedStores [tg] e X.env = pure none := by rfl)
    (h1 : (assignEach [tg] X.env).map (·.2) = [assign tg X.env] := by rfl) : RS X pa W (.Assign [tg] e pos) (sAsg m t) :=
  ⟨(ps_asg he.pe hg.pg hs hw h1).imp fun D σ H ⟨ms, os, g, r, z⟩ => ⟨ms, os, g, r, (thenE.out z).mono (fun d g1 q v H1 r1 k1 rep => by
    cases e1 : t d g1 with
    | none => simp only [e1] at q; exact q.elim
    | some g2 =>
      simp only [e1] at q
      exact ⟨ms, os, g1, d, g2, r1, rep, e1, fun σ2 H2 f2 r2 k2 => q ms os σ2 H2 r2 (.same (k1.trans k2))⟩) fun _ _ q => q⟩⟩
end
end Mir

namespace Mir
open PySem L2
section
variable {X : Cx} {K : PySem.W.Frag} {pa : Pa} {W : WX} {ms ms' os os' ms1 os1 : Addr → Prop} {σ : L2.St} {H H' H1 : Hp} {g : En} {pos p : Pos} {e : Expr} {es : List Expr} {Z : Ends}
/-! own objects -/
def setO (g : En) (i : Nat) (m : Mo) : Option En := match gt g i with
  | .pm _ => none
  | .gh _ => none
  | _ => some (g.set i (.ow m))
theorem Rl.setO {i : Nat} {q : Addr} {m : Mo} {g' : En} (r : Rl K pa (plus ms q) os σ H g) (h : setO g i m = some g') (hq : ¬ os q) (hi : i < g.length) (rep : MRep K (plus ms q) H q m) (hl : m.nolk = true) : Rl K pa (plus ms q) (plus os q) (σ.set i (some (.ref q))) H g' := by
  unfold Mir.setO at h
  have np : ∀ m, gt g i ≠ .pm m := fun m e => by rw [e] at h; cases h
  have ng : ∀ m, gt g i ≠ .gh m := fun m e => by rw [e] at h; cases h
  have hg' : g' = g.set i (.ow m) := by
    cases e : gt g i with
    | pm m => exact absurd e (np m)
    | gh m => exact absurd e (ng m)
    | no => rw [e] at h; cases h; rfl
    | va d => rw [e] at h; cases h; rfl
    | ow d => rw [e] at h; cases h; rfl
    | er d => rw [e] at h; cases h; rfl
  subst hg'
  have key : ∀ j, gt (g.set i (.ow m)) j = if i = j then .ow m else gt g j := fun j => by
    rw [gt_set]
    by_cases h : i = j
    · rw [if_pos ⟨h, hi⟩, if_pos h]
    · rw [if_neg (fun z => h z.1), if_neg h]
  have hs : i < σ.length := Nat.lt_of_lt_of_le hi r.len
  have old : ∀ j m2, i ≠ j → (gt (g.set i (.ow m)) j).mo = some m2 → (gt g j).mo = some m2 := fun j m2 n e => by rw [key, if_neg n] at e; exact e
  refine ⟨fun j d e => ?_, fun j m2 e => ?_, fun j l m2 m3 a e1 e2 e3 e4 => ?_, fun j m2 a e1 e2 => ?_, fun j a e => ?_, ?_, ?_, r.dom, fun j m2 l k m3 e1 e2 e3 => ?_, r.tb, fun j fs e => ?_⟩
  · by_cases h : i = j
    · rw [key, if_pos h] at e; cases e
    · rw [key, if_neg h] at e
      rw [set_get h]
      exact r.va j d e
  · by_cases h : i = j
    · subst h
      rw [key, if_pos rfl] at e; cases e
      exact ⟨q, List.getElem?_set_self hs, .inr rfl, rep⟩
    · rw [set_get h]
      obtain ⟨a, h1, h2, h3⟩ := r.mo j m2 (old j m2 h e)
      exact ⟨a, h1, .inl h2, h3⟩
  · by_cases h : i = j
    · by_cases h2 : i = l
      · rw [← h, ← h2]
      · subst h
        rw [List.getElem?_set_self hs] at e3
        rw [set_get h2] at e4
        cases e3
        obtain ⟨a, f1, f2, f3⟩ := r.mo l m3 (old l m3 h2 e2)
        rw [e4] at f1; cases f1
        exact absurd f2 hq
    · by_cases h2 : i = l
      · subst h2
        rw [List.getElem?_set_self hs] at e4
        rw [set_get h] at e3
        cases e4
        obtain ⟨a, f1, f2, f3⟩ := r.mo j m2 (old j m2 h e1)
        rw [e3] at f1; cases f1
        exact absurd f2 hq
      · rw [set_get h] at e3
        rw [set_get h2] at e4
        exact r.ap j l m2 m3 a (old j m2 h e1) (old l m3 h2 e2) e3 e4
  · by_cases h : i = j
    · rw [key, if_pos h] at e1; cases e1
    · rw [key, if_neg h] at e1
      rw [set_get h] at e2
      exact r.pm j m2 a e1 e2
  · obtain ⟨m2, h1, h2⟩ := r.pk j a e
    have h : i ≠ j := fun z => by subst z; exact np m2 h1
    exact ⟨m2, by rw [key, if_neg h]; exact h1, by rw [set_get h]; exact h2⟩
  · rw [List.length_set, List.length_set]; exact r.len
  · exact fun a z => z.elim (fun z => r.sub a z) fun z => .inr z
  · have hik : i ≠ k := fun z => by
      subst z
      rw [key, if_pos rfl] at e3; cases e3
    rw [key, if_neg hik] at e3
    by_cases h : i = j
    · rw [key, if_pos h] at e1; cases e1
      rw [Mo.nolk_at hl] at e2; cases e2
    · obtain ⟨p, q', f1, f2, f3⟩ := r.lk j m2 l k m3 (old j m2 h e1) e2 e3
      exact ⟨p, q', by rw [set_get h]; exact f1, f2, by rw [set_get hik]; exact f3⟩
  · by_cases h : i = j
    · rw [key, if_pos h] at e; cases e
    · rw [key, if_neg h] at e
      obtain ⟨a, h1, h2⟩ := r.er j fs e
      exact ⟨a, by rw [set_get h]; exact h1, h2⟩
def sNew (i : Nat) (m : M Mo) : Ms := thenE m fun o g => if i < g.length && o.nolk then match setO g i o with
  | some g' => .nx g'
  | none => .bad
  else .bad
theorem new_fin {i : Nat} {m : M Mo} (r : Rl K pa ms os σ H g) (z : Fin K pa W Z ms os H (sNew i m g)) : Out (m g) (Nm K pa ms os σ H fun v H1 => Z.nx (σ.set i (some v)) H1) (Xw K pa W ms os σ H) :=
  (thenE.out z).mono (fun o g1 q p H1 hp r1 k1 hm => by
    by_cases hi : (i < g1.length && o.nolk) = true
    · rw [if_pos hi] at q
      obtain ⟨hi1, hi2⟩ := Bool.and_eq_true_iff.mp hi
      cases e1 : setO g1 i o with
      | none => rw [e1] at q; exact q.elim
      | some g2 =>
        rw [e1] at q
        have nos : ¬ os p := fun o => r.dom p (r.sub p o) hp
        exact q (plus ms p) (plus os p) _ H1 (r1.setO e1 nos (of_decide_eq_true hi1) hm hi2) ⟨k1, fun a z => .inl (.inl z), fun a z => z.imp id fun z => by rw [z]; exact hp, fun a z => z.imp id fun z => by rw [z]; exact hp⟩
    · rw [if_neg hi] at q
      exact q.elim) fun _ _ q => q
theorem rs_new {i : Nat} {x : Str} {m : M Mo} {pos' : Pos} (hN : X.N.Nodup) (hi : X.N[i]? = some x) (hx : Loc X.env.scope x) (he : RM X pa W e m) (hs : swapsWith e (some (.Name x pos')) pos.line X.env = pure false := by rfl)
    (hf : X.fn x = true ∨ X.env.scope.names.lookup x = some .local := by first | exact .inl rfl | exact .inr rfl | assumption) : RS X pa W (.Assign [.Name x pos'] e pos) (sNew i m) :=
  ⟨(ps_set hN hi hx he.pe hs hf).imp fun D σ H ⟨ms, os, g, r, z⟩ => ⟨ms, os, g, r, new_fin r z⟩⟩
def sApp (i : Nat) (m : M Op) : Ms := fun g => match (gt g i).mo with
  | some (.ls _) => thenE m (fun x g' => match x, (gt g' i).mo with
    | .d d, some (.ls xs) => if xs.length < 16777216 then .nx (setMo g' i (.ls (xs ++ [d]))) else .bad
    | _, _ => .bad) g
  | _ => .bad
theorem rs_app {i : Nat} {x : Str} {m : M Op} {apos cpos : Pos} (hN : X.N[i]? = some x) (hv : Vis X.env.scope x) (he : RO X pa W e m)
    (hst : starEach [e] X.env = (false, eval e X.env) :: starEach [] X.env := by rfl) (hd : (x == ("__debug__" : Str)) = false := by decide) (hcd : (x == ("__classdict__" : Str)) = false := by decide) (hbase : attributeBase (.Name x p) "append" X.env (eval (.Name x p) X.env) = eval (.Name x p) X.env := by rfl)
    (hfew : ((backTo cpos (starEach [e] X.env)).all (fun x => !x.1) && (backToKw cpos (keywordEach [] X.env)).all (fun x => x.1.isSome)
      && decide (([e] : List Expr).length + ([] : List Keyword).length + (if ([] : List Keyword).isEmpty then 0 else 1) < 30)) = true := by rfl)
    (hline : (apos.endLine == cpos.line) = true := by rfl) (hpl : (backTo cpos (starEach [] X.env)).any (·.1) = false := by rfl)
    (hs : swapsWith (.Call (.Attribute (.Name x p) "append" apos) [e] [] cpos) none pos.line X.env = pure false := by rfl) : RS X pa W (.Expr (.Call (.Attribute (.Name x p) "append" apos) [e] [] cpos) pos) (sApp i m) :=
  ⟨(ps_expr (pe_bm PySem.F.plainAttrs_list PySem.F.slot_list_append PySem.F.type_list_append mt_append (pe_var hN hv hd hcd) (pa_cons he.pe pa_nil hst) hbase hfew hline hst hpl) hs).imp fun D σ H ⟨ms, os, g, r, z⟩ => by
    unfold sApp at z
    cases e0 : (gt g i).mo with
    | none => rw [e0] at z; exact z.elim
    | some m0 =>
      rw [e0] at z
      obtain ⟨q, q1, q2, q3⟩ := r.mo i m0 e0
      cases m0 with
      | dc ks ds => exact z.elim
      | dt ks ds => exact z.elim
      | ob c ns fs => exact z.elim
      | th => exact z.elim
      | ls ys =>
        obtain ⟨ws, w1, w2⟩ := q3
        refine ⟨_, q1, .inl ⟨rfl, _, SqL.of w1⟩, ms, os, g, r, (thenE.out z).mono (fun y g1 o v H1 r1 k1 rep => ?_) fun _ _ q => q⟩
        cases y with
        | o j => exact o.elim
        | d d =>
          cases e1 : (gt g1 i).mo with
          | none => rw [e1] at o; exact o.elim
          | some m1 =>
            cases m1 with
            | dc ks ds => rw [e1] at o; exact o.elim
            | dt ks ds => rw [e1] at o; exact o.elim
            | ob c ns fs => rw [e1] at o; exact o.elim
            | th => rw [e1] at o; exact o.elim
            | ls xs =>
              rw [e1] at o
              obtain ⟨q', p1, p2, p3⟩ := r1.mo i _ e1
              rw [q1] at p1; cases p1
              obtain ⟨vs, v1, v2⟩ := p3
              by_cases hl : xs.length < 16777216
              · simp only [hl, if_true] at o
                have kk : Kp (fun a => a = q) H1 (upd H1 q (.lst (vs ++ [v]))) := .set v1 trivial rfl
                have wm : ∀ a, a = q → ms a := fun a e => by rw [e]; exact r1.sub q p2
                refine ⟨q, vs, v, rfl, rfl, v1, by rw [v2.length]; exact Nat.lt_of_lt_of_le hl (by decide), ?_⟩
                refine o ms os σ _ (r1.setMo e1 q1 kk ⟨_, upd_same, (v2.keep kk wm).append (.cons (Rep.keep rep kk wm) .nil)⟩ rfl) (.same (k1.trans (kk.weak fun a e => by rw [e]; exact p2)))
              · simp only [hl, if_false] at o
                exact o.elim⟩
def sSto (i : Nat) (mi mv : M Op) : Ms := thenE mv fun x g1 => match x with
  | .o _ => .bad
  | .d d => match (gt g1 i).mo with
    | none => .bad
    | some _ => thenE mi (fun y g2 => match y, (gt g2 i).mo with
      | .d (.int k), some (.ls xs) => match ixN xs.length k with
        | some j => .nx (setMo g2 i (.ls (xs.set j d)))
        | none => .bad
      | _, _ => .bad) g1
theorem rs_sto {i : Nat} {x : Str} {mi mv : M Op} {ix val : Expr} {tpos : Pos} (hN : X.N[i]? = some x) (hv : Vis X.env.scope x) (hi : RO X pa W ix mi) (he : RO X pa W val mv) (hd : (x == ("__debug__" : Str)) = false := by decide) (hcd : (x == ("__classdict__" : Str)) = false := by decide)
    (ha : ∀ v, assign (.Subscript (.Name x p) ix tpos) X.env v = (do
      let ov ← holding [v] (eval (.Name x p) X.env)
      let iv ← holding [v, ov] (eval ix X.env)
      standAt tpos
      holding [v, ov, iv] (setItem ov iv v)
      release [v, ov, iv] []) := by intro _; rfl)
    (hs : swapsWithSole [.Subscript (.Name x p) ix tpos] val pos.line X.env = pure false := by rfl) (hw : swappedStores [.Subscript (.Name x p) ix tpos] val X.env = pure none := by rfl)
    (h1 : (assignEach [.Subscript (.Name x p) ix tpos] X.env).map (·.2) = [assign (.Subscript (.Name x p) ix tpos) X.env] := by rfl) : RS X pa W (.Assign [.Subscript (.Name x p) ix tpos] val pos) (sSto i mi mv) :=
  ⟨(ps_asg he.pe (pg_sub (pe_var hN hv hd hcd) hi.pe set_list ha) hs hw h1).imp fun D σ H ⟨ms, os, g, r, z⟩ => ⟨ms, os, g, r, (thenE.out z).mono (fun x g1 o v H1 r1 k1 rep => by
    cases x with
    | o j => exact o.elim
    | d d =>
      simp only at o
      cases e0 : (gt g1 i).mo with
      | none => rw [e0] at o; exact o.elim
      | some m0 =>
        rw [e0] at o
        obtain ⟨q, q1, q2, q3⟩ := r1.mo i m0 e0
        refine ⟨_, q1, ms, os, g1, r1, (thenE.out (o.later (.same k1))).mono (fun y g2 o2 w H2 r2 k2 rep2 => ?_) fun _ _ q => q⟩
        cases y with
        | o j => exact o2.elim
        | d y =>
          cases e1 : (gt g2 i).mo with
          | none => rw [e1] at o2; cases y <;> exact o2.elim
          | some m1 =>
            cases m1 with
            | dc ks ds => rw [e1] at o2; cases y <;> exact o2.elim
            | dt ks ds => rw [e1] at o2; cases y <;> exact o2.elim
            | ob c ns fs => rw [e1] at o2; cases y <;> exact o2.elim
            | th => rw [e1] at o2; cases y <;> exact o2.elim
            | ls xs =>
              rw [e1] at o2
              cases y with
              | int k =>
                simp only at o2
                cases e2 : ixN xs.length k with
                | none => rw [e2] at o2; exact o2.elim
                | some j =>
                  rw [e2] at o2
                  obtain ⟨q', p1, p2, p3⟩ := r2.mo i _ e1
                  rw [q1] at p1; cases p1
                  obtain ⟨vs, v1, v2⟩ := p3
                  have kk : Kp (fun a => a = q) H2 (upd H2 q (.lst (vs.set j v))) := .set v1 trivial rfl
                  have wm : ∀ a, a = q → ms a := fun a e => by rw [e]; exact r2.sub q p2
                  have hw : w = .int k := by cases (show Rep X.K ms H2 w (.int k) from rep2); rfl
                  subst hw
                  refine ⟨q, vs, k, j, rfl, rfl, v1, by rw [v2.length]; exact e2, ?_⟩
                  exact o2 ms os σ _ (r2.setMo e1 q1 kk ⟨_, upd_same, (v2.keep kk wm).set j (Rep.keep (Rep.keep rep k2 r1.sub) kk wm)⟩ rfl) (.same (k2.trans (kk.weak fun a e => by rw [e]; exact p2)))
              | _ => exact o2.elim) fun _ _ q => q⟩⟩
/-! a, b = e1, e2 -/
def sPar (i j : Nat) (m : M (List Op)) : Ms := thenE m fun xs g => match vls xs with
  | some [a, b] => match setV g i a with
    | some g1 => match setV g1 j b with
      | some g2 => .nx g2
      | none => .bad
    | none => .bad
  | _ => .bad
theorem rs_par {i j : Nat} {x y : Str} {a b : Expr} {m : M (List Op)} {px py pt : Pos} {kt k2 pt2} (hc : X.calm = true) (hN : X.N.Nodup) (hi : X.N[i]? = some x) (hj : X.N[j]? = some y) (hij : i ≠ j)
    (hx : X.env.scope.names.lookup x = some .local) (hy : X.env.scope.names.lookup y = some .local) (ha : RA X pa W [a, b] m)
    (hw : swappedStores [.Tuple [.Name x px, .Name y py] kt pt] (.Tuple [a, b] k2 pt2) X.env = pure (some [x, y]))
    (hs : swapsWithSole [.Tuple [.Name x px, .Name y py] kt pt] (.Tuple [a, b] k2 pt2) pos.line X.env = pure false := by rfl) :
    RS X pa W (.Assign [.Tuple [.Name x px, .Name y py] kt pt] (.Tuple [a, b] k2 pt2) pos) (sPar i j m) :=
  ⟨(ps_par hc hN hi hj hij hx hy ha.pa hw hs).imp fun D σ H ⟨ms, os, g, r, z⟩ => ⟨ms, os, g, r, (thenE.out z).mono (fun xs g1 o vs H1 r1 k1 rep => by
    cases e : vls xs with
    | none => rw [e] at o; exact o.elim
    | some ds =>
      rw [e] at o
      have rl := vls_ok rep e
      match ds, rl, o with
      | [a, b], .cons ra (.cons rb .nil), o =>
        simp only at o
        cases e1 : setV g1 i a with
        | none => rw [e1] at o; exact o.elim
        | some g2 =>
          rw [e1] at o
          simp only at o
          cases e2 : setV g2 j b with
          | none => rw [e2] at o; exact o.elim
          | some g3 =>
            rw [e2] at o
            exact ⟨_, _, rfl, o ms os _ H1 ((r1.setV e1 ra).setV e2 rb) (.same k1)⟩) fun _ _ q => q⟩⟩
/-! while -/
def wh (c : M Bool) (b : Ms) : Nat → Ms
  | 0 => sBad
  | n + 1 => thenE c fun k g' => match k with
    | false => .nx g'
    | true => match b g' with
      | .nx g2 => wh c b n g2
      | .ct g2 => wh c b n g2
      | .bk g2 => .nx g2
      | o => o
open Classical in
noncomputable def sWh (c : M Bool) (b : Ms) : Ms := fun g => if h : ∃ n, wh c b n g ≠ .bad then wh c b (choose h) g else .bad
theorem wh_succ (c : M Bool) (b : Ms) : ∀ (n : Nat) (g : En), wh c b n g ≠ .bad → wh c b (n + 1) g = wh c b n g
  | 0, g, h => absurd rfl h
  | n + 1, g, h => by
    have ih := wh_succ c b n
    show thenE c _ g = thenE c _ g
    have h' : thenE c _ g ≠ .bad := h
    unfold thenE at h' ⊢
    cases e : c g with
    | ok k g1 =>
      rw [e] at h'
      cases k with
      | false => rfl
      | true =>
        simp only at h' ⊢
        cases e2 : b g1 with
        | nx g2 => rw [e2] at h'; exact ih g2 h'
        | ct g2 => rw [e2] at h'; exact ih g2 h'
        | bk g2 => rfl
        | rt s g2 => rfl
        | ex x g2 => rfl
        | bad => rfl
    | ex x g1 => rfl
    | bad => rfl
theorem wh_add (c : M Bool) (b : Ms) (g : En) (n : Nat) (h : wh c b n g ≠ .bad) : ∀ k, wh c b (n + k) g = wh c b n g
  | 0 => rfl
  | k + 1 => by
    have ih := wh_add c b g n h k
    rw [← ih]
    exact wh_succ c b (n + k) g (by rw [ih]; exact h)
theorem sWh_eq {c : M Bool} {b : Ms} {g : En} (n : Nat) (h : wh c b n g ≠ .bad) : sWh c b g = wh c b n g := by
  unfold sWh
  have hx : ∃ n, wh c b n g ≠ .bad := ⟨n, h⟩
  rw [dif_pos hx]
  have hc := Classical.choose_spec hx
  generalize Classical.choose hx = m at hc ⊢
  have e1 := wh_add c b g n h m
  have e2 := wh_add c b g m hc n
  rw [← e1, ← e2, Nat.add_comm]
theorem rs_while {c : Expr} {body : List Stmt} {mc : M Bool} {mb : Ms} (hp : PassesOwn (model X.prog X.w) X.A X.env X.xe) (hc : RT X pa W c mc) (hb : RSs X pa W body mb) : RS X pa W (.While c body [] pos) (sWh mc mb) :=
  ⟨(ps_while hp hc.pt hb.ps).imp fun D σ H ⟨ms, os, g, r, z⟩ => by
    have hx : ∃ n, Fin X.K pa W D ms os H (wh mc mb n g) := by
      unfold sWh at z
      by_cases h : ∃ n, wh mc mb n g ≠ .bad
      · rw [dif_pos h] at z; exact ⟨_, z⟩
      · rw [dif_neg h] at z; exact z.elim
    obtain ⟨n, z⟩ := hx
    refine ⟨fun n σ' H' => ∃ ms' os' g', Rl X.K pa ms' os' σ' H' g' ∧ Ks ms os H ms' os' H' ∧ Fin X.K pa W D ms' os' H' (wh mc mb n g'), ⟨n, ms, os, g, r, .same .refl, z⟩, ?_⟩
    rintro m σ1 H1 ⟨ms1, os1, g1, r1, k1, z1⟩
    cases m with
    | zero => exact z1.elim
    | succ m =>
      refine ⟨ms1, os1, g1, r1, (thenE.out z1).mono (fun k g2 o H2 r2 k2 => ?_) fun _ _ q => q⟩
      cases k with
      | false => rw [if_neg (by decide)]; exact o ms1 os1 σ1 H2 r2 (.same k2)
      | true =>
        rw [if_pos rfl]
        have o := Fin.later o (.same k2)
        refine ⟨fun σ' H' => ∃ ms' os' g', Rl X.K pa ms' os' σ' H' g' ∧ Ks ms os H ms' os' H' ∧ Fin X.K pa W D ms' os' H' (wh mc mb m g'), fun σ' H' q => ⟨m, Nat.lt_succ_self m, q⟩, ms1, os1, g2, r2, ?_⟩
        have kk : Ks ms os H ms1 os1 H2 := k1.trans (.same k2)
        simp only at o
        cases e : mb g2 with
        | nx g3 => rw [e] at o; exact fun ms' os' σ' H' r' k' => ⟨ms', os', g3, r', kk.trans k', Fin.later o k'⟩
        | ct g3 => rw [e] at o; exact fun ms' os' σ' H' r' k' => ⟨ms', os', g3, r', kk.trans k', Fin.later o k'⟩
        | bk g3 => rw [e] at o; exact o
        | rt s g3 => rw [e] at o; exact o
        | ex x g3 => rw [e] at o; exact o
        | bad => rw [e] at o; exact o⟩
/-- a while that is reckoned out -/
@[irreducible] def sWf (c : M Bool) (b : Ms) : Ms := fun g => wh c b 4294967296 g
theorem rs_whileF {c : Expr} {body : List Stmt} {mc : M Bool} {mb : Ms} (hp : PassesOwn (model X.prog X.w) X.A X.env X.xe) (hc : RT X pa W c mc) (hb : RSs X pa W body mb) : RS X pa W (.While c body [] pos) (sWf mc mb) :=
  ⟨(ps_while hp hc.pt hb.ps).imp fun D σ H ⟨ms, os, g, r, z⟩ => by
    have hx : ∃ n, Fin X.K pa W D ms os H (wh mc mb n g) := by
      unfold sWf at z
      exact ⟨_, z⟩
    obtain ⟨n, z⟩ := hx
    refine ⟨fun n σ' H' => ∃ ms' os' g', Rl X.K pa ms' os' σ' H' g' ∧ Ks ms os H ms' os' H' ∧ Fin X.K pa W D ms' os' H' (wh mc mb n g'), ⟨n, ms, os, g, r, .same .refl, z⟩, ?_⟩
    rintro m σ1 H1 ⟨ms1, os1, g1, r1, k1, z1⟩
    cases m with
    | zero => exact z1.elim
    | succ m =>
      refine ⟨ms1, os1, g1, r1, (thenE.out z1).mono (fun k g2 o H2 r2 k2 => ?_) fun _ _ q => q⟩
      cases k with
      | false => rw [if_neg (by decide)]; exact o ms1 os1 σ1 H2 r2 (.same k2)
      | true =>
        rw [if_pos rfl]
        have o := Fin.later o (.same k2)
        refine ⟨fun σ' H' => ∃ ms' os' g', Rl X.K pa ms' os' σ' H' g' ∧ Ks ms os H ms' os' H' ∧ Fin X.K pa W D ms' os' H' (wh mc mb m g'), fun σ' H' q => ⟨m, Nat.lt_succ_self m, q⟩, ms1, os1, g2, r2, ?_⟩
        have kk : Ks ms os H ms1 os1 H2 := k1.trans (.same k2)
        simp only at o
        cases e : mb g2 with
        | nx g3 => rw [e] at o; exact fun ms' os' σ' H' r' k' => ⟨ms', os', g3, r', kk.trans k', Fin.later o k'⟩
        | ct g3 => rw [e] at o; exact fun ms' os' σ' H' r' k' => ⟨ms', os', g3, r', kk.trans k', Fin.later o k'⟩
        | bk g3 => rw [e] at o; exact o
        | rt s g3 => rw [e] at o; exact o
        | ex x g3 => rw [e] at o; exact o
        | bad => rw [e] at o; exact o⟩
end
end Mir

namespace Mir
open PySem L2
/-- what an iterator yields -/
structure ItS (K : PySem.W.Frag) (ms os : Addr → Prop) (J : It) (ds : List D) (H1 : Hp) : Prop where
  go : ∀ i H, Kp os H1 H → i < ds.length → J.go i H
  stop : ∀ i H, Kp os H1 H → ds.length ≤ i → J.stop i H
  yld : ∀ i x H H' d, Kp os H1 H → ds[i]? = some d → J.yld i H x H' → Kp NoW H H' ∧ ∀ ms', (∀ a, ms' a → ms a ∨ H1 a = none) → Rep K ms' H' x d
def Ix (K : PySem.W.Frag) (pa : Pa) (W : WX) (m : M (List D)) : TI := fun σ H R => ∃ ms os g, Rl K pa ms os σ H g ∧ Out (m g) (fun ds g' => ∀ J H', Rl K pa ms os σ H' g' → Kp os H H' → ItS K ms os J ds H' → R J H') (Xw K pa W ms os σ H)
structure RI (X : Cx) (pa : Pa) (W : WX) (tg iter : Expr) (m : M (List D)) : Prop where
  pi : PI X tg iter (Ix X.K pa W m)
theorem _root_.L2.PI.imp {X : Cx} {tg e : Expr} {t t' : TI} (h : PI X tg e t) (q : ∀ σ H Q, t' σ H Q → t σ H Q) : PI X tg e t' := ⟨fun pins s σ H Q I z => h.run pins s σ H Q I (q σ H Q z)⟩
theorem _root_.L2.PI.or {X : Cx} {tg e : Expr} {t t' : TI} (h : PI X tg e t) (h' : PI X tg e t') : PI X tg e (fun σ H Q => t σ H Q ∨ t' σ H Q) := ⟨fun pins s σ H Q I z => z.elim (h.run pins s σ H Q I) (h'.run pins s σ H Q I)⟩
/-- the items of a value that is walked -/
def itD : D → Option (List D)
  | .tup xs => some xs
  | .lst xs => some xs
  | .frl xs => some xs
  | .str x => some (x.cps.toList.map fun c => .str ⟨#[c]⟩)
  | _ => none
/-- an own list is not walked -/
def itM : Op → M (List D)
  | .d x => opt (itD x)
  | .o _ => bad
section
variable {X : Cx} {K : PySem.W.Frag} {pa : Pa} {W : WX} {ms ms' os os' ms1 os1 : Addr → Prop} {σ : L2.St} {H H' H1 : Hp} {g : En} {pos p : Pos} {e tg : Expr} {es : List Expr} {Z : Ends}
theorem SqL.keepK {a : Addr} {xs : List V} (h : SqL K H a xs) (k : Kp os H H') (n : ¬ os a) : SqL K H' a xs := by
  rcases h with z | z
  · exact .inl (Rd.keep z k trivial (.inl n))
  · exact .inr z
theorem its_list {a : Addr} {vs : List V} {ds : List D} (h : SqL K H1 a vs) (st : ∀ H, Kp os H1 H → SqL K H a vs) (r : RepL K ms H1 vs ds) (hs : ∀ a, os a → ms a) : ItS K ms os (Itl K a) ds H1 where
  go := fun i H k hi => by
    obtain ⟨u, h1, h2⟩ := r.get (List.getElem?_eq_getElem hi)
    exact ⟨vs, u, st H k, h1⟩
  stop := fun i H k hi => ⟨vs, st H k, by rw [r.length]; exact hi⟩
  yld := fun i x H H' d k hd y => by
    obtain ⟨rfl, y⟩ := y
    refine ⟨.refl, fun ms' hm => ?_⟩
    obtain ⟨u, h1, h2⟩ := r.get hd
    have := y vs (st _ k)
    rw [h1] at this; cases this
    exact h2.move k hs hm
theorem its_tup {a : Addr} {vs : List V} {ds : List D} (h : SqT K H1 a vs) (r : RepL K ms H1 vs ds) (hs : ∀ a, os a → ms a) : ItS K ms os (Itt K a) ds H1 where
  go := fun i H k hi => by
    obtain ⟨u, h1, h2⟩ := r.get (List.getElem?_eq_getElem hi)
    exact ⟨vs, u, SqT.keep h k, h1⟩
  stop := fun i H k hi => ⟨vs, SqT.keep h k, by rw [r.length]; exact hi⟩
  yld := fun i x H H' d k hd y => by
    obtain ⟨rfl, y⟩ := y
    refine ⟨.refl, fun ms' hm => ?_⟩
    obtain ⟨u, h1, h2⟩ := r.get hd
    have := y vs (SqT.keep h k)
    rw [h1] at this; cases this
    exact h2.move k hs hm
theorem its_str {x : Str} : ItS K ms os (Its x) (x.cps.toList.map fun c => .str ⟨#[c]⟩) H1 where
  go := fun i H k hi => by rw [List.length_map, Array.length_toList] at hi; exact hi
  stop := fun i H k hi => by rw [List.length_map, Array.length_toList] at hi; exact hi
  yld := fun i x' H H' d k hd y => by
    obtain ⟨rfl, c, hc, rfl⟩ := y
    refine ⟨.refl, fun ms' hm => ?_⟩
    rw [List.getElem?_map] at hd
    obtain ⟨c', h1, rfl⟩ := Option.map_eq_some_iff.mp hd
    have : c = c' := by
      have h2 : x.cps.toList[i]? = some c := by simpa using hc
      rw [h2] at h1; cases h1; rfl
    subst this
    exact .str _
theorem its_range {lo : Int} {n : Nat} : ItS K ms os (Itr lo n) ((List.range n).map fun i => .int (lo + (i : Nat))) H1 where
  go := fun i H k hi => by rw [List.length_map, List.length_range] at hi; exact hi
  stop := fun i H k hi => by rw [List.length_map, List.length_range] at hi; exact hi
  yld := fun i x' H H' d k hd y => by
    obtain ⟨rfl, rfl⟩ := y
    refine ⟨.refl, fun ms' hm => ?_⟩
    rw [List.getElem?_map] at hd
    obtain ⟨c', h1, rfl⟩ := Option.map_eq_some_iff.mp hd
    obtain ⟨hl, h2⟩ := List.getElem?_eq_some_iff.mp h1
    rw [List.getElem_range] at h2
    subst h2
    exact .int _
theorem ri_any {m : M Op} (h : RO X pa W e m) : RI X pa W tg e (bnd m itM) :=
  ⟨((PI.or (pi_list h.pe) (pi_tup h.pe)).or (pi_str h.pe)).imp fun σ H R ⟨ms, os, g, r, z⟩ => by
    have z1 := z.bnd
    cases e1 : m g with
    | bad => rw [e1] at z1; exact z1.elim
    | ex x g1 => exact .inl (.inl ⟨ms, os, g, r, by rw [e1] at z1 ⊢; exact z1⟩)
    | ok x g1 =>
      rw [e1] at z1
      cases x with
      | o i => exact z1.elim
      | d d =>
        obtain ⟨ds, e2, z2⟩ := Out.opt (show Out (opt (itD d) g1) _ _ from z1)
        cases d with
        | tup xs =>
          cases e2
          refine .inl (.inr ⟨ms, os, g, r, ?_⟩)
          rw [e1]
          intro v H1 r1 k1 rep
          cases rep with
          | tup s l => exact ⟨_, rfl, ⟨_, s⟩, z2 _ H1 r1 k1 (its_tup s l r1.sub)⟩
        | lst xs =>
          cases e2
          refine .inl (.inl ⟨ms, os, g, r, ?_⟩)
          rw [e1]
          intro v H1 r1 k1 rep
          cases rep with
          | lst n s l => exact ⟨_, rfl, ⟨_, SqL.of s⟩, z2 _ H1 r1 k1 (its_list (SqL.of s) (fun H k => SqL.keepK (SqL.of s) k fun o => n (r1.sub _ o)) l r1.sub)⟩
        | frl xs =>
          cases e2
          refine .inl (.inl ⟨ms, os, g, r, ?_⟩)
          rw [e1]
          intro v H1 r1 k1 rep
          cases rep with
          | frl s l => exact ⟨_, rfl, ⟨_, s.sq⟩, z2 _ H1 r1 k1 (its_list s.sq (fun H k => (s.keep k).sq) l r1.sub)⟩
        | str x =>
          cases e2
          refine .inr ⟨ms, os, g, r, ?_⟩
          rw [e1]
          intro v H1 r1 k1 rep
          cases rep
          exact ⟨_, rfl, z2 _ H1 r1 k1 its_str⟩
        | _ => cases e2⟩
def rng (lo : Int) (n : Nat) : List D := (List.range n).map fun i => .int (lo + (i : Nat))
@[irreducible] def inW (j : Int) : Bool := Nat.blt j.natAbs (2 ^ 62)
theorem inW_iff {j : Int} : inW j = true ↔ j.natAbs < 2 ^ 62 := by unfold inW; rw [Nat.blt_eq]
theorem inW_lo {j : Int} (h : inW j = true) : -(2 ^ 62) ≤ j := by have := inW_iff.mp h; omega
theorem inW_hi {j : Int} (h : inW j = true) : j < 2 ^ 62 := by have := inW_iff.mp h; omega
def rng1 : List Op → M (List D)
  | [.d (.int j)] => if inW j = true then ret (rng 0 j.toNat) else bad
  | _ => bad
def rng2 : List Op → M (List D)
  | [.d (.int i), .d (.int j)] => if inW i = true ∧ inW j = true then ret (rng i (j - i).toNat) else bad
  | _ => bad
theorem ri_rng1 {m : M (List Op)} (hg : Gl X "range") (hm : X.mg "range" = none) (ha : RA X pa W [e] m) (hs : starEach [e] X.env = [(false, eval e X.env)] := by rfl) : RI X pa W tg (.Call (.Name "range" p) [e] [] pos) (bnd m rng1) :=
  ⟨(pi_range1 hg hm ha.pa hs).imp fun σ H R ⟨ms, os, g, r, z⟩ => ⟨ms, os, g, r, z.bnd.mono (fun xs g1 o vs H1 r1 k1 rep => by
    unfold rng1 at o
    split at o
    · split at o
      · rename_i j hj
        cases rep with
        | cons a l =>
          cases l
          cases (show Rep X.K ms H1 _ (.int j) from a)
          exact ⟨j, rfl, inW_lo hj, inW_hi hj, o _ H1 r1 k1 its_range⟩
      · exact o.elim
    · exact o.elim) fun _ _ q => q⟩⟩
theorem ri_rng2 {e2 : Expr} {m : M (List Op)} (hg : Gl X "range") (hm : X.mg "range" = none) (ha : RA X pa W [e, e2] m) (hs : starEach [e, e2] X.env = [(false, eval e X.env), (false, eval e2 X.env)] := by rfl) (hs2 : starEach [e2] X.env = [(false, eval e2 X.env)] := by rfl) : RI X pa W tg (.Call (.Name "range" p) [e, e2] [] pos) (bnd m rng2) :=
  ⟨(pi_range2 hg hm ha.pa hs hs2).imp fun σ H R ⟨ms, os, g, r, z⟩ => ⟨ms, os, g, r, z.bnd.mono (fun xs g1 o vs H1 r1 k1 rep => by
    unfold rng2 at o
    split at o
    · split at o
      · rename_i i j hj
        cases rep with
        | cons a l =>
          cases l with
          | cons b l =>
            cases l
            cases (show Rep X.K ms H1 _ (.int i) from a)
            cases (show Rep X.K ms H1 _ (.int j) from b)
            exact ⟨i, j, rfl, ⟨inW_lo hj.1, inW_hi hj.1, inW_lo hj.2, inW_hi hj.2⟩, o _ H1 r1 k1 its_range⟩
      · exact o.elim
    · exact o.elim) fun _ _ q => q⟩⟩
/-! zip of two tuples, of two lists -/
def zipD (xs ys : List D) : List D := (xs.zip ys).map fun p => .tup [p.1, p.2]
def zipM : List Op → M (List D)
  | [.d (.tup xs), .d (.tup ys)] => ret (zipD xs ys)
  | [.d (.lst xs), .d (.lst ys)] => ret (zipD xs ys)
  | _ => bad
theorem zip_get {xs ys : List D} {i : Nat} {d : D} (h : (zipD xs ys)[i]? = some d) : ∃ x y, xs[i]? = some x ∧ ys[i]? = some y ∧ d = .tup [x, y] := by
  unfold zipD at h
  rw [List.getElem?_map] at h
  obtain ⟨q, h1, rfl⟩ := Option.map_eq_some_iff.mp h
  rw [List.getElem?_zip_eq_some] at h1
  exact ⟨q.1, q.2, h1.1, h1.2, rfl⟩
theorem zip_len {xs ys : List D} : (zipD xs ys).length = min xs.length ys.length := by
  unfold zipD; rw [List.length_map, List.length_zip]
theorem pair_new {T : Addr} {u w : V} {x y : D} (h : H T = none) (a : Rep K ms' H u x) (b : Rep K ms' H w y) : Kp NoW H (upd H T (.tup [u, w])) ∧ Rep K ms' (upd H T (.tup [u, w])) (.ref T) (.tup [x, y]) := new_tup h (.cons a (.cons b .nil))
theorem its_zipT {a b : Addr} {vs ws : List V} {xs ys : List D} (h1 : SqT K H1 a vs) (h2 : SqT K H1 b ws) (r1 : RepL K ms H1 vs xs) (r2 : RepL K ms H1 ws ys) (hs : ∀ a, os a → ms a) : ItS K ms os (RZ.ItzT K a b) (zipD xs ys) H1 where
  go := fun i H k hi => by
    rw [zip_len] at hi
    obtain ⟨u, f1, _⟩ := r1.get (i := i) (List.getElem?_eq_getElem (by omega))
    obtain ⟨w, f2, _⟩ := r2.get (i := i) (List.getElem?_eq_getElem (by omega))
    exact ⟨vs, ws, u, w, SqT.keep h1 k, SqT.keep h2 k, f1, f2⟩
  stop := fun i H k hi => by
    rw [zip_len] at hi
    exact ⟨vs, ws, SqT.keep h1 k, SqT.keep h2 k, by rw [r1.length, r2.length]; omega⟩
  yld := fun i x H H' d k hd y => by
    obtain ⟨T, u, w, rfl, hT, rfl, y1, y2⟩ := y
    obtain ⟨dx, dy, e1, e2, rfl⟩ := zip_get hd
    refine ⟨.new hT, fun ms' hm => ?_⟩
    obtain ⟨u', f1, f2⟩ := r1.get e1
    obtain ⟨w', f3, f4⟩ := r2.get e2
    have q1 := y1 vs (SqT.keep h1 k)
    have q2 := y2 ws (SqT.keep h2 k)
    rw [f1] at q1; cases q1
    rw [f3] at q2; cases q2
    exact (pair_new hT (f2.move k hs hm) (f4.move k hs hm)).2
theorem its_zipL {a b : Addr} {vs ws : List V} {xs ys : List D} (h1 : ∀ H, Kp os H1 H → SqL K H a vs) (h2 : ∀ H, Kp os H1 H → SqL K H b ws) (r1 : RepL K ms H1 vs xs) (r2 : RepL K ms H1 ws ys) (hs : ∀ a, os a → ms a) : ItS K ms os (Itz K a b) (zipD xs ys) H1 where
  go := fun i H k hi => by
    rw [zip_len] at hi
    obtain ⟨u, f1, _⟩ := r1.get (i := i) (List.getElem?_eq_getElem (by omega))
    obtain ⟨w, f2, _⟩ := r2.get (i := i) (List.getElem?_eq_getElem (by omega))
    exact ⟨vs, ws, u, w, h1 H k, h2 H k, f1, f2⟩
  stop := fun i H k hi => by
    rw [zip_len] at hi
    exact ⟨vs, ws, h1 H k, h2 H k, by rw [r1.length, r2.length]; omega⟩
  yld := fun i x H H' d k hd y => by
    obtain ⟨T, u, w, rfl, hT, rfl, y1, y2⟩ := y
    obtain ⟨dx, dy, e1, e2, rfl⟩ := zip_get hd
    refine ⟨.new hT, fun ms' hm => ?_⟩
    obtain ⟨u', f1, f2⟩ := r1.get e1
    obtain ⟨w', f3, f4⟩ := r2.get e2
    have q1 := y1 vs (h1 H k)
    have q2 := y2 ws (h2 H k)
    rw [f1] at q1; cases q1
    rw [f3] at q2; cases q2
    exact (pair_new hT (f2.move k hs hm) (f4.move k hs hm)).2
theorem ri_zip {e2 : Expr} {elts : List Expr} {kk : Nat} {tpos : Pos} {m : M (List Op)} (hg : Gl X "zip") (hm : X.mg "zip" = none) (ha : RA X pa W [e, e2] m)
    (hs : starEach [e, e2] X.env = (false, eval e X.env) :: starEach [e2] X.env := by rfl) (hpl : (backTo pos (starEach [e2] X.env)).any (·.1) = false := by rfl) : RI X pa W (.Tuple elts kk tpos) (.Call (.Name "zip" p) [e, e2] [] pos) (bnd m zipM) :=
  ⟨(RZ.pi_zipA hg hm ha.pa hs hpl).imp fun σ H R ⟨ms, os, g, r, z⟩ => ⟨ms, os, g, r, z.bnd.mono (fun xs g1 o vs H1 r1 k1 rep => by
    unfold zipM at o
    split at o
    · rename_i xs ys
      cases rep with
      | cons a l =>
        cases l with
        | cons b l =>
          cases l
          cases (show Rep X.K ms H1 _ (.tup xs) from a) with
          | tup s1 l1 =>
            cases (show Rep X.K ms H1 _ (.tup ys) from b) with
            | tup s2 l2 => exact ⟨_, _, _, _, rfl, .inr ⟨s1, s2, o _ H1 r1 k1 (its_zipT s1 s2 l1 l2 r1.sub)⟩⟩
    · rename_i xs ys
      cases rep with
      | cons a l =>
        cases l with
        | cons b l =>
          cases l
          cases (show Rep X.K ms H1 _ (.lst xs) from a) with
          | lst n1 s1 l1 =>
            cases (show Rep X.K ms H1 _ (.lst ys) from b) with
            | lst n2 s2 l2 => exact ⟨_, _, _, _, rfl, .inl ⟨SqL.of s1, SqL.of s2, o _ H1 r1 k1 (its_zipL (fun H k => SqL.keepK (SqL.of s1) k fun o => n1 (r1.sub _ o)) (fun H k => SqL.keepK (SqL.of s2) k fun o => n2 (r1.sub _ o)) l1 l2 r1.sub)⟩⟩
    · exact o.elim) fun _ _ q => q⟩⟩
/-! for -/
def forL (t : Tg) (b : Ms) : List D → Ms
  | [], g => .nx g
  | d :: ds, g => match t d g with
    | none => .bad
    | some g1 => match b g1 with
      | .nx g2 => forL t b ds g2
      | .ct g2 => forL t b ds g2
      | .bk g2 => .nx g2
      | o => o
def sFor (m : M (List D)) (t : Tg) (b : Ms) : Ms := thenE m (forL t b)
theorem rs_for {is : List Nat} {m : M (List D)} {t : Tg} {body : List Stmt} {b : Ms} (hp : PassesOwn (model X.prog X.w) X.A X.env X.xe) (hc : X.calm = true) (hi : RI X pa W tg e m) (hg : RG X pa tg is t) (hb : RSs X pa W body b)
    (hs : ∀ x, foldedSetIterable e X.env x = pure x := by intro _; rfl) : RS X pa W (.For tg e body [] pos) (sFor m t b) :=
  ⟨(ps_for hp hc hi.pi hg.pg hb.ps hs).imp fun D σ H ⟨ms, os, g, r, z⟩ => ⟨ms, os, g, r, (thenE.out z).mono (fun ds g1 o J H1 r1 k1 it => by
    have o := Fin.later o (.same k1)
    refine ⟨fun i n σ' H' => n = ds.length - i ∧ i ≤ ds.length ∧ ∃ ms' os' g', Rl X.K pa ms' os' σ' H' g' ∧ Ks ms os H1 ms' os' H' ∧ Fin X.K pa W D ms' os' H' (forL t b (ds.drop i) g'), ⟨ds.length, rfl, Nat.zero_le _, ms, os, g1, r1, .same .refl, o⟩, ?_⟩
    rintro i n σ2 H2 ⟨rfl, hi, ms2, os2, g2, r2, k2, o2⟩
    by_cases hl : i < ds.length
    · refine .inr ⟨it.go i H2 k2.kp hl, fun σ' H' => i + 1 ≤ ds.length ∧ ∃ ms' os' g', Rl X.K pa ms' os' σ' H' g' ∧ Ks ms os H1 ms' os' H' ∧ Fin X.K pa W D ms' os' H' (forL t b (ds.drop (i + 1)) g'), fun σ' H' q => ⟨ds.length - (i + 1), by omega, rfl, q⟩, fun x H3 y => ?_⟩
      have hd : ds[i]? = some ds[i] := List.getElem?_eq_getElem hl
      obtain ⟨k3, rep⟩ := it.yld i x H2 H3 _ k2.kp hd y
      have e1 : ds.drop i = ds[i] :: ds.drop (i + 1) := List.drop_eq_getElem_cons hl
      rw [e1] at o2
      have r3 := r2.kp k3
      have rp := rep ms2 k2.mg
      unfold forL at o2
      cases e2 : t ds[i] g2 with
      | none => rw [e2] at o2; exact o2.elim
      | some g3 =>
        rw [e2] at o2
        have o2 := Fin.later o2 (.same k3.now)
        refine ⟨ms2, os2, g2, _, g3, r3, rp, e2, fun σ4 H4 _ r4 k4 => ⟨ms2, os2, g3, r4, ?_⟩⟩
        have o2 := Fin.later o2 (.same k4)
        have kk : Ks ms os H1 ms2 os2 H4 := k2.trans (.same (k3.now.trans k4))
        simp only at o2
        cases e3 : b g3 with
        | nx g4 => rw [e3] at o2; exact fun ms' os' σ' H' r' k' => ⟨hl, ms', os', g4, r', kk.trans k', Fin.later o2 k'⟩
        | ct g4 => rw [e3] at o2; exact fun ms' os' σ' H' r' k' => ⟨hl, ms', os', g4, r', kk.trans k', Fin.later o2 k'⟩
        | bk g4 => rw [e3] at o2; exact o2
        | rt s g4 => rw [e3] at o2; exact o2
        | ex x g4 => rw [e3] at o2; exact o2
        | bad => rw [e3] at o2; exact o2
    · have e1 : ds.drop i = [] := List.drop_eq_nil_of_le (by omega)
      rw [e1] at o2
      exact .inl ⟨it.stop i H2 k2.kp (by omega), o2 ms2 os2 σ2 H2 r2 (.same .refl)⟩) fun _ _ q => q⟩⟩
end
end Mir

namespace Mir
open PySem L2
/-! comprehensions -/
def wipeG (g : En) : List Nat → En
  | [] => g
  | v :: vs => (wipeG g vs).set v .no
/-- the block's own slots as they were, g0, all others as in g -/
def restG (g0 g : En) : List Nat → En
  | [] => g
  | v :: vs => (restG g0 g vs).set v (gt g0 v)
def noO (g : En) (vs : List Nat) : Bool := vs.all fun i => (gt g i).mo.isNone
def noex {α : Type} (m : M α) : M α := fun g => match m g with
  | .ex _ _ => .bad
  | o => o
def cmL (vs : List Nat) (t : Tg) (c : M Bool) (e : M Op) : List D → List D → M (List D)
  | [], acc => ret acc
  | d :: ds, acc => fun g => match t d (wipeG g vs) with
    | none => .bad
    | some g1 => bnd (noex c) (fun k => match k with
      | false => cmL vs t c e ds acc
      | true => bnd (noex e) fun x => match x with
        | .o _ => bad
        | .d y => if acc.length < 16777216 then cmL vs t c e ds (acc ++ [y]) else bad) g1
def cmp (vs : List Nat) (m : M (List D)) (t : Tg) (c : M Bool) (e : M Op) : M (List D) := bnd m fun ds g => if noO g vs then match cmL vs t c e ds [] g with
    | .ok xs g' => .ok xs (restG g g' vs)
    | _ => .bad
  else .bad
abbrev W0 : WX := fun _ _ _ _ => False
section
variable {X : Cx} {K : PySem.W.Frag} {pa : Pa} {W : WX} {ms ms' os os' ms1 os1 : Addr → Prop} {σ σ' : L2.St} {H H' H1 : Hp} {g g' : En} {pos p : Pos} {e tg : Expr} {es : List Expr} {Z : Ends}
theorem Out.noex {α : Type} {m : M α} {P : α → En → Prop} {E E' : Xn → En → Prop} (h : Out (noex m g) P E) : Out (m g) P E' := by
  unfold Mir.noex at h
  cases e : m g with
  | ok a g1 => rw [e] at h; exact h
  | ex x g1 => rw [e] at h; exact h.elim
  | bad => rw [e] at h; exact h.elim
theorem gt_wipe {vs : List Nat} {i : Nat} : gt (wipeG g vs) i = if i ∈ vs then .no else gt g i := by
  induction vs with
  | nil => simp [wipeG]
  | cons v vs ih =>
    show gt ((wipeG g vs).set v .no) i = _
    rw [gt_set]
    by_cases h : v = i
    · subst h
      by_cases h2 : v < (wipeG g vs).length
      · simp [h2]
      · have : gt (wipeG g vs) v = .no := by rw [gt_eq, List.getElem?_eq_none (by omega)]; rfl
        simp [h2, this]
    · have h' : ¬ i = v := fun z => h z.symm
      simp [h, h', ih]
theorem len_wipe {vs : List Nat} : (wipeG g vs).length = g.length := by
  induction vs with
  | nil => rfl
  | cons v vs ih => show ((wipeG g vs).set v .no).length = _; rw [List.length_set, ih]
theorem len_rest {vs : List Nat} {g0 : En} : (restG g0 g vs).length = g.length := by
  induction vs with
  | nil => rfl
  | cons v vs ih => show ((restG g0 g vs).set v _).length = _; rw [List.length_set, ih]
theorem gt_rest {vs : List Nat} {g0 : En} {i : Nat} : gt (restG g0 g vs) i = if i ∈ vs ∧ i < g.length then gt g0 i else gt g i := by
  induction vs with
  | nil => simp [restG]
  | cons v vs ih =>
    show gt ((restG g0 g vs).set v _) i = _
    rw [gt_set, len_rest]
    by_cases h : v = i
    · subst h
      by_cases h2 : v < g.length
      · simp [h2]
      · have : gt g v = .no := by rw [gt_eq, List.getElem?_eq_none (by omega)]; rfl
        simp [h2, ih]
    · have h' : ¬ i = v := fun z => h z.symm
      simp [h, h', ih]
theorem get_wipe {vs : List Nat} {i : Nat} (h : i ∉ vs) : (wipe σ vs)[i]? = σ[i]? := wipe_out h
theorem wipe_same {vs : List Nat} (h : Off vs σ σ') : wipe σ' vs = wipe σ vs := by
  have key : ∀ (us : List Nat) (τ τ' : L2.St), τ.length = τ'.length → (∀ j, j ∉ us → τ'[j]? = τ[j]?) → wipe τ' us = wipe τ us := by
    intro us
    induction us with
    | nil =>
      intro τ τ' hl hh
      exact List.ext_getElem? fun j => hh j (by simp)
    | cons v us ih =>
      intro τ τ' hl hh
      have e : wipe (τ'.set v none) us = wipe (τ.set v none) us := ih _ _ (by rw [List.length_set, List.length_set]; exact hl) fun j hj => by
        by_cases h : v = j
        · subst h
          by_cases h2 : v < τ.length
          · rw [List.getElem?_set_self h2, List.getElem?_set_self (by omega)]
          · rw [List.getElem?_eq_none (by rw [List.length_set]; omega), List.getElem?_eq_none (by rw [List.length_set]; omega)]
        · rw [List.getElem?_set_ne h, List.getElem?_set_ne h]
          exact hh j fun z => (List.mem_cons.mp z).elim (fun z => h z.symm) hj
      have sw : ∀ (τ : L2.St) (us : List Nat), wipe (τ.set v none) us = (wipe τ us).set v none := by
        intro τ us
        induction us with
        | nil => rfl
        | cons u us ih2 =>
          show (wipe (τ.set v none) us).set u none = ((wipe τ us).set u none).set v none
          rw [ih2]
          by_cases h : v = u
          · subst h; rfl
          · exact List.set_comm none none h
      show (wipe τ' us).set v none = (wipe τ us).set v none
      rw [← sw, ← sw]
      exact e
  exact key vs σ σ' h.1.symm h.2
/-- the block's own slots forgotten -/
theorem Rl.wipe {vs : List Nat} (r : Rl K pa ms os σ H g) (hn : ∀ i ∈ vs, pa i = none) : Rl K pa ms os (L2.wipe σ vs) H (wipeG g vs) := by
  have keep : ∀ i, gt (wipeG g vs) i ≠ .no → i ∉ vs ∧ gt (wipeG g vs) i = gt g i := fun i h => by
    rw [gt_wipe] at h ⊢
    by_cases hi : i ∈ vs
    · rw [if_pos hi] at h; exact absurd rfl h
    · rw [if_neg hi]; exact ⟨hi, rfl⟩
  have km : ∀ i m, (gt (wipeG g vs) i).mo = some m → i ∉ vs ∧ (gt g i).mo = some m := fun i m h => by
    obtain ⟨h1, h2⟩ := keep i fun z => by rw [z] at h; cases h
    exact ⟨h1, by rw [← h2]; exact h⟩
  refine ⟨fun i d e => ?_, fun i m e => ?_, fun i j m m' q e1 e2 e3 e4 => ?_, fun i m q e1 e2 => ?_, fun i q e => ?_, ?_, r.sub, r.dom, fun i m j k m2 e1 e2 e3 => ?_, r.tb, fun i fs e => ?_⟩
  · obtain ⟨h1, h2⟩ := keep i fun z => by rw [z] at e; cases e
    rw [get_wipe h1]
    exact r.va i d (by rw [← h2]; exact e)
  · obtain ⟨h1, h2⟩ := km i m e
    rw [get_wipe h1]
    exact r.mo i m h2
  · obtain ⟨h1, h2⟩ := km i m e1
    obtain ⟨h3, h4⟩ := km j m' e2
    rw [get_wipe h1] at e3
    rw [get_wipe h3] at e4
    exact r.ap i j m m' q h2 h4 e3 e4
  · obtain ⟨h1, h2⟩ := keep i fun z => by rw [z] at e1; cases e1
    rw [get_wipe h1] at e2
    exact r.pm i m q (by rw [← h2]; exact e1) e2
  · obtain ⟨m, h1, h2⟩ := r.pk i q e
    have hi : i ∉ vs := fun z => by rw [hn i z] at e; cases e
    exact ⟨m, by rw [gt_wipe, if_neg hi]; exact h1, by rw [get_wipe hi]; exact h2⟩
  · rw [len_wipe, wipe_length]; exact r.len
  · obtain ⟨h1, h2⟩ := km i m e1
    obtain ⟨h3, h4⟩ := keep k fun z => by rw [z] at e3; cases e3
    rw [h4] at e3
    obtain ⟨p, q, f1, f2, f3⟩ := r.lk i m j k m2 h2 e2 e3
    exact ⟨p, q, by rw [get_wipe h1]; exact f1, f2, by rw [get_wipe h3]; exact f3⟩
  · obtain ⟨h1, h2⟩ := keep i fun z => by rw [z] at e; cases e
    obtain ⟨a, h3, h4⟩ := r.er i fs (by rw [← h2]; exact e)
    exact ⟨a, by rw [get_wipe h1]; exact h3, h4⟩
/-- an object D that is not the def's own is written -/
theorem Rl.other {q : Addr} {o u : HO} (r : Rl K pa ms os σ H g) (h : H q = some u) (hu : Mu u) (hm : ms q) (ho : ¬ os q) : Rl K pa ms os σ (upd H q o) g := by
  have k : Kp (fun a => a = q) H (upd H q o) := .set h hu rfl
  have wm : ∀ a, a = q → ms a := fun a e => by rw [e]; exact hm
  refine ⟨fun i d e => ?_, fun i m e => ?_, r.ap, r.pm, r.pk, r.len, r.sub, fun a z e => r.dom a z (k.no a e), fun i m j k2 m2 e1 e2 e3 => ?_, k.tabs r.tb, fun i fs e => let ⟨a, h1, h2⟩ := r.er i fs e; ⟨a, h1, h2.move k wm fun _ q => .inl q⟩⟩
  · obtain ⟨v, h1, h2⟩ := r.va i d e
    exact ⟨v, h1, h2.keep k wm⟩
  · obtain ⟨a, h1, h2, h3⟩ := r.mo i m e
    exact ⟨a, h1, h2, h3.keep k wm fun z => ho (by rw [← z]; exact h2)⟩
  · obtain ⟨p, q', f1, f2, f3⟩ := r.lk i m j k2 m2 e1 e2 e3
    obtain ⟨p', h1, h2, h3⟩ := r.mo i m e1
    rw [f1] at h1; cases h1
    exact ⟨p, q', f1, f2.keep k fun z => ho (by rw [← z]; exact h2), f3⟩
theorem Rl.rest {vs : List Nat} (r0 : Rl K pa ms os σ H1 g) (no : noO g vs = true) (hp : ∀ i ∈ vs, pa i = none) (hm : ∀ a, ms' a → ms a ∨ H1 a = none) (k : Kp os H1 H) (r : Rl K pa ms' os (L2.wipe σ vs) H (wipeG g' vs)) : Rl K pa ms' os σ H (restG g g' vs) := by
  have nomo : ∀ i ∈ vs, (gt g i).mo = none := fun i hi => by
    have := List.all_eq_true.mp no i hi
    simpa using this
  have out : ∀ i, i ∉ vs → gt (restG g g' vs) i = gt (wipeG g' vs) i := fun i hi => by
    rw [gt_rest, gt_wipe, if_neg hi, if_neg (fun z => hi z.1)]
  have inn : ∀ i, i ∈ vs → gt (restG g g' vs) i = gt g i ∨ gt (restG g g' vs) i = .no := fun i hi => by
    rw [gt_rest]
    by_cases h : i < g'.length
    · rw [if_pos ⟨hi, h⟩]; exact .inl rfl
    · rw [if_neg (fun z => h z.2), gt_eq, List.getElem?_eq_none (by omega)]; exact .inr rfl
  have km : ∀ i m, (gt (restG g g' vs) i).mo = some m → i ∉ vs ∧ (gt (wipeG g' vs) i).mo = some m := fun i m e => by
    have hi : i ∉ vs := fun hi => by
      rcases inn i hi with z | z
      · rw [z, nomo i hi] at e; cases e
      · rw [z] at e; cases e
    exact ⟨hi, by rw [← out i hi]; exact e⟩
  refine ⟨fun i d e => ?_, fun i m e => ?_, fun i j m m' q e1 e2 e3 e4 => ?_, fun i m q e1 e2 => ?_, fun i q e => ?_, ?_, r.sub, r.dom, fun i m j k2 m2 e1 e2 e3 => ?_, r.tb, fun i fs e => ?_⟩
  · by_cases hi : i ∈ vs
    · rcases inn i hi with z | z
      · obtain ⟨v, h1, h2⟩ := r0.va i d (by rw [← z]; exact e)
        exact ⟨v, h1, h2.move k r0.sub hm⟩
      · rw [z] at e; cases e
    · obtain ⟨v, h1, h2⟩ := r.va i d (by rw [← out i hi]; exact e)
      rw [get_wipe hi] at h1
      exact ⟨v, h1, h2⟩
  · obtain ⟨h1, h2⟩ := km i m e
    obtain ⟨q, h3, h4⟩ := r.mo i m h2
    rw [get_wipe h1] at h3
    exact ⟨q, h3, h4⟩
  · obtain ⟨h1, h2⟩ := km i m e1
    obtain ⟨h3, h4⟩ := km j m' e2
    exact r.ap i j m m' q h2 h4 (by rw [get_wipe h1]; exact e3) (by rw [get_wipe h3]; exact e4)
  · obtain ⟨h1, h2⟩ := km i m (by rw [e1]; rfl)
    exact r.pm i m q (by rw [← out i h1]; exact e1) (by rw [get_wipe h1]; exact e2)
  · have hi : i ∉ vs := fun z => by rw [hp i z] at e; cases e
    obtain ⟨m, h1, h2⟩ := r.pk i q e
    rw [get_wipe hi] at h2
    exact ⟨m, by rw [out i hi]; exact h1, h2⟩
  · have := r.len
    rw [len_wipe, wipe_length] at this
    rw [len_rest]; exact this
  · obtain ⟨h1, h2⟩ := km i m e1
    obtain ⟨h3, h4⟩ := km k2 m2 (by rw [e3]; rfl)
    have e4 : gt (wipeG g' vs) k2 = .gh m2 := by rw [← out k2 h3]; exact e3
    obtain ⟨p, q, f1, f2, f3⟩ := r.lk i m j k2 m2 h2 e2 e4
    exact ⟨p, q, by rw [get_wipe h1] at f1; exact f1, f2, by rw [get_wipe h3] at f3; exact f3⟩
  · by_cases hi : i ∈ vs
    · rcases inn i hi with z | z
      · obtain ⟨a, h1, h2⟩ := r0.er i fs (by rw [← z]; exact e)
        exact ⟨a, h1, h2.move k r0.sub hm⟩
      · rw [z] at e; cases e
    · obtain ⟨a, h1, h2⟩ := r.er i fs (by rw [← out i hi]; exact e)
      rw [get_wipe hi] at h1
      exact ⟨a, h1, h2⟩
theorem noO.pn {vs : List Nat} (r : Rl K pa ms os σ H g) (no : noO g vs = true) : ∀ i ∈ vs, pa i = none := fun i hi => by
  cases e : pa i with
  | none => rfl
  | some q =>
    obtain ⟨m, h1, _⟩ := r.pk i q e
    have := List.all_eq_true.mp no i hi
    rw [h1] at this
    cases this
theorem wipe_wipe {vs : List Nat} : L2.wipe (L2.wipe σ vs) vs = L2.wipe σ vs := wipe_same ⟨wipe_length σ vs, fun j h => get_wipe h⟩
/-- the reading of a comprehension -/
theorem lc_read {elt : Expr} {is vs : List Nat} {m : M (List D)} {t : Tg} {c : M Bool} {me : M Op} {Q : VK} (his : ∀ i ∈ is, i ∈ vs)
    (z : Enw K pa W (cmp vs m t c me) σ H Q) : tLc (Ix K pa W m) (Gx K pa is t) (Et K pa W0 c) (Eo K pa W0 me) vs σ H Q := by
  obtain ⟨ms, os, g, r, z⟩ := z
  refine ⟨ms, os, g, r, z.bnd.mono (fun ds g1 o J H1 r1 k1 it q hq => ?_) fun _ _ q => q⟩
  by_cases no : noO g1 vs = true
  · rw [if_pos no] at o
    have hpa := noO.pn r1 no
    -- the last step
    have o' : ∃ xs g', cmL vs t c me ds [] g1 = .ok xs g' ∧ Nw K pa ms os σ H Q xs (restG g1 g' vs) := by
      cases e : cmL vs t c me ds [] g1 with
      | ok xs g' => rw [e] at o; exact ⟨xs, g', rfl, o⟩
      | ex x g' => rw [e] at o; exact o.elim
      | bad => rw [e] at o; exact o.elim
    clear o
    obtain ⟨ys, gE, oe, fin⟩ := o'
    have nos : ¬ os q := fun z => r1.dom q (r1.sub q z) hq
    have hm : ∀ a, plus ms q a → ms a ∨ H1 a = none := fun a z => z.imp id fun z => by rw [z]; exact hq
    refine ⟨fun i n H' => n = ds.length - i ∧ i ≤ ds.length ∧ ∃ g', Rl K pa (plus ms q) os (L2.wipe σ vs) H' (wipeG g' vs) ∧ Kp os H1 H' ∧ ∃ vacc acc, H' q = some (.lst vacc) ∧ RepL K (plus ms q) H' vacc acc ∧ cmL vs t c me (ds.drop i) acc g' = .ok ys gE,
      ⟨ds.length, rfl, Nat.zero_le _, g1, (r1.laid hq).wipe hpa, .new hq, [], [], upd_same, .nil, oe⟩, ?_⟩
    rintro i n H2 ⟨rfl, hi, g2, r2, k2, vacc, acc, hD, hR, o2⟩
    by_cases hl : i < ds.length
    · refine .inr ⟨it.go i H2 k2 hl, fun H' => i + 1 ≤ ds.length ∧ ∃ g', Rl K pa (plus ms q) os (L2.wipe σ vs) H' (wipeG g' vs) ∧ Kp os H1 H' ∧ ∃ vacc acc, H' q = some (.lst vacc) ∧ RepL K (plus ms q) H' vacc acc ∧ cmL vs t c me (ds.drop (i + 1)) acc g' = .ok ys gE,
        fun H' z => ⟨ds.length - (i + 1), by omega, rfl, z⟩, fun x H3 y => ?_⟩
      have hd : ds[i]? = some ds[i] := List.getElem?_eq_getElem hl
      obtain ⟨k3, rep⟩ := it.yld i x H2 H3 _ k2 hd y
      have e1 : ds.drop i = ds[i] :: ds.drop (i + 1) := List.drop_eq_getElem_cons hl
      rw [e1] at o2
      have r3 := r2.kp k3
      have rp := rep (plus ms q) hm
      unfold cmL at o2
      cases e2 : t ds[i] (wipeG g2 vs) with
      | none => rw [e2] at o2; cases o2
      | some g3 =>
        rw [e2] at o2
        simp only at o2
        refine ⟨plus ms q, os, wipeG g2 vs, _, g3, r3, rp, e2, fun σ4 H4 off r4 k4 => ⟨?_, ?_⟩⟩
        · have := wipe_same (vs := vs) (σ := L2.wipe σ vs) (σ' := σ4) ⟨off.1, fun j hj => off.2 j fun z => hj (his j z)⟩
          rw [this, wipe_wipe]
        have ws : L2.wipe σ4 vs = L2.wipe σ vs := by
          have := wipe_same (vs := vs) (σ := L2.wipe σ vs) (σ' := σ4) ⟨off.1, fun j hj => off.2 j fun z => hj (his j z)⟩
          rw [this, wipe_wipe]
        have kk : Kp os H1 H4 := (k2.trans k3.now).trans k4
        -- the test
        refine ⟨plus ms q, os, g3, r4, ?_⟩
        have oc : ∃ b g4, c g3 = .ok b g4 ∧ (match b with
            | false => cmL vs t c me (ds.drop (i + 1)) acc
            | true => bnd (noex me) fun x => match x with
              | .o _ => bad
              | .d y => if acc.length < 16777216 then cmL vs t c me (ds.drop (i + 1)) (acc ++ [y]) else bad) g4 = .ok ys gE := by
          unfold bnd noex at o2
          cases e : c g3 with
          | ok b g4 => rw [e] at o2; exact ⟨b, g4, rfl, o2⟩
          | ex x g4 => rw [e] at o2; cases o2
          | bad => rw [e] at o2; cases o2
        obtain ⟨b, g4, ec, o3⟩ := oc
        rw [ec]
        intro H5 r5 k5
        have rq : ∀ {H' : Hp}, Kp os H2 H' → H' q = some (.lst vacc) ∧ RepL K (plus ms q) H' vacc acc := fun k => ⟨k.st q _ hD trivial fun z => absurd z nos, hR.keep k fun a z => .inl (r1.sub a z)⟩
        cases b with
        | false =>
          rw [if_neg (by decide)]
          obtain ⟨d1, d2⟩ := rq ((k3.now.trans k4).trans k5)
          refine ⟨hl, g4, ?_, kk.trans k5, vacc, acc, d1, d2, o3⟩
          rw [← ws]
          exact r5.wipe hpa
        | true =>
          rw [if_pos rfl]
          have oe2 : ∃ y g5, me g4 = .ok (.d y) g5 ∧ acc.length < 16777216 ∧ cmL vs t c me (ds.drop (i + 1)) (acc ++ [y]) g5 = .ok ys gE := by
            simp only at o3
            unfold bnd noex at o3
            cases e : me g4 with
            | ok x g5 =>
              rw [e] at o3
              cases x with
              | o j => cases o3
              | d y =>
                simp only at o3
                by_cases ha : acc.length < 16777216
                · rw [if_pos ha] at o3; exact ⟨y, g5, rfl, ha, o3⟩
                · rw [if_neg ha] at o3; cases o3
            | ex x g4 => rw [e] at o3; cases o3
            | bad => rw [e] at o3; cases o3
          obtain ⟨y, g5, ee, ha, o4⟩ := oe2
          refine ⟨plus ms q, os, g4, r5, ?_⟩
          rw [ee]
          intro v H6 r6 k6 rep6
          have rep6 : Rep K (plus ms q) H6 v y := rep6
          obtain ⟨d1, d2⟩ := rq (((k3.now.trans k4).trans k5).trans k6)
          have kq : Kp (fun a => a = q) H6 (upd H6 q (.lst (vacc ++ [v]))) := .set d1 trivial rfl
          have wm : ∀ a, a = q → plus ms q a := fun a z => .inr z
          refine ⟨vacc, d1, by rw [d2.length]; exact Nat.lt_of_lt_of_le ha (by decide), hl, g5, ?_, ?_, vacc ++ [v], acc ++ [y], upd_same, (d2.keep kq wm).append (.cons (rep6.keep kq wm) .nil), o4⟩
          · rw [← ws]
            exact (r6.other d1 trivial (.inr rfl) nos).wipe hpa
          · exact ((kk.trans k5).trans k6).fresh kq fun a z => .inr (by rw [z]; exact hq)
    · have e1 : ds.drop i = [] := List.drop_eq_nil_of_le (by omega)
      rw [e1] at o2
      cases o2
      refine .inl ⟨it.stop i H2 k2 (by omega), ?_⟩
      exact fin q vacc H2 (k1.no q hq) hD (Rl.rest r1 no hpa hm k2 r2) (k1.trans k2) hR
  · rw [if_neg no] at o
    exact o.elim
def yes : M Bool := ret true
structure RTs (X : Cx) (pa : Pa) (ifs : List Expr) (c : M Bool) : Prop where
  pts : PTs X ifs (Et X.K pa W0 c)
theorem _root_.L2.PTs.imp {X : Cx} {e : List Expr} {t t' : TT} (h : PTs X e t) (q : ∀ σ H Q, t' σ H Q → t σ H Q) : PTs X e t' := ⟨fun pins s σ H Q I z => h.run pins s σ H Q I (q σ H Q z)⟩
theorem rts_nil : RTs X pa [] yes := ⟨pts_nil.imp fun σ H Q ⟨ms, os, g, r, z⟩ => z H r .refl⟩
theorem rts_one {c : Expr} {m : M Bool} (h : RT X pa W0 c m) : RTs X pa [c] m := ⟨pts_one h.pt⟩
theorem rn_lc {elt iter : Expr} {ifs : List Expr} {scope : Scope} {own : List (Str × Nat)} {is : List Nat} {m : M (List D)} {t : Tg} {c : M Bool} {me : M Op} (hc : X.calm = true) (hN : X.N.Nodup) (hi : RI X pa W tg iter m) (ok : BlkOk X.N X.env.scope scope own) (his : ∀ i ∈ is, i ∈ own.map (·.2))
    (hg : ∀ (s : Shared) (H : Hp) (C : Addr) (cl : List (Str × Addr)) (fp : List Addr), RG (X.blk s H scope (compEnvC scope cl C X.env) fp) pa tg is t) (ht : ∀ (s : Shared) (H : Hp) (C : Addr) (cl : List (Str × Addr)) (fp : List Addr), RTs (X.blk s H scope (compEnvC scope cl C X.env) fp) pa ifs c)
    (he : ∀ (s : Shared) (H : Hp) (C : Addr) (cl : List (Str × Addr)) (fp : List Addr), RO (X.blk s H scope (compEnvC scope cl C X.env) fp) pa W0 elt me) (hs : ∀ x, foldedSetIterable iter X.env x = pure x := by intro _; rfl) :
    RN X pa W (.ListComp elt [⟨tg, iter, ifs, 0⟩] scope pos) (cmp (own.map (·.2)) m t c me) :=
  ⟨(pe_lc hc hN hi.pi ok (fun s H C cl fp => (hg s H C cl fp).pg) (fun s H C cl fp => (ht s H C cl fp).pts) (fun s H C cl fp => (he s H C cl fp).pe) hs).imp fun σ H Q z => lc_read (elt := elt) his z⟩
theorem ps_lcSet {i : Nat} {y : Str} {py : Pos} {elt iter : Expr} {ifs : List Expr} {scope : Scope} {own : List (Str × Nat)} {spos : Pos} {is : List Nat} {m : M (List D)} {t : Tg} {c : M Bool} {me : M Op} (hc : X.calm = true) (hN : X.N.Nodup) (hy : X.N[i]? = some y) (hyl : X.env.scope.names.lookup y = some .local)
    (hsw : swapsWith (.ListComp elt [⟨tg, iter, ifs, 0⟩] scope pos) (some (.Name y py)) spos.line X.env = pure true) (hi : RI X pa W tg iter m) (ok : BlkOk X.N X.env.scope scope own) (his : ∀ i ∈ is, i ∈ own.map (·.2))
    (hg : ∀ (s : Shared) (H : Hp) (C : Addr) (cl : List (Str × Addr)) (fp : List Addr), RG (X.blk s H scope (compEnvC scope cl C X.env) fp) pa tg is t) (ht : ∀ (s : Shared) (H : Hp) (C : Addr) (cl : List (Str × Addr)) (fp : List Addr), RTs (X.blk s H scope (compEnvC scope cl C X.env) fp) pa ifs c)
    (he : ∀ (s : Shared) (H : Hp) (C : Addr) (cl : List (Str × Addr)) (fp : List Addr), RO (X.blk s H scope (compEnvC scope cl C X.env) fp) pa W0 elt me) (hs : ∀ x, foldedSetIterable iter X.env x = pure x := by intro _; rfl) :
    PS X (.Assign [.Name y py] (.ListComp elt [⟨tg, iter, ifs, 0⟩] scope pos) spos) (fun D σ H => Enw X.K pa W (cmp (own.map (·.2)) m t c me) σ H fun v H1 => D.nx (σ.set i (some v)) H1) :=
  (ps_setLc hc hN hy hyl hsw hi.pi ok (fun s H C cl fp => (hg s H C cl fp).pg) (fun s H C cl fp => (ht s H C cl fp).pts) (fun s H C cl fp => (he s H C cl fp).pe) hs).imp fun D σ H z => lc_read (elt := elt) his z
/-- y = [..], the list y's own (changed later), or a value -/
theorem rs_lcNew {i : Nat} {st : Stmt} {m : M (List D)} (h : PS X st (fun D σ H => Enw X.K pa W m σ H fun v H1 => D.nx (σ.set i (some v)) H1)) : RS X pa W st (sNew i (bnd m fun xs => ret (.ls xs))) :=
  ⟨h.imp fun D σ H ⟨ms, os, g, r, z⟩ => ⟨ms, os, g, r, (new_fin r z).bnd.mono (fun xs g1 q p vs H1 hp e r1 k rep => q p H1 hp r1 k ⟨vs, e, rep⟩) fun _ _ q => q⟩⟩
theorem rs_lcVal {i : Nat} {st : Stmt} {m : M (List D)} (h : PS X st (fun D σ H => Enw X.K pa W m σ H fun v H1 => D.nx (σ.set i (some v)) H1)) : RS X pa W st (sAsg (bnd m fun xs => ret (.lst xs)) (tName i)) :=
  ⟨h.imp fun D σ H ⟨ms, os, g, r, z⟩ => ⟨ms, os, g, r, (thenE.out z).bnd.mono (fun xs g1 q p vs H1 hp e r1 k1 rep => by
    have q : Fin X.K pa W D ms os H (match tName i (.lst xs) g1 with
      | some g' => Ro.nx g'
      | none => Ro.bad) := q
    cases e1 : tName i (.lst xs) g1 with
    | none => rw [e1] at q; exact q.elim
    | some g2 =>
      rw [e1] at q
      have r2 : Rl X.K pa ms os σ H1 g1 := r1.less (fun a q => .inl q) r.sub
      have rp : Rep X.K ms H1 (.ref p) (.lst xs) := .lst (fun q => r.dom p q hp) e (rep.anti fun a q => .inl (.inl q))
      exact q ms os _ H1 (r2.setV e1 rp) (.same k1)) fun _ _ q => q⟩⟩
end
end Mir

namespace Mir
open PySem L2
/-! built-in functions on data -/
section
variable {K : PySem.W.Frag}
theorem on1 {r : List V → Hp → VK → Prop} {f : D → Option D} (h : ∀ (ms os : Addr → Prop) (H : Hp) (Q : VK) (v : V) (x z : D), (∀ a, os a → ms a) → (∀ a, ms a → H a ≠ none) → RepB K ms os H v x → f x = some z → (∀ u H', Kp NoW H H' → Rep K ms H' u z → Q u H') → r [v] H Q) : OpN K r (fun ds => match ds with
    | [d] => f d
    | _ => none) := fun ms os H Q vs xs z hs hd p e hQ => by
  cases p with
  | nil => cases e
  | cons a l =>
    cases l with
    | nil => exact h ms os H Q _ _ z hs hd a e hQ
    | cons b l => cases e
theorem on2 {r : List V → Hp → VK → Prop} {f : D → D → Option D} (h : ∀ (ms os : Addr → Prop) (H : Hp) (Q : VK) (v w : V) (x y z : D), (∀ a, os a → ms a) → (∀ a, ms a → H a ≠ none) → RepB K ms os H v x → RepB K ms os H w y → f x y = some z → (∀ u H', Kp NoW H H' → Rep K ms H' u z → Q u H') → r [v, w] H Q) : OpN K r (fun ds => match ds with
    | [d, d'] => f d d'
    | _ => none) := fun ms os H Q vs xs z hs hd p e hQ => by
  cases p with
  | nil => cases e
  | cons a l =>
    cases l with
    | nil => cases e
    | cons b l =>
      cases l with
      | nil => exact h ms os H Q _ _ _ _ z hs hd a b e hQ
      | cons b l => cases e
def absD : D → Option D
  | .int i => some (.int (if i < 0 then -i else i))
  | _ => none
def absN : List D → Option D := fun ds => match ds with
  | [d] => absD d
  | _ => none
theorem on_abs : OpN K (fun xs H Q => ∃ i, xs = [.int i] ∧ Q (.int (if i < 0 then -i else i)) H) absN := on1 fun ms os H Q v x z _ _ hv e hQ => by
  cases x <;> cases e
  exact ⟨_, by rw [hv.int], hQ _ H .refl (.int _)⟩
def negD : D → Option D
  | .int i => some (.int (-i))
  | _ => none
theorem on_neg : OpN K (fun vs H Q => ∃ v, vs = [v] ∧ rU (fun i => V.int (-i)) v H Q) (fun ds => match ds with | [d] => negD d | _ => none) := on1 fun ms os H Q v x z _ _ hv e hQ => by
  cases x <;> cases e
  exact ⟨v, rfl, _, hv.int, hQ _ H .refl (.int _)⟩
def intD : D → Option D
  | .int i => some (.int i)
  | .bl b => some (.int (if b then 1 else 0))
  | _ => none
def intN : List D → Option D := fun ds => match ds with
  | [d] => intD d
  | _ => none
theorem on_int : OpN K (fun xs H Q => (∃ i, xs = [.int i] ∧ Q (.int i) H) ∨ ∃ k, xs = [.bl k] ∧ Q (.int (if k then 1 else 0)) H) intN := on1 fun ms os H Q v x z _ _ hv e hQ => by
  cases x <;> cases e
  · exact .inr ⟨_, by rw [hv.bl], hQ _ H .refl (.int _)⟩
  · exact .inl ⟨_, by rw [hv.int], hQ _ H .refl (.int _)⟩
def maxD : D → D → Option D
  | .int i, .int j => some (.int (if j > i then j else i))
  | _, _ => none
def maxN : List D → Option D := fun ds => match ds with
  | [d, d'] => maxD d d'
  | _ => none
theorem on_max : OpN K (fun xs H Q => ∃ i j, xs = [.int i, .int j] ∧ Q (.int (if j > i then j else i)) H) maxN := on2 fun ms os H Q v w x y z _ _ hv hw e hQ => by
  cases x <;> cases y <;> cases e
  exact ⟨_, _, by rw [hv.int, hw.int], hQ _ H .refl (.int _)⟩
def minD : D → D → Option D
  | .int i, .int j => some (.int (if j < i then j else i))
  | _, _ => none
def minN : List D → Option D := fun ds => match ds with
  | [d, d'] => minD d d'
  | _ => none
theorem on_min : OpN K (fun xs H Q => ∃ i j, xs = [.int i, .int j] ∧ Q (.int (if j < i then j else i)) H) minN := on2 fun ms os H Q v w x y z _ _ hv hw e hQ => by
  cases x <;> cases y <;> cases e
  exact ⟨_, _, by rw [hv.int, hw.int], hQ _ H .refl (.int _)⟩
def lenD : D → Option D
  | .tup xs => some (.int xs.length)
  | .lst xs => some (.int xs.length)
  | .frl xs => some (.int xs.length)
  | .str x => if x.length ≤ 16777216 then some (.int x.length) else none
  | _ => none
def lenN : List D → Option D := fun ds => match ds with
  | [d] => lenD d
  | _ => none
theorem on_len : OpN K (fun xs H Q => ∃ x n, xs = [x] ∧ LenV K x H n ∧ Q (.int n) H) lenN := on1 fun ms os H Q v x z _ _ hv e hQ => by
  cases x with
  | tup xs =>
    cases e
    obtain ⟨a, vs, rfl, s, l⟩ := hv.tup
    exact ⟨_, xs.length, rfl, .inr ⟨vs, s, l.length.symm⟩, hQ _ H .refl (.int _)⟩
  | lst xs =>
    cases e
    obtain ⟨a, vs, rfl, s, l⟩ := hv.lst
    exact ⟨_, xs.length, rfl, .inl ⟨vs, SqL.of s, l.length.symm⟩, hQ _ H .refl (.int _)⟩
  | frl xs =>
    cases e
    obtain ⟨a, vs, rfl, s, l⟩ := hv.frl
    exact ⟨_, xs.length, rfl, .inl ⟨vs, s.sq, l.length.symm⟩, hQ _ H .refl (.int _)⟩
  | str x =>
    unfold lenD at e
    simp only at e
    split at e <;> cases e
    rename_i hx
    rw [hv.str]
    exact ⟨_, x.length, rfl, ⟨Nat.le_trans hx (by decide), rfl⟩, hQ _ H .refl (.int _)⟩
  | _ => cases e
def tupD : D → Option D
  | .tup xs => some (.tup xs)
  | .lst xs => some (.tup xs)
  | .frl xs => some (.tup xs)
  | _ => none
def tupN : List D → Option D := fun ds => match ds with
  | [d] => tupD d
  | _ => none
theorem on_tup : OpN K (fun xs H Q => ∃ p ys, xs = [.ref p] ∧ ((SqL K H p ys ∧ ∀ l, H l = none → Q (.ref l) (upd H l (.tup ys))) ∨ (SqT K H p ys ∧ Q (.ref p) H))) tupN := on1 fun ms os H Q v x z _ _ hv e hQ => by
  cases x with
  | tup xs =>
    cases e
    obtain ⟨a, vs, rfl, s, l⟩ := hv.tup
    exact ⟨_, _, rfl, .inr ⟨s, hQ _ H .refl (.tup s l)⟩⟩
  | lst xs =>
    cases e
    obtain ⟨a, vs, rfl, s, l⟩ := hv.lst
    refine ⟨_, _, rfl, .inl ⟨SqL.of s, fun p hp => ?_⟩⟩
    obtain ⟨k, rp⟩ := new_tup hp l
    exact hQ _ _ k rp
  | frl xs =>
    cases e
    obtain ⟨a, vs, rfl, s, l⟩ := hv.frl
    refine ⟨_, _, rfl, .inl ⟨s.sq, fun p hp => ?_⟩⟩
    obtain ⟨k, rp⟩ := new_tup hp l
    exact hQ _ _ k rp
  | _ => cases e
def bls : List D → Option (List Bool)
  | [] => some []
  | .bl b :: r => (bls r).map (b :: ·)
  | _ => none
theorem bls_ok {ms : Addr → Prop} {H : Hp} : ∀ {xs : List D} {vs : List V} {bs : List Bool}, RepL K ms H vs xs → bls xs = some bs → vs = bs.map V.bl
  | [], _, _, .nil, e => by cases e; rfl
  | d :: r, _, _, .cons a l, e => by
    cases d with
    | bl b =>
      unfold bls at e
      obtain ⟨bs, h1, rfl⟩ := Option.map_eq_some_iff.mp e
      cases a
      rw [bls_ok l h1]; rfl
    | _ => cases e
def allD : D → Option D
  | .lst xs => (bls xs).map fun bs => .bl (bs.all id)
  | _ => none
def anyD : D → Option D
  | .lst xs => (bls xs).map fun bs => .bl (bs.any id)
  | _ => none
def allN : List D → Option D := fun ds => match ds with
  | [d] => allD d
  | _ => none
def anyN : List D → Option D := fun ds => match ds with
  | [d] => anyD d
  | _ => none
theorem on_all : OpN K (rAll K) allN := on1 fun ms os H Q v x z _ _ hv e hQ => by
  cases x with
  | lst xs =>
    obtain ⟨a, vs, rfl, s, l⟩ := hv.lst
    obtain ⟨bs, h1, rfl⟩ := Option.map_eq_some_iff.mp e
    have := bls_ok l h1
    subst this
    exact ⟨a, bs, rfl, SqL.of s, hQ _ H .refl (.bl _)⟩
  | _ => cases e
theorem on_any : OpN K (rAny K) anyN := on1 fun ms os H Q v x z _ _ hv e hQ => by
  cases x with
  | lst xs =>
    obtain ⟨a, vs, rfl, s, l⟩ := hv.lst
    obtain ⟨bs, h1, rfl⟩ := Option.map_eq_some_iff.mp e
    have := bls_ok l h1
    subst this
    exact ⟨a, bs, rfl, SqL.of s, hQ _ H .refl (.bl _)⟩
  | _ => cases e
/-! isinstance -/
def tyD : D → Option String
  | .non => some "NoneType"
  | .bl _ => some "bool"
  | .int _ => some "int"
  | .str _ => some "str"
  | .tup _ => some "tuple"
  | .lst _ => some "list"
  | .frl _ => some "list"
  | _ => none
def isT (a b : String) : Option Bool :=
  if b = "int" then some (a == "int" || a == "bool") else if b = "bool" then some (a == "bool") else if b = "str" then some (a == "str") else if b = "tuple" then some (a == "tuple") else if b = "list" then some (a == "list") else if b = "dict" then some (a == "dict") else none
def isiD : D → D → Option D
  | x, .ty b => match tyD x with
    | some a => (isT a b).map .bl
    | none => none
  | _, _ => none
def isiN : List D → Option D := fun ds => match ds with
  | [d, d'] => isiD d d'
  | _ => none
def tyNames : List String := ["NoneType", "bool", "int", "str", "tuple", "list", "dict"]
theorem isT_all : (tyNames.all fun a => ["int", "bool", "str", "tuple", "list", "dict"].all fun b => kitB a b == isT a b) = true := by decide +kernel
theorem tyD_mem {x : D} {a : String} (h : tyD x = some a) : a ∈ tyNames := by
  cases x <;> cases h <;> decide
theorem isT_kit {a b : String} {r : Bool} (ha : a ∈ tyNames) (h : isT a b = some r) : kitB a b = some r := by
  have hb : b ∈ ["int", "bool", "str", "tuple", "list", "dict"] := by
    unfold isT at h
    repeat' split at h
    all_goals first
      | (subst b; decide)
      | cases h
  have z := List.all_eq_true.mp (List.all_eq_true.mp isT_all a ha) b hb
  rw [← h]
  exact eq_of_beq z
theorem RepB.tyx {ms os : Addr → Prop} {H : Hp} {v : V} {x : D} {a : String} (r : RepB K ms os H v x) (h : tyD x = some a) : TyX K H v (.type a) := by
  cases x with
  | non => cases h; rw [r.non]; exact .base .non
  | bl b => cases h; rw [r.bl]; exact .base (.bl b)
  | int i => cases h; rw [r.int]; exact .base (.int i)
  | str s => cases h; rw [r.str]; exact .base (.str s)
  | tup xs =>
    cases h
    obtain ⟨a, vs, rfl, s, l⟩ := r.tup
    rcases s with (e | ⟨o, e⟩) | ⟨o, its, n, e, c, _⟩
    · exact .base (.tup e)
    · exact .fTuple e
    · exact .kTuple e c
  | lst xs =>
    cases h
    obtain ⟨a, vs, rfl, s, l⟩ := r.lst
    exact .base (.lst s)
  | frl xs =>
    cases h
    obtain ⟨a, vs, rfl, s, l⟩ := r.frl
    rcases s with ⟨o, e⟩ | ⟨o, its, n, e, c, _⟩
    · exact .base (.frz e)
    · exact .kList e c
  | dct ks vs => cases h
  | dtt ks vs => cases h
  | obj C ns vs => cases h
  | ref a => cases h
  | cl a => cases h
  | fn a => cases h
  | ty n => cases h
theorem on_isi : OpN K (rIsi K) isiN := on2 fun ms os H Q v w x y z _ _ hv hw e hQ => by
  unfold isiD at e
  split at e
  · rename_i b
    split at e
    · rename_i a ha
      obtain ⟨r, h1, rfl⟩ := Option.map_eq_some_iff.mp e
      rw [hw.ty]
      exact ⟨v, _, _, _, r, rfl, .ty b, hv.tyx ha, kit_ty (isT_kit (tyD_mem ha) h1), hQ _ H .refl (.bl r)⟩
    · cases e
  · cases e
theorem rep_ty {ms : Addr → Prop} {H : Hp} {n : String} : Rep K ms H (.ty n) (.ty n) := .ty n
end
/-! a def's body -/
def fin1 : Ro → Fd
  | .rt (.va d) _ => .ok d
  | .rt (.ow m) _ => .new m
  | .nx _ => .ok .non
  | .ex x _ => .ex x
  | _ => .bad
def fnD (k : Nat) (b : Ms) : List D → Fd := fun ds => fin1 (b (ds.map .va ++ List.replicate k .no))
def fin2 : Ro → Fm
  | .rt (.va d) g => match gt g 0 with
    | .pm m => .ok d m
    | _ => .bad
  | .rt (.ow o) g => match gt g 0 with
    | .pm m' => .new o m'
    | _ => .bad
  | .nx g => match gt g 0 with
    | .pm m => .ok .non m
    | _ => .bad
  | .ex x g => match gt g 0 with
    | .pm m => .ex x m
    | _ => .bad
  | _ => .bad
def fnM (k : Nat) (b : Ms) : Mo → List D → Fm := fun m ds => fin2 (b (.pm m :: ds.map .va ++ List.replicate k .no))
theorem gt_args {ds : List D} {k i : Nat} {s : Sl} (h : gt (ds.map .va ++ List.replicate k .no) i = s) (hs : s ≠ .no) : ∃ d, ds[i]? = some d ∧ s = .va d := by
  rw [gt_eq, List.getElem?_append] at h
  split at h
  · rw [List.getElem?_map] at h
    cases e : ds[i]? with
    | none => rw [e] at h; exact absurd h.symm hs
    | some d => rw [e] at h; exact ⟨d, rfl, h.symm⟩
  · rw [List.getElem?_replicate] at h
    split at h <;> exact absurd h.symm hs
section
variable {P : Program} {w : World} {K : PySem.W.Frag} {mg : Str → Option Value} {base : Heap} {T : List Addr} {x qual : Str} {params : Arguments} {body : List Stmt} {scope : Scope} {dvs : List V} {kws : List (Str × V)} {f : Addr} {fd : FuncData} {N ps : List Str} {k j : Nat} {m : Ms}
abbrev defW (E : XK) : WX := fun cls d _ H => E cls d H
/-- the def's context, at an entry -/
abbrev dcx (P : Program) (w : World) (K : PySem.W.Frag) (mg : Str → Option Value) (base : Heap) (N : List Str) (qual : Str) (scope : Scope) (f : Addr) (cd : Value) (A : Around) (outer : List Env) (s : Shared) (H : Hp) (E : XK) : Cx := cxOf (L2.CX P w) P w K mg base N qual scope f cd A outer s H E
theorem start_get {vs : List V} {i : Nat} {v : V} (h : vs[i]? = some v) : (L2.start N vs)[i]? = some (some v) := by
  unfold L2.start
  rw [List.getElem?_append_left (by rw [List.length_map]; exact (List.getElem?_eq_some_iff.mp h).1), List.getElem?_map, h]; rfl
theorem start_len {vs : List V} (h : vs.length ≤ N.length) : (L2.start N vs).length = N.length := by
  unfold L2.start
  rw [List.length_append, List.length_map, List.length_replicate]; omega
theorem pre_len {l ps : List Str} (h : l.take ps.length = ps) : ps.length ≤ l.length := by
  have := congrArg List.length h
  rw [List.length_take] at this
  omega
theorem XRep.up {ms ms' : Addr → Prop} {H : Hp} {x : Xn} {c : Value} {dx : Option Addr} (xr : XRep K ms' H x c dx) (h : ∀ a, ms a → ms' a ∨ H a = none) : XRep K ms H x c dx := by
  refine ⟨xr.1, ?_⟩
  have x2 := xr.2
  cases hf : x.fs with
  | none => rw [hf] at x2; exact x2
  | some fs =>
    rw [hf] at x2
    obtain ⟨a, vs, e1, n, e2, e3, e4⟩ := x2
    exact ⟨a, vs, e1, (fun z => (h a z).elim n fun q => by rw [q] at e2; exact nomatch e2), e2, e3, e4.anti h⟩
/-- what was kept apart at the entry is so at the end -/
theorem Ks.back {ms os ms' os' : Addr → Prop} {H H' : Hp} (k : Ks ms os H ms' os' H') (hd : ∀ a, ms a → H a ≠ none) (ho : ∀ a, os a → ms' a) : ∀ a, ms a → ms' a ∨ H' a = none := fun a z => .inl ((k.up a z).elim id fun q => q.elim (ho a) fun e => absurd e (hd a z))
/-- the entry of a def of data -/
theorem rl_D {ms : Addr → Prop} {H : Hp} {vs : List V} {ds : List D} (S : FnScope N ps scope) (hj : ps.length + j = N.length) (hd : ∀ a, ms a → H a ≠ none) (tb : TbsG T H) (r : RepL K ms H vs ds) (hl : ds.length = ps.length) :
    Rl K ⟨fun _ => none, T, none⟩ ms NoW (L2.start N vs) H (ds.map .va ++ List.replicate j .no) := by
  refine ⟨fun i d e => ?_, fun i m e => ?_, fun i l m m' p e _ _ _ => ?_, fun i m p e _ => ?_, fun i p e => (nomatch e), ?_, fun a z => z.elim, hd, fun i m j k m2 e _ _ => ?_, tb, fun i fs e => ?_⟩
  · obtain ⟨d', h1, h2⟩ := gt_args e (fun z => nomatch z)
    cases h2
    obtain ⟨u, h3, h4⟩ := r.get h1
    exact ⟨u, start_get h3, h4⟩
  · obtain ⟨d', h1, h2⟩ := gt_args rfl (fun z => by rw [z] at e; cases e)
    rw [h2] at e; cases e
  · obtain ⟨d', h1, h2⟩ := gt_args rfl (fun z => by rw [z] at e; cases e)
    rw [h2] at e; cases e
  · obtain ⟨d', h1, h2⟩ := gt_args e (fun z => nomatch z)
    cases h2
  · rw [start_len (by rw [r.length, hl]; exact pre_len S.pre), List.length_append, List.length_map, List.length_replicate, hl, hj]
    exact Nat.le_refl _
  · obtain ⟨d', h1, h2⟩ := gt_args rfl (fun z => by rw [z] at e; cases e)
    rw [h2] at e; cases e
  · obtain ⟨d', h1, h2⟩ := gt_args e (fun z => nomatch z)
    cases h2
/-- the end of a def of data -/
theorem fin_D {ms : Addr → Prop} {H : Hp} {Q : VK} {E : XK} {r : Ro} (hd : ∀ a, ms a → H a ≠ none) (h : match fin1 r with
    | .ok d => ∀ v H', Kp NoW H H' → Rep K ms H' v d → Q v H'
    | .new o => ∀ p H', H p = none → Kp NoW H H' → MRep K (plus ms p) H' p o → Q (.ref p) H'
    | .ex x => ∀ c dx H', Kp NoW H H' → XRep K ms H' x c dx → E c dx H'
    | .bad => False) : Fin K ⟨fun _ => none, T, none⟩ (defW E) { nx := fun _ H' => Q .non H', rt := Q } ms NoW H r := by
  cases r with
  | nx g => exact fun ms' os' σ' H' r' k' => h .non H' k'.kp .non
  | rt sl g =>
    cases sl with
    | va d => exact fun ms' os' σ' H' v r' k' rp => h v H' k'.kp (Rep.anti rp (k'.back hd fun _ q => q.elim))
    | ow mo =>
      intro ms' os' σ' H' v r' k' rp
      obtain ⟨p, rfl, hp, hm, _⟩ := rp
      have hn : H p = none := (k'.og p hp).elim (fun z => z.elim) id
      exact h p H' hn k'.kp (hm.anti fun a z => z.elim (k'.back hd (fun _ q => q.elim) a) fun z => by rw [z]; exact .inl (r'.sub p hp))
    | no => exact h.elim
    | pm mo => exact h.elim
    | gh mo => exact h.elim
    | er mo => exact h.elim
  | ex x g => exact fun ms' os' σ' H' c dx r' k' xr => h c dx H' k'.kp (xr.up (k'.back hd fun _ q => q.elim))
  | bk g => exact h.elim
  | ct g => exact h.elim
  | bad => exact h.elim
theorem def_okD (F : L2.FunD K x qual params body scope dvs kws f fd) (S : FnScope N ps scope) (hj : ps.length + j = N.length)
    (hb : ∀ (cdv : Value) (A : Around) (outer : List Env) (s : Shared) (H : Hp) (E : XK) (pa : Nat → Option Addr), CodeAt K f cdv → Gd k P base (dcx P w K mg base N qual scope f cdv A outer s H E).A → Room k (dcx P w K mg base N qual scope f cdv A outer s H E).A → RSs (dcx P w K mg base N qual scope f cdv A outer s H E) ⟨pa, T, none⟩ (defW E) body m) :
    FnG P w K mg base T (L2.CX P w) (k + 1) f fd ps (spD K ps.length (fnD j m)) := by
  refine funG F S (fun vs H Q E ⟨ms, ds, _, r, hl, _⟩ => by rw [r.length]; exact hl) fun cdv A outer s H vs Q E ca gd hr tb h => ⟨_, (hb cdv A outer s H E (fun _ => none) ca gd hr).ps, ?_⟩
  obtain ⟨ms, ds, hd, r, hl, h⟩ := h
  exact ⟨ms, NoW, _, rl_D S hj hd tb r hl, fin_D hd h⟩
theorem rl_M {ms : Addr → Prop} {H : Hp} {p : Addr} {m0 : Mo} {ws : List V} {ds : List D} (S : FnScope N ps scope) (hj : ps.length + j = N.length) (hp : ms p) (hd : ∀ a, ms a → H a ≠ none) (hm : MRep K ms H p m0) (tb : TbsG T H) (r : RepL K ms H ws ds) (hl : ds.length + 1 = ps.length) :
    Rl K ⟨fun i => if i = 0 then some p else none, T, none⟩ ms (fun a => a = p) (L2.start N (.ref p :: ws)) H (.pm m0 :: ds.map .va ++ List.replicate j .no) := by
  have g0 : gt (.pm m0 :: ds.map .va ++ List.replicate j .no) 0 = .pm m0 := rfl
  have gs : ∀ i, gt (.pm m0 :: ds.map .va ++ List.replicate j .no) (i + 1) = gt (ds.map .va ++ List.replicate j .no) i := fun _ => rfl
  have s0 : (L2.start N (.ref p :: ws))[0]? = some (some (.ref p)) := start_get rfl
  have only : ∀ i m, (gt (.pm m0 :: ds.map .va ++ List.replicate j .no) i).mo = some m → i = 0 ∧ m = m0 := fun i m e => by
    cases i with
    | zero => rw [g0] at e; cases e; exact ⟨rfl, rfl⟩
    | succ i =>
      rw [gs] at e
      obtain ⟨d', h1, h2⟩ := gt_args rfl (fun z => by rw [z] at e; cases e)
      rw [h2] at e; cases e
  refine ⟨fun i d e => ?_, fun i m e => ?_, fun i l m m' q e e' _ _ => ?_, fun i m q e e' => ?_, fun i q e => ?_, ?_, fun a z => by rw [z]; exact hp, hd, fun i m j k m2 e1 e2 e3 => ?_, tb, fun i fs e => ?_⟩
  · cases i with
    | zero => rw [g0] at e; cases e
    | succ i =>
      rw [gs] at e
      obtain ⟨d', h1, h2⟩ := gt_args e (fun z => nomatch z)
      cases h2
      obtain ⟨u, h3, h4⟩ := r.get h1
      exact ⟨u, start_get (i := i + 1) h3, h4⟩
  · obtain ⟨rfl, rfl⟩ := only i m e
    exact ⟨p, s0, rfl, hm⟩
  · obtain ⟨rfl, rfl⟩ := only i m e
    obtain ⟨rfl, rfl⟩ := only l m' e'
    rfl
  · obtain ⟨rfl, rfl⟩ := only i m (by rw [e]; rfl)
    rw [s0] at e'; cases e'; rfl
  · by_cases hi : i = 0
    · subst hi
      have : some p = some q := e
      cases this
      exact ⟨m0, rfl, s0⟩
    · have : (if i = 0 then some p else none) = some q := e
      rw [if_neg hi] at this; cases this
  · rw [start_len (by rw [List.length_cons, r.length, hl]; exact pre_len S.pre), List.length_append, List.length_cons, List.length_map, List.length_replicate]
    omega
  · obtain ⟨rfl, _⟩ := only k m2 (by rw [e3]; rfl)
    rw [g0] at e3; cases e3
  · cases i with
    | zero => rw [g0] at e; cases e
    | succ i =>
      rw [gs] at e
      obtain ⟨d', h1, h2⟩ := gt_args e (fun z => nomatch z)
      cases h2
theorem fin_M {ms : Addr → Prop} {H : Hp} {p : Addr} {Q : VK} {E : XK} {r : Ro} (hp : ms p) (hd : ∀ a, ms a → H a ≠ none) (h : match fin2 r with
    | .ok d m' => ∀ v H', Kp (fun a => a = p) H H' → MRep K ms H' p m' → Rep K ms H' v d → Q v H'
    | .new o m' => ∀ q H', H q = none → Kp (fun a => a = p) H H' → MRep K (plus ms q) H' p m' → MRep K (plus ms q) H' q o → Q (.ref q) H'
    | .ex x m' => ∀ c dx H', Kp (fun a => a = p) H H' → MRep K ms H' p m' → XRep K ms H' x c dx → E c dx H'
    | .bad => False) : Fin K ⟨fun i => if i = 0 then some p else none, T, none⟩ (defW E) { nx := fun _ H' => Q .non H', rt := Q } ms (fun a => a = p) H r := by
  have own : ∀ {ms' os' : Addr → Prop} {σ' : L2.St} {H' : Hp} {g : En}, Rl K ⟨fun i => if i = 0 then some p else none, T, none⟩ ms' os' σ' H' g → ∀ a, a = p → ms' a := fun {ms' os' σ' H' g} r' a e => by
    subst e
    obtain ⟨m, h1, h2⟩ := r'.pk 0 a rfl
    obtain ⟨b, b1, b2, _⟩ := r'.mo 0 m (by rw [h1]; rfl)
    rw [h2] at b1; cases b1
    exact r'.sub _ b2
  have pm_at : ∀ {ms' os' : Addr → Prop} {σ' : L2.St} {H' : Hp} {g : En} {m' : Mo}, Rl K ⟨fun i => if i = 0 then some p else none, T, none⟩ ms' os' σ' H' g → gt g 0 = .pm m' → MRep K ms' H' p m' := fun {ms' os' σ' H' g m'} r' e0 => by
    obtain ⟨q, h1, h2, h3⟩ := r'.mo 0 m' (by rw [e0]; rfl)
    have : some p = some q := r'.pm 0 m' q e0 h1
    cases this
    exact h3
  cases r with
  | nx g =>
    intro ms' os' σ' H' r' k'
    have bk := k'.back hd (own r')
    cases e0 : gt g 0 with
    | pm m' => simp only [fin2, e0] at h; exact h .non H' k'.kp ((pm_at r' e0).anti bk) .non
    | _ => simp only [fin2, e0] at h
  | rt sl g =>
    cases sl with
    | va d =>
      intro ms' os' σ' H' v r' k' rp
      have bk := k'.back hd (own r')
      cases e0 : gt g 0 with
      | pm m' => simp only [fin2, e0] at h; exact h v H' k'.kp ((pm_at r' e0).anti bk) (Rep.anti rp bk)
      | _ => simp only [fin2, e0] at h
    | ow mo =>
      intro ms' os' σ' H' v r' k' rp
      have bk := k'.back hd (own r')
      obtain ⟨q, rfl, hq, hmo, hn⟩ := rp
      have hqn : H q = none := (k'.og q hq).elim (fun z => absurd (show (if (0 : Nat) = 0 then some p else none) = some q by rw [if_pos rfl, z]) (hn 0)) id
      have bk2 : ∀ a, plus ms q a → ms' a ∨ H' a = none := fun a z => z.elim (bk a) fun z => by rw [z]; exact .inl (r'.sub q hq)
      cases e0 : gt g 0 with
      | pm m' => simp only [fin2, e0] at h; exact h q H' hqn k'.kp ((pm_at r' e0).anti bk2) (hmo.anti bk2)
      | _ => simp only [fin2, e0] at h
    | no => exact h.elim
    | pm mo => exact h.elim
    | gh mo => exact h.elim
    | er mo => exact h.elim
  | ex x g =>
    intro ms' os' σ' H' c dx r' k' xr
    have bk := k'.back hd (own r')
    cases e0 : gt g 0 with
    | pm m' => simp only [fin2, e0] at h; exact h c dx H' k'.kp ((pm_at r' e0).anti bk) (xr.up bk)
    | _ => simp only [fin2, e0] at h
  | bk g => exact h.elim
  | ct g => exact h.elim
  | bad => exact h.elim
theorem def_okM (F : L2.FunD K x qual params body scope dvs kws f fd) (S : FnScope N ps scope) (hj : ps.length + j = N.length)
    (hb : ∀ (cdv : Value) (A : Around) (outer : List Env) (s : Shared) (H : Hp) (E : XK) (pa : Nat → Option Addr), CodeAt K f cdv → Gd k P base (dcx P w K mg base N qual scope f cdv A outer s H E).A → Room k (dcx P w K mg base N qual scope f cdv A outer s H E).A → RSs (dcx P w K mg base N qual scope f cdv A outer s H E) ⟨pa, T, none⟩ (defW E) body m) :
    FnG P w K mg base T (L2.CX P w) (k + 1) f fd ps (spM K ps.length (fnM j m)) := by
  refine funG F S (fun vs H Q E ⟨ms, p, m, ws, ds, e, _, _, _, r, hl, _⟩ => by rw [e, List.length_cons, r.length]; exact hl) fun cdv A outer s H vs Q E ca gd hr tb h => ?_
  obtain ⟨ms, p, m0, ws, ds, rfl, hp, hd, hm, r, hl, h⟩ := h
  exact ⟨_, (hb cdv A outer s H E (fun i => if i = 0 then some p else none) ca gd hr).ps, ms, _, _, rl_M S hj hp hd hm tb r hl, fin_M hp hd h⟩
end
end Mir

namespace Mir
open PySem L2
structure CalD (P : Program) (w : World) (K : PySem.W.Frag) (mg : Str → Option Value) (base : Heap) (T : List Addr) (k : Nat) (x : Str) (n : Nat) (F : List D → Fd) (dfl : List D) : Prop where
  ex : ∃ (f : Addr) (fd : FuncData) (ps : List Str) (dvs : List V) (ds : List Value), FnG P w K mg base T (L2.CX P w) k f fd ps (spD K n F) ∧ mg x = some (.ref f) ∧ PySem.W.keepIn K (.ref f) = true ∧ Binds K fd ps ds ∧ Vals dvs ds ∧ ∀ ms H, RepL K ms H dvs dfl
structure CalM (P : Program) (w : World) (K : PySem.W.Frag) (mg : Str → Option Value) (base : Heap) (T : List Addr) (k : Nat) (x : Str) (n : Nat) (F : Mo → List D → Fm) (dfl : List D) : Prop where
  ex : ∃ (f : Addr) (fd : FuncData) (ps : List Str) (dvs : List V) (ds : List Value), FnG P w K mg base T (L2.CX P w) k f fd ps (spM K n F) ∧ mg x = some (.ref f) ∧ PySem.W.keepIn K (.ref f) = true ∧ Binds K fd ps ds ∧ Vals dvs ds ∧ ∀ ms H, RepL K ms H dvs dfl
section
variable {X : Cx} {pa : Pa} {W : WX} {pos p : Pos} {e : Expr} {es : List Expr} {k j n : Nat} {x : Str} {F : List D → Fd} {FM : Mo → List D → Fm} {dfl : List D} {m : M (List Op)}
theorem re_callC (c : CalD X.prog X.w X.K X.mg X.base pa.T j x n F dfl) (gd : Gd k X.prog X.base X.A) (hr : Room k X.A) (tk : Takes X W) (ha : RA X pa W (e :: es) m) (hk : j ≤ k := by decide) (hg : Gl X x := by rfl) (hdb : (x == ("__debug__" : Str)) = false := by decide)
    (he : starEach (e :: es) X.env = (false, eval e X.env) :: starEach es X.env := by rfl) (hpl : (backTo pos (starEach es X.env)).any (·.1) = false := by rfl) : RE X pa W (.Call (.Name x p) (e :: es) [] pos) (bnd m (callF n F dfl)) := by
  obtain ⟨f, fd, ps, dvs, ds, h1, h2, h3, h4, h5, h6⟩ := c.ex
  exact re_call h1 (gd.mono hk) (hr.mono hk) tk hg h2 h3 h4 h5 h6 ha hdb he hpl
theorem rn_callC (c : CalD X.prog X.w X.K X.mg X.base pa.T j x n F dfl) (gd : Gd k X.prog X.base X.A) (hr : Room k X.A) (tk : Takes X W) (ha : RA X pa W (e :: es) m) (hk : j ≤ k := by decide) (hg : Gl X x := by rfl) (hdb : (x == ("__debug__" : Str)) = false := by decide)
    (he : starEach (e :: es) X.env = (false, eval e X.env) :: starEach es X.env := by rfl) (hpl : (backTo pos (starEach es X.env)).any (·.1) = false := by rfl) : RM X pa W (.Call (.Name x p) (e :: es) [] pos) (bnd m (callN n F dfl)) := by
  obtain ⟨f, fd, ps, dvs, ds, h1, h2, h3, h4, h5, h6⟩ := c.ex
  exact rn_call h1 (gd.mono hk) (hr.mono hk) tk hg h2 h3 h4 h5 h6 ha hdb he hpl
theorem re_callMC (c : CalM X.prog X.w X.K X.mg X.base pa.T j x n FM dfl) (gd : Gd k X.prog X.base X.A) (hr : Room k X.A) (tk : Takes X W) (ha : RA X pa W (e :: es) m) (hk : j ≤ k := by decide) (hg : Gl X x := by rfl) (hdb : (x == ("__debug__" : Str)) = false := by decide)
    (he : starEach (e :: es) X.env = (false, eval e X.env) :: starEach es X.env := by rfl) (hpl : (backTo pos (starEach es X.env)).any (·.1) = false := by rfl) : RE X pa W (.Call (.Name x p) (e :: es) [] pos) (bnd m (callM n FM dfl)) := by
  obtain ⟨f, fd, ps, dvs, ds, h1, h2, h3, h4, h5, h6⟩ := c.ex
  exact re_callM h1 (gd.mono hk) (hr.mono hk) tk hg h2 h3 h4 h5 h6 ha hdb he hpl
theorem rn_callMC (c : CalM X.prog X.w X.K X.mg X.base pa.T j x n FM dfl) (gd : Gd k X.prog X.base X.A) (hr : Room k X.A) (tk : Takes X W) (ha : RA X pa W (e :: es) m) (hk : j ≤ k := by decide) (hg : Gl X x := by rfl) (hdb : (x == ("__debug__" : Str)) = false := by decide)
    (he : starEach (e :: es) X.env = (false, eval e X.env) :: starEach es X.env := by rfl) (hpl : (backTo pos (starEach es X.env)).any (·.1) = false := by rfl) : RM X pa W (.Call (.Name x p) (e :: es) [] pos) (bnd m (callMN n FM dfl)) := by
  obtain ⟨f, fd, ps, dvs, ds, h1, h2, h3, h4, h5, h6⟩ := c.ex
  exact rn_callM h1 (gd.mono hk) (hr.mono hk) tk hg h2 h3 h4 h5 h6 ha hdb he hpl
end
section
variable {P : Program} {w : World} {K : PySem.W.Frag} {mg : Str → Option Value} {base : Heap} {T : List Addr} {x y qual : Str} {params : Arguments} {body : List Stmt} {scope : Scope} {dvs : List V} {kws : List (Str × V)} {f : Addr} {fd : FuncData} {ps : List Str} {k n : Nat} {F : List D → Fd} {FM : Mo → List D → Fm} {dfl : List D}
theorem CalD.mk0 (G : FunD K x qual params body scope [] kws f fd) (g : mg y = some (.ref f)) (ok : FnG P w K mg base T (L2.CX P w) k f fd ps (spD K n F))
    (h : ∀ (kV doc pm : Value) (an : Option Addr) (cdv ct : Value) (us : List Value), us.length = ps.length → bindArgs (PySem.W.fnOf x qual params body scope .none kV doc pm an cdv ct) ⟨us, []⟩ = pure (ps.zip us)) : CalD P w K mg base T k y n F [] :=
  ⟨f, fd, ps, [], [], ok, g, G.kp, G.bindsN h, .nil, fun _ _ => .nil⟩
theorem CalM.mk0 (G : FunD K x qual params body scope [] kws f fd) (g : mg y = some (.ref f)) (ok : FnG P w K mg base T (L2.CX P w) k f fd ps (spM K n FM))
    (h : ∀ (kV doc pm : Value) (an : Option Addr) (cdv ct : Value) (us : List Value), us.length = ps.length → bindArgs (PySem.W.fnOf x qual params body scope .none kV doc pm an cdv ct) ⟨us, []⟩ = pure (ps.zip us)) : CalM P w K mg base T k y n FM [] :=
  ⟨f, fd, ps, [], [], ok, g, G.kp, G.bindsN h, .nil, fun _ _ => .nil⟩
/-- n values are written, the defaults behind the first j fill up -/
theorem CalD.mk1 (a j : Nat) (G : FunD K x qual params body scope dvs kws f fd) (g : mg y = some (.ref f)) (ok : FnG P w K mg base T (L2.CX P w) k f fd ps (spD K n F)) (hd : dvs ≠ []) (hn : a + (dvs.length - j) = ps.length) (hr : ∀ ms H, RepL K ms H (dvs.drop j) dfl)
    (h : ∀ (T : Addr) (kV doc pm : Value) (an : Option Addr) (cdv ct : Value) (us its : List Value), us.length = a → its.length = dvs.length →
      ∃ k, bindArgs (PySem.W.fnOf x qual params body scope (.ref T) kV doc pm an cdv ct) ⟨us, []⟩ = seqItems? (.ref T) >>= k ∧ k (some its.toArray) = pure (ps.zip (us ++ its.drop j))) : CalD P w K mg base T k y n F dfl := by
  obtain ⟨ds, h1, h2⟩ := G.binds1 a j hd hn h
  exact ⟨f, fd, ps, _, ds, ok, g, G.kp, h2, h1, hr⟩
end
/-! names of the module -/
section
variable {X : Cx} {pa : Pa} {W : WX} {pos : Pos} {x : Str}
theorem re_tupK {a : Addr} {vs : List V} {ds : List D} (hm : X.mg x = some (.ref a)) (ht : ∀ H, SqT X.K H a vs) (hr : ∀ ms H, RepL X.K ms H vs ds) (hg : Gl X x := by rfl) (hd : (x == ("__debug__" : Str)) = false := by decide) : RE X pa W (.Name x pos) (ret (.tup ds)) :=
  re_glob hg hm (v := .ref a) rfl (fun ms H => .tup (ht H) (hr ms H)) hd
theorem re_intK {i : Int} (hm : ∃ t, X.mg x = some (.int i t)) (hg : Gl X x := by rfl) (hd : (x == ("__debug__" : Str)) = false := by decide) : RE X pa W (.Name x pos) (ret (.int i)) := by
  obtain ⟨t, ht⟩ := hm
  exact re_glob hg ht (v := .int i) ⟨t, rfl⟩ (fun _ _ => .int i) hd
theorem re_strK {i : Str} (hm : ∃ t, X.mg x = some (.str i t)) (hg : Gl X x := by rfl) (hd : (x == ("__debug__" : Str)) = false := by decide) : RE X pa W (.Name x pos) (ret (.str i)) := by
  obtain ⟨t, ht⟩ := hm
  exact re_glob hg ht (v := .str i) ⟨t, rfl⟩ (fun _ _ => .str i) hd
theorem re_bty {n : String} (hm : X.mg x = none) (hv : bootBuiltins x = some (.type n)) (hg : Gl X x := by rfl) (hn : x ≠ "__name__" := by decide) (hd : (x == ("__debug__" : Str)) = false := by decide) : RE X pa W (.Name x pos) (ret (.ty n)) :=
  re_const (pe_bltn hg hm hv (v := .ty n) rfl hn hd) fun _ _ => .ty n
end
theorem sqF_of {K : PySem.W.Frag} {H : Hp} {a : Addr} {us : List Addr} {xs : List V} (h : SqL K H a xs) (o : At0 H a us) : SqF K H a xs := by
  rcases h with (e | ⟨b, e⟩) | z
  · rcases o.only a with n | n | ⟨c, ys, n⟩
    · rw [n] at e; cases e
    · exact absurd n o.not
    · rw [n] at e; cases e
  · exact .inl ⟨b, e⟩
  · exact .inr z
theorem repL_ints {K : PySem.W.Frag} {ms : Addr → Prop} {H : Hp} : ∀ ns : List Int, RepL K ms H (ns.map V.int) (ns.map D.int)
  | [] => .nil
  | n :: r => .cons (.int n) (repL_ints r)
/-- the law's promise at the script -/
theorem law_sp {K : PySem.W.Frag} {F : List D → Fd} {a : Addr} {ns : List Int} {H : Hp} (hF : F [.frl (ns.map .int)] = .ok (.bl true)) (h : SqL K H a (ns.map V.int)) {us : List Addr} (o : At0 H a us) : spD K 1 F [.ref a] H (fun v _ => v = .bl true) fun _ _ _ => False :=
  ⟨NoW, [.frl (ns.map .int)], fun _ q => q.elim, .cons (.frl (sqF_of h o) (repL_ints ns)) .nil, rfl, by rw [hF]; exact fun v H' _ r => by cases r; rfl⟩
end Mir

namespace Mir
open PySem L2
section
variable {X : Cx} {K : PySem.W.Frag} {pa : Pa} {W : WX} {ms os : Addr → Prop} {σ : L2.St} {H : Hp} {g : En} {pos p : Pos} {e : Expr}
/-! a, b, c = e1, e2, e3 -/
def sPar3 (i j l : Nat) (m : M (List Op)) : Ms := thenE m fun xs g => match vls xs with
  | some [a, b, c] => match setV g i a with
    | some g1 => match setV g1 j b with
      | some g2 => match setV g2 l c with
        | some g3 => .nx g3
        | none => .bad
      | none => .bad
    | none => .bad
  | _ => .bad
theorem rs_par3 {i j l : Nat} {x y z : Str} {a b c : Expr} {m : M (List Op)} {px py pz pt : Pos} {kt k2 pt2} (hc : X.calm = true) (hN : X.N.Nodup) (hi : X.N[i]? = some x) (hj : X.N[j]? = some y) (hl : X.N[l]? = some z) (hij : i ≠ j) (hil : i ≠ l) (hjl : j ≠ l)
    (hx : X.env.scope.names.lookup x = some .local) (hy : X.env.scope.names.lookup y = some .local) (hz : X.env.scope.names.lookup z = some .local) (ha : RA X pa W [a, b, c] m)
    (hw : swappedStores [.Tuple [.Name x px, .Name y py, .Name z pz] kt pt] (.Tuple [a, b, c] k2 pt2) X.env = pure (some [x, y, z]))
    (hs : swapsWithSole [.Tuple [.Name x px, .Name y py, .Name z pz] kt pt] (.Tuple [a, b, c] k2 pt2) pos.line X.env = pure false := by rfl) :
    RS X pa W (.Assign [.Tuple [.Name x px, .Name y py, .Name z pz] kt pt] (.Tuple [a, b, c] k2 pt2) pos) (sPar3 i j l m) :=
  ⟨(ps_par3 hc hN hi hj hl hij hil hjl hx hy hz ha.pa hw hs).imp fun Z σ H ⟨ms, os, g, r, w⟩ => ⟨ms, os, g, r, (thenE.out w).mono (fun xs g1 o vs H1 r1 k1 rep => by
    cases e : vls xs with
    | none => rw [e] at o; exact o.elim
    | some ds =>
      rw [e] at o
      have rl := vls_ok rep e
      match ds, rl, o with
      | [a, b, c], .cons ra (.cons rb (.cons rc .nil)), o =>
        simp only at o
        cases e1 : setV g1 i a with
        | none => rw [e1] at o; exact o.elim
        | some g2 =>
          rw [e1] at o
          simp only at o
          cases e2 : setV g2 j b with
          | none => rw [e2] at o; exact o.elim
          | some g3 =>
            rw [e2] at o
            simp only at o
            cases e3 : setV g3 l c with
            | none => rw [e3] at o; exact o.elim
            | some g4 =>
              rw [e3] at o
              exact ⟨_, _, _, rfl, o ms os _ H1 (((r1.setV e1 ra).setV e2 rb).setV e3 rc) (.same k1)⟩) fun _ _ q => q⟩⟩
/-! xs[::-1] of a list -/
def revM (x : Op) : M (List D) := fun g => match res g x with
  | some (.lst xs) => .ok xs.reverse g
  | some (.frl xs) => .ok xs.reverse g
  | _ => .bad
theorem RepL.rev {vs : List V} {ds : List D} (r : RepL K ms H vs ds) : RepL K ms H vs.reverse ds.reverse := by
  induction ds generalizing vs with
  | nil => cases r; exact .nil
  | cons d ds ih =>
    cases r with
    | cons a l =>
      rw [List.reverse_cons, List.reverse_cons]
      exact (ih l).append (.cons a .nil)
theorem nw_laid {Q : VK} {xs : List D} {vs : List V} (r : Rl K pa ms os σ H g) (l : RepL K ms H vs xs) (o : Nw K pa ms os σ H Q xs g) : ∀ p, H p = none → Q (.ref p) (upd H p (.lst vs)) := fun p hp =>
  o p vs _ hp upd_same (r.laid hp) (.new hp) (l.move (W := NoW) (.new hp) (fun _ q => q.elim) fun a q => q.imp id fun z => by rw [z]; exact hp)
theorem rn_rev {m : M Op} {k : Nat} {p1 p2 p3 : Pos} (h : RO X pa W e m) : RN X pa W (.Subscript e (.Slice none none (some (.UnaryOp .USub (.Constant (.int 1) k p1) p2)) p3) pos) (bnd m revM) :=
  ⟨(pe_revL h.pe).imp fun σ H Q ⟨ms, os, g, r, z⟩ => Eo.step (P := fun H1 => Nw X.K pa ms os σ H1 Q) r z (fun xs g' H1 q k p vs H' hp e r' k' rep => q p vs H' (k.2 p hp) e r' (k.trans k') rep) fun v x H1 g1 r1 k1 rep o => by
    unfold revM at o
    cases e1 : res g1 x with
    | none => rw [e1] at o; exact o.elim
    | some d =>
      rw [e1] at o
      have rb := rep.res r1 e1
      cases d with
      | lst xs =>
        obtain ⟨a, vs, rfl, s, l⟩ := rb.lst
        exact ⟨a, vs, rfl, SqL.of s, nw_laid r1 l.rev o⟩
      | frl xs =>
        obtain ⟨a, vs, rfl, s, l⟩ := rb.frl
        exact ⟨a, vs, rfl, s.sq, nw_laid r1 l.rev o⟩
      | _ => exact o.elim⟩
/-! repr -/
def showOk (d : PyData) : Bool := d.showable && SeqAt.shaped d && decide (d.shown.length ≤ 16777216)
def reprD (d : D) : Option D := match d.py with
  | some p => if showOk p then some (.str p.shown) else none
  | none => none
def reprN : List D → Option D := fun ds => match ds with
  | [d] => reprD d
  | _ => none
def rRepr (K : PySem.W.Frag) : List V → Hp → VK → Prop := fun vs H Q => ∃ v d, vs = [v] ∧ Dp K H v d ∧ showOk d = true ∧ Q (.str d.shown) H
theorem call_reprX (gd : X.A.guards = some []) (hu : X.A.units + 200 < cLine) : CallR X (.builtin "repr") (rRepr X.K) := by
  intro pins s σ H vs us Q I r want
  obtain ⟨v, d, rfl, hd, ok, q⟩ := want
  obtain ⟨u, rfl, ru⟩ := vals1 r
  unfold showOk at ok
  obtain ⟨ok1, ok3⟩ := Bool.and_eq_true_iff.mp ok
  obtain ⟨ok1, ok2⟩ := Bool.and_eq_true_iff.mp ok1
  have ok3 := of_decide_eq_true ok3
  have hz : d.shown.length ≤ sizeLine := Nat.le_trans ok3 (by decide)
  have dep := SeqAt.depth_of_shaped ok2
  have lay := SeqAt.canLay_of_shaped ok2
  have done : ∀ (h' : Heap) (t : Tok) (tk : Nat), (∀ b o, s.heap.get? b = some o → h'.get? b = some o) → EP X pins σ Q (.str d.shown t) { s with heap := h', toks := tk } := fun h' t tk k => ⟨.str d.shown, H, I.kept (t' := tk) k, ⟨t, rfl⟩, q⟩
  cases hd with
  | non =>
    cases (show u = Value.none from ru)
    exact PySem.P.repr_of_none (by simpa [PyData.shown] using done s.heap s.toks (s.toks + 1) fun _ _ z => z)
  | bl b =>
    cases (show u = Value.bool b from ru)
    exact PySem.P.repr_of_bool (by simpa [PyData.shown] using done s.heap s.toks (s.toks + 1) fun _ _ z => z)
  | int i =>
    obtain ⟨t, rfl⟩ := (show ∃ t, u = Value.int i t from ru)
    have : i.natAbs.log2 < 1920 := by simpa [PyData.showable] using ok1
    exact PySem.P.repr_of_int this (by simpa [PyData.shown] using done s.heap s.toks (s.toks + 1) fun _ _ z => z)
  | str x =>
    obtain ⟨t, rfl⟩ := (show ∃ t, u = Value.str x t from ru)
    exact PySem.P.repr_of_str (by simpa [PyData.shown] using done s.heap s.toks (s.toks + 1) fun _ _ z => z) (by simpa [PyData.shown] using hz)
  | @lst a xs ds s1 l1 =>
    cases (show u = Value.ref a from ru)
    obtain ⟨as, rd⟩ := Dp.reads I _ _ _ (.lst s1 l1) ru
    exact repr_of_reads' rd ok1 (PyData.noDict_hsm (PyData.hasDict_of_canLay _ lay)) gd (by omega) (fun _ _ z => z) (fun h' t tk k => done h' t tk k) hz
  | @tup a xs ds s1 l1 =>
    cases (show u = Value.ref a from ru)
    obtain ⟨as, rd⟩ := Dp.reads I _ _ _ (.tup s1 l1) ru
    exact repr_of_reads' rd ok1 (PyData.noDict_hsm (PyData.hasDict_of_canLay _ lay)) gd (by omega) (fun _ _ z => z) (fun h' t tk k => done h' t tk k) hz
theorem on_repr : OpN K (rRepr K) reprN := on1 fun ms os H Q v x z _ _ hv e hQ => by
  unfold reprD at e
  cases e1 : x.py with
  | none => rw [e1] at e; cases e
  | some d =>
    rw [e1] at e
    by_cases h : showOk d = true
    · simp only [h, if_true] at e
      cases e
      exact ⟨v, d, rfl, hv.dp e1, h, hQ _ H .refl (.str _)⟩
    · simp only [h] at e
      cases e
theorem Room.u200 {k : Nat} {A : Around} (h : Room k A) : A.units + 200 < cLine := by have := h.un; omega
end
end Mir

namespace Mir
open PySem L2
/-! reckoning with mirrors -/
section
variable {α β : Type} {g g' : En} {P : α → En → Prop} {Q : β → En → Prop} {E : Xn → En → Prop}
theorem O_ret {a : α} : Out (ret a g) P E = P a g := propext Iff.rfl
theorem O_bad : Out (bad g : Rs α) P E = False := propext Iff.rfl
theorem O_bnd {m : M α} {f : α → M β} : Out (bnd m f g) Q E = Out (m g) (fun a g' => Out (f a g') Q E) E := by
  unfold bnd; cases m g <;> rfl
theorem O_opt {a : α} : Out (opt (some a) g) P E = P a g := propext Iff.rfl
theorem O_ok {a : α} : Out (Rs.ok a g) P E = P a g := propext Iff.rfl
theorem O_if {c : Prop} [Decidable c] {a b : M α} : Out ((if c then a else b) g) P E = if c then Out (a g) P E else Out (b g) P E := by
  split <;> rfl
theorem O_ite {m : M Bool} {a b : M α} : Out (ite' m a b g) P E = Out (m g) (fun k g' => if k = true then Out (a g') P E else Out (b g') P E) E := by
  unfold ite'; rw [O_bnd]
  refine congrArg (fun z => Out (m g) z E) (funext fun k => funext fun g' => ?_)
  cases k <;> rfl
theorem O_eN {i : Nat} {P : Op → En → Prop} : Out (eN i g) P E = (match gt g i with
  | .va d => P (.d d) g
  | .ow _ => P (.o i) g
  | .pm _ => P (.o i) g
  | _ => False) := by
  unfold eN; cases gt g i <;> rfl
theorem O_e1 {a : M Op} {f : D → M α} : Out (e1 a f g) P E = Out (a g) (fun x g' => Out (ap1 f x g') P E) E := O_bnd
theorem O_e2 {a b : M Op} {f : D → D → M α} : Out (e2 a b f g) P E = Out (a g) (fun x g1 => Out (b g1) (fun y g2 => Out (ap2 f x y g2) P E) E) E := by
  unfold e2; rw [O_bnd]
  exact congrArg (fun z => Out (a g) z E) (funext fun x => funext fun g' => O_bnd)
theorem O_ap1 {f : D → M α} {x : Op} {d : D} (h : res g x = some d) : Out (ap1 f x g) P E = Out (f d g) P E := by
  unfold ap1; rw [h]
theorem O_ap2 {f : D → D → M α} {x y : Op} {d d' : D} (h : res g x = some d) (h' : res g y = some d') : Out (ap2 f x y g) P E = Out (f d d' g) P E := by
  unfold ap2; rw [h, h']
theorem O_dd1 {f : D → M α} {d : D} : Out (ap1 f (.d d) g) P E = Out (f d g) P E := propext Iff.rfl
theorem O_dd2 {f : D → D → M α} {d d' : D} : Out (ap2 f (.d d) (.d d') g) P E = Out (f d d' g) P E := propext Iff.rfl
theorem O_f2 {f : D → D → Option α} {a b : D} {c : α} (h : f a b = some c) : Out (f2 f a b g) P E = P c g := by
  unfold f2; rw [h]; rfl
theorem O_f1 {f : D → Option α} {a : D} {c : α} (h : f a = some c) : Out (f1 f a g) P E = P c g := by
  unfold f1; rw [h]; rfl
theorem O_eD {m : M D} {P : Op → En → Prop} : Out (eD m g) P E = Out (m g) (fun d g' => P (.d d) g') E := O_bnd
theorem O_eV {m : M Op} {P : D → En → Prop} : Out (eV m g) P E = Out (m g) (fun x g' => Out (vl x g') P E) E := O_bnd
theorem O_vl {d : D} {P : D → En → Prop} : Out (vl (.d d) g) P E = P d g := propext Iff.rfl
theorem O_tB {m : M D} {P : Bool → En → Prop} : Out (tB m g) P E = Out (m g) (fun d g' => Out (asB d g') P E) E := O_bnd
theorem O_asB {b : Bool} {P : Bool → En → Prop} : Out (asB (.bl b) g) P E = P b g := propext Iff.rfl
theorem O_notM {m : M Bool} {P : Bool → En → Prop} : Out (notM m g) P E = Out (m g) (fun b g' => P (!b) g') E := O_bnd
theorem O_ofB {m : M Bool} {P : D → En → Prop} : Out (ofB m g) P E = Out (m g) (fun b g' => P (.bl b) g') E := O_bnd
theorem O_andM {a b : M Bool} {P : Bool → En → Prop} : Out (andM a b g) P E = Out (a g) (fun k g' => if k = true then Out (b g') P E else P false g') E := by
  unfold andM; rw [O_bnd]
  refine congrArg (fun z => Out (a g) z E) (funext fun k => funext fun g' => ?_)
  cases k <;> rfl
theorem O_orM {a b : M Bool} {P : Bool → En → Prop} : Out (orM a b g) P E = Out (a g) (fun k g' => if k = true then P true g' else Out (b g') P E) E := by
  unfold orM; rw [O_bnd]
  refine congrArg (fun z => Out (a g) z E) (funext fun k => funext fun g' => ?_)
  cases k <;> rfl
theorem O_args0 {P : List Op → En → Prop} : Out (eArgs [] g) P E = P [] g := propext Iff.rfl
theorem O_args1 {m : M Op} {ms : List (M Op)} {P : List Op → En → Prop} : Out (eArgs (m :: ms) g) P E = Out (m g) (fun x g1 => Out (eArgs ms g1) (fun xs g2 => P (x :: xs) g2) E) E := by
  show Out (bnd m (fun x => bnd (eArgs ms) fun xs => ret (x :: xs)) g) P E = _
  rw [O_bnd]
  exact congrArg (fun z => Out (m g) z E) (funext fun x => funext fun g' => O_bnd)
theorem O_apL {f : List D → Option α} {xs : List Op} {ds : List D} {c : α} (h : resL g xs = some ds) (h' : f ds = some c) : Out (apL f xs g) P E = P c g := by
  unfold apL; rw [h]; show Out (opt (f ds) g) P E = _; rw [h']; rfl
theorem O_tup {xs : List Op} {ds : List D} {P : D → En → Prop} (h : vls xs = some ds) (hl : ds.length ≤ 65536 := by simp) : Out (tupM xs g) P E = P (.tup ds) g := by
  unfold tupM; rw [h]; show Out ((if ds.length ≤ 65536 then ret (.tup ds) else bad : M D) g) P E = _; rw [if_pos hl]; rfl
theorem O_lst {xs : List Op} {ds : List D} {P : List D → En → Prop} (h : vls xs = some ds) (hl : ds.length ≤ 65536 := by simp) : Out (lstM xs g) P E = P ds g := by
  unfold lstM; rw [h]; show Out ((if ds.length ≤ 65536 then ret ds else bad : M (List D)) g) P E = _; rw [if_pos hl]; rfl
theorem O_noex {m : M α} : Out (noex m g) P E = Out (m g) P (fun _ _ => False) := by
  unfold noex; cases m g <;> rfl
/-- the call of a def of data -/
theorem O_call {n : Nat} {f : List D → Fd} {dfl : List D} {xs : List Op} {ds : List D} {d : D} {P : D → En → Prop} (h : resL g xs = some ds) (hn : ds.length + dfl.length = n) (ho : anyO xs = false) (hf : f (ds ++ dfl) = .ok d) : Out (callF n f dfl xs g) P E = P d g := by
  unfold callF; rw [h]; simp only [hn, if_true, hf, ho, Bool.false_and]; rfl
theorem O_callO {n : Nat} {f : List D → Fd} {dfl : List D} {xs : List Op} {ds : List D} {d : D} {P : D → En → Prop} (h : resL g xs = some ds) (hn : ds.length + dfl.length = n) (ho : d.flat = true) (hf : f (ds ++ dfl) = .ok d) : Out (callF n f dfl xs g) P E = P d g := by
  unfold callF; rw [h]; simp only [hn, if_true, hf, ho, Bool.not_true, Bool.and_false]; rfl
theorem O_callX {n : Nat} {f : List D → Fd} {dfl : List D} {xs : List Op} {ds : List D} {x : Xn} {P : D → En → Prop} (h : resL g xs = some ds) (hn : ds.length + dfl.length = n) (ho : anyO xs = false) (hf : f (ds ++ dfl) = .ex x) : Out (callF n f dfl xs g) P E = E x g := by
  unfold callF; rw [h]; simp only [hn, if_true, hf, ho, Bool.false_and]; rfl
theorem O_callN {n : Nat} {f : List D → Fd} {dfl : List D} {xs : List Op} {ds : List D} {o : Mo} {d : D} {P : Mo → En → Prop} (h : resL g xs = some ds) (hn : ds.length + dfl.length = n) (ho : anyO xs = false) (hf : f (ds ++ dfl) = .new o) (hd : o.dat = some d) : Out (callN n f dfl xs g) P E = P o g := by
  unfold callN; rw [h]; simp only [hn, if_true, hf, hd, ho, Bool.false_and]; rfl
theorem O_callM {n i : Nat} {f : Mo → List D → Fm} {dfl : List D} {xs : List Op} {ds : List D} {d : D} {m m' : Mo} {P : D → En → Prop} (hm : (gt g i).mo = some m) (h : vls xs = some ds) (hn : ds.length + dfl.length + 1 = n) (hf : f m (ds ++ dfl) = .ok d m') (hk : m'.nolk = true) : Out (callM n f dfl (.o i :: xs) g) P E = P d (setMo g i m') := by
  simp only [callM, hm, h, hn, if_true, hf, hk]; rfl
theorem O_callMN {n i : Nat} {f : Mo → List D → Fm} {dfl : List D} {xs : List Op} {ds : List D} {o m m' : Mo} {d : D} {P : Mo → En → Prop} (hm : (gt g i).mo = some m) (h : vls xs = some ds) (hn : ds.length + dfl.length + 1 = n) (hf : f m (ds ++ dfl) = .new o m') (hd : o.dat = some d) (hk : m'.nolk = true) : Out (callMN n f dfl (.o i :: xs) g) P E = P o (setMo g i m') := by
  simp only [callMN, hm, h, hn, if_true, hf, hd, hk]; rfl
end
/-! the same without premises: what a simp can use -/
section
variable {α β : Type} {g g' : En} {P : α → En → Prop} {E : Xn → En → Prop}
theorem U_ap1 {f : D → M α} {x : Op} : Out (ap1 f x g) P E = (match res g x with
  | some d => Out (f d g) P E
  | none => False) := by unfold ap1; cases res g x <;> rfl
theorem U_ap2 {f : D → D → M α} {x y : Op} : Out (ap2 f x y g) P E = (match res g x, res g y with
  | some d, some d' => Out (f d d' g) P E
  | _, _ => False) := by unfold ap2; cases res g x <;> cases res g y <;> rfl
theorem U_f1 {f : D → Option α} {a : D} : Out (f1 f a g) P E = (match f a with
  | some c => P c g
  | none => False) := by unfold f1; cases f a <;> rfl
theorem U_f2 {f : D → D → Option α} {a b : D} : Out (f2 f a b g) P E = (match f a b with
  | some c => P c g
  | none => False) := by unfold f2; cases f a b <;> rfl
theorem U_opt {o : Option α} : Out (opt o g) P E = (match o with
  | some c => P c g
  | none => False) := by cases o <;> rfl
theorem U_apL {f : List D → Option α} {xs : List Op} : Out (apL f xs g) P E = (match resL g xs with
  | some ds => (match f ds with
    | some c => P c g
    | none => False)
  | none => False) := by
  unfold apL; cases resL g xs with
  | none => rfl
  | some ds => show Out (opt (f ds) g) P E = _; rw [U_opt]
theorem U_tup {xs : List Op} {P : D → En → Prop} : Out (tupM xs g) P E = (match vls xs with
  | some ds => if ds.length ≤ 65536 then P (.tup ds) g else False
  | none => False) := by
  unfold tupM; cases vls xs with
  | none => rfl
  | some ds => show Out ((if ds.length ≤ 65536 then ret (.tup ds) else bad : M D) g) P E = _; simp only; split <;> rfl
theorem U_lst {xs : List Op} {P : List D → En → Prop} : Out (lstM xs g) P E = (match vls xs with
  | some ds => if ds.length ≤ 65536 then P ds g else False
  | none => False) := by
  unfold lstM; cases vls xs with
  | none => rfl
  | some ds => show Out ((if ds.length ≤ 65536 then ret ds else bad : M (List D)) g) P E = _; simp only; split <;> rfl
theorem U_call {n : Nat} {f : List D → Fd} {dfl : List D} {xs : List Op} {P : D → En → Prop} : Out (callF n f dfl xs g) P E = (match resL g xs with
  | none => False
  | some ds => if ds.length + dfl.length = n then (match f (ds ++ dfl) with
    | .ok d => if (anyO xs && !d.flat) = true then False else P d g
    | .new m => (match m.dat with
      | some d => if (anyO xs && !m.inner) = true then False else P d g
      | none => False)
    | .ex x => if (anyO xs && !x.flat) = true then False else E x g
    | .bad => False) else False) := by
  unfold callF; cases resL g xs with
  | none => rfl
  | some ds =>
    simp only
    split
    · cases f (ds ++ dfl) with
      | ok d => simp only; split <;> rfl
      | new m => simp only; cases m.dat with
        | none => rfl
        | some d => simp only; split <;> rfl
      | ex d => simp only; split <;> rfl
      | bad => rfl
    · rfl
theorem U_callN {n : Nat} {f : List D → Fd} {dfl : List D} {xs : List Op} {P : Mo → En → Prop} : Out (callN n f dfl xs g) P E = (match resL g xs with
  | none => False
  | some ds => if ds.length + dfl.length = n then (match f (ds ++ dfl) with
    | .new m => (match m.dat with
      | some _ => if (anyO xs && !m.inner) = true then False else P m g
      | none => False)
    | .ex x => if (anyO xs && !x.flat) = true then False else E x g
    | _ => False) else False) := by
  unfold callN; cases resL g xs with
  | none => rfl
  | some ds =>
    simp only
    split
    · cases f (ds ++ dfl) with
      | ok d => rfl
      | new m => simp only; cases m.dat with
        | none => rfl
        | some d => simp only; split <;> rfl
      | ex d => simp only; split <;> rfl
      | bad => rfl
    · rfl
theorem U_callM {n : Nat} {f : Mo → List D → Fm} {dfl : List D} {i : Nat} {xs : List Op} {P : D → En → Prop} : Out (callM n f dfl (.o i :: xs) g) P E = (match (gt g i).mo, vls xs with
  | some m, some ds => if ds.length + dfl.length + 1 = n then (match f m (ds ++ dfl) with
    | .ok d m' => if m'.nolk = true then P d (setMo g i m') else False
    | .new o m' => (match o.dat with
      | some d => if m'.nolk = true then P d (setMo g i m') else False
      | none => False)
    | .ex x m' => if m'.nolk = true then E x (setMo g i m') else False
    | .bad => False) else False
  | _, _ => False) := by
  simp only [callM]
  cases (gt g i).mo with
  | none => rfl
  | some m => cases vls xs with
    | none => rfl
    | some ds =>
      simp only
      split
      · cases f m (ds ++ dfl) with
        | ok d m' => simp only; split <;> rfl
        | new o m' => simp only; cases o.dat with
          | none => rfl
          | some d => simp only; split <;> rfl
        | ex x m' => simp only; split <;> rfl
        | bad => rfl
      · rfl
theorem U_callMN {n : Nat} {f : Mo → List D → Fm} {dfl : List D} {i : Nat} {xs : List Op} {P : Mo → En → Prop} : Out (callMN n f dfl (.o i :: xs) g) P E = (match (gt g i).mo, vls xs with
  | some m, some ds => if ds.length + dfl.length + 1 = n then (match f m (ds ++ dfl) with
    | .new o m' => (match o.dat with
      | some _ => if m'.nolk = true then P o (setMo g i m') else False
      | none => False)
    | .ex x m' => if m'.nolk = true then E x (setMo g i m') else False
    | _ => False) else False
  | _, _ => False) := by
  simp only [callMN]
  cases (gt g i).mo with
  | none => rfl
  | some m => cases vls xs with
    | none => rfl
    | some ds =>
      simp only
      split
      · cases f m (ds ++ dfl) with
        | ok d m' => rfl
        | new o m' => simp only; cases o.dat with
          | none => rfl
          | some d => simp only; split <;> rfl
        | ex x m' => simp only; split <;> rfl
        | bad => rfl
      · rfl
theorem U_itM {d : D} {P : List D → En → Prop} : Out (itM (.d d) g) P E = (match itD d with
  | some ds => P ds g
  | none => False) := by show Out (opt (itD d) g) P E = _; cases itD d <;> rfl
theorem U_rng1 {j : Int} {P : List D → En → Prop} : Out (rng1 [.d (.int j)] g) P E = if inW j = true then P (rng 0 j.toNat) g else False := by
  unfold rng1; simp only; split <;> rfl
theorem U_rng2 {i j : Int} {P : List D → En → Prop} : Out (rng2 [.d (.int i), .d (.int j)] g) P E = if inW i = true ∧ inW j = true then P (rng i (j - i).toNat) g else False := by
  unfold rng2; simp only; split <;> rfl
theorem U_rev {x : Op} {P : List D → En → Prop} : Out (revM x g) P E = (match res g x with
  | some (.lst xs) => P xs.reverse g
  | some (.frl xs) => P xs.reverse g
  | _ => False) := by
  unfold revM; cases res g x with
  | none => rfl
  | some d => cases d <;> rfl
theorem U_cmp {vs : List Nat} {m : M (List D)} {t : Tg} {c : M Bool} {e : M Op} {P : List D → En → Prop} : Out (cmp vs m t c e g) P E = Out (m g) (fun ds g => if noO g vs = true then (match cmL vs t c e ds [] g with
    | .ok xs g' => P xs (restG g g' vs)
    | _ => False) else False) E := by
  unfold cmp; rw [O_bnd]
  refine congrArg (fun z => Out (m g) z E) (funext fun ds => funext fun g' => ?_)
  split
  · cases cmL vs t c e ds [] g' <;> rfl
  · rfl
/-- a comprehension whose element is a function of the item, by what is asked of the state alone -/
theorem cmL_map {vs : List Nat} {t : Tg} {e : M Op} {F : D → D} {ds : List D} (st : En → Prop)
    (hs : ∀ d ∈ ds, ∀ g, st g → ∃ g1, t d (wipeG g vs) = some g1 ∧ Out (e g1) (fun x g2 => x = .d (F d) ∧ st g2) (fun _ _ => False)) (hl : ds.length ≤ 16777216) : ∀ (g : En), st g → ∃ g', cmL vs t yes e ds [] g = .ok (ds.map F) g' ∧ st g' := by
  have key : ∀ (es acc : List D) (g : En), (∀ d ∈ es, d ∈ ds) → acc.length + es.length ≤ 16777216 → st g → ∃ g', cmL vs t yes e es acc g = .ok (acc ++ es.map F) g' ∧ st g' := by
    intro es
    induction es with
    | nil => intro acc g _ _ h; exact ⟨g, by simp [cmL, ret], h⟩
    | cons d es ih =>
      intro acc g hm hl h
      obtain ⟨g1, h1, h2⟩ := hs d (hm d List.mem_cons_self) g h
      have h3 : ∃ g2, e g1 = .ok (.d (F d)) g2 ∧ st g2 := by
        cases e3 : e g1 with
        | ok x g2 => rw [e3] at h2; obtain ⟨rfl, h4⟩ := h2; exact ⟨g2, rfl, h4⟩
        | ex x g2 => rw [e3] at h2; exact h2.elim
        | bad => rw [e3] at h2; exact h2.elim
      obtain ⟨g2, h3, h4⟩ := h3
      rw [List.length_cons] at hl
      obtain ⟨g', h5, h6⟩ := ih (acc ++ [F d]) g2 (fun x hx => hm x (List.mem_cons_of_mem _ hx)) (by rw [List.length_append, List.length_singleton]; omega) h4
      refine ⟨g', ?_, h6⟩
      unfold cmL
      have hacc : acc.length < 16777216 := by omega
      simp only [h1, bnd, noex, yes, ret, h3, hacc, if_true]
      exact h5.trans (by rw [List.append_assoc]; rfl)
  intro g h
  have := key ds [] g (fun _ h => h) (by simpa using hl) h
  simpa using this
end
/-! statements -/
def SO (r : Ro) (N : En → Prop) (R : Sl → En → Prop) (B C : En → Prop) (E : Xn → En → Prop) : Prop := match r with
  | .nx g => N g
  | .rt s g => R s g
  | .bk g => B g
  | .ct g => C g
  | .ex x g => E x g
  | .bad => False
section
variable {g : En} {N : En → Prop} {R : Sl → En → Prop} {B C : En → Prop} {E : Xn → En → Prop}
theorem SO.mono {r : Ro} {N' : En → Prop} {R' : Sl → En → Prop} {B' C' : En → Prop} {E' : Xn → En → Prop} (h : SO r N R B C E) (h1 : ∀ g, N g → N' g) (h2 : ∀ s g, R s g → R' s g) (h3 : ∀ g, B g → B' g) (h4 : ∀ g, C g → C' g) (h5 : ∀ x g, E x g → E' x g) : SO r N' R' B' C' E' := by
  cases r with
  | nx g => exact h1 _ h
  | rt s g => exact h2 _ _ h
  | bk g => exact h3 _ h
  | ct g => exact h4 _ h
  | ex x g => exact h5 _ _ h
  | bad => exact h
theorem S_seq {a b : Ms} : SO (sQ a b g) N R B C E = SO (a g) (fun g' => SO (b g') N R B C E) R B C E := by
  unfold sQ; cases a g <;> rfl
theorem S_nil : SO (sNil g) N R B C E = N g := propext Iff.rfl
theorem S_pass : SO (sPass g) N R B C E = N g := propext Iff.rfl
theorem S_brk : SO (sBrk g) N R B C E = B g := propext Iff.rfl
theorem S_cnt : SO (sCnt g) N R B C E = C g := propext Iff.rfl
theorem S_bad : SO (sBad g) N R B C E = False := propext Iff.rfl
theorem S_nx : SO (.nx g) N R B C E = N g := propext Iff.rfl
theorem S_rt {s : Sl} : SO (.rt s g) N R B C E = R s g := propext Iff.rfl
theorem S_then {α : Type} {m : M α} {f : α → En → Ro} : SO (thenE m f g) N R B C E = Out (m g) (fun a g' => SO (f a g') N R B C E) E := by
  unfold thenE; cases m g <;> rfl
theorem S_asg {m : M D} {t : Tg} : SO (sAsg m t g) N R B C E = Out (m g) (fun d g' => match t d g' with
    | some g2 => N g2
    | none => False) E := by
  unfold sAsg; rw [S_then]
  refine congrArg (fun z => Out (m g) z E) (funext fun d => funext fun g' => ?_)
  cases t d g' <;> rfl
theorem S_if {c : M Bool} {a b : Ms} : SO (sIf c a b g) N R B C E = Out (c g) (fun k g' => if k = true then SO (a g') N R B C E else SO (b g') N R B C E) E := by
  unfold sIf; rw [S_then]
  refine congrArg (fun z => Out (c g) z E) (funext fun k => funext fun g' => ?_)
  cases k <;> rfl
theorem S_exp {α : Type} {m : M α} : SO (sExp m g) N R B C E = Out (m g) (fun _ g' => N g') E := by
  unfold sExp; rw [S_then]; rfl
theorem S_retN : SO (sRetN g) N R B C E = R (.va .non) g := propext Iff.rfl
theorem S_ret {m : M Op} : SO (sRet m g) N R B C E = Out (m g) (fun x g' => match x with
    | .d d => R (.va d) g'
    | .o i => match gt g' i with
      | .ow mo => R (.ow mo) g'
      | _ => False) E := by
  unfold sRet; rw [S_then]
  refine congrArg (fun z => Out (m g) z E) (funext fun x => funext fun g' => ?_)
  cases x with
  | d d => rfl
  | o i => simp only; cases gt g' i <;> rfl
theorem S_retW {m : M Mo} : SO (sRetW m g) N R B C E = Out (m g) (fun o g' => R (.ow o) g') E := by
  unfold sRetW; rw [S_then]; rfl
theorem S_new {i : Nat} {m : M Mo} : SO (sNew i m g) N R B C E = Out (m g) (fun xs g' => if (i < g'.length && xs.nolk) = true then (match setO g' i xs with
    | some g2 => N g2
    | none => False) else False) E := by
  unfold sNew; rw [S_then]
  refine congrArg (fun z => Out (m g) z E) (funext fun x => funext fun g' => ?_)
  split
  · cases setO g' i x <;> rfl
  · rfl
theorem S_par {i j : Nat} {m : M (List Op)} : SO (sPar i j m g) N R B C E = Out (m g) (fun xs g' => match vls xs with
    | some [a, b] => match setV g' i a with
      | some g1 => match setV g1 j b with
        | some g2 => N g2
        | none => False
      | none => False
    | _ => False) E := by
  unfold sPar; rw [S_then]
  refine congrArg (fun z => Out (m g) z E) (funext fun x => funext fun g' => ?_)
  cases vls x with
  | none => rfl
  | some l => match l with
    | [] => rfl
    | [_] => rfl
    | [a, b] =>
      simp only
      cases setV g' i a with
      | none => rfl
      | some g1 => simp only; cases setV g1 j b <;> rfl
    | _ :: _ :: _ :: _ => rfl
theorem S_par3 {i j l : Nat} {m : M (List Op)} : SO (sPar3 i j l m g) N R B C E = Out (m g) (fun xs g' => match vls xs with
    | some [a, b, c] => match setV g' i a with
      | some g1 => match setV g1 j b with
        | some g2 => match setV g2 l c with
          | some g3 => N g3
          | none => False
        | none => False
      | none => False
    | _ => False) E := by
  unfold sPar3; rw [S_then]
  refine congrArg (fun z => Out (m g) z E) (funext fun x => funext fun g' => ?_)
  cases vls x with
  | none => rfl
  | some ds => match ds with
    | [] => rfl
    | [_] => rfl
    | [_, _] => rfl
    | [a, b, c] =>
      simp only
      cases setV g' i a with
      | none => rfl
      | some g1 =>
        simp only
        cases setV g1 j b with
        | none => rfl
        | some g2 => simp only; cases setV g2 l c <;> rfl
    | _ :: _ :: _ :: _ :: _ => rfl
/-- a for, by an invariant over the items taken so far -/
theorem S_for {m : M (List D)} {t : Tg} {b : Ms} : SO (sFor m t b g) N R B C E = Out (m g) (fun ds g' => SO (forL t b ds g') N R B C E) E := by
  unfold sFor; rw [S_then]
theorem S_forL {t : Tg} {b : Ms} (I : Nat → En → Prop) {ds : List D} (h0 : I 0 g)
    (hs : ∀ i d g, ds[i]? = some d → I i g → ∃ g1, t d g = some g1 ∧ SO (b g1) (I (i + 1)) R N (I (i + 1)) E) (hN : ∀ g, I ds.length g → N g) : SO (forL t b ds g) N R B C E := by
  have key : ∀ (es : List D) (k : Nat) (g : En), es = ds.drop k → k ≤ ds.length → I k g → SO (forL t b es g) N R B C E := by
    intro es
    induction es with
    | nil =>
      intro k g e hk i
      have : ds.length ≤ k := by
        have := congrArg List.length e
        simp at this; omega
      have : k = ds.length := by omega
      subst this
      exact hN g i
    | cons d es ih =>
      intro k g e hk i
      have hl : k < ds.length := by
        have := congrArg List.length e
        simp at this; omega
      have e2 : ds.drop k = ds[k] :: ds.drop (k + 1) := List.drop_eq_getElem_cons hl
      rw [e2] at e
      cases e
      obtain ⟨g1, h1, h2⟩ := hs k ds[k] g (List.getElem?_eq_getElem hl) i
      show SO (match t ds[k] g with
        | none => .bad
        | some g1 => match b g1 with
          | .nx g2 => forL t b (ds.drop (k + 1)) g2
          | .ct g2 => forL t b (ds.drop (k + 1)) g2
          | .bk g2 => .nx g2
          | o => o) N R B C E
      rw [h1]
      simp only
      cases e3 : b g1 with
      | nx g2 => rw [e3] at h2; exact ih (k + 1) g2 rfl hl h2
      | ct g2 => rw [e3] at h2; exact ih (k + 1) g2 rfl hl h2
      | bk g2 => rw [e3] at h2; exact h2
      | rt s g2 => rw [e3] at h2; exact h2
      | ex x g2 => rw [e3] at h2; exact h2
      | bad => rw [e3] at h2; exact h2
  exact key ds 0 g (by simp) (Nat.zero_le _) h0
/-- a while, by an invariant and a number that falls -/
theorem S_while {c : M Bool} {b : Ms} (I : Nat → En → Prop) {n : Nat} (h0 : I n g)
    (hs : ∀ n g, I n g → Out (c g) (fun k g' => if k = true then SO (b g') (fun g2 => ∃ n', n' < n ∧ I n' g2) R N (fun g2 => ∃ n', n' < n ∧ I n' g2) E else N g') E) : SO (sWh c b g) N R B C E := by
  have key : ∀ (m n : Nat) (g : En), n < m → I n g → ∃ r, wh c b m g = r ∧ SO r N R B C E := by
    intro m
    induction m with
    | zero => intro n g h; omega
    | succ m ih =>
      intro n g hn i
      refine ⟨_, rfl, ?_⟩
      show SO (thenE c _ g) N R B C E
      rw [S_then]
      refine (hs n g i).mono (fun k g' q => ?_) fun _ _ q => q
      cases k with
      | false => exact q
      | true =>
        rw [if_pos rfl] at q
        simp only
        cases e3 : b g' with
        | nx g2 =>
          rw [e3] at q
          obtain ⟨n', h1, h2⟩ := q
          obtain ⟨r, h3, h4⟩ := ih n' g2 (by omega) h2
          simp only [h3]; exact h4
        | ct g2 =>
          rw [e3] at q
          obtain ⟨n', h1, h2⟩ := q
          obtain ⟨r, h3, h4⟩ := ih n' g2 (by omega) h2
          simp only [h3]; exact h4
        | bk g2 => rw [e3] at q; exact q
        | rt s g2 => rw [e3] at q; exact q
        | ex x g2 => rw [e3] at q; exact q
        | bad => rw [e3] at q; exact q
  obtain ⟨r, h1, h2⟩ := key (n + 1) n g (Nat.lt_succ_self n) h0
  have hb : wh c b (n + 1) g ≠ .bad := fun z => by rw [h1] at z; subst z; exact h2
  rw [sWh_eq (n + 1) hb, h1]
  exact h2
/-! a def's value from its body -/
theorem f_of {k : Nat} {b : Ms} {ds : List D} {d : D} (h : SO (b (ds.map .va ++ List.replicate k .no)) (fun _ => d = .non) (fun s _ => s = .va d) (fun _ => False) (fun _ => False) (fun _ _ => False)) : fnD k b ds = .ok d := by
  unfold fnD
  cases e : b (ds.map .va ++ List.replicate k .no) with
  | nx g => rw [e] at h; have h : d = .non := h; subst h; rfl
  | rt s g => rw [e] at h; have h : s = .va d := h; subst h; rfl
  | _ => rw [e] at h; exact h.elim
theorem f_ofN {k : Nat} {b : Ms} {ds : List D} {ys : Mo} (h : SO (b (ds.map .va ++ List.replicate k .no)) (fun _ => False) (fun s _ => s = .ow ys) (fun _ => False) (fun _ => False) (fun _ _ => False)) : fnD k b ds = .new ys := by
  unfold fnD
  cases e : b (ds.map .va ++ List.replicate k .no) with
  | rt s g => rw [e] at h; have h : s = .ow ys := h; subst h; rfl
  | _ => rw [e] at h; exact h.elim
/-- with what holds of the value -/
theorem f_ex {k : Nat} {b : Ms} {ds : List D} {Y : D → Prop} (h : SO (b (ds.map .va ++ List.replicate k .no)) (fun _ => Y .non) (fun s _ => ∃ d, s = .va d ∧ Y d) (fun _ => False) (fun _ => False) (fun _ _ => False)) : ∃ d, fnD k b ds = .ok d ∧ Y d := by
  unfold fnD
  cases e : b (ds.map .va ++ List.replicate k .no) with
  | nx g => rw [e] at h; exact ⟨_, rfl, h⟩
  | rt s g => rw [e] at h; obtain ⟨d, rfl, y⟩ := h; exact ⟨d, rfl, y⟩
  | _ => rw [e] at h; exact h.elim
theorem f_exN {k : Nat} {b : Ms} {ds : List D} {Y : Mo → Prop} (h : SO (b (ds.map .va ++ List.replicate k .no)) (fun _ => False) (fun s _ => ∃ d, s = .ow d ∧ Y d) (fun _ => False) (fun _ => False) (fun _ _ => False)) : ∃ d, fnD k b ds = .new d ∧ Y d := by
  unfold fnD
  cases e : b (ds.map .va ++ List.replicate k .no) with
  | rt s g => rw [e] at h; obtain ⟨d, rfl, y⟩ := h; exact ⟨d, rfl, y⟩
  | _ => rw [e] at h; exact h.elim
theorem m_ex {k : Nat} {b : Ms} {m : Mo} {ds : List D} {Y : D → Mo → Prop} (h : SO (b (.pm m :: ds.map .va ++ List.replicate k .no)) (fun g => ∃ m', gt g 0 = .pm m' ∧ Y .non m') (fun s g => ∃ d m', s = .va d ∧ gt g 0 = .pm m' ∧ Y d m') (fun _ => False) (fun _ => False) (fun _ _ => False)) : ∃ d m', fnM k b m ds = .ok d m' ∧ Y d m' := by
  unfold fnM
  cases e : b (.pm m :: ds.map .va ++ List.replicate k .no) with
  | nx g => rw [e] at h; obtain ⟨m', h1, y⟩ := h; exact ⟨_, m', by simp only [fin2, h1], y⟩
  | rt s g => rw [e] at h; obtain ⟨d, m', rfl, h1, y⟩ := h; exact ⟨d, m', by simp only [fin2, h1], y⟩
  | _ => rw [e] at h; exact h.elim
end
end Mir

namespace Mir
open PySem L2
theorem at0 {α : Type} {x : α} {xs : List α} : atI (x :: xs) 0 = some x := by
  have : ixN (x :: xs).length 0 = some 0 := by unfold ixN; rw [if_pos (by omega), if_pos (by simp only [List.length_cons]; omega)]; rfl
  unfold atI; rw [this]; rfl
theorem at1 {α : Type} {x y : α} {xs : List α} : atI (x :: y :: xs) 1 = some y := by
  have : ixN (x :: y :: xs).length 1 = some 1 := by unfold ixN; rw [if_pos (by omega), if_pos (by simp only [List.length_cons]; omega)]; rfl
  unfold atI; rw [this]; rfl
theorem at2 {α : Type} {x y z : α} {xs : List α} : atI (x :: y :: z :: xs) 2 = some z := by
  have : ixN (x :: y :: z :: xs).length 2 = some 2 := by unfold ixN; rw [if_pos (by omega), if_pos (by simp only [List.length_cons]; omega)]; rfl
  unfold atI; rw [this]; rfl
theorem ix0 : ∀ n : Nat, ixN (n + 1) 0 = some 0 := fun n => by unfold ixN; rw [if_pos (by omega), if_pos (by omega)]; rfl
theorem ix1 : ∀ n : Nat, ixN (n + 2) 1 = some 1 := fun n => by unfold ixN; rw [if_pos (by omega), if_pos (by omega)]; rfl
theorem ix2 : ∀ n : Nat, ixN (n + 3) 2 = some 2 := fun n => by unfold ixN; rw [if_pos (by omega), if_pos (by omega)]; rfl
theorem eq_int (a b : Int) : eqD (.int a) (.int b) = some (.bl (a == b)) := rfl
theorem ne_int (a b : Int) : neD (.int a) (.int b) = some (.bl (!(a == b))) := rfl
theorem eq_bl (a b : Bool) : eqD (.bl a) (.bl b) = some (.bl (a == b)) := rfl
theorem isi_tup {xs : List D} {T : String} : isiN [.tup xs, .ty T] = (isT "tuple" T).map .bl := rfl
theorem isi_int {i : Int} {T : String} : isiN [.int i, .ty T] = (isT "int" T).map .bl := rfl
theorem isi_bl {i : Bool} {T : String} : isiN [.bl i, .ty T] = (isT "bool" T).map .bl := rfl
theorem isT_tt : isT "tuple" "tuple" = some true := by decide
theorem isT_ii : isT "int" "int" = some true := by decide
theorem isT_ib : isT "int" "bool" = some false := by decide
theorem mulOk_lit {a b : Int} (h : a.natAbs < 18446744073709551616) : mulOk a b = true := by unfold mulOk; rw [decide_eq_true h]; rfl
theorem mulOk_lit' {a b : Int} (h : b.natAbs < 18446744073709551616) : mulOk a b = true := by unfold mulOk; rw [decide_eq_true h, Bool.or_true]; rfl
theorem log2_lt {n k : Nat} (hk : 0 < k) (h : n < 2 ^ k) : n.log2 < k := by
  by_cases h0 : n = 0
  · subst h0; simpa using hk
  · exact (Nat.log2_lt h0).mpr h
theorem mulOk_sz {a b : Int} {k l : Nat} (ha : a.natAbs < 2 ^ k) (hb : b.natAbs < 2 ^ l) (h : k + l < 134217000) : mulOk a b = true := by
  by_cases hk : k = 0
  · subst hk; exact mulOk_lit (by omega)
  by_cases hl : l = 0
  · subst hl; exact mulOk_lit' (by omega)
  have h1 := log2_lt (by omega) ha
  have h2 := log2_lt (by omega) hb
  unfold mulOk
  rw [Bool.or_eq_true]
  exact .inr (decide_eq_true (by omega))
theorem divOk_of {a b : Int} (h : b ≠ 0) (hb : b.natAbs < 2 ^ 9000) : divOk a b = true := by
  unfold divOk
  rw [PyProof.noPylong_of_log2 (log2_lt (by omega) hb)]
  simp [h]
end Mir

namespace Mir
open PySem L2
/-! comprehensions, as one equation -/
theorem wipe_len : ∀ (vs : List Nat) (g : En), (wipeG g vs).length = g.length
  | [], _ => rfl
  | v :: vs, g => by show ((wipeG g vs).set v .no).length = _; rw [List.length_set, wipe_len vs g]
theorem rest_len : ∀ (vs : List Nat) (g0 g : En), (restG g0 g vs).length = g.length
  | [], _, _ => rfl
  | v :: vs, g0, g => by show ((restG g0 g vs).set v _).length = _; rw [List.length_set, rest_len vs g0 g]
theorem wipe_get : ∀ (vs : List Nat) (g : En) (i : Nat), i ∉ vs → (wipeG g vs)[i]? = g[i]?
  | [], _, _, _ => rfl
  | v :: vs, g, i, h => by
    show ((wipeG g vs).set v .no)[i]? = _
    rw [List.getElem?_set_ne (fun z => h (by rw [z]; exact List.mem_cons_self)), wipe_get vs g i fun z => h (List.mem_cons_of_mem _ z)]
theorem rest_get : ∀ (vs : List Nat) (g0 g : En) (i : Nat), i ∉ vs → (restG g0 g vs)[i]? = g[i]?
  | [], _, _, _, _ => rfl
  | v :: vs, g0, g, i, h => by
    show ((restG g0 g vs).set v _)[i]? = _
    rw [List.getElem?_set_ne (fun z => h (by rw [z]; exact List.mem_cons_self)), rest_get vs g0 g i fun z => h (List.mem_cons_of_mem _ z)]
theorem rest_in : ∀ (vs : List Nat) (g0 g : En) (i : Nat), i ∈ vs → i < g.length → (restG g0 g vs)[i]? = some (gt g0 i)
  | v :: vs, g0, g, i, h, hl => by
    show ((restG g0 g vs).set v _)[i]? = _
    by_cases e : v = i
    · subst e
      rw [List.getElem?_set_self (by rw [rest_len]; exact hl)]
    · rw [List.getElem?_set_ne e]
      exact rest_in vs g0 g i ((List.mem_cons.mp h).resolve_left fun z => e z.symm) hl
theorem rest_wipe {g g' : En} {vs : List Nat} (h : wipeG g' vs = wipeG g vs) : restG g g' vs = g := by
  have hl : g'.length = g.length := by rw [← wipe_len vs g', h, wipe_len]
  apply List.ext_getElem?
  intro i
  by_cases hi : i ∈ vs
  · by_cases hb : i < g.length
    · rw [rest_in vs g g' i hi (by omega), gt_eq, List.getElem?_eq_getElem hb]; rfl
    · rw [List.getElem?_eq_none (by rw [rest_len]; omega), List.getElem?_eq_none (by omega)]
  · rw [rest_get vs g g' i hi, ← wipe_get vs g' i hi, h, wipe_get vs g i hi]
/-- a comprehension that changes nothing: f of every item -/
theorem cmL_okA {α : Type} {vs : List Nat} {t : Tg} {e : M Op} {g : En} (inj f : α → D) {xs : List α}
    (hs : ∀ x ∈ xs, ∃ g2, t (inj x) (wipeG g vs) = some g2 ∧ Out (e g2) (fun y g3 => y = .d (f x) ∧ wipeG g3 vs = wipeG g vs) (fun _ _ => False)) :
    ∀ (es : List α) (acc : List D) (g1 : En), (∀ x ∈ es, x ∈ xs) → acc.length + es.length ≤ 16777216 → wipeG g1 vs = wipeG g vs → ∃ g', cmL vs t yes e (es.map inj) acc g1 = .ok (acc ++ es.map f) g' ∧ wipeG g' vs = wipeG g vs
  | [], acc, g1, _, _, hg => ⟨g1, by simp [cmL, Mir.ret], hg⟩
  | x :: es, acc, g1, hd, hl, hg => by
    rw [List.length_cons] at hl
    obtain ⟨g2, h1, h2⟩ := hs x (hd x List.mem_cons_self)
    have h3 : ∃ g3, e g2 = .ok (.d (f x)) g3 ∧ wipeG g3 vs = wipeG g vs := by
      cases e3 : e g2 with
      | ok y g3 => rw [e3] at h2; obtain ⟨rfl, hw⟩ := h2; exact ⟨g3, rfl, hw⟩
      | ex y g3 => rw [e3] at h2; exact h2.elim
      | bad => rw [e3] at h2; exact h2.elim
    obtain ⟨g3, e3, hw⟩ := h3
    obtain ⟨g', e4, hw2⟩ := cmL_okA inj f hs es (acc ++ [f x]) g3 (fun x hx => hd x (List.mem_cons_of_mem _ hx)) (by rw [List.length_append, List.length_singleton]; omega) hw
    refine ⟨g', ?_, hw2⟩
    have hacc : acc.length < 16777216 := by omega
    rw [← hg] at h1
    rw [List.map_cons]
    unfold cmL
    simp only [h1, bnd, noex, yes, Mir.ret, e3, hacc, if_true]
    exact e4.trans (by rw [List.append_assoc]; rfl)
theorem cmp_okA {α : Type} {vs : List Nat} {m : M (List D)} {t : Tg} {e : M Op} {g : En} (inj f : α → D) {xs : List α} (hm : m g = .ok (xs.map inj) g) (hn : noO g vs = true)
    (hs : ∀ x ∈ xs, ∃ g2, t (inj x) (wipeG g vs) = some g2 ∧ Out (e g2) (fun y g3 => y = .d (f x) ∧ wipeG g3 vs = wipeG g vs) (fun _ _ => False)) (hl : xs.length ≤ 16777216) : cmp vs m t yes e g = .ok (xs.map f) g := by
  obtain ⟨g', h1, h2⟩ := cmL_okA inj f hs xs [] g (fun _ h => h) (by simpa using hl) rfl
  unfold cmp bnd
  rw [hm]
  simp only [hn, if_true, h1, List.nil_append]
  rw [rest_wipe h2]
/-- a comprehension whose elements draw: the first slot is an object, I holds of it all along -/
theorem cmL_draw {vs : List Nat} {t : Tg} {e : M Op} {T : En} (I : Mo → Prop) (Y : D → Prop) {ds : List D}
    (hs : ∀ d ∈ ds, ∀ m, I m → ∃ g2, t d (wipeG (.pm m :: T) vs) = some g2 ∧ Out (e g2) (fun x g3 => ∃ y m', x = .d y ∧ Y y ∧ I m' ∧ wipeG g3 vs = wipeG (.pm m' :: T) vs) (fun _ _ => False)) :
    ∀ (es acc : List D) (g : En) (m : Mo), (∀ d ∈ es, d ∈ ds) → acc.length + es.length ≤ 16777216 → I m → wipeG g vs = wipeG (.pm m :: T) vs → ∃ ys g' m', cmL vs t yes e es acc g = .ok (acc ++ ys) g' ∧ wipeG g' vs = wipeG (.pm m' :: T) vs ∧ I m' ∧ ys.length = es.length ∧ ∀ y ∈ ys, Y y
  | [], acc, g, m, _, _, hm, hg => ⟨[], g, m, by simp [cmL, Mir.ret], hg, hm, rfl, fun _ h => nomatch h⟩
  | d :: es, acc, g, m, hd, hl, hm, hg => by
    rw [List.length_cons] at hl
    obtain ⟨g2, h1, h2⟩ := hs d (hd d List.mem_cons_self) m hm
    have h3 : ∃ y g3 m', e g2 = .ok (.d y) g3 ∧ Y y ∧ I m' ∧ wipeG g3 vs = wipeG (.pm m' :: T) vs := by
      cases e3 : e g2 with
      | ok x g3 => rw [e3] at h2; obtain ⟨y, m', rfl, hy, hm', hw⟩ := h2; exact ⟨y, g3, m', rfl, hy, hm', hw⟩
      | ex x g3 => rw [e3] at h2; exact h2.elim
      | bad => rw [e3] at h2; exact h2.elim
    obtain ⟨y, g3, m', e3, hy, hm', hw⟩ := h3
    obtain ⟨ys, g', m2, e4, hw2, hm2, hl2, hy2⟩ := cmL_draw I Y hs es (acc ++ [y]) g3 m' (fun x hx => hd x (List.mem_cons_of_mem _ hx)) (by rw [List.length_append, List.length_singleton]; omega) hm' hw
    refine ⟨y :: ys, g', m2, ?_, hw2, hm2, by rw [List.length_cons, List.length_cons, hl2], fun x hx => ?_⟩
    · have hacc : acc.length < 16777216 := by omega
      rw [← hg] at h1
      unfold cmL
      simp only [h1, bnd, noex, yes, Mir.ret, e3, hacc, if_true]
      exact e4.trans (by rw [List.append_assoc]; rfl)
    · rcases List.mem_cons.mp hx with rfl | hx
      · exact hy
      · exact hy2 x hx
theorem cmp_draw {vs : List Nat} {m : M (List D)} {t : Tg} {e : M Op} {g0 T : En} {m0 : Mo} (I : Mo → Prop) (Y : D → Prop) {ds : List D} (hm : m g0 = .ok ds (.pm m0 :: T)) (hn : noO (.pm m0 :: T) vs = true) (h0 : 0 ∉ vs) (hI : I m0)
    (hs : ∀ d ∈ ds, ∀ m, I m → ∃ g2, t d (wipeG (.pm m :: T) vs) = some g2 ∧ Out (e g2) (fun x g3 => ∃ y m', x = .d y ∧ Y y ∧ I m' ∧ wipeG g3 vs = wipeG (.pm m' :: T) vs) (fun _ _ => False)) (hl : ds.length ≤ 16777216) :
    ∃ ys m', cmp vs m t yes e g0 = .ok ys (.pm m' :: T) ∧ I m' ∧ ys.length = ds.length ∧ ∀ y ∈ ys, Y y := by
  obtain ⟨ys, g', m', e1, hw, hm', hl', hy⟩ := cmL_draw I Y hs ds [] (.pm m0 :: T) m0 (fun _ h => h) (by simpa using hl) hI rfl
  refine ⟨ys, m', ?_, hm', hl', hy⟩
  unfold cmp bnd
  rw [hm]
  simp only [hn, if_true, e1, List.nil_append]
  have : restG (.pm m0 :: T) g' vs = .pm m' :: T := by
    have a := rest_wipe hw
    rw [← a]
    have key : ∀ vs : List Nat, 0 ∉ vs → restG (.pm m0 :: T) g' vs = restG (.pm m' :: T) g' vs := by
      intro vs
      induction vs with
      | nil => intro _; rfl
      | cons v vs ih =>
        intro h
        have hv : v ≠ 0 := fun z => h (by rw [z]; exact List.mem_cons_self)
        show (restG (.pm m0 :: T) g' vs).set v (gt (.pm m0 :: T) v) = (restG (.pm m' :: T) g' vs).set v (gt (.pm m' :: T) v)
        rw [ih fun z => h (List.mem_cons_of_mem _ z)]
        cases v with
        | zero => exact (hv rfl).elim
        | succ v => rfl
    exact key vs h0
  rw [this]
/-- loops over items that come of a list -/
theorem S_forA {α : Type} {g : En} {N : En → Prop} {R : Sl → En → Prop} {B C : En → Prop} {E : Xn → En → Prop} {t : Tg} {b : Ms} (inj : α → D) (I : Nat → En → Prop) {xs : List α} (h0 : I 0 g)
    (hs : ∀ i x g, xs[i]? = some x → I i g → ∃ g1, t (inj x) g = some g1 ∧ SO (b g1) (I (i + 1)) R N (I (i + 1)) E) (hN : ∀ g, I xs.length g → N g) : SO (forL t b (xs.map inj) g) N R B C E :=
  S_forL I h0 (fun i d g hd hi => by
    rw [List.getElem?_map] at hd
    cases hx : xs[i]? with
    | none => rw [hx] at hd; cases hd
    | some x => rw [hx] at hd; cases hd; exact hs i x g hx hi) fun g h => hN g (by rw [List.length_map] at h; exact h)
theorem S_app {i : Nat} {m : M Op} {g : En} {N : En → Prop} {R : Sl → En → Prop} {B C : En → Prop} {E : Xn → En → Prop} : SO (sApp i m g) N R B C E = (match (gt g i).mo with
    | some (.ls _) => Out (m g) (fun x g' => match x, (gt g' i).mo with
      | .d d, some (.ls xs) => if xs.length < 16777216 then N (setMo g' i (.ls (xs ++ [d]))) else False
      | _, _ => False) E
    | _ => False) := by
  unfold sApp
  cases (gt g i).mo with
  | none => rfl
  | some m0 =>
    cases m0 with
    | ls ys =>
      simp only
      rw [S_then]
      refine congrArg (fun z => Out (m g) z E) (funext fun x => funext fun g' => ?_)
      cases x with
      | o _ => rfl
      | d d =>
        cases (gt g' i).mo with
        | none => rfl
        | some mo =>
          cases mo with
          | ls xs => simp only; split <;> rfl
          | _ => rfl
    | _ => rfl
theorem bnd_ok {α β : Type} {m : M α} {f : α → M β} {g g' : En} {a : α} (h : m g = .ok a g') : bnd m f g = f a g' := by unfold bnd; rw [h]
end Mir

set_option maxHeartbeats 2000000
namespace Mir
open PySem PySem.Spec PyProof.Rows L2
/-! try, several clauses, some of which name the error -/
structure Cl where
  sl : Option Nat
  c : Value
  ts : Addr → Value → Option Addr → TS
def Cl.ends (q : Cl) (D : Ends) : Ends := match q.sl with
  | none => D
  | some i => ⟨fun σ H => D.nx (σ.set i none) H, D.rt, fun σ H => D.bk (σ.set i none) H, fun σ H => D.ct (σ.set i none) H⟩
def Cl.enter (q : Cl) (a : Addr) (σ : L2.St) : L2.St := match q.sl with
  | none => σ
  | some i => σ.set i (some (.ref a))
def wCl (K : PySem.W.Frag) (Wout : WX) (D : Ends) : List Cl → WX
  | [] => Wout
  | q :: r => fun cls d σ H => ∃ hit, PySem.W.exmOne K cls q.c = some hit ∧ (hit = true → ∀ a, H a = none → q.ts a cls d (q.ends D) (q.enter a σ) H) ∧ (hit = false → wCl K Wout D r cls d σ H)
inductive ClOk (X : Cx) : List ExceptHandler → List Cl → Prop
  | nil : ClOk X [] []
  | plain {x : Str} {c : Value} {ts : Addr → Value → Option Addr → TS} {s0 : Stmt} {sr : List Stmt} {p1 p2 : Pos} {hs : List ExceptHandler} {l : List Cl} (hc : Names X x c)
      (go : ∀ (a : Addr) (oe : Obj) (cls : Value) (d : Option Addr) (pn : List (Addr × Obj)), Zc cls d oe → (∃ vs, oe.data = .fields vs) → PSs (X.suite a ((a, oe) :: pn)) (s0 :: sr) (ts a cls d)) (r : ClOk X hs l) :
      ClOk X (.ExceptHandler (some (.Name x p1)) none (s0 :: sr) p2 :: hs) (⟨none, c, ts⟩ :: l)
  | named {x n : Str} {i : Nat} {c : Value} {ts : Addr → Value → Option Addr → TS} {s0 : Stmt} {sr : List Stmt} {p1 p2 : Pos} {hs : List ExceptHandler} {l : List Cl} (hi : X.N[i]? = some n) (hn : X.env.kindOf n = some .local) (hc : Names X x c)
      (go : ∀ (a : Addr) (oe : Obj) (cls : Value) (d : Option Addr) (pn : List (Addr × Obj)), Zc cls d oe → (∃ vs, oe.data = .fields vs) → PSs (X.suite a ((a, oe) :: pn)) (s0 :: sr) (ts a cls d)) (r : ClOk X hs l) :
      ClOk X (.ExceptHandler (some (.Name x p1)) (some n) (s0 :: sr) p2 :: hs) (⟨some i, c, ts⟩ :: l)
section
variable {X : Cx} {body : List Stmt} {h0 : ExceptHandler} {hs : List ExceptHandler} {l : List Cl} {pos : Pos} {tb : WX → TS} {Wout : WX}
theorem ps_tries (hS : X.stack = X.env :: X.outer) (hF : X.env.frame = some X.env.locals) (hN : X.N.Nodup) (tk : Takes X Wout)
    (hB : ∀ (W : WX) (pn : List (Addr × Obj)) (xe : Value → Shared → Prop), Takes (X.tr pn xe) W → PassesOwn (model X.prog X.w) X.A X.env xe → PSs (X.tr pn xe) body (tb W))
    (hL : ClOk X (h0 :: hs) l) : PS X (.Try body (h0 :: hs) [] [] pos) (fun D σ H => tb (wCl X.K Wout D l) D σ H) := by
  constructor
  intro pins s σ H D inv wish
  have okX := inv.ok
  have frames : X.A.frames = some (X.env :: X.outer) := by rw [okX.frames, hS]
  apply wpAny_Try_except
  have ran := (hB (wCl X.K Wout D l) (X.pn ++ pins) (fun e t₁ => wpAny (model X.prog X.w) X.A (noteFrame e X.env) (fun _ t₂ => wpAny (model X.prog X.w) X.A (setFlight e none) (fun _ t₃ =>
    wpAny (model X.prog X.w) X.A (handleBy e X.env (h0 :: hs)) (SP X pins D) X.xe t₃) X.xe t₂) X.xe t₁) ?caught PassesOwn.looking).run [] s σ H D (inv.toTry _) wish
  case caught =>
    rintro u t ⟨e, B, tI, pins2, σ2, H2, cls, d, rfl, inTry, below, upto, sky0, free, sameOs, bare, want⟩
    have inv2 : Inv X pins σ2 H2 tI := inTry.ofTry okX
    have sky1 : Sky B (X.env :: X.outer) e (Zc cls d) X.env.locals t.heap := by rw [← hS]; exact sky0
    show wpAny (model X.prog X.w) X.A (noteFrame (.ref e) X.env) _ _ _
    apply Sky.land Zc.steady frames hF sky1
    intro hp3 fly3 upto3
    obtain ⟨ob3, fv3, at3, z3, dat3⟩ := fly3.there
    have apart : e ∉ frs (X.env :: X.outer) := by
      intro mem
      obtain ⟨_, ob, at4, notF⟩ := fly3.2.2.1.mem mem
      rw [at3] at at4
      cases at4
      exact notF _ dat3
    have apartL : e ≠ X.env.locals := fun z => apart (List.mem_filterMap.mpr ⟨X.env, List.mem_cons_self, by rw [hF, z]⟩)
    have apartF : e ∉ X.fs := by
      intro mem
      obtain ⟨en, hen, q⟩ := List.mem_filterMap.mp mem
      exact apart (List.mem_filterMap.mpr ⟨en, List.mem_cons_of_mem _ hen, q⟩)
    have inv3 : Inv X pins σ2 H2 { t with heap := hp3 } := inv2.landed below fly3.1 (upto.trans upto3) sameOs bare
    have suite3 := inv3.suite at3 dat3 free apartL apartF
    have typed : PySem.W.Looks (model X.prog X.w) hp3 (typeOf (.ref e)) cls := fun A Q E t k q => wpAny_typeOf_ref (k _ _ at3) (by rw [z3.1]; exact q)
    have named : ∀ {x : Str} {c : Value} {p : Pos} {Q : Value → Shared → Prop} {E : Value → Shared → Prop}, Names X x c → Q c { t with heap := hp3 } → wpAny (model X.prog X.w) (X.A.mark (some (.ref e))) (eval (.Name x p) X.env) Q E { t with heap := hp3 } := by
      intro x c p Q E hc q
      obtain ⟨g1, g2, g3 | ⟨g3, g4, g5⟩⟩ := hc
      · exact ld_glob (X := X.suite e ((e, ob3) :: (X.pn ++ pins))) suite3 g1 g3 q g2
      · exact ld_blt (X := X.suite e ((e, ob3) :: (X.pn ++ pins))) suite3 g1 g3 g4 q g5 g2
    have again : ∀ {hp4 : Heap}, HandSPX.FlyingZ B (X.env :: X.outer) e (Zc cls d) hp4 → hp3.UpToSlots hp4 → ∃ ob fv, Zc cls d ob ∧ ob.data = .fields fv ∧ Inv (X.suite e ((e, ob) :: (X.pn ++ pins))) [] σ2 H2 { t with heap := hp4 } := by
      intro hp4 fly4 upto4
      obtain ⟨ob, fv, at4, z4, dat4⟩ := fly4.there
      have inv4 : Inv X pins σ2 H2 { t with heap := hp4 } := inv2.landed below fly4.1 ((upto.trans upto3).trans upto4) sameOs bare
      exact ⟨ob, fv, z4, dat4, inv4.suite at4 dat4 free apartL apartF⟩
    have go : ∀ {us : List ExceptHandler} {qs : List Cl}, ClOk X us qs → wCl X.K Wout D qs cls d σ2 H2 → wpAny (model X.prog X.w) X.A (handleBy (.ref e) X.env us) (SP X pins D) X.xe { t with heap := hp3 } := by
      intro us qs ok
      induction ok with
      | nil =>
        intro out
        apply wpAny_handleBy_nil
        obtain ⟨_, _, _, _, _, T, _, _, f1, _, f3, f4, _⟩ := id fly3
        unfold PySem.passOn
        apply wpAny_bind
        apply wpAny_field f1 f3 f4
        rw [if_neg (show ¬ ((Value.ref T == Value.none) = true) by simp)]
        have away : wpAny (model X.prog X.w) X.A (setFlight (.ref e) X.env.frame) (fun _ t₄ => wpAny (model X.prog X.w) X.A (throw (.ref e) : Sem Flow) (SP X pins D) X.xe t₄) X.xe { t with heap := hp3 } := by
          rw [hF]
          apply HandSPX.setFlight_upZ fly3
          intro hp4 held4 upto4
          exact wpAny_throw (tk _ _ ⟨e, B, tI, pins, σ2, H2, cls, d, rfl, inv2, below, (upto.trans upto3).trans upto4, .inr (.inr (by rw [hS]; exact held4)), free, sameOs, bare, out⟩)
        first
          | exact wpAny_bind (wpAny_pure (wpAny_bind away))
          | exact wpAny_bind away
      | @plain x c ts s0 sr p1 p2 us2 l2 hc suite _ ih =>
        rintro ⟨hit, isOne, yes, no⟩
        apply wpAny_handleBy_cons (codeAny_handlers_test _) (by intro z; cases z)
        refine named hc ((PySem.W.exm_one (M := model X.prog X.w) inv3.kIn typed isOne).here ?_)
        cases hit with
        | false => exact ih (no rfl)
        | true =>
          apply codeAny_handlers_suite
          apply HandSPX.lands_againZ fly3
          intro hp4 fly4 upto4
          obtain ⟨ob, fv, z4, dat4, inS⟩ := again fly4 upto4
          refine wpAny_mono ((suite e ob cls d (X.pn ++ pins) z4 ⟨_, dat4⟩).run [] _ _ H2 _ inS (yes rfl e free)) (fun fl t6 hsp => ?_) (fun _ _ z => False.elim z)
          match fl, hsp with
          | .next, ⟨σ6, H6, in6, q6⟩ => exact ⟨σ6, H6, in6.unsuite okX, q6⟩
          | .brk, ⟨σ6, H6, in6, q6⟩ => exact ⟨σ6, H6, in6.unsuite okX, q6⟩
          | .cont, ⟨σ6, H6, in6, q6⟩ => exact ⟨σ6, H6, in6.unsuite okX, q6⟩
          | .ret u, ⟨v6, σ6, H6, in6, r6, q6⟩ => exact ⟨v6, σ6, H6, in6.unsuite okX, r6, q6⟩
      | @named x n i c ts s0 sr p1 p2 us2 l2 hi hn hc suite _ ih =>
        rintro ⟨hit, isOne, yes, no⟩
        apply wpAny_handleBy_cons (codeAny_handlers_test _) (by intro z; cases z)
        refine named hc ((PySem.W.exm_one (M := model X.prog X.w) inv3.kIn typed isOne).here ?_)
        cases hit with
        | false => exact ih (no rfl)
        | true =>
          apply codeAny_handlers_suite_as
          apply HandSPX.lands_againZ fly3
          intro hp4 fly4 upto4
          obtain ⟨ob, fv, z4, dat4, inS⟩ := again fly4 upto4
          refine store_ok (X := X.suite e ((e, ob) :: (X.pn ++ pins))) (v := .ref e) inS hN hi (.inl hn) rfl (fun t5 in5 => ?_) (.inr hn)
          refine wpAny_mono ((suite e ob cls d (X.pn ++ pins) z4 ⟨_, dat4⟩).run [] t5 _ H2 _ in5 (yes rfl e free)) (fun fl t6 hsp => ?_) (fun _ _ z => False.elim z)
          have done : ∀ {σ6 : L2.St} {H6 : Hp} {Q : Shared → Prop}, Inv (X.suite e ((e, ob) :: (X.pn ++ pins))) [] σ6 H6 t6 → (∀ t7, Inv X pins (σ6.set i none) H6 t7 → Q t7) →
              wpAny (model X.prog X.w) X.A (do bindName X.env n .none; unbindBehindTheSuite X.env n p2) (fun _ t7 => Q t7) X.xe t6 := fun {σ6 H6 Q} in6 q => gone_ok (in6.unsuite okX) hN hi hn q
          match fl, hsp with
          | .next, ⟨σ6, H6, in6, q6⟩ => exact done in6 fun t7 in7 => ⟨_, _, in7, q6⟩
          | .brk, ⟨σ6, H6, in6, q6⟩ => exact done in6 fun t7 in7 => ⟨_, _, in7, q6⟩
          | .cont, ⟨σ6, H6, in6, q6⟩ => exact done in6 fun t7 in7 => ⟨_, _, in7, q6⟩
          | .ret u, ⟨v6, σ6, H6, in6, r6, q6⟩ => exact done in6 fun t7 in7 => ⟨_, _, _, in7, r6, q6⟩
    exact go hL want
  refine wpAny_mono ran (fun fl t1 hsp => ?_) fun _ _ z => z
  match fl, hsp with
  | .next, ⟨σ6, H6, in6, q6⟩ => exact wpAny_execs_nil ⟨σ6, H6, in6.ofTry okX, q6⟩
  | .brk, ⟨σ6, H6, in6, q6⟩ => exact ⟨σ6, H6, in6.ofTry okX, q6⟩
  | .cont, ⟨σ6, H6, in6, q6⟩ => exact ⟨σ6, H6, in6.ofTry okX, q6⟩
  | .ret u, ⟨v6, σ6, H6, in6, r6, q6⟩ => exact ⟨v6, σ6, H6, in6.ofTry okX, r6, q6⟩
end
end Mir

set_option maxHeartbeats 2000000
namespace Mir
open PySem PySem.Spec PyProof.Rows L2
/-! data with dicts, shown -/
def kPy : Key → PyData
  | .inl i => .int i
  | .inr x => .str x
mutual
def D.pyd : D → Option PyData
  | .non => some .none
  | .bl b => some (.bool b)
  | .int i => some (.int i)
  | .str x => some (.str x)
  | .tup xs => (D.pyds xs).map .tuple
  | .lst xs => (D.pyds xs).map .list
  | .frl _ => none
  | .ref _ => none
  | .ty _ => none
  | .cl _ => none
  | .fn _ => none
  | .dct ks xs => (D.pyds xs).map fun ds => .dict ((ks.map kPy).zip ds)
  | .dtt _ _ => none
  | .obj _ _ _ => none
def D.pyds : List D → Option (List PyData)
  | [] => some []
  | d :: ds => match D.pyd d, D.pyds ds with
    | some x, some xs => some (x :: xs)
    | _, _ => none
end
mutual
inductive Sh (K : PySem.W.Frag) (H : Hp) : V → PyData → Prop
  | non : Sh K H .non .none
  | bl (b : Bool) : Sh K H (.bl b) (.bool b)
  | int (i : Int) : Sh K H (.int i) (.int i)
  | str (x : Str) : Sh K H (.str x) (.str x)
  | lst {a : Addr} {xs : List V} {ds : List PyData} : SqL K H a xs → ShL K H xs ds → Sh K H (.ref a) (.list ds)
  | tup {a : Addr} {xs : List V} {ds : List PyData} : SqT K H a xs → ShL K H xs ds → Sh K H (.ref a) (.tuple ds)
  | dct {a : Addr} {kvs : List (Key × V)} {ds : List PyData} : Rd H a (.dK kvs) → ShL K H (kvs.map (·.2)) ds → Sh K H (.ref a) (.dict (((kvs.map (·.1)).map kPy).zip ds))
inductive ShL (K : PySem.W.Frag) (H : Hp) : List V → List PyData → Prop
  | nil : ShL K H [] []
  | cons {v : V} {vs : List V} {d : PyData} {ds : List PyData} : Sh K H v d → ShL K H vs ds → ShL K H (v :: vs) (d :: ds)
end
section
variable {K : PySem.W.Frag} {ms os : Addr → Prop} {H H' : Hp}
mutual
theorem Sh.now {W : Addr → Prop} (k : Kp W H H') (hW : ∀ a, ¬ W a) : ∀ {v : V} {d : PyData}, Sh K H v d → Sh K H' v d
  | _, _, .non => .non
  | _, _, .bl b => .bl b
  | _, _, .int i => .int i
  | _, _, .str x => .str x
  | _, _, .lst s l => by
    refine .lst ?_ (ShL.now k hW l)
    rcases s with z | z
    · exact .inl (Rd.keep z k trivial (.inl (hW _)))
    · exact .inr z
  | _, _, .tup s l => .tup (SqT.keep s k) (ShL.now k hW l)
  | _, _, .dct r l => .dct (Rd.keep r k trivial (.inl (hW _))) (ShL.now k hW l)
theorem ShL.now {W : Addr → Prop} (k : Kp W H H') (hW : ∀ a, ¬ W a) : ∀ {vs : List V} {ds : List PyData}, ShL K H vs ds → ShL K H' vs ds
  | _, _, .nil => .nil
  | _, _, .cons a l => .cons (Sh.now k hW a) (ShL.now k hW l)
end
mutual
theorem Rep.sh : ∀ {v : V} {d : D} {p : PyData}, Rep K ms H v d → d.pyd = some p → Sh K H v p
  | _, .non, _, r, e => by cases r; cases e; exact .non
  | _, .bl b, _, r, e => by cases r; cases e; exact .bl b
  | _, .int b, _, r, e => by cases r; cases e; exact .int b
  | _, .str b, _, r, e => by cases r; cases e; exact .str b
  | _, .tup xs, _, r, e => by
    cases r with
    | tup s l =>
      unfold D.pyd at e
      obtain ⟨ps, h1, rfl⟩ := Option.map_eq_some_iff.mp e
      exact .tup s (RepL.sh l h1)
  | _, .lst xs, _, r, e => by
    cases r with
    | lst n s l =>
      unfold D.pyd at e
      obtain ⟨ps, h1, rfl⟩ := Option.map_eq_some_iff.mp e
      exact .lst (SqL.of s) (RepL.sh l h1)
  | _, .dct ks xs, _, r, e => by
    cases r with
    | dct n s hk l =>
      unfold D.pyd at e
      obtain ⟨ps, h1, rfl⟩ := Option.map_eq_some_iff.mp e
      subst hk
      exact .dct s (RepL.sh l h1)
  | _, .frl _, _, r, e => by cases e
  | _, .ref _, _, r, e => by cases e
  | _, .ty _, _, r, e => by cases e
  | _, .cl _, _, r, e => by cases e
  | _, .fn _, _, r, e => by cases e
  | _, .dtt _ _, _, r, e => by cases e
  | _, .obj _ _ _, _, r, e => by cases e
theorem RepL.sh : ∀ {vs : List V} {ds : List D} {ps : List PyData}, RepL K ms H vs ds → D.pyds ds = some ps → ShL K H vs ps
  | _, [], _, r, e => by cases r; cases e; exact .nil
  | _, d :: ds, _, r, e => by
    cases r with
    | cons a l =>
      unfold D.pyds at e
      cases h1 : D.pyd d with
      | none => rw [h1] at e; cases e
      | some x =>
        cases h2 : D.pyds ds with
        | none => rw [h1, h2] at e; cases e
        | some xs =>
          rw [h1, h2] at e; cases e
          exact .cons (Rep.sh a h1) (RepL.sh l h2)
end
theorem RepB.sh {v : V} {d : D} {p : PyData} (r : RepB K ms os H v d) (e : d.pyd = some p) : Sh K H v p := by
  rcases r with r | ⟨a, m, rfl, h1, h2, h3⟩
  · exact r.sh e
  · cases m with
    | ls xs =>
      cases h2
      obtain ⟨vs, e1, e2⟩ := h3
      unfold D.pyd at e
      obtain ⟨ps, h1, rfl⟩ := Option.map_eq_some_iff.mp e
      exact .lst (SqL.of e1) (e2.sh h1)
    | dc ks vs =>
      cases h2
      obtain ⟨kvs, e1, e3, e2⟩ := h3
      unfold D.pyd at e
      obtain ⟨ps, h1, rfl⟩ := Option.map_eq_some_iff.mp e
      subst e3
      exact .dct (.inl e1) (e2.sh h1)
    | dt ks vs => cases h2; cases e
    | ob c ns fs =>
      obtain ⟨ds, _, rfl⟩ := Option.map_eq_some_iff.mp (show (Fo.dats fs).map (.obj c ns) = some d from h2)
      cases e
    | th => cases h2
end
section
variable {X : Cx} {pins : List (Addr × Obj)} {σ : L2.St} {H : Hp} {s : Shared}
theorem not_sys (I : Inv X pins σ H s) (q : X.base.NoSeer) {a : Addr} {o : Obj} (e : s.heap.get? a = some o) (h : ∀ es n, o.data ≠ .dict es n) : a ≠ sysModules := fun z => by
  obtain ⟨mm, ⟨o', es, ep, e', d', _⟩, _⟩ := q.mods
  have := I.bk _ _ e'
  rw [z, this] at e; cases e
  exact h _ _ d'
theorem pairs_of {h : Heap} : ∀ {kvs : List (Key × V)} {qs : List (Key × Value)} {us : List Value} {ds : List PyData} {as : List Addr}, KV kvs qs → us = qs.map (·.2) → ReadsAll h us ds as → PyProof.V.PairsRead h kPy qs (((kvs.map (·.1)).map kPy).zip ds) as
  | [], _, _, _, _, .nil, e, r => by subst e; cases r; exact .nil
  | _ :: _, _, _, _, _, .cons a l, e, r => by
    subst e
    cases r with
    | cons r1 r2 =>
      have e1 := a.1
      simp only [List.map_cons, List.zip_cons_cons, e1]
      exact .cons r1 (pairs_of l rfl r2)
theorem kv_vals : ∀ {kvs : List (Key × V)} {qs : List (Key × Value)}, KV kvs qs → Vals (kvs.map (·.2)) (qs.map (·.2))
  | [], _, .nil => .nil
  | _ :: _, _, .cons a l => .cons a.2 (kv_vals l)
theorem key_reads {h : Heap} {P : Program} {w : World} (k : Key) (v : Value) (e : (mixKind P w).is k v = true) : Reads h v (kPy k) [] := by
  rcases keyIs_shape e with ⟨i, t, rfl, rfl⟩ | ⟨x, t, rfl, rfl⟩
  · exact .int i t
  · exact .str x t
mutual
theorem Sh.reads (I : Inv X pins σ H s) (q : X.base.NoSeer) : ∀ {d : PyData} {v : V} {u : Value}, Sh X.K H v d → RelV v u → ∃ as, Reads s.heap u d as ∧ sysModules ∉ as
  | _, _, _, .non, r => by cases r; exact ⟨_, .none, List.not_mem_nil⟩
  | _, _, _, .bl b, r => by cases r; exact ⟨_, .bool b, List.not_mem_nil⟩
  | _, _, _, .int i, r => by obtain ⟨t, rfl⟩ := r; exact ⟨_, .int i t, List.not_mem_nil⟩
  | _, _, _, .str x, r => by obtain ⟨t, rfl⟩ := r; exact ⟨_, .str x t, List.not_mem_nil⟩
  | _, _, _, .lst hs ha, r => by
    cases r
    obtain ⟨its, rv, ⟨o, n, ho, hc, _, hd⟩, _⟩ := I.list hs
    obtain ⟨as, hr, hn⟩ := ShL.reads I q ha rv
    refine ⟨_, .list ho hc hd hr, fun z => (List.mem_cons.mp z).elim (fun z => ?_) hn⟩
    exact not_sys I q ho (fun es n z => by rw [hd] at z; cases z) z.symm
  | _, _, _, .tup hs ha, r => by
    cases r
    obtain ⟨its, rv, ⟨o, ho, hc, n, hd⟩, _⟩ := I.tuple hs
    obtain ⟨as, hr, hn⟩ := ShL.reads I q ha rv
    exact ⟨_, .tuple ho hc hd hr, hn⟩
  | _, _, _, .dct hs ha, r => by
    cases r
    obtain ⟨_, ns, qs, kv, ho⟩ := hs.ok I.hok
    obtain ⟨as, hr, hn⟩ := ShL.reads I q ha (kv_vals kv)
    refine ⟨_, PyProof.V.reads_dictOf (enc := kPy) key_reads ho (pairs_of kv rfl hr), fun z => (List.mem_cons.mp z).elim (fun z => ?_) hn⟩
    rw [← z] at ns
    simp at ns
theorem ShL.reads (I : Inv X pins σ H s) (q : X.base.NoSeer) : ∀ {ds : List PyData} {vs : List V} {us : List Value}, ShL X.K H vs ds → Vals vs us → ∃ as, ReadsAll s.heap us ds as ∧ sysModules ∉ as
  | _, _, _, .nil, r => by cases r; exact ⟨_, .nil, List.not_mem_nil⟩
  | _, _, _, .cons h1 h2, r => by
    cases r with
    | cons r1 r2 =>
      obtain ⟨as, q1, n1⟩ := Sh.reads I q h1 r1
      obtain ⟨bs, q2, n2⟩ := ShL.reads I q h2 r2
      exact ⟨_, .cons q1 q2, fun z => (List.mem_append.mp z).elim n1 n2⟩
end
end
/-! repr, format -/
def showY (d : PyData) : Bool := d.showable && decide (d.depth ≤ 60) && decide (d.shown.length ≤ 16777216)
theorem showY.at {d : PyData} (h : showY d = true) : d.showable = true ∧ d.depth ≤ 60 ∧ d.shown.length ≤ sizeLine := by
  unfold showY at h
  simp only [Bool.and_eq_true, decide_eq_true_eq] at h
  exact ⟨h.1.1, h.1.2, Nat.le_trans h.2 (by decide)⟩
def reprY (d : D) : Option D := match d.pyd with
  | some p => if showY p then some (.str p.shown) else none
  | none => none
def reprM : List D → Option D := fun ds => match ds with
  | [d] => reprY d
  | _ => none
def rRepY (K : PySem.W.Frag) : List V → Hp → VK → Prop := fun vs H Q => ∃ v d, vs = [v] ∧ Sh K H v d ∧ showY d = true ∧ Q (.str d.shown) H
section
variable {X : Cx} {K : PySem.W.Frag}
theorem call_reprY (gd : X.A.guards = some []) (hu : X.A.units + 200 < cLine) (q : X.base.NoSeer) : CallR X (.builtin "repr") (rRepY X.K) := by
  intro pins s σ H vs us Q I r want
  obtain ⟨v, d, rfl, hd, ok, want⟩ := want
  obtain ⟨u, rfl, ru⟩ := vals1 r
  obtain ⟨ok1, ok2, hz⟩ := showY.at ok
  obtain ⟨as, rd, hn⟩ := hd.reads I q ru
  have done : ∀ (h' : Heap) (t : Tok) (tk : Nat), (∀ b o, s.heap.get? b = some o → h'.get? b = some o) → EP X pins σ Q (.str d.shown t) { s with heap := h', toks := tk } := fun h' t tk k => ⟨.str d.shown, H, I.kept (t' := tk) k, ⟨t, rfl⟩, want⟩
  cases hd with
  | non =>
    cases (show u = Value.none from ru)
    exact PySem.P.repr_of_none (by simpa [PyData.shown] using done s.heap s.toks (s.toks + 1) fun _ _ z => z)
  | bl b =>
    cases (show u = Value.bool b from ru)
    exact PySem.P.repr_of_bool (by simpa [PyData.shown] using done s.heap s.toks (s.toks + 1) fun _ _ z => z)
  | int i =>
    obtain ⟨t, rfl⟩ := (show ∃ t, u = Value.int i t from ru)
    exact PySem.P.repr_of_int (by simpa [PyData.showable] using ok1) (by simpa [PyData.shown] using done s.heap s.toks (s.toks + 1) fun _ _ z => z)
  | str x =>
    obtain ⟨t, rfl⟩ := (show ∃ t, u = Value.str x t from ru)
    exact PySem.P.repr_of_str (by simpa [PyData.shown] using done s.heap s.toks (s.toks + 1) fun _ _ z => z) (by simpa [PyData.shown] using hz)
  | lst s1 l1 => cases ru; exact repr_of_reads' rd ok1 (fun _ => hn) gd (by omega) (fun _ _ z => z) (fun h' t tk k => done h' t tk k) hz
  | tup s1 l1 => cases ru; exact repr_of_reads' rd ok1 (fun _ => hn) gd (by omega) (fun _ _ z => z) (fun h' t tk k => done h' t tk k) hz
  | dct s1 l1 => cases ru; exact repr_of_reads' rd ok1 (fun _ => hn) gd (by omega) (fun _ _ z => z) (fun h' t tk k => done h' t tk k) hz
theorem on_reprY : OpN K (rRepY K) reprM := on1 fun ms os H Q v x z _ _ hv e hQ => by
  unfold reprY at e
  cases e1 : x.pyd with
  | none => rw [e1] at e; cases e
  | some d =>
    rw [e1] at e
    by_cases h : showY d = true
    · simp only [h, if_true] at e
      cases e
      exact ⟨v, d, rfl, hv.sh e1, h, hQ _ H .refl (.str _)⟩
    · simp only [h] at e
      cases e
/-- {x!r} -/
def tShR (K : PySem.W.Frag) (te : TE) : TE := fun σ H Q => te σ H fun x H1 => ∃ d, Sh K H1 x d ∧ showY d = true ∧ Q (.str d.shown) H1
theorem pe_shR {e : Expr} {te : TE} {pos : Pos} (gd : X.A.guards = some []) (hu : X.A.units + 200 < cLine) (q : X.base.NoSeer) (he : PE X e te) : PE X (.FormattedValue e 114 none pos) (tShR X.K te) := by
  refine ⟨fun pins s σ H Q I h => ?_⟩
  refine wpAny_FormattedValue_repr (thn (he.run pins s σ H _ I h) fun u s1 hv => ?_)
  obtain ⟨v, H1, I1, ru, d, hd, ok, want⟩ := hv
  obtain ⟨ok1, ok2, hz⟩ := showY.at ok
  obtain ⟨as, rd, hn⟩ := hd.reads I1 q ru
  have done : ∀ (h' : Heap) (t : Tok) (tk : Nat), (∀ b o, s1.heap.get? b = some o → h'.get? b = some o) → wpAny (model X.prog X.w) X.A (formatField (.str d.shown t) Str.empty) (EP X pins σ Q) X.xe { s1 with heap := h', toks := tk } := fun h' t tk k =>
    wpAny_formatField_str ⟨.str d.shown, H1, I1.kept (t' := tk) k, ⟨_, rfl⟩, want⟩ ⟨.str d.shown, H1, I1.kept (t' := tk + 1) k, ⟨_, rfl⟩, want⟩ hz
  cases hd with
  | non =>
    cases (show u = Value.none from ru)
    exact pyReprObj_none (by simpa [PyData.shown] using done s1.heap s1.toks (s1.toks + 1) fun _ _ z => z)
  | bl b =>
    cases (show u = Value.bool b from ru)
    exact pyReprObj_bool (by simpa [PyData.shown] using done s1.heap s1.toks (s1.toks + 1) fun _ _ z => z)
  | int i =>
    obtain ⟨t, rfl⟩ := (show ∃ t, u = Value.int i t from ru)
    exact pyReprObj_int (by simpa [PyData.showable] using ok1) (by simpa [PyData.shown] using done s1.heap s1.toks (s1.toks + 1) fun _ _ z => z)
  | str x =>
    obtain ⟨t, rfl⟩ := (show ∃ t, u = Value.str x t from ru)
    exact pyReprObj_str (by simpa [PyData.shown] using done s1.heap s1.toks (s1.toks + 1) fun _ _ z => z) (by simpa [PyData.shown] using hz)
  | lst s1 l1 => cases ru; exact pyReprObj_of_reads rd ok1 (fun _ => hn) gd (by omega) (fun _ _ z => z) (fun h' t tk k => done h' t tk k) hz
  | tup s1 l1 => cases ru; exact pyReprObj_of_reads rd ok1 (fun _ => hn) gd (by omega) (fun _ _ z => z) (fun h' t tk k => done h' t tk k) hz
  | dct s1 l1 => cases ru; exact pyReprObj_of_reads rd ok1 (fun _ => hn) gd (by omega) (fun _ _ z => z) (fun h' t tk k => done h' t tk k) hz
/-- {x} -/
def fmtY : PyData → Str
  | .str x => x
  | d => d.shown
def tShF (K : PySem.W.Frag) (te : TE) : TE := fun σ H Q => te σ H fun x H1 => ∃ d, Sh K H1 x d ∧ showY d = true ∧ Q (.str (fmtY d)) H1 ∧ (fmtY d).length ≤ sizeLine
theorem pe_shF {e : Expr} {te : TE} {pos : Pos} (gd : X.A.guards = some []) (hu : X.A.units + 200 < cLine) (q : X.base.NoSeer) (he : PE X e te) : PE X (.FormattedValue e (-1) none pos) (tShF X.K te) := by
  refine ⟨fun pins s σ H Q I h => ?_⟩
  refine wpAny_FormattedValue_plain (thn (he.run pins s σ H _ I h) fun u s1 hv => ?_)
  obtain ⟨v, H1, I1, ru, d, hd, ok, want, hzf⟩ := hv
  obtain ⟨ok1, ok2, hz⟩ := showY.at ok
  obtain ⟨as, rd, hn⟩ := hd.reads I1 q ru
  have done : ∀ (h' : Heap) (t : Tok) (tk : Nat), (∀ b o, s1.heap.get? b = some o → h'.get? b = some o) → EP X pins σ Q (.str (fmtY d) t) { s1 with heap := h', toks := tk } := fun h' t tk k => ⟨.str (fmtY d), H1, I1.kept (t' := tk) k, ⟨t, rfl⟩, want⟩
  cases hd with
  | non =>
    cases (show u = Value.none from ru)
    exact wpAny_formatField_none (by simpa [fmtY, PyData.shown] using done s1.heap (s1.toks + 1) (s1.toks + 1 + 1) fun _ _ z => z)
  | bl b =>
    cases (show u = Value.bool b from ru)
    exact wpAny_formatField_bool (by simpa [fmtY, PyData.shown] using done s1.heap (s1.toks + 1) (s1.toks + 1 + 1) fun _ _ z => z)
  | int i =>
    obtain ⟨t, rfl⟩ := (show ∃ t, u = Value.int i t from ru)
    exact wpAny_formatField_int (by simpa [PyData.showable] using ok1) (by simpa [fmtY, PyData.shown] using done s1.heap (s1.toks + 1) (s1.toks + 1 + 1) fun _ _ z => z)
  | str x =>
    obtain ⟨t, rfl⟩ := (show ∃ t, u = Value.str x t from ru)
    exact wpAny_formatField_str (done s1.heap t s1.toks fun _ _ z => z) (done s1.heap s1.toks (s1.toks + 1) fun _ _ z => z) (by simpa [fmtY] using hzf)
  | lst s1 l1 => cases ru; exact formatField_of_reads rd ok1 (fun _ => hn) gd (by omega) (fun _ _ z => z) (fun h' t tk k => done h' t tk k) hz
  | tup s1 l1 => cases ru; exact formatField_of_reads rd ok1 (fun _ => hn) gd (by omega) (fun _ _ z => z) (fun h' t tk k => done h' t tk k) hz
  | dct s1 l1 => cases ru; exact formatField_of_reads rd ok1 (fun _ => hn) gd (by omega) (fun _ _ z => z) (fun h' t tk k => done h' t tk k) hz
end
end Mir

set_option maxHeartbeats 2000000
namespace Mir
open PySem PySem.W PySem.Calls PyProof.Rows
/-! own error classes whose __init__ says super().__init__(text) and keeps its argument -/
/-- what the built-in class B, whose __init__ is initId, has -/
structure IniF (B initId : String) (bm : List Value) : Prop where
  kf : KxsFacts B initId
  kind : builtinKind initId = some .slot
  row : Manifest.signature? initId = some ⟨.positional, "*", B, .self, [⟨"args", .varPos, false⟩]⟩
  entry : entryFor table initId = some Builtin.«BaseException.__init__»
  plain : plainId initId = true
  star : (B != "*") = true
  store : StoreFacts B bm "object.__setattr__" "object"
theorem IniF.of {B newId initId : String} {bm bm' : List Value} (F : ExcBaseFacts B newId initId bm') (kf : KxsFacts B initId) (st : StoreFacts B bm "object.__setattr__" "object") : IniF B initId bm := ⟨kf, F.initKind, F.initRow, F.initEntry, F.init.plain, F.noStar, st⟩
abbrev endMro : List Value := [.type "Exception", .type "BaseException", .type "object"]
abbrev indexMro : List Value := .type "IndexError" :: .type "LookupError" :: endMro
abbrev overMro : List Value := .type "OverflowError" :: .type "ArithmeticError" :: endMro
abbrev arithMro : List Value := .type "ArithmeticError" :: endMro
abbrev lookupMro : List Value := .type "LookupError" :: endMro
abbrev valueMro : List Value := .type "ValueError" :: endMro
theorem ini_IndexError : IniF "IndexError" "IndexError.__init__" indexMro := .of F.excBase_IndexError kxs_IndexError F.store_IndexError
theorem ini_OverflowError : IniF "OverflowError" "OverflowError.__init__" overMro := .of F.excBase_OverflowError kxs_OverflowError F.store_OverflowError
theorem ini_ArithmeticError : IniF "ArithmeticError" "ArithmeticError.__init__" arithMro := .of F.excBase_ArithmeticError kxs_ArithmeticError F.store_ArithmeticError
theorem ini_LookupError : IniF "LookupError" "LookupError.__init__" lookupMro := .of F.excBase_LookupError kxs_LookupError F.store_LookupError
theorem ini_ValueError : IniF "ValueError" "ValueError.__init__" valueMro := .of F.excBase_ValueError kxs_ValueError F.store_ValueError
abbrev keyMro : List Value := [.type "KeyError", .type "LookupError", .type "Exception", .type "BaseException", .type "object"]
theorem kf_KeyError : KxsFacts "KeyError" "KeyError.__init__" := ⟨by (show builtinType _ = _); (rw [builtinType_eq_fast]); (kernel_rfl), by first | rfl | kernel_rfl⟩
theorem st_KeyError : StoreFacts "KeyError" keyMro "object.__setattr__" "object" := by
  constructor
  case mro => kernel_rfl
  case slot =>
    refine .of (owner := "object") (n := "__setattr__") ?_ ?_ ?_ ?_ ?_ ?_
    · rw [typeLookup_type, builtinLookup_eq_fast]
      kernel_rfl
    · decide +kernel
    · decide +kernel
    · decide +kernel
    · first
        | exact .inl (by decide +kernel)
        | exact .inr (by decide +kernel)
    · rw [isSubtype_type]
      kernel_rfl
  case entry => exact F.entry_object_sa
  case kind => decide +kernel
  case split => decide +kernel
  case hasOwner => decide +kernel
  case args =>
    intro a b c
    unfold argsOk
    kernel_rfl
  case passes =>
    intro self
    kernel_rfl
theorem ini_KeyError : IniF "KeyError" "KeyError.__init__" keyMro := by
  refine ⟨kf_KeyError, ?_, ?_, ?_, ?_, ?_, st_KeyError⟩
  · kernel_rfl
  · kernel_rfl
  · refine entryFor_alias (id' := "BaseException.__init__") ?_ ?_ ?_ ?_
    · rw [fastTable_eq_tree]
      kernel_rfl
    · first | rfl | decide +kernel
    · decide +kernel
    · rw [fastTable_eq_tree]
      kernel_rfl
  · decide +kernel
  · decide +kernel
/-! the making: BaseException.__new__ by the class N from which the class has it, then the class's own __init__ -/
section
variable {M : Model} {A : Around} {E : Value → Shared → Prop} {hp : Heap} {g : Array GenState} {dr : Drawn} {tk : Nat} {os : OsState} {nm q : Str} {C Na : Addr} {bs bm bmN : List Value} {hd : Bool} {sn : List Str} {sub : List Value} {ab : Bool} {col : Option Bool} {dd : Option Addr} {k0 k1 k2 k3 k5 : Option Value}
  {N newId initN : String}
/-- what the line of classes holds -/
structure Line (N : String) (bm : List Value) : Prop where
  new : bm.contains (.type N) = true
  noA : bm.contains (.type "AttributeError") = false
  noN : bm.contains (.type "NameError") = false
theorem Line.at (l : Line N bm) : (Value.ref C :: bm).contains (.type N) = true ∧ (Value.ref C :: bm).contains (.type "AttributeError") = false ∧ (Value.ref C :: bm).contains (.type "NameError") = false := by
  refine ⟨?_, ?_, ?_⟩
  · rw [List.contains_cons, l.new, Bool.or_true]
  · rw [List.contains_cons, l.noA]; rfl
  · rw [List.contains_cons, l.noN]; rfl
theorem check_newN (F : ExcBaseFacts N newId initN bmN) (l : Line N bm) {us : List Value} {Q : Unit → Shared → Prop} (atC : hp.get? C = some (excClassObj nm q C Na bs bm hd sn sub ab col dd k0 k1 k2 k3 k5 newId)) (done : Q () ⟨hp, g, dr, tk, os⟩) :
    wpAny M A (checkBuiltinCall newId ⟨.ref C :: us, []⟩) Q E ⟨hp, g, dr, tk, os⟩ := by
  have here := (l.at (C := C)).1
  have notStar := F.noStar
  simp only [checkBuiltinCall, F.newKind, F.newSplit, F.newRow]
  repeat (first
    | refine wpAny_loadPart_at atC ?_
    | (refine wpAny_isSubtype_exc atC ?_; rw [here])
    | refine wpAny_staticBase_exc atC ?_
    | refine wpAny_madeBy_exc atC ?_
    | simp only [bne_self_eq_false, Bool.false_eq_true, if_false]
    | wp_step)
  exact done
end
section
variable {prog : Program} {w : World} {A : Around} {E : Value → Shared → Prop} {R : Result → Shared → Prop} {hp : Heap} {g : Array GenState} {dr : Drawn} {tk : Nat} {os : OsState} {nm q : Str} {C Na : Addr} {bs bm bmN : List Value} {hd : Bool} {sn : List Str} {sub : List Value} {ab : Bool} {col : Option Bool} {dd : Option Addr} {k0 k1 k2 k3 k5 : Option Value}
  {N newId initN : String}
theorem new_ofN (F : ExcBaseFacts N newId initN bmN) (l : Line N bm) {us : List Value} (atC : hp.get? C = some (excClassObj nm q C Na bs bm hd sn sub ab col dd k0 k1 k2 k3 k5 newId)) (few : us.length ≤ sizeLine)
    (done : R (.ok (.ret (.ref (hp.objs.size + 1)))) ⟨(hp.push (kdv_tup us)).push (HandSPX.excO C hp.objs.size), g, dr, tk, os⟩) : codeAny (model prog w) A (.builtin newId ⟨.ref C :: us, []⟩) R ⟨hp, g, dr, tk, os⟩ := by
  obtain ⟨h1, h2, h3⟩ := l.at (C := C)
  have e1 := F.ends
  apply codeAny_builtinAt F.entry
  unfold Builtin.«BaseException.__new__»
  apply PySem.wpAt_bind
  show PySem.wpAt _ _ _ (stack >>= _) _ _ _
  refine PySem.wpAt_bind (PySem.wpAt_stack fun top rest => PySem.wpAt_of_wpAny ?_)
  wp_walk
  apply PySem.wpAt_of_wpAny
  rw [F.owner]
  repeat (first
    | with_reducible refine wpAny_madeHere_exc F.canon atC ?_
    | with_reducible refine wpAny_loadPart_at atC ?_
    | (with_reducible refine wpAny_isSubtype_exc atC ?_; first | rw [h1] | rw [h2] | rw [h3])
    | wp_step)
  show R _ _
  rw [Heap.size_push]
  exact done
theorem type_callN (F : ExcBaseFacts N newId initN bmN) (l : Line N bm) {us : List Value} {fI : Addr} {Q : PySem.Fin → Shared → Prop} (atC : hp.get? C = some (excClassObj nm q C Na bs bm hd sn sub ab col dd k0 k1 k2 k3 k5 newId)) (few : us.length ≤ sizeLine)
    (look : Looks (model prog w) hp (typeLookup (.ref C) "__init__") (some (.ref fI))) (bound : ∀ self, Looks (model prog w) hp (bindSpecial (.ref fI) self) (.ref fI, [self]))
    (run : codeAny (model prog w) A (.call (.ref fI) ⟨.ref (hp.objs.size + 1) :: us, []⟩) (fun r t => match r with
      | .ok (.ret v) => v = .none ∧ Q (.done (.ret (.ref (hp.objs.size + 1)))) t
      | .ok _ => False
      | .error e => E e t) ⟨(hp.push (kdv_tup us)).push (HandSPX.excO C hp.objs.size), g, dr, tk, os⟩) :
    wpAny (model prog w) A (Builtin.«type.__call__» ⟨.ref C :: us, []⟩) Q E ⟨hp, g, dr, tk, os⟩ := by
  repeat (first
    | with_reducible refine wpAny_loadPart_at atC ?_
    | with_reducible refine wpAny_madeBy_exc atC ?_
    | wp_step)
  apply codeAny_call_builtin_code (Code.quiet_builtin _ F.quiet) (check_newN F l atC _)
  apply new_ofN F l atC few
  show wpAny _ _ _ _ _ _
  have grows : ∀ b o, hp.get? b = some o → ((hp.push (kdv_tup us)).push (HandSPX.excO C hp.objs.size)).get? b = some o := fun b o e => Heap.get?_push_of_some _ (Heap.get?_push_of_some _ e)
  have atC2 := grows _ _ atC
  have atE : ((hp.push (kdv_tup us)).push (HandSPX.excO C hp.objs.size)).get? (hp.objs.size + 1) = some (HandSPX.excO C hp.objs.size) := by heap_get
  have self : (Value.ref C :: bm).contains (.ref C) = true := by simp
  have look2 := look.keeps grows
  have bound2 := (bound (.ref (hp.objs.size + 1))).keeps grows
  unfold isInstance
  repeat (first
    | with_reducible refine wpAny_loadPart_at atE ?_
    | (with_reducible refine wpAny_isSubtype_exc atC2 ?_; rw [self])
    | wp_step)
  show wpAny _ _ (typeLookup (.ref C) _) _ _ _
  apply look2.at
  apply wpAny_holding
  apply wpAny_bind
  apply bound2.at
  apply wpAny_bind
  refine wpAny_call (codeAny_mono run fun r t z => ?_)
  match r, z with
  | .error e, z => exact z
  | .ok .next, z => exact z.elim
  | .ok .brk, z => exact z.elim
  | .ok .cont, z => exact z.elim
  | .ok (.ret v), ⟨ev, z⟩ =>
    subst ev
    first
      | exact wpAny_pure (wpAny_pure z)
      | (wp_walk; exact z)
theorem call_classN (F : ExcBaseFacts N newId initN bmN) (l : Line N bm) {us : List Value} {fI : Addr} (atC : hp.get? C = some (excClassObj nm q C Na bs bm hd sn sub ab col dd k0 k1 k2 k3 k5 newId)) (few : us.length ≤ sizeLine)
    (look : Looks (model prog w) hp (typeLookup (.ref C) "__init__") (some (.ref fI))) (bound : ∀ self, Looks (model prog w) hp (bindSpecial (.ref fI) self) (.ref fI, [self]))
    (run : codeAny (model prog w) (A.under (.builtin "type.__call__" ⟨.ref C :: us, []⟩)) (.call (.ref fI) ⟨.ref (hp.objs.size + 1) :: us, []⟩) (InitBack (hp.objs.size + 1) R) ⟨(hp.push (kdv_tup us)).push (HandSPX.excO C hp.objs.size), g, dr, tk, os⟩) :
    codeAny (model prog w) A (.call (.ref C) ⟨us, []⟩) R ⟨hp, g, dr, tk, os⟩ := by
  have g1 := PySem.tc_lookup
  have g2 := PySem.tc_bind (.ref C)
  have typed : (⟨hp, g, dr, tk, os⟩ : Shared).TypeIs (.ref C) "type" := ⟨_, atC, rfl⟩
  apply codeAny_of_tree
  show wpAny _ _ (callAny (.ref C) _) _ _ _
  repeat (any_goals (first
    | assumption
    | with_reducible refine wpAny_loadPart_at atC ?_
    | wp_step))
  refine ⟨rfl, codeAny_call_builtin_at (Code.quiet_builtin _ (by decide +kernel)) PySem.entry_typeCall (PySem.wpAny_check_type_call_sub atC (type_callN F l atC few look bound (codeAny_mono run fun r t z => ?_)))⟩
  match r, z with
  | .error e, z => exact z
  | .ok .next, z => exact z
  | .ok .brk, z => exact z
  | .ok .cont, z => exact z
  | .ok (.ret v), z => exact z
end
/-! super().__init__(text), bound to the error -/
section
variable {M : Model} {A : Around} {E : Value → Shared → Prop} {hp : Heap} {g : Array GenState} {dr : Drawn} {tk : Nat} {os : OsState} {nm q : Str} {C Na : Addr} {bs bm bmB : List Value} {hd : Bool} {sn : List Str} {sub : List Value} {ab : Bool} {col : Option Bool} {dd : Option Addr} {k0 k1 k2 k3 k5 : Option Value}
  {B initId newId : String}
theorem bound_check (I : IniF B initId bmB) {e : Addr} {oe : Obj} {us : List Value} {Q : Unit → Shared → Prop} (atC : hp.get? C = some (excClassObj nm q C Na bs bm hd sn sub ab col dd k0 k1 k2 k3 k5 newId)) (atE : hp.get? e = some oe) (cls : oe.cls = .ref C) (done : Q () ⟨hp, g, dr, tk, os⟩) :
    wpAny M A (checkBoundCall initId ⟨.ref e :: us, []⟩) Q E ⟨hp, g, dr, tk, os⟩ := by
  have notStar := I.star
  simp only [checkBoundCall, I.kind, I.row]
  repeat (first
    | (with_reducible refine wpAny_loadPart_at atE ?_; rw [cls])
    | with_reducible refine wpAny_loadPart_at atC ?_
    | wp_step)
  apply wpAny_onRaise
  have z : ∀ (a b : String) (n : Nat), Bind.check ⟨.positional, "*", B, .self, [⟨"args", .varPos, false⟩]⟩ a b n (List.map (fun x => x.fst) ({ pos := Value.ref e :: us } : Args).kw) = pure () := fun a b n => check_star_args _ _ _ _ _ _
  rw [z]
  exact wpAny_pure done
end
section
variable {prog : Program} {w : World} {A : Around} {E : Value → Shared → Prop} {hp : Heap} {g : Array GenState} {dr : Drawn} {tk : Nat} {os : OsState} {nm q : Str} {C Na : Addr} {bs bm bmB : List Value} {hd : Bool} {sn : List Str} {sub : List Value} {ab : Bool} {col : Option Bool} {dd : Option Addr} {k0 k1 k2 k3 k5 : Option Value}
  {B initId newId : String}
theorem call_wrapper (I : IniF B initId bmB) {u e t0 : Addr} {us : List Value} {Q : Value → Shared → Prop} (atC : hp.get? C = some (excClassObj nm q C Na bs bm hd sn sub ab col dd k0 k1 k2 k3 k5 newId)) (atE : hp.get? e = some (HandSPX.excO C t0)) (atU : hp.get? u = some (kxs_mw initId e)) (few : us.length ≤ sizeLine)
    (done : ∀ hp' t1, (∀ b o, b ≠ e → hp.get? b = some o → hp'.get? b = some o) → hp'.get? e = some (HandSPX.excO C t1) → Q .none ⟨hp', g, dr, tk, os⟩) : wpAny (model prog w) A (call (.ref u) us) Q E ⟨hp, g, dr, tk, os⟩ := by
  apply wpAny_call
  apply codeAny_of_tree
  show wpAny _ A.in1 (callAny (.ref u) ⟨us, []⟩) _ _ _
  simp only [callAny]
  apply wpAny_bind
  apply wpAny_load atU
  have isBound : (Value.type "method-wrapper" == Value.type "method" || Value.type "method-wrapper" == Value.type "builtin_function_or_method" || Value.type "method-wrapper" == Value.type "method-wrapper") = true := by decide
  simp only [kxs_mw, isBound, if_true]
  apply KFB.if_so (by decide)
  apply wpAny_bind
  apply bound_check I atC atE rfl
  first
    | refine wpAny_pure ?_
    | refine wpAny_bind (wpAny_pure (wpAny_pure ?_))
  refine ⟨plainId_quiet I.plain _, codeAny_builtin I.entry ?_⟩
  exact exc_init_tree (cls := .ref C) (t0 := t0) (dv := none) (c2 := .none) (c3 := .none) (b4 := .bool false) atE few fun hp' k atE' _ => done hp' _ k atE'
end
/-! self.f = v on the error that is being made -/
section
open L2 Builtin Builtin.ObjectAttr
variable {X : Cx} {pins : List (Addr × Obj)} {σ : L2.St} {H : Hp} {s : Shared} {a C : Addr} {f : Str} {y : V} {u : Value} {Q : Unit → Shared → Prop} {E : Value → Shared → Prop} {A : Around} {B : String} {bmB : List Value}
theorem exo_set (SF : StoreFacts B bmB "object.__setattr__" "object") (over : excOver X.K C bmB = true) (sa : findIn X.K (.ref C) "__setattr__" = some (some (.builtin "object.__setattr__"))) (taker : takerIn X.K C f = some none) (hasD : ∃ cd, clsIn X.K C = some cd ∧ cd.hasDict = true)
    (I : Inv X pins σ H s) (e : H a = some (exo a C none)) (ry : RelV y u) (done : ∀ dx s', H dx = none → dx ≠ a → Inv X pins σ (upd (upd H dx (exd dx [(f, y)])) a (exo a C (some dx))) s' → Q () s') :
    wpAny (model X.prog X.w) A (setAttr (.ref a) f u) Q E s := by
  obtain ⟨cd, hcd, hdict⟩ := hasD
  obtain ⟨t1, atA⟩ := exo_at I.hok e
  obtain ⟨hp, g, d, t, os⟩ := s
  have inst : InstAt hp a { cls := .ref C, dict := none, data := .fields #[.ref t1, .none, .none, .none, .bool false, .none] } C none := ⟨atA, rfl, rfl, trivial⟩
  have na : ∀ {b : Addr}, H b = none → b ≠ a := fun {b} n z => by rw [z, e] at n; cases n
  have fin : ∀ h' tk' dx, (∀ b o, b ≠ a → hp.get? b = some o → h'.get? b = some o) → hp.objs.size ≤ dx → dx ≠ a → h'.get? a = some ({ cls := .ref C, dict := some dx, data := .fields #[.ref t1, .none, .none, .none, .bool false, .none] } : Obj) →
      h'.Ns1 dx (fun n => if n = f then some u else none) → Q () ⟨h', g, d, tk', os⟩ := by
    intro h' tk' dx k dn dne hx hn
    have free : H dx = none := I.hok.fresh dn
    have nd : ∀ {b : Addr} {o : Obj}, hp.get? b = some o → b ≠ dx := fun {b o} q => Nat.ne_of_lt (Nat.lt_of_lt_of_le (Heap.lt_size q) dn)
    refine done dx _ free dne (I.un (t' := tk') ⟨fun b o q n _ _ => k b o (na n) q, fun b o q n _ _ => ⟨o.slots, k b o (na n) q⟩, fun b o q n _ => by rw [upd_ne (na n), upd_ne (nd q)]; exact n, fun b o q _ => ?_, fun b xs q => ?_, fun b o v q => ?_, fun b ps q => ?_⟩ fun b o q => ?_)
    · by_cases hb : b = a
      · exact ⟨_, by rw [hb]; exact hx⟩
      · exact ⟨o, k b o hb q⟩
    · rw [upd_ne (at_ne e q exo_tup), upd_ne (ne_of_none q free)]; exact q
    · rw [upd_ne (at_ne e q exo_frz), upd_ne (ne_of_none q free)]; exact q
    · exact ⟨#[], by rw [upd_ne (at_ne e q exo_tbl), upd_ne (ne_of_none q free), q]; simp⟩
    · by_cases hb : b = a
      · subst hb
        rw [upd_same] at q
        cases q
        exact exo_ok hx
      · rw [upd_ne hb] at q
        by_cases hd : b = dx
        · subst hd
          rw [upd_same] at q
          cases q
          exact exd_ok hn (relO_put (fs := []) ry fun _ => trivial)
        · rw [upd_ne hd] at q
          refine (I.hok b o q).stay (fun c v hc z => k c v ?_ z) (fun c hc => ?_) fun c xs hc => ?_
          · rcases hc with hc | hc
            · rw [hc]; exact hb
            · exact at_ne e hc exo_own
          · rw [upd_ne (at_ne e hc exo_own), upd_ne (ne_of_none hc free)]; exact hc
          · rw [upd_ne (at_ne e hc exo_tup), upd_ne (ne_of_none hc free)]; exact hc
  refine PySem.W.set_plain I.kIn (ox := { cls := .ref C, dict := none, data := .fields #[.ref t1, .none, .none, .none, .bool false, .none] }) (od := none) inst sa ?_
  refine osa_openX SF I.kIn inst over taker fun b => ?_
  have apart : a ≠ hp.objs.size := Nat.ne_of_lt (Heap.lt_size atA)
  have hcls : Looks (model X.prog X.w) hp (classData C) cd := looks_clsIn I.kIn hcd
  obtain ⟨nm, bs, mro, ns, qn, hd, sn, sb, ab, col, del⟩ := cd
  dsimp only at hdict
  subst hdict
  show wpAny _ _ (storeInOwnDict (.ref a) (.ref C) _ f u b) _ _ _
  unfold storeInOwnDict ownDictForStores
  repeat (first
    | with_reducible refine HandSPX.store_in_new ?_ ?_
    | with_reducible refine wpAny_loadPart_at atA ?_
    | with_reducible refine hcls.at ?_
    | wp_step)
  · exact ⟨_, #[], _, (Heap.get?_update_ne _ _ _ _ apart.symm).trans (Heap.get?_push_at rfl rfl), rfl, fun e he => absurd he (by simp), fun _ => rfl⟩
  · intro h' tk' hn' hs
    have atA1 : (hp.push { cls := .type "dict", data := .dict #[] }).get? a = some ({ cls := .ref C, data := .fields #[.ref t1, .none, .none, .none, .bool false, .none] } : Obj) := Heap.get?_push_of_some _ atA
    refine fin h' tk' hp.objs.size (fun b o hb ho => ?_) (Nat.le_refl _) apart.symm ?_ hn'
    · exact (hs.2 b (Nat.ne_of_lt (Heap.lt_size ho))).trans ((Heap.get?_update_ne _ _ _ _ hb).trans (Heap.get?_push_of_some _ ho))
    · exact (hs.2 a apart).trans (Heap.get?_update_self _ atA1 rfl)
end
/-! the whole __init__ -/
section
open L2
/-- the text of such an __init__ -/
theorem Gd.make {k : Nat} {P : Program} {base : Heap} {A : Around} (g : Gd (k + 1) P base A) (C : Addr) (us : List Value) (kw : List (Str × Value)) : Gd k P base (A.under (.builtin "type.__call__" ⟨.ref C :: us, kw⟩)) := ⟨by
  have := g.rg
  first
    | exact this
    | (unfold Around.under; exact this)
    | simpa [Around.under] using this, g.ns, g.tr, by
  have := g.dp
  rw [L2.make_depth]
  omega⟩
abbrev supBody (js : Expr) (f : Str) (p0 p1 p2 p3 p4 p5 p6 p7 p8 : Pos) : List Stmt :=
  [.Expr (.Call (.Attribute (.Call (.Name "super" p0) [] [] p1) "__init__" p2) [js] [] p3) p4, .Assign [.Attribute (.Name "self" p5) f p6] (.Name f p7) p8]
/-- what the written part says of the class C over the built-in class B, its __init__ at fI keeping its argument as f -/
structure SupC (K : Frag) (mg : Str → Option Value) (prog : Program) (C : Addr) (B initId N newId : String) (bmB : List Value) (f qual : Str) (params : Arguments) (body : List Stmt) (scope : Scope) (fI : Addr) (fd : FuncData) : Prop where
  ini : IniF B initId bmB
  new : ∃ initN bmN, ExcBaseFacts N newId initN bmN
  cls : ∃ nm q Na bs bm sn sub ab col dd k0 k1 k2 k3 k5, K.lookup C = some (excClassObj nm q C Na bs bm true sn sub ab col dd k0 k1 k2 k3 k5 newId) ∧ Line N bm
  over : excOver K C bmB = true
  sa : findIn K (.ref C) "__setattr__" = some (some (.builtin "object.__setattr__"))
  taker : takerIn K C f = some none
  exC : subIn K (.ref C) (.type "BaseException") = some true
  tyC : typeIn K (.ref C) = some (.type "type")
  kC : keepIn K (.ref C) = true
  isB : subIn K (.ref C) (.type B) = some true
  isC : mroIn K C (.ref C) = some true
  sup : ks_superIn K C C "__init__" = some (some (.builtin initId))
  opq : nsIn K cStatics "thirdparty.any" = some none
  iC : findIn K (.ref C) "__init__" = some (some (.ref fI))
  tI : typeIn K (.ref fI) = some (.type "function")
  noS : mg "super" = none
  fn : ∃ (cc c : Addr) (oc doc pm ct cl ccl : Value) (od cld cdd : Option Addr) (osl csl ccs : Array (Option Value)) (vs : Array Value) (file : Str) (tf : Tok), fd = ksFn "__init__" qual params body scope .none .none doc pm none (.ref c) ct cc ∧ K.lookup fI = some ⟨oc, od, .func fd, osl⟩ ∧ codeIn K (.ref c) qual = true ∧
    K.lookup cc = some ⟨cl, cld, .cell (some (.ref C)), csl⟩ ∧ K.lookup c = some ⟨ccl, cdd, .fields vs, ccs⟩ ∧ vs[2]? = some (.str file tf) ∧ ((prog.main.file : Str) == file) = true
  top : (prog.main.scope.names.lookup ("super" : Str)).isSome = false
/-- the promise -/
def spSup (C : Addr) (f : Str) (tx : V → Hp → Prop) : Sp := fun vs H Q _ => ∃ a v, vs = [.ref a, v] ∧ H a = some (exo a C none) ∧ tx v H ∧ ∀ d, H d = none → d ≠ a → Q .non (upd (upd H d (exd d [(f, v)])) a (exo a C (some d)))
theorem sup_ok {P : Program} {w : World} {K : Frag} {mg : Str → Option Value} {base : Heap} {k : Nat} {C fI : Addr} {B initId N newId : String} {bmB : List Value} {f qual : Str} {params : Arguments} {js : Expr} {p0 p1 p2 p3 p4 p5 p6 p7 p8 : Pos} {scope : Scope} {fd : FuncData} {tx : V → Hp → Prop}
    (S : SupC K mg P C B initId N newId bmB f qual params (supBody js f p0 p1 p2 p3 p4 p5 p6 p7 p8) scope fI fd) (Sc : NdefX.NScope ["self", f, "__class__"] ["self", f] ["__class__"] scope) (head : ∃ ar, (params.posonlyargs ++ params.args).head? = some ar ∧ ar.arg = "self")
    (kS : scope.names.lookup ("super" : Str) = some .globalImplicit) (kF : scope.names.lookup f = some .local) (fself : f ≠ "self")
    (text : ∀ (F : NdefX.NF) (A : Around) (outer : List Env) (s : Shared) (H : Hp) (E : XK), F.scope = scope → Room k (NdefX.ncx (L2.CX P w) P w K mg base ["self", f, "__class__"] F fI A outer s H E).A → (NdefX.ncx (L2.CX P w) P w K mg base ["self", f, "__class__"] F fI A outer s H E).A.guards = some [] → base.NoSeer → ∃ tJ, PE (NdefX.ncx (L2.CX P w) P w K mg base ["self", f, "__class__"] F fI A outer s H E) js tJ ∧ ∀ (a : Addr) (v : V) (w1 : List (Option V)) (Q : VK), tx v H → (∀ t, Q (.str t) H) → tJ (NdefX.startF ["self", f, "__class__"] [.ref a, v] w1) H Q)
    (hcall : ∃ pl : Env → Sem Bool, ∀ env, eval (.Call (.Attribute (.Call (.Name "super" p0) [] [] p1) "__init__" p2) [js] [] p3) env = (do
      let ov ← attributeBase (.Call (.Name "super" p0) [] [] p1) "__init__" env (eval (.Call (.Name "super" p0) [] [] p1) env)
      standAt p2.atName
      let (m, first) ← holding [ov] (getMethod ov "__init__" (pl env))
      callWith p3 m first (backTo p3 (starEach [js] env)) []))
    (hsw : ∀ env, swapsWith (.Call (.Attribute (.Call (.Name "super" p0) [] [] p1) "__init__" p2) [js] [] p3) none p4.line env = pure false)
    (hstar : ∀ env, starEach [js] env = (false, eval js env) :: starEach [] env) (nx : (f == ("__debug__" : Str)) = false) (nc : (f == ("__classdict__" : Str)) = false)
    (hsw2 : ∀ env, swapsWith (.Name f p7) (some (.Attribute (.Name "self" p5) f p6)) p8.line env = pure false) :
    FnG P w K mg base [] (L2.CX P w) (k + 1) fI fd ["self", f] (spSup C f tx) := by
  constructor
  · rintro vs H Q E ⟨a, v, rfl, _⟩
    rfl
  intro A outer s H args us vs Q E gd room _ env bind rel want
  obtain ⟨a, v, rfl, atA, htx, done⟩ := want
  obtain ⟨cc, c, oc, doc, pm, ct, cl, ccl, od, cld, cdd, osl, csl, ccs, vals, file, tf, rfl, atF, code, atCell, atCode, atFile, sameFile⟩ := S.fn
  have inK : K.In s.heap := env.mod.kin.keeps fun b o e => (env.bs b o e).1
  have noLim : s.heap.NoLimit := env.mod.nolimit.keeps fun b o e => (env.bs b o e).1
  have own : ∀ x ∈ scope.names, x.2 ≠ .cell := Sc.nocell
  let F : NdefX.NF := ⟨"__init__", qual, params, supBody js f p0 p1 p2 p3 p4 p5 p6 p7 p8, scope, [("__class__", cc)], c⟩
  let X := NdefX.ncx (L2.CX P w) P w K mg base ["self", f, "__class__"] F fI A outer s H E
  have hlen : us.length = 2 := by rw [← rel.length]; rfl
  refine ks_codeAny_call_defAt (body := supBody js f p0 p1 p2 p3 p4 p5 p6 p7 p8) (binds := (["self", f] : List Str).zip us) room.depth (inK _ _ atF) rfl noLim (codeRec_of inK code) rfl bind own (fun y hy => Sc.par _ (List.of_mem_zip hy).1) (fun h₁ hns kp => ?_) Sc.co Sc.gen Sc.kind
  have cells : NdefX.CellsAt [("__class__", cc)] ["__class__"] [some (V.ref C)] s.heap H := by
    have isC : s.heap.IsCell cc (some (.ref C)) := ⟨_, inK _ _ atCell, rfl⟩
    have free : H cc = none := (env.bs cc _ (env.mod.kin _ _ atCell)).2
    refine ⟨rfl, fun y c' e => ?_, fun x y c' e1 e2 => ?_, fun i y e => ?_⟩
    · have : y = "__class__" ∧ c' = cc := by
        simp only [List.lookup] at e
        split at e
        · cases e; rename_i q; exact ⟨by simpa using q, rfl⟩
        · cases e
      obtain ⟨rfl, rfl⟩ := this
      exact ⟨free, _, isC⟩
    · simp only [List.lookup] at e1 e2
      split at e1
      · split at e2
        · rename_i q1 _ q2
          have h1 : x = "__class__" := by simpa using q1
          have h2 : y = "__class__" := by simpa using q2
          rw [h1, h2]
        · cases e2
      · cases e1
    · cases i with
      | zero =>
        simp at e
        subst e
        exact ⟨cc, rfl, fun v e => by simp at e; subst e; exact ⟨_, rfl, isC⟩⟩
      | succ i => simp at e
  have I0 : Inv X [] (NdefX.startF ["self", f, "__class__"] [.ref a, v] [some (V.ref C)]) H { s with heap := h₁, toks := s.toks + ((["self", f] : List Str).zip us).length } :=
    NdefX.inv_startN (F := F) Sc room.hd env rfl rel cells hns kp
  match us, rel, hlen with
  | [u0, u1], .cons r0 (.cons r1 .nil), _ =>
  obtain rfl : u0 = Value.ref a := r0
  obtain ⟨ar, hhead, harg⟩ := head
  obtain ⟨pl, hcall⟩ := hcall
  obtain ⟨nm, q, Na, bs, bm, sn, sub, ab, col, dd, k0, k1, k2, k3, k5, atC, line⟩ := S.cls
  have clsC : clsIn K C = some { name := nm, bases := bs, mro := .ref C :: bm, ns := Na, qualname := q, hasDict := true, slotNames := sn, subclasses := sub, abstract := ab, collection := col, hasDel := false } := by unfold clsIn; rw [atC] <;> rfl
  -- super().__init__(text)
  refine ks_wpAt_execs_cons (ks_wpAt_Expr_any (ks_wpAt_MethodCall (ks_wpAt_super_base (f := fI) (cc := c) (ar := ar) kS (Sc.frk _ (by simp)) (by decide) rfl (I0.kIn _ _ atF) rfl hhead rfl (I0.kIn _ _ atCode) rfl atFile sameFile S.top ?_) (hcall _)) I0.quiet (hsw _))
  obtain ⟨mb, blt1, blt2⟩ := I0.mod.blt
  refine ks_loadName_global (env := X.env) Sc.kind kS (loadGlobal_builtin (env := X.env) (I0.mod.glob.keeps I0.bk) S.noS (blt1.keeps I0.bk) ((blt2 _ (by decide)).trans (show bootBuiltins "super" = some (.type "super") by decide +kernel)) ⟨rfl, ?_⟩)
  refine wpAny_loadName_free (env := X.env) Sc.kind (Sc.frk _ (by simp)) rfl ⟨_, I0.kIn _ _ atCell, rfl⟩ ?_
  rw [harg]
  have selfAt : ∀ {t : Shared} {H1 : Hp} {ps : List (Addr × Obj)} {Q : Value → Shared → Prop} {E : Value → Shared → Prop}, Inv X ps (NdefX.startF ["self", f, "__class__"] [.ref a, v] [some (V.ref C)]) H1 t → Q (.ref a) t → wpAny (model P w) X.A (loadName X.env "self") Q E t := by
    intro t H1 ps Q E J q
    obtain ⟨m, hn, hl⟩ := J.loc
    obtain ⟨u, ru, look⟩ := hl 0 "self" (.ref a) rfl rfl (.inl (Sc.par _ (by simp)))
    obtain rfl : u = Value.ref a := ru
    rcases look with ⟨_, z⟩ | ⟨z, _⟩
    · exact wpAny_loadName_local (env := X.env) Sc.kind (Sc.par _ (by simp)) hn z q
    · have z2 : scope.names.lookup ("self" : Str) = some .local := Sc.par _ (by simp)
      rcases z with z | z <;> (have z3 : scope.names.lookup ("self" : Str) = _ := z; rw [z2] at z3; cases z3)
  refine selfAt I0 ?_
  refine ks_wpAny_isType_cls (I0.kIn _ _ atC) rfl ⟨rfl, ?_⟩
  obtain ⟨t0, atA0⟩ := exo_at I0.hok atA
  refine ks_wpAny_call_super (I0.kIn _ _ atC) rfl atA0 rfl (fun _ z => nomatch z) (looks_mroIn I0.kIn S.isC) (fun h2 atSo k2 => ?_)
  have I2 : Inv X [] (NdefX.startF ["self", f, "__class__"] [.ref a, v] [some (V.ref C)]) H { s with heap := h2, toks := s.toks + ((["self", f] : List Str).zip [Value.ref a, u1]).length } := I0.kept k2
  -- the wrapper
  have supIn := S.sup
  unfold ks_superIn at supIn
  rw [clsC] at supIn
  have instA : InstAt h2 a (HandSPX.excO C t0) C none := ⟨k2 _ _ atA0, rfl, rfl, trivial⟩
  have neA : a ≠ C := ks_ne I2.kIn instA clsC
  refine kxs_getMethod S.ini.kf (D := C) (x := a) (C := C) atSo (looks_opaque I2.kIn S.opq) (l₀ := .ref C :: bm) ?_ rfl I2.kIn supIn (instA.type.andThen (looks_subIn I2.kIn S.isB)) neA (by decide) ?_
  · exact (looks_clsIn I2.kIn clsC).andThen .now
  have atU : (h2.push (kxs_mw initId a)).get? h2.objs.size = some (kxs_mw initId a) := Heap.get?_push_size _ rfl
  have I3 : Inv X [] (NdefX.startF ["self", f, "__class__"] [.ref a, v] [some (V.ref C)]) H { s with heap := h2.push (kxs_mw initId a), toks := s.toks + ((["self", f] : List Str).zip [Value.ref a, u1]).length + 1 } := I2.kept fun b o e => Heap.get?_push_of_some _ e
  have freeU : H h2.objs.size = none := I2.hok.fresh (Nat.le_refl _)
  obtain ⟨tJ, peJ, goJ⟩ := text F A outer s H E rfl (room.deeper _) (guards_deeper _ _ gd.rg) gd.ns
  have pinU : Inv X [(h2.objs.size, kxs_mw initId a)] (NdefX.startF ["self", f, "__class__"] [.ref a, v] [some (V.ref C)]) H { s with heap := h2.push (kxs_mw initId a), toks := s.toks + ((["self", f] : List Str).zip [Value.ref a, u1]).length + 1 } := by
    refine I3.pins_of fun p hp => ?_
    have hp : p ∈ ([] : List (Addr × Obj)) ++ [(h2.objs.size, kxs_mw initId a)] := hp
    rcases List.mem_append.mp hp with hp | hp
    · cases hp
    · rw [List.mem_singleton] at hp
      subst hp
      exact ⟨atU, freeU, Nat.ne_of_gt I2.lt, I2.nofs (Nat.le_refl _), fun _ z => nomatch z⟩
  show wpAny (model P w) X.A (callWith p3 (.ref h2.objs.size) [] (backTo p3 (starEach [js] X.env)) []) _ _ _
  rw [hstar]
  refine kxs_callWith (i := initId) (x := a) (by rfl) (evalArgs_plain (spliced_cons (thn (peJ.run _ _ _ H (fun t H1 => (∃ y, t = .str y) ∧ H1 = H) pinU (goJ a v _ _ htx fun y => ⟨⟨y, rfl⟩, rfl⟩)) fun ut s4 got => spliced_nil ?_)))
  obtain ⟨t, H4, I4, rt, ⟨y, rfl⟩, rfl⟩ := got
  obtain ⟨atU4, _⟩ := I4.pin (h2.objs.size, kxs_mw initId a) (List.mem_append_right _ List.mem_cons_self)
  refine ⟨atU4, ?_⟩
  obtain ⟨t4, atA4⟩ := exo_at I4.hok atA
  obtain ⟨h4, g4, d4, k4, o4⟩ := s4
  refine call_wrapper S.ini (I4.kIn _ _ atC) atA4 atU4 (by show 1 ≤ sizeLine; decide) fun h5 t5 k5' atA5 => ?_
  have I5 : Inv X [] (NdefX.startF ["self", f, "__class__"] [.ref a, v] [some (V.ref C)]) H4 ⟨h5, g4, d4, k4, o4⟩ := by
    have I4' : Inv X [] (NdefX.startF ["self", f, "__class__"] [.ref a, v] [some (V.ref C)]) H4 ⟨h4, g4, d4, k4, o4⟩ := I4.pins_of fun p hp => I4.pin p (List.mem_append_left _ hp)
    have J := I4'.write (t' := k4) (x := a) (e := a) (o := exo a C none) (by rw [atA]; exact True.intro) (.inl rfl) k5' ⟨_, atA5⟩ (exo_ok atA5)
    have same : upd H4 a (exo a C none) = H4 := by
      funext b
      by_cases hb : b = a
      · rw [hb, upd_same, atA]
      · rw [upd_ne hb]
    rw [same] at J
    exact J
  -- self.f = f
  have peF : PE X (.Name f p7) _ := pe_var (i := 1) rfl (.inl kF) nx nc
  have peS : PE X (.Name "self" p5) _ := pe_var (i := 0) rfl (.inl (Sc.par _ (by simp)))
  refine ks_wpAt_execs_cons (ks_wpAt_Assign_Attr (PySem.wpAt_of_wpAny (thn (peF.run [] _ _ H4 (fun t H1 => t = v ∧ H1 = H4) I5 ⟨v, rfl, rfl, rfl⟩) fun uv s6 got => ?_)) (hsw2 _))
  obtain ⟨t, H6, I6, rv, rfl, rfl⟩ := got
  refine thn (peS.run [] _ _ H6 (fun t H1 => t = .ref a ∧ H1 = H6) I6 ⟨.ref a, rfl, rfl, rfl⟩) fun ua s7 got => ?_
  obtain ⟨t', H7, I7, ra, rfl, rfl⟩ := got
  obtain rfl : ua = Value.ref a := ra
  refine exo_set S.ini.store S.over S.sa S.taker ⟨_, clsC, rfl⟩ I7 atA rv fun dx s8 free ne I8 => ?_
  refine PySem.wpAt_of_wpAny (wpAny_execs_nil ?_)
  exact ⟨.non, _, I8.os, I8.bare, I8.base, I8.hok, rfl, done dx free ne⟩
end
section
open L2
variable {X : Cx} {C fI : Addr} {B initId N newId : String} {bmB : List Value} {f qual x : Str} {params : Arguments} {body : List Stmt} {scope : Scope} {fd : FuncData} {tx : V → Hp → Prop} {k : Nat} {e : Expr} {te : TE} {p pos : Pos}
/-- what is wanted of the argument -/
def SupW (C : Addr) (f : Str) (tx : V → Hp → Prop) (Q : XK) (vs : List V) (H1 : Hp) : Prop := ∃ v, vs = [v] ∧ tx v H1 ∧ ∀ d, H1 d = none → Q (.ref C) (some d) (upd H1 d (.xd [(f, v)]))
/-- X(e) -/
theorem pmk_sup (S : SupC X.K X.mg X.prog C B initId N newId bmB f qual params body scope fI fd) (F1 : FnG X.prog X.w X.K X.mg X.base [] (L2.CX X.prog X.w) k fI fd ["self", f] (spSup C f tx)) (gd : Gd (k + 1) X.prog X.base X.A) (hr : Room (k + 1) X.A) (hb : Binds X.K fd ["self", f] []) (hg : Gl X x) (hm : X.mg x = some (.ref C)) (he : PE X e te)
    (stays : ∀ v H a o, tx v H → H a = none → tx v (upd H a o)) (hdb : (x == ("__debug__" : Str)) = false := by decide) (hs : starEach [e] X.env = (false, eval e X.env) :: starEach [] X.env := by rfl) (hpl : (backTo pos (starEach ([] : List Expr) X.env)).any (·.1) = false := by rfl) :
    PMk X (.Call (.Name x p) [e] [] pos) (fun σ H Q => te σ H fun v H1 => SupW C f tx Q [v] H1) := by
  intro pins s σ H Q inv want
  obtain ⟨nm, q, Na, bs, bm, sn, sub, ab, col, dd, k0, k1, k2, k3, k5, atC, line⟩ := S.cls
  obtain ⟨initN, bmN, FN⟩ := S.new
  refine wpAny_Call_Name_kw (ld_glob inv hg hm ?_ hdb)
  have args : PA X [e] _ := pa_cons he pa_nil hs
  refine PySem.W.callWith_K (h₀ := X.base) inv.ok.mod.kin S.kC (thn (args.run pos pins s σ H (SupW C f tx Q) inv want) fun us s1 got => ?_) hs hpl
  obtain ⟨vs, H1, I1, rel, v, rfl, htx, done⟩ := got
  refine ⟨I1.kIn, ?_⟩
  show wpAny _ _ (call (.ref C) us) _ _ _
  obtain ⟨hp, g, dr, tk, os⟩ := s1
  have above : hp.objs.size ≤ hp.objs.size + 1 := Nat.le_succ _
  have free : H1 (hp.objs.size + 1) = none := I1.hok.fresh above
  have grows : ∀ b o, hp.get? b = some o → ((hp.push (kdv_tup us)).push (HandSPX.excO C hp.objs.size)).get? b = some o := fun b o e => Heap.get?_push_of_some _ (Heap.get?_push_of_some _ e)
  have atE : ((hp.push (kdv_tup us)).push (HandSPX.excO C hp.objs.size)).get? (hp.objs.size + 1) = some (HandSPX.excO C hp.objs.size) := by heap_get
  have I2 : Inv X pins σ (upd H1 (hp.objs.size + 1) (exo (hp.objs.size + 1) C none)) ⟨(hp.push (kdv_tup us)).push (HandSPX.excO C hp.objs.size), g, dr, tk, os⟩ :=
    I1.laid (t' := tk) (a := hp.objs.size + 1) (o := exo (hp.objs.size + 1) C none) (h' := (hp.push (kdv_tup us)).push (HandSPX.excO C hp.objs.size)) grows above (exo_ok atE)
  have rel2 : Vals [V.ref (hp.objs.size + 1), v] (Value.ref (hp.objs.size + 1) :: us) := .cons rfl rel
  have two : (Value.ref (hp.objs.size + 1) :: us).length = 2 := rel2.length.symm
  have binds := hb ⟨(hp.push (kdv_tup us)).push (HandSPX.excO C hp.objs.size), g, dr, tk, os⟩ (Value.ref (hp.objs.size + 1) :: us) I2.kIn (by rw [List.append_nil]; exact two)
  rw [List.append_nil] at binds
  have few : us.length ≤ sizeLine := by
    have : us.length + 1 = 2 := two
    have : us.length = 1 := by omega
    rw [this]
    decide
  have promise : spSup C f tx [V.ref (hp.objs.size + 1), v] (upd H1 (hp.objs.size + 1) (exo (hp.objs.size + 1) C none))
      (fun v' H2 => v' = .non ∧ ∃ d, H1 d = none ∧ d ≠ hp.objs.size + 1 ∧ H2 = upd (upd (upd H1 (hp.objs.size + 1) (exo (hp.objs.size + 1) C none)) d (exd d [(f, v)])) (hp.objs.size + 1) (exo (hp.objs.size + 1) C (some d))) (fun _ _ _ => False) := by
    refine ⟨_, v, rfl, upd_same, stays _ _ _ _ htx free, fun d hd ne => ⟨rfl, d, ?_, ne, rfl⟩⟩
    rwa [upd_ne ne] at hd
  refine wpAny_call (call_classN FN line (I1.kIn _ _ atC) few (looks_findIn I1.kIn S.iC) (fun self => bind_fn I1.kIn self S.tI)
    (codeAny_mono (F1.run _ X.stack _ _ ⟨Value.ref (hp.objs.size + 1) :: us, []⟩ (Value.ref (hp.objs.size + 1) :: us) _ _ (fun _ _ _ => False) (gd.make C us []) (hr.make C us []) (fun p hp => absurd hp List.not_mem_nil) (I2.env0.make C us []) binds rel2 promise) fun r s' out => ?_))
  match r, out with
  | .error er, out =>
    obtain ⟨_, _, _, _, _, _, _, _, _, _, _, _, z⟩ := out
    exact z.elim
  | .ok .next, out => exact False.elim out
  | .ok .brk, out => exact False.elim out
  | .ok .cont, out => exact False.elim out
  | .ok (.ret u), out =>
    obtain ⟨v', H2, os2, bare2, un2, hok2, rv, rfl, d, hd, ne, rfl⟩ := out
    obtain ⟨h2, g2, d2, t2, os'⟩ := s'
    refine ⟨rv, mk_end (raises_own S.exC S.tyC) I1 above grows un2 hok2 os2 bare2 upd_same (by rw [upd_ne ne, upd_same]) hd ?_⟩
    have same : upd (del (upd (upd (upd H1 (hp.objs.size + 1) (exo (hp.objs.size + 1) C none)) d (exd d [(f, v)])) (hp.objs.size + 1) (exo (hp.objs.size + 1) C (some d))) (hp.objs.size + 1)) d (.xd [(f, v)]) = upd H1 d (.xd [(f, v)]) := by
      funext b
      by_cases hb : b = d
      · rw [hb, upd_same, upd_same]
      · rw [upd_ne hb, upd_ne hb]
        by_cases hb2 : b = hp.objs.size + 1
        · rw [hb2, del_same, free]
        · rw [del_ne hb2, upd_ne hb2, upd_ne hb, upd_ne hb2]
    rw [same]
    exact done d hd
end
end Mir

set_option maxHeartbeats 2000000
namespace Mir
open PySem PySem.W PySem.Calls PyProof.Rows
open PySem.W (Frag)
/-! own error classes, told by a Bool of the written part -/
abbrev IniW : Type := Option (Str × Str × Arguments × FuncBody × Scope × Addr × List Str × Addr)
abbrev iniA (K : Frag) (x : Str) : Addr := He.fAd K (x, some "__init__")
def iniW (K : Frag) (x : Str) : IniW := match K.lookup (iniA K x) with
  | some ⟨_, _, .func fd, _⟩ => some (fd.name, fd.qualname, fd.params, fd.body, fd.scope, fd.globals, fd.closure.map (·.1), fd.builtins)
  | _ => none
structure IniD where
  cls : Str
  qual : Str
  params : Arguments
  body : List Stmt
  scope : Scope
def IniD.val (d : IniD) : IniW := some ("__init__", d.qual, d.params, .stmts d.body, d.scope, mainGlobals, ["__class__"], builtinsNs)
abbrev AlS : Type := He.AlX × List IniW
/-- what is reached from the module's names in n steps, and the statics -/
def asS (g : Addr → Option Obj) (n : Nat) : List Addr := cStatics :: He.asD g n
abbrev frS (g : Addr → Option Obj) (n : Nat) : Frag := He.frT g (asS g n)
def obsS (n : Nat) (fa : List He.Fa) (fn : List He.DefD) (ts : List He.Tab) (tf : List He.Defn) (ex : Frag → Bool) (ini : List IniD) (g : Addr → Option Obj) : AlS := ((He.obsT fa fn ts (frS g n), ex (frS g n) && He.tabsB g tf (frS g n)), ini.map fun d => iniW (frS g n) d.cls)
structure SaysS (fa : List He.Fa) (fn : List He.DefD) (ts : List He.Tab) (tf : List He.Defn) (ex : Frag → Bool) (ini : List IniD) (w : World) (h : Heap) (K : Frag) : Prop where
  x : He.SaysX fa fn ts tf ex w h K
  i : (ini.map fun d => iniW K d.cls) = ini.map IniD.val
theorem says_at {fa : List He.Fa} {fn : List He.DefD} {ts : List He.Tab} {tf : List He.Defn} {ex : Frag → Bool} {w : World} {h : Heap} {as : List Addr} (e1 : He.obsT fa fn ts (He.frT h.get? as) = He.valT fn ts w) (e2 : (ex (He.frT h.get? as) && He.tabsB h.get? tf (He.frT h.get? as)) = true) : He.SaysX fa fn ts tf ex w h (He.frT h.get? as) := by
  obtain ⟨more, tabs⟩ := Bool.and_eq_true_iff.mp e2
  have each : ∀ p ∈ tf, codeHdIn (He.frT h.get? as) (He.cT (He.frT h.get? as) p).1 (He.cT (He.frT h.get? as) p).2 = true ∧ ∃ o, h.get? (He.cT (He.frT h.get? as) p).2 = some o ∧ He.emptyTab o = true := by
    intro p hp
    obtain ⟨c1, c2⟩ := Bool.and_eq_true_iff.mp (List.all_eq_true.mp tabs p hp)
    refine ⟨c1, ?_⟩
    cases q : h.get? (He.cT (He.frT h.get? as) p).2 with
    | none => rw [q] at c2; cases c2
    | some o => rw [q] at c2; exact ⟨o, rfl, c2⟩
  refine ⟨e1, more, fun p hp => (each p hp).1, fun p hp => ?_, fun p hp => ?_⟩
  · obtain ⟨_, o, q, z⟩ := each p hp
    exact He.frT_none q z
  · obtain ⟨_, o, q, z⟩ := each p hp
    rw [q, He.emptyTab_eq z]
def hookS (n : Nat) (fa : List He.Fa) (fn : List He.DefD) (ts : List He.Tab) (tf : List He.Defn) (ex : Frag → Bool) (ini : List IniD) : PySem.W.Hook where
  α := AlS
  obs := fun s => obsS n fa fn ts tf ex ini s.heap.get?
  val := fun w => (He.valX fn ts w, ini.map IniD.val)
  says := fun w h => ∃ K : Frag, K.In h ∧ SaysS fa fn ts tf ex ini w h K
  of := fun w s e => ⟨frS s.heap.get? n, He.frT_in, says_at (congrArg (fun z : AlS => z.1.1) e) (congrArg (fun z : AlS => z.1.2) e), congrArg (fun z : AlS => z.2) e⟩
  keeps := fun w h h' ⟨K, hK, c⟩ k => ⟨K, PySem.W.Frag.In.keeps hK k, ⟨c.x.t, c.x.more, c.x.hd, c.x.out, fun p hp => k _ _ (c.x.empty p hp)⟩, c.i⟩
theorem obsS_eq {n : Nat} {fa : List He.Fa} {fn : List He.DefD} {ts : List He.Tab} {tf : List He.Defn} {ex : Frag → Bool} {ini : List IniD} {g : Addr → Option Obj} {s : Shared} (h : ∀ a, g a = s.heap.get? a) : obsS n fa fn ts tf ex ini g = (hookS n fa fn ts tf ex ini).obs s := by
  have e : g = s.heap.get? := funext h
  rw [e] <;> rfl
theorem ini_at {ini : List IniD} {K : Frag} (h : (ini.map fun d => iniW K d.cls) = ini.map IniD.val) (i : Nat) {d : IniD} (e : ini[i]? = some d) : iniW K d.cls = d.val := by
  have h1 : (ini.map fun d => iniW K d.cls)[i]? = (ini.map IniD.val)[i]? := by rw [h]
  rw [List.getElem?_map, List.getElem?_map, e] at h1
  exact Option.some.inj h1
/-- an own class over built-in ones: its object -/
def clsB (K : Frag) (C : Addr) (N newId : String) : Bool := match K.lookup C with
  | some ⟨.type "type", _, .cls cd, sl⟩ => (match cd.mro, sl.toList with
    | .ref C' :: bm, [_, _, _, _, some (.builtin n), _] => C' == C && (n == newId && (!cd.hasDel && (cd.hasDict && (bm.contains (.type N) && (!bm.contains (.type "AttributeError") && !bm.contains (.type "NameError"))))))
    | _, _ => false)
  | _ => false
theorem clsB_ok {K : Frag} {C : Addr} {N newId : String} (h : clsB K C N newId = true) : ∃ nm q Na bs bm sn sub ab col dd k0 k1 k2 k3 k5, K.lookup C = some (excClassObj nm q C Na bs bm true sn sub ab col dd k0 k1 k2 k3 k5 newId) ∧ Line N bm := by
  unfold clsB at h
  split at h
  · rename_i dd cd sl at_
    split at h
    · rename_i C' bm k0 k1 k2 k3 n k5 em es
      simp only [Bool.and_eq_true, beq_iff_eq, Bool.not_eq_true'] at h
      obtain ⟨e1, e2, e3, e4, e5, e6, e7⟩ := h
      subst e1 e2
      obtain ⟨nm, bs, mro, ns, qn, hd, sn, sub, ab, col, del⟩ := cd
      dsimp only at em e3 e4
      subst em e3 e4
      have hsl : sl = #[k0, k1, k2, k3, some (.builtin n), k5] := by
        obtain ⟨l⟩ := sl
        simp only at es
        rw [es]
      subst hsl
      exact ⟨nm, qn, ns, bs, bm, sn, sub, ab, col, dd, k0, k1, k2, k3, k5, at_, e5, e6, e7⟩
    · cases h
  · cases h
def cellB (K : Frag) (fI C : Addr) (qual file : Str) : Bool := match K.lookup fI with
  | some ⟨_, _, .func fd, _⟩ => (match fd.closure, fd.defaults, fd.kwdefaults, fd.annotations, fd.code with
    | [(_, cc)], .none, .none, none, .ref c => (match K.lookup cc with
      | some ⟨_, _, .cell (some (.ref C')), _⟩ => C' == C && (codeIn K (.ref c) qual && (match K.lookup c with
        | some ⟨_, _, .fields vs, _⟩ => (match (vs[2]? : Option Value) with
          | some (Value.str fl _) => file == fl
          | _ => false)
        | _ => false))
      | _ => false)
    | _, _, _, _, _ => false)
  | _ => false
def supB (K : Frag) (file : Str) (x : Str) (B initId N newId : String) (bmB : List Value) (f qual : Str) : Bool :=
  clsB K (He.ga K x) N newId && (excOver K (He.ga K x) bmB && (findIn K (.ref (He.ga K x)) "__setattr__" == some (some (.builtin "object.__setattr__")) && (takerIn K (He.ga K x) f == some none && (subIn K (.ref (He.ga K x)) (.type "BaseException") == some true &&
    (typeIn K (.ref (He.ga K x)) == some (.type "type") && (keepIn K (.ref (He.ga K x)) && (subIn K (.ref (He.ga K x)) (.type B) == some true && (mroIn K (He.ga K x) (.ref (He.ga K x)) == some true && (ks_superIn K (He.ga K x) (He.ga K x) "__init__" == some (some (.builtin initId)) &&
      (nsIn K cStatics "thirdparty.any" == some none && (findIn K (.ref (He.ga K x)) "__init__" == some (some (.ref (iniA K x))) && (typeIn K (.ref (iniA K x)) == some (.type "function") && cellB K (iniA K x) (He.ga K x) qual file))))))))))))
theorem cellB_ok {K : Frag} {prog : Program} {x : Str} {d : IniD} (hd : d.cls = x) (h : cellB K (iniA K x) (He.ga K x) d.qual prog.main.file = true) (hw : iniW K x = d.val) : ∃ fd, (∃ (cc c : Addr) (oc doc pm ct cl ccl : Value) (od cld cdd : Option Addr) (osl csl ccs : Array (Option Value)) (vs : Array Value) (file : Str) (tf : Tok), fd = ksFn "__init__" d.qual d.params d.body d.scope .none .none doc pm none (.ref c) ct cc ∧ K.lookup (iniA K x) = some ⟨oc, od, .func fd, osl⟩ ∧ codeIn K (.ref c) d.qual = true ∧
    K.lookup cc = some ⟨cl, cld, .cell (some (.ref (He.ga K x))), csl⟩ ∧ K.lookup c = some ⟨ccl, cdd, .fields vs, ccs⟩ ∧ vs[2]? = some (.str file tf) ∧ ((prog.main.file : Str) == file) = true) := by
  unfold cellB at h
  unfold iniW at hw
  split at h
  · rename_i oc od fd osl at1
    rw [at1] at hw
    obtain ⟨n1, n2, n3, n4, n5, n6, n7, n8, n9, n10, n11, n12, n13, n14, n15⟩ := fd
    have hw : (some (n1, n2, n3, n4, n5, n6, n7.map (·.1), n15) : IniW) = d.val := hw
    unfold IniD.val at hw
    simp only [Option.some.injEq, Prod.mk.injEq] at hw
    obtain ⟨h1, h2, h3, h4, h5, h6, h7, h8⟩ := hw
    subst h1 h2 h3 h4 h5 h6 h8
    simp only at h
    split at h
    · rename_i nm cc c
      simp only [List.map_cons, List.map_nil, List.cons.injEq, and_true] at h7
      subst h7
      split at h
      · rename_i cl cld C' csl at2
        simp only [Bool.and_eq_true, beq_iff_eq] at h
        obtain ⟨h7, h8, h9⟩ := h
        subst h7
        split at h9
        · rename_i ccl cdd vs ccs at3
          split at h9
          · rename_i fl tf at4
            exact ⟨_, cc, c, oc, _, _, _, cl, ccl, od, cld, cdd, osl, csl, ccs, vs, fl, tf, rfl, at1, h8, at2, at3, at4, h9⟩
          · cases h9
        · cases h9
      · cases h
    · cases h
  · cases h
theorem supC_of {K : Frag} {mg : Str → Option Value} {prog : Program} {x : Str} {B initId N newId : String} {bmB : List Value} {f : Str} {d : IniD} (hd : d.cls = x) (h : supB K prog.main.file x B initId N newId bmB f d.qual = true) (hw : iniW K x = d.val)
    (ini : IniF B initId bmB) (new : ∃ initN bmN, ExcBaseFacts N newId initN bmN) (noS : mg "super" = none) (top : (prog.main.scope.names.lookup ("super" : Str)).isSome = false) : ∃ fd, SupC K mg prog (He.ga K x) B initId N newId bmB f d.qual d.params d.body d.scope (iniA K x) fd := by
  unfold supB at h
  simp only [Bool.and_eq_true, beq_iff_eq] at h
  obtain ⟨e1, e2, e3, e4, e5, e6, e7, e8, e9, e10, e11, e12, e13, e14⟩ := h
  obtain ⟨fd, fn⟩ := cellB_ok hd e14 hw
  exact ⟨fd, ini, new, clsB_ok e1, e2, e3, e4, e5, e6, e7, e8, e9, e10, e11, e12, e13, noS, fn, top⟩
theorem sup_binds {K : Frag} {mg : Str → Option Value} {prog : Program} {C fI : Addr} {B initId N newId : String} {bmB : List Value} {f qual : Str} {params : Arguments} {body : List Stmt} {scope : Scope} {fd : FuncData} (S : SupC K mg prog C B initId N newId bmB f qual params body scope fI fd)
    (h : ∀ (doc pm ct cdv : Value) (cc : Addr) (us : List Value), us.length = 2 → bindArgs (ksFn "__init__" qual params body scope .none .none doc pm none cdv ct cc) ⟨us, []⟩ = pure ((["self", f] : List Str).zip us)) : L2.Binds K fd ["self", f] [] := by
  obtain ⟨cc, c, oc, doc, pm, ct, cl, ccl, od, cld, cdd, osl, csl, ccs, vals, file, tf, rfl, _⟩ := S.fn
  exact .all fun us hl => h doc pm ct (.ref c) cc us hl
/-! what may be told -/
open L2
def textOk (d : PyData) : Bool := showY d && (decide (d.shown.length ≤ 16777000) && decide ((fmtY d).length ≤ 16777000))
theorem textOk.at {d : PyData} (h : textOk d = true) : showY d = true ∧ d.shown.length ≤ 16777000 ∧ (fmtY d).length ≤ 16777000 := by
  unfold textOk at h
  simp only [Bool.and_eq_true, decide_eq_true_eq] at h
  exact ⟨h.1, h.2.1, h.2.2⟩
def Tx (K : Frag) (v : V) (H : Hp) : Prop := ∃ d, Sh K H v d ∧ textOk d = true
theorem Tx.stays {K : Frag} {v : V} {H : Hp} {a : Addr} {o : HO} (t : Tx K v H) (h : H a = none) : Tx K v (upd H a o) := by
  obtain ⟨d, h1, h2⟩ := t
  exact ⟨d, h1.now (W := NoW) (.new h) fun _ z => z, h2⟩
section
variable {X : Cx} {f c : Str} {j : Nat} {p1 p2 p3 p4 : Pos}
theorem len_join {a b : Str} {n m : Nat} (h1 : a.length ≤ n) (h2 : b.length ≤ m) (h : n + m ≤ sizeLine) : (a ++ b).length ≤ sizeLine := by
  rw [PySem.Str.length_append]; omega
abbrev lookAt (f : Str) (C : V) (v : V) (w1 : List (Option V)) : L2.St := NdefX.startF ["self", f, "__class__"] [C, v] w1
theorem text_rear (gd : X.A.guards = some []) (hu : X.A.units + 200 < cLine) (q : X.base.NoSeer) (hc : c.length ≤ 64) (hN : X.N[1]? = some f) (hv : Vis X.env.scope f) (nx : (f == ("__debug__" : Str)) = false) (nc : (f == ("__classdict__" : Str)) = false) :
    ∃ tJ, PE X (.JoinedStr [.FormattedValue (.Name f p1) 114 none p2, .Constant (.str c) j p3] p4) tJ ∧ ∀ (a : Addr) (v : V) (H : Hp) (w1 : List (Option V)) (Q : VK), Tx X.K v H → (∀ t, Q (.str t) H) → tJ (lookAt f (.ref a) v w1) H Q := by
  refine ⟨_, pe_joined (.cons (pe_shR gd hu q (pe_var (i := 1) hN hv nx nc)) (.cons pe_str .nil)), fun a v H w1 Q ht hq => ?_⟩
  obtain ⟨d, h1, h2⟩ := ht
  obtain ⟨h3, hz2, h4⟩ := textOk.at h2
  refine ⟨v, rfl, d, h1, h3, _, rfl, ?_, _, rfl, ?_, hq _⟩
  · exact len_join (n := 0) (m := 16777000) (Nat.le_refl _) hz2 (by decide)
  · refine len_join (n := 16777000) (m := 64) ?_ hc (by decide)
    rw [PySem.Str.length_append]
    show 0 + d.shown.length ≤ _
    omega
theorem text_fore (gd : X.A.guards = some []) (hu : X.A.units + 200 < cLine) (q : X.base.NoSeer) (hc : c.length ≤ 64) (hN : X.N[1]? = some f) (hv : Vis X.env.scope f) (nx : (f == ("__debug__" : Str)) = false) (nc : (f == ("__classdict__" : Str)) = false) :
    ∃ tJ, PE X (.JoinedStr [.Constant (.str c) j p3, .FormattedValue (.Name f p1) 114 none p2] p4) tJ ∧ ∀ (a : Addr) (v : V) (H : Hp) (w1 : List (Option V)) (Q : VK), Tx X.K v H → (∀ t, Q (.str t) H) → tJ (lookAt f (.ref a) v w1) H Q := by
  refine ⟨_, pe_joined (.cons pe_str (.cons (pe_shR gd hu q (pe_var (i := 1) hN hv nx nc)) .nil)), fun a v H w1 Q ht hq => ?_⟩
  obtain ⟨d, h1, h2⟩ := ht
  obtain ⟨h3, hz2, h4⟩ := textOk.at h2
  have e0 : (Str.empty ++ c).length ≤ 64 := by
    rw [PySem.Str.length_append]
    show 0 + c.length ≤ _
    omega
  exact ⟨_, rfl, Nat.le_trans e0 (by decide), v, rfl, d, h1, h3, _, rfl, len_join e0 hz2 (by decide), hq _⟩
theorem text_foreF (gd : X.A.guards = some []) (hu : X.A.units + 200 < cLine) (q : X.base.NoSeer) (hc : c.length ≤ 64) (hN : X.N[1]? = some f) (hv : Vis X.env.scope f) (nx : (f == ("__debug__" : Str)) = false) (nc : (f == ("__classdict__" : Str)) = false) :
    ∃ tJ, PE X (.JoinedStr [.Constant (.str c) j p3, .FormattedValue (.Name f p1) (-1) none p2] p4) tJ ∧ ∀ (a : Addr) (v : V) (H : Hp) (w1 : List (Option V)) (Q : VK), Tx X.K v H → (∀ t, Q (.str t) H) → tJ (lookAt f (.ref a) v w1) H Q := by
  refine ⟨_, pe_joined (.cons pe_str (.cons (pe_shF gd hu q (pe_var (i := 1) hN hv nx nc)) .nil)), fun a v H w1 Q ht hq => ?_⟩
  obtain ⟨d, h1, h2⟩ := ht
  obtain ⟨h3, hz2, h4⟩ := textOk.at h2
  have e0 : (Str.empty ++ c).length ≤ 64 := by
    rw [PySem.Str.length_append]
    show 0 + c.length ≤ _
    omega
  exact ⟨_, rfl, Nat.le_trans e0 (by decide), v, rfl, d, h1, h3, ⟨_, rfl, len_join e0 h4 (by decide), hq _⟩, Nat.le_trans h4 (by decide)⟩
end
end Mir

set_option maxHeartbeats 2000000
namespace Mir
open PySem PySem.Spec PyProof.Rows L2
open LamX (CodeO TabB inv_table codeO_ne LamS lamEnv lamCx lam_start2)
/-! a lambda without parameters is made -/
section
variable {X : Cx} {pins : List (Addr × Obj)} {σ : L2.St} {H : Hp} {s : Shared} {T : List Addr}
theorem tab_more {P c : Addr} {ps : Array Value} {pos : Pos} (at_ : H P = some (.tbl ps)) (trip : TriplesOk ps.toList) (nC : H c = none) : Kp NoW H (upd (upd H P (.tbl (ps ++ #[rawInt pos.line, rawInt pos.col, .ref c]))) c (CodeO c (nmG pos.line pos.col))) := by
  have nPc : P ≠ c := ne_of_none at_ nC
  have same : ∀ b o, H b = some o → (∀ ps, o ≠ .tbl ps) → upd (upd H P (.tbl (ps ++ #[rawInt pos.line, rawInt pos.col, .ref c]))) c (CodeO c (nmG pos.line pos.col)) b = some o := fun b o e n => by
    rw [upd_ne (ne_of_none e nC), upd_ne (fun z => n ps (Option.some.inj (e.symm.trans (by rw [z]; exact at_))))]
    exact e
  have eL : (ps ++ #[rawInt pos.line, rawInt pos.col, .ref c]).toList = ps.toList ++ [rawInt pos.line, rawInt pos.col, .ref c] := by simp
  refine ⟨fun a o e nt _ => same a o e fun ps z => by rw [z] at nt; exact nt.elim, fun a e => NdefX.upd_none (NdefX.upd_none e), ?_⟩
  rintro P' nm rfl ⟨qs, a1, a2, a3⟩
  by_cases hb : P' = P
  · subst hb
    rw [at_] at a1
    cases a1
    refine ⟨_, by rw [upd_ne nPc, upd_same], by rw [eL]; exact PySem.TriplesOk_snoc _ _ _ _ trip, fun p' cv hcv => ?_⟩
    rw [eL] at hcv
    rcases NdefX.among_app2 _ trip hcv with z | ⟨z, z1, z2⟩
    · obtain ⟨c0, e1, e2⟩ := a3 p' cv z
      exact ⟨c0, e1, same _ _ e2 codeO_ne⟩
    · exact ⟨c, z, by rw [← z1, ← z2]; exact upd_same⟩
  · refine ⟨qs, by rw [upd_ne (ne_of_none a1 nC), upd_ne hb]; exact a1, a2, fun p' cv hcv => ?_⟩
    obtain ⟨c0, e1, e2⟩ := a3 p' cv hcv
    exact ⟨c0, e1, same _ _ e2 codeO_ne⟩
/-- the new function: its object at f -/
abbrev lamObj (X : Cx) (params : Arguments) (body : Expr) (scope : Scope) (pm : Value) (c' : Addr) (ctv : Value) : Obj := PySem.W.kla_obj "<lambda>" (X.env.qual ++ "<lambda>") params body scope (cloFrom X.env.cells scope.names []) pm c' ctv
theorem lam_laid {c P : Addr} {params : Arguments} {body : Expr} {scope : Scope} {pos : Pos} {E : Value → Shared → Prop} {Q : Value → Shared → Prop} (I : Inv X pins σ H s) (TB : TabB X.base X.mg c P) (hcode : X.env.code = .ref c)
    (hm : P ∈ T) (hn : nmG pos.line pos.col = X.env.qual ++ "<lambda>") (hT : TbsG T H) (hdef : defaultsOf params X.env = ([], [])) (hfree : ∀ y ∈ scope.names, y.2 = .free → ∃ c, X.env.cells.lookup y.1 = some c)
    (h : ∀ (f c' : Addr) (pm ctv : Value) (H1 : Hp) (s' : Shared), Inv X pins σ H1 s' → Kp NoW H H1 → s'.heap.get? f = some (lamObj X params body scope pm c' ctv) → H1 f = none → f ∉ frs X.stack → H1 c' = some (CodeO c' (X.env.qual ++ "<lambda>")) → Q (.ref f) s') :
    wpAny (model X.prog X.w) X.A (eval (.Lambda params body scope pos) X.env) Q E s := by
  obtain ⟨ps, at_, trip, told⟩ := hT _ hm
  apply PySem.W.kla_eval hdef
  have bP : s.heap.BuiltinsAt X.mg P := TB.bm.keeps I.bk
  have there : s.heap.get? P = some { cls := .none, data := .fields ps } := I.hok P _ at_
  have nofr : ∀ f, s.heap.objs.size ≤ f → f ∉ frs X.stack := fun f hf z => (List.mem_cons.mp (I.stkSub _ z)).elim (fun e => by
    have := I.lt
    rw [← e] at this
    exact absurd (Nat.lt_of_lt_of_le this hf) (Nat.lt_irrefl _)) (I.nofs hf)
  cases hc : codeAmong pos ps.toList with
  | some cv =>
    obtain ⟨c', e, code⟩ := told pos cv hc
    subst e
    rw [hn] at code
    apply PySem.W.kla_makeFunctionHit (mg := X.mg) (c := c) (P := P) (ps := ps) (closure_ok hfree) I.ok.glob (I.mod.glob.keeps I.bk) hcode (TB.code.keeps I.bk) there trip hc bP
    intro ctv h' tk keeps size
    have I1 : Inv X pins σ H { s with heap := h'.push (lamObj X params body scope ((X.mg "__name__").getD .none) c' ctv), toks := tk } := I.kept fun b o e => Heap.get?_push_of_some _ (keeps b o e)
    exact h h'.objs.size c' _ ctv H _ I1 .refl (Heap.get?_push_size _ rfl) (I.hok.fresh size) (nofr _ size) code
  | none =>
    apply PySem.W.kla_makeFunction (mg := X.mg) (c := c) (P := P) (ps := ps) (closure_ok hfree) I.ok.glob (I.mod.glob.keeps I.bk) hcode (TB.code.keeps I.bk) there trip hc TB.gP bP
    intro c' ctv h' tk keeps ge lt rec_ tab
    obtain ⟨c2, oc, vs, t, e2, hoc, hd, hv⟩ := rec_
    cases e2
    have nC : H c' = none := I.hok.fresh ge
    have size : s.heap.objs.size ≤ h'.objs.size := Nat.le_trans ge (Nat.le_of_lt lt)
    have n1 : h'.objs.size ≠ c' := Nat.ne_of_gt lt
    have n2 : h'.objs.size ≠ P := Nat.ne_of_gt (Nat.lt_of_lt_of_le (Heap.lt_size there) size)
    have I1 := inv_table (t' := tk) (more := #[rawInt pos.line, rawInt pos.col, .ref c']) (h' := h'.push (lamObj X params body scope ((X.mg "__name__").getD .none) c' ctv)) I at_
      (fun b o hb e => Heap.get?_push_of_some _ (keeps b o hb e)) (Heap.get?_push_of_some _ tab) ge ⟨oc, vs, t, Heap.get?_push_of_some _ hoc, hd, hv⟩
    have kp := tab_more (pos := pos) at_ trip nC
    rw [hn] at kp
    exact h h'.objs.size c' _ ctv _ _ I1 kp (Heap.get?_push_size _ rfl) (by rw [upd_ne n1, upd_ne n2]; exact I.hok.fresh size) (nofr _ size) upd_same
end
/-! the call of what was handed over -/
section
variable {X : Cx} {pins : List (Addr × Obj)} {σ : L2.St} {H : Hp} {s : Shared}
theorem act {qg : Str} {sg : Scope} {Ng : List Str} {Eg : XK} {g f c' : Addr} {cdg pm ctv : Value} {params : Arguments} {body : Expr} {scope : Scope} {k i : Nat} {a : Str} {pn : List (Addr × Obj)} {xe : Value → Shared → Prop} {W : WX} {tb : XK → TE} {p1 p2 : Pos}
    (I : Inv X pins σ H s) (L : LamS X.env.scope scope) (at_ : s.heap.get? f = some (lamObj X params body scope pm c' ctv)) (free : H f = none) (nofr : f ∉ frs X.stack)
    (noArgs : bindArgs (PySem.W.kla_fn "<lambda>" (X.env.qual ++ "<lambda>") params body scope (cloFrom X.env.cells scope.names []) pm (.ref c') ctv) ⟨[], []⟩ = pure [])
    (tk : Takes ((dcx X.prog X.w X.K X.mg X.base Ng qg sg g cdg X.A X.stack s H Eg).tr pn xe) W) (gd : Gd (k + 1) X.prog X.base (X.A.deeper (envOfC qg sg s.heap.objs.size g cdg))) (room : Room (k + 1) (X.A.deeper (envOfC qg sg s.heap.objs.size g cdg)))
    (read : ∀ (A : Around) (outer : List Env) (s : Shared) (H : Hp) (E : XK), Gd k X.prog X.base (A.deeper (lamEnv X scope s.heap.objs.size f c')) → Room k (A.deeper (lamEnv X scope s.heap.objs.size f c')) → PE (lamCx X A outer s H E scope f c') body (tb E))
    (slot : Ng[i]? = some a) (vis : Vis sg a) (nx : (a == ("__debug__" : Str)) = false) (nc : (a == ("__classdict__" : Str)) = false) :
    PE ((dcx X.prog X.w X.K X.mg X.base Ng qg sg g cdg X.A X.stack s H Eg).tr pn xe) (.Call (.Name a p1) [] [] p2)
      (fun τ HZ Q => τ[i]? = some (some (.ref f)) ∧ HZ c' = some (CodeO c' (X.env.qual ++ "<lambda>")) ∧ tb (WE W τ) σ HZ Q) := by
  constructor
  intro pinsZ sZ τ HZ Q IZ want
  obtain ⟨here, code, body_⟩ := want
  refine wpAny_Call_Name_kw (thn ((pe_var (pos := p1) (i := i) slot vis nx nc).run pinsZ sZ τ HZ (fun v H1 => v = .ref f ∧ H1 = HZ) IZ ⟨_, here, rfl, rfl⟩) fun u s1 got => ?_)
  obtain ⟨v, H1, I1, rv, rfl, rfl⟩ := got
  obtain rfl : u = Value.ref f := rv
  have at1 := I1.base.keep f _ at_ free nofr (fun z => nomatch (show f ∈ ([] : List Addr) from z))
  apply PySem.W.callWith_F0 ⟨_, _, _, _, at1⟩
  have un : Un (frs X.stack) [] H H1 s.heap s1.heap := I1.base
  obtain ⟨⟨oc, vs, t, e1, e2, e3⟩, _, _⟩ := I1.hok c' _ code
  have ran : codeAny (model X.prog X.w) (X.A.deeper (envOfC qg sg s.heap.objs.size g cdg)) (.call (.ref f) ⟨[], []⟩) (CR (L2.CX X.prog X.w) (envOfC qg sg s.heap.objs.size g cdg :: X.stack) X.prog X.w H1 s1 Q (WE W τ)) s1 := by
    apply PySem.W.kla_callFunE room.depth at1 rfl L.co L.gen rfl ⟨c', oc, vs, t, rfl, e1, e2, e3⟩
    rw [noArgs]
    apply wpAny_pure
    apply wpAny_newFunctionEnv (fun y hy => (L.own y hy).2) (fun y hy => absurd hy (by simp)) _ L.kind
    intro h₁ hns fresh
    refine ⟨I1.nolimit.fresh _ fresh, ?_⟩
    have kp : ∀ b o, s1.heap.get? b = some o → h₁.get? b = some o := fun b o e => fresh.extBut b o (Nat.ne_of_lt (Heap.lt_size e)) (Heap.get?_push_of_some _ e)
    have J : Inv (lamCx X (X.A.deeper (envOfC qg sg s.heap.objs.size g cdg)) (envOfC qg sg s.heap.objs.size g cdg :: X.stack) s1 H1 (WE W τ) scope f c') [] σ H1 { s1 with heap := h₁, toks := s1.toks + ([] : List (Str × Value)).length } :=
      lam_start2 I L I1.env0 room.hd un hns kp
    apply PySem.W.kla_codeExpr
    refine wpAny_mono ((read _ _ s1 H1 (WE W τ) (gd.deeper _) (room.deeper _)).run [] _ _ H1 Q J body_) (fun v s' got => ?_) fun e s' z => z
    obtain ⟨w', H', J', rv, q⟩ := got
    exact ⟨w', H', J'.os, J'.bare, J'.base, J'.hok, rv, q⟩
  refine wpAny_call (codeAny_mono ran fun r s' out => ?_)
  match r, out with
  | .error e, out => exact passAt tk τ pinsZ H1 s1 e s' I1 out
  | .ok (.ret u), out => exact I1.after out
  | .ok .next, out => exact False.elim out
  | .ok .brk, out => exact False.elim out
  | .ok .cont, out => exact False.elim out
end
/-! defs that tell how a call ended -/
structure Hd where
  cls : Str
  pre : Str
  f : Option Str
def subL : List (Str × Str × Bool) → Str → Str → Option Bool
  | [], _, _ => none
  | (x, y, v) :: r, a, b => if x = a ∧ y = b then some v else subL r a b
def subOk (K : PySem.W.Frag) (t : List (Str × Str × Bool)) : Bool := t.all fun q => PySem.W.exmOne K (.ref (He.ga K q.1)) (.ref (He.ga K q.2.1)) == some q.2.2
theorem subL_ok {K : PySem.W.Frag} {t : List (Str × Str × Bool)} (h : subOk K t = true) {a b : Str} {v : Bool} (e : subL t a b = some v) : PySem.W.exmOne K (.ref (He.ga K a)) (.ref (He.ga K b)) = some v := by
  induction t with
  | nil => cases e
  | cons q r ih =>
    obtain ⟨x, y, u⟩ := q
    obtain ⟨h1, h2⟩ := Bool.and_eq_true_iff.mp (show (PySem.W.exmOne K (.ref (He.ga K x)) (.ref (He.ga K y)) == some u && subOk K r) = true from h)
    unfold subL at e
    split at e
    · rename_i c
      cases e
      obtain ⟨rfl, rfl⟩ := c
      exact beq_iff_eq.mp h1
    · exact ih h2 e
inductive Fx where
  | ok (d : D) | ex (x : Xn) | bad
def wordX (t : List (Str × Str × Bool)) : List Hd → Xn → Option Str
  | [], _ => none
  | h :: r, x => match subL t x.cls h.cls with
    | some true => match h.f with
      | none => some h.pre
      | some f => match x.fs with
        | some [(f', d)] => if f' = f ∧ x.cls = h.cls then match d.pyd with
          | some p => if showY p && decide (h.pre.length + p.shown.length ≤ 16777216) then some (h.pre ++ p.shown) else none
          | none => none
          else none
        | _ => none
    | some false => wordX t r x
    | none => none
def wordF (t : List (Str × Str × Bool)) (l : List Hd) (fin : Str) : Fx → Option Str
  | .ok _ => some fin
  | .ex x => wordX t l x
  | .bad => none
inductive HdOk (X : Cx) : List ExceptHandler → List Hd → Prop
  | nil : HdOk X [] []
  | plain {x u : Str} {j : Nat} {p1 p2 p3 p4 : Pos} {hs : List ExceptHandler} {l : List Hd} (g : Gl X x) (nd : (x == ("__debug__" : Str)) = false) (m : X.mg x = some (.ref (He.ga X.K x))) (r : HdOk X hs l) :
      HdOk X (.ExceptHandler (some (.Name x p1)) none [.Return (some (.Constant (.str u) j p3)) p4] p2 :: hs) (⟨x, u, none⟩ :: l)
  | shown {x u n f : Str} {i j : Nat} {p1 p2 p3 p4 p5 p6 p7 p8 p9 : Pos} {hs : List ExceptHandler} {l : List Hd} (g : Gl X x) (nd : (x == ("__debug__" : Str)) = false) (m : X.mg x = some (.ref (He.ga X.K x)))
      (hi : X.N[i]? = some n) (hn : X.env.kindOf n = some .local) (vis : Vis X.env.scope n) (nn : (n == ("__debug__" : Str)) = false) (nc : (n == ("__classdict__" : Str)) = false) (len : i < X.N.length) (xf : XfC X.K (He.ga X.K x)) (no : PySem.W.findIn X.K (.ref (He.ga X.K x)) f = some none) (hb : attributeBase (.Name n p6) f X.env (eval (.Name n p6) X.env) = eval (.Name n p6) X.env)
      (gr : Gl X "repr") (mr : X.mg "repr" = none) (r : HdOk X hs l) :
      HdOk X (.ExceptHandler (some (.Name x p1)) (some n) [.Return (some (.BinOp (.Constant (.str u) j p3) .Add (.Call (.Name "repr" p5) [.Attribute (.Name n p6) f p7] [] p8) p9)) p4] p2 :: hs) (⟨x, u, some f⟩ :: l)
section
variable {X : Cx}
/-- 'u' + repr(n.f) -/
def tTold (K : PySem.W.Frag) (C a : Addr) (cls : Value) (d : Option Addr) (u f : Str) (i : Nat) : TE := fun σ H Q => σ[i]? = some (some (.ref a)) ∧ cls = .ref C ∧ ∃ dd fs v p, d = some dd ∧ H dd = some (.xd fs) ∧ fs.lookup f = some v ∧ Sh K H v p ∧ showY p = true ∧ u.length + p.shown.length ≤ sizeLine ∧ Q (.str (u ++ p.shown)) H
theorem pe_told {x u n f : Str} {i j : Nat} {p3 p5 p6 p7 p8 p9 : Pos} {a : Addr} {oe : Obj} {cls : Value} {d : Option Addr} {pn : List (Addr × Obj)} (gd : X.A.guards = some []) (hu : X.A.units + 200 < cLine) (q : X.base.NoSeer) (hz : Zc cls d oe) (hf : ∃ vs, oe.data = .fields vs)
    (hi : X.N[i]? = some n) (vis : Vis X.env.scope n) (nn : (n == ("__debug__" : Str)) = false) (nc : (n == ("__classdict__" : Str)) = false) (xf : XfC X.K (He.ga X.K x)) (no : PySem.W.findIn X.K (.ref (He.ga X.K x)) f = some none) (hb : attributeBase (.Name n p6) f X.env (eval (.Name n p6) X.env) = eval (.Name n p6) X.env)
    (gr : Gl X "repr") (mr : X.mg "repr" = none) : PE (X.suite a ((a, oe) :: pn)) (.BinOp (.Constant (.str u) j p3) .Add (.Call (.Name "repr" p5) [.Attribute (.Name n p6) f p7] [] p8) p9) (tTold X.K (He.ga X.K x) a cls d u f i) := by
  have field := pe_xf (pos := p7) (pn := pn) xf no hz hf (pe_var (X := X.suite a ((a, oe) :: pn)) (pos := p6) hi vis nn nc) hb
  have shown := pe_callB (X := X.suite a ((a, oe) :: pn)) (pos := p8) (p := p5) (call_reprY (X := X.suite a ((a, oe) :: pn)) gd hu q) gr mr (by decide +kernel) (pa_cons field pa_nil (by rfl))
  refine (pe_op (X := X.suite a ((a, oe) :: pn)) op_add_str pe_str shown).imp fun σ H Q want => ?_
  obtain ⟨h1, h2, dd, fs, v, p, h3, h4, h5, h6, h7, h8, h9⟩ := want
  exact ⟨_, h1, rfl, h2, dd, fs, v, h3, h4, h5, v, p, rfl, h6, h7, _, _, rfl, rfl, h8, h9⟩
theorem hd_cl (gd : X.A.guards = some []) (hu : X.A.units + 200 < cLine) (q : X.base.NoSeer) {hs : List ExceptHandler} {l : List Hd} (h : HdOk X hs l) :
    ∃ cl : List Cl, ClOk X hs cl ∧ ∀ (t : List (Str × Str × Bool)) (Wout : WX) (D : Ends) (x : Xn) (c : Value) (dx : Option Addr) (ms : Addr → Prop) (σ : L2.St) (H : Hp) (y : Str), subOk X.K t = true → σ.length = X.N.length → XRep X.K ms H x c dx → wordX t l x = some y → D.rt (.str y) H → wCl X.K Wout D cl c dx σ H := by
  induction h with
  | nil => exact ⟨[], .nil, fun t Wout D x c dx ms σ H y _ _ _ e _ => by cases e⟩
  | @plain x u j p1 p2 p3 p4 hs l g nd m r ih =>
    obtain ⟨cl, h1, h2⟩ := ih
    refine ⟨⟨none, .ref (He.ga X.K x), fun _ _ _ D _ H => D.rt (.str u) H⟩ :: cl, .plain ⟨g, nd, .inl m⟩ (fun a oe cls d pn _ _ => (pss_one (ps_ret pe_str)).imp fun D σ H z => z) h1, ?_⟩
    intro t Wout D x' c dx ms σ H y ht hσ xr e done
    unfold wordX at e
    cases es : subL t x'.cls x with
    | none => simp only [es] at e; cases e
    | some b =>
      simp only [es] at e
      refine ⟨b, by rw [xr.1]; exact subL_ok ht es, fun hb a ha => ?_, fun hb => ?_⟩
      · subst hb
        cases e
        exact done
      · subst hb
        exact h2 t Wout D x' c dx ms σ H y ht hσ xr e done
  | @shown x u n f i j p1 p2 p3 p4 p5 p6 p7 p8 p9 hs l g nd m hi hn vis nn nc len xf no hb gr mr r ih =>
    obtain ⟨cl, h1, h2⟩ := ih
    refine ⟨⟨some i, .ref (He.ga X.K x), fun a cls d D σ H => tTold X.K (He.ga X.K x) a cls d u f i σ H D.rt⟩ :: cl, .named hi hn ⟨g, nd, .inl m⟩ (fun a oe cls d pn hz hf => (pss_one (ps_ret (pe_told gd hu q hz hf hi vis nn nc xf no hb gr mr))).imp fun D σ H z => z) h1, ?_⟩
    intro t Wout D x' c dx ms σ H y ht hσ xr e done
    unfold wordX at e
    cases es : subL t x'.cls x with
    | none => simp only [es] at e; cases e
    | some b =>
      simp only [es] at e
      refine ⟨b, by rw [xr.1]; exact subL_ok ht es, fun hb a ha => ?_, fun hb => ?_⟩
      · subst hb
        simp only at e
        split at e
        · rename_i f' d0 hfs
          split at e
          · rename_i cond
            obtain ⟨rfl, hc⟩ := cond
            cases ep : d0.pyd with
            | none => rw [ep] at e; cases e
            | some p =>
              rw [ep] at e
              simp only at e
              split at e
              · rename_i ok
                cases e
                obtain ⟨ok1, ok2⟩ := Bool.and_eq_true_iff.mp ok
                have ok3 : u.length + p.shown.length ≤ 16777216 := of_decide_eq_true ok2
                obtain ⟨xc, xr2⟩ := xr
                rw [hfs] at xr2
                obtain ⟨dd, vs, e1, n1, e2, e3, e4⟩ := xr2
                match vs, e3, e4 with
                | [(f2, v)], e3, .cons rp .nil =>
                  have : f2 = f' := by simpa using e3
                  subst this
                  refine ⟨?_, by rw [xc, hc], dd, _, v, p, e1, e2, ?_, rp.sh ep, ok1, Nat.le_trans ok3 (show 16777216 ≤ sizeLine by decide), done⟩
                  · show (σ.set i (some (.ref a)))[i]? = _
                    rw [List.getElem?_set_self (by rw [hσ]; exact len)]
                  · simp [List.lookup]
              · cases e
          · cases e
        · cases e
      · subst hb
        exact h2 t Wout D x' c dx ms σ H y ht hσ xr e done
end
end Mir

set_option maxHeartbeats 2000000
namespace Mir
open PySem PySem.Spec PyProof.Rows L2
open LamX (CodeO TabB LamS lamEnv lamCx)
/-! W(lambda: e), W telling how the call ended -/
def hideS : Sl → Sl
  | .va d => .va d
  | .ow m => match m.dat with
    | some d => .va d
    | none => .no
  | .pm m => match m.dat with
    | some d => .va d
    | none => .no
  | _ => .no
def hide (g : En) : En := g.map hideS
theorem gt_hide : ∀ (g : En) (i : Nat), gt (hide g) i = hideS (gt g i)
  | [], _ => rfl
  | _ :: _, 0 => rfl
  | _ :: r, i + 1 => gt_hide r i
theorem hideS_is (s : Sl) : hideS s = .no ∨ ∃ d, hideS s = .va d := by
  cases s with
  | ow m => cases e : m.dat with
    | none => exact .inl (by simp only [hideS, e])
    | some d => exact .inr ⟨d, by simp only [hideS, e]⟩
  | pm m => cases e : m.dat with
    | none => exact .inl (by simp only [hideS, e])
    | some d => exact .inr ⟨d, by simp only [hideS, e]⟩
  | va d => exact .inr ⟨d, rfl⟩
  | no => exact .inl rfl
  | gh m => exact .inl rfl
  | er m => exact .inl rfl
def toFx : Rs D → Fx
  | .ok d _ => .ok d
  | .ex x _ => .ex x
  | .bad => .bad
def lamM (mb : M D) (wf : Fx → Option Str) : M D := fun g => match wf (toFx (mb (hide g))) with
  | some y => .ok (.str y) g
  | none => .bad
abbrev paL (pa : Pa) : Pa := ⟨fun _ => none, pa.T, none⟩
section
variable {K : PySem.W.Frag} {pa : Pa} {ms os : Addr → Prop} {σ : L2.St} {H : Hp} {g : En}
theorem Rl.hide (r : Rl K pa ms os σ H g) : Rl K (paL pa) (mc ms os) NoW σ H (Mir.hide g) := by
  have only : ∀ i d, gt (Mir.hide g) i = .va d → ∃ v, σ[i]? = some (some v) ∧ Rep K (mc ms os) H v d := fun i d e => by
    rw [gt_hide] at e
    have own : ∀ m, (gt g i).mo = some m → m.dat = some d → ∃ v, σ[i]? = some (some v) ∧ Rep K (mc ms os) H v d := fun m e1 e2 => by
      obtain ⟨p, h1, h2, h3⟩ := r.mo i m e1
      exact ⟨_, h1, RepB.rep (.inr ⟨p, m, rfl, h2, e2, h3⟩) mc_ms fun _ z => z.2⟩
    cases e1 : gt g i with
    | va d' =>
      rw [e1] at e
      cases e
      obtain ⟨v, h1, h2⟩ := r.va i d e1
      exact ⟨v, h1, h2.anti mc_ms⟩
    | ow m =>
      rw [e1] at e
      cases e2 : m.dat with
      | none => simp only [hideS, e2] at e; cases e
      | some d' => simp only [hideS, e2] at e; cases e; exact own m (by rw [e1]; rfl) e2
    | pm m =>
      rw [e1] at e
      cases e2 : m.dat with
      | none => simp only [hideS, e2] at e; cases e
      | some d' => simp only [hideS, e2] at e; cases e; exact own m (by rw [e1]; rfl) e2
    | no => rw [e1] at e; cases e
    | gh m => rw [e1] at e; cases e
    | er m => rw [e1] at e; cases e
  have none_ : ∀ i, (gt (Mir.hide g) i).mo = none ∧ (∀ fs, gt (Mir.hide g) i ≠ .er fs) := fun i => by
    rw [gt_hide]
    rcases hideS_is (gt g i) with z | ⟨d, z⟩ <;> rw [z] <;> exact ⟨rfl, fun _ z => nomatch z⟩
  have nomo : ∀ {i m}, (gt (Mir.hide g) i).mo = some m → False := fun {i m} e => by rw [(none_ i).1] at e; cases e
  exact ⟨only, fun i m e => (nomo e).elim, fun i j m m' p e => (nomo e).elim, fun i m p e => (nomo (i := i) (m := m) (by rw [e]; rfl)).elim, fun i p e => (nomatch e), by unfold Mir.hide; rw [List.length_map]; exact r.len, fun a z => z.elim, fun a z => r.dom a z.1,
    fun i m j k m2 e => (nomo e).elim, r.tb, fun i fs e => ((none_ i).2 fs e).elim⟩
end
/-- the def x: try: a() except ..: return ..; return fin -/
structure WordS (P : Program) (w : World) (K : PySem.W.Frag) (mg : Str → Option Value) (base : Heap) (x : Str) (t : List (Str × Str × Bool)) (l : List Hd) (fin : Str) : Prop where
  ex : ∃ (g : Addr) (fd : FuncData) (pg : Arguments) (h0 : ExceptHandler) (hs : List ExceptHandler) (sg : Scope) (Ng : List Str) (a : Str) (j : Nat) (p1 p2 p3 p4 p5 p6 : Pos),
    FunD K x x pg [.Try [.Expr (.Call (.Name a p1) [] [] p2) p3] (h0 :: hs) [] [] p4, .Return (some (.Constant (.str fin) j p5)) p6] sg [] [] g fd ∧ mg x = some (.ref g) ∧ Binds K fd [a] [] ∧ FnScope Ng [a] sg ∧ Ng[0]? = some a ∧ Vis sg a ∧ (a == ("__debug__" : Str)) = false ∧ (a == ("__classdict__" : Str)) = false ∧
      (∀ (cdv : Value) (A : Around) (outer : List Env) (s : Shared) (H : Hp) (E : XK), HdOk (dcx P w K mg base Ng x sg g cdv A outer s H E) (h0 :: hs) l ∧ swapsWith (.Call (.Name a p1) [] [] p2) none p3.line (dcx P w K mg base Ng x sg g cdv A outer s H E).env = pure false)
  sub : subOk K t = true
theorem re_word {X : Cx} {pa : Pa} {W : WX} {k : Nat} {c P : Addr} {x fin : Str} {t : List (Str × Str × Bool)} {l : List Hd} {params : Arguments} {body : Expr} {scope : Scope} {lpos p pos : Pos} {mb : M D}
    (S : WordS X.prog X.w X.K X.mg X.base x t l fin) (gd : Gd (k + 2) X.prog X.base X.A) (hr : Room (k + 2) X.A) (TB : TabB X.base X.mg c P) (code : X.env.code = .ref c) (hm : P ∈ pa.T) (nm : nmG lpos.line lpos.col = X.env.qual ++ "<lambda>") (L : LamS X.env.scope scope) (noDfl : defaultsOf params X.env = ([], []))
    (noArgs : ∀ (q : Str) (cl : List (Str × Addr)) (pm cv ctv : Value), bindArgs (PySem.W.kla_fn "<lambda>" q params body scope cl pm cv ctv) ⟨[], []⟩ = pure [])
    (read : ∀ (A : Around) (outer : List Env) (s : Shared) (H : Hp) (E : XK) (f c' : Addr), Gd k X.prog X.base (lamCx X A outer s H E scope f c').A → Room k (lamCx X A outer s H E scope f c').A → RE (lamCx X A outer s H E scope f c') (paL pa) (defW E) body mb)
    (hg : Gl X x) (nd : (x == ("__debug__" : Str)) = false := by decide) : RE X pa W (.Call (.Name x p) [.Lambda params body scope lpos] [] pos) (lamM mb (wordF t l fin)) := by
  obtain ⟨g, fd, pg, h0, hs, sg, Ng, a, j, p1, p2, p3, p4, p5, p6, F, at_g, binds, Sg, slot, vis, nx, nc, hO⟩ := S.ex
  refine ⟨⟨fun pins s σ H Q I want => ?_⟩⟩
  obtain ⟨ms, os, e, rl, out⟩ := want
  cases hy : wordF t l fin (toFx (mb (hide e))) with
  | none => simp only [lamM, hy] at out; exact out.elim
  | some y =>
  simp only [lamM, hy] at out
  have out : Vw X.K pa ms os σ H Q (.str y) e := out
  refine wpAny_Call_Name_kw (ld_glob I hg at_g ?_ nd)
  apply PySem.W.callWith_K (h₀ := X.base) I.ok.mod.kin F.kp _ (by rfl) (by rfl)
  show wpAny _ _ (spliced ((false, eval (.Lambda params body scope lpos) X.env) :: backTo pos (starEach [] X.env))) _ _ s
  apply Calls.spliced_cons
  refine lam_laid I TB code hm nm rl.tb noDfl (L.has I.ok) fun f c' pm ctv H1 s1 I1 kp at_f free nofr code' => ?_
  refine Calls.spliced_nil ⟨I1.kIn, ?_⟩
  have rl1 := (rl.kp kp).hide
  have ran : codeAny (model X.prog X.w) X.A (.call (.ref g) ⟨[.ref f], []⟩) (CR (L2.CX X.prog X.w) X.stack X.prog X.w H1 s1 Q (fun _ _ _ => False)) s1 := by
    obtain ⟨oc, od, dV, kV, doc, pm2, an, cdv, ct, osl, rfl, lk, hcd, hD, hK⟩ := F.ex
    refine LamX.run_ofS (N := Ng) (ps := [a]) (us := [.ref f]) (vs := [.ref f]) lk hcd Sg hr I1.env0 (binds s1 [.ref f] I1.kIn rfl) (.cons rfl .nil) rfl fun hr' => ?_
    have gd' : Gd (k + 1) X.prog X.base (dcx X.prog X.w X.K X.mg X.base Ng x sg g cdv X.A X.stack s1 H1 fun _ _ _ => False).A := gd.deeper _
    obtain ⟨hdOk, sw⟩ := hO cdv X.A X.stack s1 H1 (fun _ _ _ => False)
    obtain ⟨cl, clOk, clFin⟩ := hd_cl (X := dcx X.prog X.w X.K X.mg X.base Ng x sg g cdv X.A X.stack s1 H1 fun _ _ _ => False) gd'.rg (Room.u200 hr') gd'.ns hdOk
    have tried := ps_tries (X := dcx X.prog X.w X.K X.mg X.base Ng x sg g cdv X.A X.stack s1 H1 fun _ _ _ => False) (pos := p4) (Wout := fun _ _ _ _ => False)
      (tb := fun W => tDrop (fun τ HZ Q => τ[0]? = some (some (.ref f)) ∧ HZ c' = some (CodeO c' (X.env.qual ++ "<lambda>")) ∧ Ed X.K (paL pa) (defW (WE W τ)) mb σ HZ Q)) rfl rfl Sg.nd LamX.takes0
      (fun W pn xe tk _ => pss_one (ps_expr (act (i := 0) (tb := fun E => Ed X.K (paL pa) (defW E) mb) I1 L at_f free nofr (noArgs _ _ _ _ _) tk gd' hr' (fun A outer s H E g1 r1 => (read A outer s H E f c' g1 r1).pe) slot vis nx nc) sw)) clOk
    refine ⟨_, pss_cons tried (pss_one (ps_ret (pos := p6) (pe_str (x := fin) (j := j) (pos := p5)))), ?_⟩
    have len : (L2.start Ng [V.ref f]).length = Ng.length := start_len (pre_len Sg.pre)
    have done : ∀ H2, Kp NoW H1 H2 → Q (.str y) H2 := fun H2 k2 => out _ H2 (rl.kp (kp.trans k2)) (kp.trans k2).now (.str y)
    refine ⟨start_get rfl, code', _, _, _, rl1, ?_⟩
    cases hb : mb (hide e) with
    | bad => rw [hb] at hy; cases hy
    | ok d g2 =>
      rw [hb] at hy
      have hy : some fin = some y := hy
      cases hy
      exact fun v H2 r2 k2 rp => done H2 k2
    | ex x' g2 =>
      rw [hb] at hy
      exact fun cls dx H2 r2 k2 xr => clFin t _ _ x' cls dx _ _ H2 y S.sub len xr hy (done H2 k2)
  refine wpAny_call (codeAny_mono ran fun r s2 got => ?_)
  match r, got with
  | .error er, got =>
    obtain ⟨_, _, _, _, _, _, _, _, _, _, _, _, z⟩ := got
    exact z.elim
  | .ok (.ret u), got => exact I1.after got
  | .ok .next, got => exact False.elim got
  | .ok .brk, got => exact False.elim got
  | .ok .cont, got => exact False.elim got
end Mir

set_option maxHeartbeats 2000000
namespace Mir
open PySem PySem.Spec PyProof.Rows L2
/-! raise -/
def sRaise0 (c : Str) : Ms := fun g => .ex ⟨c, none⟩ g
def sRaiseS (c f : Str) (m : M D) : Ms := thenE m fun d g => match d.pyd with
  | some p => if textOk p then .ex ⟨c, some [(f, d)]⟩ g else .bad
  | none => .bad
def plainB (K : PySem.W.Frag) (x : Str) (bmB : List Value) (newId : String) : Bool :=
  PySem.W.excIn K (He.ga K x) bmB newId && (PySem.W.keepIn K (.ref (He.ga K x)) && (PySem.W.subIn K (.ref (He.ga K x)) (.type "BaseException") == some true && PySem.W.typeIn K (.ref (He.ga K x)) == some (.type "type")))
structure SupK (P : Program) (w : World) (K : PySem.W.Frag) (mg : Str → Option Value) (base : Heap) (x f : Str) : Prop where
  ex : ∃ (B initId N newId : String) (bmB : List Value) (qual : Str) (params : Arguments) (body : List Stmt) (scope : Scope) (fI : Addr) (fd : FuncData), SupC K mg P (He.ga K x) B initId N newId bmB f qual params body scope fI fd ∧ FnG P w K mg base [] (L2.CX P w) 1 fI fd ["self", f] (spSup (He.ga K x) f (Tx K)) ∧ Binds K fd ["self", f] []
  glo : mg x = some (.ref (He.ga K x))
section
variable {X : Cx} {pa : Pa} {W : WX} {e : Expr} {p p2 p3 pos : Pos} {x u f : Str} {j k : Nat}
theorem rs_raise0 {B newId initId : String} {bmB : List Value} (F : ExcBaseFacts B newId initId bmB) (h : plainB X.K x bmB newId = true) (at_ : X.mg x = some (.ref (He.ga X.K x))) (tk : Takes X W) (hc : X.calm = true := by rfl) (hg : Gl X x := by rfl) (nd : (x == ("__debug__" : Str)) = false := by decide) :
    RS X pa W (.Raise (some (.Call (.Name x p) [.Constant (.str u) j p2] [] p3)) none pos) (sRaise0 x) := by
  unfold plainB at h
  simp only [Bool.and_eq_true, beq_iff_eq] at h
  obtain ⟨e1, e2, e3, e4⟩ := h
  exact ⟨(ps_raise hc tk (pmk_own F e1 at_ e2 (raises_own e3 e4) hg nd)).imp fun D σ H ⟨ms, os, g, r, z⟩ => z ms os σ H _ none r (.same .refl) ⟨rfl, rfl⟩⟩
theorem rs_raiseS {m : M D} (S : SupK X.prog X.w X.K X.mg X.base x f) (gd : Gd k X.prog X.base X.A) (hr : Room k X.A) (tk : Takes X W) (he : RE X pa W e m) (hk : 2 ≤ k := by decide) (hc : X.calm = true := by rfl) (hg : Gl X x := by rfl) (nd : (x == ("__debug__" : Str)) = false := by decide)
    (hs : starEach [e] X.env = (false, eval e X.env) :: starEach [] X.env := by rfl) (hpl : (backTo p3 (starEach ([] : List Expr) X.env)).any (·.1) = false := by rfl) : RS X pa W (.Raise (some (.Call (.Name x p) [e] [] p3)) none pos) (sRaiseS x f m) := by
  obtain ⟨B, initId, N, newId, bmB, qual, params, body, scope, fI, fd, SC, F1, hb⟩ := S.ex
  have mk := pmk_sup (p := p) (pos := p3) SC F1 (gd.mono hk) (hr.mono hk) hb hg S.glo he.pe (fun v H a o t n => t.stays n) nd hs hpl
  refine ⟨(ps_raise hc tk mk).imp fun Z σ H ⟨ms, os, g, r, z⟩ => ?_⟩
  refine ⟨ms, os, g, r, (thenE.out z).mono (fun d g1 o v H1 r1 k1 rp => ?_) fun _ _ q => q⟩
  cases ep : d.pyd with
  | none => rw [ep] at o; exact o.elim
  | some q =>
    rw [ep] at o
    simp only at o
    by_cases ok : textOk q = true
    · simp only [ok, if_true] at o
      refine ⟨v, rfl, ⟨q, rp.sh ep, ok⟩, fun dd hd => ?_⟩
      have kn : Kp NoW H1 (upd H1 dd (.xd [(f, v)])) := .new hd
      exact o ms os σ _ _ (some dd) (r1.kp kn) (.same (k1.trans kn.now)) ⟨rfl, dd, [(f, v)], rfl, fun z => r1.dom dd z hd, upd_same, rfl, .cons (rp.keep kn fun _ z => z.elim) .nil⟩
    · simp only [ok] at o
      exact o.elim
end
/-! comparisons of texts; in -/
def leY : D → D → Option D
  | .str a, .str b => some (.bl (!decide (b.cps.toList < a.cps.toList)))
  | x, y => leD x y
def ltY : D → D → Option D
  | .str a, .str b => some (.bl (decide (a.cps.toList < b.cps.toList)))
  | x, y => ltD x y
def inY : D → D → Option D
  | .str a, .str b => match a.cps.toList with
    | [c] => some (.bl (decide (c ∈ b.cps.toList)))
    | _ => none
  | _, _ => none
def ninY : D → D → Option D
  | .str a, .str b => match a.cps.toList with
    | [c] => some (.bl (!decide (c ∈ b.cps.toList)))
    | _ => none
  | _, _ => none
section
variable {K : PySem.W.Frag}
theorem one_sign {a : Str} {c : Nat} (h : a.cps.toList = [c]) : a = ⟨#[c]⟩ := by
  obtain ⟨⟨l⟩⟩ := a
  simp only at h
  rw [h]
def rLeY : R2 := fun x y H Q => (∃ i j, x = V.str i ∧ y = V.str j ∧ Q (.bl (!decide (j.cps.toList < i.cps.toList))) H) ∨ (rI0 fun i j => .bl (decide (i ≤ j))) x y H Q
theorem op_leY {X : Cx} : OpR X (compareOp .LtE) rLeY := OpR.or op_le_str op_le
theorem o2_leY : Op2 K rLeY leY := fun ms os H Q v w x y z hs hd hv hw e hQ => by
  unfold leY at e
  split at e
  · cases e
    exact .inl ⟨_, _, hv.str, hw.str, hQ _ H .refl (.bl _)⟩
  · exact .inr (o2_le ms os H Q v w _ _ z hs hd hv hw e hQ)
def rLtY : R2 := fun x y H Q => (∃ i j, x = V.str i ∧ y = V.str j ∧ Q (.bl (decide (i.cps.toList < j.cps.toList))) H) ∨ (rI0 fun i j => .bl (decide (i < j))) x y H Q
theorem op_ltY {X : Cx} : OpR X (compareOp .Lt) rLtY := OpR.or op_lt_str op_lt
theorem o2_ltY : Op2 K rLtY ltY := fun ms os H Q v w x y z hs hd hv hw e hQ => by
  unfold ltY at e
  split at e
  · cases e
    exact .inl ⟨_, _, hv.str, hw.str, hQ _ H .refl (.bl _)⟩
  · exact .inr (o2_lt ms os H Q v w _ _ z hs hd hv hw e hQ)
def rInY : R2 := fun x y H Q => ∃ (c : Nat) (z : Str), x = V.str ⟨#[c]⟩ ∧ y = .str z ∧ Q (.bl (decide (c ∈ z.cps.toList))) H
def rNinY : R2 := fun x y H Q => ∃ (c : Nat) (z : Str), x = V.str ⟨#[c]⟩ ∧ y = .str z ∧ Q (.bl (!decide (c ∈ z.cps.toList))) H
theorem o2_inY : Op2 K rInY inY := fun ms os H Q v w x y z hs hd hv hw e hQ => by
  unfold inY at e
  split at e
  · split at e <;> cases e
    rename_i h
    exact ⟨_, _, by rw [hv.str, one_sign h], hw.str, hQ _ H .refl (.bl _)⟩
  · cases e
theorem o2_ninY : Op2 K rNinY ninY := fun ms os H Q v w x y z hs hd hv hw e hQ => by
  unfold ninY at e
  split at e
  · split at e <;> cases e
    rename_i h
    exact ⟨_, _, by rw [hv.str, one_sign h], hw.str, hQ _ H .refl (.bl _)⟩
  · cases e
/-! isinstance, dicts too -/
def tyY : D → Option String
  | .dct _ _ => some "dict"
  | x => tyD x
def isiY : List D → Option D := fun ds => match ds with
  | [x, .ty b] => match tyY x with
    | some a => (isT a b).map .bl
    | none => none
  | _ => none
theorem on_isiY : OpN K (rIsi K) isiY := fun ms os H Q vs xs z hs hd hv e hQ => by
  unfold isiY at e
  split at e
  · rename_i x b
    cases hv with
    | @cons v d vs ds a l =>
    cases l with
    | @cons w d' vs' ds' b' l' =>
    cases l'
    by_cases hx : ∃ ks us, x = .dct ks us
    · obtain ⟨ks, us, rfl⟩ := hx
      have e : (isT "dict" b).map D.bl = some z := e
      obtain ⟨r, h1, rfl⟩ := Option.map_eq_some_iff.mp e
      rw [b'.ty]
      refine ⟨v, _, _, _, r, rfl, .ty b, (?_ : TyX K H v (.type "dict")), kit_ty (isT_kit (by decide) h1), hQ _ H .refl (.bl r)⟩
      rcases a with r1 | ⟨p, m, rfl, h2, h3, h4⟩
      · cases r1 with
        | dct n s hk l =>
          rcases s with s | ⟨o, s⟩
          · exact .base (.dK s)
          · exact .fDict s
      · cases m with
        | dc ks' vs' =>
          obtain ⟨kvs, e1, _⟩ := h4
          exact .base (.dK e1)
        | ob c ns fs =>
          obtain ⟨ds, _, q⟩ := Option.map_eq_some_iff.mp (show (Fo.dats fs).map (D.obj c ns) = some (.dct ks us) from h3)
          cases q
        | _ => cases h3
    · have e2 : isiN [x, .ty b] = some z := by
        have : tyY x = tyD x := by
          cases x with
          | dct ks us => exact (hx ⟨ks, us, rfl⟩).elim
          | _ => rfl
        rw [this] at e
        exact e
      exact on_isi ms os H Q _ _ z hs hd (.cons a (.cons b' .nil)) e2 hQ
  · cases e
end
/-! displays of dicts -/
def putD (kds : List (Key × D)) (k : Key) (d : D) : List (Key × D) := if (kds.any fun kv => decide (kv.1 = k)) = true then kds.map (fun kv => if kv.1 = k then (kv.1, d) else kv) else kds ++ [(k, d)]
def KRep (K : PySem.W.Frag) (ms : Addr → Prop) (H : Hp) : List (Key × V) → List (Key × D) → Prop := Paired fun a b => a.1 = b.1 ∧ Rep K ms H a.2 b.2
section
variable {K : PySem.W.Frag} {ms ms' : Addr → Prop} {H H' : Hp}
theorem KRep.keys {a : List (Key × V)} {b : List (Key × D)} (r : KRep K ms H a b) : a.map (·.1) = b.map (·.1) := by
  unfold KRep at r
  induction r with
  | nil => rfl
  | cons h t ih => rw [List.map_cons, List.map_cons, h.1, ih]
theorem KRep.vals {a : List (Key × V)} {b : List (Key × D)} (r : KRep K ms H a b) : RepL K ms H (a.map (·.2)) (b.map (·.2)) := by
  unfold KRep at r
  induction r with
  | nil => exact .nil
  | cons h t ih => exact .cons h.2 ih
theorem KRep.mk {ks : List Key} {a : List (Key × V)} {ds : List D} (h : a.map (·.1) = ks) (r : RepL K ms H (a.map (·.2)) ds) : KRep K ms H a (ks.zip ds) := by
  subst h
  induction a generalizing ds with
  | nil => cases r; exact .nil
  | cons x xs ih =>
    cases r with
    | cons q l => exact .cons ⟨rfl, q⟩ (ih l)
theorem KRep.any {a : List (Key × V)} {b : List (Key × D)} (r : KRep K ms H a b) (k : Key) : (a.any fun kv => decide (kv.1 = k)) = (b.any fun kv => decide (kv.1 = k)) := by
  unfold KRep at r
  induction r with
  | nil => rfl
  | cons h t ih => rw [List.any_cons, List.any_cons, h.1, ih]
theorem KRep.app {a a' : List (Key × V)} {b b' : List (Key × D)} (r : KRep K ms H a b) (r' : KRep K ms H a' b') : KRep K ms H (a ++ a') (b ++ b') := by
  unfold KRep at r
  induction r with
  | nil => exact r'
  | cons h t ih => exact .cons h ih
theorem KRep.put {a : List (Key × V)} {b : List (Key × D)} (r : KRep K ms H a b) (k : Key) {v : V} {d : D} (q : Rep K ms H v d) : KRep K ms H (putK a k v) (putD b k d) := by
  unfold putK putD
  rw [r.any k]
  split
  · have key : ∀ {a : List (Key × V)} {b : List (Key × D)}, KRep K ms H a b → KRep K ms H (a.map fun kv => if kv.1 = k then (kv.1, v) else kv) (b.map fun kv => if kv.1 = k then (kv.1, d) else kv) := by
      intro a b r
      unfold KRep at r
      induction r with
      | nil => exact .nil
      | @cons x y xs ys h t ih =>
        refine .cons ?_ ih
        show (if x.1 = k then (x.1, v) else x).1 = (if y.1 = k then (y.1, d) else y).1 ∧ Rep K ms H (if x.1 = k then (x.1, v) else x).2 (if y.1 = k then (y.1, d) else y).2
        by_cases hk : x.1 = k
        · have hk2 : y.1 = k := h.1 ▸ hk
          rw [if_pos hk, if_pos hk2]
          exact ⟨h.1, q⟩
        · have hk2 : ¬ y.1 = k := h.1 ▸ hk
          rw [if_neg hk, if_neg hk2]
          exact h
    exact key r
  · exact r.app (.cons ⟨rfl, q⟩ .nil)
theorem KRep.move {W : Addr → Prop} {a : List (Key × V)} {b : List (Key × D)} (r : KRep K ms H a b) (k : Kp W H H') (hw : ∀ a, W a → ms a) (hm : ∀ a, ms' a → ms a ∨ H a = none) : KRep K ms' H' a b := Paired.mapP r fun _ _ q => ⟨q.1, q.2.move k hw hm⟩
def mergeD (kds more : List (Key × D)) : List (Key × D) := more.foldl (fun acc kv => putD acc kv.1 kv.2) kds
theorem KRep.merge {a a' : List (Key × V)} {b b' : List (Key × D)} (r : KRep K ms H a b) (r' : KRep K ms H a' b') : KRep K ms H (mergeK a a') (mergeD b b') := by
  unfold KRep at r'
  induction r' generalizing a b with
  | nil => exact r
  | @cons x y xs ys h t ih =>
    have := r.put x.1 h.2
    rw [show putD b x.1 y.2 = putD b y.1 y.2 by rw [h.1]] at this
    exact ih this
end
section
variable {X : Cx} {pa : Pa} {W : WX} {e : Expr} {pos : Pos}
def keyD : D → Option Key
  | .int i => some (.inl i)
  | .str x => some (.inr x)
  | _ => none
/-- the pairs of a display, from the left -/
def prsM : List (M D × M D) → M (List (Key × D))
  | [] => ret []
  | (a, b) :: r => bnd a fun k => bnd b fun v => bnd (prsM r) fun l => match keyD k with
    | some q => ret ((q, v) :: l)
    | none => bad
def dispM (l : List (M D × M D)) : M Mo := bnd (prsM l) fun kds => if kds.length ≤ 15 then ret (.dc ((mergeD [] kds).map (·.1)) ((mergeD [] kds).map (·.2))) else bad
theorem rm_dict0 : RM X pa W (.Dict [] [] pos) (ret (.dc [] [])) :=
  ⟨pe_dnewK.imp fun σ H Q ⟨ms, os, g, r, z⟩ p hp => z p _ hp (r.grow (.new hp) (fun a q => q.imp id fun e => by rw [e]; exact hp) (fun _ q => .inl q) fun a q => by
    by_cases h : a = p
    · rw [h, upd_same]; exact fun z => nomatch z
    · rw [upd_ne h]; exact q.elim (r.dom a) fun z => absurd z h) (.new hp) ⟨[], upd_same, rfl, .nil⟩⟩
structure RPs (X : Cx) (pa : Pa) (W : WX) (pos : Pos) (keys : List (Option Expr)) (values : List Expr) (l : List (M D × M D)) : Prop where
  ok : ∃ trs : List (TE × TE), PPs X pos keys values trs ∧ ∀ (σ : L2.St) (H : Hp) (Q : List (V × V) → Hp → Prop) (ms os : Addr → Prop) (g : En), Rl X.K pa ms os σ H g →
    Out (prsM l g) (fun kds g' => ∀ kvs H', Rl X.K pa ms os σ H' g' → Kp os H H' → KRep X.K ms H' kvs kds → Q (kvs.map fun kv => (kV kv.1, kv.2)) H') (Xw X.K pa W ms os σ H) → tPairs trs σ H Q
theorem rps_nil : RPs X pa W pos [] [] [] := ⟨[], pps_nil, fun σ H Q ms os g r z => z [] H r .refl .nil⟩
theorem rep_key {K : PySem.W.Frag} {ms : Addr → Prop} {H : Hp} {v : V} {d : D} {k : Key} (r : Rep K ms H v d) (h : keyD d = some k) : v = kV k := by
  cases d with
  | int i => cases h; cases r; rfl
  | str i => cases h; cases r; rfl
  | _ => cases h
theorem rps_cons {k v : Expr} {ks : List (Option Expr)} {vs : List Expr} {a b : M D} {l : List (M D × M D)} (hk : RE X pa W k a) (hv : RE X pa W v b) (h : RPs X pa W pos ks vs l) : RPs X pa W pos (some k :: ks) (v :: vs) ((a, b) :: l) := by
  obtain ⟨trs, h1, h2⟩ := h.ok
  refine ⟨_, pps_cons hk.pe hv.pe h1, fun σ H Q ms os g r z => ?_⟩
  let P : Hp → List (Key × D) → En → Prop := fun H1 kds g' => ∀ kvs H', Rl X.K pa ms os σ H' g' → Kp os H1 H' → KRep X.K ms H' kvs kds → Q (kvs.map fun kv => (kV kv.1, kv.2)) H'
  have hP : ∀ d g' H H1, P H d g' → Kp os H H1 → P H1 d g' := fun d g' H H1 q k kvs H' r' k' rep => q kvs H' r' (k.trans k') rep
  refine Ed.step (P := P) r z (fun d g' H1 => hP d g' H H1) fun x dx H1 g1 r1 k1 rx o => Ed.step (P := P) r1 o (fun d g' H2 => hP d g' H1 H2) fun y dy H2 g2 r2 k2 ry o2 => h2 σ H2 _ ms os g2 r2 ?_
  have o3 : Out (bnd (prsM l) (fun l => match keyD dx with | some q => ret ((q, dy) :: l) | none => bad) g2) (P H2) (Xw X.K pa W ms os σ H2) := o2
  refine o3.bnd.mono (fun kds g3 o4 kvs H3 r3 k3 rk => ?_) fun _ _ q => q
  cases e : keyD dx with
  | none => rw [e] at o4; exact o4.elim
  | some q =>
    rw [e] at o4
    have ek := rep_key rx e
    subst ek
    exact o4 ((q, y) :: kvs) H3 r3 k3 (.cons ⟨rfl, ry.keep k3 r2.sub⟩ rk)
theorem rm_disp {keys : List (Option Expr)} {values : List Expr} {l : List (M D × M D)} (h : RPs X pa W pos keys values l) (hall : keys.all (·.isSome) = true := by rfl) (hl : keys.length = values.length := by rfl) (h0 : keys ≠ [] := by exact List.cons_ne_nil _ _) (h15 : keys.length ≤ 15 := by decide) : RM X pa W (.Dict keys values pos) (dispM l) := by
  obtain ⟨trs, h1, h2⟩ := h.ok
  refine ⟨(pe_disp h1 hall hl h0 h15).imp fun σ H Q ⟨ms, os, g, r, z⟩ p hp => ?_⟩
  have nos : ¬ os p := fun o => r.dom p (r.sub p o) hp
  have k0 : Kp os H (upd H p (.dK [])) := .new hp
  have r1 : Rl X.K pa (plus ms p) os σ (upd H p (.dK [])) g := r.grow (.new hp) (fun a q => q.imp id fun e => by rw [e]; exact hp) (fun _ q => .inl q) fun a q => by
    by_cases h : a = p
    · rw [h, upd_same]; exact fun z => nomatch z
    · rw [upd_ne h]; exact q.elim (r.dom a) fun z => absurd z h
  refine h2 σ _ _ (plus ms p) os g r1 ?_
  have z := Out.bnd (show Out (bnd (prsM l) (fun kds => if kds.length ≤ 15 then ret (.dc ((mergeD [] kds).map (·.1)) ((mergeD [] kds).map (·.2))) else bad) g) (Nm X.K pa ms os σ H Q) (Xw X.K pa W ms os σ H) from z)
  refine z.mono (fun kds g2 o kvs H2 rr k2 rk => ?_) fun x g2 q c dx H2 rr k2 xr => q c dx H2 (rr.less (fun a z => .inl z) r.sub) (k0.trans k2) (xr.up fun a z => .inl (.inl z))
  have atp : H2 p = some (.dK []) := k2.st p _ upd_same trivial fun z => absurd z nos
  have len : kvs.length = kds.length := by
    have := congrArg List.length rk.keys
    simpa using this
  by_cases hz : kds.length ≤ 15
  · have o : Out ((if kds.length ≤ 15 then ret (.dc ((mergeD [] kds).map (·.1)) ((mergeD [] kds).map (·.2))) else bad : M Mo) g2) (Nm X.K pa ms os σ H Q) (Xw X.K pa W ms os σ H) := o
    rw [if_pos hz] at o
    refine ⟨atp, kvs, rfl, by omega, ?_⟩
    have kw : Kp (fun a => a = p) H2 (upd H2 p (.dK (mergeK [] kvs))) := .set atp trivial rfl
    have rm : KRep X.K (plus ms p) H2 (mergeK [] kvs) (mergeD [] kds) := KRep.merge .nil rk
    have rm2 := rm.move (ms' := plus ms p) kw (fun a z => by rw [z]; exact .inr rfl) fun a z => .inl z
    exact o p _ hp (rr.other atp trivial (.inr rfl) nos) (Kp.fresh (k0.trans k2) kw fun a z => .inr (by rw [z]; exact hp)) ⟨_, upd_same, rm2.keys, rm2.vals⟩
  · have o : Out ((if kds.length ≤ 15 then ret (.dc ((mergeD [] kds).map (·.1)) ((mergeD [] kds).map (·.2))) else bad : M Mo) g2) (Nm X.K pa ms os σ H Q) (Xw X.K pa W ms os σ H) := o
    rw [if_neg hz] at o
    exact o.elim
end
/-! a + b of lists, a new list -/
def catM : D → D → M (List D)
  | .lst xs, .lst ys => if xs.length + ys.length ≤ 16777216 then ret (xs ++ ys) else bad
  | _, _ => bad
theorem rn_cat {X : Cx} {pa : Pa} {W : WX} {a b : Expr} {pos : Pos} {ma mb : M Op} (ha : RO X pa W a ma) (hb : RO X pa W b mb) : RN X pa W (.BinOp a .Add b pos) (e2 ma mb catM) :=
  ⟨(pe_op op_cat ha.pe hb.pe).imp fun σ H Q ⟨ms, os, g, rl, z⟩ => step2 (P := fun H1 => Nw X.K pa ms os σ H1 Q) rl z (fun xs g' H H1 q k p vs H' hp e r' k' rep => q p vs H' (k.no p hp) e r' (k.trans k') rep) fun v w d d' H1 g1 r1 q1 q2 o => by
    unfold catM at o
    split at o
    · rename_i xs ys
      obtain ⟨p, vs, rfl, s1, l1⟩ := q1.lst
      obtain ⟨q, ws, rfl, s2, l2⟩ := q2.lst
      split at o
      · rename_i hz
        exact ⟨p, q, vs, ws, rfl, rfl, s1, s2, by rw [l1.length, l2.length]; exact Nat.le_trans hz (by decide), nw_laid r1 (l1.append l2) o⟩
      · exact o.elim
    · exact o.elim⟩
/-! lists several times over -/
def mulY : D → D → Option D
  | .lst xs, .int k => if (0 ≤ k ∧ k ≤ 65536) ∧ xs.length * k.toNat ≤ 16777216 then some (.lst (List.replicate k.toNat xs).flatten) else none
  | x, y => mulD x y
def rMulY (K : PySem.W.Frag) : R2 := fun x y H Q => rRep x y H Q ∨ rMulX K x y H Q
theorem op_mulY {X : Cx} : OpR X (binaryOp .Mult) (rMulY X.K) := OpR.or op_rep op_mulX
theorem o2_mulY {K : PySem.W.Frag} : Op2 K (rMulY K) mulY := fun ms os H Q v w x y z hs hd hv hw e hQ => by
  unfold mulY at e
  split at e
  · rename_i xs k
    obtain ⟨p, vs, rfl, s1, l1⟩ := hv.lst
    split at e
    · rename_i c
      cases e
      refine .inl ⟨p, k, vs, rfl, hw.int, s1, by omega, by omega, by rw [l1.length]; exact Nat.le_trans c.2 (by decide), fun r hr => ?_⟩
      obtain ⟨kp, rp⟩ := new_lst hd hr (l1.several k.toNat)
      exact hQ _ _ kp rp
    · cases e
  · exact .inr (o2_mul ms os H Q v w _ _ z hs hd hv hw e hQ)
def repM : D → D → M (List D)
  | .lst xs, .int k => if (0 ≤ k ∧ k ≤ 65536) ∧ xs.length * k.toNat ≤ 16777216 then ret (List.replicate k.toNat xs).flatten else bad
  | _, _ => bad
theorem rn_rep {X : Cx} {pa : Pa} {W : WX} {a b : Expr} {pos : Pos} {ma mb : M Op} (ha : RO X pa W a ma) (hb : RO X pa W b mb) : RN X pa W (.BinOp a .Mult b pos) (e2 ma mb repM) :=
  ⟨(pe_op op_rep ha.pe hb.pe).imp fun σ H Q ⟨ms, os, g, rl, z⟩ => step2 (P := fun H1 => Nw X.K pa ms os σ H1 Q) rl z (fun xs g' H H1 q k p vs H' hp e r' k' rep => q p vs H' (k.no p hp) e r' (k.trans k') rep) fun v w d d' H1 g1 r1 q1 q2 o => by
    unfold repM at o
    split at o
    · rename_i xs k
      obtain ⟨p, vs, rfl, s1, l1⟩ := q1.lst
      split at o
      · rename_i c
        exact ⟨p, k, vs, rfl, q2.int, s1, by omega, by omega, by rw [l1.length]; exact Nat.le_trans c.2 (by decide), nw_laid r1 (l1.several k.toNat) o⟩
      · exact o.elim
    · exact o.elim⟩
end Mir

set_option maxHeartbeats 4000000
namespace MLaw
open PySem L2 Mir
noncomputable section
abbrev lstE (m : M (List D)) : M D := bnd m fun xs => ret (.lst xs)
abbrev lsM (m : M (List D)) : M Mo := bnd m fun xs => ret (.ls xs)
def subT : List (Str × Str × Bool) := ([("InvalidCount", "InvalidCount", true), ("InvalidCount", "InvalidFraction", false), ("InvalidCount", "Refused", false), ("InvalidFraction", "InvalidCount", false), ("InvalidFraction", "InvalidFraction", true), ("InvalidFraction", "Refused", false)] : List (Str × Str × Bool)) ++ ([("Refused", "InvalidCount", false), ("Refused", "InvalidFraction", false), ("Refused", "Refused", true)] : List (Str × Str × Bool))
def h_law_word : List Hd := [⟨"InvalidFraction", (PySem.Str.ofString "fraction"), none⟩, ⟨"InvalidCount", (PySem.Str.ofString "count "), (some "given")⟩, ⟨"Refused", (PySem.Str.ofString "refused "), (some "reason")⟩]
abbrev c_MAX_LETTERS : Int := 12
abbrev c_MAX_COUNT : Int := 60
abbrev c_MOST_PASSED : Int := 10000000000000000000000000000000000000000
abbrev c_LETTERS : Str := (PySem.Str.ofString "abcdefghijklmnopqrstuvwxyz")
abbrev c_SIGNS : Str := (PySem.Str.ofString "abcdefghijklmnopqrstuvwxyz0123456789.")
def b_is_integer : Ms :=
  (sRet (eD (ite' (tB (bnd (eArgs [(eN 0), (eD (ret (.ty "int")))]) (apL isiY))) (ofB (notM (tB (bnd (eArgs [(eN 0), (eD (ret (.ty "bool")))]) (apL isiY))))) (ret (.bl false)))))
def f_is_integer : List D → Fd := fnD 0 b_is_integer
def b_is_name : Ms :=
  (sQ (sIf (orM (notM (tB (bnd (eArgs [(eN 0), (eD (ret (.ty "str")))]) (apL isiY)))) (orM (notM (tB (chM (eD (ret (.int 1))) (eD (bnd (eArgs [(eN 0)]) (apL lenN))) (eD (ret (.int c_MAX_LETTERS))) leY leY))) (tB (e2 (eD (e2 (eN 0) (eD (ret (.int 0))) (f2 ixD))) (eD (ret (.str c_LETTERS))) (f2 ninY)))))
  (sRet (eD (ret (.bl false))))
  sNil)
  (sRet (eD (bnd (eArgs [(eD (lstE (cmp [1] (bnd (eN 0) itM) (tName 1) yes (eD (e2 (eN 1) (eD (ret (.str c_SIGNS))) (f2 inY))))))]) (apL allN)))))
def f_is_name : List D → Fd := fnD 1 b_is_name
def b_common_divisor : Ms :=
  (sQ (sPar 0 1 (eArgs [(eD (bnd (eArgs [(eN 0)]) (apL absN))), (eD (bnd (eArgs [(eN 1)]) (apL absN)))]))
  (sQ (sWf (tB (e2 (eN 1) (eD (ret (.int 0))) (f2 gtD)))
  (sPar 0 1 (eArgs [(eN 1), (eD (e2 (eN 0) (eN 1) (f2 modD)))])))
  (sRet (eN 0))))
def f_common_divisor : List D → Fd := fnD 0 b_common_divisor
def b_opposite : Ms :=
  (sRet (eD (bnd (eArgs [(eD (e2 (eD (ret (.int 0))) (eD (e2 (eN 0) (eD (ret (.int 0))) (f2 ixD))) (f2 subD))), (eD (e2 (eN 0) (eD (ret (.int 1))) (f2 ixD)))]) tupM)))
def f_opposite : List D → Fd := fnD 0 b_opposite
def b_law_dice : Ms :=
  (sQ (sAsg (ite' (tB (e2 (eN 1) (eD (bnd (eArgs [(eN 0)]) (apL lenN))) (f2 ltY))) (bnd (eArgs [(eD (e2 (eN 0) (eN 1) (f2 ixD)))]) (apL intN)) (e2 (eD (e2 (eD (ret (.int 131))) (eN 1) (f2 mulY))) (eD (ret (.int 37))) (f2 addD))) (tName 2))
  (sQ (sAsg (e2 (eD (bnd (eArgs [(eD (bnd (eArgs [(eN 2)]) (apL absN)))]) (apL intN))) (eD (e2 (eD (e2 (eD (ret (.int 10))) (eD (ret (.int 53))) (f2 powD))) (eD (ret (.int 6))) (f2 powD))) (f2 modD)) (tName 3))
  (sQ (sAsg (e2 (eD (e2 (eD (e2 (eD (e2 (eD (e2 (eN 3) (eD (ret (.int 2305843009213693907))) (f2 modD))) (eD (ret (.int 73))) (f2 mulY))) (eD (e2 (eD (ret (.int 619))) (eN 1) (f2 mulY))) (f2 addD))) (eD (e2 (eD (ret (.int 41))) (eD (bnd (eArgs [(eD (e2 (eN 2) (eD (ret (.int 0))) (f2 ltY)))]) (apL intN))) (f2 mulY))) (f2 addD))) (eD (ret (.int 17))) (f2 addD)) (tName 4))
  (sRetW (lsM (bnd (eArgs [(eD (bnd (eArgs [(eD (ret (.int 0))), (eD (e2 (eN 3) (eD (e2 (eD (ret (.int 10))) (eD (ret (.int 16))) (f2 powD))) (f2 subD)))]) (apL maxN))), (eN 4), (eD (ret (.int 0)))]) lstM))))))
def f_law_dice : List D → Fd := fnD 3 b_law_dice
def b_law_roll : Ms :=
  (sQ (sIf (tB (e2 (eD (e2 (eN 0) (eD (ret (.int 0))) (f2 ixD))) (eD (ret (.int 0))) (f2 gtD)))
  (sQ (sAsg (e2 (eD (e2 (eN 0) (eD (ret (.int 0))) (f2 ixD))) (eN 1) (f2 modD)) (tName 4))
  (sQ (sSto 0 (eD (ret (.int 0))) (eD (e2 (eD (e2 (eN 0) (eD (ret (.int 0))) (f2 ixD))) (eN 1) (f2 fdvD))))
  (sRet (eD (bnd (eArgs [(eN 4)]) (apL intN))))))
  sNil)
  (sQ (sSto 0 (eD (ret (.int 2))) (eD (e2 (eD (e2 (eN 0) (eD (ret (.int 2))) (f2 ixD))) (eD (ret (.int 1))) (f2 addD))))
  (sQ (sAsg (e2 (eD (e2 (eD (e2 (eN 0) (eD (ret (.int 1))) (f2 ixD))) (eD (e2 (eD (ret (.int 49979687))) (eD (e2 (eN 0) (eD (ret (.int 2))) (f2 ixD))) (f2 mulY))) (f2 addD))) (eD (ret (.int 2305843009213693951))) (f2 modD)) (tName 2))
  (sQ (sAsg (e2 (eD (e2 (eD (e2 (eD (e2 (eD (e2 (eN 2) (eN 2) (f2 mulY))) (eD (e2 (eD (ret (.int 131))) (eD (e2 (eN 0) (eD (ret (.int 2))) (f2 ixD))) (f2 mulY))) (f2 addD))) (eD (ret (.int 2305843009213693921))) (f2 modD))) (eD (ret (.int 32452843))) (f2 mulY))) (eN 2) (f2 addD)) (tName 3))
  (sRet (eD (e2 (eD (bnd (eArgs [(eD (e2 (eN 3) (eD (ret (.int 65587))) (f2 fdvD)))]) (apL intN))) (eN 1) (f2 modD))))))))
def f_law_roll : Mo → List D → Fm := fnM 3 b_law_roll
def b_law_fr : Ms :=
  (sQ (sPar 3 4 (eArgs [(eD (bnd (eArgs [(eN 0)]) (apL absN))), (eD (bnd (eArgs [(eN 1)]) (apL absN)))]))
  (sQ (sWf (tB (e2 (eN 4) (eD (ret (.int 0))) (f2 gtD)))
  (sPar 3 4 (eArgs [(eN 4), (eD (e2 (eN 3) (eN 4) (f2 modD)))])))
  (sQ (sAsg (ite' (tB (e2 (eN 1) (eD (ret (.int 0))) (f2 ltY))) (e1 (eD (ret (.int 1))) (f1 negD)) (ret (.int 1))) (tName 2))
  (sRet (eD (bnd (eArgs [(eD (e2 (eD (e2 (eN 2) (eN 0) (f2 mulY))) (eN 3) (f2 fdvD))), (eD (e2 (eD (e2 (eN 2) (eN 1) (f2 mulY))) (eN 3) (f2 fdvD)))]) tupM))))))
def f_law_fr : List D → Fd := fnD 3 b_law_fr
def b_law_is_name : Ms :=
  (sQ (sIf (orM (notM (tB (bnd (eArgs [(eN 0), (eD (ret (.ty "str")))]) (apL isiY)))) (orM (notM (tB (chM (eD (ret (.int 1))) (eD (bnd (eArgs [(eN 0)]) (apL lenN))) (eD (ret (.int 12))) leY leY))) (notM (tB (chM (eD (ret (.str (PySem.Str.ofString "a")))) (eD (e2 (eN 0) (eD (ret (.int 0))) (f2 ixD))) (eD (ret (.str (PySem.Str.ofString "z")))) leY leY)))))
  (sRet (eD (ret (.bl false))))
  sNil)
  (sRet (eD (e2 (eD (lstE (cmp [1] (bnd (eN 0) itM) (tName 1) (tB (e2 (eN 1) (eD (ret (.str (PySem.Str.ofString "abcdefghijklmnopqrstuvwxyz0123456789.")))) (f2 ninY))) (eN 1)))) (eD (lstE (bnd (eArgs []) lstM))) (f2 eqD)))))
def f_law_is_name : List D → Fd := fnD 1 b_law_is_name
def b_is_number : Ms :=
  (sQ (sIf (orM (notM (tB (bnd (eArgs [(eN 0), (eD (ret (.ty "tuple")))]) (apL isiY)))) (orM (tB (e2 (eD (bnd (eArgs [(eN 0)]) (apL lenN))) (eD (ret (.int 2))) (f2 neD))) (notM (tB (bnd (eArgs [(eD (lstE (cmp [1] (bnd (eN 0) itM) (tName 1) yes (eD (bnd (eArgs [(eN 1)]) (callF 1 f_is_integer []))))))]) (apL allN))))))
  (sRet (eD (ret (.bl false))))
  sNil)
  (sRet (eD (ite' (tB (e2 (eD (e2 (eN 0) (eD (ret (.int 1))) (f2 ixD))) (eD (ret (.int 1))) (f2 geD))) (e2 (eD (bnd (eArgs [(eD (e2 (eN 0) (eD (ret (.int 0))) (f2 ixD))), (eD (e2 (eN 0) (eD (ret (.int 1))) (f2 ixD)))]) (callF 2 f_common_divisor []))) (eD (ret (.int 1))) (f2 eqD)) (ret (.bl false))))))
def f_is_number : List D → Fd := fnD 1 b_is_number
def b_reduced : Ms :=
  (sQ (sIf (tB (e2 (eN 1) (eD (ret (.int 0))) (f2 ltY)))
  (sPar 0 1 (eArgs [(eD (e2 (eD (ret (.int 0))) (eN 0) (f2 subD))), (eD (e2 (eD (ret (.int 0))) (eN 1) (f2 subD)))]))
  sNil)
  (sQ (sAsg (bnd (eArgs [(eN 0), (eN 1)]) (callF 2 f_common_divisor [])) (tName 2))
  (sRet (eD (bnd (eArgs [(eD (e2 (eN 0) (eN 2) (f2 fdvD))), (eD (e2 (eN 1) (eN 2) (f2 fdvD)))]) tupM)))))
def f_reduced : List D → Fd := fnD 1 b_reduced
def b_require_count : Ms :=
  (sIf (orM (notM (tB (bnd (eArgs [(eN 0)]) (callF 1 f_is_integer [])))) (notM (tB (chM (eN 1) (eN 0) (eN 2) leY leY))))
  (sRaiseS "InvalidCount" "given" (eV (eN 0)))
  sNil)
def f_require_count : List D → Fd := fnD 0 b_require_count
def b_law_pick : Ms :=
  (sRet (eD (e2 (eN 1) (eD (bnd (eArgs [(eN 0), (eD (bnd (eArgs [(eN 1)]) (apL lenN)))]) (callM 2 f_law_roll []))) (f2 ixD))))
def f_law_pick : Mo → List D → Fm := fnM 0 b_law_pick
def b_law_is_number : Ms :=
  (sQ (sIf (orM (notM (tB (bnd (eArgs [(eN 0), (eD (ret (.ty "tuple")))]) (apL isiY)))) (tB (e2 (eD (bnd (eArgs [(eN 0)]) (apL lenN))) (eD (ret (.int 2))) (f2 neD))))
  (sRet (eD (ret (.bl false))))
  sNil)
  (sQ (sIf (tB (e2 (eD (lstE (cmp [1] (bnd (eN 0) itM) (tName 1) (orM (notM (tB (bnd (eArgs [(eN 1), (eD (ret (.ty "int")))]) (apL isiY)))) (tB (bnd (eArgs [(eN 1), (eD (ret (.ty "bool")))]) (apL isiY)))) (eD (ret (.int 1)))))) (eD (lstE (bnd (eArgs []) lstM))) (f2 neD)))
  (sRet (eD (ret (.bl false))))
  sNil)
  (sRet (eD (ite' (tB (e2 (eD (e2 (eN 0) (eD (ret (.int 1))) (f2 ixD))) (eD (ret (.int 1))) (f2 geD))) (e2 (eD (bnd (eArgs [(eD (e2 (eN 0) (eD (ret (.int 0))) (f2 ixD))), (eD (e2 (eN 0) (eD (ret (.int 1))) (f2 ixD)))]) (callF 2 f_law_fr []))) (eN 0) (f2 eqD)) (ret (.bl false)))))))
def f_law_is_number : List D → Fd := fnD 1 b_law_is_number
def b_number : Ms :=
  (sQ (sIf (orM (notM (tB (bnd (eArgs [(eN 0)]) (callF 1 f_is_integer [])))) (tB (e2 (eD (bnd (eArgs [(eN 0)]) (apL absN))) (eD (ret (.int c_MOST_PASSED))) (f2 geD))))
  (sRaiseS "InvalidCount" "given" (eV (eN 0)))
  sNil)
  (sQ (sIf (orM (notM (tB (bnd (eArgs [(eN 1)]) (callF 1 f_is_integer [])))) (orM (tB (e2 (eD (bnd (eArgs [(eN 1)]) (apL absN))) (eD (ret (.int c_MOST_PASSED))) (f2 geD))) (tB (e2 (eN 1) (eD (ret (.int 0))) (f2 eqD)))))
  (sRaiseS "InvalidCount" "given" (eV (eN 1)))
  sNil)
  (sRet (eD (bnd (eArgs [(eN 0), (eN 1)]) (callF 2 f_reduced []))))))
def f_number : List D → Fd := fnD 0 b_number
def b_require_number : Ms :=
  (sIf (notM (tB (bnd (eArgs [(eN 0)]) (callF 1 f_is_number []))))
  (sRaise0 "InvalidFraction")
  sNil)
def f_require_number : List D → Fd := fnD 0 b_require_number
def b_added : Ms :=
  (sQ (sIf (tB (chM (eD (e2 (eN 0) (eD (ret (.int 1))) (f2 ixD))) (eD (e2 (eN 1) (eD (ret (.int 1))) (f2 ixD))) (eD (ret (.int 1))) eqD eqD))
  (sRet (eD (bnd (eArgs [(eD (e2 (eD (e2 (eN 0) (eD (ret (.int 0))) (f2 ixD))) (eD (e2 (eN 1) (eD (ret (.int 0))) (f2 ixD))) (f2 addD))), (eD (ret (.int 1)))]) tupM)))
  sNil)
  (sRet (eD (bnd (eArgs [(eD (e2 (eD (e2 (eD (e2 (eN 0) (eD (ret (.int 0))) (f2 ixD))) (eD (e2 (eN 1) (eD (ret (.int 1))) (f2 ixD))) (f2 mulY))) (eD (e2 (eD (e2 (eN 1) (eD (ret (.int 0))) (f2 ixD))) (eD (e2 (eN 0) (eD (ret (.int 1))) (f2 ixD))) (f2 mulY))) (f2 addD))), (eD (e2 (eD (e2 (eN 0) (eD (ret (.int 1))) (f2 ixD))) (eD (e2 (eN 1) (eD (ret (.int 1))) (f2 ixD))) (f2 mulY)))]) (callF 2 f_reduced [])))))
def f_added : List D → Fd := fnD 0 b_added
def b_multiplied : Ms :=
  (sQ (sIf (tB (chM (eD (e2 (eN 0) (eD (ret (.int 1))) (f2 ixD))) (eD (e2 (eN 1) (eD (ret (.int 1))) (f2 ixD))) (eD (ret (.int 1))) eqD eqD))
  (sRet (eD (bnd (eArgs [(eD (e2 (eD (e2 (eN 0) (eD (ret (.int 0))) (f2 ixD))) (eD (e2 (eN 1) (eD (ret (.int 0))) (f2 ixD))) (f2 mulY))), (eD (ret (.int 1)))]) tupM)))
  sNil)
  (sRet (eD (bnd (eArgs [(eD (e2 (eD (e2 (eN 0) (eD (ret (.int 0))) (f2 ixD))) (eD (e2 (eN 1) (eD (ret (.int 0))) (f2 ixD))) (f2 mulY))), (eD (e2 (eD (e2 (eN 0) (eD (ret (.int 1))) (f2 ixD))) (eD (e2 (eN 1) (eD (ret (.int 1))) (f2 ixD))) (f2 mulY)))]) (callF 2 f_reduced [])))))
def f_multiplied : List D → Fd := fnD 0 b_multiplied
def b_divided : Ms :=
  (sRet (eD (bnd (eArgs [(eD (e2 (eD (e2 (eN 0) (eD (ret (.int 0))) (f2 ixD))) (eD (e2 (eN 1) (eD (ret (.int 1))) (f2 ixD))) (f2 mulY))), (eD (e2 (eD (e2 (eN 0) (eD (ret (.int 1))) (f2 ixD))) (eD (e2 (eN 1) (eD (ret (.int 0))) (f2 ixD))) (f2 mulY)))]) (callF 2 f_reduced []))))
def f_divided : List D → Fd := fnD 0 b_divided
def b_law_some : Ms :=
  (sQ (sAsg (lstE (bnd (eArgs [(eD (ret .non)), (eD (ret (.bl true))), (eD (ret (.bl false))), (eD (ret (.int 0))), (eD (ret (.int 1))), (eD (e1 (eD (ret (.int 3))) (f1 negD))), (eD (e2 (eD (ret (.int 10))) (eD (ret (.int 45))) (f2 powD))), (eD (ret (.str (PySem.Str.ofString "a")))), (eD (ret (.str (PySem.Str.ofString "")))), (eD (ret (.str (PySem.Str.ofString "up.2")))), (eD (ret (.str (PySem.Str.ofString "2up")))), (eD (ret (.str (PySem.Str.ofString "Up")))), (eD (ret (.str (PySem.Str.ofString "a b")))), (eD (ret (.str (PySem.Str.ofString "abcdefghijkl")))), (eD (ret (.str (PySem.Str.ofString "abcdefghijklm"))))]) lstM)) (tName 1))
  (sQ (sAsg (e2 (eN 1) (eD (lstE (bnd (eArgs [(eD (bnd (eArgs []) tupM)), (eD (bnd (eArgs [(eD (ret (.int 0))), (eD (ret (.int 1)))]) tupM)), (eD (bnd (eArgs [(eD (ret (.int 1))), (eD (ret (.int 1)))]) tupM)), (eD (bnd (eArgs [(eD (ret (.int 2))), (eD (ret (.int 4)))]) tupM)), (eD (bnd (eArgs [(eD (ret (.int 0))), (eD (ret (.int 2)))]) tupM)), (eD (bnd (eArgs [(eD (ret (.int 1))), (eD (ret (.int 0)))]) tupM)), (eD (bnd (eArgs [(eD (ret (.int 1))), (eD (e1 (eD (ret (.int 2))) (f1 negD)))]) tupM)), (eD (bnd (eArgs [(eD (e1 (eD (ret (.int 1))) (f1 negD))), (eD (ret (.int 2)))]) tupM)), (eD (bnd (eArgs [(eD (ret (.bl true))), (eD (ret (.int 1)))]) tupM)), (eD (bnd (eArgs [(eD (ret (.int 1))), (eD (ret (.bl true)))]) tupM)), (eD (lstE (bnd (eArgs [(eD (ret (.int 1))), (eD (ret (.int 2)))]) lstM))), (eD (bnd (eArgs [(eD (ret (.int 1)))]) tupM))]) lstM))) (f2 addD)) (tName 1))
  (sQ (sAsg (e2 (eN 1) (eD (lstE (bnd (eArgs [(eD (bnd (eArgs [(eD (ret (.int 1))), (eD (ret (.int 2))), (eD (ret (.int 3)))]) tupM)), (eD (bnd (eArgs [(eD (e2 (eD (e2 (eD (ret (.int 10))) (eD (ret (.int 39))) (f2 powD))) (eD (ret (.int 1))) (f2 addD))), (eD (e2 (eD (ret (.int 10))) (eD (ret (.int 39))) (f2 powD)))]) tupM)), (eD (bnd (eArgs [(eD (bnd (eArgs [(eD (ret (.int 1))), (eD (ret (.int 1)))]) tupM)), (eD (ret (.int 1)))]) tupM)), (eD (bnd (eArgs [(eD (ret (.str (PySem.Str.ofString "1")))), (eD (ret (.int 1)))]) tupM)), (eD (bnd (eArgs [(eD (ret .non)), (eD (ret (.int 1)))]) tupM)), (eD (ret (.str (PySem.Str.ofString "1/2")))), (eD (bnd (ret (.dc [] [])) moD)), (eD (bnd (dispM [((ret (.int 1)), (ret (.int 2)))]) moD)), (eD (ret (.str (PySem.Str.ofString ".a")))), (eD (ret (.str (PySem.Str.ofString "a."))))]) lstM))) (f2 addD)) (tName 1))
  (sRet (eD (bnd (eArgs [(eN 0), (eN 1)]) (callM 2 f_law_pick [])))))))
def f_law_some : Mo → List D → Fm := fnM 1 b_law_some
def b_sum_of : Ms :=
  (sQ (sAsg (ret (D.tup [(D.int 0), (D.int 1)])) (tName 1))
  (sQ (sFor (bnd (eN 0) itM) (tName 2)
  (sAsg (bnd (eArgs [(eN 1), (eN 2)]) (callF 2 f_added [])) (tName 1)))
  (sRet (eN 1))))
def f_sum_of : List D → Fd := fnD 2 b_sum_of
def b_plus : Ms :=
  (sQ (sExp (bnd (eArgs [(eN 0)]) (callF 1 f_require_number [])))
  (sQ (sExp (bnd (eArgs [(eN 1)]) (callF 1 f_require_number [])))
  (sRet (eD (bnd (eArgs [(eN 0), (eN 1)]) (callF 2 f_added []))))))
def f_plus : List D → Fd := fnD 0 b_plus
def b_minus : Ms :=
  (sQ (sExp (bnd (eArgs [(eN 0)]) (callF 1 f_require_number [])))
  (sQ (sExp (bnd (eArgs [(eN 1)]) (callF 1 f_require_number [])))
  (sRet (eD (bnd (eArgs [(eN 0), (eD (bnd (eArgs [(eN 1)]) (callF 1 f_opposite [])))]) (callF 2 f_added []))))))
def f_minus : List D → Fd := fnD 0 b_minus
def b_times : Ms :=
  (sQ (sExp (bnd (eArgs [(eN 0)]) (callF 1 f_require_number [])))
  (sQ (sExp (bnd (eArgs [(eN 1)]) (callF 1 f_require_number [])))
  (sRet (eD (bnd (eArgs [(eN 0), (eN 1)]) (callF 2 f_multiplied []))))))
def f_times : List D → Fd := fnD 0 b_times
def b_over : Ms :=
  (sQ (sExp (bnd (eArgs [(eN 0)]) (callF 1 f_require_number [])))
  (sQ (sExp (bnd (eArgs [(eN 1)]) (callF 1 f_require_number [])))
  (sQ (sIf (tB (e2 (eN 1) (eD (ret (D.tup [(D.int 0), (D.int 1)]))) (f2 eqD)))
  (sRaiseS "Refused" "reason" (bnd (eArgs [(eD (ret (.str (PySem.Str.ofString "nought"))))]) tupM))
  sNil)
  (sRet (eD (bnd (eArgs [(eN 0), (eN 1)]) (callF 2 f_divided [])))))))
def f_over : List D → Fd := fnD 0 b_over
def b_compared : Ms :=
  (sQ (sExp (bnd (eArgs [(eN 0)]) (callF 1 f_require_number [])))
  (sQ (sExp (bnd (eArgs [(eN 1)]) (callF 1 f_require_number [])))
  (sQ (sPar 2 3 (eArgs [(eD (e2 (eD (e2 (eN 0) (eD (ret (.int 0))) (f2 ixD))) (eD (e2 (eN 1) (eD (ret (.int 1))) (f2 ixD))) (f2 mulY))), (eD (e2 (eD (e2 (eN 1) (eD (ret (.int 0))) (f2 ixD))) (eD (e2 (eN 0) (eD (ret (.int 1))) (f2 ixD))) (f2 mulY)))]))
  (sRet (eD (e2 (eD (bnd (eArgs [(eD (e2 (eN 2) (eN 3) (f2 gtD)))]) (apL intN))) (eD (bnd (eArgs [(eD (e2 (eN 2) (eN 3) (f2 ltY)))]) (apL intN))) (f2 subD)))))))
def f_compared : List D → Fd := fnD 2 b_compared
def b_power : Ms :=
  (sQ (sExp (bnd (eArgs [(eN 0)]) (callF 1 f_require_number [])))
  (sQ (sExp (bnd (eArgs [(eN 1)]) (callF 3 f_require_count [(D.int 0), (D.int 60)])))
  (sQ (sAsg (ret (D.tup [(D.int 1), (D.int 1)])) (tName 2))
  (sQ (sFor (bnd (eArgs [(eN 1)]) rng1) (tName 3)
  (sAsg (bnd (eArgs [(eN 2), (eN 0)]) (callF 2 f_multiplied [])) (tName 2)))
  (sRet (eN 2))))))
def f_power : List D → Fd := fnD 2 b_power
def b_total : Ms :=
  (sQ (sIf (orM (notM (tB (bnd (eArgs [(eN 0), (eD (ret (.ty "tuple")))]) (apL isiY)))) (notM (tB (bnd (eArgs [(eD (lstE (cmp [1] (bnd (eN 0) itM) (tName 1) yes (eD (bnd (eArgs [(eN 1)]) (callF 1 f_is_number []))))))]) (apL allN)))))
  (sRaise0 "InvalidFraction")
  sNil)
  (sRet (eD (bnd (eArgs [(eN 0)]) (callF 1 f_sum_of [])))))
def f_total : List D → Fd := fnD 1 b_total
def b_law_right : Ms :=
  (sQ (sAsg (bnd (eArgs [(eD (bnd (eArgs [(eN 0)]) (callM 1 f_law_some []))), (eD (bnd (eArgs [(eN 0)]) (callM 1 f_law_some [])))]) tupM) (tTup 2 (tCons (tName 5) (tCons (tName 6) tNil))))
  (sQ (sPar 7 8 (eArgs [(eD (ite' (tB (bnd (eArgs [(eN 5), (eD (ret (.ty "int")))]) (apL isiY))) (ofB (notM (tB (bnd (eArgs [(eN 5), (eD (ret (.ty "bool")))]) (apL isiY))))) (ret (.bl false)))), (eD (ofB (notM (tB (bnd (eArgs [(eN 5)]) (callF 1 f_law_is_number []))))))]))
  (sQ (sIf (tB (e2 (eD (bnd (eArgs [(eD (lstE (bnd (eArgs [(eD (bnd (eArgs [(eN 5)]) (callF 1 f_is_integer []))), (eD (bnd (eArgs [(eN 5)]) (callF 1 f_is_name []))), (eD (bnd (eArgs [(eN 5)]) (callF 1 f_is_number [])))]) lstM)))]) (apL reprM))) (eD (bnd (eArgs [(eD (lstE (bnd (eArgs [(eN 7), (eD (bnd (eArgs [(eN 5)]) (callF 1 f_law_is_name []))), (eD (ofB (notM (tB (eV (eN 8))))))]) lstM)))]) (apL reprM))) (f2 neD)))
  (sRet (eD (ret (.bl false))))
  sNil)
  (sQ (sAsg (bnd (eArgs [(eD (bnd (eArgs [(eD (ret (.int 3))), (eD (ret (.int 2)))]) tupM)), (eD (ite' (tB (eV (eN 8))) (ret (.str (PySem.Str.ofString "fraction"))) (ret (.str (PySem.Str.ofString "fine")))))]) tupM) (tTup 2 (tCons (tName 9) (tCons (tName 10) tNil))))
  (sQ (sAsg (lstE (bnd (eArgs [(eD (lamM (bnd (eArgs [(eN 5), (eN 6)]) (callF 2 f_plus [])) (wordF subT h_law_word (PySem.Str.ofString "fine")))), (eD (lamM (bnd (eArgs [(eN 9), (eN 5)]) (callF 2 f_minus [])) (wordF subT h_law_word (PySem.Str.ofString "fine"))))]) lstM)) (tName 1))
  (sQ (sAsg (e2 (eN 1) (eD (lstE (bnd (eArgs [(eD (lamM (bnd (eArgs [(eN 5), (eN 9)]) (callF 2 f_times [])) (wordF subT h_law_word (PySem.Str.ofString "fine")))), (eD (lamM (bnd (eArgs [(eN 9), (eN 5)]) (callF 2 f_compared [])) (wordF subT h_law_word (PySem.Str.ofString "fine"))))]) lstM))) (f2 addD)) (tName 1))
  (sQ (sNew 2 (lsM (e2 (eD (lstE (bnd (eArgs [(eD (ite' (andM (notM (tB (eV (eN 8)))) (tB (bnd (eArgs [(eN 6)]) (callF 1 f_law_is_number [])))) (ret (.str (PySem.Str.ofString "fine"))) (ret (.str (PySem.Str.ofString "fraction")))))]) lstM))) (eD (e2 (eD (lstE (bnd (eArgs [(eN 10)]) lstM))) (eD (ret (.int 3))) (f2 mulY))) catM)))
  (sQ (sAsg (e2 (eN 1) (eD (lstE (bnd (eArgs [(eD (lamM (bnd (eArgs [(eN 5), (eD (bnd (eArgs [(eD (ret (.int 0))), (eD (ret (.int 1)))]) tupM))]) (callF 2 f_over [])) (wordF subT h_law_word (PySem.Str.ofString "fine")))), (eD (lamM (bnd (eArgs [(eN 9), (eN 5)]) (callF 2 f_over [])) (wordF subT h_law_word (PySem.Str.ofString "fine"))))]) lstM))) (f2 addD)) (tName 1))
  (sQ (sNew 2 (lsM (e2 (eN 2) (eD (lstE (bnd (eArgs [(eD (ite' (tB (eV (eN 8))) (ret (.str (PySem.Str.ofString "fraction"))) (ret (.str (PySem.Str.ofString "refused ('nought',)")))))]) lstM))) catM)))
  (sQ (sApp 2 (eD (ite' (tB (e2 (eD (bnd (eArgs [(eN 5)]) (apL reprM))) (eD (ret (.str (PySem.Str.ofString "(0, 1)")))) (f2 eqD))) (ret (.str (PySem.Str.ofString "refused ('nought',)"))) (eV (eN 10)))))
  (sQ (sAsg (e2 (eN 1) (eD (lstE (bnd (eArgs [(eD (lamM (bnd (eArgs [(eD (bnd (eArgs [(eN 9), (eN 5)]) tupM))]) (callF 1 f_total [])) (wordF subT h_law_word (PySem.Str.ofString "fine")))), (eD (lamM (bnd (eArgs [(eN 5)]) (callF 1 f_total [])) (wordF subT h_law_word (PySem.Str.ofString "fine"))))]) lstM))) (f2 addD)) (tName 1))
  (sQ (sNew 2 (lsM (e2 (eN 2) (eD (lstE (bnd (eArgs [(eN 10), (eD (ite' (tB (e2 (eD (bnd (eArgs [(eN 5)]) (apL reprM))) (eD (ret (.str (PySem.Str.ofString "()")))) (f2 eqD))) (ret (.str (PySem.Str.ofString "fine"))) (ret (.str (PySem.Str.ofString "fraction")))))]) lstM))) catM)))
  (sQ (sAsg (e2 (eN 1) (eD (lstE (bnd (eArgs [(eD (lamM (bnd (eArgs [(eN 5), (eD (e1 (eD (ret (.int 1))) (f1 negD)))]) (callF 2 f_power [])) (wordF subT h_law_word (PySem.Str.ofString "fine")))), (eD (lamM (bnd (eArgs [(eN 9), (eN 5)]) (callF 2 f_power [])) (wordF subT h_law_word (PySem.Str.ofString "fine"))))]) lstM))) (f2 addD)) (tName 1))
  (sQ (sNew 2 (lsM (e2 (eN 2) (eD (lstE (bnd (eArgs [(eD (ite' (tB (eV (eN 8))) (ret (.str (PySem.Str.ofString "fraction"))) (ret (.str (PySem.Str.ofString "count -1")))))]) lstM))) catM)))
  (sQ (sApp 2 (eD (ite' (andM (tB (eV (eN 7))) (tB (chM (eD (ret (.int 0))) (eN 5) (eD (ret (.int 60))) leY leY))) (ret (.str (PySem.Str.ofString "fine"))) (e2 (eD (ret (.str (PySem.Str.ofString "count ")))) (eD (bnd (eArgs [(eN 5)]) (apL reprM))) (f2 addD)))))
  (sQ (sIf (tB (e2 (eN 1) (eN 2) (f2 neD)))
  (sRet (eD (ret (.bl false))))
  sNil)
  (sQ (sAsg (ite' (tB (eV (eN 7))) (e2 (eD (bnd (eArgs [(eN 5)]) (apL absN))) (eD (e2 (eD (ret (.int 10))) (eD (ret (.int 40))) (f2 powD))) (f2 ltY)) (ret (.bl false))) (tName 3))
  (sQ (sAsg (ite' (tB (bnd (eArgs [(eN 6), (eD (ret (.ty "int")))]) (apL isiY))) (ite' (tB (ofB (notM (tB (bnd (eArgs [(eN 6), (eD (ret (.ty "bool")))]) (apL isiY)))))) (ite' (tB (e2 (eD (bnd (eArgs [(eN 6)]) (apL absN))) (eD (e2 (eD (ret (.int 10))) (eD (ret (.int 40))) (f2 powD))) (f2 ltY))) (e2 (eN 6) (eD (ret (.int 0))) (f2 neD)) (ret (.bl false))) (ret (.bl false))) (ret (.bl false))) (tName 4))
  (sQ (sAsg (lstE (bnd (eArgs [(eD (lamM (bnd (eArgs [(eN 5), (eN 6)]) (callF 2 f_number [])) (wordF subT h_law_word (PySem.Str.ofString "fine")))), (eD (lamM (bnd (eArgs [(eD (ret (.int 4))), (eN 5)]) (callF 2 f_number [])) (wordF subT h_law_word (PySem.Str.ofString "fine"))))]) lstM)) (tName 1))
  (sQ (sAsg (ite' (notM (tB (eV (eN 3)))) (e2 (eD (ret (.str (PySem.Str.ofString "count ")))) (eD (bnd (eArgs [(eN 5)]) (apL reprM))) (f2 addD)) (ite' (tB (eV (eN 4))) (ret (.str (PySem.Str.ofString "fine"))) (e2 (eD (ret (.str (PySem.Str.ofString "count ")))) (eD (bnd (eArgs [(eN 6)]) (apL reprM))) (f2 addD)))) (tName 2))
  (sRet (eD (e2 (eN 1) (eD (lstE (bnd (eArgs [(eN 2), (eD (ite' (andM (tB (eV (eN 3))) (tB (e2 (eN 5) (eD (ret (.int 0))) (f2 neD)))) (ret (.str (PySem.Str.ofString "fine"))) (e2 (eD (ret (.str (PySem.Str.ofString "count ")))) (eD (bnd (eArgs [(eN 5)]) (apL reprM))) (f2 addD))))]) lstM))) (f2 eqD))))))))))))))))))))))))
def f_law_right : Mo → List D → Fm := fnM 10 b_law_right
def b_law : Ms :=
  (sQ (sFor (bnd (eArgs [(eD (bnd (eArgs [(eD (ret (.int 1))), (eD (bnd (eArgs [(eD (ret (.int 6))), (eD (bnd (eArgs [(eN 0)]) (apL lenN)))]) (apL minN)))]) (apL maxN)))]) rng1) (tName 1)
  (sQ (sNew 3 (bnd (eArgs [(eN 0), (eN 1)]) (callN 2 f_law_dice [])))
  (sFor (bnd (eArgs [(eD (ret (.int 8)))]) rng1) (tName 4)
  (sIf (notM (tB (bnd (eArgs [(eN 3)]) (callM 1 f_law_right []))))
  (sRet (eD (ret (.bl false))))
  sNil))))
  (sQ (sAsg (lstE (bnd (eArgs [(eD (lamM (bnd (eArgs [(eD (bnd (eArgs [(eD (ret (.int 1))), (eD (ret (.int 2)))]) tupM)), (eD (ret (.int 61)))]) (callF 2 f_power [])) (wordF subT h_law_word (PySem.Str.ofString "fine")))), (eD (lamM (bnd (eArgs [(eD (bnd (eArgs [(eD (ret (.int 1))), (eD (ret (.int 2)))]) tupM)), (eD (ret (.int 60)))]) (callF 2 f_power [])) (wordF subT h_law_word (PySem.Str.ofString "fine"))))]) lstM)) (tName 2))
  (sQ (sAsg (e2 (eN 2) (eD (lstE (bnd (eArgs [(eD (lamM (bnd (eArgs [(eD (lstE (bnd (eArgs [(eD (bnd (eArgs [(eD (ret (.int 1))), (eD (ret (.int 1)))]) tupM))]) lstM)))]) (callF 1 f_total [])) (wordF subT h_law_word (PySem.Str.ofString "fine")))), (eD (lamM (bnd (eArgs [(eD (ret (.int 1))), (eD (ret (.int 0)))]) (callF 2 f_number [])) (wordF subT h_law_word (PySem.Str.ofString "fine"))))]) lstM))) (f2 addD)) (tName 2))
  (sRet (eD (e2 (eN 2) (eD (lstE (bnd (eArgs [(eD (ret (.str (PySem.Str.ofString "count 61")))), (eD (ret (.str (PySem.Str.ofString "fine")))), (eD (ret (.str (PySem.Str.ofString "fraction")))), (eD (ret (.str (PySem.Str.ofString "count 0"))))]) lstM))) (f2 eqD)))))))
def f_law : List D → Fd := fnD 4 b_law
end
end MLaw

set_option maxHeartbeats 4000000
namespace MLaw
open PySem L2 Mir
abbrev prog : Program := PySem.Challenge.pw_keepersapart_k22_errors_and_judges_of_nu
def top (i : Nat) : Stmt := prog.main.body.getD i (.Pass ⟨0, 0, 0, 0⟩)
def d_is_integer : He.DefD := ⟨("is_integer", none), "is_integer", "is_integer", defArgs (top 13), defBody (top 13), defScope (top 13), [], []⟩
def d_is_name : He.DefD := ⟨("is_name", none), "is_name", "is_name", defArgs (top 14), defBody (top 14), defScope (top 14), [], []⟩
def d_common_divisor : He.DefD := ⟨("common_divisor", none), "common_divisor", "common_divisor", defArgs (top 15), defBody (top 15), defScope (top 15), [], []⟩
def d_is_number : He.DefD := ⟨("is_number", none), "is_number", "is_number", defArgs (top 16), defBody (top 16), defScope (top 16), [], []⟩
def d_reduced : He.DefD := ⟨("reduced", none), "reduced", "reduced", defArgs (top 17), defBody (top 17), defScope (top 17), [], []⟩
def d_number : He.DefD := ⟨("number", none), "number", "number", defArgs (top 18), defBody (top 18), defScope (top 18), [.int (1)], []⟩
def d_require_number : He.DefD := ⟨("require_number", none), "require_number", "require_number", defArgs (top 19), defBody (top 19), defScope (top 19), [], []⟩
def d_require_count : He.DefD := ⟨("require_count", none), "require_count", "require_count", defArgs (top 20), defBody (top 20), defScope (top 20), [.int (0), .int (60)], []⟩
def d_added : He.DefD := ⟨("added", none), "added", "added", defArgs (top 21), defBody (top 21), defScope (top 21), [], []⟩
def d_multiplied : He.DefD := ⟨("multiplied", none), "multiplied", "multiplied", defArgs (top 22), defBody (top 22), defScope (top 22), [], []⟩
def d_opposite : He.DefD := ⟨("opposite", none), "opposite", "opposite", defArgs (top 23), defBody (top 23), defScope (top 23), [], []⟩
def d_divided : He.DefD := ⟨("divided", none), "divided", "divided", defArgs (top 24), defBody (top 24), defScope (top 24), [], []⟩
def d_sum_of : He.DefD := ⟨("sum_of", none), "sum_of", "sum_of", defArgs (top 25), defBody (top 25), defScope (top 25), [], []⟩
def d_plus : He.DefD := ⟨("plus", none), "plus", "plus", defArgs (top 26), defBody (top 26), defScope (top 26), [], []⟩
def d_minus : He.DefD := ⟨("minus", none), "minus", "minus", defArgs (top 27), defBody (top 27), defScope (top 27), [], []⟩
def d_times : He.DefD := ⟨("times", none), "times", "times", defArgs (top 28), defBody (top 28), defScope (top 28), [], []⟩
def d_over : He.DefD := ⟨("over", none), "over", "over", defArgs (top 29), defBody (top 29), defScope (top 29), [], []⟩
def d_compared : He.DefD := ⟨("compared", none), "compared", "compared", defArgs (top 30), defBody (top 30), defScope (top 30), [], []⟩
def d_total : He.DefD := ⟨("total", none), "total", "total", defArgs (top 31), defBody (top 31), defScope (top 31), [], []⟩
def d_power : He.DefD := ⟨("power", none), "power", "power", defArgs (top 32), defBody (top 32), defScope (top 32), [], []⟩
def d_law_dice : He.DefD := ⟨("_law_dice", none), "_law_dice", "_law_dice", defArgs (top 34), defBody (top 34), defScope (top 34), [], []⟩
def d_law_roll : He.DefD := ⟨("_law_roll", none), "_law_roll", "_law_roll", defArgs (top 35), defBody (top 35), defScope (top 35), [], []⟩
def d_law_pick : He.DefD := ⟨("_law_pick", none), "_law_pick", "_law_pick", defArgs (top 36), defBody (top 36), defScope (top 36), [], []⟩
def d_law_fr : He.DefD := ⟨("_law_fr", none), "_law_fr", "_law_fr", defArgs (top 37), defBody (top 37), defScope (top 37), [], []⟩
def d_law_is_number : He.DefD := ⟨("_law_is_number", none), "_law_is_number", "_law_is_number", defArgs (top 38), defBody (top 38), defScope (top 38), [], []⟩
def d_law_word : He.DefD := ⟨("_law_word", none), "_law_word", "_law_word", defArgs (top 39), defBody (top 39), defScope (top 39), [], []⟩
def d_law_is_name : He.DefD := ⟨("_law_is_name", none), "_law_is_name", "_law_is_name", defArgs (top 40), defBody (top 40), defScope (top 40), [], []⟩
def d_law_some : He.DefD := ⟨("_law_some", none), "_law_some", "_law_some", defArgs (top 41), defBody (top 41), defScope (top 41), [], []⟩
def d_law_right : He.DefD := ⟨("_law_right", none), "_law_right", "_law_right", defArgs (top 42), defBody (top 42), defScope (top 42), [], []⟩
def d_law : He.DefD := ⟨("law", none), "law", "law", defArgs (top 43), defBody (top 43), defScope (top 43), [], []⟩
def fn : List He.DefD := ([d_is_integer, d_is_name, d_common_divisor, d_is_number, d_reduced, d_number, d_require_number, d_require_count, d_added, d_multiplied, d_opposite, d_divided] : List He.DefD) ++ ([d_sum_of, d_plus, d_minus, d_times, d_over, d_compared, d_total, d_power, d_law_dice, d_law_roll, d_law_pick, d_law_fr] : List He.DefD) ++ ([d_law_is_number, d_law_word, d_law_is_name, d_law_some, d_law_right, d_law] : List He.DefD)
def i_InvalidCount : IniD := ⟨"InvalidCount", "InvalidCount.__init__", defArgs (inClass (top 3) 0), defBody (inClass (top 3) 0), defScope (inClass (top 3) 0)⟩
def i_Refused : IniD := ⟨"Refused", "Refused.__init__", defArgs (inClass (top 4) 0), defBody (inClass (top 4) 0), defScope (inClass (top 4) 0)⟩
def ini : List IniD := [i_InvalidCount, i_Refused]
def fa : List He.Fa := ([.glo "is_integer", .glo "is_name", .glo "common_divisor", .glo "is_number", .glo "reduced", .glo "number", .glo "require_number", .glo "require_count", .glo "added", .glo "multiplied", .glo "opposite", .glo "divided"] : List He.Fa) ++ ([.glo "sum_of", .glo "plus", .glo "minus", .glo "times", .glo "over", .glo "compared", .glo "total", .glo "power", .glo "_law_dice", .glo "_law_roll", .glo "_law_pick", .glo "_law_fr"] : List He.Fa) ++ ([.glo "_law_is_number", .glo "_law_word", .glo "_law_is_name", .glo "_law_some", .glo "_law_right", .glo "law", .free "abs", .free "all", .free "bool", .free "int", .free "isinstance", .free "len"] : List He.Fa) ++ ([.free "max", .free "min", .free "range", .free "repr", .free "str", .free "tuple", .free "super", .glo "WorksError", .glo "InvalidFraction", .glo "InvalidCount", .glo "Refused", .glo "NOUGHT"] : List He.Fa) ++ ([.glo "ONE", .int "MAX_LETTERS" (12), .int "MAX_COUNT" (60), .int "MOST_PASSED" (10000000000000000000000000000000000000000), .str "LETTERS" (PySem.Str.ofString "abcdefghijklmnopqrstuvwxyz"), .str "SIGNS" (PySem.Str.ofString "abcdefghijklmnopqrstuvwxyz0123456789.")] : List He.Fa)
def exs (K : PySem.W.Frag) : List Bool := ([He.tupB K "NOUGHT" [.int (0), .int (1)], He.tupB K "ONE" [.int (1), .int (1)], plainB K "WorksError" (valueMro) "ValueError.__new__", plainB K "InvalidFraction" (valueMro) "ValueError.__new__", supB K prog.main.file "InvalidCount" "IndexError" "IndexError.__init__" "IndexError" "IndexError.__new__" (indexMro) "given" "InvalidCount.__init__", supB K prog.main.file "Refused" "ArithmeticError" "ArithmeticError.__init__" "ArithmeticError" "ArithmeticError.__new__" (arithMro) "reason" "Refused.__init__"] : List Bool) ++ ([xfB K (He.ga K "InvalidCount"), (PySem.W.findIn K (.ref (He.ga K "InvalidCount")) "given" == some none), xfB K (He.ga K "Refused"), (PySem.W.findIn K (.ref (He.ga K "Refused")) "reason" == some none), subOk K subT] : List Bool)
def ex (K : PySem.W.Frag) : Bool := (exs K).all id
theorem exs_at {K : PySem.W.Frag} (h : ex K = true) (i : Nat) {b : Bool} (e : (exs K)[i]? = some b) : b = true := List.all_eq_true.mp h b (List.mem_of_getElem? e)
def tf : List He.Defn := [("_law_right", none), ("law", none)]
def cs (K : PySem.W.Frag) : List (Addr × Addr) := tf.map (He.cT K)
def TT (K : PySem.W.Frag) : List Addr := tf.map fun p => (He.cT K p).2
theorem cs_at {K : PySem.W.Frag} (i : Nat) {p : He.Defn} (e : tf[i]? = some p) : He.cT K p ∈ cs K := List.mem_map_of_mem (List.mem_of_getElem? e)
theorem tt_at {K : PySem.W.Frag} (i : Nat) {p : He.Defn} (e : tf[i]? = some p) : (He.cT K p).2 ∈ TT K := List.mem_map_of_mem (List.mem_of_getElem? e)
structure Txt (P : Program) (K : PySem.W.Frag) (mg : Str → Option Value) : Prop where
  c : He.SaysD fa fn K
  h : ∃ h : Heap, K.In h ∧ h.Ns mainGlobals mg
  ex : ex K = true
  i : (ini.map fun d => iniW K d.cls) = ini.map IniD.val
  p : P = prog
abbrev Tbs (K : PySem.W.Frag) (mg : Str → Option Value) (base : Heap) : Prop := ∀ p ∈ cs K, LamX.TabB base mg p.1 p.2
section
variable {P : Program} {K : PySem.W.Frag} {mg : Str → Option Value} (T : Txt P K mg)
include T
theorem g_is_integer : mg "is_integer" = some (.ref (He.ga K "is_integer")) := let ⟨_, X, G⟩ := T.h; He.glo_ok X G (T.c.fact 0 (f := .glo "is_integer") rfl)
theorem g_is_name : mg "is_name" = some (.ref (He.ga K "is_name")) := let ⟨_, X, G⟩ := T.h; He.glo_ok X G (T.c.fact 1 (f := .glo "is_name") rfl)
theorem g_common_divisor : mg "common_divisor" = some (.ref (He.ga K "common_divisor")) := let ⟨_, X, G⟩ := T.h; He.glo_ok X G (T.c.fact 2 (f := .glo "common_divisor") rfl)
theorem g_is_number : mg "is_number" = some (.ref (He.ga K "is_number")) := let ⟨_, X, G⟩ := T.h; He.glo_ok X G (T.c.fact 3 (f := .glo "is_number") rfl)
theorem g_reduced : mg "reduced" = some (.ref (He.ga K "reduced")) := let ⟨_, X, G⟩ := T.h; He.glo_ok X G (T.c.fact 4 (f := .glo "reduced") rfl)
theorem g_number : mg "number" = some (.ref (He.ga K "number")) := let ⟨_, X, G⟩ := T.h; He.glo_ok X G (T.c.fact 5 (f := .glo "number") rfl)
theorem g_require_number : mg "require_number" = some (.ref (He.ga K "require_number")) := let ⟨_, X, G⟩ := T.h; He.glo_ok X G (T.c.fact 6 (f := .glo "require_number") rfl)
theorem g_require_count : mg "require_count" = some (.ref (He.ga K "require_count")) := let ⟨_, X, G⟩ := T.h; He.glo_ok X G (T.c.fact 7 (f := .glo "require_count") rfl)
theorem g_added : mg "added" = some (.ref (He.ga K "added")) := let ⟨_, X, G⟩ := T.h; He.glo_ok X G (T.c.fact 8 (f := .glo "added") rfl)
theorem g_multiplied : mg "multiplied" = some (.ref (He.ga K "multiplied")) := let ⟨_, X, G⟩ := T.h; He.glo_ok X G (T.c.fact 9 (f := .glo "multiplied") rfl)
theorem g_opposite : mg "opposite" = some (.ref (He.ga K "opposite")) := let ⟨_, X, G⟩ := T.h; He.glo_ok X G (T.c.fact 10 (f := .glo "opposite") rfl)
theorem g_divided : mg "divided" = some (.ref (He.ga K "divided")) := let ⟨_, X, G⟩ := T.h; He.glo_ok X G (T.c.fact 11 (f := .glo "divided") rfl)
theorem g_sum_of : mg "sum_of" = some (.ref (He.ga K "sum_of")) := let ⟨_, X, G⟩ := T.h; He.glo_ok X G (T.c.fact 12 (f := .glo "sum_of") rfl)
theorem g_plus : mg "plus" = some (.ref (He.ga K "plus")) := let ⟨_, X, G⟩ := T.h; He.glo_ok X G (T.c.fact 13 (f := .glo "plus") rfl)
theorem g_minus : mg "minus" = some (.ref (He.ga K "minus")) := let ⟨_, X, G⟩ := T.h; He.glo_ok X G (T.c.fact 14 (f := .glo "minus") rfl)
theorem g_times : mg "times" = some (.ref (He.ga K "times")) := let ⟨_, X, G⟩ := T.h; He.glo_ok X G (T.c.fact 15 (f := .glo "times") rfl)
theorem g_over : mg "over" = some (.ref (He.ga K "over")) := let ⟨_, X, G⟩ := T.h; He.glo_ok X G (T.c.fact 16 (f := .glo "over") rfl)
theorem g_compared : mg "compared" = some (.ref (He.ga K "compared")) := let ⟨_, X, G⟩ := T.h; He.glo_ok X G (T.c.fact 17 (f := .glo "compared") rfl)
theorem g_total : mg "total" = some (.ref (He.ga K "total")) := let ⟨_, X, G⟩ := T.h; He.glo_ok X G (T.c.fact 18 (f := .glo "total") rfl)
theorem g_power : mg "power" = some (.ref (He.ga K "power")) := let ⟨_, X, G⟩ := T.h; He.glo_ok X G (T.c.fact 19 (f := .glo "power") rfl)
theorem g_law_dice : mg "_law_dice" = some (.ref (He.ga K "_law_dice")) := let ⟨_, X, G⟩ := T.h; He.glo_ok X G (T.c.fact 20 (f := .glo "_law_dice") rfl)
theorem g_law_roll : mg "_law_roll" = some (.ref (He.ga K "_law_roll")) := let ⟨_, X, G⟩ := T.h; He.glo_ok X G (T.c.fact 21 (f := .glo "_law_roll") rfl)
theorem g_law_pick : mg "_law_pick" = some (.ref (He.ga K "_law_pick")) := let ⟨_, X, G⟩ := T.h; He.glo_ok X G (T.c.fact 22 (f := .glo "_law_pick") rfl)
theorem g_law_fr : mg "_law_fr" = some (.ref (He.ga K "_law_fr")) := let ⟨_, X, G⟩ := T.h; He.glo_ok X G (T.c.fact 23 (f := .glo "_law_fr") rfl)
theorem g_law_is_number : mg "_law_is_number" = some (.ref (He.ga K "_law_is_number")) := let ⟨_, X, G⟩ := T.h; He.glo_ok X G (T.c.fact 24 (f := .glo "_law_is_number") rfl)
theorem g_law_word : mg "_law_word" = some (.ref (He.ga K "_law_word")) := let ⟨_, X, G⟩ := T.h; He.glo_ok X G (T.c.fact 25 (f := .glo "_law_word") rfl)
theorem g_law_is_name : mg "_law_is_name" = some (.ref (He.ga K "_law_is_name")) := let ⟨_, X, G⟩ := T.h; He.glo_ok X G (T.c.fact 26 (f := .glo "_law_is_name") rfl)
theorem g_law_some : mg "_law_some" = some (.ref (He.ga K "_law_some")) := let ⟨_, X, G⟩ := T.h; He.glo_ok X G (T.c.fact 27 (f := .glo "_law_some") rfl)
theorem g_law_right : mg "_law_right" = some (.ref (He.ga K "_law_right")) := let ⟨_, X, G⟩ := T.h; He.glo_ok X G (T.c.fact 28 (f := .glo "_law_right") rfl)
theorem g_law : mg "law" = some (.ref (He.ga K "law")) := let ⟨_, X, G⟩ := T.h; He.glo_ok X G (T.c.fact 29 (f := .glo "law") rfl)
theorem g_WorksError : mg "WorksError" = some (.ref (He.ga K "WorksError")) := let ⟨_, X, G⟩ := T.h; He.glo_ok X G (T.c.fact 43 (f := .glo "WorksError") rfl)
theorem g_InvalidFraction : mg "InvalidFraction" = some (.ref (He.ga K "InvalidFraction")) := let ⟨_, X, G⟩ := T.h; He.glo_ok X G (T.c.fact 44 (f := .glo "InvalidFraction") rfl)
theorem g_InvalidCount : mg "InvalidCount" = some (.ref (He.ga K "InvalidCount")) := let ⟨_, X, G⟩ := T.h; He.glo_ok X G (T.c.fact 45 (f := .glo "InvalidCount") rfl)
theorem g_Refused : mg "Refused" = some (.ref (He.ga K "Refused")) := let ⟨_, X, G⟩ := T.h; He.glo_ok X G (T.c.fact 46 (f := .glo "Refused") rfl)
theorem g_abs : mg "abs" = none := let ⟨_, X, G⟩ := T.h; He.free_ok X G (T.c.fact 30 (f := .free "abs") rfl)
theorem g_all : mg "all" = none := let ⟨_, X, G⟩ := T.h; He.free_ok X G (T.c.fact 31 (f := .free "all") rfl)
theorem g_bool : mg "bool" = none := let ⟨_, X, G⟩ := T.h; He.free_ok X G (T.c.fact 32 (f := .free "bool") rfl)
theorem g_int : mg "int" = none := let ⟨_, X, G⟩ := T.h; He.free_ok X G (T.c.fact 33 (f := .free "int") rfl)
theorem g_isinstance : mg "isinstance" = none := let ⟨_, X, G⟩ := T.h; He.free_ok X G (T.c.fact 34 (f := .free "isinstance") rfl)
theorem g_len : mg "len" = none := let ⟨_, X, G⟩ := T.h; He.free_ok X G (T.c.fact 35 (f := .free "len") rfl)
theorem g_max : mg "max" = none := let ⟨_, X, G⟩ := T.h; He.free_ok X G (T.c.fact 36 (f := .free "max") rfl)
theorem g_min : mg "min" = none := let ⟨_, X, G⟩ := T.h; He.free_ok X G (T.c.fact 37 (f := .free "min") rfl)
theorem g_range : mg "range" = none := let ⟨_, X, G⟩ := T.h; He.free_ok X G (T.c.fact 38 (f := .free "range") rfl)
theorem g_repr : mg "repr" = none := let ⟨_, X, G⟩ := T.h; He.free_ok X G (T.c.fact 39 (f := .free "repr") rfl)
theorem g_str : mg "str" = none := let ⟨_, X, G⟩ := T.h; He.free_ok X G (T.c.fact 40 (f := .free "str") rfl)
theorem g_tuple : mg "tuple" = none := let ⟨_, X, G⟩ := T.h; He.free_ok X G (T.c.fact 41 (f := .free "tuple") rfl)
theorem g_super : mg "super" = none := let ⟨_, X, G⟩ := T.h; He.free_ok X G (T.c.fact 42 (f := .free "super") rfl)
theorem g_NOUGHT : mg "NOUGHT" = some (.ref (He.ga K "NOUGHT")) := let ⟨_, X, G⟩ := T.h; He.glo_ok X G (T.c.fact 47 (f := .glo "NOUGHT") rfl)
theorem g_ONE : mg "ONE" = some (.ref (He.ga K "ONE")) := let ⟨_, X, G⟩ := T.h; He.glo_ok X G (T.c.fact 48 (f := .glo "ONE") rfl)
theorem g_MAX_LETTERS : ∃ t, mg "MAX_LETTERS" = some (.int (12) t) := let ⟨_, X, G⟩ := T.h; He.int_ok X G (T.c.fact 49 (f := .int "MAX_LETTERS" (12)) rfl)
theorem g_MAX_COUNT : ∃ t, mg "MAX_COUNT" = some (.int (60) t) := let ⟨_, X, G⟩ := T.h; He.int_ok X G (T.c.fact 50 (f := .int "MAX_COUNT" (60)) rfl)
theorem g_MOST_PASSED : ∃ t, mg "MOST_PASSED" = some (.int (10000000000000000000000000000000000000000) t) := let ⟨_, X, G⟩ := T.h; He.int_ok X G (T.c.fact 51 (f := .int "MOST_PASSED" (10000000000000000000000000000000000000000)) rfl)
theorem g_LETTERS : ∃ t, mg "LETTERS" = some (.str (PySem.Str.ofString "abcdefghijklmnopqrstuvwxyz") t) := let ⟨_, X, G⟩ := T.h; He.str_ok X G (T.c.fact 52 (f := .str "LETTERS" (PySem.Str.ofString "abcdefghijklmnopqrstuvwxyz")) rfl)
theorem g_SIGNS : ∃ t, mg "SIGNS" = some (.str (PySem.Str.ofString "abcdefghijklmnopqrstuvwxyz0123456789.") t) := let ⟨_, X, G⟩ := T.h; He.str_ok X G (T.c.fact 53 (f := .str "SIGNS" (PySem.Str.ofString "abcdefghijklmnopqrstuvwxyz0123456789.")) rfl)
theorem t_NOUGHT (H : Hp) : SqT K H (He.ga K "NOUGHT") [V.int (0), V.int (1)] := He.tupB_ok (vs := [.int (0), .int (1)]) (exs_at T.ex 0 rfl) H
theorem t_ONE (H : Hp) : SqT K H (He.ga K "ONE") [V.int (1), V.int (1)] := He.tupB_ok (vs := [.int (1), .int (1)]) (exs_at T.ex 1 rfl) H
theorem pl_WorksError : plainB K "WorksError" (valueMro) "ValueError.__new__" = true := exs_at T.ex 2 rfl
theorem pl_InvalidFraction : plainB K "InvalidFraction" (valueMro) "ValueError.__new__" = true := exs_at T.ex 3 rfl
theorem sk_InvalidCount {w : World} {base : Heap} : SupK P w K mg base "InvalidCount" "given" := by
  obtain rfl := T.p
  obtain ⟨fd, S⟩ := supC_of (prog := prog) (x := "InvalidCount") (d := i_InvalidCount) (f := "given") rfl (exs_at T.ex 4 rfl) (ini_at T.i 0 rfl) ini_IndexError ⟨_, _, PySem.F.excBase_IndexError⟩ (g_super T) (by kernel_rfl)
  have FG := sup_ok (P := prog) (w := w) (base := base) (k := 0) (tx := Tx K) S (NdefX.nscope_by (by decide +kernel)) ⟨_, rfl, rfl⟩ rfl rfl (by decide) (fun F A outer s H E hF hr hg hq => by
    obtain ⟨tJ, h1, h2⟩ := text_rear (c := (PySem.Str.ofString " is given")) (X := NdefX.ncx (L2.CX prog w) prog w K mg base ["self", "given", "__class__"] F _ A outer s H E) (f := "given") hg (Room.u200 hr) hq (by decide) rfl (.inl (by show F.scope.names.lookup _ = _; rw [hF]; rfl)) (by decide) (by decide)
    exact ⟨tJ, h1, fun a v w1 Q t q => h2 a v H w1 Q t q⟩) ⟨_, fun _ => rfl⟩ (fun _ => rfl) (fun _ => rfl) (by decide) (by decide) (fun _ => rfl)
  exact ⟨⟨_, _, _, _, _, _, _, _, _, _, _, S, FG, sup_binds S (fun _ _ _ _ _ us hl => match us, hl with | [_, _], _ => rfl)⟩, g_InvalidCount T⟩
theorem sk_Refused {w : World} {base : Heap} : SupK P w K mg base "Refused" "reason" := by
  obtain rfl := T.p
  obtain ⟨fd, S⟩ := supC_of (prog := prog) (x := "Refused") (d := i_Refused) (f := "reason") rfl (exs_at T.ex 5 rfl) (ini_at T.i 1 rfl) ini_ArithmeticError ⟨_, _, PySem.F.excBase_ArithmeticError⟩ (g_super T) (by kernel_rfl)
  have FG := sup_ok (P := prog) (w := w) (base := base) (k := 0) (tx := Tx K) S (NdefX.nscope_by (by decide +kernel)) ⟨_, rfl, rfl⟩ rfl rfl (by decide) (fun F A outer s H E hF hr hg hq => by
    obtain ⟨tJ, h1, h2⟩ := text_fore (c := (PySem.Str.ofString "refused: ")) (X := NdefX.ncx (L2.CX prog w) prog w K mg base ["self", "reason", "__class__"] F _ A outer s H E) (f := "reason") hg (Room.u200 hr) hq (by decide) rfl (.inl (by show F.scope.names.lookup _ = _; rw [hF]; rfl)) (by decide) (by decide)
    exact ⟨tJ, h1, fun a v w1 Q t q => h2 a v H w1 Q t q⟩) ⟨_, fun _ => rfl⟩ (fun _ => rfl) (fun _ => rfl) (by decide) (by decide) (fun _ => rfl)
  exact ⟨⟨_, _, _, _, _, _, _, _, _, _, _, S, FG, sup_binds S (fun _ _ _ _ _ us hl => match us, hl with | [_, _], _ => rfl)⟩, g_Refused T⟩
omit T in
theorem sc_law_word : FnScope ["call", "error"] ["call"] (defScope (top 39)) := ⟨rfl, rfl, rfl, by decide +kernel, rfl, by decide +kernel, by decide +kernel⟩
theorem wd_law_word {w : World} {base : Heap} : WordS P w K mg base "_law_word" subT h_law_word (PySem.Str.ofString "fine") := by
  obtain ⟨fd, F⟩ := T.c.def_ 25 (d := d_law_word) rfl
  exact ⟨⟨_, fd, _, _, _, _, ["call", "error"], "call", _, _, _, _, _, _, _, F, g_law_word T, F.bindsN (fun _ _ _ _ _ _ us hl => match us, hl with | [_], _ => rfl), sc_law_word, rfl, .inl rfl, by decide, by decide, fun cdv A outer s H E => ⟨(.plain rfl (by decide) (g_InvalidFraction T) (.shown (i := 1) rfl (by decide) (g_InvalidCount T) rfl rfl (.inl rfl) (by decide) (by decide) (show (1 : Nat) < 2 by decide) (L2.xfB_ok (exs_at T.ex 6 rfl)) (beq_iff_eq.mp (exs_at T.ex 7 rfl)) rfl rfl (g_repr T) (.shown (i := 1) rfl (by decide) (g_Refused T) rfl rfl (.inl rfl) (by decide) (by decide) (show (1 : Nat) < 2 by decide) (L2.xfB_ok (exs_at T.ex 8 rfl)) (beq_iff_eq.mp (exs_at T.ex 9 rfl)) rfl rfl (g_repr T) .nil))), rfl⟩⟩, exs_at T.ex 10 rfl⟩
end
theorem r_NOUGHT {K : PySem.W.Frag} (ms : Addr → Prop) (H : Hp) : RepL K ms H [V.int (0), V.int (1)] [D.int (0), D.int (1)] := (.cons (.int _) (.cons (.int _) .nil))
theorem r_ONE {K : PySem.W.Frag} (ms : Addr → Prop) (H : Hp) : RepL K ms H [V.int (1), V.int (1)] [D.int (1), D.int (1)] := (.cons (.int _) (.cons (.int _) .nil))
end MLaw

set_option maxHeartbeats 4000000
namespace MLaw
open PySem L2 Mir
theorem sc_is_integer : FnScope ["value"] ["value"] (defScope (top 13)) := ⟨rfl, rfl, rfl, by decide +kernel, rfl, by decide +kernel, by decide +kernel⟩
theorem body_is_integer {P : Program} {w : World} {K : PySem.W.Frag} {mg : Str → Option Value} {base : Heap} (T : Txt P K mg) (B : Tbs K mg base) {fd : FuncData} (F : FunD K d_is_integer.name d_is_integer.qual d_is_integer.params d_is_integer.body d_is_integer.scope (d_is_integer.dvs K) (d_is_integer.kws K) (He.fAd K ("is_integer", none)) fd) : FnG P w K mg base (TT K) (L2.CX P w) 2 (He.fAd K ("is_integer", none)) fd ["value"] (spD K 1 f_is_integer) := by
  refine def_okD (N := ["value"]) (ps := ["value"]) F sc_is_integer rfl fun cdv A0 outer0 s0 H0 E0 pa ca gd hr => ?_
  have tk := takes_of (X := dcx P w K mg base ["value"] d_is_integer.qual d_is_integer.scope (He.fAd K ("is_integer", none)) cdv A0 outer0 s0 H0 E0) (E := E0) rfl rfl rfl rfl
  have hp := passes_of (X := dcx P w K mg base ["value"] d_is_integer.qual d_is_integer.scope (He.fAd K ("is_integer", none)) cdv A0 outer0 s0 H0 E0) rfl
  exact (rss_one (rs_ret (ro_re (re_and (re_callB call_isi on_isiY rfl (g_isinstance T) (by decide +kernel) (ra_cons (ro_name (i := 0) rfl (.inl rfl)) (ra_cons (ro_re (re_bty (g_int T) (by decide +kernel))) ra_nil))) (re_one (re_not (re_callB call_isi on_isiY rfl (g_isinstance T) (by decide +kernel) (ra_cons (ro_name (i := 0) rfl (.inl rfl)) (ra_cons (ro_re (re_bty (g_bool T) (by decide +kernel))) ra_nil)))))))))
theorem ok_is_integer {P : Program} {w : World} {K : PySem.W.Frag} {mg : Str → Option Value} {base : Heap} (T : Txt P K mg) (B : Tbs K mg base) : CalD P w K mg base (TT K) 2 "is_integer" 1 f_is_integer [] := by
  obtain ⟨fd, F⟩ := T.c.def_ 0 (d := d_is_integer) rfl
  exact CalD.mk0 F (g_is_integer T) (body_is_integer T B F) (fun _ _ _ _ _ _ us hl => match us, hl with | [_], _ => rfl)
theorem sc_is_name : FnScope ["value", "sign"] ["value"] (defScope (top 14)) := ⟨rfl, rfl, rfl, by decide +kernel, rfl, by decide +kernel, by decide +kernel⟩
theorem body_is_name {P : Program} {w : World} {K : PySem.W.Frag} {mg : Str → Option Value} {base : Heap} (T : Txt P K mg) (B : Tbs K mg base) {fd : FuncData} (F : FunD K d_is_name.name d_is_name.qual d_is_name.params d_is_name.body d_is_name.scope (d_is_name.dvs K) (d_is_name.kws K) (He.fAd K ("is_name", none)) fd) : FnG P w K mg base (TT K) (L2.CX P w) 2 (He.fAd K ("is_name", none)) fd ["value"] (spD K 1 f_is_name) := by
  refine def_okD (N := ["value", "sign"]) (ps := ["value"]) F sc_is_name rfl fun cdv A0 outer0 s0 H0 E0 pa ca gd hr => ?_
  have tk := takes_of (X := dcx P w K mg base ["value", "sign"] d_is_name.qual d_is_name.scope (He.fAd K ("is_name", none)) cdv A0 outer0 s0 H0 E0) (E := E0) rfl rfl rfl rfl
  have hp := passes_of (X := dcx P w K mg base ["value", "sign"] d_is_name.qual d_is_name.scope (He.fAd K ("is_name", none)) cdv A0 outer0 s0 H0 E0) rfl
  exact (rss_cons (rs_if (rt_rw (rw_or (rt_not (rt_val (re_callB call_isi on_isiY rfl (g_isinstance T) (by decide +kernel) (ra_cons (ro_name (i := 0) rfl (.inl rfl)) (ra_cons (ro_re (re_bty (g_str T) (by decide +kernel))) ra_nil))))) (rw_or (rt_not (rt_chain op_leY op_leY o2_leY o2_leY (ro_re re_int) (ro_re (re_callB call_len on_len rfl (g_len T) (by decide +kernel) (ra_cons (ro_name (i := 0) rfl (.inl rfl)) ra_nil))) (ro_re (re_intK (g_MAX_LETTERS T))))) (rw_or1 (rt_cmp op_notIn_sign o2_ninY (ro_re (re_ix ix_X o2_ix (ro_name (i := 0) rfl (.inl rfl)) (ro_re re_int) fun _ _ => rfl)) (ro_re (re_strK (g_LETTERS T))) rfl)))))
  (rss_one (rs_ret (ro_re re_bl)))
  rss_nil)
  (rss_one (rs_ret (ro_re (re_callB (cr_all rfl) on_all rfl (g_all T) (by decide +kernel) (ra_cons (ro_re (re_rn (rn_lc (own := [("sign", 1)]) (is := [1]) rfl sc_is_name.nd (ri_any (ro_name (i := 0) rfl (.inl rfl))) (blkOk_by rfl) (by decide) (fun _ _ _ _ _ => (rg_name (i := 1) sc_is_name.nd rfl (.inl rfl))) (fun _ _ _ _ _ => rts_nil) (fun _ _ _ _ _ => (ro_re (re_cmp op_in_sign o2_inY (ro_name (i := 1) rfl (.inl rfl)) (ro_re (re_strK (g_SIGNS T))) rfl)))))) ra_nil))))))
theorem ok_is_name {P : Program} {w : World} {K : PySem.W.Frag} {mg : Str → Option Value} {base : Heap} (T : Txt P K mg) (B : Tbs K mg base) : CalD P w K mg base (TT K) 2 "is_name" 1 f_is_name [] := by
  obtain ⟨fd, F⟩ := T.c.def_ 1 (d := d_is_name) rfl
  exact CalD.mk0 F (g_is_name T) (body_is_name T B F) (fun _ _ _ _ _ _ us hl => match us, hl with | [_], _ => rfl)
theorem sc_common_divisor : FnScope ["one", "other"] ["one", "other"] (defScope (top 15)) := ⟨rfl, rfl, rfl, by decide +kernel, rfl, by decide +kernel, by decide +kernel⟩
theorem body_common_divisor {P : Program} {w : World} {K : PySem.W.Frag} {mg : Str → Option Value} {base : Heap} (T : Txt P K mg) (B : Tbs K mg base) {fd : FuncData} (F : FunD K d_common_divisor.name d_common_divisor.qual d_common_divisor.params d_common_divisor.body d_common_divisor.scope (d_common_divisor.dvs K) (d_common_divisor.kws K) (He.fAd K ("common_divisor", none)) fd) : FnG P w K mg base (TT K) (L2.CX P w) 2 (He.fAd K ("common_divisor", none)) fd ["one", "other"] (spD K 2 f_common_divisor) := by
  refine def_okD (N := ["one", "other"]) (ps := ["one", "other"]) F sc_common_divisor rfl fun cdv A0 outer0 s0 H0 E0 pa ca gd hr => ?_
  have tk := takes_of (X := dcx P w K mg base ["one", "other"] d_common_divisor.qual d_common_divisor.scope (He.fAd K ("common_divisor", none)) cdv A0 outer0 s0 H0 E0) (E := E0) rfl rfl rfl rfl
  have hp := passes_of (X := dcx P w K mg base ["one", "other"] d_common_divisor.qual d_common_divisor.scope (He.fAd K ("common_divisor", none)) cdv A0 outer0 s0 H0 E0) rfl
  exact (rss_cons (rs_par (i := 0) (j := 1) rfl sc_common_divisor.nd rfl rfl (by decide) rfl rfl (ra_cons (ro_re (re_callB call_abs on_abs rfl (g_abs T) (by decide +kernel) (ra_cons (ro_name (i := 0) rfl (.inl rfl)) ra_nil))) (ra_cons (ro_re (re_callB call_abs on_abs rfl (g_abs T) (by decide +kernel) (ra_cons (ro_name (i := 1) rfl (.inl rfl)) ra_nil))) ra_nil)) rfl)
  (rss_cons (rs_whileF hp (rt_cmp op_gt o2_gt (ro_name (i := 1) rfl (.inl rfl)) (ro_re re_int) (nomark _))
  (rss_one (rs_par (i := 0) (j := 1) rfl sc_common_divisor.nd rfl rfl (by decide) rfl rfl (ra_cons (ro_name (i := 1) rfl (.inl rfl)) (ra_cons (ro_re (re_bin op_modN o2_mod (ro_name (i := 0) rfl (.inl rfl)) (ro_name (i := 1) rfl (.inl rfl)))) ra_nil)) rfl)))
  (rss_one (rs_ret (ro_name (i := 0) rfl (.inl rfl))))))
theorem ok_common_divisor {P : Program} {w : World} {K : PySem.W.Frag} {mg : Str → Option Value} {base : Heap} (T : Txt P K mg) (B : Tbs K mg base) : CalD P w K mg base (TT K) 2 "common_divisor" 2 f_common_divisor [] := by
  obtain ⟨fd, F⟩ := T.c.def_ 2 (d := d_common_divisor) rfl
  exact CalD.mk0 F (g_common_divisor T) (body_common_divisor T B F) (fun _ _ _ _ _ _ us hl => match us, hl with | [_, _], _ => rfl)
theorem sc_opposite : FnScope ["one"] ["one"] (defScope (top 23)) := ⟨rfl, rfl, rfl, by decide +kernel, rfl, by decide +kernel, by decide +kernel⟩
theorem body_opposite {P : Program} {w : World} {K : PySem.W.Frag} {mg : Str → Option Value} {base : Heap} (T : Txt P K mg) (B : Tbs K mg base) {fd : FuncData} (F : FunD K d_opposite.name d_opposite.qual d_opposite.params d_opposite.body d_opposite.scope (d_opposite.dvs K) (d_opposite.kws K) (He.fAd K ("opposite", none)) fd) : FnG P w K mg base (TT K) (L2.CX P w) 2 (He.fAd K ("opposite", none)) fd ["one"] (spD K 1 f_opposite) := by
  refine def_okD (N := ["one"]) (ps := ["one"]) F sc_opposite rfl fun cdv A0 outer0 s0 H0 E0 pa ca gd hr => ?_
  have tk := takes_of (X := dcx P w K mg base ["one"] d_opposite.qual d_opposite.scope (He.fAd K ("opposite", none)) cdv A0 outer0 s0 H0 E0) (E := E0) rfl rfl rfl rfl
  have hp := passes_of (X := dcx P w K mg base ["one"] d_opposite.qual d_opposite.scope (He.fAd K ("opposite", none)) cdv A0 outer0 s0 H0 E0) rfl
  exact (rss_one (rs_ret (ro_re (re_tup (ra_cons (ro_re (re_bin op_sub o2_sub (ro_re re_int) (ro_re (re_ix ix_X o2_ix (ro_name (i := 0) rfl (.inl rfl)) (ro_re re_int) fun _ _ => rfl)))) (ra_cons (ro_re (re_ix ix_X o2_ix (ro_name (i := 0) rfl (.inl rfl)) (ro_re re_int) fun _ _ => rfl)) ra_nil))))))
theorem ok_opposite {P : Program} {w : World} {K : PySem.W.Frag} {mg : Str → Option Value} {base : Heap} (T : Txt P K mg) (B : Tbs K mg base) : CalD P w K mg base (TT K) 2 "opposite" 1 f_opposite [] := by
  obtain ⟨fd, F⟩ := T.c.def_ 10 (d := d_opposite) rfl
  exact CalD.mk0 F (g_opposite T) (body_opposite T B F) (fun _ _ _ _ _ _ us hl => match us, hl with | [_], _ => rfl)
theorem sc_law_dice : FnScope ["script", "spot", "cell", "great", "seed"] ["script", "spot"] (defScope (top 34)) := ⟨rfl, rfl, rfl, by decide +kernel, rfl, by decide +kernel, by decide +kernel⟩
theorem body_law_dice {P : Program} {w : World} {K : PySem.W.Frag} {mg : Str → Option Value} {base : Heap} (T : Txt P K mg) (B : Tbs K mg base) {fd : FuncData} (F : FunD K d_law_dice.name d_law_dice.qual d_law_dice.params d_law_dice.body d_law_dice.scope (d_law_dice.dvs K) (d_law_dice.kws K) (He.fAd K ("_law_dice", none)) fd) : FnG P w K mg base (TT K) (L2.CX P w) 2 (He.fAd K ("_law_dice", none)) fd ["script", "spot"] (spD K 2 f_law_dice) := by
  refine def_okD (N := ["script", "spot", "cell", "great", "seed"]) (ps := ["script", "spot"]) F sc_law_dice rfl fun cdv A0 outer0 s0 H0 E0 pa ca gd hr => ?_
  have tk := takes_of (X := dcx P w K mg base ["script", "spot", "cell", "great", "seed"] d_law_dice.qual d_law_dice.scope (He.fAd K ("_law_dice", none)) cdv A0 outer0 s0 H0 E0) (E := E0) rfl rfl rfl rfl
  have hp := passes_of (X := dcx P w K mg base ["script", "spot", "cell", "great", "seed"] d_law_dice.qual d_law_dice.scope (He.fAd K ("_law_dice", none)) cdv A0 outer0 s0 H0 E0) rfl
  exact (rss_cons (rs_asg (re_ifExp (rt_cmp op_ltY o2_ltY (ro_name (i := 1) rfl (.inl rfl)) (ro_re (re_callB call_len on_len rfl (g_len T) (by decide +kernel) (ra_cons (ro_name (i := 0) rfl (.inl rfl)) ra_nil))) (nomark _)) (re_callTy call_int1 on_int rfl (g_int T) (by decide +kernel) (ra_cons (ro_re (re_ix ix_X o2_ix (ro_name (i := 0) rfl (.inl rfl)) (ro_name (i := 1) rfl (.inl rfl)) fun _ _ => rfl)) ra_nil)) (re_bin op_addX o2_add (ro_re (re_bin op_mulY o2_mulY (ro_re re_int) (ro_name (i := 1) rfl (.inl rfl)))) (ro_re re_int))) (rg_name (i := 2) sc_law_dice.nd rfl (.inl rfl)))
  (rss_cons (rs_asg (re_bin op_modN o2_mod (ro_re (re_callTy call_int1 on_int rfl (g_int T) (by decide +kernel) (ra_cons (ro_re (re_callB call_abs on_abs rfl (g_abs T) (by decide +kernel) (ra_cons (ro_name (i := 2) rfl (.inl rfl)) ra_nil))) ra_nil))) (ro_re (re_bin op_powX o2_pow (ro_re (re_bin op_powX o2_pow (ro_re re_int) (ro_re re_int))) (ro_re re_int)))) (rg_name (i := 3) sc_law_dice.nd rfl (.inl rfl)))
  (rss_cons (rs_asg (re_bin op_addX o2_add (ro_re (re_bin op_addX o2_add (ro_re (re_bin op_addX o2_add (ro_re (re_bin op_mulY o2_mulY (ro_re (re_bin op_modN o2_mod (ro_name (i := 3) rfl (.inl rfl)) (ro_re re_int))) (ro_re re_int))) (ro_re (re_bin op_mulY o2_mulY (ro_re re_int) (ro_name (i := 1) rfl (.inl rfl)))))) (ro_re (re_bin op_mulY o2_mulY (ro_re re_int) (ro_re (re_callTy call_int1 on_int rfl (g_int T) (by decide +kernel) (ra_cons (ro_re (re_cmp op_ltY o2_ltY (ro_name (i := 2) rfl (.inl rfl)) (ro_re re_int) (nomark _))) ra_nil))))))) (ro_re re_int)) (rg_name (i := 4) sc_law_dice.nd rfl (.inl rfl)))
  (rss_one (rs_retW (rm_rn (rn_lst (ra_cons (ro_re (re_callB (call_max2 rfl) on_max rfl (g_max T) (by decide +kernel) (ra_cons (ro_re re_int) (ra_cons (ro_re (re_bin op_sub o2_sub (ro_name (i := 3) rfl (.inl rfl)) (ro_re (re_bin op_powX o2_pow (ro_re re_int) (ro_re re_int))))) ra_nil)))) (ra_cons (ro_name (i := 4) rfl (.inl rfl)) (ra_cons (ro_re re_int) ra_nil))))))))))
theorem ok_law_dice {P : Program} {w : World} {K : PySem.W.Frag} {mg : Str → Option Value} {base : Heap} (T : Txt P K mg) (B : Tbs K mg base) : CalD P w K mg base (TT K) 2 "_law_dice" 2 f_law_dice [] := by
  obtain ⟨fd, F⟩ := T.c.def_ 20 (d := d_law_dice) rfl
  exact CalD.mk0 F (g_law_dice T) (body_law_dice T B F) (fun _ _ _ _ _ _ us hl => match us, hl with | [_, _], _ => rfl)
theorem sc_law_roll : FnScope ["dice", "many", "one", "two", "found"] ["dice", "many"] (defScope (top 35)) := ⟨rfl, rfl, rfl, by decide +kernel, rfl, by decide +kernel, by decide +kernel⟩
theorem body_law_roll {P : Program} {w : World} {K : PySem.W.Frag} {mg : Str → Option Value} {base : Heap} (T : Txt P K mg) (B : Tbs K mg base) {fd : FuncData} (F : FunD K d_law_roll.name d_law_roll.qual d_law_roll.params d_law_roll.body d_law_roll.scope (d_law_roll.dvs K) (d_law_roll.kws K) (He.fAd K ("_law_roll", none)) fd) : FnG P w K mg base (TT K) (L2.CX P w) 2 (He.fAd K ("_law_roll", none)) fd ["dice", "many"] (spM K 2 f_law_roll) := by
  refine def_okM (N := ["dice", "many", "one", "two", "found"]) (ps := ["dice", "many"]) F sc_law_roll rfl fun cdv A0 outer0 s0 H0 E0 pa ca gd hr => ?_
  have tk := takes_of (X := dcx P w K mg base ["dice", "many", "one", "two", "found"] d_law_roll.qual d_law_roll.scope (He.fAd K ("_law_roll", none)) cdv A0 outer0 s0 H0 E0) (E := E0) rfl rfl rfl rfl
  have hp := passes_of (X := dcx P w K mg base ["dice", "many", "one", "two", "found"] d_law_roll.qual d_law_roll.scope (He.fAd K ("_law_roll", none)) cdv A0 outer0 s0 H0 E0) rfl
  exact (rss_cons (rs_if (rt_cmp op_gt o2_gt (ro_re (re_ix ix_X o2_ix (ro_name (i := 0) rfl (.inl rfl)) (ro_re re_int) fun _ _ => rfl)) (ro_re re_int) (nomark _))
  (rss_cons (rs_asg (re_bin op_modN o2_mod (ro_re (re_ix ix_X o2_ix (ro_name (i := 0) rfl (.inl rfl)) (ro_re re_int) fun _ _ => rfl)) (ro_name (i := 1) rfl (.inl rfl))) (rg_name (i := 4) sc_law_roll.nd rfl (.inl rfl)))
  (rss_cons (rs_sto (i := 0) rfl (.inl rfl) (ro_re re_int) (ro_re (re_bin (op_fdivX gd) o2_fdv (ro_re (re_ix ix_X o2_ix (ro_name (i := 0) rfl (.inl rfl)) (ro_re re_int) fun _ _ => rfl)) (ro_name (i := 1) rfl (.inl rfl)))))
  (rss_one (rs_ret (ro_re (re_callTy call_int1 on_int rfl (g_int T) (by decide +kernel) (ra_cons (ro_name (i := 4) rfl (.inl rfl)) ra_nil)))))))
  rss_nil)
  (rss_cons (rs_sto (i := 0) rfl (.inl rfl) (ro_re re_int) (ro_re (re_bin op_addX o2_add (ro_re (re_ix ix_X o2_ix (ro_name (i := 0) rfl (.inl rfl)) (ro_re re_int) fun _ _ => rfl)) (ro_re re_int))))
  (rss_cons (rs_asg (re_bin op_modN o2_mod (ro_re (re_bin op_addX o2_add (ro_re (re_ix ix_X o2_ix (ro_name (i := 0) rfl (.inl rfl)) (ro_re re_int) fun _ _ => rfl)) (ro_re (re_bin op_mulY o2_mulY (ro_re re_int) (ro_re (re_ix ix_X o2_ix (ro_name (i := 0) rfl (.inl rfl)) (ro_re re_int) fun _ _ => rfl)))))) (ro_re re_int)) (rg_name (i := 2) sc_law_roll.nd rfl (.inl rfl)))
  (rss_cons (rs_asg (re_bin op_addX o2_add (ro_re (re_bin op_mulY o2_mulY (ro_re (re_bin op_modN o2_mod (ro_re (re_bin op_addX o2_add (ro_re (re_bin op_mulY o2_mulY (ro_name (i := 2) rfl (.inl rfl)) (ro_name (i := 2) rfl (.inl rfl)))) (ro_re (re_bin op_mulY o2_mulY (ro_re re_int) (ro_re (re_ix ix_X o2_ix (ro_name (i := 0) rfl (.inl rfl)) (ro_re re_int) fun _ _ => rfl)))))) (ro_re re_int))) (ro_re re_int))) (ro_name (i := 2) rfl (.inl rfl))) (rg_name (i := 3) sc_law_roll.nd rfl (.inl rfl)))
  (rss_one (rs_ret (ro_re (re_bin op_modN o2_mod (ro_re (re_callTy call_int1 on_int rfl (g_int T) (by decide +kernel) (ra_cons (ro_re (re_bin (op_fdivX gd) o2_fdv (ro_name (i := 3) rfl (.inl rfl)) (ro_re re_int))) ra_nil))) (ro_name (i := 1) rfl (.inl rfl))))))))))
theorem ok_law_roll {P : Program} {w : World} {K : PySem.W.Frag} {mg : Str → Option Value} {base : Heap} (T : Txt P K mg) (B : Tbs K mg base) : CalM P w K mg base (TT K) 2 "_law_roll" 2 f_law_roll [] := by
  obtain ⟨fd, F⟩ := T.c.def_ 21 (d := d_law_roll) rfl
  exact CalM.mk0 F (g_law_roll T) (body_law_roll T B F) (fun _ _ _ _ _ _ us hl => match us, hl with | [_, _], _ => rfl)
theorem sc_law_fr : FnScope ["top", "bottom", "sign", "one", "other"] ["top", "bottom"] (defScope (top 37)) := ⟨rfl, rfl, rfl, by decide +kernel, rfl, by decide +kernel, by decide +kernel⟩
theorem body_law_fr {P : Program} {w : World} {K : PySem.W.Frag} {mg : Str → Option Value} {base : Heap} (T : Txt P K mg) (B : Tbs K mg base) {fd : FuncData} (F : FunD K d_law_fr.name d_law_fr.qual d_law_fr.params d_law_fr.body d_law_fr.scope (d_law_fr.dvs K) (d_law_fr.kws K) (He.fAd K ("_law_fr", none)) fd) : FnG P w K mg base (TT K) (L2.CX P w) 2 (He.fAd K ("_law_fr", none)) fd ["top", "bottom"] (spD K 2 f_law_fr) := by
  refine def_okD (N := ["top", "bottom", "sign", "one", "other"]) (ps := ["top", "bottom"]) F sc_law_fr rfl fun cdv A0 outer0 s0 H0 E0 pa ca gd hr => ?_
  have tk := takes_of (X := dcx P w K mg base ["top", "bottom", "sign", "one", "other"] d_law_fr.qual d_law_fr.scope (He.fAd K ("_law_fr", none)) cdv A0 outer0 s0 H0 E0) (E := E0) rfl rfl rfl rfl
  have hp := passes_of (X := dcx P w K mg base ["top", "bottom", "sign", "one", "other"] d_law_fr.qual d_law_fr.scope (He.fAd K ("_law_fr", none)) cdv A0 outer0 s0 H0 E0) rfl
  exact (rss_cons (rs_par (i := 3) (j := 4) rfl sc_law_fr.nd rfl rfl (by decide) rfl rfl (ra_cons (ro_re (re_callB call_abs on_abs rfl (g_abs T) (by decide +kernel) (ra_cons (ro_name (i := 0) rfl (.inl rfl)) ra_nil))) (ra_cons (ro_re (re_callB call_abs on_abs rfl (g_abs T) (by decide +kernel) (ra_cons (ro_name (i := 1) rfl (.inl rfl)) ra_nil))) ra_nil)) rfl)
  (rss_cons (rs_whileF hp (rt_cmp op_gt o2_gt (ro_name (i := 4) rfl (.inl rfl)) (ro_re re_int) (nomark _))
  (rss_one (rs_par (i := 3) (j := 4) rfl sc_law_fr.nd rfl rfl (by decide) rfl rfl (ra_cons (ro_name (i := 4) rfl (.inl rfl)) (ra_cons (ro_re (re_bin op_modN o2_mod (ro_name (i := 3) rfl (.inl rfl)) (ro_name (i := 4) rfl (.inl rfl)))) ra_nil)) rfl)))
  (rss_cons (rs_asg (re_ifExp (rt_cmp op_ltY o2_ltY (ro_name (i := 1) rfl (.inl rfl)) (ro_re re_int) (nomark _)) (re_un un_neg on_neg (ro_re re_int)) re_int) (rg_name (i := 2) sc_law_fr.nd rfl (.inl rfl)))
  (rss_one (rs_ret (ro_re (re_tup (ra_cons (ro_re (re_bin (op_fdivX gd) o2_fdv (ro_re (re_bin op_mulY o2_mulY (ro_name (i := 2) rfl (.inl rfl)) (ro_name (i := 0) rfl (.inl rfl)))) (ro_name (i := 3) rfl (.inl rfl)))) (ra_cons (ro_re (re_bin (op_fdivX gd) o2_fdv (ro_re (re_bin op_mulY o2_mulY (ro_name (i := 2) rfl (.inl rfl)) (ro_name (i := 1) rfl (.inl rfl)))) (ro_name (i := 3) rfl (.inl rfl)))) ra_nil)))))))))
theorem ok_law_fr {P : Program} {w : World} {K : PySem.W.Frag} {mg : Str → Option Value} {base : Heap} (T : Txt P K mg) (B : Tbs K mg base) : CalD P w K mg base (TT K) 2 "_law_fr" 2 f_law_fr [] := by
  obtain ⟨fd, F⟩ := T.c.def_ 23 (d := d_law_fr) rfl
  exact CalD.mk0 F (g_law_fr T) (body_law_fr T B F) (fun _ _ _ _ _ _ us hl => match us, hl with | [_, _], _ => rfl)
theorem sc_law_is_name : FnScope ["value", "sign"] ["value"] (defScope (top 40)) := ⟨rfl, rfl, rfl, by decide +kernel, rfl, by decide +kernel, by decide +kernel⟩
theorem body_law_is_name {P : Program} {w : World} {K : PySem.W.Frag} {mg : Str → Option Value} {base : Heap} (T : Txt P K mg) (B : Tbs K mg base) {fd : FuncData} (F : FunD K d_law_is_name.name d_law_is_name.qual d_law_is_name.params d_law_is_name.body d_law_is_name.scope (d_law_is_name.dvs K) (d_law_is_name.kws K) (He.fAd K ("_law_is_name", none)) fd) : FnG P w K mg base (TT K) (L2.CX P w) 2 (He.fAd K ("_law_is_name", none)) fd ["value"] (spD K 1 f_law_is_name) := by
  refine def_okD (N := ["value", "sign"]) (ps := ["value"]) F sc_law_is_name rfl fun cdv A0 outer0 s0 H0 E0 pa ca gd hr => ?_
  have tk := takes_of (X := dcx P w K mg base ["value", "sign"] d_law_is_name.qual d_law_is_name.scope (He.fAd K ("_law_is_name", none)) cdv A0 outer0 s0 H0 E0) (E := E0) rfl rfl rfl rfl
  have hp := passes_of (X := dcx P w K mg base ["value", "sign"] d_law_is_name.qual d_law_is_name.scope (He.fAd K ("_law_is_name", none)) cdv A0 outer0 s0 H0 E0) rfl
  exact (rss_cons (rs_if (rt_rw (rw_or (rt_not (rt_val (re_callB call_isi on_isiY rfl (g_isinstance T) (by decide +kernel) (ra_cons (ro_name (i := 0) rfl (.inl rfl)) (ra_cons (ro_re (re_bty (g_str T) (by decide +kernel))) ra_nil))))) (rw_or (rt_not (rt_chain op_leY op_leY o2_leY o2_leY (ro_re re_int) (ro_re (re_callB call_len on_len rfl (g_len T) (by decide +kernel) (ra_cons (ro_name (i := 0) rfl (.inl rfl)) ra_nil))) (ro_re re_int))) (rw_or1 (rt_not (rt_chain op_leY op_leY o2_leY o2_leY (ro_re re_str) (ro_re (re_ix ix_X o2_ix (ro_name (i := 0) rfl (.inl rfl)) (ro_re re_int) fun _ _ => rfl)) (ro_re re_str)))))))
  (rss_one (rs_ret (ro_re re_bl)))
  rss_nil)
  (rss_one (rs_ret (ro_re (re_cmp (op_eqD hr.units) o2_eq (ro_re (re_rn (rn_lc (own := [("sign", 1)]) (is := [1]) rfl sc_law_is_name.nd (ri_any (ro_name (i := 0) rfl (.inl rfl))) (blkOk_by rfl) (by decide) (fun _ _ _ _ _ => (rg_name (i := 1) sc_law_is_name.nd rfl (.inl rfl))) (fun _ _ _ _ _ => (rts_one (rt_cmp op_notIn_sign o2_ninY (ro_name (i := 1) rfl (.inl rfl)) (ro_re re_str) rfl))) (fun _ _ _ _ _ => (ro_name (i := 1) rfl (.inl rfl)))))) (ro_re (re_rn (rn_lst ra_nil))) (nomark _))))))
theorem ok_law_is_name {P : Program} {w : World} {K : PySem.W.Frag} {mg : Str → Option Value} {base : Heap} (T : Txt P K mg) (B : Tbs K mg base) : CalD P w K mg base (TT K) 2 "_law_is_name" 1 f_law_is_name [] := by
  obtain ⟨fd, F⟩ := T.c.def_ 26 (d := d_law_is_name) rfl
  exact CalD.mk0 F (g_law_is_name T) (body_law_is_name T B F) (fun _ _ _ _ _ _ us hl => match us, hl with | [_], _ => rfl)
theorem sc_is_number : FnScope ["value", "one"] ["value"] (defScope (top 16)) := ⟨rfl, rfl, rfl, by decide +kernel, rfl, by decide +kernel, by decide +kernel⟩
theorem body_is_number {P : Program} {w : World} {K : PySem.W.Frag} {mg : Str → Option Value} {base : Heap} (T : Txt P K mg) (B : Tbs K mg base) {fd : FuncData} (F : FunD K d_is_number.name d_is_number.qual d_is_number.params d_is_number.body d_is_number.scope (d_is_number.dvs K) (d_is_number.kws K) (He.fAd K ("is_number", none)) fd) : FnG P w K mg base (TT K) (L2.CX P w) 3 (He.fAd K ("is_number", none)) fd ["value"] (spD K 1 f_is_number) := by
  have C_common_divisor := ok_common_divisor (P := P) (w := w) (base := base) T B
  have C_is_integer := ok_is_integer (P := P) (w := w) (base := base) T B
  refine def_okD (N := ["value", "one"]) (ps := ["value"]) F sc_is_number rfl fun cdv A0 outer0 s0 H0 E0 pa ca gd hr => ?_
  have tk := takes_of (X := dcx P w K mg base ["value", "one"] d_is_number.qual d_is_number.scope (He.fAd K ("is_number", none)) cdv A0 outer0 s0 H0 E0) (E := E0) rfl rfl rfl rfl
  have hp := passes_of (X := dcx P w K mg base ["value", "one"] d_is_number.qual d_is_number.scope (He.fAd K ("is_number", none)) cdv A0 outer0 s0 H0 E0) rfl
  exact (rss_cons (rs_if (rt_rw (rw_or (rt_not (rt_val (re_callB call_isi on_isiY rfl (g_isinstance T) (by decide +kernel) (ra_cons (ro_name (i := 0) rfl (.inl rfl)) (ra_cons (ro_re (re_bty (g_tuple T) (by decide +kernel))) ra_nil))))) (rw_or (rt_cmp (op_neD hr.units) o2_ne (ro_re (re_callB call_len on_len rfl (g_len T) (by decide +kernel) (ra_cons (ro_name (i := 0) rfl (.inl rfl)) ra_nil))) (ro_re re_int) (nomark _)) (rw_or1 (rt_not (rt_val (re_callB (cr_all rfl) on_all rfl (g_all T) (by decide +kernel) (ra_cons (ro_re (re_rn (rn_lc (own := [("one", 1)]) (is := [1]) rfl sc_is_number.nd (ri_any (ro_name (i := 0) rfl (.inl rfl))) (blkOk_by rfl) (by decide) (fun _ _ _ _ _ => (rg_name (i := 1) sc_is_number.nd rfl (.inl rfl))) (fun _ _ _ _ _ => rts_nil) (fun _ _ _ _ _ => (ro_re (re_callC C_is_integer gd hr takes0 (ra_cons (ro_name (i := 1) rfl (.inl rfl)) ra_nil))))))) ra_nil))))))))
  (rss_one (rs_ret (ro_re re_bl)))
  rss_nil)
  (rss_one (rs_ret (ro_re (re_and (re_cmp op_ge o2_ge (ro_re (re_ix ix_X o2_ix (ro_name (i := 0) rfl (.inl rfl)) (ro_re re_int) fun _ _ => rfl)) (ro_re re_int) (nomark _)) (re_one (re_cmp (op_eqD hr.units) o2_eq (ro_re (re_callC C_common_divisor gd hr tk (ra_cons (ro_re (re_ix ix_X o2_ix (ro_name (i := 0) rfl (.inl rfl)) (ro_re re_int) fun _ _ => rfl)) (ra_cons (ro_re (re_ix ix_X o2_ix (ro_name (i := 0) rfl (.inl rfl)) (ro_re re_int) fun _ _ => rfl)) ra_nil)))) (ro_re re_int) (nomark _))))))))
theorem ok_is_number {P : Program} {w : World} {K : PySem.W.Frag} {mg : Str → Option Value} {base : Heap} (T : Txt P K mg) (B : Tbs K mg base) : CalD P w K mg base (TT K) 3 "is_number" 1 f_is_number [] := by
  obtain ⟨fd, F⟩ := T.c.def_ 3 (d := d_is_number) rfl
  exact CalD.mk0 F (g_is_number T) (body_is_number T B F) (fun _ _ _ _ _ _ us hl => match us, hl with | [_], _ => rfl)
theorem sc_reduced : FnScope ["top", "bottom", "divisor"] ["top", "bottom"] (defScope (top 17)) := ⟨rfl, rfl, rfl, by decide +kernel, rfl, by decide +kernel, by decide +kernel⟩
theorem body_reduced {P : Program} {w : World} {K : PySem.W.Frag} {mg : Str → Option Value} {base : Heap} (T : Txt P K mg) (B : Tbs K mg base) {fd : FuncData} (F : FunD K d_reduced.name d_reduced.qual d_reduced.params d_reduced.body d_reduced.scope (d_reduced.dvs K) (d_reduced.kws K) (He.fAd K ("reduced", none)) fd) : FnG P w K mg base (TT K) (L2.CX P w) 3 (He.fAd K ("reduced", none)) fd ["top", "bottom"] (spD K 2 f_reduced) := by
  have C_common_divisor := ok_common_divisor (P := P) (w := w) (base := base) T B
  refine def_okD (N := ["top", "bottom", "divisor"]) (ps := ["top", "bottom"]) F sc_reduced rfl fun cdv A0 outer0 s0 H0 E0 pa ca gd hr => ?_
  have tk := takes_of (X := dcx P w K mg base ["top", "bottom", "divisor"] d_reduced.qual d_reduced.scope (He.fAd K ("reduced", none)) cdv A0 outer0 s0 H0 E0) (E := E0) rfl rfl rfl rfl
  have hp := passes_of (X := dcx P w K mg base ["top", "bottom", "divisor"] d_reduced.qual d_reduced.scope (He.fAd K ("reduced", none)) cdv A0 outer0 s0 H0 E0) rfl
  exact (rss_cons (rs_if (rt_cmp op_ltY o2_ltY (ro_name (i := 1) rfl (.inl rfl)) (ro_re re_int) (nomark _))
  (rss_one (rs_par (i := 0) (j := 1) rfl sc_reduced.nd rfl rfl (by decide) rfl rfl (ra_cons (ro_re (re_bin op_sub o2_sub (ro_re re_int) (ro_name (i := 0) rfl (.inl rfl)))) (ra_cons (ro_re (re_bin op_sub o2_sub (ro_re re_int) (ro_name (i := 1) rfl (.inl rfl)))) ra_nil)) rfl))
  rss_nil)
  (rss_cons (rs_asg (re_callC C_common_divisor gd hr tk (ra_cons (ro_name (i := 0) rfl (.inl rfl)) (ra_cons (ro_name (i := 1) rfl (.inl rfl)) ra_nil))) (rg_name (i := 2) sc_reduced.nd rfl (.inl rfl)))
  (rss_one (rs_ret (ro_re (re_tup (ra_cons (ro_re (re_bin (op_fdivX gd) o2_fdv (ro_name (i := 0) rfl (.inl rfl)) (ro_name (i := 2) rfl (.inl rfl)))) (ra_cons (ro_re (re_bin (op_fdivX gd) o2_fdv (ro_name (i := 1) rfl (.inl rfl)) (ro_name (i := 2) rfl (.inl rfl)))) ra_nil))))))))
theorem ok_reduced {P : Program} {w : World} {K : PySem.W.Frag} {mg : Str → Option Value} {base : Heap} (T : Txt P K mg) (B : Tbs K mg base) : CalD P w K mg base (TT K) 3 "reduced" 2 f_reduced [] := by
  obtain ⟨fd, F⟩ := T.c.def_ 4 (d := d_reduced) rfl
  exact CalD.mk0 F (g_reduced T) (body_reduced T B F) (fun _ _ _ _ _ _ us hl => match us, hl with | [_, _], _ => rfl)
theorem sc_require_count : FnScope ["value", "least", "most"] ["value", "least", "most"] (defScope (top 20)) := ⟨rfl, rfl, rfl, by decide +kernel, rfl, by decide +kernel, by decide +kernel⟩
theorem body_require_count {P : Program} {w : World} {K : PySem.W.Frag} {mg : Str → Option Value} {base : Heap} (T : Txt P K mg) (B : Tbs K mg base) {fd : FuncData} (F : FunD K d_require_count.name d_require_count.qual d_require_count.params d_require_count.body d_require_count.scope (d_require_count.dvs K) (d_require_count.kws K) (He.fAd K ("require_count", none)) fd) : FnG P w K mg base (TT K) (L2.CX P w) 3 (He.fAd K ("require_count", none)) fd ["value", "least", "most"] (spD K 3 f_require_count) := by
  have C_is_integer := ok_is_integer (P := P) (w := w) (base := base) T B
  refine def_okD (N := ["value", "least", "most"]) (ps := ["value", "least", "most"]) F sc_require_count rfl fun cdv A0 outer0 s0 H0 E0 pa ca gd hr => ?_
  have tk := takes_of (X := dcx P w K mg base ["value", "least", "most"] d_require_count.qual d_require_count.scope (He.fAd K ("require_count", none)) cdv A0 outer0 s0 H0 E0) (E := E0) rfl rfl rfl rfl
  have hp := passes_of (X := dcx P w K mg base ["value", "least", "most"] d_require_count.qual d_require_count.scope (He.fAd K ("require_count", none)) cdv A0 outer0 s0 H0 E0) rfl
  exact (rss_one (rs_if (rt_rw (rw_or (rt_not (rt_val (re_callC C_is_integer gd hr tk (ra_cons (ro_name (i := 0) rfl (.inl rfl)) ra_nil)))) (rw_or1 (rt_not (rt_chain op_leY op_leY o2_leY o2_leY (ro_name (i := 1) rfl (.inl rfl)) (ro_name (i := 0) rfl (.inl rfl)) (ro_name (i := 2) rfl (.inl rfl)))))))
  (rss_one (rs_raiseS (sk_InvalidCount (P := P) (w := w) (base := base) T) gd hr tk (re_ro (ro_name (i := 0) rfl (.inl rfl)))))
  rss_nil))
theorem ok_require_count_1 {P : Program} {w : World} {K : PySem.W.Frag} {mg : Str → Option Value} {base : Heap} (T : Txt P K mg) (B : Tbs K mg base) : CalD P w K mg base (TT K) 3 "require_count" 3 f_require_count [(D.int 0), (D.int 60)] := by
  obtain ⟨fd, F⟩ := T.c.def_ 7 (d := d_require_count) rfl
  exact CalD.mk1 1 0 F (g_require_count T) (body_require_count T B F) (List.cons_ne_nil _ _) rfl (fun ms H => (.cons (.int _) (.cons (.int _) .nil))) (fun _ _ _ _ _ _ _ us its hl hl2 => match us, its, hl, hl2 with | [_], [_, _], _, _ => ⟨_, rfl, rfl⟩)
theorem ok_require_count_2 {P : Program} {w : World} {K : PySem.W.Frag} {mg : Str → Option Value} {base : Heap} (T : Txt P K mg) (B : Tbs K mg base) : CalD P w K mg base (TT K) 3 "require_count" 3 f_require_count [(D.int 60)] := by
  obtain ⟨fd, F⟩ := T.c.def_ 7 (d := d_require_count) rfl
  exact CalD.mk1 2 1 F (g_require_count T) (body_require_count T B F) (List.cons_ne_nil _ _) rfl (fun ms H => (.cons (.int _) .nil)) (fun _ _ _ _ _ _ _ us its hl hl2 => match us, its, hl, hl2 with | [_, _], [_, _], _, _ => ⟨_, rfl, rfl⟩)
theorem ok_require_count {P : Program} {w : World} {K : PySem.W.Frag} {mg : Str → Option Value} {base : Heap} (T : Txt P K mg) (B : Tbs K mg base) : CalD P w K mg base (TT K) 3 "require_count" 3 f_require_count [] := by
  obtain ⟨fd, F⟩ := T.c.def_ 7 (d := d_require_count) rfl
  exact CalD.mk1 3 2 F (g_require_count T) (body_require_count T B F) (List.cons_ne_nil _ _) rfl (fun ms H => .nil) (fun _ _ _ _ _ _ _ us its hl hl2 => match us, its, hl, hl2 with | [_, _, _], [_, _], _, _ => ⟨_, rfl, rfl⟩)
theorem sc_law_pick : FnScope ["dice", "items"] ["dice", "items"] (defScope (top 36)) := ⟨rfl, rfl, rfl, by decide +kernel, rfl, by decide +kernel, by decide +kernel⟩
theorem body_law_pick {P : Program} {w : World} {K : PySem.W.Frag} {mg : Str → Option Value} {base : Heap} (T : Txt P K mg) (B : Tbs K mg base) {fd : FuncData} (F : FunD K d_law_pick.name d_law_pick.qual d_law_pick.params d_law_pick.body d_law_pick.scope (d_law_pick.dvs K) (d_law_pick.kws K) (He.fAd K ("_law_pick", none)) fd) : FnG P w K mg base (TT K) (L2.CX P w) 3 (He.fAd K ("_law_pick", none)) fd ["dice", "items"] (spM K 2 f_law_pick) := by
  have C_law_roll := ok_law_roll (P := P) (w := w) (base := base) T B
  refine def_okM (N := ["dice", "items"]) (ps := ["dice", "items"]) F sc_law_pick rfl fun cdv A0 outer0 s0 H0 E0 pa ca gd hr => ?_
  have tk := takes_of (X := dcx P w K mg base ["dice", "items"] d_law_pick.qual d_law_pick.scope (He.fAd K ("_law_pick", none)) cdv A0 outer0 s0 H0 E0) (E := E0) rfl rfl rfl rfl
  have hp := passes_of (X := dcx P w K mg base ["dice", "items"] d_law_pick.qual d_law_pick.scope (He.fAd K ("_law_pick", none)) cdv A0 outer0 s0 H0 E0) rfl
  exact (rss_one (rs_ret (ro_re (re_ix ix_X o2_ix (ro_name (i := 1) rfl (.inl rfl)) (ro_re (re_callMC C_law_roll gd hr tk (ra_cons (ro_name (i := 0) rfl (.inl rfl)) (ra_cons (ro_re (re_callB call_len on_len rfl (g_len T) (by decide +kernel) (ra_cons (ro_name (i := 1) rfl (.inl rfl)) ra_nil))) ra_nil)))) fun _ _ => rfl))))
theorem ok_law_pick {P : Program} {w : World} {K : PySem.W.Frag} {mg : Str → Option Value} {base : Heap} (T : Txt P K mg) (B : Tbs K mg base) : CalM P w K mg base (TT K) 3 "_law_pick" 2 f_law_pick [] := by
  obtain ⟨fd, F⟩ := T.c.def_ 22 (d := d_law_pick) rfl
  exact CalM.mk0 F (g_law_pick T) (body_law_pick T B F) (fun _ _ _ _ _ _ us hl => match us, hl with | [_, _], _ => rfl)
theorem sc_law_is_number : FnScope ["value", "one"] ["value"] (defScope (top 38)) := ⟨rfl, rfl, rfl, by decide +kernel, rfl, by decide +kernel, by decide +kernel⟩
theorem body_law_is_number {P : Program} {w : World} {K : PySem.W.Frag} {mg : Str → Option Value} {base : Heap} (T : Txt P K mg) (B : Tbs K mg base) {fd : FuncData} (F : FunD K d_law_is_number.name d_law_is_number.qual d_law_is_number.params d_law_is_number.body d_law_is_number.scope (d_law_is_number.dvs K) (d_law_is_number.kws K) (He.fAd K ("_law_is_number", none)) fd) : FnG P w K mg base (TT K) (L2.CX P w) 3 (He.fAd K ("_law_is_number", none)) fd ["value"] (spD K 1 f_law_is_number) := by
  have C_law_fr := ok_law_fr (P := P) (w := w) (base := base) T B
  refine def_okD (N := ["value", "one"]) (ps := ["value"]) F sc_law_is_number rfl fun cdv A0 outer0 s0 H0 E0 pa ca gd hr => ?_
  have tk := takes_of (X := dcx P w K mg base ["value", "one"] d_law_is_number.qual d_law_is_number.scope (He.fAd K ("_law_is_number", none)) cdv A0 outer0 s0 H0 E0) (E := E0) rfl rfl rfl rfl
  have hp := passes_of (X := dcx P w K mg base ["value", "one"] d_law_is_number.qual d_law_is_number.scope (He.fAd K ("_law_is_number", none)) cdv A0 outer0 s0 H0 E0) rfl
  exact (rss_cons (rs_if (rt_rw (rw_or (rt_not (rt_val (re_callB call_isi on_isiY rfl (g_isinstance T) (by decide +kernel) (ra_cons (ro_name (i := 0) rfl (.inl rfl)) (ra_cons (ro_re (re_bty (g_tuple T) (by decide +kernel))) ra_nil))))) (rw_or1 (rt_cmp (op_neD hr.units) o2_ne (ro_re (re_callB call_len on_len rfl (g_len T) (by decide +kernel) (ra_cons (ro_name (i := 0) rfl (.inl rfl)) ra_nil))) (ro_re re_int) (nomark _)))))
  (rss_one (rs_ret (ro_re re_bl)))
  rss_nil)
  (rss_cons (rs_if (rt_cmp (op_neD hr.units) o2_ne (ro_re (re_rn (rn_lc (own := [("one", 1)]) (is := [1]) rfl sc_law_is_number.nd (ri_any (ro_name (i := 0) rfl (.inl rfl))) (blkOk_by rfl) (by decide) (fun _ _ _ _ _ => (rg_name (i := 1) sc_law_is_number.nd rfl (.inl rfl))) (fun _ _ _ _ _ => (rts_one (rt_rw (rw_or (rt_not (rt_val (re_callB call_isi on_isiY rfl (g_isinstance T) (by decide +kernel) (ra_cons (ro_name (i := 1) rfl (.inl rfl)) (ra_cons (ro_re (re_bty (g_int T) (by decide +kernel))) ra_nil))))) (rw_or1 (rt_val (re_callB call_isi on_isiY rfl (g_isinstance T) (by decide +kernel) (ra_cons (ro_name (i := 1) rfl (.inl rfl)) (ra_cons (ro_re (re_bty (g_bool T) (by decide +kernel))) ra_nil))))))))) (fun _ _ _ _ _ => (ro_re re_int))))) (ro_re (re_rn (rn_lst ra_nil))) (nomark _))
  (rss_one (rs_ret (ro_re re_bl)))
  rss_nil)
  (rss_one (rs_ret (ro_re (re_and (re_cmp op_ge o2_ge (ro_re (re_ix ix_X o2_ix (ro_name (i := 0) rfl (.inl rfl)) (ro_re re_int) fun _ _ => rfl)) (ro_re re_int) (nomark _)) (re_one (re_cmp (op_eqD hr.units) o2_eq (ro_re (re_callC C_law_fr gd hr tk (ra_cons (ro_re (re_ix ix_X o2_ix (ro_name (i := 0) rfl (.inl rfl)) (ro_re re_int) fun _ _ => rfl)) (ra_cons (ro_re (re_ix ix_X o2_ix (ro_name (i := 0) rfl (.inl rfl)) (ro_re re_int) fun _ _ => rfl)) ra_nil)))) (ro_name (i := 0) rfl (.inl rfl)) (nomark _)))))))))
theorem ok_law_is_number {P : Program} {w : World} {K : PySem.W.Frag} {mg : Str → Option Value} {base : Heap} (T : Txt P K mg) (B : Tbs K mg base) : CalD P w K mg base (TT K) 3 "_law_is_number" 1 f_law_is_number [] := by
  obtain ⟨fd, F⟩ := T.c.def_ 24 (d := d_law_is_number) rfl
  exact CalD.mk0 F (g_law_is_number T) (body_law_is_number T B F) (fun _ _ _ _ _ _ us hl => match us, hl with | [_], _ => rfl)
theorem sc_number : FnScope ["top", "bottom"] ["top", "bottom"] (defScope (top 18)) := ⟨rfl, rfl, rfl, by decide +kernel, rfl, by decide +kernel, by decide +kernel⟩
theorem body_number {P : Program} {w : World} {K : PySem.W.Frag} {mg : Str → Option Value} {base : Heap} (T : Txt P K mg) (B : Tbs K mg base) {fd : FuncData} (F : FunD K d_number.name d_number.qual d_number.params d_number.body d_number.scope (d_number.dvs K) (d_number.kws K) (He.fAd K ("number", none)) fd) : FnG P w K mg base (TT K) (L2.CX P w) 4 (He.fAd K ("number", none)) fd ["top", "bottom"] (spD K 2 f_number) := by
  have C_is_integer := ok_is_integer (P := P) (w := w) (base := base) T B
  have C_reduced := ok_reduced (P := P) (w := w) (base := base) T B
  refine def_okD (N := ["top", "bottom"]) (ps := ["top", "bottom"]) F sc_number rfl fun cdv A0 outer0 s0 H0 E0 pa ca gd hr => ?_
  have tk := takes_of (X := dcx P w K mg base ["top", "bottom"] d_number.qual d_number.scope (He.fAd K ("number", none)) cdv A0 outer0 s0 H0 E0) (E := E0) rfl rfl rfl rfl
  have hp := passes_of (X := dcx P w K mg base ["top", "bottom"] d_number.qual d_number.scope (He.fAd K ("number", none)) cdv A0 outer0 s0 H0 E0) rfl
  exact (rss_cons (rs_if (rt_rw (rw_or (rt_not (rt_val (re_callC C_is_integer gd hr tk (ra_cons (ro_name (i := 0) rfl (.inl rfl)) ra_nil)))) (rw_or1 (rt_cmp op_ge o2_ge (ro_re (re_callB call_abs on_abs rfl (g_abs T) (by decide +kernel) (ra_cons (ro_name (i := 0) rfl (.inl rfl)) ra_nil))) (ro_re (re_intK (g_MOST_PASSED T))) (nomark _)))))
  (rss_one (rs_raiseS (sk_InvalidCount (P := P) (w := w) (base := base) T) gd hr tk (re_ro (ro_name (i := 0) rfl (.inl rfl)))))
  rss_nil)
  (rss_cons (rs_if (rt_rw (rw_or (rt_not (rt_val (re_callC C_is_integer gd hr tk (ra_cons (ro_name (i := 1) rfl (.inl rfl)) ra_nil)))) (rw_or (rt_cmp op_ge o2_ge (ro_re (re_callB call_abs on_abs rfl (g_abs T) (by decide +kernel) (ra_cons (ro_name (i := 1) rfl (.inl rfl)) ra_nil))) (ro_re (re_intK (g_MOST_PASSED T))) (nomark _)) (rw_or1 (rt_cmp (op_eqD hr.units) o2_eq (ro_name (i := 1) rfl (.inl rfl)) (ro_re re_int) (nomark _))))))
  (rss_one (rs_raiseS (sk_InvalidCount (P := P) (w := w) (base := base) T) gd hr tk (re_ro (ro_name (i := 1) rfl (.inl rfl)))))
  rss_nil)
  (rss_one (rs_ret (ro_re (re_callC C_reduced gd hr tk (ra_cons (ro_name (i := 0) rfl (.inl rfl)) (ra_cons (ro_name (i := 1) rfl (.inl rfl)) ra_nil))))))))
theorem ok_number_1 {P : Program} {w : World} {K : PySem.W.Frag} {mg : Str → Option Value} {base : Heap} (T : Txt P K mg) (B : Tbs K mg base) : CalD P w K mg base (TT K) 4 "number" 2 f_number [(D.int 1)] := by
  obtain ⟨fd, F⟩ := T.c.def_ 5 (d := d_number) rfl
  exact CalD.mk1 1 0 F (g_number T) (body_number T B F) (List.cons_ne_nil _ _) rfl (fun ms H => (.cons (.int _) .nil)) (fun _ _ _ _ _ _ _ us its hl hl2 => match us, its, hl, hl2 with | [_], [_], _, _ => ⟨_, rfl, rfl⟩)
theorem ok_number {P : Program} {w : World} {K : PySem.W.Frag} {mg : Str → Option Value} {base : Heap} (T : Txt P K mg) (B : Tbs K mg base) : CalD P w K mg base (TT K) 4 "number" 2 f_number [] := by
  obtain ⟨fd, F⟩ := T.c.def_ 5 (d := d_number) rfl
  exact CalD.mk1 2 1 F (g_number T) (body_number T B F) (List.cons_ne_nil _ _) rfl (fun ms H => .nil) (fun _ _ _ _ _ _ _ us its hl hl2 => match us, its, hl, hl2 with | [_, _], [_], _, _ => ⟨_, rfl, rfl⟩)
theorem sc_require_number : FnScope ["value"] ["value"] (defScope (top 19)) := ⟨rfl, rfl, rfl, by decide +kernel, rfl, by decide +kernel, by decide +kernel⟩
theorem body_require_number {P : Program} {w : World} {K : PySem.W.Frag} {mg : Str → Option Value} {base : Heap} (T : Txt P K mg) (B : Tbs K mg base) {fd : FuncData} (F : FunD K d_require_number.name d_require_number.qual d_require_number.params d_require_number.body d_require_number.scope (d_require_number.dvs K) (d_require_number.kws K) (He.fAd K ("require_number", none)) fd) : FnG P w K mg base (TT K) (L2.CX P w) 4 (He.fAd K ("require_number", none)) fd ["value"] (spD K 1 f_require_number) := by
  have C_is_number := ok_is_number (P := P) (w := w) (base := base) T B
  refine def_okD (N := ["value"]) (ps := ["value"]) F sc_require_number rfl fun cdv A0 outer0 s0 H0 E0 pa ca gd hr => ?_
  have tk := takes_of (X := dcx P w K mg base ["value"] d_require_number.qual d_require_number.scope (He.fAd K ("require_number", none)) cdv A0 outer0 s0 H0 E0) (E := E0) rfl rfl rfl rfl
  have hp := passes_of (X := dcx P w K mg base ["value"] d_require_number.qual d_require_number.scope (He.fAd K ("require_number", none)) cdv A0 outer0 s0 H0 E0) rfl
  exact (rss_one (rs_if (rt_not (rt_val (re_callC C_is_number gd hr tk (ra_cons (ro_name (i := 0) rfl (.inl rfl)) ra_nil))))
  (rss_one (rs_raise0 PySem.F.excBase_ValueError (pl_InvalidFraction T) (g_InvalidFraction T) tk))
  rss_nil))
theorem ok_require_number {P : Program} {w : World} {K : PySem.W.Frag} {mg : Str → Option Value} {base : Heap} (T : Txt P K mg) (B : Tbs K mg base) : CalD P w K mg base (TT K) 4 "require_number" 1 f_require_number [] := by
  obtain ⟨fd, F⟩ := T.c.def_ 6 (d := d_require_number) rfl
  exact CalD.mk0 F (g_require_number T) (body_require_number T B F) (fun _ _ _ _ _ _ us hl => match us, hl with | [_], _ => rfl)
theorem sc_added : FnScope ["one", "other"] ["one", "other"] (defScope (top 21)) := ⟨rfl, rfl, rfl, by decide +kernel, rfl, by decide +kernel, by decide +kernel⟩
theorem body_added {P : Program} {w : World} {K : PySem.W.Frag} {mg : Str → Option Value} {base : Heap} (T : Txt P K mg) (B : Tbs K mg base) {fd : FuncData} (F : FunD K d_added.name d_added.qual d_added.params d_added.body d_added.scope (d_added.dvs K) (d_added.kws K) (He.fAd K ("added", none)) fd) : FnG P w K mg base (TT K) (L2.CX P w) 4 (He.fAd K ("added", none)) fd ["one", "other"] (spD K 2 f_added) := by
  have C_reduced := ok_reduced (P := P) (w := w) (base := base) T B
  refine def_okD (N := ["one", "other"]) (ps := ["one", "other"]) F sc_added rfl fun cdv A0 outer0 s0 H0 E0 pa ca gd hr => ?_
  have tk := takes_of (X := dcx P w K mg base ["one", "other"] d_added.qual d_added.scope (He.fAd K ("added", none)) cdv A0 outer0 s0 H0 E0) (E := E0) rfl rfl rfl rfl
  have hp := passes_of (X := dcx P w K mg base ["one", "other"] d_added.qual d_added.scope (He.fAd K ("added", none)) cdv A0 outer0 s0 H0 E0) rfl
  exact (rss_cons (rs_if (rt_chain (op_eqD hr.units) (op_eqD hr.units) o2_eq o2_eq (ro_re (re_ix ix_X o2_ix (ro_name (i := 0) rfl (.inl rfl)) (ro_re re_int) fun _ _ => rfl)) (ro_re (re_ix ix_X o2_ix (ro_name (i := 1) rfl (.inl rfl)) (ro_re re_int) fun _ _ => rfl)) (ro_re re_int))
  (rss_one (rs_ret (ro_re (re_tup (ra_cons (ro_re (re_bin op_addX o2_add (ro_re (re_ix ix_X o2_ix (ro_name (i := 0) rfl (.inl rfl)) (ro_re re_int) fun _ _ => rfl)) (ro_re (re_ix ix_X o2_ix (ro_name (i := 1) rfl (.inl rfl)) (ro_re re_int) fun _ _ => rfl)))) (ra_cons (ro_re re_int) ra_nil))))))
  rss_nil)
  (rss_one (rs_ret (ro_re (re_callC C_reduced gd hr tk (ra_cons (ro_re (re_bin op_addX o2_add (ro_re (re_bin op_mulY o2_mulY (ro_re (re_ix ix_X o2_ix (ro_name (i := 0) rfl (.inl rfl)) (ro_re re_int) fun _ _ => rfl)) (ro_re (re_ix ix_X o2_ix (ro_name (i := 1) rfl (.inl rfl)) (ro_re re_int) fun _ _ => rfl)))) (ro_re (re_bin op_mulY o2_mulY (ro_re (re_ix ix_X o2_ix (ro_name (i := 1) rfl (.inl rfl)) (ro_re re_int) fun _ _ => rfl)) (ro_re (re_ix ix_X o2_ix (ro_name (i := 0) rfl (.inl rfl)) (ro_re re_int) fun _ _ => rfl)))))) (ra_cons (ro_re (re_bin op_mulY o2_mulY (ro_re (re_ix ix_X o2_ix (ro_name (i := 0) rfl (.inl rfl)) (ro_re re_int) fun _ _ => rfl)) (ro_re (re_ix ix_X o2_ix (ro_name (i := 1) rfl (.inl rfl)) (ro_re re_int) fun _ _ => rfl)))) ra_nil)))))))
theorem ok_added {P : Program} {w : World} {K : PySem.W.Frag} {mg : Str → Option Value} {base : Heap} (T : Txt P K mg) (B : Tbs K mg base) : CalD P w K mg base (TT K) 4 "added" 2 f_added [] := by
  obtain ⟨fd, F⟩ := T.c.def_ 8 (d := d_added) rfl
  exact CalD.mk0 F (g_added T) (body_added T B F) (fun _ _ _ _ _ _ us hl => match us, hl with | [_, _], _ => rfl)
theorem sc_multiplied : FnScope ["one", "other"] ["one", "other"] (defScope (top 22)) := ⟨rfl, rfl, rfl, by decide +kernel, rfl, by decide +kernel, by decide +kernel⟩
theorem body_multiplied {P : Program} {w : World} {K : PySem.W.Frag} {mg : Str → Option Value} {base : Heap} (T : Txt P K mg) (B : Tbs K mg base) {fd : FuncData} (F : FunD K d_multiplied.name d_multiplied.qual d_multiplied.params d_multiplied.body d_multiplied.scope (d_multiplied.dvs K) (d_multiplied.kws K) (He.fAd K ("multiplied", none)) fd) : FnG P w K mg base (TT K) (L2.CX P w) 4 (He.fAd K ("multiplied", none)) fd ["one", "other"] (spD K 2 f_multiplied) := by
  have C_reduced := ok_reduced (P := P) (w := w) (base := base) T B
  refine def_okD (N := ["one", "other"]) (ps := ["one", "other"]) F sc_multiplied rfl fun cdv A0 outer0 s0 H0 E0 pa ca gd hr => ?_
  have tk := takes_of (X := dcx P w K mg base ["one", "other"] d_multiplied.qual d_multiplied.scope (He.fAd K ("multiplied", none)) cdv A0 outer0 s0 H0 E0) (E := E0) rfl rfl rfl rfl
  have hp := passes_of (X := dcx P w K mg base ["one", "other"] d_multiplied.qual d_multiplied.scope (He.fAd K ("multiplied", none)) cdv A0 outer0 s0 H0 E0) rfl
  exact (rss_cons (rs_if (rt_chain (op_eqD hr.units) (op_eqD hr.units) o2_eq o2_eq (ro_re (re_ix ix_X o2_ix (ro_name (i := 0) rfl (.inl rfl)) (ro_re re_int) fun _ _ => rfl)) (ro_re (re_ix ix_X o2_ix (ro_name (i := 1) rfl (.inl rfl)) (ro_re re_int) fun _ _ => rfl)) (ro_re re_int))
  (rss_one (rs_ret (ro_re (re_tup (ra_cons (ro_re (re_bin op_mulY o2_mulY (ro_re (re_ix ix_X o2_ix (ro_name (i := 0) rfl (.inl rfl)) (ro_re re_int) fun _ _ => rfl)) (ro_re (re_ix ix_X o2_ix (ro_name (i := 1) rfl (.inl rfl)) (ro_re re_int) fun _ _ => rfl)))) (ra_cons (ro_re re_int) ra_nil))))))
  rss_nil)
  (rss_one (rs_ret (ro_re (re_callC C_reduced gd hr tk (ra_cons (ro_re (re_bin op_mulY o2_mulY (ro_re (re_ix ix_X o2_ix (ro_name (i := 0) rfl (.inl rfl)) (ro_re re_int) fun _ _ => rfl)) (ro_re (re_ix ix_X o2_ix (ro_name (i := 1) rfl (.inl rfl)) (ro_re re_int) fun _ _ => rfl)))) (ra_cons (ro_re (re_bin op_mulY o2_mulY (ro_re (re_ix ix_X o2_ix (ro_name (i := 0) rfl (.inl rfl)) (ro_re re_int) fun _ _ => rfl)) (ro_re (re_ix ix_X o2_ix (ro_name (i := 1) rfl (.inl rfl)) (ro_re re_int) fun _ _ => rfl)))) ra_nil)))))))
theorem ok_multiplied {P : Program} {w : World} {K : PySem.W.Frag} {mg : Str → Option Value} {base : Heap} (T : Txt P K mg) (B : Tbs K mg base) : CalD P w K mg base (TT K) 4 "multiplied" 2 f_multiplied [] := by
  obtain ⟨fd, F⟩ := T.c.def_ 9 (d := d_multiplied) rfl
  exact CalD.mk0 F (g_multiplied T) (body_multiplied T B F) (fun _ _ _ _ _ _ us hl => match us, hl with | [_, _], _ => rfl)
theorem sc_divided : FnScope ["one", "other"] ["one", "other"] (defScope (top 24)) := ⟨rfl, rfl, rfl, by decide +kernel, rfl, by decide +kernel, by decide +kernel⟩
theorem body_divided {P : Program} {w : World} {K : PySem.W.Frag} {mg : Str → Option Value} {base : Heap} (T : Txt P K mg) (B : Tbs K mg base) {fd : FuncData} (F : FunD K d_divided.name d_divided.qual d_divided.params d_divided.body d_divided.scope (d_divided.dvs K) (d_divided.kws K) (He.fAd K ("divided", none)) fd) : FnG P w K mg base (TT K) (L2.CX P w) 4 (He.fAd K ("divided", none)) fd ["one", "other"] (spD K 2 f_divided) := by
  have C_reduced := ok_reduced (P := P) (w := w) (base := base) T B
  refine def_okD (N := ["one", "other"]) (ps := ["one", "other"]) F sc_divided rfl fun cdv A0 outer0 s0 H0 E0 pa ca gd hr => ?_
  have tk := takes_of (X := dcx P w K mg base ["one", "other"] d_divided.qual d_divided.scope (He.fAd K ("divided", none)) cdv A0 outer0 s0 H0 E0) (E := E0) rfl rfl rfl rfl
  have hp := passes_of (X := dcx P w K mg base ["one", "other"] d_divided.qual d_divided.scope (He.fAd K ("divided", none)) cdv A0 outer0 s0 H0 E0) rfl
  exact (rss_one (rs_ret (ro_re (re_callC C_reduced gd hr tk (ra_cons (ro_re (re_bin op_mulY o2_mulY (ro_re (re_ix ix_X o2_ix (ro_name (i := 0) rfl (.inl rfl)) (ro_re re_int) fun _ _ => rfl)) (ro_re (re_ix ix_X o2_ix (ro_name (i := 1) rfl (.inl rfl)) (ro_re re_int) fun _ _ => rfl)))) (ra_cons (ro_re (re_bin op_mulY o2_mulY (ro_re (re_ix ix_X o2_ix (ro_name (i := 0) rfl (.inl rfl)) (ro_re re_int) fun _ _ => rfl)) (ro_re (re_ix ix_X o2_ix (ro_name (i := 1) rfl (.inl rfl)) (ro_re re_int) fun _ _ => rfl)))) ra_nil))))))
theorem ok_divided {P : Program} {w : World} {K : PySem.W.Frag} {mg : Str → Option Value} {base : Heap} (T : Txt P K mg) (B : Tbs K mg base) : CalD P w K mg base (TT K) 4 "divided" 2 f_divided [] := by
  obtain ⟨fd, F⟩ := T.c.def_ 11 (d := d_divided) rfl
  exact CalD.mk0 F (g_divided T) (body_divided T B F) (fun _ _ _ _ _ _ us hl => match us, hl with | [_, _], _ => rfl)
theorem sc_law_some : FnScope ["dice", "some"] ["dice"] (defScope (top 41)) := ⟨rfl, rfl, rfl, by decide +kernel, rfl, by decide +kernel, by decide +kernel⟩
theorem body_law_some {P : Program} {w : World} {K : PySem.W.Frag} {mg : Str → Option Value} {base : Heap} (T : Txt P K mg) (B : Tbs K mg base) {fd : FuncData} (F : FunD K d_law_some.name d_law_some.qual d_law_some.params d_law_some.body d_law_some.scope (d_law_some.dvs K) (d_law_some.kws K) (He.fAd K ("_law_some", none)) fd) : FnG P w K mg base (TT K) (L2.CX P w) 4 (He.fAd K ("_law_some", none)) fd ["dice"] (spM K 1 f_law_some) := by
  have C_law_pick := ok_law_pick (P := P) (w := w) (base := base) T B
  refine def_okM (N := ["dice", "some"]) (ps := ["dice"]) F sc_law_some rfl fun cdv A0 outer0 s0 H0 E0 pa ca gd hr => ?_
  have tk := takes_of (X := dcx P w K mg base ["dice", "some"] d_law_some.qual d_law_some.scope (He.fAd K ("_law_some", none)) cdv A0 outer0 s0 H0 E0) (E := E0) rfl rfl rfl rfl
  have hp := passes_of (X := dcx P w K mg base ["dice", "some"] d_law_some.qual d_law_some.scope (He.fAd K ("_law_some", none)) cdv A0 outer0 s0 H0 E0) rfl
  exact (rss_cons (rs_asg (re_rn (rn_lst (ra_cons (ro_re re_non) (ra_cons (ro_re re_bl) (ra_cons (ro_re re_bl) (ra_cons (ro_re re_int) (ra_cons (ro_re re_int) (ra_cons (ro_re (re_un un_neg on_neg (ro_re re_int))) (ra_cons (ro_re (re_bin op_powX o2_pow (ro_re re_int) (ro_re re_int))) (ra_cons (ro_re re_str) (ra_cons (ro_re re_str) (ra_cons (ro_re re_str) (ra_cons (ro_re re_str) (ra_cons (ro_re re_str) (ra_cons (ro_re re_str) (ra_cons (ro_re re_str) (ra_cons (ro_re re_str) ra_nil))))))))))))))))) (rg_name (i := 1) sc_law_some.nd rfl (.inl rfl)))
  (rss_cons (rs_asg (re_bin op_addX o2_add (ro_name (i := 1) rfl (.inl rfl)) (ro_re (re_rn (rn_lst (ra_cons (ro_re (re_tup ra_nil)) (ra_cons (ro_re (re_tup (ra_cons (ro_re re_int) (ra_cons (ro_re re_int) ra_nil)))) (ra_cons (ro_re (re_tup (ra_cons (ro_re re_int) (ra_cons (ro_re re_int) ra_nil)))) (ra_cons (ro_re (re_tup (ra_cons (ro_re re_int) (ra_cons (ro_re re_int) ra_nil)))) (ra_cons (ro_re (re_tup (ra_cons (ro_re re_int) (ra_cons (ro_re re_int) ra_nil)))) (ra_cons (ro_re (re_tup (ra_cons (ro_re re_int) (ra_cons (ro_re re_int) ra_nil)))) (ra_cons (ro_re (re_tup (ra_cons (ro_re re_int) (ra_cons (ro_re (re_un un_neg on_neg (ro_re re_int))) ra_nil)))) (ra_cons (ro_re (re_tup (ra_cons (ro_re (re_un un_neg on_neg (ro_re re_int))) (ra_cons (ro_re re_int) ra_nil)))) (ra_cons (ro_re (re_tup (ra_cons (ro_re re_bl) (ra_cons (ro_re re_int) ra_nil)))) (ra_cons (ro_re (re_tup (ra_cons (ro_re re_int) (ra_cons (ro_re re_bl) ra_nil)))) (ra_cons (ro_re (re_rn (rn_lst (ra_cons (ro_re re_int) (ra_cons (ro_re re_int) ra_nil))))) (ra_cons (ro_re (re_tup (ra_cons (ro_re re_int) ra_nil))) ra_nil)))))))))))))))) (rg_name (i := 1) sc_law_some.nd rfl (.inl rfl)))
  (rss_cons (rs_asg (re_bin op_addX o2_add (ro_name (i := 1) rfl (.inl rfl)) (ro_re (re_rn (rn_lst (ra_cons (ro_re (re_tup (ra_cons (ro_re re_int) (ra_cons (ro_re re_int) (ra_cons (ro_re re_int) ra_nil))))) (ra_cons (ro_re (re_tup (ra_cons (ro_re (re_bin op_addX o2_add (ro_re (re_bin op_powX o2_pow (ro_re re_int) (ro_re re_int))) (ro_re re_int))) (ra_cons (ro_re (re_bin op_powX o2_pow (ro_re re_int) (ro_re re_int))) ra_nil)))) (ra_cons (ro_re (re_tup (ra_cons (ro_re (re_tup (ra_cons (ro_re re_int) (ra_cons (ro_re re_int) ra_nil)))) (ra_cons (ro_re re_int) ra_nil)))) (ra_cons (ro_re (re_tup (ra_cons (ro_re re_str) (ra_cons (ro_re re_int) ra_nil)))) (ra_cons (ro_re (re_tup (ra_cons (ro_re re_non) (ra_cons (ro_re re_int) ra_nil)))) (ra_cons (ro_re re_str) (ra_cons (ro_re (re_rm rm_dict0)) (ra_cons (ro_re (re_rm (rm_disp (rps_cons re_int re_int rps_nil)))) (ra_cons (ro_re re_str) (ra_cons (ro_re re_str) ra_nil)))))))))))))) (rg_name (i := 1) sc_law_some.nd rfl (.inl rfl)))
  (rss_one (rs_ret (ro_re (re_callMC C_law_pick gd hr tk (ra_cons (ro_name (i := 0) rfl (.inl rfl)) (ra_cons (ro_name (i := 1) rfl (.inl rfl)) ra_nil)))))))))
theorem ok_law_some {P : Program} {w : World} {K : PySem.W.Frag} {mg : Str → Option Value} {base : Heap} (T : Txt P K mg) (B : Tbs K mg base) : CalM P w K mg base (TT K) 4 "_law_some" 1 f_law_some [] := by
  obtain ⟨fd, F⟩ := T.c.def_ 27 (d := d_law_some) rfl
  exact CalM.mk0 F (g_law_some T) (body_law_some T B F) (fun _ _ _ _ _ _ us hl => match us, hl with | [_], _ => rfl)
theorem sc_sum_of : FnScope ["numbers", "found", "one"] ["numbers"] (defScope (top 25)) := ⟨rfl, rfl, rfl, by decide +kernel, rfl, by decide +kernel, by decide +kernel⟩
theorem body_sum_of {P : Program} {w : World} {K : PySem.W.Frag} {mg : Str → Option Value} {base : Heap} (T : Txt P K mg) (B : Tbs K mg base) {fd : FuncData} (F : FunD K d_sum_of.name d_sum_of.qual d_sum_of.params d_sum_of.body d_sum_of.scope (d_sum_of.dvs K) (d_sum_of.kws K) (He.fAd K ("sum_of", none)) fd) : FnG P w K mg base (TT K) (L2.CX P w) 5 (He.fAd K ("sum_of", none)) fd ["numbers"] (spD K 1 f_sum_of) := by
  have C_added := ok_added (P := P) (w := w) (base := base) T B
  refine def_okD (N := ["numbers", "found", "one"]) (ps := ["numbers"]) F sc_sum_of rfl fun cdv A0 outer0 s0 H0 E0 pa ca gd hr => ?_
  have tk := takes_of (X := dcx P w K mg base ["numbers", "found", "one"] d_sum_of.qual d_sum_of.scope (He.fAd K ("sum_of", none)) cdv A0 outer0 s0 H0 E0) (E := E0) rfl rfl rfl rfl
  have hp := passes_of (X := dcx P w K mg base ["numbers", "found", "one"] d_sum_of.qual d_sum_of.scope (He.fAd K ("sum_of", none)) cdv A0 outer0 s0 H0 E0) rfl
  exact (rss_cons (rs_asg (re_tupK (g_NOUGHT T) (t_NOUGHT T) (r_NOUGHT)) (rg_name (i := 1) sc_sum_of.nd rfl (.inl rfl)))
  (rss_cons (rs_for hp rfl (ri_any (ro_name (i := 0) rfl (.inl rfl))) (rg_name (i := 2) sc_sum_of.nd rfl (.inl rfl))
  (rss_one (rs_asg (re_callC C_added gd hr tk (ra_cons (ro_name (i := 1) rfl (.inl rfl)) (ra_cons (ro_name (i := 2) rfl (.inl rfl)) ra_nil))) (rg_name (i := 1) sc_sum_of.nd rfl (.inl rfl)))))
  (rss_one (rs_ret (ro_name (i := 1) rfl (.inl rfl))))))
theorem ok_sum_of {P : Program} {w : World} {K : PySem.W.Frag} {mg : Str → Option Value} {base : Heap} (T : Txt P K mg) (B : Tbs K mg base) : CalD P w K mg base (TT K) 5 "sum_of" 1 f_sum_of [] := by
  obtain ⟨fd, F⟩ := T.c.def_ 12 (d := d_sum_of) rfl
  exact CalD.mk0 F (g_sum_of T) (body_sum_of T B F) (fun _ _ _ _ _ _ us hl => match us, hl with | [_], _ => rfl)
theorem sc_plus : FnScope ["one", "other"] ["one", "other"] (defScope (top 26)) := ⟨rfl, rfl, rfl, by decide +kernel, rfl, by decide +kernel, by decide +kernel⟩
theorem body_plus {P : Program} {w : World} {K : PySem.W.Frag} {mg : Str → Option Value} {base : Heap} (T : Txt P K mg) (B : Tbs K mg base) {fd : FuncData} (F : FunD K d_plus.name d_plus.qual d_plus.params d_plus.body d_plus.scope (d_plus.dvs K) (d_plus.kws K) (He.fAd K ("plus", none)) fd) : FnG P w K mg base (TT K) (L2.CX P w) 5 (He.fAd K ("plus", none)) fd ["one", "other"] (spD K 2 f_plus) := by
  have C_added := ok_added (P := P) (w := w) (base := base) T B
  have C_require_number := ok_require_number (P := P) (w := w) (base := base) T B
  refine def_okD (N := ["one", "other"]) (ps := ["one", "other"]) F sc_plus rfl fun cdv A0 outer0 s0 H0 E0 pa ca gd hr => ?_
  have tk := takes_of (X := dcx P w K mg base ["one", "other"] d_plus.qual d_plus.scope (He.fAd K ("plus", none)) cdv A0 outer0 s0 H0 E0) (E := E0) rfl rfl rfl rfl
  have hp := passes_of (X := dcx P w K mg base ["one", "other"] d_plus.qual d_plus.scope (He.fAd K ("plus", none)) cdv A0 outer0 s0 H0 E0) rfl
  exact (rss_cons (rs_exp (re_callC C_require_number gd hr tk (ra_cons (ro_name (i := 0) rfl (.inl rfl)) ra_nil)))
  (rss_cons (rs_exp (re_callC C_require_number gd hr tk (ra_cons (ro_name (i := 1) rfl (.inl rfl)) ra_nil)))
  (rss_one (rs_ret (ro_re (re_callC C_added gd hr tk (ra_cons (ro_name (i := 0) rfl (.inl rfl)) (ra_cons (ro_name (i := 1) rfl (.inl rfl)) ra_nil))))))))
theorem ok_plus {P : Program} {w : World} {K : PySem.W.Frag} {mg : Str → Option Value} {base : Heap} (T : Txt P K mg) (B : Tbs K mg base) : CalD P w K mg base (TT K) 5 "plus" 2 f_plus [] := by
  obtain ⟨fd, F⟩ := T.c.def_ 13 (d := d_plus) rfl
  exact CalD.mk0 F (g_plus T) (body_plus T B F) (fun _ _ _ _ _ _ us hl => match us, hl with | [_, _], _ => rfl)
theorem sc_minus : FnScope ["one", "other"] ["one", "other"] (defScope (top 27)) := ⟨rfl, rfl, rfl, by decide +kernel, rfl, by decide +kernel, by decide +kernel⟩
theorem body_minus {P : Program} {w : World} {K : PySem.W.Frag} {mg : Str → Option Value} {base : Heap} (T : Txt P K mg) (B : Tbs K mg base) {fd : FuncData} (F : FunD K d_minus.name d_minus.qual d_minus.params d_minus.body d_minus.scope (d_minus.dvs K) (d_minus.kws K) (He.fAd K ("minus", none)) fd) : FnG P w K mg base (TT K) (L2.CX P w) 5 (He.fAd K ("minus", none)) fd ["one", "other"] (spD K 2 f_minus) := by
  have C_added := ok_added (P := P) (w := w) (base := base) T B
  have C_opposite := ok_opposite (P := P) (w := w) (base := base) T B
  have C_require_number := ok_require_number (P := P) (w := w) (base := base) T B
  refine def_okD (N := ["one", "other"]) (ps := ["one", "other"]) F sc_minus rfl fun cdv A0 outer0 s0 H0 E0 pa ca gd hr => ?_
  have tk := takes_of (X := dcx P w K mg base ["one", "other"] d_minus.qual d_minus.scope (He.fAd K ("minus", none)) cdv A0 outer0 s0 H0 E0) (E := E0) rfl rfl rfl rfl
  have hp := passes_of (X := dcx P w K mg base ["one", "other"] d_minus.qual d_minus.scope (He.fAd K ("minus", none)) cdv A0 outer0 s0 H0 E0) rfl
  exact (rss_cons (rs_exp (re_callC C_require_number gd hr tk (ra_cons (ro_name (i := 0) rfl (.inl rfl)) ra_nil)))
  (rss_cons (rs_exp (re_callC C_require_number gd hr tk (ra_cons (ro_name (i := 1) rfl (.inl rfl)) ra_nil)))
  (rss_one (rs_ret (ro_re (re_callC C_added gd hr tk (ra_cons (ro_name (i := 0) rfl (.inl rfl)) (ra_cons (ro_re (re_callC C_opposite gd hr tk (ra_cons (ro_name (i := 1) rfl (.inl rfl)) ra_nil))) ra_nil))))))))
theorem ok_minus {P : Program} {w : World} {K : PySem.W.Frag} {mg : Str → Option Value} {base : Heap} (T : Txt P K mg) (B : Tbs K mg base) : CalD P w K mg base (TT K) 5 "minus" 2 f_minus [] := by
  obtain ⟨fd, F⟩ := T.c.def_ 14 (d := d_minus) rfl
  exact CalD.mk0 F (g_minus T) (body_minus T B F) (fun _ _ _ _ _ _ us hl => match us, hl with | [_, _], _ => rfl)
theorem sc_times : FnScope ["one", "other"] ["one", "other"] (defScope (top 28)) := ⟨rfl, rfl, rfl, by decide +kernel, rfl, by decide +kernel, by decide +kernel⟩
theorem body_times {P : Program} {w : World} {K : PySem.W.Frag} {mg : Str → Option Value} {base : Heap} (T : Txt P K mg) (B : Tbs K mg base) {fd : FuncData} (F : FunD K d_times.name d_times.qual d_times.params d_times.body d_times.scope (d_times.dvs K) (d_times.kws K) (He.fAd K ("times", none)) fd) : FnG P w K mg base (TT K) (L2.CX P w) 5 (He.fAd K ("times", none)) fd ["one", "other"] (spD K 2 f_times) := by
  have C_multiplied := ok_multiplied (P := P) (w := w) (base := base) T B
  have C_require_number := ok_require_number (P := P) (w := w) (base := base) T B
  refine def_okD (N := ["one", "other"]) (ps := ["one", "other"]) F sc_times rfl fun cdv A0 outer0 s0 H0 E0 pa ca gd hr => ?_
  have tk := takes_of (X := dcx P w K mg base ["one", "other"] d_times.qual d_times.scope (He.fAd K ("times", none)) cdv A0 outer0 s0 H0 E0) (E := E0) rfl rfl rfl rfl
  have hp := passes_of (X := dcx P w K mg base ["one", "other"] d_times.qual d_times.scope (He.fAd K ("times", none)) cdv A0 outer0 s0 H0 E0) rfl
  exact (rss_cons (rs_exp (re_callC C_require_number gd hr tk (ra_cons (ro_name (i := 0) rfl (.inl rfl)) ra_nil)))
  (rss_cons (rs_exp (re_callC C_require_number gd hr tk (ra_cons (ro_name (i := 1) rfl (.inl rfl)) ra_nil)))
  (rss_one (rs_ret (ro_re (re_callC C_multiplied gd hr tk (ra_cons (ro_name (i := 0) rfl (.inl rfl)) (ra_cons (ro_name (i := 1) rfl (.inl rfl)) ra_nil))))))))
theorem ok_times {P : Program} {w : World} {K : PySem.W.Frag} {mg : Str → Option Value} {base : Heap} (T : Txt P K mg) (B : Tbs K mg base) : CalD P w K mg base (TT K) 5 "times" 2 f_times [] := by
  obtain ⟨fd, F⟩ := T.c.def_ 15 (d := d_times) rfl
  exact CalD.mk0 F (g_times T) (body_times T B F) (fun _ _ _ _ _ _ us hl => match us, hl with | [_, _], _ => rfl)
theorem sc_over : FnScope ["one", "other"] ["one", "other"] (defScope (top 29)) := ⟨rfl, rfl, rfl, by decide +kernel, rfl, by decide +kernel, by decide +kernel⟩
theorem body_over {P : Program} {w : World} {K : PySem.W.Frag} {mg : Str → Option Value} {base : Heap} (T : Txt P K mg) (B : Tbs K mg base) {fd : FuncData} (F : FunD K d_over.name d_over.qual d_over.params d_over.body d_over.scope (d_over.dvs K) (d_over.kws K) (He.fAd K ("over", none)) fd) : FnG P w K mg base (TT K) (L2.CX P w) 5 (He.fAd K ("over", none)) fd ["one", "other"] (spD K 2 f_over) := by
  have C_divided := ok_divided (P := P) (w := w) (base := base) T B
  have C_require_number := ok_require_number (P := P) (w := w) (base := base) T B
  refine def_okD (N := ["one", "other"]) (ps := ["one", "other"]) F sc_over rfl fun cdv A0 outer0 s0 H0 E0 pa ca gd hr => ?_
  have tk := takes_of (X := dcx P w K mg base ["one", "other"] d_over.qual d_over.scope (He.fAd K ("over", none)) cdv A0 outer0 s0 H0 E0) (E := E0) rfl rfl rfl rfl
  have hp := passes_of (X := dcx P w K mg base ["one", "other"] d_over.qual d_over.scope (He.fAd K ("over", none)) cdv A0 outer0 s0 H0 E0) rfl
  exact (rss_cons (rs_exp (re_callC C_require_number gd hr tk (ra_cons (ro_name (i := 0) rfl (.inl rfl)) ra_nil)))
  (rss_cons (rs_exp (re_callC C_require_number gd hr tk (ra_cons (ro_name (i := 1) rfl (.inl rfl)) ra_nil)))
  (rss_cons (rs_if (rt_cmp (op_eqD hr.units) o2_eq (ro_name (i := 1) rfl (.inl rfl)) (ro_re (re_tupK (g_NOUGHT T) (t_NOUGHT T) (r_NOUGHT))) (nomark _))
  (rss_one (rs_raiseS (sk_Refused (P := P) (w := w) (base := base) T) gd hr tk (re_tup (ra_cons (ro_re re_str) ra_nil))))
  rss_nil)
  (rss_one (rs_ret (ro_re (re_callC C_divided gd hr tk (ra_cons (ro_name (i := 0) rfl (.inl rfl)) (ra_cons (ro_name (i := 1) rfl (.inl rfl)) ra_nil)))))))))
theorem ok_over {P : Program} {w : World} {K : PySem.W.Frag} {mg : Str → Option Value} {base : Heap} (T : Txt P K mg) (B : Tbs K mg base) : CalD P w K mg base (TT K) 5 "over" 2 f_over [] := by
  obtain ⟨fd, F⟩ := T.c.def_ 16 (d := d_over) rfl
  exact CalD.mk0 F (g_over T) (body_over T B F) (fun _ _ _ _ _ _ us hl => match us, hl with | [_, _], _ => rfl)
theorem sc_compared : FnScope ["one", "other", "left", "right"] ["one", "other"] (defScope (top 30)) := ⟨rfl, rfl, rfl, by decide +kernel, rfl, by decide +kernel, by decide +kernel⟩
theorem body_compared {P : Program} {w : World} {K : PySem.W.Frag} {mg : Str → Option Value} {base : Heap} (T : Txt P K mg) (B : Tbs K mg base) {fd : FuncData} (F : FunD K d_compared.name d_compared.qual d_compared.params d_compared.body d_compared.scope (d_compared.dvs K) (d_compared.kws K) (He.fAd K ("compared", none)) fd) : FnG P w K mg base (TT K) (L2.CX P w) 5 (He.fAd K ("compared", none)) fd ["one", "other"] (spD K 2 f_compared) := by
  have C_require_number := ok_require_number (P := P) (w := w) (base := base) T B
  refine def_okD (N := ["one", "other", "left", "right"]) (ps := ["one", "other"]) F sc_compared rfl fun cdv A0 outer0 s0 H0 E0 pa ca gd hr => ?_
  have tk := takes_of (X := dcx P w K mg base ["one", "other", "left", "right"] d_compared.qual d_compared.scope (He.fAd K ("compared", none)) cdv A0 outer0 s0 H0 E0) (E := E0) rfl rfl rfl rfl
  have hp := passes_of (X := dcx P w K mg base ["one", "other", "left", "right"] d_compared.qual d_compared.scope (He.fAd K ("compared", none)) cdv A0 outer0 s0 H0 E0) rfl
  exact (rss_cons (rs_exp (re_callC C_require_number gd hr tk (ra_cons (ro_name (i := 0) rfl (.inl rfl)) ra_nil)))
  (rss_cons (rs_exp (re_callC C_require_number gd hr tk (ra_cons (ro_name (i := 1) rfl (.inl rfl)) ra_nil)))
  (rss_cons (rs_par (i := 2) (j := 3) rfl sc_compared.nd rfl rfl (by decide) rfl rfl (ra_cons (ro_re (re_bin op_mulY o2_mulY (ro_re (re_ix ix_X o2_ix (ro_name (i := 0) rfl (.inl rfl)) (ro_re re_int) fun _ _ => rfl)) (ro_re (re_ix ix_X o2_ix (ro_name (i := 1) rfl (.inl rfl)) (ro_re re_int) fun _ _ => rfl)))) (ra_cons (ro_re (re_bin op_mulY o2_mulY (ro_re (re_ix ix_X o2_ix (ro_name (i := 1) rfl (.inl rfl)) (ro_re re_int) fun _ _ => rfl)) (ro_re (re_ix ix_X o2_ix (ro_name (i := 0) rfl (.inl rfl)) (ro_re re_int) fun _ _ => rfl)))) ra_nil)) rfl)
  (rss_one (rs_ret (ro_re (re_bin op_sub o2_sub (ro_re (re_callTy call_int1 on_int rfl (g_int T) (by decide +kernel) (ra_cons (ro_re (re_cmp op_gt o2_gt (ro_name (i := 2) rfl (.inl rfl)) (ro_name (i := 3) rfl (.inl rfl)) (nomark _))) ra_nil))) (ro_re (re_callTy call_int1 on_int rfl (g_int T) (by decide +kernel) (ra_cons (ro_re (re_cmp op_ltY o2_ltY (ro_name (i := 2) rfl (.inl rfl)) (ro_name (i := 3) rfl (.inl rfl)) (nomark _))) ra_nil))))))))))
theorem ok_compared {P : Program} {w : World} {K : PySem.W.Frag} {mg : Str → Option Value} {base : Heap} (T : Txt P K mg) (B : Tbs K mg base) : CalD P w K mg base (TT K) 5 "compared" 2 f_compared [] := by
  obtain ⟨fd, F⟩ := T.c.def_ 17 (d := d_compared) rfl
  exact CalD.mk0 F (g_compared T) (body_compared T B F) (fun _ _ _ _ _ _ us hl => match us, hl with | [_, _], _ => rfl)
theorem sc_power : FnScope ["one", "many", "found", "_"] ["one", "many"] (defScope (top 32)) := ⟨rfl, rfl, rfl, by decide +kernel, rfl, by decide +kernel, by decide +kernel⟩
theorem body_power {P : Program} {w : World} {K : PySem.W.Frag} {mg : Str → Option Value} {base : Heap} (T : Txt P K mg) (B : Tbs K mg base) {fd : FuncData} (F : FunD K d_power.name d_power.qual d_power.params d_power.body d_power.scope (d_power.dvs K) (d_power.kws K) (He.fAd K ("power", none)) fd) : FnG P w K mg base (TT K) (L2.CX P w) 5 (He.fAd K ("power", none)) fd ["one", "many"] (spD K 2 f_power) := by
  have C_multiplied := ok_multiplied (P := P) (w := w) (base := base) T B
  have C_require_count_1 := ok_require_count_1 (P := P) (w := w) (base := base) T B
  have C_require_number := ok_require_number (P := P) (w := w) (base := base) T B
  refine def_okD (N := ["one", "many", "found", "_"]) (ps := ["one", "many"]) F sc_power rfl fun cdv A0 outer0 s0 H0 E0 pa ca gd hr => ?_
  have tk := takes_of (X := dcx P w K mg base ["one", "many", "found", "_"] d_power.qual d_power.scope (He.fAd K ("power", none)) cdv A0 outer0 s0 H0 E0) (E := E0) rfl rfl rfl rfl
  have hp := passes_of (X := dcx P w K mg base ["one", "many", "found", "_"] d_power.qual d_power.scope (He.fAd K ("power", none)) cdv A0 outer0 s0 H0 E0) rfl
  exact (rss_cons (rs_exp (re_callC C_require_number gd hr tk (ra_cons (ro_name (i := 0) rfl (.inl rfl)) ra_nil)))
  (rss_cons (rs_exp (re_callC C_require_count_1 gd hr tk (ra_cons (ro_name (i := 1) rfl (.inl rfl)) ra_nil)))
  (rss_cons (rs_asg (re_tupK (g_ONE T) (t_ONE T) (r_ONE)) (rg_name (i := 2) sc_power.nd rfl (.inl rfl)))
  (rss_cons (rs_for hp rfl (ri_rng1 rfl (g_range T) (ra_cons (ro_name (i := 1) rfl (.inl rfl)) ra_nil)) (rg_name (i := 3) sc_power.nd rfl (.inl rfl))
  (rss_one (rs_asg (re_callC C_multiplied gd hr tk (ra_cons (ro_name (i := 2) rfl (.inl rfl)) (ra_cons (ro_name (i := 0) rfl (.inl rfl)) ra_nil))) (rg_name (i := 2) sc_power.nd rfl (.inl rfl)))))
  (rss_one (rs_ret (ro_name (i := 2) rfl (.inl rfl))))))))
theorem ok_power {P : Program} {w : World} {K : PySem.W.Frag} {mg : Str → Option Value} {base : Heap} (T : Txt P K mg) (B : Tbs K mg base) : CalD P w K mg base (TT K) 5 "power" 2 f_power [] := by
  obtain ⟨fd, F⟩ := T.c.def_ 19 (d := d_power) rfl
  exact CalD.mk0 F (g_power T) (body_power T B F) (fun _ _ _ _ _ _ us hl => match us, hl with | [_, _], _ => rfl)
theorem sc_total : FnScope ["numbers", "one"] ["numbers"] (defScope (top 31)) := ⟨rfl, rfl, rfl, by decide +kernel, rfl, by decide +kernel, by decide +kernel⟩
theorem body_total {P : Program} {w : World} {K : PySem.W.Frag} {mg : Str → Option Value} {base : Heap} (T : Txt P K mg) (B : Tbs K mg base) {fd : FuncData} (F : FunD K d_total.name d_total.qual d_total.params d_total.body d_total.scope (d_total.dvs K) (d_total.kws K) (He.fAd K ("total", none)) fd) : FnG P w K mg base (TT K) (L2.CX P w) 6 (He.fAd K ("total", none)) fd ["numbers"] (spD K 1 f_total) := by
  have C_is_number := ok_is_number (P := P) (w := w) (base := base) T B
  have C_sum_of := ok_sum_of (P := P) (w := w) (base := base) T B
  refine def_okD (N := ["numbers", "one"]) (ps := ["numbers"]) F sc_total rfl fun cdv A0 outer0 s0 H0 E0 pa ca gd hr => ?_
  have tk := takes_of (X := dcx P w K mg base ["numbers", "one"] d_total.qual d_total.scope (He.fAd K ("total", none)) cdv A0 outer0 s0 H0 E0) (E := E0) rfl rfl rfl rfl
  have hp := passes_of (X := dcx P w K mg base ["numbers", "one"] d_total.qual d_total.scope (He.fAd K ("total", none)) cdv A0 outer0 s0 H0 E0) rfl
  exact (rss_cons (rs_if (rt_rw (rw_or (rt_not (rt_val (re_callB call_isi on_isiY rfl (g_isinstance T) (by decide +kernel) (ra_cons (ro_name (i := 0) rfl (.inl rfl)) (ra_cons (ro_re (re_bty (g_tuple T) (by decide +kernel))) ra_nil))))) (rw_or1 (rt_not (rt_val (re_callB (cr_all rfl) on_all rfl (g_all T) (by decide +kernel) (ra_cons (ro_re (re_rn (rn_lc (own := [("one", 1)]) (is := [1]) rfl sc_total.nd (ri_any (ro_name (i := 0) rfl (.inl rfl))) (blkOk_by rfl) (by decide) (fun _ _ _ _ _ => (rg_name (i := 1) sc_total.nd rfl (.inl rfl))) (fun _ _ _ _ _ => rts_nil) (fun _ _ _ _ _ => (ro_re (re_callC C_is_number gd hr takes0 (ra_cons (ro_name (i := 1) rfl (.inl rfl)) ra_nil))))))) ra_nil)))))))
  (rss_one (rs_raise0 PySem.F.excBase_ValueError (pl_InvalidFraction T) (g_InvalidFraction T) tk))
  rss_nil)
  (rss_one (rs_ret (ro_re (re_callC C_sum_of gd hr tk (ra_cons (ro_name (i := 0) rfl (.inl rfl)) ra_nil))))))
theorem ok_total {P : Program} {w : World} {K : PySem.W.Frag} {mg : Str → Option Value} {base : Heap} (T : Txt P K mg) (B : Tbs K mg base) : CalD P w K mg base (TT K) 6 "total" 1 f_total [] := by
  obtain ⟨fd, F⟩ := T.c.def_ 18 (d := d_total) rfl
  exact CalD.mk0 F (g_total T) (body_total T B F) (fun _ _ _ _ _ _ us hl => match us, hl with | [_], _ => rfl)
theorem sc_law_right : FnScope ["dice", "told", "due", "is_top", "is_bottom", "value", "wrong", "is_whole", "bad", "one", "plain"] ["dice"] (defScope (top 42)) := ⟨rfl, rfl, rfl, by decide +kernel, rfl, by decide +kernel, by decide +kernel⟩
theorem body_law_right {P : Program} {w : World} {K : PySem.W.Frag} {mg : Str → Option Value} {base : Heap} (T : Txt P K mg) (B : Tbs K mg base) {fd : FuncData} (F : FunD K d_law_right.name d_law_right.qual d_law_right.params d_law_right.body d_law_right.scope (d_law_right.dvs K) (d_law_right.kws K) (He.fAd K ("_law_right", none)) fd) : FnG P w K mg base (TT K) (L2.CX P w) 9 (He.fAd K ("_law_right", none)) fd ["dice"] (spM K 1 f_law_right) := by
  have C_compared := ok_compared (P := P) (w := w) (base := base) T B
  have C_is_integer := ok_is_integer (P := P) (w := w) (base := base) T B
  have C_is_name := ok_is_name (P := P) (w := w) (base := base) T B
  have C_is_number := ok_is_number (P := P) (w := w) (base := base) T B
  have C_law_is_name := ok_law_is_name (P := P) (w := w) (base := base) T B
  have C_law_is_number := ok_law_is_number (P := P) (w := w) (base := base) T B
  have C_law_some := ok_law_some (P := P) (w := w) (base := base) T B
  have C_minus := ok_minus (P := P) (w := w) (base := base) T B
  have C_number := ok_number (P := P) (w := w) (base := base) T B
  have C_over := ok_over (P := P) (w := w) (base := base) T B
  have C_plus := ok_plus (P := P) (w := w) (base := base) T B
  have C_power := ok_power (P := P) (w := w) (base := base) T B
  have C_times := ok_times (P := P) (w := w) (base := base) T B
  have C_total := ok_total (P := P) (w := w) (base := base) T B
  refine def_okM (N := ["dice", "told", "due", "is_top", "is_bottom", "value", "wrong", "is_whole", "bad", "one", "plain"]) (ps := ["dice"]) F sc_law_right rfl fun cdv A0 outer0 s0 H0 E0 pa ca gd hr => ?_
  obtain rfl := ca.eq
  have tk := takes_of (X := dcx P w K mg base ["dice", "told", "due", "is_top", "is_bottom", "value", "wrong", "is_whole", "bad", "one", "plain"] d_law_right.qual d_law_right.scope (He.fAd K ("_law_right", none)) (.ref (He.codeOf K ("_law_right", none))) A0 outer0 s0 H0 E0) (E := E0) rfl rfl rfl rfl
  have hp := passes_of (X := dcx P w K mg base ["dice", "told", "due", "is_top", "is_bottom", "value", "wrong", "is_whole", "bad", "one", "plain"] d_law_right.qual d_law_right.scope (He.fAd K ("_law_right", none)) (.ref (He.codeOf K ("_law_right", none))) A0 outer0 s0 H0 E0) rfl
  exact (rss_cons (rs_asg (re_tup (ra_cons (ro_re (re_callMC C_law_some gd hr tk (ra_cons (ro_name (i := 0) rfl (.inl rfl)) ra_nil))) (ra_cons (ro_re (re_callMC C_law_some gd hr tk (ra_cons (ro_name (i := 0) rfl (.inl rfl)) ra_nil))) ra_nil))) (rg_tup rfl (rgs_cons (rg_name (i := 5) sc_law_right.nd rfl (.inr rfl)) (rgs_cons (rg_name (i := 6) sc_law_right.nd rfl (.inr rfl)) rgs_nil))))
  (rss_cons (rs_par (i := 7) (j := 8) rfl sc_law_right.nd rfl rfl (by decide) rfl rfl (ra_cons (ro_re (re_and (re_callB call_isi on_isiY rfl (g_isinstance T) (by decide +kernel) (ra_cons (ro_name (i := 5) rfl (.inr (.inl rfl))) (ra_cons (ro_re (re_bty (g_int T) (by decide +kernel))) ra_nil))) (re_one (re_not (re_callB call_isi on_isiY rfl (g_isinstance T) (by decide +kernel) (ra_cons (ro_name (i := 5) rfl (.inr (.inl rfl))) (ra_cons (ro_re (re_bty (g_bool T) (by decide +kernel))) ra_nil))))))) (ra_cons (ro_re (re_not (re_callC C_law_is_number gd hr tk (ra_cons (ro_name (i := 5) rfl (.inr (.inl rfl))) ra_nil)))) ra_nil)) rfl)
  (rss_cons (rs_if (rt_cmp (op_neD hr.units) o2_ne (ro_re (re_callB (call_reprY gd.rg (Mir.Room.u200 hr) gd.ns) on_reprY rfl (g_repr T) (by decide +kernel) (ra_cons (ro_re (re_rn (rn_lst (ra_cons (ro_re (re_callC C_is_integer gd hr tk (ra_cons (ro_name (i := 5) rfl (.inr (.inl rfl))) ra_nil))) (ra_cons (ro_re (re_callC C_is_name gd hr tk (ra_cons (ro_name (i := 5) rfl (.inr (.inl rfl))) ra_nil))) (ra_cons (ro_re (re_callC C_is_number gd hr tk (ra_cons (ro_name (i := 5) rfl (.inr (.inl rfl))) ra_nil))) ra_nil)))))) ra_nil))) (ro_re (re_callB (call_reprY gd.rg (Mir.Room.u200 hr) gd.ns) on_reprY rfl (g_repr T) (by decide +kernel) (ra_cons (ro_re (re_rn (rn_lst (ra_cons (ro_name (i := 7) rfl (.inl rfl)) (ra_cons (ro_re (re_callC C_law_is_name gd hr tk (ra_cons (ro_name (i := 5) rfl (.inr (.inl rfl))) ra_nil))) (ra_cons (ro_re (re_not (re_ro (ro_name (i := 8) rfl (.inl rfl))))) ra_nil)))))) ra_nil))) (nomark _))
  (rss_one (rs_ret (ro_re re_bl)))
  rss_nil)
  (rss_cons (rs_asg (re_tup (ra_cons (ro_re (re_tup (ra_cons (ro_re re_int) (ra_cons (ro_re re_int) ra_nil)))) (ra_cons (ro_re (re_ifExp (rt_val (re_ro (ro_name (i := 8) rfl (.inl rfl)))) re_str re_str)) ra_nil))) (rg_tup rfl (rgs_cons (rg_name (i := 9) sc_law_right.nd rfl (.inr rfl)) (rgs_cons (rg_name (i := 10) sc_law_right.nd rfl (.inl rfl)) rgs_nil))))
  (rss_cons (rs_asg (re_rn (rn_lst (ra_cons (ro_re (re_word (k := 6) (wd_law_word (P := P) (w := w) (base := base) T) gd hr (B _ (cs_at 0 rfl)) rfl (tt_at 0 rfl) (show nmG 162 0 = ((PySem.Str.ofString "_law_right") ++ (PySem.Str.ofString ".<locals>.")) ++ (PySem.Str.ofString "<lambda>") by decide +kernel) (LamX.lamS_by (sc := d_law_right.scope) (by decide +kernel)) rfl (fun _ _ _ _ _ => rfl) (fun A outer s H E lf lc gd hr => (re_callC C_plus gd hr (takes_of rfl rfl rfl rfl) (ra_cons (ro_name (i := 5) rfl (.inr (.inr rfl))) (ra_cons (ro_name (i := 6) rfl (.inr (.inr rfl))) ra_nil)))) rfl)) (ra_cons (ro_re (re_word (k := 6) (wd_law_word (P := P) (w := w) (base := base) T) gd hr (B _ (cs_at 0 rfl)) rfl (tt_at 0 rfl) (show nmG 163 0 = ((PySem.Str.ofString "_law_right") ++ (PySem.Str.ofString ".<locals>.")) ++ (PySem.Str.ofString "<lambda>") by decide +kernel) (LamX.lamS_by (sc := d_law_right.scope) (by decide +kernel)) rfl (fun _ _ _ _ _ => rfl) (fun A outer s H E lf lc gd hr => (re_callC C_minus gd hr (takes_of rfl rfl rfl rfl) (ra_cons (ro_name (i := 9) rfl (.inr (.inr rfl))) (ra_cons (ro_name (i := 5) rfl (.inr (.inr rfl))) ra_nil)))) rfl)) ra_nil)))) (rg_name (i := 1) sc_law_right.nd rfl (.inl rfl)))
  (rss_cons (rs_asg (re_bin op_addX o2_add (ro_name (i := 1) rfl (.inl rfl)) (ro_re (re_rn (rn_lst (ra_cons (ro_re (re_word (k := 6) (wd_law_word (P := P) (w := w) (base := base) T) gd hr (B _ (cs_at 0 rfl)) rfl (tt_at 0 rfl) (show nmG 165 0 = ((PySem.Str.ofString "_law_right") ++ (PySem.Str.ofString ".<locals>.")) ++ (PySem.Str.ofString "<lambda>") by decide +kernel) (LamX.lamS_by (sc := d_law_right.scope) (by decide +kernel)) rfl (fun _ _ _ _ _ => rfl) (fun A outer s H E lf lc gd hr => (re_callC C_times gd hr (takes_of rfl rfl rfl rfl) (ra_cons (ro_name (i := 5) rfl (.inr (.inr rfl))) (ra_cons (ro_name (i := 9) rfl (.inr (.inr rfl))) ra_nil)))) rfl)) (ra_cons (ro_re (re_word (k := 6) (wd_law_word (P := P) (w := w) (base := base) T) gd hr (B _ (cs_at 0 rfl)) rfl (tt_at 0 rfl) (show nmG 166 0 = ((PySem.Str.ofString "_law_right") ++ (PySem.Str.ofString ".<locals>.")) ++ (PySem.Str.ofString "<lambda>") by decide +kernel) (LamX.lamS_by (sc := d_law_right.scope) (by decide +kernel)) rfl (fun _ _ _ _ _ => rfl) (fun A outer s H E lf lc gd hr => (re_callC C_compared gd hr (takes_of rfl rfl rfl rfl) (ra_cons (ro_name (i := 9) rfl (.inr (.inr rfl))) (ra_cons (ro_name (i := 5) rfl (.inr (.inr rfl))) ra_nil)))) rfl)) ra_nil)))))) (rg_name (i := 1) sc_law_right.nd rfl (.inl rfl)))
  (rss_cons (rs_new (i := 2) sc_law_right.nd rfl (.inl rfl) (rm_rn (rn_cat (ro_re (re_rn (rn_lst (ra_cons (ro_re (re_ifExp (rt_rw (rw_and (rt_not (rt_val (re_ro (ro_name (i := 8) rfl (.inl rfl))))) (rw_and1 (rt_val (re_callC C_law_is_number gd hr tk (ra_cons (ro_name (i := 6) rfl (.inr (.inl rfl))) ra_nil)))))) re_str re_str)) ra_nil)))) (ro_re (re_bin op_mulY o2_mulY (ro_re (re_rn (rn_lst (ra_cons (ro_name (i := 10) rfl (.inl rfl)) ra_nil)))) (ro_re re_int))))))
  (rss_cons (rs_asg (re_bin op_addX o2_add (ro_name (i := 1) rfl (.inl rfl)) (ro_re (re_rn (rn_lst (ra_cons (ro_re (re_word (k := 6) (wd_law_word (P := P) (w := w) (base := base) T) gd hr (B _ (cs_at 0 rfl)) rfl (tt_at 0 rfl) (show nmG 169 0 = ((PySem.Str.ofString "_law_right") ++ (PySem.Str.ofString ".<locals>.")) ++ (PySem.Str.ofString "<lambda>") by decide +kernel) (LamX.lamS_by (sc := d_law_right.scope) (by decide +kernel)) rfl (fun _ _ _ _ _ => rfl) (fun A outer s H E lf lc gd hr => (re_callC C_over gd hr (takes_of rfl rfl rfl rfl) (ra_cons (ro_name (i := 5) rfl (.inr (.inr rfl))) (ra_cons (ro_re (re_tup (ra_cons (ro_re re_int) (ra_cons (ro_re re_int) ra_nil)))) ra_nil)))) rfl)) (ra_cons (ro_re (re_word (k := 6) (wd_law_word (P := P) (w := w) (base := base) T) gd hr (B _ (cs_at 0 rfl)) rfl (tt_at 0 rfl) (show nmG 170 0 = ((PySem.Str.ofString "_law_right") ++ (PySem.Str.ofString ".<locals>.")) ++ (PySem.Str.ofString "<lambda>") by decide +kernel) (LamX.lamS_by (sc := d_law_right.scope) (by decide +kernel)) rfl (fun _ _ _ _ _ => rfl) (fun A outer s H E lf lc gd hr => (re_callC C_over gd hr (takes_of rfl rfl rfl rfl) (ra_cons (ro_name (i := 9) rfl (.inr (.inr rfl))) (ra_cons (ro_name (i := 5) rfl (.inr (.inr rfl))) ra_nil)))) rfl)) ra_nil)))))) (rg_name (i := 1) sc_law_right.nd rfl (.inl rfl)))
  (rss_cons (rs_new (i := 2) sc_law_right.nd rfl (.inl rfl) (rm_rn (rn_cat (ro_name (i := 2) rfl (.inl rfl)) (ro_re (re_rn (rn_lst (ra_cons (ro_re (re_ifExp (rt_val (re_ro (ro_name (i := 8) rfl (.inl rfl)))) re_str re_str)) ra_nil)))))))
  (rss_cons (rs_app (i := 2) rfl (.inl rfl) (ro_re (re_ifExp (rt_cmp (op_eqD hr.units) o2_eq (ro_re (re_callB (call_reprY gd.rg (Mir.Room.u200 hr) gd.ns) on_reprY rfl (g_repr T) (by decide +kernel) (ra_cons (ro_name (i := 5) rfl (.inr (.inl rfl))) ra_nil))) (ro_re re_str) (nomark _)) re_str (re_ro (ro_name (i := 10) rfl (.inl rfl))))))
  (rss_cons (rs_asg (re_bin op_addX o2_add (ro_name (i := 1) rfl (.inl rfl)) (ro_re (re_rn (rn_lst (ra_cons (ro_re (re_word (k := 6) (wd_law_word (P := P) (w := w) (base := base) T) gd hr (B _ (cs_at 0 rfl)) rfl (tt_at 0 rfl) (show nmG 174 0 = ((PySem.Str.ofString "_law_right") ++ (PySem.Str.ofString ".<locals>.")) ++ (PySem.Str.ofString "<lambda>") by decide +kernel) (LamX.lamS_by (sc := d_law_right.scope) (by decide +kernel)) rfl (fun _ _ _ _ _ => rfl) (fun A outer s H E lf lc gd hr => (re_callC C_total gd hr (takes_of rfl rfl rfl rfl) (ra_cons (ro_re (re_tup (ra_cons (ro_name (i := 9) rfl (.inr (.inr rfl))) (ra_cons (ro_name (i := 5) rfl (.inr (.inr rfl))) ra_nil)))) ra_nil))) rfl)) (ra_cons (ro_re (re_word (k := 6) (wd_law_word (P := P) (w := w) (base := base) T) gd hr (B _ (cs_at 0 rfl)) rfl (tt_at 0 rfl) (show nmG 175 0 = ((PySem.Str.ofString "_law_right") ++ (PySem.Str.ofString ".<locals>.")) ++ (PySem.Str.ofString "<lambda>") by decide +kernel) (LamX.lamS_by (sc := d_law_right.scope) (by decide +kernel)) rfl (fun _ _ _ _ _ => rfl) (fun A outer s H E lf lc gd hr => (re_callC C_total gd hr (takes_of rfl rfl rfl rfl) (ra_cons (ro_name (i := 5) rfl (.inr (.inr rfl))) ra_nil))) rfl)) ra_nil)))))) (rg_name (i := 1) sc_law_right.nd rfl (.inl rfl)))
  (rss_cons (rs_new (i := 2) sc_law_right.nd rfl (.inl rfl) (rm_rn (rn_cat (ro_name (i := 2) rfl (.inl rfl)) (ro_re (re_rn (rn_lst (ra_cons (ro_name (i := 10) rfl (.inl rfl)) (ra_cons (ro_re (re_ifExp (rt_cmp (op_eqD hr.units) o2_eq (ro_re (re_callB (call_reprY gd.rg (Mir.Room.u200 hr) gd.ns) on_reprY rfl (g_repr T) (by decide +kernel) (ra_cons (ro_name (i := 5) rfl (.inr (.inl rfl))) ra_nil))) (ro_re re_str) (nomark _)) re_str re_str)) ra_nil))))))))
  (rss_cons (rs_asg (re_bin op_addX o2_add (ro_name (i := 1) rfl (.inl rfl)) (ro_re (re_rn (rn_lst (ra_cons (ro_re (re_word (k := 6) (wd_law_word (P := P) (w := w) (base := base) T) gd hr (B _ (cs_at 0 rfl)) rfl (tt_at 0 rfl) (show nmG 178 0 = ((PySem.Str.ofString "_law_right") ++ (PySem.Str.ofString ".<locals>.")) ++ (PySem.Str.ofString "<lambda>") by decide +kernel) (LamX.lamS_by (sc := d_law_right.scope) (by decide +kernel)) rfl (fun _ _ _ _ _ => rfl) (fun A outer s H E lf lc gd hr => (re_callC C_power gd hr (takes_of rfl rfl rfl rfl) (ra_cons (ro_name (i := 5) rfl (.inr (.inr rfl))) (ra_cons (ro_re (re_un un_neg on_neg (ro_re re_int))) ra_nil)))) rfl)) (ra_cons (ro_re (re_word (k := 6) (wd_law_word (P := P) (w := w) (base := base) T) gd hr (B _ (cs_at 0 rfl)) rfl (tt_at 0 rfl) (show nmG 179 0 = ((PySem.Str.ofString "_law_right") ++ (PySem.Str.ofString ".<locals>.")) ++ (PySem.Str.ofString "<lambda>") by decide +kernel) (LamX.lamS_by (sc := d_law_right.scope) (by decide +kernel)) rfl (fun _ _ _ _ _ => rfl) (fun A outer s H E lf lc gd hr => (re_callC C_power gd hr (takes_of rfl rfl rfl rfl) (ra_cons (ro_name (i := 9) rfl (.inr (.inr rfl))) (ra_cons (ro_name (i := 5) rfl (.inr (.inr rfl))) ra_nil)))) rfl)) ra_nil)))))) (rg_name (i := 1) sc_law_right.nd rfl (.inl rfl)))
  (rss_cons (rs_new (i := 2) sc_law_right.nd rfl (.inl rfl) (rm_rn (rn_cat (ro_name (i := 2) rfl (.inl rfl)) (ro_re (re_rn (rn_lst (ra_cons (ro_re (re_ifExp (rt_val (re_ro (ro_name (i := 8) rfl (.inl rfl)))) re_str re_str)) ra_nil)))))))
  (rss_cons (rs_app (i := 2) rfl (.inl rfl) (ro_re (re_ifExp (rt_rw (rw_and (rt_val (re_ro (ro_name (i := 7) rfl (.inl rfl)))) (rw_and1 (rt_chain op_leY op_leY o2_leY o2_leY (ro_re re_int) (ro_name (i := 5) rfl (.inr (.inl rfl))) (ro_re re_int))))) re_str (re_bin op_addX o2_add (ro_re re_str) (ro_re (re_callB (call_reprY gd.rg (Mir.Room.u200 hr) gd.ns) on_reprY rfl (g_repr T) (by decide +kernel) (ra_cons (ro_name (i := 5) rfl (.inr (.inl rfl))) ra_nil)))))))
  (rss_cons (rs_if (rt_cmp (op_neD hr.units) o2_ne (ro_name (i := 1) rfl (.inl rfl)) (ro_name (i := 2) rfl (.inl rfl)) (nomark _))
  (rss_one (rs_ret (ro_re re_bl)))
  rss_nil)
  (rss_cons (rs_asg (re_and (re_ro (ro_name (i := 7) rfl (.inl rfl))) (re_one (re_cmp op_ltY o2_ltY (ro_re (re_callB call_abs on_abs rfl (g_abs T) (by decide +kernel) (ra_cons (ro_name (i := 5) rfl (.inr (.inl rfl))) ra_nil))) (ro_re (re_bin op_powX o2_pow (ro_re re_int) (ro_re re_int))) (nomark _)))) (rg_name (i := 3) sc_law_right.nd rfl (.inl rfl)))
  (rss_cons (rs_asg (re_and (re_callB call_isi on_isiY rfl (g_isinstance T) (by decide +kernel) (ra_cons (ro_name (i := 6) rfl (.inr (.inl rfl))) (ra_cons (ro_re (re_bty (g_int T) (by decide +kernel))) ra_nil))) (re_and (re_not (re_callB call_isi on_isiY rfl (g_isinstance T) (by decide +kernel) (ra_cons (ro_name (i := 6) rfl (.inr (.inl rfl))) (ra_cons (ro_re (re_bty (g_bool T) (by decide +kernel))) ra_nil)))) (re_and (re_cmp op_ltY o2_ltY (ro_re (re_callB call_abs on_abs rfl (g_abs T) (by decide +kernel) (ra_cons (ro_name (i := 6) rfl (.inr (.inl rfl))) ra_nil))) (ro_re (re_bin op_powX o2_pow (ro_re re_int) (ro_re re_int))) (nomark _)) (re_one (re_cmp (op_neD hr.units) o2_ne (ro_name (i := 6) rfl (.inr (.inl rfl))) (ro_re re_int) (nomark _)))))) (rg_name (i := 4) sc_law_right.nd rfl (.inl rfl)))
  (rss_cons (rs_asg (re_rn (rn_lst (ra_cons (ro_re (re_word (k := 6) (wd_law_word (P := P) (w := w) (base := base) T) gd hr (B _ (cs_at 0 rfl)) rfl (tt_at 0 rfl) (show nmG 187 0 = ((PySem.Str.ofString "_law_right") ++ (PySem.Str.ofString ".<locals>.")) ++ (PySem.Str.ofString "<lambda>") by decide +kernel) (LamX.lamS_by (sc := d_law_right.scope) (by decide +kernel)) rfl (fun _ _ _ _ _ => rfl) (fun A outer s H E lf lc gd hr => (re_callC C_number gd hr (takes_of rfl rfl rfl rfl) (ra_cons (ro_name (i := 5) rfl (.inr (.inr rfl))) (ra_cons (ro_name (i := 6) rfl (.inr (.inr rfl))) ra_nil)))) rfl)) (ra_cons (ro_re (re_word (k := 6) (wd_law_word (P := P) (w := w) (base := base) T) gd hr (B _ (cs_at 0 rfl)) rfl (tt_at 0 rfl) (show nmG 188 0 = ((PySem.Str.ofString "_law_right") ++ (PySem.Str.ofString ".<locals>.")) ++ (PySem.Str.ofString "<lambda>") by decide +kernel) (LamX.lamS_by (sc := d_law_right.scope) (by decide +kernel)) rfl (fun _ _ _ _ _ => rfl) (fun A outer s H E lf lc gd hr => (re_callC C_number gd hr (takes_of rfl rfl rfl rfl) (ra_cons (ro_re re_int) (ra_cons (ro_name (i := 5) rfl (.inr (.inr rfl))) ra_nil)))) rfl)) ra_nil)))) (rg_name (i := 1) sc_law_right.nd rfl (.inl rfl)))
  (rss_cons (rs_asg (re_ifExp (rt_not (rt_val (re_ro (ro_name (i := 3) rfl (.inl rfl))))) (re_bin op_addX o2_add (ro_re re_str) (ro_re (re_callB (call_reprY gd.rg (Mir.Room.u200 hr) gd.ns) on_reprY rfl (g_repr T) (by decide +kernel) (ra_cons (ro_name (i := 5) rfl (.inr (.inl rfl))) ra_nil)))) (re_ifExp (rt_val (re_ro (ro_name (i := 4) rfl (.inl rfl)))) re_str (re_bin op_addX o2_add (ro_re re_str) (ro_re (re_callB (call_reprY gd.rg (Mir.Room.u200 hr) gd.ns) on_reprY rfl (g_repr T) (by decide +kernel) (ra_cons (ro_name (i := 6) rfl (.inr (.inl rfl))) ra_nil)))))) (rg_name (i := 2) sc_law_right.nd rfl (.inl rfl)))
  (rss_one (rs_ret (ro_re (re_cmp (op_eqD hr.units) o2_eq (ro_name (i := 1) rfl (.inl rfl)) (ro_re (re_rn (rn_lst (ra_cons (ro_name (i := 2) rfl (.inl rfl)) (ra_cons (ro_re (re_ifExp (rt_rw (rw_and (rt_val (re_ro (ro_name (i := 3) rfl (.inl rfl)))) (rw_and1 (rt_cmp (op_neD hr.units) o2_ne (ro_name (i := 5) rfl (.inr (.inl rfl))) (ro_re re_int) (nomark _))))) re_str (re_bin op_addX o2_add (ro_re re_str) (ro_re (re_callB (call_reprY gd.rg (Mir.Room.u200 hr) gd.ns) on_reprY rfl (g_repr T) (by decide +kernel) (ra_cons (ro_name (i := 5) rfl (.inr (.inl rfl))) ra_nil)))))) ra_nil))))) (nomark _)))))))))))))))))))))))))
theorem ok_law_right {P : Program} {w : World} {K : PySem.W.Frag} {mg : Str → Option Value} {base : Heap} (T : Txt P K mg) (B : Tbs K mg base) : CalM P w K mg base (TT K) 9 "_law_right" 1 f_law_right [] := by
  obtain ⟨fd, F⟩ := T.c.def_ 28 (d := d_law_right) rfl
  exact CalM.mk0 F (g_law_right T) (body_law_right T B F) (fun _ _ _ _ _ _ us hl => match us, hl with | [_], _ => rfl)
theorem sc_law : FnScope ["script", "spot", "told", "dice", "turn"] ["script"] (defScope (top 43)) := ⟨rfl, rfl, rfl, by decide +kernel, rfl, by decide +kernel, by decide +kernel⟩
theorem body_law {P : Program} {w : World} {K : PySem.W.Frag} {mg : Str → Option Value} {base : Heap} (T : Txt P K mg) (B : Tbs K mg base) {fd : FuncData} (F : FunD K d_law.name d_law.qual d_law.params d_law.body d_law.scope (d_law.dvs K) (d_law.kws K) (He.fAd K ("law", none)) fd) : FnG P w K mg base (TT K) (L2.CX P w) 10 (He.fAd K ("law", none)) fd ["script"] (spD K 1 f_law) := by
  have C_law_dice := ok_law_dice (P := P) (w := w) (base := base) T B
  have C_law_right := ok_law_right (P := P) (w := w) (base := base) T B
  have C_number := ok_number (P := P) (w := w) (base := base) T B
  have C_power := ok_power (P := P) (w := w) (base := base) T B
  have C_total := ok_total (P := P) (w := w) (base := base) T B
  refine def_okD (N := ["script", "spot", "told", "dice", "turn"]) (ps := ["script"]) F sc_law rfl fun cdv A0 outer0 s0 H0 E0 pa ca gd hr => ?_
  obtain rfl := ca.eq
  have tk := takes_of (X := dcx P w K mg base ["script", "spot", "told", "dice", "turn"] d_law.qual d_law.scope (He.fAd K ("law", none)) (.ref (He.codeOf K ("law", none))) A0 outer0 s0 H0 E0) (E := E0) rfl rfl rfl rfl
  have hp := passes_of (X := dcx P w K mg base ["script", "spot", "told", "dice", "turn"] d_law.qual d_law.scope (He.fAd K ("law", none)) (.ref (He.codeOf K ("law", none))) A0 outer0 s0 H0 E0) rfl
  exact (rss_cons (rs_for hp rfl (ri_rng1 rfl (g_range T) (ra_cons (ro_re (re_callB (call_max2 rfl) on_max rfl (g_max T) (by decide +kernel) (ra_cons (ro_re re_int) (ra_cons (ro_re (re_callB (call_min2 rfl) on_min rfl (g_min T) (by decide +kernel) (ra_cons (ro_re re_int) (ra_cons (ro_re (re_callB call_len on_len rfl (g_len T) (by decide +kernel) (ra_cons (ro_name (i := 0) rfl (.inl rfl)) ra_nil))) ra_nil)))) ra_nil)))) ra_nil)) (rg_name (i := 1) sc_law.nd rfl (.inl rfl))
  (rss_cons (rs_new (i := 3) sc_law.nd rfl (.inl rfl) (rn_callC C_law_dice gd hr tk (ra_cons (ro_name (i := 0) rfl (.inl rfl)) (ra_cons (ro_name (i := 1) rfl (.inl rfl)) ra_nil))))
  (rss_one (rs_for hp rfl (ri_rng1 rfl (g_range T) (ra_cons (ro_re re_int) ra_nil)) (rg_name (i := 4) sc_law.nd rfl (.inl rfl))
  (rss_one (rs_if (rt_not (rt_val (re_callMC C_law_right gd hr tk (ra_cons (ro_name (i := 3) rfl (.inl rfl)) ra_nil))))
  (rss_one (rs_ret (ro_re re_bl)))
  rss_nil))))))
  (rss_cons (rs_asg (re_rn (rn_lst (ra_cons (ro_re (re_word (k := 7) (wd_law_word (P := P) (w := w) (base := base) T) gd hr (B _ (cs_at 1 rfl)) rfl (tt_at 1 rfl) (show nmG 198 0 = ((PySem.Str.ofString "law") ++ (PySem.Str.ofString ".<locals>.")) ++ (PySem.Str.ofString "<lambda>") by decide +kernel) (LamX.lamS_by (sc := d_law.scope) (by decide +kernel)) rfl (fun _ _ _ _ _ => rfl) (fun A outer s H E lf lc gd hr => (re_callC C_power gd hr (takes_of rfl rfl rfl rfl) (ra_cons (ro_re (re_tup (ra_cons (ro_re re_int) (ra_cons (ro_re re_int) ra_nil)))) (ra_cons (ro_re re_int) ra_nil)))) rfl)) (ra_cons (ro_re (re_word (k := 7) (wd_law_word (P := P) (w := w) (base := base) T) gd hr (B _ (cs_at 1 rfl)) rfl (tt_at 1 rfl) (show nmG 199 0 = ((PySem.Str.ofString "law") ++ (PySem.Str.ofString ".<locals>.")) ++ (PySem.Str.ofString "<lambda>") by decide +kernel) (LamX.lamS_by (sc := d_law.scope) (by decide +kernel)) rfl (fun _ _ _ _ _ => rfl) (fun A outer s H E lf lc gd hr => (re_callC C_power gd hr (takes_of rfl rfl rfl rfl) (ra_cons (ro_re (re_tup (ra_cons (ro_re re_int) (ra_cons (ro_re re_int) ra_nil)))) (ra_cons (ro_re re_int) ra_nil)))) rfl)) ra_nil)))) (rg_name (i := 2) sc_law.nd rfl (.inl rfl)))
  (rss_cons (rs_asg (re_bin op_addX o2_add (ro_name (i := 2) rfl (.inl rfl)) (ro_re (re_rn (rn_lst (ra_cons (ro_re (re_word (k := 7) (wd_law_word (P := P) (w := w) (base := base) T) gd hr (B _ (cs_at 1 rfl)) rfl (tt_at 1 rfl) (show nmG 201 0 = ((PySem.Str.ofString "law") ++ (PySem.Str.ofString ".<locals>.")) ++ (PySem.Str.ofString "<lambda>") by decide +kernel) (LamX.lamS_by (sc := d_law.scope) (by decide +kernel)) rfl (fun _ _ _ _ _ => rfl) (fun A outer s H E lf lc gd hr => (re_callC C_total gd hr (takes_of rfl rfl rfl rfl) (ra_cons (ro_re (re_rn (rn_lst (ra_cons (ro_re (re_tup (ra_cons (ro_re re_int) (ra_cons (ro_re re_int) ra_nil)))) ra_nil)))) ra_nil))) rfl)) (ra_cons (ro_re (re_word (k := 7) (wd_law_word (P := P) (w := w) (base := base) T) gd hr (B _ (cs_at 1 rfl)) rfl (tt_at 1 rfl) (show nmG 202 0 = ((PySem.Str.ofString "law") ++ (PySem.Str.ofString ".<locals>.")) ++ (PySem.Str.ofString "<lambda>") by decide +kernel) (LamX.lamS_by (sc := d_law.scope) (by decide +kernel)) rfl (fun _ _ _ _ _ => rfl) (fun A outer s H E lf lc gd hr => (re_callC C_number gd hr (takes_of rfl rfl rfl rfl) (ra_cons (ro_re re_int) (ra_cons (ro_re re_int) ra_nil)))) rfl)) ra_nil)))))) (rg_name (i := 2) sc_law.nd rfl (.inl rfl)))
  (rss_one (rs_ret (ro_re (re_cmp (op_eqD hr.units) o2_eq (ro_name (i := 2) rfl (.inl rfl)) (ro_re (re_rn (rn_lst (ra_cons (ro_re re_str) (ra_cons (ro_re re_str) (ra_cons (ro_re re_str) (ra_cons (ro_re re_str) ra_nil))))))) (nomark _))))))))
theorem ok_law {P : Program} {w : World} {K : PySem.W.Frag} {mg : Str → Option Value} {base : Heap} (T : Txt P K mg) (B : Tbs K mg base) : CalD P w K mg base (TT K) 10 "law" 1 f_law [] := by
  obtain ⟨fd, F⟩ := T.c.def_ 29 (d := d_law) rfl
  exact CalD.mk0 F (g_law T) (body_law T B F) (fun _ _ _ _ _ _ us hl => match us, hl with | [_], _ => rfl)
end MLaw

set_option maxHeartbeats 0
namespace MLaw
open PySem L2 Mir
abbrev R : PySem.W.OpenRow := PySem.W.OpenLaw.row PySem.Challenge.rw_keepersapart_k22_errors_and_judges_of_nu
abbrev hk : PySem.W.Hook := hookS 5 fa fn [] tf ex ini
def ob (s : PySem.W.SharedT) : AlS := obsS 5 fa fn [] tf ex ini (HandSHeadRun.getT s)
theorem ob_eq (s : PySem.W.SharedT) : ob s = hk.obs s.abs := obsS_eq (HandSHeadRun.getT_eq s)
def loose : List PySem.Str := (["WorksError", "InvalidFraction", "InvalidCount", "Refused", "NOUGHT", "ONE", "MAX_LETTERS", "MAX_COUNT", "MOST_PASSED", "LETTERS", "SIGNS", "is_integer"] : List PySem.Str) ++ (["is_name", "common_divisor", "is_number", "reduced", "number", "require_number", "require_count", "added", "multiplied", "opposite", "divided", "sum_of"] : List PySem.Str) ++ (["plus", "minus", "times", "over", "compared", "total", "power", "_law_dice", "_law_roll", "_law_pick", "_law_fr", "_law_is_number"] : List PySem.Str) ++ (["_law_word", "_law_is_name", "_law_some", "_law_right"] : List PySem.Str)
theorem run (w : World) : HandSHeadRun.RunEq R (PySem.W.view R.prog [43]) hk ob 6000 loose w := by
  intro os
  kernel_rfl
end MLaw

set_option maxHeartbeats 4000000
namespace MLaw
open PySem L2 Mir
/-- nothing leaves the law's own def -/
theorem no_exc {P : Program} {w : World} {K : PySem.W.Frag} {mg : Str → Option Value} {base : Heap} {T : List Addr} {k : Nat} {f : Addr} {fd : FuncData} {ps : List Str} {F : List D → Fd} (h : FnG P w K mg base T (L2.CX P w) k f fd ps (spD K 1 F)) :
    FnG P w K mg base T L2.CX0 k f fd ps (fun vs H Q E => spD K 1 F vs H Q (fun _ _ _ => False)) :=
  ⟨fun vs H Q E z => h.len vs H Q _ z, fun A outer s H args us vs Q E gd hr tb e b v z => codeAny_mono (h.run A outer s H args us vs Q (fun _ _ _ => False) gd hr tb e b v z) fun r s' q => by
    cases r with
    | error x =>
      obtain ⟨_, _, _, _, _, _, _, _, _, _, _, _, z⟩ := q
      exact z.elim
    | ok fl =>
      cases fl with
      | ret u => exact q
      | next => exact q
      | brk => exact q
      | cont => exact q⟩
theorem facts {P : Program} {w : World} {K : PySem.W.Frag} {mg : Str → Option Value} {f : Addr} (T : Txt P K mg) (hfa : mg ("law" : Str) = some (.ref f)) :
    ∃ fd : FuncData, (∀ (s : Shared) (v : Value), BindsTo s fd ⟨[v], []⟩ [("script", v)]) ∧ ∀ base : Heap, Tbs K mg base → FnG P w K mg base (TT K) L2.CX0 10 f fd ["script"] (fun vs H Q E => spD K 1 f_law vs H Q (fun _ _ _ => False)) := by
  obtain ⟨fd, F⟩ := T.c.def_ 29 (d := d_law) rfl
  have e := hfa.symm.trans (g_law T)
  cases e
  have b := FunD.bindsA (ps := ["script"]) F fun _ _ _ _ _ _ us hl => match us, hl with | [_], _ => rfl
  exact ⟨fd, fun s v => b s [v] rfl, fun base tb => no_exc (body_law T tb F)⟩
end MLaw

set_option maxHeartbeats 4000000
set_option exponentiation.threshold 20000
namespace MLaw
open PySem L2 Mir
theorem ltY_i {a b : Int} : ltY (.int a) (.int b) = ltD (.int a) (.int b) := rfl
theorem leY_i {a b : Int} : leY (.int a) (.int b) = leD (.int a) (.int b) := rfl
theorem mulY_i {a : Int} {y : D} : mulY (.int a) y = mulD (.int a) y := rfl
theorem isiY_i {i : Int} {T : String} : isiY [.int i, .ty T] = (isT "int" T).map .bl := rfl
theorem nolk_ls {xs : List D} : (Mo.ls xs).nolk = true := rfl
theorem mulD_l {a z : Int} (h : a.natAbs < 18446744073709551616) : mulD (.int a) (.int z) = some (.int (a * z)) := by
  have e : mulD (.int a) (.int z) = if mulOk a z = true then some (.int (a * z)) else none := rfl
  rw [e, mulOk_lit h, if_pos rfl]
theorem mulD_r {a z : Int} (h : z.natAbs < 18446744073709551616) : mulD (.int a) (.int z) = some (.int (a * z)) := by
  have e : mulD (.int a) (.int z) = if mulOk a z = true then some (.int (a * z)) else none := rfl
  rw [e, mulOk_lit' h, if_pos rfl]
def Fr (s : Sl) : Prop := s = .no ∨ ∃ d, s = .va d
theorem Fr.no : Fr .no := .inl rfl
theorem Fr.va {d : D} : Fr (.va d) := .inr ⟨d, rfl⟩
theorem rng_get {n i : Nat} {d : D} (h : (rng 0 n)[i]? = some d) : i < n ∧ d = .int i := by
  unfold rng at h
  rw [List.getElem?_map] at h
  cases e : (List.range n)[i]? with
  | none => rw [e] at h; cases h
  | some j =>
    rw [e] at h; cases h
    obtain ⟨hi, e⟩ := List.getElem?_eq_some_iff.mp e
    rw [List.getElem_range] at e
    rw [List.length_range] at hi
    subst e
    exact ⟨hi, by simp⟩
theorem S_sto {i : Nat} {mi mv : M Op} {g : En} {N : En → Prop} {R : Sl → En → Prop} {B C : En → Prop} {E : Xn → En → Prop} : SO (sSto i mi mv g) N R B C E = Out (mv g) (fun x g1 => match x with
    | .o _ => False
    | .d d => match (gt g1 i).mo with
      | none => False
      | some _ => Out (mi g1) (fun y g2 => match y, (gt g2 i).mo with
        | .d (.int k), some (.ls xs) => match ixN xs.length k with
          | some j => N (setMo g2 i (.ls (xs.set j d)))
          | none => False
        | _, _ => False) E) E := by
  unfold sSto; rw [S_then]
  refine congrArg (fun z => Out (mv g) z E) (funext fun x => funext fun g1 => ?_)
  cases x with
  | o _ => rfl
  | d d =>
    simp only
    cases (gt g1 i).mo with
    | none => rfl
    | some _ =>
      simp only
      rw [S_then]
      refine congrArg (fun z => Out (mi g1) z E) (funext fun y => funext fun g2 => ?_)
      cases y with
      | o _ => rfl
      | d y =>
        cases y <;> try rfl
        cases (gt g2 i).mo with
        | none => rfl
        | some m =>
          cases m with
          | ls xs => simp only; cases ixN xs.length _ <;> rfl
          | _ => rfl
theorem powD_lit {a b : Int} (h : powOk a b = true) : powD (.int a) (.int b) = some (.int (a ^ b.toNat)) := if_pos h
theorem modD_ne {a b : Int} (h : b ≠ 0) : modD (.int a) (.int b) = some (.int (a.fmod b)) := if_neg h
theorem fdvD_ok {a b : Int} (h : b ≠ 0) : fdvD (.int a) (.int b) = some (.int (a.fdiv b)) := if_neg h
def Dice (m : Mo) : Prop := ∃ a b c : Int, m = .ls [.int a, .int b, .int c]
theorem fmod_lo {a b : Int} (h : 0 < b) : 0 ≤ a.fmod b := Int.fmod_nonneg_of_pos _ h
theorem fmod_hi {a b : Int} (h : 0 < b) : a.fmod b < b := Int.fmod_lt_of_pos _ h
theorem s_roll {m : Mo} (hm : Dice m) (n : Int) (h0 : 0 < n) : ∃ d m', f_law_roll m [.int n] = .ok d m' ∧ Dice m' ∧ ∃ r : Int, d = .int r ∧ 0 ≤ r ∧ r < n := by
  obtain ⟨a, b, c, rfl⟩ := hm
  have hne : n ≠ 0 := by omega
  have f := fun a => fdvD_ok (a := a) hne
  have o := fun a => modD_ne (a := a) hne
  refine m_ex (Y := fun d m' => Dice m' ∧ ∃ r : Int, d = .int r ∧ 0 ≤ r ∧ r < n) ?_
  simp only [b_law_roll, ↓O_ret, ↓O_bad, ↓O_bnd, ↓O_opt, ↓O_if, ↓O_ite, ↓O_eN, ↓O_e1, ↓O_e2, ↓U_ap1, ↓U_ap2, ↓U_f1, ↓U_f2, ↓U_opt, ↓O_eD, ↓O_eV, ↓O_vl, ↓O_tB, ↓O_asB, ↓O_notM, ↓O_ofB, ↓O_andM, ↓O_orM, ↓O_args0, ↓O_args1, ↓U_apL, ↓U_tup, ↓U_lst, ↓U_call, ↓U_callN, ↓U_callM, ↓U_callMN, ↓U_itM, ↓U_rev, ↓O_noex, ↓S_seq, ↓S_nil, ↓S_pass, ↓S_brk, ↓S_cnt, ↓S_bad, ↓S_nx, ↓S_rt, ↓S_asg, ↓S_if, ↓S_exp, ↓S_retN, ↓S_ret, ↓S_retW, ↓S_new, ↓S_par, ↓S_par3, ↓S_for, gt, res, resL, vls, anyO, setV, setO, setMo, Sl.mo, Mo.dat, tName, Mir.tTup, Mir.tNil, Mir.tCons, tupN, tupD, lenN, lenD, absN, absD, intN, intD, maxN, maxD, minN, minD, negD, addD, subD, ltD, leD, gtD, geD, modD, ixD, isND, notND, at0, at1, at2, eq_int, ne_int, eq_bl, isi_tup, isi_int, isi_bl, isT_tt, isT_ii, isT_ib, allN, allD, anyN, anyD, itD, lstE, lsM, ltY_i, leY_i, mulY_i, isiY_i, nolk_ls, ↓reduceIte, Nat.reduceLT, Nat.reduceAdd, Nat.reduceLeDiff, Nat.zero_add, List.map, List.cons_append, List.nil_append, List.replicate, List.append_nil, List.length_cons, List.length_nil, Option.map_some, Option.map_none, Option.bind_some, List.set_cons_zero, List.set_cons_succ, Bool.false_and, Bool.true_and, Bool.and_false, Bool.and_true, Bool.not_true, Bool.not_false, if_true, if_false, Bool.false_eq_true, decide_true, decide_false]
  by_cases ha : 0 < a
  · simp only [S_sto, ha, f, o, ↓O_ret, ↓O_bad, ↓O_bnd, ↓O_opt, ↓O_if, ↓O_ite, ↓O_eN, ↓O_e1, ↓O_e2, ↓U_ap1, ↓U_ap2, ↓U_f1, ↓U_f2, ↓U_opt, ↓O_eD, ↓O_eV, ↓O_vl, ↓O_tB, ↓O_asB, ↓O_notM, ↓O_ofB, ↓O_andM, ↓O_orM, ↓O_args0, ↓O_args1, ↓U_apL, ↓U_tup, ↓U_lst, ↓U_call, ↓U_callN, ↓U_callM, ↓U_callMN, ↓U_itM, ↓U_rev, ↓O_noex, ↓S_seq, ↓S_nil, ↓S_pass, ↓S_brk, ↓S_cnt, ↓S_bad, ↓S_nx, ↓S_rt, ↓S_asg, ↓S_if, ↓S_exp, ↓S_retN, ↓S_ret, ↓S_retW, ↓S_new, ↓S_par, ↓S_par3, ↓S_for, gt, res, resL, vls, anyO, setV, setO, setMo, Sl.mo, Mo.dat, tName, Mir.tTup, Mir.tNil, Mir.tCons, tupN, tupD, lenN, lenD, absN, absD, intN, intD, maxN, maxD, minN, minD, negD, addD, subD, ltD, leD, gtD, geD, modD, ixD, isND, notND, at0, at1, at2, eq_int, ne_int, eq_bl, isi_tup, isi_int, isi_bl, isT_tt, isT_ii, isT_ib, allN, allD, anyN, anyD, itD, lstE, lsM, ltY_i, leY_i, mulY_i, isiY_i, nolk_ls, ↓reduceIte, Nat.reduceLT, Nat.reduceAdd, Nat.reduceLeDiff, Nat.zero_add, List.map, List.cons_append, List.nil_append, List.replicate, List.append_nil, List.length_cons, List.length_nil, Option.map_some, Option.map_none, Option.bind_some, List.set_cons_zero, List.set_cons_succ, Bool.false_and, Bool.true_and, Bool.and_false, Bool.and_true, Bool.not_true, Bool.not_false, if_true, if_false, Bool.false_eq_true, decide_true, decide_false, hne, if_false]
    exact ⟨_, _, rfl, rfl, ⟨_, _, _, rfl⟩, _, rfl, fmod_lo h0, fmod_hi h0⟩
  · have m1 : ∀ z : Int, mulD (.int 49979687) (.int z) = some (.int (49979687 * z)) := fun z => mulD_l (by decide)
    have m2 : ∀ z : Int, mulD (.int 131) (.int z) = some (.int (131 * z)) := fun z => mulD_l (by decide)
    have m3 : ∀ z : Int, mulD (.int z) (.int 32452843) = some (.int (z * 32452843)) := fun z => mulD_r (by decide)
    have p1 : (2305843009213693951 : Int) ≠ 0 := by decide
    have p2 : (2305843009213693921 : Int) ≠ 0 := by decide
    have p3 : ∀ z : Int, fdvD (.int z) (.int 65587) = some (.int (z.fdiv 65587)) := fun z => fdvD_ok (by decide)
    have m4 : ∀ z : Int, mulD (.int (z.fmod 2305843009213693951)) (.int (z.fmod 2305843009213693951)) = some (.int ((z.fmod 2305843009213693951) * (z.fmod 2305843009213693951))) := fun z => by
      have := fmod_lo (a := z) (b := 2305843009213693951) (by decide)
      have := fmod_hi (a := z) (b := 2305843009213693951) (by decide)
      exact mulD_l (by omega)
    simp only [S_sto, ha, ↓O_ret, ↓O_bad, ↓O_bnd, ↓O_opt, ↓O_if, ↓O_ite, ↓O_eN, ↓O_e1, ↓O_e2, ↓U_ap1, ↓U_ap2, ↓U_f1, ↓U_f2, ↓U_opt, ↓O_eD, ↓O_eV, ↓O_vl, ↓O_tB, ↓O_asB, ↓O_notM, ↓O_ofB, ↓O_andM, ↓O_orM, ↓O_args0, ↓O_args1, ↓U_apL, ↓U_tup, ↓U_lst, ↓U_call, ↓U_callN, ↓U_callM, ↓U_callMN, ↓U_itM, ↓U_rev, ↓O_noex, ↓S_seq, ↓S_nil, ↓S_pass, ↓S_brk, ↓S_cnt, ↓S_bad, ↓S_nx, ↓S_rt, ↓S_asg, ↓S_if, ↓S_exp, ↓S_retN, ↓S_ret, ↓S_retW, ↓S_new, ↓S_par, ↓S_par3, ↓S_for, gt, res, resL, vls, anyO, setV, setO, setMo, Sl.mo, Mo.dat, tName, Mir.tTup, Mir.tNil, Mir.tCons, tupN, tupD, lenN, lenD, absN, absD, intN, intD, maxN, maxD, minN, minD, negD, addD, subD, ltD, leD, gtD, geD, modD, ixD, isND, notND, at0, at1, at2, eq_int, ne_int, eq_bl, isi_tup, isi_int, isi_bl, isT_tt, isT_ii, isT_ib, allN, allD, anyN, anyD, itD, lstE, lsM, ltY_i, leY_i, mulY_i, isiY_i, nolk_ls, ↓reduceIte, Nat.reduceLT, Nat.reduceAdd, Nat.reduceLeDiff, Nat.zero_add, List.map, List.cons_append, List.nil_append, List.replicate, List.append_nil, List.length_cons, List.length_nil, Option.map_some, Option.map_none, Option.bind_some, List.set_cons_zero, List.set_cons_succ, Bool.false_and, Bool.true_and, Bool.and_false, Bool.and_true, Bool.not_true, Bool.not_false, if_true, if_false, Bool.false_eq_true, decide_true, decide_false, ix0, ix1, ix2, m1, m2, m3, m4, p1, p2, p3, o, hne]
    exact ⟨_, _, rfl, rfl, ⟨_, _, _, rfl⟩, _, rfl, fmod_lo h0, fmod_hi h0⟩
theorem atI_pos {α : Type} {xs : List α} {i : Int} (h0 : 0 ≤ i) (h : i < xs.length) : ∃ x, atI xs i = some x ∧ x ∈ xs := by
  have hk : i.toNat < xs.length := by omega
  refine ⟨xs[i.toNat], ?_, List.getElem_mem _⟩
  unfold atI ixN
  rw [if_pos h0, if_pos h]
  exact List.getElem?_eq_getElem hk
theorem s_pick {m : Mo} (hm : Dice m) {xs : List D} (h : 0 < xs.length) (hl : xs.length < 2 ^ 60) : ∃ d m', f_law_pick m [.lst xs] = .ok d m' ∧ Dice m' ∧ d ∈ xs := by
  obtain ⟨_, m', e, ⟨a, b, c, rfl⟩, r, rfl, h0, h1⟩ := s_roll hm (xs.length : Int) (by omega)
  obtain ⟨x, e2, hx⟩ := atI_pos (xs := xs) h0 h1
  refine m_ex (Y := fun d m' => Dice m' ∧ d ∈ xs) ?_
  simp only [b_law_pick, ↓O_ret, ↓O_bad, ↓O_bnd, ↓O_opt, ↓O_if, ↓O_ite, ↓O_eN, ↓O_e1, ↓O_e2, ↓U_ap1, ↓U_ap2, ↓U_f1, ↓U_f2, ↓U_opt, ↓O_eD, ↓O_eV, ↓O_vl, ↓O_tB, ↓O_asB, ↓O_notM, ↓O_ofB, ↓O_andM, ↓O_orM, ↓O_args0, ↓O_args1, ↓U_apL, ↓U_tup, ↓U_lst, ↓U_call, ↓U_callN, ↓U_callM, ↓U_callMN, ↓U_itM, ↓U_rev, ↓O_noex, ↓S_seq, ↓S_nil, ↓S_pass, ↓S_brk, ↓S_cnt, ↓S_bad, ↓S_nx, ↓S_rt, ↓S_asg, ↓S_if, ↓S_exp, ↓S_retN, ↓S_ret, ↓S_retW, ↓S_new, ↓S_par, ↓S_par3, ↓S_for, gt, res, resL, vls, anyO, setV, setO, setMo, Sl.mo, Mo.dat, tName, Mir.tTup, Mir.tNil, Mir.tCons, tupN, tupD, lenN, lenD, absN, absD, intN, intD, maxN, maxD, minN, minD, negD, addD, subD, ltD, leD, gtD, geD, modD, ixD, isND, notND, at0, at1, at2, eq_int, ne_int, eq_bl, isi_tup, isi_int, isi_bl, isT_tt, isT_ii, isT_ib, allN, allD, anyN, anyD, itD, lstE, lsM, ltY_i, leY_i, mulY_i, isiY_i, nolk_ls, ↓reduceIte, Nat.reduceLT, Nat.reduceAdd, Nat.reduceLeDiff, Nat.zero_add, List.map, List.cons_append, List.nil_append, List.replicate, List.append_nil, List.length_cons, List.length_nil, Option.map_some, Option.map_none, Option.bind_some, List.set_cons_zero, List.set_cons_succ, Bool.false_and, Bool.true_and, Bool.and_false, Bool.and_true, Bool.not_true, Bool.not_false, if_true, if_false, Bool.false_eq_true, decide_true, decide_false, e, e2]
  exact ⟨x, _, rfl, rfl, ⟨a, b, c, rfl⟩, hx⟩
theorem s_dice (ns : List Int) (i : Int) (h0 : 0 ≤ i) (h1 : i < 100) : ∃ xs, f_law_dice [.frl (ns.map .int), .int i] = .new xs ∧ Dice xs := by
  have p1 : powD (.int 10) (.int 53) = some (.int (10 ^ 53)) := powD_lit (a := 10) (b := 53) (by decide)
  have p2 : powD (.int (10 ^ 53)) (.int 6) = some (.int ((10 ^ 53) ^ 6)) := powD_lit (a := 10 ^ 53) (b := 6) (by decide)
  have p3 : powD (.int 10) (.int 16) = some (.int (10 ^ 16)) := powD_lit (a := 10) (b := 16) (by decide)
  have m1 : ∀ z : Int, mulD (.int 131) (.int z) = some (.int (131 * z)) := fun z => mulD_l (by decide)
  have m2 : ∀ z : Int, mulD (.int z) (.int 73) = some (.int (z * 73)) := fun z => mulD_r (by decide)
  have m3 : ∀ z : Int, mulD (.int 619) (.int z) = some (.int (619 * z)) := fun z => mulD_l (by decide)
  have m4 : ∀ z : Int, mulD (.int 41) (.int z) = some (.int (41 * z)) := fun z => mulD_l (by decide)
  refine f_exN (Y := fun xs => Dice xs) ?_
  have hM0 : ((10 ^ 53 : Int) ^ 6) ≠ 0 := by decide
  have hM1 : (2305843009213693907 : Int) ≠ 0 := by decide
  generalize hM : (10 ^ 53 : Int) ^ 6 = M at p2 hM0
  generalize hM2 : (10 ^ 53 : Int) = M2 at p1 p2
  generalize hM3 : (10 ^ 16 : Int) = M3 at p3
  clear hM hM2 hM3
  by_cases hi : i < (ns.length : Int)
  · have hx : ∃ x : Int, atI (ns.map D.int) i = some (.int x) := by
      obtain ⟨d, e, hd⟩ := atI_pos (xs := ns.map D.int) h0 (by rw [List.length_map]; exact hi)
      obtain ⟨x, _, rfl⟩ := List.mem_map.mp hd
      exact ⟨x, e⟩
    obtain ⟨x, hx⟩ := hx
    simp only [b_law_dice, ↓O_ret, ↓O_bad, ↓O_bnd, ↓O_opt, ↓O_if, ↓O_ite, ↓O_eN, ↓O_e1, ↓O_e2, ↓U_ap1, ↓U_ap2, ↓U_f1, ↓U_f2, ↓U_opt, ↓O_eD, ↓O_eV, ↓O_vl, ↓O_tB, ↓O_asB, ↓O_notM, ↓O_ofB, ↓O_andM, ↓O_orM, ↓O_args0, ↓O_args1, ↓U_apL, ↓U_tup, ↓U_lst, ↓U_call, ↓U_callN, ↓U_callM, ↓U_callMN, ↓U_itM, ↓U_rev, ↓O_noex, ↓S_seq, ↓S_nil, ↓S_pass, ↓S_brk, ↓S_cnt, ↓S_bad, ↓S_nx, ↓S_rt, ↓S_asg, ↓S_if, ↓S_exp, ↓S_retN, ↓S_ret, ↓S_retW, ↓S_new, ↓S_par, ↓S_par3, ↓S_for, gt, res, resL, vls, anyO, setV, setO, setMo, Sl.mo, Mo.dat, tName, Mir.tTup, Mir.tNil, Mir.tCons, tupN, tupD, lenN, lenD, absN, absD, intN, intD, maxN, maxD, minN, minD, negD, addD, subD, ltD, leD, gtD, geD, modD, ixD, isND, notND, at0, at1, at2, eq_int, ne_int, eq_bl, isi_tup, isi_int, isi_bl, isT_tt, isT_ii, isT_ib, allN, allD, anyN, anyD, itD, lstE, lsM, ltY_i, leY_i, mulY_i, isiY_i, nolk_ls, ↓reduceIte, Nat.reduceLT, Nat.reduceAdd, Nat.reduceLeDiff, Nat.zero_add, List.map, List.cons_append, List.nil_append, List.replicate, List.append_nil, List.length_cons, List.length_nil, Option.map_some, Option.map_none, Option.bind_some, List.set_cons_zero, List.set_cons_succ, Bool.false_and, Bool.true_and, Bool.and_false, Bool.and_true, Bool.not_true, Bool.not_false, if_true, if_false, Bool.false_eq_true, decide_true, decide_false, List.length_map, hM0, hM1, hi, hx, p1, p2, p3]
    simp only [m2, m3, m4, hM0, hM1, ↓O_ret, ↓O_bad, ↓O_bnd, ↓O_opt, ↓O_if, ↓O_ite, ↓O_eN, ↓O_e1, ↓O_e2, ↓U_ap1, ↓U_ap2, ↓U_f1, ↓U_f2, ↓U_opt, ↓O_eD, ↓O_eV, ↓O_vl, ↓O_tB, ↓O_asB, ↓O_notM, ↓O_ofB, ↓O_andM, ↓O_orM, ↓O_args0, ↓O_args1, ↓U_apL, ↓U_tup, ↓U_lst, ↓U_call, ↓U_callN, ↓U_callM, ↓U_callMN, ↓U_itM, ↓U_rev, ↓O_noex, ↓S_seq, ↓S_nil, ↓S_pass, ↓S_brk, ↓S_cnt, ↓S_bad, ↓S_nx, ↓S_rt, ↓S_asg, ↓S_if, ↓S_exp, ↓S_retN, ↓S_ret, ↓S_retW, ↓S_new, ↓S_par, ↓S_par3, ↓S_for, gt, res, resL, vls, anyO, setV, setO, setMo, Sl.mo, Mo.dat, tName, Mir.tTup, Mir.tNil, Mir.tCons, tupN, tupD, lenN, lenD, absN, absD, intN, intD, maxN, maxD, minN, minD, negD, addD, subD, ltD, leD, gtD, geD, modD, ixD, isND, notND, at0, at1, at2, eq_int, ne_int, eq_bl, isi_tup, isi_int, isi_bl, isT_tt, isT_ii, isT_ib, allN, allD, anyN, anyD, itD, lstE, lsM, ltY_i, leY_i, mulY_i, isiY_i, nolk_ls, ↓reduceIte, Nat.reduceLT, Nat.reduceAdd, Nat.reduceLeDiff, Nat.zero_add, List.map, List.cons_append, List.nil_append, List.replicate, List.append_nil, List.length_cons, List.length_nil, Option.map_some, Option.map_none, Option.bind_some, List.set_cons_zero, List.set_cons_succ, Bool.false_and, Bool.true_and, Bool.and_false, Bool.and_true, Bool.not_true, Bool.not_false, if_true, if_false, Bool.false_eq_true, decide_true, decide_false]
    exact ⟨_, rfl, _, _, _, rfl⟩
  · simp only [b_law_dice, ↓O_ret, ↓O_bad, ↓O_bnd, ↓O_opt, ↓O_if, ↓O_ite, ↓O_eN, ↓O_e1, ↓O_e2, ↓U_ap1, ↓U_ap2, ↓U_f1, ↓U_f2, ↓U_opt, ↓O_eD, ↓O_eV, ↓O_vl, ↓O_tB, ↓O_asB, ↓O_notM, ↓O_ofB, ↓O_andM, ↓O_orM, ↓O_args0, ↓O_args1, ↓U_apL, ↓U_tup, ↓U_lst, ↓U_call, ↓U_callN, ↓U_callM, ↓U_callMN, ↓U_itM, ↓U_rev, ↓O_noex, ↓S_seq, ↓S_nil, ↓S_pass, ↓S_brk, ↓S_cnt, ↓S_bad, ↓S_nx, ↓S_rt, ↓S_asg, ↓S_if, ↓S_exp, ↓S_retN, ↓S_ret, ↓S_retW, ↓S_new, ↓S_par, ↓S_par3, ↓S_for, gt, res, resL, vls, anyO, setV, setO, setMo, Sl.mo, Mo.dat, tName, Mir.tTup, Mir.tNil, Mir.tCons, tupN, tupD, lenN, lenD, absN, absD, intN, intD, maxN, maxD, minN, minD, negD, addD, subD, ltD, leD, gtD, geD, modD, ixD, isND, notND, at0, at1, at2, eq_int, ne_int, eq_bl, isi_tup, isi_int, isi_bl, isT_tt, isT_ii, isT_ib, allN, allD, anyN, anyD, itD, lstE, lsM, ltY_i, leY_i, mulY_i, isiY_i, nolk_ls, ↓reduceIte, Nat.reduceLT, Nat.reduceAdd, Nat.reduceLeDiff, Nat.zero_add, List.map, List.cons_append, List.nil_append, List.replicate, List.append_nil, List.length_cons, List.length_nil, Option.map_some, Option.map_none, Option.bind_some, List.set_cons_zero, List.set_cons_succ, Bool.false_and, Bool.true_and, Bool.and_false, Bool.and_true, Bool.not_true, Bool.not_false, if_true, if_false, Bool.false_eq_true, decide_true, decide_false, List.length_map, hM0, hM1, hi, m1, p1, p2, p3]
    simp only [m2, m3, m4, hM0, hM1, ↓O_ret, ↓O_bad, ↓O_bnd, ↓O_opt, ↓O_if, ↓O_ite, ↓O_eN, ↓O_e1, ↓O_e2, ↓U_ap1, ↓U_ap2, ↓U_f1, ↓U_f2, ↓U_opt, ↓O_eD, ↓O_eV, ↓O_vl, ↓O_tB, ↓O_asB, ↓O_notM, ↓O_ofB, ↓O_andM, ↓O_orM, ↓O_args0, ↓O_args1, ↓U_apL, ↓U_tup, ↓U_lst, ↓U_call, ↓U_callN, ↓U_callM, ↓U_callMN, ↓U_itM, ↓U_rev, ↓O_noex, ↓S_seq, ↓S_nil, ↓S_pass, ↓S_brk, ↓S_cnt, ↓S_bad, ↓S_nx, ↓S_rt, ↓S_asg, ↓S_if, ↓S_exp, ↓S_retN, ↓S_ret, ↓S_retW, ↓S_new, ↓S_par, ↓S_par3, ↓S_for, gt, res, resL, vls, anyO, setV, setO, setMo, Sl.mo, Mo.dat, tName, Mir.tTup, Mir.tNil, Mir.tCons, tupN, tupD, lenN, lenD, absN, absD, intN, intD, maxN, maxD, minN, minD, negD, addD, subD, ltD, leD, gtD, geD, modD, ixD, isND, notND, at0, at1, at2, eq_int, ne_int, eq_bl, isi_tup, isi_int, isi_bl, isT_tt, isT_ii, isT_ib, allN, allD, anyN, anyD, itD, lstE, lsM, ltY_i, leY_i, mulY_i, isiY_i, nolk_ls, ↓reduceIte, Nat.reduceLT, Nat.reduceAdd, Nat.reduceLeDiff, Nat.zero_add, List.map, List.cons_append, List.nil_append, List.replicate, List.append_nil, List.length_cons, List.length_nil, Option.map_some, Option.map_none, Option.bind_some, List.set_cons_zero, List.set_cons_succ, Bool.false_and, Bool.true_and, Bool.and_false, Bool.and_true, Bool.not_true, Bool.not_false, if_true, if_false, Bool.false_eq_true, decide_true, decide_false]
    exact ⟨_, rfl, _, _, _, rfl⟩

noncomputable section
def menu : List D := [(D.non), (.bl true), (.bl false), (.int (0)), (.int (1)), (.int (-3)), (.int (1000000000000000000000000000000000000000000000)), (.str (PySem.Str.ofString "a")), (.str (PySem.Str.ofString "")), (.str (PySem.Str.ofString "up.2")), (.str (PySem.Str.ofString "2up")), (.str (PySem.Str.ofString "Up")), (.str (PySem.Str.ofString "a b")), (.str (PySem.Str.ofString "abcdefghijkl")), (.str (PySem.Str.ofString "abcdefghijklm")), (.tup []), (.tup [.int (0), .int (1)]), (.tup [.int (1), .int (1)]), (.tup [.int (2), .int (4)]), (.tup [.int (0), .int (2)]), (.tup [.int (1), .int (0)]), (.tup [.int (1), .int (-2)]), (.tup [.int (-1), .int (2)]), (.tup [.bl true, .int (1)]), (.tup [.int (1), .bl true]), (.lst [.int (1), .int (2)]), (.tup [.int (1)]), (.tup [.int (1), .int (2), .int (3)]), (.tup [.int (1000000000000000000000000000000000000001), .int (1000000000000000000000000000000000000000)]), (.tup [.tup [.int (1), .int (1)], .int (1)]), (.tup [.str (PySem.Str.ofString "1"), .int (1)]), (.tup [D.non, .int (1)]), (.str (PySem.Str.ofString "1/2")), (.dct [] []), (.dct [.inl 1] [.int (2)]), (.str (PySem.Str.ofString ".a")), (.str (PySem.Str.ofString "a."))]
def zD : Ms := (sAsg (bnd (eArgs [(eD (bnd (eArgs [(eN 0)]) (callM 1 f_law_some []))), (eD (bnd (eArgs [(eN 0)]) (callM 1 f_law_some [])))]) tupM) (tTup 2 (tCons (tName 5) (tCons (tName 6) tNil))))
def zP : Ms := (sQ (sPar 7 8 (eArgs [(eD (ite' (tB (bnd (eArgs [(eN 5), (eD (ret (.ty "int")))]) (apL isiY))) (ofB (notM (tB (bnd (eArgs [(eN 5), (eD (ret (.ty "bool")))]) (apL isiY))))) (ret (.bl false)))), (eD (ofB (notM (tB (bnd (eArgs [(eN 5)]) (callF 1 f_law_is_number []))))))]))
  (sQ (sIf (tB (e2 (eD (bnd (eArgs [(eD (lstE (bnd (eArgs [(eD (bnd (eArgs [(eN 5)]) (callF 1 f_is_integer []))), (eD (bnd (eArgs [(eN 5)]) (callF 1 f_is_name []))), (eD (bnd (eArgs [(eN 5)]) (callF 1 f_is_number [])))]) lstM)))]) (apL reprM))) (eD (bnd (eArgs [(eD (lstE (bnd (eArgs [(eN 7), (eD (bnd (eArgs [(eN 5)]) (callF 1 f_law_is_name []))), (eD (ofB (notM (tB (eV (eN 8))))))]) lstM)))]) (apL reprM))) (f2 neD)))
  (sRet (eD (ret (.bl false))))
  sNil)
  (sAsg (bnd (eArgs [(eD (bnd (eArgs [(eD (ret (.int 3))), (eD (ret (.int 2)))]) tupM)), (eD (ite' (tB (eV (eN 8))) (ret (.str (PySem.Str.ofString "fraction"))) (ret (.str (PySem.Str.ofString "fine")))))]) tupM) (tTup 2 (tCons (tName 9) (tCons (tName 10) tNil))))))
def zM : Ms := (sQ (sAsg (lstE (bnd (eArgs [(eD (lamM (bnd (eArgs [(eN 5), (eN 6)]) (callF 2 f_plus [])) (wordF subT h_law_word (PySem.Str.ofString "fine")))), (eD (lamM (bnd (eArgs [(eN 9), (eN 5)]) (callF 2 f_minus [])) (wordF subT h_law_word (PySem.Str.ofString "fine"))))]) lstM)) (tName 1))
  (sQ (sAsg (e2 (eN 1) (eD (lstE (bnd (eArgs [(eD (lamM (bnd (eArgs [(eN 5), (eN 9)]) (callF 2 f_times [])) (wordF subT h_law_word (PySem.Str.ofString "fine")))), (eD (lamM (bnd (eArgs [(eN 9), (eN 5)]) (callF 2 f_compared [])) (wordF subT h_law_word (PySem.Str.ofString "fine"))))]) lstM))) (f2 addD)) (tName 1))
  (sQ (sNew 2 (lsM (e2 (eD (lstE (bnd (eArgs [(eD (ite' (andM (notM (tB (eV (eN 8)))) (tB (bnd (eArgs [(eN 6)]) (callF 1 f_law_is_number [])))) (ret (.str (PySem.Str.ofString "fine"))) (ret (.str (PySem.Str.ofString "fraction")))))]) lstM))) (eD (e2 (eD (lstE (bnd (eArgs [(eN 10)]) lstM))) (eD (ret (.int 3))) (f2 mulY))) catM)))
  (sQ (sAsg (e2 (eN 1) (eD (lstE (bnd (eArgs [(eD (lamM (bnd (eArgs [(eN 5), (eD (bnd (eArgs [(eD (ret (.int 0))), (eD (ret (.int 1)))]) tupM))]) (callF 2 f_over [])) (wordF subT h_law_word (PySem.Str.ofString "fine")))), (eD (lamM (bnd (eArgs [(eN 9), (eN 5)]) (callF 2 f_over [])) (wordF subT h_law_word (PySem.Str.ofString "fine"))))]) lstM))) (f2 addD)) (tName 1))
  (sQ (sNew 2 (lsM (e2 (eN 2) (eD (lstE (bnd (eArgs [(eD (ite' (tB (eV (eN 8))) (ret (.str (PySem.Str.ofString "fraction"))) (ret (.str (PySem.Str.ofString "refused ('nought',)")))))]) lstM))) catM)))
  (sQ (sApp 2 (eD (ite' (tB (e2 (eD (bnd (eArgs [(eN 5)]) (apL reprM))) (eD (ret (.str (PySem.Str.ofString "(0, 1)")))) (f2 eqD))) (ret (.str (PySem.Str.ofString "refused ('nought',)"))) (eV (eN 10)))))
  (sQ (sAsg (e2 (eN 1) (eD (lstE (bnd (eArgs [(eD (lamM (bnd (eArgs [(eD (bnd (eArgs [(eN 9), (eN 5)]) tupM))]) (callF 1 f_total [])) (wordF subT h_law_word (PySem.Str.ofString "fine")))), (eD (lamM (bnd (eArgs [(eN 5)]) (callF 1 f_total [])) (wordF subT h_law_word (PySem.Str.ofString "fine"))))]) lstM))) (f2 addD)) (tName 1))
  (sQ (sNew 2 (lsM (e2 (eN 2) (eD (lstE (bnd (eArgs [(eN 10), (eD (ite' (tB (e2 (eD (bnd (eArgs [(eN 5)]) (apL reprM))) (eD (ret (.str (PySem.Str.ofString "()")))) (f2 eqD))) (ret (.str (PySem.Str.ofString "fine"))) (ret (.str (PySem.Str.ofString "fraction")))))]) lstM))) catM)))
  (sQ (sAsg (e2 (eN 1) (eD (lstE (bnd (eArgs [(eD (lamM (bnd (eArgs [(eN 5), (eD (e1 (eD (ret (.int 1))) (f1 negD)))]) (callF 2 f_power [])) (wordF subT h_law_word (PySem.Str.ofString "fine")))), (eD (lamM (bnd (eArgs [(eN 9), (eN 5)]) (callF 2 f_power [])) (wordF subT h_law_word (PySem.Str.ofString "fine"))))]) lstM))) (f2 addD)) (tName 1))
  (sQ (sNew 2 (lsM (e2 (eN 2) (eD (lstE (bnd (eArgs [(eD (ite' (tB (eV (eN 8))) (ret (.str (PySem.Str.ofString "fraction"))) (ret (.str (PySem.Str.ofString "count -1")))))]) lstM))) catM)))
  (sQ (sApp 2 (eD (ite' (andM (tB (eV (eN 7))) (tB (chM (eD (ret (.int 0))) (eN 5) (eD (ret (.int 60))) leY leY))) (ret (.str (PySem.Str.ofString "fine"))) (e2 (eD (ret (.str (PySem.Str.ofString "count ")))) (eD (bnd (eArgs [(eN 5)]) (apL reprM))) (f2 addD)))))
  (sQ (sIf (tB (e2 (eN 1) (eN 2) (f2 neD)))
  (sRet (eD (ret (.bl false))))
  sNil)
  (sAsg (ite' (tB (eV (eN 7))) (e2 (eD (bnd (eArgs [(eN 5)]) (apL absN))) (eD (e2 (eD (ret (.int 10))) (eD (ret (.int 40))) (f2 powD))) (f2 ltY)) (ret (.bl false))) (tName 3))))))))))))))
def zS : Ms := (sAsg (ite' (tB (bnd (eArgs [(eN 6), (eD (ret (.ty "int")))]) (apL isiY))) (ite' (tB (ofB (notM (tB (bnd (eArgs [(eN 6), (eD (ret (.ty "bool")))]) (apL isiY)))))) (ite' (tB (e2 (eD (bnd (eArgs [(eN 6)]) (apL absN))) (eD (e2 (eD (ret (.int 10))) (eD (ret (.int 40))) (f2 powD))) (f2 ltY))) (e2 (eN 6) (eD (ret (.int 0))) (f2 neD)) (ret (.bl false))) (ret (.bl false))) (ret (.bl false))) (tName 4))
def zB : Ms := (sQ (sAsg (lstE (bnd (eArgs [(eD (lamM (bnd (eArgs [(eN 5), (eN 6)]) (callF 2 f_number [])) (wordF subT h_law_word (PySem.Str.ofString "fine")))), (eD (lamM (bnd (eArgs [(eD (ret (.int 4))), (eN 5)]) (callF 2 f_number [])) (wordF subT h_law_word (PySem.Str.ofString "fine"))))]) lstM)) (tName 1))
  (sQ (sAsg (ite' (notM (tB (eV (eN 3)))) (e2 (eD (ret (.str (PySem.Str.ofString "count ")))) (eD (bnd (eArgs [(eN 5)]) (apL reprM))) (f2 addD)) (ite' (tB (eV (eN 4))) (ret (.str (PySem.Str.ofString "fine"))) (e2 (eD (ret (.str (PySem.Str.ofString "count ")))) (eD (bnd (eArgs [(eN 6)]) (apL reprM))) (f2 addD)))) (tName 2))
  (sRet (eD (e2 (eN 1) (eD (lstE (bnd (eArgs [(eN 2), (eD (ite' (andM (tB (eV (eN 3))) (tB (e2 (eN 5) (eD (ret (.int 0))) (f2 neD)))) (ret (.str (PySem.Str.ofString "fine"))) (e2 (eD (ret (.str (PySem.Str.ofString "count ")))) (eD (bnd (eArgs [(eN 5)]) (apL reprM))) (f2 addD))))]) lstM))) (f2 eqD))))))
theorem sQ_assoc (a b c : Ms) : sQ (sQ a b) c = sQ a (sQ b c) := by
  funext g; unfold sQ; cases a g <;> rfl
theorem right_is : b_law_right = sQ zD (sQ zP (sQ zM (sQ zS zB))) := by
  simp only [b_law_right, zD, zP, zM, zS, zB, sQ_assoc]
def chk (r : Fm) : Option Mo := match r with
  | .ok (.bl true) m => some m
  | _ => none
def envA (m : Mo) (v w : D) : En := [.pm m, .no, .no, .no, .no, .va v, .va w, .no, .no, .no, .no]
/-- items without use of the second -/
def probe (m : Mo) (w : D) (b : Bool) (v : D) : Option (Sl × Sl × Option Mo) := match sQ zP zM (envA m v w) with
  | .nx g => some (gt g 4, gt g 6, chk (fin2 (zB (g.set 4 (.va (.bl b))))))
  | _ => none
def isW (v : D) : Bool := match v with
  | .int _ => true
  | _ => false
def isQ (v : D) : Bool := match v with
  | .tup [.int _, .int _] => true
  | _ => false
def isNum (v : D) : Bool := match f_law_is_number [v] with
  | .ok (.bl b) => b
  | _ => false
def isSp (v : D) : Bool := isNum v || (match v with | .int i => !decide (i = 10 ^ 45) | _ => false)
def special : List D := menu.filter isSp
def common : List D := menu.filter fun v => !isSp v
def envB (m : Mo) (v w : D) (iw bd : Bool) : En := [.pm m, .no, .no, .no, .no, .va v, .va w, .va (.bl iw), .va (.bl bd), .va (.tup [.int 3, .int 2]), .va (.str (if bd then PySem.Str.ofString "fraction" else PySem.Str.ofString "fine"))]
end
theorem common_ok (m : Mo) (w : D) (b : Bool) : common.map (probe m w b) = common.map fun _ => some (.no, .va w, some m) := by kernel_rfl
theorem special_pre (m : Mo) (w : D) : special.map (fun v => zP (envA m v w)) = special.map fun v => .nx (envB m v w (isW v) (!isNum v)) := by kernel_rfl
theorem special_ok (m : Mo) : special.map (fun v => menu.map fun w => chk (fin2 (sQ zM (sQ zS zB) (envB m v w (isW v) (!isNum v))))) = special.map fun _ => menu.map fun _ => some m := by kernel_rfl

noncomputable section
def zT : Ms := (sQ (sAsg (lstE (bnd (eArgs [(eD (ret .non)), (eD (ret (.bl true))), (eD (ret (.bl false))), (eD (ret (.int 0))), (eD (ret (.int 1))), (eD (e1 (eD (ret (.int 3))) (f1 negD))), (eD (e2 (eD (ret (.int 10))) (eD (ret (.int 45))) (f2 powD))), (eD (ret (.str (PySem.Str.ofString "a")))), (eD (ret (.str (PySem.Str.ofString "")))), (eD (ret (.str (PySem.Str.ofString "up.2")))), (eD (ret (.str (PySem.Str.ofString "2up")))), (eD (ret (.str (PySem.Str.ofString "Up")))), (eD (ret (.str (PySem.Str.ofString "a b")))), (eD (ret (.str (PySem.Str.ofString "abcdefghijkl")))), (eD (ret (.str (PySem.Str.ofString "abcdefghijklm"))))]) lstM)) (tName 1))
  (sQ (sAsg (e2 (eN 1) (eD (lstE (bnd (eArgs [(eD (bnd (eArgs []) tupM)), (eD (bnd (eArgs [(eD (ret (.int 0))), (eD (ret (.int 1)))]) tupM)), (eD (bnd (eArgs [(eD (ret (.int 1))), (eD (ret (.int 1)))]) tupM)), (eD (bnd (eArgs [(eD (ret (.int 2))), (eD (ret (.int 4)))]) tupM)), (eD (bnd (eArgs [(eD (ret (.int 0))), (eD (ret (.int 2)))]) tupM)), (eD (bnd (eArgs [(eD (ret (.int 1))), (eD (ret (.int 0)))]) tupM)), (eD (bnd (eArgs [(eD (ret (.int 1))), (eD (e1 (eD (ret (.int 2))) (f1 negD)))]) tupM)), (eD (bnd (eArgs [(eD (e1 (eD (ret (.int 1))) (f1 negD))), (eD (ret (.int 2)))]) tupM)), (eD (bnd (eArgs [(eD (ret (.bl true))), (eD (ret (.int 1)))]) tupM)), (eD (bnd (eArgs [(eD (ret (.int 1))), (eD (ret (.bl true)))]) tupM)), (eD (lstE (bnd (eArgs [(eD (ret (.int 1))), (eD (ret (.int 2)))]) lstM))), (eD (bnd (eArgs [(eD (ret (.int 1)))]) tupM))]) lstM))) (f2 addD)) (tName 1))
  (sAsg (e2 (eN 1) (eD (lstE (bnd (eArgs [(eD (bnd (eArgs [(eD (ret (.int 1))), (eD (ret (.int 2))), (eD (ret (.int 3)))]) tupM)), (eD (bnd (eArgs [(eD (e2 (eD (e2 (eD (ret (.int 10))) (eD (ret (.int 39))) (f2 powD))) (eD (ret (.int 1))) (f2 addD))), (eD (e2 (eD (ret (.int 10))) (eD (ret (.int 39))) (f2 powD)))]) tupM)), (eD (bnd (eArgs [(eD (bnd (eArgs [(eD (ret (.int 1))), (eD (ret (.int 1)))]) tupM)), (eD (ret (.int 1)))]) tupM)), (eD (bnd (eArgs [(eD (ret (.str (PySem.Str.ofString "1")))), (eD (ret (.int 1)))]) tupM)), (eD (bnd (eArgs [(eD (ret .non)), (eD (ret (.int 1)))]) tupM)), (eD (ret (.str (PySem.Str.ofString "1/2")))), (eD (bnd (ret (.dc [] [])) moD)), (eD (bnd (dispM [((ret (.int 1)), (ret (.int 2)))]) moD)), (eD (ret (.str (PySem.Str.ofString ".a")))), (eD (ret (.str (PySem.Str.ofString "a."))))]) lstM))) (f2 addD)) (tName 1))))
def zR : Ms := (sRet (eD (bnd (eArgs [(eN 0), (eN 1)]) (callM 2 f_law_pick []))))
end
theorem some_is : b_law_some = sQ zT zR := by simp only [b_law_some, zT, zR, sQ_assoc]
theorem some_pre (m : Mo) : zT [.pm m, .no] = .nx [.pm m, .va (.lst menu)] := by kernel_rfl
theorem s_some {m : Mo} (hm : Dice m) : ∃ d m', f_law_some m [] = .ok d m' ∧ Dice m' ∧ d ∈ menu := by
  obtain ⟨d, m', e, ⟨a, b, c, rfl⟩, hd⟩ := s_pick hm (xs := menu) (by decide +kernel) (by decide +kernel)
  refine m_ex (Y := fun d m' => Dice m' ∧ d ∈ menu) ?_
  rw [some_is]
  simp only [List.map_nil, List.replicate, List.cons_append, List.nil_append]
  unfold sQ
  rw [some_pre]
  simp only [zR, ↓O_ret, ↓O_bad, ↓O_bnd, ↓O_opt, ↓O_if, ↓O_ite, ↓O_eN, ↓O_e1, ↓O_e2, ↓U_ap1, ↓U_ap2, ↓U_f1, ↓U_f2, ↓U_opt, ↓O_eD, ↓O_eV, ↓O_vl, ↓O_tB, ↓O_asB, ↓O_notM, ↓O_ofB, ↓O_andM, ↓O_orM, ↓O_args0, ↓O_args1, ↓U_apL, ↓U_tup, ↓U_lst, ↓U_call, ↓U_callN, ↓U_callM, ↓U_callMN, ↓U_itM, ↓U_rev, ↓O_noex, ↓S_seq, ↓S_nil, ↓S_pass, ↓S_brk, ↓S_cnt, ↓S_bad, ↓S_nx, ↓S_rt, ↓S_asg, ↓S_if, ↓S_exp, ↓S_retN, ↓S_ret, ↓S_retW, ↓S_new, ↓S_par, ↓S_par3, ↓S_for, gt, res, resL, vls, anyO, setV, setO, setMo, Sl.mo, Mo.dat, tName, Mir.tTup, Mir.tNil, Mir.tCons, tupN, tupD, lenN, lenD, absN, absD, intN, intD, maxN, maxD, minN, minD, negD, addD, subD, ltD, leD, gtD, geD, modD, ixD, isND, notND, at0, at1, at2, eq_int, ne_int, eq_bl, isi_tup, isi_int, isi_bl, isT_tt, isT_ii, isT_ib, allN, allD, anyN, anyD, itD, lstE, lsM, ltY_i, leY_i, mulY_i, isiY_i, nolk_ls, ↓reduceIte, Nat.reduceLT, Nat.reduceAdd, Nat.reduceLeDiff, Nat.zero_add, List.map, List.cons_append, List.nil_append, List.replicate, List.append_nil, List.length_cons, List.length_nil, Option.map_some, Option.map_none, Option.bind_some, List.set_cons_zero, List.set_cons_succ, Bool.false_and, Bool.true_and, Bool.and_false, Bool.and_true, Bool.not_true, Bool.not_false, if_true, if_false, Bool.false_eq_true, decide_true, decide_false, e]
  exact ⟨d, _, rfl, rfl, ⟨a, b, c, rfl⟩, hd⟩
theorem SO_nx {r : Ro} {g2 : En} (h : SO r (fun g => g = g2) (fun _ _ => False) (fun _ => False) (fun _ => False) (fun _ _ => False)) : r = .nx g2 := by
  cases r with
  | nx g => have h : g = g2 := h; rw [h]
  | _ => exact h.elim
theorem chk_ok {r : Fm} {m : Mo} (h : chk r = some m) : r = .ok (.bl true) m := by
  unfold chk at h
  split at h
  · cases h; rfl
  · cases h
theorem draw_ok {m m1 m2 : Mo} {v w : D} (e1 : f_law_some m [] = .ok v m1) (e2 : f_law_some m1 [] = .ok w m2) (h1 : Dice m1) (h2 : Dice m2) : zD (.pm m :: List.replicate 10 .no) = .nx (envA m2 v w) := by
  obtain ⟨a, b, c, rfl⟩ := h1
  obtain ⟨a2, b2, c2, rfl⟩ := h2
  refine SO_nx ?_
  have l1 : (5 < 11) = True := by decide
  have l2 : (6 < 11) = True := by decide
  simp only [zD, List.replicate, ↓O_ret, ↓O_bad, ↓O_bnd, ↓O_opt, ↓O_if, ↓O_ite, ↓O_eN, ↓O_e1, ↓O_e2, ↓U_ap1, ↓U_ap2, ↓U_f1, ↓U_f2, ↓U_opt, ↓O_eD, ↓O_eV, ↓O_vl, ↓O_tB, ↓O_asB, ↓O_notM, ↓O_ofB, ↓O_andM, ↓O_orM, ↓O_args0, ↓O_args1, ↓U_apL, ↓U_tup, ↓U_lst, ↓U_call, ↓U_callN, ↓U_callM, ↓U_callMN, ↓U_itM, ↓U_rev, ↓O_noex, ↓S_seq, ↓S_nil, ↓S_pass, ↓S_brk, ↓S_cnt, ↓S_bad, ↓S_nx, ↓S_rt, ↓S_asg, ↓S_if, ↓S_exp, ↓S_retN, ↓S_ret, ↓S_retW, ↓S_new, ↓S_par, ↓S_par3, ↓S_for, gt, res, resL, vls, anyO, setV, setO, setMo, Sl.mo, Mo.dat, tName, Mir.tTup, Mir.tNil, Mir.tCons, tupN, tupD, lenN, lenD, absN, absD, intN, intD, maxN, maxD, minN, minD, negD, addD, subD, ltD, leD, gtD, geD, modD, ixD, isND, notND, at0, at1, at2, eq_int, ne_int, eq_bl, isi_tup, isi_int, isi_bl, isT_tt, isT_ii, isT_ib, allN, allD, anyN, anyD, itD, lstE, lsM, ltY_i, leY_i, mulY_i, isiY_i, nolk_ls, ↓reduceIte, Nat.reduceLT, Nat.reduceAdd, Nat.reduceLeDiff, Nat.zero_add, List.map, List.cons_append, List.nil_append, List.replicate, List.append_nil, List.length_cons, List.length_nil, Option.map_some, Option.map_none, Option.bind_some, List.set_cons_zero, List.set_cons_succ, Bool.false_and, Bool.true_and, Bool.and_false, Bool.and_true, Bool.not_true, Bool.not_false, if_true, if_false, Bool.false_eq_true, decide_true, decide_false, e1, e2, l1, l2, envA]
def okW : D → Bool
  | .non => true
  | .bl _ => true
  | .int _ => true
  | .str _ => true
  | .tup _ => true
  | .lst _ => true
  | .dct _ _ => true
  | _ => false
theorem menu_ok : ∀ w ∈ menu, okW w = true := by
  have : menu.all okW = true := by kernel_rfl
  exact List.all_eq_true.mp this

theorem isi_int2 {w : D} (h : okW w = true) : ∃ b, isiY [w, .ty "int"] = some (.bl b) ∧ (b = true → (∃ i, w = .int i) ∨ ∃ i, w = .bl i) := by
  cases w with
  | non => exact ⟨false, rfl, fun z => nomatch z⟩
  | bl b => exact ⟨true, rfl, fun _ => .inr ⟨_, rfl⟩⟩
  | int i => exact ⟨true, rfl, fun _ => .inl ⟨_, rfl⟩⟩
  | str x => exact ⟨false, rfl, fun z => nomatch z⟩
  | tup x => exact ⟨false, rfl, fun z => nomatch z⟩
  | lst x => exact ⟨false, rfl, fun z => nomatch z⟩
  | dct x y => exact ⟨false, rfl, fun z => nomatch z⟩
  | frl x => cases h
  | ref x => cases h
  | ty x => cases h
  | cl x => cases h
  | fn x => cases h
  | dtt x y => cases h
  | obj x y z => cases h
theorem isi_bool2 {w : D} (h : okW w = true) : ∃ b, isiY [w, .ty "bool"] = some (.bl b) ∧ (b = false → ∀ i, w ≠ .bl i) := by
  cases w with
  | non => exact ⟨false, rfl, fun _ _ z => nomatch z⟩
  | bl b => exact ⟨true, rfl, fun z => nomatch z⟩
  | int i => exact ⟨false, rfl, fun _ _ z => nomatch z⟩
  | str x => exact ⟨false, rfl, fun _ _ z => nomatch z⟩
  | tup x => exact ⟨false, rfl, fun _ _ z => nomatch z⟩
  | lst x => exact ⟨false, rfl, fun _ _ z => nomatch z⟩
  | dct x y => exact ⟨false, rfl, fun _ _ z => nomatch z⟩
  | frl x => cases h
  | ref x => cases h
  | ty x => cases h
  | cl x => cases h
  | fn x => cases h
  | dtt x y => cases h
  | obj x y z => cases h
theorem bottom_ok {w : D} (hw : okW w = true) {g : En} (h4 : gt g 4 = .no) (h6 : gt g 6 = .va w) : ∃ b : Bool, zS g = .nx (g.set 4 (.va (.bl b))) := by
  obtain ⟨b1, e1, f1⟩ := isi_int2 hw
  obtain ⟨b2, e2, f2⟩ := isi_bool2 hw
  have done : ∀ b : Bool, SO (zS g) (fun g' => g' = g.set 4 (.va (.bl b))) (fun _ _ => False) (fun _ => False) (fun _ => False) (fun _ _ => False) → ∃ b : Bool, zS g = .nx (g.set 4 (.va (.bl b))) := fun b h => ⟨b, SO_nx h⟩
  have p1 : powD (.int 10) (.int 40) = some (.int (10 ^ 40)) := powD_lit (a := 10) (b := 40) (by decide)
  have sv : ∀ d, setV g 4 d = some (g.set 4 (.va d)) := fun d => by unfold Mir.setV; rw [h4]
  have e3 : resL g [.d w, .d (.ty "int")] = some [w, .ty "int"] := rfl
  cases b1 with
  | false =>
    refine done false ?_
    simp only [zS, ↓O_ret, ↓O_bad, ↓O_bnd, ↓O_opt, ↓O_if, ↓O_ite, ↓O_eN, ↓O_e1, ↓O_e2, ↓U_ap1, ↓U_ap2, ↓U_f1, ↓U_f2, ↓U_opt, ↓O_eD, ↓O_eV, ↓O_vl, ↓O_tB, ↓O_asB, ↓O_notM, ↓O_ofB, ↓O_andM, ↓O_orM, ↓O_args0, ↓O_args1, ↓U_apL, ↓U_tup, ↓U_lst, ↓U_call, ↓U_callN, ↓U_callM, ↓U_callMN, ↓U_itM, ↓U_rev, ↓O_noex, ↓S_seq, ↓S_nil, ↓S_pass, ↓S_brk, ↓S_cnt, ↓S_bad, ↓S_nx, ↓S_rt, ↓S_asg, ↓S_if, ↓S_exp, ↓S_retN, ↓S_ret, ↓S_retW, ↓S_new, ↓S_par, ↓S_par3, ↓S_for, gt, res, resL, vls, anyO, setV, setO, setMo, Sl.mo, Mo.dat, tName, Mir.tTup, Mir.tNil, Mir.tCons, tupN, tupD, lenN, lenD, absN, absD, intN, intD, maxN, maxD, minN, minD, negD, addD, subD, ltD, leD, gtD, geD, modD, ixD, isND, notND, at0, at1, at2, eq_int, ne_int, eq_bl, isi_tup, isi_int, isi_bl, isT_tt, isT_ii, isT_ib, allN, allD, anyN, anyD, itD, lstE, lsM, ltY_i, leY_i, mulY_i, isiY_i, nolk_ls, ↓reduceIte, Nat.reduceLT, Nat.reduceAdd, Nat.reduceLeDiff, Nat.zero_add, List.map, List.cons_append, List.nil_append, List.replicate, List.append_nil, List.length_cons, List.length_nil, Option.map_some, Option.map_none, Option.bind_some, List.set_cons_zero, List.set_cons_succ, Bool.false_and, Bool.true_and, Bool.and_false, Bool.and_true, Bool.not_true, Bool.not_false, if_true, if_false, Bool.false_eq_true, decide_true, decide_false, h4, h6, e1, sv]
  | true =>
    cases b2 with
    | true =>
      refine done false ?_
      simp only [zS, ↓O_ret, ↓O_bad, ↓O_bnd, ↓O_opt, ↓O_if, ↓O_ite, ↓O_eN, ↓O_e1, ↓O_e2, ↓U_ap1, ↓U_ap2, ↓U_f1, ↓U_f2, ↓U_opt, ↓O_eD, ↓O_eV, ↓O_vl, ↓O_tB, ↓O_asB, ↓O_notM, ↓O_ofB, ↓O_andM, ↓O_orM, ↓O_args0, ↓O_args1, ↓U_apL, ↓U_tup, ↓U_lst, ↓U_call, ↓U_callN, ↓U_callM, ↓U_callMN, ↓U_itM, ↓U_rev, ↓O_noex, ↓S_seq, ↓S_nil, ↓S_pass, ↓S_brk, ↓S_cnt, ↓S_bad, ↓S_nx, ↓S_rt, ↓S_asg, ↓S_if, ↓S_exp, ↓S_retN, ↓S_ret, ↓S_retW, ↓S_new, ↓S_par, ↓S_par3, ↓S_for, gt, res, resL, vls, anyO, setV, setO, setMo, Sl.mo, Mo.dat, tName, Mir.tTup, Mir.tNil, Mir.tCons, tupN, tupD, lenN, lenD, absN, absD, intN, intD, maxN, maxD, minN, minD, negD, addD, subD, ltD, leD, gtD, geD, modD, ixD, isND, notND, at0, at1, at2, eq_int, ne_int, eq_bl, isi_tup, isi_int, isi_bl, isT_tt, isT_ii, isT_ib, allN, allD, anyN, anyD, itD, lstE, lsM, ltY_i, leY_i, mulY_i, isiY_i, nolk_ls, ↓reduceIte, Nat.reduceLT, Nat.reduceAdd, Nat.reduceLeDiff, Nat.zero_add, List.map, List.cons_append, List.nil_append, List.replicate, List.append_nil, List.length_cons, List.length_nil, Option.map_some, Option.map_none, Option.bind_some, List.set_cons_zero, List.set_cons_succ, Bool.false_and, Bool.true_and, Bool.and_false, Bool.and_true, Bool.not_true, Bool.not_false, if_true, if_false, Bool.false_eq_true, decide_true, decide_false, h4, h6, e1, e2, sv]
    | false =>
      rcases f1 rfl with ⟨i, rfl⟩ | ⟨i, rfl⟩
      · by_cases hi : (if i < 0 then -i else i) < 10 ^ 40
        · refine done (!(i == 0)) ?_
          simp only [zS, ↓O_ret, ↓O_bad, ↓O_bnd, ↓O_opt, ↓O_if, ↓O_ite, ↓O_eN, ↓O_e1, ↓O_e2, ↓U_ap1, ↓U_ap2, ↓U_f1, ↓U_f2, ↓U_opt, ↓O_eD, ↓O_eV, ↓O_vl, ↓O_tB, ↓O_asB, ↓O_notM, ↓O_ofB, ↓O_andM, ↓O_orM, ↓O_args0, ↓O_args1, ↓U_apL, ↓U_tup, ↓U_lst, ↓U_call, ↓U_callN, ↓U_callM, ↓U_callMN, ↓U_itM, ↓U_rev, ↓O_noex, ↓S_seq, ↓S_nil, ↓S_pass, ↓S_brk, ↓S_cnt, ↓S_bad, ↓S_nx, ↓S_rt, ↓S_asg, ↓S_if, ↓S_exp, ↓S_retN, ↓S_ret, ↓S_retW, ↓S_new, ↓S_par, ↓S_par3, ↓S_for, gt, res, resL, vls, anyO, setV, setO, setMo, Sl.mo, Mo.dat, tName, Mir.tTup, Mir.tNil, Mir.tCons, tupN, tupD, lenN, lenD, absN, absD, intN, intD, maxN, maxD, minN, minD, negD, addD, subD, ltD, leD, gtD, geD, modD, ixD, isND, notND, at0, at1, at2, eq_int, ne_int, eq_bl, isi_tup, isi_int, isi_bl, isT_tt, isT_ii, isT_ib, allN, allD, anyN, anyD, itD, lstE, lsM, ltY_i, leY_i, mulY_i, isiY_i, nolk_ls, ↓reduceIte, Nat.reduceLT, Nat.reduceAdd, Nat.reduceLeDiff, Nat.zero_add, List.map, List.cons_append, List.nil_append, List.replicate, List.append_nil, List.length_cons, List.length_nil, Option.map_some, Option.map_none, Option.bind_some, List.set_cons_zero, List.set_cons_succ, Bool.false_and, Bool.true_and, Bool.and_false, Bool.and_true, Bool.not_true, Bool.not_false, if_true, if_false, Bool.false_eq_true, decide_true, decide_false, h4, h6, e1, e2, sv, p1, hi]
        · refine done false ?_
          simp only [zS, ↓O_ret, ↓O_bad, ↓O_bnd, ↓O_opt, ↓O_if, ↓O_ite, ↓O_eN, ↓O_e1, ↓O_e2, ↓U_ap1, ↓U_ap2, ↓U_f1, ↓U_f2, ↓U_opt, ↓O_eD, ↓O_eV, ↓O_vl, ↓O_tB, ↓O_asB, ↓O_notM, ↓O_ofB, ↓O_andM, ↓O_orM, ↓O_args0, ↓O_args1, ↓U_apL, ↓U_tup, ↓U_lst, ↓U_call, ↓U_callN, ↓U_callM, ↓U_callMN, ↓U_itM, ↓U_rev, ↓O_noex, ↓S_seq, ↓S_nil, ↓S_pass, ↓S_brk, ↓S_cnt, ↓S_bad, ↓S_nx, ↓S_rt, ↓S_asg, ↓S_if, ↓S_exp, ↓S_retN, ↓S_ret, ↓S_retW, ↓S_new, ↓S_par, ↓S_par3, ↓S_for, gt, res, resL, vls, anyO, setV, setO, setMo, Sl.mo, Mo.dat, tName, Mir.tTup, Mir.tNil, Mir.tCons, tupN, tupD, lenN, lenD, absN, absD, intN, intD, maxN, maxD, minN, minD, negD, addD, subD, ltD, leD, gtD, geD, modD, ixD, isND, notND, at0, at1, at2, eq_int, ne_int, eq_bl, isi_tup, isi_int, isi_bl, isT_tt, isT_ii, isT_ib, allN, allD, anyN, anyD, itD, lstE, lsM, ltY_i, leY_i, mulY_i, isiY_i, nolk_ls, ↓reduceIte, Nat.reduceLT, Nat.reduceAdd, Nat.reduceLeDiff, Nat.zero_add, List.map, List.cons_append, List.nil_append, List.replicate, List.append_nil, List.length_cons, List.length_nil, Option.map_some, Option.map_none, Option.bind_some, List.set_cons_zero, List.set_cons_succ, Bool.false_and, Bool.true_and, Bool.and_false, Bool.and_true, Bool.not_true, Bool.not_false, if_true, if_false, Bool.false_eq_true, decide_true, decide_false, h4, h6, e1, e2, sv, p1, hi]
      · exact absurd rfl (f2 rfl i)
theorem rest_ok (m : Mo) {v w : D} (hv : v ∈ menu) (hw : w ∈ menu) : fin2 (sQ zP (sQ zM (sQ zS zB)) (envA m v w)) = .ok (.bl true) m := by
  have assoc : sQ zP (sQ zM (sQ zS zB)) = sQ (sQ zP zM) (sQ zS zB) := (sQ_assoc _ _ _).symm
  cases hs : isSp v with
  | true =>
    have inS : v ∈ special := List.mem_filter.mpr ⟨hv, hs⟩
    have q1 := List.map_inj_left.mp (special_pre m w) v inS
    have q2 := List.map_inj_left.mp (List.map_inj_left.mp (special_ok m) v inS) w hw
    have q3 := chk_ok q2
    have e : sQ zP (sQ zM (sQ zS zB)) (envA m v w) = sQ zM (sQ zS zB) (envB m v w (isW v) (!isNum v)) := by
      show (match zP (envA m v w) with | .nx g' => sQ zM (sQ zS zB) g' | o => o) = _
      rw [q1]
    rw [e]; exact q3
  | false =>
    have inC : v ∈ common := List.mem_filter.mpr ⟨hv, by rw [hs]; rfl⟩
    have q := fun b => List.map_inj_left.mp (common_ok m w b) v inC
    rw [assoc]
    have q0 := q true
    unfold probe at q q0
    cases er : sQ zP zM (envA m v w) with
    | nx g =>
      rw [er] at q0
      simp only [er] at q
      have k0 : (gt g 4, gt g 6, chk (fin2 (zB (g.set 4 (.va (.bl true)))))) = (Sl.no, Sl.va w, some m) := Option.some.inj q0
      have k4 : gt g 4 = .no := congrArg (fun z => z.1) k0
      have k6 : gt g 6 = .va w := congrArg (fun z => z.2.1) k0
      obtain ⟨b, eb⟩ := bottom_ok (menu_ok w hw) k4 k6
      have kb : (gt g 4, gt g 6, chk (fin2 (zB (g.set 4 (.va (.bl b)))))) = (Sl.no, Sl.va w, some m) := Option.some.inj (q b)
      have kc : chk (fin2 (zB (g.set 4 (.va (.bl b))))) = some m := congrArg (fun z => z.2.2) kb
      have e : sQ (sQ zP zM) (sQ zS zB) (envA m v w) = zB (g.set 4 (.va (.bl b))) := by
        show (match sQ zP zM (envA m v w) with | .nx g' => sQ zS zB g' | o => o) = _
        rw [er]
        show (match zS g with | .nx g' => zB g' | o => o) = _
        rw [eb]
      rw [e]; exact chk_ok kc
    | rt s g => rw [er] at q0; cases q0
    | ex s g => rw [er] at q0; cases q0
    | bk g => rw [er] at q0; cases q0
    | ct g => rw [er] at q0; cases q0
    | bad => rw [er] at q0; cases q0
theorem s_right {m : Mo} (hm : Dice m) : ∃ d m', f_law_right m [] = .ok d m' ∧ Dice m' ∧ d = .bl true := by
  obtain ⟨v, m1, e1, h1, hv⟩ := s_some hm
  obtain ⟨w, m2, e2, h2, hw⟩ := s_some h1
  refine ⟨_, m2, ?_, h2, rfl⟩
  show fin2 (b_law_right (.pm m :: List.replicate 10 .no)) = _
  rw [right_is]
  have e : sQ zD (sQ zP (sQ zM (sQ zS zB))) (.pm m :: List.replicate 10 .no) = sQ zP (sQ zM (sQ zS zB)) (envA m2 v w) := by
    show (match zD (.pm m :: List.replicate 10 .no) with | .nx g' => sQ zP (sQ zM (sQ zS zB)) g' | o => o) = _
    rw [draw_ok e1 e2 h1 h2]
  rw [e]
  exact rest_ok m2 hv hw

theorem SO_seqE {a b : Ms} {g g2 : En} {N : En → Prop} {R : Sl → En → Prop} {B C : En → Prop} {E : Xn → En → Prop} (h1 : SO (a g) (fun x => x = g2) R B C E) (h2 : SO (b g2) N R B C E) : SO (sQ a b g) N R B C E := by
  rw [S_seq]
  exact h1.mono (fun x e => by subst e; exact h2) (fun _ _ h => h) (fun _ h => h) (fun _ h => h) fun _ _ h => h
theorem SO_seq {a b : Ms} {g : En} (M : En → Prop) {N : En → Prop} {R : Sl → En → Prop} {B C : En → Prop} {E : Xn → En → Prop} (h1 : SO (a g) M R B C E) (h2 : ∀ g2, M g2 → SO (b g2) N R B C E) : SO (sQ a b g) N R B C E := by
  rw [S_seq]
  exact h1.mono h2 (fun _ _ h => h) (fun _ h => h) (fun _ h => h) fun _ _ h => h
noncomputable section
def zL : Ms := (sFor (bnd (eArgs [(eD (bnd (eArgs [(eD (ret (.int 1))), (eD (bnd (eArgs [(eD (ret (.int 6))), (eD (bnd (eArgs [(eN 0)]) (apL lenN)))]) (apL minN)))]) (apL maxN)))]) rng1) (tName 1)
  (sQ (sNew 3 (bnd (eArgs [(eN 0), (eN 1)]) (callN 2 f_law_dice [])))
  (sFor (bnd (eArgs [(eD (ret (.int 8)))]) rng1) (tName 4)
  (sIf (notM (tB (bnd (eArgs [(eN 3)]) (callM 1 f_law_right []))))
  (sRet (eD (ret (.bl false))))
  sNil))))
def zF : Ms := (sQ (sAsg (lstE (bnd (eArgs [(eD (lamM (bnd (eArgs [(eD (bnd (eArgs [(eD (ret (.int 1))), (eD (ret (.int 2)))]) tupM)), (eD (ret (.int 61)))]) (callF 2 f_power [])) (wordF subT h_law_word (PySem.Str.ofString "fine")))), (eD (lamM (bnd (eArgs [(eD (bnd (eArgs [(eD (ret (.int 1))), (eD (ret (.int 2)))]) tupM)), (eD (ret (.int 60)))]) (callF 2 f_power [])) (wordF subT h_law_word (PySem.Str.ofString "fine"))))]) lstM)) (tName 2))
  (sQ (sAsg (e2 (eN 2) (eD (lstE (bnd (eArgs [(eD (lamM (bnd (eArgs [(eD (lstE (bnd (eArgs [(eD (bnd (eArgs [(eD (ret (.int 1))), (eD (ret (.int 1)))]) tupM))]) lstM)))]) (callF 1 f_total [])) (wordF subT h_law_word (PySem.Str.ofString "fine")))), (eD (lamM (bnd (eArgs [(eD (ret (.int 1))), (eD (ret (.int 0)))]) (callF 2 f_number [])) (wordF subT h_law_word (PySem.Str.ofString "fine"))))]) lstM))) (f2 addD)) (tName 2))
  (sRet (eD (e2 (eN 2) (eD (lstE (bnd (eArgs [(eD (ret (.str (PySem.Str.ofString "count 61")))), (eD (ret (.str (PySem.Str.ofString "fine")))), (eD (ret (.str (PySem.Str.ofString "fraction")))), (eD (ret (.str (PySem.Str.ofString "count 0"))))]) lstM))) (f2 eqD))))))
end
theorem law_is : b_law = sQ zL zF := by simp only [b_law, zL, zF]
theorem fin_ok (xs : List D) (s1 s3 s4 : Sl) : fin1 (zF [.va (.frl xs), s1, .no, s3, s4]) = .ok (.bl true) := by kernel_rfl
theorem law_loop (ns : List Int) (h : ns.length ≤ 63) : SO (zL [.va (.frl (ns.map .int)), .no, .no, .no, .no]) (fun g => ∃ s1 s3 s4, g = [.va (.frl (ns.map .int)), s1, .no, s3, s4]) (fun _ _ => False) (fun _ => False) (fun _ => False) (fun _ _ => False) := by
  simp only [zL, ↓O_ret, ↓O_bad, ↓O_bnd, ↓O_opt, ↓O_if, ↓O_ite, ↓O_eN, ↓O_e1, ↓O_e2, ↓U_ap1, ↓U_ap2, ↓U_f1, ↓U_f2, ↓U_opt, ↓O_eD, ↓O_eV, ↓O_vl, ↓O_tB, ↓O_asB, ↓O_notM, ↓O_ofB, ↓O_andM, ↓O_orM, ↓O_args0, ↓O_args1, ↓U_apL, ↓U_tup, ↓U_lst, ↓U_call, ↓U_callN, ↓U_callM, ↓U_callMN, ↓U_itM, ↓U_rev, ↓O_noex, ↓S_seq, ↓S_nil, ↓S_pass, ↓S_brk, ↓S_cnt, ↓S_bad, ↓S_nx, ↓S_rt, ↓S_asg, ↓S_if, ↓S_exp, ↓S_retN, ↓S_ret, ↓S_retW, ↓S_new, ↓S_par, ↓S_par3, ↓S_for, gt, res, resL, vls, anyO, setV, setO, setMo, Sl.mo, Mo.dat, tName, Mir.tTup, Mir.tNil, Mir.tCons, tupN, tupD, lenN, lenD, absN, absD, intN, intD, maxN, maxD, minN, minD, negD, addD, subD, ltD, leD, gtD, geD, modD, ixD, isND, notND, at0, at1, at2, eq_int, ne_int, eq_bl, isi_tup, isi_int, isi_bl, isT_tt, isT_ii, isT_ib, allN, allD, anyN, anyD, itD, lstE, lsM, ltY_i, leY_i, mulY_i, isiY_i, nolk_ls, ↓reduceIte, Nat.reduceLT, Nat.reduceAdd, Nat.reduceLeDiff, Nat.zero_add, List.map, List.cons_append, List.nil_append, List.replicate, List.append_nil, List.length_cons, List.length_nil, Option.map_some, Option.map_none, Option.bind_some, List.set_cons_zero, List.set_cons_succ, Bool.false_and, Bool.true_and, Bool.and_false, Bool.and_true, Bool.not_true, Bool.not_false, if_true, if_false, Bool.false_eq_true, decide_true, decide_false, ↓U_rng1, List.length_map]
  rw [if_pos (inW_iff.mpr (by split <;> split <;> omega))]
  apply S_forL (fun i g => ∃ s1 s3 s4, Fr s1 ∧ (s3 = .no ∨ ∃ m, s3 = .ow m) ∧ Fr s4 ∧ g = [.va (.frl (ns.map .int)), s1, .no, s3, s4])
  · exact ⟨_, _, _, .no, .inl rfl, .no, rfl⟩
  · rintro i d g hd ⟨s1, s3, s4, h1, h3, h4, rfl⟩
    obtain ⟨hi, rfl⟩ := rng_get hd
    have hi' : i < 6 := by
      revert hi
      split <;> split <;> omega
    obtain ⟨xs, ed, hx⟩ := s_dice ns i (by omega) (by omega)
    refine ⟨[.va (.frl (ns.map .int)), .va (.int i), .no, s3, s4], ?_, ?_⟩
    · rcases h1 with rfl | ⟨d, rfl⟩ <;> rfl
    · have lt35 : (3 < 5) = True := by decide
      obtain ⟨a0, b0, c0, rfl⟩ := hx
      refine SO_seqE (g2 := [.va (.frl (ns.map .int)), .va (.int i), .no, .ow (.ls [.int a0, .int b0, .int c0]), s4]) ?_ ?_
      · rcases h3 with rfl | ⟨m, rfl⟩
        · simp only [↓O_ret, ↓O_bad, ↓O_bnd, ↓O_opt, ↓O_if, ↓O_ite, ↓O_eN, ↓O_e1, ↓O_e2, ↓U_ap1, ↓U_ap2, ↓U_f1, ↓U_f2, ↓U_opt, ↓O_eD, ↓O_eV, ↓O_vl, ↓O_tB, ↓O_asB, ↓O_notM, ↓O_ofB, ↓O_andM, ↓O_orM, ↓O_args0, ↓O_args1, ↓U_apL, ↓U_tup, ↓U_lst, ↓U_call, ↓U_callN, ↓U_callM, ↓U_callMN, ↓U_itM, ↓U_rev, ↓O_noex, ↓S_seq, ↓S_nil, ↓S_pass, ↓S_brk, ↓S_cnt, ↓S_bad, ↓S_nx, ↓S_rt, ↓S_asg, ↓S_if, ↓S_exp, ↓S_retN, ↓S_ret, ↓S_retW, ↓S_new, ↓S_par, ↓S_par3, ↓S_for, gt, res, resL, vls, anyO, setV, setO, setMo, Sl.mo, Mo.dat, tName, Mir.tTup, Mir.tNil, Mir.tCons, tupN, tupD, lenN, lenD, absN, absD, intN, intD, maxN, maxD, minN, minD, negD, addD, subD, ltD, leD, gtD, geD, modD, ixD, isND, notND, at0, at1, at2, eq_int, ne_int, eq_bl, isi_tup, isi_int, isi_bl, isT_tt, isT_ii, isT_ib, allN, allD, anyN, anyD, itD, lstE, lsM, ltY_i, leY_i, mulY_i, isiY_i, nolk_ls, ↓reduceIte, Nat.reduceLT, Nat.reduceAdd, Nat.reduceLeDiff, Nat.zero_add, List.map, List.cons_append, List.nil_append, List.replicate, List.append_nil, List.length_cons, List.length_nil, Option.map_some, Option.map_none, Option.bind_some, List.set_cons_zero, List.set_cons_succ, Bool.false_and, Bool.true_and, Bool.and_false, Bool.and_true, Bool.not_true, Bool.not_false, if_true, if_false, Bool.false_eq_true, decide_true, decide_false, ed, lt35]
        · simp only [↓O_ret, ↓O_bad, ↓O_bnd, ↓O_opt, ↓O_if, ↓O_ite, ↓O_eN, ↓O_e1, ↓O_e2, ↓U_ap1, ↓U_ap2, ↓U_f1, ↓U_f2, ↓U_opt, ↓O_eD, ↓O_eV, ↓O_vl, ↓O_tB, ↓O_asB, ↓O_notM, ↓O_ofB, ↓O_andM, ↓O_orM, ↓O_args0, ↓O_args1, ↓U_apL, ↓U_tup, ↓U_lst, ↓U_call, ↓U_callN, ↓U_callM, ↓U_callMN, ↓U_itM, ↓U_rev, ↓O_noex, ↓S_seq, ↓S_nil, ↓S_pass, ↓S_brk, ↓S_cnt, ↓S_bad, ↓S_nx, ↓S_rt, ↓S_asg, ↓S_if, ↓S_exp, ↓S_retN, ↓S_ret, ↓S_retW, ↓S_new, ↓S_par, ↓S_par3, ↓S_for, gt, res, resL, vls, anyO, setV, setO, setMo, Sl.mo, Mo.dat, tName, Mir.tTup, Mir.tNil, Mir.tCons, tupN, tupD, lenN, lenD, absN, absD, intN, intD, maxN, maxD, minN, minD, negD, addD, subD, ltD, leD, gtD, geD, modD, ixD, isND, notND, at0, at1, at2, eq_int, ne_int, eq_bl, isi_tup, isi_int, isi_bl, isT_tt, isT_ii, isT_ib, allN, allD, anyN, anyD, itD, lstE, lsM, ltY_i, leY_i, mulY_i, isiY_i, nolk_ls, ↓reduceIte, Nat.reduceLT, Nat.reduceAdd, Nat.reduceLeDiff, Nat.zero_add, List.map, List.cons_append, List.nil_append, List.replicate, List.append_nil, List.length_cons, List.length_nil, Option.map_some, Option.map_none, Option.bind_some, List.set_cons_zero, List.set_cons_succ, Bool.false_and, Bool.true_and, Bool.and_false, Bool.and_true, Bool.not_true, Bool.not_false, if_true, if_false, Bool.false_eq_true, decide_true, decide_false, ed, lt35]
      · simp only [↓O_ret, ↓O_bad, ↓O_bnd, ↓O_opt, ↓O_if, ↓O_ite, ↓O_eN, ↓O_e1, ↓O_e2, ↓U_ap1, ↓U_ap2, ↓U_f1, ↓U_f2, ↓U_opt, ↓O_eD, ↓O_eV, ↓O_vl, ↓O_tB, ↓O_asB, ↓O_notM, ↓O_ofB, ↓O_andM, ↓O_orM, ↓O_args0, ↓O_args1, ↓U_apL, ↓U_tup, ↓U_lst, ↓U_call, ↓U_callN, ↓U_callM, ↓U_callMN, ↓U_itM, ↓U_rev, ↓O_noex, ↓S_seq, ↓S_nil, ↓S_pass, ↓S_brk, ↓S_cnt, ↓S_bad, ↓S_nx, ↓S_rt, ↓S_asg, ↓S_if, ↓S_exp, ↓S_retN, ↓S_ret, ↓S_retW, ↓S_new, ↓S_par, ↓S_par3, ↓S_for, gt, res, resL, vls, anyO, setV, setO, setMo, Sl.mo, Mo.dat, tName, Mir.tTup, Mir.tNil, Mir.tCons, tupN, tupD, lenN, lenD, absN, absD, intN, intD, maxN, maxD, minN, minD, negD, addD, subD, ltD, leD, gtD, geD, modD, ixD, isND, notND, at0, at1, at2, eq_int, ne_int, eq_bl, isi_tup, isi_int, isi_bl, isT_tt, isT_ii, isT_ib, allN, allD, anyN, anyD, itD, lstE, lsM, ltY_i, leY_i, mulY_i, isiY_i, nolk_ls, ↓reduceIte, Nat.reduceLT, Nat.reduceAdd, Nat.reduceLeDiff, Nat.zero_add, List.map, List.cons_append, List.nil_append, List.replicate, List.append_nil, List.length_cons, List.length_nil, Option.map_some, Option.map_none, Option.bind_some, List.set_cons_zero, List.set_cons_succ, Bool.false_and, Bool.true_and, Bool.and_false, Bool.and_true, Bool.not_true, Bool.not_false, if_true, if_false, Bool.false_eq_true, decide_true, decide_false, ↓U_rng1]
        rw [if_pos (inW_iff.mpr (by omega))]
        apply S_forL (fun j g => ∃ m s, Dice m ∧ Fr s ∧ g = [.va (.frl (ns.map .int)), .va (.int i), .no, .ow m, s])
        · exact ⟨_, _, ⟨_, _, _, rfl⟩, h4, rfl⟩
        · rintro j d g hd ⟨m, s, hm, hs, rfl⟩
          obtain ⟨hj, rfl⟩ := rng_get hd
          obtain ⟨_, m', er, ⟨a1, b1, c1, rfl⟩, rfl⟩ := s_right hm
          refine ⟨[.va (.frl (ns.map .int)), .va (.int i), .no, .ow m, .va (.int j)], ?_, ?_⟩
          · rcases hs with rfl | ⟨d, rfl⟩ <;> rfl
          · simp only [↓O_ret, ↓O_bad, ↓O_bnd, ↓O_opt, ↓O_if, ↓O_ite, ↓O_eN, ↓O_e1, ↓O_e2, ↓U_ap1, ↓U_ap2, ↓U_f1, ↓U_f2, ↓U_opt, ↓O_eD, ↓O_eV, ↓O_vl, ↓O_tB, ↓O_asB, ↓O_notM, ↓O_ofB, ↓O_andM, ↓O_orM, ↓O_args0, ↓O_args1, ↓U_apL, ↓U_tup, ↓U_lst, ↓U_call, ↓U_callN, ↓U_callM, ↓U_callMN, ↓U_itM, ↓U_rev, ↓O_noex, ↓S_seq, ↓S_nil, ↓S_pass, ↓S_brk, ↓S_cnt, ↓S_bad, ↓S_nx, ↓S_rt, ↓S_asg, ↓S_if, ↓S_exp, ↓S_retN, ↓S_ret, ↓S_retW, ↓S_new, ↓S_par, ↓S_par3, ↓S_for, gt, res, resL, vls, anyO, setV, setO, setMo, Sl.mo, Mo.dat, tName, Mir.tTup, Mir.tNil, Mir.tCons, tupN, tupD, lenN, lenD, absN, absD, intN, intD, maxN, maxD, minN, minD, negD, addD, subD, ltD, leD, gtD, geD, modD, ixD, isND, notND, at0, at1, at2, eq_int, ne_int, eq_bl, isi_tup, isi_int, isi_bl, isT_tt, isT_ii, isT_ib, allN, allD, anyN, anyD, itD, lstE, lsM, ltY_i, leY_i, mulY_i, isiY_i, nolk_ls, ↓reduceIte, Nat.reduceLT, Nat.reduceAdd, Nat.reduceLeDiff, Nat.zero_add, List.map, List.cons_append, List.nil_append, List.replicate, List.append_nil, List.length_cons, List.length_nil, Option.map_some, Option.map_none, Option.bind_some, List.set_cons_zero, List.set_cons_succ, Bool.false_and, Bool.true_and, Bool.and_false, Bool.and_true, Bool.not_true, Bool.not_false, if_true, if_false, Bool.false_eq_true, decide_true, decide_false, er]
            exact ⟨_, _, ⟨a1, b1, c1, rfl⟩, .va, rfl⟩
        · rintro g ⟨m, s, hm, hs, rfl⟩
          exact ⟨_, _, _, .va, .inr ⟨_, rfl⟩, hs, rfl⟩
  · rintro g ⟨s1, s4, s5, h1, h4, h5, rfl⟩
    exact ⟨_, _, _, rfl⟩
theorem law_true (ns : List Int) (h : ns.length ≤ 63) : f_law [.frl (ns.map .int)] = .ok (.bl true) := by
  show fin1 (b_law [.va (.frl (ns.map .int)), .no, .no, .no, .no]) = _
  rw [law_is]
  have q := law_loop ns h
  show fin1 (match zL [.va (.frl (ns.map .int)), .no, .no, .no, .no] with | .nx g' => zF g' | o => o) = _
  cases e : zL [.va (.frl (ns.map .int)), .no, .no, .no, .no] with
  | nx g =>
    rw [e] at q
    obtain ⟨s1, s3, s4, rfl⟩ := q
    exact fin_ok _ _ _ _
  | rt s g => rw [e] at q; exact q.elim
  | ex s g => rw [e] at q; exact q.elim
  | bk g => rw [e] at q; exact q.elim
  | ct g => rw [e] at q; exact q.elim
  | bad => rw [e] at q; exact q.elim

end MLaw
open PySem PySem.W PySem.Calls PyProof.Rows
set_option maxRecDepth 100000 in
theorem PySem.Challenge.cw_keepersapart_k22_errors_and_judges_of_nu_holds : PySem.Challenge.rw_keepersapart_k22_errors_and_judges_of_nu.Holds := by
  w_on; o_law
  refine HandSHeadRun.head_any (r := OpenLaw.row PySem.Challenge.rw_keepersapart_k22_errors_and_judges_of_nu) (q := view (OpenLaw.row PySem.Challenge.rw_keepersapart_k22_errors_and_judges_of_nu).prog [43]) (H := MLaw.hk) (ob := MLaw.ob) (M := 6000) (loose := MLaw.loose) (d := HandSHeadRun.topDef (OpenLaw.row PySem.Challenge.rw_keepersapart_k22_errors_and_judges_of_nu).prog 43) (kwd := []) MLaw.ob_eq
    (by kernel_rfl) (fun s => by kernel_rfl) MLaw.run (by kernel_rfl) (by kernel_rfl) (by kernel_rfl) (by rfl) (by first | assumption | decide +kernel) (by decide +kernel) ⟨rfl, rfl, rfl, rfl, rfl, by decide +kernel⟩ ?hw ?hc
  case hw => w_witness2
  case hc =>
    refine Mir.walkG (l := PySem.Challenge.rw_keepersapart_k22_errors_and_judges_of_nu) (n := 63) (k := 10) (x := "script") (CX := L2.CX0) rfl (by decide) (by kernel_rfl) ⟨rfl, by decide, by decide⟩ (by kernel_rfl) (by kernel_rfl) (by decide) ?F (fun _ _ _ _ z => z)
    intro w mg fa h Y G hmg0
    obtain ⟨K, KX, c⟩ := Y
    have hmg : mg ("law" : PySem.Str) = some (.ref fa) := by
      have e : (HandSHeadRun.topDef (OpenLaw.row PySem.Challenge.rw_keepersapart_k22_errors_and_judges_of_nu).prog 43).name = ("law" : PySem.Str) := by kernel_rfl
      rw [← e]
      exact hmg0
    obtain ⟨fd, hb, hF⟩ := MLaw.facts (P := (PySem.Challenge.rw_keepersapart_k22_errors_and_judges_of_nu).prog) (w := w) ⟨c.x.t.d, ⟨h, KX, G⟩, c.x.more, c.i, rfl⟩ hmg
    refine ⟨K, fd, MLaw.cs K, MLaw.TT K, (fun vs H Q _ => Mir.spD K 1 MLaw.f_law vs H Q (fun _ _ _ => False)), KX, fun p hp => ?_, fun p hp => ?_, fun p hp => ?_, fun p hp => ?_, hb, fun H a ns hl o hS => Mir.law_sp (MLaw.law_true ns hl) hS o, fun base _ _ tb => hF base tb⟩
    · obtain ⟨q, hq, rfl⟩ := List.mem_map.mp hp; exact c.x.empty q hq
    · obtain ⟨q, hq, rfl⟩ := List.mem_map.mp hp; exact c.x.out q hq
    · obtain ⟨q, hq, rfl⟩ := List.mem_map.mp hp; exact PySem.W.codeHd_of_K KX (c.x.hd q hq)
    · obtain ⟨q, hq, rfl⟩ := List.mem_map.mp hp; exact List.mem_map.mpr ⟨_, List.mem_map_of_mem hq, rfl⟩

