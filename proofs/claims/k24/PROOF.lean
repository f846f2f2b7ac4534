import PyProof.Rows.All
import Wide.All
import OpenK.AllK
import Wide.FinOn
import PyProof.EqAt
import PyProof.EqKinds
import PyProof.TupleCall
import HandS.ForMost
import HandS.ForExc
import HandS.Wide
import HandS.CallSlots
import HandS.Zip
import HandS.Style
import HandS.Defaults
import HandS.IsInst
import HandS.HeadEnd
import HandS.HeadHook4
import HandS.TupMul
import HandS.NoneIn
import PyProof.P3Eq
import HandS.Head0
import HandS.Head1
import HandS.Head2
import HandS.HeadWalk
import PySem.Challenge.RW_keepersapart_k24_whole_tables_led_one_be
set_option Elab.async false
set_option linter.all false
set_option maxRecDepth 100000
namespace Mir
open PySem PySem.Spec PyProof.Rows L2
/-- a def's promise where no repr is under way -/
structure FnG (P : Program) (w : World) (K : PySem.W.Frag) (mg : Str → Option Value) (base : Heap) (CX : CXT) (k : Nat) (f : Addr) (fd : FuncData) (ps : List Str) (sp : Sp) : Prop where
  len : ∀ vs H Q E, sp vs H Q E → vs.length = ps.length
  run : ∀ (A : Around) (outer : List Env) (s : Shared) (H : Hp) (args : Args) (us : List Value) (vs : List V) (Q : VK) (E : XK), A.guards = some [] → Room k A → Env0 P w K mg base A outer s H → BindsTo s fd args (ps.zip us) → Vals vs us → sp vs H Q E →
    codeAny (model P w) A (.call (.ref f) args) (CR CX outer P w H s Q E) s
section
variable {CX : CXT} {P : Program} {w : World} {K : PySem.W.Frag} {mg : Str → Option Value} {base : Heap} {k : Nat} {f : Addr} {x qual : Str} {params : Arguments} {body : List Stmt} {scope : Scope} {dvs : List V} {kws : List (Str × V)} {fd : FuncData} {N ps : List Str} {sp : Sp}
theorem guards_deeper (A : Around) (env : Env) (h : A.guards = some []) : (A.deeper env).guards = some [] := by
  first
    | exact h
    | (unfold Around.deeper; exact h)
    | simpa [Around.deeper] using h
theorem funG (F : FunD K x qual params body scope dvs kws f fd) (S : FnScope N ps scope) (len : ∀ vs H Q E, sp vs H Q E → vs.length = ps.length)
    (go : ∀ (cdv : Value) (A : Around) (outer : List Env) (s : Shared) (H : Hp) (vs : List V) (Q : VK) (E : XK), (A.deeper (envOfC qual scope s.heap.objs.size f cdv)).guards = some [] → Room k (A.deeper (envOfC qual scope s.heap.objs.size f cdv)) → sp vs H Q E →
      ∃ t, PSs (cxOf CX P w K mg base N qual scope f cdv A outer s H E) body t ∧ t { nx := fun _ H' => Q .non H', rt := Q } (L2.start N vs) H) : FnG P w K mg base CX (k + 1) f fd ps sp := by
  obtain ⟨oc, od, dV, kV, doc, pm, an, cdv, ct, osl, rfl, at_, code, _, _⟩ := F.ex
  constructor
  · exact len
  intro A outer s H args us vs Q E gd room env bind rel want
  have size := len _ _ _ _ want
  have inK : K.In s.heap := env.mod.kin.keeps fun b o e => (env.bs b o e).1
  have noLim : s.heap.NoLimit := env.mod.nolimit.keeps fun b o e => (env.bs b o e).1
  have kinds : ∀ y ∈ ps.zip us, scope.names.lookup y.1 = some .local ∨ (scope.names.lookup y.1 = some .cell ∧ ((cellsFrom (s.heap.objs.size + 1) scope.names []).lookup y.1).isSome = true) := by
    rintro ⟨n, v⟩ mem
    rcases S.par n (List.of_mem_zip mem).1 with l | c
    · exact Or.inl l
    · exact Or.inr ⟨c, PySem.W.cellsFrom_some _ _ _ (Or.inl c)⟩
  refine codeAny_call_function room.depth (inK _ _ at_) rfl S.co S.gen rfl (PySem.W.codeRec_of inK code) (bind _ _ _ _ ?_)
  refine wpAny_newFunctionEnv_cells S.kind kinds fun fr e1 s1 called => ?_
  subst e1
  refine ⟨noLim.keeps called.toInCall.keep, codeAny_func ?_⟩
  obtain ⟨t, runs, reads⟩ := go cdv A outer s H vs Q E (guards_deeper A _ gd) (room.deeper _) want
  have J := inv_start (CX := CX) (E := E) S room.hd env size rel called
  refine wpAny_mono (runs.run [] s1 (L2.start N vs) H _ J reads) (fun flow s2 done => ?_) fun _ _ z => z
  match flow, done with
  | .ret u, done =>
    obtain ⟨v, σ2, H2, J2, rv, q⟩ := done
    exact ⟨v, H2, J2.os, J2.bare, J2.base, J2.hok, rv, q⟩
  | .next, done =>
    obtain ⟨σ2, H2, J2, q⟩ := done
    exact ⟨V.non, H2, J2.os, J2.bare, J2.base, J2.hok, rfl, q⟩
  | .brk, done =>
    obtain ⟨_, _, _, q⟩ := done
    exact q.elim
  | .cont, done =>
    obtain ⟨_, _, _, q⟩ := done
    exact q.elim
end
section
variable {X : Cx} {CX : CXT} {k : Nat} {f : Addr} {fd : FuncData} {ps : List Str} {sp : Sp} {dvs : List V} {ds : List Value} {W : WX} {x : Str} {p pos : Pos} {e : Expr} {es : List Expr} {t : TA}
theorem pe_callG (F : FnG X.prog X.w X.K X.mg X.base CX k f fd ps sp) (gd : X.A.guards = some []) (room : Room k X.A) (hg : Gl X x) (hm : X.mg x = some (.ref f)) (hk : PySem.W.keepIn X.K (.ref f) = true) (hb : Binds X.K fd ps ds) (hd : Vals dvs ds) (hx : ∀ σ, PassesAt CX X σ (WE W σ))
    (ha : PA X (e :: es) t) (hdb : (x == ("__debug__" : Str)) = false := by decide) (he : starEach (e :: es) X.env = (false, eval e X.env) :: starEach es X.env := by rfl) (hpl : (backTo pos (starEach es X.env)).any (·.1) = false := by rfl) :
    PE X (.Call (.Name x p) (e :: es) [] pos) (fun σ H Q => t σ H fun vs H1 => sp (vs ++ dvs) H1 Q (WE W σ)) := by
  constructor
  intro pins s σ H Q I want
  refine wpAny_Call_Name_kw (ld_glob I hg hm ?_ hdb)
  refine PySem.W.callWith_K (h₀ := X.base) I.ok.mod.kin hk (thn (ha.run pos pins s σ H _ I want) fun us s1 got => ?_) he hpl
  obtain ⟨vs, H1, I1, rel, q⟩ := got
  refine ⟨I1.kIn, ?_⟩
  have rel2 : Vals (vs ++ dvs) (us ++ ds) := rel.append hd
  have size : (us ++ ds).length = ps.length := rel2.length.symm.trans (F.len _ _ _ _ q)
  refine wpAny_call (codeAny_mono (F.run X.A X.stack s1 H1 ⟨us, []⟩ _ _ Q (WE W σ) gd room I1.env0 (hb s1 us I1.kIn size) rel2 q) fun r s2 out => ?_)
  match r, out with
  | .error ex, out => exact hx σ pins H1 s1 ex s2 I1 out
  | .ok (.ret u), out => exact I1.after out
  | .ok .next, out => exact False.elim out
  | .ok .brk, out => exact False.elim out
  | .ok .cont, out => exact False.elim out
end
/-! the law's end -/
theorem lawG {P : Program} {w : World} {K : PySem.W.Frag} {mg mb : Str → Option Value} {CX : CXT} {k : Nat} {fa a : Addr} {fd : FuncData} {x : Str} {sp : Sp} {s : Shared} {items : List Value} {ns : List Int}
    (inK : K.In s.heap) (globals : s.heap.Ns mainGlobals mg) (blts : s.heap.Ns builtinsNs mb) (boots : ∀ x : Str, x ≠ "__name__" → mb x = bootBuiltins x) (noLim : s.heap.NoLimit) (noGens : s.gens = #[])
    (script : s.heap.get? a = some { cls := .type "list", data := .seq items.toArray }) (areInts : IntsAre items ns) (few : ns.length ≤ sizeLine) (room : Room k callerA)
    (F : ∀ base : Heap, K.In base → base.Ns mainGlobals mg → FnG P w K mg base CX k fa fd [x] sp) (binds : ∀ (s : Shared) (u : Value), BindsTo s fd ⟨[u], []⟩ [(x, u)])
    (want : ∀ H : Hp, Only H → SqL K H a (ns.map V.int) → sp [.ref a] H (fun v _ => v = .bl true) fun _ _ _ => False)
    (never : ∀ H e s', CX [] H s (fun _ _ _ => False) e s' → False) :
    codeAny (model P w) callerA (.call (.ref fa) ⟨[.ref a], []⟩) (fun r s' => r = .ok (.ret (.bool true)) ∧ OldK s.heap s'.heap ∧ s'.os = s.os ∧ AllBare s'.gens) s := by
  have vals := vals_ints areInts
  have size := areInts.length
  have main : ∀ H : Hp, Only H → SqL K H a (ns.map V.int) → HOk P w H s.heap → (∀ b u, H b = some u → b = a) → (∀ u, H a = some u → K.lookup a = none) →
      codeAny (model P w) callerA (.call (.ref fa) ⟨[.ref a], []⟩) (fun r s' => r = .ok (.ret (.bool true)) ∧ OldK s.heap s'.heap ∧ s'.os = s.os ∧ AllBare s'.gens) s := by
    intro H only sq held alone outside
    have dictFree : ∀ (b : Addr) (o : Obj) (es : Array DictEntry) (ep : Nat), s.heap.get? b = some o → o.data = .dict es ep → H b = none := by
      intro b o es ep e d
      cases q : H b with
      | none => rfl
      | some u =>
        have z := alone b u q
        subst z
        rw [script] at e
        cases e
        cases (show Data.seq items.toArray _ = Data.dict es ep from d)
    have spaces : ∀ {b : Addr} {m : Str → Option Value}, s.heap.Ns b m → (hidT s.heap H).Ns b m := by
      rintro b m ⟨o, es, ep, e, d, r⟩
      exact ⟨o, es, ep, hidT_get e (dictFree b o es ep e d), d, r⟩
    have inBase : K.In (hidT s.heap H) := by
      intro b o e
      refine hidT_get (inK b o e) ?_
      cases q : H b with
      | none => rfl
      | some u =>
        have z := alone b u q
        subst z
        rw [outside u q] at e
        cases e
    obtain ⟨mc, lim1, lim2⟩ := noLim
    have here : Env0 P w K mg (hidT s.heap H) callerA [] s H := by
      refine ⟨rfl, ⟨inBase, spaces globals, ⟨mb, spaces blts, boots⟩, ⟨mc, spaces lim1, lim2⟩⟩, fun b o e => of_hidT e, Nat.le_of_eq (hidT_size _ _), trivial, ?_, held, .of_eq noGens⟩
      intro b hb
      exact absurd (show b ∈ ([] : List Addr) from hb) (List.not_mem_nil)
    have ran := (F _ inBase (spaces globals)).run callerA [] s H ⟨[.ref a], []⟩ [.ref a] [.ref a] _ _ rfl room here (binds s (.ref a)) (.cons rfl .nil) (want H only sq)
    refine codeAny_mono ran fun r s2 out => ?_
    match r, out with
    | .error e, out => exact (never H e s2 out).elim
    | .ok .next, out => exact False.elim out
    | .ok .brk, out => exact False.elim out
    | .ok .cont, out => exact False.elim out
    | .ok (.ret u), out =>
      obtain ⟨v, H2, os, bare, un, held2, rel, q⟩ := out
      have qv : v = .bl true := q
      subst qv
      have qu : u = Value.bool true := rel
      subst qu
      refine ⟨rfl, OldK.of_keep ?_, os, bare⟩
      intro b o e
      cases q : H b with
      | none => exact un.keep b o e q (fun z => absurd (show b ∈ ([] : List Addr) from z) List.not_mem_nil) List.not_mem_nil
      | some u =>
        rcases only b with z | ⟨ob, xs, z⟩
        · rw [q] at z; cases z
        · obtain ⟨f1, _⟩ := held b _ z
          obtain ⟨f2, _⟩ := held2 b _ (un.frzs b ob _ z)
          rw [e] at f1
          cases f1
          exact f2
  cases own : K.lookup a with
  | some o =>
    have e := inK a o own
    rw [script] at e
    cases e
    exact main (fun _ => none) (fun _ => Or.inl rfl) (Or.inr ⟨_, items.toArray, _, own, rfl, rfl, rfl, by rw [List.size_toArray, size]; exact few, by simpa using vals⟩) (fun b u z => nomatch (show (none : Option HO) = some u from z)) (fun b u z => nomatch (show (none : Option HO) = some u from z))
      fun u z => nomatch (show (none : Option HO) = some u from z)
  | none =>
    let obj : Obj := { cls := .type "list", data := .seq items.toArray }
    let H : Hp := fun b => if b = a then some (.frz obj (.lst (ns.map V.int))) else none
    have at_a : H a = some (.frz obj (.lst (ns.map V.int))) := if_pos rfl
    have off_a : ∀ b, b ≠ a → H b = none := fun b h => if_neg h
    have one : ∀ b u, H b = some u → b = a := fun b u z => by
      by_cases h : b = a
      · exact h
      · rw [off_a b h] at z; cases z
    refine main H (fun b => ?_) (Or.inl (Or.inr ⟨obj, at_a⟩)) (fun b u z => ?_) one fun _ _ => own
    · by_cases h : b = a
      · rw [h]; exact Or.inr ⟨_, _, at_a⟩
      · exact Or.inl (off_a b h)
    · have h := one b u z
      subst h
      rw [at_a] at z
      cases z
      exact ⟨script, by rw [List.length_map]; exact few, items, _, vals, script⟩
theorem walkG {l : PySem.W.OpenLaw} {n k : Nat} {q : Program} {loose : List Str} {XP : (Str → Option Value) → Heap → Prop} {YP : World → Heap → Prop} {d : DefRec} {CX : CXT} {x : Str}
    (hn : l.most = some n) (hn2 : n ≤ sizeLine) (hdf : d.params.defaults = []) (room : Room k callerA)
    (F : ∀ (w : World) (mg : Str → Option Value) (fa : Addr) (h : Heap), YP w h → h.Ns mainGlobals mg → mg d.name = some (.ref fa) →
      ∃ (K : PySem.W.Frag) (fd : FuncData) (sp : Sp), K.In h ∧ (∀ (s : Shared) (u : Value), BindsTo s fd ⟨[u], []⟩ [(x, u)]) ∧
        (∀ (H : Hp) (a : Addr) (ns : List Int), ns.length ≤ n → Only H → SqL K H a (ns.map V.int) → sp [.ref a] H (fun v _ => v = .bl true) fun _ _ _ => False) ∧
        ∀ base : Heap, K.In base → base.Ns mainGlobals mg → FnG l.prog w K mg base CX k fa fd [x] sp)
    (never : ∀ (H : Hp) (s : Shared) (e : Value) (s' : Shared), CX [] H s (fun _ _ _ => False) e s' → False) :
    PySem.W.WalkO q loose XP YP l.row.toRowW d [] (fun f vs => PySem.call f vs) := by
  apply Att.attach_call hn hdf
  intro w s₀ s₁ mg mb fa o pm cd doc a vs ns G Y ho hd hcd hmg hobj hints hlen hg
  obtain ⟨K, fd, sp, inK, hb, want, hF⟩ := F w mg fa _ Y G.T.g hmg
  exact lawG inK G.T.g G.T.b G.T.builtins G.T.nolimit hg hobj hints (Nat.le_trans hlen hn2) room hF hb (fun H only sq => want H a ns hlen only sq) fun H e s' => never H s₁ e s'
end Mir

namespace Mir
open PySem L2

/-! data -/
inductive D where
  | non | bl (b : Bool) | int (i : Int) | str (x : Str)
  | tup (xs : List D) | lst (xs : List D) | frl (xs : List D)
  | ref (a : Addr) | ty (n : String)

/-- what a slot of the def holds -/
inductive Mo where
  | ls (xs : List D)
inductive Sl where
  | no | va (d : D) | ow (m : Mo) | pm (m : Mo)
abbrev En := List Sl
structure Xn where
  cls : Value
  fs : Option (List (Str × D))
inductive Rs (α : Type) where
  | ok (a : α) (g : En) | ex (x : Xn) (g : En) | bad
abbrev M (α : Type) := En → Rs α
def ret {α : Type} (a : α) : M α := fun g => .ok a g
def bnd {α β : Type} (m : M α) (f : α → M β) : M β := fun g => match m g with
  | .ok a g' => f a g'
  | .ex x g' => .ex x g'
  | .bad => .bad
def bad {α : Type} : M α := fun _ => .bad
def opt {α : Type} : Option α → M α
  | some a => ret a
  | none => bad
def gt : En → Nat → Sl
  | [], _ => .no
  | s :: _, 0 => s
  | _ :: r, i + 1 => gt r i
theorem gt_eq : ∀ (g : En) (i : Nat), gt g i = (g[i]?).getD .no
  | [], _ => rfl
  | s :: _, 0 => rfl
  | _ :: r, i + 1 => by
    show gt r i = _
    rw [gt_eq r i]; rfl
def Out {α : Type} (r : Rs α) (P : α → En → Prop) (E : Xn → En → Prop) : Prop := match r with
  | .ok a g => P a g
  | .ex x g => E x g
  | .bad => False
theorem Out.mono {α : Type} {r : Rs α} {P P' : α → En → Prop} {E E' : Xn → En → Prop} (h : Out r P E) (hP : ∀ a g, P a g → P' a g) (hE : ∀ x g, E x g → E' x g) : Out r P' E' := by
  cases r with
  | ok a g => exact hP _ _ h
  | ex x g => exact hE _ _ h
  | bad => exact h
theorem Out.bnd {α β : Type} {m : M α} {f : α → M β} {g : En} {P : β → En → Prop} {E : Xn → En → Prop} (h : Out (bnd m f g) P E) : Out (m g) (fun a g' => Out (f a g') P E) E := by
  unfold Mir.bnd at h
  cases e : m g with
  | ok a g' => rw [e] at h; exact h
  | ex x g' => rw [e] at h; exact h
  | bad => rw [e] at h; exact h

/-! representation -/
/-- a list that never changes -/
def SqF (K : PySem.W.Frag) (H : Hp) (a : Addr) (xs : List V) : Prop :=
  (∃ o, H a = some (.frz o (.lst xs))) ∨
    ∃ (o : Obj) (its : Array Value) (n : Nat), K.lookup a = some o ∧ o.cls = .type "list" ∧ o.dict = none ∧ o.data = .seq its n ∧ its.size ≤ sizeLine ∧ Vals xs its.toList
theorem SqF.sq {K : PySem.W.Frag} {H : Hp} {a : Addr} {xs : List V} (h : SqF K H a xs) : SqL K H a xs := h.elim (fun e => .inl (.inr e)) .inr
section
variable (K : PySem.W.Frag)
mutual
inductive Rep (ms : Addr → Prop) (H : Hp) : V → D → Prop
  | non : Rep ms H .non .non
  | bl (b : Bool) : Rep ms H (.bl b) (.bl b)
  | int (i : Int) : Rep ms H (.int i) (.int i)
  | str (x : Str) : Rep ms H (.str x) (.str x)
  | ref (a : Addr) : Rep ms H (.ref a) (.ref a)
  | ty (n : String) : Rep ms H (.ty n) (.ty n)
  | tup {a : Addr} {xs : List V} {ds : List D} : SqT K H a xs → RepL ms H xs ds → Rep ms H (.ref a) (.tup ds)
  | lst {a : Addr} {xs : List V} {ds : List D} : ¬ ms a → H a = some (.lst xs) → RepL ms H xs ds → Rep ms H (.ref a) (.lst ds)
  | frl {a : Addr} {xs : List V} {ds : List D} : SqF K H a xs → RepL ms H xs ds → Rep ms H (.ref a) (.frl ds)
inductive RepL (ms : Addr → Prop) (H : Hp) : List V → List D → Prop
  | nil : RepL ms H [] []
  | cons {v : V} {d : D} {vs : List V} {ds : List D} : Rep ms H v d → RepL ms H vs ds → RepL ms H (v :: vs) (d :: ds)
end
end
def Frz : HO → Prop
  | .tup _ => True
  | .frz _ _ => True
  | _ => False
/-- all objects stay but those at W (and even there what is frozen) -/
def Kp (W : Addr → Prop) (H H' : Hp) : Prop := (∀ a o, H a = some o → (W a → Frz o) → H' a = some o) ∧ ∀ a, H' a = none → H a = none
abbrev NoW : Addr → Prop := fun _ => False
theorem Kp.refl {W : Addr → Prop} {H : Hp} : Kp W H H := ⟨fun _ _ e _ => e, fun _ e => e⟩
theorem Kp.trans {W : Addr → Prop} {H H1 H2 : Hp} (a : Kp W H H1) (b : Kp W H1 H2) : Kp W H H2 := ⟨fun p o e f => b.1 p o (a.1 p o e f) f, fun p e => a.2 p (b.2 p e)⟩
theorem Kp.weak {W W' : Addr → Prop} {H H' : Hp} (a : Kp W H H') (h : ∀ p, W p → W' p) : Kp W' H H' := ⟨fun p o e f => a.1 p o e fun w => f (h p w), a.2⟩
theorem Kp.new {W : Addr → Prop} {H : Hp} {p : Addr} {o : HO} (h : H p = none) : Kp W H (upd H p o) := ⟨fun a u e _ => by
    rw [upd_ne (ne_of_none e h)]; exact e, fun a e => by
    by_cases hp : a = p
    · subst hp; exact h
    · rwa [upd_ne hp] at e⟩
theorem Kp.set {W : Addr → Prop} {H : Hp} {p : Addr} {o u : HO} (h : H p = some u) (hu : ¬ Frz u) (w : W p) : Kp W H (upd H p o) := ⟨fun a v e f => by
    by_cases hp : a = p
    · subst hp
      rw [h] at e; cases e
      exact absurd (f w) hu
    · rw [upd_ne hp]; exact e, fun a e => by
    by_cases hp : a = p
    · subst hp; rw [upd_same] at e; cases e
    · rwa [upd_ne hp] at e⟩
/-- new ones written do not count -/
theorem Kp.fresh {W W' : Addr → Prop} {H H1 H2 : Hp} (a : Kp W H H1) (b : Kp W' H1 H2) (h : ∀ p, W' p → W p ∨ H p = none) : Kp W H H2 := ⟨fun p o e f => b.1 p o (a.1 p o e f) fun w => (h p w).elim f fun n => (by rw [n] at e; cases e), fun p e => a.2 p (b.2 p e)⟩

section
variable {K : PySem.W.Frag} {ms ms' W : Addr → Prop} {H H' : Hp}
theorem Rd.keep {a : Addr} {u : HO} (r : Rd H a u) (k : Kp W H H') (h : ¬ W a ∨ Frz u) : Rd H' a u := by
  rcases r with e | ⟨o, e⟩
  · exact .inl (k.1 a _ e fun w => h.elim (fun n => absurd w n) id)
  · exact .inr ⟨o, k.1 a _ e fun _ => trivial⟩
theorem SqT.keep {a : Addr} {xs : List V} (r : SqT K H a xs) (k : Kp W H H') : SqT K H' a xs := by
  rcases r with e | e
  · exact .inl (Rd.keep e k (.inr trivial))
  · exact .inr e
theorem SqF.keep {a : Addr} {xs : List V} (r : SqF K H a xs) (k : Kp W H H') : SqF K H' a xs := r.elim (fun ⟨o, e⟩ => .inl ⟨o, k.1 a _ e fun _ => trivial⟩) .inr
mutual
theorem Rep.move (k : Kp W H H') (hw : ∀ a, W a → ms a) (hm : ∀ a, ms' a → ms a ∨ H a = none) : ∀ {v : V} {d : D}, Rep K ms H v d → Rep K ms' H' v d
  | _, _, .non => .non
  | _, _, .bl b => .bl b
  | _, _, .int i => .int i
  | _, _, .str x => .str x
  | _, _, .ref a => .ref a
  | _, _, .ty n => .ty n
  | _, _, .tup s l => .tup (SqT.keep s k) (RepL.move k hw hm l)
  | _, _, .lst n s l => .lst (fun q => (hm _ q).elim n fun e => by rw [e] at s; cases s) (k.1 _ _ s fun w => absurd (hw _ w) n) (RepL.move k hw hm l)
  | _, _, .frl s l => .frl (SqF.keep s k) (RepL.move k hw hm l)
theorem RepL.move (k : Kp W H H') (hw : ∀ a, W a → ms a) (hm : ∀ a, ms' a → ms a ∨ H a = none) : ∀ {vs : List V} {ds : List D}, RepL K ms H vs ds → RepL K ms' H' vs ds
  | _, _, .nil => .nil
  | _, _, .cons a l => .cons (Rep.move k hw hm a) (RepL.move k hw hm l)
end
theorem Rep.keep {v : V} {d : D} (r : Rep K ms H v d) (k : Kp W H H') (hw : ∀ a, W a → ms a) : Rep K ms H' v d := r.move k hw fun _ q => .inl q
theorem RepL.keep {v : List V} {d : List D} (r : RepL K ms H v d) (k : Kp W H H') (hw : ∀ a, W a → ms a) : RepL K ms H' v d := r.move k hw fun _ q => .inl q
theorem Rep.anti {v : V} {d : D} (r : Rep K ms H v d) (hm : ∀ a, ms' a → ms a ∨ H a = none) : Rep K ms' H v d := r.move (W := NoW) Kp.refl (fun _ q => q.elim) hm
theorem RepL.anti {v : List V} {d : List D} (r : RepL K ms H v d) (hm : ∀ a, ms' a → ms a ∨ H a = none) : RepL K ms' H v d := r.move (W := NoW) Kp.refl (fun _ q => q.elim) hm
theorem RepL.length {v : List V} {d : List D} (r : RepL K ms H v d) : v.length = d.length := by
  induction d generalizing v with
  | nil => cases r; rfl
  | cons x xs ih => cases r with | cons a l => simp [ih l]
theorem RepL.get {v : List V} {d : List D} (r : RepL K ms H v d) {i : Nat} {x : D} (h : d[i]? = some x) : ∃ u, v[i]? = some u ∧ Rep K ms H u x := by
  induction d generalizing v i with
  | nil => cases h
  | cons y ys ih =>
    cases r with
    | cons a l =>
      cases i with
      | zero => simp at h; subst h; exact ⟨_, rfl, a⟩
      | succ i => exact ih l (by simpa using h)
theorem RepL.set {v : List V} {d : List D} (r : RepL K ms H v d) (i : Nat) {u : V} {x : D} (h : Rep K ms H u x) : RepL K ms H (v.set i u) (d.set i x) := by
  induction d generalizing v i with
  | nil => cases r; exact .nil
  | cons y ys ih =>
    cases r with
    | cons a l =>
      cases i with
      | zero => exact .cons h l
      | succ i => exact .cons a (ih l i)
theorem RepL.append {v v' : List V} {d d' : List D} (r : RepL K ms H v d) (r' : RepL K ms H v' d') : RepL K ms H (v ++ v') (d ++ d') := by
  induction d generalizing v with
  | nil => cases r; exact r'
  | cons y ys ih => cases r with | cons a l => exact .cons a (ih l)
def MRep (K : PySem.W.Frag) (ms : Addr → Prop) (H : Hp) (p : Addr) : Mo → Prop
  | .ls xs => ∃ vs, H p = some (.lst vs) ∧ RepL K ms H vs xs
end

/-! the def's slots -/
def Sl.mo : Sl → Option Mo
  | .ow m => some m
  | .pm m => some m
  | _ => none
structure Rl (K : PySem.W.Frag) (pa : Nat → Option Addr) (ms os : Addr → Prop) (σ : St) (H : Hp) (g : En) : Prop where
  va : ∀ i d, gt g i = .va d → ∃ v, σ[i]? = some (some v) ∧ Rep K ms H v d
  mo : ∀ i m, (gt g i).mo = some m → ∃ p, σ[i]? = some (some (.ref p)) ∧ os p ∧ MRep K ms H p m
  ap : ∀ i j m m' p, (gt g i).mo = some m → (gt g j).mo = some m' → σ[i]? = some (some (.ref p)) → σ[j]? = some (some (.ref p)) → i = j
  pm : ∀ i m p, gt g i = .pm m → σ[i]? = some (some (.ref p)) → pa i = some p
  pk : ∀ i p, pa i = some p → ∃ m, gt g i = .pm m ∧ σ[i]? = some (some (.ref p))
  len : g.length ≤ σ.length
  sub : ∀ a, os a → ms a
  dom : ∀ a, ms a → H a ≠ none
section
variable {K : PySem.W.Frag} {pa : Nat → Option Addr} {ms os : Addr → Prop} {σ : St} {H H' : Hp} {g : En}
/-- the heap grew -/
theorem Rl.grow {ms' : Addr → Prop} (r : Rl K pa ms os σ H g) (k : Kp NoW H H') (hm : ∀ a, ms' a → ms a ∨ H a = none) (hs : ∀ a, ms a → ms' a) (hd : ∀ a, ms' a → H' a ≠ none) : Rl K pa ms' os σ H' g where
  va := fun i d e => let ⟨v, h1, h2⟩ := r.va i d e; ⟨v, h1, h2.move k (fun _ q => q.elim) hm⟩
  mo := fun i m e => by
    obtain ⟨p, h1, h2, h3⟩ := r.mo i m e
    refine ⟨p, h1, h2, ?_⟩
    cases m with
    | ls xs =>
      obtain ⟨vs, e1, e2⟩ := h3
      exact ⟨vs, k.1 p _ e1 fun q => q.elim, e2.move k (fun _ q => q.elim) hm⟩
  ap := r.ap
  pm := r.pm
  pk := r.pk
  len := r.len
  sub := fun a h => hs a (r.sub a h)
  dom := hd
theorem Rl.kp (r : Rl K pa ms os σ H g) (k : Kp NoW H H') : Rl K pa ms os σ H' g := r.grow k (fun _ q => .inl q) (fun _ q => q) fun a q e => r.dom a q (k.2 a e)
end

/-! operands -/
inductive Op where
  | d (x : D) | o (i : Nat)
def Mo.dat : Mo → D
  | .ls xs => .lst xs
def res (g : En) : Op → Option D
  | .d x => some x
  | .o i => ((gt g i).mo).map Mo.dat
/-- data that may be an own object's content -/
def RepB (K : PySem.W.Frag) (ms os : Addr → Prop) (H : Hp) (v : V) (d : D) : Prop :=
  Rep K ms H v d ∨ ∃ p vs xs, v = .ref p ∧ os p ∧ d = .lst xs ∧ H p = some (.lst vs) ∧ RepL K ms H vs xs
def RepO (K : PySem.W.Frag) (ms : Addr → Prop) (σ : St) (H : Hp) (v : V) : Op → Prop
  | .d x => Rep K ms H v x
  | .o i => σ[i]? = some (some v)
section
variable {K : PySem.W.Frag} {pa : Nat → Option Addr} {ms os : Addr → Prop} {σ : St} {H H' : Hp} {g g' : En}
theorem RepO.keep {v : V} {x : Op} (r : RepO K ms σ H v x) (k : Kp os H H') (hs : ∀ a, os a → ms a) : RepO K ms σ H' v x := by
  cases x with
  | d x => exact Rep.keep r k hs
  | o i => exact r
theorem RepO.res {v : V} {x : Op} {d : D} (r : RepO K ms σ H v x) (l : Rl K pa ms os σ H g) (e : res g x = some d) : RepB K ms os H v d := by
  cases x with
  | d x => cases e; exact .inl r
  | o i =>
    obtain ⟨m, hm, rfl⟩ := Option.map_eq_some_iff.mp e
    obtain ⟨p, h1, h2, h3⟩ := l.mo i m hm
    have r : σ[i]? = some (some v) := r
    rw [h1] at r
    cases m with
    | ls xs =>
      obtain ⟨vs, e1, e2⟩ := h3
      cases r
      exact .inr ⟨p, vs, xs, rfl, h2, rfl, e1, e2⟩
end

/-! the readings -/
section
variable (K : PySem.W.Frag) (pa : Nat → Option Addr) (W : WX)
def XRep (ms : Addr → Prop) (H : Hp) (x : Xn) (c : Value) (dx : Option Addr) : Prop :=
  c = x.cls ∧ match x.fs with
  | none => dx = none
  | some fs => ∃ a vs, dx = some a ∧ H a = some (.xd vs) ∧ vs.map (·.1) = fs.map (·.1) ∧ RepL K ms H (vs.map (·.2)) (fs.map (·.2))
/-- what is wanted of an exception, from the heap H on -/
def Xw (ms os : Addr → Prop) (σ : St) (H : Hp) : Xn → En → Prop := fun x g => ∀ c dx H', Rl K pa ms os σ H' g → Kp os H H' → XRep K ms H' x c dx → W c dx σ H'
def Eo (m : M Op) : TE := fun σ H Q => ∃ ms os g, Rl K pa ms os σ H g ∧ Out (m g) (fun x g' => ∀ v H', Rl K pa ms os σ H' g' → Kp os H H' → RepO K ms σ H' v x → Q v H') (Xw K pa W ms os σ H)
def Ed (m : M D) : TE := fun σ H Q => ∃ ms os g, Rl K pa ms os σ H g ∧ Out (m g) (fun x g' => ∀ v H', Rl K pa ms os σ H' g' → Kp os H H' → Rep K ms H' v x → Q v H') (Xw K pa W ms os σ H)
def Et (m : M Bool) : TT := fun σ H Q => ∃ ms os g, Rl K pa ms os σ H g ∧ Out (m g) (fun b g' => ∀ H', Rl K pa ms os σ H' g' → Kp os H H' → Q b H') (Xw K pa W ms os σ H)
def Ea (m : M (List Op)) : TA := fun σ H Q => ∃ ms os g, Rl K pa ms os σ H g ∧ Out (m g) (fun xs g' => ∀ vs H', Rl K pa ms os σ H' g' → Kp os H H' → Paired (RepO K ms σ H') vs xs → Q vs H') (Xw K pa W ms os σ H)
end
structure RO (X : Cx) (pa : Nat → Option Addr) (W : WX) (e : Expr) (m : M Op) : Prop where
  pe : PE X e (Eo X.K pa W m)
structure RE (X : Cx) (pa : Nat → Option Addr) (W : WX) (e : Expr) (m : M D) : Prop where
  pe : PE X e (Ed X.K pa W m)
structure RT (X : Cx) (pa : Nat → Option Addr) (W : WX) (e : Expr) (m : M Bool) : Prop where
  pt : PT X e (Et X.K pa W m)
structure RA (X : Cx) (pa : Nat → Option Addr) (W : WX) (es : List Expr) (m : M (List Op)) : Prop where
  pa : PA X es (Ea X.K pa W m)
end Mir

namespace Mir
open PySem L2
theorem _root_.L2.PE.imp {X : Cx} {e : Expr} {t t' : TE} (h : PE X e t) (q : ∀ σ H Q, t' σ H Q → t σ H Q) : PE X e t' := ⟨fun pins s σ H Q I z => h.run pins s σ H Q I (q σ H Q z)⟩
theorem _root_.L2.PT.imp {X : Cx} {e : Expr} {t t' : TT} (h : PT X e t) (q : ∀ σ H Q, t' σ H Q → t σ H Q) : PT X e t' := ⟨fun pins s σ H Q I z => h.run pins s σ H Q I (q σ H Q z)⟩
theorem _root_.L2.PA.imp {X : Cx} {e : List Expr} {t t' : TA} (h : PA X e t) (q : ∀ σ H Q, t' σ H Q → t σ H Q) : PA X e t' := ⟨fun pos pins s σ H Q I z => h.run pos pins s σ H Q I (q σ H Q z)⟩
theorem _root_.L2.PS.imp {X : Cx} {e : Stmt} {t t' : TS} (h : PS X e t) (q : ∀ D σ H, t' D σ H → t D σ H) : PS X e t' := ⟨fun pins s σ H D I z => h.run pins s σ H D I (q D σ H z)⟩
theorem _root_.L2.PSs.imp {X : Cx} {e : List Stmt} {t t' : TS} (h : PSs X e t) (q : ∀ D σ H, t' D σ H → t D σ H) : PSs X e t' := ⟨fun pins s σ H D I z => h.run pins s σ H D I (q D σ H z)⟩
theorem _root_.L2.PG.imp {X : Cx} {e : Expr} {t t' : TG} (h : PG X e t) (q : ∀ v σ H Q, t' v σ H Q → t v σ H Q) : PG X e t' := ⟨fun pins s σ H v u Q I r z => h.run pins s σ H v u Q I r (q v σ H Q z)⟩
section
variable {K : PySem.W.Frag} {pa : Nat → Option Addr} {W : WX} {ms os : Addr → Prop} {σ : L2.St} {H H1 H' : Hp} {g : En} {x : Xn}
theorem Xw.later (h : Xw K pa W ms os σ H x g) (k : Kp os H H1) : Xw K pa W ms os σ H1 x g := fun c dx H' r k' xr => h c dx H' r (k.trans k') xr
/-- what is wanted of a value, from the heap H on -/
def Vw (K : PySem.W.Frag) (pa : Nat → Option Addr) (ms os : Addr → Prop) (σ : L2.St) (H : Hp) (Q : VK) : D → En → Prop := fun x g' => ∀ v H', Rl K pa ms os σ H' g' → Kp os H H' → Rep K ms H' v x → Q v H'
theorem Vw.later {Q : VK} {x : D} (h : Vw K pa ms os σ H Q x g) (k : Kp os H H1) : Vw K pa ms os σ H1 Q x g := fun v H' r k' z => h v H' r (k.trans k') z
def Tw (K : PySem.W.Frag) (pa : Nat → Option Addr) (ms os : Addr → Prop) (σ : L2.St) (H : Hp) (Q : Bool → Hp → Prop) : Bool → En → Prop := fun x g' => ∀ H', Rl K pa ms os σ H' g' → Kp os H H' → Q x H'
theorem Tw.later {Q : Bool → Hp → Prop} {x : Bool} (h : Tw K pa ms os σ H Q x g) (k : Kp os H H1) : Tw K pa ms os σ H1 Q x g := fun H' r k' => h H' r (k.trans k')
def Ow (K : PySem.W.Frag) (pa : Nat → Option Addr) (ms os : Addr → Prop) (σ : L2.St) (H : Hp) (Q : VK) : Op → En → Prop := fun x g' => ∀ v H', Rl K pa ms os σ H' g' → Kp os H H' → RepO K ms σ H' v x → Q v H'
theorem Ow.later {Q : VK} {x : Op} (h : Ow K pa ms os σ H Q x g) (k : Kp os H H1) : Ow K pa ms os σ H1 Q x g := fun v H' r k' z => h v H' r (k.trans k') z
/-- the very form of Ed, Eo, Et -/
theorem Ed.mk {m : M D} {Q : VK} (r : Rl K pa ms os σ H g) (h : Out (m g) (Vw K pa ms os σ H Q) (Xw K pa W ms os σ H)) : Ed K pa W m σ H Q := ⟨ms, os, g, r, h⟩
theorem Eo.mk {m : M Op} {Q : VK} (r : Rl K pa ms os σ H g) (h : Out (m g) (Ow K pa ms os σ H Q) (Xw K pa W ms os σ H)) : Eo K pa W m σ H Q := ⟨ms, os, g, r, h⟩
theorem Et.mk {m : M Bool} {Q : Bool → Hp → Prop} (r : Rl K pa ms os σ H g) (h : Out (m g) (Tw K pa ms os σ H Q) (Xw K pa W ms os σ H)) : Et K pa W m σ H Q := ⟨ms, os, g, r, h⟩
/-- one step: an operand is evaluated, then the rest -/
theorem Eo.step {m : M Op} {α : Type} {f : Op → M α} {P : Hp → α → En → Prop} {Q : VK} (r : Rl K pa ms os σ H g) (h : Out (bnd m f g) (P H) (Xw K pa W ms os σ H))
    (hP : ∀ a g' H1, P H a g' → Kp os H H1 → P H1 a g')
    (hQ : ∀ v x H1 g1, Rl K pa ms os σ H1 g1 → Kp os H H1 → RepO K ms σ H1 v x → Out (f x g1) (P H1) (Xw K pa W ms os σ H1) → Q v H1) : Eo K pa W m σ H Q :=
  Eo.mk r (h.bnd.mono (fun x g1 z v H1 r1 k1 rep => hQ v x H1 g1 r1 k1 rep (z.mono (fun a g' q => hP a g' H1 q k1) fun _ _ q => q.later k1)) fun _ _ q => q)
theorem Ed.step {m : M D} {α : Type} {f : D → M α} {P : Hp → α → En → Prop} {Q : VK} (r : Rl K pa ms os σ H g) (h : Out (bnd m f g) (P H) (Xw K pa W ms os σ H))
    (hP : ∀ a g' H1, P H a g' → Kp os H H1 → P H1 a g')
    (hQ : ∀ v x H1 g1, Rl K pa ms os σ H1 g1 → Kp os H H1 → Rep K ms H1 v x → Out (f x g1) (P H1) (Xw K pa W ms os σ H1) → Q v H1) : Ed K pa W m σ H Q :=
  Ed.mk r (h.bnd.mono (fun x g1 z v H1 r1 k1 rep => hQ v x H1 g1 r1 k1 rep (z.mono (fun a g' q => hP a g' H1 q k1) fun _ _ q => q.later k1)) fun _ _ q => q)
theorem Et.step {m : M Bool} {α : Type} {f : Bool → M α} {P : Hp → α → En → Prop} {Q : Bool → Hp → Prop} (r : Rl K pa ms os σ H g) (h : Out (bnd m f g) (P H) (Xw K pa W ms os σ H))
    (hP : ∀ a g' H1, P H a g' → Kp os H H1 → P H1 a g')
    (hQ : ∀ x H1 g1, Rl K pa ms os σ H1 g1 → Kp os H H1 → Out (f x g1) (P H1) (Xw K pa W ms os σ H1) → Q x H1) : Et K pa W m σ H Q :=
  Et.mk r (h.bnd.mono (fun x g1 z H1 r1 k1 => hQ x H1 g1 r1 k1 (z.mono (fun a g' q => hP a g' H1 q k1) fun _ _ q => q.later k1)) fun _ _ q => q)
theorem Ea.step {m : M (List Op)} {α : Type} {f : List Op → M α} {P : Hp → α → En → Prop} {Q : List V → Hp → Prop} (r : Rl K pa ms os σ H g) (h : Out (bnd m f g) (P H) (Xw K pa W ms os σ H))
    (hP : ∀ a g' H1, P H a g' → Kp os H H1 → P H1 a g')
    (hQ : ∀ vs xs H1 g1, Rl K pa ms os σ H1 g1 → Kp os H H1 → Paired (RepO K ms σ H1) vs xs → Out (f xs g1) (P H1) (Xw K pa W ms os σ H1) → Q vs H1) : Ea K pa W m σ H Q :=
  ⟨ms, os, g, r, h.bnd.mono (fun x g1 z v H1 r1 k1 rep => hQ v x H1 g1 r1 k1 rep (z.mono (fun a g' q => hP a g' H1 q k1) fun _ _ q => q.later k1)) fun _ _ q => q⟩
end

/-! names, constants -/
def eN (i : Nat) : M Op := fun g => match gt g i with
  | .va d => .ok (.d d) g
  | .ow _ => .ok (.o i) g
  | .pm _ => .ok (.o i) g
  | .no => .bad
/-- an operand as a value -/
def vl : Op → M D
  | .d x => ret x
  | .o _ => bad
def eV (m : M Op) : M D := bnd m vl
def eD (m : M D) : M Op := bnd m fun d => ret (.d d)
section
variable {X : Cx} {pa : Nat → Option Addr} {W : WX} {pos : Pos}
theorem ro_name {i : Nat} {x : Str} (hN : X.N[i]? = some x) (hv : Vis X.env.scope x) (hd : (x == ("__debug__" : Str)) = false := by decide) (hcd : (x == ("__classdict__" : Str)) = false := by decide) : RO X pa W (.Name x pos) (eN i) :=
  ⟨(pe_var hN hv hd hcd).imp fun σ H Q ⟨ms, os, g, r, h⟩ => by
    unfold eN at h
    cases e : gt g i with
    | no => rw [e] at h; exact h.elim
    | va d =>
      rw [e] at h
      obtain ⟨v, h1, h2⟩ := r.va i d e
      exact ⟨v, h1, h v H r .refl h2⟩
    | ow m =>
      rw [e] at h
      obtain ⟨p, h1, h2, h3⟩ := r.mo i m (by rw [e]; rfl)
      exact ⟨_, h1, h _ H r .refl h1⟩
    | pm m =>
      rw [e] at h
      obtain ⟨p, h1, h2, h3⟩ := r.mo i m (by rw [e]; rfl)
      exact ⟨_, h1, h _ H r .refl h1⟩⟩
theorem re_ro {e : Expr} {m : M Op} (h : RO X pa W e m) : RE X pa W e (eV m) :=
  ⟨h.pe.imp fun σ H Q ⟨ms, os, g, r, z⟩ => Eo.step (P := fun H1 => Vw X.K pa ms os σ H1 Q) r z (fun _ _ _ q k => q.later k) fun v x H1 g1 r1 k1 rep o => by
    cases x with
    | d x => exact o v H1 r1 .refl rep
    | o i => exact o.elim⟩
theorem ro_re {e : Expr} {m : M D} (h : RE X pa W e m) : RO X pa W e (eD m) :=
  ⟨h.pe.imp fun σ H Q ⟨ms, os, g, r, z⟩ => Ed.step (P := fun H1 => Ow X.K pa ms os σ H1 Q) r z (fun _ _ _ q k => q.later k) fun v x H1 g1 r1 k1 rep o => o v H1 r1 .refl rep⟩
/-- a value that hangs on nothing -/
theorem re_const {e : Expr} {v : V} {d : D} (h : PE X e (tC v)) (hr : ∀ ms H, Rep X.K ms H v d) : RE X pa W e (ret d) :=
  ⟨h.imp fun σ H Q ⟨ms, os, g, r, z⟩ => z v H r .refl (hr ms H)⟩
theorem re_int {i : Int} {j : Nat} : RE X pa W (.Constant (.int i) j pos) (ret (.int i)) := re_const pe_int fun _ _ => .int i
theorem re_bl {b : Bool} {j : Nat} : RE X pa W (.Constant (.bool b) j pos) (ret (.bl b)) := re_const pe_bl fun _ _ => .bl b
theorem re_non {j : Nat} : RE X pa W (.Constant .none j pos) (ret .non) := re_const pe_non fun _ _ => .non
theorem re_str {x : Str} {j : Nat} : RE X pa W (.Constant (.str x) j pos) (ret (.str x)) := re_const pe_str fun _ _ => .str x
theorem re_glob {x : Str} {v : V} {u : Value} {d : D} (hg : Gl X x) (hm : X.mg x = some u) (r : RelV v u) (hr : ∀ ms H, Rep X.K ms H v d) (hd : (x == ("__debug__" : Str)) = false := by decide) : RE X pa W (.Name x pos) (ret d) :=
  re_const (pe_glob hg hm r hd) hr
end

/-! two operands -/
def ap2 {α : Type} (f : D → D → M α) (x y : Op) : M α := fun g => match res g x, res g y with
  | some a, some b => f a b g
  | _, _ => .bad
def ap1 {α : Type} (f : D → M α) (x : Op) : M α := fun g => match res g x with
  | some a => f a g
  | none => .bad
def e1 {α : Type} (a : M Op) (f : D → M α) : M α := bnd a (ap1 f)
def e2 {α : Type} (a b : M Op) (f : D → D → M α) : M α := bnd a fun x => bnd b fun y => ap2 f x y
section
variable {X : Cx} {K : PySem.W.Frag} {pa : Nat → Option Addr} {W : WX} {ms os : Addr → Prop} {σ : L2.St} {H : Hp} {g : En}
theorem Out.ap1 {α : Type} {f : D → M α} {x : Op} {P : α → En → Prop} {E : Xn → En → Prop} (h : Out (ap1 f x g) P E) : ∃ d, res g x = some d ∧ Out (f d g) P E := by
  unfold Mir.ap1 at h
  cases e : res g x with
  | none => rw [e] at h; exact h.elim
  | some d => rw [e] at h; exact ⟨d, rfl, h⟩
theorem Out.ap2 {α : Type} {f : D → D → M α} {x y : Op} {P : α → En → Prop} {E : Xn → En → Prop} (h : Out (ap2 f x y g) P E) : ∃ d d', res g x = some d ∧ res g y = some d' ∧ Out (f d d' g) P E := by
  unfold Mir.ap2 at h
  cases e : res g x with
  | none => rw [e] at h; exact h.elim
  | some d =>
    cases e' : res g y with
    | none => rw [e, e'] at h; exact h.elim
    | some d' => rw [e, e'] at h; exact ⟨d, d', rfl, rfl, h⟩
theorem step1 {α : Type} {a : M Op} {f : D → M α} {P : Hp → α → En → Prop} {R : V → Hp → Prop} (r : Rl K pa ms os σ H g) (h : Out (e1 a f g) (P H) (Xw K pa W ms os σ H)) (hP : ∀ a g' H H1, P H a g' → Kp os H H1 → P H1 a g')
    (hR : ∀ v d H1 g1, Rl K pa ms os σ H1 g1 → RepB K ms os H1 v d → Out (f d g1) (P H1) (Xw K pa W ms os σ H1) → R v H1) : Eo K pa W a σ H R :=
  Eo.step (P := P) r h (fun a g' H1 => hP a g' H H1) fun v x H1 g1 r1 k1 rep o => by
    obtain ⟨d, e, o⟩ := o.ap1
    exact hR v d H1 g1 r1 (rep.res r1 e) o
theorem step2 {α : Type} {a b : M Op} {f : D → D → M α} {P : Hp → α → En → Prop} {R : V → V → Hp → Prop} (r : Rl K pa ms os σ H g) (h : Out (e2 a b f g) (P H) (Xw K pa W ms os σ H)) (hP : ∀ a g' H H1, P H a g' → Kp os H H1 → P H1 a g')
    (hR : ∀ v v' d d' H1 g1, Rl K pa ms os σ H1 g1 → RepB K ms os H1 v d → RepB K ms os H1 v' d' → Out (f d d' g1) (P H1) (Xw K pa W ms os σ H1) → R v v' H1) : Eo K pa W a σ H fun v H1 => Eo K pa W b σ H1 fun v' H2 => R v v' H2 :=
  Eo.step (P := P) r h (fun a g' H1 => hP a g' H H1) fun v x H1 g1 r1 k1 rep o => Eo.step (P := P) r1 o (fun a g' H2 => hP a g' H1 H2) fun v' y H2 g2 r2 k2 rep2 o2 => by
    obtain ⟨d, d', e, e', o2⟩ := o2.ap2
    exact hR v v' d d' H2 g2 r2 ((rep.keep k2 r1.sub).res r2 e) (rep2.res r2 e') o2
/-- a pure operation of two operands -/
def f2 {α : Type} (f : D → D → Option α) : D → D → M α := fun a b => opt (f a b)
def f1 {α : Type} (f : D → Option α) : D → M α := fun a => opt (f a)
theorem Out.opt {α : Type} {o : Option α} {P : α → En → Prop} {E : Xn → En → Prop} (h : Out (opt o g) P E) : ∃ a, o = some a ∧ P a g := by
  cases o with
  | none => exact h.elim
  | some a => exact ⟨a, rfl, h⟩
/-- what an operation by values is to do on data -/
def Op2 (K : PySem.W.Frag) (r : R2) (f : D → D → Option D) : Prop := ∀ (ms os : Addr → Prop) (H : Hp) (Q : VK) (v w : V) (x y z : D), (∀ a, os a → ms a) → (∀ a, ms a → H a ≠ none) → RepB K ms os H v x → RepB K ms os H w y → f x y = some z →
  (∀ u H', Kp NoW H H' → Rep K ms H' u z → Q u H') → r v w H Q
theorem re_bin {a b : Expr} {op : Operator} {r : R2} {ma mb : M Op} {f : D → D → Option D} {pos : Pos} (ho : OpR X (binaryOp op) r) (hf : Op2 X.K r f) (ha : RO X pa W a ma) (hb : RO X pa W b mb) : RE X pa W (.BinOp a op b pos) (e2 ma mb (f2 f)) :=
  ⟨(pe_op ho ha.pe hb.pe).imp fun σ H Q ⟨ms, os, g, rl, z⟩ => step2 (P := fun H1 => Vw X.K pa ms os σ H1 Q) rl z (fun _ _ _ _ q k => q.later k) fun v v' d d' H1 g1 r1 q1 q2 o => by
    obtain ⟨y, e, o⟩ := o.opt
    exact hf ms os H1 Q v v' d d' y r1.sub r1.dom q1 q2 e fun u H' k rp => o u H' (r1.kp k) (k.weak fun _ q => q.elim) rp⟩
theorem re_cmp {a b : Expr} {op : CmpOp} {r : R2} {ma mb : M Op} {f : D → D → Option D} {pos : Pos} (ho : OpR X (compareOp op) r) (hf : Op2 X.K r f) (ha : RO X pa W a ma) (hb : RO X pa W b mb) (hm : behindInMarks op b = false) : RE X pa W (.Compare a [op] [b] pos) (e2 ma mb (f2 f)) :=
  ⟨(pe_cmpR ho ha.pe hb.pe hm).imp fun σ H Q ⟨ms, os, g, rl, z⟩ => step2 (P := fun H1 => Vw X.K pa ms os σ H1 Q) rl z (fun _ _ _ _ q k => q.later k) fun v v' d d' H1 g1 r1 q1 q2 o => by
    obtain ⟨y, e, o⟩ := o.opt
    exact hf ms os H1 Q v v' d d' y r1.sub r1.dom q1 q2 e fun u H' k rp => o u H' (r1.kp k) (k.weak fun _ q => q.elim) rp⟩
theorem re_ix {a b : Expr} {r : R2} {ma mb : M Op} {f : D → D → Option D} {pos : Pos} (ho : IxR X r) (hf : Op2 X.K r f) (ha : RO X pa W a ma) (hb : RO X pa W b mb) (hs : PlainIx b) : RE X pa W (.Subscript a b pos) (e2 ma mb (f2 f)) :=
  ⟨(pe_ix ho ha.pe hb.pe hs).imp fun σ H Q ⟨ms, os, g, rl, z⟩ => step2 (P := fun H1 => Vw X.K pa ms os σ H1 Q) rl z (fun _ _ _ _ q k => q.later k) fun v v' d d' H1 g1 r1 q1 q2 o => by
    obtain ⟨y, e, o⟩ := o.opt
    exact hf ms os H1 Q v v' d d' y r1.sub r1.dom q1 q2 e fun u H' k rp => o u H' (r1.kp k) (k.weak fun _ q => q.elim) rp⟩
end
end Mir

namespace Mir
open PySem L2
/-! data for == -/
mutual
def D.py : D → Option PyData
  | .non => some .none
  | .bl b => some (.bool b)
  | .int i => some (.int i)
  | .str x => some (.str x)
  | .tup xs => (D.pys xs).map .tuple
  | .lst xs => (D.pys xs).map .list
  | .frl _ => none
  | .ref _ => none
  | .ty _ => none
def D.pys : List D → Option (List PyData)
  | [] => some []
  | d :: ds => match D.py d, D.pys ds with
    | some x, some xs => some (x :: xs)
    | _, _ => none
end
section
variable {K : PySem.W.Frag} {ms os : Addr → Prop} {H : Hp}
mutual
theorem Rep.dp : ∀ {v : V} {d : D} {p : PyData}, Rep K ms H v d → d.py = some p → Dp K H v p
  | _, .non, _, r, e => by cases r; cases e; exact .non
  | _, .bl b, _, r, e => by cases r; cases e; exact .bl b
  | _, .int b, _, r, e => by cases r; cases e; exact .int b
  | _, .str b, _, r, e => by cases r; cases e; exact .str b
  | _, .tup xs, _, r, e => by
    cases r with
    | tup s l =>
      unfold D.py at e
      obtain ⟨ps, h1, rfl⟩ := Option.map_eq_some_iff.mp e
      exact .tup s (RepL.dp l h1)
  | _, .lst xs, _, r, e => by
    cases r with
    | lst n s l =>
      unfold D.py at e
      obtain ⟨ps, h1, rfl⟩ := Option.map_eq_some_iff.mp e
      exact .lst (SqL.of s) (RepL.dp l h1)
  | _, .frl xs, _, r, e => by cases e
  | _, .ref _, _, r, e => by cases e
  | _, .ty _, _, r, e => by cases e
theorem RepL.dp : ∀ {v : List V} {d : List D} {p : List PyData}, RepL K ms H v d → D.pys d = some p → DpAll K H v p
  | _, [], _, r, e => by cases r; cases e; exact .nil
  | _, d :: ds, _, r, e => by
    cases r with
    | cons a l =>
      unfold D.pys at e
      cases h1 : d.py with
      | none => rw [h1] at e; cases e
      | some x =>
        cases h2 : D.pys ds with
        | none => rw [h1, h2] at e; cases e
        | some xs =>
          rw [h1, h2] at e
          cases e
          exact .cons (Rep.dp a h1) (RepL.dp l h2)
end
theorem RepB.dp {v : V} {d : D} {p : PyData} (r : RepB K ms os H v d) (e : d.py = some p) : Dp K H v p := by
  rcases r with r | ⟨a, vs, xs, rfl, h1, rfl, h2, h3⟩
  · exact r.dp e
  · unfold D.py at e
    obtain ⟨ps, h4, rfl⟩ := Option.map_eq_some_iff.mp e
    exact .lst (SqL.of h2) (RepL.dp h3 h4)
theorem RepB.int {v : V} {i : Int} (r : RepB K ms os H v (.int i)) : v = .int i := by
  rcases r with r | ⟨a, vs, xs, rfl, h1, h2, _⟩
  · cases r; rfl
  · cases h2
theorem RepB.bl {v : V} {i : Bool} (r : RepB K ms os H v (.bl i)) : v = .bl i := by
  rcases r with r | ⟨a, vs, xs, rfl, h1, h2, _⟩
  · cases r; rfl
  · cases h2
theorem RepB.str {v : V} {i : Str} (r : RepB K ms os H v (.str i)) : v = .str i := by
  rcases r with r | ⟨a, vs, xs, rfl, h1, h2, _⟩
  · cases r; rfl
  · cases h2
theorem RepB.non {v : V} (r : RepB K ms os H v .non) : v = .non := by
  rcases r with r | ⟨a, vs, xs, rfl, h1, h2, _⟩
  · cases r; rfl
  · cases h2
theorem RepB.ty {v : V} {n : String} (r : RepB K ms os H v (.ty n)) : v = .ty n := by
  rcases r with r | ⟨a, vs, xs, rfl, h1, h2, _⟩
  · cases r; rfl
  · cases h2
theorem RepB.tup {v : V} {ds : List D} (r : RepB K ms os H v (.tup ds)) : ∃ a vs, v = .ref a ∧ SqT K H a vs ∧ RepL K ms H vs ds := by
  rcases r with r | ⟨a, vs, xs, rfl, h1, h2, _⟩
  · cases r with | tup s l => exact ⟨_, _, rfl, s, l⟩
  · cases h2
theorem RepB.lst {v : V} {ds : List D} (r : RepB K ms os H v (.lst ds)) : ∃ a vs, v = .ref a ∧ H a = some (.lst vs) ∧ RepL K ms H vs ds := by
  rcases r with r | ⟨a, vs, xs, rfl, h1, h2, h3, h4⟩
  · cases r with | lst n s l => exact ⟨_, _, rfl, s, l⟩
  · cases h2; exact ⟨_, _, rfl, h3, h4⟩
theorem RepB.frl {v : V} {ds : List D} (r : RepB K ms os H v (.frl ds)) : ∃ a vs, v = .ref a ∧ SqF K H a vs ∧ RepL K ms H vs ds := by
  rcases r with r | ⟨a, vs, xs, rfl, h1, h2, h3, h4⟩
  · cases r with | frl s l => exact ⟨_, _, rfl, s, l⟩
  · cases h2
end

/-! operators -/
def mulOk (a b : Int) : Bool := decide (a.natAbs < 18446744073709551616) || decide (b.natAbs < 18446744073709551616) || decide (a.natAbs.log2 + b.natAbs.log2 < 134217000)
theorem mulOk.ok {i j : Int} (h : mulOk i j = true) : IntMulOk i j := by
  unfold mulOk at h
  rw [Bool.or_eq_true, Bool.or_eq_true] at h
  rcases h with (h | h) | h
  · have := of_decide_eq_true h
    exact .of_left (PySem.intBits_le_64 (by omega) (by omega))
  · have := of_decide_eq_true h
    exact .of_right (PySem.intBits_le_64 (by omega) (by omega))
  have b : ∀ x : Int, Builtin.Int.intBits x ≤ x.natAbs.log2 + 1 := fun x => by
    unfold Builtin.Int.intBits
    split <;> omega
  have h1 := b i
  have h2 := b j
  have h3 : i.natAbs.log2 + j.natAbs.log2 < 134217000 := of_decide_eq_true h
  have e : bitsLine = 134217728 := by decide
  unfold IntMulOk
  intro z
  rw [Bool.and_eq_true] at z
  have z2 := z.2
  unfold Builtin.Int.intTooBig at z2
  have z3 := of_decide_eq_true z2
  rw [e] at z3
  omega
def powOk (a n : Int) : Bool := decide (0 ≤ n) && decide (((a.natAbs.log2 : Int) + 1) * n ≤ 2 ^ 27)
def divOk (a b : Int) : Bool := (b != 0) && !(Builtin.divisionGoesByPylong a b)
/-! a tuple taken several times: none, once -/
section
open PySem.Spec PyProof.Rows
theorem tup_none (l : Addr) (its : Array Value) (n : Nat) (dd : Option Addr) (sl : Array (Option Value)) (u : Tok) (hne : its.isEmpty = false) :
    Meets (Builtin.«tuple.__mul__» ⟨[.ref l, .int 0 u], []⟩) (fun _ R s => s.heap.get? l = some ⟨.type "tuple", dd, .seq its n, sl⟩ ∧
      R (.ok (.ret (Value.ref s.heap.objs.size))) { s with heap := s.heap.push { cls := Value.type "tuple", data := Data.seq #[] }, toks := s.toks }) :=
  .of_wp fun prog w A R s h => by
    obtain ⟨hp, g, d, tk, os⟩ := s
    obtain ⟨hl, h⟩ := h
    have f1 := AutoSeq1.idx_int
    wp_walk using wpAny_loadPart' hl
    repeat (first
      | (refine wpAny_ite_false (by decide) ?_; wp_walk using wpAny_loadPart' hl)
      | (refine wpAny_ite_false (by rw [hne]; decide) ?_; wp_walk using wpAny_loadPart' hl)
      | (refine wpAny_ite_true (by rfl) ?_; wp_walk using wpAny_loadPart' hl))
    exact ⟨_, rfl, h⟩
theorem tup_once (l : Addr) (its : Array Value) (n : Nat) (dd : Option Addr) (sl : Array (Option Value)) (u : Tok) :
    Meets (Builtin.«tuple.__mul__» ⟨[.ref l, .int 1 u], []⟩) (fun _ R s => s.heap.get? l = some ⟨.type "tuple", dd, .seq its n, sl⟩ ∧ R (.ok (.ret (.ref l))) s) :=
  .of_wp fun prog w A R s h => by
    obtain ⟨hp, g, d, tk, os⟩ := s
    obtain ⟨hl, h⟩ := h
    have f1 := AutoSeq1.idx_int
    wp_walk using wpAny_loadPart' hl
    repeat (first
      | (refine wpAny_ite_false (by decide) ?_; wp_walk using wpAny_loadPart' hl)
      | (refine wpAny_ite_true (by simp) ?_; wp_walk using wpAny_loadPart' hl))
    exact ⟨_, rfl, h⟩
/-- a tuple times 0 or 1 -/
def rFew (K : PySem.W.Frag) : R2 := fun x y H Q => ∃ l k xs, x = .ref l ∧ y = .int k ∧ SqT K H l xs ∧ xs ≠ [] ∧ ((k = 1 ∧ Q (.ref l) H) ∨ (k = 0 ∧ ∀ p, H p = none → Q (.ref p) (upd H p (.tup []))))
theorem op_few {X : Cx} : OpR X (binaryOp .Mult) (rFew X.K) := by
  intro pins s σ H x y v u Q I rx ry h
  obtain ⟨l, k, xs, rfl, rfl, hT, hne, h⟩ := h
  cases rx
  obtain ⟨t, rfl⟩ := ry
  obtain ⟨its, r, ⟨⟨cls, dd, data, sl⟩, ho, hc, n, hd⟩, hs⟩ := I.tuple hT
  simp only at hc hd
  subst hc hd
  have hn : its.toArray.isEmpty = false := by
    have := r.length
    cases its with
    | nil => cases xs with
      | nil => exact (hne rfl).elim
      | cons _ _ => cases this
    | cons _ _ => rfl
  refine wpAny_binaryOp_repeat_ref (T := "tuple") (U := "int") (by decide) ⟨_, ho, rfl⟩ (fun s' => typeIs_int s' k t) noFill_tuple_mul F.fills_int_mul F.slot_int_rmul repeat_tuple F.slot_int_index.lookup ?_
  refine call_meets F.slot_int_rmul (typeIs_int s k t) F.entry_int_rmul (F.args_int_rmul_2 _ _) (int_rmul_tuple k t l its.toArray n dd sl) ⟨ho, rfl, ⟨_, ho, rfl⟩, ?_⟩
  rcases h with ⟨rfl, q⟩ | ⟨rfl, q⟩
  · exact call_meets F.slot_tuple_mul ⟨_, ho, rfl⟩ F.entry_tuple_mul (F.args_tuple_mul_2 _ _) (tup_once l its.toArray n dd sl t) ⟨ho, .ref l, H, I, rfl, q⟩
  · refine call_meets F.slot_tuple_mul ⟨_, ho, rfl⟩ F.entry_tuple_mul (F.args_tuple_mul_2 _ _) (tup_none l its.toArray n dd sl t hn) ⟨ho, ?_⟩
    exact ⟨.ref s.heap.objs.size, _, I.laid (t' := s.toks) (o := .tup []) (fun b ob q => Heap.get?_push_of_some _ q) (Nat.le_refl _) ⟨by decide, _, .nil, IsTup.new _ _⟩, rfl, q _ (I.hok.fresh (Nat.le_refl _))⟩
end
section
variable {X : Cx}
def rMulX (K : PySem.W.Frag) : R2 := fun x y H Q => ((rI (fun i j => mulOk i j = true) fun i j => .int (i * j)) x y H Q ∨ rFew K x y H Q) ∨ rRepT K x y H Q
theorem op_mulI : OpR X (binaryOp .Mult) (rI (fun i j => mulOk i j = true) fun i j => .int (i * j)) := opI fun _ _ _ _ _ _ _ hc q => PyProof.Rows.mul_int q (mulOk.ok hc)
theorem op_mulX : OpR X (binaryOp .Mult) (rMulX X.K) := OpR.or (OpR.or op_mulI op_few) op_repT
theorem op_powX : OpR X (binaryOp .Pow) (rI (fun i j => powOk i j = true) fun i j => .int (i ^ j.toNat)) := opI fun i j _ _ _ _ _ hc q => by
  have b : Builtin.Int.intBits i ≤ i.natAbs.log2 + 1 := by
    unfold Builtin.Int.intBits
    split <;> omega
  unfold powOk at hc
  obtain ⟨h1, h2⟩ := Bool.and_eq_true_iff.mp hc
  have h3 := of_decide_eq_true h1
  have h4 := of_decide_eq_true h2
  refine PyProof.Rows.pow_int h3 (Int.le_trans (Int.mul_le_mul_of_nonneg_right ?_ h3) h4) q
  omega
theorem op_fdivX : OpR X (binaryOp .FloorDiv) (rI (fun i j => divOk i j = true) fun i j => .int (i.fdiv j)) := opI fun i j _ _ _ _ _ hc q => by
  unfold divOk at hc
  obtain ⟨h1, h2⟩ := Bool.and_eq_true_iff.mp hc
  exact PyProof.Rows.floordiv_int (by simpa using h1) q (.inl (by simpa using h2))
theorem op_any {f : Value → Value → Sem Value} {r r' : R2} (h : OpR X f r) (h' : OpR X f r') : OpR X f (fun x y H Q => r x y H Q ∨ r' x y H Q) := h.or h'
end
def addD : D → D → Option D
  | .int a, .int b => some (.int (a + b))
  | .str a, .str b => if a.length + b.length ≤ sizeLine then some (.str (a ++ b)) else none
  | .tup a, .tup b => if a.isEmpty then none else if a.length + b.length ≤ sizeLine then some (.tup (a ++ b)) else none
  | .lst a, .lst b => if a.length + b.length ≤ sizeLine then some (.lst (a ++ b)) else none
  | _, _ => none
def subD : D → D → Option D
  | .int a, .int b => some (.int (a - b))
  | _, _ => none
def mulD : D → D → Option D
  | .int a, .int b => if mulOk a b then some (.int (a * b)) else none
  | .tup xs, .int k => if xs.isEmpty then none else if (0 ≤ k ∧ k ≤ 1000) ∧ xs.length ≤ 1000 then some (.tup (List.replicate k.toNat xs).flatten) else none
  | _, _ => none
def powD : D → D → Option D
  | .int a, .int b => if powOk a b then some (.int (a ^ b.toNat)) else none
  | _, _ => none
def fdvD : D → D → Option D
  | .int a, .int b => if divOk a b then some (.int (a.fdiv b)) else none
  | _, _ => none
def modD : D → D → Option D
  | .int a, .int b => if b = 0 then none else some (.int (a.fmod b))
  | _, _ => none
def ltD : D → D → Option D
  | .int a, .int b => some (.bl (decide (a < b)))
  | _, _ => none
def leD : D → D → Option D
  | .int a, .int b => some (.bl (decide (a ≤ b)))
  | _, _ => none
def gtD : D → D → Option D
  | .int a, .int b => some (.bl (decide (b < a)))
  | _, _ => none
def geD : D → D → Option D
  | .int a, .int b => some (.bl (decide (b ≤ a)))
  | _, _ => none
def pyE (x y : D) : Option Bool := match x.py, y.py with
  | some a, some b => if SeqAt.shaped a && SeqAt.shaped b then some (PyData.eqv a b) else none
  | _, _ => none
def eqD (x y : D) : Option D := (pyE x y).map .bl
def neD (x y : D) : Option D := (pyE x y).map fun b => .bl (!b)
section
variable {K : PySem.W.Frag}
theorem o2_I {f : D → D → Option D} {C : Int → Int → Prop} {g : Int → Int → V} (hf : ∀ x y z, f x y = some z → ∃ i j, x = .int i ∧ y = .int j ∧ C i j ∧ ∀ ms H, Rep K ms H (g i j) z) : Op2 K (rI C g) f := fun ms os H Q v w x y z _ _ hv hw e hQ => by
  obtain ⟨i, j, rfl, rfl, c, r⟩ := hf x y z e
  exact ⟨i, j, hv.int, hw.int, c, hQ _ H .refl (r ms H)⟩
theorem o2_I0 {f : D → D → Option D} {g : Int → Int → V} (hf : ∀ x y z, f x y = some z → ∃ i j, x = .int i ∧ y = .int j ∧ ∀ ms H, Rep K ms H (g i j) z) : Op2 K (rI0 g) f := fun ms os H Q v w x y z _ _ hv hw e hQ => by
  obtain ⟨i, j, rfl, rfl, r⟩ := hf x y z e
  exact ⟨i, j, hv.int, hw.int, hQ _ H .refl (r ms H)⟩
theorem o2_sub : Op2 K (rI0 fun i j => .int (i - j)) subD := o2_I0 fun x y z e => by
  unfold subD at e; split at e <;> cases e; exact ⟨_, _, rfl, rfl, fun _ _ => .int _⟩
theorem new_tup {ms : Addr → Prop} {H : Hp} {p : Addr} {vs : List V} {ds : List D} (h : H p = none) (r : RepL K ms H vs ds) : Kp NoW H (upd H p (.tup vs)) ∧ Rep K ms (upd H p (.tup vs)) (.ref p) (.tup ds) :=
  ⟨.new h, .tup (.inl (.inl upd_same)) (r.keep (W := NoW) (.new h) fun _ q => q.elim)⟩
theorem new_lst {ms : Addr → Prop} {H : Hp} {p : Addr} {vs : List V} {ds : List D} (hd : ∀ a, ms a → H a ≠ none) (h : H p = none) (r : RepL K ms H vs ds) : Kp NoW H (upd H p (.lst vs)) ∧ Rep K ms (upd H p (.lst vs)) (.ref p) (.lst ds) :=
  ⟨.new h, .lst (fun q => hd p q h) upd_same (r.keep (W := NoW) (.new h) fun _ q => q.elim)⟩
theorem RepL.several {ms : Addr → Prop} {H : Hp} {vs : List V} {ds : List D} (r : RepL K ms H vs ds) : ∀ n : Nat, RepL K ms H (List.replicate n vs).flatten (List.replicate n ds).flatten
  | 0 => .nil
  | n + 1 => by
    rw [List.replicate_succ, List.replicate_succ, List.flatten_cons, List.flatten_cons]
    exact r.append (RepL.several r n)
theorem o2_mul : Op2 K (rMulX K) mulD := fun ms os H Q v w x y z hs hd hv hw e hQ => by
  unfold mulD at e
  split at e
  · split at e <;> cases e
    exact .inl (.inl ⟨_, _, hv.int, hw.int, by assumption, hQ _ H .refl (.int _)⟩)
  · rename_i xs k
    obtain ⟨p, vs, rfl, s1, l1⟩ := hv.tup
    have hk := hw.int
    subst hk
    have e1 := l1.length
    split at e
    · cases e
    · split at e <;> cases e
      rename_i h1 h2
      obtain ⟨⟨h2, h3⟩, h4⟩ := h2
      have hne : vs ≠ [] := by
        intro z
        subst z
        cases xs with
        | nil => exact h1 rfl
        | cons _ _ => simp at e1
      by_cases k0 : k = 0
      · subst k0
        refine .inl (.inr ⟨p, 0, vs, rfl, rfl, s1, hne, .inr ⟨rfl, fun r hr => ?_⟩⟩)
        obtain ⟨k, rp⟩ := new_tup hr (.nil : RepL K ms H [] [])
        exact hQ _ _ k rp
      by_cases k1 : k = 1
      · subst k1
        refine .inl (.inr ⟨p, 1, vs, rfl, rfl, s1, hne, .inl ⟨rfl, hQ _ H .refl ?_⟩⟩)
        have z : (List.replicate (1 : Int).toNat xs).flatten = xs := by simp
        rw [z]; exact .tup s1 l1
      · refine .inr ⟨p, k, vs, rfl, rfl, s1, hne, by omega, h3, by rw [e1]; exact h4, fun r hr => ?_⟩
        obtain ⟨k, rp⟩ := new_tup hr (l1.several k.toNat)
        exact hQ _ _ k rp
  · cases e
theorem o2_pow : Op2 K (rI (fun i j => powOk i j = true) fun i j => .int (i ^ j.toNat)) powD := o2_I fun x y z e => by
  unfold powD at e; split at e
  · split at e <;> cases e; exact ⟨_, _, rfl, rfl, by assumption, fun _ _ => .int _⟩
  · cases e
theorem o2_fdv : Op2 K (rI (fun i j => divOk i j = true) fun i j => .int (i.fdiv j)) fdvD := o2_I fun x y z e => by
  unfold fdvD at e; split at e
  · split at e <;> cases e; exact ⟨_, _, rfl, rfl, by assumption, fun _ _ => .int _⟩
  · cases e
theorem o2_mod : Op2 K (rI (fun _ j => j ≠ 0) fun i j => .int (i.fmod j)) modD := o2_I fun x y z e => by
  unfold modD at e; split at e
  · split at e <;> cases e; exact ⟨_, _, rfl, rfl, by assumption, fun _ _ => .int _⟩
  · cases e
theorem o2_lt : Op2 K (rI0 fun i j => .bl (decide (i < j))) ltD := o2_I0 fun x y z e => by
  unfold ltD at e; split at e <;> cases e; exact ⟨_, _, rfl, rfl, fun _ _ => .bl _⟩
theorem o2_le : Op2 K (rI0 fun i j => .bl (decide (i ≤ j))) leD := o2_I0 fun x y z e => by
  unfold leD at e; split at e <;> cases e; exact ⟨_, _, rfl, rfl, fun _ _ => .bl _⟩
theorem o2_gt : Op2 K (rI0 fun i j => .bl (decide (j < i))) gtD := o2_I0 fun x y z e => by
  unfold gtD at e; split at e <;> cases e; exact ⟨_, _, rfl, rfl, fun _ _ => .bl _⟩
theorem o2_ge : Op2 K (rI0 fun i j => .bl (decide (j ≤ i))) geD := o2_I0 fun x y z e => by
  unfold geD at e; split at e <;> cases e; exact ⟨_, _, rfl, rfl, fun _ _ => .bl _⟩
theorem pyE.of {x y : D} {b : Bool} (h : pyE x y = some b) : ∃ p q, x.py = some p ∧ y.py = some q ∧ SeqAt.shaped p = true ∧ SeqAt.shaped q = true ∧ PyData.eqv p q = b := by
  unfold pyE at h
  split at h
  · split at h
    · rename_i h1 h2 h3
      obtain ⟨a, c⟩ := Bool.and_eq_true_iff.mp h3
      cases h
      exact ⟨_, _, h1, h2, a, c, rfl⟩
    · cases h
  · cases h
theorem o2_eq : Op2 K (rEqD K) eqD := fun ms os H Q v w x y z _ _ hv hw e hQ => by
  obtain ⟨b, h, rfl⟩ := Option.map_eq_some_iff.mp e
  obtain ⟨p, q, h1, h2, h3, h4, h5⟩ := pyE.of h
  exact ⟨p, q, hv.dp h1, hw.dp h2, h3, h4, by rw [h5]; exact hQ _ H .refl (.bl b)⟩
theorem o2_ne : Op2 K (rNeD K) neD := fun ms os H Q v w x y z _ _ hv hw e hQ => by
  obtain ⟨b, h, rfl⟩ := Option.map_eq_some_iff.mp e
  obtain ⟨p, q, h1, h2, h3, h4, h5⟩ := pyE.of h
  exact ⟨p, q, hv.dp h1, hw.dp h2, h3, h4, by rw [h5]; exact hQ _ H .refl (.bl (!b))⟩
/-- + of all kinds -/
def rAddX (K : PySem.W.Frag) : R2 := fun x y H Q => (((rI0 fun i j => .int (i + j)) x y H Q ∨ (∃ i j, x = V.str i ∧ y = V.str j ∧ i.length + j.length ≤ sizeLine ∧ Q (.str (i ++ j)) H)) ∨ rCatT K x y H Q) ∨ rCat x y H Q
theorem op_addX {X : Cx} : OpR X (binaryOp .Add) (rAddX X.K) := OpR.or (OpR.or (OpR.or op_add op_add_str) op_catT) op_cat
theorem o2_add : Op2 K (rAddX K) addD := fun ms os H Q v w x y z hs hd hv hw e hQ => by
  unfold addD at e
  split at e
  · cases e
    exact .inl (.inl (.inl ⟨_, _, hv.int, hw.int, hQ _ H .refl (.int _)⟩))
  · split at e <;> cases e
    exact .inl (.inl (.inr ⟨_, _, hv.str, hw.str, by assumption, hQ _ H .refl (.str _)⟩))
  · rename_i a b
    obtain ⟨p, vs, rfl, s1, l1⟩ := hv.tup
    obtain ⟨q, ws, rfl, s2, l2⟩ := hw.tup
    split at e
    · cases e
    · split at e <;> cases e
      rename_i h1 h2
      have e1 := l1.length
      have e2 := l2.length
      refine .inl (.inr ⟨p, q, vs, ws, rfl, rfl, s1, s2, ?_, by rw [e1, e2]; exact h2, fun z => ?_, fun z r hr => ?_⟩)
      · intro z
        subst z
        cases a with
        | nil => exact h1 rfl
        | cons _ _ => simp at e1
      · subst z
        cases l2
        exact hQ _ H .refl (by rw [List.append_nil]; exact .tup s1 l1)
      · obtain ⟨k, rp⟩ := new_tup hr (l1.append l2)
        exact hQ _ _ k rp
  · rename_i a b
    obtain ⟨p, vs, rfl, s1, l1⟩ := hv.lst
    obtain ⟨q, ws, rfl, s2, l2⟩ := hw.lst
    split at e <;> cases e
    rename_i h2
    refine .inr ⟨p, q, vs, ws, rfl, rfl, s1, s2, by rw [l1.length, l2.length]; exact h2, fun r hr => ?_⟩
    obtain ⟨k, rp⟩ := new_lst hd hr (l1.append l2)
    exact hQ _ _ k rp
  · cases e
/-- is None -/
def isND : D → D → Option D
  | .ref _, .non => none
  | x, .non => some (.bl (match x with | .non => true | _ => false))
  | _, _ => none
def notND : D → D → Option D
  | .ref _, .non => none
  | x, .non => some (.bl (match x with | .non => false | _ => true))
  | _, _ => none
theorem RepB.none {ms os : Addr → Prop} {H : Hp} {v : V} {d : D} (r : RepB K ms os H v d) : decide (v = .non) = (match d with | .non => true | _ => false) := by
  rcases r with r | ⟨a, vs, xs, rfl, h1, rfl, h2, h3⟩
  · cases r <;> simp
  · simp
theorem o2_isN : Op2 K (fun x y H Q => y = .non ∧ Q (.bl (decide (x = .non))) H) isND := fun ms os H Q v w x y z _ _ hv hw e hQ => by
  have n := hv.none
  unfold isND at e
  split at e
  · cases e
  · cases e
    refine ⟨hw.non, ?_⟩
    rw [n]
    refine hQ _ H .refl ?_
    cases x <;> exact .bl _
  · cases e
theorem o2_notN : Op2 K (fun x y H Q => y = .non ∧ Q (.bl (!decide (x = .non))) H) notND := fun ms os H Q v w x y z _ _ hv hw e hQ => by
  have n := hv.none
  unfold notND at e
  split at e
  · cases e
  · cases e
    refine ⟨hw.non, ?_⟩
    rw [n]
    refine hQ _ H .refl ?_
    cases x <;> exact .bl _
  · cases e
/-! subscripts -/
def ixD : D → D → Option D
  | .tup xs, .int i => atI xs i
  | .lst xs, .int i => atI xs i
  | .frl xs, .int i => atI xs i
  | .str x, .int i => if x.length ≤ sizeLine then (atI x.cps.toList i).map fun c => .str ⟨#[c]⟩ else none
  | _, _ => none
theorem RepL.atI {ms : Addr → Prop} {H : Hp} {v : List V} {d : List D} (r : RepL K ms H v d) {i : Int} {x : D} (h : atI d i = some x) : ∃ u, atI v i = some u ∧ Rep K ms H u x := by
  unfold L2.atI at h ⊢
  rw [r.length]
  cases e : ixN d.length i with
  | none => rw [e] at h; cases h
  | some j =>
    rw [e] at h
    exact r.get h
def rIxX (K : PySem.W.Frag) : R2 := fun x y H Q => (rIxL K x y H Q ∨ rIxT K x y H Q) ∨ rIxS x y H Q
theorem ix_X {X : Cx} : IxR X (rIxX X.K) := IxR.or (IxR.or ix_list ix_tup) ix_str
theorem o2_ix : Op2 K (rIxX K) ixD := fun ms os H Q v w x y z hs hd hv hw e hQ => by
  unfold ixD at e
  split at e
  · obtain ⟨p, vs, rfl, s1, l1⟩ := hv.tup
    obtain ⟨u, h1, h2⟩ := l1.atI e
    exact .inl (.inr ⟨p, vs, _, u, rfl, hw.int, s1, h1, hQ _ H .refl h2⟩)
  · obtain ⟨p, vs, rfl, s1, l1⟩ := hv.lst
    obtain ⟨u, h1, h2⟩ := l1.atI e
    exact .inl (.inl ⟨p, vs, _, u, rfl, hw.int, SqL.of s1, h1, hQ _ H .refl h2⟩)
  · obtain ⟨p, vs, rfl, s1, l1⟩ := hv.frl
    obtain ⟨u, h1, h2⟩ := l1.atI e
    exact .inl (.inl ⟨p, vs, _, u, rfl, hw.int, s1.sq, h1, hQ _ H .refl h2⟩)
  · split at e
    · obtain ⟨c, h1, rfl⟩ := Option.map_eq_some_iff.mp e
      exact .inr ⟨_, _, c, hv.str, hw.int, by assumption, h1, hQ _ H .refl (.str _)⟩
    · cases e
  · cases e
end
end Mir

namespace Mir
open PySem L2
def asB : D → M Bool
  | .bl b => ret b
  | _ => bad
def tB (m : M D) : M Bool := bnd m asB
def ite' {α : Type} (c : M Bool) (a b : M α) : M α := bnd c fun k => match k with
  | true => a
  | false => b
def notM (c : M Bool) : M Bool := bnd c fun b => ret (!b)
def andM (a b : M Bool) : M Bool := bnd a fun k => match k with
  | true => b
  | false => ret false
def orM (a b : M Bool) : M Bool := bnd a fun k => match k with
  | true => ret true
  | false => b
/-- the same as values -/
def ofB (m : M Bool) : M D := bnd m fun b => ret (.bl b)
structure RW (X : Cx) (pa : Nat → Option Addr) (W : WX) (e : Expr) (m : M Bool) : Prop where
  pw : PW X e (Et X.K pa W m)
theorem _root_.L2.PW.imp {X : Cx} {e : Expr} {t t' : TT} (h : PW X e t) (q : ∀ σ H Q, t' σ H Q → t σ H Q) : PW X e t' := ⟨fun wh pins s σ H Q I z => h.run wh pins s σ H Q I (q σ H Q z)⟩
section
variable {X : Cx} {K : PySem.W.Frag} {pa : Nat → Option Addr} {W : WX} {ms os : Addr → Prop} {σ : L2.St} {H : Hp} {g : En} {pos : Pos} {a b c e : Expr} {rest : List Expr}
theorem rep_bl {v : V} {b : Bool} (r : Rep K ms H v (.bl b)) : v = .bl b := by cases r; rfl
theorem rt_val {m : M D} (h : RE X pa W e m) (he : ∀ whole, isTrue e X.env whole = (do let v ← whole; standAt e.pos; holding [v] (truthy v)) := by intro _; rfl) : RT X pa W e (tB m) :=
  ⟨(pt_val h.pe he).imp fun σ H Q ⟨ms, os, g, r, z⟩ => Ed.step (P := fun H1 => Tw X.K pa ms os σ H1 Q) r z (fun _ _ _ q k => q.later k) fun v x H1 g1 r1 k1 rep o => by
    cases x with
    | bl b => exact ⟨b, rep_bl rep, o H1 r1 .refl⟩
    | _ => exact o.elim⟩
theorem rt_cmp {op : CmpOp} {r : R2} {ma mb : M Op} {f : D → D → Option D} (ho : OpR X (compareOp op) r) (hf : Op2 X.K r f) (ha : RO X pa W a ma) (hb : RO X pa W b mb) (hm : behindInMarks op b = false) : RT X pa W (.Compare a [op] [b] pos) (tB (e2 ma mb (f2 f))) :=
  ⟨(pt_cmpR ho ha.pe hb.pe hm).imp fun σ H Q ⟨ms, os, g, rl, z⟩ => by
    have z2 := z.bnd
    refine step2 (P := fun H1 d g' => Out (asB d g') (Tw X.K pa ms os σ H1 Q) (Xw X.K pa W ms os σ H1)) rl z2 (fun d g' H H1 q k => q.mono (fun _ _ q => q.later k) fun _ _ q => q.later k) fun v v' d d' H1 g1 r1 q1 q2 o => ?_
    obtain ⟨y, e, o⟩ := o.opt
    refine hf ms os H1 _ v v' d d' y r1.sub r1.dom q1 q2 e fun u H' k rp => ?_
    cases y with
    | bl b => exact ⟨b, rep_bl rp, o H' (r1.kp k) (k.weak fun _ q => q.elim)⟩
    | _ => exact o.elim⟩
theorem rt_not {m : M Bool} (h : RT X pa W a m) : RT X pa W (.UnaryOp .Not a pos) (notM m) :=
  ⟨(pt_not h.pt).imp fun σ H Q ⟨ms, os, g, r, z⟩ => Et.step (P := fun H1 => Tw X.K pa ms os σ H1 Q) r z (fun _ _ _ q k => q.later k) fun x H1 g1 r1 k1 o => o H1 r1 .refl⟩
theorem rw_and1 {m : M Bool} (h : RT X pa W a m) : RW X pa W (.BoolOp .And [a] pos) m := ⟨pw_and1 h.pt⟩
theorem rw_or1 {m : M Bool} (h : RT X pa W a m) : RW X pa W (.BoolOp .Or [a] pos) m := ⟨pw_or1 h.pt⟩
theorem rw_and {m m' : M Bool} (h : RT X pa W a m) (h' : RW X pa W (.BoolOp .And (b :: rest) pos) m') : RW X pa W (.BoolOp .And (a :: b :: rest) pos) (andM m m') :=
  ⟨(pw_and h.pt h'.pw).imp fun σ H Q ⟨ms, os, g, r, z⟩ => Et.step (P := fun H1 => Tw X.K pa ms os σ H1 Q) r z (fun _ _ _ q k => q.later k) fun x H1 g1 r1 k1 o => by
    cases x with
    | true => rw [if_pos rfl]; exact ⟨ms, os, g1, r1, o⟩
    | false => rw [if_neg (by decide)]; exact o H1 r1 .refl⟩
theorem rw_or {m m' : M Bool} (h : RT X pa W a m) (h' : RW X pa W (.BoolOp .Or (b :: rest) pos) m') : RW X pa W (.BoolOp .Or (a :: b :: rest) pos) (orM m m') :=
  ⟨(pw_or h.pt h'.pw).imp fun σ H Q ⟨ms, os, g, r, z⟩ => Et.step (P := fun H1 => Tw X.K pa ms os σ H1 Q) r z (fun _ _ _ q k => q.later k) fun x H1 g1 r1 k1 o => by
    cases x with
    | false => rw [if_neg (by decide)]; exact ⟨ms, os, g1, r1, o⟩
    | true => rw [if_pos rfl]; exact o H1 r1 .refl⟩
theorem rt_rw {m : M Bool} (h : RW X pa W e m) : RT X pa W e m := ⟨h.pw.pt⟩
theorem re_and {m m' : M D} (h : RE X pa W a m) (h' : RE X pa W (.BoolOp .And (b :: rest) pos) m') : RE X pa W (.BoolOp .And (a :: b :: rest) pos) (ite' (tB m) m' (ret (.bl false))) :=
  ⟨(pe_and h.pe h'.pe).imp fun σ H Q ⟨ms, os, g, r, z⟩ => by
    have z2 := z.bnd.bnd
    refine Ed.mk r (z2.mono (fun d g1 o v H1 r1 k1 rep => ?_) fun _ _ q => q)
    cases d with
    | bl b =>
      refine ⟨b, rep_bl rep, ?_⟩
      cases b with
      | true => rw [if_pos rfl]; exact ⟨ms, os, g1, r1, Out.mono (show Out (m' g1) (Vw X.K pa ms os σ H Q) (Xw X.K pa W ms os σ H) from o) (fun _ _ q => Vw.later q k1) fun _ _ q => Xw.later q k1⟩
      | false => rw [if_neg (by decide)]; exact Vw.later o k1 _ H1 r1 .refl (.bl false)
    | _ => exact o.elim⟩
theorem re_or {m m' : M D} (h : RE X pa W a m) (h' : RE X pa W (.BoolOp .Or (b :: rest) pos) m') : RE X pa W (.BoolOp .Or (a :: b :: rest) pos) (ite' (tB m) (ret (.bl true)) m') :=
  ⟨(pe_or h.pe h'.pe).imp fun σ H Q ⟨ms, os, g, r, z⟩ => by
    have z2 := z.bnd.bnd
    refine Ed.mk r (z2.mono (fun d g1 o v H1 r1 k1 rep => ?_) fun _ _ q => q)
    cases d with
    | bl b =>
      refine ⟨b, rep_bl rep, ?_⟩
      cases b with
      | false => rw [if_neg (by decide)]; exact ⟨ms, os, g1, r1, Out.mono (show Out (m' g1) (Vw X.K pa ms os σ H Q) (Xw X.K pa W ms os σ H) from o) (fun _ _ q => Vw.later q k1) fun _ _ q => Xw.later q k1⟩
      | true => rw [if_pos rfl]; exact Vw.later o k1 _ H1 r1 .refl (.bl true)
    | _ => exact o.elim⟩
theorem re_one {op : BoolOp} {m : M D} (h : RE X pa W a m) : RE X pa W (.BoolOp op [a] pos) m := ⟨pe_one h.pe⟩
theorem re_not {m : M D} (h : RE X pa W a m) : RE X pa W (.UnaryOp .Not a pos) (ofB (notM (tB m))) :=
  ⟨(pe_not h.pe).imp fun σ H Q ⟨ms, os, g, r, z⟩ => by
    have z2 := z.bnd.bnd.bnd
    refine Ed.mk r (z2.mono (fun d g1 o v H1 r1 k1 rep => ?_) fun _ _ q => q)
    cases d with
    | bl b => exact ⟨b, rep_bl rep, o _ H1 r1 k1 (.bl (!b))⟩
    | _ => exact o.elim⟩
theorem re_ifExp {m : M Bool} {ma mb : M D} (h : RT X pa W c m) (ha : RE X pa W a ma) (hb : RE X pa W b mb) : RE X pa W (.IfExp c a b pos) (ite' m ma mb) :=
  ⟨(pe_ifExp h.pt ha.pe hb.pe).imp fun σ H Q ⟨ms, os, g, r, z⟩ => Et.step (P := fun H1 => Vw X.K pa ms os σ H1 Q) r z (fun _ _ _ q k => q.later k) fun x H1 g1 r1 k1 o => by
    cases x with
    | true => rw [if_pos rfl]; exact ⟨ms, os, g1, r1, o⟩
    | false => rw [if_neg (by decide)]; exact ⟨ms, os, g1, r1, o⟩⟩
/-! a < b < c -/
def chM (ma mb mc : M Op) (f f' : D → D → Option D) : M D := bnd ma fun x => bnd mb fun y => bnd (ap2 (f2 f) x y) fun k => bnd (asB k) fun t => match t with
  | true => bnd mc fun z => ap2 (f2 f') y z
  | false => ret (.bl false)
theorem re_chain {op op' : CmpOp} {r r' : R2} {ma mb mc : M Op} {f f' : D → D → Option D} (ho : OpR X (compareOp op) r) (ho' : OpR X (compareOp op') r') (hf : Op2 X.K r f) (hf' : Op2 X.K r' f') (ha : RO X pa W a ma) (hb : RO X pa W b mb) (hc : RO X pa W c mc)
    (hm : lastMarks [op, op'] [b, c] = false := by with_unfolding_all rfl) : RE X pa W (.Compare a [op, op'] [b, c] pos) (chM ma mb mc f f') :=
  ⟨(pe_chain ho ho' ha.pe hb.pe hc.pe hm).imp fun σ H Q ⟨ms, os, g, rl, z⟩ => Eo.step (P := fun H1 => Vw X.K pa ms os σ H1 Q) rl z (fun _ _ _ q k => q.later k) fun v x H1 g1 r1 k1 rep o => Eo.step (P := fun H1 => Vw X.K pa ms os σ H1 Q) r1 o (fun _ _ _ q k => q.later k) fun v' y H2 g2 r2 k2 rep2 o2 => by
    obtain ⟨d, d', e1, e2, o3⟩ := o2.bnd.ap2
    obtain ⟨q, e3, o4⟩ := o3.opt
    refine hf ms os H2 _ v v' d d' q r2.sub r2.dom ((rep.keep k2 r2.sub).res r2 e1) (rep2.res r2 e2) e3 fun u H3 k3 rp => ?_
    have o5 := Out.bnd o4
    have r3 := r2.kp k3
    have k3' : Kp os H2 H3 := k3.weak fun _ q => q.elim
    cases q with
    | bl b =>
      refine ⟨b, rep_bl rp, ?_⟩
      cases b with
      | false => rw [if_neg (by decide)]; exact o5 _ H3 r3 k3' (.bl false)
      | true =>
        rw [if_pos rfl]
        have o6 : Out (bnd mc (fun z => ap2 (f2 f') y z) g2) (Vw X.K pa ms os σ H3 Q) (Xw X.K pa W ms os σ H3) := Out.mono o5 (fun _ _ q => Vw.later q k3') fun _ _ q => Xw.later q k3'
        refine Eo.step (P := fun H1 => Vw X.K pa ms os σ H1 Q) r3 o6 (fun _ _ _ q k => q.later k) fun w z H4 g4 r4 k4 rep4 o7 => ?_
        obtain ⟨d, d', e1, e2, o8⟩ := o7.ap2
        obtain ⟨q, e3, o9⟩ := o8.opt
        exact hf' ms os H4 _ v' w d d' q r4.sub r4.dom (((rep2.keep k3' r2.sub).keep k4 r4.sub).res r4 e1) (rep4.res r4 e2) e3 fun u H5 k5 rp => o9 u H5 (r4.kp k5) (k5.weak fun _ q => q.elim) rp
    | _ => exact o5.elim⟩
theorem rt_chain {op op' : CmpOp} {r r' : R2} {ma mb mc : M Op} {f f' : D → D → Option D} (ho : OpR X (compareOp op) r) (ho' : OpR X (compareOp op') r') (hf : Op2 X.K r f) (hf' : Op2 X.K r' f') (ha : RO X pa W a ma) (hb : RO X pa W b mb) (hc : RO X pa W c mc)
    (hm : lastMarks [op, op'] [b, c] = false := by with_unfolding_all rfl) : RT X pa W (.Compare a [op, op'] [b, c] pos) (tB (chM ma mb mc f f')) :=
  ⟨(pt_chain ho ho' ha.pe hb.pe hc.pe hm).imp fun σ H Q ⟨ms, os, g, rl, z⟩ => by
    let P : Hp → D → En → Prop := fun H1 d g' => Out (asB d g') (Tw X.K pa ms os σ H1 Q) (Xw X.K pa W ms os σ H1)
    have hP : ∀ d g' H H1, P H d g' → Kp os H H1 → P H1 d g' := fun d g' H H1 q k => Out.mono q (fun _ _ q => q.later k) fun _ _ q => q.later k
    have z0 := z.bnd
    refine Eo.step (P := P) rl z0 (fun d g' H1 => hP d g' H H1) fun v x H1 g1 r1 k1 rep o => Eo.step (P := P) r1 o (fun d g' H2 => hP d g' H1 H2) fun v' y H2 g2 r2 k2 rep2 o2 => ?_
    obtain ⟨d, d', e1, e2, o3⟩ := o2.bnd.ap2
    obtain ⟨q, e3, o4⟩ := o3.opt
    refine hf ms os H2 _ v v' d d' q r2.sub r2.dom ((rep.keep k2 r2.sub).res r2 e1) (rep2.res r2 e2) e3 fun u H3 k3 rp => ?_
    have o5 := Out.bnd o4
    have r3 := r2.kp k3
    have k3' : Kp os H2 H3 := k3.weak fun _ q => q.elim
    cases q with
    | bl b =>
      refine ⟨b, rep_bl rp, ?_⟩
      cases b with
      | false => rw [if_neg (by decide)]; exact ⟨false, rfl, o5 H3 r3 k3'⟩
      | true =>
        rw [if_pos rfl]
        have o6 : Out (bnd mc (fun z => ap2 (f2 f') y z) g2) (P H3) (Xw X.K pa W ms os σ H3) := Out.mono o5 (fun d g' q => hP d g' H2 H3 q k3') fun _ _ q => Xw.later q k3'
        refine Eo.step (P := P) r3 o6 (fun d g' H4 => hP d g' H3 H4) fun w z H4 g4 r4 k4 rep4 o7 => ?_
        obtain ⟨d, d', e1, e2, o8⟩ := o7.ap2
        obtain ⟨q, e3, o9⟩ := o8.opt
        refine hf' ms os H4 _ v' w d d' q r4.sub r4.dom (((rep2.keep k3' r2.sub).keep k4 r4.sub).res r4 e1) (rep4.res r4 e2) e3 fun u H5 k5 rp => ?_
        cases q with
        | bl b => exact ⟨b, rep_bl rp, o9 H5 (r4.kp k5) (k5.weak fun _ q => q.elim)⟩
        | _ => exact o9.elim
    | _ => exact o5.elim⟩
end
end Mir

namespace Mir
open PySem L2
/-! arguments -/
def eArgs : List (M Op) → M (List Op)
  | [] => ret []
  | m :: ms => bnd m fun x => bnd (eArgs ms) fun xs => ret (x :: xs)
def vls : List Op → Option (List D)
  | [] => some []
  | .d x :: r => match vls r with
    | some ds => some (x :: ds)
    | none => none
  | .o _ :: _ => none
def resL (g : En) : List Op → Option (List D)
  | [] => some []
  | x :: r => match res g x, resL g r with
    | some d, some ds => some (d :: ds)
    | _, _ => none
def anyO : List Op → Bool
  | [] => false
  | .o _ :: _ => true
  | .d _ :: r => anyO r
section
variable {X : Cx} {K : PySem.W.Frag} {pa : Nat → Option Addr} {W : WX} {ms os : Addr → Prop} {σ : L2.St} {H H' : Hp} {g : En} {pos : Pos} {e : Expr} {es : List Expr}
theorem Paired.keepO {vs : List V} {xs : List Op} (r : Paired (RepO K ms σ H) vs xs) (k : Kp os H H') (hs : ∀ a, os a → ms a) : Paired (RepO K ms σ H') vs xs := Paired.mapP r fun _ _ q => q.keep k hs
theorem ra_nil : RA X pa W [] (eArgs []) := ⟨pa_nil.imp fun σ H Q ⟨ms, os, g, r, z⟩ => z [] H r .refl .nil⟩
theorem ra_cons {m : M Op} {ms' : List (M Op)} (h : RO X pa W e m) (t : RA X pa W es (eArgs ms')) (hs : starEach (e :: es) X.env = (false, eval e X.env) :: starEach es X.env := by rfl) : RA X pa W (e :: es) (eArgs (m :: ms')) :=
  ⟨(pa_cons h.pe t.pa hs).imp fun σ H Q ⟨ms, os, g, r, z⟩ => by
    let P : Hp → List Op → En → Prop := fun H1 xs g' => ∀ vs H', Rl X.K pa ms os σ H' g' → Kp os H1 H' → Paired (RepO X.K ms σ H') vs xs → Q vs H'
    have hP : ∀ d g' H H1, P H d g' → Kp os H H1 → P H1 d g' := fun d g' H H1 q k vs H' r' k' rep => q vs H' r' (k.trans k') rep
    exact Eo.step (P := P) r z (fun d g' H1 => hP d g' H H1) fun v x H1 g1 r1 k1 rep o => Ea.step (P := P) r1 o (fun d g' H2 => hP d g' H1 H2) fun vs xs H2 g2 r2 k2 rep2 o2 => o2 (v :: vs) H2 r2 .refl (.cons (rep.keep k2 r1.sub) rep2)⟩
theorem vls_ok : ∀ {xs : List Op} {vs : List V} {ds : List D}, Paired (RepO K ms σ H) vs xs → vls xs = some ds → RepL K ms H vs ds
  | [], _, _, .nil, e => by cases e; exact .nil
  | .d x :: r, _, _, .cons a l, e => by
    unfold vls at e
    cases h : vls r with
    | none => rw [h] at e; cases e
    | some ds => rw [h] at e; cases e; exact .cons a (vls_ok l h)
  | .o i :: r, _, _, .cons a l, e => by cases e
/-- with own objects among them -/
def mc (ms os : Addr → Prop) : Addr → Prop := fun a => ms a ∧ ¬ os a
theorem mc_ms {H : Hp} : ∀ a, mc ms os a → ms a ∨ H a = none := fun _ q => .inl q.1
theorem resL_ok : ∀ {xs : List Op} {vs : List V} {ds : List D}, Rl K pa ms os σ H g → Paired (RepO K ms σ H) vs xs → resL g xs = some ds → RepL K (mc ms os) H vs ds
  | [], _, _, _, .nil, e => by cases e; exact .nil
  | x :: r, _, _, rl, .cons a l, e => by
    unfold resL at e
    cases h : res g x with
    | none => rw [h] at e; cases e
    | some d =>
      cases h2 : resL g r with
      | none => rw [h, h2] at e; cases e
      | some ds =>
        rw [h, h2] at e; cases e
        refine .cons ?_ (resL_ok rl l h2)
        rcases a.res rl h with q | ⟨p, vs, xs, rfl, h3, rfl, h4, h5⟩
        · exact q.anti mc_ms
        · exact .lst (fun z => z.2 h3) h4 (h5.anti mc_ms)
theorem resL_vls : ∀ {xs : List Op} {vs : List V} {ds : List D}, Paired (RepO K ms σ H) vs xs → anyO xs = false → resL g xs = some ds → RepL K ms H vs ds
  | [], _, _, .nil, _, e => by cases e; exact .nil
  | .d x :: r, _, _, .cons a l, n, e => by
    unfold resL at e
    cases h2 : resL g r with
    | none => rw [h2] at e; cases e
    | some ds => rw [h2] at e; cases e; exact .cons a (resL_vls l n h2)
  | .o i :: r, _, _, .cons a l, n, e => by cases n
end
mutual
/-- no list within -/
def D.flat : D → Bool
  | .tup xs => D.flats xs
  | .lst _ => false
  | .frl _ => false
  | _ => true
def D.flats : List D → Bool
  | [] => true
  | d :: ds => D.flat d && D.flats ds
end
section
variable {K : PySem.W.Frag} {ms ms' : Addr → Prop} {H : Hp}
mutual
theorem Rep.flat : ∀ {v : V} {d : D}, Rep K ms H v d → d.flat = true → Rep K ms' H v d
  | _, .non, r, _ => by cases r; exact .non
  | _, .bl _, r, _ => by cases r; exact .bl _
  | _, .int _, r, _ => by cases r; exact .int _
  | _, .str _, r, _ => by cases r; exact .str _
  | _, .ref _, r, _ => by cases r; exact .ref _
  | _, .ty _, r, _ => by cases r; exact .ty _
  | _, .tup xs, r, e => by cases r with | tup s l => exact .tup s (RepL.flat l e)
  | _, .lst _, r, e => by cases e
  | _, .frl xs, r, e => by cases e
theorem RepL.flat : ∀ {v : List V} {d : List D}, RepL K ms H v d → D.flats d = true → RepL K ms' H v d
  | _, [], r, _ => by cases r; exact .nil
  | _, d :: ds, r, e => by
    cases r with
    | cons a l =>
      obtain ⟨h1, h2⟩ := Bool.and_eq_true_iff.mp (show (D.flat d && D.flats ds) = true from e)
      exact .cons (Rep.flat a h1) (RepL.flat l h2)
end
end
/-! displays -/
def tupM (xs : List Op) : M D := match vls xs with
  | some ds => if ds.length ≤ 65536 then ret (.tup ds) else bad
  | none => bad
def lstM (xs : List Op) : M (List D) := match vls xs with
  | some ds => if ds.length ≤ 65536 then ret ds else bad
  | none => bad
theorem le_size {n : Nat} (h : n ≤ 65536) : n ≤ sizeLine := Nat.le_trans h (by decide)
/-- a new list -/
def plus (ms : Addr → Prop) (p : Addr) : Addr → Prop := fun a => ms a ∨ a = p
def Nw (K : PySem.W.Frag) (pa : Nat → Option Addr) (ms os : Addr → Prop) (σ : L2.St) (H : Hp) (Q : VK) : List D → En → Prop := fun xs g' => ∀ p vs H', H p = none → H' p = some (.lst vs) → Rl K pa (plus ms p) os σ H' g' → Kp os H H' → RepL K (plus ms p) H' vs xs → Q (.ref p) H'
def Enw (K : PySem.W.Frag) (pa : Nat → Option Addr) (W : WX) (m : M (List D)) : TE := fun σ H Q => ∃ ms os g, Rl K pa ms os σ H g ∧ Out (m g) (Nw K pa ms os σ H Q) (Xw K pa W ms os σ H)
structure RN (X : Cx) (pa : Nat → Option Addr) (W : WX) (e : Expr) (m : M (List D)) : Prop where
  pe : PE X e (Enw X.K pa W m)
section
variable {X : Cx} {K : PySem.W.Frag} {pa : Nat → Option Addr} {W : WX} {ms os : Addr → Prop} {σ : L2.St} {H H' : Hp} {g : En} {pos : Pos} {e : Expr} {es : List Expr}
theorem Rl.less {ms' : Addr → Prop} (r : Rl K pa ms' os σ H g) (h : ∀ a, ms a → ms' a) (ho : ∀ a, os a → ms a) : Rl K pa ms os σ H g where
  va := fun i d e => let ⟨v, h1, h2⟩ := r.va i d e; ⟨v, h1, h2.anti fun a q => .inl (h a q)⟩
  mo := fun i m e => by
    obtain ⟨p, h1, h2, h3⟩ := r.mo i m e
    refine ⟨p, h1, h2, ?_⟩
    cases m with
    | ls xs =>
      obtain ⟨vs, e1, e2⟩ := h3
      exact ⟨vs, e1, e2.anti fun a q => .inl (h a q)⟩
  ap := r.ap
  pm := r.pm
  pk := r.pk
  len := r.len
  sub := ho
  dom := fun a q => r.dom a (h a q)
theorem re_rn {m : M (List D)} (h : RN X pa W e m) : RE X pa W e (bnd m fun xs => ret (.lst xs)) :=
  ⟨h.pe.imp fun σ H Q ⟨ms, os, g, r, z⟩ => ⟨ms, os, g, r, z.bnd.mono (fun xs g1 o p vs H' hp e r1 k rep =>
    o _ H' (r1.less (fun a q => .inl q) r.sub) k (.lst (fun q => r.dom p q hp) e (rep.anti fun a q => .inl (.inl q)))) fun _ _ q => q⟩⟩
/-- laid anew -/
theorem Rl.laid {p : Addr} {vs : List V} (r : Rl K pa ms os σ H g) (h : H p = none) : Rl K pa (plus ms p) os σ (upd H p (.lst vs)) g :=
  r.grow (.new h) (fun a q => q.imp id fun e => by rw [e]; exact h) (fun _ q => .inl q) fun a q => by
    rcases q with q | q
    · intro e
      by_cases hp : a = p
      · subst hp; rw [upd_same] at e; cases e
      · rw [upd_ne hp] at e; exact r.dom a q e
    · subst q; rw [upd_same]; exact fun z => nomatch z
theorem re_tup {m : M (List Op)} {k : Nat} (h : RA X pa W es m) : RE X pa W (.Tuple es k pos) (bnd m tupM) :=
  ⟨(pe_tup h.pa).imp fun σ H Q ⟨ms, os, g, r, z⟩ => Ea.step (P := fun H1 => Vw X.K pa ms os σ H1 Q) r z (fun _ _ _ q k => q.later k) fun vs xs H1 g1 r1 k1 rep o => by
    unfold tupM at o
    cases e : vls xs with
    | none => rw [e] at o; exact o.elim
    | some ds =>
      rw [e] at o
      have rl := vls_ok rep e
      by_cases hl : ds.length ≤ 65536
      · have o : Out ((if ds.length ≤ 65536 then ret (.tup ds) else bad : M D) g1) (Vw X.K pa ms os σ H1 Q) (Xw X.K pa W ms os σ H1) := o
        rw [if_pos hl] at o
        refine ⟨by rw [rl.length]; exact le_size hl, fun p hp => ?_⟩
        obtain ⟨k, rp⟩ := new_tup hp rl
        exact o _ _ (r1.kp k) (k.weak fun _ q => q.elim) rp
      · have o : Out ((if ds.length ≤ 65536 then ret (.tup ds) else bad : M D) g1) (Vw X.K pa ms os σ H1 Q) (Xw X.K pa W ms os σ H1) := o
        rw [if_neg hl] at o
        exact o.elim⟩
theorem rn_lst {m : M (List Op)} (h : RA X pa W es m) : RN X pa W (.List es pos) (bnd m lstM) :=
  ⟨(pe_lst h.pa).imp fun σ H Q ⟨ms, os, g, r, z⟩ => Ea.step (P := fun H1 => Nw X.K pa ms os σ H1 Q) r z (fun xs g' H1 q k p vs H' hp e r' k' rep => q p vs H' (k.2 p hp) e r' (k.trans k') rep) fun vs xs H1 g1 r1 k1 rep o => by
    unfold lstM at o
    cases e : vls xs with
    | none => rw [e] at o; exact o.elim
    | some ds =>
      rw [e] at o
      have rl := vls_ok rep e
      have o : Out ((if ds.length ≤ 65536 then ret ds else bad : M (List D)) g1) (Nw X.K pa ms os σ H1 Q) (Xw X.K pa W ms os σ H1) := o
      by_cases hl : ds.length ≤ 65536
      · rw [if_pos hl] at o
        refine ⟨by rw [rl.length]; exact le_size hl, fun p hp => ?_⟩
        exact o p vs _ hp upd_same (r1.laid hp) (.new hp) (rl.move (W := NoW) (.new hp) (fun _ q => q.elim) fun a q => q.imp id fun z => by rw [z]; exact hp)
      · rw [if_neg hl] at o
        exact o.elim⟩
end
end Mir

namespace Mir
open PySem L2
/-! calls of defs -/
inductive Fd where
  | ok (d : D) | new (xs : List D) | ex (x : Xn) | bad
inductive Fm where
  | ok (d : D) (m : Mo) | new (xs : List D) (m : Mo) | ex (x : Xn) (m : Mo) | bad
def Xn.flat (x : Xn) : Bool := match x.fs with
  | none => true
  | some fs => D.flats (fs.map (·.2))
/-- a def of data alone -/
def spD (K : PySem.W.Frag) (n : Nat) (f : List D → Fd) : Sp := fun vs H Q E => ∃ ms ds, (∀ a, ms a → H a ≠ none) ∧ RepL K ms H vs ds ∧ ds.length = n ∧ match f ds with
  | .ok d => ∀ v H', Kp NoW H H' → Rep K ms H' v d → Q v H'
  | .new xs => ∀ p vs H', H p = none → H' p = some (.lst vs) → Kp NoW H H' → RepL K (plus ms p) H' vs xs → Q (.ref p) H'
  | .ex x => ∀ c dx H', Kp NoW H H' → XRep K ms H' x c dx → E c dx H'
  | .bad => False
/-- a def that changes the object of its first parameter -/
def spM (K : PySem.W.Frag) (n : Nat) (f : Mo → List D → Fm) : Sp := fun vs H Q E => ∃ ms p m ws ds, vs = .ref p :: ws ∧ ms p ∧ (∀ a, ms a → H a ≠ none) ∧ MRep K ms H p m ∧ RepL K ms H ws ds ∧ ds.length + 1 = n ∧ match f m ds with
  | .ok d m' => ∀ v H', Kp (fun a => a = p) H H' → MRep K ms H' p m' → Rep K ms H' v d → Q v H'
  | .new xs m' => ∀ q vs H', H q = none → H' q = some (.lst vs) → Kp (fun a => a = p) H H' → MRep K (plus ms q) H' p m' → RepL K (plus ms q) H' vs xs → Q (.ref q) H'
  | .ex x m' => ∀ c dx H', Kp (fun a => a = p) H H' → MRep K ms H' p m' → XRep K ms H' x c dx → E c dx H'
  | .bad => False
def callF (n : Nat) (f : List D → Fd) (dfl : List D) (xs : List Op) : M D := fun g => match resL g xs with
  | none => .bad
  | some ds => if ds.length + dfl.length = n then match f (ds ++ dfl) with
    | .ok d => if anyO xs && !d.flat then .bad else .ok d g
    | .new ys => if anyO xs && !D.flats ys then .bad else .ok (.lst ys) g
    | .ex x => if anyO xs && !x.flat then .bad else .ex x g
    | .bad => .bad
    else .bad
/-- the call of a def that hands back a new list -/
def callN (n : Nat) (f : List D → Fd) (dfl : List D) (xs : List Op) : M (List D) := fun g => match resL g xs with
  | none => .bad
  | some ds => if ds.length + dfl.length = n then match f (ds ++ dfl) with
    | .new ys => if anyO xs && !D.flats ys then .bad else .ok ys g
    | .ex x => if anyO xs && !x.flat then .bad else .ex x g
    | _ => .bad
    else .bad
def setMo (g : En) (i : Nat) (m : Mo) : En := g.set i (match gt g i with
  | .ow _ => .ow m
  | .pm _ => .pm m
  | s => s)
def callM (n : Nat) (f : Mo → List D → Fm) (dfl : List D) : List Op → M D
  | .o i :: xs => fun g => match (gt g i).mo, vls xs with
    | some m, some ds => if ds.length + dfl.length + 1 = n then match f m (ds ++ dfl) with
      | .ok d m' => .ok d (setMo g i m')
      | .new ys m' => .ok (.lst ys) (setMo g i m')
      | .ex x m' => .ex x (setMo g i m')
      | .bad => .bad
      else .bad
    | _, _ => .bad
  | _ => bad
def callMN (n : Nat) (f : Mo → List D → Fm) (dfl : List D) : List Op → M (List D)
  | .o i :: xs => fun g => match (gt g i).mo, vls xs with
    | some m, some ds => if ds.length + dfl.length + 1 = n then match f m (ds ++ dfl) with
      | .new ys m' => .ok ys (setMo g i m')
      | .ex x m' => .ex x (setMo g i m')
      | _ => .bad
      else .bad
    | _, _ => .bad
  | _ => bad
theorem gt_set {g : En} {i j : Nat} {s : Sl} : gt (g.set i s) j = if i = j ∧ i < g.length then s else gt g j := by
  rw [gt_eq, gt_eq, List.getElem?_set]
  by_cases h : i = j
  · subst h
    by_cases h2 : i < g.length
    · simp [h2]
    · simp [h2]
  · simp [h]
theorem gt_len {g : En} {i : Nat} (h : gt g i ≠ .no) : i < g.length := by
  rw [gt_eq] at h
  by_cases h2 : i < g.length
  · exact h2
  · rw [List.getElem?_eq_none (by omega)] at h; exact absurd rfl h
section
variable {X : Cx} {K : PySem.W.Frag} {pa : Nat → Option Addr} {W : WX} {ms ms' os : Addr → Prop} {σ : L2.St} {H H' : Hp} {g : En} {pos p : Pos} {e : Expr} {es : List Expr}
theorem XRep.flat {x : Xn} {c : Value} {dx : Option Addr} (h : XRep K ms H x c dx) (f : x.flat = true) : XRep K ms' H x c dx := by
  obtain ⟨h1, h2⟩ := h
  refine ⟨h1, ?_⟩
  unfold Xn.flat at f
  cases hf : x.fs with
  | none => rw [hf] at h2; exact h2
  | some fs =>
    rw [hf] at h2 f
    obtain ⟨a, vs, e1, e2, e3, e4⟩ := h2
    exact ⟨a, vs, e1, e2, e3, e4.flat f⟩
theorem Kp.now {W : Addr → Prop} (k : Kp NoW H H') : Kp W H H' := k.weak fun _ q => q.elim
theorem mo_of {s : Sl} {m : Mo} (h : s.mo = some m) : s = .ow m ∨ s = .pm m := by
  cases s with
  | ow x => cases h; exact .inl rfl
  | pm x => cases h; exact .inr rfl
  | no => cases h
  | va d => cases h
theorem MRep.keep {W : Addr → Prop} {p : Addr} {m : Mo} (r : MRep K ms H p m) (k : Kp W H H') (hw : ∀ a, W a → ms a) (hp : ¬ W p) : MRep K ms H' p m := by
  cases m with
  | ls xs =>
    obtain ⟨vs, e1, e2⟩ := r
    exact ⟨vs, k.1 p _ e1 fun q => absurd q hp, e2.keep k hw⟩
/-- the object of slot i has changed -/
theorem Rl.setMo2 {i : Nat} {m m' : Mo} {p : Addr} {Wr : Addr → Prop} (r : Rl K pa ms os σ H g) (hi : (gt g i).mo = some m) (hp : σ[i]? = some (some (.ref p))) (k : Kp Wr H H') (hwm : ∀ a, Wr a → ms a) (hwo : ∀ j m2 a, (gt g j).mo = some m2 → σ[j]? = some (some (.ref a)) → Wr a → j = i) (hm : MRep K ms H' p m') : Rl K pa ms os σ H' (setMo g i m') := by
  have hlen : i < g.length := gt_len fun z => by rw [z] at hi; cases hi
  obtain ⟨q, q1, q2, q3⟩ := r.mo i m hi
  have hpq : q = p := by rw [hp] at q1; cases q1; rfl
  subst hpq
  have key : ∀ j, gt (Mir.setMo g i m') j = if i = j then (match gt g i with | .ow _ => .ow m' | .pm _ => .pm m' | s => s) else gt g j := fun j => by
    unfold Mir.setMo
    rw [gt_set]
    by_cases h : i = j
    · rw [if_pos ⟨h, hlen⟩, if_pos h]
    · rw [if_neg (fun z => h z.1), if_neg h]
  have keyi : (gt (Mir.setMo g i m') i).mo = some m' := by
    rw [key, if_pos rfl]
    rcases mo_of hi with e | e <;> rw [e] <;> rfl
  have back : ∀ j m2, (gt (Mir.setMo g i m') j).mo = some m2 → ∃ m3, (gt g j).mo = some m3 ∧ (j ≠ i → m3 = m2) := fun j m2 e => by
    by_cases h : i = j
    · subst h; exact ⟨m, hi, fun z => absurd rfl z⟩
    · rw [key, if_neg h] at e; exact ⟨m2, e, fun _ => rfl⟩
  refine ⟨fun j d e => ?_, fun j m2 e => ?_, fun j l m2 m3 p2 e1 e2 e3 e4 => ?_, fun j m2 p2 e1 e2 => ?_, fun j p2 e1 => ?_, by unfold Mir.setMo; rw [List.length_set]; exact r.len, r.sub, fun a q e => r.dom a q (k.2 a e)⟩
  · have h : i ≠ j := by
      rintro rfl
      have := keyi
      rw [e] at this; cases this
    rw [key, if_neg h] at e
    obtain ⟨v, h1, h2⟩ := r.va j d e
    exact ⟨v, h1, h2.keep k hwm⟩
  · by_cases h : i = j
    · subst h
      rw [keyi] at e; cases e
      exact ⟨q, hp, q2, hm⟩
    · rw [key, if_neg h] at e
      obtain ⟨p2, h1, h2, h3⟩ := r.mo j m2 e
      exact ⟨p2, h1, h2, h3.keep k hwm fun z => h (hwo j m2 p2 e h1 z).symm⟩
  · obtain ⟨n1, f1, _⟩ := back j m2 e1
    obtain ⟨n2, f2, _⟩ := back l m3 e2
    exact r.ap j l n1 n2 p2 f1 f2 e3 e4
  · by_cases h : i = j
    · subst h
      rw [key, if_pos rfl] at e1
      rcases mo_of hi with z | z
      · rw [z] at e1; cases e1
      · exact r.pm i m p2 z e2
    · rw [key, if_neg h] at e1
      exact r.pm j m2 p2 e1 e2
  · obtain ⟨m2, h1, h2⟩ := r.pk j p2 e1
    by_cases h : i = j
    · subst h
      exact ⟨m', by rw [key, if_pos rfl, h1], h2⟩
    · exact ⟨m2, by rw [key, if_neg h]; exact h1, h2⟩
theorem Rl.setMo {i : Nat} {m m' : Mo} {p : Addr} (r : Rl K pa ms os σ H g) (hi : (gt g i).mo = some m) (hp : σ[i]? = some (some (.ref p))) (k : Kp (fun a => a = p) H H') (hm : MRep K ms H' p m') : Rl K pa ms os σ H' (setMo g i m') := by
  obtain ⟨q, q1, q2, q3⟩ := r.mo i m hi
  have hpq : q = p := by rw [hp] at q1; cases q1; rfl
  subst hpq
  exact r.setMo2 hi hp k (fun a e => by rw [e]; exact r.sub _ q2) (fun j m2 a h1 h2 h3 => r.ap j i m2 m a h1 hi h2 (by rw [h3]; exact hp)) hm
variable {CX : CXT} {k : Nat} {f : Addr} {fd : FuncData} {ps : List Str} {dvs : List V} {ds : List Value} {x : Str}
theorem re_call {n : Nat} {F : List D → Fd} {dfl : List D} {m : M (List Op)} (hF : FnG X.prog X.w X.K X.mg X.base (L2.CX X.prog X.w) k f fd ps (spD X.K n F)) (gd : X.A.guards = some []) (hr : Room k X.A) (tk : Takes X W) (hg : Gl X x) (hm : X.mg x = some (.ref f)) (hk : PySem.W.keepIn X.K (.ref f) = true)
    (hb : Binds X.K fd ps ds) (hd : Vals dvs ds) (hdf : ∀ ms H, RepL X.K ms H dvs dfl) (ha : RA X pa W (e :: es) m) (hdb : (x == ("__debug__" : Str)) = false := by decide) (he : starEach (e :: es) X.env = (false, eval e X.env) :: starEach es X.env := by rfl)
    (hpl : (backTo pos (starEach es X.env)).any (·.1) = false := by rfl) : RE X pa W (.Call (.Name x p) (e :: es) [] pos) (bnd m (callF n F dfl)) :=
  ⟨(pe_callG hF gd hr hg hm hk hb hd (fun σ => passAt tk σ) ha.pa hdb he hpl).imp fun σ H Q ⟨ms, os, g, r, z⟩ => Ea.step (P := fun H1 => Vw X.K pa ms os σ H1 Q) r z (fun _ _ _ q k => q.later k) fun vs xs H1 g1 r1 k1 rep o => by
    unfold callF at o
    cases e1 : resL g1 xs with
    | none => rw [e1] at o; exact o.elim
    | some ds =>
      rw [e1] at o
      simp only at o
      by_cases hl : ds.length + dfl.length = n
      · rw [if_pos hl] at o
        by_cases ho : anyO xs = true
        · refine ⟨mc ms os, ds ++ dfl, fun a q => r1.dom a q.1, (resL_ok r1 rep e1).append (hdf _ _), by rw [List.length_append]; exact hl, ?_⟩
          cases ef : F (ds ++ dfl) with
          | ok d =>
            rw [ef] at o
            simp only [ho, Bool.true_and] at o
            intro v H2 k2 rp
            cases hfl : d.flat with
            | true => rw [hfl] at o; exact o v H2 (r1.kp k2) k2.now (rp.flat hfl)
            | false => rw [hfl] at o; exact o.elim
          | new ys =>
            rw [ef] at o
            simp only [ho, Bool.true_and] at o
            intro p vs H2 hp e k2 rp
            cases hfl : D.flats ys with
            | true => rw [hfl] at o; exact o _ H2 (r1.kp k2) k2.now (.lst (fun q => r1.dom p q hp) e (rp.flat hfl))
            | false => rw [hfl] at o; exact o.elim
          | ex x =>
            rw [ef] at o
            simp only [ho, Bool.true_and] at o
            intro c dx H2 k2 xr
            cases hfl : x.flat with
            | true => rw [hfl] at o; exact o c dx H2 (r1.kp k2) k2.now (xr.flat hfl)
            | false => rw [hfl] at o; exact o.elim
          | bad => rw [ef] at o; exact o
        · have ho : anyO xs = false := by simpa using ho
          refine ⟨ms, ds ++ dfl, r1.dom, (resL_vls rep ho e1).append (hdf _ _), by rw [List.length_append]; exact hl, ?_⟩
          cases ef : F (ds ++ dfl) with
          | ok d =>
            rw [ef] at o
            simp only [ho, Bool.false_and] at o
            exact fun v H2 k2 rp => o v H2 (r1.kp k2) k2.now rp
          | new ys =>
            rw [ef] at o
            simp only [ho, Bool.false_and] at o
            exact fun p vs H2 hp e k2 rp => o _ H2 (r1.kp k2) k2.now (.lst (fun q => r1.dom p q hp) e (rp.anti fun a z => .inl (.inl z)))
          | ex x =>
            rw [ef] at o
            simp only [ho, Bool.false_and] at o
            exact fun c dx H2 k2 xr => o c dx H2 (r1.kp k2) k2.now xr
          | bad => rw [ef] at o; exact o
      · rw [if_neg hl] at o
        exact o.elim⟩
theorem re_callM {n : Nat} {F : Mo → List D → Fm} {dfl : List D} {m : M (List Op)} (hF : FnG X.prog X.w X.K X.mg X.base (L2.CX X.prog X.w) k f fd ps (spM X.K n F)) (gd : X.A.guards = some []) (hr : Room k X.A) (tk : Takes X W) (hg : Gl X x) (hm : X.mg x = some (.ref f)) (hk : PySem.W.keepIn X.K (.ref f) = true)
    (hb : Binds X.K fd ps ds) (hd : Vals dvs ds) (hdf : ∀ ms H, RepL X.K ms H dvs dfl) (ha : RA X pa W (e :: es) m) (hdb : (x == ("__debug__" : Str)) = false := by decide) (he : starEach (e :: es) X.env = (false, eval e X.env) :: starEach es X.env := by rfl)
    (hpl : (backTo pos (starEach es X.env)).any (·.1) = false := by rfl) : RE X pa W (.Call (.Name x p) (e :: es) [] pos) (bnd m (callM n F dfl)) :=
  ⟨(pe_callG hF gd hr hg hm hk hb hd (fun σ => passAt tk σ) ha.pa hdb he hpl).imp fun σ H Q ⟨ms, os, g, r, z⟩ => Ea.step (P := fun H1 => Vw X.K pa ms os σ H1 Q) r z (fun _ _ _ q k => q.later k) fun vs xs H1 g1 r1 k1 rep o => by
    cases rep with
    | nil => exact o.elim
    | @cons v x vs xs rx rxs =>
      cases x with
      | d y => exact o.elim
      | o i =>
        simp only [callM] at o
        cases e1 : (gt g1 i).mo with
        | none => rw [e1] at o; exact o.elim
        | some m0 =>
          cases e2 : vls xs with
          | none => rw [e1, e2] at o; exact o.elim
          | some ds =>
            rw [e1, e2] at o
            simp only at o
            obtain ⟨q, q1, q2, q3⟩ := r1.mo i m0 e1
            have rx : σ[i]? = some (some v) := rx
            rw [q1] at rx
            cases rx
            have hwm : ∀ a, a = q → os a := fun a e => by rw [e]; exact q2
            by_cases hl : ds.length + dfl.length + 1 = n
            · rw [if_pos hl] at o
              refine ⟨ms, q, m0, vs ++ dvs, ds ++ dfl, rfl, r1.sub _ q2, r1.dom, q3, (vls_ok rxs e2).append (hdf _ _), by rw [List.length_append]; exact hl, ?_⟩
              cases ef : F m0 (ds ++ dfl) with
              | ok d m' =>
                rw [ef] at o
                exact fun v H2 k2 hm rp => o v H2 (r1.setMo e1 q1 k2 hm) (k2.weak hwm) rp
              | new ys m' =>
                rw [ef] at o
                intro p vs H2 hp e k2 hm rp
                have hm' : MRep X.K ms H2 q m' := by
                  cases m' with
                  | ls zs =>
                    obtain ⟨ws, w1, w2⟩ := hm
                    exact ⟨ws, w1, w2.anti fun a z => .inl (.inl z)⟩
                exact o _ H2 (r1.setMo e1 q1 k2 hm') (k2.weak hwm) (.lst (fun z => r1.dom p z hp) e (rp.anti fun a z => .inl (.inl z)))
              | ex x m' =>
                rw [ef] at o
                exact fun c dx H2 k2 hm xr => o c dx H2 (r1.setMo e1 q1 k2 hm) (k2.weak hwm) xr
              | bad => rw [ef] at o; exact o
            · rw [if_neg hl] at o
              exact o.elim⟩
theorem rn_call {n : Nat} {F : List D → Fd} {dfl : List D} {m : M (List Op)} (hF : FnG X.prog X.w X.K X.mg X.base (L2.CX X.prog X.w) k f fd ps (spD X.K n F)) (gd : X.A.guards = some []) (hr : Room k X.A) (tk : Takes X W) (hg : Gl X x) (hm : X.mg x = some (.ref f)) (hk : PySem.W.keepIn X.K (.ref f) = true)
    (hb : Binds X.K fd ps ds) (hd : Vals dvs ds) (hdf : ∀ ms H, RepL X.K ms H dvs dfl) (ha : RA X pa W (e :: es) m) (hdb : (x == ("__debug__" : Str)) = false := by decide) (he : starEach (e :: es) X.env = (false, eval e X.env) :: starEach es X.env := by rfl)
    (hpl : (backTo pos (starEach es X.env)).any (·.1) = false := by rfl) : RN X pa W (.Call (.Name x p) (e :: es) [] pos) (bnd m (callN n F dfl)) :=
  ⟨(pe_callG hF gd hr hg hm hk hb hd (fun σ => passAt tk σ) ha.pa hdb he hpl).imp fun σ H Q ⟨ms, os, g, r, z⟩ => Ea.step (P := fun H1 => Nw X.K pa ms os σ H1 Q) r z (fun xs g' H1 q k p vs H' hp e r' k' rep => q p vs H' (k.2 p hp) e r' (k.trans k') rep) fun vs xs H1 g1 r1 k1 rep o => by
    unfold callN at o
    cases e1 : resL g1 xs with
    | none => rw [e1] at o; exact o.elim
    | some ds =>
      rw [e1] at o
      simp only at o
      by_cases hl : ds.length + dfl.length = n
      · rw [if_pos hl] at o
        have gr : ∀ {p : Addr} {vs : List V} {H2 : Hp}, H1 p = none → H2 p = some (.lst vs) → Kp NoW H1 H2 → Rl X.K pa (plus ms p) os σ H2 g1 := fun {p vs H2} hp e k2 => r1.grow k2 (fun a z => z.imp id fun z => by rw [z]; exact hp) (fun a z => .inl z) fun a z e' => z.elim (fun z => r1.dom a z (k2.2 a e')) fun z => by rw [z, e] at e'; cases e'
        by_cases ho : anyO xs = true
        · refine ⟨mc ms os, ds ++ dfl, fun a q => r1.dom a q.1, (resL_ok r1 rep e1).append (hdf _ _), by rw [List.length_append]; exact hl, ?_⟩
          cases ef : F (ds ++ dfl) with
          | ok d => rw [ef] at o; exact o.elim
          | new ys =>
            rw [ef] at o
            simp only [ho, Bool.true_and] at o
            intro p vs H2 hp e k2 rp
            cases hfl : D.flats ys with
            | true => rw [hfl] at o; exact o p vs H2 hp e (gr hp e k2) k2.now (rp.flat hfl)
            | false => rw [hfl] at o; exact o.elim
          | ex x =>
            rw [ef] at o
            simp only [ho, Bool.true_and] at o
            intro c dx H2 k2 xr
            cases hfl : x.flat with
            | true => rw [hfl] at o; exact o c dx H2 (r1.kp k2) k2.now (xr.flat hfl)
            | false => rw [hfl] at o; exact o.elim
          | bad => rw [ef] at o; exact o
        · have ho : anyO xs = false := by simpa using ho
          refine ⟨ms, ds ++ dfl, r1.dom, (resL_vls rep ho e1).append (hdf _ _), by rw [List.length_append]; exact hl, ?_⟩
          cases ef : F (ds ++ dfl) with
          | ok d => rw [ef] at o; exact o.elim
          | new ys =>
            rw [ef] at o
            simp only [ho, Bool.false_and] at o
            exact fun p vs H2 hp e k2 rp => o p vs H2 hp e (gr hp e k2) k2.now rp
          | ex x =>
            rw [ef] at o
            simp only [ho, Bool.false_and] at o
            exact fun c dx H2 k2 xr => o c dx H2 (r1.kp k2) k2.now xr
          | bad => rw [ef] at o; exact o
      · rw [if_neg hl] at o
        exact o.elim⟩
theorem rn_callM {n : Nat} {F : Mo → List D → Fm} {dfl : List D} {m : M (List Op)} (hF : FnG X.prog X.w X.K X.mg X.base (L2.CX X.prog X.w) k f fd ps (spM X.K n F)) (gd : X.A.guards = some []) (hr : Room k X.A) (tk : Takes X W) (hg : Gl X x) (hm : X.mg x = some (.ref f)) (hk : PySem.W.keepIn X.K (.ref f) = true)
    (hb : Binds X.K fd ps ds) (hd : Vals dvs ds) (hdf : ∀ ms H, RepL X.K ms H dvs dfl) (ha : RA X pa W (e :: es) m) (hdb : (x == ("__debug__" : Str)) = false := by decide) (he : starEach (e :: es) X.env = (false, eval e X.env) :: starEach es X.env := by rfl)
    (hpl : (backTo pos (starEach es X.env)).any (·.1) = false := by rfl) : RN X pa W (.Call (.Name x p) (e :: es) [] pos) (bnd m (callMN n F dfl)) :=
  ⟨(pe_callG hF gd hr hg hm hk hb hd (fun σ => passAt tk σ) ha.pa hdb he hpl).imp fun σ H Q ⟨ms, os, g, r, z⟩ => Ea.step (P := fun H1 => Nw X.K pa ms os σ H1 Q) r z (fun xs g' H1 q k p vs H' hp e r' k' rep => q p vs H' (k.2 p hp) e r' (k.trans k') rep) fun vs xs H1 g1 r1 k1 rep o => by
    cases rep with
    | nil => exact o.elim
    | @cons v x vs xs rx rxs =>
      cases x with
      | d y => exact o.elim
      | o i =>
        simp only [callMN] at o
        cases e1 : (gt g1 i).mo with
        | none => rw [e1] at o; exact o.elim
        | some m0 =>
          cases e2 : vls xs with
          | none => rw [e1, e2] at o; exact o.elim
          | some ds =>
            rw [e1, e2] at o
            simp only at o
            obtain ⟨q, q1, q2, q3⟩ := r1.mo i m0 e1
            have rx : σ[i]? = some (some v) := rx
            rw [q1] at rx
            cases rx
            have hwm : ∀ a, a = q → os a := fun a e => by rw [e]; exact q2
            by_cases hl : ds.length + dfl.length + 1 = n
            · rw [if_pos hl] at o
              refine ⟨ms, q, m0, vs ++ dvs, ds ++ dfl, rfl, r1.sub _ q2, r1.dom, q3, (vls_ok rxs e2).append (hdf _ _), by rw [List.length_append]; exact hl, ?_⟩
              cases ef : F m0 (ds ++ dfl) with
              | ok d m' => rw [ef] at o; exact o.elim
              | new ys m' =>
                rw [ef] at o
                intro p vs H2 hp e k2 hm rp
                have hpo : ¬ p = q := fun z => r1.dom q (r1.sub q q2) (by rw [← z]; exact hp)
                -- the new list is kept apart first
                have r1' : Rl X.K pa (plus ms p) os σ (upd H1 p (.lst [])) g1 := r1.laid hp
                have k2' : Kp (fun a => a = q ∨ a = p) (upd H1 p (.lst [])) H2 := ⟨fun a o' ea f => by
                    by_cases ha : a = p
                    · subst ha
                      rw [upd_same] at ea; cases ea
                      exact (f (.inr rfl)).elim
                    · rw [upd_ne ha] at ea
                      exact k2.1 a o' ea fun z => f (.inl z), fun a ea => by
                    have h1 := k2.2 a ea
                    by_cases ha : a = p
                    · subst ha; rw [e] at ea; cases ea
                    · rw [upd_ne ha]; exact h1⟩
                exact o p vs H2 hp e (r1'.setMo2 e1 q1 k2' (fun a z => z.elim (fun z => by rw [z]; exact .inl (r1.sub q q2)) fun z => .inr z) (fun j m3 a h3 h4 z => z.elim (fun z => r1.ap j i m3 m0 q h3 e1 (by rw [← z]; exact h4) q1) fun z => by
                    obtain ⟨b, b1, b2, _⟩ := r1.mo j m3 h3
                    rw [h4] at b1; cases b1
                    exact absurd hp (by rw [← z]; exact r1.dom _ (r1.sub _ b2))) hm) (k2.weak hwm) rp
              | ex x m' =>
                rw [ef] at o
                exact fun c dx H2 k2 hm xr => o c dx H2 (r1.setMo e1 q1 k2 hm) (k2.weak hwm) xr
              | bad => rw [ef] at o; exact o
            · rw [if_neg hl] at o
              exact o.elim⟩
/-! built-in functions and types -/
def apL {α : Type} (f : List D → Option α) (xs : List Op) : M α := fun g => match resL g xs with
  | some ds => opt (f ds) g
  | none => .bad
/-- what a built-in call is to do on data; RepB of each argument -/
def OpN (K : PySem.W.Frag) (r : List V → Hp → VK → Prop) (f : List D → Option D) : Prop := ∀ (ms os : Addr → Prop) (H : Hp) (Q : VK) (vs : List V) (xs : List D) (z : D), (∀ a, os a → ms a) → (∀ a, ms a → H a ≠ none) → Paired (RepB K ms os H) vs xs → f xs = some z →
  (∀ u H', Kp NoW H H' → Rep K ms H' u z → Q u H') → r vs H Q
theorem resB : ∀ {xs : List Op} {vs : List V} {ds : List D}, Rl K pa ms os σ H g → Paired (RepO K ms σ H) vs xs → resL g xs = some ds → Paired (RepB K ms os H) vs ds
  | [], _, _, _, .nil, e => by cases e; exact .nil
  | x :: r, _, _, rl, .cons a l, e => by
    unfold resL at e
    cases h : res g x with
    | none => rw [h] at e; cases e
    | some d =>
      cases h2 : resL g r with
      | none => rw [h, h2] at e; cases e
      | some ds => rw [h, h2] at e; cases e; exact .cons (a.res rl h) (resB rl l h2)
theorem builtin_run {r : List V → Hp → VK → Prop} {F : List D → Option D} (hF : OpN K r F) {m : M (List Op)} {Q : VK} (rl : Rl K pa ms os σ H g) (z : Out (bnd m (apL F) g) (Vw K pa ms os σ H Q) (Xw K pa W ms os σ H)) : Ea K pa W m σ H fun vs H1 => r vs H1 Q :=
  Ea.step (P := fun H1 => Vw K pa ms os σ H1 Q) rl z (fun _ _ _ q k => q.later k) fun vs xs H1 g1 r1 k1 rep o => by
    unfold apL at o
    cases e1 : resL g1 xs with
    | none => rw [e1] at o; exact o.elim
    | some ds =>
      rw [e1] at o
      obtain ⟨y, e2, o⟩ := Out.opt o
      exact hF ms os H1 Q vs ds y r1.sub r1.dom (resB r1 rep e1) e2 fun u H' k rp => o u H' (r1.kp k) k.now rp
theorem re_callB {id : String} {r : List V → Hp → VK → Prop} {F : List D → Option D} {m : M (List Op)} (hc : CallR X (.builtin id) r) (hF : OpN X.K r F) (hg : Gl X x) (hm : X.mg x = none) (hv : bootBuiltins x = some (.builtin id)) (ha : RA X pa W (e :: es) m) (hn : x ≠ "__name__" := by decide) (hdb : (x == ("__debug__" : Str)) = false := by decide)
    (he : starEach (e :: es) X.env = (false, eval e X.env) :: starEach es X.env := by rfl) (hpl : (backTo pos (starEach es X.env)).any (·.1) = false := by rfl) : RE X pa W (.Call (.Name x p) (e :: es) [] pos) (bnd m (apL F)) :=
  ⟨(pe_callB hc hg hm hv ha.pa hn hdb he hpl).imp fun σ H Q ⟨ms, os, g, r, z⟩ => builtin_run hF r z⟩
theorem re_callTy {id : String} {r : List V → Hp → VK → Prop} {F : List D → Option D} {m : M (List Op)} (hc : CallR X (.type id) r) (hF : OpN X.K r F) (hg : Gl X x) (hm : X.mg x = none) (hv : bootBuiltins x = some (.type id)) (ha : RA X pa W (e :: es) m) (hn : x ≠ "__name__" := by decide) (hdb : (x == ("__debug__" : Str)) = false := by decide)
    (he : starEach (e :: es) X.env = (false, eval e X.env) :: starEach es X.env := by rfl) (hpl : (backTo pos (starEach es X.env)).any (·.1) = false := by rfl) : RE X pa W (.Call (.Name x p) (e :: es) [] pos) (bnd m (apL F)) :=
  ⟨(pe_callTy hc hg hm hv ha.pa hn hdb he hpl).imp fun σ H Q ⟨ms, os, g, r, z⟩ => builtin_run hF r z⟩
theorem re_un {op : UnaryOp} {r : V → Hp → VK → Prop} {F : D → Option D} {m : M Op} (ho : UnR X (unaryOp op) r) (hF : OpN X.K (fun vs H Q => ∃ v, vs = [v] ∧ r v H Q) (fun ds => match ds with | [d] => F d | _ => none)) (ha : RO X pa W e m) : RE X pa W (.UnaryOp op e pos) (e1 m (f1 F)) :=
  ⟨(pe_un ho ha.pe).imp fun σ H Q ⟨ms, os, g, rl, z⟩ => step1 (P := fun H1 => Vw X.K pa ms os σ H1 Q) rl z (fun _ _ _ _ q k => q.later k) fun v d H1 g1 r1 q1 o => by
    obtain ⟨y, e, o⟩ := o.opt
    obtain ⟨w, hw, q⟩ := hF ms os H1 Q [v] [d] y r1.sub r1.dom (.cons q1 .nil) e fun u H' k rp => o u H' (r1.kp k) k.now rp
    cases hw
    exact q⟩
end
end Mir

namespace Mir
open PySem L2
inductive Ro where
  | nx (g : En) | rt (s : Sl) (g : En) | bk (g : En) | ct (g : En) | ex (x : Xn) (g : En) | bad
abbrev Ms := En → Ro
structure Ks (ms os : Addr → Prop) (H : Hp) (ms' os' : Addr → Prop) (H' : Hp) : Prop where
  kp : Kp os H H'
  up : ∀ a, ms a → ms' a
  og : ∀ a, os' a → os a ∨ H a = none
  mg : ∀ a, ms' a → ms a ∨ H a = none
theorem Ks.trans {ms os ms1 os1 ms2 os2 : Addr → Prop} {H H1 H2 : Hp} (a : Ks ms os H ms1 os1 H1) (b : Ks ms1 os1 H1 ms2 os2 H2) : Ks ms os H ms2 os2 H2 :=
  ⟨a.kp.fresh b.kp a.og, fun p q => b.up p (a.up p q), fun p q => (b.og p q).elim (a.og p) fun e => .inr (a.kp.2 p e), fun p q => (b.mg p q).elim (a.mg p) fun e => .inr (a.kp.2 p e)⟩
theorem Ks.same {ms os : Addr → Prop} {H H1 : Hp} (k : Kp os H H1) : Ks ms os H ms os H1 := ⟨k, fun _ q => q, fun _ q => .inl q, fun _ q => .inl q⟩
def RepS (K : PySem.W.Frag) (pa : Nat → Option Addr) (ms os : Addr → Prop) (H : Hp) (v : V) : Sl → Prop
  | .va d => Rep K ms H v d
  | .ow m => ∃ p, v = .ref p ∧ os p ∧ MRep K ms H p m ∧ ∀ i, pa i ≠ some p
  | _ => False
def Fin (K : PySem.W.Frag) (pa : Nat → Option Addr) (W : WX) (D : Ends) (ms os : Addr → Prop) (H : Hp) : Ro → Prop
  | .nx g => ∀ ms' os' σ' H', Rl K pa ms' os' σ' H' g → Ks ms os H ms' os' H' → D.nx σ' H'
  | .bk g => ∀ ms' os' σ' H', Rl K pa ms' os' σ' H' g → Ks ms os H ms' os' H' → D.bk σ' H'
  | .ct g => ∀ ms' os' σ' H', Rl K pa ms' os' σ' H' g → Ks ms os H ms' os' H' → D.ct σ' H'
  | .rt s g => ∀ ms' os' σ' H' v, Rl K pa ms' os' σ' H' g → Ks ms os H ms' os' H' → RepS K pa ms' os' H' v s → D.rt v H'
  | .ex x g => ∀ ms' os' σ' H' c dx, Rl K pa ms' os' σ' H' g → Ks ms os H ms' os' H' → XRep K ms' H' x c dx → W c dx σ' H'
  | .bad => False
def Sx (K : PySem.W.Frag) (pa : Nat → Option Addr) (W : WX) (m : Ms) : TS := fun D σ H => ∃ ms os g, Rl K pa ms os σ H g ∧ Fin K pa W D ms os H (m g)
structure RS (X : Cx) (pa : Nat → Option Addr) (W : WX) (st : Stmt) (m : Ms) : Prop where
  ps : PS X st (Sx X.K pa W m)
structure RSs (X : Cx) (pa : Nat → Option Addr) (W : WX) (st : List Stmt) (m : Ms) : Prop where
  ps : PSs X st (Sx X.K pa W m)
/-- from an expression on -/
def thenE {α : Type} (m : M α) (f : α → En → Ro) : Ms := fun g => match m g with
  | .ok a g' => f a g'
  | .ex x g' => .ex x g'
  | .bad => .bad
section
variable {X : Cx} {K : PySem.W.Frag} {pa : Nat → Option Addr} {W : WX} {ms ms' os os' ms1 os1 : Addr → Prop} {σ : L2.St} {H H' H1 : Hp} {g : En} {pos p : Pos} {e : Expr} {es : List Expr} {Z : Ends}
theorem Fin.later {r : Ro} (h : Fin K pa W Z ms os H r) (k : Ks ms os H ms1 os1 H1) : Fin K pa W Z ms1 os1 H1 r := by
  cases r with
  | nx g => exact fun ms' os' σ' H' rl k' => h ms' os' σ' H' rl (k.trans k')
  | bk g => exact fun ms' os' σ' H' rl k' => h ms' os' σ' H' rl (k.trans k')
  | ct g => exact fun ms' os' σ' H' rl k' => h ms' os' σ' H' rl (k.trans k')
  | rt s g => exact fun ms' os' σ' H' v rl k' => h ms' os' σ' H' v rl (k.trans k')
  | ex x g => exact fun ms' os' σ' H' c dx rl k' => h ms' os' σ' H' c dx rl (k.trans k')
  | bad => exact h
theorem thenE.out {α : Type} {m : M α} {f : α → En → Ro} (h : Fin K pa W Z ms os H (thenE m f g)) : Out (m g) (fun a g' => Fin K pa W Z ms os H (f a g')) (Xw K pa W ms os σ H) := by
  unfold thenE at h
  cases e : m g with
  | ok a g' => rw [e] at h; exact h
  | ex x g' => rw [e] at h; exact fun c dx H' rl k xr => h ms os σ H' c dx rl (.same k) xr
  | bad => rw [e] at h; exact h
def sQ (a b : Ms) : Ms := fun g => match a g with
  | .nx g' => b g'
  | o => o
def sNil : Ms := fun g => .nx g
variable {st : Stmt} {sts : List Stmt} {a b : Ms}
theorem rss_nil : RSs X pa W [] sNil := ⟨pss_nil.imp fun D σ H ⟨ms, os, g, r, z⟩ => z ms os σ H r (.same .refl)⟩
theorem rss_one (h : RS X pa W st a) : RSs X pa W [st] a := ⟨pss_one h.ps⟩
theorem rss_cons (h : RS X pa W st a) (t : RSs X pa W sts b) : RSs X pa W (st :: sts) (sQ a b) :=
  ⟨(pss_cons h.ps t.ps).imp fun D σ H ⟨ms, os, g, r, z⟩ => ⟨ms, os, g, r, by
    unfold sQ at z
    cases e : a g with
    | nx g1 => rw [e] at z; exact fun ms1 os1 σ1 H1 r1 k1 => ⟨ms1, os1, g1, r1, z.later k1⟩
    | rt s g1 => rw [e] at z; exact z
    | bk g1 => rw [e] at z; exact z
    | ct g1 => rw [e] at z; exact z
    | ex x g1 => rw [e] at z; exact z
    | bad => rw [e] at z; exact z⟩⟩
def sPass : Ms := fun g => .nx g
def sBrk : Ms := fun g => .bk g
def sCnt : Ms := fun g => .ct g
def sBad : Ms := fun _ => .bad
theorem rs_pass : RS X pa W (.Pass pos) sPass := ⟨ps_pass.imp fun D σ H ⟨ms, os, g, r, z⟩ => z ms os σ H r (.same .refl)⟩
theorem rs_break : RS X pa W (.Break pos) sBrk := ⟨ps_break.imp fun D σ H ⟨ms, os, g, r, z⟩ => z ms os σ H r (.same .refl)⟩
theorem rs_continue : RS X pa W (.Continue pos) sCnt := ⟨ps_continue.imp fun D σ H ⟨ms, os, g, r, z⟩ => z ms os σ H r (.same .refl)⟩
theorem rs_bad : RS X pa W st sBad := ⟨ps_never.imp fun D σ H ⟨ms, os, g, r, z⟩ => z.elim⟩
/-- an expression, its value dropped -/
def sExp {α : Type} (m : M α) : Ms := thenE m fun _ g => .nx g
theorem rs_exp {m : M D} (h : RE X pa W e m) (hs : swapsWith e none pos.line X.env = pure false := by rfl) : RS X pa W (.Expr e pos) (sExp m) :=
  ⟨(ps_expr h.pe hs).imp fun D σ H ⟨ms, os, g, r, z⟩ => ⟨ms, os, g, r, (thenE.out z).mono (fun d g1 q v H1 r1 k1 rep => q ms os σ H1 r1 (.same k1)) fun _ _ q => q⟩⟩
def sRet (m : M Op) : Ms := thenE m fun x g => match x with
  | .d d => .rt (.va d) g
  | .o i => match gt g i with
    | .ow mo => .rt (.ow mo) g
    | _ => .bad
theorem rs_ret {m : M Op} (h : RO X pa W e m) : RS X pa W (.Return (some e) pos) (sRet m) :=
  ⟨(ps_ret h.pe).imp fun D σ H ⟨ms, os, g, r, z⟩ => ⟨ms, os, g, r, (thenE.out z).mono (fun x g1 q v H1 r1 k1 rep => by
    cases x with
    | d d => exact q ms os σ H1 v r1 (.same k1) rep
    | o i =>
      simp only at q
      cases e1 : gt g1 i with
      | ow mo =>
        rw [e1] at q
        obtain ⟨p, h1, h2, h3⟩ := r1.mo i mo (by rw [e1]; rfl)
        have rep : σ[i]? = some (some v) := rep
        rw [h1] at rep; cases rep
        refine q ms os σ H1 _ r1 (.same k1) ⟨p, rfl, h2, h3, fun j hj => ?_⟩
        obtain ⟨m2, h4, h5⟩ := r1.pk j p hj
        have := r1.ap i j mo m2 p (by rw [e1]; rfl) (by rw [h4]; rfl) h1 h5
        subst this
        rw [e1] at h4; cases h4
      | no => rw [e1] at q; exact q.elim
      | va d => rw [e1] at q; exact q.elim
      | pm mo => rw [e1] at q; exact q.elim) fun _ _ q => q⟩⟩
/-- a new list handed back -/
def sRetW (m : M (List D)) : Ms := thenE m fun xs g => .rt (.ow (.ls xs)) g
theorem rs_retW {m : M (List D)} (h : RN X pa W e m) : RS X pa W (.Return (some e) pos) (sRetW m) :=
  ⟨(ps_ret h.pe).imp fun D σ H ⟨ms, os, g, r, z⟩ => ⟨ms, os, g, r, (thenE.out z).mono (fun xs g1 q p vs H1 hp e r1 k1 rep => by
    have nos : ¬ os p := fun o => r.dom p (r.sub p o) hp
    have r2 : Rl X.K pa (plus ms p) (plus os p) σ H1 g1 := ⟨r1.va, fun i m e => let ⟨a, h1, h2, h3⟩ := r1.mo i m e; ⟨a, h1, .inl h2, h3⟩, r1.ap, r1.pm, r1.pk, r1.len, fun a z => z.elim (fun z => r1.sub a z) fun z => .inr z, r1.dom⟩
    refine q (plus ms p) (plus os p) σ H1 _ r2 ⟨k1, fun a z => .inl z, fun a z => z.imp id fun z => by rw [z]; exact hp, fun a z => z.imp id fun z => by rw [z]; exact hp⟩ ⟨p, rfl, .inr rfl, ⟨vs, e, rep⟩, fun i hi => ?_⟩
    obtain ⟨m, h1, h2⟩ := r1.pk i p hi
    obtain ⟨a, h3, h4, _⟩ := r1.mo i m (by rw [h1]; rfl)
    rw [h2] at h3; cases h3
    exact nos h4) fun _ _ q => q⟩⟩
def sRetN : Ms := fun g => .rt (.va .non) g
theorem rs_retN : RS X pa W (.Return none pos) sRetN := ⟨ps_retN.imp fun D σ H ⟨ms, os, g, r, z⟩ => z ms os σ H .non r (.same .refl) .non⟩
def sIf (c : M Bool) (a b : Ms) : Ms := thenE c fun k g => match k with
  | true => a g
  | false => b g
theorem rs_if {c : Expr} {s1 s2 : List Stmt} {m : M Bool} (hc : RT X pa W c m) (ha : RSs X pa W s1 a) (hb : RSs X pa W s2 b) : RS X pa W (.If c s1 s2 pos) (sIf m a b) :=
  ⟨(ps_if hc.pt ha.ps hb.ps).imp fun D σ H ⟨ms, os, g, r, z⟩ => ⟨ms, os, g, r, (thenE.out z).mono (fun k g1 q H1 r1 k1 => by
    cases k with
    | true => rw [if_pos rfl]; exact ⟨ms, os, g1, r1, Fin.later q (.same k1)⟩
    | false => rw [if_neg (by decide)]; exact ⟨ms, os, g1, r1, Fin.later q (.same k1)⟩) fun _ _ q => q⟩⟩
/-! targets -/
abbrev Tg := D → En → Option En
/-- off the slots at is nothing changes -/
def Off (is : List Nat) (σ σ' : L2.St) : Prop := σ'.length = σ.length ∧ ∀ j, j ∉ is → σ'[j]? = σ[j]?
def Gx (K : PySem.W.Frag) (pa : Nat → Option Addr) (is : List Nat) (t : Tg) : TG := fun v σ H Q => ∃ ms os g d g', Rl K pa ms os σ H g ∧ Rep K ms H v d ∧ t d g = some g' ∧ ∀ σ' H', Off is σ σ' → Rl K pa ms os σ' H' g' → Kp os H H' → Q σ' H'
def Gxs (K : PySem.W.Frag) (pa : Nat → Option Addr) (is : List Nat) (t : List D → En → Option En) : TGs := fun vs σ H Q => ∃ ms os g d g', Rl K pa ms os σ H g ∧ RepL K ms H vs d ∧ t d g = some g' ∧ ∀ σ' H', Off is σ σ' → Rl K pa ms os σ' H' g' → Kp os H H' → Q σ' H'
structure RG (X : Cx) (pa : Nat → Option Addr) (tg : Expr) (is : List Nat) (t : Tg) : Prop where
  pg : PG X tg (Gx X.K pa is t)
structure RGs (X : Cx) (pa : Nat → Option Addr) (tg : List Expr) (is : List Nat) (t : List D → En → Option En) : Prop where
  pg : PGs X tg (Gxs X.K pa is t)
theorem Off.refl {is : List Nat} {σ : L2.St} : Off is σ σ := ⟨rfl, fun _ _ => rfl⟩
theorem Off.trans {is js : List Nat} {σ σ1 σ2 : L2.St} (a : Off is σ σ1) (b : Off js σ1 σ2) : Off (is ++ js) σ σ2 := ⟨b.1.trans a.1, fun j h => (b.2 j fun q => h (List.mem_append_right _ q)).trans (a.2 j fun q => h (List.mem_append_left _ q))⟩
theorem Off.set {i : Nat} {σ : L2.St} {v : Option V} : Off [i] σ (σ.set i v) := ⟨List.length_set, fun j h => List.getElem?_set_ne fun e => h (by rw [e]; exact List.mem_singleton.mpr rfl)⟩
theorem _root_.L2.PGs.imp {X : Cx} {e : List Expr} {t t' : TGs} (h : PGs X e t) (q : ∀ v σ H Q, t' v σ H Q → t v σ H Q) : PGs X e t' := ⟨fun pins s σ H v u Q I r z => h.run pins s σ H v u Q I r (q v σ H Q z)⟩
def setV (g : En) (i : Nat) (d : D) : Option En := match gt g i with
  | .pm _ => none
  | _ => some (g.set i (.va d))
def tName (i : Nat) : Tg := fun d g => setV g i d
theorem set_get {α : Type} {l : List α} {i j : Nat} {x : α} (h : i ≠ j) : (l.set i x)[j]? = l[j]? := List.getElem?_set_ne h
theorem Rl.setV {i : Nat} {d : D} {v : V} {g' : En} (r : Rl K pa ms os σ H g) (h : setV g i d = some g') (rep : Rep K ms H v d) : Rl K pa ms os (σ.set i (some v)) H g' := by
  unfold Mir.setV at h
  have np : ∀ m, gt g i ≠ .pm m := fun m e => by rw [e] at h; cases h
  have hg' : g' = g.set i (.va d) := by
    cases e : gt g i with
    | pm m => exact absurd e (np m)
    | no => rw [e] at h; cases h; rfl
    | va d => rw [e] at h; cases h; rfl
    | ow d => rw [e] at h; cases h; rfl
  subst hg'
  have key : ∀ j, gt (g.set i (.va d)) j = if i = j ∧ i < g.length then .va d else gt g j := fun j => gt_set
  have mo : ∀ j m, (gt (g.set i (.va d)) j).mo = some m → i ≠ j ∧ (gt g j).mo = some m := fun j m e => by
    rw [key] at e
    by_cases h : i = j ∧ i < g.length
    · rw [if_pos h] at e; cases e
    · rw [if_neg h] at e
      refine ⟨fun z => ?_, e⟩
      subst z
      exact h ⟨rfl, gt_len fun z => by rw [z] at e; cases e⟩
  refine ⟨fun j d' e => ?_, fun j m e => ?_, fun j l m m' q e1 e2 e3 e4 => ?_, fun j m q e1 e2 => ?_, fun j q e => ?_, ?_, r.sub, r.dom⟩
  · rw [key] at e
    by_cases h : i = j ∧ i < g.length
    · rw [if_pos h] at e; cases e
      obtain ⟨rfl, hl⟩ := h
      exact ⟨v, List.getElem?_set_self (Nat.lt_of_lt_of_le hl r.len), rep⟩
    · rw [if_neg h] at e
      have hij : i ≠ j := fun z => by
        subst z
        exact h ⟨rfl, gt_len fun z => by rw [z] at e; cases e⟩
      rw [set_get hij]
      exact r.va j d' e
  · obtain ⟨h1, h2⟩ := mo j m e
    rw [set_get h1]
    exact r.mo j m h2
  · obtain ⟨h1, h2⟩ := mo j m e1
    obtain ⟨h3, h4⟩ := mo l m' e2
    rw [set_get h1] at e3
    rw [set_get h3] at e4
    exact r.ap j l m m' q h2 h4 e3 e4
  · obtain ⟨h1, h2⟩ := mo j m (by rw [e1]; rfl)
    rw [set_get h1] at e2
    have e1' : gt g j = .pm m := by rw [key, if_neg (fun z => h1 z.1)] at e1; exact e1
    exact r.pm j m q e1' e2
  · obtain ⟨m, h1, h2⟩ := r.pk j q e
    have hij : i ≠ j := fun z => by subst z; exact np m h1
    exact ⟨m, by rw [key, if_neg (fun z => hij z.1)]; exact h1, by rw [set_get hij]; exact h2⟩
  · rw [List.length_set, List.length_set]; exact r.len
theorem rg_name {i : Nat} {x : Str} (hN : X.N.Nodup) (hi : X.N[i]? = some x) (hx : Loc X.env.scope x) (hf : X.fn x = true ∨ X.env.scope.names.lookup x = some .local := by first | exact .inl rfl | exact .inr rfl | assumption) : RG X pa (.Name x pos) [i] (tName i) :=
  ⟨(pg_name hN hi hx hf).imp fun v σ H Q ⟨ms, os, g, d, g', r, rep, e, q⟩ => q _ H .set (r.setV e rep) .refl⟩
def tNil : List D → En → Option En
  | [], g => some g
  | _ :: _, _ => none
def tCons (t : Tg) (u : List D → En → Option En) : List D → En → Option En
  | d :: ds, g => (t d g).bind (u ds)
  | [], _ => none
theorem rgs_nil : RGs X pa [] [] tNil := ⟨pgs_nil.imp fun v σ H Q ⟨ms, os, g, d, g', r, rep, e, q⟩ => by
  cases rep with
  | nil => cases e; exact ⟨rfl, q σ H .refl r .refl⟩
  | cons a l => cases e⟩
theorem rgs_cons {is js : List Nat} {t : Tg} {u : List D → En → Option En} (h1 : RG X pa e is t) (h2 : RGs X pa es js u) (hs : (assignEach (e :: es) X.env).map (·.2) = assign e X.env :: (assignEach es X.env).map (·.2) := by rfl) : RGs X pa (e :: es) (is ++ js) (tCons t u) :=
  ⟨(pgs_cons h1.pg h2.pg hs).imp fun v σ H Q ⟨ms, os, g, d, g', r, rep, e, q⟩ => by
    cases rep with
    | nil => cases e
    | @cons v d vs ds a l =>
      obtain ⟨g1, e1, e2⟩ := Option.bind_eq_some_iff.mp e
      exact ⟨v, vs, rfl, ms, os, g, d, g1, r, a, e1, fun σ1 H1 f1 r1 k1 => ⟨ms, os, g1, ds, g', r1, l.keep k1 r1.sub, e2, fun σ2 H2 f2 r2 k2 => q σ2 H2 (f1.trans f2) r2 (k1.trans k2)⟩⟩⟩
def tTup (n : Nat) (u : List D → En → Option En) : Tg := fun d g => match d with
  | .tup ds => if ds.length = n then u ds g else none
  | .lst ds => if ds.length = n then u ds g else none
  | _ => none
def gBoth (K : PySem.W.Frag) (n : Nat) (t : TGs) : TG := fun v σ H Q => gTup K n t v σ H Q ∨ gUnl K n t v σ H Q
theorem pg_both {k n : Nat} {t : TGs} (hc : X.calm = true) (h : PGs X es t) (hn : (assignEach es X.env).length = n) (hst : (assignEach es X.env).findIdx? (·.1) = none) : PG X (.Tuple es k pos) (gBoth X.K n t) :=
  ⟨fun pins s σ H v u Q I r hw => hw.elim (fun z => (pg_tup hc h hn hst).run pins s σ H v u Q I r z) fun z => (pg_unl hc h hn hst).run pins s σ H v u Q I r z⟩
theorem rg_tup {k n : Nat} {is : List Nat} {u : List D → En → Option En} (hc : X.calm = true) (h : RGs X pa es is u) (hn : (assignEach es X.env).length = n := by rfl) (hst : (assignEach es X.env).findIdx? (·.1) = none := by rfl) : RG X pa (.Tuple es k pos) is (tTup n u) :=
  ⟨(pg_both hc h.pg hn hst).imp fun v σ H Q ⟨ms, os, g, d, g', r, rep, e, q⟩ => by
    unfold tTup at e
    split at e
    · split at e
      · rename_i ds hl
        cases rep with
        | tup s l => exact .inl ⟨_, _, rfl, s, by rw [l.length]; exact hl, ms, os, g, ds, g', r, l, e, q⟩
      · cases e
    · split at e
      · rename_i ds hl
        cases rep with
        | lst n s l => exact .inr ⟨_, _, rfl, SqL.of s, by rw [l.length]; exact hl, ms, os, g, ds, g', r, l, e, q⟩
      · cases e
    · cases e⟩
def sAsg (m : M D) (t : Tg) : Ms := thenE m fun d g => match t d g with
  | some g' => .nx g'
  | none => .bad
theorem rs_asg {tg : Expr} {is : List Nat} {m : M D} {t : Tg} (he : RE X pa W e m) (hg : RG X pa tg is t) (hs : swapsWithSole [tg] e pos.line X.env = pure false := by rfl) (hw : swappedStores [tg] e X.env = pure none := by rfl)
    (h1 : (assignEach [tg] X.env).map (·.2) = [assign tg X.env] := by rfl) : RS X pa W (.Assign [tg] e pos) (sAsg m t) :=
  ⟨(ps_asg he.pe hg.pg hs hw h1).imp fun D σ H ⟨ms, os, g, r, z⟩ => ⟨ms, os, g, r, (thenE.out z).mono (fun d g1 q v H1 r1 k1 rep => by
    cases e1 : t d g1 with
    | none => simp only [e1] at q; exact q.elim
    | some g2 =>
      simp only [e1] at q
      exact ⟨ms, os, g1, d, g2, r1, rep, e1, fun σ2 H2 f2 r2 k2 => q ms os σ2 H2 r2 (.same (k1.trans k2))⟩) fun _ _ q => q⟩⟩
end
end Mir

namespace Mir
open PySem L2
section
variable {X : Cx} {K : PySem.W.Frag} {pa : Nat → Option Addr} {W : WX} {ms ms' os os' ms1 os1 : Addr → Prop} {σ : L2.St} {H H' H1 : Hp} {g : En} {pos p : Pos} {e : Expr} {es : List Expr} {Z : Ends}
/-! own objects -/
def setO (g : En) (i : Nat) (m : Mo) : Option En := match gt g i with
  | .pm _ => none
  | _ => some (g.set i (.ow m))
theorem Rl.setO {i : Nat} {q : Addr} {m : Mo} {g' : En} (r : Rl K pa (plus ms q) os σ H g) (h : setO g i m = some g') (hq : ¬ os q) (hi : i < g.length) (rep : MRep K (plus ms q) H q m) : Rl K pa (plus ms q) (plus os q) (σ.set i (some (.ref q))) H g' := by
  unfold Mir.setO at h
  have np : ∀ m, gt g i ≠ .pm m := fun m e => by rw [e] at h; cases h
  have hg' : g' = g.set i (.ow m) := by
    cases e : gt g i with
    | pm m => exact absurd e (np m)
    | no => rw [e] at h; cases h; rfl
    | va d => rw [e] at h; cases h; rfl
    | ow d => rw [e] at h; cases h; rfl
  subst hg'
  have key : ∀ j, gt (g.set i (.ow m)) j = if i = j then .ow m else gt g j := fun j => by
    rw [gt_set]
    by_cases h : i = j
    · rw [if_pos ⟨h, hi⟩, if_pos h]
    · rw [if_neg (fun z => h z.1), if_neg h]
  have hs : i < σ.length := Nat.lt_of_lt_of_le hi r.len
  have old : ∀ j m2, i ≠ j → (gt (g.set i (.ow m)) j).mo = some m2 → (gt g j).mo = some m2 := fun j m2 n e => by rw [key, if_neg n] at e; exact e
  refine ⟨fun j d e => ?_, fun j m2 e => ?_, fun j l m2 m3 a e1 e2 e3 e4 => ?_, fun j m2 a e1 e2 => ?_, fun j a e => ?_, ?_, ?_, r.dom⟩
  · by_cases h : i = j
    · rw [key, if_pos h] at e; cases e
    · rw [key, if_neg h] at e
      rw [set_get h]
      exact r.va j d e
  · by_cases h : i = j
    · subst h
      rw [key, if_pos rfl] at e; cases e
      exact ⟨q, List.getElem?_set_self hs, .inr rfl, rep⟩
    · rw [set_get h]
      obtain ⟨a, h1, h2, h3⟩ := r.mo j m2 (old j m2 h e)
      exact ⟨a, h1, .inl h2, h3⟩
  · by_cases h : i = j
    · by_cases h2 : i = l
      · rw [← h, ← h2]
      · subst h
        rw [List.getElem?_set_self hs] at e3
        rw [set_get h2] at e4
        cases e3
        obtain ⟨a, f1, f2, f3⟩ := r.mo l m3 (old l m3 h2 e2)
        rw [e4] at f1; cases f1
        exact absurd f2 hq
    · by_cases h2 : i = l
      · subst h2
        rw [List.getElem?_set_self hs] at e4
        rw [set_get h] at e3
        cases e4
        obtain ⟨a, f1, f2, f3⟩ := r.mo j m2 (old j m2 h e1)
        rw [e3] at f1; cases f1
        exact absurd f2 hq
      · rw [set_get h] at e3
        rw [set_get h2] at e4
        exact r.ap j l m2 m3 a (old j m2 h e1) (old l m3 h2 e2) e3 e4
  · by_cases h : i = j
    · rw [key, if_pos h] at e1; cases e1
    · rw [key, if_neg h] at e1
      rw [set_get h] at e2
      exact r.pm j m2 a e1 e2
  · obtain ⟨m2, h1, h2⟩ := r.pk j a e
    have h : i ≠ j := fun z => by subst z; exact np m2 h1
    exact ⟨m2, by rw [key, if_neg h]; exact h1, by rw [set_get h]; exact h2⟩
  · rw [List.length_set, List.length_set]; exact r.len
  · exact fun a z => z.elim (fun z => r.sub a z) fun z => .inr z
def sNew (i : Nat) (m : M (List D)) : Ms := thenE m fun xs g => if i < g.length then match setO g i (.ls xs) with
  | some g' => .nx g'
  | none => .bad
  else .bad
theorem new_fin {i : Nat} {m : M (List D)} (r : Rl K pa ms os σ H g) (z : Fin K pa W Z ms os H (sNew i m g)) : Out (m g) (Nw K pa ms os σ H fun v H1 => Z.nx (σ.set i (some v)) H1) (Xw K pa W ms os σ H) :=
  (thenE.out z).mono (fun xs g1 q p vs H1 hp e r1 k1 rep => by
    by_cases hi : i < g1.length
    · rw [if_pos hi] at q
      cases e1 : setO g1 i (.ls xs) with
      | none => rw [e1] at q; exact q.elim
      | some g2 =>
        rw [e1] at q
        have nos : ¬ os p := fun o => r.dom p (r.sub p o) hp
        exact q (plus ms p) (plus os p) _ H1 (r1.setO e1 nos hi ⟨vs, e, rep⟩) ⟨k1, fun a z => .inl z, fun a z => z.imp id fun z => by rw [z]; exact hp, fun a z => z.imp id fun z => by rw [z]; exact hp⟩
    · rw [if_neg hi] at q
      exact q.elim) fun _ _ q => q
theorem rs_new {i : Nat} {x : Str} {m : M (List D)} {pos' : Pos} (hN : X.N.Nodup) (hi : X.N[i]? = some x) (hx : Loc X.env.scope x) (he : RN X pa W e m) (hs : swapsWith e (some (.Name x pos')) pos.line X.env = pure false := by rfl)
    (hf : X.fn x = true ∨ X.env.scope.names.lookup x = some .local := by first | exact .inl rfl | exact .inr rfl | assumption) : RS X pa W (.Assign [.Name x pos'] e pos) (sNew i m) :=
  ⟨(ps_set hN hi hx he.pe hs hf).imp fun D σ H ⟨ms, os, g, r, z⟩ => ⟨ms, os, g, r, new_fin r z⟩⟩
def sApp (i : Nat) (m : M Op) : Ms := fun g => match (gt g i).mo with
  | none => .bad
  | some _ => thenE m (fun x g' => match x, (gt g' i).mo with
    | .d d, some (.ls xs) => if xs.length < 16777216 then .nx (setMo g' i (.ls (xs ++ [d]))) else .bad
    | _, _ => .bad) g
theorem rs_app {i : Nat} {x : Str} {m : M Op} {apos cpos : Pos} (hN : X.N[i]? = some x) (hv : Vis X.env.scope x) (he : RO X pa W e m)
    (hst : starEach [e] X.env = (false, eval e X.env) :: starEach [] X.env := by rfl) (hd : (x == ("__debug__" : Str)) = false := by decide) (hcd : (x == ("__classdict__" : Str)) = false := by decide) (hbase : attributeBase (.Name x p) "append" X.env (eval (.Name x p) X.env) = eval (.Name x p) X.env := by rfl)
    (hfew : ((backTo cpos (starEach [e] X.env)).all (fun x => !x.1) && (backToKw cpos (keywordEach [] X.env)).all (fun x => x.1.isSome)
      && decide (([e] : List Expr).length + ([] : List Keyword).length + (if ([] : List Keyword).isEmpty then 0 else 1) < 30)) = true := by rfl)
    (hline : (apos.endLine == cpos.line) = true := by rfl) (hpl : (backTo cpos (starEach [] X.env)).any (·.1) = false := by rfl)
    (hs : swapsWith (.Call (.Attribute (.Name x p) "append" apos) [e] [] cpos) none pos.line X.env = pure false := by rfl) : RS X pa W (.Expr (.Call (.Attribute (.Name x p) "append" apos) [e] [] cpos) pos) (sApp i m) :=
  ⟨(ps_expr (pe_bm PySem.F.plainAttrs_list PySem.F.slot_list_append PySem.F.type_list_append mt_append (pe_var hN hv hd hcd) (pa_cons he.pe pa_nil hst) hbase hfew hline hst hpl) hs).imp fun D σ H ⟨ms, os, g, r, z⟩ => by
    unfold sApp at z
    cases e0 : (gt g i).mo with
    | none => rw [e0] at z; exact z.elim
    | some m0 =>
      rw [e0] at z
      obtain ⟨q, q1, q2, q3⟩ := r.mo i m0 e0
      cases m0 with
      | ls ys =>
        obtain ⟨ws, w1, w2⟩ := q3
        refine ⟨_, q1, .inl ⟨rfl, _, SqL.of w1⟩, ms, os, g, r, (thenE.out z).mono (fun y g1 o v H1 r1 k1 rep => ?_) fun _ _ q => q⟩
        cases y with
        | o j => exact o.elim
        | d d =>
          cases e1 : (gt g1 i).mo with
          | none => rw [e1] at o; exact o.elim
          | some m1 =>
            cases m1 with
            | ls xs =>
              rw [e1] at o
              obtain ⟨q', p1, p2, p3⟩ := r1.mo i _ e1
              rw [q1] at p1; cases p1
              obtain ⟨vs, v1, v2⟩ := p3
              by_cases hl : xs.length < 16777216
              · simp only [hl, if_true] at o
                have kk : Kp (fun a => a = q) H1 (upd H1 q (.lst (vs ++ [v]))) := .set v1 (fun z => z) rfl
                have wm : ∀ a, a = q → ms a := fun a e => by rw [e]; exact r1.sub q p2
                refine ⟨q, vs, v, rfl, rfl, v1, by rw [v2.length]; exact Nat.lt_of_lt_of_le hl (by decide), ?_⟩
                refine o ms os σ _ (r1.setMo e1 q1 kk ⟨_, upd_same, (v2.keep kk wm).append (.cons (Rep.keep rep kk wm) .nil)⟩) (.same (k1.trans (kk.weak fun a e => by rw [e]; exact p2)))
              · simp only [hl, if_false] at o
                exact o.elim⟩
def sSto (i : Nat) (mi mv : M Op) : Ms := thenE mv fun x g1 => match x with
  | .o _ => .bad
  | .d d => match (gt g1 i).mo with
    | none => .bad
    | some _ => thenE mi (fun y g2 => match y, (gt g2 i).mo with
      | .d (.int k), some (.ls xs) => match ixN xs.length k with
        | some j => .nx (setMo g2 i (.ls (xs.set j d)))
        | none => .bad
      | _, _ => .bad) g1
theorem rs_sto {i : Nat} {x : Str} {mi mv : M Op} {ix val : Expr} {tpos : Pos} (hN : X.N[i]? = some x) (hv : Vis X.env.scope x) (hi : RO X pa W ix mi) (he : RO X pa W val mv) (hd : (x == ("__debug__" : Str)) = false := by decide) (hcd : (x == ("__classdict__" : Str)) = false := by decide)
    (ha : ∀ v, assign (.Subscript (.Name x p) ix tpos) X.env v = (do
      let ov ← holding [v] (eval (.Name x p) X.env)
      let iv ← holding [v, ov] (eval ix X.env)
      standAt tpos
      holding [v, ov, iv] (setItem ov iv v)
      release [v, ov, iv] []) := by intro _; rfl)
    (hs : swapsWithSole [.Subscript (.Name x p) ix tpos] val pos.line X.env = pure false := by rfl) (hw : swappedStores [.Subscript (.Name x p) ix tpos] val X.env = pure none := by rfl)
    (h1 : (assignEach [.Subscript (.Name x p) ix tpos] X.env).map (·.2) = [assign (.Subscript (.Name x p) ix tpos) X.env] := by rfl) : RS X pa W (.Assign [.Subscript (.Name x p) ix tpos] val pos) (sSto i mi mv) :=
  ⟨(ps_asg he.pe (pg_sub (pe_var hN hv hd hcd) hi.pe set_list ha) hs hw h1).imp fun D σ H ⟨ms, os, g, r, z⟩ => ⟨ms, os, g, r, (thenE.out z).mono (fun x g1 o v H1 r1 k1 rep => by
    cases x with
    | o j => exact o.elim
    | d d =>
      simp only at o
      cases e0 : (gt g1 i).mo with
      | none => rw [e0] at o; exact o.elim
      | some m0 =>
        rw [e0] at o
        obtain ⟨q, q1, q2, q3⟩ := r1.mo i m0 e0
        refine ⟨_, q1, ms, os, g1, r1, (thenE.out (o.later (.same k1))).mono (fun y g2 o2 w H2 r2 k2 rep2 => ?_) fun _ _ q => q⟩
        cases y with
        | o j => exact o2.elim
        | d y =>
          cases e1 : (gt g2 i).mo with
          | none => rw [e1] at o2; cases y <;> exact o2.elim
          | some m1 =>
            cases m1 with
            | ls xs =>
              rw [e1] at o2
              cases y with
              | int k =>
                simp only at o2
                cases e2 : ixN xs.length k with
                | none => rw [e2] at o2; exact o2.elim
                | some j =>
                  rw [e2] at o2
                  obtain ⟨q', p1, p2, p3⟩ := r2.mo i _ e1
                  rw [q1] at p1; cases p1
                  obtain ⟨vs, v1, v2⟩ := p3
                  have kk : Kp (fun a => a = q) H2 (upd H2 q (.lst (vs.set j v))) := .set v1 (fun z => z) rfl
                  have wm : ∀ a, a = q → ms a := fun a e => by rw [e]; exact r2.sub q p2
                  have hw : w = .int k := by cases (show Rep X.K ms H2 w (.int k) from rep2); rfl
                  subst hw
                  refine ⟨q, vs, k, j, rfl, rfl, v1, by rw [v2.length]; exact e2, ?_⟩
                  exact o2 ms os σ _ (r2.setMo e1 q1 kk ⟨_, upd_same, (v2.keep kk wm).set j (Rep.keep (Rep.keep rep k2 r1.sub) kk wm)⟩) (.same (k2.trans (kk.weak fun a e => by rw [e]; exact p2)))
              | _ => exact o2.elim) fun _ _ q => q⟩⟩
/-! a, b = e1, e2 -/
def sPar (i j : Nat) (m : M (List Op)) : Ms := thenE m fun xs g => match vls xs with
  | some [a, b] => match setV g i a with
    | some g1 => match setV g1 j b with
      | some g2 => .nx g2
      | none => .bad
    | none => .bad
  | _ => .bad
theorem rs_par {i j : Nat} {x y : Str} {a b : Expr} {m : M (List Op)} {px py pt : Pos} {kt k2 pt2} (hc : X.calm = true) (hN : X.N.Nodup) (hi : X.N[i]? = some x) (hj : X.N[j]? = some y) (hij : i ≠ j)
    (hx : X.env.scope.names.lookup x = some .local) (hy : X.env.scope.names.lookup y = some .local) (ha : RA X pa W [a, b] m)
    (hw : swappedStores [.Tuple [.Name x px, .Name y py] kt pt] (.Tuple [a, b] k2 pt2) X.env = pure (some [x, y]))
    (hs : swapsWithSole [.Tuple [.Name x px, .Name y py] kt pt] (.Tuple [a, b] k2 pt2) pos.line X.env = pure false := by rfl) :
    RS X pa W (.Assign [.Tuple [.Name x px, .Name y py] kt pt] (.Tuple [a, b] k2 pt2) pos) (sPar i j m) :=
  ⟨(ps_par hc hN hi hj hij hx hy ha.pa hw hs).imp fun D σ H ⟨ms, os, g, r, z⟩ => ⟨ms, os, g, r, (thenE.out z).mono (fun xs g1 o vs H1 r1 k1 rep => by
    cases e : vls xs with
    | none => rw [e] at o; exact o.elim
    | some ds =>
      rw [e] at o
      have rl := vls_ok rep e
      match ds, rl, o with
      | [a, b], .cons ra (.cons rb .nil), o =>
        simp only at o
        cases e1 : setV g1 i a with
        | none => rw [e1] at o; exact o.elim
        | some g2 =>
          rw [e1] at o
          simp only at o
          cases e2 : setV g2 j b with
          | none => rw [e2] at o; exact o.elim
          | some g3 =>
            rw [e2] at o
            exact ⟨_, _, rfl, o ms os _ H1 ((r1.setV e1 ra).setV e2 rb) (.same k1)⟩) fun _ _ q => q⟩⟩
/-! while -/
def wh (c : M Bool) (b : Ms) : Nat → Ms
  | 0 => sBad
  | n + 1 => thenE c fun k g' => match k with
    | false => .nx g'
    | true => match b g' with
      | .nx g2 => wh c b n g2
      | .ct g2 => wh c b n g2
      | .bk g2 => .nx g2
      | o => o
open Classical in
noncomputable def sWh (c : M Bool) (b : Ms) : Ms := fun g => if h : ∃ n, wh c b n g ≠ .bad then wh c b (choose h) g else .bad
theorem wh_succ (c : M Bool) (b : Ms) : ∀ (n : Nat) (g : En), wh c b n g ≠ .bad → wh c b (n + 1) g = wh c b n g
  | 0, g, h => absurd rfl h
  | n + 1, g, h => by
    have ih := wh_succ c b n
    show thenE c _ g = thenE c _ g
    have h' : thenE c _ g ≠ .bad := h
    unfold thenE at h' ⊢
    cases e : c g with
    | ok k g1 =>
      rw [e] at h'
      cases k with
      | false => rfl
      | true =>
        simp only at h' ⊢
        cases e2 : b g1 with
        | nx g2 => rw [e2] at h'; exact ih g2 h'
        | ct g2 => rw [e2] at h'; exact ih g2 h'
        | bk g2 => rfl
        | rt s g2 => rfl
        | ex x g2 => rfl
        | bad => rfl
    | ex x g1 => rfl
    | bad => rfl
theorem wh_add (c : M Bool) (b : Ms) (g : En) (n : Nat) (h : wh c b n g ≠ .bad) : ∀ k, wh c b (n + k) g = wh c b n g
  | 0 => rfl
  | k + 1 => by
    have ih := wh_add c b g n h k
    rw [← ih]
    exact wh_succ c b (n + k) g (by rw [ih]; exact h)
theorem sWh_eq {c : M Bool} {b : Ms} {g : En} (n : Nat) (h : wh c b n g ≠ .bad) : sWh c b g = wh c b n g := by
  unfold sWh
  have hx : ∃ n, wh c b n g ≠ .bad := ⟨n, h⟩
  rw [dif_pos hx]
  have hc := Classical.choose_spec hx
  generalize Classical.choose hx = m at hc ⊢
  have e1 := wh_add c b g n h m
  have e2 := wh_add c b g m hc n
  rw [← e1, ← e2, Nat.add_comm]
theorem rs_while {c : Expr} {body : List Stmt} {mc : M Bool} {mb : Ms} (hp : PassesOwn (model X.prog X.w) X.A X.env X.xe) (hc : RT X pa W c mc) (hb : RSs X pa W body mb) : RS X pa W (.While c body [] pos) (sWh mc mb) :=
  ⟨(ps_while hp hc.pt hb.ps).imp fun D σ H ⟨ms, os, g, r, z⟩ => by
    have hx : ∃ n, Fin X.K pa W D ms os H (wh mc mb n g) := by
      unfold sWh at z
      by_cases h : ∃ n, wh mc mb n g ≠ .bad
      · rw [dif_pos h] at z; exact ⟨_, z⟩
      · rw [dif_neg h] at z; exact z.elim
    obtain ⟨n, z⟩ := hx
    refine ⟨fun n σ' H' => ∃ ms' os' g', Rl X.K pa ms' os' σ' H' g' ∧ Ks ms os H ms' os' H' ∧ Fin X.K pa W D ms' os' H' (wh mc mb n g'), ⟨n, ms, os, g, r, .same .refl, z⟩, ?_⟩
    rintro m σ1 H1 ⟨ms1, os1, g1, r1, k1, z1⟩
    cases m with
    | zero => exact z1.elim
    | succ m =>
      refine ⟨ms1, os1, g1, r1, (thenE.out z1).mono (fun k g2 o H2 r2 k2 => ?_) fun _ _ q => q⟩
      cases k with
      | false => rw [if_neg (by decide)]; exact o ms1 os1 σ1 H2 r2 (.same k2)
      | true =>
        rw [if_pos rfl]
        have o := Fin.later o (.same k2)
        refine ⟨fun σ' H' => ∃ ms' os' g', Rl X.K pa ms' os' σ' H' g' ∧ Ks ms os H ms' os' H' ∧ Fin X.K pa W D ms' os' H' (wh mc mb m g'), fun σ' H' q => ⟨m, Nat.lt_succ_self m, q⟩, ms1, os1, g2, r2, ?_⟩
        have kk : Ks ms os H ms1 os1 H2 := k1.trans (.same k2)
        simp only at o
        cases e : mb g2 with
        | nx g3 => rw [e] at o; exact fun ms' os' σ' H' r' k' => ⟨ms', os', g3, r', kk.trans k', Fin.later o k'⟩
        | ct g3 => rw [e] at o; exact fun ms' os' σ' H' r' k' => ⟨ms', os', g3, r', kk.trans k', Fin.later o k'⟩
        | bk g3 => rw [e] at o; exact o
        | rt s g3 => rw [e] at o; exact o
        | ex x g3 => rw [e] at o; exact o
        | bad => rw [e] at o; exact o⟩
end
end Mir

namespace Mir
open PySem L2
/-- what an iterator yields -/
structure ItS (K : PySem.W.Frag) (ms os : Addr → Prop) (J : It) (ds : List D) (H1 : Hp) : Prop where
  go : ∀ i H, Kp os H1 H → i < ds.length → J.go i H
  stop : ∀ i H, Kp os H1 H → ds.length ≤ i → J.stop i H
  yld : ∀ i x H H' d, Kp os H1 H → ds[i]? = some d → J.yld i H x H' → Kp NoW H H' ∧ ∀ ms', (∀ a, ms' a → ms a ∨ H1 a = none) → Rep K ms' H' x d
def Ix (K : PySem.W.Frag) (pa : Nat → Option Addr) (W : WX) (m : M (List D)) : TI := fun σ H R => ∃ ms os g, Rl K pa ms os σ H g ∧ Out (m g) (fun ds g' => ∀ J H', Rl K pa ms os σ H' g' → Kp os H H' → ItS K ms os J ds H' → R J H') (Xw K pa W ms os σ H)
structure RI (X : Cx) (pa : Nat → Option Addr) (W : WX) (tg iter : Expr) (m : M (List D)) : Prop where
  pi : PI X tg iter (Ix X.K pa W m)
theorem _root_.L2.PI.imp {X : Cx} {tg e : Expr} {t t' : TI} (h : PI X tg e t) (q : ∀ σ H Q, t' σ H Q → t σ H Q) : PI X tg e t' := ⟨fun pins s σ H Q I z => h.run pins s σ H Q I (q σ H Q z)⟩
theorem _root_.L2.PI.or {X : Cx} {tg e : Expr} {t t' : TI} (h : PI X tg e t) (h' : PI X tg e t') : PI X tg e (fun σ H Q => t σ H Q ∨ t' σ H Q) := ⟨fun pins s σ H Q I z => z.elim (h.run pins s σ H Q I) (h'.run pins s σ H Q I)⟩
/-- the items of a value that is walked -/
def itD : D → Option (List D)
  | .tup xs => some xs
  | .lst xs => some xs
  | .frl xs => some xs
  | .str x => some (x.cps.toList.map fun c => .str ⟨#[c]⟩)
  | _ => none
/-- an own list is not walked -/
def itM : Op → M (List D)
  | .d x => opt (itD x)
  | .o _ => bad
section
variable {X : Cx} {K : PySem.W.Frag} {pa : Nat → Option Addr} {W : WX} {ms ms' os os' ms1 os1 : Addr → Prop} {σ : L2.St} {H H' H1 : Hp} {g : En} {pos p : Pos} {e tg : Expr} {es : List Expr} {Z : Ends}
theorem SqL.keepK {a : Addr} {xs : List V} (h : SqL K H a xs) (k : Kp os H H') (n : ¬ os a) : SqL K H' a xs := by
  rcases h with z | z
  · exact .inl (Rd.keep z k (.inl n))
  · exact .inr z
theorem its_list {a : Addr} {vs : List V} {ds : List D} (h : SqL K H1 a vs) (st : ∀ H, Kp os H1 H → SqL K H a vs) (r : RepL K ms H1 vs ds) (hs : ∀ a, os a → ms a) : ItS K ms os (Itl K a) ds H1 where
  go := fun i H k hi => by
    obtain ⟨u, h1, h2⟩ := r.get (List.getElem?_eq_getElem hi)
    exact ⟨vs, u, st H k, h1⟩
  stop := fun i H k hi => ⟨vs, st H k, by rw [r.length]; exact hi⟩
  yld := fun i x H H' d k hd y => by
    obtain ⟨rfl, y⟩ := y
    refine ⟨.refl, fun ms' hm => ?_⟩
    obtain ⟨u, h1, h2⟩ := r.get hd
    have := y vs (st _ k)
    rw [h1] at this; cases this
    exact h2.move k hs hm
theorem its_tup {a : Addr} {vs : List V} {ds : List D} (h : SqT K H1 a vs) (r : RepL K ms H1 vs ds) (hs : ∀ a, os a → ms a) : ItS K ms os (Itt K a) ds H1 where
  go := fun i H k hi => by
    obtain ⟨u, h1, h2⟩ := r.get (List.getElem?_eq_getElem hi)
    exact ⟨vs, u, SqT.keep h k, h1⟩
  stop := fun i H k hi => ⟨vs, SqT.keep h k, by rw [r.length]; exact hi⟩
  yld := fun i x H H' d k hd y => by
    obtain ⟨rfl, y⟩ := y
    refine ⟨.refl, fun ms' hm => ?_⟩
    obtain ⟨u, h1, h2⟩ := r.get hd
    have := y vs (SqT.keep h k)
    rw [h1] at this; cases this
    exact h2.move k hs hm
theorem its_str {x : Str} : ItS K ms os (Its x) (x.cps.toList.map fun c => .str ⟨#[c]⟩) H1 where
  go := fun i H k hi => by rw [List.length_map, Array.length_toList] at hi; exact hi
  stop := fun i H k hi => by rw [List.length_map, Array.length_toList] at hi; exact hi
  yld := fun i x' H H' d k hd y => by
    obtain ⟨rfl, c, hc, rfl⟩ := y
    refine ⟨.refl, fun ms' hm => ?_⟩
    rw [List.getElem?_map] at hd
    obtain ⟨c', h1, rfl⟩ := Option.map_eq_some_iff.mp hd
    have : c = c' := by
      have h2 : x.cps.toList[i]? = some c := by simpa using hc
      rw [h2] at h1; cases h1; rfl
    subst this
    exact .str _
theorem its_range {lo : Int} {n : Nat} : ItS K ms os (Itr lo n) ((List.range n).map fun i => .int (lo + (i : Nat))) H1 where
  go := fun i H k hi => by rw [List.length_map, List.length_range] at hi; exact hi
  stop := fun i H k hi => by rw [List.length_map, List.length_range] at hi; exact hi
  yld := fun i x' H H' d k hd y => by
    obtain ⟨rfl, rfl⟩ := y
    refine ⟨.refl, fun ms' hm => ?_⟩
    rw [List.getElem?_map] at hd
    obtain ⟨c', h1, rfl⟩ := Option.map_eq_some_iff.mp hd
    obtain ⟨hl, h2⟩ := List.getElem?_eq_some_iff.mp h1
    rw [List.getElem_range] at h2
    subst h2
    exact .int _
theorem ri_any {m : M Op} (h : RO X pa W e m) : RI X pa W tg e (bnd m itM) :=
  ⟨((PI.or (pi_list h.pe) (pi_tup h.pe)).or (pi_str h.pe)).imp fun σ H R ⟨ms, os, g, r, z⟩ => by
    have z1 := z.bnd
    cases e1 : m g with
    | bad => rw [e1] at z1; exact z1.elim
    | ex x g1 => exact .inl (.inl ⟨ms, os, g, r, by rw [e1] at z1 ⊢; exact z1⟩)
    | ok x g1 =>
      rw [e1] at z1
      cases x with
      | o i => exact z1.elim
      | d d =>
        obtain ⟨ds, e2, z2⟩ := Out.opt (show Out (opt (itD d) g1) _ _ from z1)
        cases d with
        | tup xs =>
          cases e2
          refine .inl (.inr ⟨ms, os, g, r, ?_⟩)
          rw [e1]
          intro v H1 r1 k1 rep
          cases rep with
          | tup s l => exact ⟨_, rfl, ⟨_, s⟩, z2 _ H1 r1 k1 (its_tup s l r1.sub)⟩
        | lst xs =>
          cases e2
          refine .inl (.inl ⟨ms, os, g, r, ?_⟩)
          rw [e1]
          intro v H1 r1 k1 rep
          cases rep with
          | lst n s l => exact ⟨_, rfl, ⟨_, SqL.of s⟩, z2 _ H1 r1 k1 (its_list (SqL.of s) (fun H k => SqL.keepK (SqL.of s) k fun o => n (r1.sub _ o)) l r1.sub)⟩
        | frl xs =>
          cases e2
          refine .inl (.inl ⟨ms, os, g, r, ?_⟩)
          rw [e1]
          intro v H1 r1 k1 rep
          cases rep with
          | frl s l => exact ⟨_, rfl, ⟨_, s.sq⟩, z2 _ H1 r1 k1 (its_list s.sq (fun H k => (s.keep k).sq) l r1.sub)⟩
        | str x =>
          cases e2
          refine .inr ⟨ms, os, g, r, ?_⟩
          rw [e1]
          intro v H1 r1 k1 rep
          cases rep
          exact ⟨_, rfl, z2 _ H1 r1 k1 its_str⟩
        | _ => cases e2⟩
def rng (lo : Int) (n : Nat) : List D := (List.range n).map fun i => .int (lo + (i : Nat))
@[irreducible] def inW (j : Int) : Bool := Nat.blt j.natAbs (2 ^ 62)
theorem inW_iff {j : Int} : inW j = true ↔ j.natAbs < 2 ^ 62 := by unfold inW; rw [Nat.blt_eq]
theorem inW_lo {j : Int} (h : inW j = true) : -(2 ^ 62) ≤ j := by have := inW_iff.mp h; omega
theorem inW_hi {j : Int} (h : inW j = true) : j < 2 ^ 62 := by have := inW_iff.mp h; omega
def rng1 : List Op → M (List D)
  | [.d (.int j)] => if inW j = true then ret (rng 0 j.toNat) else bad
  | _ => bad
def rng2 : List Op → M (List D)
  | [.d (.int i), .d (.int j)] => if inW i = true ∧ inW j = true then ret (rng i (j - i).toNat) else bad
  | _ => bad
theorem ri_rng1 {m : M (List Op)} (hg : Gl X "range") (hm : X.mg "range" = none) (ha : RA X pa W [e] m) (hs : starEach [e] X.env = [(false, eval e X.env)] := by rfl) : RI X pa W tg (.Call (.Name "range" p) [e] [] pos) (bnd m rng1) :=
  ⟨(pi_range1 hg hm ha.pa hs).imp fun σ H R ⟨ms, os, g, r, z⟩ => ⟨ms, os, g, r, z.bnd.mono (fun xs g1 o vs H1 r1 k1 rep => by
    unfold rng1 at o
    split at o
    · split at o
      · rename_i j hj
        cases rep with
        | cons a l =>
          cases l
          cases (show Rep X.K ms H1 _ (.int j) from a)
          exact ⟨j, rfl, inW_lo hj, inW_hi hj, o _ H1 r1 k1 its_range⟩
      · exact o.elim
    · exact o.elim) fun _ _ q => q⟩⟩
theorem ri_rng2 {e2 : Expr} {m : M (List Op)} (hg : Gl X "range") (hm : X.mg "range" = none) (ha : RA X pa W [e, e2] m) (hs : starEach [e, e2] X.env = [(false, eval e X.env), (false, eval e2 X.env)] := by rfl) (hs2 : starEach [e2] X.env = [(false, eval e2 X.env)] := by rfl) : RI X pa W tg (.Call (.Name "range" p) [e, e2] [] pos) (bnd m rng2) :=
  ⟨(pi_range2 hg hm ha.pa hs hs2).imp fun σ H R ⟨ms, os, g, r, z⟩ => ⟨ms, os, g, r, z.bnd.mono (fun xs g1 o vs H1 r1 k1 rep => by
    unfold rng2 at o
    split at o
    · split at o
      · rename_i i j hj
        cases rep with
        | cons a l =>
          cases l with
          | cons b l =>
            cases l
            cases (show Rep X.K ms H1 _ (.int i) from a)
            cases (show Rep X.K ms H1 _ (.int j) from b)
            exact ⟨i, j, rfl, ⟨inW_lo hj.1, inW_hi hj.1, inW_lo hj.2, inW_hi hj.2⟩, o _ H1 r1 k1 its_range⟩
      · exact o.elim
    · exact o.elim) fun _ _ q => q⟩⟩
/-! zip of two tuples, of two lists -/
def zipD (xs ys : List D) : List D := (xs.zip ys).map fun p => .tup [p.1, p.2]
def zipM : List Op → M (List D)
  | [.d (.tup xs), .d (.tup ys)] => ret (zipD xs ys)
  | [.d (.lst xs), .d (.lst ys)] => ret (zipD xs ys)
  | _ => bad
theorem zip_get {xs ys : List D} {i : Nat} {d : D} (h : (zipD xs ys)[i]? = some d) : ∃ x y, xs[i]? = some x ∧ ys[i]? = some y ∧ d = .tup [x, y] := by
  unfold zipD at h
  rw [List.getElem?_map] at h
  obtain ⟨q, h1, rfl⟩ := Option.map_eq_some_iff.mp h
  rw [List.getElem?_zip_eq_some] at h1
  exact ⟨q.1, q.2, h1.1, h1.2, rfl⟩
theorem zip_len {xs ys : List D} : (zipD xs ys).length = min xs.length ys.length := by
  unfold zipD; rw [List.length_map, List.length_zip]
theorem pair_new {T : Addr} {u w : V} {x y : D} (h : H T = none) (a : Rep K ms' H u x) (b : Rep K ms' H w y) : Kp NoW H (upd H T (.tup [u, w])) ∧ Rep K ms' (upd H T (.tup [u, w])) (.ref T) (.tup [x, y]) := new_tup h (.cons a (.cons b .nil))
theorem its_zipT {a b : Addr} {vs ws : List V} {xs ys : List D} (h1 : SqT K H1 a vs) (h2 : SqT K H1 b ws) (r1 : RepL K ms H1 vs xs) (r2 : RepL K ms H1 ws ys) (hs : ∀ a, os a → ms a) : ItS K ms os (RZ.ItzT K a b) (zipD xs ys) H1 where
  go := fun i H k hi => by
    rw [zip_len] at hi
    obtain ⟨u, f1, _⟩ := r1.get (i := i) (List.getElem?_eq_getElem (by omega))
    obtain ⟨w, f2, _⟩ := r2.get (i := i) (List.getElem?_eq_getElem (by omega))
    exact ⟨vs, ws, u, w, SqT.keep h1 k, SqT.keep h2 k, f1, f2⟩
  stop := fun i H k hi => by
    rw [zip_len] at hi
    exact ⟨vs, ws, SqT.keep h1 k, SqT.keep h2 k, by rw [r1.length, r2.length]; omega⟩
  yld := fun i x H H' d k hd y => by
    obtain ⟨T, u, w, rfl, hT, rfl, y1, y2⟩ := y
    obtain ⟨dx, dy, e1, e2, rfl⟩ := zip_get hd
    refine ⟨.new hT, fun ms' hm => ?_⟩
    obtain ⟨u', f1, f2⟩ := r1.get e1
    obtain ⟨w', f3, f4⟩ := r2.get e2
    have q1 := y1 vs (SqT.keep h1 k)
    have q2 := y2 ws (SqT.keep h2 k)
    rw [f1] at q1; cases q1
    rw [f3] at q2; cases q2
    exact (pair_new hT (f2.move k hs hm) (f4.move k hs hm)).2
theorem its_zipL {a b : Addr} {vs ws : List V} {xs ys : List D} (h1 : ∀ H, Kp os H1 H → SqL K H a vs) (h2 : ∀ H, Kp os H1 H → SqL K H b ws) (r1 : RepL K ms H1 vs xs) (r2 : RepL K ms H1 ws ys) (hs : ∀ a, os a → ms a) : ItS K ms os (Itz K a b) (zipD xs ys) H1 where
  go := fun i H k hi => by
    rw [zip_len] at hi
    obtain ⟨u, f1, _⟩ := r1.get (i := i) (List.getElem?_eq_getElem (by omega))
    obtain ⟨w, f2, _⟩ := r2.get (i := i) (List.getElem?_eq_getElem (by omega))
    exact ⟨vs, ws, u, w, h1 H k, h2 H k, f1, f2⟩
  stop := fun i H k hi => by
    rw [zip_len] at hi
    exact ⟨vs, ws, h1 H k, h2 H k, by rw [r1.length, r2.length]; omega⟩
  yld := fun i x H H' d k hd y => by
    obtain ⟨T, u, w, rfl, hT, rfl, y1, y2⟩ := y
    obtain ⟨dx, dy, e1, e2, rfl⟩ := zip_get hd
    refine ⟨.new hT, fun ms' hm => ?_⟩
    obtain ⟨u', f1, f2⟩ := r1.get e1
    obtain ⟨w', f3, f4⟩ := r2.get e2
    have q1 := y1 vs (h1 H k)
    have q2 := y2 ws (h2 H k)
    rw [f1] at q1; cases q1
    rw [f3] at q2; cases q2
    exact (pair_new hT (f2.move k hs hm) (f4.move k hs hm)).2
theorem ri_zip {e2 : Expr} {elts : List Expr} {kk : Nat} {tpos : Pos} {m : M (List Op)} (hg : Gl X "zip") (hm : X.mg "zip" = none) (ha : RA X pa W [e, e2] m)
    (hs : starEach [e, e2] X.env = (false, eval e X.env) :: starEach [e2] X.env := by rfl) (hpl : (backTo pos (starEach [e2] X.env)).any (·.1) = false := by rfl) : RI X pa W (.Tuple elts kk tpos) (.Call (.Name "zip" p) [e, e2] [] pos) (bnd m zipM) :=
  ⟨(RZ.pi_zipA hg hm ha.pa hs hpl).imp fun σ H R ⟨ms, os, g, r, z⟩ => ⟨ms, os, g, r, z.bnd.mono (fun xs g1 o vs H1 r1 k1 rep => by
    unfold zipM at o
    split at o
    · rename_i xs ys
      cases rep with
      | cons a l =>
        cases l with
        | cons b l =>
          cases l
          cases (show Rep X.K ms H1 _ (.tup xs) from a) with
          | tup s1 l1 =>
            cases (show Rep X.K ms H1 _ (.tup ys) from b) with
            | tup s2 l2 => exact ⟨_, _, _, _, rfl, .inr ⟨s1, s2, o _ H1 r1 k1 (its_zipT s1 s2 l1 l2 r1.sub)⟩⟩
    · rename_i xs ys
      cases rep with
      | cons a l =>
        cases l with
        | cons b l =>
          cases l
          cases (show Rep X.K ms H1 _ (.lst xs) from a) with
          | lst n1 s1 l1 =>
            cases (show Rep X.K ms H1 _ (.lst ys) from b) with
            | lst n2 s2 l2 => exact ⟨_, _, _, _, rfl, .inl ⟨SqL.of s1, SqL.of s2, o _ H1 r1 k1 (its_zipL (fun H k => SqL.keepK (SqL.of s1) k fun o => n1 (r1.sub _ o)) (fun H k => SqL.keepK (SqL.of s2) k fun o => n2 (r1.sub _ o)) l1 l2 r1.sub)⟩⟩
    · exact o.elim) fun _ _ q => q⟩⟩
/-! for -/
def forL (t : Tg) (b : Ms) : List D → Ms
  | [], g => .nx g
  | d :: ds, g => match t d g with
    | none => .bad
    | some g1 => match b g1 with
      | .nx g2 => forL t b ds g2
      | .ct g2 => forL t b ds g2
      | .bk g2 => .nx g2
      | o => o
def sFor (m : M (List D)) (t : Tg) (b : Ms) : Ms := thenE m (forL t b)
theorem rs_for {is : List Nat} {m : M (List D)} {t : Tg} {body : List Stmt} {b : Ms} (hp : PassesOwn (model X.prog X.w) X.A X.env X.xe) (hc : X.calm = true) (hi : RI X pa W tg e m) (hg : RG X pa tg is t) (hb : RSs X pa W body b)
    (hs : ∀ x, foldedSetIterable e X.env x = pure x := by intro _; rfl) : RS X pa W (.For tg e body [] pos) (sFor m t b) :=
  ⟨(ps_for hp hc hi.pi hg.pg hb.ps hs).imp fun D σ H ⟨ms, os, g, r, z⟩ => ⟨ms, os, g, r, (thenE.out z).mono (fun ds g1 o J H1 r1 k1 it => by
    have o := Fin.later o (.same k1)
    refine ⟨fun i n σ' H' => n = ds.length - i ∧ i ≤ ds.length ∧ ∃ ms' os' g', Rl X.K pa ms' os' σ' H' g' ∧ Ks ms os H1 ms' os' H' ∧ Fin X.K pa W D ms' os' H' (forL t b (ds.drop i) g'), ⟨ds.length, rfl, Nat.zero_le _, ms, os, g1, r1, .same .refl, o⟩, ?_⟩
    rintro i n σ2 H2 ⟨rfl, hi, ms2, os2, g2, r2, k2, o2⟩
    by_cases hl : i < ds.length
    · refine .inr ⟨it.go i H2 k2.kp hl, fun σ' H' => i + 1 ≤ ds.length ∧ ∃ ms' os' g', Rl X.K pa ms' os' σ' H' g' ∧ Ks ms os H1 ms' os' H' ∧ Fin X.K pa W D ms' os' H' (forL t b (ds.drop (i + 1)) g'), fun σ' H' q => ⟨ds.length - (i + 1), by omega, rfl, q⟩, fun x H3 y => ?_⟩
      have hd : ds[i]? = some ds[i] := List.getElem?_eq_getElem hl
      obtain ⟨k3, rep⟩ := it.yld i x H2 H3 _ k2.kp hd y
      have e1 : ds.drop i = ds[i] :: ds.drop (i + 1) := List.drop_eq_getElem_cons hl
      rw [e1] at o2
      have r3 := r2.kp k3
      have rp := rep ms2 k2.mg
      unfold forL at o2
      cases e2 : t ds[i] g2 with
      | none => rw [e2] at o2; exact o2.elim
      | some g3 =>
        rw [e2] at o2
        have o2 := Fin.later o2 (.same k3.now)
        refine ⟨ms2, os2, g2, _, g3, r3, rp, e2, fun σ4 H4 _ r4 k4 => ⟨ms2, os2, g3, r4, ?_⟩⟩
        have o2 := Fin.later o2 (.same k4)
        have kk : Ks ms os H1 ms2 os2 H4 := k2.trans (.same (k3.now.trans k4))
        simp only at o2
        cases e3 : b g3 with
        | nx g4 => rw [e3] at o2; exact fun ms' os' σ' H' r' k' => ⟨hl, ms', os', g4, r', kk.trans k', Fin.later o2 k'⟩
        | ct g4 => rw [e3] at o2; exact fun ms' os' σ' H' r' k' => ⟨hl, ms', os', g4, r', kk.trans k', Fin.later o2 k'⟩
        | bk g4 => rw [e3] at o2; exact o2
        | rt s g4 => rw [e3] at o2; exact o2
        | ex x g4 => rw [e3] at o2; exact o2
        | bad => rw [e3] at o2; exact o2
    · have e1 : ds.drop i = [] := List.drop_eq_nil_of_le (by omega)
      rw [e1] at o2
      exact .inl ⟨it.stop i H2 k2.kp (by omega), o2 ms2 os2 σ2 H2 r2 (.same .refl)⟩) fun _ _ q => q⟩⟩
end
end Mir

namespace Mir
open PySem L2
/-! comprehensions -/
def wipeG (g : En) : List Nat → En
  | [] => g
  | v :: vs => (wipeG g vs).set v .no
/-- the block's own slots as they were, g0, all others as in g -/
def restG (g0 g : En) : List Nat → En
  | [] => g
  | v :: vs => (restG g0 g vs).set v (gt g0 v)
def noO (g : En) (vs : List Nat) : Bool := vs.all fun i => (gt g i).mo.isNone
def noex {α : Type} (m : M α) : M α := fun g => match m g with
  | .ex _ _ => .bad
  | o => o
def cmL (vs : List Nat) (t : Tg) (c : M Bool) (e : M Op) : List D → List D → M (List D)
  | [], acc => ret acc
  | d :: ds, acc => fun g => match t d (wipeG g vs) with
    | none => .bad
    | some g1 => bnd (noex c) (fun k => match k with
      | false => cmL vs t c e ds acc
      | true => bnd (noex e) fun x => match x with
        | .o _ => bad
        | .d y => if acc.length < 16777216 then cmL vs t c e ds (acc ++ [y]) else bad) g1
def cmp (vs : List Nat) (m : M (List D)) (t : Tg) (c : M Bool) (e : M Op) : M (List D) := bnd m fun ds g => if noO g vs then match cmL vs t c e ds [] g with
    | .ok xs g' => .ok xs (restG g g' vs)
    | _ => .bad
  else .bad
abbrev W0 : WX := fun _ _ _ _ => False
section
variable {X : Cx} {K : PySem.W.Frag} {pa : Nat → Option Addr} {W : WX} {ms ms' os os' ms1 os1 : Addr → Prop} {σ σ' : L2.St} {H H' H1 : Hp} {g g' : En} {pos p : Pos} {e tg : Expr} {es : List Expr} {Z : Ends}
theorem Out.noex {α : Type} {m : M α} {P : α → En → Prop} {E E' : Xn → En → Prop} (h : Out (noex m g) P E) : Out (m g) P E' := by
  unfold Mir.noex at h
  cases e : m g with
  | ok a g1 => rw [e] at h; exact h
  | ex x g1 => rw [e] at h; exact h.elim
  | bad => rw [e] at h; exact h.elim
theorem gt_wipe {vs : List Nat} {i : Nat} : gt (wipeG g vs) i = if i ∈ vs then .no else gt g i := by
  induction vs with
  | nil => simp [wipeG]
  | cons v vs ih =>
    show gt ((wipeG g vs).set v .no) i = _
    rw [gt_set]
    by_cases h : v = i
    · subst h
      by_cases h2 : v < (wipeG g vs).length
      · simp [h2]
      · have : gt (wipeG g vs) v = .no := by rw [gt_eq, List.getElem?_eq_none (by omega)]; rfl
        simp [h2, this]
    · have h' : ¬ i = v := fun z => h z.symm
      simp [h, h', ih]
theorem len_wipe {vs : List Nat} : (wipeG g vs).length = g.length := by
  induction vs with
  | nil => rfl
  | cons v vs ih => show ((wipeG g vs).set v .no).length = _; rw [List.length_set, ih]
theorem len_rest {vs : List Nat} {g0 : En} : (restG g0 g vs).length = g.length := by
  induction vs with
  | nil => rfl
  | cons v vs ih => show ((restG g0 g vs).set v _).length = _; rw [List.length_set, ih]
theorem gt_rest {vs : List Nat} {g0 : En} {i : Nat} : gt (restG g0 g vs) i = if i ∈ vs ∧ i < g.length then gt g0 i else gt g i := by
  induction vs with
  | nil => simp [restG]
  | cons v vs ih =>
    show gt ((restG g0 g vs).set v _) i = _
    rw [gt_set, len_rest]
    by_cases h : v = i
    · subst h
      by_cases h2 : v < g.length
      · simp [h2]
      · have : gt g v = .no := by rw [gt_eq, List.getElem?_eq_none (by omega)]; rfl
        simp [h2, ih]
    · have h' : ¬ i = v := fun z => h z.symm
      simp [h, h', ih]
theorem get_wipe {vs : List Nat} {i : Nat} (h : i ∉ vs) : (wipe σ vs)[i]? = σ[i]? := wipe_out h
theorem wipe_same {vs : List Nat} (h : Off vs σ σ') : wipe σ' vs = wipe σ vs := by
  have key : ∀ (us : List Nat) (τ τ' : L2.St), τ.length = τ'.length → (∀ j, j ∉ us → τ'[j]? = τ[j]?) → wipe τ' us = wipe τ us := by
    intro us
    induction us with
    | nil =>
      intro τ τ' hl hh
      exact List.ext_getElem? fun j => hh j (by simp)
    | cons v us ih =>
      intro τ τ' hl hh
      have e : wipe (τ'.set v none) us = wipe (τ.set v none) us := ih _ _ (by rw [List.length_set, List.length_set]; exact hl) fun j hj => by
        by_cases h : v = j
        · subst h
          by_cases h2 : v < τ.length
          · rw [List.getElem?_set_self h2, List.getElem?_set_self (by omega)]
          · rw [List.getElem?_eq_none (by rw [List.length_set]; omega), List.getElem?_eq_none (by rw [List.length_set]; omega)]
        · rw [List.getElem?_set_ne h, List.getElem?_set_ne h]
          exact hh j fun z => (List.mem_cons.mp z).elim (fun z => h z.symm) hj
      have sw : ∀ (τ : L2.St) (us : List Nat), wipe (τ.set v none) us = (wipe τ us).set v none := by
        intro τ us
        induction us with
        | nil => rfl
        | cons u us ih2 =>
          show (wipe (τ.set v none) us).set u none = ((wipe τ us).set u none).set v none
          rw [ih2]
          by_cases h : v = u
          · subst h; rfl
          · exact List.set_comm none none h
      show (wipe τ' us).set v none = (wipe τ us).set v none
      rw [← sw, ← sw]
      exact e
  exact key vs σ σ' h.1.symm h.2
/-- the block's own slots forgotten -/
theorem Rl.wipe {vs : List Nat} (r : Rl K pa ms os σ H g) (hn : ∀ i ∈ vs, pa i = none) : Rl K pa ms os (L2.wipe σ vs) H (wipeG g vs) := by
  have keep : ∀ i, gt (wipeG g vs) i ≠ .no → i ∉ vs ∧ gt (wipeG g vs) i = gt g i := fun i h => by
    rw [gt_wipe] at h ⊢
    by_cases hi : i ∈ vs
    · rw [if_pos hi] at h; exact absurd rfl h
    · rw [if_neg hi]; exact ⟨hi, rfl⟩
  have km : ∀ i m, (gt (wipeG g vs) i).mo = some m → i ∉ vs ∧ (gt g i).mo = some m := fun i m h => by
    obtain ⟨h1, h2⟩ := keep i fun z => by rw [z] at h; cases h
    exact ⟨h1, by rw [← h2]; exact h⟩
  refine ⟨fun i d e => ?_, fun i m e => ?_, fun i j m m' q e1 e2 e3 e4 => ?_, fun i m q e1 e2 => ?_, fun i q e => ?_, ?_, r.sub, r.dom⟩
  · obtain ⟨h1, h2⟩ := keep i fun z => by rw [z] at e; cases e
    rw [get_wipe h1]
    exact r.va i d (by rw [← h2]; exact e)
  · obtain ⟨h1, h2⟩ := km i m e
    rw [get_wipe h1]
    exact r.mo i m h2
  · obtain ⟨h1, h2⟩ := km i m e1
    obtain ⟨h3, h4⟩ := km j m' e2
    rw [get_wipe h1] at e3
    rw [get_wipe h3] at e4
    exact r.ap i j m m' q h2 h4 e3 e4
  · obtain ⟨h1, h2⟩ := keep i fun z => by rw [z] at e1; cases e1
    rw [get_wipe h1] at e2
    exact r.pm i m q (by rw [← h2]; exact e1) e2
  · obtain ⟨m, h1, h2⟩ := r.pk i q e
    have hi : i ∉ vs := fun z => by rw [hn i z] at e; cases e
    exact ⟨m, by rw [gt_wipe, if_neg hi]; exact h1, by rw [get_wipe hi]; exact h2⟩
  · rw [len_wipe, wipe_length]; exact r.len
/-- an object D that is not the def's own is written -/
theorem Rl.other {q : Addr} {o u : HO} (r : Rl K pa ms os σ H g) (h : H q = some u) (hu : ¬ Frz u) (hm : ms q) (ho : ¬ os q) : Rl K pa ms os σ (upd H q o) g := by
  have k : Kp (fun a => a = q) H (upd H q o) := .set h hu rfl
  have wm : ∀ a, a = q → ms a := fun a e => by rw [e]; exact hm
  refine ⟨fun i d e => ?_, fun i m e => ?_, r.ap, r.pm, r.pk, r.len, r.sub, fun a z e => r.dom a z (k.2 a e)⟩
  · obtain ⟨v, h1, h2⟩ := r.va i d e
    exact ⟨v, h1, h2.keep k wm⟩
  · obtain ⟨a, h1, h2, h3⟩ := r.mo i m e
    exact ⟨a, h1, h2, h3.keep k wm fun z => ho (by rw [← z]; exact h2)⟩
theorem Rl.rest {vs : List Nat} (r0 : Rl K pa ms os σ H1 g) (no : noO g vs = true) (hp : ∀ i ∈ vs, pa i = none) (hm : ∀ a, ms' a → ms a ∨ H1 a = none) (k : Kp os H1 H) (r : Rl K pa ms' os (L2.wipe σ vs) H (wipeG g' vs)) : Rl K pa ms' os σ H (restG g g' vs) := by
  have nomo : ∀ i ∈ vs, (gt g i).mo = none := fun i hi => by
    have := List.all_eq_true.mp no i hi
    simpa using this
  have out : ∀ i, i ∉ vs → gt (restG g g' vs) i = gt (wipeG g' vs) i := fun i hi => by
    rw [gt_rest, gt_wipe, if_neg hi, if_neg (fun z => hi z.1)]
  have inn : ∀ i, i ∈ vs → gt (restG g g' vs) i = gt g i ∨ gt (restG g g' vs) i = .no := fun i hi => by
    rw [gt_rest]
    by_cases h : i < g'.length
    · rw [if_pos ⟨hi, h⟩]; exact .inl rfl
    · rw [if_neg (fun z => h z.2), gt_eq, List.getElem?_eq_none (by omega)]; exact .inr rfl
  have km : ∀ i m, (gt (restG g g' vs) i).mo = some m → i ∉ vs ∧ (gt (wipeG g' vs) i).mo = some m := fun i m e => by
    have hi : i ∉ vs := fun hi => by
      rcases inn i hi with z | z
      · rw [z, nomo i hi] at e; cases e
      · rw [z] at e; cases e
    exact ⟨hi, by rw [← out i hi]; exact e⟩
  refine ⟨fun i d e => ?_, fun i m e => ?_, fun i j m m' q e1 e2 e3 e4 => ?_, fun i m q e1 e2 => ?_, fun i q e => ?_, ?_, r.sub, r.dom⟩
  · by_cases hi : i ∈ vs
    · rcases inn i hi with z | z
      · obtain ⟨v, h1, h2⟩ := r0.va i d (by rw [← z]; exact e)
        exact ⟨v, h1, h2.move k r0.sub hm⟩
      · rw [z] at e; cases e
    · obtain ⟨v, h1, h2⟩ := r.va i d (by rw [← out i hi]; exact e)
      rw [get_wipe hi] at h1
      exact ⟨v, h1, h2⟩
  · obtain ⟨h1, h2⟩ := km i m e
    obtain ⟨q, h3, h4⟩ := r.mo i m h2
    rw [get_wipe h1] at h3
    exact ⟨q, h3, h4⟩
  · obtain ⟨h1, h2⟩ := km i m e1
    obtain ⟨h3, h4⟩ := km j m' e2
    exact r.ap i j m m' q h2 h4 (by rw [get_wipe h1]; exact e3) (by rw [get_wipe h3]; exact e4)
  · obtain ⟨h1, h2⟩ := km i m (by rw [e1]; rfl)
    exact r.pm i m q (by rw [← out i h1]; exact e1) (by rw [get_wipe h1]; exact e2)
  · have hi : i ∉ vs := fun z => by rw [hp i z] at e; cases e
    obtain ⟨m, h1, h2⟩ := r.pk i q e
    rw [get_wipe hi] at h2
    exact ⟨m, by rw [out i hi]; exact h1, h2⟩
  · have := r.len
    rw [len_wipe, wipe_length] at this
    rw [len_rest]; exact this
theorem noO.pn {vs : List Nat} (r : Rl K pa ms os σ H g) (no : noO g vs = true) : ∀ i ∈ vs, pa i = none := fun i hi => by
  cases e : pa i with
  | none => rfl
  | some q =>
    obtain ⟨m, h1, _⟩ := r.pk i q e
    have := List.all_eq_true.mp no i hi
    rw [h1] at this
    cases this
theorem wipe_wipe {vs : List Nat} : L2.wipe (L2.wipe σ vs) vs = L2.wipe σ vs := wipe_same ⟨wipe_length σ vs, fun j h => get_wipe h⟩
/-- the reading of a comprehension -/
theorem lc_read {elt : Expr} {is vs : List Nat} {m : M (List D)} {t : Tg} {c : M Bool} {me : M Op} {Q : VK} (his : ∀ i ∈ is, i ∈ vs)
    (z : Enw K pa W (cmp vs m t c me) σ H Q) : tLc (Ix K pa W m) (Gx K pa is t) (Et K pa W0 c) (Eo K pa W0 me) vs σ H Q := by
  obtain ⟨ms, os, g, r, z⟩ := z
  refine ⟨ms, os, g, r, z.bnd.mono (fun ds g1 o J H1 r1 k1 it q hq => ?_) fun _ _ q => q⟩
  by_cases no : noO g1 vs = true
  · rw [if_pos no] at o
    have hpa := noO.pn r1 no
    -- the last step
    have o' : ∃ xs g', cmL vs t c me ds [] g1 = .ok xs g' ∧ Nw K pa ms os σ H Q xs (restG g1 g' vs) := by
      cases e : cmL vs t c me ds [] g1 with
      | ok xs g' => rw [e] at o; exact ⟨xs, g', rfl, o⟩
      | ex x g' => rw [e] at o; exact o.elim
      | bad => rw [e] at o; exact o.elim
    clear o
    obtain ⟨ys, gE, oe, fin⟩ := o'
    have nos : ¬ os q := fun z => r1.dom q (r1.sub q z) hq
    have hm : ∀ a, plus ms q a → ms a ∨ H1 a = none := fun a z => z.imp id fun z => by rw [z]; exact hq
    refine ⟨fun i n H' => n = ds.length - i ∧ i ≤ ds.length ∧ ∃ g', Rl K pa (plus ms q) os (L2.wipe σ vs) H' (wipeG g' vs) ∧ Kp os H1 H' ∧ ∃ vacc acc, H' q = some (.lst vacc) ∧ RepL K (plus ms q) H' vacc acc ∧ cmL vs t c me (ds.drop i) acc g' = .ok ys gE,
      ⟨ds.length, rfl, Nat.zero_le _, g1, (r1.laid hq).wipe hpa, .new hq, [], [], upd_same, .nil, oe⟩, ?_⟩
    rintro i n H2 ⟨rfl, hi, g2, r2, k2, vacc, acc, hD, hR, o2⟩
    by_cases hl : i < ds.length
    · refine .inr ⟨it.go i H2 k2 hl, fun H' => i + 1 ≤ ds.length ∧ ∃ g', Rl K pa (plus ms q) os (L2.wipe σ vs) H' (wipeG g' vs) ∧ Kp os H1 H' ∧ ∃ vacc acc, H' q = some (.lst vacc) ∧ RepL K (plus ms q) H' vacc acc ∧ cmL vs t c me (ds.drop (i + 1)) acc g' = .ok ys gE,
        fun H' z => ⟨ds.length - (i + 1), by omega, rfl, z⟩, fun x H3 y => ?_⟩
      have hd : ds[i]? = some ds[i] := List.getElem?_eq_getElem hl
      obtain ⟨k3, rep⟩ := it.yld i x H2 H3 _ k2 hd y
      have e1 : ds.drop i = ds[i] :: ds.drop (i + 1) := List.drop_eq_getElem_cons hl
      rw [e1] at o2
      have r3 := r2.kp k3
      have rp := rep (plus ms q) hm
      unfold cmL at o2
      cases e2 : t ds[i] (wipeG g2 vs) with
      | none => rw [e2] at o2; cases o2
      | some g3 =>
        rw [e2] at o2
        simp only at o2
        refine ⟨plus ms q, os, wipeG g2 vs, _, g3, r3, rp, e2, fun σ4 H4 off r4 k4 => ⟨?_, ?_⟩⟩
        · have := wipe_same (vs := vs) (σ := L2.wipe σ vs) (σ' := σ4) ⟨off.1, fun j hj => off.2 j fun z => hj (his j z)⟩
          rw [this, wipe_wipe]
        have ws : L2.wipe σ4 vs = L2.wipe σ vs := by
          have := wipe_same (vs := vs) (σ := L2.wipe σ vs) (σ' := σ4) ⟨off.1, fun j hj => off.2 j fun z => hj (his j z)⟩
          rw [this, wipe_wipe]
        have kk : Kp os H1 H4 := (k2.trans k3.now).trans k4
        -- the test
        refine ⟨plus ms q, os, g3, r4, ?_⟩
        have oc : ∃ b g4, c g3 = .ok b g4 ∧ (match b with
            | false => cmL vs t c me (ds.drop (i + 1)) acc
            | true => bnd (noex me) fun x => match x with
              | .o _ => bad
              | .d y => if acc.length < 16777216 then cmL vs t c me (ds.drop (i + 1)) (acc ++ [y]) else bad) g4 = .ok ys gE := by
          unfold bnd noex at o2
          cases e : c g3 with
          | ok b g4 => rw [e] at o2; exact ⟨b, g4, rfl, o2⟩
          | ex x g4 => rw [e] at o2; cases o2
          | bad => rw [e] at o2; cases o2
        obtain ⟨b, g4, ec, o3⟩ := oc
        rw [ec]
        intro H5 r5 k5
        have rq : ∀ {H' : Hp}, Kp os H2 H' → H' q = some (.lst vacc) ∧ RepL K (plus ms q) H' vacc acc := fun k => ⟨k.1 q _ hD fun z => absurd z nos, hR.keep k fun a z => .inl (r1.sub a z)⟩
        cases b with
        | false =>
          rw [if_neg (by decide)]
          obtain ⟨d1, d2⟩ := rq ((k3.now.trans k4).trans k5)
          refine ⟨hl, g4, ?_, kk.trans k5, vacc, acc, d1, d2, o3⟩
          rw [← ws]
          exact r5.wipe hpa
        | true =>
          rw [if_pos rfl]
          have oe2 : ∃ y g5, me g4 = .ok (.d y) g5 ∧ acc.length < 16777216 ∧ cmL vs t c me (ds.drop (i + 1)) (acc ++ [y]) g5 = .ok ys gE := by
            simp only at o3
            unfold bnd noex at o3
            cases e : me g4 with
            | ok x g5 =>
              rw [e] at o3
              cases x with
              | o j => cases o3
              | d y =>
                simp only at o3
                by_cases ha : acc.length < 16777216
                · rw [if_pos ha] at o3; exact ⟨y, g5, rfl, ha, o3⟩
                · rw [if_neg ha] at o3; cases o3
            | ex x g4 => rw [e] at o3; cases o3
            | bad => rw [e] at o3; cases o3
          obtain ⟨y, g5, ee, ha, o4⟩ := oe2
          refine ⟨plus ms q, os, g4, r5, ?_⟩
          rw [ee]
          intro v H6 r6 k6 rep6
          have rep6 : Rep K (plus ms q) H6 v y := rep6
          obtain ⟨d1, d2⟩ := rq (((k3.now.trans k4).trans k5).trans k6)
          have kq : Kp (fun a => a = q) H6 (upd H6 q (.lst (vacc ++ [v]))) := .set d1 (fun z => z) rfl
          have wm : ∀ a, a = q → plus ms q a := fun a z => .inr z
          refine ⟨vacc, d1, by rw [d2.length]; exact Nat.lt_of_lt_of_le ha (by decide), hl, g5, ?_, ?_, vacc ++ [v], acc ++ [y], upd_same, (d2.keep kq wm).append (.cons (rep6.keep kq wm) .nil), o4⟩
          · rw [← ws]
            exact (r6.other d1 (fun z => z) (.inr rfl) nos).wipe hpa
          · exact ((kk.trans k5).trans k6).fresh kq fun a z => .inr (by rw [z]; exact hq)
    · have e1 : ds.drop i = [] := List.drop_eq_nil_of_le (by omega)
      rw [e1] at o2
      cases o2
      refine .inl ⟨it.stop i H2 k2 (by omega), ?_⟩
      exact fin q vacc H2 (k1.2 q hq) hD (Rl.rest r1 no hpa hm k2 r2) (k1.trans k2) hR
  · rw [if_neg no] at o
    exact o.elim
def yes : M Bool := ret true
structure RTs (X : Cx) (pa : Nat → Option Addr) (ifs : List Expr) (c : M Bool) : Prop where
  pts : PTs X ifs (Et X.K pa W0 c)
theorem _root_.L2.PTs.imp {X : Cx} {e : List Expr} {t t' : TT} (h : PTs X e t) (q : ∀ σ H Q, t' σ H Q → t σ H Q) : PTs X e t' := ⟨fun pins s σ H Q I z => h.run pins s σ H Q I (q σ H Q z)⟩
theorem rts_nil : RTs X pa [] yes := ⟨pts_nil.imp fun σ H Q ⟨ms, os, g, r, z⟩ => z H r .refl⟩
theorem rts_one {c : Expr} {m : M Bool} (h : RT X pa W0 c m) : RTs X pa [c] m := ⟨pts_one h.pt⟩
theorem rn_lc {elt iter : Expr} {ifs : List Expr} {scope : Scope} {own : List (Str × Nat)} {is : List Nat} {m : M (List D)} {t : Tg} {c : M Bool} {me : M Op} (hc : X.calm = true) (hN : X.N.Nodup) (hi : RI X pa W tg iter m) (ok : BlkOk X.N X.env.scope scope own) (his : ∀ i ∈ is, i ∈ own.map (·.2))
    (hg : ∀ (s : Shared) (H : Hp) (C : Addr) (cl : List (Str × Addr)) (fp : List Addr), RG (X.blk s H scope (compEnvC scope cl C X.env) fp) pa tg is t) (ht : ∀ (s : Shared) (H : Hp) (C : Addr) (cl : List (Str × Addr)) (fp : List Addr), RTs (X.blk s H scope (compEnvC scope cl C X.env) fp) pa ifs c)
    (he : ∀ (s : Shared) (H : Hp) (C : Addr) (cl : List (Str × Addr)) (fp : List Addr), RO (X.blk s H scope (compEnvC scope cl C X.env) fp) pa W0 elt me) (hs : ∀ x, foldedSetIterable iter X.env x = pure x := by intro _; rfl) :
    RN X pa W (.ListComp elt [⟨tg, iter, ifs, 0⟩] scope pos) (cmp (own.map (·.2)) m t c me) :=
  ⟨(pe_lc hc hN hi.pi ok (fun s H C cl fp => (hg s H C cl fp).pg) (fun s H C cl fp => (ht s H C cl fp).pts) (fun s H C cl fp => (he s H C cl fp).pe) hs).imp fun σ H Q z => lc_read (elt := elt) his z⟩
theorem ps_lcSet {i : Nat} {y : Str} {py : Pos} {elt iter : Expr} {ifs : List Expr} {scope : Scope} {own : List (Str × Nat)} {spos : Pos} {is : List Nat} {m : M (List D)} {t : Tg} {c : M Bool} {me : M Op} (hc : X.calm = true) (hN : X.N.Nodup) (hy : X.N[i]? = some y) (hyl : X.env.scope.names.lookup y = some .local)
    (hsw : swapsWith (.ListComp elt [⟨tg, iter, ifs, 0⟩] scope pos) (some (.Name y py)) spos.line X.env = pure true) (hi : RI X pa W tg iter m) (ok : BlkOk X.N X.env.scope scope own) (his : ∀ i ∈ is, i ∈ own.map (·.2))
    (hg : ∀ (s : Shared) (H : Hp) (C : Addr) (cl : List (Str × Addr)) (fp : List Addr), RG (X.blk s H scope (compEnvC scope cl C X.env) fp) pa tg is t) (ht : ∀ (s : Shared) (H : Hp) (C : Addr) (cl : List (Str × Addr)) (fp : List Addr), RTs (X.blk s H scope (compEnvC scope cl C X.env) fp) pa ifs c)
    (he : ∀ (s : Shared) (H : Hp) (C : Addr) (cl : List (Str × Addr)) (fp : List Addr), RO (X.blk s H scope (compEnvC scope cl C X.env) fp) pa W0 elt me) (hs : ∀ x, foldedSetIterable iter X.env x = pure x := by intro _; rfl) :
    PS X (.Assign [.Name y py] (.ListComp elt [⟨tg, iter, ifs, 0⟩] scope pos) spos) (fun D σ H => Enw X.K pa W (cmp (own.map (·.2)) m t c me) σ H fun v H1 => D.nx (σ.set i (some v)) H1) :=
  (ps_setLc hc hN hy hyl hsw hi.pi ok (fun s H C cl fp => (hg s H C cl fp).pg) (fun s H C cl fp => (ht s H C cl fp).pts) (fun s H C cl fp => (he s H C cl fp).pe) hs).imp fun D σ H z => lc_read (elt := elt) his z
/-- y = [..], the list y's own (changed later), or a value -/
theorem rs_lcNew {i : Nat} {st : Stmt} {m : M (List D)} (h : PS X st (fun D σ H => Enw X.K pa W m σ H fun v H1 => D.nx (σ.set i (some v)) H1)) : RS X pa W st (sNew i m) :=
  ⟨h.imp fun D σ H ⟨ms, os, g, r, z⟩ => ⟨ms, os, g, r, new_fin r z⟩⟩
theorem rs_lcVal {i : Nat} {st : Stmt} {m : M (List D)} (h : PS X st (fun D σ H => Enw X.K pa W m σ H fun v H1 => D.nx (σ.set i (some v)) H1)) : RS X pa W st (sAsg (bnd m fun xs => ret (.lst xs)) (tName i)) :=
  ⟨h.imp fun D σ H ⟨ms, os, g, r, z⟩ => ⟨ms, os, g, r, (thenE.out z).bnd.mono (fun xs g1 q p vs H1 hp e r1 k1 rep => by
    have q : Fin X.K pa W D ms os H (match tName i (.lst xs) g1 with
      | some g' => Ro.nx g'
      | none => Ro.bad) := q
    cases e1 : tName i (.lst xs) g1 with
    | none => rw [e1] at q; exact q.elim
    | some g2 =>
      rw [e1] at q
      have r2 : Rl X.K pa ms os σ H1 g1 := r1.less (fun a q => .inl q) r.sub
      have rp : Rep X.K ms H1 (.ref p) (.lst xs) := .lst (fun q => r.dom p q hp) e (rep.anti fun a q => .inl (.inl q))
      exact q ms os _ H1 (r2.setV e1 rp) (.same k1)) fun _ _ q => q⟩⟩
end
end Mir

namespace Mir
open PySem L2
/-! built-in functions on data -/
section
variable {K : PySem.W.Frag}
theorem on1 {r : List V → Hp → VK → Prop} {f : D → Option D} (h : ∀ (ms os : Addr → Prop) (H : Hp) (Q : VK) (v : V) (x z : D), (∀ a, os a → ms a) → (∀ a, ms a → H a ≠ none) → RepB K ms os H v x → f x = some z → (∀ u H', Kp NoW H H' → Rep K ms H' u z → Q u H') → r [v] H Q) : OpN K r (fun ds => match ds with
    | [d] => f d
    | _ => none) := fun ms os H Q vs xs z hs hd p e hQ => by
  cases p with
  | nil => cases e
  | cons a l =>
    cases l with
    | nil => exact h ms os H Q _ _ z hs hd a e hQ
    | cons b l => cases e
theorem on2 {r : List V → Hp → VK → Prop} {f : D → D → Option D} (h : ∀ (ms os : Addr → Prop) (H : Hp) (Q : VK) (v w : V) (x y z : D), (∀ a, os a → ms a) → (∀ a, ms a → H a ≠ none) → RepB K ms os H v x → RepB K ms os H w y → f x y = some z → (∀ u H', Kp NoW H H' → Rep K ms H' u z → Q u H') → r [v, w] H Q) : OpN K r (fun ds => match ds with
    | [d, d'] => f d d'
    | _ => none) := fun ms os H Q vs xs z hs hd p e hQ => by
  cases p with
  | nil => cases e
  | cons a l =>
    cases l with
    | nil => cases e
    | cons b l =>
      cases l with
      | nil => exact h ms os H Q _ _ _ _ z hs hd a b e hQ
      | cons b l => cases e
def absD : D → Option D
  | .int i => some (.int (if i < 0 then -i else i))
  | _ => none
def absN : List D → Option D := fun ds => match ds with
  | [d] => absD d
  | _ => none
theorem on_abs : OpN K (fun xs H Q => ∃ i, xs = [.int i] ∧ Q (.int (if i < 0 then -i else i)) H) absN := on1 fun ms os H Q v x z _ _ hv e hQ => by
  cases x <;> cases e
  exact ⟨_, by rw [hv.int], hQ _ H .refl (.int _)⟩
def negD : D → Option D
  | .int i => some (.int (-i))
  | _ => none
theorem on_neg : OpN K (fun vs H Q => ∃ v, vs = [v] ∧ rU (fun i => V.int (-i)) v H Q) (fun ds => match ds with | [d] => negD d | _ => none) := on1 fun ms os H Q v x z _ _ hv e hQ => by
  cases x <;> cases e
  exact ⟨v, rfl, _, hv.int, hQ _ H .refl (.int _)⟩
def intD : D → Option D
  | .int i => some (.int i)
  | .bl b => some (.int (if b then 1 else 0))
  | _ => none
def intN : List D → Option D := fun ds => match ds with
  | [d] => intD d
  | _ => none
theorem on_int : OpN K (fun xs H Q => (∃ i, xs = [.int i] ∧ Q (.int i) H) ∨ ∃ k, xs = [.bl k] ∧ Q (.int (if k then 1 else 0)) H) intN := on1 fun ms os H Q v x z _ _ hv e hQ => by
  cases x <;> cases e
  · exact .inr ⟨_, by rw [hv.bl], hQ _ H .refl (.int _)⟩
  · exact .inl ⟨_, by rw [hv.int], hQ _ H .refl (.int _)⟩
def maxD : D → D → Option D
  | .int i, .int j => some (.int (if j > i then j else i))
  | _, _ => none
def maxN : List D → Option D := fun ds => match ds with
  | [d, d'] => maxD d d'
  | _ => none
theorem on_max : OpN K (fun xs H Q => ∃ i j, xs = [.int i, .int j] ∧ Q (.int (if j > i then j else i)) H) maxN := on2 fun ms os H Q v w x y z _ _ hv hw e hQ => by
  cases x <;> cases y <;> cases e
  exact ⟨_, _, by rw [hv.int, hw.int], hQ _ H .refl (.int _)⟩
def minD : D → D → Option D
  | .int i, .int j => some (.int (if j < i then j else i))
  | _, _ => none
def minN : List D → Option D := fun ds => match ds with
  | [d, d'] => minD d d'
  | _ => none
theorem on_min : OpN K (fun xs H Q => ∃ i j, xs = [.int i, .int j] ∧ Q (.int (if j < i then j else i)) H) minN := on2 fun ms os H Q v w x y z _ _ hv hw e hQ => by
  cases x <;> cases y <;> cases e
  exact ⟨_, _, by rw [hv.int, hw.int], hQ _ H .refl (.int _)⟩
def lenD : D → Option D
  | .tup xs => some (.int xs.length)
  | .lst xs => some (.int xs.length)
  | .frl xs => some (.int xs.length)
  | .str x => if x.length ≤ 16777216 then some (.int x.length) else none
  | _ => none
def lenN : List D → Option D := fun ds => match ds with
  | [d] => lenD d
  | _ => none
theorem on_len : OpN K (fun xs H Q => ∃ x n, xs = [x] ∧ LenV K x H n ∧ Q (.int n) H) lenN := on1 fun ms os H Q v x z _ _ hv e hQ => by
  cases x with
  | tup xs =>
    cases e
    obtain ⟨a, vs, rfl, s, l⟩ := hv.tup
    exact ⟨_, xs.length, rfl, .inr ⟨vs, s, l.length.symm⟩, hQ _ H .refl (.int _)⟩
  | lst xs =>
    cases e
    obtain ⟨a, vs, rfl, s, l⟩ := hv.lst
    exact ⟨_, xs.length, rfl, .inl ⟨vs, SqL.of s, l.length.symm⟩, hQ _ H .refl (.int _)⟩
  | frl xs =>
    cases e
    obtain ⟨a, vs, rfl, s, l⟩ := hv.frl
    exact ⟨_, xs.length, rfl, .inl ⟨vs, s.sq, l.length.symm⟩, hQ _ H .refl (.int _)⟩
  | str x =>
    unfold lenD at e
    simp only at e
    split at e <;> cases e
    rename_i hx
    rw [hv.str]
    exact ⟨_, x.length, rfl, ⟨Nat.le_trans hx (by decide), rfl⟩, hQ _ H .refl (.int _)⟩
  | _ => cases e
def tupD : D → Option D
  | .tup xs => some (.tup xs)
  | .lst xs => some (.tup xs)
  | .frl xs => some (.tup xs)
  | _ => none
def tupN : List D → Option D := fun ds => match ds with
  | [d] => tupD d
  | _ => none
theorem on_tup : OpN K (fun xs H Q => ∃ p ys, xs = [.ref p] ∧ ((SqL K H p ys ∧ ∀ l, H l = none → Q (.ref l) (upd H l (.tup ys))) ∨ (SqT K H p ys ∧ Q (.ref p) H))) tupN := on1 fun ms os H Q v x z _ _ hv e hQ => by
  cases x with
  | tup xs =>
    cases e
    obtain ⟨a, vs, rfl, s, l⟩ := hv.tup
    exact ⟨_, _, rfl, .inr ⟨s, hQ _ H .refl (.tup s l)⟩⟩
  | lst xs =>
    cases e
    obtain ⟨a, vs, rfl, s, l⟩ := hv.lst
    refine ⟨_, _, rfl, .inl ⟨SqL.of s, fun p hp => ?_⟩⟩
    obtain ⟨k, rp⟩ := new_tup hp l
    exact hQ _ _ k rp
  | frl xs =>
    cases e
    obtain ⟨a, vs, rfl, s, l⟩ := hv.frl
    refine ⟨_, _, rfl, .inl ⟨s.sq, fun p hp => ?_⟩⟩
    obtain ⟨k, rp⟩ := new_tup hp l
    exact hQ _ _ k rp
  | _ => cases e
def bls : List D → Option (List Bool)
  | [] => some []
  | .bl b :: r => (bls r).map (b :: ·)
  | _ => none
theorem bls_ok {ms : Addr → Prop} {H : Hp} : ∀ {xs : List D} {vs : List V} {bs : List Bool}, RepL K ms H vs xs → bls xs = some bs → vs = bs.map V.bl
  | [], _, _, .nil, e => by cases e; rfl
  | d :: r, _, _, .cons a l, e => by
    cases d with
    | bl b =>
      unfold bls at e
      obtain ⟨bs, h1, rfl⟩ := Option.map_eq_some_iff.mp e
      cases a
      rw [bls_ok l h1]; rfl
    | _ => cases e
def allD : D → Option D
  | .lst xs => (bls xs).map fun bs => .bl (bs.all id)
  | _ => none
def anyD : D → Option D
  | .lst xs => (bls xs).map fun bs => .bl (bs.any id)
  | _ => none
def allN : List D → Option D := fun ds => match ds with
  | [d] => allD d
  | _ => none
def anyN : List D → Option D := fun ds => match ds with
  | [d] => anyD d
  | _ => none
theorem on_all : OpN K (rAll K) allN := on1 fun ms os H Q v x z _ _ hv e hQ => by
  cases x with
  | lst xs =>
    obtain ⟨a, vs, rfl, s, l⟩ := hv.lst
    obtain ⟨bs, h1, rfl⟩ := Option.map_eq_some_iff.mp e
    have := bls_ok l h1
    subst this
    exact ⟨a, bs, rfl, SqL.of s, hQ _ H .refl (.bl _)⟩
  | _ => cases e
theorem on_any : OpN K (rAny K) anyN := on1 fun ms os H Q v x z _ _ hv e hQ => by
  cases x with
  | lst xs =>
    obtain ⟨a, vs, rfl, s, l⟩ := hv.lst
    obtain ⟨bs, h1, rfl⟩ := Option.map_eq_some_iff.mp e
    have := bls_ok l h1
    subst this
    exact ⟨a, bs, rfl, SqL.of s, hQ _ H .refl (.bl _)⟩
  | _ => cases e
/-! isinstance -/
def tyD : D → Option String
  | .non => some "NoneType"
  | .bl _ => some "bool"
  | .int _ => some "int"
  | .str _ => some "str"
  | .tup _ => some "tuple"
  | .lst _ => some "list"
  | .frl _ => some "list"
  | _ => none
def isT (a b : String) : Option Bool :=
  if b = "int" then some (a == "int" || a == "bool") else if b = "bool" then some (a == "bool") else if b = "str" then some (a == "str") else if b = "tuple" then some (a == "tuple") else if b = "list" then some (a == "list") else if b = "dict" then some (a == "dict") else none
def isiD : D → D → Option D
  | x, .ty b => match tyD x with
    | some a => (isT a b).map .bl
    | none => none
  | _, _ => none
def isiN : List D → Option D := fun ds => match ds with
  | [d, d'] => isiD d d'
  | _ => none
def tyNames : List String := ["NoneType", "bool", "int", "str", "tuple", "list", "dict"]
theorem isT_all : (tyNames.all fun a => ["int", "bool", "str", "tuple", "list", "dict"].all fun b => kitB a b == isT a b) = true := by decide +kernel
theorem tyD_mem {x : D} {a : String} (h : tyD x = some a) : a ∈ tyNames := by
  cases x <;> cases h <;> decide
theorem isT_kit {a b : String} {r : Bool} (ha : a ∈ tyNames) (h : isT a b = some r) : kitB a b = some r := by
  have hb : b ∈ ["int", "bool", "str", "tuple", "list", "dict"] := by
    unfold isT at h
    repeat' split at h
    all_goals first
      | (subst b; decide)
      | cases h
  have z := List.all_eq_true.mp (List.all_eq_true.mp isT_all a ha) b hb
  rw [← h]
  exact eq_of_beq z
theorem RepB.tyx {ms os : Addr → Prop} {H : Hp} {v : V} {x : D} {a : String} (r : RepB K ms os H v x) (h : tyD x = some a) : TyX K H v (.type a) := by
  cases x with
  | non => cases h; rw [r.non]; exact .base .non
  | bl b => cases h; rw [r.bl]; exact .base (.bl b)
  | int i => cases h; rw [r.int]; exact .base (.int i)
  | str s => cases h; rw [r.str]; exact .base (.str s)
  | tup xs =>
    cases h
    obtain ⟨a, vs, rfl, s, l⟩ := r.tup
    rcases s with (e | ⟨o, e⟩) | ⟨o, its, n, e, c, _⟩
    · exact .base (.tup e)
    · exact .fTuple e
    · exact .kTuple e c
  | lst xs =>
    cases h
    obtain ⟨a, vs, rfl, s, l⟩ := r.lst
    exact .base (.lst s)
  | frl xs =>
    cases h
    obtain ⟨a, vs, rfl, s, l⟩ := r.frl
    rcases s with ⟨o, e⟩ | ⟨o, its, n, e, c, _⟩
    · exact .base (.frz e)
    · exact .kList e c
  | ref a => cases h
  | ty n => cases h
theorem on_isi : OpN K (rIsi K) isiN := on2 fun ms os H Q v w x y z _ _ hv hw e hQ => by
  unfold isiD at e
  split at e
  · rename_i b
    split at e
    · rename_i a ha
      obtain ⟨r, h1, rfl⟩ := Option.map_eq_some_iff.mp e
      rw [hw.ty]
      exact ⟨v, _, _, _, r, rfl, .ty b, hv.tyx ha, kit_ty (isT_kit (tyD_mem ha) h1), hQ _ H .refl (.bl r)⟩
    · cases e
  · cases e
theorem rep_ty {ms : Addr → Prop} {H : Hp} {n : String} : Rep K ms H (.ty n) (.ty n) := .ty n
end
/-! a def's body -/
def fin1 : Ro → Fd
  | .rt (.va d) _ => .ok d
  | .rt (.ow (.ls xs)) _ => .new xs
  | .nx _ => .ok .non
  | .ex x _ => .ex x
  | _ => .bad
def fnD (k : Nat) (b : Ms) : List D → Fd := fun ds => fin1 (b (ds.map .va ++ List.replicate k .no))
def fin2 : Ro → Fm
  | .rt (.va d) g => match gt g 0 with
    | .pm m => .ok d m
    | _ => .bad
  | .rt (.ow (.ls xs)) g => match gt g 0 with
    | .pm m' => .new xs m'
    | _ => .bad
  | .nx g => match gt g 0 with
    | .pm m => .ok .non m
    | _ => .bad
  | .ex x g => match gt g 0 with
    | .pm m => .ex x m
    | _ => .bad
  | _ => .bad
def fnM (k : Nat) (b : Ms) : Mo → List D → Fm := fun m ds => fin2 (b (.pm m :: ds.map .va ++ List.replicate k .no))
theorem gt_args {ds : List D} {k i : Nat} {s : Sl} (h : gt (ds.map .va ++ List.replicate k .no) i = s) (hs : s ≠ .no) : ∃ d, ds[i]? = some d ∧ s = .va d := by
  rw [gt_eq, List.getElem?_append] at h
  split at h
  · rw [List.getElem?_map] at h
    cases e : ds[i]? with
    | none => rw [e] at h; exact absurd h.symm hs
    | some d => rw [e] at h; exact ⟨d, rfl, h.symm⟩
  · rw [List.getElem?_replicate] at h
    split at h <;> exact absurd h.symm hs
section
variable {P : Program} {w : World} {K : PySem.W.Frag} {mg : Str → Option Value} {base : Heap} {x qual : Str} {params : Arguments} {body : List Stmt} {scope : Scope} {dvs : List V} {kws : List (Str × V)} {f : Addr} {fd : FuncData} {N ps : List Str} {k j : Nat} {m : Ms}
abbrev defW (E : XK) : WX := fun cls d _ H => E cls d H
/-- the def's context, at an entry -/
abbrev dcx (P : Program) (w : World) (K : PySem.W.Frag) (mg : Str → Option Value) (base : Heap) (N : List Str) (qual : Str) (scope : Scope) (f : Addr) (cd : Value) (A : Around) (outer : List Env) (s : Shared) (H : Hp) (E : XK) : Cx := cxOf (L2.CX P w) P w K mg base N qual scope f cd A outer s H E
theorem start_get {vs : List V} {i : Nat} {v : V} (h : vs[i]? = some v) : (L2.start N vs)[i]? = some (some v) := by
  unfold L2.start
  rw [List.getElem?_append_left (by rw [List.length_map]; exact (List.getElem?_eq_some_iff.mp h).1), List.getElem?_map, h]; rfl
theorem start_len {vs : List V} (h : vs.length ≤ N.length) : (L2.start N vs).length = N.length := by
  unfold L2.start
  rw [List.length_append, List.length_map, List.length_replicate]; omega
theorem pre_len {l ps : List Str} (h : l.take ps.length = ps) : ps.length ≤ l.length := by
  have := congrArg List.length h
  rw [List.length_take] at this
  omega
theorem def_okD (F : L2.FunD K x qual params body scope dvs kws f fd) (S : FnScope N ps scope) (hj : ps.length + j = N.length)
    (hb : ∀ (cdv : Value) (A : Around) (outer : List Env) (s : Shared) (H : Hp) (E : XK) (pa : Nat → Option Addr), (dcx P w K mg base N qual scope f cdv A outer s H E).A.guards = some [] → Room k (dcx P w K mg base N qual scope f cdv A outer s H E).A → RSs (dcx P w K mg base N qual scope f cdv A outer s H E) pa (defW E) body m) :
    FnG P w K mg base (L2.CX P w) (k + 1) f fd ps (spD K ps.length (fnD j m)) := by
  refine funG F S (fun vs H Q E ⟨ms, ds, _, r, hl, _⟩ => by rw [r.length]; exact hl) fun cdv A outer s H vs Q E gd hr h => ⟨_, (hb cdv A outer s H E (fun _ => none) gd hr).ps, ?_⟩
  obtain ⟨ms, ds, hd, r, hl, h⟩ := h
  have rl : Rl K (fun _ => none) ms NoW (L2.start N vs) H (ds.map .va ++ List.replicate j .no) := by
    refine ⟨fun i d e => ?_, fun i m e => ?_, fun i l m m' p e _ _ _ => ?_, fun i m p e _ => ?_, fun i p e => (nomatch e), ?_, fun a z => z.elim, hd⟩
    · obtain ⟨d', h1, h2⟩ := gt_args e (fun z => nomatch z)
      cases h2
      obtain ⟨u, h3, h4⟩ := r.get h1
      exact ⟨u, start_get h3, h4⟩
    · obtain ⟨d', h1, h2⟩ := gt_args rfl (fun z => by rw [z] at e; cases e)
      rw [h2] at e; cases e
    · obtain ⟨d', h1, h2⟩ := gt_args rfl (fun z => by rw [z] at e; cases e)
      rw [h2] at e; cases e
    · obtain ⟨d', h1, h2⟩ := gt_args e (fun z => nomatch z)
      cases h2
    · rw [start_len (by rw [r.length, hl]; exact pre_len S.pre), List.length_append, List.length_map, List.length_replicate, hl, hj]
      exact Nat.le_refl _
  refine ⟨ms, NoW, _, rl, ?_⟩
  unfold fnD at h
  show Fin K _ _ _ ms NoW H (m (ds.map .va ++ List.replicate j .no))
  cases e : m (ds.map .va ++ List.replicate j .no) with
  | nx g => rw [e] at h; exact fun ms' os' σ' H' r' k' => h .non H' k'.kp .non
  | rt sl g =>
    rw [e] at h
    cases sl with
    | va d => exact fun ms' os' σ' H' v r' k' rp => h v H' k'.kp (Rep.anti rp fun a z => .inl (k'.up a z))
    | ow mo =>
      intro ms' os' σ' H' v r' k' rp
      obtain ⟨p, rfl, hp, hm, _⟩ := rp
      have hn : H p = none := (k'.og p hp).elim (fun z => z.elim) id
      cases mo with
      | ls xs =>
        obtain ⟨vs, v1, v2⟩ := hm
        exact h p vs H' hn v1 k'.kp (v2.anti fun a z => .inl (z.elim (k'.up a) fun z => by rw [z]; exact r'.sub p hp))
    | no => exact h.elim
    | pm mo => exact h.elim
  | ex x g => 
    rw [e] at h
    intro ms' os' σ' H' c dx r' k' xr
    refine h c dx H' k'.kp ⟨xr.1, ?_⟩
    have x2 := xr.2
    cases hf : x.fs with
    | none => rw [hf] at x2; exact x2
    | some fs =>
      rw [hf] at x2
      obtain ⟨a, vs, e1, e2, e3, e4⟩ := x2
      exact ⟨a, vs, e1, e2, e3, e4.anti fun a z => .inl (k'.up a z)⟩
  | bk g => rw [e] at h; exact h.elim
  | ct g => rw [e] at h; exact h.elim
  | bad => rw [e] at h; exact h.elim
theorem XRep.up {ms ms' : Addr → Prop} {H : Hp} {x : Xn} {c : Value} {dx : Option Addr} (xr : XRep K ms' H x c dx) (h : ∀ a, ms a → ms' a) : XRep K ms H x c dx := by
  refine ⟨xr.1, ?_⟩
  have x2 := xr.2
  cases hf : x.fs with
  | none => rw [hf] at x2; exact x2
  | some fs =>
    rw [hf] at x2
    obtain ⟨a, vs, e1, e2, e3, e4⟩ := x2
    exact ⟨a, vs, e1, e2, e3, e4.anti fun a z => .inl (h a z)⟩
theorem def_okM (F : L2.FunD K x qual params body scope dvs kws f fd) (S : FnScope N ps scope) (hj : ps.length + j = N.length)
    (hb : ∀ (cdv : Value) (A : Around) (outer : List Env) (s : Shared) (H : Hp) (E : XK) (pa : Nat → Option Addr), (dcx P w K mg base N qual scope f cdv A outer s H E).A.guards = some [] → Room k (dcx P w K mg base N qual scope f cdv A outer s H E).A → RSs (dcx P w K mg base N qual scope f cdv A outer s H E) pa (defW E) body m) :
    FnG P w K mg base (L2.CX P w) (k + 1) f fd ps (spM K ps.length (fnM j m)) := by
  refine funG F S (fun vs H Q E ⟨ms, p, m, ws, ds, e, _, _, _, r, hl, _⟩ => by rw [e, List.length_cons, r.length]; exact hl) fun cdv A outer s H vs Q E gd hr h => ?_
  obtain ⟨ms, p, m0, ws, ds, rfl, hp, hd, hm, r, hl, h⟩ := h
  let pa : Nat → Option Addr := fun i => if i = 0 then some p else none
  refine ⟨_, (hb cdv A outer s H E pa gd hr).ps, ?_⟩
  have g0 : gt (.pm m0 :: ds.map .va ++ List.replicate j .no) 0 = .pm m0 := rfl
  have gs : ∀ i, gt (.pm m0 :: ds.map .va ++ List.replicate j .no) (i + 1) = gt (ds.map .va ++ List.replicate j .no) i := fun _ => rfl
  have s0 : (L2.start N (.ref p :: ws))[0]? = some (some (.ref p)) := start_get rfl
  have only : ∀ i m, (gt (.pm m0 :: ds.map .va ++ List.replicate j .no) i).mo = some m → i = 0 ∧ m = m0 := fun i m e => by
    cases i with
    | zero => rw [g0] at e; cases e; exact ⟨rfl, rfl⟩
    | succ i =>
      rw [gs] at e
      obtain ⟨d', h1, h2⟩ := gt_args rfl (fun z => by rw [z] at e; cases e)
      rw [h2] at e; cases e
  have rl : Rl K pa ms (fun a => a = p) (L2.start N (.ref p :: ws)) H (.pm m0 :: ds.map .va ++ List.replicate j .no) := by
    refine ⟨fun i d e => ?_, fun i m e => ?_, fun i l m m' q e e' _ _ => ?_, fun i m q e e' => ?_, fun i q e => ?_, ?_, fun a z => by rw [z]; exact hp, hd⟩
    · cases i with
      | zero => rw [g0] at e; cases e
      | succ i =>
        rw [gs] at e
        obtain ⟨d', h1, h2⟩ := gt_args e (fun z => nomatch z)
        cases h2
        obtain ⟨u, h3, h4⟩ := r.get h1
        exact ⟨u, start_get (i := i + 1) h3, h4⟩
    · obtain ⟨rfl, rfl⟩ := only i m e
      exact ⟨p, s0, rfl, hm⟩
    · obtain ⟨rfl, rfl⟩ := only i m e
      obtain ⟨rfl, rfl⟩ := only l m' e'
      rfl
    · obtain ⟨rfl, rfl⟩ := only i m (by rw [e]; rfl)
      rw [s0] at e'; cases e'; rfl
    · by_cases hi : i = 0
      · subst hi
        have : some p = some q := e
        cases this
        exact ⟨m0, rfl, s0⟩
      · have : (if i = 0 then some p else none) = some q := e
        rw [if_neg hi] at this; cases this
    · rw [start_len (by rw [List.length_cons, r.length, hl]; exact pre_len S.pre), List.length_append, List.length_cons, List.length_map, List.length_replicate]
      omega
  refine ⟨ms, _, _, rl, ?_⟩
  unfold fnM at h
  show Fin K pa _ _ ms (fun a => a = p) H (m (.pm m0 :: ds.map .va ++ List.replicate j .no))
  have pm_at : ∀ {ms' os' : Addr → Prop} {σ' : L2.St} {H' : Hp} {g : En} {m' : Mo}, Rl K pa ms' os' σ' H' g → Ks ms (fun a => a = p) H ms' os' H' → gt g 0 = .pm m' → MRep K ms H' p m' := fun {ms' os' σ' H' g m'} r' k' e0 => by
    obtain ⟨q, h1, h2, h3⟩ := r'.mo 0 m' (by rw [e0]; rfl)
    have := r'.pm 0 m' q e0 h1
    have : some p = some q := this
    cases this
    cases m' with
    | ls xs =>
      obtain ⟨vs, v1, v2⟩ := h3
      exact ⟨vs, v1, v2.anti fun a z => .inl (k'.up a z)⟩
  cases e : m (.pm m0 :: ds.map .va ++ List.replicate j .no) with
  | nx g =>
    rw [e] at h
    intro ms' os' σ' H' r' k'
    cases e0 : gt g 0 with
    | pm m' => simp only [fin2, e0] at h; exact h .non H' k'.kp (pm_at r' k' e0) .non
    | no => simp only [fin2, e0] at h
    | va d => simp only [fin2, e0] at h
    | ow d => simp only [fin2, e0] at h
  | rt sl g =>
    rw [e] at h
    cases sl with
    | va d =>
      intro ms' os' σ' H' v r' k' rp
      cases e0 : gt g 0 with
      | pm m' => simp only [fin2, e0] at h; exact h v H' k'.kp (pm_at r' k' e0) (Rep.anti rp fun a z => .inl (k'.up a z))
      | no => simp only [fin2, e0] at h
      | va d => simp only [fin2, e0] at h
      | ow d => simp only [fin2, e0] at h
    | ow mo =>
      intro ms' os' σ' H' v r' k' rp
      obtain ⟨q, rfl, hq, hmo, hn⟩ := rp
      have hqn : H q = none := (k'.og q hq).elim (fun z => by
        have := hn 0
        exact absurd (show pa 0 = some q by rw [z]; rfl) this) id
      cases e0 : gt g 0 with
      | pm m' =>
        simp only [fin2, e0] at h
        cases mo with
        | ls xs =>
          obtain ⟨vs, v1, v2⟩ := hmo
          refine h q vs H' hqn v1 k'.kp ?_ (v2.anti fun a z => .inl (z.elim (k'.up a) fun z => by rw [z]; exact r'.sub q hq))
          obtain ⟨p2, f1, f2, f3⟩ := r'.mo 0 m' (by rw [e0]; rfl)
          have := r'.pm 0 m' p2 e0 f1
          have : some p = some p2 := this
          cases this
          cases m' with
          | ls zs =>
            obtain ⟨ws, w1, w2⟩ := f3
            exact ⟨ws, w1, w2.anti fun a z => .inl (z.elim (k'.up a) fun z => by rw [z]; exact r'.sub q hq)⟩
      | no => simp only [fin2, e0] at h
      | va d => simp only [fin2, e0] at h
      | ow d => simp only [fin2, e0] at h
    | no => exact h.elim
    | pm mo => exact h.elim
  | ex x g =>
    rw [e] at h
    intro ms' os' σ' H' c dx r' k' xr
    cases e0 : gt g 0 with
    | pm m' => simp only [fin2, e0] at h; exact h c dx H' k'.kp (pm_at r' k' e0) (xr.up k'.up)
    | no => simp only [fin2, e0] at h
    | va d => simp only [fin2, e0] at h
    | ow d => simp only [fin2, e0] at h
  | bk g => rw [e] at h; exact h.elim
  | ct g => rw [e] at h; exact h.elim
  | bad => rw [e] at h; exact h.elim
end
end Mir

namespace Mir
open PySem L2
structure CalD (P : Program) (w : World) (K : PySem.W.Frag) (mg : Str → Option Value) (base : Heap) (k : Nat) (x : Str) (n : Nat) (F : List D → Fd) (dfl : List D) : Prop where
  ex : ∃ (f : Addr) (fd : FuncData) (ps : List Str) (dvs : List V) (ds : List Value), FnG P w K mg base (L2.CX P w) k f fd ps (spD K n F) ∧ mg x = some (.ref f) ∧ PySem.W.keepIn K (.ref f) = true ∧ Binds K fd ps ds ∧ Vals dvs ds ∧ ∀ ms H, RepL K ms H dvs dfl
structure CalM (P : Program) (w : World) (K : PySem.W.Frag) (mg : Str → Option Value) (base : Heap) (k : Nat) (x : Str) (n : Nat) (F : Mo → List D → Fm) (dfl : List D) : Prop where
  ex : ∃ (f : Addr) (fd : FuncData) (ps : List Str) (dvs : List V) (ds : List Value), FnG P w K mg base (L2.CX P w) k f fd ps (spM K n F) ∧ mg x = some (.ref f) ∧ PySem.W.keepIn K (.ref f) = true ∧ Binds K fd ps ds ∧ Vals dvs ds ∧ ∀ ms H, RepL K ms H dvs dfl
section
variable {X : Cx} {pa : Nat → Option Addr} {W : WX} {pos p : Pos} {e : Expr} {es : List Expr} {k j n : Nat} {x : Str} {F : List D → Fd} {FM : Mo → List D → Fm} {dfl : List D} {m : M (List Op)}
theorem re_callC (c : CalD X.prog X.w X.K X.mg X.base j x n F dfl) (gd : X.A.guards = some []) (hr : Room k X.A) (tk : Takes X W) (ha : RA X pa W (e :: es) m) (hk : j ≤ k := by decide) (hg : Gl X x := by rfl) (hdb : (x == ("__debug__" : Str)) = false := by decide)
    (he : starEach (e :: es) X.env = (false, eval e X.env) :: starEach es X.env := by rfl) (hpl : (backTo pos (starEach es X.env)).any (·.1) = false := by rfl) : RE X pa W (.Call (.Name x p) (e :: es) [] pos) (bnd m (callF n F dfl)) := by
  obtain ⟨f, fd, ps, dvs, ds, h1, h2, h3, h4, h5, h6⟩ := c.ex
  exact re_call h1 gd (hr.mono hk) tk hg h2 h3 h4 h5 h6 ha hdb he hpl
theorem rn_callC (c : CalD X.prog X.w X.K X.mg X.base j x n F dfl) (gd : X.A.guards = some []) (hr : Room k X.A) (tk : Takes X W) (ha : RA X pa W (e :: es) m) (hk : j ≤ k := by decide) (hg : Gl X x := by rfl) (hdb : (x == ("__debug__" : Str)) = false := by decide)
    (he : starEach (e :: es) X.env = (false, eval e X.env) :: starEach es X.env := by rfl) (hpl : (backTo pos (starEach es X.env)).any (·.1) = false := by rfl) : RN X pa W (.Call (.Name x p) (e :: es) [] pos) (bnd m (callN n F dfl)) := by
  obtain ⟨f, fd, ps, dvs, ds, h1, h2, h3, h4, h5, h6⟩ := c.ex
  exact rn_call h1 gd (hr.mono hk) tk hg h2 h3 h4 h5 h6 ha hdb he hpl
theorem re_callMC (c : CalM X.prog X.w X.K X.mg X.base j x n FM dfl) (gd : X.A.guards = some []) (hr : Room k X.A) (tk : Takes X W) (ha : RA X pa W (e :: es) m) (hk : j ≤ k := by decide) (hg : Gl X x := by rfl) (hdb : (x == ("__debug__" : Str)) = false := by decide)
    (he : starEach (e :: es) X.env = (false, eval e X.env) :: starEach es X.env := by rfl) (hpl : (backTo pos (starEach es X.env)).any (·.1) = false := by rfl) : RE X pa W (.Call (.Name x p) (e :: es) [] pos) (bnd m (callM n FM dfl)) := by
  obtain ⟨f, fd, ps, dvs, ds, h1, h2, h3, h4, h5, h6⟩ := c.ex
  exact re_callM h1 gd (hr.mono hk) tk hg h2 h3 h4 h5 h6 ha hdb he hpl
theorem rn_callMC (c : CalM X.prog X.w X.K X.mg X.base j x n FM dfl) (gd : X.A.guards = some []) (hr : Room k X.A) (tk : Takes X W) (ha : RA X pa W (e :: es) m) (hk : j ≤ k := by decide) (hg : Gl X x := by rfl) (hdb : (x == ("__debug__" : Str)) = false := by decide)
    (he : starEach (e :: es) X.env = (false, eval e X.env) :: starEach es X.env := by rfl) (hpl : (backTo pos (starEach es X.env)).any (·.1) = false := by rfl) : RN X pa W (.Call (.Name x p) (e :: es) [] pos) (bnd m (callMN n FM dfl)) := by
  obtain ⟨f, fd, ps, dvs, ds, h1, h2, h3, h4, h5, h6⟩ := c.ex
  exact rn_callM h1 gd (hr.mono hk) tk hg h2 h3 h4 h5 h6 ha hdb he hpl
end
section
variable {P : Program} {w : World} {K : PySem.W.Frag} {mg : Str → Option Value} {base : Heap} {x y qual : Str} {params : Arguments} {body : List Stmt} {scope : Scope} {dvs : List V} {kws : List (Str × V)} {f : Addr} {fd : FuncData} {ps : List Str} {k n : Nat} {F : List D → Fd} {FM : Mo → List D → Fm} {dfl : List D}
theorem CalD.mk0 (G : FunD K x qual params body scope [] kws f fd) (g : mg y = some (.ref f)) (ok : FnG P w K mg base (L2.CX P w) k f fd ps (spD K n F))
    (h : ∀ (kV doc pm : Value) (an : Option Addr) (cdv ct : Value) (us : List Value), us.length = ps.length → bindArgs (PySem.W.fnOf x qual params body scope .none kV doc pm an cdv ct) ⟨us, []⟩ = pure (ps.zip us)) : CalD P w K mg base k y n F [] :=
  ⟨f, fd, ps, [], [], ok, g, G.kp, G.bindsN h, .nil, fun _ _ => .nil⟩
theorem CalM.mk0 (G : FunD K x qual params body scope [] kws f fd) (g : mg y = some (.ref f)) (ok : FnG P w K mg base (L2.CX P w) k f fd ps (spM K n FM))
    (h : ∀ (kV doc pm : Value) (an : Option Addr) (cdv ct : Value) (us : List Value), us.length = ps.length → bindArgs (PySem.W.fnOf x qual params body scope .none kV doc pm an cdv ct) ⟨us, []⟩ = pure (ps.zip us)) : CalM P w K mg base k y n FM [] :=
  ⟨f, fd, ps, [], [], ok, g, G.kp, G.bindsN h, .nil, fun _ _ => .nil⟩
/-- n values are written, the defaults behind the first j fill up -/
theorem CalD.mk1 (a j : Nat) (G : FunD K x qual params body scope dvs kws f fd) (g : mg y = some (.ref f)) (ok : FnG P w K mg base (L2.CX P w) k f fd ps (spD K n F)) (hd : dvs ≠ []) (hn : a + (dvs.length - j) = ps.length) (hr : ∀ ms H, RepL K ms H (dvs.drop j) dfl)
    (h : ∀ (T : Addr) (kV doc pm : Value) (an : Option Addr) (cdv ct : Value) (us its : List Value), us.length = a → its.length = dvs.length →
      ∃ k, bindArgs (PySem.W.fnOf x qual params body scope (.ref T) kV doc pm an cdv ct) ⟨us, []⟩ = seqItems? (.ref T) >>= k ∧ k (some its.toArray) = pure (ps.zip (us ++ its.drop j))) : CalD P w K mg base k y n F dfl := by
  obtain ⟨ds, h1, h2⟩ := G.binds1 a j hd hn h
  exact ⟨f, fd, ps, _, ds, ok, g, G.kp, h2, h1, hr⟩
end
/-! names of the module -/
section
variable {X : Cx} {pa : Nat → Option Addr} {W : WX} {pos : Pos} {x : Str}
theorem re_tupK {a : Addr} {vs : List V} {ds : List D} (hm : X.mg x = some (.ref a)) (ht : ∀ H, SqT X.K H a vs) (hr : ∀ ms H, RepL X.K ms H vs ds) (hg : Gl X x := by rfl) (hd : (x == ("__debug__" : Str)) = false := by decide) : RE X pa W (.Name x pos) (ret (.tup ds)) :=
  re_glob hg hm (v := .ref a) rfl (fun ms H => .tup (ht H) (hr ms H)) hd
theorem re_intK {i : Int} (hm : ∃ t, X.mg x = some (.int i t)) (hg : Gl X x := by rfl) (hd : (x == ("__debug__" : Str)) = false := by decide) : RE X pa W (.Name x pos) (ret (.int i)) := by
  obtain ⟨t, ht⟩ := hm
  exact re_glob hg ht (v := .int i) ⟨t, rfl⟩ (fun _ _ => .int i) hd
theorem re_strK {i : Str} (hm : ∃ t, X.mg x = some (.str i t)) (hg : Gl X x := by rfl) (hd : (x == ("__debug__" : Str)) = false := by decide) : RE X pa W (.Name x pos) (ret (.str i)) := by
  obtain ⟨t, ht⟩ := hm
  exact re_glob hg ht (v := .str i) ⟨t, rfl⟩ (fun _ _ => .str i) hd
theorem re_bty {n : String} (hm : X.mg x = none) (hv : bootBuiltins x = some (.type n)) (hg : Gl X x := by rfl) (hn : x ≠ "__name__" := by decide) (hd : (x == ("__debug__" : Str)) = false := by decide) : RE X pa W (.Name x pos) (ret (.ty n)) :=
  re_const (pe_bltn hg hm hv (v := .ty n) rfl hn hd) fun _ _ => .ty n
end
theorem sqF_of {K : PySem.W.Frag} {H : Hp} {a : Addr} {xs : List V} (h : SqL K H a xs) (o : Only H) : SqF K H a xs := by
  rcases h with (e | ⟨b, e⟩) | z
  · rcases o a with n | ⟨c, ys, n⟩
    · rw [n] at e; cases e
    · rw [n] at e; cases e
  · exact .inl ⟨b, e⟩
  · exact .inr z
theorem repL_ints {K : PySem.W.Frag} {ms : Addr → Prop} {H : Hp} : ∀ ns : List Int, RepL K ms H (ns.map V.int) (ns.map D.int)
  | [] => .nil
  | n :: r => .cons (.int n) (repL_ints r)
/-- the law's promise at the script -/
theorem law_sp {K : PySem.W.Frag} {F : List D → Fd} {a : Addr} {ns : List Int} {H : Hp} (hF : F [.frl (ns.map .int)] = .ok (.bl true)) (h : SqL K H a (ns.map V.int)) (o : Only H) : spD K 1 F [.ref a] H (fun v _ => v = .bl true) fun _ _ _ => False :=
  ⟨NoW, [.frl (ns.map .int)], fun _ q => q.elim, .cons (.frl (sqF_of h o) (repL_ints ns)) .nil, rfl, by rw [hF]; exact fun v H' _ r => by cases r; rfl⟩
end Mir

namespace Mir
open PySem L2
section
variable {X : Cx} {K : PySem.W.Frag} {pa : Nat → Option Addr} {W : WX} {ms os : Addr → Prop} {σ : L2.St} {H : Hp} {g : En} {pos p : Pos} {e : Expr}
/-! a, b, c = e1, e2, e3 -/
def sPar3 (i j l : Nat) (m : M (List Op)) : Ms := thenE m fun xs g => match vls xs with
  | some [a, b, c] => match setV g i a with
    | some g1 => match setV g1 j b with
      | some g2 => match setV g2 l c with
        | some g3 => .nx g3
        | none => .bad
      | none => .bad
    | none => .bad
  | _ => .bad
theorem rs_par3 {i j l : Nat} {x y z : Str} {a b c : Expr} {m : M (List Op)} {px py pz pt : Pos} {kt k2 pt2} (hc : X.calm = true) (hN : X.N.Nodup) (hi : X.N[i]? = some x) (hj : X.N[j]? = some y) (hl : X.N[l]? = some z) (hij : i ≠ j) (hil : i ≠ l) (hjl : j ≠ l)
    (hx : X.env.scope.names.lookup x = some .local) (hy : X.env.scope.names.lookup y = some .local) (hz : X.env.scope.names.lookup z = some .local) (ha : RA X pa W [a, b, c] m)
    (hw : swappedStores [.Tuple [.Name x px, .Name y py, .Name z pz] kt pt] (.Tuple [a, b, c] k2 pt2) X.env = pure (some [x, y, z]))
    (hs : swapsWithSole [.Tuple [.Name x px, .Name y py, .Name z pz] kt pt] (.Tuple [a, b, c] k2 pt2) pos.line X.env = pure false := by rfl) :
    RS X pa W (.Assign [.Tuple [.Name x px, .Name y py, .Name z pz] kt pt] (.Tuple [a, b, c] k2 pt2) pos) (sPar3 i j l m) :=
  ⟨(ps_par3 hc hN hi hj hl hij hil hjl hx hy hz ha.pa hw hs).imp fun Z σ H ⟨ms, os, g, r, w⟩ => ⟨ms, os, g, r, (thenE.out w).mono (fun xs g1 o vs H1 r1 k1 rep => by
    cases e : vls xs with
    | none => rw [e] at o; exact o.elim
    | some ds =>
      rw [e] at o
      have rl := vls_ok rep e
      match ds, rl, o with
      | [a, b, c], .cons ra (.cons rb (.cons rc .nil)), o =>
        simp only at o
        cases e1 : setV g1 i a with
        | none => rw [e1] at o; exact o.elim
        | some g2 =>
          rw [e1] at o
          simp only at o
          cases e2 : setV g2 j b with
          | none => rw [e2] at o; exact o.elim
          | some g3 =>
            rw [e2] at o
            simp only at o
            cases e3 : setV g3 l c with
            | none => rw [e3] at o; exact o.elim
            | some g4 =>
              rw [e3] at o
              exact ⟨_, _, _, rfl, o ms os _ H1 (((r1.setV e1 ra).setV e2 rb).setV e3 rc) (.same k1)⟩) fun _ _ q => q⟩⟩
/-! xs[::-1] of a list -/
def revM (x : Op) : M (List D) := fun g => match res g x with
  | some (.lst xs) => .ok xs.reverse g
  | some (.frl xs) => .ok xs.reverse g
  | _ => .bad
theorem RepL.rev {vs : List V} {ds : List D} (r : RepL K ms H vs ds) : RepL K ms H vs.reverse ds.reverse := by
  induction ds generalizing vs with
  | nil => cases r; exact .nil
  | cons d ds ih =>
    cases r with
    | cons a l =>
      rw [List.reverse_cons, List.reverse_cons]
      exact (ih l).append (.cons a .nil)
theorem nw_laid {Q : VK} {xs : List D} {vs : List V} (r : Rl K pa ms os σ H g) (l : RepL K ms H vs xs) (o : Nw K pa ms os σ H Q xs g) : ∀ p, H p = none → Q (.ref p) (upd H p (.lst vs)) := fun p hp =>
  o p vs _ hp upd_same (r.laid hp) (.new hp) (l.move (W := NoW) (.new hp) (fun _ q => q.elim) fun a q => q.imp id fun z => by rw [z]; exact hp)
theorem rn_rev {m : M Op} {k : Nat} {p1 p2 p3 : Pos} (h : RO X pa W e m) : RN X pa W (.Subscript e (.Slice none none (some (.UnaryOp .USub (.Constant (.int 1) k p1) p2)) p3) pos) (bnd m revM) :=
  ⟨(pe_revL h.pe).imp fun σ H Q ⟨ms, os, g, r, z⟩ => Eo.step (P := fun H1 => Nw X.K pa ms os σ H1 Q) r z (fun xs g' H1 q k p vs H' hp e r' k' rep => q p vs H' (k.2 p hp) e r' (k.trans k') rep) fun v x H1 g1 r1 k1 rep o => by
    unfold revM at o
    cases e1 : res g1 x with
    | none => rw [e1] at o; exact o.elim
    | some d =>
      rw [e1] at o
      have rb := rep.res r1 e1
      cases d with
      | lst xs =>
        obtain ⟨a, vs, rfl, s, l⟩ := rb.lst
        exact ⟨a, vs, rfl, SqL.of s, nw_laid r1 l.rev o⟩
      | frl xs =>
        obtain ⟨a, vs, rfl, s, l⟩ := rb.frl
        exact ⟨a, vs, rfl, s.sq, nw_laid r1 l.rev o⟩
      | _ => exact o.elim⟩
/-! repr -/
def showOk (d : PyData) : Bool := d.showable && SeqAt.shaped d && decide (d.shown.length ≤ 16777216)
def reprD (d : D) : Option D := match d.py with
  | some p => if showOk p then some (.str p.shown) else none
  | none => none
def reprN : List D → Option D := fun ds => match ds with
  | [d] => reprD d
  | _ => none
def rRepr (K : PySem.W.Frag) : List V → Hp → VK → Prop := fun vs H Q => ∃ v d, vs = [v] ∧ Dp K H v d ∧ showOk d = true ∧ Q (.str d.shown) H
theorem call_reprX (gd : X.A.guards = some []) (hu : X.A.units + 200 < cLine) : CallR X (.builtin "repr") (rRepr X.K) := by
  intro pins s σ H vs us Q I r want
  obtain ⟨v, d, rfl, hd, ok, q⟩ := want
  obtain ⟨u, rfl, ru⟩ := vals1 r
  unfold showOk at ok
  obtain ⟨ok1, ok3⟩ := Bool.and_eq_true_iff.mp ok
  obtain ⟨ok1, ok2⟩ := Bool.and_eq_true_iff.mp ok1
  have ok3 := of_decide_eq_true ok3
  have hz : d.shown.length ≤ sizeLine := Nat.le_trans ok3 (by decide)
  have dep := SeqAt.depth_of_shaped ok2
  have lay := SeqAt.canLay_of_shaped ok2
  have done : ∀ (h' : Heap) (t : Tok) (tk : Nat), (∀ b o, s.heap.get? b = some o → h'.get? b = some o) → EP X pins σ Q (.str d.shown t) { s with heap := h', toks := tk } := fun h' t tk k => ⟨.str d.shown, H, I.kept (t' := tk) k, ⟨t, rfl⟩, q⟩
  cases hd with
  | non =>
    cases (show u = Value.none from ru)
    exact PySem.P.repr_of_none (by simpa [PyData.shown] using done s.heap s.toks (s.toks + 1) fun _ _ z => z)
  | bl b =>
    cases (show u = Value.bool b from ru)
    exact PySem.P.repr_of_bool (by simpa [PyData.shown] using done s.heap s.toks (s.toks + 1) fun _ _ z => z)
  | int i =>
    obtain ⟨t, rfl⟩ := (show ∃ t, u = Value.int i t from ru)
    have : i.natAbs.log2 < 1920 := by simpa [PyData.showable] using ok1
    exact PySem.P.repr_of_int this (by simpa [PyData.shown] using done s.heap s.toks (s.toks + 1) fun _ _ z => z)
  | str x =>
    obtain ⟨t, rfl⟩ := (show ∃ t, u = Value.str x t from ru)
    exact PySem.P.repr_of_str (by simpa [PyData.shown] using done s.heap s.toks (s.toks + 1) fun _ _ z => z) (by simpa [PyData.shown] using hz)
  | @lst a xs ds s1 l1 =>
    cases (show u = Value.ref a from ru)
    obtain ⟨as, rd⟩ := Dp.reads I _ _ _ (.lst s1 l1) ru
    exact repr_of_reads' rd ok1 (PyData.noDict_hsm (PyData.hasDict_of_canLay _ lay)) gd (by omega) (fun _ _ z => z) (fun h' t tk k => done h' t tk k) hz
  | @tup a xs ds s1 l1 =>
    cases (show u = Value.ref a from ru)
    obtain ⟨as, rd⟩ := Dp.reads I _ _ _ (.tup s1 l1) ru
    exact repr_of_reads' rd ok1 (PyData.noDict_hsm (PyData.hasDict_of_canLay _ lay)) gd (by omega) (fun _ _ z => z) (fun h' t tk k => done h' t tk k) hz
theorem on_repr : OpN K (rRepr K) reprN := on1 fun ms os H Q v x z _ _ hv e hQ => by
  unfold reprD at e
  cases e1 : x.py with
  | none => rw [e1] at e; cases e
  | some d =>
    rw [e1] at e
    by_cases h : showOk d = true
    · simp only [h, if_true] at e
      cases e
      exact ⟨v, d, rfl, hv.dp e1, h, hQ _ H .refl (.str _)⟩
    · simp only [h] at e
      cases e
theorem Room.u200 {k : Nat} {A : Around} (h : Room k A) : A.units + 200 < cLine := by have := h.un; omega
end
end Mir

namespace Mir
open PySem L2
/-! reckoning with mirrors -/
section
variable {α β : Type} {g g' : En} {P : α → En → Prop} {Q : β → En → Prop} {E : Xn → En → Prop}
theorem O_ret {a : α} : Out (ret a g) P E = P a g := propext Iff.rfl
theorem O_bad : Out (bad g : Rs α) P E = False := propext Iff.rfl
theorem O_bnd {m : M α} {f : α → M β} : Out (bnd m f g) Q E = Out (m g) (fun a g' => Out (f a g') Q E) E := by
  unfold bnd; cases m g <;> rfl
theorem O_opt {a : α} : Out (opt (some a) g) P E = P a g := propext Iff.rfl
theorem O_ok {a : α} : Out (Rs.ok a g) P E = P a g := propext Iff.rfl
theorem O_if {c : Prop} [Decidable c] {a b : M α} : Out ((if c then a else b) g) P E = if c then Out (a g) P E else Out (b g) P E := by
  split <;> rfl
theorem O_ite {m : M Bool} {a b : M α} : Out (ite' m a b g) P E = Out (m g) (fun k g' => if k = true then Out (a g') P E else Out (b g') P E) E := by
  unfold ite'; rw [O_bnd]
  refine congrArg (fun z => Out (m g) z E) (funext fun k => funext fun g' => ?_)
  cases k <;> rfl
theorem O_eN {i : Nat} {P : Op → En → Prop} : Out (eN i g) P E = (match gt g i with
  | .va d => P (.d d) g
  | .no => False
  | _ => P (.o i) g) := by
  unfold eN; cases gt g i <;> rfl
theorem O_e1 {a : M Op} {f : D → M α} : Out (e1 a f g) P E = Out (a g) (fun x g' => Out (ap1 f x g') P E) E := O_bnd
theorem O_e2 {a b : M Op} {f : D → D → M α} : Out (e2 a b f g) P E = Out (a g) (fun x g1 => Out (b g1) (fun y g2 => Out (ap2 f x y g2) P E) E) E := by
  unfold e2; rw [O_bnd]
  exact congrArg (fun z => Out (a g) z E) (funext fun x => funext fun g' => O_bnd)
theorem O_ap1 {f : D → M α} {x : Op} {d : D} (h : res g x = some d) : Out (ap1 f x g) P E = Out (f d g) P E := by
  unfold ap1; rw [h]
theorem O_ap2 {f : D → D → M α} {x y : Op} {d d' : D} (h : res g x = some d) (h' : res g y = some d') : Out (ap2 f x y g) P E = Out (f d d' g) P E := by
  unfold ap2; rw [h, h']
theorem O_dd1 {f : D → M α} {d : D} : Out (ap1 f (.d d) g) P E = Out (f d g) P E := propext Iff.rfl
theorem O_dd2 {f : D → D → M α} {d d' : D} : Out (ap2 f (.d d) (.d d') g) P E = Out (f d d' g) P E := propext Iff.rfl
theorem O_f2 {f : D → D → Option α} {a b : D} {c : α} (h : f a b = some c) : Out (f2 f a b g) P E = P c g := by
  unfold f2; rw [h]; rfl
theorem O_f1 {f : D → Option α} {a : D} {c : α} (h : f a = some c) : Out (f1 f a g) P E = P c g := by
  unfold f1; rw [h]; rfl
theorem O_eD {m : M D} {P : Op → En → Prop} : Out (eD m g) P E = Out (m g) (fun d g' => P (.d d) g') E := O_bnd
theorem O_eV {m : M Op} {P : D → En → Prop} : Out (eV m g) P E = Out (m g) (fun x g' => Out (vl x g') P E) E := O_bnd
theorem O_vl {d : D} {P : D → En → Prop} : Out (vl (.d d) g) P E = P d g := propext Iff.rfl
theorem O_tB {m : M D} {P : Bool → En → Prop} : Out (tB m g) P E = Out (m g) (fun d g' => Out (asB d g') P E) E := O_bnd
theorem O_asB {b : Bool} {P : Bool → En → Prop} : Out (asB (.bl b) g) P E = P b g := propext Iff.rfl
theorem O_notM {m : M Bool} {P : Bool → En → Prop} : Out (notM m g) P E = Out (m g) (fun b g' => P (!b) g') E := O_bnd
theorem O_ofB {m : M Bool} {P : D → En → Prop} : Out (ofB m g) P E = Out (m g) (fun b g' => P (.bl b) g') E := O_bnd
theorem O_andM {a b : M Bool} {P : Bool → En → Prop} : Out (andM a b g) P E = Out (a g) (fun k g' => if k = true then Out (b g') P E else P false g') E := by
  unfold andM; rw [O_bnd]
  refine congrArg (fun z => Out (a g) z E) (funext fun k => funext fun g' => ?_)
  cases k <;> rfl
theorem O_orM {a b : M Bool} {P : Bool → En → Prop} : Out (orM a b g) P E = Out (a g) (fun k g' => if k = true then P true g' else Out (b g') P E) E := by
  unfold orM; rw [O_bnd]
  refine congrArg (fun z => Out (a g) z E) (funext fun k => funext fun g' => ?_)
  cases k <;> rfl
theorem O_args0 {P : List Op → En → Prop} : Out (eArgs [] g) P E = P [] g := propext Iff.rfl
theorem O_args1 {m : M Op} {ms : List (M Op)} {P : List Op → En → Prop} : Out (eArgs (m :: ms) g) P E = Out (m g) (fun x g1 => Out (eArgs ms g1) (fun xs g2 => P (x :: xs) g2) E) E := by
  show Out (bnd m (fun x => bnd (eArgs ms) fun xs => ret (x :: xs)) g) P E = _
  rw [O_bnd]
  exact congrArg (fun z => Out (m g) z E) (funext fun x => funext fun g' => O_bnd)
theorem O_apL {f : List D → Option α} {xs : List Op} {ds : List D} {c : α} (h : resL g xs = some ds) (h' : f ds = some c) : Out (apL f xs g) P E = P c g := by
  unfold apL; rw [h]; show Out (opt (f ds) g) P E = _; rw [h']; rfl
theorem O_tup {xs : List Op} {ds : List D} {P : D → En → Prop} (h : vls xs = some ds) (hl : ds.length ≤ 65536 := by simp) : Out (tupM xs g) P E = P (.tup ds) g := by
  unfold tupM; rw [h]; show Out ((if ds.length ≤ 65536 then ret (.tup ds) else bad : M D) g) P E = _; rw [if_pos hl]; rfl
theorem O_lst {xs : List Op} {ds : List D} {P : List D → En → Prop} (h : vls xs = some ds) (hl : ds.length ≤ 65536 := by simp) : Out (lstM xs g) P E = P ds g := by
  unfold lstM; rw [h]; show Out ((if ds.length ≤ 65536 then ret ds else bad : M (List D)) g) P E = _; rw [if_pos hl]; rfl
theorem O_noex {m : M α} : Out (noex m g) P E = Out (m g) P (fun _ _ => False) := by
  unfold noex; cases m g <;> rfl
/-- the call of a def of data -/
theorem O_call {n : Nat} {f : List D → Fd} {dfl : List D} {xs : List Op} {ds : List D} {d : D} {P : D → En → Prop} (h : resL g xs = some ds) (hn : ds.length + dfl.length = n) (ho : anyO xs = false) (hf : f (ds ++ dfl) = .ok d) : Out (callF n f dfl xs g) P E = P d g := by
  unfold callF; rw [h]; simp only [hn, if_true, hf, ho, Bool.false_and]; rfl
theorem O_callO {n : Nat} {f : List D → Fd} {dfl : List D} {xs : List Op} {ds : List D} {d : D} {P : D → En → Prop} (h : resL g xs = some ds) (hn : ds.length + dfl.length = n) (ho : d.flat = true) (hf : f (ds ++ dfl) = .ok d) : Out (callF n f dfl xs g) P E = P d g := by
  unfold callF; rw [h]; simp only [hn, if_true, hf, ho, Bool.not_true, Bool.and_false]; rfl
theorem O_callX {n : Nat} {f : List D → Fd} {dfl : List D} {xs : List Op} {ds : List D} {x : Xn} {P : D → En → Prop} (h : resL g xs = some ds) (hn : ds.length + dfl.length = n) (ho : anyO xs = false) (hf : f (ds ++ dfl) = .ex x) : Out (callF n f dfl xs g) P E = E x g := by
  unfold callF; rw [h]; simp only [hn, if_true, hf, ho, Bool.false_and]; rfl
theorem O_callN {n : Nat} {f : List D → Fd} {dfl : List D} {xs : List Op} {ds ys : List D} {P : List D → En → Prop} (h : resL g xs = some ds) (hn : ds.length + dfl.length = n) (ho : anyO xs = false) (hf : f (ds ++ dfl) = .new ys) : Out (callN n f dfl xs g) P E = P ys g := by
  unfold callN; rw [h]; simp only [hn, if_true, hf, ho, Bool.false_and]; rfl
theorem O_callM {n i : Nat} {f : Mo → List D → Fm} {dfl : List D} {xs : List Op} {ds : List D} {d : D} {m m' : Mo} {P : D → En → Prop} (hm : (gt g i).mo = some m) (h : vls xs = some ds) (hn : ds.length + dfl.length + 1 = n) (hf : f m (ds ++ dfl) = .ok d m') : Out (callM n f dfl (.o i :: xs) g) P E = P d (setMo g i m') := by
  simp only [callM, hm, h, hn, if_true, hf]; rfl
theorem O_callMN {n i : Nat} {f : Mo → List D → Fm} {dfl : List D} {xs : List Op} {ds ys : List D} {m m' : Mo} {P : List D → En → Prop} (hm : (gt g i).mo = some m) (h : vls xs = some ds) (hn : ds.length + dfl.length + 1 = n) (hf : f m (ds ++ dfl) = .new ys m') : Out (callMN n f dfl (.o i :: xs) g) P E = P ys (setMo g i m') := by
  simp only [callMN, hm, h, hn, if_true, hf]; rfl
end
/-! the same without premises: what a simp can use -/
section
variable {α β : Type} {g g' : En} {P : α → En → Prop} {E : Xn → En → Prop}
theorem U_ap1 {f : D → M α} {x : Op} : Out (ap1 f x g) P E = (match res g x with
  | some d => Out (f d g) P E
  | none => False) := by unfold ap1; cases res g x <;> rfl
theorem U_ap2 {f : D → D → M α} {x y : Op} : Out (ap2 f x y g) P E = (match res g x, res g y with
  | some d, some d' => Out (f d d' g) P E
  | _, _ => False) := by unfold ap2; cases res g x <;> cases res g y <;> rfl
theorem U_f1 {f : D → Option α} {a : D} : Out (f1 f a g) P E = (match f a with
  | some c => P c g
  | none => False) := by unfold f1; cases f a <;> rfl
theorem U_f2 {f : D → D → Option α} {a b : D} : Out (f2 f a b g) P E = (match f a b with
  | some c => P c g
  | none => False) := by unfold f2; cases f a b <;> rfl
theorem U_opt {o : Option α} : Out (opt o g) P E = (match o with
  | some c => P c g
  | none => False) := by cases o <;> rfl
theorem U_apL {f : List D → Option α} {xs : List Op} : Out (apL f xs g) P E = (match resL g xs with
  | some ds => (match f ds with
    | some c => P c g
    | none => False)
  | none => False) := by
  unfold apL; cases resL g xs with
  | none => rfl
  | some ds => show Out (opt (f ds) g) P E = _; rw [U_opt]
theorem U_tup {xs : List Op} {P : D → En → Prop} : Out (tupM xs g) P E = (match vls xs with
  | some ds => if ds.length ≤ 65536 then P (.tup ds) g else False
  | none => False) := by
  unfold tupM; cases vls xs with
  | none => rfl
  | some ds => show Out ((if ds.length ≤ 65536 then ret (.tup ds) else bad : M D) g) P E = _; simp only; split <;> rfl
theorem U_lst {xs : List Op} {P : List D → En → Prop} : Out (lstM xs g) P E = (match vls xs with
  | some ds => if ds.length ≤ 65536 then P ds g else False
  | none => False) := by
  unfold lstM; cases vls xs with
  | none => rfl
  | some ds => show Out ((if ds.length ≤ 65536 then ret ds else bad : M (List D)) g) P E = _; simp only; split <;> rfl
theorem U_call {n : Nat} {f : List D → Fd} {dfl : List D} {xs : List Op} {P : D → En → Prop} : Out (callF n f dfl xs g) P E = (match resL g xs with
  | none => False
  | some ds => if ds.length + dfl.length = n then (match f (ds ++ dfl) with
    | .ok d => if (anyO xs && !d.flat) = true then False else P d g
    | .new ys => if (anyO xs && !D.flats ys) = true then False else P (.lst ys) g
    | .ex x => if (anyO xs && !x.flat) = true then False else E x g
    | .bad => False) else False) := by
  unfold callF; cases resL g xs with
  | none => rfl
  | some ds =>
    simp only
    split
    · cases f (ds ++ dfl) with
      | ok d => simp only; split <;> rfl
      | new d => simp only; split <;> rfl
      | ex d => simp only; split <;> rfl
      | bad => rfl
    · rfl
theorem U_callN {n : Nat} {f : List D → Fd} {dfl : List D} {xs : List Op} {P : List D → En → Prop} : Out (callN n f dfl xs g) P E = (match resL g xs with
  | none => False
  | some ds => if ds.length + dfl.length = n then (match f (ds ++ dfl) with
    | .new ys => if (anyO xs && !D.flats ys) = true then False else P ys g
    | .ex x => if (anyO xs && !x.flat) = true then False else E x g
    | _ => False) else False) := by
  unfold callN; cases resL g xs with
  | none => rfl
  | some ds =>
    simp only
    split
    · cases f (ds ++ dfl) with
      | ok d => rfl
      | new d => simp only; split <;> rfl
      | ex d => simp only; split <;> rfl
      | bad => rfl
    · rfl
theorem U_callM {n : Nat} {f : Mo → List D → Fm} {dfl : List D} {i : Nat} {xs : List Op} {P : D → En → Prop} : Out (callM n f dfl (.o i :: xs) g) P E = (match (gt g i).mo, vls xs with
  | some m, some ds => if ds.length + dfl.length + 1 = n then (match f m (ds ++ dfl) with
    | .ok d m' => P d (setMo g i m')
    | .new ys m' => P (.lst ys) (setMo g i m')
    | .ex x m' => E x (setMo g i m')
    | .bad => False) else False
  | _, _ => False) := by
  simp only [callM]
  cases (gt g i).mo with
  | none => rfl
  | some m => cases vls xs with
    | none => rfl
    | some ds =>
      simp only
      split
      · cases f m (ds ++ dfl) <;> rfl
      · rfl
theorem U_callMN {n : Nat} {f : Mo → List D → Fm} {dfl : List D} {i : Nat} {xs : List Op} {P : List D → En → Prop} : Out (callMN n f dfl (.o i :: xs) g) P E = (match (gt g i).mo, vls xs with
  | some m, some ds => if ds.length + dfl.length + 1 = n then (match f m (ds ++ dfl) with
    | .new ys m' => P ys (setMo g i m')
    | .ex x m' => E x (setMo g i m')
    | _ => False) else False
  | _, _ => False) := by
  simp only [callMN]
  cases (gt g i).mo with
  | none => rfl
  | some m => cases vls xs with
    | none => rfl
    | some ds =>
      simp only
      split
      · cases f m (ds ++ dfl) <;> rfl
      · rfl
theorem U_itM {d : D} {P : List D → En → Prop} : Out (itM (.d d) g) P E = (match itD d with
  | some ds => P ds g
  | none => False) := by show Out (opt (itD d) g) P E = _; cases itD d <;> rfl
theorem U_rng1 {j : Int} {P : List D → En → Prop} : Out (rng1 [.d (.int j)] g) P E = if inW j = true then P (rng 0 j.toNat) g else False := by
  unfold rng1; simp only; split <;> rfl
theorem U_rng2 {i j : Int} {P : List D → En → Prop} : Out (rng2 [.d (.int i), .d (.int j)] g) P E = if inW i = true ∧ inW j = true then P (rng i (j - i).toNat) g else False := by
  unfold rng2; simp only; split <;> rfl
theorem U_rev {x : Op} {P : List D → En → Prop} : Out (revM x g) P E = (match res g x with
  | some (.lst xs) => P xs.reverse g
  | some (.frl xs) => P xs.reverse g
  | _ => False) := by
  unfold revM; cases res g x with
  | none => rfl
  | some d => cases d <;> rfl
theorem U_cmp {vs : List Nat} {m : M (List D)} {t : Tg} {c : M Bool} {e : M Op} {P : List D → En → Prop} : Out (cmp vs m t c e g) P E = Out (m g) (fun ds g => if noO g vs = true then (match cmL vs t c e ds [] g with
    | .ok xs g' => P xs (restG g g' vs)
    | _ => False) else False) E := by
  unfold cmp; rw [O_bnd]
  refine congrArg (fun z => Out (m g) z E) (funext fun ds => funext fun g' => ?_)
  split
  · cases cmL vs t c e ds [] g' <;> rfl
  · rfl
/-- a comprehension whose element is a function of the item, by what is asked of the state alone -/
theorem cmL_map {vs : List Nat} {t : Tg} {e : M Op} {F : D → D} {ds : List D} (st : En → Prop)
    (hs : ∀ d ∈ ds, ∀ g, st g → ∃ g1, t d (wipeG g vs) = some g1 ∧ Out (e g1) (fun x g2 => x = .d (F d) ∧ st g2) (fun _ _ => False)) (hl : ds.length ≤ 16777216) : ∀ (g : En), st g → ∃ g', cmL vs t yes e ds [] g = .ok (ds.map F) g' ∧ st g' := by
  have key : ∀ (es acc : List D) (g : En), (∀ d ∈ es, d ∈ ds) → acc.length + es.length ≤ 16777216 → st g → ∃ g', cmL vs t yes e es acc g = .ok (acc ++ es.map F) g' ∧ st g' := by
    intro es
    induction es with
    | nil => intro acc g _ _ h; exact ⟨g, by simp [cmL, ret], h⟩
    | cons d es ih =>
      intro acc g hm hl h
      obtain ⟨g1, h1, h2⟩ := hs d (hm d List.mem_cons_self) g h
      have h3 : ∃ g2, e g1 = .ok (.d (F d)) g2 ∧ st g2 := by
        cases e3 : e g1 with
        | ok x g2 => rw [e3] at h2; obtain ⟨rfl, h4⟩ := h2; exact ⟨g2, rfl, h4⟩
        | ex x g2 => rw [e3] at h2; exact h2.elim
        | bad => rw [e3] at h2; exact h2.elim
      obtain ⟨g2, h3, h4⟩ := h3
      rw [List.length_cons] at hl
      obtain ⟨g', h5, h6⟩ := ih (acc ++ [F d]) g2 (fun x hx => hm x (List.mem_cons_of_mem _ hx)) (by rw [List.length_append, List.length_singleton]; omega) h4
      refine ⟨g', ?_, h6⟩
      unfold cmL
      have hacc : acc.length < 16777216 := by omega
      simp only [h1, bnd, noex, yes, ret, h3, hacc, if_true]
      exact h5.trans (by rw [List.append_assoc]; rfl)
  intro g h
  have := key ds [] g (fun _ h => h) (by simpa using hl) h
  simpa using this
end
/-! statements -/
def SO (r : Ro) (N : En → Prop) (R : Sl → En → Prop) (B C : En → Prop) (E : Xn → En → Prop) : Prop := match r with
  | .nx g => N g
  | .rt s g => R s g
  | .bk g => B g
  | .ct g => C g
  | .ex x g => E x g
  | .bad => False
section
variable {g : En} {N : En → Prop} {R : Sl → En → Prop} {B C : En → Prop} {E : Xn → En → Prop}
theorem SO.mono {r : Ro} {N' : En → Prop} {R' : Sl → En → Prop} {B' C' : En → Prop} {E' : Xn → En → Prop} (h : SO r N R B C E) (h1 : ∀ g, N g → N' g) (h2 : ∀ s g, R s g → R' s g) (h3 : ∀ g, B g → B' g) (h4 : ∀ g, C g → C' g) (h5 : ∀ x g, E x g → E' x g) : SO r N' R' B' C' E' := by
  cases r with
  | nx g => exact h1 _ h
  | rt s g => exact h2 _ _ h
  | bk g => exact h3 _ h
  | ct g => exact h4 _ h
  | ex x g => exact h5 _ _ h
  | bad => exact h
theorem S_seq {a b : Ms} : SO (sQ a b g) N R B C E = SO (a g) (fun g' => SO (b g') N R B C E) R B C E := by
  unfold sQ; cases a g <;> rfl
theorem S_nil : SO (sNil g) N R B C E = N g := propext Iff.rfl
theorem S_pass : SO (sPass g) N R B C E = N g := propext Iff.rfl
theorem S_brk : SO (sBrk g) N R B C E = B g := propext Iff.rfl
theorem S_cnt : SO (sCnt g) N R B C E = C g := propext Iff.rfl
theorem S_bad : SO (sBad g) N R B C E = False := propext Iff.rfl
theorem S_nx : SO (.nx g) N R B C E = N g := propext Iff.rfl
theorem S_rt {s : Sl} : SO (.rt s g) N R B C E = R s g := propext Iff.rfl
theorem S_then {α : Type} {m : M α} {f : α → En → Ro} : SO (thenE m f g) N R B C E = Out (m g) (fun a g' => SO (f a g') N R B C E) E := by
  unfold thenE; cases m g <;> rfl
theorem S_asg {m : M D} {t : Tg} : SO (sAsg m t g) N R B C E = Out (m g) (fun d g' => match t d g' with
    | some g2 => N g2
    | none => False) E := by
  unfold sAsg; rw [S_then]
  refine congrArg (fun z => Out (m g) z E) (funext fun d => funext fun g' => ?_)
  cases t d g' <;> rfl
theorem S_if {c : M Bool} {a b : Ms} : SO (sIf c a b g) N R B C E = Out (c g) (fun k g' => if k = true then SO (a g') N R B C E else SO (b g') N R B C E) E := by
  unfold sIf; rw [S_then]
  refine congrArg (fun z => Out (c g) z E) (funext fun k => funext fun g' => ?_)
  cases k <;> rfl
theorem S_exp {α : Type} {m : M α} : SO (sExp m g) N R B C E = Out (m g) (fun _ g' => N g') E := by
  unfold sExp; rw [S_then]; rfl
theorem S_retN : SO (sRetN g) N R B C E = R (.va .non) g := propext Iff.rfl
theorem S_ret {m : M Op} : SO (sRet m g) N R B C E = Out (m g) (fun x g' => match x with
    | .d d => R (.va d) g'
    | .o i => match gt g' i with
      | .ow mo => R (.ow mo) g'
      | _ => False) E := by
  unfold sRet; rw [S_then]
  refine congrArg (fun z => Out (m g) z E) (funext fun x => funext fun g' => ?_)
  cases x with
  | d d => rfl
  | o i => simp only; cases gt g' i <;> rfl
theorem S_retW {m : M (List D)} : SO (sRetW m g) N R B C E = Out (m g) (fun xs g' => R (.ow (.ls xs)) g') E := by
  unfold sRetW; rw [S_then]; rfl
theorem S_new {i : Nat} {m : M (List D)} : SO (sNew i m g) N R B C E = Out (m g) (fun xs g' => if i < g'.length then (match setO g' i (.ls xs) with
    | some g2 => N g2
    | none => False) else False) E := by
  unfold sNew; rw [S_then]
  refine congrArg (fun z => Out (m g) z E) (funext fun x => funext fun g' => ?_)
  split
  · cases setO g' i (.ls x) <;> rfl
  · rfl
theorem S_par {i j : Nat} {m : M (List Op)} : SO (sPar i j m g) N R B C E = Out (m g) (fun xs g' => match vls xs with
    | some [a, b] => match setV g' i a with
      | some g1 => match setV g1 j b with
        | some g2 => N g2
        | none => False
      | none => False
    | _ => False) E := by
  unfold sPar; rw [S_then]
  refine congrArg (fun z => Out (m g) z E) (funext fun x => funext fun g' => ?_)
  cases vls x with
  | none => rfl
  | some l => match l with
    | [] => rfl
    | [_] => rfl
    | [a, b] =>
      simp only
      cases setV g' i a with
      | none => rfl
      | some g1 => simp only; cases setV g1 j b <;> rfl
    | _ :: _ :: _ :: _ => rfl
theorem S_par3 {i j l : Nat} {m : M (List Op)} : SO (sPar3 i j l m g) N R B C E = Out (m g) (fun xs g' => match vls xs with
    | some [a, b, c] => match setV g' i a with
      | some g1 => match setV g1 j b with
        | some g2 => match setV g2 l c with
          | some g3 => N g3
          | none => False
        | none => False
      | none => False
    | _ => False) E := by
  unfold sPar3; rw [S_then]
  refine congrArg (fun z => Out (m g) z E) (funext fun x => funext fun g' => ?_)
  cases vls x with
  | none => rfl
  | some ds => match ds with
    | [] => rfl
    | [_] => rfl
    | [_, _] => rfl
    | [a, b, c] =>
      simp only
      cases setV g' i a with
      | none => rfl
      | some g1 =>
        simp only
        cases setV g1 j b with
        | none => rfl
        | some g2 => simp only; cases setV g2 l c <;> rfl
    | _ :: _ :: _ :: _ :: _ => rfl
/-- a for, by an invariant over the items taken so far -/
theorem S_for {m : M (List D)} {t : Tg} {b : Ms} : SO (sFor m t b g) N R B C E = Out (m g) (fun ds g' => SO (forL t b ds g') N R B C E) E := by
  unfold sFor; rw [S_then]
theorem S_forL {t : Tg} {b : Ms} (I : Nat → En → Prop) {ds : List D} (h0 : I 0 g)
    (hs : ∀ i d g, ds[i]? = some d → I i g → ∃ g1, t d g = some g1 ∧ SO (b g1) (I (i + 1)) R N (I (i + 1)) E) (hN : ∀ g, I ds.length g → N g) : SO (forL t b ds g) N R B C E := by
  have key : ∀ (es : List D) (k : Nat) (g : En), es = ds.drop k → k ≤ ds.length → I k g → SO (forL t b es g) N R B C E := by
    intro es
    induction es with
    | nil =>
      intro k g e hk i
      have : ds.length ≤ k := by
        have := congrArg List.length e
        simp at this; omega
      have : k = ds.length := by omega
      subst this
      exact hN g i
    | cons d es ih =>
      intro k g e hk i
      have hl : k < ds.length := by
        have := congrArg List.length e
        simp at this; omega
      have e2 : ds.drop k = ds[k] :: ds.drop (k + 1) := List.drop_eq_getElem_cons hl
      rw [e2] at e
      cases e
      obtain ⟨g1, h1, h2⟩ := hs k ds[k] g (List.getElem?_eq_getElem hl) i
      show SO (match t ds[k] g with
        | none => .bad
        | some g1 => match b g1 with
          | .nx g2 => forL t b (ds.drop (k + 1)) g2
          | .ct g2 => forL t b (ds.drop (k + 1)) g2
          | .bk g2 => .nx g2
          | o => o) N R B C E
      rw [h1]
      simp only
      cases e3 : b g1 with
      | nx g2 => rw [e3] at h2; exact ih (k + 1) g2 rfl hl h2
      | ct g2 => rw [e3] at h2; exact ih (k + 1) g2 rfl hl h2
      | bk g2 => rw [e3] at h2; exact h2
      | rt s g2 => rw [e3] at h2; exact h2
      | ex x g2 => rw [e3] at h2; exact h2
      | bad => rw [e3] at h2; exact h2
  exact key ds 0 g (by simp) (Nat.zero_le _) h0
/-- a while, by an invariant and a number that falls -/
theorem S_while {c : M Bool} {b : Ms} (I : Nat → En → Prop) {n : Nat} (h0 : I n g)
    (hs : ∀ n g, I n g → Out (c g) (fun k g' => if k = true then SO (b g') (fun g2 => ∃ n', n' < n ∧ I n' g2) R N (fun g2 => ∃ n', n' < n ∧ I n' g2) E else N g') E) : SO (sWh c b g) N R B C E := by
  have key : ∀ (m n : Nat) (g : En), n < m → I n g → ∃ r, wh c b m g = r ∧ SO r N R B C E := by
    intro m
    induction m with
    | zero => intro n g h; omega
    | succ m ih =>
      intro n g hn i
      refine ⟨_, rfl, ?_⟩
      show SO (thenE c _ g) N R B C E
      rw [S_then]
      refine (hs n g i).mono (fun k g' q => ?_) fun _ _ q => q
      cases k with
      | false => exact q
      | true =>
        rw [if_pos rfl] at q
        simp only
        cases e3 : b g' with
        | nx g2 =>
          rw [e3] at q
          obtain ⟨n', h1, h2⟩ := q
          obtain ⟨r, h3, h4⟩ := ih n' g2 (by omega) h2
          simp only [h3]; exact h4
        | ct g2 =>
          rw [e3] at q
          obtain ⟨n', h1, h2⟩ := q
          obtain ⟨r, h3, h4⟩ := ih n' g2 (by omega) h2
          simp only [h3]; exact h4
        | bk g2 => rw [e3] at q; exact q
        | rt s g2 => rw [e3] at q; exact q
        | ex x g2 => rw [e3] at q; exact q
        | bad => rw [e3] at q; exact q
  obtain ⟨r, h1, h2⟩ := key (n + 1) n g (Nat.lt_succ_self n) h0
  have hb : wh c b (n + 1) g ≠ .bad := fun z => by rw [h1] at z; subst z; exact h2
  rw [sWh_eq (n + 1) hb, h1]
  exact h2
/-! a def's value from its body -/
theorem f_of {k : Nat} {b : Ms} {ds : List D} {d : D} (h : SO (b (ds.map .va ++ List.replicate k .no)) (fun _ => d = .non) (fun s _ => s = .va d) (fun _ => False) (fun _ => False) (fun _ _ => False)) : fnD k b ds = .ok d := by
  unfold fnD
  cases e : b (ds.map .va ++ List.replicate k .no) with
  | nx g => rw [e] at h; have h : d = .non := h; subst h; rfl
  | rt s g => rw [e] at h; have h : s = .va d := h; subst h; rfl
  | _ => rw [e] at h; exact h.elim
theorem f_ofN {k : Nat} {b : Ms} {ds ys : List D} (h : SO (b (ds.map .va ++ List.replicate k .no)) (fun _ => False) (fun s _ => s = .ow (.ls ys)) (fun _ => False) (fun _ => False) (fun _ _ => False)) : fnD k b ds = .new ys := by
  unfold fnD
  cases e : b (ds.map .va ++ List.replicate k .no) with
  | rt s g => rw [e] at h; have h : s = .ow (.ls ys) := h; subst h; rfl
  | _ => rw [e] at h; exact h.elim
/-- with what holds of the value -/
theorem f_ex {k : Nat} {b : Ms} {ds : List D} {Y : D → Prop} (h : SO (b (ds.map .va ++ List.replicate k .no)) (fun _ => Y .non) (fun s _ => ∃ d, s = .va d ∧ Y d) (fun _ => False) (fun _ => False) (fun _ _ => False)) : ∃ d, fnD k b ds = .ok d ∧ Y d := by
  unfold fnD
  cases e : b (ds.map .va ++ List.replicate k .no) with
  | nx g => rw [e] at h; exact ⟨_, rfl, h⟩
  | rt s g => rw [e] at h; obtain ⟨d, rfl, y⟩ := h; exact ⟨d, rfl, y⟩
  | _ => rw [e] at h; exact h.elim
theorem f_exN {k : Nat} {b : Ms} {ds : List D} {Y : List D → Prop} (h : SO (b (ds.map .va ++ List.replicate k .no)) (fun _ => False) (fun s _ => ∃ d, s = .ow (.ls d) ∧ Y d) (fun _ => False) (fun _ => False) (fun _ _ => False)) : ∃ d, fnD k b ds = .new d ∧ Y d := by
  unfold fnD
  cases e : b (ds.map .va ++ List.replicate k .no) with
  | rt s g => rw [e] at h; obtain ⟨d, rfl, y⟩ := h; exact ⟨d, rfl, y⟩
  | _ => rw [e] at h; exact h.elim
theorem m_ex {k : Nat} {b : Ms} {m : Mo} {ds : List D} {Y : D → Mo → Prop} (h : SO (b (.pm m :: ds.map .va ++ List.replicate k .no)) (fun g => ∃ m', gt g 0 = .pm m' ∧ Y .non m') (fun s g => ∃ d m', s = .va d ∧ gt g 0 = .pm m' ∧ Y d m') (fun _ => False) (fun _ => False) (fun _ _ => False)) : ∃ d m', fnM k b m ds = .ok d m' ∧ Y d m' := by
  unfold fnM
  cases e : b (.pm m :: ds.map .va ++ List.replicate k .no) with
  | nx g => rw [e] at h; obtain ⟨m', h1, y⟩ := h; exact ⟨_, m', by simp only [fin2, h1], y⟩
  | rt s g => rw [e] at h; obtain ⟨d, m', rfl, h1, y⟩ := h; exact ⟨d, m', by simp only [fin2, h1], y⟩
  | _ => rw [e] at h; exact h.elim
end
end Mir

namespace Mir
open PySem L2
theorem at0 {α : Type} {x : α} {xs : List α} : atI (x :: xs) 0 = some x := by
  have : ixN (x :: xs).length 0 = some 0 := by unfold ixN; rw [if_pos (by omega), if_pos (by simp only [List.length_cons]; omega)]; rfl
  unfold atI; rw [this]; rfl
theorem at1 {α : Type} {x y : α} {xs : List α} : atI (x :: y :: xs) 1 = some y := by
  have : ixN (x :: y :: xs).length 1 = some 1 := by unfold ixN; rw [if_pos (by omega), if_pos (by simp only [List.length_cons]; omega)]; rfl
  unfold atI; rw [this]; rfl
theorem at2 {α : Type} {x y z : α} {xs : List α} : atI (x :: y :: z :: xs) 2 = some z := by
  have : ixN (x :: y :: z :: xs).length 2 = some 2 := by unfold ixN; rw [if_pos (by omega), if_pos (by simp only [List.length_cons]; omega)]; rfl
  unfold atI; rw [this]; rfl
theorem ix0 : ∀ n : Nat, ixN (n + 1) 0 = some 0 := fun n => by unfold ixN; rw [if_pos (by omega), if_pos (by omega)]; rfl
theorem ix1 : ∀ n : Nat, ixN (n + 2) 1 = some 1 := fun n => by unfold ixN; rw [if_pos (by omega), if_pos (by omega)]; rfl
theorem ix2 : ∀ n : Nat, ixN (n + 3) 2 = some 2 := fun n => by unfold ixN; rw [if_pos (by omega), if_pos (by omega)]; rfl
theorem eq_int (a b : Int) : eqD (.int a) (.int b) = some (.bl (a == b)) := rfl
theorem ne_int (a b : Int) : neD (.int a) (.int b) = some (.bl (!(a == b))) := rfl
theorem eq_bl (a b : Bool) : eqD (.bl a) (.bl b) = some (.bl (a == b)) := rfl
theorem isi_tup {xs : List D} {T : String} : isiN [.tup xs, .ty T] = (isT "tuple" T).map .bl := rfl
theorem isi_int {i : Int} {T : String} : isiN [.int i, .ty T] = (isT "int" T).map .bl := rfl
theorem isi_bl {i : Bool} {T : String} : isiN [.bl i, .ty T] = (isT "bool" T).map .bl := rfl
theorem isT_tt : isT "tuple" "tuple" = some true := by decide
theorem isT_ii : isT "int" "int" = some true := by decide
theorem isT_ib : isT "int" "bool" = some false := by decide
theorem mulOk_lit {a b : Int} (h : a.natAbs < 18446744073709551616) : mulOk a b = true := by unfold mulOk; rw [decide_eq_true h]; rfl
theorem mulOk_lit' {a b : Int} (h : b.natAbs < 18446744073709551616) : mulOk a b = true := by unfold mulOk; rw [decide_eq_true h, Bool.or_true]; rfl
theorem log2_lt {n k : Nat} (hk : 0 < k) (h : n < 2 ^ k) : n.log2 < k := by
  by_cases h0 : n = 0
  · subst h0; simpa using hk
  · exact (Nat.log2_lt h0).mpr h
theorem mulOk_sz {a b : Int} {k l : Nat} (ha : a.natAbs < 2 ^ k) (hb : b.natAbs < 2 ^ l) (h : k + l < 134217000) : mulOk a b = true := by
  by_cases hk : k = 0
  · subst hk; exact mulOk_lit (by omega)
  by_cases hl : l = 0
  · subst hl; exact mulOk_lit' (by omega)
  have h1 := log2_lt (by omega) ha
  have h2 := log2_lt (by omega) hb
  unfold mulOk
  rw [Bool.or_eq_true]
  exact .inr (decide_eq_true (by omega))
theorem divOk_of {a b : Int} (h : b ≠ 0) (hb : b.natAbs < 2 ^ 9000) : divOk a b = true := by
  unfold divOk
  rw [PyProof.noPylong_of_log2 (log2_lt (by omega) hb)]
  simp [h]
end Mir

namespace Mir
open PySem L2
/-! comprehensions, as one equation -/
theorem wipe_len : ∀ (vs : List Nat) (g : En), (wipeG g vs).length = g.length
  | [], _ => rfl
  | v :: vs, g => by show ((wipeG g vs).set v .no).length = _; rw [List.length_set, wipe_len vs g]
theorem rest_len : ∀ (vs : List Nat) (g0 g : En), (restG g0 g vs).length = g.length
  | [], _, _ => rfl
  | v :: vs, g0, g => by show ((restG g0 g vs).set v _).length = _; rw [List.length_set, rest_len vs g0 g]
theorem wipe_get : ∀ (vs : List Nat) (g : En) (i : Nat), i ∉ vs → (wipeG g vs)[i]? = g[i]?
  | [], _, _, _ => rfl
  | v :: vs, g, i, h => by
    show ((wipeG g vs).set v .no)[i]? = _
    rw [List.getElem?_set_ne (fun z => h (by rw [z]; exact List.mem_cons_self)), wipe_get vs g i fun z => h (List.mem_cons_of_mem _ z)]
theorem rest_get : ∀ (vs : List Nat) (g0 g : En) (i : Nat), i ∉ vs → (restG g0 g vs)[i]? = g[i]?
  | [], _, _, _, _ => rfl
  | v :: vs, g0, g, i, h => by
    show ((restG g0 g vs).set v _)[i]? = _
    rw [List.getElem?_set_ne (fun z => h (by rw [z]; exact List.mem_cons_self)), rest_get vs g0 g i fun z => h (List.mem_cons_of_mem _ z)]
theorem rest_in : ∀ (vs : List Nat) (g0 g : En) (i : Nat), i ∈ vs → i < g.length → (restG g0 g vs)[i]? = some (gt g0 i)
  | v :: vs, g0, g, i, h, hl => by
    show ((restG g0 g vs).set v _)[i]? = _
    by_cases e : v = i
    · subst e
      rw [List.getElem?_set_self (by rw [rest_len]; exact hl)]
    · rw [List.getElem?_set_ne e]
      exact rest_in vs g0 g i ((List.mem_cons.mp h).resolve_left fun z => e z.symm) hl
theorem rest_wipe {g g' : En} {vs : List Nat} (h : wipeG g' vs = wipeG g vs) : restG g g' vs = g := by
  have hl : g'.length = g.length := by rw [← wipe_len vs g', h, wipe_len]
  apply List.ext_getElem?
  intro i
  by_cases hi : i ∈ vs
  · by_cases hb : i < g.length
    · rw [rest_in vs g g' i hi (by omega), gt_eq, List.getElem?_eq_getElem hb]; rfl
    · rw [List.getElem?_eq_none (by rw [rest_len]; omega), List.getElem?_eq_none (by omega)]
  · rw [rest_get vs g g' i hi, ← wipe_get vs g' i hi, h, wipe_get vs g i hi]
/-- a comprehension that changes nothing: f of every item -/
theorem cmL_okA {α : Type} {vs : List Nat} {t : Tg} {e : M Op} {g : En} (inj f : α → D) {xs : List α}
    (hs : ∀ x ∈ xs, ∃ g2, t (inj x) (wipeG g vs) = some g2 ∧ Out (e g2) (fun y g3 => y = .d (f x) ∧ wipeG g3 vs = wipeG g vs) (fun _ _ => False)) :
    ∀ (es : List α) (acc : List D) (g1 : En), (∀ x ∈ es, x ∈ xs) → acc.length + es.length ≤ 16777216 → wipeG g1 vs = wipeG g vs → ∃ g', cmL vs t yes e (es.map inj) acc g1 = .ok (acc ++ es.map f) g' ∧ wipeG g' vs = wipeG g vs
  | [], acc, g1, _, _, hg => ⟨g1, by simp [cmL, Mir.ret], hg⟩
  | x :: es, acc, g1, hd, hl, hg => by
    rw [List.length_cons] at hl
    obtain ⟨g2, h1, h2⟩ := hs x (hd x List.mem_cons_self)
    have h3 : ∃ g3, e g2 = .ok (.d (f x)) g3 ∧ wipeG g3 vs = wipeG g vs := by
      cases e3 : e g2 with
      | ok y g3 => rw [e3] at h2; obtain ⟨rfl, hw⟩ := h2; exact ⟨g3, rfl, hw⟩
      | ex y g3 => rw [e3] at h2; exact h2.elim
      | bad => rw [e3] at h2; exact h2.elim
    obtain ⟨g3, e3, hw⟩ := h3
    obtain ⟨g', e4, hw2⟩ := cmL_okA inj f hs es (acc ++ [f x]) g3 (fun x hx => hd x (List.mem_cons_of_mem _ hx)) (by rw [List.length_append, List.length_singleton]; omega) hw
    refine ⟨g', ?_, hw2⟩
    have hacc : acc.length < 16777216 := by omega
    rw [← hg] at h1
    rw [List.map_cons]
    unfold cmL
    simp only [h1, bnd, noex, yes, Mir.ret, e3, hacc, if_true]
    exact e4.trans (by rw [List.append_assoc]; rfl)
theorem cmp_okA {α : Type} {vs : List Nat} {m : M (List D)} {t : Tg} {e : M Op} {g : En} (inj f : α → D) {xs : List α} (hm : m g = .ok (xs.map inj) g) (hn : noO g vs = true)
    (hs : ∀ x ∈ xs, ∃ g2, t (inj x) (wipeG g vs) = some g2 ∧ Out (e g2) (fun y g3 => y = .d (f x) ∧ wipeG g3 vs = wipeG g vs) (fun _ _ => False)) (hl : xs.length ≤ 16777216) : cmp vs m t yes e g = .ok (xs.map f) g := by
  obtain ⟨g', h1, h2⟩ := cmL_okA inj f hs xs [] g (fun _ h => h) (by simpa using hl) rfl
  unfold cmp bnd
  rw [hm]
  simp only [hn, if_true, h1, List.nil_append]
  rw [rest_wipe h2]
/-- a comprehension whose elements draw: the first slot is an object, I holds of it all along -/
theorem cmL_draw {vs : List Nat} {t : Tg} {e : M Op} {T : En} (I : Mo → Prop) (Y : D → Prop) {ds : List D}
    (hs : ∀ d ∈ ds, ∀ m, I m → ∃ g2, t d (wipeG (.pm m :: T) vs) = some g2 ∧ Out (e g2) (fun x g3 => ∃ y m', x = .d y ∧ Y y ∧ I m' ∧ wipeG g3 vs = wipeG (.pm m' :: T) vs) (fun _ _ => False)) :
    ∀ (es acc : List D) (g : En) (m : Mo), (∀ d ∈ es, d ∈ ds) → acc.length + es.length ≤ 16777216 → I m → wipeG g vs = wipeG (.pm m :: T) vs → ∃ ys g' m', cmL vs t yes e es acc g = .ok (acc ++ ys) g' ∧ wipeG g' vs = wipeG (.pm m' :: T) vs ∧ I m' ∧ ys.length = es.length ∧ ∀ y ∈ ys, Y y
  | [], acc, g, m, _, _, hm, hg => ⟨[], g, m, by simp [cmL, Mir.ret], hg, hm, rfl, fun _ h => nomatch h⟩
  | d :: es, acc, g, m, hd, hl, hm, hg => by
    rw [List.length_cons] at hl
    obtain ⟨g2, h1, h2⟩ := hs d (hd d List.mem_cons_self) m hm
    have h3 : ∃ y g3 m', e g2 = .ok (.d y) g3 ∧ Y y ∧ I m' ∧ wipeG g3 vs = wipeG (.pm m' :: T) vs := by
      cases e3 : e g2 with
      | ok x g3 => rw [e3] at h2; obtain ⟨y, m', rfl, hy, hm', hw⟩ := h2; exact ⟨y, g3, m', rfl, hy, hm', hw⟩
      | ex x g3 => rw [e3] at h2; exact h2.elim
      | bad => rw [e3] at h2; exact h2.elim
    obtain ⟨y, g3, m', e3, hy, hm', hw⟩ := h3
    obtain ⟨ys, g', m2, e4, hw2, hm2, hl2, hy2⟩ := cmL_draw I Y hs es (acc ++ [y]) g3 m' (fun x hx => hd x (List.mem_cons_of_mem _ hx)) (by rw [List.length_append, List.length_singleton]; omega) hm' hw
    refine ⟨y :: ys, g', m2, ?_, hw2, hm2, by rw [List.length_cons, List.length_cons, hl2], fun x hx => ?_⟩
    · have hacc : acc.length < 16777216 := by omega
      rw [← hg] at h1
      unfold cmL
      simp only [h1, bnd, noex, yes, Mir.ret, e3, hacc, if_true]
      exact e4.trans (by rw [List.append_assoc]; rfl)
    · rcases List.mem_cons.mp hx with rfl | hx
      · exact hy
      · exact hy2 x hx
theorem cmp_draw {vs : List Nat} {m : M (List D)} {t : Tg} {e : M Op} {g0 T : En} {m0 : Mo} (I : Mo → Prop) (Y : D → Prop) {ds : List D} (hm : m g0 = .ok ds (.pm m0 :: T)) (hn : noO (.pm m0 :: T) vs = true) (h0 : 0 ∉ vs) (hI : I m0)
    (hs : ∀ d ∈ ds, ∀ m, I m → ∃ g2, t d (wipeG (.pm m :: T) vs) = some g2 ∧ Out (e g2) (fun x g3 => ∃ y m', x = .d y ∧ Y y ∧ I m' ∧ wipeG g3 vs = wipeG (.pm m' :: T) vs) (fun _ _ => False)) (hl : ds.length ≤ 16777216) :
    ∃ ys m', cmp vs m t yes e g0 = .ok ys (.pm m' :: T) ∧ I m' ∧ ys.length = ds.length ∧ ∀ y ∈ ys, Y y := by
  obtain ⟨ys, g', m', e1, hw, hm', hl', hy⟩ := cmL_draw I Y hs ds [] (.pm m0 :: T) m0 (fun _ h => h) (by simpa using hl) hI rfl
  refine ⟨ys, m', ?_, hm', hl', hy⟩
  unfold cmp bnd
  rw [hm]
  simp only [hn, if_true, e1, List.nil_append]
  have : restG (.pm m0 :: T) g' vs = .pm m' :: T := by
    have a := rest_wipe hw
    rw [← a]
    have key : ∀ vs : List Nat, 0 ∉ vs → restG (.pm m0 :: T) g' vs = restG (.pm m' :: T) g' vs := by
      intro vs
      induction vs with
      | nil => intro _; rfl
      | cons v vs ih =>
        intro h
        have hv : v ≠ 0 := fun z => h (by rw [z]; exact List.mem_cons_self)
        show (restG (.pm m0 :: T) g' vs).set v (gt (.pm m0 :: T) v) = (restG (.pm m' :: T) g' vs).set v (gt (.pm m' :: T) v)
        rw [ih fun z => h (List.mem_cons_of_mem _ z)]
        cases v with
        | zero => exact (hv rfl).elim
        | succ v => rfl
    exact key vs h0
  rw [this]
/-- loops over items that come of a list -/
theorem S_forA {α : Type} {g : En} {N : En → Prop} {R : Sl → En → Prop} {B C : En → Prop} {E : Xn → En → Prop} {t : Tg} {b : Ms} (inj : α → D) (I : Nat → En → Prop) {xs : List α} (h0 : I 0 g)
    (hs : ∀ i x g, xs[i]? = some x → I i g → ∃ g1, t (inj x) g = some g1 ∧ SO (b g1) (I (i + 1)) R N (I (i + 1)) E) (hN : ∀ g, I xs.length g → N g) : SO (forL t b (xs.map inj) g) N R B C E :=
  S_forL I h0 (fun i d g hd hi => by
    rw [List.getElem?_map] at hd
    cases hx : xs[i]? with
    | none => rw [hx] at hd; cases hd
    | some x => rw [hx] at hd; cases hd; exact hs i x g hx hi) fun g h => hN g (by rw [List.length_map] at h; exact h)
theorem S_app {i : Nat} {m : M Op} {g : En} {N : En → Prop} {R : Sl → En → Prop} {B C : En → Prop} {E : Xn → En → Prop} : SO (sApp i m g) N R B C E = (match (gt g i).mo with
    | none => False
    | some _ => Out (m g) (fun x g' => match x, (gt g' i).mo with
      | .d d, some (.ls xs) => if xs.length < 16777216 then N (setMo g' i (.ls (xs ++ [d]))) else False
      | _, _ => False) E) := by
  unfold sApp
  cases (gt g i).mo with
  | none => rfl
  | some _ =>
    simp only
    rw [S_then]
    refine congrArg (fun z => Out (m g) z E) (funext fun x => funext fun g' => ?_)
    cases x with
    | o _ => rfl
    | d d =>
      cases (gt g' i).mo with
      | none => rfl
      | some mo =>
        cases mo with
        | ls xs => simp only; split <;> rfl
theorem bnd_ok {α β : Type} {m : M α} {f : α → M β} {g g' : En} {a : α} (h : m g = .ok a g') : bnd m f g = f a g' := by unfold bnd; rw [h]
end Mir

set_option maxHeartbeats 4000000
namespace MLaw
open PySem L2 Mir
noncomputable section
abbrev lstE (m : M (List D)) : M D := bnd m fun xs => ret (.lst xs)
abbrev c_MAX_COUNT : Int := 60
abbrev c_MAX_WIDTH : Int := 144
def b_is_integer : Ms :=
  (sRet (eD (ite' (tB (bnd (eArgs [(eN 0), (eD (ret (.ty "int")))]) (apL isiN))) (ofB (notM (tB (bnd (eArgs [(eN 0), (eD (ret (.ty "bool")))]) (apL isiN))))) (ret (.bl false)))))
def f_is_integer : List D → Fd := fnD 0 b_is_integer
def b_common_divisor : Ms :=
  (sQ (sPar 0 1 (eArgs [(eD (bnd (eArgs [(eN 0)]) (apL absN))), (eD (bnd (eArgs [(eN 1)]) (apL absN)))]))
  (sQ (sWh (tB (e2 (eN 1) (eD (ret (.int 0))) (f2 gtD)))
  (sPar 0 1 (eArgs [(eN 1), (eD (e2 (eN 0) (eN 1) (f2 modD)))])))
  (sRet (eN 0))))
def f_common_divisor : List D → Fd := fnD 0 b_common_divisor
def b_rest_row : Ms :=
  (sRet (eD (e2 (eD (bnd (eArgs [(eD (ret (D.tup [(D.int 0), (D.int 1)])))]) tupM)) (eN 0) (f2 mulD))))
def f_rest_row : List D → Fd := fnD 0 b_rest_row
def b_unit_row : Ms :=
  (sRet (eD (bnd (eArgs [(eD (lstE (cmp [2] (bnd (eArgs [(eN 0)]) rng1) (tName 2) yes (eD (ite' (tB (e2 (eN 2) (eN 1) (f2 eqD))) (ret (D.tup [(D.int 1), (D.int 1)])) (ret (D.tup [(D.int 0), (D.int 1)])))))))]) (apL tupN))))
def f_unit_row : List D → Fd := fnD 1 b_unit_row
def b_columns_of : Ms :=
  (sRet (eD (bnd (eArgs [(eD (lstE (cmp [2] (bnd (eArgs [(eN 1)]) rng1) (tName 2) yes (eD (bnd (eArgs [(eD (lstE (cmp [3] (bnd (eN 0) itM) (tName 3) yes (eD (e2 (eN 3) (eN 2) (f2 ixD))))))]) (apL tupN))))))]) (apL tupN))))
def f_columns_of : List D → Fd := fnD 2 b_columns_of
def b_law_dice : Ms :=
  (sQ (sAsg (ite' (tB (e2 (eN 1) (eD (bnd (eArgs [(eN 0)]) (apL lenN))) (f2 ltD))) (bnd (eArgs [(eD (e2 (eN 0) (eN 1) (f2 ixD)))]) (apL intN)) (e2 (eD (e2 (eD (ret (.int 131))) (eN 1) (f2 mulD))) (eD (ret (.int 37))) (f2 addD))) (tName 2))
  (sQ (sAsg (e2 (eD (bnd (eArgs [(eD (bnd (eArgs [(eN 2)]) (apL absN)))]) (apL intN))) (eD (e2 (eD (e2 (eD (ret (.int 10))) (eD (ret (.int 53))) (f2 powD))) (eD (ret (.int 6))) (f2 powD))) (f2 modD)) (tName 3))
  (sQ (sAsg (e2 (eD (e2 (eD (e2 (eD (e2 (eD (e2 (eN 3) (eD (ret (.int 2305843009213693907))) (f2 modD))) (eD (ret (.int 73))) (f2 mulD))) (eD (e2 (eD (ret (.int 619))) (eN 1) (f2 mulD))) (f2 addD))) (eD (e2 (eD (ret (.int 41))) (eD (bnd (eArgs [(eD (e2 (eN 2) (eD (ret (.int 0))) (f2 ltD)))]) (apL intN))) (f2 mulD))) (f2 addD))) (eD (ret (.int 17))) (f2 addD)) (tName 4))
  (sRetW (bnd (eArgs [(eD (bnd (eArgs [(eD (ret (.int 0))), (eD (e2 (eN 3) (eD (e2 (eD (ret (.int 10))) (eD (ret (.int 16))) (f2 powD))) (f2 subD)))]) (apL maxN))), (eN 4), (eD (ret (.int 0)))]) lstM)))))
def f_law_dice : List D → Fd := fnD 3 b_law_dice
def b_law_roll : Ms :=
  (sQ (sIf (tB (e2 (eD (e2 (eN 0) (eD (ret (.int 0))) (f2 ixD))) (eD (ret (.int 0))) (f2 gtD)))
  (sQ (sAsg (e2 (eD (e2 (eN 0) (eD (ret (.int 0))) (f2 ixD))) (eN 1) (f2 modD)) (tName 4))
  (sQ (sSto 0 (eD (ret (.int 0))) (eD (e2 (eD (e2 (eN 0) (eD (ret (.int 0))) (f2 ixD))) (eN 1) (f2 fdvD))))
  (sRet (eD (bnd (eArgs [(eN 4)]) (apL intN))))))
  sNil)
  (sQ (sSto 0 (eD (ret (.int 2))) (eD (e2 (eD (e2 (eN 0) (eD (ret (.int 2))) (f2 ixD))) (eD (ret (.int 1))) (f2 addD))))
  (sQ (sAsg (e2 (eD (e2 (eD (e2 (eN 0) (eD (ret (.int 1))) (f2 ixD))) (eD (e2 (eD (ret (.int 49979687))) (eD (e2 (eN 0) (eD (ret (.int 2))) (f2 ixD))) (f2 mulD))) (f2 addD))) (eD (ret (.int 2305843009213693951))) (f2 modD)) (tName 2))
  (sQ (sAsg (e2 (eD (e2 (eD (e2 (eD (e2 (eD (e2 (eN 2) (eN 2) (f2 mulD))) (eD (e2 (eD (ret (.int 131))) (eD (e2 (eN 0) (eD (ret (.int 2))) (f2 ixD))) (f2 mulD))) (f2 addD))) (eD (ret (.int 2305843009213693921))) (f2 modD))) (eD (ret (.int 32452843))) (f2 mulD))) (eN 2) (f2 addD)) (tName 3))
  (sRet (eD (e2 (eD (bnd (eArgs [(eD (e2 (eN 3) (eD (ret (.int 65587))) (f2 fdvD)))]) (apL intN))) (eN 1) (f2 modD))))))))
def f_law_roll : Mo → List D → Fm := fnM 3 b_law_roll
def b_law_fr : Ms :=
  (sQ (sPar 3 4 (eArgs [(eD (bnd (eArgs [(eN 0)]) (apL absN))), (eD (bnd (eArgs [(eN 1)]) (apL absN)))]))
  (sQ (sWh (tB (e2 (eN 4) (eD (ret (.int 0))) (f2 gtD)))
  (sPar 3 4 (eArgs [(eN 4), (eD (e2 (eN 3) (eN 4) (f2 modD)))])))
  (sQ (sAsg (ite' (tB (e2 (eN 1) (eD (ret (.int 0))) (f2 ltD))) (e1 (eD (ret (.int 1))) (f1 negD)) (ret (.int 1))) (tName 2))
  (sRet (eD (bnd (eArgs [(eD (e2 (eD (e2 (eN 2) (eN 0) (f2 mulD))) (eN 3) (f2 fdvD))), (eD (e2 (eD (e2 (eN 2) (eN 1) (f2 mulD))) (eN 3) (f2 fdvD)))]) tupM))))))
def f_law_fr : List D → Fd := fnD 3 b_law_fr
def b_law_columns : Ms :=
  (sRetW (cmp [2] (bnd (eArgs [(eN 1)]) rng1) (tName 2) yes (eD (bnd (eArgs [(eD (lstE (cmp [3] (bnd (eN 0) itM) (tName 3) yes (eD (e2 (eN 3) (eN 2) (f2 ixD))))))]) (apL tupN)))))
def f_law_columns : List D → Fd := fnD 2 b_law_columns
def b_is_number : Ms :=
  (sQ (sIf (orM (notM (tB (bnd (eArgs [(eN 0), (eD (ret (.ty "tuple")))]) (apL isiN)))) (orM (tB (e2 (eD (bnd (eArgs [(eN 0)]) (apL lenN))) (eD (ret (.int 2))) (f2 neD))) (notM (tB (bnd (eArgs [(eD (lstE (cmp [1] (bnd (eN 0) itM) (tName 1) yes (eD (bnd (eArgs [(eN 1)]) (callF 1 f_is_integer []))))))]) (apL allN))))))
  (sRet (eD (ret (.bl false))))
  sNil)
  (sRet (eD (ite' (tB (e2 (eD (e2 (eN 0) (eD (ret (.int 1))) (f2 ixD))) (eD (ret (.int 1))) (f2 geD))) (e2 (eD (bnd (eArgs [(eD (e2 (eN 0) (eD (ret (.int 0))) (f2 ixD))), (eD (e2 (eN 0) (eD (ret (.int 1))) (f2 ixD)))]) (callF 2 f_common_divisor []))) (eD (ret (.int 1))) (f2 eqD)) (ret (.bl false))))))
def f_is_number : List D → Fd := fnD 1 b_is_number
def b_reduced : Ms :=
  (sQ (sIf (tB (e2 (eN 1) (eD (ret (.int 0))) (f2 ltD)))
  (sPar 0 1 (eArgs [(eD (e2 (eD (ret (.int 0))) (eN 0) (f2 subD))), (eD (e2 (eD (ret (.int 0))) (eN 1) (f2 subD)))]))
  sNil)
  (sQ (sAsg (bnd (eArgs [(eN 0), (eN 1)]) (callF 2 f_common_divisor [])) (tName 2))
  (sRet (eD (bnd (eArgs [(eD (e2 (eN 0) (eN 2) (f2 fdvD))), (eD (e2 (eN 1) (eN 2) (f2 fdvD)))]) tupM)))))
def f_reduced : List D → Fd := fnD 1 b_reduced
def b_require_count : Ms :=
  (sIf (orM (notM (tB (bnd (eArgs [(eN 0)]) (callF 1 f_is_integer [])))) (notM (tB (chM (eN 1) (eN 0) (eN 2) leD leD))))
  sBad
  sNil)
def f_require_count : List D → Fd := fnD 0 b_require_count
def b_unit_table : Ms :=
  (sRet (eD (bnd (eArgs [(eD (lstE (cmp [1] (bnd (eArgs [(eN 0)]) rng1) (tName 1) yes (eD (bnd (eArgs [(eN 0), (eN 1)]) (callF 2 f_unit_row []))))))]) (apL tupN))))
def f_unit_table : List D → Fd := fnD 1 b_unit_table
def b_law_pick : Ms :=
  (sRet (eD (e2 (eN 1) (eD (bnd (eArgs [(eN 0), (eD (bnd (eArgs [(eN 1)]) (apL lenN)))]) (callM 2 f_law_roll []))) (f2 ixD))))
def f_law_pick : Mo → List D → Fm := fnM 0 b_law_pick
def b_law_plus : Ms :=
  (sRet (eD (bnd (eArgs [(eD (e2 (eD (e2 (eD (e2 (eN 0) (eD (ret (.int 0))) (f2 ixD))) (eD (e2 (eN 1) (eD (ret (.int 1))) (f2 ixD))) (f2 mulD))) (eD (e2 (eD (e2 (eN 1) (eD (ret (.int 0))) (f2 ixD))) (eD (e2 (eN 0) (eD (ret (.int 1))) (f2 ixD))) (f2 mulD))) (f2 addD))), (eD (e2 (eD (e2 (eN 0) (eD (ret (.int 1))) (f2 ixD))) (eD (e2 (eN 1) (eD (ret (.int 1))) (f2 ixD))) (f2 mulD)))]) (callF 2 f_law_fr []))))
def f_law_plus : List D → Fd := fnD 0 b_law_plus
def b_law_times : Ms :=
  (sRet (eD (bnd (eArgs [(eD (e2 (eD (e2 (eN 0) (eD (ret (.int 0))) (f2 ixD))) (eD (e2 (eN 1) (eD (ret (.int 0))) (f2 ixD))) (f2 mulD))), (eD (e2 (eD (e2 (eN 0) (eD (ret (.int 1))) (f2 ixD))) (eD (e2 (eN 1) (eD (ret (.int 1))) (f2 ixD))) (f2 mulD)))]) (callF 2 f_law_fr []))))
def f_law_times : List D → Fd := fnD 0 b_law_times
def b_added : Ms :=
  (sQ (sIf (tB (chM (eD (e2 (eN 0) (eD (ret (.int 1))) (f2 ixD))) (eD (e2 (eN 1) (eD (ret (.int 1))) (f2 ixD))) (eD (ret (.int 1))) eqD eqD))
  (sRet (eD (bnd (eArgs [(eD (e2 (eD (e2 (eN 0) (eD (ret (.int 0))) (f2 ixD))) (eD (e2 (eN 1) (eD (ret (.int 0))) (f2 ixD))) (f2 addD))), (eD (ret (.int 1)))]) tupM)))
  sNil)
  (sRet (eD (bnd (eArgs [(eD (e2 (eD (e2 (eD (e2 (eN 0) (eD (ret (.int 0))) (f2 ixD))) (eD (e2 (eN 1) (eD (ret (.int 1))) (f2 ixD))) (f2 mulD))) (eD (e2 (eD (e2 (eN 1) (eD (ret (.int 0))) (f2 ixD))) (eD (e2 (eN 0) (eD (ret (.int 1))) (f2 ixD))) (f2 mulD))) (f2 addD))), (eD (e2 (eD (e2 (eN 0) (eD (ret (.int 1))) (f2 ixD))) (eD (e2 (eN 1) (eD (ret (.int 1))) (f2 ixD))) (f2 mulD)))]) (callF 2 f_reduced [])))))
def f_added : List D → Fd := fnD 0 b_added
def b_multiplied : Ms :=
  (sQ (sIf (tB (chM (eD (e2 (eN 0) (eD (ret (.int 1))) (f2 ixD))) (eD (e2 (eN 1) (eD (ret (.int 1))) (f2 ixD))) (eD (ret (.int 1))) eqD eqD))
  (sRet (eD (bnd (eArgs [(eD (e2 (eD (e2 (eN 0) (eD (ret (.int 0))) (f2 ixD))) (eD (e2 (eN 1) (eD (ret (.int 0))) (f2 ixD))) (f2 mulD))), (eD (ret (.int 1)))]) tupM)))
  sNil)
  (sRet (eD (bnd (eArgs [(eD (e2 (eD (e2 (eN 0) (eD (ret (.int 0))) (f2 ixD))) (eD (e2 (eN 1) (eD (ret (.int 0))) (f2 ixD))) (f2 mulD))), (eD (e2 (eD (e2 (eN 0) (eD (ret (.int 1))) (f2 ixD))) (eD (e2 (eN 1) (eD (ret (.int 1))) (f2 ixD))) (f2 mulD)))]) (callF 2 f_reduced [])))))
def f_multiplied : List D → Fd := fnD 0 b_multiplied
def b_is_plain_row : Ms :=
  (sRet (eD (ite' (tB (bnd (eArgs [(eN 1), (eD (ret (.ty "tuple")))]) (apL isiN))) (ite' (tB (e2 (eD (bnd (eArgs [(eN 1)]) (apL lenN))) (eN 0) (f2 eqD))) (bnd (eArgs [(eD (lstE (cmp [2] (bnd (eN 1) itM) (tName 2) yes (eD (bnd (eArgs [(eN 2)]) (callF 1 f_is_number []))))))]) (apL allN)) (ret (.bl false))) (ret (.bl false)))))
def f_is_plain_row : List D → Fd := fnD 1 b_is_plain_row
def b_require_width : Ms :=
  (sExp (bnd (eArgs [(eN 0), (eD (ret (.int 0))), (eD (ret (.int c_MAX_WIDTH)))]) (callF 3 f_require_count [])))
def f_require_width : List D → Fd := fnD 0 b_require_width
def b_law_dot : Ms :=
  (sQ (sAsg (bnd (eArgs [(eD (ret (.int 0))), (eD (ret (.int 1)))]) tupM) (tName 2))
  (sQ (sFor (bnd (eArgs [(eN 0), (eN 1)]) zipM) (tTup 2 (tCons (tName 3) (tCons (tName 4) tNil)))
  (sIf (andM (tB (e2 (eD (e2 (eN 3) (eD (ret (.int 0))) (f2 ixD))) (eD (ret (.int 0))) (f2 neD))) (tB (e2 (eD (e2 (eN 4) (eD (ret (.int 0))) (f2 ixD))) (eD (ret (.int 0))) (f2 neD))))
  (sAsg (bnd (eArgs [(eN 2), (eD (bnd (eArgs [(eN 3), (eN 4)]) (callF 2 f_law_times [])))]) (callF 2 f_law_plus [])) (tName 2))
  sNil))
  (sRet (eN 2))))
def f_law_dot : List D → Fd := fnD 3 b_law_dot
def b_law_table : Ms :=
  (sQ (sAsg (lstE (bnd (eArgs [(eD (bnd (eArgs [(eD (ret (.int 0))), (eD (ret (.int 1)))]) tupM)), (eD (bnd (eArgs [(eD (ret (.int 0))), (eD (ret (.int 1)))]) tupM)), (eD (bnd (eArgs [(eD (ret (.int 1))), (eD (ret (.int 1)))]) tupM)), (eD (bnd (eArgs [(eD (e1 (eD (ret (.int 1))) (f1 negD))), (eD (ret (.int 1)))]) tupM)), (eD (bnd (eArgs [(eD (ret (.int 2))), (eD (ret (.int 1)))]) tupM)), (eD (bnd (eArgs [(eD (ret (.int 1))), (eD (ret (.int 3)))]) tupM)), (eD (bnd (eArgs [(eD (e1 (eD (ret (.int 5))) (f1 negD))), (eD (ret (.int 2)))]) tupM))]) lstM)) (tName 3))
  (sRet (eD (bnd (eArgs [(eD (lstE (cmp [4] (bnd (eArgs [(eN 1)]) rng1) (tName 4) yes (eD (bnd (eArgs [(eD (lstE (cmp [5] (bnd (eArgs [(eN 2)]) rng1) (tName 5) yes (eD (bnd (eArgs [(eN 0), (eN 3)]) (callM 2 f_law_pick []))))))]) (apL tupN))))))]) (apL tupN)))))
def f_law_table : Mo → List D → Fm := fnM 3 b_law_table
def b_is_plain_table : Ms :=
  (sRet (eD (ite' (tB (bnd (eArgs [(eN 2), (eD (ret (.ty "tuple")))]) (apL isiN))) (ite' (tB (e2 (eD (bnd (eArgs [(eN 2)]) (apL lenN))) (eN 0) (f2 eqD))) (bnd (eArgs [(eD (lstE (cmp [3] (bnd (eN 2) itM) (tName 3) yes (eD (bnd (eArgs [(eN 1), (eN 3)]) (callF 2 f_is_plain_row []))))))]) (apL allN)) (ret (.bl false))) (ret (.bl false)))))
def f_is_plain_table : List D → Fd := fnD 1 b_is_plain_table
def b_sum_of_rows : Ms :=
  (sRet (eD (bnd (eArgs [(eD (lstE (cmp [2, 3] (bnd (eArgs [(eN 0), (eN 1)]) zipM) (tTup 2 (tCons (tName 2) (tCons (tName 3) tNil))) yes (eD (bnd (eArgs [(eN 2), (eN 3)]) (callF 2 f_added []))))))]) (apL tupN))))
def f_sum_of_rows : List D → Fd := fnD 2 b_sum_of_rows
def b_times_row : Ms :=
  (sRet (eD (bnd (eArgs [(eD (lstE (cmp [2] (bnd (eN 1) itM) (tName 2) yes (eD (ite' (tB (e2 (eN 2) (eD (ret (D.tup [(D.int 0), (D.int 1)]))) (f2 neD))) (bnd (eArgs [(eN 0), (eN 2)]) (callF 2 f_multiplied [])) (ret (D.tup [(D.int 0), (D.int 1)])))))))]) (apL tupN))))
def f_times_row : List D → Fd := fnD 1 b_times_row
def b_product_of : Ms :=
  (sQ (sAsg (ret (D.tup [(D.int 0), (D.int 1)])) (tName 2))
  (sQ (sFor (bnd (eArgs [(eN 0), (eN 1)]) zipM) (tTup 2 (tCons (tName 3) (tCons (tName 4) tNil)))
  (sIf (andM (tB (e2 (eN 3) (eD (ret (D.tup [(D.int 0), (D.int 1)]))) (f2 neD))) (tB (e2 (eN 4) (eD (ret (D.tup [(D.int 0), (D.int 1)]))) (f2 neD))))
  (sAsg (bnd (eArgs [(eN 2), (eD (bnd (eArgs [(eN 3), (eN 4)]) (callF 2 f_multiplied [])))]) (callF 2 f_added [])) (tName 2))
  sNil))
  (sRet (eN 2))))
def f_product_of : List D → Fd := fnD 3 b_product_of
def b_require_row : Ms :=
  (sIf (notM (tB (bnd (eArgs [(eN 0), (eN 1)]) (callF 2 f_is_plain_row []))))
  sBad
  sNil)
def f_require_row : List D → Fd := fnD 0 b_require_row
def b_unit : Ms :=
  (sQ (sExp (bnd (eArgs [(eN 0)]) (callF 1 f_require_width [])))
  (sRet (eD (bnd (eArgs [(eN 0)]) (callF 1 f_unit_table [])))))
def f_unit : List D → Fd := fnD 0 b_unit
def b_law_behind_one : Ms :=
  (sRet (eD (bnd (eArgs [(eD (lstE (cmp [3] (bnd (eN 0) itM) (tName 3) yes (eD (bnd (eArgs [(eD (lstE (cmp [4] (bnd (eD (bnd (eArgs [(eN 1), (eN 2)]) (callF 2 f_law_columns []))) itM) (tName 4) yes (eD (bnd (eArgs [(eN 3), (eN 4)]) (callF 2 f_law_dot []))))))]) (apL tupN))))))]) (apL tupN))))
def f_law_behind_one : List D → Fd := fnD 2 b_law_behind_one
def b_led_row : Ms :=
  (sRet (eD (bnd (eArgs [(eD (lstE (cmp [2] (bnd (eN 0) itM) (tName 2) yes (eD (bnd (eArgs [(eN 1), (eN 2)]) (callF 2 f_product_of []))))))]) (apL tupN))))
def f_led_row : List D → Fd := fnD 1 b_led_row
def b_led_told : Ms :=
  (sQ (sAsg (bnd (eArgs [(eN 0)]) (callF 1 f_rest_row [])) (tName 3))
  (sQ (sFor (bnd (eArgs [(eN 2), (eN 1)]) zipM) (tTup 2 (tCons (tName 4) (tCons (tName 5) tNil)))
  (sIf (tB (e2 (eN 4) (eD (ret (D.tup [(D.int 0), (D.int 1)]))) (f2 neD)))
  (sAsg (bnd (eArgs [(eN 3), (eD (bnd (eArgs [(eN 4), (eN 5)]) (callF 2 f_times_row [])))]) (callF 2 f_sum_of_rows [])) (tName 3))
  sNil))
  (sRet (eN 3))))
def f_led_told : List D → Fd := fnD 3 b_led_told
def b_require_table : Ms :=
  (sIf (notM (tB (bnd (eArgs [(eN 0), (eN 1), (eN 2)]) (callF 3 f_is_plain_table []))))
  sBad
  sNil)
def f_require_table : List D → Fd := fnD 0 b_require_table
def b_table_behind : Ms :=
  (sRet (eD (bnd (eArgs [(eD (lstE (cmp [3] (bnd (eN 0) itM) (tName 3) yes (eD (bnd (eArgs [(eN 2), (eN 1), (eN 3)]) (callF 3 f_led_told []))))))]) (apL tupN))))
def f_table_behind : List D → Fd := fnD 1 b_table_behind
def b_require_sized : Ms :=
  (sQ (sExp (bnd (eArgs [(eN 0)]) (callF 1 f_require_width [])))
  (sQ (sExp (bnd (eArgs [(eN 1)]) (callF 1 f_require_width [])))
  (sExp (bnd (eArgs [(eN 0), (eN 1), (eN 2)]) (callF 3 f_require_table [])))))
def f_require_sized : List D → Fd := fnD 0 b_require_sized
def b_led : Ms :=
  (sQ (sExp (bnd (eArgs [(eN 0), (eN 1), (eN 2)]) (callF 3 f_require_sized [])))
  (sQ (sExp (bnd (eArgs [(eN 1), (eN 3)]) (callF 2 f_require_row [])))
  (sRet (eD (bnd (eArgs [(eN 2), (eN 3)]) (callF 2 f_led_row []))))))
def f_led : List D → Fd := fnD 0 b_led
def b_columns : Ms :=
  (sQ (sExp (bnd (eArgs [(eN 0), (eN 1), (eN 2)]) (callF 3 f_require_sized [])))
  (sRet (eD (bnd (eArgs [(eN 2), (eN 1)]) (callF 2 f_columns_of [])))))
def f_columns : List D → Fd := fnD 0 b_columns
def b_table_plus : Ms :=
  (sQ (sExp (bnd (eArgs [(eN 0), (eN 1), (eN 2)]) (callF 3 f_require_sized [])))
  (sQ (sExp (bnd (eArgs [(eN 0), (eN 1), (eN 3)]) (callF 3 f_require_table [])))
  (sRet (eD (bnd (eArgs [(eD (lstE (cmp [4, 5] (bnd (eArgs [(eN 2), (eN 3)]) zipM) (tTup 2 (tCons (tName 4) (tCons (tName 5) tNil))) yes (eD (bnd (eArgs [(eN 4), (eN 5)]) (callF 2 f_sum_of_rows []))))))]) (apL tupN))))))
def f_table_plus : List D → Fd := fnD 2 b_table_plus
def b_table_times : Ms :=
  (sQ (sExp (bnd (eArgs [(eN 0)]) (callF 1 f_require_width [])))
  (sQ (sExp (bnd (eArgs [(eN 1)]) (callF 1 f_require_width [])))
  (sQ (sExp (bnd (eArgs [(eN 2)]) (callF 1 f_require_width [])))
  (sQ (sExp (bnd (eArgs [(eN 0), (eN 1), (eN 3)]) (callF 3 f_require_table [])))
  (sQ (sExp (bnd (eArgs [(eN 1), (eN 2), (eN 4)]) (callF 3 f_require_table [])))
  (sRet (eD (bnd (eArgs [(eN 3), (eN 4), (eN 2)]) (callF 3 f_table_behind [])))))))))
def f_table_times : List D → Fd := fnD 0 b_table_times
def b_law_right : Ms :=
  (sQ (sAsg (lstE (cmp [15] (bnd (eArgs [(eD (ret (.int 4)))]) rng1) (tName 15) yes (eD (bnd (eArgs [(eN 0), (eD (ret (.int 5)))]) (callM 2 f_law_roll []))))) (tTup 4 (tCons (tName 4) (tCons (tName 5) (tCons (tName 6) (tCons (tName 7) tNil))))))
  (sQ (sPar3 8 9 10 (eArgs [(eD (bnd (eArgs [(eN 0), (eN 4), (eN 5)]) (callM 3 f_law_table []))), (eD (bnd (eArgs [(eN 0), (eN 5), (eN 6)]) (callM 3 f_law_table []))), (eD (bnd (eArgs [(eN 0), (eN 6), (eN 7)]) (callM 3 f_law_table [])))]))
  (sQ (sPar 11 12 (eArgs [(eD (bnd (eArgs [(eN 4), (eN 5), (eN 6), (eN 8), (eN 9)]) (callF 5 f_table_times []))), (eD (e2 (eD (bnd (eArgs [(eN 0), (eD (ret (.int 1))), (eN 6)]) (callM 3 f_law_table []))) (eD (ret (.int 0))) (f2 ixD)))]))
  (sQ (sIf (tB (e2 (eD (bnd (eArgs [(eN 11)]) (apL reprN))) (eD (bnd (eArgs [(eD (bnd (eArgs [(eN 8), (eN 9), (eN 6)]) (callF 3 f_law_behind_one [])))]) (apL reprN))) (f2 neD)))
  (sRet (eD (ret (.bl false))))
  sNil)
  (sQ (sIf (tB (e2 (eD (bnd (eArgs [(eN 4), (eN 6), (eN 11), (eN 12)]) (callF 4 f_led []))) (eD (bnd (eArgs [(eN 4), (eN 5), (eN 8), (eD (bnd (eArgs [(eN 5), (eN 6), (eN 9), (eN 12)]) (callF 4 f_led [])))]) (callF 4 f_led []))) (f2 neD)))
  (sRet (eD (ret (.bl false))))
  sNil)
  (sQ (sAsg (bnd (eArgs [(eN 4), (eN 6), (eN 7), (eN 11), (eN 10)]) (callF 5 f_table_times [])) (tName 1))
  (sQ (sIf (tB (e2 (eN 1) (eD (bnd (eArgs [(eN 4), (eN 5), (eN 7), (eN 8), (eD (bnd (eArgs [(eN 5), (eN 6), (eN 7), (eN 9), (eN 10)]) (callF 5 f_table_times [])))]) (callF 5 f_table_times []))) (f2 neD)))
  (sRet (eD (ret (.bl false))))
  sNil)
  (sQ (sIf (tB (e2 (eD (bnd (eArgs [(eN 4), (eN 4), (eN 5), (eD (bnd (eArgs [(eN 4)]) (callF 1 f_unit []))), (eN 8)]) (callF 5 f_table_times []))) (eN 8) (f2 neD)))
  (sRet (eD (ret (.bl false))))
  sNil)
  (sQ (sIf (tB (e2 (eD (bnd (eArgs [(eN 4), (eN 5), (eN 5), (eN 8), (eD (bnd (eArgs [(eN 5)]) (callF 1 f_unit [])))]) (callF 5 f_table_times []))) (eN 8) (f2 neD)))
  (sRet (eD (ret (.bl false))))
  sNil)
  (sQ (sAsg (bnd (eArgs [(eN 0), (eN 4), (eN 5)]) (callM 3 f_law_table [])) (tName 2))
  (sQ (sNew 3 (bnd (eArgs []) lstM))
  (sQ (sFor (bnd (eArgs [(eN 8), (eN 2)]) zipM) (tTup 2 (tCons (tName 13) (tCons (tName 14) tNil)))
  (sApp 3 (eD (bnd (eArgs [(eD (lstE (cmp [1, 17] (bnd (eArgs [(eN 13), (eN 14)]) zipM) (tTup 2 (tCons (tName 1) (tCons (tName 17) tNil))) yes (eD (bnd (eArgs [(eN 1), (eN 17)]) (callF 2 f_law_plus []))))))]) (apL tupN)))))
  (sQ (sIf (tB (e2 (eD (bnd (eArgs [(eD (bnd (eArgs [(eN 4), (eN 5), (eN 8), (eN 2)]) (callF 4 f_table_plus [])))]) (apL reprN))) (eD (bnd (eArgs [(eD (bnd (eArgs [(eN 3)]) (apL tupN)))]) (apL reprN))) (f2 neD)))
  (sRet (eD (ret (.bl false))))
  sNil)
  (sQ (sIf (andM (tB (e2 (eD (bnd (eArgs [(eN 5), (eN 4), (eD (bnd (eArgs [(eN 4), (eN 5), (eN 8)]) (callF 3 f_columns [])))]) (callF 3 f_columns []))) (eN 8) (f2 neD))) (tB (e2 (eN 5) (eD (ret (.int 0))) (f2 gtD))))
  (sRet (eD (ret (.bl false))))
  sNil)
  (sRet (eD (e2 (eD (bnd (eArgs [(eN 7)]) (callF 1 f_unit []))) (eD (bnd (eArgs [(eD (lstE (cmp [16] (bnd (eArgs [(eN 7)]) rng1) (tName 16) yes (eD (bnd (eArgs [(eD (lstE (cmp [18] (bnd (eArgs [(eN 7)]) rng1) (tName 18) yes (eD (bnd (eArgs [(eD (bnd (eArgs [(eD (e2 (eN 18) (eN 16) (f2 eqD)))]) (apL intN))), (eD (ret (.int 1)))]) tupM)))))]) (apL tupN))))))]) (apL tupN))) (f2 eqD))))))))))))))))))
def f_law_right : Mo → List D → Fm := fnM 18 b_law_right
def b_law : Ms :=
  (sQ (sFor (bnd (eArgs [(eD (bnd (eArgs [(eD (ret (.int 1))), (eD (bnd (eArgs [(eD (ret (.int 6))), (eD (bnd (eArgs [(eN 0)]) (apL lenN)))]) (apL minN)))]) (apL maxN)))]) rng1) (tName 1)
  (sQ (sNew 3 (bnd (eArgs [(eN 0), (eN 1)]) (callN 2 f_law_dice [])))
  (sFor (bnd (eArgs [(eD (ret (.int 2)))]) rng1) (tName 4)
  (sIf (notM (tB (bnd (eArgs [(eN 3)]) (callM 1 f_law_right []))))
  (sRet (eD (ret (.bl false))))
  sNil))))
  (sQ (sNew 2 (bnd (eArgs [(eD (bnd (eArgs [(eD (ret (.int 0)))]) (callF 1 f_unit []))), (eD (bnd (eArgs [(eD (ret (.int 2))), (eD (ret (.int 0))), (eD (ret (.int 1))), (eD (bnd (eArgs [(eD (bnd (eArgs []) tupM)), (eD (bnd (eArgs []) tupM))]) tupM)), (eD (bnd (eArgs []) tupM))]) (callF 5 f_table_times []))), (eD (bnd (eArgs [(eD (ret (.int 0))), (eD (ret (.int 3))), (eD (ret (.int 2))), (eD (bnd (eArgs []) tupM)), (eD (e2 (eD (bnd (eArgs [(eD (bnd (eArgs [(eD (bnd (eArgs [(eD (ret (.int 1))), (eD (ret (.int 1)))]) tupM)), (eD (bnd (eArgs [(eD (ret (.int 0))), (eD (ret (.int 1)))]) tupM))]) tupM))]) tupM)) (eD (ret (.int 3))) (f2 mulD)))]) (callF 5 f_table_times [])))]) lstM))
  (sQ (sApp 2 (eD (bnd (eArgs [(eD (bnd (eArgs [(eD (ret (.int 144)))]) (callF 1 f_unit [])))]) (apL lenN))))
  (sRet (eD (e2 (eD (bnd (eArgs [(eN 2)]) (apL reprN))) (eD (bnd (eArgs [(eD (lstE (bnd (eArgs [(eD (bnd (eArgs []) tupM)), (eD (bnd (eArgs [(eD (bnd (eArgs [(eD (bnd (eArgs [(eD (ret (.int 0))), (eD (ret (.int 1)))]) tupM))]) tupM)), (eD (bnd (eArgs [(eD (bnd (eArgs [(eD (ret (.int 0))), (eD (ret (.int 1)))]) tupM))]) tupM))]) tupM)), (eD (bnd (eArgs []) tupM)), (eD (ret (.int 144)))]) lstM)))]) (apL reprN))) (f2 eqD)))))))
def f_law : List D → Fd := fnD 4 b_law
end
end MLaw

set_option maxHeartbeats 4000000
namespace MLaw
open PySem L2 Mir
def top (i : Nat) : Stmt := PySem.Challenge.pw_keepersapart_k24_whole_tables_led_one_be.main.body.getD i (.Pass ⟨0, 0, 0, 0⟩)
def d_is_integer : He.DefD := ⟨("is_integer", none), "is_integer", "is_integer", defArgs (top 9), defBody (top 9), defScope (top 9), [], []⟩
def d_common_divisor : He.DefD := ⟨("common_divisor", none), "common_divisor", "common_divisor", defArgs (top 10), defBody (top 10), defScope (top 10), [], []⟩
def d_is_number : He.DefD := ⟨("is_number", none), "is_number", "is_number", defArgs (top 11), defBody (top 11), defScope (top 11), [], []⟩
def d_reduced : He.DefD := ⟨("reduced", none), "reduced", "reduced", defArgs (top 12), defBody (top 12), defScope (top 12), [], []⟩
def d_require_count : He.DefD := ⟨("require_count", none), "require_count", "require_count", defArgs (top 13), defBody (top 13), defScope (top 13), [.int (0), .int (60)], []⟩
def d_added : He.DefD := ⟨("added", none), "added", "added", defArgs (top 14), defBody (top 14), defScope (top 14), [], []⟩
def d_multiplied : He.DefD := ⟨("multiplied", none), "multiplied", "multiplied", defArgs (top 15), defBody (top 15), defScope (top 15), [], []⟩
def d_is_plain_row : He.DefD := ⟨("is_plain_row", none), "is_plain_row", "is_plain_row", defArgs (top 17), defBody (top 17), defScope (top 17), [], []⟩
def d_is_plain_table : He.DefD := ⟨("is_plain_table", none), "is_plain_table", "is_plain_table", defArgs (top 18), defBody (top 18), defScope (top 18), [], []⟩
def d_rest_row : He.DefD := ⟨("rest_row", none), "rest_row", "rest_row", defArgs (top 19), defBody (top 19), defScope (top 19), [], []⟩
def d_unit_row : He.DefD := ⟨("unit_row", none), "unit_row", "unit_row", defArgs (top 20), defBody (top 20), defScope (top 20), [], []⟩
def d_unit_table : He.DefD := ⟨("unit_table", none), "unit_table", "unit_table", defArgs (top 21), defBody (top 21), defScope (top 21), [], []⟩
def d_sum_of_rows : He.DefD := ⟨("sum_of_rows", none), "sum_of_rows", "sum_of_rows", defArgs (top 22), defBody (top 22), defScope (top 22), [], []⟩
def d_times_row : He.DefD := ⟨("times_row", none), "times_row", "times_row", defArgs (top 23), defBody (top 23), defScope (top 23), [], []⟩
def d_product_of : He.DefD := ⟨("product_of", none), "product_of", "product_of", defArgs (top 24), defBody (top 24), defScope (top 24), [], []⟩
def d_led_row : He.DefD := ⟨("led_row", none), "led_row", "led_row", defArgs (top 25), defBody (top 25), defScope (top 25), [], []⟩
def d_led_told : He.DefD := ⟨("led_told", none), "led_told", "led_told", defArgs (top 26), defBody (top 26), defScope (top 26), [], []⟩
def d_columns_of : He.DefD := ⟨("columns_of", none), "columns_of", "columns_of", defArgs (top 27), defBody (top 27), defScope (top 27), [], []⟩
def d_table_behind : He.DefD := ⟨("table_behind", none), "table_behind", "table_behind", defArgs (top 28), defBody (top 28), defScope (top 28), [], []⟩
def d_require_width : He.DefD := ⟨("require_width", none), "require_width", "require_width", defArgs (top 31), defBody (top 31), defScope (top 31), [], []⟩
def d_require_row : He.DefD := ⟨("require_row", none), "require_row", "require_row", defArgs (top 32), defBody (top 32), defScope (top 32), [], []⟩
def d_require_table : He.DefD := ⟨("require_table", none), "require_table", "require_table", defArgs (top 33), defBody (top 33), defScope (top 33), [], []⟩
def d_require_sized : He.DefD := ⟨("require_sized", none), "require_sized", "require_sized", defArgs (top 34), defBody (top 34), defScope (top 34), [], []⟩
def d_led : He.DefD := ⟨("led", none), "led", "led", defArgs (top 35), defBody (top 35), defScope (top 35), [], []⟩
def d_columns : He.DefD := ⟨("columns", none), "columns", "columns", defArgs (top 36), defBody (top 36), defScope (top 36), [], []⟩
def d_unit : He.DefD := ⟨("unit", none), "unit", "unit", defArgs (top 37), defBody (top 37), defScope (top 37), [], []⟩
def d_table_plus : He.DefD := ⟨("table_plus", none), "table_plus", "table_plus", defArgs (top 38), defBody (top 38), defScope (top 38), [], []⟩
def d_table_times : He.DefD := ⟨("table_times", none), "table_times", "table_times", defArgs (top 39), defBody (top 39), defScope (top 39), [], []⟩
def d_law_dice : He.DefD := ⟨("_law_dice", none), "_law_dice", "_law_dice", defArgs (top 41), defBody (top 41), defScope (top 41), [], []⟩
def d_law_roll : He.DefD := ⟨("_law_roll", none), "_law_roll", "_law_roll", defArgs (top 42), defBody (top 42), defScope (top 42), [], []⟩
def d_law_pick : He.DefD := ⟨("_law_pick", none), "_law_pick", "_law_pick", defArgs (top 43), defBody (top 43), defScope (top 43), [], []⟩
def d_law_fr : He.DefD := ⟨("_law_fr", none), "_law_fr", "_law_fr", defArgs (top 44), defBody (top 44), defScope (top 44), [], []⟩
def d_law_plus : He.DefD := ⟨("_law_plus", none), "_law_plus", "_law_plus", defArgs (top 45), defBody (top 45), defScope (top 45), [], []⟩
def d_law_times : He.DefD := ⟨("_law_times", none), "_law_times", "_law_times", defArgs (top 46), defBody (top 46), defScope (top 46), [], []⟩
def d_law_dot : He.DefD := ⟨("_law_dot", none), "_law_dot", "_law_dot", defArgs (top 47), defBody (top 47), defScope (top 47), [], []⟩
def d_law_columns : He.DefD := ⟨("_law_columns", none), "_law_columns", "_law_columns", defArgs (top 48), defBody (top 48), defScope (top 48), [], []⟩
def d_law_table : He.DefD := ⟨("_law_table", none), "_law_table", "_law_table", defArgs (top 49), defBody (top 49), defScope (top 49), [], []⟩
def d_law_behind_one : He.DefD := ⟨("_law_behind_one", none), "_law_behind_one", "_law_behind_one", defArgs (top 50), defBody (top 50), defScope (top 50), [], []⟩
def d_law_right : He.DefD := ⟨("_law_right", none), "_law_right", "_law_right", defArgs (top 51), defBody (top 51), defScope (top 51), [], []⟩
def d_law : He.DefD := ⟨("law", none), "law", "law", defArgs (top 52), defBody (top 52), defScope (top 52), [], []⟩
def fn : List He.DefD := ([d_is_integer, d_common_divisor, d_is_number, d_reduced, d_require_count, d_added, d_multiplied, d_is_plain_row, d_is_plain_table, d_rest_row, d_unit_row, d_unit_table] : List He.DefD) ++ ([d_sum_of_rows, d_times_row, d_product_of, d_led_row, d_led_told, d_columns_of, d_table_behind, d_require_width, d_require_row, d_require_table, d_require_sized, d_led] : List He.DefD) ++ ([d_columns, d_unit, d_table_plus, d_table_times, d_law_dice, d_law_roll, d_law_pick, d_law_fr, d_law_plus, d_law_times, d_law_dot, d_law_columns] : List He.DefD) ++ ([d_law_table, d_law_behind_one, d_law_right, d_law] : List He.DefD)
def fa : List He.Fa := ([.glo "is_integer", .glo "common_divisor", .glo "is_number", .glo "reduced", .glo "require_count", .glo "added", .glo "multiplied", .glo "is_plain_row", .glo "is_plain_table", .glo "rest_row", .glo "unit_row", .glo "unit_table"] : List He.Fa) ++ ([.glo "sum_of_rows", .glo "times_row", .glo "product_of", .glo "led_row", .glo "led_told", .glo "columns_of", .glo "table_behind", .glo "require_width", .glo "require_row", .glo "require_table", .glo "require_sized", .glo "led"] : List He.Fa) ++ ([.glo "columns", .glo "unit", .glo "table_plus", .glo "table_times", .glo "_law_dice", .glo "_law_roll", .glo "_law_pick", .glo "_law_fr", .glo "_law_plus", .glo "_law_times", .glo "_law_dot", .glo "_law_columns"] : List He.Fa) ++ ([.glo "_law_table", .glo "_law_behind_one", .glo "_law_right", .glo "law", .free "IndexError", .free "ValueError", .free "abs", .free "all", .free "bool", .free "int", .free "isinstance", .free "len"] : List He.Fa) ++ ([.free "max", .free "min", .free "range", .free "repr", .free "tuple", .free "zip", .glo "NOUGHT", .glo "ONE", .int "MAX_COUNT" (60), .int "MAX_WIDTH" (144)] : List He.Fa)
def ex : PySem.W.Frag → Bool := fun K => He.tupB K "NOUGHT" [.int (0), .int (1)] && He.tupB K "ONE" [.int (1), .int (1)] && true
structure Txt (K : PySem.W.Frag) (mg : Str → Option Value) : Prop where
  c : He.SaysD fa fn K
  h : ∃ h : Heap, K.In h ∧ h.Ns mainGlobals mg
  ex : ex K = true
section
variable {K : PySem.W.Frag} {mg : Str → Option Value} (T : Txt K mg)
include T
theorem g_is_integer : mg "is_integer" = some (.ref (He.ga K "is_integer")) := let ⟨_, X, G⟩ := T.h; He.glo_ok X G (T.c.fact 0 (f := .glo "is_integer") rfl)
theorem g_common_divisor : mg "common_divisor" = some (.ref (He.ga K "common_divisor")) := let ⟨_, X, G⟩ := T.h; He.glo_ok X G (T.c.fact 1 (f := .glo "common_divisor") rfl)
theorem g_is_number : mg "is_number" = some (.ref (He.ga K "is_number")) := let ⟨_, X, G⟩ := T.h; He.glo_ok X G (T.c.fact 2 (f := .glo "is_number") rfl)
theorem g_reduced : mg "reduced" = some (.ref (He.ga K "reduced")) := let ⟨_, X, G⟩ := T.h; He.glo_ok X G (T.c.fact 3 (f := .glo "reduced") rfl)
theorem g_require_count : mg "require_count" = some (.ref (He.ga K "require_count")) := let ⟨_, X, G⟩ := T.h; He.glo_ok X G (T.c.fact 4 (f := .glo "require_count") rfl)
theorem g_added : mg "added" = some (.ref (He.ga K "added")) := let ⟨_, X, G⟩ := T.h; He.glo_ok X G (T.c.fact 5 (f := .glo "added") rfl)
theorem g_multiplied : mg "multiplied" = some (.ref (He.ga K "multiplied")) := let ⟨_, X, G⟩ := T.h; He.glo_ok X G (T.c.fact 6 (f := .glo "multiplied") rfl)
theorem g_is_plain_row : mg "is_plain_row" = some (.ref (He.ga K "is_plain_row")) := let ⟨_, X, G⟩ := T.h; He.glo_ok X G (T.c.fact 7 (f := .glo "is_plain_row") rfl)
theorem g_is_plain_table : mg "is_plain_table" = some (.ref (He.ga K "is_plain_table")) := let ⟨_, X, G⟩ := T.h; He.glo_ok X G (T.c.fact 8 (f := .glo "is_plain_table") rfl)
theorem g_rest_row : mg "rest_row" = some (.ref (He.ga K "rest_row")) := let ⟨_, X, G⟩ := T.h; He.glo_ok X G (T.c.fact 9 (f := .glo "rest_row") rfl)
theorem g_unit_row : mg "unit_row" = some (.ref (He.ga K "unit_row")) := let ⟨_, X, G⟩ := T.h; He.glo_ok X G (T.c.fact 10 (f := .glo "unit_row") rfl)
theorem g_unit_table : mg "unit_table" = some (.ref (He.ga K "unit_table")) := let ⟨_, X, G⟩ := T.h; He.glo_ok X G (T.c.fact 11 (f := .glo "unit_table") rfl)
theorem g_sum_of_rows : mg "sum_of_rows" = some (.ref (He.ga K "sum_of_rows")) := let ⟨_, X, G⟩ := T.h; He.glo_ok X G (T.c.fact 12 (f := .glo "sum_of_rows") rfl)
theorem g_times_row : mg "times_row" = some (.ref (He.ga K "times_row")) := let ⟨_, X, G⟩ := T.h; He.glo_ok X G (T.c.fact 13 (f := .glo "times_row") rfl)
theorem g_product_of : mg "product_of" = some (.ref (He.ga K "product_of")) := let ⟨_, X, G⟩ := T.h; He.glo_ok X G (T.c.fact 14 (f := .glo "product_of") rfl)
theorem g_led_row : mg "led_row" = some (.ref (He.ga K "led_row")) := let ⟨_, X, G⟩ := T.h; He.glo_ok X G (T.c.fact 15 (f := .glo "led_row") rfl)
theorem g_led_told : mg "led_told" = some (.ref (He.ga K "led_told")) := let ⟨_, X, G⟩ := T.h; He.glo_ok X G (T.c.fact 16 (f := .glo "led_told") rfl)
theorem g_columns_of : mg "columns_of" = some (.ref (He.ga K "columns_of")) := let ⟨_, X, G⟩ := T.h; He.glo_ok X G (T.c.fact 17 (f := .glo "columns_of") rfl)
theorem g_table_behind : mg "table_behind" = some (.ref (He.ga K "table_behind")) := let ⟨_, X, G⟩ := T.h; He.glo_ok X G (T.c.fact 18 (f := .glo "table_behind") rfl)
theorem g_require_width : mg "require_width" = some (.ref (He.ga K "require_width")) := let ⟨_, X, G⟩ := T.h; He.glo_ok X G (T.c.fact 19 (f := .glo "require_width") rfl)
theorem g_require_row : mg "require_row" = some (.ref (He.ga K "require_row")) := let ⟨_, X, G⟩ := T.h; He.glo_ok X G (T.c.fact 20 (f := .glo "require_row") rfl)
theorem g_require_table : mg "require_table" = some (.ref (He.ga K "require_table")) := let ⟨_, X, G⟩ := T.h; He.glo_ok X G (T.c.fact 21 (f := .glo "require_table") rfl)
theorem g_require_sized : mg "require_sized" = some (.ref (He.ga K "require_sized")) := let ⟨_, X, G⟩ := T.h; He.glo_ok X G (T.c.fact 22 (f := .glo "require_sized") rfl)
theorem g_led : mg "led" = some (.ref (He.ga K "led")) := let ⟨_, X, G⟩ := T.h; He.glo_ok X G (T.c.fact 23 (f := .glo "led") rfl)
theorem g_columns : mg "columns" = some (.ref (He.ga K "columns")) := let ⟨_, X, G⟩ := T.h; He.glo_ok X G (T.c.fact 24 (f := .glo "columns") rfl)
theorem g_unit : mg "unit" = some (.ref (He.ga K "unit")) := let ⟨_, X, G⟩ := T.h; He.glo_ok X G (T.c.fact 25 (f := .glo "unit") rfl)
theorem g_table_plus : mg "table_plus" = some (.ref (He.ga K "table_plus")) := let ⟨_, X, G⟩ := T.h; He.glo_ok X G (T.c.fact 26 (f := .glo "table_plus") rfl)
theorem g_table_times : mg "table_times" = some (.ref (He.ga K "table_times")) := let ⟨_, X, G⟩ := T.h; He.glo_ok X G (T.c.fact 27 (f := .glo "table_times") rfl)
theorem g_law_dice : mg "_law_dice" = some (.ref (He.ga K "_law_dice")) := let ⟨_, X, G⟩ := T.h; He.glo_ok X G (T.c.fact 28 (f := .glo "_law_dice") rfl)
theorem g_law_roll : mg "_law_roll" = some (.ref (He.ga K "_law_roll")) := let ⟨_, X, G⟩ := T.h; He.glo_ok X G (T.c.fact 29 (f := .glo "_law_roll") rfl)
theorem g_law_pick : mg "_law_pick" = some (.ref (He.ga K "_law_pick")) := let ⟨_, X, G⟩ := T.h; He.glo_ok X G (T.c.fact 30 (f := .glo "_law_pick") rfl)
theorem g_law_fr : mg "_law_fr" = some (.ref (He.ga K "_law_fr")) := let ⟨_, X, G⟩ := T.h; He.glo_ok X G (T.c.fact 31 (f := .glo "_law_fr") rfl)
theorem g_law_plus : mg "_law_plus" = some (.ref (He.ga K "_law_plus")) := let ⟨_, X, G⟩ := T.h; He.glo_ok X G (T.c.fact 32 (f := .glo "_law_plus") rfl)
theorem g_law_times : mg "_law_times" = some (.ref (He.ga K "_law_times")) := let ⟨_, X, G⟩ := T.h; He.glo_ok X G (T.c.fact 33 (f := .glo "_law_times") rfl)
theorem g_law_dot : mg "_law_dot" = some (.ref (He.ga K "_law_dot")) := let ⟨_, X, G⟩ := T.h; He.glo_ok X G (T.c.fact 34 (f := .glo "_law_dot") rfl)
theorem g_law_columns : mg "_law_columns" = some (.ref (He.ga K "_law_columns")) := let ⟨_, X, G⟩ := T.h; He.glo_ok X G (T.c.fact 35 (f := .glo "_law_columns") rfl)
theorem g_law_table : mg "_law_table" = some (.ref (He.ga K "_law_table")) := let ⟨_, X, G⟩ := T.h; He.glo_ok X G (T.c.fact 36 (f := .glo "_law_table") rfl)
theorem g_law_behind_one : mg "_law_behind_one" = some (.ref (He.ga K "_law_behind_one")) := let ⟨_, X, G⟩ := T.h; He.glo_ok X G (T.c.fact 37 (f := .glo "_law_behind_one") rfl)
theorem g_law_right : mg "_law_right" = some (.ref (He.ga K "_law_right")) := let ⟨_, X, G⟩ := T.h; He.glo_ok X G (T.c.fact 38 (f := .glo "_law_right") rfl)
theorem g_law : mg "law" = some (.ref (He.ga K "law")) := let ⟨_, X, G⟩ := T.h; He.glo_ok X G (T.c.fact 39 (f := .glo "law") rfl)
theorem g_IndexError : mg "IndexError" = none := let ⟨_, X, G⟩ := T.h; He.free_ok X G (T.c.fact 40 (f := .free "IndexError") rfl)
theorem g_ValueError : mg "ValueError" = none := let ⟨_, X, G⟩ := T.h; He.free_ok X G (T.c.fact 41 (f := .free "ValueError") rfl)
theorem g_abs : mg "abs" = none := let ⟨_, X, G⟩ := T.h; He.free_ok X G (T.c.fact 42 (f := .free "abs") rfl)
theorem g_all : mg "all" = none := let ⟨_, X, G⟩ := T.h; He.free_ok X G (T.c.fact 43 (f := .free "all") rfl)
theorem g_bool : mg "bool" = none := let ⟨_, X, G⟩ := T.h; He.free_ok X G (T.c.fact 44 (f := .free "bool") rfl)
theorem g_int : mg "int" = none := let ⟨_, X, G⟩ := T.h; He.free_ok X G (T.c.fact 45 (f := .free "int") rfl)
theorem g_isinstance : mg "isinstance" = none := let ⟨_, X, G⟩ := T.h; He.free_ok X G (T.c.fact 46 (f := .free "isinstance") rfl)
theorem g_len : mg "len" = none := let ⟨_, X, G⟩ := T.h; He.free_ok X G (T.c.fact 47 (f := .free "len") rfl)
theorem g_max : mg "max" = none := let ⟨_, X, G⟩ := T.h; He.free_ok X G (T.c.fact 48 (f := .free "max") rfl)
theorem g_min : mg "min" = none := let ⟨_, X, G⟩ := T.h; He.free_ok X G (T.c.fact 49 (f := .free "min") rfl)
theorem g_range : mg "range" = none := let ⟨_, X, G⟩ := T.h; He.free_ok X G (T.c.fact 50 (f := .free "range") rfl)
theorem g_repr : mg "repr" = none := let ⟨_, X, G⟩ := T.h; He.free_ok X G (T.c.fact 51 (f := .free "repr") rfl)
theorem g_tuple : mg "tuple" = none := let ⟨_, X, G⟩ := T.h; He.free_ok X G (T.c.fact 52 (f := .free "tuple") rfl)
theorem g_zip : mg "zip" = none := let ⟨_, X, G⟩ := T.h; He.free_ok X G (T.c.fact 53 (f := .free "zip") rfl)
theorem g_NOUGHT : mg "NOUGHT" = some (.ref (He.ga K "NOUGHT")) := let ⟨_, X, G⟩ := T.h; He.glo_ok X G (T.c.fact 54 (f := .glo "NOUGHT") rfl)
theorem g_ONE : mg "ONE" = some (.ref (He.ga K "ONE")) := let ⟨_, X, G⟩ := T.h; He.glo_ok X G (T.c.fact 55 (f := .glo "ONE") rfl)
theorem g_MAX_COUNT : ∃ t, mg "MAX_COUNT" = some (.int (60) t) := let ⟨_, X, G⟩ := T.h; He.int_ok X G (T.c.fact 56 (f := .int "MAX_COUNT" (60)) rfl)
theorem g_MAX_WIDTH : ∃ t, mg "MAX_WIDTH" = some (.int (144) t) := let ⟨_, X, G⟩ := T.h; He.int_ok X G (T.c.fact 57 (f := .int "MAX_WIDTH" (144)) rfl)
theorem t_NOUGHT (H : Hp) : SqT K H (He.ga K "NOUGHT") [V.int (0), V.int (1)] := He.tupB_ok (vs := [.int (0), .int (1)]) (by have h := T.ex; unfold ex at h; simp only [Bool.and_eq_true] at h; exact h.1.1) H
theorem t_ONE (H : Hp) : SqT K H (He.ga K "ONE") [V.int (1), V.int (1)] := He.tupB_ok (vs := [.int (1), .int (1)]) (by have h := T.ex; unfold ex at h; simp only [Bool.and_eq_true] at h; exact h.1.2) H
end
theorem r_NOUGHT {K : PySem.W.Frag} (ms : Addr → Prop) (H : Hp) : RepL K ms H [V.int (0), V.int (1)] [D.int (0), D.int (1)] := (.cons (.int _) (.cons (.int _) .nil))
theorem r_ONE {K : PySem.W.Frag} (ms : Addr → Prop) (H : Hp) : RepL K ms H [V.int (1), V.int (1)] [D.int (1), D.int (1)] := (.cons (.int _) (.cons (.int _) .nil))
-- abbrev c_MAX_COUNT : Int := 60
-- abbrev c_MAX_WIDTH : Int := 144
end MLaw

set_option maxHeartbeats 4000000
namespace MLaw
open PySem L2 Mir
theorem sc_is_integer : FnScope ["value"] ["value"] (defScope (top 9)) := ⟨rfl, rfl, rfl, by decide +kernel, rfl, by decide +kernel, by decide +kernel⟩
theorem body_is_integer {P : Program} {w : World} {K : PySem.W.Frag} {mg : Str → Option Value} {base : Heap} (T : Txt K mg) {f : Addr} {fd : FuncData} (F : FunD K d_is_integer.name d_is_integer.qual d_is_integer.params d_is_integer.body d_is_integer.scope (d_is_integer.dvs K) (d_is_integer.kws K) f fd) : FnG P w K mg base (L2.CX P w) 2 f fd ["value"] (spD K 1 f_is_integer) := by
  refine def_okD (N := ["value"]) (ps := ["value"]) F sc_is_integer rfl fun cdv A outer s H E pa gd hr => ?_
  have tk := takes_of (X := dcx P w K mg base ["value"] d_is_integer.qual d_is_integer.scope f cdv A outer s H E) (E := E) rfl rfl rfl rfl
  have hp := passes_of (X := dcx P w K mg base ["value"] d_is_integer.qual d_is_integer.scope f cdv A outer s H E) rfl
  exact (rss_one (rs_ret (ro_re (re_and (re_callB call_isi on_isi rfl (g_isinstance T) (by decide +kernel) (ra_cons (ro_name (i := 0) rfl (.inl rfl)) (ra_cons (ro_re (re_bty (g_int T) (by decide +kernel))) ra_nil))) (re_one (re_not (re_callB call_isi on_isi rfl (g_isinstance T) (by decide +kernel) (ra_cons (ro_name (i := 0) rfl (.inl rfl)) (ra_cons (ro_re (re_bty (g_bool T) (by decide +kernel))) ra_nil)))))))))
theorem ok_is_integer {P : Program} {w : World} {K : PySem.W.Frag} {mg : Str → Option Value} {base : Heap} (T : Txt K mg) : CalD P w K mg base 2 "is_integer" 1 f_is_integer [] := by
  obtain ⟨fd, F⟩ := T.c.def_ 0 (d := d_is_integer) rfl
  exact CalD.mk0 F (g_is_integer T) (body_is_integer T F) (fun _ _ _ _ _ _ us hl => match us, hl with | [_], _ => rfl)
theorem sc_common_divisor : FnScope ["one", "other"] ["one", "other"] (defScope (top 10)) := ⟨rfl, rfl, rfl, by decide +kernel, rfl, by decide +kernel, by decide +kernel⟩
theorem body_common_divisor {P : Program} {w : World} {K : PySem.W.Frag} {mg : Str → Option Value} {base : Heap} (T : Txt K mg) {f : Addr} {fd : FuncData} (F : FunD K d_common_divisor.name d_common_divisor.qual d_common_divisor.params d_common_divisor.body d_common_divisor.scope (d_common_divisor.dvs K) (d_common_divisor.kws K) f fd) : FnG P w K mg base (L2.CX P w) 2 f fd ["one", "other"] (spD K 2 f_common_divisor) := by
  refine def_okD (N := ["one", "other"]) (ps := ["one", "other"]) F sc_common_divisor rfl fun cdv A outer s H E pa gd hr => ?_
  have tk := takes_of (X := dcx P w K mg base ["one", "other"] d_common_divisor.qual d_common_divisor.scope f cdv A outer s H E) (E := E) rfl rfl rfl rfl
  have hp := passes_of (X := dcx P w K mg base ["one", "other"] d_common_divisor.qual d_common_divisor.scope f cdv A outer s H E) rfl
  exact (rss_cons (rs_par (i := 0) (j := 1) rfl sc_common_divisor.nd rfl rfl (by decide) rfl rfl (ra_cons (ro_re (re_callB call_abs on_abs rfl (g_abs T) (by decide +kernel) (ra_cons (ro_name (i := 0) rfl (.inl rfl)) ra_nil))) (ra_cons (ro_re (re_callB call_abs on_abs rfl (g_abs T) (by decide +kernel) (ra_cons (ro_name (i := 1) rfl (.inl rfl)) ra_nil))) ra_nil)) rfl)
  (rss_cons (rs_while hp (rt_cmp op_gt o2_gt (ro_name (i := 1) rfl (.inl rfl)) (ro_re re_int) (nomark _))
  (rss_one (rs_par (i := 0) (j := 1) rfl sc_common_divisor.nd rfl rfl (by decide) rfl rfl (ra_cons (ro_name (i := 1) rfl (.inl rfl)) (ra_cons (ro_re (re_bin op_modN o2_mod (ro_name (i := 0) rfl (.inl rfl)) (ro_name (i := 1) rfl (.inl rfl)))) ra_nil)) rfl)))
  (rss_one (rs_ret (ro_name (i := 0) rfl (.inl rfl))))))
theorem ok_common_divisor {P : Program} {w : World} {K : PySem.W.Frag} {mg : Str → Option Value} {base : Heap} (T : Txt K mg) : CalD P w K mg base 2 "common_divisor" 2 f_common_divisor [] := by
  obtain ⟨fd, F⟩ := T.c.def_ 1 (d := d_common_divisor) rfl
  exact CalD.mk0 F (g_common_divisor T) (body_common_divisor T F) (fun _ _ _ _ _ _ us hl => match us, hl with | [_, _], _ => rfl)
theorem sc_rest_row : FnScope ["width"] ["width"] (defScope (top 19)) := ⟨rfl, rfl, rfl, by decide +kernel, rfl, by decide +kernel, by decide +kernel⟩
theorem body_rest_row {P : Program} {w : World} {K : PySem.W.Frag} {mg : Str → Option Value} {base : Heap} (T : Txt K mg) {f : Addr} {fd : FuncData} (F : FunD K d_rest_row.name d_rest_row.qual d_rest_row.params d_rest_row.body d_rest_row.scope (d_rest_row.dvs K) (d_rest_row.kws K) f fd) : FnG P w K mg base (L2.CX P w) 2 f fd ["width"] (spD K 1 f_rest_row) := by
  refine def_okD (N := ["width"]) (ps := ["width"]) F sc_rest_row rfl fun cdv A outer s H E pa gd hr => ?_
  have tk := takes_of (X := dcx P w K mg base ["width"] d_rest_row.qual d_rest_row.scope f cdv A outer s H E) (E := E) rfl rfl rfl rfl
  have hp := passes_of (X := dcx P w K mg base ["width"] d_rest_row.qual d_rest_row.scope f cdv A outer s H E) rfl
  exact (rss_one (rs_ret (ro_re (re_bin op_mulX o2_mul (ro_re (re_tup (ra_cons (ro_re (re_tupK (g_NOUGHT T) (t_NOUGHT T) (r_NOUGHT))) ra_nil))) (ro_name (i := 0) rfl (.inl rfl))))))
theorem ok_rest_row {P : Program} {w : World} {K : PySem.W.Frag} {mg : Str → Option Value} {base : Heap} (T : Txt K mg) : CalD P w K mg base 2 "rest_row" 1 f_rest_row [] := by
  obtain ⟨fd, F⟩ := T.c.def_ 9 (d := d_rest_row) rfl
  exact CalD.mk0 F (g_rest_row T) (body_rest_row T F) (fun _ _ _ _ _ _ us hl => match us, hl with | [_], _ => rfl)
theorem sc_unit_row : FnScope ["width", "index", "place"] ["width", "index"] (defScope (top 20)) := ⟨rfl, rfl, rfl, by decide +kernel, rfl, by decide +kernel, by decide +kernel⟩
theorem body_unit_row {P : Program} {w : World} {K : PySem.W.Frag} {mg : Str → Option Value} {base : Heap} (T : Txt K mg) {f : Addr} {fd : FuncData} (F : FunD K d_unit_row.name d_unit_row.qual d_unit_row.params d_unit_row.body d_unit_row.scope (d_unit_row.dvs K) (d_unit_row.kws K) f fd) : FnG P w K mg base (L2.CX P w) 2 f fd ["width", "index"] (spD K 2 f_unit_row) := by
  refine def_okD (N := ["width", "index", "place"]) (ps := ["width", "index"]) F sc_unit_row rfl fun cdv A outer s H E pa gd hr => ?_
  have tk := takes_of (X := dcx P w K mg base ["width", "index", "place"] d_unit_row.qual d_unit_row.scope f cdv A outer s H E) (E := E) rfl rfl rfl rfl
  have hp := passes_of (X := dcx P w K mg base ["width", "index", "place"] d_unit_row.qual d_unit_row.scope f cdv A outer s H E) rfl
  exact (rss_one (rs_ret (ro_re (re_callTy call_tuple_of on_tup rfl (g_tuple T) (by decide +kernel) (ra_cons (ro_re (re_rn (rn_lc (own := [("place", 2)]) (is := [2]) rfl sc_unit_row.nd (ri_rng1 rfl (g_range T) (ra_cons (ro_name (i := 0) rfl (.inl rfl)) ra_nil)) (blkOk_by rfl) (by decide) (fun _ _ _ _ _ => (rg_name (i := 2) sc_unit_row.nd rfl (.inl rfl))) (fun _ _ _ _ _ => rts_nil) (fun _ _ _ _ _ => (ro_re (re_ifExp (rt_cmp (op_eqD hr.units) o2_eq (ro_name (i := 2) rfl (.inl rfl)) (ro_name (i := 1) rfl (.inr (.inl rfl))) (nomark _)) (re_tupK (g_ONE T) (t_ONE T) (r_ONE)) (re_tupK (g_NOUGHT T) (t_NOUGHT T) (r_NOUGHT)))))))) ra_nil)))))
theorem ok_unit_row {P : Program} {w : World} {K : PySem.W.Frag} {mg : Str → Option Value} {base : Heap} (T : Txt K mg) : CalD P w K mg base 2 "unit_row" 2 f_unit_row [] := by
  obtain ⟨fd, F⟩ := T.c.def_ 10 (d := d_unit_row) rfl
  exact CalD.mk0 F (g_unit_row T) (body_unit_row T F) (fun _ _ _ _ _ _ us hl => match us, hl with | [_, _], _ => rfl)
theorem sc_columns_of : FnScope ["table", "width", "index", "line"] ["table", "width"] (defScope (top 27)) := ⟨rfl, rfl, rfl, by decide +kernel, rfl, by decide +kernel, by decide +kernel⟩
theorem body_columns_of {P : Program} {w : World} {K : PySem.W.Frag} {mg : Str → Option Value} {base : Heap} (T : Txt K mg) {f : Addr} {fd : FuncData} (F : FunD K d_columns_of.name d_columns_of.qual d_columns_of.params d_columns_of.body d_columns_of.scope (d_columns_of.dvs K) (d_columns_of.kws K) f fd) : FnG P w K mg base (L2.CX P w) 2 f fd ["table", "width"] (spD K 2 f_columns_of) := by
  refine def_okD (N := ["table", "width", "index", "line"]) (ps := ["table", "width"]) F sc_columns_of rfl fun cdv A outer s H E pa gd hr => ?_
  have tk := takes_of (X := dcx P w K mg base ["table", "width", "index", "line"] d_columns_of.qual d_columns_of.scope f cdv A outer s H E) (E := E) rfl rfl rfl rfl
  have hp := passes_of (X := dcx P w K mg base ["table", "width", "index", "line"] d_columns_of.qual d_columns_of.scope f cdv A outer s H E) rfl
  exact (rss_one (rs_ret (ro_re (re_callTy call_tuple_of on_tup rfl (g_tuple T) (by decide +kernel) (ra_cons (ro_re (re_rn (rn_lc (own := [("index", 2)]) (is := [2]) rfl sc_columns_of.nd (ri_rng1 rfl (g_range T) (ra_cons (ro_name (i := 1) rfl (.inl rfl)) ra_nil)) (blkOk_by rfl) (by decide) (fun _ _ _ _ _ => (rg_name (i := 2) sc_columns_of.nd rfl (.inr rfl))) (fun _ _ _ _ _ => rts_nil) (fun _ _ _ _ _ => (ro_re (re_callTy call_tuple_of on_tup rfl (g_tuple T) (by decide +kernel) (ra_cons (ro_re (re_rn (rn_lc (own := [("line", 3)]) (is := [3]) rfl sc_columns_of.nd (ri_any (ro_name (i := 0) rfl (.inr (.inl rfl)))) (blkOk_by rfl) (by decide) (fun _ _ _ _ _ => (rg_name (i := 3) sc_columns_of.nd rfl (.inl rfl))) (fun _ _ _ _ _ => rts_nil) (fun _ _ _ _ _ => (ro_re (re_ix ix_X o2_ix (ro_name (i := 3) rfl (.inl rfl)) (ro_name (i := 2) rfl (.inr (.inl rfl))) fun _ _ => rfl)))))) ra_nil))))))) ra_nil)))))
theorem ok_columns_of {P : Program} {w : World} {K : PySem.W.Frag} {mg : Str → Option Value} {base : Heap} (T : Txt K mg) : CalD P w K mg base 2 "columns_of" 2 f_columns_of [] := by
  obtain ⟨fd, F⟩ := T.c.def_ 17 (d := d_columns_of) rfl
  exact CalD.mk0 F (g_columns_of T) (body_columns_of T F) (fun _ _ _ _ _ _ us hl => match us, hl with | [_, _], _ => rfl)
theorem sc_law_dice : FnScope ["script", "spot", "cell", "great", "seed"] ["script", "spot"] (defScope (top 41)) := ⟨rfl, rfl, rfl, by decide +kernel, rfl, by decide +kernel, by decide +kernel⟩
theorem body_law_dice {P : Program} {w : World} {K : PySem.W.Frag} {mg : Str → Option Value} {base : Heap} (T : Txt K mg) {f : Addr} {fd : FuncData} (F : FunD K d_law_dice.name d_law_dice.qual d_law_dice.params d_law_dice.body d_law_dice.scope (d_law_dice.dvs K) (d_law_dice.kws K) f fd) : FnG P w K mg base (L2.CX P w) 2 f fd ["script", "spot"] (spD K 2 f_law_dice) := by
  refine def_okD (N := ["script", "spot", "cell", "great", "seed"]) (ps := ["script", "spot"]) F sc_law_dice rfl fun cdv A outer s H E pa gd hr => ?_
  have tk := takes_of (X := dcx P w K mg base ["script", "spot", "cell", "great", "seed"] d_law_dice.qual d_law_dice.scope f cdv A outer s H E) (E := E) rfl rfl rfl rfl
  have hp := passes_of (X := dcx P w K mg base ["script", "spot", "cell", "great", "seed"] d_law_dice.qual d_law_dice.scope f cdv A outer s H E) rfl
  exact (rss_cons (rs_asg (re_ifExp (rt_cmp op_lt o2_lt (ro_name (i := 1) rfl (.inl rfl)) (ro_re (re_callB call_len on_len rfl (g_len T) (by decide +kernel) (ra_cons (ro_name (i := 0) rfl (.inl rfl)) ra_nil))) (nomark _)) (re_callTy call_int1 on_int rfl (g_int T) (by decide +kernel) (ra_cons (ro_re (re_ix ix_X o2_ix (ro_name (i := 0) rfl (.inl rfl)) (ro_name (i := 1) rfl (.inl rfl)) fun _ _ => rfl)) ra_nil)) (re_bin op_addX o2_add (ro_re (re_bin op_mulX o2_mul (ro_re re_int) (ro_name (i := 1) rfl (.inl rfl)))) (ro_re re_int))) (rg_name (i := 2) sc_law_dice.nd rfl (.inl rfl)))
  (rss_cons (rs_asg (re_bin op_modN o2_mod (ro_re (re_callTy call_int1 on_int rfl (g_int T) (by decide +kernel) (ra_cons (ro_re (re_callB call_abs on_abs rfl (g_abs T) (by decide +kernel) (ra_cons (ro_name (i := 2) rfl (.inl rfl)) ra_nil))) ra_nil))) (ro_re (re_bin op_powX o2_pow (ro_re (re_bin op_powX o2_pow (ro_re re_int) (ro_re re_int))) (ro_re re_int)))) (rg_name (i := 3) sc_law_dice.nd rfl (.inl rfl)))
  (rss_cons (rs_asg (re_bin op_addX o2_add (ro_re (re_bin op_addX o2_add (ro_re (re_bin op_addX o2_add (ro_re (re_bin op_mulX o2_mul (ro_re (re_bin op_modN o2_mod (ro_name (i := 3) rfl (.inl rfl)) (ro_re re_int))) (ro_re re_int))) (ro_re (re_bin op_mulX o2_mul (ro_re re_int) (ro_name (i := 1) rfl (.inl rfl)))))) (ro_re (re_bin op_mulX o2_mul (ro_re re_int) (ro_re (re_callTy call_int1 on_int rfl (g_int T) (by decide +kernel) (ra_cons (ro_re (re_cmp op_lt o2_lt (ro_name (i := 2) rfl (.inl rfl)) (ro_re re_int) (nomark _))) ra_nil))))))) (ro_re re_int)) (rg_name (i := 4) sc_law_dice.nd rfl (.inl rfl)))
  (rss_one (rs_retW (rn_lst (ra_cons (ro_re (re_callB (call_max2 rfl) on_max rfl (g_max T) (by decide +kernel) (ra_cons (ro_re re_int) (ra_cons (ro_re (re_bin op_sub o2_sub (ro_name (i := 3) rfl (.inl rfl)) (ro_re (re_bin op_powX o2_pow (ro_re re_int) (ro_re re_int))))) ra_nil)))) (ra_cons (ro_name (i := 4) rfl (.inl rfl)) (ra_cons (ro_re re_int) ra_nil)))))))))
theorem ok_law_dice {P : Program} {w : World} {K : PySem.W.Frag} {mg : Str → Option Value} {base : Heap} (T : Txt K mg) : CalD P w K mg base 2 "_law_dice" 2 f_law_dice [] := by
  obtain ⟨fd, F⟩ := T.c.def_ 28 (d := d_law_dice) rfl
  exact CalD.mk0 F (g_law_dice T) (body_law_dice T F) (fun _ _ _ _ _ _ us hl => match us, hl with | [_, _], _ => rfl)
theorem sc_law_roll : FnScope ["dice", "total", "one", "two", "found"] ["dice", "total"] (defScope (top 42)) := ⟨rfl, rfl, rfl, by decide +kernel, rfl, by decide +kernel, by decide +kernel⟩
theorem body_law_roll {P : Program} {w : World} {K : PySem.W.Frag} {mg : Str → Option Value} {base : Heap} (T : Txt K mg) {f : Addr} {fd : FuncData} (F : FunD K d_law_roll.name d_law_roll.qual d_law_roll.params d_law_roll.body d_law_roll.scope (d_law_roll.dvs K) (d_law_roll.kws K) f fd) : FnG P w K mg base (L2.CX P w) 2 f fd ["dice", "total"] (spM K 2 f_law_roll) := by
  refine def_okM (N := ["dice", "total", "one", "two", "found"]) (ps := ["dice", "total"]) F sc_law_roll rfl fun cdv A outer s H E pa gd hr => ?_
  have tk := takes_of (X := dcx P w K mg base ["dice", "total", "one", "two", "found"] d_law_roll.qual d_law_roll.scope f cdv A outer s H E) (E := E) rfl rfl rfl rfl
  have hp := passes_of (X := dcx P w K mg base ["dice", "total", "one", "two", "found"] d_law_roll.qual d_law_roll.scope f cdv A outer s H E) rfl
  exact (rss_cons (rs_if (rt_cmp op_gt o2_gt (ro_re (re_ix ix_X o2_ix (ro_name (i := 0) rfl (.inl rfl)) (ro_re re_int) fun _ _ => rfl)) (ro_re re_int) (nomark _))
  (rss_cons (rs_asg (re_bin op_modN o2_mod (ro_re (re_ix ix_X o2_ix (ro_name (i := 0) rfl (.inl rfl)) (ro_re re_int) fun _ _ => rfl)) (ro_name (i := 1) rfl (.inl rfl))) (rg_name (i := 4) sc_law_roll.nd rfl (.inl rfl)))
  (rss_cons (rs_sto (i := 0) rfl (.inl rfl) (ro_re re_int) (ro_re (re_bin op_fdivX o2_fdv (ro_re (re_ix ix_X o2_ix (ro_name (i := 0) rfl (.inl rfl)) (ro_re re_int) fun _ _ => rfl)) (ro_name (i := 1) rfl (.inl rfl)))))
  (rss_one (rs_ret (ro_re (re_callTy call_int1 on_int rfl (g_int T) (by decide +kernel) (ra_cons (ro_name (i := 4) rfl (.inl rfl)) ra_nil)))))))
  rss_nil)
  (rss_cons (rs_sto (i := 0) rfl (.inl rfl) (ro_re re_int) (ro_re (re_bin op_addX o2_add (ro_re (re_ix ix_X o2_ix (ro_name (i := 0) rfl (.inl rfl)) (ro_re re_int) fun _ _ => rfl)) (ro_re re_int))))
  (rss_cons (rs_asg (re_bin op_modN o2_mod (ro_re (re_bin op_addX o2_add (ro_re (re_ix ix_X o2_ix (ro_name (i := 0) rfl (.inl rfl)) (ro_re re_int) fun _ _ => rfl)) (ro_re (re_bin op_mulX o2_mul (ro_re re_int) (ro_re (re_ix ix_X o2_ix (ro_name (i := 0) rfl (.inl rfl)) (ro_re re_int) fun _ _ => rfl)))))) (ro_re re_int)) (rg_name (i := 2) sc_law_roll.nd rfl (.inl rfl)))
  (rss_cons (rs_asg (re_bin op_addX o2_add (ro_re (re_bin op_mulX o2_mul (ro_re (re_bin op_modN o2_mod (ro_re (re_bin op_addX o2_add (ro_re (re_bin op_mulX o2_mul (ro_name (i := 2) rfl (.inl rfl)) (ro_name (i := 2) rfl (.inl rfl)))) (ro_re (re_bin op_mulX o2_mul (ro_re re_int) (ro_re (re_ix ix_X o2_ix (ro_name (i := 0) rfl (.inl rfl)) (ro_re re_int) fun _ _ => rfl)))))) (ro_re re_int))) (ro_re re_int))) (ro_name (i := 2) rfl (.inl rfl))) (rg_name (i := 3) sc_law_roll.nd rfl (.inl rfl)))
  (rss_one (rs_ret (ro_re (re_bin op_modN o2_mod (ro_re (re_callTy call_int1 on_int rfl (g_int T) (by decide +kernel) (ra_cons (ro_re (re_bin op_fdivX o2_fdv (ro_name (i := 3) rfl (.inl rfl)) (ro_re re_int))) ra_nil))) (ro_name (i := 1) rfl (.inl rfl))))))))))
theorem ok_law_roll {P : Program} {w : World} {K : PySem.W.Frag} {mg : Str → Option Value} {base : Heap} (T : Txt K mg) : CalM P w K mg base 2 "_law_roll" 2 f_law_roll [] := by
  obtain ⟨fd, F⟩ := T.c.def_ 29 (d := d_law_roll) rfl
  exact CalM.mk0 F (g_law_roll T) (body_law_roll T F) (fun _ _ _ _ _ _ us hl => match us, hl with | [_, _], _ => rfl)
theorem sc_law_fr : FnScope ["top", "bottom", "sign", "one", "other"] ["top", "bottom"] (defScope (top 44)) := ⟨rfl, rfl, rfl, by decide +kernel, rfl, by decide +kernel, by decide +kernel⟩
theorem body_law_fr {P : Program} {w : World} {K : PySem.W.Frag} {mg : Str → Option Value} {base : Heap} (T : Txt K mg) {f : Addr} {fd : FuncData} (F : FunD K d_law_fr.name d_law_fr.qual d_law_fr.params d_law_fr.body d_law_fr.scope (d_law_fr.dvs K) (d_law_fr.kws K) f fd) : FnG P w K mg base (L2.CX P w) 2 f fd ["top", "bottom"] (spD K 2 f_law_fr) := by
  refine def_okD (N := ["top", "bottom", "sign", "one", "other"]) (ps := ["top", "bottom"]) F sc_law_fr rfl fun cdv A outer s H E pa gd hr => ?_
  have tk := takes_of (X := dcx P w K mg base ["top", "bottom", "sign", "one", "other"] d_law_fr.qual d_law_fr.scope f cdv A outer s H E) (E := E) rfl rfl rfl rfl
  have hp := passes_of (X := dcx P w K mg base ["top", "bottom", "sign", "one", "other"] d_law_fr.qual d_law_fr.scope f cdv A outer s H E) rfl
  exact (rss_cons (rs_par (i := 3) (j := 4) rfl sc_law_fr.nd rfl rfl (by decide) rfl rfl (ra_cons (ro_re (re_callB call_abs on_abs rfl (g_abs T) (by decide +kernel) (ra_cons (ro_name (i := 0) rfl (.inl rfl)) ra_nil))) (ra_cons (ro_re (re_callB call_abs on_abs rfl (g_abs T) (by decide +kernel) (ra_cons (ro_name (i := 1) rfl (.inl rfl)) ra_nil))) ra_nil)) rfl)
  (rss_cons (rs_while hp (rt_cmp op_gt o2_gt (ro_name (i := 4) rfl (.inl rfl)) (ro_re re_int) (nomark _))
  (rss_one (rs_par (i := 3) (j := 4) rfl sc_law_fr.nd rfl rfl (by decide) rfl rfl (ra_cons (ro_name (i := 4) rfl (.inl rfl)) (ra_cons (ro_re (re_bin op_modN o2_mod (ro_name (i := 3) rfl (.inl rfl)) (ro_name (i := 4) rfl (.inl rfl)))) ra_nil)) rfl)))
  (rss_cons (rs_asg (re_ifExp (rt_cmp op_lt o2_lt (ro_name (i := 1) rfl (.inl rfl)) (ro_re re_int) (nomark _)) (re_un un_neg on_neg (ro_re re_int)) re_int) (rg_name (i := 2) sc_law_fr.nd rfl (.inl rfl)))
  (rss_one (rs_ret (ro_re (re_tup (ra_cons (ro_re (re_bin op_fdivX o2_fdv (ro_re (re_bin op_mulX o2_mul (ro_name (i := 2) rfl (.inl rfl)) (ro_name (i := 0) rfl (.inl rfl)))) (ro_name (i := 3) rfl (.inl rfl)))) (ra_cons (ro_re (re_bin op_fdivX o2_fdv (ro_re (re_bin op_mulX o2_mul (ro_name (i := 2) rfl (.inl rfl)) (ro_name (i := 1) rfl (.inl rfl)))) (ro_name (i := 3) rfl (.inl rfl)))) ra_nil)))))))))
theorem ok_law_fr {P : Program} {w : World} {K : PySem.W.Frag} {mg : Str → Option Value} {base : Heap} (T : Txt K mg) : CalD P w K mg base 2 "_law_fr" 2 f_law_fr [] := by
  obtain ⟨fd, F⟩ := T.c.def_ 31 (d := d_law_fr) rfl
  exact CalD.mk0 F (g_law_fr T) (body_law_fr T F) (fun _ _ _ _ _ _ us hl => match us, hl with | [_, _], _ => rfl)
theorem sc_law_columns : FnScope ["table", "width", "at", "line"] ["table", "width"] (defScope (top 48)) := ⟨rfl, rfl, rfl, by decide +kernel, rfl, by decide +kernel, by decide +kernel⟩
theorem body_law_columns {P : Program} {w : World} {K : PySem.W.Frag} {mg : Str → Option Value} {base : Heap} (T : Txt K mg) {f : Addr} {fd : FuncData} (F : FunD K d_law_columns.name d_law_columns.qual d_law_columns.params d_law_columns.body d_law_columns.scope (d_law_columns.dvs K) (d_law_columns.kws K) f fd) : FnG P w K mg base (L2.CX P w) 2 f fd ["table", "width"] (spD K 2 f_law_columns) := by
  refine def_okD (N := ["table", "width", "at", "line"]) (ps := ["table", "width"]) F sc_law_columns rfl fun cdv A outer s H E pa gd hr => ?_
  have tk := takes_of (X := dcx P w K mg base ["table", "width", "at", "line"] d_law_columns.qual d_law_columns.scope f cdv A outer s H E) (E := E) rfl rfl rfl rfl
  have hp := passes_of (X := dcx P w K mg base ["table", "width", "at", "line"] d_law_columns.qual d_law_columns.scope f cdv A outer s H E) rfl
  exact (rss_one (rs_retW (rn_lc (own := [("at", 2)]) (is := [2]) rfl sc_law_columns.nd (ri_rng1 rfl (g_range T) (ra_cons (ro_name (i := 1) rfl (.inl rfl)) ra_nil)) (blkOk_by rfl) (by decide) (fun _ _ _ _ _ => (rg_name (i := 2) sc_law_columns.nd rfl (.inr rfl))) (fun _ _ _ _ _ => rts_nil) (fun _ _ _ _ _ => (ro_re (re_callTy call_tuple_of on_tup rfl (g_tuple T) (by decide +kernel) (ra_cons (ro_re (re_rn (rn_lc (own := [("line", 3)]) (is := [3]) rfl sc_law_columns.nd (ri_any (ro_name (i := 0) rfl (.inr (.inl rfl)))) (blkOk_by rfl) (by decide) (fun _ _ _ _ _ => (rg_name (i := 3) sc_law_columns.nd rfl (.inl rfl))) (fun _ _ _ _ _ => rts_nil) (fun _ _ _ _ _ => (ro_re (re_ix ix_X o2_ix (ro_name (i := 3) rfl (.inl rfl)) (ro_name (i := 2) rfl (.inr (.inl rfl))) fun _ _ => rfl)))))) ra_nil)))))))
theorem ok_law_columns {P : Program} {w : World} {K : PySem.W.Frag} {mg : Str → Option Value} {base : Heap} (T : Txt K mg) : CalD P w K mg base 2 "_law_columns" 2 f_law_columns [] := by
  obtain ⟨fd, F⟩ := T.c.def_ 35 (d := d_law_columns) rfl
  exact CalD.mk0 F (g_law_columns T) (body_law_columns T F) (fun _ _ _ _ _ _ us hl => match us, hl with | [_, _], _ => rfl)
theorem sc_is_number : FnScope ["value", "one"] ["value"] (defScope (top 11)) := ⟨rfl, rfl, rfl, by decide +kernel, rfl, by decide +kernel, by decide +kernel⟩
theorem body_is_number {P : Program} {w : World} {K : PySem.W.Frag} {mg : Str → Option Value} {base : Heap} (T : Txt K mg) {f : Addr} {fd : FuncData} (F : FunD K d_is_number.name d_is_number.qual d_is_number.params d_is_number.body d_is_number.scope (d_is_number.dvs K) (d_is_number.kws K) f fd) : FnG P w K mg base (L2.CX P w) 3 f fd ["value"] (spD K 1 f_is_number) := by
  have C_common_divisor := ok_common_divisor (P := P) (w := w) (base := base) T
  have C_is_integer := ok_is_integer (P := P) (w := w) (base := base) T
  refine def_okD (N := ["value", "one"]) (ps := ["value"]) F sc_is_number rfl fun cdv A outer s H E pa gd hr => ?_
  have tk := takes_of (X := dcx P w K mg base ["value", "one"] d_is_number.qual d_is_number.scope f cdv A outer s H E) (E := E) rfl rfl rfl rfl
  have hp := passes_of (X := dcx P w K mg base ["value", "one"] d_is_number.qual d_is_number.scope f cdv A outer s H E) rfl
  exact (rss_cons (rs_if (rt_rw (rw_or (rt_not (rt_val (re_callB call_isi on_isi rfl (g_isinstance T) (by decide +kernel) (ra_cons (ro_name (i := 0) rfl (.inl rfl)) (ra_cons (ro_re (re_bty (g_tuple T) (by decide +kernel))) ra_nil))))) (rw_or (rt_cmp (op_neD hr.units) o2_ne (ro_re (re_callB call_len on_len rfl (g_len T) (by decide +kernel) (ra_cons (ro_name (i := 0) rfl (.inl rfl)) ra_nil))) (ro_re re_int) (nomark _)) (rw_or1 (rt_not (rt_val (re_callB (cr_all rfl) on_all rfl (g_all T) (by decide +kernel) (ra_cons (ro_re (re_rn (rn_lc (own := [("one", 1)]) (is := [1]) rfl sc_is_number.nd (ri_any (ro_name (i := 0) rfl (.inl rfl))) (blkOk_by rfl) (by decide) (fun _ _ _ _ _ => (rg_name (i := 1) sc_is_number.nd rfl (.inl rfl))) (fun _ _ _ _ _ => rts_nil) (fun _ _ _ _ _ => (ro_re (re_callC C_is_integer gd hr takes0 (ra_cons (ro_name (i := 1) rfl (.inl rfl)) ra_nil))))))) ra_nil))))))))
  (rss_one (rs_ret (ro_re re_bl)))
  rss_nil)
  (rss_one (rs_ret (ro_re (re_and (re_cmp op_ge o2_ge (ro_re (re_ix ix_X o2_ix (ro_name (i := 0) rfl (.inl rfl)) (ro_re re_int) fun _ _ => rfl)) (ro_re re_int) (nomark _)) (re_one (re_cmp (op_eqD hr.units) o2_eq (ro_re (re_callC C_common_divisor gd hr tk (ra_cons (ro_re (re_ix ix_X o2_ix (ro_name (i := 0) rfl (.inl rfl)) (ro_re re_int) fun _ _ => rfl)) (ra_cons (ro_re (re_ix ix_X o2_ix (ro_name (i := 0) rfl (.inl rfl)) (ro_re re_int) fun _ _ => rfl)) ra_nil)))) (ro_re re_int) (nomark _))))))))
theorem ok_is_number {P : Program} {w : World} {K : PySem.W.Frag} {mg : Str → Option Value} {base : Heap} (T : Txt K mg) : CalD P w K mg base 3 "is_number" 1 f_is_number [] := by
  obtain ⟨fd, F⟩ := T.c.def_ 2 (d := d_is_number) rfl
  exact CalD.mk0 F (g_is_number T) (body_is_number T F) (fun _ _ _ _ _ _ us hl => match us, hl with | [_], _ => rfl)
theorem sc_reduced : FnScope ["top", "bottom", "divisor"] ["top", "bottom"] (defScope (top 12)) := ⟨rfl, rfl, rfl, by decide +kernel, rfl, by decide +kernel, by decide +kernel⟩
theorem body_reduced {P : Program} {w : World} {K : PySem.W.Frag} {mg : Str → Option Value} {base : Heap} (T : Txt K mg) {f : Addr} {fd : FuncData} (F : FunD K d_reduced.name d_reduced.qual d_reduced.params d_reduced.body d_reduced.scope (d_reduced.dvs K) (d_reduced.kws K) f fd) : FnG P w K mg base (L2.CX P w) 3 f fd ["top", "bottom"] (spD K 2 f_reduced) := by
  have C_common_divisor := ok_common_divisor (P := P) (w := w) (base := base) T
  refine def_okD (N := ["top", "bottom", "divisor"]) (ps := ["top", "bottom"]) F sc_reduced rfl fun cdv A outer s H E pa gd hr => ?_
  have tk := takes_of (X := dcx P w K mg base ["top", "bottom", "divisor"] d_reduced.qual d_reduced.scope f cdv A outer s H E) (E := E) rfl rfl rfl rfl
  have hp := passes_of (X := dcx P w K mg base ["top", "bottom", "divisor"] d_reduced.qual d_reduced.scope f cdv A outer s H E) rfl
  exact (rss_cons (rs_if (rt_cmp op_lt o2_lt (ro_name (i := 1) rfl (.inl rfl)) (ro_re re_int) (nomark _))
  (rss_one (rs_par (i := 0) (j := 1) rfl sc_reduced.nd rfl rfl (by decide) rfl rfl (ra_cons (ro_re (re_bin op_sub o2_sub (ro_re re_int) (ro_name (i := 0) rfl (.inl rfl)))) (ra_cons (ro_re (re_bin op_sub o2_sub (ro_re re_int) (ro_name (i := 1) rfl (.inl rfl)))) ra_nil)) rfl))
  rss_nil)
  (rss_cons (rs_asg (re_callC C_common_divisor gd hr tk (ra_cons (ro_name (i := 0) rfl (.inl rfl)) (ra_cons (ro_name (i := 1) rfl (.inl rfl)) ra_nil))) (rg_name (i := 2) sc_reduced.nd rfl (.inl rfl)))
  (rss_one (rs_ret (ro_re (re_tup (ra_cons (ro_re (re_bin op_fdivX o2_fdv (ro_name (i := 0) rfl (.inl rfl)) (ro_name (i := 2) rfl (.inl rfl)))) (ra_cons (ro_re (re_bin op_fdivX o2_fdv (ro_name (i := 1) rfl (.inl rfl)) (ro_name (i := 2) rfl (.inl rfl)))) ra_nil))))))))
theorem ok_reduced {P : Program} {w : World} {K : PySem.W.Frag} {mg : Str → Option Value} {base : Heap} (T : Txt K mg) : CalD P w K mg base 3 "reduced" 2 f_reduced [] := by
  obtain ⟨fd, F⟩ := T.c.def_ 3 (d := d_reduced) rfl
  exact CalD.mk0 F (g_reduced T) (body_reduced T F) (fun _ _ _ _ _ _ us hl => match us, hl with | [_, _], _ => rfl)
theorem sc_require_count : FnScope ["value", "least", "most"] ["value", "least", "most"] (defScope (top 13)) := ⟨rfl, rfl, rfl, by decide +kernel, rfl, by decide +kernel, by decide +kernel⟩
theorem body_require_count {P : Program} {w : World} {K : PySem.W.Frag} {mg : Str → Option Value} {base : Heap} (T : Txt K mg) {f : Addr} {fd : FuncData} (F : FunD K d_require_count.name d_require_count.qual d_require_count.params d_require_count.body d_require_count.scope (d_require_count.dvs K) (d_require_count.kws K) f fd) : FnG P w K mg base (L2.CX P w) 3 f fd ["value", "least", "most"] (spD K 3 f_require_count) := by
  have C_is_integer := ok_is_integer (P := P) (w := w) (base := base) T
  refine def_okD (N := ["value", "least", "most"]) (ps := ["value", "least", "most"]) F sc_require_count rfl fun cdv A outer s H E pa gd hr => ?_
  have tk := takes_of (X := dcx P w K mg base ["value", "least", "most"] d_require_count.qual d_require_count.scope f cdv A outer s H E) (E := E) rfl rfl rfl rfl
  have hp := passes_of (X := dcx P w K mg base ["value", "least", "most"] d_require_count.qual d_require_count.scope f cdv A outer s H E) rfl
  exact (rss_one (rs_if (rt_rw (rw_or (rt_not (rt_val (re_callC C_is_integer gd hr tk (ra_cons (ro_name (i := 0) rfl (.inl rfl)) ra_nil)))) (rw_or1 (rt_not (rt_chain op_le op_le o2_le o2_le (ro_name (i := 1) rfl (.inl rfl)) (ro_name (i := 0) rfl (.inl rfl)) (ro_name (i := 2) rfl (.inl rfl)))))))
  (rss_one rs_bad)
  rss_nil))
theorem ok_require_count_1 {P : Program} {w : World} {K : PySem.W.Frag} {mg : Str → Option Value} {base : Heap} (T : Txt K mg) : CalD P w K mg base 3 "require_count" 3 f_require_count [(D.int 0), (D.int 60)] := by
  obtain ⟨fd, F⟩ := T.c.def_ 4 (d := d_require_count) rfl
  exact CalD.mk1 1 0 F (g_require_count T) (body_require_count T F) (List.cons_ne_nil _ _) rfl (fun ms H => (.cons (.int _) (.cons (.int _) .nil))) (fun _ _ _ _ _ _ _ us its hl hl2 => match us, its, hl, hl2 with | [_], [_, _], _, _ => ⟨_, rfl, rfl⟩)
theorem ok_require_count_2 {P : Program} {w : World} {K : PySem.W.Frag} {mg : Str → Option Value} {base : Heap} (T : Txt K mg) : CalD P w K mg base 3 "require_count" 3 f_require_count [(D.int 60)] := by
  obtain ⟨fd, F⟩ := T.c.def_ 4 (d := d_require_count) rfl
  exact CalD.mk1 2 1 F (g_require_count T) (body_require_count T F) (List.cons_ne_nil _ _) rfl (fun ms H => (.cons (.int _) .nil)) (fun _ _ _ _ _ _ _ us its hl hl2 => match us, its, hl, hl2 with | [_, _], [_, _], _, _ => ⟨_, rfl, rfl⟩)
theorem ok_require_count {P : Program} {w : World} {K : PySem.W.Frag} {mg : Str → Option Value} {base : Heap} (T : Txt K mg) : CalD P w K mg base 3 "require_count" 3 f_require_count [] := by
  obtain ⟨fd, F⟩ := T.c.def_ 4 (d := d_require_count) rfl
  exact CalD.mk1 3 2 F (g_require_count T) (body_require_count T F) (List.cons_ne_nil _ _) rfl (fun ms H => .nil) (fun _ _ _ _ _ _ _ us its hl hl2 => match us, its, hl, hl2 with | [_, _, _], [_, _], _, _ => ⟨_, rfl, rfl⟩)
theorem sc_unit_table : FnScope ["width", "index"] ["width"] (defScope (top 21)) := ⟨rfl, rfl, rfl, by decide +kernel, rfl, by decide +kernel, by decide +kernel⟩
theorem body_unit_table {P : Program} {w : World} {K : PySem.W.Frag} {mg : Str → Option Value} {base : Heap} (T : Txt K mg) {f : Addr} {fd : FuncData} (F : FunD K d_unit_table.name d_unit_table.qual d_unit_table.params d_unit_table.body d_unit_table.scope (d_unit_table.dvs K) (d_unit_table.kws K) f fd) : FnG P w K mg base (L2.CX P w) 3 f fd ["width"] (spD K 1 f_unit_table) := by
  have C_unit_row := ok_unit_row (P := P) (w := w) (base := base) T
  refine def_okD (N := ["width", "index"]) (ps := ["width"]) F sc_unit_table rfl fun cdv A outer s H E pa gd hr => ?_
  have tk := takes_of (X := dcx P w K mg base ["width", "index"] d_unit_table.qual d_unit_table.scope f cdv A outer s H E) (E := E) rfl rfl rfl rfl
  have hp := passes_of (X := dcx P w K mg base ["width", "index"] d_unit_table.qual d_unit_table.scope f cdv A outer s H E) rfl
  exact (rss_one (rs_ret (ro_re (re_callTy call_tuple_of on_tup rfl (g_tuple T) (by decide +kernel) (ra_cons (ro_re (re_rn (rn_lc (own := [("index", 1)]) (is := [1]) rfl sc_unit_table.nd (ri_rng1 rfl (g_range T) (ra_cons (ro_name (i := 0) rfl (.inr (.inl rfl))) ra_nil)) (blkOk_by rfl) (by decide) (fun _ _ _ _ _ => (rg_name (i := 1) sc_unit_table.nd rfl (.inl rfl))) (fun _ _ _ _ _ => rts_nil) (fun _ _ _ _ _ => (ro_re (re_callC C_unit_row gd hr takes0 (ra_cons (ro_name (i := 0) rfl (.inr (.inl rfl))) (ra_cons (ro_name (i := 1) rfl (.inl rfl)) ra_nil)))))))) ra_nil)))))
theorem ok_unit_table {P : Program} {w : World} {K : PySem.W.Frag} {mg : Str → Option Value} {base : Heap} (T : Txt K mg) : CalD P w K mg base 3 "unit_table" 1 f_unit_table [] := by
  obtain ⟨fd, F⟩ := T.c.def_ 11 (d := d_unit_table) rfl
  exact CalD.mk0 F (g_unit_table T) (body_unit_table T F) (fun _ _ _ _ _ _ us hl => match us, hl with | [_], _ => rfl)
theorem sc_law_pick : FnScope ["dice", "items"] ["dice", "items"] (defScope (top 43)) := ⟨rfl, rfl, rfl, by decide +kernel, rfl, by decide +kernel, by decide +kernel⟩
theorem body_law_pick {P : Program} {w : World} {K : PySem.W.Frag} {mg : Str → Option Value} {base : Heap} (T : Txt K mg) {f : Addr} {fd : FuncData} (F : FunD K d_law_pick.name d_law_pick.qual d_law_pick.params d_law_pick.body d_law_pick.scope (d_law_pick.dvs K) (d_law_pick.kws K) f fd) : FnG P w K mg base (L2.CX P w) 3 f fd ["dice", "items"] (spM K 2 f_law_pick) := by
  have C_law_roll := ok_law_roll (P := P) (w := w) (base := base) T
  refine def_okM (N := ["dice", "items"]) (ps := ["dice", "items"]) F sc_law_pick rfl fun cdv A outer s H E pa gd hr => ?_
  have tk := takes_of (X := dcx P w K mg base ["dice", "items"] d_law_pick.qual d_law_pick.scope f cdv A outer s H E) (E := E) rfl rfl rfl rfl
  have hp := passes_of (X := dcx P w K mg base ["dice", "items"] d_law_pick.qual d_law_pick.scope f cdv A outer s H E) rfl
  exact (rss_one (rs_ret (ro_re (re_ix ix_X o2_ix (ro_name (i := 1) rfl (.inl rfl)) (ro_re (re_callMC C_law_roll gd hr tk (ra_cons (ro_name (i := 0) rfl (.inl rfl)) (ra_cons (ro_re (re_callB call_len on_len rfl (g_len T) (by decide +kernel) (ra_cons (ro_name (i := 1) rfl (.inl rfl)) ra_nil))) ra_nil)))) fun _ _ => rfl))))
theorem ok_law_pick {P : Program} {w : World} {K : PySem.W.Frag} {mg : Str → Option Value} {base : Heap} (T : Txt K mg) : CalM P w K mg base 3 "_law_pick" 2 f_law_pick [] := by
  obtain ⟨fd, F⟩ := T.c.def_ 30 (d := d_law_pick) rfl
  exact CalM.mk0 F (g_law_pick T) (body_law_pick T F) (fun _ _ _ _ _ _ us hl => match us, hl with | [_, _], _ => rfl)
theorem sc_law_plus : FnScope ["one", "other"] ["one", "other"] (defScope (top 45)) := ⟨rfl, rfl, rfl, by decide +kernel, rfl, by decide +kernel, by decide +kernel⟩
theorem body_law_plus {P : Program} {w : World} {K : PySem.W.Frag} {mg : Str → Option Value} {base : Heap} (T : Txt K mg) {f : Addr} {fd : FuncData} (F : FunD K d_law_plus.name d_law_plus.qual d_law_plus.params d_law_plus.body d_law_plus.scope (d_law_plus.dvs K) (d_law_plus.kws K) f fd) : FnG P w K mg base (L2.CX P w) 3 f fd ["one", "other"] (spD K 2 f_law_plus) := by
  have C_law_fr := ok_law_fr (P := P) (w := w) (base := base) T
  refine def_okD (N := ["one", "other"]) (ps := ["one", "other"]) F sc_law_plus rfl fun cdv A outer s H E pa gd hr => ?_
  have tk := takes_of (X := dcx P w K mg base ["one", "other"] d_law_plus.qual d_law_plus.scope f cdv A outer s H E) (E := E) rfl rfl rfl rfl
  have hp := passes_of (X := dcx P w K mg base ["one", "other"] d_law_plus.qual d_law_plus.scope f cdv A outer s H E) rfl
  exact (rss_one (rs_ret (ro_re (re_callC C_law_fr gd hr tk (ra_cons (ro_re (re_bin op_addX o2_add (ro_re (re_bin op_mulX o2_mul (ro_re (re_ix ix_X o2_ix (ro_name (i := 0) rfl (.inl rfl)) (ro_re re_int) fun _ _ => rfl)) (ro_re (re_ix ix_X o2_ix (ro_name (i := 1) rfl (.inl rfl)) (ro_re re_int) fun _ _ => rfl)))) (ro_re (re_bin op_mulX o2_mul (ro_re (re_ix ix_X o2_ix (ro_name (i := 1) rfl (.inl rfl)) (ro_re re_int) fun _ _ => rfl)) (ro_re (re_ix ix_X o2_ix (ro_name (i := 0) rfl (.inl rfl)) (ro_re re_int) fun _ _ => rfl)))))) (ra_cons (ro_re (re_bin op_mulX o2_mul (ro_re (re_ix ix_X o2_ix (ro_name (i := 0) rfl (.inl rfl)) (ro_re re_int) fun _ _ => rfl)) (ro_re (re_ix ix_X o2_ix (ro_name (i := 1) rfl (.inl rfl)) (ro_re re_int) fun _ _ => rfl)))) ra_nil))))))
theorem ok_law_plus {P : Program} {w : World} {K : PySem.W.Frag} {mg : Str → Option Value} {base : Heap} (T : Txt K mg) : CalD P w K mg base 3 "_law_plus" 2 f_law_plus [] := by
  obtain ⟨fd, F⟩ := T.c.def_ 32 (d := d_law_plus) rfl
  exact CalD.mk0 F (g_law_plus T) (body_law_plus T F) (fun _ _ _ _ _ _ us hl => match us, hl with | [_, _], _ => rfl)
theorem sc_law_times : FnScope ["one", "other"] ["one", "other"] (defScope (top 46)) := ⟨rfl, rfl, rfl, by decide +kernel, rfl, by decide +kernel, by decide +kernel⟩
theorem body_law_times {P : Program} {w : World} {K : PySem.W.Frag} {mg : Str → Option Value} {base : Heap} (T : Txt K mg) {f : Addr} {fd : FuncData} (F : FunD K d_law_times.name d_law_times.qual d_law_times.params d_law_times.body d_law_times.scope (d_law_times.dvs K) (d_law_times.kws K) f fd) : FnG P w K mg base (L2.CX P w) 3 f fd ["one", "other"] (spD K 2 f_law_times) := by
  have C_law_fr := ok_law_fr (P := P) (w := w) (base := base) T
  refine def_okD (N := ["one", "other"]) (ps := ["one", "other"]) F sc_law_times rfl fun cdv A outer s H E pa gd hr => ?_
  have tk := takes_of (X := dcx P w K mg base ["one", "other"] d_law_times.qual d_law_times.scope f cdv A outer s H E) (E := E) rfl rfl rfl rfl
  have hp := passes_of (X := dcx P w K mg base ["one", "other"] d_law_times.qual d_law_times.scope f cdv A outer s H E) rfl
  exact (rss_one (rs_ret (ro_re (re_callC C_law_fr gd hr tk (ra_cons (ro_re (re_bin op_mulX o2_mul (ro_re (re_ix ix_X o2_ix (ro_name (i := 0) rfl (.inl rfl)) (ro_re re_int) fun _ _ => rfl)) (ro_re (re_ix ix_X o2_ix (ro_name (i := 1) rfl (.inl rfl)) (ro_re re_int) fun _ _ => rfl)))) (ra_cons (ro_re (re_bin op_mulX o2_mul (ro_re (re_ix ix_X o2_ix (ro_name (i := 0) rfl (.inl rfl)) (ro_re re_int) fun _ _ => rfl)) (ro_re (re_ix ix_X o2_ix (ro_name (i := 1) rfl (.inl rfl)) (ro_re re_int) fun _ _ => rfl)))) ra_nil))))))
theorem ok_law_times {P : Program} {w : World} {K : PySem.W.Frag} {mg : Str → Option Value} {base : Heap} (T : Txt K mg) : CalD P w K mg base 3 "_law_times" 2 f_law_times [] := by
  obtain ⟨fd, F⟩ := T.c.def_ 33 (d := d_law_times) rfl
  exact CalD.mk0 F (g_law_times T) (body_law_times T F) (fun _ _ _ _ _ _ us hl => match us, hl with | [_, _], _ => rfl)
theorem sc_added : FnScope ["one", "other"] ["one", "other"] (defScope (top 14)) := ⟨rfl, rfl, rfl, by decide +kernel, rfl, by decide +kernel, by decide +kernel⟩
theorem body_added {P : Program} {w : World} {K : PySem.W.Frag} {mg : Str → Option Value} {base : Heap} (T : Txt K mg) {f : Addr} {fd : FuncData} (F : FunD K d_added.name d_added.qual d_added.params d_added.body d_added.scope (d_added.dvs K) (d_added.kws K) f fd) : FnG P w K mg base (L2.CX P w) 4 f fd ["one", "other"] (spD K 2 f_added) := by
  have C_reduced := ok_reduced (P := P) (w := w) (base := base) T
  refine def_okD (N := ["one", "other"]) (ps := ["one", "other"]) F sc_added rfl fun cdv A outer s H E pa gd hr => ?_
  have tk := takes_of (X := dcx P w K mg base ["one", "other"] d_added.qual d_added.scope f cdv A outer s H E) (E := E) rfl rfl rfl rfl
  have hp := passes_of (X := dcx P w K mg base ["one", "other"] d_added.qual d_added.scope f cdv A outer s H E) rfl
  exact (rss_cons (rs_if (rt_chain (op_eqD hr.units) (op_eqD hr.units) o2_eq o2_eq (ro_re (re_ix ix_X o2_ix (ro_name (i := 0) rfl (.inl rfl)) (ro_re re_int) fun _ _ => rfl)) (ro_re (re_ix ix_X o2_ix (ro_name (i := 1) rfl (.inl rfl)) (ro_re re_int) fun _ _ => rfl)) (ro_re re_int))
  (rss_one (rs_ret (ro_re (re_tup (ra_cons (ro_re (re_bin op_addX o2_add (ro_re (re_ix ix_X o2_ix (ro_name (i := 0) rfl (.inl rfl)) (ro_re re_int) fun _ _ => rfl)) (ro_re (re_ix ix_X o2_ix (ro_name (i := 1) rfl (.inl rfl)) (ro_re re_int) fun _ _ => rfl)))) (ra_cons (ro_re re_int) ra_nil))))))
  rss_nil)
  (rss_one (rs_ret (ro_re (re_callC C_reduced gd hr tk (ra_cons (ro_re (re_bin op_addX o2_add (ro_re (re_bin op_mulX o2_mul (ro_re (re_ix ix_X o2_ix (ro_name (i := 0) rfl (.inl rfl)) (ro_re re_int) fun _ _ => rfl)) (ro_re (re_ix ix_X o2_ix (ro_name (i := 1) rfl (.inl rfl)) (ro_re re_int) fun _ _ => rfl)))) (ro_re (re_bin op_mulX o2_mul (ro_re (re_ix ix_X o2_ix (ro_name (i := 1) rfl (.inl rfl)) (ro_re re_int) fun _ _ => rfl)) (ro_re (re_ix ix_X o2_ix (ro_name (i := 0) rfl (.inl rfl)) (ro_re re_int) fun _ _ => rfl)))))) (ra_cons (ro_re (re_bin op_mulX o2_mul (ro_re (re_ix ix_X o2_ix (ro_name (i := 0) rfl (.inl rfl)) (ro_re re_int) fun _ _ => rfl)) (ro_re (re_ix ix_X o2_ix (ro_name (i := 1) rfl (.inl rfl)) (ro_re re_int) fun _ _ => rfl)))) ra_nil)))))))
theorem ok_added {P : Program} {w : World} {K : PySem.W.Frag} {mg : Str → Option Value} {base : Heap} (T : Txt K mg) : CalD P w K mg base 4 "added" 2 f_added [] := by
  obtain ⟨fd, F⟩ := T.c.def_ 5 (d := d_added) rfl
  exact CalD.mk0 F (g_added T) (body_added T F) (fun _ _ _ _ _ _ us hl => match us, hl with | [_, _], _ => rfl)
theorem sc_multiplied : FnScope ["one", "other"] ["one", "other"] (defScope (top 15)) := ⟨rfl, rfl, rfl, by decide +kernel, rfl, by decide +kernel, by decide +kernel⟩
theorem body_multiplied {P : Program} {w : World} {K : PySem.W.Frag} {mg : Str → Option Value} {base : Heap} (T : Txt K mg) {f : Addr} {fd : FuncData} (F : FunD K d_multiplied.name d_multiplied.qual d_multiplied.params d_multiplied.body d_multiplied.scope (d_multiplied.dvs K) (d_multiplied.kws K) f fd) : FnG P w K mg base (L2.CX P w) 4 f fd ["one", "other"] (spD K 2 f_multiplied) := by
  have C_reduced := ok_reduced (P := P) (w := w) (base := base) T
  refine def_okD (N := ["one", "other"]) (ps := ["one", "other"]) F sc_multiplied rfl fun cdv A outer s H E pa gd hr => ?_
  have tk := takes_of (X := dcx P w K mg base ["one", "other"] d_multiplied.qual d_multiplied.scope f cdv A outer s H E) (E := E) rfl rfl rfl rfl
  have hp := passes_of (X := dcx P w K mg base ["one", "other"] d_multiplied.qual d_multiplied.scope f cdv A outer s H E) rfl
  exact (rss_cons (rs_if (rt_chain (op_eqD hr.units) (op_eqD hr.units) o2_eq o2_eq (ro_re (re_ix ix_X o2_ix (ro_name (i := 0) rfl (.inl rfl)) (ro_re re_int) fun _ _ => rfl)) (ro_re (re_ix ix_X o2_ix (ro_name (i := 1) rfl (.inl rfl)) (ro_re re_int) fun _ _ => rfl)) (ro_re re_int))
  (rss_one (rs_ret (ro_re (re_tup (ra_cons (ro_re (re_bin op_mulX o2_mul (ro_re (re_ix ix_X o2_ix (ro_name (i := 0) rfl (.inl rfl)) (ro_re re_int) fun _ _ => rfl)) (ro_re (re_ix ix_X o2_ix (ro_name (i := 1) rfl (.inl rfl)) (ro_re re_int) fun _ _ => rfl)))) (ra_cons (ro_re re_int) ra_nil))))))
  rss_nil)
  (rss_one (rs_ret (ro_re (re_callC C_reduced gd hr tk (ra_cons (ro_re (re_bin op_mulX o2_mul (ro_re (re_ix ix_X o2_ix (ro_name (i := 0) rfl (.inl rfl)) (ro_re re_int) fun _ _ => rfl)) (ro_re (re_ix ix_X o2_ix (ro_name (i := 1) rfl (.inl rfl)) (ro_re re_int) fun _ _ => rfl)))) (ra_cons (ro_re (re_bin op_mulX o2_mul (ro_re (re_ix ix_X o2_ix (ro_name (i := 0) rfl (.inl rfl)) (ro_re re_int) fun _ _ => rfl)) (ro_re (re_ix ix_X o2_ix (ro_name (i := 1) rfl (.inl rfl)) (ro_re re_int) fun _ _ => rfl)))) ra_nil)))))))
theorem ok_multiplied {P : Program} {w : World} {K : PySem.W.Frag} {mg : Str → Option Value} {base : Heap} (T : Txt K mg) : CalD P w K mg base 4 "multiplied" 2 f_multiplied [] := by
  obtain ⟨fd, F⟩ := T.c.def_ 6 (d := d_multiplied) rfl
  exact CalD.mk0 F (g_multiplied T) (body_multiplied T F) (fun _ _ _ _ _ _ us hl => match us, hl with | [_, _], _ => rfl)
theorem sc_is_plain_row : FnScope ["width", "value", "one"] ["width", "value"] (defScope (top 17)) := ⟨rfl, rfl, rfl, by decide +kernel, rfl, by decide +kernel, by decide +kernel⟩
theorem body_is_plain_row {P : Program} {w : World} {K : PySem.W.Frag} {mg : Str → Option Value} {base : Heap} (T : Txt K mg) {f : Addr} {fd : FuncData} (F : FunD K d_is_plain_row.name d_is_plain_row.qual d_is_plain_row.params d_is_plain_row.body d_is_plain_row.scope (d_is_plain_row.dvs K) (d_is_plain_row.kws K) f fd) : FnG P w K mg base (L2.CX P w) 4 f fd ["width", "value"] (spD K 2 f_is_plain_row) := by
  have C_is_number := ok_is_number (P := P) (w := w) (base := base) T
  refine def_okD (N := ["width", "value", "one"]) (ps := ["width", "value"]) F sc_is_plain_row rfl fun cdv A outer s H E pa gd hr => ?_
  have tk := takes_of (X := dcx P w K mg base ["width", "value", "one"] d_is_plain_row.qual d_is_plain_row.scope f cdv A outer s H E) (E := E) rfl rfl rfl rfl
  have hp := passes_of (X := dcx P w K mg base ["width", "value", "one"] d_is_plain_row.qual d_is_plain_row.scope f cdv A outer s H E) rfl
  exact (rss_one (rs_ret (ro_re (re_and (re_callB call_isi on_isi rfl (g_isinstance T) (by decide +kernel) (ra_cons (ro_name (i := 1) rfl (.inl rfl)) (ra_cons (ro_re (re_bty (g_tuple T) (by decide +kernel))) ra_nil))) (re_and (re_cmp (op_eqD hr.units) o2_eq (ro_re (re_callB call_len on_len rfl (g_len T) (by decide +kernel) (ra_cons (ro_name (i := 1) rfl (.inl rfl)) ra_nil))) (ro_name (i := 0) rfl (.inl rfl)) (nomark _)) (re_one (re_callB (cr_all rfl) on_all rfl (g_all T) (by decide +kernel) (ra_cons (ro_re (re_rn (rn_lc (own := [("one", 2)]) (is := [2]) rfl sc_is_plain_row.nd (ri_any (ro_name (i := 1) rfl (.inl rfl))) (blkOk_by rfl) (by decide) (fun _ _ _ _ _ => (rg_name (i := 2) sc_is_plain_row.nd rfl (.inl rfl))) (fun _ _ _ _ _ => rts_nil) (fun _ _ _ _ _ => (ro_re (re_callC C_is_number gd hr takes0 (ra_cons (ro_name (i := 2) rfl (.inl rfl)) ra_nil))))))) ra_nil))))))))
theorem ok_is_plain_row {P : Program} {w : World} {K : PySem.W.Frag} {mg : Str → Option Value} {base : Heap} (T : Txt K mg) : CalD P w K mg base 4 "is_plain_row" 2 f_is_plain_row [] := by
  obtain ⟨fd, F⟩ := T.c.def_ 7 (d := d_is_plain_row) rfl
  exact CalD.mk0 F (g_is_plain_row T) (body_is_plain_row T F) (fun _ _ _ _ _ _ us hl => match us, hl with | [_, _], _ => rfl)
theorem sc_require_width : FnScope ["width"] ["width"] (defScope (top 31)) := ⟨rfl, rfl, rfl, by decide +kernel, rfl, by decide +kernel, by decide +kernel⟩
theorem body_require_width {P : Program} {w : World} {K : PySem.W.Frag} {mg : Str → Option Value} {base : Heap} (T : Txt K mg) {f : Addr} {fd : FuncData} (F : FunD K d_require_width.name d_require_width.qual d_require_width.params d_require_width.body d_require_width.scope (d_require_width.dvs K) (d_require_width.kws K) f fd) : FnG P w K mg base (L2.CX P w) 4 f fd ["width"] (spD K 1 f_require_width) := by
  have C_require_count := ok_require_count (P := P) (w := w) (base := base) T
  refine def_okD (N := ["width"]) (ps := ["width"]) F sc_require_width rfl fun cdv A outer s H E pa gd hr => ?_
  have tk := takes_of (X := dcx P w K mg base ["width"] d_require_width.qual d_require_width.scope f cdv A outer s H E) (E := E) rfl rfl rfl rfl
  have hp := passes_of (X := dcx P w K mg base ["width"] d_require_width.qual d_require_width.scope f cdv A outer s H E) rfl
  exact (rss_one (rs_exp (re_callC C_require_count gd hr tk (ra_cons (ro_name (i := 0) rfl (.inl rfl)) (ra_cons (ro_re re_int) (ra_cons (ro_re (re_intK (g_MAX_WIDTH T))) ra_nil))))))
theorem ok_require_width {P : Program} {w : World} {K : PySem.W.Frag} {mg : Str → Option Value} {base : Heap} (T : Txt K mg) : CalD P w K mg base 4 "require_width" 1 f_require_width [] := by
  obtain ⟨fd, F⟩ := T.c.def_ 19 (d := d_require_width) rfl
  exact CalD.mk0 F (g_require_width T) (body_require_width T F) (fun _ _ _ _ _ _ us hl => match us, hl with | [_], _ => rfl)
theorem sc_law_dot : FnScope ["row", "told", "found", "one", "other"] ["row", "told"] (defScope (top 47)) := ⟨rfl, rfl, rfl, by decide +kernel, rfl, by decide +kernel, by decide +kernel⟩
theorem body_law_dot {P : Program} {w : World} {K : PySem.W.Frag} {mg : Str → Option Value} {base : Heap} (T : Txt K mg) {f : Addr} {fd : FuncData} (F : FunD K d_law_dot.name d_law_dot.qual d_law_dot.params d_law_dot.body d_law_dot.scope (d_law_dot.dvs K) (d_law_dot.kws K) f fd) : FnG P w K mg base (L2.CX P w) 4 f fd ["row", "told"] (spD K 2 f_law_dot) := by
  have C_law_plus := ok_law_plus (P := P) (w := w) (base := base) T
  have C_law_times := ok_law_times (P := P) (w := w) (base := base) T
  refine def_okD (N := ["row", "told", "found", "one", "other"]) (ps := ["row", "told"]) F sc_law_dot rfl fun cdv A outer s H E pa gd hr => ?_
  have tk := takes_of (X := dcx P w K mg base ["row", "told", "found", "one", "other"] d_law_dot.qual d_law_dot.scope f cdv A outer s H E) (E := E) rfl rfl rfl rfl
  have hp := passes_of (X := dcx P w K mg base ["row", "told", "found", "one", "other"] d_law_dot.qual d_law_dot.scope f cdv A outer s H E) rfl
  exact (rss_cons (rs_asg (re_tup (ra_cons (ro_re re_int) (ra_cons (ro_re re_int) ra_nil))) (rg_name (i := 2) sc_law_dot.nd rfl (.inl rfl)))
  (rss_cons (rs_for hp rfl (ri_zip rfl (g_zip T) (ra_cons (ro_name (i := 0) rfl (.inl rfl)) (ra_cons (ro_name (i := 1) rfl (.inl rfl)) ra_nil))) (rg_tup rfl (rgs_cons (rg_name (i := 3) sc_law_dot.nd rfl (.inl rfl)) (rgs_cons (rg_name (i := 4) sc_law_dot.nd rfl (.inl rfl)) rgs_nil)))
  (rss_one (rs_if (rt_rw (rw_and (rt_cmp (op_neD hr.units) o2_ne (ro_re (re_ix ix_X o2_ix (ro_name (i := 3) rfl (.inl rfl)) (ro_re re_int) fun _ _ => rfl)) (ro_re re_int) (nomark _)) (rw_and1 (rt_cmp (op_neD hr.units) o2_ne (ro_re (re_ix ix_X o2_ix (ro_name (i := 4) rfl (.inl rfl)) (ro_re re_int) fun _ _ => rfl)) (ro_re re_int) (nomark _)))))
  (rss_one (rs_asg (re_callC C_law_plus gd hr tk (ra_cons (ro_name (i := 2) rfl (.inl rfl)) (ra_cons (ro_re (re_callC C_law_times gd hr tk (ra_cons (ro_name (i := 3) rfl (.inl rfl)) (ra_cons (ro_name (i := 4) rfl (.inl rfl)) ra_nil)))) ra_nil))) (rg_name (i := 2) sc_law_dot.nd rfl (.inl rfl))))
  rss_nil)))
  (rss_one (rs_ret (ro_name (i := 2) rfl (.inl rfl))))))
theorem ok_law_dot {P : Program} {w : World} {K : PySem.W.Frag} {mg : Str → Option Value} {base : Heap} (T : Txt K mg) : CalD P w K mg base 4 "_law_dot" 2 f_law_dot [] := by
  obtain ⟨fd, F⟩ := T.c.def_ 34 (d := d_law_dot) rfl
  exact CalD.mk0 F (g_law_dot T) (body_law_dot T F) (fun _ _ _ _ _ _ us hl => match us, hl with | [_, _], _ => rfl)
theorem sc_law_table : FnScope ["dice", "height", "width", "some", "line", "at"] ["dice", "height", "width"] (defScope (top 49)) := ⟨rfl, rfl, rfl, by decide +kernel, rfl, by decide +kernel, by decide +kernel⟩
theorem body_law_table {P : Program} {w : World} {K : PySem.W.Frag} {mg : Str → Option Value} {base : Heap} (T : Txt K mg) {f : Addr} {fd : FuncData} (F : FunD K d_law_table.name d_law_table.qual d_law_table.params d_law_table.body d_law_table.scope (d_law_table.dvs K) (d_law_table.kws K) f fd) : FnG P w K mg base (L2.CX P w) 4 f fd ["dice", "height", "width"] (spM K 3 f_law_table) := by
  have C_law_pick := ok_law_pick (P := P) (w := w) (base := base) T
  refine def_okM (N := ["dice", "height", "width", "some", "line", "at"]) (ps := ["dice", "height", "width"]) F sc_law_table rfl fun cdv A outer s H E pa gd hr => ?_
  have tk := takes_of (X := dcx P w K mg base ["dice", "height", "width", "some", "line", "at"] d_law_table.qual d_law_table.scope f cdv A outer s H E) (E := E) rfl rfl rfl rfl
  have hp := passes_of (X := dcx P w K mg base ["dice", "height", "width", "some", "line", "at"] d_law_table.qual d_law_table.scope f cdv A outer s H E) rfl
  exact (rss_cons (rs_asg (re_rn (rn_lst (ra_cons (ro_re (re_tup (ra_cons (ro_re re_int) (ra_cons (ro_re re_int) ra_nil)))) (ra_cons (ro_re (re_tup (ra_cons (ro_re re_int) (ra_cons (ro_re re_int) ra_nil)))) (ra_cons (ro_re (re_tup (ra_cons (ro_re re_int) (ra_cons (ro_re re_int) ra_nil)))) (ra_cons (ro_re (re_tup (ra_cons (ro_re (re_un un_neg on_neg (ro_re re_int))) (ra_cons (ro_re re_int) ra_nil)))) (ra_cons (ro_re (re_tup (ra_cons (ro_re re_int) (ra_cons (ro_re re_int) ra_nil)))) (ra_cons (ro_re (re_tup (ra_cons (ro_re re_int) (ra_cons (ro_re re_int) ra_nil)))) (ra_cons (ro_re (re_tup (ra_cons (ro_re (re_un un_neg on_neg (ro_re re_int))) (ra_cons (ro_re re_int) ra_nil)))) ra_nil))))))))) (rg_name (i := 3) sc_law_table.nd rfl (.inr rfl)))
  (rss_one (rs_ret (ro_re (re_callTy call_tuple_of on_tup rfl (g_tuple T) (by decide +kernel) (ra_cons (ro_re (re_rn (rn_lc (own := [("line", 4)]) (is := [4]) rfl sc_law_table.nd (ri_rng1 rfl (g_range T) (ra_cons (ro_name (i := 1) rfl (.inl rfl)) ra_nil)) (blkOk_by rfl) (by decide) (fun _ _ _ _ _ => (rg_name (i := 4) sc_law_table.nd rfl (.inl rfl))) (fun _ _ _ _ _ => rts_nil) (fun _ _ _ _ _ => (ro_re (re_callTy call_tuple_of on_tup rfl (g_tuple T) (by decide +kernel) (ra_cons (ro_re (re_rn (rn_lc (own := [("at", 5)]) (is := [5]) rfl sc_law_table.nd (ri_rng1 rfl (g_range T) (ra_cons (ro_name (i := 2) rfl (.inr (.inl rfl))) ra_nil)) (blkOk_by rfl) (by decide) (fun _ _ _ _ _ => (rg_name (i := 5) sc_law_table.nd rfl (.inl rfl))) (fun _ _ _ _ _ => rts_nil) (fun _ _ _ _ _ => (ro_re (re_callMC C_law_pick gd hr takes0 (ra_cons (ro_name (i := 0) rfl (.inr (.inl rfl))) (ra_cons (ro_name (i := 3) rfl (.inr (.inl rfl))) ra_nil)))))))) ra_nil))))))) ra_nil))))))
theorem ok_law_table {P : Program} {w : World} {K : PySem.W.Frag} {mg : Str → Option Value} {base : Heap} (T : Txt K mg) : CalM P w K mg base 4 "_law_table" 3 f_law_table [] := by
  obtain ⟨fd, F⟩ := T.c.def_ 36 (d := d_law_table) rfl
  exact CalM.mk0 F (g_law_table T) (body_law_table T F) (fun _ _ _ _ _ _ us hl => match us, hl with | [_, _, _], _ => rfl)
theorem sc_is_plain_table : FnScope ["height", "width", "value", "row"] ["height", "width", "value"] (defScope (top 18)) := ⟨rfl, rfl, rfl, by decide +kernel, rfl, by decide +kernel, by decide +kernel⟩
theorem body_is_plain_table {P : Program} {w : World} {K : PySem.W.Frag} {mg : Str → Option Value} {base : Heap} (T : Txt K mg) {f : Addr} {fd : FuncData} (F : FunD K d_is_plain_table.name d_is_plain_table.qual d_is_plain_table.params d_is_plain_table.body d_is_plain_table.scope (d_is_plain_table.dvs K) (d_is_plain_table.kws K) f fd) : FnG P w K mg base (L2.CX P w) 5 f fd ["height", "width", "value"] (spD K 3 f_is_plain_table) := by
  have C_is_plain_row := ok_is_plain_row (P := P) (w := w) (base := base) T
  refine def_okD (N := ["height", "width", "value", "row"]) (ps := ["height", "width", "value"]) F sc_is_plain_table rfl fun cdv A outer s H E pa gd hr => ?_
  have tk := takes_of (X := dcx P w K mg base ["height", "width", "value", "row"] d_is_plain_table.qual d_is_plain_table.scope f cdv A outer s H E) (E := E) rfl rfl rfl rfl
  have hp := passes_of (X := dcx P w K mg base ["height", "width", "value", "row"] d_is_plain_table.qual d_is_plain_table.scope f cdv A outer s H E) rfl
  exact (rss_one (rs_ret (ro_re (re_and (re_callB call_isi on_isi rfl (g_isinstance T) (by decide +kernel) (ra_cons (ro_name (i := 2) rfl (.inl rfl)) (ra_cons (ro_re (re_bty (g_tuple T) (by decide +kernel))) ra_nil))) (re_and (re_cmp (op_eqD hr.units) o2_eq (ro_re (re_callB call_len on_len rfl (g_len T) (by decide +kernel) (ra_cons (ro_name (i := 2) rfl (.inl rfl)) ra_nil))) (ro_name (i := 0) rfl (.inl rfl)) (nomark _)) (re_one (re_callB (cr_all rfl) on_all rfl (g_all T) (by decide +kernel) (ra_cons (ro_re (re_rn (rn_lc (own := [("row", 3)]) (is := [3]) rfl sc_is_plain_table.nd (ri_any (ro_name (i := 2) rfl (.inl rfl))) (blkOk_by rfl) (by decide) (fun _ _ _ _ _ => (rg_name (i := 3) sc_is_plain_table.nd rfl (.inl rfl))) (fun _ _ _ _ _ => rts_nil) (fun _ _ _ _ _ => (ro_re (re_callC C_is_plain_row gd hr takes0 (ra_cons (ro_name (i := 1) rfl (.inr (.inl rfl))) (ra_cons (ro_name (i := 3) rfl (.inl rfl)) ra_nil)))))))) ra_nil))))))))
theorem ok_is_plain_table {P : Program} {w : World} {K : PySem.W.Frag} {mg : Str → Option Value} {base : Heap} (T : Txt K mg) : CalD P w K mg base 5 "is_plain_table" 3 f_is_plain_table [] := by
  obtain ⟨fd, F⟩ := T.c.def_ 8 (d := d_is_plain_table) rfl
  exact CalD.mk0 F (g_is_plain_table T) (body_is_plain_table T F) (fun _ _ _ _ _ _ us hl => match us, hl with | [_, _, _], _ => rfl)
theorem sc_sum_of_rows : FnScope ["one", "other", "left", "right"] ["one", "other"] (defScope (top 22)) := ⟨rfl, rfl, rfl, by decide +kernel, rfl, by decide +kernel, by decide +kernel⟩
theorem body_sum_of_rows {P : Program} {w : World} {K : PySem.W.Frag} {mg : Str → Option Value} {base : Heap} (T : Txt K mg) {f : Addr} {fd : FuncData} (F : FunD K d_sum_of_rows.name d_sum_of_rows.qual d_sum_of_rows.params d_sum_of_rows.body d_sum_of_rows.scope (d_sum_of_rows.dvs K) (d_sum_of_rows.kws K) f fd) : FnG P w K mg base (L2.CX P w) 5 f fd ["one", "other"] (spD K 2 f_sum_of_rows) := by
  have C_added := ok_added (P := P) (w := w) (base := base) T
  refine def_okD (N := ["one", "other", "left", "right"]) (ps := ["one", "other"]) F sc_sum_of_rows rfl fun cdv A outer s H E pa gd hr => ?_
  have tk := takes_of (X := dcx P w K mg base ["one", "other", "left", "right"] d_sum_of_rows.qual d_sum_of_rows.scope f cdv A outer s H E) (E := E) rfl rfl rfl rfl
  have hp := passes_of (X := dcx P w K mg base ["one", "other", "left", "right"] d_sum_of_rows.qual d_sum_of_rows.scope f cdv A outer s H E) rfl
  exact (rss_one (rs_ret (ro_re (re_callTy call_tuple_of on_tup rfl (g_tuple T) (by decide +kernel) (ra_cons (ro_re (re_rn (rn_lc (own := [("left", 2), ("right", 3)]) (is := [2, 3]) rfl sc_sum_of_rows.nd (ri_zip rfl (g_zip T) (ra_cons (ro_name (i := 0) rfl (.inl rfl)) (ra_cons (ro_name (i := 1) rfl (.inl rfl)) ra_nil))) (blkOk_by rfl) (by decide) (fun _ _ _ _ _ => (rg_tup rfl (rgs_cons (rg_name (i := 2) sc_sum_of_rows.nd rfl (.inl rfl)) (rgs_cons (rg_name (i := 3) sc_sum_of_rows.nd rfl (.inl rfl)) rgs_nil)))) (fun _ _ _ _ _ => rts_nil) (fun _ _ _ _ _ => (ro_re (re_callC C_added gd hr takes0 (ra_cons (ro_name (i := 2) rfl (.inl rfl)) (ra_cons (ro_name (i := 3) rfl (.inl rfl)) ra_nil)))))))) ra_nil)))))
theorem ok_sum_of_rows {P : Program} {w : World} {K : PySem.W.Frag} {mg : Str → Option Value} {base : Heap} (T : Txt K mg) : CalD P w K mg base 5 "sum_of_rows" 2 f_sum_of_rows [] := by
  obtain ⟨fd, F⟩ := T.c.def_ 12 (d := d_sum_of_rows) rfl
  exact CalD.mk0 F (g_sum_of_rows T) (body_sum_of_rows T F) (fun _ _ _ _ _ _ us hl => match us, hl with | [_, _], _ => rfl)
theorem sc_times_row : FnScope ["number", "row", "one"] ["number", "row"] (defScope (top 23)) := ⟨rfl, rfl, rfl, by decide +kernel, rfl, by decide +kernel, by decide +kernel⟩
theorem body_times_row {P : Program} {w : World} {K : PySem.W.Frag} {mg : Str → Option Value} {base : Heap} (T : Txt K mg) {f : Addr} {fd : FuncData} (F : FunD K d_times_row.name d_times_row.qual d_times_row.params d_times_row.body d_times_row.scope (d_times_row.dvs K) (d_times_row.kws K) f fd) : FnG P w K mg base (L2.CX P w) 5 f fd ["number", "row"] (spD K 2 f_times_row) := by
  have C_multiplied := ok_multiplied (P := P) (w := w) (base := base) T
  refine def_okD (N := ["number", "row", "one"]) (ps := ["number", "row"]) F sc_times_row rfl fun cdv A outer s H E pa gd hr => ?_
  have tk := takes_of (X := dcx P w K mg base ["number", "row", "one"] d_times_row.qual d_times_row.scope f cdv A outer s H E) (E := E) rfl rfl rfl rfl
  have hp := passes_of (X := dcx P w K mg base ["number", "row", "one"] d_times_row.qual d_times_row.scope f cdv A outer s H E) rfl
  exact (rss_one (rs_ret (ro_re (re_callTy call_tuple_of on_tup rfl (g_tuple T) (by decide +kernel) (ra_cons (ro_re (re_rn (rn_lc (own := [("one", 2)]) (is := [2]) rfl sc_times_row.nd (ri_any (ro_name (i := 1) rfl (.inl rfl))) (blkOk_by rfl) (by decide) (fun _ _ _ _ _ => (rg_name (i := 2) sc_times_row.nd rfl (.inl rfl))) (fun _ _ _ _ _ => rts_nil) (fun _ _ _ _ _ => (ro_re (re_ifExp (rt_cmp (op_neD hr.units) o2_ne (ro_name (i := 2) rfl (.inl rfl)) (ro_re (re_tupK (g_NOUGHT T) (t_NOUGHT T) (r_NOUGHT))) (nomark _)) (re_callC C_multiplied gd hr takes0 (ra_cons (ro_name (i := 0) rfl (.inr (.inl rfl))) (ra_cons (ro_name (i := 2) rfl (.inl rfl)) ra_nil))) (re_tupK (g_NOUGHT T) (t_NOUGHT T) (r_NOUGHT)))))))) ra_nil)))))
theorem ok_times_row {P : Program} {w : World} {K : PySem.W.Frag} {mg : Str → Option Value} {base : Heap} (T : Txt K mg) : CalD P w K mg base 5 "times_row" 2 f_times_row [] := by
  obtain ⟨fd, F⟩ := T.c.def_ 13 (d := d_times_row) rfl
  exact CalD.mk0 F (g_times_row T) (body_times_row T F) (fun _ _ _ _ _ _ us hl => match us, hl with | [_, _], _ => rfl)
theorem sc_product_of : FnScope ["one", "other", "found", "left", "right"] ["one", "other"] (defScope (top 24)) := ⟨rfl, rfl, rfl, by decide +kernel, rfl, by decide +kernel, by decide +kernel⟩
theorem body_product_of {P : Program} {w : World} {K : PySem.W.Frag} {mg : Str → Option Value} {base : Heap} (T : Txt K mg) {f : Addr} {fd : FuncData} (F : FunD K d_product_of.name d_product_of.qual d_product_of.params d_product_of.body d_product_of.scope (d_product_of.dvs K) (d_product_of.kws K) f fd) : FnG P w K mg base (L2.CX P w) 5 f fd ["one", "other"] (spD K 2 f_product_of) := by
  have C_added := ok_added (P := P) (w := w) (base := base) T
  have C_multiplied := ok_multiplied (P := P) (w := w) (base := base) T
  refine def_okD (N := ["one", "other", "found", "left", "right"]) (ps := ["one", "other"]) F sc_product_of rfl fun cdv A outer s H E pa gd hr => ?_
  have tk := takes_of (X := dcx P w K mg base ["one", "other", "found", "left", "right"] d_product_of.qual d_product_of.scope f cdv A outer s H E) (E := E) rfl rfl rfl rfl
  have hp := passes_of (X := dcx P w K mg base ["one", "other", "found", "left", "right"] d_product_of.qual d_product_of.scope f cdv A outer s H E) rfl
  exact (rss_cons (rs_asg (re_tupK (g_NOUGHT T) (t_NOUGHT T) (r_NOUGHT)) (rg_name (i := 2) sc_product_of.nd rfl (.inl rfl)))
  (rss_cons (rs_for hp rfl (ri_zip rfl (g_zip T) (ra_cons (ro_name (i := 0) rfl (.inl rfl)) (ra_cons (ro_name (i := 1) rfl (.inl rfl)) ra_nil))) (rg_tup rfl (rgs_cons (rg_name (i := 3) sc_product_of.nd rfl (.inl rfl)) (rgs_cons (rg_name (i := 4) sc_product_of.nd rfl (.inl rfl)) rgs_nil)))
  (rss_one (rs_if (rt_rw (rw_and (rt_cmp (op_neD hr.units) o2_ne (ro_name (i := 3) rfl (.inl rfl)) (ro_re (re_tupK (g_NOUGHT T) (t_NOUGHT T) (r_NOUGHT))) (nomark _)) (rw_and1 (rt_cmp (op_neD hr.units) o2_ne (ro_name (i := 4) rfl (.inl rfl)) (ro_re (re_tupK (g_NOUGHT T) (t_NOUGHT T) (r_NOUGHT))) (nomark _)))))
  (rss_one (rs_asg (re_callC C_added gd hr tk (ra_cons (ro_name (i := 2) rfl (.inl rfl)) (ra_cons (ro_re (re_callC C_multiplied gd hr tk (ra_cons (ro_name (i := 3) rfl (.inl rfl)) (ra_cons (ro_name (i := 4) rfl (.inl rfl)) ra_nil)))) ra_nil))) (rg_name (i := 2) sc_product_of.nd rfl (.inl rfl))))
  rss_nil)))
  (rss_one (rs_ret (ro_name (i := 2) rfl (.inl rfl))))))
theorem ok_product_of {P : Program} {w : World} {K : PySem.W.Frag} {mg : Str → Option Value} {base : Heap} (T : Txt K mg) : CalD P w K mg base 5 "product_of" 2 f_product_of [] := by
  obtain ⟨fd, F⟩ := T.c.def_ 14 (d := d_product_of) rfl
  exact CalD.mk0 F (g_product_of T) (body_product_of T F) (fun _ _ _ _ _ _ us hl => match us, hl with | [_, _], _ => rfl)
theorem sc_require_row : FnScope ["width", "value"] ["width", "value"] (defScope (top 32)) := ⟨rfl, rfl, rfl, by decide +kernel, rfl, by decide +kernel, by decide +kernel⟩
theorem body_require_row {P : Program} {w : World} {K : PySem.W.Frag} {mg : Str → Option Value} {base : Heap} (T : Txt K mg) {f : Addr} {fd : FuncData} (F : FunD K d_require_row.name d_require_row.qual d_require_row.params d_require_row.body d_require_row.scope (d_require_row.dvs K) (d_require_row.kws K) f fd) : FnG P w K mg base (L2.CX P w) 5 f fd ["width", "value"] (spD K 2 f_require_row) := by
  have C_is_plain_row := ok_is_plain_row (P := P) (w := w) (base := base) T
  refine def_okD (N := ["width", "value"]) (ps := ["width", "value"]) F sc_require_row rfl fun cdv A outer s H E pa gd hr => ?_
  have tk := takes_of (X := dcx P w K mg base ["width", "value"] d_require_row.qual d_require_row.scope f cdv A outer s H E) (E := E) rfl rfl rfl rfl
  have hp := passes_of (X := dcx P w K mg base ["width", "value"] d_require_row.qual d_require_row.scope f cdv A outer s H E) rfl
  exact (rss_one (rs_if (rt_not (rt_val (re_callC C_is_plain_row gd hr tk (ra_cons (ro_name (i := 0) rfl (.inl rfl)) (ra_cons (ro_name (i := 1) rfl (.inl rfl)) ra_nil)))))
  (rss_one rs_bad)
  rss_nil))
theorem ok_require_row {P : Program} {w : World} {K : PySem.W.Frag} {mg : Str → Option Value} {base : Heap} (T : Txt K mg) : CalD P w K mg base 5 "require_row" 2 f_require_row [] := by
  obtain ⟨fd, F⟩ := T.c.def_ 20 (d := d_require_row) rfl
  exact CalD.mk0 F (g_require_row T) (body_require_row T F) (fun _ _ _ _ _ _ us hl => match us, hl with | [_, _], _ => rfl)
theorem sc_unit : FnScope ["width"] ["width"] (defScope (top 37)) := ⟨rfl, rfl, rfl, by decide +kernel, rfl, by decide +kernel, by decide +kernel⟩
theorem body_unit {P : Program} {w : World} {K : PySem.W.Frag} {mg : Str → Option Value} {base : Heap} (T : Txt K mg) {f : Addr} {fd : FuncData} (F : FunD K d_unit.name d_unit.qual d_unit.params d_unit.body d_unit.scope (d_unit.dvs K) (d_unit.kws K) f fd) : FnG P w K mg base (L2.CX P w) 5 f fd ["width"] (spD K 1 f_unit) := by
  have C_require_width := ok_require_width (P := P) (w := w) (base := base) T
  have C_unit_table := ok_unit_table (P := P) (w := w) (base := base) T
  refine def_okD (N := ["width"]) (ps := ["width"]) F sc_unit rfl fun cdv A outer s H E pa gd hr => ?_
  have tk := takes_of (X := dcx P w K mg base ["width"] d_unit.qual d_unit.scope f cdv A outer s H E) (E := E) rfl rfl rfl rfl
  have hp := passes_of (X := dcx P w K mg base ["width"] d_unit.qual d_unit.scope f cdv A outer s H E) rfl
  exact (rss_cons (rs_exp (re_callC C_require_width gd hr tk (ra_cons (ro_name (i := 0) rfl (.inl rfl)) ra_nil)))
  (rss_one (rs_ret (ro_re (re_callC C_unit_table gd hr tk (ra_cons (ro_name (i := 0) rfl (.inl rfl)) ra_nil))))))
theorem ok_unit {P : Program} {w : World} {K : PySem.W.Frag} {mg : Str → Option Value} {base : Heap} (T : Txt K mg) : CalD P w K mg base 5 "unit" 1 f_unit [] := by
  obtain ⟨fd, F⟩ := T.c.def_ 25 (d := d_unit) rfl
  exact CalD.mk0 F (g_unit T) (body_unit T F) (fun _ _ _ _ _ _ us hl => match us, hl with | [_], _ => rfl)
theorem sc_law_behind_one : FnScope ["one", "other", "width", "line", "column"] ["one", "other", "width"] (defScope (top 50)) := ⟨rfl, rfl, rfl, by decide +kernel, rfl, by decide +kernel, by decide +kernel⟩
theorem body_law_behind_one {P : Program} {w : World} {K : PySem.W.Frag} {mg : Str → Option Value} {base : Heap} (T : Txt K mg) {f : Addr} {fd : FuncData} (F : FunD K d_law_behind_one.name d_law_behind_one.qual d_law_behind_one.params d_law_behind_one.body d_law_behind_one.scope (d_law_behind_one.dvs K) (d_law_behind_one.kws K) f fd) : FnG P w K mg base (L2.CX P w) 5 f fd ["one", "other", "width"] (spD K 3 f_law_behind_one) := by
  have C_law_columns := ok_law_columns (P := P) (w := w) (base := base) T
  have C_law_dot := ok_law_dot (P := P) (w := w) (base := base) T
  refine def_okD (N := ["one", "other", "width", "line", "column"]) (ps := ["one", "other", "width"]) F sc_law_behind_one rfl fun cdv A outer s H E pa gd hr => ?_
  have tk := takes_of (X := dcx P w K mg base ["one", "other", "width", "line", "column"] d_law_behind_one.qual d_law_behind_one.scope f cdv A outer s H E) (E := E) rfl rfl rfl rfl
  have hp := passes_of (X := dcx P w K mg base ["one", "other", "width", "line", "column"] d_law_behind_one.qual d_law_behind_one.scope f cdv A outer s H E) rfl
  exact (rss_one (rs_ret (ro_re (re_callTy call_tuple_of on_tup rfl (g_tuple T) (by decide +kernel) (ra_cons (ro_re (re_rn (rn_lc (own := [("line", 3)]) (is := [3]) rfl sc_law_behind_one.nd (ri_any (ro_name (i := 0) rfl (.inl rfl))) (blkOk_by rfl) (by decide) (fun _ _ _ _ _ => (rg_name (i := 3) sc_law_behind_one.nd rfl (.inr rfl))) (fun _ _ _ _ _ => rts_nil) (fun _ _ _ _ _ => (ro_re (re_callTy call_tuple_of on_tup rfl (g_tuple T) (by decide +kernel) (ra_cons (ro_re (re_rn (rn_lc (own := [("column", 4)]) (is := [4]) rfl sc_law_behind_one.nd (ri_any (ro_re (re_callC C_law_columns gd hr takes0 (ra_cons (ro_name (i := 1) rfl (.inr (.inl rfl))) (ra_cons (ro_name (i := 2) rfl (.inr (.inl rfl))) ra_nil))))) (blkOk_by rfl) (by decide) (fun _ _ _ _ _ => (rg_name (i := 4) sc_law_behind_one.nd rfl (.inl rfl))) (fun _ _ _ _ _ => rts_nil) (fun _ _ _ _ _ => (ro_re (re_callC C_law_dot gd hr takes0 (ra_cons (ro_name (i := 3) rfl (.inr (.inl rfl))) (ra_cons (ro_name (i := 4) rfl (.inl rfl)) ra_nil)))))))) ra_nil))))))) ra_nil)))))
theorem ok_law_behind_one {P : Program} {w : World} {K : PySem.W.Frag} {mg : Str → Option Value} {base : Heap} (T : Txt K mg) : CalD P w K mg base 5 "_law_behind_one" 3 f_law_behind_one [] := by
  obtain ⟨fd, F⟩ := T.c.def_ 37 (d := d_law_behind_one) rfl
  exact CalD.mk0 F (g_law_behind_one T) (body_law_behind_one T F) (fun _ _ _ _ _ _ us hl => match us, hl with | [_, _, _], _ => rfl)
theorem sc_led_row : FnScope ["table", "row", "line"] ["table", "row"] (defScope (top 25)) := ⟨rfl, rfl, rfl, by decide +kernel, rfl, by decide +kernel, by decide +kernel⟩
theorem body_led_row {P : Program} {w : World} {K : PySem.W.Frag} {mg : Str → Option Value} {base : Heap} (T : Txt K mg) {f : Addr} {fd : FuncData} (F : FunD K d_led_row.name d_led_row.qual d_led_row.params d_led_row.body d_led_row.scope (d_led_row.dvs K) (d_led_row.kws K) f fd) : FnG P w K mg base (L2.CX P w) 6 f fd ["table", "row"] (spD K 2 f_led_row) := by
  have C_product_of := ok_product_of (P := P) (w := w) (base := base) T
  refine def_okD (N := ["table", "row", "line"]) (ps := ["table", "row"]) F sc_led_row rfl fun cdv A outer s H E pa gd hr => ?_
  have tk := takes_of (X := dcx P w K mg base ["table", "row", "line"] d_led_row.qual d_led_row.scope f cdv A outer s H E) (E := E) rfl rfl rfl rfl
  have hp := passes_of (X := dcx P w K mg base ["table", "row", "line"] d_led_row.qual d_led_row.scope f cdv A outer s H E) rfl
  exact (rss_one (rs_ret (ro_re (re_callTy call_tuple_of on_tup rfl (g_tuple T) (by decide +kernel) (ra_cons (ro_re (re_rn (rn_lc (own := [("line", 2)]) (is := [2]) rfl sc_led_row.nd (ri_any (ro_name (i := 0) rfl (.inl rfl))) (blkOk_by rfl) (by decide) (fun _ _ _ _ _ => (rg_name (i := 2) sc_led_row.nd rfl (.inl rfl))) (fun _ _ _ _ _ => rts_nil) (fun _ _ _ _ _ => (ro_re (re_callC C_product_of gd hr takes0 (ra_cons (ro_name (i := 1) rfl (.inr (.inl rfl))) (ra_cons (ro_name (i := 2) rfl (.inl rfl)) ra_nil)))))))) ra_nil)))))
theorem ok_led_row {P : Program} {w : World} {K : PySem.W.Frag} {mg : Str → Option Value} {base : Heap} (T : Txt K mg) : CalD P w K mg base 6 "led_row" 2 f_led_row [] := by
  obtain ⟨fd, F⟩ := T.c.def_ 15 (d := d_led_row) rfl
  exact CalD.mk0 F (g_led_row T) (body_led_row T F) (fun _ _ _ _ _ _ us hl => match us, hl with | [_, _], _ => rfl)
theorem sc_led_told : FnScope ["width", "table", "told", "found", "number", "line"] ["width", "table", "told"] (defScope (top 26)) := ⟨rfl, rfl, rfl, by decide +kernel, rfl, by decide +kernel, by decide +kernel⟩
theorem body_led_told {P : Program} {w : World} {K : PySem.W.Frag} {mg : Str → Option Value} {base : Heap} (T : Txt K mg) {f : Addr} {fd : FuncData} (F : FunD K d_led_told.name d_led_told.qual d_led_told.params d_led_told.body d_led_told.scope (d_led_told.dvs K) (d_led_told.kws K) f fd) : FnG P w K mg base (L2.CX P w) 6 f fd ["width", "table", "told"] (spD K 3 f_led_told) := by
  have C_rest_row := ok_rest_row (P := P) (w := w) (base := base) T
  have C_sum_of_rows := ok_sum_of_rows (P := P) (w := w) (base := base) T
  have C_times_row := ok_times_row (P := P) (w := w) (base := base) T
  refine def_okD (N := ["width", "table", "told", "found", "number", "line"]) (ps := ["width", "table", "told"]) F sc_led_told rfl fun cdv A outer s H E pa gd hr => ?_
  have tk := takes_of (X := dcx P w K mg base ["width", "table", "told", "found", "number", "line"] d_led_told.qual d_led_told.scope f cdv A outer s H E) (E := E) rfl rfl rfl rfl
  have hp := passes_of (X := dcx P w K mg base ["width", "table", "told", "found", "number", "line"] d_led_told.qual d_led_told.scope f cdv A outer s H E) rfl
  exact (rss_cons (rs_asg (re_callC C_rest_row gd hr tk (ra_cons (ro_name (i := 0) rfl (.inl rfl)) ra_nil)) (rg_name (i := 3) sc_led_told.nd rfl (.inl rfl)))
  (rss_cons (rs_for hp rfl (ri_zip rfl (g_zip T) (ra_cons (ro_name (i := 2) rfl (.inl rfl)) (ra_cons (ro_name (i := 1) rfl (.inl rfl)) ra_nil))) (rg_tup rfl (rgs_cons (rg_name (i := 4) sc_led_told.nd rfl (.inl rfl)) (rgs_cons (rg_name (i := 5) sc_led_told.nd rfl (.inl rfl)) rgs_nil)))
  (rss_one (rs_if (rt_cmp (op_neD hr.units) o2_ne (ro_name (i := 4) rfl (.inl rfl)) (ro_re (re_tupK (g_NOUGHT T) (t_NOUGHT T) (r_NOUGHT))) (nomark _))
  (rss_one (rs_asg (re_callC C_sum_of_rows gd hr tk (ra_cons (ro_name (i := 3) rfl (.inl rfl)) (ra_cons (ro_re (re_callC C_times_row gd hr tk (ra_cons (ro_name (i := 4) rfl (.inl rfl)) (ra_cons (ro_name (i := 5) rfl (.inl rfl)) ra_nil)))) ra_nil))) (rg_name (i := 3) sc_led_told.nd rfl (.inl rfl))))
  rss_nil)))
  (rss_one (rs_ret (ro_name (i := 3) rfl (.inl rfl))))))
theorem ok_led_told {P : Program} {w : World} {K : PySem.W.Frag} {mg : Str → Option Value} {base : Heap} (T : Txt K mg) : CalD P w K mg base 6 "led_told" 3 f_led_told [] := by
  obtain ⟨fd, F⟩ := T.c.def_ 16 (d := d_led_told) rfl
  exact CalD.mk0 F (g_led_told T) (body_led_told T F) (fun _ _ _ _ _ _ us hl => match us, hl with | [_, _, _], _ => rfl)
theorem sc_require_table : FnScope ["height", "width", "value"] ["height", "width", "value"] (defScope (top 33)) := ⟨rfl, rfl, rfl, by decide +kernel, rfl, by decide +kernel, by decide +kernel⟩
theorem body_require_table {P : Program} {w : World} {K : PySem.W.Frag} {mg : Str → Option Value} {base : Heap} (T : Txt K mg) {f : Addr} {fd : FuncData} (F : FunD K d_require_table.name d_require_table.qual d_require_table.params d_require_table.body d_require_table.scope (d_require_table.dvs K) (d_require_table.kws K) f fd) : FnG P w K mg base (L2.CX P w) 6 f fd ["height", "width", "value"] (spD K 3 f_require_table) := by
  have C_is_plain_table := ok_is_plain_table (P := P) (w := w) (base := base) T
  refine def_okD (N := ["height", "width", "value"]) (ps := ["height", "width", "value"]) F sc_require_table rfl fun cdv A outer s H E pa gd hr => ?_
  have tk := takes_of (X := dcx P w K mg base ["height", "width", "value"] d_require_table.qual d_require_table.scope f cdv A outer s H E) (E := E) rfl rfl rfl rfl
  have hp := passes_of (X := dcx P w K mg base ["height", "width", "value"] d_require_table.qual d_require_table.scope f cdv A outer s H E) rfl
  exact (rss_one (rs_if (rt_not (rt_val (re_callC C_is_plain_table gd hr tk (ra_cons (ro_name (i := 0) rfl (.inl rfl)) (ra_cons (ro_name (i := 1) rfl (.inl rfl)) (ra_cons (ro_name (i := 2) rfl (.inl rfl)) ra_nil))))))
  (rss_one rs_bad)
  rss_nil))
theorem ok_require_table {P : Program} {w : World} {K : PySem.W.Frag} {mg : Str → Option Value} {base : Heap} (T : Txt K mg) : CalD P w K mg base 6 "require_table" 3 f_require_table [] := by
  obtain ⟨fd, F⟩ := T.c.def_ 21 (d := d_require_table) rfl
  exact CalD.mk0 F (g_require_table T) (body_require_table T F) (fun _ _ _ _ _ _ us hl => match us, hl with | [_, _, _], _ => rfl)
theorem sc_table_behind : FnScope ["one", "other", "width", "line"] ["one", "other", "width"] (defScope (top 28)) := ⟨rfl, rfl, rfl, by decide +kernel, rfl, by decide +kernel, by decide +kernel⟩
theorem body_table_behind {P : Program} {w : World} {K : PySem.W.Frag} {mg : Str → Option Value} {base : Heap} (T : Txt K mg) {f : Addr} {fd : FuncData} (F : FunD K d_table_behind.name d_table_behind.qual d_table_behind.params d_table_behind.body d_table_behind.scope (d_table_behind.dvs K) (d_table_behind.kws K) f fd) : FnG P w K mg base (L2.CX P w) 7 f fd ["one", "other", "width"] (spD K 3 f_table_behind) := by
  have C_led_told := ok_led_told (P := P) (w := w) (base := base) T
  refine def_okD (N := ["one", "other", "width", "line"]) (ps := ["one", "other", "width"]) F sc_table_behind rfl fun cdv A outer s H E pa gd hr => ?_
  have tk := takes_of (X := dcx P w K mg base ["one", "other", "width", "line"] d_table_behind.qual d_table_behind.scope f cdv A outer s H E) (E := E) rfl rfl rfl rfl
  have hp := passes_of (X := dcx P w K mg base ["one", "other", "width", "line"] d_table_behind.qual d_table_behind.scope f cdv A outer s H E) rfl
  exact (rss_one (rs_ret (ro_re (re_callTy call_tuple_of on_tup rfl (g_tuple T) (by decide +kernel) (ra_cons (ro_re (re_rn (rn_lc (own := [("line", 3)]) (is := [3]) rfl sc_table_behind.nd (ri_any (ro_name (i := 0) rfl (.inl rfl))) (blkOk_by rfl) (by decide) (fun _ _ _ _ _ => (rg_name (i := 3) sc_table_behind.nd rfl (.inl rfl))) (fun _ _ _ _ _ => rts_nil) (fun _ _ _ _ _ => (ro_re (re_callC C_led_told gd hr takes0 (ra_cons (ro_name (i := 2) rfl (.inr (.inl rfl))) (ra_cons (ro_name (i := 1) rfl (.inr (.inl rfl))) (ra_cons (ro_name (i := 3) rfl (.inl rfl)) ra_nil))))))))) ra_nil)))))
theorem ok_table_behind {P : Program} {w : World} {K : PySem.W.Frag} {mg : Str → Option Value} {base : Heap} (T : Txt K mg) : CalD P w K mg base 7 "table_behind" 3 f_table_behind [] := by
  obtain ⟨fd, F⟩ := T.c.def_ 18 (d := d_table_behind) rfl
  exact CalD.mk0 F (g_table_behind T) (body_table_behind T F) (fun _ _ _ _ _ _ us hl => match us, hl with | [_, _, _], _ => rfl)
theorem sc_require_sized : FnScope ["height", "width", "table"] ["height", "width", "table"] (defScope (top 34)) := ⟨rfl, rfl, rfl, by decide +kernel, rfl, by decide +kernel, by decide +kernel⟩
theorem body_require_sized {P : Program} {w : World} {K : PySem.W.Frag} {mg : Str → Option Value} {base : Heap} (T : Txt K mg) {f : Addr} {fd : FuncData} (F : FunD K d_require_sized.name d_require_sized.qual d_require_sized.params d_require_sized.body d_require_sized.scope (d_require_sized.dvs K) (d_require_sized.kws K) f fd) : FnG P w K mg base (L2.CX P w) 7 f fd ["height", "width", "table"] (spD K 3 f_require_sized) := by
  have C_require_table := ok_require_table (P := P) (w := w) (base := base) T
  have C_require_width := ok_require_width (P := P) (w := w) (base := base) T
  refine def_okD (N := ["height", "width", "table"]) (ps := ["height", "width", "table"]) F sc_require_sized rfl fun cdv A outer s H E pa gd hr => ?_
  have tk := takes_of (X := dcx P w K mg base ["height", "width", "table"] d_require_sized.qual d_require_sized.scope f cdv A outer s H E) (E := E) rfl rfl rfl rfl
  have hp := passes_of (X := dcx P w K mg base ["height", "width", "table"] d_require_sized.qual d_require_sized.scope f cdv A outer s H E) rfl
  exact (rss_cons (rs_exp (re_callC C_require_width gd hr tk (ra_cons (ro_name (i := 0) rfl (.inl rfl)) ra_nil)))
  (rss_cons (rs_exp (re_callC C_require_width gd hr tk (ra_cons (ro_name (i := 1) rfl (.inl rfl)) ra_nil)))
  (rss_one (rs_exp (re_callC C_require_table gd hr tk (ra_cons (ro_name (i := 0) rfl (.inl rfl)) (ra_cons (ro_name (i := 1) rfl (.inl rfl)) (ra_cons (ro_name (i := 2) rfl (.inl rfl)) ra_nil))))))))
theorem ok_require_sized {P : Program} {w : World} {K : PySem.W.Frag} {mg : Str → Option Value} {base : Heap} (T : Txt K mg) : CalD P w K mg base 7 "require_sized" 3 f_require_sized [] := by
  obtain ⟨fd, F⟩ := T.c.def_ 22 (d := d_require_sized) rfl
  exact CalD.mk0 F (g_require_sized T) (body_require_sized T F) (fun _ _ _ _ _ _ us hl => match us, hl with | [_, _, _], _ => rfl)
theorem sc_led : FnScope ["height", "width", "table", "row"] ["height", "width", "table", "row"] (defScope (top 35)) := ⟨rfl, rfl, rfl, by decide +kernel, rfl, by decide +kernel, by decide +kernel⟩
theorem body_led {P : Program} {w : World} {K : PySem.W.Frag} {mg : Str → Option Value} {base : Heap} (T : Txt K mg) {f : Addr} {fd : FuncData} (F : FunD K d_led.name d_led.qual d_led.params d_led.body d_led.scope (d_led.dvs K) (d_led.kws K) f fd) : FnG P w K mg base (L2.CX P w) 8 f fd ["height", "width", "table", "row"] (spD K 4 f_led) := by
  have C_led_row := ok_led_row (P := P) (w := w) (base := base) T
  have C_require_row := ok_require_row (P := P) (w := w) (base := base) T
  have C_require_sized := ok_require_sized (P := P) (w := w) (base := base) T
  refine def_okD (N := ["height", "width", "table", "row"]) (ps := ["height", "width", "table", "row"]) F sc_led rfl fun cdv A outer s H E pa gd hr => ?_
  have tk := takes_of (X := dcx P w K mg base ["height", "width", "table", "row"] d_led.qual d_led.scope f cdv A outer s H E) (E := E) rfl rfl rfl rfl
  have hp := passes_of (X := dcx P w K mg base ["height", "width", "table", "row"] d_led.qual d_led.scope f cdv A outer s H E) rfl
  exact (rss_cons (rs_exp (re_callC C_require_sized gd hr tk (ra_cons (ro_name (i := 0) rfl (.inl rfl)) (ra_cons (ro_name (i := 1) rfl (.inl rfl)) (ra_cons (ro_name (i := 2) rfl (.inl rfl)) ra_nil)))))
  (rss_cons (rs_exp (re_callC C_require_row gd hr tk (ra_cons (ro_name (i := 1) rfl (.inl rfl)) (ra_cons (ro_name (i := 3) rfl (.inl rfl)) ra_nil))))
  (rss_one (rs_ret (ro_re (re_callC C_led_row gd hr tk (ra_cons (ro_name (i := 2) rfl (.inl rfl)) (ra_cons (ro_name (i := 3) rfl (.inl rfl)) ra_nil))))))))
theorem ok_led {P : Program} {w : World} {K : PySem.W.Frag} {mg : Str → Option Value} {base : Heap} (T : Txt K mg) : CalD P w K mg base 8 "led" 4 f_led [] := by
  obtain ⟨fd, F⟩ := T.c.def_ 23 (d := d_led) rfl
  exact CalD.mk0 F (g_led T) (body_led T F) (fun _ _ _ _ _ _ us hl => match us, hl with | [_, _, _, _], _ => rfl)
theorem sc_columns : FnScope ["height", "width", "table"] ["height", "width", "table"] (defScope (top 36)) := ⟨rfl, rfl, rfl, by decide +kernel, rfl, by decide +kernel, by decide +kernel⟩
theorem body_columns {P : Program} {w : World} {K : PySem.W.Frag} {mg : Str → Option Value} {base : Heap} (T : Txt K mg) {f : Addr} {fd : FuncData} (F : FunD K d_columns.name d_columns.qual d_columns.params d_columns.body d_columns.scope (d_columns.dvs K) (d_columns.kws K) f fd) : FnG P w K mg base (L2.CX P w) 8 f fd ["height", "width", "table"] (spD K 3 f_columns) := by
  have C_columns_of := ok_columns_of (P := P) (w := w) (base := base) T
  have C_require_sized := ok_require_sized (P := P) (w := w) (base := base) T
  refine def_okD (N := ["height", "width", "table"]) (ps := ["height", "width", "table"]) F sc_columns rfl fun cdv A outer s H E pa gd hr => ?_
  have tk := takes_of (X := dcx P w K mg base ["height", "width", "table"] d_columns.qual d_columns.scope f cdv A outer s H E) (E := E) rfl rfl rfl rfl
  have hp := passes_of (X := dcx P w K mg base ["height", "width", "table"] d_columns.qual d_columns.scope f cdv A outer s H E) rfl
  exact (rss_cons (rs_exp (re_callC C_require_sized gd hr tk (ra_cons (ro_name (i := 0) rfl (.inl rfl)) (ra_cons (ro_name (i := 1) rfl (.inl rfl)) (ra_cons (ro_name (i := 2) rfl (.inl rfl)) ra_nil)))))
  (rss_one (rs_ret (ro_re (re_callC C_columns_of gd hr tk (ra_cons (ro_name (i := 2) rfl (.inl rfl)) (ra_cons (ro_name (i := 1) rfl (.inl rfl)) ra_nil)))))))
theorem ok_columns {P : Program} {w : World} {K : PySem.W.Frag} {mg : Str → Option Value} {base : Heap} (T : Txt K mg) : CalD P w K mg base 8 "columns" 3 f_columns [] := by
  obtain ⟨fd, F⟩ := T.c.def_ 24 (d := d_columns) rfl
  exact CalD.mk0 F (g_columns T) (body_columns T F) (fun _ _ _ _ _ _ us hl => match us, hl with | [_, _, _], _ => rfl)
theorem sc_table_plus : FnScope ["height", "width", "one", "other", "left", "right"] ["height", "width", "one", "other"] (defScope (top 38)) := ⟨rfl, rfl, rfl, by decide +kernel, rfl, by decide +kernel, by decide +kernel⟩
theorem body_table_plus {P : Program} {w : World} {K : PySem.W.Frag} {mg : Str → Option Value} {base : Heap} (T : Txt K mg) {f : Addr} {fd : FuncData} (F : FunD K d_table_plus.name d_table_plus.qual d_table_plus.params d_table_plus.body d_table_plus.scope (d_table_plus.dvs K) (d_table_plus.kws K) f fd) : FnG P w K mg base (L2.CX P w) 8 f fd ["height", "width", "one", "other"] (spD K 4 f_table_plus) := by
  have C_require_sized := ok_require_sized (P := P) (w := w) (base := base) T
  have C_require_table := ok_require_table (P := P) (w := w) (base := base) T
  have C_sum_of_rows := ok_sum_of_rows (P := P) (w := w) (base := base) T
  refine def_okD (N := ["height", "width", "one", "other", "left", "right"]) (ps := ["height", "width", "one", "other"]) F sc_table_plus rfl fun cdv A outer s H E pa gd hr => ?_
  have tk := takes_of (X := dcx P w K mg base ["height", "width", "one", "other", "left", "right"] d_table_plus.qual d_table_plus.scope f cdv A outer s H E) (E := E) rfl rfl rfl rfl
  have hp := passes_of (X := dcx P w K mg base ["height", "width", "one", "other", "left", "right"] d_table_plus.qual d_table_plus.scope f cdv A outer s H E) rfl
  exact (rss_cons (rs_exp (re_callC C_require_sized gd hr tk (ra_cons (ro_name (i := 0) rfl (.inl rfl)) (ra_cons (ro_name (i := 1) rfl (.inl rfl)) (ra_cons (ro_name (i := 2) rfl (.inl rfl)) ra_nil)))))
  (rss_cons (rs_exp (re_callC C_require_table gd hr tk (ra_cons (ro_name (i := 0) rfl (.inl rfl)) (ra_cons (ro_name (i := 1) rfl (.inl rfl)) (ra_cons (ro_name (i := 3) rfl (.inl rfl)) ra_nil)))))
  (rss_one (rs_ret (ro_re (re_callTy call_tuple_of on_tup rfl (g_tuple T) (by decide +kernel) (ra_cons (ro_re (re_rn (rn_lc (own := [("left", 4), ("right", 5)]) (is := [4, 5]) rfl sc_table_plus.nd (ri_zip rfl (g_zip T) (ra_cons (ro_name (i := 2) rfl (.inl rfl)) (ra_cons (ro_name (i := 3) rfl (.inl rfl)) ra_nil))) (blkOk_by rfl) (by decide) (fun _ _ _ _ _ => (rg_tup rfl (rgs_cons (rg_name (i := 4) sc_table_plus.nd rfl (.inl rfl)) (rgs_cons (rg_name (i := 5) sc_table_plus.nd rfl (.inl rfl)) rgs_nil)))) (fun _ _ _ _ _ => rts_nil) (fun _ _ _ _ _ => (ro_re (re_callC C_sum_of_rows gd hr takes0 (ra_cons (ro_name (i := 4) rfl (.inl rfl)) (ra_cons (ro_name (i := 5) rfl (.inl rfl)) ra_nil)))))))) ra_nil)))))))
theorem ok_table_plus {P : Program} {w : World} {K : PySem.W.Frag} {mg : Str → Option Value} {base : Heap} (T : Txt K mg) : CalD P w K mg base 8 "table_plus" 4 f_table_plus [] := by
  obtain ⟨fd, F⟩ := T.c.def_ 26 (d := d_table_plus) rfl
  exact CalD.mk0 F (g_table_plus T) (body_table_plus T F) (fun _ _ _ _ _ _ us hl => match us, hl with | [_, _, _, _], _ => rfl)
theorem sc_table_times : FnScope ["height", "middle", "width", "one", "other"] ["height", "middle", "width", "one", "other"] (defScope (top 39)) := ⟨rfl, rfl, rfl, by decide +kernel, rfl, by decide +kernel, by decide +kernel⟩
theorem body_table_times {P : Program} {w : World} {K : PySem.W.Frag} {mg : Str → Option Value} {base : Heap} (T : Txt K mg) {f : Addr} {fd : FuncData} (F : FunD K d_table_times.name d_table_times.qual d_table_times.params d_table_times.body d_table_times.scope (d_table_times.dvs K) (d_table_times.kws K) f fd) : FnG P w K mg base (L2.CX P w) 8 f fd ["height", "middle", "width", "one", "other"] (spD K 5 f_table_times) := by
  have C_require_table := ok_require_table (P := P) (w := w) (base := base) T
  have C_require_width := ok_require_width (P := P) (w := w) (base := base) T
  have C_table_behind := ok_table_behind (P := P) (w := w) (base := base) T
  refine def_okD (N := ["height", "middle", "width", "one", "other"]) (ps := ["height", "middle", "width", "one", "other"]) F sc_table_times rfl fun cdv A outer s H E pa gd hr => ?_
  have tk := takes_of (X := dcx P w K mg base ["height", "middle", "width", "one", "other"] d_table_times.qual d_table_times.scope f cdv A outer s H E) (E := E) rfl rfl rfl rfl
  have hp := passes_of (X := dcx P w K mg base ["height", "middle", "width", "one", "other"] d_table_times.qual d_table_times.scope f cdv A outer s H E) rfl
  exact (rss_cons (rs_exp (re_callC C_require_width gd hr tk (ra_cons (ro_name (i := 0) rfl (.inl rfl)) ra_nil)))
  (rss_cons (rs_exp (re_callC C_require_width gd hr tk (ra_cons (ro_name (i := 1) rfl (.inl rfl)) ra_nil)))
  (rss_cons (rs_exp (re_callC C_require_width gd hr tk (ra_cons (ro_name (i := 2) rfl (.inl rfl)) ra_nil)))
  (rss_cons (rs_exp (re_callC C_require_table gd hr tk (ra_cons (ro_name (i := 0) rfl (.inl rfl)) (ra_cons (ro_name (i := 1) rfl (.inl rfl)) (ra_cons (ro_name (i := 3) rfl (.inl rfl)) ra_nil)))))
  (rss_cons (rs_exp (re_callC C_require_table gd hr tk (ra_cons (ro_name (i := 1) rfl (.inl rfl)) (ra_cons (ro_name (i := 2) rfl (.inl rfl)) (ra_cons (ro_name (i := 4) rfl (.inl rfl)) ra_nil)))))
  (rss_one (rs_ret (ro_re (re_callC C_table_behind gd hr tk (ra_cons (ro_name (i := 3) rfl (.inl rfl)) (ra_cons (ro_name (i := 4) rfl (.inl rfl)) (ra_cons (ro_name (i := 2) rfl (.inl rfl)) ra_nil))))))))))))
theorem ok_table_times {P : Program} {w : World} {K : PySem.W.Frag} {mg : Str → Option Value} {base : Heap} (T : Txt K mg) : CalD P w K mg base 8 "table_times" 5 f_table_times [] := by
  obtain ⟨fd, F⟩ := T.c.def_ 27 (d := d_table_times) rfl
  exact CalD.mk0 F (g_table_times T) (body_table_times T F) (fun _ _ _ _ _ _ us hl => match us, hl with | [_, _, _, _, _], _ => rfl)
theorem sc_law_right : FnScope ["dice", "left", "more", "due", "first", "middle", "last", "width", "one", "other", "third", "both", "row", "line", "beside", "turn", "spot", "right", "at"] ["dice"] (defScope (top 51)) := ⟨rfl, rfl, rfl, by decide +kernel, rfl, by decide +kernel, by decide +kernel⟩
theorem body_law_right {P : Program} {w : World} {K : PySem.W.Frag} {mg : Str → Option Value} {base : Heap} (T : Txt K mg) {f : Addr} {fd : FuncData} (F : FunD K d_law_right.name d_law_right.qual d_law_right.params d_law_right.body d_law_right.scope (d_law_right.dvs K) (d_law_right.kws K) f fd) : FnG P w K mg base (L2.CX P w) 9 f fd ["dice"] (spM K 1 f_law_right) := by
  have C_columns := ok_columns (P := P) (w := w) (base := base) T
  have C_law_behind_one := ok_law_behind_one (P := P) (w := w) (base := base) T
  have C_law_plus := ok_law_plus (P := P) (w := w) (base := base) T
  have C_law_roll := ok_law_roll (P := P) (w := w) (base := base) T
  have C_law_table := ok_law_table (P := P) (w := w) (base := base) T
  have C_led := ok_led (P := P) (w := w) (base := base) T
  have C_table_plus := ok_table_plus (P := P) (w := w) (base := base) T
  have C_table_times := ok_table_times (P := P) (w := w) (base := base) T
  have C_unit := ok_unit (P := P) (w := w) (base := base) T
  refine def_okM (N := ["dice", "left", "more", "due", "first", "middle", "last", "width", "one", "other", "third", "both", "row", "line", "beside", "turn", "spot", "right", "at"]) (ps := ["dice"]) F sc_law_right rfl fun cdv A outer s H E pa gd hr => ?_
  have tk := takes_of (X := dcx P w K mg base ["dice", "left", "more", "due", "first", "middle", "last", "width", "one", "other", "third", "both", "row", "line", "beside", "turn", "spot", "right", "at"] d_law_right.qual d_law_right.scope f cdv A outer s H E) (E := E) rfl rfl rfl rfl
  have hp := passes_of (X := dcx P w K mg base ["dice", "left", "more", "due", "first", "middle", "last", "width", "one", "other", "third", "both", "row", "line", "beside", "turn", "spot", "right", "at"] d_law_right.qual d_law_right.scope f cdv A outer s H E) rfl
  exact (rss_cons (rs_asg (re_rn (rn_lc (own := [("turn", 15)]) (is := [15]) rfl sc_law_right.nd (ri_rng1 rfl (g_range T) (ra_cons (ro_re re_int) ra_nil)) (blkOk_by rfl) (by decide) (fun _ _ _ _ _ => (rg_name (i := 15) sc_law_right.nd rfl (.inl rfl))) (fun _ _ _ _ _ => rts_nil) (fun _ _ _ _ _ => (ro_re (re_callMC C_law_roll gd hr takes0 (ra_cons (ro_name (i := 0) rfl (.inr (.inl rfl))) (ra_cons (ro_re re_int) ra_nil))))))) (rg_tup rfl (rgs_cons (rg_name (i := 4) sc_law_right.nd rfl (.inl rfl)) (rgs_cons (rg_name (i := 5) sc_law_right.nd rfl (.inl rfl)) (rgs_cons (rg_name (i := 6) sc_law_right.nd rfl (.inl rfl)) (rgs_cons (rg_name (i := 7) sc_law_right.nd rfl (.inr rfl)) rgs_nil))))))
  (rss_cons (rs_par3 (i := 8) (j := 9) (l := 10) rfl sc_law_right.nd rfl rfl rfl (by decide) (by decide) (by decide) rfl rfl rfl (ra_cons (ro_re (re_callMC C_law_table gd hr tk (ra_cons (ro_name (i := 0) rfl (.inr (.inl rfl))) (ra_cons (ro_name (i := 4) rfl (.inl rfl)) (ra_cons (ro_name (i := 5) rfl (.inl rfl)) ra_nil))))) (ra_cons (ro_re (re_callMC C_law_table gd hr tk (ra_cons (ro_name (i := 0) rfl (.inr (.inl rfl))) (ra_cons (ro_name (i := 5) rfl (.inl rfl)) (ra_cons (ro_name (i := 6) rfl (.inl rfl)) ra_nil))))) (ra_cons (ro_re (re_callMC C_law_table gd hr tk (ra_cons (ro_name (i := 0) rfl (.inr (.inl rfl))) (ra_cons (ro_name (i := 6) rfl (.inl rfl)) (ra_cons (ro_name (i := 7) rfl (.inr (.inl rfl))) ra_nil))))) ra_nil))) rfl)
  (rss_cons (rs_par (i := 11) (j := 12) rfl sc_law_right.nd rfl rfl (by decide) rfl rfl (ra_cons (ro_re (re_callC C_table_times gd hr tk (ra_cons (ro_name (i := 4) rfl (.inl rfl)) (ra_cons (ro_name (i := 5) rfl (.inl rfl)) (ra_cons (ro_name (i := 6) rfl (.inl rfl)) (ra_cons (ro_name (i := 8) rfl (.inl rfl)) (ra_cons (ro_name (i := 9) rfl (.inl rfl)) ra_nil))))))) (ra_cons (ro_re (re_ix ix_X o2_ix (ro_re (re_callMC C_law_table gd hr tk (ra_cons (ro_name (i := 0) rfl (.inr (.inl rfl))) (ra_cons (ro_re re_int) (ra_cons (ro_name (i := 6) rfl (.inl rfl)) ra_nil))))) (ro_re re_int) fun _ _ => rfl)) ra_nil)) rfl)
  (rss_cons (rs_if (rt_cmp (op_neD hr.units) o2_ne (ro_re (re_callB (call_reprX gd (Mir.Room.u200 hr)) on_repr rfl (g_repr T) (by decide +kernel) (ra_cons (ro_name (i := 11) rfl (.inl rfl)) ra_nil))) (ro_re (re_callB (call_reprX gd (Mir.Room.u200 hr)) on_repr rfl (g_repr T) (by decide +kernel) (ra_cons (ro_re (re_callC C_law_behind_one gd hr tk (ra_cons (ro_name (i := 8) rfl (.inl rfl)) (ra_cons (ro_name (i := 9) rfl (.inl rfl)) (ra_cons (ro_name (i := 6) rfl (.inl rfl)) ra_nil))))) ra_nil))) (nomark _))
  (rss_one (rs_ret (ro_re re_bl)))
  rss_nil)
  (rss_cons (rs_if (rt_cmp (op_neD hr.units) o2_ne (ro_re (re_callC C_led gd hr tk (ra_cons (ro_name (i := 4) rfl (.inl rfl)) (ra_cons (ro_name (i := 6) rfl (.inl rfl)) (ra_cons (ro_name (i := 11) rfl (.inl rfl)) (ra_cons (ro_name (i := 12) rfl (.inl rfl)) ra_nil)))))) (ro_re (re_callC C_led gd hr tk (ra_cons (ro_name (i := 4) rfl (.inl rfl)) (ra_cons (ro_name (i := 5) rfl (.inl rfl)) (ra_cons (ro_name (i := 8) rfl (.inl rfl)) (ra_cons (ro_re (re_callC C_led gd hr tk (ra_cons (ro_name (i := 5) rfl (.inl rfl)) (ra_cons (ro_name (i := 6) rfl (.inl rfl)) (ra_cons (ro_name (i := 9) rfl (.inl rfl)) (ra_cons (ro_name (i := 12) rfl (.inl rfl)) ra_nil)))))) ra_nil)))))) (nomark _))
  (rss_one (rs_ret (ro_re re_bl)))
  rss_nil)
  (rss_cons (rs_asg (re_callC C_table_times gd hr tk (ra_cons (ro_name (i := 4) rfl (.inl rfl)) (ra_cons (ro_name (i := 6) rfl (.inl rfl)) (ra_cons (ro_name (i := 7) rfl (.inr (.inl rfl))) (ra_cons (ro_name (i := 11) rfl (.inl rfl)) (ra_cons (ro_name (i := 10) rfl (.inl rfl)) ra_nil)))))) (rg_name (i := 1) sc_law_right.nd rfl (.inl rfl)))
  (rss_cons (rs_if (rt_cmp (op_neD hr.units) o2_ne (ro_name (i := 1) rfl (.inl rfl)) (ro_re (re_callC C_table_times gd hr tk (ra_cons (ro_name (i := 4) rfl (.inl rfl)) (ra_cons (ro_name (i := 5) rfl (.inl rfl)) (ra_cons (ro_name (i := 7) rfl (.inr (.inl rfl))) (ra_cons (ro_name (i := 8) rfl (.inl rfl)) (ra_cons (ro_re (re_callC C_table_times gd hr tk (ra_cons (ro_name (i := 5) rfl (.inl rfl)) (ra_cons (ro_name (i := 6) rfl (.inl rfl)) (ra_cons (ro_name (i := 7) rfl (.inr (.inl rfl))) (ra_cons (ro_name (i := 9) rfl (.inl rfl)) (ra_cons (ro_name (i := 10) rfl (.inl rfl)) ra_nil))))))) ra_nil))))))) (nomark _))
  (rss_one (rs_ret (ro_re re_bl)))
  rss_nil)
  (rss_cons (rs_if (rt_cmp (op_neD hr.units) o2_ne (ro_re (re_callC C_table_times gd hr tk (ra_cons (ro_name (i := 4) rfl (.inl rfl)) (ra_cons (ro_name (i := 4) rfl (.inl rfl)) (ra_cons (ro_name (i := 5) rfl (.inl rfl)) (ra_cons (ro_re (re_callC C_unit gd hr tk (ra_cons (ro_name (i := 4) rfl (.inl rfl)) ra_nil))) (ra_cons (ro_name (i := 8) rfl (.inl rfl)) ra_nil))))))) (ro_name (i := 8) rfl (.inl rfl)) (nomark _))
  (rss_one (rs_ret (ro_re re_bl)))
  rss_nil)
  (rss_cons (rs_if (rt_cmp (op_neD hr.units) o2_ne (ro_re (re_callC C_table_times gd hr tk (ra_cons (ro_name (i := 4) rfl (.inl rfl)) (ra_cons (ro_name (i := 5) rfl (.inl rfl)) (ra_cons (ro_name (i := 5) rfl (.inl rfl)) (ra_cons (ro_name (i := 8) rfl (.inl rfl)) (ra_cons (ro_re (re_callC C_unit gd hr tk (ra_cons (ro_name (i := 5) rfl (.inl rfl)) ra_nil))) ra_nil))))))) (ro_name (i := 8) rfl (.inl rfl)) (nomark _))
  (rss_one (rs_ret (ro_re re_bl)))
  rss_nil)
  (rss_cons (rs_asg (re_callMC C_law_table gd hr tk (ra_cons (ro_name (i := 0) rfl (.inr (.inl rfl))) (ra_cons (ro_name (i := 4) rfl (.inl rfl)) (ra_cons (ro_name (i := 5) rfl (.inl rfl)) ra_nil)))) (rg_name (i := 2) sc_law_right.nd rfl (.inl rfl)))
  (rss_cons (rs_new (i := 3) sc_law_right.nd rfl (.inl rfl) (rn_lst ra_nil))
  (rss_cons (rs_for hp rfl (ri_zip rfl (g_zip T) (ra_cons (ro_name (i := 8) rfl (.inl rfl)) (ra_cons (ro_name (i := 2) rfl (.inl rfl)) ra_nil))) (rg_tup rfl (rgs_cons (rg_name (i := 13) sc_law_right.nd rfl (.inl rfl)) (rgs_cons (rg_name (i := 14) sc_law_right.nd rfl (.inl rfl)) rgs_nil)))
  (rss_one (rs_app (i := 3) rfl (.inl rfl) (ro_re (re_callTy call_tuple_of on_tup rfl (g_tuple T) (by decide +kernel) (ra_cons (ro_re (re_rn (rn_lc (own := [("left", 1), ("right", 17)]) (is := [1, 17]) rfl sc_law_right.nd (ri_zip rfl (g_zip T) (ra_cons (ro_name (i := 13) rfl (.inl rfl)) (ra_cons (ro_name (i := 14) rfl (.inl rfl)) ra_nil))) (blkOk_by rfl) (by decide) (fun _ _ _ _ _ => (rg_tup rfl (rgs_cons (rg_name (i := 1) sc_law_right.nd rfl (.inl rfl)) (rgs_cons (rg_name (i := 17) sc_law_right.nd rfl (.inl rfl)) rgs_nil)))) (fun _ _ _ _ _ => rts_nil) (fun _ _ _ _ _ => (ro_re (re_callC C_law_plus gd hr takes0 (ra_cons (ro_name (i := 1) rfl (.inl rfl)) (ra_cons (ro_name (i := 17) rfl (.inl rfl)) ra_nil)))))))) ra_nil))))))
  (rss_cons (rs_if (rt_cmp (op_neD hr.units) o2_ne (ro_re (re_callB (call_reprX gd (Mir.Room.u200 hr)) on_repr rfl (g_repr T) (by decide +kernel) (ra_cons (ro_re (re_callC C_table_plus gd hr tk (ra_cons (ro_name (i := 4) rfl (.inl rfl)) (ra_cons (ro_name (i := 5) rfl (.inl rfl)) (ra_cons (ro_name (i := 8) rfl (.inl rfl)) (ra_cons (ro_name (i := 2) rfl (.inl rfl)) ra_nil)))))) ra_nil))) (ro_re (re_callB (call_reprX gd (Mir.Room.u200 hr)) on_repr rfl (g_repr T) (by decide +kernel) (ra_cons (ro_re (re_callTy call_tuple_of on_tup rfl (g_tuple T) (by decide +kernel) (ra_cons (ro_name (i := 3) rfl (.inl rfl)) ra_nil))) ra_nil))) (nomark _))
  (rss_one (rs_ret (ro_re re_bl)))
  rss_nil)
  (rss_cons (rs_if (rt_rw (rw_and (rt_cmp (op_neD hr.units) o2_ne (ro_re (re_callC C_columns gd hr tk (ra_cons (ro_name (i := 5) rfl (.inl rfl)) (ra_cons (ro_name (i := 4) rfl (.inl rfl)) (ra_cons (ro_re (re_callC C_columns gd hr tk (ra_cons (ro_name (i := 4) rfl (.inl rfl)) (ra_cons (ro_name (i := 5) rfl (.inl rfl)) (ra_cons (ro_name (i := 8) rfl (.inl rfl)) ra_nil))))) ra_nil))))) (ro_name (i := 8) rfl (.inl rfl)) (nomark _)) (rw_and1 (rt_cmp op_gt o2_gt (ro_name (i := 5) rfl (.inl rfl)) (ro_re re_int) (nomark _)))))
  (rss_one (rs_ret (ro_re re_bl)))
  rss_nil)
  (rss_one (rs_ret (ro_re (re_cmp (op_eqD hr.units) o2_eq (ro_re (re_callC C_unit gd hr tk (ra_cons (ro_name (i := 7) rfl (.inr (.inl rfl))) ra_nil))) (ro_re (re_callTy call_tuple_of on_tup rfl (g_tuple T) (by decide +kernel) (ra_cons (ro_re (re_rn (rn_lc (own := [("spot", 16)]) (is := [16]) rfl sc_law_right.nd (ri_rng1 rfl (g_range T) (ra_cons (ro_name (i := 7) rfl (.inr (.inl rfl))) ra_nil)) (blkOk_by rfl) (by decide) (fun _ _ _ _ _ => (rg_name (i := 16) sc_law_right.nd rfl (.inr rfl))) (fun _ _ _ _ _ => rts_nil) (fun _ _ _ _ _ => (ro_re (re_callTy call_tuple_of on_tup rfl (g_tuple T) (by decide +kernel) (ra_cons (ro_re (re_rn (rn_lc (own := [("at", 18)]) (is := [18]) rfl sc_law_right.nd (ri_rng1 rfl (g_range T) (ra_cons (ro_name (i := 7) rfl (.inr (.inl rfl))) ra_nil)) (blkOk_by rfl) (by decide) (fun _ _ _ _ _ => (rg_name (i := 18) sc_law_right.nd rfl (.inl rfl))) (fun _ _ _ _ _ => rts_nil) (fun _ _ _ _ _ => (ro_re (re_tup (ra_cons (ro_re (re_callTy call_int1 on_int rfl (g_int T) (by decide +kernel) (ra_cons (ro_re (re_cmp (op_eqD hr.units) o2_eq (ro_name (i := 18) rfl (.inl rfl)) (ro_name (i := 16) rfl (.inr (.inl rfl))) (nomark _))) ra_nil))) (ra_cons (ro_re re_int) ra_nil)))))))) ra_nil))))))) ra_nil))) (nomark _)))))))))))))))))))
theorem ok_law_right {P : Program} {w : World} {K : PySem.W.Frag} {mg : Str → Option Value} {base : Heap} (T : Txt K mg) : CalM P w K mg base 9 "_law_right" 1 f_law_right [] := by
  obtain ⟨fd, F⟩ := T.c.def_ 38 (d := d_law_right) rfl
  exact CalM.mk0 F (g_law_right T) (body_law_right T F) (fun _ _ _ _ _ _ us hl => match us, hl with | [_], _ => rfl)
theorem sc_law : FnScope ["script", "spot", "told", "dice", "turn"] ["script"] (defScope (top 52)) := ⟨rfl, rfl, rfl, by decide +kernel, rfl, by decide +kernel, by decide +kernel⟩
theorem body_law {P : Program} {w : World} {K : PySem.W.Frag} {mg : Str → Option Value} {base : Heap} (T : Txt K mg) {f : Addr} {fd : FuncData} (F : FunD K d_law.name d_law.qual d_law.params d_law.body d_law.scope (d_law.dvs K) (d_law.kws K) f fd) : FnG P w K mg base (L2.CX P w) 10 f fd ["script"] (spD K 1 f_law) := by
  have C_law_dice := ok_law_dice (P := P) (w := w) (base := base) T
  have C_law_right := ok_law_right (P := P) (w := w) (base := base) T
  have C_table_times := ok_table_times (P := P) (w := w) (base := base) T
  have C_unit := ok_unit (P := P) (w := w) (base := base) T
  refine def_okD (N := ["script", "spot", "told", "dice", "turn"]) (ps := ["script"]) F sc_law rfl fun cdv A outer s H E pa gd hr => ?_
  have tk := takes_of (X := dcx P w K mg base ["script", "spot", "told", "dice", "turn"] d_law.qual d_law.scope f cdv A outer s H E) (E := E) rfl rfl rfl rfl
  have hp := passes_of (X := dcx P w K mg base ["script", "spot", "told", "dice", "turn"] d_law.qual d_law.scope f cdv A outer s H E) rfl
  exact (rss_cons (rs_for hp rfl (ri_rng1 rfl (g_range T) (ra_cons (ro_re (re_callB (call_max2 rfl) on_max rfl (g_max T) (by decide +kernel) (ra_cons (ro_re re_int) (ra_cons (ro_re (re_callB (call_min2 rfl) on_min rfl (g_min T) (by decide +kernel) (ra_cons (ro_re re_int) (ra_cons (ro_re (re_callB call_len on_len rfl (g_len T) (by decide +kernel) (ra_cons (ro_name (i := 0) rfl (.inl rfl)) ra_nil))) ra_nil)))) ra_nil)))) ra_nil)) (rg_name (i := 1) sc_law.nd rfl (.inl rfl))
  (rss_cons (rs_new (i := 3) sc_law.nd rfl (.inl rfl) (rn_callC C_law_dice gd hr tk (ra_cons (ro_name (i := 0) rfl (.inl rfl)) (ra_cons (ro_name (i := 1) rfl (.inl rfl)) ra_nil))))
  (rss_one (rs_for hp rfl (ri_rng1 rfl (g_range T) (ra_cons (ro_re re_int) ra_nil)) (rg_name (i := 4) sc_law.nd rfl (.inl rfl))
  (rss_one (rs_if (rt_not (rt_val (re_callMC C_law_right gd hr tk (ra_cons (ro_name (i := 3) rfl (.inl rfl)) ra_nil))))
  (rss_one (rs_ret (ro_re re_bl)))
  rss_nil))))))
  (rss_cons (rs_new (i := 2) sc_law.nd rfl (.inl rfl) (rn_lst (ra_cons (ro_re (re_callC C_unit gd hr tk (ra_cons (ro_re re_int) ra_nil))) (ra_cons (ro_re (re_callC C_table_times gd hr tk (ra_cons (ro_re re_int) (ra_cons (ro_re re_int) (ra_cons (ro_re re_int) (ra_cons (ro_re (re_tup (ra_cons (ro_re (re_tup ra_nil)) (ra_cons (ro_re (re_tup ra_nil)) ra_nil)))) (ra_cons (ro_re (re_tup ra_nil)) ra_nil))))))) (ra_cons (ro_re (re_callC C_table_times gd hr tk (ra_cons (ro_re re_int) (ra_cons (ro_re re_int) (ra_cons (ro_re re_int) (ra_cons (ro_re (re_tup ra_nil)) (ra_cons (ro_re (re_bin op_mulX o2_mul (ro_re (re_tup (ra_cons (ro_re (re_tup (ra_cons (ro_re (re_tup (ra_cons (ro_re re_int) (ra_cons (ro_re re_int) ra_nil)))) (ra_cons (ro_re (re_tup (ra_cons (ro_re re_int) (ra_cons (ro_re re_int) ra_nil)))) ra_nil)))) ra_nil))) (ro_re re_int))) ra_nil))))))) ra_nil)))))
  (rss_cons (rs_app (i := 2) rfl (.inl rfl) (ro_re (re_callB call_len on_len rfl (g_len T) (by decide +kernel) (ra_cons (ro_re (re_callC C_unit gd hr tk (ra_cons (ro_re re_int) ra_nil))) ra_nil))))
  (rss_one (rs_ret (ro_re (re_cmp (op_eqD hr.units) o2_eq (ro_re (re_callB (call_reprX gd (Mir.Room.u200 hr)) on_repr rfl (g_repr T) (by decide +kernel) (ra_cons (ro_name (i := 2) rfl (.inl rfl)) ra_nil))) (ro_re (re_callB (call_reprX gd (Mir.Room.u200 hr)) on_repr rfl (g_repr T) (by decide +kernel) (ra_cons (ro_re (re_rn (rn_lst (ra_cons (ro_re (re_tup ra_nil)) (ra_cons (ro_re (re_tup (ra_cons (ro_re (re_tup (ra_cons (ro_re (re_tup (ra_cons (ro_re re_int) (ra_cons (ro_re re_int) ra_nil)))) ra_nil))) (ra_cons (ro_re (re_tup (ra_cons (ro_re (re_tup (ra_cons (ro_re re_int) (ra_cons (ro_re re_int) ra_nil)))) ra_nil))) ra_nil)))) (ra_cons (ro_re (re_tup ra_nil)) (ra_cons (ro_re re_int) ra_nil))))))) ra_nil))) (nomark _))))))))
theorem ok_law {P : Program} {w : World} {K : PySem.W.Frag} {mg : Str → Option Value} {base : Heap} (T : Txt K mg) : CalD P w K mg base 10 "law" 1 f_law [] := by
  obtain ⟨fd, F⟩ := T.c.def_ 39 (d := d_law) rfl
  exact CalD.mk0 F (g_law T) (body_law T F) (fun _ _ _ _ _ _ us hl => match us, hl with | [_], _ => rfl)
end MLaw

set_option maxHeartbeats 0
namespace MLaw
open PySem L2 Mir
abbrev R : PySem.W.OpenRow := PySem.W.OpenLaw.row PySem.Challenge.rw_keepersapart_k24_whole_tables_led_one_be
abbrev hk : PySem.W.Hook := He.hookX 4 fa fn [] [] ex
def ob (s : PySem.W.SharedT) : He.AlX := He.obsX 4 fa fn [] [] ex (HandSHeadRun.getT s)
theorem ob_eq (s : PySem.W.SharedT) : ob s = hk.obs s.abs := He.obsX_eq (HandSHeadRun.getT_eq s)
def loose : List PySem.Str := (["WorksError", "InvalidRow", "InvalidTable", "InvalidCount", "NOUGHT", "ONE", "MAX_COUNT", "is_integer", "common_divisor", "is_number", "reduced", "require_count"] : List PySem.Str) ++ (["added", "multiplied", "is_plain_row", "is_plain_table", "rest_row", "unit_row", "unit_table", "sum_of_rows", "times_row", "product_of", "led_row", "led_told"] : List PySem.Str) ++ (["columns_of", "table_behind", "MAX_WIDTH", "require_width", "require_row", "require_table", "require_sized", "led", "columns", "unit", "table_plus", "table_times"] : List PySem.Str) ++ (["_law_dice", "_law_roll", "_law_pick", "_law_fr", "_law_plus", "_law_times", "_law_dot", "_law_columns", "_law_table", "_law_behind_one", "_law_right"] : List PySem.Str)
theorem run (w : World) : HandSHeadRun.RunEq R (PySem.W.view R.prog [52]) hk ob 6000 loose w := by
  intro os
  kernel_rfl
end MLaw

set_option maxHeartbeats 4000000
namespace MLaw
open PySem L2 Mir
/-- nothing leaves the law's own def -/
theorem no_exc {P : Program} {w : World} {K : PySem.W.Frag} {mg : Str → Option Value} {base : Heap} {k : Nat} {f : Addr} {fd : FuncData} {ps : List Str} {F : List D → Fd} (h : FnG P w K mg base (L2.CX P w) k f fd ps (spD K 1 F)) :
    FnG P w K mg base L2.CX0 k f fd ps (fun vs H Q E => spD K 1 F vs H Q (fun _ _ _ => False)) :=
  ⟨fun vs H Q E z => h.len vs H Q _ z, fun A outer s H args us vs Q E gd hr e b v z => codeAny_mono (h.run A outer s H args us vs Q (fun _ _ _ => False) gd hr e b v z) fun r s' q => by
    cases r with
    | error x =>
      obtain ⟨_, _, _, _, _, _, _, _, _, _, _, _, z⟩ := q
      exact z.elim
    | ok fl =>
      cases fl with
      | ret u => exact q
      | next => exact q
      | brk => exact q
      | cont => exact q⟩
theorem facts {P : Program} {w : World} {K : PySem.W.Frag} {mg : Str → Option Value} {f : Addr} (T : Txt K mg) (hfa : mg ("law" : Str) = some (.ref f)) :
    ∃ fd : FuncData, (∀ (s : Shared) (v : Value), BindsTo s fd ⟨[v], []⟩ [("script", v)]) ∧ ∀ base : Heap, FnG P w K mg base L2.CX0 10 f fd ["script"] (fun vs H Q E => spD K 1 f_law vs H Q (fun _ _ _ => False)) := by
  obtain ⟨fd, F⟩ := T.c.def_ 39 (d := d_law) rfl
  have e := hfa.symm.trans (g_law T)
  cases e
  have b := FunD.bindsA (ps := ["script"]) F fun _ _ _ _ _ _ us hl => match us, hl with | [_], _ => rfl
  exact ⟨fd, fun s v => b s [v] rfl, fun base => no_exc (body_law T F)⟩
end MLaw

set_option maxHeartbeats 4000000
set_option exponentiation.threshold 20000
namespace MLaw
open PySem L2 Mir
/-! numbers -/
def numD (r : Rat) : D := .tup [.int r.num, .int (r.den : Int)]
/-- both numbers of r lie below 2 ^ k -/
def Sz (k : Nat) (r : Rat) : Prop := r.num.natAbs < 2 ^ k ∧ r.den < 2 ^ k
theorem numD_eq (r : Rat) : numD r = .tup [.int r.num, .int (r.den : Int)] := rfl
theorem numD_inj {a b : Rat} (h : numD a = numD b) : a = b := by
  have h' : D.tup [.int a.num, .int (a.den : Int)] = .tup [.int b.num, .int (b.den : Int)] := h
  injection h' with h'
  injection h' with h1 h2
  injection h2 with h2 _
  injection h1 with h1
  injection h2 with h2
  exact Rat.ext h1 (by omega)
theorem den_pos (r : Rat) : 0 < r.den := Nat.pos_of_ne_zero r.den_nz
theorem two_pos (k : Nat) : 0 < 2 ^ k := Nat.two_pow_pos k
theorem Sz.mono {k l : Nat} {r : Rat} (h : Sz k r) (hl : k ≤ l) : Sz l r := ⟨Nat.lt_of_lt_of_le h.1 (Nat.pow_le_pow_right (by omega) hl), Nat.lt_of_lt_of_le h.2 (Nat.pow_le_pow_right (by omega) hl)⟩
theorem sz_divInt {t b : Int} {k : Nat} (ht : t.natAbs < 2 ^ k) (hb : b.natAbs < 2 ^ k) (h0 : b ≠ 0) : Sz k (Rat.divInt t b) := by
  constructor
  · rw [Rat.num_divInt]
    refine Nat.lt_of_le_of_lt ?_ ht
    rw [Int.natAbs_ediv_of_dvd ?_]
    · rw [Int.natAbs_mul, Int.natAbs_sign_of_ne_zero h0, Nat.one_mul]
      exact Nat.div_le_self _ _
    · exact Int.dvd_mul_of_dvd_right (Int.gcd_dvd_right ..)
  · rw [Rat.den_divInt, if_neg h0]
    exact Nat.lt_of_le_of_lt (Nat.div_le_self _ _) hb
theorem mul_lt {a b k l : Nat} (ha : a < 2 ^ k) (hb : b < 2 ^ l) : a * b < 2 ^ (k + l) := by
  rw [Nat.pow_add]
  exact Nat.mul_lt_mul'' ha hb
theorem add_divInt (a b : Rat) : a + b = Rat.divInt (a.num * b.den + b.num * a.den) (a.den * b.den) := by
  conv => lhs; rw [← Rat.num_divInt_den a, ← Rat.num_divInt_den b]
  rw [Rat.divInt_add_divInt _ _ (by have := a.den_nz; omega) (by have := b.den_nz; omega)]
theorem mul_divInt (a b : Rat) : a * b = Rat.divInt (a.num * b.num) (a.den * b.den) := by
  conv => lhs; rw [← Rat.num_divInt_den a, ← Rat.num_divInt_den b]
  rw [Rat.divInt_mul_divInt]
theorem sz_addt {a b : Rat} {k l : Nat} (ha : Sz k a) (hb : Sz l b) : (a.num * b.den + b.num * a.den).natAbs < 2 ^ (k + l + 1) := by
  have h1 : (a.num * (b.den : Int)).natAbs < 2 ^ (k + l) := by rw [Int.natAbs_mul]; exact mul_lt ha.1 hb.2
  have h2 : (b.num * (a.den : Int)).natAbs < 2 ^ (k + l) := by rw [Int.natAbs_mul, Nat.add_comm k l]; exact mul_lt hb.1 ha.2
  rw [Nat.pow_succ]
  omega
theorem sz_den {a b : Rat} {k l : Nat} (ha : Sz k a) (hb : Sz l b) : ((a.den : Int) * (b.den : Int)).natAbs < 2 ^ (k + l) := by
  rw [Int.natAbs_mul]; exact mul_lt ha.2 hb.2
theorem den_ne (a b : Rat) : (a.den : Int) * (b.den : Int) ≠ 0 := Int.mul_ne_zero (by have := a.den_nz; omega) (by have := b.den_nz; omega)
theorem Sz.add {a b : Rat} {k l : Nat} (ha : Sz k a) (hb : Sz l b) : Sz (k + l + 1) (a + b) := by
  rw [add_divInt]
  exact sz_divInt (sz_addt ha hb) (Nat.lt_of_lt_of_le (sz_den ha hb) (Nat.pow_le_pow_right (by omega) (by omega))) (den_ne a b)
theorem Sz.mul {a b : Rat} {k l : Nat} (ha : Sz k a) (hb : Sz l b) : Sz (k + l) (a * b) := by
  rw [mul_divInt]
  exact sz_divInt (by rw [Int.natAbs_mul]; exact mul_lt ha.1 hb.1) (sz_den ha hb) (den_ne a b)
theorem Sz.neg {a : Rat} {k : Nat} (ha : Sz k a) : Sz k (-a) := ⟨by rw [Rat.neg_num]; simpa using ha.1, by rw [Rat.neg_den]; exact ha.2⟩
theorem Sz.inv {a : Rat} {k : Nat} (ha : Sz k a) (h : a ≠ 0) : Sz k a⁻¹ := by
  have : a.num ≠ 0 := fun z => h (Rat.num_eq_zero.mp z)
  rw [Rat.inv_def]
  exact sz_divInt (by simpa using ha.2) ha.1 this
theorem Sz.zero : Sz 1 0 := ⟨by decide, by decide⟩
theorem Sz.one : Sz 1 1 := ⟨by decide, by decide⟩
theorem Sz.sub {a b : Rat} {k l : Nat} (ha : Sz k a) (hb : Sz l b) : Sz (k + l + 1) (a - b) := by
  rw [Rat.sub_eq_add_neg]; exact ha.add hb.neg
theorem Sz.div {a b : Rat} {k l : Nat} (ha : Sz k a) (hb : Sz l b) (h : b ≠ 0) : Sz (k + l) (a / b) := by
  rw [Rat.div_def]; exact ha.mul (hb.inv h)
/-- the two halves of divInt, as a division by the greatest common divisor makes them -/
theorem divInt_pos {t b : Int} (h : 0 < b) : (Rat.divInt t b).num = t / (Int.gcd t b : Nat) ∧ ((Rat.divInt t b).den : Int) = b / (Int.gcd t b : Nat) := by
  have h0 : b ≠ 0 := by omega
  constructor
  · rw [Rat.num_divInt, Int.sign_eq_one_of_pos h, Int.one_mul, Int.gcd_comm]
  · rw [Rat.den_divInt, if_neg h0, Int.gcd_comm]
    rw [Int.natCast_ediv, Int.natAbs_of_nonneg (by omega)]
theorem gcd_lt {t b : Int} {k : Nat} (h : b ≠ 0) (hb : b.natAbs < 2 ^ k) : ((Int.gcd t b : Nat) : Int).natAbs < 2 ^ k := by
  refine Nat.lt_of_le_of_lt ?_ hb
  show (Int.gcd t b) ≤ _
  exact Nat.gcd_le_right _ (by omega)
theorem gcd_ne {t b : Int} (h : b ≠ 0) : ((Int.gcd t b : Nat) : Int) ≠ 0 := by
  have : 0 < Int.gcd t b := Int.gcd_pos_of_ne_zero_right _ h
  omega

theorem is_integer_int (i : Int) : f_is_integer [.int i] = .ok (.bl true) := rfl
theorem gcd_step {x y : Nat} (h : 0 < y) : Nat.gcd y (x % y) = Nat.gcd x y := by
  rw [Nat.gcd_comm, ← Nat.gcd_rec, Nat.gcd_comm]
theorem fmod_nat (x y : Nat) : Int.fmod (x : Int) (y : Int) = ((x % y : Nat) : Int) := by
  rw [Int.fmod_eq_emod_of_nonneg _ (by omega)]; rfl
theorem abs_nat (a : Int) : (if a < 0 then -a else a) = (a.natAbs : Int) := by split <;> omega
theorem s_common_divisor (a b : Int) : f_common_divisor [.int a, .int b] = .ok (.int (Int.gcd a b : Nat)) := by
  refine f_of ?_
  simp only [b_common_divisor, ↓O_ret, ↓O_bad, ↓O_bnd, ↓O_opt, ↓O_if, ↓O_ite, ↓O_eN, ↓O_e1, ↓O_e2, ↓U_ap1, ↓U_ap2, ↓U_f1, ↓U_f2, ↓U_opt, ↓O_eD, ↓O_eV, ↓O_vl, ↓O_tB, ↓O_asB, ↓O_notM, ↓O_ofB, ↓O_andM, ↓O_orM, ↓O_args0, ↓O_args1, ↓U_apL, ↓U_tup, ↓U_lst, ↓U_call, ↓U_callN, ↓U_callM, ↓U_callMN, ↓U_itM, ↓U_rev, ↓O_noex, ↓S_seq, ↓S_nil, ↓S_pass, ↓S_brk, ↓S_cnt, ↓S_bad, ↓S_nx, ↓S_rt, ↓S_asg, ↓S_if, ↓S_exp, ↓S_retN, ↓S_ret, ↓S_retW, ↓S_new, ↓S_par, ↓S_par3, ↓S_for, gt, res, resL, vls, anyO, setV, setO, setMo, Sl.mo, Mo.dat, tName, Mir.tTup, Mir.tNil, Mir.tCons, tupN, tupD, lenN, lenD, absN, absD, intN, intD, maxN, maxD, minN, minD, negD, addD, subD, ltD, leD, gtD, geD, modD, ixD, isND, notND, at0, at1, at2, eq_int, ne_int, eq_bl, isi_tup, isi_int, isi_bl, isT_tt, isT_ii, isT_ib, allN, allD, anyN, anyD, itD, lstE, ↓reduceIte, Nat.reduceLT, Nat.reduceAdd, Nat.reduceLeDiff, Nat.zero_add, List.map, List.cons_append, List.nil_append, List.replicate, List.append_nil, List.length_cons, List.length_nil, Option.map_some, Option.map_none, Option.bind_some, List.set_cons_zero, List.set_cons_succ, Bool.false_and, Bool.true_and, Bool.and_false, Bool.and_true, Bool.not_true, Bool.not_false, if_true, if_false, Bool.false_eq_true, decide_true, decide_false, abs_nat]
  refine S_while (fun n g => ∃ x y : Nat, g = [.va (.int x), .va (.int y)] ∧ n = y ∧ Nat.gcd x y = Int.gcd a b) (n := b.natAbs) ⟨_, _, rfl, rfl, rfl⟩ ?_
  rintro n g ⟨x, y, rfl, rfl, h⟩
  simp only [↓O_ret, ↓O_bad, ↓O_bnd, ↓O_opt, ↓O_if, ↓O_ite, ↓O_eN, ↓O_e1, ↓O_e2, ↓U_ap1, ↓U_ap2, ↓U_f1, ↓U_f2, ↓U_opt, ↓O_eD, ↓O_eV, ↓O_vl, ↓O_tB, ↓O_asB, ↓O_notM, ↓O_ofB, ↓O_andM, ↓O_orM, ↓O_args0, ↓O_args1, ↓U_apL, ↓U_tup, ↓U_lst, ↓U_call, ↓U_callN, ↓U_callM, ↓U_callMN, ↓U_itM, ↓U_rev, ↓O_noex, ↓S_seq, ↓S_nil, ↓S_pass, ↓S_brk, ↓S_cnt, ↓S_bad, ↓S_nx, ↓S_rt, ↓S_asg, ↓S_if, ↓S_exp, ↓S_retN, ↓S_ret, ↓S_retW, ↓S_new, ↓S_par, ↓S_par3, ↓S_for, gt, res, resL, vls, anyO, setV, setO, setMo, Sl.mo, Mo.dat, tName, Mir.tTup, Mir.tNil, Mir.tCons, tupN, tupD, lenN, lenD, absN, absD, intN, intD, maxN, maxD, minN, minD, negD, addD, subD, ltD, leD, gtD, geD, modD, ixD, isND, notND, at0, at1, at2, eq_int, ne_int, eq_bl, isi_tup, isi_int, isi_bl, isT_tt, isT_ii, isT_ib, allN, allD, anyN, anyD, itD, lstE, ↓reduceIte, Nat.reduceLT, Nat.reduceAdd, Nat.reduceLeDiff, Nat.zero_add, List.map, List.cons_append, List.nil_append, List.replicate, List.append_nil, List.length_cons, List.length_nil, Option.map_some, Option.map_none, Option.bind_some, List.set_cons_zero, List.set_cons_succ, Bool.false_and, Bool.true_and, Bool.and_false, Bool.and_true, Bool.not_true, Bool.not_false, if_true, if_false, Bool.false_eq_true, decide_true, decide_false]
  by_cases hy : 0 < n
  · have h1 : (0 : Int) < (n : Int) := by omega
    have h2 : ¬ (n : Int) = 0 := by omega
    simp only [↓O_ret, ↓O_bad, ↓O_bnd, ↓O_opt, ↓O_if, ↓O_ite, ↓O_eN, ↓O_e1, ↓O_e2, ↓U_ap1, ↓U_ap2, ↓U_f1, ↓U_f2, ↓U_opt, ↓O_eD, ↓O_eV, ↓O_vl, ↓O_tB, ↓O_asB, ↓O_notM, ↓O_ofB, ↓O_andM, ↓O_orM, ↓O_args0, ↓O_args1, ↓U_apL, ↓U_tup, ↓U_lst, ↓U_call, ↓U_callN, ↓U_callM, ↓U_callMN, ↓U_itM, ↓U_rev, ↓O_noex, ↓S_seq, ↓S_nil, ↓S_pass, ↓S_brk, ↓S_cnt, ↓S_bad, ↓S_nx, ↓S_rt, ↓S_asg, ↓S_if, ↓S_exp, ↓S_retN, ↓S_ret, ↓S_retW, ↓S_new, ↓S_par, ↓S_par3, ↓S_for, gt, res, resL, vls, anyO, setV, setO, setMo, Sl.mo, Mo.dat, tName, Mir.tTup, Mir.tNil, Mir.tCons, tupN, tupD, lenN, lenD, absN, absD, intN, intD, maxN, maxD, minN, minD, negD, addD, subD, ltD, leD, gtD, geD, modD, ixD, isND, notND, at0, at1, at2, eq_int, ne_int, eq_bl, isi_tup, isi_int, isi_bl, isT_tt, isT_ii, isT_ib, allN, allD, anyN, anyD, itD, lstE, ↓reduceIte, Nat.reduceLT, Nat.reduceAdd, Nat.reduceLeDiff, Nat.zero_add, List.map, List.cons_append, List.nil_append, List.replicate, List.append_nil, List.length_cons, List.length_nil, Option.map_some, Option.map_none, Option.bind_some, List.set_cons_zero, List.set_cons_succ, Bool.false_and, Bool.true_and, Bool.and_false, Bool.and_true, Bool.not_true, Bool.not_false, if_true, if_false, Bool.false_eq_true, decide_true, decide_false, h1, h2, fmod_nat]
    exact ⟨x % n, Nat.mod_lt _ hy, _, _, rfl, rfl, by rw [gcd_step hy, h]⟩
  · have h1 : n = 0 := by omega
    subst h1
    simp only [↓O_ret, ↓O_bad, ↓O_bnd, ↓O_opt, ↓O_if, ↓O_ite, ↓O_eN, ↓O_e1, ↓O_e2, ↓U_ap1, ↓U_ap2, ↓U_f1, ↓U_f2, ↓U_opt, ↓O_eD, ↓O_eV, ↓O_vl, ↓O_tB, ↓O_asB, ↓O_notM, ↓O_ofB, ↓O_andM, ↓O_orM, ↓O_args0, ↓O_args1, ↓U_apL, ↓U_tup, ↓U_lst, ↓U_call, ↓U_callN, ↓U_callM, ↓U_callMN, ↓U_itM, ↓U_rev, ↓O_noex, ↓S_seq, ↓S_nil, ↓S_pass, ↓S_brk, ↓S_cnt, ↓S_bad, ↓S_nx, ↓S_rt, ↓S_asg, ↓S_if, ↓S_exp, ↓S_retN, ↓S_ret, ↓S_retW, ↓S_new, ↓S_par, ↓S_par3, ↓S_for, gt, res, resL, vls, anyO, setV, setO, setMo, Sl.mo, Mo.dat, tName, Mir.tTup, Mir.tNil, Mir.tCons, tupN, tupD, lenN, lenD, absN, absD, intN, intD, maxN, maxD, minN, minD, negD, addD, subD, ltD, leD, gtD, geD, modD, ixD, isND, notND, at0, at1, at2, eq_int, ne_int, eq_bl, isi_tup, isi_int, isi_bl, isT_tt, isT_ii, isT_ib, allN, allD, anyN, anyD, itD, lstE, ↓reduceIte, Nat.reduceLT, Nat.reduceAdd, Nat.reduceLeDiff, Nat.zero_add, List.map, List.cons_append, List.nil_append, List.replicate, List.append_nil, List.length_cons, List.length_nil, Option.map_some, Option.map_none, Option.bind_some, List.set_cons_zero, List.set_cons_succ, Bool.false_and, Bool.true_and, Bool.and_false, Bool.and_true, Bool.not_true, Bool.not_false, if_true, if_false, Bool.false_eq_true, decide_true, decide_false, Int.lt_irrefl, Int.natCast_zero]
    rw [Nat.gcd_zero_right] at h
    rw [h]
theorem fdvD_gcd {x t b : Int} (h : b ≠ 0) (hb : b.natAbs < 2 ^ 9000) : fdvD (.int x) (.int (Int.gcd t b : Nat)) = some (.int (x / (Int.gcd t b : Nat))) := by
  have e : fdvD (.int x) (.int (Int.gcd t b : Nat)) = if divOk x (Int.gcd t b : Nat) = true then some (.int (Int.fdiv x (Int.gcd t b : Nat))) else none := rfl
  rw [e, divOk_of (gcd_ne h) (gcd_lt h hb), if_pos rfl, Int.fdiv_eq_ediv_of_nonneg _ (by omega)]
theorem s_reduced (t b : Int) (h : b ≠ 0) (hb : b.natAbs < 2 ^ 9000) : f_reduced [.int t, .int b] = .ok (numD (Rat.divInt t b)) := by
  refine f_of ?_
  simp only [b_reduced, ↓O_ret, ↓O_bad, ↓O_bnd, ↓O_opt, ↓O_if, ↓O_ite, ↓O_eN, ↓O_e1, ↓O_e2, ↓U_ap1, ↓U_ap2, ↓U_f1, ↓U_f2, ↓U_opt, ↓O_eD, ↓O_eV, ↓O_vl, ↓O_tB, ↓O_asB, ↓O_notM, ↓O_ofB, ↓O_andM, ↓O_orM, ↓O_args0, ↓O_args1, ↓U_apL, ↓U_tup, ↓U_lst, ↓U_call, ↓U_callN, ↓U_callM, ↓U_callMN, ↓U_itM, ↓U_rev, ↓O_noex, ↓S_seq, ↓S_nil, ↓S_pass, ↓S_brk, ↓S_cnt, ↓S_bad, ↓S_nx, ↓S_rt, ↓S_asg, ↓S_if, ↓S_exp, ↓S_retN, ↓S_ret, ↓S_retW, ↓S_new, ↓S_par, ↓S_par3, ↓S_for, gt, res, resL, vls, anyO, setV, setO, setMo, Sl.mo, Mo.dat, tName, Mir.tTup, Mir.tNil, Mir.tCons, tupN, tupD, lenN, lenD, absN, absD, intN, intD, maxN, maxD, minN, minD, negD, addD, subD, ltD, leD, gtD, geD, modD, ixD, isND, notND, at0, at1, at2, eq_int, ne_int, eq_bl, isi_tup, isi_int, isi_bl, isT_tt, isT_ii, isT_ib, allN, allD, anyN, anyD, itD, lstE, ↓reduceIte, Nat.reduceLT, Nat.reduceAdd, Nat.reduceLeDiff, Nat.zero_add, List.map, List.cons_append, List.nil_append, List.replicate, List.append_nil, List.length_cons, List.length_nil, Option.map_some, Option.map_none, Option.bind_some, List.set_cons_zero, List.set_cons_succ, Bool.false_and, Bool.true_and, Bool.and_false, Bool.and_true, Bool.not_true, Bool.not_false, if_true, if_false, Bool.false_eq_true, decide_true, decide_false]
  by_cases hn : b < 0
  · have h1 : (0 : Int) - b ≠ 0 := by omega
    have h2 : ((0 : Int) - b).natAbs < 2 ^ 9000 := by omega
    have e : Rat.divInt t b = Rat.divInt (0 - t) (0 - b) := by
      rw [Int.zero_sub, Int.zero_sub, Rat.neg_divInt_neg]
    obtain ⟨e1, e2⟩ := divInt_pos (t := 0 - t) (b := 0 - b) (by omega)
    simp only [↓O_ret, ↓O_bad, ↓O_bnd, ↓O_opt, ↓O_if, ↓O_ite, ↓O_eN, ↓O_e1, ↓O_e2, ↓U_ap1, ↓U_ap2, ↓U_f1, ↓U_f2, ↓U_opt, ↓O_eD, ↓O_eV, ↓O_vl, ↓O_tB, ↓O_asB, ↓O_notM, ↓O_ofB, ↓O_andM, ↓O_orM, ↓O_args0, ↓O_args1, ↓U_apL, ↓U_tup, ↓U_lst, ↓U_call, ↓U_callN, ↓U_callM, ↓U_callMN, ↓U_itM, ↓U_rev, ↓O_noex, ↓S_seq, ↓S_nil, ↓S_pass, ↓S_brk, ↓S_cnt, ↓S_bad, ↓S_nx, ↓S_rt, ↓S_asg, ↓S_if, ↓S_exp, ↓S_retN, ↓S_ret, ↓S_retW, ↓S_new, ↓S_par, ↓S_par3, ↓S_for, gt, res, resL, vls, anyO, setV, setO, setMo, Sl.mo, Mo.dat, tName, Mir.tTup, Mir.tNil, Mir.tCons, tupN, tupD, lenN, lenD, absN, absD, intN, intD, maxN, maxD, minN, minD, negD, addD, subD, ltD, leD, gtD, geD, modD, ixD, isND, notND, at0, at1, at2, eq_int, ne_int, eq_bl, isi_tup, isi_int, isi_bl, isT_tt, isT_ii, isT_ib, allN, allD, anyN, anyD, itD, lstE, ↓reduceIte, Nat.reduceLT, Nat.reduceAdd, Nat.reduceLeDiff, Nat.zero_add, List.map, List.cons_append, List.nil_append, List.replicate, List.append_nil, List.length_cons, List.length_nil, Option.map_some, Option.map_none, Option.bind_some, List.set_cons_zero, List.set_cons_succ, Bool.false_and, Bool.true_and, Bool.and_false, Bool.and_true, Bool.not_true, Bool.not_false, if_true, if_false, Bool.false_eq_true, decide_true, decide_false, hn, s_common_divisor, fdvD_gcd h1 h2, Nat.le_refl]
    rw [e, numD_eq, e1, e2]
  · obtain ⟨e1, e2⟩ := divInt_pos (t := t) (b := b) (by omega)
    simp only [↓O_ret, ↓O_bad, ↓O_bnd, ↓O_opt, ↓O_if, ↓O_ite, ↓O_eN, ↓O_e1, ↓O_e2, ↓U_ap1, ↓U_ap2, ↓U_f1, ↓U_f2, ↓U_opt, ↓O_eD, ↓O_eV, ↓O_vl, ↓O_tB, ↓O_asB, ↓O_notM, ↓O_ofB, ↓O_andM, ↓O_orM, ↓O_args0, ↓O_args1, ↓U_apL, ↓U_tup, ↓U_lst, ↓U_call, ↓U_callN, ↓U_callM, ↓U_callMN, ↓U_itM, ↓U_rev, ↓O_noex, ↓S_seq, ↓S_nil, ↓S_pass, ↓S_brk, ↓S_cnt, ↓S_bad, ↓S_nx, ↓S_rt, ↓S_asg, ↓S_if, ↓S_exp, ↓S_retN, ↓S_ret, ↓S_retW, ↓S_new, ↓S_par, ↓S_par3, ↓S_for, gt, res, resL, vls, anyO, setV, setO, setMo, Sl.mo, Mo.dat, tName, Mir.tTup, Mir.tNil, Mir.tCons, tupN, tupD, lenN, lenD, absN, absD, intN, intD, maxN, maxD, minN, minD, negD, addD, subD, ltD, leD, gtD, geD, modD, ixD, isND, notND, at0, at1, at2, eq_int, ne_int, eq_bl, isi_tup, isi_int, isi_bl, isT_tt, isT_ii, isT_ib, allN, allD, anyN, anyD, itD, lstE, ↓reduceIte, Nat.reduceLT, Nat.reduceAdd, Nat.reduceLeDiff, Nat.zero_add, List.map, List.cons_append, List.nil_append, List.replicate, List.append_nil, List.length_cons, List.length_nil, Option.map_some, Option.map_none, Option.bind_some, List.set_cons_zero, List.set_cons_succ, Bool.false_and, Bool.true_and, Bool.and_false, Bool.and_true, Bool.not_true, Bool.not_false, if_true, if_false, Bool.false_eq_true, decide_true, decide_false, hn, s_common_divisor, fdvD_gcd h hb]
    rw [numD_eq, e1, e2]
theorem num_gcd (r : Rat) : Int.gcd r.num (r.den : Int) = 1 := r.reduced
theorem s_is_number (r : Rat) : f_is_number [numD r] = .ok (.bl true) := by
  refine f_of ?_
  rw [numD_eq]
  have hc : cmp [1] (bnd (eN 0) itM) (tName 1) yes (eD (bnd (eArgs [eN 1]) (callF 1 f_is_integer []))) [.va (.tup [.int r.num, .int (r.den : Int)]), .no] = .ok [.bl true, .bl true] [.va (.tup [.int r.num, .int (r.den : Int)]), .no] := rfl
  have h1 : (1 : Int) ≤ (r.den : Int) := by have := r.den_nz; omega
  simp only [b_is_number, ↓O_ret, ↓O_bad, ↓O_bnd, ↓O_opt, ↓O_if, ↓O_ite, ↓O_eN, ↓O_e1, ↓O_e2, ↓U_ap1, ↓U_ap2, ↓U_f1, ↓U_f2, ↓U_opt, ↓O_eD, ↓O_eV, ↓O_vl, ↓O_tB, ↓O_asB, ↓O_notM, ↓O_ofB, ↓O_andM, ↓O_orM, ↓O_args0, ↓O_args1, ↓U_apL, ↓U_tup, ↓U_lst, ↓U_call, ↓U_callN, ↓U_callM, ↓U_callMN, ↓U_itM, ↓U_rev, ↓O_noex, ↓S_seq, ↓S_nil, ↓S_pass, ↓S_brk, ↓S_cnt, ↓S_bad, ↓S_nx, ↓S_rt, ↓S_asg, ↓S_if, ↓S_exp, ↓S_retN, ↓S_ret, ↓S_retW, ↓S_new, ↓S_par, ↓S_par3, ↓S_for, gt, res, resL, vls, anyO, setV, setO, setMo, Sl.mo, Mo.dat, tName, Mir.tTup, Mir.tNil, Mir.tCons, tupN, tupD, lenN, lenD, absN, absD, intN, intD, maxN, maxD, minN, minD, negD, addD, subD, ltD, leD, gtD, geD, modD, ixD, isND, notND, at0, at1, at2, eq_int, ne_int, eq_bl, isi_tup, isi_int, isi_bl, isT_tt, isT_ii, isT_ib, allN, allD, anyN, anyD, itD, lstE, ↓reduceIte, Nat.reduceLT, Nat.reduceAdd, Nat.reduceLeDiff, Nat.zero_add, List.map, List.cons_append, List.nil_append, List.replicate, List.append_nil, List.length_cons, List.length_nil, Option.map_some, Option.map_none, Option.bind_some, List.set_cons_zero, List.set_cons_succ, Bool.false_and, Bool.true_and, Bool.and_false, Bool.and_true, Bool.not_true, Bool.not_false, if_true, if_false, Bool.false_eq_true, decide_true, decide_false, hc, O_ok, bls, List.all_cons, List.all_nil, id, s_common_divisor, num_gcd, h1]
  simp

theorem SO_seqE {a b : Ms} {g g2 : En} {N : En → Prop} {R : Sl → En → Prop} {B C : En → Prop} {E : Xn → En → Prop} (h1 : SO (a g) (fun x => x = g2) R B C E) (h2 : SO (b g2) N R B C E) : SO (sQ a b g) N R B C E := by
  rw [S_seq]
  exact h1.mono (fun x e => by subst e; exact h2) (fun _ _ h => h) (fun _ h => h) (fun _ h => h) fun _ _ h => h
theorem SO_seq {a b : Ms} {g : En} (M : En → Prop) {N : En → Prop} {R : Sl → En → Prop} {B C : En → Prop} {E : Xn → En → Prop} (h1 : SO (a g) M R B C E) (h2 : ∀ g2, M g2 → SO (b g2) N R B C E) : SO (sQ a b g) N R B C E := by
  rw [S_seq]
  exact h1.mono h2 (fun _ _ h => h) (fun _ h => h) (fun _ h => h) fun _ _ h => h
theorem U_chM {α : Type} {a b c : M Op} {f f' : D → D → Option D} {g : En} {P : D → En → Prop} {E : Xn → En → Prop} : Out (chM a b c f f' g) P E = Out (a g) (fun x g1 => Out (b g1) (fun y g2 => Out (ap2 (f2 f) x y g2) (fun k g3 => Out (asB k g3) (fun t g4 => if t = true then Out (c g4) (fun z g5 => Out (ap2 (f2 f') y z g5) P E) E else P (.bl false) g4) E) E) E) E := by
  unfold chM
  rw [O_bnd]
  refine congrArg (fun z => Out (a g) z E) (funext fun x => funext fun g1 => ?_)
  rw [O_bnd]
  refine congrArg (fun z => Out (b g1) z E) (funext fun y => funext fun g2 => ?_)
  rw [O_bnd]
  refine congrArg (fun z => Out (ap2 (f2 f) x y g2) z E) (funext fun k => funext fun g3 => ?_)
  rw [O_bnd]
  refine congrArg (fun z => Out (asB k g3) z E) (funext fun t => funext fun g4 => ?_)
  cases t with
  | true => simp only [if_true]; exact O_bnd
  | false => rfl
theorem mulD_sz {x y : Int} {k l : Nat} (hx : x.natAbs < 2 ^ k) (hy : y.natAbs < 2 ^ l) (h : k + l < 134217000) : mulD (.int x) (.int y) = some (.int (x * y)) := by
  have e : mulD (.int x) (.int y) = if mulOk x y = true then some (.int (x * y)) else none := rfl
  rw [e, mulOk_sz hx hy h, if_pos rfl]
theorem Sz.d {k : Nat} {r : Rat} (h : Sz k r) : ((r.den : Int)).natAbs < 2 ^ k := h.2
theorem numD_divInt1 (n : Int) : numD (Rat.divInt n 1) = .tup [.int n, .int 1] := by
  obtain ⟨e1, e2⟩ := divInt_pos (t := n) (b := 1) (by decide)
  rw [numD_eq, e1, e2]
  simp
theorem le_add {n k l : Nat} (h : n < 2 ^ k) (hl : k ≤ l) : n < 2 ^ l := Nat.lt_of_lt_of_le h (Nat.pow_le_pow_right (by omega) hl)
theorem s_added (a b : Rat) {k : Nat} (ha : Sz k a) (hb : Sz k b) (hk : k < 4400) : f_added [numD a, numD b] = .ok (numD (a + b)) := by
  refine f_of ?_
  have m1 := mulD_sz ha.1 hb.d (by omega)
  have m2 := mulD_sz hb.1 ha.d (by omega)
  have m3 := mulD_sz ha.d hb.d (by omega)
  have r1 := s_reduced (a.num * b.den + b.num * a.den) (a.den * b.den) (den_ne a b) (le_add (sz_den ha hb) (by omega))
  rw [← add_divInt] at r1
  simp only [numD_eq, b_added, ↓O_ret, ↓O_bad, ↓O_bnd, ↓O_opt, ↓O_if, ↓O_ite, ↓O_eN, ↓O_e1, ↓O_e2, ↓U_ap1, ↓U_ap2, ↓U_f1, ↓U_f2, ↓U_opt, ↓O_eD, ↓O_eV, ↓O_vl, ↓O_tB, ↓O_asB, ↓O_notM, ↓O_ofB, ↓O_andM, ↓O_orM, ↓O_args0, ↓O_args1, ↓U_apL, ↓U_tup, ↓U_lst, ↓U_call, ↓U_callN, ↓U_callM, ↓U_callMN, ↓U_itM, ↓U_rev, ↓O_noex, ↓S_seq, ↓S_nil, ↓S_pass, ↓S_brk, ↓S_cnt, ↓S_bad, ↓S_nx, ↓S_rt, ↓S_asg, ↓S_if, ↓S_exp, ↓S_retN, ↓S_ret, ↓S_retW, ↓S_new, ↓S_par, ↓S_par3, ↓S_for, gt, res, resL, vls, anyO, setV, setO, setMo, Sl.mo, Mo.dat, tName, Mir.tTup, Mir.tNil, Mir.tCons, tupN, tupD, lenN, lenD, absN, absD, intN, intD, maxN, maxD, minN, minD, negD, addD, subD, ltD, leD, gtD, geD, modD, ixD, isND, notND, at0, at1, at2, eq_int, ne_int, eq_bl, isi_tup, isi_int, isi_bl, isT_tt, isT_ii, isT_ib, allN, allD, anyN, anyD, itD, lstE, ↓reduceIte, Nat.reduceLT, Nat.reduceAdd, Nat.reduceLeDiff, Nat.zero_add, List.map, List.cons_append, List.nil_append, List.replicate, List.append_nil, List.length_cons, List.length_nil, Option.map_some, Option.map_none, Option.bind_some, List.set_cons_zero, List.set_cons_succ, Bool.false_and, Bool.true_and, Bool.and_false, Bool.and_true, Bool.not_true, Bool.not_false, if_true, if_false, Bool.false_eq_true, decide_true, decide_false, U_chM (α := Unit), m1, m2, m3, r1]
  by_cases h : (a.den : Int) = b.den
  · by_cases h1 : (b.den : Int) = 1
    · have e : a + b = Rat.divInt (a.num + b.num) 1 := by rw [add_divInt, h, h1]; simp
      have := numD_divInt1 (a.num + b.num)
      rw [← e, numD_eq] at this
      simp only [h, h1, beq_self_eq_true, ↓O_ret, ↓O_bad, ↓O_bnd, ↓O_opt, ↓O_if, ↓O_ite, ↓O_eN, ↓O_e1, ↓O_e2, ↓U_ap1, ↓U_ap2, ↓U_f1, ↓U_f2, ↓U_opt, ↓O_eD, ↓O_eV, ↓O_vl, ↓O_tB, ↓O_asB, ↓O_notM, ↓O_ofB, ↓O_andM, ↓O_orM, ↓O_args0, ↓O_args1, ↓U_apL, ↓U_tup, ↓U_lst, ↓U_call, ↓U_callN, ↓U_callM, ↓U_callMN, ↓U_itM, ↓U_rev, ↓O_noex, ↓S_seq, ↓S_nil, ↓S_pass, ↓S_brk, ↓S_cnt, ↓S_bad, ↓S_nx, ↓S_rt, ↓S_asg, ↓S_if, ↓S_exp, ↓S_retN, ↓S_ret, ↓S_retW, ↓S_new, ↓S_par, ↓S_par3, ↓S_for, gt, res, resL, vls, anyO, setV, setO, setMo, Sl.mo, Mo.dat, tName, Mir.tTup, Mir.tNil, Mir.tCons, tupN, tupD, lenN, lenD, absN, absD, intN, intD, maxN, maxD, minN, minD, negD, addD, subD, ltD, leD, gtD, geD, modD, ixD, isND, notND, at0, at1, at2, eq_int, ne_int, eq_bl, isi_tup, isi_int, isi_bl, isT_tt, isT_ii, isT_ib, allN, allD, anyN, anyD, itD, lstE, ↓reduceIte, Nat.reduceLT, Nat.reduceAdd, Nat.reduceLeDiff, Nat.zero_add, List.map, List.cons_append, List.nil_append, List.replicate, List.append_nil, List.length_cons, List.length_nil, Option.map_some, Option.map_none, Option.bind_some, List.set_cons_zero, List.set_cons_succ, Bool.false_and, Bool.true_and, Bool.and_false, Bool.and_true, Bool.not_true, Bool.not_false, if_true, if_false, Bool.false_eq_true, decide_true, decide_false, this]
    · have e2 : (((b.den : Int)) == 1) = false := by simpa using h1
      simp only [h, e2, beq_self_eq_true, ↓O_ret, ↓O_bad, ↓O_bnd, ↓O_opt, ↓O_if, ↓O_ite, ↓O_eN, ↓O_e1, ↓O_e2, ↓U_ap1, ↓U_ap2, ↓U_f1, ↓U_f2, ↓U_opt, ↓O_eD, ↓O_eV, ↓O_vl, ↓O_tB, ↓O_asB, ↓O_notM, ↓O_ofB, ↓O_andM, ↓O_orM, ↓O_args0, ↓O_args1, ↓U_apL, ↓U_tup, ↓U_lst, ↓U_call, ↓U_callN, ↓U_callM, ↓U_callMN, ↓U_itM, ↓U_rev, ↓O_noex, ↓S_seq, ↓S_nil, ↓S_pass, ↓S_brk, ↓S_cnt, ↓S_bad, ↓S_nx, ↓S_rt, ↓S_asg, ↓S_if, ↓S_exp, ↓S_retN, ↓S_ret, ↓S_retW, ↓S_new, ↓S_par, ↓S_par3, ↓S_for, gt, res, resL, vls, anyO, setV, setO, setMo, Sl.mo, Mo.dat, tName, Mir.tTup, Mir.tNil, Mir.tCons, tupN, tupD, lenN, lenD, absN, absD, intN, intD, maxN, maxD, minN, minD, negD, addD, subD, ltD, leD, gtD, geD, modD, ixD, isND, notND, at0, at1, at2, eq_int, ne_int, eq_bl, isi_tup, isi_int, isi_bl, isT_tt, isT_ii, isT_ib, allN, allD, anyN, anyD, itD, lstE, ↓reduceIte, Nat.reduceLT, Nat.reduceAdd, Nat.reduceLeDiff, Nat.zero_add, List.map, List.cons_append, List.nil_append, List.replicate, List.append_nil, List.length_cons, List.length_nil, Option.map_some, Option.map_none, Option.bind_some, List.set_cons_zero, List.set_cons_succ, Bool.false_and, Bool.true_and, Bool.and_false, Bool.and_true, Bool.not_true, Bool.not_false, if_true, if_false, Bool.false_eq_true, decide_true, decide_false]
  · have e2 : (((a.den : Int)) == b.den) = false := by simpa using h
    simp only [e2, ↓O_ret, ↓O_bad, ↓O_bnd, ↓O_opt, ↓O_if, ↓O_ite, ↓O_eN, ↓O_e1, ↓O_e2, ↓U_ap1, ↓U_ap2, ↓U_f1, ↓U_f2, ↓U_opt, ↓O_eD, ↓O_eV, ↓O_vl, ↓O_tB, ↓O_asB, ↓O_notM, ↓O_ofB, ↓O_andM, ↓O_orM, ↓O_args0, ↓O_args1, ↓U_apL, ↓U_tup, ↓U_lst, ↓U_call, ↓U_callN, ↓U_callM, ↓U_callMN, ↓U_itM, ↓U_rev, ↓O_noex, ↓S_seq, ↓S_nil, ↓S_pass, ↓S_brk, ↓S_cnt, ↓S_bad, ↓S_nx, ↓S_rt, ↓S_asg, ↓S_if, ↓S_exp, ↓S_retN, ↓S_ret, ↓S_retW, ↓S_new, ↓S_par, ↓S_par3, ↓S_for, gt, res, resL, vls, anyO, setV, setO, setMo, Sl.mo, Mo.dat, tName, Mir.tTup, Mir.tNil, Mir.tCons, tupN, tupD, lenN, lenD, absN, absD, intN, intD, maxN, maxD, minN, minD, negD, addD, subD, ltD, leD, gtD, geD, modD, ixD, isND, notND, at0, at1, at2, eq_int, ne_int, eq_bl, isi_tup, isi_int, isi_bl, isT_tt, isT_ii, isT_ib, allN, allD, anyN, anyD, itD, lstE, ↓reduceIte, Nat.reduceLT, Nat.reduceAdd, Nat.reduceLeDiff, Nat.zero_add, List.map, List.cons_append, List.nil_append, List.replicate, List.append_nil, List.length_cons, List.length_nil, Option.map_some, Option.map_none, Option.bind_some, List.set_cons_zero, List.set_cons_succ, Bool.false_and, Bool.true_and, Bool.and_false, Bool.and_true, Bool.not_true, Bool.not_false, if_true, if_false, Bool.false_eq_true, decide_true, decide_false]
theorem s_multiplied (a b : Rat) {k : Nat} (ha : Sz k a) (hb : Sz k b) (hk : k < 4400) : f_multiplied [numD a, numD b] = .ok (numD (a * b)) := by
  refine f_of ?_
  have m1 := mulD_sz ha.1 hb.1 (by omega)
  have m3 := mulD_sz ha.d hb.d (by omega)
  have r1 := s_reduced (a.num * b.num) (a.den * b.den) (den_ne a b) (le_add (sz_den ha hb) (by omega))
  rw [← mul_divInt] at r1
  simp only [numD_eq, b_multiplied, ↓O_ret, ↓O_bad, ↓O_bnd, ↓O_opt, ↓O_if, ↓O_ite, ↓O_eN, ↓O_e1, ↓O_e2, ↓U_ap1, ↓U_ap2, ↓U_f1, ↓U_f2, ↓U_opt, ↓O_eD, ↓O_eV, ↓O_vl, ↓O_tB, ↓O_asB, ↓O_notM, ↓O_ofB, ↓O_andM, ↓O_orM, ↓O_args0, ↓O_args1, ↓U_apL, ↓U_tup, ↓U_lst, ↓U_call, ↓U_callN, ↓U_callM, ↓U_callMN, ↓U_itM, ↓U_rev, ↓O_noex, ↓S_seq, ↓S_nil, ↓S_pass, ↓S_brk, ↓S_cnt, ↓S_bad, ↓S_nx, ↓S_rt, ↓S_asg, ↓S_if, ↓S_exp, ↓S_retN, ↓S_ret, ↓S_retW, ↓S_new, ↓S_par, ↓S_par3, ↓S_for, gt, res, resL, vls, anyO, setV, setO, setMo, Sl.mo, Mo.dat, tName, Mir.tTup, Mir.tNil, Mir.tCons, tupN, tupD, lenN, lenD, absN, absD, intN, intD, maxN, maxD, minN, minD, negD, addD, subD, ltD, leD, gtD, geD, modD, ixD, isND, notND, at0, at1, at2, eq_int, ne_int, eq_bl, isi_tup, isi_int, isi_bl, isT_tt, isT_ii, isT_ib, allN, allD, anyN, anyD, itD, lstE, ↓reduceIte, Nat.reduceLT, Nat.reduceAdd, Nat.reduceLeDiff, Nat.zero_add, List.map, List.cons_append, List.nil_append, List.replicate, List.append_nil, List.length_cons, List.length_nil, Option.map_some, Option.map_none, Option.bind_some, List.set_cons_zero, List.set_cons_succ, Bool.false_and, Bool.true_and, Bool.and_false, Bool.and_true, Bool.not_true, Bool.not_false, if_true, if_false, Bool.false_eq_true, decide_true, decide_false, U_chM (α := Unit), m1, m3, r1]
  by_cases h : (a.den : Int) = b.den
  · by_cases h1 : (b.den : Int) = 1
    · have e : a * b = Rat.divInt (a.num * b.num) 1 := by rw [mul_divInt, h, h1]; simp
      have := numD_divInt1 (a.num * b.num)
      rw [← e, numD_eq] at this
      simp only [h, h1, beq_self_eq_true, ↓O_ret, ↓O_bad, ↓O_bnd, ↓O_opt, ↓O_if, ↓O_ite, ↓O_eN, ↓O_e1, ↓O_e2, ↓U_ap1, ↓U_ap2, ↓U_f1, ↓U_f2, ↓U_opt, ↓O_eD, ↓O_eV, ↓O_vl, ↓O_tB, ↓O_asB, ↓O_notM, ↓O_ofB, ↓O_andM, ↓O_orM, ↓O_args0, ↓O_args1, ↓U_apL, ↓U_tup, ↓U_lst, ↓U_call, ↓U_callN, ↓U_callM, ↓U_callMN, ↓U_itM, ↓U_rev, ↓O_noex, ↓S_seq, ↓S_nil, ↓S_pass, ↓S_brk, ↓S_cnt, ↓S_bad, ↓S_nx, ↓S_rt, ↓S_asg, ↓S_if, ↓S_exp, ↓S_retN, ↓S_ret, ↓S_retW, ↓S_new, ↓S_par, ↓S_par3, ↓S_for, gt, res, resL, vls, anyO, setV, setO, setMo, Sl.mo, Mo.dat, tName, Mir.tTup, Mir.tNil, Mir.tCons, tupN, tupD, lenN, lenD, absN, absD, intN, intD, maxN, maxD, minN, minD, negD, addD, subD, ltD, leD, gtD, geD, modD, ixD, isND, notND, at0, at1, at2, eq_int, ne_int, eq_bl, isi_tup, isi_int, isi_bl, isT_tt, isT_ii, isT_ib, allN, allD, anyN, anyD, itD, lstE, ↓reduceIte, Nat.reduceLT, Nat.reduceAdd, Nat.reduceLeDiff, Nat.zero_add, List.map, List.cons_append, List.nil_append, List.replicate, List.append_nil, List.length_cons, List.length_nil, Option.map_some, Option.map_none, Option.bind_some, List.set_cons_zero, List.set_cons_succ, Bool.false_and, Bool.true_and, Bool.and_false, Bool.and_true, Bool.not_true, Bool.not_false, if_true, if_false, Bool.false_eq_true, decide_true, decide_false, this]
    · have e2 : (((b.den : Int)) == 1) = false := by simpa using h1
      simp only [h, e2, beq_self_eq_true, ↓O_ret, ↓O_bad, ↓O_bnd, ↓O_opt, ↓O_if, ↓O_ite, ↓O_eN, ↓O_e1, ↓O_e2, ↓U_ap1, ↓U_ap2, ↓U_f1, ↓U_f2, ↓U_opt, ↓O_eD, ↓O_eV, ↓O_vl, ↓O_tB, ↓O_asB, ↓O_notM, ↓O_ofB, ↓O_andM, ↓O_orM, ↓O_args0, ↓O_args1, ↓U_apL, ↓U_tup, ↓U_lst, ↓U_call, ↓U_callN, ↓U_callM, ↓U_callMN, ↓U_itM, ↓U_rev, ↓O_noex, ↓S_seq, ↓S_nil, ↓S_pass, ↓S_brk, ↓S_cnt, ↓S_bad, ↓S_nx, ↓S_rt, ↓S_asg, ↓S_if, ↓S_exp, ↓S_retN, ↓S_ret, ↓S_retW, ↓S_new, ↓S_par, ↓S_par3, ↓S_for, gt, res, resL, vls, anyO, setV, setO, setMo, Sl.mo, Mo.dat, tName, Mir.tTup, Mir.tNil, Mir.tCons, tupN, tupD, lenN, lenD, absN, absD, intN, intD, maxN, maxD, minN, minD, negD, addD, subD, ltD, leD, gtD, geD, modD, ixD, isND, notND, at0, at1, at2, eq_int, ne_int, eq_bl, isi_tup, isi_int, isi_bl, isT_tt, isT_ii, isT_ib, allN, allD, anyN, anyD, itD, lstE, ↓reduceIte, Nat.reduceLT, Nat.reduceAdd, Nat.reduceLeDiff, Nat.zero_add, List.map, List.cons_append, List.nil_append, List.replicate, List.append_nil, List.length_cons, List.length_nil, Option.map_some, Option.map_none, Option.bind_some, List.set_cons_zero, List.set_cons_succ, Bool.false_and, Bool.true_and, Bool.and_false, Bool.and_true, Bool.not_true, Bool.not_false, if_true, if_false, Bool.false_eq_true, decide_true, decide_false]
  · have e2 : (((a.den : Int)) == b.den) = false := by simpa using h
    simp only [e2, ↓O_ret, ↓O_bad, ↓O_bnd, ↓O_opt, ↓O_if, ↓O_ite, ↓O_eN, ↓O_e1, ↓O_e2, ↓U_ap1, ↓U_ap2, ↓U_f1, ↓U_f2, ↓U_opt, ↓O_eD, ↓O_eV, ↓O_vl, ↓O_tB, ↓O_asB, ↓O_notM, ↓O_ofB, ↓O_andM, ↓O_orM, ↓O_args0, ↓O_args1, ↓U_apL, ↓U_tup, ↓U_lst, ↓U_call, ↓U_callN, ↓U_callM, ↓U_callMN, ↓U_itM, ↓U_rev, ↓O_noex, ↓S_seq, ↓S_nil, ↓S_pass, ↓S_brk, ↓S_cnt, ↓S_bad, ↓S_nx, ↓S_rt, ↓S_asg, ↓S_if, ↓S_exp, ↓S_retN, ↓S_ret, ↓S_retW, ↓S_new, ↓S_par, ↓S_par3, ↓S_for, gt, res, resL, vls, anyO, setV, setO, setMo, Sl.mo, Mo.dat, tName, Mir.tTup, Mir.tNil, Mir.tCons, tupN, tupD, lenN, lenD, absN, absD, intN, intD, maxN, maxD, minN, minD, negD, addD, subD, ltD, leD, gtD, geD, modD, ixD, isND, notND, at0, at1, at2, eq_int, ne_int, eq_bl, isi_tup, isi_int, isi_bl, isT_tt, isT_ii, isT_ib, allN, allD, anyN, anyD, itD, lstE, ↓reduceIte, Nat.reduceLT, Nat.reduceAdd, Nat.reduceLeDiff, Nat.zero_add, List.map, List.cons_append, List.nil_append, List.replicate, List.append_nil, List.length_cons, List.length_nil, Option.map_some, Option.map_none, Option.bind_some, List.set_cons_zero, List.set_cons_succ, Bool.false_and, Bool.true_and, Bool.and_false, Bool.and_true, Bool.not_true, Bool.not_false, if_true, if_false, Bool.false_eq_true, decide_true, decide_false]
theorem div_divInt (a b : Rat) (h : b ≠ 0) : a / b = Rat.divInt (a.num * b.den) (a.den * b.num) := by
  rw [Rat.div_def, Rat.inv_def]
  conv => lhs; rw [← Rat.num_divInt_den a]
  rw [Rat.divInt_mul_divInt]
theorem num_ne {b : Rat} (h : b ≠ 0) : b.num ≠ 0 := fun z => h (Rat.num_eq_zero.mp z)
theorem numD_zero : numD 0 = .tup [.int 0, .int 1] := rfl
theorem numD_one : numD 1 = .tup [.int 1, .int 1] := rfl
theorem eq_num (a b : Rat) : eqD (numD a) (numD b) = some (.bl (decide (a = b))) := by
  have e : eqD (numD a) (numD b) = some (.bl ((a.num == b.num) && (((a.den : Int) == b.den) && true))) := rfl
  rw [e]
  by_cases h : a = b
  · subst h; simp
  · simp only [h, decide_false]
    by_cases h1 : a.num = b.num
    · have h2 : ¬ (a.den : Int) = b.den := fun z => h (Rat.ext h1 (by omega))
      simp [h1, h2]
    · simp [h1]
theorem ne_num (a b : Rat) : neD (numD a) (numD b) = some (.bl (!decide (a = b))) := by
  have := eq_num a b
  unfold eqD at this
  unfold neD
  cases e : pyE (numD a) (numD b) with
  | none => rw [e] at this; cases this
  | some v =>
    rw [e] at this
    injection this with this
    injection this with this
    subst this; rfl
theorem mulD_l {a z : Int} (h : a.natAbs < 18446744073709551616) : mulD (.int a) (.int z) = some (.int (a * z)) := by
  have e : mulD (.int a) (.int z) = if mulOk a z = true then some (.int (a * z)) else none := rfl
  rw [e, mulOk_lit h, if_pos rfl]
theorem mulD_r {a z : Int} (h : z.natAbs < 18446744073709551616) : mulD (.int a) (.int z) = some (.int (a * z)) := by
  have e : mulD (.int a) (.int z) = if mulOk a z = true then some (.int (a * z)) else none := rfl
  rw [e, mulOk_lit' h, if_pos rfl]
theorem s_law_fr (t b : Int) (h : b ≠ 0) (hb : b.natAbs < 2 ^ 9000) : f_law_fr [.int t, .int b] = .ok (numD (Rat.divInt t b)) := by
  refine f_of ?_
  simp only [b_law_fr, ↓O_ret, ↓O_bad, ↓O_bnd, ↓O_opt, ↓O_if, ↓O_ite, ↓O_eN, ↓O_e1, ↓O_e2, ↓U_ap1, ↓U_ap2, ↓U_f1, ↓U_f2, ↓U_opt, ↓O_eD, ↓O_eV, ↓O_vl, ↓O_tB, ↓O_asB, ↓O_notM, ↓O_ofB, ↓O_andM, ↓O_orM, ↓O_args0, ↓O_args1, ↓U_apL, ↓U_tup, ↓U_lst, ↓U_call, ↓U_callN, ↓U_callM, ↓U_callMN, ↓U_itM, ↓U_rev, ↓O_noex, ↓S_seq, ↓S_nil, ↓S_pass, ↓S_brk, ↓S_cnt, ↓S_bad, ↓S_nx, ↓S_rt, ↓S_asg, ↓S_if, ↓S_exp, ↓S_retN, ↓S_ret, ↓S_retW, ↓S_new, ↓S_par, ↓S_par3, ↓S_for, gt, res, resL, vls, anyO, setV, setO, setMo, Sl.mo, Mo.dat, tName, Mir.tTup, Mir.tNil, Mir.tCons, tupN, tupD, lenN, lenD, absN, absD, intN, intD, maxN, maxD, minN, minD, negD, addD, subD, ltD, leD, gtD, geD, modD, ixD, isND, notND, at0, at1, at2, eq_int, ne_int, eq_bl, isi_tup, isi_int, isi_bl, isT_tt, isT_ii, isT_ib, allN, allD, anyN, anyD, itD, lstE, ↓reduceIte, Nat.reduceLT, Nat.reduceAdd, Nat.reduceLeDiff, Nat.zero_add, List.map, List.cons_append, List.nil_append, List.replicate, List.append_nil, List.length_cons, List.length_nil, Option.map_some, Option.map_none, Option.bind_some, List.set_cons_zero, List.set_cons_succ, Bool.false_and, Bool.true_and, Bool.and_false, Bool.and_true, Bool.not_true, Bool.not_false, if_true, if_false, Bool.false_eq_true, decide_true, decide_false, abs_nat]
  refine S_while (fun n g => ∃ x y : Nat, g = [.va (.int t), .va (.int b), .no, .va (.int x), .va (.int y)] ∧ n = y ∧ Nat.gcd x y = Int.gcd t b) (n := b.natAbs) ⟨_, _, rfl, rfl, rfl⟩ ?_
  rintro n g ⟨x, y, rfl, rfl, hg⟩
  simp only [↓O_ret, ↓O_bad, ↓O_bnd, ↓O_opt, ↓O_if, ↓O_ite, ↓O_eN, ↓O_e1, ↓O_e2, ↓U_ap1, ↓U_ap2, ↓U_f1, ↓U_f2, ↓U_opt, ↓O_eD, ↓O_eV, ↓O_vl, ↓O_tB, ↓O_asB, ↓O_notM, ↓O_ofB, ↓O_andM, ↓O_orM, ↓O_args0, ↓O_args1, ↓U_apL, ↓U_tup, ↓U_lst, ↓U_call, ↓U_callN, ↓U_callM, ↓U_callMN, ↓U_itM, ↓U_rev, ↓O_noex, ↓S_seq, ↓S_nil, ↓S_pass, ↓S_brk, ↓S_cnt, ↓S_bad, ↓S_nx, ↓S_rt, ↓S_asg, ↓S_if, ↓S_exp, ↓S_retN, ↓S_ret, ↓S_retW, ↓S_new, ↓S_par, ↓S_par3, ↓S_for, gt, res, resL, vls, anyO, setV, setO, setMo, Sl.mo, Mo.dat, tName, Mir.tTup, Mir.tNil, Mir.tCons, tupN, tupD, lenN, lenD, absN, absD, intN, intD, maxN, maxD, minN, minD, negD, addD, subD, ltD, leD, gtD, geD, modD, ixD, isND, notND, at0, at1, at2, eq_int, ne_int, eq_bl, isi_tup, isi_int, isi_bl, isT_tt, isT_ii, isT_ib, allN, allD, anyN, anyD, itD, lstE, ↓reduceIte, Nat.reduceLT, Nat.reduceAdd, Nat.reduceLeDiff, Nat.zero_add, List.map, List.cons_append, List.nil_append, List.replicate, List.append_nil, List.length_cons, List.length_nil, Option.map_some, Option.map_none, Option.bind_some, List.set_cons_zero, List.set_cons_succ, Bool.false_and, Bool.true_and, Bool.and_false, Bool.and_true, Bool.not_true, Bool.not_false, if_true, if_false, Bool.false_eq_true, decide_true, decide_false]
  by_cases hy : 0 < n
  · have h1 : (0 : Int) < (n : Int) := by omega
    have h2 : ¬ (n : Int) = 0 := by omega
    simp only [↓O_ret, ↓O_bad, ↓O_bnd, ↓O_opt, ↓O_if, ↓O_ite, ↓O_eN, ↓O_e1, ↓O_e2, ↓U_ap1, ↓U_ap2, ↓U_f1, ↓U_f2, ↓U_opt, ↓O_eD, ↓O_eV, ↓O_vl, ↓O_tB, ↓O_asB, ↓O_notM, ↓O_ofB, ↓O_andM, ↓O_orM, ↓O_args0, ↓O_args1, ↓U_apL, ↓U_tup, ↓U_lst, ↓U_call, ↓U_callN, ↓U_callM, ↓U_callMN, ↓U_itM, ↓U_rev, ↓O_noex, ↓S_seq, ↓S_nil, ↓S_pass, ↓S_brk, ↓S_cnt, ↓S_bad, ↓S_nx, ↓S_rt, ↓S_asg, ↓S_if, ↓S_exp, ↓S_retN, ↓S_ret, ↓S_retW, ↓S_new, ↓S_par, ↓S_par3, ↓S_for, gt, res, resL, vls, anyO, setV, setO, setMo, Sl.mo, Mo.dat, tName, Mir.tTup, Mir.tNil, Mir.tCons, tupN, tupD, lenN, lenD, absN, absD, intN, intD, maxN, maxD, minN, minD, negD, addD, subD, ltD, leD, gtD, geD, modD, ixD, isND, notND, at0, at1, at2, eq_int, ne_int, eq_bl, isi_tup, isi_int, isi_bl, isT_tt, isT_ii, isT_ib, allN, allD, anyN, anyD, itD, lstE, ↓reduceIte, Nat.reduceLT, Nat.reduceAdd, Nat.reduceLeDiff, Nat.zero_add, List.map, List.cons_append, List.nil_append, List.replicate, List.append_nil, List.length_cons, List.length_nil, Option.map_some, Option.map_none, Option.bind_some, List.set_cons_zero, List.set_cons_succ, Bool.false_and, Bool.true_and, Bool.and_false, Bool.and_true, Bool.not_true, Bool.not_false, if_true, if_false, Bool.false_eq_true, decide_true, decide_false, h1, h2, fmod_nat]
    exact ⟨x % n, Nat.mod_lt _ hy, _, _, rfl, rfl, by rw [gcd_step hy, hg]⟩
  · have h1 : n = 0 := by omega
    subst h1
    rw [Nat.gcd_zero_right] at hg
    subst hg
    simp only [↓O_ret, ↓O_bad, ↓O_bnd, ↓O_opt, ↓O_if, ↓O_ite, ↓O_eN, ↓O_e1, ↓O_e2, ↓U_ap1, ↓U_ap2, ↓U_f1, ↓U_f2, ↓U_opt, ↓O_eD, ↓O_eV, ↓O_vl, ↓O_tB, ↓O_asB, ↓O_notM, ↓O_ofB, ↓O_andM, ↓O_orM, ↓O_args0, ↓O_args1, ↓U_apL, ↓U_tup, ↓U_lst, ↓U_call, ↓U_callN, ↓U_callM, ↓U_callMN, ↓U_itM, ↓U_rev, ↓O_noex, ↓S_seq, ↓S_nil, ↓S_pass, ↓S_brk, ↓S_cnt, ↓S_bad, ↓S_nx, ↓S_rt, ↓S_asg, ↓S_if, ↓S_exp, ↓S_retN, ↓S_ret, ↓S_retW, ↓S_new, ↓S_par, ↓S_par3, ↓S_for, gt, res, resL, vls, anyO, setV, setO, setMo, Sl.mo, Mo.dat, tName, Mir.tTup, Mir.tNil, Mir.tCons, tupN, tupD, lenN, lenD, absN, absD, intN, intD, maxN, maxD, minN, minD, negD, addD, subD, ltD, leD, gtD, geD, modD, ixD, isND, notND, at0, at1, at2, eq_int, ne_int, eq_bl, isi_tup, isi_int, isi_bl, isT_tt, isT_ii, isT_ib, allN, allD, anyN, anyD, itD, lstE, ↓reduceIte, Nat.reduceLT, Nat.reduceAdd, Nat.reduceLeDiff, Nat.zero_add, List.map, List.cons_append, List.nil_append, List.replicate, List.append_nil, List.length_cons, List.length_nil, Option.map_some, Option.map_none, Option.bind_some, List.set_cons_zero, List.set_cons_succ, Bool.false_and, Bool.true_and, Bool.and_false, Bool.and_true, Bool.not_true, Bool.not_false, if_true, if_false, Bool.false_eq_true, decide_true, decide_false, Int.lt_irrefl, Int.natCast_zero]
    by_cases hn : b < 0
    · have e : Rat.divInt t b = Rat.divInt (-t) (-b) := by rw [Rat.neg_divInt_neg]
      obtain ⟨e1, e2⟩ := divInt_pos (t := -t) (b := -b) (by omega)
      have m1 : mulD (.int (-1)) (.int t) = some (.int (-t)) := by rw [mulD_l (by decide)]; simp
      have m2 : mulD (.int (-1)) (.int b) = some (.int (-b)) := by rw [mulD_l (by decide)]; simp
      simp only [↓O_ret, ↓O_bad, ↓O_bnd, ↓O_opt, ↓O_if, ↓O_ite, ↓O_eN, ↓O_e1, ↓O_e2, ↓U_ap1, ↓U_ap2, ↓U_f1, ↓U_f2, ↓U_opt, ↓O_eD, ↓O_eV, ↓O_vl, ↓O_tB, ↓O_asB, ↓O_notM, ↓O_ofB, ↓O_andM, ↓O_orM, ↓O_args0, ↓O_args1, ↓U_apL, ↓U_tup, ↓U_lst, ↓U_call, ↓U_callN, ↓U_callM, ↓U_callMN, ↓U_itM, ↓U_rev, ↓O_noex, ↓S_seq, ↓S_nil, ↓S_pass, ↓S_brk, ↓S_cnt, ↓S_bad, ↓S_nx, ↓S_rt, ↓S_asg, ↓S_if, ↓S_exp, ↓S_retN, ↓S_ret, ↓S_retW, ↓S_new, ↓S_par, ↓S_par3, ↓S_for, gt, res, resL, vls, anyO, setV, setO, setMo, Sl.mo, Mo.dat, tName, Mir.tTup, Mir.tNil, Mir.tCons, tupN, tupD, lenN, lenD, absN, absD, intN, intD, maxN, maxD, minN, minD, negD, addD, subD, ltD, leD, gtD, geD, modD, ixD, isND, notND, at0, at1, at2, eq_int, ne_int, eq_bl, isi_tup, isi_int, isi_bl, isT_tt, isT_ii, isT_ib, allN, allD, anyN, anyD, itD, lstE, ↓reduceIte, Nat.reduceLT, Nat.reduceAdd, Nat.reduceLeDiff, Nat.zero_add, List.map, List.cons_append, List.nil_append, List.replicate, List.append_nil, List.length_cons, List.length_nil, Option.map_some, Option.map_none, Option.bind_some, List.set_cons_zero, List.set_cons_succ, Bool.false_and, Bool.true_and, Bool.and_false, Bool.and_true, Bool.not_true, Bool.not_false, if_true, if_false, Bool.false_eq_true, decide_true, decide_false, hn, m1, m2, fdvD_gcd h hb]
      rw [e, numD_eq, e1, e2]
      simp
    · obtain ⟨e1, e2⟩ := divInt_pos (t := t) (b := b) (by omega)
      have m1 : mulD (.int 1) (.int t) = some (.int t) := by rw [mulD_l (by decide)]; simp
      have m2 : mulD (.int 1) (.int b) = some (.int b) := by rw [mulD_l (by decide)]; simp
      simp only [↓O_ret, ↓O_bad, ↓O_bnd, ↓O_opt, ↓O_if, ↓O_ite, ↓O_eN, ↓O_e1, ↓O_e2, ↓U_ap1, ↓U_ap2, ↓U_f1, ↓U_f2, ↓U_opt, ↓O_eD, ↓O_eV, ↓O_vl, ↓O_tB, ↓O_asB, ↓O_notM, ↓O_ofB, ↓O_andM, ↓O_orM, ↓O_args0, ↓O_args1, ↓U_apL, ↓U_tup, ↓U_lst, ↓U_call, ↓U_callN, ↓U_callM, ↓U_callMN, ↓U_itM, ↓U_rev, ↓O_noex, ↓S_seq, ↓S_nil, ↓S_pass, ↓S_brk, ↓S_cnt, ↓S_bad, ↓S_nx, ↓S_rt, ↓S_asg, ↓S_if, ↓S_exp, ↓S_retN, ↓S_ret, ↓S_retW, ↓S_new, ↓S_par, ↓S_par3, ↓S_for, gt, res, resL, vls, anyO, setV, setO, setMo, Sl.mo, Mo.dat, tName, Mir.tTup, Mir.tNil, Mir.tCons, tupN, tupD, lenN, lenD, absN, absD, intN, intD, maxN, maxD, minN, minD, negD, addD, subD, ltD, leD, gtD, geD, modD, ixD, isND, notND, at0, at1, at2, eq_int, ne_int, eq_bl, isi_tup, isi_int, isi_bl, isT_tt, isT_ii, isT_ib, allN, allD, anyN, anyD, itD, lstE, ↓reduceIte, Nat.reduceLT, Nat.reduceAdd, Nat.reduceLeDiff, Nat.zero_add, List.map, List.cons_append, List.nil_append, List.replicate, List.append_nil, List.length_cons, List.length_nil, Option.map_some, Option.map_none, Option.bind_some, List.set_cons_zero, List.set_cons_succ, Bool.false_and, Bool.true_and, Bool.and_false, Bool.and_true, Bool.not_true, Bool.not_false, if_true, if_false, Bool.false_eq_true, decide_true, decide_false, hn, m1, m2, fdvD_gcd h hb]
      rw [numD_eq, e1, e2]
theorem s_law_plus (a b : Rat) {k : Nat} (ha : Sz k a) (hb : Sz k b) (hk : k < 4400) : f_law_plus [numD a, numD b] = .ok (numD (a + b)) := by
  refine f_of ?_
  have m1 := mulD_sz ha.1 hb.d (by omega)
  have m2 := mulD_sz hb.1 ha.d (by omega)
  have m3 := mulD_sz ha.d hb.d (by omega)
  have r1 := s_law_fr (a.num * b.den + b.num * a.den) (a.den * b.den) (den_ne a b) (le_add (sz_den ha hb) (by omega))
  rw [← add_divInt] at r1
  simp only [numD_eq, b_law_plus, ↓O_ret, ↓O_bad, ↓O_bnd, ↓O_opt, ↓O_if, ↓O_ite, ↓O_eN, ↓O_e1, ↓O_e2, ↓U_ap1, ↓U_ap2, ↓U_f1, ↓U_f2, ↓U_opt, ↓O_eD, ↓O_eV, ↓O_vl, ↓O_tB, ↓O_asB, ↓O_notM, ↓O_ofB, ↓O_andM, ↓O_orM, ↓O_args0, ↓O_args1, ↓U_apL, ↓U_tup, ↓U_lst, ↓U_call, ↓U_callN, ↓U_callM, ↓U_callMN, ↓U_itM, ↓U_rev, ↓O_noex, ↓S_seq, ↓S_nil, ↓S_pass, ↓S_brk, ↓S_cnt, ↓S_bad, ↓S_nx, ↓S_rt, ↓S_asg, ↓S_if, ↓S_exp, ↓S_retN, ↓S_ret, ↓S_retW, ↓S_new, ↓S_par, ↓S_par3, ↓S_for, gt, res, resL, vls, anyO, setV, setO, setMo, Sl.mo, Mo.dat, tName, Mir.tTup, Mir.tNil, Mir.tCons, tupN, tupD, lenN, lenD, absN, absD, intN, intD, maxN, maxD, minN, minD, negD, addD, subD, ltD, leD, gtD, geD, modD, ixD, isND, notND, at0, at1, at2, eq_int, ne_int, eq_bl, isi_tup, isi_int, isi_bl, isT_tt, isT_ii, isT_ib, allN, allD, anyN, anyD, itD, lstE, ↓reduceIte, Nat.reduceLT, Nat.reduceAdd, Nat.reduceLeDiff, Nat.zero_add, List.map, List.cons_append, List.nil_append, List.replicate, List.append_nil, List.length_cons, List.length_nil, Option.map_some, Option.map_none, Option.bind_some, List.set_cons_zero, List.set_cons_succ, Bool.false_and, Bool.true_and, Bool.and_false, Bool.and_true, Bool.not_true, Bool.not_false, if_true, if_false, Bool.false_eq_true, decide_true, decide_false, m1, m2, m3, r1]
theorem sub_divInt (a b : Rat) : a - b = Rat.divInt (a.num * b.den - b.num * a.den) (a.den * b.den) := by
  rw [Rat.sub_eq_add_neg, add_divInt, Rat.neg_num, Rat.neg_den, Int.neg_mul, Int.sub_eq_add_neg]
theorem s_law_times (a b : Rat) {k : Nat} (ha : Sz k a) (hb : Sz k b) (hk : k < 4400) : f_law_times [numD a, numD b] = .ok (numD (a * b)) := by
  refine f_of ?_
  have m1 := mulD_sz ha.1 hb.1 (by omega)
  have m3 := mulD_sz ha.d hb.d (by omega)
  have r1 := s_law_fr (a.num * b.num) (a.den * b.den) (den_ne a b) (le_add (sz_den ha hb) (by omega))
  rw [← mul_divInt] at r1
  simp only [numD_eq, b_law_times, ↓O_ret, ↓O_bad, ↓O_bnd, ↓O_opt, ↓O_if, ↓O_ite, ↓O_eN, ↓O_e1, ↓O_e2, ↓U_ap1, ↓U_ap2, ↓U_f1, ↓U_f2, ↓U_opt, ↓O_eD, ↓O_eV, ↓O_vl, ↓O_tB, ↓O_asB, ↓O_notM, ↓O_ofB, ↓O_andM, ↓O_orM, ↓O_args0, ↓O_args1, ↓U_apL, ↓U_tup, ↓U_lst, ↓U_call, ↓U_callN, ↓U_callM, ↓U_callMN, ↓U_itM, ↓U_rev, ↓O_noex, ↓S_seq, ↓S_nil, ↓S_pass, ↓S_brk, ↓S_cnt, ↓S_bad, ↓S_nx, ↓S_rt, ↓S_asg, ↓S_if, ↓S_exp, ↓S_retN, ↓S_ret, ↓S_retW, ↓S_new, ↓S_par, ↓S_par3, ↓S_for, gt, res, resL, vls, anyO, setV, setO, setMo, Sl.mo, Mo.dat, tName, Mir.tTup, Mir.tNil, Mir.tCons, tupN, tupD, lenN, lenD, absN, absD, intN, intD, maxN, maxD, minN, minD, negD, addD, subD, ltD, leD, gtD, geD, modD, ixD, isND, notND, at0, at1, at2, eq_int, ne_int, eq_bl, isi_tup, isi_int, isi_bl, isT_tt, isT_ii, isT_ib, allN, allD, anyN, anyD, itD, lstE, ↓reduceIte, Nat.reduceLT, Nat.reduceAdd, Nat.reduceLeDiff, Nat.zero_add, List.map, List.cons_append, List.nil_append, List.replicate, List.append_nil, List.length_cons, List.length_nil, Option.map_some, Option.map_none, Option.bind_some, List.set_cons_zero, List.set_cons_succ, Bool.false_and, Bool.true_and, Bool.and_false, Bool.and_true, Bool.not_true, Bool.not_false, if_true, if_false, Bool.false_eq_true, decide_true, decide_false, m1, m3, r1]
theorem s_require_count (i lo hi : Int) (h1 : lo ≤ i) (h2 : i ≤ hi) : f_require_count [.int i, .int lo, .int hi] = .ok .non := by
  refine f_of ?_
  simp only [b_require_count, ↓O_ret, ↓O_bad, ↓O_bnd, ↓O_opt, ↓O_if, ↓O_ite, ↓O_eN, ↓O_e1, ↓O_e2, ↓U_ap1, ↓U_ap2, ↓U_f1, ↓U_f2, ↓U_opt, ↓O_eD, ↓O_eV, ↓O_vl, ↓O_tB, ↓O_asB, ↓O_notM, ↓O_ofB, ↓O_andM, ↓O_orM, ↓O_args0, ↓O_args1, ↓U_apL, ↓U_tup, ↓U_lst, ↓U_call, ↓U_callN, ↓U_callM, ↓U_callMN, ↓U_itM, ↓U_rev, ↓O_noex, ↓S_seq, ↓S_nil, ↓S_pass, ↓S_brk, ↓S_cnt, ↓S_bad, ↓S_nx, ↓S_rt, ↓S_asg, ↓S_if, ↓S_exp, ↓S_retN, ↓S_ret, ↓S_retW, ↓S_new, ↓S_par, ↓S_par3, ↓S_for, gt, res, resL, vls, anyO, setV, setO, setMo, Sl.mo, Mo.dat, tName, Mir.tTup, Mir.tNil, Mir.tCons, tupN, tupD, lenN, lenD, absN, absD, intN, intD, maxN, maxD, minN, minD, negD, addD, subD, ltD, leD, gtD, geD, modD, ixD, isND, notND, at0, at1, at2, eq_int, ne_int, eq_bl, isi_tup, isi_int, isi_bl, isT_tt, isT_ii, isT_ib, allN, allD, anyN, anyD, itD, lstE, ↓reduceIte, Nat.reduceLT, Nat.reduceAdd, Nat.reduceLeDiff, Nat.zero_add, List.map, List.cons_append, List.nil_append, List.replicate, List.append_nil, List.length_cons, List.length_nil, Option.map_some, Option.map_none, Option.bind_some, List.set_cons_zero, List.set_cons_succ, Bool.false_and, Bool.true_and, Bool.and_false, Bool.and_true, Bool.not_true, Bool.not_false, if_true, if_false, Bool.false_eq_true, decide_true, decide_false, is_integer_int, U_chM (α := Unit), h1, h2]

theorem bls_true {α : Type} : ∀ (xs : List α), bls (xs.map fun _ => D.bl true) = some (xs.map fun _ => true)
  | [] => rfl
  | x :: r => by show (bls (r.map fun _ => D.bl true)).map (true :: ·) = _; rw [bls_true r]; rfl
theorem all_true {α : Type} (xs : List α) : allD (.lst (xs.map fun _ => D.bl true)) = some (.bl true) := by
  show (bls (xs.map fun _ => D.bl true)).map _ = _
  rw [bls_true]
  simp
/-- a slot that a plain name may take -/
def Fr (s : Sl) : Prop := s = .no ∨ ∃ d, s = .va d
theorem Fr.no : Fr .no := .inl rfl
theorem Fr.va {d : D} : Fr (.va d) := .inr ⟨d, rfl⟩
theorem cmp_map {vs : List Nat} {m : M (List D)} {t : Tg} {e : M Op} {g : En} (F : D → D) {ds : List D} (st : En → Prop) (hm : m g = .ok ds g) (hn : noO g vs = true)
    (hs : ∀ d ∈ ds, ∀ g, st g → ∃ g1, t d (wipeG g vs) = some g1 ∧ Out (e g1) (fun x g2 => x = .d (F d) ∧ st g2) (fun _ _ => False)) (hl : ds.length ≤ 16777216) (h0 : st g) : ∃ g', cmp vs m t yes e g = .ok (ds.map F) (restG g g' vs) ∧ st g' := by
  obtain ⟨g', h1, h2⟩ := cmL_map (F := F) st hs hl g h0
  refine ⟨g', ?_, h2⟩
  unfold cmp bnd
  rw [hm]
  simp only [hn, if_true, h1]
theorem all_numbers (xs : List Rat) (hl : xs.length ≤ 65536) : cmp [1] (bnd (eN 0) itM) (tName 1) yes (eD (bnd (eArgs [(eN 1)]) (callF 1 f_is_number []))) [.va (.tup (xs.map numD)), .no] = .ok ((xs.map numD).map fun _ => .bl true) [.va (.tup (xs.map numD)), .no] := by
  have key : ∀ d ∈ xs.map numD, ∀ g, (∃ s, Fr s ∧ g = [.va (.tup (xs.map numD)), s]) → ∃ g1, tName 1 d (wipeG g [1]) = some g1 ∧ Out ((eD (bnd (eArgs [(eN 1)]) (callF 1 f_is_number []))) g1) (fun x g2 => x = .d ((fun _ => .bl true) d) ∧ (∃ s, Fr s ∧ g2 = [.va (.tup (xs.map numD)), s])) (fun _ _ => False) := by
    intro d hd g ⟨s, hs, e⟩
    obtain ⟨r, _, rfl⟩ := List.mem_map.mp hd
    subst e
    refine ⟨[.va (.tup (xs.map numD)), .va (numD r)], rfl, ?_⟩
    simp only [↓O_ret, ↓O_bad, ↓O_bnd, ↓O_opt, ↓O_if, ↓O_ite, ↓O_eN, ↓O_e1, ↓O_e2, ↓U_ap1, ↓U_ap2, ↓U_f1, ↓U_f2, ↓U_opt, ↓O_eD, ↓O_eV, ↓O_vl, ↓O_tB, ↓O_asB, ↓O_notM, ↓O_ofB, ↓O_andM, ↓O_orM, ↓O_args0, ↓O_args1, ↓U_apL, ↓U_tup, ↓U_lst, ↓U_call, ↓U_callN, ↓U_callM, ↓U_callMN, ↓U_itM, ↓U_rev, ↓O_noex, ↓S_seq, ↓S_nil, ↓S_pass, ↓S_brk, ↓S_cnt, ↓S_bad, ↓S_nx, ↓S_rt, ↓S_asg, ↓S_if, ↓S_exp, ↓S_retN, ↓S_ret, ↓S_retW, ↓S_new, ↓S_par, ↓S_par3, ↓S_for, gt, res, resL, vls, anyO, setV, setO, setMo, Sl.mo, Mo.dat, tName, Mir.tTup, Mir.tNil, Mir.tCons, tupN, tupD, lenN, lenD, absN, absD, intN, intD, maxN, maxD, minN, minD, negD, addD, subD, ltD, leD, gtD, geD, modD, ixD, isND, notND, at0, at1, at2, eq_int, ne_int, eq_bl, isi_tup, isi_int, isi_bl, isT_tt, isT_ii, isT_ib, allN, allD, anyN, anyD, itD, lstE, ↓reduceIte, Nat.reduceLT, Nat.reduceAdd, Nat.reduceLeDiff, Nat.zero_add, List.map, List.cons_append, List.nil_append, List.replicate, List.append_nil, List.length_cons, List.length_nil, Option.map_some, Option.map_none, Option.bind_some, List.set_cons_zero, List.set_cons_succ, Bool.false_and, Bool.true_and, Bool.and_false, Bool.and_true, Bool.not_true, Bool.not_false, if_true, if_false, Bool.false_eq_true, decide_true, decide_false, s_is_number]
    exact ⟨trivial, _, .va, rfl⟩
  obtain ⟨g', h1, s, h2, rfl⟩ := cmp_map (g := [.va (.tup (xs.map numD)), .no]) (m := bnd (eN 0) itM) (fun _ => .bl true) _ rfl rfl key (by rw [List.length_map]; omega) ⟨_, .no, rfl⟩
  rw [h1]; rfl
def psum (xs : List Rat) : Rat := xs.foldl (· + ·) 0
theorem psum_take {xs : List Rat} {i : Nat} {x : Rat} (h : xs[i]? = some x) : psum (xs.take (i + 1)) = psum (xs.take i) + x := by
  unfold psum
  rw [List.take_add_one, h, Option.toList_some, List.foldl_append]; rfl
theorem psum_sz {k : Nat} {xs : List Rat} (h : ∀ x ∈ xs, Sz k x) : ∀ i, i ≤ xs.length → Sz ((k + 1) * i + 1) (psum (xs.take i))
  | 0, _ => by rw [List.take_zero]; exact Sz.zero
  | i + 1, hi => by
    have e := List.getElem?_eq_getElem (l := xs) (i := i) (by omega)
    rw [psum_take e]
    exact ((psum_sz h i (by omega)).add (h _ (List.getElem_mem _))).mono (by rw [Nat.mul_add]; omega)
theorem psum_reverse (xs : List Rat) : psum xs.reverse = psum xs := by
  unfold psum
  rw [← List.sum_eq_foldl, ← List.sum_eq_foldl, List.sum_reverse]
theorem rng_get {n i : Nat} {d : D} (h : (rng 0 n)[i]? = some d) : i < n ∧ d = .int i := by
  unfold rng at h
  rw [List.getElem?_map] at h
  cases e : (List.range n)[i]? with
  | none => rw [e] at h; cases h
  | some j =>
    rw [e] at h; cases h
    obtain ⟨hi, e⟩ := List.getElem?_eq_some_iff.mp e
    rw [List.getElem_range] at e
    rw [List.length_range] at hi
    subst e
    exact ⟨hi, by simp⟩
theorem rng_len (n : Nat) : (rng 0 n).length = n := by unfold rng; rw [List.length_map, List.length_range]
theorem O_rngN {n : Nat} (h : n < 1000000) {g : En} {P : List D → En → Prop} {E : Xn → En → Prop} : Out (rng1 [.d (.int n)] g) P E = P (rng 0 n) g := by
  rw [U_rng1, if_pos (inW_iff.mpr (by omega)), Int.toNat_natCast]
theorem big_dec {M t : Int} (h : ¬ M ≤ (t.natAbs : Int)) : decide (M ≤ if t < 0 then -t else t) = false := decide_eq_false (by rw [abs_nat]; exact h)
theorem S_sto {i : Nat} {mi mv : M Op} {g : En} {N : En → Prop} {R : Sl → En → Prop} {B C : En → Prop} {E : Xn → En → Prop} : SO (sSto i mi mv g) N R B C E = Out (mv g) (fun x g1 => match x with
    | .o _ => False
    | .d d => match (gt g1 i).mo with
      | none => False
      | some _ => Out (mi g1) (fun y g2 => match y, (gt g2 i).mo with
        | .d (.int k), some (.ls xs) => match ixN xs.length k with
          | some j => N (setMo g2 i (.ls (xs.set j d)))
          | none => False
        | _, _ => False) E) E := by
  unfold sSto; rw [S_then]
  refine congrArg (fun z => Out (mv g) z E) (funext fun x => funext fun g1 => ?_)
  cases x with
  | o _ => rfl
  | d d =>
    simp only
    cases (gt g1 i).mo with
    | none => rfl
    | some _ =>
      simp only
      rw [S_then]
      refine congrArg (fun z => Out (mi g1) z E) (funext fun y => funext fun g2 => ?_)
      cases y with
      | o _ => rfl
      | d y =>
        cases y <;> try rfl
        cases (gt g2 i).mo with
        | none => rfl
        | some m =>
          cases m with
          | ls xs => simp only; cases ixN xs.length _ <;> rfl
theorem powD_lit {a b : Int} (h : powOk a b = true) : powD (.int a) (.int b) = some (.int (a ^ b.toNat)) := if_pos h
theorem modD_ne {a b : Int} (h : b ≠ 0) : modD (.int a) (.int b) = some (.int (a.fmod b)) := if_neg h
theorem fdvD_ok {a b : Int} (h : b ≠ 0) (hb : b.natAbs < 2 ^ 9000) : fdvD (.int a) (.int b) = some (.int (a.fdiv b)) := by
  have e : fdvD (.int a) (.int b) = if divOk a b = true then some (.int (a.fdiv b)) else none := rfl
  rw [e, divOk_of h hb, if_pos rfl]
def Dice (m : Mo) : Prop := ∃ a b c : Int, m = .ls [.int a, .int b, .int c]
theorem fmod_lo {a b : Int} (h : 0 < b) : 0 ≤ a.fmod b := Int.fmod_nonneg_of_pos _ h
theorem fmod_hi {a b : Int} (h : 0 < b) : a.fmod b < b := Int.fmod_lt_of_pos _ h
theorem s_roll {m : Mo} (hm : Dice m) (n : Int) (h0 : 0 < n) (hn : n.natAbs < 2 ^ 9000) : ∃ d m', f_law_roll m [.int n] = .ok d m' ∧ Dice m' ∧ ∃ r : Int, d = .int r ∧ 0 ≤ r ∧ r < n := by
  obtain ⟨a, b, c, rfl⟩ := hm
  have hne : n ≠ 0 := by omega
  have f := fun a => fdvD_ok (a := a) hne hn
  have o := fun a => modD_ne (a := a) hne
  refine m_ex (Y := fun d m' => Dice m' ∧ ∃ r : Int, d = .int r ∧ 0 ≤ r ∧ r < n) ?_
  simp only [b_law_roll, ↓O_ret, ↓O_bad, ↓O_bnd, ↓O_opt, ↓O_if, ↓O_ite, ↓O_eN, ↓O_e1, ↓O_e2, ↓U_ap1, ↓U_ap2, ↓U_f1, ↓U_f2, ↓U_opt, ↓O_eD, ↓O_eV, ↓O_vl, ↓O_tB, ↓O_asB, ↓O_notM, ↓O_ofB, ↓O_andM, ↓O_orM, ↓O_args0, ↓O_args1, ↓U_apL, ↓U_tup, ↓U_lst, ↓U_call, ↓U_callN, ↓U_callM, ↓U_callMN, ↓U_itM, ↓U_rev, ↓O_noex, ↓S_seq, ↓S_nil, ↓S_pass, ↓S_brk, ↓S_cnt, ↓S_bad, ↓S_nx, ↓S_rt, ↓S_asg, ↓S_if, ↓S_exp, ↓S_retN, ↓S_ret, ↓S_retW, ↓S_new, ↓S_par, ↓S_par3, ↓S_for, gt, res, resL, vls, anyO, setV, setO, setMo, Sl.mo, Mo.dat, tName, Mir.tTup, Mir.tNil, Mir.tCons, tupN, tupD, lenN, lenD, absN, absD, intN, intD, maxN, maxD, minN, minD, negD, addD, subD, ltD, leD, gtD, geD, modD, ixD, isND, notND, at0, at1, at2, eq_int, ne_int, eq_bl, isi_tup, isi_int, isi_bl, isT_tt, isT_ii, isT_ib, allN, allD, anyN, anyD, itD, lstE, ↓reduceIte, Nat.reduceLT, Nat.reduceAdd, Nat.reduceLeDiff, Nat.zero_add, List.map, List.cons_append, List.nil_append, List.replicate, List.append_nil, List.length_cons, List.length_nil, Option.map_some, Option.map_none, Option.bind_some, List.set_cons_zero, List.set_cons_succ, Bool.false_and, Bool.true_and, Bool.and_false, Bool.and_true, Bool.not_true, Bool.not_false, if_true, if_false, Bool.false_eq_true, decide_true, decide_false]
  by_cases ha : 0 < a
  · simp only [S_sto, ha, f, o, ↓O_ret, ↓O_bad, ↓O_bnd, ↓O_opt, ↓O_if, ↓O_ite, ↓O_eN, ↓O_e1, ↓O_e2, ↓U_ap1, ↓U_ap2, ↓U_f1, ↓U_f2, ↓U_opt, ↓O_eD, ↓O_eV, ↓O_vl, ↓O_tB, ↓O_asB, ↓O_notM, ↓O_ofB, ↓O_andM, ↓O_orM, ↓O_args0, ↓O_args1, ↓U_apL, ↓U_tup, ↓U_lst, ↓U_call, ↓U_callN, ↓U_callM, ↓U_callMN, ↓U_itM, ↓U_rev, ↓O_noex, ↓S_seq, ↓S_nil, ↓S_pass, ↓S_brk, ↓S_cnt, ↓S_bad, ↓S_nx, ↓S_rt, ↓S_asg, ↓S_if, ↓S_exp, ↓S_retN, ↓S_ret, ↓S_retW, ↓S_new, ↓S_par, ↓S_par3, ↓S_for, gt, res, resL, vls, anyO, setV, setO, setMo, Sl.mo, Mo.dat, tName, Mir.tTup, Mir.tNil, Mir.tCons, tupN, tupD, lenN, lenD, absN, absD, intN, intD, maxN, maxD, minN, minD, negD, addD, subD, ltD, leD, gtD, geD, modD, ixD, isND, notND, at0, at1, at2, eq_int, ne_int, eq_bl, isi_tup, isi_int, isi_bl, isT_tt, isT_ii, isT_ib, allN, allD, anyN, anyD, itD, lstE, ↓reduceIte, Nat.reduceLT, Nat.reduceAdd, Nat.reduceLeDiff, Nat.zero_add, List.map, List.cons_append, List.nil_append, List.replicate, List.append_nil, List.length_cons, List.length_nil, Option.map_some, Option.map_none, Option.bind_some, List.set_cons_zero, List.set_cons_succ, Bool.false_and, Bool.true_and, Bool.and_false, Bool.and_true, Bool.not_true, Bool.not_false, if_true, if_false, Bool.false_eq_true, decide_true, decide_false, hne, if_false]
    exact ⟨_, _, rfl, rfl, ⟨_, _, _, rfl⟩, _, rfl, fmod_lo h0, fmod_hi h0⟩
  · have m1 : ∀ z : Int, mulD (.int 49979687) (.int z) = some (.int (49979687 * z)) := fun z => mulD_l (by decide)
    have m2 : ∀ z : Int, mulD (.int 131) (.int z) = some (.int (131 * z)) := fun z => mulD_l (by decide)
    have m3 : ∀ z : Int, mulD (.int z) (.int 32452843) = some (.int (z * 32452843)) := fun z => mulD_r (by decide)
    have p1 : (2305843009213693951 : Int) ≠ 0 := by decide
    have p2 : (2305843009213693921 : Int) ≠ 0 := by decide
    have p3 : ∀ z : Int, fdvD (.int z) (.int 65587) = some (.int (z.fdiv 65587)) := fun z => fdvD_ok (by decide) (le_add (k := 17) (by decide) (by omega))
    have m4 : ∀ z : Int, mulD (.int (z.fmod 2305843009213693951)) (.int (z.fmod 2305843009213693951)) = some (.int ((z.fmod 2305843009213693951) * (z.fmod 2305843009213693951))) := fun z => by
      have := fmod_lo (a := z) (b := 2305843009213693951) (by decide)
      have := fmod_hi (a := z) (b := 2305843009213693951) (by decide)
      exact mulD_l (by omega)
    simp only [S_sto, ha, ↓O_ret, ↓O_bad, ↓O_bnd, ↓O_opt, ↓O_if, ↓O_ite, ↓O_eN, ↓O_e1, ↓O_e2, ↓U_ap1, ↓U_ap2, ↓U_f1, ↓U_f2, ↓U_opt, ↓O_eD, ↓O_eV, ↓O_vl, ↓O_tB, ↓O_asB, ↓O_notM, ↓O_ofB, ↓O_andM, ↓O_orM, ↓O_args0, ↓O_args1, ↓U_apL, ↓U_tup, ↓U_lst, ↓U_call, ↓U_callN, ↓U_callM, ↓U_callMN, ↓U_itM, ↓U_rev, ↓O_noex, ↓S_seq, ↓S_nil, ↓S_pass, ↓S_brk, ↓S_cnt, ↓S_bad, ↓S_nx, ↓S_rt, ↓S_asg, ↓S_if, ↓S_exp, ↓S_retN, ↓S_ret, ↓S_retW, ↓S_new, ↓S_par, ↓S_par3, ↓S_for, gt, res, resL, vls, anyO, setV, setO, setMo, Sl.mo, Mo.dat, tName, Mir.tTup, Mir.tNil, Mir.tCons, tupN, tupD, lenN, lenD, absN, absD, intN, intD, maxN, maxD, minN, minD, negD, addD, subD, ltD, leD, gtD, geD, modD, ixD, isND, notND, at0, at1, at2, eq_int, ne_int, eq_bl, isi_tup, isi_int, isi_bl, isT_tt, isT_ii, isT_ib, allN, allD, anyN, anyD, itD, lstE, ↓reduceIte, Nat.reduceLT, Nat.reduceAdd, Nat.reduceLeDiff, Nat.zero_add, List.map, List.cons_append, List.nil_append, List.replicate, List.append_nil, List.length_cons, List.length_nil, Option.map_some, Option.map_none, Option.bind_some, List.set_cons_zero, List.set_cons_succ, Bool.false_and, Bool.true_and, Bool.and_false, Bool.and_true, Bool.not_true, Bool.not_false, if_true, if_false, Bool.false_eq_true, decide_true, decide_false, ix0, ix1, ix2, m1, m2, m3, m4, p1, p2, p3, o, hne]
    exact ⟨_, _, rfl, rfl, ⟨_, _, _, rfl⟩, _, rfl, fmod_lo h0, fmod_hi h0⟩

theorem lf_show {i : Int} (h : i.natAbs < 2 ^ 200) : PyData.showable (.int i) = true := by
  simp only [PyData.showable]
  exact decide_eq_true (Nat.lt_trans (log2_lt (k := 200) (by omega) h) (by omega))
theorem lf_short {i : Int} (h : i.natAbs < 2 ^ 200) : PyData.leavesShort 250 (.int i) = true := by
  simp only [PyData.leavesShort]
  refine decide_eq_true ?_
  rw [PyData.shown_int, ofString_length]
  have := int_text_length_le (a := i) (k := 200) (by omega) (log2_lt (by omega) h)
  omega
theorem lf_weight {i : Int} (h : i.natAbs < 2 ^ 200) : PyData.weight (.int i) ≤ 200 := by
  simp only [PyData.weight]
  have := log2_lt (k := 200) (by omega) h
  split <;> omega
def numP (r : Rat) : PyData := .tuple [.int r.num, .int (r.den : Int)]
theorem np_show {r : Rat} (h : Sz 200 r) : (numP r).showable = true := by
  have a := lf_show h.1
  have b := lf_show h.d
  simp only [numP, PyData.showable, PyData.showableAll, Bool.and_true, Bool.and_eq_true] at a b ⊢
  exact ⟨a, b⟩
theorem np_short {r : Rat} (h : Sz 200 r) : (numP r).leavesShort 250 = true := by
  have a := lf_short h.1
  have b := lf_short h.d
  simp only [numP, PyData.leavesShort, PyData.leavesShortAll, Bool.and_true, Bool.and_eq_true] at a b ⊢
  exact ⟨a, b⟩
theorem np_weight {r : Rat} (h : Sz 200 r) : (numP r).weight ≤ 402 := by
  have a := lf_weight h.1
  have b := lf_weight h.d
  unfold numP
  rw [PyData.weight]
  simp only [PyData.weightAll]
  omega
theorem np_lay (r : Rat) : (numP r).canLay0 = true := by simp only [numP, PyData.canLay0, PyData.canLayAll0]; rfl
theorem np_depth (r : Rat) : (numP r).depth = 1 := by simp only [numP, PyData.depth, PyData.depthAll]; rfl
theorem showOk_of {p : PyData} (h1 : p.showable = true) (h2 : p.canLay0 = true) (h3 : p.depth ≤ 64) (h4 : p.leavesShort 250 = true) (h5 : p.weight ≤ 60000) : showOk p = true := by
  have := PyData.shown_le 250 (by omega) p h4
  have h6 : SeqAt.shaped p = true := by unfold SeqAt.shaped; rw [h2, decide_eq_true h3]; rfl
  unfold showOk
  rw [h1, h6, decide_eq_true (by omega)]; rfl
def TOk (s : Str) : Prop := ∀ c ∈ s.cps.toList, c < 0x110000
theorem TOk.app {a b : Str} (ha : TOk a) (hb : TOk b) : TOk (a ++ b) := by
  intro c h
  have h : c ∈ (a.cps ++ b.cps).toList := h
  rw [Array.toList_append, List.mem_append] at h
  exact h.elim (ha c) (hb c)
theorem TOk.of (s : String) : TOk (Str.ofString s) := by
  rw [Str.ofString_eq_toList]
  intro c h
  have h : c ∈ (s.toList.map Char.toNat) := by simpa using h
  obtain ⟨x, _, rfl⟩ := List.mem_map.mp h
  have := x.valid
  unfold UInt32.isValidChar Nat.isValidChar at this
  show x.val.toNat < _
  omega
theorem TOk.coe (s : String) : TOk (s : Str) := TOk.of s
theorem TOk.join {sep : Str} (hs : TOk sep) : ∀ {ts : List Str}, (∀ t ∈ ts, TOk t) → TOk (Str.join sep ts)
  | [], _ => TOk.of ""
  | [x], h => h x List.mem_cons_self
  | x :: y :: r, h => ((h x List.mem_cons_self).app hs).app (TOk.join hs fun t ht => h t (List.mem_cons_of_mem _ ht))
theorem TOk.str {s : Str} (h : TOk s) : PyData.strOk s = true := by
  unfold PyData.strOk
  rw [← Array.all_toList, List.all_eq_true]
  intro c hc
  exact decide_eq_true (h c hc)
theorem TOk.int (i : Int) : TOk (PyData.int i).shown := by rw [PyData.shown_int]; exact TOk.of _
theorem np_ok (r : Rat) : TOk (numP r).shown := by
  unfold numP
  rw [PyData.shown_tuple]
  refine ((TOk.of "(").app (TOk.join (TOk.of ", ") ?_)).app (TOk.of _)
  simp only [PyData.shownAll_cons, PyData.shownAll_nil]
  intro t ht
  simp only [List.mem_cons, List.not_mem_nil, or_false] at ht
  rcases ht with rfl | rfl <;> exact TOk.int _
theorem eq_str {s : Str} (h : TOk s) : eqD (.str s) (.str s) = some (.bl true) := by
  have e : SeqAt.shaped (.str s) = true := by
    unfold SeqAt.shaped
    simp only [PyData.canLay0, h.str, PyData.depth]; rfl
  show ((if (SeqAt.shaped (.str s) && SeqAt.shaped (.str s)) = true then some (PyData.eqv (.str s) (.str s)) else none).map D.bl) = _
  rw [e]
  simp [PyData.eqv]
theorem ne_str {s : Str} (h : TOk s) : neD (.str s) (.str s) = some (.bl false) := by
  have := eq_str h
  unfold eqD at this
  unfold neD
  cases e : pyE (.str s) (.str s) with
  | none => rw [e] at this; cases this
  | some v =>
    rw [e] at this
    injection this with this
    injection this with this
    subst this; rfl
theorem rep1 {r : Rat} (h : Sz 200 r) : ∃ s, reprN [numD r] = some (.str s) ∧ TOk s := by
  have : showOk (numP r) = true := showOk_of (np_show h) (np_lay r) (by rw [np_depth]; omega) (np_short h) (Nat.le_trans (np_weight h) (by omega))
  refine ⟨(numP r).shown, ?_, np_ok r⟩
  show (if showOk (numP r) = true then some (D.str (numP r).shown) else none) = _
  rw [if_pos this]
theorem rep4 {a b c d : Rat} (ha : Sz 200 a) (hb : Sz 200 b) (hc : Sz 200 c) (hd : Sz 200 d) : ∃ s, reprN [.lst [numD a, numD b, numD c, numD d]] = some (.str s) ∧ TOk s := by
  have : showOk (.list [numP a, numP b, numP c, numP d]) = true := by
    refine showOk_of ?_ ?_ ?_ ?_ ?_
    · simp only [PyData.showable, PyData.showableAll, np_show ha, np_show hb, np_show hc, np_show hd]; rfl
    · simp only [PyData.canLay0, PyData.canLayAll0, np_lay]; rfl
    · simp only [PyData.depth, PyData.depthAll, np_depth]; decide
    · simp only [PyData.leavesShort, PyData.leavesShortAll, np_short ha, np_short hb, np_short hc, np_short hd]; rfl
    · simp only [PyData.weight, PyData.weightAll]
      have := np_weight ha
      have := np_weight hb
      have := np_weight hc
      have := np_weight hd
      omega
  refine ⟨(PyData.list [numP a, numP b, numP c, numP d]).shown, ?_, ?_⟩
  rotate_left
  · rw [PyData.shown_list]
    refine ((TOk.of "[").app (TOk.join (TOk.of ", ") ?_)).app (TOk.of "]")
    simp only [PyData.shownAll_cons, PyData.shownAll_nil]
    intro t ht
    simp only [List.mem_cons, List.not_mem_nil, or_false] at ht
    rcases ht with rfl | rfl | rfl | rfl <;> exact np_ok _
  show (if showOk (.list [numP a, numP b, numP c, numP d]) = true then some (D.str (PyData.list [numP a, numP b, numP c, numP d]).shown) else none) = _
  rw [if_pos this]

theorem atI_pos {α : Type} {xs : List α} {i : Int} (h0 : 0 ≤ i) (h : i < xs.length) : ∃ x, atI xs i = some x ∧ x ∈ xs := by
  have hk : i.toNat < xs.length := by omega
  refine ⟨xs[i.toNat], ?_, List.getElem_mem _⟩
  unfold atI ixN
  rw [if_pos h0, if_pos h]
  exact List.getElem?_eq_getElem hk
theorem s_pick {m : Mo} (hm : Dice m) {xs : List D} (h : 0 < xs.length) (hl : xs.length < 2 ^ 60) : ∃ d m', f_law_pick m [.lst xs] = .ok d m' ∧ Dice m' ∧ d ∈ xs := by
  obtain ⟨_, m', e, hm', r, rfl, h0, h1⟩ := s_roll hm (xs.length : Int) (by omega) (le_add (k := 60) (by omega) (by omega))
  obtain ⟨x, e2, hx⟩ := atI_pos (xs := xs) h0 h1
  refine m_ex (Y := fun d m' => Dice m' ∧ d ∈ xs) ?_
  simp only [b_law_pick, ↓O_ret, ↓O_bad, ↓O_bnd, ↓O_opt, ↓O_if, ↓O_ite, ↓O_eN, ↓O_e1, ↓O_e2, ↓U_ap1, ↓U_ap2, ↓U_f1, ↓U_f2, ↓U_opt, ↓O_eD, ↓O_eV, ↓O_vl, ↓O_tB, ↓O_asB, ↓O_notM, ↓O_ofB, ↓O_andM, ↓O_orM, ↓O_args0, ↓O_args1, ↓U_apL, ↓U_tup, ↓U_lst, ↓U_call, ↓U_callN, ↓U_callM, ↓U_callMN, ↓U_itM, ↓U_rev, ↓O_noex, ↓S_seq, ↓S_nil, ↓S_pass, ↓S_brk, ↓S_cnt, ↓S_bad, ↓S_nx, ↓S_rt, ↓S_asg, ↓S_if, ↓S_exp, ↓S_retN, ↓S_ret, ↓S_retW, ↓S_new, ↓S_par, ↓S_par3, ↓S_for, gt, res, resL, vls, anyO, setV, setO, setMo, Sl.mo, Mo.dat, tName, Mir.tTup, Mir.tNil, Mir.tCons, tupN, tupD, lenN, lenD, absN, absD, intN, intD, maxN, maxD, minN, minD, negD, addD, subD, ltD, leD, gtD, geD, modD, ixD, isND, notND, at0, at1, at2, eq_int, ne_int, eq_bl, isi_tup, isi_int, isi_bl, isT_tt, isT_ii, isT_ib, allN, allD, anyN, anyD, itD, lstE, ↓reduceIte, Nat.reduceLT, Nat.reduceAdd, Nat.reduceLeDiff, Nat.zero_add, List.map, List.cons_append, List.nil_append, List.replicate, List.append_nil, List.length_cons, List.length_nil, Option.map_some, Option.map_none, Option.bind_some, List.set_cons_zero, List.set_cons_succ, Bool.false_and, Bool.true_and, Bool.and_false, Bool.and_true, Bool.not_true, Bool.not_false, if_true, if_false, Bool.false_eq_true, decide_true, decide_false, e, e2]
  exact ⟨x, m', rfl, rfl, hm', hx⟩
theorem bnd_ok {α β : Type} {m : M α} {f : α → M β} {g g' : En} {a : α} (h : m g = .ok a g') : bnd m f g = f a g' := by unfold bnd; rw [h]
theorem s_dice (ns : List Int) (i : Int) (h0 : 0 ≤ i) (h1 : i < 100) : ∃ xs, f_law_dice [.frl (ns.map .int), .int i] = .new xs ∧ Dice (.ls xs) := by
  have p1 : powD (.int 10) (.int 53) = some (.int (10 ^ 53)) := powD_lit (a := 10) (b := 53) (by decide)
  have p2 : powD (.int (10 ^ 53)) (.int 6) = some (.int ((10 ^ 53) ^ 6)) := powD_lit (a := 10 ^ 53) (b := 6) (by decide)
  have p3 : powD (.int 10) (.int 16) = some (.int (10 ^ 16)) := powD_lit (a := 10) (b := 16) (by decide)
  have m1 : ∀ z : Int, mulD (.int 131) (.int z) = some (.int (131 * z)) := fun z => mulD_l (by decide)
  have m2 : ∀ z : Int, mulD (.int z) (.int 73) = some (.int (z * 73)) := fun z => mulD_r (by decide)
  have m3 : ∀ z : Int, mulD (.int 619) (.int z) = some (.int (619 * z)) := fun z => mulD_l (by decide)
  have m4 : ∀ z : Int, mulD (.int 41) (.int z) = some (.int (41 * z)) := fun z => mulD_l (by decide)
  refine f_exN (Y := fun xs => Dice (.ls xs)) ?_
  have hM0 : ((10 ^ 53 : Int) ^ 6) ≠ 0 := by decide
  have hM1 : (2305843009213693907 : Int) ≠ 0 := by decide
  generalize hM : (10 ^ 53 : Int) ^ 6 = M at p2 hM0
  generalize hM2 : (10 ^ 53 : Int) = M2 at p1 p2
  generalize hM3 : (10 ^ 16 : Int) = M3 at p3
  clear hM hM2 hM3
  by_cases hi : i < (ns.length : Int)
  · have hx : ∃ x : Int, atI (ns.map D.int) i = some (.int x) := by
      obtain ⟨d, e, hd⟩ := atI_pos (xs := ns.map D.int) h0 (by rw [List.length_map]; exact hi)
      obtain ⟨x, _, rfl⟩ := List.mem_map.mp hd
      exact ⟨x, e⟩
    obtain ⟨x, hx⟩ := hx
    simp only [b_law_dice, ↓O_ret, ↓O_bad, ↓O_bnd, ↓O_opt, ↓O_if, ↓O_ite, ↓O_eN, ↓O_e1, ↓O_e2, ↓U_ap1, ↓U_ap2, ↓U_f1, ↓U_f2, ↓U_opt, ↓O_eD, ↓O_eV, ↓O_vl, ↓O_tB, ↓O_asB, ↓O_notM, ↓O_ofB, ↓O_andM, ↓O_orM, ↓O_args0, ↓O_args1, ↓U_apL, ↓U_tup, ↓U_lst, ↓U_call, ↓U_callN, ↓U_callM, ↓U_callMN, ↓U_itM, ↓U_rev, ↓O_noex, ↓S_seq, ↓S_nil, ↓S_pass, ↓S_brk, ↓S_cnt, ↓S_bad, ↓S_nx, ↓S_rt, ↓S_asg, ↓S_if, ↓S_exp, ↓S_retN, ↓S_ret, ↓S_retW, ↓S_new, ↓S_par, ↓S_par3, ↓S_for, gt, res, resL, vls, anyO, setV, setO, setMo, Sl.mo, Mo.dat, tName, Mir.tTup, Mir.tNil, Mir.tCons, tupN, tupD, lenN, lenD, absN, absD, intN, intD, maxN, maxD, minN, minD, negD, addD, subD, ltD, leD, gtD, geD, modD, ixD, isND, notND, at0, at1, at2, eq_int, ne_int, eq_bl, isi_tup, isi_int, isi_bl, isT_tt, isT_ii, isT_ib, allN, allD, anyN, anyD, itD, lstE, ↓reduceIte, Nat.reduceLT, Nat.reduceAdd, Nat.reduceLeDiff, Nat.zero_add, List.map, List.cons_append, List.nil_append, List.replicate, List.append_nil, List.length_cons, List.length_nil, Option.map_some, Option.map_none, Option.bind_some, List.set_cons_zero, List.set_cons_succ, Bool.false_and, Bool.true_and, Bool.and_false, Bool.and_true, Bool.not_true, Bool.not_false, if_true, if_false, Bool.false_eq_true, decide_true, decide_false, List.length_map, hM0, hM1, hi, hx, p1, p2, p3]
    simp only [m2, m3, m4, hM0, hM1, ↓O_ret, ↓O_bad, ↓O_bnd, ↓O_opt, ↓O_if, ↓O_ite, ↓O_eN, ↓O_e1, ↓O_e2, ↓U_ap1, ↓U_ap2, ↓U_f1, ↓U_f2, ↓U_opt, ↓O_eD, ↓O_eV, ↓O_vl, ↓O_tB, ↓O_asB, ↓O_notM, ↓O_ofB, ↓O_andM, ↓O_orM, ↓O_args0, ↓O_args1, ↓U_apL, ↓U_tup, ↓U_lst, ↓U_call, ↓U_callN, ↓U_callM, ↓U_callMN, ↓U_itM, ↓U_rev, ↓O_noex, ↓S_seq, ↓S_nil, ↓S_pass, ↓S_brk, ↓S_cnt, ↓S_bad, ↓S_nx, ↓S_rt, ↓S_asg, ↓S_if, ↓S_exp, ↓S_retN, ↓S_ret, ↓S_retW, ↓S_new, ↓S_par, ↓S_par3, ↓S_for, gt, res, resL, vls, anyO, setV, setO, setMo, Sl.mo, Mo.dat, tName, Mir.tTup, Mir.tNil, Mir.tCons, tupN, tupD, lenN, lenD, absN, absD, intN, intD, maxN, maxD, minN, minD, negD, addD, subD, ltD, leD, gtD, geD, modD, ixD, isND, notND, at0, at1, at2, eq_int, ne_int, eq_bl, isi_tup, isi_int, isi_bl, isT_tt, isT_ii, isT_ib, allN, allD, anyN, anyD, itD, lstE, ↓reduceIte, Nat.reduceLT, Nat.reduceAdd, Nat.reduceLeDiff, Nat.zero_add, List.map, List.cons_append, List.nil_append, List.replicate, List.append_nil, List.length_cons, List.length_nil, Option.map_some, Option.map_none, Option.bind_some, List.set_cons_zero, List.set_cons_succ, Bool.false_and, Bool.true_and, Bool.and_false, Bool.and_true, Bool.not_true, Bool.not_false, if_true, if_false, Bool.false_eq_true, decide_true, decide_false]
    exact ⟨_, rfl, _, _, _, rfl⟩
  · simp only [b_law_dice, ↓O_ret, ↓O_bad, ↓O_bnd, ↓O_opt, ↓O_if, ↓O_ite, ↓O_eN, ↓O_e1, ↓O_e2, ↓U_ap1, ↓U_ap2, ↓U_f1, ↓U_f2, ↓U_opt, ↓O_eD, ↓O_eV, ↓O_vl, ↓O_tB, ↓O_asB, ↓O_notM, ↓O_ofB, ↓O_andM, ↓O_orM, ↓O_args0, ↓O_args1, ↓U_apL, ↓U_tup, ↓U_lst, ↓U_call, ↓U_callN, ↓U_callM, ↓U_callMN, ↓U_itM, ↓U_rev, ↓O_noex, ↓S_seq, ↓S_nil, ↓S_pass, ↓S_brk, ↓S_cnt, ↓S_bad, ↓S_nx, ↓S_rt, ↓S_asg, ↓S_if, ↓S_exp, ↓S_retN, ↓S_ret, ↓S_retW, ↓S_new, ↓S_par, ↓S_par3, ↓S_for, gt, res, resL, vls, anyO, setV, setO, setMo, Sl.mo, Mo.dat, tName, Mir.tTup, Mir.tNil, Mir.tCons, tupN, tupD, lenN, lenD, absN, absD, intN, intD, maxN, maxD, minN, minD, negD, addD, subD, ltD, leD, gtD, geD, modD, ixD, isND, notND, at0, at1, at2, eq_int, ne_int, eq_bl, isi_tup, isi_int, isi_bl, isT_tt, isT_ii, isT_ib, allN, allD, anyN, anyD, itD, lstE, ↓reduceIte, Nat.reduceLT, Nat.reduceAdd, Nat.reduceLeDiff, Nat.zero_add, List.map, List.cons_append, List.nil_append, List.replicate, List.append_nil, List.length_cons, List.length_nil, Option.map_some, Option.map_none, Option.bind_some, List.set_cons_zero, List.set_cons_succ, Bool.false_and, Bool.true_and, Bool.and_false, Bool.and_true, Bool.not_true, Bool.not_false, if_true, if_false, Bool.false_eq_true, decide_true, decide_false, List.length_map, hM0, hM1, hi, m1, p1, p2, p3]
    simp only [m2, m3, m4, hM0, hM1, ↓O_ret, ↓O_bad, ↓O_bnd, ↓O_opt, ↓O_if, ↓O_ite, ↓O_eN, ↓O_e1, ↓O_e2, ↓U_ap1, ↓U_ap2, ↓U_f1, ↓U_f2, ↓U_opt, ↓O_eD, ↓O_eV, ↓O_vl, ↓O_tB, ↓O_asB, ↓O_notM, ↓O_ofB, ↓O_andM, ↓O_orM, ↓O_args0, ↓O_args1, ↓U_apL, ↓U_tup, ↓U_lst, ↓U_call, ↓U_callN, ↓U_callM, ↓U_callMN, ↓U_itM, ↓U_rev, ↓O_noex, ↓S_seq, ↓S_nil, ↓S_pass, ↓S_brk, ↓S_cnt, ↓S_bad, ↓S_nx, ↓S_rt, ↓S_asg, ↓S_if, ↓S_exp, ↓S_retN, ↓S_ret, ↓S_retW, ↓S_new, ↓S_par, ↓S_par3, ↓S_for, gt, res, resL, vls, anyO, setV, setO, setMo, Sl.mo, Mo.dat, tName, Mir.tTup, Mir.tNil, Mir.tCons, tupN, tupD, lenN, lenD, absN, absD, intN, intD, maxN, maxD, minN, minD, negD, addD, subD, ltD, leD, gtD, geD, modD, ixD, isND, notND, at0, at1, at2, eq_int, ne_int, eq_bl, isi_tup, isi_int, isi_bl, isT_tt, isT_ii, isT_ib, allN, allD, anyN, anyD, itD, lstE, ↓reduceIte, Nat.reduceLT, Nat.reduceAdd, Nat.reduceLeDiff, Nat.zero_add, List.map, List.cons_append, List.nil_append, List.replicate, List.append_nil, List.length_cons, List.length_nil, Option.map_some, Option.map_none, Option.bind_some, List.set_cons_zero, List.set_cons_succ, Bool.false_and, Bool.true_and, Bool.and_false, Bool.and_true, Bool.not_true, Bool.not_false, if_true, if_false, Bool.false_eq_true, decide_true, decide_false]
    exact ⟨_, rfl, _, _, _, rfl⟩

/-! rows and tables of numbers -/
def rowD (r : List Rat) : D := .tup (r.map numD)
def tabD (t : List (List Rat)) : D := .tup (t.map rowD)
theorem rowD_eq (r : List Rat) : rowD r = .tup (r.map numD) := rfl
theorem tabD_eq (t : List (List Rat)) : tabD t = .tup (t.map rowD) := rfl
/-- every number of a row, of a table, lies below 2 ^ k -/
def RSz (k : Nat) (r : List Rat) : Prop := ∀ x ∈ r, Sz k x
def TSz (k : Nat) (t : List (List Rat)) : Prop := ∀ r ∈ t, RSz k r
def Shape (h w : Nat) (t : List (List Rat)) : Prop := t.length = h ∧ ∀ r ∈ t, r.length = w
theorem isi_tt {xs : List D} : isiN [.tup xs, .ty "tuple"] = some (.bl true) := by rw [isi_tup, isT_tt]; rfl
theorem s_is_plain_row (w : Nat) (r : List Rat) (h : r.length = w) (hw : w ≤ 1000) : f_is_plain_row [.int w, rowD r] = .ok (.bl true) := by
  refine f_of ?_
  have c := cmp_okA (vs := [2]) (m := bnd (eN 1) itM) (t := tName 2) (e := (eD (bnd (eArgs [(eN 2)]) (callF 1 f_is_number [])))) (g := [.va (.int w), .va (rowD r), .no]) numD (fun _ => .bl true) (xs := r) rfl rfl (fun x hx => by
    refine ⟨_, rfl, ?_⟩
    simp only [wipeG, ↓O_ret, ↓O_bad, ↓O_bnd, ↓O_opt, ↓O_if, ↓O_ite, ↓O_eN, ↓O_e1, ↓O_e2, ↓U_ap1, ↓U_ap2, ↓U_f1, ↓U_f2, ↓U_opt, ↓O_eD, ↓O_eV, ↓O_vl, ↓O_tB, ↓O_asB, ↓O_notM, ↓O_ofB, ↓O_andM, ↓O_orM, ↓O_args0, ↓O_args1, ↓U_apL, ↓U_tup, ↓U_lst, ↓U_call, ↓U_callN, ↓U_callM, ↓U_callMN, ↓U_itM, ↓U_rev, ↓O_noex, ↓S_seq, ↓S_nil, ↓S_pass, ↓S_brk, ↓S_cnt, ↓S_bad, ↓S_nx, ↓S_rt, ↓S_asg, ↓S_if, ↓S_exp, ↓S_retN, ↓S_ret, ↓S_retW, ↓S_new, ↓S_par, ↓S_par3, ↓S_for, gt, res, resL, vls, anyO, setV, setO, setMo, Sl.mo, Mo.dat, tName, Mir.tTup, Mir.tNil, Mir.tCons, tupN, tupD, lenN, lenD, absN, absD, intN, intD, maxN, maxD, minN, minD, negD, addD, subD, ltD, leD, gtD, geD, modD, ixD, isND, notND, at0, at1, at2, eq_int, ne_int, eq_bl, isi_tup, isi_int, isi_bl, isT_tt, isT_ii, isT_ib, allN, allD, anyN, anyD, itD, lstE, ↓reduceIte, Nat.reduceLT, Nat.reduceAdd, Nat.reduceLeDiff, Nat.zero_add, List.map, List.cons_append, List.nil_append, List.replicate, List.append_nil, List.length_cons, List.length_nil, Option.map_some, Option.map_none, Option.bind_some, List.set_cons_zero, List.set_cons_succ, Bool.false_and, Bool.true_and, Bool.and_false, Bool.and_true, Bool.not_true, Bool.not_false, if_true, if_false, Bool.false_eq_true, decide_true, decide_false, s_is_number]
    exact ⟨by first | trivial | rfl, by first | trivial | rfl⟩) (by omega)
  have a := all_true r
  unfold allD at a
  have hl : (((r.map numD).length : Nat) : Int) == (w : Int) := by rw [List.length_map, h]; simp
  simp only [rowD_eq] at c
  simp only [b_is_plain_row, rowD_eq, ↓O_ret, ↓O_bad, ↓O_bnd, ↓O_opt, ↓O_if, ↓O_ite, ↓O_eN, ↓O_e1, ↓O_e2, ↓U_ap1, ↓U_ap2, ↓U_f1, ↓U_f2, ↓U_opt, ↓O_eD, ↓O_eV, ↓O_vl, ↓O_tB, ↓O_asB, ↓O_notM, ↓O_ofB, ↓O_andM, ↓O_orM, ↓O_args0, ↓O_args1, ↓U_apL, ↓U_tup, ↓U_lst, ↓U_call, ↓U_callN, ↓U_callM, ↓U_callMN, ↓U_itM, ↓U_rev, ↓O_noex, ↓S_seq, ↓S_nil, ↓S_pass, ↓S_brk, ↓S_cnt, ↓S_bad, ↓S_nx, ↓S_rt, ↓S_asg, ↓S_if, ↓S_exp, ↓S_retN, ↓S_ret, ↓S_retW, ↓S_new, ↓S_par, ↓S_par3, ↓S_for, gt, res, resL, vls, anyO, setV, setO, setMo, Sl.mo, Mo.dat, tName, Mir.tTup, Mir.tNil, Mir.tCons, tupN, tupD, lenN, lenD, absN, absD, intN, intD, maxN, maxD, minN, minD, negD, addD, subD, ltD, leD, gtD, geD, modD, ixD, isND, notND, at0, at1, at2, eq_int, ne_int, eq_bl, isi_tup, isi_int, isi_bl, isT_tt, isT_ii, isT_ib, allN, allD, anyN, anyD, itD, lstE, ↓reduceIte, Nat.reduceLT, Nat.reduceAdd, Nat.reduceLeDiff, Nat.zero_add, List.map, List.cons_append, List.nil_append, List.replicate, List.append_nil, List.length_cons, List.length_nil, Option.map_some, Option.map_none, Option.bind_some, List.set_cons_zero, List.set_cons_succ, Bool.false_and, Bool.true_and, Bool.and_false, Bool.and_true, Bool.not_true, Bool.not_false, if_true, if_false, Bool.false_eq_true, decide_true, decide_false, c, ↓O_ok, a, hl]
theorem s_is_plain_table (h w : Nat) (t : List (List Rat)) (ht : Shape h w t) (hh : h ≤ 1000) (hw : w ≤ 1000) : f_is_plain_table [.int h, .int w, tabD t] = .ok (.bl true) := by
  refine f_of ?_
  have c := cmp_okA (vs := [3]) (m := bnd (eN 2) itM) (t := tName 3) (e := (eD (bnd (eArgs [(eN 1), (eN 3)]) (callF 2 f_is_plain_row [])))) (g := [.va (.int h), .va (.int w), .va (tabD t), .no]) rowD (fun _ => .bl true) (xs := t) rfl rfl (fun x hx => by
    refine ⟨_, rfl, ?_⟩
    simp only [wipeG, ↓O_ret, ↓O_bad, ↓O_bnd, ↓O_opt, ↓O_if, ↓O_ite, ↓O_eN, ↓O_e1, ↓O_e2, ↓U_ap1, ↓U_ap2, ↓U_f1, ↓U_f2, ↓U_opt, ↓O_eD, ↓O_eV, ↓O_vl, ↓O_tB, ↓O_asB, ↓O_notM, ↓O_ofB, ↓O_andM, ↓O_orM, ↓O_args0, ↓O_args1, ↓U_apL, ↓U_tup, ↓U_lst, ↓U_call, ↓U_callN, ↓U_callM, ↓U_callMN, ↓U_itM, ↓U_rev, ↓O_noex, ↓S_seq, ↓S_nil, ↓S_pass, ↓S_brk, ↓S_cnt, ↓S_bad, ↓S_nx, ↓S_rt, ↓S_asg, ↓S_if, ↓S_exp, ↓S_retN, ↓S_ret, ↓S_retW, ↓S_new, ↓S_par, ↓S_par3, ↓S_for, gt, res, resL, vls, anyO, setV, setO, setMo, Sl.mo, Mo.dat, tName, Mir.tTup, Mir.tNil, Mir.tCons, tupN, tupD, lenN, lenD, absN, absD, intN, intD, maxN, maxD, minN, minD, negD, addD, subD, ltD, leD, gtD, geD, modD, ixD, isND, notND, at0, at1, at2, eq_int, ne_int, eq_bl, isi_tup, isi_int, isi_bl, isT_tt, isT_ii, isT_ib, allN, allD, anyN, anyD, itD, lstE, ↓reduceIte, Nat.reduceLT, Nat.reduceAdd, Nat.reduceLeDiff, Nat.zero_add, List.map, List.cons_append, List.nil_append, List.replicate, List.append_nil, List.length_cons, List.length_nil, Option.map_some, Option.map_none, Option.bind_some, List.set_cons_zero, List.set_cons_succ, Bool.false_and, Bool.true_and, Bool.and_false, Bool.and_true, Bool.not_true, Bool.not_false, if_true, if_false, Bool.false_eq_true, decide_true, decide_false, s_is_plain_row w x (ht.2 x hx) hw]
    exact ⟨by first | trivial | rfl, by first | trivial | rfl⟩) (by have := ht.1; omega)
  have a := all_true t
  unfold allD at a
  have hl : (((t.map rowD).length : Nat) : Int) == (h : Int) := by rw [List.length_map, ht.1]; simp
  simp only [tabD_eq] at c
  simp only [b_is_plain_table, tabD_eq, ↓O_ret, ↓O_bad, ↓O_bnd, ↓O_opt, ↓O_if, ↓O_ite, ↓O_eN, ↓O_e1, ↓O_e2, ↓U_ap1, ↓U_ap2, ↓U_f1, ↓U_f2, ↓U_opt, ↓O_eD, ↓O_eV, ↓O_vl, ↓O_tB, ↓O_asB, ↓O_notM, ↓O_ofB, ↓O_andM, ↓O_orM, ↓O_args0, ↓O_args1, ↓U_apL, ↓U_tup, ↓U_lst, ↓U_call, ↓U_callN, ↓U_callM, ↓U_callMN, ↓U_itM, ↓U_rev, ↓O_noex, ↓S_seq, ↓S_nil, ↓S_pass, ↓S_brk, ↓S_cnt, ↓S_bad, ↓S_nx, ↓S_rt, ↓S_asg, ↓S_if, ↓S_exp, ↓S_retN, ↓S_ret, ↓S_retW, ↓S_new, ↓S_par, ↓S_par3, ↓S_for, gt, res, resL, vls, anyO, setV, setO, setMo, Sl.mo, Mo.dat, tName, Mir.tTup, Mir.tNil, Mir.tCons, tupN, tupD, lenN, lenD, absN, absD, intN, intD, maxN, maxD, minN, minD, negD, addD, subD, ltD, leD, gtD, geD, modD, ixD, isND, notND, at0, at1, at2, eq_int, ne_int, eq_bl, isi_tup, isi_int, isi_bl, isT_tt, isT_ii, isT_ib, allN, allD, anyN, anyD, itD, lstE, ↓reduceIte, Nat.reduceLT, Nat.reduceAdd, Nat.reduceLeDiff, Nat.zero_add, List.map, List.cons_append, List.nil_append, List.replicate, List.append_nil, List.length_cons, List.length_nil, Option.map_some, Option.map_none, Option.bind_some, List.set_cons_zero, List.set_cons_succ, Bool.false_and, Bool.true_and, Bool.and_false, Bool.and_true, Bool.not_true, Bool.not_false, if_true, if_false, Bool.false_eq_true, decide_true, decide_false, c, ↓O_ok, a, hl]
theorem s_require_row (w : Nat) (r : List Rat) (h : r.length = w) (hw : w ≤ 1000) : f_require_row [.int w, rowD r] = .ok .non := by
  refine f_of ?_
  simp only [b_require_row, ↓O_ret, ↓O_bad, ↓O_bnd, ↓O_opt, ↓O_if, ↓O_ite, ↓O_eN, ↓O_e1, ↓O_e2, ↓U_ap1, ↓U_ap2, ↓U_f1, ↓U_f2, ↓U_opt, ↓O_eD, ↓O_eV, ↓O_vl, ↓O_tB, ↓O_asB, ↓O_notM, ↓O_ofB, ↓O_andM, ↓O_orM, ↓O_args0, ↓O_args1, ↓U_apL, ↓U_tup, ↓U_lst, ↓U_call, ↓U_callN, ↓U_callM, ↓U_callMN, ↓U_itM, ↓U_rev, ↓O_noex, ↓S_seq, ↓S_nil, ↓S_pass, ↓S_brk, ↓S_cnt, ↓S_bad, ↓S_nx, ↓S_rt, ↓S_asg, ↓S_if, ↓S_exp, ↓S_retN, ↓S_ret, ↓S_retW, ↓S_new, ↓S_par, ↓S_par3, ↓S_for, gt, res, resL, vls, anyO, setV, setO, setMo, Sl.mo, Mo.dat, tName, Mir.tTup, Mir.tNil, Mir.tCons, tupN, tupD, lenN, lenD, absN, absD, intN, intD, maxN, maxD, minN, minD, negD, addD, subD, ltD, leD, gtD, geD, modD, ixD, isND, notND, at0, at1, at2, eq_int, ne_int, eq_bl, isi_tup, isi_int, isi_bl, isT_tt, isT_ii, isT_ib, allN, allD, anyN, anyD, itD, lstE, ↓reduceIte, Nat.reduceLT, Nat.reduceAdd, Nat.reduceLeDiff, Nat.zero_add, List.map, List.cons_append, List.nil_append, List.replicate, List.append_nil, List.length_cons, List.length_nil, Option.map_some, Option.map_none, Option.bind_some, List.set_cons_zero, List.set_cons_succ, Bool.false_and, Bool.true_and, Bool.and_false, Bool.and_true, Bool.not_true, Bool.not_false, if_true, if_false, Bool.false_eq_true, decide_true, decide_false, s_is_plain_row w r h hw]
theorem s_require_table (h w : Nat) (t : List (List Rat)) (ht : Shape h w t) (hh : h ≤ 1000) (hw : w ≤ 1000) : f_require_table [.int h, .int w, tabD t] = .ok .non := by
  refine f_of ?_
  simp only [b_require_table, ↓O_ret, ↓O_bad, ↓O_bnd, ↓O_opt, ↓O_if, ↓O_ite, ↓O_eN, ↓O_e1, ↓O_e2, ↓U_ap1, ↓U_ap2, ↓U_f1, ↓U_f2, ↓U_opt, ↓O_eD, ↓O_eV, ↓O_vl, ↓O_tB, ↓O_asB, ↓O_notM, ↓O_ofB, ↓O_andM, ↓O_orM, ↓O_args0, ↓O_args1, ↓U_apL, ↓U_tup, ↓U_lst, ↓U_call, ↓U_callN, ↓U_callM, ↓U_callMN, ↓U_itM, ↓U_rev, ↓O_noex, ↓S_seq, ↓S_nil, ↓S_pass, ↓S_brk, ↓S_cnt, ↓S_bad, ↓S_nx, ↓S_rt, ↓S_asg, ↓S_if, ↓S_exp, ↓S_retN, ↓S_ret, ↓S_retW, ↓S_new, ↓S_par, ↓S_par3, ↓S_for, gt, res, resL, vls, anyO, setV, setO, setMo, Sl.mo, Mo.dat, tName, Mir.tTup, Mir.tNil, Mir.tCons, tupN, tupD, lenN, lenD, absN, absD, intN, intD, maxN, maxD, minN, minD, negD, addD, subD, ltD, leD, gtD, geD, modD, ixD, isND, notND, at0, at1, at2, eq_int, ne_int, eq_bl, isi_tup, isi_int, isi_bl, isT_tt, isT_ii, isT_ib, allN, allD, anyN, anyD, itD, lstE, ↓reduceIte, Nat.reduceLT, Nat.reduceAdd, Nat.reduceLeDiff, Nat.zero_add, List.map, List.cons_append, List.nil_append, List.replicate, List.append_nil, List.length_cons, List.length_nil, Option.map_some, Option.map_none, Option.bind_some, List.set_cons_zero, List.set_cons_succ, Bool.false_and, Bool.true_and, Bool.and_false, Bool.and_true, Bool.not_true, Bool.not_false, if_true, if_false, Bool.false_eq_true, decide_true, decide_false, s_is_plain_table h w t ht hh hw]
theorem s_require_width (w : Nat) (hw : w ≤ 144) : f_require_width [.int w] = .ok .non := by
  refine f_of ?_
  have c := s_require_count w 0 144 (by omega) (by omega)
  have e : c_MAX_WIDTH = 144 := rfl
  simp only [b_require_width, ↓O_ret, ↓O_bad, ↓O_bnd, ↓O_opt, ↓O_if, ↓O_ite, ↓O_eN, ↓O_e1, ↓O_e2, ↓U_ap1, ↓U_ap2, ↓U_f1, ↓U_f2, ↓U_opt, ↓O_eD, ↓O_eV, ↓O_vl, ↓O_tB, ↓O_asB, ↓O_notM, ↓O_ofB, ↓O_andM, ↓O_orM, ↓O_args0, ↓O_args1, ↓U_apL, ↓U_tup, ↓U_lst, ↓U_call, ↓U_callN, ↓U_callM, ↓U_callMN, ↓U_itM, ↓U_rev, ↓O_noex, ↓S_seq, ↓S_nil, ↓S_pass, ↓S_brk, ↓S_cnt, ↓S_bad, ↓S_nx, ↓S_rt, ↓S_asg, ↓S_if, ↓S_exp, ↓S_retN, ↓S_ret, ↓S_retW, ↓S_new, ↓S_par, ↓S_par3, ↓S_for, gt, res, resL, vls, anyO, setV, setO, setMo, Sl.mo, Mo.dat, tName, Mir.tTup, Mir.tNil, Mir.tCons, tupN, tupD, lenN, lenD, absN, absD, intN, intD, maxN, maxD, minN, minD, negD, addD, subD, ltD, leD, gtD, geD, modD, ixD, isND, notND, at0, at1, at2, eq_int, ne_int, eq_bl, isi_tup, isi_int, isi_bl, isT_tt, isT_ii, isT_ib, allN, allD, anyN, anyD, itD, lstE, ↓reduceIte, Nat.reduceLT, Nat.reduceAdd, Nat.reduceLeDiff, Nat.zero_add, List.map, List.cons_append, List.nil_append, List.replicate, List.append_nil, List.length_cons, List.length_nil, Option.map_some, Option.map_none, Option.bind_some, List.set_cons_zero, List.set_cons_succ, Bool.false_and, Bool.true_and, Bool.and_false, Bool.and_true, Bool.not_true, Bool.not_false, if_true, if_false, Bool.false_eq_true, decide_true, decide_false, e, c]
theorem s_require_sized (h w : Nat) (t : List (List Rat)) (ht : Shape h w t) (hh : h ≤ 144) (hw : w ≤ 144) : f_require_sized [.int h, .int w, tabD t] = .ok .non := by
  refine f_of ?_
  simp only [b_require_sized, ↓O_ret, ↓O_bad, ↓O_bnd, ↓O_opt, ↓O_if, ↓O_ite, ↓O_eN, ↓O_e1, ↓O_e2, ↓U_ap1, ↓U_ap2, ↓U_f1, ↓U_f2, ↓U_opt, ↓O_eD, ↓O_eV, ↓O_vl, ↓O_tB, ↓O_asB, ↓O_notM, ↓O_ofB, ↓O_andM, ↓O_orM, ↓O_args0, ↓O_args1, ↓U_apL, ↓U_tup, ↓U_lst, ↓U_call, ↓U_callN, ↓U_callM, ↓U_callMN, ↓U_itM, ↓U_rev, ↓O_noex, ↓S_seq, ↓S_nil, ↓S_pass, ↓S_brk, ↓S_cnt, ↓S_bad, ↓S_nx, ↓S_rt, ↓S_asg, ↓S_if, ↓S_exp, ↓S_retN, ↓S_ret, ↓S_retW, ↓S_new, ↓S_par, ↓S_par3, ↓S_for, gt, res, resL, vls, anyO, setV, setO, setMo, Sl.mo, Mo.dat, tName, Mir.tTup, Mir.tNil, Mir.tCons, tupN, tupD, lenN, lenD, absN, absD, intN, intD, maxN, maxD, minN, minD, negD, addD, subD, ltD, leD, gtD, geD, modD, ixD, isND, notND, at0, at1, at2, eq_int, ne_int, eq_bl, isi_tup, isi_int, isi_bl, isT_tt, isT_ii, isT_ib, allN, allD, anyN, anyD, itD, lstE, ↓reduceIte, Nat.reduceLT, Nat.reduceAdd, Nat.reduceLeDiff, Nat.zero_add, List.map, List.cons_append, List.nil_append, List.replicate, List.append_nil, List.length_cons, List.length_nil, Option.map_some, Option.map_none, Option.bind_some, List.set_cons_zero, List.set_cons_succ, Bool.false_and, Bool.true_and, Bool.and_false, Bool.and_true, Bool.not_true, Bool.not_false, if_true, if_false, Bool.false_eq_true, decide_true, decide_false, s_require_width h hh, s_require_width w hw, s_require_table h w t ht (by omega) (by omega)]
theorem s_rest_row (w : Nat) (hw : w ≤ 1000) : f_rest_row [.int w] = .ok (rowD (List.replicate w 0)) := by
  refine f_of ?_
  have m : mulD (.tup [.tup [.int 0, .int 1]]) (.int w) = some (rowD (List.replicate w 0)) := by
    have e : mulD (.tup [.tup [.int 0, .int 1]]) (.int w) = if (0 ≤ (w : Int) ∧ (w : Int) ≤ 1000) ∧ 1 ≤ 1000 then some (.tup (List.replicate (w : Int).toNat [D.tup [.int 0, .int 1]]).flatten) else none := rfl
    rw [e, if_pos (by omega), rowD_eq, List.map_replicate, numD_zero, Int.toNat_natCast]
    congr 2
    clear e hw
    induction w with
    | zero => rfl
    | succ n ih => rw [List.replicate_succ, List.flatten_cons, List.replicate_succ, ih]; rfl
  simp only [b_rest_row, ↓O_ret, ↓O_bad, ↓O_bnd, ↓O_opt, ↓O_if, ↓O_ite, ↓O_eN, ↓O_e1, ↓O_e2, ↓U_ap1, ↓U_ap2, ↓U_f1, ↓U_f2, ↓U_opt, ↓O_eD, ↓O_eV, ↓O_vl, ↓O_tB, ↓O_asB, ↓O_notM, ↓O_ofB, ↓O_andM, ↓O_orM, ↓O_args0, ↓O_args1, ↓U_apL, ↓U_tup, ↓U_lst, ↓U_call, ↓U_callN, ↓U_callM, ↓U_callMN, ↓U_itM, ↓U_rev, ↓O_noex, ↓S_seq, ↓S_nil, ↓S_pass, ↓S_brk, ↓S_cnt, ↓S_bad, ↓S_nx, ↓S_rt, ↓S_asg, ↓S_if, ↓S_exp, ↓S_retN, ↓S_ret, ↓S_retW, ↓S_new, ↓S_par, ↓S_par3, ↓S_for, gt, res, resL, vls, anyO, setV, setO, setMo, Sl.mo, Mo.dat, tName, Mir.tTup, Mir.tNil, Mir.tCons, tupN, tupD, lenN, lenD, absN, absD, intN, intD, maxN, maxD, minN, minD, negD, addD, subD, ltD, leD, gtD, geD, modD, ixD, isND, notND, at0, at1, at2, eq_int, ne_int, eq_bl, isi_tup, isi_int, isi_bl, isT_tt, isT_ii, isT_ib, allN, allD, anyN, anyD, itD, lstE, ↓reduceIte, Nat.reduceLT, Nat.reduceAdd, Nat.reduceLeDiff, Nat.zero_add, List.map, List.cons_append, List.nil_append, List.replicate, List.append_nil, List.length_cons, List.length_nil, Option.map_some, Option.map_none, Option.bind_some, List.set_cons_zero, List.set_cons_succ, Bool.false_and, Bool.true_and, Bool.and_false, Bool.and_true, Bool.not_true, Bool.not_false, if_true, if_false, Bool.false_eq_true, decide_true, decide_false, m]
def unitRow (w i : Nat) : List Rat := (List.range w).map fun p => if p = i then 1 else 0
def unitTab (w : Nat) : List (List Rat) := (List.range w).map fun i => unitRow w i
theorem rng0 (n : Nat) : rng 0 n = (List.range n).map fun i => D.int (i : Nat) := by
  unfold rng
  simp
theorem rngA (n : Nat) (h : n < 1000000) (g : En) : rng1 [.d (.int n)] g = .ok ((List.range n).map fun i => D.int (i : Nat)) g := by
  unfold rng1
  simp only
  rw [if_pos (inW_iff.mpr (by omega)), Int.toNat_natCast, rng0]; rfl
theorem s_unit_row (w i : Nat) (hw : w ≤ 1000) : f_unit_row [.int w, .int i] = .ok (rowD (unitRow w i)) := by
  refine f_of ?_
  have c := cmp_okA (vs := [2]) (m := bnd (eArgs [(eN 0)]) rng1) (t := tName 2) (e := (eD (ite' (tB (e2 (eN 2) (eN 1) (f2 eqD))) (Mir.ret (D.tup [(D.int 1), (D.int 1)])) (Mir.ret (D.tup [(D.int 0), (D.int 1)]))))) (g := [.va (.int w), .va (.int i), .no]) (fun p : Nat => D.int p) (fun p => numD (if p = i then 1 else 0)) (xs := List.range w) ((bnd_ok rfl).trans (rngA w (by omega) _)) rfl (fun x hx => by
    refine ⟨_, rfl, ?_⟩
    by_cases h : x = i
    · subst h
      simp only [wipeG, ↓O_ret, ↓O_bad, ↓O_bnd, ↓O_opt, ↓O_if, ↓O_ite, ↓O_eN, ↓O_e1, ↓O_e2, ↓U_ap1, ↓U_ap2, ↓U_f1, ↓U_f2, ↓U_opt, ↓O_eD, ↓O_eV, ↓O_vl, ↓O_tB, ↓O_asB, ↓O_notM, ↓O_ofB, ↓O_andM, ↓O_orM, ↓O_args0, ↓O_args1, ↓U_apL, ↓U_tup, ↓U_lst, ↓U_call, ↓U_callN, ↓U_callM, ↓U_callMN, ↓U_itM, ↓U_rev, ↓O_noex, ↓S_seq, ↓S_nil, ↓S_pass, ↓S_brk, ↓S_cnt, ↓S_bad, ↓S_nx, ↓S_rt, ↓S_asg, ↓S_if, ↓S_exp, ↓S_retN, ↓S_ret, ↓S_retW, ↓S_new, ↓S_par, ↓S_par3, ↓S_for, gt, res, resL, vls, anyO, setV, setO, setMo, Sl.mo, Mo.dat, tName, Mir.tTup, Mir.tNil, Mir.tCons, tupN, tupD, lenN, lenD, absN, absD, intN, intD, maxN, maxD, minN, minD, negD, addD, subD, ltD, leD, gtD, geD, modD, ixD, isND, notND, at0, at1, at2, eq_int, ne_int, eq_bl, isi_tup, isi_int, isi_bl, isT_tt, isT_ii, isT_ib, allN, allD, anyN, anyD, itD, lstE, ↓reduceIte, Nat.reduceLT, Nat.reduceAdd, Nat.reduceLeDiff, Nat.zero_add, List.map, List.cons_append, List.nil_append, List.replicate, List.append_nil, List.length_cons, List.length_nil, Option.map_some, Option.map_none, Option.bind_some, List.set_cons_zero, List.set_cons_succ, Bool.false_and, Bool.true_and, Bool.and_false, Bool.and_true, Bool.not_true, Bool.not_false, if_true, if_false, Bool.false_eq_true, decide_true, decide_false, beq_self_eq_true, numD_one]
      exact ⟨by first | trivial | rfl, by first | trivial | rfl⟩
    · have h2 : ((x : Int) == (i : Int)) = false := by rw [beq_eq_false_iff_ne]; omega
      simp only [wipeG, ↓O_ret, ↓O_bad, ↓O_bnd, ↓O_opt, ↓O_if, ↓O_ite, ↓O_eN, ↓O_e1, ↓O_e2, ↓U_ap1, ↓U_ap2, ↓U_f1, ↓U_f2, ↓U_opt, ↓O_eD, ↓O_eV, ↓O_vl, ↓O_tB, ↓O_asB, ↓O_notM, ↓O_ofB, ↓O_andM, ↓O_orM, ↓O_args0, ↓O_args1, ↓U_apL, ↓U_tup, ↓U_lst, ↓U_call, ↓U_callN, ↓U_callM, ↓U_callMN, ↓U_itM, ↓U_rev, ↓O_noex, ↓S_seq, ↓S_nil, ↓S_pass, ↓S_brk, ↓S_cnt, ↓S_bad, ↓S_nx, ↓S_rt, ↓S_asg, ↓S_if, ↓S_exp, ↓S_retN, ↓S_ret, ↓S_retW, ↓S_new, ↓S_par, ↓S_par3, ↓S_for, gt, res, resL, vls, anyO, setV, setO, setMo, Sl.mo, Mo.dat, tName, Mir.tTup, Mir.tNil, Mir.tCons, tupN, tupD, lenN, lenD, absN, absD, intN, intD, maxN, maxD, minN, minD, negD, addD, subD, ltD, leD, gtD, geD, modD, ixD, isND, notND, at0, at1, at2, eq_int, ne_int, eq_bl, isi_tup, isi_int, isi_bl, isT_tt, isT_ii, isT_ib, allN, allD, anyN, anyD, itD, lstE, ↓reduceIte, Nat.reduceLT, Nat.reduceAdd, Nat.reduceLeDiff, Nat.zero_add, List.map, List.cons_append, List.nil_append, List.replicate, List.append_nil, List.length_cons, List.length_nil, Option.map_some, Option.map_none, Option.bind_some, List.set_cons_zero, List.set_cons_succ, Bool.false_and, Bool.true_and, Bool.and_false, Bool.and_true, Bool.not_true, Bool.not_false, if_true, if_false, Bool.false_eq_true, decide_true, decide_false, h2, h, if_neg, numD_zero]
      exact ⟨by first | trivial | rfl, by first | trivial | rfl⟩) (by rw [List.length_range]; omega)
  simp only [b_unit_row, ↓O_ret, ↓O_bad, ↓O_bnd, ↓O_opt, ↓O_if, ↓O_ite, ↓O_eN, ↓O_e1, ↓O_e2, ↓U_ap1, ↓U_ap2, ↓U_f1, ↓U_f2, ↓U_opt, ↓O_eD, ↓O_eV, ↓O_vl, ↓O_tB, ↓O_asB, ↓O_notM, ↓O_ofB, ↓O_andM, ↓O_orM, ↓O_args0, ↓O_args1, ↓U_apL, ↓U_tup, ↓U_lst, ↓U_call, ↓U_callN, ↓U_callM, ↓U_callMN, ↓U_itM, ↓U_rev, ↓O_noex, ↓S_seq, ↓S_nil, ↓S_pass, ↓S_brk, ↓S_cnt, ↓S_bad, ↓S_nx, ↓S_rt, ↓S_asg, ↓S_if, ↓S_exp, ↓S_retN, ↓S_ret, ↓S_retW, ↓S_new, ↓S_par, ↓S_par3, ↓S_for, gt, res, resL, vls, anyO, setV, setO, setMo, Sl.mo, Mo.dat, tName, Mir.tTup, Mir.tNil, Mir.tCons, tupN, tupD, lenN, lenD, absN, absD, intN, intD, maxN, maxD, minN, minD, negD, addD, subD, ltD, leD, gtD, geD, modD, ixD, isND, notND, at0, at1, at2, eq_int, ne_int, eq_bl, isi_tup, isi_int, isi_bl, isT_tt, isT_ii, isT_ib, allN, allD, anyN, anyD, itD, lstE, ↓reduceIte, Nat.reduceLT, Nat.reduceAdd, Nat.reduceLeDiff, Nat.zero_add, List.map, List.cons_append, List.nil_append, List.replicate, List.append_nil, List.length_cons, List.length_nil, Option.map_some, Option.map_none, Option.bind_some, List.set_cons_zero, List.set_cons_succ, Bool.false_and, Bool.true_and, Bool.and_false, Bool.and_true, Bool.not_true, Bool.not_false, if_true, if_false, Bool.false_eq_true, decide_true, decide_false, c, ↓O_ok, rowD_eq, unitRow, List.map_map, Function.comp_def]
theorem s_unit_table (w : Nat) (hw : w ≤ 1000) : f_unit_table [.int w] = .ok (tabD (unitTab w)) := by
  refine f_of ?_
  have c := cmp_okA (vs := [1]) (m := bnd (eArgs [(eN 0)]) rng1) (t := tName 1) (e := (eD (bnd (eArgs [(eN 0), (eN 1)]) (callF 2 f_unit_row [])))) (g := [.va (.int w), .no]) (fun p : Nat => D.int p) (fun p => rowD (unitRow w p)) (xs := List.range w) ((bnd_ok rfl).trans (rngA w (by omega) _)) rfl (fun x hx => by
    refine ⟨_, rfl, ?_⟩
    simp only [wipeG, ↓O_ret, ↓O_bad, ↓O_bnd, ↓O_opt, ↓O_if, ↓O_ite, ↓O_eN, ↓O_e1, ↓O_e2, ↓U_ap1, ↓U_ap2, ↓U_f1, ↓U_f2, ↓U_opt, ↓O_eD, ↓O_eV, ↓O_vl, ↓O_tB, ↓O_asB, ↓O_notM, ↓O_ofB, ↓O_andM, ↓O_orM, ↓O_args0, ↓O_args1, ↓U_apL, ↓U_tup, ↓U_lst, ↓U_call, ↓U_callN, ↓U_callM, ↓U_callMN, ↓U_itM, ↓U_rev, ↓O_noex, ↓S_seq, ↓S_nil, ↓S_pass, ↓S_brk, ↓S_cnt, ↓S_bad, ↓S_nx, ↓S_rt, ↓S_asg, ↓S_if, ↓S_exp, ↓S_retN, ↓S_ret, ↓S_retW, ↓S_new, ↓S_par, ↓S_par3, ↓S_for, gt, res, resL, vls, anyO, setV, setO, setMo, Sl.mo, Mo.dat, tName, Mir.tTup, Mir.tNil, Mir.tCons, tupN, tupD, lenN, lenD, absN, absD, intN, intD, maxN, maxD, minN, minD, negD, addD, subD, ltD, leD, gtD, geD, modD, ixD, isND, notND, at0, at1, at2, eq_int, ne_int, eq_bl, isi_tup, isi_int, isi_bl, isT_tt, isT_ii, isT_ib, allN, allD, anyN, anyD, itD, lstE, ↓reduceIte, Nat.reduceLT, Nat.reduceAdd, Nat.reduceLeDiff, Nat.zero_add, List.map, List.cons_append, List.nil_append, List.replicate, List.append_nil, List.length_cons, List.length_nil, Option.map_some, Option.map_none, Option.bind_some, List.set_cons_zero, List.set_cons_succ, Bool.false_and, Bool.true_and, Bool.and_false, Bool.and_true, Bool.not_true, Bool.not_false, if_true, if_false, Bool.false_eq_true, decide_true, decide_false, s_unit_row w x hw]
    exact ⟨by first | trivial | rfl, by first | trivial | rfl⟩) (by rw [List.length_range]; omega)
  simp only [b_unit_table, ↓O_ret, ↓O_bad, ↓O_bnd, ↓O_opt, ↓O_if, ↓O_ite, ↓O_eN, ↓O_e1, ↓O_e2, ↓U_ap1, ↓U_ap2, ↓U_f1, ↓U_f2, ↓U_opt, ↓O_eD, ↓O_eV, ↓O_vl, ↓O_tB, ↓O_asB, ↓O_notM, ↓O_ofB, ↓O_andM, ↓O_orM, ↓O_args0, ↓O_args1, ↓U_apL, ↓U_tup, ↓U_lst, ↓U_call, ↓U_callN, ↓U_callM, ↓U_callMN, ↓U_itM, ↓U_rev, ↓O_noex, ↓S_seq, ↓S_nil, ↓S_pass, ↓S_brk, ↓S_cnt, ↓S_bad, ↓S_nx, ↓S_rt, ↓S_asg, ↓S_if, ↓S_exp, ↓S_retN, ↓S_ret, ↓S_retW, ↓S_new, ↓S_par, ↓S_par3, ↓S_for, gt, res, resL, vls, anyO, setV, setO, setMo, Sl.mo, Mo.dat, tName, Mir.tTup, Mir.tNil, Mir.tCons, tupN, tupD, lenN, lenD, absN, absD, intN, intD, maxN, maxD, minN, minD, negD, addD, subD, ltD, leD, gtD, geD, modD, ixD, isND, notND, at0, at1, at2, eq_int, ne_int, eq_bl, isi_tup, isi_int, isi_bl, isT_tt, isT_ii, isT_ib, allN, allD, anyN, anyD, itD, lstE, ↓reduceIte, Nat.reduceLT, Nat.reduceAdd, Nat.reduceLeDiff, Nat.zero_add, List.map, List.cons_append, List.nil_append, List.replicate, List.append_nil, List.length_cons, List.length_nil, Option.map_some, Option.map_none, Option.bind_some, List.set_cons_zero, List.set_cons_succ, Bool.false_and, Bool.true_and, Bool.and_false, Bool.and_true, Bool.not_true, Bool.not_false, if_true, if_false, Bool.false_eq_true, decide_true, decide_false, c, ↓O_ok, tabD_eq, unitTab, List.map_map, Function.comp_def]
theorem s_unit (w : Nat) (hw : w ≤ 144) : f_unit [.int w] = .ok (tabD (unitTab w)) := by
  refine f_of ?_
  simp only [b_unit, ↓O_ret, ↓O_bad, ↓O_bnd, ↓O_opt, ↓O_if, ↓O_ite, ↓O_eN, ↓O_e1, ↓O_e2, ↓U_ap1, ↓U_ap2, ↓U_f1, ↓U_f2, ↓U_opt, ↓O_eD, ↓O_eV, ↓O_vl, ↓O_tB, ↓O_asB, ↓O_notM, ↓O_ofB, ↓O_andM, ↓O_orM, ↓O_args0, ↓O_args1, ↓U_apL, ↓U_tup, ↓U_lst, ↓U_call, ↓U_callN, ↓U_callM, ↓U_callMN, ↓U_itM, ↓U_rev, ↓O_noex, ↓S_seq, ↓S_nil, ↓S_pass, ↓S_brk, ↓S_cnt, ↓S_bad, ↓S_nx, ↓S_rt, ↓S_asg, ↓S_if, ↓S_exp, ↓S_retN, ↓S_ret, ↓S_retW, ↓S_new, ↓S_par, ↓S_par3, ↓S_for, gt, res, resL, vls, anyO, setV, setO, setMo, Sl.mo, Mo.dat, tName, Mir.tTup, Mir.tNil, Mir.tCons, tupN, tupD, lenN, lenD, absN, absD, intN, intD, maxN, maxD, minN, minD, negD, addD, subD, ltD, leD, gtD, geD, modD, ixD, isND, notND, at0, at1, at2, eq_int, ne_int, eq_bl, isi_tup, isi_int, isi_bl, isT_tt, isT_ii, isT_ib, allN, allD, anyN, anyD, itD, lstE, ↓reduceIte, Nat.reduceLT, Nat.reduceAdd, Nat.reduceLeDiff, Nat.zero_add, List.map, List.cons_append, List.nil_append, List.replicate, List.append_nil, List.length_cons, List.length_nil, Option.map_some, Option.map_none, Option.bind_some, List.set_cons_zero, List.set_cons_succ, Bool.false_and, Bool.true_and, Bool.and_false, Bool.and_true, Bool.not_true, Bool.not_false, if_true, if_false, Bool.false_eq_true, decide_true, decide_false, s_require_width w hw, s_unit_table w (by omega)]
/-! pairs of two rows -/
def pairD (p : D × D) : D := .tup [p.1, p.2]
theorem zipA {α β : Type} (f : α → D) (g : β → D) (xs : List α) (ys : List β) : zipD (xs.map f) (ys.map g) = (xs.zip ys).map fun p => D.tup [f p.1, g p.2] := by
  unfold zipD
  rw [List.zip_map, List.map_map]; rfl
def addRow (a b : List Rat) : List Rat := (a.zip b).map fun p => p.1 + p.2
theorem s_sum_of_rows (a b : List Rat) {k : Nat} (ha : RSz k a) (hb : RSz k b) (hk : k < 4400) (hl : a.length ≤ 1000) : f_sum_of_rows [rowD a, rowD b] = .ok (rowD (addRow a b)) := by
  refine f_of ?_
  have c := cmp_okA (vs := [2, 3]) (m := bnd (eArgs [(eN 0), (eN 1)]) zipM) (t := Mir.tTup 2 (Mir.tCons (tName 2) (Mir.tCons (tName 3) Mir.tNil))) (e := (eD (bnd (eArgs [(eN 2), (eN 3)]) (callF 2 f_added [])))) (g := [.va (rowD a), .va (rowD b), .no, .no]) (fun p : Rat × Rat => D.tup [numD p.1, numD p.2]) (fun p => numD (p.1 + p.2)) (xs := a.zip b) (by
      show Rs.ok (zipD (a.map numD) (b.map numD)) _ = _
      rw [zipA]) rfl (fun x hx => by
    refine ⟨_, rfl, ?_⟩
    have e := s_added x.1 x.2 (ha _ (List.of_mem_zip hx).1) (hb _ (List.of_mem_zip hx).2) hk
    simp only [wipeG, ↓O_ret, ↓O_bad, ↓O_bnd, ↓O_opt, ↓O_if, ↓O_ite, ↓O_eN, ↓O_e1, ↓O_e2, ↓U_ap1, ↓U_ap2, ↓U_f1, ↓U_f2, ↓U_opt, ↓O_eD, ↓O_eV, ↓O_vl, ↓O_tB, ↓O_asB, ↓O_notM, ↓O_ofB, ↓O_andM, ↓O_orM, ↓O_args0, ↓O_args1, ↓U_apL, ↓U_tup, ↓U_lst, ↓U_call, ↓U_callN, ↓U_callM, ↓U_callMN, ↓U_itM, ↓U_rev, ↓O_noex, ↓S_seq, ↓S_nil, ↓S_pass, ↓S_brk, ↓S_cnt, ↓S_bad, ↓S_nx, ↓S_rt, ↓S_asg, ↓S_if, ↓S_exp, ↓S_retN, ↓S_ret, ↓S_retW, ↓S_new, ↓S_par, ↓S_par3, ↓S_for, gt, res, resL, vls, anyO, setV, setO, setMo, Sl.mo, Mo.dat, tName, Mir.tTup, Mir.tNil, Mir.tCons, tupN, tupD, lenN, lenD, absN, absD, intN, intD, maxN, maxD, minN, minD, negD, addD, subD, ltD, leD, gtD, geD, modD, ixD, isND, notND, at0, at1, at2, eq_int, ne_int, eq_bl, isi_tup, isi_int, isi_bl, isT_tt, isT_ii, isT_ib, allN, allD, anyN, anyD, itD, lstE, ↓reduceIte, Nat.reduceLT, Nat.reduceAdd, Nat.reduceLeDiff, Nat.zero_add, List.map, List.cons_append, List.nil_append, List.replicate, List.append_nil, List.length_cons, List.length_nil, Option.map_some, Option.map_none, Option.bind_some, List.set_cons_zero, List.set_cons_succ, Bool.false_and, Bool.true_and, Bool.and_false, Bool.and_true, Bool.not_true, Bool.not_false, if_true, if_false, Bool.false_eq_true, decide_true, decide_false, e]
    exact ⟨by first | trivial | rfl, by first | trivial | rfl⟩) (by rw [List.length_zip]; omega)
  simp only [rowD_eq] at c
  have hz : ((a.zip b).map fun p => numD (p.1 + p.2)).length ≤ 65536 := by rw [List.length_map, List.length_zip]; omega
  simp only [b_sum_of_rows, rowD_eq, ↓O_ret, ↓O_bad, ↓O_bnd, ↓O_opt, ↓O_if, ↓O_ite, ↓O_eN, ↓O_e1, ↓O_e2, ↓U_ap1, ↓U_ap2, ↓U_f1, ↓U_f2, ↓U_opt, ↓O_eD, ↓O_eV, ↓O_vl, ↓O_tB, ↓O_asB, ↓O_notM, ↓O_ofB, ↓O_andM, ↓O_orM, ↓O_args0, ↓O_args1, ↓U_apL, ↓U_tup, ↓U_lst, ↓U_call, ↓U_callN, ↓U_callM, ↓U_callMN, ↓U_itM, ↓U_rev, ↓O_noex, ↓S_seq, ↓S_nil, ↓S_pass, ↓S_brk, ↓S_cnt, ↓S_bad, ↓S_nx, ↓S_rt, ↓S_asg, ↓S_if, ↓S_exp, ↓S_retN, ↓S_ret, ↓S_retW, ↓S_new, ↓S_par, ↓S_par3, ↓S_for, gt, res, resL, vls, anyO, setV, setO, setMo, Sl.mo, Mo.dat, tName, Mir.tTup, Mir.tNil, Mir.tCons, tupN, tupD, lenN, lenD, absN, absD, intN, intD, maxN, maxD, minN, minD, negD, addD, subD, ltD, leD, gtD, geD, modD, ixD, isND, notND, at0, at1, at2, eq_int, ne_int, eq_bl, isi_tup, isi_int, isi_bl, isT_tt, isT_ii, isT_ib, allN, allD, anyN, anyD, itD, lstE, ↓reduceIte, Nat.reduceLT, Nat.reduceAdd, Nat.reduceLeDiff, Nat.zero_add, List.map, List.cons_append, List.nil_append, List.replicate, List.append_nil, List.length_cons, List.length_nil, Option.map_some, Option.map_none, Option.bind_some, List.set_cons_zero, List.set_cons_succ, Bool.false_and, Bool.true_and, Bool.and_false, Bool.and_true, Bool.not_true, Bool.not_false, if_true, if_false, Bool.false_eq_true, decide_true, decide_false, c, ↓O_ok, addRow, List.map_map, Function.comp_def]
theorem ne_zero (x : Rat) : neD (numD x) (.tup [.int 0, .int 1]) = some (.bl (!decide (x = 0))) := ne_num x 0
theorem s_times_row (c : Rat) (r : List Rat) {k : Nat} (hc : Sz k c) (hr : RSz k r) (hk : k < 4400) (hl : r.length ≤ 1000) : f_times_row [numD c, rowD r] = .ok (rowD (r.map (c * ·))) := by
  refine f_of ?_
  have c := cmp_okA (vs := [2]) (m := bnd (eN 1) itM) (t := tName 2) (e := (eD (ite' (tB (e2 (eN 2) (eD (Mir.ret (D.tup [(D.int 0), (D.int 1)]))) (f2 neD))) (bnd (eArgs [(eN 0), (eN 2)]) (callF 2 f_multiplied [])) (Mir.ret (D.tup [(D.int 0), (D.int 1)]))))) (g := [.va (numD c), .va (rowD r), .no]) numD (fun x => numD (c * x)) (xs := r) rfl rfl (fun x hx => by
    refine ⟨_, rfl, ?_⟩
    have e := s_multiplied c x hc (hr _ hx) hk
    by_cases h : x = 0
    · subst h
      simp only [wipeG, ↓O_ret, ↓O_bad, ↓O_bnd, ↓O_opt, ↓O_if, ↓O_ite, ↓O_eN, ↓O_e1, ↓O_e2, ↓U_ap1, ↓U_ap2, ↓U_f1, ↓U_f2, ↓U_opt, ↓O_eD, ↓O_eV, ↓O_vl, ↓O_tB, ↓O_asB, ↓O_notM, ↓O_ofB, ↓O_andM, ↓O_orM, ↓O_args0, ↓O_args1, ↓U_apL, ↓U_tup, ↓U_lst, ↓U_call, ↓U_callN, ↓U_callM, ↓U_callMN, ↓U_itM, ↓U_rev, ↓O_noex, ↓S_seq, ↓S_nil, ↓S_pass, ↓S_brk, ↓S_cnt, ↓S_bad, ↓S_nx, ↓S_rt, ↓S_asg, ↓S_if, ↓S_exp, ↓S_retN, ↓S_ret, ↓S_retW, ↓S_new, ↓S_par, ↓S_par3, ↓S_for, gt, res, resL, vls, anyO, setV, setO, setMo, Sl.mo, Mo.dat, tName, Mir.tTup, Mir.tNil, Mir.tCons, tupN, tupD, lenN, lenD, absN, absD, intN, intD, maxN, maxD, minN, minD, negD, addD, subD, ltD, leD, gtD, geD, modD, ixD, isND, notND, at0, at1, at2, eq_int, ne_int, eq_bl, isi_tup, isi_int, isi_bl, isT_tt, isT_ii, isT_ib, allN, allD, anyN, anyD, itD, lstE, ↓reduceIte, Nat.reduceLT, Nat.reduceAdd, Nat.reduceLeDiff, Nat.zero_add, List.map, List.cons_append, List.nil_append, List.replicate, List.append_nil, List.length_cons, List.length_nil, Option.map_some, Option.map_none, Option.bind_some, List.set_cons_zero, List.set_cons_succ, Bool.false_and, Bool.true_and, Bool.and_false, Bool.and_true, Bool.not_true, Bool.not_false, if_true, if_false, Bool.false_eq_true, decide_true, decide_false, ne_zero, Rat.mul_zero, numD_zero]
      exact ⟨by first | trivial | rfl, by first | trivial | rfl⟩
    · simp only [wipeG, ↓O_ret, ↓O_bad, ↓O_bnd, ↓O_opt, ↓O_if, ↓O_ite, ↓O_eN, ↓O_e1, ↓O_e2, ↓U_ap1, ↓U_ap2, ↓U_f1, ↓U_f2, ↓U_opt, ↓O_eD, ↓O_eV, ↓O_vl, ↓O_tB, ↓O_asB, ↓O_notM, ↓O_ofB, ↓O_andM, ↓O_orM, ↓O_args0, ↓O_args1, ↓U_apL, ↓U_tup, ↓U_lst, ↓U_call, ↓U_callN, ↓U_callM, ↓U_callMN, ↓U_itM, ↓U_rev, ↓O_noex, ↓S_seq, ↓S_nil, ↓S_pass, ↓S_brk, ↓S_cnt, ↓S_bad, ↓S_nx, ↓S_rt, ↓S_asg, ↓S_if, ↓S_exp, ↓S_retN, ↓S_ret, ↓S_retW, ↓S_new, ↓S_par, ↓S_par3, ↓S_for, gt, res, resL, vls, anyO, setV, setO, setMo, Sl.mo, Mo.dat, tName, Mir.tTup, Mir.tNil, Mir.tCons, tupN, tupD, lenN, lenD, absN, absD, intN, intD, maxN, maxD, minN, minD, negD, addD, subD, ltD, leD, gtD, geD, modD, ixD, isND, notND, at0, at1, at2, eq_int, ne_int, eq_bl, isi_tup, isi_int, isi_bl, isT_tt, isT_ii, isT_ib, allN, allD, anyN, anyD, itD, lstE, ↓reduceIte, Nat.reduceLT, Nat.reduceAdd, Nat.reduceLeDiff, Nat.zero_add, List.map, List.cons_append, List.nil_append, List.replicate, List.append_nil, List.length_cons, List.length_nil, Option.map_some, Option.map_none, Option.bind_some, List.set_cons_zero, List.set_cons_succ, Bool.false_and, Bool.true_and, Bool.and_false, Bool.and_true, Bool.not_true, Bool.not_false, if_true, if_false, Bool.false_eq_true, decide_true, decide_false, ne_zero, h, e]
      exact ⟨by first | trivial | rfl, by first | trivial | rfl⟩) (by omega)
  simp only [rowD_eq] at c
  simp only [b_times_row, rowD_eq, ↓O_ret, ↓O_bad, ↓O_bnd, ↓O_opt, ↓O_if, ↓O_ite, ↓O_eN, ↓O_e1, ↓O_e2, ↓U_ap1, ↓U_ap2, ↓U_f1, ↓U_f2, ↓U_opt, ↓O_eD, ↓O_eV, ↓O_vl, ↓O_tB, ↓O_asB, ↓O_notM, ↓O_ofB, ↓O_andM, ↓O_orM, ↓O_args0, ↓O_args1, ↓U_apL, ↓U_tup, ↓U_lst, ↓U_call, ↓U_callN, ↓U_callM, ↓U_callMN, ↓U_itM, ↓U_rev, ↓O_noex, ↓S_seq, ↓S_nil, ↓S_pass, ↓S_brk, ↓S_cnt, ↓S_bad, ↓S_nx, ↓S_rt, ↓S_asg, ↓S_if, ↓S_exp, ↓S_retN, ↓S_ret, ↓S_retW, ↓S_new, ↓S_par, ↓S_par3, ↓S_for, gt, res, resL, vls, anyO, setV, setO, setMo, Sl.mo, Mo.dat, tName, Mir.tTup, Mir.tNil, Mir.tCons, tupN, tupD, lenN, lenD, absN, absD, intN, intD, maxN, maxD, minN, minD, negD, addD, subD, ltD, leD, gtD, geD, modD, ixD, isND, notND, at0, at1, at2, eq_int, ne_int, eq_bl, isi_tup, isi_int, isi_bl, isT_tt, isT_ii, isT_ib, allN, allD, anyN, anyD, itD, lstE, ↓reduceIte, Nat.reduceLT, Nat.reduceAdd, Nat.reduceLeDiff, Nat.zero_add, List.map, List.cons_append, List.nil_append, List.replicate, List.append_nil, List.length_cons, List.length_nil, Option.map_some, Option.map_none, Option.bind_some, List.set_cons_zero, List.set_cons_succ, Bool.false_and, Bool.true_and, Bool.and_false, Bool.and_true, Bool.not_true, Bool.not_false, if_true, if_false, Bool.false_eq_true, decide_true, decide_false, c, ↓O_ok, List.map_map, Function.comp_def]

/-! rows and tables as functions -/
def rowF (n : Nat) (f : Nat → Rat) : List Rat := (List.range n).map f
def mkT (h w : Nat) (e : Nat → Nat → Rat) : List (List Rat) := (List.range h).map fun i => rowF w (e i)
/-- the sum of f 0 … f (n - 1) -/
def Sm : Nat → (Nat → Rat) → Rat
  | 0, _ => 0
  | n + 1, f => Sm n f + f n
theorem Sm_congr {f g : Nat → Rat} : ∀ {n : Nat}, (∀ i, i < n → f i = g i) → Sm n f = Sm n g
  | 0, _ => rfl
  | n + 1, h => by
    show Sm n f + f n = Sm n g + g n
    rw [Sm_congr fun i hi => h i (by omega), h n (by omega)]
theorem Sm_sz {f : Nat → Rat} {k : Nat} : ∀ {n : Nat}, (∀ i, i < n → Sz k (f i)) → Sz ((k + 1) * n + 1) (Sm n f)
  | 0, _ => Sz.zero
  | n + 1, h => ((Sm_sz fun i hi => h i (by omega)).add (h n (by omega))).mono (by rw [Nat.mul_add]; omega)
theorem Sm_zero : ∀ n, Sm n (fun _ => 0) = 0
  | 0 => rfl
  | n + 1 => by show Sm n (fun _ => 0) + 0 = 0; rw [Sm_zero n, Rat.add_zero]
theorem Sm_add {f g : Nat → Rat} : ∀ n, Sm n (fun i => f i + g i) = Sm n f + Sm n g
  | 0 => by show (0 : Rat) = 0 + 0; grind
  | n + 1 => by
    show Sm n (fun i => f i + g i) + (f n + g n) = (Sm n f + f n) + (Sm n g + g n)
    rw [Sm_add n]; grind
theorem Sm_mul {f : Nat → Rat} (c : Rat) : ∀ n, Sm n (fun i => c * f i) = c * Sm n f
  | 0 => by show (0 : Rat) = c * 0; grind
  | n + 1 => by
    show Sm n (fun i => c * f i) + c * f n = c * (Sm n f + f n)
    rw [Sm_mul c n]; grind
theorem Sm_swap {f : Nat → Nat → Rat} (m : Nat) : ∀ n, Sm n (fun i => Sm m (f i)) = Sm m fun j => Sm n fun i => f i j
  | 0 => (Sm_zero m).symm
  | n + 1 => by
    show Sm n (fun i => Sm m (f i)) + Sm m (f n) = Sm m fun j => (Sm n fun i => f i j) + f n j
    rw [Sm_swap m n, ← Sm_add]
theorem Sm_unit {f : Nat → Rat} {k : Nat} : ∀ {n : Nat}, Sm n (fun i => (if i = k then 1 else 0) * f i) = if k < n then f k else 0
  | 0 => rfl
  | n + 1 => by
    show Sm n (fun i => (if i = k then 1 else 0) * f i) + (if n = k then 1 else 0) * f n = _
    rw [Sm_unit]
    by_cases h : n = k
    · subst h
      rw [if_neg (by omega), if_pos rfl, if_pos (by omega)]; grind
    · rw [if_neg h]
      by_cases h2 : k < n
      · rw [if_pos h2, if_pos (by omega)]; grind
      · rw [if_neg h2, if_neg (by omega)]; grind
theorem rowF_congr {n : Nat} {f g : Nat → Rat} (h : ∀ i, i < n → f i = g i) : rowF n f = rowF n g := by
  unfold rowF
  exact List.map_congr_left fun i hi => h i (List.mem_range.mp hi)
theorem mkT_congr {h w : Nat} {a b : Nat → Nat → Rat} (e : ∀ i, i < h → ∀ j, j < w → a i j = b i j) : mkT h w a = mkT h w b := by
  unfold mkT
  exact List.map_congr_left fun i hi => rowF_congr (e i (List.mem_range.mp hi))
theorem rowF_len {n : Nat} {f : Nat → Rat} : (rowF n f).length = n := by unfold rowF; rw [List.length_map, List.length_range]
theorem mkT_shape {h w : Nat} {e : Nat → Nat → Rat} : Shape h w (mkT h w e) := by
  constructor
  · unfold mkT; rw [List.length_map, List.length_range]
  · intro r hr
    unfold mkT at hr
    obtain ⟨i, _, rfl⟩ := List.mem_map.mp hr
    exact rowF_len
theorem rowF_sz {n k : Nat} {f : Nat → Rat} (h : ∀ i, i < n → Sz k (f i)) : RSz k (rowF n f) := by
  intro x hx
  unfold rowF at hx
  obtain ⟨i, hi, rfl⟩ := List.mem_map.mp hx
  exact h i (List.mem_range.mp hi)
theorem rowF_get {n i : Nat} {f : Nat → Rat} (h : i < (rowF n f).length) : (rowF n f)[i] = f i := by simp [rowF]
theorem mkT_get {h w i : Nat} {e : Nat → Nat → Rat} (q : i < (mkT h w e).length) : (mkT h w e)[i] = rowF w (e i) := by simp [mkT]
/-- every list is a row of this kind -/
theorem rowF_of (r : List Rat) : r = rowF r.length fun i => r.getD i 0 := by
  apply List.ext_getElem
  · rw [rowF_len]
  · intro i h1 h2
    rw [rowF_get, List.getD_eq_getElem?_getD, List.getElem?_eq_getElem h1]; rfl
theorem mkT_of {h w : Nat} {t : List (List Rat)} (s : Shape h w t) : t = mkT h w fun i j => (t.getD i []).getD j 0 := by
  apply List.ext_getElem
  · rw [s.1, mkT_shape.1]
  · intro i h1 h2
    rw [mkT_get]
    have := rowF_of t[i]
    rw [s.2 t[i] (List.getElem_mem _)] at this
    simpa only [List.getD_eq_getElem?_getD, List.getElem?_eq_getElem h1, Option.getD_some] using this
theorem range_get {n i x : Nat} (h : (List.range n)[i]? = some x) : x = i ∧ i < n := by
  obtain ⟨hi, e⟩ := List.getElem?_eq_some_iff.mp h
  rw [List.getElem_range] at e
  rw [List.length_range] at hi
  exact ⟨e.symm, hi⟩
theorem zipR (n : Nat) (a b : Nat → Rat) : zipD ((rowF n a).map numD) ((rowF n b).map numD) = (List.range n).map fun i => D.tup [numD (a i), numD (b i)] := by
  unfold zipD rowF
  rw [List.map_map, List.map_map, List.zip_map', List.map_map]; rfl
theorem rowD_F (n : Nat) (f : Nat → Rat) : rowD (rowF n f) = .tup ((List.range n).map fun i => numD (f i)) := by
  unfold rowD rowF
  rw [List.map_map]; rfl
theorem tabD_F (h w : Nat) (e : Nat → Nat → Rat) : tabD (mkT h w e) = .tup ((List.range h).map fun i => rowD (rowF w (e i))) := by
  unfold tabD mkT
  rw [List.map_map]; rfl
/-- the loop of a dot product, in both of its forms -/
theorem s_product_of (n : Nat) (a b : Nat → Rat) {k : Nat} (ha : ∀ i, i < n → Sz k (a i)) (hb : ∀ i, i < n → Sz k (b i)) (hk : (k + k + 1) * n + 1 < 4400) (hk2 : k < 2200) : f_product_of [rowD (rowF n a), rowD (rowF n b)] = .ok (numD (Sm n fun i => a i * b i)) := by
  refine f_of ?_
  have hz := zipR n a b
  simp only [b_product_of, rowD_eq, ↓O_ret, ↓O_bad, ↓O_bnd, ↓O_opt, ↓O_if, ↓O_ite, ↓O_eN, ↓O_e1, ↓O_e2, ↓U_ap1, ↓U_ap2, ↓U_f1, ↓U_f2, ↓U_opt, ↓O_eD, ↓O_eV, ↓O_vl, ↓O_tB, ↓O_asB, ↓O_notM, ↓O_ofB, ↓O_andM, ↓O_orM, ↓O_args0, ↓O_args1, ↓U_apL, ↓U_tup, ↓U_lst, ↓U_call, ↓U_callN, ↓U_callM, ↓U_callMN, ↓U_itM, ↓U_rev, ↓O_noex, ↓S_seq, ↓S_nil, ↓S_pass, ↓S_brk, ↓S_cnt, ↓S_bad, ↓S_nx, ↓S_rt, ↓S_asg, ↓S_if, ↓S_exp, ↓S_retN, ↓S_ret, ↓S_retW, ↓S_new, ↓S_par, ↓S_par3, ↓S_for, gt, res, resL, vls, anyO, setV, setO, setMo, Sl.mo, Mo.dat, tName, Mir.tTup, Mir.tNil, Mir.tCons, tupN, tupD, lenN, lenD, absN, absD, intN, intD, maxN, maxD, minN, minD, negD, addD, subD, ltD, leD, gtD, geD, modD, ixD, isND, notND, at0, at1, at2, eq_int, ne_int, eq_bl, isi_tup, isi_int, isi_bl, isT_tt, isT_ii, isT_ib, allN, allD, anyN, anyD, itD, lstE, ↓reduceIte, Nat.reduceLT, Nat.reduceAdd, Nat.reduceLeDiff, Nat.zero_add, List.map, List.cons_append, List.nil_append, List.replicate, List.append_nil, List.length_cons, List.length_nil, Option.map_some, Option.map_none, Option.bind_some, List.set_cons_zero, List.set_cons_succ, Bool.false_and, Bool.true_and, Bool.and_false, Bool.and_true, Bool.not_true, Bool.not_false, if_true, if_false, Bool.false_eq_true, decide_true, decide_false, zipM, hz]
  refine S_forA (xs := List.range n) (fun i => D.tup [numD (a i), numD (b i)]) (fun i g => ∃ s s', Fr s ∧ Fr s' ∧ g = [.va (rowD (rowF n a)), .va (rowD (rowF n b)), .va (numD (Sm i fun i => a i * b i)), s, s']) ⟨_, _, .no, .no, rfl⟩ ?_ ?_
  · rintro i x g hx ⟨s, s', hs, hs', rfl⟩
    obtain ⟨rfl, hi⟩ := range_get hx
    refine ⟨[.va (rowD (rowF n a)), .va (rowD (rowF n b)), .va (numD (Sm x fun i => a i * b i)), .va (numD (a x)), .va (numD (b x))], ?_, ?_⟩
    · rcases hs with rfl | ⟨d, rfl⟩ <;> rcases hs' with rfl | ⟨d', rfl⟩ <;> rfl
    · have m := s_multiplied (a x) (b x) (ha x hi) (hb x hi) (by omega)
      have z : Sz ((k + k + 1) * x + 1) (Sm x fun i => a i * b i) := Sm_sz fun i h => (ha i (by omega)).mul (hb i (by omega))
      have l : (k + k + 1) * x ≤ (k + k + 1) * n := Nat.mul_le_mul_left _ (by omega)
      have e := s_added _ _ (z.mono (l := 4399) (by omega)) (((ha x hi).mul (hb x hi)).mono (l := 4399) (by omega)) (by omega)
      by_cases h1 : a x = 0
      · have q : Sm (x + 1) (fun i => a i * b i) = Sm x fun i => a i * b i := by
          show Sm x (fun i => a i * b i) + a x * b x = _
          rw [h1]; grind
        simp only [↓O_ret, ↓O_bad, ↓O_bnd, ↓O_opt, ↓O_if, ↓O_ite, ↓O_eN, ↓O_e1, ↓O_e2, ↓U_ap1, ↓U_ap2, ↓U_f1, ↓U_f2, ↓U_opt, ↓O_eD, ↓O_eV, ↓O_vl, ↓O_tB, ↓O_asB, ↓O_notM, ↓O_ofB, ↓O_andM, ↓O_orM, ↓O_args0, ↓O_args1, ↓U_apL, ↓U_tup, ↓U_lst, ↓U_call, ↓U_callN, ↓U_callM, ↓U_callMN, ↓U_itM, ↓U_rev, ↓O_noex, ↓S_seq, ↓S_nil, ↓S_pass, ↓S_brk, ↓S_cnt, ↓S_bad, ↓S_nx, ↓S_rt, ↓S_asg, ↓S_if, ↓S_exp, ↓S_retN, ↓S_ret, ↓S_retW, ↓S_new, ↓S_par, ↓S_par3, ↓S_for, gt, res, resL, vls, anyO, setV, setO, setMo, Sl.mo, Mo.dat, tName, Mir.tTup, Mir.tNil, Mir.tCons, tupN, tupD, lenN, lenD, absN, absD, intN, intD, maxN, maxD, minN, minD, negD, addD, subD, ltD, leD, gtD, geD, modD, ixD, isND, notND, at0, at1, at2, eq_int, ne_int, eq_bl, isi_tup, isi_int, isi_bl, isT_tt, isT_ii, isT_ib, allN, allD, anyN, anyD, itD, lstE, ↓reduceIte, Nat.reduceLT, Nat.reduceAdd, Nat.reduceLeDiff, Nat.zero_add, List.map, List.cons_append, List.nil_append, List.replicate, List.append_nil, List.length_cons, List.length_nil, Option.map_some, Option.map_none, Option.bind_some, List.set_cons_zero, List.set_cons_succ, Bool.false_and, Bool.true_and, Bool.and_false, Bool.and_true, Bool.not_true, Bool.not_false, if_true, if_false, Bool.false_eq_true, decide_true, decide_false, ne_zero, h1, q]
        exact ⟨_, _, .va, .va, rfl⟩
      · by_cases h2 : b x = 0
        · have q : Sm (x + 1) (fun i => a i * b i) = Sm x fun i => a i * b i := by
            show Sm x (fun i => a i * b i) + a x * b x = _
            rw [h2]; grind
          simp only [↓O_ret, ↓O_bad, ↓O_bnd, ↓O_opt, ↓O_if, ↓O_ite, ↓O_eN, ↓O_e1, ↓O_e2, ↓U_ap1, ↓U_ap2, ↓U_f1, ↓U_f2, ↓U_opt, ↓O_eD, ↓O_eV, ↓O_vl, ↓O_tB, ↓O_asB, ↓O_notM, ↓O_ofB, ↓O_andM, ↓O_orM, ↓O_args0, ↓O_args1, ↓U_apL, ↓U_tup, ↓U_lst, ↓U_call, ↓U_callN, ↓U_callM, ↓U_callMN, ↓U_itM, ↓U_rev, ↓O_noex, ↓S_seq, ↓S_nil, ↓S_pass, ↓S_brk, ↓S_cnt, ↓S_bad, ↓S_nx, ↓S_rt, ↓S_asg, ↓S_if, ↓S_exp, ↓S_retN, ↓S_ret, ↓S_retW, ↓S_new, ↓S_par, ↓S_par3, ↓S_for, gt, res, resL, vls, anyO, setV, setO, setMo, Sl.mo, Mo.dat, tName, Mir.tTup, Mir.tNil, Mir.tCons, tupN, tupD, lenN, lenD, absN, absD, intN, intD, maxN, maxD, minN, minD, negD, addD, subD, ltD, leD, gtD, geD, modD, ixD, isND, notND, at0, at1, at2, eq_int, ne_int, eq_bl, isi_tup, isi_int, isi_bl, isT_tt, isT_ii, isT_ib, allN, allD, anyN, anyD, itD, lstE, ↓reduceIte, Nat.reduceLT, Nat.reduceAdd, Nat.reduceLeDiff, Nat.zero_add, List.map, List.cons_append, List.nil_append, List.replicate, List.append_nil, List.length_cons, List.length_nil, Option.map_some, Option.map_none, Option.bind_some, List.set_cons_zero, List.set_cons_succ, Bool.false_and, Bool.true_and, Bool.and_false, Bool.and_true, Bool.not_true, Bool.not_false, if_true, if_false, Bool.false_eq_true, decide_true, decide_false, ne_zero, h1, h2, q]
          exact ⟨_, _, .va, .va, rfl⟩
        · simp only [↓O_ret, ↓O_bad, ↓O_bnd, ↓O_opt, ↓O_if, ↓O_ite, ↓O_eN, ↓O_e1, ↓O_e2, ↓U_ap1, ↓U_ap2, ↓U_f1, ↓U_f2, ↓U_opt, ↓O_eD, ↓O_eV, ↓O_vl, ↓O_tB, ↓O_asB, ↓O_notM, ↓O_ofB, ↓O_andM, ↓O_orM, ↓O_args0, ↓O_args1, ↓U_apL, ↓U_tup, ↓U_lst, ↓U_call, ↓U_callN, ↓U_callM, ↓U_callMN, ↓U_itM, ↓U_rev, ↓O_noex, ↓S_seq, ↓S_nil, ↓S_pass, ↓S_brk, ↓S_cnt, ↓S_bad, ↓S_nx, ↓S_rt, ↓S_asg, ↓S_if, ↓S_exp, ↓S_retN, ↓S_ret, ↓S_retW, ↓S_new, ↓S_par, ↓S_par3, ↓S_for, gt, res, resL, vls, anyO, setV, setO, setMo, Sl.mo, Mo.dat, tName, Mir.tTup, Mir.tNil, Mir.tCons, tupN, tupD, lenN, lenD, absN, absD, intN, intD, maxN, maxD, minN, minD, negD, addD, subD, ltD, leD, gtD, geD, modD, ixD, isND, notND, at0, at1, at2, eq_int, ne_int, eq_bl, isi_tup, isi_int, isi_bl, isT_tt, isT_ii, isT_ib, allN, allD, anyN, anyD, itD, lstE, ↓reduceIte, Nat.reduceLT, Nat.reduceAdd, Nat.reduceLeDiff, Nat.zero_add, List.map, List.cons_append, List.nil_append, List.replicate, List.append_nil, List.length_cons, List.length_nil, Option.map_some, Option.map_none, Option.bind_some, List.set_cons_zero, List.set_cons_succ, Bool.false_and, Bool.true_and, Bool.and_false, Bool.and_true, Bool.not_true, Bool.not_false, if_true, if_false, Bool.false_eq_true, decide_true, decide_false, ne_zero, h1, h2, m, e]
          exact ⟨_, _, .va, .va, rfl⟩
  · rintro g ⟨s, s', hs, hs', rfl⟩
    simp only [↓O_ret, ↓O_bad, ↓O_bnd, ↓O_opt, ↓O_if, ↓O_ite, ↓O_eN, ↓O_e1, ↓O_e2, ↓U_ap1, ↓U_ap2, ↓U_f1, ↓U_f2, ↓U_opt, ↓O_eD, ↓O_eV, ↓O_vl, ↓O_tB, ↓O_asB, ↓O_notM, ↓O_ofB, ↓O_andM, ↓O_orM, ↓O_args0, ↓O_args1, ↓U_apL, ↓U_tup, ↓U_lst, ↓U_call, ↓U_callN, ↓U_callM, ↓U_callMN, ↓U_itM, ↓U_rev, ↓O_noex, ↓S_seq, ↓S_nil, ↓S_pass, ↓S_brk, ↓S_cnt, ↓S_bad, ↓S_nx, ↓S_rt, ↓S_asg, ↓S_if, ↓S_exp, ↓S_retN, ↓S_ret, ↓S_retW, ↓S_new, ↓S_par, ↓S_par3, ↓S_for, gt, res, resL, vls, anyO, setV, setO, setMo, Sl.mo, Mo.dat, tName, Mir.tTup, Mir.tNil, Mir.tCons, tupN, tupD, lenN, lenD, absN, absD, intN, intD, maxN, maxD, minN, minD, negD, addD, subD, ltD, leD, gtD, geD, modD, ixD, isND, notND, at0, at1, at2, eq_int, ne_int, eq_bl, isi_tup, isi_int, isi_bl, isT_tt, isT_ii, isT_ib, allN, allD, anyN, anyD, itD, lstE, ↓reduceIte, Nat.reduceLT, Nat.reduceAdd, Nat.reduceLeDiff, Nat.zero_add, List.map, List.cons_append, List.nil_append, List.replicate, List.append_nil, List.length_cons, List.length_nil, Option.map_some, Option.map_none, Option.bind_some, List.set_cons_zero, List.set_cons_succ, Bool.false_and, Bool.true_and, Bool.and_false, Bool.and_true, Bool.not_true, Bool.not_false, if_true, if_false, Bool.false_eq_true, decide_true, decide_false, List.length_range]
theorem s_law_dot (n : Nat) (a b : Nat → Rat) {k : Nat} (ha : ∀ i, i < n → Sz k (a i)) (hb : ∀ i, i < n → Sz k (b i)) (hk : (k + k + 1) * n + 1 < 4400) (hk2 : k < 2200) : f_law_dot [rowD (rowF n a), rowD (rowF n b)] = .ok (numD (Sm n fun i => a i * b i)) := by
  refine f_of ?_
  have hz := zipR n a b
  simp only [b_law_dot, rowD_eq, ↓O_ret, ↓O_bad, ↓O_bnd, ↓O_opt, ↓O_if, ↓O_ite, ↓O_eN, ↓O_e1, ↓O_e2, ↓U_ap1, ↓U_ap2, ↓U_f1, ↓U_f2, ↓U_opt, ↓O_eD, ↓O_eV, ↓O_vl, ↓O_tB, ↓O_asB, ↓O_notM, ↓O_ofB, ↓O_andM, ↓O_orM, ↓O_args0, ↓O_args1, ↓U_apL, ↓U_tup, ↓U_lst, ↓U_call, ↓U_callN, ↓U_callM, ↓U_callMN, ↓U_itM, ↓U_rev, ↓O_noex, ↓S_seq, ↓S_nil, ↓S_pass, ↓S_brk, ↓S_cnt, ↓S_bad, ↓S_nx, ↓S_rt, ↓S_asg, ↓S_if, ↓S_exp, ↓S_retN, ↓S_ret, ↓S_retW, ↓S_new, ↓S_par, ↓S_par3, ↓S_for, gt, res, resL, vls, anyO, setV, setO, setMo, Sl.mo, Mo.dat, tName, Mir.tTup, Mir.tNil, Mir.tCons, tupN, tupD, lenN, lenD, absN, absD, intN, intD, maxN, maxD, minN, minD, negD, addD, subD, ltD, leD, gtD, geD, modD, ixD, isND, notND, at0, at1, at2, eq_int, ne_int, eq_bl, isi_tup, isi_int, isi_bl, isT_tt, isT_ii, isT_ib, allN, allD, anyN, anyD, itD, lstE, ↓reduceIte, Nat.reduceLT, Nat.reduceAdd, Nat.reduceLeDiff, Nat.zero_add, List.map, List.cons_append, List.nil_append, List.replicate, List.append_nil, List.length_cons, List.length_nil, Option.map_some, Option.map_none, Option.bind_some, List.set_cons_zero, List.set_cons_succ, Bool.false_and, Bool.true_and, Bool.and_false, Bool.and_true, Bool.not_true, Bool.not_false, if_true, if_false, Bool.false_eq_true, decide_true, decide_false, zipM, hz]
  refine S_forA (xs := List.range n) (fun i => D.tup [numD (a i), numD (b i)]) (fun i g => ∃ s s', Fr s ∧ Fr s' ∧ g = [.va (rowD (rowF n a)), .va (rowD (rowF n b)), .va (numD (Sm i fun i => a i * b i)), s, s']) ⟨_, _, .no, .no, rfl⟩ ?_ ?_
  · rintro i x g hx ⟨s, s', hs, hs', rfl⟩
    obtain ⟨rfl, hi⟩ := range_get hx
    refine ⟨[.va (rowD (rowF n a)), .va (rowD (rowF n b)), .va (numD (Sm x fun i => a i * b i)), .va (numD (a x)), .va (numD (b x))], ?_, ?_⟩
    · rcases hs with rfl | ⟨d, rfl⟩ <;> rcases hs' with rfl | ⟨d', rfl⟩ <;> rfl
    · have m := s_law_times (a x) (b x) (ha x hi) (hb x hi) (by omega)
      have z : Sz ((k + k + 1) * x + 1) (Sm x fun i => a i * b i) := Sm_sz fun i h => (ha i (by omega)).mul (hb i (by omega))
      have l : (k + k + 1) * x ≤ (k + k + 1) * n := Nat.mul_le_mul_left _ (by omega)
      have e := s_law_plus _ _ (z.mono (l := 4399) (by omega)) (((ha x hi).mul (hb x hi)).mono (l := 4399) (by omega)) (by omega)
      have za : ∀ r : Rat, r = 0 → (r.num == 0) = true := fun r h => by rw [h]; rfl
      have zb : ∀ r : Rat, r ≠ 0 → (r.num == 0) = false := fun r h => by rw [beq_eq_false_iff_ne]; exact num_ne h
      simp only [numD_eq (a x), numD_eq (b x)] at m
      by_cases h1 : a x = 0
      · have q : Sm (x + 1) (fun i => a i * b i) = Sm x fun i => a i * b i := by
          show Sm x (fun i => a i * b i) + a x * b x = _
          rw [h1]; grind
        have z1 := za _ h1
        simp only [numD_eq (a x), numD_eq (b x), ↓O_ret, ↓O_bad, ↓O_bnd, ↓O_opt, ↓O_if, ↓O_ite, ↓O_eN, ↓O_e1, ↓O_e2, ↓U_ap1, ↓U_ap2, ↓U_f1, ↓U_f2, ↓U_opt, ↓O_eD, ↓O_eV, ↓O_vl, ↓O_tB, ↓O_asB, ↓O_notM, ↓O_ofB, ↓O_andM, ↓O_orM, ↓O_args0, ↓O_args1, ↓U_apL, ↓U_tup, ↓U_lst, ↓U_call, ↓U_callN, ↓U_callM, ↓U_callMN, ↓U_itM, ↓U_rev, ↓O_noex, ↓S_seq, ↓S_nil, ↓S_pass, ↓S_brk, ↓S_cnt, ↓S_bad, ↓S_nx, ↓S_rt, ↓S_asg, ↓S_if, ↓S_exp, ↓S_retN, ↓S_ret, ↓S_retW, ↓S_new, ↓S_par, ↓S_par3, ↓S_for, gt, res, resL, vls, anyO, setV, setO, setMo, Sl.mo, Mo.dat, tName, Mir.tTup, Mir.tNil, Mir.tCons, tupN, tupD, lenN, lenD, absN, absD, intN, intD, maxN, maxD, minN, minD, negD, addD, subD, ltD, leD, gtD, geD, modD, ixD, isND, notND, at0, at1, at2, eq_int, ne_int, eq_bl, isi_tup, isi_int, isi_bl, isT_tt, isT_ii, isT_ib, allN, allD, anyN, anyD, itD, lstE, ↓reduceIte, Nat.reduceLT, Nat.reduceAdd, Nat.reduceLeDiff, Nat.zero_add, List.map, List.cons_append, List.nil_append, List.replicate, List.append_nil, List.length_cons, List.length_nil, Option.map_some, Option.map_none, Option.bind_some, List.set_cons_zero, List.set_cons_succ, Bool.false_and, Bool.true_and, Bool.and_false, Bool.and_true, Bool.not_true, Bool.not_false, if_true, if_false, Bool.false_eq_true, decide_true, decide_false, ne_int, z1, q]
        exact ⟨_, _, .va, .va, rfl⟩
      · have z1 := zb _ h1
        by_cases h2 : b x = 0
        · have q : Sm (x + 1) (fun i => a i * b i) = Sm x fun i => a i * b i := by
            show Sm x (fun i => a i * b i) + a x * b x = _
            rw [h2]; grind
          have z2 := za _ h2
          simp only [numD_eq (a x), numD_eq (b x), ↓O_ret, ↓O_bad, ↓O_bnd, ↓O_opt, ↓O_if, ↓O_ite, ↓O_eN, ↓O_e1, ↓O_e2, ↓U_ap1, ↓U_ap2, ↓U_f1, ↓U_f2, ↓U_opt, ↓O_eD, ↓O_eV, ↓O_vl, ↓O_tB, ↓O_asB, ↓O_notM, ↓O_ofB, ↓O_andM, ↓O_orM, ↓O_args0, ↓O_args1, ↓U_apL, ↓U_tup, ↓U_lst, ↓U_call, ↓U_callN, ↓U_callM, ↓U_callMN, ↓U_itM, ↓U_rev, ↓O_noex, ↓S_seq, ↓S_nil, ↓S_pass, ↓S_brk, ↓S_cnt, ↓S_bad, ↓S_nx, ↓S_rt, ↓S_asg, ↓S_if, ↓S_exp, ↓S_retN, ↓S_ret, ↓S_retW, ↓S_new, ↓S_par, ↓S_par3, ↓S_for, gt, res, resL, vls, anyO, setV, setO, setMo, Sl.mo, Mo.dat, tName, Mir.tTup, Mir.tNil, Mir.tCons, tupN, tupD, lenN, lenD, absN, absD, intN, intD, maxN, maxD, minN, minD, negD, addD, subD, ltD, leD, gtD, geD, modD, ixD, isND, notND, at0, at1, at2, eq_int, ne_int, eq_bl, isi_tup, isi_int, isi_bl, isT_tt, isT_ii, isT_ib, allN, allD, anyN, anyD, itD, lstE, ↓reduceIte, Nat.reduceLT, Nat.reduceAdd, Nat.reduceLeDiff, Nat.zero_add, List.map, List.cons_append, List.nil_append, List.replicate, List.append_nil, List.length_cons, List.length_nil, Option.map_some, Option.map_none, Option.bind_some, List.set_cons_zero, List.set_cons_succ, Bool.false_and, Bool.true_and, Bool.and_false, Bool.and_true, Bool.not_true, Bool.not_false, if_true, if_false, Bool.false_eq_true, decide_true, decide_false, ne_int, z1, z2, q]
          exact ⟨_, _, .va, .va, rfl⟩
        · have z2 := zb _ h2
          simp only [numD_eq (a x), numD_eq (b x), ↓O_ret, ↓O_bad, ↓O_bnd, ↓O_opt, ↓O_if, ↓O_ite, ↓O_eN, ↓O_e1, ↓O_e2, ↓U_ap1, ↓U_ap2, ↓U_f1, ↓U_f2, ↓U_opt, ↓O_eD, ↓O_eV, ↓O_vl, ↓O_tB, ↓O_asB, ↓O_notM, ↓O_ofB, ↓O_andM, ↓O_orM, ↓O_args0, ↓O_args1, ↓U_apL, ↓U_tup, ↓U_lst, ↓U_call, ↓U_callN, ↓U_callM, ↓U_callMN, ↓U_itM, ↓U_rev, ↓O_noex, ↓S_seq, ↓S_nil, ↓S_pass, ↓S_brk, ↓S_cnt, ↓S_bad, ↓S_nx, ↓S_rt, ↓S_asg, ↓S_if, ↓S_exp, ↓S_retN, ↓S_ret, ↓S_retW, ↓S_new, ↓S_par, ↓S_par3, ↓S_for, gt, res, resL, vls, anyO, setV, setO, setMo, Sl.mo, Mo.dat, tName, Mir.tTup, Mir.tNil, Mir.tCons, tupN, tupD, lenN, lenD, absN, absD, intN, intD, maxN, maxD, minN, minD, negD, addD, subD, ltD, leD, gtD, geD, modD, ixD, isND, notND, at0, at1, at2, eq_int, ne_int, eq_bl, isi_tup, isi_int, isi_bl, isT_tt, isT_ii, isT_ib, allN, allD, anyN, anyD, itD, lstE, ↓reduceIte, Nat.reduceLT, Nat.reduceAdd, Nat.reduceLeDiff, Nat.zero_add, List.map, List.cons_append, List.nil_append, List.replicate, List.append_nil, List.length_cons, List.length_nil, Option.map_some, Option.map_none, Option.bind_some, List.set_cons_zero, List.set_cons_succ, Bool.false_and, Bool.true_and, Bool.and_false, Bool.and_true, Bool.not_true, Bool.not_false, if_true, if_false, Bool.false_eq_true, decide_true, decide_false, ne_int, z1, z2, m, e]
          exact ⟨_, _, .va, .va, rfl⟩
  · rintro g ⟨s, s', hs, hs', rfl⟩
    simp only [↓O_ret, ↓O_bad, ↓O_bnd, ↓O_opt, ↓O_if, ↓O_ite, ↓O_eN, ↓O_e1, ↓O_e2, ↓U_ap1, ↓U_ap2, ↓U_f1, ↓U_f2, ↓U_opt, ↓O_eD, ↓O_eV, ↓O_vl, ↓O_tB, ↓O_asB, ↓O_notM, ↓O_ofB, ↓O_andM, ↓O_orM, ↓O_args0, ↓O_args1, ↓U_apL, ↓U_tup, ↓U_lst, ↓U_call, ↓U_callN, ↓U_callM, ↓U_callMN, ↓U_itM, ↓U_rev, ↓O_noex, ↓S_seq, ↓S_nil, ↓S_pass, ↓S_brk, ↓S_cnt, ↓S_bad, ↓S_nx, ↓S_rt, ↓S_asg, ↓S_if, ↓S_exp, ↓S_retN, ↓S_ret, ↓S_retW, ↓S_new, ↓S_par, ↓S_par3, ↓S_for, gt, res, resL, vls, anyO, setV, setO, setMo, Sl.mo, Mo.dat, tName, Mir.tTup, Mir.tNil, Mir.tCons, tupN, tupD, lenN, lenD, absN, absD, intN, intD, maxN, maxD, minN, minD, negD, addD, subD, ltD, leD, gtD, geD, modD, ixD, isND, notND, at0, at1, at2, eq_int, ne_int, eq_bl, isi_tup, isi_int, isi_bl, isT_tt, isT_ii, isT_ib, allN, allD, anyN, anyD, itD, lstE, ↓reduceIte, Nat.reduceLT, Nat.reduceAdd, Nat.reduceLeDiff, Nat.zero_add, List.map, List.cons_append, List.nil_append, List.replicate, List.append_nil, List.length_cons, List.length_nil, Option.map_some, Option.map_none, Option.bind_some, List.set_cons_zero, List.set_cons_succ, Bool.false_and, Bool.true_and, Bool.and_false, Bool.and_true, Bool.not_true, Bool.not_false, if_true, if_false, Bool.false_eq_true, decide_true, decide_false, List.length_range]
theorem s_led_row (h n : Nat) (e : Nat → Nat → Rat) (r : Nat → Rat) {k : Nat} (he : ∀ i, i < h → ∀ j, j < n → Sz k (e i j)) (hr : ∀ j, j < n → Sz k (r j)) (hk : (k + k + 1) * n + 1 < 4400) (hk2 : k < 2200) (hh : h ≤ 1000) : f_led_row [tabD (mkT h n e), rowD (rowF n r)] = .ok (rowD (rowF h fun i => Sm n fun j => r j * e i j)) := by
  refine f_of ?_
  have c := cmp_okA (vs := [2]) (m := bnd (eN 0) itM) (t := tName 2) (e := (eD (bnd (eArgs [(eN 1), (eN 2)]) (callF 2 f_product_of [])))) (g := [.va (tabD (mkT h n e)), .va (rowD (rowF n r)), .no]) (fun i : Nat => rowD (rowF n (e i))) (fun i => numD (Sm n fun j => r j * e i j)) (xs := List.range h) (by
      show Rs.ok ((mkT h n e).map rowD) _ = _
      unfold mkT
      rw [List.map_map]; rfl) rfl (fun i hi => by
    refine ⟨_, rfl, ?_⟩
    simp only [wipeG, ↓O_ret, ↓O_bad, ↓O_bnd, ↓O_opt, ↓O_if, ↓O_ite, ↓O_eN, ↓O_e1, ↓O_e2, ↓U_ap1, ↓U_ap2, ↓U_f1, ↓U_f2, ↓U_opt, ↓O_eD, ↓O_eV, ↓O_vl, ↓O_tB, ↓O_asB, ↓O_notM, ↓O_ofB, ↓O_andM, ↓O_orM, ↓O_args0, ↓O_args1, ↓U_apL, ↓U_tup, ↓U_lst, ↓U_call, ↓U_callN, ↓U_callM, ↓U_callMN, ↓U_itM, ↓U_rev, ↓O_noex, ↓S_seq, ↓S_nil, ↓S_pass, ↓S_brk, ↓S_cnt, ↓S_bad, ↓S_nx, ↓S_rt, ↓S_asg, ↓S_if, ↓S_exp, ↓S_retN, ↓S_ret, ↓S_retW, ↓S_new, ↓S_par, ↓S_par3, ↓S_for, gt, res, resL, vls, anyO, setV, setO, setMo, Sl.mo, Mo.dat, tName, Mir.tTup, Mir.tNil, Mir.tCons, tupN, tupD, lenN, lenD, absN, absD, intN, intD, maxN, maxD, minN, minD, negD, addD, subD, ltD, leD, gtD, geD, modD, ixD, isND, notND, at0, at1, at2, eq_int, ne_int, eq_bl, isi_tup, isi_int, isi_bl, isT_tt, isT_ii, isT_ib, allN, allD, anyN, anyD, itD, lstE, ↓reduceIte, Nat.reduceLT, Nat.reduceAdd, Nat.reduceLeDiff, Nat.zero_add, List.map, List.cons_append, List.nil_append, List.replicate, List.append_nil, List.length_cons, List.length_nil, Option.map_some, Option.map_none, Option.bind_some, List.set_cons_zero, List.set_cons_succ, Bool.false_and, Bool.true_and, Bool.and_false, Bool.and_true, Bool.not_true, Bool.not_false, if_true, if_false, Bool.false_eq_true, decide_true, decide_false, s_product_of n r (e i) hr (he i (List.mem_range.mp hi)) hk hk2]
    exact ⟨by first | trivial | rfl, by first | trivial | rfl⟩) (by rw [List.length_range]; omega)
  simp only [b_led_row, ↓O_ret, ↓O_bad, ↓O_bnd, ↓O_opt, ↓O_if, ↓O_ite, ↓O_eN, ↓O_e1, ↓O_e2, ↓U_ap1, ↓U_ap2, ↓U_f1, ↓U_f2, ↓U_opt, ↓O_eD, ↓O_eV, ↓O_vl, ↓O_tB, ↓O_asB, ↓O_notM, ↓O_ofB, ↓O_andM, ↓O_orM, ↓O_args0, ↓O_args1, ↓U_apL, ↓U_tup, ↓U_lst, ↓U_call, ↓U_callN, ↓U_callM, ↓U_callMN, ↓U_itM, ↓U_rev, ↓O_noex, ↓S_seq, ↓S_nil, ↓S_pass, ↓S_brk, ↓S_cnt, ↓S_bad, ↓S_nx, ↓S_rt, ↓S_asg, ↓S_if, ↓S_exp, ↓S_retN, ↓S_ret, ↓S_retW, ↓S_new, ↓S_par, ↓S_par3, ↓S_for, gt, res, resL, vls, anyO, setV, setO, setMo, Sl.mo, Mo.dat, tName, Mir.tTup, Mir.tNil, Mir.tCons, tupN, tupD, lenN, lenD, absN, absD, intN, intD, maxN, maxD, minN, minD, negD, addD, subD, ltD, leD, gtD, geD, modD, ixD, isND, notND, at0, at1, at2, eq_int, ne_int, eq_bl, isi_tup, isi_int, isi_bl, isT_tt, isT_ii, isT_ib, allN, allD, anyN, anyD, itD, lstE, ↓reduceIte, Nat.reduceLT, Nat.reduceAdd, Nat.reduceLeDiff, Nat.zero_add, List.map, List.cons_append, List.nil_append, List.replicate, List.append_nil, List.length_cons, List.length_nil, Option.map_some, Option.map_none, Option.bind_some, List.set_cons_zero, List.set_cons_succ, Bool.false_and, Bool.true_and, Bool.and_false, Bool.and_true, Bool.not_true, Bool.not_false, if_true, if_false, Bool.false_eq_true, decide_true, decide_false, c, ↓O_ok, List.length_map, List.length_range]
  rw [rowD_F]
theorem addRow_F (n : Nat) (a b : Nat → Rat) : addRow (rowF n a) (rowF n b) = rowF n fun i => a i + b i := by
  unfold addRow rowF
  rw [List.zip_map', List.map_map]; rfl
theorem map_F (n : Nat) (a : Nat → Rat) (g : Rat → Rat) : (rowF n a).map g = rowF n fun i => g (a i) := by
  unfold rowF
  rw [List.map_map]; rfl
theorem rep_F (n : Nat) (c : Rat) : List.replicate n c = rowF n fun _ => c := by
  unfold rowF
  rw [List.map_const', List.length_range]
theorem zipT (n w : Nat) (a : Nat → Rat) (b : Nat → Nat → Rat) : zipD ((rowF n a).map numD) ((mkT n w b).map rowD) = (List.range n).map fun i => D.tup [numD (a i), rowD (rowF w (b i))] := by
  unfold zipD rowF mkT
  rw [List.map_map, List.map_map, List.zip_map', List.map_map]; rfl
theorem s_led_told (w n : Nat) (t : Nat → Nat → Rat) (r : Nat → Rat) {k : Nat} (ht : ∀ i, i < n → ∀ j, j < w → Sz k (t i j)) (hr : ∀ i, i < n → Sz k (r i)) (hk : (k + k + 1) * n + 1 < 4400) (hk2 : k < 2200) (hw : w ≤ 1000) : f_led_told [.int w, tabD (mkT n w t), rowD (rowF n r)] = .ok (rowD (rowF w fun j => Sm n fun i => r i * t i j)) := by
  refine f_of ?_
  have hz := zipT n w r t
  simp only [b_led_told, rowD_eq (rowF n r), tabD_eq, ↓O_ret, ↓O_bad, ↓O_bnd, ↓O_opt, ↓O_if, ↓O_ite, ↓O_eN, ↓O_e1, ↓O_e2, ↓U_ap1, ↓U_ap2, ↓U_f1, ↓U_f2, ↓U_opt, ↓O_eD, ↓O_eV, ↓O_vl, ↓O_tB, ↓O_asB, ↓O_notM, ↓O_ofB, ↓O_andM, ↓O_orM, ↓O_args0, ↓O_args1, ↓U_apL, ↓U_tup, ↓U_lst, ↓U_call, ↓U_callN, ↓U_callM, ↓U_callMN, ↓U_itM, ↓U_rev, ↓O_noex, ↓S_seq, ↓S_nil, ↓S_pass, ↓S_brk, ↓S_cnt, ↓S_bad, ↓S_nx, ↓S_rt, ↓S_asg, ↓S_if, ↓S_exp, ↓S_retN, ↓S_ret, ↓S_retW, ↓S_new, ↓S_par, ↓S_par3, ↓S_for, gt, res, resL, vls, anyO, setV, setO, setMo, Sl.mo, Mo.dat, tName, Mir.tTup, Mir.tNil, Mir.tCons, tupN, tupD, lenN, lenD, absN, absD, intN, intD, maxN, maxD, minN, minD, negD, addD, subD, ltD, leD, gtD, geD, modD, ixD, isND, notND, at0, at1, at2, eq_int, ne_int, eq_bl, isi_tup, isi_int, isi_bl, isT_tt, isT_ii, isT_ib, allN, allD, anyN, anyD, itD, lstE, ↓reduceIte, Nat.reduceLT, Nat.reduceAdd, Nat.reduceLeDiff, Nat.zero_add, List.map, List.cons_append, List.nil_append, List.replicate, List.append_nil, List.length_cons, List.length_nil, Option.map_some, Option.map_none, Option.bind_some, List.set_cons_zero, List.set_cons_succ, Bool.false_and, Bool.true_and, Bool.and_false, Bool.and_true, Bool.not_true, Bool.not_false, if_true, if_false, Bool.false_eq_true, decide_true, decide_false, zipM, hz, s_rest_row w hw]
  refine S_forA (xs := List.range n) (fun i => D.tup [numD (r i), rowD (rowF w (t i))]) (fun m g => ∃ s s', Fr s ∧ Fr s' ∧ g = [.va (.int w), .va (tabD (mkT n w t)), .va (rowD (rowF n r)), .va (rowD (rowF w fun j => Sm m fun i => r i * t i j)), s, s']) ⟨_, _, .no, .no, by rw [rep_F]; rfl⟩ ?_ ?_
  · rintro i x g hx ⟨s, s', hs, hs', rfl⟩
    obtain ⟨rfl, hi⟩ := range_get hx
    refine ⟨[.va (.int w), .va (tabD (mkT n w t)), .va (rowD (rowF n r)), .va (rowD (rowF w fun j => Sm x fun i => r i * t i j)), .va (numD (r x)), .va (rowD (rowF w (t x)))], ?_, ?_⟩
    · rcases hs with rfl | ⟨d, rfl⟩ <;> rcases hs' with rfl | ⟨d', rfl⟩ <;> rfl
    · have m := s_times_row (r x) (rowF w (t x)) (hr x hi) (rowF_sz (ht x hi)) (by omega) (by rw [rowF_len]; exact hw)
      rw [map_F] at m
      have z : RSz 4399 (rowF w fun j => Sm x fun i => r i * t i j) := rowF_sz fun j hj => (Sm_sz (k := k + k) fun i h => (hr i (by omega)).mul (ht i (by omega) j hj)).mono (by
        have l : (k + k + 1) * x ≤ (k + k + 1) * n := Nat.mul_le_mul_left _ (by omega)
        omega)
      have z2 : RSz 4399 (rowF w fun j => r x * t x j) := rowF_sz fun j hj => ((hr x hi).mul (ht x hi j hj)).mono (by omega)
      have e := s_sum_of_rows _ _ z z2 (by omega) (by rw [rowF_len]; exact hw)
      rw [addRow_F] at e
      by_cases h1 : r x = 0
      · have q : (rowF w fun j => Sm (x + 1) fun i => r i * t i j) = rowF w fun j => Sm x fun i => r i * t i j := rowF_congr fun j _ => by
          show Sm x (fun i => r i * t i j) + r x * t x j = _
          rw [h1]; grind
        simp only [↓O_ret, ↓O_bad, ↓O_bnd, ↓O_opt, ↓O_if, ↓O_ite, ↓O_eN, ↓O_e1, ↓O_e2, ↓U_ap1, ↓U_ap2, ↓U_f1, ↓U_f2, ↓U_opt, ↓O_eD, ↓O_eV, ↓O_vl, ↓O_tB, ↓O_asB, ↓O_notM, ↓O_ofB, ↓O_andM, ↓O_orM, ↓O_args0, ↓O_args1, ↓U_apL, ↓U_tup, ↓U_lst, ↓U_call, ↓U_callN, ↓U_callM, ↓U_callMN, ↓U_itM, ↓U_rev, ↓O_noex, ↓S_seq, ↓S_nil, ↓S_pass, ↓S_brk, ↓S_cnt, ↓S_bad, ↓S_nx, ↓S_rt, ↓S_asg, ↓S_if, ↓S_exp, ↓S_retN, ↓S_ret, ↓S_retW, ↓S_new, ↓S_par, ↓S_par3, ↓S_for, gt, res, resL, vls, anyO, setV, setO, setMo, Sl.mo, Mo.dat, tName, Mir.tTup, Mir.tNil, Mir.tCons, tupN, tupD, lenN, lenD, absN, absD, intN, intD, maxN, maxD, minN, minD, negD, addD, subD, ltD, leD, gtD, geD, modD, ixD, isND, notND, at0, at1, at2, eq_int, ne_int, eq_bl, isi_tup, isi_int, isi_bl, isT_tt, isT_ii, isT_ib, allN, allD, anyN, anyD, itD, lstE, ↓reduceIte, Nat.reduceLT, Nat.reduceAdd, Nat.reduceLeDiff, Nat.zero_add, List.map, List.cons_append, List.nil_append, List.replicate, List.append_nil, List.length_cons, List.length_nil, Option.map_some, Option.map_none, Option.bind_some, List.set_cons_zero, List.set_cons_succ, Bool.false_and, Bool.true_and, Bool.and_false, Bool.and_true, Bool.not_true, Bool.not_false, if_true, if_false, Bool.false_eq_true, decide_true, decide_false, ne_zero, h1, q]
        exact ⟨_, _, .va, .va, rfl⟩
      · simp only [↓O_ret, ↓O_bad, ↓O_bnd, ↓O_opt, ↓O_if, ↓O_ite, ↓O_eN, ↓O_e1, ↓O_e2, ↓U_ap1, ↓U_ap2, ↓U_f1, ↓U_f2, ↓U_opt, ↓O_eD, ↓O_eV, ↓O_vl, ↓O_tB, ↓O_asB, ↓O_notM, ↓O_ofB, ↓O_andM, ↓O_orM, ↓O_args0, ↓O_args1, ↓U_apL, ↓U_tup, ↓U_lst, ↓U_call, ↓U_callN, ↓U_callM, ↓U_callMN, ↓U_itM, ↓U_rev, ↓O_noex, ↓S_seq, ↓S_nil, ↓S_pass, ↓S_brk, ↓S_cnt, ↓S_bad, ↓S_nx, ↓S_rt, ↓S_asg, ↓S_if, ↓S_exp, ↓S_retN, ↓S_ret, ↓S_retW, ↓S_new, ↓S_par, ↓S_par3, ↓S_for, gt, res, resL, vls, anyO, setV, setO, setMo, Sl.mo, Mo.dat, tName, Mir.tTup, Mir.tNil, Mir.tCons, tupN, tupD, lenN, lenD, absN, absD, intN, intD, maxN, maxD, minN, minD, negD, addD, subD, ltD, leD, gtD, geD, modD, ixD, isND, notND, at0, at1, at2, eq_int, ne_int, eq_bl, isi_tup, isi_int, isi_bl, isT_tt, isT_ii, isT_ib, allN, allD, anyN, anyD, itD, lstE, ↓reduceIte, Nat.reduceLT, Nat.reduceAdd, Nat.reduceLeDiff, Nat.zero_add, List.map, List.cons_append, List.nil_append, List.replicate, List.append_nil, List.length_cons, List.length_nil, Option.map_some, Option.map_none, Option.bind_some, List.set_cons_zero, List.set_cons_succ, Bool.false_and, Bool.true_and, Bool.and_false, Bool.and_true, Bool.not_true, Bool.not_false, if_true, if_false, Bool.false_eq_true, decide_true, decide_false, ne_zero, h1, m, e]
        exact ⟨_, _, .va, .va, rfl⟩
  · rintro g ⟨s, s', hs, hs', rfl⟩
    simp only [↓O_ret, ↓O_bad, ↓O_bnd, ↓O_opt, ↓O_if, ↓O_ite, ↓O_eN, ↓O_e1, ↓O_e2, ↓U_ap1, ↓U_ap2, ↓U_f1, ↓U_f2, ↓U_opt, ↓O_eD, ↓O_eV, ↓O_vl, ↓O_tB, ↓O_asB, ↓O_notM, ↓O_ofB, ↓O_andM, ↓O_orM, ↓O_args0, ↓O_args1, ↓U_apL, ↓U_tup, ↓U_lst, ↓U_call, ↓U_callN, ↓U_callM, ↓U_callMN, ↓U_itM, ↓U_rev, ↓O_noex, ↓S_seq, ↓S_nil, ↓S_pass, ↓S_brk, ↓S_cnt, ↓S_bad, ↓S_nx, ↓S_rt, ↓S_asg, ↓S_if, ↓S_exp, ↓S_retN, ↓S_ret, ↓S_retW, ↓S_new, ↓S_par, ↓S_par3, ↓S_for, gt, res, resL, vls, anyO, setV, setO, setMo, Sl.mo, Mo.dat, tName, Mir.tTup, Mir.tNil, Mir.tCons, tupN, tupD, lenN, lenD, absN, absD, intN, intD, maxN, maxD, minN, minD, negD, addD, subD, ltD, leD, gtD, geD, modD, ixD, isND, notND, at0, at1, at2, eq_int, ne_int, eq_bl, isi_tup, isi_int, isi_bl, isT_tt, isT_ii, isT_ib, allN, allD, anyN, anyD, itD, lstE, ↓reduceIte, Nat.reduceLT, Nat.reduceAdd, Nat.reduceLeDiff, Nat.zero_add, List.map, List.cons_append, List.nil_append, List.replicate, List.append_nil, List.length_cons, List.length_nil, Option.map_some, Option.map_none, Option.bind_some, List.set_cons_zero, List.set_cons_succ, Bool.false_and, Bool.true_and, Bool.and_false, Bool.and_true, Bool.not_true, Bool.not_false, if_true, if_false, Bool.false_eq_true, decide_true, decide_false, List.length_range]
theorem s_table_behind (h m w : Nat) (a b : Nat → Nat → Rat) {k : Nat} (ha : ∀ i, i < h → ∀ j, j < m → Sz k (a i j)) (hb : ∀ i, i < m → ∀ j, j < w → Sz k (b i j)) (hk : (k + k + 1) * m + 1 < 4400) (hk2 : k < 2200) (hw : w ≤ 1000) (hh : h ≤ 1000) : f_table_behind [tabD (mkT h m a), tabD (mkT m w b), .int w] = .ok (tabD (mkT h w fun i j => Sm m fun l => a i l * b l j)) := by
  refine f_of ?_
  have c := cmp_okA (vs := [3]) (m := bnd (eN 0) itM) (t := tName 3) (e := (eD (bnd (eArgs [(eN 2), (eN 1), (eN 3)]) (callF 3 f_led_told [])))) (g := [.va (tabD (mkT h m a)), .va (tabD (mkT m w b)), .va (.int w), .no]) (fun i : Nat => rowD (rowF m (a i))) (fun i => rowD (rowF w fun j => Sm m fun l => a i l * b l j)) (xs := List.range h) (by
      show Rs.ok ((mkT h m a).map rowD) _ = _
      unfold mkT
      rw [List.map_map]; rfl) rfl (fun i hi => by
    refine ⟨_, rfl, ?_⟩
    simp only [wipeG, ↓O_ret, ↓O_bad, ↓O_bnd, ↓O_opt, ↓O_if, ↓O_ite, ↓O_eN, ↓O_e1, ↓O_e2, ↓U_ap1, ↓U_ap2, ↓U_f1, ↓U_f2, ↓U_opt, ↓O_eD, ↓O_eV, ↓O_vl, ↓O_tB, ↓O_asB, ↓O_notM, ↓O_ofB, ↓O_andM, ↓O_orM, ↓O_args0, ↓O_args1, ↓U_apL, ↓U_tup, ↓U_lst, ↓U_call, ↓U_callN, ↓U_callM, ↓U_callMN, ↓U_itM, ↓U_rev, ↓O_noex, ↓S_seq, ↓S_nil, ↓S_pass, ↓S_brk, ↓S_cnt, ↓S_bad, ↓S_nx, ↓S_rt, ↓S_asg, ↓S_if, ↓S_exp, ↓S_retN, ↓S_ret, ↓S_retW, ↓S_new, ↓S_par, ↓S_par3, ↓S_for, gt, res, resL, vls, anyO, setV, setO, setMo, Sl.mo, Mo.dat, tName, Mir.tTup, Mir.tNil, Mir.tCons, tupN, tupD, lenN, lenD, absN, absD, intN, intD, maxN, maxD, minN, minD, negD, addD, subD, ltD, leD, gtD, geD, modD, ixD, isND, notND, at0, at1, at2, eq_int, ne_int, eq_bl, isi_tup, isi_int, isi_bl, isT_tt, isT_ii, isT_ib, allN, allD, anyN, anyD, itD, lstE, ↓reduceIte, Nat.reduceLT, Nat.reduceAdd, Nat.reduceLeDiff, Nat.zero_add, List.map, List.cons_append, List.nil_append, List.replicate, List.append_nil, List.length_cons, List.length_nil, Option.map_some, Option.map_none, Option.bind_some, List.set_cons_zero, List.set_cons_succ, Bool.false_and, Bool.true_and, Bool.and_false, Bool.and_true, Bool.not_true, Bool.not_false, if_true, if_false, Bool.false_eq_true, decide_true, decide_false, s_led_told w m b (a i) hb (ha i (List.mem_range.mp hi)) hk hk2 hw]
    exact ⟨by first | trivial | rfl, by first | trivial | rfl⟩) (by rw [List.length_range]; omega)
  simp only [b_table_behind, ↓O_ret, ↓O_bad, ↓O_bnd, ↓O_opt, ↓O_if, ↓O_ite, ↓O_eN, ↓O_e1, ↓O_e2, ↓U_ap1, ↓U_ap2, ↓U_f1, ↓U_f2, ↓U_opt, ↓O_eD, ↓O_eV, ↓O_vl, ↓O_tB, ↓O_asB, ↓O_notM, ↓O_ofB, ↓O_andM, ↓O_orM, ↓O_args0, ↓O_args1, ↓U_apL, ↓U_tup, ↓U_lst, ↓U_call, ↓U_callN, ↓U_callM, ↓U_callMN, ↓U_itM, ↓U_rev, ↓O_noex, ↓S_seq, ↓S_nil, ↓S_pass, ↓S_brk, ↓S_cnt, ↓S_bad, ↓S_nx, ↓S_rt, ↓S_asg, ↓S_if, ↓S_exp, ↓S_retN, ↓S_ret, ↓S_retW, ↓S_new, ↓S_par, ↓S_par3, ↓S_for, gt, res, resL, vls, anyO, setV, setO, setMo, Sl.mo, Mo.dat, tName, Mir.tTup, Mir.tNil, Mir.tCons, tupN, tupD, lenN, lenD, absN, absD, intN, intD, maxN, maxD, minN, minD, negD, addD, subD, ltD, leD, gtD, geD, modD, ixD, isND, notND, at0, at1, at2, eq_int, ne_int, eq_bl, isi_tup, isi_int, isi_bl, isT_tt, isT_ii, isT_ib, allN, allD, anyN, anyD, itD, lstE, ↓reduceIte, Nat.reduceLT, Nat.reduceAdd, Nat.reduceLeDiff, Nat.zero_add, List.map, List.cons_append, List.nil_append, List.replicate, List.append_nil, List.length_cons, List.length_nil, Option.map_some, Option.map_none, Option.bind_some, List.set_cons_zero, List.set_cons_succ, Bool.false_and, Bool.true_and, Bool.and_false, Bool.and_true, Bool.not_true, Bool.not_false, if_true, if_false, Bool.false_eq_true, decide_true, decide_false, c, ↓O_ok, List.length_map, List.length_range]
  rw [tabD_F]

theorem out_ok {α : Type} {r : Rs α} {a : α} {g : En} (h : Out r (fun x g' => x = a ∧ g' = g) (fun _ _ => False)) : r = .ok a g := by
  cases r with
  | ok x g' => obtain ⟨rfl, rfl⟩ := h; rfl
  | ex x g' => exact h.elim
  | bad => exact h.elim
theorem ix_row {α : Type} (n j : Nat) (f : Nat → α) (h : j < n) : atI ((List.range n).map f) (j : Int) = some (f j) := by
  unfold atI ixN
  rw [if_pos (by omega), if_pos (by rw [List.length_map, List.length_range]; omega), Option.bind_some, Int.toNat_natCast, List.getElem?_map, List.getElem?_range h]; rfl
theorem ix_rowD (n j : Nat) (f : Nat → Rat) (h : j < n) : ixD (rowD (rowF n f)) (.int j) = some (numD (f j)) := by
  rw [rowD_F]; exact ix_row n j _ h
def colD (h : Nat) (e : Nat → Nat → Rat) (j : Nat) : D := rowD (rowF h fun i => e i j)
theorem s_columns_of (h w : Nat) (e : Nat → Nat → Rat) (hw : w ≤ 1000) (hh : h ≤ 1000) : f_columns_of [tabD (mkT h w e), .int w] = .ok (tabD (mkT w h fun j i => e i j)) := by
  refine f_of ?_
  have c := cmp_okA (vs := [2]) (m := bnd (eArgs [(eN 1)]) rng1) (t := tName 2) (e := (eD (bnd (eArgs [(eD (lstE (cmp [3] (bnd (eN 0) itM) (tName 3) yes (eD (e2 (eN 3) (eN 2) (f2 ixD))))))]) (apL tupN)))) (g := [.va (tabD (mkT h w e)), .va (.int w), .no, .no]) (fun p : Nat => D.int p) (fun j => rowD (rowF h fun i => e i j)) (xs := List.range w) ((bnd_ok rfl).trans (rngA w (by omega) _)) rfl (fun j hj => by
    refine ⟨_, rfl, ?_⟩
    have c := cmp_okA (vs := [3]) (m := bnd (eN 0) itM) (t := tName 3) (e := (eD (e2 (eN 3) (eN 2) (f2 ixD)))) (g := [.va (tabD (mkT h w e)), .va (.int w), .va (.int (j : Nat)), .no]) (fun i : Nat => rowD (rowF w (e i))) (fun i => numD (e i j)) (xs := List.range h) (by
      rw [tabD_F]; rfl) rfl (fun i hi => by
      refine ⟨_, rfl, ?_⟩
      have x := ix_row w j (fun j => numD (e i j)) (List.mem_range.mp hj)
      simp only [rowD_F, wipeG, ↓O_ret, ↓O_bad, ↓O_bnd, ↓O_opt, ↓O_if, ↓O_ite, ↓O_eN, ↓O_e1, ↓O_e2, ↓U_ap1, ↓U_ap2, ↓U_f1, ↓U_f2, ↓U_opt, ↓O_eD, ↓O_eV, ↓O_vl, ↓O_tB, ↓O_asB, ↓O_notM, ↓O_ofB, ↓O_andM, ↓O_orM, ↓O_args0, ↓O_args1, ↓U_apL, ↓U_tup, ↓U_lst, ↓U_call, ↓U_callN, ↓U_callM, ↓U_callMN, ↓U_itM, ↓U_rev, ↓O_noex, ↓S_seq, ↓S_nil, ↓S_pass, ↓S_brk, ↓S_cnt, ↓S_bad, ↓S_nx, ↓S_rt, ↓S_asg, ↓S_if, ↓S_exp, ↓S_retN, ↓S_ret, ↓S_retW, ↓S_new, ↓S_par, ↓S_par3, ↓S_for, gt, res, resL, vls, anyO, setV, setO, setMo, Sl.mo, Mo.dat, tName, Mir.tTup, Mir.tNil, Mir.tCons, tupN, tupD, lenN, lenD, absN, absD, intN, intD, maxN, maxD, minN, minD, negD, addD, subD, ltD, leD, gtD, geD, modD, ixD, isND, notND, at0, at1, at2, eq_int, ne_int, eq_bl, isi_tup, isi_int, isi_bl, isT_tt, isT_ii, isT_ib, allN, allD, anyN, anyD, itD, lstE, ↓reduceIte, Nat.reduceLT, Nat.reduceAdd, Nat.reduceLeDiff, Nat.zero_add, List.map, List.cons_append, List.nil_append, List.replicate, List.append_nil, List.length_cons, List.length_nil, Option.map_some, Option.map_none, Option.bind_some, List.set_cons_zero, List.set_cons_succ, Bool.false_and, Bool.true_and, Bool.and_false, Bool.and_true, Bool.not_true, Bool.not_false, if_true, if_false, Bool.false_eq_true, decide_true, decide_false, ixD, x]
      exact ⟨by first | trivial | rfl, by first | trivial | rfl⟩) (by rw [List.length_range]; omega)
    simp only [wipeG, ↓O_ret, ↓O_bad, ↓O_bnd, ↓O_opt, ↓O_if, ↓O_ite, ↓O_eN, ↓O_e1, ↓O_e2, ↓U_ap1, ↓U_ap2, ↓U_f1, ↓U_f2, ↓U_opt, ↓O_eD, ↓O_eV, ↓O_vl, ↓O_tB, ↓O_asB, ↓O_notM, ↓O_ofB, ↓O_andM, ↓O_orM, ↓O_args0, ↓O_args1, ↓U_apL, ↓U_tup, ↓U_lst, ↓U_call, ↓U_callN, ↓U_callM, ↓U_callMN, ↓U_itM, ↓U_rev, ↓O_noex, ↓S_seq, ↓S_nil, ↓S_pass, ↓S_brk, ↓S_cnt, ↓S_bad, ↓S_nx, ↓S_rt, ↓S_asg, ↓S_if, ↓S_exp, ↓S_retN, ↓S_ret, ↓S_retW, ↓S_new, ↓S_par, ↓S_par3, ↓S_for, gt, res, resL, vls, anyO, setV, setO, setMo, Sl.mo, Mo.dat, tName, Mir.tTup, Mir.tNil, Mir.tCons, tupN, tupD, lenN, lenD, absN, absD, intN, intD, maxN, maxD, minN, minD, negD, addD, subD, ltD, leD, gtD, geD, modD, ixD, isND, notND, at0, at1, at2, eq_int, ne_int, eq_bl, isi_tup, isi_int, isi_bl, isT_tt, isT_ii, isT_ib, allN, allD, anyN, anyD, itD, lstE, ↓reduceIte, Nat.reduceLT, Nat.reduceAdd, Nat.reduceLeDiff, Nat.zero_add, List.map, List.cons_append, List.nil_append, List.replicate, List.append_nil, List.length_cons, List.length_nil, Option.map_some, Option.map_none, Option.bind_some, List.set_cons_zero, List.set_cons_succ, Bool.false_and, Bool.true_and, Bool.and_false, Bool.and_true, Bool.not_true, Bool.not_false, if_true, if_false, Bool.false_eq_true, decide_true, decide_false, c, ↓O_ok, rowD_F h, List.length_map, List.length_range]
    exact ⟨by first | trivial | rfl, by first | trivial | rfl⟩) (by rw [List.length_range]; omega)
  simp only [b_columns_of, ↓O_ret, ↓O_bad, ↓O_bnd, ↓O_opt, ↓O_if, ↓O_ite, ↓O_eN, ↓O_e1, ↓O_e2, ↓U_ap1, ↓U_ap2, ↓U_f1, ↓U_f2, ↓U_opt, ↓O_eD, ↓O_eV, ↓O_vl, ↓O_tB, ↓O_asB, ↓O_notM, ↓O_ofB, ↓O_andM, ↓O_orM, ↓O_args0, ↓O_args1, ↓U_apL, ↓U_tup, ↓U_lst, ↓U_call, ↓U_callN, ↓U_callM, ↓U_callMN, ↓U_itM, ↓U_rev, ↓O_noex, ↓S_seq, ↓S_nil, ↓S_pass, ↓S_brk, ↓S_cnt, ↓S_bad, ↓S_nx, ↓S_rt, ↓S_asg, ↓S_if, ↓S_exp, ↓S_retN, ↓S_ret, ↓S_retW, ↓S_new, ↓S_par, ↓S_par3, ↓S_for, gt, res, resL, vls, anyO, setV, setO, setMo, Sl.mo, Mo.dat, tName, Mir.tTup, Mir.tNil, Mir.tCons, tupN, tupD, lenN, lenD, absN, absD, intN, intD, maxN, maxD, minN, minD, negD, addD, subD, ltD, leD, gtD, geD, modD, ixD, isND, notND, at0, at1, at2, eq_int, ne_int, eq_bl, isi_tup, isi_int, isi_bl, isT_tt, isT_ii, isT_ib, allN, allD, anyN, anyD, itD, lstE, ↓reduceIte, Nat.reduceLT, Nat.reduceAdd, Nat.reduceLeDiff, Nat.zero_add, List.map, List.cons_append, List.nil_append, List.replicate, List.append_nil, List.length_cons, List.length_nil, Option.map_some, Option.map_none, Option.bind_some, List.set_cons_zero, List.set_cons_succ, Bool.false_and, Bool.true_and, Bool.and_false, Bool.and_true, Bool.not_true, Bool.not_false, if_true, if_false, Bool.false_eq_true, decide_true, decide_false, c, ↓O_ok, List.length_map, List.length_range]
  rw [tabD_F]
theorem s_law_columns (h w : Nat) (e : Nat → Nat → Rat) (hw : w ≤ 1000) (hh : h ≤ 1000) : f_law_columns [tabD (mkT h w e), .int w] = .new ((List.range w).map fun j => rowD (rowF h fun i => e i j)) := by
  refine f_ofN ?_
  have c := cmp_okA (vs := [2]) (m := bnd (eArgs [(eN 1)]) rng1) (t := tName 2) (e := (eD (bnd (eArgs [(eD (lstE (cmp [3] (bnd (eN 0) itM) (tName 3) yes (eD (e2 (eN 3) (eN 2) (f2 ixD))))))]) (apL tupN)))) (g := [.va (tabD (mkT h w e)), .va (.int w), .no, .no]) (fun p : Nat => D.int p) (fun j => rowD (rowF h fun i => e i j)) (xs := List.range w) ((bnd_ok rfl).trans (rngA w (by omega) _)) rfl (fun j hj => by
    refine ⟨_, rfl, ?_⟩
    have c := cmp_okA (vs := [3]) (m := bnd (eN 0) itM) (t := tName 3) (e := (eD (e2 (eN 3) (eN 2) (f2 ixD)))) (g := [.va (tabD (mkT h w e)), .va (.int w), .va (.int (j : Nat)), .no]) (fun i : Nat => rowD (rowF w (e i))) (fun i => numD (e i j)) (xs := List.range h) (by
      rw [tabD_F]; rfl) rfl (fun i hi => by
      refine ⟨_, rfl, ?_⟩
      have x := ix_row w j (fun j => numD (e i j)) (List.mem_range.mp hj)
      simp only [rowD_F, wipeG, ↓O_ret, ↓O_bad, ↓O_bnd, ↓O_opt, ↓O_if, ↓O_ite, ↓O_eN, ↓O_e1, ↓O_e2, ↓U_ap1, ↓U_ap2, ↓U_f1, ↓U_f2, ↓U_opt, ↓O_eD, ↓O_eV, ↓O_vl, ↓O_tB, ↓O_asB, ↓O_notM, ↓O_ofB, ↓O_andM, ↓O_orM, ↓O_args0, ↓O_args1, ↓U_apL, ↓U_tup, ↓U_lst, ↓U_call, ↓U_callN, ↓U_callM, ↓U_callMN, ↓U_itM, ↓U_rev, ↓O_noex, ↓S_seq, ↓S_nil, ↓S_pass, ↓S_brk, ↓S_cnt, ↓S_bad, ↓S_nx, ↓S_rt, ↓S_asg, ↓S_if, ↓S_exp, ↓S_retN, ↓S_ret, ↓S_retW, ↓S_new, ↓S_par, ↓S_par3, ↓S_for, gt, res, resL, vls, anyO, setV, setO, setMo, Sl.mo, Mo.dat, tName, Mir.tTup, Mir.tNil, Mir.tCons, tupN, tupD, lenN, lenD, absN, absD, intN, intD, maxN, maxD, minN, minD, negD, addD, subD, ltD, leD, gtD, geD, modD, ixD, isND, notND, at0, at1, at2, eq_int, ne_int, eq_bl, isi_tup, isi_int, isi_bl, isT_tt, isT_ii, isT_ib, allN, allD, anyN, anyD, itD, lstE, ↓reduceIte, Nat.reduceLT, Nat.reduceAdd, Nat.reduceLeDiff, Nat.zero_add, List.map, List.cons_append, List.nil_append, List.replicate, List.append_nil, List.length_cons, List.length_nil, Option.map_some, Option.map_none, Option.bind_some, List.set_cons_zero, List.set_cons_succ, Bool.false_and, Bool.true_and, Bool.and_false, Bool.and_true, Bool.not_true, Bool.not_false, if_true, if_false, Bool.false_eq_true, decide_true, decide_false, ixD, x]
      exact ⟨by first | trivial | rfl, by first | trivial | rfl⟩) (by rw [List.length_range]; omega)
    simp only [wipeG, ↓O_ret, ↓O_bad, ↓O_bnd, ↓O_opt, ↓O_if, ↓O_ite, ↓O_eN, ↓O_e1, ↓O_e2, ↓U_ap1, ↓U_ap2, ↓U_f1, ↓U_f2, ↓U_opt, ↓O_eD, ↓O_eV, ↓O_vl, ↓O_tB, ↓O_asB, ↓O_notM, ↓O_ofB, ↓O_andM, ↓O_orM, ↓O_args0, ↓O_args1, ↓U_apL, ↓U_tup, ↓U_lst, ↓U_call, ↓U_callN, ↓U_callM, ↓U_callMN, ↓U_itM, ↓U_rev, ↓O_noex, ↓S_seq, ↓S_nil, ↓S_pass, ↓S_brk, ↓S_cnt, ↓S_bad, ↓S_nx, ↓S_rt, ↓S_asg, ↓S_if, ↓S_exp, ↓S_retN, ↓S_ret, ↓S_retW, ↓S_new, ↓S_par, ↓S_par3, ↓S_for, gt, res, resL, vls, anyO, setV, setO, setMo, Sl.mo, Mo.dat, tName, Mir.tTup, Mir.tNil, Mir.tCons, tupN, tupD, lenN, lenD, absN, absD, intN, intD, maxN, maxD, minN, minD, negD, addD, subD, ltD, leD, gtD, geD, modD, ixD, isND, notND, at0, at1, at2, eq_int, ne_int, eq_bl, isi_tup, isi_int, isi_bl, isT_tt, isT_ii, isT_ib, allN, allD, anyN, anyD, itD, lstE, ↓reduceIte, Nat.reduceLT, Nat.reduceAdd, Nat.reduceLeDiff, Nat.zero_add, List.map, List.cons_append, List.nil_append, List.replicate, List.append_nil, List.length_cons, List.length_nil, Option.map_some, Option.map_none, Option.bind_some, List.set_cons_zero, List.set_cons_succ, Bool.false_and, Bool.true_and, Bool.and_false, Bool.and_true, Bool.not_true, Bool.not_false, if_true, if_false, Bool.false_eq_true, decide_true, decide_false, c, ↓O_ok, rowD_F h, List.length_map, List.length_range]
    exact ⟨by first | trivial | rfl, by first | trivial | rfl⟩) (by rw [List.length_range]; omega)
  simp only [b_law_columns, ↓O_ret, ↓O_bad, ↓O_bnd, ↓O_opt, ↓O_if, ↓O_ite, ↓O_eN, ↓O_e1, ↓O_e2, ↓U_ap1, ↓U_ap2, ↓U_f1, ↓U_f2, ↓U_opt, ↓O_eD, ↓O_eV, ↓O_vl, ↓O_tB, ↓O_asB, ↓O_notM, ↓O_ofB, ↓O_andM, ↓O_orM, ↓O_args0, ↓O_args1, ↓U_apL, ↓U_tup, ↓U_lst, ↓U_call, ↓U_callN, ↓U_callM, ↓U_callMN, ↓U_itM, ↓U_rev, ↓O_noex, ↓S_seq, ↓S_nil, ↓S_pass, ↓S_brk, ↓S_cnt, ↓S_bad, ↓S_nx, ↓S_rt, ↓S_asg, ↓S_if, ↓S_exp, ↓S_retN, ↓S_ret, ↓S_retW, ↓S_new, ↓S_par, ↓S_par3, ↓S_for, gt, res, resL, vls, anyO, setV, setO, setMo, Sl.mo, Mo.dat, tName, Mir.tTup, Mir.tNil, Mir.tCons, tupN, tupD, lenN, lenD, absN, absD, intN, intD, maxN, maxD, minN, minD, negD, addD, subD, ltD, leD, gtD, geD, modD, ixD, isND, notND, at0, at1, at2, eq_int, ne_int, eq_bl, isi_tup, isi_int, isi_bl, isT_tt, isT_ii, isT_ib, allN, allD, anyN, anyD, itD, lstE, ↓reduceIte, Nat.reduceLT, Nat.reduceAdd, Nat.reduceLeDiff, Nat.zero_add, List.map, List.cons_append, List.nil_append, List.replicate, List.append_nil, List.length_cons, List.length_nil, Option.map_some, Option.map_none, Option.bind_some, List.set_cons_zero, List.set_cons_succ, Bool.false_and, Bool.true_and, Bool.and_false, Bool.and_true, Bool.not_true, Bool.not_false, if_true, if_false, Bool.false_eq_true, decide_true, decide_false, c, ↓O_ok, List.length_map, List.length_range]
theorem s_columns (h w : Nat) (e : Nat → Nat → Rat) (hw : w ≤ 144) (hh : h ≤ 144) : f_columns [.int h, .int w, tabD (mkT h w e)] = .ok (tabD (mkT w h fun j i => e i j)) := by
  refine f_of ?_
  simp only [b_columns, ↓O_ret, ↓O_bad, ↓O_bnd, ↓O_opt, ↓O_if, ↓O_ite, ↓O_eN, ↓O_e1, ↓O_e2, ↓U_ap1, ↓U_ap2, ↓U_f1, ↓U_f2, ↓U_opt, ↓O_eD, ↓O_eV, ↓O_vl, ↓O_tB, ↓O_asB, ↓O_notM, ↓O_ofB, ↓O_andM, ↓O_orM, ↓O_args0, ↓O_args1, ↓U_apL, ↓U_tup, ↓U_lst, ↓U_call, ↓U_callN, ↓U_callM, ↓U_callMN, ↓U_itM, ↓U_rev, ↓O_noex, ↓S_seq, ↓S_nil, ↓S_pass, ↓S_brk, ↓S_cnt, ↓S_bad, ↓S_nx, ↓S_rt, ↓S_asg, ↓S_if, ↓S_exp, ↓S_retN, ↓S_ret, ↓S_retW, ↓S_new, ↓S_par, ↓S_par3, ↓S_for, gt, res, resL, vls, anyO, setV, setO, setMo, Sl.mo, Mo.dat, tName, Mir.tTup, Mir.tNil, Mir.tCons, tupN, tupD, lenN, lenD, absN, absD, intN, intD, maxN, maxD, minN, minD, negD, addD, subD, ltD, leD, gtD, geD, modD, ixD, isND, notND, at0, at1, at2, eq_int, ne_int, eq_bl, isi_tup, isi_int, isi_bl, isT_tt, isT_ii, isT_ib, allN, allD, anyN, anyD, itD, lstE, ↓reduceIte, Nat.reduceLT, Nat.reduceAdd, Nat.reduceLeDiff, Nat.zero_add, List.map, List.cons_append, List.nil_append, List.replicate, List.append_nil, List.length_cons, List.length_nil, Option.map_some, Option.map_none, Option.bind_some, List.set_cons_zero, List.set_cons_succ, Bool.false_and, Bool.true_and, Bool.and_false, Bool.and_true, Bool.not_true, Bool.not_false, if_true, if_false, Bool.false_eq_true, decide_true, decide_false, s_require_sized h w _ mkT_shape hh hw, s_columns_of h w e (by omega) (by omega)]
theorem s_led (h n : Nat) (e : Nat → Nat → Rat) (r : Nat → Rat) {k : Nat} (he : ∀ i, i < h → ∀ j, j < n → Sz k (e i j)) (hr : ∀ j, j < n → Sz k (r j)) (hk : (k + k + 1) * n + 1 < 4400) (hk2 : k < 2200) (hh : h ≤ 144) (hn : n ≤ 144) : f_led [.int h, .int n, tabD (mkT h n e), rowD (rowF n r)] = .ok (rowD (rowF h fun i => Sm n fun j => r j * e i j)) := by
  refine f_of ?_
  simp only [b_led, ↓O_ret, ↓O_bad, ↓O_bnd, ↓O_opt, ↓O_if, ↓O_ite, ↓O_eN, ↓O_e1, ↓O_e2, ↓U_ap1, ↓U_ap2, ↓U_f1, ↓U_f2, ↓U_opt, ↓O_eD, ↓O_eV, ↓O_vl, ↓O_tB, ↓O_asB, ↓O_notM, ↓O_ofB, ↓O_andM, ↓O_orM, ↓O_args0, ↓O_args1, ↓U_apL, ↓U_tup, ↓U_lst, ↓U_call, ↓U_callN, ↓U_callM, ↓U_callMN, ↓U_itM, ↓U_rev, ↓O_noex, ↓S_seq, ↓S_nil, ↓S_pass, ↓S_brk, ↓S_cnt, ↓S_bad, ↓S_nx, ↓S_rt, ↓S_asg, ↓S_if, ↓S_exp, ↓S_retN, ↓S_ret, ↓S_retW, ↓S_new, ↓S_par, ↓S_par3, ↓S_for, gt, res, resL, vls, anyO, setV, setO, setMo, Sl.mo, Mo.dat, tName, Mir.tTup, Mir.tNil, Mir.tCons, tupN, tupD, lenN, lenD, absN, absD, intN, intD, maxN, maxD, minN, minD, negD, addD, subD, ltD, leD, gtD, geD, modD, ixD, isND, notND, at0, at1, at2, eq_int, ne_int, eq_bl, isi_tup, isi_int, isi_bl, isT_tt, isT_ii, isT_ib, allN, allD, anyN, anyD, itD, lstE, ↓reduceIte, Nat.reduceLT, Nat.reduceAdd, Nat.reduceLeDiff, Nat.zero_add, List.map, List.cons_append, List.nil_append, List.replicate, List.append_nil, List.length_cons, List.length_nil, Option.map_some, Option.map_none, Option.bind_some, List.set_cons_zero, List.set_cons_succ, Bool.false_and, Bool.true_and, Bool.and_false, Bool.and_true, Bool.not_true, Bool.not_false, if_true, if_false, Bool.false_eq_true, decide_true, decide_false, s_require_sized h n _ mkT_shape hh hn, s_require_row n _ rowF_len (by omega), s_led_row h n e r he hr hk hk2 (by omega)]
theorem s_table_times (h m w : Nat) (a b : Nat → Nat → Rat) {k : Nat} (ha : ∀ i, i < h → ∀ j, j < m → Sz k (a i j)) (hb : ∀ i, i < m → ∀ j, j < w → Sz k (b i j)) (hk : (k + k + 1) * m + 1 < 4400) (hk2 : k < 2200) (hh : h ≤ 144) (hm : m ≤ 144) (hw : w ≤ 144) : f_table_times [.int h, .int m, .int w, tabD (mkT h m a), tabD (mkT m w b)] = .ok (tabD (mkT h w fun i j => Sm m fun l => a i l * b l j)) := by
  refine f_of ?_
  simp only [b_table_times, ↓O_ret, ↓O_bad, ↓O_bnd, ↓O_opt, ↓O_if, ↓O_ite, ↓O_eN, ↓O_e1, ↓O_e2, ↓U_ap1, ↓U_ap2, ↓U_f1, ↓U_f2, ↓U_opt, ↓O_eD, ↓O_eV, ↓O_vl, ↓O_tB, ↓O_asB, ↓O_notM, ↓O_ofB, ↓O_andM, ↓O_orM, ↓O_args0, ↓O_args1, ↓U_apL, ↓U_tup, ↓U_lst, ↓U_call, ↓U_callN, ↓U_callM, ↓U_callMN, ↓U_itM, ↓U_rev, ↓O_noex, ↓S_seq, ↓S_nil, ↓S_pass, ↓S_brk, ↓S_cnt, ↓S_bad, ↓S_nx, ↓S_rt, ↓S_asg, ↓S_if, ↓S_exp, ↓S_retN, ↓S_ret, ↓S_retW, ↓S_new, ↓S_par, ↓S_par3, ↓S_for, gt, res, resL, vls, anyO, setV, setO, setMo, Sl.mo, Mo.dat, tName, Mir.tTup, Mir.tNil, Mir.tCons, tupN, tupD, lenN, lenD, absN, absD, intN, intD, maxN, maxD, minN, minD, negD, addD, subD, ltD, leD, gtD, geD, modD, ixD, isND, notND, at0, at1, at2, eq_int, ne_int, eq_bl, isi_tup, isi_int, isi_bl, isT_tt, isT_ii, isT_ib, allN, allD, anyN, anyD, itD, lstE, ↓reduceIte, Nat.reduceLT, Nat.reduceAdd, Nat.reduceLeDiff, Nat.zero_add, List.map, List.cons_append, List.nil_append, List.replicate, List.append_nil, List.length_cons, List.length_nil, Option.map_some, Option.map_none, Option.bind_some, List.set_cons_zero, List.set_cons_succ, Bool.false_and, Bool.true_and, Bool.and_false, Bool.and_true, Bool.not_true, Bool.not_false, if_true, if_false, Bool.false_eq_true, decide_true, decide_false, s_require_width h hh, s_require_width m hm, s_require_width w hw, s_require_table h m _ mkT_shape (by omega) (by omega), s_require_table m w _ mkT_shape (by omega) (by omega), s_table_behind h m w a b ha hb hk hk2 (by omega) (by omega)]
theorem zipTT (n w : Nat) (a b : Nat → Nat → Rat) : zipD ((mkT n w a).map rowD) ((mkT n w b).map rowD) = (List.range n).map fun i => D.tup [rowD (rowF w (a i)), rowD (rowF w (b i))] := by
  unfold zipD mkT
  rw [List.map_map, List.map_map, List.zip_map', List.map_map]; rfl
theorem s_table_plus (h w : Nat) (a b : Nat → Nat → Rat) {k : Nat} (ha : ∀ i, i < h → ∀ j, j < w → Sz k (a i j)) (hb : ∀ i, i < h → ∀ j, j < w → Sz k (b i j)) (hk : k < 4400) (hh : h ≤ 144) (hw : w ≤ 144) : f_table_plus [.int h, .int w, tabD (mkT h w a), tabD (mkT h w b)] = .ok (tabD (mkT h w fun i j => a i j + b i j)) := by
  refine f_of ?_
  have c := cmp_okA (vs := [4, 5]) (m := bnd (eArgs [(eN 2), (eN 3)]) zipM) (t := Mir.tTup 2 (Mir.tCons (tName 4) (Mir.tCons (tName 5) Mir.tNil))) (e := (eD (bnd (eArgs [(eN 4), (eN 5)]) (callF 2 f_sum_of_rows [])))) (g := [.va (.int h), .va (.int w), .va (tabD (mkT h w a)), .va (tabD (mkT h w b)), .no, .no]) (fun i : Nat => D.tup [rowD (rowF w (a i)), rowD (rowF w (b i))]) (fun i => rowD (rowF w fun j => a i j + b i j)) (xs := List.range h) (by
      show Rs.ok (zipD ((mkT h w a).map rowD) ((mkT h w b).map rowD)) _ = _
      rw [zipTT]) rfl (fun i hi => by
    refine ⟨_, rfl, ?_⟩
    have e := s_sum_of_rows (rowF w (a i)) (rowF w (b i)) (rowF_sz (ha i (List.mem_range.mp hi))) (rowF_sz (hb i (List.mem_range.mp hi))) hk (by rw [rowF_len]; omega)
    rw [addRow_F] at e
    simp only [wipeG, ↓O_ret, ↓O_bad, ↓O_bnd, ↓O_opt, ↓O_if, ↓O_ite, ↓O_eN, ↓O_e1, ↓O_e2, ↓U_ap1, ↓U_ap2, ↓U_f1, ↓U_f2, ↓U_opt, ↓O_eD, ↓O_eV, ↓O_vl, ↓O_tB, ↓O_asB, ↓O_notM, ↓O_ofB, ↓O_andM, ↓O_orM, ↓O_args0, ↓O_args1, ↓U_apL, ↓U_tup, ↓U_lst, ↓U_call, ↓U_callN, ↓U_callM, ↓U_callMN, ↓U_itM, ↓U_rev, ↓O_noex, ↓S_seq, ↓S_nil, ↓S_pass, ↓S_brk, ↓S_cnt, ↓S_bad, ↓S_nx, ↓S_rt, ↓S_asg, ↓S_if, ↓S_exp, ↓S_retN, ↓S_ret, ↓S_retW, ↓S_new, ↓S_par, ↓S_par3, ↓S_for, gt, res, resL, vls, anyO, setV, setO, setMo, Sl.mo, Mo.dat, tName, Mir.tTup, Mir.tNil, Mir.tCons, tupN, tupD, lenN, lenD, absN, absD, intN, intD, maxN, maxD, minN, minD, negD, addD, subD, ltD, leD, gtD, geD, modD, ixD, isND, notND, at0, at1, at2, eq_int, ne_int, eq_bl, isi_tup, isi_int, isi_bl, isT_tt, isT_ii, isT_ib, allN, allD, anyN, anyD, itD, lstE, ↓reduceIte, Nat.reduceLT, Nat.reduceAdd, Nat.reduceLeDiff, Nat.zero_add, List.map, List.cons_append, List.nil_append, List.replicate, List.append_nil, List.length_cons, List.length_nil, Option.map_some, Option.map_none, Option.bind_some, List.set_cons_zero, List.set_cons_succ, Bool.false_and, Bool.true_and, Bool.and_false, Bool.and_true, Bool.not_true, Bool.not_false, if_true, if_false, Bool.false_eq_true, decide_true, decide_false, e]
    exact ⟨by first | trivial | rfl, by first | trivial | rfl⟩) (by rw [List.length_range]; omega)
  simp only [b_table_plus, ↓O_ret, ↓O_bad, ↓O_bnd, ↓O_opt, ↓O_if, ↓O_ite, ↓O_eN, ↓O_e1, ↓O_e2, ↓U_ap1, ↓U_ap2, ↓U_f1, ↓U_f2, ↓U_opt, ↓O_eD, ↓O_eV, ↓O_vl, ↓O_tB, ↓O_asB, ↓O_notM, ↓O_ofB, ↓O_andM, ↓O_orM, ↓O_args0, ↓O_args1, ↓U_apL, ↓U_tup, ↓U_lst, ↓U_call, ↓U_callN, ↓U_callM, ↓U_callMN, ↓U_itM, ↓U_rev, ↓O_noex, ↓S_seq, ↓S_nil, ↓S_pass, ↓S_brk, ↓S_cnt, ↓S_bad, ↓S_nx, ↓S_rt, ↓S_asg, ↓S_if, ↓S_exp, ↓S_retN, ↓S_ret, ↓S_retW, ↓S_new, ↓S_par, ↓S_par3, ↓S_for, gt, res, resL, vls, anyO, setV, setO, setMo, Sl.mo, Mo.dat, tName, Mir.tTup, Mir.tNil, Mir.tCons, tupN, tupD, lenN, lenD, absN, absD, intN, intD, maxN, maxD, minN, minD, negD, addD, subD, ltD, leD, gtD, geD, modD, ixD, isND, notND, at0, at1, at2, eq_int, ne_int, eq_bl, isi_tup, isi_int, isi_bl, isT_tt, isT_ii, isT_ib, allN, allD, anyN, anyD, itD, lstE, ↓reduceIte, Nat.reduceLT, Nat.reduceAdd, Nat.reduceLeDiff, Nat.zero_add, List.map, List.cons_append, List.nil_append, List.replicate, List.append_nil, List.length_cons, List.length_nil, Option.map_some, Option.map_none, Option.bind_some, List.set_cons_zero, List.set_cons_succ, Bool.false_and, Bool.true_and, Bool.and_false, Bool.and_true, Bool.not_true, Bool.not_false, if_true, if_false, Bool.false_eq_true, decide_true, decide_false, s_require_sized h w _ mkT_shape hh hw, s_require_table h w _ mkT_shape (show h ≤ 1000 by omega) (show w ≤ 1000 by omega), c, ↓O_ok, List.length_map, List.length_range]
  rw [tabD_F]
theorem s_law_behind_one (h m w : Nat) (a b : Nat → Nat → Rat) {k : Nat} (ha : ∀ i, i < h → ∀ j, j < m → Sz k (a i j)) (hb : ∀ i, i < m → ∀ j, j < w → Sz k (b i j)) (hk : (k + k + 1) * m + 1 < 4400) (hk2 : k < 2200) (hh : h ≤ 144) (hm : m ≤ 144) (hw : w ≤ 144) : f_law_behind_one [tabD (mkT h m a), tabD (mkT m w b), .int w] = .ok (tabD (mkT h w fun i j => Sm m fun l => a i l * b l j)) := by
  refine f_of ?_
  have lc := s_law_columns m w b (by omega) (by omega)
  have c := cmp_okA (vs := [3]) (m := bnd (eN 0) itM) (t := tName 3) (e := (eD (bnd (eArgs [(eD (lstE (cmp [4] (bnd (eD (bnd (eArgs [(eN 1), (eN 2)]) (callF 2 f_law_columns []))) itM) (tName 4) yes (eD (bnd (eArgs [(eN 3), (eN 4)]) (callF 2 f_law_dot []))))))]) (apL tupN)))) (g := [.va (tabD (mkT h m a)), .va (tabD (mkT m w b)), .va (.int w), .no, .no]) (fun i : Nat => rowD (rowF m (a i))) (fun i => rowD (rowF w fun j => Sm m fun l => a i l * b l j)) (xs := List.range h) (by
      rw [tabD_F]; rfl) rfl (fun i hi => by
    refine ⟨_, rfl, ?_⟩
    have c := cmp_okA (vs := [4]) (m := bnd (eD (bnd (eArgs [(eN 1), (eN 2)]) (callF 2 f_law_columns []))) itM) (t := tName 4) (e := (eD (bnd (eArgs [(eN 3), (eN 4)]) (callF 2 f_law_dot [])))) (g := [.va (tabD (mkT h m a)), .va (tabD (mkT m w b)), .va (.int w), .va (rowD (rowF m (a i))), .no]) (fun j : Nat => rowD (rowF m fun l => b l j)) (fun j => numD (Sm m fun l => a i l * b l j)) (xs := List.range w) (by
        have q : Out (bnd (eD (bnd (eArgs [(eN 1), (eN 2)]) (callF 2 f_law_columns []))) itM [.va (tabD (mkT h m a)), .va (tabD (mkT m w b)), .va (.int w), .va (rowD (rowF m (a i))), .no]) (fun ds g => ds = ((List.range w).map fun j => rowD (rowF m fun l => b l j)) ∧ g = [.va (tabD (mkT h m a)), .va (tabD (mkT m w b)), .va (.int w), .va (rowD (rowF m (a i))), .no]) (fun _ _ => False) := by
          simp only [↓O_ret, ↓O_bad, ↓O_bnd, ↓O_opt, ↓O_if, ↓O_ite, ↓O_eN, ↓O_e1, ↓O_e2, ↓U_ap1, ↓U_ap2, ↓U_f1, ↓U_f2, ↓U_opt, ↓O_eD, ↓O_eV, ↓O_vl, ↓O_tB, ↓O_asB, ↓O_notM, ↓O_ofB, ↓O_andM, ↓O_orM, ↓O_args0, ↓O_args1, ↓U_apL, ↓U_tup, ↓U_lst, ↓U_call, ↓U_callN, ↓U_callM, ↓U_callMN, ↓U_itM, ↓U_rev, ↓O_noex, ↓S_seq, ↓S_nil, ↓S_pass, ↓S_brk, ↓S_cnt, ↓S_bad, ↓S_nx, ↓S_rt, ↓S_asg, ↓S_if, ↓S_exp, ↓S_retN, ↓S_ret, ↓S_retW, ↓S_new, ↓S_par, ↓S_par3, ↓S_for, gt, res, resL, vls, anyO, setV, setO, setMo, Sl.mo, Mo.dat, tName, Mir.tTup, Mir.tNil, Mir.tCons, tupN, tupD, lenN, lenD, absN, absD, intN, intD, maxN, maxD, minN, minD, negD, addD, subD, ltD, leD, gtD, geD, modD, ixD, isND, notND, at0, at1, at2, eq_int, ne_int, eq_bl, isi_tup, isi_int, isi_bl, isT_tt, isT_ii, isT_ib, allN, allD, anyN, anyD, itD, lstE, ↓reduceIte, Nat.reduceLT, Nat.reduceAdd, Nat.reduceLeDiff, Nat.zero_add, List.map, List.cons_append, List.nil_append, List.replicate, List.append_nil, List.length_cons, List.length_nil, Option.map_some, Option.map_none, Option.bind_some, List.set_cons_zero, List.set_cons_succ, Bool.false_and, Bool.true_and, Bool.and_false, Bool.and_true, Bool.not_true, Bool.not_false, if_true, if_false, Bool.false_eq_true, decide_true, decide_false, lc]
          exact ⟨by first | trivial | rfl, by first | trivial | rfl⟩
        exact out_ok q) rfl (fun j hj => by
      refine ⟨_, rfl, ?_⟩
      have e := s_law_dot m (a i) (fun l => b l j) (ha i (List.mem_range.mp hi)) (fun l hl => hb l hl j (List.mem_range.mp hj)) hk hk2
      simp only [wipeG, ↓O_ret, ↓O_bad, ↓O_bnd, ↓O_opt, ↓O_if, ↓O_ite, ↓O_eN, ↓O_e1, ↓O_e2, ↓U_ap1, ↓U_ap2, ↓U_f1, ↓U_f2, ↓U_opt, ↓O_eD, ↓O_eV, ↓O_vl, ↓O_tB, ↓O_asB, ↓O_notM, ↓O_ofB, ↓O_andM, ↓O_orM, ↓O_args0, ↓O_args1, ↓U_apL, ↓U_tup, ↓U_lst, ↓U_call, ↓U_callN, ↓U_callM, ↓U_callMN, ↓U_itM, ↓U_rev, ↓O_noex, ↓S_seq, ↓S_nil, ↓S_pass, ↓S_brk, ↓S_cnt, ↓S_bad, ↓S_nx, ↓S_rt, ↓S_asg, ↓S_if, ↓S_exp, ↓S_retN, ↓S_ret, ↓S_retW, ↓S_new, ↓S_par, ↓S_par3, ↓S_for, gt, res, resL, vls, anyO, setV, setO, setMo, Sl.mo, Mo.dat, tName, Mir.tTup, Mir.tNil, Mir.tCons, tupN, tupD, lenN, lenD, absN, absD, intN, intD, maxN, maxD, minN, minD, negD, addD, subD, ltD, leD, gtD, geD, modD, ixD, isND, notND, at0, at1, at2, eq_int, ne_int, eq_bl, isi_tup, isi_int, isi_bl, isT_tt, isT_ii, isT_ib, allN, allD, anyN, anyD, itD, lstE, ↓reduceIte, Nat.reduceLT, Nat.reduceAdd, Nat.reduceLeDiff, Nat.zero_add, List.map, List.cons_append, List.nil_append, List.replicate, List.append_nil, List.length_cons, List.length_nil, Option.map_some, Option.map_none, Option.bind_some, List.set_cons_zero, List.set_cons_succ, Bool.false_and, Bool.true_and, Bool.and_false, Bool.and_true, Bool.not_true, Bool.not_false, if_true, if_false, Bool.false_eq_true, decide_true, decide_false, e]
      exact ⟨by first | trivial | rfl, by first | trivial | rfl⟩) (by rw [List.length_range]; omega)
    simp only [wipeG, ↓O_ret, ↓O_bad, ↓O_bnd, ↓O_opt, ↓O_if, ↓O_ite, ↓O_eN, ↓O_e1, ↓O_e2, ↓U_ap1, ↓U_ap2, ↓U_f1, ↓U_f2, ↓U_opt, ↓O_eD, ↓O_eV, ↓O_vl, ↓O_tB, ↓O_asB, ↓O_notM, ↓O_ofB, ↓O_andM, ↓O_orM, ↓O_args0, ↓O_args1, ↓U_apL, ↓U_tup, ↓U_lst, ↓U_call, ↓U_callN, ↓U_callM, ↓U_callMN, ↓U_itM, ↓U_rev, ↓O_noex, ↓S_seq, ↓S_nil, ↓S_pass, ↓S_brk, ↓S_cnt, ↓S_bad, ↓S_nx, ↓S_rt, ↓S_asg, ↓S_if, ↓S_exp, ↓S_retN, ↓S_ret, ↓S_retW, ↓S_new, ↓S_par, ↓S_par3, ↓S_for, gt, res, resL, vls, anyO, setV, setO, setMo, Sl.mo, Mo.dat, tName, Mir.tTup, Mir.tNil, Mir.tCons, tupN, tupD, lenN, lenD, absN, absD, intN, intD, maxN, maxD, minN, minD, negD, addD, subD, ltD, leD, gtD, geD, modD, ixD, isND, notND, at0, at1, at2, eq_int, ne_int, eq_bl, isi_tup, isi_int, isi_bl, isT_tt, isT_ii, isT_ib, allN, allD, anyN, anyD, itD, lstE, ↓reduceIte, Nat.reduceLT, Nat.reduceAdd, Nat.reduceLeDiff, Nat.zero_add, List.map, List.cons_append, List.nil_append, List.replicate, List.append_nil, List.length_cons, List.length_nil, Option.map_some, Option.map_none, Option.bind_some, List.set_cons_zero, List.set_cons_succ, Bool.false_and, Bool.true_and, Bool.and_false, Bool.and_true, Bool.not_true, Bool.not_false, if_true, if_false, Bool.false_eq_true, decide_true, decide_false, c, ↓O_ok, rowD_F w, List.length_map, List.length_range]
    exact ⟨by first | trivial | rfl, by first | trivial | rfl⟩) (by rw [List.length_range]; omega)
  simp only [b_law_behind_one, ↓O_ret, ↓O_bad, ↓O_bnd, ↓O_opt, ↓O_if, ↓O_ite, ↓O_eN, ↓O_e1, ↓O_e2, ↓U_ap1, ↓U_ap2, ↓U_f1, ↓U_f2, ↓U_opt, ↓O_eD, ↓O_eV, ↓O_vl, ↓O_tB, ↓O_asB, ↓O_notM, ↓O_ofB, ↓O_andM, ↓O_orM, ↓O_args0, ↓O_args1, ↓U_apL, ↓U_tup, ↓U_lst, ↓U_call, ↓U_callN, ↓U_callM, ↓U_callMN, ↓U_itM, ↓U_rev, ↓O_noex, ↓S_seq, ↓S_nil, ↓S_pass, ↓S_brk, ↓S_cnt, ↓S_bad, ↓S_nx, ↓S_rt, ↓S_asg, ↓S_if, ↓S_exp, ↓S_retN, ↓S_ret, ↓S_retW, ↓S_new, ↓S_par, ↓S_par3, ↓S_for, gt, res, resL, vls, anyO, setV, setO, setMo, Sl.mo, Mo.dat, tName, Mir.tTup, Mir.tNil, Mir.tCons, tupN, tupD, lenN, lenD, absN, absD, intN, intD, maxN, maxD, minN, minD, negD, addD, subD, ltD, leD, gtD, geD, modD, ixD, isND, notND, at0, at1, at2, eq_int, ne_int, eq_bl, isi_tup, isi_int, isi_bl, isT_tt, isT_ii, isT_ib, allN, allD, anyN, anyD, itD, lstE, ↓reduceIte, Nat.reduceLT, Nat.reduceAdd, Nat.reduceLeDiff, Nat.zero_add, List.map, List.cons_append, List.nil_append, List.replicate, List.append_nil, List.length_cons, List.length_nil, Option.map_some, Option.map_none, Option.bind_some, List.set_cons_zero, List.set_cons_succ, Bool.false_and, Bool.true_and, Bool.and_false, Bool.and_true, Bool.not_true, Bool.not_false, if_true, if_false, Bool.false_eq_true, decide_true, decide_false, c, ↓O_ok, List.length_map, List.length_range]
  rw [tabD_F]

theorem choose_map {α : Type} (inj : α → D) (P : α → Prop) : ∀ ys : List D, (∀ y ∈ ys, ∃ x, y = inj x ∧ P x) → ∃ xs : List α, ys = xs.map inj ∧ ∀ x ∈ xs, P x
  | [], _ => ⟨[], rfl, fun _ h => nomatch h⟩
  | y :: ys, h => by
    obtain ⟨x, rfl, px⟩ := h y List.mem_cons_self
    obtain ⟨xs, rfl, pxs⟩ := choose_map inj P ys fun y hy => h y (List.mem_cons_of_mem _ hy)
    exact ⟨x :: xs, rfl, fun z hz => (List.mem_cons.mp hz).elim (fun e => e ▸ px) (pxs z)⟩
def someL : List D := [.tup [.int 0, .int 1], .tup [.int 0, .int 1], .tup [.int 1, .int 1], .tup [.int (-1), .int 1], .tup [.int 2, .int 1], .tup [.int 1, .int 3], .tup [.int (-5), .int 2]]
theorem some_num {d : D} (h : d ∈ someL) : ∃ x, d = numD x ∧ Sz 3 x := by
  simp only [someL, List.mem_cons, List.not_mem_nil, or_false] at h
  rcases h with rfl | rfl | rfl | rfl | rfl | rfl | rfl
  · exact ⟨0, rfl, by decide, by decide⟩
  · exact ⟨0, rfl, by decide, by decide⟩
  · exact ⟨1, rfl, by decide, by decide⟩
  · exact ⟨-1, rfl, by decide, by decide⟩
  · exact ⟨2, rfl, by decide, by decide⟩
  · exact ⟨Rat.divInt 1 3, rfl, by decide, by decide⟩
  · exact ⟨Rat.divInt (-5) 2, rfl, by decide, by decide⟩
theorem s_law_table {m : Mo} (hm : Dice m) (h w : Nat) (hh : h ≤ 1000) (hw : w ≤ 1000) : ∃ e m', f_law_table m [.int h, .int w] = .ok (tabD (mkT h w e)) m' ∧ Dice m' ∧ ∀ i j, i < h → j < w → Sz 3 (e i j) := by
  have key : ∃ d m', f_law_table m [.int h, .int w] = .ok d m' ∧ Dice m' ∧ ∃ e, d = tabD (mkT h w e) ∧ ∀ i j, i < h → j < w → Sz 3 (e i j) := by
    refine m_ex (Y := fun d m' => Dice m' ∧ ∃ e, d = tabD (mkT h w e) ∧ ∀ i j, i < h → j < w → Sz 3 (e i j)) ?_
    unfold b_law_table
    simp only [List.map_nil, List.map_cons, List.nil_append, List.cons_append, List.replicate]
    refine SO_seqE (g2 := [.pm m, .va (.int h), .va (.int w), .va (.lst someL), .no, .no]) ?_ ?_
    · simp only [↓O_ret, ↓O_bad, ↓O_bnd, ↓O_opt, ↓O_if, ↓O_ite, ↓O_eN, ↓O_e1, ↓O_e2, ↓U_ap1, ↓U_ap2, ↓U_f1, ↓U_f2, ↓U_opt, ↓O_eD, ↓O_eV, ↓O_vl, ↓O_tB, ↓O_asB, ↓O_notM, ↓O_ofB, ↓O_andM, ↓O_orM, ↓O_args0, ↓O_args1, ↓U_apL, ↓U_tup, ↓U_lst, ↓U_call, ↓U_callN, ↓U_callM, ↓U_callMN, ↓U_itM, ↓U_rev, ↓O_noex, ↓S_seq, ↓S_nil, ↓S_pass, ↓S_brk, ↓S_cnt, ↓S_bad, ↓S_nx, ↓S_rt, ↓S_asg, ↓S_if, ↓S_exp, ↓S_retN, ↓S_ret, ↓S_retW, ↓S_new, ↓S_par, ↓S_par3, ↓S_for, gt, res, resL, vls, anyO, setV, setO, setMo, Sl.mo, Mo.dat, tName, Mir.tTup, Mir.tNil, Mir.tCons, tupN, tupD, lenN, lenD, absN, absD, intN, intD, maxN, maxD, minN, minD, negD, addD, subD, ltD, leD, gtD, geD, modD, ixD, isND, notND, at0, at1, at2, eq_int, ne_int, eq_bl, isi_tup, isi_int, isi_bl, isT_tt, isT_ii, isT_ib, allN, allD, anyN, anyD, itD, lstE, ↓reduceIte, Nat.reduceLT, Nat.reduceAdd, Nat.reduceLeDiff, Nat.zero_add, List.map, List.cons_append, List.nil_append, List.replicate, List.append_nil, List.length_cons, List.length_nil, Option.map_some, Option.map_none, Option.bind_some, List.set_cons_zero, List.set_cons_succ, Bool.false_and, Bool.true_and, Bool.and_false, Bool.and_true, Bool.not_true, Bool.not_false, if_true, if_false, Bool.false_eq_true, decide_true, decide_false, someL]
    obtain ⟨ys, m', c, hm', hl, hy⟩ := cmp_draw (vs := [4]) (m := bnd (eArgs [(eN 1)]) rng1) (t := tName 4) (e := (eD (bnd (eArgs [(eD (lstE (cmp [5] (bnd (eArgs [(eN 2)]) rng1) (tName 5) yes (eD (bnd (eArgs [(eN 0), (eN 3)]) (callM 2 f_law_pick []))))))]) (apL tupN)))) (g0 := [.pm m, .va (.int h), .va (.int w), .va (.lst someL), .no, .no]) (T := [.va (.int h), .va (.int w), .va (.lst someL), .no, .no]) (m0 := m) Dice (fun d => ∃ r : List Rat, d = rowD r ∧ r.length = w ∧ RSz 3 r) (ds := (List.range h).map fun i => D.int (i : Nat)) ((bnd_ok rfl).trans (rngA h (by omega) _)) rfl (by simp) hm (fun d hd m1 hm1 => by
      obtain ⟨i, hi, rfl⟩ := List.mem_map.mp hd
      refine ⟨_, rfl, ?_⟩
      obtain ⟨ys, m2, c, hm2, hl, hy⟩ := cmp_draw (vs := [5]) (m := bnd (eArgs [(eN 2)]) rng1) (t := tName 5) (e := (eD (bnd (eArgs [(eN 0), (eN 3)]) (callM 2 f_law_pick [])))) (g0 := [.pm m1, .va (.int h), .va (.int w), .va (.lst someL), .va (.int (i : Nat)), .no]) (T := [.va (.int h), .va (.int w), .va (.lst someL), .va (.int (i : Nat)), .no]) (m0 := m1) Dice (fun d => ∃ x, d = numD x ∧ Sz 3 x) (ds := (List.range w).map fun i => D.int (i : Nat)) ((bnd_ok rfl).trans (rngA w (by omega) _)) rfl (by simp) hm1 (fun d hd m3 hm3 => by
        obtain ⟨j, hj, rfl⟩ := List.mem_map.mp hd
        refine ⟨_, rfl, ?_⟩
        obtain ⟨d, m4, e4, hm4, hd4⟩ := s_pick hm3 (xs := someL) (by decide) (by decide)
        obtain ⟨x, rfl, hx⟩ := some_num hd4
        simp only [wipeG, ↓O_ret, ↓O_bad, ↓O_bnd, ↓O_opt, ↓O_if, ↓O_ite, ↓O_eN, ↓O_e1, ↓O_e2, ↓U_ap1, ↓U_ap2, ↓U_f1, ↓U_f2, ↓U_opt, ↓O_eD, ↓O_eV, ↓O_vl, ↓O_tB, ↓O_asB, ↓O_notM, ↓O_ofB, ↓O_andM, ↓O_orM, ↓O_args0, ↓O_args1, ↓U_apL, ↓U_tup, ↓U_lst, ↓U_call, ↓U_callN, ↓U_callM, ↓U_callMN, ↓U_itM, ↓U_rev, ↓O_noex, ↓S_seq, ↓S_nil, ↓S_pass, ↓S_brk, ↓S_cnt, ↓S_bad, ↓S_nx, ↓S_rt, ↓S_asg, ↓S_if, ↓S_exp, ↓S_retN, ↓S_ret, ↓S_retW, ↓S_new, ↓S_par, ↓S_par3, ↓S_for, gt, res, resL, vls, anyO, setV, setO, setMo, Sl.mo, Mo.dat, tName, Mir.tTup, Mir.tNil, Mir.tCons, tupN, tupD, lenN, lenD, absN, absD, intN, intD, maxN, maxD, minN, minD, negD, addD, subD, ltD, leD, gtD, geD, modD, ixD, isND, notND, at0, at1, at2, eq_int, ne_int, eq_bl, isi_tup, isi_int, isi_bl, isT_tt, isT_ii, isT_ib, allN, allD, anyN, anyD, itD, lstE, ↓reduceIte, Nat.reduceLT, Nat.reduceAdd, Nat.reduceLeDiff, Nat.zero_add, List.map, List.cons_append, List.nil_append, List.replicate, List.append_nil, List.length_cons, List.length_nil, Option.map_some, Option.map_none, Option.bind_some, List.set_cons_zero, List.set_cons_succ, Bool.false_and, Bool.true_and, Bool.and_false, Bool.and_true, Bool.not_true, Bool.not_false, if_true, if_false, Bool.false_eq_true, decide_true, decide_false, e4]
        exact ⟨_, m4, rfl, ⟨x, rfl, hx⟩, hm4, rfl⟩) (by rw [List.length_map, List.length_range]; omega)
      obtain ⟨xs, rfl, hxs⟩ := choose_map numD (Sz 3) ys hy
      rw [List.length_map, List.length_map, List.length_range] at hl
      simp only [wipeG, ↓O_ret, ↓O_bad, ↓O_bnd, ↓O_opt, ↓O_if, ↓O_ite, ↓O_eN, ↓O_e1, ↓O_e2, ↓U_ap1, ↓U_ap2, ↓U_f1, ↓U_f2, ↓U_opt, ↓O_eD, ↓O_eV, ↓O_vl, ↓O_tB, ↓O_asB, ↓O_notM, ↓O_ofB, ↓O_andM, ↓O_orM, ↓O_args0, ↓O_args1, ↓U_apL, ↓U_tup, ↓U_lst, ↓U_call, ↓U_callN, ↓U_callM, ↓U_callMN, ↓U_itM, ↓U_rev, ↓O_noex, ↓S_seq, ↓S_nil, ↓S_pass, ↓S_brk, ↓S_cnt, ↓S_bad, ↓S_nx, ↓S_rt, ↓S_asg, ↓S_if, ↓S_exp, ↓S_retN, ↓S_ret, ↓S_retW, ↓S_new, ↓S_par, ↓S_par3, ↓S_for, gt, res, resL, vls, anyO, setV, setO, setMo, Sl.mo, Mo.dat, tName, Mir.tTup, Mir.tNil, Mir.tCons, tupN, tupD, lenN, lenD, absN, absD, intN, intD, maxN, maxD, minN, minD, negD, addD, subD, ltD, leD, gtD, geD, modD, ixD, isND, notND, at0, at1, at2, eq_int, ne_int, eq_bl, isi_tup, isi_int, isi_bl, isT_tt, isT_ii, isT_ib, allN, allD, anyN, anyD, itD, lstE, ↓reduceIte, Nat.reduceLT, Nat.reduceAdd, Nat.reduceLeDiff, Nat.zero_add, List.map, List.cons_append, List.nil_append, List.replicate, List.append_nil, List.length_cons, List.length_nil, Option.map_some, Option.map_none, Option.bind_some, List.set_cons_zero, List.set_cons_succ, Bool.false_and, Bool.true_and, Bool.and_false, Bool.and_true, Bool.not_true, Bool.not_false, if_true, if_false, Bool.false_eq_true, decide_true, decide_false, c, ↓O_ok]
      exact ⟨rowD xs, m2, rfl, ⟨xs, rfl, hl, hxs⟩, hm2, rfl⟩) (by rw [List.length_map, List.length_range]; omega)
    obtain ⟨t, rfl, ht⟩ := choose_map rowD (fun r => r.length = w ∧ RSz 3 r) ys hy
    rw [List.length_map, List.length_map, List.length_range] at hl
    simp only [↓O_ret, ↓O_bad, ↓O_bnd, ↓O_opt, ↓O_if, ↓O_ite, ↓O_eN, ↓O_e1, ↓O_e2, ↓U_ap1, ↓U_ap2, ↓U_f1, ↓U_f2, ↓U_opt, ↓O_eD, ↓O_eV, ↓O_vl, ↓O_tB, ↓O_asB, ↓O_notM, ↓O_ofB, ↓O_andM, ↓O_orM, ↓O_args0, ↓O_args1, ↓U_apL, ↓U_tup, ↓U_lst, ↓U_call, ↓U_callN, ↓U_callM, ↓U_callMN, ↓U_itM, ↓U_rev, ↓O_noex, ↓S_seq, ↓S_nil, ↓S_pass, ↓S_brk, ↓S_cnt, ↓S_bad, ↓S_nx, ↓S_rt, ↓S_asg, ↓S_if, ↓S_exp, ↓S_retN, ↓S_ret, ↓S_retW, ↓S_new, ↓S_par, ↓S_par3, ↓S_for, gt, res, resL, vls, anyO, setV, setO, setMo, Sl.mo, Mo.dat, tName, Mir.tTup, Mir.tNil, Mir.tCons, tupN, tupD, lenN, lenD, absN, absD, intN, intD, maxN, maxD, minN, minD, negD, addD, subD, ltD, leD, gtD, geD, modD, ixD, isND, notND, at0, at1, at2, eq_int, ne_int, eq_bl, isi_tup, isi_int, isi_bl, isT_tt, isT_ii, isT_ib, allN, allD, anyN, anyD, itD, lstE, ↓reduceIte, Nat.reduceLT, Nat.reduceAdd, Nat.reduceLeDiff, Nat.zero_add, List.map, List.cons_append, List.nil_append, List.replicate, List.append_nil, List.length_cons, List.length_nil, Option.map_some, Option.map_none, Option.bind_some, List.set_cons_zero, List.set_cons_succ, Bool.false_and, Bool.true_and, Bool.and_false, Bool.and_true, Bool.not_true, Bool.not_false, if_true, if_false, Bool.false_eq_true, decide_true, decide_false, c, ↓O_ok]
    have sh : Shape h w t := ⟨hl, fun r hr => (ht r hr).1⟩
    refine ⟨_, m', rfl, rfl, hm', fun i j => (t.getD i []).getD j 0, ?_, fun i j hi hj => ?_⟩
    · rw [← mkT_of sh]; rfl
    · have h1 : i < t.length := by omega
      have h2 : t[i].length = w := sh.2 _ (List.getElem_mem _)
      simp only [List.getD_eq_getElem?_getD, List.getElem?_eq_getElem h1, Option.getD_some]
      rw [List.getElem?_eq_getElem (by omega), Option.getD_some]
      exact (ht t[i] (List.getElem_mem _)).2 _ (List.getElem_mem _)
  obtain ⟨_, m', e, hm', ee, rfl, he⟩ := key
  exact ⟨ee, m', e, hm', he⟩

/-! what may be told by repr, what may be compared -/
structure Nice (d : D) (p : PyData) (dep wt : Nat) : Prop where
  py : d.py = some p
  show_ : p.showable = true
  lay : p.canLay0 = true
  depth : p.depth ≤ dep
  short : p.leavesShort 250 = true
  weight : p.weight ≤ wt
  tok : TOk p.shown
theorem Nice.mono {d : D} {p : PyData} {a b c e : Nat} (n : Nice d p a b) (h : a ≤ c) (h2 : b ≤ e) : Nice d p c e := ⟨n.py, n.show_, n.lay, Nat.le_trans n.depth h, n.short, Nat.le_trans n.weight h2, n.tok⟩
theorem Nice.num {r : Rat} (h : Sz 200 r) : Nice (numD r) (numP r) 1 402 := ⟨rfl, np_show h, np_lay r, by rw [np_depth]; omega, np_short h, np_weight h, np_ok r⟩
theorem Nice.int {i : Int} (h : i.natAbs < 2 ^ 200) : Nice (.int i) (.int i) 0 200 := ⟨rfl, lf_show h, rfl, by simp [PyData.depth], lf_short h, lf_weight h, TOk.int i⟩
section
variable {α : Type} {inj : α → D} {p : α → PyData} {dep wt : Nat}
theorem pys_map : ∀ {xs : List α}, (∀ x ∈ xs, Nice (inj x) (p x) dep wt) → D.pys (xs.map inj) = some (xs.map p)
  | [], _ => by rw [List.map_nil, D.pys]; rfl
  | x :: xs, h => by
    rw [List.map_cons, D.pys, (h x List.mem_cons_self).py, pys_map fun y hy => h y (List.mem_cons_of_mem _ hy)]; rfl
theorem show_map : ∀ {xs : List α}, (∀ x ∈ xs, Nice (inj x) (p x) dep wt) → PyData.showableAll (xs.map p) = true
  | [], _ => by simp only [List.map_nil, PyData.showableAll]
  | x :: xs, h => by simp only [List.map_cons, PyData.showableAll, (h x List.mem_cons_self).show_, show_map fun y hy => h y (List.mem_cons_of_mem _ hy), Bool.and_self]
theorem lay_map : ∀ {xs : List α}, (∀ x ∈ xs, Nice (inj x) (p x) dep wt) → PyData.canLayAll0 (xs.map p) = true
  | [], _ => by simp only [List.map_nil, PyData.canLayAll0]
  | x :: xs, h => by simp only [List.map_cons, PyData.canLayAll0, (h x List.mem_cons_self).lay, lay_map fun y hy => h y (List.mem_cons_of_mem _ hy), Bool.and_self]
theorem short_map : ∀ {xs : List α}, (∀ x ∈ xs, Nice (inj x) (p x) dep wt) → PyData.leavesShortAll 250 (xs.map p) = true
  | [], _ => by simp only [List.map_nil, PyData.leavesShortAll]
  | x :: xs, h => by simp only [List.map_cons, PyData.leavesShortAll, (h x List.mem_cons_self).short, short_map fun y hy => h y (List.mem_cons_of_mem _ hy), Bool.and_self]
theorem depth_map : ∀ {xs : List α}, (∀ x ∈ xs, Nice (inj x) (p x) dep wt) → PyData.depthAll (xs.map p) ≤ dep
  | [], _ => by simp only [List.map_nil, PyData.depthAll]; omega
  | x :: xs, h => by
    simp only [List.map_cons, PyData.depthAll]
    have a := (h x List.mem_cons_self).depth
    have b := depth_map fun y hy => h y (List.mem_cons_of_mem _ hy)
    omega
theorem weight_map : ∀ {xs : List α}, (∀ x ∈ xs, Nice (inj x) (p x) dep wt) → PyData.weightAll (xs.map p) ≤ (wt + 1) * xs.length
  | [], _ => by simp only [List.map_nil, PyData.weightAll]; omega
  | x :: xs, h => by
    simp only [List.map_cons, PyData.weightAll, List.length_cons, Nat.mul_add]
    have a := (h x List.mem_cons_self).weight
    have b := weight_map fun y hy => h y (List.mem_cons_of_mem _ hy)
    omega
theorem tok_map : ∀ {xs : List α}, (∀ x ∈ xs, Nice (inj x) (p x) dep wt) → ∀ t ∈ PyData.shownAll (xs.map p), TOk t
  | [], _, t, ht => by rw [List.map_nil, PyData.shownAll_nil] at ht; cases ht
  | x :: xs, h, t, ht => by
    rw [List.map_cons, PyData.shownAll_cons] at ht
    rcases List.mem_cons.mp ht with rfl | ht
    · exact (h x List.mem_cons_self).tok
    · exact tok_map (fun y hy => h y (List.mem_cons_of_mem _ hy)) t ht
theorem Nice.tup {xs : List α} (h : ∀ x ∈ xs, Nice (inj x) (p x) dep wt) : Nice (.tup (xs.map inj)) (.tuple (xs.map p)) (dep + 1) ((wt + 1) * xs.length) where
  py := by rw [D.py, pys_map h]; rfl
  show_ := by simp only [PyData.showable, show_map h]
  lay := by simp only [PyData.canLay0, lay_map h]
  depth := by simp only [PyData.depth]; have := depth_map h; omega
  short := by simp only [PyData.leavesShort, short_map h]
  weight := by simp only [PyData.weight]; exact weight_map h
  tok := by
    rw [PyData.shown_tuple]
    exact ((TOk.of "(").app (TOk.join (TOk.of ", ") (tok_map h))).app (TOk.of _)
theorem Nice.lst {xs : List α} (h : ∀ x ∈ xs, Nice (inj x) (p x) dep wt) : Nice (.lst (xs.map inj)) (.list (xs.map p)) (dep + 1) ((wt + 1) * xs.length) where
  py := by rw [D.py, pys_map h]; rfl
  show_ := by simp only [PyData.showable, show_map h]
  lay := by simp only [PyData.canLay0, lay_map h]
  depth := by simp only [PyData.depth]; have := depth_map h; omega
  short := by simp only [PyData.leavesShort, short_map h]
  weight := by simp only [PyData.weight]; exact weight_map h
  tok := by
    rw [PyData.shown_list]
    exact ((TOk.of "[").app (TOk.join (TOk.of ", ") (tok_map h))).app (TOk.of _)
end
section
variable {d : D} {p : PyData} {dep wt : Nat}
theorem Nice.repr (n : Nice d p dep wt) (h : dep ≤ 64) (h2 : wt ≤ 60000) : reprN [d] = some (.str p.shown) := by
  have : showOk p = true := showOk_of n.show_ n.lay (Nat.le_trans n.depth h) n.short (Nat.le_trans n.weight h2)
  show (match d.py with
    | some p => if showOk p then some (D.str p.shown) else none
    | none => none) = _
  rw [n.py]
  show (if showOk p = true then some (D.str p.shown) else none) = _
  rw [if_pos this]
theorem Nice.rep (n : Nice d p dep wt) (h : dep ≤ 64) (h2 : wt ≤ 60000) : ∃ s, reprN [d] = some (.str s) ∧ neD (.str s) (.str s) = some (.bl false) ∧ eqD (.str s) (.str s) = some (.bl true) := ⟨_, n.repr h h2, ne_str n.tok, eq_str n.tok⟩
theorem Nice.eq (n : Nice d p dep wt) (h : dep ≤ 64) : eqD d d = some (.bl true) := by
  have e : SeqAt.shaped p = true := by
    unfold SeqAt.shaped
    rw [n.lay, decide_eq_true (Nat.le_trans n.depth h)]; rfl
  unfold eqD pyE
  rw [n.py]
  simp only [e, Bool.and_self, if_true, Option.map_some, SeqAt.eqv_refl p n.lay]
theorem Nice.ne (n : Nice d p dep wt) (h : dep ≤ 64) : neD d d = some (.bl false) := by
  have e : SeqAt.shaped p = true := by
    unfold SeqAt.shaped
    rw [n.lay, decide_eq_true (Nat.le_trans n.depth h)]; rfl
  unfold neD pyE
  rw [n.py]
  simp only [e, Bool.and_self, if_true, Option.map_some, SeqAt.eqv_refl p n.lay, Bool.not_true]
end

theorem Nice.row {r : List Rat} (h : RSz 200 r) (hl : r.length ≤ 10) : Nice (rowD r) (.tuple (r.map numP)) 2 4030 :=
  (Nice.tup (inj := numD) (p := numP) (xs := r) fun x hx => Nice.num (h x hx)).mono (by omega) (by omega)
theorem Nice.tab {t : List (List Rat)} (h : TSz 200 t) (hl : t.length ≤ 10) (hw : ∀ r ∈ t, r.length ≤ 10) : Nice (tabD t) (.tuple (t.map fun r => .tuple (r.map numP))) 3 40310 :=
  (Nice.tup (inj := rowD) (p := fun r => .tuple (r.map numP)) (xs := t) fun x hx => Nice.row (h x hx) (hw x hx)).mono (by omega) (by omega)
theorem mkT_sz {h w k : Nat} {e : Nat → Nat → Rat} (he : ∀ i j, i < h → j < w → Sz k (e i j)) : TSz k (mkT h w e) := by
  intro r hr
  unfold mkT at hr
  obtain ⟨i, hi, rfl⟩ := List.mem_map.mp hr
  exact rowF_sz fun j hj => he i j (List.mem_range.mp hi) hj
theorem nice_mk {h w : Nat} {e : Nat → Nat → Rat} (he : ∀ i j, i < h → j < w → Sz 200 (e i j)) (hh : h ≤ 10) (hw : w ≤ 10) : Nice (tabD (mkT h w e)) (.tuple ((mkT h w e).map fun r => .tuple (r.map numP))) 3 40310 :=
  Nice.tab (mkT_sz he) (by rw [mkT_shape.1]; exact hh) fun r hr => by rw [mkT_shape.2 r hr]; exact hw
theorem nice_rF {w : Nat} {e : Nat → Rat} (he : ∀ j, j < w → Sz 200 (e j)) (hw : w ≤ 10) : Nice (rowD (rowF w e)) (.tuple ((rowF w e).map numP)) 2 4030 :=
  Nice.row (rowF_sz he) (by rw [rowF_len]; exact hw)

/-! what may be compared, without a bound -/
structure Cmp (d : D) (p : PyData) (dep : Nat) : Prop where
  py : d.py = some p
  lay : p.canLay0 = true
  depth : p.depth ≤ dep
theorem Cmp.num (r : Rat) : Cmp (numD r) (numP r) 1 := ⟨rfl, np_lay r, by rw [np_depth]; omega⟩
section
variable {α : Type} {inj : α → D} {p : α → PyData} {dep : Nat}
theorem pys_mapC (h : ∀ x, Cmp (inj x) (p x) dep) : ∀ {xs : List α}, D.pys (xs.map inj) = some (xs.map p)
  | [] => by rw [List.map_nil, D.pys]; rfl
  | x :: xs => by
    rw [List.map_cons, D.pys, (h x).py, pys_mapC h]; rfl
theorem lay_mapC (h : ∀ x, Cmp (inj x) (p x) dep) : ∀ {xs : List α}, PyData.canLayAll0 (xs.map p) = true
  | [] => by simp only [List.map_nil, PyData.canLayAll0]
  | x :: xs => by simp only [List.map_cons, PyData.canLayAll0, (h x).lay, lay_mapC h, Bool.and_self]
theorem depth_mapC (h : ∀ x, Cmp (inj x) (p x) dep) : ∀ {xs : List α}, PyData.depthAll (xs.map p) ≤ dep
  | [] => by simp only [List.map_nil, PyData.depthAll]; omega
  | x :: xs => by
    simp only [List.map_cons, PyData.depthAll]
    have a := (h x).depth
    have b := depth_mapC h (xs := xs)
    omega
theorem Cmp.tup (h : ∀ x, Cmp (inj x) (p x) dep) (xs : List α) : Cmp (.tup (xs.map inj)) (.tuple (xs.map p)) (dep + 1) where
  py := by rw [D.py, pys_mapC h]; rfl
  lay := by simp only [PyData.canLay0, lay_mapC h]
  depth := by simp only [PyData.depth]; have := depth_mapC h (xs := xs); omega
end
theorem Cmp.eq {d : D} {p : PyData} {dep : Nat} (n : Cmp d p dep) (h : dep ≤ 64) : eqD d d = some (.bl true) := by
  have e : SeqAt.shaped p = true := by
    unfold SeqAt.shaped
    rw [n.lay, decide_eq_true (Nat.le_trans n.depth h)]; rfl
  unfold eqD pyE
  rw [n.py]
  simp only [e, Bool.and_self, if_true, Option.map_some, SeqAt.eqv_refl p n.lay]
theorem Cmp.ne {d : D} {p : PyData} {dep : Nat} (n : Cmp d p dep) (h : dep ≤ 64) : neD d d = some (.bl false) := by
  have e : SeqAt.shaped p = true := by
    unfold SeqAt.shaped
    rw [n.lay, decide_eq_true (Nat.le_trans n.depth h)]; rfl
  unfold neD pyE
  rw [n.py]
  simp only [e, Bool.and_self, if_true, Option.map_some, SeqAt.eqv_refl p n.lay, Bool.not_true]

theorem cmp_row (r : List Rat) : Cmp (rowD r) (.tuple (r.map numP)) 2 := Cmp.tup Cmp.num r
theorem cmp_tab (t : List (List Rat)) : Cmp (tabD t) (.tuple (t.map fun r => .tuple (r.map numP))) 3 := Cmp.tup cmp_row t
theorem unitTab_eq (w : Nat) : unitTab w = mkT w w fun i p => if p = i then 1 else 0 := rfl
theorem Sm_assoc (la mi : Nat) (a : Nat → Rat) (b : Nat → Nat → Rat) (c : Nat → Rat) : (Sm la fun l => (Sm mi fun x => a x * b x l) * c l) = Sm mi fun x => a x * Sm la fun l => b x l * c l := by
  have h1 : (Sm la fun l => (Sm mi fun x => a x * b x l) * c l) = Sm la fun l => Sm mi fun x => a x * (b x l * c l) := Sm_congr fun l _ => by
    rw [Rat.mul_comm, ← Sm_mul]
    exact Sm_congr fun x _ => by grind
  rw [h1, Sm_swap]
  exact Sm_congr fun x _ => Sm_mul _ _
theorem Sm_led (la mi : Nat) (r : Nat → Rat) (a : Nat → Rat) (b : Nat → Nat → Rat) : (Sm la fun j => r j * Sm mi fun x => a x * b x j) = Sm mi fun x => (Sm la fun j => r j * b x j) * a x := by
  have h1 : (Sm la fun j => r j * Sm mi fun x => a x * b x j) = Sm la fun l => Sm mi fun x => a x * (r l * b x l) := Sm_congr fun l _ => by
    rw [← Sm_mul]
    exact Sm_congr fun x _ => by grind
  rw [h1, Sm_swap]
  exact Sm_congr fun x _ => by rw [Sm_mul, Rat.mul_comm]
theorem unit_left (f mi : Nat) (a : Nat → Nat → Rat) : (mkT f mi fun i j => Sm f fun l => (if l = i then 1 else 0) * a l j) = mkT f mi a := mkT_congr fun i hi j hj => by
  rw [Sm_unit (f := fun l => a l j), if_pos hi]
theorem unit_right (f mi : Nat) (a : Nat → Nat → Rat) : (mkT f mi fun i j => Sm mi fun l => a i l * (if j = l then 1 else 0)) = mkT f mi a := mkT_congr fun i hi j hj => by
  have : (Sm mi fun l => a i l * (if j = l then 1 else 0)) = Sm mi fun l => (if l = j then 1 else 0) * a i l := Sm_congr fun l _ => by
    by_cases h : l = j
    · subst h; rw [if_pos rfl]; grind
    · rw [if_neg h, if_neg fun z => h z.symm]; grind
  rw [this, Sm_unit, if_pos hj]

theorem s_right {m : Mo} (hm : Dice m) : ∃ d m', f_law_right m [] = .ok d m' ∧ Dice m' ∧ d = .bl true := by
  refine m_ex (Y := fun d m' => Dice m' ∧ d = .bl true) ?_
  unfold b_law_right
  simp only [List.map_nil, List.nil_append, List.cons_append, List.replicate]
  obtain ⟨ys, m0, c0, hm0, hl, hy⟩ := cmp_draw (vs := [15]) (m := bnd (eArgs [(eD (Mir.ret (.int 4)))]) rng1) (t := tName 15) (e := (eD (bnd (eArgs [(eN 0), (eD (Mir.ret (.int 5)))]) (callM 2 f_law_roll [])))) (g0 := [.pm m, .no, .no, .no, .no, .no, .no, .no, .no, .no, .no, .no, .no, .no, .no, .no, .no, .no, .no]) (T := [.no, .no, .no, .no, .no, .no, .no, .no, .no, .no, .no, .no, .no, .no, .no, .no, .no, .no]) (m0 := m) Dice (fun d => ∃ n : Nat, d = .int n ∧ n < 5) (ds := (List.range 4).map fun i => D.int (i : Nat)) ((bnd_ok rfl).trans (rngA 4 (by omega) _)) rfl (by simp) hm (fun d hd m1 hm1 => by
    obtain ⟨i, hi, rfl⟩ := List.mem_map.mp hd
    refine ⟨_, rfl, ?_⟩
    obtain ⟨_, m2, e2, hm2, r, rfl, r0, r1⟩ := s_roll hm1 5 (by omega) (le_add (k := 3) (by omega) (by omega))
    obtain ⟨n, rfl⟩ := Int.eq_ofNat_of_zero_le r0
    simp only [wipeG, ↓O_ret, ↓O_bad, ↓O_bnd, ↓O_opt, ↓O_if, ↓O_ite, ↓O_eN, ↓O_e1, ↓O_e2, ↓U_ap1, ↓U_ap2, ↓U_f1, ↓U_f2, ↓U_opt, ↓O_eD, ↓O_eV, ↓O_vl, ↓O_tB, ↓O_asB, ↓O_notM, ↓O_ofB, ↓O_andM, ↓O_orM, ↓O_args0, ↓O_args1, ↓U_apL, ↓U_tup, ↓U_lst, ↓U_call, ↓U_callN, ↓U_callM, ↓U_callMN, ↓U_itM, ↓U_rev, ↓O_noex, ↓S_seq, ↓S_nil, ↓S_pass, ↓S_brk, ↓S_cnt, ↓S_bad, ↓S_nx, ↓S_rt, ↓S_asg, ↓S_if, ↓S_exp, ↓S_retN, ↓S_ret, ↓S_retW, ↓S_new, ↓S_par, ↓S_par3, ↓S_for, gt, res, resL, vls, anyO, setV, setO, setMo, Sl.mo, Mo.dat, tName, Mir.tTup, Mir.tNil, Mir.tCons, tupN, tupD, lenN, lenD, absN, absD, intN, intD, maxN, maxD, minN, minD, negD, addD, subD, ltD, leD, gtD, geD, modD, ixD, isND, notND, at0, at1, at2, eq_int, ne_int, eq_bl, isi_tup, isi_int, isi_bl, isT_tt, isT_ii, isT_ib, allN, allD, anyN, anyD, itD, lstE, ↓reduceIte, Nat.reduceLT, Nat.reduceAdd, Nat.reduceLeDiff, Nat.zero_add, List.map, List.cons_append, List.nil_append, List.replicate, List.append_nil, List.length_cons, List.length_nil, Option.map_some, Option.map_none, Option.bind_some, List.set_cons_zero, List.set_cons_succ, Bool.false_and, Bool.true_and, Bool.and_false, Bool.and_true, Bool.not_true, Bool.not_false, if_true, if_false, Bool.false_eq_true, decide_true, decide_false, e2]
    exact ⟨_, m2, rfl, ⟨n, rfl, by omega⟩, hm2, rfl⟩) (by rw [List.length_map, List.length_range]; omega)
  obtain ⟨ns, rfl, hns⟩ := choose_map (fun n : Nat => D.int n) (· < 5) ys hy
  rw [List.length_map, List.length_map, List.length_range] at hl
  obtain ⟨f, mi, la, wi, rfl⟩ : ∃ a b c d, ns = [a, b, c, d] := by
    match ns, hl with
    | [a, b, c, d], _ => exact ⟨a, b, c, d, rfl⟩
  have hf : f < 5 := hns f (by simp)
  have hmi : mi < 5 := hns mi (by simp)
  have hla : la < 5 := hns la (by simp)
  have hwi : wi < 5 := hns wi (by simp)
  obtain ⟨A, m1, e1, hm1, hA⟩ := s_law_table hm0 f mi (by omega) (by omega)
  obtain ⟨B, m2, eB, hm2, hB⟩ := s_law_table hm1 mi la (by omega) (by omega)
  obtain ⟨C, m3, e3, hm3, hC⟩ := s_law_table hm2 la wi (by omega) (by omega)
  obtain ⟨R, m4, e4, hm4, hR⟩ := s_law_table hm3 1 la (by omega) (by omega)
  obtain ⟨M, m5, e5, hm5, hM⟩ := s_law_table hm4 f mi (by omega) (by omega)
  refine SO_seqE (g2 := [.pm m0, .no, .no, .no, .va (.int f), .va (.int mi), .va (.int la), .va (.int wi), .no, .no, .no, .no, .no, .no, .no, .no, .no, .no, .no]) ?_ ?_
  · simp only [↓O_ret, ↓O_bad, ↓O_bnd, ↓O_opt, ↓O_if, ↓O_ite, ↓O_eN, ↓O_e1, ↓O_e2, ↓U_ap1, ↓U_ap2, ↓U_f1, ↓U_f2, ↓U_opt, ↓O_eD, ↓O_eV, ↓O_vl, ↓O_tB, ↓O_asB, ↓O_notM, ↓O_ofB, ↓O_andM, ↓O_orM, ↓O_args0, ↓O_args1, ↓U_apL, ↓U_tup, ↓U_lst, ↓U_call, ↓U_callN, ↓U_callM, ↓U_callMN, ↓U_itM, ↓U_rev, ↓O_noex, ↓S_seq, ↓S_nil, ↓S_pass, ↓S_brk, ↓S_cnt, ↓S_bad, ↓S_nx, ↓S_rt, ↓S_asg, ↓S_if, ↓S_exp, ↓S_retN, ↓S_ret, ↓S_retW, ↓S_new, ↓S_par, ↓S_par3, ↓S_for, gt, res, resL, vls, anyO, setV, setO, setMo, Sl.mo, Mo.dat, tName, Mir.tTup, Mir.tNil, Mir.tCons, tupN, tupD, lenN, lenD, absN, absD, intN, intD, maxN, maxD, minN, minD, negD, addD, subD, ltD, leD, gtD, geD, modD, ixD, isND, notND, at0, at1, at2, eq_int, ne_int, eq_bl, isi_tup, isi_int, isi_bl, isT_tt, isT_ii, isT_ib, allN, allD, anyN, anyD, itD, lstE, ↓reduceIte, Nat.reduceLT, Nat.reduceAdd, Nat.reduceLeDiff, Nat.zero_add, List.map, List.cons_append, List.nil_append, List.replicate, List.append_nil, List.length_cons, List.length_nil, Option.map_some, Option.map_none, Option.bind_some, List.set_cons_zero, List.set_cons_succ, Bool.false_and, Bool.true_and, Bool.and_false, Bool.and_true, Bool.not_true, Bool.not_false, if_true, if_false, Bool.false_eq_true, decide_true, decide_false, c0, ↓O_ok]
  refine SO_seqE (g2 := [.pm m3, .no, .no, .no, .va (.int f), .va (.int mi), .va (.int la), .va (.int wi), .va (tabD (mkT f mi A)), .va (tabD (mkT mi la B)), .va (tabD (mkT la wi C)), .no, .no, .no, .no, .no, .no, .no, .no]) ?_ ?_
  · simp only [↓O_ret, ↓O_bad, ↓O_bnd, ↓O_opt, ↓O_if, ↓O_ite, ↓O_eN, ↓O_e1, ↓O_e2, ↓U_ap1, ↓U_ap2, ↓U_f1, ↓U_f2, ↓U_opt, ↓O_eD, ↓O_eV, ↓O_vl, ↓O_tB, ↓O_asB, ↓O_notM, ↓O_ofB, ↓O_andM, ↓O_orM, ↓O_args0, ↓O_args1, ↓U_apL, ↓U_tup, ↓U_lst, ↓U_call, ↓U_callN, ↓U_callM, ↓U_callMN, ↓U_itM, ↓U_rev, ↓O_noex, ↓S_seq, ↓S_nil, ↓S_pass, ↓S_brk, ↓S_cnt, ↓S_bad, ↓S_nx, ↓S_rt, ↓S_asg, ↓S_if, ↓S_exp, ↓S_retN, ↓S_ret, ↓S_retW, ↓S_new, ↓S_par, ↓S_par3, ↓S_for, gt, res, resL, vls, anyO, setV, setO, setMo, Sl.mo, Mo.dat, tName, Mir.tTup, Mir.tNil, Mir.tCons, tupN, tupD, lenN, lenD, absN, absD, intN, intD, maxN, maxD, minN, minD, negD, addD, subD, ltD, leD, gtD, geD, modD, ixD, isND, notND, at0, at1, at2, eq_int, ne_int, eq_bl, isi_tup, isi_int, isi_bl, isT_tt, isT_ii, isT_ib, allN, allD, anyN, anyD, itD, lstE, ↓reduceIte, Nat.reduceLT, Nat.reduceAdd, Nat.reduceLeDiff, Nat.zero_add, List.map, List.cons_append, List.nil_append, List.replicate, List.append_nil, List.length_cons, List.length_nil, Option.map_some, Option.map_none, Option.bind_some, List.set_cons_zero, List.set_cons_succ, Bool.false_and, Bool.true_and, Bool.and_false, Bool.and_true, Bool.not_true, Bool.not_false, if_true, if_false, Bool.false_eq_true, decide_true, decide_false, e1, eB, e3]
  have tAB := s_table_times f mi la A B (k := 3) (fun i hi j hj => hA i j hi hj) (fun i hi j hj => hB i j hi hj) (by omega) (by omega) (by omega) (by omega) (by omega)
  have hAB : ∀ i, i < f → ∀ j, j < la → Sz 29 (Sm mi fun l => A i l * B l j) := fun i hi j hj => (Sm_sz (k := 6) fun l hl => (hA i l hi hl).mul (hB l j hl hj)).mono (by omega)
  have r0 : ixD (tabD (mkT 1 la R)) (.int 0) = some (rowD (rowF la (R 0))) := by rw [tabD_F]; exact at0
  refine SO_seqE (g2 := [.pm m4, .no, .no, .no, .va (.int f), .va (.int mi), .va (.int la), .va (.int wi), .va (tabD (mkT f mi A)), .va (tabD (mkT mi la B)), .va (tabD (mkT la wi C)), .va (tabD (mkT f la fun i j => Sm mi fun l => A i l * B l j)), .va (rowD (rowF la (R 0))), .no, .no, .no, .no, .no, .no]) ?_ ?_
  · have e4' : f_law_table m3 [.int 1, .int la] = .ok (.tup [rowD (rowF la (R 0))]) m4 := e4
    simp only [↓O_ret, ↓O_bad, ↓O_bnd, ↓O_opt, ↓O_if, ↓O_ite, ↓O_eN, ↓O_e1, ↓O_e2, ↓U_ap1, ↓U_ap2, ↓U_f1, ↓U_f2, ↓U_opt, ↓O_eD, ↓O_eV, ↓O_vl, ↓O_tB, ↓O_asB, ↓O_notM, ↓O_ofB, ↓O_andM, ↓O_orM, ↓O_args0, ↓O_args1, ↓U_apL, ↓U_tup, ↓U_lst, ↓U_call, ↓U_callN, ↓U_callM, ↓U_callMN, ↓U_itM, ↓U_rev, ↓O_noex, ↓S_seq, ↓S_nil, ↓S_pass, ↓S_brk, ↓S_cnt, ↓S_bad, ↓S_nx, ↓S_rt, ↓S_asg, ↓S_if, ↓S_exp, ↓S_retN, ↓S_ret, ↓S_retW, ↓S_new, ↓S_par, ↓S_par3, ↓S_for, gt, res, resL, vls, anyO, setV, setO, setMo, Sl.mo, Mo.dat, tName, Mir.tTup, Mir.tNil, Mir.tCons, tupN, tupD, lenN, lenD, absN, absD, intN, intD, maxN, maxD, minN, minD, negD, addD, subD, ltD, leD, gtD, geD, modD, ixD, isND, notND, at0, at1, at2, eq_int, ne_int, eq_bl, isi_tup, isi_int, isi_bl, isT_tt, isT_ii, isT_ib, allN, allD, anyN, anyD, itD, lstE, ↓reduceIte, Nat.reduceLT, Nat.reduceAdd, Nat.reduceLeDiff, Nat.zero_add, List.map, List.cons_append, List.nil_append, List.replicate, List.append_nil, List.length_cons, List.length_nil, Option.map_some, Option.map_none, Option.bind_some, List.set_cons_zero, List.set_cons_succ, Bool.false_and, Bool.true_and, Bool.and_false, Bool.and_true, Bool.not_true, Bool.not_false, if_true, if_false, Bool.false_eq_true, decide_true, decide_false, tAB, e4']
  have bAB := s_law_behind_one f mi la A B (k := 3) (fun i hi j hj => hA i j hi hj) (fun i hi j hj => hB i j hi hj) (by omega) (by omega) (by omega) (by omega) (by omega)
  obtain ⟨st, es, ns1, _⟩ := (nice_mk (fun i j hi hj => (hAB i hi j hj).mono (by omega)) (by omega) (by omega)).rep (by omega) (by omega)
  refine SO_seqE (g2 := [.pm m4, .no, .no, .no, .va (.int f), .va (.int mi), .va (.int la), .va (.int wi), .va (tabD (mkT f mi A)), .va (tabD (mkT mi la B)), .va (tabD (mkT la wi C)), .va (tabD (mkT f la fun i j => Sm mi fun l => A i l * B l j)), .va (rowD (rowF la (R 0))), .no, .no, .no, .no, .no, .no]) ?_ ?_
  · simp only [↓O_ret, ↓O_bad, ↓O_bnd, ↓O_opt, ↓O_if, ↓O_ite, ↓O_eN, ↓O_e1, ↓O_e2, ↓U_ap1, ↓U_ap2, ↓U_f1, ↓U_f2, ↓U_opt, ↓O_eD, ↓O_eV, ↓O_vl, ↓O_tB, ↓O_asB, ↓O_notM, ↓O_ofB, ↓O_andM, ↓O_orM, ↓O_args0, ↓O_args1, ↓U_apL, ↓U_tup, ↓U_lst, ↓U_call, ↓U_callN, ↓U_callM, ↓U_callMN, ↓U_itM, ↓U_rev, ↓O_noex, ↓S_seq, ↓S_nil, ↓S_pass, ↓S_brk, ↓S_cnt, ↓S_bad, ↓S_nx, ↓S_rt, ↓S_asg, ↓S_if, ↓S_exp, ↓S_retN, ↓S_ret, ↓S_retW, ↓S_new, ↓S_par, ↓S_par3, ↓S_for, gt, res, resL, vls, anyO, setV, setO, setMo, Sl.mo, Mo.dat, tName, Mir.tTup, Mir.tNil, Mir.tCons, tupN, tupD, lenN, lenD, absN, absD, intN, intD, maxN, maxD, minN, minD, negD, addD, subD, ltD, leD, gtD, geD, modD, ixD, isND, notND, at0, at1, at2, eq_int, ne_int, eq_bl, isi_tup, isi_int, isi_bl, isT_tt, isT_ii, isT_ib, allN, allD, anyN, anyD, itD, lstE, ↓reduceIte, Nat.reduceLT, Nat.reduceAdd, Nat.reduceLeDiff, Nat.zero_add, List.map, List.cons_append, List.nil_append, List.replicate, List.append_nil, List.length_cons, List.length_nil, Option.map_some, Option.map_none, Option.bind_some, List.set_cons_zero, List.set_cons_succ, Bool.false_and, Bool.true_and, Bool.and_false, Bool.and_true, Bool.not_true, Bool.not_false, if_true, if_false, Bool.false_eq_true, decide_true, decide_false, bAB, es, ns1]
  refine SO_seqE (g2 := [.pm m4, .no, .no, .no, .va (.int f), .va (.int mi), .va (.int la), .va (.int wi), .va (tabD (mkT f mi A)), .va (tabD (mkT mi la B)), .va (tabD (mkT la wi C)), .va (tabD (mkT f la fun i j => Sm mi fun l => A i l * B l j)), .va (rowD (rowF la (R 0))), .no, .no, .no, .no, .no, .no]) ?_ ?_
  · have l1 := s_led f la (fun i j => Sm mi fun l => A i l * B l j) (R 0) (k := 29) hAB (fun j hj => (hR 0 j (by omega) hj).mono (by omega)) (by omega) (by omega) (by omega) (by omega)
    have l2 := s_led mi la B (R 0) (k := 3) (fun i hi j hj => hB i j hi hj) (fun j hj => hR 0 j (by omega) hj) (by omega) (by omega) (by omega) (by omega)
    have hz : ∀ i, i < mi → Sz 29 (Sm la fun j => R 0 j * B i j) := fun i hi => (Sm_sz (k := 6) fun l hl => (hR 0 l (by omega) hl).mul (hB i l hi hl)).mono (by omega)
    have l3 := s_led f mi A (fun i => Sm la fun j => R 0 j * B i j) (k := 29) (fun i hi j hj => (hA i j hi hj).mono (by omega)) hz (by omega) (by omega) (by omega) (by omega)
    have q : (rowF f fun i => Sm mi fun j => (Sm la fun l => R 0 l * B j l) * A i j) = rowF f fun i => Sm la fun j => R 0 j * Sm mi fun l => A i l * B l j := rowF_congr fun i _ => (Sm_led la mi (R 0) (A i) B).symm
    rw [q] at l3
    have n := (cmp_row (rowF f fun i => Sm la fun j => R 0 j * Sm mi fun l => A i l * B l j)).ne (by omega)
    simp only [↓O_ret, ↓O_bad, ↓O_bnd, ↓O_opt, ↓O_if, ↓O_ite, ↓O_eN, ↓O_e1, ↓O_e2, ↓U_ap1, ↓U_ap2, ↓U_f1, ↓U_f2, ↓U_opt, ↓O_eD, ↓O_eV, ↓O_vl, ↓O_tB, ↓O_asB, ↓O_notM, ↓O_ofB, ↓O_andM, ↓O_orM, ↓O_args0, ↓O_args1, ↓U_apL, ↓U_tup, ↓U_lst, ↓U_call, ↓U_callN, ↓U_callM, ↓U_callMN, ↓U_itM, ↓U_rev, ↓O_noex, ↓S_seq, ↓S_nil, ↓S_pass, ↓S_brk, ↓S_cnt, ↓S_bad, ↓S_nx, ↓S_rt, ↓S_asg, ↓S_if, ↓S_exp, ↓S_retN, ↓S_ret, ↓S_retW, ↓S_new, ↓S_par, ↓S_par3, ↓S_for, gt, res, resL, vls, anyO, setV, setO, setMo, Sl.mo, Mo.dat, tName, Mir.tTup, Mir.tNil, Mir.tCons, tupN, tupD, lenN, lenD, absN, absD, intN, intD, maxN, maxD, minN, minD, negD, addD, subD, ltD, leD, gtD, geD, modD, ixD, isND, notND, at0, at1, at2, eq_int, ne_int, eq_bl, isi_tup, isi_int, isi_bl, isT_tt, isT_ii, isT_ib, allN, allD, anyN, anyD, itD, lstE, ↓reduceIte, Nat.reduceLT, Nat.reduceAdd, Nat.reduceLeDiff, Nat.zero_add, List.map, List.cons_append, List.nil_append, List.replicate, List.append_nil, List.length_cons, List.length_nil, Option.map_some, Option.map_none, Option.bind_some, List.set_cons_zero, List.set_cons_succ, Bool.false_and, Bool.true_and, Bool.and_false, Bool.and_true, Bool.not_true, Bool.not_false, if_true, if_false, Bool.false_eq_true, decide_true, decide_false, l1, l2, l3, n]
  have tABC := s_table_times f la wi (fun i j => Sm mi fun l => A i l * B l j) C (k := 29) hAB (fun i hi j hj => (hC i j hi hj).mono (by omega)) (by omega) (by omega) (by omega) (by omega) (by omega)
  refine SO_seqE (g2 := [.pm m4, .va (tabD (mkT f wi fun i j => Sm la fun l => (Sm mi fun x => A i x * B x l) * C l j)), .no, .no, .va (.int f), .va (.int mi), .va (.int la), .va (.int wi), .va (tabD (mkT f mi A)), .va (tabD (mkT mi la B)), .va (tabD (mkT la wi C)), .va (tabD (mkT f la fun i j => Sm mi fun l => A i l * B l j)), .va (rowD (rowF la (R 0))), .no, .no, .no, .no, .no, .no]) ?_ ?_
  · simp only [↓O_ret, ↓O_bad, ↓O_bnd, ↓O_opt, ↓O_if, ↓O_ite, ↓O_eN, ↓O_e1, ↓O_e2, ↓U_ap1, ↓U_ap2, ↓U_f1, ↓U_f2, ↓U_opt, ↓O_eD, ↓O_eV, ↓O_vl, ↓O_tB, ↓O_asB, ↓O_notM, ↓O_ofB, ↓O_andM, ↓O_orM, ↓O_args0, ↓O_args1, ↓U_apL, ↓U_tup, ↓U_lst, ↓U_call, ↓U_callN, ↓U_callM, ↓U_callMN, ↓U_itM, ↓U_rev, ↓O_noex, ↓S_seq, ↓S_nil, ↓S_pass, ↓S_brk, ↓S_cnt, ↓S_bad, ↓S_nx, ↓S_rt, ↓S_asg, ↓S_if, ↓S_exp, ↓S_retN, ↓S_ret, ↓S_retW, ↓S_new, ↓S_par, ↓S_par3, ↓S_for, gt, res, resL, vls, anyO, setV, setO, setMo, Sl.mo, Mo.dat, tName, Mir.tTup, Mir.tNil, Mir.tCons, tupN, tupD, lenN, lenD, absN, absD, intN, intD, maxN, maxD, minN, minD, negD, addD, subD, ltD, leD, gtD, geD, modD, ixD, isND, notND, at0, at1, at2, eq_int, ne_int, eq_bl, isi_tup, isi_int, isi_bl, isT_tt, isT_ii, isT_ib, allN, allD, anyN, anyD, itD, lstE, ↓reduceIte, Nat.reduceLT, Nat.reduceAdd, Nat.reduceLeDiff, Nat.zero_add, List.map, List.cons_append, List.nil_append, List.replicate, List.append_nil, List.length_cons, List.length_nil, Option.map_some, Option.map_none, Option.bind_some, List.set_cons_zero, List.set_cons_succ, Bool.false_and, Bool.true_and, Bool.and_false, Bool.and_true, Bool.not_true, Bool.not_false, if_true, if_false, Bool.false_eq_true, decide_true, decide_false, tABC]
  refine SO_seqE (g2 := [.pm m4, .va (tabD (mkT f wi fun i j => Sm la fun l => (Sm mi fun x => A i x * B x l) * C l j)), .no, .no, .va (.int f), .va (.int mi), .va (.int la), .va (.int wi), .va (tabD (mkT f mi A)), .va (tabD (mkT mi la B)), .va (tabD (mkT la wi C)), .va (tabD (mkT f la fun i j => Sm mi fun l => A i l * B l j)), .va (rowD (rowF la (R 0))), .no, .no, .no, .no, .no, .no]) ?_ ?_
  · have t1 := s_table_times mi la wi B C (k := 3) (fun i hi j hj => hB i j hi hj) (fun i hi j hj => hC i j hi hj) (by omega) (by omega) (by omega) (by omega) (by omega)
    have hBC : ∀ i, i < mi → ∀ j, j < wi → Sz 29 (Sm la fun l => B i l * C l j) := fun i hi j hj => (Sm_sz (k := 6) fun l hl => (hB i l hi hl).mul (hC l j hl hj)).mono (by omega)
    have t2 := s_table_times f mi wi A (fun i j => Sm la fun l => B i l * C l j) (k := 29) (fun i hi j hj => (hA i j hi hj).mono (by omega)) hBC (by omega) (by omega) (by omega) (by omega) (by omega)
    have q : (mkT f wi fun i j => Sm mi fun x => A i x * Sm la fun l => B x l * C l j) = mkT f wi fun i j => Sm la fun l => (Sm mi fun x => A i x * B x l) * C l j := mkT_congr fun i _ j _ => (Sm_assoc la mi (A i) B fun l => C l j).symm
    rw [q] at t2
    have n := (cmp_tab (mkT f wi fun i j => Sm la fun l => (Sm mi fun x => A i x * B x l) * C l j)).ne (by omega)
    simp only [↓O_ret, ↓O_bad, ↓O_bnd, ↓O_opt, ↓O_if, ↓O_ite, ↓O_eN, ↓O_e1, ↓O_e2, ↓U_ap1, ↓U_ap2, ↓U_f1, ↓U_f2, ↓U_opt, ↓O_eD, ↓O_eV, ↓O_vl, ↓O_tB, ↓O_asB, ↓O_notM, ↓O_ofB, ↓O_andM, ↓O_orM, ↓O_args0, ↓O_args1, ↓U_apL, ↓U_tup, ↓U_lst, ↓U_call, ↓U_callN, ↓U_callM, ↓U_callMN, ↓U_itM, ↓U_rev, ↓O_noex, ↓S_seq, ↓S_nil, ↓S_pass, ↓S_brk, ↓S_cnt, ↓S_bad, ↓S_nx, ↓S_rt, ↓S_asg, ↓S_if, ↓S_exp, ↓S_retN, ↓S_ret, ↓S_retW, ↓S_new, ↓S_par, ↓S_par3, ↓S_for, gt, res, resL, vls, anyO, setV, setO, setMo, Sl.mo, Mo.dat, tName, Mir.tTup, Mir.tNil, Mir.tCons, tupN, tupD, lenN, lenD, absN, absD, intN, intD, maxN, maxD, minN, minD, negD, addD, subD, ltD, leD, gtD, geD, modD, ixD, isND, notND, at0, at1, at2, eq_int, ne_int, eq_bl, isi_tup, isi_int, isi_bl, isT_tt, isT_ii, isT_ib, allN, allD, anyN, anyD, itD, lstE, ↓reduceIte, Nat.reduceLT, Nat.reduceAdd, Nat.reduceLeDiff, Nat.zero_add, List.map, List.cons_append, List.nil_append, List.replicate, List.append_nil, List.length_cons, List.length_nil, Option.map_some, Option.map_none, Option.bind_some, List.set_cons_zero, List.set_cons_succ, Bool.false_and, Bool.true_and, Bool.and_false, Bool.and_true, Bool.not_true, Bool.not_false, if_true, if_false, Bool.false_eq_true, decide_true, decide_false, t1, t2, n]
  have u1 := s_unit f (by omega)
  have u2 := s_unit mi (by omega)
  have u3 := s_unit wi (by omega)
  have n1 := (cmp_tab (mkT f mi A)).ne (by omega)
  rw [unitTab_eq] at u1 u2
  refine SO_seqE (g2 := [.pm m4, .va (tabD (mkT f wi fun i j => Sm la fun l => (Sm mi fun x => A i x * B x l) * C l j)), .no, .no, .va (.int f), .va (.int mi), .va (.int la), .va (.int wi), .va (tabD (mkT f mi A)), .va (tabD (mkT mi la B)), .va (tabD (mkT la wi C)), .va (tabD (mkT f la fun i j => Sm mi fun l => A i l * B l j)), .va (rowD (rowF la (R 0))), .no, .no, .no, .no, .no, .no]) ?_ ?_
  · have t1 := s_table_times f f mi (fun i p => if p = i then 1 else 0) A (k := 3) (fun i hi j hj => by split <;> exact ⟨by decide, by decide⟩) (fun i hi j hj => hA i j hi hj) (by omega) (by omega) (by omega) (by omega) (by omega)
    rw [unit_left] at t1
    simp only [↓O_ret, ↓O_bad, ↓O_bnd, ↓O_opt, ↓O_if, ↓O_ite, ↓O_eN, ↓O_e1, ↓O_e2, ↓U_ap1, ↓U_ap2, ↓U_f1, ↓U_f2, ↓U_opt, ↓O_eD, ↓O_eV, ↓O_vl, ↓O_tB, ↓O_asB, ↓O_notM, ↓O_ofB, ↓O_andM, ↓O_orM, ↓O_args0, ↓O_args1, ↓U_apL, ↓U_tup, ↓U_lst, ↓U_call, ↓U_callN, ↓U_callM, ↓U_callMN, ↓U_itM, ↓U_rev, ↓O_noex, ↓S_seq, ↓S_nil, ↓S_pass, ↓S_brk, ↓S_cnt, ↓S_bad, ↓S_nx, ↓S_rt, ↓S_asg, ↓S_if, ↓S_exp, ↓S_retN, ↓S_ret, ↓S_retW, ↓S_new, ↓S_par, ↓S_par3, ↓S_for, gt, res, resL, vls, anyO, setV, setO, setMo, Sl.mo, Mo.dat, tName, Mir.tTup, Mir.tNil, Mir.tCons, tupN, tupD, lenN, lenD, absN, absD, intN, intD, maxN, maxD, minN, minD, negD, addD, subD, ltD, leD, gtD, geD, modD, ixD, isND, notND, at0, at1, at2, eq_int, ne_int, eq_bl, isi_tup, isi_int, isi_bl, isT_tt, isT_ii, isT_ib, allN, allD, anyN, anyD, itD, lstE, ↓reduceIte, Nat.reduceLT, Nat.reduceAdd, Nat.reduceLeDiff, Nat.zero_add, List.map, List.cons_append, List.nil_append, List.replicate, List.append_nil, List.length_cons, List.length_nil, Option.map_some, Option.map_none, Option.bind_some, List.set_cons_zero, List.set_cons_succ, Bool.false_and, Bool.true_and, Bool.and_false, Bool.and_true, Bool.not_true, Bool.not_false, if_true, if_false, Bool.false_eq_true, decide_true, decide_false, u1, t1, n1]
  refine SO_seqE (g2 := [.pm m4, .va (tabD (mkT f wi fun i j => Sm la fun l => (Sm mi fun x => A i x * B x l) * C l j)), .no, .no, .va (.int f), .va (.int mi), .va (.int la), .va (.int wi), .va (tabD (mkT f mi A)), .va (tabD (mkT mi la B)), .va (tabD (mkT la wi C)), .va (tabD (mkT f la fun i j => Sm mi fun l => A i l * B l j)), .va (rowD (rowF la (R 0))), .no, .no, .no, .no, .no, .no]) ?_ ?_
  · have t1 := s_table_times f mi mi A (fun i p => if p = i then 1 else 0) (k := 3) (fun i hi j hj => hA i j hi hj) (fun i hi j hj => by split <;> exact ⟨by decide, by decide⟩) (by omega) (by omega) (by omega) (by omega) (by omega)
    rw [unit_right] at t1
    simp only [↓O_ret, ↓O_bad, ↓O_bnd, ↓O_opt, ↓O_if, ↓O_ite, ↓O_eN, ↓O_e1, ↓O_e2, ↓U_ap1, ↓U_ap2, ↓U_f1, ↓U_f2, ↓U_opt, ↓O_eD, ↓O_eV, ↓O_vl, ↓O_tB, ↓O_asB, ↓O_notM, ↓O_ofB, ↓O_andM, ↓O_orM, ↓O_args0, ↓O_args1, ↓U_apL, ↓U_tup, ↓U_lst, ↓U_call, ↓U_callN, ↓U_callM, ↓U_callMN, ↓U_itM, ↓U_rev, ↓O_noex, ↓S_seq, ↓S_nil, ↓S_pass, ↓S_brk, ↓S_cnt, ↓S_bad, ↓S_nx, ↓S_rt, ↓S_asg, ↓S_if, ↓S_exp, ↓S_retN, ↓S_ret, ↓S_retW, ↓S_new, ↓S_par, ↓S_par3, ↓S_for, gt, res, resL, vls, anyO, setV, setO, setMo, Sl.mo, Mo.dat, tName, Mir.tTup, Mir.tNil, Mir.tCons, tupN, tupD, lenN, lenD, absN, absD, intN, intD, maxN, maxD, minN, minD, negD, addD, subD, ltD, leD, gtD, geD, modD, ixD, isND, notND, at0, at1, at2, eq_int, ne_int, eq_bl, isi_tup, isi_int, isi_bl, isT_tt, isT_ii, isT_ib, allN, allD, anyN, anyD, itD, lstE, ↓reduceIte, Nat.reduceLT, Nat.reduceAdd, Nat.reduceLeDiff, Nat.zero_add, List.map, List.cons_append, List.nil_append, List.replicate, List.append_nil, List.length_cons, List.length_nil, Option.map_some, Option.map_none, Option.bind_some, List.set_cons_zero, List.set_cons_succ, Bool.false_and, Bool.true_and, Bool.and_false, Bool.and_true, Bool.not_true, Bool.not_false, if_true, if_false, Bool.false_eq_true, decide_true, decide_false, u2, t1, n1]
  refine SO_seqE (g2 := [.pm m5, .va (tabD (mkT f wi fun i j => Sm la fun l => (Sm mi fun x => A i x * B x l) * C l j)), .va (tabD (mkT f mi M)), .no, .va (.int f), .va (.int mi), .va (.int la), .va (.int wi), .va (tabD (mkT f mi A)), .va (tabD (mkT mi la B)), .va (tabD (mkT la wi C)), .va (tabD (mkT f la fun i j => Sm mi fun l => A i l * B l j)), .va (rowD (rowF la (R 0))), .no, .no, .no, .no, .no, .no]) ?_ ?_
  · simp only [↓O_ret, ↓O_bad, ↓O_bnd, ↓O_opt, ↓O_if, ↓O_ite, ↓O_eN, ↓O_e1, ↓O_e2, ↓U_ap1, ↓U_ap2, ↓U_f1, ↓U_f2, ↓U_opt, ↓O_eD, ↓O_eV, ↓O_vl, ↓O_tB, ↓O_asB, ↓O_notM, ↓O_ofB, ↓O_andM, ↓O_orM, ↓O_args0, ↓O_args1, ↓U_apL, ↓U_tup, ↓U_lst, ↓U_call, ↓U_callN, ↓U_callM, ↓U_callMN, ↓U_itM, ↓U_rev, ↓O_noex, ↓S_seq, ↓S_nil, ↓S_pass, ↓S_brk, ↓S_cnt, ↓S_bad, ↓S_nx, ↓S_rt, ↓S_asg, ↓S_if, ↓S_exp, ↓S_retN, ↓S_ret, ↓S_retW, ↓S_new, ↓S_par, ↓S_par3, ↓S_for, gt, res, resL, vls, anyO, setV, setO, setMo, Sl.mo, Mo.dat, tName, Mir.tTup, Mir.tNil, Mir.tCons, tupN, tupD, lenN, lenD, absN, absD, intN, intD, maxN, maxD, minN, minD, negD, addD, subD, ltD, leD, gtD, geD, modD, ixD, isND, notND, at0, at1, at2, eq_int, ne_int, eq_bl, isi_tup, isi_int, isi_bl, isT_tt, isT_ii, isT_ib, allN, allD, anyN, anyD, itD, lstE, ↓reduceIte, Nat.reduceLT, Nat.reduceAdd, Nat.reduceLeDiff, Nat.zero_add, List.map, List.cons_append, List.nil_append, List.replicate, List.append_nil, List.length_cons, List.length_nil, Option.map_some, Option.map_none, Option.bind_some, List.set_cons_zero, List.set_cons_succ, Bool.false_and, Bool.true_and, Bool.and_false, Bool.and_true, Bool.not_true, Bool.not_false, if_true, if_false, Bool.false_eq_true, decide_true, decide_false, e5]
  refine SO_seqE (g2 := [.pm m5, .va (tabD (mkT f wi fun i j => Sm la fun l => (Sm mi fun x => A i x * B x l) * C l j)), .va (tabD (mkT f mi M)), .ow (.ls []), .va (.int f), .va (.int mi), .va (.int la), .va (.int wi), .va (tabD (mkT f mi A)), .va (tabD (mkT mi la B)), .va (tabD (mkT la wi C)), .va (tabD (mkT f la fun i j => Sm mi fun l => A i l * B l j)), .va (rowD (rowF la (R 0))), .no, .no, .no, .no, .no, .no]) ?_ ?_
  · simp only [↓O_ret, ↓O_bad, ↓O_bnd, ↓O_opt, ↓O_if, ↓O_ite, ↓O_eN, ↓O_e1, ↓O_e2, ↓U_ap1, ↓U_ap2, ↓U_f1, ↓U_f2, ↓U_opt, ↓O_eD, ↓O_eV, ↓O_vl, ↓O_tB, ↓O_asB, ↓O_notM, ↓O_ofB, ↓O_andM, ↓O_orM, ↓O_args0, ↓O_args1, ↓U_apL, ↓U_tup, ↓U_lst, ↓U_call, ↓U_callN, ↓U_callM, ↓U_callMN, ↓U_itM, ↓U_rev, ↓O_noex, ↓S_seq, ↓S_nil, ↓S_pass, ↓S_brk, ↓S_cnt, ↓S_bad, ↓S_nx, ↓S_rt, ↓S_asg, ↓S_if, ↓S_exp, ↓S_retN, ↓S_ret, ↓S_retW, ↓S_new, ↓S_par, ↓S_par3, ↓S_for, gt, res, resL, vls, anyO, setV, setO, setMo, Sl.mo, Mo.dat, tName, Mir.tTup, Mir.tNil, Mir.tCons, tupN, tupD, lenN, lenD, absN, absD, intN, intD, maxN, maxD, minN, minD, negD, addD, subD, ltD, leD, gtD, geD, modD, ixD, isND, notND, at0, at1, at2, eq_int, ne_int, eq_bl, isi_tup, isi_int, isi_bl, isT_tt, isT_ii, isT_ib, allN, allD, anyN, anyD, itD, lstE, ↓reduceIte, Nat.reduceLT, Nat.reduceAdd, Nat.reduceLeDiff, Nat.zero_add, List.map, List.cons_append, List.nil_append, List.replicate, List.append_nil, List.length_cons, List.length_nil, Option.map_some, Option.map_none, Option.bind_some, List.set_cons_zero, List.set_cons_succ, Bool.false_and, Bool.true_and, Bool.and_false, Bool.and_true, Bool.not_true, Bool.not_false, if_true, if_false, Bool.false_eq_true, decide_true, decide_false]
  refine SO_seq (fun g => ∃ s s', Fr s ∧ Fr s' ∧ g = [.pm m5, .va (tabD (mkT f wi fun i j => Sm la fun l => (Sm mi fun x => A i x * B x l) * C l j)), .va (tabD (mkT f mi M)), .ow (.ls ((List.range f).map fun i => rowD (rowF mi fun j => A i j + M i j))), .va (.int f), .va (.int mi), .va (.int la), .va (.int wi), .va (tabD (mkT f mi A)), .va (tabD (mkT mi la B)), .va (tabD (mkT la wi C)), .va (tabD (mkT f la fun i j => Sm mi fun l => A i l * B l j)), .va (rowD (rowF la (R 0))), s, s', .no, .no, .no, .no]) ?_ ?_
  · have hz := zipTT f mi A M
    simp only [↓O_ret, ↓O_bad, ↓O_bnd, ↓O_opt, ↓O_if, ↓O_ite, ↓O_eN, ↓O_e1, ↓O_e2, ↓U_ap1, ↓U_ap2, ↓U_f1, ↓U_f2, ↓U_opt, ↓O_eD, ↓O_eV, ↓O_vl, ↓O_tB, ↓O_asB, ↓O_notM, ↓O_ofB, ↓O_andM, ↓O_orM, ↓O_args0, ↓O_args1, ↓U_apL, ↓U_tup, ↓U_lst, ↓U_call, ↓U_callN, ↓U_callM, ↓U_callMN, ↓U_itM, ↓U_rev, ↓O_noex, ↓S_seq, ↓S_nil, ↓S_pass, ↓S_brk, ↓S_cnt, ↓S_bad, ↓S_nx, ↓S_rt, ↓S_asg, ↓S_if, ↓S_exp, ↓S_retN, ↓S_ret, ↓S_retW, ↓S_new, ↓S_par, ↓S_par3, ↓S_for, gt, res, resL, vls, anyO, setV, setO, setMo, Sl.mo, Mo.dat, tName, Mir.tTup, Mir.tNil, Mir.tCons, tupN, tupD, lenN, lenD, absN, absD, intN, intD, maxN, maxD, minN, minD, negD, addD, subD, ltD, leD, gtD, geD, modD, ixD, isND, notND, at0, at1, at2, eq_int, ne_int, eq_bl, isi_tup, isi_int, isi_bl, isT_tt, isT_ii, isT_ib, allN, allD, anyN, anyD, itD, lstE, ↓reduceIte, Nat.reduceLT, Nat.reduceAdd, Nat.reduceLeDiff, Nat.zero_add, List.map, List.cons_append, List.nil_append, List.replicate, List.append_nil, List.length_cons, List.length_nil, Option.map_some, Option.map_none, Option.bind_some, List.set_cons_zero, List.set_cons_succ, Bool.false_and, Bool.true_and, Bool.and_false, Bool.and_true, Bool.not_true, Bool.not_false, if_true, if_false, Bool.false_eq_true, decide_true, decide_false, zipM, tabD_eq (mkT f mi A), tabD_eq (mkT f mi M), hz]
    simp only [← tabD_eq (mkT f mi A), ← tabD_eq (mkT f mi M)]
    refine S_forA (xs := List.range f) (fun i : Nat => D.tup [rowD (rowF mi (A i)), rowD (rowF mi (M i))]) (fun n g => ∃ s s', Fr s ∧ Fr s' ∧ g = [.pm m5, .va (tabD (mkT f wi fun i j => Sm la fun l => (Sm mi fun x => A i x * B x l) * C l j)), .va (tabD (mkT f mi M)), .ow (.ls ((List.range n).map fun i => rowD (rowF mi fun j => A i j + M i j))), .va (.int f), .va (.int mi), .va (.int la), .va (.int wi), .va (tabD (mkT f mi A)), .va (tabD (mkT mi la B)), .va (tabD (mkT la wi C)), .va (tabD (mkT f la fun i j => Sm mi fun l => A i l * B l j)), .va (rowD (rowF la (R 0))), s, s', .no, .no, .no, .no]) ⟨_, _, .no, .no, rfl⟩ ?_ ?_
    · rintro i x g hx ⟨s, s', hs, hs', rfl⟩
      obtain ⟨rfl, hi⟩ := range_get hx
      refine ⟨[.pm m5, .va (tabD (mkT f wi fun i j => Sm la fun l => (Sm mi fun x => A i x * B x l) * C l j)), .va (tabD (mkT f mi M)), .ow (.ls ((List.range x).map fun i => rowD (rowF mi fun j => A i j + M i j))), .va (.int f), .va (.int mi), .va (.int la), .va (.int wi), .va (tabD (mkT f mi A)), .va (tabD (mkT mi la B)), .va (tabD (mkT la wi C)), .va (tabD (mkT f la fun i j => Sm mi fun l => A i l * B l j)), .va (rowD (rowF la (R 0))), .va (rowD (rowF mi (A x))), .va (rowD (rowF mi (M x))), .no, .no, .no, .no], ?_, ?_⟩
      · rcases hs with rfl | ⟨d, rfl⟩ <;> rcases hs' with rfl | ⟨d', rfl⟩ <;> rfl
      · have c := cmp_okA (vs := [1, 17]) (m := bnd (eArgs [(eN 13), (eN 14)]) zipM) (t := Mir.tTup 2 (Mir.tCons (tName 1) (Mir.tCons (tName 17) Mir.tNil))) (e := (eD (bnd (eArgs [(eN 1), (eN 17)]) (callF 2 f_law_plus [])))) (g := [.pm m5, .va (tabD (mkT f wi fun i j => Sm la fun l => (Sm mi fun x => A i x * B x l) * C l j)), .va (tabD (mkT f mi M)), .ow (.ls ((List.range x).map fun i => rowD (rowF mi fun j => A i j + M i j))), .va (.int f), .va (.int mi), .va (.int la), .va (.int wi), .va (tabD (mkT f mi A)), .va (tabD (mkT mi la B)), .va (tabD (mkT la wi C)), .va (tabD (mkT f la fun i j => Sm mi fun l => A i l * B l j)), .va (rowD (rowF la (R 0))), .va (rowD (rowF mi (A x))), .va (rowD (rowF mi (M x))), .no, .no, .no, .no]) (fun j : Nat => D.tup [numD (A x j), numD (M x j)]) (fun j => numD (A x j + M x j)) (xs := List.range mi) (by
          show Rs.ok (zipD ((rowF mi (A x)).map numD) ((rowF mi (M x)).map numD)) _ = _
          rw [zipR]) rfl (fun j hj => by
          refine ⟨_, rfl, ?_⟩
          have e := s_law_plus (A x j) (M x j) (hA x j hi (List.mem_range.mp hj)) (hM x j hi (List.mem_range.mp hj)) (by omega)
          simp only [wipeG, ↓O_ret, ↓O_bad, ↓O_bnd, ↓O_opt, ↓O_if, ↓O_ite, ↓O_eN, ↓O_e1, ↓O_e2, ↓U_ap1, ↓U_ap2, ↓U_f1, ↓U_f2, ↓U_opt, ↓O_eD, ↓O_eV, ↓O_vl, ↓O_tB, ↓O_asB, ↓O_notM, ↓O_ofB, ↓O_andM, ↓O_orM, ↓O_args0, ↓O_args1, ↓U_apL, ↓U_tup, ↓U_lst, ↓U_call, ↓U_callN, ↓U_callM, ↓U_callMN, ↓U_itM, ↓U_rev, ↓O_noex, ↓S_seq, ↓S_nil, ↓S_pass, ↓S_brk, ↓S_cnt, ↓S_bad, ↓S_nx, ↓S_rt, ↓S_asg, ↓S_if, ↓S_exp, ↓S_retN, ↓S_ret, ↓S_retW, ↓S_new, ↓S_par, ↓S_par3, ↓S_for, gt, res, resL, vls, anyO, setV, setO, setMo, Sl.mo, Mo.dat, tName, Mir.tTup, Mir.tNil, Mir.tCons, tupN, tupD, lenN, lenD, absN, absD, intN, intD, maxN, maxD, minN, minD, negD, addD, subD, ltD, leD, gtD, geD, modD, ixD, isND, notND, at0, at1, at2, eq_int, ne_int, eq_bl, isi_tup, isi_int, isi_bl, isT_tt, isT_ii, isT_ib, allN, allD, anyN, anyD, itD, lstE, ↓reduceIte, Nat.reduceLT, Nat.reduceAdd, Nat.reduceLeDiff, Nat.zero_add, List.map, List.cons_append, List.nil_append, List.replicate, List.append_nil, List.length_cons, List.length_nil, Option.map_some, Option.map_none, Option.bind_some, List.set_cons_zero, List.set_cons_succ, Bool.false_and, Bool.true_and, Bool.and_false, Bool.and_true, Bool.not_true, Bool.not_false, if_true, if_false, Bool.false_eq_true, decide_true, decide_false, e]
          exact ⟨by first | trivial | rfl, by first | trivial | rfl⟩) (by rw [List.length_range]; omega)
        simp only [↓S_app, ↓O_ret, ↓O_bad, ↓O_bnd, ↓O_opt, ↓O_if, ↓O_ite, ↓O_eN, ↓O_e1, ↓O_e2, ↓U_ap1, ↓U_ap2, ↓U_f1, ↓U_f2, ↓U_opt, ↓O_eD, ↓O_eV, ↓O_vl, ↓O_tB, ↓O_asB, ↓O_notM, ↓O_ofB, ↓O_andM, ↓O_orM, ↓O_args0, ↓O_args1, ↓U_apL, ↓U_tup, ↓U_lst, ↓U_call, ↓U_callN, ↓U_callM, ↓U_callMN, ↓U_itM, ↓U_rev, ↓O_noex, ↓S_seq, ↓S_nil, ↓S_pass, ↓S_brk, ↓S_cnt, ↓S_bad, ↓S_nx, ↓S_rt, ↓S_asg, ↓S_if, ↓S_exp, ↓S_retN, ↓S_ret, ↓S_retW, ↓S_new, ↓S_par, ↓S_par3, ↓S_for, gt, res, resL, vls, anyO, setV, setO, setMo, Sl.mo, Mo.dat, tName, Mir.tTup, Mir.tNil, Mir.tCons, tupN, tupD, lenN, lenD, absN, absD, intN, intD, maxN, maxD, minN, minD, negD, addD, subD, ltD, leD, gtD, geD, modD, ixD, isND, notND, at0, at1, at2, eq_int, ne_int, eq_bl, isi_tup, isi_int, isi_bl, isT_tt, isT_ii, isT_ib, allN, allD, anyN, anyD, itD, lstE, ↓reduceIte, Nat.reduceLT, Nat.reduceAdd, Nat.reduceLeDiff, Nat.zero_add, List.map, List.cons_append, List.nil_append, List.replicate, List.append_nil, List.length_cons, List.length_nil, Option.map_some, Option.map_none, Option.bind_some, List.set_cons_zero, List.set_cons_succ, Bool.false_and, Bool.true_and, Bool.and_false, Bool.and_true, Bool.not_true, Bool.not_false, if_true, if_false, Bool.false_eq_true, decide_true, decide_false, c, ↓O_ok, List.length_map, List.length_range]
        rw [if_pos (by omega), ← rowD_F]
        refine ⟨.va (rowD (rowF mi (A x))), .va (rowD (rowF mi (M x))), .va, .va, ?_⟩
        rw [List.range_succ, List.map_append]; rfl
    · rintro g ⟨s, s', hs, hs', rfl⟩
      rw [List.length_range]
      exact ⟨s, s', hs, hs', rfl⟩
  rintro _ ⟨s, s', hs, hs', rfl⟩
  refine SO_seqE (g2 := [.pm m5, .va (tabD (mkT f wi fun i j => Sm la fun l => (Sm mi fun x => A i x * B x l) * C l j)), .va (tabD (mkT f mi M)), .ow (.ls ((List.range f).map fun i => rowD (rowF mi fun j => A i j + M i j))), .va (.int f), .va (.int mi), .va (.int la), .va (.int wi), .va (tabD (mkT f mi A)), .va (tabD (mkT mi la B)), .va (tabD (mkT la wi C)), .va (tabD (mkT f la fun i j => Sm mi fun l => A i l * B l j)), .va (rowD (rowF la (R 0))), s, s', .no, .no, .no, .no]) ?_ ?_
  · have t1 := s_table_plus f mi A M (k := 3) (fun i hi j hj => hA i j hi hj) (fun i hi j hj => hM i j hi hj) (by omega) (by omega) (by omega)
    obtain ⟨st, es, ns1, _⟩ := (nice_mk (e := fun i j => A i j + M i j) (fun i j hi hj => ((hA i j hi hj).add (hM i j hi hj)).mono (by omega)) (show f ≤ 10 by omega) (show mi ≤ 10 by omega)).rep (by omega) (by omega)
    have es2 := es
    rw [tabD_F] at es2
    simp only [↓O_ret, ↓O_bad, ↓O_bnd, ↓O_opt, ↓O_if, ↓O_ite, ↓O_eN, ↓O_e1, ↓O_e2, ↓U_ap1, ↓U_ap2, ↓U_f1, ↓U_f2, ↓U_opt, ↓O_eD, ↓O_eV, ↓O_vl, ↓O_tB, ↓O_asB, ↓O_notM, ↓O_ofB, ↓O_andM, ↓O_orM, ↓O_args0, ↓O_args1, ↓U_apL, ↓U_tup, ↓U_lst, ↓U_call, ↓U_callN, ↓U_callM, ↓U_callMN, ↓U_itM, ↓U_rev, ↓O_noex, ↓S_seq, ↓S_nil, ↓S_pass, ↓S_brk, ↓S_cnt, ↓S_bad, ↓S_nx, ↓S_rt, ↓S_asg, ↓S_if, ↓S_exp, ↓S_retN, ↓S_ret, ↓S_retW, ↓S_new, ↓S_par, ↓S_par3, ↓S_for, gt, res, resL, vls, anyO, setV, setO, setMo, Sl.mo, Mo.dat, tName, Mir.tTup, Mir.tNil, Mir.tCons, tupN, tupD, lenN, lenD, absN, absD, intN, intD, maxN, maxD, minN, minD, negD, addD, subD, ltD, leD, gtD, geD, modD, ixD, isND, notND, at0, at1, at2, eq_int, ne_int, eq_bl, isi_tup, isi_int, isi_bl, isT_tt, isT_ii, isT_ib, allN, allD, anyN, anyD, itD, lstE, ↓reduceIte, Nat.reduceLT, Nat.reduceAdd, Nat.reduceLeDiff, Nat.zero_add, List.map, List.cons_append, List.nil_append, List.replicate, List.append_nil, List.length_cons, List.length_nil, Option.map_some, Option.map_none, Option.bind_some, List.set_cons_zero, List.set_cons_succ, Bool.false_and, Bool.true_and, Bool.and_false, Bool.and_true, Bool.not_true, Bool.not_false, if_true, if_false, Bool.false_eq_true, decide_true, decide_false, t1, es, es2, ns1]
  refine SO_seqE (g2 := [.pm m5, .va (tabD (mkT f wi fun i j => Sm la fun l => (Sm mi fun x => A i x * B x l) * C l j)), .va (tabD (mkT f mi M)), .ow (.ls ((List.range f).map fun i => rowD (rowF mi fun j => A i j + M i j))), .va (.int f), .va (.int mi), .va (.int la), .va (.int wi), .va (tabD (mkT f mi A)), .va (tabD (mkT mi la B)), .va (tabD (mkT la wi C)), .va (tabD (mkT f la fun i j => Sm mi fun l => A i l * B l j)), .va (rowD (rowF la (R 0))), s, s', .no, .no, .no, .no]) ?_ ?_
  · have c1 := s_columns f mi A (by omega) (by omega)
    have c2 := s_columns mi f (fun j i => A i j) (by omega) (by omega)
    simp only [↓O_ret, ↓O_bad, ↓O_bnd, ↓O_opt, ↓O_if, ↓O_ite, ↓O_eN, ↓O_e1, ↓O_e2, ↓U_ap1, ↓U_ap2, ↓U_f1, ↓U_f2, ↓U_opt, ↓O_eD, ↓O_eV, ↓O_vl, ↓O_tB, ↓O_asB, ↓O_notM, ↓O_ofB, ↓O_andM, ↓O_orM, ↓O_args0, ↓O_args1, ↓U_apL, ↓U_tup, ↓U_lst, ↓U_call, ↓U_callN, ↓U_callM, ↓U_callMN, ↓U_itM, ↓U_rev, ↓O_noex, ↓S_seq, ↓S_nil, ↓S_pass, ↓S_brk, ↓S_cnt, ↓S_bad, ↓S_nx, ↓S_rt, ↓S_asg, ↓S_if, ↓S_exp, ↓S_retN, ↓S_ret, ↓S_retW, ↓S_new, ↓S_par, ↓S_par3, ↓S_for, gt, res, resL, vls, anyO, setV, setO, setMo, Sl.mo, Mo.dat, tName, Mir.tTup, Mir.tNil, Mir.tCons, tupN, tupD, lenN, lenD, absN, absD, intN, intD, maxN, maxD, minN, minD, negD, addD, subD, ltD, leD, gtD, geD, modD, ixD, isND, notND, at0, at1, at2, eq_int, ne_int, eq_bl, isi_tup, isi_int, isi_bl, isT_tt, isT_ii, isT_ib, allN, allD, anyN, anyD, itD, lstE, ↓reduceIte, Nat.reduceLT, Nat.reduceAdd, Nat.reduceLeDiff, Nat.zero_add, List.map, List.cons_append, List.nil_append, List.replicate, List.append_nil, List.length_cons, List.length_nil, Option.map_some, Option.map_none, Option.bind_some, List.set_cons_zero, List.set_cons_succ, Bool.false_and, Bool.true_and, Bool.and_false, Bool.and_true, Bool.not_true, Bool.not_false, if_true, if_false, Bool.false_eq_true, decide_true, decide_false, c1, c2, n1]
  have c := cmp_okA (vs := [16]) (m := bnd (eArgs [(eN 7)]) rng1) (t := tName 16) (e := (eD (bnd (eArgs [(eD (lstE (cmp [18] (bnd (eArgs [(eN 7)]) rng1) (tName 18) yes (eD (bnd (eArgs [(eD (bnd (eArgs [(eD (e2 (eN 18) (eN 16) (f2 eqD)))]) (apL intN))), (eD (Mir.ret (.int 1)))]) tupM)))))]) (apL tupN)))) (g := [.pm m5, .va (tabD (mkT f wi fun i j => Sm la fun l => (Sm mi fun x => A i x * B x l) * C l j)), .va (tabD (mkT f mi M)), .ow (.ls ((List.range f).map fun i => rowD (rowF mi fun j => A i j + M i j))), .va (.int f), .va (.int mi), .va (.int la), .va (.int wi), .va (tabD (mkT f mi A)), .va (tabD (mkT mi la B)), .va (tabD (mkT la wi C)), .va (tabD (mkT f la fun i j => Sm mi fun l => A i l * B l j)), .va (rowD (rowF la (R 0))), s, s', .no, .no, .no, .no]) (fun p : Nat => D.int p) (fun i => rowD (unitRow wi i)) (xs := List.range wi) ((bnd_ok rfl).trans (rngA wi (by omega) _)) rfl (fun i hi => by
    refine ⟨_, rfl, ?_⟩
    have c := cmp_okA (vs := [18]) (m := bnd (eArgs [(eN 7)]) rng1) (t := tName 18) (e := (eD (bnd (eArgs [(eD (bnd (eArgs [(eD (e2 (eN 18) (eN 16) (f2 eqD)))]) (apL intN))), (eD (Mir.ret (.int 1)))]) tupM))) (g := [.pm m5, .va (tabD (mkT f wi fun i j => Sm la fun l => (Sm mi fun x => A i x * B x l) * C l j)), .va (tabD (mkT f mi M)), .ow (.ls ((List.range f).map fun i => rowD (rowF mi fun j => A i j + M i j))), .va (.int f), .va (.int mi), .va (.int la), .va (.int wi), .va (tabD (mkT f mi A)), .va (tabD (mkT mi la B)), .va (tabD (mkT la wi C)), .va (tabD (mkT f la fun i j => Sm mi fun l => A i l * B l j)), .va (rowD (rowF la (R 0))), s, s', .no, .va (.int (i : Nat)), .no, .no]) (fun p : Nat => D.int p) (fun j => numD (if j = i then 1 else 0)) (xs := List.range wi) ((bnd_ok rfl).trans (rngA wi (by omega) _)) rfl (fun j hj => by
      refine ⟨_, rfl, ?_⟩
      by_cases h : j = i
      · subst h
        simp only [wipeG, ↓O_ret, ↓O_bad, ↓O_bnd, ↓O_opt, ↓O_if, ↓O_ite, ↓O_eN, ↓O_e1, ↓O_e2, ↓U_ap1, ↓U_ap2, ↓U_f1, ↓U_f2, ↓U_opt, ↓O_eD, ↓O_eV, ↓O_vl, ↓O_tB, ↓O_asB, ↓O_notM, ↓O_ofB, ↓O_andM, ↓O_orM, ↓O_args0, ↓O_args1, ↓U_apL, ↓U_tup, ↓U_lst, ↓U_call, ↓U_callN, ↓U_callM, ↓U_callMN, ↓U_itM, ↓U_rev, ↓O_noex, ↓S_seq, ↓S_nil, ↓S_pass, ↓S_brk, ↓S_cnt, ↓S_bad, ↓S_nx, ↓S_rt, ↓S_asg, ↓S_if, ↓S_exp, ↓S_retN, ↓S_ret, ↓S_retW, ↓S_new, ↓S_par, ↓S_par3, ↓S_for, gt, res, resL, vls, anyO, setV, setO, setMo, Sl.mo, Mo.dat, tName, Mir.tTup, Mir.tNil, Mir.tCons, tupN, tupD, lenN, lenD, absN, absD, intN, intD, maxN, maxD, minN, minD, negD, addD, subD, ltD, leD, gtD, geD, modD, ixD, isND, notND, at0, at1, at2, eq_int, ne_int, eq_bl, isi_tup, isi_int, isi_bl, isT_tt, isT_ii, isT_ib, allN, allD, anyN, anyD, itD, lstE, ↓reduceIte, Nat.reduceLT, Nat.reduceAdd, Nat.reduceLeDiff, Nat.zero_add, List.map, List.cons_append, List.nil_append, List.replicate, List.append_nil, List.length_cons, List.length_nil, Option.map_some, Option.map_none, Option.bind_some, List.set_cons_zero, List.set_cons_succ, Bool.false_and, Bool.true_and, Bool.and_false, Bool.and_true, Bool.not_true, Bool.not_false, if_true, if_false, Bool.false_eq_true, decide_true, decide_false, beq_self_eq_true, numD_one]
        exact ⟨by first | trivial | rfl, by first | trivial | rfl⟩
      · have h2 : ((j : Int) == (i : Int)) = false := by rw [beq_eq_false_iff_ne]; omega
        simp only [wipeG, ↓O_ret, ↓O_bad, ↓O_bnd, ↓O_opt, ↓O_if, ↓O_ite, ↓O_eN, ↓O_e1, ↓O_e2, ↓U_ap1, ↓U_ap2, ↓U_f1, ↓U_f2, ↓U_opt, ↓O_eD, ↓O_eV, ↓O_vl, ↓O_tB, ↓O_asB, ↓O_notM, ↓O_ofB, ↓O_andM, ↓O_orM, ↓O_args0, ↓O_args1, ↓U_apL, ↓U_tup, ↓U_lst, ↓U_call, ↓U_callN, ↓U_callM, ↓U_callMN, ↓U_itM, ↓U_rev, ↓O_noex, ↓S_seq, ↓S_nil, ↓S_pass, ↓S_brk, ↓S_cnt, ↓S_bad, ↓S_nx, ↓S_rt, ↓S_asg, ↓S_if, ↓S_exp, ↓S_retN, ↓S_ret, ↓S_retW, ↓S_new, ↓S_par, ↓S_par3, ↓S_for, gt, res, resL, vls, anyO, setV, setO, setMo, Sl.mo, Mo.dat, tName, Mir.tTup, Mir.tNil, Mir.tCons, tupN, tupD, lenN, lenD, absN, absD, intN, intD, maxN, maxD, minN, minD, negD, addD, subD, ltD, leD, gtD, geD, modD, ixD, isND, notND, at0, at1, at2, eq_int, ne_int, eq_bl, isi_tup, isi_int, isi_bl, isT_tt, isT_ii, isT_ib, allN, allD, anyN, anyD, itD, lstE, ↓reduceIte, Nat.reduceLT, Nat.reduceAdd, Nat.reduceLeDiff, Nat.zero_add, List.map, List.cons_append, List.nil_append, List.replicate, List.append_nil, List.length_cons, List.length_nil, Option.map_some, Option.map_none, Option.bind_some, List.set_cons_zero, List.set_cons_succ, Bool.false_and, Bool.true_and, Bool.and_false, Bool.and_true, Bool.not_true, Bool.not_false, if_true, if_false, Bool.false_eq_true, decide_true, decide_false, h2, h, numD_zero]
        exact ⟨by first | trivial | rfl, by first | trivial | rfl⟩) (by rw [List.length_range]; omega)
    simp only [wipeG, ↓O_ret, ↓O_bad, ↓O_bnd, ↓O_opt, ↓O_if, ↓O_ite, ↓O_eN, ↓O_e1, ↓O_e2, ↓U_ap1, ↓U_ap2, ↓U_f1, ↓U_f2, ↓U_opt, ↓O_eD, ↓O_eV, ↓O_vl, ↓O_tB, ↓O_asB, ↓O_notM, ↓O_ofB, ↓O_andM, ↓O_orM, ↓O_args0, ↓O_args1, ↓U_apL, ↓U_tup, ↓U_lst, ↓U_call, ↓U_callN, ↓U_callM, ↓U_callMN, ↓U_itM, ↓U_rev, ↓O_noex, ↓S_seq, ↓S_nil, ↓S_pass, ↓S_brk, ↓S_cnt, ↓S_bad, ↓S_nx, ↓S_rt, ↓S_asg, ↓S_if, ↓S_exp, ↓S_retN, ↓S_ret, ↓S_retW, ↓S_new, ↓S_par, ↓S_par3, ↓S_for, gt, res, resL, vls, anyO, setV, setO, setMo, Sl.mo, Mo.dat, tName, Mir.tTup, Mir.tNil, Mir.tCons, tupN, tupD, lenN, lenD, absN, absD, intN, intD, maxN, maxD, minN, minD, negD, addD, subD, ltD, leD, gtD, geD, modD, ixD, isND, notND, at0, at1, at2, eq_int, ne_int, eq_bl, isi_tup, isi_int, isi_bl, isT_tt, isT_ii, isT_ib, allN, allD, anyN, anyD, itD, lstE, ↓reduceIte, Nat.reduceLT, Nat.reduceAdd, Nat.reduceLeDiff, Nat.zero_add, List.map, List.cons_append, List.nil_append, List.replicate, List.append_nil, List.length_cons, List.length_nil, Option.map_some, Option.map_none, Option.bind_some, List.set_cons_zero, List.set_cons_succ, Bool.false_and, Bool.true_and, Bool.and_false, Bool.and_true, Bool.not_true, Bool.not_false, if_true, if_false, Bool.false_eq_true, decide_true, decide_false, c, ↓O_ok, List.length_map, List.length_range]
    refine ⟨?_, by first | trivial | rfl⟩
    rw [rowD_eq, unitRow, List.map_map]; rfl) (by rw [List.length_range]; omega)
  have fin : eqD (tabD (unitTab wi)) (.tup ((List.range wi).map fun i => rowD (unitRow wi i))) = some (.bl true) := by
    have := (cmp_tab (unitTab wi)).eq (by omega)
    have e : tabD (unitTab wi) = .tup ((List.range wi).map fun i => rowD (unitRow wi i)) := by
      rw [tabD_eq, unitTab, List.map_map]; rfl
    rw [← e]; exact this
  simp only [↓O_ret, ↓O_bad, ↓O_bnd, ↓O_opt, ↓O_if, ↓O_ite, ↓O_eN, ↓O_e1, ↓O_e2, ↓U_ap1, ↓U_ap2, ↓U_f1, ↓U_f2, ↓U_opt, ↓O_eD, ↓O_eV, ↓O_vl, ↓O_tB, ↓O_asB, ↓O_notM, ↓O_ofB, ↓O_andM, ↓O_orM, ↓O_args0, ↓O_args1, ↓U_apL, ↓U_tup, ↓U_lst, ↓U_call, ↓U_callN, ↓U_callM, ↓U_callMN, ↓U_itM, ↓U_rev, ↓O_noex, ↓S_seq, ↓S_nil, ↓S_pass, ↓S_brk, ↓S_cnt, ↓S_bad, ↓S_nx, ↓S_rt, ↓S_asg, ↓S_if, ↓S_exp, ↓S_retN, ↓S_ret, ↓S_retW, ↓S_new, ↓S_par, ↓S_par3, ↓S_for, gt, res, resL, vls, anyO, setV, setO, setMo, Sl.mo, Mo.dat, tName, Mir.tTup, Mir.tNil, Mir.tCons, tupN, tupD, lenN, lenD, absN, absD, intN, intD, maxN, maxD, minN, minD, negD, addD, subD, ltD, leD, gtD, geD, modD, ixD, isND, notND, at0, at1, at2, eq_int, ne_int, eq_bl, isi_tup, isi_int, isi_bl, isT_tt, isT_ii, isT_ib, allN, allD, anyN, anyD, itD, lstE, ↓reduceIte, Nat.reduceLT, Nat.reduceAdd, Nat.reduceLeDiff, Nat.zero_add, List.map, List.cons_append, List.nil_append, List.replicate, List.append_nil, List.length_cons, List.length_nil, Option.map_some, Option.map_none, Option.bind_some, List.set_cons_zero, List.set_cons_succ, Bool.false_and, Bool.true_and, Bool.and_false, Bool.and_true, Bool.not_true, Bool.not_false, if_true, if_false, Bool.false_eq_true, decide_true, decide_false, u3, c, ↓O_ok, List.length_map, List.length_range, fin]
  exact ⟨_, _, rfl, rfl, hm5, rfl⟩

theorem law_loop (ns : List Int) (h : ns.length ≤ 63) : SO (sFor (bnd (eArgs [(eD (bnd (eArgs [(eD (Mir.ret (.int 1))), (eD (bnd (eArgs [(eD (Mir.ret (.int 6))), (eD (bnd (eArgs [(eN 0)]) (apL lenN)))]) (apL minN)))]) (apL maxN)))]) rng1) (tName 1)
  (sQ (sNew 3 (bnd (eArgs [(eN 0), (eN 1)]) (callN 2 f_law_dice [])))
  (sFor (bnd (eArgs [(eD (Mir.ret (.int 2)))]) rng1) (tName 4)
  (sIf (notM (tB (bnd (eArgs [(eN 3)]) (callM 1 f_law_right []))))
  (sRet (eD (Mir.ret (.bl false))))
  sNil))) [.va (.frl (ns.map .int)), .no, .no, .no, .no]) (fun g => ∃ s1 s3 s4, g = [.va (.frl (ns.map .int)), s1, .no, s3, s4]) (fun _ _ => False) (fun _ => False) (fun _ => False) (fun _ _ => False) := by
  simp only [↓O_ret, ↓O_bad, ↓O_bnd, ↓O_opt, ↓O_if, ↓O_ite, ↓O_eN, ↓O_e1, ↓O_e2, ↓U_ap1, ↓U_ap2, ↓U_f1, ↓U_f2, ↓U_opt, ↓O_eD, ↓O_eV, ↓O_vl, ↓O_tB, ↓O_asB, ↓O_notM, ↓O_ofB, ↓O_andM, ↓O_orM, ↓O_args0, ↓O_args1, ↓U_apL, ↓U_tup, ↓U_lst, ↓U_call, ↓U_callN, ↓U_callM, ↓U_callMN, ↓U_itM, ↓U_rev, ↓O_noex, ↓S_seq, ↓S_nil, ↓S_pass, ↓S_brk, ↓S_cnt, ↓S_bad, ↓S_nx, ↓S_rt, ↓S_asg, ↓S_if, ↓S_exp, ↓S_retN, ↓S_ret, ↓S_retW, ↓S_new, ↓S_par, ↓S_par3, ↓S_for, gt, res, resL, vls, anyO, setV, setO, setMo, Sl.mo, Mo.dat, tName, Mir.tTup, Mir.tNil, Mir.tCons, tupN, tupD, lenN, lenD, absN, absD, intN, intD, maxN, maxD, minN, minD, negD, addD, subD, ltD, leD, gtD, geD, modD, ixD, isND, notND, at0, at1, at2, eq_int, ne_int, eq_bl, isi_tup, isi_int, isi_bl, isT_tt, isT_ii, isT_ib, allN, allD, anyN, anyD, itD, lstE, ↓reduceIte, Nat.reduceLT, Nat.reduceAdd, Nat.reduceLeDiff, Nat.zero_add, List.map, List.cons_append, List.nil_append, List.replicate, List.append_nil, List.length_cons, List.length_nil, Option.map_some, Option.map_none, Option.bind_some, List.set_cons_zero, List.set_cons_succ, Bool.false_and, Bool.true_and, Bool.and_false, Bool.and_true, Bool.not_true, Bool.not_false, if_true, if_false, Bool.false_eq_true, decide_true, decide_false, ↓U_rng1, List.length_map]
  rw [if_pos (inW_iff.mpr (by split <;> split <;> omega))]
  apply S_forL (fun i g => ∃ s1 s3 s4, Fr s1 ∧ (s3 = .no ∨ ∃ m, s3 = .ow m) ∧ Fr s4 ∧ g = [.va (.frl (ns.map .int)), s1, .no, s3, s4])
  · exact ⟨_, _, _, .no, .inl rfl, .no, rfl⟩
  · rintro i d g hd ⟨s1, s3, s4, h1, h3, h4, rfl⟩
    obtain ⟨hi, rfl⟩ := rng_get hd
    have hi' : i < 6 := by
      revert hi
      split <;> split <;> omega
    obtain ⟨xs, ed, hx⟩ := s_dice ns i (by omega) (by omega)
    refine ⟨[.va (.frl (ns.map .int)), .va (.int i), .no, s3, s4], ?_, ?_⟩
    · rcases h1 with rfl | ⟨d, rfl⟩ <;> rfl
    · have lt35 : (3 < 5) = True := by decide
      refine SO_seqE (g2 := [.va (.frl (ns.map .int)), .va (.int i), .no, .ow (.ls xs), s4]) ?_ ?_
      · rcases h3 with rfl | ⟨m, rfl⟩
        · simp only [↓O_ret, ↓O_bad, ↓O_bnd, ↓O_opt, ↓O_if, ↓O_ite, ↓O_eN, ↓O_e1, ↓O_e2, ↓U_ap1, ↓U_ap2, ↓U_f1, ↓U_f2, ↓U_opt, ↓O_eD, ↓O_eV, ↓O_vl, ↓O_tB, ↓O_asB, ↓O_notM, ↓O_ofB, ↓O_andM, ↓O_orM, ↓O_args0, ↓O_args1, ↓U_apL, ↓U_tup, ↓U_lst, ↓U_call, ↓U_callN, ↓U_callM, ↓U_callMN, ↓U_itM, ↓U_rev, ↓O_noex, ↓S_seq, ↓S_nil, ↓S_pass, ↓S_brk, ↓S_cnt, ↓S_bad, ↓S_nx, ↓S_rt, ↓S_asg, ↓S_if, ↓S_exp, ↓S_retN, ↓S_ret, ↓S_retW, ↓S_new, ↓S_par, ↓S_par3, ↓S_for, gt, res, resL, vls, anyO, setV, setO, setMo, Sl.mo, Mo.dat, tName, Mir.tTup, Mir.tNil, Mir.tCons, tupN, tupD, lenN, lenD, absN, absD, intN, intD, maxN, maxD, minN, minD, negD, addD, subD, ltD, leD, gtD, geD, modD, ixD, isND, notND, at0, at1, at2, eq_int, ne_int, eq_bl, isi_tup, isi_int, isi_bl, isT_tt, isT_ii, isT_ib, allN, allD, anyN, anyD, itD, lstE, ↓reduceIte, Nat.reduceLT, Nat.reduceAdd, Nat.reduceLeDiff, Nat.zero_add, List.map, List.cons_append, List.nil_append, List.replicate, List.append_nil, List.length_cons, List.length_nil, Option.map_some, Option.map_none, Option.bind_some, List.set_cons_zero, List.set_cons_succ, Bool.false_and, Bool.true_and, Bool.and_false, Bool.and_true, Bool.not_true, Bool.not_false, if_true, if_false, Bool.false_eq_true, decide_true, decide_false, ed, lt35]
        · simp only [↓O_ret, ↓O_bad, ↓O_bnd, ↓O_opt, ↓O_if, ↓O_ite, ↓O_eN, ↓O_e1, ↓O_e2, ↓U_ap1, ↓U_ap2, ↓U_f1, ↓U_f2, ↓U_opt, ↓O_eD, ↓O_eV, ↓O_vl, ↓O_tB, ↓O_asB, ↓O_notM, ↓O_ofB, ↓O_andM, ↓O_orM, ↓O_args0, ↓O_args1, ↓U_apL, ↓U_tup, ↓U_lst, ↓U_call, ↓U_callN, ↓U_callM, ↓U_callMN, ↓U_itM, ↓U_rev, ↓O_noex, ↓S_seq, ↓S_nil, ↓S_pass, ↓S_brk, ↓S_cnt, ↓S_bad, ↓S_nx, ↓S_rt, ↓S_asg, ↓S_if, ↓S_exp, ↓S_retN, ↓S_ret, ↓S_retW, ↓S_new, ↓S_par, ↓S_par3, ↓S_for, gt, res, resL, vls, anyO, setV, setO, setMo, Sl.mo, Mo.dat, tName, Mir.tTup, Mir.tNil, Mir.tCons, tupN, tupD, lenN, lenD, absN, absD, intN, intD, maxN, maxD, minN, minD, negD, addD, subD, ltD, leD, gtD, geD, modD, ixD, isND, notND, at0, at1, at2, eq_int, ne_int, eq_bl, isi_tup, isi_int, isi_bl, isT_tt, isT_ii, isT_ib, allN, allD, anyN, anyD, itD, lstE, ↓reduceIte, Nat.reduceLT, Nat.reduceAdd, Nat.reduceLeDiff, Nat.zero_add, List.map, List.cons_append, List.nil_append, List.replicate, List.append_nil, List.length_cons, List.length_nil, Option.map_some, Option.map_none, Option.bind_some, List.set_cons_zero, List.set_cons_succ, Bool.false_and, Bool.true_and, Bool.and_false, Bool.and_true, Bool.not_true, Bool.not_false, if_true, if_false, Bool.false_eq_true, decide_true, decide_false, ed, lt35]
      · simp only [↓O_ret, ↓O_bad, ↓O_bnd, ↓O_opt, ↓O_if, ↓O_ite, ↓O_eN, ↓O_e1, ↓O_e2, ↓U_ap1, ↓U_ap2, ↓U_f1, ↓U_f2, ↓U_opt, ↓O_eD, ↓O_eV, ↓O_vl, ↓O_tB, ↓O_asB, ↓O_notM, ↓O_ofB, ↓O_andM, ↓O_orM, ↓O_args0, ↓O_args1, ↓U_apL, ↓U_tup, ↓U_lst, ↓U_call, ↓U_callN, ↓U_callM, ↓U_callMN, ↓U_itM, ↓U_rev, ↓O_noex, ↓S_seq, ↓S_nil, ↓S_pass, ↓S_brk, ↓S_cnt, ↓S_bad, ↓S_nx, ↓S_rt, ↓S_asg, ↓S_if, ↓S_exp, ↓S_retN, ↓S_ret, ↓S_retW, ↓S_new, ↓S_par, ↓S_par3, ↓S_for, gt, res, resL, vls, anyO, setV, setO, setMo, Sl.mo, Mo.dat, tName, Mir.tTup, Mir.tNil, Mir.tCons, tupN, tupD, lenN, lenD, absN, absD, intN, intD, maxN, maxD, minN, minD, negD, addD, subD, ltD, leD, gtD, geD, modD, ixD, isND, notND, at0, at1, at2, eq_int, ne_int, eq_bl, isi_tup, isi_int, isi_bl, isT_tt, isT_ii, isT_ib, allN, allD, anyN, anyD, itD, lstE, ↓reduceIte, Nat.reduceLT, Nat.reduceAdd, Nat.reduceLeDiff, Nat.zero_add, List.map, List.cons_append, List.nil_append, List.replicate, List.append_nil, List.length_cons, List.length_nil, Option.map_some, Option.map_none, Option.bind_some, List.set_cons_zero, List.set_cons_succ, Bool.false_and, Bool.true_and, Bool.and_false, Bool.and_true, Bool.not_true, Bool.not_false, if_true, if_false, Bool.false_eq_true, decide_true, decide_false, ↓U_rng1]
        rw [if_pos (inW_iff.mpr (by omega))]
        apply S_forL (fun j g => ∃ m s, Dice m ∧ Fr s ∧ g = [.va (.frl (ns.map .int)), .va (.int i), .no, .ow m, s])
        · exact ⟨_, _, hx, h4, rfl⟩
        · rintro j d g hd ⟨m, s, hm, hs, rfl⟩
          obtain ⟨hj, rfl⟩ := rng_get hd
          obtain ⟨_, m', er, hm', rfl⟩ := s_right hm
          refine ⟨[.va (.frl (ns.map .int)), .va (.int i), .no, .ow m, .va (.int j)], ?_, ?_⟩
          · rcases hs with rfl | ⟨d, rfl⟩ <;> rfl
          · simp only [↓O_ret, ↓O_bad, ↓O_bnd, ↓O_opt, ↓O_if, ↓O_ite, ↓O_eN, ↓O_e1, ↓O_e2, ↓U_ap1, ↓U_ap2, ↓U_f1, ↓U_f2, ↓U_opt, ↓O_eD, ↓O_eV, ↓O_vl, ↓O_tB, ↓O_asB, ↓O_notM, ↓O_ofB, ↓O_andM, ↓O_orM, ↓O_args0, ↓O_args1, ↓U_apL, ↓U_tup, ↓U_lst, ↓U_call, ↓U_callN, ↓U_callM, ↓U_callMN, ↓U_itM, ↓U_rev, ↓O_noex, ↓S_seq, ↓S_nil, ↓S_pass, ↓S_brk, ↓S_cnt, ↓S_bad, ↓S_nx, ↓S_rt, ↓S_asg, ↓S_if, ↓S_exp, ↓S_retN, ↓S_ret, ↓S_retW, ↓S_new, ↓S_par, ↓S_par3, ↓S_for, gt, res, resL, vls, anyO, setV, setO, setMo, Sl.mo, Mo.dat, tName, Mir.tTup, Mir.tNil, Mir.tCons, tupN, tupD, lenN, lenD, absN, absD, intN, intD, maxN, maxD, minN, minD, negD, addD, subD, ltD, leD, gtD, geD, modD, ixD, isND, notND, at0, at1, at2, eq_int, ne_int, eq_bl, isi_tup, isi_int, isi_bl, isT_tt, isT_ii, isT_ib, allN, allD, anyN, anyD, itD, lstE, ↓reduceIte, Nat.reduceLT, Nat.reduceAdd, Nat.reduceLeDiff, Nat.zero_add, List.map, List.cons_append, List.nil_append, List.replicate, List.append_nil, List.length_cons, List.length_nil, Option.map_some, Option.map_none, Option.bind_some, List.set_cons_zero, List.set_cons_succ, Bool.false_and, Bool.true_and, Bool.and_false, Bool.and_true, Bool.not_true, Bool.not_false, if_true, if_false, Bool.false_eq_true, decide_true, decide_false, er]
            exact ⟨_, _, hm', .va, rfl⟩
        · rintro g ⟨m, s, hm, hs, rfl⟩
          exact ⟨_, _, _, .va, .inr ⟨_, rfl⟩, hs, rfl⟩
  · rintro g ⟨s1, s4, s5, h1, h4, h5, rfl⟩
    exact ⟨_, _, _, rfl⟩
def kS : List D := [tabD [], tabD [[0], [0]], tabD [], .int 144]
theorem law_true (ns : List Int) (h : ns.length ≤ 63) : f_law [.frl (ns.map .int)] = .ok (.bl true) := by
  refine f_of ?_
  unfold b_law
  simp only [List.map_nil, List.map_cons, List.nil_append, List.cons_append, List.replicate]
  refine SO_seq (fun g => ∃ s1 s3 s4, g = [.va (.frl (ns.map .int)), s1, .no, s3, s4]) ?_ ?_
  · exact (law_loop ns h).mono (fun _ h => h) (fun _ _ h => h.elim) (fun _ h => h) (fun _ h => h) (fun _ _ h => h)
  rintro _ ⟨s1, s3, s4, rfl⟩
  have u0 : f_unit [.int 0] = .ok (.tup []) := (s_unit 0 (by omega)).trans rfl
  have u1 : f_unit [.int 144] = .ok (tabD (unitTab 144)) := s_unit 144 (by omega)
  have t1 : f_table_times [.int 2, .int 0, .int 1, .tup [.tup [], .tup []], .tup []] = .ok (.tup [.tup [.tup [.int 0, .int 1]], .tup [.tup [.int 0, .int 1]]]) := (s_table_times 2 0 1 (fun _ _ => 0) (fun _ _ => 0) (k := 1) (fun _ _ j hj => by omega) (fun i hi => by omega) (by omega) (by omega) (by omega) (by omega) (by omega)).trans rfl
  have t2 : f_table_times [.int 0, .int 3, .int 2, .tup [], .tup [.tup [.tup [.int 1, .int 1], .tup [.int 0, .int 1]], .tup [.tup [.int 1, .int 1], .tup [.int 0, .int 1]], .tup [.tup [.int 1, .int 1], .tup [.int 0, .int 1]]]] = .ok (.tup []) := (s_table_times 0 3 2 (fun _ _ => 0) (fun _ j => if j = 0 then 1 else 0) (k := 1) (fun _ hi => by omega) (fun i hi j hj => by split <;> exact ⟨by decide, by decide⟩) (by omega) (by omega) (by omega) (by omega) (by omega)).trans rfl
  have m3 : mulD (.tup [.tup [.tup [.int 1, .int 1], .tup [.int 0, .int 1]]]) (.int 3) = some (.tup [.tup [.tup [.int 1, .int 1], .tup [.int 0, .int 1]], .tup [.tup [.int 1, .int 1], .tup [.int 0, .int 1]], .tup [.tup [.int 1, .int 1], .tup [.int 0, .int 1]]]) := by rfl
  have lt25 : (2 < 5) = True := by decide
  refine SO_seqE (g2 := [.va (.frl (ns.map .int)), s1, .ow (.ls [.tup [], .tup [.tup [.tup [.int 0, .int 1]], .tup [.tup [.int 0, .int 1]]], .tup []]), s3, s4]) ?_ ?_
  · simp only [↓O_ret, ↓O_bad, ↓O_bnd, ↓O_opt, ↓O_if, ↓O_ite, ↓O_eN, ↓O_e1, ↓O_e2, ↓U_ap1, ↓U_ap2, ↓U_f1, ↓U_f2, ↓U_opt, ↓O_eD, ↓O_eV, ↓O_vl, ↓O_tB, ↓O_asB, ↓O_notM, ↓O_ofB, ↓O_andM, ↓O_orM, ↓O_args0, ↓O_args1, ↓U_apL, ↓U_tup, ↓U_lst, ↓U_call, ↓U_callN, ↓U_callM, ↓U_callMN, ↓U_itM, ↓U_rev, ↓O_noex, ↓S_seq, ↓S_nil, ↓S_pass, ↓S_brk, ↓S_cnt, ↓S_bad, ↓S_nx, ↓S_rt, ↓S_asg, ↓S_if, ↓S_exp, ↓S_retN, ↓S_ret, ↓S_retW, ↓S_new, ↓S_par, ↓S_par3, ↓S_for, gt, res, resL, vls, anyO, setV, setO, setMo, Sl.mo, Mo.dat, tName, Mir.tTup, Mir.tNil, Mir.tCons, tupN, tupD, lenN, lenD, absN, absD, intN, intD, maxN, maxD, minN, minD, negD, addD, subD, ltD, leD, gtD, geD, modD, ixD, isND, notND, at0, at1, at2, eq_int, ne_int, eq_bl, isi_tup, isi_int, isi_bl, isT_tt, isT_ii, isT_ib, allN, allD, anyN, anyD, itD, lstE, ↓reduceIte, Nat.reduceLT, Nat.reduceAdd, Nat.reduceLeDiff, Nat.zero_add, List.map, List.cons_append, List.nil_append, List.replicate, List.append_nil, List.length_cons, List.length_nil, Option.map_some, Option.map_none, Option.bind_some, List.set_cons_zero, List.set_cons_succ, Bool.false_and, Bool.true_and, Bool.and_false, Bool.and_true, Bool.not_true, Bool.not_false, if_true, if_false, Bool.false_eq_true, decide_true, decide_false, u0, t1, t2, m3, lt25]
  refine SO_seqE (g2 := [.va (.frl (ns.map .int)), s1, .ow (.ls [.tup [], .tup [.tup [.tup [.int 0, .int 1]], .tup [.tup [.int 0, .int 1]]], .tup [], .int 144]), s3, s4]) ?_ ?_
  · have l : lenD (tabD (unitTab 144)) = some (.int 144) := by
      show some (D.int (((unitTab 144).map rowD).length : Nat)) = _
      rw [List.length_map, unitTab_eq, mkT_shape.1]; rfl
    have l' : ((unitTab 144).map rowD).length = 144 := by rw [List.length_map, unitTab_eq, mkT_shape.1]
    simp only [↓S_app, ↓O_ret, ↓O_bad, ↓O_bnd, ↓O_opt, ↓O_if, ↓O_ite, ↓O_eN, ↓O_e1, ↓O_e2, ↓U_ap1, ↓U_ap2, ↓U_f1, ↓U_f2, ↓U_opt, ↓O_eD, ↓O_eV, ↓O_vl, ↓O_tB, ↓O_asB, ↓O_notM, ↓O_ofB, ↓O_andM, ↓O_orM, ↓O_args0, ↓O_args1, ↓U_apL, ↓U_tup, ↓U_lst, ↓U_call, ↓U_callN, ↓U_callM, ↓U_callMN, ↓U_itM, ↓U_rev, ↓O_noex, ↓S_seq, ↓S_nil, ↓S_pass, ↓S_brk, ↓S_cnt, ↓S_bad, ↓S_nx, ↓S_rt, ↓S_asg, ↓S_if, ↓S_exp, ↓S_retN, ↓S_ret, ↓S_retW, ↓S_new, ↓S_par, ↓S_par3, ↓S_for, gt, res, resL, vls, anyO, setV, setO, setMo, Sl.mo, Mo.dat, tName, Mir.tTup, Mir.tNil, Mir.tCons, tupN, tupD, lenN, lenD, absN, absD, intN, intD, maxN, maxD, minN, minD, negD, addD, subD, ltD, leD, gtD, geD, modD, ixD, isND, notND, at0, at1, at2, eq_int, ne_int, eq_bl, isi_tup, isi_int, isi_bl, isT_tt, isT_ii, isT_ib, allN, allD, anyN, anyD, itD, lstE, ↓reduceIte, Nat.reduceLT, Nat.reduceAdd, Nat.reduceLeDiff, Nat.zero_add, List.map, List.cons_append, List.nil_append, List.replicate, List.append_nil, List.length_cons, List.length_nil, Option.map_some, Option.map_none, Option.bind_some, List.set_cons_zero, List.set_cons_succ, Bool.false_and, Bool.true_and, Bool.and_false, Bool.and_true, Bool.not_true, Bool.not_false, if_true, if_false, Bool.false_eq_true, decide_true, decide_false, u1, tabD_eq (unitTab 144), l']
    rfl
  have n : Nice (.lst [.tup [], .tup [.tup [.tup [.int 0, .int 1]], .tup [.tup [.int 0, .int 1]]], .tup [], .int 144]) (.list [.tuple [], .tuple [.tuple [numP 0], .tuple [numP 0]], .tuple [], .int 144]) 5 50000 := by
    have nil : Nice (.tup []) (.tuple []) 3 5000 := (Nice.tup (inj := numD) (p := numP) (dep := 1) (wt := 402) (xs := []) (fun _ h => nomatch h)).mono (by omega) (by simp)
    have tab : Nice (tabD [[0], [0]]) (.tuple [.tuple [numP 0], .tuple [numP 0]]) 3 5000 := (Nice.tup (inj := rowD) (p := fun r => .tuple (r.map numP)) (dep := 2) (wt := 403) (xs := [[0], [0]]) fun r hr => by
        have : r = [0] := by simpa using hr
        subst this
        exact (Nice.tup (inj := numD) (p := numP) (dep := 1) (wt := 402) (xs := [0]) fun x hx => by
          have : x = 0 := by simpa using hx
          subst this
          exact Nice.num (Sz.zero.mono (by omega))).mono (by omega) (by simp)).mono (by omega) (by simp)
    exact (Nice.lst (inj := Prod.fst) (p := Prod.snd) (dep := 3) (wt := 5000) (xs := [((.tup [] : D), (.tuple [] : PyData)), (.tup [.tup [.tup [.int 0, .int 1]], .tup [.tup [.int 0, .int 1]]], .tuple [.tuple [numP 0], .tuple [numP 0]]), (.tup [], .tuple []), (.int 144, .int 144)]) (fun x hx => by
      simp only [List.mem_cons, List.not_mem_nil, or_false] at hx
      rcases hx with rfl | rfl | rfl | rfl
      · exact nil
      · exact tab
      · exact nil
      · exact (Nice.int (by decide)).mono (by omega) (by omega))).mono (by omega) (by simp)
  obtain ⟨st, es, _, n1⟩ := n.rep (by omega) (by omega)
  simp only [↓O_ret, ↓O_bad, ↓O_bnd, ↓O_opt, ↓O_if, ↓O_ite, ↓O_eN, ↓O_e1, ↓O_e2, ↓U_ap1, ↓U_ap2, ↓U_f1, ↓U_f2, ↓U_opt, ↓O_eD, ↓O_eV, ↓O_vl, ↓O_tB, ↓O_asB, ↓O_notM, ↓O_ofB, ↓O_andM, ↓O_orM, ↓O_args0, ↓O_args1, ↓U_apL, ↓U_tup, ↓U_lst, ↓U_call, ↓U_callN, ↓U_callM, ↓U_callMN, ↓U_itM, ↓U_rev, ↓O_noex, ↓S_seq, ↓S_nil, ↓S_pass, ↓S_brk, ↓S_cnt, ↓S_bad, ↓S_nx, ↓S_rt, ↓S_asg, ↓S_if, ↓S_exp, ↓S_retN, ↓S_ret, ↓S_retW, ↓S_new, ↓S_par, ↓S_par3, ↓S_for, gt, res, resL, vls, anyO, setV, setO, setMo, Sl.mo, Mo.dat, tName, Mir.tTup, Mir.tNil, Mir.tCons, tupN, tupD, lenN, lenD, absN, absD, intN, intD, maxN, maxD, minN, minD, negD, addD, subD, ltD, leD, gtD, geD, modD, ixD, isND, notND, at0, at1, at2, eq_int, ne_int, eq_bl, isi_tup, isi_int, isi_bl, isT_tt, isT_ii, isT_ib, allN, allD, anyN, anyD, itD, lstE, ↓reduceIte, Nat.reduceLT, Nat.reduceAdd, Nat.reduceLeDiff, Nat.zero_add, List.map, List.cons_append, List.nil_append, List.replicate, List.append_nil, List.length_cons, List.length_nil, Option.map_some, Option.map_none, Option.bind_some, List.set_cons_zero, List.set_cons_succ, Bool.false_and, Bool.true_and, Bool.and_false, Bool.and_true, Bool.not_true, Bool.not_false, if_true, if_false, Bool.false_eq_true, decide_true, decide_false, es, n1]

end MLaw
open PySem PySem.W PySem.Calls PyProof.Rows
set_option maxRecDepth 100000 in
theorem PySem.Challenge.cw_keepersapart_k24_whole_tables_led_one_be_holds : PySem.Challenge.rw_keepersapart_k24_whole_tables_led_one_be.Holds := by
  w_on; o_law
  refine HandSHeadRun.head_any (r := OpenLaw.row PySem.Challenge.rw_keepersapart_k24_whole_tables_led_one_be) (q := view (OpenLaw.row PySem.Challenge.rw_keepersapart_k24_whole_tables_led_one_be).prog [52]) (H := MLaw.hk) (ob := MLaw.ob) (M := 6000) (loose := MLaw.loose) (d := HandSHeadRun.topDef (OpenLaw.row PySem.Challenge.rw_keepersapart_k24_whole_tables_led_one_be).prog 52) (kwd := []) MLaw.ob_eq
    (by kernel_rfl) (fun s => by kernel_rfl) MLaw.run (by kernel_rfl) (by kernel_rfl) (by kernel_rfl) (by rfl) (by first | assumption | decide +kernel) (by decide +kernel) ⟨rfl, rfl, rfl, rfl, rfl, by decide +kernel⟩ ?hw ?hc
  case hw => w_witness2
  case hc =>
    refine Mir.walkG (l := PySem.Challenge.rw_keepersapart_k24_whole_tables_led_one_be) (n := 63) (k := 10) (x := "script") (CX := L2.CX0) rfl (by decide) (by kernel_rfl) ⟨rfl, by decide, by decide⟩ ?F (fun _ _ _ _ z => z)
    intro w mg fa h Y G hmg0
    obtain ⟨K, KX, c⟩ := Y
    have hmg : mg ("law" : PySem.Str) = some (.ref fa) := by
      have e : (HandSHeadRun.topDef (OpenLaw.row PySem.Challenge.rw_keepersapart_k24_whole_tables_led_one_be).prog 52).name = ("law" : PySem.Str) := by kernel_rfl
      rw [← e]
      exact hmg0
    obtain ⟨fd, hb, hF⟩ := MLaw.facts (P := (PySem.Challenge.rw_keepersapart_k24_whole_tables_led_one_be).prog) (w := w) ⟨c.t.d, ⟨h, KX, G⟩, c.more⟩ hmg
    exact ⟨K, fd, (fun vs H Q _ => Mir.spD K 1 MLaw.f_law vs H Q (fun _ _ _ => False)), KX, hb, fun H a ns hl o hS => Mir.law_sp (MLaw.law_true ns hl) hS o, fun base _ _ => hF base⟩

