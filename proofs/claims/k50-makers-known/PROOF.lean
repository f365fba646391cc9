import PyProof.Rows.All
import Wide.All
import OpenK.AllK
import Wide.FinOn
import HandS.ForMost
import HandS.Walk
import HandS.Flow
import HandS.IsInst
import HandS.Defaults
import HandS.Exc
import HandS.HeadEnd
import KE.KDictKeyed
import KE.KeyNested
import HandS.TupAny
import PyProof.StrOps2
import HandS.TupMul
import HandS.Style
import HandS.Deep
import HandS.More
import HandS.Replace
import HandS.StrMore
import HandS.Zip
import PyProof.ListStr
import PyProof.ReprRoads
import PyProof.Rows.StrLawsPart
import HandS.Steps
import HandS.HeadHook2
import KE.GoesZip
import KE.GoesMore
import KE.GoesEnumKw
import HandS.SortKw
import KE.GoesEnum
import KE.KRevSl
import PyProof.Rows.StrRev
import KE.KStateDown
import Lean
import HandS.Head0
import HandS.Head1
import HandS.Head2
import HandS.HeadHook1
import PyProof.StrWalks
import PyProof.Rows.SetFrom
import PyProof.Rows.SortShellAny
import PyProof.FactsAll.subtypes_3
import HandS.Set
import HandS.SetFor
import KE.SortData
import HandS.Dict
import HandS.Small
import KE.KDictDisplayH
import PyProof.CollectStr
import HandS.TupLen
import KE.DataCmp
import PySem.Challenge.RW_foeholes_k50_makers_known
set_option Elab.async false
set_option linter.all false
set_option maxRecDepth 100000
set_option maxHeartbeats 4000000
/-! Core0: promises of defs that run where no repr is under way (A.guards = some []): what repr's rules want. -/
namespace Fo
open PySem PySem.Spec PyProof.Rows L2
structure FnG (P : Program) (w : World) (K : PySem.W.Frag) (mg : Str → Option Value) (base : Heap) (CX : CXT) (k : Nat) (f : Addr) (fd : FuncData) (ps : List Str) (sp : Sp) : Prop where
  len : ∀ vs H Q E, sp vs H Q E → vs.length = ps.length
  go : ∀ (A : Around) (outer : List Env) (s : Shared) (H : Hp) (args : Args) (us : List Value) (vs : List V) (Q : VK) (E : XK), Room k A → A.guards = some [] → Env0 P w K mg base A outer s H → BindsTo s fd args (ps.zip us) → Vals vs us → sp vs H Q E →
    codeAny (model P w) A (.call (.ref f) args) (CR CX outer P w H s Q E) s
theorem FnG.mono {P : Program} {w : World} {K : PySem.W.Frag} {mg : Str → Option Value} {base : Heap} {CX : CXT} {j k : Nat} {f : Addr} {fd : FuncData} {ps : List Str} {sp : Sp} (F : FnG P w K mg base CX j f fd ps sp) (h : j ≤ k) : FnG P w K mg base CX k f fd ps sp :=
  ⟨F.len, fun A o s H as us vs Q E r => F.go A o s H as us vs Q E (r.mono h)⟩
theorem FnG.imp {P : Program} {w : World} {K : PySem.W.Frag} {mg : Str → Option Value} {base : Heap} {CX : CXT} {k : Nat} {f : Addr} {fd : FuncData} {ps : List Str} {sp sp' : Sp} (F : FnG P w K mg base CX k f fd ps sp) (h : ∀ vs H Q E, sp' vs H Q E → sp vs H Q E) : FnG P w K mg base CX k f fd ps sp' :=
  ⟨fun vs H Q E q => F.len vs H Q E (h _ _ _ _ q), fun A o s H as us vs Q E r g e b v q => F.go A o s H as us vs Q E r g e b v (h _ _ _ _ q)⟩
/-- what stands where a def ends -/
theorem end_of {CX : CXT} {P : Program} {w : World} {K : PySem.W.Frag} {mg : Str → Option Value} {base : Heap} {N : List Str} {qual : Str} {scope : Scope} {f : Addr} {cd : Value} {A : Around} {outer : List Env} {s s' : Shared} {H : Hp} {E : XK} {Q : VK} {fl : Flow}
    (h : SP (cxOf CX P w K mg base N qual scope f cd A outer s H E) [] { nx := fun _ H' => Q .non H', rt := Q } fl s') : (fl = .next ∧ CE outer P w H s Q .none s') ∨ ∃ u, fl = .ret u ∧ CE outer P w H s Q u s' := by
  cases fl with
  | brk => obtain ⟨_, _, _, no⟩ := h; exact no.elim
  | cont => obtain ⟨_, _, _, no⟩ := h; exact no.elim
  | next =>
    obtain ⟨_, H2, J, q⟩ := h
    exact .inl ⟨rfl, .non, H2, J.os, J.bare, J.base, J.hok, rfl, q⟩
  | ret u =>
    obtain ⟨v, _, H2, J, rv, q⟩ := h
    exact .inr ⟨u, rfl, v, H2, J.os, J.bare, J.base, J.hok, rv, q⟩
theorem fnG_of {CX : CXT} {P : Program} {w : World} {K : PySem.W.Frag} {mg : Str → Option Value} {base : Heap} {x qual : Str} {params : Arguments} {bd : List Stmt} {scope : Scope} {dvs : List V} {kws : List (Str × V)} {f : Addr} {fd : FuncData} {N ps : List Str} {k : Nat} {sp : Sp}
    (F : FunD K x qual params bd scope dvs kws f fd) (S : FnScope N ps scope) (len : ∀ vs H Q E, sp vs H Q E → vs.length = ps.length)
    (body : ∀ (cdv : Value) (A : Around) (outer : List Env) (s : Shared) (H : Hp) (vs : List V) (Q : VK) (E : XK), Room k (A.deeper (envOfC qual scope s.heap.objs.size f cdv)) → A.guards = some [] → sp vs H Q E →
      ∃ t, PSs (cxOf CX P w K mg base N qual scope f cdv A outer s H E) bd t ∧ t { nx := fun _ H' => Q .non H', rt := Q } (L2.start N vs) H) : FnG P w K mg base CX (k + 1) f fd ps sp := by
  obtain ⟨_, _, dV, kV, doc, pm, an, cdv, ct, _, hfd, lk, hcd, _, _⟩ := F.ex
  subst hfd
  refine ⟨len, fun A outer s H args us vs Q E room hgd e0 hbind rel hsp => ?_⟩
  have stood : ∀ b o, base.get? b = some o → s.heap.get? b = some o := fun b o e => (e0.bs b o e).1
  have KX : K.In s.heap := e0.mod.kin.keeps stood
  refine codeAny_call_function room.depth (KX _ _ lk) rfl S.co S.gen rfl (PySem.W.codeRec_of KX hcd) (hbind _ _ _ _ (wpAny_newFunctionEnv_cells S.kind (fun y hy => ?_) fun env eenv s1 made => ?_))
  · obtain ⟨hy1, _⟩ := List.of_mem_zip (a := y.1) (b := y.2) hy
    exact (S.par y.1 hy1).imp id fun c => ⟨c, PySem.W.cellsFrom_some _ _ _ (.inl c)⟩
  · subst eenv
    obtain ⟨t, ht, q⟩ := body cdv A outer s H vs Q E (room.deeper _) hgd hsp
    refine ⟨(e0.mod.nolimit.keeps stood).keeps made.toInCall.keep, codeAny_func (wpAny_mono (ht.run [] s1 _ H _ (inv_start S room.hd e0 (len _ _ _ _ hsp) rel made) q) (fun fl s' hs => ?_) fun e s' hs => hs)⟩
    rcases end_of hs with ⟨rfl, z⟩ | ⟨u, rfl, z⟩
    · exact z
    · exact z
section
variable {X : Cx} {CX : CXT} {k n : Nat} {f : Addr} {fd : FuncData} {ps ks : List Str} {sp : Sp} {dvs : List V} {ds : List Value} {E : XK} {x : Str} {p pos : Pos} {e : Expr} {es : List Expr} {t tk : TA} {kws : List Keyword} {g : List Value → List Value → List Value} {gV : List V → List V → List V}
theorem back_of {pins : List (Addr × Obj)} {σ : L2.St} {H : Hp} {s s' : Shared} {Q : VK} {r : Result} (hx : Passes CX X E) (I : Inv X pins σ H s) (h : CR CX X.stack X.prog X.w H s Q E r s') :
    (∃ e, r = .error e ∧ X.xe e s') ∨ ∃ u, r = .ok (.ret u) ∧ EP X pins σ Q u s' := by
  cases r with
  | error e => exact .inl ⟨e, rfl, hx pins σ H s e s' I h⟩
  | ok fl =>
    cases fl with
    | ret u => exact .inr ⟨u, rfl, I.after h⟩
    | next => exact h.elim
    | brk => exact h.elim
    | cont => exact h.elim
theorem go_call {pins : List (Addr × Obj)} {σ : L2.St} {H : Hp} {s : Shared} {Q : VK} {args : Args} {us : List Value} {vs : List V} {k2 : List (Str × Value)} {u2 : List Value} (hargs : args = ⟨u2, k2⟩) (F : FnG X.prog X.w X.K X.mg X.base CX k f fd ps sp) (hr : Room k X.A) (hgd : X.A.guards = some []) (hx : Passes CX X E)
    (I : Inv X pins σ H s) (hb : BindsTo s fd args (ps.zip us)) (r : Vals vs us) (h : sp vs H Q E) : wpAny (model X.prog X.w) X.A (call (.ref f) u2 k2) (EP X pins σ Q) X.xe s := by
  subst hargs
  refine wpAny_call (codeAny_mono (F.go X.A X.stack s H _ us vs Q E hr hgd I.env0 hb r h) fun r s' hq => ?_)
  rcases back_of hx I hq with ⟨e, rfl, z⟩ | ⟨u, rfl, z⟩
  · exact z
  · exact z
theorem pe_callG (F : FnG X.prog X.w X.K X.mg X.base CX k f fd ps sp) (hr : Room k X.A) (hgd : X.A.guards = some []) (hg : Gl X x) (hm : X.mg x = some (.ref f)) (hk : PySem.W.keepIn X.K (.ref f) = true) (hb : Binds X.K fd ps ds) (hd : Vals dvs ds) (hx : Passes CX X E)
    (ha : PA X (e :: es) t) (hdb : (x == ("__debug__" : Str)) = false := by decide) (he : starEach (e :: es) X.env = (false, eval e X.env) :: starEach es X.env := by rfl) (hpl : (backTo pos (starEach es X.env)).any (·.1) = false := by rfl) :
    PE X (.Call (.Name x p) (e :: es) [] pos) (tCall sp dvs E t) := by
  refine ⟨fun pins s σ H Q I h => wpAny_Call_Name_kw (ld_glob I hg hm (PySem.W.callWith_K (h₀ := X.base) I.ok.mod.kin hk (thn (ha.run pos pins s σ H _ I h) fun us s1 h1 => ?_) he hpl) hdb)⟩
  obtain ⟨vs, H1, I1, rel, q⟩ := h1
  have rel2 : Vals (vs ++ dvs) (us ++ ds) := rel.append hd
  exact ⟨I1.kIn, go_call rfl F hr hgd hx I1 (hb s1 us I1.kIn (rel2.length.symm.trans (F.len _ _ _ _ q))) rel2 q⟩
end
/-! ### the law's call -/
/-- what stands where the modules' own dict is: it is no list -/
def SysH (H : Hp) : Prop := ∃ o, H sysModules = some (.frz o (.own 0))
def scriptHp (K : PySem.W.Frag) (so : Obj) (a : Addr) (vs : List Value) (ns : List Int) : Hp := fun b => if b = a ∧ K.lookup a = none then some (.frz { cls := .type "list", data := .seq vs.toArray } (.lst (ns.map V.int))) else if b = sysModules then some (.frz so (.own 0)) else none
theorem law_callG {P : Program} {w : World} {K : PySem.W.Frag} {mg mb : Str → Option Value} {CX : CXT} {k : Nat} {fa a : Addr} {fd : FuncData} {x : Str} {sp : Sp} {s1 : Shared} {vs : List Value} {ns : List Int} {so : Obj}
    (KX : K.In s1.heap) (hns : s1.heap.Ns mainGlobals mg) (hb : s1.heap.Ns builtinsNs mb) (hbb : ∀ x : Str, x ≠ "__name__" → mb x = bootBuiltins x) (hlim : s1.heap.NoLimit) (hg : s1.gens = #[])
    (ho : s1.heap.get? sysModules = some so) (hod : ∀ z n, so.data ≠ .seq z n) (hK : K.lookup sysModules = none)
    (ha : s1.heap.get? a = some { cls := .type "list", data := .seq vs.toArray }) (hi : IntsAre vs ns) (hl : ns.length ≤ sizeLine) (hr : Room k callerA)
    (F : ∀ base : Heap, K.In base → base.Ns mainGlobals mg → FnG P w K mg base CX k fa fd [x] sp) (hbind : ∀ (s : Shared) (u : Value), BindsTo s fd ⟨[u], []⟩ [(x, u)])
    (hsp : ∀ H : Hp, SysH H → SqL K H a (ns.map V.int) → sp [.ref a] H (fun v _ => v = .bl true) fun _ _ _ => False)
    (hCX : ∀ H e s', CX [] H s1 (fun _ _ _ => False) e s' → False) :
    codeAny (model P w) callerA (.call (.ref fa) ⟨[.ref a], []⟩) (fun r s' => r = .ok (.ret (.bool true)) ∧ OldK s1.heap s'.heap ∧ s'.os = s1.os ∧ AllBare s'.gens) s1 := by
  have rel : Vals (ns.map V.int) vs := vals_ints hi
  have lv : vs.length = ns.length := by have := rel.length; rw [List.length_map] at this; exact this.symm
  have nas : sysModules ≠ a := fun z => by
    rw [z, ha] at ho
    cases ho
    exact hod _ _ rfl
  let H : Hp := scriptHp K so a vs ns
  have Hcase : ∀ b o, H b = some o → (b = a ∧ K.lookup a = none ∧ o = .frz { cls := .type "list", data := .seq vs.toArray } (.lst (ns.map V.int))) ∨ (b = sysModules ∧ o = .frz so (.own 0)) := fun b o e => by
    have e' : (if b = a ∧ K.lookup a = none then some (HO.frz { cls := .type "list", data := .seq vs.toArray } (.lst (ns.map V.int))) else if b = sysModules then some (.frz so (.own 0)) else none) = some o := e
    by_cases c : b = a ∧ K.lookup a = none
    · rw [if_pos c] at e'
      exact .inl ⟨c.1, c.2, (Option.some.inj e').symm⟩
    · rw [if_neg c] at e'
      by_cases c2 : b = sysModules
      · rw [if_pos c2] at e'
        exact .inr ⟨c2, (Option.some.inj e').symm⟩
      · rw [if_neg c2] at e'
        cases e'
  have Hsys : SysH H := by
    refine ⟨so, ?_⟩
    show (if sysModules = a ∧ K.lookup a = none then _ else if sysModules = sysModules then some (HO.frz so (.own 0)) else none) = _
    rw [if_neg (fun z => nas z.1), if_pos rfl]
  have hok : HOk P w H s1.heap := fun b o e => by
    rcases Hcase b o e with ⟨rfl, _, rfl⟩ | ⟨rfl, rfl⟩
    · exact ⟨ha, by rw [List.length_map]; exact hl, vs, _, rel, ha⟩
    · exact ⟨ho, so, ho⟩
  have hS : SqL K H a (ns.map V.int) := by
    cases q : K.lookup a with
    | none => exact .inl (.inr ⟨_, if_pos ⟨rfl, q⟩⟩)
    | some o =>
      have e := KX a o q
      rw [ha] at e
      cases e
      exact .inr ⟨_, vs.toArray, _, q, rfl, rfl, rfl, by rw [List.size_toArray, lv]; exact hl, rel⟩
  -- what is no list stands outside of what is tracked
  have out : ∀ {b : Addr} {o : Obj}, s1.heap.get? b = some o → (∀ z n, o.data ≠ .seq z n) → b ≠ sysModules → H b = none := fun {b o} e nd ns2 => by
    cases q : H b with
    | none => rfl
    | some u =>
      rcases Hcase b u q with ⟨rfl, _, _⟩ | ⟨rfl, _⟩
      · rw [ha] at e
        cases e
        exact (nd _ _ rfl).elim
      · exact (ns2 rfl).elim
  have ns_hid : ∀ {b : Addr} {m : Str → Option Value}, b ≠ sysModules → s1.heap.Ns b m → (hidT s1.heap H).Ns b m := fun {b m} nb h => by
    obtain ⟨o, es, ep, e, d, r⟩ := h
    exact ⟨o, es, ep, hidT_get e (out e (fun z n y => by rw [d] at y; cases y) nb), d, r⟩
  have K_hid : K.In (hidT s1.heap H) := fun b o e => hidT_get (KX b o e) (by
    cases q : H b with
    | none => rfl
    | some u =>
      rcases Hcase b u q with ⟨rfl, no, _⟩ | ⟨rfl, _⟩
      · rw [no] at e; cases e
      · rw [hK] at e; cases e)
  have lim : (hidT s1.heap H).NoLimit := by
    obtain ⟨mc, n1, n2⟩ := hlim
    exact ⟨mc, ns_hid (by decide) n1, n2⟩
  have e0 : Env0 P w K mg (hidT s1.heap H) callerA [] s1 H :=
    { frames := rfl, mod := ⟨K_hid, ns_hid (by decide) hns, ⟨mb, ns_hid (by decide) hb, hbb⟩, lim⟩, bs := fun b o e => of_hidT e, bsz := Nat.le_of_eq (hidT_size _ _), funs := trivial, frf := fun b z => (nomatch z), hok := hok, bare := .of_eq hg }
  refine codeAny_mono ((F _ K_hid (ns_hid (by decide) hns)).go callerA [] s1 H ⟨[.ref a], []⟩ [.ref a] [.ref a] _ _ hr rfl e0 (hbind s1 (.ref a)) (.cons rfl .nil) (hsp H Hsys hS)) fun r s' h => ?_
  cases r with
  | error e => exact (hCX H e s' h).elim
  | ok fl =>
    cases fl with
    | next => exact h.elim
    | brk => exact h.elim
    | cont => exact h.elim
    | ret u =>
      obtain ⟨v, H', os, bare, un, hok', rv, q⟩ := h
      obtain rfl : v = .bl true := q
      obtain rfl : u = Value.bool true := rv
      refine ⟨rfl, OldK.of_keep fun b o e => ?_, os, bare⟩
      cases q : H b with
      | none => exact un.keep b o e q (fun z => (nomatch z)) fun z => (nomatch z)
      | some y =>
        rcases Hcase b y q with ⟨_, _, rfl⟩ | ⟨_, rfl⟩
        · have was := (hok b _ q).1
          rw [e] at was
          cases was
          exact (hok' b _ (un.frzs b _ _ q)).1
        · have was := (hok b _ q).1
          rw [e] at was
          cases was
          exact (hok' b _ (un.frzs b _ _ q)).1
/-- what is told of the heap, with the modules' own dict -/
def SysOk (K : PySem.W.Frag) (h : Heap) : Prop := K.lookup sysModules = none ∧ ∃ o, h.get? sysModules = some o ∧ ∀ z n, o.data ≠ .seq z n
theorem walkG {l : PySem.W.OpenLaw} {n k : Nat} {q : Program} {loose : List Str} {XP : (Str → Option Value) → Heap → Prop} {YP : World → Heap → Prop} {d : DefRec} {CX : CXT} {x : Str}
    (hn : l.most = some n) (hn2 : n ≤ sizeLine) (hdf : d.params.defaults = []) (hr : Room k callerA)
    (F : ∀ (w : World) (mg : Str → Option Value) (fa : Addr) (h : Heap), YP w h → h.Ns mainGlobals mg → mg d.name = some (.ref fa) →
      ∃ (K : PySem.W.Frag) (fd : FuncData) (sp : Sp), K.In h ∧ SysOk K h ∧ (∀ (s : Shared) (u : Value), BindsTo s fd ⟨[u], []⟩ [(x, u)]) ∧
        (∀ (H : Hp) (a : Addr) (ns : List Int), ns.length ≤ n → SysH H → SqL K H a (ns.map V.int) → sp [.ref a] H (fun v _ => v = .bl true) fun _ _ _ => False) ∧
        ∀ base : Heap, K.In base → base.Ns mainGlobals mg → FnG l.prog w K mg base CX k fa fd [x] sp)
    (hCX : ∀ (H : Hp) (s : Shared) (e : Value) (s' : Shared), CX [] H s (fun _ _ _ => False) e s' → False) :
    PySem.W.WalkO q loose XP YP l.row.toRowW d [] (fun f vs => PySem.call f vs) := by
  refine Att.attach_call hn hdf fun w s0 s1 mg mb fa o pm cd doc a vs ns G Y ho hd hcd hmg hobj hints hlen hg => ?_
  obtain ⟨K, fd, sp, KX, ⟨so1, so, so2, so3⟩, hb, hsp, hF⟩ := F w mg fa _ Y G.T.g hmg
  exact law_callG KX G.T.g G.T.b G.T.builtins G.T.nolimit hg so2 so3 so1 hobj hints (Nat.le_trans hlen hn2) hr hF hb (fun H h1 hS => hsp H a ns hlen h1 hS) fun H e s' => hCX H s1 e s'
end Fo
/-! Core1: the clean domain, what it says of the abstract heap, and how it stays. -/
namespace Fo
open PySem PySem.Spec PyProof.Rows L2
/-- the part of the heap that stays, and the world -/
structure Kw where
  K : PySem.W.Frag
  w : World
  mg : Str → Option Value
instance : Coe Kw PySem.W.Frag := ⟨Kw.K⟩
abbrev _root_.L2.Cx.kw (X : Cx) : Kw := ⟨X.K, X.w, X.mg⟩
/-- data that nobody changes -/
inductive D where
  | non | bl (b : Bool) | int (i : Int) | str (l : List Nat) | tup (l : List D) | lst (l : List D) | dct (ks ws : List D) | scr (l : List Int)
/-- a slot's worth: data, an owned cell, a list of owned cells, an instance of a class by its attributes' names and worths, a def -/
inductive W where
  | val (d : D) | ref (n : Nat) | lws (ns : List Nat) | ins (x : Str) (ns : List Str) (fs : List W) | fn (x : Str)
/-- an owned cell -/
inductive Ob where
  | dead | lst (l : List D) | dic (ks ws : List D)
variable {K : Kw}
abbrev Rho := List (Option W)
abbrev Sto := List Ob
def tx (l : List Nat) : Str := ⟨l.toArray⟩
def keyD : Key → D
  | .inl i => .int i
  | .inr x => .str x.cps.toList
mutual
/-- a key as the library names it -/
def nk : D → NestedKey
  | .int i => .num i
  | .bl b => .num (if b then 1 else 0)
  | .str l => .text (tx l)
  | .tup l => .tup (nks l)
  | _ => .none
def nks : List D → List NestedKey
  | [] => []
  | d :: ds => nk d :: nks ds
end
/-- an entry whose key is a tuple -/
def nent (w : World) (x : NestedKey × Addr × Value) : DictEntry := ⟨x.1.hash w, .ref x.2.1, x.2.2⟩
def PdE (y : NestedKey × Addr × V) (x : NestedKey × Addr × Value) : Prop := y.1 = x.1 ∧ y.2.1 = x.2.1 ∧ RelV y.2.2 x.2.2
/-- a dict whose keys are tuples, by what stands in its one object -/
def DicP (w : World) (a : Addr) (ys : List (NestedKey × Addr × V)) (h : Heap) : Prop := (a == sysModules) = false ∧ ys.length ≤ sizeLine ∧
  ∃ xs : List (NestedKey × Addr × Value), Paired PdE ys xs ∧ (xs.map (·.1)).Nodup ∧ ∃ o es ep, h.get? a = some o ∧ o.ExactDict ∧ o.data = .dict es ep ∧ es.toList = xs.map (nent w)
def DicO (w : World) (a : Addr) (ys : List (NestedKey × Addr × V)) : HO := .ext (DicP w a ys)
/-- the thing u at a is a dict of these keys and these values -/
def DicB (K : Kw) (a : Addr) (ks : List D) (kv vs : List V) (u : HO) : Prop := (∃ kvs : List (Key × V), u = .dK kvs ∧ ks = kvs.map (fun p => keyD p.1) ∧ kv = kvs.map (fun p => kV p.1) ∧ vs = kvs.map (·.2)) ∨
  (∃ ys : List (NestedKey × Addr × V), ys ≠ [] ∧ u = DicO K.w a ys ∧ nks ks = ys.map (·.1) ∧ kv = ys.map (fun y => V.ref y.2.1) ∧ vs = ys.map (·.2.2))
def LitL (K : Kw) (a : Addr) (xs : List V) : Prop := ∃ (o : Obj) (its : Array Value) (n : Nat), K.K.lookup a = some o ∧ o.cls = .type "list" ∧ o.dict = none ∧ o.data = .seq its n ∧ its.size ≤ sizeLine ∧ Vals xs its.toList
mutual
def RV (K : Kw) (H : Hp) (av : Addr → Prop) : D → V → Prop
  | .non, v => v = .non
  | .bl b, v => v = .bl b
  | .int i, v => v = .int i
  | .str l, v => v = .str (tx l)
  | .tup ds, v => ∃ a vs, v = .ref a ∧ H a = some (.tup vs) ∧ ¬ av a ∧ RVs K H av ds vs
  | .lst ds, v => ∃ a vs, v = .ref a ∧ H a = some (.lst vs) ∧ ¬ av a ∧ RVs K H av ds vs
  | .scr l, v => ∃ a, v = .ref a ∧ ((Rd H a (.lst (l.map V.int)) ∧ ¬ av a) ∨ LitL K a (l.map V.int))
  | .dct ks ws, v => ∃ a u kv vs, v = .ref a ∧ (∃ o, H a = some (.frz o u)) ∧ ¬ av a ∧ DicB K a ks kv vs u ∧ RVs K H av ks kv ∧ RVs K H av ws vs
def RVs (K : Kw) (H : Hp) (av : Addr → Prop) : List D → List V → Prop
  | [], vs => vs = []
  | d :: ds, vs => ∃ v r, vs = v :: r ∧ RV K H av d v ∧ RVs K H av ds r
end
/-- what is read stays -/
def Stay (H : Hp) (av : Addr → Prop) (H' : Hp) (av' : Addr → Prop) : Prop := ∀ a o, H a = some o → ¬ av a → H' a = some o ∧ ¬ av' a
theorem Rd.stay {H H' : Hp} {av av' : Addr → Prop} {a : Addr} {u : HO} (s : Stay H av H' av') (n : ¬ av a) (r : Rd H a u) : Rd H' a u ∧ ¬ av' a := by
  rcases r with r | ⟨o, r⟩
  · exact ⟨.inl (s a _ r n).1, (s a _ r n).2⟩
  · exact ⟨.inr ⟨o, (s a _ r n).1⟩, (s a _ r n).2⟩
mutual
theorem RV.stay {H H' : Hp} {av av' : Addr → Prop} (s : Stay H av H' av') : ∀ {d : D} {v : V}, RV K H av d v → RV K H' av' d v
  | .non, _, h => h
  | .bl _, _, h => h
  | .int _, _, h => h
  | .str _, _, h => h
  | .scr _, _, h => by
    unfold RV at h ⊢
    obtain ⟨a, e, q⟩ := h
    exact ⟨a, e, q.imp (fun q => Rd.stay s q.2 q.1) fun q => q⟩
  | .tup _, _, h => by
    unfold RV at h ⊢
    obtain ⟨a, vs, e, r, n, q⟩ := h
    exact ⟨a, vs, e, (s a _ r n).1, (s a _ r n).2, RVs.stay s q⟩
  | .lst _, _, h => by
    unfold RV at h ⊢
    obtain ⟨a, vs, e, r, n, q⟩ := h
    exact ⟨a, vs, e, (s a _ r n).1, (s a _ r n).2, RVs.stay s q⟩
  | .dct _ _, _, h => by
    unfold RV at h ⊢
    obtain ⟨a, u, kv, vs, e, ⟨o, r⟩, n, k, q1, q2⟩ := h
    exact ⟨a, u, kv, vs, e, ⟨o, (s a _ r n).1⟩, (s a _ r n).2, k, RVs.stay s q1, RVs.stay s q2⟩
theorem RVs.stay {H H' : Hp} {av av' : Addr → Prop} (s : Stay H av H' av') : ∀ {d : List D} {v : List V}, RVs K H av d v → RVs K H' av' d v
  | [], _, h => h
  | _ :: _, _, h => by
    unfold RVs at h ⊢
    obtain ⟨v, r, e, q, t⟩ := h
    exact ⟨v, r, e, RV.stay s q, RVs.stay s t⟩
end
theorem RVs.nil {H : Hp} {av : Addr → Prop} : RVs K H av [] [] := by unfold RVs; rfl
theorem RVs.cons {H : Hp} {av : Addr → Prop} {d : D} {ds : List D} {v : V} {vs : List V} (h : RV K H av d v) (t : RVs K H av ds vs) : RVs K H av (d :: ds) (v :: vs) := by
  unfold RVs; exact ⟨v, vs, rfl, h, t⟩
theorem RVs.length {H : Hp} {av : Addr → Prop} : ∀ {ds : List D} {vs : List V}, RVs K H av ds vs → vs.length = ds.length
  | [], _, h => by unfold RVs at h; rw [h]; rfl
  | _ :: ds, _, h => by
    unfold RVs at h
    obtain ⟨v, r, rfl, _, t⟩ := h
    rw [List.length_cons, List.length_cons, RVs.length t]
theorem RVs.append {H : Hp} {av : Addr → Prop} : ∀ {ds es : List D} {vs ws : List V}, RVs K H av ds vs → RVs K H av es ws → RVs K H av (ds ++ es) (vs ++ ws)
  | [], _, _, _, h, k => by unfold RVs at h; rw [h]; exact k
  | _ :: ds, _, _, _, h, k => by
    unfold RVs at h
    obtain ⟨v, r, rfl, q, t⟩ := h
    exact RVs.cons q (RVs.append t k)
theorem RVs.get {H : Hp} {av : Addr → Prop} : ∀ {ds : List D} {vs : List V} {i : Nat} {d : D}, RVs K H av ds vs → ds[i]? = some d → ∃ v, vs[i]? = some v ∧ RV K H av d v
  | [], _, _, _, _, e => by simp at e
  | _ :: _, _, 0, _, h, e => by
    unfold RVs at h
    obtain ⟨v, r, rfl, q, _⟩ := h
    simp at e
    subst e
    exact ⟨v, rfl, q⟩
  | _ :: _, _, i + 1, _, h, e => by
    unfold RVs at h
    obtain ⟨v, r, rfl, _, t⟩ := h
    obtain ⟨u, h1, h2⟩ := RVs.get (i := i) t (by simpa using e)
    exact ⟨u, by simpa using h1, h2⟩
theorem RVs.get' {H : Hp} {av : Addr → Prop} {ds : List D} {vs : List V} {i : Nat} {v : V} (h : RVs K H av ds vs) (e : vs[i]? = some v) : ∃ d, ds[i]? = some d ∧ RV K H av d v := by
  have hi : i < ds.length := by rw [← h.length]; exact (List.getElem?_eq_some_iff.mp e).1
  obtain ⟨u, h1, h2⟩ := RVs.get (i := i) h (List.getElem?_eq_getElem hi)
  rw [e] at h1
  cases h1
  exact ⟨_, List.getElem?_eq_getElem hi, h2⟩
theorem RVs.set {H : Hp} {av : Addr → Prop} {d : D} {v : V} (q : RV K H av d v) : ∀ {ds : List D} {vs : List V} (i : Nat), RVs K H av ds vs → RVs K H av (ds.set i d) (vs.set i v)
  | [], _, _, h => by unfold RVs at h; rw [h]; exact RVs.nil
  | _ :: _, _, 0, h => by
    unfold RVs at h
    obtain ⟨v, r, rfl, _, t⟩ := h
    exact RVs.cons q t
  | _ :: _, _, i + 1, h => by
    unfold RVs at h
    obtain ⟨v, r, rfl, q', t⟩ := h
    exact RVs.cons q' (RVs.set q i t)
theorem RVs.take {H : Hp} {av : Addr → Prop} : ∀ {ds : List D} {vs : List V} (n : Nat), RVs K H av ds vs → RVs K H av (ds.take n) (vs.take n)
  | [], _, _, h => by unfold RVs at h; rw [h, List.take_nil, List.take_nil]; exact RVs.nil
  | _ :: _, _, 0, h => RVs.nil
  | _ :: _, _, n + 1, h => by
    unfold RVs at h
    obtain ⟨v, r, rfl, q, t⟩ := h
    exact RVs.cons q (RVs.take n t)
theorem RVs.drop {H : Hp} {av : Addr → Prop} : ∀ {ds : List D} {vs : List V} (n : Nat), RVs K H av ds vs → RVs K H av (ds.drop n) (vs.drop n)
  | [], _, _, h => by unfold RVs at h; rw [h, List.drop_nil, List.drop_nil]; exact RVs.nil
  | _ :: _, _, 0, h => h
  | _ :: _, _, n + 1, h => by
    unfold RVs at h
    obtain ⟨v, r, rfl, q, t⟩ := h
    exact RVs.drop n t
theorem RVs.reverse {H : Hp} {av : Addr → Prop} : ∀ {ds : List D} {vs : List V}, RVs K H av ds vs → RVs K H av ds.reverse vs.reverse
  | [], _, h => by unfold RVs at h; rw [h]; exact RVs.nil
  | _ :: _, _, h => by
    unfold RVs at h
    obtain ⟨v, r, rfl, q, t⟩ := h
    rw [List.reverse_cons, List.reverse_cons]
    exact RVs.append (RVs.reverse t) (RVs.cons q RVs.nil)
theorem RVs.replicate {H : Hp} {av : Addr → Prop} {d : D} {v : V} (q : RV K H av d v) : ∀ n, RVs K H av (List.replicate n d) (List.replicate n v)
  | 0 => RVs.nil
  | n + 1 => RVs.cons q (RVs.replicate q n)
/-! ### cells -/
/-- the addresses of the cells that live, and the others' that are to be kept off -/
def av (A : List (Option Addr)) (B : Addr → Prop) : Addr → Prop := fun a => B a ∨ some a ∈ A
def CellOk (K : Kw) (H : Hp) (av : Addr → Prop) : Option Addr → Ob → Prop
  | none, .dead => True
  | some a, .lst ds => ∃ vs, H a = some (.lst vs) ∧ RVs K H av ds vs
  | some a, .dic ks ws => ∃ u kv vs, H a = some u ∧ DicB K a ks kv vs u ∧ RVs K H av ks kv ∧ RVs K H av ws vs
  | _, _ => False
structure Cells (K : Kw) (H : Hp) (A : List (Option Addr)) (B : Addr → Prop) (S : Sto) : Prop where
  len : A.length = S.length
  at_ : ∀ (n : Nat) (x : Option Addr) (ob : Ob), A[n]? = some x → S[n]? = some ob → CellOk K H (av A B) x ob
  inj : ∀ (n m : Nat) (a : Addr), A[n]? = some (some a) → A[m]? = some (some a) → n = m
  off : ∀ a, some a ∈ A → ¬ B a
  dom : ∀ a, B a → H a ≠ none
  sys : SysH H
  soff : some sysModules ∉ A
/-- from one point of a def's run to a later one -/
structure Keep (A : List (Option Addr)) (H : Hp) (A' : List (Option Addr)) (H' : Hp) : Prop where
  st : ∀ a o, H a = some o → some a ∉ A → H' a = some o ∧ some a ∉ A'
  len : A.length ≤ A'.length
  ix : ∀ (n : Nat) (x : Option Addr), A[n]? = some x → A'[n]? = some x ∨ A'[n]? = some none
theorem Keep.refl {A : List (Option Addr)} {H : Hp} : Keep A H A H := ⟨fun _ _ e n => ⟨e, n⟩, Nat.le_refl _, fun _ _ e => .inl e⟩
theorem Keep.trans {A A1 A2 : List (Option Addr)} {H H1 H2 : Hp} (k : Keep A H A1 H1) (l : Keep A1 H1 A2 H2) : Keep A H A2 H2 where
  st := fun a o e n => let ⟨e1, n1⟩ := k.st a o e n; l.st a o e1 n1
  len := Nat.le_trans k.len l.len
  ix := fun n x e => by
    rcases k.ix n x e with e1 | e1
    · exact l.ix n x e1
    · rcases l.ix n _ e1 with e2 | e2
      · exact .inr e2
      · exact .inr e2
theorem Keep.stay {A A' : List (Option Addr)} {B : Addr → Prop} {H H' : Hp} (k : Keep A H A' H') : Stay H (av A B) H' (av A' B) := fun a o e n =>
  let ⟨e1, n1⟩ := k.st a o e fun z => n (.inr z)
  ⟨e1, fun z => z.elim (fun b => n (.inl b)) n1⟩
/-- something new, that is no cell -/
theorem Keep.upd {A : List (Option Addr)} {H : Hp} {p : Addr} {o : HO} (hp : H p = none) : Keep A H A (upd H p o) :=
  ⟨fun a u e n => ⟨by rw [upd_ne (ne_of_none e hp)]; exact e, n⟩, Nat.le_refl _, fun _ _ e => .inl e⟩
/-- a cell's place, by its number -/
def RN (A : List (Option Addr)) (n : Nat) (v : V) : Prop := A[n]? = some none ∨ ∃ a, A[n]? = some (some a) ∧ v = .ref a
mutual
def RW (K : Kw) (H : Hp) (A : List (Option Addr)) (B : Addr → Prop) : W → V → Prop
  | .val d, v => RV K H (av A B) d v
  | .ref n, v => A[n]? = some none ∨ ∃ a, A[n]? = some (some a) ∧ v = .ref a
  | .lws ns, v => ∃ a vs, v = .ref a ∧ H a = some (.lst vs) ∧ ¬ av A B a ∧ Paired (RN A) ns vs
  | .ins x ns fs, v => ∃ a C dx vs, v = .ref a ∧ K.mg x = some (.ref C) ∧ H a = some (.ins C dx (ns.zip vs)) ∧ H dx = some (.own a) ∧ ¬ av A B a ∧ ¬ av A B dx ∧ ns.length = vs.length ∧ RWl K H A B fs vs
  | .fn x, v => ∃ f, K.mg x = some (.ref f) ∧ v = .ref f
def RWl (K : Kw) (H : Hp) (A : List (Option Addr)) (B : Addr → Prop) : List W → List V → Prop
  | [], vs => vs = []
  | w :: ws, vs => ∃ v r, vs = v :: r ∧ RW K H A B w v ∧ RWl K H A B ws r
end
theorem RN.keep {H H' : Hp} {A A' : List (Option Addr)} (k : Keep A H A' H') {n : Nat} {v : V} (r : RN A n v) : RN A' n v := by
  rcases r with e | ⟨a, e, q⟩
  · rcases k.ix n _ e with z | z
    · exact .inl z
    · exact .inl z
  · rcases k.ix n _ e with z | z
    · exact .inr ⟨a, z, q⟩
    · exact .inl z
mutual
theorem RW.keep {H H' : Hp} {A A' : List (Option Addr)} {B : Addr → Prop} (k : Keep A H A' H') : ∀ {w : W} {v : V}, RW K H A B w v → RW K H' A' B w v
  | .val d, v, r => by
    unfold RW at r ⊢
    exact RV.stay k.stay r
  | .ref n, v, r => by
    unfold RW at r ⊢
    exact RN.keep k r
  | .lws ns, v, r => by
    unfold RW at r ⊢
    obtain ⟨a, vs, e, h, n, p⟩ := r
    exact ⟨a, vs, e, (k.stay a _ h n).1, (k.stay a _ h n).2, L2.Paired.mapP p fun _ _ q => q.keep k⟩
  | .ins x ns fs, v, r => by
    unfold RW at r ⊢
    obtain ⟨a, C, dx, vs, e, h0, h, hd, n, nd, l, p⟩ := r
    exact ⟨a, C, dx, vs, e, h0, (k.stay a _ h n).1, (k.stay dx _ hd nd).1, (k.stay a _ h n).2, (k.stay dx _ hd nd).2, l, RWl.keep k p⟩
  | .fn x, v, r => by
    unfold RW at r ⊢
    exact r
theorem RWl.keep {H H' : Hp} {A A' : List (Option Addr)} {B : Addr → Prop} (k : Keep A H A' H') : ∀ {w : List W} {v : List V}, RWl K H A B w v → RWl K H' A' B w v
  | [], _, r => by
    unfold RWl at r ⊢
    exact r
  | w :: ws, _, r => by
    unfold RWl at r ⊢
    obtain ⟨v, q, e, h, t⟩ := r
    exact ⟨v, q, e, RW.keep k h, RWl.keep k t⟩
end
theorem RWl.iff {H : Hp} {A : List (Option Addr)} {B : Addr → Prop} : ∀ {ws : List W} {vs : List V}, RWl K H A B ws vs ↔ Paired (RW K H A B) ws vs
  | [], vs => by
    unfold RWl
    exact ⟨fun e => e ▸ .nil, fun h => by cases h; rfl⟩
  | w :: ws, vs => by
    unfold RWl
    constructor
    · rintro ⟨v, r, rfl, h, t⟩
      exact .cons h (RWl.iff.mp t)
    · intro h
      cases h with
      | cons h t => exact ⟨_, _, rfl, h, RWl.iff.mpr t⟩
def RWs (K : Kw) (H : Hp) (A : List (Option Addr)) (B : Addr → Prop) : List W → List V → Prop := Paired (RW K H A B)
theorem RWs.keep {H H' : Hp} {A A' : List (Option Addr)} {B : Addr → Prop} (k : Keep A H A' H') {w : List W} {v : List V} (r : RWs K H A B w v) : RWs K H' A' B w v := L2.Paired.mapP r fun _ _ h => h.keep k
/-- the slots -/
structure Rel (K : Kw) (H : Hp) (A : List (Option Addr)) (B : Addr → Prop) (ρ : Rho) (S : Sto) (σ : L2.St) : Prop where
  cells : Cells K H A B S
  len : ρ.length = σ.length
  slot : ∀ (i : Nat) (w : W), ρ[i]? = some (some w) → ∃ v, σ[i]? = some (some v) ∧ RW K H A B w v
theorem Rel.keep {H H' : Hp} {A A' : List (Option Addr)} {B : Addr → Prop} {ρ : Rho} {S S' : Sto} {σ : L2.St} (r : Rel K H A B ρ S σ) (k : Keep A H A' H') (c : Cells K H' A' B S') : Rel K H' A' B ρ S' σ :=
  ⟨c, r.len, fun i w e => let ⟨v, e1, q⟩ := r.slot i w e; ⟨v, e1, q.keep k⟩⟩
theorem Rel.set {H : Hp} {A : List (Option Addr)} {B : Addr → Prop} {ρ : Rho} {S : Sto} {σ : L2.St} (r : Rel K H A B ρ S σ) {i : Nat} {w : W} {v : V} (q : RW K H A B w v) : Rel K H A B (ρ.set i (some w)) S (σ.set i (some v)) := by
  refine ⟨r.cells, by rw [List.length_set, List.length_set]; exact r.len, fun j u e => ?_⟩
  by_cases h : i = j
  · subst h
    by_cases hl : i < ρ.length
    · rw [List.getElem?_set_self hl] at e
      cases e
      exact ⟨v, List.getElem?_set_self (by rw [← r.len]; exact hl), q⟩
    · rw [List.getElem?_eq_none (by rw [List.length_set]; omega)] at e
      cases e
  · rw [List.getElem?_set_ne h] at e ⊢
    exact r.slot j u e
/-- some slots forgotten -/
def wipeR (ρ : Rho) : List Nat → Rho
  | [] => ρ
  | i :: r => (wipeR ρ r).set i none
/-! ### new things -/
theorem Cells.upd {H : Hp} {A : List (Option Addr)} {B : Addr → Prop} {S : Sto} (c : Cells K H A B S) {p : Addr} {o : HO} (hp : H p = none) : Cells K (upd H p o) A B S := by
  have k : Keep A H A (L2.upd H p o) := Keep.upd hp
  refine ⟨c.len, fun n x ob e1 e2 => ?_, c.inj, c.off, fun a b z => ?_, by obtain ⟨o', e'⟩ := c.sys; exact ⟨o', by rw [upd_ne (ne_of_none e' hp)]; exact e'⟩, c.soff⟩
  · have q := c.at_ n x ob e1 e2
    cases x with
    | none => cases ob <;> exact q
    | some a =>
      cases ob with
      | dead => exact q
      | lst ds =>
        obtain ⟨vs, h1, h2⟩ := q
        exact ⟨vs, by rw [upd_ne (ne_of_none h1 hp)]; exact h1, RVs.stay k.stay h2⟩
      | dic ks ws =>
        obtain ⟨u, kv, vs, h1, h2, h3, h4⟩ := q
        exact ⟨u, kv, vs, by rw [upd_ne (ne_of_none h1 hp)]; exact h1, h2, RVs.stay k.stay h3, RVs.stay k.stay h4⟩
  · unfold L2.upd at z
    split at z
    · cases z
    · exact c.dom a b z
theorem Cells.new_off {H : Hp} {A : List (Option Addr)} {B : Addr → Prop} {S : Sto} (c : Cells K H A B S) {p : Addr} (hp : H p = none) : ¬ av A B p := by
  rintro (b | m)
  · exact c.dom p b hp
  · obtain ⟨n, hn⟩ := List.mem_iff_getElem?.mp m
    have hl : n < S.length := by rw [← c.len]; exact (List.getElem?_eq_some_iff.mp hn).1
    have q := c.at_ n _ _ hn (List.getElem?_eq_getElem hl)
    cases e : S[n] with
    | dead => rw [e] at q; exact q
    | lst ds =>
      rw [e] at q
      obtain ⟨vs, h1, _⟩ := q
      rw [hp] at h1; cases h1
    | dic ks ws =>
      rw [e] at q
      obtain ⟨u, kv, vs, h1, _⟩ := q
      rw [hp] at h1; cases h1
/-- a new list, tuple as data -/
theorem RV.new_tup {H : Hp} {A : List (Option Addr)} {B : Addr → Prop} {S : Sto} (c : Cells K H A B S) {p : Addr} {ds : List D} {vs : List V} (hp : H p = none) (r : RVs K H (av A B) ds vs) : RV K (upd H p (.tup vs)) (av A B) (.tup ds) (.ref p) := by
  unfold RV
  exact ⟨p, vs, rfl, upd_same, c.new_off hp, RVs.stay (Keep.upd hp).stay r⟩
theorem RV.new_lst {H : Hp} {A : List (Option Addr)} {B : Addr → Prop} {S : Sto} (c : Cells K H A B S) {p : Addr} {ds : List D} {vs : List V} (hp : H p = none) (r : RVs K H (av A B) ds vs) : RV K (upd H p (.lst vs)) (av A B) (.lst ds) (.ref p) := by
  unfold RV
  exact ⟨p, vs, rfl, upd_same, c.new_off hp, RVs.stay (Keep.upd hp).stay r⟩
/-- what nobody else has as a new cell -/
theorem Cells.cell {H : Hp} {A : List (Option Addr)} {B : Addr → Prop} {S : Sto} (c : Cells K H A B S) {p : Addr} {ob : Ob} {o : HO} (hp : H p = none)
    (hc : CellOk K (L2.upd H p o) (av (A ++ [some p]) B) (some p) ob) : Cells K (L2.upd H p o) (A ++ [some p]) B (S ++ [ob]) ∧ Keep A H (A ++ [some p]) (L2.upd H p o) := by
  have hoff := c.new_off hp
  have k : Keep A H (A ++ [some p]) (L2.upd H p o) := by
    refine ⟨fun a u e n => ⟨by rw [upd_ne (ne_of_none e hp)]; exact e, fun z => ?_⟩, by simp, fun n x e => .inl ?_⟩
    · rcases List.mem_append.mp z with z | z
      · exact n z
      · simp at z
        subst z
        rw [hp] at e; cases e
    · rw [List.getElem?_append_left (List.getElem?_eq_some_iff.mp e).1]
      exact e
  have st1 : Stay H (av A B) (L2.upd H p o) (av (A ++ [some p]) B) := k.stay
  have last : ∀ (n : Nat) (x : Option Addr), (A ++ [some p])[n]? = some x → ¬ n < A.length → n = A.length ∧ x = some p := fun n x e h => by
    have en : n = A.length := by
      have := (List.getElem?_eq_some_iff.mp e).1
      simp at this
      omega
    subst en
    simp at e
    exact ⟨rfl, e.symm⟩
  refine ⟨⟨by simp [c.len], fun n x ob' e1 e2 => ?_, fun n m a e1 e2 => ?_, fun a z => ?_, fun a b z => ?_, by obtain ⟨o', e'⟩ := c.sys; exact ⟨o', by rw [upd_ne (ne_of_none e' hp)]; exact e'⟩, fun z => ?_⟩, k⟩
  · by_cases hn : n < A.length
    · rw [List.getElem?_append_left hn] at e1
      rw [List.getElem?_append_left (by rw [← c.len]; exact hn)] at e2
      have q := c.at_ n x ob' e1 e2
      cases x with
      | none => cases ob' <;> exact q
      | some a =>
        cases ob' with
        | dead => exact q
        | lst ds =>
          obtain ⟨vs, h1, h2⟩ := q
          exact ⟨vs, by rw [upd_ne (ne_of_none h1 hp)]; exact h1, RVs.stay st1 h2⟩
        | dic ks ws =>
          obtain ⟨u, kv, vs, h1, h2, h3, h4⟩ := q
          exact ⟨u, kv, vs, by rw [upd_ne (ne_of_none h1 hp)]; exact h1, h2, RVs.stay st1 h3, RVs.stay st1 h4⟩
    · obtain ⟨en, ex⟩ := last n x e1 hn
      subst en ex
      rw [c.len] at e2
      simp at e2
      subst e2
      exact hc
  · by_cases hn : n < A.length
    · by_cases hm : m < A.length
      · rw [List.getElem?_append_left hn] at e1
        rw [List.getElem?_append_left hm] at e2
        exact c.inj n m a e1 e2
      · obtain ⟨_, ex⟩ := last m _ e2 hm
        cases ex
        rw [List.getElem?_append_left hn] at e1
        exact absurd (.inr (List.mem_of_getElem? e1)) hoff
    · obtain ⟨en, ex⟩ := last n _ e1 hn
      cases ex
      by_cases hm : m < A.length
      · rw [List.getElem?_append_left hm] at e2
        exact absurd (.inr (List.mem_of_getElem? e2)) hoff
      · rw [en, (last m _ e2 hm).1]
  · rcases List.mem_append.mp z with z | z
    · exact c.off a z
    · simp at z
      subst z
      exact fun b => hoff (.inl b)
  · unfold L2.upd at z
    split at z
    · cases z
    · exact c.dom a b z
  · rcases List.mem_append.mp z with z | z
    · exact c.soff z
    · simp at z
      obtain ⟨o', e'⟩ := c.sys
      rw [z, hp] at e'
      cases e'
theorem Cells.cell_lst {H : Hp} {A : List (Option Addr)} {B : Addr → Prop} {S : Sto} (c : Cells K H A B S) {p : Addr} {ds : List D} {vs : List V} (hp : H p = none)
    (r : RVs K H (av A B) ds vs) : Cells K (L2.upd H p (.lst vs)) (A ++ [some p]) B (S ++ [.lst ds]) ∧ Keep A H (A ++ [some p]) (L2.upd H p (.lst vs)) := by
  refine c.cell hp ⟨vs, upd_same, RVs.stay (fun a o e n => ?_) r⟩
  refine ⟨by rw [upd_ne (ne_of_none e hp)]; exact e, fun z => ?_⟩
  rcases z with z | z
  · exact n (.inl z)
  · rcases List.mem_append.mp z with z | z
    · exact n (.inr z)
    · simp at z
      subst z
      rw [hp] at e; cases e
/-- a cell is written -/
theorem Cells.write {H : Hp} {A : List (Option Addr)} {B : Addr → Prop} {S : Sto} (c : Cells K H A B S) {n : Nat} {a : Addr} {ob : Ob} {o : HO} (ha : A[n]? = some (some a))
    (hc : CellOk K (L2.upd H a o) (av A B) (some a) ob) : Cells K (L2.upd H a o) A B (S.set n ob) ∧ Keep A H A (L2.upd H a o) := by
  have hm : some a ∈ A := List.mem_of_getElem? ha
  have k : Keep A H A (L2.upd H a o) := ⟨fun b u e z => ⟨by rw [upd_ne (show b ≠ a from fun q => z (by rw [q]; exact hm))]; exact e, z⟩, Nat.le_refl _, fun _ _ e => .inl e⟩
  refine ⟨⟨by rw [List.length_set]; exact c.len, fun m x ob' e1 e2 => ?_, c.inj, c.off, fun b hb z => ?_, by obtain ⟨o', e'⟩ := c.sys; exact ⟨o', by rw [upd_ne (show sysModules ≠ a from fun z => c.soff (z ▸ hm))]; exact e'⟩, c.soff⟩, k⟩
  · by_cases h : n = m
    · subst h
      rw [ha] at e1
      cases e1
      have hl : n < S.length := by rw [← c.len]; exact (List.getElem?_eq_some_iff.mp ha).1
      rw [List.getElem?_set_self hl] at e2
      cases e2
      exact hc
    · rw [List.getElem?_set_ne h] at e2
      have q := c.at_ m x ob' e1 e2
      cases x with
      | none => cases ob' <;> exact q
      | some b =>
        have hb : b ≠ a := fun z => h (c.inj n m a ha (z ▸ e1))
        cases ob' with
        | dead => exact q
        | lst ds =>
          obtain ⟨vs, h1, h2⟩ := q
          exact ⟨vs, by rw [upd_ne hb]; exact h1, RVs.stay k.stay h2⟩
        | dic ks ws =>
          obtain ⟨u, kv, vs, h1, h2, h3, h4⟩ := q
          exact ⟨u, kv, vs, by rw [upd_ne hb]; exact h1, h2, RVs.stay k.stay h3, RVs.stay k.stay h4⟩
  · unfold L2.upd at z
    split at z
    · cases z
    · exact c.dom b hb z
theorem Cells.write_lst {H : Hp} {A : List (Option Addr)} {B : Addr → Prop} {S : Sto} (c : Cells K H A B S) {n : Nat} {a : Addr} {ds : List D} {vs : List V} (ha : A[n]? = some (some a))
    (r : RVs K H (av A B) ds vs) : Cells K (L2.upd H a (.lst vs)) A B (S.set n (.lst ds)) ∧ Keep A H A (L2.upd H a (.lst vs)) := by
  have hm : some a ∈ A := List.mem_of_getElem? ha
  refine c.write ha ⟨vs, upd_same, RVs.stay (fun b o e n => ⟨by rw [upd_ne (show b ≠ a from fun q => n (by rw [q]; exact .inr hm))]; exact e, n⟩) r⟩
/-- where a cell stands -/
theorem Cells.look {H : Hp} {A : List (Option Addr)} {B : Addr → Prop} {S : Sto} (c : Cells K H A B S) {n : Nat} {ob : Ob} (e : S[n]? = some ob) (nd : ob ≠ .dead) : ∃ a, A[n]? = some (some a) ∧ CellOk K H (av A B) (some a) ob := by
  have hl : n < A.length := by rw [c.len]; exact (List.getElem?_eq_some_iff.mp e).1
  have q := c.at_ n _ _ (List.getElem?_eq_getElem hl) e
  cases x : A[n] with
  | none =>
    rw [x] at q
    cases ob with
    | dead => exact absurd rfl nd
    | lst _ => exact q.elim
    | dic _ _ => exact q.elim
  | some a =>
    rw [x] at q
    exact ⟨a, by rw [List.getElem?_eq_getElem hl, x], q⟩
theorem RW.at_ {H : Hp} {A : List (Option Addr)} {B : Addr → Prop} {n : Nat} {v : V} {a : Addr} (r : RW K H A B (.ref n) v) (e : A[n]? = some (some a)) : v = .ref a := by
  rcases r with z | ⟨b, z, q⟩
  · rw [e] at z; cases z
  · rw [e] at z
    cases z
    exact q
/-- a cell becomes data: nobody writes it any more -/
theorem Cells.freeze {H : Hp} {A : List (Option Addr)} {B : Addr → Prop} {S : Sto} (c : Cells K H A B S) {n : Nat} {a : Addr} (ha : A[n]? = some (some a)) :
    Cells K H (A.set n none) B (S.set n .dead) ∧ Keep A H (A.set n none) H ∧ ¬ av (A.set n none) B a := by
  have hin : ∀ b, some b ∈ A.set n none → some b ∈ A ∧ b ≠ a := fun b hb => by
    obtain ⟨m, hm⟩ := List.mem_iff_getElem?.mp hb
    by_cases h : n = m
    · subst h
      rw [List.getElem?_set_self (List.getElem?_eq_some_iff.mp ha).1] at hm
      cases hm
    · rw [List.getElem?_set_ne h] at hm
      exact ⟨List.mem_of_getElem? hm, fun z => h (c.inj n m a ha (z ▸ hm))⟩
  have k : Keep A H (A.set n none) H := by
    refine ⟨fun b u e z => ⟨e, fun q => z (hin b q).1⟩, by rw [List.length_set]; exact Nat.le_refl _, fun m x e => ?_⟩
    by_cases h : n = m
    · subst h
      exact .inr (List.getElem?_set_self (List.getElem?_eq_some_iff.mp ha).1)
    · rw [List.getElem?_set_ne h]
      exact .inl e
  refine ⟨⟨by rw [List.length_set, List.length_set]; exact c.len, fun m x ob e1 e2 => ?_, fun m l b e1 e2 => ?_, fun b hb => c.off b (hin b hb).1, c.dom, c.sys, fun z => c.soff (hin _ z).1⟩, k, fun z => ?_⟩
  · by_cases h : n = m
    · subst h
      rw [List.getElem?_set_self (List.getElem?_eq_some_iff.mp ha).1] at e1
      rw [List.getElem?_set_self (by rw [← c.len]; exact (List.getElem?_eq_some_iff.mp ha).1)] at e2
      cases e1
      cases e2
      exact trivial
    · rw [List.getElem?_set_ne h] at e1 e2
      have q := c.at_ m x ob e1 e2
      cases x with
      | none => cases ob <;> exact q
      | some b =>
        cases ob with
        | dead => exact q
        | lst ds =>
          obtain ⟨vs, h1, h2⟩ := q
          exact ⟨vs, h1, RVs.stay k.stay h2⟩
        | dic ks ws =>
          obtain ⟨u, kv, vs, h1, h2, h3, h4⟩ := q
          exact ⟨u, kv, vs, h1, h2, RVs.stay k.stay h3, RVs.stay k.stay h4⟩
  · have f : ∀ j, (A.set n none)[j]? = some (some b) → A[j]? = some (some b) := fun j e => by
      by_cases h : n = j
      · subst h
        rw [List.getElem?_set_self (List.getElem?_eq_some_iff.mp ha).1] at e
        cases e
      · rw [List.getElem?_set_ne h] at e
        exact e
    exact c.inj m l b (f m e1) (f l e2)
  · rcases z with z | z
    · exact c.off a (List.mem_of_getElem? ha) z
    · exact (hin a z).2 rfl
end Fo
/-! Core2: clean predicate transformers, their lift to the hand layer's readings, the first constructs. -/
namespace Fo
open PySem PySem.Spec PyProof.Rows L2
variable {K : Kw}
abbrev KW := W → Sto → Prop
abbrev ME := Rho → Sto → KW → Prop
abbrev MT := Rho → Sto → (Bool → Sto → Prop) → Prop
abbrev MA := Rho → Sto → (List W → Sto → Prop) → Prop
structure End where
  nx : Rho → Sto → Prop
  rt : KW
  bk : Rho → Sto → Prop
  ct : Rho → Sto → Prop
abbrev MS := End → Rho → Sto → Prop
abbrev MF := List W → Sto → KW → Prop
/-! ### monotony -/
def MonoE (t : ME) : Prop := ∀ ρ S (Q Q' : KW), (∀ w S', Q w S' → Q' w S') → t ρ S Q → t ρ S Q'
def MonoT (t : MT) : Prop := ∀ ρ S (Q Q' : Bool → Sto → Prop), (∀ w S', Q w S' → Q' w S') → t ρ S Q → t ρ S Q'
def MonoA (t : MA) : Prop := ∀ ρ S (Q Q' : List W → Sto → Prop), (∀ w S', Q w S' → Q' w S') → t ρ S Q → t ρ S Q'
structure End.le (E E' : End) : Prop where
  nx : ∀ ρ S, E.nx ρ S → E'.nx ρ S
  rt : ∀ w S, E.rt w S → E'.rt w S
  bk : ∀ ρ S, E.bk ρ S → E'.bk ρ S
  ct : ∀ ρ S, E.ct ρ S → E'.ct ρ S
theorem End.le.refl (E : End) : E.le E := ⟨fun _ _ h => h, fun _ _ h => h, fun _ _ h => h, fun _ _ h => h⟩
def MonoS (t : MS) : Prop := ∀ (E E' : End) ρ S, E.le E' → t E ρ S → t E' ρ S
def MonoF (t : MF) : Prop := ∀ ws S (Q Q' : KW), (∀ w S', Q w S' → Q' w S') → t ws S Q → t ws S Q'
/-! ### lifts -/
/-- what follows in the abstract heap, from what follows in the clean domain -/
def Aft (K : Kw) (A : List (Option Addr)) (B : Addr → Prop) (H : Hp) (k : KW) (Q : VK) : Prop :=
  ∀ w S', k w S' → ∀ A' v H', Keep A H A' H' → Cells K H' A' B S' → RW K H' A' B w v → Q v H'
def AftB (K : Kw) (A : List (Option Addr)) (B : Addr → Prop) (H : Hp) (k : Bool → Sto → Prop) (Q : Bool → Hp → Prop) : Prop :=
  ∀ b S', k b S' → ∀ A' H', Keep A H A' H' → Cells K H' A' B S' → Q b H'
def AftA (K : Kw) (A : List (Option Addr)) (B : Addr → Prop) (H : Hp) (k : List W → Sto → Prop) (Q : List V → Hp → Prop) : Prop :=
  ∀ w S', k w S' → ∀ A' v H', Keep A H A' H' → Cells K H' A' B S' → RWs K H' A' B w v → Q v H'
def AftR (K : Kw) (A : List (Option Addr)) (B : Addr → Prop) (H : Hp) (k : Rho → Sto → Prop) (Q : L2.St → Hp → Prop) : Prop :=
  ∀ ρ S', k ρ S' → ∀ A' σ H', Keep A H A' H' → Rel K H' A' B ρ S' σ → Q σ H'
def up (K : Kw) (t : ME) : TE := fun σ H Q => ∃ A B ρ S k, Rel K H A B ρ S σ ∧ t ρ S k ∧ Aft K A B H k Q
def upT (K : Kw) (t : MT) : TT := fun σ H Q => ∃ A B ρ S k, Rel K H A B ρ S σ ∧ t ρ S k ∧ AftB K A B H k Q
def upA (K : Kw) (t : MA) : TA := fun σ H Q => ∃ A B ρ S k, Rel K H A B ρ S σ ∧ t ρ S k ∧ AftA K A B H k Q
structure AftS (K : Kw) (A : List (Option Addr)) (B : Addr → Prop) (H : Hp) (E : End) (D : Ends) : Prop where
  nx : AftR K A B H E.nx D.nx
  rt : Aft K A B H E.rt D.rt
  bk : AftR K A B H E.bk D.bk
  ct : AftR K A B H E.ct D.ct
def upS (K : Kw) (t : MS) : TS := fun D σ H => ∃ A B ρ S E, Rel K H A B ρ S σ ∧ t E ρ S ∧ AftS K A B H E D
structure PEm (X : Cx) (e : Expr) (t : ME) : Prop where
  pe : PE X e (up X.kw t)
  mono : MonoE t
structure PTm (X : Cx) (e : Expr) (t : MT) : Prop where
  pt : PT X e (upT X.kw t)
  mono : MonoT t
structure PWm (X : Cx) (e : Expr) (t : MT) : Prop where
  pw : PW X e (upT X.kw t)
  mono : MonoT t
structure PAm (X : Cx) (es : List Expr) (t : MA) : Prop where
  pa : PA X es (upA X.kw t)
  mono : MonoA t
  len : ∀ ρ S (Q : List W → Sto → Prop), t ρ S Q → t ρ S fun ws S' => ws.length = es.length ∧ Q ws S'
structure PSm (X : Cx) (st : Stmt) (t : MS) : Prop where
  ps : PS X st (upS X.kw t)
  mono : MonoS t
structure PSsm (X : Cx) (st : List Stmt) (t : MS) : Prop where
  pss : PSs X st (upS X.kw t)
  mono : MonoS t
theorem _root_.L2.PE.imp {X : Cx} {e : Expr} {t t' : TE} (h : PE X e t) (i : ∀ σ H Q, t' σ H Q → t σ H Q) : PE X e t' := ⟨fun pins s σ H Q I q => h.run pins s σ H Q I (i σ H Q q)⟩
theorem _root_.L2.PT.imp {X : Cx} {e : Expr} {t t' : TT} (h : PT X e t) (i : ∀ σ H Q, t' σ H Q → t σ H Q) : PT X e t' := ⟨fun pins s σ H Q I q => h.run pins s σ H Q I (i σ H Q q)⟩
theorem _root_.L2.PW.imp {X : Cx} {e : Expr} {t t' : TT} (h : PW X e t) (i : ∀ σ H Q, t' σ H Q → t σ H Q) : PW X e t' := ⟨fun wh pins s σ H Q I q => h.run wh pins s σ H Q I (i σ H Q q)⟩
theorem _root_.L2.PA.imp {X : Cx} {e : List Expr} {t t' : TA} (h : PA X e t) (i : ∀ σ H Q, t' σ H Q → t σ H Q) : PA X e t' := ⟨fun pos pins s σ H Q I q => h.run pos pins s σ H Q I (i σ H Q q)⟩
theorem _root_.L2.PS.imp {X : Cx} {e : Stmt} {t t' : TS} (h : PS X e t) (i : ∀ D σ H, t' D σ H → t D σ H) : PS X e t' := ⟨fun pins s σ H D I q => h.run pins s σ H D I (i D σ H q)⟩
theorem _root_.L2.PSs.imp {X : Cx} {e : List Stmt} {t t' : TS} (h : PSs X e t) (i : ∀ D σ H, t' D σ H → t D σ H) : PSs X e t' := ⟨fun pins s σ H D I q => h.run pins s σ H D I (i D σ H q)⟩
theorem Aft.keep {A A1 : List (Option Addr)} {B : Addr → Prop} {H H1 : Hp} {k : KW} {Q : VK} (a : Aft K A B H k Q) (l : Keep A H A1 H1) : Aft K A1 B H1 k Q :=
  fun w S' h A' v H' k' c r => a w S' h A' v H' (l.trans k') c r
theorem AftB.keep {A A1 : List (Option Addr)} {B : Addr → Prop} {H H1 : Hp} {k : Bool → Sto → Prop} {Q : Bool → Hp → Prop} (a : AftB K A B H k Q) (l : Keep A H A1 H1) : AftB K A1 B H1 k Q :=
  fun w S' h A' H' k' c => a w S' h A' H' (l.trans k') c
theorem AftA.keep {A A1 : List (Option Addr)} {B : Addr → Prop} {H H1 : Hp} {k : List W → Sto → Prop} {Q : List V → Hp → Prop} (a : AftA K A B H k Q) (l : Keep A H A1 H1) : AftA K A1 B H1 k Q :=
  fun w S' h A' v H' k' c r => a w S' h A' v H' (l.trans k') c r
theorem AftR.keep {A A1 : List (Option Addr)} {B : Addr → Prop} {H H1 : Hp} {k : Rho → Sto → Prop} {Q : L2.St → Hp → Prop} (a : AftR K A B H k Q) (l : Keep A H A1 H1) : AftR K A1 B H1 k Q :=
  fun w S' h A' v H' k' c => a w S' h A' v H' (l.trans k') c
theorem AftS.keep {A A1 : List (Option Addr)} {B : Addr → Prop} {H H1 : Hp} {E : End} {D : Ends} (a : AftS K A B H E D) (l : Keep A H A1 H1) : AftS K A1 B H1 E D :=
  ⟨a.nx.keep l, a.rt.keep l, a.bk.keep l, a.ct.keep l⟩
/-- a part first, then the rest -/
theorem up_then {t : ME} {A : List (Option Addr)} {B : Addr → Prop} {ρ : Rho} {S : Sto} {σ : L2.St} {H : Hp} {k : KW} {Q : VK} (r : Rel K H A B ρ S σ) (h : t ρ S k)
    (q : ∀ w S' A' v H', k w S' → Keep A H A' H' → Rel K H' A' B ρ S' σ → RW K H' A' B w v → Q v H') : up K t σ H Q :=
  ⟨A, B, ρ, S, k, r, h, fun w S' hk A' v H' k' c rw' => q w S' A' v H' hk k' (r.keep k' c) rw'⟩
theorem upT_then {t : MT} {A : List (Option Addr)} {B : Addr → Prop} {ρ : Rho} {S : Sto} {σ : L2.St} {H : Hp} {k : Bool → Sto → Prop} {Q : Bool → Hp → Prop} (r : Rel K H A B ρ S σ) (h : t ρ S k)
    (q : ∀ b S' A' H', k b S' → Keep A H A' H' → Rel K H' A' B ρ S' σ → Q b H') : upT K t σ H Q :=
  ⟨A, B, ρ, S, k, r, h, fun w S' hk A' H' k' c => q w S' A' H' hk k' (r.keep k' c)⟩
theorem upA_then {t : MA} {A : List (Option Addr)} {B : Addr → Prop} {ρ : Rho} {S : Sto} {σ : L2.St} {H : Hp} {k : List W → Sto → Prop} {Q : List V → Hp → Prop} (r : Rel K H A B ρ S σ) (h : t ρ S k)
    (q : ∀ w S' A' v H', k w S' → Keep A H A' H' → Rel K H' A' B ρ S' σ → RWs K H' A' B w v → Q v H') : upA K t σ H Q :=
  ⟨A, B, ρ, S, k, r, h, fun w S' hk A' v H' k' c rw' => q w S' A' v H' hk k' (r.keep k' c) rw'⟩
/-! ### reading -/
/-- what a worth reads as -/
def rd (S : Sto) (w : W) (k : D → Prop) : Prop :=
  match w with
  | .val d => k d
  | .ref n => match S[n]? with
    | some (.lst l) => k (.lst l)
    | some (.dic ks ws) => k (.dct ks ws)
    | _ => False
  | _ => False
theorem rd_mono {S : Sto} {w : W} {k k' : D → Prop} (h : ∀ d, k d → k' d) (q : rd S w k) : rd S w k' := by
  cases w with
  | lws _ => exact q
  | ins _ _ _ => exact q
  | fn _ => exact q
  | val d => exact h d q
  | ref n =>
    unfold rd at q ⊢
    cases e : S[n]? with
    | none => simp only [e] at q
    | some ob =>
      cases ob with
      | dead => simp only [e] at q
      | lst l => simp only [e] at q ⊢; exact h _ q
      | dic ks ws => simp only [e] at q ⊢; exact h _ q
def RD (K : Kw) (H : Hp) (av : Addr → Prop) : D → V → Prop
  | .lst ds, v => ∃ a vs, v = .ref a ∧ H a = some (.lst vs) ∧ RVs K H av ds vs
  | .dct ks ws, v => ∃ a u kv vs, v = .ref a ∧ Rd H a u ∧ DicB K a ks kv vs u ∧ RVs K H av ks kv ∧ RVs K H av ws vs
  | d, v => RV K H av d v
theorem RV.rd {H : Hp} {av : Addr → Prop} {d : D} {v : V} (r : RV K H av d v) : RD K H av d v := by
  cases d with
  | lst ds =>
    unfold RV at r
    obtain ⟨a, vs, e, q, _, t⟩ := r
    exact ⟨a, vs, e, q, t⟩
  | dct ks ws =>
    unfold RV at r
    obtain ⟨a, u, kv, vs, e, q, _, t⟩ := r
    exact ⟨a, u, kv, vs, e, .inr q, t⟩
  | non => exact r
  | bl _ => exact r
  | int _ => exact r
  | str _ => exact r
  | tup _ => exact r
  | scr _ => exact r
theorem rd_ok {H : Hp} {A : List (Option Addr)} {B : Addr → Prop} {S : Sto} {w : W} {v : V} {k : D → Prop} (c : Cells K H A B S) (r : RW K H A B w v) (h : rd S w k) : ∃ d, RD K H (av A B) d v ∧ k d := by
  cases w with
  | lws _ => exact h.elim
  | ins _ _ _ => exact h.elim
  | fn _ => exact h.elim
  | val d => exact ⟨d, RV.rd r, h⟩
  | ref n =>
    unfold rd at h
    cases e : S[n]? with
    | none =>
      simp only [e] at h
    | some ob =>
      cases ob with
      | dead => simp only [e] at h
      | lst l =>
        simp only [e] at h
        obtain ⟨a, ha, vs, h1, h2⟩ := c.look e (by intro z; cases z)
        exact ⟨.lst l, ⟨a, vs, r.at_ ha, h1, h2⟩, h⟩
      | dic ks ws =>
        simp only [e] at h
        obtain ⟨a, ha, u, kv, vs, h1, h2, h3, h4⟩ := c.look e (by intro z; cases z)
        exact ⟨.dct ks ws, ⟨a, u, kv, vs, r.at_ ha, .inl h1, h2, h3, h4⟩, h⟩
/-! ### names, constants -/
def mVar (i : Nat) : ME := fun ρ S k => match ρ[i]? with
  | some (some w) => k w S
  | _ => False
theorem mVar_mono {i : Nat} : MonoE (mVar i) := fun ρ S Q Q' h q => by
  unfold mVar at q ⊢
  split at q <;> first | exact h _ _ q | exact q.elim
theorem pem_var {X : Cx} {i : Nat} {x : Str} {pos : Pos} (h : PE X (.Name x pos) (tVar i)) : PEm X (.Name x pos) (mVar i) := by
  refine ⟨h.imp ?_, mVar_mono⟩
  rintro σ H Q ⟨A, B, ρ, S, k, r, h, a⟩
  unfold mVar at h
  split at h
  · rename_i w e
    obtain ⟨v, e1, q⟩ := r.slot i w e
    exact ⟨v, e1, a _ _ h A v H Keep.refl r.cells q⟩
  · exact h.elim
def mC (d : D) : ME := fun _ S k => k (.val d) S
theorem mC_mono {d : D} : MonoE (mC d) := fun ρ S Q Q' h q => h _ _ q
theorem pem_c {X : Cx} {e : Expr} {v : V} {d : D} (h : PE X e (tC v)) (rv : ∀ H av, RV X.kw H av d v) : PEm X e (mC d) := by
  refine ⟨h.imp ?_, mC_mono⟩
  rintro σ H Q ⟨A, B, ρ, S, k, r, h, a⟩
  exact a _ _ h A v H Keep.refl r.cells (rv _ _)
theorem pem_int {X : Cx} {i : Int} {j pos} : PEm X (.Constant (.int i) j pos) (mC (.int i)) := pem_c pe_int fun _ _ => by unfold RV; rfl
theorem pem_bl {X : Cx} {b : Bool} {j pos} : PEm X (.Constant (.bool b) j pos) (mC (.bl b)) := pem_c pe_bl fun _ _ => by unfold RV; rfl
theorem pem_non {X : Cx} {j pos} : PEm X (.Constant .none j pos) (mC .non) := pem_c pe_non fun _ _ => by unfold RV; rfl
theorem pem_str {X : Cx} {x : Str} {l : List Nat} {j pos} (e : x = tx l := by rfl) : PEm X (.Constant (.str x) j pos) (mC (.str l)) := pem_c pe_str fun _ _ => by unfold RV; rw [e]
theorem pem_globI {X : Cx} {x : Str} {i : Int} {u : Value} {pos : Pos} (hg : Gl X x) (hm : X.mg x = some u) (r : RelV (.int i) u) (hd : (x == ("__debug__" : Str)) = false := by decide) : PEm X (.Name x pos) (mC (.int i)) :=
  pem_c (pe_glob hg hm r hd) fun _ _ => by unfold RV; rfl
/-! ### operators -/
/-- an operation by values in the clean domain -/
abbrev OpD := D → D → Sto → KW → Prop
def MonoO (op : OpD) : Prop := ∀ a b S (Q Q' : KW), (∀ w S', Q w S' → Q' w S') → op a b S Q → op a b S Q'
def mBin (op : OpD) (a b : ME) : ME := fun ρ S k => a ρ S fun x S1 => b ρ S1 fun y S2 => rd S2 x fun dx => rd S2 y fun dy => op dx dy S2 k
/-- it is right -/
def OpM (K : Kw) (r : R2) (op : OpD) : Prop := ∀ (A : List (Option Addr)) (B : Addr → Prop) (H : Hp) (S : Sto) (dx dy : D) (vx vy : V) (k : KW) (Q : VK),
  Cells K H A B S → RD K H (av A B) dx vx → RD K H (av A B) dy vy → op dx dy S k → Aft K A B H k Q → r vx vy H Q
theorem mBin_mono {op : OpD} {a b : ME} (m : MonoO op) (ma : MonoE a) (mb : MonoE b) : MonoE (mBin op a b) := fun ρ S Q Q' h q =>
  ma ρ S _ _ (fun x S1 q1 => mb ρ S1 _ _ (fun y S2 q2 => rd_mono (fun dx q3 => rd_mono (fun dy q4 => m _ _ _ _ _ h q4) q3) q2) q1) q
theorem tOp_up {r : R2} {op : OpD} {a b : ME} (o : OpM K r op) {σ : L2.St} {H : Hp} {Q : VK} (h : up K (mBin op a b) σ H Q) : tOp r (up K a) (up K b) σ H Q := by
  obtain ⟨A, B, ρ, S, k, r0, h, af⟩ := h
  refine up_then r0 h fun x S1 A1 vx H1 h1 k1 r1 rx => ?_
  refine up_then r1 h1 fun y S2 A2 vy H2 h2 k2 r2 ry => ?_
  obtain ⟨dx, hx, h3⟩ := rd_ok r2.cells (rx.keep k2) h2
  obtain ⟨dy, hy, h4⟩ := rd_ok r2.cells ry h3
  exact o A2 B H2 S2 dx dy vx vy k Q r2.cells hx hy h4 (af.keep (k1.trans k2))
theorem pem_op {X : Cx} {a b : Expr} {ta tb : ME} {op : Operator} {r : R2} {o : OpD} {pos : Pos} (ho : OpR X (binaryOp op) r) (om : OpM X.kw r o) (mo : MonoO o) (ha : PEm X a ta) (hb : PEm X b tb) : PEm X (.BinOp a op b pos) (mBin o ta tb) :=
  ⟨(pe_op ho ha.pe hb.pe).imp fun _ _ _ h => tOp_up om h, mBin_mono mo ha.mono hb.mono⟩
theorem pem_cmp {X : Cx} {a b : Expr} {ta tb : ME} {op : CmpOp} {r : R2} {o : OpD} {pos : Pos} (ho : OpR X (compareOp op) r) (om : OpM X.kw r o) (mo : MonoO o) (ha : PEm X a ta) (hb : PEm X b tb) (hm : behindInMarks op b = false) : PEm X (.Compare a [op] [b] pos) (mBin o ta tb) :=
  ⟨(pe_cmpR ho ha.pe hb.pe hm).imp fun _ _ _ h => tOp_up om h, mBin_mono mo ha.mono hb.mono⟩
/-- a truth wanted -/
def asB (w : W) (S : Sto) (k : Bool → Sto → Prop) : Prop := match w with
  | .val (.bl b) => k b S
  | _ => False
theorem asB_mono {w : W} {S : Sto} {k k' : Bool → Sto → Prop} (h : ∀ b S, k b S → k' b S) (q : asB w S k) : asB w S k' := by
  unfold asB at q ⊢
  split at q <;> first | exact h _ _ q | exact q.elim
def mCond (t : ME) : MT := fun ρ S k => t ρ S fun w S1 => asB w S1 k
theorem mCond_mono {t : ME} (m : MonoE t) : MonoT (mCond t) := fun ρ S Q Q' h q => m ρ S _ _ (fun w S1 q1 => asB_mono h q1) q
theorem asB_ok {H : Hp} {A : List (Option Addr)} {B : Addr → Prop} {w : W} {v : V} {S : Sto} {k : Bool → Sto → Prop} (r : RW K H A B w v) (h : asB w S k) : ∃ b, v = .bl b ∧ k b S := by
  unfold asB at h
  split at h
  · rename_i b
    refine ⟨b, ?_, h⟩
    have r' : RV K H (av A B) (.bl b) v := r
    unfold RV at r'
    exact r'
  · exact h.elim
theorem ptm_val {X : Cx} {e : Expr} {t : ME} (h : PEm X e t) (he : ∀ whole, isTrue e X.env whole = (do let v ← whole; standAt e.pos; holding [v] (truthy v)) := by intro _; rfl) : PTm X e (mCond t) := by
  refine ⟨(pt_val h.pe he).imp ?_, mCond_mono h.mono⟩
  rintro σ H Q ⟨A, B, ρ, S, k, r0, h, af⟩
  refine up_then r0 h fun w S1 A1 v H1 h1 k1 r1 rw1 => ?_
  obtain ⟨b, e, q⟩ := asB_ok rw1 h1
  exact ⟨b, e, af b S1 q A1 H1 k1 r1.cells⟩
theorem ptm_cmp {X : Cx} {a b : Expr} {ta tb : ME} {op : CmpOp} {r : R2} {o : OpD} {pos : Pos} (ho : OpR X (compareOp op) r) (om : OpM X.kw r o) (mo : MonoO o) (ha : PEm X a ta) (hb : PEm X b tb) (hm : behindInMarks op b = false) : PTm X (.Compare a [op] [b] pos) (mCond (mBin o ta tb)) := by
  refine ⟨(pt_cmpR ho ha.pe hb.pe hm).imp ?_, mCond_mono (mBin_mono mo ha.mono hb.mono)⟩
  rintro σ H Q ⟨A, B, ρ, S, k, r0, h, af⟩
  refine tOp_up om ⟨A, B, ρ, S, _, r0, h, fun w S1 h1 A1 v H1 k1 c1 rw1 => ?_⟩
  obtain ⟨b, e, q⟩ := asB_ok rw1 h1
  exact ⟨b, e, af b S1 q A1 H1 k1 c1⟩
/-! ### and, or, not, if -/
def cAnd (t u : MT) : MT := fun ρ S k => t ρ S fun c S1 => if c = true then u ρ S1 k else k false S1
def cOr (t u : MT) : MT := fun ρ S k => t ρ S fun c S1 => if c = true then k true S1 else u ρ S1 k
def cNot (t : MT) : MT := fun ρ S k => t ρ S fun c S1 => k (!c) S1
theorem cAnd_mono {t u : MT} (mt : MonoT t) (mu : MonoT u) : MonoT (cAnd t u) := fun ρ S Q Q' h q => mt ρ S _ _ (fun c S1 q1 => by
  cases c with
  | true => exact mu ρ S1 _ _ h q1
  | false => exact h _ _ q1) q
theorem cOr_mono {t u : MT} (mt : MonoT t) (mu : MonoT u) : MonoT (cOr t u) := fun ρ S Q Q' h q => mt ρ S _ _ (fun c S1 q1 => by
  cases c with
  | false => exact mu ρ S1 _ _ h q1
  | true => exact h _ _ q1) q
theorem cNot_mono {t : MT} (mt : MonoT t) : MonoT (cNot t) := fun ρ S Q Q' h q => mt ρ S _ _ (fun c S1 q1 => h _ _ q1) q
section
variable {X : Cx} {a b : Expr} {rest : List Expr} {t u : MT} {pos : Pos}
theorem pwm_and1 (ha : PTm X a t) : PWm X (.BoolOp .And [a] pos) t := ⟨pw_and1 ha.pt, ha.mono⟩
theorem pwm_or1 (ha : PTm X a t) : PWm X (.BoolOp .Or [a] pos) t := ⟨pw_or1 ha.pt, ha.mono⟩
theorem pwm_and (ha : PTm X a t) (hb : PWm X (.BoolOp .And (b :: rest) pos) u) : PWm X (.BoolOp .And (a :: b :: rest) pos) (cAnd t u) := by
  refine ⟨(pw_and ha.pt hb.pw).imp ?_, cAnd_mono ha.mono hb.mono⟩
  rintro σ H Q ⟨A, B, ρ, S, k, r0, h, af⟩
  refine upT_then r0 h fun c S1 A1 H1 h1 k1 r1 => ?_
  cases c with
  | true => exact ⟨A1, B, ρ, S1, k, r1, h1, af.keep k1⟩
  | false => exact af _ _ h1 A1 H1 k1 r1.cells
theorem pwm_or (ha : PTm X a t) (hb : PWm X (.BoolOp .Or (b :: rest) pos) u) : PWm X (.BoolOp .Or (a :: b :: rest) pos) (cOr t u) := by
  refine ⟨(pw_or ha.pt hb.pw).imp ?_, cOr_mono ha.mono hb.mono⟩
  rintro σ H Q ⟨A, B, ρ, S, k, r0, h, af⟩
  refine upT_then r0 h fun c S1 A1 H1 h1 k1 r1 => ?_
  cases c with
  | false => exact ⟨A1, B, ρ, S1, k, r1, h1, af.keep k1⟩
  | true => exact af _ _ h1 A1 H1 k1 r1.cells
theorem PWm.ptm {e : Expr} (h : PWm X e t) : PTm X e t := ⟨h.pw.pt, h.mono⟩
theorem ptm_not (ha : PTm X a t) : PTm X (.UnaryOp .Not a pos) (cNot t) := by
  refine ⟨(pt_not ha.pt).imp ?_, cNot_mono ha.mono⟩
  rintro σ H Q ⟨A, B, ρ, S, k, r0, h, af⟩
  exact upT_then r0 h fun c S1 A1 H1 h1 k1 r1 => af _ _ h1 A1 H1 k1 r1.cells
end
def mIf (c : MT) (a b : ME) : ME := fun ρ S k => c ρ S fun x S1 => if x = true then a ρ S1 k else b ρ S1 k
/-- and, or as values: all but the last are truths -/
def mAnd (a b : ME) : ME := fun ρ S k => a ρ S fun w S1 => asB w S1 fun c S1 => if c = true then b ρ S1 k else k (.val (.bl false)) S1
def mOr (a b : ME) : ME := fun ρ S k => a ρ S fun w S1 => asB w S1 fun c S1 => if c = true then k (.val (.bl true)) S1 else b ρ S1 k
def mNot (a : ME) : ME := fun ρ S k => a ρ S fun w S1 => asB w S1 fun c S1 => k (.val (.bl (!c))) S1
theorem mAnd_mono {a b : ME} (ma : MonoE a) (mb : MonoE b) : MonoE (mAnd a b) := fun ρ S Q Q' h q => ma ρ S _ _ (fun w S1 q1 => asB_mono (fun c S1 q2 => by
  cases c with
  | true => exact mb ρ S1 _ _ h q2
  | false => exact h _ _ q2) q1) q
theorem mOr_mono {a b : ME} (ma : MonoE a) (mb : MonoE b) : MonoE (mOr a b) := fun ρ S Q Q' h q => ma ρ S _ _ (fun w S1 q1 => asB_mono (fun c S1 q2 => by
  cases c with
  | false => exact mb ρ S1 _ _ h q2
  | true => exact h _ _ q2) q1) q
theorem mNot_mono {a : ME} (ma : MonoE a) : MonoE (mNot a) := fun ρ S Q Q' h q => ma ρ S _ _ (fun w S1 q1 => asB_mono (fun c S1 q2 => h _ _ q2) q1) q
theorem RW.bl {H : Hp} {A : List (Option Addr)} {B : Addr → Prop} {b : Bool} : RW K H A B (.val (.bl b)) (.bl b) := by show RV K _ _ _ _; unfold RV; rfl
theorem RW.int {H : Hp} {A : List (Option Addr)} {B : Addr → Prop} {b : Int} : RW K H A B (.val (.int b)) (.int b) := by show RV K _ _ _ _; unfold RV; rfl
theorem RW.str {H : Hp} {A : List (Option Addr)} {B : Addr → Prop} {l : List Nat} : RW K H A B (.val (.str l)) (.str (tx l)) := by show RV K _ _ _ _; unfold RV; rfl
theorem RW.non {H : Hp} {A : List (Option Addr)} {B : Addr → Prop} : RW K H A B (.val .non) .non := by show RV K _ _ _ _; unfold RV; rfl
section
variable {X : Cx} {a b : Expr} {rest : List Expr} {t u : ME} {pos : Pos} {op : PySem.BoolOp}
theorem pem_one (ha : PEm X a t) : PEm X (.BoolOp op [a] pos) t := ⟨pe_one ha.pe, ha.mono⟩
theorem pem_and (ha : PEm X a t) (hb : PEm X (.BoolOp .And (b :: rest) pos) u) : PEm X (.BoolOp .And (a :: b :: rest) pos) (mAnd t u) := by
  refine ⟨(pe_and ha.pe hb.pe).imp ?_, mAnd_mono ha.mono hb.mono⟩
  rintro σ H Q ⟨A, B, ρ, S, k, r0, h, af⟩
  refine up_then r0 h fun w S1 A1 v H1 h1 k1 r1 rw1 => ?_
  obtain ⟨c, e, q⟩ := asB_ok rw1 h1
  refine ⟨c, e, ?_⟩
  cases c with
  | true => exact ⟨A1, B, ρ, S1, k, r1, q, af.keep k1⟩
  | false => exact af _ _ q A1 _ H1 k1 r1.cells RW.bl
theorem pem_or (ha : PEm X a t) (hb : PEm X (.BoolOp .Or (b :: rest) pos) u) : PEm X (.BoolOp .Or (a :: b :: rest) pos) (mOr t u) := by
  refine ⟨(pe_or ha.pe hb.pe).imp ?_, mOr_mono ha.mono hb.mono⟩
  rintro σ H Q ⟨A, B, ρ, S, k, r0, h, af⟩
  refine up_then r0 h fun w S1 A1 v H1 h1 k1 r1 rw1 => ?_
  obtain ⟨c, e, q⟩ := asB_ok rw1 h1
  refine ⟨c, e, ?_⟩
  cases c with
  | false => exact ⟨A1, B, ρ, S1, k, r1, q, af.keep k1⟩
  | true => exact af _ _ q A1 _ H1 k1 r1.cells RW.bl
theorem pem_not (ha : PEm X a t) : PEm X (.UnaryOp .Not a pos) (mNot t) := by
  refine ⟨(pe_not ha.pe).imp ?_, mNot_mono ha.mono⟩
  rintro σ H Q ⟨A, B, ρ, S, k, r0, h, af⟩
  refine up_then r0 h fun w S1 A1 v H1 h1 k1 r1 rw1 => ?_
  obtain ⟨c, e, q⟩ := asB_ok rw1 h1
  exact ⟨c, e, af _ _ q A1 _ H1 k1 r1.cells RW.bl⟩
end
/-! ### blocks and small statements -/
def sSeq (t u : MS) : MS := fun E ρ S => t { E with nx := fun ρ' S' => u E ρ' S' } ρ S
def sNext : MS := fun E ρ S => E.nx ρ S
theorem sSeq_mono {t u : MS} (mt : MonoS t) (mu : MonoS u) : MonoS (sSeq t u) := fun E E' ρ S l q =>
  mt { E with nx := fun ρ' S' => u E ρ' S' } { E' with nx := fun ρ' S' => u E' ρ' S' } ρ S ⟨fun ρ' S' q' => mu E E' ρ' S' l q', l.rt, l.bk, l.ct⟩ q
section
variable {X : Cx} {st : Stmt} {rest : List Stmt} {t u : MS} {e : Expr} {te : ME} {pos : Pos}
theorem pssm_nil : PSsm X [] sNext := by
  refine ⟨pss_nil.imp ?_, fun E E' ρ S l q => l.nx _ _ q⟩
  rintro D σ H ⟨A, B, ρ, S, E, r, h, a⟩
  exact a.nx _ _ h A σ H Keep.refl r
theorem pssm_cons (h1 : PSm X st t) (h2 : PSsm X rest u) : PSsm X (st :: rest) (sSeq t u) := by
  refine ⟨(pss_cons h1.ps h2.pss).imp ?_, sSeq_mono h1.mono h2.mono⟩
  rintro D σ H ⟨A, B, ρ, S, E, r, h, a⟩
  exact ⟨A, B, ρ, S, _, r, h, fun ρ' S' h' A' σ' H' k r' => ⟨A', B, ρ', S', E, r', h', a.keep k⟩, a.rt, a.bk, a.ct⟩
theorem pssm_one (h1 : PSm X st t) : PSsm X [st] t := ⟨pss_one h1.ps, h1.mono⟩
def sBrk : MS := fun E ρ S => E.bk ρ S
def sCont : MS := fun E ρ S => E.ct ρ S
def sExpr (t : ME) : MS := fun E ρ S => t ρ S fun _ S1 => E.nx ρ S1
theorem psm_expr (he : PEm X e te) (hs : swapsWith e none pos.line X.env = pure false := by rfl) : PSm X (.Expr e pos) (sExpr te) := by
  refine ⟨(ps_expr he.pe hs).imp ?_, fun E E' ρ S l q => he.mono ρ S _ _ (fun _ S1 q1 => l.nx _ _ q1) q⟩
  rintro D σ H ⟨A, B, ρ, S, E, r, h, a⟩
  exact up_then r h fun w S1 A1 v H1 h1 k1 r1 _ => a.nx _ _ h1 A1 σ H1 k1 r1
def sRet (t : ME) : MS := fun E ρ S => t ρ S E.rt
theorem psm_ret (he : PEm X e te) : PSm X (.Return (some e) pos) (sRet te) := by
  refine ⟨(ps_ret he.pe).imp ?_, fun E E' ρ S l q => he.mono ρ S _ _ l.rt q⟩
  rintro D σ H ⟨A, B, ρ, S, E, r, h, a⟩
  exact ⟨A, B, ρ, S, _, r, h, a.rt⟩
def sRetN : MS := fun E _ S => E.rt (.val .non) S
def sIf (c : MT) (t u : MS) : MS := fun E ρ S => c ρ S fun b S1 => if b = true then t E ρ S1 else u E ρ S1
theorem psm_if {c : Expr} {a b : List Stmt} {tc : MT} (hc : PTm X c tc) (ha : PSsm X a t) (hb : PSsm X b u) : PSm X (.If c a b pos) (sIf tc t u) := by
  refine ⟨(ps_if hc.pt ha.pss hb.pss).imp ?_, fun E E' ρ S l q => hc.mono ρ S _ _ (fun b S1 q1 => ?_) q⟩
  · rintro D σ H ⟨A, B, ρ, S, E, r, h, a⟩
    refine upT_then r h fun b S1 A1 H1 h1 k1 r1 => ?_
    cases b with
    | true => exact ⟨A1, B, ρ, S1, E, r1, h1, a.keep k1⟩
    | false => exact ⟨A1, B, ρ, S1, E, r1, h1, a.keep k1⟩
  · cases b with
    | true => exact ha.mono E E' ρ S1 l q1
    | false => exact hb.mono E E' ρ S1 l q1
end
/-! ### targets, assignments -/
abbrev MG := W → Rho → Sto → (Rho → Sto → Prop) → Prop
def MonoG (t : MG) : Prop := ∀ w ρ S (Q Q' : Rho → Sto → Prop), (∀ ρ S, Q ρ S → Q' ρ S) → t w ρ S Q → t w ρ S Q'
/-- behind a target: which slots may have changed -/
def AftG (K : Kw) (A : List (Option Addr)) (B : Addr → Prop) (H : Hp) (σ : L2.St) (sl : List Nat) (k : Rho → Sto → Prop) (Q : L2.St → Hp → Prop) : Prop :=
  ∀ ρ S', k ρ S' → ∀ A' σ' H', Keep A H A' H' → Rel K H' A' B ρ S' σ' → (∀ vs : List Nat, (∀ i ∈ sl, i ∈ vs) → wipe σ' vs = wipe σ vs) → Q σ' H'
theorem AftR.g {A : List (Option Addr)} {B : Addr → Prop} {H : Hp} {σ : L2.St} {sl : List Nat} {k : Rho → Sto → Prop} {Q : L2.St → Hp → Prop} (a : AftR K A B H k Q) : AftG K A B H σ sl k Q := fun ρ S' h A' σ' H' k' r _ => a ρ S' h A' σ' H' k' r
theorem wipe_at (σ : L2.St) : ∀ (vs : List Nat) (j : Nat), (wipe σ vs)[j]? = if j ∈ vs then (if j < σ.length then some none else none) else σ[j]?
  | [], j => by simp [wipe]
  | v :: vs, j => by
    unfold wipe
    have hlen := wipe_length σ vs
    by_cases h : v = j
    · subst h
      rw [if_pos List.mem_cons_self]
      by_cases hl : v < σ.length
      · rw [List.getElem?_set_self (by rw [hlen]; exact hl), if_pos hl]
      · rw [List.getElem?_eq_none (by rw [List.length_set, hlen]; omega), if_neg hl]
    · rw [List.getElem?_set_ne h, wipe_at σ vs j]
      by_cases hm : j ∈ vs
      · rw [if_pos hm, if_pos (List.mem_cons_of_mem _ hm)]
      · rw [if_neg hm, if_neg fun z => (List.mem_cons.mp z).elim (fun q => h q.symm) hm]
theorem wipe_set {σ : L2.St} {i : Nat} {x : Option V} {vs : List Nat} (h : i ∈ vs) : wipe (σ.set i x) vs = wipe σ vs := by
  apply List.ext_getElem?
  intro j
  rw [wipe_at, wipe_at, List.length_set]
  by_cases hj : j ∈ vs
  · rw [if_pos hj, if_pos hj]
  · rw [if_neg hj, if_neg hj, List.getElem?_set_ne (show i ≠ j from fun e => hj (by rw [← e]; exact h))]
structure PGm (X : Cx) (target : Expr) (g : TG) (t : MG) (sl : List Nat) : Prop where
  pg : PG X target g
  ok : ∀ A B H w v ρ S σ k Q, Rel X.kw H A B ρ S σ → RW X.kw H A B w v → t w ρ S k → AftG X.kw A B H σ sl k Q → g v σ H Q
  mono : MonoG t
def gVar (i : Nat) : MG := fun w ρ S k => k (ρ.set i (some w)) S
section
variable {X : Cx} {pos : Pos}
theorem pgm_name {i : Nat} {x : Str} (h : PG X (.Name x pos) (gName i)) : PGm X (.Name x pos) (gName i) (gVar i) [i] :=
  ⟨h, fun A B H w v ρ S σ k Q r rw' h a => a _ _ h A _ H Keep.refl (r.set rw') fun vs hv => wipe_set (hv i (by simp)), fun w ρ S Q Q' h q => h _ _ q⟩
/-- several targets of the items of a tuple -/
abbrev MGs := List D → Rho → Sto → (Rho → Sto → Prop) → Prop
structure PGsm (X : Cx) (ts : List Expr) (g : TGs) (t : MGs) (sl : List Nat) : Prop where
  pgs : PGs X ts g
  ok : ∀ A B H ds vs ρ S σ k Q, Rel X.kw H A B ρ S σ → RVs X.kw H (av A B) ds vs → t ds ρ S k → AftG X.kw A B H σ sl k Q → g vs σ H Q
  mono : ∀ ds ρ S (Q Q' : Rho → Sto → Prop), (∀ ρ S, Q ρ S → Q' ρ S) → t ds ρ S Q → t ds ρ S Q'
def gsNil : MGs := fun ds ρ S k => match ds with
  | [] => k ρ S
  | _ => False
def gsCons (t : MG) (u : MGs) : MGs := fun ds ρ S k => match ds with
  | d :: r => t (.val d) ρ S fun ρ1 S1 => u r ρ1 S1 k
  | [] => False
theorem pgsm_nil : PGsm X [] gNil gsNil [] := by
  refine ⟨pgs_nil, fun A B H ds vs ρ S σ k Q r rv h a => ?_, fun ds ρ S Q Q' h q => ?_⟩
  · cases ds with
    | nil =>
      unfold RVs at rv
      exact ⟨rv, a _ _ h A σ H Keep.refl r fun _ _ => rfl⟩
    | cons d ds => exact h.elim
  · cases ds with
    | nil => exact h _ _ q
    | cons d ds => exact q.elim
theorem pgsm_cons {e : Expr} {es : List Expr} {g1 : TG} {g2 : TGs} {t : MG} {u : MGs} {sl sl2 : List Nat} (h1 : PGm X e g1 t sl) (h2 : PGsm X es g2 u sl2)
    (hs : (assignEach (e :: es) X.env).map (·.2) = assign e X.env :: (assignEach es X.env).map (·.2) := by rfl) : PGsm X (e :: es) (gCons g1 g2) (gsCons t u) (sl ++ sl2) := by
  have q1 := h1.ok
  have q2 := h2.ok
  refine ⟨pgs_cons h1.pg h2.pgs hs, fun A B H ds vs ρ S σ k Q r rv h a => ?_, fun ds ρ S Q Q' h q => ?_⟩
  · cases ds with
    | nil => exact h.elim
    | cons d ds =>
      unfold RVs at rv
      obtain ⟨v, vr, e, rd1, rds⟩ := rv
      refine ⟨v, vr, e, q1 A B H (.val d) v ρ S σ _ _ r rd1 h fun ρ1 S1 h1 A1 σ1 H1 k1 r1 w1 => ?_⟩
      refine q2 A1 B H1 ds vr ρ1 S1 σ1 k Q r1 (RVs.stay k1.stay rds) h1 fun ρ2 S2 h2 A2 σ2 H2 k2 r2 w2 => a _ _ h2 A2 σ2 H2 (k1.trans k2) r2 fun vs hv => ?_
      exact (w2 vs fun i hi => hv i (List.mem_append_right _ hi)).trans (w1 vs fun i hi => hv i (List.mem_append_left _ hi))
  · cases ds with
    | nil => exact q.elim
    | cons d ds => exact h1.mono _ _ _ _ _ (fun ρ1 S1 q' => h2.mono _ _ _ _ _ h q') q
def gTupM (t : MGs) : MG := fun w ρ S k => match w with
  | .val (.tup ds) => t ds ρ S k
  | _ => False
theorem pgm_tup {es : List Expr} {k : Nat} {g : TGs} {t : MGs} {n : Nat} {sl : List Nat} (hc : X.calm = true) (h : PGsm X es g t sl) (ht : ∀ ds ρ S Q, t ds ρ S Q → ds.length = n)
    (hn : (assignEach es X.env).length = n := by rfl) (hst : (assignEach es X.env).findIdx? (·.1) = none := by rfl) : PGm X (.Tuple es k pos) (gTup X.kw n g) (gTupM t) sl := by
  have q := h.ok
  refine ⟨pg_tup hc h.pgs hn hst, fun A B H w v ρ S σ k Q r rw' h a => ?_, fun w ρ S Q Q' h' q' => ?_⟩
  · unfold gTupM at h
    split at h
    · rename_i ds
      have rw2 : RV X.kw H (av A B) (.tup ds) v := rw'
      unfold RV at rw2
      obtain ⟨a1, vs, e, rd1, _, rv⟩ := rw2
      exact ⟨a1, vs, e, .inl (.inl rd1), rv.length.trans (ht _ _ _ _ h), q A B H ds vs ρ S σ k Q r rv h a⟩
    · exact h.elim
  · unfold gTupM at q' ⊢
    split at q'
    · exact h.mono _ _ _ _ _ h' q'
    · exact q'.elim
theorem gsNil_len (ds ρ S Q) (h : gsNil ds ρ S Q) : ds.length = 0 := by
  cases ds with
  | nil => rfl
  | cons d ds => exact h.elim
def sSet (i : Nat) (t : ME) : MS := fun E ρ S => t ρ S fun w S1 => E.nx (ρ.set i (some w)) S1
theorem psm_set {i : Nat} {x : Str} {e : Expr} {te : ME} {pos' : Pos} (h : PEm X e te) (hp : ∀ t, PE X e t → PS X (.Assign [.Name x pos'] e pos) (tAsg t (gName i))) : PSm X (.Assign [.Name x pos'] e pos) (sSet i te) := by
  refine ⟨(hp _ h.pe).imp ?_, fun E E' ρ S l q => h.mono ρ S _ _ (fun _ S1 q1 => l.nx _ _ q1) q⟩
  rintro D σ H ⟨A, B, ρ, S, E, r, h, a⟩
  exact up_then r h fun w S1 A1 v H1 h1 k1 r1 rw1 => a.nx _ _ h1 A1 _ H1 k1 (r1.set rw1)
def sAsg (t : ME) (g : MG) : MS := fun E ρ S => t ρ S fun w S1 => g w ρ S1 E.nx
theorem psm_asg {tg e : Expr} {te : ME} {g' : TG} {g : MG} {sl : List Nat} (he : PEm X e te) (hg : PGm X tg g' g sl) (hs : swapsWithSole [tg] e pos.line X.env = pure false := by rfl) (hw : swappedStores [tg] e X.env = pure none := by rfl)
    (h1 : (assignEach [tg] X.env).map (·.2) = [assign tg X.env] := by rfl) : PSm X (.Assign [tg] e pos) (sAsg te g) := by
  have q := hg.ok
  refine ⟨(ps_asg he.pe hg.pg hs hw h1).imp ?_, fun E E' ρ S l q => he.mono ρ S _ _ (fun _ S1 q1 => hg.mono _ _ _ _ _ l.nx q1) q⟩
  rintro D σ H ⟨A, B, ρ, S, E, r, h, a⟩
  exact up_then r h fun w S1 A1 v H1 h1 k1 r1 rw1 => q A1 B H1 w v ρ S1 σ _ _ r1 rw1 h1 (a.nx.keep k1).g
end
end Fo
/-! Core3: operators by values. -/
namespace Fo
open PySem PySem.Spec PyProof.Rows L2
variable {K : Kw}
theorem RD.int {H : Hp} {av : Addr → Prop} {i : Int} {v : V} (r : RD K H av (.int i) v) : v = .int i := by
  have r' : RV K H av (.int i) v := r
  unfold RV at r'; exact r'
theorem RD.bl {H : Hp} {av : Addr → Prop} {i : Bool} {v : V} (r : RD K H av (.bl i) v) : v = .bl i := by
  have r' : RV K H av (.bl i) v := r
  unfold RV at r'; exact r'
theorem RD.str {H : Hp} {av : Addr → Prop} {i : List Nat} {v : V} (r : RD K H av (.str i) v) : v = .str (tx i) := by
  have r' : RV K H av (.str i) v := r
  unfold RV at r'; exact r'
theorem RD.non {H : Hp} {av : Addr → Prop} {v : V} (r : RD K H av .non v) : v = .non := by
  have r' : RV K H av .non v := r
  unfold RV at r'; exact r'
theorem RD.tup {H : Hp} {av : Addr → Prop} {ds : List D} {v : V} (r : RD K H av (.tup ds) v) : ∃ a vs, v = .ref a ∧ H a = some (.tup vs) ∧ ¬ av a ∧ RVs K H av ds vs := by
  have r' : RV K H av (.tup ds) v := r
  unfold RV at r'; exact r'
theorem RD.lst {H : Hp} {av : Addr → Prop} {ds : List D} {v : V} (r : RD K H av (.lst ds) v) : ∃ a vs, v = .ref a ∧ H a = some (.lst vs) ∧ RVs K H av ds vs := r
theorem RD.dct {H : Hp} {av : Addr → Prop} {ks ws : List D} {v : V} (r : RD K H av (.dct ks ws) v) : ∃ a u kv vs, v = .ref a ∧ Rd H a u ∧ DicB K a ks kv vs u ∧ RVs K H av ks kv ∧ RVs K H av ws vs := r
theorem RD.scr {H : Hp} {av : Addr → Prop} {l : List Int} {v : V} (r : RD K H av (.scr l) v) : ∃ a, v = .ref a ∧ SqL K H a (l.map V.int) := by
  have r' : RV K H av (.scr l) v := r
  unfold RV at r'
  obtain ⟨a, e, q⟩ := r'
  exact ⟨a, e, q.imp (fun q => q.1) fun q => q⟩
section
variable {A : List (Option Addr)} {B : Addr → Prop} {H : Hp} {S : Sto} {k : KW} {Q : VK}
theorem Aft.now (a : Aft K A B H k Q) (c : Cells K H A B S) {w : W} {v : V} (h : k w S) (r : RW K H A B w v) : Q v H := a w S h A v H Keep.refl c r
theorem Aft.int (a : Aft K A B H k Q) (c : Cells K H A B S) {i : Int} (h : k (.val (.int i)) S) : Q (.int i) H := a.now c h RW.int
theorem Aft.bl (a : Aft K A B H k Q) (c : Cells K H A B S) {i : Bool} (h : k (.val (.bl i)) S) : Q (.bl i) H := a.now c h RW.bl
theorem Aft.str (a : Aft K A B H k Q) (c : Cells K H A B S) {l : List Nat} (h : k (.val (.str l)) S) : Q (.str (tx l)) H := a.now c h RW.str
theorem Aft.non (a : Aft K A B H k Q) (c : Cells K H A B S) (h : k (.val .non) S) : Q .non H := a.now c h RW.non
theorem Aft.newTup (a : Aft K A B H k Q) (c : Cells K H A B S) {ds : List D} {vs : List V} (h : k (.val (.tup ds)) S) (r : RVs K H (av A B) ds vs) {p : Addr} (hp : H p = none) : Q (.ref p) (upd H p (.tup vs)) :=
  a _ S h A _ _ (Keep.upd hp) (c.upd hp) (RV.new_tup c hp r)
theorem Aft.newLst (a : Aft K A B H k Q) (c : Cells K H A B S) {ds : List D} {vs : List V} (h : k (.val (.lst ds)) S) (r : RVs K H (av A B) ds vs) {p : Addr} (hp : H p = none) : Q (.ref p) (upd H p (.lst vs)) :=
  a _ S h A _ _ (Keep.upd hp) (c.upd hp) (RV.new_lst c hp r)
end
theorem tx_append (a b : List Nat) : tx a ++ tx b = tx (a ++ b) := by
  show Str.mk _ = Str.mk _
  simp [tx]
theorem tx_length (a : List Nat) : (tx a).length = a.length := by
  show (tx a).cps.size = _
  simp [tx]
theorem tx_inj {a b : List Nat} : tx a = tx b ↔ a = b := by
  constructor
  · intro h
    have := congrArg (fun z : Str => z.cps.toList) h
    simpa [tx] using this
  · rintro rfl; rfl
theorem tx_toList (a : List Nat) : (tx a).cps.toList = a := by simp [tx]
/-! ### + -/
def addD : OpD := fun a b S k => match a, b with
  | .int i, .int j => k (.val (.int (i + j))) S
  | .str s, .str t => s.length + t.length ≤ sizeLine ∧ k (.val (.str (s ++ t))) S
  | .tup s, .tup t => s.length + t.length ≤ sizeLine ∧ k (.val (.tup (s ++ t))) S
  | .lst s, .lst t => s.length + t.length ≤ sizeLine ∧ k (.val (.lst (s ++ t))) S
  | _, _ => False
theorem addD_mono : MonoO addD := by
  intro a b S Q Q' h q
  cases a <;> cases b <;> first | exact q.elim | exact h _ _ q | exact ⟨q.1, h _ _ q.2⟩
def rAdd (K : Kw) : R2 := fun x y H Q => rI0 (fun i j => .int (i + j)) x y H Q ∨ (∃ i j, x = .str i ∧ y = .str j ∧ i.length + j.length ≤ sizeLine ∧ Q (.str (i ++ j)) H) ∨ rCatA K x y H Q ∨ rCat x y H Q
theorem op_addM {X : Cx} : OpR X (binaryOp .Add) (rAdd X.kw) := op_add.or (op_add_str.or (op_catA.or op_cat))
theorem addM : OpM K (rAdd K) addD := by
  intro A B H S dx dy vx vy k Q c rx ry h af
  cases dx with
  | int i =>
    cases dy with
    | int j => rw [rx.int, ry.int]; exact .inl ⟨i, j, rfl, rfl, af.int c h⟩
    | _ => exact h.elim
  | str i =>
    cases dy with
    | str j =>
      rw [rx.str, ry.str]
      refine .inr (.inl ⟨_, _, rfl, rfl, by rw [tx_length, tx_length]; exact h.1, ?_⟩)
      rw [tx_append]
      exact af.str c h.2
    | _ => exact h.elim
  | tup i =>
    cases dy with
    | tup j =>
      obtain ⟨a, xs, rfl, ra, na, va⟩ := rx.tup
      obtain ⟨b, ys, rfl, rb, nb, vb⟩ := ry.tup
      refine .inr (.inr (.inl ⟨a, b, xs, ys, rfl, rfl, .inl (.inl ra), .inl (.inl rb), by rw [va.length, vb.length]; exact h.1, fun e => ?_, fun _ e => ?_, fun _ _ p hp => af.newTup c h.2 (va.append vb) hp⟩))
      · subst e
        have e2 : i = [] := List.length_eq_zero_iff.mp va.length.symm
        subst e2
        refine af.now c h.2 ?_
        show RV K H (av A B) (.tup ([] ++ j)) (.ref b)
        unfold RV
        exact ⟨b, ys, rfl, rb, nb, vb⟩
      · subst e
        have e2 : j = [] := List.length_eq_zero_iff.mp vb.length.symm
        subst e2
        refine af.now c h.2 ?_
        show RV K H (av A B) (.tup (i ++ [])) (.ref a)
        rw [List.append_nil]
        unfold RV
        exact ⟨a, xs, rfl, ra, na, va⟩
    | _ => exact h.elim
  | lst i =>
    cases dy with
    | lst j =>
      obtain ⟨a, xs, rfl, ra, va⟩ := rx.lst
      obtain ⟨b, ys, rfl, rb, vb⟩ := ry.lst
      exact .inr (.inr (.inr ⟨a, b, xs, ys, rfl, rfl, ra, rb, by rw [va.length, vb.length]; exact h.1, fun p hp => af.newLst c h.2 (va.append vb) hp⟩))
    | _ => exact h.elim
  | _ => exact h.elim
/-! ### ints -/
def intD (C : Int → Int → Prop) (f : Int → Int → Int) : OpD := fun a b S k => match a, b with
  | .int i, .int j => C i j ∧ k (.val (.int (f i j))) S
  | _, _ => False
theorem intD_mono {C : Int → Int → Prop} {f : Int → Int → Int} : MonoO (intD C f) := by
  intro a b S Q Q' h q
  cases a <;> cases b <;> first | exact q.elim | exact ⟨q.1, h _ _ q.2⟩
theorem intM {C : Int → Int → Prop} {f : Int → Int → Int} : OpM K (rI C fun i j => .int (f i j)) (intD C f) := by
  intro A B H S dx dy vx vy k Q c rx ry h af
  cases dx with
  | int i =>
    cases dy with
    | int j => rw [rx.int, ry.int]; exact ⟨i, j, rfl, rfl, h.1, af.int c h.2⟩
    | _ => exact h.elim
  | _ => exact h.elim
def subD : OpD := intD (fun _ _ => True) fun i j => i - j
def modD : OpD := intD (fun _ j => 0 < j) fun i j => i % j
def fdivD : OpD := intD CDiv fun i j => i / j
def powD : OpD := intD CPow fun i j => i ^ j.toNat
/-! ### * -/
theorem tuple_mul1 (l : Addr) (items : Array Value) (n : Nat) (dd : Option Addr) (sl : Array (Option Value)) (u : Tok) :
    Meets (Builtin.«tuple.__mul__» ⟨[.ref l, .int 1 u], []⟩) (fun _ R s => s.heap.get? l = some { cls := .type "tuple", dict := dd, data := .seq items n, slots := sl } ∧ R (.ok (.ret (Value.ref l))) s) :=
  .of_wp fun prog w A R s h => by
    obtain ⟨hp, g, d, tk, os⟩ := s
    obtain ⟨hl, h⟩ := h
    have f1 := AutoSeq1.idx_int
    have c1 : (items.isEmpty || (1 : Int) == 1) = true := by simp
    wp_walk using wpAny_loadPart' hl
    repeat (first
      | (refine wpAny_ite_true (decide_eq_true c1) ?_; wp_walk using wpAny_loadPart' hl)
      | (refine wpAny_ite_false (decide_eq_false (by decide)) ?_; wp_walk using wpAny_loadPart' hl))
    exact ⟨_, rfl, h⟩
def rRep1 (K : Kw) : R2 := fun x y H Q => ∃ l xs, x = .ref l ∧ y = .int 1 ∧ SqT K H l xs ∧ Q (.ref l) H
theorem op_rep1 {X : Cx} : OpR X (binaryOp .Mult) (rRep1 X.kw) := by
  intro pins s σ H x y v u Q I rx ry h
  obtain ⟨l, xs, rfl, rfl, hT, q⟩ := h
  cases rx
  obtain ⟨t, rfl⟩ := ry
  obtain ⟨its, r, ⟨⟨cls, dd, data, sl⟩, ho, hc, n, hd⟩, hs⟩ := I.tuple hT
  simp only at hc hd
  subst hc hd
  refine wpAny_binaryOp_repeat_ref (T := "tuple") (U := "int") (by decide) ⟨_, ho, rfl⟩ (fun s' => typeIs_int s' 1 t) noFill_tuple_mul F.fills_int_mul F.slot_int_rmul repeat_tuple F.slot_int_index.lookup
    (call_meets F.slot_int_rmul (typeIs_int s 1 t) F.entry_int_rmul (F.args_int_rmul_2 _ _) (int_rmul_tuple 1 t l its.toArray n dd sl)
      ⟨ho, rfl, ⟨_, ho, rfl⟩, call_meets F.slot_tuple_mul ⟨_, ho, rfl⟩ F.entry_tuple_mul (F.args_tuple_mul_2 _ _) (tuple_mul1 l its.toArray n dd sl t) ⟨ho, ?_⟩⟩)
  exact ⟨.ref l, H, I, rfl, q⟩
/-- a text times an int -/
def rRepS : R2 := fun x y H Q => ∃ (l : List Nat) (n : Int), x = .str (tx l) ∧ y = .int n ∧ (2 ≤ n ∧ n ≤ 1000 ∧ l ≠ [] ∧ l.length ≤ 1000) ∧ Q (.str (tx (List.replicate n.toNat l).flatten)) H
theorem fold_cat (z : Array Nat) : ∀ (n : Nat) (a : Array Nat), ((List.replicate n z).foldl (· ++ ·) a).toList = a.toList ++ (List.replicate n z.toList).flatten
  | 0, a => by simp
  | n + 1, a => by
    rw [List.replicate_succ, List.foldl_cons, fold_cat z n (a ++ z), List.replicate_succ, List.flatten_cons, Array.toList_append, List.append_assoc]
theorem op_repS {X : Cx} : OpR X (binaryOp .Mult) rRepS := by
  intro pins s σ H x y v u Q I rx ry h
  obtain ⟨l, n, rfl, rfl, ⟨h1, h2, h3, h4⟩, q⟩ := h
  obtain ⟨t, rfl⟩ := rx
  obtain ⟨t', rfl⟩ := ry
  have hlen : (tx l).length = l.length := by show (tx l).cps.size = _; simp [tx]
  have hpos : 0 < l.length := List.length_pos_iff.mpr h3
  have hno : (n == 1 || (tx l).length == 0) = false := by
    rw [hlen]
    simp
    exact ⟨by omega, h3⟩
  have hmul : l.length * n.toNat ≤ 1000 * 1000 := Nat.mul_le_mul h4 (by omega)
  have e : (⟨(List.replicate n.toNat (tx l).cps).foldl (· ++ ·) #[]⟩ : Str) = tx (List.replicate n.toNat l).flatten := by
    show Str.mk _ = Str.mk _
    congr 1
    apply Array.toList_inj.mp
    rw [fold_cat]
    simp [tx]
  refine P.mul_str (by rw [decide_eq_false (by omega), decide_eq_false (by omega)]; rfl) (fun _ _ z => ?_) (fun _ _ => ?_) ?_
  · rw [hlen] at z
    have : (1000 : Int) ≤ (2 ^ 63 - 1) / n := Int.le_ediv_of_mul_le (by omega) (by omega)
    omega
  · rw [hlen]
    exact decide_eq_false (by unfold sizeLine; omega)
  · rw [if_neg (by omega), if_neg (by rw [hno]; decide), e]
    refine ⟨?_, ⟨.str _, H, I.tok _, ⟨_, rfl⟩, q⟩⟩
    rw [show (tx (List.replicate n.toNat l).flatten).length = (List.replicate n.toNat l).flatten.length by show (tx _).cps.size = _; simp [tx], List.length_flatten, List.map_replicate, List.sum_replicate_nat, Nat.mul_comm]
    unfold sizeLine
    omega
def mulD : OpD := fun a b S k => match a, b with
  | .int i, .int j => CMul i j ∧ k (.val (.int (i * j))) S
  | .lst l, .int n => (-(2 ^ 63) ≤ n ∧ n < 2 ^ 63 ∧ l.length * n.toNat ≤ sizeLine) ∧ k (.val (.lst (List.replicate n.toNat l).flatten)) S
  | .tup l, .int n => (l ≠ [] ∧ l.length ≤ 1000 ∧ 1 ≤ n ∧ n ≤ 1000) ∧ k (.val (.tup (List.replicate n.toNat l).flatten)) S
  | .str l, .int n => (2 ≤ n ∧ n ≤ 1000 ∧ l ≠ [] ∧ l.length ≤ 1000) ∧ k (.val (.str (List.replicate n.toNat l).flatten)) S
  | _, _ => False
theorem mulD_mono : MonoO mulD := by
  intro a b S Q Q' h q
  cases a <;> cases b <;> first | exact q.elim | exact ⟨q.1, h _ _ q.2⟩
theorem RVs.rep {H : Hp} {av : Addr → Prop} {ds : List D} {vs : List V} (h : RVs K H av ds vs) : ∀ n, RVs K H av (List.replicate n ds).flatten (List.replicate n vs).flatten
  | 0 => RVs.nil
  | n + 1 => by
    rw [List.replicate_succ, List.replicate_succ, List.flatten_cons, List.flatten_cons]
    exact h.append (RVs.rep h n)
/-- a list times an int, where it may be locked -/
def rMul (K : Kw) : R2 := fun x y H Q => rI CMul (fun i j => .int (i * j)) x y H Q ∨ rRep x y H Q ∨ rRep1 K x y H Q ∨ rRepT K x y H Q ∨ rRepS x y H Q
theorem op_mulM {X : Cx} : OpR X (binaryOp .Mult) (rMul X.kw) := op_mul.or (op_rep.or (op_rep1.or (op_repT.or op_repS)))
theorem mulM : OpM K (rMul K) mulD := by
  intro A B H S dx dy vx vy k Q c rx ry h af
  cases dx with
  | int i =>
    cases dy with
    | int j => rw [rx.int, ry.int]; exact .inl ⟨i, j, rfl, rfl, h.1, af.int c h.2⟩
    | _ => exact h.elim
  | lst i =>
    cases dy with
    | int j =>
      obtain ⟨a, xs, rfl, ra, va⟩ := rx.lst
      rw [ry.int]
      refine .inr (.inl ⟨a, j, xs, rfl, rfl, ra, h.1.1, h.1.2.1, by rw [va.length]; exact h.1.2.2, fun p hp => af.newLst c h.2 (va.rep _) hp⟩)
    | _ => exact h.elim
  | tup i =>
    cases dy with
    | int j =>
      obtain ⟨a, xs, rfl, ra, na, va⟩ := rx.tup
      rw [ry.int]
      obtain ⟨⟨h1, h2, h3, h4⟩, h5⟩ := h
      by_cases e : j = 1
      · subst e
        refine .inr (.inr (.inl ⟨a, xs, rfl, rfl, .inl (.inl ra), af.now c h5 ?_⟩))
        show RV K H (av A B) (.tup (i ++ [])) (.ref a)
        rw [List.append_nil]
        unfold RV
        exact ⟨a, xs, rfl, ra, na, va⟩
      · refine .inr (.inr (.inr (.inl ⟨a, j, xs, rfl, rfl, .inl (.inl ra), fun z => h1 ?_, by omega, h4, by rw [va.length]; exact h2, fun p hp => af.newTup c h5 (va.rep _) hp⟩)))
        have := va.length
        rw [z] at this
        exact List.length_eq_zero_iff.mp this.symm
    | _ => exact h.elim
  | str i =>
    cases dy with
    | int j =>
      rw [rx.str, ry.int]
      exact .inr (.inr (.inr (.inr ⟨i, j, rfl, rfl, h.1, af.str c h.2⟩)))
    | _ => exact h.elim
  | _ => exact h.elim
/-! ### order -/
/-- ints, texts -/
def ordD (f : Int → Int → Bool) (g : List Nat → List Nat → Bool) : OpD := fun a b S k => match a, b with
  | .int i, .int j => k (.val (.bl (f i j))) S
  | .str s, .str t => k (.val (.bl (g s t))) S
  | _, _ => False
theorem ordD_mono {f : Int → Int → Bool} {g : List Nat → List Nat → Bool} : MonoO (ordD f g) := by
  intro a b S Q Q' h q
  cases a <;> cases b <;> first | exact q.elim | exact h _ _ q
def rOrd (f : Int → Int → Bool) (g : List Nat → List Nat → Bool) : R2 := fun x y H Q => rI0 (fun i j => .bl (f i j)) x y H Q ∨ (∃ i j, x = .str i ∧ y = .str j ∧ Q (.bl (g i.cps.toList j.cps.toList)) H)
theorem ordM {f : Int → Int → Bool} {g : List Nat → List Nat → Bool} : OpM K (rOrd f g) (ordD f g) := by
  intro A B H S dx dy vx vy k Q c rx ry h af
  cases dx with
  | int i =>
    cases dy with
    | int j => rw [rx.int, ry.int]; exact .inl ⟨i, j, rfl, rfl, af.bl c h⟩
    | _ => exact h.elim
  | str i =>
    cases dy with
    | str j => rw [rx.str, ry.str]; exact .inr ⟨_, _, rfl, rfl, by rw [tx_toList, tx_toList]; exact af.bl c h⟩
    | _ => exact h.elim
  | _ => exact h.elim
def ltD : OpD := ordD (fun i j => decide (i < j)) (fun s t => decide (s < t))
def leD : OpD := ordD (fun i j => decide (i ≤ j)) (fun s t => !decide (t < s))
def gtD : OpD := ordD (fun i j => decide (j < i)) (fun s t => decide (t < s))
def geD : OpD := ordD (fun i j => decide (j ≤ i)) (fun s t => !decide (s < t))
theorem op_ltM {X : Cx} : OpR X (compareOp .Lt) (rOrd (fun i j => decide (i < j)) (fun s t => decide (s < t))) := op_lt.or op_lt_str
theorem op_leM {X : Cx} : OpR X (compareOp .LtE) (rOrd (fun i j => decide (i ≤ j)) (fun s t => !decide (t < s))) := op_le.or op_le_str
theorem op_gtM {X : Cx} : OpR X (compareOp .Gt) (rOrd (fun i j => decide (j < i)) (fun s t => decide (t < s))) := op_gt.or op_gt_str
theorem op_geM {X : Cx} : OpR X (compareOp .GtE) (rOrd (fun i j => decide (j ≤ i)) (fun s t => !decide (s < t))) := op_ge.or op_ge_str
/-! ### is -/
def D.isNon : D → Bool
  | .non => true
  | _ => false
/-- is with None, with a truth -/
def isD (neg : Bool) : OpD := fun a b S k => match b with
  | .non => k (.val (.bl (a.isNon != neg))) S
  | .bl c => match a with
    | .bl d => k (.val (.bl (decide (d = c) != neg))) S
    | _ => False
  | _ => False
theorem isD_mono {neg : Bool} : MonoO (isD neg) := by
  intro a b S Q Q' h q
  cases b <;> first | exact q.elim | exact h _ _ q | (cases a <;> first | exact q.elim | exact h _ _ q)
def rIsM (neg : Bool) : R2 := fun x y H Q => (y = .non ∧ Q (.bl (decide (x = .non) != neg)) H) ∨ (∃ a b : Bool, x = .bl a ∧ y = .bl b ∧ Q (.bl (decide (a = b) != neg)) H)
theorem RD.isNon {H : Hp} {av : Addr → Prop} {d : D} {v : V} (r : RD K H av d v) : decide (v = .non) = d.isNon := by
  cases d with
  | non => rw [r.non]; rfl
  | bl b => rw [r.bl]; rfl
  | int b => rw [r.int]; rfl
  | str b => rw [r.str]; rfl
  | tup b => obtain ⟨a, vs, rfl, _⟩ := r.tup; rfl
  | lst b => obtain ⟨a, vs, rfl, _⟩ := r.lst; rfl
  | dct b _ => obtain ⟨a, u, kv, vs, rfl, _⟩ := r.dct; rfl
  | scr b => obtain ⟨a, rfl, _⟩ := r.scr; rfl
theorem isM {neg : Bool} : OpM K (rIsM neg) (isD neg) := by
  intro A B H S dx dy vx vy k Q c rx ry h af
  cases dy with
  | non =>
    refine .inl ⟨ry.non, ?_⟩
    rw [rx.isNon]
    exact af.bl c h
  | bl j =>
    cases dx with
    | bl i =>
      rw [rx.bl, ry.bl]
      exact .inr ⟨i, j, rfl, rfl, af.bl c h⟩
    | _ => exact h.elim
  | _ => exact h.elim
theorem op_isM {X : Cx} : OpR X (compareOp .Is) (rIsM false) := by
  intro pins s σ H x y v u Q I rx ry h
  rcases h with ⟨e, q⟩ | ⟨a, b, e, e', q⟩
  · exact op_isN pins s σ H x y v u Q I rx ry ⟨e, by simpa using q⟩
  · exact op_isBl pins s σ H x y v u Q I rx ry ⟨a, b, e, e', by simpa using q⟩
theorem op_notM {X : Cx} : OpR X (compareOp .IsNot) (rIsM true) := by
  intro pins s σ H x y v u Q I rx ry h
  rcases h with ⟨e, q⟩ | ⟨a, b, e, e', q⟩
  · exact op_notN pins s σ H x y v u Q I rx ry ⟨e, by simpa using q⟩
  · exact op_notBl pins s σ H x y v u Q I rx ry ⟨a, b, e, e', by simpa using q⟩
/-! ### == -/
mutual
def py : D → PyData
  | .non => .none
  | .bl b => .bool b
  | .int i => .int i
  | .str l => .str (tx l)
  | .tup ds => .tuple (pys ds)
  | .lst ds => .list (pys ds)
  | .dct _ _ => .dict []
  | .scr _ => .dict []
def pys : List D → List PyData
  | [] => []
  | d :: ds => py d :: pys ds
end
mutual
theorem RV.dp {H : Hp} {av : Addr → Prop} : ∀ {d : D} {v : V}, RV K H av d v → (py d).canLay0 = true → Dp K H v (py d)
  | .non, _, h, _ => by unfold RV at h; subst h; exact .non
  | .bl _, _, h, _ => by unfold RV at h; subst h; exact .bl _
  | .int _, _, h, _ => by unfold RV at h; subst h; exact .int _
  | .str _, _, h, _ => by unfold RV at h; subst h; exact .str _
  | .tup ds, _, h, q => by
    unfold RV at h
    obtain ⟨a, vs, rfl, r, _, t⟩ := h
    simp only [py, PyData.canLay0] at q
    simp only [py]
    exact .tup (.inl (.inl r)) (RVs.dp t q)
  | .lst ds, _, h, q => by
    unfold RV at h
    obtain ⟨a, vs, rfl, r, _, t⟩ := h
    simp only [py, PyData.canLay0] at q
    simp only [py]
    exact .lst (.inl (.inl r)) (RVs.dp t q)
  | .dct _ _, _, h, q => by simp only [py, PyData.canLay0] at q; cases q
  | .scr _, _, h, q => by simp only [py, PyData.canLay0] at q; cases q
theorem RVs.dp {H : Hp} {av : Addr → Prop} : ∀ {ds : List D} {vs : List V}, RVs K H av ds vs → PyData.canLayAll0 (pys ds) = true → DpAll K H vs (pys ds)
  | [], _, h, _ => by unfold RVs at h; subst h; exact .nil
  | d :: ds, _, h, q => by
    unfold RVs at h
    obtain ⟨v, r, rfl, h1, h2⟩ := h
    simp only [pys, PyData.canLayAll0, Bool.and_eq_true] at q
    simp only [pys]
    exact .cons (RV.dp h1 q.1) (RVs.dp h2 q.2)
end
theorem RD.dp {H : Hp} {av : Addr → Prop} {d : D} {v : V} (r : RD K H av d v) (q : (py d).canLay0 = true) : Dp K H v (py d) := by
  cases d with
  | lst ds =>
    obtain ⟨a, vs, rfl, r, t⟩ := r.lst
    simp only [py, PyData.canLay0] at q
    simp only [py]
    exact .lst (.inl (.inl r)) (RVs.dp t q)
  | dct _ _ => simp only [py, PyData.canLay0] at q; cases q
  | non => exact RV.dp (av := av) (d := .non) r q
  | bl b => exact RV.dp (av := av) (d := .bl b) r q
  | int b => exact RV.dp (av := av) (d := .int b) r q
  | str b => exact RV.dp (av := av) (d := .str b) r q
  | tup b => exact RV.dp (av := av) (d := .tup b) r q
  | scr b => exact RV.dp (av := av) (d := .scr b) r q
def shp (d : D) : Prop := SeqAt.shaped (py d) = true
/-- ==, != -/
def eqD (neg : Bool) : OpD := fun a b S k => match a, b with
  | .int i, .int j => k (.val (.bl (decide (i = j) != neg))) S
  | .str i, .str j => k (.val (.bl (decide (i = j) != neg))) S
  | .bl i, .bl j => k (.val (.bl (decide (i = j) != neg))) S
  | a, b => shp a ∧ shp b ∧ k (.val (.bl (PyData.eqv (py a) (py b) != neg))) S
theorem eqD_mono {neg : Bool} : MonoO (eqD neg) := by
  intro a b S Q Q' h q
  cases a <;> cases b <;> first | exact h _ _ q | exact ⟨q.1, q.2.1, h _ _ q.2.2⟩
def rEqM (K : Kw) (neg : Bool) : R2 := fun x y H Q => (scal x y = true ∧ Q (.bl (decide (x = y) != neg)) H) ∨ (∃ d e, Dp K H x d ∧ Dp K H y e ∧ SeqAt.shaped d = true ∧ SeqAt.shaped e = true ∧ Q (.bl (PyData.eqv d e != neg)) H)
theorem eqM {neg : Bool} : OpM K (rEqM K neg) (eqD neg) := by
  intro A B H S dx dy vx vy k Q c rx ry h af
  have gen : shp dx ∧ shp dy ∧ k (.val (.bl (PyData.eqv (py dx) (py dy) != neg))) S → rEqM K neg vx vy H Q := fun g =>
    .inr ⟨_, _, rx.dp (SeqAt.canLay_of_shaped g.1), ry.dp (SeqAt.canLay_of_shaped g.2.1), g.1, g.2.1, af.bl c g.2.2⟩
  cases dx with
  | int i =>
    cases dy with
    | int j =>
      rw [rx.int, ry.int]
      refine .inl ⟨rfl, ?_⟩
      have e : decide (V.int i = V.int j) = decide (i = j) := by simp
      rw [e]
      exact af.bl c h
    | _ => exact gen h
  | str i =>
    cases dy with
    | str j =>
      rw [rx.str, ry.str]
      refine .inl ⟨rfl, ?_⟩
      have e : decide (V.str (tx i) = V.str (tx j)) = decide (i = j) := by
        rw [Bool.eq_iff_iff]
        simp [tx_inj]
      rw [e]
      exact af.bl c h
    | _ => exact gen h
  | bl i =>
    cases dy with
    | bl j =>
      rw [rx.bl, ry.bl]
      refine .inl ⟨rfl, ?_⟩
      have e : decide (V.bl i = V.bl j) = decide (i = j) := by
        rw [Bool.eq_iff_iff]
        simp
      rw [e]
      exact af.bl c h
    | _ => exact gen h
  | _ => exact gen h
theorem op_eqM {X : Cx} (hu : X.A.units + 64 < cLine) : OpR X (compareOp .Eq) (rEqM X.kw false) := by
  intro pins s σ H x y v u Q I rx ry h
  rcases h with ⟨e, q⟩ | ⟨a, b, e1, e2, e3, e4, q⟩
  · exact op_eq pins s σ H x y v u Q I rx ry ⟨e, by simpa using q⟩
  · exact op_eqD hu pins s σ H x y v u Q I rx ry ⟨a, b, e1, e2, e3, e4, by simpa using q⟩
theorem op_neM {X : Cx} (hu : X.A.units + 64 < cLine) : OpR X (compareOp .NotEq) (rEqM X.kw true) := by
  intro pins s σ H x y v u Q I rx ry h
  rcases h with ⟨e, q⟩ | ⟨a, b, e1, e2, e3, e4, q⟩
  · exact op_ne pins s σ H x y v u Q I rx ry ⟨e, by simpa using q⟩
  · exact op_neD hu pins s σ H x y v u Q I rx ry ⟨a, b, e1, e2, e3, e4, by simpa using q⟩
/-! ### in -/
/-- a sign in a text; data in a list -/
def inD (neg : Bool) : OpD := fun a b S k => match b with
  | .str l => match a with
    | .str [c] => k (.val (.bl (decide (c ∈ l) != neg))) S
    | _ => False
  | .lst l => shp a ∧ shp (.lst l) ∧ k (.val (.bl ((pys l).any (fun z => PyData.eqv z (py a)) != neg))) S
  | _ => False
theorem inD_mono {neg : Bool} : MonoO (inD neg) := by
  intro a b S Q Q' h q
  unfold inD at q ⊢
  split at q
  · split at q <;> first | exact h _ _ q | exact q.elim
  · exact ⟨q.1, q.2.1, h _ _ q.2.2⟩
  · exact q.elim
def rInM (K : Kw) (neg : Bool) : R2 := fun x y H Q => (∃ (c : Nat) (z : Str), x = .str ⟨#[c]⟩ ∧ y = .str z ∧ Q (.bl (decide (c ∈ z.cps.toList) != neg)) H) ∨
  (∃ d ds, Dp K H x d ∧ Dp K H y (.list ds) ∧ SeqAt.shaped d = true ∧ SeqAt.shaped (.list ds) = true ∧ Q (.bl ((ds.any fun z => PyData.eqv z d) != neg)) H)
theorem inM {neg : Bool} : OpM K (rInM K neg) (inD neg) := by
  intro A B H S dx dy vx vy k Q c rx ry h af
  unfold inD at h
  split at h
  · split at h
    · rw [rx.str, ry.str]
      exact .inl ⟨_, _, rfl, rfl, by rw [tx_toList]; exact af.bl c h⟩
    · exact h.elim
  · obtain ⟨h1, h2, h3⟩ := h
    have e := ry.dp (SeqAt.canLay_of_shaped h2)
    simp only [py] at e
    simp only [shp, py] at h2
    exact .inr ⟨_, _, rx.dp (SeqAt.canLay_of_shaped h1), e, h1, h2, af.bl c h3⟩
  · exact h.elim
theorem op_inM {X : Cx} (hu : X.A.units + 65 < cLine) : OpR X (compareOp .In) (rInM X.kw false) := by
  intro pins s σ H x y v u Q I rx ry h
  rcases h with ⟨a, b, e1, e2, q⟩ | ⟨a, b, e1, e2, e3, e4, q⟩
  · exact op_in_sign pins s σ H x y v u Q I rx ry ⟨a, b, e1, e2, by simpa using q⟩
  · exact op_inD hu pins s σ H x y v u Q I rx ry ⟨a, b, e1, e2, e3, e4, by simpa using q⟩
theorem op_notInM {X : Cx} (hu : X.A.units + 65 < cLine) : OpR X (compareOp .NotIn) (rInM X.kw true) := by
  intro pins s σ H x y v u Q I rx ry h
  rcases h with ⟨a, b, e1, e2, q⟩ | ⟨a, b, e1, e2, e3, e4, q⟩
  · exact op_notIn_sign pins s σ H x y v u Q I rx ry ⟨a, b, e1, e2, by simpa using q⟩
  · exact op_notInD hu pins s σ H x y v u Q I rx ry ⟨a, b, e1, e2, e3, e4, by simpa using q⟩
end Fo
/-! Core4: subscripts, slices, argument lists, displays, calls. -/
namespace Fo
open PySem PySem.Spec PyProof.Rows L2
variable {K : Kw}
/-! ### chains of two comparisons -/
def mChain (o o' : OpD) (a b c : ME) : ME := fun ρ S k => a ρ S fun x S1 => b ρ S1 fun y S2 => rd S2 x fun dx => rd S2 y fun dy => o dx dy S2 fun z S3 => asB z S3 fun t S3 =>
  if t = true then c ρ S3 fun w S4 => rd S4 y fun dy => rd S4 w fun dw => o' dy dw S4 k else k (.val (.bl false)) S3
theorem mChain_mono {o o' : OpD} {a b c : ME} (mo : MonoO o) (mo' : MonoO o') (ma : MonoE a) (mb : MonoE b) (mc : MonoE c) : MonoE (mChain o o' a b c) := fun ρ S Q Q' h q =>
  ma ρ S _ _ (fun x S1 => mb ρ S1 _ _ fun y S2 => rd_mono fun dx => rd_mono fun dy => mo _ _ _ _ _ fun z S3 => asB_mono fun t S3 q1 => by
    cases t with
    | true => exact mc ρ S3 _ _ (fun w S4 => rd_mono fun dy => rd_mono fun dw => mo' _ _ _ _ _ h) q1
    | false => exact h _ _ q1) q
theorem tChain_up {r r' : R2} {o o' : OpD} {a b c : ME} (om : OpM K r o) (om' : OpM K r' o') {σ : L2.St} {H : Hp} {Q : VK} (h : up K (mChain o o' a b c) σ H Q) : tChain r r' (up K a) (up K b) (up K c) σ H Q := by
  obtain ⟨A, B, ρ, S, k, r0, h, af⟩ := h
  refine up_then r0 h fun x S1 A1 vx H1 h1 k1 r1 rx => ?_
  refine up_then r1 h1 fun y S2 A2 vy H2 h2 k2 r2 ry => ?_
  obtain ⟨dx, hx, h3⟩ := rd_ok r2.cells (rx.keep k2) h2
  obtain ⟨dy, hy, h4⟩ := rd_ok r2.cells ry h3
  refine om A2 B H2 S2 dx dy vx vy _ _ r2.cells hx hy h4 fun z S3 h5 A3 vz H3 k3 c3 rz => ?_
  obtain ⟨t, e, h6⟩ := asB_ok rz h5
  refine ⟨t, e, ?_⟩
  cases t with
  | true =>
    refine up_then (r2.keep k3 c3) h6 fun w S4 A4 vw H4 h7 k4 r4 rw4 => ?_
    obtain ⟨dy', hy', h8⟩ := rd_ok r4.cells ((ry.keep k3).keep k4) h7
    obtain ⟨dw, hw, h9⟩ := rd_ok r4.cells rw4 h8
    exact om' A4 B H4 S4 dy' dw vy vw k Q r4.cells hy' hw h9 (af.keep (((k1.trans k2).trans k3).trans k4))
  | false => exact af _ _ h6 A3 _ H3 ((k1.trans k2).trans k3) c3 RW.bl
section
variable {X : Cx} {a b c : Expr} {ta tb tc : ME} {pos : Pos} {op op' : CmpOp} {r r' : R2} {o o' : OpD}
theorem pem_chain (ho : OpR X (compareOp op) r) (ho' : OpR X (compareOp op') r') (om : OpM X.kw r o) (om' : OpM X.kw r' o') (mo : MonoO o) (mo' : MonoO o') (ha : PEm X a ta) (hb : PEm X b tb) (hc : PEm X c tc)
    (hm : lastMarks [op, op'] [b, c] = false := by with_unfolding_all rfl) : PEm X (.Compare a [op, op'] [b, c] pos) (mChain o o' ta tb tc) :=
  ⟨(pe_chain ho ho' ha.pe hb.pe hc.pe hm).imp fun _ _ _ h => tChain_up om om' h, mChain_mono mo mo' ha.mono hb.mono hc.mono⟩
theorem ptm_chain (ho : OpR X (compareOp op) r) (ho' : OpR X (compareOp op') r') (om : OpM X.kw r o) (om' : OpM X.kw r' o') (mo : MonoO o) (mo' : MonoO o') (ha : PEm X a ta) (hb : PEm X b tb) (hc : PEm X c tc)
    (hm : lastMarks [op, op'] [b, c] = false := by with_unfolding_all rfl) : PTm X (.Compare a [op, op'] [b, c] pos) (mCond (mChain o o' ta tb tc)) := by
  refine ⟨(pt_chain ho ho' ha.pe hb.pe hc.pe hm).imp ?_, mCond_mono (mChain_mono mo mo' ha.mono hb.mono hc.mono)⟩
  rintro σ H Q ⟨A, B, ρ, S, k, r0, h, af⟩
  refine tChain_up om om' ⟨A, B, ρ, S, _, r0, h, fun w S1 h1 A1 v H1 k1 c1 rw1 => ?_⟩
  obtain ⟨t, e, q⟩ := asB_ok rw1 h1
  exact ⟨t, e, af t S1 q A1 H1 k1 c1⟩
end
/-! ### subscripts -/
def itemK (l : List D) (i : Int) (S : Sto) (k : KW) : Prop := match atI l i with
  | some d => k (.val d) S
  | none => False
def ixD : OpD := fun a b S k => match b with
  | .int i => match a with
    | .str l => l.length ≤ sizeLine ∧ (match atI l i with
      | some c => k (.val (.str [c])) S
      | none => False)
    | .tup l => itemK l i S k
    | .lst l => itemK l i S k
    | _ => False
  | _ => False
theorem itemK_mono {l : List D} {i : Int} {S : Sto} {k k' : KW} (h : ∀ w S', k w S' → k' w S') (q : itemK l i S k) : itemK l i S k' := by
  unfold itemK at q ⊢
  split at q
  · exact h _ _ q
  · exact q.elim
theorem ixD_mono : MonoO ixD := by
  intro a b S Q Q' h q
  unfold ixD at q ⊢
  split at q
  · split at q
    · refine ⟨q.1, ?_⟩
      have q2 := q.2
      split at q2
      · exact h _ _ q2
      · exact q2.elim
    · exact itemK_mono h q
    · exact itemK_mono h q
    · exact q.elim
  · exact q.elim
theorem RVs.atI {H : Hp} {av : Addr → Prop} {ds : List D} {vs : List V} {i : Int} {d : D} (h : RVs K H av ds vs) (e : L2.atI ds i = some d) : ∃ v, L2.atI vs i = some v ∧ RV K H av d v := by
  unfold L2.atI at e ⊢
  rw [h.length]
  cases q : ixN ds.length i with
  | none => rw [q] at e; cases e
  | some j =>
    rw [q] at e
    exact h.get e
theorem ixM : OpM K (rIx K) ixD := by
  intro A B H S dx dy vx vy k Q c rx ry h af
  unfold ixD at h
  split at h
  · rename_i i
    rw [ry.int]
    split at h
    · obtain ⟨h1, h2⟩ := h
      split at h2
      · rename_i l _ ch e
        rw [rx.str]
        refine .inr (.inr ⟨tx l, i, ch, rfl, rfl, by rw [tx_length]; exact h1, by rw [tx_toList]; exact e, ?_⟩)
        exact af.str c h2
      · exact h2.elim
    · unfold itemK at h
      split at h
      · rename_i l d e
        obtain ⟨a, xs, rfl, ra, na, va⟩ := rx.tup
        obtain ⟨v, e2, rv⟩ := va.atI e
        exact .inr (.inl ⟨a, xs, i, v, rfl, rfl, .inl (.inl ra), e2, af.now c h rv⟩)
      · exact h.elim
    · unfold itemK at h
      split at h
      · rename_i l d e
        obtain ⟨a, xs, rfl, ra, va⟩ := rx.lst
        obtain ⟨v, e2, rv⟩ := va.atI e
        exact .inl ⟨a, xs, i, v, rfl, rfl, .inl (.inl ra), e2, af.now c h rv⟩
      · exact h.elim
    · exact h.elim
  · exact h.elim
theorem pem_ix {X : Cx} {a b : Expr} {ta tb : ME} {pos : Pos} (ha : PEm X a ta) (hb : PEm X b tb) (hs : PlainIx b := by exact fun _ _ => rfl) : PEm X (.Subscript a b pos) (mBin ixD ta tb) :=
  ⟨(pe_ix ix_seq ha.pe hb.pe hs).imp fun _ _ _ h => tOp_up ixM h, mBin_mono ixD_mono ha.mono hb.mono⟩
/-! ### slices -/
abbrev MO := Rho → Sto → (Option Int → Sto → Prop) → Prop
def MonoO' (t : MO) : Prop := ∀ ρ S (Q Q' : Option Int → Sto → Prop), (∀ w S', Q w S' → Q' w S') → t ρ S Q → t ρ S Q'
def upO (K : Kw) (t : MO) : TO := fun σ H Q => ∃ A B ρ S k, Rel K H A B ρ S σ ∧ t ρ S k ∧ ∀ o S', k o S' → ∀ A' H', Keep A H A' H' → Cells K H' A' B S' → Q o H'
structure POm (X : Cx) (e : Option Expr) (t : MO) : Prop where
  po : PO X e (upO X.kw t)
  mono : MonoO' t
def oNo : MO := fun _ S k => k none S
def asI (w : W) (S : Sto) (k : Int → Sto → Prop) : Prop := match w with
  | .val (.int i) => k i S
  | _ => False
theorem asI_mono {w : W} {S : Sto} {k k' : Int → Sto → Prop} (h : ∀ b S, k b S → k' b S) (q : asI w S k) : asI w S k' := by
  unfold asI at q ⊢
  split at q <;> first | exact h _ _ q | exact q.elim
theorem asI_ok {H : Hp} {A : List (Option Addr)} {B : Addr → Prop} {w : W} {v : V} {S : Sto} {k : Int → Sto → Prop} (r : RW K H A B w v) (h : asI w S k) : ∃ b, v = .int b ∧ k b S := by
  unfold asI at h
  split at h
  · rename_i b
    refine ⟨b, ?_, h⟩
    have r' : RV K H (av A B) (.int b) v := r
    unfold RV at r'
    exact r'
  · exact h.elim
def oAt (t : ME) : MO := fun ρ S k => t ρ S fun w S1 => asI w S1 fun i S1 => k (some i) S1
theorem _root_.L2.PO.imp {X : Cx} {e : Option Expr} {t t' : TO} (h : PO X e t) (i : ∀ σ H Q, t' σ H Q → t σ H Q) : PO X e t' := ⟨fun pins s σ H Q I q => h.run pins s σ H Q I (i σ H Q q)⟩
theorem pom_none {X : Cx} : POm X none oNo := by
  refine ⟨po_none.imp ?_, fun ρ S Q Q' h q => h _ _ q⟩
  rintro σ H Q ⟨A, B, ρ, S, k, r, h, a⟩
  exact a _ _ h A H Keep.refl r.cells
theorem pom_some {X : Cx} {e : Expr} {t : ME} (h : PEm X e t) : POm X (some e) (oAt t) := by
  refine ⟨(po_some h.pe).imp ?_, fun ρ S Q Q' hq q => h.mono ρ S _ _ (fun w S1 => asI_mono fun b S2 => hq _ _) q⟩
  rintro σ H Q ⟨A, B, ρ, S, k, r, h, a⟩
  refine up_then r h fun w S1 A1 v H1 h1 k1 r1 rw1 => ?_
  obtain ⟨i, e, q⟩ := asI_ok rw1 h1
  exact ⟨i, e, a _ _ q A1 H1 k1 r1.cells⟩
def cutL {α : Type} (xs : List α) (lo hi : Option Int) : List α := (xs.drop (HT.sIx xs.length 0 lo)).take (HT.sIx xs.length xs.length hi - HT.sIx xs.length 0 lo)
def slD (lo hi : Option Int) (a : D) (S : Sto) (k : KW) : Prop := match a with
  | .str l => l.length ≤ sizeLine ∧ k (.val (.str (cutL l lo hi))) S
  | .tup l => k (.val (.tup (cutL l lo hi))) S
  | .lst l => k (.val (.lst (cutL l lo hi))) S
  | .scr l => k (.val (.lst ((cutL l lo hi).map D.int))) S
  | _ => False
theorem slD_mono {lo hi : Option Int} {a : D} {S : Sto} {k k' : KW} (h : ∀ w S', k w S' → k' w S') (q : slD lo hi a S k) : slD lo hi a S k' := by
  cases a <;> first | exact q.elim | exact h _ _ q | exact ⟨q.1, h _ _ q.2⟩
def mSlice (a : ME) (lo hi : MO) : ME := fun ρ S k => a ρ S fun x S1 => lo ρ S1 fun l S2 => hi ρ S2 fun u S3 => rd S3 x fun d => slD l u d S3 k
theorem RVs.cut {H : Hp} {av : Addr → Prop} {ds : List D} {vs : List V} (h : RVs K H av ds vs) (lo hi : Option Int) : RVs K H av (cutL ds lo hi) (cutV vs lo hi) := by
  unfold cutL cutV
  rw [h.length]
  exact (h.drop _).take _
theorem RVs.ints {H : Hp} {av : Addr → Prop} : ∀ (l : List Int), RVs K H av (l.map D.int) (l.map V.int)
  | [] => RVs.nil
  | i :: l => by
    rw [List.map_cons, List.map_cons]
    refine RVs.cons ?_ (RVs.ints l)
    unfold RV
    rfl
theorem cutV_map (l : List Int) (lo hi : Option Int) : cutV (l.map V.int) lo hi = (cutL l lo hi).map V.int := by
  unfold cutV cutL
  rw [List.length_map, List.map_take, List.map_drop]
def rSl (K : Kw) : V → Option Int → Option Int → Hp → VK → Prop := fun x lo hi H Q => rSlS x lo hi H Q ∨ rSlA K x lo hi H Q ∨ rSlL K x lo hi H Q
theorem sl_all {X : Cx} : SlR X (rSl X.kw) := sl_str.or (sl_tupA.or sl_list)
theorem slM {A : List (Option Addr)} {B : Addr → Prop} {H : Hp} {S : Sto} {d : D} {v : V} {lo hi : Option Int} {k : KW} {Q : VK} (c : Cells K H A B S) (r : RD K H (av A B) d v) (h : slD lo hi d S k) (af : Aft K A B H k Q) : rSl K v lo hi H Q := by
  cases d with
  | str l =>
    rw [r.str]
    refine .inl ⟨_, rfl, by rw [tx_length]; exact h.1, ?_⟩
    have e : cutS (tx l) lo hi = tx (cutL l lo hi) := by
      unfold cutS cutL tx
      simp [Str.length]
    rw [e]
    exact af.str c h.2
  | tup l =>
    obtain ⟨a, xs, rfl, ra, na, va⟩ := r.tup
    refine .inr (.inl ⟨a, xs, rfl, .inl (.inl ra), fun hw => af.now c h ?_, fun _ p hp => af.newTup c h (va.cut lo hi) hp⟩)
    have e : cutL l lo hi = l := by
      unfold cutL
      rw [← va.length, hw.1, hw.2, List.drop_zero, Nat.sub_zero, va.length, List.take_length]
    show RV K H (Fo.av A B) (.tup (cutL l lo hi)) (.ref a)
    rw [e]
    unfold RV
    exact ⟨a, xs, rfl, ra, na, va⟩
  | lst l =>
    obtain ⟨a, xs, rfl, ra, va⟩ := r.lst
    exact .inr (.inr ⟨a, xs, rfl, .inl (.inl ra), fun p hp => af.newLst c h (va.cut lo hi) hp⟩)
  | scr l =>
    obtain ⟨a, rfl, q⟩ := r.scr
    refine .inr (.inr ⟨a, _, rfl, q, fun p hp => ?_⟩)
    rw [cutV_map]
    exact af.newLst c h (RVs.ints _) hp
  | _ => exact h.elim
theorem pem_slice {X : Cx} {a : Expr} {lo hi : Option Expr} {ta : ME} {tl th : MO} {p2 pos : Pos} (ha : PEm X a ta) (hl : POm X lo tl) (hh : POm X hi th) : PEm X (.Subscript a (.Slice lo hi none p2) pos) (mSlice ta tl th) := by
  refine ⟨(pe_slice sl_all ha.pe hl.po hh.po).imp ?_, fun ρ S Q Q' h q => ha.mono ρ S _ _ (fun x S1 => hl.mono ρ S1 _ _ fun l S2 => hh.mono ρ S2 _ _ fun u S3 => rd_mono fun d => slD_mono h) q⟩
  rintro σ H Q ⟨A, B, ρ, S, k, r, h, af⟩
  refine up_then r h fun x S1 A1 v H1 h1 k1 r1 rx => ?_
  refine ⟨A1, B, ρ, S1, _, r1, h1, fun l S2 h2 A2 H2 k2 c2 => ?_⟩
  refine ⟨A2, B, ρ, S2, _, r1.keep k2 c2, h2, fun u S3 h3 A3 H3 k3 c3 => ?_⟩
  obtain ⟨d, hd, h4⟩ := rd_ok c3 ((rx.keep k2).keep k3) h3
  exact slM c3 hd h4 (af.keep ((k1.trans k2).trans k3))
/-! ### argument lists -/
def aNil : MA := fun _ S k => k [] S
def aCons (t : ME) (u : MA) : MA := fun ρ S k => t ρ S fun w S1 => u ρ S1 fun ws S2 => k (w :: ws) S2
theorem aNil_mono : MonoA aNil := fun _ _ _ _ h q => h _ _ q
theorem aCons_mono {t : ME} {u : MA} (mt : MonoE t) (mu : MonoA u) : MonoA (aCons t u) := fun ρ S _ _ h q => mt ρ S _ _ (fun w S1 => mu ρ S1 _ _ fun ws S2 => h _ _) q
section
variable {X : Cx} {e : Expr} {es : List Expr} {t : ME} {u : MA} {pos : Pos}
theorem pam_nil : PAm X [] aNil := by
  refine ⟨pa_nil.imp ?_, aNil_mono, fun ρ S Q q => ⟨rfl, q⟩⟩
  rintro σ H Q ⟨A, B, ρ, S, k, r, h, a⟩
  exact a _ _ h A _ H Keep.refl r.cells .nil
theorem tCons_up {σ : L2.St} {H : Hp} {Q : List V → Hp → Prop} (h : upA K (aCons t u) σ H Q) : tCons (up K t) (upA K u) σ H Q := by
  obtain ⟨A, B, ρ, S, k, r, h, a⟩ := h
  refine up_then r h fun w S1 A1 v H1 h1 k1 r1 rw1 => ?_
  refine upA_then r1 h1 fun ws S2 A2 vs H2 h2 k2 r2 rws => ?_
  exact a _ _ h2 A2 _ H2 (k1.trans k2) r2.cells (.cons (rw1.keep k2) rws)
theorem pam_cons (h : PEm X e t) (h' : PAm X es u) (hs : starEach (e :: es) X.env = (false, eval e X.env) :: starEach es X.env := by rfl) : PAm X (e :: es) (aCons t u) :=
  ⟨(pa_cons h.pe h'.pa hs).imp fun _ _ _ h => tCons_up h, aCons_mono h.mono h'.mono, fun ρ S Q q => h.mono ρ S _ _ (fun w S1 q1 => h'.mono ρ S1 _ _ (fun ws S2 q2 => ⟨by rw [List.length_cons, List.length_cons, q2.1], q2.2⟩) (h'.len ρ S1 _ q1)) q⟩
end
/-- all are data -/
def vals : List W → (List D → Prop) → Prop
  | [], k => k []
  | .val d :: r, k => vals r fun ds => k (d :: ds)
  | .ref _ :: _, _ => False
  | .lws _ :: _, _ => False
  | .ins _ _ _ :: _, _ => False
  | .fn _ :: _, _ => False
theorem vals_mono : ∀ {ws : List W} {k k' : List D → Prop}, (∀ ds, k ds → k' ds) → vals ws k → vals ws k'
  | [], _, _, h, q => h _ q
  | .val d :: r, _, _, h, q => vals_mono (ws := r) (fun ds => h _) q
  | .ref _ :: _, _, _, _, q => q.elim
  | .lws _ :: _, _, _, _, q => q.elim
  | .ins _ _ _ :: _, _, _, _, q => q.elim
  | .fn _ :: _, _, _, _, q => q.elim
theorem vals_ok {H : Hp} {A : List (Option Addr)} {B : Addr → Prop} : ∀ {ws : List W} {vs : List V} {k : List D → Prop}, RWs K H A B ws vs → vals ws k → ∃ ds, RVs K H (av A B) ds vs ∧ k ds
  | [], _, _, r, h => by
    cases r
    exact ⟨[], RVs.nil, h⟩
  | .val d :: ws, _, _, r, h => by
    cases r with
    | cons r1 r2 =>
      obtain ⟨ds, q, h'⟩ := vals_ok r2 h
      exact ⟨d :: ds, RVs.cons r1 q, h'⟩
  | .ref _ :: _, _, _, _, h => h.elim
  | .lws _ :: _, _, _, _, h => h.elim
  | .ins _ _ _ :: _, _, _, _, h => h.elim
  | .fn _ :: _, _, _, _, h => h.elim
/-- each is read -/
def rds (S : Sto) : List W → (List D → Prop) → Prop
  | [], k => k []
  | w :: r, k => rd S w fun d => rds S r fun ds => k (d :: ds)
theorem rds_mono {S : Sto} : ∀ {ws : List W} {k k' : List D → Prop}, (∀ ds, k ds → k' ds) → rds S ws k → rds S ws k'
  | [], _, _, h, q => h _ q
  | w :: r, _, _, h, q => rd_mono (w := w) (fun d => rds_mono (ws := r) fun ds => h _) q
def RDs (K : Kw) (H : Hp) (av : Addr → Prop) : List D → List V → Prop := Paired (RD K H av)
theorem rds_ok {H : Hp} {A : List (Option Addr)} {B : Addr → Prop} {S : Sto} (c : Cells K H A B S) : ∀ {ws : List W} {vs : List V} {k : List D → Prop}, RWs K H A B ws vs → rds S ws k → ∃ ds, RDs K H (av A B) ds vs ∧ k ds
  | [], _, _, r, h => by
    cases r
    exact ⟨[], .nil, h⟩
  | w :: ws, _, _, r, h => by
    cases r with
    | cons r1 r2 =>
      obtain ⟨d, q1, h1⟩ := rd_ok c r1 h
      obtain ⟨ds, q, h'⟩ := rds_ok c r2 h1
      exact ⟨d :: ds, .cons q1 q, h'⟩
/-! ### new lists: as data, as a cell -/
abbrev MN := Rho → Sto → (List D → Sto → Prop) → Prop
def MonoN (t : MN) : Prop := ∀ ρ S (Q Q' : List D → Sto → Prop), (∀ w S', Q w S' → Q' w S') → t ρ S Q → t ρ S Q'
/-- behind it a new list of these stands -/
def AftN (K : Kw) (A : List (Option Addr)) (B : Addr → Prop) (H : Hp) (k : List D → Sto → Prop) (Q : VK) : Prop :=
  ∀ ds S', k ds S' → ∀ A' H1 p vs, Keep A H A' H1 → Cells K H1 A' B S' → RVs K H1 (av A' B) ds vs → H1 p = none → Q (.ref p) (upd H1 p (.lst vs))
def upN (K : Kw) (t : MN) : TE := fun σ H Q => ∃ A B ρ S k, Rel K H A B ρ S σ ∧ t ρ S k ∧ AftN K A B H k Q
structure PNm (X : Cx) (e : Expr) (t : MN) : Prop where
  pe : PE X e (upN X.kw t)
  mono : MonoN t
def mVal (t : MN) : ME := fun ρ S k => t ρ S fun ds S1 => k (.val (.lst ds)) S1
def mCell (t : MN) : ME := fun ρ S k => t ρ S fun ds S1 => k (.ref S1.length) (S1 ++ [.lst ds])
theorem PNm.val {X : Cx} {e : Expr} {t : MN} (h : PNm X e t) : PEm X e (mVal t) := by
  refine ⟨h.pe.imp ?_, fun ρ S Q Q' hq q => h.mono ρ S _ _ (fun ds S1 => hq _ _) q⟩
  rintro σ H Q ⟨A, B, ρ, S, k, r, h, a⟩
  exact ⟨A, B, ρ, S, _, r, h, fun ds S1 h1 A1 H1 p vs k1 c1 rv hp => a _ _ h1 A1 _ _ (k1.trans (Keep.upd hp)) (c1.upd hp) (RV.new_lst c1 hp rv)⟩
theorem PNm.cell {X : Cx} {e : Expr} {t : MN} (h : PNm X e t) : PEm X e (mCell t) := by
  refine ⟨h.pe.imp ?_, fun ρ S Q Q' hq q => h.mono ρ S _ _ (fun ds S1 => hq _ _) q⟩
  rintro σ H Q ⟨A, B, ρ, S, k, r, h, a⟩
  refine ⟨A, B, ρ, S, _, r, h, fun ds S1 h1 A1 H1 p vs k1 c1 rv hp => ?_⟩
  obtain ⟨c2, k2⟩ := c1.cell_lst hp rv
  refine a _ _ h1 _ _ _ (k1.trans k2) c2 (.inr ⟨p, ?_, rfl⟩)
  rw [← c1.len]
  simp
def nLst (t : MA) : MN := fun ρ S k => t ρ S fun ws S1 => vals ws fun ds => ds.length ≤ sizeLine ∧ k ds S1
theorem pnm_lst {X : Cx} {es : List Expr} {t : MA} {pos : Pos} (h : PAm X es t) : PNm X (.List es pos) (nLst t) := by
  refine ⟨(pe_lst h.pa).imp ?_, fun ρ S Q Q' hq q => h.mono ρ S _ _ (fun ws S1 => vals_mono fun ds q1 => ⟨q1.1, hq _ _ q1.2⟩) q⟩
  rintro σ H Q ⟨A, B, ρ, S, k, r, h, a⟩
  refine upA_then r h fun ws S1 A1 vs H1 h1 k1 r1 rws => ?_
  obtain ⟨ds, rv, hz, h2⟩ := vals_ok rws h1
  exact ⟨by rw [rv.length]; exact hz, fun p hp => a _ _ h2 A1 H1 p vs k1 r1.cells rv hp⟩
def mTup (t : MA) : ME := fun ρ S k => t ρ S fun ws S1 => vals ws fun ds => ds.length ≤ sizeLine ∧ k (.val (.tup ds)) S1
theorem pem_tup {X : Cx} {es : List Expr} {t : MA} {x1} {pos : Pos} (h : PAm X es t) : PEm X (.Tuple es x1 pos) (mTup t) := by
  refine ⟨(pe_tup h.pa).imp ?_, fun ρ S Q Q' hq q => h.mono ρ S _ _ (fun ws S1 => vals_mono fun ds q1 => ⟨q1.1, hq _ _ q1.2⟩) q⟩
  rintro σ H Q ⟨A, B, ρ, S, k, r, h, a⟩
  refine upA_then r h fun ws S1 A1 vs H1 h1 k1 r1 rws => ?_
  obtain ⟨ds, rv, hz, h2⟩ := vals_ok rws h1
  exact ⟨by rw [rv.length]; exact hz, fun p hp => (a.keep k1).newTup r1.cells h2 rv hp⟩
/-- a cell's content as data from now on -/
def mFrz (i : Nat) : ME := fun ρ S k => match ρ[i]? with
  | some (some (.ref n)) => match S[n]? with
    | some (.lst ds) => k (.val (.lst ds)) (S.set n .dead)
    | _ => False
  | some (some (.val d)) => k (.val d) S
  | _ => False
theorem pem_frz {X : Cx} {i : Nat} {x : Str} {pos : Pos} (h : PE X (.Name x pos) (tVar i)) : PEm X (.Name x pos) (mFrz i) := by
  refine ⟨h.imp ?_, fun ρ S Q Q' hq q => ?_⟩
  · rintro σ H Q ⟨A, B, ρ, S, k, r, h, a⟩
    unfold mFrz at h
    split at h
    · rename_i n e
      split at h
      · rename_i ds e2
        obtain ⟨v, e1, q⟩ := r.slot i _ e
        obtain ⟨ad, ha, vs, h1, h2⟩ := r.cells.look e2 (by intro z; cases z)
        obtain ⟨c2, k2, n2⟩ := r.cells.freeze ha
        refine ⟨v, e1, a _ _ h _ v H k2 c2 ?_⟩
        show RV X.kw H (av _ B) (.lst ds) v
        unfold RV
        exact ⟨ad, vs, q.at_ ha, h1, n2, h2.stay k2.stay⟩
      · exact h.elim
    · rename_i d e
      obtain ⟨v, e1, q⟩ := r.slot i _ e
      exact ⟨v, e1, a _ _ h A v H Keep.refl r.cells q⟩
    · exact h.elim
  · unfold mFrz at q ⊢
    split at q
    · split at q
      · exact hq _ _ q
      · exact q.elim
    · exact hq _ _ q
    · exact q.elim
end Fo
/-! Core5: own defs, calls of them. -/
namespace Fo
open PySem PySem.Spec PyProof.Rows L2
variable {K : Kw}
/-! ### fewer things to keep off -/
theorem RW.less {H : Hp} {A A' : List (Option Addr)} {B B' : Addr → Prop} {d : D} {v : V} (h : ∀ a, av A' B' a → av A B a) (r : RV K H (av A B) d v) : RV K H (av A' B') d v :=
  RV.stay (fun a o e n => ⟨e, fun z => n (h a z)⟩) r
theorem RVs.less {H : Hp} {A A' : List (Option Addr)} {B B' : Addr → Prop} {d : List D} {v : List V} (h : ∀ a, av A' B' a → av A B a) (r : RVs K H (av A B) d v) : RVs K H (av A' B') d v :=
  RVs.stay (fun a o e n => ⟨e, fun z => n (h a z)⟩) r
theorem CellOk.less {H : Hp} {A A' : List (Option Addr)} {B B' : Addr → Prop} {x : Option Addr} {ob : Ob} (h : ∀ a, av A' B' a → av A B a) (r : CellOk K H (av A B) x ob) : CellOk K H (av A' B') x ob := by
  cases x with
  | none => cases ob <;> exact r
  | some a =>
    cases ob with
    | dead => exact r
    | lst ds =>
      obtain ⟨vs, h1, h2⟩ := r
      exact ⟨vs, h1, h2.less h⟩
    | dic ks ws =>
      obtain ⟨u, kv, vs, h1, h2, h3, h4⟩ := r
      exact ⟨u, kv, vs, h1, h2, h3.less h, h4.less h⟩
theorem CellOk.some_of {H : Hp} {av : Addr → Prop} {a : Addr} {ob : Ob} (r : CellOk K H av (some a) ob) : H a ≠ none ∧ ob ≠ .dead := by
  cases ob with
  | dead => exact r.elim
  | lst ds =>
    obtain ⟨vs, h1, h2⟩ := r
    exact ⟨(by rw [h1]; intro z; cases z), (by intro z; cases z)⟩
  | dic ks ws =>
    obtain ⟨u, kv, vs, h1, h2, h3⟩ := r
    exact ⟨(by rw [h1]; intro z; cases z), (by intro z; cases z)⟩
/-! ### a def's end: its own cells are forgotten -/
def finK (r : Nat) (Q : KW) : KW := fun w S => match w with
  | .val d => Q (.val d) (S.take r)
  | .ref n => r ≤ n ∧ match S[n]? with
    | some ob => ob ≠ .dead ∧ Q (.ref r) (S.take r ++ [ob])
    | none => False
  | _ => False
theorem finK_ok {A : List (Option Addr)} {B : Addr → Prop} {H : Hp} {k : KW} {Q : VK} (af : Aft K A B H k Q) : Aft K A B H (finK A.length k) Q := by
  intro w S' h A' v H' kp c r
  have sub : ∀ a, av (A'.take A.length) B a → av A' B a := fun a z => z.imp id fun m => List.mem_of_mem_take m
  have kp' : Keep A H (A'.take A.length) H' := by
    refine ⟨fun a o e n => ⟨(kp.st a o e n).1, fun z => (kp.st a o e n).2 (List.mem_of_mem_take z)⟩, ?_, fun n x e => ?_⟩
    · rw [List.length_take]; have := kp.len; omega
    · have hn : n < A.length := (List.getElem?_eq_some_iff.mp e).1
      rw [List.getElem?_take_of_lt hn]
      exact kp.ix n x e
  have c' : Cells K H' (A'.take A.length) B (S'.take A.length) := by
    refine ⟨by rw [List.length_take, List.length_take, c.len], fun n x ob e1 e2 => ?_, fun n m a e1 e2 => ?_, fun a z => c.off a (List.mem_of_mem_take z), c.dom, c.sys, fun z => c.soff (List.mem_of_mem_take z)⟩
    · have hn : n < A.length := by
        have := (List.getElem?_eq_some_iff.mp e1).1
        rw [List.length_take] at this
        omega
      rw [List.getElem?_take_of_lt hn] at e1 e2
      exact (c.at_ n x ob e1 e2).less sub
    · have f : ∀ {j : Nat} {y : Option Addr}, (A'.take A.length)[j]? = some y → A'[j]? = some y := fun {j y} e => by
        have hn : j < A.length := by
          have := (List.getElem?_eq_some_iff.mp e).1
          rw [List.length_take] at this
          omega
        rw [List.getElem?_take_of_lt hn] at e
        exact e
      exact c.inj n m a (f e1) (f e2)
  cases w with
  | lws _ => exact h.elim
  | ins _ _ _ => exact h.elim
  | fn _ => exact h.elim
  | val d => exact af _ _ h _ v H' kp' c' (RW.less sub r)
  | ref n =>
    obtain ⟨hn, h2⟩ := h
    split at h2
    · rename_i ob e
      obtain ⟨nd, h3⟩ := h2
      obtain ⟨a, ha, hc⟩ := c.look e nd
      have lt : (A'.take A.length).length = A.length := by rw [List.length_take]; have := kp.len; omega
      have fr : some a ∉ A'.take A.length := fun z => by
        obtain ⟨m, hm⟩ := List.mem_iff_getElem?.mp z
        have hml : m < A.length := by
          have := (List.getElem?_eq_some_iff.mp hm).1
          omega
        rw [List.getElem?_take_of_lt hml] at hm
        have := c.inj m n a hm ha
        omega
      have mem : ∀ b, some b ∈ A'.take A.length ++ [some a] → some b ∈ A' := fun b z => by
        rcases List.mem_append.mp z with z | z
        · exact List.mem_of_mem_take z
        · simp at z
          subst z
          exact List.mem_of_getElem? ha
      have sub2 : ∀ b, av (A'.take A.length ++ [some a]) B b → av A' B b := fun b z => z.imp id (mem b)
      refine af _ _ h3 (A'.take A.length ++ [some a]) v H' ⟨fun b o e' n' => ⟨(kp.st b o e' n').1, fun z => (kp.st b o e' n').2 (mem b z)⟩, ?_, fun m x e' => ?_⟩ ⟨?_, fun m x ob' e1 e2 => ?_, fun m l b e1 e2 => ?_, fun b z => c.off b (mem b z), c.dom, c.sys, fun z => c.soff (mem _ z)⟩ ?_
      · rw [List.length_append, lt]; exact Nat.le_add_right _ _
      · have hm : m < A.length := (List.getElem?_eq_some_iff.mp e').1
        rw [List.getElem?_append_left (by omega)]
        exact kp'.ix m x e'
      · rw [List.length_append, List.length_append, c'.len]; rfl
      · by_cases hm : m < A.length
        · rw [List.getElem?_append_left (by omega)] at e1
          rw [List.getElem?_append_left (by rw [← c'.len]; omega)] at e2
          rw [List.getElem?_take_of_lt hm] at e1 e2
          exact (c.at_ m x ob' e1 e2).less sub2
        · have em : m = A.length := by
            have := (List.getElem?_eq_some_iff.mp e1).1
            rw [List.length_append, lt] at this
            simp at this
            omega
          subst em
          rw [List.getElem?_append_right (by omega), lt] at e1
          rw [List.getElem?_append_right (by rw [← c'.len]; omega), ← c'.len, lt] at e2
          simp at e1 e2
          subst e1 e2
          exact hc.less sub2
      · have f : ∀ {j : Nat}, (A'.take A.length ++ [some a])[j]? = some (some b) → (j < A.length ∧ A'[j]? = some (some b)) ∨ (j = A.length ∧ b = a) := fun {j} e' => by
          by_cases hj : j < A.length
          · rw [List.getElem?_append_left (by omega), List.getElem?_take_of_lt hj] at e'
            exact .inl ⟨hj, e'⟩
          · have ej : j = A.length := by
              have := (List.getElem?_eq_some_iff.mp e').1
              rw [List.length_append, lt] at this
              simp at this
              omega
            subst ej
            rw [List.getElem?_append_right (by omega), lt] at e'
            simp at e'
            exact .inr ⟨rfl, e'.symm⟩
        have g : ∀ {j : Nat}, j < A.length → A'[j]? = some (some a) → False := fun {j} hj e' => by
          have := c.inj j n a e' ha
          omega
        rcases f e1 with ⟨h1, q1⟩ | ⟨h1, q1⟩ <;> rcases f e2 with ⟨h2, q2⟩ | ⟨h2, q2⟩
        · exact c.inj m l b q1 q2
        · subst q2; exact (g h1 q1).elim
        · subst q1; exact (g h2 q2).elim
        · omega
      · refine .inr ⟨a, ?_, r.at_ ha⟩
        rw [List.getElem?_append_right (by omega), lt]
        simp
    · exact h2.elim
/-! ### defs -/
/-- a def of n slots -/
def mfun (n : Nat) (body : MS) : MF := fun ws S Q => ∃ Q' : KW, (∀ w S', Q' w S' → Q w S') ∧
  body { nx := fun _ S' => finK S.length Q' (.val .non) S', rt := finK S.length Q', bk := fun _ _ => False, ct := fun _ _ => False } (ws.map some ++ List.replicate (n - ws.length) none) S
theorem mfun_mono {n : Nat} {body : MS} : MonoF (mfun n body) := fun ws S Q Q' h ⟨Q0, h0, q⟩ => ⟨Q0, fun w S' z => h w S' (h0 w S' z), q⟩
theorem mfun_of {n : Nat} {body : MS} {ws : List W} {S : Sto} {Q : KW}
    (h : body { nx := fun _ S' => finK S.length Q (.val .non) S', rt := finK S.length Q, bk := fun _ _ => False, ct := fun _ _ => False } (ws.map some ++ List.replicate (n - ws.length) none) S) : mfun n body ws S Q := ⟨Q, fun _ _ z => z, h⟩
def mNever : MF := fun _ _ _ => False
theorem mNever_mono : MonoF mNever := fun _ _ _ _ _ q => q
/-- a def's promise, by its clean transformer -/
def spF (K : Kw) (np : Nat) (t : MF) : Sp := fun vs H Q _ => ∃ A B ws S k, ws.length = np ∧ Cells K H A B S ∧ RWs K H A B ws vs ∧ t ws S k ∧ Aft K A B H k Q
theorem RWs.get {H : Hp} {A : List (Option Addr)} {B : Addr → Prop} : ∀ {ws : List W} {vs : List V} {i : Nat} {w : W}, RWs K H A B ws vs → ws[i]? = some w → ∃ v, vs[i]? = some v ∧ RW K H A B w v
  | [], _, _, _, _, e => by simp at e
  | _ :: _, _, 0, _, .cons r _, e => by simp at e; subst e; exact ⟨_, rfl, r⟩
  | _ :: ws, _ :: vs, i + 1, _, .cons _ t, e => by
    obtain ⟨v, h1, h2⟩ := RWs.get (ws := ws) (vs := vs) (i := i) t (by simpa using e)
    exact ⟨v, by simpa using h1, h2⟩
theorem RWs.length {H : Hp} {A : List (Option Addr)} {B : Addr → Prop} {ws : List W} {vs : List V} (r : RWs K H A B ws vs) : ws.length = vs.length := Paired.length r
theorem start_rel {N : List Str} {H : Hp} {A : List (Option Addr)} {B : Addr → Prop} {S : Sto} {ws : List W} {vs : List V} (c : Cells K H A B S) (r : RWs K H A B ws vs) :
    Rel K H A B (ws.map some ++ List.replicate (N.length - ws.length) none) S (L2.start N vs) := by
  have hl := r.length
  refine ⟨c, ?_, fun i w e => ?_⟩
  · unfold L2.start
    rw [List.length_append, List.length_append, List.length_map, List.length_map, List.length_replicate, List.length_replicate, hl]
  · unfold L2.start
    by_cases h : i < ws.length
    · rw [List.getElem?_append_left (by rw [List.length_map]; exact h), List.getElem?_map] at e
      rw [List.getElem?_append_left (by rw [List.length_map, ← hl]; exact h), List.getElem?_map]
      cases q : ws[i]? with
      | none => rw [q] at e; cases e
      | some w' =>
        rw [q] at e
        simp at e
        subst e
        obtain ⟨v, h1, h2⟩ := r.get q
        exact ⟨v, by rw [h1]; rfl, h2⟩
    · rw [List.getElem?_append_right (by rw [List.length_map]; omega), List.getElem?_replicate] at e
      split at e <;> simp at e
theorem mfun_ok {N : List Str} {np : Nat} {body : MS} {vs : List V} {H : Hp} {Q : VK} {E : XK} (h : spF K np (mfun N.length body) vs H Q E) : upS K body { nx := fun _ H' => Q .non H', rt := Q } (L2.start N vs) H := by
  obtain ⟨A, B, ws, S, k0, hl, c, r, ⟨k, hk, h⟩, af0⟩ := h
  have af : Aft K A B H k Q := fun w S' q => af0 w S' (hk w S' q)
  have e : S.length = A.length := c.len.symm
  have fk : Aft K A B H (finK S.length k) Q := by rw [e]; exact finK_ok af
  exact ⟨A, B, _, S, _, start_rel c r, h, fun ρ S' h' A' σ' H' kp r' => fk _ _ h' A' _ H' kp r'.cells RW.non, fk, fun _ _ z => z.elim, fun _ _ z => z.elim⟩
theorem spF_len {np : Nat} {t : MF} {vs : List V} {H : Hp} {Q : VK} {E : XK} (h : spF K np t vs H Q E) : vs.length = np := by
  obtain ⟨A, B, ws, S, k, hl, c, r, _⟩ := h
  rw [← r.length]
  exact hl
/-- THE RULE for a def that raises nothing -/
theorem fun_ok {P : Program} {w : World} {K : PySem.W.Frag} {mg : Str → Option Value} {base : Heap} {x qual : Str} {params : Arguments} {bd : List Stmt} {scope : Scope} {dvs : List V} {kws : List (Str × V)} {f : Addr} {fd : FuncData} {N ps : List Str} {k : Nat} {body : MS}
    (F : FunD K x qual params bd scope dvs kws f fd) (S : FnScope N ps scope)
    (hb : ∀ (cdv : Value) (A : Around) (outer : List Env) (s : Shared) (H : Hp) (E : XK), Room k (A.deeper (envOfC qual scope s.heap.objs.size f cdv)) → A.guards = some [] → PSsm (cxOf CX0 P w K mg base N qual scope f cdv A outer s H E).nox bd body) :
    FnG P w K mg base CX0 (k + 1) f fd ps (spF ⟨K, w, mg⟩ ps.length (mfun N.length body)) :=
  fnG_of F S (fun vs H Q E h => spF_len h) fun cdv A outer s H vs Q E hr hgd h => ⟨_, PSs.nox (hb cdv A outer s H E hr hgd).pss, mfun_ok h⟩
theorem fnG_never {P : Program} {w : World} {K : PySem.W.Frag} {mg : Str → Option Value} {base : Heap} {f : Addr} {fd : FuncData} {ps : List Str} {k : Nat} : FnG P w K mg base CX0 k f fd ps (spF ⟨K, w, mg⟩ ps.length mNever) :=
  ⟨fun vs H Q E h => spF_len h, fun A o s H as us vs Q E r g e b v h => by
    obtain ⟨_, _, _, _, _, _, _, _, h, _⟩ := h
    exact h.elim⟩
/-! ### calls -/
def refsOf : List W → List Nat
  | [] => []
  | .ref n :: r => n :: refsOf r
  | .val _ :: r => refsOf r
  | .lws _ :: r => 0 :: 0 :: refsOf r
  | .ins _ _ _ :: r => 0 :: 0 :: refsOf r
  | .fn _ :: r => 0 :: 0 :: refsOf r
def renum : Nat → List W → List W
  | _, [] => []
  | i, .ref _ :: r => .ref i :: renum (i + 1) r
  | i, w :: r => w :: renum i r
def pickS (S : Sto) (ns : List Nat) : Sto := ns.map fun n => S[n]?.getD .dead
def putL {α : Type} (l : List α) : List Nat → List α → List α
  | n :: ns, x :: xs => putL (l.set n x) ns xs
  | _, _ => l
/-- behind a call: the cells are put back, a new one behind them -/
def backK (S : Sto) (ns : List Nat) (k : KW) : KW := fun w S' => match w with
  | .val d => k (.val d) (putL S ns S')
  | .ref m => m = ns.length ∧ match S'[ns.length]? with
    | some ob => ob ≠ .dead ∧ k (.ref S.length) (putL S ns S' ++ [ob])
    | none => False
  | _ => False
def callW (t : MF) (ws : List W) (S : Sto) (k : KW) : Prop := (refsOf ws).Nodup ∧ (∀ n ∈ refsOf ws, ∃ ob, S[n]? = some ob ∧ ob ≠ .dead) ∧ t (renum 0 ws) (pickS S (refsOf ws)) (backK S (refsOf ws) k)
theorem backK_mono {S : Sto} {ns : List Nat} {k k' : KW} (h : ∀ w S, k w S → k' w S) {w : W} {S' : Sto} (q : backK S ns k w S') : backK S ns k' w S' := by
  cases w with
  | lws _ => exact q
  | ins _ _ _ => exact q
  | fn _ => exact q
  | val d => exact h _ _ q
  | ref n =>
    refine ⟨q.1, ?_⟩
    have q2 := q.2
    split at q2
    · exact ⟨q2.1, h _ _ q2.2⟩
    · exact q2.elim
theorem callW_mono {t : MF} (m : MonoF t) {ws : List W} {S : Sto} {k k' : KW} (h : ∀ w S, k w S → k' w S) (q : callW t ws S k) : callW t ws S k' :=
  ⟨q.1, q.2.1, m _ _ _ _ (fun w S' => backK_mono h) q.2.2⟩
theorem putL_length {α : Type} : ∀ (ns : List Nat) (l : List α) (xs : List α), (putL l ns xs).length = l.length
  | [], _, _ => by unfold putL; rfl
  | _ :: _, _, [] => by unfold putL; rfl
  | n :: ns, l, x :: xs => by
    unfold putL
    rw [putL_length ns, List.length_set]
theorem putL_off {α : Type} : ∀ (ns : List Nat) (l : List α) (xs : List α) {n : Nat}, n ∉ ns → (putL l ns xs)[n]? = l[n]?
  | [], _, _, _, _ => by unfold putL; rfl
  | _ :: _, _, [], _, _ => by unfold putL; rfl
  | m :: ns, l, x :: xs, n, h => by
    unfold putL
    rw [putL_off ns _ _ fun z => h (List.mem_cons_of_mem _ z), List.getElem?_set_ne fun z => h (by rw [z]; exact List.mem_cons_self)]
theorem putL_at {α : Type} : ∀ (ns : List Nat) (l : List α) (xs : List α) {i n : Nat} {x : α}, ns.Nodup → ns[i]? = some n → xs[i]? = some x → n < l.length → (putL l ns xs)[n]? = some x
  | [], _, _, _, _, _, _, e, _, _ => by simp at e
  | _ :: _, _, [], _, _, _, _, _, e, _ => by simp at e
  | m :: ns, l, y :: xs, 0, n, x, hd, e1, e2, h => by
    simp at e1 e2
    subst e1 e2
    unfold putL
    rw [putL_off ns _ _ (List.nodup_cons.mp hd).1, List.getElem?_set_self h]
  | m :: ns, l, y :: xs, i + 1, n, x, hd, e1, e2, h => by
    unfold putL
    exact putL_at ns _ xs (i := i) (List.nodup_cons.mp hd).2 (by simpa using e1) (by simpa using e2) (by rw [List.length_set]; exact h)
/-- what is no data, no cell is not handed in -/
theorem twin_no {ns : List Nat} (h : (0 :: 0 :: ns).Nodup) : False := (List.nodup_cons.mp h).1 List.mem_cons_self
theorem renum_ok {H : Hp} {A Ac : List (Option Addr)} {B Bc : Addr → Prop} (hav : ∀ a, av Ac Bc a → av A B a) : ∀ {ws : List W} {vs : List V} {i : Nat}, RWs K H A B ws vs →
    (∀ j n, (refsOf ws)[j]? = some n → ∃ a, A[n]? = some (some a) ∧ Ac[i + j]? = some (some a)) → (refsOf ws).Nodup → RWs K H Ac Bc (renum i ws) vs
  | [], _, _, r, _, _ => by
    cases r
    exact .nil
  | .val d :: ws, _, i, r, h, nd => by
    cases r with
    | cons r1 r2 => exact .cons (RW.less hav r1) (renum_ok (i := i) hav r2 h nd)
  | .lws _ :: ws, _, i, r, h, nd => (twin_no nd).elim
  | .ins _ _ _ :: ws, _, i, r, h, nd => (twin_no nd).elim
  | .fn _ :: ws, _, i, r, h, nd => (twin_no nd).elim
  | .ref n :: ws, _, i, r, h, nd => by
    cases r with
    | cons r1 r2 =>
      obtain ⟨a, h1, h2⟩ := h 0 n rfl
      refine .cons (.inr ⟨a, h2, r1.at_ h1⟩) (renum_ok (i := i + 1) hav r2 (fun j m e => ?_) (List.nodup_cons.mp nd).2)
      obtain ⟨b, q1, q2⟩ := h (j + 1) m (by show (n :: refsOf ws)[j + 1]? = some m; simpa using e)
      exact ⟨b, q1, by rw [show i + 1 + j = i + (j + 1) by omega]; exact q2⟩
theorem renum_length : ∀ (i : Nat) (ws : List W), (renum i ws).length = ws.length
  | _, [] => rfl
  | i, .ref _ :: r => by unfold renum; rw [List.length_cons, List.length_cons, renum_length]
  | i, .val _ :: r => by unfold renum; rw [List.length_cons, List.length_cons, renum_length]
  | i, .lws _ :: r => by unfold renum; rw [List.length_cons, List.length_cons, renum_length]
  | i, .ins _ _ _ :: r => by unfold renum; rw [List.length_cons, List.length_cons, renum_length]
  | i, .fn _ :: r => by unfold renum; rw [List.length_cons, List.length_cons, renum_length]
theorem call_ok {t : MF} {np : Nat} {A : List (Option Addr)} {B : Addr → Prop} {H : Hp} {S : Sto} {ws : List W} {vs : List V} {k : KW} {Q : VK} {E : XK} (c : Cells K H A B S) (r : RWs K H A B ws vs) (hl : ws.length = np) (h : callW t ws S k) (af : Aft K A B H k Q) :
    spF K np t vs H Q E := by
  obtain ⟨nd, live, h⟩ := h
  generalize hns : refsOf ws = ns at *
  -- the addresses of the cells that are handed in
  have hA : ∀ n ∈ ns, ∃ a ob, A[n]? = some (some a) ∧ S[n]? = some ob ∧ CellOk K H (av A B) (some a) ob := fun n hn => by
    obtain ⟨ob, e, nd⟩ := live n hn
    obtain ⟨a, h1, h2⟩ := c.look e nd
    exact ⟨a, ob, h1, e, h2⟩
  let Ac : List (Option Addr) := ns.map fun n => A[n]?.getD none
  let Bc : Addr → Prop := fun a => B a ∨ (some a ∈ A ∧ some a ∉ Ac)
  have Ac_at : ∀ {i : Nat} {x : Option Addr}, Ac[i]? = some x → ∃ n a, ns[i]? = some n ∧ x = some a ∧ A[n]? = some (some a) := fun {i x} e => by
    rw [List.getElem?_map] at e
    cases q : ns[i]? with
    | none => rw [q] at e; cases e
    | some n =>
      rw [q] at e
      simp at e
      obtain ⟨a, ob, h1, _⟩ := hA n (List.mem_of_getElem? q)
      rw [h1] at e
      simp at e
      exact ⟨n, a, rfl, e.symm, h1⟩
  have Ac_of : ∀ {i n : Nat}, ns[i]? = some n → ∃ a, A[n]? = some (some a) ∧ Ac[i]? = some (some a) := fun {i n} e => by
    obtain ⟨a, ob, h1, _⟩ := hA n (List.mem_of_getElem? e)
    refine ⟨a, h1, ?_⟩
    rw [List.getElem?_map, e]
    simp [h1]
  have Ac_sub : ∀ a, some a ∈ Ac → some a ∈ A := fun a m => by
    obtain ⟨i, e⟩ := List.mem_iff_getElem?.mp m
    obtain ⟨n, b, _, e2, e3⟩ := Ac_at e
    cases e2
    exact List.mem_of_getElem? e3
  have hav1 : ∀ a, av Ac Bc a → av A B a := fun a z => by
    rcases z with (z | z) | z
    · exact .inl z
    · exact .inr z.1
    · exact .inr (Ac_sub a z)
  have hav2 : ∀ a, av A B a → av Ac Bc a := fun a z => by
    rcases z with z | z
    · exact .inl (.inl z)
    · by_cases m : some a ∈ Ac
      · exact .inr m
      · exact .inl (.inr ⟨z, m⟩)
  have lnc : Ac.length = ns.length := List.length_map ..
  have inj_ns : ∀ {i j n : Nat}, ns[i]? = some n → ns[j]? = some n → i = j := fun {i j n} e1 e2 => by
    obtain ⟨h1, q1⟩ := List.getElem?_eq_some_iff.mp e1
    obtain ⟨h2, q2⟩ := List.getElem?_eq_some_iff.mp e2
    exact (List.getElem_inj nd).mp (q1.trans q2.symm)
  refine ⟨Ac, Bc, renum 0 ws, pickS S ns, _, by rw [renum_length]; exact hl, ⟨?_, fun i x ob e1 e2 => ?_, fun i j a e1 e2 => ?_, fun a m z => ?_, fun a z => ?_, c.sys, fun z => c.soff (Ac_sub _ z)⟩,
    renum_ok hav1 r (fun j n e => by rw [Nat.zero_add]; rw [hns] at e; exact Ac_of e) (by rw [hns]; exact nd), h, ?_⟩
  · unfold pickS
    rw [List.length_map, List.length_map]
  · obtain ⟨n, a, q1, rfl, q3⟩ := Ac_at e1
    obtain ⟨b, ob', h1, h2, h3⟩ := hA n (List.mem_of_getElem? q1)
    rw [q3] at h1
    cases h1
    unfold pickS at e2
    rw [List.getElem?_map, q1] at e2
    simp [h2] at e2
    subst e2
    exact h3.less hav1
  · obtain ⟨n, b, q1, q2, q3⟩ := Ac_at e1
    cases q2
    obtain ⟨m, b, p1, p2, p3⟩ := Ac_at e2
    cases p2
    have := c.inj n m _ q3 p3
    subst this
    exact inj_ns q1 p1
  · rcases z with z | z
    · exact c.off a (Ac_sub a m) z
    · exact z.2 m
  · rcases z with z | z
    · exact c.dom a z
    · obtain ⟨n, e⟩ := List.mem_iff_getElem?.mp z.1
      have hn : n < S.length := by rw [← c.len]; exact (List.getElem?_eq_some_iff.mp e).1
      exact (c.at_ n _ _ e (List.getElem?_eq_getElem hn)).some_of.1
  -- behind the call
  intro w S' hb A' v H' kp c' rw'
  have hAS : ∀ {i n : Nat}, ns[i]? = some n → ∃ x ob, A'[i]? = some x ∧ S'[i]? = some ob := fun {i n} e => by
    have h1 : i < ns.length := (List.getElem?_eq_some_iff.mp e).1
    have h2 : i < A'.length := by have := kp.len; omega
    have h3 : i < S'.length := by rw [← c'.len]; exact h2
    exact ⟨_, _, List.getElem?_eq_getElem h2, List.getElem?_eq_getElem h3⟩
  have look2 : ∀ {n : Nat} {x : Option Addr}, (putL A ns A')[n]? = some x → (n ∉ ns ∧ A[n]? = some x) ∨ ∃ i, ns[i]? = some n ∧ A'[i]? = some x := fun {n x} e => by
    by_cases hn : n ∈ ns
    · obtain ⟨i, hi⟩ := List.mem_iff_getElem?.mp hn
      obtain ⟨y, ob, h1, h2⟩ := hAS hi
      have hlt : n < A.length := by have := (List.getElem?_eq_some_iff.mp e).1; rw [putL_length] at this; exact this
      rw [putL_at ns A A' nd hi h1 hlt] at e
      cases e
      exact .inr ⟨i, hi, h1⟩
    · rw [putL_off ns A A' hn] at e
      exact .inl ⟨hn, e⟩
  have back : ∀ {n : Nat} {a : Addr}, (putL A ns A')[n]? = some (some a) → A[n]? = some (some a) := fun {n a} e => by
    rcases look2 e with ⟨_, h1⟩ | ⟨i, h1, h2⟩
    · exact h1
    · obtain ⟨b, q1, q2⟩ := Ac_of h1
      rcases kp.ix i _ q2 with z | z
      · rw [h2] at z
        cases z
        exact q1
      · rw [h2] at z
        cases z
  have sub : ∀ a, some a ∈ putL A ns A' → some a ∈ A ∧ (some a ∈ A' ∨ (some a ∉ Ac)) := fun a m => by
    obtain ⟨n, e⟩ := List.mem_iff_getElem?.mp m
    refine ⟨List.mem_of_getElem? (back e), ?_⟩
    rcases look2 e with ⟨h0, h1⟩ | ⟨i, h1, h2⟩
    · refine .inr fun z => ?_
      obtain ⟨j, ej⟩ := List.mem_iff_getElem?.mp z
      obtain ⟨m', b, p1, p2, p3⟩ := Ac_at ej
      cases p2
      have := c.inj _ _ _ h1 p3
      subst this
      exact h0 (List.mem_of_getElem? p1)
    · exact .inl (List.mem_of_getElem? h2)
  have hav3 : ∀ a, av (putL A ns A') B a → av A' Bc a := fun a z => by
    rcases z with z | z
    · exact .inl (.inl z)
    · obtain ⟨h1, h2 | h2⟩ := sub a z
      · exact .inr h2
      · exact .inl (.inr ⟨h1, h2⟩)
  have kp2 : Keep A H (putL A ns A') H' := by
    refine ⟨fun a o e n => ?_, by rw [putL_length]; exact Nat.le_refl _, fun n x e => ?_⟩
    · obtain ⟨q1, q2⟩ := kp.st a o e fun z => n (Ac_sub a z)
      exact ⟨q1, fun z => n (sub a z).1⟩
    · have hlt : n < (putL A ns A').length := by rw [putL_length]; exact (List.getElem?_eq_some_iff.mp e).1
      have e' := List.getElem?_eq_getElem hlt
      rcases look2 e' with ⟨h0, h1⟩ | ⟨i, h1, h2⟩
      · rw [e'] at *
        rw [e] at h1
        exact .inl (by rw [h1])
      · obtain ⟨b, q1, q2⟩ := Ac_of h1
        rw [e] at q1
        cases q1
        rw [e']
        rcases kp.ix i _ q2 with z | z
        · rw [h2] at z; exact .inl z
        · rw [h2] at z; exact .inr z
  have c2 : Cells K H' (putL A ns A') B (putL S ns S') := by
    refine ⟨by rw [putL_length, putL_length]; exact c.len, fun n x ob e1 e2 => ?_, fun n m a e1 e2 => c.inj n m a (back e1) (back e2), fun a m => c.off a (sub a m).1, fun a z => c'.dom a (.inl z), c'.sys, fun z => c.soff (sub _ z).1⟩
    by_cases hn : n ∈ ns
    · obtain ⟨i, hi⟩ := List.mem_iff_getElem?.mp hn
      obtain ⟨y, ob', h1, h2⟩ := hAS hi
      have hlt : n < A.length := by have := (List.getElem?_eq_some_iff.mp e1).1; rw [putL_length] at this; exact this
      rw [putL_at ns A A' nd hi h1 hlt] at e1
      rw [putL_at ns S S' nd hi h2 (by rw [← c.len]; exact hlt)] at e2
      cases e1
      cases e2
      exact (c'.at_ i _ _ h1 h2).less hav3
    · rw [putL_off ns A A' hn] at e1
      rw [putL_off ns S S' hn] at e2
      have q := c.at_ n x ob e1 e2
      have st : Stay H (av A B) H' (av (putL A ns A') B) := kp2.stay
      cases x with
      | none => cases ob <;> exact q
      | some a =>
        have nA : some a ∉ Ac := fun z => by
          obtain ⟨j, ej⟩ := List.mem_iff_getElem?.mp z
          obtain ⟨m', b, p1, p2, p3⟩ := Ac_at ej
          cases p2
          have := c.inj _ _ _ e1 p3
          subst this
          exact hn (List.mem_of_getElem? p1)
        cases ob with
        | dead => exact q.elim
        | lst ds =>
          obtain ⟨us, h1, h2⟩ := q
          exact ⟨us, (kp.st a _ h1 nA).1, RVs.stay st h2⟩
        | dic ks wv =>
          obtain ⟨u, kv, us, h1, h2, h3, h4⟩ := q
          exact ⟨u, kv, us, (kp.st a _ h1 nA).1, h2, RVs.stay st h3, RVs.stay st h4⟩
  cases w with
  | lws _ => exact hb.elim
  | ins _ _ _ => exact hb.elim
  | fn _ => exact hb.elim
  | val d => exact af _ _ hb _ v H' kp2 c2 (RW.less hav3 rw')
  | ref m =>
    obtain ⟨em, hb⟩ := hb
    subst em
    split at hb
    · rename_i ob e
      obtain ⟨nd', hb⟩ := hb
      obtain ⟨a, ha, hc⟩ := c'.look e nd'
      have aB : ¬ Bc a := c'.off a (List.mem_of_getElem? ha)
      have a_new : some a ∉ putL A ns A' := fun z => by
        obtain ⟨h1, h2 | h2⟩ := sub a z
        · obtain ⟨n, en⟩ := List.mem_iff_getElem?.mp z
          rcases look2 en with ⟨h3, h4⟩ | ⟨i, h3, h4⟩
          · refine aB (.inr ⟨List.mem_of_getElem? h4, fun y => ?_⟩)
            obtain ⟨j, ej⟩ := List.mem_iff_getElem?.mp y
            obtain ⟨m', b, p1, p2, p3⟩ := Ac_at ej
            cases p2
            have := c.inj _ _ _ h4 p3
            subst this
            exact h3 (List.mem_of_getElem? p1)
          · have := c'.inj _ _ _ h4 ha
            have := (List.getElem?_eq_some_iff.mp h3).1
            omega
        · exact aB (.inr ⟨h1, h2⟩)
      have mem : ∀ b, some b ∈ putL A ns A' ++ [some a] → some b ∈ putL A ns A' ∨ b = a := fun b z => by
        rcases List.mem_append.mp z with z | z
        · exact .inl z
        · simp at z
          exact .inr z
      have hav4 : ∀ b, av (putL A ns A' ++ [some a]) B b → av A' Bc b := fun b z => by
        rcases z with z | z
        · exact hav3 b (.inl z)
        · rcases mem b z with z | z
          · exact hav3 b (.inr z)
          · subst z
            exact .inr (List.mem_of_getElem? ha)
      have kp3 : Keep A H (putL A ns A' ++ [some a]) H' := by
        refine ⟨fun b o e' n' => ⟨(kp2.st b o e' n').1, fun z => ?_⟩, by rw [List.length_append]; exact Nat.le_trans kp2.len (Nat.le_add_right _ _), fun n x e' => ?_⟩
        · rcases mem b z with z | z
          · exact (kp2.st b o e' n').2 z
          · subst z
            exact (kp.st b o e' fun y => n' (Ac_sub b y)).2 (List.mem_of_getElem? ha)
        · rw [List.getElem?_append_left (by rw [putL_length]; exact (List.getElem?_eq_some_iff.mp e').1)]
          exact kp2.ix n x e'
      have look3 : ∀ {n : Nat} {x : Option Addr}, (putL A ns A' ++ [some a])[n]? = some x → (n < A.length ∧ (putL A ns A')[n]? = some x) ∨ (n = A.length ∧ x = some a) := fun {n x} e' => by
        by_cases hn : n < A.length
        · rw [List.getElem?_append_left (by rw [putL_length]; exact hn)] at e'
          exact .inl ⟨hn, e'⟩
        · have en : n = A.length := by
            have := (List.getElem?_eq_some_iff.mp e').1
            rw [List.length_append, putL_length] at this
            simp at this
            omega
          subst en
          rw [List.getElem?_append_right (by rw [putL_length]; exact Nat.le_refl _), putL_length] at e'
          simp at e'
          exact .inr ⟨rfl, e'.symm⟩
      have c3 : Cells K H' (putL A ns A' ++ [some a]) B (putL S ns S' ++ [ob]) := by
        refine ⟨by rw [List.length_append, List.length_append, c2.len]; rfl, fun n x ob' e1 e2 => ?_, fun n m b e1 e2 => ?_, fun b z => ?_, c2.dom, c2.sys, fun z => (mem _ z).elim (fun y => c2.soff y) fun y => c'.soff (y ▸ List.mem_of_getElem? ha)⟩
        · rcases look3 e1 with ⟨h1, h2⟩ | ⟨h1, h2⟩
          · rw [List.getElem?_append_left (by rw [putL_length, ← c.len]; exact h1)] at e2
            by_cases hn : n ∈ ns
            · obtain ⟨i, hi⟩ := List.mem_iff_getElem?.mp hn
              obtain ⟨y, ob2, g1, g2⟩ := hAS hi
              rw [putL_at ns A A' nd hi g1 h1] at h2
              rw [putL_at ns S S' nd hi g2 (by rw [← c.len]; exact h1)] at e2
              cases h2
              cases e2
              exact (c'.at_ i _ _ g1 g2).less hav4
            · -- an untouched cell
              have q := c2.at_ n x ob' h2 e2
              rw [putL_off ns A A' hn] at h2
              rw [putL_off ns S S' hn] at e2
              have q0 := c.at_ n x ob' h2 e2
              have st : Stay H (av A B) H' (av (putL A ns A' ++ [some a]) B) := kp3.stay
              cases x with
              | none => cases ob' <;> exact q
              | some b =>
                cases ob' with
                | dead => exact q.elim
                | lst ds =>
                  obtain ⟨us, g1, _⟩ := q
                  obtain ⟨us0, g2, g3⟩ := q0
                  refine ⟨us, g1, ?_⟩
                  have nA : some b ∉ Ac := fun z => by
                    obtain ⟨j, ej⟩ := List.mem_iff_getElem?.mp z
                    obtain ⟨m', b', p1, p2, p3⟩ := Ac_at ej
                    cases p2
                    have := c.inj _ _ _ h2 p3
                    subst this
                    exact hn (List.mem_of_getElem? p1)
                  have := (kp.st b _ g2 nA).1
                  rw [g1] at this
                  cases this
                  exact RVs.stay st g3
                | dic ks wv =>
                  obtain ⟨u0, kv0, us0, g2, gb, g3, g4⟩ := q0
                  have nA : some b ∉ Ac := fun z => by
                    obtain ⟨j, ej⟩ := List.mem_iff_getElem?.mp z
                    obtain ⟨m', b', p1, p2, p3⟩ := Ac_at ej
                    cases p2
                    have := c.inj _ _ _ h2 p3
                    subst this
                    exact hn (List.mem_of_getElem? p1)
                  exact ⟨u0, kv0, us0, (kp.st b _ g2 nA).1, gb, RVs.stay st g3, RVs.stay st g4⟩
          · subst h2
            rw [h1, List.getElem?_append_right (by rw [putL_length, ← c.len]; exact Nat.le_refl _), putL_length, ← c.len] at e2
            simp at e2
            subst e2
            exact hc.less hav4
        · rcases look3 e1 with ⟨h1, h2⟩ | ⟨h1, h2⟩ <;> rcases look3 e2 with ⟨h3, h4⟩ | ⟨h3, h4⟩
          · exact c2.inj n m b h2 h4
          · cases h4
            exact (a_new (List.mem_of_getElem? h2)).elim
          · cases h2
            exact (a_new (List.mem_of_getElem? h4)).elim
          · omega
        · rcases mem b z with z | z
          · exact c2.off b z
          · subst z
            exact fun y => aB (.inl y)
      refine af _ _ hb _ v H' kp3 c3 (.inr ⟨a, ?_, rw'.at_ ha⟩)
      rw [List.getElem?_append_right (by rw [putL_length, c.len]; exact Nat.le_refl _), putL_length, c.len]
      simp
    · exact hb.elim
/-- f(e, ..), f a def of one's own; dws: the defaults that are not handed in -/
def mCall (t : MF) (args : MA) (dws : List W) : ME := fun ρ S k => args ρ S fun ws S1 => callW t (ws ++ dws) S1 k
section
variable {X : Cx} {x : Str} {p pos : Pos} {e : Expr} {es : List Expr} {f : Addr} {fd : FuncData} {ps : List Str} {k np : Nat} {t : MF} {args : MA} {ds : List Value} {dws : List W} {dvs : List V}
theorem RWs.append {H : Hp} {A : List (Option Addr)} {B : Addr → Prop} : ∀ {ws ws' : List W} {vs vs' : List V}, RWs K H A B ws vs → RWs K H A B ws' vs' → RWs K H A B (ws ++ ws') (vs ++ vs')
  | [], _, _, _, r, q => by
    cases r
    exact q
  | _ :: _, _, _, _, r, q => by
    cases r with
    | cons r1 r2 => exact .cons r1 (RWs.append r2 q)
/-- defaults -/
def Dfl (K : Kw) (dws : List W) (dvs : List V) : Prop := ∀ H A B, RWs K H A B dws dvs
theorem Dfl.nil : Dfl K [] [] := fun _ _ _ => .nil
theorem Dfl.int {i : Int} {dws : List W} {dvs : List V} (h : Dfl K dws dvs) : Dfl K (.val (.int i) :: dws) (.int i :: dvs) := fun H A B => .cons RW.int (h H A B)
theorem Dfl.non {dws : List W} {dvs : List V} (h : Dfl K dws dvs) : Dfl K (.val .non :: dws) (.non :: dvs) := fun H A B => .cons RW.non (h H A B)
theorem pem_call (F : FnG X.prog X.w X.kw X.mg X.base CX0 k f fd ps (spF X.kw ps.length t)) (mt : MonoF t) (hr : Room k X.A) (hgd : X.A.guards = some []) (hg : Gl X x) (hm : X.mg x = some (.ref f)) (hk : PySem.W.keepIn X.kw (.ref f) = true) (hb : Binds X.kw fd ps ds) (hd : Vals dvs ds) (hdf : Dfl X.kw dws dvs)
    (hx : Passes CX0 X fun _ _ _ => False) (ha : PAm X (e :: es) args) (hl : (e :: es).length + dws.length = ps.length) (hdb : (x == ("__debug__" : Str)) = false := by decide)
    (he : starEach (e :: es) X.env = (false, eval e X.env) :: starEach es X.env := by rfl) (hpl : (backTo pos (starEach es X.env)).any (·.1) = false := by rfl) :
    PEm X (.Call (.Name x p) (e :: es) [] pos) (mCall t args dws) := by
  refine ⟨(pe_callG F hr hgd hg hm hk hb hd hx ha.pa hdb he hpl).imp ?_, fun ρ S Q Q' h q => ha.mono ρ S _ _ (fun ws S1 => callW_mono mt h) q⟩
  rintro σ H Q ⟨A, B, ρ, S, k, r, h, af⟩
  refine upA_then r (ha.len _ _ _ h) fun ws S1 A1 vs H1 h1 k1 r1 rws => ?_
  exact call_ok r1.cells (rws.append (hdf _ _ _)) (by rw [List.length_append, h1.1]; exact hl) h1.2 (af.keep k1)
end
/-! ### keywords: f(e, .., k = v), all keyword-only parameters handed in, in order -/
def mCallK (t : MF) (args kw : MA) : ME := fun ρ S k => args ρ S fun ws S1 => kw ρ S1 fun zs S2 => callW t (ws ++ zs) S2 k
end Fo
/-! Core6: loops, comprehensions, what is walked. -/
namespace Fo
open PySem PySem.Spec PyProof.Rows L2
variable {K : Kw}
/-! ### while -/
/-! ### what is walked -/
abbrev MI := Rho → Sto → (List D → Sto → Prop) → Prop
def MonoI (t : MI) : Prop := ∀ ρ S (Q Q' : List D → Sto → Prop), (∀ w S', Q w S' → Q' w S') → t ρ S Q → t ρ S Q'
structure WalkD (K : Kw) (A : List (Option Addr)) (B : Addr → Prop) (H : Hp) (J : It) (ds : List D) (G : Hp → Prop) (Y : Nat → Hp → V → Hp → Prop) : Prop where
  walk : Walk J ds.length G Y
  stay : ∀ A' H', Keep A H A' H' → G H'
  item : ∀ i A' B' H' S' x H2, i < ds.length → (∀ a, B a → B' a) → (∀ a o, H a = some o → ¬ av A B a → ¬ B' a) → Keep A H A' H' → Cells K H' A' B' S' → Y i H' x H2 → ∃ d, ds[i]? = some d ∧ Keep A' H' A' H2 ∧ Cells K H2 A' B' S' ∧ RV K H2 (av A' B') d x
def upI (K : Kw) (t : MI) : TI := fun σ H R => ∃ A B ρ S k, Rel K H A B ρ S σ ∧ t ρ S k ∧ ∀ ds S', k ds S' → ∀ A' H' J G Y, Keep A H A' H' → Cells K H' A' B S' → WalkD K A' B H' J ds G Y → R J H'
structure PIm (X : Cx) (tg iter : Expr) (t : MI) : Prop where
  pi : PI X tg iter (upI X.kw t)
  mono : MonoI t
theorem _root_.L2.PI.imp {X : Cx} {tg e : Expr} {t t' : TI} (h : PI X tg e t) (i : ∀ σ H R, t' σ H R → t σ H R) : PI X tg e t' := ⟨fun pins s σ H R I q => h.run pins s σ H R I (i σ H R q)⟩
/-! ### for -/
def forItems (g : MG) (tb : MS) (E : End) : List D → Rho → Sto → Prop
  | [], ρ, S => E.nx ρ S
  | d :: ds, ρ, S => g (.val d) ρ S fun ρ1 S1 => tb { nx := forItems g tb E ds, rt := E.rt, bk := E.nx, ct := forItems g tb E ds } ρ1 S1
def sFor (it : MI) (g : MG) (tb : MS) : MS := fun E ρ S => it ρ S fun ds S1 => forItems g tb E ds ρ S1
theorem forItems_mono {g : MG} {tb : MS} (mg : MonoG g) (mb : MonoS tb) {E E' : End} (l : E.le E') : ∀ ds ρ S, forItems g tb E ds ρ S → forItems g tb E' ds ρ S
  | [], _, _, h => l.nx _ _ h
  | d :: ds, ρ, S, h => mg _ ρ S _ _ (fun ρ1 S1 q => mb { nx := forItems g tb E ds, rt := E.rt, bk := E.nx, ct := forItems g tb E ds } { nx := forItems g tb E' ds, rt := E'.rt, bk := E'.nx, ct := forItems g tb E' ds } ρ1 S1
      ⟨forItems_mono mg mb l ds, l.rt, l.nx, forItems_mono mg mb l ds⟩ q) h
theorem psm_for {X : Cx} {tg iter : Expr} {body : List Stmt} {it : MI} {g' : TG} {g : MG} {sl : List Nat} {tb : MS} {pos : Pos} (hp : PassesOwn (model X.prog X.w) X.A X.env X.xe) (hc : X.calm = true) (hi : PIm X tg iter it) (hg : PGm X tg g' g sl) (hb : PSsm X body tb)
    (hs : ∀ x, foldedSetIterable iter X.env x = pure x := by intro _; rfl) : PSm X (.For tg iter body [] pos) (sFor it g tb) := by
  have qg := hg.ok
  refine ⟨(ps_for hp hc hi.pi hg.pg hb.pss hs).imp ?_, fun E E' ρ S l h => hi.mono ρ S _ _ (fun ds S1 q => forItems_mono hg.mono hb.mono l ds ρ S1 q) h⟩
  rintro D σ H ⟨A, B, ρ, S, E, r, h, a⟩
  refine ⟨A, B, ρ, S, _, r, h, fun ds S1 h1 A1 H1 J G Y k1 c1 wd => ?_⟩
  refine for_it wd.walk (fun i σ' H' => ∃ A' ρ' S', Keep A1 H1 A' H' ∧ Rel X.kw H' A' B ρ' S' σ' ∧ forItems g tb E (ds.drop i) ρ' S') ⟨A1, ρ, S1, Keep.refl, r.keep k1 c1, h1⟩ (fun i σ' H' _ ⟨A', ρ', S', k', _⟩ => wd.stay A' H' k') ?_ ?_
  · rintro i x σ2 H2 H3 hi ⟨A2, ρ2, S2, k2, r2, h2⟩ hy
    obtain ⟨d, hd, k3, c3, rv⟩ := wd.item i A2 B H2 S2 x H3 hi (fun _ z => z) (fun b o _ n z => n (.inl z)) k2 r2.cells hy
    have ed : ds.drop i = d :: ds.drop (i + 1) := by
      obtain ⟨h1, h2⟩ := List.getElem?_eq_some_iff.mp hd
      rw [List.drop_eq_getElem_cons h1, h2]
    rw [ed] at h2
    refine qg A2 B H3 (.val d) x ρ2 S2 σ2 _ _ (r2.keep k3 c3) rv h2 fun ρ4 S4 h4 A4 σ4 H4 k4 r4 _ => ?_
    have kk := (k2.trans k3).trans k4
    exact ⟨A4, B, ρ4, S4, _, r4, h4, ⟨fun ρ' S' h' A' σ' H' k' r' => ⟨A', ρ', S', kk.trans k', r', h'⟩, a.rt.keep (k1.trans kk), a.nx.keep (k1.trans kk), fun ρ' S' h' A' σ' H' k' r' => ⟨A', ρ', S', kk.trans k', r', h'⟩⟩⟩
  · rintro σ2 H2 ⟨A2, ρ2, S2, k2, r2, h2⟩
    rw [List.drop_length] at h2
    exact a.nx _ _ h2 A2 σ2 H2 (k1.trans k2) r2
/-! ### list comprehensions -/
def cYes : MT := fun _ S k => k true S
structure PTsm (X : Cx) (ifs : List Expr) (t : MT) : Prop where
  pts : PTs X ifs (upT X.kw t)
  mono : MonoT t
theorem _root_.L2.PTs.imp {X : Cx} {e : List Expr} {t t' : TT} (h : PTs X e t) (i : ∀ σ H Q, t' σ H Q → t σ H Q) : PTs X e t' := ⟨fun pins s σ H Q I q => h.run pins s σ H Q I (i σ H Q q)⟩
theorem ptsm_nil {X : Cx} : PTsm X [] cYes := by
  refine ⟨pts_nil.imp ?_, fun ρ S Q Q' h q => h _ _ q⟩
  rintro σ H Q ⟨A, B, ρ, S, k, r, h, a⟩
  exact a _ _ h A H Keep.refl r.cells
theorem ptsm_one {X : Cx} {c : Expr} {t : MT} (h : PTm X c t) : PTsm X [c] t := ⟨pts_one h.pt, h.mono⟩
def lcItems (g : MG) (c : MT) (e : ME) (ρ : Rho) (k : List D → Sto → Prop) : List D → List D → Sto → Prop
  | [], acc, S => k acc S
  | d :: ds, acc, S => g (.val d) ρ S fun ρ2 S2 => c ρ2 S2 fun b S3 => if b = true then e ρ2 S3 fun w S4 => match w with
      | .val y => acc.length < sizeLine ∧ lcItems g c e ρ k ds (acc ++ [y]) S4
      | _ => False
    else lcItems g c e ρ k ds acc S3
def nLC (it : MI) (g : MG) (c : MT) (e : ME) (vs : List Nat) : MN := fun ρ S k => it ρ S fun ds S1 => lcItems g c e (wipeR ρ vs) k ds [] S1
theorem lcItems_mono {g : MG} {c : MT} {e : ME} (mg : MonoG g) (mc : MonoT c) (me : MonoE e) {ρ : Rho} {k k' : List D → Sto → Prop} (h : ∀ ds S, k ds S → k' ds S) : ∀ ds acc S, lcItems g c e ρ k ds acc S → lcItems g c e ρ k' ds acc S
  | [], _, _, q => h _ _ q
  | d :: ds, acc, S, q => mg _ ρ S _ _ (fun ρ2 S2 => mc ρ2 S2 _ _ fun b S3 q3 => by
    cases b with
    | true =>
      refine me ρ2 S3 _ _ (fun w S4 q4 => ?_) q3
      cases w with
      | val y => exact ⟨q4.1, lcItems_mono mg mc me h ds _ _ q4.2⟩
      | ref n => exact q4
      | lws _ => exact q4
      | ins _ _ _ => exact q4
      | fn _ => exact q4
    | false => exact lcItems_mono mg mc me h ds _ _ q3) q
theorem wipeR_at (ρ : Rho) : ∀ (vs : List Nat) (j : Nat), (wipeR ρ vs)[j]? = if j ∈ vs then (if j < ρ.length then some none else none) else ρ[j]?
  | [], j => by simp [wipeR]
  | v :: vs, j => by
    unfold wipeR
    have hlen : ∀ vs : List Nat, (wipeR ρ vs).length = ρ.length := fun vs => by
      induction vs with
      | nil => rfl
      | cons a r ih => unfold wipeR; rw [List.length_set, ih]
    by_cases h : v = j
    · subst h
      rw [if_pos List.mem_cons_self]
      by_cases hl : v < ρ.length
      · rw [List.getElem?_set_self (by rw [hlen]; exact hl), if_pos hl]
      · rw [List.getElem?_eq_none (by rw [List.length_set, hlen]; omega), if_neg hl]
    · rw [List.getElem?_set_ne h, wipeR_at ρ vs j]
      by_cases hm : j ∈ vs
      · rw [if_pos hm, if_pos (List.mem_cons_of_mem _ hm)]
      · rw [if_neg hm, if_neg fun z => (List.mem_cons.mp z).elim (fun q => h q.symm) hm]
theorem wipeR_length (ρ : Rho) : ∀ vs : List Nat, (wipeR ρ vs).length = ρ.length
  | [] => rfl
  | v :: vs => by unfold wipeR; rw [List.length_set, wipeR_length ρ vs]
theorem Rel.wipe {H : Hp} {A : List (Option Addr)} {B : Addr → Prop} {ρ : Rho} {S : Sto} {σ : L2.St} (r : Rel K H A B ρ S σ) (vs : List Nat) : Rel K H A B (wipeR ρ vs) S (L2.wipe σ vs) := by
  refine ⟨r.cells, by rw [wipeR_length, wipe_length]; exact r.len, fun i w e => ?_⟩
  rw [wipeR_at] at e
  rw [wipe_at]
  by_cases h : i ∈ vs
  · rw [if_pos h] at e
    split at e <;> simp at e
  · rw [if_neg h] at e ⊢
    exact r.slot i w e
/-- one thing more is kept off that was not there -/
theorem Cells.more {H : Hp} {A : List (Option Addr)} {B : Addr → Prop} {S : Sto} (c : Cells K H A B S) {p : Addr} {o : HO} (hp : H p = none) : Cells K (L2.upd H p o) A (fun a => B a ∨ a = p) S := by
  have st : Stay H (av A B) (L2.upd H p o) (av A fun a => B a ∨ a = p) := fun a u e n => by
    have hne : a ≠ p := ne_of_none e hp
    refine ⟨by rw [upd_ne hne]; exact e, fun z => ?_⟩
    rcases z with (z | z) | z
    · exact n (.inl z)
    · exact hne z
    · exact n (.inr z)
  refine ⟨c.len, fun n x ob e1 e2 => ?_, c.inj, fun a m z => ?_, fun a z => ?_, by obtain ⟨o', e'⟩ := c.sys; exact ⟨o', by rw [upd_ne (ne_of_none e' hp)]; exact e'⟩, c.soff⟩
  · have q := c.at_ n x ob e1 e2
    cases x with
    | none => cases ob <;> exact q
    | some a =>
      cases ob with
      | dead => exact q
      | lst ds =>
        obtain ⟨vs, h1, h2⟩ := q
        exact ⟨vs, by rw [upd_ne (ne_of_none h1 hp)]; exact h1, h2.stay st⟩
      | dic ks ws =>
        obtain ⟨u, kv, vs, h1, h2, h3, h4⟩ := q
        exact ⟨u, kv, vs, by rw [upd_ne (ne_of_none h1 hp)]; exact h1, h2, h3.stay st, h4.stay st⟩
  · rcases z with z | z
    · exact c.off a m z
    · subst z
      exact c.new_off hp (.inr m)
  · by_cases e : a = p
    · subst e
      rw [upd_same]
      intro z; cases z
    · rw [upd_ne e]
      rcases z with z | z
      · exact c.dom a z
      · exact (e z).elim
/-- what is kept off may change -/
theorem Cells.offUpd {H : Hp} {A : List (Option Addr)} {B : Addr → Prop} {S : Sto} (c : Cells K H A B S) {p : Addr} {o : HO} (hp : B p) (hs : sysModules ≠ p) : Cells K (L2.upd H p o) A B S := by
  have st : Stay H (av A B) (L2.upd H p o) (av A B) := fun a u e n => by
    have hne : a ≠ p := fun z => n (.inl (by rw [z]; exact hp))
    exact ⟨by rw [upd_ne hne]; exact e, n⟩
  refine ⟨c.len, fun n x ob e1 e2 => ?_, c.inj, c.off, fun a z => ?_, by obtain ⟨o', e'⟩ := c.sys; exact ⟨o', by rw [upd_ne hs]; exact e'⟩, c.soff⟩
  · have q := c.at_ n x ob e1 e2
    cases x with
    | none => cases ob <;> exact q
    | some a =>
      have hne : a ≠ p := fun z => c.off a (List.mem_of_getElem? e1) (by rw [z]; exact hp)
      cases ob with
      | dead => exact q
      | lst ds =>
        obtain ⟨vs, h1, h2⟩ := q
        exact ⟨vs, by rw [upd_ne hne]; exact h1, h2.stay st⟩
      | dic ks ws =>
        obtain ⟨u, kv, vs, h1, h2, h3, h4⟩ := q
        exact ⟨u, kv, vs, by rw [upd_ne hne]; exact h1, h2, h3.stay st, h4.stay st⟩
  · by_cases e : a = p
    · rw [e, upd_same]
      intro z; cases z
    · rw [upd_ne e]
      exact c.dom a z
/-- and is forgotten -/
theorem Cells.forget {H : Hp} {A : List (Option Addr)} {B : Addr → Prop} {S : Sto} {p : Addr} (c : Cells K H A (fun a => B a ∨ a = p) S) (hB : ¬ B p) (hs : sysModules ≠ p) : Cells K (fun b => if b = p then none else H b) A B S ∧ Stay H (av A fun a => B a ∨ a = p) (fun b => if b = p then none else H b) (av A B) := by
  have st : Stay H (av A fun a => B a ∨ a = p) (fun b => if b = p then none else H b) (av A B) := fun a u e n => by
    have hne : a ≠ p := fun z => n (.inl (.inr z))
    refine ⟨by show (if a = p then none else H a) = some u; rw [if_neg hne]; exact e, fun z => n (z.imp .inl id)⟩
  refine ⟨⟨c.len, fun n x ob e1 e2 => ?_, c.inj, fun a m z => c.off a m (.inl z), fun a z => ?_, by obtain ⟨o', e'⟩ := c.sys; exact ⟨o', by show (if sysModules = p then none else H sysModules) = _; rw [if_neg hs]; exact e'⟩, c.soff⟩, st⟩
  · have q := c.at_ n x ob e1 e2
    cases x with
    | none => cases ob <;> exact q
    | some a =>
      have hne : a ≠ p := fun z => c.off a (List.mem_of_getElem? e1) (.inr z)
      cases ob with
      | dead => exact q
      | lst ds =>
        obtain ⟨vs, h1, h2⟩ := q
        exact ⟨vs, by show (if a = p then none else H a) = _; rw [if_neg hne]; exact h1, h2.stay st⟩
      | dic ks ws =>
        obtain ⟨u, kv, vs, h1, h2, h3, h4⟩ := q
        exact ⟨u, kv, vs, by show (if a = p then none else H a) = _; rw [if_neg hne]; exact h1, h2, h3.stay st, h4.stay st⟩
  · show (if a = p then none else H a) ≠ none
    rw [if_neg fun e => hB (by rw [← e]; exact z)]
    exact c.dom a (.inl z)
mutual
theorem RW.stayB {H H' : Hp} {A : List (Option Addr)} {B B' : Addr → Prop} (st : Stay H (av A B) H' (av A B')) : ∀ {w : W} {v : V}, RW K H A B w v → RW K H' A B' w v
  | .val d, v, r => by
    unfold RW at r ⊢
    exact RV.stay st r
  | .ref n, v, r => by
    unfold RW at r ⊢
    exact r
  | .lws ns, v, r => by
    unfold RW at r ⊢
    obtain ⟨a, vs, e, h, n, p⟩ := r
    exact ⟨a, vs, e, (st a _ h n).1, (st a _ h n).2, p⟩
  | .ins x ns fs, v, r => by
    unfold RW at r ⊢
    obtain ⟨a, C, dx, vs, e, h0, h, hd, n, nd, l, p⟩ := r
    exact ⟨a, C, dx, vs, e, h0, (st a _ h n).1, (st dx _ hd nd).1, (st a _ h n).2, (st dx _ hd nd).2, l, RWl.stayB st p⟩
  | .fn x, v, r => by
    unfold RW at r ⊢
    exact r
theorem RWl.stayB {H H' : Hp} {A : List (Option Addr)} {B B' : Addr → Prop} (st : Stay H (av A B) H' (av A B')) : ∀ {w : List W} {v : List V}, RWl K H A B w v → RWl K H' A B' w v
  | [], _, r => by
    unfold RWl at r ⊢
    exact r
  | w :: ws, _, r => by
    unfold RWl at r ⊢
    obtain ⟨v, q, e, h, t⟩ := r
    exact ⟨v, q, e, RW.stayB st h, RWl.stayB st t⟩
end
theorem Rel.cellsOf {H H' : Hp} {A : List (Option Addr)} {B B' : Addr → Prop} {ρ : Rho} {S S' : Sto} {σ : L2.St} (r : Rel K H A B ρ S σ) (c : Cells K H' A B' S') (st : Stay H (av A B) H' (av A B')) : Rel K H' A B' ρ S' σ := by
  refine ⟨c, r.len, fun i w e => ?_⟩
  obtain ⟨v, e1, q⟩ := r.slot i w e
  refine ⟨v, e1, ?_⟩
  exact RW.stayB st q
theorem lc_imp {it : MI} {g' : TG} {g : MG} {sl : List Nat} {c : MT} {e : ME} {own : List (Str × Nat)} (qg : ∀ A B H w v ρ S σ k Q, Rel K H A B ρ S σ → RW K H A B w v → g w ρ S k → AftG K A B H σ sl k Q → g' v σ H Q) (hsl : ∀ i ∈ sl, i ∈ own.map (·.2))
    {A : List (Option Addr)} {B : Addr → Prop} {ρ : Rho} {S : Sto} {σ : L2.St} {H : Hp} {k : List D → Sto → Prop} {Q : VK} (r : Rel K H A B ρ S σ) (h : nLC it g c e (own.map (·.2)) ρ S k) (af : AftN K A B H k Q) :
    tLc (upI K it) g' (upT K c) (up K e) (own.map (·.2)) σ H Q := by
  refine ⟨A, B, ρ, S, _, r, h, fun ds S1 h1 A1 H1 J G Y k1 c1 wd P hP => ?_⟩
  have nB : ¬ B P := fun z => c1.dom P z hP
  have nS : sysModules ≠ P := let ⟨_, e'⟩ := c1.sys; ne_of_none e' hP
  have r1 : Rel K H1 A1 B ρ S1 σ := r.keep k1 c1
  refine lc_it wd.walk (σ := σ) (fun i H' => ∃ A' S' acc av, Keep A1 H1 A' H' ∧ Rel K H' A' (fun a => B a ∨ a = P) (wipeR ρ (own.map (·.2))) S' (L2.wipe σ (own.map (·.2))) ∧ H' P = some (.lst av) ∧ RVs K H' (Fo.av A' fun a => B a ∨ a = P) acc av ∧
      lcItems g c e (wipeR ρ (own.map (·.2))) k (ds.drop i) acc S') ?_ (fun i H' _ ⟨A', _, _, _, k', _⟩ => wd.stay A' H' k') ?_ ?_
  · refine ⟨A1, S1, [], [], Keep.upd hP, ?_, upd_same, RVs.nil, h1⟩
    have st : Stay H1 (Fo.av A1 B) (L2.upd H1 P (.lst [])) (Fo.av A1 fun a => B a ∨ a = P) := fun a u e' n => by
      have hne : a ≠ P := ne_of_none e' hP
      refine ⟨by rw [upd_ne hne]; exact e', fun z => ?_⟩
      rcases z with (z | z) | z
      · exact n (.inl z)
      · exact hne z
      · exact n (.inr z)
    exact (r1.wipe _).cellsOf (c1.more hP) st
  · rintro i x H2 H3 hi2 ⟨A2, S2, acc, accv, k2, r2, hp2, ra, h2⟩ hy
    obtain ⟨d, hd, k3, c3, rv⟩ := wd.item i A2 (fun a => B a ∨ a = P) H2 S2 x H3 hi2 (fun _ z => .inl z) (fun a o e' n z => z.elim (fun b => n (.inl b)) fun e2 => by rw [e2, hP] at e'; cases e') k2 r2.cells hy
    have ed : ds.drop i = d :: ds.drop (i + 1) := by
      obtain ⟨g1, g2⟩ := List.getElem?_eq_some_iff.mp hd
      rw [List.drop_eq_getElem_cons g1, g2]
    rw [ed] at h2
    refine qg A2 _ H3 (.val d) x _ S2 _ _ _ (r2.keep k3 c3) rv h2 fun ρ4 S4 h4 A4 σ4 H4 k4 r4 w4 => ?_
    refine ⟨by
      have := w4 (own.map (·.2)) hsl
      rw [this]
      apply List.ext_getElem?
      intro j
      rw [wipe_at, wipe_at, wipe_length]
      by_cases hj : j ∈ own.map (·.2)
      · rw [if_pos hj, if_pos hj]
      · rw [if_neg hj, if_neg hj], ?_⟩
    refine ⟨A4, _, ρ4, S4, _, r4, h4, fun b S5 h5 A5 H5 k5 c5 => ?_⟩
    have kk : Keep A2 H2 A5 H5 := (k3.trans k4).trans k5
    have offP : ∀ {A' : List (Option Addr)} {H' : Hp} {S' : Sto}, Cells K H' A' (fun a => B a ∨ a = P) S' → some P ∉ A' := fun c' z => c'.off P z (.inr rfl)
    have hp5 : H5 P = some (.lst accv) := (kk.st P _ hp2 (offP r2.cells)).1
    cases b with
    | true =>
      refine ⟨A5, _, ρ4, S5, _, r4.keep k5 c5, h5, fun w S6 h6 A6 y H6 k6 c6 rw6 => ?_⟩
      cases w with
      | ref n => exact h6.elim
      | lws _ => exact h6.elim
      | ins _ _ _ => exact h6.elim
      | fn _ => exact h6.elim
      | val y' =>
        obtain ⟨hz, h7⟩ := h6
        have kk6 : Keep A2 H2 A6 H6 := kk.trans k6
        have hp6 : H6 P = some (.lst accv) := (kk6.st P _ hp2 (offP r2.cells)).1
        have ra6 : RVs K H6 (Fo.av A6 fun a => B a ∨ a = P) acc accv := ra.stay kk6.stay
        refine ⟨accv, hp6, by rw [ra6.length]; exact hz, A6, S6, acc ++ [y'], accv ++ [y], ?_, ?_, upd_same, ?_, h7⟩
        · have kk7 := k2.trans kk6
          refine ⟨fun a o e' n => ?_, kk7.len, kk7.ix⟩
          obtain ⟨z1, z2⟩ := kk7.st a o e' n
          exact ⟨by rw [upd_ne (ne_of_none e' hP)]; exact z1, z2⟩
        · have r6 : Rel K H6 A6 (fun a => B a ∨ a = P) (wipeR ρ (own.map (·.2))) S6 (L2.wipe σ (own.map (·.2))) := r2.keep kk6 c6
          refine r6.cellsOf (c6.offUpd (.inr rfl) nS) fun a u e' n => ?_
          have hne : a ≠ P := fun z => n (.inl (.inr z))
          exact ⟨by rw [upd_ne hne]; exact e', n⟩
        · refine RVs.stay (fun a u e' n => ?_) (ra6.append (RVs.cons rw6 RVs.nil))
          have hne : a ≠ P := fun z => n (.inl (.inr z))
          exact ⟨by rw [upd_ne hne]; exact e', n⟩
    | false =>
      refine ⟨A5, S5, acc, accv, k2.trans kk, r2.keep kk c5, hp5, ra.stay kk.stay, h5⟩
  · rintro H2 ⟨A2, S2, acc, accv, k2, r2, hp2, ra, h2⟩
    rw [List.drop_length] at h2
    obtain ⟨c3, st⟩ := r2.cells.forget nB nS
    have e3 : L2.upd (fun b => if b = P then none else H2 b) P (.lst accv) = H2 := by
      funext b
      by_cases hb : b = P
      · rw [hb, upd_same, hp2]
      · rw [upd_ne hb]
        show (if b = P then none else H2 b) = H2 b
        rw [if_neg hb]
    have := af _ _ h2 A2 (fun b => if b = P then none else H2 b) P accv ⟨fun a o e' n => ?_, (k1.trans k2).len, (k1.trans k2).ix⟩ c3 (ra.stay st) (by show (if P = P then none else H2 P) = none; rw [if_pos rfl])
    · rw [e3] at this
      exact this
    · have e1 := k1.st a o e' n
      have hne : a ≠ P := ne_of_none e1.1 hP
      obtain ⟨z1, z2⟩ := k2.st a o e1.1 e1.2
      exact ⟨by show (if a = P then none else H2 a) = _; rw [if_neg hne]; exact z1, z2⟩
theorem pnm_lc {X : Cx} {elt tg iter : Expr} {ifs : List Expr} {scope : Scope} {own : List (Str × Nat)} {pos : Pos} {it : MI} {g' : TG} {g : MG} {sl : List Nat} {c : MT} {e : ME} (hc : X.calm = true) (hN : X.N.Nodup) (hi : PIm X tg iter it) (ok : BlkOk X.N X.env.scope scope own)
    (hg : ∀ (s : Shared) (H : Hp) (C : Addr) (cl : List (Str × Addr)) (fp : List Addr), PGm (X.blk s H scope (compEnvC scope cl C X.env) fp) tg g' g sl)
    (hsl : ∀ i ∈ sl, i ∈ own.map (·.2))
    (ht : ∀ (s : Shared) (H : Hp) (C : Addr) (cl : List (Str × Addr)) (fp : List Addr), PTsm (X.blk s H scope (compEnvC scope cl C X.env) fp) ifs c)
    (he : ∀ (s : Shared) (H : Hp) (C : Addr) (cl : List (Str × Addr)) (fp : List Addr), PEm (X.blk s H scope (compEnvC scope cl C X.env) fp) elt e) (hs : ∀ x, foldedSetIterable iter X.env x = pure x := by intro _; rfl) :
    PNm X (.ListComp elt [⟨tg, iter, ifs, 0⟩] scope pos) (nLC it g c e (own.map (·.2))) := by
  have sh : Shared := X.s_0
  have qg : ∀ A B H w v ρ S σ k Q, Rel X.kw H A B ρ S σ → RW X.kw H A B w v → g w ρ S k → AftG X.kw A B H σ sl k Q → g' v σ H Q := (hg sh (fun _ => none) 0 [] []).ok
  have mg : MonoG g := (hg sh (fun _ => none) 0 [] []).mono
  have mc : MonoT c := (ht sh (fun _ => none) 0 [] []).mono
  have me : MonoE e := (he sh (fun _ => none) 0 [] []).mono
  refine ⟨(pe_lc (te := up X.kw e) (tt := upT X.kw c) (g := g') hc hN hi.pi ok (fun s H C cl fp => (hg s H C cl fp).pg) (fun s H C cl fp => (ht s H C cl fp).pts) (fun s H C cl fp => (he s H C cl fp).pe) hs).imp ?_,
    fun ρ S Q Q' h q => hi.mono ρ S _ _ (fun ds S1 q1 => lcItems_mono mg mc me h ds [] S1 q1) q⟩
  rintro σ H Q ⟨A, B, ρ, S, k, r, h, af⟩
  exact lc_imp qg hsl r h af
end Fo
/-! Core7: iterators. -/
namespace Fo
open PySem PySem.Spec PyProof.Rows L2
variable {K : Kw}
/-- what a loop walks -/
def itV (w : W) (k : List D → Prop) : Prop := match w with
  | .val (.lst l) => k l
  | .val (.tup l) => k l
  | .val (.str l) => k (l.map fun c => .str [c])
  | _ => False
theorem itV_mono {w : W} {k k' : List D → Prop} (h : ∀ l, k l → k' l) (q : itV w k) : itV w k' := by
  unfold itV at q ⊢
  split at q <;> first | exact h _ q | exact q.elim
def iVal (e : ME) : MI := fun ρ S k => e ρ S fun w S1 => itV w fun ds => k ds S1
/-- a list, a tuple, a text is walked -/
def tiAny (K : Kw) (te : TE) : TI := fun σ H R => te σ H fun x H1 => (∃ a xs, x = .ref a ∧ SqL K H1 a xs ∧ R (Itl K a) H1) ∨ (∃ a xs, x = .ref a ∧ SqT K H1 a xs ∧ R (Itt K a) H1) ∨ ∃ z, x = .str z ∧ R (Its z) H1
theorem pi_any {X : Cx} {tg e : Expr} {te : TE} (he : PE X e te) : PI X tg e (tiAny X.kw te) := by
  refine ⟨fun pins s σ H R I h => thn (he.run pins s σ H _ I h) fun v s1 h1 => ?_⟩
  obtain ⟨y, H1, I1, ry, h1⟩ := h1
  have ne : ∀ b, b ∈ [s1.heap.objs.size] → FpOk X pins H1 b := fun b hb => by
    obtain rfl : b = s1.heap.objs.size := by simpa using hb
    exact I1.fpOk (Nat.le_refl _) (I1.hok.fresh (Nat.le_refl _))
  rcases h1 with ⟨a, xs, ey, hq, q⟩ | ⟨a, xs, ey, hq, q⟩ | ⟨z, ey, q⟩ <;> subst ey
  · cases ry
    obtain ⟨us, _, pl, _⟩ := I1.list hq
    exact wpAny_pyIter_list pl.isList ⟨_, [s1.heap.objs.size], _, Itl X.kw a, H1, rfl, I1.kept (t' := s1.toks) fun _ _ g => Heap.get?_push_of_some _ g, turn_list a _, ⟨_, Heap.get?_push_size _ rfl, rfl, rfl⟩, ne, q⟩
  · cases ry
    obtain ⟨us, _, pt, _⟩ := I1.tuple hq
    exact wpAny_pyIter_tuple (show s1.heap.IsTuple a us.toArray from pt) ⟨_, [s1.heap.objs.size], _, Itt X.kw a, H1, rfl, I1.kept (t' := s1.toks) fun _ _ g => Heap.get?_push_of_some _ g, turn_tuple a _, ⟨_, Heap.get?_push_size _ rfl, rfl, rfl⟩, ne, q⟩
  · obtain ⟨tk, rfl⟩ := ry
    by_cases asc : z.cps.all (· < 128) = true
    · exact wpAny_pyIter_ascii asc (pi_one (tk := s1.toks) I1 _ (turn_str _ z tk "str_ascii_iterator" (.inl rfl)) ⟨_, Heap.get?_push_size _ rfl, rfl, rfl⟩ q)
    · exact wpAny_pyIter_wide (by simpa using asc) (pi_one (tk := s1.toks) I1 _ (turn_str _ z tk "str_iterator" (.inr rfl)) ⟨_, Heap.get?_push_size _ rfl, rfl, rfl⟩ q)
section
variable {A : List (Option Addr)} {B : Addr → Prop} {H : Hp}
theorem walkD_list {a : Addr} {ds : List D} {vs : List V} (h : H a = some (.lst vs)) (n : ¬ av A B a) (r : RVs K H (av A B) ds vs) : WalkD K A B H (Itl K a) ds (fun H => SqL K H a vs) (YAt vs) := by
  refine ⟨by rw [← r.length]; exact walk_list, fun A' H' k => .inl (.inl (k.st a _ h fun z => n (.inr z)).1), fun i A' B' H' S' x H2 hi bb hb k c y => ?_⟩
  obtain ⟨rfl, e⟩ := y
  obtain ⟨d, e1, q⟩ := r.get' e
  refine ⟨d, e1, Keep.refl, c, RV.stay (fun b o e n => ?_) q⟩
  obtain ⟨z1, z2⟩ := k.st b o e fun z => n (.inr z)
  exact ⟨z1, fun z => z.elim (hb b o e n) z2⟩
theorem walkD_tup {a : Addr} {ds : List D} {vs : List V} (h : H a = some (.tup vs)) (n : ¬ av A B a) (r : RVs K H (av A B) ds vs) : WalkD K A B H (Itt K a) ds (fun H => SqT K H a vs) (YAt vs) := by
  refine ⟨by rw [← r.length]; exact walk_tup, fun A' H' k => .inl (.inl (k.st a _ h fun z => n (.inr z)).1), fun i A' B' H' S' x H2 hi bb hb k c y => ?_⟩
  obtain ⟨rfl, e⟩ := y
  obtain ⟨d, e1, q⟩ := r.get' e
  refine ⟨d, e1, Keep.refl, c, RV.stay (fun b o e n => ?_) q⟩
  obtain ⟨z1, z2⟩ := k.st b o e fun z => n (.inr z)
  exact ⟨z1, fun z => z.elim (hb b o e n) z2⟩
theorem walkD_str {l : List Nat} : WalkD K A B H (Its (tx l)) (l.map fun c => .str [c]) (fun _ => True) (fun i H v H' => H' = H ∧ ∃ c, (tx l).cps[i]? = some c ∧ v = .str ⟨#[c]⟩) := by
  refine ⟨?_, fun _ _ _ => trivial, fun i A' B' H' S' x H2 hi bb hb k c y => ?_⟩
  · have e : (l.map fun c => D.str [c]).length = (tx l).cps.size := by simp [tx]
    rw [e]
    exact walk_str
  · obtain ⟨rfl, ch, e, rfl⟩ := y
    refine ⟨.str [ch], ?_, Keep.refl, c, by unfold RV; rfl⟩
    have e' : l[i]? = some ch := by simpa [tx] using e
    rw [List.getElem?_map, e']
    rfl
end
theorem pim_val {X : Cx} {tg e : Expr} {t : ME} (h : PEm X e t) : PIm X tg e (iVal t) := by
  refine ⟨(pi_any h.pe).imp ?_, fun ρ S Q Q' hq q => h.mono ρ S _ _ (fun w S1 => itV_mono fun ds => hq _ _) q⟩
  rintro σ H R ⟨A, B, ρ, S, k, r, h, af⟩
  refine up_then r h fun w S1 A1 v H1 h1 k1 r1 rw1 => ?_
  unfold itV at h1
  split at h1
  · have q : RV X.kw H1 (av A1 B) (.lst _) v := rw1
    unfold RV at q
    obtain ⟨a, vs, rfl, e, n, t⟩ := q
    exact .inl ⟨a, vs, rfl, .inl (.inl e), af _ _ h1 A1 H1 _ _ _ k1 r1.cells (walkD_list e n t)⟩
  · have q : RV X.kw H1 (av A1 B) (.tup _) v := rw1
    unfold RV at q
    obtain ⟨a, vs, rfl, e, n, t⟩ := q
    exact .inr (.inl ⟨a, vs, rfl, .inl (.inl e), af _ _ h1 A1 H1 _ _ _ k1 r1.cells (walkD_tup e n t)⟩)
  · have q : RV X.kw H1 (av A1 B) (.str _) v := rw1
    unfold RV at q
    exact .inr (.inr ⟨_, q, af _ _ h1 A1 H1 _ _ _ k1 r1.cells walkD_str⟩)
  · exact h1.elim
/-! ### range -/
theorem walkD_range {A : List (Option Addr)} {B : Addr → Prop} {H : Hp} {lo : Int} {n : Nat} : WalkD K A B H (Itr lo n) ((List.range n).map fun i => .int (lo + (i : Nat))) (fun _ => True) (YFn fun i => .int (lo + i)) := by
  refine ⟨by rw [List.length_map, List.length_range]; exact walk_range, fun _ _ _ => trivial, fun i A' B' H' S' x H2 hi bb hb k c y => ?_⟩
  obtain ⟨rfl, rfl⟩ := y
  rw [List.length_map, List.length_range] at hi
  exact ⟨.int (lo + (i : Nat)), by rw [List.getElem?_map, List.getElem?_range hi]; rfl, Keep.refl, c, by unfold RV; rfl⟩
def rangeL (lo : Int) (n : Nat) : List D := (List.range n).map fun i => .int (lo + (i : Nat))
def asI2 (ws : List W) (k : Int → Int → Prop) : Prop := match ws with
  | [.val (.int i), .val (.int j)] => k i j
  | _ => False
def asI1 (ws : List W) (k : Int → Prop) : Prop := match ws with
  | [.val (.int i)] => k i
  | _ => False
theorem asI1_mono {ws : List W} {k k' : Int → Prop} (h : ∀ i, k i → k' i) (q : asI1 ws k) : asI1 ws k' := by
  unfold asI1 at q ⊢
  split at q <;> first | exact h _ q | exact q.elim
theorem RW.asInt {H : Hp} {A : List (Option Addr)} {B : Addr → Prop} {i : Int} {v : V} (r : RW K H A B (.val (.int i)) v) : v = .int i := by
  have r' : RV K H (av A B) (.int i) v := r
  unfold RV at r'
  exact r'
theorem asI1_ok {H : Hp} {A : List (Option Addr)} {B : Addr → Prop} {ws : List W} {vs : List V} {k : Int → Prop} (r : RWs K H A B ws vs) (h : asI1 ws k) : ∃ i, vs = [.int i] ∧ k i := by
  unfold asI1 at h
  split at h
  · rename_i i
    cases r with
    | cons r1 r2 =>
      cases r2
      exact ⟨i, by rw [r1.asInt], h⟩
  · exact h.elim
def iRange1 (t : MA) : MI := fun ρ S k => t ρ S fun ws S1 => asI1 ws fun j => (-(2 ^ 62) ≤ j ∧ j < 2 ^ 62) ∧ k (rangeL 0 j.toNat) S1
def iRange2 (t : MA) : MI := fun ρ S k => t ρ S fun ws S1 => asI2 ws fun i j => (-(2 ^ 62) ≤ i ∧ i < 2 ^ 62 ∧ -(2 ^ 62) ≤ j ∧ j < 2 ^ 62) ∧ k (rangeL i (j - i).toNat) S1
theorem pim_range1 {X : Cx} {tg e e1 : Expr} {t : MA} (h : PAm X [e1] t) (hp : ∀ ta, PA X [e1] ta → PI X tg e (iRng1 ta)) : PIm X tg e (iRange1 t) := by
  refine ⟨(hp _ h.pa).imp ?_, fun ρ S Q Q' hq q => h.mono ρ S _ _ (fun ws S1 => asI1_mono fun i q => ⟨q.1, hq _ _ q.2⟩) q⟩
  rintro σ H R ⟨A, B, ρ, S, k, r, h, af⟩
  refine upA_then r h fun ws S1 A1 vs H1 h1 k1 r1 rws => ?_
  obtain ⟨j, e, ⟨q1, q2⟩, q⟩ := asI1_ok rws h1
  exact ⟨j, e, q1, q2, af _ _ q A1 H1 _ _ _ k1 r1.cells walkD_range⟩
/-! ### pairs -/
def enumL : Nat → List D → List D
  | _, [] => []
  | i, d :: ds => .tup [.int (i : Nat), d] :: enumL (i + 1) ds
theorem enumL_length : ∀ (i : Nat) (ds : List D), (enumL i ds).length = ds.length
  | _, [] => rfl
  | i, d :: ds => by unfold enumL; rw [List.length_cons, List.length_cons, enumL_length]
theorem enumL_at : ∀ (i j : Nat) (ds : List D), (enumL i ds)[j]? = ds[j]?.map fun d => .tup [.int ((i + j : Nat)), d]
  | _, _, [] => by simp [enumL]
  | i, 0, d :: ds => by simp [enumL]
  | i, j + 1, d :: ds => by
    unfold enumL
    rw [List.getElem?_cons_succ, List.getElem?_cons_succ, enumL_at (i + 1) j ds, show i + 1 + j = i + (j + 1) by omega]
def zipL : List D → List D → List D
  | d :: ds, e :: es => .tup [d, e] :: zipL ds es
  | _, _ => []
theorem zipL_length : ∀ (ds es : List D), (zipL ds es).length = min ds.length es.length
  | [], _ => by simp [zipL]
  | _ :: _, [] => by simp [zipL]
  | d :: ds, e :: es => by
    unfold zipL
    rw [List.length_cons, List.length_cons, List.length_cons, zipL_length]
    omega
theorem zipL_at : ∀ (ds es : List D) (i : Nat) (d e : D), ds[i]? = some d → es[i]? = some e → (zipL ds es)[i]? = some (.tup [d, e])
  | [], _, _, _, _, h, _ => by simp at h
  | _ :: _, [], _, _, _, _, h => by simp at h
  | d :: ds, e :: es, 0, _, _, h, h' => by
    simp at h h'
    subst h h'
    rfl
  | d :: ds, e :: es, i + 1, _, _, h, h' => by
    unfold zipL
    rw [List.getElem?_cons_succ]
    exact zipL_at ds es i _ _ (by simpa using h) (by simpa using h')
def asL1 (ws : List W) (k : List D → Prop) : Prop := match ws with
  | [.val (.lst l)] => k l
  | _ => False
/-- enumerate(a list) -/
def iEnumL (t : MA) : MI := fun ρ S k => t ρ S fun ws S1 => asL1 ws fun l => k (enumL 0 l) S1
theorem RW.asLst {H : Hp} {A : List (Option Addr)} {B : Addr → Prop} {l : List D} {v : V} (r : RW K H A B (.val (.lst l)) v) : ∃ a vs, v = .ref a ∧ H a = some (.lst vs) ∧ ¬ av A B a ∧ RVs K H (av A B) l vs := by
  have r' : RV K H (av A B) (.lst l) v := r
  unfold RV at r'
  exact r'
theorem RW.asTup {H : Hp} {A : List (Option Addr)} {B : Addr → Prop} {l : List D} {v : V} (r : RW K H A B (.val (.tup l)) v) : ∃ a vs, v = .ref a ∧ H a = some (.tup vs) ∧ ¬ av A B a ∧ RVs K H (av A B) l vs := by
  have r' : RV K H (av A B) (.tup l) v := r
  unfold RV at r'
  exact r'
/-- zip(a list, a list), zip(a tuple, a tuple) -/
def asZ (ws : List W) (k : List D → List D → Prop) : Prop := match ws with
  | [.val (.lst l), .val (.lst m)] => k l m
  | [.val (.tup l), .val (.tup m)] => k l m
  | _ => False
def iZip (t : MA) : MI := fun ρ S k => t ρ S fun ws S1 => asZ ws fun l m => k (zipL l m) S1
end Fo
/-! Core8: built-in functions, methods, stores. -/
namespace Fo
open PySem PySem.Spec PyProof.Rows L2
variable {K : Kw}
/-! ### calls of what is built in -/
abbrev CalD := List D → Sto → KW → Prop
def MonoC (f : CalD) : Prop := ∀ ds S (Q Q' : KW), (∀ w S', Q w S' → Q' w S') → f ds S Q → f ds S Q'
def CalM (K : Kw) (r : List V → Hp → VK → Prop) (f : CalD) : Prop := ∀ (A : List (Option Addr)) (B : Addr → Prop) (H : Hp) (S : Sto) (ds : List D) (vs : List V) (k : KW) (Q : VK),
  Cells K H A B S → RDs K H (av A B) ds vs → f ds S k → Aft K A B H k Q → r vs H Q
def mCallB (f : CalD) (args : MA) : ME := fun ρ S k => args ρ S fun ws S1 => rds S1 ws fun ds => f ds S1 k
theorem pem_callB {X : Cx} {e : Expr} {es : List Expr} {r : List V → Hp → VK → Prop} {f : CalD} {args : MA} (cm : CalM X.kw r f) (mf : MonoC f) (ha : PAm X es args) (hp : ∀ t, PA X es t → PE X e (tCB r t)) : PEm X e (mCallB f args) := by
  refine ⟨(hp _ ha.pa).imp ?_, fun ρ S Q Q' h q => ha.mono ρ S _ _ (fun ws S1 => rds_mono fun ds => mf _ _ _ _ h) q⟩
  rintro σ H Q ⟨A, B, ρ, S, k, r0, h, af⟩
  refine upA_then r0 h fun ws S1 A1 vs H1 h1 k1 r1 rws => ?_
  obtain ⟨ds, rd1, h2⟩ := rds_ok r1.cells rws h1
  exact cm A1 B H1 S1 ds vs k Q r1.cells rd1 h2 (af.keep k1)
theorem RDs.one {H : Hp} {av : Addr → Prop} {d : D} {vs : List V} (r : RDs K H av [d] vs) : ∃ v, vs = [v] ∧ RD K H av d v := by
  cases r with
  | cons r1 r2 =>
    cases r2
    exact ⟨_, rfl, r1⟩
theorem RDs.two {H : Hp} {av : Addr → Prop} {d e : D} {vs : List V} (r : RDs K H av [d, e] vs) : ∃ v u, vs = [v, u] ∧ RD K H av d v ∧ RD K H av e u := by
  cases r with
  | cons r1 r2 =>
    obtain ⟨u, rfl, r3⟩ := RDs.one r2
    exact ⟨_, u, rfl, r1, r3⟩
/-- len -/
def lenC : CalD := fun ds S k => match ds with
  | [.str l] => l.length ≤ sizeLine ∧ k (.val (.int l.length)) S
  | [.tup l] => k (.val (.int l.length)) S
  | [.lst l] => k (.val (.int l.length)) S
  | [.scr l] => k (.val (.int l.length)) S
  | _ => False
theorem lenC_mono : MonoC lenC := by
  intro ds S Q Q' h q
  unfold lenC at q ⊢
  split at q <;> first | exact h _ _ q | exact ⟨q.1, h _ _ q.2⟩ | exact q.elim
theorem lenM : CalM K (fun xs H Q => ∃ x n, xs = [x] ∧ LenV K x H n ∧ Q (.int n) H) lenC := by
  intro A B H S ds vs k Q c r h af
  unfold lenC at h
  split at h
  · obtain ⟨v, rfl, r1⟩ := r.one
    rw [r1.str]
    exact ⟨_, _, rfl, ⟨by rw [tx_length]; exact h.1, rfl⟩, by rw [tx_length]; exact af.int c h.2⟩
  · obtain ⟨v, rfl, r1⟩ := r.one
    obtain ⟨a, us, rfl, e, n, t⟩ := r1.tup
    exact ⟨_, _, rfl, .inr ⟨us, .inl (.inl e), rfl⟩, by rw [t.length]; exact af.int c h⟩
  · obtain ⟨v, rfl, r1⟩ := r.one
    obtain ⟨a, us, rfl, e, t⟩ := r1.lst
    exact ⟨_, _, rfl, .inl ⟨us, .inl (.inl e), rfl⟩, by rw [t.length]; exact af.int c h⟩
  · obtain ⟨v, rfl, r1⟩ := r.one
    obtain ⟨a, rfl, q⟩ := r1.scr
    exact ⟨_, _, rfl, .inl ⟨_, q, rfl⟩, by rw [List.length_map]; exact af.int c h⟩
  · exact h.elim
/-- min(m, n) -/
def min2C : CalD := fun ds S k => match ds with
  | [.int i, .int j] => k (.val (.int (if j < i then j else i))) S
  | _ => False
theorem min2C_mono : MonoC min2C := by
  intro ds S Q Q' h q
  unfold min2C at q ⊢
  split at q <;> first | exact h _ _ q | exact q.elim
theorem min2M : CalM K (fun xs H Q => ∃ i j, xs = [.int i, .int j] ∧ Q (.int (if j < i then j else i)) H) min2C := by
  intro A B H S ds vs k Q c r h af
  unfold min2C at h
  split at h
  · obtain ⟨v, u, rfl, r1, r2⟩ := r.two
    rw [r1.int, r2.int]
    exact ⟨_, _, rfl, af.int c h⟩
  · exact h.elim
/-- all, any of truths -/
def boolsOf : List D → Option (List Bool)
  | [] => some []
  | .bl b :: r => (boolsOf r).map (b :: ·)
  | _ => none
theorem boolsOf_ok {H : Hp} {av : Addr → Prop} : ∀ {ds : List D} {vs : List V} {bs : List Bool}, RVs K H av ds vs → boolsOf ds = some bs → vs = bs.map V.bl
  | [], vs, bs, r, h => by
    unfold RVs at r
    unfold boolsOf at h
    cases h
    exact r
  | .bl b :: ds, vs, bs, r, h => by
    unfold RVs at r
    obtain ⟨v, us, rfl, r1, r2⟩ := r
    unfold boolsOf at h
    cases q : boolsOf ds with
    | none => rw [q] at h; cases h
    | some cs =>
      rw [q] at h
      cases h
      unfold RV at r1
      rw [r1, boolsOf_ok r2 q]
      rfl
  | .non :: _, _, _, _, h => by unfold boolsOf at h; cases h
  | .int _ :: _, _, _, _, h => by unfold boolsOf at h; cases h
  | .str _ :: _, _, _, _, h => by unfold boolsOf at h; cases h
  | .tup _ :: _, _, _, _, h => by unfold boolsOf at h; cases h
  | .lst _ :: _, _, _, _, h => by unfold boolsOf at h; cases h
  | .dct _ _ :: _, _, _, _, h => by unfold boolsOf at h; cases h
  | .scr _ :: _, _, _, _, h => by unfold boolsOf at h; cases h
def foldC (g : List Bool → Bool) : CalD := fun ds S k => match ds with
  | [.lst l] => match boolsOf l with
    | some bs => k (.val (.bl (g bs))) S
    | none => False
  | _ => False
theorem foldC_mono {g : List Bool → Bool} : MonoC (foldC g) := by
  intro ds S Q Q' h q
  unfold foldC at q ⊢
  split at q
  · split at q
    · exact h _ _ q
    · exact q.elim
  · exact q.elim
theorem foldM {g : List Bool → Bool} : CalM K (fun vs H Q => ∃ (a : Addr) (bs : List Bool), vs = [V.ref a] ∧ SqL K H a (bs.map V.bl) ∧ Q (.bl (g bs)) H) (foldC g) := by
  intro A B H S ds vs k Q c r h af
  unfold foldC at h
  split at h
  · split at h
    · rename_i l bs e
      obtain ⟨v, rfl, r1⟩ := r.one
      obtain ⟨a, us, rfl, e1, t⟩ := r1.lst
      rw [boolsOf_ok t e] at e1
      exact ⟨a, bs, rfl, .inl (.inl e1), af.bl c h⟩
    · exact h.elim
  · exact h.elim
def allC : CalD := foldC fun bs => bs.all id
/-- texts in a list -/
def strsOf : List D → Option (List (List Nat))
  | [] => some []
  | .str b :: r => (strsOf r).map (b :: ·)
  | _ => none
theorem strsOf_ok {H : Hp} {av : Addr → Prop} : ∀ {ds : List D} {vs : List V} {bs : List (List Nat)}, RVs K H av ds vs → strsOf ds = some bs → vs = (bs.map tx).map V.str
  | [], vs, bs, r, h => by
    unfold RVs at r
    unfold strsOf at h
    cases h
    exact r
  | .str b :: ds, vs, bs, r, h => by
    unfold RVs at r
    obtain ⟨v, us, rfl, r1, r2⟩ := r
    unfold strsOf at h
    cases q : strsOf ds with
    | none => rw [q] at h; cases h
    | some cs =>
      rw [q] at h
      cases h
      unfold RV at r1
      rw [r1, strsOf_ok r2 q]
      rfl
  | .non :: _, _, _, _, h => by unfold strsOf at h; cases h
  | .bl _ :: _, _, _, _, h => by unfold strsOf at h; cases h
  | .int _ :: _, _, _, _, h => by unfold strsOf at h; cases h
  | .tup _ :: _, _, _, _, h => by unfold strsOf at h; cases h
  | .lst _ :: _, _, _, _, h => by unfold strsOf at h; cases h
  | .dct _ _ :: _, _, _, _, h => by unfold strsOf at h; cases h
  | .scr _ :: _, _, _, _, h => by unfold strsOf at h; cases h
/-- tuple(x) -/
def tupleC : CalD := fun ds S k => match ds with
  | [.lst l] => k (.val (.tup l)) S
  | [.tup l] => k (.val (.tup l)) S
  | _ => False
theorem tupleC_mono : MonoC tupleC := by
  intro ds S Q Q' h q
  unfold tupleC at q ⊢
  split at q <;> first | exact h _ _ q | exact q.elim
theorem tupleM : CalM K (fun xs H Q => ∃ p ys, xs = [.ref p] ∧ ((SqL K H p ys ∧ ∀ l, H l = none → Q (.ref l) (upd H l (.tup ys))) ∨ (SqT K H p ys ∧ Q (.ref p) H))) tupleC := by
  intro A B H S ds vs k Q c r h af
  unfold tupleC at h
  split at h
  · obtain ⟨v, rfl, r1⟩ := r.one
    obtain ⟨a, us, rfl, e, t⟩ := r1.lst
    exact ⟨a, us, rfl, .inl ⟨.inl (.inl e), fun p hp => af.newTup c h t hp⟩⟩
  · obtain ⟨v, rfl, r1⟩ := r.one
    have r2 := r1
    obtain ⟨a, us, rfl, e, n, t⟩ := r1.tup
    exact ⟨a, us, rfl, .inr ⟨.inl (.inl e), af.now c h r2⟩⟩
  · exact h.elim
theorem tx_tl (x : Str) : tx x.cps.toList = x := by
  show Str.mk _ = x
  cases x
  rfl
/-! ### isinstance -/
def tyName : D → String
  | .non => "NoneType"
  | .bl _ => "bool"
  | .int _ => "int"
  | .str _ => "str"
  | .tup _ => "tuple"
  | .lst _ => "list"
  | .dct _ _ => "dict"
  | .scr _ => "list"
def isT (d : D) (t : String) : Bool := tyName d == t || (t == "int" && tyName d == "bool")
/-- a thing's type -/
def TyM (K : Kw) (H : Hp) (x : V) (t : Value) : Prop := TyX K H x t ∨ ∃ a ys, x = V.ref a ∧ Rd H a (DicO K.w a ys) ∧ t = .type "dict"
theorem dicO_at {P : Program} {w : World} {H : Hp} {h : Heap} {a : Addr} {ys : List (NestedKey × Addr × V)} (ok : HOk P w H h) (e : Rd H a (DicO w a ys)) : DicP w a ys h := by
  rcases e with e | ⟨o, e⟩
  · exact (ok a _ e).1
  · exact (ok a _ e).2.1
theorem kit_ofM {X : Cx} {pins : List (Addr × Obj)} {σ : L2.St} {H : Hp} {s : Shared} {x : V} {u t : Value} (I : Inv X pins σ H s) (rx : RelV x u) (ty : TyM X.kw H x t) : ∃ P : Heap → Prop, PySem.W.KitX X.K u t P ∧ P s.heap ∧ u ≠ .builtin "__main__.__loader__#opaque" := by
  rcases ty with ty | ⟨a, ys, rfl, e, rfl⟩
  · exact kit_of I rx ty
  · cases (show u = Value.ref a from rx)
    obtain ⟨_, _, xs, _, _, o, es, ep, h1, h2, _⟩ := dicO_at I.hok e
    exact ⟨_, PySem.W.kitx_dict, ⟨o, h1, h2.1⟩, fun z => nomatch z⟩
def rIsiM (K : Kw) : List V → Hp → VK → Prop := fun xs H Q => ∃ (x c : V) (t u : Value) (b : Bool), xs = [x, c] ∧ ClsV c u ∧ TyM K H x t ∧ PySem.W.kitOne K t u = some b ∧ Q (.bl b) H
def rIsiTM (K : Kw) : List V → Hp → VK → Prop := fun xs H Q => ∃ (x : V) (tp : Addr) (cs : List V) (t : Value) (us : List Value) (b : Bool), xs = [x, .ref tp] ∧ H tp = some (.tup cs) ∧ Paired ClsV cs us ∧ TyM K H x t ∧ PySem.W.kitAny K t us = some b ∧ Q (.bl b) H
theorem call_isiM {X : Cx} : CallR X (.builtin "isinstance") (rIsiM X.kw) := by
  intro pins s σ H xs us Q I r h
  obtain ⟨x, c, t, u, b, rfl, k, ty, e, q⟩ := h
  obtain ⟨u1, u2, rfl, r1, r2⟩ := vals2 r
  have e2 := k.eq r2
  subst e2
  obtain ⟨P, Z, p, hx⟩ := kit_ofM I r1 ty
  exact PySem.W.kia_one Z I.kIn p e hx fun tk => ⟨.bl b, H, I.tok tk, rfl, q⟩
theorem call_isiTM {X : Cx} : CallR X (.builtin "isinstance") (rIsiTM X.kw) := by
  intro pins s σ H xs us Q I r h
  obtain ⟨x, tp, cs, t, ws, b, rfl, hT, k, ty, e, q⟩ := h
  obtain ⟨u1, u2, rfl, r1, r2⟩ := vals2 r
  cases (show u2 = Value.ref tp from r2)
  obtain ⟨P, Z, p, hx⟩ := kit_ofM I r1 ty
  obtain ⟨_, its, rv, ⟨oc, od, dt, sl⟩, h1, h2, n, h3⟩ := (show ObjOk X.prog X.w H s.heap tp (.tup cs) from I.hok tp _ hT)
  have e3 := ClsV.all k rv
  subst e3
  simp only at h2 h3
  subst h2 h3
  exact PySem.W.kia_tup Z I.kIn p h1 e hx fun tk => ⟨.bl b, H, I.tok tk, rfl, q⟩
theorem RD.ty {H : Hp} {av : Addr → Prop} {d : D} {v : V} (r : RD K H av d v) : TyM K H v (.type (tyName d)) := by
  cases d with
  | non => rw [r.non]; exact .inl (.base .non)
  | bl b => rw [r.bl]; exact .inl (.base (.bl b))
  | int b => rw [r.int]; exact .inl (.base (.int b))
  | str b => rw [r.str]; exact .inl (.base (.str _))
  | tup b => obtain ⟨a, vs, rfl, e, _⟩ := r.tup; exact .inl (.base (.tup e))
  | lst b => obtain ⟨a, vs, rfl, e, _⟩ := r.lst; exact .inl (.base (.lst e))
  | dct b c =>
    obtain ⟨a, u, kv, vs, rfl, e, hb, _⟩ := r.dct
    rcases hb with ⟨kvs, rfl, _⟩ | ⟨ys, _, rfl, _⟩
    · rcases e with e | ⟨o, e⟩
      · exact .inl (.base (.dK e))
      · exact .inl (.fDict e)
    · exact .inr ⟨a, ys, rfl, e, rfl⟩
  | scr l =>
    obtain ⟨a, rfl, q⟩ := r.scr
    rcases q with (q | ⟨o, q⟩) | ⟨o, its, n, e1, e2, _⟩
    · exact .inl (.base (.lst q))
    · exact .inl (.base (.frz q))
    · exact .inl (.kList e1 e2)
/-- the classes asked of -/
def tyAsked (t : String) : Bool := ["int", "str", "bool", "tuple", "list", "dict"].contains t
theorem kit_tab : ∀ a ∈ ["NoneType", "bool", "int", "str", "tuple", "list", "dict"], ∀ b ∈ ["int", "str", "bool", "tuple", "list", "dict"], kitB a b = some (a == b || (b == "int" && a == "bool")) := by decide +kernel
theorem tyName_in (d : D) : tyName d ∈ ["NoneType", "bool", "int", "str", "tuple", "list", "dict"] := by cases d <;> simp [tyName]
theorem kit_isT {K : PySem.W.Frag} (d : D) (t : String) (h : tyAsked t = true) : PySem.W.kitOne K (.type (tyName d)) (.type t) = some (isT d t) :=
  kit_ty (kit_tab _ (tyName_in d) t (by simpa [tyAsked] using h))
def mIsi (t : String) (e : ME) : ME := fun ρ S k => e ρ S fun w S1 => rd S1 w fun d => k (.val (.bl (isT d t))) S1
theorem pem_isi {X : Cx} {e ce : Expr} {p pos : Pos} {te : ME} {t : String} (hg : Gl X "isinstance") (hm : X.mg "isinstance" = none) (ht : tyAsked t = true) (he : PEm X e te) (hc : PE X ce (tC (.ty t)))
    (hs : starEach [e, ce] X.env = (false, eval e X.env) :: starEach [ce] X.env := by rfl) (hs2 : starEach [ce] X.env = (false, eval ce X.env) :: starEach [] X.env := by rfl) (hpl : (backTo pos (starEach [ce] X.env)).any (·.1) = false := by rfl) :
    PEm X (.Call (.Name "isinstance" p) [e, ce] [] pos) (mIsi t te) := by
  refine ⟨(pe_callB call_isiM hg hm (by decide +kernel) (pa_cons he.pe (pa_cons hc pa_nil hs2) hs) (he := hs) (hpl := hpl)).imp ?_, fun ρ S Q Q' h q => he.mono ρ S _ _ (fun w S1 => rd_mono fun d => h _ _) q⟩
  rintro σ H Q ⟨A, B, ρ, S, k, r0, h, af⟩
  refine up_then r0 h fun w S1 A1 v H1 h1 k1 r1 rw1 => ?_
  obtain ⟨d, hd, h2⟩ := rd_ok r1.cells rw1 h1
  exact ⟨v, _, _, _, _, rfl, .ty t, hd.ty, kit_isT d t ht, (af.keep k1).bl r1.cells h2⟩
def mIsiT (ts : List String) (e : ME) : ME := fun ρ S k => e ρ S fun w S1 => rd S1 w fun d => k (.val (.bl (ts.any (isT d)))) S1
theorem kit_any {K : PySem.W.Frag} (d : D) : ∀ ts : List String, ts.all tyAsked = true → PySem.W.kitAny K (.type (tyName d)) (ts.map Value.type) = some (ts.any (isT d))
  | [], _ => rfl
  | t :: ts, h => by
    rw [List.all_cons, Bool.and_eq_true] at h
    rw [List.map_cons, List.any_cons]
    refine kitAny_cons (kit_isT d t h.1) (fun e => ?_) fun e => by rw [e]; rfl
    rw [e, Bool.false_or]
    exact kit_any d ts h.2
theorem tys_rel : ∀ ts : List String, Paired ClsV (ts.map V.ty) (ts.map Value.type)
  | [] => .nil
  | t :: ts => .cons (.ty t) (tys_rel ts)
theorem pem_isiT {X : Cx} {e ce : Expr} {p pos : Pos} {te : ME} {ts : List String} {ta : TA} (hg : Gl X "isinstance") (hm : X.mg "isinstance" = none) (ht : ts.all tyAsked = true) (hl : ts.length ≤ sizeLine) (he : PEm X e te) (hc : PE X ce (tTup ta)) (hta : ∀ σ H (Q : List V → Hp → Prop), Q (ts.map V.ty) H → ta σ H Q)
    (hs : starEach [e, ce] X.env = (false, eval e X.env) :: starEach [ce] X.env := by rfl) (hs2 : starEach [ce] X.env = (false, eval ce X.env) :: starEach [] X.env := by rfl) (hpl : (backTo pos (starEach [ce] X.env)).any (·.1) = false := by rfl) :
    PEm X (.Call (.Name "isinstance" p) [e, ce] [] pos) (mIsiT ts te) := by
  refine ⟨(pe_callB call_isiTM hg hm (by decide +kernel) (pa_cons he.pe (pa_cons hc pa_nil hs2) hs) (he := hs) (hpl := hpl)).imp ?_, fun ρ S Q Q' h q => he.mono ρ S _ _ (fun w S1 => rd_mono fun d => h _ _) q⟩
  rintro σ H Q ⟨A, B, ρ, S, k, r0, h, af⟩
  refine up_then r0 h fun w S1 A1 v H1 h1 k1 r1 rw1 => ?_
  refine hta _ _ _ ⟨by rw [List.length_map]; exact hl, fun q hq => ?_⟩
  have k2 := k1.trans (Keep.upd (o := .tup (ts.map V.ty)) hq)
  have c2 := r1.cells.upd (o := .tup (ts.map V.ty)) hq
  obtain ⟨d, hd, h2⟩ := rd_ok c2 (rw1.keep (Keep.upd (o := .tup (ts.map V.ty)) hq)) h1
  exact ⟨v, q, _, _, _, _, rfl, upd_same, tys_rel ts, hd.ty, kit_any d ts ht, (af.keep k2).bl c2 h2⟩
end Fo
/-! Core9: new lists by list, sorted; repr; methods; stores. -/
namespace Fo
open PySem PySem.Spec PyProof.Rows L2
variable {K : Kw}
/-! ### list(x) -/
/-- a new list's call: from the values of the arguments -/
def NewM (K : Kw) (r : List V → Hp → VK → Prop) (f : List D → Sto → (List D → Sto → Prop) → Prop) : Prop := ∀ (A : List (Option Addr)) (B : Addr → Prop) (H : Hp) (S : Sto) (ds : List D) (vs : List V) (k : List D → Sto → Prop) (Q : VK),
  Cells K H A B S → RDs K H (av A B) ds vs → f ds S k → AftN K A B H k Q → r vs H Q
def nCallB (f : List D → Sto → (List D → Sto → Prop) → Prop) (args : MA) : MN := fun ρ S k => args ρ S fun ws S1 => rds S1 ws fun ds => f ds S1 k
theorem AftN.keep {A A1 : List (Option Addr)} {B : Addr → Prop} {H H1 : Hp} {k : List D → Sto → Prop} {Q : VK} (a : AftN K A B H k Q) (l : Keep A H A1 H1) : AftN K A1 B H1 k Q :=
  fun ds S' h A' H2 p vs k' c r hp => a ds S' h A' H2 p vs (l.trans k') c r hp
theorem AftN.now {A : List (Option Addr)} {B : Addr → Prop} {H : Hp} {S : Sto} {k : List D → Sto → Prop} {Q : VK} (a : AftN K A B H k Q) (c : Cells K H A B S) {ds : List D} {vs : List V} (h : k ds S) (r : RVs K H (av A B) ds vs) {p : Addr} (hp : H p = none) : Q (.ref p) (upd H p (.lst vs)) :=
  a _ _ h A H p vs Keep.refl c r hp
theorem pnm_callB {X : Cx} {e : Expr} {es : List Expr} {r : List V → Hp → VK → Prop} {f : List D → Sto → (List D → Sto → Prop) → Prop} {args : MA} (cm : NewM X.kw r f) (mf : ∀ ds S (Q Q' : List D → Sto → Prop), (∀ w S', Q w S' → Q' w S') → f ds S Q → f ds S Q') (ha : PAm X es args) (hp : ∀ t, PA X es t → PE X e (tCB r t)) : PNm X e (nCallB f args) := by
  refine ⟨(hp _ ha.pa).imp ?_, fun ρ S Q Q' h q => ha.mono ρ S _ _ (fun ws S1 => rds_mono fun ds => mf _ _ _ _ h) q⟩
  rintro σ H Q ⟨A, B, ρ, S, k, r0, h, af⟩
  refine upA_then r0 h fun ws S1 A1 vs H1 h1 k1 r1 rws => ?_
  obtain ⟨ds, rd1, h2⟩ := rds_ok r1.cells rws h1
  exact cm A1 B H1 S1 ds vs k Q r1.cells rd1 h2 (af.keep k1)
def signs (l : List Nat) : List D := l.map fun c => .str [c]
def listF : List D → Sto → (List D → Sto → Prop) → Prop := fun ds S k => match ds with
  | [.lst l] => k l S
  | [.tup l] => k l S
  | [.scr l] => k (l.map D.int) S
  | [.str l] => l.length ≤ sizeLine ∧ k (signs l) S
  | _ => False
theorem listF_mono (ds S) (Q Q' : List D → Sto → Prop) (h : ∀ w S', Q w S' → Q' w S') (q : listF ds S Q) : listF ds S Q' := by
  unfold listF at q ⊢
  split at q <;> first | exact h _ _ q | exact ⟨q.1, h _ _ q.2⟩ | exact q.elim
def rList (K : Kw) : List V → Hp → VK → Prop := fun xs H Q => (∃ p ys, xs = [.ref p] ∧ (SqL K H p ys ∨ SqT K H p ys) ∧ ∀ l, H l = none → Q (.ref l) (upd H l (.lst ys))) ∨
  (∃ x : Str, xs = [.str x] ∧ x.cps.size ≤ sizeLine ∧ ∀ l, H l = none → Q (.ref l) (upd H l (.lst (x.cps.toList.map fun c => V.str ⟨#[c]⟩))))
theorem items_signs {x : Str} {acc : Array Value} {c : Nat} (h : ItemsOf (SignAt x) acc c) (hc : c = x.cps.size) : Vals (x.cps.toList.map fun c => V.str ⟨#[c]⟩) acc.toList := by
  obtain ⟨h1, h2⟩ := h
  have gen : ∀ (l : List Nat) (us : List Value), l.length = us.length → (∀ (j : Nat) (u : Value), us[j]? = some u → ∃ (c : Nat) (t : Tok), l[j]? = some c ∧ u = Value.str ⟨#[c]⟩ t) → Vals (l.map fun c => V.str ⟨#[c]⟩) us := by
    intro l
    induction l with
    | nil =>
      intro us hl _
      cases us with
      | nil => exact .nil
      | cons u us => simp at hl
    | cons c l ih =>
      intro us hl hj
      cases us with
      | nil => simp at hl
      | cons u us =>
        obtain ⟨c', t, e1, e2⟩ := hj 0 u rfl
        simp at e1
        subst e1 e2
        exact .cons ⟨t, rfl⟩ (ih us (by simpa using hl) fun j u e => by simpa using hj (j + 1) u (by simpa using e))
  refine gen _ _ (by rw [Array.length_toList, Array.length_toList, h1, hc]) fun j u e => ?_
  obtain ⟨c, t, e1, e2⟩ := h2 j u (by simpa using e)
  exact ⟨c, t, by simpa using e1, e2⟩
theorem call_listM {X : Cx} (hc : X.calm = true) : CallR X (.type "list") (rList X.kw) := by
  intro pins s σ H xs us Q I r h
  rcases h with h | ⟨x, rfl, hz, q⟩
  · exact call_list_of pins s σ H xs us Q I r h
  · cases r with
    | cons r1 r2 =>
      cases r2
      obtain ⟨t, rfl⟩ := r1
      refine call_list_str (I.ok.hd hc) x t (fun h' tk acc' c' kept new items => ?_) hz
      have hf : H s.heap.objs.size = none := I.hok.fresh (Nat.le_refl _)
      refine ⟨.ref s.heap.objs.size, _, I.laid (t' := tk) (o := .lst (x.cps.toList.map fun c => V.str ⟨#[c]⟩)) kept (Nat.le_refl _) ⟨?_, acc'.toList, c', items_signs items rfl, by simpa using new⟩, rfl, q _ hf⟩
      rw [List.length_map, Array.length_toList]
      exact hz
theorem signs_rel {H : Hp} {av : Addr → Prop} : ∀ l : List Nat, RVs K H av (signs l) (l.map fun c => V.str ⟨#[c]⟩)
  | [] => RVs.nil
  | c :: l => by
    show RVs K H av (.str [c] :: signs l) _
    exact RVs.cons (by unfold RV; rfl) (signs_rel l)
theorem listM : NewM K (rList K) listF := by
  intro A B H S ds vs k Q c r h af
  unfold listF at h
  split at h
  · obtain ⟨v, rfl, r1⟩ := r.one
    obtain ⟨a, us, rfl, e, t⟩ := r1.lst
    exact .inl ⟨a, us, rfl, .inl (.inl (.inl e)), fun p hp => af.now c h t hp⟩
  · obtain ⟨v, rfl, r1⟩ := r.one
    obtain ⟨a, us, rfl, e, n, t⟩ := r1.tup
    exact .inl ⟨a, us, rfl, .inr (.inl (.inl e)), fun p hp => af.now c h t hp⟩
  · obtain ⟨v, rfl, r1⟩ := r.one
    obtain ⟨a, rfl, q⟩ := r1.scr
    exact .inl ⟨a, _, rfl, .inl q, fun p hp => af.now c h (RVs.ints _) hp⟩
  · obtain ⟨v, rfl, r1⟩ := r.one
    rw [r1.str]
    refine .inr ⟨_, rfl, by simpa [tx] using h.1, fun p hp => ?_⟩
    rw [tx_toList]
    exact af.now c h.2 (signs_rel _) hp
  · exact h.elim
theorem pnm_list {X : Cx} {e : Expr} {es : List Expr} {args : MA} (ha : PAm X es args) (hp : ∀ t, PA X es t → PE X e (tCB (rList X.kw) t)) : PNm X e (nCallB listF args) := pnm_callB listM listF_mono ha hp
/-! ### sorted(a list of texts) -/
/-- ascending by the signs -/
def rises : List (List Nat) → Prop
  | x :: y :: r => ¬ y < x ∧ rises (y :: r)
  | _ => True
theorem strs_rel {H : Hp} {av : Addr → Prop} : ∀ l : List (List Nat), RVs K H av (l.map D.str) ((l.map tx).map V.str)
  | [] => RVs.nil
  | c :: l => RVs.cons (by unfold RV; rfl) (strs_rel l)
theorem rises_of : ∀ {us : List (List Nat)}, sortedS (us.map tx) = true → rises us
  | [], _ => trivial
  | [_], _ => trivial
  | x :: y :: r, h => by
    have h' : risingS (tx x) (tx y :: r.map tx) = true := h
    unfold risingS at h'
    rw [Bool.and_eq_true, tx_toList, tx_toList, ltCps_eq] at h'
    refine ⟨by simpa using h'.1, rises_of (us := y :: r) h'.2⟩
/-! ### repr -/
/-- what repr tells of data at an address -/
def shown (d : D) : List Nat := (py d).shown.cps.toList
/-! ### methods of texts -/
def asS (w : W) (k : List Nat → Prop) : Prop := match w with
  | .val (.str l) => k l
  | _ => False
theorem asS_mono {w : W} {k k' : List Nat → Prop} (h : ∀ l, k l → k' l) (q : asS w k) : asS w k' := by
  unfold asS at q ⊢
  split at q <;> first | exact h _ q | exact q.elim
theorem asS_ok {H : Hp} {A : List (Option Addr)} {B : Addr → Prop} {w : W} {v : V} {k : List Nat → Prop} (r : RW K H A B w v) (h : asS w k) : ∃ l, v = .str (tx l) ∧ k l := by
  unfold asS at h
  split at h
  · rename_i b
    refine ⟨b, ?_, h⟩
    have r' : RV K H (av A B) (.str b) v := r
    unfold RV at r'
    exact r'
  · exact h.elim
/-- s.m(e), by values -/
def mMethS (f : List Nat → D → Sto → KW → Prop) (o e : ME) : ME := fun ρ S k => o ρ S fun w S1 => asS w fun l => e ρ S1 fun u S2 => rd S2 u fun d => f l d S2 k
theorem pem_methS {X : Cx} {ex o e : Expr} {to te : ME} {r : V → List V → Hp → VK → Prop} {f : List Nat → D → Sto → KW → Prop} (mf : ∀ l d S (Q Q' : KW), (∀ w S', Q w S' → Q' w S') → f l d S Q → f l d S Q') (ho : PEm X o to) (he : PEm X e te)
    (hp : ∀ t u, PE X o t → PE X e u → PE X ex (tM1 r t u))
    (hm : ∀ (A : List (Option Addr)) (B : Addr → Prop) (H : Hp) (S : Sto) (l : List Nat) (d : D) (v : V) (k : KW) (Q : VK), Cells X.kw H A B S → RD X.kw H (av A B) d v → f l d S k → Aft X.kw A B H k Q → r (.str (tx l)) [v] H Q) : PEm X ex (mMethS f to te) := by
  refine ⟨(hp _ _ ho.pe he.pe).imp ?_, fun ρ S Q Q' h q => ho.mono ρ S _ _ (fun w S1 => asS_mono fun l => he.mono ρ S1 _ _ fun u S2 => rd_mono fun d => mf _ _ _ _ _ h) q⟩
  rintro σ H Q ⟨A, B, ρ, S, k, r0, h, af⟩
  refine up_then r0 h fun w S1 A1 v H1 h1 k1 r1 rw1 => ?_
  obtain ⟨l, rfl, h2⟩ := asS_ok rw1 h1
  refine ⟨⟨_, rfl⟩, up_then r1 h2 fun u S2 A2 y H2 h3 k2 r2 rw2 => ?_⟩
  obtain ⟨d, hd, h4⟩ := rd_ok r2.cells rw2 h3
  exact hm A2 B H2 S2 l d y k Q r2.cells hd h4 (af.keep (k1.trans k2))
/-- sep.join(a list of texts) -/
def joinT (sep : List Nat) : List (List Nat) → List Nat
  | [] => []
  | [p] => p
  | p :: q :: r => p ++ (sep ++ joinT sep (q :: r))
theorem joinT_eq (sep : List Nat) : ∀ l, joinT sep l = TL.joinL sep l
  | [] => rfl
  | [_] => rfl
  | p :: q :: r => by unfold joinT TL.joinL; rw [joinT_eq sep (q :: r)]
def joinF : List Nat → D → Sto → KW → Prop := fun sep d S k => match d with
  | .lst l => match strsOf l with
    | some ts => (ts.map List.length).sum + ts.length * sep.length ≤ 16777216 ∧ k (.val (.str (joinT sep ts))) S
    | none => False
  | .tup l => match strsOf l with
    | some ts => (ts.map List.length).sum + ts.length * sep.length ≤ 16777216 ∧ k (.val (.str (joinT sep ts))) S
    | none => False
  | _ => False
theorem joinF_mono (l d S) (Q Q' : KW) (h : ∀ w S', Q w S' → Q' w S') (q : joinF l d S Q) : joinF l d S Q' := by
  unfold joinF at q ⊢
  split at q
  · split at q
    · exact ⟨q.1, h _ _ q.2⟩
    · exact q.elim
  · split at q
    · exact ⟨q.1, h _ _ q.2⟩
    · exact q.elim
  · exact q.elim
theorem join_tx (sep : List Nat) (ts : List (List Nat)) : Txt.join (tx sep) (ts.map tx) = tx (joinT sep ts) := by
  have e : (ts.map tx).map TL.tl = ts := by
    rw [List.map_map]
    conv => rhs; rw [← List.map_id ts]
    exact List.map_congr_left fun a _ => tx_toList a
  rw [← tx_tl (Txt.join (tx sep) (ts.map tx)), joinT_eq, TL.join_eq]
  have := TL.tl_join (tx sep) (ts.map tx)
  rw [e] at this
  show tx (TL.tl (Str.join (tx sep) (ts.map tx))) = _
  rw [this, show TL.tl (tx sep) = sep from tx_toList sep]
theorem pem_join {X : Cx} {ex o e : Expr} {to te : ME} (ho : PEm X o to) (he : PEm X e te)
    (hp : ∀ t u, PE X o t → PE X e u → PE X ex (tM1 (fun x xs H Q => ∃ a p, ∃ ys : List Str, x = .str a ∧ xs = [.ref p] ∧ (SqL X.kw H p (ys.map V.str) ∨ SqT X.kw H p (ys.map V.str)) ∧ (ys.map (·.length)).sum + ys.length * a.length ≤ 16777216 ∧ Q (.str (Txt.join a ys)) H) t u)) : PEm X ex (mMethS joinF to te) := by
  refine pem_methS joinF_mono ho he hp fun A B H S sep d v k Q c r h af => ?_
  have lenS : ∀ ts : List (List Nat), (ts.map tx).map (fun x : Str => x.length) = ts.map List.length := fun ts => by
    rw [List.map_map]
    exact List.map_congr_left fun a _ => tx_length a
  unfold joinF at h
  split at h
  · split at h
    · rename_i l ts e
      obtain ⟨a, us, rfl, e1, t⟩ := r.lst
      rw [strsOf_ok t e] at e1
      refine ⟨_, a, ts.map tx, rfl, rfl, .inl (.inl (.inl e1)), by rw [lenS, List.length_map, tx_length]; exact h.1, ?_⟩
      rw [join_tx]
      exact af.str c h.2
    · exact h.elim
  · split at h
    · rename_i l ts e
      obtain ⟨a, us, rfl, e1, _, t⟩ := r.tup
      rw [strsOf_ok t e] at e1
      refine ⟨_, a, ts.map tx, rfl, rfl, .inr (.inl (.inl e1)), by rw [lenS, List.length_map, tx_length]; exact h.1, ?_⟩
      rw [join_tx]
      exact af.str c h.2
    · exact h.elim
  · exact h.elim
/-- text.index(sign): a place of it -/
def indexF : List Nat → D → Sto → KW → Prop := fun l d S k => match d with
  | .str [c] => c ∈ l ∧ ∀ i : Nat, l[i]? = some c → k (.val (.int i)) S
  | _ => False
theorem indexF_mono (l d S) (Q Q' : KW) (h : ∀ w S', Q w S' → Q' w S') (q : indexF l d S Q) : indexF l d S Q' := by
  unfold indexF at q ⊢
  split at q
  · exact ⟨q.1, fun i e => h _ _ (q.2 i e)⟩
  · exact q.elim
theorem pem_sindex {X : Cx} {ex o e : Expr} {to te : ME} (ho : PEm X o to) (he : PEm X e te)
    (hp : ∀ t u, PE X o t → PE X e u → PE X ex (tM1 (fun x xs H Q => ∃ a b i rest, x = .str a ∧ xs = [.str b] ∧ Builtin.Str.occurrences a b 0 a.length 1 = i :: rest ∧ Q (.int (i : Nat)) H) t u)) : PEm X ex (mMethS indexF to te) := by
  refine pem_methS indexF_mono ho he hp fun A B H S l d v k Q c r h af => ?_
  unfold indexF at h
  split at h
  · rename_i ch
    rw [r.str]
    obtain ⟨hm, h⟩ := h
    have found := StrLaws.found_one (tx l) ch
    rw [tx_toList, decide_eq_true hm] at found
    cases e : Builtin.Str.occurrences (tx l) ⟨#[ch]⟩ 0 (tx l).length 1 with
    | nil => rw [e] at found; cases found
    | cons i rest =>
      refine ⟨_, _, i, rest, rfl, rfl, e, af.int c (h i ?_)⟩
      have q := StrLaws.occ_spec (tx l) ⟨#[ch]⟩ 0 (tx l).length 1 i (by rw [e]; exact List.mem_cons_self)
      have := (StrLaws.subAt_one (tx l) ch i).mp q
      rw [tx_toList] at this
      exact this
  · exact h.elim
end Fo
/-! Core10: lists that change: methods, stores; names stored by an operator. -/
namespace Fo
open PySem PySem.Spec PyProof.Rows L2
variable {K : Kw}
/-- a list's cell -/
def asCell (w : W) (S : Sto) (k : Nat → List D → Prop) : Prop := match w with
  | .ref n => match S[n]? with
    | some (.lst l) => k n l
    | _ => False
  | _ => False
theorem asCell_mono {w : W} {S : Sto} {k k' : Nat → List D → Prop} (h : ∀ n l, k n l → k' n l) (q : asCell w S k) : asCell w S k' := by
  unfold asCell at q ⊢
  cases w with
  | val d => exact q
  | lws _ => exact q
  | ins _ _ _ => exact q
  | fn _ => exact q
  | ref n =>
    simp only at q ⊢
    split at q
    · exact h _ _ q
    · exact q.elim
theorem asCell_ok {H : Hp} {A : List (Option Addr)} {B : Addr → Prop} {S : Sto} {w : W} {v : V} {k : Nat → List D → Prop} (c : Cells K H A B S) (r : RW K H A B w v) (h : asCell w S k) :
    ∃ n l a vs, w = .ref n ∧ S[n]? = some (.lst l) ∧ A[n]? = some (some a) ∧ v = .ref a ∧ H a = some (.lst vs) ∧ RVs K H (av A B) l vs ∧ k n l := by
  unfold asCell at h
  cases w with
  | val d => exact h.elim
  | lws _ => exact h.elim
  | ins _ _ _ => exact h.elim
  | fn _ => exact h.elim
  | ref n =>
    simp only at h
    split at h
    · rename_i l e
      obtain ⟨a, ha, vs, h1, h2⟩ := c.look e (by intro z; cases z)
      exact ⟨n, l, a, vs, rfl, e, ha, r.at_ ha, h1, h2, h⟩
    · exact h.elim
/-- a cell's method, with arguments: what becomes of it, what is told -/
abbrev CelD := List D → List W → (List D → D → Prop) → Prop
def mMethC (f : CelD) (o : ME) (args : MA) : ME := fun ρ S k => o ρ S fun w S1 => asCell w S1 fun _ _ => args ρ S1 fun ws S2 => asCell w S2 fun n l => f l ws fun l' d => k (.val d) (S2.set n (.lst l'))
/-- it is right, by the method's rule -/
def CelM (K : Kw) (r : V → List V → Hp → VK → Prop) (f : CelD) : Prop := ∀ (A : List (Option Addr)) (B : Addr → Prop) (H : Hp) (l : List D) (ws : List W) (a : Addr) (vs us : List V) (k : List D → D → Prop) (Q : VK),
  H a = some (.lst vs) → RVs K H (av A B) l vs → RWs K H A B ws us → f l ws k → (∀ l' d vs' v, k l' d → RVs K H (av A B) l' vs' → RV K H (av A B) d v → Q v (upd H a (.lst vs'))) → r (.ref a) us H Q
theorem mMethC_mono {f : CelD} {o : ME} {args : MA} (mf : ∀ l ws (k k' : List D → D → Prop), (∀ l d, k l d → k' l d) → f l ws k → f l ws k') (mo : MonoE o) (ma : MonoA args) : MonoE (mMethC f o args) := fun ρ S Q Q' h q =>
  mo ρ S _ _ (fun w S1 => asCell_mono fun n l => ma ρ S1 _ _ fun ws S2 => asCell_mono fun n l => mf _ _ _ _ fun l' d => h _ _) q
theorem cel_ok {A : List (Option Addr)} {B : Addr → Prop} {H : Hp} {S : Sto} {n : Nat} {a : Addr} {k : KW} {Q : VK} (c : Cells K H A B S) (ha : A[n]? = some (some a)) (af : Aft K A B H k Q) (l' : List D) (d : D) (vs' : List V) (v : V) (h : k (.val d) (S.set n (.lst l'))) (r : RVs K H (av A B) l' vs')
    (rv : RV K H (av A B) d v) : Q v (upd H a (.lst vs')) := by
  obtain ⟨c2, k2⟩ := c.write_lst ha r
  exact af _ _ h A v _ k2 c2 (RV.stay k2.stay rv)
theorem pem_methC {X : Cx} {ex o : Expr} {es : List Expr} {to : ME} {args : MA} {r : V → List V → Hp → VK → Prop} {f : CelD} (cm : CelM X.kw r f) (mf : ∀ l ws (k k' : List D → D → Prop), (∀ l d, k l d → k' l d) → f l ws k → f l ws k') (ho : PEm X o to) (ha : PAm X es args)
    (hp : ∀ t u, PE X o t → PA X es u → PE X ex (tBM X.kw "list" r t u)) : PEm X ex (mMethC f to args) := by
  refine ⟨(hp _ _ ho.pe ha.pa).imp ?_, mMethC_mono mf ho.mono ha.mono⟩
  rintro σ H Q ⟨A, B, ρ, S, k, r0, h, af⟩
  refine up_then r0 h fun w S1 A1 v H1 h1 k1 r1 rw1 => ?_
  obtain ⟨n, l, a, vs, rfl, e, ea, rfl, eH, rv, h2⟩ := asCell_ok r1.cells rw1 h1
  refine ⟨.inl ⟨rfl, vs, .inl (.inl eH)⟩, upA_then r1 h2 fun ws S2 A2 us H2 h3 k2 r2 rws => ?_⟩
  obtain ⟨n', l', a', vs', e0, e', ea', e3, eH', rv', h4⟩ := asCell_ok r2.cells (rw1.keep k2) h3
  cases e0
  cases e3
  exact cm A2 B H2 l' ws _ vs' us _ Q eH' rv' rws h4 (cel_ok r2.cells ea' (af.keep (k1.trans k2)))
def mMethC0 (f : CelD) (o : ME) : ME := fun ρ S k => o ρ S fun w S1 => asCell w S1 fun n l => f l [] fun l' d => k (.val d) (S1.set n (.lst l'))
/-! ### append, pop, extend, insert -/
def appendF : CelD := fun l ws k => match ws with
  | [.val d] => l.length < sizeLine ∧ k (l ++ [d]) .non
  | _ => False
theorem appendF_mono (l ws) (k k' : List D → D → Prop) (h : ∀ l d, k l d → k' l d) (q : appendF l ws k) : appendF l ws k' := by
  unfold appendF at q ⊢
  split at q <;> first | exact ⟨q.1, h _ _ q.2⟩ | exact q.elim
theorem RV.non' {H : Hp} {av : Addr → Prop} : RV K H av .non .non := by unfold RV; rfl
theorem RWs.one {H : Hp} {A : List (Option Addr)} {B : Addr → Prop} {w : W} {us : List V} (r : RWs K H A B [w] us) : ∃ u, us = [u] ∧ RW K H A B w u := by
  cases r with
  | cons r1 r2 =>
    cases r2
    exact ⟨_, rfl, r1⟩
theorem appendM : CelM K rAppend appendF := by
  intro A B H l ws a vs us k Q eH rv rws h fin
  unfold appendF at h
  split at h
  · obtain ⟨u, rfl, ru⟩ := rws.one
    exact ⟨a, vs, u, rfl, rfl, eH, by rw [rv.length]; exact h.1, fin _ _ _ _ h.2 (rv.append (RVs.cons ru RVs.nil)) RV.non'⟩
  · exact h.elim
theorem pem_append {X : Cx} {ex o : Expr} {es : List Expr} {to : ME} {args : MA} (ho : PEm X o to) (ha : PAm X es args) (hp : ∀ t u, PE X o t → PA X es u → PE X ex (tBM X.kw "list" rAppend t u)) : PEm X ex (mMethC appendF to args) := pem_methC appendM appendF_mono ho ha hp
theorem RVs.dropLast {H : Hp} {av : Addr → Prop} {ds : List D} {vs : List V} (h : RVs K H av ds vs) : RVs K H av ds.dropLast vs.dropLast := by
  rw [List.dropLast_eq_take, List.dropLast_eq_take, h.length]
  exact h.take _
/-! ### xs[i] = v -/
def gIx (o i : ME) : MG := fun w ρ S k => o ρ S fun x S1 => i ρ S1 fun y S2 => asCell x S2 fun n l => asI y S2 fun j S2 => match ixN l.length j with
  | some p => match w with
    | .val d => k ρ (S2.set n (.lst (l.set p d)))
    | _ => False
  | none => False
theorem gIx_mono {o i : ME} (mo : MonoE o) (mi : MonoE i) : MonoG (gIx o i) := fun w ρ S Q Q' h q => mo ρ S _ _ (fun x S1 => mi ρ S1 _ _ fun y S2 => asCell_mono fun n l => asI_mono fun j S3 q => by
  split at q
  · cases w with
    | val d => exact h _ _ q
    | ref _ => exact q.elim
    | lws _ => exact q.elim
    | ins _ _ _ => exact q.elim
    | fn _ => exact q.elim
  · exact q.elim) q
theorem pgm_ix {X : Cx} {tg o i : Expr} {to ti : ME} (ho : PEm X o to) (hi : PEm X i ti) (hp : ∀ t u, PE X o t → PE X i u → PG X tg (gSub t u rSetL)) : PGm X tg (gSub (up X.kw to) (up X.kw ti) rSetL) (gIx to ti) [] := by
  refine ⟨hp _ _ ho.pe hi.pe, fun A B H w v ρ S σ k Q r rw' h a => ?_, gIx_mono ho.mono hi.mono⟩
  refine up_then r h fun x S1 A1 vx H1 h1 k1 r1 rx => up_then r1 h1 fun y S2 A2 vy H2 h2 k2 r2 ry => ?_
  obtain ⟨n, l, a', vs, rfl, e, ea, rfl, eH, rv, h3⟩ := asCell_ok r2.cells (rx.keep k2) h2
  obtain ⟨j, rfl, h4⟩ := asI_ok ry h3
  split at h4
  · rename_i p ep
    cases w with
    | ref _ => exact h4.elim
    | lws _ => exact h4.elim
    | ins _ _ _ => exact h4.elim
    | fn _ => exact h4.elim
    | val d =>
      have rd' : RV X.kw H2 (av A2 B) d v := (rw'.keep k1).keep k2
      obtain ⟨c3, k3⟩ := r2.cells.write_lst ea (RVs.set rd' p rv)
      refine ⟨a', vs, j, p, rfl, rfl, eH, by rw [rv.length]; exact ep, ?_⟩
      exact a _ _ h4 A2 σ _ ((k1.trans k2).trans k3) (r2.keep k3 c3) fun _ _ => rfl
  · exact h4.elim
/-! ### x op= e -/
def sAug (i : Nat) (op : OpD) (e : ME) : MS := fun E ρ S => match ρ[i]? with
  | some (some x) => e ρ S fun y S1 => rd S1 x fun dx => rd S1 y fun dy => op dx dy S1 fun w S2 => E.nx (ρ.set i (some w)) S2
  | _ => False
theorem psm_aug {X : Cx} {st : Stmt} {i : Nat} {e : Expr} {te : ME} {ti : TIp} {op : OpD} (om : OpM X.kw ti op) (mo : MonoO op) (he : PEm X e te) (hp : ∀ t, PE X e t → PS X st (tAug i t ti)) : PSm X st (sAug i op te) := by
  refine ⟨(hp _ he.pe).imp ?_, fun E E' ρ S l q => ?_⟩
  · rintro D σ H ⟨A, B, ρ, S, E, r, h, a⟩
    unfold sAug at h
    split at h
    · rename_i x ex
      obtain ⟨vx, e1, rx⟩ := r.slot i x ex
      refine ⟨vx, e1, up_then r h fun y S1 A1 vy H1 h1 k1 r1 ry => ?_⟩
      obtain ⟨dx, hx, h2⟩ := rd_ok r1.cells (rx.keep k1) h1
      obtain ⟨dy, hy, h3⟩ := rd_ok r1.cells ry h2
      exact om A1 B H1 S1 dx dy vx vy _ _ r1.cells hx hy h3 fun w S2 h4 A2 v H2 k2 c2 rw2 => a.nx _ _ h4 A2 _ H2 (k1.trans k2) ((r1.keep k2 c2).set rw2)
    · exact h.elim
  · unfold sAug at q ⊢
    split at q
    · exact he.mono ρ S _ _ (fun y S1 => rd_mono fun dx => rd_mono fun dy => mo _ _ _ _ _ fun w S2 q => l.nx _ _ q) q
    · exact q.elim
/-- += of ints, texts -/
def iaddD : OpD := fun a b S k => match a, b with
  | .int i, .int j => k (.val (.int (i + j))) S
  | .str s, .str t => s.length + t.length ≤ sizeLine ∧ k (.val (.str (s ++ t))) S
  | _, _ => False
theorem iaddD_mono : MonoO iaddD := by
  intro a b S Q Q' h q
  cases a <;> cases b <;> first | exact q.elim | exact h _ _ q | exact ⟨q.1, h _ _ q.2⟩
def rIadd : TIp := fun x y H Q => ipI (fun i j => i + j) x y H Q ∨ rAddS x y H Q
theorem ip_addM {X : Cx} : PIp X .Add rIadd := by
  intro pins s σ H x y v u Q I rx ry h
  rcases h with h | h
  · exact ip_add pins s σ H x y v u Q I rx ry h
  · exact in_addS pins s σ H x y v u Q I rx ry h
theorem iaddM : OpM K rIadd iaddD := by
  intro A B H S dx dy vx vy k Q c rx ry h af
  cases dx with
  | int i =>
    cases dy with
    | int j => rw [rx.int, ry.int]; exact .inl ⟨i, j, rfl, rfl, af.int c h⟩
    | _ => exact h.elim
  | str i =>
    cases dy with
    | str j =>
      rw [rx.str, ry.str]
      refine .inr ⟨_, _, rfl, rfl, by rw [tx_length, tx_length]; exact h.1, ?_⟩
      rw [tx_append]
      exact af.str c h.2
    | _ => exact h.elim
  | _ => exact h.elim
end Fo
/-! Core11: short words that the printed ties use. -/
namespace Fo
open PySem PySem.Spec PyProof.Rows L2
variable {K : Kw}
theorem room65 {k : Nat} {A : Around} (r : Room k A) : A.units + 65 < cLine := by have := r.un; omega
theorem pem_globI2 {X : Cx} {x : Str} {i : Int} {pos : Pos} (hg : Gl X x) (hm : ∃ t, X.mg x = some (.int i t)) (hd : (x == ("__debug__" : Str)) = false := by decide) : PEm X (.Name x pos) (mC (.int i)) := by
  obtain ⟨t, h⟩ := hm
  exact pem_globI hg h ⟨t, rfl⟩ hd
/-- -n -/
def mNeg (t : ME) : ME := fun ρ S k => t ρ S fun w S1 => asI w S1 fun i S1 => k (.val (.int (-i))) S1
theorem pem_neg {X : Cx} {e : Expr} {t : ME} {pos : Pos} (h : PEm X e t) : PEm X (.UnaryOp .USub e pos) (mNeg t) := by
  refine ⟨(pe_un un_neg h.pe).imp ?_, fun ρ S Q Q' hq q => h.mono ρ S _ _ (fun w S1 => asI_mono fun i S2 => hq _ _) q⟩
  rintro σ H Q ⟨A, B, ρ, S, k, r, h, af⟩
  refine up_then r h fun w S1 A1 v H1 h1 k1 r1 rw1 => ?_
  obtain ⟨i, e, q⟩ := asI_ok rw1 h1
  exact ⟨i, e, (af.keep k1).int r1.cells q⟩
/-! ### targets that always go on -/
def Strict (t : MG) : Prop := ∀ w ρ S Q, t w ρ S Q → ∃ ρ' S', Q ρ' S'
theorem strict_var {i : Nat} : Strict (gVar i) := fun w ρ S Q h => ⟨_, _, h⟩
theorem gsCons_lenS {n : Nat} {t : MG} {u : MGs} (h1 : Strict t) (hu : ∀ ds ρ S Q, u ds ρ S Q → ds.length = n) (ds ρ S Q) (h : gsCons t u ds ρ S Q) : ds.length = n + 1 := by
  cases ds with
  | nil => exact h.elim
  | cons d ds =>
    obtain ⟨ρ1, S1, q⟩ := h1 _ _ _ _ h
    rw [List.length_cons, hu ds _ _ _ q]
/-! ### name = [..] where the name is stored within the comprehension's frame -/
theorem lc_read {X : Cx} {elt tg iter : Expr} {ifs : List Expr} {scope : Scope} {own : List (Str × Nat)} {it : MI} {g' : TG} {g : MG} {sl : List Nat} {c : MT} {e : ME} (hi : PIm X tg iter it)
    (hg : ∀ (s : Shared) (H : Hp) (C : Addr) (cl : List (Str × Addr)) (fp : List Addr), PGm (X.blk s H scope (compEnvC scope cl C X.env) fp) tg g' g sl)
    (hsl : ∀ i ∈ sl, i ∈ own.map (·.2)) {σ : L2.St} {H : Hp} {Q : VK} (h : upN X.kw (nLC it g c e (own.map (·.2))) σ H Q) : tLc (upI X.kw it) g' (upT X.kw c) (up X.kw e) (own.map (·.2)) σ H Q := by
  obtain ⟨A, B, ρ, S, k, r, h, af⟩ := h
  exact lc_imp (hg X.s_0 (fun _ => none) 0 [] []).ok hsl r h af
theorem psm_lc_gen {X : Cx} {i : Nat} {y : Str} {py : Pos} {elt tg iter : Expr} {ifs : List Expr} {scope : Scope} {own : List (Str × Nat)} {pos spos : Pos} {it : MI} {g' : TG} {g : MG} {sl : List Nat} {c : MT} {e : ME} {u : ME} (hc : X.calm = true) (hN : X.N.Nodup) (hy : X.N[i]? = some y) (hyl : X.env.scope.names.lookup y = some .local)
    (hsw : swapsWith (.ListComp elt [⟨tg, iter, ifs, 0⟩] scope pos) (some (.Name y py)) spos.line X.env = pure true) (hi : PIm X tg iter it) (ok : BlkOk X.N X.env.scope scope own)
    (hg : ∀ (s : Shared) (H : Hp) (C : Addr) (cl : List (Str × Addr)) (fp : List Addr), PGm (X.blk s H scope (compEnvC scope cl C X.env) fp) tg g' g sl)
    (hsl : ∀ i ∈ sl, i ∈ own.map (·.2))
    (ht : ∀ (s : Shared) (H : Hp) (C : Addr) (cl : List (Str × Addr)) (fp : List Addr), PTsm (X.blk s H scope (compEnvC scope cl C X.env) fp) ifs c)
    (he : ∀ (s : Shared) (H : Hp) (C : Addr) (cl : List (Str × Addr)) (fp : List Addr), PEm (X.blk s H scope (compEnvC scope cl C X.env) fp) elt e)
    (hu : ∀ σ H Q, up X.kw u σ H Q → upN X.kw (nLC it g c e (own.map (·.2))) σ H Q) (mu : MonoE u) (hs : ∀ x, foldedSetIterable iter X.env x = pure x := by intro _; rfl) :
    PSm X (.Assign [.Name y py] (.ListComp elt [⟨tg, iter, ifs, 0⟩] scope pos) spos) (sSet i u) := by
  refine ⟨(ps_setLc (te := up X.kw e) (tt := upT X.kw c) (g := g') hc hN hy hyl hsw hi.pi ok (fun s H C cl fp => (hg s H C cl fp).pg) (fun s H C cl fp => (ht s H C cl fp).pts) (fun s H C cl fp => (he s H C cl fp).pe) hs).imp ?_,
    fun E E' ρ S l q => mu ρ S _ _ (fun _ S1 q1 => l.nx _ _ q1) q⟩
  rintro D σ H ⟨A, B, ρ, S, E, r, h, a⟩
  refine lc_read (elt := elt) (ifs := ifs) hi hg hsl (hu _ _ _ ?_)
  exact up_then r h fun w S1 A1 v H1 h1 k1 r1 rw1 => a.nx _ _ h1 A1 _ H1 k1 (r1.set rw1)
theorem upN_val {t : MN} {σ : L2.St} {H : Hp} {Q : VK} (h : up K (mVal t) σ H Q) : upN K t σ H Q := by
  obtain ⟨A, B, ρ, S, k, r, h, a⟩ := h
  exact ⟨A, B, ρ, S, _, r, h, fun ds S1 h1 A1 H1 p vs k1 c1 rv hp => a _ _ h1 A1 _ _ (k1.trans (Keep.upd hp)) (c1.upd hp) (RV.new_lst c1 hp rv)⟩
theorem upN_cell {t : MN} {σ : L2.St} {H : Hp} {Q : VK} (h : up K (mCell t) σ H Q) : upN K t σ H Q := by
  obtain ⟨A, B, ρ, S, k, r, h, a⟩ := h
  refine ⟨A, B, ρ, S, _, r, h, fun ds S1 h1 A1 H1 p vs k1 c1 rv hp => ?_⟩
  obtain ⟨c2, k2⟩ := c1.cell_lst hp rv
  refine a _ _ h1 _ _ _ (k1.trans k2) c2 (.inr ⟨p, ?_, rfl⟩)
  rw [← c1.len]
  simp
theorem mVal_mono {t : MN} (m : MonoN t) : MonoE (mVal t) := fun ρ S Q Q' hq q => m ρ S _ _ (fun ds S1 => hq _ _) q
theorem mCell_mono {t : MN} (m : MonoN t) : MonoE (mCell t) := fun ρ S Q Q' hq q => m ρ S _ _ (fun ds S1 => hq _ _) q
section
variable {X : Cx} {i : Nat} {y : Str} {py : Pos} {elt tg iter : Expr} {ifs : List Expr} {scope : Scope} {own : List (Str × Nat)} {pos spos : Pos} {it : MI} {g' : TG} {g : MG} {sl : List Nat} {c : MT} {e : ME}
theorem nLC_mono (hi : MonoI it) (mg : MonoG g) (mc : MonoT c) (me : MonoE e) (vs : List Nat) : MonoN (nLC it g c e vs) := fun ρ S Q Q' h q => hi ρ S _ _ (fun ds S1 q1 => lcItems_mono mg mc me h ds [] S1 q1) q
theorem psm_lc_val (hc : X.calm = true) (hN : X.N.Nodup) (hy : X.N[i]? = some y) (hyl : X.env.scope.names.lookup y = some .local)
    (hsw : swapsWith (.ListComp elt [⟨tg, iter, ifs, 0⟩] scope pos) (some (.Name y py)) spos.line X.env = pure true) (hi : PIm X tg iter it) (ok : BlkOk X.N X.env.scope scope own)
    (hg : ∀ (s : Shared) (H : Hp) (C : Addr) (cl : List (Str × Addr)) (fp : List Addr), PGm (X.blk s H scope (compEnvC scope cl C X.env) fp) tg g' g sl)
    (hsl : ∀ i ∈ sl, i ∈ own.map (·.2))
    (ht : ∀ (s : Shared) (H : Hp) (C : Addr) (cl : List (Str × Addr)) (fp : List Addr), PTsm (X.blk s H scope (compEnvC scope cl C X.env) fp) ifs c)
    (he : ∀ (s : Shared) (H : Hp) (C : Addr) (cl : List (Str × Addr)) (fp : List Addr), PEm (X.blk s H scope (compEnvC scope cl C X.env) fp) elt e) (hs : ∀ x, foldedSetIterable iter X.env x = pure x := by intro _; rfl) :
    PSm X (.Assign [.Name y py] (.ListComp elt [⟨tg, iter, ifs, 0⟩] scope pos) spos) (sSet i (mVal (nLC it g c e (own.map (·.2))))) :=
  psm_lc_gen hc hN hy hyl hsw hi ok hg hsl ht he (fun _ _ _ h => upN_val h) (mVal_mono (nLC_mono hi.mono (hg X.s_0 (fun _ => none) 0 [] []).mono (ht X.s_0 (fun _ => none) 0 [] []).mono (he X.s_0 (fun _ => none) 0 [] []).mono _)) hs
theorem psm_lc_cell (hc : X.calm = true) (hN : X.N.Nodup) (hy : X.N[i]? = some y) (hyl : X.env.scope.names.lookup y = some .local)
    (hsw : swapsWith (.ListComp elt [⟨tg, iter, ifs, 0⟩] scope pos) (some (.Name y py)) spos.line X.env = pure true) (hi : PIm X tg iter it) (ok : BlkOk X.N X.env.scope scope own)
    (hg : ∀ (s : Shared) (H : Hp) (C : Addr) (cl : List (Str × Addr)) (fp : List Addr), PGm (X.blk s H scope (compEnvC scope cl C X.env) fp) tg g' g sl)
    (hsl : ∀ i ∈ sl, i ∈ own.map (·.2))
    (ht : ∀ (s : Shared) (H : Hp) (C : Addr) (cl : List (Str × Addr)) (fp : List Addr), PTsm (X.blk s H scope (compEnvC scope cl C X.env) fp) ifs c)
    (he : ∀ (s : Shared) (H : Hp) (C : Addr) (cl : List (Str × Addr)) (fp : List Addr), PEm (X.blk s H scope (compEnvC scope cl C X.env) fp) elt e) (hs : ∀ x, foldedSetIterable iter X.env x = pure x := by intro _; rfl) :
    PSm X (.Assign [.Name y py] (.ListComp elt [⟨tg, iter, ifs, 0⟩] scope pos) spos) (sSet i (mCell (nLC it g c e (own.map (·.2))))) :=
  psm_lc_gen hc hN hy hyl hsw hi ok hg hsl ht he (fun _ _ _ h => upN_cell h) (mCell_mono (nLC_mono hi.mono (hg X.s_0 (fun _ => none) 0 [] []).mono (ht X.s_0 (fun _ => none) 0 [] []).mono (he X.s_0 (fun _ => none) 0 [] []).mono _)) hs
end
/-! ### a, b = x, y -/
def sPar (i j : Nat) (t : MA) : MS := fun E ρ S => t ρ S fun ws S1 => match ws with
  | [w, u] => E.nx ((ρ.set i (some w)).set j (some u)) S1
  | _ => False
theorem psm_par {X : Cx} {st : Stmt} {es : List Expr} {i j : Nat} {t : MA} (h : PAm X es t) (hp : ∀ ta, PA X es ta → PS X st (tPar i j ta)) : PSm X st (sPar i j t) := by
  refine ⟨(hp _ h.pa).imp ?_, fun E E' ρ S l q => h.mono ρ S _ _ (fun ws S1 q1 => ?_) q⟩
  · rintro D σ H ⟨A, B, ρ, S, E, r, h, a⟩
    refine upA_then r h fun ws S1 A1 vs H1 h1 k1 r1 rws => ?_
    split at h1
    · rename_i w u
      cases rws with
      | cons q1 q2 =>
        obtain ⟨v2, rfl, q3⟩ := RWs.one q2
        exact ⟨_, v2, rfl, a.nx _ _ h1 A1 _ H1 k1 ((r1.set q1).set q3)⟩
    · exact h1.elim
  · split at q1
    · exact l.nx _ _ q1
    · exact q1.elim
/-! ### keywords -/
end Fo
/-! Core15: new lists by + and *. -/
namespace Fo
open PySem PySem.Spec PyProof.Rows L2
variable {K : Kw}
abbrev OpN := D → D → (List D → Prop) → Prop
def nBin (op : OpN) (a b : ME) : MN := fun ρ S k => a ρ S fun x S1 => b ρ S1 fun y S2 => rd S2 x fun dx => rd S2 y fun dy => op dx dy fun ds => k ds S2
def MonoON (op : OpN) : Prop := ∀ a b (k k' : List D → Prop), (∀ l, k l → k' l) → op a b k → op a b k'
theorem nBin_mono {op : OpN} {a b : ME} (m : MonoON op) (ma : MonoE a) (mb : MonoE b) : MonoN (nBin op a b) := fun ρ S Q Q' h q =>
  ma ρ S _ _ (fun x S1 q1 => mb ρ S1 _ _ (fun y S2 q2 => rd_mono (fun dx q3 => rd_mono (fun dy q4 => m _ _ _ _ (fun l => h l _) q4) q3) q2) q1) q
def addN : OpN := fun a b k => match a, b with
  | .lst s, .lst t => s.length + t.length ≤ sizeLine ∧ k (s ++ t)
  | _, _ => False
theorem addN_mono : MonoON addN := by
  intro a b k k' h q
  cases a <;> cases b <;> first | exact q.elim | exact ⟨q.1, h _ q.2⟩
theorem pnm_add {X : Cx} {a b : Expr} {ta tb : ME} {pos : Pos} (ha : PEm X a ta) (hb : PEm X b tb) : PNm X (.BinOp a .Add b pos) (nBin addN ta tb) := by
  refine ⟨(pe_op op_cat ha.pe hb.pe).imp ?_, nBin_mono addN_mono ha.mono hb.mono⟩
  rintro σ H Q ⟨A, B, ρ, S, k, r0, h, af⟩
  refine up_then r0 h fun x S1 A1 vx H1 h1 k1 r1 rx => ?_
  refine up_then r1 h1 fun y S2 A2 vy H2 h2 k2 r2 ry => ?_
  obtain ⟨dx, hx, h3⟩ := rd_ok r2.cells (rx.keep k2) h2
  obtain ⟨dy, hy, h4⟩ := rd_ok r2.cells ry h3
  unfold addN at h4
  split at h4
  · rename_i i j
    obtain ⟨a1, xs, rfl, ra, va⟩ := hx.lst
    obtain ⟨b1, ys, rfl, rb, vb⟩ := hy.lst
    exact ⟨a1, b1, xs, ys, rfl, rfl, ra, rb, by rw [va.length, vb.length]; exact h4.1, fun p hp => af _ _ h4.2 A2 H2 p _ (k1.trans k2) r2.cells (va.append vb) hp⟩
  · exact h4.elim
/-! ### int(x) -/
def int1C : CalD := fun ds S k => match ds with
  | [.int i] => k (.val (.int i)) S
  | [.bl b] => k (.val (.int (if b then 1 else 0))) S
  | _ => False
theorem int1C_mono : MonoC int1C := by
  intro ds S Q Q' h q
  unfold int1C at q ⊢
  split at q <;> first | exact h _ _ q | exact q.elim
theorem int1M : CalM K (fun xs H Q => (∃ i, xs = [.int i] ∧ Q (.int i) H) ∨ ∃ k, xs = [.bl k] ∧ Q (.int (if k then 1 else 0)) H) int1C := by
  intro A B H S ds vs k Q c r h af
  unfold int1C at h
  split at h
  · obtain ⟨v, rfl, r1⟩ := r.one
    rw [r1.int]
    exact .inl ⟨_, rfl, af.int c h⟩
  · obtain ⟨v, rfl, r1⟩ := r.one
    rw [r1.bl]
    exact .inr ⟨_, rfl, af.int c h⟩
  · exact h.elim
end Fo
/-! Core14: the law's def at the caller's. -/
namespace Fo
open PySem PySem.Spec PyProof.Rows L2
variable {K : Kw}
theorem Cells.nil {H : Hp} (hs : SysH H) : Cells K H [] (fun _ => False) [] where
  len := rfl
  at_ := fun n x ob e _ => by simp at e
  inj := fun n m a e _ => by simp at e
  off := fun a e => by cases e
  dom := fun a e => False.elim e
  sys := hs
  soff := fun e => by cases e
theorem RW.scr {H : Hp} {a : Addr} {ns : List Int} (h : SqL K H a (ns.map V.int)) : RW K H [] (fun _ => False) (.val (.scr ns)) (.ref a) := by
  show RV K H _ (.scr ns) _
  unfold RV
  refine ⟨a, rfl, ?_⟩
  rcases h with h | h
  · exact .inl ⟨h, fun z => z.elim (fun q => q) fun q => by cases q⟩
  · exact .inr h
theorem RW.bl_inv {H : Hp} {A : List (Option Addr)} {B : Addr → Prop} {v : V} {b : Bool} (r : RW K H A B (.val (.bl b)) v) : v = .bl b := by
  have r' : RV K H (av A B) (.bl b) v := r
  unfold RV at r'
  exact r'
theorem sp_law_of {t : MF} {H : Hp} {a : Addr} {ns : List Int} (hs : SysH H) (hS : SqL K H a (ns.map V.int)) (h : t [.val (.scr ns)] [] fun w _ => w = .val (.bl true)) : spF K 1 t [.ref a] H (fun v _ => v = .bl true) (fun _ _ _ => False) := by
  refine ⟨[], fun _ => False, [.val (.scr ns)], [], fun w S => w = .val (.bl true), rfl, Cells.nil hs, .cons (RW.scr hS) .nil, h, fun w S' h A' v H' _ _ r => ?_⟩
  subst h
  exact RW.bl_inv r
end Fo
/-! Zip1: zip(.., strict=True): its beginning, one turn of it, its end. Printed by zipgen.py. -/
namespace Fo
open PySem PySem.Spec PyProof.Rows L2
section
variable {prog : Program} {w : World} {A : Around} {E : Value → Shared → Prop} {s : Shared} {it : Addr} {fp : List Addr} {n i : Nat} {P : Nat → Value → Prop} {St : Nat → Heap → Prop}
theorem nextOrEnd_item {Q : Option Value → Shared → Prop} (D : Draws prog w A.in1 it fp n P St) (hi : i < n) (st : St i s.heap)
    (h : ∀ x h' tk, P i x → St (i + 1) h' → Heap.SameBut it s.heap h' → Q (some x) { s with heap := h', toks := tk }) : wpAny (model prog w) A (Builtin.SmallTypes.nextOrEnd (.ref it)) Q E s := by
  unfold Builtin.SmallTypes.nextOrEnd
  refine wpAny_bind (wpAny_attempt (D.of_in1.item i s _ _ hi st fun x h' tk px s' sb => ?_))
  exact wpAny_pure (h x h' tk px s' sb)
theorem nextOrEnd_end {Q : Option Value → Shared → Prop} (D : Draws prog w A.in1 it fp n P St) (st : St n s.heap)
    (h : ∀ h', Heap.ExtBut it s.heap h' → Q none { s with heap := h' }) : wpAny (model prog w) A (Builtin.SmallTypes.nextOrEnd (.ref it)) Q E s := by
  unfold Builtin.SmallTypes.nextOrEnd
  refine wpAny_bind (wpAny_attempt (D.of_in1.done s _ _ st fun h' e eb he => ?_))
  obtain ⟨o, ho, hc⟩ := he
  exact wpAny_bind (wpAny_isInstance (T := "StopIteration") (b := true) ⟨o, ho, hc⟩ isSubtype_stop (wpAny_pure (h h' eb)))
/-- a strict zip's record -/
abbrev SZ (h : Heap) (z TI TO : Addr) (f0 : Value) : Prop :=
  h.get? z = some { cls := .type "zip", dict := none, data := .fields #[f0, .bool false, .bool true, .ref TI, .ref TO], slots := #[] }
theorem stop_all {Q : Fin → Shared → Prop} (hh : A.handled = none) (h : ∀ h' e, (∀ c o, s.heap.get? c = some o → h'.get? c = some o) → (∃ o, h'.get? e = some o ∧ o.cls = .type "StopIteration") → E (.ref e) { s with heap := h' }) :
    wpAny (model prog w) A (Builtin.SmallTypes.stopIteration) Q E s := by
  unfold Builtin.SmallTypes.stopIteration newExc
  simp only [newTuple]
  refine wpAny_bind (wpAny_bind (wpAny_newObj_type (wpAny_bind (m := firstArgMember _ _) (wpAny_of_eq (a := Value.none) (by first | rfl | (simp only [firstArgMember]; rfl)) (wpAny_newObj_type ?_ (by size_fits)))) (by size_fits)))
  simp only [raiseNew]
  refine wpAny_bind (wpAny_handled ?_)
  rw [hh]
  refine wpAny_bind (wpAny_pure (wpAny_throw (h _ _ (fun c o q => ?_) ⟨_, Heap.get?_push_size _ rfl, rfl⟩)))
  exact Heap.get?_push_of_some _ (Heap.get?_push_of_some _ q)
theorem sz_item2 {z TI TO i1 i2 : Addr} {fp1 fp2 : List Addr} {n1 n2 : Nat} {P1 P2 : Nat → Value → Prop} {St1 St2 : Nat → Heap → Prop} {a1 a2 : Value} {Q : Value → Shared → Prop} (S : ZipSep2 z TI TO i1 i2 fp1 fp2) (D1 : Draws prog w A.in1 i1 fp1 n1 P1 St1) (D2 : Draws prog w A.in1 i2 fp2 n2 P2 St2)
    (hz : SZ s.heap z TI TO .none) (hI : IsTupOf2 s.heap TI (.ref i1) (.ref i2)) (hO : IsTupOf2 s.heap TO a1 a2) (t1 : St1 i s.heap) (t2 : St2 i s.heap) (l1 : i < n1) (l2 : i < n2)
    (hQ : ∀ x1 x2 h' tk, P1 i x1 → P2 i x2 → SZ h' z TI TO (rawInt s.heap.objs.size) → IsTupOf2 h' TO x1 x2 → St1 (i + 1) h' → St2 (i + 1) h' → IsTupOf2 h' s.heap.objs.size x1 x2 → h'.objs.size = s.heap.objs.size + 1 →
      (∀ c o, c ≠ z → c ≠ TO → c ≠ i1 → c ≠ i2 → s.heap.get? c = some o → h'.get? c = some o) → Q (.ref s.heap.objs.size) { s with heap := h', toks := tk }) :
    wpAny (model prog w) A (Builtin.«zip.__next__» ⟨[.ref z], []⟩) (fun fin s' => ∃ v, fin = .done (.ret v) ∧ Q v s') E s := by
  obtain ⟨hp, gg, dd, k0, os⟩ := s
  show wpAny (model prog w) A (do
    let u ← field (.ref z) 2
    _) _ _ _
  refine wpAny_bind (wpAny_field hz rfl (x := .bool true) rfl ?_)
  show wpAny (model prog w) A (do
    let u ← field (.ref z) 3
    _) _ _ _
  refine wpAny_bind (wpAny_field hz rfl (x := .ref TI) rfl (wpAny_bind (wpAny_seqItems hI rfl ?_)))
  show wpAny (model prog w) A (do
    let u ← Builtin.SmallTypes.ownedTupleIsFree (.ref z)
    _) _ _ _
  unfold Builtin.SmallTypes.ownedTupleIsFree
  refine wpAny_bind (wpAny_bind (wpAny_field hz rfl (x := .none) rfl (wpAny_pure ?_)))
  simp only [if_true]
  refine wpAny_bind (wpAny_rule (wpAny_bind (wpAny_field hz rfl (x := .ref TO) rfl (wpAny_bind (wpAny_setField_rec hz (by simp) fun b0 z0 c0 => ?_)))))
  replace z0 : SZ b0 z TI TO .ellipsis := z0
  replace c0 : Heap.SameBut z hp b0 := c0
  simp only [List.zipIdx_cons, List.zipIdx_nil, List.forIn_cons, List.forIn_nil]
  refine wpAny_bind ?_
  refine wpAny_bind (wpAny_bind (wpAny_onRaise ?_))
  show wpAny (model prog w) A (Builtin.SmallTypes.nextOrEnd (.ref i1)) _ _ ⟨b0, gg, dd, k0, os⟩
  refine nextOrEnd_item D1 l1 (D1.over t1 c0 S.zf1) fun x1 e1 k1 y1 u1 c1 => ?_
  replace c1 : Heap.SameBut i1 b0 e1 := c1
  have v1 : IsTupOf2 e1 TO a1 a2 := c1.extBut _ _ S.Ti1 (c0.extBut _ _ S.TOz hO)
  refine wpAny_bind (wpAny_seqItems (s := ⟨e1, gg, dd, k1, os⟩) v1 rfl (wpAny_bind (updateSeq_IsTupOf2 (s := ⟨e1, gg, dd, k1, os⟩) v1 fun b1 v1 d1 => ?_)))
  replace v1 : IsTupOf2 b1 TO x1 a2 := v1
  replace d1 : Heap.SameBut TO e1 b1 := d1
  refine wpAny_bind (wpAny_letGo (wpAny_pure ?_))
  refine wpAny_bind (wpAny_bind (wpAny_onRaise ?_))
  show wpAny (model prog w) A (Builtin.SmallTypes.nextOrEnd (.ref i2)) _ _ ⟨b1, gg, dd, k1, os⟩
  refine nextOrEnd_item D2 l2 (D2.over (D2.over (D2.over t2 c0 S.zf2) c1 S.sep1_2) d1 S.Tf2) fun x2 e2 k2 y2 u2 c2 => ?_
  replace c2 : Heap.SameBut i2 b1 e2 := c2
  have v2 : IsTupOf2 e2 TO x1 a2 := c2.extBut _ _ S.Ti2 (v1)
  refine wpAny_bind (wpAny_seqItems (s := ⟨e2, gg, dd, k2, os⟩) v2 rfl (wpAny_bind (updateSeq_IsTupOf2 (s := ⟨e2, gg, dd, k2, os⟩) v2 fun b2 v2 d2 => ?_)))
  replace v2 : IsTupOf2 b2 TO x1 x2 := v2
  replace d2 : Heap.SameBut TO e2 b2 := d2
  refine wpAny_bind (wpAny_letGo (wpAny_pure ?_))
  refine wpAny_pure ?_
  refine wpAny_bind (wpAny_seqItems (s := ⟨b2, gg, dd, k2, os⟩) v2 rfl (wpAny_bind (wpAny_newTuple ?_)))
  have hs : b2.objs.size = hp.objs.size := by rw [d2.1, c2.1, d1.1, c1.1, c0.1]
  have zz : SZ b2 z TI TO .ellipsis := d2.extBut _ _ S.TOz.symm (c2.extBut _ _ S.zi2 (d1.extBut _ _ S.TOz.symm (c1.extBut _ _ S.zi1 (z0))))
  have kk : ∀ c o, c ≠ z → c ≠ TO → c ≠ i1 → c ≠ i2 → hp.get? c = some o → b2.get? c = some o := fun c o qz qT q1 q2 q => d2.extBut _ _ qT (c2.extBut _ _ q2 (d1.extBut _ _ qT (c1.extBut _ _ q1 (c0.extBut _ _ qz q))))
  have w1 : St1 (i + 1) b2 := D1.over (D1.over (D1.over u1 d1 S.Tf1) c2 S.sep2_1) d2 S.Tf1
  have w2 : St2 (i + 1) b2 := D2.over u2 d2 S.Tf2
  have lz : z < b2.objs.size := Heap.lt_size zz
  show wpAny (model prog w) A (do
    let u ← Builtin.SmallTypes.ownedTupleHandOut (.ref z) (.ref b2.objs.size)
    _) _ _ ⟨b2.push { cls := .type "tuple", data := .seq #[x1, x2] }, gg, dd, k2, os⟩
  unfold Builtin.SmallTypes.ownedTupleHandOut
  have r0 : SZ (b2.push { cls := .type "tuple", data := .seq #[x1, x2] }) z TI TO .ellipsis := Heap.get?_push_of_some _ zz
  refine wpAny_bind (wpAny_bind (wpAny_setField_rec r0 (by simp) fun f1 r1 m1 => ?_))
  replace r1 : SZ f1 z TI TO (rawInt b2.objs.size) := r1
  refine wpAny_setField_rec r1 (by simp) fun f2 r2 m2 => ?_
  replace r2 : SZ f2 z TI TO (rawInt b2.objs.size) := r2
  replace m1 : Heap.SameBut z (b2.push { cls := .type "tuple", data := .seq #[x1, x2] }) f1 := m1
  replace m2 : Heap.SameBut z f1 f2 := m2
  have up : ∀ c o, c ≠ z → b2.get? c = some o → f2.get? c = some o := fun c o q e => m2.extBut _ _ q (m1.extBut _ _ q (Heap.get?_push_of_some _ e))
  have nw : IsTupOf2 f2 b2.objs.size x1 x2 := m2.extBut _ _ (Nat.ne_of_gt lz) (m1.extBut _ _ (Nat.ne_of_gt lz) (Heap.get?_push_size _ rfl))
  have ns : f2.objs.size = b2.objs.size + 1 := by rw [m2.1, m1.1, Heap.size_push]
  rw [hs] at r2 nw ns
  refine wpAny_pure ⟨_, rfl, ?_⟩
  show Q (.ref b2.objs.size) ⟨f2, gg, dd, k2, os⟩
  rw [hs]
  exact hQ x1 x2 f2 k2 y1 y2 r2 (up _ _ S.TOz v2) (D1.frame _ _ _ w1 fun c hc o e => up c o (fun q => S.zf1 (q ▸ hc)) e) (D2.frame _ _ _ w2 fun c hc o e => up c o (fun q => S.zf2 (q ▸ hc)) e) nw ns fun c o qz qT q1 q2 q => up c o qz (kk c o qz qT q1 q2 q)
theorem sz_end2 {z TI TO i1 i2 : Addr} {fp1 fp2 : List Addr} {n1 n2 : Nat} {P1 P2 : Nat → Value → Prop} {St1 St2 : Nat → Heap → Prop} {a1 a2 : Value} {Q : Fin → Shared → Prop} (hh : A.handled = none) (S : ZipSep2 z TI TO i1 i2 fp1 fp2) (D1 : Draws prog w A.in1 i1 fp1 n1 P1 St1) (D2 : Draws prog w A.in1 i2 fp2 n2 P2 St2)
    (hz : SZ s.heap z TI TO .none) (hI : IsTupOf2 s.heap TI (.ref i1) (.ref i2)) (hO : IsTupOf2 s.heap TO a1 a2) (t1 : St1 n1 s.heap) (t2 : St2 n2 s.heap)
    (hE : ∀ h' tk e, (∀ c o, c ≠ z → c ≠ TO → c ≠ i1 → c ≠ i2 → s.heap.get? c = some o → h'.get? c = some o) → (∃ o, h'.get? e = some o ∧ o.cls = .type "StopIteration") → E (.ref e) { s with heap := h', toks := tk }) :
    wpAny (model prog w) A (Builtin.«zip.__next__» ⟨[.ref z], []⟩) Q E s := by
  obtain ⟨hp, gg, dd, k0, os⟩ := s
  show wpAny (model prog w) A (do
    let u ← field (.ref z) 2
    _) _ _ _
  refine wpAny_bind (wpAny_field hz rfl (x := .bool true) rfl ?_)
  show wpAny (model prog w) A (do
    let u ← field (.ref z) 3
    _) _ _ _
  refine wpAny_bind (wpAny_field hz rfl (x := .ref TI) rfl (wpAny_bind (wpAny_seqItems hI rfl ?_)))
  show wpAny (model prog w) A (do
    let u ← Builtin.SmallTypes.ownedTupleIsFree (.ref z)
    _) _ _ _
  unfold Builtin.SmallTypes.ownedTupleIsFree
  refine wpAny_bind (wpAny_bind (wpAny_field hz rfl (x := .none) rfl (wpAny_pure ?_)))
  simp only [if_true]
  refine wpAny_bind (wpAny_rule (wpAny_bind (wpAny_field hz rfl (x := .ref TO) rfl (wpAny_bind (wpAny_setField_rec hz (by simp) fun b0 z0 c0 => ?_)))))
  replace z0 : SZ b0 z TI TO .ellipsis := z0
  replace c0 : Heap.SameBut z hp b0 := c0
  simp only [List.zipIdx_cons, List.zipIdx_nil, List.forIn_cons, List.forIn_nil]
  refine wpAny_bind (wpAny_bind (wpAny_bind (wpAny_onRaise ?_)))
  show wpAny (model prog w) A (Builtin.SmallTypes.nextOrEnd (.ref i1)) _ _ ⟨b0, gg, dd, k0, os⟩
  refine nextOrEnd_end D1 (D1.over t1 c0 S.zf1) fun e1 c1 => ?_
  replace c1 : Heap.ExtBut i1 b0 e1 := c1
  have q0 : SZ e1 z TI TO .ellipsis := c1 _ _ S.zi1 z0
  refine wpAny_bind (wpAny_setField_rec (s := ⟨e1, gg, dd, k0, os⟩) q0 (by simp) fun b1 q1 d1 => ?_)
  replace d1 : Heap.SameBut z e1 b1 := d1
  refine wpAny_bind (wpAny_bind ?_)
  simp only [List.drop_succ_cons, List.drop_zero, List.zipIdx_cons, List.zipIdx_nil, List.forIn_cons, List.forIn_nil]
  refine wpAny_bind (wpAny_bind (nextOrEnd_end (s := ⟨b1, gg, dd, k0, os⟩) D2 (D2.over (D2.frame _ _ _ (D2.over t2 c0 S.zf2) fun c hc o q => c1 c o (fun r => S.sep1_2 (r ▸ hc)) q) d1 S.zf2) fun e2 c2 => ?_))
  replace c2 : Heap.ExtBut i2 b1 e2 := c2
  refine wpAny_pure ?_
  refine wpAny_pure (wpAny_bind (wpAny_rule (stop_all (s := ⟨e2, gg, dd, k0, os⟩) hh fun h' e up he => ?_)))
  exact hE h' k0 e (fun c o qz qT q1 q2 q => up c o (c2 _ _ q2 (d1.extBut _ _ qz (c1 _ _ q1 (c0.extBut _ _ qz q))))) he
end
end Fo
/-! Zip2: zip of two, of three (lists, tuples, texts), strict or not: the walk. Printed by zipgen2.py. -/
namespace Fo
open PySem PySem.Spec PyProof.Rows L2
theorem vals_back {xs : List V} {us : List Value} {i : Nat} {u : Value} (r : Vals xs us) (h : us[i]? = some u) : ∃ x, xs[i]? = some x ∧ RelV x u := by
  have hl : i < xs.length := by rw [r.length]; exact (List.getElem?_eq_some_iff.mp h).1
  obtain ⟨u2, e, q⟩ := r.get (List.getElem?_eq_getElem hl)
  rw [h] at e
  cases e
  exact ⟨_, List.getElem?_eq_getElem hl, q⟩
theorem neA {a b : Nat} (h : a ≠ b) : @Ne Addr a b := h
/-- what is zipped -/
inductive Sc where
  | l (a : Addr)
  | t (a : Addr)
  | s (z : Str)
def Sc.v : Sc → V
  | .l a => .ref a
  | .t a => .ref a
  | .s z => .str z
def Sc.has (K : PySem.W.Frag) (H : Hp) : Sc → List V → Prop
  | .l a, xs => SqL K H a xs
  | .t a, xs => SqT K H a xs
  | .s z, xs => xs = z.cps.toList.map fun c => V.str ⟨#[c]⟩
def Sc.at_ : Sc → Addr → Nat → Heap → Prop
  | .l a, it, i, h => h.IsListIter it a i
  | .t a, it, i, h => h.IsTupleIter it a i
  | .s z, it, i, h => ∃ u, h.IsStrIter it (strIterType z) z u i
def Sc.src : Sc → Addr → Prop
  | .l a, b => b = a
  | .t a, b => b = a
  | .s _, _ => False
/-- what iter(..) makes of it -/
def Sc.ob : Sc → Value → Obj
  | .l a, _ => { cls := .type "list_iterator", data := .fields #[.ref a, .int 0 0] }
  | .t a, _ => { cls := .type "tuple_iterator", data := .fields #[.ref a, .int 0 0] }
  | .s z, v => { cls := .type (strIterType z), data := .fields #[v, .int 0 0] }
theorem Sc.at_keep {c : Sc} {it : Addr} {i : Nat} {h h' : Heap} (st : c.at_ it i h) (k : ∀ o, h.get? it = some o → h'.get? it = some o) : c.at_ it i h' := by
  cases c with
  | l a => exact Heap.IsListIter.at st k
  | t a => exact Heap.IsTupleIter.at st k
  | s z =>
    obtain ⟨u, o, e, r⟩ := st
    exact ⟨u, o, k o e, r⟩
theorem Sc.at_obj {c : Sc} {it : Addr} {i : Nat} {h : Heap} (st : c.at_ it i h) : ∃ o, h.get? it = some o ∧ ∀ v, o.data ≠ .cell v := by
  cases c with
  | l a =>
    obtain ⟨o, e, _, d⟩ := st
    exact ⟨o, e, fun v z => by rw [d] at z; cases z⟩
  | t a =>
    obtain ⟨o, e, _, d⟩ := st
    exact ⟨o, e, fun v z => by rw [d] at z; cases z⟩
  | s z =>
    obtain ⟨u, o, e, _, d⟩ := st
    exact ⟨o, e, fun v q => by rw [d] at q; cases q⟩
section
variable {X : Cx} {pins : List (Addr × Obj)} {σ : L2.St} {H : Hp} {s : Shared} {xs : List V}
theorem Sc.draw (I : Inv X pins σ H s) {c : Sc} (hx : c.has X.K H xs) {it : Addr} {i : Nat} (st : c.at_ it i s.heap) (hm : ∀ b, c.src b → b ≠ it) (A : Around) (hh : A.handled = none) :
    ∃ (fp : List Addr) (P : Nat → Value → Prop) (St : Nat → Heap → Prop), Draws X.prog X.w A it fp xs.length P St ∧ St i s.heap ∧ (∀ j v, P j v → ∃ x, xs[j]? = some x ∧ RelV x v) ∧ (∀ j h, St j h → c.at_ it j h) ∧
      it ∈ fp ∧ ∀ b ∈ fp, b = it ∨ c.src b := by
  cases c with
  | l a =>
    obtain ⟨its, rv, p, _⟩ := I.list hx
    have D := Draws.list (prog := X.prog) (w := X.w) hh it a (hm a rfl) its.toArray
    rw [List.size_toArray, ← rv.length] at D
    refine ⟨_, _, _, D, ⟨st, p.isList⟩, fun j v q => ?_, fun j h q => q.1, by simp, fun b hb => by simpa [Sc.src] using hb⟩
    obtain ⟨x, e, r⟩ := vals_back rv (show its[j]? = some v by simpa using q)
    exact ⟨x, e, r⟩
  | t a =>
    obtain ⟨its, rv, p, _⟩ := I.tuple hx
    have D := Draws.tuple (prog := X.prog) (w := X.w) hh it a (hm a rfl) its.toArray
    rw [List.size_toArray, ← rv.length] at D
    refine ⟨_, _, _, D, ⟨st, show s.heap.IsTuple a its.toArray from p⟩, fun j v q => ?_, fun j h q => q.1, by simp, fun b hb => by simpa [Sc.src] using hb⟩
    obtain ⟨x, e, r⟩ := vals_back rv (show its[j]? = some v by simpa using q)
    exact ⟨x, e, r⟩
  | s z =>
    obtain ⟨u, st⟩ := st
    have hx : xs = z.cps.toList.map fun c => V.str ⟨#[c]⟩ := hx
    subst hx
    have D := Draws.text (prog := X.prog) (w := X.w) hh it z u
    rw [show z.cps.size = (z.cps.toList.map fun c => V.str ⟨#[c]⟩).length by simp] at D
    refine ⟨_, _, _, D, st, fun j v q => ?_, fun j h q => ⟨u, q⟩, by simp, fun b hb => by simpa [Sc.src] using hb⟩
    obtain ⟨c, u2, e, rfl⟩ := q
    exact ⟨.str ⟨#[c]⟩, by simp [e], u2, rfl⟩
theorem Sc.inj (I : Inv X pins σ H s) {c : Sc} {ys : List V} (h1 : c.has X.K H xs) (h2 : c.has X.K H ys) : xs = ys := by
  cases c with
  | l a => exact I.list_inj h1 h2
  | t a => exact I.tuple_inj h1 h2
  | s z => exact Eq.trans (show xs = _ from h1) (Eq.symm (show ys = _ from h2))
end
abbrev ZR (h : Heap) (z TI TO : Addr) (f0 : Value) (b : Bool) : Prop :=
  h.get? z = some { cls := .type "zip", dict := none, data := .fields #[f0, .bool false, .bool b, .ref TI, .ref TO], slots := #[] }
section
variable {prog : Program} {w : World} {A : Around} {E : Value → Shared → Prop} {s : Shared} {z TI TO T : Addr} {b : Bool} {f0 : Value}
theorem go_zr {elts : List Expr} {n : Nat} {pos : Pos} {Q : Unit → Shared → Prop} (hz : ZR s.heap z TI TO (rawInt T) b) (hQ : ∀ h', ZR h' z TI TO .none b → Heap.SameBut z s.heap h' → Q () { s with heap := h' }) :
    wpAny (model prog w) A (letOwnedTupleGo (.Tuple elts n pos) (.ref z) (.ref T)) Q E s := by
  unfold letOwnedTupleGo
  refine wpAny_bind (wpAny_load hz ?_)
  have e : (["enumerate", "zip", "dict_itemiterator", "dict_reverseitemiterator", "odict_iterator", "itertools.zip_longest", "itertools.pairwise"].contains "zip" && (#[rawInt T, .bool false, .bool b, .ref TI, .ref TO] : Array Value)[0]? == some (rawInt T)) = true := by simp
  show wpAny (model prog w) A (if (List.contains _ "zip" && (#[rawInt T, .bool false, .bool b, .ref TI, .ref TO] : Array Value)[0]? == some (rawInt T)) = true then _ else _) Q E s
  rw [if_pos e]
  refine wpAny_bind (wpAny_rule ?_)
  exact wpAny_setField_rec hz (by simp) fun h' q sb => hQ h' q sb
theorem iter_zr {Q : Value → Shared → Prop} (hz : ZR s.heap z TI TO f0 b) (h : Q (.ref z) s) : wpAny (model prog w) A (pyIter (.ref z)) Q E s := by
  have T : s.TypeIs (.ref z) "zip" := ⟨_, hz, rfl⟩
  refine wpAny_pyIter_slot T F.slot_zip_iter (wpAny_call_entry F.slot_zip_iter T F.entry_zip_iter (?_ : wpAny (model prog w) _ (ret (.ref z)) _ _ s) (F.args_zip_iter_1 _))
  exact wpAny_pure ⟨_, rfl, "zip", _, T, F.slot_zip_next.lookup, h⟩
theorem next_zr {Q : Option Value → Shared → Prop} (hz : ZR s.heap z TI TO f0 b)
    (h : wpAny (model prog w) A.in1 (Builtin.«zip.__next__» ⟨[.ref z], []⟩) (fun fin s' => ∃ v, fin = .done (.ret v) ∧ Q (some v) s') (fun e s' => (∃ a, e = .ref a ∧ ∃ o, s'.heap.get? a = some o ∧ o.cls = .type "StopIteration") ∧ Q none s') s) : wpAny (model prog w) A (pyNext (.ref z)) Q E s := by
  have T : s.TypeIs (.ref z) "zip" := ⟨_, hz, rfl⟩
  unfold pyNext
  refine wpAny_bind (wpAny_attempt (wpAny_callSpecial?_slot (name := Str.ofString "__next__") T F.slot_zip_next (wpAny_call_entry F.slot_zip_next T F.entry_zip_next (wpAny_mono h (fun fin s' q => ?_) fun e s' q => ?_) (F.args_zip_next_1 _))))
  · obtain ⟨v, rfl, q⟩ := q
    exact ⟨v, rfl, wpAny_pure q⟩
  · obtain ⟨⟨a, rfl, o, e1, e2⟩, q⟩ := q
    exact wpAny_bind (wpAny_isInstance (T := "StopIteration") (b := true) ⟨o, e1, e2⟩ isSubtype_stop (wpAny_pure q))
end
/-- 2 things as they stand at each turn, the items in new tuples -/
def ItZ2 (K : PySem.W.Frag) (b : Bool) (c1 c2 : Sc) : It :=
  ⟨fun i H => ∃ (xs1 xs2 : List V) (x1 x2 : V), c1.has K H xs1 ∧ c2.has K H xs2 ∧ xs1[i]? = some x1 ∧ xs2[i]? = some x2,
    fun i H v H' => ∃ (T : Addr) (x1 x2 : V), v = .ref T ∧ H T = none ∧ H' = upd H T (.tup [x1, x2]) ∧ (∀ xs, c1.has K H xs → xs[i]? = some x1) ∧ (∀ xs, c2.has K H xs → xs[i]? = some x2),
    fun i H => ∃ (xs1 xs2 : List V), c1.has K H xs1 ∧ c2.has K H xs2 ∧ i ≤ xs1.length ∧ i ≤ xs2.length ∧ (i = xs1.length ∨ i = xs2.length) ∧ (b = true → i = xs1.length ∧ i = xs2.length)⟩
theorem turn_zz2 {P : Program} {w : World} {K : PySem.W.Frag} {elts : List Expr} {kk : Nat} {tpos : Pos} (b : Bool) (c1 c2 : Sc) (m : Nat) (lo1 : ∀ a, c1.src a → a < m) (lo2 : ∀ a, c2.src a → a < m) :
    Turn P w K (.Tuple elts kk tpos) (ItZ2 K b c1 c2) [m + 4, m + 2, m + 3, m, m + 1] (m + 4) (fun i h => ZR h (m + 4) (m + 2) (m + 3) .none b ∧ IsTupOf2 h (m + 2) (.ref m) (.ref (m + 1)) ∧ (∃ y1 y2, IsTupOf2 h (m + 3) y1 y2) ∧ c1.at_ m i h ∧ c2.at_ (m + 1) i h) where
  mem := by simp
  obj := fun i h st c hc => by
    obtain ⟨hz, hI, ⟨y1, y2, hO⟩, t1, t2⟩ := st
    have e : c = m + 4 ∨ c = m + 2 ∨ c = m + 3 ∨ c = m ∨ c = m + 1 := by simpa using hc
    rcases e with rfl | rfl | rfl | rfl | rfl
    · exact ⟨_, hz, fun v q => (by cases q)⟩
    · exact ⟨_, hI, fun v q => (by cases q)⟩
    · exact ⟨_, hO, fun v q => (by cases q)⟩
    · exact Sc.at_obj t1
    · exact Sc.at_obj t2
  keep := fun i h h' st k => by
    obtain ⟨hz, hI, ⟨y1, y2, hO⟩, t1, t2⟩ := st
    exact ⟨k _ (by simp) _ hz, k _ (by simp) _ hI, ⟨y1, y2, k _ (by simp) _ hO⟩, Sc.at_keep t1 fun o q => k _ (by simp) o q, Sc.at_keep t2 fun o q => k _ (by simp) o q⟩
  item := by
    intro X hP hw hK hc i pins s σ H E I hf st hg
    subst hP hw hK
    obtain ⟨hz, hI, ⟨y1, y2, hO⟩, t1, t2⟩ := st
    obtain ⟨xs1, xs2, x1, x2, hx1, hx2, hi1, hi2⟩ := hg
    have hh0 : X.A.handled = none := I.ok.hd hc
    have hh1 : X.A.in1.handled = none := hh0
    have hh2 : X.A.in1.in1.handled = none := hh0
    refine next_zr hz ?_
    cases b with
    | false =>
      obtain ⟨fp1, P1, St1, D1, st1, px1, pa1, pm1, pf1⟩ := Sc.draw I hx1 t1 (fun a ha => Nat.ne_of_lt (Nat.lt_of_lt_of_le (lo1 a ha) (by omega))) X.A.in1 hh1
      have nf1 : ∀ q, m ≤ q → q ≠ m → q ∉ fp1 := fun q h1 h2 h3 => by
        rcases pf1 q h3 with e | e
        · exact h2 e
        · exact absurd (lo1 q e) (Nat.not_lt_of_le h1)
      obtain ⟨fp2, P2, St2, D2, st2, px2, pa2, pm2, pf2⟩ := Sc.draw I hx2 t2 (fun a ha => Nat.ne_of_lt (Nat.lt_of_lt_of_le (lo2 a ha) (by omega))) X.A.in1 hh1
      have nf2 : ∀ q, m ≤ q → q ≠ (m + 1) → q ∉ fp2 := fun q h1 h2 h3 => by
        rcases pf2 q h3 with e | e
        · exact h2 e
        · exact absurd (lo2 q e) (Nat.not_lt_of_le h1)
      have S : ZipSep2 (m + 4) (m + 2) (m + 3) m (m + 1) fp1 fp2 := ⟨neA (by omega), neA (by omega), neA (by omega), neA (by omega), pm1, nf1 _ (by omega) (by omega), nf1 _ (by omega) (by omega), neA (by omega), pm2, nf2 _ (by omega) (by omega), nf2 _ (by omega) (by omega), nf2 _ (by omega) (by omega), nf1 _ (by omega) (by omega)⟩
      refine wpAny_mono (zipD2_next_item (E := fun _ _ => False) S D1 D2 hz hI hO st1 st2 (List.getElem?_eq_some_iff.mp hi1).1 (List.getElem?_eq_some_iff.mp hi2).1 fun w1 w2 h' tk p1 p2 z1 o1 s1 s2 nw ns up => ?_) (fun fin s' q => q) fun e s' q => ?_
      rotate_left
      · exact (q : False).elim
      obtain ⟨v1, e1, r1⟩ := px1 _ _ p1
      rw [hi1] at e1
      cases e1
      obtain ⟨v2, e2, r2⟩ := px2 _ _ p2
      rw [hi2] at e2
      cases e2
      have hl : m + 4 < s.heap.objs.size := Heap.lt_size hz
      have old : ∀ c o, c ∉ [m + 4, m + 2, m + 3, m, m + 1] → s.heap.get? c = some o → h'.get? c = some o := fun c o q e => up c o (fun r => q (by simp [r])) (fun r => q (by simp [r])) (fun r => q (by simp [r])) (fun r => q (by simp [r])) e
      refine ⟨_, rfl, go_zr z1 fun h2 z2 sb => ?_⟩
      have nw2 : h2.get? s.heap.objs.size = some { cls := .type "tuple", data := .seq #[w1, w2] } := (sb.2 _ (Nat.ne_of_gt hl)).trans nw
      have new : ObjOk X.prog X.w (upd H s.heap.objs.size (.tup [x1, x2])) h2 s.heap.objs.size (.tup [x1, x2]) :=
        ⟨(by show 2 ≤ sizeLine; decide), [w1, w2], .cons r1 (.cons r2 (.nil)), ⟨_, nw2, rfl, _, rfl⟩⟩
      have I1 : Inv X pins σ (upd H s.heap.objs.size (.tup [x1, x2])) { s with heap := h2, toks := tk } :=
        I.turnedNew (ch := [m + 4, m + 2, m + 3, m, m + 1]) (fun c o q e => (sb.2 c (fun r => q (by simp [r]))).trans (old c o q e)) hf (Nat.le_refl _) new
      refine ⟨.ref s.heap.objs.size, _, I1, rfl, ⟨_, x1, x2, rfl, I.hok.fresh (Nat.le_refl _), rfl, (fun l hl2 => by rw [Sc.inj I hl2 hx1]; exact hi1), (fun l hl2 => by rw [Sc.inj I hl2 hx2]; exact hi2)⟩, ⟨z2, ?_, ⟨w1, w2, ?_⟩, Sc.at_keep (pa1 _ _ s1) fun o q => (sb.2 _ (neA (by omega))).trans q, Sc.at_keep (pa2 _ _ s2) fun o q => (sb.2 _ (neA (by omega))).trans q⟩, fun c hcm => ?_⟩
      · exact (sb.2 _ (neA (by omega))).trans (up _ _ (neA (by omega)) (neA (by omega)) (neA (by omega)) (neA (by omega)) hI)
      · exact (sb.2 _ (neA (by omega))).trans o1
      · have lt : c < s.heap.objs.size := by
          have e : c = m + 4 ∨ c = m + 2 ∨ c = m + 3 ∨ c = m ∨ c = m + 1 := by simpa using hcm
          rcases e with rfl | rfl | rfl | rfl | rfl <;> exact Nat.lt_of_le_of_lt (by omega) hl
        rw [upd_ne (Nat.ne_of_lt lt)]
        exact (hf c hcm).1
    | true =>
      obtain ⟨fp1, P1, St1, D1, st1, px1, pa1, pm1, pf1⟩ := Sc.draw I hx1 t1 (fun a ha => Nat.ne_of_lt (Nat.lt_of_lt_of_le (lo1 a ha) (by omega))) X.A.in1.in1 hh2
      have nf1 : ∀ q, m ≤ q → q ≠ m → q ∉ fp1 := fun q h1 h2 h3 => by
        rcases pf1 q h3 with e | e
        · exact h2 e
        · exact absurd (lo1 q e) (Nat.not_lt_of_le h1)
      obtain ⟨fp2, P2, St2, D2, st2, px2, pa2, pm2, pf2⟩ := Sc.draw I hx2 t2 (fun a ha => Nat.ne_of_lt (Nat.lt_of_lt_of_le (lo2 a ha) (by omega))) X.A.in1.in1 hh2
      have nf2 : ∀ q, m ≤ q → q ≠ (m + 1) → q ∉ fp2 := fun q h1 h2 h3 => by
        rcases pf2 q h3 with e | e
        · exact h2 e
        · exact absurd (lo2 q e) (Nat.not_lt_of_le h1)
      have S : ZipSep2 (m + 4) (m + 2) (m + 3) m (m + 1) fp1 fp2 := ⟨neA (by omega), neA (by omega), neA (by omega), neA (by omega), pm1, nf1 _ (by omega) (by omega), nf1 _ (by omega) (by omega), neA (by omega), pm2, nf2 _ (by omega) (by omega), nf2 _ (by omega) (by omega), nf2 _ (by omega) (by omega), nf1 _ (by omega) (by omega)⟩
      refine wpAny_mono (sz_item2 (E := fun _ _ => False) S D1 D2 hz hI hO st1 st2 (List.getElem?_eq_some_iff.mp hi1).1 (List.getElem?_eq_some_iff.mp hi2).1 fun w1 w2 h' tk p1 p2 z1 o1 s1 s2 nw ns up => ?_) (fun fin s' q => q) fun e s' q => ?_
      rotate_left
      · exact (q : False).elim
      obtain ⟨v1, e1, r1⟩ := px1 _ _ p1
      rw [hi1] at e1
      cases e1
      obtain ⟨v2, e2, r2⟩ := px2 _ _ p2
      rw [hi2] at e2
      cases e2
      have hl : m + 4 < s.heap.objs.size := Heap.lt_size hz
      have old : ∀ c o, c ∉ [m + 4, m + 2, m + 3, m, m + 1] → s.heap.get? c = some o → h'.get? c = some o := fun c o q e => up c o (fun r => q (by simp [r])) (fun r => q (by simp [r])) (fun r => q (by simp [r])) (fun r => q (by simp [r])) e
      refine ⟨_, rfl, go_zr z1 fun h2 z2 sb => ?_⟩
      have nw2 : h2.get? s.heap.objs.size = some { cls := .type "tuple", data := .seq #[w1, w2] } := (sb.2 _ (Nat.ne_of_gt hl)).trans nw
      have new : ObjOk X.prog X.w (upd H s.heap.objs.size (.tup [x1, x2])) h2 s.heap.objs.size (.tup [x1, x2]) :=
        ⟨(by show 2 ≤ sizeLine; decide), [w1, w2], .cons r1 (.cons r2 (.nil)), ⟨_, nw2, rfl, _, rfl⟩⟩
      have I1 : Inv X pins σ (upd H s.heap.objs.size (.tup [x1, x2])) { s with heap := h2, toks := tk } :=
        I.turnedNew (ch := [m + 4, m + 2, m + 3, m, m + 1]) (fun c o q e => (sb.2 c (fun r => q (by simp [r]))).trans (old c o q e)) hf (Nat.le_refl _) new
      refine ⟨.ref s.heap.objs.size, _, I1, rfl, ⟨_, x1, x2, rfl, I.hok.fresh (Nat.le_refl _), rfl, (fun l hl2 => by rw [Sc.inj I hl2 hx1]; exact hi1), (fun l hl2 => by rw [Sc.inj I hl2 hx2]; exact hi2)⟩, ⟨z2, ?_, ⟨w1, w2, ?_⟩, Sc.at_keep (pa1 _ _ s1) fun o q => (sb.2 _ (neA (by omega))).trans q, Sc.at_keep (pa2 _ _ s2) fun o q => (sb.2 _ (neA (by omega))).trans q⟩, fun c hcm => ?_⟩
      · exact (sb.2 _ (neA (by omega))).trans (up _ _ (neA (by omega)) (neA (by omega)) (neA (by omega)) (neA (by omega)) hI)
      · exact (sb.2 _ (neA (by omega))).trans o1
      · have lt : c < s.heap.objs.size := by
          have e : c = m + 4 ∨ c = m + 2 ∨ c = m + 3 ∨ c = m ∨ c = m + 1 := by simpa using hcm
          rcases e with rfl | rfl | rfl | rfl | rfl <;> exact Nat.lt_of_le_of_lt (by omega) hl
        rw [upd_ne (Nat.ne_of_lt lt)]
        exact (hf c hcm).1
  done := by
    intro X hP hw hK hc i pins s σ H E I hf st hg
    subst hP hw hK
    obtain ⟨hz, hI, ⟨y1, y2, hO⟩, t1, t2⟩ := st
    obtain ⟨xs1, xs2, hx1, hx2, hi1, hi2, he, hs⟩ := hg
    have hh0 : X.A.handled = none := I.ok.hd hc
    have hh1 : X.A.in1.handled = none := hh0
    have hh2 : X.A.in1.in1.handled = none := hh0
    refine next_zr hz ?_
    cases b with
    | false =>
      obtain ⟨fp1, P1, St1, D1, st1, px1, pa1, pm1, pf1⟩ := Sc.draw I hx1 t1 (fun a ha => Nat.ne_of_lt (Nat.lt_of_lt_of_le (lo1 a ha) (by omega))) X.A.in1 hh1
      have nf1 : ∀ q, m ≤ q → q ≠ m → q ∉ fp1 := fun q h1 h2 h3 => by
        rcases pf1 q h3 with e | e
        · exact h2 e
        · exact absurd (lo1 q e) (Nat.not_lt_of_le h1)
      obtain ⟨fp2, P2, St2, D2, st2, px2, pa2, pm2, pf2⟩ := Sc.draw I hx2 t2 (fun a ha => Nat.ne_of_lt (Nat.lt_of_lt_of_le (lo2 a ha) (by omega))) X.A.in1 hh1
      have nf2 : ∀ q, m ≤ q → q ≠ (m + 1) → q ∉ fp2 := fun q h1 h2 h3 => by
        rcases pf2 q h3 with e | e
        · exact h2 e
        · exact absurd (lo2 q e) (Nat.not_lt_of_le h1)
      have S : ZipSep2 (m + 4) (m + 2) (m + 3) m (m + 1) fp1 fp2 := ⟨neA (by omega), neA (by omega), neA (by omega), neA (by omega), pm1, nf1 _ (by omega) (by omega), nf1 _ (by omega) (by omega), neA (by omega), pm2, nf2 _ (by omega) (by omega), nf2 _ (by omega) (by omega), nf2 _ (by omega) (by omega), nf1 _ (by omega) (by omega)⟩
      exact zipD2_next_end S D1 D2 hz hI hO st1 st2 hi1 hi2 he (fun h' tk e up he => ⟨⟨e, rfl, he⟩, rfl, I.turnedL (ch := [m + 4, m + 2, m + 3, m, m + 1]) (fun c o q e => up c o (fun r => q (by simp [r])) (fun r => q (by simp [r])) (fun r => q (by simp [r])) (fun r => q (by simp [r])) e) hf⟩)
    | true =>
      obtain ⟨fp1, P1, St1, D1, st1, px1, pa1, pm1, pf1⟩ := Sc.draw I hx1 t1 (fun a ha => Nat.ne_of_lt (Nat.lt_of_lt_of_le (lo1 a ha) (by omega))) X.A.in1.in1 hh2
      have nf1 : ∀ q, m ≤ q → q ≠ m → q ∉ fp1 := fun q h1 h2 h3 => by
        rcases pf1 q h3 with e | e
        · exact h2 e
        · exact absurd (lo1 q e) (Nat.not_lt_of_le h1)
      obtain ⟨fp2, P2, St2, D2, st2, px2, pa2, pm2, pf2⟩ := Sc.draw I hx2 t2 (fun a ha => Nat.ne_of_lt (Nat.lt_of_lt_of_le (lo2 a ha) (by omega))) X.A.in1.in1 hh2
      have nf2 : ∀ q, m ≤ q → q ≠ (m + 1) → q ∉ fp2 := fun q h1 h2 h3 => by
        rcases pf2 q h3 with e | e
        · exact h2 e
        · exact absurd (lo2 q e) (Nat.not_lt_of_le h1)
      have S : ZipSep2 (m + 4) (m + 2) (m + 3) m (m + 1) fp1 fp2 := ⟨neA (by omega), neA (by omega), neA (by omega), neA (by omega), pm1, nf1 _ (by omega) (by omega), nf1 _ (by omega) (by omega), neA (by omega), pm2, nf2 _ (by omega) (by omega), nf2 _ (by omega) (by omega), nf2 _ (by omega) (by omega), nf1 _ (by omega) (by omega)⟩
      obtain ⟨g1, g2⟩ := hs rfl
      exact sz_end2 hh1 S D1 D2 hz hI hO (by rw [← g1]; exact st1) (by rw [← g2]; exact st2) (fun h' tk e up he => ⟨⟨e, rfl, he⟩, rfl, I.turnedL (ch := [m + 4, m + 2, m + 3, m, m + 1]) (fun c o q e => up c o (fun r => q (by simp [r])) (fun r => q (by simp [r])) (fun r => q (by simp [r])) (fun r => q (by simp [r])) e) hf⟩)
  self := fun A i s Q E st h => iter_zr st.1 h
end Fo
/-! Zip3: zip: the rules, the mirrors. Printed by zipgen3.py. -/
namespace Fo
open PySem PySem.Spec PyProof.Rows L2
theorem Sc.begins {X : Cx} {pins : List (Addr × Obj)} {σ : L2.St} {H : Hp} {s : Shared} {xs : List V} (I : Inv X pins σ H s) {c : Sc} (hx : c.has X.K H xs) {u : Value} (r : RelV c.v u) :
    ∃ G : Heap → Prop, Begins u (c.ob u) G ∧ G s.heap ∧ (∀ b, c.src b → b < s.heap.objs.size) ∧ ∀ (h : Heap) (it : Addr), h.get? it = some (c.ob u) → c.at_ it 0 h := by
  cases c with
  | l a =>
    obtain ⟨its, rv, p, _⟩ := I.list hx
    obtain rfl : u = Value.ref a := r
    refine ⟨_, begins_list a its.toArray, p.isList, fun b e => ?_, fun h it e => ⟨_, e, rfl, rfl⟩⟩
    obtain ⟨o, _, q, _⟩ := p
    rw [show b = a from e]
    exact Heap.lt_size q
  | t a =>
    obtain ⟨its, rv, p, _⟩ := I.tuple hx
    obtain rfl : u = Value.ref a := r
    have p2 : s.heap.IsTuple a its.toArray := p
    refine ⟨_, begins_tuple a its.toArray, p2, fun b e => ?_, fun h it e => ⟨_, e, rfl, rfl⟩⟩
    obtain ⟨o, q, _⟩ := p2
    rw [show b = a from e]
    exact Heap.lt_size q
  | s z =>
    obtain ⟨t, rfl⟩ : ∃ t, u = Value.str z t := r
    exact ⟨_, begins_text z t, trivial, fun b e => False.elim e, fun h it e => ⟨t, _, e, rfl, rfl⟩⟩
def tiZ2 (K : PySem.W.Frag) (b : Bool) (t : TA) : TI := fun σ H R => t σ H fun vs H1 => ∃ c1 c2 : Sc, vs = [c1.v, c2.v] ∧ (∃ xs, c1.has K H1 xs) ∧ (∃ xs, c2.has K H1 xs) ∧ R (ItZ2 K b c1 c2) H1
/-- a call of zip begins its walk -/
theorem begun2 {X : Cx} {pins : List (Addr × Obj)} {σ : L2.St} {H1 : Hp} {s1 : Shared} {R : It → Hp → Prop} {elts : List Expr} {kk : Nat} {tpos : Pos} (b : Bool) {c1 c2 : Sc} (I1 : Inv X pins σ H1 s1) (lo1 : ∀ a, c1.src a → a < s1.heap.objs.size) (lo2 : ∀ a, c2.src a → a < s1.heap.objs.size) {h' : Heap}
    (z : ZR h' (s1.heap.objs.size + 4) (s1.heap.objs.size + 2) (s1.heap.objs.size + 3) .none b) (zi : IsTupOf2 h' (s1.heap.objs.size + 2) (.ref s1.heap.objs.size) (.ref (s1.heap.objs.size + 1))) (zo : IsTupOf2 h' (s1.heap.objs.size + 3) .none .none) (a1 : c1.at_ s1.heap.objs.size 0 h') (a2 : c2.at_ (s1.heap.objs.size + 1) 0 h') (up : ∀ c o, s1.heap.get? c = some o → h'.get? c = some o)
    (q : R (ItZ2 X.K b c1 c2) H1) : PIE X pins σ (.Tuple elts kk tpos) R (.ref (s1.heap.objs.size + 4)) { s1 with heap := h' } := by
  have I2 : Inv X pins σ H1 { s1 with heap := h' } := I1.kept (t' := s1.toks) up
  refine ⟨_, _, _, _, H1, rfl, I2, turn_zz2 b c1 c2 s1.heap.objs.size lo1 lo2, ⟨z, zi, ⟨_, _, zo⟩, a1, a2⟩, fun c hc => ?_, q⟩
  have ge : s1.heap.objs.size ≤ c := by
    have e : c = s1.heap.objs.size + 4 ∨ c = s1.heap.objs.size + 2 ∨ c = s1.heap.objs.size + 3 ∨ c = s1.heap.objs.size ∨ c = s1.heap.objs.size + 1 := by simpa using hc
    rcases e with rfl | rfl | rfl | rfl | rfl <;> first | exact Nat.le_refl _ | exact Nat.le_add_right _ _
  exact I1.fpOk ge (I1.hok.fresh ge)
theorem vals2 {x1 x2 : V} {us : List Value} (r : Vals [x1, x2] us) : ∃ u1 u2 : Value, us = [u1, u2] ∧ RelV x1 u1 ∧ RelV x2 u2 := by
  cases r with
  | cons a1 r => 
    cases r with
    | cons a2 r => 
      cases r
      exact ⟨_, _, rfl, a1, a2⟩
theorem pi_zz2 {X : Cx} {e1 e2 : Expr} {ta : TA} {p pos tpos : Pos} {elts : List Expr} {kk : Nat} (hg : Gl X "zip") (hm : X.mg "zip" = none) (ha : PA X [e1, e2] ta)
    (hs : starEach [e1, e2] X.env = (false, eval e1 X.env) :: starEach [e2] X.env := by rfl) (hpl : (backTo pos (starEach [e2] X.env)).any (·.1) = false := by rfl) :
    PI X (.Tuple elts kk tpos) (.Call (.Name "zip" p) [e1, e2] [] pos) (tiZ2 X.K false ta) := by
  refine ⟨fun pins s σ H R I h => Call_ (ld_blt I hg hm PyProof.Rows.boot_zip (PyProof.Rows.callWith_type1 (thn (ha.run pos pins s σ H _ I h) fun us s1 h1 => ?_) hs hpl))⟩
  obtain ⟨vs, H1, I1, r1, q1⟩ := h1
  obtain ⟨c1, c2, ev, ⟨xs1, hx1⟩, ⟨xs2, hx2⟩, q⟩ := q1
  subst ev
  obtain ⟨u1, u2, rfl, ru1, ru2⟩ := vals2 r1
  obtain ⟨G1, B1, g1, lo1, on1⟩ := Sc.begins I1 hx1 ru1
  obtain ⟨G2, B2, g2, lo2, on2⟩ := Sc.begins I1 hx2 ru2
  refine zip_begins2 B1 B2 g1 g2 fun h' z zi zo w1 w2 _ up => iter_zr (b := false) z ?_
  exact begun2 false I1 lo1 lo2 z zi zo (on1 _ _ w1) (on2 _ _ w2) up q
end Fo
/-! Zip4: zip's mirrors. -/
namespace Fo
open PySem PySem.Spec PyProof.Rows L2
variable {K : Kw}
def seqW (w : W) (k : List D → Prop) : Prop := match w with
  | .val (.lst l) => k l
  | .val (.tup l) => k l
  | .val (.str l) => k (signs l)
  | _ => False
theorem seqW_mono {w : W} {k k' : List D → Prop} (h : ∀ l, k l → k' l) (q : seqW w k) : seqW w k' := by
  unfold seqW at q ⊢
  split at q <;> first | exact h _ q | exact q.elim
/-- what stands as long as it is kept off -/
theorem seqW_ok {H : Hp} {A : List (Option Addr)} {B : Addr → Prop} {w : W} {v : V} {k : List D → Prop} (r : RW K H A B w v) (h : seqW w k) :
    ∃ (c : Sc) (l : List D) (xs : List V), v = c.v ∧ k l ∧ RVs K H (av A B) l xs ∧ ∀ A' H', Keep A H A' H' → c.has K H' xs := by
  unfold seqW at h
  split at h
  · rename_i l
    obtain ⟨a, vs, rfl, e, n, rv⟩ := r.asLst
    exact ⟨.l a, l, vs, rfl, h, rv, fun A' H' k => .inl (.inl (k.st a _ e fun z => n (.inr z)).1)⟩
  · rename_i l
    obtain ⟨a, vs, rfl, e, n, rv⟩ := r.asTup
    exact ⟨.t a, l, vs, rfl, h, rv, fun A' H' k => .inl (.inl (k.st a _ e fun z => n (.inr z)).1)⟩
  · rename_i l
    have r' : RV K H (av A B) (.str l) v := r
    unfold RV at r'
    refine ⟨.s (tx l), signs l, l.map fun c => V.str ⟨#[c]⟩, r', h, ?_, fun A' H' k => ?_⟩
    · have gen : ∀ l : List Nat, RVs K H (av A B) (signs l) (l.map fun c => V.str ⟨#[c]⟩) := fun l => by
        induction l with
        | nil => exact RVs.nil
        | cons c l ih => exact RVs.cons (by unfold RV; rfl) ih
      exact gen l
    · show _ = (tx l).cps.toList.map _
      rfl
  · exact h.elim
def asZ2 (ws : List W) (k : List D → List D → Prop) : Prop := match ws with
  | [w1, w2] => seqW w1 fun l => seqW w2 fun m => k l m
  | _ => False
def asZ3 (ws : List W) (k : List D → List D → List D → Prop) : Prop := match ws with
  | [w1, w2, w3] => seqW w1 fun l => seqW w2 fun m => seqW w3 fun n => k l m n
  | _ => False
theorem asZ2_mono {ws : List W} {k k' : List D → List D → Prop} (h : ∀ l m, k l m → k' l m) (q : asZ2 ws k) : asZ2 ws k' := by
  unfold asZ2 at q ⊢
  split at q
  · exact seqW_mono (fun l => seqW_mono fun m => h l m) q
  · exact q.elim
def zipL3 : List D → List D → List D → List D
  | d :: ds, e :: es, f :: fs => .tup [d, e, f] :: zipL3 ds es fs
  | _, _, _ => []
def iZip2 (b : Bool) (t : MA) : MI := fun ρ S k => t ρ S fun ws S1 => asZ2 ws fun l m => (b = true → l.length = m.length) ∧ k (zipL l m) S1
def iZip3 (b : Bool) (t : MA) : MI := fun ρ S k => t ρ S fun ws S1 => asZ3 ws fun l m n => (b = true → l.length = m.length ∧ l.length = n.length) ∧ k (zipL3 l m n) S1
theorem get_len {α : Type} {l : List α} {i : Nat} (h : i < l.length) : ∃ x, l[i]? = some x := ⟨_, List.getElem?_eq_getElem h⟩
theorem stay_in {A A' : List (Option Addr)} {B B' : Addr → Prop} {H H' : Hp} (k : Keep A H A' H') (hb : ∀ a o, H a = some o → ¬ av A B a → ¬ B' a) : Stay H (av A B) H' (av A' B') := fun b o e n => by
  obtain ⟨z1, z2⟩ := k.st b o e fun z => n (.inr z)
  exact ⟨z1, fun z => z.elim (hb b o e n) z2⟩
theorem pim_zz2 {X : Cx} {tg e : Expr} {es : List Expr} {t : MA} {b : Bool} (h : PAm X es t) (hp : ∀ ta, PA X es ta → PI X tg e (tiZ2 X.kw b ta)) : PIm X tg e (iZip2 b t) := by
  refine ⟨(hp _ h.pa).imp ?_, fun ρ S Q Q' hq q => h.mono ρ S _ _ (fun ws S1 => asZ2_mono fun i j q => ⟨q.1, hq _ _ q.2⟩) q⟩
  rintro σ H R ⟨A, B, ρ, S, k, r, h, af⟩
  refine upA_then r h fun ws S1 A1 vs H1 h1 k1 r1 rws => ?_
  unfold asZ2 at h1
  split at h1
  · rename_i w1 w2
    cases rws with
    | cons q1 q2 =>
      cases q2 with
      | cons q2 q3 =>
        cases q3
        obtain ⟨c1, l, xs, rfl, h2, rv1, on1⟩ := seqW_ok q1 h1
        obtain ⟨c2, m, ys, rfl, ⟨hl, h3⟩, rv2, on2⟩ := seqW_ok q2 h2
        have n1 := rv1.length
        have n2 := rv2.length
        refine ⟨c1, c2, rfl, ⟨xs, on1 _ _ Keep.refl⟩, ⟨ys, on2 _ _ Keep.refl⟩, af _ _ h3 A1 H1 _ (fun H => c1.has X.kw H xs ∧ c2.has X.kw H ys) (fun i H v H' => ∃ T x y, v = .ref T ∧ H T = none ∧ H' = upd H T (.tup [x, y]) ∧ xs[i]? = some x ∧ ys[i]? = some y) k1 r1.cells
          ⟨⟨fun i H2 hi g => ?_, fun H2 g => ?_, fun i H2 x H3 hi g y => ?_⟩, fun A' H' k => ⟨on1 _ _ k, on2 _ _ k⟩, fun i A' B' H' S' x H2 hi bb hb k c y => ?_⟩⟩
        · rw [zipL_length] at hi
          obtain ⟨x, ex⟩ := get_len (l := xs) (i := i) (by omega)
          obtain ⟨y, ey⟩ := get_len (l := ys) (i := i) (by omega)
          exact ⟨xs, ys, x, y, g.1, g.2, ex, ey⟩
        · rw [zipL_length]
          refine ⟨xs, ys, g.1, g.2, by omega, by omega, by omega, fun z => ?_⟩
          have := hl z
          omega
        · obtain ⟨T, x, y, rfl, hT, rfl, e1, e2⟩ := y
          exact ⟨T, x, y, rfl, hT, rfl, e1 _ g.1, e2 _ g.2⟩
        · obtain ⟨T, x, y, rfl, hT, rfl, e1, e2⟩ := y
          obtain ⟨d1, f1, s1⟩ := rv1.get' e1
          obtain ⟨d2, f2, s2⟩ := rv2.get' e2
          have sty := stay_in k hb
          exact ⟨_, zipL_at _ _ _ _ _ f1 f2, Keep.upd hT, c.upd hT, RV.new_tup c hT (RVs.cons (RV.stay sty s1) (RVs.cons (RV.stay sty s2) RVs.nil))⟩
  · exact h1.elim
end Fo
/-! Enum1: enumerate of a list, a tuple, a text. -/
namespace Fo
open PySem PySem.Spec PyProof.Rows L2
theorem enum_typeCall (v : Value) : checkTypeCall "enumerate" ⟨[v], []⟩ = pure () := by kernel_rfl
theorem enum_newCall (v : Value) : checkBuiltinCall "enumerate.__new__" ⟨[.type "enumerate", v], []⟩ = pure () := by kernel_rfl
theorem enum_init (x v : Value) : argsOk "object.__init__" ⟨[x, v], []⟩ := by unfold argsOk; kernel_rfl
abbrev enH (h : Heap) (o : Obj) : Heap := (h.push o).push { cls := .type "enumerate", data := .fields #[.none, .bool false, .ref h.objs.size, .int 0 0, .none, .none] }
theorem enum_new {v : Value} {o : Obj} {G : Heap → Prop} (B : Begins v o G) :
    Meets (Builtin.«enumerate.__new__» ⟨[.type "enumerate", v], []⟩) (fun _ R s => G s.heap ∧ R (.ok (.ret (.ref (s.heap.push o).objs.size))) { s with heap := enH s.heap o }) :=
  .of_wp fun prog w A R s h => by
    obtain ⟨hp, gg, dd, k0, os⟩ := s
    obtain ⟨g1, h⟩ := h
    have isEnum := sub_enumerate
    have q1 : ∀ {A2 : Around} {E2 Q2 : Value → Shared → Prop}, Q2 (.ref hp.objs.size) ⟨hp.push o, gg, dd, k0, os⟩ → wpAny (model prog w) A2 (pyIter v) Q2 E2 ⟨hp, gg, dd, k0, os⟩ :=
      fun z => B.iter prog w _ _ ⟨hp, gg, dd, k0, os⟩ _ g1 z
    wp_walk using q1
    refine wpAny_stack_any fun ss => wpAny_pure ?_
    split
    · rename_i cc _ _ _ _ _
      cases (cc == Value.type "enumerate") <;> (wp_walk using q1; exact ⟨_, rfl, h⟩)
    · wp_walk using q1
      exact ⟨_, rfl, h⟩
section
variable {prog : Program} {w : World} {A : Around} {E : Value → Shared → Prop} {s : Shared}
theorem enum_starts {v : Value} {o : Obj} {G : Heap → Prop} {Q : Value → Shared → Prop} (B : Begins v o G) (g1 : G s.heap)
    (h : ∀ h', IsEnum h' (s.heap.objs.size + 1) s.heap.objs.size 0 .none → h'.get? s.heap.objs.size = some o → (∀ c u, s.heap.get? c = some u → h'.get? c = some u) → Q (.ref (s.heap.objs.size + 1)) { s with heap := h' }) :
    wpAny (model prog w) A (call (.type "enumerate") [v]) Q E s := by
  refine callType_new F.called_enumerate (by decide) (enum_typeCall v) (enum_newCall v) (fun x => enum_init x v) F.entry_enumerate_new (enum_new B) ⟨g1, ?_⟩
  have n1 : (s.heap.push o).objs.size = s.heap.objs.size + 1 := by rw [Heap.size_push]
  have ge : (enH s.heap o).get? (s.heap.push o).objs.size = some _ := Heap.get?_push_size _ rfl
  have gi : (enH s.heap o).get? s.heap.objs.size = some o := Heap.get?_push_of_some _ (Heap.get?_push_size _ B.free)
  rw [n1] at ge
  show _ ∧ _
  rw [n1]
  exact ⟨⟨_, ge, rfl⟩, h _ ge gi fun c u e => Heap.get?_push_of_some _ (Heap.get?_push_of_some _ e)⟩
end
/-- a thing as it stands at each turn, its items numbered, in new pairs -/
def ItE (K : PySem.W.Frag) (c : Sc) : It :=
  ⟨fun i H => ∃ (xs : List V) (x : V), c.has K H xs ∧ xs[i]? = some x,
    fun i H v H' => ∃ (T : Addr) (x : V), v = .ref T ∧ H T = none ∧ H' = upd H T (.tup [.int (i : Nat), x]) ∧ ∀ xs, c.has K H xs → xs[i]? = some x,
    fun i H => ∃ (xs : List V), c.has K H xs ∧ i = xs.length⟩
theorem turn_en {P : Program} {w : World} {K : PySem.W.Frag} {elts : List Expr} {kk : Nat} {tpos : Pos} (c : Sc) (m : Nat) (lo : ∀ a, c.src a → a < m) :
    Turn P w K (.Tuple elts kk tpos) (ItE K c) [m + 1, m] (m + 1) (fun i h => (∃ u, IsEnum h (m + 1) m ((i : Nat) : Int) u) ∧ c.at_ m i h) where
  mem := by simp
  obj := fun i h st b hb => by
    obtain ⟨⟨u, he⟩, t⟩ := st
    have e : b = m + 1 ∨ b = m := by simpa using hb
    rcases e with rfl | rfl
    · exact ⟨_, he, fun v q => (by cases q)⟩
    · exact Sc.at_obj t
  keep := fun i h h' st k => by
    obtain ⟨⟨u, he⟩, t⟩ := st
    exact ⟨⟨u, k _ (by simp) _ he⟩, Sc.at_keep t fun o q => k _ (by simp) o q⟩
  item := by
    intro X hP hw hK hc i pins s σ H E I hf st hg
    subst hP hw hK
    obtain ⟨⟨u, he⟩, t⟩ := st
    obtain ⟨xs, x, hx, hi⟩ := hg
    have hh0 : X.A.handled = none := I.ok.hd hc
    obtain ⟨fp, P, St, D, st1, px, pa, pm, pf⟩ := Sc.draw I hx t (fun a ha => Nat.ne_of_lt (lo a ha)) X.A.in1 hh0
    have nf : (m + 1 : Nat) ∉ fp := fun h3 => by
      rcases pf _ h3 with e | e
      · exact absurd e (Nat.succ_ne_self m)
      · exact absurd (lo _ e) (Nat.not_lt_of_le (Nat.le_succ m))
    have hel : (m + 1 : Nat) < s.heap.objs.size := Heap.lt_size he
    refine wpAny_pyNext_enum_itemC D he st1 (List.getElem?_eq_some_iff.mp hi).1 (neA (Nat.succ_ne_self m)) nf fun v h' tk p1 ho s1 nw ns up => ?_
    obtain ⟨x2, e2, r2⟩ := px _ _ p1
    rw [hi] at e2
    cases e2
    refine ⟨_, rfl, wpAny_letOwnedTupleGo_enum (s := { s with heap := h', toks := tk + 1 }) ho fun h2 he2 sb => ?_⟩
    have nw2 : h2.get? s.heap.objs.size = some { cls := .type "tuple", data := .seq #[.int i tk, v] } := (sb.2 _ (Nat.ne_of_gt hel)).trans nw
    have new : ObjOk X.prog X.w (upd H s.heap.objs.size (.tup [.int (i : Nat), x])) h2 s.heap.objs.size (.tup [.int (i : Nat), x]) :=
      ⟨(by show 2 ≤ sizeLine; decide), [.int i tk, v], .cons ⟨_, rfl⟩ (.cons r2 .nil), ⟨_, nw2, rfl, _, rfl⟩⟩
    have I1 : Inv X pins σ (upd H s.heap.objs.size (.tup [.int (i : Nat), x])) { s with heap := h2, toks := tk + 1 } :=
      I.turnedNew (ch := [m + 1, m]) (fun c o q e => (sb.2 c (fun r => q (by simp [r]))).trans (up c o (fun r => q (by simp [r])) (fun r => q (by simp [r])) e)) hf (Nat.le_refl _) new
    refine ⟨.ref s.heap.objs.size, _, I1, rfl, ⟨_, x, rfl, I.hok.fresh (Nat.le_refl _), rfl, fun l hl2 => by rw [Sc.inj I hl2 hx]; exact hi⟩, ⟨⟨v, ?_⟩, Sc.at_keep (pa _ _ s1) fun o q => (sb.2 _ (neA (by omega))).trans q⟩, fun c hcm => ?_⟩
    · rw [show ((i + 1 : Nat) : Int) = (i : Int) + 1 by omega]
      exact he2
    · have lt : c < s.heap.objs.size := by
        have e : c = m + 1 ∨ c = m := by simpa using hcm
        rcases e with rfl | rfl <;> exact Nat.lt_of_le_of_lt (by omega) hel
      rw [upd_ne (Nat.ne_of_lt lt)]
      exact (hf c hcm).1
  done := by
    intro X hP hw hK hc i pins s σ H E I hf st hg
    subst hP hw hK
    obtain ⟨⟨u, he⟩, t⟩ := st
    obtain ⟨xs, hx, rfl⟩ := hg
    have hh0 : X.A.handled = none := I.ok.hd hc
    obtain ⟨fp, P, St, D, st1, px, pa, pm, pf⟩ := Sc.draw I hx t (fun a ha => Nat.ne_of_lt (lo a ha)) X.A.in1 hh0
    exact wpAny_pyNext_enum_endD D he st1 fun h' eb => ⟨rfl, I.turnedL (t' := s.toks) (ch := [m + 1, m]) (fun c o q e => eb c o (fun r => q (by simp [r])) e) hf⟩
  self := fun A i s Q E st h => by
    obtain ⟨⟨u, he⟩, _⟩ := st
    exact wpAny_pyIter_enum he h
def tiE (K : PySem.W.Frag) (t : TA) : TI := fun σ H R => t σ H fun vs H1 => ∃ c : Sc, vs = [c.v] ∧ (∃ xs, c.has K H1 xs) ∧ R (ItE K c) H1
theorem pi_en {X : Cx} {e1 : Expr} {ta : TA} {p pos tpos : Pos} {elts : List Expr} {kk : Nat} (hg : Gl X "enumerate") (hm : X.mg "enumerate" = none) (ha : PA X [e1] ta) (hs : starEach [e1] X.env = [(false, eval e1 X.env)] := by rfl) :
    PI X (.Tuple elts kk tpos) (.Call (.Name "enumerate" p) [e1] [] pos) (tiE X.K ta) := by
  refine ⟨fun pins s σ H R I h => Call_ (ld_blt I hg hm boot_enumerate (PyProof.Rows.callWith_type1 (thn (ha.run pos pins s σ H _ I h) fun us s1 h1 => ?_) hs rfl))⟩
  obtain ⟨vs, H1, I1, r1, q1⟩ := h1
  obtain ⟨c, ev, ⟨xs, hx⟩, q⟩ := q1
  subst ev
  obtain ⟨u, rfl, ru⟩ := vals1 r1
  obtain ⟨G, B, g, lo, on⟩ := Sc.begins I1 hx ru
  refine enum_starts B g fun h' z w up => wpAny_pyIter_enum z ?_
  have I2 : Inv X pins σ H1 { s1 with heap := h' } := I1.kept (t' := s1.toks) up
  refine ⟨_, _, _, _, H1, rfl, I2, turn_en c s1.heap.objs.size lo, ⟨⟨_, z⟩, on _ _ w⟩, fun b hb => ?_, q⟩
  have ge : s1.heap.objs.size ≤ b := by
    have e : b = s1.heap.objs.size + 1 ∨ b = s1.heap.objs.size := by simpa using hb
    rcases e with rfl | rfl <;> first | exact Nat.le_refl _ | exact Nat.le_add_right _ _
  exact I1.fpOk ge (I1.hok.fresh ge)
def asE1 (ws : List W) (k : List D → Prop) : Prop := match ws with
  | [w1] => seqW w1 k
  | _ => False
theorem asE1_mono {ws : List W} {k k' : List D → Prop} (h : ∀ l, k l → k' l) (q : asE1 ws k) : asE1 ws k' := by
  unfold asE1 at q ⊢
  split at q
  · exact seqW_mono h q
  · exact q.elim
def iEnum1 (t : MA) : MI := fun ρ S k => t ρ S fun ws S1 => asE1 ws fun l => k (enumL 0 l) S1
theorem pim_en {X : Cx} {tg e : Expr} {es : List Expr} {t : MA} (h : PAm X es t) (hp : ∀ ta, PA X es ta → PI X tg e (tiE X.K ta)) : PIm X tg e (iEnum1 t) := by
  refine ⟨(hp _ h.pa).imp ?_, fun ρ S Q Q' hq q => h.mono ρ S _ _ (fun ws S1 => asE1_mono fun i q => hq _ _ q) q⟩
  rintro σ H R ⟨A, B, ρ, S, k, r, h, af⟩
  refine upA_then r h fun ws S1 A1 vs H1 h1 k1 r1 rws => ?_
  unfold asE1 at h1
  split at h1
  · rename_i w1
    cases rws with
    | cons q1 q2 =>
      cases q2
      obtain ⟨c1, l, xs, rfl, h2, rv1, on1⟩ := seqW_ok q1 h1
      have n1 := rv1.length
      refine ⟨c1, rfl, ⟨xs, on1 _ _ Keep.refl⟩, af _ _ h2 A1 H1 _ (fun H => c1.has X.K H xs) (fun i H v H' => ∃ T x, v = .ref T ∧ H T = none ∧ H' = upd H T (.tup [.int (i : Nat), x]) ∧ xs[i]? = some x) k1 r1.cells
        ⟨⟨fun i H2 hi g => ?_, fun H2 g => ?_, fun i H2 x H3 hi g y => ?_⟩, fun A' H' k => on1 _ _ k, fun i A' B' H' S' x H2 hi bb hb k c y => ?_⟩⟩
      · rw [enumL_length] at hi
        obtain ⟨x, ex⟩ := get_len (l := xs) (i := i) (by omega)
        exact ⟨xs, x, g, ex⟩
      · rw [enumL_length]
        exact ⟨xs, g, n1.symm⟩
      · obtain ⟨T, x, rfl, hT, rfl, e1⟩ := y
        exact ⟨T, x, rfl, hT, rfl, e1 _ g⟩
      · obtain ⟨T, x, rfl, hT, rfl, e1⟩ := y
        obtain ⟨d1, f1, s1⟩ := rv1.get' e1
        have sty := stay_in k hb
        refine ⟨_, ?_, Keep.upd hT, c.upd hT, RV.new_tup c hT (RVs.cons (d := .int (i : Nat)) (by unfold RV; rfl) (RVs.cons (RV.stay sty s1) RVs.nil))⟩
        rw [enumL_at, f1, Nat.zero_add]
        rfl
  · exact h1.elim
end Fo
/-! Core16: found[i] += x, found a cell. -/
namespace Fo
open PySem PySem.Spec PyProof.Rows L2
def putX (x : W) (j : Int) (w : W) (S : Sto) (k : Sto → Prop) : Prop := asCell x S fun n l => match ixN l.length j with
  | some p => match w with
    | .val d => k (S.set n (.lst (l.set p d)))
    | _ => False
  | none => False
def getX (x : W) (j : Int) (S : Sto) (k : D → Prop) : Prop := asCell x S fun _ l => 0 ≤ j ∧ match atI l j with
  | some d => k d
  | none => False
def sAugX (o i : ME) (op : OpD) (e : ME) : MS := fun E ρ S => o ρ S fun x S1 => i ρ S1 fun y S2 => asI y S2 fun j S2 => getX x j S2 fun d => e ρ S2 fun z S3 => rd S3 z fun dz => op d dz S3 fun w S4 => putX x j w S4 fun S5 => E.nx ρ S5
end Fo
/-! Rev1: x[::-1] of a list, a tuple, a text. -/
namespace Fo
open PySem PySem.Spec PyProof.Rows L2
variable {K : Kw}
/-! ### the mirror -/
def revD (a : D) (S : Sto) (k : KW) : Prop := match a with
  | .str l => l.length ≤ sizeLine ∧ k (.val (.str l.reverse)) S
  | .tup l => k (.val (.tup l.reverse)) S
  | .lst l => k (.val (.lst l.reverse)) S
  | _ => False
def mRev (a : ME) : ME := fun ρ S k => a ρ S fun x S1 => rd S1 x fun d => revD d S1 k
theorem mRev_i {t : ME} {ρ : Rho} {S : Sto} {k : KW} (q : t ρ S fun x S1 => rd S1 x fun d => revD d S1 k) : mRev t ρ S k := q
theorem rev_t {l : List D} {S : Sto} {k : KW} (q : k (.val (.tup l.reverse)) S) : revD (.tup l) S k := q
theorem rev_l {l : List D} {S : Sto} {k : KW} (q : k (.val (.lst l.reverse)) S) : revD (.lst l) S k := q
theorem rev_s {l : List Nat} {S : Sto} {k : KW} (h : l.length ≤ sizeLine) (q : k (.val (.str l.reverse)) S) : revD (.str l) S k := ⟨h, q⟩
end Fo
/-! Core17: list.index of data of any depth. -/
namespace Fo
open PySem PySem.Spec PyProof.Rows L2
variable {K : Kw}
/-- a list: data or a cell -/
def lstW (w : W) (S : Sto) (k : List D → Prop) : Prop := match w with
  | .val (.lst l) => k l
  | .ref n => match S[n]? with
    | some (.lst l) => k l
    | _ => False
  | _ => False
theorem lstW_r {n : Nat} {l : List D} {S : Sto} {k : List D → Prop} (h : S[n]? = some (.lst l)) (q : k l) : lstW (.ref n) S k := by
  unfold lstW
  simp only [h]
  exact q
theorem lstW_v {l : List D} {S : Sto} {k : List D → Prop} (q : k l) : lstW (.val (.lst l)) S k := q
def indexLF (l : List D) (d : D) (S : Sto) (k : KW) : Prop := shp d ∧ shp (.lst l) ∧ ∃ (j : Nat) (z : PyData), (pys l)[j]? = some z ∧ PyData.eqv z (py d) = true ∧ (∀ (m : Nat) (z' : PyData), m < j → (pys l)[m]? = some z' → PyData.eqv z' (py d) = false) ∧ k (.val (.int (j : Nat))) S
/-- list.index -/
def mIndexL (o : ME) (args : MA) : ME := fun ρ S k => o ρ S fun w S1 => lstW w S1 fun _ => args ρ S1 fun ws S2 => rds S2 ws fun ds => match ds with
  | [d] => lstW w S2 fun l => indexLF l d S2 k
  | _ => False
theorem mIndexL_i {o : ME} {args : MA} {ρ : Rho} {S : Sto} {k : KW} (q : o ρ S fun w S1 => lstW w S1 fun _ => args ρ S1 fun ws S2 => rds S2 ws fun ds => match ds with
  | [d] => lstW w S2 fun l => indexLF l d S2 k
  | _ => False) : mIndexL o args ρ S k := q
end Fo
/-! Core12: steps of a walk through a mirror: each rule takes the goal's head apart. -/
namespace Fo
open PySem PySem.Spec PyProof.Rows L2
section
variable {ρ : Rho} {S : Sto} {k : KW} {E : End} {w : W} {d : D} {i n : Nat} {t u v : ME} {a b c : MS} {ct cu : MT} {args : MA} {kb : Bool → Sto → Prop} {kd : D → Prop} {ka : List W → Sto → Prop} {kn : List D → Sto → Prop} {x y : Int} {op : OpD} {l m : List D} {s r : List Nat}
theorem mVar_i (h : ρ[i]? = some (some w)) (q : k w S) : mVar i ρ S k := by
  unfold mVar
  simp only [h]
  exact q
theorem mC_i (q : k (.val d) S) : mC d ρ S k := q
theorem mBin_i (q : t ρ S fun x S1 => u ρ S1 fun y S2 => rd S2 x fun dx => rd S2 y fun dy => op dx dy S2 k) : mBin op t u ρ S k := q
theorem rd_v (q : kd d) : rd S (.val d) kd := q
theorem rd_l (h : S[n]? = some (.lst l)) (q : kd (.lst l)) : rd S (.ref n) kd := by
  unfold rd
  simp only [h]
  exact q
theorem rd_d {ks ws : List D} (h : S[n]? = some (.dic ks ws)) (q : kd (.dct ks ws)) : rd S (.ref n) kd := by
  unfold rd
  simp only [h]
  exact q
theorem asB_i {z : Bool} (q : kb z S) : asB (.val (.bl z)) S kb := q
theorem asI_i {ki : Int → Sto → Prop} (q : ki x S) : asI (.val (.int x)) S ki := q
theorem asS_i {ks : List Nat → Prop} (q : ks s) : asS (.val (.str s)) ks := q
theorem mCond_i (q : t ρ S fun w S1 => asB w S1 kb) : mCond t ρ S kb := q
theorem cAnd_i (q : ct ρ S fun z S1 => if z = true then cu ρ S1 kb else kb false S1) : cAnd ct cu ρ S kb := q
theorem cOr_i (q : ct ρ S fun z S1 => if z = true then kb true S1 else cu ρ S1 kb) : cOr ct cu ρ S kb := q
theorem cNot_i (q : ct ρ S fun z S1 => kb (!z) S1) : cNot ct ρ S kb := q
theorem cYes_i (q : kb true S) : cYes ρ S kb := q
theorem mIf_i (q : ct ρ S fun z S1 => if z = true then t ρ S1 k else u ρ S1 k) : mIf ct t u ρ S k := q
theorem mAnd_i (q : t ρ S fun w S1 => asB w S1 fun c S1 => if c = true then u ρ S1 k else k (.val (.bl false)) S1) : mAnd t u ρ S k := q
theorem mOr_i (q : t ρ S fun w S1 => asB w S1 fun c S1 => if c = true then k (.val (.bl true)) S1 else u ρ S1 k) : mOr t u ρ S k := q
theorem mNot_i (q : t ρ S fun w S1 => asB w S1 fun c S1 => k (.val (.bl (!c))) S1) : mNot t ρ S k := q
theorem mNeg_i (q : t ρ S fun w S1 => asI w S1 fun i S1 => k (.val (.int (-i))) S1) : mNeg t ρ S k := q
theorem mChain_i {o o' : OpD} (q : t ρ S fun x S1 => u ρ S1 fun y S2 => rd S2 x fun dx => rd S2 y fun dy => o dx dy S2 fun z S3 => asB z S3 fun g S3 =>
  if g = true then v ρ S3 fun w S4 => rd S4 y fun dy => rd S4 w fun dw => o' dy dw S4 k else k (.val (.bl false)) S3) : mChain o o' t u v ρ S k := q
/-! choices -/
theorem if_t {z : Bool} {A B : Prop} (h : z = true) (q : A) : if z = true then A else B := by rw [if_pos h]; exact q
theorem if_f {z : Bool} {A B : Prop} (h : z = false) (q : B) : if z = true then A else B := by rw [if_neg (by rw [h]; exact Bool.false_ne_true)]; exact q
theorem if_d {p : Prop} [Decidable p] {A B : Prop} (h1 : p → A) (h2 : ¬ p → B) : if decide p = true then A else B := by
  by_cases h : p
  · rw [if_pos (decide_eq_true h)]; exact h1 h
  · rw [if_neg (by rw [decide_eq_false h]; exact Bool.false_ne_true)]; exact h2 h
theorem if_df {p : Prop} [Decidable p] {A B : Prop} (h1 : p → A) (h2 : ¬ p → B) : if (decide p != false) = true then A else B := by
  rw [Bool.bne_false]
  exact if_d h1 h2
theorem if_dt {p : Prop} [Decidable p] {A B : Prop} (h1 : ¬ p → A) (h2 : p → B) : if (decide p != true) = true then A else B := by
  by_cases h : p
  · rw [if_neg (by rw [decide_eq_true h]; decide)]; exact h2 h
  · rw [if_pos (by rw [decide_eq_false h]; decide)]; exact h1 h
theorem if_b {z : Bool} {A B : Prop} (h1 : z = true → A) (h2 : z = false → B) : if z = true then A else B := by
  cases z with
  | true => exact h1 rfl
  | false => exact h2 rfl
/-! operators -/
theorem add_i (q : k (.val (.int (x + y))) S) : addD (.int x) (.int y) S k := q
theorem add_s (h : s.length + r.length ≤ sizeLine) (q : k (.val (.str (s ++ r))) S) : addD (.str s) (.str r) S k := ⟨h, q⟩
theorem add_t (h : l.length + m.length ≤ sizeLine) (q : k (.val (.tup (l ++ m))) S) : addD (.tup l) (.tup m) S k := ⟨h, q⟩
theorem add_l (h : l.length + m.length ≤ sizeLine) (q : k (.val (.lst (l ++ m))) S) : addD (.lst l) (.lst m) S k := ⟨h, q⟩
theorem iadd_i (q : k (.val (.int (x + y))) S) : iaddD (.int x) (.int y) S k := q
theorem iadd_s (h : s.length + r.length ≤ sizeLine) (q : k (.val (.str (s ++ r))) S) : iaddD (.str s) (.str r) S k := ⟨h, q⟩
theorem sub_i (q : k (.val (.int (x - y))) S) : subD (.int x) (.int y) S k := ⟨trivial, q⟩
theorem mul_i (h : CMul x y) (q : k (.val (.int (x * y))) S) : mulD (.int x) (.int y) S k := ⟨h, q⟩
theorem mod_i (h : 0 < y) (q : k (.val (.int (x % y))) S) : modD (.int x) (.int y) S k := ⟨h, q⟩
theorem fdiv_i (h : CDiv x y) (q : k (.val (.int (x / y))) S) : fdivD (.int x) (.int y) S k := ⟨h, q⟩
theorem pow_i (h : CPow x y) (q : k (.val (.int (x ^ y.toNat))) S) : powD (.int x) (.int y) S k := ⟨h, q⟩
theorem lt_i (q : k (.val (.bl (decide (x < y)))) S) : ltD (.int x) (.int y) S k := q
theorem le_i (q : k (.val (.bl (decide (x ≤ y)))) S) : leD (.int x) (.int y) S k := q
theorem gt_i (q : k (.val (.bl (decide (y < x)))) S) : gtD (.int x) (.int y) S k := q
theorem ge_i (q : k (.val (.bl (decide (y ≤ x)))) S) : geD (.int x) (.int y) S k := q
theorem lt_s (q : k (.val (.bl (decide (s < r)))) S) : ltD (.str s) (.str r) S k := q
theorem le_s (q : k (.val (.bl (!decide (r < s)))) S) : leD (.str s) (.str r) S k := q
theorem gt_s (q : k (.val (.bl (decide (r < s)))) S) : gtD (.str s) (.str r) S k := q
theorem ge_s (q : k (.val (.bl (!decide (s < r)))) S) : geD (.str s) (.str r) S k := q
theorem is_n {neg : Bool} (q : k (.val (.bl (d.isNon != neg))) S) : isD neg d .non S k := q
theorem is_b {neg z z2 : Bool} (q : k (.val (.bl (decide (z = z2) != neg))) S) : isD neg (.bl z) (.bl z2) S k := q
theorem eq_i {neg : Bool} (q : k (.val (.bl (decide (x = y) != neg))) S) : eqD neg (.int x) (.int y) S k := q
theorem eq_s {neg : Bool} (q : k (.val (.bl (decide (s = r) != neg))) S) : eqD neg (.str s) (.str r) S k := q
theorem eq_b {neg z z2 : Bool} (q : k (.val (.bl (decide (z = z2) != neg))) S) : eqD neg (.bl z) (.bl z2) S k := q
theorem in_s {neg : Bool} {c : Nat} (q : k (.val (.bl (decide (c ∈ s) != neg))) S) : inD neg (.str [c]) (.str s) S k := q
theorem in_l {neg : Bool} (h1 : shp d) (h2 : shp (.lst l)) (q : k (.val (.bl ((pys l).any (fun z => PyData.eqv z (py d)) != neg))) S) : inD neg d (.lst l) S k := ⟨h1, h2, q⟩
theorem ix_t (h : atI l x = some d) (q : k (.val d) S) : ixD (.tup l) (.int x) S k := by
  show itemK l x S k
  unfold itemK
  rw [h]
  exact q
theorem ix_l (h : atI l x = some d) (q : k (.val d) S) : ixD (.lst l) (.int x) S k := by
  show itemK l x S k
  unfold itemK
  rw [h]
  exact q
theorem ix_s {c : Nat} (hl : s.length ≤ sizeLine) (h : atI s x = some c) (q : k (.val (.str [c])) S) : ixD (.str s) (.int x) S k := by
  refine ⟨hl, ?_⟩
  rw [h]
  exact q
theorem mSlice_i {lo hi : MO} (q : t ρ S fun x S1 => lo ρ S1 fun l S2 => hi ρ S2 fun u S3 => rd S3 x fun d => slD l u d S3 k) : mSlice t lo hi ρ S k := q
theorem oNo_i {ko : Option Int → Sto → Prop} (q : ko none S) : oNo ρ S ko := q
theorem oAt_i {ko : Option Int → Sto → Prop} (q : t ρ S fun w S1 => asI w S1 fun i S1 => ko (some i) S1) : oAt t ρ S ko := q
theorem sl_s {lo hi : Option Int} (h : s.length ≤ sizeLine) (q : k (.val (.str (cutL s lo hi))) S) : slD lo hi (.str s) S k := ⟨h, q⟩
theorem sl_t {lo hi : Option Int} (q : k (.val (.tup (cutL l lo hi))) S) : slD lo hi (.tup l) S k := q
theorem sl_l {lo hi : Option Int} (q : k (.val (.lst (cutL l lo hi))) S) : slD lo hi (.lst l) S k := q
theorem sl_c {lo hi : Option Int} {z : List Int} (q : k (.val (.lst ((cutL z lo hi).map D.int))) S) : slD lo hi (.scr z) S k := q
/-! several -/
theorem aNil_i (q : ka [] S) : aNil ρ S ka := q
theorem aCons_i (q : t ρ S fun w S1 => args ρ S1 fun ws S2 => ka (w :: ws) S2) : aCons t args ρ S ka := q
theorem vals_n {kl : List D → Prop} (q : kl []) : vals [] kl := q
theorem vals_c {kl : List D → Prop} {ws : List W} (q : vals ws fun ds => kl (d :: ds)) : vals (.val d :: ws) kl := q
theorem rds_n {kl : List D → Prop} (q : kl []) : rds S [] kl := q
theorem rds_c {kl : List D → Prop} {ws : List W} (q : rd S w fun d => rds S ws fun ds => kl (d :: ds)) : rds S (w :: ws) kl := q
theorem mVal_i {nn : MN} (q : nn ρ S fun ds S1 => k (.val (.lst ds)) S1) : mVal nn ρ S k := q
theorem mCell_i {nn : MN} (q : nn ρ S fun ds S1 => k (.ref S1.length) (S1 ++ [.lst ds])) : mCell nn ρ S k := q
theorem nLst_i (q : args ρ S fun ws S1 => vals ws fun ds => ds.length ≤ sizeLine ∧ kn ds S1) : nLst args ρ S kn := q
theorem mTup_i (q : args ρ S fun ws S1 => vals ws fun ds => ds.length ≤ sizeLine ∧ k (.val (.tup ds)) S1) : mTup args ρ S k := q
theorem mFrz_r (h : ρ[i]? = some (some (.ref n))) (h2 : S[n]? = some (.lst l)) (q : k (.val (.lst l)) (S.set n .dead)) : mFrz i ρ S k := by
  unfold mFrz
  simp only [h, h2]
  exact q
theorem mFrz_v (h : ρ[i]? = some (some (.val d))) (q : k (.val d) S) : mFrz i ρ S k := by
  unfold mFrz
  simp only [h]
  exact q
/-! statements -/
theorem sSeq_i (q : a { E with nx := fun ρ' S' => b E ρ' S' } ρ S) : sSeq a b E ρ S := q
theorem sNext_i (q : E.nx ρ S) : sNext E ρ S := q
theorem sBrk_i (q : E.bk ρ S) : sBrk E ρ S := q
theorem sCont_i (q : E.ct ρ S) : sCont E ρ S := q
theorem sExpr_i (q : t ρ S fun _ S1 => E.nx ρ S1) : sExpr t E ρ S := q
theorem sRet_i (q : t ρ S E.rt) : sRet t E ρ S := q
theorem sRetN_i (q : E.rt (.val .non) S) : sRetN E ρ S := q
theorem sIf_i (q : ct ρ S fun z S1 => if z = true then a E ρ S1 else b E ρ S1) : sIf ct a b E ρ S := q
theorem sSet_i (q : t ρ S fun w S1 => E.nx (ρ.set i (some w)) S1) : sSet i t E ρ S := q
theorem sAsg_i {g : MG} (q : t ρ S fun w S1 => g w ρ S1 E.nx) : sAsg t g E ρ S := q
def parK (i j : Nat) (E : End) (ρ : Rho) (ws : List W) (S : Sto) : Prop := match ws with
  | [w, u] => E.nx ((ρ.set i (some w)).set j (some u)) S
  | _ => False
theorem sPar_i {j : Nat} (q : args ρ S fun ws S1 => parK i j E ρ ws S1) : sPar i j args E ρ S := q
theorem par_i {j : Nat} {w2 : W} (q : E.nx ((ρ.set i (some w)).set j (some w2)) S) : parK i j E ρ [w, w2] S := q
theorem sSeq_cut (M : Rho → Sto → Prop) (h : ∀ ρ S, M ρ S → b E ρ S) (q : ∀ K : Rho → Sto → Prop, (∀ ρ S, M ρ S → K ρ S) → a { E with nx := K } ρ S) : sSeq a b E ρ S := q _ h
theorem sAug_i (h : ρ[i]? = some (some w)) (q : t ρ S fun y S1 => rd S1 w fun dx => rd S1 y fun dy => op dx dy S1 fun w S2 => E.nx (ρ.set i (some w)) S2) : sAug i op t E ρ S := by
  unfold sAug
  simp only [h]
  exact q
theorem gVar_i {kg : Rho → Sto → Prop} (q : kg (ρ.set i (some w)) S) : gVar i w ρ S kg := q
theorem gTupM_i {gs : MGs} {kg : Rho → Sto → Prop} (q : gs l ρ S kg) : gTupM gs (.val (.tup l)) ρ S kg := q
theorem gsCons_i {g : MG} {gs : MGs} {kg : Rho → Sto → Prop} (q : g (.val d) ρ S fun ρ1 S1 => gs l ρ1 S1 kg) : gsCons g gs (d :: l) ρ S kg := q
theorem gsNil_i {kg : Rho → Sto → Prop} (q : kg ρ S) : gsNil [] ρ S kg := q
def gPut (n : Nat) (l : List D) (w : W) (j : Int) (ρ : Rho) (S : Sto) (kg : Rho → Sto → Prop) : Prop := match ixN l.length j with
  | some p => match w with
    | .val d => kg ρ (S.set n (.lst (l.set p d)))
    | _ => False
  | none => False
theorem gIx_i {kg : Rho → Sto → Prop} (q : t ρ S fun x S1 => u ρ S1 fun y S2 => asCell x S2 fun n l => asI y S2 fun j S2 => gPut n l w j ρ S2 kg) : gIx t u w ρ S kg := q
theorem asCell_i {kc : Nat → List D → Prop} (h : S[n]? = some (.lst l)) (q : kc n l) : asCell (.ref n) S kc := by
  unfold asCell
  simp only [h]
  exact q
theorem gput_i {kg : Rho → Sto → Prop} {j : Int} {p : Nat} (h : ixN l.length j = some p) (q : kg ρ (S.set n (.lst (l.set p d)))) : gPut n l (.val d) j ρ S kg := by
  unfold gPut
  rw [h]
  exact q
theorem mMethC_i {f : CelD} (q : t ρ S fun w S1 => asCell w S1 fun _ _ => args ρ S1 fun ws S2 => asCell w S2 fun n l => f l ws fun l' d => k (.val d) (S2.set n (.lst l'))) : mMethC f t args ρ S k := q
theorem mMethC0_i {f : CelD} (q : t ρ S fun w S1 => asCell w S1 fun n l => f l [] fun l' d => k (.val d) (S1.set n (.lst l'))) : mMethC0 f t ρ S k := q
theorem append_i {kc : List D → D → Prop} (h : l.length < sizeLine) (q : kc (l ++ [d]) .non) : appendF l [.val d] kc := ⟨h, q⟩
theorem mMethS_i {f : List Nat → D → Sto → KW → Prop} (q : t ρ S fun w S1 => asS w fun l => u ρ S1 fun z S2 => rd S2 z fun d => f l d S2 k) : mMethS f t u ρ S k := q
theorem index_i {c : Nat} (h : c ∈ s) (q : ∀ j : Nat, s[j]? = some c → k (.val (.int j)) S) : indexF s (.str [c]) S k := ⟨h, q⟩
/-! built-ins -/
theorem mCallB_i {f : CalD} (q : args ρ S fun ws S1 => rds S1 ws fun ds => f ds S1 k) : mCallB f args ρ S k := q
theorem nCallB_i {f : List D → Sto → (List D → Sto → Prop) → Prop} (q : args ρ S fun ws S1 => rds S1 ws fun ds => f ds S1 kn) : nCallB f args ρ S kn := q
theorem len_l (q : k (.val (.int l.length)) S) : lenC [.lst l] S k := q
theorem len_t (q : k (.val (.int l.length)) S) : lenC [.tup l] S k := q
theorem len_s (h : s.length ≤ sizeLine) (q : k (.val (.int s.length)) S) : lenC [.str s] S k := ⟨h, q⟩
theorem min2_i (q : k (.val (.int (if y < x then y else x))) S) : min2C [.int x, .int y] S k := q
theorem tuple_l (q : k (.val (.tup l)) S) : tupleC [.lst l] S k := q
theorem tuple_t (q : k (.val (.tup l)) S) : tupleC [.tup l] S k := q
theorem mIsi_i {ty : String} (q : t ρ S fun w S1 => rd S1 w fun d => k (.val (.bl (isT d ty))) S1) : mIsi ty t ρ S k := q
theorem mIsiT_i {ts : List String} (q : t ρ S fun w S1 => rd S1 w fun d => k (.val (.bl (ts.any (isT d)))) S1) : mIsiT ts t ρ S k := q
theorem listF_l (q : kn l S) : listF [.lst l] S kn := q
theorem listF_t (q : kn l S) : listF [.tup l] S kn := q
theorem join_l {ts : List (List Nat)} (h : strsOf l = some ts) (h2 : (ts.map List.length).sum + ts.length * s.length ≤ 16777216) (q : k (.val (.str (joinT s ts))) S) : joinF s (.lst l) S k := by
  unfold joinF
  simp only [h]
  exact ⟨h2, q⟩
/-! iterators, loops -/
theorem iVal_i (q : t ρ S fun w S1 => itV w fun ds => kn ds S1) : iVal t ρ S kn := q
theorem itV_l {kl : List D → Prop} (q : kl l) : itV (.val (.lst l)) kl := q
theorem itV_t {kl : List D → Prop} (q : kl l) : itV (.val (.tup l)) kl := q
theorem itV_s {kl : List D → Prop} (q : kl (s.map fun c => .str [c])) : itV (.val (.str s)) kl := q
theorem iRange1_i (q : args ρ S fun ws S1 => asI1 ws fun j => (-(2 ^ 62) ≤ j ∧ j < 2 ^ 62) ∧ kn (rangeL 0 j.toNat) S1) : iRange1 args ρ S kn := q
theorem asI1_i {ki : Int → Prop} (q : ki x) : asI1 [.val (.int x)] ki := q
theorem iRange2_i (q : args ρ S fun ws S1 => asI2 ws fun i j => (-(2 ^ 62) ≤ i ∧ i < 2 ^ 62 ∧ -(2 ^ 62) ≤ j ∧ j < 2 ^ 62) ∧ kn (rangeL i (j - i).toNat) S1) : iRange2 args ρ S kn := q
theorem asI2_i {ki : Int → Int → Prop} (q : ki x y) : asI2 [.val (.int x), .val (.int y)] ki := q
theorem iEnumL_i (q : args ρ S fun ws S1 => asL1 ws fun l => kn (enumL 0 l) S1) : iEnumL args ρ S kn := q
theorem asL1_i {kl : List D → Prop} (q : kl l) : asL1 [.val (.lst l)] kl := q
theorem iZip_i (q : args ρ S fun ws S1 => asZ ws fun l m => kn (zipL l m) S1) : Fo.iZip args ρ S kn := q
theorem iZip2_i {b : Bool} (q : args ρ S fun ws S1 => asZ2 ws fun l m => (b = true → l.length = m.length) ∧ kn (zipL l m) S1) : iZip2 b args ρ S kn := q
theorem iZip3_i {b : Bool} (q : args ρ S fun ws S1 => asZ3 ws fun l m n => (b = true → l.length = m.length ∧ l.length = n.length) ∧ kn (zipL3 l m n) S1) : iZip3 b args ρ S kn := q
theorem asZ2_i {w2 : W} {kl : List D → List D → Prop} (q : seqW w fun l => seqW w2 fun m => kl l m) : asZ2 [w, w2] kl := q
theorem asZ3_i {w2 w3 : W} {kl : List D → List D → List D → Prop} (q : seqW w fun l => seqW w2 fun m => seqW w3 fun n => kl l m n) : asZ3 [w, w2, w3] kl := q
theorem seqW_l {kl : List D → Prop} (q : kl l) : seqW (.val (.lst l)) kl := q
theorem seqW_t {kl : List D → Prop} (q : kl l) : seqW (.val (.tup l)) kl := q
theorem seqW_s {kl : List D → Prop} (q : kl (signs s)) : seqW (.val (.str s)) kl := q
theorem nostrict {A B : Prop} (q : B) : (false = true → A) ∧ B := ⟨fun z => Bool.noConfusion z, q⟩
theorem iEnum1_i (q : args ρ S fun ws S1 => asE1 ws fun l => kn (enumL 0 l) S1) : iEnum1 args ρ S kn := q
theorem asE1_i {kl : List D → Prop} (q : seqW w kl) : asE1 [w] kl := q
theorem nBin_i {op : OpN} (q : t ρ S fun x S1 => u ρ S1 fun y S2 => rd S2 x fun dx => rd S2 y fun dy => op dx dy fun ds => kn ds S2) : nBin op t u ρ S kn := q
theorem addN_l {kl : List D → Prop} (h : l.length + m.length ≤ sizeLine) (q : kl (l ++ m)) : addN (.lst l) (.lst m) kl := ⟨h, q⟩
theorem int1_b {z : Bool} (q : k (.val (.int (if z then 1 else 0))) S) : int1C [.bl z] S k := q
theorem int1_i (q : k (.val (.int x)) S) : int1C [.int x] S k := q
theorem sAugX_i (q : t ρ S fun x S1 => u ρ S1 fun y S2 => asI y S2 fun j S2 => getX x j S2 fun d => v ρ S2 fun z S3 => rd S3 z fun dz => op d dz S3 fun w S4 => putX x j w S4 fun S5 => E.nx ρ S5) : sAugX t u op v E ρ S := q
theorem asZ_l {kl : List D → List D → Prop} (q : kl l m) : asZ [.val (.lst l), .val (.lst m)] kl := q
theorem asZ_t {kl : List D → List D → Prop} (q : kl l m) : asZ [.val (.tup l), .val (.tup m)] kl := q
theorem sFor_i {it : MI} {g : MG} (q : it ρ S fun ds S1 => forItems g a E ds ρ S1) : sFor it g a E ρ S := q
theorem nLC_i {it : MI} {g : MG} {vs : List Nat} (q : it ρ S fun ds S1 => lcItems g ct t (wipeR ρ vs) kn ds [] S1) : nLC it g ct t vs ρ S kn := q
/-- a loop, by what holds ahead of each of its rounds -/
theorem for_inv {g : MG} {tb : MS} (I : List D → Rho → Sto → Prop) (fin : ∀ ρ S, I [] ρ S → E.nx ρ S)
    (step : ∀ d r ρ S (K : Rho → Sto → Prop), (∀ ρ S, I r ρ S → K ρ S) → I (d :: r) ρ S → g (.val d) ρ S fun ρ1 S1 => tb { nx := K, rt := E.rt, bk := E.nx, ct := K } ρ1 S1) :
    ∀ (ds : List D) (ρ : Rho) (S : Sto), I ds ρ S → forItems g tb E ds ρ S
  | [], ρ, S, h => fin ρ S h
  | d :: r, ρ, S, h => step d r ρ S (forItems g tb E r) (fun ρ S q => for_inv I fin step r ρ S q) h
def lcPut (acc : List D) (K : List D → Sto → Prop) (w : W) (S : Sto) : Prop := match w with
  | .val y => acc.length < sizeLine ∧ K (acc ++ [y]) S
  | _ => False
theorem lc_inv {g : MG} {c : MT} {e : ME} {ρ : Rho} {kn : List D → Sto → Prop} (I : List D → List D → Sto → Prop) (fin : ∀ acc S, I [] acc S → kn acc S)
    (step : ∀ d r acc S (K : List D → Sto → Prop), (∀ acc S, I r acc S → K acc S) → I (d :: r) acc S → g (.val d) ρ S fun ρ2 S2 => c ρ2 S2 fun b S3 => if b = true then e ρ2 S3 fun w S4 => lcPut acc K w S4 else K acc S3) :
    ∀ (ds acc : List D) (S : Sto), I ds acc S → lcItems g c e ρ kn ds acc S
  | [], acc, S, h => fin acc S h
  | d :: r, acc, S, h => step d r acc S (fun acc S => lcItems g c e ρ kn r acc S) (fun acc S q => lc_inv I fin step r acc S q) h
theorem lcput_i {acc : List D} {K : List D → Sto → Prop} (h : acc.length < sizeLine) (q : K (acc ++ [d]) S) : lcPut acc K (.val d) S := ⟨h, q⟩
/-! calls -/
theorem mCall_i {f : MF} {dws : List W} (q : args ρ S fun ws S1 => callW f (ws ++ dws) S1 k) : mCall f args dws ρ S k := q
theorem mCallK_i {f : MF} {kw : MA} (q : args ρ S fun ws S1 => kw ρ S1 fun zs S2 => callW f (ws ++ zs) S2 k) : mCallK f args kw ρ S k := q
/-- no cell is handed in -/
theorem call_0 {f : MF} {ws : List W} (h0 : refsOf ws = []) (q : f (renum 0 ws) [] fun w S' => match w with
    | .val d => k (.val d) S
    | .ref m => m = 0 ∧ ∃ ob, S'[0]? = some ob ∧ ob ≠ .dead ∧ k (.ref S.length) (S ++ [ob])
    | _ => False) (mo : MonoF f) : callW f ws S k := by
  refine ⟨by rw [h0]; exact List.nodup_nil, fun n hn => by (rw [h0] at hn; cases hn), ?_⟩
  rw [h0]
  refine mo _ _ _ _ (fun w S' h => ?_) q
  have e0 : putL S [] S' = S := by unfold putL; rfl
  cases w with
  | lws _ => exact h.elim
  | ins _ _ _ => exact h.elim
  | fn _ => exact h.elim
  | val d =>
    show k (.val d) (putL S [] S')
    rw [e0]
    exact h
  | ref m =>
    obtain ⟨h1, ob, h2, h3, h4⟩ := h
    refine ⟨h1, ?_⟩
    rw [show S'[([] : List Nat).length]? = some ob from h2, e0]
    exact ⟨h3, h4⟩
/-- one cell is handed in -/
theorem call_1 {f : MF} {ws : List W} {ob : Ob} (h0 : refsOf ws = [n]) (hS : S[n]? = some ob) (nd : ob ≠ .dead) (q : f (renum 0 ws) [ob] fun w S' => ∃ ob' r, S' = ob' :: r ∧ match w with
    | .val d => k (.val d) (S.set n ob')
    | .ref m => m = 1 ∧ ∃ o2, r[0]? = some o2 ∧ o2 ≠ .dead ∧ k (.ref S.length) (S.set n ob' ++ [o2])
    | _ => False) (mo : MonoF f) : callW f ws S k := by
  refine ⟨by rw [h0]; simp, fun m hm => by
    rw [h0] at hm
    simp at hm
    subst hm
    exact ⟨ob, hS, nd⟩, ?_⟩
  rw [h0]
  have e : pickS S [n] = [ob] := by
    unfold pickS
    simp [hS]
  rw [e]
  refine mo _ _ _ _ (fun w S' h => ?_) q
  obtain ⟨ob', r, e2, h⟩ := h
  subst e2
  have e0 : putL S [n] (ob' :: r) = S.set n ob' := by
    unfold putL
    unfold putL
    rfl
  cases w with
  | lws _ => exact h.elim
  | ins _ _ _ => exact h.elim
  | fn _ => exact h.elim
  | val d =>
    show k (.val d) (putL S [n] (ob' :: r))
    rw [e0]
    exact h
  | ref m =>
    obtain ⟨h1, o2, h2, h3, h4⟩ := h
    refine ⟨h1, ?_⟩
    rw [show (ob' :: r)[[n].length]? = some o2 from h2, e0]
    exact ⟨h3, h4⟩
theorem fin_v {f : KW} (q : f (.val d) (S.take n)) : finK n f (.val d) S := q
theorem fin_r {f : KW} {ob : Ob} (hn : i ≤ n) (h : S[n]? = some ob) (nd : ob ≠ .dead) (q : f (.ref i) (S.take i ++ [ob])) : finK i f (.ref n) S := by
  refine ⟨hn, ?_⟩
  simp only [h]
  exact ⟨nd, q⟩
end
end Fo
/-! Ms: the mirrors of the defs first met in this law. Printed by gen.py. -/
namespace Fo
open PySem PySem.Spec PyProof.Rows L2
def t__law_open : MF := mfun 4
    (sSeq (sSet 1 (mCell (nCallB listF (aCons (mSlice (mVar 0) oNo (oAt (mC (.int 12)))) aNil))))
    (sSeq (sFor (iEnum1 (aCons (mSlice (mVar 0) (oAt (mC (.int 12))) (oAt (mC (.int 63)))) aNil)) (gTupM (gsCons (gVar 2) (gsCons (gVar 3) gsNil))) (sAsg (mBin addD (mBin ixD (mVar 1) (mBin modD (mVar 2) (mC (.int 12)))) (mVar 3)) (gIx (mVar 1) (mBin modD (mVar 2) (mC (.int 12))))))
    (sRet (mCell (nLst (aCons (mFrz 1) (aCons (mC (.int 0)) (aCons (mC (.int 0)) aNil))))))))
theorem m__law_open : MonoF t__law_open := mfun_mono
def t__law_spread : MF := mfun 6
    (sSeq (sIf (mCond (mBin geD (mVar 0) (mBin powD (mC (.int 10)) (mC (.int 18))))) (sRet (mVar 0)) sNext)
    (sSeq (sSet 2 (mVal (nLst (aCons (mC (.int 2147483629)) (aCons (mC (.int 2147483587)) (aCons (mC (.int 2147483579)) (aCons (mC (.int 2147483563)) (aCons (mC (.int 2147483549)) (aCons (mC (.int 2147483543)) (aCons (mC (.int 2147483497)) (aCons (mC (.int 2147483489)) aNil)))))))))))
    (sSeq (sSet 2 (mBin addD (mVar 2) (mVal (nLst (aCons (mC (.int 2147483477)) (aCons (mC (.int 2147483423)) (aCons (mC (.int 2147483399)) (aCons (mC (.int 2147483353)) (aCons (mC (.int 2147483323)) aNil)))))))))
    (sSeq (sSet 3 (mBin modD (mBin powD (mBin addD (mBin addD (mBin mulD (mBin modD (mVar 0) (mC (.int 1000000007))) (mBin addD (mBin mulD (mC (.int 2)) (mVar 1)) (mC (.int 69069)))) (mBin mulD (mVar 1) (mC (.int 40503)))) (mC (.int 977))) (mC (.int 3))) (mBin ixD (mVar 2) (mBin modD (mVar 1) (mC (.int 13))))))
    (sSeq (sSet 4 (mBin modD (mBin powD (mBin addD (mBin addD (mBin mulD (mVar 3) (mBin addD (mVar 1) (mC (.int 3)))) (mBin modD (mVar 0) (mC (.int 65537)))) (mC (.int 5))) (mC (.int 5))) (mBin ixD (mVar 2) (mBin modD (mBin addD (mVar 1) (mC (.int 5))) (mC (.int 13))))))
    (sSeq (sSet 5 (mBin modD (mBin powD (mBin addD (mBin addD (mVar 4) (mBin modD (mVar 3) (mC (.int 1009)))) (mVar 1)) (mC (.int 3))) (mBin ixD (mVar 2) (mBin modD (mBin addD (mVar 1) (mC (.int 7))) (mC (.int 13))))))
    (sRet (mBin addD (mBin mulD (mBin addD (mBin mulD (mVar 3) (mC (.int 2147483647))) (mVar 4)) (mC (.int 2147483647))) (mVar 5)))))))))
theorem m__law_spread : MonoF t__law_spread := mfun_mono
def t__law_take : MF := mfun 5
    (sSeq (sIf (mCond (mBin ltD (mBin ixD (mVar 0) (mC (.int 2))) (mVar 1))) (sSeq (sSet 3 (mBin ixD (mVar 0) (mC (.int 1))))
    (sSeq (sSet 4 (mC (.int 0)))
    (sSeq (sIf (mCond (mBin ltD (mVar 3) (mCallB lenC (aCons (mBin ixD (mVar 0) (mC (.int 0))) aNil)))) (sSet 4 (mBin ixD (mBin ixD (mVar 0) (mC (.int 0))) (mVar 3))) (sIf (mCond (mBin gtD (mCallB lenC (aCons (mBin ixD (mVar 0) (mC (.int 0))) aNil)) (mC (.int 0)))) (sSet 4 (mBin modD (mBin ixD (mBin ixD (mVar 0) (mC (.int 0))) (mBin modD (mBin addD (mBin mulD (mVar 3) (mC (.int 5))) (mC (.int 3))) (mCallB lenC (aCons (mBin ixD (mVar 0) (mC (.int 0))) aNil)))) (mBin addD (mBin powD (mC (.int 10)) (mC (.int 17))) (mVar 3)))) sNext))
    (sSeq (sAsg (mBin addD (mVar 3) (mC (.int 1))) (gIx (mVar 0) (mC (.int 1))))
    (sAsg (mCall t__law_spread (aCons (mVar 4) (aCons (mVar 3) aNil)) []) (gIx (mVar 0) (mC (.int 2)))))))) sNext)
    (sSeq (sSet 2 (mBin modD (mBin ixD (mVar 0) (mC (.int 2))) (mVar 1)))
    (sSeq (sAsg (mBin fdivD (mBin ixD (mVar 0) (mC (.int 2))) (mVar 1)) (gIx (mVar 0) (mC (.int 2))))
    (sRet (mVar 2)))))
theorem m__law_take : MonoF t__law_take := mfun_mono
def t__law_some_text : MF := mfun 4
    (sRet (mMethS joinF (mC (.str [])) (mVal (nLC (iRange1 (aCons (mCall t__law_take (aCons (mVar 0) (aCons (mBin addD (mVar 2) (mC (.int 1))) aNil)) []) aNil)) (gVar 3) cYes (mBin ixD (mVar 1) (mCall t__law_take (aCons (mVar 0) (aCons (mCallB lenC (aCons (mVar 1) aNil)) aNil)) [])) [3]))))
theorem m__law_some_text : MonoF t__law_some_text := mfun_mono
def t__law_same : Nat → MF
  | 0 => mNever
  | n + 1 => mfun 4
    (sSeq (sIf (cOr (mCond (mBin (isD false) (mVar 1) (mC .non))) (mCond (mBin (isD false) (mVar 0) (mC .non)))) (sRet (mAnd (mBin (isD false) (mVar 1) (mC .non)) (mBin (isD false) (mVar 0) (mC .non)))) sNext)
    (sSeq (sIf (cOr (mCond (mIsi "bool" (mVar 1))) (mCond (mIsi "bool" (mVar 0)))) (sRet (mAnd (mIsi "bool" (mVar 1)) (mAnd (mIsi "bool" (mVar 0)) (mBin (eqD false) (mVar 0) (mVar 1))))) sNext)
    (sSeq (sIf (mCond (mIsiT ["int", "str"] (mVar 1))) (sSeq (sIf (mCond (mBin (eqD true) (mIsi "int" (mVar 0)) (mIsi "int" (mVar 1)))) (sRet (mC (.bl false))) sNext)
    (sRet (mAnd (mIsiT ["int", "str"] (mVar 0)) (mBin (eqD false) (mVar 0) (mVar 1))))) sNext)
    (sSeq (sIf (cOr (mCond (mBin (eqD true) (mIsi "tuple" (mVar 1)) (mIsi "tuple" (mVar 0)))) (mCond (mBin (eqD true) (mIsi "list" (mVar 1)) (mIsi "list" (mVar 0))))) (sRet (mC (.bl false))) sNext)
    (sSeq (sIf (mCond (mBin (eqD true) (mCallB lenC (aCons (mVar 0) aNil)) (mCallB lenC (aCons (mVar 1) aNil)))) (sRet (mC (.bl false))) sNext)
    (sRet (mBin (inD true) (mC (.bl false)) (mVal (nLC (iZip2 false (aCons (mVar 0) (aCons (mVar 1) aNil))) (gTupM (gsCons (gVar 2) (gsCons (gVar 3) gsNil))) cYes (mCall (t__law_same n) (aCons (mVar 2) (aCons (mVar 3) aNil)) []) [2, 3])))))))))
theorem m__law_same (n : Nat) : MonoF (t__law_same n) := by
  cases n with
  | zero => exact mNever_mono
  | succ n => exact mfun_mono
def t__law_any_reader : MF := mfun 13
    (sSeq (sPar 7 8 (aCons (mBin addD (mC (.int 1)) (mCall t__law_take (aCons (mVar 0) (aCons (mVar 3) aNil)) [])) (aCons (mBin (eqD false) (mCall t__law_take (aCons (mVar 0) (aCons (mC (.int 2)) aNil)) []) (mC (.int 0))) aNil)))
    (sSeq (sSet 5 (mCell (nLst aNil)))
    (sSeq (sFor (iRange1 (aCons (mVar 7) aNil)) (gVar 6) (sSeq (sSet 9 (mCell (nLst aNil)))
    (sSeq (sFor (iVal (mVar 1)) (gVar 10) (sSeq (sSet 12 (mCall t__law_some_text (aCons (mVar 0) (aCons (mVar 2) (aCons (mVar 4) aNil))) []))
    (sSeq (sIf (cAnd (mCond (mVar 8)) (cAnd (mCond (mBin (inD false) (mVar 10) (mVar 2))) (mCond (mBin gtD (mCall t__law_take (aCons (mVar 0) (aCons (mC (.int 3)) aNil)) []) (mC (.int 0)))))) (sSet 12 (mVar 10)) sNext)
    (sExpr (mMethC appendF (mVar 9) (aCons (mTup (aCons (mCall t__law_take (aCons (mVar 0) (aCons (mVar 7) aNil)) []) (aCons (mVar 12) aNil))) aNil))))))
    (sSeq (sSet 11 (mBin ixD (mVal (nLst (aCons (mCall t__law_some_text (aCons (mVar 0) (aCons (mVar 2) (aCons (mC (.int 1)) aNil))) []) (aCons (mC (.str [])) (aCons (mC (.str [])) (aCons (mC .non) aNil)))))) (mCallB min2C (aCons (mC (.int 3)) (aCons (mCall t__law_take (aCons (mVar 0) (aCons (mC (.int 5)) aNil)) []) aNil)))))
    (sExpr (mMethC appendF (mVar 5) (aCons (mTup (aCons (mCallB tupleC (aCons (mVar 9) aNil)) (aCons (mVar 11) aNil))) aNil)))))))
    (sRet (mTup (aCons (mVar 1) (aCons (mVar 2) (aCons (mCallB tupleC (aCons (mVar 5) aNil)) aNil))))))))
theorem m__law_any_reader : MonoF t__law_any_reader := mfun_mono
def t__law_read_on : MF := mfun 6
    (sSeq (sSet 3 (mC (.str [])))
    (sSeq (sFor (iVal (mVar 2)) (gVar 4) (sSeq (sAsg (mBin ixD (mBin ixD (mBin ixD (mBin ixD (mVar 0) (mC (.int 2))) (mVar 1)) (mC (.int 0))) (mMethS indexF (mBin ixD (mVar 0) (mC (.int 0))) (mVar 4))) (gTupM (gsCons (gVar 1) (gsCons (gVar 5) gsNil))))
    (sSet 3 (mBin addD (mVar 3) (mVar 5)))))
    (sRet (mTup (aCons (mVar 1) (aCons (mVar 3) aNil))))))
theorem m__law_read_on : MonoF t__law_read_on := mfun_mono
end Fo
/-! Ms: the mirrors of the defs first met in this law. Printed by gen.py. -/
/-! Set1: sets of texts, as set(text) and set(list of texts) make them; sorted of them. -/
namespace Fo
open PySem PySem.Spec PyProof.Rows L2
def keyS (e : Int × Value) : Str := match e.2 with
  | .str k _ => k
  | _ => Str.empty
def GoodS (P : Program) (w : World) (e : Int × Value) : Prop := ∃ k tk, e.2 = Value.str k tk ∧ e.1 = (PySem.strKind P w).hash k
/-- the set of texts at a: M has its members, c is their number -/
def SetSR (P : Program) (w : World) (h : Heap) (a : Addr) (M : Str → Bool) (c : Nat) : Prop :=
  ∃ o es ep t, h.get? a = some o ∧ o.ExactSet ∧ o.data = .set es ep t ∧ (∀ e ∈ es.toList, GoodS P w e) ∧ (es.toList.map keyS).Nodup ∧ (∀ k, M k = true ↔ k ∈ es.toList.map keyS) ∧
    es.size < scanBound ∧ t.fits es.size = true ∧ es.size = c ∧ Ris t.place.toList ∧ (w.params.followText "set-order" = true ∨ t.led = true)
section
variable {P : Program} {w : World} {h h' : Heap} {a : Addr} {M : Str → Bool} {c : Nat}
theorem SetSR.at (R : SetSR P w h a M c) (k : ∀ o, h.get? a = some o → h'.get? a = some o) : SetSR P w h' a M c := by
  obtain ⟨o, es, ep, t, ho, r⟩ := R
  exact ⟨o, es, ep, t, k o ho, r⟩
theorem SetSR.congr {M' : Str → Bool} (R : SetSR P w h a M c) (e : ∀ k, M' k = M k) : SetSR P w h a M' c := by
  rw [show M' = M from funext e]; exact R
theorem goodS_elems {l : List (Int × Value)} (g : ∀ e ∈ l, GoodS P w e) : ElemsOf (PySem.strKind P w) l := fun e he => by
  obtain ⟨k, tk, h1, h2⟩ := g e he
  exact ⟨⟨k, by rw [h1]; exact strKind_is P w k tk, h2⟩, by rw [h1] <;> rfl⟩
theorem strKind_is_iff (x k : Str) (tk : Tok) : (PySem.strKind P w).is k (.str x tk) = true ↔ x = k := by simp [PySem.strKind, Value.isStrOf]
theorem goodS_is {e : Int × Value} (g : GoodS P w e) (k : Str) : (PySem.strKind P w).is k e.2 = true ↔ keyS e = k := by
  obtain ⟨x, tk, h1, _⟩ := g
  unfold keyS
  rw [h1]
  exact strKind_is_iff x k tk
theorem goodS_mem {l : List (Int × Value)} (g : ∀ e ∈ l, GoodS P w e) (k : Str) : k ∈ l.map keyS ↔ ∃ e ∈ l, (PySem.strKind P w).is k e.2 = true := by
  rw [List.mem_map]
  exact ⟨fun ⟨e, he, q⟩ => ⟨e, he, (goodS_is (g e he) k).2 q⟩, fun ⟨e, he, q⟩ => ⟨e, he, (goodS_is (g e he) k).1 q⟩⟩
theorem setSR_fresh (ho : h.get? a = some { cls := .type "set", dict := none, data := .set #[] 0 (.fresh 0 0 (!w.params.followText "set-order")) }) (xs : List Str) : SetSR P w h a (fun j => decide (j ∈ xs.take 0)) 0 := by
  refine ⟨_, #[], 0, _, ho, ⟨rfl, rfl, rfl⟩, rfl, ?_, List.nodup_nil, ?_, by decide, rfl, rfl, List.Pairwise.nil, ?_⟩
  · intro e he
    cases he
  · intro k
    simp
  · show _ ∨ (!w.params.followText "set-order") = true
    cases w.params.followText "set-order"
    · exact .inr rfl
    · exact .inl rfl
end
section
variable {P : Program} {w : World} {A : Around} {E : Value → Shared → Prop} {s : Shared} {a : Addr} {M : Str → Bool} {c : Nat}
theorem setSR_tail {g : Bool → Sem Unit} (hg : ∀ (b : Bool) (s1 : Shared) (Q' : Unit → Shared → Prop), Q' () s1 → wpAny (model P w) A (g b) Q' E s1)
    {o : Obj} {es es1 : Array (Int × Value)} {ep : Nat} {t t2 : SetTable} {M' : Str → Bool} (ho : s.heap.get? a = some o) (hex : o.ExactSet) (hd : o.data = .set es ep t)
    (g1 : ∀ e ∈ es1.toList, GoodS P w e) (nd1 : (es1.toList.map keyS).Nodup) (m1 : ∀ k, M' k = true ↔ k ∈ es1.toList.map keyS)
    (hb1 : es1.size < scanBound) (hf2 : t2.fits es1.size = true) (hr : Ris t2.place.toList) (hl : w.params.followText "set-order" = true ∨ t2.led = true) {dm : Bool} {R : Option Bool → Shared → Prop}
    (hR : ∀ h', Heap.SameBut a s.heap h' → SetSR P w h' a M' es1.size → R (some true) { s with heap := h' }) :
    wpAny (model P w) A (do
        storeSet a es1 t2
        if (!dm && t2.tooFull) = true then do
            g (relayAll t2 es1 (SetTable.grown es1.size)).2.2
            storeSet a (relayAll t2 es1 (SetTable.grown es1.size)).1 (relayAll t2 es1 (SetTable.grown es1.size)).2.1
            pure (some true)
          else pure (some true)) R E s := by
  have ho1 := store_at (es' := es1) (t' := t2) ho hd
  have sb1 := Heap.SameBut.update s.heap a (Obj.putSet es1 t2)
  refine wpAny_bind (wpAny_storeSet_of ho hd ?_ (fits_of_scanBound hb1))
  split
  · obtain ⟨Z, hZ⟩ : ∃ Z, relayAll t2 es1 (SetTable.grown es1.size) = Z := ⟨_, rfl⟩
    have pm := relayAll_perm t2 es1 (SetTable.grown es1.size)
    have f3 := relayAll_fits t2 es1 (SetTable.grown es1.size)
    have r3 := relayAll_ris t2 es1 (SetTable.grown es1.size)
    have l3 := relayAll_led t2 es1 (SetTable.grown es1.size)
    rw [hZ] at pm f3 r3 l3 ⊢
    obtain ⟨es2, t3, gave⟩ := Z
    dsimp only at pm f3 r3 l3 ⊢
    have hsz : es2.size = es1.size := by
      have := pm.length_eq
      rwa [Array.length_toList, Array.length_toList] at this
    have hb2 : es2.size < scanBound := hsz ▸ hb1
    refine wpAny_bind (hg _ _ _ (wpAny_bind (wpAny_storeSet_of ho1 rfl ?_ (fits_of_scanBound hb2))))
    refine wpAny_pure (hR _ (sb1.trans (Heap.SameBut.update _ a _)) ⟨_, es2, _, t3, store_at (es' := es2) (t' := t3) ho1 rfl, hex, rfl, fun e he => g1 e (pm.mem_iff.mp he), (pm.map keyS).nodup_iff.mpr nd1,
      fun k => (m1 k).trans (pm.map keyS).mem_iff.symm, hb2, f3, hsz, r3, hl.imp id fun z => l3.trans z⟩)
  · exact wpAny_pure (hR _ sb1 ⟨_, es1, _, t2, ho1, hex, rfl, g1, nd1, m1, hb1, hf2, rfl, hr, hl⟩)
theorem setSR_add {k : Str} {tk : Tok} {Q : Bool → Shared → Prop} (R : SetSR P w s.heap a M c) (room : c + 1 < scanBound)
    (hQ : ∀ h', Heap.SameBut a s.heap h' → SetSR P w h' a (fun j => M j || decide (j = k)) (if M k = true then c else c + 1) → Q (!M k) { s with heap := h' }) :
    wpAny (model P w) A (setAddHashed a (.str k tk) ((PySem.strKind P w).hash k)) Q E s := by
  obtain ⟨o, es, ep, t, ho, hex, hd, g, nd, hm, hb, hf, hn, hr, hl⟩ := R
  have isk : (PySem.strKind P w).is k (.str k tk) = true := strKind_is P w k tk
  have sc : (Value.str k tk).scannable = true := rfl
  have el : ElemsOf (PySem.strKind P w) es.toList := goodS_elems g
  have quiet : ∀ (b : Bool) {s1 : Shared} {Q' : Unit → Shared → Prop}, Q' () s1 → wpAny (model P w) A (match b with | true => rule "set.scan.the-table-gave-way" | false => pure ()) Q' E s1 :=
    fun b s1 Q' q => by cases b <;> first | exact wpAny_pure q | exact wpAny_rule q
  unfold setAddHashed setAddHashedIn
  refine wpAny_holding (wpAny_bind (wpAny_setState_of ho hd hf ?_))
  dsimp only
  rw [byScan_of sc hb el]
  simp only [↓reduceIte]
  unfold setAddByScan
  refine wpAny_bind (wpAny_bind (wpAny_rule (wpAny_bind (wpAny_setScan_of isk ho hd hf el ?_))))
  cases hfi : List.findIdx? (fun e => (PySem.strKind P w).is k e.2) es.toList with
  | some j =>
    obtain ⟨hj, pj, _⟩ := List.findIdx?_eq_some_iff_getElem.mp hfi
    have hM : M k = true := (hm k).2 ((goodS_mem g k).2 ⟨es.toList[j], List.getElem_mem hj, pj⟩)
    have q := hQ s.heap (Heap.SameBut.refl a s.heap) ⟨o, es, ep, t, ho, hex, hd, g, nd, fun i => by
      rw [Bool.or_eq_true, decide_eq_true_eq, ← hm i]
      exact ⟨fun z => z.elim id (fun e => e ▸ hM), .inl⟩, hb, hf, by rw [if_pos hM]; exact hn, hr, hl⟩
    rw [hM] at q
    exact wpAny_pure (wpAny_pure q)
  | none =>
    have nk : k ∉ es.toList.map keyS := fun z => by
      obtain ⟨e, he, q⟩ := (goodS_mem g k).1 z
      have := List.findIdx?_eq_none_iff.mp hfi e he
      rw [q] at this
      cases this
    have hM : M k = false := by
      cases q : M k with
      | false => rfl
      | true => exact absurd ((hm k).1 q) nk
    dsimp only
    obtain ⟨Z, hZ⟩ : ∃ Z, layNew t es ((PySem.strKind P w).hash k) (.str k tk) = Z := ⟨_, rfl⟩
    have pm := layNew_perm t es ((PySem.strKind P w).hash k) (.str k tk)
    have f1 := layNew_fits t es ((PySem.strKind P w).hash k) (.str k tk)
    have r1 := layNew_ris t es ((PySem.strKind P w).hash k) (.str k tk) hr
    have l1 := layNew_led t es ((PySem.strKind P w).hash k) (.str k tk)
    rw [hZ] at pm f1 r1 l1 ⊢
    obtain ⟨es1, t1, dm, gave⟩ := Z
    dsimp only at pm f1 r1 l1 ⊢
    rw [Array.toList_push] at pm
    have pc : es1.toList.Perm (((PySem.strKind P w).hash k, Value.str k tk) :: es.toList) := pm.trans (List.perm_append_singleton _ _)
    have pk : (es1.toList.map keyS).Perm (k :: es.toList.map keyS) := pc.map keyS
    have g1 : ∀ e ∈ es1.toList, GoodS P w e := fun e he => by
      rcases List.mem_cons.mp (pc.mem_iff.mp he) with z | z
      · rw [z]; exact ⟨k, tk, rfl, rfl⟩
      · exact g e z
    have nd1 : (es1.toList.map keyS).Nodup := pk.nodup_iff.mpr (List.nodup_cons.mpr ⟨nk, nd⟩)
    have m1 : ∀ i, (M i || decide (i = k)) = true ↔ i ∈ es1.toList.map keyS := fun i => by
      rw [Bool.or_eq_true, decide_eq_true_eq, hm i, pk.mem_iff, List.mem_cons]
      exact Or.comm
    have sz : es1.size = c + 1 := by
      have := pc.length_eq
      rw [Array.length_toList, List.length_cons, Array.length_toList, hn] at this
      exact this
    have hb1 : es1.size < scanBound := sz ▸ room
    have led : w.params.followText "set-order" = true ∨ t1.led = true := hl.imp id fun z => l1.trans z
    have fin : ∀ h', Heap.SameBut a s.heap h' → SetSR P w h' a (fun j => M j || decide (j = k)) es1.size → Q true { s with heap := h' } := fun h' sb r => by
      have q := hQ h' sb
      rw [hM] at q
      rw [sz] at r
      exact q r
    refine wpAny_bind (quiet _ ?_)
    split
    · refine wpAny_bind ?_
      rw [hashByValue_scannable 8 sc]
      refine wpAny_pure (setSR_tail ?_ ho hex hd g1 nd1 m1 hb1 ?_ ?_ ?_ ?_)
      · intro b s1 Q' q
        cases b <;> first | exact wpAny_pure q | exact wpAny_rule q
      · first | (split <;> first | exact f1 | exact SetTable.fits_plain_off f1) | exact f1
      · first | (split <;> exact r1) | exact r1
      · first | (split <;> exact led) | exact led
      · intro h' sb r
        exact wpAny_pure (fin h' sb r)
    · refine wpAny_bind (wpAny_pure ?_)
      simp only [↓reduceIte]
      refine setSR_tail ?_ ho hex hd g1 nd1 m1 hb1 f1 r1 led ?_
      · intro b s1 Q' q
        cases b <;> first | exact wpAny_pure q | exact wpAny_rule q
      · intro h' sb r
        exact wpAny_pure (fin h' sb r)
theorem set_update_strs {I : Addr} {fp wr : List Addr} {G : Array GenState → Array GenState → Prop} {n : Nat} {Pv : Nat → Value → Prop} {St : Nat → Shared → Prop} {R : Result → Shared → Prop}
    (W : WalksS P w A.in1 I fp wr G n Pv St) (S : Addr) (hSf : S ∉ fp) (xs : List Str) (hn : n = xs.length) (hb : xs.length + 1 < scanBound) (hval : ∀ i v, Pv i v → ∃ k t, xs[i]? = some k ∧ v = .str k t) :
    ∀ (k i : Nat) (s : Shared), n - i = k → i ≤ n → St i s → (∃ c, c ≤ i ∧ SetSR P w s.heap S (fun j => decide (j ∈ xs.take i)) c) →
      (∀ s' c, Moved (S :: wr) G s s' → c ≤ n → SetSR P w s'.heap S (fun j => decide (j ∈ xs)) c → R (.ok (.ret .none)) s') →
      codeAny (model P w) A (.builtin "set.update.loop" ⟨[.ref S, .ref I], []⟩) R s
  | 0, i, s, hk, hi, hst, ⟨c, hc, hS⟩, hR => by
    have hin : i = n := by omega
    subst hin
    refine codeAny_builtin F.entry_set_update_loop ?_
    rw [Around.under_plainId F.plain_set_update_loop _]
    show wpAny _ A.in1 (pyNext (.ref I) >>= _) _ _ s
    refine wpAny_bind (W.done s _ _ hst fun s' hm => ?_)
    show wpAny _ A.in1 (ret Value.none) _ _ s'
    rw [show xs.take i = xs from List.take_of_length_le (by omega)] at hS
    exact wpAny_pure (hR s' c (hm.mono fun b hb => List.mem_cons_of_mem _ hb) hc (hS.at fun o e => hm.heap S o (fun h => hSf (W.sub _ h)) e))
  | k + 1, i, s, hk, hi, hst, ⟨c, hc, hS⟩, hR => by
    have hlt : i < n := by omega
    refine codeAny_builtin F.entry_set_update_loop ?_
    rw [Around.under_plainId F.plain_set_update_loop _]
    show wpAny _ A.in1 (pyNext (.ref I) >>= _) _ _ s
    refine wpAny_bind (W.item i s _ _ hlt hst fun v s' hP hst' hm => ?_)
    obtain ⟨z, t, hz, rfl⟩ := hval i v hP
    have hS' : SetSR P w s'.heap S (fun j => decide (j ∈ xs.take i)) c := hS.at fun o e => hm.heap S o (fun h => hSf (W.sub _ h)) e
    show wpAny _ A.in1 (holding [Value.str z t] (setAdd S (.str z t)) >>= _) _ _ s'
    refine wpAny_bind (wpAny_holding ?_)
    unfold setAdd
    refine wpAny_holding (wpAny_bind ((PySem.strKind P w).pyHash (k := z) (strKind_is _ _ _ _) ?_))
    refine setSR_add (s := { s' with toks := s'.toks + 1 }) hS' (by omega) fun h' sb S2 => ?_
    have S3 : SetSR P w h' S (fun j => decide (j ∈ xs.take (i + 1))) (if decide (z ∈ xs.take i) = true then c else c + 1) := S2.congr fun j => by
      rw [List.take_add_one, hz]
      simp [List.mem_append]
    have c3 : (if decide (z ∈ xs.take i) = true then c else c + 1) ≤ i + 1 := by
      split <;> omega
    refine wpAny_pure ⟨plainId_quiet F.plain_set_update_loop _, set_update_strs W S hSf xs hn hb hval k (i + 1) _ (by omega) hlt (W.frame _ s' _ _ hst' (Nat.le_succ _) fun b hb o e => ?_) ⟨_, c3, S3⟩ fun s2 c2 m2 l2 r2 => ?_⟩
    · exact (sb.2 b (fun z => hSf (z ▸ hb))).trans e
    · exact hR s2 c2 (Moved.trans W.gtrans ((hm.mono fun b hb => List.mem_cons_of_mem _ hb).then_heap (Nat.le_succ _) fun b o hb e => (sb.2 b (fun z => hb (z ▸ List.mem_cons_self))).trans e) m2) l2 r2
end
end Fo
/-! Set2: set(v) of texts; sorted of it. Printed by setgen.py. -/
namespace Fo
open PySem PySem.Spec PyProof.Rows L2
section
variable {P : Program} {w : World} {A : Around} {E : Value → Shared → Prop} {s : Shared}
theorem strs_ix : ∀ {vs : List Value} {xs : List Str}, StrsAre vs xs → ∀ (i : Nat) (v : Value), vs[i]? = some v → ∃ k t, xs[i]? = some k ∧ v = .str k t
  | _, _, .nil, i, v, h => by simp at h
  | _, _, .cons x t r, 0, v, h => by
    simp at h
    exact ⟨x, t, rfl, h.symm⟩
  | _, _, .cons x t r, i + 1, v, h => by
    have h' := h
    rw [List.getElem?_cons_succ] at h'
    obtain ⟨k, u, e1, e2⟩ := strs_ix r i v h'
    exact ⟨k, u, by rw [List.getElem?_cons_succ]; exact e1, e2⟩
set_option maxHeartbeats 3200000 in
theorem call_set_list {l : Addr} {items : Array Value} (xs : List Str) {Q : Value → Shared → Prop} (hh : A.handled = none) (hl : s.heap.IsList l items) (hit : StrsAre items.toList xs) (hb : xs.length + 1 < scanBound)
    (h : ∀ (h' : Heap) (tk c : Nat), SetSR P w h' s.heap.objs.size (fun j => decide (j ∈ xs)) c → c ≤ xs.length → (∀ b o, s.heap.get? b = some o → h'.get? b = some o) → Q (.ref s.heap.objs.size) { s with heap := h', toks := tk }) :
    wpAny (model P w) A (call (.type "set") [.ref l]) Q E s := by
  have isz : items.size = xs.length := by
    have q := StrsAre.len_eq hit
    rw [Array.length_toList] at q
    exact q
  obtain ⟨c, tl, hmro⟩ := F.called_set.mro
  have made := F.called_set.made
  have sub := F.called_set.sub
  have nty := F.called_set.notType
  have crt := F.called_set.canCreate
  have tc := F.typeCall_set_1 (.ref l)
  refine wpAny_call (codeAny_of_tree ?_)
  show wpAny _ _ (callAny (.type "set") _) _ _ _
  refine wpAny_pure ⟨Code.quiet_builtin _ (by decide +kernel), codeAny_builtin F.entry_type_call ?_⟩
  rw [Around.under_plain (weight_type_call_type "set" [.ref l] []) rfl]
  repeat (any_goals (first | assumption | wp_step))
  refine codeAny_mono (code_set_led1 (.ref l) (E := E) (Q₁ := fun obj s1 => obj = .ref s.heap.objs.size ∧ s1 = { s with heap := (s.heap.push { cls := .type "set", dict := none, data := .set #[] 0 (.fresh 0 0 (!w.params.followText "set-order")) }) }) ⟨rfl, rfl⟩) fun r s1 hr => ?_
  cases r with
  | error e => exact hr
  | ok fl =>
    cases fl with
    | ret obj =>
      obtain ⟨rfl, rfl⟩ := hr
      have hS : (s.heap.push { cls := .type "set", dict := none, data := .set #[] 0 (.fresh 0 0 (!w.params.followText "set-order")) }).get? s.heap.objs.size = some { cls := .type "set", dict := none, data := .set #[] 0 (.fresh 0 0 (!w.params.followText "set-order")) } := Heap.get?_push_size _ rfl
      have hT : Shared.TypeIs { s with heap := (s.heap.push { cls := .type "set", dict := none, data := .set #[] 0 (.fresh 0 0 (!w.params.followText "set-order")) }) } (.ref s.heap.objs.size) "set" := ⟨_, hS, rfl⟩
      have ili := F.called_set.init.lookup
      have ibi := F.called_set.init.bind (.ref s.heap.objs.size)
      repeat (any_goals (first | assumption | wp_step))
      refine codeAny_mono (codeAny_call_builtin (R := wants (fun r s2 => r = .none ∧ ∃ h' tk c, s2 = { s with heap := h', toks := tk } ∧ SetSR P w h' s.heap.objs.size (fun j => decide (j ∈ xs)) c ∧ c ≤ xs.length ∧
          (∀ b o, s.heap.get? b = some o → h'.get? b = some o)) E) F.called_set.init.plain F.entry_set_init (check_set_init_1 hT ?_)) fun r2 s2 hr2 => ?_
      · obtain ⟨⟨ocls, odict, odata, oslots⟩, hol, hcl, nl, hdl⟩ := hl
        simp only at hcl hdl
        subst hcl; subst hdl
        have hol' : (s.heap.push { cls := .type "set", dict := none, data := .set #[] 0 (.fresh 0 0 (!w.params.followText "set-order")) }).get? l = some { cls := .type "list", dict := odict, data := .seq items nl, slots := oslots } := Heap.get?_push_of_some _ hol
        have n1 := F.sub_list_set
        have n2 := F.sub_list_frozenset
        have n3 : (Value.type "list" == Value.type "dict") = false := by decide
        have hl1 : (s.heap.push { cls := .type "set", dict := none, data := .set #[] 0 (.fresh 0 0 (!w.params.followText "set-order")) }).IsList l items := ⟨_, hol', rfl, nl, rfl⟩
        unfold Builtin.«set.__init__» noKeywords Builtin.Frozenset.updateFrom
        generalize hPI : pyIter = PI
        wp_walk
        subst hPI
        refine wpAny_pyIter_list hl1 ?_
        refine wpAny_bind (wpAny_runValue ?_)
        have hlS : l < s.heap.objs.size := Heap.lt_size hol
        have hh3 : A.in1.in1.in1.handled = none := by simp [hh]
        have nI : l ≠ (s.heap.push { cls := .type "set", dict := none, data := .set #[] 0 (.fresh 0 0 (!w.params.followText "set-order")) }).objs.size := by
          rw [Heap.size_push]; exact Nat.ne_of_lt (Nat.lt_succ_of_lt hlS)
        have nS : s.heap.objs.size ∉ [(s.heap.push { cls := .type "set", dict := none, data := .set #[] 0 (.fresh 0 0 (!w.params.followText "set-order")) }).objs.size, l] := by
          rw [Heap.size_push]; simp only [List.mem_cons, List.not_mem_nil, or_false, not_or]
          exact ⟨Nat.ne_of_lt (Nat.lt_succ_self _), Nat.ne_of_gt hlS⟩
        have hval : ∀ (i : Nat) (v : Value), items[i]? = some v → ∃ k t, xs[i]? = some k ∧ v = .str k t := fun i v hv => strs_ix hit i v (by rw [Array.getElem?_toList]; exact hv)
        refine set_update_strs ((Walks.list hh3 _ l nI items).toS) s.heap.objs.size nS xs isz hb hval (items.size - 0) 0 _ (by omega) (Nat.zero_le _)
          ⟨⟨_, Heap.get?_push_size _ rfl, rfl, rfl⟩, (hl1.push _)⟩ ?hS0 ?hR
        case hS0 =>
          exact ⟨0, Nat.le_refl 0, setSR_fresh (Heap.get?_push_of_some _ hS) xs⟩
        case hR =>
          intro s' c' hm hc' hS'
          obtain ⟨h', g2, d', tk', os'⟩ := s'
          have eg : g2 = s.gens := hm.gens
          have ed : d' = s.drawn := hm.drawn
          have eo : os' = s.os := hm.os
          subst eg; subst ed; subst eo
          show wpAny _ _ _ _ _ _
          refine wpAny_pure ?_
          show wpAny _ _ (ret Value.none) _ _ _
          rw [isz] at hc'
          refine wpAny_pure ⟨rfl, h', tk', c', rfl, hS', hc', fun b o e => ?_⟩
          have hb0 : b < s.heap.objs.size := Heap.lt_size e
          have hb1 : b ≠ s.heap.objs.size := Nat.ne_of_lt hb0
          have hb2 : b ≠ (s.heap.push { cls := .type "set", dict := none, data := .set #[] 0 (.fresh 0 0 (!w.params.followText "set-order")) }).objs.size := by
            rw [Heap.size_push]; exact Nat.ne_of_lt (Nat.lt_succ_of_lt hb0)
          exact hm.heap b o (by simp only [List.mem_cons, List.not_mem_nil, or_false, not_or]; exact ⟨hb1, hb2⟩) (Heap.get?_push_of_some _ (Heap.get?_push_of_some _ e))
      · cases r2 with
        | error e => exact hr2
        | ok fl2 =>
          cases fl2 with
          | ret r =>
            obtain ⟨rfl, h', tk, c', rfl, hS', hc', hk'⟩ := hr2
            repeat (any_goals (first | assumption | wp_step))
            exact h _ _ _ hS' hc' hk'
          | _ => exact hr2.elim
    | _ => exact hr.elim
set_option maxHeartbeats 3200000 in
theorem call_set_str {x : Str} {tk0 : Tok} {Q : Value → Shared → Prop} (hh : A.handled = none) (hb : x.cps.size + 1 < scanBound)
    (h : ∀ (h' : Heap) (tk c : Nat), SetSR P w h' s.heap.objs.size (fun j => decide (j ∈ (x.cps.toList.map fun c => (⟨#[c]⟩ : Str)))) c → c ≤ (x.cps.toList.map fun c => (⟨#[c]⟩ : Str)).length → (∀ b o, s.heap.get? b = some o → h'.get? b = some o) → Q (.ref s.heap.objs.size) { s with heap := h', toks := tk }) :
    wpAny (model P w) A (call (.type "set") [.str x tk0]) Q E s := by
  obtain ⟨c, tl, hmro⟩ := F.called_set.mro
  have made := F.called_set.made
  have sub := F.called_set.sub
  have nty := F.called_set.notType
  have crt := F.called_set.canCreate
  have tc := F.typeCall_set_1 (.str x tk0)
  refine wpAny_call (codeAny_of_tree ?_)
  show wpAny _ _ (callAny (.type "set") _) _ _ _
  refine wpAny_pure ⟨Code.quiet_builtin _ (by decide +kernel), codeAny_builtin F.entry_type_call ?_⟩
  rw [Around.under_plain (weight_type_call_type "set" [.str x tk0] []) rfl]
  repeat (any_goals (first | assumption | wp_step))
  refine codeAny_mono (code_set_led1 (.str x tk0) (E := E) (Q₁ := fun obj s1 => obj = .ref s.heap.objs.size ∧ s1 = { s with heap := (s.heap.push { cls := .type "set", dict := none, data := .set #[] 0 (.fresh 0 0 (!w.params.followText "set-order")) }) }) ⟨rfl, rfl⟩) fun r s1 hr => ?_
  cases r with
  | error e => exact hr
  | ok fl =>
    cases fl with
    | ret obj =>
      obtain ⟨rfl, rfl⟩ := hr
      have hS : (s.heap.push { cls := .type "set", dict := none, data := .set #[] 0 (.fresh 0 0 (!w.params.followText "set-order")) }).get? s.heap.objs.size = some { cls := .type "set", dict := none, data := .set #[] 0 (.fresh 0 0 (!w.params.followText "set-order")) } := Heap.get?_push_size _ rfl
      have hT : Shared.TypeIs { s with heap := (s.heap.push { cls := .type "set", dict := none, data := .set #[] 0 (.fresh 0 0 (!w.params.followText "set-order")) }) } (.ref s.heap.objs.size) "set" := ⟨_, hS, rfl⟩
      have ili := F.called_set.init.lookup
      have ibi := F.called_set.init.bind (.ref s.heap.objs.size)
      repeat (any_goals (first | assumption | wp_step))
      refine codeAny_mono (codeAny_call_builtin (R := wants (fun r s2 => r = .none ∧ ∃ h' tk c, s2 = { s with heap := h', toks := tk } ∧ SetSR P w h' s.heap.objs.size (fun j => decide (j ∈ (x.cps.toList.map fun c => (⟨#[c]⟩ : Str)))) c ∧ c ≤ (x.cps.toList.map fun c => (⟨#[c]⟩ : Str)).length ∧
          (∀ b o, s.heap.get? b = some o → h'.get? b = some o)) E) F.called_set.init.plain F.entry_set_init (check_set_init_1 hT ?_)) fun r2 s2 hr2 => ?_
      · have n1 := F.sub_str_set
        have n2 := F.sub_str_frozenset
        have n3 : (Value.type "str" == Value.type "dict") = false := by decide
        unfold Builtin.«set.__init__» noKeywords Builtin.Frozenset.updateFrom
        generalize hPI : pyIter = PI
        wp_walk
        subst hPI
        refine wpAny_pyIter_str fun io St hW hst => ?_
        refine wpAny_bind (wpAny_runValue ?_)
        have hh3 : A.in1.in1.in1.handled = none := by simp [hh]
        have nS : s.heap.objs.size ∉ [(s.heap.push { cls := .type "set", dict := none, data := .set #[] 0 (.fresh 0 0 (!w.params.followText "set-order")) }).objs.size] := by
          rw [Heap.size_push]; simp only [List.mem_cons, List.not_mem_nil, or_false]
          exact Nat.ne_of_lt (Nat.lt_succ_self _)
        have lx : x.cps.size = (x.cps.toList.map fun c => (⟨#[c]⟩ : Str)).length := by simp
        have hval : ∀ (i : Nat) (v : Value), SignAt x i v → ∃ k t, (x.cps.toList.map fun c => (⟨#[c]⟩ : Str))[i]? = some k ∧ v = .str k t := fun i v hv => by
          obtain ⟨c, u, e, rfl⟩ := hv
          refine ⟨_, u, ?_, rfl⟩
          rw [List.getElem?_map, Array.getElem?_toList, e]
          rfl
        refine set_update_strs ((hW _ hh3).toS) s.heap.objs.size nS (x.cps.toList.map fun c => (⟨#[c]⟩ : Str)) lx (by rw [← lx]; exact hb) hval (x.cps.size - 0) 0 _ (by omega) (Nat.zero_le _) hst ?hS0 ?hR
        case hS0 =>
          exact ⟨0, Nat.le_refl 0, setSR_fresh (Heap.get?_push_of_some _ hS) _⟩
        case hR =>
          intro s' c' hm hc' hS'
          obtain ⟨h', g2, d', tk', os'⟩ := s'
          have eg : g2 = s.gens := hm.gens
          have ed : d' = s.drawn := hm.drawn
          have eo : os' = s.os := hm.os
          subst eg; subst ed; subst eo
          show wpAny _ _ _ _ _ _
          refine wpAny_pure ?_
          show wpAny _ _ (ret Value.none) _ _ _
          rw [lx] at hc'
          refine wpAny_pure ⟨rfl, h', tk', c', rfl, hS', hc', fun b o e => ?_⟩
          have hb0 : b < s.heap.objs.size := Heap.lt_size e
          have hb1 : b ≠ s.heap.objs.size := Nat.ne_of_lt hb0
          have hb2 : b ≠ (s.heap.push { cls := .type "set", dict := none, data := .set #[] 0 (.fresh 0 0 (!w.params.followText "set-order")) }).objs.size := by
            rw [Heap.size_push]; exact Nat.ne_of_lt (Nat.lt_succ_of_lt hb0)
          exact hm.heap b o (by simp only [List.mem_cons, List.not_mem_nil, or_false, not_or]; exact ⟨hb1, hb2⟩) (Heap.get?_push_of_some _ (Heap.get?_push_of_some _ e))
      · cases r2 with
        | error e => exact hr2
        | ok fl2 =>
          cases fl2 with
          | ret r =>
            obtain ⟨rfl, h', tk, c', rfl, hS', hc', hk'⟩ := hr2
            repeat (any_goals (first | assumption | wp_step))
            exact h _ _ _ hS' hc' hk'
          | _ => exact hr2.elim
    | _ => exact hr.elim
theorem strs_are : ∀ (l : List Value), (∀ v ∈ l, ∃ k tk, v = Value.str k tk) → ∃ xs, StrsAre l xs ∧ ∀ f : Value → Str, (∀ k tk, f (Value.str k tk) = k) → xs = l.map f
  | [], _ => ⟨[], .nil, fun _ _ => rfl⟩
  | v :: l, h => by
    obtain ⟨k, tk, rfl⟩ := h v List.mem_cons_self
    obtain ⟨xs, h1, h2⟩ := strs_are l fun u hu => h u (List.mem_cons_of_mem _ hu)
    exact ⟨k :: xs, .cons k tk h1, fun f hf => by rw [List.map_cons, hf, ← h2 f hf]⟩
def valS (v : Value) : Str := match v with
  | .str k _ => k
  | _ => Str.empty
/-- sorted(set) -/
theorem sorted_strset {a : Addr} {M : Str → Bool} {c : Nat} {Q : Value → Shared → Prop} (R : SetSR P w s.heap a M c) (hh : A.handled = none)
    (hQ : ∀ s' p (out : Array Value) (n : Nat) (ys : List Str), (∀ b o, s.heap.get? b = some o → s'.heap.get? b = some o) → s'.gens = s.gens → s'.os = s.os → s.heap.objs.size ≤ p →
      s'.heap.get? p = some (seqObj "list" out n) → StrsAre out.toList ys → sortedS ys = true → ys.Nodup → (∀ k, k ∈ ys ↔ M k = true) → ys.length = c → Q (.ref p) s') :
    wpAny (model P w) A (call (.builtin "sorted") [.ref a]) Q E s := by
  obtain ⟨o, es, ep, t, ho, hex, hd, g, nd, hm, hb, hf, hn, hr, hl⟩ := R
  refine Calls.call_function_entry kind_sorted plain_sorted entry_sorted (args_sorted1 _) ?_
  unfold Builtin.«sorted»
  refine wpAny_bind (m := checkCount "sorted" 1 1 _) (wpAny_pure ?_)
  refine wpAny_bind (collect_set (A := A.in1) hh ⟨o, ho, hex.1, hd⟩ hf hb hr hl fun s1 vs k1 hz g1 o1 pm => ?_)
  have vl : vs.length = c := by rw [pm.length_eq, List.length_map, Array.length_toList]; exact hn
  have lim : vs.length ≤ sizeLine := by
    rw [vl, ← hn]
    exact fits_of_scanBound hb
  obtain ⟨xs, hX, hx⟩ := strs_are vs fun v hv => by
    obtain ⟨e, he, q⟩ := List.mem_map.mp (pm.mem_iff.mp hv)
    obtain ⟨k, tk, h1, _⟩ := g e he
    exact ⟨k, tk, by rw [← q]; exact h1⟩
  have ex := hx valS fun _ _ => rfl
  have pk : xs.Perm (es.toList.map keyS) := by
    have q := pm.map valS
    rw [List.map_map, ← ex] at q
    exact q
  refine wpAny_bind (wpAny_newList ?_ lim)
  have hoL : (s1.heap.push (seqObj "list" vs.toArray 0)).get? s1.heap.objs.size = some (seqObj "list" vs.toArray 0) := Heap.get?_push_size _ rfl
  refine wpAny_bind (wpAny_holding (wpAny_call_entry slot_list_sort ⟨_, hoL, rfl⟩ entry_list_sort (list_sort_treeKAny strKind_oneLt hoL hX.keysOf (fun v1 v2 rest e => keyKind_strs (by rw [← e]; exact hX)) lim fun st a1 a2 => ⟨_, rfl, ?_⟩) (args_list_sort _)))
  obtain ⟨ys, y1, y2, y3⟩ := sorted_out_str hX a1 a2
  obtain ⟨n, hc⟩ := sortedHeap_at (vs := vs) (out := (arrOf st).map (·.2)) hoL
  have pn : ys.Perm (es.toList.map keyS) := y2.trans pk
  refine wpAny_pure ⟨_, rfl, hQ _ s1.heap.objs.size _ n ys (fun b u e => ?_) g1 o1 hz hc y1 y3 (pn.nodup_iff.mpr nd) (fun k => by rw [pn.mem_iff, ← hm k]) ?_⟩
  · have q := k1 b u e
    have lt := Heap.lt_size q
    show (sortedHeap (s1.heap.push (seqObj "list" vs.toArray 0)) s1.heap.objs.size vs _).get? b = some u
    rw [sortedHeap_old (Nat.ne_of_lt lt) (by rw [size_push']; exact Nat.lt_succ_of_lt lt)]
    exact Heap.get?_push_of_some _ q
  · rw [pn.length_eq, List.length_map, Array.length_toList]; exact hn
end
end Fo
/-! Set3: sorted(set(v)) as a mirror. -/
namespace Fo
open PySem PySem.Spec PyProof.Rows L2
variable {K : Kw}
def SetSO (P : Program) (w : World) (a : Addr) (xs : List Str) : HO := .ext fun h => ∃ c, c ≤ xs.length ∧ SetSR P w h a (fun j => decide (j ∈ xs)) c
theorem setSO_new {P : Program} {w : World} {H : Hp} {h : Heap} {a : Addr} {xs : List Str} {c : Nat} (hc : c ≤ xs.length) (R : SetSR P w h a (fun j => decide (j ∈ xs)) c) : ObjOk P w H h a (SetSO P w a xs) := by
  have ⟨o, _, _, _, ho, _⟩ := R
  exact ⟨⟨c, hc, R⟩, ⟨o, ho⟩, fun h1 h2 ⟨c2, l2, p⟩ k => ⟨c2, l2, p.at k⟩⟩
def rSetS (K : Kw) (P : Program) (w : World) : List V → Hp → VK → Prop := fun vs H Q =>
  (∃ (l : Addr) (xs : List Str), vs = [V.ref l] ∧ SqL K H l (xs.map V.str) ∧ xs.length + 1 < scanBound ∧ ∀ p, H p = none → Q (.ref p) (upd H p (SetSO P w p xs))) ∨
  (∃ x : Str, vs = [V.str x] ∧ x.cps.size + 1 < scanBound ∧ ∀ p, H p = none → Q (.ref p) (upd H p (SetSO P w p (x.cps.toList.map fun c => ⟨#[c]⟩))))
theorem cr_setS {X : Cx} (hc : X.calm = true) : CallR X (.type "set") (rSetS X.kw X.prog X.w) := by
  intro pins s σ H vs us Q I r h
  have hn : H s.heap.objs.size = none := I.hok.fresh (Nat.le_refl _)
  rcases h with ⟨l, xs, rfl, hl, hb, q⟩ | ⟨x, rfl, hb, q⟩
  · obtain ⟨its, rv, pl, hz⟩ := I.list hl
    rw [Vals.ref1 r]
    refine call_set_list (P := X.prog) (w := X.w) xs (I.ok.hd hc) pl.isList (by simpa using rv.strs) hb fun h' tk c R hc k => ?_
    exact ⟨.ref s.heap.objs.size, upd H s.heap.objs.size (SetSO X.prog X.w s.heap.objs.size xs), I.laid (t' := tk) k (Nat.le_refl _) (setSO_new hc R), rfl, q _ hn⟩
  · obtain ⟨u, rfl, t, rfl⟩ := vals1 r
    refine call_set_str (P := X.prog) (w := X.w) (I.ok.hd hc) hb fun h' tk c R hc k => ?_
    exact ⟨.ref s.heap.objs.size, upd H s.heap.objs.size (SetSO X.prog X.w s.heap.objs.size _), I.laid (t' := tk) k (Nat.le_refl _) (setSO_new hc R), rfl, q _ hn⟩
def rSortedSS (P : Program) (w : World) : List V → Hp → VK → Prop := fun vs H Q => ∃ (a : Addr) (xs : List Str), vs = [V.ref a] ∧ H a = some (SetSO P w a xs) ∧ xs.length ≤ sizeLine ∧
  ∀ (ys : List Str) (p : Addr), ys.Nodup → sortedS ys = true → (∀ k, k ∈ ys ↔ k ∈ xs) → H p = none → Q (.ref p) (upd H p (.lst (ys.map V.str)))
theorem cr_sortedSS {X : Cx} (hc : X.calm = true) : CallR X (.builtin "sorted") (rSortedSS X.prog X.w) := by
  intro pins s σ H vs us Q I r h
  obtain ⟨a, xs, rfl, ha, hz, q⟩ := h
  have R0 : ∃ c, c ≤ xs.length ∧ SetSR X.prog X.w s.heap a (fun j => decide (j ∈ xs)) c := (I.hok a _ ha).1
  obtain ⟨c, hcl, R⟩ := R0
  rw [Vals.ref1 r]
  refine sorted_strset R (I.ok.hd hc) fun s' p out n ys k g o hp hg hout so nd hm hl => ?_
  have hlen : (ys.map V.str).length ≤ sizeLine := by rw [List.length_map, hl]; omega
  have hn : H p = none := I.hok.fresh hp
  have J : Inv X pins σ (upd H p (.lst (ys.map V.str))) { s with heap := s'.heap, gens := s'.gens, drawn := s'.drawn, toks := s'.toks } :=
    I.call (ch := []) (Un.laid k hp hn) (I.hok.laid k hp ⟨hlen, out.toList, n, vals_of_strs hout, hg⟩) (by rw [g]; exact I.bare) (fun _ z => nomatch z)
  have e : s' = { s with heap := s'.heap, gens := s'.gens, drawn := s'.drawn, toks := s'.toks } := by
    cases s'
    cases s
    cases o
    rfl
  rw [e]
  exact ⟨.ref p, _, J, rfl, q ys p nd so (fun k => by rw [hm k, decide_eq_true_eq]) hn⟩
/-- the members, rising, each once -/
def ssetF : List D → Sto → (List D → Sto → Prop) → Prop := fun ds S k => match ds with
  | [.str s] => s.length < 4000 ∧ ∀ us : List Nat, us.Nodup → us.Pairwise (· < ·) → (∀ c, c ∈ us ↔ c ∈ s) → k (signs us) S
  | [.lst l] => match strsOf l with
    | some ts => ts.length < 4000 ∧ ∀ us : List (List Nat), us.Nodup → rises us → (∀ t, t ∈ us ↔ t ∈ ts) → k (us.map D.str) S
    | none => False
  | _ => False
theorem ssetF_mono (ds S) (Q Q' : List D → Sto → Prop) (h : ∀ w S', Q w S' → Q' w S') (q : ssetF ds S Q) : ssetF ds S Q' := by
  unfold ssetF at q ⊢
  split at q
  · exact ⟨q.1, fun us h1 h2 h3 => h _ _ (q.2 us h1 h2 h3)⟩
  · split at q
    · exact ⟨q.1, fun us h1 h2 h3 => h _ _ (q.2 us h1 h2 h3)⟩
    · exact q.elim
  · exact q.elim
theorem tx_injE {a b : List Nat} (h : tx a = tx b) : a = b := tx_inj.mp h
theorem strs_untx (ys : List Str) : ∃ us : List (List Nat), ys = us.map tx := by
  refine ⟨ys.map fun x => x.cps.toList, ?_⟩
  rw [List.map_map]
  conv => lhs; rw [← List.map_id ys]
  exact List.map_congr_left fun x _ => (tx_tl x).symm
theorem nodup_untx {us : List (List Nat)} (h : (us.map tx).Nodup) : us.Nodup := List.Pairwise.of_map tx (fun _ _ hne e => hne (congrArg tx e)) h
theorem mem_tx {us : List (List Nat)} {t : List Nat} : tx t ∈ us.map tx ↔ t ∈ us := by
  rw [List.mem_map]
  exact ⟨fun ⟨a, h, e⟩ => tx_injE e ▸ h, fun h => ⟨t, h, rfl⟩⟩
theorem rises_one : ∀ {us : List Nat}, (us.map fun c => [c]).Nodup → rises (us.map fun c => [c]) → us.Pairwise (· < ·)
  | [], _, _ => List.Pairwise.nil
  | [_], _, _ => List.pairwise_singleton _ _
  | x :: y :: r, nd, h => by
    have h' : ¬ ([y] : List Nat) < [x] ∧ rises ((y :: r).map fun c => [c]) := h
    have nd' : ((y :: r).map fun c => [c]).Nodup := (List.nodup_cons.mp nd).2
    have ih := rises_one nd' h'.2
    have hxy : x < y := by
      have ne : x ≠ y := fun z => by
        subst z
        exact (List.nodup_cons.mp nd).1 (by simp)
      have nl : ¬ y < x := fun z => h'.1 (List.Lex.rel z)
      omega
    refine List.pairwise_cons.mpr ⟨fun z hz => ?_, ih⟩
    rcases List.mem_cons.mp hz with rfl | hz
    · exact hxy
    · exact Nat.lt_trans hxy ((List.pairwise_cons.mp ih).1 z hz)
def rSset (K : Kw) (P : Program) (w : World) : List V → Hp → VK → Prop := fun vs H Q => rSetS K P w vs H fun x H2 => rSortedSS P w [x] H2 Q
theorem ssetM {P : Program} {w : World} : NewM K (rSset K P w) ssetF := by
  intro A B H S ds vs k Q c r h af
  unfold ssetF at h
  split at h
  · rename_i s
    obtain ⟨v, rfl, r1⟩ := r.one
    obtain ⟨hz, h⟩ := h
    have e1 : v = .str (tx s) := r1.str
    subst e1
    have hl : (tx s).cps.toList = s := tx_toList s
    have hl2 : (tx s).cps.size = s.length := by rw [← Array.length_toList, hl]
    refine .inr ⟨tx s, rfl, by rw [hl2]; unfold scanBound; omega, fun p hp => ⟨p, _, rfl, upd_same, ?_, fun ys q nd so hm hq => ?_⟩⟩
    · rw [List.length_map, Array.length_toList, hl2]
      unfold sizeLine
      omega
    · rw [hl] at hm
      obtain ⟨zs, rfl⟩ := strs_untx ys
      have all1 : ∀ t ∈ zs, ∃ c ∈ s, t = [c] := fun t ht => by
        obtain ⟨c, hc, e⟩ := List.mem_map.mp ((hm (tx t)).1 (mem_tx.2 ht))
        exact ⟨c, hc, (tx_injE (a := [c]) (b := t) e).symm⟩
      obtain ⟨us, rfl⟩ : ∃ us : List Nat, zs = us.map fun c => [c] := by
        refine ⟨zs.map fun t => t.headD 0, ?_⟩
        rw [List.map_map]
        conv => lhs; rw [← List.map_id zs]
        exact List.map_congr_left fun t ht => by
          obtain ⟨c, _, rfl⟩ := all1 t ht
          rfl
      have nd1 := nodup_untx nd
      have nd2 : us.Nodup := List.Pairwise.of_map (fun c => [c]) (fun _ _ hne e => hne (congrArg (fun c => [c]) e)) nd1
      have hk := h us nd2 (rises_one nd1 (rises_of so)) fun c => by
        have q1 : tx [c] ∈ (us.map fun c => [c]).map tx ↔ c ∈ us := by
          rw [mem_tx, List.mem_map]
          exact ⟨fun ⟨a, h, e⟩ => by injection e with e; exact e ▸ h, fun h => ⟨c, h, rfl⟩⟩
        rw [← q1, hm]
        rw [List.mem_map]
        exact ⟨fun ⟨a, h, e⟩ => by
          have e2 := tx_injE (a := [a]) (b := [c]) e
          injection e2 with e2
          exact e2 ▸ h, fun h => ⟨c, h, rfl⟩⟩
      have e3 : signs us = (us.map fun c => [c]).map D.str := by
        unfold signs
        rw [List.map_map]
        rfl
      rw [e3] at hk
      exact af _ _ hk A _ q _ (Keep.upd hp) (c.upd hp) (strs_rel _) hq
  · split at h
    · rename_i l ts e
      obtain ⟨v, rfl, r1⟩ := r.one
      obtain ⟨a, us, rfl, e1, t⟩ := r1.lst
      rw [strsOf_ok t e] at e1
      refine .inl ⟨a, ts.map tx, rfl, .inl (.inl e1), by rw [List.length_map]; unfold scanBound; omega, fun p hp => ⟨p, _, rfl, upd_same, ?_, fun ys q nd so hm hq => ?_⟩⟩
      · rw [List.length_map]
        unfold sizeLine
        omega
      · obtain ⟨zs, rfl⟩ := strs_untx ys
        have hk := h.2 zs (nodup_untx nd) (rises_of so) fun t => by
          have := hm (tx t)
          rw [mem_tx, mem_tx] at this
          exact this
        exact af _ _ hk A _ q _ (Keep.upd hp) (c.upd hp) (strs_rel _) hq
    · exact h.elim
  · exact h.elim
theorem pnm_sset {X : Cx} {e : Expr} {es : List Expr} {args : MA} (ha : PAm X es args) (hp : ∀ t, PA X es t → PE X e (tCB (rSortedSS X.prog X.w) (tCons (tCB (rSetS X.kw X.prog X.w) t) tNil))) : PNm X e (nCallB ssetF args) :=
  pnm_callB (r := rSset X.kw X.prog X.w) ssetM ssetF_mono ha fun t h => hp t h
end Fo
/-! Ms: the mirrors of the defs first met in this law. Printed by gen.py. -/
namespace Fo
open PySem PySem.Spec PyProof.Rows L2
def t__law_row_on : MF := mfun 6
    (sSeq (sSet 3 (mCell (nLst aNil)))
    (sSeq (sFor (iZip2 false (aCons (mVar 0) (aCons (mVar 1) aNil))) (gTupM (gsCons (gVar 4) (gsCons (gVar 5) gsNil))) (sSeq (sAsg (mCall t__law_read_on (aCons (mVar 4) (aCons (mVar 5) (aCons (mVar 2) aNil))) []) (gTupM (gsCons (gVar 5) (gsCons (gVar 2) gsNil))))
    (sExpr (mMethC appendF (mVar 3) (aCons (mVar 5) aNil)))))
    (sRet (mTup (aCons (mCallB tupleC (aCons (mVar 3) aNil)) (aCons (mVar 2) aNil))))))
theorem m__law_row_on : MonoF t__law_row_on := mfun_mono
def t__law_row_end : MF := mfun 6
    (sSeq (sSet 2 (mC (.str [])))
    (sSeq (sFor (iZip2 false (aCons (mVar 0) (aCons (mVar 1) aNil))) (gTupM (gsCons (gVar 3) (gsCons (gVar 4) gsNil))) (sSeq (sAsg (mCall t__law_read_on (aCons (mVar 3) (aCons (mVar 4) (aCons (mVar 2) aNil))) []) (gTupM (gsCons (gVar 4) (gsCons (gVar 5) gsNil))))
    (sSeq (sIf (mCond (mBin (isD false) (mBin ixD (mBin ixD (mBin ixD (mVar 3) (mC (.int 2))) (mVar 4)) (mC (.int 1))) (mC .non))) (sRet (mC .non)) sNext)
    (sSet 2 (mBin addD (mVar 5) (mBin ixD (mBin ixD (mBin ixD (mVar 3) (mC (.int 2))) (mVar 4)) (mC (.int 1))))))))
    (sRet (mVar 2))))
theorem m__law_row_end : MonoF t__law_row_end := mfun_mono
end Fo
/-! Ms: the mirrors of the defs first met in this law. Printed by gen.py. -/
/-! Ms: the mirrors of the defs first met in this law. Printed by gen.py. -/
/-! Frz1: a slot's cell is data from now on (nothing runs for it). -/
/-! Srt1: sorted(a list of data that can be compared). -/
/-! Ms: the mirrors of the defs first met in this law. Printed by gen.py. -/
namespace Fo
open PySem PySem.Spec PyProof.Rows L2
def t_is_number : MF := mfun 2
    (sRet (mAnd (mIsi "int" (mVar 0)) (mAnd (mNot (mIsi "bool" (mVar 0))) (mChain leD ltD (mC (.int 0)) (mVar 0) (mVar 1)))))
theorem m_is_number : MonoF t_is_number := mfun_mono
end Fo
/-! Dic1: dicts whose keys are tuples: what they hold, a store. -/
namespace Fo
open PySem PySem.Spec PyProof.Rows L2
/-! ### keys -/
mutual
inductive KeyV (H : Hp) : V → NestedKey → Prop
  | non : KeyV H .non .none
  | bl (b : Bool) : KeyV H (.bl b) (.num (if b = true then 1 else 0))
  | int (i : Int) : KeyV H (.int i) (.num i)
  | str (x : Str) : KeyV H (.str x) (.text x)
  | tup {a : Addr} {vs : List V} {ks : List NestedKey} (e : H a = some (.tup vs)) (h : KeyVs H vs ks) : KeyV H (.ref a) (.tup ks)
inductive KeyVs (H : Hp) : List V → List NestedKey → Prop
  | nil : KeyVs H [] []
  | cons {v : V} {k : NestedKey} {vs : List V} {ks : List NestedKey} (h : KeyV H v k) (t : KeyVs H vs ks) : KeyVs H (v :: vs) (k :: ks)
end
mutual
/-- what may be a key -/
def Kb : D → Prop
  | .non => True
  | .bl _ => True
  | .int _ => True
  | .str _ => True
  | .tup l => Kbs l
  | _ => False
def Kbs : List D → Prop
  | [] => True
  | d :: ds => Kb d ∧ Kbs ds
end
variable {K : Kw}
mutual
theorem RV.key {H : Hp} {av : Addr → Prop} : ∀ {d : D} {v : V}, RV K H av d v → Kb d → KeyV H v (nk d)
  | .non, _, h, _ => by unfold RV at h; subst h; exact .non
  | .bl b, _, h, _ => by unfold RV at h; subst h; exact .bl b
  | .int b, _, h, _ => by unfold RV at h; subst h; exact .int b
  | .str b, _, h, _ => by unfold RV at h; subst h; exact .str _
  | .tup ds, _, h, q => by
    unfold RV at h
    obtain ⟨a, vs, rfl, r, _, t⟩ := h
    unfold Kb at q
    exact .tup r (RVs.key t q)
  | .lst _, _, _, q => by unfold Kb at q; exact q.elim
  | .dct _ _, _, _, q => by unfold Kb at q; exact q.elim
  | .scr _, _, _, q => by unfold Kb at q; exact q.elim
theorem RVs.key {H : Hp} {av : Addr → Prop} : ∀ {ds : List D} {vs : List V}, RVs K H av ds vs → Kbs ds → KeyVs H vs (nks ds)
  | [], _, h, _ => by unfold RVs at h; subst h; exact .nil
  | d :: ds, _, h, q => by
    unfold RVs at h
    obtain ⟨v, r, rfl, h1, h2⟩ := h
    unfold Kbs at q
    exact .cons (RV.key h1 q.1) (RVs.key h2 q.2)
end
mutual
theorem KeyV.is {X : Cx} {pins : List (Addr × Obj)} {σ : L2.St} {H : Hp} {s : Shared} (I : Inv X pins σ H s) : ∀ {v : V} {k : NestedKey} {u : Value}, KeyV H v k → RelV v u → NestedIs s.heap k u
  | _, _, u, .non, r => by cases (show u = Value.none from r); exact .none
  | _, _, u, .bl b, r => by cases (show u = Value.bool b from r); exact .bool rfl
  | _, _, u, .int i, r => by obtain ⟨t, rfl⟩ := (show ∃ t, u = Value.int i t from r); exact .int i t
  | _, _, u, .str x, r => by obtain ⟨t, rfl⟩ := (show ∃ t, u = Value.str x t from r); exact .text x t
  | _, _, u, .tup (a := a) e h, r => by
    cases (show u = Value.ref a from r)
    obtain ⟨_, its, rv, o, h1, h2, n, h3⟩ := (show ObjOk X.prog X.w H s.heap a (.tup _) from I.hok a _ e)
    exact .tup h1 h2 h3 (by simpa using KeyVs.is I h rv)
theorem KeyVs.is {X : Cx} {pins : List (Addr × Obj)} {σ : L2.St} {H : Hp} {s : Shared} (I : Inv X pins σ H s) : ∀ {vs : List V} {ks : List NestedKey} {us : List Value}, KeyVs H vs ks → Vals vs us → NestedAll s.heap ks us
  | _, _, _, .nil, r => by cases r; exact .nil
  | _, _, _, .cons h t, r => by
    cases r with
    | cons r1 r2 => exact .cons (KeyV.is I h r1) (KeyVs.is I t r2)
end
/-! ### what a dict holds -/
end Fo
/-! Dic3: dicts whose keys are whole numbers and texts: locked, walked, read, stored into. -/
namespace Fo
open PySem PySem.Spec PyProof.Rows L2
variable {K : Kw}
/-! ### a cell is data from now on -/
theorem Cells.lock {H : Hp} {A : List (Option Addr)} {B : Addr → Prop} {S : Sto} (c : Cells K H A B S) {n : Nat} {a : Addr} {o : HO} (ha : A[n]? = some (some a)) :
    Cells K (L2.upd H a o) (A.set n none) B (S.set n .dead) ∧ Keep A H (A.set n none) (L2.upd H a o) ∧ ¬ av (A.set n none) B a := by
  obtain ⟨c1, k1, n1⟩ := c.freeze ha
  have k : Keep A H (A.set n none) (L2.upd H a o) := by
    refine ⟨fun b u e z => ?_, k1.len, k1.ix⟩
    have hb : b ≠ a := fun w => z (w ▸ List.mem_of_getElem? ha)
    rw [upd_ne hb]
    exact k1.st b u e z
  refine ⟨⟨c1.len, fun m x ob e1 e2 => ?_, c1.inj, c1.off, fun b hb => ?_, by obtain ⟨o', e'⟩ := c.sys; exact ⟨o', by rw [upd_ne (show sysModules ≠ a from fun z => c.soff (z ▸ List.mem_of_getElem? ha))]; exact e'⟩, c1.soff⟩, k, n1⟩
  · by_cases h : n = m
    · subst h
      have := c1.at_ n x ob e1 e2
      rw [List.getElem?_set_self (List.getElem?_eq_some_iff.mp ha).1] at e1
      cases e1
      cases ob <;> exact this
    · have e1' := e1
      rw [List.getElem?_set_ne h] at e1 e2
      have q := c.at_ m x ob e1 e2
      cases x with
      | none => cases ob <;> exact q
      | some b =>
        have hb : b ≠ a := fun w => h (c.inj n m a ha (w ▸ e1))
        cases ob with
        | dead => exact q
        | lst ds =>
          obtain ⟨vs, h1, h2⟩ := q
          exact ⟨vs, by rw [upd_ne hb]; exact h1, RVs.stay k.stay h2⟩
        | dic ks ws =>
          obtain ⟨u, kv, vs, h1, h2, h3, h4⟩ := q
          exact ⟨u, kv, vs, by rw [upd_ne hb]; exact h1, h2, RVs.stay k.stay h3, RVs.stay k.stay h4⟩
  · by_cases w : b = a
    · subst w
      rw [upd_same]
      intro z
      cases z
    · rw [upd_ne w]
      exact c1.dom b hb
/-! ### keys -/
def keyOf : D → Option Key
  | .int i => some (.inl i)
  | .str l => some (.inr (tx l))
  | _ => none
theorem RV.keyD {H : Hp} {av : Addr → Prop} (k : Key) : RV K H av (keyD k) (kV k) := by
  cases k with
  | inl i => unfold Fo.keyD RV; rfl
  | inr x =>
    unfold Fo.keyD RV
    show V.str x = _
    rw [tx_tl]
/-- all keys are whole numbers, texts -/
def KsOk (ks : List D) : Prop := ∃ kys : List Key, ks = kys.map Fo.keyD
/-! ### reading -/
def kAt : List D → List D → Key → Option D
  | k :: ks, w :: ws, x => if keyOf k = some x then some w else kAt ks ws x
  | _, _, _ => none
def kSet : List D → List D → Key → D → List D
  | k :: ks, w :: ws, x, d => (if keyOf k = some x then d else w) :: kSet ks ws x d
  | _, _, _, _ => []
def kPut (ks ws : List D) (x : Key) (d : D) : List D × List D := if (kAt ks ws x).isSome then (ks, kSet ks ws x d) else (ks ++ [Fo.keyD x], ws ++ [d])
end Fo
/-! Dic4: d[k], d.get(k, x), d[k] = v, {}, {k: v}, for keys that are whole numbers, texts. -/
namespace Fo
open PySem PySem.Spec PyProof.Rows L2
variable {K : Kw}
/-- a dict is wanted -/
def asDic (w : W) (S : Sto) (k : List D → List D → Prop) : Prop := match w with
  | .val (.dct ks ws) => k ks ws
  | .ref n => match S[n]? with
    | some (.dic ks ws) => k ks ws
    | _ => False
  | _ => False
def dicC (w : W) (S : Sto) (k : Nat → List D → List D → Prop) : Prop := match w with
  | .ref n => match S[n]? with
    | some (.dic ks ws) => k n ks ws
    | _ => False
  | _ => False
def keyW (z : W) (k : Key → Prop) : Prop := match z with
  | .val (.int i) => k (.inl i)
  | .val (.str l) => k (.inr (tx l))
  | _ => False
theorem keyW_mono {z : W} {k k' : Key → Prop} (h : ∀ x, k x → k' x) (q : keyW z k) : keyW z k' := by
  unfold keyW at q ⊢
  split at q <;> first | exact h _ q | exact q.elim
theorem keyW_ok {H : Hp} {A : List (Option Addr)} {B : Addr → Prop} {z : W} {v : V} {k : Key → Prop} (r : RW K H A B z v) (h : keyW z k) : ∃ x, v = kV x ∧ k x := by
  unfold keyW at h
  split at h
  · rename_i i
    have r' : RV K H (av A B) (.int i) v := r
    unfold RV at r'
    exact ⟨.inl i, r', h⟩
  · rename_i l
    have r' : RV K H (av A B) (.str l) v := r
    unfold RV at r'
    exact ⟨.inr (tx l), r', h⟩
  · exact h.elim
/-! ### d[k] -/
def atK (o : Option D) (S : Sto) (k : KW) : Prop := match o with
  | some d => k (.val d) S
  | none => False
def mDGet (o i : ME) : ME := fun ρ S k => o ρ S fun w S1 => i ρ S1 fun z S2 => asDic w S2 fun ks ws => keyW z fun x => KsOk ks ∧ atK (kAt ks ws x) S2 k
/-! ### d.get(k, x) -/
def mDGet2 (o i e : ME) : ME := fun ρ S k => o ρ S fun w S1 => asDic w S1 fun ks _ => KsOk ks ∧ i ρ S1 fun z S2 => e ρ S2 fun u S3 => asDic w S3 fun ks ws => keyW z fun x => KsOk ks ∧ match kAt ks ws x with
  | some d => k (.val d) S3
  | none => k u S3
/-! ### d[k] = v -/
def sDPut (o i e : ME) : MS := fun E ρ S => e ρ S fun u S1 => o ρ S1 fun w S2 => i ρ S2 fun z S3 => dicC w S3 fun n ks ws => keyW z fun x => match u with
  | .val d => (KsOk ks ∧ ks.length < sizeLine) ∧ E.nx ρ (S3.set n (.dic (kPut ks ws x d).1 (kPut ks ws x d).2))
  | _ => False
/-! ### {}, {k: v} -/
def mDNew : ME := fun ρ S k => k (.ref S.length) (S ++ [.dic [] []])
def mDNew1 (t e : ME) : ME := fun ρ S k => t ρ (S ++ [.dic [] []]) fun z S1 => e ρ S1 fun u S2 => keyW z fun x => match u with
  | .val d => S2[S.length]? = some (.dic [] []) ∧ k (.ref S.length) (S2.set S.length (.dic [keyD x] [d]))
  | _ => False
/-! ### steps of a walk -/
section
variable {ρ : Rho} {S : Sto} {k : KW} {E : End} {w : W} {d : D} {i n : Nat} {t u e : ME} {ks ws : List D}
theorem asDic_v {kd : List D → List D → Prop} (q : kd ks ws) : asDic (.val (.dct ks ws)) S kd := q
theorem asDic_r {kd : List D → List D → Prop} (h : S[n]? = some (.dic ks ws)) (q : kd ks ws) : asDic (.ref n) S kd := by
  unfold asDic
  simp only [h]
  exact q
theorem dicC_r {kd : Nat → List D → List D → Prop} (h : S[n]? = some (.dic ks ws)) (q : kd n ks ws) : dicC (.ref n) S kd := by
  unfold dicC
  simp only [h]
  exact q
theorem keyW_i {x : Int} {kk : Key → Prop} (q : kk (.inl x)) : keyW (.val (.int x)) kk := q
theorem keyW_s {s : List Nat} {kk : Key → Prop} (q : kk (.inr (tx s))) : keyW (.val (.str s)) kk := q
theorem mDGet_i (q : t ρ S fun w S1 => u ρ S1 fun z S2 => asDic w S2 fun ks ws => keyW z fun x => KsOk ks ∧ atK (kAt ks ws x) S2 k) : mDGet t u ρ S k := q
theorem mDGet2_i (q : t ρ S fun w S1 => asDic w S1 fun ks _ => KsOk ks ∧ u ρ S1 fun z S2 => e ρ S2 fun u S3 => asDic w S3 fun ks ws => keyW z fun x => KsOk ks ∧ match kAt ks ws x with
  | some d => k (.val d) S3
  | none => k u S3) : mDGet2 t u e ρ S k := q
theorem sDPut_i (q : e ρ S fun u' S1 => t ρ S1 fun w S2 => u ρ S2 fun z S3 => dicC w S3 fun n ks ws => keyW z fun x => match u' with
  | .val d => (KsOk ks ∧ ks.length < sizeLine) ∧ E.nx ρ (S3.set n (.dic (kPut ks ws x d).1 (kPut ks ws x d).2))
  | _ => False) : sDPut t u e E ρ S := q
theorem mDNew_i (q : k (.ref S.length) (S ++ [.dic [] []])) : mDNew ρ S k := q
theorem mDNew1_i (q : t ρ (S ++ [.dic [] []]) fun z S1 => e ρ S1 fun u S2 => keyW z fun x => match u with
  | .val d => S2[S.length]? = some (.dic [] []) ∧ k (.ref S.length) (S2.set S.length (.dic [Fo.keyD x] [d]))
  | _ => False) : mDNew1 t e ρ S k := q
end
end Fo
/-! Ms: the mirrors of the defs first met in this law. Printed by gen.py. -/
/-! Dic2: dicts whose keys are tuples, in the clean domain. -/
namespace Fo
open PySem PySem.Spec PyProof.Rows L2
variable {K : Kw}
def KeyT (d : D) : Prop := (∃ l, d = .tup l) ∧ Kb d ∧ (nk d).depth ≤ 8
def dAt : List D → List D → NestedKey → Option D
  | k :: ks, w :: ws, x => if nk k = x then some w else dAt ks ws x
  | _, _, _ => none
def dSet : List D → List D → NestedKey → D → List D
  | k :: ks, w :: ws, x, d => (if nk k = x then d else w) :: dSet ks ws x d
  | _, _, _, _ => []
def dPut (ks ws : List D) (key d : D) : List D × List D := if (dAt ks ws (nk key)).isSome then (ks, dSet ks ws (nk key) d) else (ks ++ [key], ws ++ [d])
/-- how the two sides of a dict hang together -/
structure DT (K : Kw) (H : Hp) (av : Addr → Prop) (ks ws : List D) (ys : List (NestedKey × Addr × V)) : Prop where
  key : nks ks = ys.map (·.1)
  kv : RVs K H av ks (ys.map fun y => V.ref y.2.1)
  vs : RVs K H av ws (ys.map (·.2.2))
/-! ### in -/
end Fo
/-! Dic5: d[k], d[k] = v, {k: v}, for keys that are tuples. -/
namespace Fo
open PySem PySem.Spec PyProof.Rows L2
variable {K : Kw}
def keyTW (z : W) (k : D → Prop) : Prop := match z with
  | .val d => KeyT d ∧ k d
  | _ => False
/-! ### d[k] -/
def mDGetT (o i : ME) : ME := fun ρ S k => o ρ S fun w S1 => i ρ S1 fun z S2 => asDic w S2 fun ks ws => keyTW z fun x => (∀ k ∈ ks, KeyT k) ∧ atK (dAt ks ws (nk x)) S2 k
/-! ### d[k] = v -/
theorem nks_len : ∀ ks : List D, (nks ks).length = ks.length
  | [] => rfl
  | k :: ks => by
    show (nks ks).length + 1 = _
    rw [nks_len ks]
    rfl
theorem DT.len {K : Kw} {H : Hp} {av : Addr → Prop} {ks ws : List D} {ys : List (NestedKey × Addr × V)} (h : DT K H av ks ws ys) : ys.length = ks.length := by
  have := congrArg List.length h.key
  rw [nks_len, List.length_map] at this
  exact this.symm
def sDPutT (o i e : ME) : MS := fun E ρ S => e ρ S fun u S1 => o ρ S1 fun w S2 => i ρ S2 fun z S3 => dicC w S3 fun n ks ws => keyTW z fun x => match u with
  | .val d => ((∀ k ∈ ks, KeyT k) ∧ ks.length < sizeLine) ∧ E.nx ρ (S3.set n (.dic (dPut ks ws x d).1 (dPut ks ws x d).2))
  | _ => False
/-! ### {k: v} -/
def mDNewT (t e : ME) : ME := fun ρ S k => t ρ (S ++ [.dic [] []]) fun z S1 => e ρ S1 fun u S2 => keyTW z fun x => match u with
  | .val d => S2[S.length]? = some (.dic [] []) ∧ k (.ref S.length) (S2.set S.length (.dic [x] [d]))
  | _ => False
/-! ### steps of a walk -/
section
variable {ρ : Rho} {S : Sto} {k : KW} {E : End} {w : W} {d : D} {i n : Nat} {t u e : ME} {ks ws : List D}
theorem mDGetT_i (q : t ρ S fun w S1 => u ρ S1 fun z S2 => asDic w S2 fun ks ws => keyTW z fun x => (∀ k ∈ ks, KeyT k) ∧ atK (dAt ks ws (nk x)) S2 k) : mDGetT t u ρ S k := q
theorem sDPutT_i (q : e ρ S fun u' S1 => t ρ S1 fun w S2 => u ρ S2 fun z S3 => dicC w S3 fun n ks ws => keyTW z fun x => match u' with
  | .val d => ((∀ k ∈ ks, KeyT k) ∧ ks.length < sizeLine) ∧ E.nx ρ (S3.set n (.dic (dPut ks ws x d).1 (dPut ks ws x d).2))
  | _ => False) : sDPutT t u e E ρ S := q
theorem mDNewT_i (q : t ρ (S ++ [.dic [] []]) fun z S1 => e ρ S1 fun u S2 => keyTW z fun x => match u with
  | .val d => S2[S.length]? = some (.dic [] []) ∧ k (.ref S.length) (S2.set S.length (.dic [x] [d]))
  | _ => False) : mDNewT t e ρ S k := q
end
end Fo
/-! Par3: a, b, c = x, y, z. -/
namespace Fo
open PySem PySem.Spec PyProof.Rows L2
variable {K : Kw}
def sPar3 (i j l : Nat) (t : MA) : MS := fun E ρ S => t ρ S fun ws S1 => match ws with
  | [w, u, v] => E.nx (((ρ.set i (some w)).set j (some u)).set l (some v)) S1
  | _ => False
theorem psm_par3 {X : Cx} {st : Stmt} {es : List Expr} {i j l : Nat} {t : MA} (h : PAm X es t) (hp : ∀ ta, PA X es ta → PS X st (tPar3 i j l ta)) : PSm X st (sPar3 i j l t) := by
  refine ⟨(hp _ h.pa).imp ?_, fun E E' ρ S le q => h.mono ρ S _ _ (fun ws S1 q1 => ?_) q⟩
  · rintro D σ H ⟨A, B, ρ, S, E, r, h, a⟩
    refine upA_then r h fun ws S1 A1 vs H1 h1 k1 r1 rws => ?_
    split at h1
    · rename_i w u v
      cases rws with
      | cons q1 q2 =>
        cases q2 with
        | cons q3 q4 =>
          obtain ⟨v2, rfl, q5⟩ := RWs.one q4
          exact ⟨_, _, v2, rfl, a.nx _ _ h1 A1 _ H1 k1 (((r1.set q1).set q3).set q5)⟩
    · exact h1.elim
  · split at q1
    · exact le.nx _ _ q1
    · exact q1.elim
def parK3 (i j l : Nat) (E : End) (ρ : Rho) (ws : List W) (S : Sto) : Prop := match ws with
  | [w, u, v] => E.nx (((ρ.set i (some w)).set j (some u)).set l (some v)) S
  | _ => False
theorem sPar3_i {i j l : Nat} {args : MA} {E : End} {ρ : Rho} {S : Sto} (q : args ρ S fun ws S1 => parK3 i j l E ρ ws S1) : sPar3 i j l args E ρ S := q
theorem par3_i {i j l : Nat} {w w2 w3 : W} {E : End} {ρ : Rho} {S : Sto} (q : E.nx (((ρ.set i (some w)).set j (some w2)).set l (some w3)) S) : parK3 i j l E ρ [w, w2, w3] S := q
end Fo
/-! Ms: the mirrors of the defs first met in this law. Printed by gen.py. -/
/-! Ms: the mirrors of the defs first met in this law. Printed by gen.py. -/
/-! Ms: the mirrors of the defs first met in this law. Printed by gen.py. -/
/-! Core13: small facts for the plain laws. -/
namespace Fo
open PySem PySem.Spec PyProof.Rows L2
theorem atI_nat {α : Type} {l : List α} {n : Nat} {x : α} (h : l[n]? = some x) : atI l (n : Int) = some x := by
  have hn : n < l.length := (List.getElem?_eq_some_iff.mp h).1
  unfold atI ixN
  rw [if_pos (by omega), if_pos (by omega)]
  simpa using h
theorem atI_in {α : Type} {l : List α} {i : Int} (h0 : 0 ≤ i) (h1 : i < l.length) : ∃ x, atI l i = some x ∧ x ∈ l ∧ l[i.toNat]? = some x := by
  have hn : i.toNat < l.length := by omega
  refine ⟨l[i.toNat], ?_, List.getElem_mem hn, List.getElem?_eq_getElem hn⟩
  have e := atI_nat (l := l) (n := i.toNat) (List.getElem?_eq_getElem hn)
  rw [Int.toNat_of_nonneg h0] at e
  exact e
theorem ixN_in {n : Nat} {i : Int} (h0 : 0 ≤ i) (h1 : i < n) : ixN n i = some i.toNat := by
  unfold ixN
  rw [if_pos h0, if_pos h1]
theorem mul_b {a b A B : Int} (h1 : 0 ≤ a) (h2 : a ≤ A) (h3 : 0 ≤ b) (h4 : b ≤ B) : 0 ≤ a * b ∧ a * b ≤ A * B :=
  ⟨Int.mul_nonneg h1 h3, Int.mul_le_mul h2 h4 h3 (by omega)⟩
theorem emod_b (a : Int) {b : Int} (h : 0 < b) : 0 ≤ a % b ∧ a % b < b := ⟨Int.emod_nonneg a (by omega), Int.emod_lt_of_pos a h⟩
theorem all_ints {p : Int → Bool} {l : List D} (h : (l.all fun d => match d with
    | .int i => p i
    | _ => false) = true) {d : D} (hd : d ∈ l) : ∃ i, d = .int i ∧ p i = true := by
  have q := List.all_eq_true.mp h d hd
  cases d with
  | int i => exact ⟨i, rfl, q⟩
  | _ => cases q
theorem rng_cons (lo : Int) (n : Nat) : rangeL lo (n + 1) = .int lo :: rangeL (lo + 1) n := by
  unfold rangeL
  rw [List.range_succ_eq_map, List.map_cons, List.map_map]
  congr 1
  · simp
  · apply List.map_congr_left
    intro i _
    simp only [Function.comp]
    congr 1
    push_cast
    omega
end Fo
/-! Pen: what the laws draw by. -/
local macro_rules | `(tactic| array_get_dec) => `(tactic| repeat (first | (with_reducible refine Fo.sSeq_i ?_) | (with_reducible refine Fo.sNext_i ?_) | (with_reducible refine Fo.sBrk_i ?_) | (with_reducible refine Fo.sCont_i ?_) | (with_reducible refine Fo.sExpr_i ?_) | (with_reducible refine Fo.sRet_i ?_) | (with_reducible refine Fo.sRetN_i ?_) | (with_reducible refine Fo.sIf_i ?_) | (with_reducible refine Fo.sSet_i ?_) | (with_reducible refine Fo.sAsg_i ?_) | (with_reducible refine Fo.sPar_i ?_) | (with_reducible refine Fo.mC_i ?_) | (with_reducible refine Fo.mBin_i ?_) | (with_reducible refine Fo.mCond_i ?_) | (with_reducible refine Fo.cAnd_i ?_) | (with_reducible refine Fo.cOr_i ?_) | (with_reducible refine Fo.cNot_i ?_) | (with_reducible refine Fo.cYes_i ?_) | (with_reducible refine Fo.mIf_i ?_) | (with_reducible refine Fo.mAnd_i ?_) | (with_reducible refine Fo.mOr_i ?_) | (with_reducible refine Fo.mNot_i ?_) | (with_reducible refine Fo.mNeg_i ?_) | (with_reducible refine Fo.mChain_i ?_) | (with_reducible refine Fo.mSlice_i ?_) | (with_reducible refine Fo.mRev_i ?_) | (with_reducible refine Fo.aNil_i ?_) | (with_reducible refine Fo.aCons_i ?_) | (with_reducible refine Fo.mVal_i ?_) | (with_reducible refine Fo.mCell_i ?_) | (with_reducible refine Fo.nLst_i ?_) | (with_reducible refine Fo.mTup_i ?_) | (with_reducible refine Fo.mCallB_i ?_) | (with_reducible refine Fo.nCallB_i ?_) | (with_reducible refine Fo.mIsi_i ?_) | (with_reducible refine Fo.mIsiT_i ?_) | (with_reducible refine Fo.mMethC_i ?_) | (with_reducible refine Fo.mMethC0_i ?_) | (with_reducible refine Fo.mMethS_i ?_) | (with_reducible refine Fo.mIndexL_i ?_) | (with_reducible refine Fo.iVal_i ?_) | (with_reducible refine Fo.iRange1_i ?_) | (with_reducible refine Fo.iRange2_i ?_) | (with_reducible refine Fo.iEnumL_i ?_) | (with_reducible refine Fo.iZip_i ?_) | (with_reducible refine Fo.iZip2_i ?_) | (with_reducible refine Fo.iZip3_i ?_) | (with_reducible refine Fo.asZ2_i ?_) | (with_reducible refine Fo.asZ3_i ?_) | (with_reducible refine Fo.iEnum1_i ?_) | (with_reducible refine Fo.asE1_i ?_) | (with_reducible refine Fo.nBin_i ?_) | (with_reducible refine Fo.sAugX_i ?_) | (with_reducible refine Fo.sFor_i ?_) | (with_reducible refine Fo.nLC_i ?_) | (with_reducible refine Fo.mCall_i ?_) | (with_reducible refine Fo.mCallK_i ?_) | (with_reducible refine Fo.gVar_i ?_) | (with_reducible refine Fo.gTupM_i ?_) | (with_reducible refine Fo.gsCons_i ?_) | (with_reducible refine Fo.gsNil_i ?_) | (with_reducible refine Fo.gIx_i ?_) | (with_reducible refine Fo.asB_i ?_) | (with_reducible refine Fo.asI_i ?_) | (with_reducible refine Fo.asS_i ?_) | (with_reducible refine Fo.oNo_i ?_) | (with_reducible refine Fo.oAt_i ?_) | (with_reducible refine Fo.asI1_i ?_) | (with_reducible refine Fo.asI2_i ?_) | (with_reducible refine Fo.asL1_i ?_) | (with_reducible refine Fo.rd_v ?_) | (with_reducible refine Fo.par_i ?_) | (with_reducible refine Fo.vals_n ?_) | (with_reducible refine Fo.vals_c ?_) | (with_reducible refine Fo.rds_n ?_) | (with_reducible refine Fo.rds_c ?_) | (with_reducible refine Fo.add_i ?_) | (with_reducible refine Fo.iadd_i ?_) | (with_reducible refine Fo.sub_i ?_) | (with_reducible refine Fo.lt_i ?_) | (with_reducible refine Fo.le_i ?_) | (with_reducible refine Fo.gt_i ?_) | (with_reducible refine Fo.ge_i ?_) | (with_reducible refine Fo.lt_s ?_) | (with_reducible refine Fo.le_s ?_) | (with_reducible refine Fo.gt_s ?_) | (with_reducible refine Fo.ge_s ?_) | (with_reducible refine Fo.is_n ?_) | (with_reducible refine Fo.is_b ?_) | (with_reducible refine Fo.eq_i ?_) | (with_reducible refine Fo.eq_s ?_) | (with_reducible refine Fo.eq_b ?_) | (with_reducible refine Fo.in_s ?_) | (with_reducible refine Fo.sl_t ?_) | (with_reducible refine Fo.sl_l ?_) | (with_reducible refine Fo.sl_c ?_) | (with_reducible refine Fo.len_l ?_) | (with_reducible refine Fo.len_t ?_) | (with_reducible refine Fo.min2_i ?_) | (with_reducible refine Fo.tuple_l ?_) | (with_reducible refine Fo.tuple_t ?_) | (with_reducible refine Fo.listF_l ?_) | (with_reducible refine Fo.listF_t ?_) | (with_reducible refine Fo.itV_l ?_) | (with_reducible refine Fo.itV_t ?_) | (with_reducible refine Fo.itV_s ?_) | (with_reducible refine Fo.asZ_l ?_) | (with_reducible refine Fo.asZ_t ?_) | (with_reducible refine Fo.lstW_v ?_) | (with_reducible refine Fo.rev_t ?_) | (with_reducible refine Fo.rev_l ?_) | (with_reducible refine Fo.seqW_l ?_) | (with_reducible refine Fo.seqW_t ?_) | (with_reducible refine Fo.seqW_s ?_) | (with_reducible refine Fo.nostrict ?_) | (with_reducible refine Fo.int1_b ?_) | (with_reducible refine Fo.int1_i ?_) | ((with_reducible refine Fo.mVar_i (w := ?_) ?_ ?_); (rotate_left); (exact rfl)) | ((with_reducible refine Fo.rd_l (l := ?_) ?_ ?_); (rotate_left); (exact rfl)) | ((with_reducible refine Fo.lstW_r (l := ?_) ?_ ?_); (rotate_left); (exact rfl)) | ((with_reducible refine Fo.sAug_i (w := ?_) ?_ ?_); (rotate_left); (exact rfl)) | ((with_reducible refine Fo.asCell_i (l := ?_) ?_ ?_); (rotate_left); (exact rfl)) | ((with_reducible refine Fo.mFrz_v (d := ?_) ?_ ?_); (rotate_left); (exact rfl)) | ((with_reducible refine Fo.rd_d (ks := ?_) (ws := ?_) ?_ ?_); (rotate_left 2); (exact rfl)) | ((with_reducible refine Fo.mFrz_r (n := ?_) (l := ?_) ?_ ?_ ?_); (rotate_left 2); (exact rfl); (exact rfl)) | ((with_reducible refine Fo.ix_t (d := ?_) ?_ ?_); (rotate_left); (exact rfl)) | ((with_reducible refine Fo.ix_l (d := ?_) ?_ ?_); (rotate_left); (exact rfl)) | ((with_reducible refine Fo.gput_i (p := ?_) ?_ ?_); (rotate_left); (exact rfl)) | ((with_reducible refine Fo.mod_i ?_ ?_); (omega)) | ((with_reducible refine Fo.pow_i ?_ ?_); (exact ⟨by omega, by omega, by omega⟩)) | ((with_reducible refine Fo.mul_i ?_ ?_); (unfold L2.CMul; omega)) | ((with_reducible refine Fo.fdiv_i ?_ ?_); (unfold L2.CDiv; omega)) | ((with_reducible refine And.intro ?_ ?_); (exact Nat.le_of_ble_eq_true rfl)) | ((with_reducible refine Fo.add_l ?_ ?_); (exact Nat.le_of_ble_eq_true rfl)) | ((with_reducible refine Fo.addN_l ?_ ?_); (exact Nat.le_of_ble_eq_true rfl)) | ((with_reducible refine Fo.add_t ?_ ?_); (exact Nat.le_of_ble_eq_true rfl)) | ((with_reducible refine Fo.add_s ?_ ?_); (exact Nat.le_of_ble_eq_true rfl)) | ((with_reducible refine Fo.append_i ?_ ?_); (exact Nat.le_of_ble_eq_true rfl)) | ((with_reducible refine Fo.sl_s ?_ ?_); (exact Nat.le_of_ble_eq_true rfl)) | ((with_reducible refine Fo.len_s ?_ ?_); (exact Nat.le_of_ble_eq_true rfl)) | (with_reducible refine Fo.if_t rfl ?_) | (with_reducible refine Fo.if_f rfl ?_) | (with_reducible refine Fo.fin_v ?_) | (dsimp only)))
local macro_rules | `(tactic| array_mem_dec) => `(tactic| repeat (first | (with_reducible refine Fo.sNext_i ?_) | (with_reducible refine Fo.sBrk_i ?_) | (with_reducible refine Fo.sCont_i ?_) | (with_reducible refine Fo.sExpr_i ?_) | (with_reducible refine Fo.sRet_i ?_) | (with_reducible refine Fo.sRetN_i ?_) | (with_reducible refine Fo.sIf_i ?_) | (with_reducible refine Fo.sSet_i ?_) | (with_reducible refine Fo.sAsg_i ?_) | (with_reducible refine Fo.sPar_i ?_) | (with_reducible refine Fo.mC_i ?_) | (with_reducible refine Fo.mBin_i ?_) | (with_reducible refine Fo.mCond_i ?_) | (with_reducible refine Fo.cAnd_i ?_) | (with_reducible refine Fo.cOr_i ?_) | (with_reducible refine Fo.cNot_i ?_) | (with_reducible refine Fo.cYes_i ?_) | (with_reducible refine Fo.mIf_i ?_) | (with_reducible refine Fo.mAnd_i ?_) | (with_reducible refine Fo.mOr_i ?_) | (with_reducible refine Fo.mNot_i ?_) | (with_reducible refine Fo.mNeg_i ?_) | (with_reducible refine Fo.mChain_i ?_) | (with_reducible refine Fo.mSlice_i ?_) | (with_reducible refine Fo.mRev_i ?_) | (with_reducible refine Fo.aNil_i ?_) | (with_reducible refine Fo.aCons_i ?_) | (with_reducible refine Fo.mVal_i ?_) | (with_reducible refine Fo.mCell_i ?_) | (with_reducible refine Fo.nLst_i ?_) | (with_reducible refine Fo.mTup_i ?_) | (with_reducible refine Fo.mCallB_i ?_) | (with_reducible refine Fo.nCallB_i ?_) | (with_reducible refine Fo.mIsi_i ?_) | (with_reducible refine Fo.mIsiT_i ?_) | (with_reducible refine Fo.mMethC_i ?_) | (with_reducible refine Fo.mMethC0_i ?_) | (with_reducible refine Fo.mMethS_i ?_) | (with_reducible refine Fo.mIndexL_i ?_) | (with_reducible refine Fo.iVal_i ?_) | (with_reducible refine Fo.iRange1_i ?_) | (with_reducible refine Fo.iRange2_i ?_) | (with_reducible refine Fo.iEnumL_i ?_) | (with_reducible refine Fo.iZip_i ?_) | (with_reducible refine Fo.iZip2_i ?_) | (with_reducible refine Fo.iZip3_i ?_) | (with_reducible refine Fo.asZ2_i ?_) | (with_reducible refine Fo.asZ3_i ?_) | (with_reducible refine Fo.iEnum1_i ?_) | (with_reducible refine Fo.asE1_i ?_) | (with_reducible refine Fo.nBin_i ?_) | (with_reducible refine Fo.sAugX_i ?_) | (with_reducible refine Fo.sFor_i ?_) | (with_reducible refine Fo.nLC_i ?_) | (with_reducible refine Fo.mCall_i ?_) | (with_reducible refine Fo.mCallK_i ?_) | (with_reducible refine Fo.gVar_i ?_) | (with_reducible refine Fo.gTupM_i ?_) | (with_reducible refine Fo.gsCons_i ?_) | (with_reducible refine Fo.gsNil_i ?_) | (with_reducible refine Fo.gIx_i ?_) | (with_reducible refine Fo.asB_i ?_) | (with_reducible refine Fo.asI_i ?_) | (with_reducible refine Fo.asS_i ?_) | (with_reducible refine Fo.oNo_i ?_) | (with_reducible refine Fo.oAt_i ?_) | (with_reducible refine Fo.asI1_i ?_) | (with_reducible refine Fo.asI2_i ?_) | (with_reducible refine Fo.asL1_i ?_) | (with_reducible refine Fo.rd_v ?_) | (with_reducible refine Fo.par_i ?_) | (with_reducible refine Fo.vals_n ?_) | (with_reducible refine Fo.vals_c ?_) | (with_reducible refine Fo.rds_n ?_) | (with_reducible refine Fo.rds_c ?_) | (with_reducible refine Fo.add_i ?_) | (with_reducible refine Fo.iadd_i ?_) | (with_reducible refine Fo.sub_i ?_) | (with_reducible refine Fo.lt_i ?_) | (with_reducible refine Fo.le_i ?_) | (with_reducible refine Fo.gt_i ?_) | (with_reducible refine Fo.ge_i ?_) | (with_reducible refine Fo.lt_s ?_) | (with_reducible refine Fo.le_s ?_) | (with_reducible refine Fo.gt_s ?_) | (with_reducible refine Fo.ge_s ?_) | (with_reducible refine Fo.is_n ?_) | (with_reducible refine Fo.is_b ?_) | (with_reducible refine Fo.eq_i ?_) | (with_reducible refine Fo.eq_s ?_) | (with_reducible refine Fo.eq_b ?_) | (with_reducible refine Fo.in_s ?_) | (with_reducible refine Fo.sl_t ?_) | (with_reducible refine Fo.sl_l ?_) | (with_reducible refine Fo.sl_c ?_) | (with_reducible refine Fo.len_l ?_) | (with_reducible refine Fo.len_t ?_) | (with_reducible refine Fo.min2_i ?_) | (with_reducible refine Fo.tuple_l ?_) | (with_reducible refine Fo.tuple_t ?_) | (with_reducible refine Fo.listF_l ?_) | (with_reducible refine Fo.listF_t ?_) | (with_reducible refine Fo.itV_l ?_) | (with_reducible refine Fo.itV_t ?_) | (with_reducible refine Fo.itV_s ?_) | (with_reducible refine Fo.asZ_l ?_) | (with_reducible refine Fo.asZ_t ?_) | (with_reducible refine Fo.lstW_v ?_) | (with_reducible refine Fo.rev_t ?_) | (with_reducible refine Fo.rev_l ?_) | (with_reducible refine Fo.seqW_l ?_) | (with_reducible refine Fo.seqW_t ?_) | (with_reducible refine Fo.seqW_s ?_) | (with_reducible refine Fo.nostrict ?_) | (with_reducible refine Fo.int1_b ?_) | (with_reducible refine Fo.int1_i ?_) | ((with_reducible refine Fo.mVar_i (w := ?_) ?_ ?_); (rotate_left); (exact rfl)) | ((with_reducible refine Fo.rd_l (l := ?_) ?_ ?_); (rotate_left); (exact rfl)) | ((with_reducible refine Fo.lstW_r (l := ?_) ?_ ?_); (rotate_left); (exact rfl)) | ((with_reducible refine Fo.sAug_i (w := ?_) ?_ ?_); (rotate_left); (exact rfl)) | ((with_reducible refine Fo.asCell_i (l := ?_) ?_ ?_); (rotate_left); (exact rfl)) | ((with_reducible refine Fo.mFrz_v (d := ?_) ?_ ?_); (rotate_left); (exact rfl)) | ((with_reducible refine Fo.rd_d (ks := ?_) (ws := ?_) ?_ ?_); (rotate_left 2); (exact rfl)) | ((with_reducible refine Fo.mFrz_r (n := ?_) (l := ?_) ?_ ?_ ?_); (rotate_left 2); (exact rfl); (exact rfl)) | ((with_reducible refine Fo.ix_t (d := ?_) ?_ ?_); (rotate_left); (exact rfl)) | ((with_reducible refine Fo.ix_l (d := ?_) ?_ ?_); (rotate_left); (exact rfl)) | ((with_reducible refine Fo.gput_i (p := ?_) ?_ ?_); (rotate_left); (exact rfl)) | ((with_reducible refine Fo.mod_i ?_ ?_); (omega)) | ((with_reducible refine Fo.pow_i ?_ ?_); (exact ⟨by omega, by omega, by omega⟩)) | ((with_reducible refine Fo.mul_i ?_ ?_); (unfold L2.CMul; omega)) | ((with_reducible refine Fo.fdiv_i ?_ ?_); (unfold L2.CDiv; omega)) | ((with_reducible refine And.intro ?_ ?_); (exact Nat.le_of_ble_eq_true rfl)) | ((with_reducible refine Fo.add_l ?_ ?_); (exact Nat.le_of_ble_eq_true rfl)) | ((with_reducible refine Fo.addN_l ?_ ?_); (exact Nat.le_of_ble_eq_true rfl)) | ((with_reducible refine Fo.add_t ?_ ?_); (exact Nat.le_of_ble_eq_true rfl)) | ((with_reducible refine Fo.add_s ?_ ?_); (exact Nat.le_of_ble_eq_true rfl)) | ((with_reducible refine Fo.append_i ?_ ?_); (exact Nat.le_of_ble_eq_true rfl)) | ((with_reducible refine Fo.sl_s ?_ ?_); (exact Nat.le_of_ble_eq_true rfl)) | ((with_reducible refine Fo.len_s ?_ ?_); (exact Nat.le_of_ble_eq_true rfl)) | (with_reducible refine Fo.if_t rfl ?_) | (with_reducible refine Fo.if_f rfl ?_) | (with_reducible refine Fo.fin_v ?_) | (dsimp only)))
local macro_rules | `(tactic| sizeOf_list_dec) => `(tactic| ((try dsimp only); (with_reducible refine Fo.sSeq_i ?_); array_mem_dec))
namespace Fo
open PySem PySem.Spec PyProof.Rows L2
theorem t_spread {cell at_ : Int} {k : KW} (h0 : 0 ≤ at_) (h1 : at_ ≤ 1000000000) (hk : ∀ r, k (.val (.int r)) []) : t__law_spread [.val (.int cell), .val (.int at_)] [] k := by
  have prime : ∀ i : Int, ∃ p : Int, atI ([D.int 2147483629, D.int 2147483587, D.int 2147483579, D.int 2147483563, D.int 2147483549, D.int 2147483543, D.int 2147483497, D.int 2147483489] ++
                [D.int 2147483477, D.int 2147483423, D.int 2147483399, D.int 2147483353, D.int 2147483323]) (i % 13) = some (.int p) ∧ 0 < p ∧ p < 2147483648 := fun i => by
    obtain ⟨b1, b2⟩ := emod_b i (show (0 : Int) < 13 by decide)
    obtain ⟨d, e, m, _⟩ := atI_in (l := [D.int 2147483629, D.int 2147483587, D.int 2147483579, D.int 2147483563, D.int 2147483549, D.int 2147483543, D.int 2147483497, D.int 2147483489] ++
                [D.int 2147483477, D.int 2147483423, D.int 2147483399, D.int 2147483353, D.int 2147483323]) b1 b2
    obtain ⟨p, rfl, q⟩ := all_ints (p := fun i => decide (0 < i) && decide (i < 2147483648)) rfl m
    simp at q
    exact ⟨p, e, q.1, q.2⟩
  unfold t__law_spread
  refine mfun_of ?_
  array_get_dec
  refine if_d (fun h => ?_) fun h => ?_
  · array_get_dec
    exact hk _
  · array_get_dec
    obtain ⟨a1, a2⟩ := emod_b cell (show (0 : Int) < 1000000007 by decide)
    obtain ⟨a3, a4⟩ := mul_b a1 (show _ ≤ (1000000007 : Int) by omega) (show 0 ≤ 2 * at_ + 69069 by omega) (show 2 * at_ + 69069 ≤ 2000069069 by omega)
    generalize cell % 1000000007 * (2 * at_ + 69069) = c1 at a3 a4 ⊢
    obtain ⟨p1, e1, l1, u1⟩ := prime at_
    obtain ⟨p2, e2, l2, u2⟩ := prime (at_ + 5)
    obtain ⟨p3, e3, l3, u3⟩ := prime (at_ + 7)
    array_get_dec
    refine ix_l e1 ?_
    array_get_dec
    obtain ⟨b1, b2⟩ := emod_b ((c1 + at_ * 40503 + 977) ^ Int.toNat 3) l1
    generalize (c1 + at_ * 40503 + 977) ^ Int.toNat 3 % p1 = one at b1 b2 ⊢
    array_get_dec
    obtain ⟨b3, b4⟩ := mul_b b1 (show one ≤ 2147483648 by omega) (show 0 ≤ at_ + 3 by omega) (show at_ + 3 ≤ 1000000003 by omega)
    obtain ⟨b5, b6⟩ := emod_b cell (show (0 : Int) < 65537 by decide)
    generalize one * (at_ + 3) = c2 at b3 b4 ⊢
    array_get_dec
    refine ix_l e2 ?_
    array_get_dec
    obtain ⟨b7, b8⟩ := emod_b ((c2 + cell % 65537 + 5) ^ Int.toNat 5) l2
    generalize (c2 + cell % 65537 + 5) ^ Int.toNat 5 % p2 = two at b7 b8 ⊢
    obtain ⟨b9, b10⟩ := emod_b one (show (0 : Int) < 1009 by decide)
    array_get_dec
    refine ix_l e3 ?_
    array_get_dec
    exact hk _
/-- a pen, of which at most m cells were taken -/
def Pen (m : Nat) (p : Ob) : Prop := ∃ (cs : List Int) (at_ rest : Int), p = .lst [.lst (cs.map D.int), .int at_, .int rest] ∧ 0 ≤ at_ ∧ at_ ≤ m
theorem Pen.nd {m : Nat} {p : Ob} (h : Pen m p) : p ≠ .dead := by
  obtain ⟨_, _, _, rfl, _⟩ := h
  intro z
  cases z
theorem Pen.mono {m n : Nat} {p : Ob} (h : Pen m p) (l : m ≤ n) : Pen n p := by
  obtain ⟨a, b, c, e, h0, h1⟩ := h
  exact ⟨a, b, c, e, h0, by omega⟩
theorem t_take {m : Nat} {p : Ob} {n : Int} {k : KW} (hp : Pen m p) (h0 : 0 < n) (hn : n < 1073741824) (hm : m < 1000000000) (hk : ∀ r p', 0 ≤ r → r < n → Pen (m + 1) p' → k (.val (.int r)) [p']) :
    t__law_take [.ref 0, .val (.int n)] [p] k := by
  obtain ⟨cs, at_, rest, rfl, a0, a1⟩ := hp
  unfold t__law_take
  refine mfun_of ?_
  refine sSeq_cut (fun ρ S => ∃ at' rest' x y, ρ = [some (.ref 0), some (.val (.int n)), none, x, y] ∧ S = [.lst [.lst (cs.map D.int), .int at', .int rest']] ∧ 0 ≤ at' ∧ at' ≤ m + 1) (fun ρ S h => ?_) fun K hK => ?_
  · obtain ⟨at', rest', x, y, rfl, rfl, b0, b1⟩ := h
    obtain ⟨c0, c1⟩ := emod_b rest' h0
    array_get_dec
    exact hk _ _ c0 c1 ⟨cs, at', rest' / n, rfl, b0, by omega⟩
  · array_get_dec
    refine if_d (fun h => ?_) fun h => ?_
    · refine sSeq_i ?_
      array_mem_dec
      refine sSeq_i ?_
      array_mem_dec
      refine sSeq_cut (fun ρ S => ∃ cell : Int, ρ = [some (.ref 0), some (.val (.int n)), none, some (.val (.int at_)), some (.val (.int cell))] ∧ S = [.lst [.lst (cs.map D.int), .int at_, .int rest]]) (fun ρ S h => ?_) fun K2 hK2 => ?_
      · obtain ⟨cell, rfl, rfl⟩ := h
        array_get_dec
        refine call_0 rfl (t_spread a0 (by omega) fun r => ?_) m__law_spread
        array_get_dec
        exact hK _ _ ⟨at_ + 1, r, _, _, rfl, rfl, by omega, by omega⟩
      · array_mem_dec
        refine if_d (fun h => ?_) fun h => ?_
        · obtain ⟨d, e, md, _⟩ := atI_in (l := cs.map D.int) a0 h
          obtain ⟨i, _, rfl⟩ := List.mem_map.mp md
          array_get_dec
          refine ix_l e ?_
          array_get_dec
          exact hK2 _ _ ⟨i, rfl, rfl⟩
        · array_get_dec
          refine if_d (fun h2 => ?_) fun h2 => ?_
          · array_get_dec
            obtain ⟨c0, c1⟩ := emod_b (at_ * 5 + 3) h2
            obtain ⟨d, e, md, _⟩ := atI_in (l := cs.map D.int) c0 c1
            obtain ⟨i, _, rfl⟩ := List.mem_map.mp md
            refine ix_l e ?_
            array_get_dec
            refine mod_i (by rw [show (10 : Int) ^ Int.toNat 17 = 100000000000000000 from rfl]; omega) ?_
            array_get_dec
            exact hK2 _ _ ⟨_, rfl, rfl⟩
          · array_get_dec
            exact hK2 _ _ ⟨_, rfl, rfl⟩
    · array_get_dec
      exact hK _ _ ⟨at_, rest, _, _, rfl, rfl, a0, by omega⟩
end Fo
/-! Pen2: the pen's beginning; texts, signs drawn. -/
namespace Fo
open PySem PySem.Spec PyProof.Rows L2
theorem cutL_none {α : Type} (l : List α) (n : Nat) : cutL l none (some (n : Int)) = l.take n := by
  unfold cutL
  rw [show HT.sIx l.length 0 none = 0 from rfl, HT.sIx_nat]
  simp [List.take_eq_take_iff]
theorem cutL_both {α : Type} (l : List α) (m n : Nat) : cutL l (some (m : Int)) (some (n : Int)) = (l.drop m).take (n - m) := by
  unfold cutL
  rw [HT.sIx_nat, HT.sIx_nat]
  by_cases h : m ≤ l.length
  · rw [Nat.min_eq_left h]
    by_cases h2 : n ≤ l.length
    · rw [Nat.min_eq_left h2]
    · rw [Nat.min_eq_right (by omega), List.take_of_length_le (by rw [List.length_drop]; exact Nat.le_refl _), List.take_of_length_le (by rw [List.length_drop]; omega)]
  · rw [List.drop_eq_nil_of_le (as := l) (i := m) (by omega), List.drop_eq_nil_of_le (as := l) (i := min m l.length) (by omega)]
    simp
theorem t_open {ns : List Int} {k : KW} (hl : ns.length ≤ 63) (hk : ∀ p, Pen 0 p → k (.ref 0) [p]) : t__law_open [.val (.scr ns)] [] k := by
  unfold t__law_open
  refine mfun_of ?_
  array_mem_dec
  refine sSeq_i ?_
  array_mem_dec
  refine sSeq_i ?_
  array_mem_dec
  refine for_inv (fun r ρ S => ∃ (j : Nat) (xs cs : List Int) (a b : Option W), r = enumL j (xs.map D.int) ∧ ρ = [some (.val (.scr ns)), some (.ref 0), a, b] ∧ S = [.lst (cs.map D.int)] ∧ (xs = [] ∨ cs.length = 12)) ?_ ?_ _ _ _ ?_
  · rintro ρ S ⟨j, xs, cs, a, b, hr, rfl, rfl, h⟩
    array_mem_dec
    refine fin_r (Nat.zero_le _) rfl (by intro z; cases z) ?_
    exact hk _ ⟨cs, 0, 0, rfl, by omega, by omega⟩
  · rintro d r ρ S K hK ⟨j, xs, cs, a, b, hr, rfl, rfl, h⟩
    cases xs with
    | nil => cases hr
    | cons x xs =>
      have h2 : cs.length = 12 := h.resolve_left (by intro z; cases z)
      rw [List.map_cons] at hr
      unfold enumL at hr
      injection hr with e1 e2
      subst e1 e2
      have c0 := emod_b (j : Int) (show (0 : Int) < 12 by decide)
      obtain ⟨d, e, md, _⟩ := atI_in (l := cs.map D.int) c0.1 (by rw [List.length_map, h2]; exact c0.2)
      obtain ⟨y, _, rfl⟩ := List.mem_map.mp md
      array_mem_dec
      refine ix_l e ?_
      array_mem_dec
      refine gput_i (ixN_in c0.1 (by rw [List.length_map, h2]; exact c0.2)) ?_
      refine hK _ _ ⟨j + 1, xs, cs.set ((j : Int) % 12).toNat (y + x), _, _, rfl, rfl, ?_, .inr (by rw [List.length_set]; exact h2)⟩
      rw [List.map_set]
      rfl
  · refine ⟨0, (cutL ns (some 12) (some 63)), cutL ns none (some 12), none, none, rfl, rfl, rfl, ?_⟩
    have e1 := cutL_none ns 12
    have e2 := cutL_both ns 12 63
    rw [show ((12 : Nat) : Int) = 12 from rfl] at e1 e2
    rw [show ((63 : Nat) : Int) = 63 from rfl] at e2
    rw [e1, e2]
    by_cases h : ns.length ≤ 12
    · left
      rw [List.drop_eq_nil_of_le h]
      rfl
    · right
      rw [List.length_take]
      omega
/-! texts of signs -/
theorem strs_signs : ∀ l : List Nat, strsOf (signs l) = some (l.map fun c => [c])
  | [] => rfl
  | c :: l => by
    show (strsOf (signs l)).map ([c] :: ·) = _
    rw [strs_signs l]
    rfl
theorem join_signs : ∀ l : List Nat, joinT [] (l.map fun c => [c]) = l
  | [] => rfl
  | [c] => rfl
  | c :: d :: l => by
    show [c] ++ ([] ++ joinT [] ((d :: l).map fun c => [c])) = _
    rw [join_signs (d :: l)]
    rfl
theorem sum_signs : ∀ l : List Nat, ((l.map fun c => [c]).map List.length).sum = l.length
  | [] => rfl
  | c :: l => by
    show 1 + ((l.map fun c => [c]).map List.length).sum = _
    rw [sum_signs l, List.length_cons]
    omega
theorem rangeL_length (a : Int) (n : Nat) : (rangeL a n).length = n := by
  unfold rangeL
  rw [List.length_map, List.length_range]
theorem signs_append (a b : List Nat) : signs (a ++ b) = signs a ++ signs b := List.map_append
theorem signs_length (a : List Nat) : (signs a).length = a.length := List.length_map _
theorem t_some_text {m : Nat} {p : Ob} {sg : List Nat} {most : Int} {k : KW} (hp : Pen m p) (h0 : sg ≠ []) (h1 : sg.length ≤ 1000) (h2 : 0 ≤ most) (h3 : most ≤ 100000) (hm : m < 900000000)
    (hk : ∀ (t : List Nat) p', (∀ c ∈ t, c ∈ sg) → (t.length : Int) ≤ most → Pen (m + 1 + most.toNat) p' → k (.val (.str t)) [p']) :
    t__law_some_text [.ref 0, .val (.str sg), .val (.int most)] [p] k := by
  have hs : sg.length ≠ 0 := fun z => h0 (List.eq_nil_of_length_eq_zero z)
  unfold t__law_some_text
  refine mfun_of ?_
  array_get_dec
  refine call_1 rfl rfl hp.nd (t_take hp (by omega) (by omega) (by omega) fun q p1 b0 b1 hp1 => ⟨p1, [], rfl, ?_⟩) m__law_take
  array_get_dec
  refine ⟨by omega, ?_⟩
  refine lc_inv (fun r acc S => ∃ t p', acc = signs t ∧ (∀ c ∈ t, c ∈ sg) ∧ S = [p'] ∧ Pen (m + 1 + t.length) p' ∧ t.length + r.length ≤ most.toNat) ?_ ?_ _ _ _ ?_
  · rintro acc S ⟨t, p', rfl, hc, rfl, hp', hl⟩
    have hl2 : t.length ≤ most.toNat := Nat.le_trans (Nat.le_add_right _ _) hl
    array_get_dec
    refine join_l (strs_signs t) (by rw [sum_signs, List.length_map, List.length_nil]; omega) ?_
    rw [join_signs]
    array_get_dec
    exact hk t p' hc (by omega) (hp'.mono (by omega))
  · rintro d r acc S K hK ⟨t, p', rfl, hc, rfl, hp', hl⟩
    rw [List.length_cons] at hl
    array_get_dec
    refine len_s (by unfold sizeLine; omega) ?_
    array_get_dec
    refine call_1 rfl rfl hp'.nd (t_take hp' (by omega) (by omega) (by omega) fun q p1 b0 b1 hp1 => ⟨p1, [], rfl, ?_⟩) m__law_take
    obtain ⟨c, e, mc, _⟩ := atI_in (l := sg) b0 b1
    array_get_dec
    refine ix_s (by unfold sizeLine; omega) e ?_
    refine lcput_i (by rw [signs_length]; unfold sizeLine; omega) ?_
    refine hK _ _ ⟨t ++ [c], p1, by rw [signs_append]; rfl, fun x hx => ?_, rfl, hp1.mono (by rw [List.length_append]; exact Nat.le_refl _), by rw [List.length_append]; show t.length + 1 + _ ≤ _; omega⟩
    rcases List.mem_append.mp hx with hx | hx
    · exact hc x hx
    · rw [List.mem_singleton.mp hx]
      exact mc
  · exact ⟨[], p1, rfl, (fun c hc => by cases hc), rfl, hp1, by rw [rangeL_length]; show 0 + _ ≤ _; omega⟩
end Fo
/-! Pen3: signs drawn. -/
namespace Fo
open PySem PySem.Spec PyProof.Rows L2
def poolS : List Nat := [33, 34, 35, 36, 38, 39, 40, 41, 42, 43, 44, 45, 46, 47, 48, 49, 50, 51, 52, 53, 54, 55, 56, 57, 58, 59, 60, 61, 62, 63, 64, 65, 66, 67, 68, 69, 70, 71, 72, 73, 74, 75, 76, 77, 78, 79, 80, 81, 82, 83, 84, 85, 86, 87, 88, 89, 90, 91, 92, 93, 94, 95, 96, 97, 98, 99, 100, 101, 102, 103, 104, 105, 106, 107, 108, 109, 110, 111, 112, 113, 114, 115, 116, 117, 118, 119, 120, 121, 122, 123, 124, 125, 126]
theorem pool_len : poolS.length = 93 := by decide +kernel
/-- drawn signs: sorted, no one twice -/
structure Sg (t : List Nat) : Prop where
  nd : t.Nodup
  up : rises (t.map fun c => [c])
  pool : ∀ c ∈ t, c ∈ poolS
theorem perm_of_singles : ∀ (us : List (List Nat)), (∀ u ∈ us, ∃ c, u = [c]) → ∃ t : List Nat, us = t.map fun c => [c]
  | [], _ => ⟨[], rfl⟩
  | u :: us, h => by
    obtain ⟨c, rfl⟩ := h u List.mem_cons_self
    obtain ⟨t, rfl⟩ := perm_of_singles us fun v hv => h v (List.mem_cons_of_mem _ hv)
    exact ⟨c :: t, rfl⟩
end Fo
/-! Same: data that all rules take; a law's look at likeness. -/
namespace Fo
open PySem PySem.Spec PyProof.Rows L2
/-- data of at most n floors -/
def Nice : Nat → D → Prop
  | _, .non => True
  | _, .bl _ => True
  | _, .int i => i.natAbs.log2 < 1920
  | _, .str l => ∀ c ∈ l, c < 256
  | n + 1, .tup l => l.length < sizeLine ∧ ∀ x ∈ l, Nice n x
  | n + 1, .lst l => l.length < sizeLine ∧ ∀ x ∈ l, Nice n x
  | _, _ => False
theorem Nice.mono : ∀ {n m : Nat} {d : D}, Nice n d → n ≤ m → Nice m d
  | n, m, .non, h, l => by unfold Nice; trivial
  | n, m, .bl _, h, l => by unfold Nice; trivial
  | n, m, .int i, h, l => by
    unfold Nice at h ⊢
    exact h
  | n, m, .str s, h, l => by
    unfold Nice at h ⊢
    exact h
  | n + 1, m + 1, .tup s, h, l => by
    unfold Nice at h ⊢
    exact ⟨h.1, fun x hx => (h.2 x hx).mono (by omega)⟩
  | n + 1, m + 1, .lst s, h, l => by
    unfold Nice at h ⊢
    exact ⟨h.1, fun x hx => (h.2 x hx).mono (by omega)⟩
  | 0, _, .tup s, h, l => by unfold Nice at h; exact h.elim
  | 0, _, .lst s, h, l => by unfold Nice at h; exact h.elim
  | n + 1, 0, .tup s, h, l => by omega
  | n + 1, 0, .lst s, h, l => by omega
  | n, m, .dct _ _, h, l => by unfold Nice at h; exact h.elim
  | n, m, .scr _, h, l => by unfold Nice at h; exact h.elim
theorem pys_any_true : ∀ l : List D, (∀ x ∈ l, x = .bl true) → (pys l).any (fun z => PyData.eqv z (py (.bl false))) = false
  | [], _ => rfl
  | d :: l, h => by
    rw [h d List.mem_cons_self]
    show (_ || (pys l).any _) = false
    rw [pys_any_true l fun x hx => h x (List.mem_cons_of_mem _ hx)]
    rfl
theorem lay_bools : ∀ l : List D, (∀ x ∈ l, ∃ b, x = .bl b) → PyData.canLayAll0 (pys l) = true ∧ PyData.depthAll (pys l) = 0
  | [], _ => ⟨rfl, rfl⟩
  | d :: l, h => by
    obtain ⟨b, rfl⟩ := h d List.mem_cons_self
    obtain ⟨h1, h2⟩ := lay_bools l fun x hx => h x (List.mem_cons_of_mem _ hx)
    refine ⟨?_, ?_⟩
    · show (PyData.canLay0 (.bool b) && PyData.canLayAll0 (pys l)) = true
      rw [h1]
      rfl
    · show max (PyData.depth (.bool b)) (PyData.depthAll (pys l)) = 0
      rw [h2]
      rfl
theorem shp_bools {l : List D} (h : ∀ x ∈ l, ∃ b, x = .bl b) : shp (.lst l) := by
  obtain ⟨h1, h2⟩ := lay_bools l h
  show (PyData.canLayAll0 (pys l) && decide (PyData.depthAll (pys l) + 1 ≤ 64)) = true
  rw [h1, h2]
  rfl
theorem zipL_self : ∀ l : List D, zipL l l = l.map fun d => .tup [d, d]
  | [] => rfl
  | d :: l => by
    show D.tup [d, d] :: zipL l l = _
    rw [zipL_self l]
    rfl
theorem same_ok : ∀ (n : Nat) (d : D) (k : KW), Nice n d → k (.val (.bl true)) [] → ∀ j, n < j → t__law_same j [.val d, .val d] [] k
  | _, _, _, _, _, 0, h => by omega
  | n, .non, k, h, hk, j + 1, _ => by
    unfold t__law_same
    refine mfun_of ?_
    array_get_dec
    exact hk
  | n, .bl b, k, h, hk, j + 1, _ => by
    unfold t__law_same
    refine mfun_of ?_
    array_get_dec
    rw [show (decide (b = b) != false) = true by rw [decide_eq_true rfl]; rfl]
    exact hk
  | n, .int i, k, h, hk, j + 1, _ => by
    unfold t__law_same
    refine mfun_of ?_
    array_get_dec
    rw [show (decide (i = i) != false) = true by rw [decide_eq_true rfl]; rfl]
    exact hk
  | n, .str i, k, h, hk, j + 1, _ => by
    unfold t__law_same
    refine mfun_of ?_
    array_get_dec
    rw [show (decide (i = i) != false) = true by rw [decide_eq_true rfl]; rfl]
    exact hk
  | n + 1, .tup l, k, h, hk, j + 1, lt => by
    unfold Nice at h
    unfold t__law_same
    refine mfun_of ?_
    array_get_dec
    refine if_dt (fun z => absurd rfl z) fun _ => ?_
    array_get_dec
    rw [zipL_self]
    refine lc_inv (fun r acc S => ∃ l' : List D, r = (l'.map fun d => .tup [d, d]) ∧ (∀ x ∈ l', Nice n x) ∧ (∀ x ∈ acc, x = .bl true) ∧ acc.length + l'.length = l.length ∧ S = []) ?_ ?_ _ _ _ ?_
    · rintro acc S ⟨l', hr, hl, ha, hn, rfl⟩
      array_get_dec
      refine in_l rfl (shp_bools fun x hx => ⟨true, ha x hx⟩) ?_
      rw [pys_any_true acc ha]
      exact hk
    · rintro d r acc S K hK ⟨l', hr, hl, ha, hn, rfl⟩
      cases l' with
      | nil => cases hr
      | cons x l' =>
        rw [List.map_cons] at hr
        injection hr with e1 e2
        subst e1 e2
        rw [List.length_cons] at hn
        array_get_dec
        refine call_0 rfl (same_ok n x _ (hl x List.mem_cons_self) ?_ j (by omega)) (m__law_same j)
        refine lcput_i (by omega) ?_
        refine hK _ _ ⟨l', rfl, fun y hy => hl y (List.mem_cons_of_mem _ hy), fun y hy => ?_, by rw [List.length_append]; show acc.length + 1 + _ = _; omega, rfl⟩
        rcases List.mem_append.mp hy with hy | hy
        · exact ha y hy
        · exact List.mem_singleton.mp hy
    · exact ⟨l, rfl, h.2, fun x hx => (by cases hx), Nat.zero_add _, rfl⟩
  | n + 1, .lst l, k, h, hk, j + 1, lt => by
    unfold Nice at h
    unfold t__law_same
    refine mfun_of ?_
    array_get_dec
    refine if_dt (fun z => absurd rfl z) fun _ => ?_
    array_get_dec
    rw [zipL_self]
    refine lc_inv (fun r acc S => ∃ l' : List D, r = (l'.map fun d => .tup [d, d]) ∧ (∀ x ∈ l', Nice n x) ∧ (∀ x ∈ acc, x = .bl true) ∧ acc.length + l'.length = l.length ∧ S = []) ?_ ?_ _ _ _ ?_
    · rintro acc S ⟨l', hr, hl, ha, hn, rfl⟩
      array_get_dec
      refine in_l rfl (shp_bools fun x hx => ⟨true, ha x hx⟩) ?_
      rw [pys_any_true acc ha]
      exact hk
    · rintro d r acc S K hK ⟨l', hr, hl, ha, hn, rfl⟩
      cases l' with
      | nil => cases hr
      | cons x l' =>
        rw [List.map_cons] at hr
        injection hr with e1 e2
        subst e1 e2
        rw [List.length_cons] at hn
        array_get_dec
        refine call_0 rfl (same_ok n x _ (hl x List.mem_cons_self) ?_ j (by omega)) (m__law_same j)
        refine lcput_i (by omega) ?_
        refine hK _ _ ⟨l', rfl, fun y hy => hl y (List.mem_cons_of_mem _ hy), fun y hy => ?_, by rw [List.length_append]; show acc.length + 1 + _ = _; omega, rfl⟩
        rcases List.mem_append.mp hy with hy | hy
        · exact ha y hy
        · exact List.mem_singleton.mp hy
    · exact ⟨l, rfl, h.2, fun x hx => (by cases hx), Nat.zero_add _, rfl⟩
  | 0, .tup _, _, h, _, _, _ => by unfold Nice at h; exact h.elim
  | 0, .lst _, _, h, _, _, _ => by unfold Nice at h; exact h.elim
  | _, .dct _ _, _, h, _, _, _ => by unfold Nice at h; exact h.elim
  | _, .scr _, _, h, _, _, _ => by unfold Nice at h; exact h.elim
end Fo
/-! Show: repr of nice data. -/
namespace Fo
open PySem PySem.Spec PyProof.Rows L2
mutual
def wt : D → Nat
  | .non => 5
  | .bl _ => 5
  | .int i => (Str.ofString (toString i)).length
  | .str l => 4 * l.length + 2
  | .tup l => wts l + 3
  | .lst l => wts l + 3
  | .dct _ _ => 0
  | .scr _ => 0
def wts : List D → Nat
  | [] => 0
  | d :: r => wt d + 2 + wts r
end
theorem repr_signs : ∀ c < 256, (Builtin.Str.reprChar 39 c).length ≤ 4 ∧ (Builtin.Str.reprChar 34 c).length ≤ 4 := by decide +kernel
theorem repr_fold (q : Nat) (hq : q = 39 ∨ q = 34) : ∀ (l : List Nat) (acc : Array Nat), (∀ c ∈ l, c < 256) → (l.foldl (fun out c => out ++ (Builtin.Str.reprChar q c).toArray) acc).size ≤ acc.size + 4 * l.length
  | [], acc, _ => by simp
  | c :: l, acc, h => by
    have ih := repr_fold q hq l (acc ++ (Builtin.Str.reprChar q c).toArray) fun x hx => h x (List.mem_cons_of_mem _ hx)
    have h1 := repr_signs c (h c List.mem_cons_self)
    rw [List.foldl_cons, List.length_cons]
    have e : (acc ++ (Builtin.Str.reprChar q c).toArray).size = acc.size + (Builtin.Str.reprChar q c).length := by simp
    rw [e] at ih
    rcases hq with rfl | rfl <;> omega
theorem reprText_le {l : List Nat} (h : ∀ c ∈ l, c < 256) : (reprText (tx l)).length ≤ 4 * l.length + 2 := by
  have hq : reprQuote (tx l) = 39 ∨ reprQuote (tx l) = 34 := by
    unfold reprQuote
    split
    · exact .inr rfl
    · exact .inl rfl
  have q := repr_fold (reprQuote (tx l)) hq l #[reprQuote (tx l)] h
  unfold reprText
  show (Array.push _ _).size ≤ _
  rw [Array.size_push]
  have e : (tx l).cps.foldl (fun out c => out ++ (Builtin.Str.reprChar (reprQuote (tx l)) c).toArray) #[reprQuote (tx l)] = l.foldl (fun out c => out ++ (Builtin.Str.reprChar (reprQuote (tx l)) c).toArray) #[reprQuote (tx l)] := by
    unfold tx
    rw [List.foldl_toArray]
  rw [e]
  have e1 : (#[reprQuote (tx l)] : Array Nat).size = 1 := rfl
  omega
theorem textFrom_le : ∀ (ts : List Str) (k : Nat) (acc : Str), (textFrom k acc ts).length ≤ acc.length + piled ts
  | [], k, acc => Nat.le_add_right _ _
  | t :: r, k, acc => by
    have ih := textFrom_le r (k + 1) (acc ++ (if k > 0 then ", " else "" : String) ++ t)
    have e : (acc ++ (if k > 0 then ", " else "" : String) ++ t).length = acc.length + (if k > 0 then 2 else 0) + t.length := by
      rw [strLen_append, strLen_append]
      split <;> rfl
    rw [e] at ih
    have e2 : (if k > 0 then 2 else 0 : Nat) ≤ 2 := by split <;> omega
    rw [piled_cons]
    show (textFrom (k + 1) _ r).length ≤ _
    omega
theorem tupleText_le (ts : List Str) : (tupleText ts).length ≤ piled ts + 3 := by
  unfold tupleText
  rw [strLen_append, strLen_append]
  have e1 : ((("(" : String) : Str)).length = 1 := rfl
  have e3 : (((if ts.length == 1 then ",)" else ")" : String) : Str)).length ≤ 2 := by split <;> decide
  rw [e1]
  by_cases h : ts = []
  · subst h
    have : (Str.join ", " ([] : List Str)).length = 0 := rfl
    omega
  · have := join_length_add ts h
    omega
theorem listText_le (ts : List Str) : (listText ts).length ≤ piled ts + 3 := by
  unfold listText
  rw [strLen_append]
  have h := textFrom_le ts 0 "["
  have e1 : ((("[" : String) : Str)).length = 1 := rfl
  have e2 : ((("]" : String) : Str)).length = 1 := rfl
  rw [e1] at h
  rw [e2]
  omega
end Fo
/-! Rep2: repr of any data, dicts within it, too. -/
namespace Fo
open PySem PySem.Spec PyProof.Rows L2
variable {K : Kw}
mutual
def pyX : D → PyData
  | .non => .none
  | .bl b => .bool b
  | .int i => .int i
  | .str l => .str (tx l)
  | .tup ds => .tuple (pyXs ds)
  | .lst ds => .list (pyXs ds)
  | .dct ks ws => .dict ((pyXs ks).zip (pyXs ws))
  | .scr _ => .dict []
def pyXs : List D → List PyData
  | [] => []
  | d :: ds => pyX d :: pyXs ds
end
mutual
def noScr : D → Bool
  | .scr _ => false
  | .tup l => noScrs l
  | .lst l => noScrs l
  | .dct ks ws => noScrs ks && noScrs ws
  | _ => true
def noScrs : List D → Bool
  | [] => true
  | d :: ds => noScr d && noScrs ds
end
theorem pyXs_len : ∀ ds : List D, (pyXs ds).length = ds.length
  | [] => rfl
  | d :: ds => by
    show (pyXs ds).length + 1 = ds.length + 1
    rw [pyXs_len ds]
theorem keyIs_kV {k : Key} {u : Value} (h : keyIs k u = true) : RelV (kV k) u := by
  rcases keyIs_shape h with ⟨i, t, rfl, rfl⟩ | ⟨x, t, rfl, rfl⟩
  · exact ⟨t, rfl⟩
  · exact ⟨t, rfl⟩
theorem kv_vals {P : Program} {w : World} : ∀ {kvs : List (Key × V)} {es : List DictEntry} {qs : List (Key × Value)}, Pairs (mixKind P w) es qs → KV kvs qs → Vals (kvs.map fun p => kV p.1) (es.map (·.key)) ∧ Vals (kvs.map (·.2)) (es.map (·.val))
  | [], _, _, h, k => by
    unfold KV at k
    cases k
    cases h
    exact ⟨.nil, .nil⟩
  | p :: kvs, _, _, h, k => by
    unfold KV at k
    cases k with
    | cons r t =>
      cases h with
      | cons h1 h2 h3 =>
        obtain ⟨g1, g2⟩ := kv_vals h3 (show KV kvs _ from t)
        obtain ⟨r1, r2⟩ := r
        refine ⟨.cons ?_ g1, .cons ?_ g2⟩
        · show RelV (kV p.1) _
          rw [r1]
          exact keyIs_kV h1
        · show RelV p.2 (DictEntry.val _)
          rw [h2]
          exact r2
theorem pd_vals {w : World} : ∀ {ys : List (NestedKey × Addr × V)} {xs : List (NestedKey × Addr × Value)}, Paired PdE ys xs → Vals (ys.map fun y => V.ref y.2.1) ((xs.map (nent w)).map (·.key)) ∧ Vals (ys.map (·.2.2)) ((xs.map (nent w)).map (·.val))
  | _, _, .nil => ⟨.nil, .nil⟩
  | _, _, .cons r t => by
    obtain ⟨g1, g2⟩ := pd_vals (w := w) t
    obtain ⟨r1, r2, r3⟩ := r
    refine ⟨.cons ?_ g1, .cons r3 g2⟩
    show Value.ref _ = Value.ref _
    rw [r2]
section
variable {X : Cx} {pins : List (Addr × Obj)} {σ : L2.St} {H : Hp} {s : Shared} {av : Addr → Prop}
theorem dic_vals (I : Inv X pins σ H s) {a : Addr} {u : HO} {ks : List D} {kv vs : List V} (e : Rd H a u) (hb : DicB X.kw a ks kv vs u) : a ≠ sysModules ∧ ∃ o es ep, s.heap.get? a = some o ∧ o.cls = .type "dict" ∧ o.data = .dict es ep ∧ Vals kv (es.toList.map (·.key)) ∧ Vals vs (es.toList.map (·.val)) := by
  have h2 : ObjOk X.prog X.w H s.heap a u := by
    rcases e with e | ⟨o, e⟩
    · exact I.hok a _ e
    · exact (show ObjOk X.prog X.w H s.heap a (.frz o u) from I.hok a _ e).2
  rcases hb with ⟨kvs, rfl, rfl, rfl, rfl⟩ | ⟨ys, _, rfl, _, rfl, rfl⟩
  · obtain ⟨_, g2, qs, g3, o', es, ep, e1, e2, e3, _, e4, _⟩ := h2
    obtain ⟨v1, v2⟩ := kv_vals e4 g3
    exact ⟨fun z => by rw [z] at g2; exact absurd g2 (by decide), o', es, ep, e1, e2.1, e3, v1, v2⟩
  · obtain ⟨⟨g1, _, xs, hp, _, o', es, ep, e1, e2, e3, e4⟩, _⟩ := h2
    obtain ⟨v1, v2⟩ := pd_vals (w := X.w) hp
    exact ⟨fun z => by rw [z] at g1; exact absurd g1 (by decide), o', es, ep, e1, e2.1, e3, by rw [e4]; exact v1, by rw [e4]; exact v2⟩
theorem DicB.lens {a : Addr} {u : HO} {ks ws : List D} {kv vs : List V} (hb : DicB K a ks kv vs u) (r1 : RVs K H av ks kv) (r2 : RVs K H av ws vs) : ks.length = ws.length := by
  rw [← r1.length, ← r2.length]
  rcases hb with ⟨kvs, _, _, rfl, rfl⟩ | ⟨ys, _, _, _, rfl, rfl⟩
  · rw [List.length_map, List.length_map]
  · rw [List.length_map, List.length_map]
mutual
theorem RV.readsX (I : Inv X pins σ H s) (hs : SysH H) : ∀ (d : D) (v : V) (u : Value), RV X.kw H av d v → noScr d = true → RelV v u → ∃ as, Reads s.heap u (pyX d) as ∧ sysModules ∉ as
  | .non, _, _, h, _, r => by
    unfold RV at h
    subst h
    cases r
    exact ⟨_, Reads.none, by simp⟩
  | .bl b, _, _, h, _, r => by
    unfold RV at h
    subst h
    cases r
    exact ⟨_, Reads.bool b, by simp⟩
  | .int i, _, _, h, _, r => by
    unfold RV at h
    subst h
    obtain ⟨t, rfl⟩ := r
    exact ⟨_, Reads.int i t, by simp⟩
  | .str x, _, _, h, _, r => by
    unfold RV at h
    subst h
    obtain ⟨t, rfl⟩ := r
    exact ⟨_, Reads.str _ t, by simp⟩
  | .tup ds, _, _, h, q, r => by
    unfold RV at h
    obtain ⟨a, vs, rfl, e, _, t⟩ := h
    cases r
    unfold noScr at q
    obtain ⟨_, its, rv, o, ho, hc, n, hd⟩ := (show ObjOk X.prog X.w H s.heap a (.tup vs) from I.hok a _ e)
    obtain ⟨as, g1, g2⟩ := RVs.readsX I hs ds vs its t q rv
    exact ⟨_, Reads.tuple ho hc hd (by simpa using g1), g2⟩
  | .lst ds, _, _, h, q, r => by
    unfold RV at h
    obtain ⟨a, vs, rfl, e, _, t⟩ := h
    cases r
    unfold noScr at q
    obtain ⟨its, n, rv, ho, _⟩ := I.lst e
    obtain ⟨as, g1, g2⟩ := RVs.readsX I hs ds vs its t q rv
    refine ⟨_, Reads.list ho rfl rfl (by simpa using g1), fun z => ?_⟩
    rcases List.mem_cons.mp z with z | z
    · obtain ⟨o', e'⟩ := hs
      rw [z, e] at e'
      cases e'
    · exact g2 z
  | .dct ks ws, _, _, h, q, r => by
    unfold RV at h
    obtain ⟨a, u, kv, vs, rfl, ⟨o, e⟩, _, hb, t1, t2⟩ := h
    cases r
    unfold noScr at q
    rw [Bool.and_eq_true] at q
    obtain ⟨na, o', es, ep, e1, e2, e3, v1, v2⟩ := dic_vals I (.inr ⟨o, e⟩) hb
    obtain ⟨as, g1, g2⟩ := RVs.readsX I hs ks kv _ t1 q.1 v1
    obtain ⟨bs, g3, g4⟩ := RVs.readsX I hs ws vs _ t2 q.2 v2
    have hl := hb.lens t1 t2
    refine ⟨_, Reads.dict (kvs := (pyXs ks).zip (pyXs ws)) e1 e2 e3 (by rw [List.map_fst_zip (by rw [pyXs_len, pyXs_len]; omega)]; exact g1) (by rw [List.map_snd_zip (by rw [pyXs_len, pyXs_len]; omega)]; exact g3), fun z => ?_⟩
    rcases List.mem_cons.mp z with z | z
    · exact na z.symm
    · rcases List.mem_append.mp z with z | z
      · exact g2 z
      · exact g4 z
  | .scr _, _, _, _, q, _ => by
    unfold noScr at q
    cases q
theorem RVs.readsX (I : Inv X pins σ H s) (hs : SysH H) : ∀ (ds : List D) (vs : List V) (us : List Value), RVs X.kw H av ds vs → noScrs ds = true → Vals vs us → ∃ as, ReadsAll s.heap us (pyXs ds) as ∧ sysModules ∉ as
  | [], _, _, h, _, r => by
    unfold RVs at h
    subst h
    cases r
    exact ⟨_, ReadsAll.nil, by simp⟩
  | d :: ds, _, _, h, q, r => by
    unfold RVs at h
    obtain ⟨v, vs, rfl, h1, h2⟩ := h
    unfold noScrs at q
    rw [Bool.and_eq_true] at q
    cases r with
    | cons r1 r2 =>
      obtain ⟨as, g1, g2⟩ := RV.readsX I hs d v _ h1 q.1 r1
      obtain ⟨bs, g3, g4⟩ := RVs.readsX I hs ds vs _ h2 q.2 r2
      refine ⟨_, ReadsAll.cons g1 g3, fun z => ?_⟩
      rcases List.mem_append.mp z with z | z
      · exact g2 z
      · exact g4 z
end
theorem RD.readsX (I : Inv X pins σ H s) (hs : SysH H) {d : D} {v : V} {u : Value} (h : RD X.kw H av d v) (q : noScr d = true) (r : RelV v u) : ∃ as, Reads s.heap u (pyX d) as ∧ sysModules ∉ as := by
  cases d with
  | lst ds =>
    obtain ⟨a, vs, rfl, e, t⟩ := h.lst
    cases r
    unfold noScr at q
    obtain ⟨its, n, rv, ho, _⟩ := I.lst e
    obtain ⟨as, g1, g2⟩ := RVs.readsX I hs ds vs its t q rv
    refine ⟨_, Reads.list ho rfl rfl (by simpa using g1), fun z => ?_⟩
    rcases List.mem_cons.mp z with z | z
    · obtain ⟨o', e'⟩ := hs
      rw [z, e] at e'
      cases e'
    · exact g2 z
  | dct ks ws =>
    obtain ⟨a, u, kv, vs, rfl, e, hb, t1, t2⟩ := h.dct
    cases r
    unfold noScr at q
    rw [Bool.and_eq_true] at q
    obtain ⟨na, o', es, ep, e1, e2, e3, v1, v2⟩ := dic_vals I e hb
    obtain ⟨as, g1, g2⟩ := RVs.readsX I hs ks kv _ t1 q.1 v1
    obtain ⟨bs, g3, g4⟩ := RVs.readsX I hs ws vs _ t2 q.2 v2
    have hl := hb.lens t1 t2
    refine ⟨_, Reads.dict (kvs := (pyXs ks).zip (pyXs ws)) e1 e2 e3 (by rw [List.map_fst_zip (by rw [pyXs_len, pyXs_len]; omega)]; exact g1) (by rw [List.map_snd_zip (by rw [pyXs_len, pyXs_len]; omega)]; exact g3), fun z => ?_⟩
    rcases List.mem_cons.mp z with z | z
    · exact na z.symm
    · rcases List.mem_append.mp z with z | z
      · exact g2 z
      · exact g4 z
  | non => exact RV.readsX (av := av) I hs .non v u h q r
  | bl b => exact RV.readsX (av := av) I hs (.bl b) v u h q r
  | int b => exact RV.readsX (av := av) I hs (.int b) v u h q r
  | str b => exact RV.readsX (av := av) I hs (.str b) v u h q r
  | tup b => exact RV.readsX (av := av) I hs (.tup b) v u h q r
  | scr b => exact RV.readsX (av := av) I hs (.scr b) v u h q r
end
/-! ### repr -/
/-- what repr tells of data -/
def shownX (d : D) : List Nat := (pyX d).shown.cps.toList
/-- data that repr tells -/
structure ShX (d : D) : Prop where
  ns : noScr d = true
  sh : (pyX d).showable = true
  dp : (pyX d).depth ≤ 60
  len : (shownX d).length ≤ sizeLine
def rReprX (K : Kw) : List V → Hp → VK → Prop := fun xs H Q => ∃ (v : V) (d : D) (av : Addr → Prop), xs = [v] ∧ SysH H ∧ RD K H av d v ∧ ShX d ∧ Q (.str (pyX d).shown) H
theorem call_reprX {X : Cx} (hgd : X.A.guards = some []) (hu : X.A.units + 64 < cLine) : CallR X (.builtin "repr") (rReprX X.kw) := by
  intro pins s σ H xs us Q I r h
  obtain ⟨v, d, av, rfl, hs, hv, hx, q⟩ := h
  cases r with
  | cons r1 r2 =>
    cases r2
    obtain ⟨as, rdd, na⟩ := RD.readsX I hs hv hx.ns r1
    have hz : (pyX d).shown.length ≤ sizeLine := hx.len
    have sh := hx.sh
    have dp := hx.dp
    cases d with
    | non =>
      rw [hv.non] at r1
      cases r1
      exact P.repr_of_none ⟨.str _, H, I.tok _, ⟨_, rfl⟩, q⟩
    | bl b =>
      rw [hv.bl] at r1
      cases r1
      exact P.repr_of_bool ⟨.str _, H, I.tok _, ⟨_, rfl⟩, q⟩
    | int i =>
      rw [hv.int] at r1
      obtain ⟨t, rfl⟩ := r1
      exact P.repr_of_int (of_decide_eq_true sh) ⟨.str _, H, I.tok _, ⟨_, rfl⟩, q⟩
    | str l =>
      rw [hv.str] at r1
      obtain ⟨t, rfl⟩ := r1
      exact P.repr_of_str ⟨.str _, H, I.tok _, ⟨_, rfl⟩, q⟩ hz
    | scr l => exact absurd hx.ns (by unfold noScr; decide)
    | tup l =>
      obtain ⟨a, vs, rfl, _⟩ := hv.tup
      cases r1
      exact repr_of_reads' rdd sh (fun _ => na) hgd (by omega) (fun _ _ e => e) (fun h' u tk kept => ⟨.str _, H, I.kept (t' := tk) kept, ⟨u, rfl⟩, q⟩) hz
    | lst l =>
      obtain ⟨a, vs, rfl, _⟩ := hv.lst
      cases r1
      exact repr_of_reads' rdd sh (fun _ => na) hgd (by omega) (fun _ _ e => e) (fun h' u tk kept => ⟨.str _, H, I.kept (t' := tk) kept, ⟨u, rfl⟩, q⟩) hz
    | dct ks ws =>
      obtain ⟨a, u, kv, vs, rfl, _⟩ := hv.dct
      cases r1
      exact repr_of_reads' rdd sh (fun _ => na) hgd (by omega) (fun _ _ e => e) (fun h' u tk kept => ⟨.str _, H, I.kept (t' := tk) kept, ⟨u, rfl⟩, q⟩) hz
/-- repr(d), d any data -/
def reprX : CalD := fun ds S k => match ds with
  | [d] => ShX d ∧ k (.val (.str (shownX d))) S
  | _ => False
theorem reprX_mono : MonoC reprX := by
  intro ds S Q Q' h q
  unfold reprX at q ⊢
  split at q
  · exact ⟨q.1, h _ _ q.2⟩
  · exact q.elim
theorem reprXM : CalM K (rReprX K) reprX := by
  intro A B H S ds vs k Q c r h af
  unfold reprX at h
  split at h
  · rename_i d
    obtain ⟨v, rfl, rd⟩ := r.one
    refine ⟨v, d, av A B, rfl, c.sys, rd, h.1, ?_⟩
    refine af _ _ h.2 A _ H Keep.refl c ?_
    show RV K H (av A B) (.str _) _
    unfold RV shownX
    rw [tx_tl]
  · exact h.elim
end Fo
/-! Dic6: dict displays as data: made, and nobody's to change from then on. -/
namespace Fo
open PySem PySem.Spec PyProof.Rows L2
variable {K : Kw}
def tLockE (t : TE) : TE := fun σ H Q => t σ H fun v H1 => ∃ d u, H1 d = some u ∧ Mut (some u) ∧ ∀ od, Q v (upd H1 d (.frz od u))
theorem pe_lockE {X : Cx} {e : Expr} {t : TE} (h : PE X e t) : PE X e (tLockE t) := by
  refine ⟨fun pins s σ H Q I hw => thn (h.run pins s σ H _ I hw) fun u s1 ⟨v, H1, I1, rv, d, ob, hd, mu, q⟩ => ?_⟩
  obtain ⟨od, I2⟩ := I1.lock hd mu
  exact ⟨v, _, I2, rv, q od⟩
theorem upd_upd {H : Hp} {p : Addr} {a b : HO} : L2.upd (L2.upd H p a) p b = L2.upd H p b := by
  funext c
  by_cases e : c = p
  · subst e
    rw [upd_same, upd_same]
  · rw [upd_ne e, upd_ne e, upd_ne e]
theorem upd_forget {H : Hp} {p : Addr} {b : HO} : L2.upd (fun c => if c = p then none else H c) p b = L2.upd H p b := by
  funext c
  by_cases e : c = p
  · subst e
    rw [upd_same, upd_same]
  · rw [upd_ne e, upd_ne e]
    show (if c = p then none else H c) = _
    rw [if_neg e]
/-- something made aside: what holds behind it -/
theorem aside {A A2 : List (Option Addr)} {B : Addr → Prop} {H H2 : Hp} {S2 : Sto} {p : Addr} {o0 o : HO} (hp : H p = none) (c : Cells K H A B S) (k : Keep A (L2.upd H p o0) A2 H2) (c2 : Cells K H2 A2 (fun a => B a ∨ a = p) S2) :
    H2 p = some o0 ∧ Keep A H A2 (L2.upd H2 p o) ∧ Cells K (L2.upd H2 p o) A2 B S2 ∧ ¬ av A2 B p ∧ Stay H2 (av A2 fun a => B a ∨ a = p) (L2.upd H2 p o) (av A2 B) := by
  have nB : ¬ B p := fun z => c.dom p z hp
  have nS : sysModules ≠ p := let ⟨_, e'⟩ := c.sys; ne_of_none e' hp
  have nA : some p ∉ A := fun z => c.new_off hp (.inr z)
  have nA2 : some p ∉ A2 := fun z => c2.off p z (.inr rfl)
  obtain ⟨c3, st⟩ := c2.forget nB nS
  have hp3 : (fun b => if b = p then none else H2 b) p = none := by show (if p = p then none else H2 p) = none; rw [if_pos rfl]
  have c4 := c3.upd (o := o) hp3
  rw [upd_forget] at c4
  refine ⟨(k.st p _ upd_same nA).1, ⟨fun a u e n => ?_, k.len, k.ix⟩, c4, fun z => z.elim nB nA2, fun a u e n => ?_⟩
  · have hne : a ≠ p := ne_of_none e hp
    obtain ⟨z1, z2⟩ := k.st a u (by rw [upd_ne hne]; exact e) n
    exact ⟨by rw [upd_ne hne]; exact z1, z2⟩
  · have hne : a ≠ p := fun z => n (.inl (.inr z))
    exact ⟨by rw [upd_ne hne]; exact e, fun z => n (z.imp .inl id)⟩
/-! ### {} -/
def mDct0 : ME := fun _ S k => k (.val (.dct [] [])) S
theorem pem_dct0 {X : Cx} {pos : Pos} : PEm X (.Dict [] [] pos) mDct0 := by
  refine ⟨(pe_lockE pe_dnewK).imp ?_, fun ρ S Q Q' h q => h _ _ q⟩
  rintro σ H Q ⟨A, B, ρ, S, k, r, h, af⟩ p hp
  refine ⟨p, .dK [], upd_same, trivial, fun od => ?_⟩
  rw [upd_upd]
  have kp : Keep A H A (L2.upd H p (.frz od (.dK []))) := Keep.upd hp
  refine af _ _ h A _ _ kp (r.cells.upd hp) ?_
  show RV X.kw _ _ (.dct [] []) _
  unfold RV
  exact ⟨p, .dK [], [], [], rfl, ⟨od, upd_same⟩, r.cells.new_off hp, .inl ⟨[], rfl, rfl, rfl, rfl⟩, RVs.nil, RVs.nil⟩
/-! ### {k: v} -/
def mDct1 (t e : ME) : ME := fun ρ S k => t ρ S fun z S1 => e ρ S1 fun u S2 => keyW z fun x => match u with
  | .val d => k (.val (.dct [keyD x] [d])) S2
  | _ => False
theorem pem_dct1 {X : Cx} {kx vx : Expr} {t e : ME} {pos : Pos} (ht : PEm X kx t) (he : PEm X vx e) : PEm X (.Dict [some kx] [vx] pos) (mDct1 t e) := by
  refine ⟨(pe_lockE (pe_disp (pps_cons ht.pe he.pe pps_nil) rfl rfl (by simp) (by simp))).imp ?_, fun ρ S Q Q' h q => ht.mono ρ _ _ _ (fun z S1 => he.mono ρ S1 _ _ fun u S2 => keyW_mono fun x q => ?_) q⟩
  · rintro σ H Q ⟨A, B, ρ, S, k, r, h, af⟩ p hp
    have st : Stay H (av A B) (L2.upd H p (.dK [])) (av A fun a => B a ∨ a = p) := fun a u e' n => by
      have hne : a ≠ p := ne_of_none e' hp
      refine ⟨by rw [upd_ne hne]; exact e', fun z => ?_⟩
      rcases z with (z | z) | z
      · exact n (.inl z)
      · exact hne z
      · exact n (.inr z)
    have r0 : Rel X.kw (L2.upd H p (.dK [])) A (fun a => B a ∨ a = p) ρ S σ := r.cellsOf (r.cells.more hp) st
    refine up_then r0 h fun z S1 A1 v1 H1 h1 k1 r1 rz => up_then r1 h1 fun u S2 A2 v2 H2 h2 k2 r2 ru => ?_
    obtain ⟨x, e3, h4⟩ := keyW_ok (rz.keep k2) h2
    cases u with
    | ref _ => exact h4.elim
    | lws _ => exact h4.elim
    | ins _ _ _ => exact h4.elim
    | fn _ => exact h4.elim
    | val d =>
      have rd : RV X.kw H2 (av A2 fun a => B a ∨ a = p) d v2 := ru
      obtain ⟨q0, _, _, _, _⟩ := aside (o := .dK []) hp r.cells (k1.trans k2) r2.cells
      refine ⟨q0, [(x, v2)], by rw [e3]; rfl, by simp, p, .dK (mergeK [] [(x, v2)]), upd_same, trivial, fun od => ?_⟩
      rw [upd_upd]
      obtain ⟨_, q1, q2, q3, q4⟩ := aside (o := .frz od (.dK (mergeK [] [(x, v2)]))) hp r.cells (k1.trans k2) r2.cells
      refine af _ _ h4 A2 _ _ q1 q2 ?_
      show RV X.kw _ _ (.dct [keyD x] [d]) _
      unfold RV
      exact ⟨p, .dK [(x, v2)], [kV x], [v2], rfl, ⟨od, upd_same⟩, q3, .inl ⟨[(x, v2)], rfl, rfl, rfl, rfl⟩, RVs.cons (RV.keyD x) RVs.nil, (RVs.cons rd RVs.nil).stay q4⟩
  · cases u with
    | ref _ => exact q.elim
    | lws _ => exact q.elim
    | ins _ _ _ => exact q.elim
    | fn _ => exact q.elim
    | val d => exact h _ _ q
section
variable {ρ : Rho} {S : Sto} {k : KW} {t e : ME}
theorem mDct0_i (q : k (.val (.dct [] [])) S) : mDct0 ρ S k := q
theorem mDct1_i (q : t ρ S fun z S1 => e ρ S1 fun u S2 => keyW z fun x => match u with
  | .val d => k (.val (.dct [keyD x] [d])) S2
  | _ => False) : mDct1 t e ρ S k := q
end
end Fo
/-! Srt2: sorted(a text). -/
/-! Emp: == and != of a list, a tuple with an empty one, whatever lies within. -/
namespace Fo
open PySem PySem.Spec PyProof.Rows L2
variable {K : Kw}
def emD (neg : Bool) : OpD := fun a b S k => match a, b with
  | .lst l, .lst [] => k (.val (.bl (l.isEmpty != neg))) S
  | .tup l, .tup [] => k (.val (.bl (l.isEmpty != neg))) S
  | _, _ => False
theorem emD_mono {neg : Bool} : MonoO (emD neg) := by
  intro a b S Q Q' h q
  unfold emD at q ⊢
  split at q
  · exact h _ _ q
  · exact h _ _ q
  · exact q.elim
def rEmM (K : Kw) (neg : Bool) : R2 := fun x y H Q => ∃ (p q : Addr) (xs : List V), x = .ref p ∧ y = .ref q ∧ ((SqL K H p xs ∧ SqL K H q []) ∨ (SqT K H p xs ∧ SqT K H q [])) ∧ Q (.bl (xs.isEmpty != neg)) H
theorem emM {neg : Bool} : OpM K (rEmM K neg) (emD neg) := by
  intro A B H S dx dy vx vy k Q c rx ry h af
  unfold emD at h
  split at h
  · rename_i l
    obtain ⟨a, vs, rfl, e, t⟩ := rx.lst
    obtain ⟨b, ws, rfl, e2, t2⟩ := ry.lst
    unfold RVs at t2
    subst t2
    refine ⟨a, b, vs, rfl, rfl, .inl ⟨.inl (.inl e), .inl (.inl e2)⟩, ?_⟩
    have el : vs.isEmpty = l.isEmpty := by
      have := t.length
      cases vs <;> cases l <;> first | rfl | (simp at this)
    rw [el]
    exact af.bl c h
  · rename_i l
    obtain ⟨a, vs, rfl, e, _, t⟩ := rx.tup
    obtain ⟨b, ws, rfl, e2, _, t2⟩ := ry.tup
    unfold RVs at t2
    subst t2
    refine ⟨a, b, vs, rfl, rfl, .inr ⟨.inl (.inl e), .inl (.inl e2)⟩, ?_⟩
    have el : vs.isEmpty = l.isEmpty := by
      have := t.length
      cases vs <;> cases l <;> first | rfl | (simp at this)
    rw [el]
    exact af.bl c h
  · exact h.elim
theorem op_eqEM {X : Cx} (hu : X.A.units + 64 < cLine) : OpR X (compareOp .Eq) (rEmM X.kw false) := by
  intro pins s σ H x y v u Q I rx ry h
  obtain ⟨p, q, xs, rfl, rfl, h, k⟩ := h
  cases rx
  cases ry
  have hu' : X.A.units < cLine := by omega
  rcases h with ⟨h1, h2⟩ | ⟨h1, h2⟩
  · obtain ⟨its, r1, ⟨o1, n1, g1, c1, d1, e1⟩, _⟩ := I.list h1
    obtain ⟨its2, r2, ⟨o2, n2, g2, c2, d2, e2⟩, _⟩ := I.list h2
    cases r2
    cases r1 with
    | nil => exact SeqAt.RcAt.lists (e := fun _ => true) ⟨o1, g1, c1, n1, e1⟩ ⟨o2, g2, c2, n2, e2⟩ rfl hu' (fun j j1 _ => absurd j1 (by simp)) _ _ _ _ ⟨.bl _, H, I, rfl, k⟩
    | cons r1 r2 => exact SeqAt.RcAt.lists_lengths ⟨o1, g1, c1, n1, e1⟩ ⟨o2, g2, c2, n2, e2⟩ (by simp) hu' _ _ _ _ ⟨.bl _, H, I, rfl, k⟩
  · obtain ⟨its, r1, p1, _⟩ := I.tuple h1
    obtain ⟨its2, r2, p2, _⟩ := I.tuple h2
    obtain ⟨o1, g1, c1, n1, e1⟩ := p1
    obtain ⟨o2, g2, c2, n2, e2⟩ := p2
    cases r2
    refine SeqAt.RcAt.tuples (e := fun _ => true) ⟨o1, g1, c1, n1, e1⟩ ⟨o2, g2, c2, n2, e2⟩ hu' (fun j _ j2 => absurd j2 (by simp)) _ _ _ _ ⟨.bl _, H, I, ?_, k⟩
    cases r1 <;> rfl
section
variable {S : Sto} {k : KW} {neg : Bool} {l : List D}
theorem em_l (q : k (.val (.bl (l.isEmpty != neg))) S) : emD neg (.lst l) (.lst []) S k := q
theorem ix_t0 {a : D} (q : k (.val a) S) : ixD (.tup (a :: l)) (.int 0) S k := ix_t (d := a) (atI_nat (n := 0) rfl) q
theorem ix_t1 {a b : D} (q : k (.val b) S) : ixD (.tup (a :: b :: l)) (.int 1) S k := ix_t (l := a :: b :: l) (d := b) (atI_nat (n := 1) rfl) q
theorem ix_t2 {a b c : D} (q : k (.val c) S) : ixD (.tup (a :: b :: c :: l)) (.int 2) S k := ix_t (d := c) (atI_nat (n := 2) rfl) q
theorem ix_l0 {a : D} (q : k (.val a) S) : ixD (.lst (a :: l)) (.int 0) S k := ix_l (d := a) (atI_nat (n := 0) rfl) q
theorem ix_l1 {a b : D} (q : k (.val b) S) : ixD (.lst (a :: b :: l)) (.int 1) S k := ix_l (d := b) (atI_nat (n := 1) rfl) q
theorem ix_l2 {a b c : D} (q : k (.val c) S) : ixD (.lst (a :: b :: c :: l)) (.int 2) S k := ix_l (d := c) (atI_nat (n := 2) rfl) q
theorem ix_l3 {a b c d : D} (q : k (.val d) S) : ixD (.lst (a :: b :: c :: d :: l)) (.int 3) S k := ix_l (d := d) (atI_nat (n := 3) rfl) q
theorem em_t (q : k (.val (.bl (l.isEmpty != neg))) S) : emD neg (.tup l) (.tup []) S k := q
end
end Fo
/-! Ms: the mirrors of the defs first met in this law. Printed by gen.py. -/
/-! Dic7: a dict display of three pairs. -/
namespace Fo
open PySem PySem.Spec PyProof.Rows L2
variable {K : Kw}
def dct3 (z1 u1 z2 u2 z3 u3 : W) (S : Sto) (k : KW) : Prop := keyW z1 fun x1 => keyW z2 fun x2 => keyW z3 fun x3 => (x1 ≠ x2 ∧ x1 ≠ x3 ∧ x2 ≠ x3) ∧ match u1, u2, u3 with
  | .val d1, .val d2, .val d3 => k (.val (.dct [keyD x1, keyD x2, keyD x3] [d1, d2, d3])) S
  | _, _, _ => False
def mDct3 (t1 e1 t2 e2 t3 e3 : ME) : ME := fun ρ S k => t1 ρ S fun z1 S => e1 ρ S fun u1 S => t2 ρ S fun z2 S => e2 ρ S fun u2 S => t3 ρ S fun z3 S => e3 ρ S fun u3 S => dct3 z1 u1 z2 u2 z3 u3 S k
section
variable {ρ : Rho} {S : Sto} {k : KW}
theorem mDct3_i {t1 e1 t2 e2 t3 e3 : ME} (q : t1 ρ S fun z1 S => e1 ρ S fun u1 S => t2 ρ S fun z2 S => e2 ρ S fun u2 S => t3 ρ S fun z3 S => e3 ρ S fun u3 S => dct3 z1 u1 z2 u2 z3 u3 S k) : mDct3 t1 e1 t2 e2 t3 e3 ρ S k := q
theorem dct3_i {a b c : Int} {d1 d2 d3 : D} (h : a ≠ b ∧ a ≠ c ∧ b ≠ c) (q : k (.val (.dct [.int a, .int b, .int c] [d1, d2, d3])) S) : dct3 (.val (.int a)) (.val d1) (.val (.int b)) (.val d2) (.val (.int c)) (.val d3) S k :=
  ⟨⟨fun z => h.1 (by injection z), fun z => h.2.1 (by injection z), fun z => h.2.2 (by injection z)⟩, q⟩
end
end Fo
/-! Ms: the mirrors of the defs first met in this law. Printed by gen.py. -/
namespace Fo
open PySem PySem.Spec PyProof.Rows L2
def t_is_text_of : MF := mfun 4
    (sRet (mAnd (mIsi "str" (mVar 0)) (mAnd (mBin leD (mCallB lenC (aCons (mVar 0) aNil)) (mVar 2)) (mCallB allC (aCons (mVal (nLC (iVal (mVar 0)) (gVar 3) cYes (mBin (inD false) (mVar 3) (mVar 1)) [3])) aNil)))))
theorem m_is_text_of : MonoF t_is_text_of := mfun_mono
end Fo
/-! Mul0: a tuple times nought. -/
/-! Ms: the mirrors of the defs first met in this law. Printed by gen.py. -/
/-! Sw1: s.startswith(t, i); len of a dict whose keys are tuples. -/
/-! Orx: x or y, x a text or None. -/
namespace Fo
open PySem PySem.Spec PyProof.Rows L2
variable {K : Kw}
def mOrT (t u : ME) : ME := fun ρ S k => t ρ S fun w S1 => match w with
  | .val .non => u ρ S1 k
  | .val (.str l) => l.length ≤ sizeLine ∧ if l.isEmpty = true then u ρ S1 k else k (.val (.str l)) S1
  | _ => False
theorem pem_orT {X : Cx} {a b : Expr} {rest : List Expr} {t u : ME} {pos : Pos} (ha : PEm X a t) (hb : PEm X (.BoolOp .Or (b :: rest) pos) u) : PEm X (.BoolOp .Or (a :: b :: rest) pos) (mOrT t u) := by
  refine ⟨(pe_orT ha.pe hb.pe).imp ?_, fun ρ S Q Q' h q => ha.mono ρ S _ _ (fun w S1 q => ?_) q⟩
  · rintro σ H Q ⟨A, B, ρ, S, k, r0, h, af⟩
    refine up_then r0 h fun w S1 A1 v H1 h1 k1 r1 rw1 => ?_
    split at h1
    · have e : v = .non := (RV.rd (show RV X.kw H1 (av A1 B) .non v from rw1)).non
      rw [e]
      exact ⟨false, rfl, A1, B, ρ, S1, k, r1, h1, af.keep k1⟩
    · rename_i l
      have e : v = .str (tx l) := (RV.rd (show RV X.kw H1 (av A1 B) (.str l) v from rw1)).str
      cases l with
      | nil =>
        rw [e]
        exact ⟨false, ⟨by rw [tx_length]; exact h1.1, by rw [tx_length]; rfl⟩, A1, B, ρ, S1, k, r1, h1.2, af.keep k1⟩
      | cons c l =>
        refine ⟨true, ?_, af _ _ h1.2 A1 v H1 k1 r1.cells rw1⟩
        rw [e]
        refine ⟨by rw [tx_length]; exact h1.1, ?_⟩
        rw [tx_length, List.length_cons]
        symm
        exact bne_iff_ne.mpr (by omega)
    · exact h1.elim
  · split at q
    · exact hb.mono ρ S1 _ _ h q
    · refine ⟨q.1, ?_⟩
      have q2 := q.2
      split at q2
      · rename_i hl
        rw [if_pos hl]
        exact hb.mono ρ S1 _ _ h q2
      · rename_i hl
        rw [if_neg hl]
        exact h _ _ q2
    · exact q.elim
section
variable {ρ : Rho} {S : Sto} {k : KW} {t u : ME}
theorem mOrT_i (q : t ρ S fun w S1 => match w with
  | .val .non => u ρ S1 k
  | .val (.str l) => l.length ≤ sizeLine ∧ if l.isEmpty = true then u ρ S1 k else k (.val (.str l)) S1
  | _ => False) : mOrT t u ρ S k := q
end
end Fo
/-! Ms: the mirrors of the defs first met in this law. Printed by gen.py. -/
namespace Fo
open PySem PySem.Spec PyProof.Rows L2
def t__law_some_signs_v2 : MF := mfun 7
    (sSeq (sSet 2 (mC (.str [33, 34, 35, 36, 38, 39, 40, 41, 42, 43, 44, 45, 46, 47, 48, 49, 50, 51, 52, 53, 54, 55, 56, 57, 58, 59, 60, 61, 62, 63, 64, 65, 66, 67, 68, 69, 70, 71, 72, 73, 74, 75, 76, 77, 78, 79, 80, 81, 82, 83, 84, 85, 86, 87, 88, 89, 90, 91, 92, 93, 94, 95, 96, 97, 98, 99, 100, 101, 102, 103, 104, 105, 106, 107, 108, 109, 110, 111, 112, 113, 114, 115, 116, 117, 118, 119, 120, 121, 122, 123, 124, 125, 126])))
    (sSeq (sAsg (mTup (aCons (mCall t__law_take (aCons (mVar 0) (aCons (mCallB lenC (aCons (mVar 2) aNil)) aNil)) []) (aCons (mBin addD (mC (.int 1)) (mBin mulD (mC (.int 2)) (mCall t__law_take (aCons (mVar 0) (aCons (mC (.int 9)) aNil)) []))) aNil))) (gTupM (gsCons (gVar 4) (gsCons (gVar 5) gsNil))))
    (sSeq (sSet 3 (mVal (nLC (iRange1 (aCons (mVar 1) aNil)) (gVar 6) cYes (mBin ixD (mVar 2) (mBin modD (mBin addD (mVar 4) (mBin mulD (mVar 5) (mVar 6))) (mCallB lenC (aCons (mVar 2) aNil)))) [6])))
    (sRet (mMethS joinF (mC (.str [])) (mVal (nCallB ssetF (aCons (mVar 3) aNil))))))))
theorem m__law_some_signs_v2 : MonoF t__law_some_signs_v2 := mfun_mono
def t__law_more_signs_v2 : MF := mfun 2
    (sSeq (sIf (mCond (mBin gtD (mCall t__law_take (aCons (mVar 0) (aCons (mC (.int 3)) aNil)) []) (mC (.int 0)))) (sRet (mSlice (mVar 1) oNo (oAt (mBin addD (mC (.int 1)) (mCall t__law_take (aCons (mVar 0) (aCons (mCallB min2C (aCons (mC (.int 3)) (aCons (mCallB lenC (aCons (mVar 1) aNil)) aNil))) aNil)) []))))) sNext)
    (sRet (mCall t__law_some_signs_v2 (aCons (mVar 0) (aCons (mBin addD (mC (.int 1)) (mCall t__law_take (aCons (mVar 0) (aCons (mC (.int 3)) aNil)) [])) aNil)) [])))
theorem m__law_more_signs_v2 : MonoF t__law_more_signs_v2 := mfun_mono
def t__law_any_row : MF := mfun 8
    (sSeq (sSet 5 (mCell (nLst (aCons (mCall t__law_any_reader (aCons (mVar 0) (aCons (mVar 1) (aCons (mCall t__law_more_signs_v2 (aCons (mVar 0) (aCons (mVar 1) aNil)) []) (aCons (mVar 3) (aCons (mVar 4) aNil))))) []) aNil))))
    (sSeq (sFor (iRange1 (aCons (mCall t__law_take (aCons (mVar 0) (aCons (mVar 2) aNil)) []) aNil)) (gVar 6) (sSeq (sSet 7 (mCall t__law_more_signs_v2 (aCons (mVar 0) (aCons (mBin ixD (mBin ixD (mVar 5) (mNeg (mC (.int 1)))) (mC (.int 1))) aNil)) []))
    (sExpr (mMethC appendF (mVar 5) (aCons (mCall t__law_any_reader (aCons (mVar 0) (aCons (mBin ixD (mBin ixD (mVar 5) (mNeg (mC (.int 1)))) (mC (.int 1))) (aCons (mVar 7) (aCons (mVar 3) (aCons (mVar 4) aNil))))) []) aNil)))))
    (sRet (mCallB tupleC (aCons (mVar 5) aNil)))))
theorem m__law_any_row : MonoF t__law_any_row := mfun_mono
end Fo
/-! Cmp2: < and > of pairs of a whole number and a text. -/
/-! Ms: the mirrors of the defs first met in this law. Printed by gen.py. -/
/-! Nst1: lists of own lists; a text times nought or one; targets within tuples. -/
namespace Fo
open PySem PySem.Spec PyProof.Rows L2
variable {K : Kw}
/-! ### xs[i], xs a list of own lists -/
def asLws (w : W) (k : List Nat → Prop) : Prop := match w with
  | .lws ns => k ns
  | _ => False
theorem asLws_mono {w : W} {k k' : List Nat → Prop} (h : ∀ ns, k ns → k' ns) (q : asLws w k) : asLws w k' := by
  unfold asLws at q ⊢
  split at q
  · exact h _ q
  · exact q.elim
def nthN (ns : List Nat) (j : Int) (k : Nat → Prop) : Prop := match atI ns j with
  | some n => k n
  | none => False
theorem nthN_mono {ns : List Nat} {j : Int} {k k' : Nat → Prop} (h : ∀ n, k n → k' n) (q : nthN ns j k) : nthN ns j k' := by
  unfold nthN at q ⊢
  split at q
  · exact h _ q
  · exact q.elim
def mIxW (o i : ME) : ME := fun ρ S k => o ρ S fun x S1 => i ρ S1 fun y S2 => asLws x fun ns => asI y S2 fun j S2 => nthN ns j fun n => k (.ref n) S2
theorem paired_get {α β : Type} {R : α → β → Prop} : ∀ {l : List α} {m : List β} {i : Nat} {x : α}, Paired R l m → l[i]? = some x → ∃ y, m[i]? = some y ∧ R x y
  | [], _, _, _, _, e => by simp at e
  | _ :: _, _, 0, _, .cons r _, e => by simp at e; subst e; exact ⟨_, rfl, r⟩
  | _ :: l, _ :: m, i + 1, _, .cons _ t, e => by
    obtain ⟨v, h1, h2⟩ := paired_get (l := l) (m := m) (i := i) t (by simpa using e)
    exact ⟨v, by simpa using h1, h2⟩
theorem paired_atI {α β : Type} {R : α → β → Prop} {l : List α} {m : List β} {j : Int} {x : α} (p : Paired R l m) (e : L2.atI l j = some x) : ∃ y, L2.atI m j = some y ∧ R x y := by
  unfold L2.atI at e ⊢
  rw [← p.length]
  cases q : ixN l.length j with
  | none => rw [q] at e; cases e
  | some i =>
    rw [q] at e
    exact paired_get p e
theorem RW.lws_ {H : Hp} {A : List (Option Addr)} {B : Addr → Prop} {ns : List Nat} {v : V} (r : RW K H A B (.lws ns) v) : ∃ a vs, v = .ref a ∧ H a = some (.lst vs) ∧ ¬ av A B a ∧ Paired (RN A) ns vs := by
  unfold RW at r
  exact r
theorem pem_ixW {X : Cx} {a b : Expr} {ta tb : ME} {pos : Pos} (ha : PEm X a ta) (hb : PEm X b tb) (hs : PlainIx b := by exact fun _ _ => rfl) : PEm X (.Subscript a b pos) (mIxW ta tb) := by
  refine ⟨(pe_ix ix_seq ha.pe hb.pe hs).imp ?_, fun ρ S Q Q' h q => ha.mono ρ S _ _ (fun x S1 => hb.mono ρ S1 _ _ fun y S2 => asLws_mono fun ns => asI_mono fun j S3 => nthN_mono fun n => h _ _) q⟩
  rintro σ H Q ⟨A, B, ρ, S, k, r0, h, af⟩
  refine up_then r0 h fun x S1 A1 vx H1 h1 k1 r1 rx => ?_
  refine up_then r1 h1 fun y S2 A2 vy H2 h2 k2 r2 ry => ?_
  unfold asLws at h2
  split at h2
  · rename_i ns
    obtain ⟨j, rfl, h3⟩ := asI_ok ry h2
    obtain ⟨a', vs, rfl, hH, na, pr⟩ := (rx.keep k2).lws_
    unfold nthN at h3
    split at h3
    · rename_i n en
      obtain ⟨v, ev, rn⟩ := paired_atI pr en
      exact .inl ⟨a', vs, j, v, rfl, rfl, .inl (.inl hH), ev, af _ _ h3 A2 v H2 (k1.trans k2) r2.cells rn⟩
    · exact h3.elim
  · exact h2.elim
/-! ### a new list of new lists -/
def lcPutW (acc : List Nat) (k : List Nat → Sto → Prop) (w : W) (S : Sto) : Prop := match w with
  | .ref n => acc.length < sizeLine ∧ k (acc ++ [n]) S
  | _ => False
def lcItemsW (g : MG) (c : MT) (e : ME) (ρ : Rho) (k : List Nat → Sto → Prop) : List D → List Nat → Sto → Prop
  | [], acc, S => k acc S
  | d :: ds, acc, S => g (.val d) ρ S fun ρ2 S2 => c ρ2 S2 fun b S3 => if b = true then e ρ2 S3 fun w S4 => lcPutW acc (fun acc S => lcItemsW g c e ρ k ds acc S) w S4 else lcItemsW g c e ρ k ds acc S3
def mLws (it : MI) (g : MG) (c : MT) (e : ME) (vs : List Nat) : ME := fun ρ S k => it ρ S fun ds S1 => lcItemsW g c e (wipeR ρ vs) (fun ns S2 => k (.lws ns) S2) ds [] S1
theorem lcItemsW_mono {g : MG} {c : MT} {e : ME} (mg : MonoG g) (mc : MonoT c) (me : MonoE e) {ρ : Rho} {k k' : List Nat → Sto → Prop} (h : ∀ ds S, k ds S → k' ds S) : ∀ ds acc S, lcItemsW g c e ρ k ds acc S → lcItemsW g c e ρ k' ds acc S
  | [], _, _, q => h _ _ q
  | d :: ds, acc, S, q => mg _ ρ S _ _ (fun ρ2 S2 => mc ρ2 S2 _ _ fun b S3 q3 => by
    cases b with
    | true =>
      refine me ρ2 S3 _ _ (fun w S4 q4 => ?_) q3
      cases w with
      | ref n => exact ⟨q4.1, lcItemsW_mono mg mc me h ds _ _ q4.2⟩
      | val n => exact q4
      | lws _ => exact q4
      | ins _ _ _ => exact q4
      | fn _ => exact q4
    | false => exact lcItemsW_mono mg mc me h ds _ _ q3) q
theorem paired_app {α β : Type} {R : α → β → Prop} : ∀ {l l' : List α} {m m' : List β}, Paired R l m → Paired R l' m' → Paired R (l ++ l') (m ++ m')
  | [], _, _, _, .nil, q => q
  | _ :: _, _, _ :: _, _, .cons r t, q => .cons r (paired_app t q)
theorem lcW_imp {it : MI} {g' : TG} {g : MG} {sl : List Nat} {c : MT} {e : ME} {own : List (Str × Nat)} (qg : ∀ A B H w v ρ S σ k Q, Rel K H A B ρ S σ → RW K H A B w v → g w ρ S k → AftG K A B H σ sl k Q → g' v σ H Q) (hsl : ∀ i ∈ sl, i ∈ own.map (·.2))
    {A : List (Option Addr)} {B : Addr → Prop} {ρ : Rho} {S : Sto} {σ : L2.St} {H : Hp} {k : KW} {Q : VK} (r : Rel K H A B ρ S σ) (h : mLws it g c e (own.map (·.2)) ρ S k) (af : Aft K A B H k Q) :
    tLc (upI K it) g' (upT K c) (up K e) (own.map (·.2)) σ H Q := by
  refine ⟨A, B, ρ, S, _, r, h, fun ds S1 h1 A1 H1 J G Y k1 c1 wd P hP => ?_⟩
  have nB : ¬ B P := fun z => c1.dom P z hP
  have nS : sysModules ≠ P := let ⟨_, e'⟩ := c1.sys; ne_of_none e' hP
  have r1 : Rel K H1 A1 B ρ S1 σ := r.keep k1 c1
  refine lc_it wd.walk (σ := σ) (fun i H' => ∃ A' S' acc av, Keep A1 H1 A' H' ∧ Rel K H' A' (fun a => B a ∨ a = P) (wipeR ρ (own.map (·.2))) S' (L2.wipe σ (own.map (·.2))) ∧ H' P = some (.lst av) ∧ Paired (RN A') acc av ∧
      lcItemsW g c e (wipeR ρ (own.map (·.2))) (fun ns S2 => k (.lws ns) S2) (ds.drop i) acc S') ?_ (fun i H' _ ⟨A', _, _, _, k', _⟩ => wd.stay A' H' k') ?_ ?_
  · refine ⟨A1, S1, [], [], Keep.upd hP, ?_, upd_same, .nil, h1⟩
    have st : Stay H1 (Fo.av A1 B) (L2.upd H1 P (.lst [])) (Fo.av A1 fun a => B a ∨ a = P) := fun a u e' n => by
      have hne : a ≠ P := ne_of_none e' hP
      refine ⟨by rw [upd_ne hne]; exact e', fun z => ?_⟩
      rcases z with (z | z) | z
      · exact n (.inl z)
      · exact hne z
      · exact n (.inr z)
    exact (r1.wipe _).cellsOf (c1.more hP) st
  · rintro i x H2 H3 hi2 ⟨A2, S2, acc, accv, k2, r2, hp2, ra, h2⟩ hy
    obtain ⟨d, hd, k3, c3, rv⟩ := wd.item i A2 (fun a => B a ∨ a = P) H2 S2 x H3 hi2 (fun _ z => .inl z) (fun a o e' n z => z.elim (fun b => n (.inl b)) fun e2 => by rw [e2, hP] at e'; cases e') k2 r2.cells hy
    have ed : ds.drop i = d :: ds.drop (i + 1) := by
      obtain ⟨g1, g2⟩ := List.getElem?_eq_some_iff.mp hd
      rw [List.drop_eq_getElem_cons g1, g2]
    rw [ed] at h2
    refine qg A2 _ H3 (.val d) x _ S2 _ _ _ (r2.keep k3 c3) rv h2 fun ρ4 S4 h4 A4 σ4 H4 k4 r4 w4 => ?_
    refine ⟨by
      have := w4 (own.map (·.2)) hsl
      rw [this]
      apply List.ext_getElem?
      intro j
      rw [wipe_at, wipe_at, wipe_length]
      by_cases hj : j ∈ own.map (·.2)
      · rw [if_pos hj, if_pos hj]
      · rw [if_neg hj, if_neg hj], ?_⟩
    refine ⟨A4, _, ρ4, S4, _, r4, h4, fun b S5 h5 A5 H5 k5 c5 => ?_⟩
    have kk : Keep A2 H2 A5 H5 := (k3.trans k4).trans k5
    have offP : ∀ {A' : List (Option Addr)} {H' : Hp} {S' : Sto}, Cells K H' A' (fun a => B a ∨ a = P) S' → some P ∉ A' := fun c' z => c'.off P z (.inr rfl)
    have hp5 : H5 P = some (.lst accv) := (kk.st P _ hp2 (offP r2.cells)).1
    cases b with
    | true =>
      refine ⟨A5, _, ρ4, S5, _, r4.keep k5 c5, h5, fun w S6 h6 A6 y H6 k6 c6 rw6 => ?_⟩
      cases w with
      | val n => exact h6.elim
      | lws _ => exact h6.elim
      | ins _ _ _ => exact h6.elim
      | fn _ => exact h6.elim
      | ref n' =>
        obtain ⟨hz, h7⟩ := h6
        have kk6 : Keep A2 H2 A6 H6 := kk.trans k6
        have hp6 : H6 P = some (.lst accv) := (kk6.st P _ hp2 (offP r2.cells)).1
        have ra6 : Paired (RN A6) acc accv := L2.Paired.mapP ra fun _ _ q => q.keep kk6
        refine ⟨accv, hp6, by rw [← ra6.length]; exact hz, A6, S6, acc ++ [n'], accv ++ [y], ?_, ?_, upd_same, paired_app ra6 (.cons rw6 .nil), h7⟩
        · have kk7 := k2.trans kk6
          refine ⟨fun a o e' n => ?_, kk7.len, kk7.ix⟩
          obtain ⟨z1, z2⟩ := kk7.st a o e' n
          exact ⟨by rw [upd_ne (ne_of_none e' hP)]; exact z1, z2⟩
        · have r6 : Rel K H6 A6 (fun a => B a ∨ a = P) (wipeR ρ (own.map (·.2))) S6 (L2.wipe σ (own.map (·.2))) := r2.keep kk6 c6
          refine r6.cellsOf (c6.offUpd (.inr rfl) nS) fun a u e' n => ?_
          have hne : a ≠ P := fun z => n (.inl (.inr z))
          exact ⟨by rw [upd_ne hne]; exact e', n⟩
    | false =>
      refine ⟨A5, S5, acc, accv, k2.trans kk, r2.keep kk c5, hp5, L2.Paired.mapP ra fun _ _ q => q.keep kk, h5⟩
  · rintro H2 ⟨A2, S2, acc, accv, k2, r2, hp2, ra, h2⟩
    rw [List.drop_length] at h2
    obtain ⟨c3, st⟩ := r2.cells.forget nB nS
    have e3 : L2.upd (fun b => if b = P then none else H2 b) P (.lst accv) = H2 := by
      funext b
      by_cases hb : b = P
      · rw [hb, upd_same, hp2]
      · rw [upd_ne hb]
        show (if b = P then none else H2 b) = H2 b
        rw [if_neg hb]
    have hpn : (fun b => if b = P then none else H2 b) P = none := by show (if P = P then none else H2 P) = none; rw [if_pos rfl]
    have c4 := c3.upd (o := .lst accv) hpn
    have noff := c3.new_off hpn
    rw [e3] at c4
    refine af _ _ h2 A2 _ H2 ⟨fun a o e' n => ?_, (k1.trans k2).len, (k1.trans k2).ix⟩ c4 ?_
    · have e1 := k1.st a o e' n
      exact k2.st a o e1.1 e1.2
    · unfold RW
      exact ⟨P, accv, rfl, hp2, noff, ra⟩
theorem pem_lws {X : Cx} {elt tg iter : Expr} {ifs : List Expr} {scope : Scope} {own : List (Str × Nat)} {pos : Pos} {it : MI} {g' : TG} {g : MG} {sl : List Nat} {c : MT} {e : ME} (hc : X.calm = true) (hN : X.N.Nodup) (hi : PIm X tg iter it) (ok : BlkOk X.N X.env.scope scope own)
    (hg : ∀ (s : Shared) (H : Hp) (C : Addr) (cl : List (Str × Addr)) (fp : List Addr), PGm (X.blk s H scope (compEnvC scope cl C X.env) fp) tg g' g sl)
    (hsl : ∀ i ∈ sl, i ∈ own.map (·.2))
    (ht : ∀ (s : Shared) (H : Hp) (C : Addr) (cl : List (Str × Addr)) (fp : List Addr), PTsm (X.blk s H scope (compEnvC scope cl C X.env) fp) ifs c)
    (he : ∀ (s : Shared) (H : Hp) (C : Addr) (cl : List (Str × Addr)) (fp : List Addr), PEm (X.blk s H scope (compEnvC scope cl C X.env) fp) elt e) (hs : ∀ x, foldedSetIterable iter X.env x = pure x := by intro _; rfl) :
    PEm X (.ListComp elt [⟨tg, iter, ifs, 0⟩] scope pos) (mLws it g c e (own.map (·.2))) := by
  have qg : ∀ A B H w v ρ S σ k Q, Rel X.kw H A B ρ S σ → RW X.kw H A B w v → g w ρ S k → AftG X.kw A B H σ sl k Q → g' v σ H Q := (hg X.s_0 (fun _ => none) 0 [] []).ok
  have mg : MonoG g := (hg X.s_0 (fun _ => none) 0 [] []).mono
  have mc : MonoT c := (ht X.s_0 (fun _ => none) 0 [] []).mono
  have me : MonoE e := (he X.s_0 (fun _ => none) 0 [] []).mono
  refine ⟨(pe_lc (te := up X.kw e) (tt := upT X.kw c) (g := g') hc hN hi.pi ok (fun s H C cl fp => (hg s H C cl fp).pg) (fun s H C cl fp => (ht s H C cl fp).pts) (fun s H C cl fp => (he s H C cl fp).pe) hs).imp ?_,
    fun ρ S Q Q' h q => hi.mono ρ S _ _ (fun ds S1 q1 => lcItemsW_mono mg mc me (fun _ _ => h _ _) ds [] S1 q1) q⟩
  rintro σ H Q ⟨A, B, ρ, S, k, r, h, af⟩
  exact lcW_imp qg hsl r h af
/-! ### all of it as data from now on -/
def frzN : List Nat → Sto → (List D → Sto → Prop) → Prop
  | [], S, k => k [] S
  | n :: ns, S, k => match S[n]? with
    | some (.lst l) => frzN ns (S.set n .dead) fun ds S' => k (.lst l :: ds) S'
    | _ => False
theorem frzN_mono : ∀ {ns : List Nat} {S : Sto} {k k' : List D → Sto → Prop}, (∀ ds S, k ds S → k' ds S) → frzN ns S k → frzN ns S k'
  | [], _, _, _, h, q => h _ _ q
  | n :: ns, S, k, k', h, q => by
    unfold frzN at q ⊢
    split at q
    · exact frzN_mono (fun ds S => h _ _) q
    · exact q.elim
theorem frzN_ok {H : Hp} {B : Addr → Prop} : ∀ {ns : List Nat} {A : List (Option Addr)} {S : Sto} {vs : List V} {k : List D → Sto → Prop}, Cells K H A B S → Paired (RN A) ns vs → frzN ns S k →
    ∃ ds A' S', Keep A H A' H ∧ Cells K H A' B S' ∧ RVs K H (av A' B) ds vs ∧ k ds S'
  | [], A, S, vs, k, c, p, h => by
    cases p
    exact ⟨[], A, S, Keep.refl, c, RVs.nil, h⟩
  | n :: ns, A, S, vs, k, c, p, h => by
    cases p with
    | cons r t =>
      unfold frzN at h
      split at h
      · rename_i l e
        obtain ⟨a, ha, us, h1, h2⟩ := c.look e (by intro z; cases z)
        obtain ⟨c2, k2, n2⟩ := c.freeze ha
        obtain ⟨ds, A', S', k3, c3, rs, h3⟩ := frzN_ok c2 (L2.Paired.mapP t fun _ _ q => q.keep k2) h
        have ev := RW.at_ (K := K) (H := H) (B := B) r ha
        subst ev
        refine ⟨.lst l :: ds, A', S', k2.trans k3, c3, RVs.cons ?_ rs, h3⟩
        have : RV K H (av (A.set n none) B) (.lst l) (.ref a) := by
          unfold RV
          exact ⟨a, us, rfl, h1, n2, h2.stay k2.stay⟩
        exact RV.stay k3.stay this
      · exact h.elim
def mFrzL (i : Nat) : ME := fun ρ S k => match ρ[i]? with
  | some (some (.lws ns)) => frzN ns S fun ds S' => k (.val (.lst ds)) S'
  | some (some (.val d)) => k (.val d) S
  | _ => False
theorem pem_frzL {X : Cx} {i : Nat} {x : Str} {pos : Pos} (h : PE X (.Name x pos) (tVar i)) : PEm X (.Name x pos) (mFrzL i) := by
  refine ⟨h.imp ?_, fun ρ S Q Q' hq q => ?_⟩
  · rintro σ H Q ⟨A, B, ρ, S, k, r, h, a⟩
    unfold mFrzL at h
    split at h
    · rename_i ns e
      obtain ⟨v, e1, q⟩ := r.slot i _ e
      obtain ⟨ad, vs, rfl, hH, na, pr⟩ := q.lws_
      obtain ⟨ds, A', S', k2, c2, rs, h2⟩ := frzN_ok r.cells pr h
      refine ⟨_, e1, a _ _ h2 A' _ H k2 c2 ?_⟩
      show RV X.kw H (av A' B) (.lst ds) (.ref ad)
      unfold RV
      exact ⟨ad, vs, rfl, hH, (k2.stay ad _ hH na).2, rs⟩
    · rename_i d e
      obtain ⟨v, e1, q⟩ := r.slot i _ e
      exact ⟨v, e1, a _ _ h A v H Keep.refl r.cells q⟩
    · exact h.elim
  · unfold mFrzL at q ⊢
    split at q
    · exact frzN_mono (fun _ _ => hq _ _) q
    · exact hq _ _ q
    · exact q.elim
/-! ### a text times nought or one -/
def rRep01 : R2 := fun x y H Q => ∃ (l : List Nat) (n : Int), x = .str (tx l) ∧ y = .int n ∧ (0 ≤ n ∧ n ≤ 1) ∧ Q (.str (tx (if n = 0 then [] else l))) H
theorem op_rep01 {X : Cx} : OpR X (binaryOp .Mult) rRep01 := by
  intro pins s σ H x y v u Q I rx ry h
  obtain ⟨l, n, rfl, rfl, ⟨h1, h2⟩, q⟩ := h
  obtain ⟨t, rfl⟩ := rx
  obtain ⟨t', rfl⟩ := ry
  have hn : n = 0 ∨ n = 1 := by omega
  rcases hn with rfl | rfl
  · refine P.mul_str (by decide) (fun z => absurd (by decide) z) (fun z => absurd (by decide) z) ?_
    rw [if_pos (by decide)]
    rw [if_pos rfl] at q
    exact ⟨by show (0 : Nat) ≤ _; omega, ⟨.str _, H, I.tok _, ⟨_, rfl⟩, q⟩⟩
  · refine P.mul_str (by decide) (fun _ z => by simp at z) (fun _ z => by simp at z) ?_
    rw [if_neg (by decide), if_pos (by simp)]
    rw [if_neg (by decide)] at q
    exact ⟨.str _, H, I, ⟨_, rfl⟩, q⟩
def mulS : OpD := fun a b S k => match a, b with
  | .str l, .int n => (0 ≤ n ∧ n ≤ 1) ∧ k (.val (.str (if n = 0 then [] else l))) S
  | a, b => mulD a b S k
theorem mulS_mono : MonoO mulS := by
  intro a b S Q Q' h q
  unfold mulS at q ⊢
  split at q
  · exact ⟨q.1, h _ _ q.2⟩
  · exact mulD_mono a b S Q Q' h q
theorem op_mulSM {X : Cx} : OpR X (binaryOp .Mult) (fun x y H Q => rRep01 x y H Q ∨ rMul X.kw x y H Q) := op_rep01.or op_mulM
theorem mulSM : OpM K (fun x y H Q => rRep01 x y H Q ∨ rMul K x y H Q) mulS := by
  intro A B H S dx dy vx vy k Q c rx ry h af
  unfold mulS at h
  split at h
  · rename_i l n
    rw [rx.str, ry.int]
    exact .inl ⟨l, n, rfl, rfl, h.1, af.str c h.2⟩
  · exact .inr (mulM _ _ _ _ _ _ _ _ _ _ c rx ry h af)
/-! ### targets -/
theorem strict_ix {o i : ME} (ho : ∀ ρ S Q, o ρ S Q → ∃ w S', Q w S') (hi : ∀ ρ S Q, i ρ S Q → ∃ w S', Q w S') : Strict (gIx o i) := fun w ρ S Q h => by
  obtain ⟨x, S1, h1⟩ := ho _ _ _ h
  obtain ⟨y, S2, h2⟩ := hi _ _ _ h1
  unfold asCell at h2
  split at h2
  · split at h2
    · unfold asI at h2
      split at h2
      · split at h2
        · split at h2
          · exact ⟨_, _, h2⟩
          · exact h2.elim
        · exact h2.elim
      · exact h2.elim
    · exact h2.elim
  · exact h2.elim
theorem sv_var {i : Nat} (ρ S Q) (h : mVar i ρ S Q) : ∃ w S', Q w S' := by
  unfold mVar at h
  split at h
  · exact ⟨_, _, h⟩
  · exact h.elim
/-! ### steps -/
section
variable {ρ : Rho} {S : Sto} {k : KW} {t u e : ME} {it : MI} {g : MG} {c : MT} {vs ns : List Nat} {i n : Nat} {j : Int} {l : List Nat}
theorem mIxW_i (q : t ρ S fun x S1 => u ρ S1 fun y S2 => asLws x fun ns => asI y S2 fun j S2 => nthN ns j fun n => k (.ref n) S2) : mIxW t u ρ S k := q
theorem asLws_i {kl : List Nat → Prop} (q : kl ns) : asLws (.lws ns) kl := q
theorem nthN_i {kl : Nat → Prop} (h : atI ns j = some n) (q : kl n) : nthN ns j kl := by
  unfold nthN
  rw [h]
  exact q
theorem mLws_i (q : it ρ S fun ds S1 => lcItemsW g c e (wipeR ρ vs) (fun ns S2 => k (.lws ns) S2) ds [] S1) : mLws it g c e vs ρ S k := q
theorem lcputW_i {acc : List Nat} {kk : List Nat → Sto → Prop} (h : acc.length < sizeLine) (q : kk (acc ++ [n]) S) : lcPutW acc kk (.ref n) S := ⟨h, q⟩
theorem lcW_inv {kn : List Nat → Sto → Prop} (I : List D → List Nat → Sto → Prop) (fin : ∀ acc S, I [] acc S → kn acc S)
    (step : ∀ d r acc S (K : List Nat → Sto → Prop), (∀ acc S, I r acc S → K acc S) → I (d :: r) acc S → g (.val d) ρ S fun ρ2 S2 => c ρ2 S2 fun b S3 => if b = true then e ρ2 S3 fun w S4 => lcPutW acc K w S4 else K acc S3) :
    ∀ (ds : List D) (acc : List Nat) (S : Sto), I ds acc S → lcItemsW g c e ρ kn ds acc S
  | [], acc, S, h => fin acc S h
  | d :: r, acc, S, h => step d r acc S (fun acc S => lcItemsW g c e ρ kn r acc S) (fun acc S q => lcW_inv I fin step r acc S q) h
theorem mFrzL_i (h : ρ[i]? = some (some (.lws ns))) (q : frzN ns S fun ds S' => k (.val (.lst ds)) S') : mFrzL i ρ S k := by
  unfold mFrzL
  simp only [h]
  exact q
theorem mulS_s {n : Int} (h : 0 ≤ n ∧ n ≤ 1) (q : k (.val (.str (if n = 0 then [] else l))) S) : mulS (.str l) (.int n) S k := ⟨h, q⟩
end
end Fo
/-! Lck1: a comprehension over a cell that lives on: it is locked meanwhile. -/
namespace Fo
open PySem PySem.Spec PyProof.Rows L2
variable {K : Kw}
theorem lc_core2 {g' : TG} {g : MG} {sl : List Nat} {c : MT} {e : ME} {own : List (Str × Nat)} (qg : ∀ A B H w v ρ S σ k Q, Rel K H A B ρ S σ → RW K H A B w v → g w ρ S k → AftG K A B H σ sl k Q → g' v σ H Q) (hsl : ∀ i ∈ sl, i ∈ own.map (·.2))
    {A1 : List (Option Addr)} {B : Addr → Prop} {ρ : Rho} {S1 : Sto} {σ : L2.St} {H1 : Hp} {k : List D → Sto → Prop} {Q : VK} {J : It} {ds : List D} {G : Hp → Prop} {Y : Nat → Hp → V → Hp → Prop} (r1 : Rel K H1 A1 B ρ S1 σ)
    (h1 : lcItems g c e (wipeR ρ (own.map (·.2))) k ds [] S1) (wd : WalkD K A1 B H1 J ds G Y) (af : AftN K A1 B H1 k Q) : tLc (fun _ H R => R J H) g' (upT K c) (up K e) (own.map (·.2)) σ H1 Q := by
  intro P hP
  have c1 := r1.cells
  have nB : ¬ B P := fun z => c1.dom P z hP
  have nS : sysModules ≠ P := let ⟨_, e'⟩ := c1.sys; ne_of_none e' hP
  refine lc_it wd.walk (σ := σ) (fun i H' => ∃ A' S' acc av, Keep A1 H1 A' H' ∧ Rel K H' A' (fun a => B a ∨ a = P) (wipeR ρ (own.map (·.2))) S' (L2.wipe σ (own.map (·.2))) ∧ H' P = some (.lst av) ∧ RVs K H' (Fo.av A' fun a => B a ∨ a = P) acc av ∧
      lcItems g c e (wipeR ρ (own.map (·.2))) k (ds.drop i) acc S') ?_ (fun i H' _ ⟨A', _, _, _, k', _⟩ => wd.stay A' H' k') ?_ ?_
  · refine ⟨A1, S1, [], [], Keep.upd hP, ?_, upd_same, RVs.nil, h1⟩
    have st : Stay H1 (Fo.av A1 B) (L2.upd H1 P (.lst [])) (Fo.av A1 fun a => B a ∨ a = P) := fun a u e' n => by
      have hne : a ≠ P := ne_of_none e' hP
      refine ⟨by rw [upd_ne hne]; exact e', fun z => ?_⟩
      rcases z with (z | z) | z
      · exact n (.inl z)
      · exact hne z
      · exact n (.inr z)
    exact (r1.wipe _).cellsOf (c1.more hP) st
  · rintro i x H2 H3 hi2 ⟨A2, S2, acc, accv, k2, r2, hp2, ra, h2⟩ hy
    obtain ⟨d, hd, k3, c3, rv⟩ := wd.item i A2 (fun a => B a ∨ a = P) H2 S2 x H3 hi2 (fun _ z => .inl z) (fun a o e' n z => z.elim (fun b => n (.inl b)) fun e2 => by rw [e2, hP] at e'; cases e') k2 r2.cells hy
    have ed : ds.drop i = d :: ds.drop (i + 1) := by
      obtain ⟨g1, g2⟩ := List.getElem?_eq_some_iff.mp hd
      rw [List.drop_eq_getElem_cons g1, g2]
    rw [ed] at h2
    refine qg A2 _ H3 (.val d) x _ S2 _ _ _ (r2.keep k3 c3) rv h2 fun ρ4 S4 h4 A4 σ4 H4 k4 r4 w4 => ?_
    refine ⟨by
      have := w4 (own.map (·.2)) hsl
      rw [this]
      apply List.ext_getElem?
      intro j
      rw [wipe_at, wipe_at, wipe_length]
      by_cases hj : j ∈ own.map (·.2)
      · rw [if_pos hj, if_pos hj]
      · rw [if_neg hj, if_neg hj], ?_⟩
    refine ⟨A4, _, ρ4, S4, _, r4, h4, fun b S5 h5 A5 H5 k5 c5 => ?_⟩
    have kk : Keep A2 H2 A5 H5 := (k3.trans k4).trans k5
    have offP : ∀ {A' : List (Option Addr)} {H' : Hp} {S' : Sto}, Cells K H' A' (fun a => B a ∨ a = P) S' → some P ∉ A' := fun c' z => c'.off P z (.inr rfl)
    have hp5 : H5 P = some (.lst accv) := (kk.st P _ hp2 (offP r2.cells)).1
    cases b with
    | true =>
      refine ⟨A5, _, ρ4, S5, _, r4.keep k5 c5, h5, fun w S6 h6 A6 y H6 k6 c6 rw6 => ?_⟩
      cases w with
      | ref n => exact h6.elim
      | lws _ => exact h6.elim
      | ins _ _ _ => exact h6.elim
      | fn _ => exact h6.elim
      | val y' =>
        obtain ⟨hz, h7⟩ := h6
        have kk6 : Keep A2 H2 A6 H6 := kk.trans k6
        have hp6 : H6 P = some (.lst accv) := (kk6.st P _ hp2 (offP r2.cells)).1
        have ra6 : RVs K H6 (Fo.av A6 fun a => B a ∨ a = P) acc accv := ra.stay kk6.stay
        refine ⟨accv, hp6, by rw [ra6.length]; exact hz, A6, S6, acc ++ [y'], accv ++ [y], ?_, ?_, upd_same, ?_, h7⟩
        · have kk7 := k2.trans kk6
          refine ⟨fun a o e' n => ?_, kk7.len, kk7.ix⟩
          obtain ⟨z1, z2⟩ := kk7.st a o e' n
          exact ⟨by rw [upd_ne (ne_of_none e' hP)]; exact z1, z2⟩
        · have r6 : Rel K H6 A6 (fun a => B a ∨ a = P) (wipeR ρ (own.map (·.2))) S6 (L2.wipe σ (own.map (·.2))) := r2.keep kk6 c6
          refine r6.cellsOf (c6.offUpd (.inr rfl) nS) fun a u e' n => ?_
          have hne : a ≠ P := fun z => n (.inl (.inr z))
          exact ⟨by rw [upd_ne hne]; exact e', n⟩
        · refine RVs.stay (fun a u e' n => ?_) (ra6.append (RVs.cons rw6 RVs.nil))
          have hne : a ≠ P := fun z => n (.inl (.inr z))
          exact ⟨by rw [upd_ne hne]; exact e', n⟩
    | false =>
      refine ⟨A5, S5, acc, accv, k2.trans kk, r2.keep kk c5, hp5, ra.stay kk.stay, h5⟩
  · rintro H2 ⟨A2, S2, acc, accv, k2, r2, hp2, ra, h2⟩
    rw [List.drop_length] at h2
    obtain ⟨c3, st⟩ := r2.cells.forget nB nS
    have e3 : L2.upd (fun b => if b = P then none else H2 b) P (.lst accv) = H2 := by
      funext b
      by_cases hb : b = P
      · rw [hb, upd_same, hp2]
      · rw [upd_ne hb]
        show (if b = P then none else H2 b) = H2 b
        rw [if_neg hb]
    have := af _ _ h2 A2 (fun b => if b = P then none else H2 b) P accv ⟨fun a o e' n => ?_, k2.len, k2.ix⟩ c3 (ra.stay st) (by show (if P = P then none else H2 P) = none; rw [if_pos rfl])
    · rw [e3] at this
      exact this
    · have hne : a ≠ P := ne_of_none e' hP
      obtain ⟨z1, z2⟩ := k2.st a o e' n
      exact ⟨by show (if a = P then none else H2 a) = _; rw [if_neg hne]; exact z1, z2⟩
mutual
theorem RW.move {H H' : Hp} {A A' : List (Option Addr)} {B B' : Addr → Prop} (ix : ∀ (n : Nat) (x : Option Addr), A[n]? = some x → A'[n]? = some x ∨ A'[n]? = some none) (st : Stay H (av A B) H' (av A' B')) : ∀ {w : W} {v : V}, RW K H A B w v → RW K H' A' B' w v
  | .val d, v, r => by
    unfold RW at r ⊢
    exact RV.stay st r
  | .ref n, v, r => by
    unfold RW at r ⊢
    rcases r with e | ⟨a, e, q⟩
    · rcases ix n _ e with z | z
      · exact .inl z
      · exact .inl z
    · rcases ix n _ e with z | z
      · exact .inr ⟨a, z, q⟩
      · exact .inl z
  | .lws ns, v, r => by
    unfold RW at r ⊢
    obtain ⟨a, vs, e, h, n, p⟩ := r
    refine ⟨a, vs, e, (st a _ h n).1, (st a _ h n).2, L2.Paired.mapP p fun n u q => ?_⟩
    rcases q with e | ⟨a, e, q⟩
    · rcases ix n _ e with z | z
      · exact .inl z
      · exact .inl z
    · rcases ix n _ e with z | z
      · exact .inr ⟨a, z, q⟩
      · exact .inl z
  | .ins x ns fs, v, r => by
    unfold RW at r ⊢
    obtain ⟨a, C, dx, vs, e, h0, h, hd, n, nd, l, p⟩ := r
    exact ⟨a, C, dx, vs, e, h0, (st a _ h n).1, (st dx _ hd nd).1, (st a _ h n).2, (st dx _ hd nd).2, l, RWl.move ix st p⟩
  | .fn x, v, r => by
    unfold RW at r ⊢
    exact r
theorem RWl.move {H H' : Hp} {A A' : List (Option Addr)} {B B' : Addr → Prop} (ix : ∀ (n : Nat) (x : Option Addr), A[n]? = some x → A'[n]? = some x ∨ A'[n]? = some none) (st : Stay H (av A B) H' (av A' B')) : ∀ {w : List W} {v : List V}, RWl K H A B w v → RWl K H' A' B' w v
  | [], _, r => by
    unfold RWl at r ⊢
    exact r
  | w :: ws, _, r => by
    unfold RWl at r ⊢
    obtain ⟨v, q, e, h, t⟩ := r
    exact ⟨v, q, e, RW.move ix st h, RWl.move ix st t⟩
end
theorem set_in {α : Type} {A : List α} {n : Nat} {x y : α} (h : y ∈ A.set n x) : y ∈ A ∨ y = x := List.mem_or_eq_of_mem_set h
/-- a cell is kept off for a while -/
theorem Cells.lockL {H : Hp} {A : List (Option Addr)} {B : Addr → Prop} {S : Sto} (c : Cells K H A B S) {n : Nat} {a : Addr} (ha : A[n]? = some (some a)) :
    Cells K H (A.set n none) (fun b => B b ∨ b = a) (S.set n .dead) ∧ Keep A H (A.set n none) H ∧ ∀ b, av (A.set n none) (fun b => B b ∨ b = a) b ↔ av A B b := by
  obtain ⟨c2, k2, n2⟩ := c.freeze ha
  have hm : some a ∈ A := List.mem_of_getElem? ha
  have hl : n < S.length := by rw [← c.len]; exact (List.getElem?_eq_some_iff.mp ha).1
  have iff : ∀ b, av (A.set n none) (fun b => B b ∨ b = a) b ↔ av A B b := fun b => by
    constructor
    · rintro ((z | z) | z)
      · exact .inl z
      · rw [z]; exact .inr hm
      · rcases set_in z with z | z
        · exact .inr z
        · cases z
    · rintro (z | z)
      · exact .inl (.inl z)
      · by_cases e : b = a
        · exact .inl (.inr e)
        · obtain ⟨m, hm2⟩ := List.mem_iff_getElem?.mp z
          refine .inr (List.mem_of_getElem? (i := m) ?_)
          rw [List.getElem?_set_ne]
          · exact hm2
          · intro q
            rw [← q, ha] at hm2
            exact e (by injection hm2 with q; injection q with q; exact q.symm)
  have st : Stay H (av A B) H (av (A.set n none) fun b => B b ∨ b = a) := fun x o e nn => ⟨e, fun z => nn ((iff x).mp z)⟩
  refine ⟨⟨c2.len, fun m x ob e1 e2 => ?_, c2.inj, fun b z q => ?_, fun b z => ?_, c.sys, c2.soff⟩, k2, iff⟩
  · by_cases h : n = m
    · subst h
      exact (by
        have q := c2.at_ n x ob e1 e2
        rw [List.getElem?_set_self (List.getElem?_eq_some_iff.mp ha).1] at e1
        cases e1
        cases ob <;> exact q)
    · rw [List.getElem?_set_ne h] at e1 e2
      have q := c.at_ m x ob e1 e2
      cases x with
      | none => cases ob <;> exact q
      | some b =>
        cases ob with
        | dead => exact q
        | lst ds =>
          obtain ⟨vs, h1, h2⟩ := q
          exact ⟨vs, h1, RVs.stay st h2⟩
        | dic ks ws =>
          obtain ⟨u, kv, vs, h1, h2, h3, h4⟩ := q
          exact ⟨u, kv, vs, h1, h2, RVs.stay st h3, RVs.stay st h4⟩
  · rcases q with q | q
    · exact c2.off b z q
    · subst q
      exact n2 (.inr z)
  · rcases z with z | z
    · exact c.dom b z
    · subst z
      exact (c.at_ n _ _ ha (List.getElem?_eq_getElem hl)).some_of.1
/-- and is at hand again -/
theorem Cells.unlockL {H H' : Hp} {A A' : List (Option Addr)} {B : Addr → Prop} {S S' : Sto} (c : Cells K H A B S) {n : Nat} {a : Addr} {ds : List D} {vs : List V} (ha : A[n]? = some (some a)) (h1 : H a = some (.lst vs)) (h2 : RVs K H (av A B) ds vs)
    (kp : Keep (A.set n none) H A' H') (c' : Cells K H' A' (fun b => B b ∨ b = a) S') :
    Cells K H' (A'.set n (some a)) B (S'.set n (.lst ds)) ∧ Keep A H (A'.set n (some a)) H' ∧ ∀ b, av (A'.set n (some a)) B b ↔ av A' (fun b => B b ∨ b = a) b := by
  have hm : some a ∈ A := List.mem_of_getElem? ha
  have hnA : n < A.length := (List.getElem?_eq_some_iff.mp ha).1
  have an : A'[n]? = some none := by
    rcases kp.ix n none (by rw [List.getElem?_set_self hnA]) with z | z <;> exact z
  have hnA' : n < A'.length := (List.getElem?_eq_some_iff.mp an).1
  have noA' : some a ∉ A' := fun z => c'.off a z (.inr rfl)
  have noA1 : some a ∉ A.set n none := fun z => by
    obtain ⟨m, e⟩ := List.mem_iff_getElem?.mp z
    by_cases h : n = m
    · subst h
      rw [List.getElem?_set_self hnA] at e
      cases e
    · rw [List.getElem?_set_ne h] at e
      exact h (c.inj n m a ha e)
  have inA'' : ∀ b, some b ∈ A'.set n (some a) ↔ some b ∈ A' ∨ b = a := fun b => by
    constructor
    · intro z
      rcases set_in z with z | z
      · exact .inl z
      · exact .inr (by injection z)
    · rintro (z | z)
      · obtain ⟨m, e⟩ := List.mem_iff_getElem?.mp z
        refine List.mem_of_getElem? (i := m) ?_
        rw [List.getElem?_set_ne]
        · exact e
        · intro q
          rw [← q, an] at e
          cases e
      · subst z
        exact List.mem_of_getElem? (i := n) (List.getElem?_set_self hnA')
  have iff : ∀ b, av (A'.set n (some a)) B b ↔ av A' (fun b => B b ∨ b = a) b := fun b => by
    unfold av
    rw [inA'' b]
    constructor
    · rintro (z | z | z)
      · exact .inl (.inl z)
      · exact .inr z
      · exact .inl (.inr z)
    · rintro ((z | z) | z)
      · exact .inl z
      · exact .inr (.inr z)
      · exact .inr (.inl z)
  have st0 : ∀ x o, H x = some o → some x ∉ A → H' x = some o ∧ some x ∉ A'.set n (some a) := fun x o e nn => by
    obtain ⟨z1, z2⟩ := kp.st x o e fun z => by
      rcases set_in z with z | z
      · exact nn z
      · cases z
    refine ⟨z1, fun z => ?_⟩
    rcases (inA'' x).mp z with z | z
    · exact z2 z
    · subst z
      exact nn hm
  have st : Stay H (av A B) H' (av (A'.set n (some a)) B) := fun x o e nn => by
    obtain ⟨z1, z2⟩ := st0 x o e fun z => nn (.inr z)
    exact ⟨z1, fun z => z.elim (fun b => nn (.inl b)) z2⟩
  have st2 : Stay H' (av A' fun b => B b ∨ b = a) H' (av (A'.set n (some a)) B) := fun x o e nn => ⟨e, fun z => nn ((iff x).mp z)⟩
  refine ⟨⟨by rw [List.length_set, List.length_set]; exact c'.len, fun m x ob e1 e2 => ?_, fun m l b e1 e2 => ?_, fun b z q => ?_, fun b z => c'.dom b (.inl z), c'.sys, fun z => ?_⟩, ⟨st0, ?_, fun m x e => ?_⟩, iff⟩
  · by_cases h : n = m
    · subst h
      rw [List.getElem?_set_self hnA'] at e1
      rw [List.getElem?_set_self (by rw [← c'.len]; exact hnA')] at e2
      cases e1
      cases e2
      exact ⟨vs, (kp.st a _ h1 noA1).1, RVs.stay st h2⟩
    · rw [List.getElem?_set_ne h] at e1 e2
      have q := c'.at_ m x ob e1 e2
      cases x with
      | none => cases ob <;> exact q
      | some b =>
        cases ob with
        | dead => exact q
        | lst ds =>
          obtain ⟨vs, h1, h2⟩ := q
          exact ⟨vs, h1, RVs.stay st2 h2⟩
        | dic ks ws =>
          obtain ⟨u, kv, vs, h1, h2, h3, h4⟩ := q
          exact ⟨u, kv, vs, h1, h2, RVs.stay st2 h3, RVs.stay st2 h4⟩
  · have f : ∀ j, (A'.set n (some a))[j]? = some (some b) → (j = n ∧ b = a) ∨ (j ≠ n ∧ A'[j]? = some (some b)) := fun j e => by
      by_cases h : n = j
      · subst h
        rw [List.getElem?_set_self hnA'] at e
        injection e with e
        injection e with e
        exact .inl ⟨rfl, e.symm⟩
      · rw [List.getElem?_set_ne h] at e
        exact .inr ⟨fun q => h q.symm, e⟩
    rcases f m e1 with ⟨q1, q2⟩ | ⟨q1, q2⟩ <;> rcases f l e2 with ⟨p1, p2⟩ | ⟨p1, p2⟩
    · rw [q1, p1]
    · subst q2
      exact absurd (List.mem_of_getElem? p2) noA'
    · subst p2
      exact absurd (List.mem_of_getElem? q2) noA'
    · exact c'.inj m l b q2 p2
  · rcases (inA'' b).mp z with z | z
    · exact c'.off b z (.inl q)
    · subst z
      exact c.off b hm q
  · rcases (inA'' _).mp z with z | z
    · exact c'.soff z
    · exact c.soff (z ▸ hm)
  · rw [List.length_set]
    have := kp.len
    rw [List.length_set] at this
    exact this
  · by_cases h : n = m
    · subst h
      rw [ha] at e
      cases e
      exact .inl (List.getElem?_set_self hnA')
    · rw [List.getElem?_set_ne h]
      exact kp.ix m x (by rw [List.getElem?_set_ne h]; exact e)
theorem walkD_lock {A : List (Option Addr)} {B : Addr → Prop} {H : Hp} {a : Addr} {ds : List D} {vs : List V} (h : H a = some (.lst vs)) (n : some a ∉ A) (r : RVs K H (av A B) ds vs) : WalkD K A B H (Itl K a) ds (fun H => SqL K H a vs) (YAt vs) := by
  refine ⟨by rw [← r.length]; exact walk_list, fun A' H' k => .inl (.inl (k.st a _ h n).1), fun i A' B' H' S' x H2 hi bb hb k c y => ?_⟩
  obtain ⟨rfl, e⟩ := y
  obtain ⟨d, e1, q⟩ := r.get' e
  refine ⟨d, e1, Keep.refl, c, RV.stay (fun b o e n => ?_) q⟩
  obtain ⟨z1, z2⟩ := k.st b o e fun z => n (.inr z)
  exact ⟨z1, fun z => z.elim (hb b o e n) z2⟩
/-- a comprehension over the cell of slot i -/
def nLCk (i : Nat) (g : MG) (c : MT) (e : ME) (vs : List Nat) : MN := fun ρ S k => match ρ[i]? with
  | some (some (.ref n)) => match S[n]? with
    | some (.lst ds) => lcItems g c e (wipeR ρ vs) (fun acc S' => k acc (S'.set n (.lst ds))) ds [] (S.set n .dead)
    | _ => False
  | _ => False
theorem pnm_lcK {X : Cx} {i : Nat} {x : Str} {ipos : Pos} {elt tg : Expr} {ifs : List Expr} {scope : Scope} {own : List (Str × Nat)} {pos : Pos} {g' : TG} {g : MG} {sl : List Nat} {c : MT} {e : ME} (hc : X.calm = true) (hN : X.N.Nodup) (hi : PE X (.Name x ipos) (tVar i)) (ok : BlkOk X.N X.env.scope scope own)
    (hg : ∀ (s : Shared) (H : Hp) (C : Addr) (cl : List (Str × Addr)) (fp : List Addr), PGm (X.blk s H scope (compEnvC scope cl C X.env) fp) tg g' g sl)
    (hsl : ∀ i ∈ sl, i ∈ own.map (·.2))
    (ht : ∀ (s : Shared) (H : Hp) (C : Addr) (cl : List (Str × Addr)) (fp : List Addr), PTsm (X.blk s H scope (compEnvC scope cl C X.env) fp) ifs c)
    (he : ∀ (s : Shared) (H : Hp) (C : Addr) (cl : List (Str × Addr)) (fp : List Addr), PEm (X.blk s H scope (compEnvC scope cl C X.env) fp) elt e) (hs : ∀ y, foldedSetIterable (.Name x ipos) X.env y = pure y := by intro _; rfl) :
    PNm X (.ListComp elt [⟨tg, .Name x ipos, ifs, 0⟩] scope pos) (nLCk i g c e (own.map (·.2))) := by
  have qg : ∀ A B H w v ρ S σ k Q, Rel X.kw H A B ρ S σ → RW X.kw H A B w v → g w ρ S k → AftG X.kw A B H σ sl k Q → g' v σ H Q := (hg X.s_0 (fun _ => none) 0 [] []).ok
  have mg : MonoG g := (hg X.s_0 (fun _ => none) 0 [] []).mono
  have mc : MonoT c := (ht X.s_0 (fun _ => none) 0 [] []).mono
  have me : MonoE e := (he X.s_0 (fun _ => none) 0 [] []).mono
  refine ⟨(pe_lc (te := up X.kw e) (tt := upT X.kw c) (g := g') hc hN (pi_any hi) ok (fun s H C cl fp => (hg s H C cl fp).pg) (fun s H C cl fp => (ht s H C cl fp).pts) (fun s H C cl fp => (he s H C cl fp).pe) hs).imp ?_, fun ρ S Q Q' h q => ?_⟩
  · rintro σ H Q ⟨A, B, ρ, S, k, r, h, af⟩
    unfold nLCk at h
    split at h
    · rename_i n en
      split at h
      · rename_i ds eS
        obtain ⟨v, e1, q⟩ := r.slot i _ en
        obtain ⟨ad, ha, vs, h1, h2⟩ := r.cells.look eS (by intro z; cases z)
        have ev : v = .ref ad := q.at_ ha
        subst ev
        obtain ⟨c2, k2, iff⟩ := r.cells.lockL ha
        have noA1 : some ad ∉ A.set n none := fun z => c2.off ad z (.inr rfl)
        have st : Stay H (av A B) H (av (A.set n none) fun b => B b ∨ b = ad) := fun x o e nn => ⟨e, fun z => nn ((iff x).mp z)⟩
        refine ⟨_, e1, .inl ⟨ad, vs, rfl, .inl (.inl h1), ?_⟩⟩
        have r2 : Rel X.kw H (A.set n none) (fun b => B b ∨ b = ad) ρ (S.set n .dead) σ := by
          refine ⟨c2, r.len, fun j w ej => ?_⟩
          obtain ⟨u, u1, u2⟩ := r.slot j w ej
          refine ⟨u, u1, ?_⟩
          exact RW.move k2.ix st u2
        refine lc_core2 qg hsl r2 h (walkD_lock h1 noA1 (RVs.stay st h2)) fun ds2 S' hk A' H' p vs2 kp c' rv hp => ?_
        obtain ⟨c3, k3, iff3⟩ := r.cells.unlockL ha h1 h2 kp c'
        exact af _ _ hk _ H' p vs2 k3 c3 (RVs.stay (fun x o e nn => ⟨e, fun z => nn ((iff3 x).mp z)⟩) rv) hp
      · exact h.elim
    · exact h.elim
  · unfold nLCk at q ⊢
    split at q
    · split at q
      · exact lcItems_mono mg mc me (fun _ _ => h _ _) _ _ _ q
      · exact q.elim
    · exact q.elim
theorem nLCk_i {i n : Nat} {g : MG} {c : MT} {e : ME} {vs : List Nat} {ρ : Rho} {S : Sto} {kn : List D → Sto → Prop} {ds : List D} (h : ρ[i]? = some (some (.ref n))) (h2 : S[n]? = some (.lst ds))
    (q : lcItems g c e (wipeR ρ vs) (fun acc S' => kn acc (S'.set n (.lst ds))) ds [] (S.set n .dead)) : nLCk i g c e vs ρ S kn := by
  unfold nLCk
  simp only [h, h2]
  exact q
end Fo
/-! Ms: the mirrors of the defs first met in this law. Printed by gen.py. -/
namespace Fo
open PySem PySem.Spec PyProof.Rows L2
def t__law_has_word : MF := mfun 5
    (sSeq (sSet 1 (mVal (nLst (aCons (mC (.int 0)) aNil))))
    (sSeq (sFor (iRange1 (aCons (mCallB lenC (aCons (mVar 0) aNil)) aNil)) (gVar 2) (sFor (iVal (mVal (nCallB listF (aCons (mVar 1) aNil)))) (gVar 3) (sSet 1 (mBin addD (mVar 1) (mVal (nLC (iVal (mBin ixD (mBin ixD (mVar 0) (mVar 3)) (mC (.int 0)))) (gVar 4) (cAnd (mCond (mBin (isD true) (mVar 4) (mC .non))) (mCond (mBin (inD true) (mVar 4) (mVar 1)))) (mVar 4) [4]))))))
    (sRet (mBin (inD false) (mC (.bl true)) (mVal (nLC (iVal (mVar 1)) (gVar 3) cYes (mBin ixD (mBin ixD (mVar 0) (mVar 3)) (mC (.int 1))) [3]))))))
theorem m__law_has_word : MonoF t__law_has_word := mfun_mono
def t__law_any_lot : MF := mfun 10
    (sSeq (sSet 3 (mOrT (mMethS joinF (mC (.str [])) (mVal (nLC (iVal (mVar 1)) (gVar 8) (mCond (mBin gtD (mCall t__law_take (aCons (mVar 0) (aCons (mC (.int 4)) aNil)) []) (mC (.int 0)))) (mVar 8) [8]))) (mSlice (mVar 1) oNo (oAt (mC (.int 1))))))
    (sSeq (sSet 4 (mBin addD (mC (.int 1)) (mCall t__law_take (aCons (mVar 0) (aCons (mVar 2) aNil)) [])))
    (sSeq (sSet 5 (mCell (nLst aNil)))
    (sSeq (sFor (iRange1 (aCons (mVar 4) aNil)) (gVar 6) (sSeq (sSet 7 (mVal (nLC (iVal (mVar 3)) (gVar 8) cYes (mBin ixD (mVal (nLst (aCons (mCall t__law_take (aCons (mVar 0) (aCons (mVar 4) aNil)) []) (aCons (mC .non) aNil)))) (mCallB int1C (aCons (mBin (eqD false) (mCall t__law_take (aCons (mVar 0) (aCons (mC (.int 4)) aNil)) []) (mC (.int 0))) aNil))) [8])))
    (sExpr (mMethC appendF (mVar 5) (aCons (mTup (aCons (mCallB tupleC (aCons (mVar 7) aNil)) (aCons (mBin (eqD false) (mCall t__law_take (aCons (mVar 0) (aCons (mC (.int 2)) aNil)) []) (mC (.int 0))) aNil))) aNil)))))
    (sSeq (sIf (cOr (mCond (mBin (inD true) (mC (.bl true)) (mVal (nLCk 5 (gTupM (gsCons (gVar 7) (gsCons (gVar 9) gsNil))) cYes (mVar 9) [7, 9])))) (cNot (mCond (mCall t__law_has_word (aCons (mVar 5) aNil) [])))) (sAsg (mTup (aCons (mBin ixD (mBin ixD (mVar 5) (mC (.int 0))) (mC (.int 0))) (aCons (mC (.bl true)) aNil))) (gIx (mVar 5) (mC (.int 0)))) sNext)
    (sRet (mTup (aCons (mVar 3) (aCons (mCallB tupleC (aCons (mVar 5) aNil)) aNil)))))))))
theorem m__law_any_lot : MonoF t__law_any_lot := mfun_mono
def t__law_any_frame : MF := mfun 18
    (sSeq (sPar 6 7 (aCons (mBin ixD (mBin ixD (mBin ixD (mVar 1) (mC (.int 0))) (mC (.int 0))) (mC (.int 0))) (aCons (mCall t__law_take (aCons (mVar 0) (aCons (mBin addD (mVar 2) (mC (.int 1))) aNil)) []) aNil)))
    (sSeq (sSet 3 (mCell (nLC (iVal (mVar 1)) (gVar 12) cYes (mBin mulS (mTup (aCons (mC (.int 0)) aNil)) (mCallB lenC (aCons (mVar 12) aNil))) [12])))
    (sSeq (sPar3 5 8 9 (aCons (mLws (iVal (mVar 1)) (gVar 12) cYes (mCell (nLst (aCons (mC (.str [])) aNil))) [12]) (aCons (mCell (nLst aNil)) (aCons (mCell (nLst aNil)) aNil))))
    (sSeq (sFor (iRange1 (aCons (mBin addD (mVar 7) (mC (.int 1))) aNil)) (gVar 4) (sSeq (sExpr (mMethC appendF (mVar 8) (aCons (mCall t__law_some_text (aCons (mVar 0) (aCons (mVar 6) (aCons (mC (.int 2)) aNil))) []) aNil)))
    (sSeq (sSet 10 (mCall t__law_take (aCons (mVar 0) (aCons (mCallB lenC (aCons (mVar 1) aNil)) aNil)) []))
    (sSeq (sFor (iEnum1 (aCons (mSlice (mVal (nLst (aCons (mBin ixD (mVar 8) (mVar 4)) (aCons (mCall t__law_some_text (aCons (mVar 0) (aCons (mVar 6) (aCons (mC (.int 2)) aNil))) []) aNil)))) oNo (oAt (mBin addD (mC (.int 1)) (mCallB int1C (aCons (mBin ltD (mVar 4) (mVar 7)) aNil))))) aNil)) (gTupM (gsCons (gVar 13) (gsCons (gVar 14) gsNil))) (sFor (iEnum1 (aCons (mVar 1) aNil)) (gTupM (gsCons (gVar 11) (gsCons (gVar 12) gsNil))) (sSeq (sAsg (mCall t__law_row_on (aCons (mVar 12) (aCons (mBin ixD (mVar 3) (mVar 11)) (aCons (mVar 14) aNil))) []) (gTupM (gsCons (gIx (mVar 3) (mVar 11)) (gsCons (gVar 16) gsNil))))
    (sAsg (mBin addD (mBin ixD (mIxW (mVar 5) (mVar 11)) (mNeg (mC (.int 1)))) (mBin mulS (mVar 16) (mCallB int1C (aCons (mOr (mBin (eqD true) (mVar 11) (mVar 10)) (mBin (eqD false) (mVar 13) (mC (.int 0)))) aNil)))) (gIx (mIxW (mVar 5) (mVar 11)) (mNeg (mC (.int 1))))))))
    (sIf (mCond (mBin ltD (mVar 4) (mVar 7))) (sSeq (sExpr (mMethC appendF (mVar 9) (aCons (mTup (aCons (mVar 10) (aCons (mCall t__law_any_lot (aCons (mVar 0) (aCons (mBin ixD (mBin ixD (mBin ixD (mVar 1) (mVar 10)) (mNeg (mC (.int 1)))) (mC (.int 1))) (aCons (mC (.int 3)) aNil))) []) aNil))) aNil)))
    (sExpr (mMethC appendF (mIxW (mVar 5) (mVar 10)) (aCons (mC (.str [])) aNil)))) sNext)))))
    (sSeq (sFor (iEnum1 (aCons (mVar 1) aNil)) (gTupM (gsCons (gVar 11) (gsCons (gVar 12) gsNil))) (sAsg (mBin addD (mBin ixD (mIxW (mVar 5) (mVar 11)) (mNeg (mC (.int 1)))) (mOrT (mCall t__law_row_end (aCons (mVar 12) (aCons (mBin ixD (mVar 3) (mVar 11)) aNil)) []) (mC (.str [])))) (gIx (mIxW (mVar 5) (mVar 11)) (mNeg (mC (.int 1))))))
    (sSeq (sIf (mCond (mBin (eqD false) (mCall t__law_take (aCons (mVar 0) (aCons (mC (.int 5)) aNil)) []) (mC (.int 0)))) (sSeq (sSet 11 (mCall t__law_take (aCons (mVar 0) (aCons (mCallB lenC (aCons (mVar 1) aNil)) aNil)) []))
    (sAsg (mCall t__law_some_text (aCons (mVar 0) (aCons (mBin ixD (mBin ixD (mBin ixD (mVar 1) (mVar 11)) (mNeg (mC (.int 1)))) (mC (.int 1))) (aCons (mC (.int 3)) aNil))) []) (gIx (mIxW (mVar 5) (mVar 11)) (mNeg (mC (.int 1)))))) sNext)
    (sSeq (sSet 5 (mCallB tupleC (aCons (mVal (nLC (iVal (mFrzL 5)) (gVar 15) cYes (mCallB tupleC (aCons (mVal (nLC (iVal (mVar 15)) (gVar 17) cYes (mSlice (mVar 17) oNo (oAt (mC (.int 20)))) [17])) aNil)) [15])) aNil)))
    (sRet (mTup (aCons (mCallB tupleC (aCons (mVar 8) aNil)) (aCons (mCallB tupleC (aCons (mVar 9) aNil)) (aCons (mVar 5) aNil))))))))))))
theorem m__law_any_frame : MonoF t__law_any_frame := mfun_mono
def t__law_any_maker : MF := mfun 9
    (sSeq (sSet 4 (mBin addD (mC (.int 1)) (mCall t__law_take (aCons (mVar 0) (aCons (mVar 3) aNil)) [])))
    (sSeq (sSet 5 (mCell (nLst aNil)))
    (sSeq (sFor (iRange1 (aCons (mVar 4) aNil)) (gVar 6) (sSeq (sSet 7 (mCell (nLst aNil)))
    (sSeq (sFor (iVal (mBin ixD (mVar 2) (mC (.int 0)))) (gVar 8) (sExpr (mMethC appendF (mVar 7) (aCons (mTup (aCons (mCall t__law_take (aCons (mVar 0) (aCons (mVar 4) aNil)) []) (aCons (mCall t__law_some_text (aCons (mVar 0) (aCons (mVar 1) (aCons (mBin ixD (mVal (nLst (aCons (mC (.int 1)) (aCons (mC (.int 1)) (aCons (mC (.int 2)) (aCons (mC (.int 4)) aNil)))))) (mCall t__law_take (aCons (mVar 0) (aCons (mC (.int 4)) aNil)) [])) aNil))) []) aNil))) aNil))))
    (sExpr (mMethC appendF (mVar 5) (aCons (mTup (aCons (mCallB tupleC (aCons (mVar 7) aNil)) (aCons (mCall t__law_some_text (aCons (mVar 0) (aCons (mVar 1) (aCons (mCall t__law_take (aCons (mVar 0) (aCons (mC (.int 3)) aNil)) []) aNil))) []) aNil))) aNil))))))
    (sRet (mTup (aCons (mCall t__law_some_text (aCons (mVar 0) (aCons (mVar 1) (aCons (mCall t__law_take (aCons (mVar 0) (aCons (mC (.int 3)) aNil)) []) aNil))) []) (aCons (mCallB tupleC (aCons (mVar 5) aNil)) aNil)))))))
theorem m__law_any_maker : MonoF t__law_any_maker := mfun_mono
def t__law_one_of : MF := mfun 2
    (sRet (mBin ixD (mVar 1) (mCall t__law_take (aCons (mVar 0) (aCons (mCallB lenC (aCons (mVar 1) aNil)) aNil)) [])))
theorem m__law_one_of : MonoF t__law_one_of := mfun_mono
def t__law_bent_v1 : Nat → MF
  | 0 => mNever
  | n + 1 => mfun 6
    (sSeq (sSet 3 (mVal (nLst (aCons (mC .non) (aCons (mC (.bl true)) (aCons (mC (.bl false)) (aCons (mC (.int 0)) (aCons (mC (.int 1)) (aCons (mC (.int 5)) (aCons (mC (.int 6)) (aCons (mNeg (mC (.int 1))) (aCons (mC (.str [])) (aCons (mBin mulD (mSlice (mVar 1) oNo (oAt (mC (.int 1)))) (mC (.int 4))) (aCons (mBin mulD (mSlice (mVar 1) oNo (oAt (mC (.int 1)))) (mC (.int 5))) (aCons (mC (.str [32])) (aCons (mC (.str [126, 126])) (aCons (mTup aNil) (aCons (mVal (nLst aNil)) (aCons mDct0 (aCons (mDct1 (mC (.str [97])) (mC (.int 1))) aNil))))))))))))))))))))
    (sSeq (sIf (cAnd (mCond (mIsi "str" (mVar 2))) (cAnd (mCond (mBin (eqD true) (mVar 2) (mC (.str [])))) (mCond (mBin (eqD false) (mCall t__law_take (aCons (mVar 0) (aCons (mC (.int 2)) aNil)) []) (mC (.int 0)))))) (sRet (mBin addD (mVar 2) (mCall t__law_one_of (aCons (mVar 0) (aCons (mVal (nLst (aCons (mSlice (mVar 2) oNo (oAt (mC (.int 1)))) (aCons (mC (.str [32])) (aCons (mC (.str [126])) (aCons (mSlice (mVar 1) (oAt (mNeg (mC (.int 1)))) oNo) aNil)))))) aNil)) []))) sNext)
    (sSeq (sIf (cOr (cNot (mCond (mIsi "tuple" (mVar 2)))) (cOr (mCond (mBin (emD false) (mVar 2) (mTup aNil))) (mCond (mBin (eqD false) (mCall t__law_take (aCons (mVar 0) (aCons (mC (.int 9)) aNil)) []) (mC (.int 0)))))) (sRet (mCall t__law_one_of (aCons (mVar 0) (aCons (mVar 3) aNil)) [])) sNext)
    (sSeq (sSet 4 (mCall t__law_take (aCons (mVar 0) (aCons (mCallB lenC (aCons (mVar 2) aNil)) aNil)) []))
    (sSeq (sSet 5 (mCall t__law_take (aCons (mVar 0) (aCons (mC (.int 12)) aNil)) []))
    (sSeq (sIf (mCond (mBin (eqD false) (mVar 5) (mC (.int 0)))) (sRet (mBin addD (mSlice (mVar 2) oNo (oAt (mVar 4))) (mSlice (mVar 2) (oAt (mBin addD (mVar 4) (mC (.int 1)))) oNo))) sNext)
    (sSeq (sIf (mCond (mBin (eqD false) (mVar 5) (mC (.int 1)))) (sRet (mBin addD (mSlice (mVar 2) oNo (oAt (mBin addD (mVar 4) (mC (.int 1))))) (mSlice (mVar 2) (oAt (mVar 4)) oNo))) sNext)
    (sSeq (sIf (mCond (mBin (eqD false) (mVar 5) (mC (.int 2)))) (sRet (mVal (nCallB listF (aCons (mVar 2) aNil)))) sNext)
    (sRet (mBin addD (mBin addD (mSlice (mVar 2) oNo (oAt (mVar 4))) (mTup (aCons (mCall (t__law_bent_v1 n) (aCons (mVar 0) (aCons (mVar 1) (aCons (mBin ixD (mVar 2) (mVar 4)) aNil))) []) aNil))) (mSlice (mVar 2) (oAt (mBin addD (mVar 4) (mC (.int 1)))) oNo)))))))))))
theorem m__law_bent_v1 (n : Nat) : MonoF (t__law_bent_v1 n) := by
  cases n with
  | zero => exact mNever_mono
  | succ n => exact mfun_mono
def t__law_due_v1 : MF := mfun 7
    (sSeq (sPar 4 5 (aCons (mBin ixD (mVar 0) (mC (.int 0))) (aCons (mC (.int 0)) aNil)))
    (sSeq (sFor (iVal (mVar 2)) (gVar 3) (sSeq (sAsg (mBin ixD (mBin ixD (mBin ixD (mBin ixD (mVar 0) (mC (.int 1))) (mVar 5)) (mC (.int 0))) (mMethS indexF (mBin ixD (mVar 1) (mC (.int 0))) (mVar 3))) (gTupM (gsCons (gVar 5) (gsCons (gVar 6) gsNil))))
    (sSet 4 (mBin addD (mVar 4) (mVar 6)))))
    (sRet (mBin addD (mVar 4) (mBin ixD (mBin ixD (mBin ixD (mVar 0) (mC (.int 1))) (mVar 5)) (mC (.int 1)))))))
theorem m__law_due_v1 : MonoF t__law_due_v1 := mfun_mono
def t__law_is_text_v1 : MF := mfun 3
    (sRet (mAnd (mIsi "str" (mVar 0)) (mAnd (mBin leD (mCallB lenC (aCons (mVar 0) aNil)) (mC (.int 4))) (mBin (emD false) (mVal (nLC (iVal (mVar 0)) (gVar 2) (mCond (mBin (inD true) (mVar 2) (mVar 1))) (mVar 2) [2])) (mVal (nLst aNil))))))
theorem m__law_is_text_v1 : MonoF t__law_is_text_v1 := mfun_mono
def t__law_is_state : MF := mfun 5
    (sSeq (sIf (cOr (cNot (mCond (mIsi "tuple" (mVar 0)))) (cOr (mCond (mBin (eqD true) (mCallB lenC (aCons (mVar 0) aNil)) (mC (.int 2)))) (cOr (cNot (mCond (mIsi "tuple" (mBin ixD (mVar 0) (mC (.int 0)))))) (mCond (mBin (eqD true) (mCallB lenC (aCons (mBin ixD (mVar 0) (mC (.int 0))) aNil)) (mVar 1)))))) (sRet (mC (.bl false))) sNext)
    (sSeq (sFor (iVal (mBin ixD (mVar 0) (mC (.int 0)))) (gVar 4) (sSeq (sIf (cOr (cNot (mCond (mIsi "tuple" (mVar 4)))) (cOr (mCond (mBin (eqD true) (mCallB lenC (aCons (mVar 4) aNil)) (mC (.int 2)))) (cOr (cNot (mCond (mIsi "int" (mBin ixD (mVar 4) (mC (.int 0)))))) (mCond (mIsi "bool" (mBin ixD (mVar 4) (mC (.int 0)))))))) (sRet (mC (.bl false))) sNext)
    (sIf (cOr (cNot (mCond (mChain leD ltD (mC (.int 0)) (mBin ixD (mVar 4) (mC (.int 0))) (mVar 2)))) (cNot (mCond (mCall t__law_is_text_v1 (aCons (mBin ixD (mVar 4) (mC (.int 1))) (aCons (mVar 3) aNil)) [])))) (sRet (mC (.bl false))) sNext)))
    (sRet (mCall t__law_is_text_v1 (aCons (mBin ixD (mVar 0) (mC (.int 1))) (aCons (mVar 3) aNil)) []))))
theorem m__law_is_state : MonoF t__law_is_state := mfun_mono
def t__law_is_maker : MF := mfun 4
    (sSeq (sIf (cOr (cNot (mCond (mIsi "tuple" (mVar 2)))) (cOr (mCond (mBin (eqD true) (mCallB lenC (aCons (mVar 2) aNil)) (mC (.int 2)))) (cNot (mCond (mCall t__law_is_text_v1 (aCons (mBin ixD (mVar 2) (mC (.int 0))) (aCons (mVar 0) aNil)) []))))) (sRet (mC (.bl false))) sNext)
    (sSeq (sIf (cOr (cNot (mCond (mIsi "tuple" (mBin ixD (mVar 2) (mC (.int 1)))))) (cNot (mCond (mChain leD leD (mC (.int 1)) (mCallB lenC (aCons (mBin ixD (mVar 2) (mC (.int 1))) aNil)) (mC (.int 6)))))) (sRet (mC (.bl false))) sNext)
    (sRet (mBin (inD true) (mC (.bl false)) (mVal (nLC (iVal (mBin ixD (mVar 2) (mC (.int 1)))) (gVar 3) cYes (mCall t__law_is_state (aCons (mVar 3) (aCons (mCallB lenC (aCons (mBin ixD (mVar 1) (mC (.int 0))) aNil)) (aCons (mCallB lenC (aCons (mBin ixD (mVar 2) (mC (.int 1))) aNil)) (aCons (mVar 0) aNil)))) []) [3]))))))
theorem m__law_is_maker : MonoF t__law_is_maker := mfun_mono
def t__law_wide_web : MF := mfun 7
    (sSeq (sSet 5 (mCall t__law_some_signs_v2 (aCons (mVar 0) (aCons (mBin addD (mC (.int 2)) (mCall t__law_take (aCons (mVar 0) (aCons (mC (.int 2)) aNil)) [])) aNil)) []))
    (sRet (mCallB tupleC (aCons (mVal (nLC (iRange1 (aCons (mBin addD (mC (.int 1)) (mCall t__law_take (aCons (mVar 0) (aCons (mVar 1) aNil)) [])) aNil)) (gVar 6) cYes (mCall t__law_any_row (aCons (mVar 0) (aCons (mVar 5) (aCons (mVar 2) (aCons (mVar 3) (aCons (mVar 4) aNil))))) []) [6])) aNil))))
theorem m__law_wide_web : MonoF t__law_wide_web := mfun_mono
def t_is_way_v1 : MF := mfun 3
    (sSeq (sIf (cOr (cNot (mCond (mIsi "tuple" (mVar 0)))) (mCond (mBin (eqD true) (mCallB lenC (aCons (mVar 0) aNil)) (mC (.int 2))))) (sRet (mC (.bl false))) sNext)
    (sRet (mAnd (mCall t_is_number (aCons (mBin ixD (mVar 0) (mC (.int 0))) (aCons (mVar 1) aNil)) []) (mCall t_is_text_of (aCons (mBin ixD (mVar 0) (mC (.int 1))) (aCons (mVar 2) (aCons (mC (.int 4)) aNil))) []))))
theorem m_is_way_v1 : MonoF t_is_way_v1 := mfun_mono
def t_is_state_v1 : MF := mfun 5
    (sSeq (sIf (cOr (cNot (mCond (mIsi "tuple" (mVar 0)))) (cOr (mCond (mBin (eqD true) (mCallB lenC (aCons (mVar 0) aNil)) (mC (.int 2)))) (cOr (cNot (mCond (mIsi "tuple" (mBin ixD (mVar 0) (mC (.int 0)))))) (mCond (mBin (eqD true) (mCallB lenC (aCons (mBin ixD (mVar 0) (mC (.int 0))) aNil)) (mVar 2)))))) (sRet (mC (.bl false))) sNext)
    (sRet (mAnd (mCallB allC (aCons (mVal (nLC (iVal (mBin ixD (mVar 0) (mC (.int 0)))) (gVar 4) cYes (mCall t_is_way_v1 (aCons (mVar 4) (aCons (mVar 1) (aCons (mVar 3) aNil))) []) [4])) aNil)) (mCall t_is_text_of (aCons (mBin ixD (mVar 0) (mC (.int 1))) (aCons (mVar 3) (aCons (mC (.int 4)) aNil))) []))))
theorem m_is_state_v1 : MonoF t_is_state_v1 := mfun_mono
def t_is_maker : MF := mfun 8
    (sSeq (sAsg (mTup (aCons (mBin ixD (mBin ixD (mBin ixD (mVar 0) (mC (.int 0))) (mC (.int 0))) (mC (.int 0))) (aCons (mCallB lenC (aCons (mBin ixD (mBin ixD (mBin ixD (mBin ixD (mVar 1) (mC (.int 1))) (mVar 2)) (mC (.int 1))) (mC (.int 0))) aNil)) aNil))) (gTupM (gsCons (gVar 5) (gsCons (gVar 6) gsNil))))
    (sSeq (sIf (cOr (cNot (mCond (mIsi "tuple" (mVar 3)))) (cOr (mCond (mBin (eqD true) (mCallB lenC (aCons (mVar 3) aNil)) (mC (.int 2)))) (cNot (mCond (mCall t_is_text_of (aCons (mBin ixD (mVar 3) (mC (.int 0))) (aCons (mVar 5) (aCons (mC (.int 4)) aNil))) []))))) (sRet (mC (.bl false))) sNext)
    (sSeq (sSet 4 (mBin ixD (mVar 3) (mC (.int 1))))
    (sSeq (sIf (cOr (cNot (mCond (mIsi "tuple" (mVar 4)))) (cNot (mCond (mChain leD leD (mC (.int 1)) (mCallB lenC (aCons (mVar 4) aNil)) (mC (.int 6)))))) (sRet (mC (.bl false))) sNext)
    (sRet (mCallB allC (aCons (mVal (nLC (iVal (mVar 4)) (gVar 7) cYes (mCall t_is_state_v1 (aCons (mVar 7) (aCons (mCallB lenC (aCons (mVar 4) aNil)) (aCons (mVar 6) (aCons (mVar 5) aNil)))) []) [7])) aNil)))))))
theorem m_is_maker : MonoF t_is_maker := mfun_mono
def t_written : MF := mfun 9
    (sSeq (sAsg (mVar 0) (gTupM (gsCons (gVar 4) (gsCons (gVar 5) gsNil))))
    (sSeq (sPar 6 7 (aCons (mVar 4) (aCons (mC (.int 0)) aNil)))
    (sSeq (sFor (iVal (mVar 2)) (gVar 3) (sSeq (sAsg (mBin ixD (mBin ixD (mBin ixD (mVar 5) (mVar 7)) (mC (.int 0))) (mMethS indexF (mBin ixD (mVar 1) (mC (.int 0))) (mVar 3))) (gTupM (gsCons (gVar 7) (gsCons (gVar 8) gsNil))))
    (sAug 6 iaddD (mVar 8))))
    (sRet (mBin addD (mVar 6) (mBin ixD (mBin ixD (mVar 5) (mVar 7)) (mC (.int 1))))))))
theorem m_written : MonoF t_written := mfun_mono
def t_law_v15 : MF := mfun 17
    (sSeq (sSet 1 (mCall t__law_open (aCons (mVar 0) aNil) []))
    (sSeq (sFor (iRange1 (aCons (mC (.int 3)) aNil)) (gVar 2) (sSeq (sSet 3 (mCall t__law_wide_web (aCons (mVar 1) (aCons (mC (.int 2)) (aCons (mC (.int 2)) (aCons (mC (.int 3)) (aCons (mC (.int 2)) aNil))))) []))
    (sSeq (sSet 4 (mCall t__law_any_frame (aCons (mVar 1) (aCons (mVar 3) (aCons (mC (.int 4)) aNil))) []))
    (sFor (iEnum1 (aCons (mBin ixD (mVar 4) (mC (.int 1))) aNil)) (gTupM (gsCons (gVar 5) (gsCons (gVar 6) gsNil))) (sSeq (sAsg (mTup (aCons (mBin ixD (mBin ixD (mBin ixD (mVar 3) (mC (.int 0))) (mC (.int 0))) (mC (.int 0))) (aCons (mBin ixD (mVar 6) (mC (.int 1))) aNil))) (gTupM (gsCons (gVar 11) (gsCons (gVar 12) gsNil))))
    (sSeq (sSet 7 (mCall t__law_any_maker (aCons (mVar 1) (aCons (mVar 11) (aCons (mVar 12) (aCons (mC (.int 6)) aNil)))) []))
    (sSeq (sSet 8 (mCell (nBin addN (mVal (nLst (aCons (mVar 7) aNil))) (mVal (nLC (iRange1 (aCons (mC (.int 5)) aNil)) (gVar 10) cYes (mCall (t__law_bent_v1 40) (aCons (mVar 1) (aCons (mVar 11) (aCons (mVar 7) aNil))) []) [10])))))
    (sSeq (sExpr (mMethC appendF (mVar 8) (aCons (mCall (t__law_bent_v1 40) (aCons (mVar 1) (aCons (mVar 11) (aCons (mBin ixD (mVar 8) (mNeg (mC (.int 1)))) aNil))) []) aNil)))
    (sSeq (sFor (iVal (mFrz 8)) (gVar 9) (sSeq (sSet 13 (mCallB reprX (aCons (mVal (nLst (aCons (mVar 3) (aCons (mVar 4) (aCons (mVar 9) aNil))))) aNil)))
    (sSeq (sPar 15 16 (aCons (mCall t_is_maker (aCons (mVar 3) (aCons (mVar 4) (aCons (mVar 5) (aCons (mVar 9) aNil)))) []) (aCons (mCall t__law_is_maker (aCons (mVar 11) (aCons (mVar 12) (aCons (mVar 9) aNil))) []) aNil)))
    (sIf (cOr (cNot (mCond (mCall (t__law_same 40) (aCons (mVar 15) (aCons (mVar 16) aNil)) []))) (mCond (mBin (eqD true) (mCallB reprX (aCons (mVal (nLst (aCons (mVar 3) (aCons (mVar 4) (aCons (mVar 9) aNil))))) aNil)) (mVar 13)))) (sRet (mC (.bl false))) sNext))))
    (sFor (iRange1 (aCons (mC (.int 3)) aNil)) (gVar 10) (sSeq (sSet 14 (mCall t__law_some_text (aCons (mVar 1) (aCons (mBin ixD (mVar 12) (mC (.int 0))) (aCons (mC (.int 6)) aNil))) []))
    (sIf (cNot (mCond (mCall (t__law_same 40) (aCons (mCall t_written (aCons (mVar 7) (aCons (mVar 12) (aCons (mVar 14) aNil))) []) (aCons (mCall t__law_due_v1 (aCons (mVar 7) (aCons (mVar 12) (aCons (mVar 14) aNil))) []) aNil)) []))) (sRet (mC (.bl false))) sNext))))))))))))
    (sRet (mC (.bl true)))))
end Fo
/-! HookS: what is told of the heap ahead of the law's call, with the modules' own dict. -/
namespace Fo
open PySem PySem.Spec PyProof.Rows L2
def seqB (o : Obj) : Bool := match o.data with
  | .seq _ _ => true
  | _ => false
def sysB (K : PySem.W.Frag) (g : Addr → Option Obj) : Bool := (K.lookup sysModules).isNone && match g sysModules with
  | some o => !seqB o
  | none => false
theorem sysB_ok {K : PySem.W.Frag} {h : Heap} (e : sysB K h.get? = true) : SysOk K h := by
  unfold sysB at e
  rw [Bool.and_eq_true] at e
  obtain ⟨e1, e2⟩ := e
  refine ⟨Option.isNone_iff_eq_none.mp e1, ?_⟩
  split at e2
  · rename_i o q
    refine ⟨o, q, fun z n y => ?_⟩
    unfold seqB at e2
    rw [y] at e2
    cases e2
  · cases e2
def obsSG (n : Nat) (fa : List He.Fa) (fn : List He.DefD) (g : Addr → Option Obj) : Bool × He.AlD := (sysB (He.frG g (He.asD g n)) g, He.obsDG n fa fn g)
def hookS (n : Nat) (fa : List He.Fa) (fn : List He.DefD) : PySem.W.Hook where
  α := Bool × He.AlD
  obs := fun s => obsSG n fa fn s.heap.get?
  val := fun _ => (true, He.valD fn)
  says := fun _ h => ∃ K : PySem.W.Frag, K.In h ∧ He.SaysD fa fn K ∧ SysOk K h
  of := fun _ s e => by
    injection e with e1 e2
    exact ⟨_, He.frG_in, e2, sysB_ok e1⟩
  keeps := fun _ _ _ ⟨K, hK, c, s⟩ k => ⟨K, PySem.W.Frag.In.keeps hK k, c, s.1, let ⟨o, e1, e2⟩ := s.2; ⟨o, k _ _ e1, e2⟩⟩
theorem obsSG_eq {n : Nat} {fa : List He.Fa} {fn : List He.DefD} {g : Addr → Option Obj} {s : Shared} (h : ∀ a, g a = s.heap.get? a) : obsSG n fa fn g = (hookS n fa fn).obs s := by
  have e : g = s.heap.get? := funext h
  rw [e] <;> rfl
end Fo
/-! Tie: the defs of this law keep their mirrors; the head. Printed by gen.py. -/
namespace Fo
open PySem PySem.Spec PyProof.Rows L2
def top (i : Nat) : Stmt := PySem.Challenge.pw_foeholes_k50_makers_known.main.body.getD i (.Pass ⟨0, 0, 0, 0⟩)
abbrev s__law_has_word : Stmt := top 21
theorem sc__law_has_word : FnScope ["states", "found", "turn", "there", "way"] ["states"] (defScope s__law_has_word) := ⟨rfl, rfl, rfl, by decide +kernel, rfl, by decide +kernel, by decide +kernel⟩
abbrev s__law_spread : Stmt := top 12
theorem sc__law_spread : FnScope ["cell", "at", "primes", "one", "two", "three"] ["cell", "at"] (defScope s__law_spread) := ⟨rfl, rfl, rfl, by decide +kernel, rfl, by decide +kernel, by decide +kernel⟩
abbrev s__law_take : Stmt := top 13
theorem sc__law_take : FnScope ["pen", "amount", "found", "at", "cell"] ["pen", "amount"] (defScope s__law_take) := ⟨rfl, rfl, rfl, by decide +kernel, rfl, by decide +kernel, by decide +kernel⟩
abbrev s__law_any_lot : Stmt := top 20
theorem sc__law_any_lot : FnScope ["pen", "signs", "size", "mine", "amount", "states", "k", "ways", "sign", "fit"] ["pen", "signs", "size"] (defScope s__law_any_lot) := ⟨rfl, rfl, rfl, by decide +kernel, rfl, by decide +kernel, by decide +kernel⟩
abbrev s__law_read_on : Stmt := top 22
theorem sc__law_read_on : FnScope ["reader", "state", "text", "told", "sign", "more"] ["reader", "state", "text"] (defScope s__law_read_on) := ⟨rfl, rfl, rfl, by decide +kernel, rfl, by decide +kernel, by decide +kernel⟩
abbrev s__law_row_end : Stmt := top 24
theorem sc__law_row_end : FnScope ["row", "states", "text", "reader", "state", "told"] ["row", "states"] (defScope s__law_row_end) := ⟨rfl, rfl, rfl, by decide +kernel, rfl, by decide +kernel, by decide +kernel⟩
abbrev s__law_row_on : Stmt := top 23
theorem sc__law_row_on : FnScope ["row", "states", "text", "found", "reader", "state"] ["row", "states", "text"] (defScope s__law_row_on) := ⟨rfl, rfl, rfl, by decide +kernel, rfl, by decide +kernel, by decide +kernel⟩
abbrev s__law_some_text : Stmt := top 16
theorem sc__law_some_text : FnScope ["pen", "signs", "most", "k"] ["pen", "signs", "most"] (defScope s__law_some_text) := ⟨rfl, rfl, rfl, by decide +kernel, rfl, by decide +kernel, by decide +kernel⟩
abbrev s__law_any_frame : Stmt := top 25
theorem sc__law_any_frame : FnScope ["pen", "web", "most", "states", "i", "dues", "signs", "often", "pieces", "holes", "mine", "k", "row", "side", "part", "due", "told", "text"] ["pen", "web", "most"] (defScope s__law_any_frame) := ⟨rfl, rfl, rfl, by decide +kernel, rfl, by decide +kernel, by decide +kernel⟩
abbrev s__law_any_maker : Stmt := top 28
theorem sc__law_any_maker : FnScope ["pen", "signs", "lot", "size", "amount", "states", "k", "ways", "sign"] ["pen", "signs", "lot", "size"] (defScope s__law_any_maker) := ⟨rfl, rfl, rfl, by decide +kernel, rfl, by decide +kernel, by decide +kernel⟩
abbrev s__law_one_of : Stmt := top 26
theorem sc__law_one_of : FnScope ["pen", "some"] ["pen", "some"] (defScope s__law_one_of) := ⟨rfl, rfl, rfl, by decide +kernel, rfl, by decide +kernel, by decide +kernel⟩
abbrev s__law_bent : Stmt := top 32
theorem sc__law_bent : FnScope ["pen", "signs", "thing", "odd", "spot", "way"] ["pen", "signs", "thing"] (defScope s__law_bent) := ⟨rfl, rfl, rfl, by decide +kernel, rfl, by decide +kernel, by decide +kernel⟩
abbrev s__law_due : Stmt := top 33
theorem sc__law_due : FnScope ["maker", "lot", "word", "sign", "text", "state", "more"] ["maker", "lot", "word"] (defScope s__law_due) := ⟨rfl, rfl, rfl, by decide +kernel, rfl, by decide +kernel, by decide +kernel⟩
abbrev s__law_is_text : Stmt := top 29
theorem sc__law_is_text : FnScope ["thing", "signs", "one"] ["thing", "signs"] (defScope s__law_is_text) := ⟨rfl, rfl, rfl, by decide +kernel, rfl, by decide +kernel, by decide +kernel⟩
abbrev s__law_is_state : Stmt := top 30
theorem sc__law_is_state : FnScope ["thing", "wide", "amount", "signs", "way"] ["thing", "wide", "amount", "signs"] (defScope s__law_is_state) := ⟨rfl, rfl, rfl, by decide +kernel, rfl, by decide +kernel, by decide +kernel⟩
abbrev s__law_is_maker : Stmt := top 31
theorem sc__law_is_maker : FnScope ["signs", "lot", "thing", "state"] ["signs", "lot", "thing"] (defScope s__law_is_maker) := ⟨rfl, rfl, rfl, by decide +kernel, rfl, by decide +kernel, by decide +kernel⟩
abbrev s__law_open : Stmt := top 11
theorem sc__law_open : FnScope ["script", "cells", "k", "cell"] ["script"] (defScope s__law_open) := ⟨rfl, rfl, rfl, by decide +kernel, rfl, by decide +kernel, by decide +kernel⟩
abbrev s__law_same : Stmt := top 14
theorem sc__law_same : FnScope ["found", "due", "one", "other"] ["found", "due"] (defScope s__law_same) := ⟨rfl, rfl, rfl, by decide +kernel, rfl, by decide +kernel, by decide +kernel⟩
abbrev s__law_any_reader : Stmt := top 17
theorem sc__law_any_reader : FnScope ["pen", "reads", "tells", "size", "most", "states", "k", "amount", "copies", "ways", "sign", "end", "told"] ["pen", "reads", "tells", "size", "most"] (defScope s__law_any_reader) := ⟨rfl, rfl, rfl, by decide +kernel, rfl, by decide +kernel, by decide +kernel⟩
abbrev s__law_some_signs : Stmt := top 15
theorem sc__law_some_signs : FnScope ["pen", "amount", "pool", "found", "first", "stride", "k"] ["pen", "amount"] (defScope s__law_some_signs) := ⟨rfl, rfl, rfl, by decide +kernel, rfl, by decide +kernel, by decide +kernel⟩
abbrev s__law_more_signs : Stmt := top 19
theorem sc__law_more_signs : FnScope ["pen", "reads"] ["pen", "reads"] (defScope s__law_more_signs) := ⟨rfl, rfl, rfl, by decide +kernel, rfl, by decide +kernel, by decide +kernel⟩
abbrev s__law_any_row : Stmt := top 18
theorem sc__law_any_row : FnScope ["pen", "reads", "often", "size", "most", "row", "k", "after"] ["pen", "reads", "often", "size", "most"] (defScope s__law_any_row) := ⟨rfl, rfl, rfl, by decide +kernel, rfl, by decide +kernel, by decide +kernel⟩
abbrev s__law_wide_web : Stmt := top 27
theorem sc__law_wide_web : FnScope ["pen", "rows", "often", "size", "most", "signs", "k"] ["pen", "rows", "often", "size", "most"] (defScope s__law_wide_web) := ⟨rfl, rfl, rfl, by decide +kernel, rfl, by decide +kernel, by decide +kernel⟩
abbrev s_is_text_of : Stmt := top 1
theorem sc_is_text_of : FnScope ["thing", "signs", "most", "one"] ["thing", "signs", "most"] (defScope s_is_text_of) := ⟨rfl, rfl, rfl, by decide +kernel, rfl, by decide +kernel, by decide +kernel⟩
abbrev s_is_number : Stmt := top 2
theorem sc_is_number : FnScope ["thing", "bound"] ["thing", "bound"] (defScope s_is_number) := ⟨rfl, rfl, rfl, by decide +kernel, rfl, by decide +kernel, by decide +kernel⟩
abbrev s_is_way : Stmt := top 6
theorem sc_is_way : FnScope ["thing", "many", "signs"] ["thing", "many", "signs"] (defScope s_is_way) := ⟨rfl, rfl, rfl, by decide +kernel, rfl, by decide +kernel, by decide +kernel⟩
abbrev s_is_state : Stmt := top 7
theorem sc_is_state : FnScope ["thing", "many", "wide", "signs", "way"] ["thing", "many", "wide", "signs"] (defScope s_is_state) := ⟨rfl, rfl, rfl, by decide +kernel, rfl, by decide +kernel, by decide +kernel⟩
abbrev s_is_maker : Stmt := top 8
theorem sc_is_maker : FnScope ["web", "frame", "i", "thing", "states", "signs", "wide", "state"] ["web", "frame", "i", "thing"] (defScope s_is_maker) := ⟨rfl, rfl, rfl, by decide +kernel, rfl, by decide +kernel, by decide +kernel⟩
abbrev s_written : Stmt := top 9
theorem sc_written : FnScope ["maker", "lot", "word", "sign", "begin", "states", "found", "state", "more"] ["maker", "lot", "word"] (defScope s_written) := ⟨rfl, rfl, rfl, by decide +kernel, rfl, by decide +kernel, by decide +kernel⟩
abbrev s_law : Stmt := top 34
theorem sc_law : FnScope ["script", "pen", "turn", "web", "frame", "i", "hole", "maker", "things", "thing", "again", "signs", "lot", "seen", "word", "found", "due"] ["script"] (defScope s_law) := ⟨rfl, rfl, rfl, by decide +kernel, rfl, by decide +kernel, by decide +kernel⟩
structure Txt (K : PySem.W.Frag) (mg : Str → Option Value) where
  a__law_has_word : Addr
  fd__law_has_word : FuncData
  D__law_has_word : FunD K "_law_has_word" "_law_has_word" (defArgs s__law_has_word) (defBody s__law_has_word) (defScope s__law_has_word) [] [] a__law_has_word fd__law_has_word
  g__law_has_word : mg "_law_has_word" = some (.ref a__law_has_word)
  a__law_spread : Addr
  fd__law_spread : FuncData
  D__law_spread : FunD K "_law_spread" "_law_spread" (defArgs s__law_spread) (defBody s__law_spread) (defScope s__law_spread) [] [] a__law_spread fd__law_spread
  g__law_spread : mg "_law_spread" = some (.ref a__law_spread)
  a__law_take : Addr
  fd__law_take : FuncData
  D__law_take : FunD K "_law_take" "_law_take" (defArgs s__law_take) (defBody s__law_take) (defScope s__law_take) [] [] a__law_take fd__law_take
  g__law_take : mg "_law_take" = some (.ref a__law_take)
  a__law_any_lot : Addr
  fd__law_any_lot : FuncData
  D__law_any_lot : FunD K "_law_any_lot" "_law_any_lot" (defArgs s__law_any_lot) (defBody s__law_any_lot) (defScope s__law_any_lot) [] [] a__law_any_lot fd__law_any_lot
  g__law_any_lot : mg "_law_any_lot" = some (.ref a__law_any_lot)
  a__law_read_on : Addr
  fd__law_read_on : FuncData
  D__law_read_on : FunD K "_law_read_on" "_law_read_on" (defArgs s__law_read_on) (defBody s__law_read_on) (defScope s__law_read_on) [] [] a__law_read_on fd__law_read_on
  g__law_read_on : mg "_law_read_on" = some (.ref a__law_read_on)
  a__law_row_end : Addr
  fd__law_row_end : FuncData
  D__law_row_end : FunD K "_law_row_end" "_law_row_end" (defArgs s__law_row_end) (defBody s__law_row_end) (defScope s__law_row_end) [] [] a__law_row_end fd__law_row_end
  g__law_row_end : mg "_law_row_end" = some (.ref a__law_row_end)
  a__law_row_on : Addr
  fd__law_row_on : FuncData
  D__law_row_on : FunD K "_law_row_on" "_law_row_on" (defArgs s__law_row_on) (defBody s__law_row_on) (defScope s__law_row_on) [] [] a__law_row_on fd__law_row_on
  g__law_row_on : mg "_law_row_on" = some (.ref a__law_row_on)
  a__law_some_text : Addr
  fd__law_some_text : FuncData
  D__law_some_text : FunD K "_law_some_text" "_law_some_text" (defArgs s__law_some_text) (defBody s__law_some_text) (defScope s__law_some_text) [] [] a__law_some_text fd__law_some_text
  g__law_some_text : mg "_law_some_text" = some (.ref a__law_some_text)
  a__law_any_frame : Addr
  fd__law_any_frame : FuncData
  D__law_any_frame : FunD K "_law_any_frame" "_law_any_frame" (defArgs s__law_any_frame) (defBody s__law_any_frame) (defScope s__law_any_frame) [] [] a__law_any_frame fd__law_any_frame
  g__law_any_frame : mg "_law_any_frame" = some (.ref a__law_any_frame)
  a__law_any_maker : Addr
  fd__law_any_maker : FuncData
  D__law_any_maker : FunD K "_law_any_maker" "_law_any_maker" (defArgs s__law_any_maker) (defBody s__law_any_maker) (defScope s__law_any_maker) [] [] a__law_any_maker fd__law_any_maker
  g__law_any_maker : mg "_law_any_maker" = some (.ref a__law_any_maker)
  a__law_one_of : Addr
  fd__law_one_of : FuncData
  D__law_one_of : FunD K "_law_one_of" "_law_one_of" (defArgs s__law_one_of) (defBody s__law_one_of) (defScope s__law_one_of) [] [] a__law_one_of fd__law_one_of
  g__law_one_of : mg "_law_one_of" = some (.ref a__law_one_of)
  a__law_bent : Addr
  fd__law_bent : FuncData
  D__law_bent : FunD K "_law_bent" "_law_bent" (defArgs s__law_bent) (defBody s__law_bent) (defScope s__law_bent) [] [] a__law_bent fd__law_bent
  g__law_bent : mg "_law_bent" = some (.ref a__law_bent)
  a__law_due : Addr
  fd__law_due : FuncData
  D__law_due : FunD K "_law_due" "_law_due" (defArgs s__law_due) (defBody s__law_due) (defScope s__law_due) [] [] a__law_due fd__law_due
  g__law_due : mg "_law_due" = some (.ref a__law_due)
  a__law_is_text : Addr
  fd__law_is_text : FuncData
  D__law_is_text : FunD K "_law_is_text" "_law_is_text" (defArgs s__law_is_text) (defBody s__law_is_text) (defScope s__law_is_text) [] [] a__law_is_text fd__law_is_text
  g__law_is_text : mg "_law_is_text" = some (.ref a__law_is_text)
  a__law_is_state : Addr
  fd__law_is_state : FuncData
  D__law_is_state : FunD K "_law_is_state" "_law_is_state" (defArgs s__law_is_state) (defBody s__law_is_state) (defScope s__law_is_state) [] [] a__law_is_state fd__law_is_state
  g__law_is_state : mg "_law_is_state" = some (.ref a__law_is_state)
  a__law_is_maker : Addr
  fd__law_is_maker : FuncData
  D__law_is_maker : FunD K "_law_is_maker" "_law_is_maker" (defArgs s__law_is_maker) (defBody s__law_is_maker) (defScope s__law_is_maker) [] [] a__law_is_maker fd__law_is_maker
  g__law_is_maker : mg "_law_is_maker" = some (.ref a__law_is_maker)
  a__law_open : Addr
  fd__law_open : FuncData
  D__law_open : FunD K "_law_open" "_law_open" (defArgs s__law_open) (defBody s__law_open) (defScope s__law_open) [] [] a__law_open fd__law_open
  g__law_open : mg "_law_open" = some (.ref a__law_open)
  a__law_same : Addr
  fd__law_same : FuncData
  D__law_same : FunD K "_law_same" "_law_same" (defArgs s__law_same) (defBody s__law_same) (defScope s__law_same) [] [] a__law_same fd__law_same
  g__law_same : mg "_law_same" = some (.ref a__law_same)
  a__law_any_reader : Addr
  fd__law_any_reader : FuncData
  D__law_any_reader : FunD K "_law_any_reader" "_law_any_reader" (defArgs s__law_any_reader) (defBody s__law_any_reader) (defScope s__law_any_reader) [] [] a__law_any_reader fd__law_any_reader
  g__law_any_reader : mg "_law_any_reader" = some (.ref a__law_any_reader)
  a__law_some_signs : Addr
  fd__law_some_signs : FuncData
  D__law_some_signs : FunD K "_law_some_signs" "_law_some_signs" (defArgs s__law_some_signs) (defBody s__law_some_signs) (defScope s__law_some_signs) [] [] a__law_some_signs fd__law_some_signs
  g__law_some_signs : mg "_law_some_signs" = some (.ref a__law_some_signs)
  a__law_more_signs : Addr
  fd__law_more_signs : FuncData
  D__law_more_signs : FunD K "_law_more_signs" "_law_more_signs" (defArgs s__law_more_signs) (defBody s__law_more_signs) (defScope s__law_more_signs) [] [] a__law_more_signs fd__law_more_signs
  g__law_more_signs : mg "_law_more_signs" = some (.ref a__law_more_signs)
  a__law_any_row : Addr
  fd__law_any_row : FuncData
  D__law_any_row : FunD K "_law_any_row" "_law_any_row" (defArgs s__law_any_row) (defBody s__law_any_row) (defScope s__law_any_row) [] [] a__law_any_row fd__law_any_row
  g__law_any_row : mg "_law_any_row" = some (.ref a__law_any_row)
  a__law_wide_web : Addr
  fd__law_wide_web : FuncData
  D__law_wide_web : FunD K "_law_wide_web" "_law_wide_web" (defArgs s__law_wide_web) (defBody s__law_wide_web) (defScope s__law_wide_web) [] [] a__law_wide_web fd__law_wide_web
  g__law_wide_web : mg "_law_wide_web" = some (.ref a__law_wide_web)
  a_is_text_of : Addr
  fd_is_text_of : FuncData
  D_is_text_of : FunD K "is_text_of" "is_text_of" (defArgs s_is_text_of) (defBody s_is_text_of) (defScope s_is_text_of) [] [] a_is_text_of fd_is_text_of
  g_is_text_of : mg "is_text_of" = some (.ref a_is_text_of)
  a_is_number : Addr
  fd_is_number : FuncData
  D_is_number : FunD K "is_number" "is_number" (defArgs s_is_number) (defBody s_is_number) (defScope s_is_number) [] [] a_is_number fd_is_number
  g_is_number : mg "is_number" = some (.ref a_is_number)
  a_is_way : Addr
  fd_is_way : FuncData
  D_is_way : FunD K "is_way" "is_way" (defArgs s_is_way) (defBody s_is_way) (defScope s_is_way) [] [] a_is_way fd_is_way
  g_is_way : mg "is_way" = some (.ref a_is_way)
  a_is_state : Addr
  fd_is_state : FuncData
  D_is_state : FunD K "is_state" "is_state" (defArgs s_is_state) (defBody s_is_state) (defScope s_is_state) [] [] a_is_state fd_is_state
  g_is_state : mg "is_state" = some (.ref a_is_state)
  a_is_maker : Addr
  fd_is_maker : FuncData
  D_is_maker : FunD K "is_maker" "is_maker" (defArgs s_is_maker) (defBody s_is_maker) (defScope s_is_maker) [] [] a_is_maker fd_is_maker
  g_is_maker : mg "is_maker" = some (.ref a_is_maker)
  a_written : Addr
  fd_written : FuncData
  D_written : FunD K "written" "written" (defArgs s_written) (defBody s_written) (defScope s_written) [] [] a_written fd_written
  g_written : mg "written" = some (.ref a_written)
  a_law : Addr
  fd_law : FuncData
  D_law : FunD K "law" "law" (defArgs s_law) (defBody s_law) (defScope s_law) [] [] a_law fd_law
  g_law : mg "law" = some (.ref a_law)
  f_all : mg "all" = none
  f_bool : mg "bool" = none
  f_enumerate : mg "enumerate" = none
  f_int : mg "int" = none
  f_isinstance : mg "isinstance" = none
  f_len : mg "len" = none
  f_list : mg "list" = none
  f_min : mg "min" = none
  f_range : mg "range" = none
  f_repr : mg "repr" = none
  f_set : mg "set" = none
  f_sorted : mg "sorted" = none
  f_str : mg "str" = none
  f_tuple : mg "tuple" = none
  f_zip : mg "zip" = none
  c_MOST_STATES : ∃ t, mg "MOST_STATES" = some (.int 6 t)
  c_MOST_WRITTEN : ∃ t, mg "MOST_WRITTEN" = some (.int 4 t)
section
variable {P : Program} {w : World} {K : PySem.W.Frag} {mg : Str → Option Value} {base : Heap}
theorem Txt.k__law_has_word (T : Txt K mg) : PySem.W.keepIn K (.ref T.a__law_has_word) = true := T.D__law_has_word.kp
theorem Txt.b__law_has_word (T : Txt K mg) : Binds K T.fd__law_has_word ["states"] [] := T.D__law_has_word.bindsN fun _ _ _ _ _ _ us hl => match us, hl with | [_], _ => rfl
theorem ok__law_has_word (T : Txt K mg) : FnG P w K mg base CX0 1 T.a__law_has_word T.fd__law_has_word ["states"] (spF ⟨K, w, mg⟩ 1 t__law_has_word) := by
  refine fun_ok T.D__law_has_word sc__law_has_word fun cdv A outer s H E hr hgd => ?_
  exact (pssm_cons (psm_set (i := 1) (PNm.val (pnm_lst (pam_cons pem_int pam_nil))) (fun _ hh => ps_set (i := 1) sc__law_has_word.nd rfl (by first | exact Or.inl rfl | exact Or.inr rfl) hh))
    (pssm_cons (psm_for PassesOwn.never rfl (pim_range1 (pam_cons (pem_callB lenM lenC_mono (pam_cons (pem_var (pv 0)) pam_nil) fun _ h => pe_callB call_len (by rfl) T.f_len (by decide +kernel) h) pam_nil) fun _ h => pi_range1 (by rfl) T.f_range h) (pgm_name (i := 2) (pg_name (i := 2) sc__law_has_word.nd rfl (by first | exact Or.inl rfl | exact Or.inr rfl))) (pssm_one (psm_for PassesOwn.never rfl (pim_val (PNm.val (pnm_list (pam_cons (pem_var (pv 1)) pam_nil) fun _ h => pe_callTy (call_listM rfl) (by rfl) T.f_list (by decide +kernel) h))) (pgm_name (i := 3) (pg_name (i := 3) sc__law_has_word.nd rfl (by first | exact Or.inl rfl | exact Or.inr rfl))) (pssm_one (psm_set (i := 1) (pem_op op_addM addM addD_mono (pem_var (pv 1)) (PNm.val (pnm_lc (own := [("way", 4)]) (sl := [4]) (g' := gName 4) rfl sc__law_has_word.nd (pim_val (pem_ix (pem_ix (pem_var (pv 0)) (pem_var (pv 3))) pem_int)) (blkOk_by (by kernel_rfl)) (fun _ _ _ _ _ => (pgm_name (i := 4) (pg_name (i := 4) sc__law_has_word.nd rfl (by first | exact Or.inl rfl | exact Or.inr rfl)))) (by decide) (fun _ _ _ _ _ => (ptsm_one (PWm.ptm (pwm_and (ptm_cmp op_notM isM isD_mono (pem_var (pv 4)) pem_non (nomark _)) (pwm_and1 (ptm_cmp (op_notInM (room65 hr)) inM inD_mono (pem_var (pv 4)) (pem_var (pv 1)) (by rfl))))))) (fun _ _ _ _ _ => (pem_var (pv 4)))))) (fun _ hh => ps_set (i := 1) sc__law_has_word.nd rfl (by first | exact Or.inl rfl | exact Or.inr rfl) hh))))))
    (pssm_one (psm_ret (pem_cmp (op_inM (room65 hr)) inM inD_mono pem_bl (PNm.val (pnm_lc (own := [("there", 3)]) (sl := [3]) (g' := gName 3) rfl sc__law_has_word.nd (pim_val (pem_var (pv 1))) (blkOk_by (by kernel_rfl)) (fun _ _ _ _ _ => (pgm_name (i := 3) (pg_name (i := 3) sc__law_has_word.nd rfl (by first | exact Or.inl rfl | exact Or.inr rfl)))) (by decide) (fun _ _ _ _ _ => ptsm_nil) (fun _ _ _ _ _ => (pem_ix (pem_ix (pem_var (pv 0)) (pem_var (pv 3))) pem_int)))) (by rfl))))))
theorem Txt.k__law_spread (T : Txt K mg) : PySem.W.keepIn K (.ref T.a__law_spread) = true := T.D__law_spread.kp
theorem Txt.b__law_spread (T : Txt K mg) : Binds K T.fd__law_spread ["cell", "at"] [] := T.D__law_spread.bindsN fun _ _ _ _ _ _ us hl => match us, hl with | [_, _], _ => rfl
theorem ok__law_spread (T : Txt K mg) : FnG P w K mg base CX0 1 T.a__law_spread T.fd__law_spread ["cell", "at"] (spF ⟨K, w, mg⟩ 2 t__law_spread) := by
  refine fun_ok T.D__law_spread sc__law_spread fun cdv A outer s H E hr hgd => ?_
  exact (pssm_cons (psm_if (ptm_cmp op_geM ordM ordD_mono (pem_var (pv 0)) (pem_op op_pow intM intD_mono pem_int pem_int) (nomark _)) (pssm_one (psm_ret (pem_var (pv 0)))) pssm_nil)
    (pssm_cons (psm_set (i := 2) (PNm.val (pnm_lst (pam_cons pem_int (pam_cons pem_int (pam_cons pem_int (pam_cons pem_int (pam_cons pem_int (pam_cons pem_int (pam_cons pem_int (pam_cons pem_int pam_nil)))))))))) (fun _ hh => ps_set (i := 2) sc__law_spread.nd rfl (by first | exact Or.inl rfl | exact Or.inr rfl) hh))
    (pssm_cons (psm_set (i := 2) (pem_op op_addM addM addD_mono (pem_var (pv 2)) (PNm.val (pnm_lst (pam_cons pem_int (pam_cons pem_int (pam_cons pem_int (pam_cons pem_int (pam_cons pem_int pam_nil)))))))) (fun _ hh => ps_set (i := 2) sc__law_spread.nd rfl (by first | exact Or.inl rfl | exact Or.inr rfl) hh))
    (pssm_cons (psm_set (i := 3) (pem_op op_mod intM intD_mono (pem_op op_pow intM intD_mono (pem_op op_addM addM addD_mono (pem_op op_addM addM addD_mono (pem_op op_mulM mulM mulD_mono (pem_op op_mod intM intD_mono (pem_var (pv 0)) pem_int) (pem_op op_addM addM addD_mono (pem_op op_mulM mulM mulD_mono pem_int (pem_var (pv 1))) pem_int)) (pem_op op_mulM mulM mulD_mono (pem_var (pv 1)) pem_int)) pem_int) pem_int) (pem_ix (pem_var (pv 2)) (pem_op op_mod intM intD_mono (pem_var (pv 1)) pem_int))) (fun _ hh => ps_set (i := 3) sc__law_spread.nd rfl (by first | exact Or.inl rfl | exact Or.inr rfl) hh))
    (pssm_cons (psm_set (i := 4) (pem_op op_mod intM intD_mono (pem_op op_pow intM intD_mono (pem_op op_addM addM addD_mono (pem_op op_addM addM addD_mono (pem_op op_mulM mulM mulD_mono (pem_var (pv 3)) (pem_op op_addM addM addD_mono (pem_var (pv 1)) pem_int)) (pem_op op_mod intM intD_mono (pem_var (pv 0)) pem_int)) pem_int) pem_int) (pem_ix (pem_var (pv 2)) (pem_op op_mod intM intD_mono (pem_op op_addM addM addD_mono (pem_var (pv 1)) pem_int) pem_int))) (fun _ hh => ps_set (i := 4) sc__law_spread.nd rfl (by first | exact Or.inl rfl | exact Or.inr rfl) hh))
    (pssm_cons (psm_set (i := 5) (pem_op op_mod intM intD_mono (pem_op op_pow intM intD_mono (pem_op op_addM addM addD_mono (pem_op op_addM addM addD_mono (pem_var (pv 4)) (pem_op op_mod intM intD_mono (pem_var (pv 3)) pem_int)) (pem_var (pv 1))) pem_int) (pem_ix (pem_var (pv 2)) (pem_op op_mod intM intD_mono (pem_op op_addM addM addD_mono (pem_var (pv 1)) pem_int) pem_int))) (fun _ hh => ps_set (i := 5) sc__law_spread.nd rfl (by first | exact Or.inl rfl | exact Or.inr rfl) hh))
    (pssm_one (psm_ret (pem_op op_addM addM addD_mono (pem_op op_mulM mulM mulD_mono (pem_op op_addM addM addD_mono (pem_op op_mulM mulM mulD_mono (pem_var (pv 3)) pem_int) (pem_var (pv 4))) pem_int) (pem_var (pv 5)))))))))))
theorem Txt.k__law_take (T : Txt K mg) : PySem.W.keepIn K (.ref T.a__law_take) = true := T.D__law_take.kp
theorem Txt.b__law_take (T : Txt K mg) : Binds K T.fd__law_take ["pen", "amount"] [] := T.D__law_take.bindsN fun _ _ _ _ _ _ us hl => match us, hl with | [_, _], _ => rfl
theorem ok__law_take (T : Txt K mg) : FnG P w K mg base CX0 2 T.a__law_take T.fd__law_take ["pen", "amount"] (spF ⟨K, w, mg⟩ 2 t__law_take) := by
  refine fun_ok T.D__law_take sc__law_take fun cdv A outer s H E hr hgd => ?_
  exact (pssm_cons (psm_if (ptm_cmp op_ltM ordM ordD_mono (pem_ix (pem_var (pv 0)) pem_int) (pem_var (pv 1)) (nomark _)) (pssm_cons (psm_set (i := 3) (pem_ix (pem_var (pv 0)) pem_int) (fun _ hh => ps_set (i := 3) sc__law_take.nd rfl (by first | exact Or.inl rfl | exact Or.inr rfl) hh))
    (pssm_cons (psm_set (i := 4) pem_int (fun _ hh => ps_set (i := 4) sc__law_take.nd rfl (by first | exact Or.inl rfl | exact Or.inr rfl) hh))
    (pssm_cons (psm_if (ptm_cmp op_ltM ordM ordD_mono (pem_var (pv 3)) (pem_callB lenM lenC_mono (pam_cons (pem_ix (pem_var (pv 0)) pem_int) pam_nil) fun _ h => pe_callB call_len (by rfl) T.f_len (by decide +kernel) h) (nomark _)) (pssm_one (psm_set (i := 4) (pem_ix (pem_ix (pem_var (pv 0)) pem_int) (pem_var (pv 3))) (fun _ hh => ps_set (i := 4) sc__law_take.nd rfl (by first | exact Or.inl rfl | exact Or.inr rfl) hh))) (pssm_one (psm_if (ptm_cmp op_gtM ordM ordD_mono (pem_callB lenM lenC_mono (pam_cons (pem_ix (pem_var (pv 0)) pem_int) pam_nil) fun _ h => pe_callB call_len (by rfl) T.f_len (by decide +kernel) h) pem_int (nomark _)) (pssm_one (psm_set (i := 4) (pem_op op_mod intM intD_mono (pem_ix (pem_ix (pem_var (pv 0)) pem_int) (pem_op op_mod intM intD_mono (pem_op op_addM addM addD_mono (pem_op op_mulM mulM mulD_mono (pem_var (pv 3)) pem_int) pem_int) (pem_callB lenM lenC_mono (pam_cons (pem_ix (pem_var (pv 0)) pem_int) pam_nil) fun _ h => pe_callB call_len (by rfl) T.f_len (by decide +kernel) h))) (pem_op op_addM addM addD_mono (pem_op op_pow intM intD_mono pem_int pem_int) (pem_var (pv 3)))) (fun _ hh => ps_set (i := 4) sc__law_take.nd rfl (by first | exact Or.inl rfl | exact Or.inr rfl) hh))) pssm_nil)))
    (pssm_cons (psm_asg (pem_op op_addM addM addD_mono (pem_var (pv 3)) pem_int) (pgm_ix (pem_var (pv 0)) pem_int (fun _ _ ho hi => pg_sub ho hi set_list)))
    (pssm_one (psm_asg (pem_call (ok__law_spread T) m__law_spread (hr.mono (by decide)) hgd (by rfl) T.g__law_spread T.k__law_spread T.b__law_spread .nil Dfl.nil pass0 (pam_cons (pem_var (pv 4)) (pam_cons (pem_var (pv 3)) pam_nil)) rfl) (pgm_ix (pem_var (pv 0)) pem_int (fun _ _ ho hi => pg_sub ho hi set_list)))))))) pssm_nil)
    (pssm_cons (psm_set (i := 2) (pem_op op_mod intM intD_mono (pem_ix (pem_var (pv 0)) pem_int) (pem_var (pv 1))) (fun _ hh => ps_set (i := 2) sc__law_take.nd rfl (by first | exact Or.inl rfl | exact Or.inr rfl) hh))
    (pssm_cons (psm_asg (pem_op op_fdiv intM intD_mono (pem_ix (pem_var (pv 0)) pem_int) (pem_var (pv 1))) (pgm_ix (pem_var (pv 0)) pem_int (fun _ _ ho hi => pg_sub ho hi set_list)))
    (pssm_one (psm_ret (pem_var (pv 2)))))))
theorem Txt.k__law_any_lot (T : Txt K mg) : PySem.W.keepIn K (.ref T.a__law_any_lot) = true := T.D__law_any_lot.kp
theorem Txt.b__law_any_lot (T : Txt K mg) : Binds K T.fd__law_any_lot ["pen", "signs", "size"] [] := T.D__law_any_lot.bindsN fun _ _ _ _ _ _ us hl => match us, hl with | [_, _, _], _ => rfl
theorem ok__law_any_lot (T : Txt K mg) : FnG P w K mg base CX0 3 T.a__law_any_lot T.fd__law_any_lot ["pen", "signs", "size"] (spF ⟨K, w, mg⟩ 3 t__law_any_lot) := by
  refine fun_ok T.D__law_any_lot sc__law_any_lot fun cdv A outer s H E hr hgd => ?_
  exact (pssm_cons (psm_set (i := 3) (pem_orT (pem_join (pem_str (l := [])) (PNm.val (pnm_lc (own := [("sign", 8)]) (sl := [8]) (g' := gName 8) rfl sc__law_any_lot.nd (pim_val (pem_var (pv 1))) (blkOk_by (by kernel_rfl)) (fun _ _ _ _ _ => (pgm_name (i := 8) (pg_name (i := 8) sc__law_any_lot.nd rfl (by first | exact Or.inl rfl | exact Or.inr rfl)))) (by decide) (fun _ _ _ _ _ => (ptsm_one (ptm_cmp op_gtM ordM ordD_mono (pem_call (ok__law_take T) m__law_take (hr.mono (by decide)) hgd (by rfl) T.g__law_take T.k__law_take T.b__law_take .nil Dfl.nil pass0 (pam_cons (pem_var (pv 0)) (pam_cons pem_int pam_nil)) rfl) pem_int (nomark _)))) (fun _ _ _ _ _ => (pem_var (pv 8))))) fun _ _ h h2 => pe_join h h2) (pem_one (pem_slice (pem_var (pv 1)) pom_none (pom_some pem_int)))) (fun _ hh => ps_set (i := 3) sc__law_any_lot.nd rfl (by first | exact Or.inl rfl | exact Or.inr rfl) hh))
    (pssm_cons (psm_set (i := 4) (pem_op op_addM addM addD_mono pem_int (pem_call (ok__law_take T) m__law_take (hr.mono (by decide)) hgd (by rfl) T.g__law_take T.k__law_take T.b__law_take .nil Dfl.nil pass0 (pam_cons (pem_var (pv 0)) (pam_cons (pem_var (pv 2)) pam_nil)) rfl)) (fun _ hh => ps_set (i := 4) sc__law_any_lot.nd rfl (by first | exact Or.inl rfl | exact Or.inr rfl) hh))
    (pssm_cons (psm_set (i := 5) (PNm.cell (pnm_lst pam_nil)) (fun _ hh => ps_set (i := 5) sc__law_any_lot.nd rfl (by first | exact Or.inl rfl | exact Or.inr rfl) hh))
    (pssm_cons (psm_for PassesOwn.never rfl (pim_range1 (pam_cons (pem_var (pv 4)) pam_nil) fun _ h => pi_range1 (by rfl) T.f_range h) (pgm_name (i := 6) (pg_name (i := 6) sc__law_any_lot.nd rfl (by first | exact Or.inl rfl | exact Or.inr rfl))) (pssm_cons (psm_lc_val (i := 7) (own := [("sign", 8)]) (sl := [8]) (g' := gName 8) rfl sc__law_any_lot.nd rfl rfl (sw_true rfl rfl rfl (by decide +kernel)) (pim_val (pem_var (pv 3))) (blkOk_by (by kernel_rfl)) (fun _ _ _ _ _ => (pgm_name (i := 8) (pg_name (i := 8) sc__law_any_lot.nd rfl (by first | exact Or.inl rfl | exact Or.inr rfl)))) (by decide) (fun _ _ _ _ _ => ptsm_nil) (fun _ _ _ _ _ => (pem_ix (PNm.val (pnm_lst (pam_cons (pem_call (ok__law_take T) m__law_take (hr.mono (by decide)) hgd (by rfl) T.g__law_take T.k__law_take T.b__law_take .nil Dfl.nil pass0 (pam_cons (pem_var (pv 0)) (pam_cons (pem_var (pv 4)) pam_nil)) rfl) (pam_cons pem_non pam_nil)))) (pem_callB int1M int1C_mono (pam_cons (pem_cmp (op_eqM hr.units) eqM eqD_mono (pem_call (ok__law_take T) m__law_take (hr.mono (by decide)) hgd (by rfl) T.g__law_take T.k__law_take T.b__law_take .nil Dfl.nil pass0 (pam_cons (pem_var (pv 0)) (pam_cons pem_int pam_nil)) rfl) pem_int (nomark _)) pam_nil) fun _ h => pe_callTy call_int1 (by rfl) T.f_int (by decide +kernel) h))))
    (pssm_one (psm_expr (pem_append (pem_var (pv 5)) (pam_cons (pem_tup (pam_cons (pem_callB tupleM tupleC_mono (pam_cons (pem_var (pv 7)) pam_nil) fun _ h => pe_callTy call_tuple_of (by rfl) T.f_tuple (by decide +kernel) h) (pam_cons (pem_cmp (op_eqM hr.units) eqM eqD_mono (pem_call (ok__law_take T) m__law_take (hr.mono (by decide)) hgd (by rfl) T.g__law_take T.k__law_take T.b__law_take .nil Dfl.nil pass0 (pam_cons (pem_var (pv 0)) (pam_cons pem_int pam_nil)) rfl) pem_int (nomark _)) pam_nil))) pam_nil) fun _ _ h h2 => pe_bm PySem.F.plainAttrs_list PySem.F.slot_list_append PySem.F.type_list_append mt_append h h2)))))
    (pssm_cons (psm_if (PWm.ptm (pwm_or (ptm_cmp (op_notInM (room65 hr)) inM inD_mono pem_bl (PNm.val (pnm_lcK (own := [("ways", 7), ("fit", 9)]) (sl := ([7] ++ ([9] ++ []))) (g' := gTup K 2 (gCons (gName 7) (gCons (gName 9) gNil))) rfl sc__law_any_lot.nd (pv 5) (blkOk_by (by kernel_rfl)) (fun _ _ _ _ _ => (pgm_tup rfl (pgsm_cons (pgm_name (i := 7) (pg_name (i := 7) sc__law_any_lot.nd rfl (by first | exact Or.inl rfl | exact Or.inr rfl))) (pgsm_cons (pgm_name (i := 9) (pg_name (i := 9) sc__law_any_lot.nd rfl (by first | exact Or.inl rfl | exact Or.inr rfl))) pgsm_nil)) (gsCons_lenS strict_var (gsCons_lenS strict_var gsNil_len)))) (by decide) (fun _ _ _ _ _ => ptsm_nil) (fun _ _ _ _ _ => (pem_var (pv 9))))) (by rfl)) (pwm_or1 (ptm_not (ptm_val (pem_call (ok__law_has_word T) m__law_has_word (hr.mono (by decide)) hgd (by rfl) T.g__law_has_word T.k__law_has_word T.b__law_has_word .nil Dfl.nil pass0 (pam_cons (pem_var (pv 5)) pam_nil) rfl)))))) (pssm_one (psm_asg (pem_tup (pam_cons (pem_ix (pem_ix (pem_var (pv 5)) pem_int) pem_int) (pam_cons pem_bl pam_nil))) (pgm_ix (pem_var (pv 5)) pem_int (fun _ _ ho hi => pg_sub ho hi set_list)))) pssm_nil)
    (pssm_one (psm_ret (pem_tup (pam_cons (pem_var (pv 3)) (pam_cons (pem_callB tupleM tupleC_mono (pam_cons (pem_var (pv 5)) pam_nil) fun _ h => pe_callTy call_tuple_of (by rfl) T.f_tuple (by decide +kernel) h) pam_nil))))))))))
theorem Txt.k__law_read_on (T : Txt K mg) : PySem.W.keepIn K (.ref T.a__law_read_on) = true := T.D__law_read_on.kp
theorem Txt.b__law_read_on (T : Txt K mg) : Binds K T.fd__law_read_on ["reader", "state", "text"] [] := T.D__law_read_on.bindsN fun _ _ _ _ _ _ us hl => match us, hl with | [_, _, _], _ => rfl
theorem ok__law_read_on (T : Txt K mg) : FnG P w K mg base CX0 1 T.a__law_read_on T.fd__law_read_on ["reader", "state", "text"] (spF ⟨K, w, mg⟩ 3 t__law_read_on) := by
  refine fun_ok T.D__law_read_on sc__law_read_on fun cdv A outer s H E hr hgd => ?_
  exact (pssm_cons (psm_set (i := 3) (pem_str (l := [])) (fun _ hh => ps_set (i := 3) sc__law_read_on.nd rfl (by first | exact Or.inl rfl | exact Or.inr rfl) hh))
    (pssm_cons (psm_for PassesOwn.never rfl (pim_val (pem_var (pv 2))) (pgm_name (i := 4) (pg_name (i := 4) sc__law_read_on.nd rfl (by first | exact Or.inl rfl | exact Or.inr rfl))) (pssm_cons (psm_asg (pem_ix (pem_ix (pem_ix (pem_ix (pem_var (pv 0)) pem_int) (pem_var (pv 1))) pem_int) (pem_sindex (pem_ix (pem_var (pv 0)) pem_int) (pem_var (pv 4)) fun _ _ h h2 => pe_m1 PySem.F.slot_str_index PySem.F.type_str_index mt_sindex h h2)) (pgm_tup rfl (pgsm_cons (pgm_name (i := 1) (pg_name (i := 1) sc__law_read_on.nd rfl (by first | exact Or.inl rfl | exact Or.inr rfl))) (pgsm_cons (pgm_name (i := 5) (pg_name (i := 5) sc__law_read_on.nd rfl (by first | exact Or.inl rfl | exact Or.inr rfl))) pgsm_nil)) (gsCons_lenS strict_var (gsCons_lenS strict_var gsNil_len))))
    (pssm_one (psm_set (i := 3) (pem_op op_addM addM addD_mono (pem_var (pv 3)) (pem_var (pv 5))) (fun _ hh => ps_set (i := 3) sc__law_read_on.nd rfl (by first | exact Or.inl rfl | exact Or.inr rfl) hh)))))
    (pssm_one (psm_ret (pem_tup (pam_cons (pem_var (pv 1)) (pam_cons (pem_var (pv 3)) pam_nil)))))))
theorem Txt.k__law_row_end (T : Txt K mg) : PySem.W.keepIn K (.ref T.a__law_row_end) = true := T.D__law_row_end.kp
theorem Txt.b__law_row_end (T : Txt K mg) : Binds K T.fd__law_row_end ["row", "states"] [] := T.D__law_row_end.bindsN fun _ _ _ _ _ _ us hl => match us, hl with | [_, _], _ => rfl
theorem ok__law_row_end (T : Txt K mg) : FnG P w K mg base CX0 2 T.a__law_row_end T.fd__law_row_end ["row", "states"] (spF ⟨K, w, mg⟩ 2 t__law_row_end) := by
  refine fun_ok T.D__law_row_end sc__law_row_end fun cdv A outer s H E hr hgd => ?_
  exact (pssm_cons (psm_set (i := 2) (pem_str (l := [])) (fun _ hh => ps_set (i := 2) sc__law_row_end.nd rfl (by first | exact Or.inl rfl | exact Or.inr rfl) hh))
    (pssm_cons (psm_for PassesOwn.never rfl (pim_zz2 (pam_cons (pem_var (pv 0)) (pam_cons (pem_var (pv 1)) pam_nil)) fun _ h => pi_zz2 (by rfl) T.f_zip h) (pgm_tup rfl (pgsm_cons (pgm_name (i := 3) (pg_name (i := 3) sc__law_row_end.nd rfl (by first | exact Or.inl rfl | exact Or.inr rfl))) (pgsm_cons (pgm_name (i := 4) (pg_name (i := 4) sc__law_row_end.nd rfl (by first | exact Or.inl rfl | exact Or.inr rfl))) pgsm_nil)) (gsCons_lenS strict_var (gsCons_lenS strict_var gsNil_len))) (pssm_cons (psm_asg (pem_call (ok__law_read_on T) m__law_read_on (hr.mono (by decide)) hgd (by rfl) T.g__law_read_on T.k__law_read_on T.b__law_read_on .nil Dfl.nil pass0 (pam_cons (pem_var (pv 3)) (pam_cons (pem_var (pv 4)) (pam_cons (pem_var (pv 2)) pam_nil))) rfl) (pgm_tup rfl (pgsm_cons (pgm_name (i := 4) (pg_name (i := 4) sc__law_row_end.nd rfl (by first | exact Or.inl rfl | exact Or.inr rfl))) (pgsm_cons (pgm_name (i := 5) (pg_name (i := 5) sc__law_row_end.nd rfl (by first | exact Or.inl rfl | exact Or.inr rfl))) pgsm_nil)) (gsCons_lenS strict_var (gsCons_lenS strict_var gsNil_len))))
    (pssm_cons (psm_if (ptm_cmp op_isM isM isD_mono (pem_ix (pem_ix (pem_ix (pem_var (pv 3)) pem_int) (pem_var (pv 4))) pem_int) pem_non (nomark _)) (pssm_one (psm_ret pem_non)) pssm_nil)
    (pssm_one (psm_set (i := 2) (pem_op op_addM addM addD_mono (pem_var (pv 5)) (pem_ix (pem_ix (pem_ix (pem_var (pv 3)) pem_int) (pem_var (pv 4))) pem_int)) (fun _ hh => ps_set (i := 2) sc__law_row_end.nd rfl (by first | exact Or.inl rfl | exact Or.inr rfl) hh))))))
    (pssm_one (psm_ret (pem_var (pv 2))))))
theorem Txt.k__law_row_on (T : Txt K mg) : PySem.W.keepIn K (.ref T.a__law_row_on) = true := T.D__law_row_on.kp
theorem Txt.b__law_row_on (T : Txt K mg) : Binds K T.fd__law_row_on ["row", "states", "text"] [] := T.D__law_row_on.bindsN fun _ _ _ _ _ _ us hl => match us, hl with | [_, _, _], _ => rfl
theorem ok__law_row_on (T : Txt K mg) : FnG P w K mg base CX0 2 T.a__law_row_on T.fd__law_row_on ["row", "states", "text"] (spF ⟨K, w, mg⟩ 3 t__law_row_on) := by
  refine fun_ok T.D__law_row_on sc__law_row_on fun cdv A outer s H E hr hgd => ?_
  exact (pssm_cons (psm_set (i := 3) (PNm.cell (pnm_lst pam_nil)) (fun _ hh => ps_set (i := 3) sc__law_row_on.nd rfl (by first | exact Or.inl rfl | exact Or.inr rfl) hh))
    (pssm_cons (psm_for PassesOwn.never rfl (pim_zz2 (pam_cons (pem_var (pv 0)) (pam_cons (pem_var (pv 1)) pam_nil)) fun _ h => pi_zz2 (by rfl) T.f_zip h) (pgm_tup rfl (pgsm_cons (pgm_name (i := 4) (pg_name (i := 4) sc__law_row_on.nd rfl (by first | exact Or.inl rfl | exact Or.inr rfl))) (pgsm_cons (pgm_name (i := 5) (pg_name (i := 5) sc__law_row_on.nd rfl (by first | exact Or.inl rfl | exact Or.inr rfl))) pgsm_nil)) (gsCons_lenS strict_var (gsCons_lenS strict_var gsNil_len))) (pssm_cons (psm_asg (pem_call (ok__law_read_on T) m__law_read_on (hr.mono (by decide)) hgd (by rfl) T.g__law_read_on T.k__law_read_on T.b__law_read_on .nil Dfl.nil pass0 (pam_cons (pem_var (pv 4)) (pam_cons (pem_var (pv 5)) (pam_cons (pem_var (pv 2)) pam_nil))) rfl) (pgm_tup rfl (pgsm_cons (pgm_name (i := 5) (pg_name (i := 5) sc__law_row_on.nd rfl (by first | exact Or.inl rfl | exact Or.inr rfl))) (pgsm_cons (pgm_name (i := 2) (pg_name (i := 2) sc__law_row_on.nd rfl (by first | exact Or.inl rfl | exact Or.inr rfl))) pgsm_nil)) (gsCons_lenS strict_var (gsCons_lenS strict_var gsNil_len))))
    (pssm_one (psm_expr (pem_append (pem_var (pv 3)) (pam_cons (pem_var (pv 5)) pam_nil) fun _ _ h h2 => pe_bm PySem.F.plainAttrs_list PySem.F.slot_list_append PySem.F.type_list_append mt_append h h2)))))
    (pssm_one (psm_ret (pem_tup (pam_cons (pem_callB tupleM tupleC_mono (pam_cons (pem_var (pv 3)) pam_nil) fun _ h => pe_callTy call_tuple_of (by rfl) T.f_tuple (by decide +kernel) h) (pam_cons (pem_var (pv 2)) pam_nil)))))))
theorem Txt.k__law_some_text (T : Txt K mg) : PySem.W.keepIn K (.ref T.a__law_some_text) = true := T.D__law_some_text.kp
theorem Txt.b__law_some_text (T : Txt K mg) : Binds K T.fd__law_some_text ["pen", "signs", "most"] [] := T.D__law_some_text.bindsN fun _ _ _ _ _ _ us hl => match us, hl with | [_, _, _], _ => rfl
theorem ok__law_some_text (T : Txt K mg) : FnG P w K mg base CX0 3 T.a__law_some_text T.fd__law_some_text ["pen", "signs", "most"] (spF ⟨K, w, mg⟩ 3 t__law_some_text) := by
  refine fun_ok T.D__law_some_text sc__law_some_text fun cdv A outer s H E hr hgd => ?_
  exact (pssm_one (psm_ret (pem_join (pem_str (l := [])) (PNm.val (pnm_lc (own := [("k", 3)]) (sl := [3]) (g' := gName 3) rfl sc__law_some_text.nd (pim_range1 (pam_cons (pem_call (ok__law_take T) m__law_take (hr.mono (by decide)) hgd (by rfl) T.g__law_take T.k__law_take T.b__law_take .nil Dfl.nil pass0 (pam_cons (pem_var (pv 0)) (pam_cons (pem_op op_addM addM addD_mono (pem_var (pv 2)) pem_int) pam_nil)) rfl) pam_nil) fun _ h => pi_range1 (by rfl) T.f_range h) (blkOk_by (by kernel_rfl)) (fun _ _ _ _ _ => (pgm_name (i := 3) (pg_name (i := 3) sc__law_some_text.nd rfl (by first | exact Or.inl rfl | exact Or.inr rfl)))) (by decide) (fun _ _ _ _ _ => ptsm_nil) (fun _ _ _ _ _ => (pem_ix (pem_var (pv 1)) (pem_call (ok__law_take T) m__law_take (hr.mono (by decide)) hgd (by rfl) T.g__law_take T.k__law_take T.b__law_take .nil Dfl.nil pass0 (pam_cons (pem_var (pv 0)) (pam_cons (pem_callB lenM lenC_mono (pam_cons (pem_var (pv 1)) pam_nil) fun _ h => pe_callB call_len (by rfl) T.f_len (by decide +kernel) h) pam_nil)) rfl))))) fun _ _ h h2 => pe_join h h2)))
theorem Txt.k__law_any_frame (T : Txt K mg) : PySem.W.keepIn K (.ref T.a__law_any_frame) = true := T.D__law_any_frame.kp
theorem Txt.b__law_any_frame (T : Txt K mg) : Binds K T.fd__law_any_frame ["pen", "web", "most"] [] := T.D__law_any_frame.bindsN fun _ _ _ _ _ _ us hl => match us, hl with | [_, _, _], _ => rfl
theorem ok__law_any_frame (T : Txt K mg) : FnG P w K mg base CX0 4 T.a__law_any_frame T.fd__law_any_frame ["pen", "web", "most"] (spF ⟨K, w, mg⟩ 3 t__law_any_frame) := by
  refine fun_ok T.D__law_any_frame sc__law_any_frame fun cdv A outer s H E hr hgd => ?_
  exact (pssm_cons (psm_par (i := 6) (j := 7) (pam_cons (pem_ix (pem_ix (pem_ix (pem_var (pv 1)) pem_int) pem_int) pem_int) (pam_cons (pem_call (ok__law_take T) m__law_take (hr.mono (by decide)) hgd (by rfl) T.g__law_take T.k__law_take T.b__law_take .nil Dfl.nil pass0 (pam_cons (pem_var (pv 0)) (pam_cons (pem_op op_addM addM addD_mono (pem_var (pv 2)) pem_int) pam_nil)) rfl) pam_nil)) (fun _ hh => ps_par (i := 6) (j := 7) rfl sc__law_any_frame.nd rfl rfl (by decide) rfl rfl hh (by rfl)))
    (pssm_cons (psm_lc_cell (i := 3) (own := [("row", 12)]) (sl := [12]) (g' := gName 12) rfl sc__law_any_frame.nd rfl rfl (sw_true rfl rfl rfl (by decide +kernel)) (pim_val (pem_var (pv 1))) (blkOk_by (by kernel_rfl)) (fun _ _ _ _ _ => (pgm_name (i := 12) (pg_name (i := 12) sc__law_any_frame.nd rfl (by first | exact Or.inl rfl | exact Or.inr rfl)))) (by decide) (fun _ _ _ _ _ => ptsm_nil) (fun _ _ _ _ _ => (pem_op op_mulSM mulSM mulS_mono (pem_tup (pam_cons pem_int pam_nil)) (pem_callB lenM lenC_mono (pam_cons (pem_var (pv 12)) pam_nil) fun _ h => pe_callB call_len (by rfl) T.f_len (by decide +kernel) h))))
    (pssm_cons (psm_par3 (i := 5) (j := 8) (l := 9) (pam_cons (pem_lws (own := [("row", 12)]) (sl := [12]) (g' := gName 12) rfl sc__law_any_frame.nd (pim_val (pem_var (pv 1))) (blkOk_by (by kernel_rfl)) (fun _ _ _ _ _ => (pgm_name (i := 12) (pg_name (i := 12) sc__law_any_frame.nd rfl (by first | exact Or.inl rfl | exact Or.inr rfl)))) (by decide) (fun _ _ _ _ _ => ptsm_nil) (fun _ _ _ _ _ => (PNm.cell (pnm_lst (pam_cons (pem_str (l := [])) pam_nil))))) (pam_cons (PNm.cell (pnm_lst pam_nil)) (pam_cons (PNm.cell (pnm_lst pam_nil)) pam_nil))) (fun _ hh => ps_par3 (i := 5) (j := 8) (l := 9) rfl sc__law_any_frame.nd rfl rfl rfl (by decide) (by decide) (by decide) rfl rfl rfl hh (by rfl)))
    (pssm_cons (psm_for PassesOwn.never rfl (pim_range1 (pam_cons (pem_op op_addM addM addD_mono (pem_var (pv 7)) pem_int) pam_nil) fun _ h => pi_range1 (by rfl) T.f_range h) (pgm_name (i := 4) (pg_name (i := 4) sc__law_any_frame.nd rfl (by first | exact Or.inl rfl | exact Or.inr rfl))) (pssm_cons (psm_expr (pem_append (pem_var (pv 8)) (pam_cons (pem_call (ok__law_some_text T) m__law_some_text (hr.mono (by decide)) hgd (by rfl) T.g__law_some_text T.k__law_some_text T.b__law_some_text .nil Dfl.nil pass0 (pam_cons (pem_var (pv 0)) (pam_cons (pem_var (pv 6)) (pam_cons pem_int pam_nil))) rfl) pam_nil) fun _ _ h h2 => pe_bm PySem.F.plainAttrs_list PySem.F.slot_list_append PySem.F.type_list_append mt_append h h2))
    (pssm_cons (psm_set (i := 10) (pem_call (ok__law_take T) m__law_take (hr.mono (by decide)) hgd (by rfl) T.g__law_take T.k__law_take T.b__law_take .nil Dfl.nil pass0 (pam_cons (pem_var (pv 0)) (pam_cons (pem_callB lenM lenC_mono (pam_cons (pem_var (pv 1)) pam_nil) fun _ h => pe_callB call_len (by rfl) T.f_len (by decide +kernel) h) pam_nil)) rfl) (fun _ hh => ps_set (i := 10) sc__law_any_frame.nd rfl (by first | exact Or.inl rfl | exact Or.inr rfl) hh))
    (pssm_cons (psm_for PassesOwn.never rfl (pim_en (pam_cons (pem_slice (PNm.val (pnm_lst (pam_cons (pem_ix (pem_var (pv 8)) (pem_var (pv 4))) (pam_cons (pem_call (ok__law_some_text T) m__law_some_text (hr.mono (by decide)) hgd (by rfl) T.g__law_some_text T.k__law_some_text T.b__law_some_text .nil Dfl.nil pass0 (pam_cons (pem_var (pv 0)) (pam_cons (pem_var (pv 6)) (pam_cons pem_int pam_nil))) rfl) pam_nil)))) pom_none (pom_some (pem_op op_addM addM addD_mono pem_int (pem_callB int1M int1C_mono (pam_cons (pem_cmp op_ltM ordM ordD_mono (pem_var (pv 4)) (pem_var (pv 7)) (nomark _)) pam_nil) fun _ h => pe_callTy call_int1 (by rfl) T.f_int (by decide +kernel) h)))) pam_nil) fun _ h => pi_en (by rfl) T.f_enumerate h) (pgm_tup rfl (pgsm_cons (pgm_name (i := 13) (pg_name (i := 13) sc__law_any_frame.nd rfl (by first | exact Or.inl rfl | exact Or.inr rfl))) (pgsm_cons (pgm_name (i := 14) (pg_name (i := 14) sc__law_any_frame.nd rfl (by first | exact Or.inl rfl | exact Or.inr rfl))) pgsm_nil)) (gsCons_lenS strict_var (gsCons_lenS strict_var gsNil_len))) (pssm_one (psm_for PassesOwn.never rfl (pim_en (pam_cons (pem_var (pv 1)) pam_nil) fun _ h => pi_en (by rfl) T.f_enumerate h) (pgm_tup rfl (pgsm_cons (pgm_name (i := 11) (pg_name (i := 11) sc__law_any_frame.nd rfl (by first | exact Or.inl rfl | exact Or.inr rfl))) (pgsm_cons (pgm_name (i := 12) (pg_name (i := 12) sc__law_any_frame.nd rfl (by first | exact Or.inl rfl | exact Or.inr rfl))) pgsm_nil)) (gsCons_lenS strict_var (gsCons_lenS strict_var gsNil_len))) (pssm_cons (psm_asg (pem_call (ok__law_row_on T) m__law_row_on (hr.mono (by decide)) hgd (by rfl) T.g__law_row_on T.k__law_row_on T.b__law_row_on .nil Dfl.nil pass0 (pam_cons (pem_var (pv 12)) (pam_cons (pem_ix (pem_var (pv 3)) (pem_var (pv 11))) (pam_cons (pem_var (pv 14)) pam_nil))) rfl) (pgm_tup rfl (pgsm_cons (pgm_ix (pem_var (pv 3)) (pem_var (pv 11)) (fun _ _ ho hi => pg_sub ho hi set_list)) (pgsm_cons (pgm_name (i := 16) (pg_name (i := 16) sc__law_any_frame.nd rfl (by first | exact Or.inl rfl | exact Or.inr rfl))) pgsm_nil)) (gsCons_lenS (strict_ix sv_var sv_var) (gsCons_lenS strict_var gsNil_len))))
    (pssm_one (psm_asg (pem_op op_addM addM addD_mono (pem_ix (pem_ixW (pem_var (pv 5)) (pem_var (pv 11))) (pem_neg pem_int)) (pem_op op_mulSM mulSM mulS_mono (pem_var (pv 16)) (pem_callB int1M int1C_mono (pam_cons (pem_or (pem_cmp (op_neM hr.units) eqM eqD_mono (pem_var (pv 11)) (pem_var (pv 10)) (nomark _)) (pem_one (pem_cmp (op_eqM hr.units) eqM eqD_mono (pem_var (pv 13)) pem_int (nomark _)))) pam_nil) fun _ h => pe_callTy call_int1 (by rfl) T.f_int (by decide +kernel) h))) (pgm_ix (pem_ixW (pem_var (pv 5)) (pem_var (pv 11))) (pem_neg pem_int) (fun _ _ ho hi => pg_sub ho hi set_list))))))))
    (pssm_one (psm_if (ptm_cmp op_ltM ordM ordD_mono (pem_var (pv 4)) (pem_var (pv 7)) (nomark _)) (pssm_cons (psm_expr (pem_append (pem_var (pv 9)) (pam_cons (pem_tup (pam_cons (pem_var (pv 10)) (pam_cons (pem_call (ok__law_any_lot T) m__law_any_lot (hr.mono (by decide)) hgd (by rfl) T.g__law_any_lot T.k__law_any_lot T.b__law_any_lot .nil Dfl.nil pass0 (pam_cons (pem_var (pv 0)) (pam_cons (pem_ix (pem_ix (pem_ix (pem_var (pv 1)) (pem_var (pv 10))) (pem_neg pem_int)) pem_int) (pam_cons pem_int pam_nil))) rfl) pam_nil))) pam_nil) fun _ _ h h2 => pe_bm PySem.F.plainAttrs_list PySem.F.slot_list_append PySem.F.type_list_append mt_append h h2))
    (pssm_one (psm_expr (pem_append (pem_ixW (pem_var (pv 5)) (pem_var (pv 10))) (pam_cons (pem_str (l := [])) pam_nil) fun _ _ h h2 => pe_bm PySem.F.plainAttrs_list PySem.F.slot_list_append PySem.F.type_list_append mt_append h h2)))) pssm_nil))))))
    (pssm_cons (psm_for PassesOwn.never rfl (pim_en (pam_cons (pem_var (pv 1)) pam_nil) fun _ h => pi_en (by rfl) T.f_enumerate h) (pgm_tup rfl (pgsm_cons (pgm_name (i := 11) (pg_name (i := 11) sc__law_any_frame.nd rfl (by first | exact Or.inl rfl | exact Or.inr rfl))) (pgsm_cons (pgm_name (i := 12) (pg_name (i := 12) sc__law_any_frame.nd rfl (by first | exact Or.inl rfl | exact Or.inr rfl))) pgsm_nil)) (gsCons_lenS strict_var (gsCons_lenS strict_var gsNil_len))) (pssm_one (psm_asg (pem_op op_addM addM addD_mono (pem_ix (pem_ixW (pem_var (pv 5)) (pem_var (pv 11))) (pem_neg pem_int)) (pem_orT (pem_call (ok__law_row_end T) m__law_row_end (hr.mono (by decide)) hgd (by rfl) T.g__law_row_end T.k__law_row_end T.b__law_row_end .nil Dfl.nil pass0 (pam_cons (pem_var (pv 12)) (pam_cons (pem_ix (pem_var (pv 3)) (pem_var (pv 11))) pam_nil)) rfl) (pem_one (pem_str (l := []))))) (pgm_ix (pem_ixW (pem_var (pv 5)) (pem_var (pv 11))) (pem_neg pem_int) (fun _ _ ho hi => pg_sub ho hi set_list)))))
    (pssm_cons (psm_if (ptm_cmp (op_eqM hr.units) eqM eqD_mono (pem_call (ok__law_take T) m__law_take (hr.mono (by decide)) hgd (by rfl) T.g__law_take T.k__law_take T.b__law_take .nil Dfl.nil pass0 (pam_cons (pem_var (pv 0)) (pam_cons pem_int pam_nil)) rfl) pem_int (nomark _)) (pssm_cons (psm_set (i := 11) (pem_call (ok__law_take T) m__law_take (hr.mono (by decide)) hgd (by rfl) T.g__law_take T.k__law_take T.b__law_take .nil Dfl.nil pass0 (pam_cons (pem_var (pv 0)) (pam_cons (pem_callB lenM lenC_mono (pam_cons (pem_var (pv 1)) pam_nil) fun _ h => pe_callB call_len (by rfl) T.f_len (by decide +kernel) h) pam_nil)) rfl) (fun _ hh => ps_set (i := 11) sc__law_any_frame.nd rfl (by first | exact Or.inl rfl | exact Or.inr rfl) hh))
    (pssm_one (psm_asg (pem_call (ok__law_some_text T) m__law_some_text (hr.mono (by decide)) hgd (by rfl) T.g__law_some_text T.k__law_some_text T.b__law_some_text .nil Dfl.nil pass0 (pam_cons (pem_var (pv 0)) (pam_cons (pem_ix (pem_ix (pem_ix (pem_var (pv 1)) (pem_var (pv 11))) (pem_neg pem_int)) pem_int) (pam_cons pem_int pam_nil))) rfl) (pgm_ix (pem_ixW (pem_var (pv 5)) (pem_var (pv 11))) (pem_neg pem_int) (fun _ _ ho hi => pg_sub ho hi set_list))))) pssm_nil)
    (pssm_cons (psm_set (i := 5) (pem_callB tupleM tupleC_mono (pam_cons (PNm.val (pnm_lc (own := [("due", 15)]) (sl := [15]) (g' := gName 15) rfl sc__law_any_frame.nd (pim_val (pem_frzL (pv 5))) (blkOk_by (by kernel_rfl)) (fun _ _ _ _ _ => (pgm_name (i := 15) (pg_name (i := 15) sc__law_any_frame.nd rfl (by first | exact Or.inl rfl | exact Or.inr rfl)))) (by decide) (fun _ _ _ _ _ => ptsm_nil) (fun _ _ _ _ _ => (pem_callB tupleM tupleC_mono (pam_cons (PNm.val (pnm_lc (own := [("text", 17)]) (sl := [17]) (g' := gName 17) rfl sc__law_any_frame.nd (pim_val (pem_var (pv 15))) (blkOk_by (by kernel_rfl)) (fun _ _ _ _ _ => (pgm_name (i := 17) (pg_name (i := 17) sc__law_any_frame.nd rfl (by first | exact Or.inl rfl | exact Or.inr rfl)))) (by decide) (fun _ _ _ _ _ => ptsm_nil) (fun _ _ _ _ _ => (pem_slice (pem_var (pv 17)) pom_none (pom_some pem_int))))) pam_nil) fun _ h => pe_callTy call_tuple_of (by rfl) T.f_tuple (by decide +kernel) h)))) pam_nil) fun _ h => pe_callTy call_tuple_of (by rfl) T.f_tuple (by decide +kernel) h) (fun _ hh => ps_set (i := 5) sc__law_any_frame.nd rfl (by first | exact Or.inl rfl | exact Or.inr rfl) hh))
    (pssm_one (psm_ret (pem_tup (pam_cons (pem_callB tupleM tupleC_mono (pam_cons (pem_var (pv 8)) pam_nil) fun _ h => pe_callTy call_tuple_of (by rfl) T.f_tuple (by decide +kernel) h) (pam_cons (pem_callB tupleM tupleC_mono (pam_cons (pem_var (pv 9)) pam_nil) fun _ h => pe_callTy call_tuple_of (by rfl) T.f_tuple (by decide +kernel) h) (pam_cons (pem_var (pv 5)) pam_nil)))))))))))))
theorem Txt.k__law_any_maker (T : Txt K mg) : PySem.W.keepIn K (.ref T.a__law_any_maker) = true := T.D__law_any_maker.kp
theorem Txt.b__law_any_maker (T : Txt K mg) : Binds K T.fd__law_any_maker ["pen", "signs", "lot", "size"] [] := T.D__law_any_maker.bindsN fun _ _ _ _ _ _ us hl => match us, hl with | [_, _, _, _], _ => rfl
theorem ok__law_any_maker (T : Txt K mg) : FnG P w K mg base CX0 4 T.a__law_any_maker T.fd__law_any_maker ["pen", "signs", "lot", "size"] (spF ⟨K, w, mg⟩ 4 t__law_any_maker) := by
  refine fun_ok T.D__law_any_maker sc__law_any_maker fun cdv A outer s H E hr hgd => ?_
  exact (pssm_cons (psm_set (i := 4) (pem_op op_addM addM addD_mono pem_int (pem_call (ok__law_take T) m__law_take (hr.mono (by decide)) hgd (by rfl) T.g__law_take T.k__law_take T.b__law_take .nil Dfl.nil pass0 (pam_cons (pem_var (pv 0)) (pam_cons (pem_var (pv 3)) pam_nil)) rfl)) (fun _ hh => ps_set (i := 4) sc__law_any_maker.nd rfl (by first | exact Or.inl rfl | exact Or.inr rfl) hh))
    (pssm_cons (psm_set (i := 5) (PNm.cell (pnm_lst pam_nil)) (fun _ hh => ps_set (i := 5) sc__law_any_maker.nd rfl (by first | exact Or.inl rfl | exact Or.inr rfl) hh))
    (pssm_cons (psm_for PassesOwn.never rfl (pim_range1 (pam_cons (pem_var (pv 4)) pam_nil) fun _ h => pi_range1 (by rfl) T.f_range h) (pgm_name (i := 6) (pg_name (i := 6) sc__law_any_maker.nd rfl (by first | exact Or.inl rfl | exact Or.inr rfl))) (pssm_cons (psm_set (i := 7) (PNm.cell (pnm_lst pam_nil)) (fun _ hh => ps_set (i := 7) sc__law_any_maker.nd rfl (by first | exact Or.inl rfl | exact Or.inr rfl) hh))
    (pssm_cons (psm_for PassesOwn.never rfl (pim_val (pem_ix (pem_var (pv 2)) pem_int)) (pgm_name (i := 8) (pg_name (i := 8) sc__law_any_maker.nd rfl (by first | exact Or.inl rfl | exact Or.inr rfl))) (pssm_one (psm_expr (pem_append (pem_var (pv 7)) (pam_cons (pem_tup (pam_cons (pem_call (ok__law_take T) m__law_take (hr.mono (by decide)) hgd (by rfl) T.g__law_take T.k__law_take T.b__law_take .nil Dfl.nil pass0 (pam_cons (pem_var (pv 0)) (pam_cons (pem_var (pv 4)) pam_nil)) rfl) (pam_cons (pem_call (ok__law_some_text T) m__law_some_text (hr.mono (by decide)) hgd (by rfl) T.g__law_some_text T.k__law_some_text T.b__law_some_text .nil Dfl.nil pass0 (pam_cons (pem_var (pv 0)) (pam_cons (pem_var (pv 1)) (pam_cons (pem_ix (PNm.val (pnm_lst (pam_cons pem_int (pam_cons pem_int (pam_cons pem_int (pam_cons pem_int pam_nil)))))) (pem_call (ok__law_take T) m__law_take (hr.mono (by decide)) hgd (by rfl) T.g__law_take T.k__law_take T.b__law_take .nil Dfl.nil pass0 (pam_cons (pem_var (pv 0)) (pam_cons pem_int pam_nil)) rfl)) pam_nil))) rfl) pam_nil))) pam_nil) fun _ _ h h2 => pe_bm PySem.F.plainAttrs_list PySem.F.slot_list_append PySem.F.type_list_append mt_append h h2))))
    (pssm_one (psm_expr (pem_append (pem_var (pv 5)) (pam_cons (pem_tup (pam_cons (pem_callB tupleM tupleC_mono (pam_cons (pem_var (pv 7)) pam_nil) fun _ h => pe_callTy call_tuple_of (by rfl) T.f_tuple (by decide +kernel) h) (pam_cons (pem_call (ok__law_some_text T) m__law_some_text (hr.mono (by decide)) hgd (by rfl) T.g__law_some_text T.k__law_some_text T.b__law_some_text .nil Dfl.nil pass0 (pam_cons (pem_var (pv 0)) (pam_cons (pem_var (pv 1)) (pam_cons (pem_call (ok__law_take T) m__law_take (hr.mono (by decide)) hgd (by rfl) T.g__law_take T.k__law_take T.b__law_take .nil Dfl.nil pass0 (pam_cons (pem_var (pv 0)) (pam_cons pem_int pam_nil)) rfl) pam_nil))) rfl) pam_nil))) pam_nil) fun _ _ h h2 => pe_bm PySem.F.plainAttrs_list PySem.F.slot_list_append PySem.F.type_list_append mt_append h h2))))))
    (pssm_one (psm_ret (pem_tup (pam_cons (pem_call (ok__law_some_text T) m__law_some_text (hr.mono (by decide)) hgd (by rfl) T.g__law_some_text T.k__law_some_text T.b__law_some_text .nil Dfl.nil pass0 (pam_cons (pem_var (pv 0)) (pam_cons (pem_var (pv 1)) (pam_cons (pem_call (ok__law_take T) m__law_take (hr.mono (by decide)) hgd (by rfl) T.g__law_take T.k__law_take T.b__law_take .nil Dfl.nil pass0 (pam_cons (pem_var (pv 0)) (pam_cons pem_int pam_nil)) rfl) pam_nil))) rfl) (pam_cons (pem_callB tupleM tupleC_mono (pam_cons (pem_var (pv 5)) pam_nil) fun _ h => pe_callTy call_tuple_of (by rfl) T.f_tuple (by decide +kernel) h) pam_nil))))))))
theorem Txt.k__law_one_of (T : Txt K mg) : PySem.W.keepIn K (.ref T.a__law_one_of) = true := T.D__law_one_of.kp
theorem Txt.b__law_one_of (T : Txt K mg) : Binds K T.fd__law_one_of ["pen", "some"] [] := T.D__law_one_of.bindsN fun _ _ _ _ _ _ us hl => match us, hl with | [_, _], _ => rfl
theorem ok__law_one_of (T : Txt K mg) : FnG P w K mg base CX0 3 T.a__law_one_of T.fd__law_one_of ["pen", "some"] (spF ⟨K, w, mg⟩ 2 t__law_one_of) := by
  refine fun_ok T.D__law_one_of sc__law_one_of fun cdv A outer s H E hr hgd => ?_
  exact (pssm_one (psm_ret (pem_ix (pem_var (pv 1)) (pem_call (ok__law_take T) m__law_take (hr.mono (by decide)) hgd (by rfl) T.g__law_take T.k__law_take T.b__law_take .nil Dfl.nil pass0 (pam_cons (pem_var (pv 0)) (pam_cons (pem_callB lenM lenC_mono (pam_cons (pem_var (pv 1)) pam_nil) fun _ h => pe_callB call_len (by rfl) T.f_len (by decide +kernel) h) pam_nil)) rfl))))
theorem Txt.k__law_bent (T : Txt K mg) : PySem.W.keepIn K (.ref T.a__law_bent) = true := T.D__law_bent.kp
theorem Txt.b__law_bent (T : Txt K mg) : Binds K T.fd__law_bent ["pen", "signs", "thing"] [] := T.D__law_bent.bindsN fun _ _ _ _ _ _ us hl => match us, hl with | [_, _, _], _ => rfl
theorem ok__law_bent (T : Txt K mg) : ∀ n : Nat, FnG P w K mg base CX0 (4 + n) T.a__law_bent T.fd__law_bent ["pen", "signs", "thing"] (spF ⟨K, w, mg⟩ 3 (t__law_bent_v1 n))
  | 0 => fnG_never
  | n + 1 => by
    have ih := ok__law_bent T n
    refine (fun_ok T.D__law_bent sc__law_bent fun cdv A outer s H E hr hgd => ?_ : FnG P w K mg base CX0 (4 + n + 1) _ _ _ _)
    exact (pssm_cons (psm_set (i := 3) (PNm.val (pnm_lst (pam_cons pem_non (pam_cons pem_bl (pam_cons pem_bl (pam_cons pem_int (pam_cons pem_int (pam_cons pem_int (pam_cons pem_int (pam_cons (pem_neg pem_int) (pam_cons (pem_str (l := [])) (pam_cons (pem_op op_mulM mulM mulD_mono (pem_slice (pem_var (pv 1)) pom_none (pom_some pem_int)) pem_int) (pam_cons (pem_op op_mulM mulM mulD_mono (pem_slice (pem_var (pv 1)) pom_none (pom_some pem_int)) pem_int) (pam_cons (pem_str (l := [32])) (pam_cons (pem_str (l := [126, 126])) (pam_cons (pem_tup pam_nil) (pam_cons (PNm.val (pnm_lst pam_nil)) (pam_cons pem_dct0 (pam_cons (pem_dct1 (pem_str (l := [97])) pem_int) pam_nil))))))))))))))))))) (fun _ hh => ps_set (i := 3) sc__law_bent.nd rfl (by first | exact Or.inl rfl | exact Or.inr rfl) hh))
    (pssm_cons (psm_if (PWm.ptm (pwm_and (ptm_val (pem_isi (t := "str") (by rfl) T.f_isinstance (by decide +kernel) (pem_var (pv 2)) (pe_bltn (by rfl) T.f_str (by decide +kernel) rfl))) (pwm_and (ptm_cmp (op_neM hr.units) eqM eqD_mono (pem_var (pv 2)) (pem_str (l := [])) (nomark _)) (pwm_and1 (ptm_cmp (op_eqM hr.units) eqM eqD_mono (pem_call (ok__law_take T) m__law_take (hr.mono (by omega)) hgd (by rfl) T.g__law_take T.k__law_take T.b__law_take .nil Dfl.nil pass0 (pam_cons (pem_var (pv 0)) (pam_cons pem_int pam_nil)) rfl) pem_int (nomark _)))))) (pssm_one (psm_ret (pem_op op_addM addM addD_mono (pem_var (pv 2)) (pem_call (ok__law_one_of T) m__law_one_of (hr.mono (by omega)) hgd (by rfl) T.g__law_one_of T.k__law_one_of T.b__law_one_of .nil Dfl.nil pass0 (pam_cons (pem_var (pv 0)) (pam_cons (PNm.val (pnm_lst (pam_cons (pem_slice (pem_var (pv 2)) pom_none (pom_some pem_int)) (pam_cons (pem_str (l := [32])) (pam_cons (pem_str (l := [126])) (pam_cons (pem_slice (pem_var (pv 1)) (pom_some (pem_neg pem_int)) pom_none) pam_nil)))))) pam_nil)) rfl)))) pssm_nil)
    (pssm_cons (psm_if (PWm.ptm (pwm_or (ptm_not (ptm_val (pem_isi (t := "tuple") (by rfl) T.f_isinstance (by decide +kernel) (pem_var (pv 2)) (pe_bltn (by rfl) T.f_tuple (by decide +kernel) rfl)))) (pwm_or (ptm_cmp (op_eqEM hr.units) emM emD_mono (pem_var (pv 2)) (pem_tup pam_nil) (nomark _)) (pwm_or1 (ptm_cmp (op_eqM hr.units) eqM eqD_mono (pem_call (ok__law_take T) m__law_take (hr.mono (by omega)) hgd (by rfl) T.g__law_take T.k__law_take T.b__law_take .nil Dfl.nil pass0 (pam_cons (pem_var (pv 0)) (pam_cons pem_int pam_nil)) rfl) pem_int (nomark _)))))) (pssm_one (psm_ret (pem_call (ok__law_one_of T) m__law_one_of (hr.mono (by omega)) hgd (by rfl) T.g__law_one_of T.k__law_one_of T.b__law_one_of .nil Dfl.nil pass0 (pam_cons (pem_var (pv 0)) (pam_cons (pem_var (pv 3)) pam_nil)) rfl))) pssm_nil)
    (pssm_cons (psm_set (i := 4) (pem_call (ok__law_take T) m__law_take (hr.mono (by omega)) hgd (by rfl) T.g__law_take T.k__law_take T.b__law_take .nil Dfl.nil pass0 (pam_cons (pem_var (pv 0)) (pam_cons (pem_callB lenM lenC_mono (pam_cons (pem_var (pv 2)) pam_nil) fun _ h => pe_callB call_len (by rfl) T.f_len (by decide +kernel) h) pam_nil)) rfl) (fun _ hh => ps_set (i := 4) sc__law_bent.nd rfl (by first | exact Or.inl rfl | exact Or.inr rfl) hh))
    (pssm_cons (psm_set (i := 5) (pem_call (ok__law_take T) m__law_take (hr.mono (by omega)) hgd (by rfl) T.g__law_take T.k__law_take T.b__law_take .nil Dfl.nil pass0 (pam_cons (pem_var (pv 0)) (pam_cons pem_int pam_nil)) rfl) (fun _ hh => ps_set (i := 5) sc__law_bent.nd rfl (by first | exact Or.inl rfl | exact Or.inr rfl) hh))
    (pssm_cons (psm_if (ptm_cmp (op_eqM hr.units) eqM eqD_mono (pem_var (pv 5)) pem_int (nomark _)) (pssm_one (psm_ret (pem_op op_addM addM addD_mono (pem_slice (pem_var (pv 2)) pom_none (pom_some (pem_var (pv 4)))) (pem_slice (pem_var (pv 2)) (pom_some (pem_op op_addM addM addD_mono (pem_var (pv 4)) pem_int)) pom_none)))) pssm_nil)
    (pssm_cons (psm_if (ptm_cmp (op_eqM hr.units) eqM eqD_mono (pem_var (pv 5)) pem_int (nomark _)) (pssm_one (psm_ret (pem_op op_addM addM addD_mono (pem_slice (pem_var (pv 2)) pom_none (pom_some (pem_op op_addM addM addD_mono (pem_var (pv 4)) pem_int))) (pem_slice (pem_var (pv 2)) (pom_some (pem_var (pv 4))) pom_none)))) pssm_nil)
    (pssm_cons (psm_if (ptm_cmp (op_eqM hr.units) eqM eqD_mono (pem_var (pv 5)) pem_int (nomark _)) (pssm_one (psm_ret (PNm.val (pnm_list (pam_cons (pem_var (pv 2)) pam_nil) fun _ h => pe_callTy (call_listM rfl) (by rfl) T.f_list (by decide +kernel) h)))) pssm_nil)
    (pssm_one (psm_ret (pem_op op_addM addM addD_mono (pem_op op_addM addM addD_mono (pem_slice (pem_var (pv 2)) pom_none (pom_some (pem_var (pv 4)))) (pem_tup (pam_cons (pem_call ih (m__law_bent_v1 n) (hr.mono (by omega)) hgd (by rfl) T.g__law_bent T.k__law_bent T.b__law_bent .nil Dfl.nil pass0 (pam_cons (pem_var (pv 0)) (pam_cons (pem_var (pv 1)) (pam_cons (pem_ix (pem_var (pv 2)) (pem_var (pv 4))) pam_nil))) rfl) pam_nil))) (pem_slice (pem_var (pv 2)) (pom_some (pem_op op_addM addM addD_mono (pem_var (pv 4)) pem_int)) pom_none))))))))))))
theorem Txt.k__law_due (T : Txt K mg) : PySem.W.keepIn K (.ref T.a__law_due) = true := T.D__law_due.kp
theorem Txt.b__law_due (T : Txt K mg) : Binds K T.fd__law_due ["maker", "lot", "word"] [] := T.D__law_due.bindsN fun _ _ _ _ _ _ us hl => match us, hl with | [_, _, _], _ => rfl
theorem ok__law_due (T : Txt K mg) : FnG P w K mg base CX0 1 T.a__law_due T.fd__law_due ["maker", "lot", "word"] (spF ⟨K, w, mg⟩ 3 t__law_due_v1) := by
  refine fun_ok T.D__law_due sc__law_due fun cdv A outer s H E hr hgd => ?_
  exact (pssm_cons (psm_par (i := 4) (j := 5) (pam_cons (pem_ix (pem_var (pv 0)) pem_int) (pam_cons pem_int pam_nil)) (fun _ hh => ps_par (i := 4) (j := 5) rfl sc__law_due.nd rfl rfl (by decide) rfl rfl hh (by rfl)))
    (pssm_cons (psm_for PassesOwn.never rfl (pim_val (pem_var (pv 2))) (pgm_name (i := 3) (pg_name (i := 3) sc__law_due.nd rfl (by first | exact Or.inl rfl | exact Or.inr rfl))) (pssm_cons (psm_asg (pem_ix (pem_ix (pem_ix (pem_ix (pem_var (pv 0)) pem_int) (pem_var (pv 5))) pem_int) (pem_sindex (pem_ix (pem_var (pv 1)) pem_int) (pem_var (pv 3)) fun _ _ h h2 => pe_m1 PySem.F.slot_str_index PySem.F.type_str_index mt_sindex h h2)) (pgm_tup rfl (pgsm_cons (pgm_name (i := 5) (pg_name (i := 5) sc__law_due.nd rfl (by first | exact Or.inl rfl | exact Or.inr rfl))) (pgsm_cons (pgm_name (i := 6) (pg_name (i := 6) sc__law_due.nd rfl (by first | exact Or.inl rfl | exact Or.inr rfl))) pgsm_nil)) (gsCons_lenS strict_var (gsCons_lenS strict_var gsNil_len))))
    (pssm_one (psm_set (i := 4) (pem_op op_addM addM addD_mono (pem_var (pv 4)) (pem_var (pv 6))) (fun _ hh => ps_set (i := 4) sc__law_due.nd rfl (by first | exact Or.inl rfl | exact Or.inr rfl) hh)))))
    (pssm_one (psm_ret (pem_op op_addM addM addD_mono (pem_var (pv 4)) (pem_ix (pem_ix (pem_ix (pem_var (pv 0)) pem_int) (pem_var (pv 5))) pem_int))))))
theorem Txt.k__law_is_text (T : Txt K mg) : PySem.W.keepIn K (.ref T.a__law_is_text) = true := T.D__law_is_text.kp
theorem Txt.b__law_is_text (T : Txt K mg) : Binds K T.fd__law_is_text ["thing", "signs"] [] := T.D__law_is_text.bindsN fun _ _ _ _ _ _ us hl => match us, hl with | [_, _], _ => rfl
theorem ok__law_is_text (T : Txt K mg) : FnG P w K mg base CX0 1 T.a__law_is_text T.fd__law_is_text ["thing", "signs"] (spF ⟨K, w, mg⟩ 2 t__law_is_text_v1) := by
  refine fun_ok T.D__law_is_text sc__law_is_text fun cdv A outer s H E hr hgd => ?_
  exact (pssm_one (psm_ret (pem_and (pem_isi (t := "str") (by rfl) T.f_isinstance (by decide +kernel) (pem_var (pv 0)) (pe_bltn (by rfl) T.f_str (by decide +kernel) rfl)) (pem_and (pem_cmp op_leM ordM ordD_mono (pem_callB lenM lenC_mono (pam_cons (pem_var (pv 0)) pam_nil) fun _ h => pe_callB call_len (by rfl) T.f_len (by decide +kernel) h) pem_int (nomark _)) (pem_one (pem_cmp (op_eqEM hr.units) emM emD_mono (PNm.val (pnm_lc (own := [("one", 2)]) (sl := [2]) (g' := gName 2) rfl sc__law_is_text.nd (pim_val (pem_var (pv 0))) (blkOk_by (by kernel_rfl)) (fun _ _ _ _ _ => (pgm_name (i := 2) (pg_name (i := 2) sc__law_is_text.nd rfl (by first | exact Or.inl rfl | exact Or.inr rfl)))) (by decide) (fun _ _ _ _ _ => (ptsm_one (ptm_cmp (op_notInM (room65 hr)) inM inD_mono (pem_var (pv 2)) (pem_var (pv 1)) (by rfl)))) (fun _ _ _ _ _ => (pem_var (pv 2))))) (PNm.val (pnm_lst pam_nil)) (nomark _)))))))
theorem Txt.k__law_is_state (T : Txt K mg) : PySem.W.keepIn K (.ref T.a__law_is_state) = true := T.D__law_is_state.kp
theorem Txt.b__law_is_state (T : Txt K mg) : Binds K T.fd__law_is_state ["thing", "wide", "amount", "signs"] [] := T.D__law_is_state.bindsN fun _ _ _ _ _ _ us hl => match us, hl with | [_, _, _, _], _ => rfl
theorem ok__law_is_state (T : Txt K mg) : FnG P w K mg base CX0 2 T.a__law_is_state T.fd__law_is_state ["thing", "wide", "amount", "signs"] (spF ⟨K, w, mg⟩ 4 t__law_is_state) := by
  refine fun_ok T.D__law_is_state sc__law_is_state fun cdv A outer s H E hr hgd => ?_
  exact (pssm_cons (psm_if (PWm.ptm (pwm_or (ptm_not (ptm_val (pem_isi (t := "tuple") (by rfl) T.f_isinstance (by decide +kernel) (pem_var (pv 0)) (pe_bltn (by rfl) T.f_tuple (by decide +kernel) rfl)))) (pwm_or (ptm_cmp (op_neM hr.units) eqM eqD_mono (pem_callB lenM lenC_mono (pam_cons (pem_var (pv 0)) pam_nil) fun _ h => pe_callB call_len (by rfl) T.f_len (by decide +kernel) h) pem_int (nomark _)) (pwm_or (ptm_not (ptm_val (pem_isi (t := "tuple") (by rfl) T.f_isinstance (by decide +kernel) (pem_ix (pem_var (pv 0)) pem_int) (pe_bltn (by rfl) T.f_tuple (by decide +kernel) rfl)))) (pwm_or1 (ptm_cmp (op_neM hr.units) eqM eqD_mono (pem_callB lenM lenC_mono (pam_cons (pem_ix (pem_var (pv 0)) pem_int) pam_nil) fun _ h => pe_callB call_len (by rfl) T.f_len (by decide +kernel) h) (pem_var (pv 1)) (nomark _))))))) (pssm_one (psm_ret pem_bl)) pssm_nil)
    (pssm_cons (psm_for PassesOwn.never rfl (pim_val (pem_ix (pem_var (pv 0)) pem_int)) (pgm_name (i := 4) (pg_name (i := 4) sc__law_is_state.nd rfl (by first | exact Or.inl rfl | exact Or.inr rfl))) (pssm_cons (psm_if (PWm.ptm (pwm_or (ptm_not (ptm_val (pem_isi (t := "tuple") (by rfl) T.f_isinstance (by decide +kernel) (pem_var (pv 4)) (pe_bltn (by rfl) T.f_tuple (by decide +kernel) rfl)))) (pwm_or (ptm_cmp (op_neM hr.units) eqM eqD_mono (pem_callB lenM lenC_mono (pam_cons (pem_var (pv 4)) pam_nil) fun _ h => pe_callB call_len (by rfl) T.f_len (by decide +kernel) h) pem_int (nomark _)) (pwm_or (ptm_not (ptm_val (pem_isi (t := "int") (by rfl) T.f_isinstance (by decide +kernel) (pem_ix (pem_var (pv 4)) pem_int) (pe_bltn (by rfl) T.f_int (by decide +kernel) rfl)))) (pwm_or1 (ptm_val (pem_isi (t := "bool") (by rfl) T.f_isinstance (by decide +kernel) (pem_ix (pem_var (pv 4)) pem_int) (pe_bltn (by rfl) T.f_bool (by decide +kernel) rfl)))))))) (pssm_one (psm_ret pem_bl)) pssm_nil)
    (pssm_one (psm_if (PWm.ptm (pwm_or (ptm_not (ptm_chain op_leM op_ltM ordM ordM ordD_mono ordD_mono pem_int (pem_ix (pem_var (pv 4)) pem_int) (pem_var (pv 2)))) (pwm_or1 (ptm_not (ptm_val (pem_call (ok__law_is_text T) m__law_is_text_v1 (hr.mono (by decide)) hgd (by rfl) T.g__law_is_text T.k__law_is_text T.b__law_is_text .nil Dfl.nil pass0 (pam_cons (pem_ix (pem_var (pv 4)) pem_int) (pam_cons (pem_var (pv 3)) pam_nil)) rfl)))))) (pssm_one (psm_ret pem_bl)) pssm_nil))))
    (pssm_one (psm_ret (pem_call (ok__law_is_text T) m__law_is_text_v1 (hr.mono (by decide)) hgd (by rfl) T.g__law_is_text T.k__law_is_text T.b__law_is_text .nil Dfl.nil pass0 (pam_cons (pem_ix (pem_var (pv 0)) pem_int) (pam_cons (pem_var (pv 3)) pam_nil)) rfl)))))
theorem Txt.k__law_is_maker (T : Txt K mg) : PySem.W.keepIn K (.ref T.a__law_is_maker) = true := T.D__law_is_maker.kp
theorem Txt.b__law_is_maker (T : Txt K mg) : Binds K T.fd__law_is_maker ["signs", "lot", "thing"] [] := T.D__law_is_maker.bindsN fun _ _ _ _ _ _ us hl => match us, hl with | [_, _, _], _ => rfl
theorem ok__law_is_maker (T : Txt K mg) : FnG P w K mg base CX0 3 T.a__law_is_maker T.fd__law_is_maker ["signs", "lot", "thing"] (spF ⟨K, w, mg⟩ 3 t__law_is_maker) := by
  refine fun_ok T.D__law_is_maker sc__law_is_maker fun cdv A outer s H E hr hgd => ?_
  exact (pssm_cons (psm_if (PWm.ptm (pwm_or (ptm_not (ptm_val (pem_isi (t := "tuple") (by rfl) T.f_isinstance (by decide +kernel) (pem_var (pv 2)) (pe_bltn (by rfl) T.f_tuple (by decide +kernel) rfl)))) (pwm_or (ptm_cmp (op_neM hr.units) eqM eqD_mono (pem_callB lenM lenC_mono (pam_cons (pem_var (pv 2)) pam_nil) fun _ h => pe_callB call_len (by rfl) T.f_len (by decide +kernel) h) pem_int (nomark _)) (pwm_or1 (ptm_not (ptm_val (pem_call (ok__law_is_text T) m__law_is_text_v1 (hr.mono (by decide)) hgd (by rfl) T.g__law_is_text T.k__law_is_text T.b__law_is_text .nil Dfl.nil pass0 (pam_cons (pem_ix (pem_var (pv 2)) pem_int) (pam_cons (pem_var (pv 0)) pam_nil)) rfl))))))) (pssm_one (psm_ret pem_bl)) pssm_nil)
    (pssm_cons (psm_if (PWm.ptm (pwm_or (ptm_not (ptm_val (pem_isi (t := "tuple") (by rfl) T.f_isinstance (by decide +kernel) (pem_ix (pem_var (pv 2)) pem_int) (pe_bltn (by rfl) T.f_tuple (by decide +kernel) rfl)))) (pwm_or1 (ptm_not (ptm_chain op_leM op_leM ordM ordM ordD_mono ordD_mono pem_int (pem_callB lenM lenC_mono (pam_cons (pem_ix (pem_var (pv 2)) pem_int) pam_nil) fun _ h => pe_callB call_len (by rfl) T.f_len (by decide +kernel) h) pem_int))))) (pssm_one (psm_ret pem_bl)) pssm_nil)
    (pssm_one (psm_ret (pem_cmp (op_notInM (room65 hr)) inM inD_mono pem_bl (PNm.val (pnm_lc (own := [("state", 3)]) (sl := [3]) (g' := gName 3) rfl sc__law_is_maker.nd (pim_val (pem_ix (pem_var (pv 2)) pem_int)) (blkOk_by (by kernel_rfl)) (fun _ _ _ _ _ => (pgm_name (i := 3) (pg_name (i := 3) sc__law_is_maker.nd rfl (by first | exact Or.inl rfl | exact Or.inr rfl)))) (by decide) (fun _ _ _ _ _ => ptsm_nil) (fun _ _ _ _ _ => (pem_call (ok__law_is_state T) m__law_is_state (hr.mono (by decide)) hgd (by rfl) T.g__law_is_state T.k__law_is_state T.b__law_is_state .nil Dfl.nil pass0 (pam_cons (pem_var (pv 3)) (pam_cons (pem_callB lenM lenC_mono (pam_cons (pem_ix (pem_var (pv 1)) pem_int) pam_nil) fun _ h => pe_callB call_len (by rfl) T.f_len (by decide +kernel) h) (pam_cons (pem_callB lenM lenC_mono (pam_cons (pem_ix (pem_var (pv 2)) pem_int) pam_nil) fun _ h => pe_callB call_len (by rfl) T.f_len (by decide +kernel) h) (pam_cons (pem_var (pv 0)) pam_nil)))) rfl)))) (by rfl))))))
theorem Txt.k__law_open (T : Txt K mg) : PySem.W.keepIn K (.ref T.a__law_open) = true := T.D__law_open.kp
theorem Txt.b__law_open (T : Txt K mg) : Binds K T.fd__law_open ["script"] [] := T.D__law_open.bindsN fun _ _ _ _ _ _ us hl => match us, hl with | [_], _ => rfl
theorem ok__law_open (T : Txt K mg) : FnG P w K mg base CX0 1 T.a__law_open T.fd__law_open ["script"] (spF ⟨K, w, mg⟩ 1 t__law_open) := by
  refine fun_ok T.D__law_open sc__law_open fun cdv A outer s H E hr hgd => ?_
  exact (pssm_cons (psm_set (i := 1) (PNm.cell (pnm_list (pam_cons (pem_slice (pem_var (pv 0)) pom_none (pom_some pem_int)) pam_nil) fun _ h => pe_callTy (call_listM rfl) (by rfl) T.f_list (by decide +kernel) h)) (fun _ hh => ps_set (i := 1) sc__law_open.nd rfl (by first | exact Or.inl rfl | exact Or.inr rfl) hh))
    (pssm_cons (psm_for PassesOwn.never rfl (pim_en (pam_cons (pem_slice (pem_var (pv 0)) (pom_some pem_int) (pom_some pem_int)) pam_nil) fun _ h => pi_en (by rfl) T.f_enumerate h) (pgm_tup rfl (pgsm_cons (pgm_name (i := 2) (pg_name (i := 2) sc__law_open.nd rfl (by first | exact Or.inl rfl | exact Or.inr rfl))) (pgsm_cons (pgm_name (i := 3) (pg_name (i := 3) sc__law_open.nd rfl (by first | exact Or.inl rfl | exact Or.inr rfl))) pgsm_nil)) (gsCons_lenS strict_var (gsCons_lenS strict_var gsNil_len))) (pssm_one (psm_asg (pem_op op_addM addM addD_mono (pem_ix (pem_var (pv 1)) (pem_op op_mod intM intD_mono (pem_var (pv 2)) pem_int)) (pem_var (pv 3))) (pgm_ix (pem_var (pv 1)) (pem_op op_mod intM intD_mono (pem_var (pv 2)) pem_int) (fun _ _ ho hi => pg_sub ho hi set_list)))))
    (pssm_one (psm_ret (PNm.cell (pnm_lst (pam_cons (pem_frz (pv 1)) (pam_cons pem_int (pam_cons pem_int pam_nil)))))))))
theorem Txt.k__law_same (T : Txt K mg) : PySem.W.keepIn K (.ref T.a__law_same) = true := T.D__law_same.kp
theorem Txt.b__law_same (T : Txt K mg) : Binds K T.fd__law_same ["found", "due"] [] := T.D__law_same.bindsN fun _ _ _ _ _ _ us hl => match us, hl with | [_, _], _ => rfl
theorem ok__law_same (T : Txt K mg) : ∀ n : Nat, FnG P w K mg base CX0 (1 + n) T.a__law_same T.fd__law_same ["found", "due"] (spF ⟨K, w, mg⟩ 2 (t__law_same n))
  | 0 => fnG_never
  | n + 1 => by
    have ih := ok__law_same T n
    refine (fun_ok T.D__law_same sc__law_same fun cdv A outer s H E hr hgd => ?_ : FnG P w K mg base CX0 (1 + n + 1) _ _ _ _)
    exact (pssm_cons (psm_if (PWm.ptm (pwm_or (ptm_cmp op_isM isM isD_mono (pem_var (pv 1)) pem_non (nomark _)) (pwm_or1 (ptm_cmp op_isM isM isD_mono (pem_var (pv 0)) pem_non (nomark _))))) (pssm_one (psm_ret (pem_and (pem_cmp op_isM isM isD_mono (pem_var (pv 1)) pem_non (nomark _)) (pem_one (pem_cmp op_isM isM isD_mono (pem_var (pv 0)) pem_non (nomark _)))))) pssm_nil)
    (pssm_cons (psm_if (PWm.ptm (pwm_or (ptm_val (pem_isi (t := "bool") (by rfl) T.f_isinstance (by decide +kernel) (pem_var (pv 1)) (pe_bltn (by rfl) T.f_bool (by decide +kernel) rfl))) (pwm_or1 (ptm_val (pem_isi (t := "bool") (by rfl) T.f_isinstance (by decide +kernel) (pem_var (pv 0)) (pe_bltn (by rfl) T.f_bool (by decide +kernel) rfl)))))) (pssm_one (psm_ret (pem_and (pem_isi (t := "bool") (by rfl) T.f_isinstance (by decide +kernel) (pem_var (pv 1)) (pe_bltn (by rfl) T.f_bool (by decide +kernel) rfl)) (pem_and (pem_isi (t := "bool") (by rfl) T.f_isinstance (by decide +kernel) (pem_var (pv 0)) (pe_bltn (by rfl) T.f_bool (by decide +kernel) rfl)) (pem_one (pem_cmp (op_eqM hr.units) eqM eqD_mono (pem_var (pv 0)) (pem_var (pv 1)) (nomark _))))))) pssm_nil)
    (pssm_cons (psm_if (ptm_val (pem_isiT (ts := ["int", "str"]) (by rfl) T.f_isinstance (by decide +kernel) (by decide +kernel) (pem_var (pv 1)) (pe_tup (pa_cons (pe_bltn (v := .ty "int") (by rfl) T.f_int (by decide +kernel) rfl) (pa_cons (pe_bltn (v := .ty "str") (by rfl) T.f_str (by decide +kernel) rfl) pa_nil))) (fun _ _ _ q => q))) (pssm_cons (psm_if (ptm_cmp (op_neM hr.units) eqM eqD_mono (pem_isi (t := "int") (by rfl) T.f_isinstance (by decide +kernel) (pem_var (pv 0)) (pe_bltn (by rfl) T.f_int (by decide +kernel) rfl)) (pem_isi (t := "int") (by rfl) T.f_isinstance (by decide +kernel) (pem_var (pv 1)) (pe_bltn (by rfl) T.f_int (by decide +kernel) rfl)) (nomark _)) (pssm_one (psm_ret pem_bl)) pssm_nil)
    (pssm_one (psm_ret (pem_and (pem_isiT (ts := ["int", "str"]) (by rfl) T.f_isinstance (by decide +kernel) (by decide +kernel) (pem_var (pv 0)) (pe_tup (pa_cons (pe_bltn (v := .ty "int") (by rfl) T.f_int (by decide +kernel) rfl) (pa_cons (pe_bltn (v := .ty "str") (by rfl) T.f_str (by decide +kernel) rfl) pa_nil))) (fun _ _ _ q => q)) (pem_one (pem_cmp (op_eqM hr.units) eqM eqD_mono (pem_var (pv 0)) (pem_var (pv 1)) (nomark _))))))) pssm_nil)
    (pssm_cons (psm_if (PWm.ptm (pwm_or (ptm_cmp (op_neM hr.units) eqM eqD_mono (pem_isi (t := "tuple") (by rfl) T.f_isinstance (by decide +kernel) (pem_var (pv 1)) (pe_bltn (by rfl) T.f_tuple (by decide +kernel) rfl)) (pem_isi (t := "tuple") (by rfl) T.f_isinstance (by decide +kernel) (pem_var (pv 0)) (pe_bltn (by rfl) T.f_tuple (by decide +kernel) rfl)) (nomark _)) (pwm_or1 (ptm_cmp (op_neM hr.units) eqM eqD_mono (pem_isi (t := "list") (by rfl) T.f_isinstance (by decide +kernel) (pem_var (pv 1)) (pe_bltn (by rfl) T.f_list (by decide +kernel) rfl)) (pem_isi (t := "list") (by rfl) T.f_isinstance (by decide +kernel) (pem_var (pv 0)) (pe_bltn (by rfl) T.f_list (by decide +kernel) rfl)) (nomark _))))) (pssm_one (psm_ret pem_bl)) pssm_nil)
    (pssm_cons (psm_if (ptm_cmp (op_neM hr.units) eqM eqD_mono (pem_callB lenM lenC_mono (pam_cons (pem_var (pv 0)) pam_nil) fun _ h => pe_callB call_len (by rfl) T.f_len (by decide +kernel) h) (pem_callB lenM lenC_mono (pam_cons (pem_var (pv 1)) pam_nil) fun _ h => pe_callB call_len (by rfl) T.f_len (by decide +kernel) h) (nomark _)) (pssm_one (psm_ret pem_bl)) pssm_nil)
    (pssm_one (psm_ret (pem_cmp (op_notInM (room65 hr)) inM inD_mono pem_bl (PNm.val (pnm_lc (own := [("one", 2), ("other", 3)]) (sl := ([2] ++ ([3] ++ []))) (g' := gTup K 2 (gCons (gName 2) (gCons (gName 3) gNil))) rfl sc__law_same.nd (pim_zz2 (pam_cons (pem_var (pv 0)) (pam_cons (pem_var (pv 1)) pam_nil)) fun _ h => pi_zz2 (by rfl) T.f_zip h) (blkOk_by (by kernel_rfl)) (fun _ _ _ _ _ => (pgm_tup rfl (pgsm_cons (pgm_name (i := 2) (pg_name (i := 2) sc__law_same.nd rfl (by first | exact Or.inl rfl | exact Or.inr rfl))) (pgsm_cons (pgm_name (i := 3) (pg_name (i := 3) sc__law_same.nd rfl (by first | exact Or.inl rfl | exact Or.inr rfl))) pgsm_nil)) (gsCons_lenS strict_var (gsCons_lenS strict_var gsNil_len)))) (by decide) (fun _ _ _ _ _ => ptsm_nil) (fun _ _ _ _ _ => (pem_call ih (m__law_same n) (hr.mono (by omega)) hgd (by rfl) T.g__law_same T.k__law_same T.b__law_same .nil Dfl.nil pass0 (pam_cons (pem_var (pv 2)) (pam_cons (pem_var (pv 3)) pam_nil)) rfl)))) (by rfl)))))))))
theorem Txt.k__law_any_reader (T : Txt K mg) : PySem.W.keepIn K (.ref T.a__law_any_reader) = true := T.D__law_any_reader.kp
theorem Txt.b__law_any_reader (T : Txt K mg) : Binds K T.fd__law_any_reader ["pen", "reads", "tells", "size", "most"] [] := T.D__law_any_reader.bindsN fun _ _ _ _ _ _ us hl => match us, hl with | [_, _, _, _, _], _ => rfl
theorem ok__law_any_reader (T : Txt K mg) : FnG P w K mg base CX0 4 T.a__law_any_reader T.fd__law_any_reader ["pen", "reads", "tells", "size", "most"] (spF ⟨K, w, mg⟩ 5 t__law_any_reader) := by
  refine fun_ok T.D__law_any_reader sc__law_any_reader fun cdv A outer s H E hr hgd => ?_
  exact (pssm_cons (psm_par (i := 7) (j := 8) (pam_cons (pem_op op_addM addM addD_mono pem_int (pem_call (ok__law_take T) m__law_take (hr.mono (by decide)) hgd (by rfl) T.g__law_take T.k__law_take T.b__law_take .nil Dfl.nil pass0 (pam_cons (pem_var (pv 0)) (pam_cons (pem_var (pv 3)) pam_nil)) rfl)) (pam_cons (pem_cmp (op_eqM hr.units) eqM eqD_mono (pem_call (ok__law_take T) m__law_take (hr.mono (by decide)) hgd (by rfl) T.g__law_take T.k__law_take T.b__law_take .nil Dfl.nil pass0 (pam_cons (pem_var (pv 0)) (pam_cons pem_int pam_nil)) rfl) pem_int (nomark _)) pam_nil)) (fun _ hh => ps_par (i := 7) (j := 8) rfl sc__law_any_reader.nd rfl rfl (by decide) rfl rfl hh (by rfl)))
    (pssm_cons (psm_set (i := 5) (PNm.cell (pnm_lst pam_nil)) (fun _ hh => ps_set (i := 5) sc__law_any_reader.nd rfl (by first | exact Or.inl rfl | exact Or.inr rfl) hh))
    (pssm_cons (psm_for PassesOwn.never rfl (pim_range1 (pam_cons (pem_var (pv 7)) pam_nil) fun _ h => pi_range1 (by rfl) T.f_range h) (pgm_name (i := 6) (pg_name (i := 6) sc__law_any_reader.nd rfl (by first | exact Or.inl rfl | exact Or.inr rfl))) (pssm_cons (psm_set (i := 9) (PNm.cell (pnm_lst pam_nil)) (fun _ hh => ps_set (i := 9) sc__law_any_reader.nd rfl (by first | exact Or.inl rfl | exact Or.inr rfl) hh))
    (pssm_cons (psm_for PassesOwn.never rfl (pim_val (pem_var (pv 1))) (pgm_name (i := 10) (pg_name (i := 10) sc__law_any_reader.nd rfl (by first | exact Or.inl rfl | exact Or.inr rfl))) (pssm_cons (psm_set (i := 12) (pem_call (ok__law_some_text T) m__law_some_text (hr.mono (by decide)) hgd (by rfl) T.g__law_some_text T.k__law_some_text T.b__law_some_text .nil Dfl.nil pass0 (pam_cons (pem_var (pv 0)) (pam_cons (pem_var (pv 2)) (pam_cons (pem_var (pv 4)) pam_nil))) rfl) (fun _ hh => ps_set (i := 12) sc__law_any_reader.nd rfl (by first | exact Or.inl rfl | exact Or.inr rfl) hh))
    (pssm_cons (psm_if (PWm.ptm (pwm_and (ptm_val (pem_var (pv 8))) (pwm_and (ptm_cmp (op_inM (room65 hr)) inM inD_mono (pem_var (pv 10)) (pem_var (pv 2)) (by rfl)) (pwm_and1 (ptm_cmp op_gtM ordM ordD_mono (pem_call (ok__law_take T) m__law_take (hr.mono (by decide)) hgd (by rfl) T.g__law_take T.k__law_take T.b__law_take .nil Dfl.nil pass0 (pam_cons (pem_var (pv 0)) (pam_cons pem_int pam_nil)) rfl) pem_int (nomark _)))))) (pssm_one (psm_set (i := 12) (pem_var (pv 10)) (fun _ hh => ps_set (i := 12) sc__law_any_reader.nd rfl (by first | exact Or.inl rfl | exact Or.inr rfl) hh))) pssm_nil)
    (pssm_one (psm_expr (pem_append (pem_var (pv 9)) (pam_cons (pem_tup (pam_cons (pem_call (ok__law_take T) m__law_take (hr.mono (by decide)) hgd (by rfl) T.g__law_take T.k__law_take T.b__law_take .nil Dfl.nil pass0 (pam_cons (pem_var (pv 0)) (pam_cons (pem_var (pv 7)) pam_nil)) rfl) (pam_cons (pem_var (pv 12)) pam_nil))) pam_nil) fun _ _ h h2 => pe_bm PySem.F.plainAttrs_list PySem.F.slot_list_append PySem.F.type_list_append mt_append h h2))))))
    (pssm_cons (psm_set (i := 11) (pem_ix (PNm.val (pnm_lst (pam_cons (pem_call (ok__law_some_text T) m__law_some_text (hr.mono (by decide)) hgd (by rfl) T.g__law_some_text T.k__law_some_text T.b__law_some_text .nil Dfl.nil pass0 (pam_cons (pem_var (pv 0)) (pam_cons (pem_var (pv 2)) (pam_cons pem_int pam_nil))) rfl) (pam_cons (pem_str (l := [])) (pam_cons (pem_str (l := [])) (pam_cons pem_non pam_nil)))))) (pem_callB min2M min2C_mono (pam_cons pem_int (pam_cons (pem_call (ok__law_take T) m__law_take (hr.mono (by decide)) hgd (by rfl) T.g__law_take T.k__law_take T.b__law_take .nil Dfl.nil pass0 (pam_cons (pem_var (pv 0)) (pam_cons pem_int pam_nil)) rfl) pam_nil)) fun _ h => pe_callB (call_min2 rfl) (by rfl) T.f_min (by decide +kernel) h)) (fun _ hh => ps_set (i := 11) sc__law_any_reader.nd rfl (by first | exact Or.inl rfl | exact Or.inr rfl) hh))
    (pssm_one (psm_expr (pem_append (pem_var (pv 5)) (pam_cons (pem_tup (pam_cons (pem_callB tupleM tupleC_mono (pam_cons (pem_var (pv 9)) pam_nil) fun _ h => pe_callTy call_tuple_of (by rfl) T.f_tuple (by decide +kernel) h) (pam_cons (pem_var (pv 11)) pam_nil))) pam_nil) fun _ _ h h2 => pe_bm PySem.F.plainAttrs_list PySem.F.slot_list_append PySem.F.type_list_append mt_append h h2)))))))
    (pssm_one (psm_ret (pem_tup (pam_cons (pem_var (pv 1)) (pam_cons (pem_var (pv 2)) (pam_cons (pem_callB tupleM tupleC_mono (pam_cons (pem_var (pv 5)) pam_nil) fun _ h => pe_callTy call_tuple_of (by rfl) T.f_tuple (by decide +kernel) h) pam_nil)))))))))
theorem Txt.k__law_some_signs (T : Txt K mg) : PySem.W.keepIn K (.ref T.a__law_some_signs) = true := T.D__law_some_signs.kp
theorem Txt.b__law_some_signs (T : Txt K mg) : Binds K T.fd__law_some_signs ["pen", "amount"] [] := T.D__law_some_signs.bindsN fun _ _ _ _ _ _ us hl => match us, hl with | [_, _], _ => rfl
theorem ok__law_some_signs (T : Txt K mg) : FnG P w K mg base CX0 3 T.a__law_some_signs T.fd__law_some_signs ["pen", "amount"] (spF ⟨K, w, mg⟩ 2 t__law_some_signs_v2) := by
  refine fun_ok T.D__law_some_signs sc__law_some_signs fun cdv A outer s H E hr hgd => ?_
  exact (pssm_cons (psm_set (i := 2) (pem_str (l := [33, 34, 35, 36, 38, 39, 40, 41, 42, 43, 44, 45, 46, 47, 48, 49, 50, 51, 52, 53, 54, 55, 56, 57, 58, 59, 60, 61, 62, 63, 64, 65, 66, 67, 68, 69, 70, 71, 72, 73, 74, 75, 76, 77, 78, 79, 80, 81, 82, 83, 84, 85, 86, 87, 88, 89, 90, 91, 92, 93, 94, 95, 96, 97, 98, 99, 100, 101, 102, 103, 104, 105, 106, 107, 108, 109, 110, 111, 112, 113, 114, 115, 116, 117, 118, 119, 120, 121, 122, 123, 124, 125, 126])) (fun _ hh => ps_set (i := 2) sc__law_some_signs.nd rfl (by first | exact Or.inl rfl | exact Or.inr rfl) hh))
    (pssm_cons (psm_asg (pem_tup (pam_cons (pem_call (ok__law_take T) m__law_take (hr.mono (by decide)) hgd (by rfl) T.g__law_take T.k__law_take T.b__law_take .nil Dfl.nil pass0 (pam_cons (pem_var (pv 0)) (pam_cons (pem_callB lenM lenC_mono (pam_cons (pem_var (pv 2)) pam_nil) fun _ h => pe_callB call_len (by rfl) T.f_len (by decide +kernel) h) pam_nil)) rfl) (pam_cons (pem_op op_addM addM addD_mono pem_int (pem_op op_mulM mulM mulD_mono pem_int (pem_call (ok__law_take T) m__law_take (hr.mono (by decide)) hgd (by rfl) T.g__law_take T.k__law_take T.b__law_take .nil Dfl.nil pass0 (pam_cons (pem_var (pv 0)) (pam_cons pem_int pam_nil)) rfl))) pam_nil))) (pgm_tup rfl (pgsm_cons (pgm_name (i := 4) (pg_name (i := 4) sc__law_some_signs.nd rfl (by first | exact Or.inl rfl | exact Or.inr rfl))) (pgsm_cons (pgm_name (i := 5) (pg_name (i := 5) sc__law_some_signs.nd rfl (by first | exact Or.inl rfl | exact Or.inr rfl))) pgsm_nil)) (gsCons_lenS strict_var (gsCons_lenS strict_var gsNil_len))))
    (pssm_cons (psm_lc_val (i := 3) (own := [("k", 6)]) (sl := [6]) (g' := gName 6) rfl sc__law_some_signs.nd rfl rfl (sw_true rfl rfl rfl (by decide +kernel)) (pim_range1 (pam_cons (pem_var (pv 1)) pam_nil) fun _ h => pi_range1 (by rfl) T.f_range h) (blkOk_by (by kernel_rfl)) (fun _ _ _ _ _ => (pgm_name (i := 6) (pg_name (i := 6) sc__law_some_signs.nd rfl (by first | exact Or.inl rfl | exact Or.inr rfl)))) (by decide) (fun _ _ _ _ _ => ptsm_nil) (fun _ _ _ _ _ => (pem_ix (pem_var (pv 2)) (pem_op op_mod intM intD_mono (pem_op op_addM addM addD_mono (pem_var (pv 4)) (pem_op op_mulM mulM mulD_mono (pem_var (pv 5)) (pem_var (pv 6)))) (pem_callB lenM lenC_mono (pam_cons (pem_var (pv 2)) pam_nil) fun _ h => pe_callB call_len (by rfl) T.f_len (by decide +kernel) h)))))
    (pssm_one (psm_ret (pem_join (pem_str (l := [])) (PNm.val (pnm_sset (pam_cons (pem_var (pv 3)) pam_nil) fun _ h => pe_callB (cr_sortedSS rfl) (by rfl) T.f_sorted (by decide +kernel) (pa_cons (pe_callTy (cr_setS rfl) (by rfl) T.f_set (by decide +kernel) h) pa_nil))) fun _ _ h h2 => pe_join h h2))))))
theorem Txt.k__law_more_signs (T : Txt K mg) : PySem.W.keepIn K (.ref T.a__law_more_signs) = true := T.D__law_more_signs.kp
theorem Txt.b__law_more_signs (T : Txt K mg) : Binds K T.fd__law_more_signs ["pen", "reads"] [] := T.D__law_more_signs.bindsN fun _ _ _ _ _ _ us hl => match us, hl with | [_, _], _ => rfl
theorem ok__law_more_signs (T : Txt K mg) : FnG P w K mg base CX0 4 T.a__law_more_signs T.fd__law_more_signs ["pen", "reads"] (spF ⟨K, w, mg⟩ 2 t__law_more_signs_v2) := by
  refine fun_ok T.D__law_more_signs sc__law_more_signs fun cdv A outer s H E hr hgd => ?_
  exact (pssm_cons (psm_if (ptm_cmp op_gtM ordM ordD_mono (pem_call (ok__law_take T) m__law_take (hr.mono (by decide)) hgd (by rfl) T.g__law_take T.k__law_take T.b__law_take .nil Dfl.nil pass0 (pam_cons (pem_var (pv 0)) (pam_cons pem_int pam_nil)) rfl) pem_int (nomark _)) (pssm_one (psm_ret (pem_slice (pem_var (pv 1)) pom_none (pom_some (pem_op op_addM addM addD_mono pem_int (pem_call (ok__law_take T) m__law_take (hr.mono (by decide)) hgd (by rfl) T.g__law_take T.k__law_take T.b__law_take .nil Dfl.nil pass0 (pam_cons (pem_var (pv 0)) (pam_cons (pem_callB min2M min2C_mono (pam_cons pem_int (pam_cons (pem_callB lenM lenC_mono (pam_cons (pem_var (pv 1)) pam_nil) fun _ h => pe_callB call_len (by rfl) T.f_len (by decide +kernel) h) pam_nil)) fun _ h => pe_callB (call_min2 rfl) (by rfl) T.f_min (by decide +kernel) h) pam_nil)) rfl)))))) pssm_nil)
    (pssm_one (psm_ret (pem_call (ok__law_some_signs T) m__law_some_signs_v2 (hr.mono (by decide)) hgd (by rfl) T.g__law_some_signs T.k__law_some_signs T.b__law_some_signs .nil Dfl.nil pass0 (pam_cons (pem_var (pv 0)) (pam_cons (pem_op op_addM addM addD_mono pem_int (pem_call (ok__law_take T) m__law_take (hr.mono (by decide)) hgd (by rfl) T.g__law_take T.k__law_take T.b__law_take .nil Dfl.nil pass0 (pam_cons (pem_var (pv 0)) (pam_cons pem_int pam_nil)) rfl)) pam_nil)) rfl))))
theorem Txt.k__law_any_row (T : Txt K mg) : PySem.W.keepIn K (.ref T.a__law_any_row) = true := T.D__law_any_row.kp
theorem Txt.b__law_any_row (T : Txt K mg) : Binds K T.fd__law_any_row ["pen", "reads", "often", "size", "most"] [] := T.D__law_any_row.bindsN fun _ _ _ _ _ _ us hl => match us, hl with | [_, _, _, _, _], _ => rfl
theorem ok__law_any_row (T : Txt K mg) : FnG P w K mg base CX0 5 T.a__law_any_row T.fd__law_any_row ["pen", "reads", "often", "size", "most"] (spF ⟨K, w, mg⟩ 5 t__law_any_row) := by
  refine fun_ok T.D__law_any_row sc__law_any_row fun cdv A outer s H E hr hgd => ?_
  exact (pssm_cons (psm_set (i := 5) (PNm.cell (pnm_lst (pam_cons (pem_call (ok__law_any_reader T) m__law_any_reader (hr.mono (by decide)) hgd (by rfl) T.g__law_any_reader T.k__law_any_reader T.b__law_any_reader .nil Dfl.nil pass0 (pam_cons (pem_var (pv 0)) (pam_cons (pem_var (pv 1)) (pam_cons (pem_call (ok__law_more_signs T) m__law_more_signs_v2 (hr.mono (by decide)) hgd (by rfl) T.g__law_more_signs T.k__law_more_signs T.b__law_more_signs .nil Dfl.nil pass0 (pam_cons (pem_var (pv 0)) (pam_cons (pem_var (pv 1)) pam_nil)) rfl) (pam_cons (pem_var (pv 3)) (pam_cons (pem_var (pv 4)) pam_nil))))) rfl) pam_nil))) (fun _ hh => ps_set (i := 5) sc__law_any_row.nd rfl (by first | exact Or.inl rfl | exact Or.inr rfl) hh))
    (pssm_cons (psm_for PassesOwn.never rfl (pim_range1 (pam_cons (pem_call (ok__law_take T) m__law_take (hr.mono (by decide)) hgd (by rfl) T.g__law_take T.k__law_take T.b__law_take .nil Dfl.nil pass0 (pam_cons (pem_var (pv 0)) (pam_cons (pem_var (pv 2)) pam_nil)) rfl) pam_nil) fun _ h => pi_range1 (by rfl) T.f_range h) (pgm_name (i := 6) (pg_name (i := 6) sc__law_any_row.nd rfl (by first | exact Or.inl rfl | exact Or.inr rfl))) (pssm_cons (psm_set (i := 7) (pem_call (ok__law_more_signs T) m__law_more_signs_v2 (hr.mono (by decide)) hgd (by rfl) T.g__law_more_signs T.k__law_more_signs T.b__law_more_signs .nil Dfl.nil pass0 (pam_cons (pem_var (pv 0)) (pam_cons (pem_ix (pem_ix (pem_var (pv 5)) (pem_neg pem_int)) pem_int) pam_nil)) rfl) (fun _ hh => ps_set (i := 7) sc__law_any_row.nd rfl (by first | exact Or.inl rfl | exact Or.inr rfl) hh))
    (pssm_one (psm_expr (pem_append (pem_var (pv 5)) (pam_cons (pem_call (ok__law_any_reader T) m__law_any_reader (hr.mono (by decide)) hgd (by rfl) T.g__law_any_reader T.k__law_any_reader T.b__law_any_reader .nil Dfl.nil pass0 (pam_cons (pem_var (pv 0)) (pam_cons (pem_ix (pem_ix (pem_var (pv 5)) (pem_neg pem_int)) pem_int) (pam_cons (pem_var (pv 7)) (pam_cons (pem_var (pv 3)) (pam_cons (pem_var (pv 4)) pam_nil))))) rfl) pam_nil) fun _ _ h h2 => pe_bm PySem.F.plainAttrs_list PySem.F.slot_list_append PySem.F.type_list_append mt_append h h2)))))
    (pssm_one (psm_ret (pem_callB tupleM tupleC_mono (pam_cons (pem_var (pv 5)) pam_nil) fun _ h => pe_callTy call_tuple_of (by rfl) T.f_tuple (by decide +kernel) h)))))
theorem Txt.k__law_wide_web (T : Txt K mg) : PySem.W.keepIn K (.ref T.a__law_wide_web) = true := T.D__law_wide_web.kp
theorem Txt.b__law_wide_web (T : Txt K mg) : Binds K T.fd__law_wide_web ["pen", "rows", "often", "size", "most"] [] := T.D__law_wide_web.bindsN fun _ _ _ _ _ _ us hl => match us, hl with | [_, _, _, _, _], _ => rfl
theorem ok__law_wide_web (T : Txt K mg) : FnG P w K mg base CX0 6 T.a__law_wide_web T.fd__law_wide_web ["pen", "rows", "often", "size", "most"] (spF ⟨K, w, mg⟩ 5 t__law_wide_web) := by
  refine fun_ok T.D__law_wide_web sc__law_wide_web fun cdv A outer s H E hr hgd => ?_
  exact (pssm_cons (psm_set (i := 5) (pem_call (ok__law_some_signs T) m__law_some_signs_v2 (hr.mono (by decide)) hgd (by rfl) T.g__law_some_signs T.k__law_some_signs T.b__law_some_signs .nil Dfl.nil pass0 (pam_cons (pem_var (pv 0)) (pam_cons (pem_op op_addM addM addD_mono pem_int (pem_call (ok__law_take T) m__law_take (hr.mono (by decide)) hgd (by rfl) T.g__law_take T.k__law_take T.b__law_take .nil Dfl.nil pass0 (pam_cons (pem_var (pv 0)) (pam_cons pem_int pam_nil)) rfl)) pam_nil)) rfl) (fun _ hh => ps_set (i := 5) sc__law_wide_web.nd rfl (by first | exact Or.inl rfl | exact Or.inr rfl) hh))
    (pssm_one (psm_ret (pem_callB tupleM tupleC_mono (pam_cons (PNm.val (pnm_lc (own := [("k", 6)]) (sl := [6]) (g' := gName 6) rfl sc__law_wide_web.nd (pim_range1 (pam_cons (pem_op op_addM addM addD_mono pem_int (pem_call (ok__law_take T) m__law_take (hr.mono (by decide)) hgd (by rfl) T.g__law_take T.k__law_take T.b__law_take .nil Dfl.nil pass0 (pam_cons (pem_var (pv 0)) (pam_cons (pem_var (pv 1)) pam_nil)) rfl)) pam_nil) fun _ h => pi_range1 (by rfl) T.f_range h) (blkOk_by (by kernel_rfl)) (fun _ _ _ _ _ => (pgm_name (i := 6) (pg_name (i := 6) sc__law_wide_web.nd rfl (by first | exact Or.inl rfl | exact Or.inr rfl)))) (by decide) (fun _ _ _ _ _ => ptsm_nil) (fun _ _ _ _ _ => (pem_call (ok__law_any_row T) m__law_any_row (hr.mono (by decide)) hgd (by rfl) T.g__law_any_row T.k__law_any_row T.b__law_any_row .nil Dfl.nil pass0 (pam_cons (pem_var (pv 0)) (pam_cons (pem_var (pv 5)) (pam_cons (pem_var (pv 2)) (pam_cons (pem_var (pv 3)) (pam_cons (pem_var (pv 4)) pam_nil))))) rfl)))) pam_nil) fun _ h => pe_callTy call_tuple_of (by rfl) T.f_tuple (by decide +kernel) h))))
theorem Txt.k_is_text_of (T : Txt K mg) : PySem.W.keepIn K (.ref T.a_is_text_of) = true := T.D_is_text_of.kp
theorem Txt.b_is_text_of (T : Txt K mg) : Binds K T.fd_is_text_of ["thing", "signs", "most"] [] := T.D_is_text_of.bindsN fun _ _ _ _ _ _ us hl => match us, hl with | [_, _, _], _ => rfl
theorem ok_is_text_of (T : Txt K mg) : FnG P w K mg base CX0 1 T.a_is_text_of T.fd_is_text_of ["thing", "signs", "most"] (spF ⟨K, w, mg⟩ 3 t_is_text_of) := by
  refine fun_ok T.D_is_text_of sc_is_text_of fun cdv A outer s H E hr hgd => ?_
  exact (pssm_one (psm_ret (pem_and (pem_isi (t := "str") (by rfl) T.f_isinstance (by decide +kernel) (pem_var (pv 0)) (pe_bltn (by rfl) T.f_str (by decide +kernel) rfl)) (pem_and (pem_cmp op_leM ordM ordD_mono (pem_callB lenM lenC_mono (pam_cons (pem_var (pv 0)) pam_nil) fun _ h => pe_callB call_len (by rfl) T.f_len (by decide +kernel) h) (pem_var (pv 2)) (nomark _)) (pem_one (pem_callB foldM foldC_mono (pam_cons (PNm.val (pnm_lc (own := [("one", 3)]) (sl := [3]) (g' := gName 3) rfl sc_is_text_of.nd (pim_val (pem_var (pv 0))) (blkOk_by (by kernel_rfl)) (fun _ _ _ _ _ => (pgm_name (i := 3) (pg_name (i := 3) sc_is_text_of.nd rfl (by first | exact Or.inl rfl | exact Or.inr rfl)))) (by decide) (fun _ _ _ _ _ => ptsm_nil) (fun _ _ _ _ _ => (pem_cmp (op_inM (room65 hr)) inM inD_mono (pem_var (pv 3)) (pem_var (pv 1)) (by rfl))))) pam_nil) fun _ h => pe_callB (cr_all rfl) (by rfl) T.f_all (by decide +kernel) h))))))
theorem Txt.k_is_number (T : Txt K mg) : PySem.W.keepIn K (.ref T.a_is_number) = true := T.D_is_number.kp
theorem Txt.b_is_number (T : Txt K mg) : Binds K T.fd_is_number ["thing", "bound"] [] := T.D_is_number.bindsN fun _ _ _ _ _ _ us hl => match us, hl with | [_, _], _ => rfl
theorem ok_is_number (T : Txt K mg) : FnG P w K mg base CX0 1 T.a_is_number T.fd_is_number ["thing", "bound"] (spF ⟨K, w, mg⟩ 2 t_is_number) := by
  refine fun_ok T.D_is_number sc_is_number fun cdv A outer s H E hr hgd => ?_
  exact (pssm_one (psm_ret (pem_and (pem_isi (t := "int") (by rfl) T.f_isinstance (by decide +kernel) (pem_var (pv 0)) (pe_bltn (by rfl) T.f_int (by decide +kernel) rfl)) (pem_and (pem_not (pem_isi (t := "bool") (by rfl) T.f_isinstance (by decide +kernel) (pem_var (pv 0)) (pe_bltn (by rfl) T.f_bool (by decide +kernel) rfl))) (pem_one (pem_chain op_leM op_ltM ordM ordM ordD_mono ordD_mono pem_int (pem_var (pv 0)) (pem_var (pv 1))))))))
theorem Txt.k_is_way (T : Txt K mg) : PySem.W.keepIn K (.ref T.a_is_way) = true := T.D_is_way.kp
theorem Txt.b_is_way (T : Txt K mg) : Binds K T.fd_is_way ["thing", "many", "signs"] [] := T.D_is_way.bindsN fun _ _ _ _ _ _ us hl => match us, hl with | [_, _, _], _ => rfl
theorem ok_is_way (T : Txt K mg) : FnG P w K mg base CX0 2 T.a_is_way T.fd_is_way ["thing", "many", "signs"] (spF ⟨K, w, mg⟩ 3 t_is_way_v1) := by
  refine fun_ok T.D_is_way sc_is_way fun cdv A outer s H E hr hgd => ?_
  exact (pssm_cons (psm_if (PWm.ptm (pwm_or (ptm_not (ptm_val (pem_isi (t := "tuple") (by rfl) T.f_isinstance (by decide +kernel) (pem_var (pv 0)) (pe_bltn (by rfl) T.f_tuple (by decide +kernel) rfl)))) (pwm_or1 (ptm_cmp (op_neM hr.units) eqM eqD_mono (pem_callB lenM lenC_mono (pam_cons (pem_var (pv 0)) pam_nil) fun _ h => pe_callB call_len (by rfl) T.f_len (by decide +kernel) h) pem_int (nomark _))))) (pssm_one (psm_ret pem_bl)) pssm_nil)
    (pssm_one (psm_ret (pem_and (pem_call (ok_is_number T) m_is_number (hr.mono (by decide)) hgd (by rfl) T.g_is_number T.k_is_number T.b_is_number .nil Dfl.nil pass0 (pam_cons (pem_ix (pem_var (pv 0)) pem_int) (pam_cons (pem_var (pv 1)) pam_nil)) rfl) (pem_one (pem_call (ok_is_text_of T) m_is_text_of (hr.mono (by decide)) hgd (by rfl) T.g_is_text_of T.k_is_text_of T.b_is_text_of .nil Dfl.nil pass0 (pam_cons (pem_ix (pem_var (pv 0)) pem_int) (pam_cons (pem_var (pv 2)) (pam_cons (pem_globI2 (by rfl) T.c_MOST_WRITTEN) pam_nil))) rfl))))))
theorem Txt.k_is_state (T : Txt K mg) : PySem.W.keepIn K (.ref T.a_is_state) = true := T.D_is_state.kp
theorem Txt.b_is_state (T : Txt K mg) : Binds K T.fd_is_state ["thing", "many", "wide", "signs"] [] := T.D_is_state.bindsN fun _ _ _ _ _ _ us hl => match us, hl with | [_, _, _, _], _ => rfl
theorem ok_is_state (T : Txt K mg) : FnG P w K mg base CX0 3 T.a_is_state T.fd_is_state ["thing", "many", "wide", "signs"] (spF ⟨K, w, mg⟩ 4 t_is_state_v1) := by
  refine fun_ok T.D_is_state sc_is_state fun cdv A outer s H E hr hgd => ?_
  exact (pssm_cons (psm_if (PWm.ptm (pwm_or (ptm_not (ptm_val (pem_isi (t := "tuple") (by rfl) T.f_isinstance (by decide +kernel) (pem_var (pv 0)) (pe_bltn (by rfl) T.f_tuple (by decide +kernel) rfl)))) (pwm_or (ptm_cmp (op_neM hr.units) eqM eqD_mono (pem_callB lenM lenC_mono (pam_cons (pem_var (pv 0)) pam_nil) fun _ h => pe_callB call_len (by rfl) T.f_len (by decide +kernel) h) pem_int (nomark _)) (pwm_or (ptm_not (ptm_val (pem_isi (t := "tuple") (by rfl) T.f_isinstance (by decide +kernel) (pem_ix (pem_var (pv 0)) pem_int) (pe_bltn (by rfl) T.f_tuple (by decide +kernel) rfl)))) (pwm_or1 (ptm_cmp (op_neM hr.units) eqM eqD_mono (pem_callB lenM lenC_mono (pam_cons (pem_ix (pem_var (pv 0)) pem_int) pam_nil) fun _ h => pe_callB call_len (by rfl) T.f_len (by decide +kernel) h) (pem_var (pv 2)) (nomark _))))))) (pssm_one (psm_ret pem_bl)) pssm_nil)
    (pssm_one (psm_ret (pem_and (pem_callB foldM foldC_mono (pam_cons (PNm.val (pnm_lc (own := [("way", 4)]) (sl := [4]) (g' := gName 4) rfl sc_is_state.nd (pim_val (pem_ix (pem_var (pv 0)) pem_int)) (blkOk_by (by kernel_rfl)) (fun _ _ _ _ _ => (pgm_name (i := 4) (pg_name (i := 4) sc_is_state.nd rfl (by first | exact Or.inl rfl | exact Or.inr rfl)))) (by decide) (fun _ _ _ _ _ => ptsm_nil) (fun _ _ _ _ _ => (pem_call (ok_is_way T) m_is_way_v1 (hr.mono (by decide)) hgd (by rfl) T.g_is_way T.k_is_way T.b_is_way .nil Dfl.nil pass0 (pam_cons (pem_var (pv 4)) (pam_cons (pem_var (pv 1)) (pam_cons (pem_var (pv 3)) pam_nil))) rfl)))) pam_nil) fun _ h => pe_callB (cr_all rfl) (by rfl) T.f_all (by decide +kernel) h) (pem_one (pem_call (ok_is_text_of T) m_is_text_of (hr.mono (by decide)) hgd (by rfl) T.g_is_text_of T.k_is_text_of T.b_is_text_of .nil Dfl.nil pass0 (pam_cons (pem_ix (pem_var (pv 0)) pem_int) (pam_cons (pem_var (pv 3)) (pam_cons (pem_globI2 (by rfl) T.c_MOST_WRITTEN) pam_nil))) rfl))))))
theorem Txt.k_is_maker (T : Txt K mg) : PySem.W.keepIn K (.ref T.a_is_maker) = true := T.D_is_maker.kp
theorem Txt.b_is_maker (T : Txt K mg) : Binds K T.fd_is_maker ["web", "frame", "i", "thing"] [] := T.D_is_maker.bindsN fun _ _ _ _ _ _ us hl => match us, hl with | [_, _, _, _], _ => rfl
theorem ok_is_maker (T : Txt K mg) : FnG P w K mg base CX0 4 T.a_is_maker T.fd_is_maker ["web", "frame", "i", "thing"] (spF ⟨K, w, mg⟩ 4 t_is_maker) := by
  refine fun_ok T.D_is_maker sc_is_maker fun cdv A outer s H E hr hgd => ?_
  exact (pssm_cons (psm_asg (pem_tup (pam_cons (pem_ix (pem_ix (pem_ix (pem_var (pv 0)) pem_int) pem_int) pem_int) (pam_cons (pem_callB lenM lenC_mono (pam_cons (pem_ix (pem_ix (pem_ix (pem_ix (pem_var (pv 1)) pem_int) (pem_var (pv 2))) pem_int) pem_int) pam_nil) fun _ h => pe_callB call_len (by rfl) T.f_len (by decide +kernel) h) pam_nil))) (pgm_tup rfl (pgsm_cons (pgm_name (i := 5) (pg_name (i := 5) sc_is_maker.nd rfl (by first | exact Or.inl rfl | exact Or.inr rfl))) (pgsm_cons (pgm_name (i := 6) (pg_name (i := 6) sc_is_maker.nd rfl (by first | exact Or.inl rfl | exact Or.inr rfl))) pgsm_nil)) (gsCons_lenS strict_var (gsCons_lenS strict_var gsNil_len))))
    (pssm_cons (psm_if (PWm.ptm (pwm_or (ptm_not (ptm_val (pem_isi (t := "tuple") (by rfl) T.f_isinstance (by decide +kernel) (pem_var (pv 3)) (pe_bltn (by rfl) T.f_tuple (by decide +kernel) rfl)))) (pwm_or (ptm_cmp (op_neM hr.units) eqM eqD_mono (pem_callB lenM lenC_mono (pam_cons (pem_var (pv 3)) pam_nil) fun _ h => pe_callB call_len (by rfl) T.f_len (by decide +kernel) h) pem_int (nomark _)) (pwm_or1 (ptm_not (ptm_val (pem_call (ok_is_text_of T) m_is_text_of (hr.mono (by decide)) hgd (by rfl) T.g_is_text_of T.k_is_text_of T.b_is_text_of .nil Dfl.nil pass0 (pam_cons (pem_ix (pem_var (pv 3)) pem_int) (pam_cons (pem_var (pv 5)) (pam_cons (pem_globI2 (by rfl) T.c_MOST_WRITTEN) pam_nil))) rfl))))))) (pssm_one (psm_ret pem_bl)) pssm_nil)
    (pssm_cons (psm_set (i := 4) (pem_ix (pem_var (pv 3)) pem_int) (fun _ hh => ps_set (i := 4) sc_is_maker.nd rfl (by first | exact Or.inl rfl | exact Or.inr rfl) hh))
    (pssm_cons (psm_if (PWm.ptm (pwm_or (ptm_not (ptm_val (pem_isi (t := "tuple") (by rfl) T.f_isinstance (by decide +kernel) (pem_var (pv 4)) (pe_bltn (by rfl) T.f_tuple (by decide +kernel) rfl)))) (pwm_or1 (ptm_not (ptm_chain op_leM op_leM ordM ordM ordD_mono ordD_mono pem_int (pem_callB lenM lenC_mono (pam_cons (pem_var (pv 4)) pam_nil) fun _ h => pe_callB call_len (by rfl) T.f_len (by decide +kernel) h) (pem_globI2 (by rfl) T.c_MOST_STATES)))))) (pssm_one (psm_ret pem_bl)) pssm_nil)
    (pssm_one (psm_ret (pem_callB foldM foldC_mono (pam_cons (PNm.val (pnm_lc (own := [("state", 7)]) (sl := [7]) (g' := gName 7) rfl sc_is_maker.nd (pim_val (pem_var (pv 4))) (blkOk_by (by kernel_rfl)) (fun _ _ _ _ _ => (pgm_name (i := 7) (pg_name (i := 7) sc_is_maker.nd rfl (by first | exact Or.inl rfl | exact Or.inr rfl)))) (by decide) (fun _ _ _ _ _ => ptsm_nil) (fun _ _ _ _ _ => (pem_call (ok_is_state T) m_is_state_v1 (hr.mono (by decide)) hgd (by rfl) T.g_is_state T.k_is_state T.b_is_state .nil Dfl.nil pass0 (pam_cons (pem_var (pv 7)) (pam_cons (pem_callB lenM lenC_mono (pam_cons (pem_var (pv 4)) pam_nil) fun _ h => pe_callB call_len (by rfl) T.f_len (by decide +kernel) h) (pam_cons (pem_var (pv 6)) (pam_cons (pem_var (pv 5)) pam_nil)))) rfl)))) pam_nil) fun _ h => pe_callB (cr_all rfl) (by rfl) T.f_all (by decide +kernel) h)))))))
theorem Txt.k_written (T : Txt K mg) : PySem.W.keepIn K (.ref T.a_written) = true := T.D_written.kp
theorem Txt.b_written (T : Txt K mg) : Binds K T.fd_written ["maker", "lot", "word"] [] := T.D_written.bindsN fun _ _ _ _ _ _ us hl => match us, hl with | [_, _, _], _ => rfl
theorem ok_written (T : Txt K mg) : FnG P w K mg base CX0 1 T.a_written T.fd_written ["maker", "lot", "word"] (spF ⟨K, w, mg⟩ 3 t_written) := by
  refine fun_ok T.D_written sc_written fun cdv A outer s H E hr hgd => ?_
  exact (pssm_cons (psm_asg (pem_var (pv 0)) (pgm_tup rfl (pgsm_cons (pgm_name (i := 4) (pg_name (i := 4) sc_written.nd rfl (by first | exact Or.inl rfl | exact Or.inr rfl))) (pgsm_cons (pgm_name (i := 5) (pg_name (i := 5) sc_written.nd rfl (by first | exact Or.inl rfl | exact Or.inr rfl))) pgsm_nil)) (gsCons_lenS strict_var (gsCons_lenS strict_var gsNil_len))))
    (pssm_cons (psm_par (i := 6) (j := 7) (pam_cons (pem_var (pv 4)) (pam_cons pem_int pam_nil)) (fun _ hh => ps_par (i := 6) (j := 7) rfl sc_written.nd rfl rfl (by decide) rfl rfl hh (by rfl)))
    (pssm_cons (psm_for PassesOwn.never rfl (pim_val (pem_var (pv 2))) (pgm_name (i := 3) (pg_name (i := 3) sc_written.nd rfl (by first | exact Or.inl rfl | exact Or.inr rfl))) (pssm_cons (psm_asg (pem_ix (pem_ix (pem_ix (pem_var (pv 5)) (pem_var (pv 7))) pem_int) (pem_sindex (pem_ix (pem_var (pv 1)) pem_int) (pem_var (pv 3)) fun _ _ h h2 => pe_m1 PySem.F.slot_str_index PySem.F.type_str_index mt_sindex h h2)) (pgm_tup rfl (pgsm_cons (pgm_name (i := 7) (pg_name (i := 7) sc_written.nd rfl (by first | exact Or.inl rfl | exact Or.inr rfl))) (pgsm_cons (pgm_name (i := 8) (pg_name (i := 8) sc_written.nd rfl (by first | exact Or.inl rfl | exact Or.inr rfl))) pgsm_nil)) (gsCons_lenS strict_var (gsCons_lenS strict_var gsNil_len))))
    (pssm_one (psm_aug (i := 6) iaddM iaddD_mono (pem_var (pv 8)) (fun _ hh => ps_aug (i := 6) sc_written.nd rfl (by first | exact Or.inl rfl | exact Or.inr rfl) hh ip_addM)))))
    (pssm_one (psm_ret (pem_op op_addM addM addD_mono (pem_var (pv 6)) (pem_ix (pem_ix (pem_var (pv 5)) (pem_var (pv 7))) pem_int)))))))
theorem ok_law (T : Txt K mg) : FnG P w K mg base CX0 45 T.a_law T.fd_law ["script"] (spF ⟨K, w, mg⟩ 1 t_law_v15) := by
  refine fun_ok T.D_law sc_law fun cdv A outer s H E hr hgd => ?_
  exact (pssm_cons (psm_set (i := 1) (pem_call (ok__law_open T) m__law_open (hr.mono (by decide)) hgd (by rfl) T.g__law_open T.k__law_open T.b__law_open .nil Dfl.nil pass0 (pam_cons (pem_var (pv 0)) pam_nil) rfl) (fun _ hh => ps_set (i := 1) sc_law.nd rfl (by first | exact Or.inl rfl | exact Or.inr rfl) hh))
    (pssm_cons (psm_for PassesOwn.never rfl (pim_range1 (pam_cons pem_int pam_nil) fun _ h => pi_range1 (by rfl) T.f_range h) (pgm_name (i := 2) (pg_name (i := 2) sc_law.nd rfl (by first | exact Or.inl rfl | exact Or.inr rfl))) (pssm_cons (psm_set (i := 3) (pem_call (ok__law_wide_web T) m__law_wide_web (hr.mono (by decide)) hgd (by rfl) T.g__law_wide_web T.k__law_wide_web T.b__law_wide_web .nil Dfl.nil pass0 (pam_cons (pem_var (pv 1)) (pam_cons pem_int (pam_cons pem_int (pam_cons pem_int (pam_cons pem_int pam_nil))))) rfl) (fun _ hh => ps_set (i := 3) sc_law.nd rfl (by first | exact Or.inl rfl | exact Or.inr rfl) hh))
    (pssm_cons (psm_set (i := 4) (pem_call (ok__law_any_frame T) m__law_any_frame (hr.mono (by decide)) hgd (by rfl) T.g__law_any_frame T.k__law_any_frame T.b__law_any_frame .nil Dfl.nil pass0 (pam_cons (pem_var (pv 1)) (pam_cons (pem_var (pv 3)) (pam_cons pem_int pam_nil))) rfl) (fun _ hh => ps_set (i := 4) sc_law.nd rfl (by first | exact Or.inl rfl | exact Or.inr rfl) hh))
    (pssm_one (psm_for PassesOwn.never rfl (pim_en (pam_cons (pem_ix (pem_var (pv 4)) pem_int) pam_nil) fun _ h => pi_en (by rfl) T.f_enumerate h) (pgm_tup rfl (pgsm_cons (pgm_name (i := 5) (pg_name (i := 5) sc_law.nd rfl (by first | exact Or.inl rfl | exact Or.inr rfl))) (pgsm_cons (pgm_name (i := 6) (pg_name (i := 6) sc_law.nd rfl (by first | exact Or.inl rfl | exact Or.inr rfl))) pgsm_nil)) (gsCons_lenS strict_var (gsCons_lenS strict_var gsNil_len))) (pssm_cons (psm_asg (pem_tup (pam_cons (pem_ix (pem_ix (pem_ix (pem_var (pv 3)) pem_int) pem_int) pem_int) (pam_cons (pem_ix (pem_var (pv 6)) pem_int) pam_nil))) (pgm_tup rfl (pgsm_cons (pgm_name (i := 11) (pg_name (i := 11) sc_law.nd rfl (by first | exact Or.inl rfl | exact Or.inr rfl))) (pgsm_cons (pgm_name (i := 12) (pg_name (i := 12) sc_law.nd rfl (by first | exact Or.inl rfl | exact Or.inr rfl))) pgsm_nil)) (gsCons_lenS strict_var (gsCons_lenS strict_var gsNil_len))))
    (pssm_cons (psm_set (i := 7) (pem_call (ok__law_any_maker T) m__law_any_maker (hr.mono (by decide)) hgd (by rfl) T.g__law_any_maker T.k__law_any_maker T.b__law_any_maker .nil Dfl.nil pass0 (pam_cons (pem_var (pv 1)) (pam_cons (pem_var (pv 11)) (pam_cons (pem_var (pv 12)) (pam_cons pem_int pam_nil)))) rfl) (fun _ hh => ps_set (i := 7) sc_law.nd rfl (by first | exact Or.inl rfl | exact Or.inr rfl) hh))
    (pssm_cons (psm_set (i := 8) (PNm.cell (pnm_add (PNm.val (pnm_lst (pam_cons (pem_var (pv 7)) pam_nil))) (PNm.val (pnm_lc (own := [("again", 10)]) (sl := [10]) (g' := gName 10) rfl sc_law.nd (pim_range1 (pam_cons pem_int pam_nil) fun _ h => pi_range1 (by rfl) T.f_range h) (blkOk_by (by kernel_rfl)) (fun _ _ _ _ _ => (pgm_name (i := 10) (pg_name (i := 10) sc_law.nd rfl (by first | exact Or.inl rfl | exact Or.inr rfl)))) (by decide) (fun _ _ _ _ _ => ptsm_nil) (fun _ _ _ _ _ => (pem_call (ok__law_bent T 40) (m__law_bent_v1 40) (hr.mono (by decide)) hgd (by rfl) T.g__law_bent T.k__law_bent T.b__law_bent .nil Dfl.nil pass0 (pam_cons (pem_var (pv 1)) (pam_cons (pem_var (pv 11)) (pam_cons (pem_var (pv 7)) pam_nil))) rfl)))))) (fun _ hh => ps_set (i := 8) sc_law.nd rfl (by first | exact Or.inl rfl | exact Or.inr rfl) hh))
    (pssm_cons (psm_expr (pem_append (pem_var (pv 8)) (pam_cons (pem_call (ok__law_bent T 40) (m__law_bent_v1 40) (hr.mono (by decide)) hgd (by rfl) T.g__law_bent T.k__law_bent T.b__law_bent .nil Dfl.nil pass0 (pam_cons (pem_var (pv 1)) (pam_cons (pem_var (pv 11)) (pam_cons (pem_ix (pem_var (pv 8)) (pem_neg pem_int)) pam_nil))) rfl) pam_nil) fun _ _ h h2 => pe_bm PySem.F.plainAttrs_list PySem.F.slot_list_append PySem.F.type_list_append mt_append h h2))
    (pssm_cons (psm_for PassesOwn.never rfl (pim_val (pem_frz (pv 8))) (pgm_name (i := 9) (pg_name (i := 9) sc_law.nd rfl (by first | exact Or.inl rfl | exact Or.inr rfl))) (pssm_cons (psm_set (i := 13) (pem_callB reprXM reprX_mono (pam_cons (PNm.val (pnm_lst (pam_cons (pem_var (pv 3)) (pam_cons (pem_var (pv 4)) (pam_cons (pem_var (pv 9)) pam_nil))))) pam_nil) fun _ h => pe_callB (call_reprX hgd hr.units) (by rfl) T.f_repr (by decide +kernel) h) (fun _ hh => ps_set (i := 13) sc_law.nd rfl (by first | exact Or.inl rfl | exact Or.inr rfl) hh))
    (pssm_cons (psm_par (i := 15) (j := 16) (pam_cons (pem_call (ok_is_maker T) m_is_maker (hr.mono (by decide)) hgd (by rfl) T.g_is_maker T.k_is_maker T.b_is_maker .nil Dfl.nil pass0 (pam_cons (pem_var (pv 3)) (pam_cons (pem_var (pv 4)) (pam_cons (pem_var (pv 5)) (pam_cons (pem_var (pv 9)) pam_nil)))) rfl) (pam_cons (pem_call (ok__law_is_maker T) m__law_is_maker (hr.mono (by decide)) hgd (by rfl) T.g__law_is_maker T.k__law_is_maker T.b__law_is_maker .nil Dfl.nil pass0 (pam_cons (pem_var (pv 11)) (pam_cons (pem_var (pv 12)) (pam_cons (pem_var (pv 9)) pam_nil))) rfl) pam_nil)) (fun _ hh => ps_par (i := 15) (j := 16) rfl sc_law.nd rfl rfl (by decide) rfl rfl hh (by rfl)))
    (pssm_one (psm_if (PWm.ptm (pwm_or (ptm_not (ptm_val (pem_call (ok__law_same T 40) (m__law_same 40) (hr.mono (by decide)) hgd (by rfl) T.g__law_same T.k__law_same T.b__law_same .nil Dfl.nil pass0 (pam_cons (pem_var (pv 15)) (pam_cons (pem_var (pv 16)) pam_nil)) rfl))) (pwm_or1 (ptm_cmp (op_neM hr.units) eqM eqD_mono (pem_callB reprXM reprX_mono (pam_cons (PNm.val (pnm_lst (pam_cons (pem_var (pv 3)) (pam_cons (pem_var (pv 4)) (pam_cons (pem_var (pv 9)) pam_nil))))) pam_nil) fun _ h => pe_callB (call_reprX hgd hr.units) (by rfl) T.f_repr (by decide +kernel) h) (pem_var (pv 13)) (nomark _))))) (pssm_one (psm_ret pem_bl)) pssm_nil)))))
    (pssm_one (psm_for PassesOwn.never rfl (pim_range1 (pam_cons pem_int pam_nil) fun _ h => pi_range1 (by rfl) T.f_range h) (pgm_name (i := 10) (pg_name (i := 10) sc_law.nd rfl (by first | exact Or.inl rfl | exact Or.inr rfl))) (pssm_cons (psm_set (i := 14) (pem_call (ok__law_some_text T) m__law_some_text (hr.mono (by decide)) hgd (by rfl) T.g__law_some_text T.k__law_some_text T.b__law_some_text .nil Dfl.nil pass0 (pam_cons (pem_var (pv 1)) (pam_cons (pem_ix (pem_var (pv 12)) pem_int) (pam_cons pem_int pam_nil))) rfl) (fun _ hh => ps_set (i := 14) sc_law.nd rfl (by first | exact Or.inl rfl | exact Or.inr rfl) hh))
    (pssm_one (psm_if (ptm_not (ptm_val (pem_call (ok__law_same T 40) (m__law_same 40) (hr.mono (by decide)) hgd (by rfl) T.g__law_same T.k__law_same T.b__law_same .nil Dfl.nil pass0 (pam_cons (pem_call (ok_written T) m_written (hr.mono (by decide)) hgd (by rfl) T.g_written T.k_written T.b_written .nil Dfl.nil pass0 (pam_cons (pem_var (pv 7)) (pam_cons (pem_var (pv 12)) (pam_cons (pem_var (pv 14)) pam_nil))) rfl) (pam_cons (pem_call (ok__law_due T) m__law_due_v1 (hr.mono (by decide)) hgd (by rfl) T.g__law_due T.k__law_due T.b__law_due .nil Dfl.nil pass0 (pam_cons (pem_var (pv 7)) (pam_cons (pem_var (pv 12)) (pam_cons (pem_var (pv 14)) pam_nil))) rfl) pam_nil)) rfl))) (pssm_one (psm_ret pem_bl)) pssm_nil)))))))))))))))
    (pssm_one (psm_ret pem_bl))))
end
/-! ### the head -/
def dd__law_has_word : He.DefD := ⟨("_law_has_word", none), "_law_has_word", "_law_has_word", defArgs s__law_has_word, defBody s__law_has_word, defScope s__law_has_word, [], []⟩
def dd__law_spread : He.DefD := ⟨("_law_spread", none), "_law_spread", "_law_spread", defArgs s__law_spread, defBody s__law_spread, defScope s__law_spread, [], []⟩
def dd__law_take : He.DefD := ⟨("_law_take", none), "_law_take", "_law_take", defArgs s__law_take, defBody s__law_take, defScope s__law_take, [], []⟩
def dd__law_any_lot : He.DefD := ⟨("_law_any_lot", none), "_law_any_lot", "_law_any_lot", defArgs s__law_any_lot, defBody s__law_any_lot, defScope s__law_any_lot, [], []⟩
def dd__law_read_on : He.DefD := ⟨("_law_read_on", none), "_law_read_on", "_law_read_on", defArgs s__law_read_on, defBody s__law_read_on, defScope s__law_read_on, [], []⟩
def dd__law_row_end : He.DefD := ⟨("_law_row_end", none), "_law_row_end", "_law_row_end", defArgs s__law_row_end, defBody s__law_row_end, defScope s__law_row_end, [], []⟩
def dd__law_row_on : He.DefD := ⟨("_law_row_on", none), "_law_row_on", "_law_row_on", defArgs s__law_row_on, defBody s__law_row_on, defScope s__law_row_on, [], []⟩
def dd__law_some_text : He.DefD := ⟨("_law_some_text", none), "_law_some_text", "_law_some_text", defArgs s__law_some_text, defBody s__law_some_text, defScope s__law_some_text, [], []⟩
def dd__law_any_frame : He.DefD := ⟨("_law_any_frame", none), "_law_any_frame", "_law_any_frame", defArgs s__law_any_frame, defBody s__law_any_frame, defScope s__law_any_frame, [], []⟩
def dd__law_any_maker : He.DefD := ⟨("_law_any_maker", none), "_law_any_maker", "_law_any_maker", defArgs s__law_any_maker, defBody s__law_any_maker, defScope s__law_any_maker, [], []⟩
def dd__law_one_of : He.DefD := ⟨("_law_one_of", none), "_law_one_of", "_law_one_of", defArgs s__law_one_of, defBody s__law_one_of, defScope s__law_one_of, [], []⟩
def dd__law_bent : He.DefD := ⟨("_law_bent", none), "_law_bent", "_law_bent", defArgs s__law_bent, defBody s__law_bent, defScope s__law_bent, [], []⟩
def dd__law_due : He.DefD := ⟨("_law_due", none), "_law_due", "_law_due", defArgs s__law_due, defBody s__law_due, defScope s__law_due, [], []⟩
def dd__law_is_text : He.DefD := ⟨("_law_is_text", none), "_law_is_text", "_law_is_text", defArgs s__law_is_text, defBody s__law_is_text, defScope s__law_is_text, [], []⟩
def dd__law_is_state : He.DefD := ⟨("_law_is_state", none), "_law_is_state", "_law_is_state", defArgs s__law_is_state, defBody s__law_is_state, defScope s__law_is_state, [], []⟩
def dd__law_is_maker : He.DefD := ⟨("_law_is_maker", none), "_law_is_maker", "_law_is_maker", defArgs s__law_is_maker, defBody s__law_is_maker, defScope s__law_is_maker, [], []⟩
def dd__law_open : He.DefD := ⟨("_law_open", none), "_law_open", "_law_open", defArgs s__law_open, defBody s__law_open, defScope s__law_open, [], []⟩
def dd__law_same : He.DefD := ⟨("_law_same", none), "_law_same", "_law_same", defArgs s__law_same, defBody s__law_same, defScope s__law_same, [], []⟩
def dd__law_any_reader : He.DefD := ⟨("_law_any_reader", none), "_law_any_reader", "_law_any_reader", defArgs s__law_any_reader, defBody s__law_any_reader, defScope s__law_any_reader, [], []⟩
def dd__law_some_signs : He.DefD := ⟨("_law_some_signs", none), "_law_some_signs", "_law_some_signs", defArgs s__law_some_signs, defBody s__law_some_signs, defScope s__law_some_signs, [], []⟩
def dd__law_more_signs : He.DefD := ⟨("_law_more_signs", none), "_law_more_signs", "_law_more_signs", defArgs s__law_more_signs, defBody s__law_more_signs, defScope s__law_more_signs, [], []⟩
def dd__law_any_row : He.DefD := ⟨("_law_any_row", none), "_law_any_row", "_law_any_row", defArgs s__law_any_row, defBody s__law_any_row, defScope s__law_any_row, [], []⟩
def dd__law_wide_web : He.DefD := ⟨("_law_wide_web", none), "_law_wide_web", "_law_wide_web", defArgs s__law_wide_web, defBody s__law_wide_web, defScope s__law_wide_web, [], []⟩
def dd_is_text_of : He.DefD := ⟨("is_text_of", none), "is_text_of", "is_text_of", defArgs s_is_text_of, defBody s_is_text_of, defScope s_is_text_of, [], []⟩
def dd_is_number : He.DefD := ⟨("is_number", none), "is_number", "is_number", defArgs s_is_number, defBody s_is_number, defScope s_is_number, [], []⟩
def dd_is_way : He.DefD := ⟨("is_way", none), "is_way", "is_way", defArgs s_is_way, defBody s_is_way, defScope s_is_way, [], []⟩
def dd_is_state : He.DefD := ⟨("is_state", none), "is_state", "is_state", defArgs s_is_state, defBody s_is_state, defScope s_is_state, [], []⟩
def dd_is_maker : He.DefD := ⟨("is_maker", none), "is_maker", "is_maker", defArgs s_is_maker, defBody s_is_maker, defScope s_is_maker, [], []⟩
def dd_written : He.DefD := ⟨("written", none), "written", "written", defArgs s_written, defBody s_written, defScope s_written, [], []⟩
def dd_law : He.DefD := ⟨("law", none), "law", "law", defArgs s_law, defBody s_law, defScope s_law, [], []⟩
def fnl : List He.DefD := [dd__law_has_word, dd__law_spread, dd__law_take, dd__law_any_lot, dd__law_read_on, dd__law_row_end, dd__law_row_on, dd__law_some_text, dd__law_any_frame, dd__law_any_maker, dd__law_one_of, dd__law_bent, dd__law_due, dd__law_is_text, dd__law_is_state, dd__law_is_maker, dd__law_open, dd__law_same, dd__law_any_reader, dd__law_some_signs, dd__law_more_signs, dd__law_any_row, dd__law_wide_web, dd_is_text_of, dd_is_number, dd_is_way, dd_is_state, dd_is_maker, dd_written, dd_law]
def fal : List He.Fa := [.glo "_law_has_word", .glo "_law_spread", .glo "_law_take", .glo "_law_any_lot", .glo "_law_read_on", .glo "_law_row_end", .glo "_law_row_on", .glo "_law_some_text", .glo "_law_any_frame", .glo "_law_any_maker", .glo "_law_one_of", .glo "_law_bent", .glo "_law_due", .glo "_law_is_text", .glo "_law_is_state", .glo "_law_is_maker", .glo "_law_open", .glo "_law_same", .glo "_law_any_reader", .glo "_law_some_signs", .glo "_law_more_signs", .glo "_law_any_row", .glo "_law_wide_web", .glo "is_text_of", .glo "is_number", .glo "is_way", .glo "is_state", .glo "is_maker", .glo "written", .glo "law", .free "all", .free "bool", .free "enumerate", .free "int", .free "isinstance", .free "len", .free "list", .free "min", .free "range", .free "repr", .free "set", .free "sorted", .free "str", .free "tuple", .free "zip", .int "MOST_STATES" 6, .int "MOST_WRITTEN" 4]
abbrev rowR : PySem.W.OpenRow := PySem.W.OpenLaw.row PySem.Challenge.rw_foeholes_k50_makers_known
abbrev hookR : PySem.W.Hook := hookS 4 fal fnl
def obR (s : PySem.W.SharedT) : Bool × He.AlD := obsSG 4 fal fnl (HandSHeadRun.getT s)
theorem obR_eq (s : PySem.W.SharedT) : obR s = hookR.obs s.abs := obsSG_eq (HandSHeadRun.getT_eq s)
def loose0 : List Str := ["is_text_of", "is_number", "MOST_STATES", "MOST_WRITTEN", "is_way", "is_state", "is_maker", "written", "_law_open", "_law_spread", "_law_take", "_law_same", "_law_some_signs", "_law_some_text", "_law_any_reader", "_law_any_row", "_law_more_signs", "_law_any_lot", "_law_has_word", "_law_read_on"]
def loose1 : List Str := ["_law_row_on", "_law_row_end", "_law_any_frame", "_law_one_of", "_law_wide_web", "_law_any_maker", "_law_is_text", "_law_is_state", "_law_is_maker", "_law_bent", "_law_due"]
def looseR : List Str := loose0 ++ loose1
theorem runR (w : World) : HandSHeadRun.RunEq rowR (PySem.W.view rowR.prog [34]) hookR obR 2300 looseR w := by
  intro os
  kernel_rfl
theorem facts {K : PySem.W.Frag} {h : Heap} {mg : Str → Option Value} {f : Addr} (X : K.In h) (G : h.Ns mainGlobals mg) (hfa : mg ("law" : Str) = some (.ref f)) (c : He.SaysD fal fnl K) : ∃ T : Txt K mg, T.a_law = f := by
  obtain ⟨fd__law_has_word, D__law_has_word⟩ := c.def_ 0 (d := dd__law_has_word) rfl
  obtain ⟨fd__law_spread, D__law_spread⟩ := c.def_ 1 (d := dd__law_spread) rfl
  obtain ⟨fd__law_take, D__law_take⟩ := c.def_ 2 (d := dd__law_take) rfl
  obtain ⟨fd__law_any_lot, D__law_any_lot⟩ := c.def_ 3 (d := dd__law_any_lot) rfl
  obtain ⟨fd__law_read_on, D__law_read_on⟩ := c.def_ 4 (d := dd__law_read_on) rfl
  obtain ⟨fd__law_row_end, D__law_row_end⟩ := c.def_ 5 (d := dd__law_row_end) rfl
  obtain ⟨fd__law_row_on, D__law_row_on⟩ := c.def_ 6 (d := dd__law_row_on) rfl
  obtain ⟨fd__law_some_text, D__law_some_text⟩ := c.def_ 7 (d := dd__law_some_text) rfl
  obtain ⟨fd__law_any_frame, D__law_any_frame⟩ := c.def_ 8 (d := dd__law_any_frame) rfl
  obtain ⟨fd__law_any_maker, D__law_any_maker⟩ := c.def_ 9 (d := dd__law_any_maker) rfl
  obtain ⟨fd__law_one_of, D__law_one_of⟩ := c.def_ 10 (d := dd__law_one_of) rfl
  obtain ⟨fd__law_bent, D__law_bent⟩ := c.def_ 11 (d := dd__law_bent) rfl
  obtain ⟨fd__law_due, D__law_due⟩ := c.def_ 12 (d := dd__law_due) rfl
  obtain ⟨fd__law_is_text, D__law_is_text⟩ := c.def_ 13 (d := dd__law_is_text) rfl
  obtain ⟨fd__law_is_state, D__law_is_state⟩ := c.def_ 14 (d := dd__law_is_state) rfl
  obtain ⟨fd__law_is_maker, D__law_is_maker⟩ := c.def_ 15 (d := dd__law_is_maker) rfl
  obtain ⟨fd__law_open, D__law_open⟩ := c.def_ 16 (d := dd__law_open) rfl
  obtain ⟨fd__law_same, D__law_same⟩ := c.def_ 17 (d := dd__law_same) rfl
  obtain ⟨fd__law_any_reader, D__law_any_reader⟩ := c.def_ 18 (d := dd__law_any_reader) rfl
  obtain ⟨fd__law_some_signs, D__law_some_signs⟩ := c.def_ 19 (d := dd__law_some_signs) rfl
  obtain ⟨fd__law_more_signs, D__law_more_signs⟩ := c.def_ 20 (d := dd__law_more_signs) rfl
  obtain ⟨fd__law_any_row, D__law_any_row⟩ := c.def_ 21 (d := dd__law_any_row) rfl
  obtain ⟨fd__law_wide_web, D__law_wide_web⟩ := c.def_ 22 (d := dd__law_wide_web) rfl
  obtain ⟨fd_is_text_of, D_is_text_of⟩ := c.def_ 23 (d := dd_is_text_of) rfl
  obtain ⟨fd_is_number, D_is_number⟩ := c.def_ 24 (d := dd_is_number) rfl
  obtain ⟨fd_is_way, D_is_way⟩ := c.def_ 25 (d := dd_is_way) rfl
  obtain ⟨fd_is_state, D_is_state⟩ := c.def_ 26 (d := dd_is_state) rfl
  obtain ⟨fd_is_maker, D_is_maker⟩ := c.def_ 27 (d := dd_is_maker) rfl
  obtain ⟨fd_written, D_written⟩ := c.def_ 28 (d := dd_written) rfl
  obtain ⟨fd_law, D_law⟩ := c.def_ 29 (d := dd_law) rfl
  have e := hfa.symm.trans (He.glo_ok X G (c.fact 29 (f := .glo "law") rfl))
  cases e
  exact ⟨{ a__law_has_word := _, fd__law_has_word := fd__law_has_word, D__law_has_word := D__law_has_word, g__law_has_word := He.glo_ok X G (c.fact 0 (f := .glo "_law_has_word") rfl), a__law_spread := _, fd__law_spread := fd__law_spread, D__law_spread := D__law_spread, g__law_spread := He.glo_ok X G (c.fact 1 (f := .glo "_law_spread") rfl), a__law_take := _, fd__law_take := fd__law_take, D__law_take := D__law_take, g__law_take := He.glo_ok X G (c.fact 2 (f := .glo "_law_take") rfl), a__law_any_lot := _, fd__law_any_lot := fd__law_any_lot, D__law_any_lot := D__law_any_lot, g__law_any_lot := He.glo_ok X G (c.fact 3 (f := .glo "_law_any_lot") rfl), a__law_read_on := _, fd__law_read_on := fd__law_read_on, D__law_read_on := D__law_read_on, g__law_read_on := He.glo_ok X G (c.fact 4 (f := .glo "_law_read_on") rfl), a__law_row_end := _, fd__law_row_end := fd__law_row_end, D__law_row_end := D__law_row_end, g__law_row_end := He.glo_ok X G (c.fact 5 (f := .glo "_law_row_end") rfl), a__law_row_on := _, fd__law_row_on := fd__law_row_on, D__law_row_on := D__law_row_on, g__law_row_on := He.glo_ok X G (c.fact 6 (f := .glo "_law_row_on") rfl), a__law_some_text := _, fd__law_some_text := fd__law_some_text, D__law_some_text := D__law_some_text, g__law_some_text := He.glo_ok X G (c.fact 7 (f := .glo "_law_some_text") rfl), a__law_any_frame := _, fd__law_any_frame := fd__law_any_frame, D__law_any_frame := D__law_any_frame, g__law_any_frame := He.glo_ok X G (c.fact 8 (f := .glo "_law_any_frame") rfl), a__law_any_maker := _, fd__law_any_maker := fd__law_any_maker, D__law_any_maker := D__law_any_maker, g__law_any_maker := He.glo_ok X G (c.fact 9 (f := .glo "_law_any_maker") rfl), a__law_one_of := _, fd__law_one_of := fd__law_one_of, D__law_one_of := D__law_one_of, g__law_one_of := He.glo_ok X G (c.fact 10 (f := .glo "_law_one_of") rfl), a__law_bent := _, fd__law_bent := fd__law_bent, D__law_bent := D__law_bent, g__law_bent := He.glo_ok X G (c.fact 11 (f := .glo "_law_bent") rfl), a__law_due := _, fd__law_due := fd__law_due, D__law_due := D__law_due, g__law_due := He.glo_ok X G (c.fact 12 (f := .glo "_law_due") rfl), a__law_is_text := _, fd__law_is_text := fd__law_is_text, D__law_is_text := D__law_is_text, g__law_is_text := He.glo_ok X G (c.fact 13 (f := .glo "_law_is_text") rfl), a__law_is_state := _, fd__law_is_state := fd__law_is_state, D__law_is_state := D__law_is_state, g__law_is_state := He.glo_ok X G (c.fact 14 (f := .glo "_law_is_state") rfl), a__law_is_maker := _, fd__law_is_maker := fd__law_is_maker, D__law_is_maker := D__law_is_maker, g__law_is_maker := He.glo_ok X G (c.fact 15 (f := .glo "_law_is_maker") rfl), a__law_open := _, fd__law_open := fd__law_open, D__law_open := D__law_open, g__law_open := He.glo_ok X G (c.fact 16 (f := .glo "_law_open") rfl), a__law_same := _, fd__law_same := fd__law_same, D__law_same := D__law_same, g__law_same := He.glo_ok X G (c.fact 17 (f := .glo "_law_same") rfl), a__law_any_reader := _, fd__law_any_reader := fd__law_any_reader, D__law_any_reader := D__law_any_reader, g__law_any_reader := He.glo_ok X G (c.fact 18 (f := .glo "_law_any_reader") rfl), a__law_some_signs := _, fd__law_some_signs := fd__law_some_signs, D__law_some_signs := D__law_some_signs, g__law_some_signs := He.glo_ok X G (c.fact 19 (f := .glo "_law_some_signs") rfl), a__law_more_signs := _, fd__law_more_signs := fd__law_more_signs, D__law_more_signs := D__law_more_signs, g__law_more_signs := He.glo_ok X G (c.fact 20 (f := .glo "_law_more_signs") rfl), a__law_any_row := _, fd__law_any_row := fd__law_any_row, D__law_any_row := D__law_any_row, g__law_any_row := He.glo_ok X G (c.fact 21 (f := .glo "_law_any_row") rfl), a__law_wide_web := _, fd__law_wide_web := fd__law_wide_web, D__law_wide_web := D__law_wide_web, g__law_wide_web := He.glo_ok X G (c.fact 22 (f := .glo "_law_wide_web") rfl), a_is_text_of := _, fd_is_text_of := fd_is_text_of, D_is_text_of := D_is_text_of, g_is_text_of := He.glo_ok X G (c.fact 23 (f := .glo "is_text_of") rfl), a_is_number := _, fd_is_number := fd_is_number, D_is_number := D_is_number, g_is_number := He.glo_ok X G (c.fact 24 (f := .glo "is_number") rfl), a_is_way := _, fd_is_way := fd_is_way, D_is_way := D_is_way, g_is_way := He.glo_ok X G (c.fact 25 (f := .glo "is_way") rfl), a_is_state := _, fd_is_state := fd_is_state, D_is_state := D_is_state, g_is_state := He.glo_ok X G (c.fact 26 (f := .glo "is_state") rfl), a_is_maker := _, fd_is_maker := fd_is_maker, D_is_maker := D_is_maker, g_is_maker := He.glo_ok X G (c.fact 27 (f := .glo "is_maker") rfl), a_written := _, fd_written := fd_written, D_written := D_written, g_written := He.glo_ok X G (c.fact 28 (f := .glo "written") rfl), a_law := _, fd_law := fd_law, D_law := D_law, g_law := He.glo_ok X G (c.fact 29 (f := .glo "law") rfl), f_all := He.free_ok X G (c.fact 30 (f := .free "all") rfl), f_bool := He.free_ok X G (c.fact 31 (f := .free "bool") rfl), f_enumerate := He.free_ok X G (c.fact 32 (f := .free "enumerate") rfl), f_int := He.free_ok X G (c.fact 33 (f := .free "int") rfl), f_isinstance := He.free_ok X G (c.fact 34 (f := .free "isinstance") rfl), f_len := He.free_ok X G (c.fact 35 (f := .free "len") rfl), f_list := He.free_ok X G (c.fact 36 (f := .free "list") rfl), f_min := He.free_ok X G (c.fact 37 (f := .free "min") rfl), f_range := He.free_ok X G (c.fact 38 (f := .free "range") rfl), f_repr := He.free_ok X G (c.fact 39 (f := .free "repr") rfl), f_set := He.free_ok X G (c.fact 40 (f := .free "set") rfl), f_sorted := He.free_ok X G (c.fact 41 (f := .free "sorted") rfl), f_str := He.free_ok X G (c.fact 42 (f := .free "str") rfl), f_tuple := He.free_ok X G (c.fact 43 (f := .free "tuple") rfl), f_zip := He.free_ok X G (c.fact 44 (f := .free "zip") rfl), c_MOST_STATES := He.int_ok X G (c.fact 45 (f := .int "MOST_STATES" 6) rfl), c_MOST_WRITTEN := He.int_ok X G (c.fact 46 (f := .int "MOST_WRITTEN" 4) rfl) }, rfl⟩
end Fo
/-! Fin0: the end, but for the plain law. Printed by gen.py. -/
section
open PySem PySem.W PySem.Calls PyProof.Rows
theorem PySem.Challenge.cw_foeholes_k50_makers_known_from (hL : ∀ ns : List Int, ns.length ≤ 63 → Fo.t_law_v15 [Fo.W.val (Fo.D.scr ns)] [] fun w _ => w = Fo.W.val (Fo.D.bl true)) : PySem.Challenge.rw_foeholes_k50_makers_known.Holds := by
  w_on; o_law
  refine HandSHeadRun.head_any (r := OpenLaw.row PySem.Challenge.rw_foeholes_k50_makers_known) (q := view (OpenLaw.row PySem.Challenge.rw_foeholes_k50_makers_known).prog [34]) (H := Fo.hookR) (ob := Fo.obR) (M := 2300) (loose := Fo.looseR) (d := HandSHeadRun.topDef (OpenLaw.row PySem.Challenge.rw_foeholes_k50_makers_known).prog 34) (kwd := []) Fo.obR_eq
    (by kernel_rfl) (fun s => by kernel_rfl) Fo.runR (by kernel_rfl) (by kernel_rfl) (by kernel_rfl) (by rfl) (by first | assumption | decide +kernel) (by decide +kernel) ⟨rfl, rfl, rfl, rfl, rfl, by decide +kernel⟩ ?hw ?hc
  case hw => w_witness2
  case hc =>
    refine Fo.walkG (l := PySem.Challenge.rw_foeholes_k50_makers_known) (n := 63) (k := 45) (x := "script") (CX := L2.CX0) rfl (by decide) (by kernel_rfl) ⟨rfl, by decide, by decide⟩ ?F (fun _ _ _ _ z => z)
    intro w mg fa h Y G hmg0
    obtain ⟨K, KX, c, sy⟩ := Y
    have hmg : mg ("law" : PySem.Str) = some (.ref fa) := by
      have e : (HandSHeadRun.topDef (OpenLaw.row PySem.Challenge.rw_foeholes_k50_makers_known).prog 34).name = ("law" : PySem.Str) := by kernel_rfl
      rw [← e]
      exact hmg0
    obtain ⟨T, rfl⟩ := Fo.facts KX G hmg c
    refine ⟨K, T.fd_law, Fo.spF ⟨K, w, mg⟩ 1 Fo.t_law_v15, KX, sy, fun s v => ?_, fun H a ns hl hs hS => Fo.sp_law_of hs hS (hL ns hl), fun base _ _ => Fo.ok_law T⟩
    exact L2.FunD.bindsA (ps := ["script"]) T.D_law (fun _ _ _ _ _ _ us hl => match us, hl with | [_], _ => rfl) s [v] rfl
end
/-! Fst: the first text by which something is come to, by a walk that goes on from the first of those that are left. -/
namespace Fo
/-- shorter, or as long and sorted ahead -/
def ltT (t u : List Nat) : Prop := t.length < u.length ∨ t.length = u.length ∧ t < u
def leT (t u : List Nat) : Prop := t = u ∨ ltT t u
theorem lex_app : ∀ {a b : List Nat} (x y : List Nat), a.length = b.length → a < b → a ++ x < b ++ y
  | [], [], x, y, _, h => absurd h (List.lt_irrefl _)
  | [], _ :: _, _, _, e, _ => by cases e
  | _ :: _, [], _, _, e, _ => by cases e
  | i :: a, j :: b, x, y, e, h => by
    rw [List.cons_lt_cons_iff] at h
    rw [List.cons_append, List.cons_append, List.cons_lt_cons_iff]
    rcases h with h | ⟨h1, h2⟩
    · exact .inl h
    · exact .inr ⟨h1, lex_app x y (by simpa using e) h2⟩
theorem ltT.trans {a b c : List Nat} (h : ltT a b) (k : ltT b c) : ltT a c := by
  rcases h with h | ⟨h1, h2⟩
  · rcases k with k | ⟨k1, k2⟩
    · exact .inl (by omega)
    · exact .inl (by omega)
  · rcases k with k | ⟨k1, k2⟩
    · exact .inl (by omega)
    · exact .inr ⟨by omega, List.lt_trans h2 k2⟩
theorem leT.trans {a b c : List Nat} (h : leT a b) (k : leT b c) : leT a c := by
  rcases h with rfl | h
  · exact k
  · rcases k with rfl | k
    · exact .inr h
    · exact .inr (h.trans k)
theorem leT.refl (a : List Nat) : leT a a := .inl rfl
theorem ltT_app {a b : List Nat} (c d : Nat) (h : ltT a b) : ltT (a ++ [c]) (b ++ [d]) := by
  rcases h with h | ⟨h1, h2⟩
  · exact .inl (by simpa using h)
  · exact .inr ⟨by simpa using h1, lex_app _ _ h1 h2⟩
theorem leT_app {a b : List Nat} (c : Nat) (h : leT a b) : leT (a ++ [c]) (b ++ [c]) := by
  rcases h with rfl | h
  · exact .inl rfl
  · exact .inr (ltT_app c c h)
theorem ltT_more (a : List Nat) (c : Nat) : ltT a (a ++ [c]) := .inl (by simp)
theorem snoc_ind {p : List Nat → Prop} (h0 : p []) (hs : ∀ t c, p t → p (t ++ [c])) (t : List Nat) : p t := by
  have : ∀ r : List Nat, p r.reverse := fun r => by
    induction r with
    | nil => exact h0
    | cons c r ih =>
      rw [List.reverse_cons]
      exact hs _ c ih
  have := this t.reverse
  rwa [List.reverse_reverse] at this
/-- the first of those -/
def FirstT (P : List Nat → Prop) : Option (List Nat) → Prop
  | none => ∀ t, ¬ P t
  | some w => P w ∧ ∀ u, P u → leT w u
theorem FirstT.congr {P Q : List Nat → Prop} (e : ∀ t, P t ↔ Q t) {a : Option (List Nat)} (h : FirstT P a) : FirstT Q a := by
  cases a with
  | none => exact fun t z => h t ((e t).mpr z)
  | some w => exact ⟨(e w).mp h.1, fun u z => h.2 u ((e u).mpr z)⟩
section
variable {α : Type} {on : List Nat → Option α} {st : α → Nat → Option α} {good : α → Bool}
structure Bfs (on : List Nat → Option α) (st : α → Nat → Option α) (good : α → Bool) (n : Nat) (seq : List (α × List Nat)) : Prop where
  srt : seq.Pairwise fun a b => ltT a.2 b.2
  nd : (seq.map (·.1)).Nodup
  reach : ∀ p ∈ seq, on p.2 = some p.1
  le : n ≤ seq.length
  root : ∃ p ∈ seq, p.2 = []
  done : ∀ p ∈ seq.take n, good p.1 = false ∧ ∀ c q, st p.1 c = some q → ∃ w, (q, w) ∈ seq ∧ leT w (p.2 ++ [c])
  par : ∀ p ∈ seq, p.2 = [] ∨ ∃ r ∈ seq.take n, ∃ c, p.2 = r.2 ++ [c]
  len : ∀ (i : Nat) p, seq[i]? = some p → p.2.length ≤ i
theorem behind_le {seq : List (α × List Nat)} (srt : seq.Pairwise fun a b => ltT a.2 b.2) {n : Nat} {p r : α × List Nat} (e : seq[n]? = some p) (h : r ∈ seq) : r ∈ seq.take n ∨ leT p.2 r.2 := by
  obtain ⟨i, hi⟩ := List.mem_iff_getElem?.mp h
  by_cases hn : i < n
  · refine .inl (List.mem_iff_getElem?.mpr ⟨i, ?_⟩)
    rw [List.getElem?_take_of_lt hn]
    exact hi
  · refine .inr ?_
    by_cases z : i = n
    · subst z
      rw [e] at hi
      injection hi with hi
      rw [hi]
      exact .inl rfl
    · obtain ⟨h1, e1⟩ := List.getElem?_eq_some_iff.mp hi
      obtain ⟨h2, e2⟩ := List.getElem?_eq_some_iff.mp e
      rw [← e1, ← e2]
      exact .inr (List.pairwise_iff_getElem.mp srt n i h2 h1 (by omega))
def goodT (on : List Nat → Option α) (good : α → Bool) (t : List Nat) : Prop := ∃ q, on t = some q ∧ good q = true
/-- the first that is left is good: it is the first one -/
theorem Bfs.found {n : Nat} {seq : List (α × List Nat)} {p : α × List Nat} {a : α} (h0 : on [] = some a) (hs : ∀ t c, on (t ++ [c]) = (on t).bind fun q => st q c) (b : Bfs on st good n seq) (hp : seq[n]? = some p) (hg : good p.1 = true) : FirstT (goodT on good) (some p.2) := by
  refine ⟨⟨p.1, b.reach p (List.mem_of_getElem? hp), hg⟩, ?_⟩
  have all : ∀ t q, on t = some q → (∃ w, (q, w) ∈ seq ∧ leT w t) ∨ leT p.2 t := fun t => by
    induction t using snoc_ind with
    | h0 =>
      intro q hq
      obtain ⟨r, h1, h2⟩ := b.root
      have := b.reach r h1
      rw [h2, hq] at this
      injection this with this
      exact .inl ⟨r.2, by rw [this]; exact h1, .inl h2⟩
    | hs t c ih =>
      intro q hq
      rw [hs] at hq
      cases e : on t with
      | none => rw [e] at hq; cases hq
      | some x =>
        rw [e] at hq
        have hq : st x c = some q := hq
        rcases ih x e with ⟨w, hw, hl⟩ | hl
        · rcases behind_le b.srt hp hw with z | z
          · obtain ⟨w2, h3, h4⟩ := (b.done _ z).2 c q hq
            exact .inl ⟨w2, h3, h4.trans (leT_app c hl)⟩
          · exact .inr ((z.trans hl).trans (.inr (ltT_more t c)))
        · exact .inr (hl.trans (.inr (ltT_more t c)))
  rintro u ⟨q, h1, h2⟩
  rcases all u q h1 with ⟨w, hw, hl⟩ | hl
  · rcases behind_le b.srt hp hw with z | z
    · have := (b.done _ z).1
      rw [h2] at this
      cases this
    · exact z.trans hl
  · exact hl
end
end Fo
/-! Lot: lots drawn, walked. -/
namespace Fo
open PySem PySem.Spec PyProof.Rows L2
abbrev Lst := List (Option Nat) × Bool
structure Lot where
  signs : List Nat
  sts : List Lst
def thD : Option Nat → D
  | none => .non
  | some n => .int (n : Nat)
def lstD (s : Lst) : D := .tup [.tup (s.1.map thD), .bl s.2]
def lotD (l : Lot) : D := .tup [.str l.signs, .tup (l.sts.map lstD)]
structure LsOk (a n : Nat) (s : Lst) : Prop where
  len : s.1.length = n
  ways : ∀ w ∈ s.1, ∀ j, w = some j → j < a
structure LotOk (l : Lot) : Prop where
  sg : Sg l.signs
  ne : l.sts ≠ []
  sts : ∀ s ∈ l.sts, LsOk l.sts.length l.signs.length s
theorem cell_at2 {S : Sto} {ob : Ob} {n : Nat} (h : n = S.length) : (S ++ [ob])[n]? = some ob := by
  subst h
  simp
theorem cell_set2 {S : Sto} {ob ob' : Ob} {n : Nat} (h : n = S.length) : (S ++ [ob]).set n ob' = S ++ [ob'] := by
  subst h
  simp
end Fo
/-! Read: readers drawn. -/
namespace Fo
open PySem PySem.Spec PyProof.Rows L2
abbrev Way := Nat × List Nat
abbrev Stt := List Way × Option (List Nat)
structure Rdr where
  reads : List Nat
  tells : List Nat
  sts : List Stt
def wayD (w : Way) : D := .tup [.int (w.1 : Nat), .str w.2]
def optD : Option (List Nat) → D
  | none => .non
  | some t => .str t
def sttD (s : Stt) : D := .tup [.tup (s.1.map wayD), optD s.2]
def rdrD (r : Rdr) : D := .tup [.str r.reads, .str r.tells, .tup (r.sts.map sttD)]
/-- a text of the signs, of at most n -/
def TxOk (tells : List Nat) (n : Nat) (t : List Nat) : Prop := (∀ c ∈ t, c ∈ tells) ∧ t.length ≤ n
def WayOk (a : Nat) (tells : List Nat) (n : Nat) (w : Way) : Prop := w.1 < a ∧ TxOk tells n w.2
structure SttOk (a l : Nat) (tells : List Nat) (n e : Nat) (s : Stt) : Prop where
  len : s.1.length = l
  ways : ∀ w ∈ s.1, WayOk a tells n w
  fin : ∀ t, s.2 = some t → TxOk tells e t
structure RdOk (n e : Nat) (r : Rdr) : Prop where
  sr : Sg r.reads
  st : Sg r.tells
  ne : r.sts ≠ []
  sts : ∀ s ∈ r.sts, SttOk r.sts.length r.reads.length r.tells n e s
theorem cell_at {S : Sto} {ob : Ob} {n : Nat} (h : n = S.length) : (S ++ [ob])[n]? = some ob := by
  subst h
  simp
theorem cell_set {S : Sto} {ob ob' : Ob} {n : Nat} (h : n = S.length) : (S ++ [ob]).set n ob' = S ++ [ob'] := by
  subst h
  simp
theorem t_any_reader {m : Nat} {p : Ob} {rs ts : List Nat} {size most : Int} {k : KW} (hp : Pen m p) (hrs : Sg rs) (hts : Sg ts) (hr : rs.length ≤ 9) (ht0 : ts ≠ []) (ht : ts.length ≤ 60)
    (s0 : 1 ≤ size) (s1 : size ≤ 8) (m0 : 1 ≤ most) (m1 : most ≤ 3) (hm : m < 800000000)
    (hk : ∀ (r : Rdr) p', RdOk most.toNat 1 r → r.reads = rs → r.tells = ts → (r.sts.length : Int) ≤ size → Pen (m + 1000) p' → k (.val (rdrD r)) [p']) :
    t__law_any_reader [.ref 0, .val (.str rs), .val (.str ts), .val (.int size), .val (.int most)] [p] k := by
  unfold t__law_any_reader
  refine mfun_of ?_
  refine sSeq_i ?_
  array_mem_dec
  refine call_1 rfl rfl hp.nd (t_take hp (by omega) (by omega) (by omega) fun q1 p1 b0 b1 hp1 => ⟨p1, [], rfl, ?_⟩) m__law_take
  array_mem_dec
  refine call_1 rfl rfl hp1.nd (t_take hp1 (by omega) (by omega) (by omega) fun q2 p2 b2 b3 hp2 => ⟨p2, [], rfl, ?_⟩) m__law_take
  array_mem_dec
  generalize (decide (q2 = 0) != false) = copies
  obtain ⟨a, ha⟩ : ∃ a : Nat, 1 + q1 = (a : Int) := ⟨(1 + q1).toNat, by omega⟩
  rw [ha]
  refine sSeq_i ?_
  array_mem_dec
  refine sSeq_i ?_
  array_mem_dec
  refine ⟨by omega, ?_⟩
  refine for_inv (fun r ρ S => ∃ (l : List Stt) (x6 x9 x10 x11 x12 : Option W) (p' : Ob) (G : Sto), ρ = [some (.ref 0), some (.val (.str rs)), some (.val (.str ts)), some (.val (.int size)), some (.val (.int most)), some (.ref 1), x6, some (.val (.int (a : Int))), some (.val (.bl copies)), x9, x10, x11, x12] ∧
    S = p' :: .lst (l.map sttD) :: G ∧ Pen (m + 2 + 100 * l.length) p' ∧ (∀ s ∈ l, SttOk a rs.length ts most.toNat 1 s) ∧ l.length + r.length = a) ?_ ?_ _ _ _ ?_
  · rintro ρ S ⟨l, x6, x9, x10, x11, x12, p', G, rfl, rfl, hp', hl, hn⟩
    rw [List.length_nil, Nat.add_zero] at hn
    array_mem_dec
    refine hk ⟨rs, ts, l⟩ p' ⟨hrs, hts, fun z => ?_, fun s hs => ?_⟩ rfl rfl (show (l.length : Int) ≤ size by omega) (hp'.mono (by omega))
    · have z2 : l = [] := z
      rw [z2] at hn
      exact absurd hn.symm (by simp; omega)
    · have := hl s hs
      rw [← hn] at this
      exact this
  · rintro d r ρ S K hK ⟨l, x6, x9, x10, x11, x12, p', G, rfl, rfl, hp', hl, hn⟩
    rw [List.length_cons] at hn
    refine gVar_i ?_
    refine sSeq_i ?_
    array_mem_dec
    refine sSeq_i ?_
    array_mem_dec
    refine for_inv (fun r2 ρ S => ∃ (ws : List Way) (y10 y12 : Option W) (p3 : Ob) (cs : List Nat), ρ = [some (.ref 0), some (.val (.str rs)), some (.val (.str ts)), some (.val (.int size)), some (.val (.int most)), some (.ref 1), some (.val d), some (.val (.int (a : Int))), some (.val (.bl copies)), some (.ref (G.length + 2)), y10, x11, y12] ∧
      S = (p3 :: .lst (l.map sttD) :: G) ++ [.lst (ws.map wayD)] ∧ Pen (m + 2 + 100 * l.length + 10 * ws.length) p3 ∧ (∀ w ∈ ws, WayOk a ts most.toNat w) ∧ r2 = signs cs ∧ ws.length + cs.length = rs.length) ?_ ?_ _ _ _ ?_
    · rintro ρ S ⟨ws, y10, y12, p3, cs, rfl, rfl, hp3, hw, hcs, hn2⟩
      have hcs0 : cs = [] := by
        cases cs with
        | nil => rfl
        | cons c cs => cases hcs
      subst hcs0
      rw [List.length_nil, Nat.add_zero] at hn2
      dsimp only
      refine sSeq_i ?_
      array_mem_dec
      refine call_1 rfl rfl hp3.nd (t_some_text hp3 ht0 (by omega) (by omega) (by omega) (by omega) fun t p4 ht1 ht2 hp4 => ⟨p4, [], rfl, ?_⟩) m__law_some_text
      array_mem_dec
      refine call_1 rfl rfl hp4.nd (t_take hp4 (by omega) (by omega) (by omega) fun q p5 b4 b5 hp5 => ⟨p5, [], rfl, ?_⟩) m__law_take
      array_mem_dec
      obtain ⟨e, he, hme, _⟩ := atI_in (l := [D.str t, .str [], .str [], .non]) (i := if q < 3 then q else 3) (by split <;> omega) (by show _ < (4 : Int); split <;> omega)
      refine ix_l he ?_
      obtain ⟨eo, rfl, heo⟩ : ∃ eo, e = optD eo ∧ ∀ t, eo = some t → TxOk ts 1 t := by
        simp only [List.mem_cons, List.not_mem_nil, or_false] at hme
        rcases hme with rfl | rfl | rfl | rfl
        · exact ⟨some t, rfl, fun u hu => by cases hu; exact ⟨ht1, by omega⟩⟩
        · exact ⟨some [], rfl, fun u hu => by cases hu; exact ⟨fun c hc => (by cases hc), Nat.zero_le _⟩⟩
        · exact ⟨some [], rfl, fun u hu => by cases hu; exact ⟨fun c hc => (by cases hc), Nat.zero_le _⟩⟩
        · exact ⟨none, rfl, fun u hu => by cases hu⟩
      array_mem_dec
      refine rd_l (cell_at (S := p5 :: .lst (l.map sttD) :: G) (ob := .lst (ws.map wayD)) rfl) ?_
      array_mem_dec
      refine append_i (by rw [List.length_map]; unfold sizeLine; omega) ?_
      refine hK _ _ ⟨l ++ [(ws, eo)], _, _, y10, _, y12, p5, G ++ [.lst (ws.map wayD)], rfl, ?_, hp5.mono (by rw [List.length_append]; show _ ≤ m + 2 + 100 * (l.length + 1); omega), fun s hs => ?_, by rw [List.length_append]; show l.length + 1 + _ = _; omega⟩
      · rw [List.map_append]
        rfl
      · rcases List.mem_append.mp hs with hs | hs
        · exact hl s hs
        · rw [List.mem_singleton.mp hs]
          exact ⟨hn2, hw, heo⟩
    · rintro d2 r2 ρ S K2 hK2 ⟨ws, y10, y12, p3, cs, rfl, rfl, hp3, hw, hcs, hn2⟩
      cases cs with
      | nil => cases hcs
      | cons c cs =>
        have hcs2 : d2 :: r2 = .str [c] :: signs cs := hcs
        injection hcs2 with e1 e2
        subst e1 e2
        rw [List.length_cons] at hn2
        refine gVar_i ?_
        refine sSeq_i ?_
        array_mem_dec
        refine call_1 rfl rfl hp3.nd (t_some_text hp3 ht0 (by omega) (by omega) (by omega) (by omega) fun t p4 ht1 ht2 hp4 => ⟨p4, [], rfl, ?_⟩) m__law_some_text
        array_mem_dec
        refine sSeq_cut (fun ρ S => ∃ (t : List Nat) (p5 : Ob), ρ = [some (.ref 0), some (.val (.str rs)), some (.val (.str ts)), some (.val (.int size)), some (.val (.int most)), some (.ref 1), some (.val d), some (.val (.int (a : Int))), some (.val (.bl copies)), some (.ref (G.length + 2)), some (.val (.str [c])), x11, some (.val (.str t))] ∧
          S = (p5 :: .lst (l.map sttD) :: G) ++ [.lst (ws.map wayD)] ∧ Pen (m + 2 + 100 * l.length + 10 * ws.length + 6) p5 ∧ TxOk ts most.toNat t) (fun ρ S h => ?_) fun K3 hK3 => ?_
        · obtain ⟨t, p5, rfl, rfl, hp5, htx⟩ := h
          array_mem_dec
          refine asCell_i (cell_at (S := p5 :: .lst (l.map sttD) :: G) (ob := .lst (ws.map wayD)) rfl) ?_
          array_mem_dec
          refine call_1 rfl rfl hp5.nd (t_take hp5 (by omega) (by omega) (by omega) fun q p6 b4 b5 hp6 => ⟨p6, [], rfl, ?_⟩) m__law_take
          array_mem_dec
          refine asCell_i (cell_at (S := p6 :: .lst (l.map sttD) :: G) (ob := .lst (ws.map wayD)) rfl) ?_
          array_mem_dec
          refine append_i (by rw [List.length_map]; unfold sizeLine; omega) ?_
          obtain ⟨j, rfl⟩ : ∃ j : Nat, q = (j : Int) := ⟨q.toNat, by omega⟩
          refine hK2 _ _ ⟨ws ++ [(j, t)], _, _, p6, cs, rfl, ?_, hp6.mono (by rw [List.length_append]; show _ ≤ m + 2 + 100 * l.length + 10 * (ws.length + 1); omega), fun w hw2 => ?_, rfl, by rw [List.length_append]; show ws.length + 1 + _ = _; omega⟩
          · rw [List.map_append]
            exact cell_set (S := p6 :: .lst (l.map sttD) :: G) rfl
          · rcases List.mem_append.mp hw2 with hw2 | hw2
            · exact hw w hw2
            · rw [List.mem_singleton.mp hw2]
              exact ⟨by show j < a; omega, htx⟩
        · have same : ∀ p5, Pen (m + 2 + 100 * l.length + 10 * ws.length + 6) p5 → K3 [some (.ref 0), some (.val (.str rs)), some (.val (.str ts)), some (.val (.int size)), some (.val (.int most)), some (.ref 1), some (.val d), some (.val (.int (a : Int))), some (.val (.bl copies)), some (.ref (G.length + 2)), some (.val (.str [c])), x11, some (.val (.str t))]
            ((p5 :: .lst (l.map sttD) :: G) ++ [.lst (ws.map wayD)]) := fun p5 h5 => hK3 _ _ ⟨t, p5, rfl, rfl, h5, ht1, by omega⟩
          have hp4' : Pen (m + 2 + 100 * l.length + 10 * ws.length + 6) p4 := hp4.mono (by omega)
          array_mem_dec
          refine if_b (fun hc => ?_) fun hc => ?_
          · array_mem_dec
            refine if_df (fun hin => ?_) fun hin => ?_
            · array_mem_dec
              refine call_1 rfl rfl hp4.nd (t_take hp4 (by omega) (by omega) (by omega) fun q p6 b4 b5 hp6 => ⟨p6, [], rfl, ?_⟩) m__law_take
              array_mem_dec
              have hp6' : Pen (m + 2 + 100 * l.length + 10 * ws.length + 6) p6 := hp6.mono (by omega)
              refine if_d (fun h => ?_) fun h => ?_
              · array_mem_dec
                refine hK3 _ _ ⟨[c], p6, rfl, rfl, hp6', fun x hx => ?_, by show 1 ≤ _; omega⟩
                rw [List.mem_singleton.mp hx]
                exact hin
              · array_mem_dec
                exact same p6 hp6'
            · array_mem_dec
              exact same p4 hp4'
          · array_mem_dec
            exact same p4 hp4'
    · exact ⟨[], x10, x12, p', rs, rfl, rfl, hp', (fun w hw => by cases hw), rfl, Nat.zero_add _⟩
  · exact ⟨[], none, none, none, none, none, p2, [], rfl, rfl, hp2, (fun s hs => by cases hs), by rw [rangeL_length]; simp⟩
end Fo
/-! Read2: readers with long ends; reading. -/
namespace Fo
open PySem PySem.Spec PyProof.Rows L2
theorem TxOk.mono {ts : List Nat} {a b : Nat} {t : List Nat} (h : TxOk ts a t) (l : a ≤ b) : TxOk ts b t := ⟨h.1, Nat.le_trans h.2 l⟩
/-! ### reading -/
def atR {α : Type} (l : List α) (d : α) (i : Nat) : α := l[i]?.getD d
def stepR (r : Rdr) (q c : Nat) : Way := atR (atR r.sts ([], none) q).1 (0, []) (r.reads.idxOf c)
def endR (r : Rdr) (q : Nat) : Option (List Nat) := (atR r.sts ([], none) q).2
def walkR (r : Rdr) : Nat → List Nat → List Nat → Nat × List Nat
  | q, told, [] => (q, told)
  | q, told, c :: cs => walkR r (stepR r q c).1 (told ++ (stepR r q c).2) cs
def pairD (x : Nat × List Nat) : D := .tup [.int (x.1 : Nat), .str x.2]
theorem idx_nd : ∀ {l : List Nat} {j c : Nat}, l.Nodup → l[j]? = some c → l.idxOf c = j
  | [], j, c, _, h => by simp at h
  | a :: l, 0, c, _, h => by
    simp at h
    subst h
    simp
  | a :: l, j + 1, c, nd, h => by
    have h2 : l[j]? = some c := by simpa using h
    have ne : a ≠ c := fun z => (List.nodup_cons.mp nd).1 (by rw [z]; exact List.mem_of_getElem? h2)
    rw [List.idxOf_cons, show (a == c) = false from by simpa using ne, cond_false, idx_nd (List.nodup_cons.mp nd).2 h2]
theorem atR_of {α : Type} {l : List α} {d : α} {i : Nat} (h : i < l.length) : l[i]? = some (atR l d i) := by
  unfold atR
  rw [List.getElem?_eq_getElem h]
  rfl
theorem atR_mem {α : Type} {l : List α} {d : α} {i : Nat} (h : i < l.length) : atR l d i ∈ l := List.mem_of_getElem? (atR_of h)
section
variable {r : Rdr} {n e : Nat} (hr : RdOk n e r)
include hr
theorem RdOk.sttAt {q : Nat} (h : q < r.sts.length) : SttOk r.sts.length r.reads.length r.tells n e (atR r.sts ([], none) q) := hr.sts _ (atR_mem h)
theorem RdOk.step {q c : Nat} (h : q < r.sts.length) (hc : c ∈ r.reads) : WayOk r.sts.length r.tells n (stepR r q c) :=
  (hr.sttAt h).ways _ (atR_mem (by rw [(hr.sttAt h).len]; exact List.idxOf_lt_length_iff.mpr hc))
theorem RdOk.end_ {q : Nat} (h : q < r.sts.length) {t : List Nat} (ht : endR r q = some t) : TxOk r.tells e t := (hr.sttAt h).fin t ht
theorem walk_ok : ∀ (cs : List Nat) (q : Nat) (told : List Nat), q < r.sts.length → (∀ c ∈ cs, c ∈ r.reads) → (walkR r q told cs).1 < r.sts.length ∧ (walkR r q told cs).2.length ≤ told.length + n * cs.length ∧ ((∀ c ∈ told, c ∈ r.tells) → ∀ c ∈ (walkR r q told cs).2, c ∈ r.tells)
  | [], q, told, h, _ => ⟨h, Nat.le_add_right _ _, fun z => z⟩
  | c :: cs, q, told, h, hc => by
    have w := hr.step h (hc c List.mem_cons_self)
    obtain ⟨h1, h2, h3⟩ := walk_ok cs (stepR r q c).1 (told ++ (stepR r q c).2) w.1 fun x hx => hc x (List.mem_cons_of_mem _ hx)
    refine ⟨h1, Nat.le_trans h2 ?_, fun z => h3 fun x hx => ?_⟩
    · rw [List.length_append, List.length_cons, Nat.mul_succ]
      have := w.2.2
      omega
    · rcases List.mem_append.mp hx with hx | hx
      · exact z x hx
      · exact w.2.1 x hx
theorem t_law_read_ok {q : Nat} {text : List Nat} (h : q < r.sts.length) (hc : ∀ c ∈ text, c ∈ r.reads) (hn : n * text.length ≤ 1000000) {k : KW} (hk : k (.val (pairD (walkR r q [] text))) []) (hl : r.reads.length ≤ 1000) :
    t__law_read_on [.val (rdrD r), .val (.int (q : Int)), .val (.str text)] [] k := by
  unfold t__law_read_on
  refine mfun_of ?_
  sizeOf_list_dec
  sizeOf_list_dec
  refine for_inv (fun r2 ρ S => ∃ (q' : Nat) (told cs : List Nat) (x4 x5 : Option W), r2 = signs cs ∧ ρ = [some (.val (rdrD r)), some (.val (.int (q' : Int))), some (.val (.str text)), some (.val (.str told)), x4, x5] ∧ S = [] ∧
    walkR r q' told cs = walkR r q [] text ∧ q' < r.sts.length ∧ (∀ c ∈ cs, c ∈ r.reads) ∧ told.length + n * cs.length ≤ 1000000) ?_ ?_ _ _ _ ?_
  · rintro ρ S ⟨q', told, cs, x4, x5, hr2, rfl, rfl, hw, hq, hc2, hl2⟩
    have e0 : cs = [] := by
      cases cs with
      | nil => rfl
      | cons c cs => cases hr2
    subst e0
    array_mem_dec
    rw [← hw] at hk
    exact hk
  · rintro d r2 ρ S K hK ⟨q', told, cs, x4, x5, hr2, rfl, rfl, hw, hq, hc2, hl2⟩
    cases cs with
    | nil => cases hr2
    | cons c cs =>
      have hcs2 : d :: r2 = .str [c] :: signs cs := hr2
      injection hcs2 with e1 e2
      subst e1 e2
      have hcc := hc2 c List.mem_cons_self
      have w := hr.step hq hcc
      have hs := hr.sttAt hq
      rw [List.length_cons, Nat.mul_succ] at hl2
      have w3 := w.2.2
      refine gVar_i ?_
      unfold rdrD
      sizeOf_list_dec
      refine ix_t (d := sttD (atR r.sts ([], none) q')) (atI_nat (by rw [List.getElem?_map, atR_of hq]; rfl)) ?_
      array_mem_dec
      refine ix_t (d := .tup ((atR r.sts ([], none) q').1.map wayD)) rfl ?_
      array_mem_dec
      refine index_i hcc fun j hj => ?_
      have ej := idx_nd hr.sr.nd hj
      array_mem_dec
      refine ix_t (d := wayD (stepR r q' c)) (atI_nat (by rw [List.getElem?_map, ← ej, atR_of (d := (0, [])) (by rw [hs.len]; exact List.idxOf_lt_length_iff.mpr hcc)]; rfl)) ?_
      show gTupM _ (W.val (.tup [.int ((stepR r q' c).1 : Nat), .str (stepR r q' c).2])) _ _ _
      array_mem_dec
      refine add_s (by unfold sizeLine; omega) ?_
      refine hK _ _ ⟨(stepR r q' c).1, told ++ (stepR r q' c).2, cs, _, _, rfl, rfl, rfl, hw, w.1, fun x hx => hc2 x (List.mem_cons_of_mem _ hx), by rw [List.length_append]; omega⟩
  · exact ⟨q, [], text, none, none, rfl, rfl, rfl, rfl, h, hc, by rw [List.length_nil]; omega⟩
end
end Fo
/-! Lot2: words of lots. -/
namespace Fo
open PySem PySem.Spec PyProof.Rows L2
def stepL (l : Lot) (q : Option Nat) (c : Nat) : Option Nat := match q with
  | none => none
  | some q => if c ∈ l.signs then atR (atR l.sts ([], false) q).1 none (l.signs.idxOf c) else none
def onL (l : Lot) : Option Nat → List Nat → Option Nat
  | q, [] => q
  | q, c :: cs => onL l (stepL l q c) cs
def goodL (l : Lot) (q : Option Nat) : Bool := match q with
  | none => false
  | some q => (atR l.sts ([], false) q).2
def wordL (l : Lot) (t : List Nat) : Bool := goodL l (onL l (some 0) t)
def InL (l : Lot) (q : Option Nat) : Prop := ∀ j, q = some j → j < l.sts.length
theorem onL_none (l : Lot) : ∀ cs, onL l none cs = none
  | [] => rfl
  | c :: cs => onL_none l cs
section
variable {l : Lot} (hl : LotOk l)
include hl
theorem LotOk.stAt {q : Nat} (h : q < l.sts.length) : LsOk l.sts.length l.signs.length (atR l.sts ([], false) q) := hl.sts _ (atR_mem h)
theorem LotOk.step {q : Option Nat} {c : Nat} (h : InL l q) : InL l (stepL l q c) := fun j hj => by
  cases q with
  | none => cases hj
  | some q =>
    have hq := h q rfl
    have hs := hl.stAt hq
    unfold stepL at hj
    simp only at hj
    split at hj
    · rename_i hc
      exact hs.ways _ (atR_mem (d := none) (by rw [hs.len]; exact List.idxOf_lt_length_iff.mpr hc)) j hj
    · cases hj
theorem LotOk.on : ∀ {cs : List Nat} {q : Option Nat}, InL l q → InL l (onL l q cs)
  | [], _, h => h
  | c :: cs, q, h => LotOk.on (cs := cs) (hl.step h)
theorem LotOk.in0 : InL l (some 0) := fun j hj => by
  cases hj
  exact List.length_pos_iff.mpr hl.ne
end
end Fo
/-! Lot3: words of lots counted. -/
/-! Lot4: how many words. -/
/-! Lot5: the law's own count. -/
/-! Lot6: all texts of a length; a text walked. -/
/-! Lot7: a text walked, texts right. -/
namespace Fo
open PySem PySem.Spec PyProof.Rows L2
theorem ints_shp {l : List D} (h : ∀ x ∈ l, ∃ i : Int, x = .int i) : PyData.canLayAll0 (pys l) = true ∧ PyData.depthAll (pys l) = 0 := by
  induction l with
  | nil => exact ⟨rfl, rfl⟩
  | cons d l ih =>
    obtain ⟨i, rfl⟩ := h d List.mem_cons_self
    obtain ⟨h1, h2⟩ := ih fun x hx => h x (List.mem_cons_of_mem _ hx)
    refine ⟨?_, ?_⟩
    · show (PyData.canLay0 (.int i) && PyData.canLayAll0 (pys l)) = true
      rw [h1]
      rfl
    · show max (PyData.depth (.int i)) (PyData.depthAll (pys l)) = 0
      rw [h2]
      rfl
end Fo
/-! Lot8: the count is the number of words. -/
namespace Fo
open PySem PySem.Spec PyProof.Rows L2
theorem onL_snoc (l : Lot) (c : Nat) : ∀ (t : List Nat) (q : Option Nat), onL l q (t ++ [c]) = stepL l (onL l q t) c
  | [], _ => rfl
  | d :: t, q => onL_snoc l c t (stepL l q d)
/-- how many texts lead to q -/
def reach (l : Lot) (ts : List (List Nat)) (q : Nat) : Nat := ts.countP fun t => onL l (some 0) t == some q
end Fo
/-! Lang: what is told of a lot follows from which texts are its words. -/
namespace Fo
open PySem PySem.Spec PyProof.Rows L2
theorem word_on {l : Lot} {t : List Nat} (h : wordL l t = true) : ∃ j, onL l (some 0) t = some j := by
  unfold wordL at h
  cases e : onL l (some 0) t with
  | none => rw [e] at h; cases h
  | some j => exact ⟨j, rfl⟩
theorem onL_app (l : Lot) : ∀ (a b : List Nat) (q : Option Nat), onL l q (a ++ b) = onL l (onL l q a) b
  | [], _, _ => rfl
  | c :: a, b, q => onL_app l a b (stepL l q c)
/-- a long word comes twice to a state -/
theorem loop_of {l : Lot} (hl : LotOk l) {t : List Nat} (h : wordL l t = true) (hn : l.sts.length ≤ t.length) : ∃ a b c, t = a ++ b ++ c ∧ 0 < b.length ∧ (a ++ b).length ≤ l.sts.length ∧ onL l (some 0) (a ++ b) = onL l (some 0) a := by
  obtain ⟨j, hj⟩ := word_on h
  have pre : ∀ i, ∃ q, onL l (some 0) (t.take i) = some q ∧ q < l.sts.length := fun i => by
    cases e : onL l (some 0) (t.take i) with
    | none =>
      have := onL_app l (t.take i) (t.drop i) (some 0)
      rw [List.take_append_drop, e, onL_none, hj] at this
      cases this
    | some q => exact ⟨q, rfl, hl.on (cs := t.take i) hl.in0 q e⟩
  have ex : ∃ i k, i < k ∧ k ≤ l.sts.length ∧ onL l (some 0) (t.take i) = onL l (some 0) (t.take k) := by
    apply Classical.byContradiction
    intro no
    have nd : ((List.range (l.sts.length + 1)).map fun i => onL l (some 0) (t.take i)).Nodup := by
      unfold List.Nodup
      rw [List.pairwise_map]
      rw [List.pairwise_iff_getElem]
      intro i k hi hk hik z
      rw [List.length_range] at hi hk
      rw [List.getElem_range, List.getElem_range] at z
      exact no ⟨i, k, hik, by omega, z⟩
    have := nd.length_le_of_subset (l₂ := (List.range l.sts.length).map some) fun x hx => by
      obtain ⟨i, _, rfl⟩ := List.mem_map.mp hx
      obtain ⟨q, e, hq⟩ := pre i
      rw [e]
      exact List.mem_map.mpr ⟨q, List.mem_range.mpr hq, rfl⟩
    rw [List.length_map, List.length_map, List.length_range, List.length_range] at this
    omega
  obtain ⟨i, k, h1, h2, h3⟩ := ex
  have e1 : t.take k = t.take i ++ (t.drop i).take (k - i) := by
    rw [← List.take_add]
    congr 1
    omega
  refine ⟨t.take i, (t.drop i).take (k - i), t.drop k, ?_, ?_, ?_, ?_⟩
  · rw [← e1, List.take_append_drop]
  · rw [List.length_take, List.length_drop]
    omega
  · rw [← e1, List.length_take]
    omega
  · rw [← e1, h3]
/-- there are words without end -/
def EndL (l : Lot) : Prop := ∀ n, ∃ t, n ≤ t.length ∧ wordL l t = true
theorem on_snoc (l : Lot) (t : List Nat) (c : Nat) : onL l (some 0) (t ++ [c]) = (onL l (some 0) t).bind fun q => stepL l (some q) c := by
  rw [onL_snoc]
  cases onL l (some 0) t <;> rfl
/-! ### the same words -/
structure Same2 (l m : Lot) : Prop where
  signs : m.signs = l.signs
  word : ∀ t, wordL m t = wordL l t
theorem Same2.end_ {l m : Lot} (s : Same2 l m) : EndL m ↔ EndL l := by
  unfold EndL
  constructor
  · intro h n
    obtain ⟨t, h1, h2⟩ := h n
    exact ⟨t, h1, by rw [← s.word]; exact h2⟩
  · intro h n
    obtain ⟨t, h1, h2⟩ := h n
    exact ⟨t, h1, by rw [s.word]; exact h2⟩
/-! ### told by other numbers -/
structure Ord0 (n : Nat) (o : List Nat) : Prop where
  nd : o.Nodup
  mem : ∀ k, k ∈ o ↔ k < n
  zero : o[0]? = some 0
theorem Ord0.len {n : Nat} {o : List Nat} (h : Ord0 n o) : o.length = n := by
  have h1 := h.nd.length_le_of_subset (l₂ := List.range n) fun x hx => List.mem_range.mpr ((h.mem x).mp hx)
  have h2 := (List.nodup_range (n := n)).length_le_of_subset (l₂ := o) fun x hx => (h.mem x).mpr (List.mem_range.mp hx)
  rw [List.length_range] at h1 h2
  omega
/-! ### ways more -/
end Fo
/-! Rdr1: drawn readers are nice. -/
/-! Row: rows of readers read. -/
namespace Fo
open PySem PySem.Spec PyProof.Rows L2
theorem Sg.le {t : List Nat} (h : Sg t) : t.length ≤ 93 := by
  have := h.nd.length_le_of_subset (l₂ := poolS) h.pool
  rwa [pool_len] at this
theorem RdOk.mono {n n' e e' : Nat} {r : Rdr} (h : RdOk n e r) (hn : n ≤ n') (he : e ≤ e') : RdOk n' e' r :=
  ⟨h.sr, h.st, h.ne, fun s hs => ⟨(h.sts s hs).len, fun w hw => ⟨((h.sts s hs).ways w hw).1, ((h.sts s hs).ways w hw).2.1, Nat.le_trans ((h.sts s hs).ways w hw).2.2 hn⟩, fun t ht => ⟨((h.sts s hs).fin t ht).1, Nat.le_trans ((h.sts s hs).fin t ht).2 he⟩⟩⟩
def natD (q : Nat) : D := .int (q : Nat)
def rowD (rs : List Rdr) : D := .tup (rs.map rdrD)
def qsD (qs : List Nat) : D := .tup (qs.map natD)
/-- a row that reads these signs -/
def RowIn : List Nat → List Rdr → Prop
  | _, [] => True
  | sg, r :: rs => (∀ c ∈ sg, c ∈ r.reads) ∧ RdOk 3 3 r ∧ RowIn r.tells rs
def QsOk : List Rdr → List Nat → Prop
  | [], [] => True
  | r :: rs, q :: qs => q < r.sts.length ∧ QsOk rs qs
  | _, _ => False
def rowWalk : List Rdr → List Nat → List Nat → List Nat × List Nat
  | r :: rs, q :: qs, t => ((walkR r q [] t).1 :: (rowWalk rs qs (walkR r q [] t).2).1, (rowWalk rs qs (walkR r q [] t).2).2)
  | _, _, t => ([], t)
def rowEnd : List Rdr → List Nat → List Nat → Option (List Nat)
  | r :: rs, q :: qs, t => match endR r (walkR r q [] t).1 with
    | none => none
    | some e => rowEnd rs qs ((walkR r q [] t).2 ++ e)
  | _, _, t => some t
theorem RowIn.sub {sg sg' : List Nat} : ∀ {rs : List Rdr}, RowIn sg rs → (∀ c ∈ sg', c ∈ sg) → RowIn sg' rs
  | [], _, _ => trivial
  | _ :: _, h, s => ⟨fun c hc => h.1 c (s c hc), h.2⟩
theorem QsOk.len : ∀ {rs : List Rdr} {qs : List Nat}, QsOk rs qs → rs.length = qs.length
  | [], [], _ => rfl
  | _ :: rs, _ :: qs, h => by rw [List.length_cons, List.length_cons, QsOk.len (rs := rs) (qs := qs) h.2]
  | [], _ :: _, h => h.elim
  | _ :: _, [], h => h.elim
theorem RdOk.pos {n e : Nat} {r : Rdr} (h : RdOk n e r) : 0 < r.sts.length := List.length_pos_iff.mpr h.ne
theorem qs_zero {sg : List Nat} : ∀ {rs : List Rdr}, RowIn sg rs → QsOk rs (List.replicate rs.length 0)
  | [], _ => trivial
  | r :: rs, h => ⟨h.2.1.pos, qs_zero (rs := rs) h.2.2⟩
theorem qs_walk : ∀ {sg : List Nat} {rs : List Rdr} {qs t : List Nat}, RowIn sg rs → QsOk rs qs → (∀ c ∈ t, c ∈ sg) → QsOk rs (rowWalk rs qs t).1
  | _, [], [], _, _, _, _ => trivial
  | sg, r :: rs, q :: qs, t, h, hq, ht => by
    obtain ⟨w1, _, w3⟩ := walk_ok h.2.1 t q [] hq.1 fun c hc => h.1 c (ht c hc)
    exact ⟨w1, qs_walk (rs := rs) (qs := qs) h.2.2 hq.2 (w3 fun c hc => by cases hc)⟩
  | _, [], _ :: _, _, _, h, _ => h.elim
  | _, _ :: _, [], _, _, h, _ => h.elim
/-- what is told, and how much -/
def lastT : List Nat → List Rdr → List Nat
  | sg, [] => sg
  | _, r :: rs => lastT r.tells rs
theorem walk_told : ∀ {sg : List Nat} {rs : List Rdr} {qs t : List Nat}, RowIn sg rs → QsOk rs qs → (∀ c ∈ t, c ∈ sg) → (rowWalk rs qs t).2.length ≤ t.length * 3 ^ rs.length ∧ ∀ c ∈ (rowWalk rs qs t).2, c ∈ lastT sg rs
  | _, [], [], t, _, _, ht => ⟨by show t.length ≤ t.length * 1; omega, ht⟩
  | sg, r :: rs, q :: qs, t, h, hq, ht => by
    obtain ⟨w1, w2, w3⟩ := walk_ok h.2.1 t q [] hq.1 fun c hc => h.1 c (ht c hc)
    rw [List.length_nil, Nat.zero_add] at w2
    obtain ⟨u1, u2⟩ := walk_told (rs := rs) (qs := qs) h.2.2 hq.2 (w3 fun c hc => by cases hc)
    refine ⟨Nat.le_trans u1 ?_, u2⟩
    rw [List.length_cons, Nat.pow_succ]
    have := Nat.mul_le_mul_right (3 ^ rs.length) w2
    calc _ ≤ 3 * t.length * 3 ^ rs.length := this
      _ = t.length * (3 ^ rs.length * 3) := by rw [Nat.mul_comm 3 t.length, Nat.mul_assoc, Nat.mul_comm 3]
  | _, [], _ :: _, _, _, h, _ => h.elim
  | _, _ :: _, [], _, _, h, _ => h.elim
theorem end_told : ∀ {sg : List Nat} {rs : List Rdr} {qs t u : List Nat}, RowIn sg rs → QsOk rs qs → (∀ c ∈ t, c ∈ sg) → rowEnd rs qs t = some u → u.length + 2 ≤ (t.length + 2) * 3 ^ rs.length ∧ ∀ c ∈ u, c ∈ lastT sg rs
  | _, [], [], t, u, _, _, ht, e => by
    have e' : t = u := Option.some.inj e
    subst e'
    exact ⟨by show t.length + 2 ≤ (t.length + 2) * 1; omega, ht⟩
  | sg, r :: rs, q :: qs, t, u, h, hq, ht, e => by
    obtain ⟨w1, w2, w3⟩ := walk_ok h.2.1 t q [] hq.1 fun c hc => h.1 c (ht c hc)
    rw [List.length_nil, Nat.zero_add] at w2
    unfold rowEnd at e
    cases q2 : endR r (walkR r q [] t).1 with
    | none => rw [q2] at e; cases e
    | some f =>
      rw [q2] at e
      have hf := h.2.1.end_ w1 q2
      obtain ⟨u1, u2⟩ := end_told (rs := rs) (qs := qs) h.2.2 hq.2 (fun c hc => by
        rcases List.mem_append.mp hc with hc | hc
        · exact w3 (fun c hc => by cases hc) c hc
        · exact hf.1 c hc) e
      refine ⟨Nat.le_trans u1 ?_, u2⟩
      have l1 : ((walkR r q [] t).2 ++ f).length + 2 ≤ 3 * (t.length + 2) := by
        rw [List.length_append]
        have := hf.2
        omega
      have := Nat.mul_le_mul_right (3 ^ rs.length) l1
      rw [List.length_cons, Nat.pow_succ]
      calc _ ≤ 3 * (t.length + 2) * 3 ^ rs.length := this
        _ = (t.length + 2) * (3 ^ rs.length * 3) := by rw [Nat.mul_comm 3 (t.length + 2), Nat.mul_assoc, Nat.mul_comm 3]
  | _, [], _ :: _, _, _, _, h, _, _ => h.elim
  | _, _ :: _, [], _, _, _, h, _, _ => h.elim
theorem mul_t {l : List D} {x : Int} {S : Sto} {k : KW} (h : l ≠ [] ∧ l.length ≤ 1000 ∧ 1 ≤ x ∧ x ≤ 1000) (q : k (.val (.tup (List.replicate x.toNat l).flatten)) S) : mulD (.tup l) (.int x) S k := ⟨h, q⟩
theorem rowEnd_none {r : Rdr} {rs : List Rdr} {q : Nat} {qs t : List Nat} (h : endR r (walkR r q [] t).1 = none) : rowEnd (r :: rs) (q :: qs) t = none := by
  show (match endR r (walkR r q [] t).1 with
    | none => none
    | some e => rowEnd rs qs ((walkR r q [] t).2 ++ e)) = none
  rw [h]
theorem rowEnd_some {r : Rdr} {rs : List Rdr} {q : Nat} {qs t f : List Nat} (h : endR r (walkR r q [] t).1 = some f) : rowEnd (r :: rs) (q :: qs) t = rowEnd rs qs ((walkR r q [] t).2 ++ f) := by
  show (match endR r (walkR r q [] t).1 with
    | none => none
    | some e => rowEnd rs qs ((walkR r q [] t).2 ++ e)) = _
  rw [h]
theorem bound_step {a b k : Nat} (h : b ≤ 3 * a) (h2 : a * 3 ^ (k + 1) ≤ 900000) : b * 3 ^ k ≤ 900000 ∧ 3 * a ≤ 900000 := by
  rw [Nat.pow_succ] at h2
  have h3 : 3 * a * 3 ^ k ≤ 900000 := by
    rw [show 3 * a * 3 ^ k = a * (3 ^ k * 3) by rw [Nat.mul_comm 3 a, Nat.mul_assoc, Nat.mul_comm 3]]
    exact h2
  have h4 : 3 * a * 1 ≤ 3 * a * 3 ^ k := Nat.mul_le_mul_left _ (Nat.pow_pos (by decide))
  exact ⟨Nat.le_trans (Nat.mul_le_mul_right _ h) h3, by omega⟩
end Fo
/-! RowL: rows read, by the law's own walk; the whole telling. -/
namespace Fo
open PySem PySem.Spec PyProof.Rows L2
theorem nil_of_zip {rs : List Rdr} {qs : List Nat} (h : QsOk rs qs) (e : [] = zipL (rs.map rdrD) (qs.map natD)) : rs = [] ∧ qs = [] := by
  cases rs with
  | nil => cases qs with
    | nil => exact ⟨rfl, rfl⟩
    | cons => exact h.elim
  | cons => cases qs with
    | nil => exact h.elim
    | cons => cases e
theorem t_law_row_on_ok {rs : List Rdr} {qs t sg : List Nat} (h : RowIn sg rs) (hq : QsOk rs qs) (ht : ∀ c ∈ t, c ∈ sg) (hr : rs.length ≤ 8) (hb : (t.length + 2) * 3 ^ rs.length ≤ 900000)
    {k : KW} (hk : k (.val (.tup [qsD (rowWalk rs qs t).1, .str (rowWalk rs qs t).2])) []) : t__law_row_on [.val (rowD rs), .val (qsD qs), .val (.str t)] [] k := by
  unfold t__law_row_on rowD qsD
  refine mfun_of ?_
  sizeOf_list_dec
  sizeOf_list_dec
  refine for_inv (fun r2 ρ S => ∃ (rs2 : List Rdr) (qs2 t2 sg2 done : List Nat) (x4 x5 : Option W), r2 = zipL (rs2.map rdrD) (qs2.map natD) ∧ ρ = [some (.val (.tup (rs.map rdrD))), some (.val (.tup (qs.map natD))), some (.val (.str t2)), some (.ref 0), x4, x5] ∧ S = [.lst (done.map natD)] ∧
    RowIn sg2 rs2 ∧ QsOk rs2 qs2 ∧ (∀ c ∈ t2, c ∈ sg2) ∧ (t2.length + 2) * 3 ^ rs2.length ≤ 900000 ∧ done ++ (rowWalk rs2 qs2 t2).1 = (rowWalk rs qs t).1 ∧ (rowWalk rs2 qs2 t2).2 = (rowWalk rs qs t).2 ∧ done.length + rs2.length ≤ 8) ?_ ?_ _ _ _ ?_
  · rintro ρ S ⟨rs2, qs2, t2, sg2, done, x4, x5, e, rfl, rfl, h2, hq2, ht2, hb2, w1, w2, hd⟩
    obtain ⟨rfl, rfl⟩ := nil_of_zip hq2 e
    have w1' : done = (rowWalk rs qs t).1 := by rw [← w1]; exact (List.append_nil _).symm
    have w2' : t2 = (rowWalk rs qs t).2 := w2
    subst w1' w2'
    array_mem_dec
    exact hk
  · rintro d r2 ρ S K hK ⟨rs2, qs2, t2, sg2, done, x4, x5, e, rfl, rfl, h2, hq2, ht2, hb2, w1, w2, hd⟩
    cases rs2 with
    | nil => cases e
    | cons r rs2 => cases qs2 with
      | nil => exact hq2.elim
      | cons q qs2 =>
        have e' : d :: r2 = .tup [rdrD r, natD q] :: zipL (rs2.map rdrD) (qs2.map natD) := e
        injection e' with e1 e2
        subst e1 e2
        rw [List.length_cons] at hd hb2
        have hin : ∀ c ∈ t2, c ∈ r.reads := fun c hc => h2.1 c (ht2 c hc)
        obtain ⟨v1, v2, v3⟩ := walk_ok h2.2.1 t2 q [] hq2.1 hin
        rw [List.length_nil, Nat.zero_add] at v2
        obtain ⟨b1, b2⟩ := bound_step (b := (walkR r q [] t2).2.length + 2) (by omega) hb2
        array_mem_dec
        unfold natD
        sizeOf_list_dec
        refine call_0 rfl (t_law_read_ok h2.2.1 hq2.1 hin (by omega) ?_ (Nat.le_trans h2.2.1.sr.le (by decide))) m__law_read_on
        show gTupM _ (W.val (.tup [.int ((walkR r q [] t2).1 : Nat), .str (walkR r q [] t2).2])) _ _ _
        array_mem_dec
        refine append_i (by rw [List.length_map]; unfold sizeLine; omega) ?_
        refine hK _ _ ⟨rs2, qs2, (walkR r q [] t2).2, r.tells, done ++ [(walkR r q [] t2).1], _, _, rfl, rfl, by rw [List.map_append]; rfl, h2.2.2, hq2.2, v3 fun c hc => (by cases hc), b1, ?_, w2, by rw [List.length_append]; show done.length + 1 + _ ≤ 8; omega⟩
        rw [List.append_assoc]
        exact w1
  · exact ⟨rs, qs, t, sg, [], none, none, rfl, rfl, rfl, h, hq, ht, hb, rfl, rfl, by show 0 + _ ≤ 8; omega⟩
/-- a state's end, looked up -/
theorem end_ix {r : Rdr} {n e q i j : Nat} {ρ : Rho} {S : Sto} {k : KW} (hr : RdOk n e r) (hq : q < r.sts.length) (h1 : ρ[i]? = some (some (.val (rdrD r)))) (h2 : ρ[j]? = some (some (.val (.int (q : Nat))))) (hk : k (.val (optD (endR r q))) S) :
    (mBin ixD (mBin ixD (mBin ixD (mVar i) (mC (.int 2))) (mVar j)) (mC (.int 1))) ρ S k := by
  refine mBin_i (mBin_i (mBin_i (mVar_i h1 ?_)))
  unfold rdrD
  refine mC_i (rd_v (rd_v (ix_t (d := .tup (r.sts.map sttD)) rfl (mVar_i h2 ?_))))
  refine rd_v (rd_v (ix_t (d := sttD (atR r.sts ([], none) q)) (atI_nat (by rw [List.getElem?_map, atR_of hq]; rfl)) ?_))
  exact mC_i (rd_v (rd_v (ix_t (d := optD (endR r q)) rfl hk)))
theorem t_law_row_end_ok {rs : List Rdr} {qs sg : List Nat} (h : RowIn sg rs) (hq : QsOk rs qs) (hr : rs.length ≤ 8) {k : KW} (hk : k (.val (optD (rowEnd rs qs []))) []) :
    t__law_row_end [.val (rowD rs), .val (qsD qs)] [] k := by
  unfold t__law_row_end rowD qsD
  refine mfun_of ?_
  sizeOf_list_dec
  sizeOf_list_dec
  refine for_inv (fun r2 ρ S => ∃ (rs2 : List Rdr) (qs2 t2 sg2 : List Nat) (x3 x4 x5 : Option W), r2 = zipL (rs2.map rdrD) (qs2.map natD) ∧ ρ = [some (.val (.tup (rs.map rdrD))), some (.val (.tup (qs.map natD))), some (.val (.str t2)), x3, x4, x5] ∧ S = [] ∧
    RowIn sg2 rs2 ∧ QsOk rs2 qs2 ∧ (∀ c ∈ t2, c ∈ sg2) ∧ (t2.length + 2) * 3 ^ rs2.length ≤ 900000 ∧ rowEnd rs2 qs2 t2 = rowEnd rs qs []) ?_ ?_ _ _ _ ?_
  · rintro ρ S ⟨rs2, qs2, t2, sg2, x3, x4, x5, e, rfl, rfl, h2, hq2, ht2, hb2, w1⟩
    obtain ⟨rfl, rfl⟩ := nil_of_zip hq2 e
    have w1' : some t2 = rowEnd rs qs [] := w1
    rw [← w1'] at hk
    array_mem_dec
    exact hk
  · rintro d r2 ρ S K hK ⟨rs2, qs2, t2, sg2, x3, x4, x5, e, rfl, rfl, h2, hq2, ht2, hb2, w1⟩
    cases rs2 with
    | nil => cases e
    | cons r rs2 => cases qs2 with
      | nil => exact hq2.elim
      | cons q qs2 =>
        have e' : d :: r2 = .tup [rdrD r, natD q] :: zipL (rs2.map rdrD) (qs2.map natD) := e
        injection e' with e1 e2
        subst e1 e2
        rw [List.length_cons] at hb2
        have hin : ∀ c ∈ t2, c ∈ r.reads := fun c hc => h2.1 c (ht2 c hc)
        obtain ⟨v1, v2, v3⟩ := walk_ok h2.2.1 t2 q [] hq2.1 hin
        rw [List.length_nil, Nat.zero_add] at v2
        array_mem_dec
        unfold natD
        sizeOf_list_dec
        refine call_0 rfl (t_law_read_ok h2.2.1 hq2.1 hin (by have := bound_step (Nat.le_refl _) hb2; omega) ?_ (Nat.le_trans h2.2.1.sr.le (by decide))) m__law_read_on
        show gTupM _ (W.val (.tup [.int ((walkR r q [] t2).1 : Nat), .str (walkR r q [] t2).2])) _ _ _
        array_mem_dec
        (try dsimp only)
        refine sSeq_i (sIf_i (mCond_i (mBin_i ?_)))
        refine end_ix h2.2.1 v1 rfl rfl ?_
        cases q2 : endR r (walkR r q [] t2).1 with
        | none =>
          rw [rowEnd_none q2] at w1
          rw [← w1] at hk
          array_mem_dec
          exact hk
        | some f =>
          rw [rowEnd_some q2] at w1
          have hf := h2.2.1.end_ v1 q2
          have hf2 := hf.2
          obtain ⟨b1, b2⟩ := bound_step (b := ((walkR r q [] t2).2 ++ f).length + 2) (by rw [List.length_append]; omega) hb2
          unfold optD
          array_mem_dec
          unfold rdrD
          array_mem_dec
          refine ix_t (d := sttD (atR r.sts ([], none) (walkR r q [] t2).1)) (atI_nat (by rw [List.getElem?_map, atR_of v1]; rfl)) ?_
          array_mem_dec
          refine ix_t (d := optD (endR r (walkR r q [] t2).1)) rfl ?_
          rw [q2]
          unfold optD
          array_mem_dec
          refine add_s (by unfold sizeLine; omega) ?_
          refine hK _ _ ⟨rs2, qs2, (walkR r q [] t2).2 ++ f, r.tells, _, _, _, rfl, rfl, rfl, h2.2.2, hq2.2, fun c hc => ?_, b1, w1⟩
          rcases List.mem_append.mp hc with hc | hc
          · exact v3 (fun c hc => by cases hc) c hc
          · exact hf.1 c hc
  · refine ⟨rs, qs, [], sg, none, none, none, rfl, rfl, rfl, h, hq, (fun c hc => by cases hc), ?_, rfl⟩
    have := Nat.pow_le_pow_right (n := 3) (by decide) hr
    show (0 + 2) * _ ≤ _
    omega
/-! ### read in parts -/
end Fo
/-! RowW: rows drawn. -/
namespace Fo
open PySem PySem.Spec PyProof.Rows L2
theorem rises_take : ∀ {l : List (List Nat)} (n : Nat), rises l → rises (l.take n)
  | _, 0, _ => trivial
  | [], _ + 1, _ => trivial
  | [_], _ + 1, _ => by
    rw [List.take_succ_cons, List.take_nil]
    trivial
  | x :: y :: r, 1, _ => trivial
  | x :: y :: r, n + 2, h => ⟨h.1, rises_take (l := y :: r) (n + 1) h.2⟩
theorem Sg.take {t : List Nat} (h : Sg t) (n : Nat) : Sg (t.take n) :=
  ⟨h.nd.sublist (List.take_sublist n t), by rw [List.map_take]; exact rises_take n h.up, fun c hc => h.pool c (List.mem_of_mem_take hc)⟩
theorem rises_up : ∀ {us : List Nat}, us.Pairwise (· < ·) → rises (us.map fun c => [c])
  | [], _ => trivial
  | [_], _ => trivial
  | x :: y :: r, h => by
    obtain ⟨h1, h2⟩ := List.pairwise_cons.mp h
    refine ⟨fun z => ?_, rises_up (us := y :: r) h2⟩
    have := h1 y List.mem_cons_self
    cases z with
    | rel z => omega
    | cons z => cases z
theorem Sg.of_up {us : List Nat} (h : us.Pairwise (· < ·)) (hp : ∀ c ∈ us, c ∈ poolS) : Sg us :=
  ⟨h.imp fun z => Nat.ne_of_lt z, rises_up h, hp⟩
theorem strsOf_map : ∀ ts : List (List Nat), strsOf (ts.map D.str) = some ts
  | [] => rfl
  | t :: ts => by
    show (strsOf (ts.map D.str)).map (t :: ·) = _
    rw [strsOf_map ts]
    rfl
theorem sset_l {ts : List (List Nat)} {S : Sto} {k : List D → Sto → Prop} (h : ts.length < 4000) (q : ∀ us : List (List Nat), us.Nodup → rises us → (∀ t, t ∈ us ↔ t ∈ ts) → k (us.map D.str) S) : ssetF [.lst (ts.map D.str)] S k := by
  unfold ssetF
  simp only [strsOf_map]
  exact ⟨h, q⟩
theorem RowIn.snoc {r : Rdr} : ∀ {sg : List Nat} {rs : List Rdr}, RowIn sg rs → (∀ c ∈ lastT sg rs, c ∈ r.reads) → RdOk 3 3 r → RowIn sg (rs ++ [r])
  | _, [], _, h, ok => ⟨h, ok, trivial⟩
  | _, _ :: rs, h, l, ok => ⟨h.1, h.2.1, RowIn.snoc (rs := rs) h.2.2 l ok⟩
theorem lastT_snoc {r : Rdr} : ∀ {sg : List Nat} {rs : List Rdr}, lastT sg (rs ++ [r]) = r.tells
  | _, [] => rfl
  | _, _ :: rs => lastT_snoc (rs := rs)
/-- a drawn reader's size -/
structure RdSmall (size : Nat) (r : Rdr) : Prop where
  r0 : r.reads ≠ []
  t0 : r.tells ≠ []
  r9 : r.reads.length ≤ 9
  t3 : r.tells.length ≤ 3
  s8 : r.sts.length ≤ size
structure RowDrawn (sg : List Nat) (often size : Nat) (rs : List Rdr) : Prop where
  row : RowIn sg rs
  small : ∀ r ∈ rs, RdSmall size r
  head : ∃ r rs', rs = r :: rs' ∧ r.reads = sg
  len : rs.length ≤ often
theorem atI_last {α : Type} {l : List α} {x : α} : atI (l ++ [x]) (-1) = some x := by
  unfold atI ixN
  rw [if_neg (by decide), if_pos (by rw [List.length_append]; show _ ≤ (-1 : Int); simp; omega)]
  rw [List.length_append]
  show (l ++ [x])[((-1 : Int) + ((l.length + 1 : Nat) : Int)).toNat]? = some x
  rw [show ((-1 : Int) + ((l.length + 1 : Nat) : Int)).toNat = l.length by omega]
  simp
end Fo
/-! Wr8: a drawn row, no reader of which reads more than eight signs. -/
/-! Eqv: data without truths are alike just where they are the same. -/
namespace Fo
open PySem PySem.Spec PyProof.Rows L2
mutual
def Pl : D → Prop
  | .non => True
  | .int _ => True
  | .str _ => True
  | .tup l => Pls l
  | .lst l => Pls l
  | _ => False
def Pls : List D → Prop
  | [] => True
  | d :: ds => Pl d ∧ Pls ds
end
mutual
theorem eqv_pl : ∀ {a b : D}, Pl a → Pl b → (PyData.eqv (py a) (py b) = true ↔ a = b)
  | .non, b, _, hb => by
    cases b <;> first | (simp [py, PyData.eqv]; done) | (unfold Pl at hb; exact hb.elim)
  | .int i, b, _, hb => by
    cases b <;> first | (simp [py, PyData.eqv]; done) | (unfold Pl at hb; exact hb.elim)
  | .str s, b, _, hb => by
    cases b <;> first | (simp [py, PyData.eqv, tx_inj]; done) | (unfold Pl at hb; exact hb.elim)
  | .tup l, b, ha, hb => by
    cases b with
    | tup m =>
      unfold Pl at ha hb
      have := eqv_pls ha hb
      simp only [py, PyData.eqv, D.tup.injEq]
      exact this
    | _ => first | (simp [py, PyData.eqv]; done) | (unfold Pl at hb; exact hb.elim)
  | .lst l, b, ha, hb => by
    cases b with
    | lst m =>
      unfold Pl at ha hb
      have := eqv_pls ha hb
      simp only [py, PyData.eqv, D.lst.injEq]
      exact this
    | _ => first | (simp [py, PyData.eqv]; done) | (unfold Pl at hb; exact hb.elim)
  | .bl _, _, ha, _ => by unfold Pl at ha; exact ha.elim
  | .dct _ _, _, ha, _ => by unfold Pl at ha; exact ha.elim
  | .scr _, _, ha, _ => by unfold Pl at ha; exact ha.elim
theorem eqv_pls : ∀ {a b : List D}, Pls a → Pls b → (PyData.eqvAll (pys a) (pys b) = true ↔ a = b)
  | [], [], _, _ => by simp [pys, PyData.eqvAll]
  | [], _ :: _, _, _ => by simp [pys, PyData.eqvAll]
  | _ :: _, [], _, _ => by simp [pys, PyData.eqvAll]
  | a :: as, b :: bs, ha, hb => by
    unfold Pls at ha hb
    simp only [pys, PyData.eqvAll, Bool.and_eq_true, List.cons.injEq]
    rw [eqv_pl ha.1 hb.1, eqv_pls ha.2 hb.2]
end
theorem any_pl {d : D} (hd : Pl d) : ∀ {l : List D}, (∀ x ∈ l, Pl x) → ((pys l).any (fun z => PyData.eqv z (py d)) = true ↔ d ∈ l)
  | [], _ => by simp [pys]
  | a :: l, h => by
    have ih := any_pl hd (l := l) fun x hx => h x (List.mem_cons_of_mem _ hx)
    show (PyData.eqv (py a) (py d) || (pys l).any _) = true ↔ _
    rw [Bool.or_eq_true, ih, eqv_pl (h a List.mem_cons_self) hd, List.mem_cons]
    exact ⟨fun z => z.imp (fun e => e.symm) id, fun z => z.imp (fun e => e.symm) id⟩
theorem in_pl {α : Type} [BEq α] [LawfulBEq α] {f : α → D} (inj : ∀ x y, f x = f y → x = y) {neg : Bool} {l : List α} {a : α} {S : Sto} {k : KW} (hl : ∀ x, Pl (f x)) (h1 : shp (f a)) (h2 : shp (.lst (l.map f))) (q : k (.val (.bl (decide (a ∈ l) != neg))) S) : inD neg (f a) (.lst (l.map f)) S k := by
  refine ⟨h1, h2, ?_⟩
  have e : (pys (l.map f)).any (fun z => PyData.eqv z (py (f a))) = decide (a ∈ l) := by
    rw [Bool.eq_iff_iff, any_pl (hl a) (l := l.map f) (fun x hx => by
      obtain ⟨y, _, rfl⟩ := List.mem_map.mp hx
      exact hl y), decide_eq_true_eq, List.mem_map]
    exact ⟨fun ⟨y, h, e⟩ => inj _ _ e ▸ h, fun h => ⟨a, h, rfl⟩⟩
  rw [e]
  exact q
end Fo
/-! Lw1: the first word, words without end. -/
namespace Fo
open PySem PySem.Spec PyProof.Rows L2
theorem pool_lt3 : ∀ c ∈ poolS, c < 256 := by decide +kernel
theorem nats_shp (l : List Nat) : shp (.lst (l.map natD)) := by
  obtain ⟨h1, h2⟩ := ints_shp (l := l.map natD) fun x hx => by
    obtain ⟨i, _, rfl⟩ := List.mem_map.mp hx
    exact ⟨_, rfl⟩
  show (PyData.canLayAll0 (pys (l.map natD)) && decide (PyData.depthAll (pys (l.map natD)) + 1 ≤ 64)) = true
  rw [h1, h2]
  rfl
theorem natD_inj2 {a b : Nat} (h : natD a = natD b) : a = b := by
  unfold natD at h
  injection h with h
  omega
theorem pl_nat (a : Nat) : Pl (natD a) := by
  unfold natD Pl
  trivial
theorem h0 (l : Lot) : onL l (some 0) [] = some 0 := rfl
theorem sg_up {t : List Nat} (h : Sg t) : t.Pairwise (· < ·) := rises_one (List.Pairwise.map (fun c => [c]) (fun _ _ hne e => hne (by injection e)) h.nd) h.up
end Fo
/-! Lw2: words without end; all texts; how a lot stands otherwise. -/
namespace Fo
open PySem PySem.Spec PyProof.Rows L2
theorem boolsOf_map : ∀ bs : List Bool, boolsOf (bs.map D.bl) = some bs
  | [] => rfl
  | b :: bs => by
    show (boolsOf (bs.map D.bl)).map (b :: ·) = _
    rw [boolsOf_map bs]
    rfl
theorem all_l {bs : List Bool} {S : Sto} {k : KW} (q : k (.val (.bl (bs.all id))) S) : allC [.lst (bs.map D.bl)] S k := by
  unfold allC foldC
  simp only [boolsOf_map]
  exact q
theorem rng_step {i n : Nat} {d : D} {r : List D} (h : d :: r = rangeL (i : Nat) (d :: r).length) : d = .int (i : Nat) ∧ r = rangeL ((i + 1 : Nat) : Int) r.length := by
  rw [List.length_cons, rng_cons] at h
  injection h with h1 h2
  exact ⟨h1, by rw [h2]; simp [rangeL]⟩
end Fo
/-! Draw2: signs drawn by steps; rows that read what the one ahead tells. -/
-- v3
local macro_rules | `(tactic| bv_omega) => `(tactic| repeat (first | (with_reducible refine Fo.sSeq_i ?_) | (with_reducible refine Fo.sNext_i ?_) | (with_reducible refine Fo.sBrk_i ?_) | (with_reducible refine Fo.sCont_i ?_) | (with_reducible refine Fo.sExpr_i ?_) | (with_reducible refine Fo.sRet_i ?_) | (with_reducible refine Fo.sRetN_i ?_) | (with_reducible refine Fo.sIf_i ?_) | (with_reducible refine Fo.sSet_i ?_) | (with_reducible refine Fo.sAsg_i ?_) | (with_reducible refine Fo.sPar_i ?_) | (with_reducible refine Fo.mC_i ?_) | (with_reducible refine Fo.mBin_i ?_) | (with_reducible refine Fo.mCond_i ?_) | (with_reducible refine Fo.cAnd_i ?_) | (with_reducible refine Fo.cOr_i ?_) | (with_reducible refine Fo.cNot_i ?_) | (with_reducible refine Fo.cYes_i ?_) | (with_reducible refine Fo.mIf_i ?_) | (with_reducible refine Fo.mAnd_i ?_) | (with_reducible refine Fo.mOr_i ?_) | (with_reducible refine Fo.mNot_i ?_) | (with_reducible refine Fo.mNeg_i ?_) | (with_reducible refine Fo.mChain_i ?_) | (with_reducible refine Fo.mSlice_i ?_) | (with_reducible refine Fo.mRev_i ?_) | (with_reducible refine Fo.aNil_i ?_) | (with_reducible refine Fo.aCons_i ?_) | (with_reducible refine Fo.mVal_i ?_) | (with_reducible refine Fo.mCell_i ?_) | (with_reducible refine Fo.nLst_i ?_) | (with_reducible refine Fo.mTup_i ?_) | (with_reducible refine Fo.mCallB_i ?_) | (with_reducible refine Fo.nCallB_i ?_) | (with_reducible refine Fo.mIsi_i ?_) | (with_reducible refine Fo.mIsiT_i ?_) | (with_reducible refine Fo.mMethC_i ?_) | (with_reducible refine Fo.mMethC0_i ?_) | (with_reducible refine Fo.mMethS_i ?_) | (with_reducible refine Fo.mIndexL_i ?_) | (with_reducible refine Fo.iVal_i ?_) | (with_reducible refine Fo.iRange1_i ?_) | (with_reducible refine Fo.iRange2_i ?_) | (with_reducible refine Fo.iEnumL_i ?_) | (with_reducible refine Fo.iZip_i ?_) | (with_reducible refine Fo.iZip2_i ?_) | (with_reducible refine Fo.iZip3_i ?_) | (with_reducible refine Fo.asZ2_i ?_) | (with_reducible refine Fo.asZ3_i ?_) | (with_reducible refine Fo.iEnum1_i ?_) | (with_reducible refine Fo.asE1_i ?_) | (with_reducible refine Fo.nBin_i ?_) | (with_reducible refine Fo.sAugX_i ?_) | (with_reducible refine Fo.sFor_i ?_) | (with_reducible refine Fo.nLC_i ?_) | (with_reducible refine Fo.mCall_i ?_) | (with_reducible refine Fo.mCallK_i ?_) | (with_reducible refine Fo.gVar_i ?_) | (with_reducible refine Fo.gTupM_i ?_) | (with_reducible refine Fo.gsCons_i ?_) | (with_reducible refine Fo.gsNil_i ?_) | (with_reducible refine Fo.gIx_i ?_) | (with_reducible refine Fo.asB_i ?_) | (with_reducible refine Fo.asI_i ?_) | (with_reducible refine Fo.asS_i ?_) | (with_reducible refine Fo.oNo_i ?_) | (with_reducible refine Fo.oAt_i ?_) | (with_reducible refine Fo.asI1_i ?_) | (with_reducible refine Fo.asI2_i ?_) | (with_reducible refine Fo.asL1_i ?_) | (with_reducible refine Fo.rd_v ?_) | (with_reducible refine Fo.par_i ?_) | (with_reducible refine Fo.vals_n ?_) | (with_reducible refine Fo.vals_c ?_) | (with_reducible refine Fo.rds_n ?_) | (with_reducible refine Fo.rds_c ?_) | (with_reducible refine Fo.add_i ?_) | (with_reducible refine Fo.iadd_i ?_) | (with_reducible refine Fo.sub_i ?_) | (with_reducible refine Fo.lt_i ?_) | (with_reducible refine Fo.le_i ?_) | (with_reducible refine Fo.gt_i ?_) | (with_reducible refine Fo.ge_i ?_) | (with_reducible refine Fo.lt_s ?_) | (with_reducible refine Fo.le_s ?_) | (with_reducible refine Fo.gt_s ?_) | (with_reducible refine Fo.ge_s ?_) | (with_reducible refine Fo.is_n ?_) | (with_reducible refine Fo.is_b ?_) | (with_reducible refine Fo.eq_i ?_) | (with_reducible refine Fo.eq_s ?_) | (with_reducible refine Fo.eq_b ?_) | (with_reducible refine Fo.in_s ?_) | (with_reducible refine Fo.sl_t ?_) | (with_reducible refine Fo.sl_l ?_) | (with_reducible refine Fo.sl_c ?_) | (with_reducible refine Fo.len_l ?_) | (with_reducible refine Fo.len_t ?_) | (with_reducible refine Fo.min2_i ?_) | (with_reducible refine Fo.tuple_l ?_) | (with_reducible refine Fo.tuple_t ?_) | (with_reducible refine Fo.listF_l ?_) | (with_reducible refine Fo.listF_t ?_) | (with_reducible refine Fo.itV_l ?_) | (with_reducible refine Fo.itV_t ?_) | (with_reducible refine Fo.itV_s ?_) | (with_reducible refine Fo.asZ_l ?_) | (with_reducible refine Fo.asZ_t ?_) | (with_reducible refine Fo.lstW_v ?_) | (with_reducible refine Fo.rev_t ?_) | (with_reducible refine Fo.rev_l ?_) | (with_reducible refine Fo.seqW_l ?_) | (with_reducible refine Fo.seqW_t ?_) | (with_reducible refine Fo.seqW_s ?_) | (with_reducible refine Fo.nostrict ?_) | (with_reducible refine Fo.int1_b ?_) | (with_reducible refine Fo.int1_i ?_) | ((with_reducible refine Fo.mVar_i (w := ?_) ?_ ?_); (rotate_left); (exact rfl)) | ((with_reducible refine Fo.rd_l (l := ?_) ?_ ?_); (rotate_left); (exact rfl)) | ((with_reducible refine Fo.lstW_r (l := ?_) ?_ ?_); (rotate_left); (exact rfl)) | ((with_reducible refine Fo.sAug_i (w := ?_) ?_ ?_); (rotate_left); (exact rfl)) | ((with_reducible refine Fo.asCell_i (l := ?_) ?_ ?_); (rotate_left); (exact rfl)) | ((with_reducible refine Fo.mFrz_v (d := ?_) ?_ ?_); (rotate_left); (exact rfl)) | ((with_reducible refine Fo.rd_d (ks := ?_) (ws := ?_) ?_ ?_); (rotate_left 2); (exact rfl)) | ((with_reducible refine Fo.mFrz_r (n := ?_) (l := ?_) ?_ ?_ ?_); (rotate_left 2); (exact rfl); (exact rfl)) | ((with_reducible refine Fo.gput_i (p := ?_) ?_ ?_); (rotate_left); (exact rfl)) | ((with_reducible refine Fo.mod_i ?_ ?_); (omega)) | ((with_reducible refine Fo.pow_i ?_ ?_); (exact ⟨by omega, by omega, by omega⟩)) | ((with_reducible refine Fo.mul_i ?_ ?_); (unfold L2.CMul; omega)) | ((with_reducible refine Fo.fdiv_i ?_ ?_); (unfold L2.CDiv; omega)) | (with_reducible refine Fo.if_t rfl ?_) | (with_reducible refine Fo.if_f rfl ?_) | (with_reducible refine Fo.fin_v ?_) | (dsimp only) | (with_reducible refine Fo.ix_t0 ?_) | (with_reducible refine Fo.ix_t1 ?_) | (with_reducible refine Fo.ix_t2 ?_) | (with_reducible refine Fo.ix_l0 ?_) | (with_reducible refine Fo.ix_l1 ?_) | (with_reducible refine Fo.ix_l2 ?_) | (with_reducible refine Fo.ix_l3 ?_) | ((with_reducible refine And.intro ?_ ?_); ((try simp only [List.length_append, List.length_cons, List.length_nil, List.length_reverse]); (try unfold PySem.sizeLine); omega)) | ((with_reducible refine Fo.add_l ?_ ?_); ((try simp only [List.length_append, List.length_cons, List.length_nil, List.length_reverse]); (try unfold PySem.sizeLine); omega)) | ((with_reducible refine Fo.addN_l ?_ ?_); ((try simp only [List.length_append, List.length_cons, List.length_nil, List.length_reverse]); (try unfold PySem.sizeLine); omega)) | ((with_reducible refine Fo.add_t ?_ ?_); ((try simp only [List.length_append, List.length_cons, List.length_nil, List.length_reverse]); (try unfold PySem.sizeLine); omega)) | ((with_reducible refine Fo.add_s ?_ ?_); ((try simp only [List.length_append, List.length_cons, List.length_nil, List.length_reverse]); (try unfold PySem.sizeLine); omega)) | ((with_reducible refine Fo.append_i ?_ ?_); ((try simp only [List.length_append, List.length_cons, List.length_nil, List.length_reverse]); (try unfold PySem.sizeLine); omega)) | ((with_reducible refine Fo.sl_s ?_ ?_); ((try simp only [List.length_append, List.length_cons, List.length_nil, List.length_reverse]); (try unfold PySem.sizeLine); omega)) | ((with_reducible refine Fo.len_s ?_ ?_); ((try simp only [List.length_append, List.length_cons, List.length_nil, List.length_reverse]); (try unfold PySem.sizeLine); omega)) | ((with_reducible refine Fo.rev_s ?_ ?_); ((try simp only [List.length_append, List.length_cons, List.length_nil, List.length_reverse]); (try unfold PySem.sizeLine); omega)) | (with_reducible refine Fo.mDct0_i ?_) | (with_reducible refine Fo.mDct1_i ?_) | (with_reducible refine Fo.mDct3_i ?_) | (with_reducible refine Fo.mDGet_i ?_) | (with_reducible refine Fo.mDGet2_i ?_) | (with_reducible refine Fo.sDPut_i ?_) | (with_reducible refine Fo.mDNew_i ?_) | (with_reducible refine Fo.mDNew1_i ?_) | (with_reducible refine Fo.mDGetT_i ?_) | (with_reducible refine Fo.sDPutT_i ?_) | (with_reducible refine Fo.mDNewT_i ?_) | (with_reducible refine Fo.sPar3_i ?_) | (with_reducible refine Fo.par3_i ?_) | (with_reducible refine Fo.asDic_v ?_) | (with_reducible refine Fo.keyW_i ?_) | (with_reducible refine Fo.keyW_s ?_) | ((with_reducible refine Fo.asDic_r (ks := ?_) (ws := ?_) ?_ ?_); (rotate_left 2); (exact rfl)) | ((with_reducible refine Fo.dicC_r (ks := ?_) (ws := ?_) ?_ ?_); (rotate_left 2); (exact rfl)) | ((with_reducible refine Fo.add_s ?_ ?_); (first | exact Nat.le_of_ble_eq_true rfl | (unfold PySem.sizeLine; omega) | omega)) | ((with_reducible refine Fo.len_s ?_ ?_); (first | exact Nat.le_of_ble_eq_true rfl | (unfold PySem.sizeLine; omega) | omega)) | ((with_reducible refine Fo.iadd_s ?_ ?_); (first | exact Nat.le_of_ble_eq_true rfl | (unfold PySem.sizeLine; omega) | omega)) | ((with_reducible refine Fo.dct3_i ?_ ?_); (exact ⟨by decide, by decide, by decide⟩))))
local macro_rules | `(tactic| and_intros) => `(tactic| repeat (first | (with_reducible refine Fo.sNext_i ?_) | (with_reducible refine Fo.sBrk_i ?_) | (with_reducible refine Fo.sCont_i ?_) | (with_reducible refine Fo.sExpr_i ?_) | (with_reducible refine Fo.sRet_i ?_) | (with_reducible refine Fo.sRetN_i ?_) | (with_reducible refine Fo.sIf_i ?_) | (with_reducible refine Fo.sSet_i ?_) | (with_reducible refine Fo.sAsg_i ?_) | (with_reducible refine Fo.sPar_i ?_) | (with_reducible refine Fo.mC_i ?_) | (with_reducible refine Fo.mBin_i ?_) | (with_reducible refine Fo.mCond_i ?_) | (with_reducible refine Fo.cAnd_i ?_) | (with_reducible refine Fo.cOr_i ?_) | (with_reducible refine Fo.cNot_i ?_) | (with_reducible refine Fo.cYes_i ?_) | (with_reducible refine Fo.mIf_i ?_) | (with_reducible refine Fo.mAnd_i ?_) | (with_reducible refine Fo.mOr_i ?_) | (with_reducible refine Fo.mNot_i ?_) | (with_reducible refine Fo.mNeg_i ?_) | (with_reducible refine Fo.mChain_i ?_) | (with_reducible refine Fo.mSlice_i ?_) | (with_reducible refine Fo.mRev_i ?_) | (with_reducible refine Fo.aNil_i ?_) | (with_reducible refine Fo.aCons_i ?_) | (with_reducible refine Fo.mVal_i ?_) | (with_reducible refine Fo.mCell_i ?_) | (with_reducible refine Fo.nLst_i ?_) | (with_reducible refine Fo.mTup_i ?_) | (with_reducible refine Fo.mCallB_i ?_) | (with_reducible refine Fo.nCallB_i ?_) | (with_reducible refine Fo.mIsi_i ?_) | (with_reducible refine Fo.mIsiT_i ?_) | (with_reducible refine Fo.mMethC_i ?_) | (with_reducible refine Fo.mMethC0_i ?_) | (with_reducible refine Fo.mMethS_i ?_) | (with_reducible refine Fo.mIndexL_i ?_) | (with_reducible refine Fo.iVal_i ?_) | (with_reducible refine Fo.iRange1_i ?_) | (with_reducible refine Fo.iRange2_i ?_) | (with_reducible refine Fo.iEnumL_i ?_) | (with_reducible refine Fo.iZip_i ?_) | (with_reducible refine Fo.iZip2_i ?_) | (with_reducible refine Fo.iZip3_i ?_) | (with_reducible refine Fo.asZ2_i ?_) | (with_reducible refine Fo.asZ3_i ?_) | (with_reducible refine Fo.iEnum1_i ?_) | (with_reducible refine Fo.asE1_i ?_) | (with_reducible refine Fo.nBin_i ?_) | (with_reducible refine Fo.sAugX_i ?_) | (with_reducible refine Fo.sFor_i ?_) | (with_reducible refine Fo.nLC_i ?_) | (with_reducible refine Fo.mCall_i ?_) | (with_reducible refine Fo.mCallK_i ?_) | (with_reducible refine Fo.gVar_i ?_) | (with_reducible refine Fo.gTupM_i ?_) | (with_reducible refine Fo.gsCons_i ?_) | (with_reducible refine Fo.gsNil_i ?_) | (with_reducible refine Fo.gIx_i ?_) | (with_reducible refine Fo.asB_i ?_) | (with_reducible refine Fo.asI_i ?_) | (with_reducible refine Fo.asS_i ?_) | (with_reducible refine Fo.oNo_i ?_) | (with_reducible refine Fo.oAt_i ?_) | (with_reducible refine Fo.asI1_i ?_) | (with_reducible refine Fo.asI2_i ?_) | (with_reducible refine Fo.asL1_i ?_) | (with_reducible refine Fo.rd_v ?_) | (with_reducible refine Fo.par_i ?_) | (with_reducible refine Fo.vals_n ?_) | (with_reducible refine Fo.vals_c ?_) | (with_reducible refine Fo.rds_n ?_) | (with_reducible refine Fo.rds_c ?_) | (with_reducible refine Fo.add_i ?_) | (with_reducible refine Fo.iadd_i ?_) | (with_reducible refine Fo.sub_i ?_) | (with_reducible refine Fo.lt_i ?_) | (with_reducible refine Fo.le_i ?_) | (with_reducible refine Fo.gt_i ?_) | (with_reducible refine Fo.ge_i ?_) | (with_reducible refine Fo.lt_s ?_) | (with_reducible refine Fo.le_s ?_) | (with_reducible refine Fo.gt_s ?_) | (with_reducible refine Fo.ge_s ?_) | (with_reducible refine Fo.is_n ?_) | (with_reducible refine Fo.is_b ?_) | (with_reducible refine Fo.eq_i ?_) | (with_reducible refine Fo.eq_s ?_) | (with_reducible refine Fo.eq_b ?_) | (with_reducible refine Fo.in_s ?_) | (with_reducible refine Fo.sl_t ?_) | (with_reducible refine Fo.sl_l ?_) | (with_reducible refine Fo.sl_c ?_) | (with_reducible refine Fo.len_l ?_) | (with_reducible refine Fo.len_t ?_) | (with_reducible refine Fo.min2_i ?_) | (with_reducible refine Fo.tuple_l ?_) | (with_reducible refine Fo.tuple_t ?_) | (with_reducible refine Fo.listF_l ?_) | (with_reducible refine Fo.listF_t ?_) | (with_reducible refine Fo.itV_l ?_) | (with_reducible refine Fo.itV_t ?_) | (with_reducible refine Fo.itV_s ?_) | (with_reducible refine Fo.asZ_l ?_) | (with_reducible refine Fo.asZ_t ?_) | (with_reducible refine Fo.lstW_v ?_) | (with_reducible refine Fo.rev_t ?_) | (with_reducible refine Fo.rev_l ?_) | (with_reducible refine Fo.seqW_l ?_) | (with_reducible refine Fo.seqW_t ?_) | (with_reducible refine Fo.seqW_s ?_) | (with_reducible refine Fo.nostrict ?_) | (with_reducible refine Fo.int1_b ?_) | (with_reducible refine Fo.int1_i ?_) | ((with_reducible refine Fo.mVar_i (w := ?_) ?_ ?_); (rotate_left); (exact rfl)) | ((with_reducible refine Fo.rd_l (l := ?_) ?_ ?_); (rotate_left); (exact rfl)) | ((with_reducible refine Fo.lstW_r (l := ?_) ?_ ?_); (rotate_left); (exact rfl)) | ((with_reducible refine Fo.sAug_i (w := ?_) ?_ ?_); (rotate_left); (exact rfl)) | ((with_reducible refine Fo.asCell_i (l := ?_) ?_ ?_); (rotate_left); (exact rfl)) | ((with_reducible refine Fo.mFrz_v (d := ?_) ?_ ?_); (rotate_left); (exact rfl)) | ((with_reducible refine Fo.rd_d (ks := ?_) (ws := ?_) ?_ ?_); (rotate_left 2); (exact rfl)) | ((with_reducible refine Fo.mFrz_r (n := ?_) (l := ?_) ?_ ?_ ?_); (rotate_left 2); (exact rfl); (exact rfl)) | ((with_reducible refine Fo.gput_i (p := ?_) ?_ ?_); (rotate_left); (exact rfl)) | ((with_reducible refine Fo.mod_i ?_ ?_); (omega)) | ((with_reducible refine Fo.pow_i ?_ ?_); (exact ⟨by omega, by omega, by omega⟩)) | ((with_reducible refine Fo.mul_i ?_ ?_); (unfold L2.CMul; omega)) | ((with_reducible refine Fo.fdiv_i ?_ ?_); (unfold L2.CDiv; omega)) | (with_reducible refine Fo.if_t rfl ?_) | (with_reducible refine Fo.if_f rfl ?_) | (with_reducible refine Fo.fin_v ?_) | (dsimp only) | (with_reducible refine Fo.ix_t0 ?_) | (with_reducible refine Fo.ix_t1 ?_) | (with_reducible refine Fo.ix_t2 ?_) | (with_reducible refine Fo.ix_l0 ?_) | (with_reducible refine Fo.ix_l1 ?_) | (with_reducible refine Fo.ix_l2 ?_) | (with_reducible refine Fo.ix_l3 ?_) | ((with_reducible refine And.intro ?_ ?_); ((try simp only [List.length_append, List.length_cons, List.length_nil, List.length_reverse]); (try unfold PySem.sizeLine); omega)) | ((with_reducible refine Fo.add_l ?_ ?_); ((try simp only [List.length_append, List.length_cons, List.length_nil, List.length_reverse]); (try unfold PySem.sizeLine); omega)) | ((with_reducible refine Fo.addN_l ?_ ?_); ((try simp only [List.length_append, List.length_cons, List.length_nil, List.length_reverse]); (try unfold PySem.sizeLine); omega)) | ((with_reducible refine Fo.add_t ?_ ?_); ((try simp only [List.length_append, List.length_cons, List.length_nil, List.length_reverse]); (try unfold PySem.sizeLine); omega)) | ((with_reducible refine Fo.add_s ?_ ?_); ((try simp only [List.length_append, List.length_cons, List.length_nil, List.length_reverse]); (try unfold PySem.sizeLine); omega)) | ((with_reducible refine Fo.append_i ?_ ?_); ((try simp only [List.length_append, List.length_cons, List.length_nil, List.length_reverse]); (try unfold PySem.sizeLine); omega)) | ((with_reducible refine Fo.sl_s ?_ ?_); ((try simp only [List.length_append, List.length_cons, List.length_nil, List.length_reverse]); (try unfold PySem.sizeLine); omega)) | ((with_reducible refine Fo.len_s ?_ ?_); ((try simp only [List.length_append, List.length_cons, List.length_nil, List.length_reverse]); (try unfold PySem.sizeLine); omega)) | ((with_reducible refine Fo.rev_s ?_ ?_); ((try simp only [List.length_append, List.length_cons, List.length_nil, List.length_reverse]); (try unfold PySem.sizeLine); omega)) | (with_reducible refine Fo.mDct0_i ?_) | (with_reducible refine Fo.mDct1_i ?_) | (with_reducible refine Fo.mDct3_i ?_) | (with_reducible refine Fo.mDGet_i ?_) | (with_reducible refine Fo.mDGet2_i ?_) | (with_reducible refine Fo.sDPut_i ?_) | (with_reducible refine Fo.mDNew_i ?_) | (with_reducible refine Fo.mDNew1_i ?_) | (with_reducible refine Fo.mDGetT_i ?_) | (with_reducible refine Fo.sDPutT_i ?_) | (with_reducible refine Fo.mDNewT_i ?_) | (with_reducible refine Fo.sPar3_i ?_) | (with_reducible refine Fo.par3_i ?_) | (with_reducible refine Fo.asDic_v ?_) | (with_reducible refine Fo.keyW_i ?_) | (with_reducible refine Fo.keyW_s ?_) | ((with_reducible refine Fo.asDic_r (ks := ?_) (ws := ?_) ?_ ?_); (rotate_left 2); (exact rfl)) | ((with_reducible refine Fo.dicC_r (ks := ?_) (ws := ?_) ?_ ?_); (rotate_left 2); (exact rfl)) | ((with_reducible refine Fo.add_s ?_ ?_); (first | exact Nat.le_of_ble_eq_true rfl | (unfold PySem.sizeLine; omega) | omega)) | ((with_reducible refine Fo.len_s ?_ ?_); (first | exact Nat.le_of_ble_eq_true rfl | (unfold PySem.sizeLine; omega) | omega)) | ((with_reducible refine Fo.iadd_s ?_ ?_); (first | exact Nat.le_of_ble_eq_true rfl | (unfold PySem.sizeLine; omega) | omega)) | ((with_reducible refine Fo.dct3_i ?_ ?_); (exact ⟨by decide, by decide, by decide⟩))))
local macro_rules | `(tactic| nofun) => `(tactic| ((try dsimp only); (with_reducible refine Fo.sSeq_i ?_); and_intros))
namespace Fo
open PySem PySem.Spec PyProof.Rows L2
theorem mC_pool {ρ : Rho} {S : Sto} {k : KW} (q : k (.val (.str poolS)) S) : mC (.str poolS) ρ S k := q
theorem t_some_signs2 {m : Nat} {p : Ob} {n : Int} {k : KW} (hp : Pen m p) (h0 : 1 ≤ n) (h1 : n ≤ 9) (hm : m < 900000000)
    (hk : ∀ (t : List Nat) p', Sg t → t ≠ [] → (t.length : Int) ≤ n → Pen (m + 2) p' → k (.val (.str t)) [p']) :
    t__law_some_signs_v2 [.ref 0, .val (.int n)] [p] k := by
  have pl : poolS.length = 93 := pool_len
  unfold t__law_some_signs_v2
  refine mfun_of ?_
  refine sSeq_i (sSet_i (mC_pool ?_))
  nofun
  refine call_1 rfl rfl hp.nd (t_take hp (by omega) (by omega) (by omega) fun q1 p1 b0 b1 hp1 => ⟨p1, [], rfl, ?_⟩) m__law_take
  and_intros
  refine call_1 rfl rfl hp1.nd (t_take hp1 (by omega) (by omega) (by omega) fun q2 p2 c0 c1 hp2 => ⟨p2, [], rfl, ?_⟩) m__law_take
  and_intros
  nofun
  refine lc_inv (fun r acc S => ∃ (xs : List (List Nat)) (i : Nat), acc = xs.map D.str ∧ (∀ x ∈ xs, ∃ c ∈ poolS, x = [c]) ∧ xs.length = i ∧ r = rangeL (i : Nat) r.length ∧ ((i : Nat) : Int) + (r.length : Nat) = n ∧ S = [p2]) ?_ ?_ _ _ _ ?_
  · rintro acc S ⟨xs, i, rfl, hx, hi, _, hn, rfl⟩
    rw [List.length_nil] at hn
    and_intros
    refine sset_l (ts := xs) (by omega) fun us u1 u2 u3 => ?_
    obtain ⟨t, rfl⟩ := perm_of_singles us fun u hu => by
      obtain ⟨c, _, e⟩ := hx u ((u3 u).mp hu)
      exact ⟨c, e⟩
    have hle : t.length ≤ xs.length := by
      have := u1.length_le_of_subset (l₂ := xs) fun u hu => (u3 u).mp hu
      rwa [List.length_map] at this
    have up : t.Pairwise (· < ·) := rises_one u1 u2
    have sg : Sg t := Sg.of_up up fun c hc => by
      obtain ⟨c', h', e⟩ := hx [c] ((u3 [c]).mp (List.mem_map.mpr ⟨c, hc, rfl⟩))
      injection e with e
      rw [e]
      exact h'
    have hne : t ≠ [] := fun z => by
      subst z
      have h0 : 0 < xs.length := by omega
      have := (u3 xs[0]).mpr (List.getElem_mem h0)
      cases this
    and_intros
    refine join_l (ts := t.map fun c => [c]) (by rw [List.map_map]; exact strs_signs t) (by rw [sum_signs, List.length_map, List.length_nil]; omega) ?_
    rw [join_signs]
    and_intros
    exact hk t p2 sg hne (by omega) hp2
  · rintro d r acc S K hK ⟨xs, i, rfl, hx, hi, hr, hn, rfl⟩
    obtain ⟨rfl, hr2⟩ := rng_step (n := r.length + 1) hr
    rw [List.length_cons] at hn
    have hmod : 0 < ((poolS.length : Nat) : Int) := by omega
    and_intros
    obtain ⟨d0, d1⟩ := emod_b (q1 + (1 + 2 * q2) * (i : Nat)) hmod
    obtain ⟨c, ec, hc, _⟩ := atI_in (l := poolS) d0 d1
    refine ix_s (s := poolS) (by rw [pl]; unfold sizeLine; omega) ec ?_
    refine lcput_i (by rw [List.length_map]; unfold sizeLine; omega) ?_
    refine hK _ _ ⟨xs ++ [[c]], i + 1, by rw [List.map_append]; rfl, fun x hx' => ?_, by rw [List.length_append, hi]; rfl, hr2, by omega, rfl⟩
    rcases List.mem_append.mp hx' with hx' | hx'
    · exact hx x hx'
    · exact ⟨c, hc, List.mem_singleton.mp hx'⟩
  · exact ⟨[], 0, rfl, fun x hx => (by cases hx), rfl, by rw [rangeL_length]; rfl, by rw [rangeL_length]; omega, rfl⟩
theorem t_more_signs2 {m : Nat} {p : Ob} {rs : List Nat} {k : KW} (hp : Pen m p) (hs : Sg rs) (h0 : rs ≠ []) (hm : m < 800000000)
    (hk : ∀ ts p', Sg ts → ts ≠ [] → ts.length ≤ 3 → Pen (m + 20) p' → k (.val (.str ts)) [p']) : t__law_more_signs_v2 [.ref 0, .val (.str rs)] [p] k := by
  have l9 := hs.le
  have l0 := List.length_pos_iff.mpr h0
  unfold t__law_more_signs_v2
  refine mfun_of ?_
  nofun
  refine call_1 rfl rfl hp.nd (t_take hp (by omega) (by omega) (by omega) fun q1 p1 b0 b1 hp1 => ⟨p1, [], rfl, ?_⟩) m__law_take
  and_intros
  refine if_d (fun h => ?_) fun h => ?_
  · and_intros
    refine call_1 rfl rfl hp1.nd (t_take hp1 (by split <;> omega) (by split <;> omega) (by omega) fun q2 p2 c0 c1 hp2 => ⟨p2, [], rfl, ?_⟩) m__law_take
    obtain ⟨j, rfl⟩ : ∃ j : Nat, q2 = (j : Int) := ⟨q2.toNat, by omega⟩
    have c2 : (j : Int) < 3 := by
      refine Int.lt_of_lt_of_le c1 ?_
      split <;> omega
    and_intros
    rw [show (1 : Int) + (j : Nat) = ((1 + j : Nat) : Int) by omega]
    rw [cutL_none]
    and_intros
    refine hk _ p2 (hs.take _) (fun z => ?_) (by rw [List.length_take]; omega) (hp2.mono (by omega))
    have := congrArg List.length z
    rw [List.length_take, List.length_nil] at this
    omega
  · and_intros
    refine call_1 rfl rfl hp1.nd (t_take hp1 (by omega) (by omega) (by omega) fun q2 p2 c0 c1 hp2 => ⟨p2, [], rfl, ?_⟩) m__law_take
    and_intros
    refine call_1 rfl rfl hp2.nd (t_some_signs2 hp2 (by omega) (by omega) (by omega) fun ts p3 hts t0 l1 hp3 => ⟨p3, [], rfl, ?_⟩) m__law_some_signs_v2
    and_intros
    exact hk ts p3 hts t0 (by omega) (hp3.mono (by omega))
theorem t_any_row {m : Nat} {p : Ob} {rs : List Nat} {often size most : Nat} {k : KW} (hp : Pen m p) (hs : Sg rs) (h0 : rs ≠ []) (h9 : rs.length ≤ 9) (o0 : 1 ≤ often) (o8 : often ≤ 8) (s0 : 1 ≤ size) (s8 : size ≤ 8) (m0 : 1 ≤ most) (m3 : most ≤ 3) (hm : m < 700000000)
    (hk : ∀ row p', RowDrawn rs often size row → Pen (m + 20000) p' → k (.val (rowD row)) [p']) : t__law_any_row [.ref 0, .val (.str rs), .val (.int (often : Nat)), .val (.int (size : Nat)), .val (.int (most : Nat))] [p] k := by
  unfold t__law_any_row
  refine mfun_of ?_
  nofun
  refine call_1 rfl rfl hp.nd (t_more_signs2 hp hs h0 (by omega) fun ts p1 hts t0 t3 hp1 => ⟨p1, [], rfl, ?_⟩) m__law_more_signs_v2
  and_intros
  refine call_1 rfl rfl hp1.nd (t_any_reader hp1 hs hts h9 t0 (by omega) (by omega) (by omega) (by omega) (by omega) (by omega) fun r p2 ok e1 e2 e3 hp2 => ⟨p2, [], rfl, ?_⟩) m__law_any_reader
  and_intros
  nofun
  refine call_1 rfl rfl hp2.nd (t_take hp2 (by omega) (by omega) (by omega) fun q1 p3 b0 b1 hp3 => ⟨p3, [], rfl, ?_⟩) m__law_take
  and_intros
  have small : RdSmall size r := ⟨by rw [e1]; exact h0, by rw [e2]; exact t0, by rw [e1]; exact h9, by rw [e2]; exact t3, by omega⟩
  refine for_inv (fun r2 ρ S => ∃ (done : List Rdr) (r : Rdr) (x6 x7 : Option W) (p' : Ob), ρ = [some (.ref 0), some (.val (.str rs)), some (.val (.int (often : Nat))), some (.val (.int (size : Nat))), some (.val (.int (most : Nat))), some (.ref 1), x6, x7] ∧
    S = [p', .lst ((done ++ [r]).map rdrD)] ∧ Pen (m + 2000 * (done.length + 1)) p' ∧ RowIn rs (done ++ [r]) ∧ (∀ r' ∈ done ++ [r], RdSmall size r') ∧ (∃ r' rs', done ++ [r] = r' :: rs' ∧ r'.reads = rs) ∧ done.length + 1 + r2.length ≤ often) ?_ ?_ _ _ _ ?_
  · rintro ρ S ⟨done, r, x6, x7, p', rfl, rfl, hp', h1, h2, h3, hn⟩
    rw [List.length_nil] at hn
    and_intros
    exact hk (done ++ [r]) p' ⟨h1, h2, h3, by rw [List.length_append]; exact hn⟩ (hp'.mono (by omega))
  · rintro d r2 ρ S K hK ⟨done, r, x6, x7, p', rfl, rfl, hp', h1, h2, h3, hn⟩
    rw [List.length_cons] at hn
    have hr := h2 r (by simp)
    have okr : RdOk 3 3 r := by
      have gen : ∀ {sg : List Nat} {rs : List Rdr}, RowIn sg rs → ∀ r ∈ rs, RdOk 3 3 r := fun {sg rs} => by
        induction rs generalizing sg with
        | nil => intro _ r hr; cases hr
        | cons a rs ih =>
          intro h r hr
          rcases List.mem_cons.mp hr with rfl | hr
          · exact h.2.1
          · exact ih h.2.2 r hr
      exact gen h1 r (by simp)
    have t3' := hr.t3
    refine gVar_i ?_
    rw [List.map_append]
    nofun
    refine ix_l (d := rdrD r) atI_last ?_
    unfold rdrD
    and_intros
    refine call_1 rfl rfl hp'.nd (t_more_signs2 hp' okr.st hr.t0 (by omega) fun ts p5 hts t0 t3 hp5 => ⟨p5, [], rfl, ?_⟩) m__law_more_signs_v2
    and_intros
    refine ix_l (d := rdrD r) atI_last ?_
    unfold rdrD
    and_intros
    refine call_1 rfl rfl hp5.nd (t_any_reader hp5 okr.st hts (by omega) t0 (by omega) (by omega) (by omega) (by omega) (by omega) (by omega) fun r' p6 ok' f1 f2 f3 hp6 => ⟨p6, [], rfl, ?_⟩) m__law_any_reader
    and_intros
    refine append_i (by rw [List.length_append, List.length_map]; show _ + 1 < _; unfold sizeLine; omega) ?_
    refine hK _ _ ⟨done ++ [r], r', _, _, p6, rfl, ?_, hp6.mono (by rw [List.length_append]; show _ ≤ m + 2000 * (done.length + 1 + 1); omega), RowIn.snoc h1 (fun c hc => ?_) (ok'.mono (by omega) (by omega)), fun a ha => ?_, ?_, by rw [List.length_append]; show done.length + 1 + 1 + _ ≤ _; omega⟩
    · rw [List.map_append, List.map_append]
      rfl
    · rw [lastT_snoc] at hc
      rw [f1]
      exact hc
    · rcases List.mem_append.mp ha with ha | ha
      · exact h2 a ha
      · rw [List.mem_singleton.mp ha]
        exact ⟨by rw [f1]; exact hr.t0, by rw [f2]; exact t0, by rw [f1]; omega, by rw [f2]; exact t3, by omega⟩
    · obtain ⟨a, l, e, f⟩ := h3
      exact ⟨a, l ++ [r'], by rw [e]; rfl, f⟩
  · refine ⟨[], r, none, none, p3, rfl, rfl, hp3.mono (by show _ ≤ m + 2000 * (0 + 1); omega), ⟨fun c hc => by rw [e1]; exact hc, ok.mono (by omega) (by omega), trivial⟩, fun a ha => ?_, ⟨r, [], rfl, e1⟩, by rw [rangeL_length]; show 0 + 1 + _ ≤ _; omega⟩
    have : a = r := by simpa using ha
    rw [this]
    exact small
end Fo
/-! Lw3: a lot told by other numbers, with ways more. -/
/-! Lw4: what is told of a lot, right. -/
/-! Lw5: ends, counts, what is told at once. -/
namespace Fo
open PySem PySem.Spec PyProof.Rows L2
theorem cutL_from {α : Type} (l : List α) (n : Nat) : cutL l (some (n : Int)) none = l.drop n := by
  unfold cutL
  rw [HT.sIx_nat, show HT.sIx l.length l.length none = l.length from rfl]
  by_cases h : n ≤ l.length
  · rw [Nat.min_eq_left h, List.take_of_length_le (by rw [List.length_drop]; exact Nat.le_refl _)]
  · rw [List.drop_eq_nil_of_le (as := l) (i := n) (by omega), List.drop_eq_nil_of_le (as := l) (i := min n l.length) (by omega)]
    simp
end Fo
/-! Lw6: what is a lot. -/
namespace Fo
open PySem PySem.Spec PyProof.Rows L2
theorem pool_in : ∀ c ∈ poolS, 33 ≤ c ∧ c ≤ 126 := by decide +kernel
end Fo
/-! Lc1: loops over pictures of lists: by the number of rounds done; comprehensions that leave the cells as they are. -/
namespace Fo
open PySem PySem.Spec PyProof.Rows L2
section
variable {α : Type} {g : MG} {ρ : Rho} {S : Sto} {E : End}
/-- a comprehension: what each item gives, None where it is left out -/
theorem lc_fm {c : MT} {e : ME} {kn : List D → Sto → Prop} (f : α → D) (h : α → Option D) (l : List α) (hl : l.length ≤ sizeLine)
    (step : ∀ x ∈ l, ∀ (acc : List D) (K : List D → Sto → Prop), acc.length < sizeLine → (∀ y, h x = some y → K (acc ++ [y]) S) → (h x = none → K acc S) →
      g (.val (f x)) ρ S fun ρ2 S2 => c ρ2 S2 fun b S3 => if b = true then e ρ2 S3 fun w S4 => lcPut acc K w S4 else K acc S3)
    (q : kn (l.filterMap h) S) : lcItems g c e ρ kn (l.map f) [] S := by
  refine lc_inv (fun r acc S' => ∃ rest : List α, r = rest.map f ∧ (∀ x ∈ rest, x ∈ l) ∧ acc ++ rest.filterMap h = l.filterMap h ∧ S' = S ∧ acc.length + rest.length ≤ l.length) ?_ ?_ _ _ _ ⟨l, rfl, fun _ z => z, rfl, rfl, by show 0 + _ ≤ _; omega⟩
  · rintro acc S' ⟨rest, e1, _, e2, rfl, _⟩
    cases rest with
    | cons => cases e1
    | nil =>
      rw [List.filterMap_nil, List.append_nil] at e2
      rw [e2]
      exact q
  · rintro d r acc S' K hK ⟨rest, e1, hm, e2, rfl, hn⟩
    cases rest with
    | nil => cases e1
    | cons x rest =>
      injection e1 with e3 e4
      subst e3
      rw [List.length_cons] at hn
      refine step x (hm x List.mem_cons_self) acc K (by omega) (fun y hy => hK _ _ ⟨rest, e4, fun z hz => hm z (List.mem_cons_of_mem _ hz), ?_, rfl, ?_⟩) fun hno => hK _ _ ⟨rest, e4, fun z hz => hm z (List.mem_cons_of_mem _ hz), ?_, rfl, by omega⟩
      · rw [List.filterMap_cons, hy] at e2
        rw [← e2, List.append_assoc]
        rfl
      · rw [List.length_append]
        show acc.length + 1 + _ ≤ _
        omega
      · rw [List.filterMap_cons, hno] at e2
        exact e2
/-- all stay -/
theorem lc_map {c : MT} {e : ME} {kn : List D → Sto → Prop} (f h : α → D) (l : List α) (hl : l.length ≤ sizeLine)
    (step : ∀ x ∈ l, ∀ (acc : List D) (K : List D → Sto → Prop), acc.length < sizeLine → K (acc ++ [h x]) S →
      g (.val (f x)) ρ S fun ρ2 S2 => c ρ2 S2 fun b S3 => if b = true then e ρ2 S3 fun w S4 => lcPut acc K w S4 else K acc S3)
    (q : kn (l.map h) S) : lcItems g c e ρ kn (l.map f) [] S :=
  lc_fm f (fun x => some (h x)) l hl (fun x hx acc K ha k1 _ => step x hx acc K ha (k1 _ rfl)) (by rw [show l.filterMap (fun x => some (h x)) = l.map h from congrFun (List.filterMap_eq_map' (f := h)) l]; exact q)
/-- a loop, by the number of rounds done -/
theorem for_ix {tb : MS} (f : α → D) (I : Nat → Rho → Sto → Prop) (l : List α) (fin : ∀ ρ S, I l.length ρ S → E.nx ρ S)
    (step : ∀ i x, l[i]? = some x → ∀ ρ S (K : Rho → Sto → Prop), (∀ ρ S, I (i + 1) ρ S → K ρ S) → I i ρ S → g (.val (f x)) ρ S fun ρ1 S1 => tb { nx := K, rt := E.rt, bk := E.nx, ct := K } ρ1 S1)
    (h0 : I 0 ρ S) : forItems g tb E (l.map f) ρ S := by
  refine for_inv (fun r ρ S => ∃ i, r = (l.drop i).map f ∧ i + r.length = l.length ∧ I i ρ S) ?_ ?_ _ _ _ ⟨0, rfl, by rw [List.length_map, Nat.zero_add], h0⟩
  · rintro ρ S ⟨i, _, e, h⟩
    have : i = l.length := e
    exact fin ρ S (this ▸ h)
  · rintro d r ρ S K hK ⟨i, e, e2, h⟩
    rw [List.length_cons] at e2
    have hi : i < l.length := by omega
    rw [List.drop_eq_getElem_cons hi, List.map_cons] at e
    injection e with e3 e4
    subst e3
    exact step i _ (List.getElem?_eq_getElem hi) ρ S K (fun ρ S z => hK ρ S ⟨i + 1, e4, by omega, z⟩) h
theorem rangeL0 (n : Nat) : rangeL 0 n = (List.range n).map natD := by
  unfold rangeL natD
  apply List.map_congr_left
  intro i _
  simp
theorem enumL_map {f : α → D} : ∀ (l : List α) (i : Nat), enumL i (l.map f) = (l.zipIdx i).map fun p => .tup [natD p.2, f p.1]
  | [], _ => rfl
  | x :: l, i => by
    show D.tup [.int (i : Nat), f x] :: enumL (i + 1) (l.map f) = _
    rw [enumL_map l (i + 1), List.zipIdx_cons, List.map_cons]
    rfl
theorem zipIdx_get {l : List α} {i : Nat} {p : α × Nat} (h : l.zipIdx[i]? = some p) : l[i]? = some p.1 ∧ p.2 = i := by
  rw [List.getElem?_zipIdx] at h
  cases e : l[i]? with
  | none => rw [e] at h; cases h
  | some x =>
    rw [e] at h
    injection h with h
    subst h
    exact ⟨rfl, by simp⟩
end
theorem ixN_nat {n p : Nat} (h : p < n) : ixN n (p : Int) = some p := by
  rw [ixN_in (by omega) (by omega), Int.toNat_natCast]
end Fo
/-! Any1: sane data of any kind: how deep, how heavy; repr of it. -/
namespace Fo
open PySem PySem.Spec PyProof.Rows L2
mutual
def sane : D → Bool
  | .non => true
  | .bl _ => true
  | .int i => decide (i.natAbs < 10 ^ 22)
  | .str l => l.all fun c => decide (c < 256)
  | .tup l => sanes l
  | .lst l => sanes l
  | .dct ks ws => sanes ks && sanes ws
  | .scr _ => false
def sanes : List D → Bool
  | [] => true
  | d :: l => sane d && sanes l
end
mutual
def wX : D → Nat
  | .non => 5
  | .bl _ => 5
  | .int _ => 25
  | .str l => 4 * l.length + 2
  | .tup l => wXs l + 3
  | .lst l => wXs l + 3
  | .dct ks ws => wXs ks + wXs ws + 3
  | .scr _ => 0
def wXs : List D → Nat
  | [] => 0
  | d :: l => wX d + 2 + wXs l
end
mutual
def dX : D → Nat
  | .tup l => dXs l + 1
  | .lst l => dXs l + 1
  | .dct ks ws => max (dXs ks) (dXs ws) + 1
  | _ => 0
def dXs : List D → Nat
  | [] => 0
  | d :: l => max (dX d) (dXs l)
end
theorem sanes_iff : ∀ {l : List D}, sanes l = true ↔ ∀ x ∈ l, sane x = true
  | [] => by simp [sanes]
  | d :: l => by
    unfold sanes
    rw [Bool.and_eq_true, sanes_iff (l := l)]
    simp
theorem dXs_le : ∀ {l : List D} {n : Nat}, dXs l ≤ n ↔ ∀ x ∈ l, dX x ≤ n
  | [], n => by simp [dXs]
  | d :: l, n => by
    unfold dXs
    rw [Nat.max_le, dXs_le (l := l)]
    simp
theorem wXs_app : ∀ (a b : List D), wXs (a ++ b) = wXs a + wXs b
  | [], b => by simp [wXs]
  | d :: a, b => by
    rw [List.cons_append]
    show wX d + 2 + wXs (a ++ b) = wX d + 2 + wXs a + wXs b
    rw [wXs_app a b]
    omega
theorem wXs_len : ∀ (l : List D), 2 * l.length ≤ wXs l
  | [] => Nat.zero_le _
  | d :: l => by
    have := wXs_len l
    unfold wXs
    rw [List.length_cons]
    omega
theorem wXs_mem : ∀ {l : List D} {x : D}, x ∈ l → wX x + 2 ≤ wXs l
  | d :: l, x, h => by
    unfold wXs
    rcases List.mem_cons.mp h with rfl | h
    · omega
    · have := wXs_mem h
      omega
theorem int_shown {i : Int} (h : i.natAbs < 10 ^ 22) : (Str.ofString (toString i)).length ≤ 25 := by
  have g : ∀ n : Nat, n < 10 ^ 22 → n.repr.length ≤ 22 := fun n hn => (Nat.length_repr_le_iff (by decide)).mpr hn
  have e : ∀ s : String, (Str.ofString s).length = s.length := fun s => by
    rw [Str.ofString_eq_toList]
    show (List.map Char.toNat s.toList).toArray.size = _
    rw [List.size_toArray, List.length_map, String.length_toList]
  rw [e]
  cases i with
  | ofNat n =>
    have := g n h
    show (Nat.repr n).length ≤ 25
    omega
  | negSucc n =>
    have := g (n + 1) h
    show ("-" ++ Nat.repr (n + 1)).length ≤ 25
    rw [String.length_append]
    have e1 : ("-" : String).length = 1 := by decide
    omega
structure FitF (d : D) : Prop where
  ns : noScr d = true
  len : (pyX d).shown.length ≤ wX d
  sh : (pyX d).showable = true
  dp : (pyX d).depth ≤ dX d
theorem dictText_le (ts : List Str) : (dictText ts).length ≤ piled ts + 2 := by
  unfold dictText
  rw [strLen_append, strLen_append]
  have e1 : ((("{" : String) : Str)).length = 1 := rfl
  have e3 : ((("}" : String) : Str)).length = 1 := rfl
  rw [e1, e3]
  by_cases h : ts = []
  · subst h
    have : (Str.join ", " ([] : List Str)).length = 0 := rfl
    omega
  · have := join_length_add ts h
    omega
theorem kv_zip : ∀ (a b : List PyData), piled (PyData.shownKv (a.zip b)) ≤ piled (PyData.shownAll a) + piled (PyData.shownAll b) ∧ ((PyData.showableAll a = true → PyData.showableAll b = true → PyData.showableKv (a.zip b) = true)) ∧ PyData.depthKv (a.zip b) ≤ max (PyData.depthAll a) (PyData.depthAll b)
  | [], b => ⟨Nat.zero_le _, fun _ _ => rfl, Nat.zero_le _⟩
  | x :: a, [] => ⟨Nat.zero_le _, fun _ _ => rfl, Nat.zero_le _⟩
  | x :: a, y :: b => by
    obtain ⟨h1, h2, h3⟩ := kv_zip a b
    refine ⟨?_, fun q1 q2 => ?_, ?_⟩
    · show piled ((x.shown ++ ": " ++ y.shown) :: PyData.shownKv (a.zip b)) ≤ piled (x.shown :: PyData.shownAll a) + piled (y.shown :: PyData.shownAll b)
      rw [piled_cons, piled_cons, piled_cons, strLen_append, strLen_append]
      have e : (((": " : String) : Str)).length = 2 := rfl
      omega
    · have q1' : (x.showable && PyData.showableAll a) = true := q1
      have q2' : (y.showable && PyData.showableAll b) = true := q2
      rw [Bool.and_eq_true] at q1' q2'
      show (x.showable && y.showable && PyData.showableKv (a.zip b)) = true
      rw [q1'.1, q2'.1, h2 q1'.2 q2'.2]
      rfl
    · show max (max x.depth y.depth) (PyData.depthKv (a.zip b)) ≤ max (max x.depth (PyData.depthAll a)) (max y.depth (PyData.depthAll b))
      omega
mutual
theorem fit_f : ∀ (d : D), sane d = true → FitF d
  | .non, _ => ⟨rfl, by show (Str.ofString "None").length ≤ 5; decide, rfl, Nat.zero_le _⟩
  | .bl b, _ => ⟨rfl, by cases b <;> (show Str.length _ ≤ 5; decide), rfl, Nat.zero_le _⟩
  | .int i, h => by
    unfold sane at h
    have h' : i.natAbs < 10 ^ 22 := of_decide_eq_true h
    refine ⟨rfl, int_shown h', ?_, Nat.zero_le _⟩
    show decide (i.natAbs.log2 < 1920) = true
    refine decide_eq_true ?_
    by_cases h0 : i.natAbs = 0
    · rw [h0]
      decide
    · exact (Nat.log2_lt h0).mpr (Nat.lt_of_lt_of_le h' (Nat.le_trans (by decide : 10 ^ 22 ≤ 2 ^ 80) (Nat.pow_le_pow_right (by decide) (by decide))))
  | .str l, h => by
    unfold sane at h
    have h' : ∀ c ∈ l, c < 256 := fun c hc => of_decide_eq_true (List.all_eq_true.mp h c hc)
    refine ⟨rfl, ?_, rfl, Nat.zero_le _⟩
    unfold wX
    exact reprText_le h'
  | .tup l, h => by
    unfold sane at h
    obtain ⟨h0, h1, h2, h3⟩ := fits_f l h
    refine ⟨h0, ?_, h2, ?_⟩
    · unfold wX
      exact Nat.le_trans (tupleText_le _) (by omega)
    · show PyData.depthAll (pyXs l) + 1 ≤ dXs l + 1
      omega
  | .lst l, h => by
    unfold sane at h
    obtain ⟨h0, h1, h2, h3⟩ := fits_f l h
    refine ⟨h0, ?_, h2, ?_⟩
    · unfold wX
      exact Nat.le_trans (listText_le _) (by omega)
    · show PyData.depthAll (pyXs l) + 1 ≤ dXs l + 1
      omega
  | .dct ks ws, h => by
    unfold sane at h
    rw [Bool.and_eq_true] at h
    obtain ⟨h0, h1, h2, h3⟩ := fits_f ks h.1
    obtain ⟨g0, g1, g2, g3⟩ := fits_f ws h.2
    obtain ⟨z1, z2, z3⟩ := kv_zip (pyXs ks) (pyXs ws)
    refine ⟨?_, ?_, z2 h2 g2, ?_⟩
    · show (noScrs ks && noScrs ws) = true
      rw [h0, g0]
      rfl
    · unfold wX
      exact Nat.le_trans (dictText_le _) (by omega)
    · show PyData.depthKv ((pyXs ks).zip (pyXs ws)) + 1 ≤ max (dXs ks) (dXs ws) + 1
      omega
  | .scr _, h => by unfold sane at h; cases h
theorem fits_f : ∀ (l : List D), sanes l = true → noScrs l = true ∧ piled (PyData.shownAll (pyXs l)) ≤ wXs l ∧ PyData.showableAll (pyXs l) = true ∧ PyData.depthAll (pyXs l) ≤ dXs l
  | [], _ => ⟨rfl, Nat.zero_le _, rfl, Nat.zero_le _⟩
  | d :: l, h => by
    unfold sanes at h
    rw [Bool.and_eq_true] at h
    have q := fit_f d h.1
    obtain ⟨h0, h1, h2, h3⟩ := fits_f l h.2
    refine ⟨?_, ?_, ?_, ?_⟩
    · show (noScr d && noScrs l) = true
      rw [q.ns, h0]
      rfl
    · show piled ((pyX d).shown :: PyData.shownAll (pyXs l)) ≤ wX d + 2 + wXs l
      rw [piled_cons]
      have := q.len
      omega
    · show ((pyX d).showable && PyData.showableAll (pyXs l)) = true
      rw [q.sh, h2]
      rfl
    · show max (pyX d).depth (PyData.depthAll (pyXs l)) ≤ max (dX d) (dXs l)
      have := q.dp
      omega
end
/-- data as bent ones are: sane, not too deep, not too heavy -/
structure Fit (n w : Nat) (d : D) : Prop where
  sn : sane d = true
  dp : dX d ≤ n
  wt : wX d ≤ w
theorem Fit.shx {n w : Nat} {d : D} (h : Fit n w d) (hn : n ≤ 60) (hw : w ≤ sizeLine) : ShX d := by
  have f := fit_f d h.sn
  refine ⟨f.ns, f.sh, Nat.le_trans f.dp (Nat.le_trans h.dp hn), ?_⟩
  have := f.len
  have := h.wt
  unfold shownX
  rw [show (pyX d).shown.cps.toList.length = (pyX d).shown.length by unfold Str.length; simp]
  omega
theorem Fit.mono {n w n' w' : Nat} {d : D} (h : Fit n w d) (hn : n ≤ n') (hw : w ≤ w') : Fit n' w' d := ⟨h.sn, Nat.le_trans h.dp hn, Nat.le_trans h.wt hw⟩
theorem Fit.tup {n w : Nat} {l : List D} (h : ∀ x ∈ l, Fit n w x) (hw : wXs l + 3 ≤ w') : Fit (n + 1) w' (.tup l) := by
  refine ⟨?_, ?_, ?_⟩
  · unfold sane
    exact sanes_iff.mpr fun x hx => (h x hx).sn
  · unfold dX
    have := dXs_le.mpr fun x hx => (h x hx).dp
    omega
  · unfold wX
    exact hw
theorem Fit.mem {n w : Nat} {l : List D} (h : Fit n w (.tup l)) {x : D} (hx : x ∈ l) : Fit (n - 1) (w - 5) x := by
  have h1 := h.sn
  have h2 := h.dp
  have h3 := h.wt
  unfold sane at h1
  unfold dX at h2
  unfold wX at h3
  refine ⟨sanes_iff.mp h1 x hx, dXs_le.mp (by omega : dXs l ≤ n - 1) x hx, ?_⟩
  have := wXs_mem hx
  omega
theorem Fit.len {n w : Nat} {l : List D} (h : Fit n w (.tup l)) : 2 * l.length ≤ w := by
  have h3 := h.wt
  unfold wX at h3
  have := wXs_len l
  omega
theorem Fit.slen {n w : Nat} {l : List Nat} (h : Fit n w (.str l)) : 4 * l.length ≤ w := by
  have h3 := h.wt
  unfold wX at h3
  omega
end Fo
/-! NiceL: lots as data that repr tells (as in Law_k11, other names). -/
/-! Any2: what is a lot, asked of any data. -/
-- v2
local macro_rules | `(tactic| symm_saturate) => `(tactic| repeat (first | (with_reducible refine Fo.sSeq_i ?_) | (with_reducible refine Fo.sNext_i ?_) | (with_reducible refine Fo.sBrk_i ?_) | (with_reducible refine Fo.sCont_i ?_) | (with_reducible refine Fo.sExpr_i ?_) | (with_reducible refine Fo.sRet_i ?_) | (with_reducible refine Fo.sRetN_i ?_) | (with_reducible refine Fo.sIf_i ?_) | (with_reducible refine Fo.sSet_i ?_) | (with_reducible refine Fo.sAsg_i ?_) | (with_reducible refine Fo.sPar_i ?_) | (with_reducible refine Fo.mC_i ?_) | (with_reducible refine Fo.mBin_i ?_) | (with_reducible refine Fo.mCond_i ?_) | (with_reducible refine Fo.cAnd_i ?_) | (with_reducible refine Fo.cOr_i ?_) | (with_reducible refine Fo.cNot_i ?_) | (with_reducible refine Fo.cYes_i ?_) | (with_reducible refine Fo.mIf_i ?_) | (with_reducible refine Fo.mAnd_i ?_) | (with_reducible refine Fo.mOr_i ?_) | (with_reducible refine Fo.mNot_i ?_) | (with_reducible refine Fo.mNeg_i ?_) | (with_reducible refine Fo.mChain_i ?_) | (with_reducible refine Fo.mSlice_i ?_) | (with_reducible refine Fo.mRev_i ?_) | (with_reducible refine Fo.aNil_i ?_) | (with_reducible refine Fo.aCons_i ?_) | (with_reducible refine Fo.mVal_i ?_) | (with_reducible refine Fo.mCell_i ?_) | (with_reducible refine Fo.nLst_i ?_) | (with_reducible refine Fo.mTup_i ?_) | (with_reducible refine Fo.mCallB_i ?_) | (with_reducible refine Fo.nCallB_i ?_) | (with_reducible refine Fo.mIsi_i ?_) | (with_reducible refine Fo.mIsiT_i ?_) | (with_reducible refine Fo.mMethC_i ?_) | (with_reducible refine Fo.mMethC0_i ?_) | (with_reducible refine Fo.mMethS_i ?_) | (with_reducible refine Fo.mIndexL_i ?_) | (with_reducible refine Fo.iVal_i ?_) | (with_reducible refine Fo.iRange1_i ?_) | (with_reducible refine Fo.iRange2_i ?_) | (with_reducible refine Fo.iEnumL_i ?_) | (with_reducible refine Fo.iZip_i ?_) | (with_reducible refine Fo.iZip2_i ?_) | (with_reducible refine Fo.iZip3_i ?_) | (with_reducible refine Fo.asZ2_i ?_) | (with_reducible refine Fo.asZ3_i ?_) | (with_reducible refine Fo.iEnum1_i ?_) | (with_reducible refine Fo.asE1_i ?_) | (with_reducible refine Fo.nBin_i ?_) | (with_reducible refine Fo.sAugX_i ?_) | (with_reducible refine Fo.sFor_i ?_) | (with_reducible refine Fo.nLC_i ?_) | (with_reducible refine Fo.mCall_i ?_) | (with_reducible refine Fo.mCallK_i ?_) | (with_reducible refine Fo.gVar_i ?_) | (with_reducible refine Fo.gTupM_i ?_) | (with_reducible refine Fo.gsCons_i ?_) | (with_reducible refine Fo.gsNil_i ?_) | (with_reducible refine Fo.gIx_i ?_) | (with_reducible refine Fo.asB_i ?_) | (with_reducible refine Fo.asI_i ?_) | (with_reducible refine Fo.asS_i ?_) | (with_reducible refine Fo.oNo_i ?_) | (with_reducible refine Fo.oAt_i ?_) | (with_reducible refine Fo.asI1_i ?_) | (with_reducible refine Fo.asI2_i ?_) | (with_reducible refine Fo.asL1_i ?_) | (with_reducible refine Fo.rd_v ?_) | (with_reducible refine Fo.par_i ?_) | (with_reducible refine Fo.vals_n ?_) | (with_reducible refine Fo.vals_c ?_) | (with_reducible refine Fo.rds_n ?_) | (with_reducible refine Fo.rds_c ?_) | (with_reducible refine Fo.add_i ?_) | (with_reducible refine Fo.iadd_i ?_) | (with_reducible refine Fo.sub_i ?_) | (with_reducible refine Fo.lt_i ?_) | (with_reducible refine Fo.le_i ?_) | (with_reducible refine Fo.gt_i ?_) | (with_reducible refine Fo.ge_i ?_) | (with_reducible refine Fo.lt_s ?_) | (with_reducible refine Fo.le_s ?_) | (with_reducible refine Fo.gt_s ?_) | (with_reducible refine Fo.ge_s ?_) | (with_reducible refine Fo.is_n ?_) | (with_reducible refine Fo.is_b ?_) | (with_reducible refine Fo.eq_i ?_) | (with_reducible refine Fo.eq_s ?_) | (with_reducible refine Fo.eq_b ?_) | (with_reducible refine Fo.in_s ?_) | (with_reducible refine Fo.sl_t ?_) | (with_reducible refine Fo.sl_l ?_) | (with_reducible refine Fo.sl_c ?_) | (with_reducible refine Fo.len_l ?_) | (with_reducible refine Fo.len_t ?_) | (with_reducible refine Fo.min2_i ?_) | (with_reducible refine Fo.tuple_l ?_) | (with_reducible refine Fo.tuple_t ?_) | (with_reducible refine Fo.listF_l ?_) | (with_reducible refine Fo.listF_t ?_) | (with_reducible refine Fo.itV_l ?_) | (with_reducible refine Fo.itV_t ?_) | (with_reducible refine Fo.itV_s ?_) | (with_reducible refine Fo.asZ_l ?_) | (with_reducible refine Fo.asZ_t ?_) | (with_reducible refine Fo.lstW_v ?_) | (with_reducible refine Fo.rev_t ?_) | (with_reducible refine Fo.rev_l ?_) | (with_reducible refine Fo.seqW_l ?_) | (with_reducible refine Fo.seqW_t ?_) | (with_reducible refine Fo.seqW_s ?_) | (with_reducible refine Fo.nostrict ?_) | (with_reducible refine Fo.int1_b ?_) | (with_reducible refine Fo.int1_i ?_) | ((with_reducible refine Fo.mVar_i (w := ?_) ?_ ?_); (rotate_left); (exact rfl)) | ((with_reducible refine Fo.rd_l (l := ?_) ?_ ?_); (rotate_left); (exact rfl)) | ((with_reducible refine Fo.lstW_r (l := ?_) ?_ ?_); (rotate_left); (exact rfl)) | ((with_reducible refine Fo.sAug_i (w := ?_) ?_ ?_); (rotate_left); (exact rfl)) | ((with_reducible refine Fo.asCell_i (l := ?_) ?_ ?_); (rotate_left); (exact rfl)) | ((with_reducible refine Fo.mFrz_v (d := ?_) ?_ ?_); (rotate_left); (exact rfl)) | ((with_reducible refine Fo.rd_d (ks := ?_) (ws := ?_) ?_ ?_); (rotate_left 2); (exact rfl)) | ((with_reducible refine Fo.mFrz_r (n := ?_) (l := ?_) ?_ ?_ ?_); (rotate_left 2); (exact rfl); (exact rfl)) | ((with_reducible refine Fo.ix_t (d := ?_) ?_ ?_); (rotate_left); (exact rfl)) | ((with_reducible refine Fo.ix_l (d := ?_) ?_ ?_); (rotate_left); (exact rfl)) | ((with_reducible refine Fo.gput_i (p := ?_) ?_ ?_); (rotate_left); (exact rfl)) | ((with_reducible refine Fo.mod_i ?_ ?_); (omega)) | ((with_reducible refine Fo.pow_i ?_ ?_); (exact ⟨by omega, by omega, by omega⟩)) | ((with_reducible refine Fo.mul_i ?_ ?_); (unfold L2.CMul; omega)) | ((with_reducible refine Fo.fdiv_i ?_ ?_); (unfold L2.CDiv; omega)) | ((with_reducible refine And.intro ?_ ?_); (exact Nat.le_of_ble_eq_true rfl)) | ((with_reducible refine Fo.add_l ?_ ?_); (exact Nat.le_of_ble_eq_true rfl)) | ((with_reducible refine Fo.addN_l ?_ ?_); (exact Nat.le_of_ble_eq_true rfl)) | ((with_reducible refine Fo.add_t ?_ ?_); (exact Nat.le_of_ble_eq_true rfl)) | ((with_reducible refine Fo.add_s ?_ ?_); (exact Nat.le_of_ble_eq_true rfl)) | ((with_reducible refine Fo.append_i ?_ ?_); (exact Nat.le_of_ble_eq_true rfl)) | ((with_reducible refine Fo.sl_s ?_ ?_); (exact Nat.le_of_ble_eq_true rfl)) | ((with_reducible refine Fo.len_s ?_ ?_); (exact Nat.le_of_ble_eq_true rfl)) | (with_reducible refine Fo.if_t rfl ?_) | (with_reducible refine Fo.if_f rfl ?_) | (with_reducible refine Fo.fin_v ?_) | (with_reducible refine Fo.mDGet_i ?_) | (with_reducible refine Fo.mDGet2_i ?_) | (with_reducible refine Fo.sDPut_i ?_) | (with_reducible refine Fo.mDNew_i ?_) | (with_reducible refine Fo.mDNew1_i ?_) | (with_reducible refine Fo.mDGetT_i ?_) | (with_reducible refine Fo.sDPutT_i ?_) | (with_reducible refine Fo.mDNewT_i ?_) | (with_reducible refine Fo.sPar3_i ?_) | (with_reducible refine Fo.par3_i ?_) | (with_reducible refine Fo.asDic_v ?_) | (with_reducible refine Fo.keyW_i ?_) | (with_reducible refine Fo.keyW_s ?_) | ((with_reducible refine Fo.asDic_r (ks := ?_) (ws := ?_) ?_ ?_); (rotate_left 2); (exact rfl)) | ((with_reducible refine Fo.dicC_r (ks := ?_) (ws := ?_) ?_ ?_); (rotate_left 2); (exact rfl)) | ((with_reducible refine Fo.add_s ?_ ?_); (first | exact Nat.le_of_ble_eq_true rfl | (unfold PySem.sizeLine; omega) | omega)) | ((with_reducible refine Fo.len_s ?_ ?_); (first | exact Nat.le_of_ble_eq_true rfl | (unfold PySem.sizeLine; omega) | omega)) | ((with_reducible refine Fo.iadd_s ?_ ?_); (first | exact Nat.le_of_ble_eq_true rfl | (unfold PySem.sizeLine; omega) | omega)) | (dsimp only)))
local macro_rules | `(tactic| ac_nf0) => `(tactic| repeat (first | (with_reducible refine Fo.sNext_i ?_) | (with_reducible refine Fo.sBrk_i ?_) | (with_reducible refine Fo.sCont_i ?_) | (with_reducible refine Fo.sExpr_i ?_) | (with_reducible refine Fo.sRet_i ?_) | (with_reducible refine Fo.sRetN_i ?_) | (with_reducible refine Fo.sIf_i ?_) | (with_reducible refine Fo.sSet_i ?_) | (with_reducible refine Fo.sAsg_i ?_) | (with_reducible refine Fo.sPar_i ?_) | (with_reducible refine Fo.mC_i ?_) | (with_reducible refine Fo.mBin_i ?_) | (with_reducible refine Fo.mCond_i ?_) | (with_reducible refine Fo.cAnd_i ?_) | (with_reducible refine Fo.cOr_i ?_) | (with_reducible refine Fo.cNot_i ?_) | (with_reducible refine Fo.cYes_i ?_) | (with_reducible refine Fo.mIf_i ?_) | (with_reducible refine Fo.mAnd_i ?_) | (with_reducible refine Fo.mOr_i ?_) | (with_reducible refine Fo.mNot_i ?_) | (with_reducible refine Fo.mNeg_i ?_) | (with_reducible refine Fo.mChain_i ?_) | (with_reducible refine Fo.mSlice_i ?_) | (with_reducible refine Fo.mRev_i ?_) | (with_reducible refine Fo.aNil_i ?_) | (with_reducible refine Fo.aCons_i ?_) | (with_reducible refine Fo.mVal_i ?_) | (with_reducible refine Fo.mCell_i ?_) | (with_reducible refine Fo.nLst_i ?_) | (with_reducible refine Fo.mTup_i ?_) | (with_reducible refine Fo.mCallB_i ?_) | (with_reducible refine Fo.nCallB_i ?_) | (with_reducible refine Fo.mIsi_i ?_) | (with_reducible refine Fo.mIsiT_i ?_) | (with_reducible refine Fo.mMethC_i ?_) | (with_reducible refine Fo.mMethC0_i ?_) | (with_reducible refine Fo.mMethS_i ?_) | (with_reducible refine Fo.mIndexL_i ?_) | (with_reducible refine Fo.iVal_i ?_) | (with_reducible refine Fo.iRange1_i ?_) | (with_reducible refine Fo.iRange2_i ?_) | (with_reducible refine Fo.iEnumL_i ?_) | (with_reducible refine Fo.iZip_i ?_) | (with_reducible refine Fo.iZip2_i ?_) | (with_reducible refine Fo.iZip3_i ?_) | (with_reducible refine Fo.asZ2_i ?_) | (with_reducible refine Fo.asZ3_i ?_) | (with_reducible refine Fo.iEnum1_i ?_) | (with_reducible refine Fo.asE1_i ?_) | (with_reducible refine Fo.nBin_i ?_) | (with_reducible refine Fo.sAugX_i ?_) | (with_reducible refine Fo.sFor_i ?_) | (with_reducible refine Fo.nLC_i ?_) | (with_reducible refine Fo.mCall_i ?_) | (with_reducible refine Fo.mCallK_i ?_) | (with_reducible refine Fo.gVar_i ?_) | (with_reducible refine Fo.gTupM_i ?_) | (with_reducible refine Fo.gsCons_i ?_) | (with_reducible refine Fo.gsNil_i ?_) | (with_reducible refine Fo.gIx_i ?_) | (with_reducible refine Fo.asB_i ?_) | (with_reducible refine Fo.asI_i ?_) | (with_reducible refine Fo.asS_i ?_) | (with_reducible refine Fo.oNo_i ?_) | (with_reducible refine Fo.oAt_i ?_) | (with_reducible refine Fo.asI1_i ?_) | (with_reducible refine Fo.asI2_i ?_) | (with_reducible refine Fo.asL1_i ?_) | (with_reducible refine Fo.rd_v ?_) | (with_reducible refine Fo.par_i ?_) | (with_reducible refine Fo.vals_n ?_) | (with_reducible refine Fo.vals_c ?_) | (with_reducible refine Fo.rds_n ?_) | (with_reducible refine Fo.rds_c ?_) | (with_reducible refine Fo.add_i ?_) | (with_reducible refine Fo.iadd_i ?_) | (with_reducible refine Fo.sub_i ?_) | (with_reducible refine Fo.lt_i ?_) | (with_reducible refine Fo.le_i ?_) | (with_reducible refine Fo.gt_i ?_) | (with_reducible refine Fo.ge_i ?_) | (with_reducible refine Fo.lt_s ?_) | (with_reducible refine Fo.le_s ?_) | (with_reducible refine Fo.gt_s ?_) | (with_reducible refine Fo.ge_s ?_) | (with_reducible refine Fo.is_n ?_) | (with_reducible refine Fo.is_b ?_) | (with_reducible refine Fo.eq_i ?_) | (with_reducible refine Fo.eq_s ?_) | (with_reducible refine Fo.eq_b ?_) | (with_reducible refine Fo.in_s ?_) | (with_reducible refine Fo.sl_t ?_) | (with_reducible refine Fo.sl_l ?_) | (with_reducible refine Fo.sl_c ?_) | (with_reducible refine Fo.len_l ?_) | (with_reducible refine Fo.len_t ?_) | (with_reducible refine Fo.min2_i ?_) | (with_reducible refine Fo.tuple_l ?_) | (with_reducible refine Fo.tuple_t ?_) | (with_reducible refine Fo.listF_l ?_) | (with_reducible refine Fo.listF_t ?_) | (with_reducible refine Fo.itV_l ?_) | (with_reducible refine Fo.itV_t ?_) | (with_reducible refine Fo.itV_s ?_) | (with_reducible refine Fo.asZ_l ?_) | (with_reducible refine Fo.asZ_t ?_) | (with_reducible refine Fo.lstW_v ?_) | (with_reducible refine Fo.rev_t ?_) | (with_reducible refine Fo.rev_l ?_) | (with_reducible refine Fo.seqW_l ?_) | (with_reducible refine Fo.seqW_t ?_) | (with_reducible refine Fo.seqW_s ?_) | (with_reducible refine Fo.nostrict ?_) | (with_reducible refine Fo.int1_b ?_) | (with_reducible refine Fo.int1_i ?_) | ((with_reducible refine Fo.mVar_i (w := ?_) ?_ ?_); (rotate_left); (exact rfl)) | ((with_reducible refine Fo.rd_l (l := ?_) ?_ ?_); (rotate_left); (exact rfl)) | ((with_reducible refine Fo.lstW_r (l := ?_) ?_ ?_); (rotate_left); (exact rfl)) | ((with_reducible refine Fo.sAug_i (w := ?_) ?_ ?_); (rotate_left); (exact rfl)) | ((with_reducible refine Fo.asCell_i (l := ?_) ?_ ?_); (rotate_left); (exact rfl)) | ((with_reducible refine Fo.mFrz_v (d := ?_) ?_ ?_); (rotate_left); (exact rfl)) | ((with_reducible refine Fo.rd_d (ks := ?_) (ws := ?_) ?_ ?_); (rotate_left 2); (exact rfl)) | ((with_reducible refine Fo.mFrz_r (n := ?_) (l := ?_) ?_ ?_ ?_); (rotate_left 2); (exact rfl); (exact rfl)) | ((with_reducible refine Fo.ix_t (d := ?_) ?_ ?_); (rotate_left); (exact rfl)) | ((with_reducible refine Fo.ix_l (d := ?_) ?_ ?_); (rotate_left); (exact rfl)) | ((with_reducible refine Fo.gput_i (p := ?_) ?_ ?_); (rotate_left); (exact rfl)) | ((with_reducible refine Fo.mod_i ?_ ?_); (omega)) | ((with_reducible refine Fo.pow_i ?_ ?_); (exact ⟨by omega, by omega, by omega⟩)) | ((with_reducible refine Fo.mul_i ?_ ?_); (unfold L2.CMul; omega)) | ((with_reducible refine Fo.fdiv_i ?_ ?_); (unfold L2.CDiv; omega)) | ((with_reducible refine And.intro ?_ ?_); (exact Nat.le_of_ble_eq_true rfl)) | ((with_reducible refine Fo.add_l ?_ ?_); (exact Nat.le_of_ble_eq_true rfl)) | ((with_reducible refine Fo.addN_l ?_ ?_); (exact Nat.le_of_ble_eq_true rfl)) | ((with_reducible refine Fo.add_t ?_ ?_); (exact Nat.le_of_ble_eq_true rfl)) | ((with_reducible refine Fo.add_s ?_ ?_); (exact Nat.le_of_ble_eq_true rfl)) | ((with_reducible refine Fo.append_i ?_ ?_); (exact Nat.le_of_ble_eq_true rfl)) | ((with_reducible refine Fo.sl_s ?_ ?_); (exact Nat.le_of_ble_eq_true rfl)) | ((with_reducible refine Fo.len_s ?_ ?_); (exact Nat.le_of_ble_eq_true rfl)) | (with_reducible refine Fo.if_t rfl ?_) | (with_reducible refine Fo.if_f rfl ?_) | (with_reducible refine Fo.fin_v ?_) | (with_reducible refine Fo.mDGet_i ?_) | (with_reducible refine Fo.mDGet2_i ?_) | (with_reducible refine Fo.sDPut_i ?_) | (with_reducible refine Fo.mDNew_i ?_) | (with_reducible refine Fo.mDNew1_i ?_) | (with_reducible refine Fo.mDGetT_i ?_) | (with_reducible refine Fo.sDPutT_i ?_) | (with_reducible refine Fo.mDNewT_i ?_) | (with_reducible refine Fo.sPar3_i ?_) | (with_reducible refine Fo.par3_i ?_) | (with_reducible refine Fo.asDic_v ?_) | (with_reducible refine Fo.keyW_i ?_) | (with_reducible refine Fo.keyW_s ?_) | ((with_reducible refine Fo.asDic_r (ks := ?_) (ws := ?_) ?_ ?_); (rotate_left 2); (exact rfl)) | ((with_reducible refine Fo.dicC_r (ks := ?_) (ws := ?_) ?_ ?_); (rotate_left 2); (exact rfl)) | ((with_reducible refine Fo.add_s ?_ ?_); (first | exact Nat.le_of_ble_eq_true rfl | (unfold PySem.sizeLine; omega) | omega)) | ((with_reducible refine Fo.len_s ?_ ?_); (first | exact Nat.le_of_ble_eq_true rfl | (unfold PySem.sizeLine; omega) | omega)) | ((with_reducible refine Fo.iadd_s ?_ ?_); (first | exact Nat.le_of_ble_eq_true rfl | (unfold PySem.sizeLine; omega) | omega)) | (dsimp only)))
local macro_rules | `(tactic| apply_assumption) => `(tactic| ((try dsimp only); (with_reducible refine Fo.sSeq_i ?_); ac_nf0))
namespace Fo
open PySem PySem.Spec PyProof.Rows L2
section
variable {g : MG} {ρ : Rho} {S : Sto}
theorem lc_mapD {c : MT} {e : ME} {kn : List D → Sto → Prop} (h : D → D) (l : List D) (hl : l.length ≤ sizeLine)
    (step : ∀ x ∈ l, ∀ (acc : List D) (K : List D → Sto → Prop), acc.length < sizeLine → K (acc ++ [h x]) S →
      g (.val x) ρ S fun ρ2 S2 => c ρ2 S2 fun b S3 => if b = true then e ρ2 S3 fun w S4 => lcPut acc K w S4 else K acc S3)
    (q : kn (l.map h) S) : lcItems g c e ρ kn l [] S := by
  rw [← List.map_id l]
  exact lc_map (fun x => x) h l hl step q
end
def pool1 (c : Nat) : Bool := decide (33 ≤ c) && decide (c ≤ 126)
def ascB (l : List Nat) : Bool := (l.zip (l.drop 1)).all fun p => decide (p.1 < p.2)
def sgB (l : List Nat) : Bool := decide (1 ≤ l.length) && decide (l.length ≤ 8) && l.all pool1 && ascB l
def areSg : D → Bool
  | .str l => sgB l
  | _ => false
def isNumD : D → Int → Bool
  | .int i, b => decide (0 ≤ i) && decide (i < b)
  | _, _ => false
theorem t_is_number_any {d : D} {b : Int} {k : KW} (hk : k (.val (.bl (isNumD d b))) []) : t_is_number [.val d, .val (.int b)] [] k := by
  unfold t_is_number
  refine mfun_of ?_
  cases d with
  | int i =>
    ac_nf0
    replace hk : k (.val (.bl (decide (0 ≤ i) && decide (i < b)))) [] := hk
    by_cases h : 0 ≤ i
    · rw [decide_eq_true h] at hk ⊢
      ac_nf0
      exact hk
    · rw [decide_eq_false h] at hk ⊢
      ac_nf0
      exact hk
  | _ =>
    ac_nf0
    exact hk
theorem len_le {n b : Nat} : decide (((n : Nat) : Int) ≤ (b : Nat)) = decide (n ≤ b) := decide_eq_decide.mpr (by omega)
end Fo
/-! Any3: what is a lot, asked of any data: the program's look. -/
-- v2
namespace Fo
open PySem PySem.Spec PyProof.Rows L2
theorem two_of {l : List D} (h : l.length = 2) : ∃ x y, l = [x, y] := by
  match l, h with
  | [x, y], _ => exact ⟨x, y, rfl⟩
theorem isT_tup {d : D} (h : isT d "tuple" = true) : ∃ l, d = .tup l := by
  cases d with
  | tup l => exact ⟨l, rfl⟩
  | _ => exact absurd (show false = true from h) (by decide)
end Fo
/-! Any4: what is a lot, asked of any data: the law's look. -/
-- v2
namespace Fo
open PySem PySem.Spec PyProof.Rows L2
theorem asc_iff : ∀ {l : List Nat}, ascB l = true ↔ l.Pairwise (· < ·)
  | [] => by simp [ascB]
  | [x] => by simp [ascB]
  | x :: y :: l => by
    have ih := asc_iff (l := y :: l)
    have e : ascB (x :: y :: l) = (decide (x < y) && ascB (y :: l)) := by
      unfold ascB
      rfl
    rw [e, Bool.and_eq_true, ih, decide_eq_true_eq, List.pairwise_cons (a := x)]
    constructor
    · rintro ⟨h1, h2⟩
      refine ⟨fun z hz => ?_, h2⟩
      rcases List.mem_cons.mp hz with rfl | hz
      · exact h1
      · exact Nat.lt_trans h1 ((List.pairwise_cons.mp h2).1 z hz)
    · rintro ⟨h1, h2⟩
      exact ⟨h1 y List.mem_cons_self, h2⟩
theorem fm_none {α β : Type} {p : α → Bool} {f : α → β} (l : List α) : (l.filterMap fun c => if p c = true then none else some (f c)).isEmpty = l.all p := by
  induction l with
  | nil => rfl
  | cons x l ih =>
    rw [List.filterMap_cons, List.all_cons]
    cases p x with
    | true => simpa using ih
    | false => rfl
end Fo
/-! Any5: what is a lot, asked of any data: the law's look at the whole. -/
-- v2
namespace Fo
open PySem PySem.Spec PyProof.Rows L2
theorem all_doneB {p : D → Bool} {dn r : List D} {d : D} (h : dn.all p = true) (e : p d = false) : (dn ++ d :: r).all p = false := by
  rw [List.all_append, List.all_cons, e]
  simp
end Fo
/-! Odd: a thing with a part otherwise. -/
-- v2
namespace Fo
open PySem PySem.Spec PyProof.Rows L2
mutual
def iX : D → Nat
  | .int i => i.natAbs
  | .tup l => iXs l
  | .lst l => iXs l
  | .dct ks ws => max (iXs ks) (iXs ws)
  | _ => 0
def iXs : List D → Nat
  | [] => 0
  | d :: l => max (iX d) (iXs l)
end
theorem iXs_le : ∀ {l : List D} {n : Nat}, iXs l ≤ n ↔ ∀ x ∈ l, iX x ≤ n
  | [], n => by simp [iXs]
  | d :: l, n => by
    unfold iXs
    rw [Nat.max_le, iXs_le (l := l)]
    simp
/-- sane, its numbers at most b, n deep, of weight w -/
structure Bt (n b w : Nat) (d : D) : Prop extends Fit n w d where
  ib : iX d ≤ b
structure BtL (n b w : Nat) (l : List D) : Prop where
  sn : ∀ x ∈ l, sane x = true
  dp : ∀ x ∈ l, dX x ≤ n
  ib : ∀ x ∈ l, iX x ≤ b
  wt : wXs l ≤ w
theorem Bt.mono {n b w n' b' w' : Nat} {d : D} (h : Bt n b w d) (hn : n ≤ n') (hb : b ≤ b') (hw : w ≤ w') : Bt n' b' w' d := ⟨h.toFit.mono hn hw, Nat.le_trans h.ib hb⟩
theorem BtL.tup {n b w w' : Nat} {l : List D} (h : BtL n b w l) (hw : w + 3 ≤ w') : Bt (n + 1) b w' (.tup l) := by
  refine ⟨⟨?_, ?_, ?_⟩, ?_⟩
  · unfold sane
    exact sanes_iff.mpr h.sn
  · unfold dX
    have := dXs_le.mpr h.dp
    omega
  · unfold wX
    have := h.wt
    omega
  · unfold iX
    exact iXs_le.mpr h.ib
theorem BtL.lst {n b w w' : Nat} {l : List D} (h : BtL n b w l) (hw : w + 3 ≤ w') : Bt (n + 1) b w' (.lst l) := by
  refine ⟨⟨?_, ?_, ?_⟩, ?_⟩
  · unfold sane
    exact sanes_iff.mpr h.sn
  · unfold dX
    have := dXs_le.mpr h.dp
    omega
  · unfold wX
    have := h.wt
    omega
  · unfold iX
    exact iXs_le.mpr h.ib
theorem Bt.els {n b w : Nat} {l : List D} (h : Bt n b w (.tup l)) : BtL (n - 1) b (wXs l) l ∧ 1 ≤ n ∧ wXs l + 3 ≤ w := by
  have h1 := h.sn
  have h2 := h.dp
  have h3 := h.wt
  have h4 := h.ib
  unfold sane at h1
  unfold dX at h2
  unfold wX at h3
  unfold iX at h4
  exact ⟨⟨sanes_iff.mp h1, dXs_le.mp (by omega : dXs l ≤ n - 1), iXs_le.mp h4, Nat.le_refl _⟩, by omega, h3⟩
theorem BtL.mem {n b w : Nat} {l : List D} (h : BtL n b w l) {x : D} (hx : x ∈ l) : Bt n b (wX x) x := ⟨⟨h.sn x hx, h.dp x hx, Nat.le_refl _⟩, h.ib x hx⟩
theorem BtL.app {n b w w' : Nat} {l m : List D} (h : BtL n b w l) (h2 : BtL n b w' m) : BtL n b (w + w') (l ++ m) := by
  refine ⟨fun x hx => ?_, fun x hx => ?_, fun x hx => ?_, ?_⟩
  · exact (List.mem_append.mp hx).elim (h.sn x) (h2.sn x)
  · exact (List.mem_append.mp hx).elim (h.dp x) (h2.dp x)
  · exact (List.mem_append.mp hx).elim (h.ib x) (h2.ib x)
  · rw [wXs_app]
    have := h.wt
    have := h2.wt
    omega
theorem BtL.nil {n b : Nat} : BtL n b 0 [] := ⟨fun x hx => (by cases hx), fun x hx => (by cases hx), fun x hx => (by cases hx), Nat.le_refl _⟩
theorem BtL.cons {n b w w' : Nat} {x : D} {l : List D} (h : Bt n b w' x) (h2 : BtL n b w l) : BtL n b (w' + 2 + w) (x :: l) := by
  refine ⟨fun y hy => ?_, fun y hy => ?_, fun y hy => ?_, ?_⟩
  · exact (List.mem_cons.mp hy).elim (fun e => e ▸ h.sn) (h2.sn y)
  · exact (List.mem_cons.mp hy).elim (fun e => e ▸ h.dp) (h2.dp y)
  · exact (List.mem_cons.mp hy).elim (fun e => e ▸ h.ib) (h2.ib y)
  · unfold wXs
    have := h.wt
    have := h2.wt
    omega
theorem BtL.sub {n b w : Nat} {l m : List D} (h : BtL n b w l) (hm : m.Sublist l) : BtL n b w m := by
  refine ⟨fun x hx => h.sn x (hm.subset hx), fun x hx => h.dp x (hm.subset hx), fun x hx => h.ib x (hm.subset hx), Nat.le_trans ?_ h.wt⟩
  clear h
  induction hm with
  | slnil => exact Nat.le_refl _
  | cons a _ ih =>
    show wXs _ ≤ wX a + 2 + wXs _
    omega
  | cons_cons a _ ih =>
    show wX a + 2 + wXs _ ≤ wX a + 2 + wXs _
    omega
theorem cutL_sub {α : Type} (l : List α) (lo hi : Option Int) : (cutL l lo hi).Sublist l := by
  unfold cutL
  exact (List.take_sublist _ _).trans (List.drop_sublist _ _)
theorem cutL_len {α : Type} (l : List α) (lo hi : Option Int) : (cutL l lo hi).length ≤ l.length := (cutL_sub l lo hi).length_le
theorem BtL.cut {n b w : Nat} {l : List D} (h : BtL n b w l) (lo hi : Option Int) : BtL n b w (cutL l lo hi) := h.sub (cutL_sub l lo hi)
theorem BtL.mono {n b w n' b' w' : Nat} {l : List D} (h : BtL n b w l) (hn : n ≤ n') (hb : b ≤ b') (hw : w ≤ w') : BtL n' b' w' l := ⟨h.sn, fun x hx => Nat.le_trans (h.dp x hx) hn, fun x hx => Nat.le_trans (h.ib x hx) hb, Nat.le_trans h.wt hw⟩
theorem Bt.int {n b : Nat} {i : Int} (h : i.natAbs ≤ b) (hb : b < 10 ^ 22) : Bt n b 25 (.int i) := by
  refine ⟨⟨?_, Nat.zero_le _, Nat.le_refl _⟩, h⟩
  unfold sane
  exact decide_eq_true (by omega)
theorem Bt.non {n b : Nat} : Bt n b 5 .non := ⟨⟨rfl, Nat.zero_le _, Nat.le_refl _⟩, Nat.zero_le _⟩
theorem Bt.bl {n b : Nat} {z : Bool} : Bt n b 5 (.bl z) := ⟨⟨rfl, Nat.zero_le _, Nat.le_refl _⟩, Nat.zero_le _⟩
theorem Bt.str {n b w : Nat} {l : List Nat} (h : ∀ c ∈ l, c < 256) (hw : 4 * l.length + 2 ≤ w) : Bt n b w (.str l) := by
  refine ⟨⟨?_, Nat.zero_le _, hw⟩, Nat.zero_le _⟩
  unfold sane
  exact List.all_eq_true.mpr fun c hc => decide_eq_true (h c hc)
theorem Bt.dct0 {n b : Nat} : Bt (n + 1) b 3 (.dct [] []) := ⟨⟨rfl, by show 0 + 1 ≤ n + 1; omega, Nat.le_refl _⟩, Nat.zero_le _⟩
theorem Bt.sg {n b w : Nat} {l : List Nat} (h : Bt n b w (.str l)) : (∀ c ∈ l, c < 256) ∧ 4 * l.length + 2 ≤ w := by
  have h1 := h.sn
  have h3 := h.wt
  unfold sane at h1
  unfold wX at h3
  exact ⟨fun c hc => of_decide_eq_true (List.all_eq_true.mp h1 c hc), h3⟩
theorem Bt.val {n b w : Nat} {i : Int} (h : Bt n b w (.int i)) : i.natAbs ≤ b ∧ i.natAbs < 10 ^ 22 := by
  have h1 := h.sn
  unfold sane at h1
  exact ⟨h.ib, of_decide_eq_true h1⟩
theorem cut256 {l : List Nat} (h : ∀ c ∈ l, c < 256) (lo hi : Option Int) : ∀ c ∈ cutL l lo hi, c < 256 := fun c hc => h c ((cutL_sub l lo hi).subset hc)
theorem app256 {l m : List Nat} (h : ∀ c ∈ l, c < 256) (h2 : ∀ c ∈ m, c < 256) : ∀ c ∈ l ++ m, c < 256 := fun c hc => (List.mem_append.mp hc).elim (h c) (h2 c)
theorem ixl_mem {l : List D} {i : Int} {S : Sto} {k : KW} (h0 : 0 ≤ i) (h1 : i < l.length) (h : ∀ d ∈ l, k (.val d) S) : ixD (.lst l) (.int i) S k := by
  obtain ⟨x, e, hm, _⟩ := atI_in h0 h1
  exact ix_l e (h x hm)
end Fo
/-! Odd2: _law_odd, whatever the thing is. -/
-- v3
/-! Odd3: _law_bent. -/
-- v3
namespace Fo
open PySem PySem.Spec PyProof.Rows L2
theorem wXs_split {l : List D} {i : Nat} {x : D} (h : l[i]? = some x) : wXs (l.take i) + (wX x + 2) + wXs (l.drop (i + 1)) = wXs l := by
  obtain ⟨hi, e⟩ := List.getElem?_eq_some_iff.mp h
  have e2 : l = l.take i ++ x :: l.drop (i + 1) := by
    rw [← e, ← List.drop_eq_getElem_cons hi, List.take_append_drop]
  conv => rhs; rw [e2, wXs_app]
  show _ = wXs (l.take i) + (wX x + 2 + wXs (l.drop (i + 1)))
  omega
end Fo
/-! Lk1: lots, looked at; the bounds. -/
-- v3
namespace Fo
open PySem PySem.Spec PyProof.Rows L2
theorem sg_areSg {sg : List Nat} (h : Sg sg) (h1 : 1 ≤ sg.length) : areSg (.str sg) = decide (sg.length ≤ 8) := by
  have e1 : sg.all pool1 = true := List.all_eq_true.mpr fun c hc => by
    have := pool_in c (h.pool c hc)
    unfold pool1
    rw [decide_eq_true this.1, decide_eq_true this.2]
    rfl
  show sgB sg = _
  unfold sgB
  rw [decide_eq_true h1, e1, asc_iff.mpr (sg_up h)]
  simp
theorem th_bt {j : Option Nat} (h : ∀ i, j = some i → i < 100) : Bt 0 (10 ^ 20) 25 (thD j) := by
  cases j with
  | none => exact (Bt.non (n := 0) (b := 10 ^ 20)).mono (Nat.le_refl _) (Nat.le_refl _) (by omega)
  | some i =>
    have := h i rfl
    exact Bt.int (show ((i : Nat) : Int).natAbs ≤ 10 ^ 20 by omega) (by decide)
theorem BtL.of {n b w : Nat} : ∀ {l : List D}, (∀ x ∈ l, Bt n b w x) → BtL n b ((w + 2) * l.length) l
  | [], _ => BtL.nil
  | d :: l, h => by
    have := BtL.cons (h d List.mem_cons_self) (BtL.of (l := l) fun x hx => h x (List.mem_cons_of_mem _ hx))
    refine this.mono (Nat.le_refl _) (Nat.le_refl _) ?_
    rw [List.length_cons, Nat.mul_succ]
    omega
theorem lst_bt {a n : Nat} {s : Lst} (h : LsOk a n s) (ha : a ≤ 8) (hn : n ≤ 9) : Bt 2 (10 ^ 20) 300 (lstD s) := by
  have h1 : BtL 0 (10 ^ 20) (27 * s.1.length) (s.1.map thD) := by
    have := BtL.of (n := 0) (b := 10 ^ 20) (w := 25) (l := s.1.map thD) fun x hx => by
      obtain ⟨w, hw, rfl⟩ := List.mem_map.mp hx
      exact th_bt fun i e => by
        have := h.ways w hw i e
        omega
    rw [List.length_map] at this
    exact this
  have h2 : Bt 1 (10 ^ 20) 250 (.tup (s.1.map thD)) := h1.tup (by have := h.len; omega)
  exact (BtL.cons h2 (BtL.cons (Bt.bl (n := 1)) BtL.nil)).tup (by omega)
theorem lot_bt {sg : List Nat} {ss : List Lst} (h : Sg sg) (h9 : sg.length ≤ 9) (h8 : ss.length ≤ 8) (hs : ∀ s ∈ ss, LsOk ss.length sg.length s) : Bt 4 (10 ^ 20) 2600 (lotD ⟨sg, ss⟩) := by
  have h1 : BtL 2 (10 ^ 20) (302 * ss.length) (ss.map lstD) := by
    have := BtL.of (n := 2) (b := 10 ^ 20) (w := 300) (l := ss.map lstD) fun x hx => by
      obtain ⟨s, hs', rfl⟩ := List.mem_map.mp hx
      exact lst_bt (hs s hs') h8 h9
    rw [List.length_map] at this
    exact this
  have h2 : Bt 3 (10 ^ 20) 2500 (.tup (ss.map lstD)) := h1.tup (by omega)
  have h3 : Bt 3 (10 ^ 20) 38 (.str sg) := Bt.str (fun c hc => by have := pool_in c (h.pool c hc); omega) (by omega)
  exact (BtL.cons h3 (BtL.cons h2 BtL.nil)).tup (by omega)
theorem fit_repr2 {n w : Nat} {d : D} {z : List Nat} {S : Sto} {k : KW} (h : Fit n w d) (hz : shownX d = z) (hn : n ≤ 60) (hw : w ≤ sizeLine) (q : k (.val (.str z)) S) : reprX [d] S k := ⟨h.shx hn hw, by rw [hz]; exact q⟩
end Fo
/-! Rd1: what is a reader, asked of any data: the program's look. -/
-- v3
namespace Fo
open PySem PySem.Spec PyProof.Rows L2
def txB (sg : List Nat) (most : Nat) : D → Bool
  | .str l => decide (l.length ≤ most) && l.all fun c => decide (c ∈ sg)
  | _ => false
def wyB (many : Nat) (tl : List Nat) : D → Bool
  | .tup [q, t] => isNumD q (many : Nat) && txB tl 3 t
  | _ => false
def enB (tl : List Nat) (e : D) : Bool := e.isNon || txB tl 3 e
def rsB (n : Nat) (tl : List Nat) (many : Nat) : D → Bool
  | .tup [.tup ws, e] => decide (ws.length = n) && ws.all (wyB many tl) && enB tl e
  | _ => false
def sgD : D → List Nat
  | .str l => l
  | _ => []
def rdB : D → Bool
  | .tup [r, t, .tup ss] => areSg r && areSg t && decide (1 ≤ ss.length) && decide (ss.length ≤ 6) && ss.all (rsB (sgD r).length (sgD t) ss.length)
  | _ => false
theorem in_sg {l : List D} {p : D → Bool} : (l.map fun d => D.bl (p d)) = (l.map p).map D.bl := by rw [List.map_map]; rfl
theorem t_is_text_of_any {d : D} {sg : List Nat} {most n w : Nat} (h : Fit n w d) (hw : w ≤ 1000000) {k : KW} (hk : k (.val (.bl (txB sg most d))) []) : t_is_text_of [.val d, .val (.str sg), .val (.int (most : Nat))] [] k := by
  unfold t_is_text_of
  refine mfun_of ?_
  cases d with
  | str l =>
    have hl := h.slen
    replace hk : k (.val (.bl (decide (l.length ≤ most) && l.all fun c => decide (c ∈ sg)))) [] := hk
    and_intros
    rw [len_le]
    cases h1 : decide (l.length ≤ most) with
    | false =>
      rw [h1] at hk
      and_intros
      exact hk
    | true =>
      rw [h1] at hk
      and_intros
      refine lc_map (fun c => .str [c]) (fun c => .bl (decide (c ∈ sg))) l (by unfold sizeLine; omega) (fun c hc acc K ha hK => ?_) ?_
      · and_intros
        rw [Bool.bne_false]
        exact lcput_i ha hK
      · and_intros
        rw [show l.map (fun c => D.bl (decide (c ∈ sg))) = (l.map fun c => decide (c ∈ sg)).map D.bl by rw [List.map_map]; rfl]
        refine all_l ?_
        rw [List.all_map]
        and_intros
        exact hk
  | _ =>
    and_intros
    exact hk
end Fo
/-! Rd2: what is a reader, asked of any data: the law's look. -/
-- v3
/-! Rd3: readers of just so many signs, states. -/
-- v3
/-! Lk2: _law_bounds_right of lots. -/
-- v3
/-! Rd4: readers, looked at; the bounds; the signs. -/
-- v3
namespace Fo
open PySem PySem.Spec PyProof.Rows L2
theorem txB_ok {tl t : List Nat} {n : Nat} (h : TxOk tl n t) (hn : n ≤ 3) : txB tl 3 (.str t) = true := by
  show (decide (t.length ≤ 3) && t.all fun c => decide (c ∈ tl)) = true
  rw [decide_eq_true (Nat.le_trans h.2 hn), Bool.true_and]
  exact List.all_eq_true.mpr fun c hc => decide_eq_true (h.1 c hc)
theorem wyB_ok {a : Nat} {tl : List Nat} {n : Nat} {w : Way} (h : WayOk a tl n w) (hn : n ≤ 3) : wyB a tl (wayD w) = true := by
  show ((decide ((0 : Int) ≤ (w.1 : Nat)) && decide (((w.1 : Nat) : Int) < (a : Nat))) && txB tl 3 (.str w.2)) = true
  have := h.1
  rw [decide_eq_true (by omega), decide_eq_true (by omega), txB_ok h.2 hn]
  rfl
theorem rsB_ok {a l : Nat} {tl : List Nat} {n e : Nat} {s : Stt} (h : SttOk a l tl n e s) (hn : n ≤ 3) (he : e ≤ 3) : rsB l tl a (sttD s) = true := by
  show (decide ((s.1.map wayD).length = l) && (s.1.map wayD).all (wyB a tl) && enB tl (optD s.2)) = true
  rw [List.length_map, decide_eq_true h.len, Bool.true_and]
  have e1 : (s.1.map wayD).all (wyB a tl) = true := List.all_eq_true.mpr fun d hd => by
    obtain ⟨w, hw, rfl⟩ := List.mem_map.mp hd
    exact wyB_ok (h.ways w hw) hn
  rw [e1, Bool.true_and]
  cases hs : s.2 with
  | none => rfl
  | some t =>
    show (false || txB tl 3 (.str t)) = true
    rw [txB_ok (h.fin t hs) he]
    rfl
theorem rdB_rdr {n e : Nat} {r : Rdr} (hr : Sg r.reads) (ht : Sg r.tells) (l1 : 1 ≤ r.reads.length) (l2 : 1 ≤ r.tells.length) (l3 : 1 ≤ r.sts.length) (hs : ∀ s ∈ r.sts, SttOk r.sts.length r.reads.length r.tells n e s) (hn : n ≤ 3) (he : e ≤ 3) :
    rdB (rdrD r) = (decide (r.reads.length ≤ 8) && decide (r.tells.length ≤ 8) && decide (r.sts.length ≤ 6)) := by
  show (areSg (.str r.reads) && areSg (.str r.tells) && decide (1 ≤ (r.sts.map sttD).length) && decide ((r.sts.map sttD).length ≤ 6) && (r.sts.map sttD).all (rsB r.reads.length r.tells (r.sts.map sttD).length)) = _
  rw [List.length_map, sg_areSg hr l1, sg_areSg ht l2, decide_eq_true l3]
  have e1 : (r.sts.map sttD).all (rsB r.reads.length r.tells r.sts.length) = true := List.all_eq_true.mpr fun d hd => by
    obtain ⟨s, hs', rfl⟩ := List.mem_map.mp hd
    exact rsB_ok (hs s hs') hn he
  rw [e1, Bool.and_true, Bool.and_true]
theorem way_bt {a : Nat} {tl : List Nat} {n : Nat} {w : Way} (h : WayOk a tl n w) (ht : Sg tl) (hn : n ≤ 4) (ha : a ≤ 100) : Bt 1 (10 ^ 20) 50 (wayD w) := by
  have h1 := h.1
  have h2 := h.2.2
  exact (BtL.cons (Bt.int (n := 0) (b := 10 ^ 20) (i := (w.1 : Nat)) (by omega) (by decide)) (BtL.cons (Bt.str (n := 0) (l := w.2) (w := 18) (fun c hc => by have := pool_in c (ht.pool c (h.2.1 c hc)); omega) (by omega)) BtL.nil)).tup (by omega)
theorem opt_bt {tl : List Nat} {e : Nat} {o : Option (List Nat)} (h : ∀ t, o = some t → TxOk tl e t) (ht : Sg tl) (he : e ≤ 4) : Bt 2 (10 ^ 20) 18 (optD o) := by
  cases o with
  | none => exact (Bt.non (n := 2) (b := 10 ^ 20)).mono (Nat.le_refl _) (Nat.le_refl _) (by omega)
  | some t =>
    have := h t rfl
    have h2 := this.2
    exact Bt.str (fun c hc => by have := pool_in c (ht.pool c (this.1 c hc)); omega) (by omega)
theorem stt_bt {a l : Nat} {tl : List Nat} {n e : Nat} {s : Stt} (h : SttOk a l tl n e s) (ht : Sg tl) (hn : n ≤ 4) (he : e ≤ 4) (ha : a ≤ 100) (hl : l ≤ 9) : Bt 3 (10 ^ 20) 500 (sttD s) := by
  have h1 : BtL 1 (10 ^ 20) ((50 + 2) * (s.1.map wayD).length) (s.1.map wayD) := BtL.of fun x hx => by
    obtain ⟨w, hw, rfl⟩ := List.mem_map.mp hx
    exact way_bt (h.ways w hw) ht hn ha
  rw [List.length_map, h.len] at h1
  exact (BtL.cons (h1.tup (w' := 471) (by omega)) (BtL.cons (opt_bt h.fin ht he) BtL.nil)).tup (by omega)
theorem rdr_bt {a l n e : Nat} {r : Rdr} (hr : Sg r.reads) (ht : Sg r.tells) (l1 : r.reads.length ≤ 9) (l2 : r.tells.length ≤ 9) (l3 : r.sts.length ≤ 7) (hs : ∀ s ∈ r.sts, SttOk a l r.tells n e s) (hn : n ≤ 4) (he : e ≤ 4) (ha : a ≤ 100) (hl : l ≤ 9) : Bt 5 (10 ^ 20) 4000 (rdrD r) := by
  have h1 : BtL 3 (10 ^ 20) ((500 + 2) * (r.sts.map sttD).length) (r.sts.map sttD) := BtL.of fun x hx => by
    obtain ⟨s, hs', rfl⟩ := List.mem_map.mp hx
    exact stt_bt (hs s hs') ht hn he ha hl
  rw [List.length_map] at h1
  have s1 : Bt 4 (10 ^ 20) 38 (.str r.reads) := Bt.str (fun c hc => by have := pool_in c (hr.pool c hc); omega) (by omega)
  have s2 : Bt 4 (10 ^ 20) 38 (.str r.tells) := Bt.str (fun c hc => by have := pool_in c (ht.pool c hc); omega) (by omega)
  exact (BtL.cons s1 (BtL.cons s2 (BtL.cons (h1.tup (w' := 3600) (by omega)) BtL.nil))).tup (by omega)
end Fo
/-! Rw1: what is a row, asked of any data. -/
-- v3
namespace Fo
open PySem PySem.Spec PyProof.Rows L2
def tlD : D → List Nat
  | .tup (_ :: t :: _) => sgD t
  | _ => []
def rd0D : D → List Nat
  | .tup (r :: _) => sgD r
  | _ => []
def lnk (p : D × D) : Bool := (tlD p.1).all fun c => decide (c ∈ rd0D p.2)
def linksB (l : List D) : Bool := (l.zip (l.drop 1)).all lnk
def rowB : D → Bool
  | .tup l => decide (1 ≤ l.length) && decide (l.length ≤ 3) && l.all rdB && linksB l
  | _ => false
end Fo
/-! Rw2: what is a row, a web, asked of any data: all looks. -/
-- v3
namespace Fo
open PySem PySem.Spec PyProof.Rows L2
theorem pys_any_no : ∀ bs : List Bool, (pys (bs.map D.bl)).any (fun z => PyData.eqv z (py (.bl false))) = !bs.all id
  | [] => rfl
  | b :: bs => by
    show (PyData.eqv (.bool b) (.bool false) || (pys (bs.map D.bl)).any _) = !(b && bs.all id)
    rw [pys_any_no bs]
    cases b
    · rfl
    · show (PyData.eqv (.bool true) (.bool false) || !bs.all id) = !(true && bs.all id)
      rw [Bool.true_and]
      rfl
theorem in_no {neg : Bool} {bs : List Bool} {S : Sto} {k : KW} (q : k (.val (.bl ((!bs.all id) != neg))) S) : inD neg (.bl false) (.lst (bs.map D.bl)) S k := by
  refine in_l rfl (shp_bools fun x hx => ?_) ?_
  · obtain ⟨b, _, rfl⟩ := List.mem_map.mp hx
    exact ⟨b, rfl⟩
  · rw [pys_any_no]
    exact q
/-! ### webs -/
def hd0 : D → List Nat
  | .tup (r :: _) => rd0D r
  | _ => []
end Fo
/-! Frm1: lots with a word, drawn. -/
-- v3
namespace Fo
open PySem PySem.Spec PyProof.Rows L2
theorem word_short {l : Lot} (hl : LotOk l) : ∀ (n : Nat) (t : List Nat), t.length ≤ n → wordL l t = true → ∃ u, u.length < l.sts.length ∧ wordL l u = true
  | 0, t, hn, h => ⟨t, by have := List.length_pos_iff.mpr hl.ne; omega, h⟩
  | n + 1, t, hn, h => by
    by_cases hs : t.length < l.sts.length
    · exact ⟨t, hs, h⟩
    · obtain ⟨a, b, c, e, hb, _, e2⟩ := loop_of hl h (by omega)
      refine word_short hl n (a ++ c) ?_ ?_
      · have := congrArg List.length e
        simp only [List.length_append] at this ⊢
        omega
      · unfold wordL at h ⊢
        rw [onL_app, ← e2, ← onL_app, ← e]
        exact h
theorem pys_any_yes : ∀ bs : List Bool, (pys (bs.map D.bl)).any (fun z => PyData.eqv z (py (.bl true))) = bs.any id
  | [] => rfl
  | b :: bs => by
    show (PyData.eqv (.bool b) (.bool true) || (pys (bs.map D.bl)).any _) = (b || bs.any id)
    rw [pys_any_yes bs]
    cases b <;> rfl
theorem in_yes {neg : Bool} {bs : List Bool} {S : Sto} {k : KW} (q : k (.val (.bl (bs.any id != neg))) S) : inD neg (.bl true) (.lst (bs.map D.bl)) S k := by
  refine in_l rfl (shp_bools fun x hx => ?_) ?_
  · obtain ⟨b, _, rfl⟩ := List.mem_map.mp hx
    exact ⟨b, rfl⟩
  · rw [pys_any_yes]
    exact q
/-- what is read as these, as a list or a tuple -/
def RdAs (S : Sto) (w : W) (X : List D) : Prop := ∀ kd : D → Prop, kd (.lst X) → kd (.tup X) → rd S w kd
theorem RdAs.ix {S : Sto} {w : W} {X : List D} {i : Nat} {d : D} {k : KW} (hr : RdAs S w X) (h : X[i]? = some d) (q : k (.val d) S) : rd S w fun dx => rd S (.val (.int (i : Nat))) fun dy => ixD dx dy S k :=
  hr _ (ix_l (atI_nat h) q) (ix_t (atI_nat h) q)
theorem RdAs.len {S : Sto} {w : W} {X : List D} {k : KW} (hr : RdAs S w X) (q : k (.val (.int (X.length : Nat))) S) : rd S w fun d => rds S [] fun ds => lenC (d :: ds) S k :=
  hr _ (len_l q) (len_t q)
def nwF (fd : List Nat) : Option Nat → Option Nat
  | none => none
  | some j => if j ∈ fd then none else some j
theorem nwF_in {fd : List Nat} {j : Nat} (h : j ∈ fd) : nwF fd (some j) = none := if_pos h
theorem nwF_no {fd : List Nat} {j : Nat} (h : j ∉ fd) : nwF fd (some j) = some j := if_neg h
def nw (fd : List Nat) (ws : List (Option Nat)) : List Nat := ws.filterMap (nwF fd)
theorem nw_mem {fd : List Nat} {ws : List (Option Nat)} {j : Nat} : j ∈ nw fd ws ↔ some j ∈ ws ∧ j ∉ fd := by
  unfold nw
  rw [List.mem_filterMap]
  constructor
  · rintro ⟨o, h1, h2⟩
    cases o with
    | none => cases h2
    | some i =>
      have h2 : (if i ∈ fd then none else some i) = some j := h2
      by_cases hm : i ∈ fd
      · rw [if_pos hm] at h2
        cases h2
      · rw [if_neg hm] at h2
        injection h2 with h2
        subst h2
        exact ⟨h1, hm⟩
  · rintro ⟨h1, h2⟩
    exact ⟨some j, h1, if_neg h2⟩
structure Fd (l : Lot) (i : Nat) (fd : List Nat) : Prop where
  z : 0 ∈ fd
  re : ∀ q ∈ fd, ∃ t, onL l (some 0) t = some q
  all : ∀ t q, t.length ≤ i → onL l (some 0) t = some q → q ∈ fd
  len : fd.length ≤ 10 ^ i
theorem step_way {l : Lot} {q c j : Nat} (h : stepL l (some q) c = some j) : c ∈ l.signs ∧ atR (atR l.sts ([], false) q).1 none (l.signs.idxOf c) = some j := by
  unfold stepL at h
  dsimp only at h
  split at h
  · exact ⟨by assumption, h⟩
  · cases h
theorem way_step {l : Lot} (hl : LotOk l) {q j : Nat} (hq : q < l.sts.length) (h : some j ∈ (atR l.sts ([], false) q).1) : ∃ c, stepL l (some q) c = some j := by
  have s := hl.stAt hq
  obtain ⟨i, hi, e⟩ := List.getElem_of_mem h
  have hi2 : i < l.signs.length := by rw [← s.len]; exact hi
  refine ⟨l.signs[i], ?_⟩
  unfold stepL
  dsimp only
  rw [if_pos (List.getElem_mem hi2)]
  have nd : l.signs.Nodup := (sg_up hl.sg).imp fun h => by omega
  rw [nd.idxOf_getElem i hi2]
  have e2 := atR_of (d := none) hi
  rw [List.getElem?_eq_getElem hi, e] at e2
  injection e2 with e2
  exact e2.symm
theorem t_has_word {l : Lot} (hl : LotOk l) (h7 : l.sts.length ≤ 7) (h9 : l.signs.length ≤ 9) {w : W} {S : Sto} (hr : RdAs S w (l.sts.map lstD)) {k : KW} (hk : ∀ b, (b = true ↔ ∃ t, wordL l t = true) → k (.val (.bl b)) S) :
    t__law_has_word [w] S k := by
  have inl : ∀ {q : Nat}, (∃ t, onL l (some 0) t = some q) → q < l.sts.length := fun {q} ⟨t, e⟩ => by
    have : InL l (onL l (some 0) t) := hl.on hl.in0
    exact this q e
  have stAt : ∀ {q : Nat}, q < l.sts.length → (l.sts.map lstD)[q]? = some (lstD (atR l.sts ([], false) q)) := fun {q} h => by
    rw [List.getElem?_map, atR_of (d := ([], false)) h]
    rfl
  have p7 : ∀ i, i ≤ 7 → 10 ^ i ≤ 10000000 := fun i hi => Nat.pow_le_pow_right (n := 10) (by decide) hi
  unfold t__law_has_word
  refine mfun_of ?_
  nofun
  refine sSeq_i (sFor_i (iRange1_i (aCons_i (mCallB_i (aCons_i (mVar_i rfl (aNil_i ?_)))))))
  refine hr.len ?_
  and_intros
  rw [List.length_map, Int.toNat_natCast, rangeL0]
  refine ⟨by omega, ?_⟩
  refine for_ix natD (fun i ρ S' => ∃ (fd : List Nat) (x2 x3 x4 : Option W), ρ = [some w, some (.val (.lst (fd.map natD))), x2, x3, x4] ∧ S = S' ∧ Fd l i fd) (List.range l.sts.length) ?_ ?_ ?_
  · rintro ρ S' ⟨fd, x2, x3, x4, rfl, rfl, h⟩
    rw [List.length_range] at h
    have hlen := Nat.le_trans h.len (p7 _ h7)
    and_intros
    refine lc_map natD (fun q => D.bl (atR l.sts ([], false) q).2) fd (by unfold sizeLine; omega) (fun q hq acc K ha hK => ?_) ?_
    · refine gVar_i (cYes_i (if_t rfl (mBin_i (mBin_i (mVar_i rfl (mVar_i rfl ?_))))))
      refine hr.ix (stAt (inl (h.re q hq))) ?_
      unfold lstD
      and_intros
      exact lcput_i ha hK
    · rw [show (fd.map fun q => D.bl (atR l.sts ([], false) q).2) = (fd.map fun q => (atR l.sts ([], false) q).2).map D.bl by rw [List.map_map]; rfl]
      and_intros
      refine in_yes ?_
      rw [Bool.bne_false]
      refine fin_v ?_
      rw [List.take_length]
      refine hk _ ?_
      rw [List.any_map, List.any_eq_true]
      constructor
      · rintro ⟨q, hq, e⟩
        obtain ⟨t, et⟩ := h.re q hq
        refine ⟨t, ?_⟩
        unfold wordL
        rw [et]
        exact e
      · rintro ⟨t, ht⟩
        obtain ⟨u, u1, u2⟩ := word_short hl t.length t (Nat.le_refl _) ht
        obtain ⟨q, hq⟩ := word_on u2
        refine ⟨q, h.all u q (by omega) hq, ?_⟩
        unfold wordL at u2
        rw [hq] at u2
        exact u2
  · rintro i x hx ρ S' K hK ⟨fd, x2, x3, x4, rfl, rfl, h⟩
    have hi : i < l.sts.length := by
      have := (List.getElem?_eq_some_iff.mp hx).1
      rwa [List.length_range] at this
    have hlen := Nat.le_trans h.len (p7 i (by omega))
    have pi1 := p7 (i + 1) (by omega)
    rw [Nat.pow_succ] at pi1
    have hl10 := h.len
    and_intros
    refine for_ix natD (fun j ρ S' => ∃ (f2 : List Nat) (x3 x4 : Option W), ρ = [some w, some (.val (.lst (f2.map natD))), some (.val (natD x)), x3, x4] ∧ S = S' ∧ (∀ q ∈ fd, q ∈ f2) ∧ (∀ q ∈ f2, ∃ t, onL l (some 0) t = some q) ∧
      (∀ q ∈ fd.take j, ∀ c r, stepL l (some q) c = some r → r ∈ f2) ∧ f2.length ≤ 10 ^ i + 9 * j) fd ?_ ?_ ?_
    · rintro ρ S' ⟨f2, x3, x4, rfl, rfl, h1, h2, h3, h4⟩
      rw [List.take_length] at h3
      refine hK _ _ ⟨f2, _, _, _, rfl, rfl, ⟨h1 0 h.z, h2, fun t q ht e => ?_, by rw [Nat.pow_succ]; omega⟩⟩
      rcases List.eq_nil_or_concat t with rfl | ⟨u, c, rfl⟩
      · injection e with e
        rw [← e]
        exact h1 0 h.z
      · rw [List.concat_eq_append] at ht e
        rw [onL_snoc] at e
        rw [List.length_append] at ht
        cases eu : onL l (some 0) u with
        | none => rw [eu] at e; cases e
        | some p =>
          rw [eu] at e
          exact h3 p (h.all u p (by simpa using ht) eu) c q e
    · rintro j q hq ρ S' K2 hK2 ⟨f2, x3, x4, rfl, rfl, h1, h2, h3, h4⟩
      have hj : j < fd.length := (List.getElem?_eq_some_iff.mp hq).1
      have hqm : q ∈ fd := List.mem_of_getElem? hq
      have hql := inl (h.re q hqm)
      have hs := hl.stAt hql
      and_intros
      refine hr.ix (stAt hql) ?_
      unfold lstD
      and_intros
      refine lc_fm thD (fun o => (nwF f2 o).map natD) _ (by rw [hs.len]; unfold sizeLine; omega) (fun o ho acc K3 ha k1 k2 => ?_) ?_
      · cases o with
        | none =>
          rw [show thD none = .non from rfl]
          and_intros
          exact k2 rfl
        | some r =>
          rw [show thD (some r) = natD r from rfl]
          unfold natD at *
          and_intros
          rw [show D.int (r : Nat) = natD r from rfl]
          refine in_pl (f := natD) (fun _ _ => natD_inj2) pl_nat rfl (nats_shp f2) ?_
          by_cases hm : r ∈ f2
          · rw [decide_eq_true hm]
            and_intros
            exact k2 (by rw [nwF_in hm]; rfl)
          · rw [decide_eq_false hm]
            and_intros
            exact lcput_i ha (k1 _ (by rw [nwF_no hm]; rfl))
      · have em : (atR l.sts ([], false) q).1.filterMap (fun o => (nwF f2 o).map natD) = (nw f2 (atR l.sts ([], false) q).1).map natD := by
          unfold nw
          rw [List.map_filterMap]
        rw [em]
        have nl : (nw f2 (atR l.sts ([], false) q).1).length ≤ 9 := by
          have := List.length_filterMap_le (nwF f2) (atR l.sts ([], false) q).1
          rw [hs.len] at this
          unfold nw
          omega
        and_intros
        refine add_l (by rw [List.length_map, List.length_map]; unfold sizeLine; omega) ?_
        rw [← List.map_append]
        refine hK2 _ _ ⟨f2 ++ nw f2 (atR l.sts ([], false) q).1, _, _, rfl, rfl, fun y hy => List.mem_append_left _ (h1 y hy), fun y hy => ?_, fun y hy c r e => ?_, by rw [List.length_append]; omega⟩
        · rcases List.mem_append.mp hy with hy | hy
          · exact h2 y hy
          · obtain ⟨hy1, _⟩ := nw_mem.mp hy
            obtain ⟨c, hc⟩ := way_step hl hql hy1
            obtain ⟨t, et⟩ := h.re q hqm
            exact ⟨t ++ [c], by rw [onL_snoc, et]; exact hc⟩
        · rw [List.take_add_one, hq] at hy
          rcases List.mem_append.mp hy with hy | hy
          · exact List.mem_append_left _ (h3 y hy c r e)
          · have : y = q := by simpa using hy
            subst this
            obtain ⟨e1, e2⟩ := step_way e
            have hi2 : l.signs.idxOf c < (atR l.sts ([], false) y).1.length := by rw [hs.len]; exact List.idxOf_lt_length_iff.mpr e1
            have hm : some r ∈ (atR l.sts ([], false) y).1 := by rw [← e2]; exact atR_mem hi2
            by_cases z : r ∈ f2
            · exact List.mem_append_left _ z
            · exact List.mem_append_right _ (nw_mem.mpr ⟨hm, z⟩)
    · exact ⟨fd, _, _, rfl, rfl, fun _ z => z, h.re, (fun q hq => by rw [List.take_zero] at hq; cases hq), by omega⟩
  · refine ⟨[0], _, _, _, rfl, rfl, ⟨List.mem_singleton.mpr rfl, fun q hq => ⟨[], by rw [List.mem_singleton.mp hq]; rfl⟩, fun t q ht e => ?_, by show 1 ≤ 1; omega⟩⟩
    have : t = [] := List.eq_nil_of_length_eq_zero (by omega)
    subst this
    injection e with e
    exact List.mem_singleton.mpr e.symm
theorem sub_sg {s sg : List Nat} (h : s.Sublist sg) (hs : Sg sg) : Sg s := Sg.of_up ((sg_up hs).sublist h) fun c hc => hs.pool c (h.subset hc)
theorem t_any_lot {m : Nat} {p : Ob} {sg : List Nat} {size : Nat} {k : KW} (hp : Pen m p) (hs : Sg sg) (h0 : sg ≠ []) (h9 : sg.length ≤ 9) (s0 : 1 ≤ size) (s6 : size ≤ 6) (hm : m < 700000000)
    (hk : ∀ (l : Lot) p', LotOk l → (∀ c ∈ l.signs, c ∈ sg) → l.signs ≠ [] → l.signs.length ≤ sg.length → l.sts.length ≤ size → (∃ t, wordL l t = true) → Pen (m + 1000) p' → k (.val (lotD l)) [p']) :
    t__law_any_lot [.ref 0, .val (.str sg), .val (.int (size : Nat))] [p] k := by
  have l0 := List.length_pos_iff.mpr h0
  unfold t__law_any_lot
  refine mfun_of ?_
  nofun
  refine lc_inv (fun r acc S => ∃ (t rest : List Nat) (p' : Ob), acc = signs t ∧ r = signs rest ∧ (t ++ rest).Sublist sg ∧ t.length + rest.length ≤ sg.length ∧ S = [p'] ∧ Pen (m + (sg.length - rest.length)) p') ?_ ?_ _ _ _ ?_
  · rintro acc S ⟨t, rest, p1, rfl, hr, hsub, hn, rfl, hp1⟩
    have hr0 : rest = [] := by
      cases rest with
      | nil => rfl
      | cons c cs => cases hr
    subst hr0
    rw [List.append_nil] at hsub
    rw [List.length_nil, Nat.add_zero] at hn
    and_intros
    refine join_l (strs_signs t) (by rw [sum_signs, List.length_map, List.length_nil]; omega) ?_
    rw [join_signs]
    and_intros
    have rest : ∀ (mine : List Nat) (y6 y7 y8 y9 : Option W), mine ≠ [] → mine.Sublist sg → sSeq (sSet 4 (mBin addD (mC (.int 1)) (mCall t__law_take (aCons (mVar 0) (aCons (mVar 2) aNil)) [])))
      (sSeq (sSet 5 (mCell (nLst aNil)))
      (sSeq (sFor (iRange1 (aCons (mVar 4) aNil)) (gVar 6) (sSeq (sSet 7 (mVal (nLC (iVal (mVar 3)) (gVar 8) cYes (mBin ixD (mVal (nLst (aCons (mCall t__law_take (aCons (mVar 0) (aCons (mVar 4) aNil)) []) (aCons (mC .non) aNil)))) (mCallB int1C (aCons (mBin (eqD false) (mCall t__law_take (aCons (mVar 0) (aCons (mC (.int 4)) aNil)) []) (mC (.int 0))) aNil))) [8])))
      (sExpr (mMethC appendF (mVar 5) (aCons (mTup (aCons (mCallB tupleC (aCons (mVar 7) aNil)) (aCons (mBin (eqD false) (mCall t__law_take (aCons (mVar 0) (aCons (mC (.int 2)) aNil)) []) (mC (.int 0))) aNil))) aNil)))))
      (sSeq (sIf (cOr (mCond (mBin (inD true) (mC (.bl true)) (mVal (nLCk 5 (gTupM (gsCons (gVar 7) (gsCons (gVar 9) gsNil))) cYes (mVar 9) [7, 9])))) (cNot (mCond (mCall t__law_has_word (aCons (mVar 5) aNil) [])))) (sAsg (mTup (aCons (mBin ixD (mBin ixD (mVar 5) (mC (.int 0))) (mC (.int 0))) (aCons (mC (.bl true)) aNil))) (gIx (mVar 5) (mC (.int 0)))) sNext)
      (sRet (mTup (aCons (mVar 3) (aCons (mCallB tupleC (aCons (mVar 5) aNil)) aNil)))))))
      { nx := fun _ S' => finK ([p] : Sto).length k (.val .non) S', rt := finK ([p] : Sto).length k, bk := fun _ _ => False, ct := fun _ _ => False }
      [some (.ref 0), some (.val (.str sg)), some (.val (.int (size : Nat))), some (.val (.str mine)), none, none, y6, y7, y8, y9] [p1] := fun mine y6 y7 y8 y9 m0 msub => by
      have msg := sub_sg msub hs
      have ml := msub.length_le
      have m1 := List.length_pos_iff.mpr m0
      nofun
      refine call_1 rfl rfl hp1.nd (t_take hp1 (by omega) (by omega) (by omega) fun q1 p2 b0 b1 hp2 => ⟨p2, [], rfl, ?_⟩) m__law_take
      and_intros
      obtain ⟨a, ha⟩ : ∃ a : Nat, 1 + q1 = (a : Int) := ⟨(1 + q1).toNat, by omega⟩
      rw [ha]
      nofun
      nofun
      rw [Int.toNat_natCast, rangeL0]
      refine for_ix natD (fun i ρ S => ∃ (sts : List Lst) (x6 x7 x8 x9 : Option W) (p3 : Ob), ρ = [some (.ref 0), some (.val (.str sg)), some (.val (.int (size : Nat))), some (.val (.str mine)), some (.val (.int (a : Nat))), some (.ref 1), x6, x7, x8, x9] ∧ S = [p3, .lst (sts.map lstD)] ∧ Pen (m + 20 + 50 * i) p3 ∧ sts.length = i ∧ ∀ s ∈ sts, LsOk a mine.length s) (List.range a) ?_ ?_ ?_
      · rintro ρ S ⟨sts, x6, x7, x8, x9, p3, rfl, rfl, hp3, hn3, hok⟩
        rw [List.length_range] at hn3 hp3
        have okL : ∀ sts' : List Lst, sts'.length = a → (∀ s ∈ sts', LsOk a mine.length s) → LotOk ⟨mine, sts'⟩ := fun sts' e h => ⟨msg, fun z => by
          have := congrArg List.length z
          have e' : (⟨mine, sts'⟩ : Lot).sts.length = a := e
          rw [e', List.length_nil] at this
          omega, fun s hs' => by
          have e' : (⟨mine, sts'⟩ : Lot).sts.length = a := e
          rw [e']
          exact h s hs'⟩
        have fin : ∀ (sts' : List Lst) (x7 x9 : Option W), sts'.length = a → (∀ s ∈ sts', LsOk a mine.length s) → (∃ t, wordL ⟨mine, sts'⟩ t = true) → sRet (mTup (aCons (mVar 3) (aCons (mCallB tupleC (aCons (mVar 5) aNil)) aNil)))
            { nx := fun _ S' => finK ([p] : Sto).length k (.val .non) S', rt := finK ([p] : Sto).length k, bk := fun _ _ => False, ct := fun _ _ => False } [some (.ref 0), some (.val (.str sg)), some (.val (.int (size : Nat))), some (.val (.str mine)), some (.val (.int (a : Nat))), some (.ref 1), x6, x7, x8, x9] [p3, .lst (sts'.map lstD)] := fun sts' x7 x9 e h hw => by
          and_intros
          exact hk ⟨mine, sts'⟩ p3 (okL sts' e h) (fun c hc => msub.subset hc) m0 ml (by show sts'.length ≤ _; omega) hw (hp3.mono (by omega))
        obtain ⟨s0, sr, rfl⟩ : ∃ s0 sr, sts = s0 :: sr := by
          cases sts with
          | nil => exact absurd hn3.symm (by simp; omega)
          | cons s0 sr => exact ⟨s0, sr, rfl⟩
        have okS : ∀ s ∈ (s0.1, true) :: sr, LsOk a mine.length s := fun s hs' => by
          rcases List.mem_cons.mp hs' with rfl | hs'
          · have := hok s0 List.mem_cons_self
            exact ⟨this.len, this.ways⟩
          · exact hok s (List.mem_cons_of_mem _ hs')
        dsimp only
        refine sSeq_cut (fun ρ S => ∃ (sts' : List Lst) (x7 x9 : Option W), ρ = [some (.ref 0), some (.val (.str sg)), some (.val (.int (size : Nat))), some (.val (.str mine)), some (.val (.int (a : Nat))), some (.ref 1), x6, x7, x8, x9] ∧ S = [p3, .lst (sts'.map lstD)] ∧ sts'.length = a ∧ (∀ s ∈ sts', LsOk a mine.length s) ∧ ∃ t, wordL ⟨mine, sts'⟩ t = true) ?_ ?_
        · rintro ρ S ⟨sts', x7, x9, rfl, rfl, e1, e2, e3⟩
          exact fin sts' x7 x9 e1 e2 e3
        · intro K2 hK2
          and_intros
          refine nLCk_i rfl rfl ?_
          refine lc_map lstD (fun s : Lst => D.bl s.2) (s0 :: sr) (by unfold sizeLine; omega) (fun s hs' acc K ha' hK => ?_) ?_
          · unfold lstD
            and_intros
            exact lcput_i ha' hK
          · rw [show ((s0 :: sr).map fun s : Lst => D.bl s.2) = ((s0 :: sr).map (·.2)).map D.bl by rw [List.map_map]; rfl]
            and_intros
            refine in_yes ?_
            cases hb : ((s0 :: sr).map (·.2)).any id with
            | false =>
              and_intros
              refine ix_l (atI_nat (n := 0) (x := lstD s0) rfl) ?_
              unfold lstD
              and_intros
              refine gput_i (p := 0) (ixN_nat (p := 0) (by rw [List.length_map]; exact Nat.zero_lt_succ _)) ?_
              exact hK2 _ _ ⟨(s0.1, true) :: sr, _, _, rfl, rfl, by rw [← hn3]; rfl, okS, ⟨[], rfl⟩⟩
            | true =>
              and_intros
              have ok := okL (s0 :: sr) hn3 hok
              have rd0 : RdAs [Ob.lst ((s0 :: sr).map lstD)] (.ref 0) ((⟨mine, s0 :: sr⟩ : Lot).sts.map lstD) := fun kd h1 _ => h1
              refine call_1 (n := 1) (ob := .lst ((s0 :: sr).map lstD)) rfl rfl (fun z => by cases z) (t_has_word ok (by show (s0 :: sr).length ≤ 7; omega) (by show mine.length ≤ 9; omega) rd0 fun b hb2 => ⟨_, [], rfl, ?_⟩) m__law_has_word
              cases b with
              | false =>
                and_intros
                refine ix_l (atI_nat (n := 0) (x := lstD s0) rfl) ?_
                unfold lstD
                and_intros
                refine gput_i (p := 0) (ixN_nat (p := 0) (by rw [List.length_map]; exact Nat.zero_lt_succ _)) ?_
                exact hK2 _ _ ⟨(s0.1, true) :: sr, _, _, rfl, rfl, by rw [← hn3]; rfl, okS, ⟨[], rfl⟩⟩
              | true =>
                and_intros
                exact hK2 _ _ ⟨s0 :: sr, _, _, rfl, rfl, hn3, hok, hb2.mp rfl⟩
      · rintro i x hx ρ S K hK ⟨sts, x6, x7, x8, x9, p3, rfl, rfl, hp3, hn3, hok⟩
        have hi : i < a := by
          have := (List.getElem?_eq_some_iff.mp hx).1
          rwa [List.length_range] at this
        and_intros
        nofun
        rw [show (mine.map fun c => D.str [c]) = signs mine from rfl]
        refine lc_inv (fun r acc S => ∃ (ws : List (Option Nat)) (rest : List Nat) (p4 : Ob), acc = ws.map thD ∧ r = signs rest ∧ ws.length + rest.length = mine.length ∧ S = [p4, .lst (sts.map lstD)] ∧ Pen (m + 20 + 50 * i + 2 * ws.length) p4 ∧ ∀ w ∈ ws, ∀ j, w = some j → j < a) ?_ ?_ _ _ _ ?_
        · rintro acc S ⟨ws, rest, p4, rfl, hr, hn4, rfl, hp4, hw⟩
          have hr0 : rest = [] := by
            cases rest with
            | nil => rfl
            | cons c cs => cases hr
          subst hr0
          rw [List.length_nil, Nat.add_zero] at hn4
          and_intros
          refine call_1 rfl rfl hp4.nd (t_take hp4 (by omega) (by omega) (by omega) fun q2 p5 c0 c1 hp5 => ⟨p5, [], rfl, ?_⟩) m__law_take
          and_intros
          refine append_i (by rw [List.length_map]; unfold sizeLine; omega) ?_
          refine hK _ _ ⟨sts ++ [(ws, decide (q2 = 0) != false)], _, _, _, _, p5, rfl, by rw [List.map_append]; rfl, hp5.mono (by omega), by rw [List.length_append]; show sts.length + 1 = _; omega, fun s hs' => ?_⟩
          rcases List.mem_append.mp hs' with hs' | hs'
          · exact hok s hs'
          · rw [List.mem_singleton.mp hs']
            exact ⟨hn4, hw⟩
        · rintro d r acc S K2 hK2 ⟨ws, rest, p4, rfl, hr, hn4, rfl, hp4, hw⟩
          cases rest with
          | nil => cases hr
          | cons c rest =>
            have hr2 : d :: r = .str [c] :: signs rest := hr
            injection hr2 with e1 e2
            subst e1 e2
            rw [List.length_cons] at hn4
            and_intros
            refine call_1 rfl rfl hp4.nd (t_take hp4 (by omega) (by omega) (by omega) fun q2 p5 c0 c1 hp5 => ⟨p5, [], rfl, ?_⟩) m__law_take
            and_intros
            refine call_1 rfl rfl hp5.nd (t_take hp5 (by omega) (by omega) (by omega) fun q3 p6 d0 d1 hp6 => ⟨p6, [], rfl, ?_⟩) m__law_take
            obtain ⟨j, rfl⟩ : ∃ j : Nat, q2 = (j : Nat) := ⟨q2.toNat, by omega⟩
            and_intros
            by_cases hq : q3 = 0
            · rw [decide_eq_true hq]
              and_intros
              refine lcput_i (by rw [List.length_map]; unfold sizeLine; omega) ?_
              exact hK2 _ _ ⟨ws ++ [none], rest, p6, by rw [List.map_append]; rfl, rfl, by rw [List.length_append]; show ws.length + 1 + _ = _; omega, rfl, hp6.mono (by rw [List.length_append]; show _ ≤ _ + 2 * (ws.length + 1); omega), fun w hw' i' e => by
                rcases List.mem_append.mp hw' with hw' | hw'
                · exact hw w hw' i' e
                · rw [List.mem_singleton.mp hw'] at e
                  cases e⟩
            · rw [decide_eq_false hq]
              and_intros
              refine lcput_i (by rw [List.length_map]; unfold sizeLine; omega) ?_
              exact hK2 _ _ ⟨ws ++ [some j], rest, p6, by rw [List.map_append]; rfl, rfl, by rw [List.length_append]; show ws.length + 1 + _ = _; omega, rfl, hp6.mono (by rw [List.length_append]; show _ ≤ _ + 2 * (ws.length + 1); omega), fun w hw' i' e => by
                rcases List.mem_append.mp hw' with hw' | hw'
                · exact hw w hw' i' e
                · rw [List.mem_singleton.mp hw'] at e
                  injection e with e
                  omega⟩
        · exact ⟨[], mine, p3, rfl, rfl, by rw [List.length_nil]; omega, rfl, hp3.mono (by omega), fun w hw => (by cases hw)⟩
      · exact ⟨[], _, _, _, _, p2, rfl, rfl, hp2.mono (by omega), rfl, fun s hs' => (by cases hs')⟩
    cases t with
    | nil =>
      and_intros
      rw [show (some (1 : Int)) = some ((1 : Nat) : Int) from rfl, cutL_none]
      refine rest (sg.take 1) _ _ _ _ (fun z => ?_) (List.take_sublist 1 sg)
      have := congrArg List.length z
      rw [List.length_take, List.length_nil] at this
      omega
    | cons c t =>
      have := hsub.length_le
      and_intros
      exact rest (c :: t) _ _ _ _ (by simp) hsub
  · rintro d r acc S K hK ⟨t, rest, p1, rfl, hr, hsub, hn, rfl, hp1⟩
    cases rest with
    | nil => cases hr
    | cons c rest =>
      have hr2 : d :: r = .str [c] :: signs rest := hr
      injection hr2 with e1 e2
      subst e1 e2
      rw [List.length_cons] at hn hp1
      and_intros
      refine call_1 rfl rfl hp1.nd (t_take hp1 (by omega) (by omega) (by omega) fun q1 p2 b0 b1 hp2 => ⟨p2, [], rfl, ?_⟩) m__law_take
      and_intros
      refine if_d (fun _ => ?_) fun _ => ?_
      · and_intros
        refine lcput_i (by rw [signs_length]; unfold sizeLine; omega) ?_
        exact hK _ _ ⟨t ++ [c], rest, p2, by rw [signs_append]; rfl, rfl, by rw [List.append_assoc]; exact hsub, by rw [List.length_append]; show t.length + 1 + _ ≤ _; omega, rfl, hp2.mono (by omega)⟩
      · exact hK _ _ ⟨t, rest, p2, rfl, rfl, (List.Sublist.append_left (List.sublist_cons_self c rest) t).trans hsub, by omega, rfl, hp2.mono (by omega)⟩
  · exact ⟨[], sg, p, rfl, rfl, List.Sublist.refl _, by rw [List.length_nil]; omega, rfl, hp.mono (by omega)⟩
end Fo
/-! Frm2: frames drawn. -/
-- v4
namespace Fo
open PySem PySem.Spec PyProof.Rows L2
structure Frm where
  pieces : List (List Nat)
  holes : List (Nat × Lot)
  dues : List (List (List Nat))
def holeD (h : Nat × Lot) : D := .tup [natD h.1, lotD h.2]
def dueD (d : List (List Nat)) : D := .tup (d.map D.str)
def frmD (f : Frm) : D := .tup [.tup (f.pieces.map D.str), .tup (f.holes.map holeD), .tup (f.dues.map dueD)]
def cntH (hs : List (Nat × Lot)) (k : Nat) : Nat := hs.countP fun h => h.1 == k
structure HoleOk (sg : List Nat) (rows : List (List Rdr)) (h : Nat × Lot) : Prop where
  ok : LotOk h.2
  sg : ∀ row, rows[h.1]? = some row → ∀ c ∈ h.2.signs, c ∈ lastT sg row
  lt : h.1 < rows.length
  ne : h.2.signs ≠ []
  l9 : h.2.signs.length ≤ 9
  s6 : h.2.sts.length ≤ 6
  word : ∃ t, wordL h.2 t = true
/-- the texts due to one listener -/
structure DueT (sg : List Nat) (row : List Rdr) (n b : Nat) (d : List (List Nat)) : Prop where
  len : d.length = n + 1
  tx : ∀ t ∈ d, (∀ c ∈ t, c ∈ lastT sg row) ∧ t.length ≤ b
def PieceT (sg : List Nat) (t : List Nat) : Prop := (∀ c ∈ t, c ∈ sg) ∧ t.length ≤ 20
structure FrmOk (sg : List Nat) (rows : List (List Rdr)) (f : Frm) : Prop where
  np : f.pieces.length = f.holes.length + 1
  pc : ∀ t ∈ f.pieces, PieceT sg t
  hl : ∀ h ∈ f.holes, HoleOk sg rows h
  nd : f.dues.length = rows.length
  du : ∀ k d row, f.dues[k]? = some d → rows[k]? = some row → DueT sg row (cntH f.holes k) 20 d
def FS (p : Ob) (st : List (List Nat)) (du : List (List (List Nat))) (pc : List (List Nat)) (hl : List (Nat × Lot)) : Sto :=
  p :: .lst (st.map qsD) :: (du.map (fun d => Ob.lst (d.map D.str)) ++ [.lst (pc.map D.str), .lst (hl.map holeD)])
section
variable {p : Ob} {st : List (List Nat)} {du : List (List (List Nat))} {pc : List (List Nat)} {hl : List (Nat × Lot)}
theorem fs_du {k : Nat} {d : List (List Nat)} (h : du[k]? = some d) : (FS p st du pc hl)[2 + k]? = some (.lst (d.map D.str)) := by
  rw [show 2 + k = k + 2 by omega]
  show (du.map (fun d => Ob.lst (d.map D.str)) ++ [Ob.lst (pc.map D.str), .lst (hl.map holeD)])[k]? = _
  rw [List.getElem?_append_left (by rw [List.length_map]; exact (List.getElem?_eq_some_iff.mp h).1), List.getElem?_map, h]
  rfl
theorem fs_pc {R : Nat} (hR : du.length = R) : (FS p st du pc hl)[2 + R]? = some (.lst (pc.map D.str)) := by
  subst hR
  rw [show 2 + du.length = du.length + 2 by omega]
  show (du.map (fun d => Ob.lst (d.map D.str)) ++ [Ob.lst (pc.map D.str), .lst (hl.map holeD)])[du.length]? = _
  rw [List.getElem?_append_right (by rw [List.length_map]; exact Nat.le_refl _), List.length_map, Nat.sub_self]
  rfl
theorem fs_hl {R : Nat} (hR : du.length = R) : (FS p st du pc hl)[3 + R]? = some (.lst (hl.map holeD)) := by
  subst hR
  rw [show 3 + du.length = (du.length + 1) + 2 by omega]
  show (du.map (fun d => Ob.lst (d.map D.str)) ++ [Ob.lst (pc.map D.str), .lst (hl.map holeD)])[du.length + 1]? = _
  rw [List.getElem?_append_right (by rw [List.length_map]; omega), List.length_map, show du.length + 1 - du.length = 1 by omega]
  rfl
theorem fs_set_p {p' : Ob} : (FS p st du pc hl).set 0 p' = FS p' st du pc hl := rfl
theorem fs_set_st {st' : List (List Nat)} : (FS p st du pc hl).set 1 (.lst (st'.map qsD)) = FS p st' du pc hl := rfl
theorem fs_set_du {k : Nat} {d : List (List Nat)} (h : k < du.length) : (FS p st du pc hl).set (2 + k) (.lst (d.map D.str)) = FS p st (du.set k d) pc hl := by
  rw [show 2 + k = k + 2 by omega]
  show p :: .lst (st.map qsD) :: ((du.map (fun d => Ob.lst (d.map D.str)) ++ [Ob.lst (pc.map D.str), .lst (hl.map holeD)]).set k _) = _
  rw [List.set_append_left _ _ (by rw [List.length_map]; exact h)]
  unfold FS
  rw [List.map_set]
theorem fs_set_pc {pc' : List (List Nat)} {R : Nat} (hR : du.length = R) : (FS p st du pc hl).set (2 + R) (.lst (pc'.map D.str)) = FS p st du pc' hl := by
  subst hR
  rw [show 2 + du.length = du.length + 2 by omega]
  show p :: .lst (st.map qsD) :: ((du.map (fun d => Ob.lst (d.map D.str)) ++ [Ob.lst (pc.map D.str), .lst (hl.map holeD)]).set du.length _) = _
  rw [List.set_append_right _ _ (by rw [List.length_map]; exact Nat.le_refl _), List.length_map, Nat.sub_self]
  rfl
theorem fs_set_hl {hl' : List (Nat × Lot)} {R : Nat} (hR : du.length = R) : (FS p st du pc hl).set (3 + R) (.lst (hl'.map holeD)) = FS p st du pc hl' := by
  subst hR
  rw [show 3 + du.length = (du.length + 1) + 2 by omega]
  show p :: .lst (st.map qsD) :: ((du.map (fun d => Ob.lst (d.map D.str)) ++ [Ob.lst (pc.map D.str), .lst (hl.map holeD)]).set (du.length + 1) _) = _
  rw [List.set_append_right _ _ (by rw [List.length_map]; omega), List.length_map, show du.length + 1 - du.length = 1 by omega]
  rfl
end
theorem nth_ns {R k : Nat} (h : k < R) : atI (List.range' 2 R) (k : Int) = some (2 + k) := atI_nat (by rw [List.getElem?_range' h]; simp)
theorem set_last {α : Type} (f : α → D) (init : List α) (x y : α) : ((init ++ [x]).map f).set init.length (f y) = (init ++ [y]).map f := by
  rw [List.map_append, List.set_append_right _ _ (by rw [List.length_map]; exact Nat.le_refl _), List.length_map, Nat.sub_self, List.map_append]
  rfl
theorem ixN_last {n : Nat} : ixN (n + 1) (-1) = some n := by
  unfold ixN
  rw [if_neg (by decide), if_pos (by omega)]
  congr 1
  omega
theorem frz_cells : ∀ (du : List (List (List Nat))) (a : Sto) (tl : Sto) (k : List D → Sto → Prop), k (du.map fun d => .lst (d.map D.str)) (a ++ List.replicate du.length .dead ++ tl) →
    frzN (List.range' a.length du.length) (a ++ du.map (fun d => Ob.lst (d.map D.str)) ++ tl) k
  | [], a, tl, k, h => by
    simpa [frzN] using h
  | d :: du, a, tl, k, h => by
    rw [List.length_cons, List.range'_succ]
    unfold frzN
    have e : (a ++ (d :: du).map (fun d => Ob.lst (d.map D.str)) ++ tl)[a.length]? = some (.lst (d.map D.str)) := by
      rw [List.append_assoc, List.getElem?_append_right (Nat.le_refl _), Nat.sub_self]
      rfl
    simp only [e]
    have e2 : (a ++ (d :: du).map (fun d => Ob.lst (d.map D.str)) ++ tl).set a.length .dead = (a ++ [.dead]) ++ du.map (fun d => Ob.lst (d.map D.str)) ++ tl := by
      rw [List.append_assoc, List.set_append_right _ _ (Nat.le_refl _), Nat.sub_self]
      simp
    rw [e2, show a.length + 1 = (a ++ [Ob.dead]).length by simp]
    refine frz_cells du (a ++ [.dead]) tl _ ?_
    have e3 : a ++ [Ob.dead] ++ List.replicate du.length Ob.dead ++ tl = a ++ List.replicate (d :: du).length Ob.dead ++ tl := by
      rw [List.length_cons, List.replicate_succ]
      simp
    rw [e3]
    exact h
theorem or_any {c : Bool} {t : ME} {ρ : Rho} {S : Sto} {k : KW} (h : ∀ z, k (.val (.bl z)) S) (ht : ∀ k' : KW, (∀ z, k' (.val (.bl z)) S) → t ρ S k') : if c = true then k (.val (.bl true)) S else t ρ S k := by
  cases c with
  | true => exact h true
  | false => exact ht k h
structure StOk (rows : List (List Rdr)) (st : List (List Nat)) : Prop where
  len : st.length = rows.length
  ok : ∀ (k : Nat) row q, rows[k]? = some row → st[k]? = some q → QsOk row q
structure DuOk (sg : List Nat) (rows : List (List Rdr)) (hl : List (Nat × Lot)) (b : Nat → Nat) (du : List (List (List Nat))) : Prop where
  len : du.length = rows.length
  ok : ∀ (k : Nat) d row, du[k]? = some d → rows[k]? = some row → DueT sg row (cntH hl k) (b k) d
theorem StOk.set {rows : List (List Rdr)} {st : List (List Nat)} (h : StOk rows st) {k : Nat} {row : List Rdr} {q : List Nat} (e : rows[k]? = some row) (hq : QsOk row q) : StOk rows (st.set k q) := by
  refine ⟨by rw [List.length_set]; exact h.len, fun j row' q' e1 e2 => ?_⟩
  by_cases hj : k = j
  · subst hj
    rw [e] at e1
    injection e1 with e1
    subst e1
    rw [List.getElem?_set_self (by rw [h.len]; exact (List.getElem?_eq_some_iff.mp e).1)] at e2
    injection e2 with e2
    subst e2
    exact hq
  · rw [List.getElem?_set_ne hj] at e2
    exact h.ok j row' q' e1 e2
theorem DuOk.set {sg : List Nat} {rows : List (List Rdr)} {hl hl' : List (Nat × Lot)} {b b' : Nat → Nat} {du : List (List (List Nat))} (h : DuOk sg rows hl b du) {k : Nat} {row : List Rdr} {d : List (List Nat)} (e : rows[k]? = some row) (hd : DueT sg row (cntH hl' k) (b' k) d)
    (hb : ∀ j, j ≠ k → b j ≤ b' j ∧ cntH hl' j = cntH hl j) : DuOk sg rows hl' b' (du.set k d) := by
  refine ⟨by rw [List.length_set]; exact h.len, fun j d' row' e1 e2 => ?_⟩
  by_cases hj : k = j
  · subst hj
    rw [e] at e2
    injection e2 with e2
    subst e2
    rw [List.getElem?_set_self (by rw [h.len]; exact (List.getElem?_eq_some_iff.mp e).1)] at e1
    injection e1 with e1
    subst e1
    exact hd
  · rw [List.getElem?_set_ne hj] at e1
    have := h.ok j d' row' e1 e2
    obtain ⟨b1, b2⟩ := hb j fun z => hj z.symm
    exact ⟨by rw [b2]; exact this.len, fun t ht => ⟨(this.tx t ht).1, Nat.le_trans (this.tx t ht).2 b1⟩⟩
theorem DuOk.mono {sg : List Nat} {rows : List (List Rdr)} {hl : List (Nat × Lot)} {b b' : Nat → Nat} {du : List (List (List Nat))} (h : DuOk sg rows hl b du) (hb : ∀ j, j < rows.length → b j ≤ b' j) : DuOk sg rows hl b' du :=
  ⟨h.len, fun k d row e1 e2 => ⟨(h.ok k d row e1 e2).len, fun t ht => ⟨((h.ok k d row e1 e2).tx t ht).1, Nat.le_trans ((h.ok k d row e1 e2).tx t ht).2 (hb k (List.getElem?_eq_some_iff.mp e2).1)⟩⟩⟩
/-- the last text of them goes on -/
theorem DueT.last {sg : List Nat} {row : List Rdr} {n b b' : Nat} {init : List (List Nat)} {u v : List Nat} (h : DueT sg row n b (init ++ [u])) (hb : b ≤ b') (hv : (∀ c ∈ v, c ∈ lastT sg row) ∧ v.length ≤ b') : DueT sg row n b' (init ++ [v]) := by
  refine ⟨by have := h.len; rw [List.length_append] at this ⊢; exact this, fun t ht => ?_⟩
  rcases List.mem_append.mp ht with ht | ht
  · obtain ⟨z1, z2⟩ := h.tx t (List.mem_append_left _ ht)
    exact ⟨z1, Nat.le_trans z2 hb⟩
  · rw [List.mem_singleton.mp ht]
    exact hv
theorem DueT.split {sg : List Nat} {row : List Rdr} {n b : Nat} {d : List (List Nat)} (h : DueT sg row n b d) : ∃ init u, d = init ++ [u] := by
  rcases List.eq_nil_or_concat d with e | ⟨a, x, e⟩
  · have := h.len
    rw [e] at this
    cases this
  · exact ⟨a, x, by rw [e, List.concat_eq_append]⟩
end Fo
/-! Wv1: one step of weaving, by the program. -/
-- v3
namespace Fo
open PySem PySem.Spec PyProof.Rows L2
abbrev Nd := List (List Nat × Nat)
structure RowG (sg : List Nat) (rs : List Rdr) : Prop where
  row : RowIn sg rs
  ne : rs ≠ []
  l4 : rs.length ≤ 4
  sg : Sg sg
/-- rows, texts due, states and how far each has come -/
def NdOk (sg : List Nat) : List (List Rdr) → List (List Nat) → Nd → Prop
  | rs :: rows, due :: dues, q :: nd => (RowG sg rs ∧ (∀ c ∈ due, c < 256) ∧ due.length ≤ 1000) ∧ (QsOk rs q.1 ∧ q.2 ≤ due.length) ∧ NdOk sg rows dues nd
  | [], [], [] => True
  | _, _, _ => False
def wstep : List (List Rdr) → List (List Nat) → Nd → Nat → Option Nd
  | rs :: rows, due :: dues, q :: nd, c =>
    if (due.drop q.2).take (rowWalk rs q.1 [c]).2.length = (rowWalk rs q.1 [c]).2 then (wstep rows dues nd c).map (((rowWalk rs q.1 [c]).1, q.2 + (rowWalk rs q.1 [c]).2.length) :: ·) else none
  | _, _, _, _ => some []
theorem NdOk.lens {sg : List Nat} : ∀ {rows : List (List Rdr)} {dues : List (List Nat)} {nd : Nd}, NdOk sg rows dues nd → rows.length = dues.length ∧ rows.length = nd.length
  | [], [], [], _ => ⟨rfl, rfl⟩
  | _ :: rows, _ :: dues, _ :: nd, h => by
    have := h.2.2.lens
    simp only [List.length_cons]
    omega
  | [], [], _ :: _, h => h.elim
  | [], _ :: _, _, h => h.elim
  | _ :: _, [], _, h => h.elim
  | _ :: _, _ :: _, [], h => h.elim
theorem wstep_ok {sg : List Nat} {c : Nat} (hc : c ∈ sg) : ∀ {rows : List (List Rdr)} {dues : List (List Nat)} {nd nd' : Nd}, NdOk sg rows dues nd → wstep rows dues nd c = some nd' → NdOk sg rows dues nd'
  | [], [], [], nd', _, e => by
    unfold wstep at e
    injection e with e
    subst e
    trivial
  | rs :: rows, due :: dues, q :: nd, nd', h, e => by
    unfold wstep at e
    split at e
    · rename_i hp
      cases hw : wstep rows dues nd c with
      | none => rw [hw] at e; cases e
      | some nd2 =>
        rw [hw] at e
        injection e with e
        subst e
        refine ⟨h.1, ⟨qs_walk h.1.1.row h.2.1.1 fun x hx => by rw [List.mem_singleton.mp hx]; exact hc, ?_⟩, wstep_ok hc h.2.2 hw⟩
        have := congrArg List.length hp
        rw [List.length_take, List.length_drop] at this
        have := h.2.1.2
        show q.2 + _ ≤ _
        omega
    · cases e
  | [], [], _ :: _, _, h, _ => h.elim
  | [], _ :: _, _, _, h, _ => h.elim
  | _ :: _, [], _, _, h, _ => h.elim
  | _ :: _, _ :: _, [], _, h, _ => h.elim
end Fo
/-! Fw1: least words length by length; states that lead to themselves. -/
namespace Fo
open PySem PySem.Spec PyProof.Rows L2
/-- the least texts of one length to each state that they lead to -/
structure LeastN (l : Lot) (n : Nat) (m : List (Nat × List Nat)) : Prop where
  nd : (m.map (·.1)).Nodup
  on : ∀ p ∈ m, p.2.length = n ∧ onL l (some 0) p.2 = some p.1
  all : ∀ t q, t.length = n → onL l (some 0) t = some q → ∃ w, (q, w) ∈ m ∧ ¬ t < w
/-- while the next ones are made: ps are the pairs of a state's text and a sign that are through -/
structure LeastM (l : Lot) (n : Nat) (done : List (List Nat × Nat)) (m : List (Nat × List Nat)) : Prop where
  nd : (m.map (·.1)).Nodup
  on : ∀ p ∈ m, p.2.length = n + 1 ∧ onL l (some 0) p.2 = some p.1
  all : ∀ v c q, (v, c) ∈ done → onL l (some 0) (v ++ [c]) = some q → ∃ w, (q, w) ∈ m ∧ ¬ v ++ [c] < w
def atN (m : List (Nat × List Nat)) (q : Nat) : Option (List Nat) := (m.find? fun p => p.1 == q).map (·.2)
theorem atN_some {m : List (Nat × List Nat)} {q : Nat} {w : List Nat} (h : atN m q = some w) : (q, w) ∈ m := by
  unfold atN at h
  cases e : m.find? fun p => p.1 == q with
  | none => rw [e] at h; cases h
  | some p =>
    rw [e] at h
    have h1 := List.find?_some e
    have h2 := List.mem_of_find?_eq_some e
    have h3 : p.1 = q := by simpa using h1
    have h4 : p.2 = w := by simpa using h
    rw [← h3, ← h4]
    exact h2
section
variable {l : Lot} {n : Nat} {done : List (List Nat × Nat)} {m : List (Nat × List Nat)} {v : List Nat} {c : Nat}
/-- a lesser one stands -/
theorem LeastM.keep {q : Nat} {u : List Nat} (h : LeastM l n done m) (e : onL l (some 0) (v ++ [c]) = some q) (a : atN m q = some u) (lt : u < v ++ [c]) : LeastM l n (done ++ [(v, c)]) m where
  nd := h.nd
  on := h.on
  all := fun v2 c2 q2 h1 h2 => by
    rcases List.mem_append.mp h1 with h1 | h1
    · exact h.all v2 c2 q2 h1 h2
    · cases List.mem_singleton.mp h1
      rw [e] at h2
      cases h2
      exact ⟨u, atN_some a, fun z => List.lt_irrefl _ (List.lt_trans z lt)⟩
end
/-- all are through -/
theorem LeastM.next {l : Lot} {n : Nat} {m0 m : List (Nat × List Nat)} (h0 : LeastN l n m0) (h : LeastM l n (m0.flatMap fun p => l.signs.map fun c => (p.2, c)) m) : LeastN l (n + 1) m where
  nd := h.nd
  on := h.on
  all := fun t q h1 h2 => by
    have hne : t ≠ [] := fun z => by rw [z] at h1; cases h1
    have e := List.dropLast_concat_getLast hne
    have hl : t.dropLast.length = n := by rw [List.length_dropLast, h1]; rfl
    rw [← e, on_snoc] at h2
    cases eo : onL l (some 0) t.dropLast with
    | none => rw [eo] at h2; cases h2
    | some p =>
      rw [eo] at h2
      have h2' : stepL l (some p) (t.getLast hne) = some q := h2
      obtain ⟨w, hw, hlt⟩ := h0.all _ p hl eo
      have hc : t.getLast hne ∈ l.signs := by
        by_cases z : t.getLast hne ∈ l.signs
        · exact z
        · rw [show stepL l (some p) (t.getLast hne) = none from if_neg z] at h2'
          cases h2'
      obtain ⟨w1, w2⟩ := h0.on _ hw
      obtain ⟨u, hu, hlt2⟩ := h.all w (t.getLast hne) q (List.mem_flatMap.mpr ⟨_, hw, List.mem_map.mpr ⟨_, hc, rfl⟩⟩) (by rw [on_snoc, w2]; exact h2')
      refine ⟨u, hu, fun lt => ?_⟩
      rw [← e] at lt
      by_cases z : t.dropLast = w
      · rw [z] at lt
        exact hlt2 lt
      · have lt2 : w < t.dropLast := by
          by_cases y : w < t.dropLast
          · exact y
          · exact absurd (List.le_antisymm y hlt) z
        exact hlt2 (List.lt_trans (lex_app [t.getLast hne] [t.getLast hne] (by rw [hl]; exact w1) lt2) lt)
/-! ### states that lead to themselves -/
def ReachP (l : Lot) (q p : Nat) : Prop := ∃ y, y ≠ [] ∧ onL l (some q) y = some p
/-- while states are come to: some are found, of these (and the first one) some are left -/
structure Rch (l : Lot) (q : Nat) (found left : List Nat) : Prop where
  nd : found.Nodup
  ok : ∀ p ∈ found, ReachP l q p ∧ p < l.sts.length
  sub : ∀ p ∈ left, p = q ∨ p ∈ found
  closed : ∀ p, (p = q ∨ p ∈ found) → p ∉ left → ∀ c r, stepL l (some p) c = some r → r ∈ found
theorem Rch.done {l : Lot} {q : Nat} {found : List Nat} (h : Rch l q found []) (p : Nat) : p ∈ found ↔ ReachP l q p := by
  constructor
  · exact fun hp => (h.ok p hp).1
  · rintro ⟨y, y0, ey⟩
    have gen : ∀ (y : List Nat) (r : Nat), (r = q ∨ r ∈ found) → ∀ p, onL l (some r) y = some p → y ≠ [] → p ∈ found := fun y => by
      induction y with
      | nil => intro r _ p _ z; exact absurd rfl z
      | cons c y ih =>
        intro r hr p e _
        have e' : onL l (stepL l (some r) c) y = some p := e
        cases es : stepL l (some r) c with
        | none => rw [es, onL_none] at e'; cases e'
        | some s =>
          rw [es] at e'
          have hs := h.closed r hr (by simp) c s es
          cases y with
          | nil =>
            injection e' with e'
            exact e' ▸ hs
          | cons d y => exact ih s (.inr hs) p e' (by simp)
    exact gen y q (.inl rfl) p ey y0
theorem ReachP.step {l : Lot} {q p r c : Nat} (h : p = q ∨ ReachP l q p) (e : stepL l (some p) c = some r) : ReachP l q r := by
  rcases h with rfl | ⟨y, y0, ey⟩
  · exact ⟨[c], by simp, e⟩
  · refine ⟨y ++ [c], by simp, ?_⟩
    rw [onL_snoc, ey]
    exact e
end Fo
/-! Ga1: readers that go along: what lets by still, pairs of states. -/
namespace Fo
open PySem PySem.Spec PyProof.Rows L2
def waysR (r : Rdr) (q : Nat) : List Way := (atR r.sts ([], none) q).1
inductive Hop (r : Rdr) : Nat → Prop
  | fin {q : Nat} (h : endR r q ≠ none) : Hop r q
  | way {q : Nat} {w : Way} (h : w ∈ waysR r q) (t : Hop r w.1) : Hop r q
/-! ### a vector of truths, round by round -/
abbrev bAt (f : List Bool) (q : Nat) : Bool := atR f false q
def anyW (f : List Bool) (ws : List Way) : Bool := ws.any fun w => bAt f w.1
structure HpV (r : Rdr) (f : List Bool) : Prop where
  len : f.length = r.sts.length
  sound : ∀ q, bAt f q = true → Hop r q
  fin : ∀ q, endR r q ≠ none → bAt f q = true
def HpC (r : Rdr) (f : List Bool) : Prop := ∀ q, ∀ w ∈ waysR r q, bAt f w.1 = true → bAt f q = true
theorem HpV.iff {r : Rdr} {f : List Bool} (h : HpV r f) (c : HpC r f) (q : Nat) : bAt f q = true ↔ Hop r q := by
  refine ⟨h.sound q, fun z => ?_⟩
  induction z with
  | fin e => exact h.fin _ e
  | way m _ ih => exact c _ _ m ih
theorem bAt_set {f : List Bool} {j q : Nat} {v : Bool} : bAt (f.set j v) q = if j = q ∧ q < f.length then v else bAt f q := by
  unfold bAt atR
  rw [List.getElem?_set]
  by_cases e : j = q
  · subst e
    by_cases l : j < f.length
    · rw [if_pos rfl, if_pos l, if_pos ⟨rfl, l⟩]; rfl
    · rw [if_pos rfl, if_neg l, if_neg (fun z => l z.2), List.getElem?_eq_none (by omega)]
  · rw [if_neg e, if_neg (fun z => e z.1)]
theorem bAt_lt {f : List Bool} {q : Nat} (h : bAt f q = true) : q < f.length := by
  apply Classical.byContradiction
  intro z
  unfold bAt atR at h
  rw [List.getElem?_eq_none (by omega)] at h
  cases h
theorem waysR_out {r : Rdr} {q : Nat} (h : ¬ q < r.sts.length) : waysR r q = [] := by
  unfold waysR atR
  rw [List.getElem?_eq_none (by omega)]
  rfl
/-- within a round: f ahead of it, g by now, j states done -/
structure HpM (r : Rdr) (f g : List Bool) (j : Nat) : Prop where
  v : HpV r g
  le : ∀ q, bAt f q = true → bAt g q = true
  cl : g = f → ∀ q, q < j → ∀ w ∈ waysR r q, bAt f w.1 = true → bAt f q = true
theorem HpM.zero {r : Rdr} {f : List Bool} (h : HpV r f) : HpM r f f 0 := ⟨h, fun _ z => z, fun _ q hq => absurd hq (Nat.not_lt_zero q)⟩
theorem bAt_ext {f g : List Bool} (hl : f.length = g.length) (h : ∀ q, bAt f q = true ↔ bAt g q = true) : f = g := by
  refine List.ext_getElem hl fun i h1 h2 => ?_
  have := h i
  unfold bAt at this
  rw [show atR f false i = f[i] by unfold atR; rw [List.getElem?_eq_getElem h1]; rfl, show atR g false i = g[i] by unfold atR; rw [List.getElem?_eq_getElem h2]; rfl] at this
  exact Bool.eq_iff_iff.mpr this
theorem HpM.step {r : Rdr} {f g : List Bool} {j : Nat} (hf : f.length = r.sts.length) (h : HpM r f g j) (hj : j < r.sts.length) : HpM r f (g.set j (bAt g j || anyW g (waysR r j))) (j + 1) := by
  have gl := h.v.len
  have up : ∀ q, bAt g q = true → bAt (g.set j (bAt g j || anyW g (waysR r j))) q = true := fun q z => by
    rw [bAt_set]
    split
    · rename_i e
      rw [e.1, z]
      rfl
    · exact z
  refine ⟨⟨by rw [List.length_set]; exact gl, fun q z => ?_, fun q z => up q (h.v.fin q z)⟩, fun q z => up q (h.le q z), fun e q hq w hw hb => ?_⟩
  · rw [bAt_set] at z
    split at z
    · rename_i e
      rw [Bool.or_eq_true] at z
      rcases z with z | z
      · exact e.1 ▸ h.v.sound _ z
      · obtain ⟨w, hw, hb⟩ := List.any_eq_true.mp z
        exact .way (e.1 ▸ hw) (h.v.sound _ hb)
    · exact h.v.sound _ z
  · have eg : g = f := bAt_ext (gl.trans hf.symm) fun q => ⟨fun z => by rw [← e]; exact up q z, h.le q⟩
    subst eg
    by_cases z : q < j
    · exact h.cl rfl q z w hw hb
    · have : q = j := by omega
      subst this
      rw [← e, bAt_set, if_pos ⟨rfl, by omega⟩, Bool.or_eq_true]
      exact .inr (List.any_eq_true.mpr ⟨w, hw, hb⟩)
theorem cnt_lt {f g : List Bool} : f.length = g.length → (∀ q, bAt f q = true → bAt g q = true) → f ≠ g → f.countP id < g.countP id := by
  induction f generalizing g with
  | nil =>
    intro hl _ ne
    cases g with
    | nil => exact absurd rfl ne
    | cons => cases hl
  | cons a f ih =>
    intro hl h ne
    cases g with
    | nil => cases hl
    | cons b g =>
      have hl2 : f.length = g.length := by simpa using hl
      have h2 : ∀ q, bAt f q = true → bAt g q = true := fun q z => h (q + 1) z
      have h0 : a = true → b = true := fun z => h 0 z
      have le : f.countP id ≤ g.countP id := by
        by_cases e : f = g
        · rw [e]; exact Nat.le_refl _
        · exact Nat.le_of_lt (ih hl2 h2 e)
      rw [List.countP_cons, List.countP_cons]
      cases a <;> cases b
      · have : f ≠ g := fun e => ne (by rw [e])
        have := ih hl2 h2 this
        simp only [id, Bool.false_eq_true, if_false]
        omega
      · simp only [id, Bool.false_eq_true, if_false, if_true]
        omega
      · exact absurd (h0 rfl) (by decide)
      · have : f ≠ g := fun e => ne (by rw [e])
        have := ih hl2 h2 this
        simp only [id, if_true]
        omega
/-- behind n rounds -/
structure HpN (r : Rdr) (n : Nat) (f : List Bool) : Prop where
  v : HpV r f
  c : HpC r f ∨ n < f.countP id
theorem HpN.zero {r : Rdr} {f : List Bool} (h : HpV r f) : HpN r 0 f := by
  refine ⟨h, ?_⟩
  by_cases z : 0 < f.countP id
  · exact .inr z
  · refine .inl fun q w _ hb => ?_
    have : ∀ x ∈ f, ¬ id x = true := List.countP_eq_zero.mp (by omega)
    exact absurd (show id (bAt f w.1) = true from hb) (this _ (atR_mem (bAt_lt hb)))
theorem HpN.next {r : Rdr} {n : Nat} {f g : List Bool} (h : HpN r n f) (m : HpM r f g r.sts.length) : HpN r (n + 1) g := by
  refine ⟨m.v, ?_⟩
  rcases h.c with c | c
  · refine .inl fun q w hw hb => m.le q ((h.v.iff c q).mpr (.way hw (m.v.sound _ hb)))
  · by_cases e : g = f
    · refine .inl fun q w hw hb => ?_
      by_cases z : q < r.sts.length
      · rw [e] at hb ⊢
        exact m.cl e q z w hw hb
      · rw [waysR_out z] at hw
        cases hw
    · have := cnt_lt (h.v.len.trans m.v.len.symm) m.le (fun z => e z.symm)
      exact .inr (by omega)
theorem HpN.done {r : Rdr} {f : List Bool} (h : HpN r f.length f) (q : Nat) : bAt f q = true ↔ Hop r q := by
  refine h.v.iff ?_ q
  rcases h.c with c | c
  · exact c
  · have := List.countP_le_length (l := f) (p := id)
    omega
/-! ### a list of numbers, round by round -/
structure HlV (r : Rdr) (F : List Nat) : Prop where
  nd : F.Nodup
  sound : ∀ q ∈ F, Hop r q
  lt : ∀ q ∈ F, q < r.sts.length
  fin : ∀ q, endR r q ≠ none → q ∈ F
def HlC (r : Rdr) (F : List Nat) : Prop := ∀ q, ∀ w ∈ waysR r q, w.1 ∈ F → q ∈ F
theorem HlV.iff {r : Rdr} {F : List Nat} (h : HlV r F) (c : HlC r F) (q : Nat) : q ∈ F ↔ Hop r q := by
  refine ⟨h.sound q, fun z => ?_⟩
  induction z with
  | fin e => exact h.fin _ e
  | way m _ ih => exact c _ _ m ih
structure HlM (r : Rdr) (F G : List Nat) (j : Nat) : Prop where
  v : HlV r G
  ext : ∃ M, G = F ++ M ∧ (M = [] → ∀ q, q < j → ∀ w ∈ waysR r q, w.1 ∈ F → q ∈ F)
theorem HlM.zero {r : Rdr} {F : List Nat} (h : HlV r F) : HlM r F F 0 := ⟨h, [], (List.append_nil F).symm, fun _ q hq => absurd hq (Nat.not_lt_zero q)⟩
structure HlN (r : Rdr) (n : Nat) (F : List Nat) : Prop where
  v : HlV r F
  c : HlC r F ∨ n < F.length
theorem HlN.zero {r : Rdr} {F : List Nat} (h : HlV r F) : HlN r 0 F := by
  refine ⟨h, ?_⟩
  cases F with
  | nil => exact .inl fun q w _ hb => by cases hb
  | cons => exact .inr (Nat.succ_pos _)
theorem HlN.next {r : Rdr} {n : Nat} {F G : List Nat} (h : HlN r n F) (m : HlM r F G r.sts.length) : HlN r (n + 1) G := by
  refine ⟨m.v, ?_⟩
  obtain ⟨M, e, cl⟩ := m.ext
  rcases h.c with c | c
  · refine .inl fun q w hw hb => ?_
    rw [e]
    exact List.mem_append_left _ ((h.v.iff c q).mpr (.way hw (m.v.sound _ hb)))
  · cases M with
    | nil =>
      rw [List.append_nil] at e
      subst e
      refine .inl fun q w hw hb => ?_
      by_cases z : q < r.sts.length
      · exact cl rfl q z w hw hb
      · rw [waysR_out z] at hw
        cases hw
    | cons x M =>
      right
      rw [e, List.length_append, List.length_cons]
      omega
theorem HlV.few {r : Rdr} {F : List Nat} (h : HlV r F) : F.length ≤ r.sts.length := by
  have := h.nd.length_le_of_subset (l₂ := List.range r.sts.length) fun x hx => List.mem_range.mpr (h.lt x hx)
  rwa [List.length_range] at this
theorem HlN.done {r : Rdr} {F : List Nat} (h : HlN r r.sts.length F) (q : Nat) : q ∈ F ↔ Hop r q := by
  refine h.v.iff ?_ q
  rcases h.c with c | c
  · exact c
  · have := h.v.few
    omega
/-! ### pairs -/
structure AlikeP (one other : Rdr) (p : Nat × Nat) : Prop where
  fin : endR one p.1 ≠ none → endR one p.1 = endR other p.2
  ways : ∀ (i : Nat) (w v : Way), (waysR one p.1)[i]? = some w → (waysR other p.2)[i]? = some v → Hop one w.1 → w.2 = v.2
inductive Rp (one other : Rdr) : Nat × Nat → Prop
  | zero : Rp one other (0, 0)
  | step {p : Nat × Nat} {i : Nat} {w v : Way} (h : Rp one other p) (h1 : (waysR one p.1)[i]? = some w) (h2 : (waysR other p.2)[i]? = some v) (hh : Hop one w.1) : Rp one other (w.1, v.1)
structure Gp (one other : Rdr) (ps op : List (Nat × Nat)) : Prop where
  zero : (0, 0) ∈ ps
  nd : ps.Nodup
  rp : ∀ p ∈ ps, Rp one other p
  sub : ∀ p ∈ op, p ∈ ps
  done : ∀ p ∈ ps, p ∉ op → AlikeP one other p ∧ ∀ (i : Nat) (w v : Way), (waysR one p.1)[i]? = some w → (waysR other p.2)[i]? = some v → Hop one w.1 → (w.1, v.1) ∈ ps
section
variable {one other : Rdr} {ps op : List (Nat × Nat)} {p : Nat × Nat} {n : Nat}
theorem Gp.fin (h : Gp one other ps []) : ∀ p, Rp one other p → AlikeP one other p := by
  have all : ∀ p, Rp one other p → p ∈ ps := fun p hp => by
    induction hp with
    | zero => exact h.zero
    | step _ h1 h2 hh ih => exact (h.done _ ih (fun z => by cases z)).2 _ _ _ h1 h2 hh
  exact fun p hp => (h.done p (all p hp) (fun z => by cases z)).1
end
end Fo
-- v2
/-! Ga2: hopeful and _law_hopes walked. -/
namespace Fo
open PySem PySem.Spec PyProof.Rows L2
/-- what a reader must be to be walked -/
structure RdW (r : Rdr) : Prop where
  ne : r.sts ≠ []
  len : ∀ q, q < r.sts.length → (waysR r q).length = r.reads.length
  way : ∀ q, ∀ w ∈ waysR r q, w.1 < r.sts.length
  txt : ∀ q, ∀ w ∈ waysR r q, ∀ c ∈ w.2, c < 256
  fin : ∀ q t, endR r q = some t → ∀ c ∈ t, c < 256
  big : r.sts.length ≤ 1000
  wide : r.reads.length ≤ 1000
theorem RdOk.w {n e : Nat} {r : Rdr} (h : RdOk n e r) (b : r.sts.length ≤ 1000) (w : r.reads.length ≤ 1000) : RdW r := by
  refine ⟨h.ne, fun q hq => (h.sttAt hq).len, fun q w hw => ?_, fun q w hw c hc => ?_, fun q t ht c hc => ?_, b, w⟩
  · by_cases hq : q < r.sts.length
    · exact ((h.sttAt hq).ways w hw).1
    · rw [waysR_out hq] at hw
      cases hw
  · by_cases hq : q < r.sts.length
    · exact pool_lt3 c (h.st.pool c (((h.sttAt hq).ways w hw).2.1 c hc))
    · rw [waysR_out hq] at hw
      cases hw
  · by_cases hq : q < r.sts.length
    · exact pool_lt3 c (h.st.pool c ((h.end_ hq ht).1 c hc))
    · unfold endR atR at ht
      rw [List.getElem?_eq_none (by omega)] at ht
      cases ht
def hl0 (r : Rdr) : List Nat := r.sts.zipIdx.filterMap fun p => if (p.1.2).isSome then some p.2 else none
end Fo
/-! Fw2: the states that are come to, walked. -/
namespace Fo
open PySem PySem.Spec PyProof.Rows L2
/-- .. within a state's ways -/
structure RchM (l : Lot) (q p : Nat) (found left : List Nat) (dn : List (Option Nat)) : Prop where
  nd : found.Nodup
  ok : ∀ p ∈ found, ReachP l q p ∧ p < l.sts.length
  sub : ∀ p ∈ left, p = q ∨ p ∈ found
  oth : ∀ r, (r = q ∨ r ∈ found) → r ∉ left → r ≠ p → ∀ c s, stepL l (some r) c = some s → s ∈ found
  sofar : ∀ r, some r ∈ dn → r ∈ found
  pin : p = q ∨ p ∈ found
theorem RchM.done {l : Lot} {q p : Nat} {found left : List Nat} (h : RchM l q p found left (atR l.sts ([], false) p).1) : Rch l q found left where
  nd := h.nd
  ok := h.ok
  sub := h.sub
  closed := fun r hr hn c s e => by
    by_cases z : r = p
    · subst z
      refine h.sofar s ?_
      have e' : (if c ∈ l.signs then atR (atR l.sts ([], false) r).1 none (l.signs.idxOf c) else none) = some s := e
      by_cases hc : c ∈ l.signs
      · rw [if_pos hc] at e'
        unfold atR at e' ⊢
        try dsimp only at e' ⊢
        cases g : (((l.sts[r]?).getD ([], false)).1)[l.signs.idxOf c]? with
        | none => rw [g] at e'; cases e'
        | some w =>
          rw [g] at e'
          have e2 : w = some s := e'
          rw [← e2]
          exact List.mem_of_getElem? g
      · rw [if_neg hc] at e'
        cases e'
    · exact h.oth r hr hn z c s e
end Fo
-- v2
/-! Ga3: are_alike_at, goes_along walked. -/
/-! RowN: rows are nice. -/
namespace Fo
open PySem PySem.Spec PyProof.Rows L2
theorem RowIn.ok : ∀ {sg : List Nat} {rs : List Rdr}, RowIn sg rs → ∀ r ∈ rs, RdOk 3 3 r
  | _, [], _, r, hr => by cases hr
  | _, _ :: rs, h, r, hr => by
    rcases List.mem_cons.mp hr with rfl | hr
    · exact h.2.1
    · exact RowIn.ok (rs := rs) h.2.2 r hr
theorem RowIn.lastSg : ∀ {sg : List Nat} {rs : List Rdr}, Sg sg → RowIn sg rs → Sg (lastT sg rs)
  | _, [], h, _ => h
  | _, r :: rs, _, h => RowIn.lastSg (rs := rs) h.2.1.st h.2.2
theorem QsOk.lt : ∀ {rs : List Rdr} {qs : List Nat} {b : Nat}, QsOk rs qs → (∀ r ∈ rs, r.sts.length ≤ b) → ∀ q ∈ qs, q < b
  | [], [], _, _, _, q, hq => by cases hq
  | r :: rs, a :: qs, b, h, hb, q, hq => by
    rcases List.mem_cons.mp hq with rfl | hq
    · exact Nat.lt_of_lt_of_le h.1 (hb r List.mem_cons_self)
    · exact QsOk.lt (rs := rs) h.2 (fun r hr => hb r (List.mem_cons_of_mem _ hr)) q hq
  | [], _ :: _, _, h, _, _, _ => h.elim
  | _ :: _, [], _, h, _, _, _ => h.elim
/-- a row as drawn -/
structure RowFull (sg : List Nat) (often size : Nat) (rs : List Rdr) : Prop where
  row : RowIn sg rs
  small : ∀ r ∈ rs, RdSmall size r
  head : ∃ r rs', rs = r :: rs' ∧ r.reads = sg
  len : rs.length ≤ often
  sg : Sg sg
theorem RowFull.ne {sg : List Nat} {often size : Nat} {rs : List Rdr} (h : RowFull sg often size rs) : rs ≠ [] := by
  obtain ⟨r, l, e, _⟩ := h.head
  rw [e]
  exact List.cons_ne_nil _ _
end Fo
-- v2
/-! Ga4: _law_along walked. -/
-- v2
/-! Ga5: a reader told by other numbers, touched. -/
namespace Fo
open PySem PySem.Spec PyProof.Rows L2
structure OrdN (n : Nat) (o : List Nat) : Prop where
  zero : o[0]? = some 0
  mem : ∀ k, k < n → k ∈ o
  lt : ∀ k ∈ o, k < n
structure StN (o : List Nat) (s s' : Stt) : Prop where
  fin : s'.2 = s.2
  ways : s'.1.map (fun w => (atR o 0 w.1, w.2)) = s.1
  lt : ∀ w ∈ s'.1, w.1 < o.length
structure NumR (r r' : Rdr) (o : List Nat) : Prop where
  reads : r'.reads = r.reads
  tells : r'.tells = r.tells
  len : r'.sts.length = o.length
  ord : OrdN r.sts.length o
  sts : ∀ i k, o[i]? = some k → StN o (atR r.sts ([], none) k) (atR r'.sts ([], none) i)
theorem NumR.ok {n e : Nat} {r r' : Rdr} {o : List Nat} (h : NumR r r' o) (hr : RdOk n e r) : RdOk n e r' := by
  refine ⟨by rw [h.reads]; exact hr.sr, by rw [h.tells]; exact hr.st, fun z => ?_, fun s hs => ?_⟩
  · have := h.len
    rw [z] at this
    have h0 := h.ord.zero
    rw [List.length_eq_zero_iff.mp this.symm] at h0
    cases h0
  · obtain ⟨i, hi⟩ := List.mem_iff_getElem?.mp hs
    have hil : i < o.length := by rw [← h.len]; exact (List.getElem?_eq_some_iff.mp hi).1
    obtain ⟨k, hk⟩ : ∃ k, o[i]? = some k := ⟨_, List.getElem?_eq_getElem hil⟩
    have st := h.sts i k hk
    have es : atR r'.sts ([], none) i = s := by unfold atR; rw [hi]; rfl
    rw [es] at st
    have kl := h.ord.lt k (List.mem_of_getElem? hk)
    have ok := hr.sttAt kl
    refine ⟨?_, fun w hw => ⟨by rw [h.len]; exact st.lt w hw, ?_⟩, fun t ht => ?_⟩
    · rw [h.reads, ← ok.len, ← st.ways, List.length_map]
    · have : (atR o 0 w.1, w.2) ∈ (atR r.sts ([], none) k).1 := by rw [← st.ways]; exact List.mem_map.mpr ⟨w, hw, rfl⟩
      have := (ok.ways _ this).2
      rw [h.tells]
      exact this
    · rw [h.tells]
      exact ok.fin t (by rw [← st.fin]; exact ht)
end Fo
/-! Al1: readers by other numbers, and readers that go along, tell alike. -/
namespace Fo
open PySem PySem.Spec PyProof.Rows L2
theorem walkR_told (r : Rdr) : ∀ (a : List Nat) (q : Nat) (t : List Nat), walkR r q t a = ((walkR r q [] a).1, t ++ (walkR r q [] a).2)
  | [], q, t => by
    show (q, t) = (q, t ++ [])
    rw [List.append_nil]
  | c :: a, q, t => by
    show walkR r (stepR r q c).1 (t ++ (stepR r q c).2) a = ((walkR r (stepR r q c).1 ([] ++ (stepR r q c).2) a).1, t ++ (walkR r (stepR r q c).1 ([] ++ (stepR r q c).2) a).2)
    rw [walkR_told r a (stepR r q c).1 (t ++ _), walkR_told r a (stepR r q c).1 ([] ++ _), List.nil_append]
    simp
theorem stepR_ways {r : Rdr} (hr : RdW r) {q c : Nat} (hq : q < r.sts.length) (hc : c ∈ r.reads) : (waysR r q)[r.reads.idxOf c]? = some (stepR r q c) := by
  have h := List.idxOf_lt_length_iff.mpr hc
  exact atR_of (show r.reads.idxOf c < (waysR r q).length by rw [hr.len q hq]; exact h)
/-! ### by other numbers -/
section
variable {r r' : Rdr} {o : List Nat} (h : NumR r r' o)
include h
theorem NumR.end_ {i k : Nat} (hi : o[i]? = some k) : endR r' i = endR r k := (h.sts i k hi).fin
theorem NumR.way_ {i k j : Nat} (hi : o[i]? = some k) : (waysR r k)[j]? = ((waysR r' i)[j]?).map fun w => (atR o 0 w.1, w.2) := by
  have := (h.sts i k hi).ways
  show (atR r.sts ([], none) k).1[j]? = _
  rw [← this, List.getElem?_map]
  rfl
theorem NumR.at_ {i k : Nat} (hi : o[i]? = some k) {w : Way} (hw : w ∈ waysR r' i) : o[w.1]? = some (atR o 0 w.1) := atR_of ((h.sts i k hi).lt w hw)
theorem NumR.walk (hr : RdW r) (hr' : RdW r') : ∀ (t : List Nat) (i k : Nat), (∀ c ∈ t, c ∈ r.reads) → o[i]? = some k → ∃ i', o[i']? = some (walkR r k [] t).1 ∧ walkR r' i [] t = (i', (walkR r k [] t).2)
  | [], i, k, _, hi => ⟨i, hi, rfl⟩
  | c :: t, i, k, hc, hi => by
    have hi2 : i < r'.sts.length := by rw [h.len]; exact (List.getElem?_eq_some_iff.mp hi).1
    have hc0 := hc c List.mem_cons_self
    have kl := h.ord.lt k (List.mem_of_getElem? hi)
    have e1 := stepR_ways hr kl hc0
    have e2 := stepR_ways hr' hi2 (by rw [h.reads]; exact hc0)
    have e := h.way_ hi (j := r.reads.idxOf c)
    rw [h.reads] at e2
    rw [e1, e2] at e
    injection e with e
    have hv := List.mem_of_getElem? e2
    have hat := h.at_ hi hv
    rw [show atR o 0 (stepR r' i c).1 = (stepR r k c).1 by rw [e]] at hat
    obtain ⟨i', g1, g2⟩ := NumR.walk hr hr' t (stepR r' i c).1 (stepR r k c).1 (fun x hx => hc x (List.mem_cons_of_mem _ hx)) hat
    have et : (stepR r' i c).2 = (stepR r k c).2 := by rw [e]
    refine ⟨i', ?_, ?_⟩
    · show o[i']? = some (walkR r (stepR r k c).1 ([] ++ (stepR r k c).2) t).1
      rw [walkR_told]
      exact g1
    · show walkR r' (stepR r' i c).1 ([] ++ (stepR r' i c).2) t = (i', (walkR r (stepR r k c).1 ([] ++ (stepR r k c).2) t).2)
      rw [walkR_told r' t _ ([] ++ _), walkR_told r t _ ([] ++ _), g2, et]
end
/-! ### along -/
end Fo
/-! One: a row as one reader. -/
namespace Fo
open PySem PySem.Spec PyProof.Rows L2
/-! ### the states come to -/
def putIn (found : List (List Nat)) (q : List Nat) : List (List Nat) := if q ∈ found then found else found ++ [q]
def oneWays (rs : List Rdr) (here : List Nat) : List Nat → List (List Nat) → List Way → List (List Nat) × List Way
  | [], found, ws => (found, ws)
  | c :: cs, found, ws => oneWays rs here cs (putIn found (rowWalk rs here [c]).1) (ws ++ [((putIn found (rowWalk rs here [c]).1).idxOf (rowWalk rs here [c]).1, (rowWalk rs here [c]).2)])
structure OneS where
  found : List (List Nat)
  sts : List Stt
def hereS (s : OneS) : List Nat := atR s.found [] s.sts.length
def oneStep (rs : List Rdr) (sg : List Nat) (s : OneS) : OneS :=
  if s.sts.length < s.found.length then ⟨(oneWays rs (hereS s) sg s.found []).1, s.sts ++ [((oneWays rs (hereS s) sg s.found []).2, rowEnd rs (hereS s) [])]⟩ else s
def oneRun (rs : List Rdr) (sg : List Nat) : Nat → OneS
  | 0 => ⟨[List.replicate rs.length 0], []⟩
  | n + 1 => oneStep rs sg (oneRun rs sg n)
/-! ### how many there may be -/
def allQs : List Rdr → List (List Nat)
  | [] => [[]]
  | r :: rs => (List.range r.sts.length).flatMap fun q => (allQs rs).map (q :: ·)
theorem mem_allQs : ∀ {rs : List Rdr} {qs : List Nat}, QsOk rs qs → qs ∈ allQs rs
  | [], [], _ => List.mem_singleton.mpr rfl
  | r :: rs, q :: qs, h => List.mem_flatMap.mpr ⟨q, List.mem_range.mpr h.1, List.mem_map.mpr ⟨qs, mem_allQs h.2, rfl⟩⟩
  | [], _ :: _, h => h.elim
  | _ :: _, [], h => h.elim
theorem len_allQs {b : Nat} : ∀ {rs : List Rdr}, (∀ r ∈ rs, r.sts.length ≤ b) → (allQs rs).length ≤ b ^ rs.length
  | [], _ => Nat.le_refl _
  | r :: rs, h => by
    have ih := len_allQs (rs := rs) fun x hx => h x (List.mem_cons_of_mem _ hx)
    have hr := h r List.mem_cons_self
    have gen : ∀ l : List Nat, (l.flatMap fun q => (allQs rs).map (q :: ·)).length = l.length * (allQs rs).length := fun l => by
      induction l with
      | nil => simp
      | cons a l ih =>
        rw [List.flatMap_cons, List.length_append, ih, List.length_map, List.length_cons, Nat.succ_mul]
        omega
    show ((List.range r.sts.length).flatMap _).length ≤ _
    rw [gen, List.length_range, List.length_cons, Nat.pow_succ, Nat.mul_comm (b ^ rs.length)]
    exact Nat.mul_le_mul hr ih
/-! ### what holds of them -/
structure OneOk (rs : List Rdr) (sg : List Nat) (s : OneS) : Prop where
  nd : s.found.Nodup
  qs : ∀ q ∈ s.found, QsOk rs q
  z : s.found[0]? = some (List.replicate rs.length 0)
  le : s.sts.length ≤ s.found.length
  wl : ∀ (i : Nat) (t : Stt), s.sts[i]? = some t → t.1.length = sg.length
  way : ∀ (i j c : Nat) (t : Stt) (w : Way), s.sts[i]? = some t → t.1[j]? = some w → sg[j]? = some c → s.found[w.1]? = some (rowWalk rs (atR s.found [] i) [c]).1 ∧ w.2 = (rowWalk rs (atR s.found [] i) [c]).2
  fin : ∀ (i : Nat) (t : Stt), s.sts[i]? = some t → t.2 = rowEnd rs (atR s.found [] i) []
/-- a list goes on another one -/
def Pre {α : Type} (l m : List α) : Prop := ∃ r, m = l ++ r
theorem Pre.refl {α : Type} (l : List α) : Pre l l := ⟨[], (List.append_nil l).symm⟩
theorem Pre.trans {α : Type} {l m n : List α} (h : Pre l m) (k : Pre m n) : Pre l n := by
  obtain ⟨r, rfl⟩ := h
  obtain ⟨r2, rfl⟩ := k
  exact ⟨r ++ r2, List.append_assoc ..⟩
theorem Pre.get {α : Type} {l m : List α} (h : Pre l m) {i : Nat} {x : α} (e : l[i]? = some x) : m[i]? = some x := by
  obtain ⟨r, rfl⟩ := h
  rw [List.getElem?_append_left (List.getElem?_eq_some_iff.mp e).1]
  exact e
theorem Pre.atR {α : Type} {l m : List α} (h : Pre l m) {d : α} {i : Nat} (hi : i < l.length) : Fo.atR m d i = Fo.atR l d i := by
  have := h.get (atR_of (d := d) hi)
  unfold Fo.atR
  rw [this, atR_of (d := d) hi]
theorem putIn_pre (f : List (List Nat)) (q : List Nat) : Pre f (putIn f q) := by
  unfold putIn
  split
  · exact Pre.refl f
  · exact ⟨[q], rfl⟩
theorem putIn_mem (f : List (List Nat)) (q : List Nat) : q ∈ putIn f q := by
  unfold putIn
  split
  · assumption
  · simp
theorem putIn_nd {f : List (List Nat)} {q : List Nat} (h : f.Nodup) : (putIn f q).Nodup := by
  unfold putIn
  split
  · exact h
  · rename_i no
    rw [List.nodup_append]
    refine ⟨h, by simp, fun a ha b hb => ?_⟩
    have : b = q := by simpa using hb
    subst this
    exact fun e => no (e ▸ ha)
theorem putIn_all {f : List (List Nat)} {q : List Nat} {p : List Nat → Prop} (h : ∀ x ∈ f, p x) (hq : p q) : ∀ x ∈ putIn f q, p x := by
  unfold putIn
  split
  · exact h
  · intro x hx
    rcases List.mem_append.mp hx with hx | hx
    · exact h x hx
    · rw [List.mem_singleton.mp hx]
      exact hq
theorem idx_get {f : List (List Nat)} {q : List Nat} (h : q ∈ f) : f[f.idxOf q]? = some q := by
  have lt := List.idxOf_lt_length_iff.mpr h
  rw [List.getElem?_eq_getElem lt, List.getElem_idxOf lt]
theorem ways_ok {rs : List Rdr} {here : List Nat} : ∀ (cs : List Nat) (f : List (List Nat)) (ws : List Way), f.Nodup → (∀ q ∈ f, QsOk rs q) → (∀ c ∈ cs, QsOk rs (rowWalk rs here [c]).1) →
    Pre f (oneWays rs here cs f ws).1 ∧ (oneWays rs here cs f ws).1.Nodup ∧ (∀ q ∈ (oneWays rs here cs f ws).1, QsOk rs q) ∧ Pre ws (oneWays rs here cs f ws).2 ∧ (oneWays rs here cs f ws).2.length = ws.length + cs.length ∧
    ∀ (j c : Nat) (w : Way), (oneWays rs here cs f ws).2[ws.length + j]? = some w → cs[j]? = some c → (oneWays rs here cs f ws).1[w.1]? = some (rowWalk rs here [c]).1 ∧ w.2 = (rowWalk rs here [c]).2
  | [], f, ws, nd, hq, _ => ⟨Pre.refl f, nd, hq, Pre.refl ws, rfl, fun j c w _ h => by simp at h⟩
  | c :: cs, f, ws, nd, hq, hc => by
    have h1 := hc c List.mem_cons_self
    obtain ⟨p1, p2, p3, p4, p5, p6⟩ := ways_ok cs (putIn f (rowWalk rs here [c]).1) (ws ++ [((putIn f (rowWalk rs here [c]).1).idxOf (rowWalk rs here [c]).1, (rowWalk rs here [c]).2)]) (putIn_nd nd) (putIn_all hq h1) fun x hx => hc x (List.mem_cons_of_mem _ hx)
    rw [List.length_append, List.length_singleton] at p5 p6
    refine ⟨(putIn_pre f _).trans p1, p2, p3, Pre.trans ⟨_, rfl⟩ p4, by show (oneWays rs here cs _ _).2.length = _; rw [p5, List.length_cons]; omega, fun j x w hw hx => ?_⟩
    cases j with
    | zero =>
      have e : c = x := by simpa using hx
      subst e
      have q := p4.get (i := ws.length) (x := ((putIn f (rowWalk rs here [c]).1).idxOf (rowWalk rs here [c]).1, (rowWalk rs here [c]).2)) (by simp)
      have hw' : (oneWays rs here cs (putIn f (rowWalk rs here [c]).1) (ws ++ [((putIn f (rowWalk rs here [c]).1).idxOf (rowWalk rs here [c]).1, (rowWalk rs here [c]).2)])).2[ws.length]? = some w := hw
      rw [q] at hw'
      injection hw' with hw'
      subst hw'
      exact ⟨p1.get (idx_get (putIn_mem f _)), rfl⟩
    | succ j =>
      have hx' : cs[j]? = some x := by simpa using hx
      exact p6 j x w (by rw [show ws.length + 1 + j = ws.length + (j + 1) by omega]; exact hw) hx'
section
variable {rs : List Rdr} {sg : List Nat} (h : RowIn sg rs)
include h
theorem one_ok0 : OneOk rs sg (oneRun rs sg 0) :=
  ⟨by simp [oneRun], fun q hq => by
    have : q = List.replicate rs.length 0 := by simpa [oneRun] using hq
    rw [this]
    exact qs_zero h, rfl, by simp [oneRun], fun i t e => by simp [oneRun] at e, fun i j c t w e => by simp [oneRun] at e, fun i t e => by simp [oneRun] at e⟩
theorem one_step {s : OneS} (o : OneOk rs sg s) : OneOk rs sg (oneStep rs sg s) := by
  unfold oneStep
  by_cases lt : s.sts.length < s.found.length
  · rw [if_pos lt]
    have hq : QsOk rs (hereS s) := o.qs _ (atR_mem lt)
    obtain ⟨p1, p2, p3, p4, p5, p6⟩ := ways_ok sg s.found [] o.nd o.qs fun c hc => qs_walk h hq fun x hx => by
      rw [List.mem_singleton.mp hx]
      exact hc
    have p5' : (oneWays rs (hereS s) sg s.found []).2.length = sg.length := by
      rw [p5, List.length_nil, Nat.zero_add]
    have pl : s.found.length ≤ (oneWays rs (hereS s) sg s.found []).1.length := by
      obtain ⟨r, e⟩ := p1
      rw [e, List.length_append]
      omega
    have cas : ∀ (i : Nat) (t : Stt), (s.sts ++ [((oneWays rs (hereS s) sg s.found []).2, rowEnd rs (hereS s) [])])[i]? = some t → (i < s.sts.length ∧ s.sts[i]? = some t) ∨ (i = s.sts.length ∧ t = ((oneWays rs (hereS s) sg s.found []).2, rowEnd rs (hereS s) [])) := fun i t e => by
      rcases Nat.lt_trichotomy i s.sts.length with l | l | l
      · rw [List.getElem?_append_left l] at e
        exact .inl ⟨l, e⟩
      · subst l
        simp at e
        exact .inr ⟨rfl, e.symm⟩
      · rw [List.getElem?_eq_none (by rw [List.length_append, List.length_singleton]; omega)] at e
        cases e
    have here : ∀ i, i ≤ s.sts.length → atR (oneWays rs (hereS s) sg s.found []).1 [] i = atR s.found [] i := fun i hi => p1.atR (by omega)
    refine ⟨p2, p3, p1.get o.z, by show (s.sts ++ [_]).length ≤ (oneWays rs (hereS s) sg s.found []).1.length; rw [List.length_append, List.length_singleton]; omega, fun i t e => ?_, fun i j c t w e ew ec => ?_, fun i t e => ?_⟩
    · rcases cas i t e with ⟨_, e'⟩ | ⟨_, rfl⟩
      · exact o.wl i t e'
      · exact p5'
    · rcases cas i t e with ⟨l, e'⟩ | ⟨rfl, rfl⟩
      · rw [here i (by omega)]
        obtain ⟨q1, q2⟩ := o.way i j c t w e' ew ec
        exact ⟨p1.get q1, q2⟩
      · rw [here _ (Nat.le_refl _)]
        exact p6 j c w (by rw [List.length_nil, Nat.zero_add]; exact ew) ec
    · rcases cas i t e with ⟨l, e'⟩ | ⟨rfl, rfl⟩
      · rw [here i (by omega)]
        exact o.fin i t e'
      · rw [here _ (Nat.le_refl _)]
        rfl
  · rw [if_neg lt]
    exact o
theorem one_ok : ∀ n, OneOk rs sg (oneRun rs sg n)
  | 0 => one_ok0 h
  | n + 1 => one_step h (one_ok n)
theorem one_len (n : Nat) {b : Nat} (hb : ∀ r ∈ rs, r.sts.length ≤ b) : (oneRun rs sg n).found.length ≤ b ^ rs.length := by
  have o := one_ok h n
  exact Nat.le_trans (o.nd.length_le_of_subset fun q hq => mem_allQs (o.qs q hq)) (len_allQs hb)
end
end Fo
/-! One2: as_one, and the law's own. -/
namespace Fo
open PySem PySem.Spec PyProof.Rows L2
/-- a row whose readers are few, that reads sg -/
structure RowAs (sg : List Nat) (rs : List Rdr) : Prop where
  row : RowIn sg rs
  hd : ∃ r l, rs = r :: l ∧ r.reads = sg
  len : rs.length ≤ 3
  st : ∀ r ∈ rs, r.sts.length ≤ 8
  hsg : Sg sg
theorem RowAs.ne {sg : List Nat} {rs : List Rdr} (h : RowAs sg rs) : rs ≠ [] := by
  obtain ⟨r, l, e, _⟩ := h.hd
  rw [e]
  exact List.cons_ne_nil _ _
theorem RowAs.few {sg : List Nat} {rs : List Rdr} (h : RowAs sg rs) (n : Nat) : (oneRun rs sg n).found.length ≤ 600 := by
  have h1 := one_len h.row n h.st
  have h2 : 8 ^ rs.length ≤ 8 ^ 3 := Nat.pow_le_pow_right (by decide) h.len
  omega
end Fo
/-! One3: the one reader reads as the row does. -/
/-! Rt1: what rows tell, reader by reader; a reader exchanged for one that goes along with it. -/
namespace Fo
open PySem PySem.Spec PyProof.Rows L2
theorem RowIn.app : ∀ {sg : List Nat} {l m : List Rdr}, RowIn sg (l ++ m) ↔ RowIn sg l ∧ RowIn (lastT sg l) m
  | _, [], m => ⟨fun h => ⟨trivial, h⟩, fun h => h.2⟩
  | sg, r :: l, m => by
    have ih := RowIn.app (sg := r.tells) (l := l) (m := m)
    constructor
    · rintro ⟨h1, h2, h3⟩
      exact ⟨⟨h1, h2, (ih.mp h3).1⟩, (ih.mp h3).2⟩
    · rintro ⟨⟨h1, h2, h3⟩, h4⟩
      exact ⟨h1, h2, ih.mpr ⟨h3, h4⟩⟩
end Fo
-- v2
/-! Ga6: a reader touched. -/
-- v2
/-! Tp1: texts read in parts, told alike. -/
/-! Web: webs heard. -/
-- v2
/-! Rt2: rows read in parts, by readers, alike, exchanged. -/
/-! Wv2: whether each has heard its own. -/
-- v3
/-! Dk1: dicts whose keys tell something of a kind, each unlike. -/
/-! Wv3: woven, by the program. -/
-- v3
namespace Fo
open PySem PySem.Spec PyProof.Rows L2
def begun (rows : List (List Rdr)) : Nd := rows.map fun rs => (List.replicate rs.length 0, 0)
def wst (sg : List Nat) (rows : List (List Rdr)) (dues : List (List Nat)) (nd : Nd) (c : Nat) : Option Nd := if c ∈ sg then wstep rows dues nd c else none
def wOn (sg : List Nat) (rows : List (List Rdr)) (dues : List (List Nat)) (t : List Nat) : Option Nd := t.foldl (fun o c => o.bind fun nd => wst sg rows dues nd c) (some (begun rows))
theorem wOn_snoc (sg : List Nat) (rows : List (List Rdr)) (dues : List (List Nat)) (t : List Nat) (c : Nat) : wOn sg rows dues (t ++ [c]) = (wOn sg rows dues t).bind fun nd => wst sg rows dues nd c := by
  unfold wOn
  rw [List.foldl_append]
  rfl
structure WebOk (sg : List Nat) (rows : List (List Rdr)) (dues : List (List Nat)) : Prop where
  nd : NdOk sg rows dues (begun rows)
  l4 : rows.length ≤ 4
  ne : rows ≠ []
  sgo : Sg sg
  head : ∃ r rs, rows.head? = some (r :: rs) ∧ r.reads = sg
variable {sg : List Nat} {rows : List (List Rdr)} {dues : List (List Nat)}
theorem WebOk.on (h : WebOk sg rows dues) {t : List Nat} {nd : Nd} (e : wOn sg rows dues t = some nd) : NdOk sg rows dues nd := by
  revert nd
  refine snoc_ind (p := fun t => ∀ {nd : Nd}, wOn sg rows dues t = some nd → NdOk sg rows dues nd) ?_ ?_ t
  · intro nd e
    injection e with e
    subst e
    exact h.nd
  · intro t c ih nd e
    rw [wOn_snoc] at e
    cases ho : wOn sg rows dues t with
    | none => rw [ho] at e; cases e
    | some n1 =>
      rw [ho] at e
      have e' : wst sg rows dues n1 c = some nd := e
      unfold wst at e'
      split at e'
      · rename_i hc
        exact wstep_ok hc (ih ho) e'
      · cases e'
def Small (sg : List Nat) (rows : List (List Rdr)) (dues : List (List Nat)) : Prop := ∃ C : List Nd, C.length ≤ 1500 ∧ ∀ t nd, wOn sg rows dues t = some nd → nd ∈ C
theorem Small.few (h : Small sg rows dues) {seq : List (Nd × List Nat)} (nd : (seq.map (·.1)).Nodup) (hr : ∀ p ∈ seq, wOn sg rows dues p.2 = some p.1) : seq.length ≤ 1500 := by
  obtain ⟨C, hC, hm⟩ := h
  have := nd.length_le_of_subset (l₂ := C) fun x hx => by
    obtain ⟨p, hp, rfl⟩ := List.mem_map.mp hx
    exact hm p.2 p.1 (hr p hp)
  rw [List.length_map] at this
  omega
end Fo
/-! Wv4: the walk of woven. -/
-- v3
namespace Fo
open PySem PySem.Spec PyProof.Rows L2
theorem rep_nat (n : Nat) : (List.replicate n (D.int 0)) = (List.replicate n 0).map natD := by
  rw [List.map_replicate]
  rfl
end Fo
/-! Wv5: one step of weaving, by the law. -/
-- v3
namespace Fo
open PySem PySem.Spec PyProof.Rows L2
abbrev T3 := List Rdr × List Nat × (List Nat × Nat)
/-- rows, dues, places as one list -/
theorem NdOk.T {sg : List Nat} : ∀ {rows : List (List Rdr)} {dues : List (List Nat)} {nd : Nd}, NdOk sg rows dues nd → ∃ T : List T3, rows = T.map (·.1) ∧ dues = T.map (·.2.1) ∧ nd = T.map (·.2.2) ∧ T.length = rows.length ∧
    ∀ x ∈ T, RowG sg x.1 ∧ (∀ c ∈ x.2.1, c < 256) ∧ x.2.1.length ≤ 1000 ∧ QsOk x.1 x.2.2.1 ∧ x.2.2.2 ≤ x.2.1.length
  | [], [], [], _ => ⟨[], rfl, rfl, rfl, rfl, fun x hx => by cases hx⟩
  | rs :: rows, due :: dues, q :: nd, h => by
    obtain ⟨T, e1, e2, e3, e4, e5⟩ := h.2.2.T
    refine ⟨(rs, due, q) :: T, by rw [e1]; rfl, by rw [e2]; rfl, by rw [e3]; rfl, by rw [List.length_cons, List.length_cons, e4], fun x hx => ?_⟩
    rcases List.mem_cons.mp hx with rfl | hx
    · exact ⟨h.1.1, h.1.2.1, h.1.2.2, h.2.1.1, h.2.1.2⟩
    · exact e5 x hx
  | [], [], _ :: _, h => h.elim
  | [], _ :: _, _, h => h.elim
  | _ :: _, [], _, h => h.elim
  | _ :: _, _ :: _, [], h => h.elim
end Fo
/-! Wv6: whether there are few places, by the law. -/
-- v3
/-! Wv7: the first text, by the law. -/
-- v3
/-! Rw3: webs by the law's look; all looks at once; drawn rows and webs, looked at. -/
-- v3
namespace Fo
open PySem PySem.Spec PyProof.Rows L2
/-! ### drawn ones -/
theorem lnk_r {a b : Rdr} : lnk (rdrD a, rdrD b) = a.tells.all fun c => decide (c ∈ b.reads) := rfl
theorem links_row : ∀ {sg : List Nat} {rs : List Rdr}, RowIn sg rs → linksB (rs.map rdrD) = true
  | _, [], _ => rfl
  | _, [r], _ => rfl
  | _, r :: r2 :: rs, h => by
    have ih := links_row (rs := r2 :: rs) h.2.2
    have e : linksB ((r :: r2 :: rs).map rdrD) = (lnk (rdrD r, rdrD r2) && linksB ((r2 :: rs).map rdrD)) := rfl
    rw [e, ih, lnk_r, Bool.and_true]
    exact List.all_eq_true.mpr fun c hc => decide_eq_true (h.2.2.1 c hc)
theorem rows_ok : ∀ {sg : List Nat} {rs : List Rdr}, RowIn sg rs → ∀ r ∈ rs, RdOk 3 3 r
  | _, [], _, r, hr => by cases hr
  | _, a :: rs, h, r, hr => by
    rcases List.mem_cons.mp hr with rfl | hr
    · exact h.2.1
    · exact rows_ok h.2.2 r hr
structure Row8 (sg : List Nat) (row : List Rdr) : Prop where
  dr : RowDrawn sg 3 4 row
  r8 : ∀ r ∈ row, r.reads.length ≤ 8
theorem Row8.rd {sg : List Nat} {row : List Rdr} (h : Row8 sg row) {r : Rdr} (hr : r ∈ row) : rdB (rdrD r) = true ∧ Bt 5 (10 ^ 20) 4000 (rdrD r) := by
  have ok := rows_ok h.dr.row r hr
  have sm := h.dr.small r hr
  have r8 := h.r8 r hr
  have t3 := sm.t3
  have s4 := sm.s8
  refine ⟨?_, rdr_bt ok.sr ok.st (by omega) (by omega) (by omega) ok.sts (by decide) (by decide) (by omega) (by omega)⟩
  rw [rdB_rdr ok.sr ok.st (List.length_pos_iff.mpr sm.r0) (List.length_pos_iff.mpr sm.t0) (List.length_pos_iff.mpr ok.ne) ok.sts (by decide) (by decide), decide_eq_true r8, decide_eq_true (by omega), decide_eq_true (by omega)]
  rfl
theorem Row8.ok {sg : List Nat} {row : List Rdr} (h : Row8 sg row) : rowB (rowD row) = true ∧ hd0 (rowD row) = sg := by
  obtain ⟨r, rs, rfl, e2⟩ := h.dr.head
  have hl := h.dr.len
  refine ⟨?_, e2⟩
  show (decide (1 ≤ ((r :: rs).map rdrD).length) && decide (((r :: rs).map rdrD).length ≤ 3) && ((r :: rs).map rdrD).all rdB && linksB ((r :: rs).map rdrD)) = true
  rw [List.length_map, decide_eq_true (by rw [List.length_cons]; omega), decide_eq_true hl, links_row h.dr.row]
  have : ((r :: rs).map rdrD).all rdB = true := List.all_eq_true.mpr fun d hd => by
    obtain ⟨x, hx, rfl⟩ := List.mem_map.mp hd
    exact (h.rd hx).1
  rw [this]
  rfl
theorem Row8.els {sg : List Nat} {row : List Rdr} (h : Row8 sg row) : BtL 5 (10 ^ 20) 12006 (row.map rdrD) := by
  have := BtL.of (n := 5) (b := 10 ^ 20) (w := 4000) (l := row.map rdrD) fun d hd => by
    obtain ⟨x, hx, rfl⟩ := List.mem_map.mp hd
    exact (h.rd hx).2
  have hl := h.dr.len
  refine this.mono (Nat.le_refl _) (Nat.le_refl _) ?_
  rw [List.length_map]
  omega
end Fo
/-! Wv8: texts due. -/
-- v3
namespace Fo
open PySem PySem.Spec PyProof.Rows L2
structure RowS (sg : List Nat) (row : List Rdr) : Prop where
  g : RowG sg row
  small : ∀ r ∈ row, RdSmall 8 r
end Fo
/-! Frm3: frames drawn: the walk. -/
-- v4
local macro_rules | `(tactic| clean_wf) => `(tactic| repeat (first | (with_reducible refine Fo.sSeq_i ?_) | (with_reducible refine Fo.sNext_i ?_) | (with_reducible refine Fo.sBrk_i ?_) | (with_reducible refine Fo.sCont_i ?_) | (with_reducible refine Fo.sExpr_i ?_) | (with_reducible refine Fo.sRet_i ?_) | (with_reducible refine Fo.sRetN_i ?_) | (with_reducible refine Fo.sIf_i ?_) | (with_reducible refine Fo.sSet_i ?_) | (with_reducible refine Fo.sAsg_i ?_) | (with_reducible refine Fo.sPar_i ?_) | (with_reducible refine Fo.mC_i ?_) | (with_reducible refine Fo.mBin_i ?_) | (with_reducible refine Fo.mCond_i ?_) | (with_reducible refine Fo.cAnd_i ?_) | (with_reducible refine Fo.cOr_i ?_) | (with_reducible refine Fo.cNot_i ?_) | (with_reducible refine Fo.cYes_i ?_) | (with_reducible refine Fo.mIf_i ?_) | (with_reducible refine Fo.mAnd_i ?_) | (with_reducible refine Fo.mOr_i ?_) | (with_reducible refine Fo.mNot_i ?_) | (with_reducible refine Fo.mNeg_i ?_) | (with_reducible refine Fo.mChain_i ?_) | (with_reducible refine Fo.mSlice_i ?_) | (with_reducible refine Fo.mRev_i ?_) | (with_reducible refine Fo.aNil_i ?_) | (with_reducible refine Fo.aCons_i ?_) | (with_reducible refine Fo.mVal_i ?_) | (with_reducible refine Fo.mCell_i ?_) | (with_reducible refine Fo.nLst_i ?_) | (with_reducible refine Fo.mTup_i ?_) | (with_reducible refine Fo.mCallB_i ?_) | (with_reducible refine Fo.nCallB_i ?_) | (with_reducible refine Fo.mIsi_i ?_) | (with_reducible refine Fo.mIsiT_i ?_) | (with_reducible refine Fo.mMethC_i ?_) | (with_reducible refine Fo.mMethC0_i ?_) | (with_reducible refine Fo.mMethS_i ?_) | (with_reducible refine Fo.mIndexL_i ?_) | (with_reducible refine Fo.iVal_i ?_) | (with_reducible refine Fo.iRange1_i ?_) | (with_reducible refine Fo.iRange2_i ?_) | (with_reducible refine Fo.iEnumL_i ?_) | (with_reducible refine Fo.iZip_i ?_) | (with_reducible refine Fo.iZip2_i ?_) | (with_reducible refine Fo.iZip3_i ?_) | (with_reducible refine Fo.asZ2_i ?_) | (with_reducible refine Fo.asZ3_i ?_) | (with_reducible refine Fo.iEnum1_i ?_) | (with_reducible refine Fo.asE1_i ?_) | (with_reducible refine Fo.nBin_i ?_) | (with_reducible refine Fo.sAugX_i ?_) | (with_reducible refine Fo.sFor_i ?_) | (with_reducible refine Fo.nLC_i ?_) | (with_reducible refine Fo.mCall_i ?_) | (with_reducible refine Fo.mCallK_i ?_) | (with_reducible refine Fo.gVar_i ?_) | (with_reducible refine Fo.gTupM_i ?_) | (with_reducible refine Fo.gsCons_i ?_) | (with_reducible refine Fo.gsNil_i ?_) | (with_reducible refine Fo.gIx_i ?_) | (with_reducible refine Fo.asB_i ?_) | (with_reducible refine Fo.asI_i ?_) | (with_reducible refine Fo.asS_i ?_) | (with_reducible refine Fo.oNo_i ?_) | (with_reducible refine Fo.oAt_i ?_) | (with_reducible refine Fo.asI1_i ?_) | (with_reducible refine Fo.asI2_i ?_) | (with_reducible refine Fo.asL1_i ?_) | (with_reducible refine Fo.rd_v ?_) | (with_reducible refine Fo.par_i ?_) | (with_reducible refine Fo.vals_n ?_) | (with_reducible refine Fo.vals_c ?_) | (with_reducible refine Fo.rds_n ?_) | (with_reducible refine Fo.rds_c ?_) | (with_reducible refine Fo.add_i ?_) | (with_reducible refine Fo.iadd_i ?_) | (with_reducible refine Fo.sub_i ?_) | (with_reducible refine Fo.lt_i ?_) | (with_reducible refine Fo.le_i ?_) | (with_reducible refine Fo.gt_i ?_) | (with_reducible refine Fo.ge_i ?_) | (with_reducible refine Fo.lt_s ?_) | (with_reducible refine Fo.le_s ?_) | (with_reducible refine Fo.gt_s ?_) | (with_reducible refine Fo.ge_s ?_) | (with_reducible refine Fo.is_n ?_) | (with_reducible refine Fo.is_b ?_) | (with_reducible refine Fo.eq_i ?_) | (with_reducible refine Fo.eq_s ?_) | (with_reducible refine Fo.eq_b ?_) | (with_reducible refine Fo.in_s ?_) | (with_reducible refine Fo.sl_t ?_) | (with_reducible refine Fo.sl_l ?_) | (with_reducible refine Fo.sl_c ?_) | (with_reducible refine Fo.len_l ?_) | (with_reducible refine Fo.len_t ?_) | (with_reducible refine Fo.min2_i ?_) | (with_reducible refine Fo.tuple_l ?_) | (with_reducible refine Fo.tuple_t ?_) | (with_reducible refine Fo.listF_l ?_) | (with_reducible refine Fo.listF_t ?_) | (with_reducible refine Fo.itV_l ?_) | (with_reducible refine Fo.itV_t ?_) | (with_reducible refine Fo.itV_s ?_) | (with_reducible refine Fo.asZ_l ?_) | (with_reducible refine Fo.asZ_t ?_) | (with_reducible refine Fo.lstW_v ?_) | (with_reducible refine Fo.rev_t ?_) | (with_reducible refine Fo.rev_l ?_) | (with_reducible refine Fo.seqW_l ?_) | (with_reducible refine Fo.seqW_t ?_) | (with_reducible refine Fo.seqW_s ?_) | (with_reducible refine Fo.nostrict ?_) | (with_reducible refine Fo.int1_b ?_) | (with_reducible refine Fo.int1_i ?_) | ((with_reducible refine Fo.mVar_i (w := ?_) ?_ ?_); (rotate_left); (exact rfl)) | ((with_reducible refine Fo.rd_l (l := ?_) ?_ ?_); (rotate_left); (exact rfl)) | ((with_reducible refine Fo.lstW_r (l := ?_) ?_ ?_); (rotate_left); (exact rfl)) | ((with_reducible refine Fo.sAug_i (w := ?_) ?_ ?_); (rotate_left); (exact rfl)) | ((with_reducible refine Fo.asCell_i (l := ?_) ?_ ?_); (rotate_left); (exact rfl)) | ((with_reducible refine Fo.mFrz_v (d := ?_) ?_ ?_); (rotate_left); (exact rfl)) | ((with_reducible refine Fo.rd_d (ks := ?_) (ws := ?_) ?_ ?_); (rotate_left 2); (exact rfl)) | ((with_reducible refine Fo.mFrz_r (n := ?_) (l := ?_) ?_ ?_ ?_); (rotate_left 2); (exact rfl); (exact rfl)) | ((with_reducible refine Fo.gput_i (p := ?_) ?_ ?_); (rotate_left); (exact rfl)) | ((with_reducible refine Fo.mod_i ?_ ?_); (omega)) | ((with_reducible refine Fo.pow_i ?_ ?_); (exact ⟨by omega, by omega, by omega⟩)) | ((with_reducible refine Fo.mul_i ?_ ?_); (unfold L2.CMul; omega)) | ((with_reducible refine Fo.fdiv_i ?_ ?_); (unfold L2.CDiv; omega)) | (with_reducible refine Fo.if_t rfl ?_) | (with_reducible refine Fo.if_f rfl ?_) | (with_reducible refine Fo.fin_v ?_) | (dsimp only) | (with_reducible refine Fo.ix_t0 ?_) | (with_reducible refine Fo.ix_t1 ?_) | (with_reducible refine Fo.ix_t2 ?_) | (with_reducible refine Fo.ix_l0 ?_) | (with_reducible refine Fo.ix_l1 ?_) | (with_reducible refine Fo.ix_l2 ?_) | (with_reducible refine Fo.ix_l3 ?_) | ((with_reducible refine And.intro ?_ ?_); ((try simp only [List.length_append, List.length_cons, List.length_nil, List.length_reverse]); (try unfold PySem.sizeLine); omega)) | ((with_reducible refine Fo.add_l ?_ ?_); ((try simp only [List.length_append, List.length_cons, List.length_nil, List.length_reverse]); (try unfold PySem.sizeLine); omega)) | ((with_reducible refine Fo.addN_l ?_ ?_); ((try simp only [List.length_append, List.length_cons, List.length_nil, List.length_reverse]); (try unfold PySem.sizeLine); omega)) | ((with_reducible refine Fo.add_t ?_ ?_); ((try simp only [List.length_append, List.length_cons, List.length_nil, List.length_reverse]); (try unfold PySem.sizeLine); omega)) | ((with_reducible refine Fo.add_s ?_ ?_); ((try simp only [List.length_append, List.length_cons, List.length_nil, List.length_reverse]); (try unfold PySem.sizeLine); omega)) | ((with_reducible refine Fo.append_i ?_ ?_); ((try simp only [List.length_append, List.length_cons, List.length_nil, List.length_reverse]); (try unfold PySem.sizeLine); omega)) | ((with_reducible refine Fo.sl_s ?_ ?_); ((try simp only [List.length_append, List.length_cons, List.length_nil, List.length_reverse]); (try unfold PySem.sizeLine); omega)) | ((with_reducible refine Fo.len_s ?_ ?_); ((try simp only [List.length_append, List.length_cons, List.length_nil, List.length_reverse]); (try unfold PySem.sizeLine); omega)) | ((with_reducible refine Fo.rev_s ?_ ?_); ((try simp only [List.length_append, List.length_cons, List.length_nil, List.length_reverse]); (try unfold PySem.sizeLine); omega)) | (with_reducible refine Fo.mDct0_i ?_) | (with_reducible refine Fo.mDct1_i ?_) | (with_reducible refine Fo.mDct3_i ?_) | (with_reducible refine Fo.mDGet_i ?_) | (with_reducible refine Fo.mDGet2_i ?_) | (with_reducible refine Fo.sDPut_i ?_) | (with_reducible refine Fo.mDNew_i ?_) | (with_reducible refine Fo.mDNew1_i ?_) | (with_reducible refine Fo.mDGetT_i ?_) | (with_reducible refine Fo.sDPutT_i ?_) | (with_reducible refine Fo.mDNewT_i ?_) | (with_reducible refine Fo.sPar3_i ?_) | (with_reducible refine Fo.par3_i ?_) | (with_reducible refine Fo.asDic_v ?_) | (with_reducible refine Fo.keyW_i ?_) | (with_reducible refine Fo.keyW_s ?_) | ((with_reducible refine Fo.asDic_r (ks := ?_) (ws := ?_) ?_ ?_); (rotate_left 2); (exact rfl)) | ((with_reducible refine Fo.dicC_r (ks := ?_) (ws := ?_) ?_ ?_); (rotate_left 2); (exact rfl)) | ((with_reducible refine Fo.add_s ?_ ?_); (first | exact Nat.le_of_ble_eq_true rfl | (unfold PySem.sizeLine; omega) | omega)) | ((with_reducible refine Fo.len_s ?_ ?_); (first | exact Nat.le_of_ble_eq_true rfl | (unfold PySem.sizeLine; omega) | omega)) | ((with_reducible refine Fo.iadd_s ?_ ?_); (first | exact Nat.le_of_ble_eq_true rfl | (unfold PySem.sizeLine; omega) | omega)) | (with_reducible refine Fo.mIxW_i ?_) | (with_reducible refine Fo.asLws_i ?_) | (with_reducible refine Fo.mLws_i ?_) | (with_reducible refine Fo.mOrT_i ?_) | ((with_reducible refine Fo.dct3_i ?_ ?_); (exact ⟨by decide, by decide, by decide⟩))))
local macro_rules | `(tactic| subst_eqs) => `(tactic| repeat (first | (with_reducible refine Fo.sNext_i ?_) | (with_reducible refine Fo.sBrk_i ?_) | (with_reducible refine Fo.sCont_i ?_) | (with_reducible refine Fo.sExpr_i ?_) | (with_reducible refine Fo.sRet_i ?_) | (with_reducible refine Fo.sRetN_i ?_) | (with_reducible refine Fo.sIf_i ?_) | (with_reducible refine Fo.sSet_i ?_) | (with_reducible refine Fo.sAsg_i ?_) | (with_reducible refine Fo.sPar_i ?_) | (with_reducible refine Fo.mC_i ?_) | (with_reducible refine Fo.mBin_i ?_) | (with_reducible refine Fo.mCond_i ?_) | (with_reducible refine Fo.cAnd_i ?_) | (with_reducible refine Fo.cOr_i ?_) | (with_reducible refine Fo.cNot_i ?_) | (with_reducible refine Fo.cYes_i ?_) | (with_reducible refine Fo.mIf_i ?_) | (with_reducible refine Fo.mAnd_i ?_) | (with_reducible refine Fo.mOr_i ?_) | (with_reducible refine Fo.mNot_i ?_) | (with_reducible refine Fo.mNeg_i ?_) | (with_reducible refine Fo.mChain_i ?_) | (with_reducible refine Fo.mSlice_i ?_) | (with_reducible refine Fo.mRev_i ?_) | (with_reducible refine Fo.aNil_i ?_) | (with_reducible refine Fo.aCons_i ?_) | (with_reducible refine Fo.mVal_i ?_) | (with_reducible refine Fo.mCell_i ?_) | (with_reducible refine Fo.nLst_i ?_) | (with_reducible refine Fo.mTup_i ?_) | (with_reducible refine Fo.mCallB_i ?_) | (with_reducible refine Fo.nCallB_i ?_) | (with_reducible refine Fo.mIsi_i ?_) | (with_reducible refine Fo.mIsiT_i ?_) | (with_reducible refine Fo.mMethC_i ?_) | (with_reducible refine Fo.mMethC0_i ?_) | (with_reducible refine Fo.mMethS_i ?_) | (with_reducible refine Fo.mIndexL_i ?_) | (with_reducible refine Fo.iVal_i ?_) | (with_reducible refine Fo.iRange1_i ?_) | (with_reducible refine Fo.iRange2_i ?_) | (with_reducible refine Fo.iEnumL_i ?_) | (with_reducible refine Fo.iZip_i ?_) | (with_reducible refine Fo.iZip2_i ?_) | (with_reducible refine Fo.iZip3_i ?_) | (with_reducible refine Fo.asZ2_i ?_) | (with_reducible refine Fo.asZ3_i ?_) | (with_reducible refine Fo.iEnum1_i ?_) | (with_reducible refine Fo.asE1_i ?_) | (with_reducible refine Fo.nBin_i ?_) | (with_reducible refine Fo.sAugX_i ?_) | (with_reducible refine Fo.sFor_i ?_) | (with_reducible refine Fo.nLC_i ?_) | (with_reducible refine Fo.mCall_i ?_) | (with_reducible refine Fo.mCallK_i ?_) | (with_reducible refine Fo.gVar_i ?_) | (with_reducible refine Fo.gTupM_i ?_) | (with_reducible refine Fo.gsCons_i ?_) | (with_reducible refine Fo.gsNil_i ?_) | (with_reducible refine Fo.gIx_i ?_) | (with_reducible refine Fo.asB_i ?_) | (with_reducible refine Fo.asI_i ?_) | (with_reducible refine Fo.asS_i ?_) | (with_reducible refine Fo.oNo_i ?_) | (with_reducible refine Fo.oAt_i ?_) | (with_reducible refine Fo.asI1_i ?_) | (with_reducible refine Fo.asI2_i ?_) | (with_reducible refine Fo.asL1_i ?_) | (with_reducible refine Fo.rd_v ?_) | (with_reducible refine Fo.par_i ?_) | (with_reducible refine Fo.vals_n ?_) | (with_reducible refine Fo.vals_c ?_) | (with_reducible refine Fo.rds_n ?_) | (with_reducible refine Fo.rds_c ?_) | (with_reducible refine Fo.add_i ?_) | (with_reducible refine Fo.iadd_i ?_) | (with_reducible refine Fo.sub_i ?_) | (with_reducible refine Fo.lt_i ?_) | (with_reducible refine Fo.le_i ?_) | (with_reducible refine Fo.gt_i ?_) | (with_reducible refine Fo.ge_i ?_) | (with_reducible refine Fo.lt_s ?_) | (with_reducible refine Fo.le_s ?_) | (with_reducible refine Fo.gt_s ?_) | (with_reducible refine Fo.ge_s ?_) | (with_reducible refine Fo.is_n ?_) | (with_reducible refine Fo.is_b ?_) | (with_reducible refine Fo.eq_i ?_) | (with_reducible refine Fo.eq_s ?_) | (with_reducible refine Fo.eq_b ?_) | (with_reducible refine Fo.in_s ?_) | (with_reducible refine Fo.sl_t ?_) | (with_reducible refine Fo.sl_l ?_) | (with_reducible refine Fo.sl_c ?_) | (with_reducible refine Fo.len_l ?_) | (with_reducible refine Fo.len_t ?_) | (with_reducible refine Fo.min2_i ?_) | (with_reducible refine Fo.tuple_l ?_) | (with_reducible refine Fo.tuple_t ?_) | (with_reducible refine Fo.listF_l ?_) | (with_reducible refine Fo.listF_t ?_) | (with_reducible refine Fo.itV_l ?_) | (with_reducible refine Fo.itV_t ?_) | (with_reducible refine Fo.itV_s ?_) | (with_reducible refine Fo.asZ_l ?_) | (with_reducible refine Fo.asZ_t ?_) | (with_reducible refine Fo.lstW_v ?_) | (with_reducible refine Fo.rev_t ?_) | (with_reducible refine Fo.rev_l ?_) | (with_reducible refine Fo.seqW_l ?_) | (with_reducible refine Fo.seqW_t ?_) | (with_reducible refine Fo.seqW_s ?_) | (with_reducible refine Fo.nostrict ?_) | (with_reducible refine Fo.int1_b ?_) | (with_reducible refine Fo.int1_i ?_) | ((with_reducible refine Fo.mVar_i (w := ?_) ?_ ?_); (rotate_left); (exact rfl)) | ((with_reducible refine Fo.rd_l (l := ?_) ?_ ?_); (rotate_left); (exact rfl)) | ((with_reducible refine Fo.lstW_r (l := ?_) ?_ ?_); (rotate_left); (exact rfl)) | ((with_reducible refine Fo.sAug_i (w := ?_) ?_ ?_); (rotate_left); (exact rfl)) | ((with_reducible refine Fo.asCell_i (l := ?_) ?_ ?_); (rotate_left); (exact rfl)) | ((with_reducible refine Fo.mFrz_v (d := ?_) ?_ ?_); (rotate_left); (exact rfl)) | ((with_reducible refine Fo.rd_d (ks := ?_) (ws := ?_) ?_ ?_); (rotate_left 2); (exact rfl)) | ((with_reducible refine Fo.mFrz_r (n := ?_) (l := ?_) ?_ ?_ ?_); (rotate_left 2); (exact rfl); (exact rfl)) | ((with_reducible refine Fo.gput_i (p := ?_) ?_ ?_); (rotate_left); (exact rfl)) | ((with_reducible refine Fo.mod_i ?_ ?_); (omega)) | ((with_reducible refine Fo.pow_i ?_ ?_); (exact ⟨by omega, by omega, by omega⟩)) | ((with_reducible refine Fo.mul_i ?_ ?_); (unfold L2.CMul; omega)) | ((with_reducible refine Fo.fdiv_i ?_ ?_); (unfold L2.CDiv; omega)) | (with_reducible refine Fo.if_t rfl ?_) | (with_reducible refine Fo.if_f rfl ?_) | (with_reducible refine Fo.fin_v ?_) | (dsimp only) | (with_reducible refine Fo.ix_t0 ?_) | (with_reducible refine Fo.ix_t1 ?_) | (with_reducible refine Fo.ix_t2 ?_) | (with_reducible refine Fo.ix_l0 ?_) | (with_reducible refine Fo.ix_l1 ?_) | (with_reducible refine Fo.ix_l2 ?_) | (with_reducible refine Fo.ix_l3 ?_) | ((with_reducible refine And.intro ?_ ?_); ((try simp only [List.length_append, List.length_cons, List.length_nil, List.length_reverse]); (try unfold PySem.sizeLine); omega)) | ((with_reducible refine Fo.add_l ?_ ?_); ((try simp only [List.length_append, List.length_cons, List.length_nil, List.length_reverse]); (try unfold PySem.sizeLine); omega)) | ((with_reducible refine Fo.addN_l ?_ ?_); ((try simp only [List.length_append, List.length_cons, List.length_nil, List.length_reverse]); (try unfold PySem.sizeLine); omega)) | ((with_reducible refine Fo.add_t ?_ ?_); ((try simp only [List.length_append, List.length_cons, List.length_nil, List.length_reverse]); (try unfold PySem.sizeLine); omega)) | ((with_reducible refine Fo.add_s ?_ ?_); ((try simp only [List.length_append, List.length_cons, List.length_nil, List.length_reverse]); (try unfold PySem.sizeLine); omega)) | ((with_reducible refine Fo.append_i ?_ ?_); ((try simp only [List.length_append, List.length_cons, List.length_nil, List.length_reverse]); (try unfold PySem.sizeLine); omega)) | ((with_reducible refine Fo.sl_s ?_ ?_); ((try simp only [List.length_append, List.length_cons, List.length_nil, List.length_reverse]); (try unfold PySem.sizeLine); omega)) | ((with_reducible refine Fo.len_s ?_ ?_); ((try simp only [List.length_append, List.length_cons, List.length_nil, List.length_reverse]); (try unfold PySem.sizeLine); omega)) | ((with_reducible refine Fo.rev_s ?_ ?_); ((try simp only [List.length_append, List.length_cons, List.length_nil, List.length_reverse]); (try unfold PySem.sizeLine); omega)) | (with_reducible refine Fo.mDct0_i ?_) | (with_reducible refine Fo.mDct1_i ?_) | (with_reducible refine Fo.mDct3_i ?_) | (with_reducible refine Fo.mDGet_i ?_) | (with_reducible refine Fo.mDGet2_i ?_) | (with_reducible refine Fo.sDPut_i ?_) | (with_reducible refine Fo.mDNew_i ?_) | (with_reducible refine Fo.mDNew1_i ?_) | (with_reducible refine Fo.mDGetT_i ?_) | (with_reducible refine Fo.sDPutT_i ?_) | (with_reducible refine Fo.mDNewT_i ?_) | (with_reducible refine Fo.sPar3_i ?_) | (with_reducible refine Fo.par3_i ?_) | (with_reducible refine Fo.asDic_v ?_) | (with_reducible refine Fo.keyW_i ?_) | (with_reducible refine Fo.keyW_s ?_) | ((with_reducible refine Fo.asDic_r (ks := ?_) (ws := ?_) ?_ ?_); (rotate_left 2); (exact rfl)) | ((with_reducible refine Fo.dicC_r (ks := ?_) (ws := ?_) ?_ ?_); (rotate_left 2); (exact rfl)) | ((with_reducible refine Fo.add_s ?_ ?_); (first | exact Nat.le_of_ble_eq_true rfl | (unfold PySem.sizeLine; omega) | omega)) | ((with_reducible refine Fo.len_s ?_ ?_); (first | exact Nat.le_of_ble_eq_true rfl | (unfold PySem.sizeLine; omega) | omega)) | ((with_reducible refine Fo.iadd_s ?_ ?_); (first | exact Nat.le_of_ble_eq_true rfl | (unfold PySem.sizeLine; omega) | omega)) | (with_reducible refine Fo.mIxW_i ?_) | (with_reducible refine Fo.asLws_i ?_) | (with_reducible refine Fo.mLws_i ?_) | (with_reducible refine Fo.mOrT_i ?_) | ((with_reducible refine Fo.dct3_i ?_ ?_); (exact ⟨by decide, by decide, by decide⟩))))
local macro_rules | `(tactic| false_or_by_contra) => `(tactic| ((try dsimp only); (with_reducible refine Fo.sSeq_i ?_); subst_eqs))
namespace Fo
open PySem PySem.Spec PyProof.Rows L2
theorem enumL_map2 {α : Type} {f : α → D} (l : List α) (i : Nat) : enumL i (l.map f) = (l.zipIdx i).map fun p => .tup [.int (p.2 : Nat), f p.1] := enumL_map l i
theorem t_any_frame {m : Nat} {p : Ob} {sg : List Nat} {rows : List (List Rdr)} {most : Nat} {k : KW} (hp : Pen m p) (hm : m < 500000000) (h : ∀ row ∈ rows, RowS sg row) (hw3 : ∀ row ∈ rows, row.length ≤ 3) (h1 : rows ≠ []) (h3 : rows.length ≤ 3) (s1 : sg ≠ []) (s9 : sg.length ≤ 93)
    (head : ∃ r rs, rows.head? = some (r :: rs) ∧ r.reads = sg) (m4 : most ≤ 4)
    (hk : ∀ f p', FrmOk sg rows f → f.holes.length ≤ most → Pen (m + 20000) p' → k (.val (frmD f)) [p']) : t__law_any_frame [.ref 0, .val (.tup (rows.map rowD)), .val (.int (most : Nat))] [p] k := by
  unfold t__law_any_frame
  refine mfun_of ?_
  obtain ⟨r0, rs0, eh, ers⟩ := head
  obtain ⟨rows', erows⟩ : ∃ rows', rows = (r0 :: rs0) :: rows' := by
    cases rows with
    | nil => cases eh
    | cons a l =>
      injection eh with eh
      exact ⟨l, by rw [eh]⟩
  have r1 : 1 ≤ rows.length := List.length_pos_iff.mpr h1
  have e1 : atI (rows.map rowD) 0 = some (.tup ((r0 :: rs0).map rdrD)) := atI_nat (n := 0) (by rw [erows]; rfl)
  have e2 : atI ((r0 :: rs0).map rdrD) 0 = some (.tup [.str sg, .str r0.tells, .tup (r0.sts.map sttD)]) := atI_nat (n := 0) (by rw [← ers]; rfl)
  false_or_by_contra
  refine ix_t e1 ?_
  subst_eqs
  refine ix_t e2 ?_
  subst_eqs
  refine call_1 rfl rfl hp.nd (t_take hp (by omega) (by omega) (by omega) fun q1 p1 b0 b1 hp1 => ⟨p1, [], rfl, ?_⟩) m__law_take
  obtain ⟨ofn, rfl⟩ : ∃ ofn : Nat, q1 = (ofn : Nat) := ⟨q1.toNat, by omega⟩
  subst_eqs
  false_or_by_contra
  refine lc_map rowD (fun row => qsD (List.replicate row.length 0)) rows (by unfold sizeLine; omega) (fun row hr acc K ha hK => ?_) ?_
  · have rr := h row hr
    have z3 := List.length_pos_iff.mpr rr.g.ne
    have z4 := rr.g.l4
    rw [show rowD row = .tup (row.map rdrD) from rfl]
    subst_eqs
    refine mul_t ⟨by simp, by show 1 ≤ 1000; omega, by rw [List.length_map]; omega, by rw [List.length_map]; omega⟩ ?_
    rw [List.length_map, Int.toNat_natCast, show (List.replicate row.length [D.int 0]).flatten = List.replicate row.length (D.int 0) by simp, rep_nat]
    exact lcput_i ha hK
  · rw [show (rows.map fun row => qsD (List.replicate row.length 0)) = (rows.map fun row => List.replicate row.length 0).map qsD by rw [List.map_map]; rfl]
    have hst0 : StOk rows (rows.map fun row => List.replicate row.length 0) := ⟨by rw [List.length_map], fun j row q e1 e2 => by
      rw [List.getElem?_map, e1] at e2
      injection e2 with e2
      subst e2
      exact qs_zero (h row (List.mem_of_getElem? e1)).g.row⟩
    generalize rows.map (fun row => List.replicate row.length 0) = st0 at hst0
    subst_eqs
    false_or_by_contra
    refine lcW_inv (fun r acc S => ∃ (a b : List (List Rdr)), r = a.map rowD ∧ b ++ a = rows ∧ acc = List.range' 2 b.length ∧ S = p1 :: .lst (st0.map qsD) :: b.map (fun _ => Ob.lst [.str []])) ?_ ?_ _ _ _ ?_
    · rintro acc S ⟨a, b, hr, hab, rfl, rfl⟩
      have a0 : a = [] := by
        cases a with
        | nil => rfl
        | cons c cs => cases hr
      subst a0
      rw [List.append_nil] at hab
      have hab' := hab.symm
      subst hab'
      subst_eqs
      have eS : (p1 :: .lst (st0.map qsD) :: rows.map (fun _ => Ob.lst [.str []])) ++ [Ob.lst []] ++ [Ob.lst []] = FS p1 st0 (rows.map fun _ => [[]]) [] [] := by
        unfold FS
        simp [Function.comp]
      have eL1 : (p1 :: .lst (st0.map qsD) :: rows.map (fun _ => Ob.lst [.str []])).length = 2 + rows.length := by
        rw [List.length_cons, List.length_cons, List.length_map]
        omega
      have eL2 : ((p1 :: .lst (st0.map qsD) :: rows.map (fun _ => Ob.lst [.str []])) ++ [Ob.lst []]).length = 3 + rows.length := by
        rw [List.length_append, eL1]
        show 2 + rows.length + 1 = _
        omega
      rw [eS, eL2, eL1]
      have hdu0 : DuOk sg rows [] (fun _ => 0) (rows.map fun _ => [[]]) := ⟨by rw [List.length_map], fun j d row e1 e2 => by
        rw [List.getElem?_map, e2] at e1
        injection e1 with e1
        subst e1
        exact ⟨rfl, fun t ht => by
          rw [List.mem_singleton.mp ht]
          exact ⟨fun c hc => (by cases hc), Nat.le_refl _⟩⟩⟩
      generalize (rows.map fun _ => [[]]) = du0 at hdu0
      refine sSeq_cut (fun ρ S => ∃ (x4 x10 x11 x12 x13 x14 x16 : Option W) (p' : Ob) (st : List (List Nat)) (du : List (List (List Nat))) (pc : List (List Nat)) (hl : List (Nat × Lot)),
        ρ = [some (.ref 0), some (.val (.tup (rows.map rowD))), some (.val (.int (most : Nat))), some (.ref 1), x4, some (.lws (List.range' 2 rows.length)), some (.val (.str sg)), some (.val (.int (ofn : Nat))), some (.ref (2 + rows.length)), some (.ref (3 + rows.length)), x10, x11, x12, x13, x14, none, x16, none] ∧
        S = FS p' st du pc hl ∧ Pen (m + 16000) p' ∧ StOk rows st ∧ DuOk sg rows hl (fun _ => 600) du ∧ pc.length = ofn + 1 ∧ (∀ t ∈ pc, PieceT sg t) ∧ hl.length = ofn ∧ ∀ x ∈ hl, HoleOk sg rows x) ?_ ?_
      · rintro ρ S ⟨x4, x10, x11, x12, x13, x14, x16, p', st, du, pc, hl, rfl, rfl, hp', hst, hdu, hpc, hpt, hhl, hho⟩
        refine sSeq_cut (fun ρ S => ∃ (x11 x12 : Option W) (du : List (List (List Nat))), ρ = [some (.ref 0), some (.val (.tup (rows.map rowD))), some (.val (.int (most : Nat))), some (.ref 1), x4, some (.lws (List.range' 2 rows.length)), some (.val (.str sg)), some (.val (.int (ofn : Nat))), some (.ref (2 + rows.length)), some (.ref (3 + rows.length)), x10, x11, x12, x13, x14, none, x16, none] ∧ S = FS p' st du pc hl ∧ DuOk sg rows hl (fun _ => 700) du) ?_ ?_
        · rintro ρ S ⟨x11, x12, du, rfl, rfl, hdu⟩
          refine sSeq_cut (fun ρ S => ∃ (x11 : Option W) (p5 : Ob) (du : List (List (List Nat))), ρ = [some (.ref 0), some (.val (.tup (rows.map rowD))), some (.val (.int (most : Nat))), some (.ref 1), x4, some (.lws (List.range' 2 rows.length)), some (.val (.str sg)), some (.val (.int (ofn : Nat))), some (.ref (2 + rows.length)), some (.ref (3 + rows.length)), x10, x11, x12, x13, x14, none, x16, none] ∧ S = FS p5 st du pc hl ∧ Pen (m + 17000) p5 ∧ DuOk sg rows hl (fun _ => 700) du) ?_ ?_
          · rintro ρ S ⟨x11, p5, du, rfl, rfl, hp5, hdu⟩
            have hR := hdu.len
            false_or_by_contra
            refine mFrzL_i rfl ?_
            rw [show List.range' 2 rows.length = List.range' ([p5, Ob.lst (st.map qsD)] : Sto).length du.length by rw [hR]; rfl]
            unfold FS
            refine frz_cells du [p5, Ob.lst (st.map qsD)] [Ob.lst (pc.map D.str), .lst (hl.map holeD)] _ ?_
            subst_eqs
            refine lc_map (fun d : List (List Nat) => D.lst (d.map D.str)) (fun d => dueD (d.map (List.take 20))) du (by rw [hR]; unfold sizeLine; omega) (fun d hd acc K ha hK => ?_) ?_
            · have dl : d.length ≤ 100 ∧ ∀ t ∈ d, t.length ≤ 700 := by
                obtain ⟨j, hj, rfl⟩ := List.getElem_of_mem hd
                have dok := hdu.ok j du[j] (rows[j]'(by omega)) (List.getElem?_eq_getElem hj) (List.getElem?_eq_getElem (by omega))
                have cle : cntH hl j ≤ hl.length := List.countP_le_length
                exact ⟨by rw [dok.len]; omega, fun t ht => (dok.tx t ht).2⟩
              subst_eqs
              refine lc_map D.str (fun t => D.str (t.take 20)) d (by have := dl.1; unfold sizeLine; omega) (fun t ht acc2 K2 ha2 hK2 => ?_) ?_
              · have tl := dl.2 t ht
                subst_eqs
                rw [show (some (20 : Int)) = some ((20 : Nat) : Int) from rfl, cutL_none]
                exact lcput_i ha2 hK2
              · subst_eqs
                refine lcput_i ha ?_
                rw [show (d.map fun t => D.str (t.take 20)) = (d.map (List.take 20)).map D.str by rw [List.map_map]; rfl]
                exact hK
            · subst_eqs
              refine rd_l (l := pc.map D.str) ?_ ?_
              · show (p5 :: Ob.lst (st.map qsD) :: (List.replicate du.length Ob.dead ++ [Ob.lst (pc.map D.str), .lst (hl.map holeD)]))[2 + rows.length]? = _
                rw [show 2 + rows.length = du.length + 2 by omega]
                show (List.replicate du.length Ob.dead ++ [Ob.lst (pc.map D.str), .lst (hl.map holeD)])[du.length]? = _
                rw [List.getElem?_append_right (by rw [List.length_replicate]; exact Nat.le_refl _), List.length_replicate, Nat.sub_self]
                rfl
              · subst_eqs
                refine rd_l (l := hl.map holeD) ?_ ?_
                · show (p5 :: Ob.lst (st.map qsD) :: (List.replicate du.length Ob.dead ++ [Ob.lst (pc.map D.str), .lst (hl.map holeD)]))[3 + rows.length]? = _
                  rw [show 3 + rows.length = (du.length + 1) + 2 by omega]
                  show (List.replicate du.length Ob.dead ++ [Ob.lst (pc.map D.str), .lst (hl.map holeD)])[du.length + 1]? = _
                  rw [List.getElem?_append_right (by rw [List.length_replicate]; omega), List.length_replicate, show du.length + 1 - du.length = 1 by omega]
                  rfl
                · subst_eqs
                  have := hk ⟨pc, hl, du.map fun d => d.map (List.take 20)⟩ p5 ⟨by rw [hpc, hhl], hpt, hho, by show (du.map _).length = _; rw [List.length_map]; exact hR, fun j d row e1 e2 => ?_⟩ (by show hl.length ≤ most; omega) (hp5.mono (by omega))
                  · unfold frmD at this
                    rw [show (⟨pc, hl, du.map fun d => d.map (List.take 20)⟩ : Frm).dues.map dueD = du.map fun d => dueD (d.map (List.take 20)) by rw [List.map_map]; rfl] at this
                    exact this
                  · have e1 : (du.map fun d => d.map (List.take 20))[j]? = some d := e1
                    rw [List.getElem?_map] at e1
                    cases ed : du[j]? with
                    | none => rw [ed] at e1; cases e1
                    | some d0 =>
                      rw [ed] at e1
                      injection e1 with e1
                      subst e1
                      have dok := hdu.ok j d0 row ed e2
                      refine ⟨by rw [List.length_map]; exact dok.len, fun t ht => ?_⟩
                      obtain ⟨t0, ht0, rfl⟩ := List.mem_map.mp ht
                      exact ⟨fun c hc => (dok.tx t0 ht0).1 c (List.mem_of_mem_take hc), by rw [List.length_take]; omega⟩
          · intro K2 hK2
            subst_eqs
            refine call_1 rfl rfl hp'.nd (t_take hp' (by omega) (by omega) (by omega) fun q5 p5 c0 c1 hp5 => ⟨p5, [], rfl, ?_⟩) m__law_take
            rw [fs_set_p]
            subst_eqs
            refine if_df (fun _ => ?_) fun _ => ?_
            · subst_eqs
              refine call_1 rfl rfl hp5.nd (t_take hp5 (by rw [List.length_map]; omega) (by rw [List.length_map]; omega) (by omega) fun q6 p6 d0 d1 hp6 => ⟨p6, [], rfl, ?_⟩) m__law_take
              rw [fs_set_p]
              rw [List.length_map] at d1
              obtain ⟨j, rfl⟩ : ∃ j : Nat, q6 = (j : Nat) := ⟨q6.toNat, by omega⟩
              have hjR : j < rows.length := by omega
              obtain ⟨row, er⟩ : ∃ row, rows[j]? = some row := ⟨_, List.getElem?_eq_getElem hjR⟩
              have rr := h row (List.mem_of_getElem? er)
              obtain ⟨ri, rl, rfl⟩ : ∃ ri rl, row = ri ++ [rl] := by
                rcases List.eq_nil_or_concat row with e | ⟨a, b, e⟩
                · exact absurd e rr.g.ne
                · exact ⟨a, b, by rw [e, List.concat_eq_append]⟩
              have rsm := rr.small rl (by simp)
              have rt3 := rsm.t3
              obtain ⟨d, ed⟩ : ∃ d, du[j]? = some d := ⟨_, List.getElem?_eq_getElem (by rw [hdu.len]; exact hjR)⟩
              have dok := hdu.ok j d _ ed er
              obtain ⟨init, u, rfl⟩ := dok.split
              subst_eqs
              refine ix_t (x := (j : Int)) (atI_nat (x := rowD (ri ++ [rl])) (by rw [List.getElem?_map, er]; rfl)) ?_
              unfold rowD
              rw [List.map_append]
              subst_eqs
              refine ix_t (x := -1) (d := rdrD rl) atI_last ?_
              unfold rdrD
              subst_eqs
              refine call_1 rfl rfl hp6.nd (t_some_text hp6 rsm.t0 (by omega) (by omega) (by omega) (by omega) fun v p7 v1 v2 hp7 => ⟨p7, [], rfl, ?_⟩) m__law_some_text
              rw [fs_set_p]
              subst_eqs
              refine nthN_i (nth_ns hjR) ?_
              subst_eqs
              refine asCell_i (fs_du ed) ?_
              subst_eqs
              refine gput_i (p := init.length) (by rw [List.length_map, List.length_append]; exact ixN_last) ?_
              rw [set_last D.str, fs_set_du (List.getElem?_eq_some_iff.mp ed).1]
              exact hK2 _ _ ⟨_, p7, _, rfl, rfl, hp7.mono (by omega), hdu.set er (DueT.last dok (Nat.le_refl _) ⟨fun c hc => by rw [lastT_snoc]; exact v1 c hc, by omega⟩) fun _ _ => ⟨Nat.le_refl _, rfl⟩⟩
            · subst_eqs
              exact hK2 _ _ ⟨_, p5, _, rfl, rfl, hp5.mono (by omega), hdu⟩
        · intro K2 hK2
          subst_eqs
          rw [enumL_map2]
          refine for_ix (fun q : List Rdr × Nat => D.tup [.int (q.2 : Nat), rowD q.1]) (fun k ρ S => ∃ (x11 x12 : Option W) (du : List (List (List Nat))),
              ρ = [some (.ref 0), some (.val (.tup (rows.map rowD))), some (.val (.int (most : Nat))), some (.ref 1), x4, some (.lws (List.range' 2 rows.length)), some (.val (.str sg)), some (.val (.int (ofn : Nat))), some (.ref (2 + rows.length)), some (.ref (3 + rows.length)), x10, x11, x12, x13, x14, none, x16, none] ∧ S = FS p' st du pc hl ∧ DuOk sg rows hl (fun j' => if j' < k then 700 else 600) du) rows.zipIdx ?_ ?_ ⟨_, _, du, rfl, rfl, hdu.mono fun j' _ => by rw [if_neg (Nat.not_lt_zero _)]; exact Nat.le_refl _⟩
          · rintro ρ S ⟨x11, x12, du, rfl, rfl, hdu⟩
            rw [List.length_zipIdx] at hdu
            exact hK2 _ _ ⟨_, _, du, rfl, rfl, hdu.mono fun j' hj' => by rw [if_pos hj']; exact Nat.le_refl _⟩
          · rintro k' ⟨row, kk⟩ hk' ρ S K3 hK3 ⟨x11, x12, du, rfl, rfl, hdu⟩
            obtain ⟨er, ek⟩ := zipIdx_get hk'
            dsimp only at er ek
            subst ek
            have hkR : kk < rows.length := (List.getElem?_eq_some_iff.mp er).1
            have rr := h row (List.mem_of_getElem? er)
            have rw3 := hw3 row (List.mem_of_getElem? er)
            obtain ⟨q, eq⟩ : ∃ q, st[kk]? = some q := ⟨_, List.getElem?_eq_getElem (by rw [hst.len]; exact hkR)⟩
            obtain ⟨d, ed⟩ : ∃ d, du[kk]? = some d := ⟨_, List.getElem?_eq_getElem (by rw [hdu.len]; exact hkR)⟩
            have qok := hst.ok kk row q er eq
            have dok := hdu.ok kk d row ed er
            rw [if_neg (Nat.lt_irrefl _)] at dok
            obtain ⟨init, u, rfl⟩ := dok.split
            have p27 : 3 ^ row.length ≤ 27 := Nat.pow_le_pow_right (n := 3) (by decide) rw3
            have ul : u.length ≤ 600 := (dok.tx u (by simp)).2
            have uc := (dok.tx u (by simp)).1
            have fin : ∀ (x11 x12 : Option W) (y : List Nat), y.length ≤ 54 → (∀ c ∈ y, c ∈ lastT sg row) → K3 [some (.ref 0), some (.val (.tup (rows.map rowD))), some (.val (.int (most : Nat))), some (.ref 1), x4, some (.lws (List.range' 2 rows.length)), some (.val (.str sg)), some (.val (.int (ofn : Nat))), some (.ref (2 + rows.length)), some (.ref (3 + rows.length)), x10, x11, x12, x13, x14, none, x16, none] (FS p' st (du.set kk (init ++ [u ++ y])) pc hl) := fun x11 x12 y y1 y2 => by
              refine hK3 _ _ ⟨_, _, _, rfl, rfl, hdu.set er (DueT.last dok (by show _ ≤ if kk < kk + 1 then _ else _; rw [if_pos (Nat.lt_succ_self _)]; omega) ⟨fun c hc => ?_, ?_⟩) fun j' hj' => ⟨?_, rfl⟩⟩
              · rcases List.mem_append.mp hc with hc | hc
                · exact uc c hc
                · exact y2 c hc
              · show _ ≤ if kk < kk + 1 then _ else _
                rw [if_pos (Nat.lt_succ_self _), List.length_append]
                omega
              · split <;> split <;> omega
            subst_eqs
            refine nthN_i (nth_ns hkR) ?_
            subst_eqs
            refine rd_l (fs_du ed) ?_
            subst_eqs
            refine ix_l (x := -1) (d := .str u) (by rw [List.map_append]; exact atI_last) ?_
            subst_eqs
            refine ix_l (x := (kk : Int)) (atI_nat (x := qsD q) (by rw [List.getElem?_map, eq]; rfl)) ?_
            subst_eqs
            refine call_0 rfl (t_law_row_end_ok rr.g.row qok (by omega) ?_) m__law_row_end
            cases ho : rowEnd row q [] with
            | none =>
              rw [show optD none = .non from rfl]
              subst_eqs
              refine nthN_i (nth_ns hkR) ?_
              subst_eqs
              refine asCell_i (fs_du ed) ?_
              subst_eqs
              refine gput_i (p := init.length) (by rw [List.length_map, List.length_append]; exact ixN_last) ?_
              rw [set_last D.str, fs_set_du (List.getElem?_eq_some_iff.mp ed).1]
              exact fin _ _ [] (Nat.zero_le _) fun c hc => (by cases hc)
            | some e =>
              rw [show optD (some e) = .str e from rfl]
              obtain ⟨z1, z2⟩ := end_told rr.g.row qok (fun c hc => by cases hc) ho
              have z3 : e.length ≤ 54 := by
                have := Nat.mul_le_mul_left 2 p27
                have z4 : e.length + 2 ≤ 2 * 3 ^ row.length := z1
                omega
              cases e with
              | nil =>
                subst_eqs
                refine nthN_i (nth_ns hkR) ?_
                subst_eqs
                refine asCell_i (fs_du ed) ?_
                subst_eqs
                refine gput_i (p := init.length) (by rw [List.length_map, List.length_append]; exact ixN_last) ?_
                rw [set_last D.str, fs_set_du (List.getElem?_eq_some_iff.mp ed).1]
                exact fin _ _ [] (Nat.zero_le _) fun c hc => (by cases hc)
              | cons c e =>
                rw [List.length_cons] at z3
                subst_eqs
                refine nthN_i (nth_ns hkR) ?_
                subst_eqs
                refine asCell_i (fs_du ed) ?_
                subst_eqs
                refine gput_i (p := init.length) (by rw [List.length_map, List.length_append]; exact ixN_last) ?_
                rw [set_last D.str, fs_set_du (List.getElem?_eq_some_iff.mp ed).1]
                exact fin _ _ (c :: e) z3 z2
      · intro KA hKA
        subst_eqs
        rw [show ((ofn : Int) + 1).toNat = ofn + 1 by omega, rangeL0]
        refine for_ix natD (fun i ρ S => ∃ (x4 x10 x11 x12 x13 x14 x16 : Option W) (p' : Ob) (st : List (List Nat)) (du : List (List (List Nat))) (pc : List (List Nat)) (hl : List (Nat × Lot)),
          ρ = [some (.ref 0), some (.val (.tup (rows.map rowD))), some (.val (.int (most : Nat))), some (.ref 1), x4, some (.lws (List.range' 2 rows.length)), some (.val (.str sg)), some (.val (.int (ofn : Nat))), some (.ref (2 + rows.length)), some (.ref (3 + rows.length)), x10, x11, x12, x13, x14, none, x16, none] ∧
          S = FS p' st du pc hl ∧ Pen (m + 10 + 3000 * i) p' ∧ StOk rows st ∧ DuOk sg rows hl (fun _ => 108 * i) du ∧ pc.length = i ∧ (∀ t ∈ pc, PieceT sg t) ∧ hl.length = min i ofn ∧ ∀ x ∈ hl, HoleOk sg rows x) (List.range (ofn + 1)) ?_ ?_ ?_
        · rintro ρ S ⟨x4, x10, x11, x12, x13, x14, x16, p', st, du, pc, hl, rfl, rfl, hp', hst, hdu, hpc, hpt, hhl, hho⟩
          rw [List.length_range] at hp' hdu hpc hhl
          exact hKA _ _ ⟨x4, x10, x11, x12, x13, x14, x16, p', st, du, pc, hl, rfl, rfl, hp'.mono (by omega), hst, hdu.mono fun _ _ => by omega, hpc, hpt, by omega, hho⟩
        · rintro i x hx ρ S K hK ⟨x4, x10, x11, x12, x13, x14, x16, p', st, du, pc, hl, rfl, rfl, hp', hst, hdu, hpc, hpt, hhl, hho⟩
          obtain ⟨hi, ex⟩ : i < ofn + 1 ∧ x = i := by
            have := (List.getElem?_eq_some_iff.mp hx).1
            rw [List.length_range] at this
            rw [List.getElem?_range this] at hx
            injection hx with hx
            exact ⟨this, hx.symm⟩
          subst ex
          have hR := hdu.len
          unfold natD
          refine gVar_i ?_
          refine sSeq_i (sExpr_i (mMethC_i (mVar_i rfl (asCell_i (fs_pc hR) ?_))))
          subst_eqs
          refine call_1 rfl rfl hp'.nd (t_some_text hp' s1 (by omega) (by omega) (by omega) (by omega) fun tx p2 ht1 ht2 hp2 => ⟨p2, [], rfl, ?_⟩) m__law_some_text
          rw [fs_set_p]
          subst_eqs
          refine asCell_i (fs_pc hR) (append_i (by rw [List.length_map]; unfold sizeLine; omega) ?_)
          rw [show pc.map D.str ++ [D.str tx] = (pc ++ [tx]).map D.str by rw [List.map_append]; rfl, fs_set_pc hR]
          false_or_by_contra
          refine call_1 rfl rfl hp2.nd (t_take hp2 (by rw [List.length_map]; omega) (by rw [List.length_map]; omega) (by omega) fun q2 p3 c0 c1 hp3 => ⟨p3, [], rfl, ?_⟩) m__law_take
          rw [fs_set_p]
          rw [List.length_map] at c1
          obtain ⟨mine, rfl⟩ : ∃ mine : Nat, q2 = (mine : Nat) := ⟨q2.toNat, by omega⟩
          subst_eqs
          false_or_by_contra
          refine rd_l (fs_pc hR) ?_
          subst_eqs
          refine ix_l (atI_nat (n := x) (x := D.str tx) (by rw [List.getElem?_map, List.getElem?_append_right (by omega), hpc, Nat.sub_self]; rfl)) ?_
          subst_eqs
          refine call_1 rfl rfl hp3.nd (t_some_text hp3 s1 (by omega) (by omega) (by omega) (by omega) fun tx2 p4 hu1 hu2 hp4 => ⟨p4, [], rfl, ?_⟩) m__law_some_text
          rw [fs_set_p]
          subst_eqs
          obtain ⟨parts, hcut, hparts, hpl⟩ : ∃ parts : List (List Nat), cutL [D.str tx, D.str tx2] none (some (1 + if decide ((x : Int) < ofn) = true then 1 else 0)) = parts.map D.str ∧ (∀ u ∈ parts, (∀ c ∈ u, c ∈ sg) ∧ u.length ≤ 2) ∧ parts.length ≤ 2 := by
            by_cases hx2 : (x : Int) < ofn
            · refine ⟨[tx, tx2], by rw [decide_eq_true hx2]; rfl, fun u hu => ?_, by simp⟩
              rcases List.mem_cons.mp hu with rfl | hu
              · exact ⟨ht1, by omega⟩
              · rw [List.mem_singleton.mp hu]
                exact ⟨hu1, by omega⟩
            · refine ⟨[tx], by rw [decide_eq_false hx2]; rfl, fun u hu => ?_, by simp⟩
              rw [List.mem_singleton.mp hu]
              exact ⟨ht1, by omega⟩
          rw [hcut, enumL_map2]
          refine for_ix (fun q : List Nat × Nat => D.tup [.int (q.2 : Nat), .str q.1]) (fun j ρ S => ∃ (x11 x12 x13 x14 x16 : Option W) (st : List (List Nat)) (du : List (List (List Nat))),
            ρ = [some (.ref 0), some (.val (.tup (rows.map rowD))), some (.val (.int (most : Nat))), some (.ref 1), some (.val (.int (x : Nat))), some (.lws (List.range' 2 rows.length)), some (.val (.str sg)), some (.val (.int (ofn : Nat))), some (.ref (2 + rows.length)), some (.ref (3 + rows.length)), some (.val (.int (mine : Nat))), x11, x12, x13, x14, none, x16, none] ∧ S = FS p4 st du (pc ++ [tx]) hl ∧ StOk rows st ∧ DuOk sg rows hl (fun _ => 108 * x + 54 * j) du) parts.zipIdx ?_ ?_ ⟨_, _, _, _, _, st, du, rfl, rfl, hst, hdu⟩
          · rintro ρ S ⟨x11, x12, x13, x14, x16, st, du, rfl, rfl, hst, hdu⟩
            rw [List.length_zipIdx] at hdu
            dsimp only
            by_cases hof : (x : Int) < (ofn : Int)
            · have hxo : x < ofn := by omega
              obtain ⟨row, er⟩ : ∃ row, rows[mine]? = some row := ⟨_, List.getElem?_eq_getElem (by omega)⟩
              have hmR : mine < rows.length := by omega
              have rr := h row (List.mem_of_getElem? er)
              obtain ⟨ri, rl, rfl⟩ : ∃ ri rl, row = ri ++ [rl] := by
                rcases List.eq_nil_or_concat row with e | ⟨a, b, e⟩
                · exact absurd e rr.g.ne
                · exact ⟨a, b, by rw [e, List.concat_eq_append]⟩
              have rsm := rr.small rl (by simp)
              have rok := rows_ok rr.g.row rl (by simp)
              have rt3 := rsm.t3
              refine sIf_i ?_
              subst_eqs
              refine if_t (decide_eq_true hof) ?_
              refine sSeq_i (sExpr_i (mMethC_i (mVar_i rfl (asCell_i (fs_hl hdu.len) ?_))))
              subst_eqs
              refine ix_t (x := (mine : Int)) (atI_nat (x := rowD (ri ++ [rl])) (by rw [List.getElem?_map, er]; rfl)) ?_
              unfold rowD
              rw [List.map_append]
              subst_eqs
              refine ix_t (x := -1) (d := rdrD rl) atI_last ?_
              unfold rdrD
              subst_eqs
              refine call_1 rfl rfl hp4.nd (t_any_lot (size := 3) hp4 rok.st rsm.t0 (by omega) (by omega) (by omega) (by omega) fun l p5 lo1 lo2 lo3 lo4 lo5 lo6 hp5 => ⟨p5, [], rfl, ?_⟩) m__law_any_lot
              rw [fs_set_p]
              subst_eqs
              refine asCell_i (fs_hl hdu.len) (append_i (by rw [List.length_map]; unfold sizeLine; omega) ?_)
              rw [show hl.map holeD ++ [D.tup [.int (mine : Nat), lotD l]] = (hl ++ [(mine, l)]).map holeD by rw [List.map_append]; rfl, fs_set_hl hdu.len]
              obtain ⟨d, ed⟩ : ∃ d, du[mine]? = some d := ⟨_, List.getElem?_eq_getElem (by rw [hdu.len]; exact hmR)⟩
              have dok := hdu.ok mine d _ ed er
              have dl := dok.len
              have cle : cntH hl mine ≤ hl.length := List.countP_le_length
              subst_eqs
              refine nthN_i (nth_ns hmR) ?_
              refine asCell_i (fs_du ed) ?_
              subst_eqs
              refine asCell_i (fs_du ed) (append_i (by rw [List.length_map]; unfold sizeLine; omega) ?_)
              rw [show d.map D.str ++ [D.str []] = (d ++ [[]]).map D.str by rw [List.map_append]; rfl, fs_set_du (List.getElem?_eq_some_iff.mp ed).1]
              have cadd : ∀ j', cntH (hl ++ [(mine, l)]) j' = cntH hl j' + if mine = j' then 1 else 0 := fun j' => by
                unfold cntH
                rw [List.countP_append, List.countP_singleton]
                congr 1
                by_cases e : mine = j'
                · rw [if_pos e, if_pos (beq_iff_eq.mpr e)]
                · rw [if_neg e, if_neg (fun z => e (beq_iff_eq.mp z))]
              refine hK _ _ ⟨_, _, _, _, _, _, _, p5, st, _, pc ++ [tx], hl ++ [(mine, l)], rfl, rfl, hp5.mono (by omega), hst, hdu.set er ⟨by rw [List.length_append, dl, cadd, if_pos rfl]; rfl, fun t ht => ?_⟩ (fun j' hj' => ⟨by omega, by rw [cadd, if_neg fun z => hj' z.symm]; rfl⟩), by rw [List.length_append]; show pc.length + 1 = _; omega, fun t ht => ?_, by rw [List.length_append]; show hl.length + 1 = _; omega, fun y hy => ?_⟩
              · rcases List.mem_append.mp ht with ht | ht
                · exact ⟨(dok.tx t ht).1, Nat.le_trans (dok.tx t ht).2 (by omega)⟩
                · rw [List.mem_singleton.mp ht]
                  exact ⟨fun c hc => (by cases hc), Nat.zero_le _⟩
              · rcases List.mem_append.mp ht with ht | ht
                · exact hpt t ht
                · rw [List.mem_singleton.mp ht]
                  exact ⟨ht1, by omega⟩
              · rcases List.mem_append.mp hy with hy | hy
                · exact hho y hy
                · rw [List.mem_singleton.mp hy]
                  refine ⟨lo1, fun row' e' c hc => ?_, hmR, lo3, by show l.signs.length ≤ 9; omega, by show l.sts.length ≤ 6; omega, lo6⟩
                  have e2 : some row' = some (ri ++ [rl]) := e'.symm.trans er
                  injection e2 with e2
                  rw [e2, lastT_snoc]
                  exact lo2 c hc
            · refine sIf_i ?_
              subst_eqs
              refine if_f (decide_eq_false hof) ?_
              subst_eqs
              refine hK _ _ ⟨_, _, _, _, _, _, _, p4, st, _, pc ++ [tx], hl, rfl, rfl, hp4.mono (by omega), hst, hdu.mono (fun j' _ => by omega), by rw [List.length_append]; show pc.length + 1 = _; omega, fun t ht => ?_, by omega, hho⟩
              rcases List.mem_append.mp ht with ht | ht
              · exact hpt t ht
              · rw [List.mem_singleton.mp ht]
                exact ⟨ht1, by omega⟩
          · rintro j ⟨part, side⟩ hj ρ S K2 hK2 ⟨x11, x12, x13, x14, x16, st, du, rfl, rfl, hst, hdu⟩
            obtain ⟨e3, e4⟩ := zipIdx_get hj
            obtain ⟨pt1, pt2⟩ := hparts part (List.mem_of_getElem? e3)
            have hj2 : j < 2 := Nat.lt_of_lt_of_le (List.getElem?_eq_some_iff.mp e3).1 hpl
            subst_eqs
            rw [enumL_map2]
            refine for_ix (fun q : List Rdr × Nat => D.tup [.int (q.2 : Nat), rowD q.1]) (fun k ρ S => ∃ (x11 x12 x16 : Option W) (st : List (List Nat)) (du : List (List (List Nat))),
              ρ = [some (.ref 0), some (.val (.tup (rows.map rowD))), some (.val (.int (most : Nat))), some (.ref 1), some (.val (.int (x : Nat))), some (.lws (List.range' 2 rows.length)), some (.val (.str sg)), some (.val (.int (ofn : Nat))), some (.ref (2 + rows.length)), some (.ref (3 + rows.length)), some (.val (.int (mine : Nat))), x11, x12, some (.val (.int (side : Nat))), some (.val (.str part)), none, x16, none] ∧ S = FS p4 st du (pc ++ [tx]) hl ∧ StOk rows st ∧ DuOk sg rows hl (fun j' => if j' < k then 108 * x + 54 * (j + 1) else 108 * x + 54 * j) du) rows.zipIdx ?_ ?_ ⟨_, _, _, st, du, rfl, rfl, hst, hdu.mono fun j' _ => by rw [if_neg (Nat.not_lt_zero _)]; exact Nat.le_refl _⟩
            · rintro ρ S ⟨x11, x12, x16, st, du, rfl, rfl, hst, hdu⟩
              rw [List.length_zipIdx] at hdu
              exact hK2 _ _ ⟨_, _, _, _, _, st, du, rfl, rfl, hst, hdu.mono fun j' hj' => by rw [if_pos hj']; exact Nat.le_refl _⟩
            · rintro k' ⟨row, kk⟩ hk' ρ S K3 hK3 ⟨x11, x12, x16, st, du, rfl, rfl, hst, hdu⟩
              obtain ⟨er, ek⟩ := zipIdx_get hk'
              dsimp only at er ek
              subst ek
              have hkR : kk < rows.length := (List.getElem?_eq_some_iff.mp er).1
              have rr := h row (List.mem_of_getElem? er)
              have rw3 := hw3 row (List.mem_of_getElem? er)
              obtain ⟨q, eq⟩ : ∃ q, st[kk]? = some q := ⟨_, List.getElem?_eq_getElem (by rw [hst.len]; exact hkR)⟩
              obtain ⟨d, ed⟩ : ∃ d, du[kk]? = some d := ⟨_, List.getElem?_eq_getElem (by rw [hdu.len]; exact hkR)⟩
              have qok := hst.ok kk row q er eq
              have dok := hdu.ok kk d row ed er
              rw [if_neg (Nat.lt_irrefl _)] at dok
              obtain ⟨init, u, rfl⟩ := dok.split
              have p27 : 3 ^ row.length ≤ 27 := Nat.pow_le_pow_right (n := 3) (by decide) rw3
              obtain ⟨w1, w2⟩ := walk_told rr.g.row qok pt1
              have w1' : (rowWalk row q part).2.length ≤ 54 := Nat.le_trans w1 (Nat.mul_le_mul pt2 p27)
              have ul : u.length ≤ 108 * x + 54 * j := (dok.tx u (by simp)).2
              have uc := (dok.tx u (by simp)).1
              subst_eqs
              false_or_by_contra
              refine ix_l (x := (kk : Int)) (atI_nat (x := qsD q) (by rw [List.getElem?_map, eq]; rfl)) ?_
              subst_eqs
              refine call_0 rfl (t_law_row_on_ok rr.g.row qok pt1 (by omega) (Nat.le_trans (Nat.mul_le_mul (show part.length + 2 ≤ 4 by omega) p27) (by decide)) ?_) m__law_row_on
              subst_eqs
              refine gput_i (p := kk) (ixN_nat (by rw [List.length_map, hst.len]; exact hkR)) ?_
              rw [show (st.map qsD).set kk (qsD (rowWalk row q part).1) = (st.set kk (rowWalk row q part).1).map qsD by rw [List.map_set], fs_set_st]
              have hst2 := hst.set er (qs_walk rr.g.row qok pt1)
              subst_eqs
              refine nthN_i (nth_ns hkR) ?_
              subst_eqs
              refine rd_l (fs_du ed) ?_
              subst_eqs
              refine ix_l (x := -1) (d := .str u) (by rw [List.map_append]; exact atI_last) ?_
              subst_eqs
              refine or_any (fun z => ?_) fun k' hk'' => ?_
              · subst_eqs
                refine mulS_s (by cases z <;> decide) ?_
                obtain ⟨y, hy, y1, y2⟩ : ∃ y, y = (if (if z = true then (1 : Int) else 0) = 0 then [] else (rowWalk row q part).2) ∧ y.length ≤ 54 ∧ ∀ c ∈ y, c ∈ lastT sg row := by
                  refine ⟨_, rfl, ?_, ?_⟩
                  · cases z with
                    | true => exact w1'
                    | false => exact Nat.zero_le _
                  · cases z with
                    | true => exact w2
                    | false => exact fun c hc => (by cases hc)
                rw [← hy]
                subst_eqs
                refine nthN_i (nth_ns hkR) ?_
                subst_eqs
                refine asCell_i (fs_du ed) ?_
                subst_eqs
                refine gput_i (p := init.length) (by rw [List.length_map, List.length_append]; exact ixN_last) ?_
                rw [set_last D.str, fs_set_du (List.getElem?_eq_some_iff.mp ed).1]
                refine hK3 _ _ ⟨_, _, _, _, _, rfl, rfl, hst2, hdu.set er (DueT.last dok (by show _ ≤ if kk < kk + 1 then _ else _; rw [if_pos (Nat.lt_succ_self _)]; omega) ⟨fun c hc => ?_, ?_⟩) fun j' hj' => ⟨?_, rfl⟩⟩
                · rcases List.mem_append.mp hc with hc | hc
                  · exact uc c hc
                  · exact y2 c hc
                · show _ ≤ if kk < kk + 1 then _ else _
                  rw [if_pos (Nat.lt_succ_self _), List.length_append]
                  omega
                · split <;> split <;> omega
              · subst_eqs
                exact hk'' _
        · exact ⟨_, _, _, _, _, _, _, p1, st0, du0, [], [], rfl, rfl, hp1.mono (by omega), hst0, hdu0, rfl, fun t ht => (by cases ht), by rw [Nat.zero_min]; rfl, fun x hx => (by cases hx)⟩
    · rintro d r acc S K hK ⟨a, b, hr, hab, rfl, rfl⟩
      cases a with
      | nil => cases hr
      | cons x a =>
        injection hr with e3 e4
        subst e3 e4
        subst_eqs
        refine lcputW_i (by rw [List.length_range']; unfold sizeLine; have := congrArg List.length hab; rw [List.length_append] at this; omega) ?_
        refine hK _ _ ⟨a, b ++ [x], rfl, by rw [List.append_assoc]; exact hab, ?_, by rw [List.map_append]; rfl⟩
        rw [List.length_append, List.length_cons, List.length_cons, List.length_map]
        show _ = List.range' 2 (b.length + 1)
        rw [List.range'_1_concat]
        congr 2
        omega
    · exact ⟨rows, [], rfl, rfl, rfl, rfl⟩
end Fo
/-! Frm4: webs drawn; how heavy frames are. -/
-- v4
namespace Fo
open PySem PySem.Spec PyProof.Rows L2
theorem t_wide_web {m : Nat} {p : Ob} {nr often size most : Nat} {k : KW} (hp : Pen m p) (hm : m < 500000000) (n1 : 1 ≤ nr) (n3 : nr ≤ 3) (o0 : 1 ≤ often) (o8 : often ≤ 8) (s0 : 1 ≤ size) (s8 : size ≤ 8) (m0 : 1 ≤ most) (m3 : most ≤ 3)
    (hk : ∀ (sg : List Nat) (rows : List (List Rdr)) (p' : Ob), Sg sg → sg ≠ [] → sg.length ≤ 3 → 1 ≤ rows.length → rows.length ≤ nr → (∀ row ∈ rows, RowDrawn sg often size row) → Pen (m + 70000) p' → k (.val (.tup (rows.map rowD))) [p']) :
    t__law_wide_web [.ref 0, .val (.int (nr : Nat)), .val (.int (often : Nat)), .val (.int (size : Nat)), .val (.int (most : Nat))] [p] k := by
  unfold t__law_wide_web
  refine mfun_of ?_
  false_or_by_contra
  refine call_1 rfl rfl hp.nd (t_take hp (by omega) (by omega) (by omega) fun q1 p1 b0 b1 hp1 => ⟨p1, [], rfl, ?_⟩) m__law_take
  subst_eqs
  refine call_1 rfl rfl hp1.nd (t_some_signs2 hp1 (by omega) (by omega) (by omega) fun sg p2 hs h0 hl hp2 => ⟨p2, [], rfl, ?_⟩) m__law_some_signs_v2
  subst_eqs
  refine call_1 rfl rfl hp2.nd (t_take hp2 (by omega) (by omega) (by omega) fun q2 p3 c0 c1 hp3 => ⟨p3, [], rfl, ?_⟩) m__law_take
  obtain ⟨a, ha⟩ : ∃ a : Nat, 1 + q2 = (a : Int) := ⟨(1 + q2).toNat, by omega⟩
  subst_eqs
  rw [ha, Int.toNat_natCast]
  refine lc_inv (fun r acc S => ∃ (rows : List (List Rdr)) (p5 : Ob), acc = rows.map rowD ∧ (∀ row ∈ rows, RowDrawn sg often size row) ∧ S = [p5] ∧ Pen (m + 100 + 20000 * rows.length) p5 ∧ rows.length + r.length = a) ?_ ?_ _ _ _ ⟨[], p3, rfl, fun x hx => (by cases hx), rfl, hp3.mono (by omega), by rw [rangeL_length]; exact Nat.zero_add _⟩
  · rintro acc S ⟨rows, p5, rfl, hrows, rfl, hp5, hn5⟩
    rw [List.length_nil] at hn5
    subst_eqs
    exact hk sg rows p5 hs h0 (by omega) (by omega) (by omega) hrows (hp5.mono (by omega))
  · rintro d2 r acc S K2 hK2 ⟨rows, p5, rfl, hrows, rfl, hp5, hn5⟩
    rw [List.length_cons] at hn5
    subst_eqs
    refine call_1 rfl rfl hp5.nd (t_any_row (often := often) (size := size) (most := most) hp5 hs h0 (by omega) (by omega) (by omega) (by omega) (by omega) (by omega) (by omega) (by omega) fun row p6 hd hp6 => ⟨p6, [], rfl, ?_⟩) m__law_any_row
    subst_eqs
    refine lcput_i (by rw [List.length_map]; unfold sizeLine; omega) ?_
    refine hK2 _ _ ⟨rows ++ [row], p6, by rw [List.map_append]; rfl, fun x hx => ?_, rfl, hp6.mono (by rw [List.length_append]; show _ ≤ _ + 20000 * (rows.length + 1); omega), by rw [List.length_append]; show rows.length + 1 + _ = _; omega⟩
    rcases List.mem_append.mp hx with hx | hx
    · exact hrows x hx
    · rw [List.mem_singleton.mp hx]
      exact hd
structure WebS (sg : List Nat) (rows : List (List Rdr)) : Prop where
  s : ∀ row ∈ rows, RowS sg row
  w3 : ∀ row ∈ rows, row.length ≤ 3
  head : ∃ r rs, rows.head? = some (r :: rs) ∧ r.reads = sg
  ne : rows ≠ []
  l3 : rows.length ≤ 3
  so : Sg sg
  s0 : sg ≠ []
theorem web_S {sg : List Nat} {rows : List (List Rdr)} {often size : Nat} (hs : Sg sg) (s0 : sg ≠ []) (h1 : 1 ≤ rows.length) (h3 : rows.length ≤ 3) (o3 : often ≤ 3) (s8 : size ≤ 8) (h : ∀ row ∈ rows, RowDrawn sg often size row) : WebS sg rows := by
  refine ⟨fun row hr => ?_, fun row hr => Nat.le_trans (h row hr).len o3, ?_, List.length_pos_iff.mp h1, h3, hs, s0⟩
  · have dr := h row hr
    obtain ⟨r, rr, er, _⟩ := dr.head
    exact ⟨⟨dr.row, by rw [er]; simp, Nat.le_trans dr.len (by omega), hs⟩, fun r hr => by
      have := dr.small r hr
      exact ⟨this.r0, this.t0, this.r9, this.t3, by have := this.s8; omega⟩⟩
  · cases rows with
    | nil => cases h1
    | cons a l =>
      obtain ⟨r, rr, er, e2⟩ := (h a List.mem_cons_self).head
      exact ⟨r, rr, by rw [er]; rfl, e2⟩
theorem WebS.sg0 {sg : List Nat} {rows : List (List Rdr)} (h : WebS sg rows) : ∃ l1 r1, atI (rows.map rowD) 0 = some (.tup l1) ∧ atI l1 0 = some (.tup r1) ∧ atI r1 0 = some (.str sg) := by
  obtain ⟨r, rs, e1, e2⟩ := h.head
  obtain ⟨rows', erows⟩ : ∃ rows', rows = (r :: rs) :: rows' := by
    cases rows with
    | nil => cases e1
    | cons a l =>
      injection e1 with e1
      exact ⟨l, by rw [e1]⟩
  exact ⟨(r :: rs).map rdrD, [.str r.reads, .str r.tells, .tup (r.sts.map sttD)], atI_nat (n := 0) (by rw [erows]; rfl), atI_nat (n := 0) rfl, atI_nat (n := 0) (by rw [e2]; rfl)⟩
theorem web_bt {sg : List Nat} {rows : List (List Rdr)} {often size : Nat} (h3 : rows.length ≤ 3) (o3 : often ≤ 3) (s7 : size ≤ 7) (h : ∀ row ∈ rows, RowDrawn sg often size row) : Bt 7 (10 ^ 20) 37000 (.tup (rows.map rowD)) := by
  have z1 : BtL 6 (10 ^ 20) ((12020 + 2) * (rows.map rowD).length) (rows.map rowD) := BtL.of fun x hx => by
    obtain ⟨row, hr, rfl⟩ := List.mem_map.mp hx
    have dr := h row hr
    have y1 : BtL 5 (10 ^ 20) ((4000 + 2) * (row.map rdrD).length) (row.map rdrD) := BtL.of fun y hy => by
      obtain ⟨r, hr', rfl⟩ := List.mem_map.mp hy
      have ok := rows_ok dr.row r hr'
      have sm := dr.small r hr'
      have := sm.s8
      have := sm.t3
      exact rdr_bt ok.sr ok.st sm.r9 (by omega) (by omega) ok.sts (by decide) (by decide) (by omega) sm.r9
    have := dr.len
    rw [List.length_map] at y1
    exact y1.tup (by omega)
  rw [List.length_map] at z1
  exact z1.tup (by omega)
theorem frm_bt {sg : List Nat} {rows : List (List Rdr)} {f : Frm} (hw : WebS sg rows) (h : FrmOk sg rows f) (h4 : f.holes.length ≤ 4) : Bt 7 (10 ^ 20) 14000 (frmD f) := by
  have l3 := hw.l3
  have np := h.np
  have last : ∀ row ∈ rows, ∀ c ∈ lastT sg row, c < 256 := fun row hr c hc => pool_lt3 c (((hw.s row hr).g.row.lastSg hw.so).pool c hc)
  have z1 : BtL 4 (10 ^ 20) ((82 + 2) * (f.pieces.map D.str).length) (f.pieces.map D.str) := BtL.of fun x hx => by
    obtain ⟨t, ht, rfl⟩ := List.mem_map.mp hx
    have := (h.pc t ht).2
    exact Bt.str (fun c hc => pool_lt3 c (hw.so.pool c ((h.pc t ht).1 c hc))) (by omega)
  have z2 : BtL 5 (10 ^ 20) ((2640 + 2) * (f.holes.map holeD).length) (f.holes.map holeD) := BtL.of fun x hx => by
    obtain ⟨⟨j, l⟩, hh, rfl⟩ := List.mem_map.mp hx
    have ok := h.hl _ hh
    have lt := ok.lt
    have i1 : Bt 4 (10 ^ 20) 25 (natD j) := Bt.int (by show (j : Int).natAbs ≤ _; have : j < rows.length := lt; omega) (by decide)
    have i2 : Bt 4 (10 ^ 20) 2600 (lotD ⟨l.signs, l.sts⟩) := lot_bt ok.ok.sg ok.l9 (by have : l.sts.length ≤ 6 := ok.s6; omega) ok.ok.sts
    exact (BtL.cons i1 (BtL.cons i2 BtL.nil)).tup (by omega)
  have z3 : BtL 5 (10 ^ 20) ((430 + 2) * (f.dues.map dueD).length) (f.dues.map dueD) := BtL.of fun x hx => by
    obtain ⟨d, hd, rfl⟩ := List.mem_map.mp hx
    obtain ⟨j, hj, rfl⟩ := List.getElem_of_mem hd
    have nd := h.nd
    have hjr : j < rows.length := by omega
    have dok := h.du j f.dues[j] rows[j] (List.getElem?_eq_getElem hj) (List.getElem?_eq_getElem hjr)
    have cle : cntH f.holes j ≤ f.holes.length := List.countP_le_length
    have dl := dok.len
    have y1 : BtL 4 (10 ^ 20) ((82 + 2) * (f.dues[j].map D.str).length) (f.dues[j].map D.str) := BtL.of fun y hy => by
      obtain ⟨t, ht, rfl⟩ := List.mem_map.mp hy
      have := (dok.tx t ht).2
      exact Bt.str (fun c hc => last _ (List.getElem_mem hjr) c ((dok.tx t ht).1 c hc)) (by omega)
    rw [List.length_map] at y1
    exact y1.tup (by omega)
  have nd := h.nd
  rw [List.length_map] at z1 z2 z3
  have t1 : Bt 5 (10 ^ 20) 430 (.tup (f.pieces.map D.str)) := z1.tup (by omega)
  have t2 : Bt 6 (10 ^ 20) 10600 (.tup (f.holes.map holeD)) := z2.tup (by omega)
  have t3 : Bt 6 (10 ^ 20) 1300 (.tup (f.dues.map dueD)) := z3.tup (by omega)
  exact (BtL.cons (t1.mono (n' := 6) (by omega) (Nat.le_refl _) (Nat.le_refl _)) (BtL.cons t2 (BtL.cons t3 BtL.nil))).tup (by omega)
end Fo
/-! Mk1: what is a maker, asked of any data. -/
-- v4
namespace Fo
open PySem PySem.Spec PyProof.Rows L2
def wyM (many : Nat) (sg : List Nat) : D → Bool
  | .tup [q, t] => isNumD q (many : Nat) && txB sg 4 t
  | _ => false
def stM (wide : Nat) (sg : List Nat) (many : Nat) : D → Bool
  | .tup [.tup ws, e] => decide (ws.length = wide) && ws.all (wyM many sg) && txB sg 4 e
  | _ => false
def mkB (wide : Nat) (sg : List Nat) : D → Bool
  | .tup [b, .tup ss] => txB sg 4 b && decide (1 ≤ ss.length) && decide (ss.length ≤ 6) && ss.all (stM wide sg ss.length)
  | _ => false
theorem wyM_len {m : Nat} {tl : List Nat} {l : List D} (h : l.length ≠ 2) : wyM m tl (.tup l) = false := by
  unfold wyM
  split
  · rename_i e
    cases e
    exact absurd rfl h
  · rfl
theorem stM_len {n m : Nat} {tl : List Nat} {l : List D} (h : l.length ≠ 2) : stM n tl m (.tup l) = false := by
  unfold stM
  split
  · rename_i e
    cases e
    exact absurd rfl h
  · rfl
theorem mkB_len {n : Nat} {tl : List Nat} {l : List D} (h : l.length ≠ 2) : mkB n tl (.tup l) = false := by
  unfold mkB
  split
  · rename_i e
    cases e
    exact absurd rfl h
  · rfl
theorem stM_tup {n m : Nat} {tl : List Nat} {x y : D} (h : isT x "tuple" = false) : stM n tl m (.tup [x, y]) = false := by
  unfold stM
  split
  · rename_i e
    cases e
    cases h
  · rfl
theorem mkB_tup {n : Nat} {tl : List Nat} {x y : D} (h : isT y "tuple" = false) : mkB n tl (.tup [x, y]) = false := by
  unfold mkB
  split
  · rename_i e
    cases e
    cases h
  · rfl
theorem mkB_b {n : Nat} {tl : List Nat} {x y : D} (h : txB tl 4 x = false) : mkB n tl (.tup [x, y]) = false := by
  unfold mkB
  split
  · rename_i e
    cases e
    rw [h]
    rfl
  · rfl
theorem t_is_wayM_any {d : D} {tl : List Nat} {many n w : Nat} (h : Fit n w d) (hw : w ≤ 1000000) {k : KW} (hk : k (.val (.bl (wyM many tl d))) []) : t_is_way_v1 [.val d, .val (.int (many : Nat)), .val (.str tl)] [] k := by
  unfold t_is_way_v1
  refine mfun_of ?_
  cases d with
  | tup l =>
    false_or_by_contra
    by_cases h2 : l.length = 2
    · obtain ⟨x, y, rfl⟩ := two_of h2
      replace hk : k (.val (.bl (isNumD x (many : Nat) && txB tl 4 y))) [] := hk
      subst_eqs
      refine call_0 rfl (t_is_number_any ?_) m_is_number
      cases hn : isNumD x (many : Nat) with
      | false =>
        rw [hn] at hk
        subst_eqs
        exact hk
      | true =>
        rw [hn] at hk
        subst_eqs
        exact call_0 rfl (t_is_text_of_any (most := 4) (h.mem (x := y) (by simp)) (by omega) hk) m_is_text_of
    · rw [wyM_len h2] at hk
      rw [decide_eq_false (show ¬ ((l.length : Nat) : Int) = 2 by omega)]
      subst_eqs
      exact hk
  | _ =>
    clean_wf
    exact hk
theorem t_is_stateM_any {d : D} {tl : List Nat} {many wide n w : Nat} (h : Fit n w d) (hw : w ≤ 1000000) {k : KW} (hk : k (.val (.bl (stM wide tl many d))) []) : t_is_state_v1 [.val d, .val (.int (many : Nat)), .val (.int (wide : Nat)), .val (.str tl)] [] k := by
  unfold t_is_state_v1
  refine mfun_of ?_
  cases d with
  | tup l =>
    false_or_by_contra
    by_cases h2 : l.length = 2
    · obtain ⟨x, y, rfl⟩ := two_of h2
      subst_eqs
      cases hx : isT x "tuple" with
      | false =>
        rw [stM_tup hx] at hk
        subst_eqs
        exact hk
      | true =>
        obtain ⟨ws, rfl⟩ := isT_tup hx
        have hl := (h.mem (x := .tup ws) (by simp)).len
        replace hk : k (.val (.bl (decide (ws.length = wide) && ws.all (wyM many tl) && txB tl 4 y))) [] := hk
        subst_eqs
        by_cases e : ws.length = wide
        · rw [decide_eq_true e] at hk
          rw [decide_eq_true (show ((ws.length : Nat) : Int) = (wide : Nat) by omega)]
          subst_eqs
          refine lc_mapD (fun d => .bl (wyM many tl d)) ws (by unfold sizeLine; omega) (fun d hd acc K ha hK => ?_) ?_
          · subst_eqs
            refine call_0 rfl (t_is_wayM_any ((h.mem (x := .tup ws) (by simp)).mem hd) (by omega) ?_) m_is_way_v1
            exact lcput_i ha hK
          · subst_eqs
            rw [in_sg]
            refine all_l ?_
            rw [List.all_map]
            by_cases hp : ws.all (wyM many tl) = true
            · rw [hp] at hk
              rw [show (ws.all (id ∘ wyM many tl)) = true from hp]
              subst_eqs
              exact call_0 rfl (t_is_text_of_any (most := 4) (h.mem (x := y) (by simp)) (by omega) hk) m_is_text_of
            · rw [Bool.not_eq_true] at hp
              rw [hp] at hk
              rw [show (ws.all (id ∘ wyM many tl)) = false from hp]
              subst_eqs
              exact hk
        · rw [decide_eq_false e] at hk
          rw [decide_eq_false (show ¬ ((ws.length : Nat) : Int) = (wide : Nat) by omega)]
          subst_eqs
          exact hk
    · rw [stM_len h2] at hk
      rw [decide_eq_false (show ¬ ((l.length : Nat) : Int) = 2 by omega)]
      subst_eqs
      exact hk
  | _ =>
    clean_wf
    exact hk
theorem t_is_maker_any {d : D} {sg ls : List Nat} {web frame : D} {i n w : Nat} (h : Fit n w d) (hw : w ≤ 1000000) (hl8 : ls.length ≤ 1000)
    (hweb : ∃ l0 l1 r1, web = .tup l0 ∧ atI l0 0 = some (.tup l1) ∧ atI l1 0 = some (.tup r1) ∧ atI r1 0 = some (.str sg))
    (hfr : ∃ l0 l1 l2 l3, frame = .tup l0 ∧ atI l0 1 = some (.tup l1) ∧ atI l1 (i : Nat) = some (.tup l2) ∧ atI l2 1 = some (.tup l3) ∧ atI l3 0 = some (.str ls))
    {k : KW} (hk : k (.val (.bl (mkB ls.length sg d))) []) : t_is_maker [.val web, .val frame, .val (.int (i : Nat)), .val d] [] k := by
  unfold t_is_maker
  refine mfun_of ?_
  obtain ⟨l0, l1, r1, rfl, w1, w2, w3⟩ := hweb
  obtain ⟨f0, f1, f2, f3, rfl, g1, g2, g3, g4⟩ := hfr
  false_or_by_contra
  refine ix_t w1 ?_
  subst_eqs
  refine ix_t w2 ?_
  subst_eqs
  refine ix_t w3 ?_
  subst_eqs
  refine ix_t g1 ?_
  subst_eqs
  refine ix_t g2 ?_
  subst_eqs
  refine ix_t g3 ?_
  subst_eqs
  refine ix_t g4 ?_
  cases d with
  | tup l =>
    subst_eqs
    false_or_by_contra
    by_cases h2 : l.length = 2
    · obtain ⟨x, y, rfl⟩ := two_of h2
      subst_eqs
      refine call_0 rfl (t_is_text_of_any (most := 4) (h.mem (x := x) (by simp)) (by omega) ?_) m_is_text_of
      cases hb : txB sg 4 x with
      | false =>
        rw [mkB_b hb] at hk
        subst_eqs
        exact hk
      | true =>
        subst_eqs
        false_or_by_contra
        false_or_by_contra
        cases hx : isT y "tuple" with
        | false =>
          rw [mkB_tup hx] at hk
          subst_eqs
          exact hk
        | true =>
          obtain ⟨ss, rfl⟩ := isT_tup hx
          have hl := (h.mem (x := .tup ss) (by simp)).len
          replace hk : k (.val (.bl (txB sg 4 x && decide (1 ≤ ss.length) && decide (ss.length ≤ 6) && ss.all (stM ls.length sg ss.length)))) [] := hk
          rw [hb] at hk
          subst_eqs
          by_cases h1 : 1 ≤ ss.length
          · rw [decide_eq_true h1] at hk
            refine if_t (decide_eq_true (by omega)) ?_
            subst_eqs
            by_cases h6 : ss.length ≤ 6
            · rw [decide_eq_true h6] at hk
              rw [decide_eq_true (show ((ss.length : Nat) : Int) ≤ 6 by omega)]
              subst_eqs
              refine lc_mapD (fun d => .bl (stM ls.length sg ss.length d)) ss (by unfold sizeLine; omega) (fun d hd acc K ha hK => ?_) ?_
              · subst_eqs
                refine call_0 rfl (t_is_stateM_any ((h.mem (x := .tup ss) (by simp)).mem hd) (by omega) ?_) m_is_state_v1
                exact lcput_i ha hK
              · subst_eqs
                rw [in_sg]
                refine all_l ?_
                rw [List.all_map]
                subst_eqs
                exact hk
            · rw [decide_eq_false h6] at hk
              rw [decide_eq_false (show ¬ ((ss.length : Nat) : Int) ≤ 6 by omega)]
              subst_eqs
              exact hk
          · rw [decide_eq_false h1] at hk
            refine if_f (decide_eq_false (by omega)) ?_
            subst_eqs
            exact hk
    · rw [mkB_len h2] at hk
      rw [decide_eq_false (show ¬ ((l.length : Nat) : Int) = 2 by omega)]
      subst_eqs
      exact hk
  | _ =>
    clean_wf
    exact hk
end Fo
/-! Mk2: what is a maker, asked of any data: the law's look. -/
-- v4
namespace Fo
open PySem PySem.Spec PyProof.Rows L2
theorem t_law_is_textM_any {d : D} {sg : List Nat} {n w : Nat} (h : Fit n w d) (hw : w ≤ 1000000) {k : KW} (hk : k (.val (.bl (txB sg 4 d))) []) : t__law_is_text_v1 [.val d, .val (.str sg)] [] k := by
  unfold t__law_is_text_v1
  refine mfun_of ?_
  cases d with
  | str l =>
    have hl := h.slen
    replace hk : k (.val (.bl (decide (l.length ≤ 4) && l.all fun c => decide (c ∈ sg)))) [] := hk
    subst_eqs
    rw [show decide (((l.length : Nat) : Int) ≤ 4) = decide (l.length ≤ 4) from decide_eq_decide.mpr (by omega)]
    cases h1 : decide (l.length ≤ 4) with
    | false =>
      rw [h1] at hk
      subst_eqs
      exact hk
    | true =>
      rw [h1] at hk
      subst_eqs
      refine lc_fm (fun c => .str [c]) (fun c => if decide (c ∈ sg) = true then none else some (.str [c])) l (by unfold sizeLine; omega) (fun c hc acc K ha k1 k2 => ?_) ?_
      · subst_eqs
        cases hd : decide (c ∈ sg) with
        | true =>
          subst_eqs
          exact k2 (by rw [hd]; rfl)
        | false =>
          subst_eqs
          exact lcput_i ha (k1 _ (by rw [hd]; rfl))
      · subst_eqs
        refine em_l ?_
        rw [show (l.filterMap fun c => if decide (c ∈ sg) = true then none else some (D.str [c])).isEmpty = l.all (fun c => decide (c ∈ sg)) from fm_none (p := fun c => decide (c ∈ sg)) (f := fun c => D.str [c]) l]
        rw [Bool.bne_false]
        exact hk
  | _ =>
    subst_eqs
    exact hk
theorem t_law_is_stateM_any {d : D} {tl : List Nat} {many wide n w : Nat} (h : Fit n w d) (hw : w ≤ 1000000) {k : KW} (hk : k (.val (.bl (stM wide tl many d))) []) : t__law_is_state [.val d, .val (.int (wide : Nat)), .val (.int (many : Nat)), .val (.str tl)] [] k := by
  unfold t__law_is_state
  refine mfun_of ?_
  cases d with
  | tup l =>
    false_or_by_contra
    by_cases h2 : l.length = 2
    · obtain ⟨x, y, rfl⟩ := two_of h2
      subst_eqs
      cases hx : isT x "tuple" with
      | false =>
        rw [stM_tup hx] at hk
        subst_eqs
        exact hk
      | true =>
        obtain ⟨ws, rfl⟩ := isT_tup hx
        have hf := h.mem (x := .tup ws) (by simp)
        have hl := hf.len
        replace hk : k (.val (.bl (decide (ws.length = wide) && ws.all (wyM many tl) && txB tl 4 y))) [] := hk
        subst_eqs
        by_cases e : ws.length = wide
        · rw [decide_eq_true e] at hk
          rw [decide_eq_true (show ((ws.length : Nat) : Int) = (wide : Nat) by omega)]
          subst_eqs
          false_or_by_contra
          refine for_inv (fun r ρ S => ∃ (dn : List D) (x4 : Option W), dn ++ r = ws ∧ dn.all (wyM many tl) = true ∧ ρ = [some (.val (.tup [.tup ws, y])), some (.val (.int (wide : Nat))), some (.val (.int (many : Nat))), some (.val (.str tl)), x4] ∧ S = []) ?_ ?_ _ _ _ ⟨[], _, rfl, rfl, rfl, rfl⟩
          · rintro ρ S ⟨dn, x4, e, ha, rfl, rfl⟩
            rw [List.append_nil] at e
            subst e
            rw [ha] at hk
            subst_eqs
            exact call_0 rfl (t_law_is_textM_any (h.mem (x := y) (by simp)) (by omega) hk) m__law_is_text_v1
          · rintro d r ρ S K hK ⟨dn, x4, e, ha, rfl, rfl⟩
            have fd := hf.mem (x := d) (by rw [← e]; simp)
            have bad : wyM many tl d = false → k (.val (.bl false)) [] := fun z => by
              have hx := all_doneB (r := r) ha z
              rw [e] at hx
              rw [hx] at hk
              rw [Bool.and_false, Bool.false_and] at hk
              exact hk
            subst_eqs
            cases d with
            | tup l =>
              false_or_by_contra
              by_cases h2 : l.length = 2
              · obtain ⟨x, z, rfl⟩ := two_of h2
                replace bad : (isNumD x (many : Nat) && txB tl 4 z) = false → k (.val (.bl false)) [] := bad
                have good : (isNumD x (many : Nat) && txB tl 4 z) = true → ∀ x4, K [some (.val (.tup [.tup ws, y])), some (.val (.int (wide : Nat))), some (.val (.int (many : Nat))), some (.val (.str tl)), x4] [] := fun q x4 => by
                  refine hK _ _ ⟨dn ++ [.tup [x, z]], _, by rw [List.append_assoc]; exact e, ?_, rfl, rfl⟩
                  rw [List.all_append, ha, Bool.true_and, List.all_cons, List.all_nil, Bool.and_true]
                  exact q
                cases x with
                | int i =>
                  subst_eqs
                  by_cases i0 : 0 ≤ i
                  · by_cases i1 : i < (many : Nat)
                    · have en : isNumD (.int i) (many : Nat) = true := by
                        show (decide _ && decide _) = true
                        rw [decide_eq_true i0, decide_eq_true i1]
                        rfl
                      rw [en, Bool.true_and] at bad good
                      rw [decide_eq_true i0]
                      subst_eqs
                      rw [decide_eq_true i1]
                      subst_eqs
                      refine call_0 rfl (t_law_is_textM_any (fd.mem (x := z) (by simp)) (by omega) ?_) m__law_is_text_v1
                      cases hz : txB tl 4 z with
                      | true =>
                        subst_eqs
                        exact good hz _
                      | false =>
                        subst_eqs
                        exact bad hz
                    · have en : isNumD (.int i) (many : Nat) = false := by
                        show (decide _ && decide _) = false
                        rw [decide_eq_false i1, Bool.and_false]
                      rw [decide_eq_true i0]
                      subst_eqs
                      rw [decide_eq_false i1]
                      subst_eqs
                      exact bad (by rw [en]; rfl)
                  · have en : isNumD (.int i) (many : Nat) = false := by
                      show (decide _ && decide _) = false
                      rw [decide_eq_false i0, Bool.false_and]
                    rw [decide_eq_false i0]
                    subst_eqs
                    exact bad (by rw [en]; rfl)
                | _ =>
                  subst_eqs
                  exact bad rfl
              · rw [decide_eq_false (show ¬ ((l.length : Nat) : Int) = 2 by omega)]
                subst_eqs
                exact bad (wyM_len h2)
            | _ =>
              clean_wf
              exact bad rfl
        · rw [decide_eq_false e] at hk
          rw [decide_eq_false (show ¬ ((ws.length : Nat) : Int) = (wide : Nat) by omega)]
          subst_eqs
          exact hk
    · rw [stM_len h2] at hk
      rw [decide_eq_false (show ¬ ((l.length : Nat) : Int) = 2 by omega)]
      subst_eqs
      exact hk
  | _ =>
    clean_wf
    exact hk
theorem t_law_is_maker_any {d lot : D} {sg ls : List Nat} {n w : Nat} (h : Fit n w d) (hw : w ≤ 1000000) (hl8 : ls.length ≤ 1000) (hlot : ∃ l3, lot = .tup l3 ∧ atI l3 0 = some (.str ls))
    {k : KW} (hk : k (.val (.bl (mkB ls.length sg d))) []) : t__law_is_maker [.val (.str sg), .val lot, .val d] [] k := by
  unfold t__law_is_maker
  refine mfun_of ?_
  obtain ⟨l3, rfl, g4⟩ := hlot
  cases d with
  | tup l =>
    false_or_by_contra
    by_cases h2 : l.length = 2
    · obtain ⟨x, y, rfl⟩ := two_of h2
      subst_eqs
      refine call_0 rfl (t_law_is_textM_any (h.mem (x := x) (by simp)) (by omega) ?_) m__law_is_text_v1
      cases hb : txB sg 4 x with
      | false =>
        rw [mkB_b hb] at hk
        subst_eqs
        exact hk
      | true =>
        subst_eqs
        false_or_by_contra
        cases hx : isT y "tuple" with
        | false =>
          rw [mkB_tup hx] at hk
          subst_eqs
          exact hk
        | true =>
          obtain ⟨ss, rfl⟩ := isT_tup hx
          have hl := (h.mem (x := .tup ss) (by simp)).len
          replace hk : k (.val (.bl (txB sg 4 x && decide (1 ≤ ss.length) && decide (ss.length ≤ 6) && ss.all (stM ls.length sg ss.length)))) [] := hk
          rw [hb] at hk
          subst_eqs
          by_cases h1 : 1 ≤ ss.length
          · rw [decide_eq_true h1] at hk
            refine if_t (decide_eq_true (by omega)) ?_
            subst_eqs
            by_cases h6 : ss.length ≤ 6
            · rw [decide_eq_true h6] at hk
              rw [decide_eq_true (show ((ss.length : Nat) : Int) ≤ 6 by omega)]
              subst_eqs
              refine lc_mapD (fun d => .bl (stM ls.length sg ss.length d)) ss (by unfold sizeLine; omega) (fun d hd acc K ha hK => ?_) ?_
              · subst_eqs
                refine ix_t g4 ?_
                subst_eqs
                refine call_0 rfl (t_law_is_stateM_any ((h.mem (x := .tup ss) (by simp)).mem hd) (by omega) ?_) m__law_is_state
                exact lcput_i ha hK
              · subst_eqs
                rw [in_sg]
                refine in_no ?_
                rw [List.all_map]
                replace hk : k (.val (.bl (ss.all (stM ls.length sg ss.length)))) [] := hk
                rw [show ((!(ss.all (id ∘ stM ls.length sg ss.length))) != true) = ss.all (stM ls.length sg ss.length) by
                  rw [show (ss.all (id ∘ stM ls.length sg ss.length)) = ss.all (stM ls.length sg ss.length) from rfl]
                  cases ss.all (stM ls.length sg ss.length) <;> rfl]
                subst_eqs
                exact hk
            · rw [decide_eq_false h6] at hk
              rw [decide_eq_false (show ¬ ((ss.length : Nat) : Int) ≤ 6 by omega)]
              subst_eqs
              exact hk
          · rw [decide_eq_false h1] at hk
            refine if_f (decide_eq_false (by omega)) ?_
            subst_eqs
            exact hk
    · rw [mkB_len h2] at hk
      rw [decide_eq_false (show ¬ ((l.length : Nat) : Int) = 2 by omega)]
      subst_eqs
      exact hk
  | _ =>
    clean_wf
    exact hk
end Fo
/-! Mk3: makers drawn; what they write. -/
-- v4
namespace Fo
open PySem PySem.Spec PyProof.Rows L2
def mkrD (b : List Nat) (r : Rdr) : D := .tup [.str b, .tup (r.sts.map sttD)]
structure MkOk (sg ls b : List Nat) (r : Rdr) : Prop where
  ok : RdOk 4 4 r
  rd : r.reads = ls
  tl : r.tells = sg
  b : TxOk sg 4 b
  full : ∀ s ∈ r.sts, ∃ e, s.2 = some e
  six : r.sts.length ≤ 6
theorem t_any_maker {m : Nat} {p : Ob} {sg : List Nat} {l : Lot} {k : KW} (hp : Pen m p) (hm : m < 500000000) (hs : Sg sg) (s0 : sg ≠ []) (hl : LotOk l) (l9 : l.signs.length ≤ 9)
    (hk : ∀ b r p', MkOk sg l.signs b r → Pen (m + 2000) p' → k (.val (mkrD b r)) [p']) : t__law_any_maker [.ref 0, .val (.str sg), .val (lotD l), .val (.int 6)] [p] k := by
  have s9 := hs.le
  unfold t__law_any_maker
  refine mfun_of ?_
  false_or_by_contra
  refine call_1 rfl rfl hp.nd (t_take hp (by omega) (by omega) (by omega) fun q1 p1 b0 b1 hp1 => ⟨p1, [], rfl, ?_⟩) m__law_take
  subst_eqs
  obtain ⟨a, ha⟩ : ∃ a : Nat, 1 + q1 = (a : Int) := ⟨(1 + q1).toNat, by omega⟩
  rw [ha]
  false_or_by_contra
  false_or_by_contra
  rw [Int.toNat_natCast, rangeL0]
  refine for_ix natD (fun i ρ S => ∃ (sts : List Stt) (x6 x7 x8 : Option W) (p' : Ob) (G : Sto), ρ = [some (.ref 0), some (.val (.str sg)), some (.val (lotD l)), some (.val (.int 6)), some (.val (.int (a : Nat))), some (.ref 1), x6, x7, x8] ∧
    S = p' :: .lst (sts.map sttD) :: G ∧ Pen (m + 10 + 200 * i) p' ∧ sts.length = i ∧ (∀ s ∈ sts, SttOk a l.signs.length sg 4 4 s ∧ ∃ e, s.2 = some e)) (List.range a) ?_ ?_ ?_
  · rintro ρ S ⟨sts, x6, x7, x8, p', G, rfl, rfl, hp', hn, hok⟩
    rw [List.length_range] at hn hp'
    subst_eqs
    refine call_1 rfl rfl hp'.nd (t_take hp' (by omega) (by omega) (by omega) fun q2 p2 c0 c1 hp2 => ⟨p2, [], rfl, ?_⟩) m__law_take
    subst_eqs
    refine call_1 rfl rfl hp2.nd (t_some_text hp2 s0 (by omega) c0 (by omega) (by omega) fun t p3 ht1 ht2 hp3 => ⟨p3, [], rfl, ?_⟩) m__law_some_text
    subst_eqs
    exact hk t ⟨l.signs, sg, sts⟩ p3 ⟨⟨hl.sg, hs, fun z => by
      have z' : sts = [] := z
      rw [z'] at hn
      rw [← hn] at ha
      rw [List.length_nil] at ha
      omega, fun s hs' => by
      have := (hok s hs').1
      rw [← hn] at this
      exact this⟩, rfl, rfl, ⟨ht1, by omega⟩, fun s hs' => (hok s hs').2, by show sts.length ≤ 6; omega⟩ (hp3.mono (by omega))
  · rintro i x hx ρ S K hK ⟨sts, x6, x7, x8, p', G, rfl, rfl, hp', hn, hok⟩
    have hi : i < a := by
      have := (List.getElem?_eq_some_iff.mp hx).1
      rwa [List.length_range] at this
    refine gVar_i ?_
    false_or_by_contra
    false_or_by_contra
    unfold lotD
    subst_eqs
    rw [show (l.signs.map fun c => D.str [c]) = signs l.signs from rfl]
    refine for_ix (fun c : Nat => D.str [c]) (fun j ρ S => ∃ (ws : List Way) (x8 : Option W) (p3 : Ob), ρ = [some (.ref 0), some (.val (.str sg)), some (.val (.tup [.str l.signs, .tup (l.sts.map lstD)])), some (.val (.int 6)), some (.val (.int (a : Nat))), some (.ref 1), some (.val (natD x)), some (.ref (G.length + 2)), x8] ∧
      S = (p3 :: .lst (sts.map sttD) :: G) ++ [.lst (ws.map wayD)] ∧ Pen (m + 10 + 200 * i + 15 * j) p3 ∧ ws.length = j ∧ ∀ w ∈ ws, WayOk a sg 4 w) l.signs ?_ ?_ ?_
    · rintro ρ S ⟨ws, x8, p3, rfl, rfl, hp3, hw, hwo⟩
      subst_eqs
      refine rd_l (cell_at2 (S := p3 :: .lst (sts.map sttD) :: G) (ob := .lst (ws.map wayD)) rfl) ?_
      subst_eqs
      refine call_1 rfl rfl hp3.nd (t_take hp3 (by omega) (by omega) (by omega) fun q2 p4 c0 c1 hp4 => ⟨p4, [], rfl, ?_⟩) m__law_take
      subst_eqs
      refine call_1 rfl rfl hp4.nd (t_some_text hp4 s0 (by omega) c0 (by omega) (by omega) fun t p5 ht1 ht2 hp5 => ⟨p5, [], rfl, ?_⟩) m__law_some_text
      subst_eqs
      refine append_i (by rw [List.length_map]; unfold sizeLine; omega) ?_
      refine hK _ _ ⟨sts ++ [(ws, some t)], _, _, _, p5, G ++ [.lst (ws.map wayD)], rfl, ?_, hp5.mono (by omega), by rw [List.length_append]; show sts.length + 1 = _; omega, fun s hs' => ?_⟩
      · rw [List.map_append]
        rfl
      · rcases List.mem_append.mp hs' with hs' | hs'
        · exact hok s hs'
        · rw [List.mem_singleton.mp hs']
          exact ⟨⟨hw, hwo, fun u hu => by injection hu with hu; rw [← hu]; exact ⟨ht1, by omega⟩⟩, t, rfl⟩
    · rintro j c hc ρ S K2 hK2 ⟨ws, x8, p3, rfl, rfl, hp3, hw, hwo⟩
      have hj : j < l.signs.length := (List.getElem?_eq_some_iff.mp hc).1
      refine gVar_i (sExpr_i (mMethC_i (mVar_i rfl (asCell_i (cell_at2 (S := p3 :: .lst (sts.map sttD) :: G) (ob := .lst (ws.map wayD)) rfl) ?_))))
      subst_eqs
      refine call_1 rfl rfl hp3.nd (t_take hp3 (by omega) (by omega) (by omega) fun q2 p4 c0 c1 hp4 => ⟨p4, [], rfl, ?_⟩) m__law_take
      subst_eqs
      refine call_1 rfl rfl hp4.nd (t_take hp4 (by omega) (by omega) (by omega) fun q3 p5 d0 d1 hp5 => ⟨p5, [], rfl, ?_⟩) m__law_take
      subst_eqs
      obtain ⟨q, rfl⟩ : ∃ q : Nat, q2 = (q : Nat) := ⟨q2.toNat, by omega⟩
      obtain ⟨e, he, hme, _⟩ := atI_in (l := [D.int 1, .int 1, .int 2, .int 4]) d0 d1
      obtain ⟨n4, hn4, rfl⟩ : ∃ n4 : Nat, n4 ≤ 4 ∧ e = .int (n4 : Nat) := by
        simp only [List.mem_cons, List.not_mem_nil, or_false] at hme
        rcases hme with rfl | rfl | rfl | rfl
        · exact ⟨1, by omega, rfl⟩
        · exact ⟨1, by omega, rfl⟩
        · exact ⟨2, by omega, rfl⟩
        · exact ⟨4, by omega, rfl⟩
      refine ix_l he ?_
      subst_eqs
      refine call_1 rfl rfl hp5.nd (t_some_text hp5 s0 (by omega) (by omega) (by omega) (by omega) fun t p6 ht1 ht2 hp6 => ⟨p6, [], rfl, ?_⟩) m__law_some_text
      subst_eqs
      refine asCell_i (cell_at2 (S := p6 :: .lst (sts.map sttD) :: G) (ob := .lst (ws.map wayD)) rfl) (append_i (by rw [List.length_map]; unfold sizeLine; omega) ?_)
      refine hK2 _ _ ⟨ws ++ [(q, t)], _, p6, rfl, ?_, hp6.mono (by omega), by rw [List.length_append]; show ws.length + 1 = _; omega, fun w hw' => ?_⟩
      · rw [List.map_append]
        exact cell_set2 (S := p6 :: .lst (sts.map sttD) :: G) rfl
      · rcases List.mem_append.mp hw' with hw' | hw'
        · exact hwo w hw'
        · rw [List.mem_singleton.mp hw']
          exact ⟨by show q < a; omega, ht1, by show t.length ≤ 4; omega⟩
    · exact ⟨[], _, p', rfl, rfl, hp'.mono (by omega), rfl, fun w hw => (by cases hw)⟩
  · exact ⟨[], _, _, _, p1, [], rfl, rfl, hp1.mono (by omega), rfl, fun s hs' => (by cases hs')⟩
/-- what it writes -/
def wrM (b : List Nat) (r : Rdr) (t : List Nat) : List Nat := (walkR r 0 b t).2 ++ ((endR r (walkR r 0 b t).1).getD [])
theorem MkOk.end_ {sg ls b : List Nat} {r : Rdr} (h : MkOk sg ls b r) {q : Nat} (hq : q < r.sts.length) : ∃ e, endR r q = some e ∧ TxOk sg 4 e := by
  obtain ⟨e, he⟩ := h.full _ (atR_mem (d := ([], none)) hq)
  have := h.ok.end_ hq he
  rw [h.tl] at this
  exact ⟨e, he, this⟩
theorem MkOk.st {sg ls b : List Nat} {r : Rdr} (h : MkOk sg ls b r) {q : Nat} (hq : q < r.sts.length) : (r.sts.map sttD)[q]? = some (.tup [.tup ((atR r.sts ([], none) q).1.map wayD), optD (endR r q)]) := by
  rw [List.getElem?_map, atR_of (d := ([], none)) hq]
  rfl
theorem MkOk.way {sg ls b : List Nat} {r : Rdr} (h : MkOk sg ls b r) {q j c : Nat} (hq : q < r.sts.length) (hj : ls[j]? = some c) : ((atR r.sts ([], none) q).1.map wayD)[j]? = some (wayD (stepR r q c)) := by
  have hs := h.ok.sttAt hq
  have ej : r.reads.idxOf c = j := idx_nd h.ok.sr.nd (by rw [h.rd]; exact hj)
  have hlt : j < (atR r.sts ([], none) q).1.length := by
    rw [hs.len, h.rd]
    exact (List.getElem?_eq_some_iff.mp hj).1
  rw [List.getElem?_map, atR_of (d := (0, [])) hlt]
  unfold stepR
  rw [ej]
  rfl
theorem t_written_ok {sg : List Nat} {l : Lot} {b : List Nat} {r : Rdr} {t : List Nat} (h : MkOk sg l.signs b r) (hl9 : l.signs.length ≤ 1000) (ht : ∀ c ∈ t, c ∈ l.signs) (tl : t.length ≤ 1000) {k : KW} (hk : k (.val (.str (wrM b r t))) []) :
    t_written [.val (mkrD b r), .val (lotD l), .val (.str t)] [] k := by
  have b4 := h.b.2
  unfold t_written mkrD lotD
  refine mfun_of ?_
  false_or_by_contra
  false_or_by_contra
  false_or_by_contra
  refine for_inv (fun r2 ρ S => ∃ (q' : Nat) (told cs : List Nat) (x3 x8 : Option W), r2 = signs cs ∧ ρ = [some (.val (.tup [.str b, .tup (r.sts.map sttD)])), some (.val (.tup [.str l.signs, .tup (l.sts.map lstD)])), some (.val (.str t)), x3, some (.val (.str b)), some (.val (.tup (r.sts.map sttD))), some (.val (.str told)), some (.val (.int (q' : Nat))), x8] ∧ S = [] ∧
    walkR r q' told cs = walkR r 0 b t ∧ q' < r.sts.length ∧ (∀ c ∈ cs, c ∈ l.signs) ∧ told.length + 4 * cs.length ≤ 5000) ?_ ?_ _ _ _ ?_
  · rintro ρ S ⟨q', told, cs, x3, x8, hr2, rfl, rfl, hw, hq, hc2, hl2⟩
    have e0 : cs = [] := by
      cases cs with
      | nil => rfl
      | cons c cs => cases hr2
    subst e0
    rw [List.length_nil] at hl2
    obtain ⟨e, he, he2⟩ := h.end_ hq
    have el := he2.2
    subst_eqs
    refine ix_t (x := (q' : Int)) (atI_nat (h.st hq)) ?_
    rw [he]
    subst_eqs
    refine add_s (s := told) (r := e) (by unfold sizeLine; omega) ?_
    subst_eqs
    unfold wrM at hk
    rw [← hw] at hk
    have e3 : walkR r q' told [] = (q', told) := rfl
    rw [e3, he] at hk
    exact hk
  · rintro d r2 ρ S K hK ⟨q', told, cs, x3, x8, hr2, rfl, rfl, hw, hq, hc2, hl2⟩
    cases cs with
    | nil => cases hr2
    | cons c cs =>
      have hcs2 : d :: r2 = .str [c] :: signs cs := hr2
      injection hcs2 with e1 e2
      subst e1 e2
      have hcc := hc2 c List.mem_cons_self
      have w := h.ok.step hq (c := c) (by rw [h.rd]; exact hcc)
      rw [List.length_cons, Nat.mul_succ] at hl2
      have w3 := w.2.2
      refine gVar_i ?_
      false_or_by_contra
      refine ix_t (x := (q' : Int)) (atI_nat (h.st hq)) ?_
      subst_eqs
      refine index_i hcc fun j hj => ?_
      subst_eqs
      refine ix_t (x := (j : Int)) (atI_nat (h.way hq hj)) ?_
      unfold wayD
      subst_eqs
      refine hK _ _ ⟨(stepR r q' c).1, told ++ (stepR r q' c).2, cs, _, _, rfl, rfl, rfl, hw, w.1, fun x hx => hc2 x (List.mem_cons_of_mem _ hx), by rw [List.length_append]; omega⟩
  · exact ⟨0, b, t, _, _, rfl, rfl, rfl, rfl, h.ok.pos, ht, by omega⟩
theorem t_dueM_ok {sg : List Nat} {l : Lot} {b : List Nat} {r : Rdr} {t : List Nat} (h : MkOk sg l.signs b r) (hl9 : l.signs.length ≤ 1000) (ht : ∀ c ∈ t, c ∈ l.signs) (tl : t.length ≤ 1000) {k : KW} (hk : k (.val (.str (wrM b r t))) []) :
    t__law_due_v1 [.val (mkrD b r), .val (lotD l), .val (.str t)] [] k := by
  have b4 := h.b.2
  unfold t__law_due_v1 mkrD lotD
  refine mfun_of ?_
  false_or_by_contra
  false_or_by_contra
  refine for_inv (fun r2 ρ S => ∃ (q' : Nat) (told cs : List Nat) (x3 x8 : Option W), r2 = signs cs ∧ ρ = [some (.val (.tup [.str b, .tup (r.sts.map sttD)])), some (.val (.tup [.str l.signs, .tup (l.sts.map lstD)])), some (.val (.str t)), x3, some (.val (.str told)), some (.val (.int (q' : Nat))), x8] ∧ S = [] ∧
    walkR r q' told cs = walkR r 0 b t ∧ q' < r.sts.length ∧ (∀ c ∈ cs, c ∈ l.signs) ∧ told.length + 4 * cs.length ≤ 5000) ?_ ?_ _ _ _ ?_
  · rintro ρ S ⟨q', told, cs, x3, x8, hr2, rfl, rfl, hw, hq, hc2, hl2⟩
    have e0 : cs = [] := by
      cases cs with
      | nil => rfl
      | cons c cs => cases hr2
    subst e0
    rw [List.length_nil] at hl2
    obtain ⟨e, he, he2⟩ := h.end_ hq
    have el := he2.2
    subst_eqs
    refine ix_t (x := (q' : Int)) (atI_nat (h.st hq)) ?_
    rw [he]
    subst_eqs
    refine add_s (s := told) (r := e) (by unfold sizeLine; omega) ?_
    subst_eqs
    unfold wrM at hk
    rw [← hw] at hk
    have e3 : walkR r q' told [] = (q', told) := rfl
    rw [e3, he] at hk
    exact hk
  · rintro d r2 ρ S K hK ⟨q', told, cs, x3, x8, hr2, rfl, rfl, hw, hq, hc2, hl2⟩
    cases cs with
    | nil => cases hr2
    | cons c cs =>
      have hcs2 : d :: r2 = .str [c] :: signs cs := hr2
      injection hcs2 with e1 e2
      subst e1 e2
      have hcc := hc2 c List.mem_cons_self
      have w := h.ok.step hq (c := c) (by rw [h.rd]; exact hcc)
      rw [List.length_cons, Nat.mul_succ] at hl2
      have w3 := w.2.2
      refine gVar_i ?_
      false_or_by_contra
      refine ix_t (x := (q' : Int)) (atI_nat (h.st hq)) ?_
      subst_eqs
      refine index_i hcc fun j hj => ?_
      subst_eqs
      refine ix_t (x := (j : Int)) (atI_nat (h.way hq hj)) ?_
      unfold wayD
      subst_eqs
      refine hK _ _ ⟨(stepR r q' c).1, told ++ (stepR r q' c).2, cs, _, _, rfl, rfl, rfl, hw, w.1, fun x hx => hc2 x (List.mem_cons_of_mem _ hx), by rw [List.length_append]; omega⟩
  · exact ⟨0, b, t, _, _, rfl, rfl, rfl, rfl, h.ok.pos, ht, by omega⟩
end Fo
/-! Mk4: makers bent; webs drawn. -/
-- v4
namespace Fo
open PySem PySem.Spec PyProof.Rows L2
theorem t_one_of {m : Nat} {p : Ob} {l : List D} {k : KW} (hp : Pen m p) (hm : m < 900000000) (h0 : l ≠ []) (h1 : l.length ≤ 1000) (hk : ∀ d ∈ l, ∀ p', Pen (m + 1) p' → k (.val d) [p']) : t__law_one_of [.ref 0, .val (.lst l)] [p] k := by
  have l0 := List.length_pos_iff.mpr h0
  unfold t__law_one_of
  refine mfun_of ?_
  subst_eqs
  refine call_1 rfl rfl hp.nd (t_take hp (by omega) (by omega) (by omega) fun q1 p1 b0 b1 hp1 => ⟨p1, [], rfl, ?_⟩) m__law_take
  subst_eqs
  refine ixl_mem b0 b1 fun d hd => ?_
  subst_eqs
  exact hk d hd p1 hp1
def oddM (sg : List Nat) : List D := [.non, .bl true, .bl false, .int 0, .int 1, .int 5, .int 6, .int (-1), .str [], .str (List.replicate 4 (sg.take 1)).flatten, .str (List.replicate 5 (sg.take 1)).flatten, .str [32], .str [126, 126], .tup [], .lst [], .dct [] [], .dct [.str [97]] [.int 1]]
theorem rep_bt {sg : List Nat} (hs : ∀ c ∈ sg, c < 256) {n : Nat} (hn : n ≤ 5) {a b : Nat} : Bt a b 40 (.str (List.replicate n (sg.take 1)).flatten) := by
  refine Bt.str (fun c hc => ?_) ?_
  · obtain ⟨l, h1, h2⟩ := List.mem_flatten.mp hc
    rw [(List.mem_replicate.mp h1).2] at h2
    exact hs c (List.mem_of_mem_take h2)
  · rw [List.length_flatten, List.map_replicate, List.sum_replicate_nat, List.length_take]
    have : min 1 sg.length ≤ 1 := Nat.min_le_left _ _
    have := Nat.mul_le_mul hn this
    omega
theorem oddM_bt {sg : List Nat} (hs : ∀ c ∈ sg, c < 256) {n b : Nat} (hb : 10 ≤ b) (hb2 : b < 10 ^ 22) : ∀ d ∈ oddM sg, Bt (n + 1) b 50 d := fun d hd => by
  have i : ∀ z : Int, z.natAbs ≤ 10 → Bt (n + 1) b 50 (.int z) := fun z hz => (Bt.int (by omega) hb2).mono (Nat.le_refl _) (Nat.le_refl _) (by omega)
  have s : ∀ l : List Nat, (∀ c ∈ l, c < 256) → l.length ≤ 5 → Bt (n + 1) b 50 (.str l) := fun l h1 h2 => Bt.str h1 (by omega)
  unfold oddM at hd
  simp only [List.mem_cons, List.not_mem_nil, or_false] at hd
  rcases hd with rfl | rfl | rfl | rfl | rfl | rfl | rfl | rfl | rfl | rfl | rfl | rfl | rfl | rfl | rfl | rfl | rfl
  · exact Bt.non.mono (Nat.le_refl _) (Nat.le_refl _) (by omega)
  · exact Bt.bl.mono (Nat.le_refl _) (Nat.le_refl _) (by omega)
  · exact Bt.bl.mono (Nat.le_refl _) (Nat.le_refl _) (by omega)
  · exact i 0 (by decide)
  · exact i 1 (by decide)
  · exact i 5 (by decide)
  · exact i 6 (by decide)
  · exact i (-1) (by decide)
  · exact s [] (fun c hc => by cases hc) (by decide)
  · exact (rep_bt hs (by omega)).mono (Nat.le_refl _) (Nat.le_refl _) (by omega)
  · exact (rep_bt hs (by omega)).mono (Nat.le_refl _) (Nat.le_refl _) (by omega)
  · exact s [32] (by decide) (by decide)
  · exact s [126, 126] (by decide) (by decide)
  · exact (BtL.nil.tup (w' := 50) (by omega))
  · exact (BtL.nil.lst (w' := 50) (by omega))
  · exact Bt.dct0.mono (Nat.le_refl _) (Nat.le_refl _) (by omega)
  · refine ⟨⟨rfl, ?_, ?_⟩, ?_⟩
    · show max (max 0 0) (max 0 0) + 1 ≤ n + 1
      omega
    · show (4 * 1 + 2 + 2 + 0) + (25 + 2 + 0) + 3 ≤ 50
      omega
    · show iX _ ≤ b
      simp [iX, iXs]
      omega
theorem cut_last {sg : List Nat} (h : sg ≠ []) : (cutL sg (some (-1)) none).length ≤ 1 := by
  have := List.length_pos_iff.mpr h
  unfold cutL HT.sIx
  rw [List.length_take, List.length_drop]
  simp
  omega
theorem mul_s {l : List Nat} {n : Int} {S : Sto} {k : KW} (h : 2 ≤ n ∧ n ≤ 1000 ∧ l ≠ [] ∧ l.length ≤ 1000) (q : k (.val (.str (List.replicate n.toNat l).flatten)) S) : mulD (.str l) (.int n) S k := ⟨h, q⟩
theorem t_bentM {sg : List Nat} (hs : Sg sg) (s0 : sg ≠ []) : ∀ (n j : Nat), n < j → ∀ {m b w : Nat} {p : Ob} {d : D} {k : KW}, Pen m p → m + 10 * n < 700000000 → n ≤ 100 → Bt n b w d → 10 ≤ b → b < 10 ^ 22 → w ≤ 1000000 →
    (∀ r p', Bt (n + 1) b (2 * w + 60) r → Pen (m + 10 * n + 10) p' → k (.val r) [p']) → t__law_bent_v1 j [.ref 0, .val (.str sg), .val d] [p] k
  | n, 0, hj, _, _, _, _, _, _, _, _, _, _, _, _, _, _ => absurd hj (by omega)
  | n, j + 1, hj, m, b, w, p, d, k, hp, hm, hn, h, hb, hb2, hw, hk => by
    have s9 := hs.le
    have s256 : ∀ c ∈ sg, c < 256 := fun c hc => pool_lt3 c (hs.pool c hc)
    have c1 : cutL sg none (some 1) = sg.take 1 := by rw [show (some (1 : Int)) = some ((1 : Nat) : Int) from rfl, cutL_none]
    have t0 : sg.take 1 ≠ [] := fun z => by
      have := congrArg List.length z
      have := List.length_pos_iff.mpr s0
      rw [List.length_take, List.length_nil] at *
      omega
    have tl : (sg.take 1).length ≤ 1 := by rw [List.length_take]; omega
    unfold t__law_bent_v1
    refine mfun_of ?_
    false_or_by_contra
    rw [c1]
    refine mul_s (l := sg.take 1) ⟨by omega, by omega, t0, by omega⟩ ?_
    subst_eqs
    rw [c1]
    refine mul_s (l := sg.take 1) ⟨by omega, by omega, t0, by omega⟩ ?_
    subst_eqs
    have oB : ∀ x ∈ oddM sg, Bt (n + 1) b (2 * w + 60) x := fun x hx => (oddM_bt s256 (n := n) hb hb2 x hx).mono (Nat.le_refl _) (Nat.le_refl _) (by omega)
    have oL : (oddM sg).length = 17 := rfl
    have oN : oddM sg ≠ [] := by unfold oddM; simp
    refine sSeq_cut (fun ρ S => ∃ p', ρ = [some (.ref 0), some (.val (.str sg)), some (.val d), some (.val (.lst (oddM sg))), none, none] ∧ S = [p'] ∧ Pen (m + 1) p') ?_ ?_
    · rintro ρ S ⟨p', rfl, rfl, hp'⟩
      cases d with
      | tup l =>
        obtain ⟨el, n1, wl⟩ := h.els
        cases l with
        | nil =>
          false_or_by_contra
          refine em_t ?_
          subst_eqs
          refine call_1 rfl rfl hp'.nd (t_one_of hp' (by omega) oN (by omega) fun x hx p1 hp1 => ⟨p1, [], rfl, ?_⟩) m__law_one_of
          subst_eqs
          exact hk _ _ (oB x hx) (hp1.mono (by omega))
        | cons x l =>
          have hl := wXs_len (x :: l)
          have h1 : 1 ≤ (x :: l).length := by rw [List.length_cons]; omega
          generalize hL : x :: l = L at *
          have he : L.isEmpty = false := by rw [← hL]; rfl
          false_or_by_contra
          refine em_t ?_
          rw [he]
          subst_eqs
          refine call_1 rfl rfl hp'.nd (t_take hp' (by omega) (by omega) (by omega) fun q1 p1 b0 b1 hp1 => ⟨p1, [], rfl, ?_⟩) m__law_take
          subst_eqs
          by_cases hq : q1 = 0
          · rw [decide_eq_true hq]
            subst_eqs
            refine call_1 rfl rfl hp1.nd (t_one_of hp1 (by omega) oN (by omega) fun x hx p1 hp1 => ⟨p1, [], rfl, ?_⟩) m__law_one_of
            subst_eqs
            exact hk _ _ (oB x hx) (hp1.mono (by omega))
          · rw [decide_eq_false hq]
            subst_eqs
            false_or_by_contra
            refine call_1 rfl rfl hp1.nd (t_take hp1 (by omega) (by omega) (by omega) fun q2 p2 c0 c1 hp2 => ⟨p2, [], rfl, ?_⟩) m__law_take
            subst_eqs
            obtain ⟨x, ex, hx, ei⟩ := atI_in (l := L) c0 c1
            obtain ⟨i, rfl⟩ : ∃ i : Nat, q2 = (i : Nat) := ⟨q2.toNat, by omega⟩
            have hi : i < L.length := by omega
            rw [Int.toNat_natCast] at ei
            have hs2 := wXs_split ei
            have l1 := cutL_len L none (some (i : Int))
            have l2 := cutL_len L (some ((i : Int) + 1)) none
            have l3 := cutL_len L none (some ((i : Int) + 1))
            have l4 := cutL_len L (some (i : Int)) none
            false_or_by_contra
            refine call_1 rfl rfl hp2.nd (t_take hp2 (by omega) (by omega) (by omega) fun q3 p3 d0 d1 hp3 => ⟨p3, [], rfl, ?_⟩) m__law_take
            subst_eqs
            false_or_by_contra
            by_cases w0 : q3 = 0
            · rw [decide_eq_true w0]
              subst_eqs
              exact hk _ _ ((((el.cut _ _).app (el.cut _ _)).tup (w' := 2 * w + 3) (by omega)).mono (by omega) (Nat.le_refl _) (by omega)) (hp3.mono (by omega))
            · rw [decide_eq_false w0]
              subst_eqs
              false_or_by_contra
              by_cases w1 : q3 = 1
              · rw [decide_eq_true w1]
                subst_eqs
                exact hk _ _ ((((el.cut _ _).app (el.cut _ _)).tup (w' := 2 * w + 3) (by omega)).mono (by omega) (Nat.le_refl _) (by omega)) (hp3.mono (by omega))
              · rw [decide_eq_false w1]
                subst_eqs
                false_or_by_contra
                by_cases w2 : q3 = 2
                · rw [decide_eq_true w2]
                  subst_eqs
                  exact hk _ _ ((el.lst (Nat.le_refl _)).mono (by omega) (Nat.le_refl _) (by omega)) (hp3.mono (by omega))
                · rw [decide_eq_false w2]
                  subst_eqs
                  refine ix_t ex ?_
                  subst_eqs
                  have bx : Bt (n - 1) b (wX x) x := el.mem hx
                  refine call_1 rfl rfl hp3.nd (t_bentM hs s0 (n - 1) j (by omega) hp3 (by omega) (by omega) bx hb hb2 (by omega) fun r p4 hr hp4 => ⟨p4, [], rfl, ?_⟩) (m__law_bent_v1 j)
                  subst_eqs
                  rw [cutL_none, show ((i : Int) + 1) = ((i + 1 : Nat) : Int) by omega, cutL_from]
                  refine hk _ _ ?_ (hp4.mono (by omega))
                  have z1 : BtL (n + 1 - 1) b (wXs (L.take i)) (L.take i) := ⟨fun y hy => el.sn y (List.mem_of_mem_take hy), fun y hy => Nat.le_trans (el.dp y (List.mem_of_mem_take hy)) (by omega), fun y hy => el.ib y (List.mem_of_mem_take hy), Nat.le_refl _⟩
                  have z2 : BtL (n + 1 - 1) b (wXs (L.drop (i + 1))) (L.drop (i + 1)) := ⟨fun y hy => el.sn y (List.mem_of_mem_drop hy), fun y hy => Nat.le_trans (el.dp y (List.mem_of_mem_drop hy)) (by omega), fun y hy => el.ib y (List.mem_of_mem_drop hy), Nat.le_refl _⟩
                  exact ((z1.app (BtL.cons (hr.mono (by omega) (Nat.le_refl _) (Nat.le_refl _)) BtL.nil)).app z2).tup (by omega)
      | _ =>
        false_or_by_contra
        refine call_1 rfl rfl hp'.nd (t_one_of hp' (by omega) oN (by omega) fun x hx p1 hp1 => ⟨p1, [], rfl, ?_⟩) m__law_one_of
        subst_eqs
        exact hk _ _ (oB x hx) (hp1.mono (by omega))
    · intro K hK
      cases d with
      | str l =>
        obtain ⟨h256, hl⟩ := h.sg
        subst_eqs
        by_cases hl0 : l = []
        · rw [decide_eq_true hl0]
          subst_eqs
          exact hK _ _ ⟨p, rfl, rfl, hp.mono (by omega)⟩
        · rw [decide_eq_false hl0]
          subst_eqs
          refine call_1 rfl rfl hp.nd (t_take hp (by omega) (by omega) (by omega) fun q1 p1 b0 b1 hp1 => ⟨p1, [], rfl, ?_⟩) m__law_take
          subst_eqs
          by_cases hq : q1 = 0
          · rw [decide_eq_true hq]
            subst_eqs
            have la : (cutL l none (some 1)).length ≤ 1 := by
              rw [show (some (1 : Int)) = some ((1 : Nat) : Int) from rfl, cutL_none, List.length_take]
              omega
            have lb := cut_last s0
            refine call_1 rfl rfl hp1.nd (t_one_of hp1 (by omega) (by simp) (by simp) fun x hx p2 hp2 => ⟨p2, [], rfl, ?_⟩) m__law_one_of
            obtain ⟨u, rfl, u1, u2⟩ : ∃ u, x = .str u ∧ u.length ≤ 1 ∧ ∀ c ∈ u, c < 256 := by
              simp only [List.mem_cons, List.not_mem_nil, or_false] at hx
              rcases hx with rfl | rfl | rfl | rfl
              · exact ⟨_, rfl, la, cut256 h256 _ _⟩
              · exact ⟨[32], rfl, by decide, by decide⟩
              · exact ⟨[126], rfl, by decide, by decide⟩
              · exact ⟨_, rfl, lb, cut256 s256 _ _⟩
            subst_eqs
            exact hk _ _ ((Bt.str (n := n + 1) (b := b) (w := 2 * w + 60) (app256 h256 u2) (by rw [List.length_append]; omega))) (hp2.mono (by omega))
          · rw [decide_eq_false hq]
            subst_eqs
            exact hK _ _ ⟨p1, rfl, rfl, hp1⟩
      | _ =>
        subst_eqs
        exact hK _ _ ⟨p, rfl, rfl, hp.mono (by omega)⟩
end Fo
/-! Law_k50: the plain law. -/
-- v4
namespace Fo
open PySem PySem.Spec PyProof.Rows L2
theorem mkr_bt {sg ls b : List Nat} {r : Rdr} (h : MkOk sg ls b r) (hs : Sg sg) (l9 : ls.length ≤ 9) : Bt 5 (10 ^ 20) 3200 (mkrD b r) := by
  have six := h.six
  have z1 : BtL 3 (10 ^ 20) ((500 + 2) * (r.sts.map sttD).length) (r.sts.map sttD) := BtL.of fun x hx => by
    obtain ⟨s, hs', rfl⟩ := List.mem_map.mp hx
    exact stt_bt (h.ok.sts s hs') (by rw [h.tl]; exact hs) (by decide) (by decide) (by omega) (by rw [h.rd]; exact l9)
  rw [List.length_map] at z1
  have b4 := h.b.2
  have t1 : Bt 4 (10 ^ 20) 18 (.str b) := Bt.str (fun c hc => pool_lt3 c (hs.pool c (h.b.1 c hc))) (by omega)
  exact (BtL.cons t1 (BtL.cons (z1.tup (w' := 3100) (by omega)) BtL.nil)).tup (by omega)
theorem wrM_sg {sg ls b : List Nat} {r : Rdr} (h : MkOk sg ls b r) {t : List Nat} (ht : ∀ c ∈ t, c ∈ ls) : ∀ c ∈ wrM b r t, c ∈ sg := fun c hc => by
  obtain ⟨w1, _, w3⟩ := walk_ok h.ok t 0 b h.ok.pos fun c hc => by rw [h.rd]; exact ht c hc
  obtain ⟨e, he, he2⟩ := h.end_ w1
  unfold wrM at hc
  rw [he] at hc
  rcases List.mem_append.mp hc with hc | hc
  · have := w3 (fun c hc => by rw [h.tl]; exact h.b.1 c hc) c hc
    rwa [h.tl] at this
  · exact he2.1 c hc
theorem law_true50 (ns : List Int) (hl : ns.length ≤ 63) : t_law_v15 [.val (.scr ns)] [] fun w _ => w = .val (.bl true) := by
  unfold t_law_v15
  refine mfun_of ?_
  false_or_by_contra
  refine call_0 rfl (t_open hl fun p hp => ?_) m__law_open
  refine ⟨rfl, p, rfl, hp.nd, ?_⟩
  false_or_by_contra
  refine for_inv (fun r2 ρ S => ∃ (j : Nat) (x2 x3 x4 x5 x6 x7 x8 x9 x10 x11 x12 x13 x14 x15 x16 : Option W) (p' : Ob) (G : Sto), ρ = [some (.val (.scr ns)), some (.ref 0), x2, x3, x4, x5, x6, x7, x8, x9, x10, x11, x12, x13, x14, x15, x16] ∧ S = p' :: G ∧ Pen (j * 200000) p' ∧ j + r2.length = 3) ?_ ?_ _ _ _ ⟨0, _, _, _, _, _, _, _, _, _, _, _, _, _, _, _, p, [], rfl, rfl, by rw [Nat.zero_mul]; exact hp, by rw [rangeL_length]; rfl⟩
  · rintro ρ S ⟨j, x2, x3, x4, x5, x6, x7, x8, x9, x10, x11, x12, x13, x14, x15, x16, p', G, rfl, rfl, hp', hn⟩
    clean_wf
  · rintro d r2 ρ S K hK ⟨j, x2, x3, x4, x5, x6, x7, x8, x9, x10, x11, x12, x13, x14, x15, x16, p', G, rfl, rfl, hp', hn⟩
    rw [List.length_cons] at hn
    subst_eqs
    false_or_by_contra
    refine call_1 rfl rfl hp'.nd (t_wide_web (nr := 2) (often := 2) (size := 3) (most := 2) hp' (by omega) (by omega) (by omega) (by omega) (by omega) (by omega) (by omega) (by omega) (by omega) fun sg rows p1 hs s0 s3 r1 r2' hrows hp1 => ⟨p1, [], rfl, ?_⟩) m__law_wide_web
    have hw := web_S hs s0 r1 (by omega) (by omega) (by omega) hrows
    have wbt := web_bt (by omega) (by omega) (by omega) hrows
    obtain ⟨g1, g2, w1, w2, w3⟩ := hw.sg0
    subst_eqs
    false_or_by_contra
    refine call_1 rfl rfl hp1.nd (t_any_frame (most := 4) hp1 (by omega) hw.s hw.w3 hw.ne hw.l3 s0 (by omega) hw.head (by omega) fun f p2 hf hf4 hp2 => ⟨p2, [], rfl, ?_⟩) m__law_any_frame
    have fbt := frm_bt hw hf hf4
    have f1 : atI [D.tup (f.pieces.map D.str), .tup (f.holes.map holeD), .tup (f.dues.map dueD)] 1 = some (.tup (f.holes.map holeD)) := rfl
    subst_eqs
    unfold frmD
    subst_eqs
    rw [show f.holes.map holeD = f.holes.map (fun h => D.tup [natD h.1, lotD h.2]) from rfl, enumL_map2]
    refine for_ix (fun q : (Nat × Lot) × Nat => D.tup [.int (q.2 : Nat), .tup [natD q.1.1, lotD q.1.2]]) (fun i ρ S => ∃ (x5 x6 x7 x8 x9 x10 x11 x12 x13 x14 x15 x16 : Option W) (p3 : Ob) (G3 : Sto), ρ = [some (.val (.scr ns)), some (.ref 0), some (.val d), some (.val (.tup (rows.map rowD))), some (.val (frmD f)), x5, x6, x7, x8, x9, x10, x11, x12, x13, x14, x15, x16] ∧ S = p3 :: G3 ∧ Pen (j * 200000 + 90000 + 10000 * i) p3) f.holes.zipIdx ?_ ?_ ?_
    · rintro ρ S ⟨x5, x6, x7, x8, x9, x10, x11, x12, x13, x14, x15, x16, p3, G3, rfl, rfl, hp3⟩
      rw [List.length_zipIdx] at hp3
      exact hK _ _ ⟨j + 1, _, _, _, _, _, _, _, _, _, _, _, _, _, _, _, p3, G3, rfl, rfl, hp3.mono (by omega), by omega⟩
    · rintro i ⟨⟨hj, l⟩, kk⟩ hi ρ S K2 hK2 ⟨x5, x6, x7, x8, x9, x10, x11, x12, x13, x14, x15, x16, p3, G3, rfl, rfl, hp3⟩
      obtain ⟨e1, e2⟩ := zipIdx_get hi
      dsimp only at e1 e2
      subst e2
      have hok := hf.hl _ (List.mem_of_getElem? e1)
      have hi4 : kk < f.holes.length := (List.getElem?_eq_some_iff.mp e1).1
      have l9 : l.signs.length ≤ 9 := hok.l9
      have lok : LotOk l := hok.ok
      have lne : l.signs ≠ [] := hok.ne
      dsimp only
      subst_eqs
      false_or_by_contra
      refine ix_t w1 ?_
      subst_eqs
      refine ix_t w2 ?_
      subst_eqs
      refine ix_t w3 ?_
      subst_eqs
      false_or_by_contra
      refine call_1 rfl rfl hp3.nd (t_any_maker hp3 (by omega) hs s0 lok l9 fun b r p4 hmk hp4 => ⟨p4, [], rfl, ?_⟩) m__law_any_maker
      have mbt := mkr_bt hmk hs l9
      subst_eqs
      false_or_by_contra
      refine lc_inv (fun r2 acc S => ∃ (p5 : Ob), S = p5 :: G3 ∧ (∀ x ∈ acc, Bt 6 (10 ^ 20) 6460 x) ∧ Pen (j * 200000 + 90000 + 10000 * kk + 2000 + 100 * acc.length) p5 ∧ acc.length + r2.length = 5) ?_ ?_ _ _ _ ⟨p4, rfl, fun x hx => (by cases hx), hp4.mono (by show _ ≤ _ + 100 * 0; omega), by rw [rangeL_length]; rfl⟩
      · rintro acc S ⟨p5, rfl, hacc, hp5, hn5⟩
        rw [List.length_nil] at hn5
        subst_eqs
        have allB : ∀ x ∈ [mkrD b r] ++ acc, Bt 6 (10 ^ 20) 6460 x := fun x hx => by
          rcases List.mem_append.mp hx with hx | hx
          · rw [List.mem_singleton.mp hx]
            exact mbt.mono (by omega) (Nat.le_refl _) (by omega)
          · exact hacc x hx
        have lenL : ([mkrD b r] ++ acc).length = 6 := by rw [List.length_append]; show 1 + acc.length = 6; omega
        generalize [mkrD b r] ++ acc = L at allB lenL
        obtain ⟨Li, xl, eL⟩ : ∃ Li xl, L = Li ++ [xl] := by
          rcases List.eq_nil_or_concat L with e | ⟨a, x, e⟩
          · rw [e] at lenL; cases lenL
          · exact ⟨a, x, by rw [e, List.concat_eq_append]⟩
        have bxl := allB xl (by rw [eL]; simp)
        refine sSeq_i (sExpr_i (mMethC_i (mVar_i rfl (asCell_i (cell_at2 (S := p5 :: G3) (ob := .lst L) rfl) ?_))))
        subst_eqs
        refine rd_l (cell_at2 (S := p5 :: G3) (ob := .lst L) rfl) ?_
        subst_eqs
        refine ix_l (x := -1) (d := xl) (by rw [eL]; exact atI_last) ?_
        subst_eqs
        refine call_1 rfl rfl hp5.nd (t_bentM hs s0 6 40 (by omega) hp5 (by omega) (by omega) bxl (by decide) (by decide) (by omega) fun y p6 hy hp6 => ⟨p6, [], rfl, ?_⟩) (m__law_bent_v1 40)
        subst_eqs
        refine asCell_i (cell_at2 (S := p6 :: G3) (ob := .lst L) rfl) (append_i (by unfold sizeLine; omega) ?_)
        rw [show ((p5 :: G3 ++ [Ob.lst L]).set 0 p6).set (p5 :: G3).length (Ob.lst (L ++ [y])) = (p6 :: G3) ++ [Ob.lst (L ++ [y])] from cell_set2 (S := p6 :: G3) rfl]
        have allC : ∀ x ∈ L ++ [y], Bt 7 (10 ^ 20) 12980 x := fun x hx => by
          rcases List.mem_append.mp hx with hx | hx
          · exact (allB x hx).mono (by omega) (Nat.le_refl _) (by omega)
          · rw [List.mem_singleton.mp hx]
            exact hy
        generalize L ++ [y] = L2 at allC
        false_or_by_contra
        refine mFrz_r rfl (cell_at2 (S := p6 :: G3) (ob := .lst L2) rfl) ?_
        rw [show ((p6 :: G3) ++ [Ob.lst L2]).set (p5 :: G3).length Ob.dead = (p6 :: G3) ++ [Ob.dead] from cell_set2 (S := p6 :: G3) rfl]
        subst_eqs
        refine for_inv (fun r2 ρ S => ∃ (x9 x13 x15 x16 : Option W), ρ = [some (.val (.scr ns)), some (.ref 0), some (.val d), some (.val (.tup (rows.map rowD))), some (.val (frmD f)), some (.val (.int (kk : Nat))), some (.val (.tup [natD hj, lotD l])), some (.val (mkrD b r)), some (.ref (p5 :: G3).length), x9, x10, some (.val (.str sg)), some (.val (lotD l)), x13, x14, x15, x16] ∧ S = p6 :: (G3 ++ [.dead]) ∧ ∀ x ∈ r2, Bt 7 (10 ^ 20) 12980 x) ?_ ?_ _ _ _ ⟨_, _, _, _, rfl, rfl, allC⟩
        · rintro ρ S ⟨x9, x13, x15, x16, rfl, rfl, _⟩
          subst_eqs
          refine for_inv (fun r2 ρ S => ∃ (p7 : Ob) (x10 x14 : Option W) (q : Nat), ρ = [some (.val (.scr ns)), some (.ref 0), some (.val d), some (.val (.tup (rows.map rowD))), some (.val (frmD f)), some (.val (.int (kk : Nat))), some (.val (.tup [natD hj, lotD l])), some (.val (mkrD b r)), some (.ref (p5 :: G3).length), x9, x10, some (.val (.str sg)), some (.val (lotD l)), x13, x14, x15, x16] ∧ S = p7 :: (G3 ++ [.dead]) ∧ Pen (j * 200000 + 90000 + 10000 * kk + 6000 + 20 * q) p7 ∧ q + r2.length = 3) ?_ ?_ _ _ _ ⟨p6, _, _, 0, rfl, rfl, hp6.mono (by omega), by rw [rangeL_length]; rfl⟩
          · rintro ρ S ⟨p7, x10, x14, q, rfl, rfl, hp7, hq⟩
            rw [List.length_nil] at hq
            exact hK2 _ _ ⟨_, _, _, _, _, _, _, _, _, _, _, _, p7, G3 ++ [.dead], rfl, rfl, hp7.mono (by omega)⟩
          · rintro d3 r3 ρ S K4 hK4 ⟨p7, x10, x14, q, rfl, rfl, hp7, hq⟩
            rw [List.length_cons] at hq
            subst_eqs
            false_or_by_contra
            refine ix_t (x := 0) (d := .str l.signs) rfl ?_
            subst_eqs
            refine call_1 rfl rfl hp7.nd (t_some_text hp7 lne (by omega) (by omega) (by omega) (by omega) fun t p8 ht1 ht2 hp8 => ⟨p8, [], rfl, ?_⟩) m__law_some_text
            subst_eqs
            refine call_0 rfl (t_written_ok hmk (by omega) ht1 (by omega) ?_) m_written
            subst_eqs
            refine call_0 rfl (t_dueM_ok hmk (by omega) ht1 (by omega) ?_) m__law_due_v1
            subst_eqs
            refine call_0 rfl (same_ok 0 (.str (wrM b r t)) _ (fun c hc => pool_lt3 c (hs.pool c (wrM_sg hmk ht1 c hc))) ?_ 40 (by omega)) (m__law_same 40)
            subst_eqs
            exact hK4 _ _ ⟨p8, _, _, q + 1, rfl, rfl, hp8.mono (by omega), by omega⟩
        · rintro x r2 ρ S K4 hK4 ⟨x9, x13, x15, x16, rfl, rfl, hB⟩
          have bx := hB x List.mem_cons_self
          have bt : Bt 8 (10 ^ 20) 65000 (.lst [.tup (rows.map rowD), frmD f, x]) := (BtL.cons wbt (BtL.cons fbt (BtL.cons bx BtL.nil))).lst (by omega)
          obtain ⟨z, hz⟩ : ∃ z, shownX (.lst [.tup (rows.map rowD), frmD f, x]) = z := ⟨_, rfl⟩
          subst_eqs
          false_or_by_contra
          refine fit_repr2 bt.toFit hz (by omega) (by unfold sizeLine; omega) ?_
          subst_eqs
          false_or_by_contra
          refine call_0 rfl (t_is_maker_any bx.toFit (by omega) (by omega) ⟨_, g1, g2, rfl, w1, w2, w3⟩ ⟨_, f.holes.map holeD, [natD hj, lotD l], [.str l.signs, .tup (l.sts.map lstD)], rfl, rfl, atI_nat (by rw [List.getElem?_map, e1]; rfl), rfl, rfl⟩ ?_) m_is_maker
          subst_eqs
          refine call_0 rfl (t_law_is_maker_any bx.toFit (by omega) (by omega) ⟨[.str l.signs, .tup (l.sts.map lstD)], rfl, rfl⟩ ?_) m__law_is_maker
          subst_eqs
          refine call_0 rfl (same_ok 0 (.bl _) _ trivial ?_ 40 (by omega)) (m__law_same 40)
          subst_eqs
          refine fit_repr2 bt.toFit hz (by omega) (by unfold sizeLine; omega) ?_
          subst_eqs
          rw [decide_eq_true rfl]
          subst_eqs
          exact hK4 _ _ ⟨_, _, _, _, rfl, rfl, fun y hy => hB y (List.mem_cons_of_mem _ hy)⟩
      · rintro d2 r2 acc S K3 hK3 ⟨p5, rfl, hacc, hp5, hn5⟩
        rw [List.length_cons] at hn5
        subst_eqs
        refine call_1 rfl rfl hp5.nd (t_bentM hs s0 5 40 (by omega) hp5 (by omega) (by omega) mbt (by decide) (by decide) (by omega) fun x p6 hx hp6 => ⟨p6, [], rfl, ?_⟩) (m__law_bent_v1 40)
        subst_eqs
        refine lcput_i (by unfold sizeLine; omega) ?_
        refine hK3 _ _ ⟨p6, rfl, fun y hy => ?_, hp6.mono (by rw [List.length_append]; show _ ≤ _ + 100 * (acc.length + 1); omega), by rw [List.length_append]; show acc.length + 1 + _ = _; omega⟩
        rcases List.mem_append.mp hy with hy | hy
        · exact hacc y hy
        · rw [List.mem_singleton.mp hy]
          exact hx.mono (by omega) (Nat.le_refl _) (by omega)
    · exact ⟨_, _, _, _, _, _, _, _, _, _, _, _, p2, G, rfl, rfl, hp2.mono (by omega)⟩
end Fo
/-! The end. Printed by gen.py. -/
theorem PySem.Challenge.cw_foeholes_k50_makers_known_holds : PySem.Challenge.rw_foeholes_k50_makers_known.Holds := by
  exact PySem.Challenge.cw_foeholes_k50_makers_known_from Fo.law_true50
