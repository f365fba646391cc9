import PyProof.Rows.All
import Wide.All
import OpenK.AllK
import Wide.FinOn
import HandS.ForMost
import HandS.Walk
import HandS.Flow
import HandS.IsInst
import HandS.Defaults
import HandS.Exc
import HandS.HeadEnd
import KE.KDictKeyed
import KE.KeyNested
import HandS.ExcInit
import HandS.ExcValue
import HandS.TupAny
import PyProof.StrOps2
import HandS.TupMul
import HandS.Style
import HandS.Deep
import HandS.More
import HandS.Replace
import HandS.StrMore
import HandS.Zip
import PyProof.ListStr
import PyProof.ReprRoads
import PyProof.Rows.StrLawsPart
import HandS.Steps
import HandS.HeadHook2
import KE.GoesZip
import KE.GoesMore
import KE.GoesEnumKw
import HandS.SortKw
import KE.GoesEnum
import KE.KRevSl
import PyProof.Rows.StrRev
import KE.KStateDown
import Lean
import HandS.Head0
import HandS.Head1
import HandS.Head2
import HandS.HeadHook1
import HandS.Dict
import HandS.Small
import KE.KDictDisplayH
import PyProof.StrWalks
import PyProof.Rows.SetFrom
import PyProof.Rows.SortShellAny
import PyProof.FactsAll.subtypes_3
import HandS.Set
import HandS.SetFor
import PyProof.CollectStr
import HandS.TupLen
import HandS.ExcField
import HandS.ExcIs
import KE.KExcIs
import PySem.Challenge.RW_foeholes_k14_refusals_made_by_hand
import KE.SortData
set_option Elab.async false
set_option linter.all false
set_option maxRecDepth 100000
set_option maxHeartbeats 4000000
/-! Core0: promises of defs that run where no repr is under way (A.guards = some []): what repr's rules want. -/
namespace Fo
open PySem PySem.Spec PyProof.Rows L2
structure FnG (P : Program) (w : World) (K : PySem.W.Frag) (mg : Str → Option Value) (base : Heap) (CX : CXT) (k : Nat) (f : Addr) (fd : FuncData) (ps : List Str) (sp : Sp) : Prop where
  len : ∀ vs H Q E, sp vs H Q E → vs.length = ps.length
  go : ∀ (A : Around) (outer : List Env) (s : Shared) (H : Hp) (args : Args) (us : List Value) (vs : List V) (Q : VK) (E : XK), Room k A → A.guards = some [] → Env0 P w K mg base A outer s H → BindsTo s fd args (ps.zip us) → Vals vs us → sp vs H Q E →
    codeAny (model P w) A (.call (.ref f) args) (CR CX outer P w H s Q E) s
theorem FnG.mono {P : Program} {w : World} {K : PySem.W.Frag} {mg : Str → Option Value} {base : Heap} {CX : CXT} {j k : Nat} {f : Addr} {fd : FuncData} {ps : List Str} {sp : Sp} (F : FnG P w K mg base CX j f fd ps sp) (h : j ≤ k) : FnG P w K mg base CX k f fd ps sp :=
  ⟨F.len, fun A o s H as us vs Q E r => F.go A o s H as us vs Q E (r.mono h)⟩
theorem FnG.imp {P : Program} {w : World} {K : PySem.W.Frag} {mg : Str → Option Value} {base : Heap} {CX : CXT} {k : Nat} {f : Addr} {fd : FuncData} {ps : List Str} {sp sp' : Sp} (F : FnG P w K mg base CX k f fd ps sp) (h : ∀ vs H Q E, sp' vs H Q E → sp vs H Q E) : FnG P w K mg base CX k f fd ps sp' :=
  ⟨fun vs H Q E q => F.len vs H Q E (h _ _ _ _ q), fun A o s H as us vs Q E r g e b v q => F.go A o s H as us vs Q E r g e b v (h _ _ _ _ q)⟩
/-- what stands where a def ends -/
theorem end_of {CX : CXT} {P : Program} {w : World} {K : PySem.W.Frag} {mg : Str → Option Value} {base : Heap} {N : List Str} {qual : Str} {scope : Scope} {f : Addr} {cd : Value} {A : Around} {outer : List Env} {s s' : Shared} {H : Hp} {E : XK} {Q : VK} {fl : Flow}
    (h : SP (cxOf CX P w K mg base N qual scope f cd A outer s H E) [] { nx := fun _ H' => Q .non H', rt := Q } fl s') : (fl = .next ∧ CE outer P w H s Q .none s') ∨ ∃ u, fl = .ret u ∧ CE outer P w H s Q u s' := by
  cases fl with
  | brk => obtain ⟨_, _, _, no⟩ := h; exact no.elim
  | cont => obtain ⟨_, _, _, no⟩ := h; exact no.elim
  | next =>
    obtain ⟨_, H2, J, q⟩ := h
    exact .inl ⟨rfl, .non, H2, J.os, J.bare, J.base, J.hok, rfl, q⟩
  | ret u =>
    obtain ⟨v, _, H2, J, rv, q⟩ := h
    exact .inr ⟨u, rfl, v, H2, J.os, J.bare, J.base, J.hok, rv, q⟩
theorem fnG_of {CX : CXT} {P : Program} {w : World} {K : PySem.W.Frag} {mg : Str → Option Value} {base : Heap} {x qual : Str} {params : Arguments} {bd : List Stmt} {scope : Scope} {dvs : List V} {kws : List (Str × V)} {f : Addr} {fd : FuncData} {N ps : List Str} {k : Nat} {sp : Sp}
    (F : FunD K x qual params bd scope dvs kws f fd) (S : FnScope N ps scope) (len : ∀ vs H Q E, sp vs H Q E → vs.length = ps.length)
    (body : ∀ (cdv : Value) (A : Around) (outer : List Env) (s : Shared) (H : Hp) (vs : List V) (Q : VK) (E : XK), Room k (A.deeper (envOfC qual scope s.heap.objs.size f cdv)) → A.guards = some [] → sp vs H Q E →
      ∃ t, PSs (cxOf CX P w K mg base N qual scope f cdv A outer s H E) bd t ∧ t { nx := fun _ H' => Q .non H', rt := Q } (L2.start N vs) H) : FnG P w K mg base CX (k + 1) f fd ps sp := by
  obtain ⟨_, _, dV, kV, doc, pm, an, cdv, ct, _, hfd, lk, hcd, _, _⟩ := F.ex
  subst hfd
  refine ⟨len, fun A outer s H args us vs Q E room hgd e0 hbind rel hsp => ?_⟩
  have stood : ∀ b o, base.get? b = some o → s.heap.get? b = some o := fun b o e => (e0.bs b o e).1
  have KX : K.In s.heap := e0.mod.kin.keeps stood
  refine codeAny_call_function room.depth (KX _ _ lk) rfl S.co S.gen rfl (PySem.W.codeRec_of KX hcd) (hbind _ _ _ _ (wpAny_newFunctionEnv_cells S.kind (fun y hy => ?_) fun env eenv s1 made => ?_))
  · obtain ⟨hy1, _⟩ := List.of_mem_zip (a := y.1) (b := y.2) hy
    exact (S.par y.1 hy1).imp id fun c => ⟨c, PySem.W.cellsFrom_some _ _ _ (.inl c)⟩
  · subst eenv
    obtain ⟨t, ht, q⟩ := body cdv A outer s H vs Q E (room.deeper _) hgd hsp
    refine ⟨(e0.mod.nolimit.keeps stood).keeps made.toInCall.keep, codeAny_func (wpAny_mono (ht.run [] s1 _ H _ (inv_start S room.hd e0 (len _ _ _ _ hsp) rel made) q) (fun fl s' hs => ?_) fun e s' hs => hs)⟩
    rcases end_of hs with ⟨rfl, z⟩ | ⟨u, rfl, z⟩
    · exact z
    · exact z
section
variable {X : Cx} {CX : CXT} {k n : Nat} {f : Addr} {fd : FuncData} {ps ks : List Str} {sp : Sp} {dvs : List V} {ds : List Value} {E : XK} {x : Str} {p pos : Pos} {e : Expr} {es : List Expr} {t tk : TA} {kws : List Keyword} {g : List Value → List Value → List Value} {gV : List V → List V → List V}
theorem back_of {pins : List (Addr × Obj)} {σ : L2.St} {H : Hp} {s s' : Shared} {Q : VK} {r : Result} (hx : Passes CX X E) (I : Inv X pins σ H s) (h : CR CX X.stack X.prog X.w H s Q E r s') :
    (∃ e, r = .error e ∧ X.xe e s') ∨ ∃ u, r = .ok (.ret u) ∧ EP X pins σ Q u s' := by
  cases r with
  | error e => exact .inl ⟨e, rfl, hx pins σ H s e s' I h⟩
  | ok fl =>
    cases fl with
    | ret u => exact .inr ⟨u, rfl, I.after h⟩
    | next => exact h.elim
    | brk => exact h.elim
    | cont => exact h.elim
theorem go_call {pins : List (Addr × Obj)} {σ : L2.St} {H : Hp} {s : Shared} {Q : VK} {args : Args} {us : List Value} {vs : List V} {k2 : List (Str × Value)} {u2 : List Value} (hargs : args = ⟨u2, k2⟩) (F : FnG X.prog X.w X.K X.mg X.base CX k f fd ps sp) (hr : Room k X.A) (hgd : X.A.guards = some []) (hx : Passes CX X E)
    (I : Inv X pins σ H s) (hb : BindsTo s fd args (ps.zip us)) (r : Vals vs us) (h : sp vs H Q E) : wpAny (model X.prog X.w) X.A (call (.ref f) u2 k2) (EP X pins σ Q) X.xe s := by
  subst hargs
  refine wpAny_call (codeAny_mono (F.go X.A X.stack s H _ us vs Q E hr hgd I.env0 hb r h) fun r s' hq => ?_)
  rcases back_of hx I hq with ⟨e, rfl, z⟩ | ⟨u, rfl, z⟩
  · exact z
  · exact z
theorem pe_callG (F : FnG X.prog X.w X.K X.mg X.base CX k f fd ps sp) (hr : Room k X.A) (hgd : X.A.guards = some []) (hg : Gl X x) (hm : X.mg x = some (.ref f)) (hk : PySem.W.keepIn X.K (.ref f) = true) (hb : Binds X.K fd ps ds) (hd : Vals dvs ds) (hx : Passes CX X E)
    (ha : PA X (e :: es) t) (hdb : (x == ("__debug__" : Str)) = false := by decide) (he : starEach (e :: es) X.env = (false, eval e X.env) :: starEach es X.env := by rfl) (hpl : (backTo pos (starEach es X.env)).any (·.1) = false := by rfl) :
    PE X (.Call (.Name x p) (e :: es) [] pos) (tCall sp dvs E t) := by
  refine ⟨fun pins s σ H Q I h => wpAny_Call_Name_kw (ld_glob I hg hm (PySem.W.callWith_K (h₀ := X.base) I.ok.mod.kin hk (thn (ha.run pos pins s σ H _ I h) fun us s1 h1 => ?_) he hpl) hdb)⟩
  obtain ⟨vs, H1, I1, rel, q⟩ := h1
  have rel2 : Vals (vs ++ dvs) (us ++ ds) := rel.append hd
  exact ⟨I1.kIn, go_call rfl F hr hgd hx I1 (hb s1 us I1.kIn (rel2.length.symm.trans (F.len _ _ _ _ q))) rel2 q⟩
end
/-! ### the law's call -/
/-- what stands where the modules' own dict is: it is no list -/
def SysH (H : Hp) : Prop := ∃ o, H sysModules = some (.frz o (.own 0))
def scriptHp (K : PySem.W.Frag) (so : Obj) (a : Addr) (vs : List Value) (ns : List Int) : Hp := fun b => if b = a ∧ K.lookup a = none then some (.frz { cls := .type "list", data := .seq vs.toArray } (.lst (ns.map V.int))) else if b = sysModules then some (.frz so (.own 0)) else none
theorem law_callG {P : Program} {w : World} {K : PySem.W.Frag} {mg mb : Str → Option Value} {CX : CXT} {k : Nat} {fa a : Addr} {fd : FuncData} {x : Str} {sp : Sp} {s1 : Shared} {vs : List Value} {ns : List Int} {so : Obj}
    (KX : K.In s1.heap) (hns : s1.heap.Ns mainGlobals mg) (hb : s1.heap.Ns builtinsNs mb) (hbb : ∀ x : Str, x ≠ "__name__" → mb x = bootBuiltins x) (hlim : s1.heap.NoLimit) (hg : s1.gens = #[])
    (ho : s1.heap.get? sysModules = some so) (hod : ∀ z n, so.data ≠ .seq z n) (hK : K.lookup sysModules = none)
    (ha : s1.heap.get? a = some { cls := .type "list", data := .seq vs.toArray }) (hi : IntsAre vs ns) (hl : ns.length ≤ sizeLine) (hr : Room k callerA)
    (F : ∀ base : Heap, K.In base → base.Ns mainGlobals mg → FnG P w K mg base CX k fa fd [x] sp) (hbind : ∀ (s : Shared) (u : Value), BindsTo s fd ⟨[u], []⟩ [(x, u)])
    (hsp : ∀ H : Hp, SysH H → SqL K H a (ns.map V.int) → sp [.ref a] H (fun v _ => v = .bl true) fun _ _ _ => False)
    (hCX : ∀ H e s', CX [] H s1 (fun _ _ _ => False) e s' → False) :
    codeAny (model P w) callerA (.call (.ref fa) ⟨[.ref a], []⟩) (fun r s' => r = .ok (.ret (.bool true)) ∧ OldK s1.heap s'.heap ∧ s'.os = s1.os ∧ AllBare s'.gens) s1 := by
  have rel : Vals (ns.map V.int) vs := vals_ints hi
  have lv : vs.length = ns.length := by have := rel.length; rw [List.length_map] at this; exact this.symm
  have nas : sysModules ≠ a := fun z => by
    rw [z, ha] at ho
    cases ho
    exact hod _ _ rfl
  let H : Hp := scriptHp K so a vs ns
  have Hcase : ∀ b o, H b = some o → (b = a ∧ K.lookup a = none ∧ o = .frz { cls := .type "list", data := .seq vs.toArray } (.lst (ns.map V.int))) ∨ (b = sysModules ∧ o = .frz so (.own 0)) := fun b o e => by
    have e' : (if b = a ∧ K.lookup a = none then some (HO.frz { cls := .type "list", data := .seq vs.toArray } (.lst (ns.map V.int))) else if b = sysModules then some (.frz so (.own 0)) else none) = some o := e
    by_cases c : b = a ∧ K.lookup a = none
    · rw [if_pos c] at e'
      exact .inl ⟨c.1, c.2, (Option.some.inj e').symm⟩
    · rw [if_neg c] at e'
      by_cases c2 : b = sysModules
      · rw [if_pos c2] at e'
        exact .inr ⟨c2, (Option.some.inj e').symm⟩
      · rw [if_neg c2] at e'
        cases e'
  have Hsys : SysH H := by
    refine ⟨so, ?_⟩
    show (if sysModules = a ∧ K.lookup a = none then _ else if sysModules = sysModules then some (HO.frz so (.own 0)) else none) = _
    rw [if_neg (fun z => nas z.1), if_pos rfl]
  have hok : HOk P w H s1.heap := fun b o e => by
    rcases Hcase b o e with ⟨rfl, _, rfl⟩ | ⟨rfl, rfl⟩
    · exact ⟨ha, by rw [List.length_map]; exact hl, vs, _, rel, ha⟩
    · exact ⟨ho, so, ho⟩
  have hS : SqL K H a (ns.map V.int) := by
    cases q : K.lookup a with
    | none => exact .inl (.inr ⟨_, if_pos ⟨rfl, q⟩⟩)
    | some o =>
      have e := KX a o q
      rw [ha] at e
      cases e
      exact .inr ⟨_, vs.toArray, _, q, rfl, rfl, rfl, by rw [List.size_toArray, lv]; exact hl, rel⟩
  -- what is no list stands outside of what is tracked
  have out : ∀ {b : Addr} {o : Obj}, s1.heap.get? b = some o → (∀ z n, o.data ≠ .seq z n) → b ≠ sysModules → H b = none := fun {b o} e nd ns2 => by
    cases q : H b with
    | none => rfl
    | some u =>
      rcases Hcase b u q with ⟨rfl, _, _⟩ | ⟨rfl, _⟩
      · rw [ha] at e
        cases e
        exact (nd _ _ rfl).elim
      · exact (ns2 rfl).elim
  have ns_hid : ∀ {b : Addr} {m : Str → Option Value}, b ≠ sysModules → s1.heap.Ns b m → (hidT s1.heap H).Ns b m := fun {b m} nb h => by
    obtain ⟨o, es, ep, e, d, r⟩ := h
    exact ⟨o, es, ep, hidT_get e (out e (fun z n y => by rw [d] at y; cases y) nb), d, r⟩
  have K_hid : K.In (hidT s1.heap H) := fun b o e => hidT_get (KX b o e) (by
    cases q : H b with
    | none => rfl
    | some u =>
      rcases Hcase b u q with ⟨rfl, no, _⟩ | ⟨rfl, _⟩
      · rw [no] at e; cases e
      · rw [hK] at e; cases e)
  have lim : (hidT s1.heap H).NoLimit := by
    obtain ⟨mc, n1, n2⟩ := hlim
    exact ⟨mc, ns_hid (by decide) n1, n2⟩
  have e0 : Env0 P w K mg (hidT s1.heap H) callerA [] s1 H :=
    { frames := rfl, mod := ⟨K_hid, ns_hid (by decide) hns, ⟨mb, ns_hid (by decide) hb, hbb⟩, lim⟩, bs := fun b o e => of_hidT e, bsz := Nat.le_of_eq (hidT_size _ _), funs := trivial, frf := fun b z => (nomatch z), hok := hok, bare := .of_eq hg }
  refine codeAny_mono ((F _ K_hid (ns_hid (by decide) hns)).go callerA [] s1 H ⟨[.ref a], []⟩ [.ref a] [.ref a] _ _ hr rfl e0 (hbind s1 (.ref a)) (.cons rfl .nil) (hsp H Hsys hS)) fun r s' h => ?_
  cases r with
  | error e => exact (hCX H e s' h).elim
  | ok fl =>
    cases fl with
    | next => exact h.elim
    | brk => exact h.elim
    | cont => exact h.elim
    | ret u =>
      obtain ⟨v, H', os, bare, un, hok', rv, q⟩ := h
      obtain rfl : v = .bl true := q
      obtain rfl : u = Value.bool true := rv
      refine ⟨rfl, OldK.of_keep fun b o e => ?_, os, bare⟩
      cases q : H b with
      | none => exact un.keep b o e q (fun z => (nomatch z)) fun z => (nomatch z)
      | some y =>
        rcases Hcase b y q with ⟨_, _, rfl⟩ | ⟨_, rfl⟩
        · have was := (hok b _ q).1
          rw [e] at was
          cases was
          exact (hok' b _ (un.frzs b _ _ q)).1
        · have was := (hok b _ q).1
          rw [e] at was
          cases was
          exact (hok' b _ (un.frzs b _ _ q)).1
/-- what is told of the heap, with the modules' own dict -/
def SysOk (K : PySem.W.Frag) (h : Heap) : Prop := K.lookup sysModules = none ∧ ∃ o, h.get? sysModules = some o ∧ ∀ z n, o.data ≠ .seq z n
theorem walkG {l : PySem.W.OpenLaw} {n k : Nat} {q : Program} {loose : List Str} {XP : (Str → Option Value) → Heap → Prop} {YP : World → Heap → Prop} {d : DefRec} {CX : CXT} {x : Str}
    (hn : l.most = some n) (hn2 : n ≤ sizeLine) (hdf : d.params.defaults = []) (hr : Room k callerA)
    (F : ∀ (w : World) (mg : Str → Option Value) (fa : Addr) (h : Heap), YP w h → h.Ns mainGlobals mg → mg d.name = some (.ref fa) →
      ∃ (K : PySem.W.Frag) (fd : FuncData) (sp : Sp), K.In h ∧ SysOk K h ∧ (∀ (s : Shared) (u : Value), BindsTo s fd ⟨[u], []⟩ [(x, u)]) ∧
        (∀ (H : Hp) (a : Addr) (ns : List Int), ns.length ≤ n → SysH H → SqL K H a (ns.map V.int) → sp [.ref a] H (fun v _ => v = .bl true) fun _ _ _ => False) ∧
        ∀ base : Heap, K.In base → base.Ns mainGlobals mg → FnG l.prog w K mg base CX k fa fd [x] sp)
    (hCX : ∀ (H : Hp) (s : Shared) (e : Value) (s' : Shared), CX [] H s (fun _ _ _ => False) e s' → False) :
    PySem.W.WalkO q loose XP YP l.row.toRowW d [] (fun f vs => PySem.call f vs) := by
  refine Att.attach_call hn hdf fun w s0 s1 mg mb fa o pm cd doc a vs ns G Y ho hd hcd hmg hobj hints hlen hg => ?_
  obtain ⟨K, fd, sp, KX, ⟨so1, so, so2, so3⟩, hb, hsp, hF⟩ := F w mg fa _ Y G.T.g hmg
  exact law_callG KX G.T.g G.T.b G.T.builtins G.T.nolimit hg so2 so3 so1 hobj hints (Nat.le_trans hlen hn2) hr hF hb (fun H h1 hS => hsp H a ns hlen h1 hS) fun H e s' => hCX H s1 e s'
end Fo
/-! Core1: the clean domain, what it says of the abstract heap, and how it stays. -/
namespace Fo
open PySem PySem.Spec PyProof.Rows L2
/-- the part of the heap that stays, and the world -/
structure Kw where
  K : PySem.W.Frag
  w : World
  mg : Str → Option Value
instance : Coe Kw PySem.W.Frag := ⟨Kw.K⟩
abbrev _root_.L2.Cx.kw (X : Cx) : Kw := ⟨X.K, X.w, X.mg⟩
/-- data that nobody changes -/
inductive D where
  | non | bl (b : Bool) | int (i : Int) | str (l : List Nat) | tup (l : List D) | lst (l : List D) | dct (ks ws : List D) | scr (l : List Int)
/-- a slot's worth: data, an owned cell, a list of owned cells, an instance of a class by its attributes' names and worths, a def, a tuple known to have no dict, an error of a class of one's own by its field, a list of worths -/
inductive W where
  | val (d : D) | ref (n : Nat) | lws (ns : List Nat) | ins (x : Str) (ns : List Str) (fs : List W) | fn (x : Str) | tpl (l : List D) | exv (e : Str × Option (Str × D)) | lsw (ws : List W)
/-- an owned cell -/
inductive Ob where
  | dead | lst (l : List D) | dic (ks ws : List D)
variable {K : Kw}
abbrev Rho := List (Option W)
abbrev Sto := List Ob
def tx (l : List Nat) : Str := ⟨l.toArray⟩
def keyD : Key → D
  | .inl i => .int i
  | .inr x => .str x.cps.toList
mutual
/-- a key as the library names it -/
def nk : D → NestedKey
  | .int i => .num i
  | .bl b => .num (if b then 1 else 0)
  | .str l => .text (tx l)
  | .tup l => .tup (nks l)
  | _ => .none
def nks : List D → List NestedKey
  | [] => []
  | d :: ds => nk d :: nks ds
end
/-- an entry whose key is a tuple -/
def nent (w : World) (x : NestedKey × Addr × Value) : DictEntry := ⟨x.1.hash w, .ref x.2.1, x.2.2⟩
def PdE (y : NestedKey × Addr × V) (x : NestedKey × Addr × Value) : Prop := y.1 = x.1 ∧ y.2.1 = x.2.1 ∧ RelV y.2.2 x.2.2
/-- a dict whose keys are tuples, by what stands in its one object -/
def DicP (w : World) (a : Addr) (ys : List (NestedKey × Addr × V)) (h : Heap) : Prop := (a == sysModules) = false ∧ ys.length ≤ sizeLine ∧
  ∃ xs : List (NestedKey × Addr × Value), Paired PdE ys xs ∧ (xs.map (·.1)).Nodup ∧ ∃ o es ep, h.get? a = some o ∧ o.ExactDict ∧ o.data = .dict es ep ∧ es.toList = xs.map (nent w)
def DicO (w : World) (a : Addr) (ys : List (NestedKey × Addr × V)) : HO := .ext (DicP w a ys)
/-- the thing u at a is a dict of these keys and these values -/
def DicB (K : Kw) (a : Addr) (ks : List D) (kv vs : List V) (u : HO) : Prop := (∃ kvs : List (Key × V), u = .dK kvs ∧ ks = kvs.map (fun p => keyD p.1) ∧ kv = kvs.map (fun p => kV p.1) ∧ vs = kvs.map (·.2)) ∨
  (∃ ys : List (NestedKey × Addr × V), ys ≠ [] ∧ u = DicO K.w a ys ∧ nks ks = ys.map (·.1) ∧ kv = ys.map (fun y => V.ref y.2.1) ∧ vs = ys.map (·.2.2))
def LitL (K : Kw) (a : Addr) (xs : List V) : Prop := ∃ (o : Obj) (its : Array Value) (n : Nat), K.K.lookup a = some o ∧ o.cls = .type "list" ∧ o.dict = none ∧ o.data = .seq its n ∧ its.size ≤ sizeLine ∧ Vals xs its.toList
mutual
def RV (K : Kw) (H : Hp) (av : Addr → Prop) : D → V → Prop
  | .non, v => v = .non
  | .bl b, v => v = .bl b
  | .int i, v => v = .int i
  | .str l, v => v = .str (tx l)
  | .tup ds, v => ∃ a vs, v = .ref a ∧ H a = some (.tup vs) ∧ ¬ av a ∧ RVs K H av ds vs
  | .lst ds, v => ∃ a vs, v = .ref a ∧ H a = some (.lst vs) ∧ ¬ av a ∧ RVs K H av ds vs
  | .scr l, v => ∃ a, v = .ref a ∧ ((Rd H a (.lst (l.map V.int)) ∧ ¬ av a) ∨ LitL K a (l.map V.int))
  | .dct ks ws, v => ∃ a u kv vs, v = .ref a ∧ (∃ o, H a = some (.frz o u)) ∧ ¬ av a ∧ DicB K a ks kv vs u ∧ RVs K H av ks kv ∧ RVs K H av ws vs
def RVs (K : Kw) (H : Hp) (av : Addr → Prop) : List D → List V → Prop
  | [], vs => vs = []
  | d :: ds, vs => ∃ v r, vs = v :: r ∧ RV K H av d v ∧ RVs K H av ds r
end
/-- what is read stays -/
def Stay (H : Hp) (av : Addr → Prop) (H' : Hp) (av' : Addr → Prop) : Prop := ∀ a o, H a = some o → ¬ av a → H' a = some o ∧ ¬ av' a
theorem Rd.stay {H H' : Hp} {av av' : Addr → Prop} {a : Addr} {u : HO} (s : Stay H av H' av') (n : ¬ av a) (r : Rd H a u) : Rd H' a u ∧ ¬ av' a := by
  rcases r with r | ⟨o, r⟩
  · exact ⟨.inl (s a _ r n).1, (s a _ r n).2⟩
  · exact ⟨.inr ⟨o, (s a _ r n).1⟩, (s a _ r n).2⟩
mutual
theorem RV.stay {H H' : Hp} {av av' : Addr → Prop} (s : Stay H av H' av') : ∀ {d : D} {v : V}, RV K H av d v → RV K H' av' d v
  | .non, _, h => h
  | .bl _, _, h => h
  | .int _, _, h => h
  | .str _, _, h => h
  | .scr _, _, h => by
    unfold RV at h ⊢
    obtain ⟨a, e, q⟩ := h
    exact ⟨a, e, q.imp (fun q => Rd.stay s q.2 q.1) fun q => q⟩
  | .tup _, _, h => by
    unfold RV at h ⊢
    obtain ⟨a, vs, e, r, n, q⟩ := h
    exact ⟨a, vs, e, (s a _ r n).1, (s a _ r n).2, RVs.stay s q⟩
  | .lst _, _, h => by
    unfold RV at h ⊢
    obtain ⟨a, vs, e, r, n, q⟩ := h
    exact ⟨a, vs, e, (s a _ r n).1, (s a _ r n).2, RVs.stay s q⟩
  | .dct _ _, _, h => by
    unfold RV at h ⊢
    obtain ⟨a, u, kv, vs, e, ⟨o, r⟩, n, k, q1, q2⟩ := h
    exact ⟨a, u, kv, vs, e, ⟨o, (s a _ r n).1⟩, (s a _ r n).2, k, RVs.stay s q1, RVs.stay s q2⟩
theorem RVs.stay {H H' : Hp} {av av' : Addr → Prop} (s : Stay H av H' av') : ∀ {d : List D} {v : List V}, RVs K H av d v → RVs K H' av' d v
  | [], _, h => h
  | _ :: _, _, h => by
    unfold RVs at h ⊢
    obtain ⟨v, r, e, q, t⟩ := h
    exact ⟨v, r, e, RV.stay s q, RVs.stay s t⟩
end
theorem RVs.nil {H : Hp} {av : Addr → Prop} : RVs K H av [] [] := by unfold RVs; rfl
theorem RVs.cons {H : Hp} {av : Addr → Prop} {d : D} {ds : List D} {v : V} {vs : List V} (h : RV K H av d v) (t : RVs K H av ds vs) : RVs K H av (d :: ds) (v :: vs) := by
  unfold RVs; exact ⟨v, vs, rfl, h, t⟩
theorem RVs.length {H : Hp} {av : Addr → Prop} : ∀ {ds : List D} {vs : List V}, RVs K H av ds vs → vs.length = ds.length
  | [], _, h => by unfold RVs at h; rw [h]; rfl
  | _ :: ds, _, h => by
    unfold RVs at h
    obtain ⟨v, r, rfl, _, t⟩ := h
    rw [List.length_cons, List.length_cons, RVs.length t]
theorem RVs.append {H : Hp} {av : Addr → Prop} : ∀ {ds es : List D} {vs ws : List V}, RVs K H av ds vs → RVs K H av es ws → RVs K H av (ds ++ es) (vs ++ ws)
  | [], _, _, _, h, k => by unfold RVs at h; rw [h]; exact k
  | _ :: ds, _, _, _, h, k => by
    unfold RVs at h
    obtain ⟨v, r, rfl, q, t⟩ := h
    exact RVs.cons q (RVs.append t k)
theorem RVs.get {H : Hp} {av : Addr → Prop} : ∀ {ds : List D} {vs : List V} {i : Nat} {d : D}, RVs K H av ds vs → ds[i]? = some d → ∃ v, vs[i]? = some v ∧ RV K H av d v
  | [], _, _, _, _, e => by simp at e
  | _ :: _, _, 0, _, h, e => by
    unfold RVs at h
    obtain ⟨v, r, rfl, q, _⟩ := h
    simp at e
    subst e
    exact ⟨v, rfl, q⟩
  | _ :: _, _, i + 1, _, h, e => by
    unfold RVs at h
    obtain ⟨v, r, rfl, _, t⟩ := h
    obtain ⟨u, h1, h2⟩ := RVs.get (i := i) t (by simpa using e)
    exact ⟨u, by simpa using h1, h2⟩
theorem RVs.get' {H : Hp} {av : Addr → Prop} {ds : List D} {vs : List V} {i : Nat} {v : V} (h : RVs K H av ds vs) (e : vs[i]? = some v) : ∃ d, ds[i]? = some d ∧ RV K H av d v := by
  have hi : i < ds.length := by rw [← h.length]; exact (List.getElem?_eq_some_iff.mp e).1
  obtain ⟨u, h1, h2⟩ := RVs.get (i := i) h (List.getElem?_eq_getElem hi)
  rw [e] at h1
  cases h1
  exact ⟨_, List.getElem?_eq_getElem hi, h2⟩
theorem RVs.set {H : Hp} {av : Addr → Prop} {d : D} {v : V} (q : RV K H av d v) : ∀ {ds : List D} {vs : List V} (i : Nat), RVs K H av ds vs → RVs K H av (ds.set i d) (vs.set i v)
  | [], _, _, h => by unfold RVs at h; rw [h]; exact RVs.nil
  | _ :: _, _, 0, h => by
    unfold RVs at h
    obtain ⟨v, r, rfl, _, t⟩ := h
    exact RVs.cons q t
  | _ :: _, _, i + 1, h => by
    unfold RVs at h
    obtain ⟨v, r, rfl, q', t⟩ := h
    exact RVs.cons q' (RVs.set q i t)
theorem RVs.take {H : Hp} {av : Addr → Prop} : ∀ {ds : List D} {vs : List V} (n : Nat), RVs K H av ds vs → RVs K H av (ds.take n) (vs.take n)
  | [], _, _, h => by unfold RVs at h; rw [h, List.take_nil, List.take_nil]; exact RVs.nil
  | _ :: _, _, 0, h => RVs.nil
  | _ :: _, _, n + 1, h => by
    unfold RVs at h
    obtain ⟨v, r, rfl, q, t⟩ := h
    exact RVs.cons q (RVs.take n t)
theorem RVs.drop {H : Hp} {av : Addr → Prop} : ∀ {ds : List D} {vs : List V} (n : Nat), RVs K H av ds vs → RVs K H av (ds.drop n) (vs.drop n)
  | [], _, _, h => by unfold RVs at h; rw [h, List.drop_nil, List.drop_nil]; exact RVs.nil
  | _ :: _, _, 0, h => h
  | _ :: _, _, n + 1, h => by
    unfold RVs at h
    obtain ⟨v, r, rfl, q, t⟩ := h
    exact RVs.drop n t
theorem RVs.reverse {H : Hp} {av : Addr → Prop} : ∀ {ds : List D} {vs : List V}, RVs K H av ds vs → RVs K H av ds.reverse vs.reverse
  | [], _, h => by unfold RVs at h; rw [h]; exact RVs.nil
  | _ :: _, _, h => by
    unfold RVs at h
    obtain ⟨v, r, rfl, q, t⟩ := h
    rw [List.reverse_cons, List.reverse_cons]
    exact RVs.append (RVs.reverse t) (RVs.cons q RVs.nil)
theorem RVs.replicate {H : Hp} {av : Addr → Prop} {d : D} {v : V} (q : RV K H av d v) : ∀ n, RVs K H av (List.replicate n d) (List.replicate n v)
  | 0 => RVs.nil
  | n + 1 => RVs.cons q (RVs.replicate q n)
/-! ### cells -/
/-- the addresses of the cells that live, and the others' that are to be kept off -/
def av (A : List (Option Addr)) (B : Addr → Prop) : Addr → Prop := fun a => B a ∨ some a ∈ A
def CellOk (K : Kw) (H : Hp) (av : Addr → Prop) : Option Addr → Ob → Prop
  | none, .dead => True
  | some a, .lst ds => ∃ vs, H a = some (.lst vs) ∧ RVs K H av ds vs
  | some a, .dic ks ws => ∃ u kv vs, H a = some u ∧ DicB K a ks kv vs u ∧ RVs K H av ks kv ∧ RVs K H av ws vs
  | _, _ => False
structure Cells (K : Kw) (H : Hp) (A : List (Option Addr)) (B : Addr → Prop) (S : Sto) : Prop where
  len : A.length = S.length
  at_ : ∀ (n : Nat) (x : Option Addr) (ob : Ob), A[n]? = some x → S[n]? = some ob → CellOk K H (av A B) x ob
  inj : ∀ (n m : Nat) (a : Addr), A[n]? = some (some a) → A[m]? = some (some a) → n = m
  off : ∀ a, some a ∈ A → ¬ B a
  dom : ∀ a, B a → H a ≠ none
  sys : SysH H
  soff : some sysModules ∉ A
/-- from one point of a def's run to a later one -/
structure Keep (A : List (Option Addr)) (H : Hp) (A' : List (Option Addr)) (H' : Hp) : Prop where
  st : ∀ a o, H a = some o → some a ∉ A → H' a = some o ∧ some a ∉ A'
  len : A.length ≤ A'.length
  ix : ∀ (n : Nat) (x : Option Addr), A[n]? = some x → A'[n]? = some x ∨ A'[n]? = some none
theorem Keep.refl {A : List (Option Addr)} {H : Hp} : Keep A H A H := ⟨fun _ _ e n => ⟨e, n⟩, Nat.le_refl _, fun _ _ e => .inl e⟩
theorem Keep.trans {A A1 A2 : List (Option Addr)} {H H1 H2 : Hp} (k : Keep A H A1 H1) (l : Keep A1 H1 A2 H2) : Keep A H A2 H2 where
  st := fun a o e n => let ⟨e1, n1⟩ := k.st a o e n; l.st a o e1 n1
  len := Nat.le_trans k.len l.len
  ix := fun n x e => by
    rcases k.ix n x e with e1 | e1
    · exact l.ix n x e1
    · rcases l.ix n _ e1 with e2 | e2
      · exact .inr e2
      · exact .inr e2
theorem Keep.stay {A A' : List (Option Addr)} {B : Addr → Prop} {H H' : Hp} (k : Keep A H A' H') : Stay H (av A B) H' (av A' B) := fun a o e n =>
  let ⟨e1, n1⟩ := k.st a o e fun z => n (.inr z)
  ⟨e1, fun z => z.elim (fun b => n (.inl b)) n1⟩
/-- something new, that is no cell -/
theorem Keep.upd {A : List (Option Addr)} {H : Hp} {p : Addr} {o : HO} (hp : H p = none) : Keep A H A (upd H p o) :=
  ⟨fun a u e n => ⟨by rw [upd_ne (ne_of_none e hp)]; exact e, n⟩, Nat.le_refl _, fun _ _ e => .inl e⟩
/-- a cell's place, by its number -/
def RN (A : List (Option Addr)) (n : Nat) (v : V) : Prop := A[n]? = some none ∨ ∃ a, A[n]? = some (some a) ∧ v = .ref a
/-- an error of a class of one's own: without a field, with one -/
def ExvR (K : Kw) (H : Hp) (av : Addr → Prop) (e : Str × Option (Str × D)) (v : V) : Prop := ∃ a C, v = .ref a ∧ K.mg e.1 = some (.ref C) ∧ ¬ av a ∧
  ((e.2 = none ∧ H a = some (ExO (.ref C) a)) ∨ ∃ f d dx y, e.2 = some (f, d) ∧ H a = some (exo a C (some dx)) ∧ H dx = some (exd dx [(f, y)]) ∧ ¬ av dx ∧ RV K H av d y)
theorem ExvR.stay {H H' : Hp} {av av' : Addr → Prop} {e : Str × Option (Str × D)} {v : V} (s : Stay H av H' av') (r : ExvR K H av e v) : ExvR K H' av' e v := by
  obtain ⟨a, C, ev, hm, n, r⟩ := r
  rcases r with ⟨e1, h⟩ | ⟨f, d, dx, y, e1, h, hd, nd, rv⟩
  · exact ⟨a, C, ev, hm, (s a _ h n).2, .inl ⟨e1, (s a _ h n).1⟩⟩
  · exact ⟨a, C, ev, hm, (s a _ h n).2, .inr ⟨f, d, dx, y, e1, (s a _ h n).1, (s dx _ hd nd).1, (s dx _ hd nd).2, RV.stay s rv⟩⟩
mutual
def RW (K : Kw) (H : Hp) (A : List (Option Addr)) (B : Addr → Prop) : W → V → Prop
  | .val d, v => RV K H (av A B) d v
  | .ref n, v => A[n]? = some none ∨ ∃ a, A[n]? = some (some a) ∧ v = .ref a
  | .lws ns, v => ∃ a vs, v = .ref a ∧ H a = some (.lst vs) ∧ ¬ av A B a ∧ Paired (RN A) ns vs
  | .ins x ns fs, v => ∃ a C dx vs, v = .ref a ∧ K.mg x = some (.ref C) ∧ H a = some (.ins C dx (ns.zip vs)) ∧ H dx = some (.own a) ∧ ¬ av A B a ∧ ¬ av A B dx ∧ ns.length = vs.length ∧ RWl K H A B fs vs
  | .fn x, v => ∃ f, K.mg x = some (.ref f) ∧ v = .ref f
  | .tpl l, v => ∃ a o vs, v = .ref a ∧ H a = some (.frz o (.tup vs)) ∧ o.dict = none ∧ ¬ av A B a ∧ RVs K H (av A B) l vs
  | .exv e, v => ExvR K H (av A B) e v
  | .lsw ws, v => ∃ a vs, v = .ref a ∧ H a = some (.lst vs) ∧ ¬ av A B a ∧ RWl K H A B ws vs
def RWl (K : Kw) (H : Hp) (A : List (Option Addr)) (B : Addr → Prop) : List W → List V → Prop
  | [], vs => vs = []
  | w :: ws, vs => ∃ v r, vs = v :: r ∧ RW K H A B w v ∧ RWl K H A B ws r
end
theorem RN.keep {H H' : Hp} {A A' : List (Option Addr)} (k : Keep A H A' H') {n : Nat} {v : V} (r : RN A n v) : RN A' n v := by
  rcases r with e | ⟨a, e, q⟩
  · rcases k.ix n _ e with z | z
    · exact .inl z
    · exact .inl z
  · rcases k.ix n _ e with z | z
    · exact .inr ⟨a, z, q⟩
    · exact .inl z
mutual
theorem RW.keep {H H' : Hp} {A A' : List (Option Addr)} {B : Addr → Prop} (k : Keep A H A' H') : ∀ {w : W} {v : V}, RW K H A B w v → RW K H' A' B w v
  | .val d, v, r => by
    unfold RW at r ⊢
    exact RV.stay k.stay r
  | .ref n, v, r => by
    unfold RW at r ⊢
    exact RN.keep k r
  | .lws ns, v, r => by
    unfold RW at r ⊢
    obtain ⟨a, vs, e, h, n, p⟩ := r
    exact ⟨a, vs, e, (k.stay a _ h n).1, (k.stay a _ h n).2, L2.Paired.mapP p fun _ _ q => q.keep k⟩
  | .ins x ns fs, v, r => by
    unfold RW at r ⊢
    obtain ⟨a, C, dx, vs, e, h0, h, hd, n, nd, l, p⟩ := r
    exact ⟨a, C, dx, vs, e, h0, (k.stay a _ h n).1, (k.stay dx _ hd nd).1, (k.stay a _ h n).2, (k.stay dx _ hd nd).2, l, RWl.keep k p⟩
  | .fn x, v, r => by
    unfold RW at r ⊢
    exact r
  | .tpl l, v, r => by
    unfold RW at r ⊢
    obtain ⟨a, o, vs, e, h, d, n, p⟩ := r
    exact ⟨a, o, vs, e, (k.stay a _ h n).1, d, (k.stay a _ h n).2, RVs.stay k.stay p⟩
  | .exv e, v, r => by
    unfold RW at r ⊢
    exact ExvR.stay k.stay r
  | .lsw ws, v, r => by
    unfold RW at r ⊢
    obtain ⟨a, vs, e, h, n, p⟩ := r
    exact ⟨a, vs, e, (k.stay a _ h n).1, (k.stay a _ h n).2, RWl.keep k p⟩
theorem RWl.keep {H H' : Hp} {A A' : List (Option Addr)} {B : Addr → Prop} (k : Keep A H A' H') : ∀ {w : List W} {v : List V}, RWl K H A B w v → RWl K H' A' B w v
  | [], _, r => by
    unfold RWl at r ⊢
    exact r
  | w :: ws, _, r => by
    unfold RWl at r ⊢
    obtain ⟨v, q, e, h, t⟩ := r
    exact ⟨v, q, e, RW.keep k h, RWl.keep k t⟩
end
theorem RWl.iff {H : Hp} {A : List (Option Addr)} {B : Addr → Prop} : ∀ {ws : List W} {vs : List V}, RWl K H A B ws vs ↔ Paired (RW K H A B) ws vs
  | [], vs => by
    unfold RWl
    exact ⟨fun e => e ▸ .nil, fun h => by cases h; rfl⟩
  | w :: ws, vs => by
    unfold RWl
    constructor
    · rintro ⟨v, r, rfl, h, t⟩
      exact .cons h (RWl.iff.mp t)
    · intro h
      cases h with
      | cons h t => exact ⟨_, _, rfl, h, RWl.iff.mpr t⟩
def RWs (K : Kw) (H : Hp) (A : List (Option Addr)) (B : Addr → Prop) : List W → List V → Prop := Paired (RW K H A B)
theorem RWs.keep {H H' : Hp} {A A' : List (Option Addr)} {B : Addr → Prop} (k : Keep A H A' H') {w : List W} {v : List V} (r : RWs K H A B w v) : RWs K H' A' B w v := L2.Paired.mapP r fun _ _ h => h.keep k
/-- the slots -/
structure Rel (K : Kw) (H : Hp) (A : List (Option Addr)) (B : Addr → Prop) (ρ : Rho) (S : Sto) (σ : L2.St) : Prop where
  cells : Cells K H A B S
  len : ρ.length = σ.length
  slot : ∀ (i : Nat) (w : W), ρ[i]? = some (some w) → ∃ v, σ[i]? = some (some v) ∧ RW K H A B w v
theorem Rel.keep {H H' : Hp} {A A' : List (Option Addr)} {B : Addr → Prop} {ρ : Rho} {S S' : Sto} {σ : L2.St} (r : Rel K H A B ρ S σ) (k : Keep A H A' H') (c : Cells K H' A' B S') : Rel K H' A' B ρ S' σ :=
  ⟨c, r.len, fun i w e => let ⟨v, e1, q⟩ := r.slot i w e; ⟨v, e1, q.keep k⟩⟩
theorem Rel.set {H : Hp} {A : List (Option Addr)} {B : Addr → Prop} {ρ : Rho} {S : Sto} {σ : L2.St} (r : Rel K H A B ρ S σ) {i : Nat} {w : W} {v : V} (q : RW K H A B w v) : Rel K H A B (ρ.set i (some w)) S (σ.set i (some v)) := by
  refine ⟨r.cells, by rw [List.length_set, List.length_set]; exact r.len, fun j u e => ?_⟩
  by_cases h : i = j
  · subst h
    by_cases hl : i < ρ.length
    · rw [List.getElem?_set_self hl] at e
      cases e
      exact ⟨v, List.getElem?_set_self (by rw [← r.len]; exact hl), q⟩
    · rw [List.getElem?_eq_none (by rw [List.length_set]; omega)] at e
      cases e
  · rw [List.getElem?_set_ne h] at e ⊢
    exact r.slot j u e
/-- some slots forgotten -/
def wipeR (ρ : Rho) : List Nat → Rho
  | [] => ρ
  | i :: r => (wipeR ρ r).set i none
/-! ### new things -/
theorem Cells.upd {H : Hp} {A : List (Option Addr)} {B : Addr → Prop} {S : Sto} (c : Cells K H A B S) {p : Addr} {o : HO} (hp : H p = none) : Cells K (upd H p o) A B S := by
  have k : Keep A H A (L2.upd H p o) := Keep.upd hp
  refine ⟨c.len, fun n x ob e1 e2 => ?_, c.inj, c.off, fun a b z => ?_, by obtain ⟨o', e'⟩ := c.sys; exact ⟨o', by rw [upd_ne (ne_of_none e' hp)]; exact e'⟩, c.soff⟩
  · have q := c.at_ n x ob e1 e2
    cases x with
    | none => cases ob <;> exact q
    | some a =>
      cases ob with
      | dead => exact q
      | lst ds =>
        obtain ⟨vs, h1, h2⟩ := q
        exact ⟨vs, by rw [upd_ne (ne_of_none h1 hp)]; exact h1, RVs.stay k.stay h2⟩
      | dic ks ws =>
        obtain ⟨u, kv, vs, h1, h2, h3, h4⟩ := q
        exact ⟨u, kv, vs, by rw [upd_ne (ne_of_none h1 hp)]; exact h1, h2, RVs.stay k.stay h3, RVs.stay k.stay h4⟩
  · unfold L2.upd at z
    split at z
    · cases z
    · exact c.dom a b z
theorem Cells.new_off {H : Hp} {A : List (Option Addr)} {B : Addr → Prop} {S : Sto} (c : Cells K H A B S) {p : Addr} (hp : H p = none) : ¬ av A B p := by
  rintro (b | m)
  · exact c.dom p b hp
  · obtain ⟨n, hn⟩ := List.mem_iff_getElem?.mp m
    have hl : n < S.length := by rw [← c.len]; exact (List.getElem?_eq_some_iff.mp hn).1
    have q := c.at_ n _ _ hn (List.getElem?_eq_getElem hl)
    cases e : S[n] with
    | dead => rw [e] at q; exact q
    | lst ds =>
      rw [e] at q
      obtain ⟨vs, h1, _⟩ := q
      rw [hp] at h1; cases h1
    | dic ks ws =>
      rw [e] at q
      obtain ⟨u, kv, vs, h1, _⟩ := q
      rw [hp] at h1; cases h1
/-- a new list, tuple as data -/
theorem RV.new_tup {H : Hp} {A : List (Option Addr)} {B : Addr → Prop} {S : Sto} (c : Cells K H A B S) {p : Addr} {ds : List D} {vs : List V} (hp : H p = none) (r : RVs K H (av A B) ds vs) : RV K (upd H p (.tup vs)) (av A B) (.tup ds) (.ref p) := by
  unfold RV
  exact ⟨p, vs, rfl, upd_same, c.new_off hp, RVs.stay (Keep.upd hp).stay r⟩
theorem RV.new_lst {H : Hp} {A : List (Option Addr)} {B : Addr → Prop} {S : Sto} (c : Cells K H A B S) {p : Addr} {ds : List D} {vs : List V} (hp : H p = none) (r : RVs K H (av A B) ds vs) : RV K (upd H p (.lst vs)) (av A B) (.lst ds) (.ref p) := by
  unfold RV
  exact ⟨p, vs, rfl, upd_same, c.new_off hp, RVs.stay (Keep.upd hp).stay r⟩
/-- what nobody else has as a new cell -/
theorem Cells.cell {H : Hp} {A : List (Option Addr)} {B : Addr → Prop} {S : Sto} (c : Cells K H A B S) {p : Addr} {ob : Ob} {o : HO} (hp : H p = none)
    (hc : CellOk K (L2.upd H p o) (av (A ++ [some p]) B) (some p) ob) : Cells K (L2.upd H p o) (A ++ [some p]) B (S ++ [ob]) ∧ Keep A H (A ++ [some p]) (L2.upd H p o) := by
  have hoff := c.new_off hp
  have k : Keep A H (A ++ [some p]) (L2.upd H p o) := by
    refine ⟨fun a u e n => ⟨by rw [upd_ne (ne_of_none e hp)]; exact e, fun z => ?_⟩, by simp, fun n x e => .inl ?_⟩
    · rcases List.mem_append.mp z with z | z
      · exact n z
      · simp at z
        subst z
        rw [hp] at e; cases e
    · rw [List.getElem?_append_left (List.getElem?_eq_some_iff.mp e).1]
      exact e
  have st1 : Stay H (av A B) (L2.upd H p o) (av (A ++ [some p]) B) := k.stay
  have last : ∀ (n : Nat) (x : Option Addr), (A ++ [some p])[n]? = some x → ¬ n < A.length → n = A.length ∧ x = some p := fun n x e h => by
    have en : n = A.length := by
      have := (List.getElem?_eq_some_iff.mp e).1
      simp at this
      omega
    subst en
    simp at e
    exact ⟨rfl, e.symm⟩
  refine ⟨⟨by simp [c.len], fun n x ob' e1 e2 => ?_, fun n m a e1 e2 => ?_, fun a z => ?_, fun a b z => ?_, by obtain ⟨o', e'⟩ := c.sys; exact ⟨o', by rw [upd_ne (ne_of_none e' hp)]; exact e'⟩, fun z => ?_⟩, k⟩
  · by_cases hn : n < A.length
    · rw [List.getElem?_append_left hn] at e1
      rw [List.getElem?_append_left (by rw [← c.len]; exact hn)] at e2
      have q := c.at_ n x ob' e1 e2
      cases x with
      | none => cases ob' <;> exact q
      | some a =>
        cases ob' with
        | dead => exact q
        | lst ds =>
          obtain ⟨vs, h1, h2⟩ := q
          exact ⟨vs, by rw [upd_ne (ne_of_none h1 hp)]; exact h1, RVs.stay st1 h2⟩
        | dic ks ws =>
          obtain ⟨u, kv, vs, h1, h2, h3, h4⟩ := q
          exact ⟨u, kv, vs, by rw [upd_ne (ne_of_none h1 hp)]; exact h1, h2, RVs.stay st1 h3, RVs.stay st1 h4⟩
    · obtain ⟨en, ex⟩ := last n x e1 hn
      subst en ex
      rw [c.len] at e2
      simp at e2
      subst e2
      exact hc
  · by_cases hn : n < A.length
    · by_cases hm : m < A.length
      · rw [List.getElem?_append_left hn] at e1
        rw [List.getElem?_append_left hm] at e2
        exact c.inj n m a e1 e2
      · obtain ⟨_, ex⟩ := last m _ e2 hm
        cases ex
        rw [List.getElem?_append_left hn] at e1
        exact absurd (.inr (List.mem_of_getElem? e1)) hoff
    · obtain ⟨en, ex⟩ := last n _ e1 hn
      cases ex
      by_cases hm : m < A.length
      · rw [List.getElem?_append_left hm] at e2
        exact absurd (.inr (List.mem_of_getElem? e2)) hoff
      · rw [en, (last m _ e2 hm).1]
  · rcases List.mem_append.mp z with z | z
    · exact c.off a z
    · simp at z
      subst z
      exact fun b => hoff (.inl b)
  · unfold L2.upd at z
    split at z
    · cases z
    · exact c.dom a b z
  · rcases List.mem_append.mp z with z | z
    · exact c.soff z
    · simp at z
      obtain ⟨o', e'⟩ := c.sys
      rw [z, hp] at e'
      cases e'
theorem Cells.cell_lst {H : Hp} {A : List (Option Addr)} {B : Addr → Prop} {S : Sto} (c : Cells K H A B S) {p : Addr} {ds : List D} {vs : List V} (hp : H p = none)
    (r : RVs K H (av A B) ds vs) : Cells K (L2.upd H p (.lst vs)) (A ++ [some p]) B (S ++ [.lst ds]) ∧ Keep A H (A ++ [some p]) (L2.upd H p (.lst vs)) := by
  refine c.cell hp ⟨vs, upd_same, RVs.stay (fun a o e n => ?_) r⟩
  refine ⟨by rw [upd_ne (ne_of_none e hp)]; exact e, fun z => ?_⟩
  rcases z with z | z
  · exact n (.inl z)
  · rcases List.mem_append.mp z with z | z
    · exact n (.inr z)
    · simp at z
      subst z
      rw [hp] at e; cases e
/-- a cell is written -/
theorem Cells.write {H : Hp} {A : List (Option Addr)} {B : Addr → Prop} {S : Sto} (c : Cells K H A B S) {n : Nat} {a : Addr} {ob : Ob} {o : HO} (ha : A[n]? = some (some a))
    (hc : CellOk K (L2.upd H a o) (av A B) (some a) ob) : Cells K (L2.upd H a o) A B (S.set n ob) ∧ Keep A H A (L2.upd H a o) := by
  have hm : some a ∈ A := List.mem_of_getElem? ha
  have k : Keep A H A (L2.upd H a o) := ⟨fun b u e z => ⟨by rw [upd_ne (show b ≠ a from fun q => z (by rw [q]; exact hm))]; exact e, z⟩, Nat.le_refl _, fun _ _ e => .inl e⟩
  refine ⟨⟨by rw [List.length_set]; exact c.len, fun m x ob' e1 e2 => ?_, c.inj, c.off, fun b hb z => ?_, by obtain ⟨o', e'⟩ := c.sys; exact ⟨o', by rw [upd_ne (show sysModules ≠ a from fun z => c.soff (z ▸ hm))]; exact e'⟩, c.soff⟩, k⟩
  · by_cases h : n = m
    · subst h
      rw [ha] at e1
      cases e1
      have hl : n < S.length := by rw [← c.len]; exact (List.getElem?_eq_some_iff.mp ha).1
      rw [List.getElem?_set_self hl] at e2
      cases e2
      exact hc
    · rw [List.getElem?_set_ne h] at e2
      have q := c.at_ m x ob' e1 e2
      cases x with
      | none => cases ob' <;> exact q
      | some b =>
        have hb : b ≠ a := fun z => h (c.inj n m a ha (z ▸ e1))
        cases ob' with
        | dead => exact q
        | lst ds =>
          obtain ⟨vs, h1, h2⟩ := q
          exact ⟨vs, by rw [upd_ne hb]; exact h1, RVs.stay k.stay h2⟩
        | dic ks ws =>
          obtain ⟨u, kv, vs, h1, h2, h3, h4⟩ := q
          exact ⟨u, kv, vs, by rw [upd_ne hb]; exact h1, h2, RVs.stay k.stay h3, RVs.stay k.stay h4⟩
  · unfold L2.upd at z
    split at z
    · cases z
    · exact c.dom b hb z
theorem Cells.write_lst {H : Hp} {A : List (Option Addr)} {B : Addr → Prop} {S : Sto} (c : Cells K H A B S) {n : Nat} {a : Addr} {ds : List D} {vs : List V} (ha : A[n]? = some (some a))
    (r : RVs K H (av A B) ds vs) : Cells K (L2.upd H a (.lst vs)) A B (S.set n (.lst ds)) ∧ Keep A H A (L2.upd H a (.lst vs)) := by
  have hm : some a ∈ A := List.mem_of_getElem? ha
  refine c.write ha ⟨vs, upd_same, RVs.stay (fun b o e n => ⟨by rw [upd_ne (show b ≠ a from fun q => n (by rw [q]; exact .inr hm))]; exact e, n⟩) r⟩
/-- where a cell stands -/
theorem Cells.look {H : Hp} {A : List (Option Addr)} {B : Addr → Prop} {S : Sto} (c : Cells K H A B S) {n : Nat} {ob : Ob} (e : S[n]? = some ob) (nd : ob ≠ .dead) : ∃ a, A[n]? = some (some a) ∧ CellOk K H (av A B) (some a) ob := by
  have hl : n < A.length := by rw [c.len]; exact (List.getElem?_eq_some_iff.mp e).1
  have q := c.at_ n _ _ (List.getElem?_eq_getElem hl) e
  cases x : A[n] with
  | none =>
    rw [x] at q
    cases ob with
    | dead => exact absurd rfl nd
    | lst _ => exact q.elim
    | dic _ _ => exact q.elim
  | some a =>
    rw [x] at q
    exact ⟨a, by rw [List.getElem?_eq_getElem hl, x], q⟩
theorem RW.at_ {H : Hp} {A : List (Option Addr)} {B : Addr → Prop} {n : Nat} {v : V} {a : Addr} (r : RW K H A B (.ref n) v) (e : A[n]? = some (some a)) : v = .ref a := by
  rcases r with z | ⟨b, z, q⟩
  · rw [e] at z; cases z
  · rw [e] at z
    cases z
    exact q
/-- a cell becomes data: nobody writes it any more -/
theorem Cells.freeze {H : Hp} {A : List (Option Addr)} {B : Addr → Prop} {S : Sto} (c : Cells K H A B S) {n : Nat} {a : Addr} (ha : A[n]? = some (some a)) :
    Cells K H (A.set n none) B (S.set n .dead) ∧ Keep A H (A.set n none) H ∧ ¬ av (A.set n none) B a := by
  have hin : ∀ b, some b ∈ A.set n none → some b ∈ A ∧ b ≠ a := fun b hb => by
    obtain ⟨m, hm⟩ := List.mem_iff_getElem?.mp hb
    by_cases h : n = m
    · subst h
      rw [List.getElem?_set_self (List.getElem?_eq_some_iff.mp ha).1] at hm
      cases hm
    · rw [List.getElem?_set_ne h] at hm
      exact ⟨List.mem_of_getElem? hm, fun z => h (c.inj n m a ha (z ▸ hm))⟩
  have k : Keep A H (A.set n none) H := by
    refine ⟨fun b u e z => ⟨e, fun q => z (hin b q).1⟩, by rw [List.length_set]; exact Nat.le_refl _, fun m x e => ?_⟩
    by_cases h : n = m
    · subst h
      exact .inr (List.getElem?_set_self (List.getElem?_eq_some_iff.mp ha).1)
    · rw [List.getElem?_set_ne h]
      exact .inl e
  refine ⟨⟨by rw [List.length_set, List.length_set]; exact c.len, fun m x ob e1 e2 => ?_, fun m l b e1 e2 => ?_, fun b hb => c.off b (hin b hb).1, c.dom, c.sys, fun z => c.soff (hin _ z).1⟩, k, fun z => ?_⟩
  · by_cases h : n = m
    · subst h
      rw [List.getElem?_set_self (List.getElem?_eq_some_iff.mp ha).1] at e1
      rw [List.getElem?_set_self (by rw [← c.len]; exact (List.getElem?_eq_some_iff.mp ha).1)] at e2
      cases e1
      cases e2
      exact trivial
    · rw [List.getElem?_set_ne h] at e1 e2
      have q := c.at_ m x ob e1 e2
      cases x with
      | none => cases ob <;> exact q
      | some b =>
        cases ob with
        | dead => exact q
        | lst ds =>
          obtain ⟨vs, h1, h2⟩ := q
          exact ⟨vs, h1, RVs.stay k.stay h2⟩
        | dic ks ws =>
          obtain ⟨u, kv, vs, h1, h2, h3, h4⟩ := q
          exact ⟨u, kv, vs, h1, h2, RVs.stay k.stay h3, RVs.stay k.stay h4⟩
  · have f : ∀ j, (A.set n none)[j]? = some (some b) → A[j]? = some (some b) := fun j e => by
      by_cases h : n = j
      · subst h
        rw [List.getElem?_set_self (List.getElem?_eq_some_iff.mp ha).1] at e
        cases e
      · rw [List.getElem?_set_ne h] at e
        exact e
    exact c.inj m l b (f m e1) (f l e2)
  · rcases z with z | z
    · exact c.off a (List.mem_of_getElem? ha) z
    · exact (hin a z).2 rfl
end Fo
/-! Core2: clean predicate transformers, their lift to the hand layer's readings, the first constructs. -/
namespace Fo
open PySem PySem.Spec PyProof.Rows L2
variable {K : Kw}
abbrev KW := W → Sto → Prop
abbrev ME := Rho → Sto → KW → Prop
abbrev MT := Rho → Sto → (Bool → Sto → Prop) → Prop
abbrev MA := Rho → Sto → (List W → Sto → Prop) → Prop
structure End where
  nx : Rho → Sto → Prop
  rt : KW
  bk : Rho → Sto → Prop
  ct : Rho → Sto → Prop
abbrev MS := End → Rho → Sto → Prop
abbrev MF := List W → Sto → KW → Prop
/-! ### monotony -/
def MonoE (t : ME) : Prop := ∀ ρ S (Q Q' : KW), (∀ w S', Q w S' → Q' w S') → t ρ S Q → t ρ S Q'
def MonoT (t : MT) : Prop := ∀ ρ S (Q Q' : Bool → Sto → Prop), (∀ w S', Q w S' → Q' w S') → t ρ S Q → t ρ S Q'
def MonoA (t : MA) : Prop := ∀ ρ S (Q Q' : List W → Sto → Prop), (∀ w S', Q w S' → Q' w S') → t ρ S Q → t ρ S Q'
structure End.le (E E' : End) : Prop where
  nx : ∀ ρ S, E.nx ρ S → E'.nx ρ S
  rt : ∀ w S, E.rt w S → E'.rt w S
  bk : ∀ ρ S, E.bk ρ S → E'.bk ρ S
  ct : ∀ ρ S, E.ct ρ S → E'.ct ρ S
def MonoS (t : MS) : Prop := ∀ (E E' : End) ρ S, E.le E' → t E ρ S → t E' ρ S
def MonoF (t : MF) : Prop := ∀ ws S (Q Q' : KW), (∀ w S', Q w S' → Q' w S') → t ws S Q → t ws S Q'
/-! ### lifts -/
/-- what follows in the abstract heap, from what follows in the clean domain -/
def Aft (K : Kw) (A : List (Option Addr)) (B : Addr → Prop) (H : Hp) (k : KW) (Q : VK) : Prop :=
  ∀ w S', k w S' → ∀ A' v H', Keep A H A' H' → Cells K H' A' B S' → RW K H' A' B w v → Q v H'
def AftB (K : Kw) (A : List (Option Addr)) (B : Addr → Prop) (H : Hp) (k : Bool → Sto → Prop) (Q : Bool → Hp → Prop) : Prop :=
  ∀ b S', k b S' → ∀ A' H', Keep A H A' H' → Cells K H' A' B S' → Q b H'
def AftA (K : Kw) (A : List (Option Addr)) (B : Addr → Prop) (H : Hp) (k : List W → Sto → Prop) (Q : List V → Hp → Prop) : Prop :=
  ∀ w S', k w S' → ∀ A' v H', Keep A H A' H' → Cells K H' A' B S' → RWs K H' A' B w v → Q v H'
def AftR (K : Kw) (A : List (Option Addr)) (B : Addr → Prop) (H : Hp) (k : Rho → Sto → Prop) (Q : L2.St → Hp → Prop) : Prop :=
  ∀ ρ S', k ρ S' → ∀ A' σ H', Keep A H A' H' → Rel K H' A' B ρ S' σ → Q σ H'
def up (K : Kw) (t : ME) : TE := fun σ H Q => ∃ A B ρ S k, Rel K H A B ρ S σ ∧ t ρ S k ∧ Aft K A B H k Q
def upT (K : Kw) (t : MT) : TT := fun σ H Q => ∃ A B ρ S k, Rel K H A B ρ S σ ∧ t ρ S k ∧ AftB K A B H k Q
def upA (K : Kw) (t : MA) : TA := fun σ H Q => ∃ A B ρ S k, Rel K H A B ρ S σ ∧ t ρ S k ∧ AftA K A B H k Q
structure AftS (K : Kw) (A : List (Option Addr)) (B : Addr → Prop) (H : Hp) (E : End) (D : Ends) : Prop where
  nx : AftR K A B H E.nx D.nx
  rt : Aft K A B H E.rt D.rt
  bk : AftR K A B H E.bk D.bk
  ct : AftR K A B H E.ct D.ct
def upS (K : Kw) (t : MS) : TS := fun D σ H => ∃ A B ρ S E, Rel K H A B ρ S σ ∧ t E ρ S ∧ AftS K A B H E D
structure PEm (X : Cx) (e : Expr) (t : ME) : Prop where
  pe : PE X e (up X.kw t)
  mono : MonoE t
structure PTm (X : Cx) (e : Expr) (t : MT) : Prop where
  pt : PT X e (upT X.kw t)
  mono : MonoT t
structure PWm (X : Cx) (e : Expr) (t : MT) : Prop where
  pw : PW X e (upT X.kw t)
  mono : MonoT t
structure PAm (X : Cx) (es : List Expr) (t : MA) : Prop where
  pa : PA X es (upA X.kw t)
  mono : MonoA t
  len : ∀ ρ S (Q : List W → Sto → Prop), t ρ S Q → t ρ S fun ws S' => ws.length = es.length ∧ Q ws S'
structure PSm (X : Cx) (st : Stmt) (t : MS) : Prop where
  ps : PS X st (upS X.kw t)
  mono : MonoS t
structure PSsm (X : Cx) (st : List Stmt) (t : MS) : Prop where
  pss : PSs X st (upS X.kw t)
  mono : MonoS t
theorem _root_.L2.PE.imp {X : Cx} {e : Expr} {t t' : TE} (h : PE X e t) (i : ∀ σ H Q, t' σ H Q → t σ H Q) : PE X e t' := ⟨fun pins s σ H Q I q => h.run pins s σ H Q I (i σ H Q q)⟩
theorem _root_.L2.PT.imp {X : Cx} {e : Expr} {t t' : TT} (h : PT X e t) (i : ∀ σ H Q, t' σ H Q → t σ H Q) : PT X e t' := ⟨fun pins s σ H Q I q => h.run pins s σ H Q I (i σ H Q q)⟩
theorem _root_.L2.PW.imp {X : Cx} {e : Expr} {t t' : TT} (h : PW X e t) (i : ∀ σ H Q, t' σ H Q → t σ H Q) : PW X e t' := ⟨fun wh pins s σ H Q I q => h.run wh pins s σ H Q I (i σ H Q q)⟩
theorem _root_.L2.PA.imp {X : Cx} {e : List Expr} {t t' : TA} (h : PA X e t) (i : ∀ σ H Q, t' σ H Q → t σ H Q) : PA X e t' := ⟨fun pos pins s σ H Q I q => h.run pos pins s σ H Q I (i σ H Q q)⟩
theorem _root_.L2.PS.imp {X : Cx} {e : Stmt} {t t' : TS} (h : PS X e t) (i : ∀ D σ H, t' D σ H → t D σ H) : PS X e t' := ⟨fun pins s σ H D I q => h.run pins s σ H D I (i D σ H q)⟩
theorem _root_.L2.PSs.imp {X : Cx} {e : List Stmt} {t t' : TS} (h : PSs X e t) (i : ∀ D σ H, t' D σ H → t D σ H) : PSs X e t' := ⟨fun pins s σ H D I q => h.run pins s σ H D I (i D σ H q)⟩
theorem Aft.keep {A A1 : List (Option Addr)} {B : Addr → Prop} {H H1 : Hp} {k : KW} {Q : VK} (a : Aft K A B H k Q) (l : Keep A H A1 H1) : Aft K A1 B H1 k Q :=
  fun w S' h A' v H' k' c r => a w S' h A' v H' (l.trans k') c r
theorem AftB.keep {A A1 : List (Option Addr)} {B : Addr → Prop} {H H1 : Hp} {k : Bool → Sto → Prop} {Q : Bool → Hp → Prop} (a : AftB K A B H k Q) (l : Keep A H A1 H1) : AftB K A1 B H1 k Q :=
  fun w S' h A' H' k' c => a w S' h A' H' (l.trans k') c
theorem AftA.keep {A A1 : List (Option Addr)} {B : Addr → Prop} {H H1 : Hp} {k : List W → Sto → Prop} {Q : List V → Hp → Prop} (a : AftA K A B H k Q) (l : Keep A H A1 H1) : AftA K A1 B H1 k Q :=
  fun w S' h A' v H' k' c r => a w S' h A' v H' (l.trans k') c r
theorem AftR.keep {A A1 : List (Option Addr)} {B : Addr → Prop} {H H1 : Hp} {k : Rho → Sto → Prop} {Q : L2.St → Hp → Prop} (a : AftR K A B H k Q) (l : Keep A H A1 H1) : AftR K A1 B H1 k Q :=
  fun w S' h A' v H' k' c => a w S' h A' v H' (l.trans k') c
theorem AftS.keep {A A1 : List (Option Addr)} {B : Addr → Prop} {H H1 : Hp} {E : End} {D : Ends} (a : AftS K A B H E D) (l : Keep A H A1 H1) : AftS K A1 B H1 E D :=
  ⟨a.nx.keep l, a.rt.keep l, a.bk.keep l, a.ct.keep l⟩
/-- a part first, then the rest -/
theorem up_then {t : ME} {A : List (Option Addr)} {B : Addr → Prop} {ρ : Rho} {S : Sto} {σ : L2.St} {H : Hp} {k : KW} {Q : VK} (r : Rel K H A B ρ S σ) (h : t ρ S k)
    (q : ∀ w S' A' v H', k w S' → Keep A H A' H' → Rel K H' A' B ρ S' σ → RW K H' A' B w v → Q v H') : up K t σ H Q :=
  ⟨A, B, ρ, S, k, r, h, fun w S' hk A' v H' k' c rw' => q w S' A' v H' hk k' (r.keep k' c) rw'⟩
theorem upT_then {t : MT} {A : List (Option Addr)} {B : Addr → Prop} {ρ : Rho} {S : Sto} {σ : L2.St} {H : Hp} {k : Bool → Sto → Prop} {Q : Bool → Hp → Prop} (r : Rel K H A B ρ S σ) (h : t ρ S k)
    (q : ∀ b S' A' H', k b S' → Keep A H A' H' → Rel K H' A' B ρ S' σ → Q b H') : upT K t σ H Q :=
  ⟨A, B, ρ, S, k, r, h, fun w S' hk A' H' k' c => q w S' A' H' hk k' (r.keep k' c)⟩
theorem upA_then {t : MA} {A : List (Option Addr)} {B : Addr → Prop} {ρ : Rho} {S : Sto} {σ : L2.St} {H : Hp} {k : List W → Sto → Prop} {Q : List V → Hp → Prop} (r : Rel K H A B ρ S σ) (h : t ρ S k)
    (q : ∀ w S' A' v H', k w S' → Keep A H A' H' → Rel K H' A' B ρ S' σ → RWs K H' A' B w v → Q v H') : upA K t σ H Q :=
  ⟨A, B, ρ, S, k, r, h, fun w S' hk A' v H' k' c rw' => q w S' A' v H' hk k' (r.keep k' c) rw'⟩
/-! ### reading -/
/-- what a worth reads as -/
def rd (S : Sto) (w : W) (k : D → Prop) : Prop :=
  match w with
  | .val d => k d
  | .ref n => match S[n]? with
    | some (.lst l) => k (.lst l)
    | some (.dic ks ws) => k (.dct ks ws)
    | _ => False
  | _ => False
theorem rd_mono {S : Sto} {w : W} {k k' : D → Prop} (h : ∀ d, k d → k' d) (q : rd S w k) : rd S w k' := by
  cases w with
  | lws _ => exact q
  | ins _ _ _ => exact q
  | fn _ => exact q
  | tpl _ => exact q
  | exv _ => exact q
  | lsw _ => exact q
  | val d => exact h d q
  | ref n =>
    unfold rd at q ⊢
    cases e : S[n]? with
    | none => simp only [e] at q
    | some ob =>
      cases ob with
      | dead => simp only [e] at q
      | lst l => simp only [e] at q ⊢; exact h _ q
      | dic ks ws => simp only [e] at q ⊢; exact h _ q
def RD (K : Kw) (H : Hp) (av : Addr → Prop) : D → V → Prop
  | .lst ds, v => ∃ a vs, v = .ref a ∧ H a = some (.lst vs) ∧ RVs K H av ds vs
  | .dct ks ws, v => ∃ a u kv vs, v = .ref a ∧ Rd H a u ∧ DicB K a ks kv vs u ∧ RVs K H av ks kv ∧ RVs K H av ws vs
  | d, v => RV K H av d v
theorem RV.rd {H : Hp} {av : Addr → Prop} {d : D} {v : V} (r : RV K H av d v) : RD K H av d v := by
  cases d with
  | lst ds =>
    unfold RV at r
    obtain ⟨a, vs, e, q, _, t⟩ := r
    exact ⟨a, vs, e, q, t⟩
  | dct ks ws =>
    unfold RV at r
    obtain ⟨a, u, kv, vs, e, q, _, t⟩ := r
    exact ⟨a, u, kv, vs, e, .inr q, t⟩
  | non => exact r
  | bl _ => exact r
  | int _ => exact r
  | str _ => exact r
  | tup _ => exact r
  | scr _ => exact r
theorem rd_ok {H : Hp} {A : List (Option Addr)} {B : Addr → Prop} {S : Sto} {w : W} {v : V} {k : D → Prop} (c : Cells K H A B S) (r : RW K H A B w v) (h : rd S w k) : ∃ d, RD K H (av A B) d v ∧ k d := by
  cases w with
  | lws _ => exact h.elim
  | ins _ _ _ => exact h.elim
  | fn _ => exact h.elim
  | tpl _ => exact h.elim
  | exv _ => exact h.elim
  | lsw _ => exact h.elim
  | val d => exact ⟨d, RV.rd r, h⟩
  | ref n =>
    unfold rd at h
    cases e : S[n]? with
    | none =>
      simp only [e] at h
    | some ob =>
      cases ob with
      | dead => simp only [e] at h
      | lst l =>
        simp only [e] at h
        obtain ⟨a, ha, vs, h1, h2⟩ := c.look e (by intro z; cases z)
        exact ⟨.lst l, ⟨a, vs, r.at_ ha, h1, h2⟩, h⟩
      | dic ks ws =>
        simp only [e] at h
        obtain ⟨a, ha, u, kv, vs, h1, h2, h3, h4⟩ := c.look e (by intro z; cases z)
        exact ⟨.dct ks ws, ⟨a, u, kv, vs, r.at_ ha, .inl h1, h2, h3, h4⟩, h⟩
/-! ### names, constants -/
def mVar (i : Nat) : ME := fun ρ S k => match ρ[i]? with
  | some (some w) => k w S
  | _ => False
theorem mVar_mono {i : Nat} : MonoE (mVar i) := fun ρ S Q Q' h q => by
  unfold mVar at q ⊢
  split at q <;> first | exact h _ _ q | exact q.elim
theorem pem_var {X : Cx} {i : Nat} {x : Str} {pos : Pos} (h : PE X (.Name x pos) (tVar i)) : PEm X (.Name x pos) (mVar i) := by
  refine ⟨h.imp ?_, mVar_mono⟩
  rintro σ H Q ⟨A, B, ρ, S, k, r, h, a⟩
  unfold mVar at h
  split at h
  · rename_i w e
    obtain ⟨v, e1, q⟩ := r.slot i w e
    exact ⟨v, e1, a _ _ h A v H Keep.refl r.cells q⟩
  · exact h.elim
def mC (d : D) : ME := fun _ S k => k (.val d) S
theorem mC_mono {d : D} : MonoE (mC d) := fun ρ S Q Q' h q => h _ _ q
theorem pem_c {X : Cx} {e : Expr} {v : V} {d : D} (h : PE X e (tC v)) (rv : ∀ H av, RV X.kw H av d v) : PEm X e (mC d) := by
  refine ⟨h.imp ?_, mC_mono⟩
  rintro σ H Q ⟨A, B, ρ, S, k, r, h, a⟩
  exact a _ _ h A v H Keep.refl r.cells (rv _ _)
theorem pem_int {X : Cx} {i : Int} {j pos} : PEm X (.Constant (.int i) j pos) (mC (.int i)) := pem_c pe_int fun _ _ => by unfold RV; rfl
theorem pem_bl {X : Cx} {b : Bool} {j pos} : PEm X (.Constant (.bool b) j pos) (mC (.bl b)) := pem_c pe_bl fun _ _ => by unfold RV; rfl
theorem pem_non {X : Cx} {j pos} : PEm X (.Constant .none j pos) (mC .non) := pem_c pe_non fun _ _ => by unfold RV; rfl
theorem pem_str {X : Cx} {x : Str} {l : List Nat} {j pos} (e : x = tx l := by rfl) : PEm X (.Constant (.str x) j pos) (mC (.str l)) := pem_c pe_str fun _ _ => by unfold RV; rw [e]
/-! ### operators -/
/-- an operation by values in the clean domain -/
abbrev OpD := D → D → Sto → KW → Prop
def MonoO (op : OpD) : Prop := ∀ a b S (Q Q' : KW), (∀ w S', Q w S' → Q' w S') → op a b S Q → op a b S Q'
def mBin (op : OpD) (a b : ME) : ME := fun ρ S k => a ρ S fun x S1 => b ρ S1 fun y S2 => rd S2 x fun dx => rd S2 y fun dy => op dx dy S2 k
/-- it is right -/
def OpM (K : Kw) (r : R2) (op : OpD) : Prop := ∀ (A : List (Option Addr)) (B : Addr → Prop) (H : Hp) (S : Sto) (dx dy : D) (vx vy : V) (k : KW) (Q : VK),
  Cells K H A B S → RD K H (av A B) dx vx → RD K H (av A B) dy vy → op dx dy S k → Aft K A B H k Q → r vx vy H Q
theorem mBin_mono {op : OpD} {a b : ME} (m : MonoO op) (ma : MonoE a) (mb : MonoE b) : MonoE (mBin op a b) := fun ρ S Q Q' h q =>
  ma ρ S _ _ (fun x S1 q1 => mb ρ S1 _ _ (fun y S2 q2 => rd_mono (fun dx q3 => rd_mono (fun dy q4 => m _ _ _ _ _ h q4) q3) q2) q1) q
theorem tOp_up {r : R2} {op : OpD} {a b : ME} (o : OpM K r op) {σ : L2.St} {H : Hp} {Q : VK} (h : up K (mBin op a b) σ H Q) : tOp r (up K a) (up K b) σ H Q := by
  obtain ⟨A, B, ρ, S, k, r0, h, af⟩ := h
  refine up_then r0 h fun x S1 A1 vx H1 h1 k1 r1 rx => ?_
  refine up_then r1 h1 fun y S2 A2 vy H2 h2 k2 r2 ry => ?_
  obtain ⟨dx, hx, h3⟩ := rd_ok r2.cells (rx.keep k2) h2
  obtain ⟨dy, hy, h4⟩ := rd_ok r2.cells ry h3
  exact o A2 B H2 S2 dx dy vx vy k Q r2.cells hx hy h4 (af.keep (k1.trans k2))
theorem pem_op {X : Cx} {a b : Expr} {ta tb : ME} {op : Operator} {r : R2} {o : OpD} {pos : Pos} (ho : OpR X (binaryOp op) r) (om : OpM X.kw r o) (mo : MonoO o) (ha : PEm X a ta) (hb : PEm X b tb) : PEm X (.BinOp a op b pos) (mBin o ta tb) :=
  ⟨(pe_op ho ha.pe hb.pe).imp fun _ _ _ h => tOp_up om h, mBin_mono mo ha.mono hb.mono⟩
theorem pem_cmp {X : Cx} {a b : Expr} {ta tb : ME} {op : CmpOp} {r : R2} {o : OpD} {pos : Pos} (ho : OpR X (compareOp op) r) (om : OpM X.kw r o) (mo : MonoO o) (ha : PEm X a ta) (hb : PEm X b tb) (hm : behindInMarks op b = false) : PEm X (.Compare a [op] [b] pos) (mBin o ta tb) :=
  ⟨(pe_cmpR ho ha.pe hb.pe hm).imp fun _ _ _ h => tOp_up om h, mBin_mono mo ha.mono hb.mono⟩
/-- a truth wanted -/
def asB (w : W) (S : Sto) (k : Bool → Sto → Prop) : Prop := match w with
  | .val (.bl b) => k b S
  | _ => False
theorem asB_mono {w : W} {S : Sto} {k k' : Bool → Sto → Prop} (h : ∀ b S, k b S → k' b S) (q : asB w S k) : asB w S k' := by
  unfold asB at q ⊢
  split at q <;> first | exact h _ _ q | exact q.elim
def mCond (t : ME) : MT := fun ρ S k => t ρ S fun w S1 => asB w S1 k
theorem mCond_mono {t : ME} (m : MonoE t) : MonoT (mCond t) := fun ρ S Q Q' h q => m ρ S _ _ (fun w S1 q1 => asB_mono h q1) q
theorem asB_ok {H : Hp} {A : List (Option Addr)} {B : Addr → Prop} {w : W} {v : V} {S : Sto} {k : Bool → Sto → Prop} (r : RW K H A B w v) (h : asB w S k) : ∃ b, v = .bl b ∧ k b S := by
  unfold asB at h
  split at h
  · rename_i b
    refine ⟨b, ?_, h⟩
    have r' : RV K H (av A B) (.bl b) v := r
    unfold RV at r'
    exact r'
  · exact h.elim
theorem ptm_val {X : Cx} {e : Expr} {t : ME} (h : PEm X e t) (he : ∀ whole, isTrue e X.env whole = (do let v ← whole; standAt e.pos; holding [v] (truthy v)) := by intro _; rfl) : PTm X e (mCond t) := by
  refine ⟨(pt_val h.pe he).imp ?_, mCond_mono h.mono⟩
  rintro σ H Q ⟨A, B, ρ, S, k, r0, h, af⟩
  refine up_then r0 h fun w S1 A1 v H1 h1 k1 r1 rw1 => ?_
  obtain ⟨b, e, q⟩ := asB_ok rw1 h1
  exact ⟨b, e, af b S1 q A1 H1 k1 r1.cells⟩
theorem ptm_cmp {X : Cx} {a b : Expr} {ta tb : ME} {op : CmpOp} {r : R2} {o : OpD} {pos : Pos} (ho : OpR X (compareOp op) r) (om : OpM X.kw r o) (mo : MonoO o) (ha : PEm X a ta) (hb : PEm X b tb) (hm : behindInMarks op b = false) : PTm X (.Compare a [op] [b] pos) (mCond (mBin o ta tb)) := by
  refine ⟨(pt_cmpR ho ha.pe hb.pe hm).imp ?_, mCond_mono (mBin_mono mo ha.mono hb.mono)⟩
  rintro σ H Q ⟨A, B, ρ, S, k, r0, h, af⟩
  refine tOp_up om ⟨A, B, ρ, S, _, r0, h, fun w S1 h1 A1 v H1 k1 c1 rw1 => ?_⟩
  obtain ⟨b, e, q⟩ := asB_ok rw1 h1
  exact ⟨b, e, af b S1 q A1 H1 k1 c1⟩
/-! ### and, or, not, if -/
def cAnd (t u : MT) : MT := fun ρ S k => t ρ S fun c S1 => if c = true then u ρ S1 k else k false S1
def cOr (t u : MT) : MT := fun ρ S k => t ρ S fun c S1 => if c = true then k true S1 else u ρ S1 k
def cNot (t : MT) : MT := fun ρ S k => t ρ S fun c S1 => k (!c) S1
theorem cOr_mono {t u : MT} (mt : MonoT t) (mu : MonoT u) : MonoT (cOr t u) := fun ρ S Q Q' h q => mt ρ S _ _ (fun c S1 q1 => by
  cases c with
  | false => exact mu ρ S1 _ _ h q1
  | true => exact h _ _ q1) q
theorem cNot_mono {t : MT} (mt : MonoT t) : MonoT (cNot t) := fun ρ S Q Q' h q => mt ρ S _ _ (fun c S1 q1 => h _ _ q1) q
section
variable {X : Cx} {a b : Expr} {rest : List Expr} {t u : MT} {pos : Pos}
theorem pwm_or1 (ha : PTm X a t) : PWm X (.BoolOp .Or [a] pos) t := ⟨pw_or1 ha.pt, ha.mono⟩
theorem pwm_or (ha : PTm X a t) (hb : PWm X (.BoolOp .Or (b :: rest) pos) u) : PWm X (.BoolOp .Or (a :: b :: rest) pos) (cOr t u) := by
  refine ⟨(pw_or ha.pt hb.pw).imp ?_, cOr_mono ha.mono hb.mono⟩
  rintro σ H Q ⟨A, B, ρ, S, k, r0, h, af⟩
  refine upT_then r0 h fun c S1 A1 H1 h1 k1 r1 => ?_
  cases c with
  | false => exact ⟨A1, B, ρ, S1, k, r1, h1, af.keep k1⟩
  | true => exact af _ _ h1 A1 H1 k1 r1.cells
theorem PWm.ptm {e : Expr} (h : PWm X e t) : PTm X e t := ⟨h.pw.pt, h.mono⟩
theorem ptm_not (ha : PTm X a t) : PTm X (.UnaryOp .Not a pos) (cNot t) := by
  refine ⟨(pt_not ha.pt).imp ?_, cNot_mono ha.mono⟩
  rintro σ H Q ⟨A, B, ρ, S, k, r0, h, af⟩
  exact upT_then r0 h fun c S1 A1 H1 h1 k1 r1 => af _ _ h1 A1 H1 k1 r1.cells
end
def mIf (c : MT) (a b : ME) : ME := fun ρ S k => c ρ S fun x S1 => if x = true then a ρ S1 k else b ρ S1 k
/-- and, or as values: all but the last are truths -/
def mAnd (a b : ME) : ME := fun ρ S k => a ρ S fun w S1 => asB w S1 fun c S1 => if c = true then b ρ S1 k else k (.val (.bl false)) S1
def mOr (a b : ME) : ME := fun ρ S k => a ρ S fun w S1 => asB w S1 fun c S1 => if c = true then k (.val (.bl true)) S1 else b ρ S1 k
def mNot (a : ME) : ME := fun ρ S k => a ρ S fun w S1 => asB w S1 fun c S1 => k (.val (.bl (!c))) S1
theorem mAnd_mono {a b : ME} (ma : MonoE a) (mb : MonoE b) : MonoE (mAnd a b) := fun ρ S Q Q' h q => ma ρ S _ _ (fun w S1 q1 => asB_mono (fun c S1 q2 => by
  cases c with
  | true => exact mb ρ S1 _ _ h q2
  | false => exact h _ _ q2) q1) q
theorem RW.bl {H : Hp} {A : List (Option Addr)} {B : Addr → Prop} {b : Bool} : RW K H A B (.val (.bl b)) (.bl b) := by show RV K _ _ _ _; unfold RV; rfl
theorem RW.int {H : Hp} {A : List (Option Addr)} {B : Addr → Prop} {b : Int} : RW K H A B (.val (.int b)) (.int b) := by show RV K _ _ _ _; unfold RV; rfl
theorem RW.str {H : Hp} {A : List (Option Addr)} {B : Addr → Prop} {l : List Nat} : RW K H A B (.val (.str l)) (.str (tx l)) := by show RV K _ _ _ _; unfold RV; rfl
theorem RW.non {H : Hp} {A : List (Option Addr)} {B : Addr → Prop} : RW K H A B (.val .non) .non := by show RV K _ _ _ _; unfold RV; rfl
section
variable {X : Cx} {a b : Expr} {rest : List Expr} {t u : ME} {pos : Pos} {op : PySem.BoolOp}
theorem pem_one (ha : PEm X a t) : PEm X (.BoolOp op [a] pos) t := ⟨pe_one ha.pe, ha.mono⟩
theorem pem_and (ha : PEm X a t) (hb : PEm X (.BoolOp .And (b :: rest) pos) u) : PEm X (.BoolOp .And (a :: b :: rest) pos) (mAnd t u) := by
  refine ⟨(pe_and ha.pe hb.pe).imp ?_, mAnd_mono ha.mono hb.mono⟩
  rintro σ H Q ⟨A, B, ρ, S, k, r0, h, af⟩
  refine up_then r0 h fun w S1 A1 v H1 h1 k1 r1 rw1 => ?_
  obtain ⟨c, e, q⟩ := asB_ok rw1 h1
  refine ⟨c, e, ?_⟩
  cases c with
  | true => exact ⟨A1, B, ρ, S1, k, r1, q, af.keep k1⟩
  | false => exact af _ _ q A1 _ H1 k1 r1.cells RW.bl
end
/-! ### blocks and small statements -/
def sSeq (t u : MS) : MS := fun E ρ S => t { E with nx := fun ρ' S' => u E ρ' S' } ρ S
def sNext : MS := fun E ρ S => E.nx ρ S
theorem sSeq_mono {t u : MS} (mt : MonoS t) (mu : MonoS u) : MonoS (sSeq t u) := fun E E' ρ S l q =>
  mt { E with nx := fun ρ' S' => u E ρ' S' } { E' with nx := fun ρ' S' => u E' ρ' S' } ρ S ⟨fun ρ' S' q' => mu E E' ρ' S' l q', l.rt, l.bk, l.ct⟩ q
section
variable {X : Cx} {st : Stmt} {rest : List Stmt} {t u : MS} {e : Expr} {te : ME} {pos : Pos}
theorem pssm_nil : PSsm X [] sNext := by
  refine ⟨pss_nil.imp ?_, fun E E' ρ S l q => l.nx _ _ q⟩
  rintro D σ H ⟨A, B, ρ, S, E, r, h, a⟩
  exact a.nx _ _ h A σ H Keep.refl r
theorem pssm_cons (h1 : PSm X st t) (h2 : PSsm X rest u) : PSsm X (st :: rest) (sSeq t u) := by
  refine ⟨(pss_cons h1.ps h2.pss).imp ?_, sSeq_mono h1.mono h2.mono⟩
  rintro D σ H ⟨A, B, ρ, S, E, r, h, a⟩
  exact ⟨A, B, ρ, S, _, r, h, fun ρ' S' h' A' σ' H' k r' => ⟨A', B, ρ', S', E, r', h', a.keep k⟩, a.rt, a.bk, a.ct⟩
theorem pssm_one (h1 : PSm X st t) : PSsm X [st] t := ⟨pss_one h1.ps, h1.mono⟩
def sBrk : MS := fun E ρ S => E.bk ρ S
def sCont : MS := fun E ρ S => E.ct ρ S
def sExpr (t : ME) : MS := fun E ρ S => t ρ S fun _ S1 => E.nx ρ S1
def sRet (t : ME) : MS := fun E ρ S => t ρ S E.rt
theorem psm_ret (he : PEm X e te) : PSm X (.Return (some e) pos) (sRet te) := by
  refine ⟨(ps_ret he.pe).imp ?_, fun E E' ρ S l q => he.mono ρ S _ _ l.rt q⟩
  rintro D σ H ⟨A, B, ρ, S, E, r, h, a⟩
  exact ⟨A, B, ρ, S, _, r, h, a.rt⟩
def sRetN : MS := fun E _ S => E.rt (.val .non) S
def sIf (c : MT) (t u : MS) : MS := fun E ρ S => c ρ S fun b S1 => if b = true then t E ρ S1 else u E ρ S1
theorem psm_if {c : Expr} {a b : List Stmt} {tc : MT} (hc : PTm X c tc) (ha : PSsm X a t) (hb : PSsm X b u) : PSm X (.If c a b pos) (sIf tc t u) := by
  refine ⟨(ps_if hc.pt ha.pss hb.pss).imp ?_, fun E E' ρ S l q => hc.mono ρ S _ _ (fun b S1 q1 => ?_) q⟩
  · rintro D σ H ⟨A, B, ρ, S, E, r, h, a⟩
    refine upT_then r h fun b S1 A1 H1 h1 k1 r1 => ?_
    cases b with
    | true => exact ⟨A1, B, ρ, S1, E, r1, h1, a.keep k1⟩
    | false => exact ⟨A1, B, ρ, S1, E, r1, h1, a.keep k1⟩
  · cases b with
    | true => exact ha.mono E E' ρ S1 l q1
    | false => exact hb.mono E E' ρ S1 l q1
end
/-! ### targets, assignments -/
abbrev MG := W → Rho → Sto → (Rho → Sto → Prop) → Prop
def MonoG (t : MG) : Prop := ∀ w ρ S (Q Q' : Rho → Sto → Prop), (∀ ρ S, Q ρ S → Q' ρ S) → t w ρ S Q → t w ρ S Q'
/-- behind a target: which slots may have changed -/
def AftG (K : Kw) (A : List (Option Addr)) (B : Addr → Prop) (H : Hp) (σ : L2.St) (sl : List Nat) (k : Rho → Sto → Prop) (Q : L2.St → Hp → Prop) : Prop :=
  ∀ ρ S', k ρ S' → ∀ A' σ' H', Keep A H A' H' → Rel K H' A' B ρ S' σ' → (∀ vs : List Nat, (∀ i ∈ sl, i ∈ vs) → wipe σ' vs = wipe σ vs) → Q σ' H'
theorem AftR.g {A : List (Option Addr)} {B : Addr → Prop} {H : Hp} {σ : L2.St} {sl : List Nat} {k : Rho → Sto → Prop} {Q : L2.St → Hp → Prop} (a : AftR K A B H k Q) : AftG K A B H σ sl k Q := fun ρ S' h A' σ' H' k' r _ => a ρ S' h A' σ' H' k' r
theorem wipe_at (σ : L2.St) : ∀ (vs : List Nat) (j : Nat), (wipe σ vs)[j]? = if j ∈ vs then (if j < σ.length then some none else none) else σ[j]?
  | [], j => by simp [wipe]
  | v :: vs, j => by
    unfold wipe
    have hlen := wipe_length σ vs
    by_cases h : v = j
    · subst h
      rw [if_pos List.mem_cons_self]
      by_cases hl : v < σ.length
      · rw [List.getElem?_set_self (by rw [hlen]; exact hl), if_pos hl]
      · rw [List.getElem?_eq_none (by rw [List.length_set, hlen]; omega), if_neg hl]
    · rw [List.getElem?_set_ne h, wipe_at σ vs j]
      by_cases hm : j ∈ vs
      · rw [if_pos hm, if_pos (List.mem_cons_of_mem _ hm)]
      · rw [if_neg hm, if_neg fun z => (List.mem_cons.mp z).elim (fun q => h q.symm) hm]
theorem wipe_set {σ : L2.St} {i : Nat} {x : Option V} {vs : List Nat} (h : i ∈ vs) : wipe (σ.set i x) vs = wipe σ vs := by
  apply List.ext_getElem?
  intro j
  rw [wipe_at, wipe_at, List.length_set]
  by_cases hj : j ∈ vs
  · rw [if_pos hj, if_pos hj]
  · rw [if_neg hj, if_neg hj, List.getElem?_set_ne (show i ≠ j from fun e => hj (by rw [← e]; exact h))]
structure PGm (X : Cx) (target : Expr) (g : TG) (t : MG) (sl : List Nat) : Prop where
  pg : PG X target g
  ok : ∀ A B H w v ρ S σ k Q, Rel X.kw H A B ρ S σ → RW X.kw H A B w v → t w ρ S k → AftG X.kw A B H σ sl k Q → g v σ H Q
  mono : MonoG t
def gVar (i : Nat) : MG := fun w ρ S k => k (ρ.set i (some w)) S
section
variable {X : Cx} {pos : Pos}
theorem pgm_name {i : Nat} {x : Str} (h : PG X (.Name x pos) (gName i)) : PGm X (.Name x pos) (gName i) (gVar i) [i] :=
  ⟨h, fun A B H w v ρ S σ k Q r rw' h a => a _ _ h A _ H Keep.refl (r.set rw') fun vs hv => wipe_set (hv i (by simp)), fun w ρ S Q Q' h q => h _ _ q⟩
/-- several targets of the items of a tuple -/
abbrev MGs := List D → Rho → Sto → (Rho → Sto → Prop) → Prop
structure PGsm (X : Cx) (ts : List Expr) (g : TGs) (t : MGs) (sl : List Nat) : Prop where
  pgs : PGs X ts g
  ok : ∀ A B H ds vs ρ S σ k Q, Rel X.kw H A B ρ S σ → RVs X.kw H (av A B) ds vs → t ds ρ S k → AftG X.kw A B H σ sl k Q → g vs σ H Q
  mono : ∀ ds ρ S (Q Q' : Rho → Sto → Prop), (∀ ρ S, Q ρ S → Q' ρ S) → t ds ρ S Q → t ds ρ S Q'
def gsNil : MGs := fun ds ρ S k => match ds with
  | [] => k ρ S
  | _ => False
def gsCons (t : MG) (u : MGs) : MGs := fun ds ρ S k => match ds with
  | d :: r => t (.val d) ρ S fun ρ1 S1 => u r ρ1 S1 k
  | [] => False
theorem pgsm_nil : PGsm X [] gNil gsNil [] := by
  refine ⟨pgs_nil, fun A B H ds vs ρ S σ k Q r rv h a => ?_, fun ds ρ S Q Q' h q => ?_⟩
  · cases ds with
    | nil =>
      unfold RVs at rv
      exact ⟨rv, a _ _ h A σ H Keep.refl r fun _ _ => rfl⟩
    | cons d ds => exact h.elim
  · cases ds with
    | nil => exact h _ _ q
    | cons d ds => exact q.elim
theorem pgsm_cons {e : Expr} {es : List Expr} {g1 : TG} {g2 : TGs} {t : MG} {u : MGs} {sl sl2 : List Nat} (h1 : PGm X e g1 t sl) (h2 : PGsm X es g2 u sl2)
    (hs : (assignEach (e :: es) X.env).map (·.2) = assign e X.env :: (assignEach es X.env).map (·.2) := by rfl) : PGsm X (e :: es) (gCons g1 g2) (gsCons t u) (sl ++ sl2) := by
  have q1 := h1.ok
  have q2 := h2.ok
  refine ⟨pgs_cons h1.pg h2.pgs hs, fun A B H ds vs ρ S σ k Q r rv h a => ?_, fun ds ρ S Q Q' h q => ?_⟩
  · cases ds with
    | nil => exact h.elim
    | cons d ds =>
      unfold RVs at rv
      obtain ⟨v, vr, e, rd1, rds⟩ := rv
      refine ⟨v, vr, e, q1 A B H (.val d) v ρ S σ _ _ r rd1 h fun ρ1 S1 h1 A1 σ1 H1 k1 r1 w1 => ?_⟩
      refine q2 A1 B H1 ds vr ρ1 S1 σ1 k Q r1 (RVs.stay k1.stay rds) h1 fun ρ2 S2 h2 A2 σ2 H2 k2 r2 w2 => a _ _ h2 A2 σ2 H2 (k1.trans k2) r2 fun vs hv => ?_
      exact (w2 vs fun i hi => hv i (List.mem_append_right _ hi)).trans (w1 vs fun i hi => hv i (List.mem_append_left _ hi))
  · cases ds with
    | nil => exact q.elim
    | cons d ds => exact h1.mono _ _ _ _ _ (fun ρ1 S1 q' => h2.mono _ _ _ _ _ h q') q
def gTupM (t : MGs) : MG := fun w ρ S k => match w with
  | .val (.tup ds) => t ds ρ S k
  | _ => False
theorem pgm_tup {es : List Expr} {k : Nat} {g : TGs} {t : MGs} {n : Nat} {sl : List Nat} (hc : X.calm = true) (h : PGsm X es g t sl) (ht : ∀ ds ρ S Q, t ds ρ S Q → ds.length = n)
    (hn : (assignEach es X.env).length = n := by rfl) (hst : (assignEach es X.env).findIdx? (·.1) = none := by rfl) : PGm X (.Tuple es k pos) (gTup X.kw n g) (gTupM t) sl := by
  have q := h.ok
  refine ⟨pg_tup hc h.pgs hn hst, fun A B H w v ρ S σ k Q r rw' h a => ?_, fun w ρ S Q Q' h' q' => ?_⟩
  · unfold gTupM at h
    split at h
    · rename_i ds
      have rw2 : RV X.kw H (av A B) (.tup ds) v := rw'
      unfold RV at rw2
      obtain ⟨a1, vs, e, rd1, _, rv⟩ := rw2
      exact ⟨a1, vs, e, .inl (.inl rd1), rv.length.trans (ht _ _ _ _ h), q A B H ds vs ρ S σ k Q r rv h a⟩
    · exact h.elim
  · unfold gTupM at q' ⊢
    split at q'
    · exact h.mono _ _ _ _ _ h' q'
    · exact q'.elim
theorem gsNil_len (ds ρ S Q) (h : gsNil ds ρ S Q) : ds.length = 0 := by
  cases ds with
  | nil => rfl
  | cons d ds => exact h.elim
def sSet (i : Nat) (t : ME) : MS := fun E ρ S => t ρ S fun w S1 => E.nx (ρ.set i (some w)) S1
theorem psm_set {i : Nat} {x : Str} {e : Expr} {te : ME} {pos' : Pos} (h : PEm X e te) (hp : ∀ t, PE X e t → PS X (.Assign [.Name x pos'] e pos) (tAsg t (gName i))) : PSm X (.Assign [.Name x pos'] e pos) (sSet i te) := by
  refine ⟨(hp _ h.pe).imp ?_, fun E E' ρ S l q => h.mono ρ S _ _ (fun _ S1 q1 => l.nx _ _ q1) q⟩
  rintro D σ H ⟨A, B, ρ, S, E, r, h, a⟩
  exact up_then r h fun w S1 A1 v H1 h1 k1 r1 rw1 => a.nx _ _ h1 A1 _ H1 k1 (r1.set rw1)
def sAsg (t : ME) (g : MG) : MS := fun E ρ S => t ρ S fun w S1 => g w ρ S1 E.nx
theorem psm_asg {tg e : Expr} {te : ME} {g' : TG} {g : MG} {sl : List Nat} (he : PEm X e te) (hg : PGm X tg g' g sl) (hs : swapsWithSole [tg] e pos.line X.env = pure false := by rfl) (hw : swappedStores [tg] e X.env = pure none := by rfl)
    (h1 : (assignEach [tg] X.env).map (·.2) = [assign tg X.env] := by rfl) : PSm X (.Assign [tg] e pos) (sAsg te g) := by
  have q := hg.ok
  refine ⟨(ps_asg he.pe hg.pg hs hw h1).imp ?_, fun E E' ρ S l q => he.mono ρ S _ _ (fun _ S1 q1 => hg.mono _ _ _ _ _ l.nx q1) q⟩
  rintro D σ H ⟨A, B, ρ, S, E, r, h, a⟩
  exact up_then r h fun w S1 A1 v H1 h1 k1 r1 rw1 => q A1 B H1 w v ρ S1 σ _ _ r1 rw1 h1 (a.nx.keep k1).g
end
end Fo
/-! Core3: operators by values. -/
namespace Fo
open PySem PySem.Spec PyProof.Rows L2
variable {K : Kw}
theorem RD.int {H : Hp} {av : Addr → Prop} {i : Int} {v : V} (r : RD K H av (.int i) v) : v = .int i := by
  have r' : RV K H av (.int i) v := r
  unfold RV at r'; exact r'
theorem RD.bl {H : Hp} {av : Addr → Prop} {i : Bool} {v : V} (r : RD K H av (.bl i) v) : v = .bl i := by
  have r' : RV K H av (.bl i) v := r
  unfold RV at r'; exact r'
theorem RD.str {H : Hp} {av : Addr → Prop} {i : List Nat} {v : V} (r : RD K H av (.str i) v) : v = .str (tx i) := by
  have r' : RV K H av (.str i) v := r
  unfold RV at r'; exact r'
theorem RD.non {H : Hp} {av : Addr → Prop} {v : V} (r : RD K H av .non v) : v = .non := by
  have r' : RV K H av .non v := r
  unfold RV at r'; exact r'
theorem RD.tup {H : Hp} {av : Addr → Prop} {ds : List D} {v : V} (r : RD K H av (.tup ds) v) : ∃ a vs, v = .ref a ∧ H a = some (.tup vs) ∧ ¬ av a ∧ RVs K H av ds vs := by
  have r' : RV K H av (.tup ds) v := r
  unfold RV at r'; exact r'
theorem RD.lst {H : Hp} {av : Addr → Prop} {ds : List D} {v : V} (r : RD K H av (.lst ds) v) : ∃ a vs, v = .ref a ∧ H a = some (.lst vs) ∧ RVs K H av ds vs := r
theorem RD.dct {H : Hp} {av : Addr → Prop} {ks ws : List D} {v : V} (r : RD K H av (.dct ks ws) v) : ∃ a u kv vs, v = .ref a ∧ Rd H a u ∧ DicB K a ks kv vs u ∧ RVs K H av ks kv ∧ RVs K H av ws vs := r
theorem RD.scr {H : Hp} {av : Addr → Prop} {l : List Int} {v : V} (r : RD K H av (.scr l) v) : ∃ a, v = .ref a ∧ SqL K H a (l.map V.int) := by
  have r' : RV K H av (.scr l) v := r
  unfold RV at r'
  obtain ⟨a, e, q⟩ := r'
  exact ⟨a, e, q.imp (fun q => q.1) fun q => q⟩
section
variable {A : List (Option Addr)} {B : Addr → Prop} {H : Hp} {S : Sto} {k : KW} {Q : VK}
theorem Aft.now (a : Aft K A B H k Q) (c : Cells K H A B S) {w : W} {v : V} (h : k w S) (r : RW K H A B w v) : Q v H := a w S h A v H Keep.refl c r
theorem Aft.int (a : Aft K A B H k Q) (c : Cells K H A B S) {i : Int} (h : k (.val (.int i)) S) : Q (.int i) H := a.now c h RW.int
theorem Aft.bl (a : Aft K A B H k Q) (c : Cells K H A B S) {i : Bool} (h : k (.val (.bl i)) S) : Q (.bl i) H := a.now c h RW.bl
theorem Aft.str (a : Aft K A B H k Q) (c : Cells K H A B S) {l : List Nat} (h : k (.val (.str l)) S) : Q (.str (tx l)) H := a.now c h RW.str
theorem Aft.non (a : Aft K A B H k Q) (c : Cells K H A B S) (h : k (.val .non) S) : Q .non H := a.now c h RW.non
theorem Aft.newTup (a : Aft K A B H k Q) (c : Cells K H A B S) {ds : List D} {vs : List V} (h : k (.val (.tup ds)) S) (r : RVs K H (av A B) ds vs) {p : Addr} (hp : H p = none) : Q (.ref p) (upd H p (.tup vs)) :=
  a _ S h A _ _ (Keep.upd hp) (c.upd hp) (RV.new_tup c hp r)
theorem Aft.newLst (a : Aft K A B H k Q) (c : Cells K H A B S) {ds : List D} {vs : List V} (h : k (.val (.lst ds)) S) (r : RVs K H (av A B) ds vs) {p : Addr} (hp : H p = none) : Q (.ref p) (upd H p (.lst vs)) :=
  a _ S h A _ _ (Keep.upd hp) (c.upd hp) (RV.new_lst c hp r)
end
theorem tx_append (a b : List Nat) : tx a ++ tx b = tx (a ++ b) := by
  show Str.mk _ = Str.mk _
  simp [tx]
theorem tx_length (a : List Nat) : (tx a).length = a.length := by
  show (tx a).cps.size = _
  simp [tx]
theorem tx_inj {a b : List Nat} : tx a = tx b ↔ a = b := by
  constructor
  · intro h
    have := congrArg (fun z : Str => z.cps.toList) h
    simpa [tx] using this
  · rintro rfl; rfl
theorem tx_toList (a : List Nat) : (tx a).cps.toList = a := by simp [tx]
/-! ### + -/
def addD : OpD := fun a b S k => match a, b with
  | .int i, .int j => k (.val (.int (i + j))) S
  | .str s, .str t => s.length + t.length ≤ sizeLine ∧ k (.val (.str (s ++ t))) S
  | .tup s, .tup t => s.length + t.length ≤ sizeLine ∧ k (.val (.tup (s ++ t))) S
  | .lst s, .lst t => s.length + t.length ≤ sizeLine ∧ k (.val (.lst (s ++ t))) S
  | _, _ => False
theorem addD_mono : MonoO addD := by
  intro a b S Q Q' h q
  cases a <;> cases b <;> first | exact q.elim | exact h _ _ q | exact ⟨q.1, h _ _ q.2⟩
def rAdd (K : Kw) : R2 := fun x y H Q => rI0 (fun i j => .int (i + j)) x y H Q ∨ (∃ i j, x = .str i ∧ y = .str j ∧ i.length + j.length ≤ sizeLine ∧ Q (.str (i ++ j)) H) ∨ rCatA K x y H Q ∨ rCat x y H Q
theorem op_addM {X : Cx} : OpR X (binaryOp .Add) (rAdd X.kw) := op_add.or (op_add_str.or (op_catA.or op_cat))
theorem addM : OpM K (rAdd K) addD := by
  intro A B H S dx dy vx vy k Q c rx ry h af
  cases dx with
  | int i =>
    cases dy with
    | int j => rw [rx.int, ry.int]; exact .inl ⟨i, j, rfl, rfl, af.int c h⟩
    | _ => exact h.elim
  | str i =>
    cases dy with
    | str j =>
      rw [rx.str, ry.str]
      refine .inr (.inl ⟨_, _, rfl, rfl, by rw [tx_length, tx_length]; exact h.1, ?_⟩)
      rw [tx_append]
      exact af.str c h.2
    | _ => exact h.elim
  | tup i =>
    cases dy with
    | tup j =>
      obtain ⟨a, xs, rfl, ra, na, va⟩ := rx.tup
      obtain ⟨b, ys, rfl, rb, nb, vb⟩ := ry.tup
      refine .inr (.inr (.inl ⟨a, b, xs, ys, rfl, rfl, .inl (.inl ra), .inl (.inl rb), by rw [va.length, vb.length]; exact h.1, fun e => ?_, fun _ e => ?_, fun _ _ p hp => af.newTup c h.2 (va.append vb) hp⟩))
      · subst e
        have e2 : i = [] := List.length_eq_zero_iff.mp va.length.symm
        subst e2
        refine af.now c h.2 ?_
        show RV K H (av A B) (.tup ([] ++ j)) (.ref b)
        unfold RV
        exact ⟨b, ys, rfl, rb, nb, vb⟩
      · subst e
        have e2 : j = [] := List.length_eq_zero_iff.mp vb.length.symm
        subst e2
        refine af.now c h.2 ?_
        show RV K H (av A B) (.tup (i ++ [])) (.ref a)
        rw [List.append_nil]
        unfold RV
        exact ⟨a, xs, rfl, ra, na, va⟩
    | _ => exact h.elim
  | lst i =>
    cases dy with
    | lst j =>
      obtain ⟨a, xs, rfl, ra, va⟩ := rx.lst
      obtain ⟨b, ys, rfl, rb, vb⟩ := ry.lst
      exact .inr (.inr (.inr ⟨a, b, xs, ys, rfl, rfl, ra, rb, by rw [va.length, vb.length]; exact h.1, fun p hp => af.newLst c h.2 (va.append vb) hp⟩))
    | _ => exact h.elim
  | _ => exact h.elim
/-! ### ints -/
def intD (C : Int → Int → Prop) (f : Int → Int → Int) : OpD := fun a b S k => match a, b with
  | .int i, .int j => C i j ∧ k (.val (.int (f i j))) S
  | _, _ => False
theorem intD_mono {C : Int → Int → Prop} {f : Int → Int → Int} : MonoO (intD C f) := by
  intro a b S Q Q' h q
  cases a <;> cases b <;> first | exact q.elim | exact ⟨q.1, h _ _ q.2⟩
theorem intM {C : Int → Int → Prop} {f : Int → Int → Int} : OpM K (rI C fun i j => .int (f i j)) (intD C f) := by
  intro A B H S dx dy vx vy k Q c rx ry h af
  cases dx with
  | int i =>
    cases dy with
    | int j => rw [rx.int, ry.int]; exact ⟨i, j, rfl, rfl, h.1, af.int c h.2⟩
    | _ => exact h.elim
  | _ => exact h.elim
def subD : OpD := intD (fun _ _ => True) fun i j => i - j
def modD : OpD := intD (fun _ j => 0 < j) fun i j => i % j
def fdivD : OpD := intD CDiv fun i j => i / j
def powD : OpD := intD CPow fun i j => i ^ j.toNat
/-! ### * -/
theorem tuple_mul1 (l : Addr) (items : Array Value) (n : Nat) (dd : Option Addr) (sl : Array (Option Value)) (u : Tok) :
    Meets (Builtin.«tuple.__mul__» ⟨[.ref l, .int 1 u], []⟩) (fun _ R s => s.heap.get? l = some { cls := .type "tuple", dict := dd, data := .seq items n, slots := sl } ∧ R (.ok (.ret (Value.ref l))) s) :=
  .of_wp fun prog w A R s h => by
    obtain ⟨hp, g, d, tk, os⟩ := s
    obtain ⟨hl, h⟩ := h
    have f1 := AutoSeq1.idx_int
    have c1 : (items.isEmpty || (1 : Int) == 1) = true := by simp
    wp_walk using wpAny_loadPart' hl
    repeat (first
      | (refine wpAny_ite_true (decide_eq_true c1) ?_; wp_walk using wpAny_loadPart' hl)
      | (refine wpAny_ite_false (decide_eq_false (by decide)) ?_; wp_walk using wpAny_loadPart' hl))
    exact ⟨_, rfl, h⟩
def rRep1 (K : Kw) : R2 := fun x y H Q => ∃ l xs, x = .ref l ∧ y = .int 1 ∧ SqT K H l xs ∧ Q (.ref l) H
theorem op_rep1 {X : Cx} : OpR X (binaryOp .Mult) (rRep1 X.kw) := by
  intro pins s σ H x y v u Q I rx ry h
  obtain ⟨l, xs, rfl, rfl, hT, q⟩ := h
  cases rx
  obtain ⟨t, rfl⟩ := ry
  obtain ⟨its, r, ⟨⟨cls, dd, data, sl⟩, ho, hc, n, hd⟩, hs⟩ := I.tuple hT
  simp only at hc hd
  subst hc hd
  refine wpAny_binaryOp_repeat_ref (T := "tuple") (U := "int") (by decide) ⟨_, ho, rfl⟩ (fun s' => typeIs_int s' 1 t) noFill_tuple_mul F.fills_int_mul F.slot_int_rmul repeat_tuple F.slot_int_index.lookup
    (call_meets F.slot_int_rmul (typeIs_int s 1 t) F.entry_int_rmul (F.args_int_rmul_2 _ _) (int_rmul_tuple 1 t l its.toArray n dd sl)
      ⟨ho, rfl, ⟨_, ho, rfl⟩, call_meets F.slot_tuple_mul ⟨_, ho, rfl⟩ F.entry_tuple_mul (F.args_tuple_mul_2 _ _) (tuple_mul1 l its.toArray n dd sl t) ⟨ho, ?_⟩⟩)
  exact ⟨.ref l, H, I, rfl, q⟩
/-- a text times an int -/
def rRepS : R2 := fun x y H Q => ∃ (l : List Nat) (n : Int), x = .str (tx l) ∧ y = .int n ∧ (2 ≤ n ∧ n ≤ 1000 ∧ l ≠ [] ∧ l.length ≤ 1000) ∧ Q (.str (tx (List.replicate n.toNat l).flatten)) H
theorem fold_cat (z : Array Nat) : ∀ (n : Nat) (a : Array Nat), ((List.replicate n z).foldl (· ++ ·) a).toList = a.toList ++ (List.replicate n z.toList).flatten
  | 0, a => by simp
  | n + 1, a => by
    rw [List.replicate_succ, List.foldl_cons, fold_cat z n (a ++ z), List.replicate_succ, List.flatten_cons, Array.toList_append, List.append_assoc]
theorem op_repS {X : Cx} : OpR X (binaryOp .Mult) rRepS := by
  intro pins s σ H x y v u Q I rx ry h
  obtain ⟨l, n, rfl, rfl, ⟨h1, h2, h3, h4⟩, q⟩ := h
  obtain ⟨t, rfl⟩ := rx
  obtain ⟨t', rfl⟩ := ry
  have hlen : (tx l).length = l.length := by show (tx l).cps.size = _; simp [tx]
  have hpos : 0 < l.length := List.length_pos_iff.mpr h3
  have hno : (n == 1 || (tx l).length == 0) = false := by
    rw [hlen]
    simp
    exact ⟨by omega, h3⟩
  have hmul : l.length * n.toNat ≤ 1000 * 1000 := Nat.mul_le_mul h4 (by omega)
  have e : (⟨(List.replicate n.toNat (tx l).cps).foldl (· ++ ·) #[]⟩ : Str) = tx (List.replicate n.toNat l).flatten := by
    show Str.mk _ = Str.mk _
    congr 1
    apply Array.toList_inj.mp
    rw [fold_cat]
    simp [tx]
  refine P.mul_str (by rw [decide_eq_false (by omega), decide_eq_false (by omega)]; rfl) (fun _ _ z => ?_) (fun _ _ => ?_) ?_
  · rw [hlen] at z
    have : (1000 : Int) ≤ (2 ^ 63 - 1) / n := Int.le_ediv_of_mul_le (by omega) (by omega)
    omega
  · rw [hlen]
    exact decide_eq_false (by unfold sizeLine; omega)
  · rw [if_neg (by omega), if_neg (by rw [hno]; decide), e]
    refine ⟨?_, ⟨.str _, H, I.tok _, ⟨_, rfl⟩, q⟩⟩
    rw [show (tx (List.replicate n.toNat l).flatten).length = (List.replicate n.toNat l).flatten.length by show (tx _).cps.size = _; simp [tx], List.length_flatten, List.map_replicate, List.sum_replicate_nat, Nat.mul_comm]
    unfold sizeLine
    omega
def mulD : OpD := fun a b S k => match a, b with
  | .int i, .int j => CMul i j ∧ k (.val (.int (i * j))) S
  | .lst l, .int n => (-(2 ^ 63) ≤ n ∧ n < 2 ^ 63 ∧ l.length * n.toNat ≤ sizeLine) ∧ k (.val (.lst (List.replicate n.toNat l).flatten)) S
  | .tup l, .int n => (l ≠ [] ∧ l.length ≤ 1000 ∧ 1 ≤ n ∧ n ≤ 1000) ∧ k (.val (.tup (List.replicate n.toNat l).flatten)) S
  | .str l, .int n => (2 ≤ n ∧ n ≤ 1000 ∧ l ≠ [] ∧ l.length ≤ 1000) ∧ k (.val (.str (List.replicate n.toNat l).flatten)) S
  | _, _ => False
theorem mulD_mono : MonoO mulD := by
  intro a b S Q Q' h q
  cases a <;> cases b <;> first | exact q.elim | exact ⟨q.1, h _ _ q.2⟩
theorem RVs.rep {H : Hp} {av : Addr → Prop} {ds : List D} {vs : List V} (h : RVs K H av ds vs) : ∀ n, RVs K H av (List.replicate n ds).flatten (List.replicate n vs).flatten
  | 0 => RVs.nil
  | n + 1 => by
    rw [List.replicate_succ, List.replicate_succ, List.flatten_cons, List.flatten_cons]
    exact h.append (RVs.rep h n)
/-- a list times an int, where it may be locked -/
def rMul (K : Kw) : R2 := fun x y H Q => rI CMul (fun i j => .int (i * j)) x y H Q ∨ rRep x y H Q ∨ rRep1 K x y H Q ∨ rRepT K x y H Q ∨ rRepS x y H Q
theorem op_mulM {X : Cx} : OpR X (binaryOp .Mult) (rMul X.kw) := op_mul.or (op_rep.or (op_rep1.or (op_repT.or op_repS)))
theorem mulM : OpM K (rMul K) mulD := by
  intro A B H S dx dy vx vy k Q c rx ry h af
  cases dx with
  | int i =>
    cases dy with
    | int j => rw [rx.int, ry.int]; exact .inl ⟨i, j, rfl, rfl, h.1, af.int c h.2⟩
    | _ => exact h.elim
  | lst i =>
    cases dy with
    | int j =>
      obtain ⟨a, xs, rfl, ra, va⟩ := rx.lst
      rw [ry.int]
      refine .inr (.inl ⟨a, j, xs, rfl, rfl, ra, h.1.1, h.1.2.1, by rw [va.length]; exact h.1.2.2, fun p hp => af.newLst c h.2 (va.rep _) hp⟩)
    | _ => exact h.elim
  | tup i =>
    cases dy with
    | int j =>
      obtain ⟨a, xs, rfl, ra, na, va⟩ := rx.tup
      rw [ry.int]
      obtain ⟨⟨h1, h2, h3, h4⟩, h5⟩ := h
      by_cases e : j = 1
      · subst e
        refine .inr (.inr (.inl ⟨a, xs, rfl, rfl, .inl (.inl ra), af.now c h5 ?_⟩))
        show RV K H (av A B) (.tup (i ++ [])) (.ref a)
        rw [List.append_nil]
        unfold RV
        exact ⟨a, xs, rfl, ra, na, va⟩
      · refine .inr (.inr (.inr (.inl ⟨a, j, xs, rfl, rfl, .inl (.inl ra), fun z => h1 ?_, by omega, h4, by rw [va.length]; exact h2, fun p hp => af.newTup c h5 (va.rep _) hp⟩)))
        have := va.length
        rw [z] at this
        exact List.length_eq_zero_iff.mp this.symm
    | _ => exact h.elim
  | str i =>
    cases dy with
    | int j =>
      rw [rx.str, ry.int]
      exact .inr (.inr (.inr (.inr ⟨i, j, rfl, rfl, h.1, af.str c h.2⟩)))
    | _ => exact h.elim
  | _ => exact h.elim
/-! ### order -/
/-- ints, texts -/
def ordD (f : Int → Int → Bool) (g : List Nat → List Nat → Bool) : OpD := fun a b S k => match a, b with
  | .int i, .int j => k (.val (.bl (f i j))) S
  | .str s, .str t => k (.val (.bl (g s t))) S
  | _, _ => False
theorem ordD_mono {f : Int → Int → Bool} {g : List Nat → List Nat → Bool} : MonoO (ordD f g) := by
  intro a b S Q Q' h q
  cases a <;> cases b <;> first | exact q.elim | exact h _ _ q
def rOrd (f : Int → Int → Bool) (g : List Nat → List Nat → Bool) : R2 := fun x y H Q => rI0 (fun i j => .bl (f i j)) x y H Q ∨ (∃ i j, x = .str i ∧ y = .str j ∧ Q (.bl (g i.cps.toList j.cps.toList)) H)
theorem ordM {f : Int → Int → Bool} {g : List Nat → List Nat → Bool} : OpM K (rOrd f g) (ordD f g) := by
  intro A B H S dx dy vx vy k Q c rx ry h af
  cases dx with
  | int i =>
    cases dy with
    | int j => rw [rx.int, ry.int]; exact .inl ⟨i, j, rfl, rfl, af.bl c h⟩
    | _ => exact h.elim
  | str i =>
    cases dy with
    | str j => rw [rx.str, ry.str]; exact .inr ⟨_, _, rfl, rfl, by rw [tx_toList, tx_toList]; exact af.bl c h⟩
    | _ => exact h.elim
  | _ => exact h.elim
def ltD : OpD := ordD (fun i j => decide (i < j)) (fun s t => decide (s < t))
def leD : OpD := ordD (fun i j => decide (i ≤ j)) (fun s t => !decide (t < s))
def gtD : OpD := ordD (fun i j => decide (j < i)) (fun s t => decide (t < s))
def geD : OpD := ordD (fun i j => decide (j ≤ i)) (fun s t => !decide (s < t))
theorem op_ltM {X : Cx} : OpR X (compareOp .Lt) (rOrd (fun i j => decide (i < j)) (fun s t => decide (s < t))) := op_lt.or op_lt_str
theorem op_gtM {X : Cx} : OpR X (compareOp .Gt) (rOrd (fun i j => decide (j < i)) (fun s t => decide (t < s))) := op_gt.or op_gt_str
theorem op_geM {X : Cx} : OpR X (compareOp .GtE) (rOrd (fun i j => decide (j ≤ i)) (fun s t => !decide (s < t))) := op_ge.or op_ge_str
/-! ### is -/
def D.isNon : D → Bool
  | .non => true
  | _ => false
/-- is with None, with a truth -/
def isD (neg : Bool) : OpD := fun a b S k => match b with
  | .non => k (.val (.bl (a.isNon != neg))) S
  | .bl c => match a with
    | .bl d => k (.val (.bl (decide (d = c) != neg))) S
    | _ => False
  | _ => False
theorem isD_mono {neg : Bool} : MonoO (isD neg) := by
  intro a b S Q Q' h q
  cases b <;> first | exact q.elim | exact h _ _ q | (cases a <;> first | exact q.elim | exact h _ _ q)
def rIsM (neg : Bool) : R2 := fun x y H Q => (y = .non ∧ Q (.bl (decide (x = .non) != neg)) H) ∨ (∃ a b : Bool, x = .bl a ∧ y = .bl b ∧ Q (.bl (decide (a = b) != neg)) H)
theorem RD.isNon {H : Hp} {av : Addr → Prop} {d : D} {v : V} (r : RD K H av d v) : decide (v = .non) = d.isNon := by
  cases d with
  | non => rw [r.non]; rfl
  | bl b => rw [r.bl]; rfl
  | int b => rw [r.int]; rfl
  | str b => rw [r.str]; rfl
  | tup b => obtain ⟨a, vs, rfl, _⟩ := r.tup; rfl
  | lst b => obtain ⟨a, vs, rfl, _⟩ := r.lst; rfl
  | dct b _ => obtain ⟨a, u, kv, vs, rfl, _⟩ := r.dct; rfl
  | scr b => obtain ⟨a, rfl, _⟩ := r.scr; rfl
theorem isM {neg : Bool} : OpM K (rIsM neg) (isD neg) := by
  intro A B H S dx dy vx vy k Q c rx ry h af
  cases dy with
  | non =>
    refine .inl ⟨ry.non, ?_⟩
    rw [rx.isNon]
    exact af.bl c h
  | bl j =>
    cases dx with
    | bl i =>
      rw [rx.bl, ry.bl]
      exact .inr ⟨i, j, rfl, rfl, af.bl c h⟩
    | _ => exact h.elim
  | _ => exact h.elim
theorem op_isM {X : Cx} : OpR X (compareOp .Is) (rIsM false) := by
  intro pins s σ H x y v u Q I rx ry h
  rcases h with ⟨e, q⟩ | ⟨a, b, e, e', q⟩
  · exact op_isN pins s σ H x y v u Q I rx ry ⟨e, by simpa using q⟩
  · exact op_isBl pins s σ H x y v u Q I rx ry ⟨a, b, e, e', by simpa using q⟩
/-! ### == -/
mutual
def py : D → PyData
  | .non => .none
  | .bl b => .bool b
  | .int i => .int i
  | .str l => .str (tx l)
  | .tup ds => .tuple (pys ds)
  | .lst ds => .list (pys ds)
  | .dct _ _ => .dict []
  | .scr _ => .dict []
def pys : List D → List PyData
  | [] => []
  | d :: ds => py d :: pys ds
end
mutual
theorem RV.dp {H : Hp} {av : Addr → Prop} : ∀ {d : D} {v : V}, RV K H av d v → (py d).canLay0 = true → Dp K H v (py d)
  | .non, _, h, _ => by unfold RV at h; subst h; exact .non
  | .bl _, _, h, _ => by unfold RV at h; subst h; exact .bl _
  | .int _, _, h, _ => by unfold RV at h; subst h; exact .int _
  | .str _, _, h, _ => by unfold RV at h; subst h; exact .str _
  | .tup ds, _, h, q => by
    unfold RV at h
    obtain ⟨a, vs, rfl, r, _, t⟩ := h
    simp only [py, PyData.canLay0] at q
    simp only [py]
    exact .tup (.inl (.inl r)) (RVs.dp t q)
  | .lst ds, _, h, q => by
    unfold RV at h
    obtain ⟨a, vs, rfl, r, _, t⟩ := h
    simp only [py, PyData.canLay0] at q
    simp only [py]
    exact .lst (.inl (.inl r)) (RVs.dp t q)
  | .dct _ _, _, h, q => by simp only [py, PyData.canLay0] at q; cases q
  | .scr _, _, h, q => by simp only [py, PyData.canLay0] at q; cases q
theorem RVs.dp {H : Hp} {av : Addr → Prop} : ∀ {ds : List D} {vs : List V}, RVs K H av ds vs → PyData.canLayAll0 (pys ds) = true → DpAll K H vs (pys ds)
  | [], _, h, _ => by unfold RVs at h; subst h; exact .nil
  | d :: ds, _, h, q => by
    unfold RVs at h
    obtain ⟨v, r, rfl, h1, h2⟩ := h
    simp only [pys, PyData.canLayAll0, Bool.and_eq_true] at q
    simp only [pys]
    exact .cons (RV.dp h1 q.1) (RVs.dp h2 q.2)
end
theorem RD.dp {H : Hp} {av : Addr → Prop} {d : D} {v : V} (r : RD K H av d v) (q : (py d).canLay0 = true) : Dp K H v (py d) := by
  cases d with
  | lst ds =>
    obtain ⟨a, vs, rfl, r, t⟩ := r.lst
    simp only [py, PyData.canLay0] at q
    simp only [py]
    exact .lst (.inl (.inl r)) (RVs.dp t q)
  | dct _ _ => simp only [py, PyData.canLay0] at q; cases q
  | non => exact RV.dp (av := av) (d := .non) r q
  | bl b => exact RV.dp (av := av) (d := .bl b) r q
  | int b => exact RV.dp (av := av) (d := .int b) r q
  | str b => exact RV.dp (av := av) (d := .str b) r q
  | tup b => exact RV.dp (av := av) (d := .tup b) r q
  | scr b => exact RV.dp (av := av) (d := .scr b) r q
def shp (d : D) : Prop := SeqAt.shaped (py d) = true
/-- ==, != -/
def eqD (neg : Bool) : OpD := fun a b S k => match a, b with
  | .int i, .int j => k (.val (.bl (decide (i = j) != neg))) S
  | .str i, .str j => k (.val (.bl (decide (i = j) != neg))) S
  | .bl i, .bl j => k (.val (.bl (decide (i = j) != neg))) S
  | a, b => shp a ∧ shp b ∧ k (.val (.bl (PyData.eqv (py a) (py b) != neg))) S
theorem eqD_mono {neg : Bool} : MonoO (eqD neg) := by
  intro a b S Q Q' h q
  cases a <;> cases b <;> first | exact h _ _ q | exact ⟨q.1, q.2.1, h _ _ q.2.2⟩
def rEqM (K : Kw) (neg : Bool) : R2 := fun x y H Q => (scal x y = true ∧ Q (.bl (decide (x = y) != neg)) H) ∨ (∃ d e, Dp K H x d ∧ Dp K H y e ∧ SeqAt.shaped d = true ∧ SeqAt.shaped e = true ∧ Q (.bl (PyData.eqv d e != neg)) H)
theorem eqM {neg : Bool} : OpM K (rEqM K neg) (eqD neg) := by
  intro A B H S dx dy vx vy k Q c rx ry h af
  have gen : shp dx ∧ shp dy ∧ k (.val (.bl (PyData.eqv (py dx) (py dy) != neg))) S → rEqM K neg vx vy H Q := fun g =>
    .inr ⟨_, _, rx.dp (SeqAt.canLay_of_shaped g.1), ry.dp (SeqAt.canLay_of_shaped g.2.1), g.1, g.2.1, af.bl c g.2.2⟩
  cases dx with
  | int i =>
    cases dy with
    | int j =>
      rw [rx.int, ry.int]
      refine .inl ⟨rfl, ?_⟩
      have e : decide (V.int i = V.int j) = decide (i = j) := by simp
      rw [e]
      exact af.bl c h
    | _ => exact gen h
  | str i =>
    cases dy with
    | str j =>
      rw [rx.str, ry.str]
      refine .inl ⟨rfl, ?_⟩
      have e : decide (V.str (tx i) = V.str (tx j)) = decide (i = j) := by
        rw [Bool.eq_iff_iff]
        simp [tx_inj]
      rw [e]
      exact af.bl c h
    | _ => exact gen h
  | bl i =>
    cases dy with
    | bl j =>
      rw [rx.bl, ry.bl]
      refine .inl ⟨rfl, ?_⟩
      have e : decide (V.bl i = V.bl j) = decide (i = j) := by
        rw [Bool.eq_iff_iff]
        simp
      rw [e]
      exact af.bl c h
    | _ => exact gen h
  | _ => exact gen h
theorem op_eqM {X : Cx} (hu : X.A.units + 64 < cLine) : OpR X (compareOp .Eq) (rEqM X.kw false) := by
  intro pins s σ H x y v u Q I rx ry h
  rcases h with ⟨e, q⟩ | ⟨a, b, e1, e2, e3, e4, q⟩
  · exact op_eq pins s σ H x y v u Q I rx ry ⟨e, by simpa using q⟩
  · exact op_eqD hu pins s σ H x y v u Q I rx ry ⟨a, b, e1, e2, e3, e4, by simpa using q⟩
theorem op_neM {X : Cx} (hu : X.A.units + 64 < cLine) : OpR X (compareOp .NotEq) (rEqM X.kw true) := by
  intro pins s σ H x y v u Q I rx ry h
  rcases h with ⟨e, q⟩ | ⟨a, b, e1, e2, e3, e4, q⟩
  · exact op_ne pins s σ H x y v u Q I rx ry ⟨e, by simpa using q⟩
  · exact op_neD hu pins s σ H x y v u Q I rx ry ⟨a, b, e1, e2, e3, e4, by simpa using q⟩
/-! ### in -/
/-- a sign in a text; data in a list -/
def inD (neg : Bool) : OpD := fun a b S k => match b with
  | .str l => match a with
    | .str [c] => k (.val (.bl (decide (c ∈ l) != neg))) S
    | _ => False
  | .lst l => shp a ∧ shp (.lst l) ∧ k (.val (.bl ((pys l).any (fun z => PyData.eqv z (py a)) != neg))) S
  | _ => False
theorem inD_mono {neg : Bool} : MonoO (inD neg) := by
  intro a b S Q Q' h q
  unfold inD at q ⊢
  split at q
  · split at q <;> first | exact h _ _ q | exact q.elim
  · exact ⟨q.1, q.2.1, h _ _ q.2.2⟩
  · exact q.elim
def rInM (K : Kw) (neg : Bool) : R2 := fun x y H Q => (∃ (c : Nat) (z : Str), x = .str ⟨#[c]⟩ ∧ y = .str z ∧ Q (.bl (decide (c ∈ z.cps.toList) != neg)) H) ∨
  (∃ d ds, Dp K H x d ∧ Dp K H y (.list ds) ∧ SeqAt.shaped d = true ∧ SeqAt.shaped (.list ds) = true ∧ Q (.bl ((ds.any fun z => PyData.eqv z d) != neg)) H)
theorem inM {neg : Bool} : OpM K (rInM K neg) (inD neg) := by
  intro A B H S dx dy vx vy k Q c rx ry h af
  unfold inD at h
  split at h
  · split at h
    · rw [rx.str, ry.str]
      exact .inl ⟨_, _, rfl, rfl, by rw [tx_toList]; exact af.bl c h⟩
    · exact h.elim
  · obtain ⟨h1, h2, h3⟩ := h
    have e := ry.dp (SeqAt.canLay_of_shaped h2)
    simp only [py] at e
    simp only [shp, py] at h2
    exact .inr ⟨_, _, rx.dp (SeqAt.canLay_of_shaped h1), e, h1, h2, af.bl c h3⟩
  · exact h.elim
theorem op_notInM {X : Cx} (hu : X.A.units + 65 < cLine) : OpR X (compareOp .NotIn) (rInM X.kw true) := by
  intro pins s σ H x y v u Q I rx ry h
  rcases h with ⟨a, b, e1, e2, q⟩ | ⟨a, b, e1, e2, e3, e4, q⟩
  · exact op_notIn_sign pins s σ H x y v u Q I rx ry ⟨a, b, e1, e2, by simpa using q⟩
  · exact op_notInD hu pins s σ H x y v u Q I rx ry ⟨a, b, e1, e2, e3, e4, by simpa using q⟩
end Fo
/-! Core4: subscripts, slices, argument lists, displays, calls. -/
namespace Fo
open PySem PySem.Spec PyProof.Rows L2
variable {K : Kw}
/-! ### chains of two comparisons -/
def mChain (o o' : OpD) (a b c : ME) : ME := fun ρ S k => a ρ S fun x S1 => b ρ S1 fun y S2 => rd S2 x fun dx => rd S2 y fun dy => o dx dy S2 fun z S3 => asB z S3 fun t S3 =>
  if t = true then c ρ S3 fun w S4 => rd S4 y fun dy => rd S4 w fun dw => o' dy dw S4 k else k (.val (.bl false)) S3
/-! ### subscripts -/
def itemK (l : List D) (i : Int) (S : Sto) (k : KW) : Prop := match atI l i with
  | some d => k (.val d) S
  | none => False
def ixD : OpD := fun a b S k => match b with
  | .int i => match a with
    | .str l => l.length ≤ sizeLine ∧ (match atI l i with
      | some c => k (.val (.str [c])) S
      | none => False)
    | .tup l => itemK l i S k
    | .lst l => itemK l i S k
    | _ => False
  | _ => False
theorem itemK_mono {l : List D} {i : Int} {S : Sto} {k k' : KW} (h : ∀ w S', k w S' → k' w S') (q : itemK l i S k) : itemK l i S k' := by
  unfold itemK at q ⊢
  split at q
  · exact h _ _ q
  · exact q.elim
theorem ixD_mono : MonoO ixD := by
  intro a b S Q Q' h q
  unfold ixD at q ⊢
  split at q
  · split at q
    · refine ⟨q.1, ?_⟩
      have q2 := q.2
      split at q2
      · exact h _ _ q2
      · exact q2.elim
    · exact itemK_mono h q
    · exact itemK_mono h q
    · exact q.elim
  · exact q.elim
theorem RVs.atI {H : Hp} {av : Addr → Prop} {ds : List D} {vs : List V} {i : Int} {d : D} (h : RVs K H av ds vs) (e : L2.atI ds i = some d) : ∃ v, L2.atI vs i = some v ∧ RV K H av d v := by
  unfold L2.atI at e ⊢
  rw [h.length]
  cases q : ixN ds.length i with
  | none => rw [q] at e; cases e
  | some j =>
    rw [q] at e
    exact h.get e
theorem ixM : OpM K (rIx K) ixD := by
  intro A B H S dx dy vx vy k Q c rx ry h af
  unfold ixD at h
  split at h
  · rename_i i
    rw [ry.int]
    split at h
    · obtain ⟨h1, h2⟩ := h
      split at h2
      · rename_i l _ ch e
        rw [rx.str]
        refine .inr (.inr ⟨tx l, i, ch, rfl, rfl, by rw [tx_length]; exact h1, by rw [tx_toList]; exact e, ?_⟩)
        exact af.str c h2
      · exact h2.elim
    · unfold itemK at h
      split at h
      · rename_i l d e
        obtain ⟨a, xs, rfl, ra, na, va⟩ := rx.tup
        obtain ⟨v, e2, rv⟩ := va.atI e
        exact .inr (.inl ⟨a, xs, i, v, rfl, rfl, .inl (.inl ra), e2, af.now c h rv⟩)
      · exact h.elim
    · unfold itemK at h
      split at h
      · rename_i l d e
        obtain ⟨a, xs, rfl, ra, va⟩ := rx.lst
        obtain ⟨v, e2, rv⟩ := va.atI e
        exact .inl ⟨a, xs, i, v, rfl, rfl, .inl (.inl ra), e2, af.now c h rv⟩
      · exact h.elim
    · exact h.elim
  · exact h.elim
theorem pem_ix {X : Cx} {a b : Expr} {ta tb : ME} {pos : Pos} (ha : PEm X a ta) (hb : PEm X b tb) (hs : PlainIx b := by exact fun _ _ => rfl) : PEm X (.Subscript a b pos) (mBin ixD ta tb) :=
  ⟨(pe_ix ix_seq ha.pe hb.pe hs).imp fun _ _ _ h => tOp_up ixM h, mBin_mono ixD_mono ha.mono hb.mono⟩
/-! ### slices -/
abbrev MO := Rho → Sto → (Option Int → Sto → Prop) → Prop
def MonoO' (t : MO) : Prop := ∀ ρ S (Q Q' : Option Int → Sto → Prop), (∀ w S', Q w S' → Q' w S') → t ρ S Q → t ρ S Q'
def upO (K : Kw) (t : MO) : TO := fun σ H Q => ∃ A B ρ S k, Rel K H A B ρ S σ ∧ t ρ S k ∧ ∀ o S', k o S' → ∀ A' H', Keep A H A' H' → Cells K H' A' B S' → Q o H'
structure POm (X : Cx) (e : Option Expr) (t : MO) : Prop where
  po : PO X e (upO X.kw t)
  mono : MonoO' t
def oNo : MO := fun _ S k => k none S
def asI (w : W) (S : Sto) (k : Int → Sto → Prop) : Prop := match w with
  | .val (.int i) => k i S
  | _ => False
theorem asI_mono {w : W} {S : Sto} {k k' : Int → Sto → Prop} (h : ∀ b S, k b S → k' b S) (q : asI w S k) : asI w S k' := by
  unfold asI at q ⊢
  split at q <;> first | exact h _ _ q | exact q.elim
theorem asI_ok {H : Hp} {A : List (Option Addr)} {B : Addr → Prop} {w : W} {v : V} {S : Sto} {k : Int → Sto → Prop} (r : RW K H A B w v) (h : asI w S k) : ∃ b, v = .int b ∧ k b S := by
  unfold asI at h
  split at h
  · rename_i b
    refine ⟨b, ?_, h⟩
    have r' : RV K H (av A B) (.int b) v := r
    unfold RV at r'
    exact r'
  · exact h.elim
def oAt (t : ME) : MO := fun ρ S k => t ρ S fun w S1 => asI w S1 fun i S1 => k (some i) S1
theorem _root_.L2.PO.imp {X : Cx} {e : Option Expr} {t t' : TO} (h : PO X e t) (i : ∀ σ H Q, t' σ H Q → t σ H Q) : PO X e t' := ⟨fun pins s σ H Q I q => h.run pins s σ H Q I (i σ H Q q)⟩
theorem pom_none {X : Cx} : POm X none oNo := by
  refine ⟨po_none.imp ?_, fun ρ S Q Q' h q => h _ _ q⟩
  rintro σ H Q ⟨A, B, ρ, S, k, r, h, a⟩
  exact a _ _ h A H Keep.refl r.cells
theorem pom_some {X : Cx} {e : Expr} {t : ME} (h : PEm X e t) : POm X (some e) (oAt t) := by
  refine ⟨(po_some h.pe).imp ?_, fun ρ S Q Q' hq q => h.mono ρ S _ _ (fun w S1 => asI_mono fun b S2 => hq _ _) q⟩
  rintro σ H Q ⟨A, B, ρ, S, k, r, h, a⟩
  refine up_then r h fun w S1 A1 v H1 h1 k1 r1 rw1 => ?_
  obtain ⟨i, e, q⟩ := asI_ok rw1 h1
  exact ⟨i, e, a _ _ q A1 H1 k1 r1.cells⟩
def cutL {α : Type} (xs : List α) (lo hi : Option Int) : List α := (xs.drop (HT.sIx xs.length 0 lo)).take (HT.sIx xs.length xs.length hi - HT.sIx xs.length 0 lo)
def slD (lo hi : Option Int) (a : D) (S : Sto) (k : KW) : Prop := match a with
  | .str l => l.length ≤ sizeLine ∧ k (.val (.str (cutL l lo hi))) S
  | .tup l => k (.val (.tup (cutL l lo hi))) S
  | .lst l => k (.val (.lst (cutL l lo hi))) S
  | .scr l => k (.val (.lst ((cutL l lo hi).map D.int))) S
  | _ => False
theorem slD_mono {lo hi : Option Int} {a : D} {S : Sto} {k k' : KW} (h : ∀ w S', k w S' → k' w S') (q : slD lo hi a S k) : slD lo hi a S k' := by
  cases a <;> first | exact q.elim | exact h _ _ q | exact ⟨q.1, h _ _ q.2⟩
def mSlice (a : ME) (lo hi : MO) : ME := fun ρ S k => a ρ S fun x S1 => lo ρ S1 fun l S2 => hi ρ S2 fun u S3 => rd S3 x fun d => slD l u d S3 k
theorem RVs.cut {H : Hp} {av : Addr → Prop} {ds : List D} {vs : List V} (h : RVs K H av ds vs) (lo hi : Option Int) : RVs K H av (cutL ds lo hi) (cutV vs lo hi) := by
  unfold cutL cutV
  rw [h.length]
  exact (h.drop _).take _
theorem RVs.ints {H : Hp} {av : Addr → Prop} : ∀ (l : List Int), RVs K H av (l.map D.int) (l.map V.int)
  | [] => RVs.nil
  | i :: l => by
    rw [List.map_cons, List.map_cons]
    refine RVs.cons ?_ (RVs.ints l)
    unfold RV
    rfl
theorem cutV_map (l : List Int) (lo hi : Option Int) : cutV (l.map V.int) lo hi = (cutL l lo hi).map V.int := by
  unfold cutV cutL
  rw [List.length_map, List.map_take, List.map_drop]
def rSl (K : Kw) : V → Option Int → Option Int → Hp → VK → Prop := fun x lo hi H Q => rSlS x lo hi H Q ∨ rSlA K x lo hi H Q ∨ rSlL K x lo hi H Q
theorem sl_all {X : Cx} : SlR X (rSl X.kw) := sl_str.or (sl_tupA.or sl_list)
theorem slM {A : List (Option Addr)} {B : Addr → Prop} {H : Hp} {S : Sto} {d : D} {v : V} {lo hi : Option Int} {k : KW} {Q : VK} (c : Cells K H A B S) (r : RD K H (av A B) d v) (h : slD lo hi d S k) (af : Aft K A B H k Q) : rSl K v lo hi H Q := by
  cases d with
  | str l =>
    rw [r.str]
    refine .inl ⟨_, rfl, by rw [tx_length]; exact h.1, ?_⟩
    have e : cutS (tx l) lo hi = tx (cutL l lo hi) := by
      unfold cutS cutL tx
      simp [Str.length]
    rw [e]
    exact af.str c h.2
  | tup l =>
    obtain ⟨a, xs, rfl, ra, na, va⟩ := r.tup
    refine .inr (.inl ⟨a, xs, rfl, .inl (.inl ra), fun hw => af.now c h ?_, fun _ p hp => af.newTup c h (va.cut lo hi) hp⟩)
    have e : cutL l lo hi = l := by
      unfold cutL
      rw [← va.length, hw.1, hw.2, List.drop_zero, Nat.sub_zero, va.length, List.take_length]
    show RV K H (Fo.av A B) (.tup (cutL l lo hi)) (.ref a)
    rw [e]
    unfold RV
    exact ⟨a, xs, rfl, ra, na, va⟩
  | lst l =>
    obtain ⟨a, xs, rfl, ra, va⟩ := r.lst
    exact .inr (.inr ⟨a, xs, rfl, .inl (.inl ra), fun p hp => af.newLst c h (va.cut lo hi) hp⟩)
  | scr l =>
    obtain ⟨a, rfl, q⟩ := r.scr
    refine .inr (.inr ⟨a, _, rfl, q, fun p hp => ?_⟩)
    rw [cutV_map]
    exact af.newLst c h (RVs.ints _) hp
  | _ => exact h.elim
theorem pem_slice {X : Cx} {a : Expr} {lo hi : Option Expr} {ta : ME} {tl th : MO} {p2 pos : Pos} (ha : PEm X a ta) (hl : POm X lo tl) (hh : POm X hi th) : PEm X (.Subscript a (.Slice lo hi none p2) pos) (mSlice ta tl th) := by
  refine ⟨(pe_slice sl_all ha.pe hl.po hh.po).imp ?_, fun ρ S Q Q' h q => ha.mono ρ S _ _ (fun x S1 => hl.mono ρ S1 _ _ fun l S2 => hh.mono ρ S2 _ _ fun u S3 => rd_mono fun d => slD_mono h) q⟩
  rintro σ H Q ⟨A, B, ρ, S, k, r, h, af⟩
  refine up_then r h fun x S1 A1 v H1 h1 k1 r1 rx => ?_
  refine ⟨A1, B, ρ, S1, _, r1, h1, fun l S2 h2 A2 H2 k2 c2 => ?_⟩
  refine ⟨A2, B, ρ, S2, _, r1.keep k2 c2, h2, fun u S3 h3 A3 H3 k3 c3 => ?_⟩
  obtain ⟨d, hd, h4⟩ := rd_ok c3 ((rx.keep k2).keep k3) h3
  exact slM c3 hd h4 (af.keep ((k1.trans k2).trans k3))
/-! ### argument lists -/
def aNil : MA := fun _ S k => k [] S
def aCons (t : ME) (u : MA) : MA := fun ρ S k => t ρ S fun w S1 => u ρ S1 fun ws S2 => k (w :: ws) S2
theorem aNil_mono : MonoA aNil := fun _ _ _ _ h q => h _ _ q
theorem aCons_mono {t : ME} {u : MA} (mt : MonoE t) (mu : MonoA u) : MonoA (aCons t u) := fun ρ S _ _ h q => mt ρ S _ _ (fun w S1 => mu ρ S1 _ _ fun ws S2 => h _ _) q
section
variable {X : Cx} {e : Expr} {es : List Expr} {t : ME} {u : MA} {pos : Pos}
theorem pam_nil : PAm X [] aNil := by
  refine ⟨pa_nil.imp ?_, aNil_mono, fun ρ S Q q => ⟨rfl, q⟩⟩
  rintro σ H Q ⟨A, B, ρ, S, k, r, h, a⟩
  exact a _ _ h A _ H Keep.refl r.cells .nil
theorem tCons_up {σ : L2.St} {H : Hp} {Q : List V → Hp → Prop} (h : upA K (aCons t u) σ H Q) : tCons (up K t) (upA K u) σ H Q := by
  obtain ⟨A, B, ρ, S, k, r, h, a⟩ := h
  refine up_then r h fun w S1 A1 v H1 h1 k1 r1 rw1 => ?_
  refine upA_then r1 h1 fun ws S2 A2 vs H2 h2 k2 r2 rws => ?_
  exact a _ _ h2 A2 _ H2 (k1.trans k2) r2.cells (.cons (rw1.keep k2) rws)
theorem pam_cons (h : PEm X e t) (h' : PAm X es u) (hs : starEach (e :: es) X.env = (false, eval e X.env) :: starEach es X.env := by rfl) : PAm X (e :: es) (aCons t u) :=
  ⟨(pa_cons h.pe h'.pa hs).imp fun _ _ _ h => tCons_up h, aCons_mono h.mono h'.mono, fun ρ S Q q => h.mono ρ S _ _ (fun w S1 q1 => h'.mono ρ S1 _ _ (fun ws S2 q2 => ⟨by rw [List.length_cons, List.length_cons, q2.1], q2.2⟩) (h'.len ρ S1 _ q1)) q⟩
end
/-- all are data -/
def vals : List W → (List D → Prop) → Prop
  | [], k => k []
  | .val d :: r, k => vals r fun ds => k (d :: ds)
  | .ref _ :: _, _ => False
  | .lws _ :: _, _ => False
  | .ins _ _ _ :: _, _ => False
  | .fn _ :: _, _ => False
  | .tpl _ :: _, _ => False
  | .exv _ :: _, _ => False
  | .lsw _ :: _, _ => False
theorem vals_mono : ∀ {ws : List W} {k k' : List D → Prop}, (∀ ds, k ds → k' ds) → vals ws k → vals ws k'
  | [], _, _, h, q => h _ q
  | .val d :: r, _, _, h, q => vals_mono (ws := r) (fun ds => h _) q
  | .ref _ :: _, _, _, _, q => q.elim
  | .lws _ :: _, _, _, _, q => q.elim
  | .ins _ _ _ :: _, _, _, _, q => q.elim
  | .fn _ :: _, _, _, _, q => q.elim
  | .tpl _ :: _, _, _, _, q => q.elim
  | .exv _ :: _, _, _, _, q => q.elim
  | .lsw _ :: _, _, _, _, q => q.elim
theorem vals_ok {H : Hp} {A : List (Option Addr)} {B : Addr → Prop} : ∀ {ws : List W} {vs : List V} {k : List D → Prop}, RWs K H A B ws vs → vals ws k → ∃ ds, RVs K H (av A B) ds vs ∧ k ds
  | [], _, _, r, h => by
    cases r
    exact ⟨[], RVs.nil, h⟩
  | .val d :: ws, _, _, r, h => by
    cases r with
    | cons r1 r2 =>
      obtain ⟨ds, q, h'⟩ := vals_ok r2 h
      exact ⟨d :: ds, RVs.cons r1 q, h'⟩
  | .ref _ :: _, _, _, _, h => h.elim
  | .lws _ :: _, _, _, _, h => h.elim
  | .ins _ _ _ :: _, _, _, _, h => h.elim
  | .fn _ :: _, _, _, _, h => h.elim
  | .tpl _ :: _, _, _, _, h => h.elim
  | .exv _ :: _, _, _, _, h => h.elim
  | .lsw _ :: _, _, _, _, h => h.elim
/-- each is read -/
def rds (S : Sto) : List W → (List D → Prop) → Prop
  | [], k => k []
  | w :: r, k => rd S w fun d => rds S r fun ds => k (d :: ds)
theorem rds_mono {S : Sto} : ∀ {ws : List W} {k k' : List D → Prop}, (∀ ds, k ds → k' ds) → rds S ws k → rds S ws k'
  | [], _, _, h, q => h _ q
  | w :: r, _, _, h, q => rd_mono (w := w) (fun d => rds_mono (ws := r) fun ds => h _) q
def RDs (K : Kw) (H : Hp) (av : Addr → Prop) : List D → List V → Prop := Paired (RD K H av)
theorem rds_ok {H : Hp} {A : List (Option Addr)} {B : Addr → Prop} {S : Sto} (c : Cells K H A B S) : ∀ {ws : List W} {vs : List V} {k : List D → Prop}, RWs K H A B ws vs → rds S ws k → ∃ ds, RDs K H (av A B) ds vs ∧ k ds
  | [], _, _, r, h => by
    cases r
    exact ⟨[], .nil, h⟩
  | w :: ws, _, _, r, h => by
    cases r with
    | cons r1 r2 =>
      obtain ⟨d, q1, h1⟩ := rd_ok c r1 h
      obtain ⟨ds, q, h'⟩ := rds_ok c r2 h1
      exact ⟨d :: ds, .cons q1 q, h'⟩
/-! ### new lists: as data, as a cell -/
abbrev MN := Rho → Sto → (List D → Sto → Prop) → Prop
def MonoN (t : MN) : Prop := ∀ ρ S (Q Q' : List D → Sto → Prop), (∀ w S', Q w S' → Q' w S') → t ρ S Q → t ρ S Q'
/-- behind it a new list of these stands -/
def AftN (K : Kw) (A : List (Option Addr)) (B : Addr → Prop) (H : Hp) (k : List D → Sto → Prop) (Q : VK) : Prop :=
  ∀ ds S', k ds S' → ∀ A' H1 p vs, Keep A H A' H1 → Cells K H1 A' B S' → RVs K H1 (av A' B) ds vs → H1 p = none → Q (.ref p) (upd H1 p (.lst vs))
def upN (K : Kw) (t : MN) : TE := fun σ H Q => ∃ A B ρ S k, Rel K H A B ρ S σ ∧ t ρ S k ∧ AftN K A B H k Q
structure PNm (X : Cx) (e : Expr) (t : MN) : Prop where
  pe : PE X e (upN X.kw t)
  mono : MonoN t
def mVal (t : MN) : ME := fun ρ S k => t ρ S fun ds S1 => k (.val (.lst ds)) S1
def mCell (t : MN) : ME := fun ρ S k => t ρ S fun ds S1 => k (.ref S1.length) (S1 ++ [.lst ds])
theorem PNm.val {X : Cx} {e : Expr} {t : MN} (h : PNm X e t) : PEm X e (mVal t) := by
  refine ⟨h.pe.imp ?_, fun ρ S Q Q' hq q => h.mono ρ S _ _ (fun ds S1 => hq _ _) q⟩
  rintro σ H Q ⟨A, B, ρ, S, k, r, h, a⟩
  exact ⟨A, B, ρ, S, _, r, h, fun ds S1 h1 A1 H1 p vs k1 c1 rv hp => a _ _ h1 A1 _ _ (k1.trans (Keep.upd hp)) (c1.upd hp) (RV.new_lst c1 hp rv)⟩
theorem PNm.cell {X : Cx} {e : Expr} {t : MN} (h : PNm X e t) : PEm X e (mCell t) := by
  refine ⟨h.pe.imp ?_, fun ρ S Q Q' hq q => h.mono ρ S _ _ (fun ds S1 => hq _ _) q⟩
  rintro σ H Q ⟨A, B, ρ, S, k, r, h, a⟩
  refine ⟨A, B, ρ, S, _, r, h, fun ds S1 h1 A1 H1 p vs k1 c1 rv hp => ?_⟩
  obtain ⟨c2, k2⟩ := c1.cell_lst hp rv
  refine a _ _ h1 _ _ _ (k1.trans k2) c2 (.inr ⟨p, ?_, rfl⟩)
  rw [← c1.len]
  simp
def nLst (t : MA) : MN := fun ρ S k => t ρ S fun ws S1 => vals ws fun ds => ds.length ≤ sizeLine ∧ k ds S1
theorem pnm_lst {X : Cx} {es : List Expr} {t : MA} {pos : Pos} (h : PAm X es t) : PNm X (.List es pos) (nLst t) := by
  refine ⟨(pe_lst h.pa).imp ?_, fun ρ S Q Q' hq q => h.mono ρ S _ _ (fun ws S1 => vals_mono fun ds q1 => ⟨q1.1, hq _ _ q1.2⟩) q⟩
  rintro σ H Q ⟨A, B, ρ, S, k, r, h, a⟩
  refine upA_then r h fun ws S1 A1 vs H1 h1 k1 r1 rws => ?_
  obtain ⟨ds, rv, hz, h2⟩ := vals_ok rws h1
  exact ⟨by rw [rv.length]; exact hz, fun p hp => a _ _ h2 A1 H1 p vs k1 r1.cells rv hp⟩
def mTup (t : MA) : ME := fun ρ S k => t ρ S fun ws S1 => vals ws fun ds => ds.length ≤ sizeLine ∧ k (.val (.tup ds)) S1
theorem pem_tup {X : Cx} {es : List Expr} {t : MA} {x1} {pos : Pos} (h : PAm X es t) : PEm X (.Tuple es x1 pos) (mTup t) := by
  refine ⟨(pe_tup h.pa).imp ?_, fun ρ S Q Q' hq q => h.mono ρ S _ _ (fun ws S1 => vals_mono fun ds q1 => ⟨q1.1, hq _ _ q1.2⟩) q⟩
  rintro σ H Q ⟨A, B, ρ, S, k, r, h, a⟩
  refine upA_then r h fun ws S1 A1 vs H1 h1 k1 r1 rws => ?_
  obtain ⟨ds, rv, hz, h2⟩ := vals_ok rws h1
  exact ⟨by rw [rv.length]; exact hz, fun p hp => (a.keep k1).newTup r1.cells h2 rv hp⟩
/-- a cell's content as data from now on -/
def mFrz (i : Nat) : ME := fun ρ S k => match ρ[i]? with
  | some (some (.ref n)) => match S[n]? with
    | some (.lst ds) => k (.val (.lst ds)) (S.set n .dead)
    | _ => False
  | some (some (.val d)) => k (.val d) S
  | _ => False
theorem pem_frz {X : Cx} {i : Nat} {x : Str} {pos : Pos} (h : PE X (.Name x pos) (tVar i)) : PEm X (.Name x pos) (mFrz i) := by
  refine ⟨h.imp ?_, fun ρ S Q Q' hq q => ?_⟩
  · rintro σ H Q ⟨A, B, ρ, S, k, r, h, a⟩
    unfold mFrz at h
    split at h
    · rename_i n e
      split at h
      · rename_i ds e2
        obtain ⟨v, e1, q⟩ := r.slot i _ e
        obtain ⟨ad, ha, vs, h1, h2⟩ := r.cells.look e2 (by intro z; cases z)
        obtain ⟨c2, k2, n2⟩ := r.cells.freeze ha
        refine ⟨v, e1, a _ _ h _ v H k2 c2 ?_⟩
        show RV X.kw H (av _ B) (.lst ds) v
        unfold RV
        exact ⟨ad, vs, q.at_ ha, h1, n2, h2.stay k2.stay⟩
      · exact h.elim
    · rename_i d e
      obtain ⟨v, e1, q⟩ := r.slot i _ e
      exact ⟨v, e1, a _ _ h A v H Keep.refl r.cells q⟩
    · exact h.elim
  · unfold mFrz at q ⊢
    split at q
    · split at q
      · exact hq _ _ q
      · exact q.elim
    · exact hq _ _ q
    · exact q.elim
end Fo
/-! Core5: own defs, calls of them. -/
namespace Fo
open PySem PySem.Spec PyProof.Rows L2
variable {K : Kw}
/-! ### fewer things to keep off -/
theorem RW.less {H : Hp} {A A' : List (Option Addr)} {B B' : Addr → Prop} {d : D} {v : V} (h : ∀ a, av A' B' a → av A B a) (r : RV K H (av A B) d v) : RV K H (av A' B') d v :=
  RV.stay (fun a o e n => ⟨e, fun z => n (h a z)⟩) r
theorem RVs.less {H : Hp} {A A' : List (Option Addr)} {B B' : Addr → Prop} {d : List D} {v : List V} (h : ∀ a, av A' B' a → av A B a) (r : RVs K H (av A B) d v) : RVs K H (av A' B') d v :=
  RVs.stay (fun a o e n => ⟨e, fun z => n (h a z)⟩) r
theorem CellOk.less {H : Hp} {A A' : List (Option Addr)} {B B' : Addr → Prop} {x : Option Addr} {ob : Ob} (h : ∀ a, av A' B' a → av A B a) (r : CellOk K H (av A B) x ob) : CellOk K H (av A' B') x ob := by
  cases x with
  | none => cases ob <;> exact r
  | some a =>
    cases ob with
    | dead => exact r
    | lst ds =>
      obtain ⟨vs, h1, h2⟩ := r
      exact ⟨vs, h1, h2.less h⟩
    | dic ks ws =>
      obtain ⟨u, kv, vs, h1, h2, h3, h4⟩ := r
      exact ⟨u, kv, vs, h1, h2, h3.less h, h4.less h⟩
theorem CellOk.some_of {H : Hp} {av : Addr → Prop} {a : Addr} {ob : Ob} (r : CellOk K H av (some a) ob) : H a ≠ none ∧ ob ≠ .dead := by
  cases ob with
  | dead => exact r.elim
  | lst ds =>
    obtain ⟨vs, h1, h2⟩ := r
    exact ⟨(by rw [h1]; intro z; cases z), (by intro z; cases z)⟩
  | dic ks ws =>
    obtain ⟨u, kv, vs, h1, h2, h3⟩ := r
    exact ⟨(by rw [h1]; intro z; cases z), (by intro z; cases z)⟩
/-! ### a def's end: its own cells are forgotten -/
def finK (r : Nat) (Q : KW) : KW := fun w S => match w with
  | .val d => Q (.val d) (S.take r)
  | .ref n => r ≤ n ∧ match S[n]? with
    | some ob => ob ≠ .dead ∧ Q (.ref r) (S.take r ++ [ob])
    | none => False
  | _ => False
theorem finK_ok {A : List (Option Addr)} {B : Addr → Prop} {H : Hp} {k : KW} {Q : VK} (af : Aft K A B H k Q) : Aft K A B H (finK A.length k) Q := by
  intro w S' h A' v H' kp c r
  have sub : ∀ a, av (A'.take A.length) B a → av A' B a := fun a z => z.imp id fun m => List.mem_of_mem_take m
  have kp' : Keep A H (A'.take A.length) H' := by
    refine ⟨fun a o e n => ⟨(kp.st a o e n).1, fun z => (kp.st a o e n).2 (List.mem_of_mem_take z)⟩, ?_, fun n x e => ?_⟩
    · rw [List.length_take]; have := kp.len; omega
    · have hn : n < A.length := (List.getElem?_eq_some_iff.mp e).1
      rw [List.getElem?_take_of_lt hn]
      exact kp.ix n x e
  have c' : Cells K H' (A'.take A.length) B (S'.take A.length) := by
    refine ⟨by rw [List.length_take, List.length_take, c.len], fun n x ob e1 e2 => ?_, fun n m a e1 e2 => ?_, fun a z => c.off a (List.mem_of_mem_take z), c.dom, c.sys, fun z => c.soff (List.mem_of_mem_take z)⟩
    · have hn : n < A.length := by
        have := (List.getElem?_eq_some_iff.mp e1).1
        rw [List.length_take] at this
        omega
      rw [List.getElem?_take_of_lt hn] at e1 e2
      exact (c.at_ n x ob e1 e2).less sub
    · have f : ∀ {j : Nat} {y : Option Addr}, (A'.take A.length)[j]? = some y → A'[j]? = some y := fun {j y} e => by
        have hn : j < A.length := by
          have := (List.getElem?_eq_some_iff.mp e).1
          rw [List.length_take] at this
          omega
        rw [List.getElem?_take_of_lt hn] at e
        exact e
      exact c.inj n m a (f e1) (f e2)
  cases w with
  | lws _ => exact h.elim
  | ins _ _ _ => exact h.elim
  | fn _ => exact h.elim
  | tpl _ => exact h.elim
  | exv _ => exact h.elim
  | lsw _ => exact h.elim
  | val d => exact af _ _ h _ v H' kp' c' (RW.less sub r)
  | ref n =>
    obtain ⟨hn, h2⟩ := h
    split at h2
    · rename_i ob e
      obtain ⟨nd, h3⟩ := h2
      obtain ⟨a, ha, hc⟩ := c.look e nd
      have lt : (A'.take A.length).length = A.length := by rw [List.length_take]; have := kp.len; omega
      have fr : some a ∉ A'.take A.length := fun z => by
        obtain ⟨m, hm⟩ := List.mem_iff_getElem?.mp z
        have hml : m < A.length := by
          have := (List.getElem?_eq_some_iff.mp hm).1
          omega
        rw [List.getElem?_take_of_lt hml] at hm
        have := c.inj m n a hm ha
        omega
      have mem : ∀ b, some b ∈ A'.take A.length ++ [some a] → some b ∈ A' := fun b z => by
        rcases List.mem_append.mp z with z | z
        · exact List.mem_of_mem_take z
        · simp at z
          subst z
          exact List.mem_of_getElem? ha
      have sub2 : ∀ b, av (A'.take A.length ++ [some a]) B b → av A' B b := fun b z => z.imp id (mem b)
      refine af _ _ h3 (A'.take A.length ++ [some a]) v H' ⟨fun b o e' n' => ⟨(kp.st b o e' n').1, fun z => (kp.st b o e' n').2 (mem b z)⟩, ?_, fun m x e' => ?_⟩ ⟨?_, fun m x ob' e1 e2 => ?_, fun m l b e1 e2 => ?_, fun b z => c.off b (mem b z), c.dom, c.sys, fun z => c.soff (mem _ z)⟩ ?_
      · rw [List.length_append, lt]; exact Nat.le_add_right _ _
      · have hm : m < A.length := (List.getElem?_eq_some_iff.mp e').1
        rw [List.getElem?_append_left (by omega)]
        exact kp'.ix m x e'
      · rw [List.length_append, List.length_append, c'.len]; rfl
      · by_cases hm : m < A.length
        · rw [List.getElem?_append_left (by omega)] at e1
          rw [List.getElem?_append_left (by rw [← c'.len]; omega)] at e2
          rw [List.getElem?_take_of_lt hm] at e1 e2
          exact (c.at_ m x ob' e1 e2).less sub2
        · have em : m = A.length := by
            have := (List.getElem?_eq_some_iff.mp e1).1
            rw [List.length_append, lt] at this
            simp at this
            omega
          subst em
          rw [List.getElem?_append_right (by omega), lt] at e1
          rw [List.getElem?_append_right (by rw [← c'.len]; omega), ← c'.len, lt] at e2
          simp at e1 e2
          subst e1 e2
          exact hc.less sub2
      · have f : ∀ {j : Nat}, (A'.take A.length ++ [some a])[j]? = some (some b) → (j < A.length ∧ A'[j]? = some (some b)) ∨ (j = A.length ∧ b = a) := fun {j} e' => by
          by_cases hj : j < A.length
          · rw [List.getElem?_append_left (by omega), List.getElem?_take_of_lt hj] at e'
            exact .inl ⟨hj, e'⟩
          · have ej : j = A.length := by
              have := (List.getElem?_eq_some_iff.mp e').1
              rw [List.length_append, lt] at this
              simp at this
              omega
            subst ej
            rw [List.getElem?_append_right (by omega), lt] at e'
            simp at e'
            exact .inr ⟨rfl, e'.symm⟩
        have g : ∀ {j : Nat}, j < A.length → A'[j]? = some (some a) → False := fun {j} hj e' => by
          have := c.inj j n a e' ha
          omega
        rcases f e1 with ⟨h1, q1⟩ | ⟨h1, q1⟩ <;> rcases f e2 with ⟨h2, q2⟩ | ⟨h2, q2⟩
        · exact c.inj m l b q1 q2
        · subst q2; exact (g h1 q1).elim
        · subst q1; exact (g h2 q2).elim
        · omega
      · refine .inr ⟨a, ?_, r.at_ ha⟩
        rw [List.getElem?_append_right (by omega), lt]
        simp
    · exact h2.elim
/-! ### defs -/
/-- a def of n slots -/
def mfun (n : Nat) (body : MS) : MF := fun ws S Q => ∃ Q' : KW, (∀ w S', Q' w S' → Q w S') ∧
  body { nx := fun _ S' => finK S.length Q' (.val .non) S', rt := finK S.length Q', bk := fun _ _ => False, ct := fun _ _ => False } (ws.map some ++ List.replicate (n - ws.length) none) S
theorem mfun_mono {n : Nat} {body : MS} : MonoF (mfun n body) := fun ws S Q Q' h ⟨Q0, h0, q⟩ => ⟨Q0, fun w S' z => h w S' (h0 w S' z), q⟩
theorem mfun_of {n : Nat} {body : MS} {ws : List W} {S : Sto} {Q : KW}
    (h : body { nx := fun _ S' => finK S.length Q (.val .non) S', rt := finK S.length Q, bk := fun _ _ => False, ct := fun _ _ => False } (ws.map some ++ List.replicate (n - ws.length) none) S) : mfun n body ws S Q := ⟨Q, fun _ _ z => z, h⟩
def mNever : MF := fun _ _ _ => False
theorem mNever_mono : MonoF mNever := fun _ _ _ _ _ q => q
/-- a def's promise, by its clean transformer -/
def spF (K : Kw) (np : Nat) (t : MF) : Sp := fun vs H Q _ => ∃ A B ws S k, ws.length = np ∧ Cells K H A B S ∧ RWs K H A B ws vs ∧ t ws S k ∧ Aft K A B H k Q
theorem RWs.get {H : Hp} {A : List (Option Addr)} {B : Addr → Prop} : ∀ {ws : List W} {vs : List V} {i : Nat} {w : W}, RWs K H A B ws vs → ws[i]? = some w → ∃ v, vs[i]? = some v ∧ RW K H A B w v
  | [], _, _, _, _, e => by simp at e
  | _ :: _, _, 0, _, .cons r _, e => by simp at e; subst e; exact ⟨_, rfl, r⟩
  | _ :: ws, _ :: vs, i + 1, _, .cons _ t, e => by
    obtain ⟨v, h1, h2⟩ := RWs.get (ws := ws) (vs := vs) (i := i) t (by simpa using e)
    exact ⟨v, by simpa using h1, h2⟩
theorem RWs.length {H : Hp} {A : List (Option Addr)} {B : Addr → Prop} {ws : List W} {vs : List V} (r : RWs K H A B ws vs) : ws.length = vs.length := Paired.length r
theorem start_rel {N : List Str} {H : Hp} {A : List (Option Addr)} {B : Addr → Prop} {S : Sto} {ws : List W} {vs : List V} (c : Cells K H A B S) (r : RWs K H A B ws vs) :
    Rel K H A B (ws.map some ++ List.replicate (N.length - ws.length) none) S (L2.start N vs) := by
  have hl := r.length
  refine ⟨c, ?_, fun i w e => ?_⟩
  · unfold L2.start
    rw [List.length_append, List.length_append, List.length_map, List.length_map, List.length_replicate, List.length_replicate, hl]
  · unfold L2.start
    by_cases h : i < ws.length
    · rw [List.getElem?_append_left (by rw [List.length_map]; exact h), List.getElem?_map] at e
      rw [List.getElem?_append_left (by rw [List.length_map, ← hl]; exact h), List.getElem?_map]
      cases q : ws[i]? with
      | none => rw [q] at e; cases e
      | some w' =>
        rw [q] at e
        simp at e
        subst e
        obtain ⟨v, h1, h2⟩ := r.get q
        exact ⟨v, by rw [h1]; rfl, h2⟩
    · rw [List.getElem?_append_right (by rw [List.length_map]; omega), List.getElem?_replicate] at e
      split at e <;> simp at e
theorem mfun_ok {N : List Str} {np : Nat} {body : MS} {vs : List V} {H : Hp} {Q : VK} {E : XK} (h : spF K np (mfun N.length body) vs H Q E) : upS K body { nx := fun _ H' => Q .non H', rt := Q } (L2.start N vs) H := by
  obtain ⟨A, B, ws, S, k0, hl, c, r, ⟨k, hk, h⟩, af0⟩ := h
  have af : Aft K A B H k Q := fun w S' q => af0 w S' (hk w S' q)
  have e : S.length = A.length := c.len.symm
  have fk : Aft K A B H (finK S.length k) Q := by rw [e]; exact finK_ok af
  exact ⟨A, B, _, S, _, start_rel c r, h, fun ρ S' h' A' σ' H' kp r' => fk _ _ h' A' _ H' kp r'.cells RW.non, fk, fun _ _ z => z.elim, fun _ _ z => z.elim⟩
theorem spF_len {np : Nat} {t : MF} {vs : List V} {H : Hp} {Q : VK} {E : XK} (h : spF K np t vs H Q E) : vs.length = np := by
  obtain ⟨A, B, ws, S, k, hl, c, r, _⟩ := h
  rw [← r.length]
  exact hl
/-- THE RULE for a def that raises nothing -/
theorem fun_ok {P : Program} {w : World} {K : PySem.W.Frag} {mg : Str → Option Value} {base : Heap} {x qual : Str} {params : Arguments} {bd : List Stmt} {scope : Scope} {dvs : List V} {kws : List (Str × V)} {f : Addr} {fd : FuncData} {N ps : List Str} {k : Nat} {body : MS}
    (F : FunD K x qual params bd scope dvs kws f fd) (S : FnScope N ps scope)
    (hb : ∀ (cdv : Value) (A : Around) (outer : List Env) (s : Shared) (H : Hp) (E : XK), Room k (A.deeper (envOfC qual scope s.heap.objs.size f cdv)) → A.guards = some [] → PSsm (cxOf CX0 P w K mg base N qual scope f cdv A outer s H E).nox bd body) :
    FnG P w K mg base CX0 (k + 1) f fd ps (spF ⟨K, w, mg⟩ ps.length (mfun N.length body)) :=
  fnG_of F S (fun vs H Q E h => spF_len h) fun cdv A outer s H vs Q E hr hgd h => ⟨_, PSs.nox (hb cdv A outer s H E hr hgd).pss, mfun_ok h⟩
theorem fnG_never {P : Program} {w : World} {K : PySem.W.Frag} {mg : Str → Option Value} {base : Heap} {f : Addr} {fd : FuncData} {ps : List Str} {k : Nat} : FnG P w K mg base CX0 k f fd ps (spF ⟨K, w, mg⟩ ps.length mNever) :=
  ⟨fun vs H Q E h => spF_len h, fun A o s H as us vs Q E r g e b v h => by
    obtain ⟨_, _, _, _, _, _, _, _, h, _⟩ := h
    exact h.elim⟩
/-! ### calls -/
def refsOf : List W → List Nat
  | [] => []
  | .ref n :: r => n :: refsOf r
  | .val _ :: r => refsOf r
  | .lws _ :: r => 0 :: 0 :: refsOf r
  | .ins _ _ _ :: r => 0 :: 0 :: refsOf r
  | .fn _ :: r => 0 :: 0 :: refsOf r
  | .tpl _ :: r => 0 :: 0 :: refsOf r
  | .exv _ :: r => 0 :: 0 :: refsOf r
  | .lsw _ :: r => 0 :: 0 :: refsOf r
def renum : Nat → List W → List W
  | _, [] => []
  | i, .ref _ :: r => .ref i :: renum (i + 1) r
  | i, w :: r => w :: renum i r
def pickS (S : Sto) (ns : List Nat) : Sto := ns.map fun n => S[n]?.getD .dead
def putL {α : Type} (l : List α) : List Nat → List α → List α
  | n :: ns, x :: xs => putL (l.set n x) ns xs
  | _, _ => l
/-- behind a call: the cells are put back, a new one behind them -/
def backK (S : Sto) (ns : List Nat) (k : KW) : KW := fun w S' => match w with
  | .val d => k (.val d) (putL S ns S')
  | .ref m => m = ns.length ∧ match S'[ns.length]? with
    | some ob => ob ≠ .dead ∧ k (.ref S.length) (putL S ns S' ++ [ob])
    | none => False
  | _ => False
def callW (t : MF) (ws : List W) (S : Sto) (k : KW) : Prop := (refsOf ws).Nodup ∧ (∀ n ∈ refsOf ws, ∃ ob, S[n]? = some ob ∧ ob ≠ .dead) ∧ t (renum 0 ws) (pickS S (refsOf ws)) (backK S (refsOf ws) k)
theorem backK_mono {S : Sto} {ns : List Nat} {k k' : KW} (h : ∀ w S, k w S → k' w S) {w : W} {S' : Sto} (q : backK S ns k w S') : backK S ns k' w S' := by
  cases w with
  | lws _ => exact q
  | ins _ _ _ => exact q
  | fn _ => exact q
  | tpl _ => exact q
  | exv _ => exact q
  | lsw _ => exact q
  | val d => exact h _ _ q
  | ref n =>
    refine ⟨q.1, ?_⟩
    have q2 := q.2
    split at q2
    · exact ⟨q2.1, h _ _ q2.2⟩
    · exact q2.elim
theorem callW_mono {t : MF} (m : MonoF t) {ws : List W} {S : Sto} {k k' : KW} (h : ∀ w S, k w S → k' w S) (q : callW t ws S k) : callW t ws S k' :=
  ⟨q.1, q.2.1, m _ _ _ _ (fun w S' => backK_mono h) q.2.2⟩
theorem putL_length {α : Type} : ∀ (ns : List Nat) (l : List α) (xs : List α), (putL l ns xs).length = l.length
  | [], _, _ => by unfold putL; rfl
  | _ :: _, _, [] => by unfold putL; rfl
  | n :: ns, l, x :: xs => by
    unfold putL
    rw [putL_length ns, List.length_set]
theorem putL_off {α : Type} : ∀ (ns : List Nat) (l : List α) (xs : List α) {n : Nat}, n ∉ ns → (putL l ns xs)[n]? = l[n]?
  | [], _, _, _, _ => by unfold putL; rfl
  | _ :: _, _, [], _, _ => by unfold putL; rfl
  | m :: ns, l, x :: xs, n, h => by
    unfold putL
    rw [putL_off ns _ _ fun z => h (List.mem_cons_of_mem _ z), List.getElem?_set_ne fun z => h (by rw [z]; exact List.mem_cons_self)]
theorem putL_at {α : Type} : ∀ (ns : List Nat) (l : List α) (xs : List α) {i n : Nat} {x : α}, ns.Nodup → ns[i]? = some n → xs[i]? = some x → n < l.length → (putL l ns xs)[n]? = some x
  | [], _, _, _, _, _, _, e, _, _ => by simp at e
  | _ :: _, _, [], _, _, _, _, _, e, _ => by simp at e
  | m :: ns, l, y :: xs, 0, n, x, hd, e1, e2, h => by
    simp at e1 e2
    subst e1 e2
    unfold putL
    rw [putL_off ns _ _ (List.nodup_cons.mp hd).1, List.getElem?_set_self h]
  | m :: ns, l, y :: xs, i + 1, n, x, hd, e1, e2, h => by
    unfold putL
    exact putL_at ns _ xs (i := i) (List.nodup_cons.mp hd).2 (by simpa using e1) (by simpa using e2) (by rw [List.length_set]; exact h)
/-- what is no data, no cell is not handed in -/
theorem twin_no {ns : List Nat} (h : (0 :: 0 :: ns).Nodup) : False := (List.nodup_cons.mp h).1 List.mem_cons_self
theorem renum_ok {H : Hp} {A Ac : List (Option Addr)} {B Bc : Addr → Prop} (hav : ∀ a, av Ac Bc a → av A B a) : ∀ {ws : List W} {vs : List V} {i : Nat}, RWs K H A B ws vs →
    (∀ j n, (refsOf ws)[j]? = some n → ∃ a, A[n]? = some (some a) ∧ Ac[i + j]? = some (some a)) → (refsOf ws).Nodup → RWs K H Ac Bc (renum i ws) vs
  | [], _, _, r, _, _ => by
    cases r
    exact .nil
  | .val d :: ws, _, i, r, h, nd => by
    cases r with
    | cons r1 r2 => exact .cons (RW.less hav r1) (renum_ok (i := i) hav r2 h nd)
  | .lws _ :: ws, _, i, r, h, nd => (twin_no nd).elim
  | .ins _ _ _ :: ws, _, i, r, h, nd => (twin_no nd).elim
  | .fn _ :: ws, _, i, r, h, nd => (twin_no nd).elim
  | .tpl _ :: ws, _, i, r, h, nd => (twin_no nd).elim
  | .exv _ :: ws, _, i, r, h, nd => (twin_no nd).elim
  | .lsw _ :: ws, _, i, r, h, nd => (twin_no nd).elim
  | .ref n :: ws, _, i, r, h, nd => by
    cases r with
    | cons r1 r2 =>
      obtain ⟨a, h1, h2⟩ := h 0 n rfl
      refine .cons (.inr ⟨a, h2, r1.at_ h1⟩) (renum_ok (i := i + 1) hav r2 (fun j m e => ?_) (List.nodup_cons.mp nd).2)
      obtain ⟨b, q1, q2⟩ := h (j + 1) m (by show (n :: refsOf ws)[j + 1]? = some m; simpa using e)
      exact ⟨b, q1, by rw [show i + 1 + j = i + (j + 1) by omega]; exact q2⟩
theorem renum_length : ∀ (i : Nat) (ws : List W), (renum i ws).length = ws.length
  | _, [] => rfl
  | i, .ref _ :: r => by unfold renum; rw [List.length_cons, List.length_cons, renum_length]
  | i, .val _ :: r => by unfold renum; rw [List.length_cons, List.length_cons, renum_length]
  | i, .lws _ :: r => by unfold renum; rw [List.length_cons, List.length_cons, renum_length]
  | i, .ins _ _ _ :: r => by unfold renum; rw [List.length_cons, List.length_cons, renum_length]
  | i, .fn _ :: r => by unfold renum; rw [List.length_cons, List.length_cons, renum_length]
  | i, .tpl _ :: r => by unfold renum; rw [List.length_cons, List.length_cons, renum_length]
  | i, .exv _ :: r => by unfold renum; rw [List.length_cons, List.length_cons, renum_length]
  | i, .lsw _ :: r => by unfold renum; rw [List.length_cons, List.length_cons, renum_length]
theorem call_ok {t : MF} {np : Nat} {A : List (Option Addr)} {B : Addr → Prop} {H : Hp} {S : Sto} {ws : List W} {vs : List V} {k : KW} {Q : VK} {E : XK} (c : Cells K H A B S) (r : RWs K H A B ws vs) (hl : ws.length = np) (h : callW t ws S k) (af : Aft K A B H k Q) :
    spF K np t vs H Q E := by
  obtain ⟨nd, live, h⟩ := h
  generalize hns : refsOf ws = ns at *
  -- the addresses of the cells that are handed in
  have hA : ∀ n ∈ ns, ∃ a ob, A[n]? = some (some a) ∧ S[n]? = some ob ∧ CellOk K H (av A B) (some a) ob := fun n hn => by
    obtain ⟨ob, e, nd⟩ := live n hn
    obtain ⟨a, h1, h2⟩ := c.look e nd
    exact ⟨a, ob, h1, e, h2⟩
  let Ac : List (Option Addr) := ns.map fun n => A[n]?.getD none
  let Bc : Addr → Prop := fun a => B a ∨ (some a ∈ A ∧ some a ∉ Ac)
  have Ac_at : ∀ {i : Nat} {x : Option Addr}, Ac[i]? = some x → ∃ n a, ns[i]? = some n ∧ x = some a ∧ A[n]? = some (some a) := fun {i x} e => by
    rw [List.getElem?_map] at e
    cases q : ns[i]? with
    | none => rw [q] at e; cases e
    | some n =>
      rw [q] at e
      simp at e
      obtain ⟨a, ob, h1, _⟩ := hA n (List.mem_of_getElem? q)
      rw [h1] at e
      simp at e
      exact ⟨n, a, rfl, e.symm, h1⟩
  have Ac_of : ∀ {i n : Nat}, ns[i]? = some n → ∃ a, A[n]? = some (some a) ∧ Ac[i]? = some (some a) := fun {i n} e => by
    obtain ⟨a, ob, h1, _⟩ := hA n (List.mem_of_getElem? e)
    refine ⟨a, h1, ?_⟩
    rw [List.getElem?_map, e]
    simp [h1]
  have Ac_sub : ∀ a, some a ∈ Ac → some a ∈ A := fun a m => by
    obtain ⟨i, e⟩ := List.mem_iff_getElem?.mp m
    obtain ⟨n, b, _, e2, e3⟩ := Ac_at e
    cases e2
    exact List.mem_of_getElem? e3
  have hav1 : ∀ a, av Ac Bc a → av A B a := fun a z => by
    rcases z with (z | z) | z
    · exact .inl z
    · exact .inr z.1
    · exact .inr (Ac_sub a z)
  have hav2 : ∀ a, av A B a → av Ac Bc a := fun a z => by
    rcases z with z | z
    · exact .inl (.inl z)
    · by_cases m : some a ∈ Ac
      · exact .inr m
      · exact .inl (.inr ⟨z, m⟩)
  have lnc : Ac.length = ns.length := List.length_map ..
  have inj_ns : ∀ {i j n : Nat}, ns[i]? = some n → ns[j]? = some n → i = j := fun {i j n} e1 e2 => by
    obtain ⟨h1, q1⟩ := List.getElem?_eq_some_iff.mp e1
    obtain ⟨h2, q2⟩ := List.getElem?_eq_some_iff.mp e2
    exact (List.getElem_inj nd).mp (q1.trans q2.symm)
  refine ⟨Ac, Bc, renum 0 ws, pickS S ns, _, by rw [renum_length]; exact hl, ⟨?_, fun i x ob e1 e2 => ?_, fun i j a e1 e2 => ?_, fun a m z => ?_, fun a z => ?_, c.sys, fun z => c.soff (Ac_sub _ z)⟩,
    renum_ok hav1 r (fun j n e => by rw [Nat.zero_add]; rw [hns] at e; exact Ac_of e) (by rw [hns]; exact nd), h, ?_⟩
  · unfold pickS
    rw [List.length_map, List.length_map]
  · obtain ⟨n, a, q1, rfl, q3⟩ := Ac_at e1
    obtain ⟨b, ob', h1, h2, h3⟩ := hA n (List.mem_of_getElem? q1)
    rw [q3] at h1
    cases h1
    unfold pickS at e2
    rw [List.getElem?_map, q1] at e2
    simp [h2] at e2
    subst e2
    exact h3.less hav1
  · obtain ⟨n, b, q1, q2, q3⟩ := Ac_at e1
    cases q2
    obtain ⟨m, b, p1, p2, p3⟩ := Ac_at e2
    cases p2
    have := c.inj n m _ q3 p3
    subst this
    exact inj_ns q1 p1
  · rcases z with z | z
    · exact c.off a (Ac_sub a m) z
    · exact z.2 m
  · rcases z with z | z
    · exact c.dom a z
    · obtain ⟨n, e⟩ := List.mem_iff_getElem?.mp z.1
      have hn : n < S.length := by rw [← c.len]; exact (List.getElem?_eq_some_iff.mp e).1
      exact (c.at_ n _ _ e (List.getElem?_eq_getElem hn)).some_of.1
  -- behind the call
  intro w S' hb A' v H' kp c' rw'
  have hAS : ∀ {i n : Nat}, ns[i]? = some n → ∃ x ob, A'[i]? = some x ∧ S'[i]? = some ob := fun {i n} e => by
    have h1 : i < ns.length := (List.getElem?_eq_some_iff.mp e).1
    have h2 : i < A'.length := by have := kp.len; omega
    have h3 : i < S'.length := by rw [← c'.len]; exact h2
    exact ⟨_, _, List.getElem?_eq_getElem h2, List.getElem?_eq_getElem h3⟩
  have look2 : ∀ {n : Nat} {x : Option Addr}, (putL A ns A')[n]? = some x → (n ∉ ns ∧ A[n]? = some x) ∨ ∃ i, ns[i]? = some n ∧ A'[i]? = some x := fun {n x} e => by
    by_cases hn : n ∈ ns
    · obtain ⟨i, hi⟩ := List.mem_iff_getElem?.mp hn
      obtain ⟨y, ob, h1, h2⟩ := hAS hi
      have hlt : n < A.length := by have := (List.getElem?_eq_some_iff.mp e).1; rw [putL_length] at this; exact this
      rw [putL_at ns A A' nd hi h1 hlt] at e
      cases e
      exact .inr ⟨i, hi, h1⟩
    · rw [putL_off ns A A' hn] at e
      exact .inl ⟨hn, e⟩
  have back : ∀ {n : Nat} {a : Addr}, (putL A ns A')[n]? = some (some a) → A[n]? = some (some a) := fun {n a} e => by
    rcases look2 e with ⟨_, h1⟩ | ⟨i, h1, h2⟩
    · exact h1
    · obtain ⟨b, q1, q2⟩ := Ac_of h1
      rcases kp.ix i _ q2 with z | z
      · rw [h2] at z
        cases z
        exact q1
      · rw [h2] at z
        cases z
  have sub : ∀ a, some a ∈ putL A ns A' → some a ∈ A ∧ (some a ∈ A' ∨ (some a ∉ Ac)) := fun a m => by
    obtain ⟨n, e⟩ := List.mem_iff_getElem?.mp m
    refine ⟨List.mem_of_getElem? (back e), ?_⟩
    rcases look2 e with ⟨h0, h1⟩ | ⟨i, h1, h2⟩
    · refine .inr fun z => ?_
      obtain ⟨j, ej⟩ := List.mem_iff_getElem?.mp z
      obtain ⟨m', b, p1, p2, p3⟩ := Ac_at ej
      cases p2
      have := c.inj _ _ _ h1 p3
      subst this
      exact h0 (List.mem_of_getElem? p1)
    · exact .inl (List.mem_of_getElem? h2)
  have hav3 : ∀ a, av (putL A ns A') B a → av A' Bc a := fun a z => by
    rcases z with z | z
    · exact .inl (.inl z)
    · obtain ⟨h1, h2 | h2⟩ := sub a z
      · exact .inr h2
      · exact .inl (.inr ⟨h1, h2⟩)
  have kp2 : Keep A H (putL A ns A') H' := by
    refine ⟨fun a o e n => ?_, by rw [putL_length]; exact Nat.le_refl _, fun n x e => ?_⟩
    · obtain ⟨q1, q2⟩ := kp.st a o e fun z => n (Ac_sub a z)
      exact ⟨q1, fun z => n (sub a z).1⟩
    · have hlt : n < (putL A ns A').length := by rw [putL_length]; exact (List.getElem?_eq_some_iff.mp e).1
      have e' := List.getElem?_eq_getElem hlt
      rcases look2 e' with ⟨h0, h1⟩ | ⟨i, h1, h2⟩
      · rw [e'] at *
        rw [e] at h1
        exact .inl (by rw [h1])
      · obtain ⟨b, q1, q2⟩ := Ac_of h1
        rw [e] at q1
        cases q1
        rw [e']
        rcases kp.ix i _ q2 with z | z
        · rw [h2] at z; exact .inl z
        · rw [h2] at z; exact .inr z
  have c2 : Cells K H' (putL A ns A') B (putL S ns S') := by
    refine ⟨by rw [putL_length, putL_length]; exact c.len, fun n x ob e1 e2 => ?_, fun n m a e1 e2 => c.inj n m a (back e1) (back e2), fun a m => c.off a (sub a m).1, fun a z => c'.dom a (.inl z), c'.sys, fun z => c.soff (sub _ z).1⟩
    by_cases hn : n ∈ ns
    · obtain ⟨i, hi⟩ := List.mem_iff_getElem?.mp hn
      obtain ⟨y, ob', h1, h2⟩ := hAS hi
      have hlt : n < A.length := by have := (List.getElem?_eq_some_iff.mp e1).1; rw [putL_length] at this; exact this
      rw [putL_at ns A A' nd hi h1 hlt] at e1
      rw [putL_at ns S S' nd hi h2 (by rw [← c.len]; exact hlt)] at e2
      cases e1
      cases e2
      exact (c'.at_ i _ _ h1 h2).less hav3
    · rw [putL_off ns A A' hn] at e1
      rw [putL_off ns S S' hn] at e2
      have q := c.at_ n x ob e1 e2
      have st : Stay H (av A B) H' (av (putL A ns A') B) := kp2.stay
      cases x with
      | none => cases ob <;> exact q
      | some a =>
        have nA : some a ∉ Ac := fun z => by
          obtain ⟨j, ej⟩ := List.mem_iff_getElem?.mp z
          obtain ⟨m', b, p1, p2, p3⟩ := Ac_at ej
          cases p2
          have := c.inj _ _ _ e1 p3
          subst this
          exact hn (List.mem_of_getElem? p1)
        cases ob with
        | dead => exact q.elim
        | lst ds =>
          obtain ⟨us, h1, h2⟩ := q
          exact ⟨us, (kp.st a _ h1 nA).1, RVs.stay st h2⟩
        | dic ks wv =>
          obtain ⟨u, kv, us, h1, h2, h3, h4⟩ := q
          exact ⟨u, kv, us, (kp.st a _ h1 nA).1, h2, RVs.stay st h3, RVs.stay st h4⟩
  cases w with
  | lws _ => exact hb.elim
  | ins _ _ _ => exact hb.elim
  | fn _ => exact hb.elim
  | tpl _ => exact hb.elim
  | exv _ => exact hb.elim
  | lsw _ => exact hb.elim
  | val d => exact af _ _ hb _ v H' kp2 c2 (RW.less hav3 rw')
  | ref m =>
    obtain ⟨em, hb⟩ := hb
    subst em
    split at hb
    · rename_i ob e
      obtain ⟨nd', hb⟩ := hb
      obtain ⟨a, ha, hc⟩ := c'.look e nd'
      have aB : ¬ Bc a := c'.off a (List.mem_of_getElem? ha)
      have a_new : some a ∉ putL A ns A' := fun z => by
        obtain ⟨h1, h2 | h2⟩ := sub a z
        · obtain ⟨n, en⟩ := List.mem_iff_getElem?.mp z
          rcases look2 en with ⟨h3, h4⟩ | ⟨i, h3, h4⟩
          · refine aB (.inr ⟨List.mem_of_getElem? h4, fun y => ?_⟩)
            obtain ⟨j, ej⟩ := List.mem_iff_getElem?.mp y
            obtain ⟨m', b, p1, p2, p3⟩ := Ac_at ej
            cases p2
            have := c.inj _ _ _ h4 p3
            subst this
            exact h3 (List.mem_of_getElem? p1)
          · have := c'.inj _ _ _ h4 ha
            have := (List.getElem?_eq_some_iff.mp h3).1
            omega
        · exact aB (.inr ⟨h1, h2⟩)
      have mem : ∀ b, some b ∈ putL A ns A' ++ [some a] → some b ∈ putL A ns A' ∨ b = a := fun b z => by
        rcases List.mem_append.mp z with z | z
        · exact .inl z
        · simp at z
          exact .inr z
      have hav4 : ∀ b, av (putL A ns A' ++ [some a]) B b → av A' Bc b := fun b z => by
        rcases z with z | z
        · exact hav3 b (.inl z)
        · rcases mem b z with z | z
          · exact hav3 b (.inr z)
          · subst z
            exact .inr (List.mem_of_getElem? ha)
      have kp3 : Keep A H (putL A ns A' ++ [some a]) H' := by
        refine ⟨fun b o e' n' => ⟨(kp2.st b o e' n').1, fun z => ?_⟩, by rw [List.length_append]; exact Nat.le_trans kp2.len (Nat.le_add_right _ _), fun n x e' => ?_⟩
        · rcases mem b z with z | z
          · exact (kp2.st b o e' n').2 z
          · subst z
            exact (kp.st b o e' fun y => n' (Ac_sub b y)).2 (List.mem_of_getElem? ha)
        · rw [List.getElem?_append_left (by rw [putL_length]; exact (List.getElem?_eq_some_iff.mp e').1)]
          exact kp2.ix n x e'
      have look3 : ∀ {n : Nat} {x : Option Addr}, (putL A ns A' ++ [some a])[n]? = some x → (n < A.length ∧ (putL A ns A')[n]? = some x) ∨ (n = A.length ∧ x = some a) := fun {n x} e' => by
        by_cases hn : n < A.length
        · rw [List.getElem?_append_left (by rw [putL_length]; exact hn)] at e'
          exact .inl ⟨hn, e'⟩
        · have en : n = A.length := by
            have := (List.getElem?_eq_some_iff.mp e').1
            rw [List.length_append, putL_length] at this
            simp at this
            omega
          subst en
          rw [List.getElem?_append_right (by rw [putL_length]; exact Nat.le_refl _), putL_length] at e'
          simp at e'
          exact .inr ⟨rfl, e'.symm⟩
      have c3 : Cells K H' (putL A ns A' ++ [some a]) B (putL S ns S' ++ [ob]) := by
        refine ⟨by rw [List.length_append, List.length_append, c2.len]; rfl, fun n x ob' e1 e2 => ?_, fun n m b e1 e2 => ?_, fun b z => ?_, c2.dom, c2.sys, fun z => (mem _ z).elim (fun y => c2.soff y) fun y => c'.soff (y ▸ List.mem_of_getElem? ha)⟩
        · rcases look3 e1 with ⟨h1, h2⟩ | ⟨h1, h2⟩
          · rw [List.getElem?_append_left (by rw [putL_length, ← c.len]; exact h1)] at e2
            by_cases hn : n ∈ ns
            · obtain ⟨i, hi⟩ := List.mem_iff_getElem?.mp hn
              obtain ⟨y, ob2, g1, g2⟩ := hAS hi
              rw [putL_at ns A A' nd hi g1 h1] at h2
              rw [putL_at ns S S' nd hi g2 (by rw [← c.len]; exact h1)] at e2
              cases h2
              cases e2
              exact (c'.at_ i _ _ g1 g2).less hav4
            · -- an untouched cell
              have q := c2.at_ n x ob' h2 e2
              rw [putL_off ns A A' hn] at h2
              rw [putL_off ns S S' hn] at e2
              have q0 := c.at_ n x ob' h2 e2
              have st : Stay H (av A B) H' (av (putL A ns A' ++ [some a]) B) := kp3.stay
              cases x with
              | none => cases ob' <;> exact q
              | some b =>
                cases ob' with
                | dead => exact q.elim
                | lst ds =>
                  obtain ⟨us, g1, _⟩ := q
                  obtain ⟨us0, g2, g3⟩ := q0
                  refine ⟨us, g1, ?_⟩
                  have nA : some b ∉ Ac := fun z => by
                    obtain ⟨j, ej⟩ := List.mem_iff_getElem?.mp z
                    obtain ⟨m', b', p1, p2, p3⟩ := Ac_at ej
                    cases p2
                    have := c.inj _ _ _ h2 p3
                    subst this
                    exact hn (List.mem_of_getElem? p1)
                  have := (kp.st b _ g2 nA).1
                  rw [g1] at this
                  cases this
                  exact RVs.stay st g3
                | dic ks wv =>
                  obtain ⟨u0, kv0, us0, g2, gb, g3, g4⟩ := q0
                  have nA : some b ∉ Ac := fun z => by
                    obtain ⟨j, ej⟩ := List.mem_iff_getElem?.mp z
                    obtain ⟨m', b', p1, p2, p3⟩ := Ac_at ej
                    cases p2
                    have := c.inj _ _ _ h2 p3
                    subst this
                    exact hn (List.mem_of_getElem? p1)
                  exact ⟨u0, kv0, us0, (kp.st b _ g2 nA).1, gb, RVs.stay st g3, RVs.stay st g4⟩
          · subst h2
            rw [h1, List.getElem?_append_right (by rw [putL_length, ← c.len]; exact Nat.le_refl _), putL_length, ← c.len] at e2
            simp at e2
            subst e2
            exact hc.less hav4
        · rcases look3 e1 with ⟨h1, h2⟩ | ⟨h1, h2⟩ <;> rcases look3 e2 with ⟨h3, h4⟩ | ⟨h3, h4⟩
          · exact c2.inj n m b h2 h4
          · cases h4
            exact (a_new (List.mem_of_getElem? h2)).elim
          · cases h2
            exact (a_new (List.mem_of_getElem? h4)).elim
          · omega
        · rcases mem b z with z | z
          · exact c2.off b z
          · subst z
            exact fun y => aB (.inl y)
      refine af _ _ hb _ v H' kp3 c3 (.inr ⟨a, ?_, rw'.at_ ha⟩)
      rw [List.getElem?_append_right (by rw [putL_length, c.len]; exact Nat.le_refl _), putL_length, c.len]
      simp
    · exact hb.elim
/-- f(e, ..), f a def of one's own; dws: the defaults that are not handed in -/
def mCall (t : MF) (args : MA) (dws : List W) : ME := fun ρ S k => args ρ S fun ws S1 => callW t (ws ++ dws) S1 k
section
variable {X : Cx} {x : Str} {p pos : Pos} {e : Expr} {es : List Expr} {f : Addr} {fd : FuncData} {ps : List Str} {k np : Nat} {t : MF} {args : MA} {ds : List Value} {dws : List W} {dvs : List V}
theorem RWs.append {H : Hp} {A : List (Option Addr)} {B : Addr → Prop} : ∀ {ws ws' : List W} {vs vs' : List V}, RWs K H A B ws vs → RWs K H A B ws' vs' → RWs K H A B (ws ++ ws') (vs ++ vs')
  | [], _, _, _, r, q => by
    cases r
    exact q
  | _ :: _, _, _, _, r, q => by
    cases r with
    | cons r1 r2 => exact .cons r1 (RWs.append r2 q)
/-- defaults -/
def Dfl (K : Kw) (dws : List W) (dvs : List V) : Prop := ∀ H A B, RWs K H A B dws dvs
theorem Dfl.nil : Dfl K [] [] := fun _ _ _ => .nil
theorem Dfl.int {i : Int} {dws : List W} {dvs : List V} (h : Dfl K dws dvs) : Dfl K (.val (.int i) :: dws) (.int i :: dvs) := fun H A B => .cons RW.int (h H A B)
theorem Dfl.non {dws : List W} {dvs : List V} (h : Dfl K dws dvs) : Dfl K (.val .non :: dws) (.non :: dvs) := fun H A B => .cons RW.non (h H A B)
theorem pem_call (F : FnG X.prog X.w X.kw X.mg X.base CX0 k f fd ps (spF X.kw ps.length t)) (mt : MonoF t) (hr : Room k X.A) (hgd : X.A.guards = some []) (hg : Gl X x) (hm : X.mg x = some (.ref f)) (hk : PySem.W.keepIn X.kw (.ref f) = true) (hb : Binds X.kw fd ps ds) (hd : Vals dvs ds) (hdf : Dfl X.kw dws dvs)
    (hx : Passes CX0 X fun _ _ _ => False) (ha : PAm X (e :: es) args) (hl : (e :: es).length + dws.length = ps.length) (hdb : (x == ("__debug__" : Str)) = false := by decide)
    (he : starEach (e :: es) X.env = (false, eval e X.env) :: starEach es X.env := by rfl) (hpl : (backTo pos (starEach es X.env)).any (·.1) = false := by rfl) :
    PEm X (.Call (.Name x p) (e :: es) [] pos) (mCall t args dws) := by
  refine ⟨(pe_callG F hr hgd hg hm hk hb hd hx ha.pa hdb he hpl).imp ?_, fun ρ S Q Q' h q => ha.mono ρ S _ _ (fun ws S1 => callW_mono mt h) q⟩
  rintro σ H Q ⟨A, B, ρ, S, k, r, h, af⟩
  refine upA_then r (ha.len _ _ _ h) fun ws S1 A1 vs H1 h1 k1 r1 rws => ?_
  exact call_ok r1.cells (rws.append (hdf _ _ _)) (by rw [List.length_append, h1.1]; exact hl) h1.2 (af.keep k1)
end
/-! ### keywords: f(e, .., k = v), all keyword-only parameters handed in, in order -/
def mCallK (t : MF) (args kw : MA) : ME := fun ρ S k => args ρ S fun ws S1 => kw ρ S1 fun zs S2 => callW t (ws ++ zs) S2 k
end Fo
/-! Core6: loops, comprehensions, what is walked. -/
namespace Fo
open PySem PySem.Spec PyProof.Rows L2
variable {K : Kw}
/-! ### while -/
/-! ### what is walked -/
abbrev MI := Rho → Sto → (List D → Sto → Prop) → Prop
def MonoI (t : MI) : Prop := ∀ ρ S (Q Q' : List D → Sto → Prop), (∀ w S', Q w S' → Q' w S') → t ρ S Q → t ρ S Q'
structure WalkD (K : Kw) (A : List (Option Addr)) (B : Addr → Prop) (H : Hp) (J : It) (ds : List D) (G : Hp → Prop) (Y : Nat → Hp → V → Hp → Prop) : Prop where
  walk : Walk J ds.length G Y
  stay : ∀ A' H', Keep A H A' H' → G H'
  item : ∀ i A' B' H' S' x H2, i < ds.length → (∀ a, B a → B' a) → (∀ a o, H a = some o → ¬ av A B a → ¬ B' a) → Keep A H A' H' → Cells K H' A' B' S' → Y i H' x H2 → ∃ d, ds[i]? = some d ∧ Keep A' H' A' H2 ∧ Cells K H2 A' B' S' ∧ RV K H2 (av A' B') d x
def upI (K : Kw) (t : MI) : TI := fun σ H R => ∃ A B ρ S k, Rel K H A B ρ S σ ∧ t ρ S k ∧ ∀ ds S', k ds S' → ∀ A' H' J G Y, Keep A H A' H' → Cells K H' A' B S' → WalkD K A' B H' J ds G Y → R J H'
structure PIm (X : Cx) (tg iter : Expr) (t : MI) : Prop where
  pi : PI X tg iter (upI X.kw t)
  mono : MonoI t
theorem _root_.L2.PI.imp {X : Cx} {tg e : Expr} {t t' : TI} (h : PI X tg e t) (i : ∀ σ H R, t' σ H R → t σ H R) : PI X tg e t' := ⟨fun pins s σ H R I q => h.run pins s σ H R I (i σ H R q)⟩
/-! ### for -/
def forItems (g : MG) (tb : MS) (E : End) : List D → Rho → Sto → Prop
  | [], ρ, S => E.nx ρ S
  | d :: ds, ρ, S => g (.val d) ρ S fun ρ1 S1 => tb { nx := forItems g tb E ds, rt := E.rt, bk := E.nx, ct := forItems g tb E ds } ρ1 S1
def sFor (it : MI) (g : MG) (tb : MS) : MS := fun E ρ S => it ρ S fun ds S1 => forItems g tb E ds ρ S1
theorem forItems_mono {g : MG} {tb : MS} (mg : MonoG g) (mb : MonoS tb) {E E' : End} (l : E.le E') : ∀ ds ρ S, forItems g tb E ds ρ S → forItems g tb E' ds ρ S
  | [], _, _, h => l.nx _ _ h
  | d :: ds, ρ, S, h => mg _ ρ S _ _ (fun ρ1 S1 q => mb { nx := forItems g tb E ds, rt := E.rt, bk := E.nx, ct := forItems g tb E ds } { nx := forItems g tb E' ds, rt := E'.rt, bk := E'.nx, ct := forItems g tb E' ds } ρ1 S1
      ⟨forItems_mono mg mb l ds, l.rt, l.nx, forItems_mono mg mb l ds⟩ q) h
theorem psm_for {X : Cx} {tg iter : Expr} {body : List Stmt} {it : MI} {g' : TG} {g : MG} {sl : List Nat} {tb : MS} {pos : Pos} (hp : PassesOwn (model X.prog X.w) X.A X.env X.xe) (hc : X.calm = true) (hi : PIm X tg iter it) (hg : PGm X tg g' g sl) (hb : PSsm X body tb)
    (hs : ∀ x, foldedSetIterable iter X.env x = pure x := by intro _; rfl) : PSm X (.For tg iter body [] pos) (sFor it g tb) := by
  have qg := hg.ok
  refine ⟨(ps_for hp hc hi.pi hg.pg hb.pss hs).imp ?_, fun E E' ρ S l h => hi.mono ρ S _ _ (fun ds S1 q => forItems_mono hg.mono hb.mono l ds ρ S1 q) h⟩
  rintro D σ H ⟨A, B, ρ, S, E, r, h, a⟩
  refine ⟨A, B, ρ, S, _, r, h, fun ds S1 h1 A1 H1 J G Y k1 c1 wd => ?_⟩
  refine for_it wd.walk (fun i σ' H' => ∃ A' ρ' S', Keep A1 H1 A' H' ∧ Rel X.kw H' A' B ρ' S' σ' ∧ forItems g tb E (ds.drop i) ρ' S') ⟨A1, ρ, S1, Keep.refl, r.keep k1 c1, h1⟩ (fun i σ' H' _ ⟨A', ρ', S', k', _⟩ => wd.stay A' H' k') ?_ ?_
  · rintro i x σ2 H2 H3 hi ⟨A2, ρ2, S2, k2, r2, h2⟩ hy
    obtain ⟨d, hd, k3, c3, rv⟩ := wd.item i A2 B H2 S2 x H3 hi (fun _ z => z) (fun b o _ n z => n (.inl z)) k2 r2.cells hy
    have ed : ds.drop i = d :: ds.drop (i + 1) := by
      obtain ⟨h1, h2⟩ := List.getElem?_eq_some_iff.mp hd
      rw [List.drop_eq_getElem_cons h1, h2]
    rw [ed] at h2
    refine qg A2 B H3 (.val d) x ρ2 S2 σ2 _ _ (r2.keep k3 c3) rv h2 fun ρ4 S4 h4 A4 σ4 H4 k4 r4 _ => ?_
    have kk := (k2.trans k3).trans k4
    exact ⟨A4, B, ρ4, S4, _, r4, h4, ⟨fun ρ' S' h' A' σ' H' k' r' => ⟨A', ρ', S', kk.trans k', r', h'⟩, a.rt.keep (k1.trans kk), a.nx.keep (k1.trans kk), fun ρ' S' h' A' σ' H' k' r' => ⟨A', ρ', S', kk.trans k', r', h'⟩⟩⟩
  · rintro σ2 H2 ⟨A2, ρ2, S2, k2, r2, h2⟩
    rw [List.drop_length] at h2
    exact a.nx _ _ h2 A2 σ2 H2 (k1.trans k2) r2
/-! ### list comprehensions -/
def cYes : MT := fun _ S k => k true S
structure PTsm (X : Cx) (ifs : List Expr) (t : MT) : Prop where
  pts : PTs X ifs (upT X.kw t)
  mono : MonoT t
theorem _root_.L2.PTs.imp {X : Cx} {e : List Expr} {t t' : TT} (h : PTs X e t) (i : ∀ σ H Q, t' σ H Q → t σ H Q) : PTs X e t' := ⟨fun pins s σ H Q I q => h.run pins s σ H Q I (i σ H Q q)⟩
theorem ptsm_nil {X : Cx} : PTsm X [] cYes := by
  refine ⟨pts_nil.imp ?_, fun ρ S Q Q' h q => h _ _ q⟩
  rintro σ H Q ⟨A, B, ρ, S, k, r, h, a⟩
  exact a _ _ h A H Keep.refl r.cells
def lcItems (g : MG) (c : MT) (e : ME) (ρ : Rho) (k : List D → Sto → Prop) : List D → List D → Sto → Prop
  | [], acc, S => k acc S
  | d :: ds, acc, S => g (.val d) ρ S fun ρ2 S2 => c ρ2 S2 fun b S3 => if b = true then e ρ2 S3 fun w S4 => match w with
      | .val y => acc.length < sizeLine ∧ lcItems g c e ρ k ds (acc ++ [y]) S4
      | _ => False
    else lcItems g c e ρ k ds acc S3
def nLC (it : MI) (g : MG) (c : MT) (e : ME) (vs : List Nat) : MN := fun ρ S k => it ρ S fun ds S1 => lcItems g c e (wipeR ρ vs) k ds [] S1
theorem lcItems_mono {g : MG} {c : MT} {e : ME} (mg : MonoG g) (mc : MonoT c) (me : MonoE e) {ρ : Rho} {k k' : List D → Sto → Prop} (h : ∀ ds S, k ds S → k' ds S) : ∀ ds acc S, lcItems g c e ρ k ds acc S → lcItems g c e ρ k' ds acc S
  | [], _, _, q => h _ _ q
  | d :: ds, acc, S, q => mg _ ρ S _ _ (fun ρ2 S2 => mc ρ2 S2 _ _ fun b S3 q3 => by
    cases b with
    | true =>
      refine me ρ2 S3 _ _ (fun w S4 q4 => ?_) q3
      cases w with
      | val y => exact ⟨q4.1, lcItems_mono mg mc me h ds _ _ q4.2⟩
      | ref n => exact q4
      | lws _ => exact q4
      | ins _ _ _ => exact q4
      | fn _ => exact q4
      | tpl _ => exact q4
      | exv _ => exact q4
      | lsw _ => exact q4
    | false => exact lcItems_mono mg mc me h ds _ _ q3) q
theorem wipeR_at (ρ : Rho) : ∀ (vs : List Nat) (j : Nat), (wipeR ρ vs)[j]? = if j ∈ vs then (if j < ρ.length then some none else none) else ρ[j]?
  | [], j => by simp [wipeR]
  | v :: vs, j => by
    unfold wipeR
    have hlen : ∀ vs : List Nat, (wipeR ρ vs).length = ρ.length := fun vs => by
      induction vs with
      | nil => rfl
      | cons a r ih => unfold wipeR; rw [List.length_set, ih]
    by_cases h : v = j
    · subst h
      rw [if_pos List.mem_cons_self]
      by_cases hl : v < ρ.length
      · rw [List.getElem?_set_self (by rw [hlen]; exact hl), if_pos hl]
      · rw [List.getElem?_eq_none (by rw [List.length_set, hlen]; omega), if_neg hl]
    · rw [List.getElem?_set_ne h, wipeR_at ρ vs j]
      by_cases hm : j ∈ vs
      · rw [if_pos hm, if_pos (List.mem_cons_of_mem _ hm)]
      · rw [if_neg hm, if_neg fun z => (List.mem_cons.mp z).elim (fun q => h q.symm) hm]
theorem wipeR_length (ρ : Rho) : ∀ vs : List Nat, (wipeR ρ vs).length = ρ.length
  | [] => rfl
  | v :: vs => by unfold wipeR; rw [List.length_set, wipeR_length ρ vs]
theorem Rel.wipe {H : Hp} {A : List (Option Addr)} {B : Addr → Prop} {ρ : Rho} {S : Sto} {σ : L2.St} (r : Rel K H A B ρ S σ) (vs : List Nat) : Rel K H A B (wipeR ρ vs) S (L2.wipe σ vs) := by
  refine ⟨r.cells, by rw [wipeR_length, wipe_length]; exact r.len, fun i w e => ?_⟩
  rw [wipeR_at] at e
  rw [wipe_at]
  by_cases h : i ∈ vs
  · rw [if_pos h] at e
    split at e <;> simp at e
  · rw [if_neg h] at e ⊢
    exact r.slot i w e
/-- one thing more is kept off that was not there -/
theorem Cells.more {H : Hp} {A : List (Option Addr)} {B : Addr → Prop} {S : Sto} (c : Cells K H A B S) {p : Addr} {o : HO} (hp : H p = none) : Cells K (L2.upd H p o) A (fun a => B a ∨ a = p) S := by
  have st : Stay H (av A B) (L2.upd H p o) (av A fun a => B a ∨ a = p) := fun a u e n => by
    have hne : a ≠ p := ne_of_none e hp
    refine ⟨by rw [upd_ne hne]; exact e, fun z => ?_⟩
    rcases z with (z | z) | z
    · exact n (.inl z)
    · exact hne z
    · exact n (.inr z)
  refine ⟨c.len, fun n x ob e1 e2 => ?_, c.inj, fun a m z => ?_, fun a z => ?_, by obtain ⟨o', e'⟩ := c.sys; exact ⟨o', by rw [upd_ne (ne_of_none e' hp)]; exact e'⟩, c.soff⟩
  · have q := c.at_ n x ob e1 e2
    cases x with
    | none => cases ob <;> exact q
    | some a =>
      cases ob with
      | dead => exact q
      | lst ds =>
        obtain ⟨vs, h1, h2⟩ := q
        exact ⟨vs, by rw [upd_ne (ne_of_none h1 hp)]; exact h1, h2.stay st⟩
      | dic ks ws =>
        obtain ⟨u, kv, vs, h1, h2, h3, h4⟩ := q
        exact ⟨u, kv, vs, by rw [upd_ne (ne_of_none h1 hp)]; exact h1, h2, h3.stay st, h4.stay st⟩
  · rcases z with z | z
    · exact c.off a m z
    · subst z
      exact c.new_off hp (.inr m)
  · by_cases e : a = p
    · subst e
      rw [upd_same]
      intro z; cases z
    · rw [upd_ne e]
      rcases z with z | z
      · exact c.dom a z
      · exact (e z).elim
/-- what is kept off may change -/
theorem Cells.offUpd {H : Hp} {A : List (Option Addr)} {B : Addr → Prop} {S : Sto} (c : Cells K H A B S) {p : Addr} {o : HO} (hp : B p) (hs : sysModules ≠ p) : Cells K (L2.upd H p o) A B S := by
  have st : Stay H (av A B) (L2.upd H p o) (av A B) := fun a u e n => by
    have hne : a ≠ p := fun z => n (.inl (by rw [z]; exact hp))
    exact ⟨by rw [upd_ne hne]; exact e, n⟩
  refine ⟨c.len, fun n x ob e1 e2 => ?_, c.inj, c.off, fun a z => ?_, by obtain ⟨o', e'⟩ := c.sys; exact ⟨o', by rw [upd_ne hs]; exact e'⟩, c.soff⟩
  · have q := c.at_ n x ob e1 e2
    cases x with
    | none => cases ob <;> exact q
    | some a =>
      have hne : a ≠ p := fun z => c.off a (List.mem_of_getElem? e1) (by rw [z]; exact hp)
      cases ob with
      | dead => exact q
      | lst ds =>
        obtain ⟨vs, h1, h2⟩ := q
        exact ⟨vs, by rw [upd_ne hne]; exact h1, h2.stay st⟩
      | dic ks ws =>
        obtain ⟨u, kv, vs, h1, h2, h3, h4⟩ := q
        exact ⟨u, kv, vs, by rw [upd_ne hne]; exact h1, h2, h3.stay st, h4.stay st⟩
  · by_cases e : a = p
    · rw [e, upd_same]
      intro z; cases z
    · rw [upd_ne e]
      exact c.dom a z
/-- and is forgotten -/
theorem Cells.forget {H : Hp} {A : List (Option Addr)} {B : Addr → Prop} {S : Sto} {p : Addr} (c : Cells K H A (fun a => B a ∨ a = p) S) (hB : ¬ B p) (hs : sysModules ≠ p) : Cells K (fun b => if b = p then none else H b) A B S ∧ Stay H (av A fun a => B a ∨ a = p) (fun b => if b = p then none else H b) (av A B) := by
  have st : Stay H (av A fun a => B a ∨ a = p) (fun b => if b = p then none else H b) (av A B) := fun a u e n => by
    have hne : a ≠ p := fun z => n (.inl (.inr z))
    refine ⟨by show (if a = p then none else H a) = some u; rw [if_neg hne]; exact e, fun z => n (z.imp .inl id)⟩
  refine ⟨⟨c.len, fun n x ob e1 e2 => ?_, c.inj, fun a m z => c.off a m (.inl z), fun a z => ?_, by obtain ⟨o', e'⟩ := c.sys; exact ⟨o', by show (if sysModules = p then none else H sysModules) = _; rw [if_neg hs]; exact e'⟩, c.soff⟩, st⟩
  · have q := c.at_ n x ob e1 e2
    cases x with
    | none => cases ob <;> exact q
    | some a =>
      have hne : a ≠ p := fun z => c.off a (List.mem_of_getElem? e1) (.inr z)
      cases ob with
      | dead => exact q
      | lst ds =>
        obtain ⟨vs, h1, h2⟩ := q
        exact ⟨vs, by show (if a = p then none else H a) = _; rw [if_neg hne]; exact h1, h2.stay st⟩
      | dic ks ws =>
        obtain ⟨u, kv, vs, h1, h2, h3, h4⟩ := q
        exact ⟨u, kv, vs, by show (if a = p then none else H a) = _; rw [if_neg hne]; exact h1, h2, h3.stay st, h4.stay st⟩
  · show (if a = p then none else H a) ≠ none
    rw [if_neg fun e => hB (by rw [← e]; exact z)]
    exact c.dom a (.inl z)
mutual
theorem RW.stayB {H H' : Hp} {A : List (Option Addr)} {B B' : Addr → Prop} (st : Stay H (av A B) H' (av A B')) : ∀ {w : W} {v : V}, RW K H A B w v → RW K H' A B' w v
  | .val d, v, r => by
    unfold RW at r ⊢
    exact RV.stay st r
  | .ref n, v, r => by
    unfold RW at r ⊢
    exact r
  | .lws ns, v, r => by
    unfold RW at r ⊢
    obtain ⟨a, vs, e, h, n, p⟩ := r
    exact ⟨a, vs, e, (st a _ h n).1, (st a _ h n).2, p⟩
  | .ins x ns fs, v, r => by
    unfold RW at r ⊢
    obtain ⟨a, C, dx, vs, e, h0, h, hd, n, nd, l, p⟩ := r
    exact ⟨a, C, dx, vs, e, h0, (st a _ h n).1, (st dx _ hd nd).1, (st a _ h n).2, (st dx _ hd nd).2, l, RWl.stayB st p⟩
  | .fn x, v, r => by
    unfold RW at r ⊢
    exact r
  | .tpl l, v, r => by
    unfold RW at r ⊢
    obtain ⟨a, o, vs, e, h, d, n, p⟩ := r
    exact ⟨a, o, vs, e, (st a _ h n).1, d, (st a _ h n).2, RVs.stay st p⟩
  | .exv e, v, r => by
    unfold RW at r ⊢
    exact ExvR.stay st r
  | .lsw ws, v, r => by
    unfold RW at r ⊢
    obtain ⟨a, vs, e, h, n, p⟩ := r
    exact ⟨a, vs, e, (st a _ h n).1, (st a _ h n).2, RWl.stayB st p⟩
theorem RWl.stayB {H H' : Hp} {A : List (Option Addr)} {B B' : Addr → Prop} (st : Stay H (av A B) H' (av A B')) : ∀ {w : List W} {v : List V}, RWl K H A B w v → RWl K H' A B' w v
  | [], _, r => by
    unfold RWl at r ⊢
    exact r
  | w :: ws, _, r => by
    unfold RWl at r ⊢
    obtain ⟨v, q, e, h, t⟩ := r
    exact ⟨v, q, e, RW.stayB st h, RWl.stayB st t⟩
end
theorem Rel.cellsOf {H H' : Hp} {A : List (Option Addr)} {B B' : Addr → Prop} {ρ : Rho} {S S' : Sto} {σ : L2.St} (r : Rel K H A B ρ S σ) (c : Cells K H' A B' S') (st : Stay H (av A B) H' (av A B')) : Rel K H' A B' ρ S' σ := by
  refine ⟨c, r.len, fun i w e => ?_⟩
  obtain ⟨v, e1, q⟩ := r.slot i w e
  refine ⟨v, e1, ?_⟩
  exact RW.stayB st q
theorem lc_imp {it : MI} {g' : TG} {g : MG} {sl : List Nat} {c : MT} {e : ME} {own : List (Str × Nat)} (qg : ∀ A B H w v ρ S σ k Q, Rel K H A B ρ S σ → RW K H A B w v → g w ρ S k → AftG K A B H σ sl k Q → g' v σ H Q) (hsl : ∀ i ∈ sl, i ∈ own.map (·.2))
    {A : List (Option Addr)} {B : Addr → Prop} {ρ : Rho} {S : Sto} {σ : L2.St} {H : Hp} {k : List D → Sto → Prop} {Q : VK} (r : Rel K H A B ρ S σ) (h : nLC it g c e (own.map (·.2)) ρ S k) (af : AftN K A B H k Q) :
    tLc (upI K it) g' (upT K c) (up K e) (own.map (·.2)) σ H Q := by
  refine ⟨A, B, ρ, S, _, r, h, fun ds S1 h1 A1 H1 J G Y k1 c1 wd P hP => ?_⟩
  have nB : ¬ B P := fun z => c1.dom P z hP
  have nS : sysModules ≠ P := let ⟨_, e'⟩ := c1.sys; ne_of_none e' hP
  have r1 : Rel K H1 A1 B ρ S1 σ := r.keep k1 c1
  refine lc_it wd.walk (σ := σ) (fun i H' => ∃ A' S' acc av, Keep A1 H1 A' H' ∧ Rel K H' A' (fun a => B a ∨ a = P) (wipeR ρ (own.map (·.2))) S' (L2.wipe σ (own.map (·.2))) ∧ H' P = some (.lst av) ∧ RVs K H' (Fo.av A' fun a => B a ∨ a = P) acc av ∧
      lcItems g c e (wipeR ρ (own.map (·.2))) k (ds.drop i) acc S') ?_ (fun i H' _ ⟨A', _, _, _, k', _⟩ => wd.stay A' H' k') ?_ ?_
  · refine ⟨A1, S1, [], [], Keep.upd hP, ?_, upd_same, RVs.nil, h1⟩
    have st : Stay H1 (Fo.av A1 B) (L2.upd H1 P (.lst [])) (Fo.av A1 fun a => B a ∨ a = P) := fun a u e' n => by
      have hne : a ≠ P := ne_of_none e' hP
      refine ⟨by rw [upd_ne hne]; exact e', fun z => ?_⟩
      rcases z with (z | z) | z
      · exact n (.inl z)
      · exact hne z
      · exact n (.inr z)
    exact (r1.wipe _).cellsOf (c1.more hP) st
  · rintro i x H2 H3 hi2 ⟨A2, S2, acc, accv, k2, r2, hp2, ra, h2⟩ hy
    obtain ⟨d, hd, k3, c3, rv⟩ := wd.item i A2 (fun a => B a ∨ a = P) H2 S2 x H3 hi2 (fun _ z => .inl z) (fun a o e' n z => z.elim (fun b => n (.inl b)) fun e2 => by rw [e2, hP] at e'; cases e') k2 r2.cells hy
    have ed : ds.drop i = d :: ds.drop (i + 1) := by
      obtain ⟨g1, g2⟩ := List.getElem?_eq_some_iff.mp hd
      rw [List.drop_eq_getElem_cons g1, g2]
    rw [ed] at h2
    refine qg A2 _ H3 (.val d) x _ S2 _ _ _ (r2.keep k3 c3) rv h2 fun ρ4 S4 h4 A4 σ4 H4 k4 r4 w4 => ?_
    refine ⟨by
      have := w4 (own.map (·.2)) hsl
      rw [this]
      apply List.ext_getElem?
      intro j
      rw [wipe_at, wipe_at, wipe_length]
      by_cases hj : j ∈ own.map (·.2)
      · rw [if_pos hj, if_pos hj]
      · rw [if_neg hj, if_neg hj], ?_⟩
    refine ⟨A4, _, ρ4, S4, _, r4, h4, fun b S5 h5 A5 H5 k5 c5 => ?_⟩
    have kk : Keep A2 H2 A5 H5 := (k3.trans k4).trans k5
    have offP : ∀ {A' : List (Option Addr)} {H' : Hp} {S' : Sto}, Cells K H' A' (fun a => B a ∨ a = P) S' → some P ∉ A' := fun c' z => c'.off P z (.inr rfl)
    have hp5 : H5 P = some (.lst accv) := (kk.st P _ hp2 (offP r2.cells)).1
    cases b with
    | true =>
      refine ⟨A5, _, ρ4, S5, _, r4.keep k5 c5, h5, fun w S6 h6 A6 y H6 k6 c6 rw6 => ?_⟩
      cases w with
      | ref n => exact h6.elim
      | lws _ => exact h6.elim
      | ins _ _ _ => exact h6.elim
      | fn _ => exact h6.elim
      | tpl _ => exact h6.elim
      | exv _ => exact h6.elim
      | lsw _ => exact h6.elim
      | val y' =>
        obtain ⟨hz, h7⟩ := h6
        have kk6 : Keep A2 H2 A6 H6 := kk.trans k6
        have hp6 : H6 P = some (.lst accv) := (kk6.st P _ hp2 (offP r2.cells)).1
        have ra6 : RVs K H6 (Fo.av A6 fun a => B a ∨ a = P) acc accv := ra.stay kk6.stay
        refine ⟨accv, hp6, by rw [ra6.length]; exact hz, A6, S6, acc ++ [y'], accv ++ [y], ?_, ?_, upd_same, ?_, h7⟩
        · have kk7 := k2.trans kk6
          refine ⟨fun a o e' n => ?_, kk7.len, kk7.ix⟩
          obtain ⟨z1, z2⟩ := kk7.st a o e' n
          exact ⟨by rw [upd_ne (ne_of_none e' hP)]; exact z1, z2⟩
        · have r6 : Rel K H6 A6 (fun a => B a ∨ a = P) (wipeR ρ (own.map (·.2))) S6 (L2.wipe σ (own.map (·.2))) := r2.keep kk6 c6
          refine r6.cellsOf (c6.offUpd (.inr rfl) nS) fun a u e' n => ?_
          have hne : a ≠ P := fun z => n (.inl (.inr z))
          exact ⟨by rw [upd_ne hne]; exact e', n⟩
        · refine RVs.stay (fun a u e' n => ?_) (ra6.append (RVs.cons rw6 RVs.nil))
          have hne : a ≠ P := fun z => n (.inl (.inr z))
          exact ⟨by rw [upd_ne hne]; exact e', n⟩
    | false =>
      refine ⟨A5, S5, acc, accv, k2.trans kk, r2.keep kk c5, hp5, ra.stay kk.stay, h5⟩
  · rintro H2 ⟨A2, S2, acc, accv, k2, r2, hp2, ra, h2⟩
    rw [List.drop_length] at h2
    obtain ⟨c3, st⟩ := r2.cells.forget nB nS
    have e3 : L2.upd (fun b => if b = P then none else H2 b) P (.lst accv) = H2 := by
      funext b
      by_cases hb : b = P
      · rw [hb, upd_same, hp2]
      · rw [upd_ne hb]
        show (if b = P then none else H2 b) = H2 b
        rw [if_neg hb]
    have := af _ _ h2 A2 (fun b => if b = P then none else H2 b) P accv ⟨fun a o e' n => ?_, (k1.trans k2).len, (k1.trans k2).ix⟩ c3 (ra.stay st) (by show (if P = P then none else H2 P) = none; rw [if_pos rfl])
    · rw [e3] at this
      exact this
    · have e1 := k1.st a o e' n
      have hne : a ≠ P := ne_of_none e1.1 hP
      obtain ⟨z1, z2⟩ := k2.st a o e1.1 e1.2
      exact ⟨by show (if a = P then none else H2 a) = _; rw [if_neg hne]; exact z1, z2⟩
theorem pnm_lc {X : Cx} {elt tg iter : Expr} {ifs : List Expr} {scope : Scope} {own : List (Str × Nat)} {pos : Pos} {it : MI} {g' : TG} {g : MG} {sl : List Nat} {c : MT} {e : ME} (hc : X.calm = true) (hN : X.N.Nodup) (hi : PIm X tg iter it) (ok : BlkOk X.N X.env.scope scope own)
    (hg : ∀ (s : Shared) (H : Hp) (C : Addr) (cl : List (Str × Addr)) (fp : List Addr), PGm (X.blk s H scope (compEnvC scope cl C X.env) fp) tg g' g sl)
    (hsl : ∀ i ∈ sl, i ∈ own.map (·.2))
    (ht : ∀ (s : Shared) (H : Hp) (C : Addr) (cl : List (Str × Addr)) (fp : List Addr), PTsm (X.blk s H scope (compEnvC scope cl C X.env) fp) ifs c)
    (he : ∀ (s : Shared) (H : Hp) (C : Addr) (cl : List (Str × Addr)) (fp : List Addr), PEm (X.blk s H scope (compEnvC scope cl C X.env) fp) elt e) (hs : ∀ x, foldedSetIterable iter X.env x = pure x := by intro _; rfl) :
    PNm X (.ListComp elt [⟨tg, iter, ifs, 0⟩] scope pos) (nLC it g c e (own.map (·.2))) := by
  have sh : Shared := X.s_0
  have qg : ∀ A B H w v ρ S σ k Q, Rel X.kw H A B ρ S σ → RW X.kw H A B w v → g w ρ S k → AftG X.kw A B H σ sl k Q → g' v σ H Q := (hg sh (fun _ => none) 0 [] []).ok
  have mg : MonoG g := (hg sh (fun _ => none) 0 [] []).mono
  have mc : MonoT c := (ht sh (fun _ => none) 0 [] []).mono
  have me : MonoE e := (he sh (fun _ => none) 0 [] []).mono
  refine ⟨(pe_lc (te := up X.kw e) (tt := upT X.kw c) (g := g') hc hN hi.pi ok (fun s H C cl fp => (hg s H C cl fp).pg) (fun s H C cl fp => (ht s H C cl fp).pts) (fun s H C cl fp => (he s H C cl fp).pe) hs).imp ?_,
    fun ρ S Q Q' h q => hi.mono ρ S _ _ (fun ds S1 q1 => lcItems_mono mg mc me h ds [] S1 q1) q⟩
  rintro σ H Q ⟨A, B, ρ, S, k, r, h, af⟩
  exact lc_imp qg hsl r h af
end Fo
/-! Core7: iterators. -/
namespace Fo
open PySem PySem.Spec PyProof.Rows L2
variable {K : Kw}
/-- what a loop walks -/
def itV (w : W) (k : List D → Prop) : Prop := match w with
  | .val (.lst l) => k l
  | .val (.tup l) => k l
  | .val (.str l) => k (l.map fun c => .str [c])
  | _ => False
def iVal (e : ME) : MI := fun ρ S k => e ρ S fun w S1 => itV w fun ds => k ds S1
/-! ### range -/
theorem walkD_range {A : List (Option Addr)} {B : Addr → Prop} {H : Hp} {lo : Int} {n : Nat} : WalkD K A B H (Itr lo n) ((List.range n).map fun i => .int (lo + (i : Nat))) (fun _ => True) (YFn fun i => .int (lo + i)) := by
  refine ⟨by rw [List.length_map, List.length_range]; exact walk_range, fun _ _ _ => trivial, fun i A' B' H' S' x H2 hi bb hb k c y => ?_⟩
  obtain ⟨rfl, rfl⟩ := y
  rw [List.length_map, List.length_range] at hi
  exact ⟨.int (lo + (i : Nat)), by rw [List.getElem?_map, List.getElem?_range hi]; rfl, Keep.refl, c, by unfold RV; rfl⟩
def rangeL (lo : Int) (n : Nat) : List D := (List.range n).map fun i => .int (lo + (i : Nat))
def asI2 (ws : List W) (k : Int → Int → Prop) : Prop := match ws with
  | [.val (.int i), .val (.int j)] => k i j
  | _ => False
def asI1 (ws : List W) (k : Int → Prop) : Prop := match ws with
  | [.val (.int i)] => k i
  | _ => False
theorem asI1_mono {ws : List W} {k k' : Int → Prop} (h : ∀ i, k i → k' i) (q : asI1 ws k) : asI1 ws k' := by
  unfold asI1 at q ⊢
  split at q <;> first | exact h _ q | exact q.elim
theorem RW.asInt {H : Hp} {A : List (Option Addr)} {B : Addr → Prop} {i : Int} {v : V} (r : RW K H A B (.val (.int i)) v) : v = .int i := by
  have r' : RV K H (av A B) (.int i) v := r
  unfold RV at r'
  exact r'
theorem asI1_ok {H : Hp} {A : List (Option Addr)} {B : Addr → Prop} {ws : List W} {vs : List V} {k : Int → Prop} (r : RWs K H A B ws vs) (h : asI1 ws k) : ∃ i, vs = [.int i] ∧ k i := by
  unfold asI1 at h
  split at h
  · rename_i i
    cases r with
    | cons r1 r2 =>
      cases r2
      exact ⟨i, by rw [r1.asInt], h⟩
  · exact h.elim
def iRange1 (t : MA) : MI := fun ρ S k => t ρ S fun ws S1 => asI1 ws fun j => (-(2 ^ 62) ≤ j ∧ j < 2 ^ 62) ∧ k (rangeL 0 j.toNat) S1
def iRange2 (t : MA) : MI := fun ρ S k => t ρ S fun ws S1 => asI2 ws fun i j => (-(2 ^ 62) ≤ i ∧ i < 2 ^ 62 ∧ -(2 ^ 62) ≤ j ∧ j < 2 ^ 62) ∧ k (rangeL i (j - i).toNat) S1
theorem pim_range1 {X : Cx} {tg e e1 : Expr} {t : MA} (h : PAm X [e1] t) (hp : ∀ ta, PA X [e1] ta → PI X tg e (iRng1 ta)) : PIm X tg e (iRange1 t) := by
  refine ⟨(hp _ h.pa).imp ?_, fun ρ S Q Q' hq q => h.mono ρ S _ _ (fun ws S1 => asI1_mono fun i q => ⟨q.1, hq _ _ q.2⟩) q⟩
  rintro σ H R ⟨A, B, ρ, S, k, r, h, af⟩
  refine upA_then r h fun ws S1 A1 vs H1 h1 k1 r1 rws => ?_
  obtain ⟨j, e, ⟨q1, q2⟩, q⟩ := asI1_ok rws h1
  exact ⟨j, e, q1, q2, af _ _ q A1 H1 _ _ _ k1 r1.cells walkD_range⟩
/-! ### pairs -/
def enumL : Nat → List D → List D
  | _, [] => []
  | i, d :: ds => .tup [.int (i : Nat), d] :: enumL (i + 1) ds
theorem enumL_length : ∀ (i : Nat) (ds : List D), (enumL i ds).length = ds.length
  | _, [] => rfl
  | i, d :: ds => by unfold enumL; rw [List.length_cons, List.length_cons, enumL_length]
theorem enumL_at : ∀ (i j : Nat) (ds : List D), (enumL i ds)[j]? = ds[j]?.map fun d => .tup [.int ((i + j : Nat)), d]
  | _, _, [] => by simp [enumL]
  | i, 0, d :: ds => by simp [enumL]
  | i, j + 1, d :: ds => by
    unfold enumL
    rw [List.getElem?_cons_succ, List.getElem?_cons_succ, enumL_at (i + 1) j ds, show i + 1 + j = i + (j + 1) by omega]
def zipL : List D → List D → List D
  | d :: ds, e :: es => .tup [d, e] :: zipL ds es
  | _, _ => []
theorem zipL_length : ∀ (ds es : List D), (zipL ds es).length = min ds.length es.length
  | [], _ => by simp [zipL]
  | _ :: _, [] => by simp [zipL]
  | d :: ds, e :: es => by
    unfold zipL
    rw [List.length_cons, List.length_cons, List.length_cons, zipL_length]
    omega
theorem zipL_at : ∀ (ds es : List D) (i : Nat) (d e : D), ds[i]? = some d → es[i]? = some e → (zipL ds es)[i]? = some (.tup [d, e])
  | [], _, _, _, _, h, _ => by simp at h
  | _ :: _, [], _, _, _, _, h => by simp at h
  | d :: ds, e :: es, 0, _, _, h, h' => by
    simp at h h'
    subst h h'
    rfl
  | d :: ds, e :: es, i + 1, _, _, h, h' => by
    unfold zipL
    rw [List.getElem?_cons_succ]
    exact zipL_at ds es i _ _ (by simpa using h) (by simpa using h')
def asL1 (ws : List W) (k : List D → Prop) : Prop := match ws with
  | [.val (.lst l)] => k l
  | _ => False
/-- enumerate(a list) -/
def iEnumL (t : MA) : MI := fun ρ S k => t ρ S fun ws S1 => asL1 ws fun l => k (enumL 0 l) S1
theorem RW.asLst {H : Hp} {A : List (Option Addr)} {B : Addr → Prop} {l : List D} {v : V} (r : RW K H A B (.val (.lst l)) v) : ∃ a vs, v = .ref a ∧ H a = some (.lst vs) ∧ ¬ av A B a ∧ RVs K H (av A B) l vs := by
  have r' : RV K H (av A B) (.lst l) v := r
  unfold RV at r'
  exact r'
theorem RW.asTup {H : Hp} {A : List (Option Addr)} {B : Addr → Prop} {l : List D} {v : V} (r : RW K H A B (.val (.tup l)) v) : ∃ a vs, v = .ref a ∧ H a = some (.tup vs) ∧ ¬ av A B a ∧ RVs K H (av A B) l vs := by
  have r' : RV K H (av A B) (.tup l) v := r
  unfold RV at r'
  exact r'
/-- zip(a list, a list), zip(a tuple, a tuple) -/
def asZ (ws : List W) (k : List D → List D → Prop) : Prop := match ws with
  | [.val (.lst l), .val (.lst m)] => k l m
  | [.val (.tup l), .val (.tup m)] => k l m
  | _ => False
def iZip (t : MA) : MI := fun ρ S k => t ρ S fun ws S1 => asZ ws fun l m => k (zipL l m) S1
end Fo
/-! Core8: built-in functions, methods, stores. -/
namespace Fo
open PySem PySem.Spec PyProof.Rows L2
variable {K : Kw}
/-! ### calls of what is built in -/
abbrev CalD := List D → Sto → KW → Prop
def MonoC (f : CalD) : Prop := ∀ ds S (Q Q' : KW), (∀ w S', Q w S' → Q' w S') → f ds S Q → f ds S Q'
def CalM (K : Kw) (r : List V → Hp → VK → Prop) (f : CalD) : Prop := ∀ (A : List (Option Addr)) (B : Addr → Prop) (H : Hp) (S : Sto) (ds : List D) (vs : List V) (k : KW) (Q : VK),
  Cells K H A B S → RDs K H (av A B) ds vs → f ds S k → Aft K A B H k Q → r vs H Q
def mCallB (f : CalD) (args : MA) : ME := fun ρ S k => args ρ S fun ws S1 => rds S1 ws fun ds => f ds S1 k
theorem pem_callB {X : Cx} {e : Expr} {es : List Expr} {r : List V → Hp → VK → Prop} {f : CalD} {args : MA} (cm : CalM X.kw r f) (mf : MonoC f) (ha : PAm X es args) (hp : ∀ t, PA X es t → PE X e (tCB r t)) : PEm X e (mCallB f args) := by
  refine ⟨(hp _ ha.pa).imp ?_, fun ρ S Q Q' h q => ha.mono ρ S _ _ (fun ws S1 => rds_mono fun ds => mf _ _ _ _ h) q⟩
  rintro σ H Q ⟨A, B, ρ, S, k, r0, h, af⟩
  refine upA_then r0 h fun ws S1 A1 vs H1 h1 k1 r1 rws => ?_
  obtain ⟨ds, rd1, h2⟩ := rds_ok r1.cells rws h1
  exact cm A1 B H1 S1 ds vs k Q r1.cells rd1 h2 (af.keep k1)
theorem RDs.one {H : Hp} {av : Addr → Prop} {d : D} {vs : List V} (r : RDs K H av [d] vs) : ∃ v, vs = [v] ∧ RD K H av d v := by
  cases r with
  | cons r1 r2 =>
    cases r2
    exact ⟨_, rfl, r1⟩
/-- len -/
def lenC : CalD := fun ds S k => match ds with
  | [.str l] => l.length ≤ sizeLine ∧ k (.val (.int l.length)) S
  | [.tup l] => k (.val (.int l.length)) S
  | [.lst l] => k (.val (.int l.length)) S
  | [.scr l] => k (.val (.int l.length)) S
  | _ => False
theorem lenC_mono : MonoC lenC := by
  intro ds S Q Q' h q
  unfold lenC at q ⊢
  split at q <;> first | exact h _ _ q | exact ⟨q.1, h _ _ q.2⟩ | exact q.elim
theorem lenM : CalM K (fun xs H Q => ∃ x n, xs = [x] ∧ LenV K x H n ∧ Q (.int n) H) lenC := by
  intro A B H S ds vs k Q c r h af
  unfold lenC at h
  split at h
  · obtain ⟨v, rfl, r1⟩ := r.one
    rw [r1.str]
    exact ⟨_, _, rfl, ⟨by rw [tx_length]; exact h.1, rfl⟩, by rw [tx_length]; exact af.int c h.2⟩
  · obtain ⟨v, rfl, r1⟩ := r.one
    obtain ⟨a, us, rfl, e, n, t⟩ := r1.tup
    exact ⟨_, _, rfl, .inr ⟨us, .inl (.inl e), rfl⟩, by rw [t.length]; exact af.int c h⟩
  · obtain ⟨v, rfl, r1⟩ := r.one
    obtain ⟨a, us, rfl, e, t⟩ := r1.lst
    exact ⟨_, _, rfl, .inl ⟨us, .inl (.inl e), rfl⟩, by rw [t.length]; exact af.int c h⟩
  · obtain ⟨v, rfl, r1⟩ := r.one
    obtain ⟨a, rfl, q⟩ := r1.scr
    exact ⟨_, _, rfl, .inl ⟨_, q, rfl⟩, by rw [List.length_map]; exact af.int c h⟩
  · exact h.elim
/-- min(m, n) -/
def min2C : CalD := fun ds S k => match ds with
  | [.int i, .int j] => k (.val (.int (if j < i then j else i))) S
  | _ => False
/-- tuple(x) -/
def tupleC : CalD := fun ds S k => match ds with
  | [.lst l] => k (.val (.tup l)) S
  | [.tup l] => k (.val (.tup l)) S
  | _ => False
/-! ### isinstance -/
def tyName : D → String
  | .non => "NoneType"
  | .bl _ => "bool"
  | .int _ => "int"
  | .str _ => "str"
  | .tup _ => "tuple"
  | .lst _ => "list"
  | .dct _ _ => "dict"
  | .scr _ => "list"
def isT (d : D) (t : String) : Bool := tyName d == t || (t == "int" && tyName d == "bool")
/-- a thing's type -/
def TyM (K : Kw) (H : Hp) (x : V) (t : Value) : Prop := TyX K H x t ∨ ∃ a ys, x = V.ref a ∧ Rd H a (DicO K.w a ys) ∧ t = .type "dict"
theorem dicO_at {P : Program} {w : World} {H : Hp} {h : Heap} {a : Addr} {ys : List (NestedKey × Addr × V)} (ok : HOk P w H h) (e : Rd H a (DicO w a ys)) : DicP w a ys h := by
  rcases e with e | ⟨o, e⟩
  · exact (ok a _ e).1
  · exact (ok a _ e).2.1
theorem kit_ofM {X : Cx} {pins : List (Addr × Obj)} {σ : L2.St} {H : Hp} {s : Shared} {x : V} {u t : Value} (I : Inv X pins σ H s) (rx : RelV x u) (ty : TyM X.kw H x t) : ∃ P : Heap → Prop, PySem.W.KitX X.K u t P ∧ P s.heap ∧ u ≠ .builtin "__main__.__loader__#opaque" := by
  rcases ty with ty | ⟨a, ys, rfl, e, rfl⟩
  · exact kit_of I rx ty
  · cases (show u = Value.ref a from rx)
    obtain ⟨_, _, xs, _, _, o, es, ep, h1, h2, _⟩ := dicO_at I.hok e
    exact ⟨_, PySem.W.kitx_dict, ⟨o, h1, h2.1⟩, fun z => nomatch z⟩
def rIsiM (K : Kw) : List V → Hp → VK → Prop := fun xs H Q => ∃ (x c : V) (t u : Value) (b : Bool), xs = [x, c] ∧ ClsV c u ∧ TyM K H x t ∧ PySem.W.kitOne K t u = some b ∧ Q (.bl b) H
def rIsiTM (K : Kw) : List V → Hp → VK → Prop := fun xs H Q => ∃ (x : V) (tp : Addr) (cs : List V) (t : Value) (us : List Value) (b : Bool), xs = [x, .ref tp] ∧ H tp = some (.tup cs) ∧ Paired ClsV cs us ∧ TyM K H x t ∧ PySem.W.kitAny K t us = some b ∧ Q (.bl b) H
theorem call_isiM {X : Cx} : CallR X (.builtin "isinstance") (rIsiM X.kw) := by
  intro pins s σ H xs us Q I r h
  obtain ⟨x, c, t, u, b, rfl, k, ty, e, q⟩ := h
  obtain ⟨u1, u2, rfl, r1, r2⟩ := vals2 r
  have e2 := k.eq r2
  subst e2
  obtain ⟨P, Z, p, hx⟩ := kit_ofM I r1 ty
  exact PySem.W.kia_one Z I.kIn p e hx fun tk => ⟨.bl b, H, I.tok tk, rfl, q⟩
theorem call_isiTM {X : Cx} : CallR X (.builtin "isinstance") (rIsiTM X.kw) := by
  intro pins s σ H xs us Q I r h
  obtain ⟨x, tp, cs, t, ws, b, rfl, hT, k, ty, e, q⟩ := h
  obtain ⟨u1, u2, rfl, r1, r2⟩ := vals2 r
  cases (show u2 = Value.ref tp from r2)
  obtain ⟨P, Z, p, hx⟩ := kit_ofM I r1 ty
  obtain ⟨_, its, rv, ⟨oc, od, dt, sl⟩, h1, h2, n, h3⟩ := (show ObjOk X.prog X.w H s.heap tp (.tup cs) from I.hok tp _ hT)
  have e3 := ClsV.all k rv
  subst e3
  simp only at h2 h3
  subst h2 h3
  exact PySem.W.kia_tup Z I.kIn p h1 e hx fun tk => ⟨.bl b, H, I.tok tk, rfl, q⟩
theorem RD.ty {H : Hp} {av : Addr → Prop} {d : D} {v : V} (r : RD K H av d v) : TyM K H v (.type (tyName d)) := by
  cases d with
  | non => rw [r.non]; exact .inl (.base .non)
  | bl b => rw [r.bl]; exact .inl (.base (.bl b))
  | int b => rw [r.int]; exact .inl (.base (.int b))
  | str b => rw [r.str]; exact .inl (.base (.str _))
  | tup b => obtain ⟨a, vs, rfl, e, _⟩ := r.tup; exact .inl (.base (.tup e))
  | lst b => obtain ⟨a, vs, rfl, e, _⟩ := r.lst; exact .inl (.base (.lst e))
  | dct b c =>
    obtain ⟨a, u, kv, vs, rfl, e, hb, _⟩ := r.dct
    rcases hb with ⟨kvs, rfl, _⟩ | ⟨ys, _, rfl, _⟩
    · rcases e with e | ⟨o, e⟩
      · exact .inl (.base (.dK e))
      · exact .inl (.fDict e)
    · exact .inr ⟨a, ys, rfl, e, rfl⟩
  | scr l =>
    obtain ⟨a, rfl, q⟩ := r.scr
    rcases q with (q | ⟨o, q⟩) | ⟨o, its, n, e1, e2, _⟩
    · exact .inl (.base (.lst q))
    · exact .inl (.base (.frz q))
    · exact .inl (.kList e1 e2)
/-- the classes asked of -/
def tyAsked (t : String) : Bool := ["int", "str", "bool", "tuple", "list", "dict"].contains t
theorem kit_tab : ∀ a ∈ ["NoneType", "bool", "int", "str", "tuple", "list", "dict"], ∀ b ∈ ["int", "str", "bool", "tuple", "list", "dict"], kitB a b = some (a == b || (b == "int" && a == "bool")) := by decide +kernel
theorem tyName_in (d : D) : tyName d ∈ ["NoneType", "bool", "int", "str", "tuple", "list", "dict"] := by cases d <;> simp [tyName]
theorem kit_isT {K : PySem.W.Frag} (d : D) (t : String) (h : tyAsked t = true) : PySem.W.kitOne K (.type (tyName d)) (.type t) = some (isT d t) :=
  kit_ty (kit_tab _ (tyName_in d) t (by simpa [tyAsked] using h))
def mIsi (t : String) (e : ME) : ME := fun ρ S k => e ρ S fun w S1 => rd S1 w fun d => k (.val (.bl (isT d t))) S1
theorem pem_isi {X : Cx} {e ce : Expr} {p pos : Pos} {te : ME} {t : String} (hg : Gl X "isinstance") (hm : X.mg "isinstance" = none) (ht : tyAsked t = true) (he : PEm X e te) (hc : PE X ce (tC (.ty t)))
    (hs : starEach [e, ce] X.env = (false, eval e X.env) :: starEach [ce] X.env := by rfl) (hs2 : starEach [ce] X.env = (false, eval ce X.env) :: starEach [] X.env := by rfl) (hpl : (backTo pos (starEach [ce] X.env)).any (·.1) = false := by rfl) :
    PEm X (.Call (.Name "isinstance" p) [e, ce] [] pos) (mIsi t te) := by
  refine ⟨(pe_callB call_isiM hg hm (by decide +kernel) (pa_cons he.pe (pa_cons hc pa_nil hs2) hs) (he := hs) (hpl := hpl)).imp ?_, fun ρ S Q Q' h q => he.mono ρ S _ _ (fun w S1 => rd_mono fun d => h _ _) q⟩
  rintro σ H Q ⟨A, B, ρ, S, k, r0, h, af⟩
  refine up_then r0 h fun w S1 A1 v H1 h1 k1 r1 rw1 => ?_
  obtain ⟨d, hd, h2⟩ := rd_ok r1.cells rw1 h1
  exact ⟨v, _, _, _, _, rfl, .ty t, hd.ty, kit_isT d t ht, (af.keep k1).bl r1.cells h2⟩
def mIsiT (ts : List String) (e : ME) : ME := fun ρ S k => e ρ S fun w S1 => rd S1 w fun d => k (.val (.bl (ts.any (isT d)))) S1
theorem kit_any {K : PySem.W.Frag} (d : D) : ∀ ts : List String, ts.all tyAsked = true → PySem.W.kitAny K (.type (tyName d)) (ts.map Value.type) = some (ts.any (isT d))
  | [], _ => rfl
  | t :: ts, h => by
    rw [List.all_cons, Bool.and_eq_true] at h
    rw [List.map_cons, List.any_cons]
    refine kitAny_cons (kit_isT d t h.1) (fun e => ?_) fun e => by rw [e]; rfl
    rw [e, Bool.false_or]
    exact kit_any d ts h.2
theorem tys_rel : ∀ ts : List String, Paired ClsV (ts.map V.ty) (ts.map Value.type)
  | [] => .nil
  | t :: ts => .cons (.ty t) (tys_rel ts)
theorem pem_isiT {X : Cx} {e ce : Expr} {p pos : Pos} {te : ME} {ts : List String} {ta : TA} (hg : Gl X "isinstance") (hm : X.mg "isinstance" = none) (ht : ts.all tyAsked = true) (hl : ts.length ≤ sizeLine) (he : PEm X e te) (hc : PE X ce (tTup ta)) (hta : ∀ σ H (Q : List V → Hp → Prop), Q (ts.map V.ty) H → ta σ H Q)
    (hs : starEach [e, ce] X.env = (false, eval e X.env) :: starEach [ce] X.env := by rfl) (hs2 : starEach [ce] X.env = (false, eval ce X.env) :: starEach [] X.env := by rfl) (hpl : (backTo pos (starEach [ce] X.env)).any (·.1) = false := by rfl) :
    PEm X (.Call (.Name "isinstance" p) [e, ce] [] pos) (mIsiT ts te) := by
  refine ⟨(pe_callB call_isiTM hg hm (by decide +kernel) (pa_cons he.pe (pa_cons hc pa_nil hs2) hs) (he := hs) (hpl := hpl)).imp ?_, fun ρ S Q Q' h q => he.mono ρ S _ _ (fun w S1 => rd_mono fun d => h _ _) q⟩
  rintro σ H Q ⟨A, B, ρ, S, k, r0, h, af⟩
  refine up_then r0 h fun w S1 A1 v H1 h1 k1 r1 rw1 => ?_
  refine hta _ _ _ ⟨by rw [List.length_map]; exact hl, fun q hq => ?_⟩
  have k2 := k1.trans (Keep.upd (o := .tup (ts.map V.ty)) hq)
  have c2 := r1.cells.upd (o := .tup (ts.map V.ty)) hq
  obtain ⟨d, hd, h2⟩ := rd_ok c2 (rw1.keep (Keep.upd (o := .tup (ts.map V.ty)) hq)) h1
  exact ⟨v, q, _, _, _, _, rfl, upd_same, tys_rel ts, hd.ty, kit_any d ts ht, (af.keep k2).bl c2 h2⟩
end Fo
/-! Core9: new lists by list, sorted; repr; methods; stores. -/
namespace Fo
open PySem PySem.Spec PyProof.Rows L2
variable {K : Kw}
/-! ### list(x) -/
/-- a new list's call: from the values of the arguments -/
def NewM (K : Kw) (r : List V → Hp → VK → Prop) (f : List D → Sto → (List D → Sto → Prop) → Prop) : Prop := ∀ (A : List (Option Addr)) (B : Addr → Prop) (H : Hp) (S : Sto) (ds : List D) (vs : List V) (k : List D → Sto → Prop) (Q : VK),
  Cells K H A B S → RDs K H (av A B) ds vs → f ds S k → AftN K A B H k Q → r vs H Q
def nCallB (f : List D → Sto → (List D → Sto → Prop) → Prop) (args : MA) : MN := fun ρ S k => args ρ S fun ws S1 => rds S1 ws fun ds => f ds S1 k
theorem AftN.keep {A A1 : List (Option Addr)} {B : Addr → Prop} {H H1 : Hp} {k : List D → Sto → Prop} {Q : VK} (a : AftN K A B H k Q) (l : Keep A H A1 H1) : AftN K A1 B H1 k Q :=
  fun ds S' h A' H2 p vs k' c r hp => a ds S' h A' H2 p vs (l.trans k') c r hp
theorem AftN.now {A : List (Option Addr)} {B : Addr → Prop} {H : Hp} {S : Sto} {k : List D → Sto → Prop} {Q : VK} (a : AftN K A B H k Q) (c : Cells K H A B S) {ds : List D} {vs : List V} (h : k ds S) (r : RVs K H (av A B) ds vs) {p : Addr} (hp : H p = none) : Q (.ref p) (upd H p (.lst vs)) :=
  a _ _ h A H p vs Keep.refl c r hp
theorem pnm_callB {X : Cx} {e : Expr} {es : List Expr} {r : List V → Hp → VK → Prop} {f : List D → Sto → (List D → Sto → Prop) → Prop} {args : MA} (cm : NewM X.kw r f) (mf : ∀ ds S (Q Q' : List D → Sto → Prop), (∀ w S', Q w S' → Q' w S') → f ds S Q → f ds S Q') (ha : PAm X es args) (hp : ∀ t, PA X es t → PE X e (tCB r t)) : PNm X e (nCallB f args) := by
  refine ⟨(hp _ ha.pa).imp ?_, fun ρ S Q Q' h q => ha.mono ρ S _ _ (fun ws S1 => rds_mono fun ds => mf _ _ _ _ h) q⟩
  rintro σ H Q ⟨A, B, ρ, S, k, r0, h, af⟩
  refine upA_then r0 h fun ws S1 A1 vs H1 h1 k1 r1 rws => ?_
  obtain ⟨ds, rd1, h2⟩ := rds_ok r1.cells rws h1
  exact cm A1 B H1 S1 ds vs k Q r1.cells rd1 h2 (af.keep k1)
def signs (l : List Nat) : List D := l.map fun c => .str [c]
def listF : List D → Sto → (List D → Sto → Prop) → Prop := fun ds S k => match ds with
  | [.lst l] => k l S
  | [.tup l] => k l S
  | [.scr l] => k (l.map D.int) S
  | [.str l] => l.length ≤ sizeLine ∧ k (signs l) S
  | _ => False
theorem listF_mono (ds S) (Q Q' : List D → Sto → Prop) (h : ∀ w S', Q w S' → Q' w S') (q : listF ds S Q) : listF ds S Q' := by
  unfold listF at q ⊢
  split at q <;> first | exact h _ _ q | exact ⟨q.1, h _ _ q.2⟩ | exact q.elim
def rList (K : Kw) : List V → Hp → VK → Prop := fun xs H Q => (∃ p ys, xs = [.ref p] ∧ (SqL K H p ys ∨ SqT K H p ys) ∧ ∀ l, H l = none → Q (.ref l) (upd H l (.lst ys))) ∨
  (∃ x : Str, xs = [.str x] ∧ x.cps.size ≤ sizeLine ∧ ∀ l, H l = none → Q (.ref l) (upd H l (.lst (x.cps.toList.map fun c => V.str ⟨#[c]⟩))))
theorem items_signs {x : Str} {acc : Array Value} {c : Nat} (h : ItemsOf (SignAt x) acc c) (hc : c = x.cps.size) : Vals (x.cps.toList.map fun c => V.str ⟨#[c]⟩) acc.toList := by
  obtain ⟨h1, h2⟩ := h
  have gen : ∀ (l : List Nat) (us : List Value), l.length = us.length → (∀ (j : Nat) (u : Value), us[j]? = some u → ∃ (c : Nat) (t : Tok), l[j]? = some c ∧ u = Value.str ⟨#[c]⟩ t) → Vals (l.map fun c => V.str ⟨#[c]⟩) us := by
    intro l
    induction l with
    | nil =>
      intro us hl _
      cases us with
      | nil => exact .nil
      | cons u us => simp at hl
    | cons c l ih =>
      intro us hl hj
      cases us with
      | nil => simp at hl
      | cons u us =>
        obtain ⟨c', t, e1, e2⟩ := hj 0 u rfl
        simp at e1
        subst e1 e2
        exact .cons ⟨t, rfl⟩ (ih us (by simpa using hl) fun j u e => by simpa using hj (j + 1) u (by simpa using e))
  refine gen _ _ (by rw [Array.length_toList, Array.length_toList, h1, hc]) fun j u e => ?_
  obtain ⟨c, t, e1, e2⟩ := h2 j u (by simpa using e)
  exact ⟨c, t, by simpa using e1, e2⟩
theorem call_listM {X : Cx} (hc : X.calm = true) : CallR X (.type "list") (rList X.kw) := by
  intro pins s σ H xs us Q I r h
  rcases h with h | ⟨x, rfl, hz, q⟩
  · exact call_list_of pins s σ H xs us Q I r h
  · cases r with
    | cons r1 r2 =>
      cases r2
      obtain ⟨t, rfl⟩ := r1
      refine call_list_str (I.ok.hd hc) x t (fun h' tk acc' c' kept new items => ?_) hz
      have hf : H s.heap.objs.size = none := I.hok.fresh (Nat.le_refl _)
      refine ⟨.ref s.heap.objs.size, _, I.laid (t' := tk) (o := .lst (x.cps.toList.map fun c => V.str ⟨#[c]⟩)) kept (Nat.le_refl _) ⟨?_, acc'.toList, c', items_signs items rfl, by simpa using new⟩, rfl, q _ hf⟩
      rw [List.length_map, Array.length_toList]
      exact hz
theorem signs_rel {H : Hp} {av : Addr → Prop} : ∀ l : List Nat, RVs K H av (signs l) (l.map fun c => V.str ⟨#[c]⟩)
  | [] => RVs.nil
  | c :: l => by
    show RVs K H av (.str [c] :: signs l) _
    exact RVs.cons (by unfold RV; rfl) (signs_rel l)
theorem listM : NewM K (rList K) listF := by
  intro A B H S ds vs k Q c r h af
  unfold listF at h
  split at h
  · obtain ⟨v, rfl, r1⟩ := r.one
    obtain ⟨a, us, rfl, e, t⟩ := r1.lst
    exact .inl ⟨a, us, rfl, .inl (.inl (.inl e)), fun p hp => af.now c h t hp⟩
  · obtain ⟨v, rfl, r1⟩ := r.one
    obtain ⟨a, us, rfl, e, n, t⟩ := r1.tup
    exact .inl ⟨a, us, rfl, .inr (.inl (.inl e)), fun p hp => af.now c h t hp⟩
  · obtain ⟨v, rfl, r1⟩ := r.one
    obtain ⟨a, rfl, q⟩ := r1.scr
    exact .inl ⟨a, _, rfl, .inl q, fun p hp => af.now c h (RVs.ints _) hp⟩
  · obtain ⟨v, rfl, r1⟩ := r.one
    rw [r1.str]
    refine .inr ⟨_, rfl, by simpa [tx] using h.1, fun p hp => ?_⟩
    rw [tx_toList]
    exact af.now c h.2 (signs_rel _) hp
  · exact h.elim
theorem pnm_list {X : Cx} {e : Expr} {es : List Expr} {args : MA} (ha : PAm X es args) (hp : ∀ t, PA X es t → PE X e (tCB (rList X.kw) t)) : PNm X e (nCallB listF args) := pnm_callB listM listF_mono ha hp
/-! ### sorted(a list of texts) -/
/-- ascending by the signs -/
def rises : List (List Nat) → Prop
  | x :: y :: r => ¬ y < x ∧ rises (y :: r)
  | _ => True
/-! ### repr -/
/-! ### methods of texts -/
def asS (w : W) (k : List Nat → Prop) : Prop := match w with
  | .val (.str l) => k l
  | _ => False
/-- s.m(e), by values -/
def mMethS (f : List Nat → D → Sto → KW → Prop) (o e : ME) : ME := fun ρ S k => o ρ S fun w S1 => asS w fun l => e ρ S1 fun u S2 => rd S2 u fun d => f l d S2 k
end Fo
/-! Core10: lists that change: methods, stores; names stored by an operator. -/
namespace Fo
open PySem PySem.Spec PyProof.Rows L2
variable {K : Kw}
/-- a list's cell -/
def asCell (w : W) (S : Sto) (k : Nat → List D → Prop) : Prop := match w with
  | .ref n => match S[n]? with
    | some (.lst l) => k n l
    | _ => False
  | _ => False
theorem asCell_mono {w : W} {S : Sto} {k k' : Nat → List D → Prop} (h : ∀ n l, k n l → k' n l) (q : asCell w S k) : asCell w S k' := by
  unfold asCell at q ⊢
  cases w with
  | val d => exact q
  | lws _ => exact q
  | ins _ _ _ => exact q
  | fn _ => exact q
  | tpl _ => exact q
  | exv _ => exact q
  | lsw _ => exact q
  | ref n =>
    simp only at q ⊢
    split at q
    · exact h _ _ q
    · exact q.elim
theorem asCell_ok {H : Hp} {A : List (Option Addr)} {B : Addr → Prop} {S : Sto} {w : W} {v : V} {k : Nat → List D → Prop} (c : Cells K H A B S) (r : RW K H A B w v) (h : asCell w S k) :
    ∃ n l a vs, w = .ref n ∧ S[n]? = some (.lst l) ∧ A[n]? = some (some a) ∧ v = .ref a ∧ H a = some (.lst vs) ∧ RVs K H (av A B) l vs ∧ k n l := by
  unfold asCell at h
  cases w with
  | val d => exact h.elim
  | lws _ => exact h.elim
  | ins _ _ _ => exact h.elim
  | fn _ => exact h.elim
  | tpl _ => exact h.elim
  | exv _ => exact h.elim
  | lsw _ => exact h.elim
  | ref n =>
    simp only at h
    split at h
    · rename_i l e
      obtain ⟨a, ha, vs, h1, h2⟩ := c.look e (by intro z; cases z)
      exact ⟨n, l, a, vs, rfl, e, ha, r.at_ ha, h1, h2, h⟩
    · exact h.elim
/-- a cell's method, with arguments: what becomes of it, what is told -/
abbrev CelD := List D → List W → (List D → D → Prop) → Prop
def mMethC (f : CelD) (o : ME) (args : MA) : ME := fun ρ S k => o ρ S fun w S1 => asCell w S1 fun _ _ => args ρ S1 fun ws S2 => asCell w S2 fun n l => f l ws fun l' d => k (.val d) (S2.set n (.lst l'))
def mMethC0 (f : CelD) (o : ME) : ME := fun ρ S k => o ρ S fun w S1 => asCell w S1 fun n l => f l [] fun l' d => k (.val d) (S1.set n (.lst l'))
/-! ### append, pop, extend, insert -/
def appendF : CelD := fun l ws k => match ws with
  | [.val d] => l.length < sizeLine ∧ k (l ++ [d]) .non
  | _ => False
theorem RWs.one {H : Hp} {A : List (Option Addr)} {B : Addr → Prop} {w : W} {us : List V} (r : RWs K H A B [w] us) : ∃ u, us = [u] ∧ RW K H A B w u := by
  cases r with
  | cons r1 r2 =>
    cases r2
    exact ⟨_, rfl, r1⟩
/-! ### xs[i] = v -/
def gIx (o i : ME) : MG := fun w ρ S k => o ρ S fun x S1 => i ρ S1 fun y S2 => asCell x S2 fun n l => asI y S2 fun j S2 => match ixN l.length j with
  | some p => match w with
    | .val d => k ρ (S2.set n (.lst (l.set p d)))
    | _ => False
  | none => False
theorem gIx_mono {o i : ME} (mo : MonoE o) (mi : MonoE i) : MonoG (gIx o i) := fun w ρ S Q Q' h q => mo ρ S _ _ (fun x S1 => mi ρ S1 _ _ fun y S2 => asCell_mono fun n l => asI_mono fun j S3 q => by
  split at q
  · cases w with
    | val d => exact h _ _ q
    | ref _ => exact q.elim
    | lws _ => exact q.elim
    | ins _ _ _ => exact q.elim
    | fn _ => exact q.elim
    | tpl _ => exact q.elim
    | exv _ => exact q.elim
    | lsw _ => exact q.elim
  · exact q.elim) q
theorem pgm_ix {X : Cx} {tg o i : Expr} {to ti : ME} (ho : PEm X o to) (hi : PEm X i ti) (hp : ∀ t u, PE X o t → PE X i u → PG X tg (gSub t u rSetL)) : PGm X tg (gSub (up X.kw to) (up X.kw ti) rSetL) (gIx to ti) [] := by
  refine ⟨hp _ _ ho.pe hi.pe, fun A B H w v ρ S σ k Q r rw' h a => ?_, gIx_mono ho.mono hi.mono⟩
  refine up_then r h fun x S1 A1 vx H1 h1 k1 r1 rx => up_then r1 h1 fun y S2 A2 vy H2 h2 k2 r2 ry => ?_
  obtain ⟨n, l, a', vs, rfl, e, ea, rfl, eH, rv, h3⟩ := asCell_ok r2.cells (rx.keep k2) h2
  obtain ⟨j, rfl, h4⟩ := asI_ok ry h3
  split at h4
  · rename_i p ep
    cases w with
    | ref _ => exact h4.elim
    | lws _ => exact h4.elim
    | ins _ _ _ => exact h4.elim
    | fn _ => exact h4.elim
    | tpl _ => exact h4.elim
    | exv _ => exact h4.elim
    | lsw _ => exact h4.elim
    | val d =>
      have rd' : RV X.kw H2 (av A2 B) d v := (rw'.keep k1).keep k2
      obtain ⟨c3, k3⟩ := r2.cells.write_lst ea (RVs.set rd' p rv)
      refine ⟨a', vs, j, p, rfl, rfl, eH, by rw [rv.length]; exact ep, ?_⟩
      exact a _ _ h4 A2 σ _ ((k1.trans k2).trans k3) (r2.keep k3 c3) fun _ _ => rfl
  · exact h4.elim
/-! ### x op= e -/
def sAug (i : Nat) (op : OpD) (e : ME) : MS := fun E ρ S => match ρ[i]? with
  | some (some x) => e ρ S fun y S1 => rd S1 x fun dx => rd S1 y fun dy => op dx dy S1 fun w S2 => E.nx (ρ.set i (some w)) S2
  | _ => False
/-- += of ints, texts -/
def iaddD : OpD := fun a b S k => match a, b with
  | .int i, .int j => k (.val (.int (i + j))) S
  | .str s, .str t => s.length + t.length ≤ sizeLine ∧ k (.val (.str (s ++ t))) S
  | _, _ => False
end Fo
/-! Core11: short words that the printed ties use. -/
namespace Fo
open PySem PySem.Spec PyProof.Rows L2
variable {K : Kw}
theorem room65 {k : Nat} {A : Around} (r : Room k A) : A.units + 65 < cLine := by have := r.un; omega
/-- -n -/
def mNeg (t : ME) : ME := fun ρ S k => t ρ S fun w S1 => asI w S1 fun i S1 => k (.val (.int (-i))) S1
/-! ### targets that always go on -/
def Strict (t : MG) : Prop := ∀ w ρ S Q, t w ρ S Q → ∃ ρ' S', Q ρ' S'
theorem strict_var {i : Nat} : Strict (gVar i) := fun w ρ S Q h => ⟨_, _, h⟩
theorem gsCons_lenS {n : Nat} {t : MG} {u : MGs} (h1 : Strict t) (hu : ∀ ds ρ S Q, u ds ρ S Q → ds.length = n) (ds ρ S Q) (h : gsCons t u ds ρ S Q) : ds.length = n + 1 := by
  cases ds with
  | nil => exact h.elim
  | cons d ds =>
    obtain ⟨ρ1, S1, q⟩ := h1 _ _ _ _ h
    rw [List.length_cons, hu ds _ _ _ q]
/-! ### name = [..] where the name is stored within the comprehension's frame -/
/-! ### a, b = x, y -/
def sPar (i j : Nat) (t : MA) : MS := fun E ρ S => t ρ S fun ws S1 => match ws with
  | [w, u] => E.nx ((ρ.set i (some w)).set j (some u)) S1
  | _ => False
theorem psm_par {X : Cx} {st : Stmt} {es : List Expr} {i j : Nat} {t : MA} (h : PAm X es t) (hp : ∀ ta, PA X es ta → PS X st (tPar i j ta)) : PSm X st (sPar i j t) := by
  refine ⟨(hp _ h.pa).imp ?_, fun E E' ρ S l q => h.mono ρ S _ _ (fun ws S1 q1 => ?_) q⟩
  · rintro D σ H ⟨A, B, ρ, S, E, r, h, a⟩
    refine upA_then r h fun ws S1 A1 vs H1 h1 k1 r1 rws => ?_
    split at h1
    · rename_i w u
      cases rws with
      | cons q1 q2 =>
        obtain ⟨v2, rfl, q3⟩ := RWs.one q2
        exact ⟨_, v2, rfl, a.nx _ _ h1 A1 _ H1 k1 ((r1.set q1).set q3)⟩
    · exact h1.elim
  · split at q1
    · exact l.nx _ _ q1
    · exact q1.elim
/-! ### keywords -/
end Fo
/-! Core15: new lists by + and *. -/
namespace Fo
open PySem PySem.Spec PyProof.Rows L2
variable {K : Kw}
abbrev OpN := D → D → (List D → Prop) → Prop
def nBin (op : OpN) (a b : ME) : MN := fun ρ S k => a ρ S fun x S1 => b ρ S1 fun y S2 => rd S2 x fun dx => rd S2 y fun dy => op dx dy fun ds => k ds S2
def addN : OpN := fun a b k => match a, b with
  | .lst s, .lst t => s.length + t.length ≤ sizeLine ∧ k (s ++ t)
  | _, _ => False
/-! ### int(x) -/
def int1C : CalD := fun ds S k => match ds with
  | [.int i] => k (.val (.int i)) S
  | [.bl b] => k (.val (.int (if b then 1 else 0))) S
  | _ => False
end Fo
/-! Core14: the law's def at the caller's. -/
namespace Fo
open PySem PySem.Spec PyProof.Rows L2
variable {K : Kw}
theorem Cells.nil {H : Hp} (hs : SysH H) : Cells K H [] (fun _ => False) [] where
  len := rfl
  at_ := fun n x ob e _ => by simp at e
  inj := fun n m a e _ => by simp at e
  off := fun a e => by cases e
  dom := fun a e => False.elim e
  sys := hs
  soff := fun e => by cases e
theorem RW.scr {H : Hp} {a : Addr} {ns : List Int} (h : SqL K H a (ns.map V.int)) : RW K H [] (fun _ => False) (.val (.scr ns)) (.ref a) := by
  show RV K H _ (.scr ns) _
  unfold RV
  refine ⟨a, rfl, ?_⟩
  rcases h with h | h
  · exact .inl ⟨h, fun z => z.elim (fun q => q) fun q => by cases q⟩
  · exact .inr h
theorem RW.bl_inv {H : Hp} {A : List (Option Addr)} {B : Addr → Prop} {v : V} {b : Bool} (r : RW K H A B (.val (.bl b)) v) : v = .bl b := by
  have r' : RV K H (av A B) (.bl b) v := r
  unfold RV at r'
  exact r'
theorem sp_law_of {t : MF} {H : Hp} {a : Addr} {ns : List Int} (hs : SysH H) (hS : SqL K H a (ns.map V.int)) (h : t [.val (.scr ns)] [] fun w _ => w = .val (.bl true)) : spF K 1 t [.ref a] H (fun v _ => v = .bl true) (fun _ _ _ => False) := by
  refine ⟨[], fun _ => False, [.val (.scr ns)], [], fun w S => w = .val (.bl true), rfl, Cells.nil hs, .cons (RW.scr hS) .nil, h, fun w S' h A' v H' _ _ r => ?_⟩
  subst h
  exact RW.bl_inv r
end Fo
/-! Zip1: zip(.., strict=True): its beginning, one turn of it, its end. Printed by zipgen.py. -/
namespace Fo
open PySem PySem.Spec PyProof.Rows L2
section
variable {prog : Program} {w : World} {A : Around} {E : Value → Shared → Prop} {s : Shared} {it : Addr} {fp : List Addr} {n i : Nat} {P : Nat → Value → Prop} {St : Nat → Heap → Prop}
theorem nextOrEnd_item {Q : Option Value → Shared → Prop} (D : Draws prog w A.in1 it fp n P St) (hi : i < n) (st : St i s.heap)
    (h : ∀ x h' tk, P i x → St (i + 1) h' → Heap.SameBut it s.heap h' → Q (some x) { s with heap := h', toks := tk }) : wpAny (model prog w) A (Builtin.SmallTypes.nextOrEnd (.ref it)) Q E s := by
  unfold Builtin.SmallTypes.nextOrEnd
  refine wpAny_bind (wpAny_attempt (D.of_in1.item i s _ _ hi st fun x h' tk px s' sb => ?_))
  exact wpAny_pure (h x h' tk px s' sb)
theorem nextOrEnd_end {Q : Option Value → Shared → Prop} (D : Draws prog w A.in1 it fp n P St) (st : St n s.heap)
    (h : ∀ h', Heap.ExtBut it s.heap h' → Q none { s with heap := h' }) : wpAny (model prog w) A (Builtin.SmallTypes.nextOrEnd (.ref it)) Q E s := by
  unfold Builtin.SmallTypes.nextOrEnd
  refine wpAny_bind (wpAny_attempt (D.of_in1.done s _ _ st fun h' e eb he => ?_))
  obtain ⟨o, ho, hc⟩ := he
  exact wpAny_bind (wpAny_isInstance (T := "StopIteration") (b := true) ⟨o, ho, hc⟩ isSubtype_stop (wpAny_pure (h h' eb)))
/-- a strict zip's record -/
abbrev SZ (h : Heap) (z TI TO : Addr) (f0 : Value) : Prop :=
  h.get? z = some { cls := .type "zip", dict := none, data := .fields #[f0, .bool false, .bool true, .ref TI, .ref TO], slots := #[] }
theorem stop_all {Q : Fin → Shared → Prop} (hh : A.handled = none) (h : ∀ h' e, (∀ c o, s.heap.get? c = some o → h'.get? c = some o) → (∃ o, h'.get? e = some o ∧ o.cls = .type "StopIteration") → E (.ref e) { s with heap := h' }) :
    wpAny (model prog w) A (Builtin.SmallTypes.stopIteration) Q E s := by
  unfold Builtin.SmallTypes.stopIteration newExc
  simp only [newTuple]
  refine wpAny_bind (wpAny_bind (wpAny_newObj_type (wpAny_bind (m := firstArgMember _ _) (wpAny_of_eq (a := Value.none) (by first | rfl | (simp only [firstArgMember]; rfl)) (wpAny_newObj_type ?_ (by size_fits)))) (by size_fits)))
  simp only [raiseNew]
  refine wpAny_bind (wpAny_handled ?_)
  rw [hh]
  refine wpAny_bind (wpAny_pure (wpAny_throw (h _ _ (fun c o q => ?_) ⟨_, Heap.get?_push_size _ rfl, rfl⟩)))
  exact Heap.get?_push_of_some _ (Heap.get?_push_of_some _ q)
theorem sz_item2 {z TI TO i1 i2 : Addr} {fp1 fp2 : List Addr} {n1 n2 : Nat} {P1 P2 : Nat → Value → Prop} {St1 St2 : Nat → Heap → Prop} {a1 a2 : Value} {Q : Value → Shared → Prop} (S : ZipSep2 z TI TO i1 i2 fp1 fp2) (D1 : Draws prog w A.in1 i1 fp1 n1 P1 St1) (D2 : Draws prog w A.in1 i2 fp2 n2 P2 St2)
    (hz : SZ s.heap z TI TO .none) (hI : IsTupOf2 s.heap TI (.ref i1) (.ref i2)) (hO : IsTupOf2 s.heap TO a1 a2) (t1 : St1 i s.heap) (t2 : St2 i s.heap) (l1 : i < n1) (l2 : i < n2)
    (hQ : ∀ x1 x2 h' tk, P1 i x1 → P2 i x2 → SZ h' z TI TO (rawInt s.heap.objs.size) → IsTupOf2 h' TO x1 x2 → St1 (i + 1) h' → St2 (i + 1) h' → IsTupOf2 h' s.heap.objs.size x1 x2 → h'.objs.size = s.heap.objs.size + 1 →
      (∀ c o, c ≠ z → c ≠ TO → c ≠ i1 → c ≠ i2 → s.heap.get? c = some o → h'.get? c = some o) → Q (.ref s.heap.objs.size) { s with heap := h', toks := tk }) :
    wpAny (model prog w) A (Builtin.«zip.__next__» ⟨[.ref z], []⟩) (fun fin s' => ∃ v, fin = .done (.ret v) ∧ Q v s') E s := by
  obtain ⟨hp, gg, dd, k0, os⟩ := s
  show wpAny (model prog w) A (do
    let u ← field (.ref z) 2
    _) _ _ _
  refine wpAny_bind (wpAny_field hz rfl (x := .bool true) rfl ?_)
  show wpAny (model prog w) A (do
    let u ← field (.ref z) 3
    _) _ _ _
  refine wpAny_bind (wpAny_field hz rfl (x := .ref TI) rfl (wpAny_bind (wpAny_seqItems hI rfl ?_)))
  show wpAny (model prog w) A (do
    let u ← Builtin.SmallTypes.ownedTupleIsFree (.ref z)
    _) _ _ _
  unfold Builtin.SmallTypes.ownedTupleIsFree
  refine wpAny_bind (wpAny_bind (wpAny_field hz rfl (x := .none) rfl (wpAny_pure ?_)))
  simp only [if_true]
  refine wpAny_bind (wpAny_rule (wpAny_bind (wpAny_field hz rfl (x := .ref TO) rfl (wpAny_bind (wpAny_setField_rec hz (by simp) fun b0 z0 c0 => ?_)))))
  replace z0 : SZ b0 z TI TO .ellipsis := z0
  replace c0 : Heap.SameBut z hp b0 := c0
  simp only [List.zipIdx_cons, List.zipIdx_nil, List.forIn_cons, List.forIn_nil]
  refine wpAny_bind ?_
  refine wpAny_bind (wpAny_bind (wpAny_onRaise ?_))
  show wpAny (model prog w) A (Builtin.SmallTypes.nextOrEnd (.ref i1)) _ _ ⟨b0, gg, dd, k0, os⟩
  refine nextOrEnd_item D1 l1 (D1.over t1 c0 S.zf1) fun x1 e1 k1 y1 u1 c1 => ?_
  replace c1 : Heap.SameBut i1 b0 e1 := c1
  have v1 : IsTupOf2 e1 TO a1 a2 := c1.extBut _ _ S.Ti1 (c0.extBut _ _ S.TOz hO)
  refine wpAny_bind (wpAny_seqItems (s := ⟨e1, gg, dd, k1, os⟩) v1 rfl (wpAny_bind (updateSeq_IsTupOf2 (s := ⟨e1, gg, dd, k1, os⟩) v1 fun b1 v1 d1 => ?_)))
  replace v1 : IsTupOf2 b1 TO x1 a2 := v1
  replace d1 : Heap.SameBut TO e1 b1 := d1
  refine wpAny_bind (wpAny_letGo (wpAny_pure ?_))
  refine wpAny_bind (wpAny_bind (wpAny_onRaise ?_))
  show wpAny (model prog w) A (Builtin.SmallTypes.nextOrEnd (.ref i2)) _ _ ⟨b1, gg, dd, k1, os⟩
  refine nextOrEnd_item D2 l2 (D2.over (D2.over (D2.over t2 c0 S.zf2) c1 S.sep1_2) d1 S.Tf2) fun x2 e2 k2 y2 u2 c2 => ?_
  replace c2 : Heap.SameBut i2 b1 e2 := c2
  have v2 : IsTupOf2 e2 TO x1 a2 := c2.extBut _ _ S.Ti2 (v1)
  refine wpAny_bind (wpAny_seqItems (s := ⟨e2, gg, dd, k2, os⟩) v2 rfl (wpAny_bind (updateSeq_IsTupOf2 (s := ⟨e2, gg, dd, k2, os⟩) v2 fun b2 v2 d2 => ?_)))
  replace v2 : IsTupOf2 b2 TO x1 x2 := v2
  replace d2 : Heap.SameBut TO e2 b2 := d2
  refine wpAny_bind (wpAny_letGo (wpAny_pure ?_))
  refine wpAny_pure ?_
  refine wpAny_bind (wpAny_seqItems (s := ⟨b2, gg, dd, k2, os⟩) v2 rfl (wpAny_bind (wpAny_newTuple ?_)))
  have hs : b2.objs.size = hp.objs.size := by rw [d2.1, c2.1, d1.1, c1.1, c0.1]
  have zz : SZ b2 z TI TO .ellipsis := d2.extBut _ _ S.TOz.symm (c2.extBut _ _ S.zi2 (d1.extBut _ _ S.TOz.symm (c1.extBut _ _ S.zi1 (z0))))
  have kk : ∀ c o, c ≠ z → c ≠ TO → c ≠ i1 → c ≠ i2 → hp.get? c = some o → b2.get? c = some o := fun c o qz qT q1 q2 q => d2.extBut _ _ qT (c2.extBut _ _ q2 (d1.extBut _ _ qT (c1.extBut _ _ q1 (c0.extBut _ _ qz q))))
  have w1 : St1 (i + 1) b2 := D1.over (D1.over (D1.over u1 d1 S.Tf1) c2 S.sep2_1) d2 S.Tf1
  have w2 : St2 (i + 1) b2 := D2.over u2 d2 S.Tf2
  have lz : z < b2.objs.size := Heap.lt_size zz
  show wpAny (model prog w) A (do
    let u ← Builtin.SmallTypes.ownedTupleHandOut (.ref z) (.ref b2.objs.size)
    _) _ _ ⟨b2.push { cls := .type "tuple", data := .seq #[x1, x2] }, gg, dd, k2, os⟩
  unfold Builtin.SmallTypes.ownedTupleHandOut
  have r0 : SZ (b2.push { cls := .type "tuple", data := .seq #[x1, x2] }) z TI TO .ellipsis := Heap.get?_push_of_some _ zz
  refine wpAny_bind (wpAny_bind (wpAny_setField_rec r0 (by simp) fun f1 r1 m1 => ?_))
  replace r1 : SZ f1 z TI TO (rawInt b2.objs.size) := r1
  refine wpAny_setField_rec r1 (by simp) fun f2 r2 m2 => ?_
  replace r2 : SZ f2 z TI TO (rawInt b2.objs.size) := r2
  replace m1 : Heap.SameBut z (b2.push { cls := .type "tuple", data := .seq #[x1, x2] }) f1 := m1
  replace m2 : Heap.SameBut z f1 f2 := m2
  have up : ∀ c o, c ≠ z → b2.get? c = some o → f2.get? c = some o := fun c o q e => m2.extBut _ _ q (m1.extBut _ _ q (Heap.get?_push_of_some _ e))
  have nw : IsTupOf2 f2 b2.objs.size x1 x2 := m2.extBut _ _ (Nat.ne_of_gt lz) (m1.extBut _ _ (Nat.ne_of_gt lz) (Heap.get?_push_size _ rfl))
  have ns : f2.objs.size = b2.objs.size + 1 := by rw [m2.1, m1.1, Heap.size_push]
  rw [hs] at r2 nw ns
  refine wpAny_pure ⟨_, rfl, ?_⟩
  show Q (.ref b2.objs.size) ⟨f2, gg, dd, k2, os⟩
  rw [hs]
  exact hQ x1 x2 f2 k2 y1 y2 r2 (up _ _ S.TOz v2) (D1.frame _ _ _ w1 fun c hc o e => up c o (fun q => S.zf1 (q ▸ hc)) e) (D2.frame _ _ _ w2 fun c hc o e => up c o (fun q => S.zf2 (q ▸ hc)) e) nw ns fun c o qz qT q1 q2 q => up c o qz (kk c o qz qT q1 q2 q)
theorem sz_end2 {z TI TO i1 i2 : Addr} {fp1 fp2 : List Addr} {n1 n2 : Nat} {P1 P2 : Nat → Value → Prop} {St1 St2 : Nat → Heap → Prop} {a1 a2 : Value} {Q : Fin → Shared → Prop} (hh : A.handled = none) (S : ZipSep2 z TI TO i1 i2 fp1 fp2) (D1 : Draws prog w A.in1 i1 fp1 n1 P1 St1) (D2 : Draws prog w A.in1 i2 fp2 n2 P2 St2)
    (hz : SZ s.heap z TI TO .none) (hI : IsTupOf2 s.heap TI (.ref i1) (.ref i2)) (hO : IsTupOf2 s.heap TO a1 a2) (t1 : St1 n1 s.heap) (t2 : St2 n2 s.heap)
    (hE : ∀ h' tk e, (∀ c o, c ≠ z → c ≠ TO → c ≠ i1 → c ≠ i2 → s.heap.get? c = some o → h'.get? c = some o) → (∃ o, h'.get? e = some o ∧ o.cls = .type "StopIteration") → E (.ref e) { s with heap := h', toks := tk }) :
    wpAny (model prog w) A (Builtin.«zip.__next__» ⟨[.ref z], []⟩) Q E s := by
  obtain ⟨hp, gg, dd, k0, os⟩ := s
  show wpAny (model prog w) A (do
    let u ← field (.ref z) 2
    _) _ _ _
  refine wpAny_bind (wpAny_field hz rfl (x := .bool true) rfl ?_)
  show wpAny (model prog w) A (do
    let u ← field (.ref z) 3
    _) _ _ _
  refine wpAny_bind (wpAny_field hz rfl (x := .ref TI) rfl (wpAny_bind (wpAny_seqItems hI rfl ?_)))
  show wpAny (model prog w) A (do
    let u ← Builtin.SmallTypes.ownedTupleIsFree (.ref z)
    _) _ _ _
  unfold Builtin.SmallTypes.ownedTupleIsFree
  refine wpAny_bind (wpAny_bind (wpAny_field hz rfl (x := .none) rfl (wpAny_pure ?_)))
  simp only [if_true]
  refine wpAny_bind (wpAny_rule (wpAny_bind (wpAny_field hz rfl (x := .ref TO) rfl (wpAny_bind (wpAny_setField_rec hz (by simp) fun b0 z0 c0 => ?_)))))
  replace z0 : SZ b0 z TI TO .ellipsis := z0
  replace c0 : Heap.SameBut z hp b0 := c0
  simp only [List.zipIdx_cons, List.zipIdx_nil, List.forIn_cons, List.forIn_nil]
  refine wpAny_bind (wpAny_bind (wpAny_bind (wpAny_onRaise ?_)))
  show wpAny (model prog w) A (Builtin.SmallTypes.nextOrEnd (.ref i1)) _ _ ⟨b0, gg, dd, k0, os⟩
  refine nextOrEnd_end D1 (D1.over t1 c0 S.zf1) fun e1 c1 => ?_
  replace c1 : Heap.ExtBut i1 b0 e1 := c1
  have q0 : SZ e1 z TI TO .ellipsis := c1 _ _ S.zi1 z0
  refine wpAny_bind (wpAny_setField_rec (s := ⟨e1, gg, dd, k0, os⟩) q0 (by simp) fun b1 q1 d1 => ?_)
  replace d1 : Heap.SameBut z e1 b1 := d1
  refine wpAny_bind (wpAny_bind ?_)
  simp only [List.drop_succ_cons, List.drop_zero, List.zipIdx_cons, List.zipIdx_nil, List.forIn_cons, List.forIn_nil]
  refine wpAny_bind (wpAny_bind (nextOrEnd_end (s := ⟨b1, gg, dd, k0, os⟩) D2 (D2.over (D2.frame _ _ _ (D2.over t2 c0 S.zf2) fun c hc o q => c1 c o (fun r => S.sep1_2 (r ▸ hc)) q) d1 S.zf2) fun e2 c2 => ?_))
  replace c2 : Heap.ExtBut i2 b1 e2 := c2
  refine wpAny_pure ?_
  refine wpAny_pure (wpAny_bind (wpAny_rule (stop_all (s := ⟨e2, gg, dd, k0, os⟩) hh fun h' e up he => ?_)))
  exact hE h' k0 e (fun c o qz qT q1 q2 q => up c o (c2 _ _ q2 (d1.extBut _ _ qz (c1 _ _ q1 (c0.extBut _ _ qz q))))) he
end
end Fo
/-! Zip2: zip of two, of three (lists, tuples, texts), strict or not: the walk. Printed by zipgen2.py. -/
namespace Fo
open PySem PySem.Spec PyProof.Rows L2
theorem vals_back {xs : List V} {us : List Value} {i : Nat} {u : Value} (r : Vals xs us) (h : us[i]? = some u) : ∃ x, xs[i]? = some x ∧ RelV x u := by
  have hl : i < xs.length := by rw [r.length]; exact (List.getElem?_eq_some_iff.mp h).1
  obtain ⟨u2, e, q⟩ := r.get (List.getElem?_eq_getElem hl)
  rw [h] at e
  cases e
  exact ⟨_, List.getElem?_eq_getElem hl, q⟩
theorem neA {a b : Nat} (h : a ≠ b) : @Ne Addr a b := h
/-- what is zipped -/
inductive Sc where
  | l (a : Addr)
  | t (a : Addr)
  | s (z : Str)
def Sc.v : Sc → V
  | .l a => .ref a
  | .t a => .ref a
  | .s z => .str z
def Sc.has (K : PySem.W.Frag) (H : Hp) : Sc → List V → Prop
  | .l a, xs => SqL K H a xs
  | .t a, xs => SqT K H a xs
  | .s z, xs => xs = z.cps.toList.map fun c => V.str ⟨#[c]⟩
def Sc.at_ : Sc → Addr → Nat → Heap → Prop
  | .l a, it, i, h => h.IsListIter it a i
  | .t a, it, i, h => h.IsTupleIter it a i
  | .s z, it, i, h => ∃ u, h.IsStrIter it (strIterType z) z u i
def Sc.src : Sc → Addr → Prop
  | .l a, b => b = a
  | .t a, b => b = a
  | .s _, _ => False
/-- what iter(..) makes of it -/
def Sc.ob : Sc → Value → Obj
  | .l a, _ => { cls := .type "list_iterator", data := .fields #[.ref a, .int 0 0] }
  | .t a, _ => { cls := .type "tuple_iterator", data := .fields #[.ref a, .int 0 0] }
  | .s z, v => { cls := .type (strIterType z), data := .fields #[v, .int 0 0] }
theorem Sc.at_keep {c : Sc} {it : Addr} {i : Nat} {h h' : Heap} (st : c.at_ it i h) (k : ∀ o, h.get? it = some o → h'.get? it = some o) : c.at_ it i h' := by
  cases c with
  | l a => exact Heap.IsListIter.at st k
  | t a => exact Heap.IsTupleIter.at st k
  | s z =>
    obtain ⟨u, o, e, r⟩ := st
    exact ⟨u, o, k o e, r⟩
theorem Sc.at_obj {c : Sc} {it : Addr} {i : Nat} {h : Heap} (st : c.at_ it i h) : ∃ o, h.get? it = some o ∧ ∀ v, o.data ≠ .cell v := by
  cases c with
  | l a =>
    obtain ⟨o, e, _, d⟩ := st
    exact ⟨o, e, fun v z => by rw [d] at z; cases z⟩
  | t a =>
    obtain ⟨o, e, _, d⟩ := st
    exact ⟨o, e, fun v z => by rw [d] at z; cases z⟩
  | s z =>
    obtain ⟨u, o, e, _, d⟩ := st
    exact ⟨o, e, fun v q => by rw [d] at q; cases q⟩
section
variable {X : Cx} {pins : List (Addr × Obj)} {σ : L2.St} {H : Hp} {s : Shared} {xs : List V}
theorem Sc.draw (I : Inv X pins σ H s) {c : Sc} (hx : c.has X.K H xs) {it : Addr} {i : Nat} (st : c.at_ it i s.heap) (hm : ∀ b, c.src b → b ≠ it) (A : Around) (hh : A.handled = none) :
    ∃ (fp : List Addr) (P : Nat → Value → Prop) (St : Nat → Heap → Prop), Draws X.prog X.w A it fp xs.length P St ∧ St i s.heap ∧ (∀ j v, P j v → ∃ x, xs[j]? = some x ∧ RelV x v) ∧ (∀ j h, St j h → c.at_ it j h) ∧
      it ∈ fp ∧ ∀ b ∈ fp, b = it ∨ c.src b := by
  cases c with
  | l a =>
    obtain ⟨its, rv, p, _⟩ := I.list hx
    have D := Draws.list (prog := X.prog) (w := X.w) hh it a (hm a rfl) its.toArray
    rw [List.size_toArray, ← rv.length] at D
    refine ⟨_, _, _, D, ⟨st, p.isList⟩, fun j v q => ?_, fun j h q => q.1, by simp, fun b hb => by simpa [Sc.src] using hb⟩
    obtain ⟨x, e, r⟩ := vals_back rv (show its[j]? = some v by simpa using q)
    exact ⟨x, e, r⟩
  | t a =>
    obtain ⟨its, rv, p, _⟩ := I.tuple hx
    have D := Draws.tuple (prog := X.prog) (w := X.w) hh it a (hm a rfl) its.toArray
    rw [List.size_toArray, ← rv.length] at D
    refine ⟨_, _, _, D, ⟨st, show s.heap.IsTuple a its.toArray from p⟩, fun j v q => ?_, fun j h q => q.1, by simp, fun b hb => by simpa [Sc.src] using hb⟩
    obtain ⟨x, e, r⟩ := vals_back rv (show its[j]? = some v by simpa using q)
    exact ⟨x, e, r⟩
  | s z =>
    obtain ⟨u, st⟩ := st
    have hx : xs = z.cps.toList.map fun c => V.str ⟨#[c]⟩ := hx
    subst hx
    have D := Draws.text (prog := X.prog) (w := X.w) hh it z u
    rw [show z.cps.size = (z.cps.toList.map fun c => V.str ⟨#[c]⟩).length by simp] at D
    refine ⟨_, _, _, D, st, fun j v q => ?_, fun j h q => ⟨u, q⟩, by simp, fun b hb => by simpa [Sc.src] using hb⟩
    obtain ⟨c, u2, e, rfl⟩ := q
    exact ⟨.str ⟨#[c]⟩, by simp [e], u2, rfl⟩
theorem Sc.inj (I : Inv X pins σ H s) {c : Sc} {ys : List V} (h1 : c.has X.K H xs) (h2 : c.has X.K H ys) : xs = ys := by
  cases c with
  | l a => exact I.list_inj h1 h2
  | t a => exact I.tuple_inj h1 h2
  | s z => exact Eq.trans (show xs = _ from h1) (Eq.symm (show ys = _ from h2))
end
abbrev ZR (h : Heap) (z TI TO : Addr) (f0 : Value) (b : Bool) : Prop :=
  h.get? z = some { cls := .type "zip", dict := none, data := .fields #[f0, .bool false, .bool b, .ref TI, .ref TO], slots := #[] }
section
variable {prog : Program} {w : World} {A : Around} {E : Value → Shared → Prop} {s : Shared} {z TI TO T : Addr} {b : Bool} {f0 : Value}
theorem go_zr {elts : List Expr} {n : Nat} {pos : Pos} {Q : Unit → Shared → Prop} (hz : ZR s.heap z TI TO (rawInt T) b) (hQ : ∀ h', ZR h' z TI TO .none b → Heap.SameBut z s.heap h' → Q () { s with heap := h' }) :
    wpAny (model prog w) A (letOwnedTupleGo (.Tuple elts n pos) (.ref z) (.ref T)) Q E s := by
  unfold letOwnedTupleGo
  refine wpAny_bind (wpAny_load hz ?_)
  have e : (["enumerate", "zip", "dict_itemiterator", "dict_reverseitemiterator", "odict_iterator", "itertools.zip_longest", "itertools.pairwise"].contains "zip" && (#[rawInt T, .bool false, .bool b, .ref TI, .ref TO] : Array Value)[0]? == some (rawInt T)) = true := by simp
  show wpAny (model prog w) A (if (List.contains _ "zip" && (#[rawInt T, .bool false, .bool b, .ref TI, .ref TO] : Array Value)[0]? == some (rawInt T)) = true then _ else _) Q E s
  rw [if_pos e]
  refine wpAny_bind (wpAny_rule ?_)
  exact wpAny_setField_rec hz (by simp) fun h' q sb => hQ h' q sb
theorem iter_zr {Q : Value → Shared → Prop} (hz : ZR s.heap z TI TO f0 b) (h : Q (.ref z) s) : wpAny (model prog w) A (pyIter (.ref z)) Q E s := by
  have T : s.TypeIs (.ref z) "zip" := ⟨_, hz, rfl⟩
  refine wpAny_pyIter_slot T F.slot_zip_iter (wpAny_call_entry F.slot_zip_iter T F.entry_zip_iter (?_ : wpAny (model prog w) _ (ret (.ref z)) _ _ s) (F.args_zip_iter_1 _))
  exact wpAny_pure ⟨_, rfl, "zip", _, T, F.slot_zip_next.lookup, h⟩
theorem next_zr {Q : Option Value → Shared → Prop} (hz : ZR s.heap z TI TO f0 b)
    (h : wpAny (model prog w) A.in1 (Builtin.«zip.__next__» ⟨[.ref z], []⟩) (fun fin s' => ∃ v, fin = .done (.ret v) ∧ Q (some v) s') (fun e s' => (∃ a, e = .ref a ∧ ∃ o, s'.heap.get? a = some o ∧ o.cls = .type "StopIteration") ∧ Q none s') s) : wpAny (model prog w) A (pyNext (.ref z)) Q E s := by
  have T : s.TypeIs (.ref z) "zip" := ⟨_, hz, rfl⟩
  unfold pyNext
  refine wpAny_bind (wpAny_attempt (wpAny_callSpecial?_slot (name := Str.ofString "__next__") T F.slot_zip_next (wpAny_call_entry F.slot_zip_next T F.entry_zip_next (wpAny_mono h (fun fin s' q => ?_) fun e s' q => ?_) (F.args_zip_next_1 _))))
  · obtain ⟨v, rfl, q⟩ := q
    exact ⟨v, rfl, wpAny_pure q⟩
  · obtain ⟨⟨a, rfl, o, e1, e2⟩, q⟩ := q
    exact wpAny_bind (wpAny_isInstance (T := "StopIteration") (b := true) ⟨o, e1, e2⟩ isSubtype_stop (wpAny_pure q))
end
/-- 2 things as they stand at each turn, the items in new tuples -/
def ItZ2 (K : PySem.W.Frag) (b : Bool) (c1 c2 : Sc) : It :=
  ⟨fun i H => ∃ (xs1 xs2 : List V) (x1 x2 : V), c1.has K H xs1 ∧ c2.has K H xs2 ∧ xs1[i]? = some x1 ∧ xs2[i]? = some x2,
    fun i H v H' => ∃ (T : Addr) (x1 x2 : V), v = .ref T ∧ H T = none ∧ H' = upd H T (.tup [x1, x2]) ∧ (∀ xs, c1.has K H xs → xs[i]? = some x1) ∧ (∀ xs, c2.has K H xs → xs[i]? = some x2),
    fun i H => ∃ (xs1 xs2 : List V), c1.has K H xs1 ∧ c2.has K H xs2 ∧ i ≤ xs1.length ∧ i ≤ xs2.length ∧ (i = xs1.length ∨ i = xs2.length) ∧ (b = true → i = xs1.length ∧ i = xs2.length)⟩
theorem turn_zz2 {P : Program} {w : World} {K : PySem.W.Frag} {elts : List Expr} {kk : Nat} {tpos : Pos} (b : Bool) (c1 c2 : Sc) (m : Nat) (lo1 : ∀ a, c1.src a → a < m) (lo2 : ∀ a, c2.src a → a < m) :
    Turn P w K (.Tuple elts kk tpos) (ItZ2 K b c1 c2) [m + 4, m + 2, m + 3, m, m + 1] (m + 4) (fun i h => ZR h (m + 4) (m + 2) (m + 3) .none b ∧ IsTupOf2 h (m + 2) (.ref m) (.ref (m + 1)) ∧ (∃ y1 y2, IsTupOf2 h (m + 3) y1 y2) ∧ c1.at_ m i h ∧ c2.at_ (m + 1) i h) where
  mem := by simp
  obj := fun i h st c hc => by
    obtain ⟨hz, hI, ⟨y1, y2, hO⟩, t1, t2⟩ := st
    have e : c = m + 4 ∨ c = m + 2 ∨ c = m + 3 ∨ c = m ∨ c = m + 1 := by simpa using hc
    rcases e with rfl | rfl | rfl | rfl | rfl
    · exact ⟨_, hz, fun v q => (by cases q)⟩
    · exact ⟨_, hI, fun v q => (by cases q)⟩
    · exact ⟨_, hO, fun v q => (by cases q)⟩
    · exact Sc.at_obj t1
    · exact Sc.at_obj t2
  keep := fun i h h' st k => by
    obtain ⟨hz, hI, ⟨y1, y2, hO⟩, t1, t2⟩ := st
    exact ⟨k _ (by simp) _ hz, k _ (by simp) _ hI, ⟨y1, y2, k _ (by simp) _ hO⟩, Sc.at_keep t1 fun o q => k _ (by simp) o q, Sc.at_keep t2 fun o q => k _ (by simp) o q⟩
  item := by
    intro X hP hw hK hc i pins s σ H E I hf st hg
    subst hP hw hK
    obtain ⟨hz, hI, ⟨y1, y2, hO⟩, t1, t2⟩ := st
    obtain ⟨xs1, xs2, x1, x2, hx1, hx2, hi1, hi2⟩ := hg
    have hh0 : X.A.handled = none := I.ok.hd hc
    have hh1 : X.A.in1.handled = none := hh0
    have hh2 : X.A.in1.in1.handled = none := hh0
    refine next_zr hz ?_
    cases b with
    | false =>
      obtain ⟨fp1, P1, St1, D1, st1, px1, pa1, pm1, pf1⟩ := Sc.draw I hx1 t1 (fun a ha => Nat.ne_of_lt (Nat.lt_of_lt_of_le (lo1 a ha) (by omega))) X.A.in1 hh1
      have nf1 : ∀ q, m ≤ q → q ≠ m → q ∉ fp1 := fun q h1 h2 h3 => by
        rcases pf1 q h3 with e | e
        · exact h2 e
        · exact absurd (lo1 q e) (Nat.not_lt_of_le h1)
      obtain ⟨fp2, P2, St2, D2, st2, px2, pa2, pm2, pf2⟩ := Sc.draw I hx2 t2 (fun a ha => Nat.ne_of_lt (Nat.lt_of_lt_of_le (lo2 a ha) (by omega))) X.A.in1 hh1
      have nf2 : ∀ q, m ≤ q → q ≠ (m + 1) → q ∉ fp2 := fun q h1 h2 h3 => by
        rcases pf2 q h3 with e | e
        · exact h2 e
        · exact absurd (lo2 q e) (Nat.not_lt_of_le h1)
      have S : ZipSep2 (m + 4) (m + 2) (m + 3) m (m + 1) fp1 fp2 := ⟨neA (by omega), neA (by omega), neA (by omega), neA (by omega), pm1, nf1 _ (by omega) (by omega), nf1 _ (by omega) (by omega), neA (by omega), pm2, nf2 _ (by omega) (by omega), nf2 _ (by omega) (by omega), nf2 _ (by omega) (by omega), nf1 _ (by omega) (by omega)⟩
      refine wpAny_mono (zipD2_next_item (E := fun _ _ => False) S D1 D2 hz hI hO st1 st2 (List.getElem?_eq_some_iff.mp hi1).1 (List.getElem?_eq_some_iff.mp hi2).1 fun w1 w2 h' tk p1 p2 z1 o1 s1 s2 nw ns up => ?_) (fun fin s' q => q) fun e s' q => ?_
      rotate_left
      · exact (q : False).elim
      obtain ⟨v1, e1, r1⟩ := px1 _ _ p1
      rw [hi1] at e1
      cases e1
      obtain ⟨v2, e2, r2⟩ := px2 _ _ p2
      rw [hi2] at e2
      cases e2
      have hl : m + 4 < s.heap.objs.size := Heap.lt_size hz
      have old : ∀ c o, c ∉ [m + 4, m + 2, m + 3, m, m + 1] → s.heap.get? c = some o → h'.get? c = some o := fun c o q e => up c o (fun r => q (by simp [r])) (fun r => q (by simp [r])) (fun r => q (by simp [r])) (fun r => q (by simp [r])) e
      refine ⟨_, rfl, go_zr z1 fun h2 z2 sb => ?_⟩
      have nw2 : h2.get? s.heap.objs.size = some { cls := .type "tuple", data := .seq #[w1, w2] } := (sb.2 _ (Nat.ne_of_gt hl)).trans nw
      have new : ObjOk X.prog X.w (upd H s.heap.objs.size (.tup [x1, x2])) h2 s.heap.objs.size (.tup [x1, x2]) :=
        ⟨(by show 2 ≤ sizeLine; decide), [w1, w2], .cons r1 (.cons r2 (.nil)), ⟨_, nw2, rfl, _, rfl⟩⟩
      have I1 : Inv X pins σ (upd H s.heap.objs.size (.tup [x1, x2])) { s with heap := h2, toks := tk } :=
        I.turnedNew (ch := [m + 4, m + 2, m + 3, m, m + 1]) (fun c o q e => (sb.2 c (fun r => q (by simp [r]))).trans (old c o q e)) hf (Nat.le_refl _) new
      refine ⟨.ref s.heap.objs.size, _, I1, rfl, ⟨_, x1, x2, rfl, I.hok.fresh (Nat.le_refl _), rfl, (fun l hl2 => by rw [Sc.inj I hl2 hx1]; exact hi1), (fun l hl2 => by rw [Sc.inj I hl2 hx2]; exact hi2)⟩, ⟨z2, ?_, ⟨w1, w2, ?_⟩, Sc.at_keep (pa1 _ _ s1) fun o q => (sb.2 _ (neA (by omega))).trans q, Sc.at_keep (pa2 _ _ s2) fun o q => (sb.2 _ (neA (by omega))).trans q⟩, fun c hcm => ?_⟩
      · exact (sb.2 _ (neA (by omega))).trans (up _ _ (neA (by omega)) (neA (by omega)) (neA (by omega)) (neA (by omega)) hI)
      · exact (sb.2 _ (neA (by omega))).trans o1
      · have lt : c < s.heap.objs.size := by
          have e : c = m + 4 ∨ c = m + 2 ∨ c = m + 3 ∨ c = m ∨ c = m + 1 := by simpa using hcm
          rcases e with rfl | rfl | rfl | rfl | rfl <;> exact Nat.lt_of_le_of_lt (by omega) hl
        rw [upd_ne (Nat.ne_of_lt lt)]
        exact (hf c hcm).1
    | true =>
      obtain ⟨fp1, P1, St1, D1, st1, px1, pa1, pm1, pf1⟩ := Sc.draw I hx1 t1 (fun a ha => Nat.ne_of_lt (Nat.lt_of_lt_of_le (lo1 a ha) (by omega))) X.A.in1.in1 hh2
      have nf1 : ∀ q, m ≤ q → q ≠ m → q ∉ fp1 := fun q h1 h2 h3 => by
        rcases pf1 q h3 with e | e
        · exact h2 e
        · exact absurd (lo1 q e) (Nat.not_lt_of_le h1)
      obtain ⟨fp2, P2, St2, D2, st2, px2, pa2, pm2, pf2⟩ := Sc.draw I hx2 t2 (fun a ha => Nat.ne_of_lt (Nat.lt_of_lt_of_le (lo2 a ha) (by omega))) X.A.in1.in1 hh2
      have nf2 : ∀ q, m ≤ q → q ≠ (m + 1) → q ∉ fp2 := fun q h1 h2 h3 => by
        rcases pf2 q h3 with e | e
        · exact h2 e
        · exact absurd (lo2 q e) (Nat.not_lt_of_le h1)
      have S : ZipSep2 (m + 4) (m + 2) (m + 3) m (m + 1) fp1 fp2 := ⟨neA (by omega), neA (by omega), neA (by omega), neA (by omega), pm1, nf1 _ (by omega) (by omega), nf1 _ (by omega) (by omega), neA (by omega), pm2, nf2 _ (by omega) (by omega), nf2 _ (by omega) (by omega), nf2 _ (by omega) (by omega), nf1 _ (by omega) (by omega)⟩
      refine wpAny_mono (sz_item2 (E := fun _ _ => False) S D1 D2 hz hI hO st1 st2 (List.getElem?_eq_some_iff.mp hi1).1 (List.getElem?_eq_some_iff.mp hi2).1 fun w1 w2 h' tk p1 p2 z1 o1 s1 s2 nw ns up => ?_) (fun fin s' q => q) fun e s' q => ?_
      rotate_left
      · exact (q : False).elim
      obtain ⟨v1, e1, r1⟩ := px1 _ _ p1
      rw [hi1] at e1
      cases e1
      obtain ⟨v2, e2, r2⟩ := px2 _ _ p2
      rw [hi2] at e2
      cases e2
      have hl : m + 4 < s.heap.objs.size := Heap.lt_size hz
      have old : ∀ c o, c ∉ [m + 4, m + 2, m + 3, m, m + 1] → s.heap.get? c = some o → h'.get? c = some o := fun c o q e => up c o (fun r => q (by simp [r])) (fun r => q (by simp [r])) (fun r => q (by simp [r])) (fun r => q (by simp [r])) e
      refine ⟨_, rfl, go_zr z1 fun h2 z2 sb => ?_⟩
      have nw2 : h2.get? s.heap.objs.size = some { cls := .type "tuple", data := .seq #[w1, w2] } := (sb.2 _ (Nat.ne_of_gt hl)).trans nw
      have new : ObjOk X.prog X.w (upd H s.heap.objs.size (.tup [x1, x2])) h2 s.heap.objs.size (.tup [x1, x2]) :=
        ⟨(by show 2 ≤ sizeLine; decide), [w1, w2], .cons r1 (.cons r2 (.nil)), ⟨_, nw2, rfl, _, rfl⟩⟩
      have I1 : Inv X pins σ (upd H s.heap.objs.size (.tup [x1, x2])) { s with heap := h2, toks := tk } :=
        I.turnedNew (ch := [m + 4, m + 2, m + 3, m, m + 1]) (fun c o q e => (sb.2 c (fun r => q (by simp [r]))).trans (old c o q e)) hf (Nat.le_refl _) new
      refine ⟨.ref s.heap.objs.size, _, I1, rfl, ⟨_, x1, x2, rfl, I.hok.fresh (Nat.le_refl _), rfl, (fun l hl2 => by rw [Sc.inj I hl2 hx1]; exact hi1), (fun l hl2 => by rw [Sc.inj I hl2 hx2]; exact hi2)⟩, ⟨z2, ?_, ⟨w1, w2, ?_⟩, Sc.at_keep (pa1 _ _ s1) fun o q => (sb.2 _ (neA (by omega))).trans q, Sc.at_keep (pa2 _ _ s2) fun o q => (sb.2 _ (neA (by omega))).trans q⟩, fun c hcm => ?_⟩
      · exact (sb.2 _ (neA (by omega))).trans (up _ _ (neA (by omega)) (neA (by omega)) (neA (by omega)) (neA (by omega)) hI)
      · exact (sb.2 _ (neA (by omega))).trans o1
      · have lt : c < s.heap.objs.size := by
          have e : c = m + 4 ∨ c = m + 2 ∨ c = m + 3 ∨ c = m ∨ c = m + 1 := by simpa using hcm
          rcases e with rfl | rfl | rfl | rfl | rfl <;> exact Nat.lt_of_le_of_lt (by omega) hl
        rw [upd_ne (Nat.ne_of_lt lt)]
        exact (hf c hcm).1
  done := by
    intro X hP hw hK hc i pins s σ H E I hf st hg
    subst hP hw hK
    obtain ⟨hz, hI, ⟨y1, y2, hO⟩, t1, t2⟩ := st
    obtain ⟨xs1, xs2, hx1, hx2, hi1, hi2, he, hs⟩ := hg
    have hh0 : X.A.handled = none := I.ok.hd hc
    have hh1 : X.A.in1.handled = none := hh0
    have hh2 : X.A.in1.in1.handled = none := hh0
    refine next_zr hz ?_
    cases b with
    | false =>
      obtain ⟨fp1, P1, St1, D1, st1, px1, pa1, pm1, pf1⟩ := Sc.draw I hx1 t1 (fun a ha => Nat.ne_of_lt (Nat.lt_of_lt_of_le (lo1 a ha) (by omega))) X.A.in1 hh1
      have nf1 : ∀ q, m ≤ q → q ≠ m → q ∉ fp1 := fun q h1 h2 h3 => by
        rcases pf1 q h3 with e | e
        · exact h2 e
        · exact absurd (lo1 q e) (Nat.not_lt_of_le h1)
      obtain ⟨fp2, P2, St2, D2, st2, px2, pa2, pm2, pf2⟩ := Sc.draw I hx2 t2 (fun a ha => Nat.ne_of_lt (Nat.lt_of_lt_of_le (lo2 a ha) (by omega))) X.A.in1 hh1
      have nf2 : ∀ q, m ≤ q → q ≠ (m + 1) → q ∉ fp2 := fun q h1 h2 h3 => by
        rcases pf2 q h3 with e | e
        · exact h2 e
        · exact absurd (lo2 q e) (Nat.not_lt_of_le h1)
      have S : ZipSep2 (m + 4) (m + 2) (m + 3) m (m + 1) fp1 fp2 := ⟨neA (by omega), neA (by omega), neA (by omega), neA (by omega), pm1, nf1 _ (by omega) (by omega), nf1 _ (by omega) (by omega), neA (by omega), pm2, nf2 _ (by omega) (by omega), nf2 _ (by omega) (by omega), nf2 _ (by omega) (by omega), nf1 _ (by omega) (by omega)⟩
      exact zipD2_next_end S D1 D2 hz hI hO st1 st2 hi1 hi2 he (fun h' tk e up he => ⟨⟨e, rfl, he⟩, rfl, I.turnedL (ch := [m + 4, m + 2, m + 3, m, m + 1]) (fun c o q e => up c o (fun r => q (by simp [r])) (fun r => q (by simp [r])) (fun r => q (by simp [r])) (fun r => q (by simp [r])) e) hf⟩)
    | true =>
      obtain ⟨fp1, P1, St1, D1, st1, px1, pa1, pm1, pf1⟩ := Sc.draw I hx1 t1 (fun a ha => Nat.ne_of_lt (Nat.lt_of_lt_of_le (lo1 a ha) (by omega))) X.A.in1.in1 hh2
      have nf1 : ∀ q, m ≤ q → q ≠ m → q ∉ fp1 := fun q h1 h2 h3 => by
        rcases pf1 q h3 with e | e
        · exact h2 e
        · exact absurd (lo1 q e) (Nat.not_lt_of_le h1)
      obtain ⟨fp2, P2, St2, D2, st2, px2, pa2, pm2, pf2⟩ := Sc.draw I hx2 t2 (fun a ha => Nat.ne_of_lt (Nat.lt_of_lt_of_le (lo2 a ha) (by omega))) X.A.in1.in1 hh2
      have nf2 : ∀ q, m ≤ q → q ≠ (m + 1) → q ∉ fp2 := fun q h1 h2 h3 => by
        rcases pf2 q h3 with e | e
        · exact h2 e
        · exact absurd (lo2 q e) (Nat.not_lt_of_le h1)
      have S : ZipSep2 (m + 4) (m + 2) (m + 3) m (m + 1) fp1 fp2 := ⟨neA (by omega), neA (by omega), neA (by omega), neA (by omega), pm1, nf1 _ (by omega) (by omega), nf1 _ (by omega) (by omega), neA (by omega), pm2, nf2 _ (by omega) (by omega), nf2 _ (by omega) (by omega), nf2 _ (by omega) (by omega), nf1 _ (by omega) (by omega)⟩
      obtain ⟨g1, g2⟩ := hs rfl
      exact sz_end2 hh1 S D1 D2 hz hI hO (by rw [← g1]; exact st1) (by rw [← g2]; exact st2) (fun h' tk e up he => ⟨⟨e, rfl, he⟩, rfl, I.turnedL (ch := [m + 4, m + 2, m + 3, m, m + 1]) (fun c o q e => up c o (fun r => q (by simp [r])) (fun r => q (by simp [r])) (fun r => q (by simp [r])) (fun r => q (by simp [r])) e) hf⟩)
  self := fun A i s Q E st h => iter_zr st.1 h
end Fo
/-! Zip3: zip: the rules, the mirrors. Printed by zipgen3.py. -/
namespace Fo
open PySem PySem.Spec PyProof.Rows L2
theorem Sc.begins {X : Cx} {pins : List (Addr × Obj)} {σ : L2.St} {H : Hp} {s : Shared} {xs : List V} (I : Inv X pins σ H s) {c : Sc} (hx : c.has X.K H xs) {u : Value} (r : RelV c.v u) :
    ∃ G : Heap → Prop, Begins u (c.ob u) G ∧ G s.heap ∧ (∀ b, c.src b → b < s.heap.objs.size) ∧ ∀ (h : Heap) (it : Addr), h.get? it = some (c.ob u) → c.at_ it 0 h := by
  cases c with
  | l a =>
    obtain ⟨its, rv, p, _⟩ := I.list hx
    obtain rfl : u = Value.ref a := r
    refine ⟨_, begins_list a its.toArray, p.isList, fun b e => ?_, fun h it e => ⟨_, e, rfl, rfl⟩⟩
    obtain ⟨o, _, q, _⟩ := p
    rw [show b = a from e]
    exact Heap.lt_size q
  | t a =>
    obtain ⟨its, rv, p, _⟩ := I.tuple hx
    obtain rfl : u = Value.ref a := r
    have p2 : s.heap.IsTuple a its.toArray := p
    refine ⟨_, begins_tuple a its.toArray, p2, fun b e => ?_, fun h it e => ⟨_, e, rfl, rfl⟩⟩
    obtain ⟨o, q, _⟩ := p2
    rw [show b = a from e]
    exact Heap.lt_size q
  | s z =>
    obtain ⟨t, rfl⟩ : ∃ t, u = Value.str z t := r
    exact ⟨_, begins_text z t, trivial, fun b e => False.elim e, fun h it e => ⟨t, _, e, rfl, rfl⟩⟩
def tiZ2 (K : PySem.W.Frag) (b : Bool) (t : TA) : TI := fun σ H R => t σ H fun vs H1 => ∃ c1 c2 : Sc, vs = [c1.v, c2.v] ∧ (∃ xs, c1.has K H1 xs) ∧ (∃ xs, c2.has K H1 xs) ∧ R (ItZ2 K b c1 c2) H1
/-- a call of zip begins its walk -/
theorem begun2 {X : Cx} {pins : List (Addr × Obj)} {σ : L2.St} {H1 : Hp} {s1 : Shared} {R : It → Hp → Prop} {elts : List Expr} {kk : Nat} {tpos : Pos} (b : Bool) {c1 c2 : Sc} (I1 : Inv X pins σ H1 s1) (lo1 : ∀ a, c1.src a → a < s1.heap.objs.size) (lo2 : ∀ a, c2.src a → a < s1.heap.objs.size) {h' : Heap}
    (z : ZR h' (s1.heap.objs.size + 4) (s1.heap.objs.size + 2) (s1.heap.objs.size + 3) .none b) (zi : IsTupOf2 h' (s1.heap.objs.size + 2) (.ref s1.heap.objs.size) (.ref (s1.heap.objs.size + 1))) (zo : IsTupOf2 h' (s1.heap.objs.size + 3) .none .none) (a1 : c1.at_ s1.heap.objs.size 0 h') (a2 : c2.at_ (s1.heap.objs.size + 1) 0 h') (up : ∀ c o, s1.heap.get? c = some o → h'.get? c = some o)
    (q : R (ItZ2 X.K b c1 c2) H1) : PIE X pins σ (.Tuple elts kk tpos) R (.ref (s1.heap.objs.size + 4)) { s1 with heap := h' } := by
  have I2 : Inv X pins σ H1 { s1 with heap := h' } := I1.kept (t' := s1.toks) up
  refine ⟨_, _, _, _, H1, rfl, I2, turn_zz2 b c1 c2 s1.heap.objs.size lo1 lo2, ⟨z, zi, ⟨_, _, zo⟩, a1, a2⟩, fun c hc => ?_, q⟩
  have ge : s1.heap.objs.size ≤ c := by
    have e : c = s1.heap.objs.size + 4 ∨ c = s1.heap.objs.size + 2 ∨ c = s1.heap.objs.size + 3 ∨ c = s1.heap.objs.size ∨ c = s1.heap.objs.size + 1 := by simpa using hc
    rcases e with rfl | rfl | rfl | rfl | rfl <;> first | exact Nat.le_refl _ | exact Nat.le_add_right _ _
  exact I1.fpOk ge (I1.hok.fresh ge)
theorem vals2 {x1 x2 : V} {us : List Value} (r : Vals [x1, x2] us) : ∃ u1 u2 : Value, us = [u1, u2] ∧ RelV x1 u1 ∧ RelV x2 u2 := by
  cases r with
  | cons a1 r => 
    cases r with
    | cons a2 r => 
      cases r
      exact ⟨_, _, rfl, a1, a2⟩
theorem pi_zz2 {X : Cx} {e1 e2 : Expr} {ta : TA} {p pos tpos : Pos} {elts : List Expr} {kk : Nat} (hg : Gl X "zip") (hm : X.mg "zip" = none) (ha : PA X [e1, e2] ta)
    (hs : starEach [e1, e2] X.env = (false, eval e1 X.env) :: starEach [e2] X.env := by rfl) (hpl : (backTo pos (starEach [e2] X.env)).any (·.1) = false := by rfl) :
    PI X (.Tuple elts kk tpos) (.Call (.Name "zip" p) [e1, e2] [] pos) (tiZ2 X.K false ta) := by
  refine ⟨fun pins s σ H R I h => Call_ (ld_blt I hg hm PyProof.Rows.boot_zip (PyProof.Rows.callWith_type1 (thn (ha.run pos pins s σ H _ I h) fun us s1 h1 => ?_) hs hpl))⟩
  obtain ⟨vs, H1, I1, r1, q1⟩ := h1
  obtain ⟨c1, c2, ev, ⟨xs1, hx1⟩, ⟨xs2, hx2⟩, q⟩ := q1
  subst ev
  obtain ⟨u1, u2, rfl, ru1, ru2⟩ := vals2 r1
  obtain ⟨G1, B1, g1, lo1, on1⟩ := Sc.begins I1 hx1 ru1
  obtain ⟨G2, B2, g2, lo2, on2⟩ := Sc.begins I1 hx2 ru2
  refine zip_begins2 B1 B2 g1 g2 fun h' z zi zo w1 w2 _ up => iter_zr (b := false) z ?_
  exact begun2 false I1 lo1 lo2 z zi zo (on1 _ _ w1) (on2 _ _ w2) up q
end Fo
/-! Zip4: zip's mirrors. -/
namespace Fo
open PySem PySem.Spec PyProof.Rows L2
variable {K : Kw}
def seqW (w : W) (k : List D → Prop) : Prop := match w with
  | .val (.lst l) => k l
  | .val (.tup l) => k l
  | .val (.str l) => k (signs l)
  | .tpl l => k l
  | _ => False
theorem seqW_mono {w : W} {k k' : List D → Prop} (h : ∀ l, k l → k' l) (q : seqW w k) : seqW w k' := by
  unfold seqW at q ⊢
  split at q <;> first | exact h _ q | exact q.elim
/-- what stands as long as it is kept off -/
theorem seqW_ok {H : Hp} {A : List (Option Addr)} {B : Addr → Prop} {w : W} {v : V} {k : List D → Prop} (r : RW K H A B w v) (h : seqW w k) :
    ∃ (c : Sc) (l : List D) (xs : List V), v = c.v ∧ k l ∧ RVs K H (av A B) l xs ∧ ∀ A' H', Keep A H A' H' → c.has K H' xs := by
  unfold seqW at h
  split at h
  · rename_i l
    obtain ⟨a, vs, rfl, e, n, rv⟩ := r.asLst
    exact ⟨.l a, l, vs, rfl, h, rv, fun A' H' k => .inl (.inl (k.st a _ e fun z => n (.inr z)).1)⟩
  · rename_i l
    obtain ⟨a, vs, rfl, e, n, rv⟩ := r.asTup
    exact ⟨.t a, l, vs, rfl, h, rv, fun A' H' k => .inl (.inl (k.st a _ e fun z => n (.inr z)).1)⟩
  · rename_i l
    have r' : RV K H (av A B) (.str l) v := r
    unfold RV at r'
    refine ⟨.s (tx l), signs l, l.map fun c => V.str ⟨#[c]⟩, r', h, ?_, fun A' H' k => ?_⟩
    · have gen : ∀ l : List Nat, RVs K H (av A B) (signs l) (l.map fun c => V.str ⟨#[c]⟩) := fun l => by
        induction l with
        | nil => exact RVs.nil
        | cons c l ih => exact RVs.cons (by unfold RV; rfl) ih
      exact gen l
    · show _ = (tx l).cps.toList.map _
      rfl
  · rename_i l
    unfold RW at r
    obtain ⟨a, o, vs, rfl, e, d, n, rv⟩ := r
    exact ⟨.t a, l, vs, rfl, h, rv, fun A' H' k => .inl (.inr ⟨o, (k.st a _ e fun z => n (.inr z)).1⟩)⟩
  · exact h.elim
def asZ2 (ws : List W) (k : List D → List D → Prop) : Prop := match ws with
  | [w1, w2] => seqW w1 fun l => seqW w2 fun m => k l m
  | _ => False
def asZ3 (ws : List W) (k : List D → List D → List D → Prop) : Prop := match ws with
  | [w1, w2, w3] => seqW w1 fun l => seqW w2 fun m => seqW w3 fun n => k l m n
  | _ => False
theorem asZ2_mono {ws : List W} {k k' : List D → List D → Prop} (h : ∀ l m, k l m → k' l m) (q : asZ2 ws k) : asZ2 ws k' := by
  unfold asZ2 at q ⊢
  split at q
  · exact seqW_mono (fun l => seqW_mono fun m => h l m) q
  · exact q.elim
def zipL3 : List D → List D → List D → List D
  | d :: ds, e :: es, f :: fs => .tup [d, e, f] :: zipL3 ds es fs
  | _, _, _ => []
def iZip2 (b : Bool) (t : MA) : MI := fun ρ S k => t ρ S fun ws S1 => asZ2 ws fun l m => (b = true → l.length = m.length) ∧ k (zipL l m) S1
def iZip3 (b : Bool) (t : MA) : MI := fun ρ S k => t ρ S fun ws S1 => asZ3 ws fun l m n => (b = true → l.length = m.length ∧ l.length = n.length) ∧ k (zipL3 l m n) S1
theorem get_len {α : Type} {l : List α} {i : Nat} (h : i < l.length) : ∃ x, l[i]? = some x := ⟨_, List.getElem?_eq_getElem h⟩
theorem stay_in {A A' : List (Option Addr)} {B B' : Addr → Prop} {H H' : Hp} (k : Keep A H A' H') (hb : ∀ a o, H a = some o → ¬ av A B a → ¬ B' a) : Stay H (av A B) H' (av A' B') := fun b o e n => by
  obtain ⟨z1, z2⟩ := k.st b o e fun z => n (.inr z)
  exact ⟨z1, fun z => z.elim (hb b o e n) z2⟩
theorem pim_zz2 {X : Cx} {tg e : Expr} {es : List Expr} {t : MA} {b : Bool} (h : PAm X es t) (hp : ∀ ta, PA X es ta → PI X tg e (tiZ2 X.kw b ta)) : PIm X tg e (iZip2 b t) := by
  refine ⟨(hp _ h.pa).imp ?_, fun ρ S Q Q' hq q => h.mono ρ S _ _ (fun ws S1 => asZ2_mono fun i j q => ⟨q.1, hq _ _ q.2⟩) q⟩
  rintro σ H R ⟨A, B, ρ, S, k, r, h, af⟩
  refine upA_then r h fun ws S1 A1 vs H1 h1 k1 r1 rws => ?_
  unfold asZ2 at h1
  split at h1
  · rename_i w1 w2
    cases rws with
    | cons q1 q2 =>
      cases q2 with
      | cons q2 q3 =>
        cases q3
        obtain ⟨c1, l, xs, rfl, h2, rv1, on1⟩ := seqW_ok q1 h1
        obtain ⟨c2, m, ys, rfl, ⟨hl, h3⟩, rv2, on2⟩ := seqW_ok q2 h2
        have n1 := rv1.length
        have n2 := rv2.length
        refine ⟨c1, c2, rfl, ⟨xs, on1 _ _ Keep.refl⟩, ⟨ys, on2 _ _ Keep.refl⟩, af _ _ h3 A1 H1 _ (fun H => c1.has X.kw H xs ∧ c2.has X.kw H ys) (fun i H v H' => ∃ T x y, v = .ref T ∧ H T = none ∧ H' = upd H T (.tup [x, y]) ∧ xs[i]? = some x ∧ ys[i]? = some y) k1 r1.cells
          ⟨⟨fun i H2 hi g => ?_, fun H2 g => ?_, fun i H2 x H3 hi g y => ?_⟩, fun A' H' k => ⟨on1 _ _ k, on2 _ _ k⟩, fun i A' B' H' S' x H2 hi bb hb k c y => ?_⟩⟩
        · rw [zipL_length] at hi
          obtain ⟨x, ex⟩ := get_len (l := xs) (i := i) (by omega)
          obtain ⟨y, ey⟩ := get_len (l := ys) (i := i) (by omega)
          exact ⟨xs, ys, x, y, g.1, g.2, ex, ey⟩
        · rw [zipL_length]
          refine ⟨xs, ys, g.1, g.2, by omega, by omega, by omega, fun z => ?_⟩
          have := hl z
          omega
        · obtain ⟨T, x, y, rfl, hT, rfl, e1, e2⟩ := y
          exact ⟨T, x, y, rfl, hT, rfl, e1 _ g.1, e2 _ g.2⟩
        · obtain ⟨T, x, y, rfl, hT, rfl, e1, e2⟩ := y
          obtain ⟨d1, f1, s1⟩ := rv1.get' e1
          obtain ⟨d2, f2, s2⟩ := rv2.get' e2
          have sty := stay_in k hb
          exact ⟨_, zipL_at _ _ _ _ _ f1 f2, Keep.upd hT, c.upd hT, RV.new_tup c hT (RVs.cons (RV.stay sty s1) (RVs.cons (RV.stay sty s2) RVs.nil))⟩
  · exact h1.elim
end Fo
/-! Enum1: enumerate of a list, a tuple, a text. -/
namespace Fo
open PySem PySem.Spec PyProof.Rows L2
theorem enum_typeCall (v : Value) : checkTypeCall "enumerate" ⟨[v], []⟩ = pure () := by kernel_rfl
theorem enum_newCall (v : Value) : checkBuiltinCall "enumerate.__new__" ⟨[.type "enumerate", v], []⟩ = pure () := by kernel_rfl
theorem enum_init (x v : Value) : argsOk "object.__init__" ⟨[x, v], []⟩ := by unfold argsOk; kernel_rfl
abbrev enH (h : Heap) (o : Obj) : Heap := (h.push o).push { cls := .type "enumerate", data := .fields #[.none, .bool false, .ref h.objs.size, .int 0 0, .none, .none] }
theorem enum_new {v : Value} {o : Obj} {G : Heap → Prop} (B : Begins v o G) :
    Meets (Builtin.«enumerate.__new__» ⟨[.type "enumerate", v], []⟩) (fun _ R s => G s.heap ∧ R (.ok (.ret (.ref (s.heap.push o).objs.size))) { s with heap := enH s.heap o }) :=
  .of_wp fun prog w A R s h => by
    obtain ⟨hp, gg, dd, k0, os⟩ := s
    obtain ⟨g1, h⟩ := h
    have isEnum := sub_enumerate
    have q1 : ∀ {A2 : Around} {E2 Q2 : Value → Shared → Prop}, Q2 (.ref hp.objs.size) ⟨hp.push o, gg, dd, k0, os⟩ → wpAny (model prog w) A2 (pyIter v) Q2 E2 ⟨hp, gg, dd, k0, os⟩ :=
      fun z => B.iter prog w _ _ ⟨hp, gg, dd, k0, os⟩ _ g1 z
    wp_walk using q1
    refine wpAny_stack_any fun ss => wpAny_pure ?_
    split
    · rename_i cc _ _ _ _ _
      cases (cc == Value.type "enumerate") <;> (wp_walk using q1; exact ⟨_, rfl, h⟩)
    · wp_walk using q1
      exact ⟨_, rfl, h⟩
section
variable {prog : Program} {w : World} {A : Around} {E : Value → Shared → Prop} {s : Shared}
theorem enum_starts {v : Value} {o : Obj} {G : Heap → Prop} {Q : Value → Shared → Prop} (B : Begins v o G) (g1 : G s.heap)
    (h : ∀ h', IsEnum h' (s.heap.objs.size + 1) s.heap.objs.size 0 .none → h'.get? s.heap.objs.size = some o → (∀ c u, s.heap.get? c = some u → h'.get? c = some u) → Q (.ref (s.heap.objs.size + 1)) { s with heap := h' }) :
    wpAny (model prog w) A (call (.type "enumerate") [v]) Q E s := by
  refine callType_new F.called_enumerate (by decide) (enum_typeCall v) (enum_newCall v) (fun x => enum_init x v) F.entry_enumerate_new (enum_new B) ⟨g1, ?_⟩
  have n1 : (s.heap.push o).objs.size = s.heap.objs.size + 1 := by rw [Heap.size_push]
  have ge : (enH s.heap o).get? (s.heap.push o).objs.size = some _ := Heap.get?_push_size _ rfl
  have gi : (enH s.heap o).get? s.heap.objs.size = some o := Heap.get?_push_of_some _ (Heap.get?_push_size _ B.free)
  rw [n1] at ge
  show _ ∧ _
  rw [n1]
  exact ⟨⟨_, ge, rfl⟩, h _ ge gi fun c u e => Heap.get?_push_of_some _ (Heap.get?_push_of_some _ e)⟩
end
/-- a thing as it stands at each turn, its items numbered, in new pairs -/
def ItE (K : PySem.W.Frag) (c : Sc) : It :=
  ⟨fun i H => ∃ (xs : List V) (x : V), c.has K H xs ∧ xs[i]? = some x,
    fun i H v H' => ∃ (T : Addr) (x : V), v = .ref T ∧ H T = none ∧ H' = upd H T (.tup [.int (i : Nat), x]) ∧ ∀ xs, c.has K H xs → xs[i]? = some x,
    fun i H => ∃ (xs : List V), c.has K H xs ∧ i = xs.length⟩
theorem turn_en {P : Program} {w : World} {K : PySem.W.Frag} {elts : List Expr} {kk : Nat} {tpos : Pos} (c : Sc) (m : Nat) (lo : ∀ a, c.src a → a < m) :
    Turn P w K (.Tuple elts kk tpos) (ItE K c) [m + 1, m] (m + 1) (fun i h => (∃ u, IsEnum h (m + 1) m ((i : Nat) : Int) u) ∧ c.at_ m i h) where
  mem := by simp
  obj := fun i h st b hb => by
    obtain ⟨⟨u, he⟩, t⟩ := st
    have e : b = m + 1 ∨ b = m := by simpa using hb
    rcases e with rfl | rfl
    · exact ⟨_, he, fun v q => (by cases q)⟩
    · exact Sc.at_obj t
  keep := fun i h h' st k => by
    obtain ⟨⟨u, he⟩, t⟩ := st
    exact ⟨⟨u, k _ (by simp) _ he⟩, Sc.at_keep t fun o q => k _ (by simp) o q⟩
  item := by
    intro X hP hw hK hc i pins s σ H E I hf st hg
    subst hP hw hK
    obtain ⟨⟨u, he⟩, t⟩ := st
    obtain ⟨xs, x, hx, hi⟩ := hg
    have hh0 : X.A.handled = none := I.ok.hd hc
    obtain ⟨fp, P, St, D, st1, px, pa, pm, pf⟩ := Sc.draw I hx t (fun a ha => Nat.ne_of_lt (lo a ha)) X.A.in1 hh0
    have nf : (m + 1 : Nat) ∉ fp := fun h3 => by
      rcases pf _ h3 with e | e
      · exact absurd e (Nat.succ_ne_self m)
      · exact absurd (lo _ e) (Nat.not_lt_of_le (Nat.le_succ m))
    have hel : (m + 1 : Nat) < s.heap.objs.size := Heap.lt_size he
    refine wpAny_pyNext_enum_itemC D he st1 (List.getElem?_eq_some_iff.mp hi).1 (neA (Nat.succ_ne_self m)) nf fun v h' tk p1 ho s1 nw ns up => ?_
    obtain ⟨x2, e2, r2⟩ := px _ _ p1
    rw [hi] at e2
    cases e2
    refine ⟨_, rfl, wpAny_letOwnedTupleGo_enum (s := { s with heap := h', toks := tk + 1 }) ho fun h2 he2 sb => ?_⟩
    have nw2 : h2.get? s.heap.objs.size = some { cls := .type "tuple", data := .seq #[.int i tk, v] } := (sb.2 _ (Nat.ne_of_gt hel)).trans nw
    have new : ObjOk X.prog X.w (upd H s.heap.objs.size (.tup [.int (i : Nat), x])) h2 s.heap.objs.size (.tup [.int (i : Nat), x]) :=
      ⟨(by show 2 ≤ sizeLine; decide), [.int i tk, v], .cons ⟨_, rfl⟩ (.cons r2 .nil), ⟨_, nw2, rfl, _, rfl⟩⟩
    have I1 : Inv X pins σ (upd H s.heap.objs.size (.tup [.int (i : Nat), x])) { s with heap := h2, toks := tk + 1 } :=
      I.turnedNew (ch := [m + 1, m]) (fun c o q e => (sb.2 c (fun r => q (by simp [r]))).trans (up c o (fun r => q (by simp [r])) (fun r => q (by simp [r])) e)) hf (Nat.le_refl _) new
    refine ⟨.ref s.heap.objs.size, _, I1, rfl, ⟨_, x, rfl, I.hok.fresh (Nat.le_refl _), rfl, fun l hl2 => by rw [Sc.inj I hl2 hx]; exact hi⟩, ⟨⟨v, ?_⟩, Sc.at_keep (pa _ _ s1) fun o q => (sb.2 _ (neA (by omega))).trans q⟩, fun c hcm => ?_⟩
    · rw [show ((i + 1 : Nat) : Int) = (i : Int) + 1 by omega]
      exact he2
    · have lt : c < s.heap.objs.size := by
        have e : c = m + 1 ∨ c = m := by simpa using hcm
        rcases e with rfl | rfl <;> exact Nat.lt_of_le_of_lt (by omega) hel
      rw [upd_ne (Nat.ne_of_lt lt)]
      exact (hf c hcm).1
  done := by
    intro X hP hw hK hc i pins s σ H E I hf st hg
    subst hP hw hK
    obtain ⟨⟨u, he⟩, t⟩ := st
    obtain ⟨xs, hx, rfl⟩ := hg
    have hh0 : X.A.handled = none := I.ok.hd hc
    obtain ⟨fp, P, St, D, st1, px, pa, pm, pf⟩ := Sc.draw I hx t (fun a ha => Nat.ne_of_lt (lo a ha)) X.A.in1 hh0
    exact wpAny_pyNext_enum_endD D he st1 fun h' eb => ⟨rfl, I.turnedL (t' := s.toks) (ch := [m + 1, m]) (fun c o q e => eb c o (fun r => q (by simp [r])) e) hf⟩
  self := fun A i s Q E st h => by
    obtain ⟨⟨u, he⟩, _⟩ := st
    exact wpAny_pyIter_enum he h
def tiE (K : PySem.W.Frag) (t : TA) : TI := fun σ H R => t σ H fun vs H1 => ∃ c : Sc, vs = [c.v] ∧ (∃ xs, c.has K H1 xs) ∧ R (ItE K c) H1
theorem pi_en {X : Cx} {e1 : Expr} {ta : TA} {p pos tpos : Pos} {elts : List Expr} {kk : Nat} (hg : Gl X "enumerate") (hm : X.mg "enumerate" = none) (ha : PA X [e1] ta) (hs : starEach [e1] X.env = [(false, eval e1 X.env)] := by rfl) :
    PI X (.Tuple elts kk tpos) (.Call (.Name "enumerate" p) [e1] [] pos) (tiE X.K ta) := by
  refine ⟨fun pins s σ H R I h => Call_ (ld_blt I hg hm boot_enumerate (PyProof.Rows.callWith_type1 (thn (ha.run pos pins s σ H _ I h) fun us s1 h1 => ?_) hs rfl))⟩
  obtain ⟨vs, H1, I1, r1, q1⟩ := h1
  obtain ⟨c, ev, ⟨xs, hx⟩, q⟩ := q1
  subst ev
  obtain ⟨u, rfl, ru⟩ := vals1 r1
  obtain ⟨G, B, g, lo, on⟩ := Sc.begins I1 hx ru
  refine enum_starts B g fun h' z w up => wpAny_pyIter_enum z ?_
  have I2 : Inv X pins σ H1 { s1 with heap := h' } := I1.kept (t' := s1.toks) up
  refine ⟨_, _, _, _, H1, rfl, I2, turn_en c s1.heap.objs.size lo, ⟨⟨_, z⟩, on _ _ w⟩, fun b hb => ?_, q⟩
  have ge : s1.heap.objs.size ≤ b := by
    have e : b = s1.heap.objs.size + 1 ∨ b = s1.heap.objs.size := by simpa using hb
    rcases e with rfl | rfl <;> first | exact Nat.le_refl _ | exact Nat.le_add_right _ _
  exact I1.fpOk ge (I1.hok.fresh ge)
def asE1 (ws : List W) (k : List D → Prop) : Prop := match ws with
  | [w1] => seqW w1 k
  | _ => False
theorem asE1_mono {ws : List W} {k k' : List D → Prop} (h : ∀ l, k l → k' l) (q : asE1 ws k) : asE1 ws k' := by
  unfold asE1 at q ⊢
  split at q
  · exact seqW_mono h q
  · exact q.elim
def iEnum1 (t : MA) : MI := fun ρ S k => t ρ S fun ws S1 => asE1 ws fun l => k (enumL 0 l) S1
theorem pim_en {X : Cx} {tg e : Expr} {es : List Expr} {t : MA} (h : PAm X es t) (hp : ∀ ta, PA X es ta → PI X tg e (tiE X.K ta)) : PIm X tg e (iEnum1 t) := by
  refine ⟨(hp _ h.pa).imp ?_, fun ρ S Q Q' hq q => h.mono ρ S _ _ (fun ws S1 => asE1_mono fun i q => hq _ _ q) q⟩
  rintro σ H R ⟨A, B, ρ, S, k, r, h, af⟩
  refine upA_then r h fun ws S1 A1 vs H1 h1 k1 r1 rws => ?_
  unfold asE1 at h1
  split at h1
  · rename_i w1
    cases rws with
    | cons q1 q2 =>
      cases q2
      obtain ⟨c1, l, xs, rfl, h2, rv1, on1⟩ := seqW_ok q1 h1
      have n1 := rv1.length
      refine ⟨c1, rfl, ⟨xs, on1 _ _ Keep.refl⟩, af _ _ h2 A1 H1 _ (fun H => c1.has X.K H xs) (fun i H v H' => ∃ T x, v = .ref T ∧ H T = none ∧ H' = upd H T (.tup [.int (i : Nat), x]) ∧ xs[i]? = some x) k1 r1.cells
        ⟨⟨fun i H2 hi g => ?_, fun H2 g => ?_, fun i H2 x H3 hi g y => ?_⟩, fun A' H' k => on1 _ _ k, fun i A' B' H' S' x H2 hi bb hb k c y => ?_⟩⟩
      · rw [enumL_length] at hi
        obtain ⟨x, ex⟩ := get_len (l := xs) (i := i) (by omega)
        exact ⟨xs, x, g, ex⟩
      · rw [enumL_length]
        exact ⟨xs, g, n1.symm⟩
      · obtain ⟨T, x, rfl, hT, rfl, e1⟩ := y
        exact ⟨T, x, rfl, hT, rfl, e1 _ g⟩
      · obtain ⟨T, x, rfl, hT, rfl, e1⟩ := y
        obtain ⟨d1, f1, s1⟩ := rv1.get' e1
        have sty := stay_in k hb
        refine ⟨_, ?_, Keep.upd hT, c.upd hT, RV.new_tup c hT (RVs.cons (d := .int (i : Nat)) (by unfold RV; rfl) (RVs.cons (RV.stay sty s1) RVs.nil))⟩
        rw [enumL_at, f1, Nat.zero_add]
        rfl
  · exact h1.elim
end Fo
/-! Core16: found[i] += x, found a cell. -/
namespace Fo
open PySem PySem.Spec PyProof.Rows L2
def putX (x : W) (j : Int) (w : W) (S : Sto) (k : Sto → Prop) : Prop := asCell x S fun n l => match ixN l.length j with
  | some p => match w with
    | .val d => k (S.set n (.lst (l.set p d)))
    | _ => False
  | none => False
def getX (x : W) (j : Int) (S : Sto) (k : D → Prop) : Prop := asCell x S fun _ l => 0 ≤ j ∧ match atI l j with
  | some d => k d
  | none => False
def sAugX (o i : ME) (op : OpD) (e : ME) : MS := fun E ρ S => o ρ S fun x S1 => i ρ S1 fun y S2 => asI y S2 fun j S2 => getX x j S2 fun d => e ρ S2 fun z S3 => rd S3 z fun dz => op d dz S3 fun w S4 => putX x j w S4 fun S5 => E.nx ρ S5
end Fo
/-! Rev1: x[::-1] of a list, a tuple, a text. -/
namespace Fo
open PySem PySem.Spec PyProof.Rows L2
variable {K : Kw}
/-! ### the mirror -/
def revD (a : D) (S : Sto) (k : KW) : Prop := match a with
  | .str l => l.length ≤ sizeLine ∧ k (.val (.str l.reverse)) S
  | .tup l => k (.val (.tup l.reverse)) S
  | .lst l => k (.val (.lst l.reverse)) S
  | _ => False
def mRev (a : ME) : ME := fun ρ S k => a ρ S fun x S1 => rd S1 x fun d => revD d S1 k
theorem mRev_i {t : ME} {ρ : Rho} {S : Sto} {k : KW} (q : t ρ S fun x S1 => rd S1 x fun d => revD d S1 k) : mRev t ρ S k := q
theorem rev_t {l : List D} {S : Sto} {k : KW} (q : k (.val (.tup l.reverse)) S) : revD (.tup l) S k := q
theorem rev_l {l : List D} {S : Sto} {k : KW} (q : k (.val (.lst l.reverse)) S) : revD (.lst l) S k := q
theorem rev_s {l : List Nat} {S : Sto} {k : KW} (h : l.length ≤ sizeLine) (q : k (.val (.str l.reverse)) S) : revD (.str l) S k := ⟨h, q⟩
end Fo
/-! Core17: list.index of data of any depth. -/
namespace Fo
open PySem PySem.Spec PyProof.Rows L2
variable {K : Kw}
/-- a list: data or a cell -/
def lstW (w : W) (S : Sto) (k : List D → Prop) : Prop := match w with
  | .val (.lst l) => k l
  | .ref n => match S[n]? with
    | some (.lst l) => k l
    | _ => False
  | _ => False
theorem lstW_r {n : Nat} {l : List D} {S : Sto} {k : List D → Prop} (h : S[n]? = some (.lst l)) (q : k l) : lstW (.ref n) S k := by
  unfold lstW
  simp only [h]
  exact q
theorem lstW_v {l : List D} {S : Sto} {k : List D → Prop} (q : k l) : lstW (.val (.lst l)) S k := q
def indexLF (l : List D) (d : D) (S : Sto) (k : KW) : Prop := shp d ∧ shp (.lst l) ∧ ∃ (j : Nat) (z : PyData), (pys l)[j]? = some z ∧ PyData.eqv z (py d) = true ∧ (∀ (m : Nat) (z' : PyData), m < j → (pys l)[m]? = some z' → PyData.eqv z' (py d) = false) ∧ k (.val (.int (j : Nat))) S
/-- list.index -/
def mIndexL (o : ME) (args : MA) : ME := fun ρ S k => o ρ S fun w S1 => lstW w S1 fun _ => args ρ S1 fun ws S2 => rds S2 ws fun ds => match ds with
  | [d] => lstW w S2 fun l => indexLF l d S2 k
  | _ => False
theorem mIndexL_i {o : ME} {args : MA} {ρ : Rho} {S : Sto} {k : KW} (q : o ρ S fun w S1 => lstW w S1 fun _ => args ρ S1 fun ws S2 => rds S2 ws fun ds => match ds with
  | [d] => lstW w S2 fun l => indexLF l d S2 k
  | _ => False) : mIndexL o args ρ S k := q
end Fo
/-! Core12: steps of a walk through a mirror: each rule takes the goal's head apart. -/
namespace Fo
open PySem PySem.Spec PyProof.Rows L2
section
variable {ρ : Rho} {S : Sto} {k : KW} {E : End} {w : W} {d : D} {i n : Nat} {t u v : ME} {a b c : MS} {ct cu : MT} {args : MA} {kb : Bool → Sto → Prop} {kd : D → Prop} {ka : List W → Sto → Prop} {kn : List D → Sto → Prop} {x y : Int} {op : OpD} {l m : List D} {s r : List Nat}
theorem mVar_i (h : ρ[i]? = some (some w)) (q : k w S) : mVar i ρ S k := by
  unfold mVar
  simp only [h]
  exact q
theorem mC_i (q : k (.val d) S) : mC d ρ S k := q
theorem mBin_i (q : t ρ S fun x S1 => u ρ S1 fun y S2 => rd S2 x fun dx => rd S2 y fun dy => op dx dy S2 k) : mBin op t u ρ S k := q
theorem rd_v (q : kd d) : rd S (.val d) kd := q
theorem rd_l (h : S[n]? = some (.lst l)) (q : kd (.lst l)) : rd S (.ref n) kd := by
  unfold rd
  simp only [h]
  exact q
theorem rd_d {ks ws : List D} (h : S[n]? = some (.dic ks ws)) (q : kd (.dct ks ws)) : rd S (.ref n) kd := by
  unfold rd
  simp only [h]
  exact q
theorem asB_i {z : Bool} (q : kb z S) : asB (.val (.bl z)) S kb := q
theorem asI_i {ki : Int → Sto → Prop} (q : ki x S) : asI (.val (.int x)) S ki := q
theorem asS_i {ks : List Nat → Prop} (q : ks s) : asS (.val (.str s)) ks := q
theorem mCond_i (q : t ρ S fun w S1 => asB w S1 kb) : mCond t ρ S kb := q
theorem cAnd_i (q : ct ρ S fun z S1 => if z = true then cu ρ S1 kb else kb false S1) : cAnd ct cu ρ S kb := q
theorem cOr_i (q : ct ρ S fun z S1 => if z = true then kb true S1 else cu ρ S1 kb) : cOr ct cu ρ S kb := q
theorem cNot_i (q : ct ρ S fun z S1 => kb (!z) S1) : cNot ct ρ S kb := q
theorem cYes_i (q : kb true S) : cYes ρ S kb := q
theorem mIf_i (q : ct ρ S fun z S1 => if z = true then t ρ S1 k else u ρ S1 k) : mIf ct t u ρ S k := q
theorem mAnd_i (q : t ρ S fun w S1 => asB w S1 fun c S1 => if c = true then u ρ S1 k else k (.val (.bl false)) S1) : mAnd t u ρ S k := q
theorem mOr_i (q : t ρ S fun w S1 => asB w S1 fun c S1 => if c = true then k (.val (.bl true)) S1 else u ρ S1 k) : mOr t u ρ S k := q
theorem mNot_i (q : t ρ S fun w S1 => asB w S1 fun c S1 => k (.val (.bl (!c))) S1) : mNot t ρ S k := q
theorem mNeg_i (q : t ρ S fun w S1 => asI w S1 fun i S1 => k (.val (.int (-i))) S1) : mNeg t ρ S k := q
theorem mChain_i {o o' : OpD} (q : t ρ S fun x S1 => u ρ S1 fun y S2 => rd S2 x fun dx => rd S2 y fun dy => o dx dy S2 fun z S3 => asB z S3 fun g S3 =>
  if g = true then v ρ S3 fun w S4 => rd S4 y fun dy => rd S4 w fun dw => o' dy dw S4 k else k (.val (.bl false)) S3) : mChain o o' t u v ρ S k := q
/-! choices -/
theorem if_t {z : Bool} {A B : Prop} (h : z = true) (q : A) : if z = true then A else B := by rw [if_pos h]; exact q
theorem if_f {z : Bool} {A B : Prop} (h : z = false) (q : B) : if z = true then A else B := by rw [if_neg (by rw [h]; exact Bool.false_ne_true)]; exact q
theorem if_d {p : Prop} [Decidable p] {A B : Prop} (h1 : p → A) (h2 : ¬ p → B) : if decide p = true then A else B := by
  by_cases h : p
  · rw [if_pos (decide_eq_true h)]; exact h1 h
  · rw [if_neg (by rw [decide_eq_false h]; exact Bool.false_ne_true)]; exact h2 h
theorem if_dt {p : Prop} [Decidable p] {A B : Prop} (h1 : ¬ p → A) (h2 : p → B) : if (decide p != true) = true then A else B := by
  by_cases h : p
  · rw [if_neg (by rw [decide_eq_true h]; decide)]; exact h2 h
  · rw [if_pos (by rw [decide_eq_false h]; decide)]; exact h1 h
/-! operators -/
theorem add_i (q : k (.val (.int (x + y))) S) : addD (.int x) (.int y) S k := q
theorem add_s (h : s.length + r.length ≤ sizeLine) (q : k (.val (.str (s ++ r))) S) : addD (.str s) (.str r) S k := ⟨h, q⟩
theorem add_t (h : l.length + m.length ≤ sizeLine) (q : k (.val (.tup (l ++ m))) S) : addD (.tup l) (.tup m) S k := ⟨h, q⟩
theorem add_l (h : l.length + m.length ≤ sizeLine) (q : k (.val (.lst (l ++ m))) S) : addD (.lst l) (.lst m) S k := ⟨h, q⟩
theorem iadd_i (q : k (.val (.int (x + y))) S) : iaddD (.int x) (.int y) S k := q
theorem iadd_s (h : s.length + r.length ≤ sizeLine) (q : k (.val (.str (s ++ r))) S) : iaddD (.str s) (.str r) S k := ⟨h, q⟩
theorem sub_i (q : k (.val (.int (x - y))) S) : subD (.int x) (.int y) S k := ⟨trivial, q⟩
theorem mul_i (h : CMul x y) (q : k (.val (.int (x * y))) S) : mulD (.int x) (.int y) S k := ⟨h, q⟩
theorem mod_i (h : 0 < y) (q : k (.val (.int (x % y))) S) : modD (.int x) (.int y) S k := ⟨h, q⟩
theorem fdiv_i (h : CDiv x y) (q : k (.val (.int (x / y))) S) : fdivD (.int x) (.int y) S k := ⟨h, q⟩
theorem pow_i (h : CPow x y) (q : k (.val (.int (x ^ y.toNat))) S) : powD (.int x) (.int y) S k := ⟨h, q⟩
theorem lt_i (q : k (.val (.bl (decide (x < y)))) S) : ltD (.int x) (.int y) S k := q
theorem le_i (q : k (.val (.bl (decide (x ≤ y)))) S) : leD (.int x) (.int y) S k := q
theorem gt_i (q : k (.val (.bl (decide (y < x)))) S) : gtD (.int x) (.int y) S k := q
theorem ge_i (q : k (.val (.bl (decide (y ≤ x)))) S) : geD (.int x) (.int y) S k := q
theorem lt_s (q : k (.val (.bl (decide (s < r)))) S) : ltD (.str s) (.str r) S k := q
theorem le_s (q : k (.val (.bl (!decide (r < s)))) S) : leD (.str s) (.str r) S k := q
theorem gt_s (q : k (.val (.bl (decide (r < s)))) S) : gtD (.str s) (.str r) S k := q
theorem ge_s (q : k (.val (.bl (!decide (s < r)))) S) : geD (.str s) (.str r) S k := q
theorem is_n {neg : Bool} (q : k (.val (.bl (d.isNon != neg))) S) : isD neg d .non S k := q
theorem is_b {neg z z2 : Bool} (q : k (.val (.bl (decide (z = z2) != neg))) S) : isD neg (.bl z) (.bl z2) S k := q
theorem eq_i {neg : Bool} (q : k (.val (.bl (decide (x = y) != neg))) S) : eqD neg (.int x) (.int y) S k := q
theorem eq_s {neg : Bool} (q : k (.val (.bl (decide (s = r) != neg))) S) : eqD neg (.str s) (.str r) S k := q
theorem eq_b {neg z z2 : Bool} (q : k (.val (.bl (decide (z = z2) != neg))) S) : eqD neg (.bl z) (.bl z2) S k := q
theorem in_s {neg : Bool} {c : Nat} (q : k (.val (.bl (decide (c ∈ s) != neg))) S) : inD neg (.str [c]) (.str s) S k := q
theorem in_l {neg : Bool} (h1 : shp d) (h2 : shp (.lst l)) (q : k (.val (.bl ((pys l).any (fun z => PyData.eqv z (py d)) != neg))) S) : inD neg d (.lst l) S k := ⟨h1, h2, q⟩
theorem ix_t (h : atI l x = some d) (q : k (.val d) S) : ixD (.tup l) (.int x) S k := by
  show itemK l x S k
  unfold itemK
  rw [h]
  exact q
theorem ix_l (h : atI l x = some d) (q : k (.val d) S) : ixD (.lst l) (.int x) S k := by
  show itemK l x S k
  unfold itemK
  rw [h]
  exact q
theorem mSlice_i {lo hi : MO} (q : t ρ S fun x S1 => lo ρ S1 fun l S2 => hi ρ S2 fun u S3 => rd S3 x fun d => slD l u d S3 k) : mSlice t lo hi ρ S k := q
theorem oNo_i {ko : Option Int → Sto → Prop} (q : ko none S) : oNo ρ S ko := q
theorem oAt_i {ko : Option Int → Sto → Prop} (q : t ρ S fun w S1 => asI w S1 fun i S1 => ko (some i) S1) : oAt t ρ S ko := q
theorem sl_s {lo hi : Option Int} (h : s.length ≤ sizeLine) (q : k (.val (.str (cutL s lo hi))) S) : slD lo hi (.str s) S k := ⟨h, q⟩
theorem sl_t {lo hi : Option Int} (q : k (.val (.tup (cutL l lo hi))) S) : slD lo hi (.tup l) S k := q
theorem sl_l {lo hi : Option Int} (q : k (.val (.lst (cutL l lo hi))) S) : slD lo hi (.lst l) S k := q
theorem sl_c {lo hi : Option Int} {z : List Int} (q : k (.val (.lst ((cutL z lo hi).map D.int))) S) : slD lo hi (.scr z) S k := q
/-! several -/
theorem aNil_i (q : ka [] S) : aNil ρ S ka := q
theorem aCons_i (q : t ρ S fun w S1 => args ρ S1 fun ws S2 => ka (w :: ws) S2) : aCons t args ρ S ka := q
theorem vals_n {kl : List D → Prop} (q : kl []) : vals [] kl := q
theorem vals_c {kl : List D → Prop} {ws : List W} (q : vals ws fun ds => kl (d :: ds)) : vals (.val d :: ws) kl := q
theorem rds_n {kl : List D → Prop} (q : kl []) : rds S [] kl := q
theorem rds_c {kl : List D → Prop} {ws : List W} (q : rd S w fun d => rds S ws fun ds => kl (d :: ds)) : rds S (w :: ws) kl := q
theorem mVal_i {nn : MN} (q : nn ρ S fun ds S1 => k (.val (.lst ds)) S1) : mVal nn ρ S k := q
theorem mCell_i {nn : MN} (q : nn ρ S fun ds S1 => k (.ref S1.length) (S1 ++ [.lst ds])) : mCell nn ρ S k := q
theorem nLst_i (q : args ρ S fun ws S1 => vals ws fun ds => ds.length ≤ sizeLine ∧ kn ds S1) : nLst args ρ S kn := q
theorem mTup_i (q : args ρ S fun ws S1 => vals ws fun ds => ds.length ≤ sizeLine ∧ k (.val (.tup ds)) S1) : mTup args ρ S k := q
theorem mFrz_r (h : ρ[i]? = some (some (.ref n))) (h2 : S[n]? = some (.lst l)) (q : k (.val (.lst l)) (S.set n .dead)) : mFrz i ρ S k := by
  unfold mFrz
  simp only [h, h2]
  exact q
theorem mFrz_v (h : ρ[i]? = some (some (.val d))) (q : k (.val d) S) : mFrz i ρ S k := by
  unfold mFrz
  simp only [h]
  exact q
/-! statements -/
theorem sSeq_i (q : a { E with nx := fun ρ' S' => b E ρ' S' } ρ S) : sSeq a b E ρ S := q
theorem sNext_i (q : E.nx ρ S) : sNext E ρ S := q
theorem sBrk_i (q : E.bk ρ S) : sBrk E ρ S := q
theorem sCont_i (q : E.ct ρ S) : sCont E ρ S := q
theorem sExpr_i (q : t ρ S fun _ S1 => E.nx ρ S1) : sExpr t E ρ S := q
theorem sRet_i (q : t ρ S E.rt) : sRet t E ρ S := q
theorem sRetN_i (q : E.rt (.val .non) S) : sRetN E ρ S := q
theorem sIf_i (q : ct ρ S fun z S1 => if z = true then a E ρ S1 else b E ρ S1) : sIf ct a b E ρ S := q
theorem sSet_i (q : t ρ S fun w S1 => E.nx (ρ.set i (some w)) S1) : sSet i t E ρ S := q
theorem sAsg_i {g : MG} (q : t ρ S fun w S1 => g w ρ S1 E.nx) : sAsg t g E ρ S := q
def parK (i j : Nat) (E : End) (ρ : Rho) (ws : List W) (S : Sto) : Prop := match ws with
  | [w, u] => E.nx ((ρ.set i (some w)).set j (some u)) S
  | _ => False
theorem sPar_i {j : Nat} (q : args ρ S fun ws S1 => parK i j E ρ ws S1) : sPar i j args E ρ S := q
theorem par_i {j : Nat} {w2 : W} (q : E.nx ((ρ.set i (some w)).set j (some w2)) S) : parK i j E ρ [w, w2] S := q
theorem sSeq_cut (M : Rho → Sto → Prop) (h : ∀ ρ S, M ρ S → b E ρ S) (q : ∀ K : Rho → Sto → Prop, (∀ ρ S, M ρ S → K ρ S) → a { E with nx := K } ρ S) : sSeq a b E ρ S := q _ h
theorem sAug_i (h : ρ[i]? = some (some w)) (q : t ρ S fun y S1 => rd S1 w fun dx => rd S1 y fun dy => op dx dy S1 fun w S2 => E.nx (ρ.set i (some w)) S2) : sAug i op t E ρ S := by
  unfold sAug
  simp only [h]
  exact q
theorem gVar_i {kg : Rho → Sto → Prop} (q : kg (ρ.set i (some w)) S) : gVar i w ρ S kg := q
theorem gTupM_i {gs : MGs} {kg : Rho → Sto → Prop} (q : gs l ρ S kg) : gTupM gs (.val (.tup l)) ρ S kg := q
theorem gsCons_i {g : MG} {gs : MGs} {kg : Rho → Sto → Prop} (q : g (.val d) ρ S fun ρ1 S1 => gs l ρ1 S1 kg) : gsCons g gs (d :: l) ρ S kg := q
theorem gsNil_i {kg : Rho → Sto → Prop} (q : kg ρ S) : gsNil [] ρ S kg := q
def gPut (n : Nat) (l : List D) (w : W) (j : Int) (ρ : Rho) (S : Sto) (kg : Rho → Sto → Prop) : Prop := match ixN l.length j with
  | some p => match w with
    | .val d => kg ρ (S.set n (.lst (l.set p d)))
    | _ => False
  | none => False
theorem gIx_i {kg : Rho → Sto → Prop} (q : t ρ S fun x S1 => u ρ S1 fun y S2 => asCell x S2 fun n l => asI y S2 fun j S2 => gPut n l w j ρ S2 kg) : gIx t u w ρ S kg := q
theorem asCell_i {kc : Nat → List D → Prop} (h : S[n]? = some (.lst l)) (q : kc n l) : asCell (.ref n) S kc := by
  unfold asCell
  simp only [h]
  exact q
theorem gput_i {kg : Rho → Sto → Prop} {j : Int} {p : Nat} (h : ixN l.length j = some p) (q : kg ρ (S.set n (.lst (l.set p d)))) : gPut n l (.val d) j ρ S kg := by
  unfold gPut
  rw [h]
  exact q
theorem mMethC_i {f : CelD} (q : t ρ S fun w S1 => asCell w S1 fun _ _ => args ρ S1 fun ws S2 => asCell w S2 fun n l => f l ws fun l' d => k (.val d) (S2.set n (.lst l'))) : mMethC f t args ρ S k := q
theorem mMethC0_i {f : CelD} (q : t ρ S fun w S1 => asCell w S1 fun n l => f l [] fun l' d => k (.val d) (S1.set n (.lst l'))) : mMethC0 f t ρ S k := q
theorem append_i {kc : List D → D → Prop} (h : l.length < sizeLine) (q : kc (l ++ [d]) .non) : appendF l [.val d] kc := ⟨h, q⟩
theorem mMethS_i {f : List Nat → D → Sto → KW → Prop} (q : t ρ S fun w S1 => asS w fun l => u ρ S1 fun z S2 => rd S2 z fun d => f l d S2 k) : mMethS f t u ρ S k := q
/-! built-ins -/
theorem mCallB_i {f : CalD} (q : args ρ S fun ws S1 => rds S1 ws fun ds => f ds S1 k) : mCallB f args ρ S k := q
theorem nCallB_i {f : List D → Sto → (List D → Sto → Prop) → Prop} (q : args ρ S fun ws S1 => rds S1 ws fun ds => f ds S1 kn) : nCallB f args ρ S kn := q
theorem len_l (q : k (.val (.int l.length)) S) : lenC [.lst l] S k := q
theorem len_t (q : k (.val (.int l.length)) S) : lenC [.tup l] S k := q
theorem len_s (h : s.length ≤ sizeLine) (q : k (.val (.int s.length)) S) : lenC [.str s] S k := ⟨h, q⟩
theorem min2_i (q : k (.val (.int (if y < x then y else x))) S) : min2C [.int x, .int y] S k := q
theorem tuple_l (q : k (.val (.tup l)) S) : tupleC [.lst l] S k := q
theorem tuple_t (q : k (.val (.tup l)) S) : tupleC [.tup l] S k := q
theorem mIsi_i {ty : String} (q : t ρ S fun w S1 => rd S1 w fun d => k (.val (.bl (isT d ty))) S1) : mIsi ty t ρ S k := q
theorem mIsiT_i {ts : List String} (q : t ρ S fun w S1 => rd S1 w fun d => k (.val (.bl (ts.any (isT d)))) S1) : mIsiT ts t ρ S k := q
theorem listF_l (q : kn l S) : listF [.lst l] S kn := q
theorem listF_t (q : kn l S) : listF [.tup l] S kn := q
/-! iterators, loops -/
theorem iVal_i (q : t ρ S fun w S1 => itV w fun ds => kn ds S1) : iVal t ρ S kn := q
theorem itV_l {kl : List D → Prop} (q : kl l) : itV (.val (.lst l)) kl := q
theorem itV_t {kl : List D → Prop} (q : kl l) : itV (.val (.tup l)) kl := q
theorem itV_s {kl : List D → Prop} (q : kl (s.map fun c => .str [c])) : itV (.val (.str s)) kl := q
theorem iRange1_i (q : args ρ S fun ws S1 => asI1 ws fun j => (-(2 ^ 62) ≤ j ∧ j < 2 ^ 62) ∧ kn (rangeL 0 j.toNat) S1) : iRange1 args ρ S kn := q
theorem asI1_i {ki : Int → Prop} (q : ki x) : asI1 [.val (.int x)] ki := q
theorem iRange2_i (q : args ρ S fun ws S1 => asI2 ws fun i j => (-(2 ^ 62) ≤ i ∧ i < 2 ^ 62 ∧ -(2 ^ 62) ≤ j ∧ j < 2 ^ 62) ∧ kn (rangeL i (j - i).toNat) S1) : iRange2 args ρ S kn := q
theorem asI2_i {ki : Int → Int → Prop} (q : ki x y) : asI2 [.val (.int x), .val (.int y)] ki := q
theorem iEnumL_i (q : args ρ S fun ws S1 => asL1 ws fun l => kn (enumL 0 l) S1) : iEnumL args ρ S kn := q
theorem asL1_i {kl : List D → Prop} (q : kl l) : asL1 [.val (.lst l)] kl := q
theorem iZip_i (q : args ρ S fun ws S1 => asZ ws fun l m => kn (zipL l m) S1) : Fo.iZip args ρ S kn := q
theorem iZip2_i {b : Bool} (q : args ρ S fun ws S1 => asZ2 ws fun l m => (b = true → l.length = m.length) ∧ kn (zipL l m) S1) : iZip2 b args ρ S kn := q
theorem iZip3_i {b : Bool} (q : args ρ S fun ws S1 => asZ3 ws fun l m n => (b = true → l.length = m.length ∧ l.length = n.length) ∧ kn (zipL3 l m n) S1) : iZip3 b args ρ S kn := q
theorem asZ2_i {w2 : W} {kl : List D → List D → Prop} (q : seqW w fun l => seqW w2 fun m => kl l m) : asZ2 [w, w2] kl := q
theorem asZ3_i {w2 w3 : W} {kl : List D → List D → List D → Prop} (q : seqW w fun l => seqW w2 fun m => seqW w3 fun n => kl l m n) : asZ3 [w, w2, w3] kl := q
theorem seqW_l {kl : List D → Prop} (q : kl l) : seqW (.val (.lst l)) kl := q
theorem seqW_t {kl : List D → Prop} (q : kl l) : seqW (.val (.tup l)) kl := q
theorem seqW_s {kl : List D → Prop} (q : kl (signs s)) : seqW (.val (.str s)) kl := q
theorem nostrict {A B : Prop} (q : B) : (false = true → A) ∧ B := ⟨fun z => Bool.noConfusion z, q⟩
theorem iEnum1_i (q : args ρ S fun ws S1 => asE1 ws fun l => kn (enumL 0 l) S1) : iEnum1 args ρ S kn := q
theorem asE1_i {kl : List D → Prop} (q : seqW w kl) : asE1 [w] kl := q
theorem nBin_i {op : OpN} (q : t ρ S fun x S1 => u ρ S1 fun y S2 => rd S2 x fun dx => rd S2 y fun dy => op dx dy fun ds => kn ds S2) : nBin op t u ρ S kn := q
theorem addN_l {kl : List D → Prop} (h : l.length + m.length ≤ sizeLine) (q : kl (l ++ m)) : addN (.lst l) (.lst m) kl := ⟨h, q⟩
theorem int1_b {z : Bool} (q : k (.val (.int (if z then 1 else 0))) S) : int1C [.bl z] S k := q
theorem int1_i (q : k (.val (.int x)) S) : int1C [.int x] S k := q
theorem sAugX_i (q : t ρ S fun x S1 => u ρ S1 fun y S2 => asI y S2 fun j S2 => getX x j S2 fun d => v ρ S2 fun z S3 => rd S3 z fun dz => op d dz S3 fun w S4 => putX x j w S4 fun S5 => E.nx ρ S5) : sAugX t u op v E ρ S := q
theorem asZ_l {kl : List D → List D → Prop} (q : kl l m) : asZ [.val (.lst l), .val (.lst m)] kl := q
theorem asZ_t {kl : List D → List D → Prop} (q : kl l m) : asZ [.val (.tup l), .val (.tup m)] kl := q
theorem sFor_i {it : MI} {g : MG} (q : it ρ S fun ds S1 => forItems g a E ds ρ S1) : sFor it g a E ρ S := q
theorem nLC_i {it : MI} {g : MG} {vs : List Nat} (q : it ρ S fun ds S1 => lcItems g ct t (wipeR ρ vs) kn ds [] S1) : nLC it g ct t vs ρ S kn := q
/-- a loop, by what holds ahead of each of its rounds -/
theorem for_inv {g : MG} {tb : MS} (I : List D → Rho → Sto → Prop) (fin : ∀ ρ S, I [] ρ S → E.nx ρ S)
    (step : ∀ d r ρ S (K : Rho → Sto → Prop), (∀ ρ S, I r ρ S → K ρ S) → I (d :: r) ρ S → g (.val d) ρ S fun ρ1 S1 => tb { nx := K, rt := E.rt, bk := E.nx, ct := K } ρ1 S1) :
    ∀ (ds : List D) (ρ : Rho) (S : Sto), I ds ρ S → forItems g tb E ds ρ S
  | [], ρ, S, h => fin ρ S h
  | d :: r, ρ, S, h => step d r ρ S (forItems g tb E r) (fun ρ S q => for_inv I fin step r ρ S q) h
def lcPut (acc : List D) (K : List D → Sto → Prop) (w : W) (S : Sto) : Prop := match w with
  | .val y => acc.length < sizeLine ∧ K (acc ++ [y]) S
  | _ => False
theorem lc_inv {g : MG} {c : MT} {e : ME} {ρ : Rho} {kn : List D → Sto → Prop} (I : List D → List D → Sto → Prop) (fin : ∀ acc S, I [] acc S → kn acc S)
    (step : ∀ d r acc S (K : List D → Sto → Prop), (∀ acc S, I r acc S → K acc S) → I (d :: r) acc S → g (.val d) ρ S fun ρ2 S2 => c ρ2 S2 fun b S3 => if b = true then e ρ2 S3 fun w S4 => lcPut acc K w S4 else K acc S3) :
    ∀ (ds acc : List D) (S : Sto), I ds acc S → lcItems g c e ρ kn ds acc S
  | [], acc, S, h => fin acc S h
  | d :: r, acc, S, h => step d r acc S (fun acc S => lcItems g c e ρ kn r acc S) (fun acc S q => lc_inv I fin step r acc S q) h
theorem lcput_i {acc : List D} {K : List D → Sto → Prop} (h : acc.length < sizeLine) (q : K (acc ++ [d]) S) : lcPut acc K (.val d) S := ⟨h, q⟩
/-! calls -/
theorem mCall_i {f : MF} {dws : List W} (q : args ρ S fun ws S1 => callW f (ws ++ dws) S1 k) : mCall f args dws ρ S k := q
theorem mCallK_i {f : MF} {kw : MA} (q : args ρ S fun ws S1 => kw ρ S1 fun zs S2 => callW f (ws ++ zs) S2 k) : mCallK f args kw ρ S k := q
/-- no cell is handed in -/
theorem call_0 {f : MF} {ws : List W} (h0 : refsOf ws = []) (q : f (renum 0 ws) [] fun w S' => match w with
    | .val d => k (.val d) S
    | .ref m => m = 0 ∧ ∃ ob, S'[0]? = some ob ∧ ob ≠ .dead ∧ k (.ref S.length) (S ++ [ob])
    | _ => False) (mo : MonoF f) : callW f ws S k := by
  refine ⟨by rw [h0]; exact List.nodup_nil, fun n hn => by (rw [h0] at hn; cases hn), ?_⟩
  rw [h0]
  refine mo _ _ _ _ (fun w S' h => ?_) q
  have e0 : putL S [] S' = S := by unfold putL; rfl
  cases w with
  | lws _ => exact h.elim
  | ins _ _ _ => exact h.elim
  | fn _ => exact h.elim
  | tpl _ => exact h.elim
  | exv _ => exact h.elim
  | lsw _ => exact h.elim
  | val d =>
    show k (.val d) (putL S [] S')
    rw [e0]
    exact h
  | ref m =>
    obtain ⟨h1, ob, h2, h3, h4⟩ := h
    refine ⟨h1, ?_⟩
    rw [show S'[([] : List Nat).length]? = some ob from h2, e0]
    exact ⟨h3, h4⟩
/-- one cell is handed in -/
theorem call_1 {f : MF} {ws : List W} {ob : Ob} (h0 : refsOf ws = [n]) (hS : S[n]? = some ob) (nd : ob ≠ .dead) (q : f (renum 0 ws) [ob] fun w S' => ∃ ob' r, S' = ob' :: r ∧ match w with
    | .val d => k (.val d) (S.set n ob')
    | .ref m => m = 1 ∧ ∃ o2, r[0]? = some o2 ∧ o2 ≠ .dead ∧ k (.ref S.length) (S.set n ob' ++ [o2])
    | _ => False) (mo : MonoF f) : callW f ws S k := by
  refine ⟨by rw [h0]; simp, fun m hm => by
    rw [h0] at hm
    simp at hm
    subst hm
    exact ⟨ob, hS, nd⟩, ?_⟩
  rw [h0]
  have e : pickS S [n] = [ob] := by
    unfold pickS
    simp [hS]
  rw [e]
  refine mo _ _ _ _ (fun w S' h => ?_) q
  obtain ⟨ob', r, e2, h⟩ := h
  subst e2
  have e0 : putL S [n] (ob' :: r) = S.set n ob' := by
    unfold putL
    unfold putL
    rfl
  cases w with
  | lws _ => exact h.elim
  | ins _ _ _ => exact h.elim
  | fn _ => exact h.elim
  | tpl _ => exact h.elim
  | exv _ => exact h.elim
  | lsw _ => exact h.elim
  | val d =>
    show k (.val d) (putL S [n] (ob' :: r))
    rw [e0]
    exact h
  | ref m =>
    obtain ⟨h1, o2, h2, h3, h4⟩ := h
    refine ⟨h1, ?_⟩
    rw [show (ob' :: r)[[n].length]? = some o2 from h2, e0]
    exact ⟨h3, h4⟩
theorem fin_v {f : KW} (q : f (.val d) (S.take n)) : finK n f (.val d) S := q
theorem fin_r {f : KW} {ob : Ob} (hn : i ≤ n) (h : S[n]? = some ob) (nd : ob ≠ .dead) (q : f (.ref i) (S.take i ++ [ob])) : finK i f (.ref n) S := by
  refine ⟨hn, ?_⟩
  simp only [h]
  exact ⟨nd, q⟩
end
end Fo
/-! Ms: the mirrors of the defs first met in this law. Printed by gen.py. -/
namespace Fo
open PySem PySem.Spec PyProof.Rows L2
def t__law_open : MF := mfun 4
    (sSeq (sSet 1 (mCell (nCallB listF (aCons (mSlice (mVar 0) oNo (oAt (mC (.int 12)))) aNil))))
    (sSeq (sFor (iEnum1 (aCons (mSlice (mVar 0) (oAt (mC (.int 12))) (oAt (mC (.int 63)))) aNil)) (gTupM (gsCons (gVar 2) (gsCons (gVar 3) gsNil))) (sAsg (mBin addD (mBin ixD (mVar 1) (mBin modD (mVar 2) (mC (.int 12)))) (mVar 3)) (gIx (mVar 1) (mBin modD (mVar 2) (mC (.int 12))))))
    (sRet (mCell (nLst (aCons (mFrz 1) (aCons (mC (.int 0)) (aCons (mC (.int 0)) aNil))))))))
theorem m__law_open : MonoF t__law_open := mfun_mono
def t__law_spread : MF := mfun 6
    (sSeq (sIf (mCond (mBin geD (mVar 0) (mBin powD (mC (.int 10)) (mC (.int 18))))) (sRet (mVar 0)) sNext)
    (sSeq (sSet 2 (mVal (nLst (aCons (mC (.int 2147483629)) (aCons (mC (.int 2147483587)) (aCons (mC (.int 2147483579)) (aCons (mC (.int 2147483563)) (aCons (mC (.int 2147483549)) (aCons (mC (.int 2147483543)) (aCons (mC (.int 2147483497)) (aCons (mC (.int 2147483489)) aNil)))))))))))
    (sSeq (sSet 2 (mBin addD (mVar 2) (mVal (nLst (aCons (mC (.int 2147483477)) (aCons (mC (.int 2147483423)) (aCons (mC (.int 2147483399)) (aCons (mC (.int 2147483353)) (aCons (mC (.int 2147483323)) aNil)))))))))
    (sSeq (sSet 3 (mBin modD (mBin powD (mBin addD (mBin addD (mBin mulD (mBin modD (mVar 0) (mC (.int 1000000007))) (mBin addD (mBin mulD (mC (.int 2)) (mVar 1)) (mC (.int 69069)))) (mBin mulD (mVar 1) (mC (.int 40503)))) (mC (.int 977))) (mC (.int 3))) (mBin ixD (mVar 2) (mBin modD (mVar 1) (mC (.int 13))))))
    (sSeq (sSet 4 (mBin modD (mBin powD (mBin addD (mBin addD (mBin mulD (mVar 3) (mBin addD (mVar 1) (mC (.int 3)))) (mBin modD (mVar 0) (mC (.int 65537)))) (mC (.int 5))) (mC (.int 5))) (mBin ixD (mVar 2) (mBin modD (mBin addD (mVar 1) (mC (.int 5))) (mC (.int 13))))))
    (sSeq (sSet 5 (mBin modD (mBin powD (mBin addD (mBin addD (mVar 4) (mBin modD (mVar 3) (mC (.int 1009)))) (mVar 1)) (mC (.int 3))) (mBin ixD (mVar 2) (mBin modD (mBin addD (mVar 1) (mC (.int 7))) (mC (.int 13))))))
    (sRet (mBin addD (mBin mulD (mBin addD (mBin mulD (mVar 3) (mC (.int 2147483647))) (mVar 4)) (mC (.int 2147483647))) (mVar 5)))))))))
theorem m__law_spread : MonoF t__law_spread := mfun_mono
def t__law_take : MF := mfun 5
    (sSeq (sIf (mCond (mBin ltD (mBin ixD (mVar 0) (mC (.int 2))) (mVar 1))) (sSeq (sSet 3 (mBin ixD (mVar 0) (mC (.int 1))))
    (sSeq (sSet 4 (mC (.int 0)))
    (sSeq (sIf (mCond (mBin ltD (mVar 3) (mCallB lenC (aCons (mBin ixD (mVar 0) (mC (.int 0))) aNil)))) (sSet 4 (mBin ixD (mBin ixD (mVar 0) (mC (.int 0))) (mVar 3))) (sIf (mCond (mBin gtD (mCallB lenC (aCons (mBin ixD (mVar 0) (mC (.int 0))) aNil)) (mC (.int 0)))) (sSet 4 (mBin modD (mBin ixD (mBin ixD (mVar 0) (mC (.int 0))) (mBin modD (mBin addD (mBin mulD (mVar 3) (mC (.int 5))) (mC (.int 3))) (mCallB lenC (aCons (mBin ixD (mVar 0) (mC (.int 0))) aNil)))) (mBin addD (mBin powD (mC (.int 10)) (mC (.int 17))) (mVar 3)))) sNext))
    (sSeq (sAsg (mBin addD (mVar 3) (mC (.int 1))) (gIx (mVar 0) (mC (.int 1))))
    (sAsg (mCall t__law_spread (aCons (mVar 4) (aCons (mVar 3) aNil)) []) (gIx (mVar 0) (mC (.int 2)))))))) sNext)
    (sSeq (sSet 2 (mBin modD (mBin ixD (mVar 0) (mC (.int 2))) (mVar 1)))
    (sSeq (sAsg (mBin fdivD (mBin ixD (mVar 0) (mC (.int 2))) (mVar 1)) (gIx (mVar 0) (mC (.int 2))))
    (sRet (mVar 2)))))
theorem m__law_take : MonoF t__law_take := mfun_mono
def t__law_same : Nat → MF
  | 0 => mNever
  | n + 1 => mfun 4
    (sSeq (sIf (cOr (mCond (mBin (isD false) (mVar 1) (mC .non))) (mCond (mBin (isD false) (mVar 0) (mC .non)))) (sRet (mAnd (mBin (isD false) (mVar 1) (mC .non)) (mBin (isD false) (mVar 0) (mC .non)))) sNext)
    (sSeq (sIf (cOr (mCond (mIsi "bool" (mVar 1))) (mCond (mIsi "bool" (mVar 0)))) (sRet (mAnd (mIsi "bool" (mVar 1)) (mAnd (mIsi "bool" (mVar 0)) (mBin (eqD false) (mVar 0) (mVar 1))))) sNext)
    (sSeq (sIf (mCond (mIsiT ["int", "str"] (mVar 1))) (sSeq (sIf (mCond (mBin (eqD true) (mIsi "int" (mVar 0)) (mIsi "int" (mVar 1)))) (sRet (mC (.bl false))) sNext)
    (sRet (mAnd (mIsiT ["int", "str"] (mVar 0)) (mBin (eqD false) (mVar 0) (mVar 1))))) sNext)
    (sSeq (sIf (cOr (mCond (mBin (eqD true) (mIsi "tuple" (mVar 1)) (mIsi "tuple" (mVar 0)))) (mCond (mBin (eqD true) (mIsi "list" (mVar 1)) (mIsi "list" (mVar 0))))) (sRet (mC (.bl false))) sNext)
    (sSeq (sIf (mCond (mBin (eqD true) (mCallB lenC (aCons (mVar 0) aNil)) (mCallB lenC (aCons (mVar 1) aNil)))) (sRet (mC (.bl false))) sNext)
    (sRet (mBin (inD true) (mC (.bl false)) (mVal (nLC (iZip2 false (aCons (mVar 0) (aCons (mVar 1) aNil))) (gTupM (gsCons (gVar 2) (gsCons (gVar 3) gsNil))) cYes (mCall (t__law_same n) (aCons (mVar 2) (aCons (mVar 3) aNil)) []) [2, 3])))))))))
theorem m__law_same (n : Nat) : MonoF (t__law_same n) := by
  cases n with
  | zero => exact mNever_mono
  | succ n => exact mfun_mono
end Fo
/-! Dic1: dicts whose keys are tuples: what they hold, a store. -/
namespace Fo
open PySem PySem.Spec PyProof.Rows L2
/-! ### keys -/
mutual
inductive KeyV (H : Hp) : V → NestedKey → Prop
  | non : KeyV H .non .none
  | bl (b : Bool) : KeyV H (.bl b) (.num (if b = true then 1 else 0))
  | int (i : Int) : KeyV H (.int i) (.num i)
  | str (x : Str) : KeyV H (.str x) (.text x)
  | tup {a : Addr} {vs : List V} {ks : List NestedKey} (e : H a = some (.tup vs)) (h : KeyVs H vs ks) : KeyV H (.ref a) (.tup ks)
inductive KeyVs (H : Hp) : List V → List NestedKey → Prop
  | nil : KeyVs H [] []
  | cons {v : V} {k : NestedKey} {vs : List V} {ks : List NestedKey} (h : KeyV H v k) (t : KeyVs H vs ks) : KeyVs H (v :: vs) (k :: ks)
end
mutual
/-- what may be a key -/
def Kb : D → Prop
  | .non => True
  | .bl _ => True
  | .int _ => True
  | .str _ => True
  | .tup l => Kbs l
  | _ => False
def Kbs : List D → Prop
  | [] => True
  | d :: ds => Kb d ∧ Kbs ds
end
variable {K : Kw}
mutual
theorem RV.key {H : Hp} {av : Addr → Prop} : ∀ {d : D} {v : V}, RV K H av d v → Kb d → KeyV H v (nk d)
  | .non, _, h, _ => by unfold RV at h; subst h; exact .non
  | .bl b, _, h, _ => by unfold RV at h; subst h; exact .bl b
  | .int b, _, h, _ => by unfold RV at h; subst h; exact .int b
  | .str b, _, h, _ => by unfold RV at h; subst h; exact .str _
  | .tup ds, _, h, q => by
    unfold RV at h
    obtain ⟨a, vs, rfl, r, _, t⟩ := h
    unfold Kb at q
    exact .tup r (RVs.key t q)
  | .lst _, _, _, q => by unfold Kb at q; exact q.elim
  | .dct _ _, _, _, q => by unfold Kb at q; exact q.elim
  | .scr _, _, _, q => by unfold Kb at q; exact q.elim
theorem RVs.key {H : Hp} {av : Addr → Prop} : ∀ {ds : List D} {vs : List V}, RVs K H av ds vs → Kbs ds → KeyVs H vs (nks ds)
  | [], _, h, _ => by unfold RVs at h; subst h; exact .nil
  | d :: ds, _, h, q => by
    unfold RVs at h
    obtain ⟨v, r, rfl, h1, h2⟩ := h
    unfold Kbs at q
    exact .cons (RV.key h1 q.1) (RVs.key h2 q.2)
end
/-! ### what a dict holds -/
end Fo
/-! Dic3: dicts whose keys are whole numbers and texts: locked, walked, read, stored into. -/
namespace Fo
open PySem PySem.Spec PyProof.Rows L2
variable {K : Kw}
/-! ### a cell is data from now on -/
/-! ### keys -/
def keyOf : D → Option Key
  | .int i => some (.inl i)
  | .str l => some (.inr (tx l))
  | _ => none
/-- all keys are whole numbers, texts -/
def KsOk (ks : List D) : Prop := ∃ kys : List Key, ks = kys.map Fo.keyD
/-! ### reading -/
def kAt : List D → List D → Key → Option D
  | k :: ks, w :: ws, x => if keyOf k = some x then some w else kAt ks ws x
  | _, _, _ => none
def kSet : List D → List D → Key → D → List D
  | k :: ks, w :: ws, x, d => (if keyOf k = some x then d else w) :: kSet ks ws x d
  | _, _, _, _ => []
def kPut (ks ws : List D) (x : Key) (d : D) : List D × List D := if (kAt ks ws x).isSome then (ks, kSet ks ws x d) else (ks ++ [Fo.keyD x], ws ++ [d])
end Fo
/-! Dic4: d[k], d.get(k, x), d[k] = v, {}, {k: v}, for keys that are whole numbers, texts. -/
namespace Fo
open PySem PySem.Spec PyProof.Rows L2
variable {K : Kw}
/-- a dict is wanted -/
def asDic (w : W) (S : Sto) (k : List D → List D → Prop) : Prop := match w with
  | .val (.dct ks ws) => k ks ws
  | .ref n => match S[n]? with
    | some (.dic ks ws) => k ks ws
    | _ => False
  | _ => False
def dicC (w : W) (S : Sto) (k : Nat → List D → List D → Prop) : Prop := match w with
  | .ref n => match S[n]? with
    | some (.dic ks ws) => k n ks ws
    | _ => False
  | _ => False
def keyW (z : W) (k : Key → Prop) : Prop := match z with
  | .val (.int i) => k (.inl i)
  | .val (.str l) => k (.inr (tx l))
  | _ => False
/-! ### d[k] -/
def atK (o : Option D) (S : Sto) (k : KW) : Prop := match o with
  | some d => k (.val d) S
  | none => False
def mDGet (o i : ME) : ME := fun ρ S k => o ρ S fun w S1 => i ρ S1 fun z S2 => asDic w S2 fun ks ws => keyW z fun x => KsOk ks ∧ atK (kAt ks ws x) S2 k
/-! ### d.get(k, x) -/
def mDGet2 (o i e : ME) : ME := fun ρ S k => o ρ S fun w S1 => asDic w S1 fun ks _ => KsOk ks ∧ i ρ S1 fun z S2 => e ρ S2 fun u S3 => asDic w S3 fun ks ws => keyW z fun x => KsOk ks ∧ match kAt ks ws x with
  | some d => k (.val d) S3
  | none => k u S3
/-! ### d[k] = v -/
def sDPut (o i e : ME) : MS := fun E ρ S => e ρ S fun u S1 => o ρ S1 fun w S2 => i ρ S2 fun z S3 => dicC w S3 fun n ks ws => keyW z fun x => match u with
  | .val d => (KsOk ks ∧ ks.length < sizeLine) ∧ E.nx ρ (S3.set n (.dic (kPut ks ws x d).1 (kPut ks ws x d).2))
  | _ => False
/-! ### {}, {k: v} -/
def mDNew : ME := fun ρ S k => k (.ref S.length) (S ++ [.dic [] []])
def mDNew1 (t e : ME) : ME := fun ρ S k => t ρ (S ++ [.dic [] []]) fun z S1 => e ρ S1 fun u S2 => keyW z fun x => match u with
  | .val d => S2[S.length]? = some (.dic [] []) ∧ k (.ref S.length) (S2.set S.length (.dic [keyD x] [d]))
  | _ => False
/-! ### steps of a walk -/
section
variable {ρ : Rho} {S : Sto} {k : KW} {E : End} {w : W} {d : D} {i n : Nat} {t u e : ME} {ks ws : List D}
theorem asDic_v {kd : List D → List D → Prop} (q : kd ks ws) : asDic (.val (.dct ks ws)) S kd := q
theorem asDic_r {kd : List D → List D → Prop} (h : S[n]? = some (.dic ks ws)) (q : kd ks ws) : asDic (.ref n) S kd := by
  unfold asDic
  simp only [h]
  exact q
theorem dicC_r {kd : Nat → List D → List D → Prop} (h : S[n]? = some (.dic ks ws)) (q : kd n ks ws) : dicC (.ref n) S kd := by
  unfold dicC
  simp only [h]
  exact q
theorem keyW_i {x : Int} {kk : Key → Prop} (q : kk (.inl x)) : keyW (.val (.int x)) kk := q
theorem keyW_s {s : List Nat} {kk : Key → Prop} (q : kk (.inr (tx s))) : keyW (.val (.str s)) kk := q
theorem mDGet_i (q : t ρ S fun w S1 => u ρ S1 fun z S2 => asDic w S2 fun ks ws => keyW z fun x => KsOk ks ∧ atK (kAt ks ws x) S2 k) : mDGet t u ρ S k := q
theorem mDGet2_i (q : t ρ S fun w S1 => asDic w S1 fun ks _ => KsOk ks ∧ u ρ S1 fun z S2 => e ρ S2 fun u S3 => asDic w S3 fun ks ws => keyW z fun x => KsOk ks ∧ match kAt ks ws x with
  | some d => k (.val d) S3
  | none => k u S3) : mDGet2 t u e ρ S k := q
theorem sDPut_i (q : e ρ S fun u' S1 => t ρ S1 fun w S2 => u ρ S2 fun z S3 => dicC w S3 fun n ks ws => keyW z fun x => match u' with
  | .val d => (KsOk ks ∧ ks.length < sizeLine) ∧ E.nx ρ (S3.set n (.dic (kPut ks ws x d).1 (kPut ks ws x d).2))
  | _ => False) : sDPut t u e E ρ S := q
theorem mDNew_i (q : k (.ref S.length) (S ++ [.dic [] []])) : mDNew ρ S k := q
theorem mDNew1_i (q : t ρ (S ++ [.dic [] []]) fun z S1 => e ρ S1 fun u S2 => keyW z fun x => match u with
  | .val d => S2[S.length]? = some (.dic [] []) ∧ k (.ref S.length) (S2.set S.length (.dic [Fo.keyD x] [d]))
  | _ => False) : mDNew1 t e ρ S k := q
end
end Fo
/-! Dic2: dicts whose keys are tuples, in the clean domain. -/
namespace Fo
open PySem PySem.Spec PyProof.Rows L2
variable {K : Kw}
def KeyT (d : D) : Prop := (∃ l, d = .tup l) ∧ Kb d ∧ (nk d).depth ≤ 8
def dAt : List D → List D → NestedKey → Option D
  | k :: ks, w :: ws, x => if nk k = x then some w else dAt ks ws x
  | _, _, _ => none
def dSet : List D → List D → NestedKey → D → List D
  | k :: ks, w :: ws, x, d => (if nk k = x then d else w) :: dSet ks ws x d
  | _, _, _, _ => []
def dPut (ks ws : List D) (key d : D) : List D × List D := if (dAt ks ws (nk key)).isSome then (ks, dSet ks ws (nk key) d) else (ks ++ [key], ws ++ [d])
/-- how the two sides of a dict hang together -/
structure DT (K : Kw) (H : Hp) (av : Addr → Prop) (ks ws : List D) (ys : List (NestedKey × Addr × V)) : Prop where
  key : nks ks = ys.map (·.1)
  kv : RVs K H av ks (ys.map fun y => V.ref y.2.1)
  vs : RVs K H av ws (ys.map (·.2.2))
/-! ### in -/
end Fo
/-! Dic5: d[k], d[k] = v, {k: v}, for keys that are tuples. -/
namespace Fo
open PySem PySem.Spec PyProof.Rows L2
variable {K : Kw}
def keyTW (z : W) (k : D → Prop) : Prop := match z with
  | .val d => KeyT d ∧ k d
  | _ => False
/-! ### d[k] -/
def mDGetT (o i : ME) : ME := fun ρ S k => o ρ S fun w S1 => i ρ S1 fun z S2 => asDic w S2 fun ks ws => keyTW z fun x => (∀ k ∈ ks, KeyT k) ∧ atK (dAt ks ws (nk x)) S2 k
/-! ### d[k] = v -/
theorem nks_len : ∀ ks : List D, (nks ks).length = ks.length
  | [] => rfl
  | k :: ks => by
    show (nks ks).length + 1 = _
    rw [nks_len ks]
    rfl
theorem DT.len {K : Kw} {H : Hp} {av : Addr → Prop} {ks ws : List D} {ys : List (NestedKey × Addr × V)} (h : DT K H av ks ws ys) : ys.length = ks.length := by
  have := congrArg List.length h.key
  rw [nks_len, List.length_map] at this
  exact this.symm
def sDPutT (o i e : ME) : MS := fun E ρ S => e ρ S fun u S1 => o ρ S1 fun w S2 => i ρ S2 fun z S3 => dicC w S3 fun n ks ws => keyTW z fun x => match u with
  | .val d => ((∀ k ∈ ks, KeyT k) ∧ ks.length < sizeLine) ∧ E.nx ρ (S3.set n (.dic (dPut ks ws x d).1 (dPut ks ws x d).2))
  | _ => False
/-! ### {k: v} -/
def mDNewT (t e : ME) : ME := fun ρ S k => t ρ (S ++ [.dic [] []]) fun z S1 => e ρ S1 fun u S2 => keyTW z fun x => match u with
  | .val d => S2[S.length]? = some (.dic [] []) ∧ k (.ref S.length) (S2.set S.length (.dic [x] [d]))
  | _ => False
/-! ### steps of a walk -/
section
variable {ρ : Rho} {S : Sto} {k : KW} {E : End} {w : W} {d : D} {i n : Nat} {t u e : ME} {ks ws : List D}
theorem mDGetT_i (q : t ρ S fun w S1 => u ρ S1 fun z S2 => asDic w S2 fun ks ws => keyTW z fun x => (∀ k ∈ ks, KeyT k) ∧ atK (dAt ks ws (nk x)) S2 k) : mDGetT t u ρ S k := q
theorem sDPutT_i (q : e ρ S fun u' S1 => t ρ S1 fun w S2 => u ρ S2 fun z S3 => dicC w S3 fun n ks ws => keyTW z fun x => match u' with
  | .val d => ((∀ k ∈ ks, KeyT k) ∧ ks.length < sizeLine) ∧ E.nx ρ (S3.set n (.dic (dPut ks ws x d).1 (dPut ks ws x d).2))
  | _ => False) : sDPutT t u e E ρ S := q
theorem mDNewT_i (q : t ρ (S ++ [.dic [] []]) fun z S1 => e ρ S1 fun u S2 => keyTW z fun x => match u with
  | .val d => S2[S.length]? = some (.dic [] []) ∧ k (.ref S.length) (S2.set S.length (.dic [x] [d]))
  | _ => False) : mDNewT t e ρ S k := q
end
end Fo
/-! Core13: small facts for the plain laws. -/
namespace Fo
open PySem PySem.Spec PyProof.Rows L2
theorem atI_nat {α : Type} {l : List α} {n : Nat} {x : α} (h : l[n]? = some x) : atI l (n : Int) = some x := by
  have hn : n < l.length := (List.getElem?_eq_some_iff.mp h).1
  unfold atI ixN
  rw [if_pos (by omega), if_pos (by omega)]
  simpa using h
theorem atI_in {α : Type} {l : List α} {i : Int} (h0 : 0 ≤ i) (h1 : i < l.length) : ∃ x, atI l i = some x ∧ x ∈ l ∧ l[i.toNat]? = some x := by
  have hn : i.toNat < l.length := by omega
  refine ⟨l[i.toNat], ?_, List.getElem_mem hn, List.getElem?_eq_getElem hn⟩
  have e := atI_nat (l := l) (n := i.toNat) (List.getElem?_eq_getElem hn)
  rw [Int.toNat_of_nonneg h0] at e
  exact e
theorem ixN_in {n : Nat} {i : Int} (h0 : 0 ≤ i) (h1 : i < n) : ixN n i = some i.toNat := by
  unfold ixN
  rw [if_pos h0, if_pos h1]
theorem mul_b {a b A B : Int} (h1 : 0 ≤ a) (h2 : a ≤ A) (h3 : 0 ≤ b) (h4 : b ≤ B) : 0 ≤ a * b ∧ a * b ≤ A * B :=
  ⟨Int.mul_nonneg h1 h3, Int.mul_le_mul h2 h4 h3 (by omega)⟩
theorem emod_b (a : Int) {b : Int} (h : 0 < b) : 0 ≤ a % b ∧ a % b < b := ⟨Int.emod_nonneg a (by omega), Int.emod_lt_of_pos a h⟩
theorem all_ints {p : Int → Bool} {l : List D} (h : (l.all fun d => match d with
    | .int i => p i
    | _ => false) = true) {d : D} (hd : d ∈ l) : ∃ i, d = .int i ∧ p i = true := by
  have q := List.all_eq_true.mp h d hd
  cases d with
  | int i => exact ⟨i, rfl, q⟩
  | _ => cases q
end Fo
/-! Pen: what the laws draw by. -/
local macro_rules | `(tactic| mexact) => `(tactic| (dsimp only))
local macro_rules | `(tactic| mexact) => `(tactic| (with_reducible refine Fo.fin_v ?_))
local macro_rules | `(tactic| mexact) => `(tactic| (with_reducible refine Fo.if_f rfl ?_))
local macro_rules | `(tactic| mexact) => `(tactic| (with_reducible refine Fo.if_t rfl ?_))
local macro_rules | `(tactic| mexact) => `(tactic| ((with_reducible refine Fo.len_s ?_ ?_); (exact Nat.le_of_ble_eq_true rfl)))
local macro_rules | `(tactic| mexact) => `(tactic| ((with_reducible refine Fo.sl_s ?_ ?_); (exact Nat.le_of_ble_eq_true rfl)))
local macro_rules | `(tactic| mexact) => `(tactic| ((with_reducible refine Fo.append_i ?_ ?_); (exact Nat.le_of_ble_eq_true rfl)))
local macro_rules | `(tactic| mexact) => `(tactic| ((with_reducible refine Fo.add_s ?_ ?_); (exact Nat.le_of_ble_eq_true rfl)))
local macro_rules | `(tactic| mexact) => `(tactic| ((with_reducible refine Fo.add_t ?_ ?_); (exact Nat.le_of_ble_eq_true rfl)))
local macro_rules | `(tactic| mexact) => `(tactic| ((with_reducible refine Fo.addN_l ?_ ?_); (exact Nat.le_of_ble_eq_true rfl)))
local macro_rules | `(tactic| mexact) => `(tactic| ((with_reducible refine Fo.add_l ?_ ?_); (exact Nat.le_of_ble_eq_true rfl)))
local macro_rules | `(tactic| mexact) => `(tactic| ((with_reducible refine And.intro ?_ ?_); (exact Nat.le_of_ble_eq_true rfl)))
local macro_rules | `(tactic| mexact) => `(tactic| ((with_reducible refine Fo.fdiv_i ?_ ?_); (unfold L2.CDiv; omega)))
local macro_rules | `(tactic| mexact) => `(tactic| ((with_reducible refine Fo.mul_i ?_ ?_); (unfold L2.CMul; omega)))
local macro_rules | `(tactic| mexact) => `(tactic| ((with_reducible refine Fo.pow_i ?_ ?_); (exact ⟨by omega, by omega, by omega⟩)))
local macro_rules | `(tactic| mexact) => `(tactic| ((with_reducible refine Fo.mod_i ?_ ?_); (omega)))
local macro_rules | `(tactic| mexact) => `(tactic| ((with_reducible refine Fo.gput_i (p := ?_) ?_ ?_); (rotate_left); (exact rfl)))
local macro_rules | `(tactic| mexact) => `(tactic| ((with_reducible refine Fo.ix_l (d := ?_) ?_ ?_); (rotate_left); (exact rfl)))
local macro_rules | `(tactic| mexact) => `(tactic| ((with_reducible refine Fo.ix_t (d := ?_) ?_ ?_); (rotate_left); (exact rfl)))
local macro_rules | `(tactic| mexact) => `(tactic| ((with_reducible refine Fo.mFrz_r (n := ?_) (l := ?_) ?_ ?_ ?_); (rotate_left 2); (exact rfl); (exact rfl)))
local macro_rules | `(tactic| mexact) => `(tactic| ((with_reducible refine Fo.rd_d (ks := ?_) (ws := ?_) ?_ ?_); (rotate_left 2); (exact rfl)))
local macro_rules | `(tactic| mexact) => `(tactic| ((with_reducible refine Fo.mFrz_v (d := ?_) ?_ ?_); (rotate_left); (exact rfl)))
local macro_rules | `(tactic| mexact) => `(tactic| ((with_reducible refine Fo.asCell_i (l := ?_) ?_ ?_); (rotate_left); (exact rfl)))
local macro_rules | `(tactic| mexact) => `(tactic| ((with_reducible refine Fo.sAug_i (w := ?_) ?_ ?_); (rotate_left); (exact rfl)))
local macro_rules | `(tactic| mexact) => `(tactic| ((with_reducible refine Fo.lstW_r (l := ?_) ?_ ?_); (rotate_left); (exact rfl)))
local macro_rules | `(tactic| mexact) => `(tactic| ((with_reducible refine Fo.rd_l (l := ?_) ?_ ?_); (rotate_left); (exact rfl)))
local macro_rules | `(tactic| mexact) => `(tactic| ((with_reducible refine Fo.mVar_i (w := ?_) ?_ ?_); (rotate_left); (exact rfl)))
local macro_rules | `(tactic| mexact) => `(tactic| (with_reducible refine Fo.int1_i ?_))
local macro_rules | `(tactic| mexact) => `(tactic| (with_reducible refine Fo.int1_b ?_))
local macro_rules | `(tactic| mexact) => `(tactic| (with_reducible refine Fo.nostrict ?_))
local macro_rules | `(tactic| mexact) => `(tactic| (with_reducible refine Fo.seqW_s ?_))
local macro_rules | `(tactic| mexact) => `(tactic| (with_reducible refine Fo.seqW_t ?_))
local macro_rules | `(tactic| mexact) => `(tactic| (with_reducible refine Fo.seqW_l ?_))
local macro_rules | `(tactic| mexact) => `(tactic| (with_reducible refine Fo.rev_l ?_))
local macro_rules | `(tactic| mexact) => `(tactic| (with_reducible refine Fo.rev_t ?_))
local macro_rules | `(tactic| mexact) => `(tactic| (with_reducible refine Fo.lstW_v ?_))
local macro_rules | `(tactic| mexact) => `(tactic| (with_reducible refine Fo.asZ_t ?_))
local macro_rules | `(tactic| mexact) => `(tactic| (with_reducible refine Fo.asZ_l ?_))
local macro_rules | `(tactic| mexact) => `(tactic| (with_reducible refine Fo.itV_s ?_))
local macro_rules | `(tactic| mexact) => `(tactic| (with_reducible refine Fo.itV_t ?_))
local macro_rules | `(tactic| mexact) => `(tactic| (with_reducible refine Fo.itV_l ?_))
local macro_rules | `(tactic| mexact) => `(tactic| (with_reducible refine Fo.listF_t ?_))
local macro_rules | `(tactic| mexact) => `(tactic| (with_reducible refine Fo.listF_l ?_))
local macro_rules | `(tactic| mexact) => `(tactic| (with_reducible refine Fo.tuple_t ?_))
local macro_rules | `(tactic| mexact) => `(tactic| (with_reducible refine Fo.tuple_l ?_))
local macro_rules | `(tactic| mexact) => `(tactic| (with_reducible refine Fo.min2_i ?_))
local macro_rules | `(tactic| mexact) => `(tactic| (with_reducible refine Fo.len_t ?_))
local macro_rules | `(tactic| mexact) => `(tactic| (with_reducible refine Fo.len_l ?_))
local macro_rules | `(tactic| mexact) => `(tactic| (with_reducible refine Fo.sl_c ?_))
local macro_rules | `(tactic| mexact) => `(tactic| (with_reducible refine Fo.sl_l ?_))
local macro_rules | `(tactic| mexact) => `(tactic| (with_reducible refine Fo.sl_t ?_))
local macro_rules | `(tactic| mexact) => `(tactic| (with_reducible refine Fo.in_s ?_))
local macro_rules | `(tactic| mexact) => `(tactic| (with_reducible refine Fo.eq_b ?_))
local macro_rules | `(tactic| mexact) => `(tactic| (with_reducible refine Fo.eq_s ?_))
local macro_rules | `(tactic| mexact) => `(tactic| (with_reducible refine Fo.eq_i ?_))
local macro_rules | `(tactic| mexact) => `(tactic| (with_reducible refine Fo.is_b ?_))
local macro_rules | `(tactic| mexact) => `(tactic| (with_reducible refine Fo.is_n ?_))
local macro_rules | `(tactic| mexact) => `(tactic| (with_reducible refine Fo.ge_s ?_))
local macro_rules | `(tactic| mexact) => `(tactic| (with_reducible refine Fo.gt_s ?_))
local macro_rules | `(tactic| mexact) => `(tactic| (with_reducible refine Fo.le_s ?_))
local macro_rules | `(tactic| mexact) => `(tactic| (with_reducible refine Fo.lt_s ?_))
local macro_rules | `(tactic| mexact) => `(tactic| (with_reducible refine Fo.ge_i ?_))
local macro_rules | `(tactic| mexact) => `(tactic| (with_reducible refine Fo.gt_i ?_))
local macro_rules | `(tactic| mexact) => `(tactic| (with_reducible refine Fo.le_i ?_))
local macro_rules | `(tactic| mexact) => `(tactic| (with_reducible refine Fo.lt_i ?_))
local macro_rules | `(tactic| mexact) => `(tactic| (with_reducible refine Fo.sub_i ?_))
local macro_rules | `(tactic| mexact) => `(tactic| (with_reducible refine Fo.iadd_i ?_))
local macro_rules | `(tactic| mexact) => `(tactic| (with_reducible refine Fo.add_i ?_))
local macro_rules | `(tactic| mexact) => `(tactic| (with_reducible refine Fo.rds_c ?_))
local macro_rules | `(tactic| mexact) => `(tactic| (with_reducible refine Fo.rds_n ?_))
local macro_rules | `(tactic| mexact) => `(tactic| (with_reducible refine Fo.vals_c ?_))
local macro_rules | `(tactic| mexact) => `(tactic| (with_reducible refine Fo.vals_n ?_))
local macro_rules | `(tactic| mexact) => `(tactic| (with_reducible refine Fo.par_i ?_))
local macro_rules | `(tactic| mexact) => `(tactic| (with_reducible refine Fo.rd_v ?_))
local macro_rules | `(tactic| mexact) => `(tactic| (with_reducible refine Fo.asL1_i ?_))
local macro_rules | `(tactic| mexact) => `(tactic| (with_reducible refine Fo.asI2_i ?_))
local macro_rules | `(tactic| mexact) => `(tactic| (with_reducible refine Fo.asI1_i ?_))
local macro_rules | `(tactic| mexact) => `(tactic| (with_reducible refine Fo.oAt_i ?_))
local macro_rules | `(tactic| mexact) => `(tactic| (with_reducible refine Fo.oNo_i ?_))
local macro_rules | `(tactic| mexact) => `(tactic| (with_reducible refine Fo.asS_i ?_))
local macro_rules | `(tactic| mexact) => `(tactic| (with_reducible refine Fo.asI_i ?_))
local macro_rules | `(tactic| mexact) => `(tactic| (with_reducible refine Fo.asB_i ?_))
local macro_rules | `(tactic| mexact) => `(tactic| (with_reducible refine Fo.gIx_i ?_))
local macro_rules | `(tactic| mexact) => `(tactic| (with_reducible refine Fo.gsNil_i ?_))
local macro_rules | `(tactic| mexact) => `(tactic| (with_reducible refine Fo.gsCons_i ?_))
local macro_rules | `(tactic| mexact) => `(tactic| (with_reducible refine Fo.gTupM_i ?_))
local macro_rules | `(tactic| mexact) => `(tactic| (with_reducible refine Fo.gVar_i ?_))
local macro_rules | `(tactic| mexact) => `(tactic| (with_reducible refine Fo.mCallK_i ?_))
local macro_rules | `(tactic| mexact) => `(tactic| (with_reducible refine Fo.mCall_i ?_))
local macro_rules | `(tactic| mexact) => `(tactic| (with_reducible refine Fo.nLC_i ?_))
local macro_rules | `(tactic| mexact) => `(tactic| (with_reducible refine Fo.sFor_i ?_))
local macro_rules | `(tactic| mexact) => `(tactic| (with_reducible refine Fo.sAugX_i ?_))
local macro_rules | `(tactic| mexact) => `(tactic| (with_reducible refine Fo.nBin_i ?_))
local macro_rules | `(tactic| mexact) => `(tactic| (with_reducible refine Fo.asE1_i ?_))
local macro_rules | `(tactic| mexact) => `(tactic| (with_reducible refine Fo.iEnum1_i ?_))
local macro_rules | `(tactic| mexact) => `(tactic| (with_reducible refine Fo.asZ3_i ?_))
local macro_rules | `(tactic| mexact) => `(tactic| (with_reducible refine Fo.asZ2_i ?_))
local macro_rules | `(tactic| mexact) => `(tactic| (with_reducible refine Fo.iZip3_i ?_))
local macro_rules | `(tactic| mexact) => `(tactic| (with_reducible refine Fo.iZip2_i ?_))
local macro_rules | `(tactic| mexact) => `(tactic| (with_reducible refine Fo.iZip_i ?_))
local macro_rules | `(tactic| mexact) => `(tactic| (with_reducible refine Fo.iEnumL_i ?_))
local macro_rules | `(tactic| mexact) => `(tactic| (with_reducible refine Fo.iRange2_i ?_))
local macro_rules | `(tactic| mexact) => `(tactic| (with_reducible refine Fo.iRange1_i ?_))
local macro_rules | `(tactic| mexact) => `(tactic| (with_reducible refine Fo.iVal_i ?_))
local macro_rules | `(tactic| mexact) => `(tactic| (with_reducible refine Fo.mIndexL_i ?_))
local macro_rules | `(tactic| mexact) => `(tactic| (with_reducible refine Fo.mMethS_i ?_))
local macro_rules | `(tactic| mexact) => `(tactic| (with_reducible refine Fo.mMethC0_i ?_))
local macro_rules | `(tactic| mexact) => `(tactic| (with_reducible refine Fo.mMethC_i ?_))
local macro_rules | `(tactic| mexact) => `(tactic| (with_reducible refine Fo.mIsiT_i ?_))
local macro_rules | `(tactic| mexact) => `(tactic| (with_reducible refine Fo.mIsi_i ?_))
local macro_rules | `(tactic| mexact) => `(tactic| (with_reducible refine Fo.nCallB_i ?_))
local macro_rules | `(tactic| mexact) => `(tactic| (with_reducible refine Fo.mCallB_i ?_))
local macro_rules | `(tactic| mexact) => `(tactic| (with_reducible refine Fo.mTup_i ?_))
local macro_rules | `(tactic| mexact) => `(tactic| (with_reducible refine Fo.nLst_i ?_))
local macro_rules | `(tactic| mexact) => `(tactic| (with_reducible refine Fo.mCell_i ?_))
local macro_rules | `(tactic| mexact) => `(tactic| (with_reducible refine Fo.mVal_i ?_))
local macro_rules | `(tactic| mexact) => `(tactic| (with_reducible refine Fo.aCons_i ?_))
local macro_rules | `(tactic| mexact) => `(tactic| (with_reducible refine Fo.aNil_i ?_))
local macro_rules | `(tactic| mexact) => `(tactic| (with_reducible refine Fo.mRev_i ?_))
local macro_rules | `(tactic| mexact) => `(tactic| (with_reducible refine Fo.mSlice_i ?_))
local macro_rules | `(tactic| mexact) => `(tactic| (with_reducible refine Fo.mChain_i ?_))
local macro_rules | `(tactic| mexact) => `(tactic| (with_reducible refine Fo.mNeg_i ?_))
local macro_rules | `(tactic| mexact) => `(tactic| (with_reducible refine Fo.mNot_i ?_))
local macro_rules | `(tactic| mexact) => `(tactic| (with_reducible refine Fo.mOr_i ?_))
local macro_rules | `(tactic| mexact) => `(tactic| (with_reducible refine Fo.mAnd_i ?_))
local macro_rules | `(tactic| mexact) => `(tactic| (with_reducible refine Fo.mIf_i ?_))
local macro_rules | `(tactic| mexact) => `(tactic| (with_reducible refine Fo.cYes_i ?_))
local macro_rules | `(tactic| mexact) => `(tactic| (with_reducible refine Fo.cNot_i ?_))
local macro_rules | `(tactic| mexact) => `(tactic| (with_reducible refine Fo.cOr_i ?_))
local macro_rules | `(tactic| mexact) => `(tactic| (with_reducible refine Fo.cAnd_i ?_))
local macro_rules | `(tactic| mexact) => `(tactic| (with_reducible refine Fo.mCond_i ?_))
local macro_rules | `(tactic| mexact) => `(tactic| (with_reducible refine Fo.mBin_i ?_))
local macro_rules | `(tactic| mexact) => `(tactic| (with_reducible refine Fo.mC_i ?_))
local macro_rules | `(tactic| mexact) => `(tactic| (with_reducible refine Fo.sPar_i ?_))
local macro_rules | `(tactic| mexact) => `(tactic| (with_reducible refine Fo.sAsg_i ?_))
local macro_rules | `(tactic| mexact) => `(tactic| (with_reducible refine Fo.sSet_i ?_))
local macro_rules | `(tactic| mexact) => `(tactic| (with_reducible refine Fo.sIf_i ?_))
local macro_rules | `(tactic| mexact) => `(tactic| (with_reducible refine Fo.sRetN_i ?_))
local macro_rules | `(tactic| mexact) => `(tactic| (with_reducible refine Fo.sRet_i ?_))
local macro_rules | `(tactic| mexact) => `(tactic| (with_reducible refine Fo.sExpr_i ?_))
local macro_rules | `(tactic| mexact) => `(tactic| (with_reducible refine Fo.sCont_i ?_))
local macro_rules | `(tactic| mexact) => `(tactic| (with_reducible refine Fo.sBrk_i ?_))
local macro_rules | `(tactic| mexact) => `(tactic| (with_reducible refine Fo.sNext_i ?_))
local macro_rules | `(tactic| array_get_dec) => `(tactic| repeat (first | (with_reducible refine Fo.sSeq_i ?_) | mexact))
local macro_rules | `(tactic| array_mem_dec) => `(tactic| repeat mexact)
local macro_rules | `(tactic| sizeOf_list_dec) => `(tactic| ((try dsimp only); (with_reducible refine Fo.sSeq_i ?_); array_mem_dec))
namespace Fo
open PySem PySem.Spec PyProof.Rows L2
theorem t_spread {cell at_ : Int} {k : KW} (h0 : 0 ≤ at_) (h1 : at_ ≤ 1000000000) (hk : ∀ r, k (.val (.int r)) []) : t__law_spread [.val (.int cell), .val (.int at_)] [] k := by
  have prime : ∀ i : Int, ∃ p : Int, atI ([D.int 2147483629, D.int 2147483587, D.int 2147483579, D.int 2147483563, D.int 2147483549, D.int 2147483543, D.int 2147483497, D.int 2147483489] ++
                [D.int 2147483477, D.int 2147483423, D.int 2147483399, D.int 2147483353, D.int 2147483323]) (i % 13) = some (.int p) ∧ 0 < p ∧ p < 2147483648 := fun i => by
    obtain ⟨b1, b2⟩ := emod_b i (show (0 : Int) < 13 by decide)
    obtain ⟨d, e, m, _⟩ := atI_in (l := [D.int 2147483629, D.int 2147483587, D.int 2147483579, D.int 2147483563, D.int 2147483549, D.int 2147483543, D.int 2147483497, D.int 2147483489] ++
                [D.int 2147483477, D.int 2147483423, D.int 2147483399, D.int 2147483353, D.int 2147483323]) b1 b2
    obtain ⟨p, rfl, q⟩ := all_ints (p := fun i => decide (0 < i) && decide (i < 2147483648)) rfl m
    simp at q
    exact ⟨p, e, q.1, q.2⟩
  unfold t__law_spread
  refine mfun_of ?_
  array_get_dec
  refine if_d (fun h => ?_) fun h => ?_
  · array_get_dec
    exact hk _
  · array_get_dec
    obtain ⟨a1, a2⟩ := emod_b cell (show (0 : Int) < 1000000007 by decide)
    obtain ⟨a3, a4⟩ := mul_b a1 (show _ ≤ (1000000007 : Int) by omega) (show 0 ≤ 2 * at_ + 69069 by omega) (show 2 * at_ + 69069 ≤ 2000069069 by omega)
    generalize cell % 1000000007 * (2 * at_ + 69069) = c1 at a3 a4 ⊢
    obtain ⟨p1, e1, l1, u1⟩ := prime at_
    obtain ⟨p2, e2, l2, u2⟩ := prime (at_ + 5)
    obtain ⟨p3, e3, l3, u3⟩ := prime (at_ + 7)
    array_get_dec
    refine ix_l e1 ?_
    array_get_dec
    obtain ⟨b1, b2⟩ := emod_b ((c1 + at_ * 40503 + 977) ^ Int.toNat 3) l1
    generalize (c1 + at_ * 40503 + 977) ^ Int.toNat 3 % p1 = one at b1 b2 ⊢
    array_get_dec
    obtain ⟨b3, b4⟩ := mul_b b1 (show one ≤ 2147483648 by omega) (show 0 ≤ at_ + 3 by omega) (show at_ + 3 ≤ 1000000003 by omega)
    obtain ⟨b5, b6⟩ := emod_b cell (show (0 : Int) < 65537 by decide)
    generalize one * (at_ + 3) = c2 at b3 b4 ⊢
    array_get_dec
    refine ix_l e2 ?_
    array_get_dec
    obtain ⟨b7, b8⟩ := emod_b ((c2 + cell % 65537 + 5) ^ Int.toNat 5) l2
    generalize (c2 + cell % 65537 + 5) ^ Int.toNat 5 % p2 = two at b7 b8 ⊢
    obtain ⟨b9, b10⟩ := emod_b one (show (0 : Int) < 1009 by decide)
    array_get_dec
    refine ix_l e3 ?_
    array_get_dec
    exact hk _
/-- a pen, of which at most m cells were taken -/
def Pen (m : Nat) (p : Ob) : Prop := ∃ (cs : List Int) (at_ rest : Int), p = .lst [.lst (cs.map D.int), .int at_, .int rest] ∧ 0 ≤ at_ ∧ at_ ≤ m
theorem Pen.nd {m : Nat} {p : Ob} (h : Pen m p) : p ≠ .dead := by
  obtain ⟨_, _, _, rfl, _⟩ := h
  intro z
  cases z
theorem Pen.mono {m n : Nat} {p : Ob} (h : Pen m p) (l : m ≤ n) : Pen n p := by
  obtain ⟨a, b, c, e, h0, h1⟩ := h
  exact ⟨a, b, c, e, h0, by omega⟩
theorem t_take {m : Nat} {p : Ob} {n : Int} {k : KW} (hp : Pen m p) (h0 : 0 < n) (hn : n < 1073741824) (hm : m < 1000000000) (hk : ∀ r p', 0 ≤ r → r < n → Pen (m + 1) p' → k (.val (.int r)) [p']) :
    t__law_take [.ref 0, .val (.int n)] [p] k := by
  obtain ⟨cs, at_, rest, rfl, a0, a1⟩ := hp
  unfold t__law_take
  refine mfun_of ?_
  refine sSeq_cut (fun ρ S => ∃ at' rest' x y, ρ = [some (.ref 0), some (.val (.int n)), none, x, y] ∧ S = [.lst [.lst (cs.map D.int), .int at', .int rest']] ∧ 0 ≤ at' ∧ at' ≤ m + 1) (fun ρ S h => ?_) fun K hK => ?_
  · obtain ⟨at', rest', x, y, rfl, rfl, b0, b1⟩ := h
    obtain ⟨c0, c1⟩ := emod_b rest' h0
    array_get_dec
    exact hk _ _ c0 c1 ⟨cs, at', rest' / n, rfl, b0, by omega⟩
  · array_get_dec
    refine if_d (fun h => ?_) fun h => ?_
    · refine sSeq_i ?_
      array_mem_dec
      refine sSeq_i ?_
      array_mem_dec
      refine sSeq_cut (fun ρ S => ∃ cell : Int, ρ = [some (.ref 0), some (.val (.int n)), none, some (.val (.int at_)), some (.val (.int cell))] ∧ S = [.lst [.lst (cs.map D.int), .int at_, .int rest]]) (fun ρ S h => ?_) fun K2 hK2 => ?_
      · obtain ⟨cell, rfl, rfl⟩ := h
        array_get_dec
        refine call_0 rfl (t_spread a0 (by omega) fun r => ?_) m__law_spread
        array_get_dec
        exact hK _ _ ⟨at_ + 1, r, _, _, rfl, rfl, by omega, by omega⟩
      · array_mem_dec
        refine if_d (fun h => ?_) fun h => ?_
        · obtain ⟨d, e, md, _⟩ := atI_in (l := cs.map D.int) a0 h
          obtain ⟨i, _, rfl⟩ := List.mem_map.mp md
          array_get_dec
          refine ix_l e ?_
          array_get_dec
          exact hK2 _ _ ⟨i, rfl, rfl⟩
        · array_get_dec
          refine if_d (fun h2 => ?_) fun h2 => ?_
          · array_get_dec
            obtain ⟨c0, c1⟩ := emod_b (at_ * 5 + 3) h2
            obtain ⟨d, e, md, _⟩ := atI_in (l := cs.map D.int) c0 c1
            obtain ⟨i, _, rfl⟩ := List.mem_map.mp md
            refine ix_l e ?_
            array_get_dec
            refine mod_i (by rw [show (10 : Int) ^ Int.toNat 17 = 100000000000000000 from rfl]; omega) ?_
            array_get_dec
            exact hK2 _ _ ⟨_, rfl, rfl⟩
          · array_get_dec
            exact hK2 _ _ ⟨_, rfl, rfl⟩
    · array_get_dec
      exact hK _ _ ⟨at_, rest, _, _, rfl, rfl, a0, by omega⟩
end Fo
/-! Pen2: the pen's beginning; texts, signs drawn. -/
namespace Fo
open PySem PySem.Spec PyProof.Rows L2
theorem cutL_none {α : Type} (l : List α) (n : Nat) : cutL l none (some (n : Int)) = l.take n := by
  unfold cutL
  rw [show HT.sIx l.length 0 none = 0 from rfl, HT.sIx_nat]
  simp [List.take_eq_take_iff]
theorem cutL_both {α : Type} (l : List α) (m n : Nat) : cutL l (some (m : Int)) (some (n : Int)) = (l.drop m).take (n - m) := by
  unfold cutL
  rw [HT.sIx_nat, HT.sIx_nat]
  by_cases h : m ≤ l.length
  · rw [Nat.min_eq_left h]
    by_cases h2 : n ≤ l.length
    · rw [Nat.min_eq_left h2]
    · rw [Nat.min_eq_right (by omega), List.take_of_length_le (by rw [List.length_drop]; exact Nat.le_refl _), List.take_of_length_le (by rw [List.length_drop]; omega)]
  · rw [List.drop_eq_nil_of_le (as := l) (i := m) (by omega), List.drop_eq_nil_of_le (as := l) (i := min m l.length) (by omega)]
    simp
theorem t_open {ns : List Int} {k : KW} (hl : ns.length ≤ 63) (hk : ∀ p, Pen 0 p → k (.ref 0) [p]) : t__law_open [.val (.scr ns)] [] k := by
  unfold t__law_open
  refine mfun_of ?_
  array_mem_dec
  refine sSeq_i ?_
  array_mem_dec
  refine sSeq_i ?_
  array_mem_dec
  refine for_inv (fun r ρ S => ∃ (j : Nat) (xs cs : List Int) (a b : Option W), r = enumL j (xs.map D.int) ∧ ρ = [some (.val (.scr ns)), some (.ref 0), a, b] ∧ S = [.lst (cs.map D.int)] ∧ (xs = [] ∨ cs.length = 12)) ?_ ?_ _ _ _ ?_
  · rintro ρ S ⟨j, xs, cs, a, b, hr, rfl, rfl, h⟩
    array_mem_dec
    refine fin_r (Nat.zero_le _) rfl (by intro z; cases z) ?_
    exact hk _ ⟨cs, 0, 0, rfl, by omega, by omega⟩
  · rintro d r ρ S K hK ⟨j, xs, cs, a, b, hr, rfl, rfl, h⟩
    cases xs with
    | nil => cases hr
    | cons x xs =>
      have h2 : cs.length = 12 := h.resolve_left (by intro z; cases z)
      rw [List.map_cons] at hr
      unfold enumL at hr
      injection hr with e1 e2
      subst e1 e2
      have c0 := emod_b (j : Int) (show (0 : Int) < 12 by decide)
      obtain ⟨d, e, md, _⟩ := atI_in (l := cs.map D.int) c0.1 (by rw [List.length_map, h2]; exact c0.2)
      obtain ⟨y, _, rfl⟩ := List.mem_map.mp md
      array_mem_dec
      refine ix_l e ?_
      array_mem_dec
      refine gput_i (ixN_in c0.1 (by rw [List.length_map, h2]; exact c0.2)) ?_
      refine hK _ _ ⟨j + 1, xs, cs.set ((j : Int) % 12).toNat (y + x), _, _, rfl, rfl, ?_, .inr (by rw [List.length_set]; exact h2)⟩
      rw [List.map_set]
      rfl
  · refine ⟨0, (cutL ns (some 12) (some 63)), cutL ns none (some 12), none, none, rfl, rfl, rfl, ?_⟩
    have e1 := cutL_none ns 12
    have e2 := cutL_both ns 12 63
    rw [show ((12 : Nat) : Int) = 12 from rfl] at e1 e2
    rw [show ((63 : Nat) : Int) = 63 from rfl] at e2
    rw [e1, e2]
    by_cases h : ns.length ≤ 12
    · left
      rw [List.drop_eq_nil_of_le h]
      rfl
    · right
      rw [List.length_take]
      omega
/-! texts of signs -/
end Fo
/-! Pen3: signs drawn. -/
namespace Fo
open PySem PySem.Spec PyProof.Rows L2
def poolS : List Nat := [33, 34, 35, 36, 38, 39, 40, 41, 42, 43, 44, 45, 46, 47, 48, 49, 50, 51, 52, 53, 54, 55, 56, 57, 58, 59, 60, 61, 62, 63, 64, 65, 66, 67, 68, 69, 70, 71, 72, 73, 74, 75, 76, 77, 78, 79, 80, 81, 82, 83, 84, 85, 86, 87, 88, 89, 90, 91, 92, 93, 94, 95, 96, 97, 98, 99, 100, 101, 102, 103, 104, 105, 106, 107, 108, 109, 110, 111, 112, 113, 114, 115, 116, 117, 118, 119, 120, 121, 122, 123, 124, 125, 126]
theorem pool_len : poolS.length = 93 := by decide +kernel
/-- drawn signs: sorted, no one twice -/
structure Sg (t : List Nat) : Prop where
  nd : t.Nodup
  up : rises (t.map fun c => [c])
  pool : ∀ c ∈ t, c ∈ poolS
end Fo
/-! Same: data that all rules take; a law's look at likeness. -/
namespace Fo
open PySem PySem.Spec PyProof.Rows L2
/-- data of at most n floors -/
def Nice : Nat → D → Prop
  | _, .non => True
  | _, .bl _ => True
  | _, .int i => i.natAbs.log2 < 1920
  | _, .str l => ∀ c ∈ l, c < 256
  | n + 1, .tup l => l.length < sizeLine ∧ ∀ x ∈ l, Nice n x
  | n + 1, .lst l => l.length < sizeLine ∧ ∀ x ∈ l, Nice n x
  | _, _ => False
theorem Nice.mono : ∀ {n m : Nat} {d : D}, Nice n d → n ≤ m → Nice m d
  | n, m, .non, h, l => by unfold Nice; trivial
  | n, m, .bl _, h, l => by unfold Nice; trivial
  | n, m, .int i, h, l => by
    unfold Nice at h ⊢
    exact h
  | n, m, .str s, h, l => by
    unfold Nice at h ⊢
    exact h
  | n + 1, m + 1, .tup s, h, l => by
    unfold Nice at h ⊢
    exact ⟨h.1, fun x hx => (h.2 x hx).mono (by omega)⟩
  | n + 1, m + 1, .lst s, h, l => by
    unfold Nice at h ⊢
    exact ⟨h.1, fun x hx => (h.2 x hx).mono (by omega)⟩
  | 0, _, .tup s, h, l => by unfold Nice at h; exact h.elim
  | 0, _, .lst s, h, l => by unfold Nice at h; exact h.elim
  | n + 1, 0, .tup s, h, l => by omega
  | n + 1, 0, .lst s, h, l => by omega
  | n, m, .dct _ _, h, l => by unfold Nice at h; exact h.elim
  | n, m, .scr _, h, l => by unfold Nice at h; exact h.elim
theorem pys_any_true : ∀ l : List D, (∀ x ∈ l, x = .bl true) → (pys l).any (fun z => PyData.eqv z (py (.bl false))) = false
  | [], _ => rfl
  | d :: l, h => by
    rw [h d List.mem_cons_self]
    show (_ || (pys l).any _) = false
    rw [pys_any_true l fun x hx => h x (List.mem_cons_of_mem _ hx)]
    rfl
theorem lay_bools : ∀ l : List D, (∀ x ∈ l, ∃ b, x = .bl b) → PyData.canLayAll0 (pys l) = true ∧ PyData.depthAll (pys l) = 0
  | [], _ => ⟨rfl, rfl⟩
  | d :: l, h => by
    obtain ⟨b, rfl⟩ := h d List.mem_cons_self
    obtain ⟨h1, h2⟩ := lay_bools l fun x hx => h x (List.mem_cons_of_mem _ hx)
    refine ⟨?_, ?_⟩
    · show (PyData.canLay0 (.bool b) && PyData.canLayAll0 (pys l)) = true
      rw [h1]
      rfl
    · show max (PyData.depth (.bool b)) (PyData.depthAll (pys l)) = 0
      rw [h2]
      rfl
theorem shp_bools {l : List D} (h : ∀ x ∈ l, ∃ b, x = .bl b) : shp (.lst l) := by
  obtain ⟨h1, h2⟩ := lay_bools l h
  show (PyData.canLayAll0 (pys l) && decide (PyData.depthAll (pys l) + 1 ≤ 64)) = true
  rw [h1, h2]
  rfl
theorem zipL_self : ∀ l : List D, zipL l l = l.map fun d => .tup [d, d]
  | [] => rfl
  | d :: l => by
    show D.tup [d, d] :: zipL l l = _
    rw [zipL_self l]
    rfl
theorem same_ok : ∀ (n : Nat) (d : D) (k : KW), Nice n d → k (.val (.bl true)) [] → ∀ j, n < j → t__law_same j [.val d, .val d] [] k
  | _, _, _, _, _, 0, h => by omega
  | n, .non, k, h, hk, j + 1, _ => by
    unfold t__law_same
    refine mfun_of ?_
    array_get_dec
    exact hk
  | n, .bl b, k, h, hk, j + 1, _ => by
    unfold t__law_same
    refine mfun_of ?_
    array_get_dec
    rw [show (decide (b = b) != false) = true by rw [decide_eq_true rfl]; rfl]
    exact hk
  | n, .int i, k, h, hk, j + 1, _ => by
    unfold t__law_same
    refine mfun_of ?_
    array_get_dec
    rw [show (decide (i = i) != false) = true by rw [decide_eq_true rfl]; rfl]
    exact hk
  | n, .str i, k, h, hk, j + 1, _ => by
    unfold t__law_same
    refine mfun_of ?_
    array_get_dec
    rw [show (decide (i = i) != false) = true by rw [decide_eq_true rfl]; rfl]
    exact hk
  | n + 1, .tup l, k, h, hk, j + 1, lt => by
    unfold Nice at h
    unfold t__law_same
    refine mfun_of ?_
    array_get_dec
    refine if_dt (fun z => absurd rfl z) fun _ => ?_
    array_get_dec
    rw [zipL_self]
    refine lc_inv (fun r acc S => ∃ l' : List D, r = (l'.map fun d => .tup [d, d]) ∧ (∀ x ∈ l', Nice n x) ∧ (∀ x ∈ acc, x = .bl true) ∧ acc.length + l'.length = l.length ∧ S = []) ?_ ?_ _ _ _ ?_
    · rintro acc S ⟨l', hr, hl, ha, hn, rfl⟩
      array_get_dec
      refine in_l rfl (shp_bools fun x hx => ⟨true, ha x hx⟩) ?_
      rw [pys_any_true acc ha]
      exact hk
    · rintro d r acc S K hK ⟨l', hr, hl, ha, hn, rfl⟩
      cases l' with
      | nil => cases hr
      | cons x l' =>
        rw [List.map_cons] at hr
        injection hr with e1 e2
        subst e1 e2
        rw [List.length_cons] at hn
        array_get_dec
        refine call_0 rfl (same_ok n x _ (hl x List.mem_cons_self) ?_ j (by omega)) (m__law_same j)
        refine lcput_i (by omega) ?_
        refine hK _ _ ⟨l', rfl, fun y hy => hl y (List.mem_cons_of_mem _ hy), fun y hy => ?_, by rw [List.length_append]; show acc.length + 1 + _ = _; omega, rfl⟩
        rcases List.mem_append.mp hy with hy | hy
        · exact ha y hy
        · exact List.mem_singleton.mp hy
    · exact ⟨l, rfl, h.2, fun x hx => (by cases hx), Nat.zero_add _, rfl⟩
  | n + 1, .lst l, k, h, hk, j + 1, lt => by
    unfold Nice at h
    unfold t__law_same
    refine mfun_of ?_
    array_get_dec
    refine if_dt (fun z => absurd rfl z) fun _ => ?_
    array_get_dec
    rw [zipL_self]
    refine lc_inv (fun r acc S => ∃ l' : List D, r = (l'.map fun d => .tup [d, d]) ∧ (∀ x ∈ l', Nice n x) ∧ (∀ x ∈ acc, x = .bl true) ∧ acc.length + l'.length = l.length ∧ S = []) ?_ ?_ _ _ _ ?_
    · rintro acc S ⟨l', hr, hl, ha, hn, rfl⟩
      array_get_dec
      refine in_l rfl (shp_bools fun x hx => ⟨true, ha x hx⟩) ?_
      rw [pys_any_true acc ha]
      exact hk
    · rintro d r acc S K hK ⟨l', hr, hl, ha, hn, rfl⟩
      cases l' with
      | nil => cases hr
      | cons x l' =>
        rw [List.map_cons] at hr
        injection hr with e1 e2
        subst e1 e2
        rw [List.length_cons] at hn
        array_get_dec
        refine call_0 rfl (same_ok n x _ (hl x List.mem_cons_self) ?_ j (by omega)) (m__law_same j)
        refine lcput_i (by omega) ?_
        refine hK _ _ ⟨l', rfl, fun y hy => hl y (List.mem_cons_of_mem _ hy), fun y hy => ?_, by rw [List.length_append]; show acc.length + 1 + _ = _; omega, rfl⟩
        rcases List.mem_append.mp hy with hy | hy
        · exact ha y hy
        · exact List.mem_singleton.mp hy
    · exact ⟨l, rfl, h.2, fun x hx => (by cases hx), Nat.zero_add _, rfl⟩
  | 0, .tup _, _, h, _, _, _ => by unfold Nice at h; exact h.elim
  | 0, .lst _, _, h, _, _, _ => by unfold Nice at h; exact h.elim
  | _, .dct _ _, _, h, _, _, _ => by unfold Nice at h; exact h.elim
  | _, .scr _, _, h, _, _, _ => by unfold Nice at h; exact h.elim
end Fo
/-! Show: repr of nice data. -/
/-! Rep2: repr of any data, dicts within it, too. -/
/-! Dic6: dict displays as data: made, and nobody's to change from then on. -/
namespace Fo
open PySem PySem.Spec PyProof.Rows L2
variable {K : Kw}
/-! ### {} -/
def mDct0 : ME := fun _ S k => k (.val (.dct [] [])) S
/-! ### {k: v} -/
def mDct1 (t e : ME) : ME := fun ρ S k => t ρ S fun z S1 => e ρ S1 fun u S2 => keyW z fun x => match u with
  | .val d => k (.val (.dct [keyD x] [d])) S2
  | _ => False
section
variable {ρ : Rho} {S : Sto} {k : KW} {t e : ME}
theorem mDct0_i (q : k (.val (.dct [] [])) S) : mDct0 ρ S k := q
theorem mDct1_i (q : t ρ S fun z S1 => e ρ S1 fun u S2 => keyW z fun x => match u with
  | .val d => k (.val (.dct [keyD x] [d])) S2
  | _ => False) : mDct1 t e ρ S k := q
end
end Fo
/-! Set1: sets of texts, as set(text) and set(list of texts) make them; sorted of them. -/
namespace Fo
open PySem PySem.Spec PyProof.Rows L2
def keyS (e : Int × Value) : Str := match e.2 with
  | .str k _ => k
  | _ => Str.empty
def GoodS (P : Program) (w : World) (e : Int × Value) : Prop := ∃ k tk, e.2 = Value.str k tk ∧ e.1 = (PySem.strKind P w).hash k
/-- the set of texts at a: M has its members, c is their number -/
def SetSR (P : Program) (w : World) (h : Heap) (a : Addr) (M : Str → Bool) (c : Nat) : Prop :=
  ∃ o es ep t, h.get? a = some o ∧ o.ExactSet ∧ o.data = .set es ep t ∧ (∀ e ∈ es.toList, GoodS P w e) ∧ (es.toList.map keyS).Nodup ∧ (∀ k, M k = true ↔ k ∈ es.toList.map keyS) ∧
    es.size < scanBound ∧ t.fits es.size = true ∧ es.size = c ∧ Ris t.place.toList ∧ (w.params.followText "set-order" = true ∨ t.led = true)
section
variable {P : Program} {w : World} {h h' : Heap} {a : Addr} {M : Str → Bool} {c : Nat}
theorem SetSR.at (R : SetSR P w h a M c) (k : ∀ o, h.get? a = some o → h'.get? a = some o) : SetSR P w h' a M c := by
  obtain ⟨o, es, ep, t, ho, r⟩ := R
  exact ⟨o, es, ep, t, k o ho, r⟩
end
end Fo
/-! Set2: set(v) of texts; sorted of it. Printed by setgen.py. -/
/-! Set3: sorted(set(v)) as a mirror. -/
/-! Srt2: sorted(a text). -/
/-! Emp: == and != of a list, a tuple with an empty one, whatever lies within. -/
namespace Fo
open PySem PySem.Spec PyProof.Rows L2
variable {K : Kw}
section
variable {S : Sto} {k : KW} {neg : Bool} {l : List D}
theorem ix_t0 {a : D} (q : k (.val a) S) : ixD (.tup (a :: l)) (.int 0) S k := ix_t (d := a) (atI_nat (n := 0) rfl) q
theorem ix_t1 {a b : D} (q : k (.val b) S) : ixD (.tup (a :: b :: l)) (.int 1) S k := ix_t (l := a :: b :: l) (d := b) (atI_nat (n := 1) rfl) q
theorem ix_t2 {a b c : D} (q : k (.val c) S) : ixD (.tup (a :: b :: c :: l)) (.int 2) S k := ix_t (d := c) (atI_nat (n := 2) rfl) q
theorem ix_l0 {a : D} (q : k (.val a) S) : ixD (.lst (a :: l)) (.int 0) S k := ix_l (d := a) (atI_nat (n := 0) rfl) q
theorem ix_l1 {a b : D} (q : k (.val b) S) : ixD (.lst (a :: b :: l)) (.int 1) S k := ix_l (d := b) (atI_nat (n := 1) rfl) q
theorem ix_l2 {a b c : D} (q : k (.val c) S) : ixD (.lst (a :: b :: c :: l)) (.int 2) S k := ix_l (d := c) (atI_nat (n := 2) rfl) q
theorem ix_l3 {a b c d : D} (q : k (.val d) S) : ixD (.lst (a :: b :: c :: d :: l)) (.int 3) S k := ix_l (d := d) (atI_nat (n := 3) rfl) q
end
end Fo
/-! Dic7: a dict display of three pairs. -/
namespace Fo
open PySem PySem.Spec PyProof.Rows L2
variable {K : Kw}
def dct3 (z1 u1 z2 u2 z3 u3 : W) (S : Sto) (k : KW) : Prop := keyW z1 fun x1 => keyW z2 fun x2 => keyW z3 fun x3 => (x1 ≠ x2 ∧ x1 ≠ x3 ∧ x2 ≠ x3) ∧ match u1, u2, u3 with
  | .val d1, .val d2, .val d3 => k (.val (.dct [keyD x1, keyD x2, keyD x3] [d1, d2, d3])) S
  | _, _, _ => False
def mDct3 (t1 e1 t2 e2 t3 e3 : ME) : ME := fun ρ S k => t1 ρ S fun z1 S => e1 ρ S fun u1 S => t2 ρ S fun z2 S => e2 ρ S fun u2 S => t3 ρ S fun z3 S => e3 ρ S fun u3 S => dct3 z1 u1 z2 u2 z3 u3 S k
section
variable {ρ : Rho} {S : Sto} {k : KW}
theorem mDct3_i {t1 e1 t2 e2 t3 e3 : ME} (q : t1 ρ S fun z1 S => e1 ρ S fun u1 S => t2 ρ S fun z2 S => e2 ρ S fun u2 S => t3 ρ S fun z3 S => e3 ρ S fun u3 S => dct3 z1 u1 z2 u2 z3 u3 S k) : mDct3 t1 e1 t2 e2 t3 e3 ρ S k := q
theorem dct3_i {a b c : Int} {d1 d2 d3 : D} (h : a ≠ b ∧ a ≠ c ∧ b ≠ c) (q : k (.val (.dct [.int a, .int b, .int c] [d1, d2, d3])) S) : dct3 (.val (.int a)) (.val d1) (.val (.int b)) (.val d2) (.val (.int c)) (.val d3) S k :=
  ⟨⟨fun z => h.1 (by injection z), fun z => h.2.1 (by injection z), fun z => h.2.2 (by injection z)⟩, q⟩
end
end Fo
/-! Mul0: a tuple times nought. -/
/-! Sw1: s.startswith(t, i); len of a dict whose keys are tuples. -/
/-! Orx: x or y, x a text or None. -/
namespace Fo
open PySem PySem.Spec PyProof.Rows L2
variable {K : Kw}
def mOrT (t u : ME) : ME := fun ρ S k => t ρ S fun w S1 => match w with
  | .val .non => u ρ S1 k
  | .val (.str l) => l.length ≤ sizeLine ∧ if l.isEmpty = true then u ρ S1 k else k (.val (.str l)) S1
  | _ => False
section
variable {ρ : Rho} {S : Sto} {k : KW} {t u : ME}
theorem mOrT_i (q : t ρ S fun w S1 => match w with
  | .val .non => u ρ S1 k
  | .val (.str l) => l.length ≤ sizeLine ∧ if l.isEmpty = true then u ρ S1 k else k (.val (.str l)) S1
  | _ => False) : mOrT t u ρ S k := q
end
end Fo
/-! Nst1: lists of own lists; a text times nought or one; targets within tuples. -/
namespace Fo
open PySem PySem.Spec PyProof.Rows L2
variable {K : Kw}
/-! ### xs[i], xs a list of own lists -/
def asLws (w : W) (k : List Nat → Prop) : Prop := match w with
  | .lws ns => k ns
  | _ => False
def nthN (ns : List Nat) (j : Int) (k : Nat → Prop) : Prop := match atI ns j with
  | some n => k n
  | none => False
def mIxW (o i : ME) : ME := fun ρ S k => o ρ S fun x S1 => i ρ S1 fun y S2 => asLws x fun ns => asI y S2 fun j S2 => nthN ns j fun n => k (.ref n) S2
/-! ### a new list of new lists -/
def lcPutW (acc : List Nat) (k : List Nat → Sto → Prop) (w : W) (S : Sto) : Prop := match w with
  | .ref n => acc.length < sizeLine ∧ k (acc ++ [n]) S
  | _ => False
def lcItemsW (g : MG) (c : MT) (e : ME) (ρ : Rho) (k : List Nat → Sto → Prop) : List D → List Nat → Sto → Prop
  | [], acc, S => k acc S
  | d :: ds, acc, S => g (.val d) ρ S fun ρ2 S2 => c ρ2 S2 fun b S3 => if b = true then e ρ2 S3 fun w S4 => lcPutW acc (fun acc S => lcItemsW g c e ρ k ds acc S) w S4 else lcItemsW g c e ρ k ds acc S3
def mLws (it : MI) (g : MG) (c : MT) (e : ME) (vs : List Nat) : ME := fun ρ S k => it ρ S fun ds S1 => lcItemsW g c e (wipeR ρ vs) (fun ns S2 => k (.lws ns) S2) ds [] S1
/-! ### all of it as data from now on -/
/-! ### a text times nought or one -/
/-! ### targets -/
/-! ### steps -/
section
variable {ρ : Rho} {S : Sto} {k : KW} {t u e : ME} {it : MI} {g : MG} {c : MT} {vs ns : List Nat} {i n : Nat} {j : Int} {l : List Nat}
theorem mIxW_i (q : t ρ S fun x S1 => u ρ S1 fun y S2 => asLws x fun ns => asI y S2 fun j S2 => nthN ns j fun n => k (.ref n) S2) : mIxW t u ρ S k := q
theorem asLws_i {kl : List Nat → Prop} (q : kl ns) : asLws (.lws ns) kl := q
theorem mLws_i (q : it ρ S fun ds S1 => lcItemsW g c e (wipeR ρ vs) (fun ns S2 => k (.lws ns) S2) ds [] S1) : mLws it g c e vs ρ S k := q
end
end Fo
/-! Lck1: a comprehension over a cell that lives on: it is locked meanwhile. -/
/-! Obj1: defs that are handed all cells; instances: made, read, asked. -/
namespace Fo
open PySem PySem.Spec PyProof.Rows L2
variable {K : Kw}
/-! ### defs that are handed all cells -/
theorem take_ok {A A' : List (Option Addr)} {B : Addr → Prop} {H H' : Hp} {S' : Sto} (kp : Keep A H A' H') (c : Cells K H' A' B S') :
    Keep A H (A'.take A.length) H' ∧ Cells K H' (A'.take A.length) B (S'.take A.length) ∧ ∀ a, av (A'.take A.length) B a → av A' B a := by
  have sub : ∀ a, av (A'.take A.length) B a → av A' B a := fun a z => z.imp id fun m => List.mem_of_mem_take m
  refine ⟨?_, ?_, sub⟩
  · refine ⟨fun a o e n => ⟨(kp.st a o e n).1, fun z => (kp.st a o e n).2 (List.mem_of_mem_take z)⟩, ?_, fun n x e => ?_⟩
    · rw [List.length_take]; have := kp.len; omega
    · have hn : n < A.length := (List.getElem?_eq_some_iff.mp e).1
      rw [List.getElem?_take_of_lt hn]
      exact kp.ix n x e
  · refine ⟨by rw [List.length_take, List.length_take, c.len], fun n x ob e1 e2 => ?_, fun n m a e1 e2 => ?_, fun a z => c.off a (List.mem_of_mem_take z), c.dom, c.sys, fun z => c.soff (List.mem_of_mem_take z)⟩
    · have hn : n < A.length := by
        have := (List.getElem?_eq_some_iff.mp e1).1
        rw [List.length_take] at this
        omega
      rw [List.getElem?_take_of_lt hn] at e1 e2
      exact (c.at_ n x ob e1 e2).less sub
    · have f : ∀ {j : Nat} {y : Option Addr}, (A'.take A.length)[j]? = some y → A'[j]? = some y := fun {j y} e => by
        have hn : j < A.length := by
          have := (List.getElem?_eq_some_iff.mp e).1
          rw [List.length_take] at this
          omega
        rw [List.getElem?_take_of_lt hn] at e
        exact e
      exact c.inj n m a (f e1) (f e2)
def finS (r : Nat) (Q : KW) : KW := fun w S => match w with
  | .val d => Q (.val d) (S.take r)
  | .ref n => if n < r then Q (.ref n) (S.take r) else finK r Q (.ref n) S
  | .lws ns => Q (.lws ns) S
  | .ins x ns fs => Q (.ins x ns fs) S
  | .fn x => Q (.fn x) (S.take r)
  | .tpl l => Q (.tpl l) (S.take r)
  | .exv e => Q (.exv e) S
  | .lsw ws => Q (.lsw ws) S
theorem finS_ok {A : List (Option Addr)} {B : Addr → Prop} {H : Hp} {k : KW} {Q : VK} (af : Aft K A B H k Q) : Aft K A B H (finS A.length k) Q := by
  intro w S' h A' v H' kp c r
  cases w with
  | val d =>
    have h' : finK A.length k (.val d) S' := h
    exact finK_ok af _ _ h' A' v H' kp c r
  | lws ns => exact af _ _ h A' v H' kp c r
  | ins x ns fs => exact af _ _ h A' v H' kp c r
  | fn x =>
    obtain ⟨k2, c2, sub⟩ := take_ok kp c
    exact af _ _ h _ v H' k2 c2 r
  | exv e => exact af _ _ h A' v H' kp c r
  | lsw ws => exact af _ _ h A' v H' kp c r
  | tpl l =>
    obtain ⟨k2, c2, sub⟩ := take_ok kp c
    refine af _ _ h _ v H' k2 c2 ?_
    unfold RW at r ⊢
    obtain ⟨a, o, vs, e, h1, d, n, p⟩ := r
    exact ⟨a, o, vs, e, h1, d, fun z => n (sub a z), RVs.less sub p⟩
  | ref n =>
    have h : (if n < A.length then k (.ref n) (S'.take A.length) else finK A.length k (.ref n) S') := h
    by_cases hn : n < A.length
    · rw [if_pos hn] at h
      obtain ⟨k2, c2, sub⟩ := take_ok kp c
      refine af _ _ h _ v H' k2 c2 ?_
      have r' : A'[n]? = some none ∨ ∃ a, A'[n]? = some (some a) ∧ v = .ref a := r
      show (A'.take A.length)[n]? = some none ∨ ∃ a, (A'.take A.length)[n]? = some (some a) ∧ v = .ref a
      rw [List.getElem?_take_of_lt hn]
      exact r'
    · rw [if_neg hn] at h
      exact finK_ok af _ _ h A' v H' kp c r
def mfunS (n : Nat) (body : MS) : MF := fun ws S Q => ∃ Q' : KW, (∀ w S', Q' w S' → Q w S') ∧
  body { nx := fun _ S' => finS S.length Q' (.val .non) S', rt := finS S.length Q', bk := fun _ _ => False, ct := fun _ _ => False } (ws.map some ++ List.replicate (n - ws.length) none) S
theorem mfunS_mono {n : Nat} {body : MS} : MonoF (mfunS n body) := fun ws S Q Q' h ⟨Q0, h0, q⟩ => ⟨Q0, fun w S' z => h w S' (h0 w S' z), q⟩
theorem mfunS_of {n : Nat} {body : MS} {ws : List W} {S : Sto} {Q : KW}
    (h : body { nx := fun _ S' => finS S.length Q (.val .non) S', rt := finS S.length Q, bk := fun _ _ => False, ct := fun _ _ => False } (ws.map some ++ List.replicate (n - ws.length) none) S) : mfunS n body ws S Q := ⟨Q, fun _ _ z => z, h⟩
theorem mfunS_ok {N : List Str} {np : Nat} {body : MS} {vs : List V} {H : Hp} {Q : VK} {E : XK} (h : spF K np (mfunS N.length body) vs H Q E) : upS K body { nx := fun _ H' => Q .non H', rt := Q } (L2.start N vs) H := by
  obtain ⟨A, B, ws, S, k0, hl, c, r, ⟨k, hk, h⟩, af0⟩ := h
  have af : Aft K A B H k Q := fun w S' q => af0 w S' (hk w S' q)
  have e : S.length = A.length := c.len.symm
  have fk : Aft K A B H (finS S.length k) Q := by rw [e]; exact finS_ok af
  exact ⟨A, B, _, S, _, start_rel c r, h, fun ρ S' h' A' σ' H' kp r' => fk _ _ h' A' _ H' kp r'.cells RW.non, fk, fun _ _ z => z.elim, fun _ _ z => z.elim⟩
theorem fun_okS {P : Program} {w : World} {K : PySem.W.Frag} {mg : Str → Option Value} {base : Heap} {x qual : Str} {params : Arguments} {bd : List Stmt} {scope : Scope} {dvs : List V} {kws : List (Str × V)} {f : Addr} {fd : FuncData} {N ps : List Str} {k : Nat} {body : MS}
    (F : FunD K x qual params bd scope dvs kws f fd) (S : FnScope N ps scope)
    (hb : ∀ (cdv : Value) (A : Around) (outer : List Env) (s : Shared) (H : Hp) (E : XK), Room k (A.deeper (envOfC qual scope s.heap.objs.size f cdv)) → A.guards = some [] → PSsm (cxOf CX0 P w K mg base N qual scope f cdv A outer s H E).nox bd body) :
    FnG P w K mg base CX0 (k + 1) f fd ps (spF ⟨K, w, mg⟩ ps.length (mfunS N.length body)) :=
  fnG_of F S (fun vs H Q E h => spF_len h) fun cdv A outer s H vs Q E hr hgd h => ⟨_, PSs.nox (hb cdv A outer s H E hr hgd).pss, mfunS_ok h⟩
def mCallS (t : MF) (args : MA) (dws : List W) : ME := fun ρ S k => args ρ S fun ws S1 => t (ws ++ dws) S1 k
section
variable {X : Cx} {x : Str} {p pos : Pos} {e : Expr} {es : List Expr} {f : Addr} {fd : FuncData} {ps : List Str} {k np : Nat} {t : MF} {args : MA} {ds : List Value} {dws : List W} {dvs : List V}
theorem pem_callS (F : FnG X.prog X.w X.kw X.mg X.base CX0 k f fd ps (spF X.kw ps.length t)) (mt : MonoF t) (hr : Room k X.A) (hgd : X.A.guards = some []) (hg : Gl X x) (hm : X.mg x = some (.ref f)) (hk : PySem.W.keepIn X.kw (.ref f) = true) (hb : Binds X.kw fd ps ds) (hd : Vals dvs ds) (hdf : Dfl X.kw dws dvs)
    (hx : Passes CX0 X fun _ _ _ => False) (ha : PAm X (e :: es) args) (hl : (e :: es).length + dws.length = ps.length) (hdb : (x == ("__debug__" : Str)) = false := by decide)
    (he : starEach (e :: es) X.env = (false, eval e X.env) :: starEach es X.env := by rfl) (hpl : (backTo pos (starEach es X.env)).any (·.1) = false := by rfl) :
    PEm X (.Call (.Name x p) (e :: es) [] pos) (mCallS t args dws) := by
  refine ⟨(pe_callG F hr hgd hg hm hk hb hd hx ha.pa hdb he hpl).imp ?_, fun ρ S Q Q' h q => ha.mono ρ S _ _ (fun ws S1 => mt _ _ _ _ h) q⟩
  rintro σ H Q ⟨A, B, ρ, S, k, r, h, af⟩
  refine upA_then r (ha.len _ _ _ h) fun ws S1 A1 vs H1 h1 k1 r1 rws => ?_
  exact ⟨A1, B, _, S1, k, by rw [List.length_append, h1.1]; exact hl, r1.cells, rws.append (hdf _ _ _), h1.2, af.keep k1⟩
end
/-! ### attributes -/
/-! ### methods -/
end Fo
/-! Obj2: instances made: an __init__ that stores its attributes one behind the other. -/
namespace Fo
open PySem PySem.Spec PyProof.Rows L2
variable {K : Kw}
/-- a heap without what stands at a -/
def er (H : Hp) (a : Addr) : Hp := fun b => if b = a then none else H b
def two (B : Addr → Prop) (a dx : Addr) : Addr → Prop := fun b => (B b ∨ b = dx) ∨ b = a
/-! ### C(e, ..) -/
end Fo
/-! Exc1: errors of classes of one's own as values: made, asked of their class, read. -/
namespace Fo
open PySem PySem.Spec PyProof.Rows L2
/-- a class of errors whose __init__ stores one field -/
structure ExI (K : PySem.W.Frag) (C fI : Addr) (f : Str) : Prop where
  ox : OexC K C
  ini : PySem.W.findIn K (.ref C) "__init__" = some (some (.ref fI))
  tI : PySem.W.typeIn K (.ref fI) = some (.type "function")
  no : PySem.W.findIn K (.ref C) f = some none
/-- a class whose __init__ is ValueError's -/
structure ExB (K : PySem.W.Frag) (B : Addr) : Prop where
  sp : PySem.W.specialIn K (.ref B) "__getattribute__" = some (some (.builtin "type.__getattribute__"))
  rd : PySem.W.readsIn K B (.type "type") = true
  fc : PySem.W.findCls K (.ref B) (.type "type") "__init__" = some (.val (.builtin "ValueError.__init__"))
section
variable {X : Cx} {e : Expr} {es : List Expr} {ta : TA} {b : Str} {B : Addr} {p1 p2 pos : Pos}
theorem pe_heinit {pl : Sem Bool} (T : ExB X.K B) (hg : Gl X b) (hm : X.mg b = some (.ref B)) (ha : PA X (e :: es) ta) (hdb : (b == ("__debug__" : Str)) = false := by decide)
    (hc : eval (.Call (.Attribute (.Name b p1) "__init__" p2) (e :: es) [] pos) X.env = (do
      let ov ← eval (.Name b p1) X.env
      standAt p2.atName
      let (f, first) ← holding [ov] (getMethod ov "__init__" pl)
      callWith pos f first (backTo pos (starEach (e :: es) X.env)) (backToKw pos (keywordEach [] X.env))) := by rfl)
    (he : starEach (e :: es) X.env = (false, eval e X.env) :: starEach es X.env := by rfl) (hpl : (backTo pos (starEach es X.env)).any (·.1) = false := by rfl) :
    PE X (.Call (.Attribute (.Name b p1) "__init__" p2) (e :: es) [] pos) (tVeI X.K ta) := by
  refine ⟨fun pins s σ H Q I h => ?_⟩
  refine PySem.W.methodCall_KW (ld_glob I hg hm ?_ hdb) hc
  refine PySem.W.method_cls I.kIn T.sp ?_
  refine PySem.W.cls_value I.kIn T.rd T.fc (by decide +kernel) ?_
  show wpAny _ _ (callWith pos (Value.builtin "ValueError.__init__") [] (backTo pos (starEach (e :: es) X.env)) []) _ _ _
  refine PyProof.Rows.callWith_method1 (thn (ha.run pos pins _ σ H _ (I.tok _) h) fun us s1 ⟨vs, H1, I1, r1, a, C, ws, ev, hl, T, ea, q⟩ => ?_) he hpl
  subst ev
  cases r1 with
  | @cons _ u0 _ ur ra rw' =>
    obtain rfl : u0 = Value.ref a := ra
    have hlen : ur.length ≤ sizeLine := by
      rw [← Paired.length rw', sizeLine_eq]
      omega
    exact oinit_ok T I1 ea hlen fun s' J => ⟨.non, H1, J, rfl, q⟩
end
/-- what such an __init__ does -/
def tIe (C : Addr) (f : Str) : TS := fun D σ H => ∃ (a : Addr) (y : V), σ[0]? = some (some (.ref a)) ∧ σ[1]? = some (some y) ∧ H a = some (exo a C none) ∧ ∀ dx, H dx = none → dx ≠ a → D.nx σ (L2.upd (L2.upd H dx (exd dx [(f, y)])) a (exo a C (some dx)))
def spE (C : Addr) (f : Str) : Sp := fun vs H Q _ => ∃ (a : Addr) (y : V), vs = [.ref a, y] ∧ H a = some (exo a C none) ∧ ∀ dx, H dx = none → dx ≠ a → Q .non (L2.upd (L2.upd H dx (exd dx [(f, y)])) a (exo a C (some dx)))
theorem pin_exc {X : Cx} {C fI : Addr} {b f self q m : Str} {j : Nat} {p1 p2 p3 p4 p5 p6 p7 p8 p9 p10 : Pos} (T : ExI X.K C fI f)
    (hs2 : PE X (.Name self p7) (tVar 0)) (hq : PE X (.Name q p9) (tVar 1)) (hi : PE X (.Call (.Attribute (.Name b p1) "__init__" p2) [.Name self p3, .Constant (.str m) j p4] [] p5) (tVeI X.K (tCons (tVar 0) (tCons (tC (.str m)) tNil))))
    (h1 : swapsWith (.Call (.Attribute (.Name b p1) "__init__" p2) [.Name self p3, .Constant (.str m) j p4] [] p5) none p6.line X.env = pure false := by rfl)
    (h2 : swapsWith (.Name q p9) (some (.Attribute (.Name self p7) f p8)) p10.line X.env = pure false := by rfl) :
    PSs X [.Expr (.Call (.Attribute (.Name b p1) "__init__" p2) [.Name self p3, .Constant (.str m) j p4] [] p5) p6, .Assign [.Attribute (.Name self p7) f p8] (.Name q p9) p10] (tIe C f) := by
  refine (pss_cons (ps_expr hi h1) (pss_one (ps_ost hs2 hq h2))).imp ?_
  rintro D σ H ⟨a, y, e0, e1, ha, h⟩
  refine ⟨.ref a, e0, ?_⟩
  refine ⟨a, C, [.str m], rfl, by rw [List.length_singleton]; omega, T.ox, ha, ?_⟩
  refine ⟨y, e1, .ref a, e0, a, C, rfl, T.ox, T.no, .inl ⟨ha, fun dx n ne => h dx n ne⟩⟩
theorem initE_ok {P : Program} {w : World} {K : PySem.W.Frag} {mg : Str → Option Value} {base : Heap} {x qual : Str} {params : Arguments} {bd : List Stmt} {scope : Scope} {dvs : List V} {kws : List (Str × V)} {f C : Addr} {fd : FuncData} {n1 n2 : Str} {k : Nat} {fl : Str}
    (F : FunD K x qual params bd scope dvs kws f fd) (S : FnScope [n1, n2] [n1, n2] scope)
    (hb : ∀ (cdv : Value) (A : Around) (outer : List Env) (s : Shared) (H : Hp) (E : XK), Room k (A.deeper (envOfC qual scope s.heap.objs.size f cdv)) → A.guards = some [] → PSs (cxOf CX0 P w K mg base [n1, n2] qual scope f cdv A outer s H E).nox bd (tIe C fl)) :
    FnG P w K mg base CX0 (k + 1) f fd [n1, n2] (spE C fl) := by
  refine fnG_of F S (fun vs H Q E h => ?_) fun cdv A outer s H vs Q E hr hgd h => ⟨_, PSs.nox (hb cdv A outer s H E hr hgd), ?_⟩
  · obtain ⟨a, y, rfl, _⟩ := h
    rfl
  · obtain ⟨a, y, rfl, ha, h⟩ := h
    exact ⟨a, y, rfl, rfl, ha, h⟩
def tMkE (C : Addr) (f : Str) (te : TE) : TE := fun σ H Q => te σ H fun y H1 => ∀ a dx, H1 a = none → H1 dx = none → dx ≠ a → Q (.ref a) (L2.upd (L2.upd H1 dx (exd dx [(f, y)])) a (exo a C (some dx)))
theorem pe_mkE {X : Cx} {x f : Str} {C fI : Addr} {k : Nat} {fd : FuncData} {ps : List Str} {e : Expr} {te : TE} {p pos : Pos} (T : ExI X.K C fI f) (F : FnG X.prog X.w X.K X.mg X.base CX0 k fI fd ps (spE C f)) (hr : Room (k + 1) X.A) (hgd : X.A.guards = some []) (hb : Binds X.K fd ps [])
    (hx : Passes CX0 X (fun _ _ _ => False)) (hg : Gl X x) (hm : X.mg x = some (.ref C)) (he : PE X e te) (hs : starEach [e] X.env = (false, eval e X.env) :: starEach [] X.env := by rfl) (hdb : (x == ("__debug__" : Str)) = false := by decide) :
    PE X (.Call (.Name x p) [e] [] pos) (tMkE C f te) := by
  refine ⟨fun pins s σ H Q I h => ?_⟩
  obtain ⟨nm, q, N, bs, bm, sn, sub, ab, col, dd, k0, k1, k2, k3, k5, hC, hbm⟩ := T.ox.cls
  refine wpAny_Call_Name_kw (ld_glob I hg hm ?_ hdb)
  refine PySem.W.callWith_K (h₀ := X.base) I.ok.mod.kin T.ox.kC ?_ hs (by rfl)
  rw [hs]
  show wpAny _ _ (spliced ((false, eval e X.env) :: backTo pos (starEach [] X.env))) _ _ s
  refine Calls.spliced_cons (thn (he.run pins s σ H _ I h) fun u s1 ⟨v, H1, I1, r1, q1⟩ => ?_)
  refine Calls.spliced_nil ⟨I1.kIn, ?_⟩
  show wpAny _ _ (call (.ref C) [u]) _ _ _
  obtain ⟨hp, g, dr, tk, os⟩ := s1
  have hsz : hp.objs.size ≤ hp.objs.size + 1 := Nat.le_succ _
  have hn : H1 (hp.objs.size + 1) = none := I1.hok.fresh hsz
  have kk : ∀ b o, hp.get? b = some o → ((hp.push (PySem.W.kdv_tup [u])).push (PySem.HandSPX.excO C hp.objs.size)).get? b = some o := fun b o e => Heap.get?_push_of_some _ (Heap.get?_push_of_some _ e)
  have hget : ((hp.push (PySem.W.kdv_tup [u])).push (PySem.HandSPX.excO C hp.objs.size)).get? (hp.objs.size + 1) = some (PySem.HandSPX.excO C hp.objs.size) := by heap_get
  have I2 : Inv X pins σ (L2.upd H1 (hp.objs.size + 1) (exo (hp.objs.size + 1) C none)) ⟨(hp.push (PySem.W.kdv_tup [u])).push (PySem.HandSPX.excO C hp.objs.size), g, dr, tk, os⟩ :=
    I1.laid (t' := tk) (a := hp.objs.size + 1) (o := exo (hp.objs.size + 1) C none) (h' := (hp.push (PySem.W.kdv_tup [u])).push (PySem.HandSPX.excO C hp.objs.size)) kk hsz (exo_ok hget)
  have r2 : Vals [V.ref (hp.objs.size + 1), v] [Value.ref (hp.objs.size + 1), u] := .cons rfl (.cons r1 .nil)
  have hq : spE C f [V.ref (hp.objs.size + 1), v] (L2.upd H1 (hp.objs.size + 1) (exo (hp.objs.size + 1) C none)) (fun v' H2 => v' = .non ∧ Q (.ref (hp.objs.size + 1)) H2) (fun _ _ _ => False) := by
    refine ⟨_, v, rfl, upd_same, fun dx n ne => ⟨rfl, ?_⟩⟩
    rw [upd_ne ne] at n
    have e2 : L2.upd (L2.upd (L2.upd H1 (hp.objs.size + 1) (exo (hp.objs.size + 1) C none)) dx (exd dx [(f, v)])) (hp.objs.size + 1) (exo (hp.objs.size + 1) C (some dx)) = L2.upd (L2.upd H1 dx (exd dx [(f, v)])) (hp.objs.size + 1) (exo (hp.objs.size + 1) C (some dx)) := by
      funext b
      by_cases hb : b = hp.objs.size + 1
      · rw [hb, upd_same, upd_same]
      · rw [upd_ne hb, upd_ne hb]
        by_cases hd : b = dx
        · rw [hd, upd_same, upd_same]
        · rw [upd_ne hd, upd_ne hd, upd_ne hb]
    rw [e2]
    exact q1 _ dx hn n ne
  have hl : ([Value.ref (hp.objs.size + 1), u] ++ ([] : List Value)).length = ps.length := by
    have e := r2.length
    rw [F.len _ _ _ _ hq] at e
    rw [List.append_nil]
    exact e.symm
  refine wpAny_call (PySem.HandSPX.call_own PySem.F.excBase_ValueError (fun Y => PySem.HandSPX.refsVE_contains Y bm hbm) (I1.kIn _ _ hC) (PySem.W.looks_findIn I1.kIn T.ini) (fun self => PySem.W.bind_fn I1.kIn self T.tI) (by show 1 ≤ sizeLine; rw [sizeLine_eq]; omega)
    (codeAny_mono (F.go _ X.stack _ _ ⟨[Value.ref (hp.objs.size + 1), u], []⟩ [Value.ref (hp.objs.size + 1), u] _ _ (fun _ _ _ => False) (hr.make C [u] []) hgd (I2.env0.make C [u] []) (by have := hb _ [Value.ref (hp.objs.size + 1), u] I2.kIn hl; rw [List.append_nil] at this; exact this) r2 hq) fun r s' hq' => ?_))
  cases r with
  | error er => exact hx pins σ _ _ er s' I2 hq'
  | ok fl =>
    cases fl with
    | ret u2 =>
      obtain ⟨v2, H', I3, rv, ev, q3⟩ := I2.after hq'
      subst ev
      exact ⟨rv, ⟨V.ref (hp.objs.size + 1), H', I3, rfl, q3⟩⟩
    | next => exact False.elim hq'
    | brk => exact False.elim hq'
    | cont => exact False.elim hq'
/-- at a: an error of the class C -/
def ExA (H : Hp) (a C : Addr) : Prop := H a = some (ExO (.ref C) a) ∨ ∃ d fs, H a = some (exo a C (some d)) ∧ H d = some (exd d fs)
theorem exA_inst {X : Cx} {pins : List (Addr × Obj)} {σ : L2.St} {H : Hp} {s : Shared} {a C : Addr} (I : Inv X pins σ H s) (h : ExA H a C) : ∃ oe od, PySem.W.InstAt s.heap a oe C od := by
  rcases h with h | ⟨d, fs, h, hd⟩
  · have x : ObjOk X.prog X.w H s.heap a (ExO (.ref C) a) := I.hok a _ h
    obtain ⟨⟨oe, vs, e1, hz, e2, _⟩, _⟩ := x
    refine ⟨oe, none, e1, hz.1, by unfold PySem.W.notCls; rw [e2] <;> rfl, ?_⟩
    have : oe.dict = none := hz.2
    rw [this]
    trivial
  · obtain ⟨t1, ho⟩ := exo_at I.hok h
    obtain ⟨mA, hns, _⟩ := exd_at I.hok hd
    obtain ⟨od, ho2, _⟩ := lookIn_ns hns
    exact ⟨_, some od, ho, rfl, rfl, ho2⟩
def rIsX (K : PySem.W.Frag) : List V → Hp → VK → Prop := fun xs H Q => ∃ (a C : Addr) (c : V) (cv : Value) (b : Bool), xs = [.ref a, c] ∧ ExA H a C ∧ ExcC K C ∧ (∀ u, RelV c u → u = cv) ∧ PySem.W.kitOne K (.ref C) cv = some b ∧ Q (.bl b) H
theorem call_isX {X : Cx} : CallR X (.builtin "isinstance") (rIsX X.K) := by
  intro pins s σ H xs us Q I r h
  obtain ⟨a, C, c, cv, b, rfl, hA, T, hcv, e, q⟩ := h
  obtain ⟨u1, u2, rfl, r1, r2⟩ := vals2 r
  obtain rfl : u1 = Value.ref a := r1
  have ec := hcv _ r2
  subst ec
  obtain ⟨oe, od, J⟩ := exA_inst I hA
  obtain ⟨cd, hc, _⟩ := PySem.W.any_some T.hd
  exact PySem.W.kia_one (PySem.W.kitx_exc (by rw [hc] <;> rfl) T.hg T.hk T.hs T.ha T.hn T.ht T.hm) I.kIn J e (fun z => nomatch z) fun tk => ⟨.bl b, H, I.kept (t' := tk) fun _ _ z => z, rfl, q⟩
/-- e.f -/
def tXv (K : PySem.W.Frag) (f : Str) (te : TE) : TE := fun σ H Q => te σ H fun x H1 => ∃ (a C d : Addr) (fs : List (Str × V)) (v : V), x = .ref a ∧ XfC K C ∧ PySem.W.findIn K (.ref C) f = some none ∧ H1 a = some (exo a C (some d)) ∧ H1 d = some (exd d fs) ∧ fs.lookup f = some v ∧ Q v H1
theorem pe_xv {X : Cx} {e : Expr} {te : TE} {pos : Pos} {f : Str} (he : PE X e te) (hb : attributeBase e f X.env (eval e X.env) = eval e X.env := by rfl) : PE X (.Attribute e f pos) (tXv X.K f te) := by
  refine ⟨fun pins s σ H Q I h => ?_⟩
  refine attr_of hb (thn (he.run pins s σ H _ I h) fun u s1 hh => ?_)
  obtain ⟨x, H1, I1, rx, a, C, d, fs, v, ex, T, hno, ea, ed, l, q⟩ := hh
  subst ex
  obtain rfl : u = Value.ref a := rx
  obtain ⟨t1, ho⟩ := exo_at I1.hok ea
  obtain ⟨mA, hns, hr⟩ := exd_at I1.hok ed
  obtain ⟨od, ho2, hl⟩ := lookIn_ns hns
  obtain ⟨u, hu, ru⟩ := RelO.some_of (v := v) (o := mA f) (by rw [← l]; exact hr f)
  have J : PySem.W.InstAt s1.heap a _ C (some od) := ⟨ho, rfl, rfl, ho2⟩
  exact HandSPX.exc_get I1.kIn J T.ga T.gg T.exC (PySem.W.findObj_own T.hdC hno rfl (by rw [hl, hu])) (handed_of ru) ⟨v, H1, I1.tok _, ru, q⟩
end Fo
/-! Exc2: errors of classes of one's own as values, lists of them: the mirrors. -/
namespace Fo
open PySem PySem.Spec PyProof.Rows L2
variable {K : Kw}
theorem not_av_new {H : Hp} {A : List (Option Addr)} {B : Addr → Prop} {S : Sto} (c : Cells K H A B S) {a : Addr} (h : H a = none) : ¬ av A B a := fun z => by
  rcases z with z | z
  · exact c.dom a z h
  · obtain ⟨n, hn, e⟩ := List.getElem_of_mem z
    have e1 : A[n]? = some (some a) := by rw [List.getElem?_eq_getElem hn, e]
    have hs : n < S.length := by rw [← c.len]; exact hn
    have q := c.at_ n (some a) S[n] e1 (List.getElem?_eq_getElem hs)
    cases ob : S[n] with
    | dead => rw [ob] at q; exact q
    | lst ds =>
      rw [ob] at q
      obtain ⟨vs, z2, _⟩ := q
      rw [h] at z2
      cases z2
    | dic ks ws =>
      rw [ob] at q
      obtain ⟨u, kv, vs, z2, _⟩ := q
      rw [h] at z2
      cases z2
/-! ### C(e) -/
def mExc0 (x : Str) (te : ME) : ME := fun ρ S k => te ρ S fun _ S1 => k (.exv (x, none)) S1
def mExc1 (x f : Str) (te : ME) : ME := fun ρ S k => te ρ S fun w S1 => match w with
  | .val d => k (.exv (x, some (f, d))) S1
  | _ => False
theorem pem_exc0 {X : Cx} {C : Addr} {bmB : List Value} {B newId initId : String} {x : Str} {e : Expr} {te : ME} {p pos : Pos} (F : ExcBaseFacts B newId initId bmB) (q : PySem.W.excIn X.K C bmB newId = true) (gC : X.mg x = some (.ref C)) (kC : PySem.W.keepIn X.K (.ref C) = true) (hg : Gl X x)
    (he : PEm X e te) (hs : starEach [e] X.env = (false, eval e X.env) :: starEach [] X.env := by rfl) (hdb : (x == ("__debug__" : Str)) = false := by decide) : PEm X (.Call (.Name x p) [e] [] pos) (mExc0 x te) := by
  refine ⟨(pe_exc1 F q gC kC hg he.pe hs hdb).imp ?_, fun ρ S Q Q' h q => he.mono ρ S _ _ (fun w S1 => h _ _) q⟩
  rintro σ H Q ⟨A, B, ρ, S, k, r0, h, af⟩
  refine up_then r0 h fun w S1 A1 v H1 h1 k1 r1 rw1 => ?_
  intro a ha
  refine af _ _ h1 A1 _ _ (k1.trans (Keep.upd ha)) (r1.cells.upd ha) ?_
  unfold RW
  exact ⟨a, C, rfl, gC, not_av_new r1.cells ha, .inl ⟨rfl, upd_same⟩⟩
theorem pem_exc1 {X : Cx} {x f : Str} {C fI : Addr} {k : Nat} {fd : FuncData} {ps : List Str} {e : Expr} {te : ME} {p pos : Pos} (T : ExI X.K C fI f) (F : FnG X.prog X.w X.K X.mg X.base CX0 k fI fd ps (spE C f)) (hr : Room (k + 1) X.A) (hgd : X.A.guards = some []) (hb : Binds X.K fd ps [])
    (hx : Passes CX0 X (fun _ _ _ => False)) (hg : Gl X x) (hm : X.mg x = some (.ref C)) (he : PEm X e te) (hs : starEach [e] X.env = (false, eval e X.env) :: starEach [] X.env := by rfl) (hdb : (x == ("__debug__" : Str)) = false := by decide) :
    PEm X (.Call (.Name x p) [e] [] pos) (mExc1 x f te) := by
  refine ⟨(pe_mkE T F hr hgd hb hx hg hm he.pe hs hdb).imp ?_, fun ρ S Q Q' h q => he.mono ρ S _ _ (fun w S1 q => ?_) q⟩
  · rintro σ H Q ⟨A, B, ρ, S, k, r0, h, af⟩
    refine up_then r0 h fun w S1 A1 v H1 h1 k1 r1 rw1 => ?_
    intro a dx ha hd ne
    cases w with
    | ref _ => exact h1.elim
    | lws _ => exact h1.elim
    | ins _ _ _ => exact h1.elim
    | fn _ => exact h1.elim
    | tpl _ => exact h1.elim
    | exv _ => exact h1.elim
    | lsw _ => exact h1.elim
    | val d =>
      have hd2 : L2.upd H1 dx (exd dx [(f, v)]) a = none := by rw [upd_ne ne.symm]; exact ha
      have kk : Keep A1 H1 A1 (L2.upd (L2.upd H1 dx (exd dx [(f, v)])) a (exo a C (some dx))) := (Keep.upd hd).trans (Keep.upd hd2)
      refine af _ _ h1 A1 _ _ (k1.trans kk) ((r1.cells.upd hd).upd hd2) ?_
      unfold RW
      have rv : RV X.kw H1 (av A1 B) d v := rw1
      exact ⟨a, C, rfl, hm, not_av_new r1.cells ha, .inr ⟨f, d, dx, v, rfl, upd_same, by rw [upd_ne ne]; exact upd_same, not_av_new r1.cells hd, RV.stay kk.stay rv⟩⟩
  · cases w <;> first | exact q.elim | exact h _ _ q
/-! ### isinstance(e, C), e.f -/
def exvW (w : W) (k : Str → Option (Str × D) → Prop) : Prop := match w with
  | .exv e => k e.1 e.2
  | _ => False
theorem exvW_mono {w : W} {k k' : Str → Option (Str × D) → Prop} (h : ∀ x f, k x f → k' x f) (q : exvW w k) : exvW w k' := by
  cases w <;> first | exact q.elim | exact h _ _ q
theorem exvW_ok {H : Hp} {A : List (Option Addr)} {B : Addr → Prop} {w : W} {v : V} {k : Str → Option (Str × D) → Prop} (r : RW K H A B w v) (h : exvW w k) : ∃ e, w = .exv e ∧ ExvR K H (av A B) e v ∧ k e.1 e.2 := by
  cases w <;> first | exact h.elim | skip
  unfold RW at r
  exact ⟨_, rfl, r, h⟩
theorem ExvR.exA {H : Hp} {av : Addr → Prop} {e : Str × Option (Str × D)} {v : V} (r : ExvR K H av e v) : ∃ a C, v = .ref a ∧ K.mg e.1 = some (.ref C) ∧ ExA H a C := by
  obtain ⟨a, C, rfl, hm, _, r⟩ := r
  rcases r with ⟨_, h⟩ | ⟨f, d, dx, y, _, h, hd, _⟩
  · exact ⟨a, C, rfl, hm, .inl h⟩
  · exact ⟨a, C, rfl, hm, .inr ⟨dx, _, h, hd⟩⟩
/-- the classes of errors that are raised -/
def xns : List Str := ["NoWord", "NoName", "Taken", "Held", "Full", "NoWay", "NoHole", "NoNumber", "NoBook", "NoGuide", "NoReader", "NoWeb", "NoFrame"]
/-- isinstance(e, C): t tells it of the class's name, where it is one of ns -/
def mIsX (ns : List Str) (t : Str → Bool) (te : ME) : ME := fun ρ S k => te ρ S fun w S1 => exvW w fun x _ => x ∈ ns ∧ k (.val (.bl (t x))) S1
/-- what the classes of these names say of cv -/
def IsXs (K : PySem.W.Frag) (mg : Str → Option Value) (ns : List Str) (t : Str → Bool) (cv : Value) : Prop := ∀ x ∈ ns, ∀ C, mg x = some (.ref C) → ExcC K C ∧ PySem.W.kitOne K (.ref C) cv = some (t x)
theorem pem_isx {X : Cx} {e ce : Expr} {p pos : Pos} {te : ME} {ns : List Str} {t : Str → Bool} {c : V} {cv : Value} (hg : Gl X "isinstance") (hm : X.mg "isinstance" = none) (hcv : ∀ u, RelV c u → u = cv) (hI : IsXs X.K X.mg ns t cv) (he : PEm X e te) (hc : PE X ce (tC c))
    (hs : starEach [e, ce] X.env = (false, eval e X.env) :: starEach [ce] X.env := by rfl) (hs2 : starEach [ce] X.env = (false, eval ce X.env) :: starEach [] X.env := by rfl) (hpl : (backTo pos (starEach [ce] X.env)).any (·.1) = false := by rfl) :
    PEm X (.Call (.Name "isinstance" p) [e, ce] [] pos) (mIsX ns t te) := by
  refine ⟨(pe_callB call_isX hg hm (by decide +kernel) (pa_cons he.pe (pa_cons hc pa_nil hs2) hs) (he := hs) (hpl := hpl)).imp ?_, fun ρ S Q Q' h q => he.mono ρ S _ _ (fun w S1 => exvW_mono fun x f q => ⟨q.1, h _ _ q.2⟩) q⟩
  rintro σ H Q ⟨A, B, ρ, S, k, r0, h, af⟩
  refine up_then r0 h fun w S1 A1 v H1 h1 k1 r1 rw1 => ?_
  obtain ⟨e', rfl, rx, hn, h2⟩ := exvW_ok rw1 h1
  obtain ⟨a, C, rfl, hmx, hA⟩ := rx.exA
  obtain ⟨T, hk⟩ := hI _ hn C hmx
  exact ⟨a, C, c, cv, _, rfl, hA, T, hcv, hk, (af.keep k1).bl r1.cells h2⟩
/-- e.f -/
def mXf (ns : List Str) (f : Str) (te : ME) : ME := fun ρ S k => te ρ S fun w S1 => exvW w fun x o => x ∈ ns ∧ match o with
  | some (g, d) => g = f ∧ k (.val d) S1
  | none => False
def XfCs (K : PySem.W.Frag) (mg : Str → Option Value) (ns : List Str) (f : Str) : Prop := ∀ x ∈ ns, ∀ C, mg x = some (.ref C) → XfC K C ∧ PySem.W.findIn K (.ref C) f = some none
theorem pem_xf {X : Cx} {e : Expr} {te : ME} {pos : Pos} {ns : List Str} {f : Str} (hI : XfCs X.K X.mg ns f) (he : PEm X e te) (hb : attributeBase e f X.env (eval e X.env) = eval e X.env := by rfl) : PEm X (.Attribute e f pos) (mXf ns f te) := by
  refine ⟨(pe_xv he.pe hb).imp ?_, fun ρ S Q Q' h q => he.mono ρ S _ _ (fun w S1 => exvW_mono fun x o q => ⟨q.1, ?_⟩) q⟩
  · rintro σ H Q ⟨A, B, ρ, S, k, r0, h, af⟩
    refine up_then r0 h fun w S1 A1 v H1 h1 k1 r1 rw1 => ?_
    obtain ⟨⟨x, o⟩, rfl, ⟨a, C, rfl, hmx, na, rx⟩, hn, h2⟩ := exvW_ok rw1 h1
    obtain ⟨T, hno⟩ := hI _ hn C hmx
    rcases rx with ⟨e1, _⟩ | ⟨g, d, dx, y, e1, hA, hd, nd, rv⟩
    · dsimp only at e1 h2
      subst e1
      exact h2.elim
    · dsimp only at e1 h2
      subst e1
      obtain ⟨rfl, h3⟩ := h2
      exact ⟨a, C, dx, _, y, rfl, T, hno, hA, hd, by simp [List.lookup], af _ _ h3 A1 _ _ k1 r1.cells rv⟩
  · have q2 := q.2
    split at q2
    · exact ⟨q2.1, h _ _ q2.2⟩
    · exact q2.elim
/-! ### lists of such -/
def mLsw (t : MA) : ME := fun ρ S k => t ρ S fun ws S1 => ws.length ≤ sizeLine ∧ k (.lsw ws) S1
theorem pem_lsw {X : Cx} {es : List Expr} {t : MA} {pos : Pos} (h : PAm X es t) : PEm X (.List es pos) (mLsw t) := by
  refine ⟨(pe_lst h.pa).imp ?_, fun ρ S Q Q' hq q => h.mono ρ S _ _ (fun ws S1 q => ⟨q.1, hq _ _ q.2⟩) q⟩
  rintro σ H Q ⟨A, B, ρ, S, k, r, h, a⟩
  refine upA_then r h fun ws S1 A1 vs H1 h1 k1 r1 rws => ?_
  have hl := rws.length
  refine ⟨by rw [← hl]; exact h1.1, fun p hp => ?_⟩
  refine a _ _ h1.2 A1 _ _ (k1.trans (Keep.upd hp)) (r1.cells.upd hp) ?_
  unfold RW
  exact ⟨p, vs, rfl, upd_same, not_av_new r1.cells hp, RWl.keep (Keep.upd hp) (RWl.iff.mpr rws)⟩
def lswF (w : W) (k : List W → Prop) : Prop := match w with
  | .lsw ws => k ws
  | _ => False
theorem lswF_mono {w : W} {k k' : List W → Prop} (h : ∀ l, k l → k' l) (q : lswF w k) : lswF w k' := by
  cases w <;> first | exact q.elim | exact h _ q
theorem lswF_ok {H : Hp} {A : List (Option Addr)} {B : Addr → Prop} {w : W} {v : V} {k : List W → Prop} (r : RW K H A B w v) (h : lswF w k) : ∃ ws a vs, w = .lsw ws ∧ v = .ref a ∧ H a = some (.lst vs) ∧ ¬ av A B a ∧ RWl K H A B ws vs ∧ k ws := by
  cases w <;> first | exact h.elim | skip
  unfold RW at r
  obtain ⟨a, vs, rfl, e, n, p⟩ := r
  exact ⟨_, a, vs, rfl, rfl, e, n, p, h⟩
def mCatW (ta tb : ME) : ME := fun ρ S k => ta ρ S fun x S1 => tb ρ S1 fun y S2 => lswF x fun l => lswF y fun m => l.length + m.length ≤ sizeLine ∧ k (.lsw (l ++ m)) S2
theorem RWl.append {H : Hp} {A : List (Option Addr)} {B : Addr → Prop} : ∀ {l m : List W} {us vs : List V}, RWl K H A B l us → RWl K H A B m vs → RWl K H A B (l ++ m) (us ++ vs)
  | [], _, _, _, h, q => by
    unfold RWl at h
    subst h
    exact q
  | w :: l, _, _, _, h, q => by
    unfold RWl at h
    obtain ⟨v, r, rfl, h1, h2⟩ := h
    show RWl K H A B (w :: (l ++ _)) (v :: (r ++ _))
    unfold RWl
    exact ⟨v, _, rfl, h1, RWl.append h2 q⟩
theorem RWl.length {H : Hp} {A : List (Option Addr)} {B : Addr → Prop} {l : List W} {us : List V} (h : RWl K H A B l us) : l.length = us.length := (RWl.iff.mp h).length
theorem RWl.at_ {H : Hp} {A : List (Option Addr)} {B : Addr → Prop} {l : List W} {us : List V} (h : RWl K H A B l us) {i : Nat} {w : W} (e : l[i]? = some w) : ∃ v, us[i]? = some v ∧ RW K H A B w v := (show RWs K H A B l us from RWl.iff.mp h).get e
theorem pem_catW {X : Cx} {a b : Expr} {ta tb : ME} {pos : Pos} (ha : PEm X a ta) (hb : PEm X b tb) : PEm X (.BinOp a .Add b pos) (mCatW ta tb) := by
  refine ⟨(pe_op op_cat ha.pe hb.pe).imp ?_, fun ρ S Q Q' h q => ha.mono ρ S _ _ (fun x S1 => hb.mono ρ S1 _ _ fun y S2 => lswF_mono fun l => lswF_mono fun m q => ⟨q.1, h _ _ q.2⟩) q⟩
  rintro σ H Q ⟨A, B, ρ, S, k, r0, h, af⟩
  refine up_then r0 h fun x S1 A1 vx H1 h1 k1 r1 rx => ?_
  refine up_then r1 h1 fun y S2 A2 vy H2 h2 k2 r2 ry => ?_
  obtain ⟨l, a1, xs, rfl, rfl, e1, n1, p1, h3⟩ := lswF_ok (rx.keep k2) h2
  obtain ⟨m, b1, ys, rfl, rfl, e2, n2, p2, hz, h4⟩ := lswF_ok ry h3
  refine ⟨a1, b1, xs, ys, rfl, rfl, e1, e2, by rw [← p1.length, ← p2.length]; exact hz, fun p hp => ?_⟩
  refine af _ _ h4 A2 _ _ ((k1.trans k2).trans (Keep.upd hp)) (r2.cells.upd hp) ?_
  unfold RW
  exact ⟨p, _, rfl, upd_same, not_av_new r2.cells hp, RWl.keep (Keep.upd hp) (p1.append p2)⟩
/-- xs[i] -/
def mIxL (ta : ME) (i : Nat) : ME := fun ρ S k => ta ρ S fun x S1 => lswF x fun l => match l[i]? with
  | some w => k w S1
  | none => False
theorem atI_nat' {α : Type} {l : List α} {i : Nat} (h : i < l.length) : L2.atI l (i : Int) = l[i]? := by
  unfold L2.atI L2.ixN
  rw [if_pos (by omega), if_pos (by omega)]
  simp
theorem pem_ixL {X : Cx} {a : Expr} {ta : ME} {i : Nat} {b : Expr} {pos : Pos} (ha : PEm X a ta) (hb : PE X b (tC (.int (i : Nat)))) (hs : PlainIx b := by exact fun _ _ => rfl) : PEm X (.Subscript a b pos) (mIxL ta i) := by
  refine ⟨(pe_ix ix_seq ha.pe hb hs).imp ?_, fun ρ S Q Q' h q => ha.mono ρ S _ _ (fun x S1 => lswF_mono fun l q => ?_) q⟩
  · rintro σ H Q ⟨A, B, ρ, S, k, r0, h, af⟩
    refine up_then r0 h fun x S1 A1 vx H1 h1 k1 r1 rx => ?_
    obtain ⟨l, a1, xs, rfl, rfl, e1, n1, p1, h3⟩ := lswF_ok rx h1
    split at h3
    · rename_i w ew
      obtain ⟨v, ev, rv⟩ := p1.at_ ew
      have hi : i < xs.length := (List.getElem?_eq_some_iff.mp ev).1
      exact .inl ⟨a1, xs, i, v, rfl, rfl, .inl (.inl e1), by rw [atI_nat' hi]; exact ev, af _ _ h3 A1 _ _ k1 r1.cells rv⟩
    · exact h3.elim
  · split at q
    · exact h _ _ q
    · exact q.elim
/-! ### for i, x in enumerate(xs) -/
def forW (i j : Nat) (tb : MS) (E : End) : List W → Nat → Rho → Sto → Prop
  | [], _, ρ, S => E.nx ρ S
  | w :: ws, n, ρ, S => tb { nx := forW i j tb E ws (n + 1), rt := E.rt, bk := E.nx, ct := forW i j tb E ws (n + 1) } ((ρ.set i (some (.val (.int (n : Nat))))).set j (some w)) S
def sForEW (i j : Nat) (te : ME) (tb : MS) : MS := fun E ρ S => te ρ S fun w S1 => lswF w fun ws => forW i j tb E ws 0 ρ S1
theorem forW_mono {i j : Nat} {tb : MS} (mb : MonoS tb) {E E' : End} (l : E.le E') : ∀ ws n ρ S, forW i j tb E ws n ρ S → forW i j tb E' ws n ρ S
  | [], _, _, _, h => l.nx _ _ h
  | _ :: ws, n, _, _, h => mb { nx := forW i j tb E ws (n + 1), rt := E.rt, bk := E.nx, ct := forW i j tb E ws (n + 1) } { nx := forW i j tb E' ws (n + 1), rt := E'.rt, bk := E'.nx, ct := forW i j tb E' ws (n + 1) } _ _
      ⟨forW_mono mb l ws _, l.rt, l.nx, forW_mono mb l ws _⟩ h
theorem psm_forEW {X : Cx} {tg iter e : Expr} {body : List Stmt} {i j : Nat} {te : ME} {tb : MS} {pos : Pos} (hp : PassesOwn (model X.prog X.w) X.A X.env X.xe) (hc : X.calm = true) (he : PEm X e te) (hi : ∀ ta, PA X [e] ta → PI X tg iter (tiE X.K ta)) (hg : PG X tg (gTup X.K 2 (gCons (gName i) (gCons (gName j) gNil)))) (hb : PSsm X body tb)
    (hs1 : starEach [e] X.env = (false, eval e X.env) :: starEach [] X.env := by rfl) (hs : ∀ x, foldedSetIterable iter X.env x = pure x := by intro _; rfl) : PSm X (.For tg iter body [] pos) (sForEW i j te tb) := by
  refine ⟨(ps_for hp hc (hi _ (pa_cons he.pe pa_nil hs1)) hg hb.pss hs).imp ?_, fun E E' ρ S l h => he.mono ρ S _ _ (fun w S1 => lswF_mono fun ws q => forW_mono hb.mono l ws _ _ _ q) h⟩
  rintro D σ H ⟨A, B, ρ, S, E, r, h, a⟩
  refine up_then r h fun w S1 A1 v H1 h1 k1 r1 rw1 => ?_
  obtain ⟨ws, a1, xs, rfl, rfl, e1, n1, p1, h2⟩ := lswF_ok rw1 h1
  refine ⟨.l a1, rfl, ⟨xs, .inl (.inl e1)⟩, ?_⟩
  have sty : ∀ {A' H'}, Keep A1 H1 A' H' → H' a1 = some (.lst xs) := fun k => (k.st a1 _ e1 fun z => n1 (.inr z)).1
  have hlen := p1.length
  have wk : Walk (ItE X.K (.l a1)) xs.length (fun H => H a1 = some (.lst xs)) (fun n H v H' => ∃ T x, v = .ref T ∧ H T = none ∧ H' = L2.upd H T (.tup [.int (n : Nat), x]) ∧ xs[n]? = some x) := by
    refine ⟨fun n H2 hn g => ?_, fun H2 g => ?_, fun n H2 x H3 hn g y => ?_⟩
    · exact ⟨xs, xs[n], .inl (.inl g), List.getElem?_eq_getElem hn⟩
    · exact ⟨xs, .inl (.inl g), rfl⟩
    · obtain ⟨T, x, rfl, hT, rfl, e2⟩ := y
      exact ⟨T, x, rfl, hT, rfl, e2 _ (.inl (.inl g))⟩
  refine for_it wk (fun n σ' H' => ∃ A' ρ' S', Keep A1 H1 A' H' ∧ Rel X.kw H' A' B ρ' S' σ' ∧ forW i j tb E (ws.drop n) n ρ' S') ⟨A1, ρ, S1, Keep.refl, r1, h2⟩ (fun n σ' H' _ ⟨A', ρ', S', k', _⟩ => sty k') ?_ ?_
  · rintro n x σ2 H2 H3 hn ⟨A2, ρ2, S2, k2, r2, h3⟩ ⟨T, y, rfl, hT, rfl, ey⟩
    have hnw : n < ws.length := by rw [hlen]; exact hn
    obtain ⟨v, ev, rv⟩ := p1.at_ (List.getElem?_eq_getElem hnw)
    rw [ey] at ev
    cases ev
    rw [List.drop_eq_getElem_cons hnw] at h3
    have k3 : Keep A2 H2 A2 (L2.upd H2 T (.tup [.int (n : Nat), y])) := Keep.upd hT
    refine ⟨T, _, rfl, .inl (.inl upd_same), rfl, ⟨_, _, rfl, ⟨_, _, rfl, rfl, ?_⟩⟩⟩
    have r3 := r2.keep k3 (r2.cells.upd hT)
    have kk := k2.trans k3
    have r4 := (r3.set (i := i) (w := .val (.int (n : Nat))) (v := .int (n : Nat)) (by unfold RW RV; rfl)).set (i := j) (w := ws[n]) (v := y) (rv.keep kk)
    exact ⟨A2, B, _, S2, _, r4, h3, ⟨fun ρ' S' h' A' σ' H' k' r' => ⟨A', ρ', S', kk.trans k', r', h'⟩, a.rt.keep (k1.trans kk), a.nx.keep (k1.trans kk), fun ρ' S' h' A' σ' H' k' r' => ⟨A', ρ', S', kk.trans k', r', h'⟩⟩⟩
  · rintro σ2 H2 ⟨A2, ρ2, S2, k2, r2, h3⟩
    rw [← hlen, List.drop_length] at h3
    exact a.nx _ _ h3 A2 σ2 H2 (k1.trans k2) r2
end Fo
/-! Ms: the mirrors of the defs first met in this law. Printed by gen.py. -/
namespace Fo
open PySem PySem.Spec PyProof.Rows L2
def t__law_kinds : MF := mfunS 2
    (sSeq (sSet 1 (mVal (nLst (aCons (mIsX xns (fun x => x == "NoWord") (mVar 0)) (aCons (mIsX xns (fun x => x == "NoName") (mVar 0)) (aCons (mIsX xns (fun x => x == "Taken") (mVar 0)) (aCons (mIsX xns (fun x => x == "Held") (mVar 0)) aNil)))))))
    (sSeq (sSet 1 (mBin addD (mVar 1) (mVal (nLst (aCons (mIsX xns (fun x => x == "Full") (mVar 0)) (aCons (mIsX xns (fun x => x == "NoWay") (mVar 0)) (aCons (mIsX xns (fun x => x == "NoHole") (mVar 0)) (aCons (mIsX xns (fun x => x == "NoNumber") (mVar 0)) aNil))))))))
    (sSeq (sSet 1 (mBin addD (mVar 1) (mVal (nLst (aCons (mIsX xns (fun x => x == "NoBook") (mVar 0)) (aCons (mIsX xns (fun x => x == "NoGuide") (mVar 0)) (aCons (mIsX xns (fun x => x == "NoReader") (mVar 0)) aNil)))))))
    (sRet (mBin addD (mVar 1) (mVal (nLst (aCons (mIsX xns (fun x => x == "NoWeb") (mVar 0)) (aCons (mIsX xns (fun x => x == "NoFrame") (mVar 0)) aNil)))))))))
theorem m__law_kinds : MonoF t__law_kinds := mfunS_mono
def t_law_v19 : MF := mfun 12
    (sSeq (sSet 1 (mCall t__law_open (aCons (mVar 0) aNil) []))
    (sSeq (sFor (iRange1 (aCons (mC (.int 3)) aNil)) (gVar 2) (sSeq (sPar 7 8 (aCons (mBin ixD (mVal (nLst (aCons (mC (.str [])) (aCons (mC (.str [97, 32, 119, 111, 114, 100])) (aCons (mC (.str [110, 111, 110, 101])) aNil))))) (mCall t__law_take (aCons (mVar 1) (aCons (mC (.int 3)) aNil)) [])) (aCons (mCall t__law_take (aCons (mVar 1) (aCons (mC (.int 4)) aNil)) []) aNil)))
    (sSeq (sSet 3 (mBin ixD (mVal (nLst (aCons (mC (.str [97])) (aCons (mC (.str [119, 101, 98])) (aCons (mC (.str [122, 122, 122, 122, 122, 122, 122, 122])) aNil))))) (mCall t__law_take (aCons (mVar 1) (aCons (mC (.int 3)) aNil)) [])))
    (sSeq (sSet 4 (mBin ixD (mVal (nLst (aCons (mC .non) (aCons (mC (.str [])) (aCons (mVal (nLst (aCons (mC (.str [97])) aNil))) (aCons (mTup (aCons (mC (.str [97])) (aCons (mC (.int 1)) aNil))) (aCons (mC (.int 7)) (aCons (mC (.bl true)) (aCons (mC (.str [65])) aNil))))))))) (mCall t__law_take (aCons (mVar 1) (aCons (mC (.int 7)) aNil)) [])))
    (sSeq (sSet 5 (mLsw (aCons (mExc1 "NoWord" "hole" (mVar 8)) (aCons (mExc1 "NoName" "name" (mVar 4)) (aCons (mExc1 "Taken" "name" (mVar 3)) (aCons (mExc1 "Held" "name" (mVar 3)) (aCons (mExc1 "Full" "most" (mBin addD (mC (.int 8)) (mVar 8))) (aCons (mExc0 "NoWay" (mVar 7)) (aCons (mExc0 "NoHole" (mVar 7)) aNil)))))))))
    (sSeq (sSet 5 (mCatW (mVar 5) (mLsw (aCons (mExc0 "NoNumber" (mVar 7)) (aCons (mExc0 "NoBook" (mVar 7)) (aCons (mExc0 "NoGuide" (mVar 7)) (aCons (mExc0 "NoReader" (mVar 7)) (aCons (mExc0 "NoWeb" (mVar 7)) (aCons (mExc0 "NoFrame" (mVar 7)) aNil)))))))))
    (sSeq (sForEW 9 10 (mVar 5) (sSeq (sIf (cOr (cNot (mCond (mIsX xns (fun _ => true) (mVar 10)))) (cNot (mCond (mIsX xns (fun _ => true) (mVar 10))))) (sRet (mC (.bl false))) sNext)
    (sIf (cNot (mCond (mCall (t__law_same 40) (aCons (mCallS t__law_kinds (aCons (mVar 10) aNil) []) (aCons (mVal (nLC (iRange1 (aCons (mC (.int 13)) aNil)) (gVar 11) cYes (mBin (eqD false) (mVar 11) (mVar 9)) [11])) aNil)) []))) (sRet (mC (.bl false))) sNext)))
    (sSeq (sSet 6 (mVal (nLst (aCons (mXf ["NoWord"] "hole" (mIxL (mVar 5) 0)) (aCons (mXf ["NoName", "Taken", "Held"] "name" (mIxL (mVar 5) 1)) (aCons (mXf ["NoName", "Taken", "Held"] "name" (mIxL (mVar 5) 2)) (aCons (mXf ["NoName", "Taken", "Held"] "name" (mIxL (mVar 5) 3)) (aCons (mXf ["Full"] "most" (mIxL (mVar 5) 4)) aNil))))))))
    (sIf (cNot (mCond (mCall (t__law_same 40) (aCons (mVar 6) (aCons (mVal (nLst (aCons (mVar 8) (aCons (mVar 4) (aCons (mVar 3) (aCons (mVar 3) (aCons (mBin addD (mC (.int 8)) (mVar 8)) aNil))))))) aNil)) []))) (sRet (mC (.bl false))) sNext)))))))))
    (sRet (mC (.bl true)))))
end Fo
/-! HookS: what is told of the heap ahead of the law's call, with the modules' own dict. -/
namespace Fo
open PySem PySem.Spec PyProof.Rows L2
def seqB (o : Obj) : Bool := match o.data with
  | .seq _ _ => true
  | _ => false
def sysB (K : PySem.W.Frag) (g : Addr → Option Obj) : Bool := (K.lookup sysModules).isNone && match g sysModules with
  | some o => !seqB o
  | none => false
theorem sysB_ok {K : PySem.W.Frag} {h : Heap} (e : sysB K h.get? = true) : SysOk K h := by
  unfold sysB at e
  rw [Bool.and_eq_true] at e
  obtain ⟨e1, e2⟩ := e
  refine ⟨Option.isNone_iff_eq_none.mp e1, ?_⟩
  split at e2
  · rename_i o q
    refine ⟨o, q, fun z n y => ?_⟩
    unfold seqB at e2
    rw [y] at e2
    cases e2
  · cases e2
end Fo
/-! HookX: what is told of the heap ahead of the law's call, with what the classes of errors say. -/
namespace Fo
open PySem PySem.Spec PyProof.Rows L2
def xAll (ex : List (PySem.W.Frag → Bool)) (K : PySem.W.Frag) : Bool := ex.all fun f => f K
theorem xAt {ex : List (PySem.W.Frag → Bool)} {K : PySem.W.Frag} (h : xAll ex K = true) (i : Nat) {f : PySem.W.Frag → Bool} (e : ex[i]? = some f := by rfl) : f K = true := List.all_eq_true.mp h f (List.mem_of_getElem? e)
def asX (g : Addr → Option Obj) (n : Nat) : List Addr := He.asD g n ++ [cStatics]
def obsXG (n : Nat) (fa : List He.Fa) (fn : List He.DefD) (ex : List (PySem.W.Frag → Bool)) (g : Addr → Option Obj) : Bool × He.AlD := (sysB (He.frG g (asX g n)) g && xAll ex (He.frG g (asX g n)), He.obsD fa fn (He.frG g (asX g n)))
def hookX (n : Nat) (fa : List He.Fa) (fn : List He.DefD) (ex : List (PySem.W.Frag → Bool)) : PySem.W.Hook where
  α := Bool × He.AlD
  obs := fun s => obsXG n fa fn ex s.heap.get?
  val := fun _ => (true, He.valD fn)
  says := fun _ h => ∃ K : PySem.W.Frag, K.In h ∧ (He.SaysD fa fn K ∧ xAll ex K = true) ∧ SysOk K h
  of := fun _ s e => by
    injection e with e1 e2
    obtain ⟨e3, e4⟩ := Bool.and_eq_true_iff.mp e1
    exact ⟨_, He.frG_in, ⟨e2, e4⟩, sysB_ok e3⟩
  keeps := fun _ _ _ ⟨K, hK, c, s⟩ k => ⟨K, PySem.W.Frag.In.keeps hK k, c, s.1, let ⟨o, e1, e2⟩ := s.2; ⟨o, k _ _ e1, e2⟩⟩
theorem obsXG_eq {n : Nat} {fa : List He.Fa} {fn : List He.DefD} {ex : List (PySem.W.Frag → Bool)} {g : Addr → Option Obj} {s : Shared} (h : ∀ a, g a = s.heap.get? a) : obsXG n fa fn ex g = (hookX n fa fn ex).obs s := by
  have e : g = s.heap.get? := funext h
  rw [e] <;> rfl
/-! ### what is asked of the classes -/
section
variable {K : PySem.W.Frag}
def eqV (a b : Option Value) : Bool := decide (a = b)
def oexO (K : PySem.W.Frag) (C : Addr) : Bool := match K.lookup C with
  | some ⟨.type "type", _, .cls cd, sl⟩ => (match cd.mro, sl.toList with
    | .ref C' :: bm, [_, _, _, _, some (.builtin n), _] => C' == C && (n == "ValueError.__new__" && (!cd.hasDel && (cd.hasDict && PySem.HandSPX.refsVE bm)))
    | _, _ => false)
  | _ => false
theorem oexO_ok {C : Addr} (q : oexO K C = true) : ∃ nm q N bs bm sn sub ab col dd k0 k1 k2 k3 k5, K.lookup C = some (excClassObj nm q C N bs bm true sn sub ab col dd k0 k1 k2 k3 k5 "ValueError.__new__") ∧ PySem.HandSPX.refsVE bm = true := by
  unfold oexO at q
  split at q
  · rename_i dd cd sl ho
    split at q
    · rename_i C' bm k0 k1 k2 k3 n k5 hm hs
      simp only [Bool.and_eq_true, beq_iff_eq, Bool.not_eq_true'] at q
      obtain ⟨rfl, rfl, hdel, hd, hr⟩ := q
      obtain ⟨nm, bs, mro, ns, qn, hdi, sn, sub, ab, col, del⟩ := cd
      dsimp only at hm hdel hd
      subst hm hdel hd
      have hsl : sl = #[k0, k1, k2, k3, some (.builtin "ValueError.__new__"), k5] := by
        obtain ⟨l⟩ := sl
        simp only at hs
        rw [hs]
      subst hsl
      exact ⟨nm, qn, ns, bs, bm, sn, sub, ab, col, dd, k0, k1, k2, k3, k5, ho, hr⟩
    · cases q
  · cases q
def oexB (K : PySem.W.Frag) (C : Addr) : Bool := oexO K C && (He.eqO (PySem.W.findIn K (.ref C) "__setattr__") (some (some (.builtin "object.__setattr__"))) && (decide (PySem.W.subIn K (.ref C) (.type "BaseException") = some true) && (eqV (PySem.W.typeIn K (.ref C)) (some (.type "type")) && PySem.W.keepIn K (.ref C))))
theorem oexB_ok {C : Addr} (q : oexB K C = true) : OexC K C := by
  obtain ⟨q1, q⟩ := He.ba q
  obtain ⟨q2, q⟩ := He.ba q
  obtain ⟨q3, q⟩ := He.ba q
  obtain ⟨q4, q5⟩ := He.ba q
  exact ⟨oexO_ok q1, He.eqO_ok q2, of_decide_eq_true q3, of_decide_eq_true q4, q5⟩
/-- a class with an __init__ that stores f -/
def xiB (x f : Str) : PySem.W.Frag → Bool := fun K => oexB K (He.ga K x) && (He.eqO (PySem.W.findIn K (.ref (He.ga K x)) "__init__") (some (some (.ref (He.ma K (He.ga K x) "__init__")))) && (eqV (PySem.W.typeIn K (.ref (He.ma K (He.ga K x) "__init__"))) (some (.type "function")) && He.eqO (PySem.W.findIn K (.ref (He.ga K x)) f) (some none)))
theorem xiB_ok {x f : Str} (q : xiB x f K = true) : ExI K (He.ga K x) (He.ma K (He.ga K x) "__init__") f := by
  obtain ⟨q1, q⟩ := He.ba q
  obtain ⟨q2, q⟩ := He.ba q
  obtain ⟨q3, q4⟩ := He.ba q
  exact ⟨oexB_ok q1, He.eqO_ok q2, of_decide_eq_true q3, He.eqO_ok q4⟩
def fcB : Option PySem.W.CFound → Bool
  | some (.val (.builtin n)) => n == "ValueError.__init__"
  | _ => false
theorem fcB_ok : ∀ {o : Option PySem.W.CFound}, fcB o = true → o = some (.val (.builtin "ValueError.__init__"))
  | some (.val (.builtin n)), h => by
    have e : n = "ValueError.__init__" := beq_iff_eq.mp h
    rw [e]
  | some (.val .none), h => by cases h
  | some (.val (.bool _)), h => by cases h
  | some (.val (.int _ _)), h => by cases h
  | some (.val (.float _ _)), h => by cases h
  | some (.val (.str _ _)), h => by cases h
  | some (.val (.bytes _ _)), h => by cases h
  | some (.val .ellipsis), h => by cases h
  | some (.val .notImplemented), h => by cases h
  | some (.val (.type _)), h => by cases h
  | some (.val (.ref _)), h => by cases h
  | some (.get _ _ _ _), h => by cases h
  | none, h => by cases h
/-- a class whose __init__ is ValueError's -/
def ebB (x : Str) : PySem.W.Frag → Bool := fun K => He.eqO (PySem.W.specialIn K (.ref (He.ga K x)) "__getattribute__") (some (some (.builtin "type.__getattribute__"))) && (PySem.W.readsIn K (He.ga K x) (.type "type") && fcB (PySem.W.findCls K (.ref (He.ga K x)) (.type "type") "__init__"))
theorem ebB_ok {x : Str} (q : ebB x K = true) : ExB K (He.ga K x) := by
  obtain ⟨q1, q⟩ := He.ba q
  obtain ⟨q2, q3⟩ := He.ba q
  exact ⟨He.eqO_ok q1, q2, fcB_ok q3⟩
/-- a class without an __init__ of its own -/
def xcB (x : Str) : PySem.W.Frag → Bool := fun K => PySem.W.excIn K (He.ga K x) He.veBase "ValueError.__new__" && PySem.W.keepIn K (.ref (He.ga K x))
theorem xcB_ok {x : Str} (q : xcB x K = true) : PySem.W.excIn K (He.ga K x) He.veBase "ValueError.__new__" = true ∧ PySem.W.keepIn K (.ref (He.ga K x)) = true := He.ba q
def exccB (K : PySem.W.Frag) (D : Addr) : Bool := He.eqO (PySem.W.findIn K (.ref D) "__getattribute__") (some (some (.builtin "BaseException.__getattribute__"))) && (He.eqO (PySem.W.findIn K (.ref D) "__getattr__") (some none) && (decide (PySem.W.subIn K (.ref D) (.type "BaseException") = some true) && (PySem.W.hasDictIn K D &&
  (He.eqO (PySem.W.findIn K (.ref D) "__class__") (some (some (.builtin "object.__class__"))) && (He.eqO (PySem.W.specialIn K (.builtin "object.__class__") "__get__") (some (some (.builtin "getset_descriptor.__get__"))) && (decide (PySem.W.takesIn K (.builtin "object.__class__") = some true) && decide (PySem.W.mroIn K D (.type "object") = some true)))))))
theorem exccB_ok {D : Addr} (q : exccB K D = true) : ExcC K D := by
  obtain ⟨q1, q⟩ := He.ba q
  obtain ⟨q2, q⟩ := He.ba q
  obtain ⟨q3, q⟩ := He.ba q
  obtain ⟨q4, q⟩ := He.ba q
  obtain ⟨q5, q⟩ := He.ba q
  obtain ⟨q6, q⟩ := He.ba q
  obtain ⟨q7, q8⟩ := He.ba q
  exact ⟨He.eqO_ok q1, He.eqO_ok q2, of_decide_eq_true q3, q4, He.eqO_ok q5, He.eqO_ok q6, of_decide_eq_true q7, of_decide_eq_true q8⟩
/-- which class is asked for -/
def cvD (K : PySem.W.Frag) : Sum Str String → Value
  | .inl x => .ref (He.ga K x)
  | .inr n => .type n
def isxB (ns : List Str) (t : Str → Bool) (c : Sum Str String) : PySem.W.Frag → Bool := fun K => ns.all fun x => exccB K (He.ga K x) && decide (PySem.W.kitOne K (.ref (He.ga K x)) (cvD K c) = some (t x))
theorem isxB_ok {mg : Str → Option Value} {ns : List Str} {t : Str → Bool} {c : Sum Str String} (hg : ∀ x ∈ ns, mg x = some (.ref (He.ga K x))) (q : isxB ns t c K = true) : IsXs K mg ns t (cvD K c) := fun x hx C hC => by
  have e := hg x hx
  rw [e] at hC
  have ec : He.ga K x = C := by
    injection hC with hC
    injection hC
  subst ec
  obtain ⟨q1, q2⟩ := He.ba (List.all_eq_true.mp q x hx)
  exact ⟨exccB_ok q1, of_decide_eq_true q2⟩
def xfsB (ns : List Str) (f : Str) : PySem.W.Frag → Bool := fun K => ns.all fun x => xfB K (He.ga K x) && He.eqO (PySem.W.findIn K (.ref (He.ga K x)) f) (some none)
theorem xfsB_ok {mg : Str → Option Value} {ns : List Str} {f : Str} (hg : ∀ x ∈ ns, mg x = some (.ref (He.ga K x))) (q : xfsB ns f K = true) : XfCs K mg ns f := fun x hx C hC => by
  have e := hg x hx
  rw [e] at hC
  have ec : He.ga K x = C := by
    injection hC with hC
    injection hC
  subst ec
  obtain ⟨q1, q2⟩ := He.ba (List.all_eq_true.mp q x hx)
  exact ⟨xfB_ok q1, He.eqO_ok q2⟩
end
theorem cv_ref {a : Addr} : ∀ u : Value, RelV (.ref a) u → u = .ref a := fun _ h => h
theorem cv_ty {n : String} : ∀ u : Value, RelV (.ty n) u → u = .type n := fun _ h => h
end Fo
/-! Tie: the defs of this law keep their mirrors; the head. Printed by gen.py. -/
namespace Fo
open PySem PySem.Spec PyProof.Rows L2
def top (i : Nat) : Stmt := PySem.Challenge.pw_foeholes_k14_refusals_made_by_hand.main.body.getD i (.Pass ⟨0, 0, 0, 0⟩)
def clsOf : Stmt → List Stmt
  | .ClassDef (body := b) .. => b
  | _ => []
abbrev s_Full____init__ : Stmt := (clsOf (top 6)).getD 0 (.Pass ⟨0, 0, 0, 0⟩)
theorem sc_Full____init__ : FnScope ["self", "most"] ["self", "most"] (defScope s_Full____init__) := ⟨rfl, rfl, rfl, by decide +kernel, rfl, by decide +kernel, by decide +kernel⟩
abbrev s_Held____init__ : Stmt := (clsOf (top 5)).getD 0 (.Pass ⟨0, 0, 0, 0⟩)
theorem sc_Held____init__ : FnScope ["self", "name"] ["self", "name"] (defScope s_Held____init__) := ⟨rfl, rfl, rfl, by decide +kernel, rfl, by decide +kernel, by decide +kernel⟩
abbrev s_NoName____init__ : Stmt := (clsOf (top 3)).getD 0 (.Pass ⟨0, 0, 0, 0⟩)
theorem sc_NoName____init__ : FnScope ["self", "name"] ["self", "name"] (defScope s_NoName____init__) := ⟨rfl, rfl, rfl, by decide +kernel, rfl, by decide +kernel, by decide +kernel⟩
abbrev s_NoWord____init__ : Stmt := (clsOf (top 2)).getD 0 (.Pass ⟨0, 0, 0, 0⟩)
theorem sc_NoWord____init__ : FnScope ["self", "hole"] ["self", "hole"] (defScope s_NoWord____init__) := ⟨rfl, rfl, rfl, by decide +kernel, rfl, by decide +kernel, by decide +kernel⟩
abbrev s_Taken____init__ : Stmt := (clsOf (top 4)).getD 0 (.Pass ⟨0, 0, 0, 0⟩)
theorem sc_Taken____init__ : FnScope ["self", "name"] ["self", "name"] (defScope s_Taken____init__) := ⟨rfl, rfl, rfl, by decide +kernel, rfl, by decide +kernel, by decide +kernel⟩
abbrev s__law_kinds : Stmt := top 20
theorem sc__law_kinds : FnScope ["one", "found"] ["one"] (defScope s__law_kinds) := ⟨rfl, rfl, rfl, by decide +kernel, rfl, by decide +kernel, by decide +kernel⟩
abbrev s__law_open : Stmt := top 16
theorem sc__law_open : FnScope ["script", "cells", "k", "cell"] ["script"] (defScope s__law_open) := ⟨rfl, rfl, rfl, by decide +kernel, rfl, by decide +kernel, by decide +kernel⟩
abbrev s__law_same : Stmt := top 19
theorem sc__law_same : FnScope ["found", "due", "one", "other"] ["found", "due"] (defScope s__law_same) := ⟨rfl, rfl, rfl, by decide +kernel, rfl, by decide +kernel, by decide +kernel⟩
abbrev s__law_spread : Stmt := top 17
theorem sc__law_spread : FnScope ["cell", "at", "primes", "one", "two", "three"] ["cell", "at"] (defScope s__law_spread) := ⟨rfl, rfl, rfl, by decide +kernel, rfl, by decide +kernel, by decide +kernel⟩
abbrev s__law_take : Stmt := top 18
theorem sc__law_take : FnScope ["pen", "amount", "found", "at", "cell"] ["pen", "amount"] (defScope s__law_take) := ⟨rfl, rfl, rfl, by decide +kernel, rfl, by decide +kernel, by decide +kernel⟩
abbrev s_law : Stmt := top 21
theorem sc_law : FnScope ["script", "pen", "turn", "name", "thing", "some", "fields", "word", "hole", "k", "one", "j"] ["script"] (defScope s_law) := ⟨rfl, rfl, rfl, by decide +kernel, rfl, by decide +kernel, by decide +kernel⟩
structure Txt (K : PySem.W.Frag) (mg : Str → Option Value) where
  a_Full____init__ : Addr
  fd_Full____init__ : FuncData
  D_Full____init__ : FunD K "__init__" "Full.__init__" (defArgs s_Full____init__) (defBody s_Full____init__) (defScope s_Full____init__) [] [] a_Full____init__ fd_Full____init__
  a_Held____init__ : Addr
  fd_Held____init__ : FuncData
  D_Held____init__ : FunD K "__init__" "Held.__init__" (defArgs s_Held____init__) (defBody s_Held____init__) (defScope s_Held____init__) [] [] a_Held____init__ fd_Held____init__
  a_NoName____init__ : Addr
  fd_NoName____init__ : FuncData
  D_NoName____init__ : FunD K "__init__" "NoName.__init__" (defArgs s_NoName____init__) (defBody s_NoName____init__) (defScope s_NoName____init__) [] [] a_NoName____init__ fd_NoName____init__
  a_NoWord____init__ : Addr
  fd_NoWord____init__ : FuncData
  D_NoWord____init__ : FunD K "__init__" "NoWord.__init__" (defArgs s_NoWord____init__) (defBody s_NoWord____init__) (defScope s_NoWord____init__) [] [] a_NoWord____init__ fd_NoWord____init__
  a_Taken____init__ : Addr
  fd_Taken____init__ : FuncData
  D_Taken____init__ : FunD K "__init__" "Taken.__init__" (defArgs s_Taken____init__) (defBody s_Taken____init__) (defScope s_Taken____init__) [] [] a_Taken____init__ fd_Taken____init__
  a__law_kinds : Addr
  fd__law_kinds : FuncData
  D__law_kinds : FunD K "_law_kinds" "_law_kinds" (defArgs s__law_kinds) (defBody s__law_kinds) (defScope s__law_kinds) [] [] a__law_kinds fd__law_kinds
  g__law_kinds : mg "_law_kinds" = some (.ref a__law_kinds)
  a__law_open : Addr
  fd__law_open : FuncData
  D__law_open : FunD K "_law_open" "_law_open" (defArgs s__law_open) (defBody s__law_open) (defScope s__law_open) [] [] a__law_open fd__law_open
  g__law_open : mg "_law_open" = some (.ref a__law_open)
  a__law_same : Addr
  fd__law_same : FuncData
  D__law_same : FunD K "_law_same" "_law_same" (defArgs s__law_same) (defBody s__law_same) (defScope s__law_same) [] [] a__law_same fd__law_same
  g__law_same : mg "_law_same" = some (.ref a__law_same)
  a__law_spread : Addr
  fd__law_spread : FuncData
  D__law_spread : FunD K "_law_spread" "_law_spread" (defArgs s__law_spread) (defBody s__law_spread) (defScope s__law_spread) [] [] a__law_spread fd__law_spread
  g__law_spread : mg "_law_spread" = some (.ref a__law_spread)
  a__law_take : Addr
  fd__law_take : FuncData
  D__law_take : FunD K "_law_take" "_law_take" (defArgs s__law_take) (defBody s__law_take) (defScope s__law_take) [] [] a__law_take fd__law_take
  g__law_take : mg "_law_take" = some (.ref a__law_take)
  a_law : Addr
  fd_law : FuncData
  D_law : FunD K "law" "law" (defArgs s_law) (defBody s_law) (defScope s_law) [] [] a_law fd_law
  g_law : mg "law" = some (.ref a_law)
  C_Full : Addr
  g_Full : mg "Full" = some (.ref C_Full)
  C_Held : Addr
  g_Held : mg "Held" = some (.ref C_Held)
  C_HoleError : Addr
  g_HoleError : mg "HoleError" = some (.ref C_HoleError)
  C_NoBook : Addr
  g_NoBook : mg "NoBook" = some (.ref C_NoBook)
  C_NoFrame : Addr
  g_NoFrame : mg "NoFrame" = some (.ref C_NoFrame)
  C_NoGuide : Addr
  g_NoGuide : mg "NoGuide" = some (.ref C_NoGuide)
  C_NoHole : Addr
  g_NoHole : mg "NoHole" = some (.ref C_NoHole)
  C_NoName : Addr
  g_NoName : mg "NoName" = some (.ref C_NoName)
  C_NoNumber : Addr
  g_NoNumber : mg "NoNumber" = some (.ref C_NoNumber)
  C_NoReader : Addr
  g_NoReader : mg "NoReader" = some (.ref C_NoReader)
  C_NoWay : Addr
  g_NoWay : mg "NoWay" = some (.ref C_NoWay)
  C_NoWeb : Addr
  g_NoWeb : mg "NoWeb" = some (.ref C_NoWeb)
  C_NoWord : Addr
  g_NoWord : mg "NoWord" = some (.ref C_NoWord)
  C_Taken : Addr
  g_Taken : mg "Taken" = some (.ref C_Taken)
  xi_Full : ExI K C_Full a_Full____init__ "most"
  xi_Held : ExI K C_Held a_Held____init__ "name"
  xi_NoName : ExI K C_NoName a_NoName____init__ "name"
  xi_NoWord : ExI K C_NoWord a_NoWord____init__ "hole"
  xi_Taken : ExI K C_Taken a_Taken____init__ "name"
  eb_HoleError : ExB K C_HoleError
  xc_NoBook : PySem.W.excIn K C_NoBook He.veBase "ValueError.__new__" = true ∧ PySem.W.keepIn K (.ref C_NoBook) = true
  xc_NoFrame : PySem.W.excIn K C_NoFrame He.veBase "ValueError.__new__" = true ∧ PySem.W.keepIn K (.ref C_NoFrame) = true
  xc_NoGuide : PySem.W.excIn K C_NoGuide He.veBase "ValueError.__new__" = true ∧ PySem.W.keepIn K (.ref C_NoGuide) = true
  xc_NoHole : PySem.W.excIn K C_NoHole He.veBase "ValueError.__new__" = true ∧ PySem.W.keepIn K (.ref C_NoHole) = true
  xc_NoNumber : PySem.W.excIn K C_NoNumber He.veBase "ValueError.__new__" = true ∧ PySem.W.keepIn K (.ref C_NoNumber) = true
  xc_NoReader : PySem.W.excIn K C_NoReader He.veBase "ValueError.__new__" = true ∧ PySem.W.keepIn K (.ref C_NoReader) = true
  xc_NoWay : PySem.W.excIn K C_NoWay He.veBase "ValueError.__new__" = true ∧ PySem.W.keepIn K (.ref C_NoWay) = true
  xc_NoWeb : PySem.W.excIn K C_NoWeb He.veBase "ValueError.__new__" = true ∧ PySem.W.keepIn K (.ref C_NoWeb) = true
  isx_Full : IsXs K mg xns (fun x => x == "Full") (.ref C_Full)
  isx_Held : IsXs K mg xns (fun x => x == "Held") (.ref C_Held)
  isx_HoleError : IsXs K mg xns (fun _ => true) (.ref C_HoleError)
  isx_NoBook : IsXs K mg xns (fun x => x == "NoBook") (.ref C_NoBook)
  isx_NoFrame : IsXs K mg xns (fun x => x == "NoFrame") (.ref C_NoFrame)
  isx_NoGuide : IsXs K mg xns (fun x => x == "NoGuide") (.ref C_NoGuide)
  isx_NoHole : IsXs K mg xns (fun x => x == "NoHole") (.ref C_NoHole)
  isx_NoName : IsXs K mg xns (fun x => x == "NoName") (.ref C_NoName)
  isx_NoNumber : IsXs K mg xns (fun x => x == "NoNumber") (.ref C_NoNumber)
  isx_NoReader : IsXs K mg xns (fun x => x == "NoReader") (.ref C_NoReader)
  isx_NoWay : IsXs K mg xns (fun x => x == "NoWay") (.ref C_NoWay)
  isx_NoWeb : IsXs K mg xns (fun x => x == "NoWeb") (.ref C_NoWeb)
  isx_NoWord : IsXs K mg xns (fun x => x == "NoWord") (.ref C_NoWord)
  isx_Taken : IsXs K mg xns (fun x => x == "Taken") (.ref C_Taken)
  isx_ValueError : IsXs K mg xns (fun _ => true) (.type "ValueError")
  xf_hole : XfCs K mg ["NoWord"] "hole"
  xf_most : XfCs K mg ["Full"] "most"
  xf_name : XfCs K mg ["NoName", "Taken", "Held"] "name"
  f_ValueError : mg "ValueError" = none
  f_bool : mg "bool" = none
  f_enumerate : mg "enumerate" = none
  f_int : mg "int" = none
  f_isinstance : mg "isinstance" = none
  f_len : mg "len" = none
  f_list : mg "list" = none
  f_range : mg "range" = none
  f_str : mg "str" = none
  f_tuple : mg "tuple" = none
  f_zip : mg "zip" = none
section
variable {P : Program} {w : World} {K : PySem.W.Frag} {mg : Str → Option Value} {base : Heap}
theorem Txt.b_Full____init__ (T : Txt K mg) : Binds K T.fd_Full____init__ ["self", "most"] [] := T.D_Full____init__.bindsN fun _ _ _ _ _ _ us hl => match us, hl with | [_, _], _ => rfl
theorem ok_Full____init__ (T : Txt K mg) : FnG P w K mg base CX0 1 T.a_Full____init__ T.fd_Full____init__ ["self", "most"] (spE T.C_Full "most") := by
  refine initE_ok T.D_Full____init__ sc_Full____init__ fun cdv A outer s H E hr hgd => ?_
  exact (pin_exc T.xi_Full (pv 0) (pv 1) (pe_heinit T.eb_HoleError (by rfl) T.g_HoleError (pa_cons (pv 0) (pa_cons pe_str pa_nil))))
theorem Txt.b_Held____init__ (T : Txt K mg) : Binds K T.fd_Held____init__ ["self", "name"] [] := T.D_Held____init__.bindsN fun _ _ _ _ _ _ us hl => match us, hl with | [_, _], _ => rfl
theorem ok_Held____init__ (T : Txt K mg) : FnG P w K mg base CX0 1 T.a_Held____init__ T.fd_Held____init__ ["self", "name"] (spE T.C_Held "name") := by
  refine initE_ok T.D_Held____init__ sc_Held____init__ fun cdv A outer s H E hr hgd => ?_
  exact (pin_exc T.xi_Held (pv 0) (pv 1) (pe_heinit T.eb_HoleError (by rfl) T.g_HoleError (pa_cons (pv 0) (pa_cons pe_str pa_nil))))
theorem Txt.b_NoName____init__ (T : Txt K mg) : Binds K T.fd_NoName____init__ ["self", "name"] [] := T.D_NoName____init__.bindsN fun _ _ _ _ _ _ us hl => match us, hl with | [_, _], _ => rfl
theorem ok_NoName____init__ (T : Txt K mg) : FnG P w K mg base CX0 1 T.a_NoName____init__ T.fd_NoName____init__ ["self", "name"] (spE T.C_NoName "name") := by
  refine initE_ok T.D_NoName____init__ sc_NoName____init__ fun cdv A outer s H E hr hgd => ?_
  exact (pin_exc T.xi_NoName (pv 0) (pv 1) (pe_heinit T.eb_HoleError (by rfl) T.g_HoleError (pa_cons (pv 0) (pa_cons pe_str pa_nil))))
theorem Txt.b_NoWord____init__ (T : Txt K mg) : Binds K T.fd_NoWord____init__ ["self", "hole"] [] := T.D_NoWord____init__.bindsN fun _ _ _ _ _ _ us hl => match us, hl with | [_, _], _ => rfl
theorem ok_NoWord____init__ (T : Txt K mg) : FnG P w K mg base CX0 1 T.a_NoWord____init__ T.fd_NoWord____init__ ["self", "hole"] (spE T.C_NoWord "hole") := by
  refine initE_ok T.D_NoWord____init__ sc_NoWord____init__ fun cdv A outer s H E hr hgd => ?_
  exact (pin_exc T.xi_NoWord (pv 0) (pv 1) (pe_heinit T.eb_HoleError (by rfl) T.g_HoleError (pa_cons (pv 0) (pa_cons pe_str pa_nil))))
theorem Txt.b_Taken____init__ (T : Txt K mg) : Binds K T.fd_Taken____init__ ["self", "name"] [] := T.D_Taken____init__.bindsN fun _ _ _ _ _ _ us hl => match us, hl with | [_, _], _ => rfl
theorem ok_Taken____init__ (T : Txt K mg) : FnG P w K mg base CX0 1 T.a_Taken____init__ T.fd_Taken____init__ ["self", "name"] (spE T.C_Taken "name") := by
  refine initE_ok T.D_Taken____init__ sc_Taken____init__ fun cdv A outer s H E hr hgd => ?_
  exact (pin_exc T.xi_Taken (pv 0) (pv 1) (pe_heinit T.eb_HoleError (by rfl) T.g_HoleError (pa_cons (pv 0) (pa_cons pe_str pa_nil))))
theorem Txt.k__law_kinds (T : Txt K mg) : PySem.W.keepIn K (.ref T.a__law_kinds) = true := T.D__law_kinds.kp
theorem Txt.b__law_kinds (T : Txt K mg) : Binds K T.fd__law_kinds ["one"] [] := T.D__law_kinds.bindsN fun _ _ _ _ _ _ us hl => match us, hl with | [_], _ => rfl
theorem ok__law_kinds (T : Txt K mg) : FnG P w K mg base CX0 1 T.a__law_kinds T.fd__law_kinds ["one"] (spF ⟨K, w, mg⟩ 1 t__law_kinds) := by
  refine fun_okS T.D__law_kinds sc__law_kinds fun cdv A outer s H E hr hgd => ?_
  exact (pssm_cons (psm_set (i := 1) (PNm.val (pnm_lst (pam_cons (pem_isx (by rfl) T.f_isinstance cv_ref T.isx_NoWord (pem_var (pv 0)) (pe_glob (by rfl) T.g_NoWord rfl)) (pam_cons (pem_isx (by rfl) T.f_isinstance cv_ref T.isx_NoName (pem_var (pv 0)) (pe_glob (by rfl) T.g_NoName rfl)) (pam_cons (pem_isx (by rfl) T.f_isinstance cv_ref T.isx_Taken (pem_var (pv 0)) (pe_glob (by rfl) T.g_Taken rfl)) (pam_cons (pem_isx (by rfl) T.f_isinstance cv_ref T.isx_Held (pem_var (pv 0)) (pe_glob (by rfl) T.g_Held rfl)) pam_nil)))))) (fun _ hh => ps_set (i := 1) sc__law_kinds.nd rfl (by first | exact Or.inl rfl | exact Or.inr rfl) hh))
    (pssm_cons (psm_set (i := 1) (pem_op op_addM addM addD_mono (pem_var (pv 1)) (PNm.val (pnm_lst (pam_cons (pem_isx (by rfl) T.f_isinstance cv_ref T.isx_Full (pem_var (pv 0)) (pe_glob (by rfl) T.g_Full rfl)) (pam_cons (pem_isx (by rfl) T.f_isinstance cv_ref T.isx_NoWay (pem_var (pv 0)) (pe_glob (by rfl) T.g_NoWay rfl)) (pam_cons (pem_isx (by rfl) T.f_isinstance cv_ref T.isx_NoHole (pem_var (pv 0)) (pe_glob (by rfl) T.g_NoHole rfl)) (pam_cons (pem_isx (by rfl) T.f_isinstance cv_ref T.isx_NoNumber (pem_var (pv 0)) (pe_glob (by rfl) T.g_NoNumber rfl)) pam_nil))))))) (fun _ hh => ps_set (i := 1) sc__law_kinds.nd rfl (by first | exact Or.inl rfl | exact Or.inr rfl) hh))
    (pssm_cons (psm_set (i := 1) (pem_op op_addM addM addD_mono (pem_var (pv 1)) (PNm.val (pnm_lst (pam_cons (pem_isx (by rfl) T.f_isinstance cv_ref T.isx_NoBook (pem_var (pv 0)) (pe_glob (by rfl) T.g_NoBook rfl)) (pam_cons (pem_isx (by rfl) T.f_isinstance cv_ref T.isx_NoGuide (pem_var (pv 0)) (pe_glob (by rfl) T.g_NoGuide rfl)) (pam_cons (pem_isx (by rfl) T.f_isinstance cv_ref T.isx_NoReader (pem_var (pv 0)) (pe_glob (by rfl) T.g_NoReader rfl)) pam_nil)))))) (fun _ hh => ps_set (i := 1) sc__law_kinds.nd rfl (by first | exact Or.inl rfl | exact Or.inr rfl) hh))
    (pssm_one (psm_ret (pem_op op_addM addM addD_mono (pem_var (pv 1)) (PNm.val (pnm_lst (pam_cons (pem_isx (by rfl) T.f_isinstance cv_ref T.isx_NoWeb (pem_var (pv 0)) (pe_glob (by rfl) T.g_NoWeb rfl)) (pam_cons (pem_isx (by rfl) T.f_isinstance cv_ref T.isx_NoFrame (pem_var (pv 0)) (pe_glob (by rfl) T.g_NoFrame rfl)) pam_nil))))))))))
theorem Txt.k__law_open (T : Txt K mg) : PySem.W.keepIn K (.ref T.a__law_open) = true := T.D__law_open.kp
theorem Txt.b__law_open (T : Txt K mg) : Binds K T.fd__law_open ["script"] [] := T.D__law_open.bindsN fun _ _ _ _ _ _ us hl => match us, hl with | [_], _ => rfl
theorem ok__law_open (T : Txt K mg) : FnG P w K mg base CX0 1 T.a__law_open T.fd__law_open ["script"] (spF ⟨K, w, mg⟩ 1 t__law_open) := by
  refine fun_ok T.D__law_open sc__law_open fun cdv A outer s H E hr hgd => ?_
  exact (pssm_cons (psm_set (i := 1) (PNm.cell (pnm_list (pam_cons (pem_slice (pem_var (pv 0)) pom_none (pom_some pem_int)) pam_nil) fun _ h => pe_callTy (call_listM rfl) (by rfl) T.f_list (by decide +kernel) h)) (fun _ hh => ps_set (i := 1) sc__law_open.nd rfl (by first | exact Or.inl rfl | exact Or.inr rfl) hh))
    (pssm_cons (psm_for PassesOwn.never rfl (pim_en (pam_cons (pem_slice (pem_var (pv 0)) (pom_some pem_int) (pom_some pem_int)) pam_nil) fun _ h => pi_en (by rfl) T.f_enumerate h) (pgm_tup rfl (pgsm_cons (pgm_name (i := 2) (pg_name (i := 2) sc__law_open.nd rfl (by first | exact Or.inl rfl | exact Or.inr rfl))) (pgsm_cons (pgm_name (i := 3) (pg_name (i := 3) sc__law_open.nd rfl (by first | exact Or.inl rfl | exact Or.inr rfl))) pgsm_nil)) (gsCons_lenS strict_var (gsCons_lenS strict_var gsNil_len))) (pssm_one (psm_asg (pem_op op_addM addM addD_mono (pem_ix (pem_var (pv 1)) (pem_op op_mod intM intD_mono (pem_var (pv 2)) pem_int)) (pem_var (pv 3))) (pgm_ix (pem_var (pv 1)) (pem_op op_mod intM intD_mono (pem_var (pv 2)) pem_int) (fun _ _ ho hi => pg_sub ho hi set_list)))))
    (pssm_one (psm_ret (PNm.cell (pnm_lst (pam_cons (pem_frz (pv 1)) (pam_cons pem_int (pam_cons pem_int pam_nil)))))))))
theorem Txt.k__law_same (T : Txt K mg) : PySem.W.keepIn K (.ref T.a__law_same) = true := T.D__law_same.kp
theorem Txt.b__law_same (T : Txt K mg) : Binds K T.fd__law_same ["found", "due"] [] := T.D__law_same.bindsN fun _ _ _ _ _ _ us hl => match us, hl with | [_, _], _ => rfl
theorem ok__law_same (T : Txt K mg) : ∀ n : Nat, FnG P w K mg base CX0 (1 + n) T.a__law_same T.fd__law_same ["found", "due"] (spF ⟨K, w, mg⟩ 2 (t__law_same n))
  | 0 => fnG_never
  | n + 1 => by
    have ih := ok__law_same T n
    refine (fun_ok T.D__law_same sc__law_same fun cdv A outer s H E hr hgd => ?_ : FnG P w K mg base CX0 (1 + n + 1) _ _ _ _)
    exact (pssm_cons (psm_if (PWm.ptm (pwm_or (ptm_cmp op_isM isM isD_mono (pem_var (pv 1)) pem_non (nomark _)) (pwm_or1 (ptm_cmp op_isM isM isD_mono (pem_var (pv 0)) pem_non (nomark _))))) (pssm_one (psm_ret (pem_and (pem_cmp op_isM isM isD_mono (pem_var (pv 1)) pem_non (nomark _)) (pem_one (pem_cmp op_isM isM isD_mono (pem_var (pv 0)) pem_non (nomark _)))))) pssm_nil)
    (pssm_cons (psm_if (PWm.ptm (pwm_or (ptm_val (pem_isi (t := "bool") (by rfl) T.f_isinstance (by decide +kernel) (pem_var (pv 1)) (pe_bltn (by rfl) T.f_bool (by decide +kernel) rfl))) (pwm_or1 (ptm_val (pem_isi (t := "bool") (by rfl) T.f_isinstance (by decide +kernel) (pem_var (pv 0)) (pe_bltn (by rfl) T.f_bool (by decide +kernel) rfl)))))) (pssm_one (psm_ret (pem_and (pem_isi (t := "bool") (by rfl) T.f_isinstance (by decide +kernel) (pem_var (pv 1)) (pe_bltn (by rfl) T.f_bool (by decide +kernel) rfl)) (pem_and (pem_isi (t := "bool") (by rfl) T.f_isinstance (by decide +kernel) (pem_var (pv 0)) (pe_bltn (by rfl) T.f_bool (by decide +kernel) rfl)) (pem_one (pem_cmp (op_eqM hr.units) eqM eqD_mono (pem_var (pv 0)) (pem_var (pv 1)) (nomark _))))))) pssm_nil)
    (pssm_cons (psm_if (ptm_val (pem_isiT (ts := ["int", "str"]) (by rfl) T.f_isinstance (by decide +kernel) (by decide +kernel) (pem_var (pv 1)) (pe_tup (pa_cons (pe_bltn (v := .ty "int") (by rfl) T.f_int (by decide +kernel) rfl) (pa_cons (pe_bltn (v := .ty "str") (by rfl) T.f_str (by decide +kernel) rfl) pa_nil))) (fun _ _ _ q => q))) (pssm_cons (psm_if (ptm_cmp (op_neM hr.units) eqM eqD_mono (pem_isi (t := "int") (by rfl) T.f_isinstance (by decide +kernel) (pem_var (pv 0)) (pe_bltn (by rfl) T.f_int (by decide +kernel) rfl)) (pem_isi (t := "int") (by rfl) T.f_isinstance (by decide +kernel) (pem_var (pv 1)) (pe_bltn (by rfl) T.f_int (by decide +kernel) rfl)) (nomark _)) (pssm_one (psm_ret pem_bl)) pssm_nil)
    (pssm_one (psm_ret (pem_and (pem_isiT (ts := ["int", "str"]) (by rfl) T.f_isinstance (by decide +kernel) (by decide +kernel) (pem_var (pv 0)) (pe_tup (pa_cons (pe_bltn (v := .ty "int") (by rfl) T.f_int (by decide +kernel) rfl) (pa_cons (pe_bltn (v := .ty "str") (by rfl) T.f_str (by decide +kernel) rfl) pa_nil))) (fun _ _ _ q => q)) (pem_one (pem_cmp (op_eqM hr.units) eqM eqD_mono (pem_var (pv 0)) (pem_var (pv 1)) (nomark _))))))) pssm_nil)
    (pssm_cons (psm_if (PWm.ptm (pwm_or (ptm_cmp (op_neM hr.units) eqM eqD_mono (pem_isi (t := "tuple") (by rfl) T.f_isinstance (by decide +kernel) (pem_var (pv 1)) (pe_bltn (by rfl) T.f_tuple (by decide +kernel) rfl)) (pem_isi (t := "tuple") (by rfl) T.f_isinstance (by decide +kernel) (pem_var (pv 0)) (pe_bltn (by rfl) T.f_tuple (by decide +kernel) rfl)) (nomark _)) (pwm_or1 (ptm_cmp (op_neM hr.units) eqM eqD_mono (pem_isi (t := "list") (by rfl) T.f_isinstance (by decide +kernel) (pem_var (pv 1)) (pe_bltn (by rfl) T.f_list (by decide +kernel) rfl)) (pem_isi (t := "list") (by rfl) T.f_isinstance (by decide +kernel) (pem_var (pv 0)) (pe_bltn (by rfl) T.f_list (by decide +kernel) rfl)) (nomark _))))) (pssm_one (psm_ret pem_bl)) pssm_nil)
    (pssm_cons (psm_if (ptm_cmp (op_neM hr.units) eqM eqD_mono (pem_callB lenM lenC_mono (pam_cons (pem_var (pv 0)) pam_nil) fun _ h => pe_callB call_len (by rfl) T.f_len (by decide +kernel) h) (pem_callB lenM lenC_mono (pam_cons (pem_var (pv 1)) pam_nil) fun _ h => pe_callB call_len (by rfl) T.f_len (by decide +kernel) h) (nomark _)) (pssm_one (psm_ret pem_bl)) pssm_nil)
    (pssm_one (psm_ret (pem_cmp (op_notInM (room65 hr)) inM inD_mono pem_bl (PNm.val (pnm_lc (own := [("one", 2), ("other", 3)]) (sl := ([2] ++ ([3] ++ []))) (g' := gTup K 2 (gCons (gName 2) (gCons (gName 3) gNil))) rfl sc__law_same.nd (pim_zz2 (pam_cons (pem_var (pv 0)) (pam_cons (pem_var (pv 1)) pam_nil)) fun _ h => pi_zz2 (by rfl) T.f_zip h) (blkOk_by (by kernel_rfl)) (fun _ _ _ _ _ => (pgm_tup rfl (pgsm_cons (pgm_name (i := 2) (pg_name (i := 2) sc__law_same.nd rfl (by first | exact Or.inl rfl | exact Or.inr rfl))) (pgsm_cons (pgm_name (i := 3) (pg_name (i := 3) sc__law_same.nd rfl (by first | exact Or.inl rfl | exact Or.inr rfl))) pgsm_nil)) (gsCons_lenS strict_var (gsCons_lenS strict_var gsNil_len)))) (by decide) (fun _ _ _ _ _ => ptsm_nil) (fun _ _ _ _ _ => (pem_call ih (m__law_same n) (hr.mono (by omega)) hgd (by rfl) T.g__law_same T.k__law_same T.b__law_same .nil Dfl.nil pass0 (pam_cons (pem_var (pv 2)) (pam_cons (pem_var (pv 3)) pam_nil)) rfl)))) (by rfl)))))))))
theorem Txt.k__law_spread (T : Txt K mg) : PySem.W.keepIn K (.ref T.a__law_spread) = true := T.D__law_spread.kp
theorem Txt.b__law_spread (T : Txt K mg) : Binds K T.fd__law_spread ["cell", "at"] [] := T.D__law_spread.bindsN fun _ _ _ _ _ _ us hl => match us, hl with | [_, _], _ => rfl
theorem ok__law_spread (T : Txt K mg) : FnG P w K mg base CX0 1 T.a__law_spread T.fd__law_spread ["cell", "at"] (spF ⟨K, w, mg⟩ 2 t__law_spread) := by
  refine fun_ok T.D__law_spread sc__law_spread fun cdv A outer s H E hr hgd => ?_
  exact (pssm_cons (psm_if (ptm_cmp op_geM ordM ordD_mono (pem_var (pv 0)) (pem_op op_pow intM intD_mono pem_int pem_int) (nomark _)) (pssm_one (psm_ret (pem_var (pv 0)))) pssm_nil)
    (pssm_cons (psm_set (i := 2) (PNm.val (pnm_lst (pam_cons pem_int (pam_cons pem_int (pam_cons pem_int (pam_cons pem_int (pam_cons pem_int (pam_cons pem_int (pam_cons pem_int (pam_cons pem_int pam_nil)))))))))) (fun _ hh => ps_set (i := 2) sc__law_spread.nd rfl (by first | exact Or.inl rfl | exact Or.inr rfl) hh))
    (pssm_cons (psm_set (i := 2) (pem_op op_addM addM addD_mono (pem_var (pv 2)) (PNm.val (pnm_lst (pam_cons pem_int (pam_cons pem_int (pam_cons pem_int (pam_cons pem_int (pam_cons pem_int pam_nil)))))))) (fun _ hh => ps_set (i := 2) sc__law_spread.nd rfl (by first | exact Or.inl rfl | exact Or.inr rfl) hh))
    (pssm_cons (psm_set (i := 3) (pem_op op_mod intM intD_mono (pem_op op_pow intM intD_mono (pem_op op_addM addM addD_mono (pem_op op_addM addM addD_mono (pem_op op_mulM mulM mulD_mono (pem_op op_mod intM intD_mono (pem_var (pv 0)) pem_int) (pem_op op_addM addM addD_mono (pem_op op_mulM mulM mulD_mono pem_int (pem_var (pv 1))) pem_int)) (pem_op op_mulM mulM mulD_mono (pem_var (pv 1)) pem_int)) pem_int) pem_int) (pem_ix (pem_var (pv 2)) (pem_op op_mod intM intD_mono (pem_var (pv 1)) pem_int))) (fun _ hh => ps_set (i := 3) sc__law_spread.nd rfl (by first | exact Or.inl rfl | exact Or.inr rfl) hh))
    (pssm_cons (psm_set (i := 4) (pem_op op_mod intM intD_mono (pem_op op_pow intM intD_mono (pem_op op_addM addM addD_mono (pem_op op_addM addM addD_mono (pem_op op_mulM mulM mulD_mono (pem_var (pv 3)) (pem_op op_addM addM addD_mono (pem_var (pv 1)) pem_int)) (pem_op op_mod intM intD_mono (pem_var (pv 0)) pem_int)) pem_int) pem_int) (pem_ix (pem_var (pv 2)) (pem_op op_mod intM intD_mono (pem_op op_addM addM addD_mono (pem_var (pv 1)) pem_int) pem_int))) (fun _ hh => ps_set (i := 4) sc__law_spread.nd rfl (by first | exact Or.inl rfl | exact Or.inr rfl) hh))
    (pssm_cons (psm_set (i := 5) (pem_op op_mod intM intD_mono (pem_op op_pow intM intD_mono (pem_op op_addM addM addD_mono (pem_op op_addM addM addD_mono (pem_var (pv 4)) (pem_op op_mod intM intD_mono (pem_var (pv 3)) pem_int)) (pem_var (pv 1))) pem_int) (pem_ix (pem_var (pv 2)) (pem_op op_mod intM intD_mono (pem_op op_addM addM addD_mono (pem_var (pv 1)) pem_int) pem_int))) (fun _ hh => ps_set (i := 5) sc__law_spread.nd rfl (by first | exact Or.inl rfl | exact Or.inr rfl) hh))
    (pssm_one (psm_ret (pem_op op_addM addM addD_mono (pem_op op_mulM mulM mulD_mono (pem_op op_addM addM addD_mono (pem_op op_mulM mulM mulD_mono (pem_var (pv 3)) pem_int) (pem_var (pv 4))) pem_int) (pem_var (pv 5)))))))))))
theorem Txt.k__law_take (T : Txt K mg) : PySem.W.keepIn K (.ref T.a__law_take) = true := T.D__law_take.kp
theorem Txt.b__law_take (T : Txt K mg) : Binds K T.fd__law_take ["pen", "amount"] [] := T.D__law_take.bindsN fun _ _ _ _ _ _ us hl => match us, hl with | [_, _], _ => rfl
theorem ok__law_take (T : Txt K mg) : FnG P w K mg base CX0 2 T.a__law_take T.fd__law_take ["pen", "amount"] (spF ⟨K, w, mg⟩ 2 t__law_take) := by
  refine fun_ok T.D__law_take sc__law_take fun cdv A outer s H E hr hgd => ?_
  exact (pssm_cons (psm_if (ptm_cmp op_ltM ordM ordD_mono (pem_ix (pem_var (pv 0)) pem_int) (pem_var (pv 1)) (nomark _)) (pssm_cons (psm_set (i := 3) (pem_ix (pem_var (pv 0)) pem_int) (fun _ hh => ps_set (i := 3) sc__law_take.nd rfl (by first | exact Or.inl rfl | exact Or.inr rfl) hh))
    (pssm_cons (psm_set (i := 4) pem_int (fun _ hh => ps_set (i := 4) sc__law_take.nd rfl (by first | exact Or.inl rfl | exact Or.inr rfl) hh))
    (pssm_cons (psm_if (ptm_cmp op_ltM ordM ordD_mono (pem_var (pv 3)) (pem_callB lenM lenC_mono (pam_cons (pem_ix (pem_var (pv 0)) pem_int) pam_nil) fun _ h => pe_callB call_len (by rfl) T.f_len (by decide +kernel) h) (nomark _)) (pssm_one (psm_set (i := 4) (pem_ix (pem_ix (pem_var (pv 0)) pem_int) (pem_var (pv 3))) (fun _ hh => ps_set (i := 4) sc__law_take.nd rfl (by first | exact Or.inl rfl | exact Or.inr rfl) hh))) (pssm_one (psm_if (ptm_cmp op_gtM ordM ordD_mono (pem_callB lenM lenC_mono (pam_cons (pem_ix (pem_var (pv 0)) pem_int) pam_nil) fun _ h => pe_callB call_len (by rfl) T.f_len (by decide +kernel) h) pem_int (nomark _)) (pssm_one (psm_set (i := 4) (pem_op op_mod intM intD_mono (pem_ix (pem_ix (pem_var (pv 0)) pem_int) (pem_op op_mod intM intD_mono (pem_op op_addM addM addD_mono (pem_op op_mulM mulM mulD_mono (pem_var (pv 3)) pem_int) pem_int) (pem_callB lenM lenC_mono (pam_cons (pem_ix (pem_var (pv 0)) pem_int) pam_nil) fun _ h => pe_callB call_len (by rfl) T.f_len (by decide +kernel) h))) (pem_op op_addM addM addD_mono (pem_op op_pow intM intD_mono pem_int pem_int) (pem_var (pv 3)))) (fun _ hh => ps_set (i := 4) sc__law_take.nd rfl (by first | exact Or.inl rfl | exact Or.inr rfl) hh))) pssm_nil)))
    (pssm_cons (psm_asg (pem_op op_addM addM addD_mono (pem_var (pv 3)) pem_int) (pgm_ix (pem_var (pv 0)) pem_int (fun _ _ ho hi => pg_sub ho hi set_list)))
    (pssm_one (psm_asg (pem_call (ok__law_spread T) m__law_spread (hr.mono (by decide)) hgd (by rfl) T.g__law_spread T.k__law_spread T.b__law_spread .nil Dfl.nil pass0 (pam_cons (pem_var (pv 4)) (pam_cons (pem_var (pv 3)) pam_nil)) rfl) (pgm_ix (pem_var (pv 0)) pem_int (fun _ _ ho hi => pg_sub ho hi set_list)))))))) pssm_nil)
    (pssm_cons (psm_set (i := 2) (pem_op op_mod intM intD_mono (pem_ix (pem_var (pv 0)) pem_int) (pem_var (pv 1))) (fun _ hh => ps_set (i := 2) sc__law_take.nd rfl (by first | exact Or.inl rfl | exact Or.inr rfl) hh))
    (pssm_cons (psm_asg (pem_op op_fdiv intM intD_mono (pem_ix (pem_var (pv 0)) pem_int) (pem_var (pv 1))) (pgm_ix (pem_var (pv 0)) pem_int (fun _ _ ho hi => pg_sub ho hi set_list)))
    (pssm_one (psm_ret (pem_var (pv 2)))))))
theorem ok_law (T : Txt K mg) : FnG P w K mg base CX0 42 T.a_law T.fd_law ["script"] (spF ⟨K, w, mg⟩ 1 t_law_v19) := by
  refine fun_ok T.D_law sc_law fun cdv A outer s H E hr hgd => ?_
  exact (pssm_cons (psm_set (i := 1) (pem_call (ok__law_open T) m__law_open (hr.mono (by decide)) hgd (by rfl) T.g__law_open T.k__law_open T.b__law_open .nil Dfl.nil pass0 (pam_cons (pem_var (pv 0)) pam_nil) rfl) (fun _ hh => ps_set (i := 1) sc_law.nd rfl (by first | exact Or.inl rfl | exact Or.inr rfl) hh))
    (pssm_cons (psm_for PassesOwn.never rfl (pim_range1 (pam_cons pem_int pam_nil) fun _ h => pi_range1 (by rfl) T.f_range h) (pgm_name (i := 2) (pg_name (i := 2) sc_law.nd rfl (by first | exact Or.inl rfl | exact Or.inr rfl))) (pssm_cons (psm_par (i := 7) (j := 8) (pam_cons (pem_ix (PNm.val (pnm_lst (pam_cons (pem_str (l := [])) (pam_cons (pem_str (l := [97, 32, 119, 111, 114, 100])) (pam_cons (pem_str (l := [110, 111, 110, 101])) pam_nil))))) (pem_call (ok__law_take T) m__law_take (hr.mono (by decide)) hgd (by rfl) T.g__law_take T.k__law_take T.b__law_take .nil Dfl.nil pass0 (pam_cons (pem_var (pv 1)) (pam_cons pem_int pam_nil)) rfl)) (pam_cons (pem_call (ok__law_take T) m__law_take (hr.mono (by decide)) hgd (by rfl) T.g__law_take T.k__law_take T.b__law_take .nil Dfl.nil pass0 (pam_cons (pem_var (pv 1)) (pam_cons pem_int pam_nil)) rfl) pam_nil)) (fun _ hh => ps_par (i := 7) (j := 8) rfl sc_law.nd rfl rfl (by decide) rfl rfl hh (by rfl)))
    (pssm_cons (psm_set (i := 3) (pem_ix (PNm.val (pnm_lst (pam_cons (pem_str (l := [97])) (pam_cons (pem_str (l := [119, 101, 98])) (pam_cons (pem_str (l := [122, 122, 122, 122, 122, 122, 122, 122])) pam_nil))))) (pem_call (ok__law_take T) m__law_take (hr.mono (by decide)) hgd (by rfl) T.g__law_take T.k__law_take T.b__law_take .nil Dfl.nil pass0 (pam_cons (pem_var (pv 1)) (pam_cons pem_int pam_nil)) rfl)) (fun _ hh => ps_set (i := 3) sc_law.nd rfl (by first | exact Or.inl rfl | exact Or.inr rfl) hh))
    (pssm_cons (psm_set (i := 4) (pem_ix (PNm.val (pnm_lst (pam_cons pem_non (pam_cons (pem_str (l := [])) (pam_cons (PNm.val (pnm_lst (pam_cons (pem_str (l := [97])) pam_nil))) (pam_cons (pem_tup (pam_cons (pem_str (l := [97])) (pam_cons pem_int pam_nil))) (pam_cons pem_int (pam_cons pem_bl (pam_cons (pem_str (l := [65])) pam_nil))))))))) (pem_call (ok__law_take T) m__law_take (hr.mono (by decide)) hgd (by rfl) T.g__law_take T.k__law_take T.b__law_take .nil Dfl.nil pass0 (pam_cons (pem_var (pv 1)) (pam_cons pem_int pam_nil)) rfl)) (fun _ hh => ps_set (i := 4) sc_law.nd rfl (by first | exact Or.inl rfl | exact Or.inr rfl) hh))
    (pssm_cons (psm_set (i := 5) (pem_lsw (pam_cons (pem_exc1 T.xi_NoWord (ok_NoWord____init__ T) (hr.mono (by decide)) hgd T.b_NoWord____init__ pass0 (by rfl) T.g_NoWord (pem_var (pv 8))) (pam_cons (pem_exc1 T.xi_NoName (ok_NoName____init__ T) (hr.mono (by decide)) hgd T.b_NoName____init__ pass0 (by rfl) T.g_NoName (pem_var (pv 4))) (pam_cons (pem_exc1 T.xi_Taken (ok_Taken____init__ T) (hr.mono (by decide)) hgd T.b_Taken____init__ pass0 (by rfl) T.g_Taken (pem_var (pv 3))) (pam_cons (pem_exc1 T.xi_Held (ok_Held____init__ T) (hr.mono (by decide)) hgd T.b_Held____init__ pass0 (by rfl) T.g_Held (pem_var (pv 3))) (pam_cons (pem_exc1 T.xi_Full (ok_Full____init__ T) (hr.mono (by decide)) hgd T.b_Full____init__ pass0 (by rfl) T.g_Full (pem_op op_addM addM addD_mono pem_int (pem_var (pv 8)))) (pam_cons (pem_exc0 PySem.F.excBase_ValueError T.xc_NoWay.1 T.g_NoWay T.xc_NoWay.2 (by rfl) (pem_var (pv 7))) (pam_cons (pem_exc0 PySem.F.excBase_ValueError T.xc_NoHole.1 T.g_NoHole T.xc_NoHole.2 (by rfl) (pem_var (pv 7))) pam_nil)))))))) (fun _ hh => ps_set (i := 5) sc_law.nd rfl (by first | exact Or.inl rfl | exact Or.inr rfl) hh))
    (pssm_cons (psm_set (i := 5) (pem_catW (pem_var (pv 5)) (pem_lsw (pam_cons (pem_exc0 PySem.F.excBase_ValueError T.xc_NoNumber.1 T.g_NoNumber T.xc_NoNumber.2 (by rfl) (pem_var (pv 7))) (pam_cons (pem_exc0 PySem.F.excBase_ValueError T.xc_NoBook.1 T.g_NoBook T.xc_NoBook.2 (by rfl) (pem_var (pv 7))) (pam_cons (pem_exc0 PySem.F.excBase_ValueError T.xc_NoGuide.1 T.g_NoGuide T.xc_NoGuide.2 (by rfl) (pem_var (pv 7))) (pam_cons (pem_exc0 PySem.F.excBase_ValueError T.xc_NoReader.1 T.g_NoReader T.xc_NoReader.2 (by rfl) (pem_var (pv 7))) (pam_cons (pem_exc0 PySem.F.excBase_ValueError T.xc_NoWeb.1 T.g_NoWeb T.xc_NoWeb.2 (by rfl) (pem_var (pv 7))) (pam_cons (pem_exc0 PySem.F.excBase_ValueError T.xc_NoFrame.1 T.g_NoFrame T.xc_NoFrame.2 (by rfl) (pem_var (pv 7))) pam_nil)))))))) (fun _ hh => ps_set (i := 5) sc_law.nd rfl (by first | exact Or.inl rfl | exact Or.inr rfl) hh))
    (pssm_cons (psm_forEW PassesOwn.never rfl (pem_var (pv 5)) (fun _ h => pi_en (by rfl) T.f_enumerate h) (pg_tup rfl (pgs_cons (pg_name (i := 9) sc_law.nd rfl (by first | exact Or.inl rfl | exact Or.inr rfl)) (pgs_cons (pg_name (i := 10) sc_law.nd rfl (by first | exact Or.inl rfl | exact Or.inr rfl)) pgs_nil))) (pssm_cons (psm_if (PWm.ptm (pwm_or (ptm_not (ptm_val (pem_isx (by rfl) T.f_isinstance cv_ref T.isx_HoleError (pem_var (pv 10)) (pe_glob (by rfl) T.g_HoleError rfl)))) (pwm_or1 (ptm_not (ptm_val (pem_isx (by rfl) T.f_isinstance cv_ty T.isx_ValueError (pem_var (pv 10)) (pe_bltn (by rfl) T.f_ValueError (by decide +kernel) rfl))))))) (pssm_one (psm_ret pem_bl)) pssm_nil)
    (pssm_one (psm_if (ptm_not (ptm_val (pem_call (ok__law_same T 40) (m__law_same 40) (hr.mono (by decide)) hgd (by rfl) T.g__law_same T.k__law_same T.b__law_same .nil Dfl.nil pass0 (pam_cons (pem_callS (ok__law_kinds T) m__law_kinds (hr.mono (by decide)) hgd (by rfl) T.g__law_kinds T.k__law_kinds T.b__law_kinds .nil Dfl.nil pass0 (pam_cons (pem_var (pv 10)) pam_nil) rfl) (pam_cons (PNm.val (pnm_lc (own := [("j", 11)]) (sl := [11]) (g' := gName 11) rfl sc_law.nd (pim_range1 (pam_cons pem_int pam_nil) fun _ h => pi_range1 (by rfl) T.f_range h) (blkOk_by (by kernel_rfl)) (fun _ _ _ _ _ => (pgm_name (i := 11) (pg_name (i := 11) sc_law.nd rfl (by first | exact Or.inl rfl | exact Or.inr rfl)))) (by decide) (fun _ _ _ _ _ => ptsm_nil) (fun _ _ _ _ _ => (pem_cmp (op_eqM hr.units) eqM eqD_mono (pem_var (pv 11)) (pem_var (pv 9)) (nomark _))))) pam_nil)) rfl))) (pssm_one (psm_ret pem_bl)) pssm_nil))))
    (pssm_cons (psm_set (i := 6) (PNm.val (pnm_lst (pam_cons (pem_xf T.xf_hole (pem_ixL (i := 0) (pem_var (pv 5)) pe_int)) (pam_cons (pem_xf T.xf_name (pem_ixL (i := 1) (pem_var (pv 5)) pe_int)) (pam_cons (pem_xf T.xf_name (pem_ixL (i := 2) (pem_var (pv 5)) pe_int)) (pam_cons (pem_xf T.xf_name (pem_ixL (i := 3) (pem_var (pv 5)) pe_int)) (pam_cons (pem_xf T.xf_most (pem_ixL (i := 4) (pem_var (pv 5)) pe_int)) pam_nil))))))) (fun _ hh => ps_set (i := 6) sc_law.nd rfl (by first | exact Or.inl rfl | exact Or.inr rfl) hh))
    (pssm_one (psm_if (ptm_not (ptm_val (pem_call (ok__law_same T 40) (m__law_same 40) (hr.mono (by decide)) hgd (by rfl) T.g__law_same T.k__law_same T.b__law_same .nil Dfl.nil pass0 (pam_cons (pem_var (pv 6)) (pam_cons (PNm.val (pnm_lst (pam_cons (pem_var (pv 8)) (pam_cons (pem_var (pv 4)) (pam_cons (pem_var (pv 3)) (pam_cons (pem_var (pv 3)) (pam_cons (pem_op op_addM addM addD_mono pem_int (pem_var (pv 8))) pam_nil))))))) pam_nil)) rfl))) (pssm_one (psm_ret pem_bl)) pssm_nil))))))))))
    (pssm_one (psm_ret pem_bl))))
end
/-! ### the head -/
def dd_Full____init__ : He.DefD := ⟨("Full", some "__init__"), "__init__", "Full.__init__", defArgs s_Full____init__, defBody s_Full____init__, defScope s_Full____init__, [], []⟩
def dd_Held____init__ : He.DefD := ⟨("Held", some "__init__"), "__init__", "Held.__init__", defArgs s_Held____init__, defBody s_Held____init__, defScope s_Held____init__, [], []⟩
def dd_NoName____init__ : He.DefD := ⟨("NoName", some "__init__"), "__init__", "NoName.__init__", defArgs s_NoName____init__, defBody s_NoName____init__, defScope s_NoName____init__, [], []⟩
def dd_NoWord____init__ : He.DefD := ⟨("NoWord", some "__init__"), "__init__", "NoWord.__init__", defArgs s_NoWord____init__, defBody s_NoWord____init__, defScope s_NoWord____init__, [], []⟩
def dd_Taken____init__ : He.DefD := ⟨("Taken", some "__init__"), "__init__", "Taken.__init__", defArgs s_Taken____init__, defBody s_Taken____init__, defScope s_Taken____init__, [], []⟩
def dd__law_kinds : He.DefD := ⟨("_law_kinds", none), "_law_kinds", "_law_kinds", defArgs s__law_kinds, defBody s__law_kinds, defScope s__law_kinds, [], []⟩
def dd__law_open : He.DefD := ⟨("_law_open", none), "_law_open", "_law_open", defArgs s__law_open, defBody s__law_open, defScope s__law_open, [], []⟩
def dd__law_same : He.DefD := ⟨("_law_same", none), "_law_same", "_law_same", defArgs s__law_same, defBody s__law_same, defScope s__law_same, [], []⟩
def dd__law_spread : He.DefD := ⟨("_law_spread", none), "_law_spread", "_law_spread", defArgs s__law_spread, defBody s__law_spread, defScope s__law_spread, [], []⟩
def dd__law_take : He.DefD := ⟨("_law_take", none), "_law_take", "_law_take", defArgs s__law_take, defBody s__law_take, defScope s__law_take, [], []⟩
def dd_law : He.DefD := ⟨("law", none), "law", "law", defArgs s_law, defBody s_law, defScope s_law, [], []⟩
def fnl : List He.DefD := [dd_Full____init__, dd_Held____init__, dd_NoName____init__, dd_NoWord____init__, dd_Taken____init__, dd__law_kinds, dd__law_open, dd__law_same, dd__law_spread, dd__law_take, dd_law]
def fal : List He.Fa := [.glo "_law_kinds", .glo "_law_open", .glo "_law_same", .glo "_law_spread", .glo "_law_take", .glo "law", .glo "Full", .glo "Held", .glo "HoleError", .glo "NoBook", .glo "NoFrame", .glo "NoGuide", .glo "NoHole", .glo "NoName", .glo "NoNumber", .glo "NoReader", .glo "NoWay", .glo "NoWeb", .glo "NoWord", .glo "Taken", .free "ValueError", .free "bool", .free "enumerate", .free "int", .free "isinstance", .free "len", .free "list", .free "range", .free "str", .free "tuple", .free "zip"]
abbrev rowR : PySem.W.OpenRow := PySem.W.OpenLaw.row PySem.Challenge.rw_foeholes_k14_refusals_made_by_hand
def exl : List (PySem.W.Frag → Bool) := [xiB "Full" "most", xiB "Held" "name", xiB "NoName" "name", xiB "NoWord" "hole", xiB "Taken" "name", ebB "HoleError", xcB "NoBook", xcB "NoFrame", xcB "NoGuide", xcB "NoHole", xcB "NoNumber", xcB "NoReader", xcB "NoWay", xcB "NoWeb", isxB xns (fun x => x == "Full") (.inl "Full"), isxB xns (fun x => x == "Held") (.inl "Held"), isxB xns (fun _ => true) (.inl "HoleError"), isxB xns (fun x => x == "NoBook") (.inl "NoBook"), isxB xns (fun x => x == "NoFrame") (.inl "NoFrame"), isxB xns (fun x => x == "NoGuide") (.inl "NoGuide"), isxB xns (fun x => x == "NoHole") (.inl "NoHole"), isxB xns (fun x => x == "NoName") (.inl "NoName"), isxB xns (fun x => x == "NoNumber") (.inl "NoNumber"), isxB xns (fun x => x == "NoReader") (.inl "NoReader"), isxB xns (fun x => x == "NoWay") (.inl "NoWay"), isxB xns (fun x => x == "NoWeb") (.inl "NoWeb"), isxB xns (fun x => x == "NoWord") (.inl "NoWord"), isxB xns (fun x => x == "Taken") (.inl "Taken"), isxB xns (fun _ => true) (.inr "ValueError"), xfsB ["NoWord"] "hole", xfsB ["Full"] "most", xfsB ["NoName", "Taken", "Held"] "name"]
abbrev hookR : PySem.W.Hook := hookX 4 fal fnl exl
def obR (s : PySem.W.SharedT) : Bool × He.AlD := obsXG 4 fal fnl exl (HandSHeadRun.getT s)
theorem obR_eq (s : PySem.W.SharedT) : obR s = hookR.obs s.abs := obsXG_eq (HandSHeadRun.getT_eq s)
def loose0 : List Str := ["HoleError", "NoWord", "NoName", "Taken", "Held", "Full", "NoWay", "NoHole", "NoNumber", "NoBook", "NoGuide", "NoReader", "NoWeb", "NoFrame", "_law_open", "_law_spread", "_law_take", "_law_same", "_law_kinds"]
def looseR : List Str := loose0
theorem runR (w : World) : HandSHeadRun.RunEq rowR (PySem.W.view rowR.prog [21]) hookR obR 6000 looseR w := by
  intro os
  kernel_rfl
theorem facts {K : PySem.W.Frag} {h : Heap} {mg : Str → Option Value} {f : Addr} (X : K.In h) (G : h.Ns mainGlobals mg) (hfa : mg ("law" : Str) = some (.ref f)) (c : He.SaysD fal fnl K ∧ xAll exl K = true) : ∃ T : Txt K mg, T.a_law = f := by
  obtain ⟨c, cx⟩ := c
  obtain ⟨fd_Full____init__, D_Full____init__⟩ := c.def_ 0 (d := dd_Full____init__) rfl
  obtain ⟨fd_Held____init__, D_Held____init__⟩ := c.def_ 1 (d := dd_Held____init__) rfl
  obtain ⟨fd_NoName____init__, D_NoName____init__⟩ := c.def_ 2 (d := dd_NoName____init__) rfl
  obtain ⟨fd_NoWord____init__, D_NoWord____init__⟩ := c.def_ 3 (d := dd_NoWord____init__) rfl
  obtain ⟨fd_Taken____init__, D_Taken____init__⟩ := c.def_ 4 (d := dd_Taken____init__) rfl
  obtain ⟨fd__law_kinds, D__law_kinds⟩ := c.def_ 5 (d := dd__law_kinds) rfl
  obtain ⟨fd__law_open, D__law_open⟩ := c.def_ 6 (d := dd__law_open) rfl
  obtain ⟨fd__law_same, D__law_same⟩ := c.def_ 7 (d := dd__law_same) rfl
  obtain ⟨fd__law_spread, D__law_spread⟩ := c.def_ 8 (d := dd__law_spread) rfl
  obtain ⟨fd__law_take, D__law_take⟩ := c.def_ 9 (d := dd__law_take) rfl
  obtain ⟨fd_law, D_law⟩ := c.def_ 10 (d := dd_law) rfl
  have gx : ∀ x ∈ xns, mg x = some (.ref (He.ga K x)) := (List.forall_mem_cons.mpr ⟨He.glo_ok X G (c.fact 18 (f := .glo "NoWord") rfl), List.forall_mem_cons.mpr ⟨He.glo_ok X G (c.fact 13 (f := .glo "NoName") rfl), List.forall_mem_cons.mpr ⟨He.glo_ok X G (c.fact 19 (f := .glo "Taken") rfl), List.forall_mem_cons.mpr ⟨He.glo_ok X G (c.fact 7 (f := .glo "Held") rfl), List.forall_mem_cons.mpr ⟨He.glo_ok X G (c.fact 6 (f := .glo "Full") rfl), List.forall_mem_cons.mpr ⟨He.glo_ok X G (c.fact 16 (f := .glo "NoWay") rfl), List.forall_mem_cons.mpr ⟨He.glo_ok X G (c.fact 12 (f := .glo "NoHole") rfl), List.forall_mem_cons.mpr ⟨He.glo_ok X G (c.fact 14 (f := .glo "NoNumber") rfl), List.forall_mem_cons.mpr ⟨He.glo_ok X G (c.fact 9 (f := .glo "NoBook") rfl), List.forall_mem_cons.mpr ⟨He.glo_ok X G (c.fact 11 (f := .glo "NoGuide") rfl), List.forall_mem_cons.mpr ⟨He.glo_ok X G (c.fact 15 (f := .glo "NoReader") rfl), List.forall_mem_cons.mpr ⟨He.glo_ok X G (c.fact 17 (f := .glo "NoWeb") rfl), List.forall_mem_cons.mpr ⟨He.glo_ok X G (c.fact 10 (f := .glo "NoFrame") rfl), List.forall_mem_nil _⟩⟩⟩⟩⟩⟩⟩⟩⟩⟩⟩⟩⟩)
  have e := hfa.symm.trans (He.glo_ok X G (c.fact 5 (f := .glo "law") rfl))
  cases e
  exact ⟨{ a_Full____init__ := _, fd_Full____init__ := fd_Full____init__, D_Full____init__ := D_Full____init__, a_Held____init__ := _, fd_Held____init__ := fd_Held____init__, D_Held____init__ := D_Held____init__, a_NoName____init__ := _, fd_NoName____init__ := fd_NoName____init__, D_NoName____init__ := D_NoName____init__, a_NoWord____init__ := _, fd_NoWord____init__ := fd_NoWord____init__, D_NoWord____init__ := D_NoWord____init__, a_Taken____init__ := _, fd_Taken____init__ := fd_Taken____init__, D_Taken____init__ := D_Taken____init__, a__law_kinds := _, fd__law_kinds := fd__law_kinds, D__law_kinds := D__law_kinds, g__law_kinds := He.glo_ok X G (c.fact 0 (f := .glo "_law_kinds") rfl), a__law_open := _, fd__law_open := fd__law_open, D__law_open := D__law_open, g__law_open := He.glo_ok X G (c.fact 1 (f := .glo "_law_open") rfl), a__law_same := _, fd__law_same := fd__law_same, D__law_same := D__law_same, g__law_same := He.glo_ok X G (c.fact 2 (f := .glo "_law_same") rfl), a__law_spread := _, fd__law_spread := fd__law_spread, D__law_spread := D__law_spread, g__law_spread := He.glo_ok X G (c.fact 3 (f := .glo "_law_spread") rfl), a__law_take := _, fd__law_take := fd__law_take, D__law_take := D__law_take, g__law_take := He.glo_ok X G (c.fact 4 (f := .glo "_law_take") rfl), a_law := _, fd_law := fd_law, D_law := D_law, g_law := He.glo_ok X G (c.fact 5 (f := .glo "law") rfl), C_Full := _, g_Full := He.glo_ok X G (c.fact 6 (f := .glo "Full") rfl), C_Held := _, g_Held := He.glo_ok X G (c.fact 7 (f := .glo "Held") rfl), C_HoleError := _, g_HoleError := He.glo_ok X G (c.fact 8 (f := .glo "HoleError") rfl), C_NoBook := _, g_NoBook := He.glo_ok X G (c.fact 9 (f := .glo "NoBook") rfl), C_NoFrame := _, g_NoFrame := He.glo_ok X G (c.fact 10 (f := .glo "NoFrame") rfl), C_NoGuide := _, g_NoGuide := He.glo_ok X G (c.fact 11 (f := .glo "NoGuide") rfl), C_NoHole := _, g_NoHole := He.glo_ok X G (c.fact 12 (f := .glo "NoHole") rfl), C_NoName := _, g_NoName := He.glo_ok X G (c.fact 13 (f := .glo "NoName") rfl), C_NoNumber := _, g_NoNumber := He.glo_ok X G (c.fact 14 (f := .glo "NoNumber") rfl), C_NoReader := _, g_NoReader := He.glo_ok X G (c.fact 15 (f := .glo "NoReader") rfl), C_NoWay := _, g_NoWay := He.glo_ok X G (c.fact 16 (f := .glo "NoWay") rfl), C_NoWeb := _, g_NoWeb := He.glo_ok X G (c.fact 17 (f := .glo "NoWeb") rfl), C_NoWord := _, g_NoWord := He.glo_ok X G (c.fact 18 (f := .glo "NoWord") rfl), C_Taken := _, g_Taken := He.glo_ok X G (c.fact 19 (f := .glo "Taken") rfl), xi_Full := xiB_ok (xAt cx 0 rfl), xi_Held := xiB_ok (xAt cx 1 rfl), xi_NoName := xiB_ok (xAt cx 2 rfl), xi_NoWord := xiB_ok (xAt cx 3 rfl), xi_Taken := xiB_ok (xAt cx 4 rfl), eb_HoleError := ebB_ok (xAt cx 5 rfl), xc_NoBook := xcB_ok (xAt cx 6 rfl), xc_NoFrame := xcB_ok (xAt cx 7 rfl), xc_NoGuide := xcB_ok (xAt cx 8 rfl), xc_NoHole := xcB_ok (xAt cx 9 rfl), xc_NoNumber := xcB_ok (xAt cx 10 rfl), xc_NoReader := xcB_ok (xAt cx 11 rfl), xc_NoWay := xcB_ok (xAt cx 12 rfl), xc_NoWeb := xcB_ok (xAt cx 13 rfl), isx_Full := isxB_ok (c := .inl "Full") gx (xAt cx 14 rfl), isx_Held := isxB_ok (c := .inl "Held") gx (xAt cx 15 rfl), isx_HoleError := isxB_ok (c := .inl "HoleError") gx (xAt cx 16 rfl), isx_NoBook := isxB_ok (c := .inl "NoBook") gx (xAt cx 17 rfl), isx_NoFrame := isxB_ok (c := .inl "NoFrame") gx (xAt cx 18 rfl), isx_NoGuide := isxB_ok (c := .inl "NoGuide") gx (xAt cx 19 rfl), isx_NoHole := isxB_ok (c := .inl "NoHole") gx (xAt cx 20 rfl), isx_NoName := isxB_ok (c := .inl "NoName") gx (xAt cx 21 rfl), isx_NoNumber := isxB_ok (c := .inl "NoNumber") gx (xAt cx 22 rfl), isx_NoReader := isxB_ok (c := .inl "NoReader") gx (xAt cx 23 rfl), isx_NoWay := isxB_ok (c := .inl "NoWay") gx (xAt cx 24 rfl), isx_NoWeb := isxB_ok (c := .inl "NoWeb") gx (xAt cx 25 rfl), isx_NoWord := isxB_ok (c := .inl "NoWord") gx (xAt cx 26 rfl), isx_Taken := isxB_ok (c := .inl "Taken") gx (xAt cx 27 rfl), isx_ValueError := isxB_ok (c := .inr "ValueError") gx (xAt cx 28 rfl), xf_hole := xfsB_ok (List.forall_mem_cons.mpr ⟨He.glo_ok X G (c.fact 18 (f := .glo "NoWord") rfl), List.forall_mem_nil _⟩) (xAt cx 29 rfl), xf_most := xfsB_ok (List.forall_mem_cons.mpr ⟨He.glo_ok X G (c.fact 6 (f := .glo "Full") rfl), List.forall_mem_nil _⟩) (xAt cx 30 rfl), xf_name := xfsB_ok (List.forall_mem_cons.mpr ⟨He.glo_ok X G (c.fact 13 (f := .glo "NoName") rfl), List.forall_mem_cons.mpr ⟨He.glo_ok X G (c.fact 19 (f := .glo "Taken") rfl), List.forall_mem_cons.mpr ⟨He.glo_ok X G (c.fact 7 (f := .glo "Held") rfl), List.forall_mem_nil _⟩⟩⟩) (xAt cx 31 rfl), f_ValueError := He.free_ok X G (c.fact 20 (f := .free "ValueError") rfl), f_bool := He.free_ok X G (c.fact 21 (f := .free "bool") rfl), f_enumerate := He.free_ok X G (c.fact 22 (f := .free "enumerate") rfl), f_int := He.free_ok X G (c.fact 23 (f := .free "int") rfl), f_isinstance := He.free_ok X G (c.fact 24 (f := .free "isinstance") rfl), f_len := He.free_ok X G (c.fact 25 (f := .free "len") rfl), f_list := He.free_ok X G (c.fact 26 (f := .free "list") rfl), f_range := He.free_ok X G (c.fact 27 (f := .free "range") rfl), f_str := He.free_ok X G (c.fact 28 (f := .free "str") rfl), f_tuple := He.free_ok X G (c.fact 29 (f := .free "tuple") rfl), f_zip := He.free_ok X G (c.fact 30 (f := .free "zip") rfl) }, rfl⟩
end Fo
/-! Fin0: the end, but for the plain law. Printed by gen.py. -/
section
open PySem PySem.W PySem.Calls PyProof.Rows
theorem PySem.Challenge.cw_foeholes_k14_refusals_made_by_hand_from (hL : ∀ ns : List Int, ns.length ≤ 63 → Fo.t_law_v19 [Fo.W.val (Fo.D.scr ns)] [] fun w _ => w = Fo.W.val (Fo.D.bl true)) : PySem.Challenge.rw_foeholes_k14_refusals_made_by_hand.Holds := by
  w_on; o_law
  refine HandSHeadRun.head_any (r := OpenLaw.row PySem.Challenge.rw_foeholes_k14_refusals_made_by_hand) (q := view (OpenLaw.row PySem.Challenge.rw_foeholes_k14_refusals_made_by_hand).prog [21]) (H := Fo.hookR) (ob := Fo.obR) (M := 6000) (loose := Fo.looseR) (d := HandSHeadRun.topDef (OpenLaw.row PySem.Challenge.rw_foeholes_k14_refusals_made_by_hand).prog 21) (kwd := []) Fo.obR_eq
    (by kernel_rfl) (fun s => by kernel_rfl) Fo.runR (by kernel_rfl) (by kernel_rfl) (by kernel_rfl) (by rfl) (by first | assumption | decide +kernel) (by decide +kernel) ⟨rfl, rfl, rfl, rfl, rfl, by decide +kernel⟩ ?hw ?hc
  case hw => w_witness2
  case hc =>
    refine Fo.walkG (l := PySem.Challenge.rw_foeholes_k14_refusals_made_by_hand) (n := 63) (k := 42) (x := "script") (CX := L2.CX0) rfl (by decide) (by kernel_rfl) ⟨rfl, by decide, by decide⟩ ?F (fun _ _ _ _ z => z)
    intro w mg fa h Y G hmg0
    obtain ⟨K, KX, c, sy⟩ := Y
    have hmg : mg ("law" : PySem.Str) = some (.ref fa) := by
      have e : (HandSHeadRun.topDef (OpenLaw.row PySem.Challenge.rw_foeholes_k14_refusals_made_by_hand).prog 21).name = ("law" : PySem.Str) := by kernel_rfl
      rw [← e]
      exact hmg0
    obtain ⟨T, rfl⟩ := Fo.facts KX G hmg c
    refine ⟨K, T.fd_law, Fo.spF ⟨K, w, mg⟩ 1 Fo.t_law_v19, KX, sy, fun s v => ?_, fun H a ns hl hs hS => Fo.sp_law_of hs hS (hL ns hl), fun base _ _ => Fo.ok_law T⟩
    exact L2.FunD.bindsA (ps := ["script"]) T.D_law (fun _ _ _ _ _ _ us hl => match us, hl with | [_], _ => rfl) s [v] rfl
end
/-! Ew1: errors as values: the steps of a walk. -/
namespace Fo
open PySem PySem.Spec PyProof.Rows L2
def ixlF (l : List W) (i : Nat) (k : W → Prop) : Prop := match l[i]? with
  | some w => k w
  | none => False
def xfF (o : Option (Str × D)) (g : Str) (k : D → Prop) : Prop := match o with
  | some (h, d) => h = g ∧ k d
  | none => False
section
variable {t u : ME} {args : MA} {f : MF} {dws : List W} {ρ : Rho} {S : Sto} {k : KW} {x g : Str} {ns : List Str} {b : Str → Bool} {i : Nat}
theorem mExc0_i (q : t ρ S fun _ S1 => k (.exv (x, none)) S1) : mExc0 x t ρ S k := q
theorem mExc1_i (q : t ρ S fun w S1 => match w with | .val d => k (.exv (x, some (g, d))) S1 | _ => False) : mExc1 x g t ρ S k := q
theorem mIsX_i (q : t ρ S fun w S1 => exvW w fun y _ => y ∈ ns ∧ k (.val (.bl (b y))) S1) : mIsX ns b t ρ S k := q
theorem exvW_i {e : Str × Option (Str × D)} {kk : Str → Option (Str × D) → Prop} (q : kk e.1 e.2) : exvW (.exv e) kk := q
theorem mXf_i (q : t ρ S fun w S1 => exvW w fun y o => y ∈ ns ∧ xfF o g fun d => k (.val d) S1) : mXf ns g t ρ S k := q
theorem xfF_i {d : D} {kk : D → Prop} (q : kk d) : xfF (some (g, d)) g kk := ⟨rfl, q⟩
theorem mLsw_i (q : args ρ S fun ws S1 => ws.length ≤ sizeLine ∧ k (.lsw ws) S1) : mLsw args ρ S k := q
theorem mCatW_i (q : t ρ S fun x S1 => u ρ S1 fun y S2 => lswF x fun l => lswF y fun m => l.length + m.length ≤ sizeLine ∧ k (.lsw (l ++ m)) S2) : mCatW t u ρ S k := q
theorem lswF_i {l : List W} {kk : List W → Prop} (q : kk l) : lswF (.lsw l) kk := q
theorem mIxL_i (q : t ρ S fun x S1 => lswF x fun l => ixlF l i fun w => k w S1) : mIxL t i ρ S k := q
theorem ixlF_i {l : List W} {w : W} {kk : W → Prop} (e : l[i]? = some w) (q : kk w) : ixlF l i kk := by
  unfold ixlF
  rw [e]
  exact q
theorem mCallX_i (q : args ρ S fun ws S1 => f (ws ++ dws) S1 k) : mCallS f args dws ρ S k := q
end
theorem sForEW_i {i j : Nat} {te : ME} {tb : MS} {E : End} {ρ : Rho} {S : Sto} (q : te ρ S fun w S1 => lswF w fun ws => forW i j tb E ws 0 ρ S1) : sForEW i j te tb E ρ S := q
theorem forW_ix {i j : Nat} {tb : MS} {E : End} {ws : List W} (I : Nat → Rho → Sto → Prop) (fin : ∀ ρ S, I ws.length ρ S → E.nx ρ S)
    (step : ∀ n w, ws[n]? = some w → ∀ ρ S (K : Rho → Sto → Prop), (∀ ρ S, I (n + 1) ρ S → K ρ S) → I n ρ S → tb { nx := K, rt := E.rt, bk := E.nx, ct := K } ((ρ.set i (some (.val (.int (n : Nat))))).set j (some w)) S) :
    ∀ (m n : Nat) (ρ : Rho) (S : Sto), n + m = ws.length → I n ρ S → forW i j tb E (ws.drop n) n ρ S
  | 0, n, ρ, S, e, h => by
    have e : n = ws.length := e
    subst e
    rw [List.drop_length]
    exact fin ρ S h
  | m + 1, n, ρ, S, e, h => by
    have hn : n < ws.length := by omega
    rw [List.drop_eq_getElem_cons hn]
    exact step n _ (List.getElem?_eq_getElem hn) ρ S (forW i j tb E (ws.drop (n + 1)) (n + 1)) (fun ρ S q => forW_ix I fin step m (n + 1) ρ S (by omega) q) h
/-- the thirteen errors of a turn -/
def errs (word hole name thing : D) (m : Int) : List (Str × Option (Str × D)) :=
  [("NoWord", some ("hole", hole)), ("NoName", some ("name", thing)), ("Taken", some ("name", name)), ("Held", some ("name", name)), ("Full", some ("most", .int m)), ("NoWay", none), ("NoHole", none), ("NoNumber", none), ("NoBook", none), ("NoGuide", none), ("NoReader", none), ("NoWeb", none), ("NoFrame", none)]
theorem errs_x {word hole name thing : D} {m : Int} : (errs word hole name thing m).map (·.1) = xns := rfl
theorem kinds_all : (List.range 13).all (fun k => (xns.map fun y => (xns.getD k "") == y) == (List.range 13).map fun j => j == k) = true := by decide +kernel
theorem kinds_at {k : Nat} {x : Str} (h : xns[k]? = some x) : (xns.map fun y => x == y) = (List.range 13).map fun j => j == k := by
  have hk : k < 13 := (List.getElem?_eq_some_iff.mp h).1
  have e := List.all_eq_true.mp kinds_all k (List.mem_range.mpr hk)
  have e2 := eq_of_beq e
  rw [List.getD_eq_getElem?_getD, h] at e2
  exact e2
end Fo
/-! Fst: the first text by which something is come to, by a walk that goes on from the first of those that are left. -/
namespace Fo
/-- shorter, or as long and sorted ahead -/
def ltT (t u : List Nat) : Prop := t.length < u.length ∨ t.length = u.length ∧ t < u
def leT (t u : List Nat) : Prop := t = u ∨ ltT t u
theorem ltT.trans {a b c : List Nat} (h : ltT a b) (k : ltT b c) : ltT a c := by
  rcases h with h | ⟨h1, h2⟩
  · rcases k with k | ⟨k1, k2⟩
    · exact .inl (by omega)
    · exact .inl (by omega)
  · rcases k with k | ⟨k1, k2⟩
    · exact .inl (by omega)
    · exact .inr ⟨by omega, List.lt_trans h2 k2⟩
theorem leT.trans {a b c : List Nat} (h : leT a b) (k : leT b c) : leT a c := by
  rcases h with rfl | h
  · exact k
  · rcases k with rfl | k
    · exact .inr h
    · exact .inr (h.trans k)
end Fo
/-! Ms: the mirrors of the defs first met in this law. Printed by gen.py. -/
/-! Lot: lots drawn, walked. -/
namespace Fo
open PySem PySem.Spec PyProof.Rows L2
abbrev Lst := List (Option Nat) × Bool
structure Lot where
  signs : List Nat
  sts : List Lst
end Fo
/-! Read: readers drawn. -/
namespace Fo
open PySem PySem.Spec PyProof.Rows L2
abbrev Way := Nat × List Nat
abbrev Stt := List Way × Option (List Nat)
structure Rdr where
  reads : List Nat
  tells : List Nat
  sts : List Stt
/-- a text of the signs, of at most n -/
def TxOk (tells : List Nat) (n : Nat) (t : List Nat) : Prop := (∀ c ∈ t, c ∈ tells) ∧ t.length ≤ n
def WayOk (a : Nat) (tells : List Nat) (n : Nat) (w : Way) : Prop := w.1 < a ∧ TxOk tells n w.2
structure SttOk (a l : Nat) (tells : List Nat) (n e : Nat) (s : Stt) : Prop where
  len : s.1.length = l
  ways : ∀ w ∈ s.1, WayOk a tells n w
  fin : ∀ t, s.2 = some t → TxOk tells e t
structure RdOk (n e : Nat) (r : Rdr) : Prop where
  sr : Sg r.reads
  st : Sg r.tells
  ne : r.sts ≠ []
  sts : ∀ s ∈ r.sts, SttOk r.sts.length r.reads.length r.tells n e s
end Fo
/-! Read2: readers with long ends; reading. -/
namespace Fo
open PySem PySem.Spec PyProof.Rows L2
theorem TxOk.mono {ts : List Nat} {a b : Nat} {t : List Nat} (h : TxOk ts a t) (l : a ≤ b) : TxOk ts b t := ⟨h.1, Nat.le_trans h.2 l⟩
/-! ### reading -/
def atR {α : Type} (l : List α) (d : α) (i : Nat) : α := l[i]?.getD d
end Fo
/-! Lot2: words of lots. -/
namespace Fo
open PySem PySem.Spec PyProof.Rows L2
def stepL (l : Lot) (q : Option Nat) (c : Nat) : Option Nat := match q with
  | none => none
  | some q => if c ∈ l.signs then atR (atR l.sts ([], false) q).1 none (l.signs.idxOf c) else none
def onL (l : Lot) : Option Nat → List Nat → Option Nat
  | q, [] => q
  | q, c :: cs => onL l (stepL l q c) cs
end Fo
/-! Lot3: words of lots counted. -/
/-! Lot4: how many words. -/
/-! Lot5: the law's own count. -/
/-! Lot6: all texts of a length; a text walked. -/
/-! Lot7: a text walked, texts right. -/
/-! Lot8: the count is the number of words. -/
/-! Lang: what is told of a lot follows from which texts are its words. -/
namespace Fo
open PySem PySem.Spec PyProof.Rows L2
/-! ### the same words -/
/-! ### told by other numbers -/
structure Ord0 (n : Nat) (o : List Nat) : Prop where
  nd : o.Nodup
  mem : ∀ k, k ∈ o ↔ k < n
  zero : o[0]? = some 0
theorem Ord0.len {n : Nat} {o : List Nat} (h : Ord0 n o) : o.length = n := by
  have h1 := h.nd.length_le_of_subset (l₂ := List.range n) fun x hx => List.mem_range.mpr ((h.mem x).mp hx)
  have h2 := (List.nodup_range (n := n)).length_le_of_subset (l₂ := o) fun x hx => (h.mem x).mpr (List.mem_range.mp hx)
  rw [List.length_range] at h1 h2
  omega
/-! ### ways more -/
end Fo
/-! Eqv: data without truths are alike just where they are the same. -/
/-! Rdr1: drawn readers are nice. -/
/-! Ms: the mirrors of the defs first met in this law. Printed by gen.py. -/
/-! Row: rows of readers read. -/
namespace Fo
open PySem PySem.Spec PyProof.Rows L2
theorem Sg.le {t : List Nat} (h : Sg t) : t.length ≤ 93 := by
  have := h.nd.length_le_of_subset (l₂ := poolS) h.pool
  rwa [pool_len] at this
theorem RdOk.mono {n n' e e' : Nat} {r : Rdr} (h : RdOk n e r) (hn : n ≤ n') (he : e ≤ e') : RdOk n' e' r :=
  ⟨h.sr, h.st, h.ne, fun s hs => ⟨(h.sts s hs).len, fun w hw => ⟨((h.sts s hs).ways w hw).1, ((h.sts s hs).ways w hw).2.1, Nat.le_trans ((h.sts s hs).ways w hw).2.2 hn⟩, fun t ht => ⟨((h.sts s hs).fin t ht).1, Nat.le_trans ((h.sts s hs).fin t ht).2 he⟩⟩⟩
def natD (q : Nat) : D := .int (q : Nat)
def QsOk : List Rdr → List Nat → Prop
  | [], [] => True
  | r :: rs, q :: qs => q < r.sts.length ∧ QsOk rs qs
  | _, _ => False
theorem QsOk.len : ∀ {rs : List Rdr} {qs : List Nat}, QsOk rs qs → rs.length = qs.length
  | [], [], _ => rfl
  | _ :: rs, _ :: qs, h => by rw [List.length_cons, List.length_cons, QsOk.len (rs := rs) (qs := qs) h.2]
  | [], _ :: _, h => h.elim
  | _ :: _, [], h => h.elim
theorem RdOk.pos {n e : Nat} {r : Rdr} (h : RdOk n e r) : 0 < r.sts.length := List.length_pos_iff.mpr h.ne
end Fo
/-! Ms: the mirrors of the defs first met in this law. Printed by gen.py. -/
/-! Ms: the mirrors of the defs first met in this law. Printed by gen.py. -/
/-! Frz1: a slot's cell is data from now on (nothing runs for it). -/
/-! Srt1: sorted(a list of data that can be compared). -/
/-! Ms: the mirrors of the defs first met in this law. Printed by gen.py. -/
/-! Lw1: the first word, words without end. -/
namespace Fo
open PySem PySem.Spec PyProof.Rows L2
theorem h0 (l : Lot) : onL l (some 0) [] = some 0 := rfl
end Fo
/-! Lw2: words without end; all texts; how a lot stands otherwise. -/
/-! Par3: a, b, c = x, y, z. -/
namespace Fo
open PySem PySem.Spec PyProof.Rows L2
variable {K : Kw}
def sPar3 (i j l : Nat) (t : MA) : MS := fun E ρ S => t ρ S fun ws S1 => match ws with
  | [w, u, v] => E.nx (((ρ.set i (some w)).set j (some u)).set l (some v)) S1
  | _ => False
def parK3 (i j l : Nat) (E : End) (ρ : Rho) (ws : List W) (S : Sto) : Prop := match ws with
  | [w, u, v] => E.nx (((ρ.set i (some w)).set j (some u)).set l (some v)) S
  | _ => False
theorem sPar3_i {i j l : Nat} {args : MA} {E : End} {ρ : Rho} {S : Sto} (q : args ρ S fun ws S1 => parK3 i j l E ρ ws S1) : sPar3 i j l args E ρ S := q
theorem par3_i {i j l : Nat} {w w2 w3 : W} {E : End} {ρ : Rho} {S : Sto} (q : E.nx (((ρ.set i (some w)).set j (some w2)).set l (some w3)) S) : parK3 i j l E ρ [w, w2, w3] S := q
end Fo
/-! Lc1: loops over pictures of lists: by the number of rounds done; comprehensions that leave the cells as they are. -/
namespace Fo
open PySem PySem.Spec PyProof.Rows L2
section
variable {α : Type} {g : MG} {ρ : Rho} {S : Sto} {E : End}
/-- a comprehension: what each item gives, None where it is left out -/
theorem lc_fm {c : MT} {e : ME} {kn : List D → Sto → Prop} (f : α → D) (h : α → Option D) (l : List α) (hl : l.length ≤ sizeLine)
    (step : ∀ x ∈ l, ∀ (acc : List D) (K : List D → Sto → Prop), acc.length < sizeLine → (∀ y, h x = some y → K (acc ++ [y]) S) → (h x = none → K acc S) →
      g (.val (f x)) ρ S fun ρ2 S2 => c ρ2 S2 fun b S3 => if b = true then e ρ2 S3 fun w S4 => lcPut acc K w S4 else K acc S3)
    (q : kn (l.filterMap h) S) : lcItems g c e ρ kn (l.map f) [] S := by
  refine lc_inv (fun r acc S' => ∃ rest : List α, r = rest.map f ∧ (∀ x ∈ rest, x ∈ l) ∧ acc ++ rest.filterMap h = l.filterMap h ∧ S' = S ∧ acc.length + rest.length ≤ l.length) ?_ ?_ _ _ _ ⟨l, rfl, fun _ z => z, rfl, rfl, by show 0 + _ ≤ _; omega⟩
  · rintro acc S' ⟨rest, e1, _, e2, rfl, _⟩
    cases rest with
    | cons => cases e1
    | nil =>
      rw [List.filterMap_nil, List.append_nil] at e2
      rw [e2]
      exact q
  · rintro d r acc S' K hK ⟨rest, e1, hm, e2, rfl, hn⟩
    cases rest with
    | nil => cases e1
    | cons x rest =>
      injection e1 with e3 e4
      subst e3
      rw [List.length_cons] at hn
      refine step x (hm x List.mem_cons_self) acc K (by omega) (fun y hy => hK _ _ ⟨rest, e4, fun z hz => hm z (List.mem_cons_of_mem _ hz), ?_, rfl, ?_⟩) fun hno => hK _ _ ⟨rest, e4, fun z hz => hm z (List.mem_cons_of_mem _ hz), ?_, rfl, by omega⟩
      · rw [List.filterMap_cons, hy] at e2
        rw [← e2, List.append_assoc]
        rfl
      · rw [List.length_append]
        show acc.length + 1 + _ ≤ _
        omega
      · rw [List.filterMap_cons, hno] at e2
        exact e2
/-- all stay -/
theorem lc_map {c : MT} {e : ME} {kn : List D → Sto → Prop} (f h : α → D) (l : List α) (hl : l.length ≤ sizeLine)
    (step : ∀ x ∈ l, ∀ (acc : List D) (K : List D → Sto → Prop), acc.length < sizeLine → K (acc ++ [h x]) S →
      g (.val (f x)) ρ S fun ρ2 S2 => c ρ2 S2 fun b S3 => if b = true then e ρ2 S3 fun w S4 => lcPut acc K w S4 else K acc S3)
    (q : kn (l.map h) S) : lcItems g c e ρ kn (l.map f) [] S :=
  lc_fm f (fun x => some (h x)) l hl (fun x hx acc K ha k1 _ => step x hx acc K ha (k1 _ rfl)) (by rw [show l.filterMap (fun x => some (h x)) = l.map h from congrFun (List.filterMap_eq_map' (f := h)) l]; exact q)
theorem rangeL0 (n : Nat) : rangeL 0 n = (List.range n).map natD := by
  unfold rangeL natD
  apply List.map_congr_left
  intro i _
  simp
end
end Fo
/-! Law_k14: the plain law. -/
-- v6
local macro_rules | `(tactic| mright) => `(tactic| ((with_reducible refine Fo.dct3_i ?_ ?_); (exact ⟨by decide, by decide, by decide⟩)))
local macro_rules | `(tactic| mright) => `(tactic| (with_reducible refine Fo.xfF_i ?_))
local macro_rules | `(tactic| mright) => `(tactic| (with_reducible refine Fo.mCallX_i ?_))
local macro_rules | `(tactic| mright) => `(tactic| (with_reducible refine Fo.mIxL_i ?_))
local macro_rules | `(tactic| mright) => `(tactic| (with_reducible refine Fo.lswF_i ?_))
local macro_rules | `(tactic| mright) => `(tactic| (with_reducible refine Fo.mCatW_i ?_))
local macro_rules | `(tactic| mright) => `(tactic| (with_reducible refine Fo.mLsw_i ?_))
local macro_rules | `(tactic| mright) => `(tactic| (with_reducible refine Fo.mXf_i ?_))
local macro_rules | `(tactic| mright) => `(tactic| (with_reducible refine Fo.exvW_i ?_))
local macro_rules | `(tactic| mright) => `(tactic| (with_reducible refine Fo.mIsX_i ?_))
local macro_rules | `(tactic| mright) => `(tactic| (with_reducible refine Fo.mExc1_i ?_))
local macro_rules | `(tactic| mright) => `(tactic| (with_reducible refine Fo.mExc0_i ?_))
local macro_rules | `(tactic| mright) => `(tactic| (with_reducible refine Fo.setsN_n ?_))
local macro_rules | `(tactic| mright) => `(tactic| (with_reducible refine Fo.setsN_c ?_))
local macro_rules | `(tactic| mright) => `(tactic| (with_reducible refine Fo.sParN_i ?_))
local macro_rules | `(tactic| mright) => `(tactic| (with_reducible refine Fo.mCountL_i ?_))
local macro_rules | `(tactic| mright) => `(tactic| (with_reducible refine Fo.mOrT_i ?_))
local macro_rules | `(tactic| mright) => `(tactic| (with_reducible refine Fo.mLws_i ?_))
local macro_rules | `(tactic| mright) => `(tactic| (with_reducible refine Fo.asLws_i ?_))
local macro_rules | `(tactic| mright) => `(tactic| (with_reducible refine Fo.mIxW_i ?_))
local macro_rules | `(tactic| mright) => `(tactic| ((with_reducible refine Fo.iadd_s ?_ ?_); (first | exact Nat.le_of_ble_eq_true rfl | (unfold PySem.sizeLine; omega) | omega)))
local macro_rules | `(tactic| mright) => `(tactic| ((with_reducible refine Fo.len_s ?_ ?_); (first | exact Nat.le_of_ble_eq_true rfl | (unfold PySem.sizeLine; omega) | omega)))
local macro_rules | `(tactic| mright) => `(tactic| ((with_reducible refine Fo.add_s ?_ ?_); (first | exact Nat.le_of_ble_eq_true rfl | (unfold PySem.sizeLine; omega) | omega)))
local macro_rules | `(tactic| mright) => `(tactic| ((with_reducible refine Fo.dicC_r (ks := ?_) (ws := ?_) ?_ ?_); (rotate_left 2); (exact rfl)))
local macro_rules | `(tactic| mright) => `(tactic| ((with_reducible refine Fo.asDic_r (ks := ?_) (ws := ?_) ?_ ?_); (rotate_left 2); (exact rfl)))
local macro_rules | `(tactic| mright) => `(tactic| (with_reducible refine Fo.keyW_s ?_))
local macro_rules | `(tactic| mright) => `(tactic| (with_reducible refine Fo.keyW_i ?_))
local macro_rules | `(tactic| mright) => `(tactic| (with_reducible refine Fo.asDic_v ?_))
local macro_rules | `(tactic| mright) => `(tactic| (with_reducible refine Fo.par3_i ?_))
local macro_rules | `(tactic| mright) => `(tactic| (with_reducible refine Fo.sPar3_i ?_))
local macro_rules | `(tactic| mright) => `(tactic| (with_reducible refine Fo.mDNewT_i ?_))
local macro_rules | `(tactic| mright) => `(tactic| (with_reducible refine Fo.sDPutT_i ?_))
local macro_rules | `(tactic| mright) => `(tactic| (with_reducible refine Fo.mDGetT_i ?_))
local macro_rules | `(tactic| mright) => `(tactic| (with_reducible refine Fo.mDNew1_i ?_))
local macro_rules | `(tactic| mright) => `(tactic| (with_reducible refine Fo.mDNew_i ?_))
local macro_rules | `(tactic| mright) => `(tactic| (with_reducible refine Fo.sDPut_i ?_))
local macro_rules | `(tactic| mright) => `(tactic| (with_reducible refine Fo.mDGet2_i ?_))
local macro_rules | `(tactic| mright) => `(tactic| (with_reducible refine Fo.mDGet_i ?_))
local macro_rules | `(tactic| mright) => `(tactic| (with_reducible refine Fo.mDct3_i ?_))
local macro_rules | `(tactic| mright) => `(tactic| (with_reducible refine Fo.mDct1_i ?_))
local macro_rules | `(tactic| mright) => `(tactic| (with_reducible refine Fo.mDct0_i ?_))
local macro_rules | `(tactic| mright) => `(tactic| ((with_reducible refine Fo.rev_s ?_ ?_); ((try simp only [List.length_append, List.length_cons, List.length_nil, List.length_reverse]); (try unfold PySem.sizeLine); omega)))
local macro_rules | `(tactic| mright) => `(tactic| ((with_reducible refine Fo.len_s ?_ ?_); ((try simp only [List.length_append, List.length_cons, List.length_nil, List.length_reverse]); (try unfold PySem.sizeLine); omega)))
local macro_rules | `(tactic| mright) => `(tactic| ((with_reducible refine Fo.sl_s ?_ ?_); ((try simp only [List.length_append, List.length_cons, List.length_nil, List.length_reverse]); (try unfold PySem.sizeLine); omega)))
local macro_rules | `(tactic| mright) => `(tactic| ((with_reducible refine Fo.append_i ?_ ?_); ((try simp only [List.length_append, List.length_cons, List.length_nil, List.length_reverse]); (try unfold PySem.sizeLine); omega)))
local macro_rules | `(tactic| mright) => `(tactic| ((with_reducible refine Fo.add_s ?_ ?_); ((try simp only [List.length_append, List.length_cons, List.length_nil, List.length_reverse]); (try unfold PySem.sizeLine); omega)))
local macro_rules | `(tactic| mright) => `(tactic| ((with_reducible refine Fo.add_t ?_ ?_); ((try simp only [List.length_append, List.length_cons, List.length_nil, List.length_reverse]); (try unfold PySem.sizeLine); omega)))
local macro_rules | `(tactic| mright) => `(tactic| ((with_reducible refine Fo.addN_l ?_ ?_); ((try simp only [List.length_append, List.length_cons, List.length_nil, List.length_reverse]); (try unfold PySem.sizeLine); omega)))
local macro_rules | `(tactic| mright) => `(tactic| ((with_reducible refine Fo.add_l ?_ ?_); ((try simp only [List.length_append, List.length_cons, List.length_nil, List.length_reverse]); (try unfold PySem.sizeLine); omega)))
local macro_rules | `(tactic| mright) => `(tactic| ((with_reducible refine And.intro ?_ ?_); ((try simp only [List.length_append, List.length_cons, List.length_nil, List.length_reverse]); (try unfold PySem.sizeLine); omega)))
local macro_rules | `(tactic| mright) => `(tactic| (with_reducible refine Fo.ix_l3 ?_))
local macro_rules | `(tactic| mright) => `(tactic| (with_reducible refine Fo.ix_l2 ?_))
local macro_rules | `(tactic| mright) => `(tactic| (with_reducible refine Fo.ix_l1 ?_))
local macro_rules | `(tactic| mright) => `(tactic| (with_reducible refine Fo.ix_l0 ?_))
local macro_rules | `(tactic| mright) => `(tactic| (with_reducible refine Fo.ix_t2 ?_))
local macro_rules | `(tactic| mright) => `(tactic| (with_reducible refine Fo.ix_t1 ?_))
local macro_rules | `(tactic| mright) => `(tactic| (with_reducible refine Fo.ix_t0 ?_))
local macro_rules | `(tactic| mright) => `(tactic| (dsimp only))
local macro_rules | `(tactic| mright) => `(tactic| (with_reducible refine Fo.fin_v ?_))
local macro_rules | `(tactic| mright) => `(tactic| (with_reducible refine Fo.if_f rfl ?_))
local macro_rules | `(tactic| mright) => `(tactic| (with_reducible refine Fo.if_t rfl ?_))
local macro_rules | `(tactic| mright) => `(tactic| ((with_reducible refine Fo.fdiv_i ?_ ?_); (unfold L2.CDiv; omega)))
local macro_rules | `(tactic| mright) => `(tactic| ((with_reducible refine Fo.mul_i ?_ ?_); (unfold L2.CMul; omega)))
local macro_rules | `(tactic| mright) => `(tactic| ((with_reducible refine Fo.pow_i ?_ ?_); (exact ⟨by omega, by omega, by omega⟩)))
local macro_rules | `(tactic| mright) => `(tactic| ((with_reducible refine Fo.mod_i ?_ ?_); (omega)))
local macro_rules | `(tactic| mright) => `(tactic| ((with_reducible refine Fo.gput_i (p := ?_) ?_ ?_); (rotate_left); (exact rfl)))
local macro_rules | `(tactic| mright) => `(tactic| ((with_reducible refine Fo.mFrz_r (n := ?_) (l := ?_) ?_ ?_ ?_); (rotate_left 2); (exact rfl); (exact rfl)))
local macro_rules | `(tactic| mright) => `(tactic| ((with_reducible refine Fo.rd_d (ks := ?_) (ws := ?_) ?_ ?_); (rotate_left 2); (exact rfl)))
local macro_rules | `(tactic| mright) => `(tactic| ((with_reducible refine Fo.mFrz_v (d := ?_) ?_ ?_); (rotate_left); (exact rfl)))
local macro_rules | `(tactic| mright) => `(tactic| ((with_reducible refine Fo.asCell_i (l := ?_) ?_ ?_); (rotate_left); (exact rfl)))
local macro_rules | `(tactic| mright) => `(tactic| ((with_reducible refine Fo.sAug_i (w := ?_) ?_ ?_); (rotate_left); (exact rfl)))
local macro_rules | `(tactic| mright) => `(tactic| ((with_reducible refine Fo.lstW_r (l := ?_) ?_ ?_); (rotate_left); (exact rfl)))
local macro_rules | `(tactic| mright) => `(tactic| ((with_reducible refine Fo.rd_l (l := ?_) ?_ ?_); (rotate_left); (exact rfl)))
local macro_rules | `(tactic| mright) => `(tactic| ((with_reducible refine Fo.mVar_i (w := ?_) ?_ ?_); (rotate_left); (exact rfl)))
local macro_rules | `(tactic| mright) => `(tactic| (with_reducible refine Fo.int1_i ?_))
local macro_rules | `(tactic| mright) => `(tactic| (with_reducible refine Fo.int1_b ?_))
local macro_rules | `(tactic| mright) => `(tactic| (with_reducible refine Fo.nostrict ?_))
local macro_rules | `(tactic| mright) => `(tactic| (with_reducible refine Fo.seqW_s ?_))
local macro_rules | `(tactic| mright) => `(tactic| (with_reducible refine Fo.seqW_t ?_))
local macro_rules | `(tactic| mright) => `(tactic| (with_reducible refine Fo.seqW_l ?_))
local macro_rules | `(tactic| mright) => `(tactic| (with_reducible refine Fo.rev_l ?_))
local macro_rules | `(tactic| mright) => `(tactic| (with_reducible refine Fo.rev_t ?_))
local macro_rules | `(tactic| mright) => `(tactic| (with_reducible refine Fo.lstW_v ?_))
local macro_rules | `(tactic| mright) => `(tactic| (with_reducible refine Fo.asZ_t ?_))
local macro_rules | `(tactic| mright) => `(tactic| (with_reducible refine Fo.asZ_l ?_))
local macro_rules | `(tactic| mright) => `(tactic| (with_reducible refine Fo.itV_s ?_))
local macro_rules | `(tactic| mright) => `(tactic| (with_reducible refine Fo.itV_t ?_))
local macro_rules | `(tactic| mright) => `(tactic| (with_reducible refine Fo.itV_l ?_))
local macro_rules | `(tactic| mright) => `(tactic| (with_reducible refine Fo.listF_t ?_))
local macro_rules | `(tactic| mright) => `(tactic| (with_reducible refine Fo.listF_l ?_))
local macro_rules | `(tactic| mright) => `(tactic| (with_reducible refine Fo.tuple_t ?_))
local macro_rules | `(tactic| mright) => `(tactic| (with_reducible refine Fo.tuple_l ?_))
local macro_rules | `(tactic| mright) => `(tactic| (with_reducible refine Fo.min2_i ?_))
local macro_rules | `(tactic| mright) => `(tactic| (with_reducible refine Fo.len_t ?_))
local macro_rules | `(tactic| mright) => `(tactic| (with_reducible refine Fo.len_l ?_))
local macro_rules | `(tactic| mright) => `(tactic| (with_reducible refine Fo.sl_c ?_))
local macro_rules | `(tactic| mright) => `(tactic| (with_reducible refine Fo.sl_l ?_))
local macro_rules | `(tactic| mright) => `(tactic| (with_reducible refine Fo.sl_t ?_))
local macro_rules | `(tactic| mright) => `(tactic| (with_reducible refine Fo.in_s ?_))
local macro_rules | `(tactic| mright) => `(tactic| (with_reducible refine Fo.eq_b ?_))
local macro_rules | `(tactic| mright) => `(tactic| (with_reducible refine Fo.eq_s ?_))
local macro_rules | `(tactic| mright) => `(tactic| (with_reducible refine Fo.eq_i ?_))
local macro_rules | `(tactic| mright) => `(tactic| (with_reducible refine Fo.is_b ?_))
local macro_rules | `(tactic| mright) => `(tactic| (with_reducible refine Fo.is_n ?_))
local macro_rules | `(tactic| mright) => `(tactic| (with_reducible refine Fo.ge_s ?_))
local macro_rules | `(tactic| mright) => `(tactic| (with_reducible refine Fo.gt_s ?_))
local macro_rules | `(tactic| mright) => `(tactic| (with_reducible refine Fo.le_s ?_))
local macro_rules | `(tactic| mright) => `(tactic| (with_reducible refine Fo.lt_s ?_))
local macro_rules | `(tactic| mright) => `(tactic| (with_reducible refine Fo.ge_i ?_))
local macro_rules | `(tactic| mright) => `(tactic| (with_reducible refine Fo.gt_i ?_))
local macro_rules | `(tactic| mright) => `(tactic| (with_reducible refine Fo.le_i ?_))
local macro_rules | `(tactic| mright) => `(tactic| (with_reducible refine Fo.lt_i ?_))
local macro_rules | `(tactic| mright) => `(tactic| (with_reducible refine Fo.sub_i ?_))
local macro_rules | `(tactic| mright) => `(tactic| (with_reducible refine Fo.iadd_i ?_))
local macro_rules | `(tactic| mright) => `(tactic| (with_reducible refine Fo.add_i ?_))
local macro_rules | `(tactic| mright) => `(tactic| (with_reducible refine Fo.rds_c ?_))
local macro_rules | `(tactic| mright) => `(tactic| (with_reducible refine Fo.rds_n ?_))
local macro_rules | `(tactic| mright) => `(tactic| (with_reducible refine Fo.vals_c ?_))
local macro_rules | `(tactic| mright) => `(tactic| (with_reducible refine Fo.vals_n ?_))
local macro_rules | `(tactic| mright) => `(tactic| (with_reducible refine Fo.par_i ?_))
local macro_rules | `(tactic| mright) => `(tactic| (with_reducible refine Fo.rd_v ?_))
local macro_rules | `(tactic| mright) => `(tactic| (with_reducible refine Fo.asL1_i ?_))
local macro_rules | `(tactic| mright) => `(tactic| (with_reducible refine Fo.asI2_i ?_))
local macro_rules | `(tactic| mright) => `(tactic| (with_reducible refine Fo.asI1_i ?_))
local macro_rules | `(tactic| mright) => `(tactic| (with_reducible refine Fo.oAt_i ?_))
local macro_rules | `(tactic| mright) => `(tactic| (with_reducible refine Fo.oNo_i ?_))
local macro_rules | `(tactic| mright) => `(tactic| (with_reducible refine Fo.asS_i ?_))
local macro_rules | `(tactic| mright) => `(tactic| (with_reducible refine Fo.asI_i ?_))
local macro_rules | `(tactic| mright) => `(tactic| (with_reducible refine Fo.asB_i ?_))
local macro_rules | `(tactic| mright) => `(tactic| (with_reducible refine Fo.gIx_i ?_))
local macro_rules | `(tactic| mright) => `(tactic| (with_reducible refine Fo.gsNil_i ?_))
local macro_rules | `(tactic| mright) => `(tactic| (with_reducible refine Fo.gsCons_i ?_))
local macro_rules | `(tactic| mright) => `(tactic| (with_reducible refine Fo.gTupM_i ?_))
local macro_rules | `(tactic| mright) => `(tactic| (with_reducible refine Fo.gVar_i ?_))
local macro_rules | `(tactic| mright) => `(tactic| (with_reducible refine Fo.mCallK_i ?_))
local macro_rules | `(tactic| mright) => `(tactic| (with_reducible refine Fo.mCall_i ?_))
local macro_rules | `(tactic| mright) => `(tactic| (with_reducible refine Fo.nLC_i ?_))
local macro_rules | `(tactic| mright) => `(tactic| (with_reducible refine Fo.sFor_i ?_))
local macro_rules | `(tactic| mright) => `(tactic| (with_reducible refine Fo.sAugX_i ?_))
local macro_rules | `(tactic| mright) => `(tactic| (with_reducible refine Fo.nBin_i ?_))
local macro_rules | `(tactic| mright) => `(tactic| (with_reducible refine Fo.asE1_i ?_))
local macro_rules | `(tactic| mright) => `(tactic| (with_reducible refine Fo.iEnum1_i ?_))
local macro_rules | `(tactic| mright) => `(tactic| (with_reducible refine Fo.asZ3_i ?_))
local macro_rules | `(tactic| mright) => `(tactic| (with_reducible refine Fo.asZ2_i ?_))
local macro_rules | `(tactic| mright) => `(tactic| (with_reducible refine Fo.iZip3_i ?_))
local macro_rules | `(tactic| mright) => `(tactic| (with_reducible refine Fo.iZip2_i ?_))
local macro_rules | `(tactic| mright) => `(tactic| (with_reducible refine Fo.iZip_i ?_))
local macro_rules | `(tactic| mright) => `(tactic| (with_reducible refine Fo.iEnumL_i ?_))
local macro_rules | `(tactic| mright) => `(tactic| (with_reducible refine Fo.iRange2_i ?_))
local macro_rules | `(tactic| mright) => `(tactic| (with_reducible refine Fo.iRange1_i ?_))
local macro_rules | `(tactic| mright) => `(tactic| (with_reducible refine Fo.iVal_i ?_))
local macro_rules | `(tactic| mright) => `(tactic| (with_reducible refine Fo.mIndexL_i ?_))
local macro_rules | `(tactic| mright) => `(tactic| (with_reducible refine Fo.mMethS_i ?_))
local macro_rules | `(tactic| mright) => `(tactic| (with_reducible refine Fo.mMethC0_i ?_))
local macro_rules | `(tactic| mright) => `(tactic| (with_reducible refine Fo.mMethC_i ?_))
local macro_rules | `(tactic| mright) => `(tactic| (with_reducible refine Fo.mIsiT_i ?_))
local macro_rules | `(tactic| mright) => `(tactic| (with_reducible refine Fo.mIsi_i ?_))
local macro_rules | `(tactic| mright) => `(tactic| (with_reducible refine Fo.nCallB_i ?_))
local macro_rules | `(tactic| mright) => `(tactic| (with_reducible refine Fo.mCallB_i ?_))
local macro_rules | `(tactic| mright) => `(tactic| (with_reducible refine Fo.mTup_i ?_))
local macro_rules | `(tactic| mright) => `(tactic| (with_reducible refine Fo.nLst_i ?_))
local macro_rules | `(tactic| mright) => `(tactic| (with_reducible refine Fo.mCell_i ?_))
local macro_rules | `(tactic| mright) => `(tactic| (with_reducible refine Fo.mVal_i ?_))
local macro_rules | `(tactic| mright) => `(tactic| (with_reducible refine Fo.aCons_i ?_))
local macro_rules | `(tactic| mright) => `(tactic| (with_reducible refine Fo.aNil_i ?_))
local macro_rules | `(tactic| mright) => `(tactic| (with_reducible refine Fo.mRev_i ?_))
local macro_rules | `(tactic| mright) => `(tactic| (with_reducible refine Fo.mSlice_i ?_))
local macro_rules | `(tactic| mright) => `(tactic| (with_reducible refine Fo.mChain_i ?_))
local macro_rules | `(tactic| mright) => `(tactic| (with_reducible refine Fo.mNeg_i ?_))
local macro_rules | `(tactic| mright) => `(tactic| (with_reducible refine Fo.mNot_i ?_))
local macro_rules | `(tactic| mright) => `(tactic| (with_reducible refine Fo.mOr_i ?_))
local macro_rules | `(tactic| mright) => `(tactic| (with_reducible refine Fo.mAnd_i ?_))
local macro_rules | `(tactic| mright) => `(tactic| (with_reducible refine Fo.mIf_i ?_))
local macro_rules | `(tactic| mright) => `(tactic| (with_reducible refine Fo.cYes_i ?_))
local macro_rules | `(tactic| mright) => `(tactic| (with_reducible refine Fo.cNot_i ?_))
local macro_rules | `(tactic| mright) => `(tactic| (with_reducible refine Fo.cOr_i ?_))
local macro_rules | `(tactic| mright) => `(tactic| (with_reducible refine Fo.cAnd_i ?_))
local macro_rules | `(tactic| mright) => `(tactic| (with_reducible refine Fo.mCond_i ?_))
local macro_rules | `(tactic| mright) => `(tactic| (with_reducible refine Fo.mBin_i ?_))
local macro_rules | `(tactic| mright) => `(tactic| (with_reducible refine Fo.mC_i ?_))
local macro_rules | `(tactic| mright) => `(tactic| (with_reducible refine Fo.sPar_i ?_))
local macro_rules | `(tactic| mright) => `(tactic| (with_reducible refine Fo.sAsg_i ?_))
local macro_rules | `(tactic| mright) => `(tactic| (with_reducible refine Fo.sSet_i ?_))
local macro_rules | `(tactic| mright) => `(tactic| (with_reducible refine Fo.sIf_i ?_))
local macro_rules | `(tactic| mright) => `(tactic| (with_reducible refine Fo.sRetN_i ?_))
local macro_rules | `(tactic| mright) => `(tactic| (with_reducible refine Fo.sRet_i ?_))
local macro_rules | `(tactic| mright) => `(tactic| (with_reducible refine Fo.sExpr_i ?_))
local macro_rules | `(tactic| mright) => `(tactic| (with_reducible refine Fo.sCont_i ?_))
local macro_rules | `(tactic| mright) => `(tactic| (with_reducible refine Fo.sBrk_i ?_))
local macro_rules | `(tactic| mright) => `(tactic| (with_reducible refine Fo.sNext_i ?_))
local macro_rules | `(tactic| mconstructor) => `(tactic| repeat (first | (with_reducible refine Fo.sSeq_i ?_) | mright))
local macro_rules | `(tactic| massumption) => `(tactic| repeat mright)
local macro_rules | `(tactic| mleft) => `(tactic| ((try dsimp only); (with_reducible refine Fo.sSeq_i ?_); massumption))
namespace Fo
open PySem PySem.Spec PyProof.Rows L2
theorem t_kinds {x : Str} {o : Option (Str × D)} (hx : x ∈ xns) {k : KW} {S : Sto} (q : k (.val (.lst (xns.map fun y => .bl (x == y)))) S) : t__law_kinds [.exv (x, o)] S k := by
  unfold t__law_kinds
  refine mfunS_of ?_
  mleft
  refine ⟨hx, ?_⟩
  massumption
  refine ⟨hx, ?_⟩
  massumption
  show k _ (S.take S.length)
  rw [List.take_length]
  exact q
theorem errs_nth {word hole name thing : D} {m : Int} {k : Nat} {e : Str × Option (Str × D)} (h : (errs word hole name thing m)[k]? = some e) : xns[k]? = some e.1 := by
  rw [← errs_x (word := word) (hole := hole) (name := name) (thing := thing) (m := m), List.getElem?_map, h]
  rfl
theorem xns_in {k : Nat} {x : Str} (h : xns[k]? = some x) : x ∈ xns := List.mem_of_getElem? h
theorem things_at : ∀ {q : Int}, 0 ≤ q → q < 7 → ∃ d : D, atI [D.non, .str [], .lst [.str [97]], .tup [.str [97], .int 1], .int 7, .bl true, .str [65]] q = some d ∧ Nice 1 d := by
  intro q h0 h1
  have : q = 0 ∨ q = 1 ∨ q = 2 ∨ q = 3 ∨ q = 4 ∨ q = 5 ∨ q = 6 := by omega
  have n1 : ∀ l : List Nat, (l.all fun c => decide (c < 256)) = true → Nice 1 (.str l) := fun l h => by
    unfold Nice
    exact fun c hc => of_decide_eq_true (List.all_eq_true.mp h c hc)
  have n0 : ∀ l : List Nat, (l.all fun c => decide (c < 256)) = true → Nice 0 (.str l) := fun l h => by
    unfold Nice
    exact fun c hc => of_decide_eq_true (List.all_eq_true.mp h c hc)
  have i0 : ∀ n : Nat, ∀ i : Int, i.natAbs.log2 < 1920 → Nice n (.int i) := fun n i h => by
    unfold Nice
    exact h
  rcases this with rfl | rfl | rfl | rfl | rfl | rfl | rfl
  · exact ⟨_, rfl, trivial⟩
  · exact ⟨_, rfl, n1 _ rfl⟩
  · refine ⟨_, rfl, ?_⟩
    unfold Nice
    refine ⟨by decide, fun x hx => ?_⟩
    rw [List.mem_singleton.mp hx]
    exact n0 _ rfl
  · refine ⟨_, rfl, ?_⟩
    unfold Nice
    refine ⟨by decide, fun x hx => ?_⟩
    rcases List.mem_cons.mp hx with rfl | hx
    · exact n0 _ rfl
    · rw [List.mem_singleton.mp hx]
      exact i0 _ _ (by decide)
  · exact ⟨_, rfl, i0 _ _ (by decide)⟩
  · exact ⟨_, rfl, trivial⟩
  · exact ⟨_, rfl, n1 _ rfl⟩
theorem words_at {l1 l2 l3 : List Nat} (h : ((l1 ++ (l2 ++ l3)).all fun c => decide (c < 256)) = true) {q : Int} (h0 : 0 ≤ q) (h1 : q < 3) : ∃ l : List Nat, atI [D.str l1, .str l2, .str l3] q = some (.str l) ∧ Nice 1 (.str l) := by
  have : q = 0 ∨ q = 1 ∨ q = 2 := by omega
  have n1 : ∀ c ∈ l1 ++ (l2 ++ l3), c < 256 := fun c hc => of_decide_eq_true (List.all_eq_true.mp h c hc)
  rcases this with rfl | rfl | rfl
  · exact ⟨l1, rfl, by unfold Nice; exact fun c hc => n1 c (List.mem_append.mpr (.inl hc))⟩
  · exact ⟨l2, rfl, by unfold Nice; exact fun c hc => n1 c (List.mem_append.mpr (.inr (List.mem_append.mpr (.inl hc))))⟩
  · exact ⟨l3, rfl, by unfold Nice; exact fun c hc => n1 c (List.mem_append.mpr (.inr (List.mem_append.mpr (.inr hc))))⟩
theorem law_true14 (ns : List Int) (hl : ns.length ≤ 63) : t_law_v19 [.val (.scr ns)] [] fun w _ => w = .val (.bl true) := by
  unfold t_law_v19
  refine mfun_of ?_
  mleft
  refine call_0 rfl (t_open hl fun p hp => ?_) m__law_open
  refine ⟨rfl, p, rfl, hp.nd, ?_⟩
  mleft
  refine for_inv (fun r2 ρ S => ∃ (j : Nat) (x2 x3 x4 x5 x6 x7 x8 x9 x10 x11 : Option W) (p' : Ob), ρ = [some (.val (.scr ns)), some (.ref 0), x2, x3, x4, x5, x6, x7, x8, x9, x10, x11] ∧ S = [p'] ∧ Pen (j * 100) p' ∧ j + r2.length = 3) ?_ ?_ _ _ _ ⟨0, _, _, _, _, _, _, _, _, _, _, p, rfl, rfl, hp, rfl⟩
  · rintro ρ S ⟨j, x2, x3, x4, x5, x6, x7, x8, x9, x10, x11, p', rfl, rfl, hp', hn⟩
    mconstructor
  · rintro d r2 ρ S K hK ⟨j, x2, x3, x4, x5, x6, x7, x8, x9, x10, x11, p', rfl, rfl, hp', hn⟩
    rw [List.length_cons] at hn
    massumption
    mleft
    refine call_1 rfl rfl hp'.nd (t_take hp' (by omega) (by omega) (by omega) fun q1 p1 b0 b1 hp1 => ⟨p1, [], rfl, ?_⟩) m__law_take
    massumption
    obtain ⟨word, ew, nw⟩ := words_at (l1 := []) (l2 := [97, 32, 119, 111, 114, 100]) (l3 := [110, 111, 110, 101]) rfl b0 b1
    refine ix_l ew ?_
    massumption
    refine call_1 rfl rfl hp1.nd (t_take hp1 (by omega) (by omega) (by omega) fun hole p2 c0 c1 hp2 => ⟨p2, [], rfl, ?_⟩) m__law_take
    massumption
    mleft
    refine call_1 rfl rfl hp2.nd (t_take hp2 (by omega) (by omega) (by omega) fun q3 p3 d0 d1 hp3 => ⟨p3, [], rfl, ?_⟩) m__law_take
    massumption
    obtain ⟨name, en, nn⟩ := words_at (l1 := [97]) (l2 := [119, 101, 98]) (l3 := [122, 122, 122, 122, 122, 122, 122, 122]) rfl d0 d1
    refine ix_l en ?_
    massumption
    mleft
    refine call_1 rfl rfl hp3.nd (t_take hp3 (by omega) (by omega) (by omega) fun q4 p4 e0 e1 hp4 => ⟨p4, [], rfl, ?_⟩) m__law_take
    massumption
    obtain ⟨thing, et, nt⟩ := things_at e0 e1
    refine ix_l et ?_
    massumption
    mleft
    mleft
    refine sSeq_i (sForEW_i ?_)
    massumption
    refine forW_ix (ws := (errs (.str word) (.int hole) (.str name) thing (8 + hole)).map W.exv) (fun n ρ S => ∃ x9 x10 x11 : Option W, ρ = [some (.val (.scr ns)), some (.ref 0), some (.val d), some (.val (.str name)), some (.val thing), some (.lsw ((errs (.str word) (.int hole) (.str name) thing (8 + hole)).map W.exv)), x6, some (.val (.str word)), some (.val (.int hole)), x9, x10, x11] ∧ S = [p4]) ?_ ?_ 13 0 _ _ rfl ⟨_, _, _, rfl, rfl⟩
    · rintro ρ S ⟨x9, x10, x11, rfl, rfl⟩
      mleft
      refine ixlF_i rfl ?_
      massumption
      refine ⟨by decide, ?_⟩
      massumption
      refine ixlF_i rfl ?_
      massumption
      refine ⟨by decide, ?_⟩
      massumption
      refine ixlF_i rfl ?_
      massumption
      refine ⟨by decide, ?_⟩
      massumption
      refine ixlF_i rfl ?_
      massumption
      refine ⟨by decide, ?_⟩
      massumption
      refine ixlF_i rfl ?_
      massumption
      refine ⟨by decide, ?_⟩
      massumption
      have nh : Nice 1 (.int hole) := by
        unfold Nice
        have : hole = 0 ∨ hole = 1 ∨ hole = 2 ∨ hole = 3 := by omega
        rcases this with rfl | rfl | rfl | rfl <;> decide
      have n8 : Nice 1 (.int (8 + hole)) := by
        unfold Nice
        have : hole = 0 ∨ hole = 1 ∨ hole = 2 ∨ hole = 3 := by omega
        rcases this with rfl | rfl | rfl | rfl <;> decide
      have na : Nice 2 (.lst [.int hole, thing, .str name, .str name, .int (8 + hole)]) := by
        unfold Nice
        refine ⟨by show 5 < sizeLine; decide, fun x hx => ?_⟩
        simp only [List.mem_cons, List.not_mem_nil, or_false] at hx
        rcases hx with rfl | rfl | rfl | rfl | rfl
        · exact nh
        · exact nt
        · exact nn
        · exact nn
        · exact n8
      refine call_0 rfl (same_ok 2 _ _ na ?_ 40 (by omega)) (m__law_same 40)
      massumption
      exact hK _ _ ⟨j + 1, _, _, _, _, _, _, _, _, _, _, p4, rfl, rfl, hp4.mono (by omega), by omega⟩
    · rintro n w hw ρ S K2 hK2 ⟨x9, x10, x11, rfl, rfl⟩
      rw [List.getElem?_map] at hw
      obtain ⟨e, he, rfl⟩ := Option.map_eq_some_iff.mp hw
      have hx := errs_nth he
      have hn := xns_in hx
      mleft
      refine t_kinds hn ?_
      massumption
      rw [rangeL0]
      refine lc_map natD (fun j => .bl (j == n)) (List.range (Int.toNat 13)) (by decide) (fun y hy acc K3 ha k1 => ?_) ?_
      · unfold natD
        massumption
        refine lcput_i ha ?_
        have e2 : decide ((y : Int) = (n : Int)) = (y == n) := by
          by_cases z : y = n
          · subst z
            simp
          · rw [decide_eq_false (by omega)]
            exact (beq_eq_false_iff_ne.mpr z).symm
        rw [e2, show ((y == n) != false) = (y == n) by cases (y == n) <;> rfl]
        exact k1
      · have e3 : (List.range (Int.toNat 13)).map (fun j => D.bl (j == n)) = xns.map fun y => D.bl (e.1 == y) := by
          have z := congrArg (List.map D.bl) (kinds_at hx)
          rw [List.map_map, List.map_map] at z
          exact z.symm
        rw [e3]
        have na : Nice 1 (.lst (xns.map fun y => D.bl (e.1 == y))) := by
          unfold Nice
          refine ⟨by rw [List.length_map]; decide, fun x hx => ?_⟩
          obtain ⟨y, _, rfl⟩ := List.mem_map.mp hx
          trivial
        massumption
        refine call_0 rfl (same_ok 1 _ _ na ?_ 40 (by omega)) (m__law_same 40)
        massumption
        exact hK2 _ _ ⟨_, _, _, rfl, rfl⟩
end Fo
/-! The end. Printed by gen.py. -/
theorem PySem.Challenge.cw_foeholes_k14_refusals_made_by_hand_holds : PySem.Challenge.rw_foeholes_k14_refusals_made_by_hand.Holds := by
  exact PySem.Challenge.cw_foeholes_k14_refusals_made_by_hand_from Fo.law_true14
