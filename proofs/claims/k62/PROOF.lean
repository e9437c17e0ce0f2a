import PyProof.Rows.All
import Wide.All
import OpenK.AllK
import Wide.FinOn
import KE.KStateDown
import Lean
import HandS.ForMost
import HandS.Wide
import HandS.Defaults
import HandS.FStr
import HandS.Flow
import HandS.Conv
import HandS.Zip
import HandS.Head0
import HandS.Head1
import HandS.Head2
import HandS.HeadEnd
import HandS.HeadHook1
import HandS.HeadHook2
import HandS.SortRule
import HandS.Walk
import PySem.Challenge.RW_importorder_k62_formatted_projects
set_option Elab.async false
set_option linter.all false
set_option maxRecDepth 100000
set_option maxHeartbeats 4000000
/-! GL: own layer over the hand layer: defs that are run where no repr is under way (FnG), repr of data, great powers. -/
namespace GL
open PySem PySem.Spec PyProof.Rows L2

section
variable {X : Cx}
/-- a power of any base, the product of bits and exponent below 2 ^ 27 -/
def CPowW (i j : Int) : Prop := 0 ≤ j ∧ (Builtin.Int.intBits i : Int) * j ≤ 2 ^ 27
theorem op_powW : OpR X (binaryOp .Pow) (rI CPowW fun i j => .int (i ^ j.toNat)) :=
  opI fun _ _ _ _ _ _ _ hc q => pow_int hc.1 hc.2 q

/-- what repr asks of one datum -/
def rRepr (K : PySem.W.Frag) : List V → Hp → VK → Prop := fun xs H Q =>
  ∃ v d, xs = [v] ∧ Dp K H v d ∧ d.showable = true ∧ d.hasDict = false ∧ d.shown.length ≤ sizeLine ∧ d.depth ≤ 60 ∧ Q (.str d.shown) H

theorem call_repr (hg : X.A.guards = some []) (hu : X.A.units + 64 < cLine) : CallR X (.builtin "repr") (rRepr X.K) := by
  intro pins s σ H vs us Q I r h
  obtain ⟨v, d, rfl, hd, h1, h2, h3, h4, q⟩ := h
  cases r with
  | cons rv rn =>
    cases rn
    rename_i u
    obtain ⟨as, hr⟩ := Dp.reads I d v u hd rv
    have fin : ∀ (h' : Heap) (t : Tok) (tk : Nat), (∀ b o, s.heap.get? b = some o → h'.get? b = some o) → EP X pins σ Q (.str d.shown t) { s with heap := h', toks := tk } :=
      fun h' t tk k => ⟨.str d.shown, H, I.kept k, ⟨t, rfl⟩, q⟩
    cases hr with
    | none =>
      simp only [PyData.shown] at fin
      exact PySem.P.repr_of_none (fin s.heap _ _ fun _ _ e => e)
    | bool b =>
      simp only [PyData.shown] at fin
      exact PySem.P.repr_of_bool (fin s.heap _ _ fun _ _ e => e)
    | int i t =>
      simp only [PyData.shown] at fin
      exact PySem.P.repr_of_int (by simpa [PyData.showable] using h1) (fin s.heap _ _ fun _ _ e => e)
    | str x t =>
      simp only [PyData.shown] at fin h3
      exact PySem.P.repr_of_str (fin s.heap _ _ fun _ _ e => e) h3
    | list a1 a2 a3 a4 => exact repr_of_reads' (Reads.list a1 a2 a3 a4) h1 (PyData.noDict_hsm h2) hg (by omega) (fun _ _ e => e) (fun h' t tk k => fin h' t tk k) h3
    | tuple a1 a2 a3 a4 => exact repr_of_reads' (Reads.tuple a1 a2 a3 a4) h1 (PyData.noDict_hsm h2) hg (by omega) (fun _ _ e => e) (fun h' t tk k => fin h' t tk k) h3
    | dict a1 a2 a3 a4 a5 => simp [PyData.hasDict] at h2
end

/-- a def's promise where no guard of repr is under way -/
structure FnG (P : Program) (w : World) (K : PySem.W.Frag) (mg : Str → Option Value) (base : Heap) (CX : CXT) (k : Nat) (f : Addr) (fd : FuncData) (ps : List Str) (sp : Sp) : Prop where
  len : ∀ vs H Q E, sp vs H Q E → vs.length = ps.length
  run : ∀ (A : Around) (outer : List Env) (s : Shared) (H : Hp) (args : Args) (us : List Value) (vs : List V) (Q : VK) (E : XK), A.guards = some [] → Room k A →
    Env0 P w K mg base A outer s H → BindsTo s fd args (ps.zip us) → Vals vs us → sp vs H Q E →
    codeAny (model P w) A (.call (.ref f) args) (CR CX outer P w H s Q E) s

section
variable {P : Program} {w : World} {K : PySem.W.Frag} {mg : Str → Option Value} {base : Heap} {CX : CXT} {k j : Nat} {f : Addr} {fd : FuncData} {ps : List Str} {sp : Sp}
theorem FnG.of (F : FnOk P w K mg base CX k f fd ps sp) : FnG P w K mg base CX k f fd ps sp :=
  ⟨F.len, fun A outer s H args us vs Q E _ hr => F.run A outer s H args us vs Q E hr⟩
theorem FnG.mono (F : FnG P w K mg base CX j f fd ps sp) (h : j ≤ k) : FnG P w K mg base CX k f fd ps sp :=
  ⟨F.len, fun A outer s H args us vs Q E hg hr => F.run A outer s H args us vs Q E hg (hr.mono h)⟩

theorem fnG_of {name qual : Str} {params : Arguments} {body : List Stmt} {scope : Scope} {dV kV doc pm cdv ct oc : Value} {an od : Option Addr} {osl : Array (Option Value)} {N : List Str}
    (lk : K.lookup f = some ⟨oc, od, .func (PySem.W.fnOf name qual params body scope dV kV doc pm an cdv ct), osl⟩) (hcd : PySem.W.codeIn K cdv qual = true) (S : FnScope N ps scope)
    (len : ∀ vs H Q E, sp vs H Q E → vs.length = ps.length)
    (hb : ∀ (A : Around) (outer : List Env) (s : Shared) (H : Hp) (vs : List V) (Q : VK) (E : XK), A.guards = some [] → Room k (A.deeper (envOfC qual scope s.heap.objs.size f cdv)) → sp vs H Q E →
      ∃ t, PSs (cxOf CX P w K mg base N qual scope f cdv A outer s H E) body t ∧ t { nx := fun _ H' => Q .non H', rt := Q } (start N vs) H) :
    FnG P w K mg base CX (k + 1) f (PySem.W.fnOf name qual params body scope dV kV doc pm an cdv ct) ps sp := by
  constructor
  · exact len
  intro A outer s H args us vs Q E hg hr e0 hbd r hsp
  have old : ∀ b o, base.get? b = some o → s.heap.get? b = some o := fun b o e => (e0.bs b o e).1
  have KX : K.In s.heap := e0.mod.kin.keeps old
  refine codeAny_call_function hr.depth (KX _ _ lk) rfl S.co S.gen rfl (PySem.W.codeRec_of KX hcd) (hbd _ _ _ _ ?_)
  refine wpAny_newFunctionEnv_cells S.kind ?_ fun env he s1 x => ?_
  · rintro ⟨n, v⟩ hy
    have q := S.par n (List.of_mem_zip hy).1
    exact q.imp_right fun q => ⟨q, PySem.W.cellsFrom_some _ _ _ (.inl q)⟩
  subst he
  refine ⟨(e0.mod.nolimit.keeps old).keeps x.toInCall.keep, codeAny_func ?_⟩
  obtain ⟨t, ht, hq⟩ := hb A outer s H vs Q E hg (hr.deeper _) hsp
  have I := inv_start (CX := CX) (E := E) S hr.hd e0 (len _ _ _ _ hsp) r x
  refine wpAny_mono (ht.run [] s1 (start N vs) H _ I hq) (fun fl s' hs => ?_) fun _ _ z => z
  cases fl with
  | ret u =>
    obtain ⟨v, σ', H', J, rv, q⟩ := hs
    exact ⟨v, H', J.os, J.bare, J.base, J.hok, rv, q⟩
  | next =>
    obtain ⟨σ', H', J, q⟩ := hs
    exact ⟨.non, H', J.os, J.bare, J.base, J.hok, rfl, q⟩
  | brk => exact hs.elim fun _ z => z.elim fun _ z => z.2.elim
  | cont => exact hs.elim fun _ z => z.elim fun _ z => z.2.elim
end

section
variable {X : Cx} {CX : CXT} {k : Nat} {f : Addr} {fd : FuncData} {ps : List Str} {sp : Sp} {dvs : List V} {ds : List Value} {E : XK} {x : Str} {p pos : Pos} {e : Expr} {es : List Expr} {t : TA}
/-- f(e, ..) of a def that is run where no repr is under way -/
theorem pe_callG (F : FnG X.prog X.w X.K X.mg X.base CX k f fd ps sp) (hgd : X.A.guards = some []) (hr : Room k X.A) (hg : Gl X x) (hm : X.mg x = some (.ref f)) (hk : PySem.W.keepIn X.K (.ref f) = true) (hb : Binds X.K fd ps ds) (hd : Vals dvs ds)
    (hx : Passes CX X E) (ha : PA X (e :: es) t) (hdb : (x == ("__debug__" : Str)) = false := by decide) (he : starEach (e :: es) X.env = (false, eval e X.env) :: starEach es X.env := by rfl)
    (hpl : (backTo pos (starEach es X.env)).any (·.1) = false := by rfl) : PE X (.Call (.Name x p) (e :: es) [] pos) (tCall sp dvs E t) := by
  constructor
  intro pins s σ H Q I h
  refine wpAny_Call_Name_kw (ld_glob I hg hm ?_ hdb)
  refine PySem.W.callWith_K (h₀ := X.base) I.ok.mod.kin hk (thn (ha.run pos pins s σ H _ I h) ?_) he hpl
  rintro us s1 ⟨vs, H1, I1, r, q⟩
  refine ⟨I1.kIn, ?_⟩
  have r2 : Vals (vs ++ dvs) (us ++ ds) := r.append hd
  have hl : (us ++ ds).length = ps.length := r2.length ▸ F.len _ _ _ _ q
  refine wpAny_call (codeAny_mono (F.run X.A X.stack s1 H1 ⟨us, []⟩ (us ++ ds) (vs ++ dvs) Q E hgd hr I1.env0 (hb s1 us I1.kIn hl) r2 q) ?_)
  rintro (e | fl) s' hq
  · exact hx pins σ H1 s1 e s' I1 hq
  · cases fl with
    | ret u => exact I1.after hq
    | next => exact hq.elim
    | brk => exact hq.elim
    | cont => exact hq.elim
end
end GL

set_option Elab.async false
set_option linter.all false
set_option maxRecDepth 100000
set_option maxHeartbeats 4000000
/-! GE: the end of a law row over FnG. -/
namespace GL
open PySem PySem.Spec PyProof.Rows L2
section
variable {P : Program} {w : World} {K : PySem.W.Frag} {mg mb : Str → Option Value} {k : Nat} {fa a : Addr} {fd : FuncData} {x : Str} {sp : Sp} {s₁ : Shared} {vs : List Value} {ns : List Int}
/-- the call from an abstract heap in which at most the script is tracked -/
theorem lawG_core (KX : K.In s₁.heap) (hns : s₁.heap.Ns mainGlobals mg) (hb : s₁.heap.Ns builtinsNs mb) (hbb : ∀ x : Str, x ≠ "__name__" → mb x = bootBuiltins x) (hlim : s₁.heap.NoLimit) (hg : s₁.gens = #[])
    (ha : s₁.heap.get? a = some { cls := .type "list", data := .seq vs.toArray }) (hr : Room k callerA)
    (F : ∀ base : Heap, K.In base → base.Ns mainGlobals mg → FnG P w K mg base CX0 k fa fd [x] sp) (hbind : ∀ (s : Shared) (u : Value), BindsTo s fd ⟨[u], []⟩ [(x, u)])
    (H : Hp) (hO : Only H) (hok : HOk P w H s₁.heap) (hA : ∀ b, H b ≠ none → b = a) (hK : H a ≠ none → K.lookup a = none) (hsp : sp [.ref a] H (fun v _ => v = .bl true) fun _ _ _ => False) :
    codeAny (model P w) callerA (.call (.ref fa) ⟨[.ref a], []⟩) (fun r s' => r = .ok (.ret (.bool true)) ∧ OldK s₁.heap s'.heap ∧ s'.os = s₁.os ∧ AllBare s'.gens) s₁ := by
  have only : ∀ {b : Addr}, b ≠ a → H b = none := fun {b} ne => Classical.byContradiction fun z => ne (hA b z)
  have nsK : ∀ {b : Addr} {m : Str → Option Value}, s₁.heap.Ns b m → (hidT s₁.heap H).Ns b m := by
    rintro b m ⟨o, es, ep, e, d, r⟩
    refine ⟨o, es, ep, hidT_get e (only ?_), d, r⟩
    rintro rfl
    rw [ha] at e
    cases e
    cases (show Data.seq vs.toArray _ = Data.dict es ep from d)
  have hKb : K.In (hidT s₁.heap H) := by
    intro b o e
    refine hidT_get (KX b o e) (Classical.byContradiction fun z => ?_)
    have eb := hA b z
    subst eb
    rw [hK z] at e
    cases e
  have hM : Mod K mg (hidT s₁.heap H) := ⟨hKb, nsK hns, ⟨mb, nsK hb, hbb⟩, let ⟨mc, h1, h2⟩ := hlim; ⟨mc, nsK h1, h2⟩⟩
  have nil : ∀ b : Addr, b ∉ frs [] := fun b z => by cases z
  have e0 : Env0 P w K mg (hidT s₁.heap H) callerA [] s₁ H :=
    { frames := rfl, mod := hM, bs := fun b o e => of_hidT e, bsz := Nat.le_of_eq (hidT_size _ _), funs := trivial, frf := fun b hb => (nil b hb).elim, hok := hok, bare := .of_eq hg }
  have R := (F _ hKb (nsK hns)).run callerA [] s₁ H ⟨[.ref a], []⟩ [.ref a] [.ref a] _ _ rfl hr e0 (hbind s₁ (.ref a)) (.cons rfl .nil) hsp
  refine codeAny_mono R ?_
  rintro (e | fl) s' h
  · exact h.elim
  cases fl with
  | next => exact h.elim
  | brk => exact h.elim
  | cont => exact h.elim
  | ret u =>
    obtain ⟨v, H', os, bare, un, hok', r', rfl⟩ := h
    obtain rfl : u = Value.bool true := r'
    refine ⟨rfl, OldK.of_keep fun b o e => ?_, os, bare⟩
    rcases hO b with q | ⟨ob, xs, q⟩
    · exact un.keep b o e q (nil b) (by simp)
    · have e2 := (hok' b _ (un.frzs b ob _ q)).1
      have e1 := (hok b _ q).1
      rw [e] at e1
      cases e1
      exact e2
theorem lawG_call (KX : K.In s₁.heap) (hns : s₁.heap.Ns mainGlobals mg) (hb : s₁.heap.Ns builtinsNs mb) (hbb : ∀ x : Str, x ≠ "__name__" → mb x = bootBuiltins x) (hlim : s₁.heap.NoLimit) (hg : s₁.gens = #[])
    (ha : s₁.heap.get? a = some { cls := .type "list", data := .seq vs.toArray }) (hi : IntsAre vs ns) (hl : ns.length ≤ sizeLine) (hr : Room k callerA)
    (F : ∀ base : Heap, K.In base → base.Ns mainGlobals mg → FnG P w K mg base CX0 k fa fd [x] sp) (hbind : ∀ (s : Shared) (u : Value), BindsTo s fd ⟨[u], []⟩ [(x, u)])
    (hsp : ∀ H : Hp, Only H → SqL K H a (ns.map V.int) → sp [.ref a] H (fun v _ => v = .bl true) fun _ _ _ => False) :
    codeAny (model P w) callerA (.call (.ref fa) ⟨[.ref a], []⟩) (fun r s' => r = .ok (.ret (.bool true)) ∧ OldK s₁.heap s'.heap ∧ s'.os = s₁.os ∧ AllBare s'.gens) s₁ := by
  have rv := vals_ints hi
  have core := lawG_core KX hns hb hbb hlim hg ha hr F hbind
  cases hk : K.lookup a with
  | some o =>
    have e := KX a o hk
    rw [ha] at e
    cases e
    have sq : SqL K (fun _ => none) a (ns.map V.int) := .inr ⟨_, vs.toArray, _, hk, rfl, rfl, rfl, by rw [List.size_toArray, hi.length]; exact hl, by simpa using rv⟩
    exact core _ (fun _ => .inl rfl) (fun b u z => by cases (show (none : Option HO) = some u from z)) (fun b z => absurd rfl z) (fun z => absurd rfl z) (hsp _ (fun _ => .inl rfl) sq)
  | none =>
    generalize eH : (fun b => if b = a then some (HO.frz { cls := .type "list", data := .seq vs.toArray } (.lst (ns.map V.int))) else none : Hp) = H
    have h1 : H a = some (HO.frz { cls := .type "list", data := .seq vs.toArray } (.lst (ns.map V.int))) := by rw [← eH]; exact if_pos rfl
    have h2 : ∀ b, b ≠ a → H b = none := fun b n => by rw [← eH]; exact if_neg n
    have hO : Only H := fun b => (Classical.em (b = a)).elim (fun e => .inr ⟨_, _, e ▸ h1⟩) fun n => .inl (h2 b n)
    refine core H hO (fun b u z => ?_) (fun b z => Classical.byContradiction fun n => z (h2 b n)) (fun _ => hk) (hsp H hO (.inl (.inr ⟨_, h1⟩)))
    by_cases e : b = a
    · subst e
      rw [h1] at z
      cases z
      exact ⟨ha, by rw [List.length_map]; exact hl, vs, _, rv, ha⟩
    · rw [h2 b e] at z
      cases z
end
/-- a law, by the promise of its def where no repr is under way -/
theorem walk_ofG {l : PySem.W.OpenLaw} {n k : Nat} {q : Program} {loose : List Str} {XP : (Str → Option Value) → Heap → Prop} {YP : World → Heap → Prop} {d : DefRec} {x : Str}
    (hn : l.most = some n) (hn2 : n ≤ sizeLine) (hdf : d.params.defaults = []) (hr : Room k callerA)
    (F : ∀ (w : World) (mg : Str → Option Value) (fa : Addr) (h : Heap), YP w h → h.Ns mainGlobals mg → mg d.name = some (.ref fa) →
      ∃ (K : PySem.W.Frag) (fd : FuncData) (sp : Sp), K.In h ∧ (∀ (s : Shared) (u : Value), BindsTo s fd ⟨[u], []⟩ [(x, u)]) ∧
        (∀ (H : Hp) (a : Addr) (ns : List Int), ns.length ≤ n → Only H → SqL K H a (ns.map V.int) → sp [.ref a] H (fun v _ => v = .bl true) fun _ _ _ => False) ∧
        ∀ base : Heap, K.In base → base.Ns mainGlobals mg → FnG l.prog w K mg base CX0 k fa fd [x] sp) :
    PySem.W.WalkO q loose XP YP l.row.toRowW d [] (fun f vs => PySem.call f vs) := by
  refine Att.attach_call hn hdf ?_
  intro w s₀ s₁ mg mb fa o pm cd doc a vs ns G Y ho hd hcd hmg hobj hints hlen hg
  obtain ⟨K, fd, sp, KX, hb, hsp, hF⟩ := F w mg fa _ Y G.T.g hmg
  exact lawG_call KX G.T.g G.T.b G.T.builtins G.T.nolimit hg hobj hints (Nat.le_trans hlen hn2) hr hF hb fun H hO hS => hsp H a ns hlen hO hS
end GL

set_option Elab.async false
set_option linter.all false
set_option maxRecDepth 100000
set_option maxHeartbeats 4000000
/-! GB: heaps that keep what they hold but at some places; the source of draws. -/
namespace GL
open PySem PySem.Spec PyProof.Rows L2
/-- all that H tracks stands in H', but at the places of S -/
def Keep (S : List Addr) (H H' : Hp) : Prop := ∀ b o, b ∉ S → H b = some o → H' b = some o
theorem Keep.refl {S : List Addr} {H : Hp} : Keep S H H := fun _ _ _ e => e
theorem Keep.trans {S : List Addr} {H H1 H2 : Hp} (a : Keep S H H1) (b : Keep S H1 H2) : Keep S H H2 := fun x o n e => b x o n (a x o n e)
theorem Keep.mono {S T : List Addr} {H H' : Hp} (k : Keep S H H') (h : ∀ b ∈ S, b ∈ T) : Keep T H H' := fun b o n e => k b o (fun z => n (h b z)) e
theorem Keep.of0 {T : List Addr} {H H' : Hp} (k : Keep [] H H') : Keep T H H' := k.mono fun _ z => nomatch z
theorem Keep.new {S : List Addr} {H : Hp} {p : Addr} {o : HO} (h : H p = none) : Keep S H (upd H p o) := fun b u _ e => by
  rw [upd_ne (ne_of_none e h)]
  exact e
/-- a place of S, or one that H does not know, is written -/
theorem Keep.put {S : List Addr} {H H1 : Hp} {p : Addr} {o : HO} (k : Keep S H H1) (h : p ∈ S ∨ H p = none) : Keep S H (upd H1 p o) := fun b u n e => by
  rw [upd_ne ?_]
  · exact k b u n e
  · rintro rfl
    rcases h with h | h
    · exact n h
    · rw [h] at e
      cases e
/-- fresh behind is fresh ahead -/
theorem Keep.back {S : List Addr} {H H' : Hp} {p : Addr} (k : Keep S H H') (n : p ∉ S) (h : H' p = none) : H p = none := by
  cases e : H p with
  | none => rfl
  | some o =>
    rw [k p o n e] at h
    cases h
theorem Keep.rd {S : List Addr} {H H' : Hp} {a : Addr} {u : HO} (k : Keep S H H') (n : a ∉ S) (h : Rd H a u) : Rd H' a u :=
  h.elim (fun e => .inl (k a _ n e)) fun ⟨o, e⟩ => .inr ⟨o, k a _ n e⟩
theorem Keep.sql {S : List Addr} {K : PySem.W.Frag} {H H' : Hp} {a : Addr} {xs : List V} (k : Keep S H H') (n : a ∉ S) (h : SqL K H a xs) : SqL K H' a xs := h.imp (k.rd n) id
theorem Keep.sqt {S : List Addr} {K : PySem.W.Frag} {H H' : Hp} {a : Addr} {xs : List V} (k : Keep S H H') (n : a ∉ S) (h : SqT K H a xs) : SqT K H' a xs := h.imp (k.rd n) id
/-- tuples (and what is frozen) stay -/
def TKeep (H H' : Hp) : Prop := ∀ b, (∀ xs, H b = some (.tup xs) → H' b = some (.tup xs)) ∧ ∀ o u, H b = some (.frz o u) → H' b = some (.frz o u)
theorem TKeep.refl {H : Hp} : TKeep H H := fun _ => ⟨fun _ e => e, fun _ _ e => e⟩
theorem TKeep.trans {H H1 H2 : Hp} (a : TKeep H H1) (b : TKeep H1 H2) : TKeep H H2 := fun x => ⟨fun xs e => (b x).1 xs ((a x).1 xs e), fun o u e => (b x).2 o u ((a x).2 o u e)⟩
theorem Keep.tk {H H' : Hp} (k : Keep [] H H') : TKeep H H' := fun b => ⟨fun _ e => k b _ (fun z => nomatch z) e, fun _ _ e => k b _ (fun z => nomatch z) e⟩
theorem Keep.tk1 {H H' : Hp} {a : Addr} {xs : List V} (k : Keep [a] H H') (ha : H a = some (.lst xs)) : TKeep H H' := fun b => by
  have n : ∀ o, (o ≠ .lst xs) → H b = some o → b ∉ [a] := fun o z e m => by
    have : b = a := by simpa using m
    subst this
    rw [ha] at e
    exact z (Option.some.inj e).symm
  exact ⟨fun _ e => k b _ (n _ (by intro z; cases z) e) e, fun _ _ e => k b _ (n _ (by intro z; cases z) e) e⟩
theorem TKeep.rdT {H H' : Hp} {a : Addr} {xs : List V} (k : TKeep H H') (h : Rd H a (.tup xs)) : Rd H' a (.tup xs) :=
  h.elim (fun e => .inl ((k a).1 _ e)) fun ⟨o, e⟩ => .inr ⟨o, (k a).2 _ _ e⟩
theorem TKeep.sqt {K : PySem.W.Frag} {H H' : Hp} {a : Addr} {xs : List V} (k : TKeep H H') (h : SqT K H a xs) : SqT K H' a xs := h.imp k.rdT id
/-- a source of draws: the digits left, the seed, how many were drawn (at most N) -/
def Src (H : Hp) (a : Addr) (N : Nat) : Prop := ∃ g s n : Int, H a = some (.lst [.int g, .int s, .int n]) ∧ 0 ≤ g ∧ g < 10 ^ 300 ∧ 0 ≤ s ∧ s < 2305843009213693907 ∧ 0 ≤ n ∧ n ≤ N
theorem Src.mono {H : Hp} {a : Addr} {N M : Nat} (h : Src H a N) (l : N ≤ M) : Src H a M := by
  obtain ⟨g, s, n, e, h1, h2, h3, h4, h5, h6⟩ := h
  exact ⟨g, s, n, e, h1, h2, h3, h4, h5, by omega⟩
theorem Src.keep {S : List Addr} {H H' : Hp} {a : Addr} {N : Nat} (h : Src H a N) (k : Keep S H H') (n : a ∉ S) : Src H' a N := by
  obtain ⟨g, s, m, e, r⟩ := h
  exact ⟨g, s, m, k a _ n e, r⟩
theorem Src.tk {H H' : Hp} {a : Addr} {N : Nat} (h : Src H a N) (k : Keep [a] H H') : TKeep H H' := by
  obtain ⟨g, s, n, e, _⟩ := h
  exact k.tk1 e
/-! ### what the drawing helpers promise -/
def spStart (K : PySem.W.Frag) : Sp := fun vs H Q _ => ∃ (a : Addr) (ns : List Int) (k : Nat), vs = [.ref a, .int k] ∧ SqL K H a (ns.map V.int) ∧ k ≤ 63 ∧
  ∀ H' p, Keep [] H H' → H p = none → Src H' p 0 → Q (.ref p) H'
def spDraw : Sp := fun vs H Q _ => ∃ (a : Addr) (L : Int) (N : Nat), vs = [.ref a, .int L] ∧ Src H a N ∧ N ≤ 900000 ∧ 0 < L ∧ L ≤ 1000000 ∧
  ∀ H' r, Keep [a] H H' → Src H' a (N + 1) → 0 ≤ r → r < L → Q (.int r) H'
def spChoice (K : PySem.W.Frag) : Sp := fun vs H Q _ => ∃ (a b : Addr) (xs : List V) (N : Nat), vs = [.ref a, .ref b] ∧ Src H a N ∧ N ≤ 900000 ∧ SqL K H b xs ∧ b ≠ a ∧ xs ≠ [] ∧ xs.length ≤ 1000000 ∧
  ∀ (H' : Hp) (i : Nat) (v : V), Keep [a] H H' → Src H' a (N + 1) → xs[i]? = some v → Q v H'
def spMixed (K : PySem.W.Frag) : Sp := fun vs H Q _ => ∃ (a b : Addr) (xs : List V) (N : Nat), vs = [.ref a, .ref b] ∧ Src H a N ∧ N + xs.length ≤ 900000 ∧ (SqL K H b xs ∨ SqT K H b xs) ∧ b ≠ a ∧ xs.length ≤ 1000 ∧
  ∀ H' p ys, Keep [a] H H' → Src H' a (N + xs.length) → H p = none → H' p = some (.lst ys) → ys.Perm xs → Q (.ref p) H'
end GL

set_option Elab.async false
set_option linter.all false
set_option maxRecDepth 100000
set_option maxHeartbeats 4000000
/-! GP: readings that give one value and leave the heap as it is. -/
namespace GL
open PySem PySem.Spec PyProof.Rows L2
abbrev rAdd : R2 := rI0 fun i j => .int (i + j)
abbrev rSub : R2 := rI0 fun i j => .int (i - j)
abbrev rMul : R2 := rI CMul fun i j => .int (i * j)
abbrev rMulW : R2 := rI CMulW fun i j => .int (i * j)
abbrev rMod : R2 := rI (fun _ j => 0 < j) fun i j => .int (i % j)
abbrev rDiv : R2 := rI CDiv fun i j => .int (i / j)
abbrev rPow : R2 := rI CPow fun i j => .int (i ^ j.toNat)
abbrev rPowW : R2 := rI CPowW fun i j => .int (i ^ j.toNat)
abbrev rLt : R2 := rI0 fun i j => .bl (decide (i < j))
abbrev rLe : R2 := rI0 fun i j => .bl (decide (i ≤ j))
abbrev rGt : R2 := rI0 fun i j => .bl (decide (j < i))
abbrev rGe : R2 := rI0 fun i j => .bl (decide (j ≤ i))
abbrev rNeg : V → Hp → VK → Prop := rU fun i => .int (-i)
abbrev rAddS : R2 := fun x y H Q => ∃ i j, x = .str i ∧ y = .str j ∧ i.length + j.length ≤ sizeLine ∧ Q (.str (i ++ j)) H
abbrev rAbs : List V → Hp → VK → Prop := fun xs H Q => ∃ i, xs = [.int i] ∧ Q (.int (if i < 0 then -i else i)) H
abbrev rInt1 : List V → Hp → VK → Prop := fun xs H Q => (∃ i, xs = [.int i] ∧ Q (.int i) H) ∨ ∃ k, xs = [.bl k] ∧ Q (.int (if k then 1 else 0)) H
abbrev rMin2 : List V → Hp → VK → Prop := fun xs H Q => ∃ i j, xs = [.int i, .int j] ∧ Q (.int (if j < i then j else i)) H
abbrev rMax2 : List V → Hp → VK → Prop := fun xs H Q => ∃ i j, xs = [.int i, .int j] ∧ Q (.int (if j > i then j else i)) H
abbrev rListQ (K : PySem.W.Frag) : List V → Hp → VK → Prop := fun xs H Q => ∃ p ys, xs = [.ref p] ∧ (SqL K H p ys ∨ SqT K H p ys) ∧ ∀ l, H l = none → Q (.ref l) (upd H l (.lst ys))
abbrev rTupQ (K : PySem.W.Frag) : List V → Hp → VK → Prop := fun xs H Q => ∃ p ys, xs = [.ref p] ∧ ((SqL K H p ys ∧ ∀ l, H l = none → Q (.ref l) (upd H l (.tup ys))) ∨ (SqT K H p ys ∧ Q (.ref p) H))
abbrev rJoinQ (K : PySem.W.Frag) : V → List V → Hp → VK → Prop := fun x xs H Q => ∃ a p, ∃ ys : List Str, x = .str a ∧ xs = [.ref p] ∧ (SqL K H p (ys.map V.str) ∨ SqT K H p (ys.map V.str)) ∧ (ys.map (·.length)).sum + ys.length * a.length ≤ 16777216 ∧ Q (.str (Txt.join a ys)) H
abbrev tJn (ts : List TE) : TE := fun σ H Q => tJs ts Str.empty σ H fun out H1 => Q (.str out) H1
abbrev rLenQ (K : PySem.W.Frag) : List V → Hp → VK → Prop := fun xs H Q => ∃ p ys, xs = [.ref p] ∧ (SqL K H p ys ∨ SqT K H p ys) ∧ Q (.int ys.length) H
abbrev tLenQ (K : PySem.W.Frag) (t : TE) : TE := tCB (rLenQ K) (tCons t tNil)
def Pu (t : TE) (σ : L2.St) (H : Hp) (v : V) : Prop := ∀ Q : VK, Q v H → t σ H Q
def PuT (t : TT) (σ : L2.St) (H : Hp) (b : Bool) : Prop := ∀ Q : Bool → Hp → Prop, Q b H → t σ H Q
def PuA (t : TA) (σ : L2.St) (H : Hp) (vs : List V) : Prop := ∀ Q : List V → Hp → Prop, Q vs H → t σ H Q
def PuO (t : TO) (σ : L2.St) (H : Hp) (o : Option Int) : Prop := ∀ Q : Option Int → Hp → Prop, Q o H → t σ H Q
def PuR (r : R2) (x y : V) (H : Hp) (z : V) : Prop := ∀ Q : VK, Q z H → r x y H Q
def PuC (r : List V → Hp → VK → Prop) (vs : List V) (H : Hp) (z : V) : Prop := ∀ Q : VK, Q z H → r vs H Q
def PuM (r : V → List V → Hp → VK → Prop) (x : V) (vs : List V) (H : Hp) (z : V) : Prop := ∀ Q : VK, Q z H → r x vs H Q
section
variable {K : PySem.W.Frag} {σ : L2.St} {H : Hp} {ta tb te to : TE} {t u : TT} {x y z v : V} {r : R2} {tas : TA} {vs : List V} {D : Ends} {Q : VK}
theorem pu_var {i : Nat} (h : σ[i]? = some (some v)) : Pu (tVar i) σ H v := fun _ q => ⟨v, h, q⟩
theorem pu_c : Pu (tC v) σ H v := fun _ q => q
theorem pu_op (ha : Pu ta σ H x) (hb : Pu tb σ H y) (hr : PuR r x y H z) : Pu (tOp r ta tb) σ H z := fun Q q => ha _ (hb _ (hr Q q))
theorem pu_un {r : V → Hp → VK → Prop} (ha : Pu ta σ H x) (hr : ∀ Q : VK, Q z H → r x H Q) : Pu (tUn r ta) σ H z := fun Q q => ha _ (hr Q q)
theorem pur_i0 {g : Int → Int → V} {i j : Int} (e : g i j = z) : PuR (rI0 g) (.int i) (.int j) H z := fun _ q => ⟨i, j, rfl, rfl, e ▸ q⟩
theorem pur_i {C : Int → Int → Prop} {g : Int → Int → V} {i j : Int} (e : g i j = z) (hc : C i j) : PuR (rI C g) (.int i) (.int j) H z := fun _ q => ⟨i, j, rfl, rfl, hc, e ▸ q⟩
theorem puu_neg {i : Int} : ∀ Q : VK, Q (.int (-i)) H → rU (fun i => .int (-i)) (.int i) H Q := fun _ q => ⟨i, rfl, q⟩
theorem pur_eq (h : scal x y = true) : PuR rEq x y H (.bl (decide (x = y))) := fun _ q => ⟨h, q⟩
theorem pur_ne (h : scal x y = true) : PuR rNe x y H (.bl (!decide (x = y))) := fun _ q => ⟨h, q⟩
theorem pur_ixL {p : Addr} {xs : List V} {i : Int} (h : SqL K H p xs) (ha : atI xs i = some v) : PuR (rIxL K) (.ref p) (.int i) H v := fun _ q => ⟨p, xs, i, v, rfl, rfl, h, ha, q⟩
theorem pur_ixT {p : Addr} {xs : List V} {i : Int} (h : SqT K H p xs) (ha : atI xs i = some v) : PuR (rIxT K) (.ref p) (.int i) H v := fun _ q => ⟨p, xs, i, v, rfl, rfl, h, ha, q⟩
theorem pur_ixS {w : Str} {i : Int} {c : Nat} (h : w.length ≤ sizeLine) (ha : atI w.cps.toList i = some c) : PuR rIxS (.str w) (.int i) H (.str ⟨#[c]⟩) := fun _ q => ⟨w, i, c, rfl, rfl, h, ha, q⟩
theorem pur_str {a b : Str} (h : a.length + b.length ≤ sizeLine) : PuR rAddS (.str a) (.str b) H (.str (a ++ b)) := fun _ q => ⟨a, b, rfl, rfl, h, q⟩
theorem pu_cb {r : List V → Hp → VK → Prop} (ha : PuA tas σ H vs) (hr : PuC r vs H z) : Pu (tCB r tas) σ H z := fun Q q => ha _ (hr Q q)
theorem pua_nil : PuA tNil σ H [] := fun _ q => q
theorem pua_cons (ha : Pu ta σ H x) (hb : PuA tas σ H vs) : PuA (tCons ta tas) σ H (x :: vs) := fun _ q => ha _ (hb _ q)
theorem puc_lenL {p : Addr} {xs : List V} (h : SqL K H p xs) : PuC (rLenQ K) [.ref p] H (.int xs.length) := fun _ q => ⟨p, xs, rfl, .inl h, q⟩
theorem puc_lenT {p : Addr} {xs : List V} (h : SqT K H p xs) : PuC (rLenQ K) [.ref p] H (.int xs.length) := fun _ q => ⟨p, xs, rfl, .inr h, q⟩
theorem puc_abs {i : Int} : PuC rAbs [.int i] H (.int (if i < 0 then -i else i)) := fun _ q => ⟨i, rfl, q⟩
theorem puc_intB {k : Bool} : PuC rInt1 [.bl k] H (.int (if k then 1 else 0)) := fun _ q => .inr ⟨k, rfl, q⟩
theorem puc_min {i j : Int} : PuC rMin2 [.int i, .int j] H (.int (if j < i then j else i)) := fun _ q => ⟨i, j, rfl, q⟩
theorem puc_max {i j : Int} : PuC rMax2 [.int i, .int j] H (.int (if j > i then j else i)) := fun _ q => ⟨i, j, rfl, q⟩
theorem put_test {b : Bool} (h : Pu te σ H (.bl b)) : PuT (tTest te) σ H b := fun _ q => h _ ⟨b, rfl, q⟩
theorem put_B {b : Bool} (h : Pu te σ H (.bl b)) : PuT (tB te) σ H b := fun _ q => h _ ⟨b, rfl, q⟩
theorem put_not {b : Bool} (h : PuT t σ H b) : PuT (tNot t) σ H (!b) := fun _ q => h _ q
theorem put_and {a b : Bool} (h1 : PuT t σ H a) (h2 : a = true → PuT u σ H b) : PuT (tAnd t u) σ H (a && b) := fun Q q => h1 _ (by
  cases a with
  | true => exact h2 rfl Q q
  | false => exact q)
theorem put_or {a b : Bool} (h1 : PuT t σ H a) (h2 : a = false → PuT u σ H b) : PuT (tOr t u) σ H (a || b) := fun Q q => h1 _ (by
  cases a with
  | true => exact q
  | false => exact h2 rfl Q q)
theorem pu_andV {a b : Bool} (h1 : Pu ta σ H (.bl a)) (h2 : a = true → Pu tb σ H (.bl b)) : Pu (tAndV ta tb) σ H (.bl (a && b)) := fun Q q => h1 _ ⟨a, rfl, by
  cases a with
  | true => exact h2 rfl Q q
  | false => exact q⟩
theorem pu_orV {a b : Bool} (h1 : Pu ta σ H (.bl a)) (h2 : a = false → Pu tb σ H (.bl b)) : Pu (tOrV ta tb) σ H (.bl (a || b)) := fun Q q => h1 _ ⟨a, rfl, by
  cases a with
  | true => exact q
  | false => exact h2 rfl Q q⟩
theorem pu_notV {a : Bool} (h1 : Pu ta σ H (.bl a)) : Pu (tNotV ta) σ H (.bl (!a)) := fun Q q => h1 _ ⟨a, rfl, q⟩
theorem pu_if {b : Bool} (h : PuT t σ H b) (h1 : b = true → Pu ta σ H v) (h2 : b = false → Pu tb σ H v) : Pu (tIf t ta tb) σ H v := fun Q q => h _ (by
  cases b with
  | true => exact h1 rfl Q q
  | false => exact h2 rfl Q q)
theorem pu_is {w : V} (h : Pu te σ H v) (e : v = w) : Pu te σ H w := e ▸ h
theorem put_is {a b : Bool} (h : PuT t σ H a) (e : a = b) : PuT t σ H b := e ▸ h
theorem puo_none : PuO tNoPart σ H none := fun _ q => q
theorem puo_some {i : Int} (h : Pu te σ H (.int i)) : PuO (tPart te) σ H (some i) := fun _ q => h _ ⟨i, rfl, q⟩
/-! ### statements -/
theorem su_asg {i : Nat} (h : Pu te σ H v) (k : D.nx (σ.set i (some v)) H) : tAsg te (gName i) D σ H := h _ k
theorem su_ret (h : Pu te σ H v) (k : D.rt v H) : tRet te D σ H := h _ k
theorem su_if {b : Bool} {tu tw : TS} (h : PuT t σ H b) (h1 : b = true → tu D σ H) (h2 : b = false → tw D σ H) : tIfS t tu tw D σ H := h _ (by
  cases b with
  | true => exact h1 rfl
  | false => exact h2 rfl)
theorem su_seq {tu tw : TS} (h : tu { D with nx := tw D } σ H) : tSeq tu tw D σ H := h
theorem sq_asg {i : Nat} {tw : TS} (h : Pu te σ H v) (k : tw D (σ.set i (some v)) H) : tSeq (tAsg te (gName i)) tw D σ H := h _ k
theorem sq_do {g : TG} {tw : TS} (h : te σ H fun x H1 => g x σ H1 (tw D)) : tSeq (tAsg te g) tw D σ H := h
theorem sq_doN {i : Nat} {tw : TS} (h : te σ H fun x H1 => tw D (σ.set i (some x)) H1) : tSeq (tAsg te (gName i)) tw D σ H := h
theorem sq_ret {tw : TS} (h : Pu te σ H v) (k : D.rt v H) : tSeq (tRet te) tw D σ H := h _ k
theorem sq_nx {tw : TS} (k : tw D σ H) : tSeq tNext tw D σ H := k
theorem sq_seq {t1 t2 t3 : TS} (k : tSeq t1 (tSeq t2 t3) D σ H) : tSeq (tSeq t1 t2) t3 D σ H := k
theorem sq_drop {tw : TS} (h : te σ H fun _ H1 => tw D σ H1) : tSeq (tDrop te) tw D σ H := h
theorem sq_if {b : Bool} {tu tv tw : TS} (h : PuT t σ H b) (h1 : b = true → tSeq tu tw D σ H) (h2 : b = false → tSeq tv tw D σ H) : tSeq (tIfS t tu tv) tw D σ H := h _ (by
  cases b with
  | true => exact h1 rfl
  | false => exact h2 rfl)
theorem sq_set {i : Nat} {tw : TS} {ti : TE} {rs : TSet} (h : Pu te σ H v) (ho : Pu to σ H x) (hi : Pu ti σ H y) (k : rs x y v H fun H3 => tw D σ H3) : tSeq (tAsg te (gSub to ti rs)) tw D σ H := h _ (ho _ (hi _ k))
theorem al_lst (h : PuA tas σ H vs) (hl : vs.length ≤ sizeLine) (k : ∀ p, H p = none → Q (.ref p) (upd H p (.lst vs))) : tLst tas σ H Q := h _ ⟨hl, k⟩
theorem al_tup (h : PuA tas σ H vs) (hl : vs.length ≤ sizeLine) (k : ∀ p, H p = none → Q (.ref p) (upd H p (.tup vs))) : tTup tas σ H Q := h _ ⟨hl, k⟩
theorem al_op (h : ta σ H fun x H1 => tb σ H1 fun y H2 => r x y H2 Q) : tOp r ta tb σ H Q := h
theorem al_opL {y : Addr → V} (h : PuA tas σ H vs) (hl : vs.length ≤ sizeLine) (hb : ∀ p, H p = none → Pu tb σ (upd H p (.lst vs)) (y p)) (k : ∀ p, H p = none → r (.ref p) (y p) (upd H p (.lst vs)) Q) : tOp r (tLst tas) tb σ H Q :=
  h _ ⟨hl, fun p hp => hb p hp _ (k p hp)⟩
theorem al_opV {i : Nat} (h : σ[i]? = some (some x)) (k : tb σ H fun y H2 => r x y H2 Q) : tOp r (tVar i) tb σ H Q := ⟨x, h, k⟩
theorem al_opP (h : Pu ta σ H x) (k : tb σ H fun y H2 => r x y H2 Q) : tOp r ta tb σ H Q := h _ k
theorem su_retE (h : te σ H D.rt) : tRet te D σ H := h
theorem al_bm {T : String} {rm : V → List V → Hp → VK → Prop} (h : Pu to σ H x) (ht : tyV K T x H) (k : tas σ H fun xs H2 => rm x xs H2 Q) : tBM K T rm to tas σ H Q := h _ ⟨ht, k⟩
theorem al_args (h : PuA tas σ H vs) {QA : List V → Hp → Prop} (k : QA vs H) : tas σ H QA := h _ k
theorem al_cons {tr : TA} {QA : List V → Hp → Prop} (h : te σ H fun x H1 => tr σ H1 fun xs H2 => QA (x :: xs) H2) : tCons te tr σ H QA := h
theorem al_call {sp : Sp} {dvs : List V} {E : XK} (h : PuA tas σ H vs) (k : sp (vs ++ dvs) H Q E) : tCall sp dvs E tas σ H Q := h _ k
theorem al_list {p : Addr} {xs : List V} (h : PuA tas σ H [.ref p]) (hs : SqL K H p xs ∨ SqT K H p xs) (k : ∀ l, H l = none → Q (.ref l) (upd H l (.lst xs))) :
    tCB (rListQ K) tas σ H Q := h _ ⟨p, xs, rfl, hs, k⟩
theorem al_tupL {p : Addr} {xs : List V} (h : PuA tas σ H [.ref p]) (hs : SqL K H p xs) (k : ∀ l, H l = none → Q (.ref l) (upd H l (.tup xs))) :
    tCB (rTupQ K) tas σ H Q := h _ ⟨p, xs, rfl, .inl ⟨hs, k⟩⟩
theorem sz {n : Nat} (h : n ≤ 1000000) : n ≤ sizeLine := Nat.le_trans h (by decide)
theorem szl {n : Nat} (h : n < 1000000) : n < sizeLine := Nat.lt_of_lt_of_le h (by decide)
end
/-! ### defs of the module by their names -/
structure Dn (P : Program) (w : World) (K : PySem.W.Frag) (mg : Str → Option Value) (base : Heap) (k : Nat) (x : Str) (sp : Sp) : Prop where
  ex : ∃ f fd ps, FnOk P w K mg base CX0 k f fd ps sp ∧ mg x = some (.ref f) ∧ PySem.W.keepIn K (.ref f) = true ∧ Binds K fd ps []
structure DnG (P : Program) (w : World) (K : PySem.W.Frag) (mg : Str → Option Value) (base : Heap) (k : Nat) (x : Str) (sp : Sp) : Prop where
  ex : ∃ f fd ps, FnG P w K mg base CX0 k f fd ps sp ∧ mg x = some (.ref f) ∧ PySem.W.keepIn K (.ref f) = true ∧ Binds K fd ps []
abbrev FnP (K : PySem.W.Frag) (x : Str) (st : Stmt) (f : Addr) (fd : FuncData) : Prop := FunD K x x (defArgs st) (defBody st) (defScope st) [] [] f fd
/-- the built-in names that the texts use are the built-ins -/
structure Bl (mg : Str → Option Value) : Prop where
  len : mg "len" = none
  abs : mg "abs" = none
  int : mg "int" = none
  list : mg "list" = none
  tuple : mg "tuple" = none
  range : mg "range" = none
  min : mg "min" = none
  max : mg "max" = none
  sorted : mg "sorted" = none
  enumerate : mg "enumerate" = none
  zip : mg "zip" = none
  repr : mg "repr" = none
  all : mg "all" = none
  any : mg "any" = none
  set : mg "set" = none
  str : mg "str" = none
  bool : mg "bool" = none
  dict : mg "dict" = none
  sum : mg "sum" = none
  reversed : mg "reversed" = none
  isinstance : mg "isinstance" = none
section
variable {X : Cx} {j k : Nat} {sp : Sp} {x : Str} {p pos : Pos} {e : Expr} {es : List Expr} {t : TA}
theorem pe_d (d : Dn X.prog X.w X.K X.mg X.base j x sp) (hr : Room k X.A) (ha : PA X (e :: es) t) (hj : j ≤ k := by decide) (hg : Gl X x := by rfl) (hdb : (x == ("__debug__" : Str)) = false := by decide)
    (he : starEach (e :: es) X.env = (false, eval e X.env) :: starEach es X.env := by rfl) (hpl : (backTo pos (starEach es X.env)).any (·.1) = false := by rfl) : PE X (.Call (.Name x p) (e :: es) [] pos) (tCall sp [] E0 t) := by
  obtain ⟨f, fd, ps, F, hm, hk, hb⟩ := d.ex
  exact pe_call F (hr.mono hj) hg hm hk hb .nil pass0 ha hdb he hpl
theorem pe_dG (d : DnG X.prog X.w X.K X.mg X.base j x sp) (hG : X.A.guards = some []) (hr : Room k X.A) (ha : PA X (e :: es) t) (hj : j ≤ k := by decide) (hg : Gl X x := by rfl) (hdb : (x == ("__debug__" : Str)) = false := by decide)
    (he : starEach (e :: es) X.env = (false, eval e X.env) :: starEach es X.env := by rfl) (hpl : (backTo pos (starEach es X.env)).any (·.1) = false := by rfl) : PE X (.Call (.Name x p) (e :: es) [] pos) (tCall sp [] E0 t) := by
  obtain ⟨f, fd, ps, F, hm, hk, hb⟩ := d.ex
  exact pe_callG F hG (hr.mono hj) hg hm hk hb .nil pass0 ha hdb he hpl
/-- a text, an int of the module -/
theorem pe_gs {z : Str} (h : ∃ t, X.mg x = some (.str z t)) (hg : Gl X x := by rfl) (hdb : (x == ("__debug__" : Str)) = false := by decide) : PE X (.Name x pos) (tC (.str z)) := by
  obtain ⟨t, h⟩ := h
  exact pe_glob hg h ⟨t, rfl⟩ hdb
theorem pe_gi {z : Int} (h : ∃ t, X.mg x = some (.int z t)) (hg : Gl X x := by rfl) (hdb : (x == ("__debug__" : Str)) = false := by decide) : PE X (.Name x pos) (tC (.int z)) := by
  obtain ⟨t, h⟩ := h
  exact pe_glob hg h ⟨t, rfl⟩ hdb
end
section
variable {P : Program} {w : World} {K : PySem.W.Frag} {mg : Str → Option Value} {base : Heap} {k : Nat} {x : Str} {st : Stmt} {f : Addr} {fd : FuncData} {N ps : List Str} {sp : Sp}
/-- a def by its body -/
theorem dn_of (F : FnP K x st f fd) (hm : mg x = some (.ref f)) (S : FnScope N ps (defScope st)) (len : ∀ vs H Q E, sp vs H Q E → vs.length = ps.length)
    (hb : ∀ (kV doc pm : Value) (an : Option Addr) (cdv ct : Value) (us : List Value), us.length = ps.length → bindArgs (PySem.W.fnOf x x (defArgs st) (defBody st) (defScope st) .none kV doc pm an cdv ct) ⟨us, []⟩ = pure (ps.zip us))
    (t : TS) (hbody : ∀ (cdv : Value) (A : Around) (outer : List Env) (s : Shared) (H : Hp) (E : XK), Room k (A.deeper (envOfC x (defScope st) s.heap.objs.size f cdv)) →
      PSs (cxOf CX0 P w K mg base N x (defScope st) f cdv A outer s H E).nox (defBody st) t)
    (hpure : ∀ vs H Q E, sp vs H Q E → t { nx := fun _ H' => Q .non H', rt := Q } (start N vs) H) : Dn P w K mg base (k + 1) x sp :=
  ⟨f, fd, ps, F.ok S len fun cdv A outer s H vs Q E hr h => ⟨t, (hbody cdv A outer s H E hr).nox, hpure vs H Q E h⟩, hm, F.kp, F.bindsN hb⟩
theorem dnG_of (F : FnP K x st f fd) (hm : mg x = some (.ref f)) (S : FnScope N ps (defScope st)) (len : ∀ vs H Q E, sp vs H Q E → vs.length = ps.length)
    (hb : ∀ (kV doc pm : Value) (an : Option Addr) (cdv ct : Value) (us : List Value), us.length = ps.length → bindArgs (PySem.W.fnOf x x (defArgs st) (defBody st) (defScope st) .none kV doc pm an cdv ct) ⟨us, []⟩ = pure (ps.zip us))
    (t : TS) (hbody : ∀ (cdv : Value) (A : Around) (outer : List Env) (s : Shared) (H : Hp) (E : XK), A.guards = some [] → Room k (A.deeper (envOfC x (defScope st) s.heap.objs.size f cdv)) →
      PSs (cxOf CX0 P w K mg base N x (defScope st) f cdv A outer s H E).nox (defBody st) t)
    (hpure : ∀ vs H Q E, sp vs H Q E → t { nx := fun _ H' => Q .non H', rt := Q } (start N vs) H) : DnG P w K mg base (k + 1) x sp := by
  refine ⟨f, fd, ps, ?_, hm, F.kp, F.bindsN hb⟩
  obtain ⟨oc, od, dV, kV, doc, pm, an, cdv, ct, osl, rfl, lk, hcd, _⟩ := F.ex
  exact fnG_of lk hcd S len fun A outer s H vs Q E hg hr h => ⟨t, (hbody cdv A outer s H E hg hr).nox, hpure vs H Q E h⟩
end
end GL

set_option Elab.async false
set_option linter.all false
set_option maxRecDepth 100000
set_option maxHeartbeats 4000000
/-! GS: sorted of tuples whose first items are different texts. -/
namespace GL
open PySem PySem.Spec PyProof.Rows L2
def sLt (a b : Str) : Bool := decide (a.cps.toList < b.cps.toList)
theorem sLt_swo {α : Type} (k : α → Str) : SrtO.Swo fun x y => sLt (k x) (k y) := by
  refine ⟨fun x y h => ?_, fun x y z h1 h2 => ?_⟩
  · have a : (k x).cps.toList < (k y).cps.toList := of_decide_eq_true h
    exact decide_eq_false fun b => List.lt_asymm a b
  · have a : ¬ (k y).cps.toList < (k x).cps.toList := of_decide_eq_false h1
    have b : ¬ (k z).cps.toList < (k y).cps.toList := of_decide_eq_false h2
    exact decide_eq_false (List.le_trans (l₁ := (k x).cps.toList) (l₂ := (k y).cps.toList) (l₃ := (k z).cps.toList) a b)
/-- a tuple that begins with the text z -/
def IsHead (h : Heap) (v : Value) (z : Str) : Prop := ∃ a o xs n t r, v = .ref a ∧ h.get? a = some o ∧ o.cls = .type "tuple" ∧ o.data = .seq xs n ∧ xs.toList = .str z t :: r
section
variable {prog : Program} {w : World} {A : Around} {s : Shared}
theorem kat_same {b fin : Bool} {Q : Bool → Shared → Prop} (h : Q fin s) : ∀ (r : List Value) (i : Nat), PySem.W.KatLex prog w A b fin Q (r.zip r) i s
  | [], _ => PySem.W.kat_nil h
  | v :: r, i => PySem.W.kat_cons (SeqAt.EqAt.same v prog w _ _ (PySem.W.kat_yes (kat_same h r (i + 1))))
theorem head_cmp {vs : List Value} {k : Value → Str} (hp : ∀ v ∈ vs, IsHead s.heap v (k v)) (inj : ∀ v ∈ vs, ∀ u ∈ vs, k v = k u → v = u) :
    SrtO.Cmp prog w A s (tuples' true) (fun p => p.1 ∈ vs) (SrtO.lt2 fun v u => sLt (k v) (k u)) := by
  intro p q hm hm'
  obtain ⟨a, o, xs, n, t, r, e, ho, hc, hd, hx⟩ := hp _ hm
  obtain ⟨a', o', xs', n', t', r', e', ho', hc', hd', hx'⟩ := hp _ hm'
  have same := inj _ hm _ hm'
  show wpAny (model prog w) A (keyLt' (tuples' true) p.1 q.1) (fun r s' => s' = s ∧ r = sLt (k p.1) (k q.1)) (fun _ _ => False) s
  generalize k p.1 = x at *
  generalize k q.1 = y at *
  by_cases hxy : x = y
  · have sm := same hxy
    rw [e, e'] at sm
    cases sm
    rw [ho] at ho'
    cases ho'
    rw [hd] at hd'
    cases hd'
    rw [e, e']
    refine PySem.W.kat_lt ho hd ho hd ?_
    refine kat_same ⟨rfl, ?_⟩ _ _
    rw [hxy]
    rw [decide_eq_false (Nat.lt_irrefl _)]
    exact (decide_eq_false (List.lt_irrefl _)).symm
  · rw [e, e']
    refine PySem.W.kat_lt ho hd ho' hd' ?_
    rw [hx, hx']
    refine PySem.W.kat_cons (SeqAt.EqAt.str_str x t y t' prog w _ _ ?_)
    rw [show (x == y) = false from by simpa using hxy]
    exact PySem.W.kat_no (oneLt_str ⟨rfl, rfl⟩)
theorem heads_of {h : Heap} {k : Value → Str} : ∀ {vs : List Value}, (∀ v ∈ vs, IsHead h v (k v)) → ∃ fs : List Value, PySem.W.KatTups h vs fs ∧ fs.length = vs.length ∧ ∀ f ∈ fs, ∃ x t, f = Value.str x t
  | [], _ => ⟨[], PySem.W.KatTups.nil, rfl, fun _ hm => by simp at hm⟩
  | v :: vs, hp => by
    obtain ⟨fs, h1, h2, h3⟩ := heads_of (vs := vs) fun u hm => hp u (List.mem_cons_of_mem _ hm)
    obtain ⟨a, o, xs, n, t, r, e, ho, hc, hd, hx⟩ := hp v List.mem_cons_self
    subst e
    have e0 : xs[0]? = some (Value.str (k (.ref a)) t) := by
      rw [← Array.getElem?_toList, hx]
      rfl
    refine ⟨.str (k (.ref a)) t :: fs, PySem.W.KatTups.cons ho hc hd e0 h1, by simp [h2], ?_⟩
    intro f hm
    rcases List.mem_cons.mp hm with rfl | hm
    · exact ⟨_, t, rfl⟩
    · exact h3 f hm
theorem heads_sortable {a : Addr} {vs : List Value} {k : Value → Str} (h0 : 0 < vs.length) (hp : ∀ v ∈ vs, IsHead s.heap v (k v)) (inj : ∀ v ∈ vs, ∀ u ∈ vs, k v = k u → v = u) (ha : ∀ o, s.heap.get? a = some o → o.cls ≠ .type "tuple") :
    SrtO.SortableO prog w A s a vs fun v u => sLt (k v) (k u) := by
  intro h' keep
  have hp' : ∀ v ∈ vs, IsHead h' v (k v) := fun v hm => by
    obtain ⟨b, o, xs, n, t, r, e, ho, hc, hd, hx⟩ := hp v hm
    exact ⟨b, o, xs, n, t, r, e, keep b o (fun z => by subst z; exact ha o ho hc) ho, hc, hd, hx⟩
  obtain ⟨fs, h1, h2, h3⟩ := heads_of hp'
  refine ⟨tuples' true, fun Q E hq => ?_, head_cmp hp' inj⟩
  refine PySem.W.kat_kind (T := .type "str") h1 (by omega) (fun f hm => ?_) (by rfl) ?_
  · obtain ⟨x, t, rfl⟩ := h3 f hm
    exact PySem.W.Looks.now
  · rw [show (Value.type "str" != Value.type "tuple") = true by first | decide +kernel | rfl]
    exact hq
end
/-- sorted(xs), xs a list of tuples that begin with different texts (nm tells which) -/
def rSortM (K : PySem.W.Frag) : List V → Hp → VK → Prop := fun vs H Q => ∃ (a : Addr) (xs : List V) (nm : V → Str), vs = [V.ref a] ∧ SqL K H a xs ∧ (∀ x ∈ xs, ∃ t r, x = V.ref t ∧ SqT K H t (.str (nm x) :: r)) ∧
  (xs.map nm).Nodup ∧ ∀ ys p, ys.Perm xs → ys.Pairwise (fun x y => sLt (nm x) (nm y) = true) → H p = none → Q (.ref p) (upd H p (.lst ys))
theorem inj_of_nodup {α β : Type} {f : α → β} : ∀ {l : List α}, (l.map f).Nodup → ∀ x ∈ l, ∀ y ∈ l, f x = f y → x = y
  | [], _, _, hx, _, _, _ => nomatch hx
  | a :: l, h, x, hx, y, hy, e => by
    rw [List.map_cons, List.nodup_cons] at h
    rcases List.mem_cons.mp hx with rfl | _
    · rcases List.mem_cons.mp hy with rfl | hy
      · rfl
      · exact absurd (List.mem_map.mpr ⟨y, hy, e.symm⟩) h.1
    · rename_i hx'
      rcases List.mem_cons.mp hy with rfl | hy
      · exact absurd (List.mem_map.mpr ⟨x, hx', e⟩) h.1
      · exact inj_of_nodup h.2 x hx' y hy e
theorem str_tri {a b : Str} (h1 : sLt a b = false) (h2 : sLt b a = false) : a = b := by
  have e : a.cps.toList = b.cps.toList := List.le_antisymm (of_decide_eq_false h2) (of_decide_eq_false h1)
  cases a
  cases b
  simp only [Str.mk.injEq]
  exact Array.toList_inj.mp e
section
variable {X : Cx}
theorem cr_sortM : CallR X (.builtin "sorted") (rSortM X.K) := by
  intro pins s σ H vs us Q I r h
  obtain ⟨a, xs, nm, rfl, hs, hx, nd, q⟩ := h
  obtain ⟨its, rv, hl, hz⟩ := I.list hs
  obtain ⟨u, rfl, ru⟩ := vals1 r
  obtain rfl : u = Value.ref a := ru
  obtain ⟨e1, e2⟩ := refs_back rv fun x m => (hx x m).imp fun t z => z.elim fun _ z => z.1
  have hp : ∀ v ∈ its, IsHead s.heap v (nm (backV v)) := fun v hv => by
    obtain ⟨t, rfl⟩ := e2 v hv
    have hm : V.ref t ∈ xs := by rw [e1]; exact List.mem_map.mpr ⟨_, hv, rfl⟩
    obtain ⟨t', rest, e, ht⟩ := hx _ hm
    cases e
    obtain ⟨jts, r2, ⟨o, ho, hc, n, hd⟩, _⟩ := I.tuple ht
    cases r2 with
    | cons p r3 =>
      obtain ⟨tk, rfl⟩ := p
      exact ⟨t, o, _, n, tk, _, rfl, ho, hc, hd, rfl⟩
  have inj : ∀ v ∈ its, ∀ u ∈ its, nm (backV v) = nm (backV u) → v = u := fun v hv u hu e => by
    obtain ⟨t, rfl⟩ := e2 v hv
    obtain ⟨t', rfl⟩ := e2 u hu
    have m1 : V.ref t ∈ xs := by rw [e1]; exact List.mem_map.mpr ⟨_, hv, rfl⟩
    have m2 : V.ref t' ∈ xs := by rw [e1]; exact List.mem_map.mpr ⟨_, hu, rfl⟩
    have := inj_of_nodup nd _ m1 _ m2 e
    cases this
    rfl
  refine SrtO.sorted_ord (ltv := fun v u => sLt (nm (backV v)) (nm (backV u))) (sLt_swo fun v => nm (backV v)) hl.isList (by rw [← rv.length]; exact hz) (fun h2 h₁ b hb kk => ?_) fun out o1 o2 => ?_
  · refine heads_sortable (s := { s with heap := h₁ }) (by omega) (fun v hm => ?_) inj fun o e => ?_
    · obtain ⟨c, o, ys, n, t, r, e, ho, hc, hd, hx⟩ := hp v hm
      exact ⟨c, o, ys, n, t, r, e, (kk c o ho).2, hc, hd, hx⟩
    · rw [hb] at e
      cases e
      intro c
      exact absurd (Value.type.inj c) (by decide)
  · have h3 : ∀ u ∈ out, ∃ a, u = Value.ref a := fun u hu => e2 u (o2.perm.mem_iff.mp hu)
    obtain ⟨n, hn⟩ := sortedAll_at s.heap its out.toArray
    have hpm : (out.map backV).Perm xs := by
      rw [e1]
      exact o2.perm.map backV
    refine ⟨.ref _, upd H (s.heap.objs.size + 1) (.lst (out.map backV)), I.laid (t' := s.toks) (fun _ _ e => sortedAll_old e) (Nat.le_succ _) ⟨?_, out, n, vals_back h3, hn⟩, rfl, q _ _ hpm ?_ (I.hok.fresh (Nat.le_succ _))⟩
    · rw [hpm.length_eq]
      exact hz
    · have nd2 : ((out.map backV).map nm).Nodup := (hpm.map nm).nodup_iff.mpr nd
      have pw : (out.map backV).Pairwise fun x y => sLt (nm y) (nm x) = false := List.pairwise_map.mpr o1
      have pn : (out.map backV).Pairwise fun x y => nm x ≠ nm y := List.pairwise_map.mp nd2
      refine (pw.and pn).imp fun {x y} z => ?_
      cases e : sLt (nm x) (nm y) with
      | true => rfl
      | false => exact absurd (str_tri e z.1) z.2
end
end GL

set_option Elab.async false
set_option linter.all false
set_option maxRecDepth 100000
set_option maxHeartbeats 4000000
set_option exponentiation.threshold 100000
namespace GL
open PySem PySem.Spec PyProof.Rows L2
local macro_rules | `(tactic| walk_at "pu") => `(tactic| repeat' (first
  | ((with_reducible apply pu_var); rfl) | with_reducible exact pu_c | with_reducible exact pua_nil | ((with_reducible apply pur_i0); rfl) | with_reducible exact puu_neg | with_reducible exact puc_abs | with_reducible exact puc_intB
  | with_reducible exact puc_min | with_reducible exact puc_max | with_reducible exact puo_none
  | with_reducible apply pu_op | with_reducible apply pu_cb | with_reducible apply pua_cons | with_reducible refine put_test ?_ | with_reducible refine put_B ?_ | with_reducible refine put_not ?_ | with_reducible refine pu_notV ?_
  | with_reducible apply pu_un | with_reducible refine puo_some ?_ | ((with_reducible apply pur_i); rfl) | with_reducible exact pur_eq rfl | with_reducible exact pur_ne rfl | exact puc_lenL (by assumption) | exact puc_lenT (by assumption)
  | ((with_reducible apply pur_ixL); assumption) | ((with_reducible apply pur_ixT); assumption) | with_reducible apply pur_ixS | with_reducible apply pur_str))
local macro_rules | `(tactic| walk_at "side") => `(tactic| first
  | exact (show (0 : Int) < _ by decide) | exact Or.inl ⟨by decide, by decide⟩ | exact Or.inr ⟨by decide, by decide⟩ | exact Or.inl ⟨by omega, by omega⟩ | exact Or.inr ⟨by omega, by omega⟩
  | exact ⟨by decide, by decide, by decide⟩ | exact ⟨by decide, by decide⟩ | assumption | omega | exact ⟨by decide, by decide +kernel⟩)
def t_start (K : PySem.W.Frag) : TS :=
  (tSeq (tAsg (tIf (tTest (tOp rLt (tVar 1) (tCB (rLenQ K) (tCons (tVar 0) tNil)))) (tOp (rIxL K) (tVar 0) (tVar 1)) (tOp rAdd (tOp rMul (tC (.int 17)) (tVar 1)) (tC (.int 3)))) (gName 2))
    (tSeq (tAsg (tOp rMulW (tOp rMod (tCB rAbs (tCons (tVar 2) tNil)) (tOp rPowW (tOp rPow (tC (.int 10)) (tC (.int 60))) (tC (.int 5)))) (tCB rInt1 (tCons (tOp rGe (tCB rAbs (tCons (tVar 2) tNil)) (tOp rPow (tC (.int 10)) (tC (.int 18)))) tNil))) (gName 3))
    (tRet (tLst (tCons (tVar 3) (tCons (tOp rMod (tOp rMul (tOp rAdd (tOp rAdd (tOp rMod (tVar 2) (tC (.int 2305843009213693951))) (tOp rMul (tOp rMul (tC (.int 15485869)) (tVar 1)) (tVar 1))) (tC (.int 53))) (tC (.int 16807))) (tC (.int 2305843009213693907))) (tCons (tC (.int 0)) tNil)))))))

def t_draw (K : PySem.W.Frag) : TS :=
  (tSeq (tIfS (tTest (tOp rGt (tOp (rIxL K) (tVar 0) (tC (.int 0))) (tC (.int 0)))) (tSeq (tAsg (tOp rMod (tOp (rIxL K) (tVar 0) (tC (.int 0))) (tVar 1)) (gName 2))
    (tSeq (tAsg (tOp rDiv (tOp (rIxL K) (tVar 0) (tC (.int 0))) (tVar 1)) (gSub (tVar 0) (tC (.int 0)) rSetL))
    (tRet (tVar 2)))) tNext)
    (tSeq (tAsg (tOp rAdd (tOp (rIxL K) (tVar 0) (tC (.int 2))) (tC (.int 1))) (gSub (tVar 0) (tC (.int 2)) rSetL))
    (tSeq (tAsg (tOp (rIxL K) (tLst (tCons (tC (.int 2147483647)) (tCons (tC (.int 2147483629)) (tCons (tC (.int 2147483587)) (tCons (tC (.int 2147483579)) (tCons (tC (.int 2147483563)) (tCons (tC (.int 2147483549)) (tCons (tC (.int 2147483543)) tNil)))))))) (tOp rMod (tOp (rIxL K) (tVar 0) (tC (.int 2))) (tC (.int 7)))) (gName 3))
    (tSeq (tAsg (tOp rMod (tOp rPow (tOp rAdd (tOp rAdd (tOp (rIxL K) (tVar 0) (tC (.int 1))) (tOp rMul (tOp rMul (tC (.int 6700417)) (tOp (rIxL K) (tVar 0) (tC (.int 2)))) (tOp (rIxL K) (tVar 0) (tC (.int 2))))) (tC (.int 23))) (tC (.int 3))) (tVar 3)) (gName 4))
    (tRet (tOp rMod (tOp rDiv (tOp rMod (tOp rMul (tVar 4) (tOp rAdd (tOp rMod (tVar 4) (tC (.int 10007))) (tOp rMul (tC (.int 97)) (tOp (rIxL K) (tVar 0) (tC (.int 2)))))) (tC (.int 2305843009213693921))) (tC (.int 97))) (tVar 1)))))))

def t_choice (K : PySem.W.Frag) : TS :=
  (tRet (tOp (rIxL K) (tVar 1) (tCall spDraw [] E0 (tCons (tVar 0) (tCons (tCB (rLenQ K) (tCons (tVar 1) tNil)) tNil)))))

def t_mixed (K : PySem.W.Frag) : TS :=
  (tSeq (tAsg (tCB (rListQ K) (tCons (tVar 1) tNil)) (gName 2))
    (tRet (tLc (iRng1 (tCons (tCB (rLenQ K) (tCons (tVar 1) tNil)) tNil)) (gName 3) tYes (tBM K "list" rPopAt (tVar 2) (tCons (tCall spDraw [] E0 (tCons (tVar 0) (tCons (tCB (rLenQ K) (tCons (tVar 2) tNil)) tNil))) tNil)) [3])))

section
variable {K : PySem.W.Frag}
theorem atI_in {α : Type} {xs : List α} {i : Nat} {x : α} (h : xs[i]? = some x) : atI xs (i : Int) = some x := atI_nat h
theorem bits_le {i : Int} {a : Nat} (h : i.natAbs < 2 ^ a) (h0 : 0 < a) : Builtin.Int.intBits i ≤ a := by
  have x := PySem.Flt.log2_lt_of h0 h
  unfold Builtin.Int.intBits
  split <;> omega
theorem start_num (c : Int) (d : Int) (hd : d = (10 ^ 60) ^ 5) (k : Bool) : 0 ≤ (if c < 0 then -c else c) % d * (if k = true then 1 else 0) ∧ (if c < 0 then -c else c) % d * (if k = true then 1 else 0) < 10 ^ 300 := by
  have h1 : (0 : Int) < d := by rw [hd]; decide
  have h2 : d = 10 ^ 300 := by rw [hd]; decide
  generalize (if c < 0 then -c else c) = b
  have a1 := Int.emod_nonneg b (show d ≠ 0 by omega)
  have a2 := Int.emod_lt_of_pos b h1
  have a3 : (0 : Int) < 10 ^ 300 := by decide
  cases k
  · simp only [Bool.false_eq_true, if_false, Int.mul_zero]
    exact ⟨Int.le_refl _, a3⟩
  · simp only [if_true, Int.mul_one]
    exact ⟨a1, by rw [← h2]; exact a2⟩
theorem start_mul (c : Int) (d : Int) (hd : d = (10 ^ 60) ^ 5) (k : Bool) : CMulW ((if c < 0 then -c else c) % d) (if k = true then 1 else 0) := by
  have h1 : (0 : Int) < d := by rw [hd]; decide
  have h2 : d = 10 ^ 300 := by rw [hd]; decide
  generalize (if c < 0 then -c else c) = b
  have a1 := Int.emod_nonneg b (show d ≠ 0 by omega)
  have a2 := Int.emod_lt_of_pos b h1
  have a3 : (10 : Int) ^ 300 < 2 ^ 1000 := by decide
  refine wide_mul (a := 1000) (b := 1) ?_ (by cases k <;> decide) (by decide) (by decide) (by decide)
  have e : ((b % d).natAbs : Int) < ((2 ^ 1000 : Nat) : Int) := by
    rw [Int.natAbs_of_nonneg a1]
    have : ((2 ^ 1000 : Nat) : Int) = 2 ^ 1000 := by norm_cast
    rw [this]
    omega
  exact_mod_cast e
theorem pure_start (vs : List V) (H : Hp) (Q : VK) (E : XK) (h : spStart K vs H Q E) : t_start K { nx := fun _ H' => Q .non H', rt := Q } (vs.map some ++ [none, none]) H := by
  obtain ⟨a, ns, i, rfl, hS, hi, q⟩ := h
  unfold t_start
  obtain ⟨c, hc⟩ : ∃ c : Int, c = if h : i < ns.length then ns[i] else 17 * (i : Int) + 3 := ⟨_, rfl⟩
  refine sq_asg (v := .int c) (pu_if (b := decide ((i : Int) < (ns.map V.int).length)) (by walk_at "pu") (fun e => ?_) fun e => ?_) ?_
  · have e1 : i < ns.length := by simpa using e
    rw [dif_pos e1] at hc
    walk_at "pu"
    exact atI_in (by rw [hc, List.getElem?_map, List.getElem?_eq_getElem e1]; rfl)
  · have e1 : ¬ i < ns.length := by simpa using e
    rw [dif_neg e1] at hc
    refine pu_is (v := .int (17 * (i : Int) + 3)) ?_ (by rw [hc])
    walk_at "pu"
    exact .inl ⟨by decide, by decide⟩
  obtain ⟨hm1, hm2⟩ := start_num c _ rfl (decide ((10 : Int) ^ 18 ≤ (if c < 0 then -c else c)))
  refine sq_asg (v := .int ((if c < 0 then -c else c) % (10 ^ 60) ^ 5 * (if decide ((10 : Int) ^ 18 ≤ (if c < 0 then -c else c)) = true then 1 else 0))) ?_ ?_
  · walk_at "pu"
    all_goals first | walk_at "side" | exact start_mul c _ rfl _
  generalize (if c < 0 then -c else c) % (10 ^ 60) ^ 5 * (if decide ((10 : Int) ^ 18 ≤ (if c < 0 then -c else c)) = true then 1 else 0) = g at hm1 hm2
  show tLst _ _ _ _
  refine al_lst (by walk_at "pu" <;> walk_at "side") (by show 3 ≤ sizeLine; decide) fun p hp => ?_
  refine q _ p (.new hp) hp ⟨g, _, 0, upd_same, hm1, hm2, Int.emod_nonneg _ (by decide), Int.emod_lt_of_pos _ (by decide), by decide, by decide⟩
theorem primes_at (m : Int) : ∃ p : Int, atI ([V.int 2147483647, V.int 2147483629, V.int 2147483587, V.int 2147483579, V.int 2147483563, V.int 2147483549, V.int 2147483543]) (m % 7) = some (.int p) ∧ 0 < p ∧ p ≤ 2147483647 := by
  have h1 := Int.emod_nonneg m (show (7 : Int) ≠ 0 by decide)
  have h2 := Int.emod_lt_of_pos m (show (0 : Int) < 7 by decide)
  generalize m % 7 = r at h1 h2
  have : r = 0 ∨ r = 1 ∨ r = 2 ∨ r = 3 ∨ r = 4 ∨ r = 5 ∨ r = 6 := by omega
  rcases this with rfl | rfl | rfl | rfl | rfl | rfl | rfl <;> exact ⟨_, rfl, by decide, by decide⟩
theorem base_lt {s n : Int} (h1 : 0 ≤ s) (h2 : s < 2305843009213693907) (h3 : 0 ≤ n) (h4 : n ≤ 900001) : (s + 6700417 * n * n + 23).natAbs < 2 ^ 64 := by
  have a : n * n ≤ 900001 * 900001 := Int.mul_le_mul h4 h4 h3 (by decide)
  have b : 0 ≤ n * n := Int.mul_nonneg h3 h3
  have c : 6700417 * n * n = 6700417 * (n * n) := Int.mul_assoc _ _ _
  rw [c]
  generalize n * n = m at a b
  omega
theorem atI3 {x y z : V} : atI [x, y, z] 0 = some x ∧ atI [x, y, z] 1 = some y ∧ atI [x, y, z] 2 = some z := ⟨rfl, rfl, rfl⟩
theorem pure_draw (vs : List V) (H : Hp) (Q : VK) (E : XK) (h : spDraw vs H Q E) : t_draw K { nx := fun _ H' => Q .non H', rt := Q } (vs.map some ++ [none, none, none]) H := by
  obtain ⟨a, L, N, rfl, ⟨g, sd, n, ea, g0, g1, s0, s1, n0, n1⟩, hN, L0, L1, q⟩ := h
  unfold t_draw
  have sa : SqL K H a [.int g, .int sd, .int n] := .inl (.inl ea)
  refine sq_if (b := decide (0 < g)) (by walk_at "pu"; exact atI3.1) (fun c => ?_) fun c => ?_
  · -- a digit of the large cell
    have hg : 0 < g := of_decide_eq_true c
    refine sq_seq (sq_asg (by walk_at "pu"; exact atI3.1; walk_at "side") (sq_seq (sq_set (i := 0) (by walk_at "pu"; exact atI3.1; exact ⟨by omega, by omega⟩) (by walk_at "pu") (by walk_at "pu") ⟨a, _, 0, 0, rfl, rfl, ea, rfl, ?_⟩)))
    refine sq_ret (by walk_at "pu") (q _ _ (.put .refl (.inl (by simp))) ⟨_, _, _, upd_same, ?_, ?_, s0, s1, n0, by omega⟩ (Int.emod_nonneg _ (by omega)) (Int.emod_lt_of_pos _ L0))
    · exact Int.ediv_nonneg g0 (by omega)
    · exact Int.lt_of_le_of_lt (Int.ediv_le_self _ g0) g1
  · -- a mixed number
    refine sq_nx (sq_set (i := 0) (by walk_at "pu"; exact atI3.2.2) (by walk_at "pu") (by walk_at "pu") ⟨a, _, 2, 2, rfl, rfl, ea, rfl, ?_⟩)
    generalize eH : upd H a _ = H1
    have e1 : H1 a = some (.lst [.int g, .int sd, .int (n + 1)]) := by rw [← eH]; exact upd_same
    have k1 : Keep [a] H H1 := by rw [← eH]; exact .put .refl (.inl (by simp))
    obtain ⟨p, ep, p0, p1⟩ := primes_at (n + 1)
    refine sq_doN (al_opL (y := fun _ => .int ((n + 1) % 7)) (by walk_at "pu") (by decide) (fun l hl => ?_) fun l hl => ?_)
    · have sa1 : SqL K (upd H1 l (.lst [V.int 2147483647, V.int 2147483629, V.int 2147483587, V.int 2147483579, V.int 2147483563, V.int 2147483549, V.int 2147483543])) a [.int g, .int sd, .int (n + 1)] := .inl (.inl (by rw [upd_ne (ne_of_none e1 hl)]; exact e1))
      walk_at "pu"
      · exact atI3.2.2
      · walk_at "side"
    refine ⟨l, _, _, .int p, rfl, rfl, .inl (.inl upd_same), ep, ?_⟩
    generalize eH2 : upd H1 l _ = H2
    have e2 : H2 a = some (.lst [.int g, .int sd, .int (n + 1)]) := by rw [← eH2, upd_ne (ne_of_none e1 hl)]; exact e1
    have k2 : Keep [a] H H2 := by rw [← eH2]; exact k1.trans (.new hl)
    have sa2 : SqL K H2 a [.int g, .int sd, .int (n + 1)] := .inl (.inl e2)
    refine sq_asg (v := .int ((sd + 6700417 * (n + 1) * (n + 1) + 23) ^ 3 % p)) ?_ ?_
    · walk_at "pu"
      all_goals first | exact atI3.2.1 | exact atI3.2.2 | exact ⟨by decide, by decide, base_lt s0 s1 (by omega) (by omega)⟩ | walk_at "side"
    have m0 := Int.emod_nonneg ((sd + 6700417 * (n + 1) * (n + 1) + 23) ^ 3) (show p ≠ 0 by omega)
    have m1 := Int.emod_lt_of_pos ((sd + 6700417 * (n + 1) * (n + 1) + 23) ^ 3) p0
    generalize (sd + 6700417 * (n + 1) * (n + 1) + 23) ^ 3 % p = m at m0 m1
    refine su_ret (v := .int (m * (m % 10007 + 97 * (n + 1)) % 2305843009213693921 / 97 % L)) ?_ (q _ _ k2 ⟨_, _, _, e2, g0, g1, s0, s1, by omega, by omega⟩ (Int.emod_nonneg _ (by omega)) (Int.emod_lt_of_pos _ L0))
    walk_at "pu"
    all_goals first | exact atI3.2.2 | walk_at "side"
theorem at_of_lt {α : Type} {xs : List α} {r : Int} (h0 : 0 ≤ r) (h1 : r < xs.length) : ∃ (j : Nat) (v : α), r = j ∧ xs[j]? = some v ∧ atI xs r = some v := by
  obtain ⟨j, rfl⟩ := Int.eq_ofNat_of_zero_le h0
  have hj : j < xs.length := by omega
  exact ⟨j, xs[j], rfl, List.getElem?_eq_getElem hj, atI_nat (List.getElem?_eq_getElem hj)⟩
theorem pure_choice (vs : List V) (H : Hp) (Q : VK) (E : XK) (h : spChoice K vs H Q E) : t_choice K { nx := fun _ H' => Q .non H', rt := Q } (vs.map some ++ []) H := by
  obtain ⟨a, b, xs, N, rfl, hs, hN, hb, ne, nn, hl, q⟩ := h
  unfold t_choice
  refine su_retE (al_opV rfl ?_)
  have h0 : 0 < xs.length := List.length_pos_iff.mpr nn
  refine al_call (by walk_at "pu") ⟨a, _, N, rfl, hs, hN, by omega, by omega, fun H1 r k1 s1 r0 r1 => ?_⟩
  obtain ⟨j, v, rfl, e1, e2⟩ := at_of_lt r0 r1
  exact ⟨b, xs, _, v, rfl, rfl, k1.sql (by simpa using ne) hb, e2, q _ j v k1 s1 e1⟩
theorem cons_erase {α : Type} : ∀ {l : List α} {j : Nat} (h : j < l.length), (l[j] :: l.eraseIdx j).Perm l
  | [], _, h => absurd h (by simp)
  | x :: l, 0, _ => .refl _
  | x :: l, j + 1, h => (List.Perm.swap _ _ _).trans ((cons_erase (l := l) (j := j) (by simpa using h)).cons x)
theorem pop_perm {α : Type} {ys zs xs : List α} {j : Nat} {v : α} (h : (ys ++ zs).Perm xs) (e : zs[j]? = some v) : ((ys ++ [v]) ++ zs.eraseIdx j).Perm xs := by
  obtain ⟨hj, rfl⟩ := List.getElem?_eq_some_iff.mp e
  refine List.Perm.trans ?_ h
  rw [List.append_assoc]
  exact (cons_erase hj).append_left ys
theorem pure_mixed (vs : List V) (H : Hp) (Q : VK) (E : XK) (h : spMixed K vs H Q E) : t_mixed K { nx := fun _ H' => Q .non H', rt := Q } (vs.map some ++ [none, none]) H := by
  obtain ⟨a, b, xs, N, rfl, hs, hN, hb, ne, hl, q⟩ := h
  unfold t_mixed
  refine sq_doN (al_list (by walk_at "pu") hb fun l nl => ?_)
  have k1 : Keep [a] H (upd H l (.lst xs)) := .new nl
  have nla : l ≠ a := fun z => by
    obtain ⟨g, s', n, e, _⟩ := hs
    rw [z, e] at nl
    cases nl
  have hb1 : SqL K (upd H l (.lst xs)) b xs ∨ SqT K (upd H l (.lst xs)) b xs := hb.imp (k1.sql (by simpa using ne)) (k1.sqt (by simpa using ne))
  refine su_retE ?_
  refine al_args (vs := [.int xs.length]) ?_ ⟨_, rfl, by omega, by omega, ?_⟩
  · refine pua_cons (pu_cb (pua_cons (pu_var rfl) pua_nil) ?_) pua_nil
    exact fun _ q => ⟨b, xs, rfl, hb1, q⟩
  intro D hD
  have nDl : D ≠ l := fun z => by rw [z, upd_same] at hD; cases hD
  have nD : H D = none := by rw [upd_ne nDl] at hD; exact hD
  have nDa : D ≠ a := fun z => by
    obtain ⟨g, s', n, e, _⟩ := hs
    rw [z, e] at nD
    cases nD
  refine lc_range (lo := 0) (n := (xs.length : Int).toNat) (fun i H' => ∃ ys zs, Keep [a] H H' ∧ Src H' a (N + i) ∧ H' l = some (.lst zs) ∧ H' D = some (.lst ys) ∧ (ys ++ zs).Perm xs ∧ ys.length = i) ?_ ?_ ?_
  · refine ⟨[], xs, k1.trans (.new hD), ?_, ?_, upd_same, .refl _, rfl⟩
    · exact (hs.keep (S := []) (.trans (.new nl) (.new hD)) (by simp))
    · rw [upd_ne nDl.symm, upd_same]
  · rintro i H1 hi ⟨ys, zs, kk, ss, el, eD, pm, yl⟩
    have zl : ys.length + zs.length = xs.length := by rw [← List.length_append]; exact pm.length_eq
    refine ⟨rfl, ?_⟩
    have sl : SqL K H1 l zs := .inl (.inl el)
    refine al_bm (x := .ref l) (pu_var rfl) (.inl ⟨rfl, _, sl⟩) (al_cons ?_)
    refine al_call (by walk_at "pu") ⟨a, _, N + i, rfl, ss, by omega, by omega, by omega, fun H2 r k2 s2 r0 r1 => ?_⟩
    obtain ⟨j, v, rfl, e1, e2⟩ := at_of_lt r0 r1
    obtain ⟨j', g1, g2, g3, g4, g5⟩ := atI_get e2
    have el2 : H2 l = some (.lst zs) := k2 l _ (by simpa using nla) el
    have eD2 : H2 D = some (.lst ys) := k2 D _ (by simpa using nDa) eD
    refine ⟨l, zs, _, _, v, rfl, rfl, el2, by omega, by omega, g1, g2, ?_⟩
    refine ⟨ys, by rw [upd_ne nDl]; exact eD2, szl (by omega), ys ++ [v], zs.eraseIdx j', ?_, ?_, ?_, upd_same, pop_perm pm g2, by simp [yl]⟩
    · exact ((kk.trans k2).put (.inr nl)).put (.inr nD)
    · exact s2.keep (S := [l, D]) (.put (.put .refl (.inl (by simp))) (.inl (by simp))) (by simp [nla.symm, nDa.symm])
    · rw [upd_ne nDl.symm, upd_same]
  · rintro H1 ⟨ys, zs, kk, ss, el, eD, pm, yl⟩
    have yl' : ys.length = xs.length := by omega
    have zl : ys.length + zs.length = xs.length := by rw [← List.length_append]; exact pm.length_eq
    have z0 : zs = [] := List.length_eq_zero_iff.mp (by omega)
    subst z0
    rw [List.append_nil] at pm
    exact q H1 D ys kk (ss.mono (by omega)) nD eD pm
end
end GL

set_option Elab.async false
set_option linter.all false
set_option maxRecDepth 100000
set_option maxHeartbeats 4000000
set_option exponentiation.threshold 100000
namespace GL
open PySem PySem.Spec PyProof.Rows L2
local macro_rules | `(tactic| walk_at "pu") => `(tactic| repeat' (first
  | ((with_reducible apply pu_var); rfl) | with_reducible exact pu_c | with_reducible exact pua_nil | ((with_reducible apply pur_i0); rfl) | with_reducible exact puu_neg | with_reducible exact puc_abs | with_reducible exact puc_intB
  | with_reducible exact puc_min | with_reducible exact puc_max | with_reducible exact puo_none
  | with_reducible apply pu_op | with_reducible apply pu_cb | with_reducible apply pua_cons | with_reducible refine put_test ?_ | with_reducible refine put_B ?_ | with_reducible refine put_not ?_ | with_reducible refine pu_notV ?_
  | with_reducible apply pu_un | with_reducible refine puo_some ?_ | ((with_reducible apply pur_i); rfl) | with_reducible exact pur_eq rfl | with_reducible exact pur_ne rfl | exact puc_lenL (by assumption) | exact puc_lenT (by assumption)
  | ((with_reducible apply pur_ixL); assumption) | ((with_reducible apply pur_ixT); assumption) | with_reducible apply pur_ixS | with_reducible apply pur_str))
local macro_rules | `(tactic| walk_at "side") => `(tactic| first
  | exact (show (0 : Int) < _ by decide) | exact Or.inl ⟨by decide, by decide⟩ | exact Or.inr ⟨by decide, by decide⟩ | exact Or.inl ⟨by omega, by omega⟩ | exact Or.inr ⟨by omega, by omega⟩
  | exact ⟨by decide, by decide, by decide⟩ | exact ⟨by decide, by decide⟩ | assumption | omega | exact ⟨by decide, by decide +kernel⟩)
section
variable {K : PySem.W.Frag}
/-- a comprehension whose tests and items are pure -/
theorem lc_pure {J : It} {n j : Nat} {Gd : Hp → Prop} {it : Nat → V} (w : Walk J n Gd (YFn it)) {tt : TT} {te : TE} {vs : List Nat} {σ : L2.St} {H1 : Hp} {b : Nat → Bool} {f : Nat → V} {Q : VK} (hG : ∀ H, Keep [] H1 H → Gd H) (hn : n ≤ 1000000)
    (hw : ∀ v, wipe ((wipe σ vs).set j (some v)) vs = wipe σ vs) (ht : ∀ i H, i < n → Keep [] H1 H → PuT tt ((wipe σ vs).set j (some (it i))) H (b i)) (he : ∀ i H, i < n → Keep [] H1 H → b i = true → Pu te ((wipe σ vs).set j (some (it i))) H (f i))
    (k : ∀ D H, Keep [] H1 H → H1 D = none → H D = some (.lst (((List.range n).filter b).map f)) → Q (.ref D) H) :
    ∀ D, H1 D = none → ∃ W : Nat → Nat → Hp → Prop, (∃ m, W 0 m (upd H1 D (.lst []))) ∧ ∀ i m H, W i m H →
      (J.stop i H ∧ Q (.ref D) H) ∨ (J.go i H ∧ ∃ Nx : Hp → Prop, (∀ H', Nx H' → ∃ m', m' < m ∧ W (i + 1) m' H') ∧ ∀ x H', J.yld i H x H' → gName j x (wipe σ vs) H' fun σ2 H2 => wipe σ2 vs = wipe σ vs ∧ tt σ2 H2 fun b H3 =>
        if b = true then te σ2 H3 fun y H4 => ∃ acc, H4 D = some (.lst acc) ∧ acc.length < sizeLine ∧ Nx (upd H4 D (.lst (acc ++ [y]))) else Nx H3) := by
  intro D hD
  refine lc_it w (fun i H => Keep [] H1 H ∧ H D = some (.lst (((List.range i).filter b).map f))) ⟨.new hD, upd_same⟩ (fun i H _ h => hG H h.1) ?_ fun H h => k D H h.1 hD h.2
  rintro i x H H' hi ⟨kp, eD⟩ ⟨rfl, rfl⟩
  refine ⟨hw _, ht i H' hi kp _ ?_⟩
  cases eb : b i with
  | false =>
    refine (show Keep [] H1 H' ∧ _ from ⟨kp, ?_⟩)
    rw [eD, List.range_succ, List.filter_append, List.filter_cons_of_neg (by rw [eb]; decide)]
    simp
  | true =>
    refine he i H' hi kp eb _ ⟨_, eD, szl ?_, kp.put (.inr hD), ?_⟩
    · rw [List.length_map]
      exact Nat.lt_of_le_of_lt (List.length_filter_le _ _) (by rw [List.length_range]; omega)
    · rw [upd_same, List.range_succ, List.filter_append, List.filter_cons_of_pos eb]
      simp
theorem puT_yes {σ : L2.St} {H : Hp} : PuT tYes σ H true := fun _ q => q
theorem filter_all {n : Nat} : (List.range n).filter (fun _ => true) = List.range n := by simp
/-- .. without tests -/
theorem lc_pure1 {J : It} {n j : Nat} {Gd : Hp → Prop} {it : Nat → V} (w : Walk J n Gd (YFn it)) {te : TE} {vs : List Nat} {σ : L2.St} {H1 : Hp} {f : Nat → V} {Q : VK} (hG : ∀ H, Keep [] H1 H → Gd H) (hn : n ≤ 1000000)
    (hw : ∀ v, wipe ((wipe σ vs).set j (some v)) vs = wipe σ vs) (he : ∀ i H, i < n → Keep [] H1 H → Pu te ((wipe σ vs).set j (some (it i))) H (f i))
    (k : ∀ D H, Keep [] H1 H → H1 D = none → H D = some (.lst ((List.range n).map f)) → Q (.ref D) H) :
    ∀ D, H1 D = none → ∃ W : Nat → Nat → Hp → Prop, (∃ m, W 0 m (upd H1 D (.lst []))) ∧ ∀ i m H, W i m H →
      (J.stop i H ∧ Q (.ref D) H) ∨ (J.go i H ∧ ∃ Nx : Hp → Prop, (∀ H', Nx H' → ∃ m', m' < m ∧ W (i + 1) m' H') ∧ ∀ x H', J.yld i H x H' → gName j x (wipe σ vs) H' fun σ2 H2 => wipe σ2 vs = wipe σ vs ∧ tYes σ2 H2 fun b H3 =>
        if b = true then te σ2 H3 fun y H4 => ∃ acc, H4 D = some (.lst acc) ∧ acc.length < sizeLine ∧ Nx (upd H4 D (.lst (acc ++ [y]))) else Nx H3) :=
  lc_pure (b := fun _ => true) w hG hn hw (fun _ _ _ _ => puT_yes) (fun i H hi kp _ => he i H hi kp) fun D H kp nD e => k D H kp nD (by rw [filter_all] at e; exact e)
theorem walk_listF {a : Addr} {xs : List V} {it : Nat → V} (h : ∀ i x, xs[i]? = some x → it i = x) : Walk (Itl K a) xs.length (fun H => SqL K H a xs) (YFn it) :=
  walk_list.mono (fun _ h => h) fun i H x H' hi _ y => ⟨y.1, (h i x y.2).symm⟩
theorem walk_tupF {a : Addr} {xs : List V} {it : Nat → V} (h : ∀ i x, xs[i]? = some x → it i = x) : Walk (Itt K a) xs.length (fun H => SqT K H a xs) (YFn it) :=
  walk_tup.mono (fun _ h => h) fun i H x H' hi _ y => ⟨y.1, (h i x y.2).symm⟩
/-! ### names -/
def NameOk (z : Str) : Prop := 1 ≤ z.length ∧ z.length ≤ 10 ∧ ∀ c ∈ z.cps.toList, 97 ≤ c ∧ c ≤ 122
def Asc (ys : List Str) : Prop := ys.Pairwise fun x y => sLt x y = true
def spNames (K : PySem.W.Frag) : Sp := fun vs H Q _ => ∃ (a : Addr) (n : Nat) (N : Nat), vs = [.ref a, .int n] ∧ Src H a N ∧ N + 2 ≤ 900000 ∧ n ≤ 52 ∧
  ∀ H' p ys, Keep [a] H H' → Src H' a (N + 2) → H p = none → H' p = some (.lst (ys.map V.str)) → Asc ys → (∀ y ∈ ys, NameOk y) → ys.length = n → Q (.ref p) H'
def letter (f : Int) (i : Nat) : Nat := 97 + ((f + 7 * i) % 26).toNat
def nameAt (stem : Str) (f : Int) (i : Nat) : Str := stem ++ ⟨#[letter f i]⟩
theorem letter_inj {f : Int} {i j : Nat} (hi : i < 26) (hj : j < 26) (h : letter f i = letter f j) : i = j := by
  unfold letter at h
  omega
theorem alpha_at (r : Int) (h0 : 0 ≤ r) (h1 : r < 26) : atI (Str.cps "abcdefghijklmnopqrstuvwxyz").toList r = some (97 + r.toNat) := by
  obtain ⟨n, rfl⟩ := Int.eq_ofNat_of_zero_le h0
  have hn : n < 26 := by omega
  have all : ∀ m : Fin 26, atI (Str.cps "abcdefghijklmnopqrstuvwxyz").toList ((m : Nat) : Int) = some (97 + ((m : Nat) : Int).toNat) := by decide +kernel
  exact all ⟨n, hn⟩
theorem cps_add (a b : Str) : (a ++ b).cps.toList = a.cps.toList ++ b.cps.toList := by
  rw [Str.cps_append, Array.toList_append]
theorem nameAt_cps (stem : Str) (f : Int) (i : Nat) : (nameAt stem f i).cps.toList = stem.cps.toList ++ [letter f i] := by
  unfold nameAt
  rw [cps_add]
theorem nameAt_inj {stem : Str} {f : Int} {i j : Nat} (hi : i < 26) (hj : j < 26) (h : nameAt stem f i = nameAt stem f j) : i = j := by
  have e := congrArg (fun z : Str => z.cps.toList) h
  simp only [nameAt_cps] at e
  have := List.append_cancel_left e
  exact letter_inj hi hj (List.cons.inj this).1
theorem nameAt_len (stem : Str) (f : Int) (i : Nat) : (nameAt stem f i).length = stem.length + 1 := by
  unfold nameAt
  rw [Str.length_append]
  rfl
def allNames (stem : Str) (f : Int) (n m : Nat) : List Str := (List.range n).map (nameAt stem f) ++ (List.range m).map fun i => ("x" : Str) ++ nameAt stem f i
theorem x_cancel {a b : Str} (h : ("x" : Str) ++ a = ("x" : Str) ++ b) : a = b := by
  have e := congrArg (fun z : Str => z.cps.toList) h
  simp only [cps_add] at e
  have := List.append_cancel_left e
  cases a
  cases b
  simp only [Str.mk.injEq]
  exact Array.toList_inj.mp this
theorem nodup_map_range {α : Type} {f : Nat → α} : ∀ {n : Nat}, (∀ i j, i < n → j < n → f i = f j → i = j) → ((List.range n).map f).Nodup := fun {n} h => by
  refine List.pairwise_map.mpr ?_
  refine List.Pairwise.imp_of_mem ?_ (List.nodup_range (n := n))
  intro a b ha hb hab e
  exact hab (h a b (List.mem_range.mp ha) (List.mem_range.mp hb) e)
theorem allNames_nodup {stem : Str} {f : Int} {n m : Nat} (hn : n ≤ 26) (hm : m ≤ 26) : (allNames stem f n m).Nodup := by
  refine List.nodup_append.mpr ⟨nodup_map_range fun i j hi hj => nameAt_inj (by omega) (by omega), nodup_map_range fun i j hi hj e => nameAt_inj (by omega) (by omega) (x_cancel e), ?_⟩
  intro a ha b hb e
  obtain ⟨i, _, rfl⟩ := List.mem_map.mp ha
  obtain ⟨j, _, rfl⟩ := List.mem_map.mp hb
  have := congrArg Str.length e
  rw [Str.length_append, nameAt_len, nameAt_len] at this
  have h1 : (("x" : Str)).length = 1 := by decide +kernel
  omega
theorem asc_of_sorted : ∀ {ys : List Str}, sortedS ys = true → ys.Nodup → Asc ys := by
  have rise : ∀ (l : List Str) (p : Str), risingS p l = true → (p :: l).Pairwise fun x y => sLt y x = false := by
    intro l
    induction l with
    | nil => intro p _; exact List.pairwise_singleton _ _
    | cons x r ih =>
      intro p h
      have h' : (!ltCps x.cps.toList p.cps.toList && risingS x r) = true := h
      obtain ⟨h1, h2⟩ := Bool.and_eq_true_iff.mp h'
      have h3 : sLt x p = false := by
        unfold sLt
        rw [← ltCps_eq]
        simpa using h1
      have t := ih x h2
      refine List.pairwise_cons.mpr ⟨fun y hy => ?_, t⟩
      rcases List.mem_cons.mp hy with rfl | hy
      · exact h3
      · exact (sLt_swo (fun z : Str => z)).tr _ _ _ h3 ((List.pairwise_cons.mp t).1 y hy)
  intro ys h nd
  have pw : ys.Pairwise fun x y => sLt y x = false := by
    cases ys with
    | nil => exact .nil
    | cons x r => exact rise r x h
  refine (pw.and nd).imp fun {x y} z => ?_
  cases e : sLt x y with
  | true => rfl
  | false => exact absurd (str_tri e z.1) z.2
def stems : List Str := ["", "m", "mod", "zzzzzzzz", "a"]
theorem stem_ok {stem : Str} (h : stem ∈ stems) : stem.length ≤ 8 ∧ ∀ c ∈ stem.cps.toList, 97 ≤ c ∧ c ≤ 122 := by
  have all : ∀ z ∈ stems, z.length ≤ 8 ∧ ∀ c ∈ z.cps.toList, 97 ≤ c ∧ c ≤ 122 := by decide +kernel
  exact all stem h
theorem nameAt_ok {stem : Str} {f : Int} (h : stem ∈ stems) (i : Nat) : NameOk (nameAt stem f i) ∧ NameOk (("x" : Str) ++ nameAt stem f i) := by
  obtain ⟨h1, h2⟩ := stem_ok h
  have hl := nameAt_len stem f i
  have hx : (("x" : Str)).length = 1 := by decide +kernel
  have hc : ∀ c ∈ (nameAt stem f i).cps.toList, 97 ≤ c ∧ c ≤ 122 := by
    intro c hc
    rw [nameAt_cps] at hc
    rcases List.mem_append.mp hc with hc | hc
    · exact h2 c hc
    · have : c = letter f i := by simpa using hc
      rw [this]
      unfold letter
      omega
  refine ⟨⟨by omega, by omega, hc⟩, by rw [Str.length_append]; omega, by rw [Str.length_append]; omega, ?_⟩
  intro c hc'
  rw [cps_add] at hc'
  rcases List.mem_append.mp hc' with hc' | hc'
  · have all : ∀ c ∈ (Str.cps "x").toList, 97 ≤ c ∧ c ≤ 122 := by decide +kernel
    exact all c hc'
  · exact hc c hc'
def t_names (K : PySem.W.Frag) : TS :=
  (tSeq (tAsg (tTup (tCons (tCall (spChoice K) [] E0 (tCons (tVar 0) (tCons (tLst (tCons (tC (.str "")) (tCons (tC (.str "m")) (tCons (tC (.str "mod")) (tCons (tC (.str "zzzzzzzz")) (tCons (tC (.str "a")) tNil)))))) tNil))) (tCons (tCall spDraw [] E0 (tCons (tVar 0) (tCons (tC (.int 26)) tNil))) tNil))) (gTup K 2 (gCons (gName 2) (gCons (gName 3) gNil))))
    (tSeq (tAsg (tLc (iRng1 (tCons (tCB rMin2 (tCons (tVar 1) (tCons (tC (.int 26)) tNil))) tNil)) (gName 6) tYes (tOp rAddS (tVar 2) (tOp rIxS (tC (.str "abcdefghijklmnopqrstuvwxyz")) (tOp rMod (tOp rAdd (tVar 3) (tOp rMul (tC (.int 7)) (tVar 6))) (tC (.int 26))))) [6]) (gName 4))
    (tSeq (tAsg (tIf (tTest (tOp rLe (tVar 1) (tC (.int 52)))) (tLc (iRng2 (tCons (tC (.int 26)) (tCons (tVar 1) tNil))) (gName 6) tYes (tOp rAddS (tC (.str "x")) (tOp (rIxL K) (tVar 4) (tOp rMod (tVar 6) (tC (.int 26))))) [6]) (tLst tNil)) (gName 5))
    (tRet (tCB (rSortedS K) (tCons (tOp rCat (tVar 4) (tVar 5)) tNil))))))

end
end GL

set_option Elab.async false
set_option linter.all false
set_option maxRecDepth 100000
set_option maxHeartbeats 4000000
set_option exponentiation.threshold 100000
namespace GL
open PySem PySem.Spec PyProof.Rows L2
local macro_rules | `(tactic| walk_at "pu") => `(tactic| repeat' (first
  | ((with_reducible apply pu_var); rfl) | with_reducible exact pu_c | with_reducible exact pua_nil | ((with_reducible apply pur_i0); rfl) | with_reducible exact puu_neg | with_reducible exact puc_abs | with_reducible exact puc_intB
  | with_reducible exact puc_min | with_reducible exact puc_max | with_reducible exact puo_none
  | with_reducible apply pu_op | with_reducible apply pu_cb | with_reducible apply pua_cons | with_reducible refine put_test ?_ | with_reducible refine put_B ?_ | with_reducible refine put_not ?_ | with_reducible refine pu_notV ?_
  | with_reducible apply pu_un | with_reducible refine puo_some ?_ | ((with_reducible apply pur_i); rfl) | with_reducible exact pur_eq rfl | with_reducible exact pur_ne rfl | exact puc_lenL (by assumption) | exact puc_lenT (by assumption)
  | ((with_reducible apply pur_ixL); assumption) | ((with_reducible apply pur_ixT); assumption) | with_reducible apply pur_ixS | with_reducible apply pur_str))
local macro_rules | `(tactic| walk_at "side") => `(tactic| first
  | exact (show (0 : Int) < _ by decide) | exact Or.inl ⟨by decide, by decide⟩ | exact Or.inr ⟨by decide, by decide⟩ | exact Or.inl ⟨by omega, by omega⟩ | exact Or.inr ⟨by omega, by omega⟩
  | exact ⟨by decide, by decide, by decide⟩ | exact ⟨by decide, by decide⟩ | assumption | omega | exact ⟨by decide, by decide +kernel⟩)
section
variable {K : PySem.W.Frag} {σ : L2.St} {H : Hp} {te : TE} {tr tas : TA} {QA : List V → Hp → Prop} {Q : VK} {x : V} {vs : List V} {sp : Sp} {D : Ends} {tw : TS} {g : TG} {t : TT} {tu tv : TS} {E : XK}
theorem ac_nil (k : QA [] H) : tNil σ H QA := k
theorem ac_var {i : Nat} (h : σ[i]? = some (some x)) (k : tr σ H fun xs H2 => QA (x :: xs) H2) : tCons (tVar i) tr σ H QA := ⟨x, h, k⟩
theorem ac_pu (h : Pu te σ H x) (k : tr σ H fun xs H2 => QA (x :: xs) H2) : tCons te tr σ H QA := h _ k
theorem ac_lst (h : PuA tas σ H vs) (hl : vs.length ≤ sizeLine) (k : ∀ p, H p = none → tr σ (upd H p (.lst vs)) fun xs H2 => QA (.ref p :: xs) H2) : tCons (tLst tas) tr σ H QA := h _ ⟨hl, k⟩
theorem ac_call (k : tas σ H fun vs H1 => sp (vs ++ []) H1 (fun x H2 => tr σ H2 fun xs H3 => QA (x :: xs) H3) E) : tCons (tCall sp [] E tas) tr σ H QA := k
theorem ac_tup {tas : TA} (k : tas σ H fun xs H1 => xs.length ≤ sizeLine ∧ ∀ p, H1 p = none → tr σ (upd H1 p (.tup xs)) fun ys H2 => QA (.ref p :: ys) H2) : tCons (tTup tas) tr σ H QA := k
theorem ad_tup (k : tas σ H fun xs H1 => xs.length ≤ sizeLine ∧ ∀ p, H1 p = none → Q (.ref p) (upd H1 p (.tup xs))) : tTup tas σ H Q := k
theorem ad_call (k : tas σ H fun vs H1 => sp (vs ++ []) H1 Q E) : tCall sp [] E tas σ H Q := k
theorem g_tup2 {a : Addr} {x y : V} {i j : Nat} {R : L2.St → Hp → Prop} (h : SqT K H a [x, y]) (k : R ((σ.set i (some x)).set j (some y)) H) : gTup K 2 (gCons (gName i) (gCons (gName j) gNil)) (.ref a) σ H R := ⟨a, _, rfl, h, rfl, x, [y], rfl, y, [], rfl, rfl, k⟩
theorem g_tup3 {a : Addr} {x y z : V} {i j l : Nat} {R : L2.St → Hp → Prop} (h : SqT K H a [x, y, z]) (k : R (((σ.set i (some x)).set j (some y)).set l (some z)) H) : gTup K 3 (gCons (gName i) (gCons (gName j) (gCons (gName l) gNil))) (.ref a) σ H R := ⟨a, _, rfl, h, rfl, x, [y, z], rfl, y, [z], rfl, z, [], rfl, rfl, k⟩
theorem sq_ifE {b : Bool} (h : PuT t σ H b) (ta tb : TE) {i : Nat} (h1 : b = true → ta σ H fun x H1 => tw D (σ.set i (some x)) H1) (h2 : b = false → tb σ H fun x H1 => tw D (σ.set i (some x)) H1) : tSeq (tAsg (tIf t ta tb) (gName i)) tw D σ H := h _ (by
  cases b with
  | true => exact h1 rfl
  | false => exact h2 rfl)
/-- comprehensions whose tests and items are pure, by what they walk -/
theorem lcp_rng1 {n : Int} {ta : TA} {j : Nat} {te : TE} {vs : List Nat} {f : Nat → V} (h : PuA ta σ H [.int n]) (h0 : -1000000 ≤ n) (h1 : n ≤ 1000000) (hw : ∀ v, wipe ((wipe σ vs).set j (some v)) vs = wipe σ vs)
    (he : ∀ (i : Nat) H', (i : Int) < n → Keep [] H H' → Pu te ((wipe σ vs).set j (some (.int ((0 : Int) + (i : Int))))) H' (f i)) (k : ∀ D H', Keep [] H H' → H D = none → H' D = some (.lst ((List.range n.toNat).map f)) → Q (.ref D) H') : tLc (iRng1 ta) (gName j) tYes te vs σ H Q :=
  h _ ⟨n, rfl, by omega, by omega, lc_pure1 (walk_range (lo := 0) (n := n.toNat)) (fun _ _ => trivial) (by omega) hw (fun i H' hi kp => he i H' (by omega) kp) k⟩
theorem lcp_rng2 {lo n : Int} {ta : TA} {j : Nat} {te : TE} {vs : List Nat} {f : Nat → V} (h : PuA ta σ H [.int lo, .int n]) (h0 : -1000000 ≤ lo ∧ lo ≤ 1000000) (h1 : -1000000 ≤ n ∧ n ≤ 1000000) (hz : n - lo ≤ 1000000) (hw : ∀ v, wipe ((wipe σ vs).set j (some v)) vs = wipe σ vs)
    (he : ∀ (i : Nat) H', lo + (i : Int) < n → Keep [] H H' → Pu te ((wipe σ vs).set j (some (.int (lo + (i : Int))))) H' (f i)) (k : ∀ D H', Keep [] H H' → H D = none → H' D = some (.lst ((List.range (n - lo).toNat).map f)) → Q (.ref D) H') : tLc (iRng2 ta) (gName j) tYes te vs σ H Q :=
  h _ ⟨lo, n, rfl, ⟨by omega, by omega, by omega, by omega⟩, lc_pure1 (walk_range (lo := lo) (n := (n - lo).toNat)) (fun _ _ => trivial) (by omega) hw (fun i H' hi kp => he i H' (by omega) kp) k⟩
theorem lcp_list {a : Addr} {xs : List V} {tl : TE} {j : Nat} {tt : TT} {te : TE} {vs : List Nat} {it : Nat → V} {b : Nat → Bool} {f : Nat → V} (h : Pu tl σ H (.ref a)) (hx : SqL K H a xs) (hn : xs.length ≤ 1000000) (hit : ∀ i x, xs[i]? = some x → it i = x) (hw : ∀ v, wipe ((wipe σ vs).set j (some v)) vs = wipe σ vs)
    (ht : ∀ i H', i < xs.length → Keep [] H H' → PuT tt ((wipe σ vs).set j (some (it i))) H' (b i)) (he : ∀ i H', i < xs.length → Keep [] H H' → b i = true → Pu te ((wipe σ vs).set j (some (it i))) H' (f i))
    (k : ∀ D H', Keep [] H H' → H D = none → H' D = some (.lst (((List.range xs.length).filter b).map f)) → Q (.ref D) H') : tLc (iList K tl) (gName j) tt te vs σ H Q :=
  h _ ⟨a, rfl, ⟨xs, hx⟩, lc_pure (walk_listF hit) (fun H' kp => kp.sql (by simp) hx) hn hw ht he k⟩
theorem lcp_tup {a : Addr} {xs : List V} {tl : TE} {j : Nat} {tt : TT} {te : TE} {vs : List Nat} {it : Nat → V} {b : Nat → Bool} {f : Nat → V} (h : Pu tl σ H (.ref a)) (hx : SqT K H a xs) (hn : xs.length ≤ 1000000) (hit : ∀ i x, xs[i]? = some x → it i = x) (hw : ∀ v, wipe ((wipe σ vs).set j (some v)) vs = wipe σ vs)
    (ht : ∀ i H', i < xs.length → Keep [] H H' → PuT tt ((wipe σ vs).set j (some (it i))) H' (b i)) (he : ∀ i H', i < xs.length → Keep [] H H' → b i = true → Pu te ((wipe σ vs).set j (some (it i))) H' (f i))
    (k : ∀ D H', Keep [] H H' → H D = none → H' D = some (.lst (((List.range xs.length).filter b).map f)) → Q (.ref D) H') : tLc (iTup K tl) (gName j) tt te vs σ H Q :=
  h _ ⟨a, rfl, ⟨xs, hx⟩, lc_pure (walk_tupF hit) (fun H' kp => kp.sqt (by simp) hx) hn hw ht he k⟩
theorem Src.ne {a : Addr} {N : Nat} {p : Addr} (h : Src H a N) (n : H p = none) : p ≠ a := fun z => by
  obtain ⟨g, s, m, e, _⟩ := h
  rw [z, e] at n
  cases n
end
section
variable {K : PySem.W.Frag}
theorem pure_names (vs : List V) (H : Hp) (Q : VK) (E : XK) (h : spNames K vs H Q E) : t_names K { nx := fun _ H' => Q .non H', rt := Q } (vs.map some ++ [none, none, none, none, none]) H := by
  obtain ⟨a, n, N, rfl, hs, hN, hn, q⟩ := h
  unfold t_names
  refine sq_do (ad_tup (ac_call (ac_var rfl (ac_lst (by walk_at "pu") (by decide) fun l nl => ac_nil ?_))))
  have nla := hs.ne nl
  have hs1 : Src (upd H l (.lst [.str "", .str "m", .str "mod", .str "zzzzzzzz", .str "a"])) a N := hs.keep (S := []) (.new nl) (by simp)
  refine ⟨a, l, _, N, rfl, hs1, by omega, .inl (.inl upd_same), nla, by simp, by decide, fun H1 i v k1 s1 ei => ?_⟩
  obtain ⟨stem, rfl, hst⟩ : ∃ z, v = .str z ∧ z ∈ stems := by
    have hm : v ∈ stems.map V.str := List.mem_of_getElem? ei
    obtain ⟨z, hz, rfl⟩ := List.mem_map.mp hm
    exact ⟨z, rfl, hz⟩
  have kk1 : Keep [a] H H1 := Keep.trans (.new nl) k1
  refine ac_call (ac_var rfl (ac_pu pu_c (ac_nil ⟨a, 26, N + 1, rfl, s1, by omega, by decide, by decide, fun H2 f k2 s2 f0 f1 => ?_⟩)))
  have kk2 := kk1.trans k2
  refine ⟨by show 2 ≤ sizeLine; decide, fun p np => ?_⟩
  have kk3 : Keep [a] H (upd H2 p (.tup [.str stem, .int f])) := kk2.trans (.new np)
  have s3 : Src (upd H2 p (.tup [.str stem, .int f])) a (N + 2) := s2.keep (S := []) (.new np) (by simp)
  refine g_tup2 (.inl (.inl upd_same)) ?_
  generalize upd H2 p (.tup [.str stem, .int f]) = H3 at kk3 s3 ⊢
  -- found
  have sl := (stem_ok hst).1
  refine sq_doN (lcp_rng1 (n := min (n : Int) 26) (f := fun i => .str (nameAt stem f i)) ?_ (by omega) (by omega) (fun _ => rfl) (fun i Hh hi kp => ?_) fun D H4 k4 nD eD => ?_)
  · have e : (if (26 : Int) < (n : Int) then (26 : Int) else (n : Int)) = min (n : Int) 26 := by omega
    rw [← e]
    walk_at "pu"
  · refine pu_op (pu_var rfl) (pu_op pu_c (pu_op (pu_op (pu_var rfl) (pu_op pu_c (pu_var rfl) (pur_i rfl (.inl ⟨by decide, by decide⟩))) (pur_i0 rfl)) pu_c (pur_i rfl (show (0 : Int) < 26 by decide))) (pur_ixS (c := 97 + ((f + 7 * (0 + (i : Int))) % 26).toNat) (by decide) ?_)) ?_
    · exact alpha_at _ (Int.emod_nonneg _ (by decide)) (Int.emod_lt_of_pos _ (by decide))
    · have e : nameAt stem f i = stem ++ ⟨#[97 + ((f + 7 * (0 + (i : Int))) % 26).toNat]⟩ := by
        unfold nameAt letter
        rw [Int.zero_add]
      rw [e]
      refine pur_str (sz ?_)
      have : (⟨#[97 + ((f + 7 * (0 + (i : Int))) % 26).toNat]⟩ : Str).length = 1 := rfl
      omega
  have kk4 : Keep [a] H H4 := kk3.trans (k4.of0)
  have s4 : Src H4 a (N + 2) := s3.keep k4 (by simp)
  have en : (min (n : Int) 26).toNat = min n 26 := by omega
  rw [en] at eD
  have fin : ∀ (m : Nat) (M : Addr) (H5 : Hp), Keep [] H4 H5 → H5 M = some (.lst ((List.range m).map fun i => .str (("x" : Str) ++ nameAt stem f i))) → m = n - 26 → tRet (tCB (rSortedS K) (tCons (tOp rCat (tVar 4) (tVar 5)) tNil)) { nx := fun _ H' => Q .non H', rt := Q } [some (.ref a), some (.int n), some (.str stem), some (.int f), some (.ref D), some (.ref M), none] H5 := by
    intro m M H5 k5 eM em
    have eD5 := k5 D _ (by simp) eD
    refine su_retE ?_
    refine al_cons (al_op ⟨_, rfl, _, rfl, D, M, _, _, rfl, rfl, eD5, eM, ?_, fun r nr => ?_⟩)
    · refine sz ?_
      simp
      omega
    refine ac_nil ⟨r, allNames stem f (min n 26) m, rfl, .inl (.inl ?_), ?_, fun ys p pm so np' => ?_⟩
    · rw [upd_same]
      unfold allNames
      simp [List.map_map, Function.comp_def]
    · unfold allNames
      simp
      omega
    · have nd := allNames_nodup (stem := stem) (f := f) (n := min n 26) (m := m) (by omega) (by omega)
      have np5 : H5 p = none := Keep.back (S := []) (.new nr) (by simp) np'
      have kk5 : Keep [a] H H5 := kk4.trans k5.of0
      have k6 : Keep [] H5 (upd (upd H5 r (.lst ((List.range (min n 26)).map (fun i => .str (nameAt stem f i)) ++ (List.range m).map fun i => .str (("x" : Str) ++ nameAt stem f i)))) p (.lst (ys.map V.str))) := .trans (.new nr) (.new np')
      refine q _ p ys (kk5.trans k6.of0) ((s4.keep k5 (by simp)).keep k6 (by simp)) (kk5.back ?_ np5) upd_same (asc_of_sorted so (pm.nodup_iff.mpr nd)) (fun y hy => ?_) ?_
      · have := (s4.keep k5 (by simp)).ne np5
        simpa using this
      · have hy' := pm.mem_iff.mp hy
        unfold allNames at hy'
        rcases List.mem_append.mp hy' with hy' | hy'
        · obtain ⟨i, _, rfl⟩ := List.mem_map.mp hy'
          exact (nameAt_ok hst i).1
        · obtain ⟨i, _, rfl⟩ := List.mem_map.mp hy'
          exact (nameAt_ok hst i).2
      · rw [pm.length_eq]
        unfold allNames
        simp
        omega
  -- more
  refine sq_ifE (b := decide ((n : Int) ≤ 52)) (by walk_at "pu") _ _ (fun _ => ?_) fun e => absurd (of_decide_eq_false e) (by omega)
  refine lcp_rng2 (lo := 26) (n := (n : Int)) (f := fun i => .str (("x" : Str) ++ nameAt stem f i)) (by walk_at "pu") (by omega) (by omega) (by omega) (fun _ => rfl) (fun i Hh hi kp => ?_) fun M H5 k5 nM eM => ?_
  · have hD : SqL K Hh D ((List.range (min n 26)).map fun i => .str (nameAt stem f i)) := .inl (.inl (kp D _ (by simp) eD))
    have hi2 : i < n - 26 := by omega
    have im : (26 + (i : Int)) % 26 = (i : Int) := by omega
    refine pu_op pu_c (pu_op (pu_var rfl) (pu_op (pu_var rfl) pu_c (pur_i rfl (show (0 : Int) < 26 by decide))) (pur_ixL (v := .str (nameAt stem f i)) hD ?_)) (pur_str (sz ?_))
    · show atI _ ((26 + (i : Int)) % 26) = _
      rw [im]
      refine atI_in ?_
      rw [List.getElem?_map, List.getElem?_range (by omega)]
      rfl
    · rw [nameAt_len]
      have h1 : (("x" : Str)).length = 1 := by decide +kernel
      omega
  · refine fin ((n : Int) - 26).toNat M H5 k5 eM (by omega)
end
end GL

set_option Elab.async false
set_option linter.all false
set_option maxRecDepth 100000
set_option maxHeartbeats 4000000
set_option exponentiation.threshold 100000
namespace GL
open PySem PySem.Spec PyProof.Rows L2
local macro_rules | `(tactic| walk_at "pu") => `(tactic| repeat' (first
  | ((with_reducible apply pu_var); rfl) | with_reducible exact pu_c | with_reducible exact pua_nil | ((with_reducible apply pur_i0); rfl) | with_reducible exact puu_neg | with_reducible exact puc_abs | with_reducible exact puc_intB
  | with_reducible exact puc_min | with_reducible exact puc_max | with_reducible exact puo_none
  | with_reducible apply pu_op | with_reducible apply pu_cb | with_reducible apply pua_cons | with_reducible refine put_test ?_ | with_reducible refine put_B ?_ | with_reducible refine put_not ?_ | with_reducible refine pu_notV ?_
  | with_reducible apply pu_un | with_reducible refine puo_some ?_ | ((with_reducible apply pur_i); rfl) | with_reducible exact pur_eq rfl | with_reducible exact pur_ne rfl | exact puc_lenL (by assumption) | exact puc_lenT (by assumption)
  | ((with_reducible apply pur_ixL); assumption) | ((with_reducible apply pur_ixT); assumption) | with_reducible apply pur_ixS | with_reducible apply pur_str))
local macro_rules | `(tactic| walk_at "side") => `(tactic| first
  | exact (show (0 : Int) < _ by decide) | exact Or.inl ⟨by decide, by decide⟩ | exact Or.inr ⟨by decide, by decide⟩ | exact Or.inl ⟨by omega, by omega⟩ | exact Or.inr ⟨by omega, by omega⟩
  | exact ⟨by decide, by decide, by decide⟩ | exact ⟨by decide, by decide⟩ | assumption | omega | exact ⟨by decide, by decide +kernel⟩)
/-- a module of a project -/
structure Mod where
  name : Str
  imps : List Str
  eff : Bool
def kindS (b : Bool) : Str := if b then "effect" else "pure"
def modD (m : Mod) : PyData := .tuple [.str m.name, .tuple (m.imps.map .str), .str (kindS m.eff)]
def projD (p : List Mod) : PyData := .tuple (p.map modD)
structure ProjOk (p : List Mod) : Prop where
  asc : Asc (p.map (·.name))
  nm : ∀ m ∈ p, NameOk m.name
  nd : ∀ m ∈ p, m.imps.Nodup
  own : ∀ m ∈ p, m.name ∉ m.imps
  inn : ∀ m ∈ p, ∀ i ∈ m.imps, i ∈ p.map (·.name)
/-- the value v is a tuple that stands for the module m -/
def MV (H : Hp) (v : V) (m : Mod) : Prop := ∃ t u, v = .ref t ∧ H t = some (.tup [.str m.name, .ref u, .str (kindS m.eff)]) ∧ H u = some (.tup (m.imps.map V.str))
theorem MV.tk {H H' : Hp} {v : V} {m : Mod} (h : MV H v m) (k : TKeep H H') : MV H' v m := by
  obtain ⟨t, u, e, h1, h2⟩ := h
  exact ⟨t, u, e, (k t).1 _ h1, (k u).1 _ h2⟩
theorem paired_tk {H H' : Hp} (k : TKeep H H') : ∀ {vs : List V} {ms : List Mod}, Paired (MV H) vs ms → Paired (MV H') vs ms
  | _, _, .nil => .nil
  | _, _, .cons a r => .cons (a.tk k) (paired_tk k r)
theorem paired_app {H : Hp} {v : V} {m : Mod} (h : MV H v m) : ∀ {vs : List V} {ms : List Mod}, Paired (MV H) vs ms → Paired (MV H) (vs ++ [v]) (ms ++ [m])
  | _, _, .nil => .cons h .nil
  | _, _, .cons a r => .cons a (paired_app h r)
theorem dp_strs {K : PySem.W.Frag} {H : Hp} : ∀ (zs : List Str), DpAll K H (zs.map V.str) (zs.map .str)
  | [] => .nil
  | z :: zs => .cons (.str z) (dp_strs zs)
theorem MV.dp {K : PySem.W.Frag} {H : Hp} {v : V} {m : Mod} (h : MV H v m) : Dp K H v (modD m) := by
  obtain ⟨t, u, rfl, h1, h2⟩ := h
  exact .tup (.inl (.inl h1)) (.cons (.str _) (.cons (.tup (.inl (.inl h2)) (dp_strs _)) (.cons (.str _) .nil)))
theorem paired_dp {K : PySem.W.Frag} {H : Hp} : ∀ {vs : List V} {ms : List Mod}, Paired (MV H) vs ms → DpAll K H vs (ms.map modD)
  | _, _, .nil => .nil
  | _, _, .cons a r => .cons a.dp (paired_dp r)
def strsOf : List V → List Str
  | [] => []
  | .str z :: r => z :: strsOf r
  | _ :: r => strsOf r
theorem strsOf_map : ∀ zs : List Str, strsOf (zs.map V.str) = zs
  | [] => rfl
  | z :: zs => by
    show z :: strsOf (zs.map V.str) = z :: zs
    rw [strsOf_map zs]
/-- the module that a value stands for -/
def modOf (H : Hp) : V → Mod
  | .ref t => (match H t with
    | some (.tup [.str n, .ref u, .str k]) => (match H u with
      | some (.tup xs) => ⟨n, strsOf xs, decide (k = "effect")⟩
      | _ => ⟨n, [], true⟩)
    | _ => ⟨"", [], true⟩)
  | _ => ⟨"", [], true⟩
theorem kind_dec (b : Bool) : decide (kindS b = ("effect" : Str)) = b := by cases b <;> decide +kernel
theorem MV.of {H : Hp} {v : V} {m : Mod} (h : MV H v m) : modOf H v = m := by
  obtain ⟨t, u, rfl, h1, h2⟩ := h
  show (match H t with
    | some (.tup [.str n, .ref u, .str k]) => (match H u with
      | some (.tup xs) => (⟨n, strsOf xs, decide (k = "effect")⟩ : Mod)
      | _ => ⟨n, [], true⟩)
    | _ => ⟨"", [], true⟩) = m
  rw [h1]
  show (match H u with
      | some (.tup xs) => (⟨m.name, strsOf xs, decide (kindS m.eff = "effect")⟩ : Mod)
      | _ => ⟨m.name, [], true⟩) = m
  rw [h2]
  show (⟨m.name, strsOf (m.imps.map V.str), decide (kindS m.eff = "effect")⟩ : Mod) = m
  rw [strsOf_map, kind_dec]
theorem paired_of {H : Hp} : ∀ {vs : List V} {ms : List Mod}, Paired (MV H) vs ms → vs.map (modOf H) = ms ∧ ∀ v ∈ vs, MV H v (modOf H v)
  | _, _, .nil => ⟨rfl, fun _ h => nomatch h⟩
  | v :: vs, m :: ms, .cons a r => by
    obtain ⟨h1, h2⟩ := paired_of r
    refine ⟨by rw [List.map_cons, a.of, h1], fun x hx => ?_⟩
    rcases List.mem_cons.mp hx with rfl | hx
    · rw [a.of]
      exact a
    · exact h2 x hx
theorem paired_mk {H : Hp} : ∀ {vs : List V}, (∀ v ∈ vs, MV H v (modOf H v)) → Paired (MV H) vs (vs.map (modOf H))
  | [], _ => .nil
  | v :: vs, h => .cons (h v List.mem_cons_self) (paired_mk fun x hx => h x (List.mem_cons_of_mem _ hx))
theorem range_pick {α β : Type} (l : List α) (d : α) (p : α → Bool) (g : α → β) : ((List.range l.length).filter (fun i => p (l[i]?.getD d))).map (fun i => g (l[i]?.getD d)) = (l.filter p).map g := by
  have e : (List.range l.length).map (fun i => l[i]?.getD d) = l := by
    apply List.ext_getElem?
    intro i
    rw [List.getElem?_map]
    by_cases hi : i < l.length
    · rw [List.getElem?_range hi]
      simp [List.getElem?_eq_getElem hi]
    · rw [List.getElem?_eq_none (by simpa using hi), List.getElem?_eq_none (by simpa using hi)]
      rfl
  have h2 : (l.filter p) = ((List.range l.length).filter (fun i => p (l[i]?.getD d))).map (fun i => l[i]?.getD d) := by
    conv => lhs; rw [← e]
    rw [List.filter_map]
    rfl
  rw [h2, List.map_map]
  rfl
theorem cut_take {xs : List V} (r : Nat) : cutV xs none (some (r : Int)) = xs.take r := by
  unfold cutV
  rw [HT.sIx_none, HT.sIx_nat]
  simp only [List.drop_zero, Nat.sub_zero]
  by_cases h : r ≤ xs.length
  · rw [Nat.min_eq_left h]
  · rw [Nat.min_eq_right (by omega), List.take_of_length_le (Nat.le_refl _), List.take_of_length_le (by omega)]
def spProject (K : PySem.W.Frag) : Sp := fun vs H Q _ => ∃ (a : Addr) (mo wi N : Nat), vs = [.ref a, .int mo, .int wi] ∧ Src H a N ∧ N + 3000 ≤ 900000 ∧ 1 ≤ mo ∧ mo ≤ 52 ∧ wi ≤ 19 ∧
  ∀ H' v p, Keep [a] H H' → Src H' a (N + 3000) → Dp K H' v (projD p) → ProjOk p → 1 ≤ p.length → p.length ≤ mo → (∀ m ∈ p, m.imps.length ≤ max 3 wi) → Q v H'
def t_project (K : PySem.W.Frag) : TS :=
  (tSeq (tPar 3 4 (tCons (tCall (spMixed K) [] E0 (tCons (tVar 0) (tCons (tCall (spNames K) [] E0 (tCons (tVar 0) (tCons (tOp rAdd (tC (.int 1)) (tCall spDraw [] E0 (tCons (tVar 0) (tCons (tVar 1) tNil)))) tNil))) tNil))) (tCons (tLst tNil) tNil)))
    (tSeq (tAsg (tOp rEq (tCall spDraw [] E0 (tCons (tVar 0) (tCons (tC (.int 3)) tNil))) (tC (.int 0))) (gName 5))
    (tSeq (tFor (iEnum K (tCons (tVar 3) tNil)) (gTup K 2 (gCons (gName 6) (gCons (gName 7) gNil))) (tSeq (tAsg (tIf (tB (tVar 5)) (tLc (iList K (tVar 3)) (gName 11) (tTest (tOp rNe (tVar 11) (tVar 7))) (tVar 11) [11]) (tSl (rSlL K) (tVar 3) tNoPart (tPart (tVar 6)))) (gName 8))
    (tSeq (tAsg (tIf (tTest (tOp rLt (tVar 6) (tOp rSub (tCB (rLenQ K) (tCons (tVar 3) tNil)) (tC (.int 1))))) (tC (.int 4)) (tOp rAdd (tVar 2) (tC (.int 1)))) (gName 9))
    (tSeq (tAsg (tSl (rSlL K) (tCall (spMixed K) [] E0 (tCons (tVar 0) (tCons (tVar 8) tNil))) tNoPart (tPart (tCall spDraw [] E0 (tCons (tVar 0) (tCons (tCB rMin2 (tCons (tVar 9) (tCons (tOp rAdd (tCB (rLenQ K) (tCons (tVar 8) tNil)) (tC (.int 1))) tNil))) tNil))))) (gName 10))
    (tDrop (tBM K "list" rAppend (tVar 4) (tCons (tTup (tCons (tVar 7) (tCons (tCB (rTupQ K) (tCons (tVar 10) tNil)) (tCons (tCall (spChoice K) [] E0 (tCons (tVar 0) (tCons (tLst (tCons (tC (.str "effect")) (tCons (tC (.str "effect")) (tCons (tC (.str "pure")) tNil)))) tNil))) tNil)))) tNil)))))))
    (tRet (tCB (rTupQ K) (tCons (tCB (rSortM K) (tCons (tVar 4) tNil)) tNil))))))

end GL

set_option Elab.async false
set_option linter.all false
set_option maxRecDepth 100000
set_option maxHeartbeats 4000000
set_option exponentiation.threshold 100000
namespace GL
open PySem PySem.Spec PyProof.Rows L2
local macro_rules | `(tactic| walk_at "pu") => `(tactic| repeat' (first
  | ((with_reducible apply pu_var); rfl) | with_reducible exact pu_c | with_reducible exact pua_nil | ((with_reducible apply pur_i0); rfl) | with_reducible exact puu_neg | with_reducible exact puc_abs | with_reducible exact puc_intB
  | with_reducible exact puc_min | with_reducible exact puc_max | with_reducible exact puo_none
  | with_reducible apply pu_op | with_reducible apply pu_cb | with_reducible apply pua_cons | with_reducible refine put_test ?_ | with_reducible refine put_B ?_ | with_reducible refine put_not ?_ | with_reducible refine pu_notV ?_
  | with_reducible apply pu_un | with_reducible refine puo_some ?_ | ((with_reducible apply pur_i); rfl) | with_reducible exact pur_eq rfl | with_reducible exact pur_ne rfl | exact puc_lenL (by assumption) | exact puc_lenT (by assumption)
  | ((with_reducible apply pur_ixL); assumption) | ((with_reducible apply pur_ixT); assumption) | with_reducible apply pur_ixS | with_reducible apply pur_str))
local macro_rules | `(tactic| walk_at "side") => `(tactic| first
  | exact (show (0 : Int) < _ by decide) | exact Or.inl ⟨by decide, by decide⟩ | exact Or.inr ⟨by decide, by decide⟩ | exact Or.inl ⟨by omega, by omega⟩ | exact Or.inr ⟨by omega, by omega⟩
  | exact ⟨by decide, by decide, by decide⟩ | exact ⟨by decide, by decide⟩ | assumption | omega | exact ⟨by decide, by decide +kernel⟩)
theorem sq_par {σ : L2.St} {H : Hp} {D : Ends} {tw : TS} {ta : TA} {i j : Nat} (h : ta σ H fun vs H1 => ∃ v w, vs = [v, w] ∧ tw D ((σ.set i (some v)).set j (some w)) H1) : tSeq (tPar i j ta) tw D σ H := h
theorem strs_perm {xs : List V} {ns : List Str} (pm : xs.Perm (ns.map V.str)) : ∃ ms : List Str, xs = ms.map V.str ∧ ms.Perm ns := by
  refine ⟨strsOf xs, ?_, ?_⟩
  · have all : ∀ v ∈ xs, ∃ z, v = V.str z := fun v hv => by
      obtain ⟨z, _, e⟩ := List.mem_map.mp (pm.mem_iff.mp hv)
      exact ⟨z, e.symm⟩
    clear pm
    induction xs with
    | nil => rfl
    | cons x r ih =>
      obtain ⟨z, rfl⟩ := all x List.mem_cons_self
      show _ = V.str z :: (strsOf r).map V.str
      rw [← ih fun v hv => all v (List.mem_cons_of_mem _ hv)]
  · have := (show (xs.filterMap fun v => match v with | .str z => some z | _ => none).Perm ((ns.map V.str).filterMap fun v => match v with | .str z => some z | _ => none) from pm.filterMap _)
    have f1 : ∀ l : List V, (l.filterMap fun v => match v with | .str z => some z | _ => none) = strsOf l := by
      intro l
      induction l with
      | nil => rfl
      | cons x r ih => cases x <;> simp [strsOf, ih]
    rw [f1, f1, strsOf_map] at this
    exact this
theorem sq_enum {K : PySem.W.Frag} {σ : L2.St} {H : Hp} {D : Ends} {tw tb : TS} {ta : TA} {i1 i2 : Nat} {a : Addr} {xs : List V} (h : PuA ta σ H [.ref a]) (hx : SqL K H a xs) (Pv : Nat → L2.St → Hp → Prop) (h0 : Pv 0 σ H) (hG : ∀ i σ' H', i ≤ xs.length → Pv i σ' H' → SqL K H' a xs)
    (hs : ∀ (i : Nat) x σ' H' T, xs[i]? = some x → Pv i σ' H' → H' T = none → tb { D with nx := Pv (i + 1), ct := Pv (i + 1), bk := tw D } ((σ'.set i1 (some (.int (i : Int)))).set i2 (some x)) (upd H' T (.tup [.int (i : Int), x])))
    (hd : ∀ σ' H', Pv xs.length σ' H' → tw D σ' H') : tSeq (tFor (iEnum K ta) (gTup K 2 (gCons (gName i1) (gCons (gName i2) gNil))) tb) tw D σ H := by
  refine h _ ⟨a, xs, rfl, hx, ?_⟩
  refine for_it (walk_enum (xs := xs)) Pv h0 hG ?_ hd
  rintro i x σ' H' H'' hi p ⟨T, u, y, rfl, nT, rfl, eu, ey⟩
  cases eu
  exact g_tup2 (.inl (.inl upd_same)) (hs i y σ' H' T ey p nT)
theorem ad_part {σ : L2.St} {H : Hp} {te : TE} {QO : Option Int → Hp → Prop} (h : te σ H fun x H1 => ∃ i, x = .int i ∧ QO (some i) H1) : tPart te σ H QO := h
theorem ad_nop {σ : L2.St} {H : Hp} {QO : Option Int → Hp → Prop} (h : QO none H) : tNoPart σ H QO := h
theorem ad_drop {σ : L2.St} {H : Hp} {D : Ends} {te : TE} (h : te σ H fun _ H1 => D.nx σ H1) : tDrop te D σ H := h
theorem ad_sl {σ : L2.St} {H : Hp} {Q : VK} {r : V → Option Int → Option Int → Hp → VK → Prop} {te : TE} {tl th : TO} (h : te σ H fun x H1 => tl σ H1 fun l H2 => th σ H2 fun u H3 => r x l u H3 Q) : tSl r te tl th σ H Q := h
/-- what is known of a module that was drawn -/
structure ModIn (ms : List Str) (wi : Nat) (m : Mod) : Prop where
  nd : m.imps.Nodup
  own : m.name ∉ m.imps
  inn : ∀ i ∈ m.imps, i ∈ ms
  len : m.imps.length ≤ max 3 wi
theorem kinds_at {i : Nat} {v : V} (h : ([V.str "effect", V.str "effect", V.str "pure"] : List V)[i]? = some v) : ∃ b, v = .str (kindS b) := by
  match i, h with
  | 0, h => exact ⟨true, (Option.some.inj h).symm⟩
  | 1, h => exact ⟨true, (Option.some.inj h).symm⟩
  | 2, h => exact ⟨false, (Option.some.inj h).symm⟩
theorem sorted_proj {H : Hp} {rs ys : List V} {fs : List Mod} {ms : List Str} {wi : Nat} (pr : Paired (MV H) rs fs) (en : fs.map (·.name) = ms) (ok : ∀ m ∈ fs, ModIn ms wi m) (hnm : ∀ y ∈ ms, NameOk y)
    (pm : ys.Perm rs) (pw : ys.Pairwise fun x y => sLt (modOf H x).name (modOf H y).name = true) :
    Paired (MV H) ys (ys.map (modOf H)) ∧ ProjOk (ys.map (modOf H)) ∧ (ys.map (modOf H)).length = fs.length ∧ ∀ m ∈ ys.map (modOf H), m.imps.length ≤ max 3 wi := by
  obtain ⟨e1, h1⟩ := paired_of pr
  have pm2 : (ys.map (modOf H)).Perm fs := e1 ▸ pm.map (modOf H)
  have pmn : ((ys.map (modOf H)).map (·.name)).Perm ms := en ▸ pm2.map (·.name)
  refine ⟨paired_mk fun v hv => h1 v (pm.mem_iff.mp hv), ⟨?_, fun m hm => hnm _ (pmn.mem_iff.mp (List.mem_map.mpr ⟨m, hm, rfl⟩)), fun m hm => (ok m (pm2.mem_iff.mp hm)).nd, fun m hm => (ok m (pm2.mem_iff.mp hm)).own, fun m hm i hi => pmn.mem_iff.mpr ((ok m (pm2.mem_iff.mp hm)).inn i hi)⟩, pm2.length_eq, fun m hm => (ok m (pm2.mem_iff.mp hm)).len⟩
  unfold Asc
  rw [List.map_map]
  exact List.pairwise_map.mpr pw
set_option maxHeartbeats 8000000 in
theorem pure_project {K : PySem.W.Frag} (vs : List V) (H : Hp) (Q : VK) (E : XK) (h : spProject K vs H Q E) : t_project K { nx := fun _ H' => Q .non H', rt := Q } (vs.map some ++ [none, none, none, none, none, none, none, none, none]) H := by
  obtain ⟨a, mo, wi, N, rfl, hs, hN, hm1, hm2, hw, q⟩ := h
  unfold t_project
  refine sq_par (ac_call (ac_var rfl (ac_call (ac_var rfl (al_cons (al_opP pu_c (ad_call (ac_var rfl (ac_var rfl (ac_nil ⟨a, mo, N, rfl, hs, by omega, by omega, by omega, fun H1 r k1 s1 r0 r1 => ?_⟩))))))))))
  obtain ⟨r, rfl⟩ := Int.eq_ofNat_of_zero_le r0
  refine ⟨1, r, rfl, rfl, ac_nil ⟨a, 1 + r, N + 1, rfl, s1, by omega, by omega, fun H2 pn ns k2 s2 _ en asc nok nl => ?_⟩⟩
  have kk2 := k1.trans k2
  refine ac_nil ⟨a, pn, ns.map V.str, N + 1 + 2, rfl, s2, by simp; omega, .inl (.inl (.inl en)), ?_, by simp; omega, fun H3 M xs k3 s3 _ eM pm => ?_⟩
  · intro z
    obtain ⟨_, _, _, e, _⟩ := s2
    rw [z, e] at en
    have := congrArg List.length (HO.lst.inj (Option.some.inj en))
    cases ns with
    | nil => simp at this
    | cons x r =>
      have e0 := (List.cons.inj (HO.lst.inj (Option.some.inj en))).1
      cases e0
  have kk3 := kk2.trans k3
  obtain ⟨ms, rfl, pms⟩ := strs_perm pm
  have ml : ms.length = 1 + r := pms.length_eq.trans nl
  have mnd : ms.Nodup := pms.nodup_iff.mpr (asc.imp fun {x y} z e => by
    subst e
    rw [(sLt_swo (fun z : Str => z)).refl x] at z
    cases z)
  have mok : ∀ y ∈ ms, NameOk y := fun y hy => nok y (pms.mem_iff.mp hy)
  refine ac_lst pua_nil (by decide) fun F nF => ac_nil ⟨_, _, rfl, ?_⟩
  have nFa := s3.ne nF
  have nFM : F ≠ M := fun z => by rw [z, eM] at nF; cases nF
  have s4 : Src (upd H3 F (.lst [])) a (N + 3 + ms.length) := by
    refine (s3.keep (S := []) (.new nF) (by simp)).mono ?_
    rw [List.length_map, pms.length_eq]
    omega
  have kk4 : Keep [a] H (upd H3 F (.lst [])) := kk3.trans (.new nF)
  have eM4 : (upd H3 F (.lst [])) M = some (.lst (ms.map V.str)) := by rw [upd_ne nFM.symm]; exact eM
  have eF4 : (upd H3 F (.lst [])) F = some (.lst []) := upd_same
  have hF0 : H F = none := kk3.back (by simpa using nFa) nF
  generalize upd H3 F (.lst []) = H4 at s4 kk4 eM4 eF4 ⊢
  -- has_cycles
  refine sq_doN (al_op (ad_call (ac_var rfl (ac_pu pu_c (ac_nil ⟨a, 3, _, rfl, s4, by omega, by decide, by decide, fun H5 c k5 s5 c0 c1 => ?_⟩)))))
  refine (pu_c : Pu (tC (.int 0)) _ _ _) _ ⟨rfl, ?_⟩
  have nMa : M ≠ a := fun z => by
    obtain ⟨_, _, _, e, _⟩ := s4
    rw [z, e] at eM4
    cases ms with
    | nil => simp at ml; omega
    | cons x r => cases (List.cons.inj (HO.lst.inj (Option.some.inj eM4))).1
  have kk5 := kk4.trans k5
  have eM5 := k5 M _ (by simpa using nMa) eM4
  have eF5 := k5 F _ (by simpa using nFa) eF4
  generalize hcyc : decide (V.int c = V.int 0) = cy
  -- the loop
  refine sq_enum (a := M) (xs := ms.map V.str) (by walk_at "pu") (.inl (.inl eM5)) (fun i σ' H' => ∃ y6 y7 y8 y9 y10 y11 rs fs, σ' = [some (.ref a), some (.int mo), some (.int wi), some (.ref M), some (.ref F), some (.bl cy), y6, y7, y8, y9, y10, y11] ∧ Keep [a] H H' ∧ Src H' a (N + 4 + ms.length + i * 54) ∧
    H' M = some (.lst (ms.map V.str)) ∧ H' F = some (.lst rs) ∧ Paired (MV H') rs fs ∧ fs.map (·.name) = ms.take i ∧ ∀ m ∈ fs, ModIn ms wi m) ⟨none, none, none, none, none, none, [], [], by rw [← hcyc]; rfl, kk5, s5.mono (by omega), eM5, eF5, .nil, rfl, fun _ z => nomatch z⟩ ?_ ?_ ?_
  · rintro i σ' H' _ ⟨_, _, _, _, _, _, _, _, _, _, _, e, _⟩
    exact .inl (.inl e)
  · rintro i x σ' H' T ex ⟨y6, y7, y8, y9, y10, y11, rs, fs, rfl, kk, ss, eM', eF', pr, en', ok'⟩ nT
    obtain ⟨hi, ex2⟩ := List.getElem?_eq_some_iff.mp ex
    rw [List.length_map] at hi
    obtain rfl : x = V.str ms[i] := by rw [← ex2]; simp
    have k6 : Keep [] H' (upd H' T (.tup [.int (i : Int), .str ms[i]])) := .new nT
    have ss6 := ss.keep k6 (by simp)
    have eM6 := k6 M _ (by simp) eM'
    have eF6 := k6 F _ (by simp) eF'
    have pr6 := paired_tk k6.tk pr
    have kk6 : Keep [a] H _ := kk.trans k6.of0
    generalize upd H' T (.tup [.int (i : Int), .str ms[i]]) = H6 at k6 ss6 eM6 eF6 pr6 kk6 ⊢
    have rlen : rs.length = i := by
      have h1 : rs.length = fs.length := pr.length
      have h2 := congrArg List.length en'
      rw [List.length_map, List.length_take] at h2
      omega
    have rest : ∀ (rt0 : VK) (ct0 bk0 : L2.St → Hp → Prop) (os : List Str) (O : Addr) (H7 : Hp), Keep [] H6 H7 → H7 O = some (.lst (os.map V.str)) → O ≠ a → os.Nodup → ms[i] ∉ os → (∀ o ∈ os, o ∈ ms) → os.length ≤ 52 → tSeq
        (tAsg (tIf (tTest (tOp rLt (tVar 6) (tOp rSub (tCB (rLenQ K) (tCons (tVar 3) tNil)) (tC (.int 1))))) (tC (.int 4)) (tOp rAdd (tVar 2) (tC (.int 1)))) (gName 9))
        (tSeq (tAsg (tSl (rSlL K) (tCall (spMixed K) [] E0 (tCons (tVar 0) (tCons (tVar 8) tNil))) tNoPart (tPart (tCall spDraw [] E0 (tCons (tVar 0) (tCons (tCB rMin2 (tCons (tVar 9) (tCons (tOp rAdd (tCB (rLenQ K) (tCons (tVar 8) tNil)) (tC (.int 1))) tNil))) tNil))))) (gName 10))
        (tDrop (tBM K "list" rAppend (tVar 4) (tCons (tTup (tCons (tVar 7) (tCons (tCB (rTupQ K) (tCons (tVar 10) tNil)) (tCons (tCall (spChoice K) [] E0 (tCons (tVar 0) (tCons (tLst (tCons (tC (.str "effect")) (tCons (tC (.str "effect")) (tCons (tC (.str "pure")) tNil)))) tNil))) tNil)))) tNil))))
        { nx := fun σ' H' => ∃ y6 y7 y8 y9 y10 y11 rs fs, σ' = [some (.ref a), some (.int mo), some (.int wi), some (.ref M), some (.ref F), some (.bl cy), y6, y7, y8, y9, y10, y11] ∧ Keep [a] H H' ∧ Src H' a (N + 4 + ms.length + (i + 1) * 54) ∧
          H' M = some (.lst (ms.map V.str)) ∧ H' F = some (.lst rs) ∧ Paired (MV H') rs fs ∧ fs.map (·.name) = ms.take (i + 1) ∧ ∀ m ∈ fs, ModIn ms wi m,
          rt := rt0, ct := ct0, bk := bk0 } [some (.ref a), some (.int mo), some (.int wi), some (.ref M), some (.ref F), some (.bl cy), some (.int (i : Int)), some (.str ms[i]), some (.ref O), y9, y10, y11] H7 := by
      intro rt0 ct0 bk0 os O H7 k7 eO nOa ond onm oin ol
      have eM7 := k7 M _ (by simp) eM6
      have eF7 := k7 F _ (by simp) eF6
      have ss7 := ss6.keep k7 (by simp)
      have sM7 : SqL K H7 M (ms.map V.str) := .inl (.inl eM7)
      have sO7 : SqL K H7 O (os.map V.str) := .inl (.inl eO)
      obtain ⟨L, hL, L0, L1⟩ : ∃ L : Int, L = (if (i : Int) < (ms.length : Int) - 1 then 4 else (wi : Int) + 1) ∧ 1 ≤ L ∧ L ≤ max 3 (wi : Int) + 1 := ⟨_, rfl, by split <;> omega, by split <;> omega⟩
      refine sq_asg (v := .int L) (pu_if (b := decide ((i : Int) < (ms.length : Int) - 1)) ?_ (fun e => ?_) fun e => ?_) ?_
      · have e : ((ms.map V.str).length : Int) = (ms.length : Int) := by rw [List.length_map]
        rw [← e]
        walk_at "pu"
      · rw [hL, if_pos (of_decide_eq_true e)]
        exact pu_c
      · rw [hL, if_neg (of_decide_eq_false e)]
        walk_at "pu"
      have bound : (i + 1) * 54 = i * 54 + 54 := by omega
      have im : i * 54 ≤ 52 * 54 := Nat.mul_le_mul_right 54 (by omega)
      refine sq_doN (ad_sl (ad_call (ac_var rfl (ac_var rfl (ac_nil ⟨a, O, os.map V.str, _, rfl, ss7, by rw [List.length_map]; omega, .inl sO7, nOa, by rw [List.length_map]; omega, fun H8 Z zs k8 s8 _ eZ pz => ?_⟩)))))
      obtain ⟨zs, rfl, pzs⟩ := strs_perm pz
      rw [List.length_map] at s8
      have sO8 : SqL K H8 O (os.map V.str) := k8.sql (by simpa using nOa) sO7
      have nZa : Z ≠ a := fun z => by
        obtain ⟨_, _, _, e, _⟩ := s8
        rw [z, e] at eZ
        cases zs with
        | nil => cases eZ
        | cons x r => cases (List.cons.inj (HO.lst.inj (Option.some.inj eZ))).1
      refine ad_nop (ad_part (ad_call (ac_var rfl (ac_pu (x := .int (if (os.length : Int) + 1 < L then (os.length : Int) + 1 else L)) ?_ (ac_nil ⟨a, _, _, rfl, s8, by omega, ?_, ?_, fun H9 r k9 s9 r0 r1 => ?_⟩)))))
      · have e : ((os.map V.str).length : Int) = (os.length : Int) := by rw [List.length_map]
        rw [← e]
        walk_at "pu"
      · split <;> omega
      · split <;> omega
      obtain ⟨r, rfl⟩ := Int.eq_ofNat_of_zero_le r0
      have rL : (r : Int) < L := by
        split at r1 <;> omega
      refine ⟨_, rfl, Z, _, rfl, .inl (.inl (k9 Z _ (by simpa using nZa) eZ)), fun S nS => ?_⟩
      rw [cut_take, ← List.map_take]
      have kS : Keep [] H9 (upd H9 S (.lst ((zs.take r).map V.str))) := .new nS
      have eS : (upd H9 S (.lst ((zs.take r).map V.str))) S = some (.lst ((zs.take r).map V.str)) := upd_same
      have sS := s9.keep kS (by simp)
      have kkS : Keep [a] H6 _ := ((Keep.of0 k7).trans (k8.trans k9)).trans kS.of0
      generalize upd H9 S (.lst ((zs.take r).map V.str)) = H10 at kS eS sS kkS ⊢
      have eM10 := kkS M _ (by simpa using nMa) eM6
      have eF10 := kkS F _ (by simpa using nFa) eF6
      have pr10 := paired_tk (ss6.tk kkS) pr6
      refine ad_drop (al_bm (x := .ref F) (pu_var rfl) (.inl ⟨rfl, _, .inl (.inl eF10)⟩) (ac_tup (ac_var rfl (al_cons (al_tupL (xs := (zs.take r).map V.str) (by walk_at "pu") (.inl (.inl eS)) fun u nu => ?_)))))
      have ku : Keep [] H10 (upd H10 u (.tup ((zs.take r).map V.str))) := .new nu
      have eu : (upd H10 u (.tup ((zs.take r).map V.str))) u = some (.tup ((zs.take r).map V.str)) := upd_same
      have su := sS.keep ku (by simp)
      have kku := kkS.trans ku.of0
      generalize upd H10 u (.tup ((zs.take r).map V.str)) = H11 at ku eu su kku ⊢
      refine ac_call (ac_var rfl (ac_lst (by walk_at "pu") (by decide) fun l nl' => ac_nil ?_))
      have kl : Keep [] H11 (upd H11 l (.lst [.str "effect", .str "effect", .str "pure"])) := .new nl'
      refine ⟨a, l, _, _, rfl, su.keep kl (by simp), by omega, .inl (.inl upd_same), su.ne nl', by simp, by decide, fun H12 j v k12 s12 ej => ?_⟩
      obtain ⟨kb, rfl⟩ := kinds_at ej
      have kk12 : Keep [a] H6 H12 := (kku.trans kl.of0).trans k12
      have nua : u ≠ a := sS.ne nu
      have eu12 : H12 u = some (.tup ((zs.take r).map V.str)) := k12 u _ (by simpa using nua) (kl u _ (by simp) eu)
      refine ac_nil ⟨by show 3 ≤ sizeLine; decide, fun t nt => ac_nil ?_⟩
      have kt : Keep [] H12 (upd H12 t (.tup [.str ms[i], .ref u, .str (kindS kb)])) := .new nt
      have kk13 := kk12.trans kt.of0
      have mv : MV (upd H12 t (.tup [.str ms[i], .ref u, .str (kindS kb)])) (.ref t) ⟨ms[i], zs.take r, kb⟩ := ⟨t, u, rfl, upd_same, kt u _ (by simp) eu12⟩
      have s13 := s12.keep kt (by simp)
      generalize upd H12 t (.tup [.str ms[i], .ref u, .str (kindS kb)]) = H13 at kt kk13 mv s13 ⊢
      have eF13 := kk13 F _ (by simpa using nFa) eF6
      have eM13 := kk13 M _ (by simpa using nMa) eM6
      refine ⟨F, rs, .ref t, rfl, rfl, eF13, szl (by omega), ?_⟩
      have tkF : TKeep H13 (upd H13 F (.lst (rs ++ [.ref t]))) := Keep.tk1 (a := F) (.put .refl (.inl (by simp))) eF13
      refine ⟨_, _, _, _, _, _, rs ++ [.ref t], fs ++ [⟨ms[i], zs.take r, kb⟩], rfl, (kk6.trans kk13).put (.inr hF0), ?_, ?_, upd_same, paired_tk tkF (paired_app mv (paired_tk (ss6.tk kk13) pr6)), ?_, ?_⟩
      · refine (s13.keep (S := [F]) (.put .refl (.inl (by simp))) (by simpa using Ne.symm nFa)).mono ?_
        omega
      · rw [upd_ne nFM.symm]
        exact eM13
      · rw [List.map_append, en', List.take_add_one, List.getElem?_eq_getElem hi]
        rfl
      · intro m hm
        rcases List.mem_append.mp hm with hm | hm
        · exact ok' m hm
        · have : m = ⟨ms[i], zs.take r, kb⟩ := by simpa using hm
          subst this
          have sub : ∀ o ∈ zs.take r, o ∈ os := fun o ho => pzs.mem_iff.mp (List.mem_of_mem_take ho)
          refine ⟨?_, fun z => onm (sub _ z), fun o ho => oin o (sub o ho), ?_⟩
          · exact (pzs.nodup_iff.mpr ond).sublist (List.take_sublist _ _)
          · show (zs.take r).length ≤ max 3 wi
            rw [List.length_take]
            omega
    have sM6 : SqL K H6 M (ms.map V.str) := .inl (.inl eM6)
    refine sq_ifE (b := cy) (put_B (pu_var rfl)) _ _ (fun _ => ?_) fun _ => ?_
    · refine lcp_list (a := M) (xs := ms.map V.str) (it := fun j => .str (ms[j]?.getD "")) (b := fun j => !decide (V.str (ms[j]?.getD "") = V.str ms[i])) (f := fun j => .str (ms[j]?.getD "")) (pu_var rfl) sM6 (by rw [List.length_map]; omega) (fun j x e => ?_) (fun _ => rfl)
        (fun j H7 _ _ => put_test (pu_op (pu_var rfl) (pu_var rfl) (pur_ne rfl))) (fun j H7 _ _ _ => pu_var rfl) fun O H7 k7 nO eO => ?_
      · rw [List.getElem?_map] at e
        cases e2 : ms[j]? with
        | none => rw [e2] at e; cases e
        | some z => rw [e2] at e; cases e; rfl
      · rw [List.length_map, range_pick ms "" (fun z => !decide (V.str z = V.str ms[i])) V.str] at eO
        refine rest _ _ _ _ O H7 k7 eO (ss6.ne nO) (mnd.filter _) ?_ (fun o ho => (List.mem_filter.mp ho).1) ?_
        · intro z
          have := (List.mem_filter.mp z).2
          simp at this
        · exact Nat.le_trans (List.length_filter_le _ _) (by omega)
    · refine ad_sl ((pu_var rfl : Pu (tVar 3) _ _ _) _ (puo_none _ (puo_some (pu_var rfl) _ ⟨M, _, rfl, sM6, fun O nO => ?_⟩)))
      rw [cut_take, ← List.map_take]
      refine rest _ _ _ _ O _ (.new nO) upd_same (ss6.ne nO) (mnd.sublist (List.take_sublist _ _)) ?_ (fun o ho => List.mem_of_mem_take ho) ?_
      · intro z
        obtain ⟨j, hj, e⟩ := List.mem_take_iff_getElem.mp z
        have := (List.getElem_inj mnd).mp e
        omega
      · rw [List.length_take]
        omega
  · rintro σ' H' ⟨y6, y7, y8, y9, y10, y11, rs, fs, rfl, kk, ss, eM', eF', pr, en', ok'⟩
    rw [List.length_map, List.take_length] at en'
    rw [List.length_map] at ss
    refine su_retE (al_cons ?_)
    refine ac_var rfl (ac_nil ⟨F, rs, fun v => (modOf H' v).name, rfl, .inl (.inl eF'), fun v hv => ?_, ?_, fun ys p pmy pwy np => ?_⟩)
    · obtain ⟨t, u, e, h1, h2⟩ := (paired_of pr).2 v hv
      exact ⟨t, _, e, .inl (.inl h1)⟩
    · have e2 : rs.map (fun v => (modOf H' v).name) = ms := by
        rw [← en', ← (paired_of pr).1, List.map_map]
        rfl
      rw [e2]
      exact mnd
    · obtain ⟨g1, g2, g3, g4⟩ := sorted_proj pr en' ok' mok pmy pwy
      refine ac_nil ⟨p, ys, rfl, .inl ⟨.inl (.inl upd_same), fun l nl' => ?_⟩⟩
      have kA : Keep [] H' (upd (upd H' p (.lst ys)) l (.tup ys)) := .trans (.new np) (.new nl')
      have fl : fs.length = ms.length := by rw [← en', List.length_map]
      refine q _ _ (ys.map (modOf H')) (kk.trans kA.of0) ((ss.keep kA (by simp)).mono ?_) (.tup (.inl (.inl upd_same)) (paired_dp (paired_tk kA.tk g1))) g2 (by omega) (by omega) g4
      have : ms.length * 54 ≤ 52 * 54 := Nat.mul_le_mul_right 54 (by omega)
      omega
end GL

set_option Elab.async false
set_option linter.all false
set_option maxRecDepth 100000
set_option maxHeartbeats 4000000
set_option exponentiation.threshold 100000
namespace GL
open PySem PySem.Spec PyProof.Rows L2
local macro_rules | `(tactic| walk_at "pu") => `(tactic| repeat' (first
  | ((with_reducible apply pu_var); rfl) | with_reducible exact pu_c | with_reducible exact pua_nil | ((with_reducible apply pur_i0); rfl) | with_reducible exact puu_neg | with_reducible exact puc_abs | with_reducible exact puc_intB
  | with_reducible exact puc_min | with_reducible exact puc_max | with_reducible exact puo_none
  | with_reducible apply pu_op | with_reducible apply pu_cb | with_reducible apply pua_cons | with_reducible refine put_test ?_ | with_reducible refine put_B ?_ | with_reducible refine put_not ?_ | with_reducible refine pu_notV ?_
  | with_reducible apply pu_un | with_reducible refine puo_some ?_ | ((with_reducible apply pur_i); rfl) | with_reducible exact pur_eq rfl | with_reducible exact pur_ne rfl | exact puc_lenL (by assumption) | exact puc_lenT (by assumption)
  | ((with_reducible apply pur_ixL); assumption) | ((with_reducible apply pur_ixT); assumption) | with_reducible apply pur_ixS | with_reducible apply pur_str))
local macro_rules | `(tactic| walk_at "side") => `(tactic| first
  | exact (show (0 : Int) < _ by decide) | exact Or.inl ⟨by decide, by decide⟩ | exact Or.inr ⟨by decide, by decide⟩ | exact Or.inl ⟨by omega, by omega⟩ | exact Or.inr ⟨by omega, by omega⟩
  | exact ⟨by decide, by decide, by decide⟩ | exact ⟨by decide, by decide⟩ | assumption | omega | exact ⟨by decide, by decide +kernel⟩)
/-! ### data that can be shown, compared -/
mutual
def good : PyData → Bool
  | .none | .bool _ => true
  | .int i => decide (i.natAbs < 10 ^ 12)
  | .str x => x.cps.toList.all fun c => decide (c < 128)
  | .list xs | .tuple xs => goodAll xs
  | .dict _ => false
def goodAll : List PyData → Bool
  | [] => true
  | x :: xs => good x && goodAll xs
end
theorem str_lay {x : Str} (h : ∀ c ∈ x.cps.toList, c < 128) : PyData.strOk x = true := by
  unfold PyData.strOk
  rw [Array.all_eq_true_iff_forall_mem]
  intro c hc
  have := h c (by simpa using hc)
  simp
  omega
mutual
theorem good_ok : ∀ d : PyData, good d = true → d.showable = true ∧ d.hasDict = false ∧ d.leavesShort 13 = true ∧ d.canLay0 = true
  | .none, _ => ⟨rfl, rfl, rfl, rfl⟩
  | .bool _, _ => ⟨rfl, rfl, rfl, rfl⟩
  | .int i, h => by
    have h1 : i.natAbs < 10 ^ 12 := by simpa [good] using h
    refine ⟨?_, rfl, ?_, rfl⟩
    · simp only [PyData.showable, decide_eq_true_eq]
      exact log2_small (Nat.lt_trans h1 (by decide))
    · simp only [PyData.leavesShort, decide_eq_true_eq]
      exact PyData.shown_int_le h1
  | .str x, h => by
    have h1 : ∀ c ∈ x.cps.toList, c < 128 := by
      simp only [good, List.all_eq_true, decide_eq_true_eq] at h
      exact h
    refine ⟨rfl, rfl, ?_, ?_⟩
    · simp only [PyData.leavesShort, List.all_eq_true, decide_eq_true_eq]
      exact fun c hc => Nat.lt_trans (h1 c hc) (by decide)
    · simp only [PyData.canLay0]
      exact str_lay h1
  | .list xs, h => by
    obtain ⟨h1, h2, h3, h4⟩ := goodAll_ok xs (by simpa [good] using h)
    exact ⟨by simpa [PyData.showable] using h1, by simpa [PyData.hasDict] using h2, by simpa [PyData.leavesShort] using h3, by simpa [PyData.canLay0] using h4⟩
  | .tuple xs, h => by
    obtain ⟨h1, h2, h3, h4⟩ := goodAll_ok xs (by simpa [good] using h)
    exact ⟨by simpa [PyData.showable] using h1, by simpa [PyData.hasDict] using h2, by simpa [PyData.leavesShort] using h3, by simpa [PyData.canLay0] using h4⟩
  | .dict _, h => by simp [good] at h
theorem goodAll_ok : ∀ xs : List PyData, goodAll xs = true → PyData.showableAll xs = true ∧ PyData.hasDictAll xs = false ∧ PyData.leavesShortAll 13 xs = true ∧ PyData.canLayAll0 xs = true
  | [], _ => ⟨rfl, rfl, rfl, rfl⟩
  | x :: xs, h => by
    have h' : good x = true ∧ goodAll xs = true := by simpa [goodAll] using h
    obtain ⟨a1, a2, a3, a4⟩ := good_ok x h'.1
    obtain ⟨b1, b2, b3, b4⟩ := goodAll_ok xs h'.2
    simp [PyData.showableAll, PyData.hasDictAll, PyData.leavesShortAll, PyData.canLayAll0, a1, a2, a3, a4, b1, b2, b3, b4]
end
theorem good_shaped {d : PyData} (h : good d = true) (hd : d.depth ≤ 60) : SeqAt.shaped d = true := by
  unfold SeqAt.shaped
  rw [(good_ok d h).2.2.2]
  simp
  omega
theorem good_shown {d : PyData} (h : good d = true) (hw : d.weight ≤ 2 ^ 20) : d.shown.length ≤ sizeLine := PyData.shown_fits (by decide) (by decide) (good_ok d h).2.2.1 hw
theorem good_all_of {xs : List PyData} (h : ∀ x ∈ xs, good x = true) : goodAll xs = true := by
  induction xs with
  | nil => rfl
  | cons x r ih =>
    simp only [goodAll, Bool.and_eq_true]
    exact ⟨h x List.mem_cons_self, ih fun y hy => h y (List.mem_cons_of_mem _ hy)⟩
theorem weightAll_le {B : Nat} : ∀ {xs : List PyData}, (∀ x ∈ xs, x.weight ≤ B) → PyData.weightAll xs ≤ xs.length * (B + 1)
  | [], _ => by simp [PyData.weightAll]
  | x :: r, h => by
    have h1 := h x List.mem_cons_self
    have h2 := weightAll_le (xs := r) fun y hy => h y (List.mem_cons_of_mem _ hy)
    simp only [PyData.weightAll, List.length_cons, Nat.succ_mul]
    omega
theorem depthAll_le {B : Nat} : ∀ {xs : List PyData}, (∀ x ∈ xs, x.depth ≤ B) → PyData.depthAll xs ≤ B
  | [], _ => Nat.zero_le _
  | x :: r, h => by
    simp only [PyData.depthAll]
    exact Nat.max_le.mpr ⟨h x List.mem_cons_self, depthAll_le fun y hy => h y (List.mem_cons_of_mem _ hy)⟩
/-! ### of a project -/
theorem good_name {z : Str} (h : NameOk z) : good (.str z) = true := by
  simp only [good, List.all_eq_true, decide_eq_true_eq]
  exact fun c hc => by have := (h.2.2 c hc).2; omega
theorem good_strs {zs : List Str} (h : ∀ z ∈ zs, NameOk z) : goodAll (zs.map .str) = true := good_all_of fun x hx => by
  obtain ⟨z, hz, rfl⟩ := List.mem_map.mp hx
  exact good_name (h z hz)
/-- names are names, not too many imports, not too many modules -/
structure Small (p : List Mod) : Prop where
  nm : ∀ m ∈ p, NameOk m.name
  im : ∀ m ∈ p, ∀ i ∈ m.imps, NameOk i
  il : ∀ m ∈ p, m.imps.length ≤ 60
  pl : p.length ≤ 100
theorem ProjOk.small {p : List Mod} (h : ProjOk p) (il : ∀ m ∈ p, m.imps.length ≤ 60) (pl : p.length ≤ 100) : Small p := ⟨h.nm, fun m hm i hi => by
  obtain ⟨m', hm', e⟩ := List.mem_map.mp (h.inn m hm i hi)
  rw [← e]
  exact h.nm m' hm', il, pl⟩
theorem good_mod {m : Mod} (h1 : NameOk m.name) (h2 : ∀ i ∈ m.imps, NameOk i) : good (modD m) = true := by
  have hk : good (.str (kindS m.eff)) = true := by cases m.eff <;> decide +kernel
  have hi := good_strs h2
  simp only [modD, good, goodAll, Bool.and_eq_true, Bool.and_true]
  exact ⟨good_name h1, hi, hk⟩
theorem good_proj {p : List Mod} (h : Small p) : good (projD p) = true := by
  simp only [projD, good]
  refine good_all_of fun x hx => ?_
  obtain ⟨m, hm, rfl⟩ := List.mem_map.mp hx
  exact good_mod (h.nm m hm) (h.im m hm)
theorem depth_mod (m : Mod) : (modD m).depth ≤ 2 := by
  have : PyData.depthAll (m.imps.map .str) ≤ 0 := depthAll_le fun x hx => by
    obtain ⟨z, _, rfl⟩ := List.mem_map.mp hx
    exact Nat.le_refl _
  simp only [modD, PyData.depth, PyData.depthAll]
  omega
theorem depth_proj (p : List Mod) : (projD p).depth ≤ 3 := by
  have : PyData.depthAll (p.map modD) ≤ 2 := depthAll_le fun x hx => by
    obtain ⟨m, _, rfl⟩ := List.mem_map.mp hx
    exact depth_mod m
  simp only [projD, PyData.depth]
  omega
theorem weight_mod {m : Mod} (h1 : NameOk m.name) (h2 : ∀ i ∈ m.imps, NameOk i) (h3 : m.imps.length ≤ 60) : (modD m).weight ≤ 700 := by
  have a : PyData.weightAll (m.imps.map .str) ≤ (m.imps.map PyData.str).length * (10 + 1) := weightAll_le fun x hx => by
    obtain ⟨z, hz, rfl⟩ := List.mem_map.mp hx
    exact (h2 z hz).2.1
  rw [List.length_map] at a
  have b : m.name.cps.size ≤ 10 := h1.2.1
  have c : (kindS m.eff).cps.size ≤ 6 := by cases m.eff <;> decide +kernel
  simp only [modD, PyData.weight, PyData.weightAll]
  omega
theorem weight_proj {p : List Mod} (h : Small p) : (projD p).weight ≤ 70100 := by
  have a : PyData.weightAll (p.map modD) ≤ (p.map modD).length * (700 + 1) := weightAll_le fun x hx => by
    obtain ⟨m, hm, rfl⟩ := List.mem_map.mp hx
    exact weight_mod (h.nm m hm) (h.im m hm) (h.il m hm)
  rw [List.length_map] at a
  have b := h.pl
  have c : p.length * 701 ≤ 100 * 701 := Nat.mul_le_mul_right _ b
  simp only [projD, PyData.weight]
  omega
/-- Dp of data without lists is kept where tuples are -/
theorem dpAll_strs {K : PySem.W.Frag} {H : Hp} : ∀ {vs : List V} {zs : List Str}, DpAll K H vs (zs.map .str) → vs = zs.map V.str
  | _, [], .nil => rfl
  | _, z :: zs, .cons a r => by
    cases a
    rw [dpAll_strs r]
    rfl
theorem dp_mod {K : PySem.W.Frag} {H : Hp} {v : V} {m : Mod} (h : Dp K H v (modD m)) : ∃ t u, v = .ref t ∧ SqT K H t [.str m.name, .ref u, .str (kindS m.eff)] ∧ SqT K H u (m.imps.map V.str) := by
  cases h with
  | tup h1 h2 =>
    cases h2 with
    | cons a r =>
      cases a
      cases r with
      | cons b r =>
        cases b with
        | tup b1 b2 =>
          cases r with
          | cons c r =>
            cases c
            cases r
            rw [dpAll_strs b2] at b1
            exact ⟨_, _, rfl, h1, b1⟩
theorem mod_dp {K : PySem.W.Frag} {H : Hp} {m : Mod} {t u : Addr} (h1 : SqT K H t [.str m.name, .ref u, .str (kindS m.eff)]) (h2 : SqT K H u (m.imps.map V.str)) : Dp K H (.ref t) (modD m) :=
  .tup h1 (.cons (.str _) (.cons (.tup h2 (dp_strs _)) (.cons (.str _) .nil)))
theorem dp_mod_tk {K : PySem.W.Frag} {H H' : Hp} {v : V} {m : Mod} (h : Dp K H v (modD m)) (k : TKeep H H') : Dp K H' v (modD m) := by
  obtain ⟨t, u, rfl, h1, h2⟩ := dp_mod h
  exact mod_dp (k.sqt h1) (k.sqt h2)
theorem dpAll_tk {K : PySem.W.Frag} {H H' : Hp} (k : TKeep H H') : ∀ {vs : List V} {p : List Mod}, DpAll K H vs (p.map modD) → DpAll K H' vs (p.map modD)
  | _, [], .nil => .nil
  | _, _ :: _, .cons a r => .cons (dp_mod_tk a k) (dpAll_tk k r)
theorem dp_proj {K : PySem.W.Frag} {H : Hp} {v : V} {p : List Mod} (h : Dp K H v (projD p)) : ∃ t xs, v = .ref t ∧ SqT K H t xs ∧ DpAll K H xs (p.map modD) := by
  cases h with
  | tup h1 h2 => exact ⟨_, _, rfl, h1, h2⟩
theorem dp_proj_tk {K : PySem.W.Frag} {H H' : Hp} {v : V} {p : List Mod} (h : Dp K H v (projD p)) (k : TKeep H H') : Dp K H' v (projD p) := by
  obtain ⟨t, xs, rfl, h1, h2⟩ := dp_proj h
  exact .tup (k.sqt h1) (dpAll_tk k h2)
theorem dpAll_len {K : PySem.W.Frag} {H : Hp} : ∀ {vs : List V} {ds : List PyData}, DpAll K H vs ds → vs.length = ds.length
  | _, _, .nil => rfl
  | _, _, .cons _ r => by simp [dpAll_len r]
theorem dpAll_at {K : PySem.W.Frag} {H : Hp} : ∀ {vs : List V} {p : List Mod} {i : Nat} {v : V}, DpAll K H vs (p.map modD) → vs[i]? = some v → ∃ m, p[i]? = some m ∧ Dp K H v (modD m)
  | _, [], i, v, .nil, e => by simp at e
  | _, m :: p, 0, v, .cons a r, e => by
    cases e
    exact ⟨m, rfl, a⟩
  | _, m :: p, i + 1, v, .cons a r, e => dpAll_at (i := i) r (by simpa using e)
end GL

set_option Elab.async false
set_option linter.all false
set_option maxRecDepth 100000
set_option maxHeartbeats 4000000
set_option exponentiation.threshold 100000
namespace GL
open PySem PySem.Spec PyProof.Rows L2
local macro_rules | `(tactic| walk_at "pu") => `(tactic| repeat' (first
  | ((with_reducible apply pu_var); rfl) | with_reducible exact pu_c | with_reducible exact pua_nil | ((with_reducible apply pur_i0); rfl) | with_reducible exact puu_neg | with_reducible exact puc_abs | with_reducible exact puc_intB
  | with_reducible exact puc_min | with_reducible exact puc_max | with_reducible exact puo_none
  | with_reducible apply pu_op | with_reducible apply pu_cb | with_reducible apply pua_cons | with_reducible refine put_test ?_ | with_reducible refine put_B ?_ | with_reducible refine put_not ?_ | with_reducible refine pu_notV ?_
  | with_reducible apply pu_un | with_reducible refine puo_some ?_ | ((with_reducible apply pur_i); rfl) | with_reducible exact pur_eq rfl | with_reducible exact pur_ne rfl | exact puc_lenL (by assumption) | exact puc_lenT (by assumption)
  | ((with_reducible apply pur_ixL); assumption) | ((with_reducible apply pur_ixT); assumption) | with_reducible apply pur_ixS | with_reducible apply pur_str))
local macro_rules | `(tactic| walk_at "side") => `(tactic| first
  | exact (show (0 : Int) < _ by decide) | exact Or.inl ⟨by decide, by decide⟩ | exact Or.inr ⟨by decide, by decide⟩ | exact Or.inl ⟨by omega, by omega⟩ | exact Or.inr ⟨by omega, by omega⟩
  | exact ⟨by decide, by decide, by decide⟩ | exact ⟨by decide, by decide⟩ | assumption | omega | exact ⟨by decide, by decide +kernel⟩)
/-! ### readings that give one value and keep what the heap holds -/
def Ke (t : TE) (σ : L2.St) (H : Hp) (v : V) : Prop := ∀ Q : VK, (∀ H', Keep [] H H' → Q v H') → t σ H Q
def KeT (t : TT) (σ : L2.St) (H : Hp) (b : Bool) : Prop := ∀ Q : Bool → Hp → Prop, (∀ H', Keep [] H H' → Q b H') → t σ H Q
section
variable {K : PySem.W.Frag} {σ : L2.St} {H : Hp} {ta tb te to tl : TE} {t u : TT} {x y z v : V} {r : R2} {D : Ends} {Q : VK} {tw tu tv : TS} {ts : List TE}
theorem Pu.ke (h : Pu te σ H v) : Ke te σ H v := fun Q k => h Q (k H .refl)
theorem PuT.ke {b : Bool} (h : PuT t σ H b) : KeT t σ H b := fun Q k => h Q (k H .refl)
theorem su_retK (h : Ke te σ H v) (k : ∀ H', Keep [] H H' → D.rt v H') : tRet te D σ H := h _ k
theorem sq_asgK {i : Nat} (h : Ke te σ H v) (k : ∀ H', Keep [] H H' → tw D (σ.set i (some v)) H') : tSeq (tAsg te (gName i)) tw D σ H := h _ k
theorem sq_ifK {b : Bool} (h : KeT t σ H b) (h1 : b = true → ∀ H', Keep [] H H' → tSeq tu tw D σ H') (h2 : b = false → ∀ H', Keep [] H H' → tSeq tv tw D σ H') : tSeq (tIfS t tu tv) tw D σ H := h _ fun H' k => by
  cases b with
  | true => exact h1 rfl H' k
  | false => exact h2 rfl H' k
theorem ke_if {b : Bool} (h : KeT t σ H b) (h1 : b = true → ∀ H', Keep [] H H' → Ke ta σ H' v) (h2 : b = false → ∀ H', Keep [] H H' → Ke tb σ H' v) : Ke (tIf t ta tb) σ H v := fun Q k => h _ fun H' k' => by
  cases b with
  | true => exact h1 rfl H' k' Q fun H2 k2 => k H2 (k'.trans k2)
  | false => exact h2 rfl H' k' Q fun H2 k2 => k H2 (k'.trans k2)
theorem ket_or {a b : Bool} (h1 : KeT t σ H a) (h2 : a = false → ∀ H', Keep [] H H' → KeT u σ H' b) : KeT (tOr t u) σ H (a || b) := fun Q k => h1 _ fun H' k' => by
  cases a with
  | true => exact k H' k'
  | false => exact h2 rfl H' k' Q fun H2 k2 => k H2 (k'.trans k2)
theorem ket_and {a b : Bool} (h1 : KeT t σ H a) (h2 : a = true → ∀ H', Keep [] H H' → KeT u σ H' b) : KeT (tAnd t u) σ H (a && b) := fun Q k => h1 _ fun H' k' => by
  cases a with
  | false => exact k H' k'
  | true => exact h2 rfl H' k' Q fun H2 k2 => k H2 (k'.trans k2)
theorem ket_not {b : Bool} (h : KeT t σ H b) : KeT (tNot t) σ H (!b) := fun Q k => h _ k
theorem ket_test {b : Bool} (h : Ke te σ H (.bl b)) : KeT (tTest te) σ H b := fun Q k => h _ fun H' k' => ⟨b, rfl, k H' k'⟩
theorem ket_B {b : Bool} (h : Ke te σ H (.bl b)) : KeT (tB te) σ H b := fun Q k => h _ fun H' k' => ⟨b, rfl, k H' k'⟩
theorem ke_op (ha : Ke ta σ H x) (hb : ∀ H', Keep [] H H' → Ke tb σ H' y) (hr : ∀ H', Keep [] H H' → ∀ Q : VK, (∀ H2, Keep [] H' H2 → Q z H2) → r x y H' Q) : Ke (tOp r ta tb) σ H z := fun Q k =>
  ha _ fun H1 k1 => hb H1 k1 _ fun H2 k2 => hr H2 (k1.trans k2) Q fun H3 k3 => k H3 ((k1.trans k2).trans k3)
theorem ke_call {sp : Sp} {tas : TA} {vs : List V} {E : XK} (h : PuA tas σ H vs) (k : ∀ Q : VK, (∀ H', Keep [] H H' → Q v H') → sp (vs ++ []) H Q E) : Ke (tCall sp [] E tas) σ H v := fun Q q => h _ (k Q q)
/-- x != (), x == () -/
theorem ke_neT {d : PyData} (h : Pu ta σ H x) (hd : Dp K H x d) (hs : SeqAt.shaped d = true) (ht : ∀ H', TKeep H H' → Dp K H' x d) : Ke (tOp (rNeD K) ta (tTup tNil)) σ H (.bl (!PyData.eqv d (.tuple []))) := fun Q k =>
  h _ ⟨by decide, fun p np => ⟨d, .tuple [], ht _ (Keep.tk (.new np)), .tup (.inl (.inl upd_same)) .nil, hs, by decide, k _ (.new np)⟩⟩
theorem ke_strs {a : Addr} {zs : List Str} (h : Pu ta σ H (.ref a)) (hz : SqT K H a (zs.map V.str)) (hg : goodAll (zs.map .str) = true) : Ke (tOp (rNeD K) ta (tTup tNil)) σ H (.bl (!decide (zs = []))) := by
  have e : PyData.eqv (.tuple (zs.map .str)) (.tuple []) = decide (zs = []) := by
    cases zs with
    | nil => decide
    | cons z r => simp [PyData.eqv, PyData.eqvAll]
  rw [← e]
  refine ke_neT h (.tup hz (dp_strs zs)) (good_shaped (by simpa [good] using hg) ?_) fun H' k => .tup (k.sqt hz) (dp_strs zs)
  have : PyData.depthAll (zs.map .str) ≤ 0 := depthAll_le fun x hx => by
    obtain ⟨z, _, rfl⟩ := List.mem_map.mp hx
    exact Nat.le_refl _
  simp only [PyData.depth]
  omega
/-! ### f-strings, join -/
def PuJ (ts : List TE) (acc : Str) (σ : L2.St) (H : Hp) (out : Str) : Prop := ∀ Q : Str → Hp → Prop, Q out H → tJs ts acc σ H Q
theorem puj_nil {acc : Str} : PuJ [] acc σ H acc := fun _ q => q
theorem puj_cons {acc y out : Str} (h : Pu te σ H (.str y)) (hl : (acc ++ y).length ≤ sizeLine) (k : PuJ ts (acc ++ y) σ H out) : PuJ (te :: ts) acc σ H out := fun Q q => h _ ⟨y, rfl, hl, k Q q⟩
theorem pu_jn {out : Str} (h : PuJ ts Str.empty σ H out) : Pu (tJn ts) σ H (.str out) := fun _ q => h _ q
theorem pu_fmt {y : Str} (h : Pu te σ H (.str y)) (hl : y.length ≤ sizeLine) : Pu (tFmt te) σ H (.str y) := fun _ q => h _ (.inl ⟨y, rfl, hl, q⟩)
theorem pu_join {a : Str} {p : Addr} {ys : List Str} (h : Pu to σ H (.str a)) (h2 : Pu te σ H (.ref p)) (hs : SqL K H p (ys.map V.str) ∨ SqT K H p (ys.map V.str)) (hl : (ys.map (·.length)).sum + ys.length * a.length ≤ 16777216) : Pu (tM1 (rJoinQ K) to te) σ H (.str (Txt.join a ys)) :=
  fun _ q => h _ ⟨⟨a, rfl⟩, h2 _ ⟨a, p, ys, rfl, rfl, hs, hl, q⟩⟩
/-- a comprehension whose items keep the heap -/
theorem lc_ke {J : It} {n j : Nat} {Gd : Hp → Prop} {it : Nat → V} (w : Walk J n Gd (YFn it)) {tt : TT} {te : TE} {vs : List Nat} {H1 : Hp} {b : Nat → Bool} {f : Nat → V} (hG : ∀ H, Keep [] H1 H → Gd H) (hn : n ≤ 1000000)
    (hw : ∀ v, wipe ((wipe σ vs).set j (some v)) vs = wipe σ vs) (ht : ∀ i H, i < n → Keep [] H1 H → KeT tt ((wipe σ vs).set j (some (it i))) H (b i)) (he : ∀ i H, i < n → Keep [] H1 H → b i = true → Ke te ((wipe σ vs).set j (some (it i))) H (f i))
    (k : ∀ D H, Keep [] H1 H → H1 D = none → H D = some (.lst (((List.range n).filter b).map f)) → Q (.ref D) H) :
    ∀ D, H1 D = none → ∃ W : Nat → Nat → Hp → Prop, (∃ m, W 0 m (upd H1 D (.lst []))) ∧ ∀ i m H, W i m H →
      (J.stop i H ∧ Q (.ref D) H) ∨ (J.go i H ∧ ∃ Nx : Hp → Prop, (∀ H', Nx H' → ∃ m', m' < m ∧ W (i + 1) m' H') ∧ ∀ x H', J.yld i H x H' → gName j x (wipe σ vs) H' fun σ2 H2 => wipe σ2 vs = wipe σ vs ∧ tt σ2 H2 fun b H3 =>
        if b = true then te σ2 H3 fun y H4 => ∃ acc, H4 D = some (.lst acc) ∧ acc.length < sizeLine ∧ Nx (upd H4 D (.lst (acc ++ [y]))) else Nx H3) := by
  intro D hD
  refine lc_it w (fun i H => Keep [] H1 H ∧ H D = some (.lst (((List.range i).filter b).map f))) ⟨.new hD, upd_same⟩ (fun i H _ h => hG H h.1) ?_ fun H h => k D H h.1 hD h.2
  rintro i x H H' hi ⟨kp, eD⟩ ⟨rfl, rfl⟩
  refine ⟨hw _, ht i H' hi kp _ fun H2 k2 => ?_⟩
  have eD2 := k2 D _ (by simp) eD
  have kp2 := kp.trans k2
  cases eb : b i with
  | false =>
    refine (show Keep [] H1 H2 ∧ _ from ⟨kp2, ?_⟩)
    rw [eD2, List.range_succ, List.filter_append, List.filter_cons_of_neg (by rw [eb]; decide)]
    simp
  | true =>
    refine he i H2 hi kp2 eb _ fun H3 k3 => ⟨_, k3 D _ (by simp) eD2, szl ?_, (kp2.trans k3).put (.inr hD), ?_⟩
    · rw [List.length_map]
      exact Nat.lt_of_le_of_lt (List.length_filter_le _ _) (by rw [List.length_range]; omega)
    · rw [upd_same, List.range_succ, List.filter_append, List.filter_cons_of_pos eb]
      simp
theorem lce_tup {a : Addr} {xs : List V} {j : Nat} {tt : TT} {te : TE} {vs : List Nat} {it : Nat → V} {b : Nat → Bool} {f : Nat → V} (h : Pu tl σ H (.ref a)) (hx : SqT K H a xs) (hn : xs.length ≤ 1000000) (hit : ∀ i x, xs[i]? = some x → it i = x) (hw : ∀ v, wipe ((wipe σ vs).set j (some v)) vs = wipe σ vs)
    (ht : ∀ i H', i < xs.length → Keep [] H H' → KeT tt ((wipe σ vs).set j (some (it i))) H' (b i)) (he : ∀ i H', i < xs.length → Keep [] H H' → b i = true → Ke te ((wipe σ vs).set j (some (it i))) H' (f i))
    (k : ∀ D H', Keep [] H H' → H D = none → H' D = some (.lst (((List.range xs.length).filter b).map f)) → Q (.ref D) H') : tLc (iTup K tl) (gName j) tt te vs σ H Q :=
  h _ ⟨a, rfl, ⟨xs, hx⟩, lc_ke (walk_tupF hit) (fun H' kp => kp.sqt (by simp) hx) hn hw ht he k⟩
theorem lce_list {a : Addr} {xs : List V} {j : Nat} {tt : TT} {te : TE} {vs : List Nat} {it : Nat → V} {b : Nat → Bool} {f : Nat → V} (h : Pu tl σ H (.ref a)) (hx : SqL K H a xs) (hn : xs.length ≤ 1000000) (hit : ∀ i x, xs[i]? = some x → it i = x) (hw : ∀ v, wipe ((wipe σ vs).set j (some v)) vs = wipe σ vs)
    (ht : ∀ i H', i < xs.length → Keep [] H H' → KeT tt ((wipe σ vs).set j (some (it i))) H' (b i)) (he : ∀ i H', i < xs.length → Keep [] H H' → b i = true → Ke te ((wipe σ vs).set j (some (it i))) H' (f i))
    (k : ∀ D H', Keep [] H H' → H D = none → H' D = some (.lst (((List.range xs.length).filter b).map f)) → Q (.ref D) H') : tLc (iList K tl) (gName j) tt te vs σ H Q :=
  h _ ⟨a, rfl, ⟨xs, hx⟩, lc_ke (walk_listF hit) (fun H' kp => kp.sql (by simp) hx) hn hw ht he k⟩
theorem keT_yes : KeT tYes σ H true := fun _ k => k H .refl
end
end GL

set_option Elab.async false
set_option linter.all false
set_option maxRecDepth 100000
set_option maxHeartbeats 4000000
set_option exponentiation.threshold 100000
namespace GL
open PySem PySem.Spec PyProof.Rows L2
local macro_rules | `(tactic| walk_at "pu") => `(tactic| repeat' (first
  | ((with_reducible apply pu_var); rfl) | with_reducible exact pu_c | with_reducible exact pua_nil | ((with_reducible apply pur_i0); rfl) | with_reducible exact puu_neg | with_reducible exact puc_abs | with_reducible exact puc_intB
  | with_reducible exact puc_min | with_reducible exact puc_max | with_reducible exact puo_none
  | with_reducible apply pu_op | with_reducible apply pu_cb | with_reducible apply pua_cons | with_reducible refine put_test ?_ | with_reducible refine put_B ?_ | with_reducible refine put_not ?_ | with_reducible refine pu_notV ?_
  | with_reducible apply pu_un | with_reducible refine puo_some ?_ | ((with_reducible apply pur_i); rfl) | with_reducible exact pur_eq rfl | with_reducible exact pur_ne rfl | exact puc_lenL (by assumption) | exact puc_lenT (by assumption)
  | ((with_reducible apply pur_ixL); assumption) | ((with_reducible apply pur_ixT); assumption) | with_reducible apply pur_ixS | with_reducible apply pur_str))
local macro_rules | `(tactic| walk_at "side") => `(tactic| first
  | exact (show (0 : Int) < _ by decide) | exact Or.inl ⟨by decide, by decide⟩ | exact Or.inr ⟨by decide, by decide⟩ | exact Or.inl ⟨by omega, by omega⟩ | exact Or.inr ⟨by omega, by omega⟩
  | exact ⟨by decide, by decide, by decide⟩ | exact ⟨by decide, by decide⟩ | assumption | omega | exact ⟨by decide, by decide +kernel⟩)
/-! ### a module's line -/
def lineOf (m : Mod) : Str := m.name ++ " " ++ kindS m.eff ++ (if m.imps = [] then ("" : Str) else (": " : Str) ++ Txt.join ", " m.imps)
/-- a module whose names are names -/
structure ModSm (m : Mod) : Prop where
  nm : NameOk m.name
  im : ∀ i ∈ m.imps, NameOk i
  il : m.imps.length ≤ 60
theorem Small.mod {p : List Mod} (h : Small p) {m : Mod} (hm : m ∈ p) : ModSm m := ⟨h.nm m hm, h.im m hm, h.il m hm⟩
def spFmtMod (K : PySem.W.Frag) : Sp := fun vs H Q _ => ∃ v m, vs = [v] ∧ Dp K H v (modD m) ∧ ModSm m ∧ ∀ H', Keep [] H H' → Q (.str (lineOf m)) H'
def spLine : PySem.W.Frag → Sp := spFmtMod
def spFmtProj (K : PySem.W.Frag) : Sp := fun vs H Q _ => ∃ v p, vs = [v] ∧ Dp K H v (projD p) ∧ Small p ∧ ∀ H', Keep [] H H' → Q (.str (Txt.join "\n" (p.map lineOf))) H'
theorem len_join_le (a : Str) : ∀ ys : List Str, (Txt.join a ys).length ≤ (ys.map (·.length)).sum + ys.length * a.length := by
  intro ys
  rw [TL.join_eq]
  induction ys with
  | nil => exact Nat.zero_le _
  | cons y r ih =>
    cases r with
    | nil => simp [Str.join]
    | cons z r =>
      have e : Str.join a (y :: z :: r) = y ++ a ++ Str.join a (z :: r) := rfl
      rw [e, Str.length_append, Str.length_append]
      simp only [List.map_cons, List.sum_cons, List.length_cons, Nat.succ_mul] at ih ⊢
      omega
theorem sum_len_le {B : Nat} : ∀ {ys : List Str}, (∀ y ∈ ys, y.length ≤ B) → (ys.map (·.length)).sum ≤ ys.length * B
  | [], _ => by simp
  | y :: r, h => by
    have h1 := h y List.mem_cons_self
    have h2 := sum_len_le (ys := r) fun z hz => h z (List.mem_cons_of_mem _ hz)
    simp only [List.map_cons, List.sum_cons, List.length_cons, Nat.succ_mul]
    omega
theorem imps_sum {m : Mod} (h : ModSm m) : (m.imps.map (·.length)).sum ≤ 600 := by
  have a := sum_len_le fun y hy => (h.im y hy).2.1
  have b : m.imps.length * 10 ≤ 60 * 10 := Nat.mul_le_mul_right _ h.il
  omega
theorem kind_len (b : Bool) : (kindS b).length ≤ 6 := by cases b <;> decide +kernel
theorem line_len {m : Mod} (h : ModSm m) : (lineOf m).length ≤ 1000 := by
  have a := imps_sum h
  have b := len_join_le ", " m.imps
  have e2 : (", " : Str).length = 2 := by decide +kernel
  have e3 : (": " : Str).length = 2 := by decide +kernel
  have e1 : (" " : Str).length = 1 := by decide +kernel
  have e0 : ("" : Str).length = 0 := by decide +kernel
  have c := kind_len m.eff
  have d := h.nm.2.1
  have il := h.il
  rw [e2] at b
  unfold lineOf
  split
  · rw [Str.length_append, Str.length_append, Str.length_append]
    omega
  · rw [Str.length_append, Str.length_append, Str.length_append, Str.length_append]
    omega
def t_fmtMod (K : PySem.W.Frag) : TS :=
  (tSeq (tAsg (tVar 0) (gTup K 3 (gCons (gName 1) (gCons (gName 2) (gCons (gName 3) gNil)))))
    (tRet (tOp rAddS (tJn [(tFmt (tVar 1)), (tC (.str " ")), (tFmt (tVar 3))]) (tIf (tTest (tOp (rNeD K) (tVar 2) (tTup tNil))) (tJn [(tFmt (tC (.str ":"))), (tC (.str " ")), (tFmt (tM1 (rJoinQ K) (tOp rAddS (tC (.str ",")) (tC (.str " "))) (tVar 2)))]) (tC (.str ""))))))

def t_fmtProj (K : PySem.W.Frag) : TS :=
  (tRet (tM1 (rJoinQ K) (tC (.str "\n")) (tLc (iTup K (tVar 0)) (gName 1) tYes (tCall (spFmtMod K) [] E0 (tCons (tVar 1) tNil)) [1])))

def t_line (K : PySem.W.Frag) : TS :=
  (tSeq (tAsg (tOp rAddS (tOp rAddS (tOp (rIxT K) (tVar 0) (tC (.int 0))) (tC (.str " "))) (tOp (rIxT K) (tVar 0) (tC (.int 2)))) (gName 1))
    (tRet (tIf (tTest (tOp (rNeD K) (tOp (rIxT K) (tVar 0) (tC (.int 1))) (tTup tNil))) (tOp rAddS (tOp rAddS (tVar 1) (tC (.str ": "))) (tM1 (rJoinQ K) (tC (.str ", ")) (tOp (rIxT K) (tVar 0) (tC (.int 1))))) (tVar 1))))

section
variable {K : PySem.W.Frag}
theorem str_emp (a : Str) : Str.empty ++ a = a := Str.ext' (by simp [Str.cps_append, Str.empty])
theorem str_nil (a : Str) : a ++ ("" : Str) = a := Str.ext' (by
  rw [Str.cps_append, show (Str.cps "") = #[] by decide +kernel, Array.append_empty])
theorem pure_fmtMod (vs : List V) (H : Hp) (Q : VK) (E : XK) (h : spFmtMod K vs H Q E) : t_fmtMod K { nx := fun _ H' => Q .non H', rt := Q } (vs.map some ++ [none, none, none]) H := by
  obtain ⟨v, m, rfl, hd, hm, q⟩ := h
  unfold t_fmtMod
  obtain ⟨t, u, rfl, h1, h2⟩ := dp_mod hd
  refine sq_do ⟨_, rfl, g_tup3 h1 ?_⟩
  have a := imps_sum hm
  have b := len_join_le ", " m.imps
  have e2 : (", " : Str).length = 2 := by decide +kernel
  have e1 : (" " : Str).length = 1 := by decide +kernel
  have ec : (":" : Str).length = 1 := by decide +kernel
  have ecm : (("," : Str) ++ (" " : Str)) = (", " : Str) := by decide +kernel
  have c := kind_len m.eff
  have d := hm.nm.2.1
  have il := hm.il
  rw [e2] at b
  have lj : (Txt.join ", " m.imps).length ≤ 720 := by omega
  refine su_retE (al_opP (x := .str (m.name ++ " " ++ kindS m.eff)) (pu_jn ?_) ?_)
  · refine puj_cons (pu_fmt (pu_var rfl) (sz (by omega))) ?_ (puj_cons pu_c ?_ (puj_cons (pu_fmt (pu_var rfl) (sz (by omega))) ?_ ?_))
    · rw [str_emp]
      exact sz (by omega)
    · rw [str_emp, Str.length_append]
      exact sz (by omega)
    · rw [str_emp, Str.length_append, Str.length_append]
      exact sz (by omega)
    · rw [str_emp]
      exact puj_nil
  refine ke_if (v := .str (if m.imps = [] then ("" : Str) else (": " : Str) ++ Txt.join ", " m.imps)) (ket_test (ke_strs (pu_var rfl) h2 (good_strs hm.im))) (fun e H1 k1 => ?_) (fun e H1 k1 => ?_) _ fun H1 k1 => ?_
  · have ne : ¬ m.imps = [] := by simpa using e
    rw [if_neg ne]
    have h21 := k1.sqt (by simp) h2
    refine Pu.ke (pu_is (pu_jn (puj_cons (pu_fmt pu_c (by decide)) ?_ (puj_cons pu_c ?_ (puj_cons (pu_fmt (pu_join (ys := m.imps) (pu_op pu_c pu_c (pur_str (by decide))) (pu_var rfl) (.inr h21) ?_) ?_) ?_ puj_nil)))) ?_)
    · decide
    · rw [str_emp]
      decide
    · rw [ecm, e2]
      omega
    · rw [ecm]
      exact sz (by omega)
    · rw [str_emp, ecm, Str.length_append, Str.length_append]
      exact sz (by omega)
    · rw [str_emp, ecm, show ((":" : Str) ++ (" " : Str)) = (": " : Str) by decide +kernel]
  · have ne : m.imps = [] := by simpa using e
    rw [if_pos ne]
    exact pu_c.ke
  · refine ⟨_, _, rfl, rfl, ?_, q H1 k1⟩
    have := line_len hm
    unfold lineOf at this
    rw [Str.length_append] at this
    exact sz (by omega)
theorem pure_line (vs : List V) (H : Hp) (Q : VK) (E : XK) (h : spLine K vs H Q E) : t_line K { nx := fun _ H' => Q .non H', rt := Q } (vs.map some ++ [none]) H := by
  obtain ⟨v, m, rfl, hd, hm, q⟩ := h
  unfold t_line
  obtain ⟨t, u, rfl, h1, h2⟩ := dp_mod hd
  have a := imps_sum hm
  have b := len_join_le ", " m.imps
  have e2 : (", " : Str).length = 2 := by decide +kernel
  have e1 : (" " : Str).length = 1 := by decide +kernel
  have ec : (": " : Str).length = 2 := by decide +kernel
  have c := kind_len m.eff
  have d := hm.nm.2.1
  have il := hm.il
  rw [e2] at b
  refine sq_asg (v := .str (m.name ++ " " ++ kindS m.eff)) (pu_op (pu_op (pu_op (pu_var rfl) pu_c (pur_ixT h1 rfl)) pu_c (pur_str (sz (by omega)))) (pu_op (pu_var rfl) pu_c (pur_ixT h1 rfl)) (pur_str (sz (by rw [Str.length_append]; omega)))) ?_
  refine su_retK (v := .str (lineOf m)) (ke_if (ket_test (ke_strs (pu_op (pu_var rfl) pu_c (pur_ixT h1 rfl)) h2 (good_strs hm.im))) (fun e H1 k1 => ?_) (fun e H1 k1 => ?_)) fun H1 k1 => q H1 k1
  · have ne : ¬ m.imps = [] := by simpa using e
    have h11 := k1.sqt (by simp) h1
    have h21 := k1.sqt (by simp) h2
    refine Pu.ke (pu_is (pu_op (pu_op (pu_var rfl) pu_c (pur_str (sz ?_))) (pu_join (ys := m.imps) pu_c (pu_op (pu_var rfl) pu_c (pur_ixT h11 rfl)) (.inr h21) ?_) (pur_str (sz ?_))) ?_)
    · rw [Str.length_append, Str.length_append]
      omega
    · rw [e2]
      omega
    · rw [Str.length_append, Str.length_append, Str.length_append]
      omega
    · unfold lineOf
      rw [if_neg ne, Str.append_assoc (m.name ++ " " ++ kindS m.eff)]
  · have ne : m.imps = [] := by simpa using e
    refine Pu.ke (pu_is (pu_var rfl) ?_)
    unfold lineOf
    rw [if_pos ne, str_nil]
theorem lines_sum {p : List Mod} (h : Small p) : ((p.map lineOf).map (·.length)).sum ≤ 100000 := by
  have a := sum_len_le (B := 1000) (ys := p.map lineOf) fun y hy => by
    obtain ⟨m, hm, rfl⟩ := List.mem_map.mp hy
    exact line_len (h.mod hm)
  rw [List.length_map] at a
  have b : p.length * 1000 ≤ 100 * 1000 := Nat.mul_le_mul_right _ h.pl
  omega
/-- '\n'.join([f(m) for m in project]) -/
theorem ke_lines {j : Nat} {sp : Sp} {σ : L2.St} {H : Hp} {tl : TE} {v : V} {p : List Mod} {vs : List Nat} (hsp : ∀ vs H Q E, spFmtMod K vs H Q E → sp vs H Q E) (hv : Pu tl σ H v) (hd : Dp K H v (projD p)) (hp : Small p) (hw : ∀ v, wipe ((wipe σ vs).set j (some v)) vs = wipe σ vs) (hj : ∀ v, ((wipe σ vs).set j (some v))[j]? = some (some v)) :
    Ke (tM1 (rJoinQ K) (tC (.str "\n")) (tLc (iTup K tl) (gName j) tYes (tCall sp [] E0 (tCons (tVar j) tNil)) vs)) σ H (.str (Txt.join "\n" (p.map lineOf))) := by
  obtain ⟨t, xs, rfl, h1, h2⟩ := dp_proj hd
  have xl : xs.length = p.length := by rw [dpAll_len h2, List.length_map]
  intro Q q
  refine (show tM1 _ _ _ _ _ _ from ?_)
  refine ⟨⟨_, rfl⟩, ?_⟩
  refine lce_tup (xs := xs) (it := fun i => xs[i]?.getD .non) (b := fun _ => true) (f := fun i => .str (lineOf (p[i]?.getD ⟨"", [], true⟩))) hv h1 (by have := hp.pl; omega) (fun i x e => by rw [e]; rfl) hw (fun i H' _ _ => keT_yes) (fun i H' hi kp _ => ?_) fun D H' kp nD eD => ?_
  · have ex : xs[i]? = some xs[i] := List.getElem?_eq_getElem hi
    obtain ⟨m, em, dm⟩ := dpAll_at h2 ex
    rw [ex, em]
    exact ke_call (pua_cons (pu_var (hj _)) pua_nil) fun Q q => hsp _ _ _ _ ⟨_, m, rfl, dp_mod_tk dm kp.tk, hp.mod (List.mem_of_getElem? em), q⟩
  · rw [filter_all, xl] at eD
    have e := range_pick p ⟨"", [], true⟩ (fun _ => true) (fun m => V.str (lineOf m))
    rw [filter_all, List.filter_eq_self.mpr (fun _ _ => rfl)] at e
    rw [e] at eD
    have e1 : ("\n" : Str).length = 1 := by decide +kernel
    refine ⟨"\n", D, p.map lineOf, rfl, rfl, .inl (.inl (.inl ?_)), ?_, q H' kp⟩
    · rw [eD, List.map_map]
      rfl
    · have := lines_sum hp
      have pl := hp.pl
      rw [List.length_map, e1]
      omega
theorem pure_fmtProj (vs : List V) (H : Hp) (Q : VK) (E : XK) (h : spFmtProj K vs H Q E) : t_fmtProj K { nx := fun _ H' => Q .non H', rt := Q } (vs.map some ++ [none]) H := by
  obtain ⟨v, p, rfl, hd, hp, q⟩ := h
  unfold t_fmtProj
  exact su_retK (ke_lines (fun _ _ _ _ h => h) (pu_var rfl) hd hp (fun _ => rfl) (fun _ => rfl)) q
end
end GL

set_option Elab.async false
set_option linter.all false
set_option maxRecDepth 100000
set_option maxHeartbeats 4000000
set_option exponentiation.threshold 100000
namespace GL
open PySem PySem.Spec PyProof.Rows L2
local macro_rules | `(tactic| walk_at "pu") => `(tactic| repeat' (first
  | ((with_reducible apply pu_var); rfl) | with_reducible exact pu_c | with_reducible exact pua_nil | ((with_reducible apply pur_i0); rfl) | with_reducible exact puu_neg | with_reducible exact puc_abs | with_reducible exact puc_intB
  | with_reducible exact puc_min | with_reducible exact puc_max | with_reducible exact puo_none
  | with_reducible apply pu_op | with_reducible apply pu_cb | with_reducible apply pua_cons | with_reducible refine put_test ?_ | with_reducible refine put_B ?_ | with_reducible refine put_not ?_ | with_reducible refine pu_notV ?_
  | with_reducible apply pu_un | with_reducible refine puo_some ?_ | ((with_reducible apply pur_i); rfl) | with_reducible exact pur_eq rfl | with_reducible exact pur_ne rfl | exact puc_lenL (by assumption) | exact puc_lenT (by assumption)
  | ((with_reducible apply pur_ixL); assumption) | ((with_reducible apply pur_ixT); assumption) | with_reducible apply pur_ixS | with_reducible apply pur_str))
local macro_rules | `(tactic| walk_at "side") => `(tactic| first
  | exact (show (0 : Int) < _ by decide) | exact Or.inl ⟨by decide, by decide⟩ | exact Or.inr ⟨by decide, by decide⟩ | exact Or.inl ⟨by omega, by omega⟩ | exact Or.inr ⟨by omega, by omega⟩
  | exact ⟨by decide, by decide, by decide⟩ | exact ⟨by decide, by decide⟩ | assumption | omega | exact ⟨by decide, by decide +kernel⟩)
/-! ### the frame of all laws -/
def spLaw (K : PySem.W.Frag) : Sp := fun vs H Q _ => ∃ (a : Addr) (ns : List Int), vs = [.ref a] ∧ SqL K H a (ns.map V.int) ∧ ns.length ≤ 63 ∧ ∀ H', Q (.bl true) H'
section
variable {K : PySem.W.Frag} {σ : L2.St} {H : Hp} {D : Ends} {tw tb : TS} {ta : TA}
theorem sq_forR {n : Int} {j : Nat} (h : PuA ta σ H [.int n]) (h0 : -1000000 ≤ n) (h1 : n ≤ 1000000) (Pv : Nat → L2.St → Hp → Prop) (hp : Pv 0 σ H)
    (hs : ∀ (i : Nat) σ' H', (i : Int) < n → Pv i σ' H' → tb { D with nx := Pv (i + 1), ct := Pv (i + 1), bk := tw D } (σ'.set j (some (.int (i : Int)))) H') (hd : ∀ σ' H', Pv n.toNat σ' H' → tw D σ' H') : tSeq (tFor (iRng1 ta) (gName j) tb) tw D σ H :=
  h _ ⟨n, rfl, by omega, by omega, for_range (lo := 0) (n := n.toNat) Pv hp (fun i σ' H' hi p => by
    have e : (0 : Int) + (i : Int) = (i : Int) := Int.zero_add _
    show tb _ (σ'.set j (some (.int ((0 : Int) + (i : Int))))) H'
    rw [e]
    exact hs i σ' H' (by omega) p) hd⟩
/-- .. as the last statement -/
theorem su_forR {n : Int} {j : Nat} (h : PuA ta σ H [.int n]) (h0 : -1000000 ≤ n) (h1 : n ≤ 1000000) (Pv : Nat → L2.St → Hp → Prop) (hp : Pv 0 σ H)
    (hs : ∀ (i : Nat) σ' H', (i : Int) < n → Pv i σ' H' → tb { D with nx := Pv (i + 1), ct := Pv (i + 1), bk := D.nx } (σ'.set j (some (.int (i : Int)))) H') (hd : ∀ σ' H', Pv n.toNat σ' H' → D.nx σ' H') : tFor (iRng1 ta) (gName j) tb D σ H :=
  h _ ⟨n, rfl, by omega, by omega, for_range (lo := 0) (n := n.toNat) Pv hp (fun i σ' H' hi p => by
    have e : (0 : Int) + (i : Int) = (i : Int) := Int.zero_add _
    show tb _ (σ'.set j (some (.int ((0 : Int) + (i : Int))))) H'
    rw [e]
    exact hs i σ' H' (by omega) p) hd⟩
theorem Keep.drop {b : Addr} {H1 H2 : Hp} (k : Keep [] H H1) (k2 : Keep [b] H1 H2) (n : H b = none) : Keep [] H H2 := fun x o _ e => k2 x o (by
  have : x ≠ b := ne_of_none e n
  simpa using this) (k x o (by simp) e)
/-- range(max(1, min(c, len(script)))) -/
theorem pu_cells {a : Addr} {xs : List V} {c : Int} (h : σ[0]? = some (some (.ref a))) (hs : SqL K H a xs) : PuA (tCons (tCB rMax2 (tCons (tC (.int 1)) (tCons (tCB rMin2 (tCons (tC (.int c)) (tCons (tCB (rLenQ K) (tCons (tVar 0) tNil)) tNil))) tNil))) tNil) σ H
    [.int (if (if (xs.length : Int) < c then (xs.length : Int) else c) > 1 then (if (xs.length : Int) < c then (xs.length : Int) else c) else 1)] := by
  refine pua_cons (pu_cb (pua_cons pu_c (pua_cons (pu_cb (pua_cons pu_c (pua_cons (pu_cb (pua_cons (pu_var h) pua_nil) (puc_lenL hs)) pua_nil)) puc_min) pua_nil)) puc_max) pua_nil
/-- repr of a project -/
theorem pu_reprP {te : TE} {v : V} {p : List Mod} (h : Pu te σ H v) (hd : Dp K H v (projD p)) (hp : Small p) : Pu (tCB (rRepr K) (tCons te tNil)) σ H (.str (projD p).shown) := by
  have g := good_proj hp
  obtain ⟨a, b, _, _⟩ := good_ok _ g
  refine pu_cb (pua_cons h pua_nil) fun Q q => ⟨v, projD p, rfl, hd, a, b, good_shown g ?_, ?_, q⟩
  · exact Nat.le_trans (weight_proj hp) (by decide)
  · exact Nat.le_trans (depth_proj p) (by decide)
end
def t_k62law (K : PySem.W.Frag) : TS :=
  (tSeq (tFor (iRng1 (tCons (tCB rMax2 (tCons (tC (.int 1)) (tCons (tCB rMin2 (tCons (tC (.int 3)) (tCons (tCB (rLenQ K) (tCons (tVar 0) tNil)) tNil))) tNil))) tNil)) (gName 1) (tSeq (tAsg (tCall (spStart K) [] E0 (tCons (tVar 0) (tCons (tVar 1) tNil))) (gName 2))
    (tFor (iRng1 (tCons (tC (.int 4)) tNil)) (gName 3) (tSeq (tAsg (tCall (spProject K) [] E0 (tCons (tVar 2) (tCons (tC (.int 12)) (tCons (tC (.int 8)) tNil)))) (gName 4))
    (tSeq (tPar 5 6 (tCons (tCB (rRepr K) (tCons (tVar 4) tNil)) (tCons (tM1 (rJoinQ K) (tC (.str "\n")) (tLc (iTup K (tVar 4)) (gName 7) tYes (tCall (spLine K) [] E0 (tCons (tVar 7) tNil)) [7])) tNil)))
    (tIfS (tOr (tTest (tOp rNe (tCall (spFmtProj K) [] E0 (tCons (tVar 4) tNil)) (tVar 6))) (tOr (tTest (tOp rNe (tCB (rRepr K) (tCons (tVar 4) tNil)) (tVar 5))) (tTest (tOp rNe (tCall (spFmtProj K) [] E0 (tCons (tTup tNil) tNil)) (tC (.str "")))))) (tRet (tC (.bl false))) tNext))))))
    (tRet (tC (.bl true))))

theorem pure_k62law {K : PySem.W.Frag} (vs : List V) (H : Hp) (Q : VK) (E : XK) (h : spLaw K vs H Q E) : t_k62law K { nx := fun _ H' => Q .non H', rt := Q } (vs.map some ++ [none, none, none, none, none, none, none]) H := by
  obtain ⟨a, ns, rfl, hS, hn, q⟩ := h
  unfold t_k62law
  refine sq_forR (pu_cells rfl hS) (by split <;> split <;> omega) (by split <;> split <;> omega) (fun i σ' H' => ∃ y1 y2 y3 y4 y5 y6 y7, σ' = [some (.ref a), y1, y2, y3, y4, y5, y6, y7] ∧ Keep [] H H') ⟨_, _, _, _, _, _, _, rfl, .refl⟩ ?_ ?_
  · rintro i σ' H' hi ⟨y1, y2, y3, y4, y5, y6, y7, rfl, kk⟩
    refine sq_doN (ad_call (ac_var rfl (ac_var rfl (ac_nil ⟨a, ns, i, rfl, kk.sql (by simp) hS, ?_, fun H1 b k1 nb s1 => ?_⟩))))
    · split at hi <;> (try split at hi) <;> omega
    have nbH : H b = none := kk.back (by simp) nb
    have kk1 := kk.trans k1
    refine su_forR (by walk_at "pu") (by decide) (by decide) (fun j σ' H' => ∃ y3 y4 y5 y6 y7, σ' = [some (.ref a), some (.int i), some (.ref b), y3, y4, y5, y6, y7] ∧ Keep [] H H' ∧ Src H' b (j * 3000)) ⟨_, _, _, _, _, rfl, kk1, s1⟩ ?_ ?_
    · rintro j σ' H2 hj ⟨z3, z4, z5, z6, z7, rfl, kk2, s2⟩
      refine sq_doN (ad_call (ac_var rfl (ac_pu pu_c (ac_pu pu_c (ac_nil ⟨b, 12, 8, _, rfl, s2, by omega, by decide, by decide, by decide, fun H3 v p k3 s3 dp ok p1 p2 il => ?_⟩)))))
      have kk3 := kk2.drop k3 nbH
      have sm : Small p := ok.small (fun m hm => by have := il m hm; omega) (by omega)
      refine sq_par (ac_pu (pu_reprP (pu_var rfl) dp sm) (al_cons (ke_lines (fun _ _ _ _ h => h) (pu_var rfl) dp sm (fun _ => rfl) (fun _ => rfl) _ fun H4 k4 => ac_nil ⟨_, _, rfl, ?_⟩)))
      have dp4 := dp_proj_tk dp k4.tk
      have kk4 := kk3.trans k4
      have s4 := s3.keep k4 (by simp)
      refine ket_or (a := false) (b := false) (ket_test (ke_op (x := .str (Txt.join "\n" (p.map lineOf))) (ke_call (pua_cons (pu_var rfl) pua_nil) fun Q q => ⟨v, p, rfl, dp4, sm, q⟩) (fun _ _ => (pu_var rfl).ke) fun H' _ Q q => ⟨rfl, by rw [decide_eq_true rfl]; exact q _ .refl⟩)) (fun _ H5 k5 => ket_or (a := false) (b := false) (ket_test (ke_op (pu_reprP (pu_var rfl) (dp_proj_tk dp4 k5.tk) sm).ke (fun _ _ => (pu_var rfl).ke) fun H' _ Q q => ⟨rfl, by rw [decide_eq_true rfl]; exact q _ .refl⟩)) fun _ H6 k6 => ket_test fun Q q => ?_) _ fun H7 k7 => ?_
      · refine al_op (ad_call (ac_tup ⟨by decide, fun e ne => ac_nil ⟨.ref e, [], rfl, .tup (.inl (.inl upd_same)) .nil, ⟨(fun _ h => nomatch h), (fun _ h => nomatch h), (fun _ h => nomatch h), by decide⟩, fun H8 k8 => ?_⟩⟩))
        refine (pu_c : Pu (tC (.str "")) _ _ _) _ ⟨rfl, ?_⟩
        rw [show decide (V.str (Txt.join "\n" ([].map lineOf)) = V.str "") = true by decide +kernel]
        exact q H8 (Keep.trans (.new ne) k8)
      · exact ⟨_, _, _, _, _, rfl, kk4.trans k7, (s4.keep k7 (by simp)).mono (by omega)⟩
    · rintro σ' H2 ⟨z3, z4, z5, z6, z7, rfl, kk2, s2⟩
      exact ⟨_, _, _, _, _, _, _, rfl, kk2⟩
  · rintro σ' H' ⟨y1, y2, y3, y4, y5, y6, y7, rfl, kk⟩
    exact su_ret pu_c (q _)
end GL

set_option Elab.async false
set_option linter.all false
set_option maxRecDepth 100000
set_option maxHeartbeats 4000000
set_option exponentiation.threshold 100000
namespace GL
open PySem PySem.Spec PyProof.Rows L2
section
variable {P : Program} {w : World} {K : PySem.W.Frag} {mg : Str → Option Value} {base : Heap} {k : Nat} {x : Str} {st : Stmt} {f : Addr} {fd : FuncData} {N ps : List Str} {sp : Sp}
theorem start_of {N : List Str} {vs : List V} {n : Nat} (h : vs.length + n = N.length) : L2.start N vs = vs.map some ++ List.replicate n none := by
  unfold L2.start
  rw [show N.length - vs.length = n by omega]
/-- a def by its reading -/
theorem dnp (F : FnP K x st f fd) (hm : mg x = some (.ref f)) (S : FnScope N ps (defScope st)) (n : Nat) (hn : ps.length + n = N.length) (len : ∀ vs H Q E, sp vs H Q E → vs.length = ps.length)
    (hb : ∀ (kV doc pm : Value) (an : Option Addr) (cdv ct : Value) (us : List Value), us.length = ps.length → bindArgs (PySem.W.fnOf x x (defArgs st) (defBody st) (defScope st) .none kV doc pm an cdv ct) ⟨us, []⟩ = pure (ps.zip us))
    (t : TS) (hpure : ∀ vs H Q E, sp vs H Q E → t { nx := fun _ H' => Q .non H', rt := Q } (vs.map some ++ List.replicate n none) H)
    (hbody : ∀ (cdv : Value) (A : Around) (outer : List Env) (s : Shared) (H : Hp) (E : XK), Room k (A.deeper (envOfC x (defScope st) s.heap.objs.size f cdv)) →
      PSs (cxOf CX0 P w K mg base N x (defScope st) f cdv A outer s H E).nox (defBody st) t) : Dn P w K mg base (k + 1) x sp :=
  dn_of F hm S len hb t hbody fun vs H Q E h => by
    rw [start_of (n := n) (by rw [len vs H Q E h]; exact hn)]
    exact hpure vs H Q E h
theorem dnpG (F : FnP K x st f fd) (hm : mg x = some (.ref f)) (S : FnScope N ps (defScope st)) (n : Nat) (hn : ps.length + n = N.length) (len : ∀ vs H Q E, sp vs H Q E → vs.length = ps.length)
    (hb : ∀ (kV doc pm : Value) (an : Option Addr) (cdv ct : Value) (us : List Value), us.length = ps.length → bindArgs (PySem.W.fnOf x x (defArgs st) (defBody st) (defScope st) .none kV doc pm an cdv ct) ⟨us, []⟩ = pure (ps.zip us))
    (t : TS) (hpure : ∀ vs H Q E, sp vs H Q E → t { nx := fun _ H' => Q .non H', rt := Q } (vs.map some ++ List.replicate n none) H)
    (hbody : ∀ (cdv : Value) (A : Around) (outer : List Env) (s : Shared) (H : Hp) (E : XK), A.guards = some [] → Room k (A.deeper (envOfC x (defScope st) s.heap.objs.size f cdv)) →
      PSs (cxOf CX0 P w K mg base N x (defScope st) f cdv A outer s H E).nox (defBody st) t) : DnG P w K mg base (k + 1) x sp :=
  dnG_of F hm S len hb t hbody fun vs H Q E h => by
    rw [start_of (n := n) (by rw [len vs H Q E h]; exact hn)]
    exact hpure vs H Q E h
/-- the law itself -/
theorem lawFn (F : FnP K x st f fd) (S : FnScope N ps (defScope st)) (n : Nat) (hn : ps.length + n = N.length) (len : ∀ vs H Q E, sp vs H Q E → vs.length = ps.length)
    (t : TS) (hpure : ∀ vs H Q E, sp vs H Q E → t { nx := fun _ H' => Q .non H', rt := Q } (vs.map some ++ List.replicate n none) H)
    (hbody : ∀ (cdv : Value) (A : Around) (outer : List Env) (s : Shared) (H : Hp) (E : XK), A.guards = some [] → Room k (A.deeper (envOfC x (defScope st) s.heap.objs.size f cdv)) →
      PSs (cxOf CX0 P w K mg base N x (defScope st) f cdv A outer s H E).nox (defBody st) t) : FnG P w K mg base CX0 (k + 1) f fd ps sp := by
  obtain ⟨oc, od, dV, kV, doc, pm, an, cdv, ct, osl, rfl, lk, hcd, _⟩ := F.ex
  refine fnG_of lk hcd S len fun A outer s H vs Q E hg hr h => ⟨t, (hbody cdv A outer s H E hg hr).nox, ?_⟩
  rw [start_of (n := n) (by rw [len vs H Q E h]; exact hn)]
  exact hpure vs H Q E h
end
end GL

set_option Elab.async false
set_option linter.all false
set_option maxRecDepth 100000
set_option maxHeartbeats 0
set_option exponentiation.threshold 100000
namespace GL.Ck62
open PySem PySem.Spec PyProof.Rows L2
def topS (i : Nat) : Stmt := PySem.Challenge.pw_importorder_k62_formatted_projects.main.body.getD i (.Pass ⟨0, 0, 0, 0⟩)
abbrev s_fmtMod : Stmt := topS 5
abbrev nm_fmtMod : List Str := ["module", "name", "imports", "kind"]
theorem sc_fmtMod : FnScope nm_fmtMod ["module"] (defScope s_fmtMod) := ⟨rfl, rfl, rfl, by decide +kernel, rfl, by decide +kernel, by decide +kernel⟩
abbrev s_fmtProj : Stmt := topS 6
abbrev nm_fmtProj : List Str := ["project", "module"]
theorem sc_fmtProj : FnScope nm_fmtProj ["project"] (defScope s_fmtProj) := ⟨rfl, rfl, rfl, by decide +kernel, rfl, by decide +kernel, by decide +kernel⟩
abbrev s_start : Stmt := topS 8
abbrev nm_start : List Str := ["_law_script", "_law_k", "_law_cell", "_law_large"]
theorem sc_start : FnScope nm_start ["_law_script", "_law_k"] (defScope s_start) := ⟨rfl, rfl, rfl, by decide +kernel, rfl, by decide +kernel, by decide +kernel⟩
abbrev s_draw : Stmt := topS 9
abbrev nm_draw : List Str := ["_law_source", "_law_limit", "_law_digit", "_law_prime", "_law_mixed_here"]
theorem sc_draw : FnScope nm_draw ["_law_source", "_law_limit"] (defScope s_draw) := ⟨rfl, rfl, rfl, by decide +kernel, rfl, by decide +kernel, by decide +kernel⟩
abbrev s_choice : Stmt := topS 10
abbrev nm_choice : List Str := ["_law_source", "_law_items"]
theorem sc_choice : FnScope nm_choice ["_law_source", "_law_items"] (defScope s_choice) := ⟨rfl, rfl, rfl, by decide +kernel, rfl, by decide +kernel, by decide +kernel⟩
abbrev s_mixed : Stmt := topS 11
abbrev nm_mixed : List Str := ["_law_source", "_law_items", "_law_left", "_law_turn"]
theorem sc_mixed : FnScope nm_mixed ["_law_source", "_law_items"] (defScope s_mixed) := ⟨rfl, rfl, rfl, by decide +kernel, rfl, by decide +kernel, by decide +kernel⟩
abbrev s_names : Stmt := topS 12
abbrev nm_names : List Str := ["_law_source", "_law_count", "_law_stem", "_law_first", "_law_found", "_law_more", "_law_at"]
theorem sc_names : FnScope nm_names ["_law_source", "_law_count"] (defScope s_names) := ⟨rfl, rfl, rfl, by decide +kernel, rfl, by decide +kernel, by decide +kernel⟩
abbrev s_project : Stmt := topS 13
abbrev nm_project : List Str := ["_law_source", "_law_most", "_law_wide", "_law_mixed_here", "_law_found", "_law_has_cycles", "_law_at", "_law_name", "_law_others", "_law_limit", "_law_some", "_law_other"]
theorem sc_project : FnScope nm_project ["_law_source", "_law_most", "_law_wide"] (defScope s_project) := ⟨rfl, rfl, rfl, by decide +kernel, rfl, by decide +kernel, by decide +kernel⟩
abbrev s_line : Stmt := topS 14
abbrev nm_line : List Str := ["_law_item", "_law_line_here"]
theorem sc_line : FnScope nm_line ["_law_item"] (defScope s_line) := ⟨rfl, rfl, rfl, by decide +kernel, rfl, by decide +kernel, by decide +kernel⟩
abbrev s_k62law : Stmt := topS 15
abbrev nm_k62law : List Str := ["_law_script", "_law_k", "_law_source", "_law_turn", "_law_project_here", "_law_before", "_law_due", "_law_item"]
theorem sc_k62law : FnScope nm_k62law ["_law_script"] (defScope s_k62law) := ⟨rfl, rfl, rfl, by decide +kernel, rfl, by decide +kernel, by decide +kernel⟩
section
variable {P : Program} {w : World} {K : PySem.W.Frag} {mg : Str → Option Value} {base : Heap}
theorem ok_fmtMod {f : Addr} {fd : FuncData} (B : Bl mg) (F : FnP K "format_module" s_fmtMod f fd) (hm : mg "format_module" = some (.ref f))  (c_BLANK : ∃ t, mg "BLANK" = some (.str " " t)) (c_COLON : ∃ t, mg "COLON" = some (.str ":" t)) (c_COMMA : ∃ t, mg "COMMA" = some (.str "," t)) : Dn P w K mg base 1 "format_module" (spFmtMod K) :=
  dnp (k := 0) F hm sc_fmtMod 3 rfl (fun vs H Q E h => by (repeat (obtain ⟨_, h⟩ := h)); subst_vars; rfl) (fun _ _ _ _ _ _ us hl => match us, hl with | [_], _ => rfl) (t_fmtMod K) pure_fmtMod (fun cdv A outer s H E hr => by exact (pss_cons (ps_asg (pv 0) (pg_tup rfl (pgs_cons (pg_name (i := 1) sc_fmtMod.nd rfl (.inl rfl)) (pgs_cons (pg_name (i := 2) sc_fmtMod.nd rfl (.inl rfl)) (pgs_cons (pg_name (i := 3) sc_fmtMod.nd rfl (.inl rfl)) pgs_nil)))))
    (pss_one (ps_ret (pe_op op_add_str (pe_joined (.cons (pe_fmt (pv 1)) (.cons pe_str (.cons (pe_fmt (pv 3)) .nil)))) (pe_ifExp (pt_cmpR (op_neD hr.units) (pv 2) (pe_tup pa_nil) (nomark _)) (pe_joined (.cons (pe_fmt (pe_gs c_COLON)) (.cons pe_str (.cons (pe_fmt (pe_join (pe_op op_add_str (pe_gs c_COMMA) (pe_gs c_BLANK)) (pv 2))) .nil)))) pe_str))))))
theorem ok_fmtProj {f : Addr} {fd : FuncData} (B : Bl mg) (F : FnP K "format_project" s_fmtProj f fd) (hm : mg "format_project" = some (.ref f)) (d_fmtMod : Dn P w K mg base 1 "format_module" (spFmtMod K)) (c_FEED : ∃ t, mg "FEED" = some (.str "\n" t)) : Dn P w K mg base 2 "format_project" (spFmtProj K) :=
  dnp (k := 1) F hm sc_fmtProj 1 rfl (fun vs H Q E h => by (repeat (obtain ⟨_, h⟩ := h)); subst_vars; rfl) (fun _ _ _ _ _ _ us hl => match us, hl with | [_], _ => rfl) (t_fmtProj K) pure_fmtProj (fun cdv A outer s H E hr => by exact (pss_one (ps_ret (pe_join (pe_gs c_FEED) (pe_lc (own := [("module", 1)]) (g := (gName 1)) (tt := tYes) (te := (tCall (spFmtMod K) [] E0 (tCons (tVar 1) tNil))) rfl sc_fmtProj.nd (pi_tup (pv 0)) (blkOk_by (N := nm_fmtProj) (sc := defScope s_fmtProj) (by decide +kernel)) (fun _ _ _ _ _ => by exact (pg_name (i := 1) sc_fmtProj.nd rfl (.inl rfl))) (fun _ _ _ _ _ => by exact pts_nil) (fun _ _ _ _ _ => by exact (pe_d d_fmtMod hr (pa_cons (pv 1) pa_nil))))))))
theorem ok_start {f : Addr} {fd : FuncData} (B : Bl mg) (F : FnP K "_law_start" s_start f fd) (hm : mg "_law_start" = some (.ref f))   : Dn P w K mg base 1 "_law_start" (spStart K) :=
  dnp (k := 0) F hm sc_start 2 rfl (fun vs H Q E h => by (repeat (obtain ⟨_, h⟩ := h)); subst_vars; rfl) (fun _ _ _ _ _ _ us hl => match us, hl with | [_, _], _ => rfl) (t_start K) pure_start (fun cdv A outer s H E hr => by exact (pss_cons (ps_set (i := 2) sc_start.nd rfl (.inl rfl) (pe_ifExp (pt_cmpR op_lt (pv 1) (pe_callB call_len_seq (by rfl) B.len PySem.boot_len (pa_cons (pv 0) pa_nil)) (nomark _)) (pe_ix ix_list (pv 0) (pv 1) (fun _ _ => rfl)) (pe_op op_add (pe_op op_mul pe_int (pv 1)) pe_int)))
    (pss_cons (ps_set (i := 3) sc_start.nd rfl (.inl rfl) (pe_op op_mulW (pe_op op_mod (pe_callB call_abs (by rfl) B.abs (by decide +kernel) (pa_cons (pv 2) pa_nil)) (pe_op op_powW (pe_op op_pow pe_int pe_int) pe_int)) (pe_callTy call_int1 (by rfl) B.int (by decide +kernel) (pa_cons (pe_cmpR op_ge (pe_callB call_abs (by rfl) B.abs (by decide +kernel) (pa_cons (pv 2) pa_nil)) (pe_op op_pow pe_int pe_int) (nomark _)) pa_nil))))
    (pss_one (ps_ret (pe_lst (pa_cons (pv 3) (pa_cons (pe_op op_mod (pe_op op_mul (pe_op op_add (pe_op op_add (pe_op op_mod (pv 2) pe_int) (pe_op op_mul (pe_op op_mul pe_int (pv 1)) (pv 1))) pe_int) pe_int) pe_int) (pa_cons pe_int pa_nil)))))))))
theorem ok_draw {f : Addr} {fd : FuncData} (B : Bl mg) (F : FnP K "_law_draw" s_draw f fd) (hm : mg "_law_draw" = some (.ref f))   : Dn P w K mg base 1 "_law_draw" spDraw :=
  dnp (k := 0) F hm sc_draw 3 rfl (fun vs H Q E h => by (repeat (obtain ⟨_, h⟩ := h)); subst_vars; rfl) (fun _ _ _ _ _ _ us hl => match us, hl with | [_, _], _ => rfl) (t_draw K) pure_draw (fun cdv A outer s H E hr => by exact (pss_cons (ps_if (pt_cmpR op_gt (pe_ix ix_list (pv 0) pe_int (fun _ _ => rfl)) pe_int (nomark _)) (pss_cons (ps_set (i := 2) sc_draw.nd rfl (.inl rfl) (pe_op op_mod (pe_ix ix_list (pv 0) pe_int (fun _ _ => rfl)) (pv 1)))
    (pss_cons (ps_asg (pe_op op_fdiv (pe_ix ix_list (pv 0) pe_int (fun _ _ => rfl)) (pv 1)) (pg_sub (pv 0) pe_int set_list))
    (pss_one (ps_ret (pv 2))))) pss_nil)
    (pss_cons (ps_asg (pe_op op_add (pe_ix ix_list (pv 0) pe_int (fun _ _ => rfl)) pe_int) (pg_sub (pv 0) pe_int set_list))
    (pss_cons (ps_set (i := 3) sc_draw.nd rfl (.inl rfl) (pe_ix ix_list (pe_lst (pa_cons pe_int (pa_cons pe_int (pa_cons pe_int (pa_cons pe_int (pa_cons pe_int (pa_cons pe_int (pa_cons pe_int pa_nil)))))))) (pe_op op_mod (pe_ix ix_list (pv 0) pe_int (fun _ _ => rfl)) pe_int) (fun _ _ => rfl)))
    (pss_cons (ps_set (i := 4) sc_draw.nd rfl (.inl rfl) (pe_op op_mod (pe_op op_pow (pe_op op_add (pe_op op_add (pe_ix ix_list (pv 0) pe_int (fun _ _ => rfl)) (pe_op op_mul (pe_op op_mul pe_int (pe_ix ix_list (pv 0) pe_int (fun _ _ => rfl))) (pe_ix ix_list (pv 0) pe_int (fun _ _ => rfl)))) pe_int) pe_int) (pv 3)))
    (pss_one (ps_ret (pe_op op_mod (pe_op op_fdiv (pe_op op_mod (pe_op op_mul (pv 4) (pe_op op_add (pe_op op_mod (pv 4) pe_int) (pe_op op_mul pe_int (pe_ix ix_list (pv 0) pe_int (fun _ _ => rfl))))) pe_int) pe_int) (pv 1)))))))))
theorem ok_choice {f : Addr} {fd : FuncData} (B : Bl mg) (F : FnP K "_law_choice" s_choice f fd) (hm : mg "_law_choice" = some (.ref f)) (d_draw : Dn P w K mg base 1 "_law_draw" spDraw)  : Dn P w K mg base 2 "_law_choice" (spChoice K) :=
  dnp (k := 1) F hm sc_choice 0 rfl (fun vs H Q E h => by (repeat (obtain ⟨_, h⟩ := h)); subst_vars; rfl) (fun _ _ _ _ _ _ us hl => match us, hl with | [_, _], _ => rfl) (t_choice K) pure_choice (fun cdv A outer s H E hr => by exact (pss_one (ps_ret (pe_ix ix_list (pv 1) (pe_d d_draw hr (pa_cons (pv 0) (pa_cons (pe_callB call_len_seq (by rfl) B.len PySem.boot_len (pa_cons (pv 1) pa_nil)) pa_nil))) (fun _ _ => rfl)))))
theorem ok_mixed {f : Addr} {fd : FuncData} (B : Bl mg) (F : FnP K "_law_mixed" s_mixed f fd) (hm : mg "_law_mixed" = some (.ref f)) (d_draw : Dn P w K mg base 1 "_law_draw" spDraw)  : Dn P w K mg base 2 "_law_mixed" (spMixed K) :=
  dnp (k := 1) F hm sc_mixed 2 rfl (fun vs H Q E h => by (repeat (obtain ⟨_, h⟩ := h)); subst_vars; rfl) (fun _ _ _ _ _ _ us hl => match us, hl with | [_, _], _ => rfl) (t_mixed K) pure_mixed (fun cdv A outer s H E hr => by exact (pss_cons (ps_set (i := 2) sc_mixed.nd rfl (.inr rfl) (pe_callTy call_list_of (by rfl) B.list (by decide +kernel) (pa_cons (pv 1) pa_nil)))
    (pss_one (ps_ret (pe_lc (own := [("_law_turn", 3)]) (g := (gName 3)) (tt := tYes) (te := (tBM K "list" rPopAt (tVar 2) (tCons (tCall spDraw [] E0 (tCons (tVar 0) (tCons (tCB (rLenQ K) (tCons (tVar 2) tNil)) tNil))) tNil))) rfl sc_mixed.nd (pi_range1 (by rfl) B.range (pa_cons (pe_callB call_len_seq (by rfl) B.len PySem.boot_len (pa_cons (pv 1) pa_nil)) pa_nil)) (blkOk_by (N := nm_mixed) (sc := defScope s_mixed) (by decide +kernel)) (fun _ _ _ _ _ => by exact (pg_name (i := 3) sc_mixed.nd rfl (.inl rfl))) (fun _ _ _ _ _ => by exact pts_nil) (fun _ _ _ _ _ => by exact (pe_bm PySem.F.plainAttrs_list PySem.F.slot_list_pop PySem.F.type_list_pop mt_popAt (pv 2) (pa_cons (pe_d d_draw hr (pa_cons (pv 0) (pa_cons (pe_callB call_len_seq (by rfl) B.len PySem.boot_len (pa_cons (pv 2) pa_nil)) pa_nil))) pa_nil))))))))
theorem ok_names {f : Addr} {fd : FuncData} (B : Bl mg) (F : FnP K "_law_names" s_names f fd) (hm : mg "_law_names" = some (.ref f)) (d_draw : Dn P w K mg base 1 "_law_draw" spDraw) (d_choice : Dn P w K mg base 2 "_law_choice" (spChoice K))  : Dn P w K mg base 3 "_law_names" (spNames K) :=
  dnp (k := 2) F hm sc_names 5 rfl (fun vs H Q E h => by (repeat (obtain ⟨_, h⟩ := h)); subst_vars; rfl) (fun _ _ _ _ _ _ us hl => match us, hl with | [_, _], _ => rfl) (t_names K) pure_names (fun cdv A outer s H E hr => by exact (pss_cons (ps_asg (pe_tup (pa_cons (pe_d d_choice hr (pa_cons (pv 0) (pa_cons (pe_lst (pa_cons pe_str (pa_cons pe_str (pa_cons pe_str (pa_cons pe_str (pa_cons pe_str pa_nil)))))) pa_nil))) (pa_cons (pe_d d_draw hr (pa_cons (pv 0) (pa_cons pe_int pa_nil))) pa_nil))) (pg_tup rfl (pgs_cons (pg_name (i := 2) sc_names.nd rfl (.inr rfl)) (pgs_cons (pg_name (i := 3) sc_names.nd rfl (.inr rfl)) pgs_nil))))
    (pss_cons (ps_set (i := 4) sc_names.nd rfl (.inr rfl) (pe_lc (own := [("_law_at", 6)]) (g := (gName 6)) (tt := tYes) (te := (tOp rAddS (tVar 2) (tOp rIxS (tC (.str "abcdefghijklmnopqrstuvwxyz")) (tOp rMod (tOp rAdd (tVar 3) (tOp rMul (tC (.int 7)) (tVar 6))) (tC (.int 26)))))) rfl sc_names.nd (pi_range1 (by rfl) B.range (pa_cons (pe_callB (call_min2 rfl) (by rfl) B.min (by decide +kernel) (pa_cons (pv 1) (pa_cons pe_int pa_nil))) pa_nil)) (blkOk_by (N := nm_names) (sc := defScope s_names) (by decide +kernel)) (fun _ _ _ _ _ => by exact (pg_name (i := 6) sc_names.nd rfl (.inl rfl))) (fun _ _ _ _ _ => by exact pts_nil) (fun _ _ _ _ _ => by exact (pe_op op_add_str (pv 2) (pe_ix ix_str pe_str (pe_op op_mod (pe_op op_add (pv 3) (pe_op op_mul pe_int (pv 6))) pe_int) (fun _ _ => rfl))))))
    (pss_cons (ps_set (i := 5) sc_names.nd rfl (.inl rfl) (pe_ifExp (pt_cmpR op_le (pv 1) pe_int (nomark _)) (pe_lc (own := [("_law_at", 6)]) (g := (gName 6)) (tt := tYes) (te := (tOp rAddS (tC (.str "x")) (tOp (rIxL K) (tVar 4) (tOp rMod (tVar 6) (tC (.int 26)))))) rfl sc_names.nd (pi_range2 (by rfl) B.range (pa_cons pe_int (pa_cons (pv 1) pa_nil))) (blkOk_by (N := nm_names) (sc := defScope s_names) (by decide +kernel)) (fun _ _ _ _ _ => by exact (pg_name (i := 6) sc_names.nd rfl (.inl rfl))) (fun _ _ _ _ _ => by exact pts_nil) (fun _ _ _ _ _ => by exact (pe_op op_add_str pe_str (pe_ix ix_list (pv 4) (pe_op op_mod (pv 6) pe_int) (fun _ _ => rfl))))) (pe_lst pa_nil)))
    (pss_one (ps_ret (pe_callB cr_sortedS (by rfl) B.sorted (by decide +kernel) (pa_cons (pe_op op_cat (pv 4) (pv 5)) pa_nil))))))))
theorem ok_project {f : Addr} {fd : FuncData} (B : Bl mg) (F : FnP K "_law_project" s_project f fd) (hm : mg "_law_project" = some (.ref f)) (d_draw : Dn P w K mg base 1 "_law_draw" spDraw) (d_choice : Dn P w K mg base 2 "_law_choice" (spChoice K)) (d_mixed : Dn P w K mg base 2 "_law_mixed" (spMixed K)) (d_names : Dn P w K mg base 3 "_law_names" (spNames K))  : Dn P w K mg base 4 "_law_project" (spProject K) :=
  dnp (k := 3) F hm sc_project 9 rfl (fun vs H Q E h => by (repeat (obtain ⟨_, h⟩ := h)); subst_vars; rfl) (fun _ _ _ _ _ _ us hl => match us, hl with | [_, _, _], _ => rfl) (t_project K) pure_project (fun cdv A outer s H E hr => by exact (pss_cons (ps_par (i := 3) (j := 4) rfl sc_project.nd rfl rfl (by decide) rfl rfl (pa_cons (pe_d d_mixed hr (pa_cons (pv 0) (pa_cons (pe_d d_names hr (pa_cons (pv 0) (pa_cons (pe_op op_add pe_int (pe_d d_draw hr (pa_cons (pv 0) (pa_cons (pv 1) pa_nil)))) pa_nil))) pa_nil))) (pa_cons (pe_lst pa_nil) pa_nil)) (by rfl))
    (pss_cons (ps_set (i := 5) sc_project.nd rfl (.inl rfl) (pe_cmpR op_eq (pe_d d_draw hr (pa_cons (pv 0) (pa_cons pe_int pa_nil))) pe_int (nomark _)))
    (pss_cons (ps_for PassesOwn.never rfl (pi_enum (by rfl) B.enumerate (pa_cons (pv 3) pa_nil)) (pg_tup rfl (pgs_cons (pg_name (i := 6) sc_project.nd rfl (.inl rfl)) (pgs_cons (pg_name (i := 7) sc_project.nd rfl (.inr rfl)) pgs_nil))) (pss_cons (ps_set (i := 8) sc_project.nd rfl (.inl rfl) (pe_ifExp (pt_val (pv 5)) (pe_lc (own := [("_law_other", 11)]) (g := (gName 11)) (tt := (tTest (tOp rNe (tVar 11) (tVar 7)))) (te := (tVar 11)) rfl sc_project.nd (pi_list (pv 3)) (blkOk_by (N := nm_project) (sc := defScope s_project) (by decide +kernel)) (fun _ _ _ _ _ => by exact (pg_name (i := 11) sc_project.nd rfl (.inl rfl))) (fun _ _ _ _ _ => by exact (pts_one (pt_cmpR op_ne (pv 11) (pv 7) (nomark _)))) (fun _ _ _ _ _ => by exact (pv 11))) (pe_slice sl_list (pv 3) po_none (po_some (pv 6)))))
    (pss_cons (ps_set (i := 9) sc_project.nd rfl (.inl rfl) (pe_ifExp (pt_cmpR op_lt (pv 6) (pe_op op_sub (pe_callB call_len_seq (by rfl) B.len PySem.boot_len (pa_cons (pv 3) pa_nil)) pe_int) (nomark _)) pe_int (pe_op op_add (pv 2) pe_int)))
    (pss_cons (ps_set (i := 10) sc_project.nd rfl (.inl rfl) (pe_slice sl_list (pe_d d_mixed hr (pa_cons (pv 0) (pa_cons (pv 8) pa_nil))) po_none (po_some (pe_d d_draw hr (pa_cons (pv 0) (pa_cons (pe_callB (call_min2 rfl) (by rfl) B.min (by decide +kernel) (pa_cons (pv 9) (pa_cons (pe_op op_add (pe_callB call_len_seq (by rfl) B.len PySem.boot_len (pa_cons (pv 8) pa_nil)) pe_int) pa_nil))) pa_nil))))))
    (pss_one (ps_expr (pe_bm PySem.F.plainAttrs_list PySem.F.slot_list_append PySem.F.type_list_append mt_append (pv 4) (pa_cons (pe_tup (pa_cons (pv 7) (pa_cons (pe_callTy call_tuple_of (by rfl) B.tuple (by decide +kernel) (pa_cons (pv 10) pa_nil)) (pa_cons (pe_d d_choice hr (pa_cons (pv 0) (pa_cons (pe_lst (pa_cons pe_str (pa_cons pe_str (pa_cons pe_str pa_nil)))) pa_nil))) pa_nil)))) pa_nil))))))))
    (pss_one (ps_ret (pe_callTy call_tuple_of (by rfl) B.tuple (by decide +kernel) (pa_cons (pe_callB cr_sortM (by rfl) B.sorted (by decide +kernel) (pa_cons (pv 4) pa_nil)) pa_nil))))))))
theorem ok_line {f : Addr} {fd : FuncData} (B : Bl mg) (F : FnP K "_law_line" s_line f fd) (hm : mg "_law_line" = some (.ref f))   : Dn P w K mg base 1 "_law_line" (spLine K) :=
  dnp (k := 0) F hm sc_line 1 rfl (fun vs H Q E h => by (repeat (obtain ⟨_, h⟩ := h)); subst_vars; rfl) (fun _ _ _ _ _ _ us hl => match us, hl with | [_], _ => rfl) (t_line K) pure_line (fun cdv A outer s H E hr => by exact (pss_cons (ps_set (i := 1) sc_line.nd rfl (.inl rfl) (pe_op op_add_str (pe_op op_add_str (pe_ix ix_tup (pv 0) pe_int (fun _ _ => rfl)) pe_str) (pe_ix ix_tup (pv 0) pe_int (fun _ _ => rfl))))
    (pss_one (ps_ret (pe_ifExp (pt_cmpR (op_neD hr.units) (pe_ix ix_tup (pv 0) pe_int (fun _ _ => rfl)) (pe_tup pa_nil) (nomark _)) (pe_op op_add_str (pe_op op_add_str (pv 1) pe_str) (pe_join pe_str (pe_ix ix_tup (pv 0) pe_int (fun _ _ => rfl)))) (pv 1))))))
theorem ok_law {f : Addr} {fd : FuncData} (B : Bl mg) (F : FnP K "law" s_k62law f fd) (d_fmtProj : Dn P w K mg base 2 "format_project" (spFmtProj K)) (d_start : Dn P w K mg base 1 "_law_start" (spStart K)) (d_project : Dn P w K mg base 4 "_law_project" (spProject K)) (d_line : Dn P w K mg base 1 "_law_line" (spLine K))  : FnG P w K mg base CX0 9 f fd ["_law_script"] (spLaw K) :=
  lawFn (k := 8) F sc_k62law 7 rfl (fun vs H Q E h => by (repeat (obtain ⟨_, h⟩ := h)); subst_vars; rfl) (t_k62law K) pure_k62law (fun cdv A outer s H E hG hr => by exact (pss_cons (ps_for PassesOwn.never rfl (pi_range1 (by rfl) B.range (pa_cons (pe_callB (call_max2 rfl) (by rfl) B.max (by decide +kernel) (pa_cons pe_int (pa_cons (pe_callB (call_min2 rfl) (by rfl) B.min (by decide +kernel) (pa_cons pe_int (pa_cons (pe_callB call_len_seq (by rfl) B.len PySem.boot_len (pa_cons (pv 0) pa_nil)) pa_nil))) pa_nil))) pa_nil)) (pg_name (i := 1) sc_k62law.nd rfl (.inl rfl)) (pss_cons (ps_set (i := 2) sc_k62law.nd rfl (.inl rfl) (pe_d d_start hr (pa_cons (pv 0) (pa_cons (pv 1) pa_nil))))
    (pss_one (ps_for PassesOwn.never rfl (pi_range1 (by rfl) B.range (pa_cons pe_int pa_nil)) (pg_name (i := 3) sc_k62law.nd rfl (.inl rfl)) (pss_cons (ps_set (i := 4) sc_k62law.nd rfl (.inl rfl) (pe_d d_project hr (pa_cons (pv 2) (pa_cons pe_int (pa_cons pe_int pa_nil)))))
    (pss_cons (ps_par (i := 5) (j := 6) rfl sc_k62law.nd rfl rfl (by decide) rfl rfl (pa_cons (pe_callB (call_repr hG hr.units) (by rfl) B.repr (by decide +kernel) (pa_cons (pv 4) pa_nil)) (pa_cons (pe_join pe_str (pe_lc (own := [("_law_item", 7)]) (g := (gName 7)) (tt := tYes) (te := (tCall (spLine K) [] E0 (tCons (tVar 7) tNil))) rfl sc_k62law.nd (pi_tup (pv 4)) (blkOk_by (N := nm_k62law) (sc := defScope s_k62law) (by decide +kernel)) (fun _ _ _ _ _ => by exact (pg_name (i := 7) sc_k62law.nd rfl (.inl rfl))) (fun _ _ _ _ _ => by exact pts_nil) (fun _ _ _ _ _ => by exact (pe_d d_line hr (pa_cons (pv 7) pa_nil))))) pa_nil)) (by rfl))
    (pss_one (ps_if (PW.pt (pw_or (pt_cmpR op_ne (pe_d d_fmtProj hr (pa_cons (pv 4) pa_nil)) (pv 6) (nomark _)) (pw_or (pt_cmpR op_ne (pe_callB (call_repr hG hr.units) (by rfl) B.repr (by decide +kernel) (pa_cons (pv 4) pa_nil)) (pv 5) (nomark _)) (pw_or1 (pt_cmpR op_ne (pe_d d_fmtProj hr (pa_cons (pe_tup pa_nil) pa_nil)) pe_str (nomark _)))))) (pss_one (ps_ret pe_bl)) pss_nil))))))))
    (pss_one (ps_ret pe_bl))))
end
def mkD (x : Str) (i : Nat) : He.DefD := ⟨(x, none), x, x, defArgs (topS i), defBody (topS i), defScope (topS i), [], []⟩
def fn : List He.DefD := [mkD "format_module" 5, mkD "format_project" 6, mkD "_law_start" 8, mkD "_law_draw" 9, mkD "_law_choice" 10, mkD "_law_mixed" 11, mkD "_law_names" 12, mkD "_law_project" 13, mkD "_law_line" 14, mkD "law" 15]
def fa : List He.Fa := [.glo "format_module", .glo "format_project", .glo "_law_start", .glo "_law_draw", .glo "_law_choice", .glo "_law_mixed", .glo "_law_names", .glo "_law_project", .glo "_law_line", .glo "law", .str "FEED" "\n", .str "BLANK" " ", .str "COLON" ":", .str "COMMA" ",", .free "len", .free "abs", .free "int", .free "list", .free "tuple", .free "range", .free "min", .free "max", .free "sorted", .free "enumerate", .free "zip", .free "repr", .free "all", .free "any", .free "set", .free "str", .free "bool", .free "dict", .free "sum", .free "reversed", .free "isinstance"]
abbrev R : PySem.W.OpenRow := PySem.W.OpenLaw.row PySem.Challenge.rw_importorder_k62_formatted_projects
abbrev hk : PySem.W.Hook := He.hookD 4 fa fn
def ob (s : PySem.W.SharedT) : He.AlD := He.obsDG 4 fa fn (HandSHeadRun.getT s)
theorem obEq (s : PySem.W.SharedT) : ob s = hk.obs s.abs := He.obsDG_eq (HandSHeadRun.getT_eq s)
def loose0 : List Str := ["FEED", "BLANK", "COLON", "COMMA", "format_module", "format_project", "_law_start", "_law_draw", "_law_choice", "_law_mixed", "_law_names", "_law_project", "_law_line"]
def loose : List Str := loose0
theorem ran (w : World) : HandSHeadRun.RunEq R (PySem.W.view R.prog [15]) hk ob 20000 loose w := by
  intro os
  kernel_rfl
theorem all {P : Program} {w : World} {K : PySem.W.Frag} {h : Heap} {mg : Str → Option Value} {f : Addr} (X : K.In h) (G : h.Ns mainGlobals mg) (hfa : mg ("law" : Str) = some (.ref f)) (c : He.SaysD fa fn K) :
    ∃ fd : FuncData, (∀ (s : Shared) (v : Value), BindsTo s fd ⟨[v], []⟩ [("_law_script", v)]) ∧ ∀ base : Heap, K.In base → base.Ns mainGlobals mg → FnG P w K mg base CX0 9 f fd ["_law_script"] (spLaw K) := by
  obtain ⟨fd_fmtMod, F_fmtMod⟩ := c.def_ 0 (d := mkD "format_module" 5) rfl
  have g_fmtMod := He.glo_ok X G (c.fact 0 (f := .glo "format_module") rfl)
  obtain ⟨fd_fmtProj, F_fmtProj⟩ := c.def_ 1 (d := mkD "format_project" 6) rfl
  have g_fmtProj := He.glo_ok X G (c.fact 1 (f := .glo "format_project") rfl)
  obtain ⟨fd_start, F_start⟩ := c.def_ 2 (d := mkD "_law_start" 8) rfl
  have g_start := He.glo_ok X G (c.fact 2 (f := .glo "_law_start") rfl)
  obtain ⟨fd_draw, F_draw⟩ := c.def_ 3 (d := mkD "_law_draw" 9) rfl
  have g_draw := He.glo_ok X G (c.fact 3 (f := .glo "_law_draw") rfl)
  obtain ⟨fd_choice, F_choice⟩ := c.def_ 4 (d := mkD "_law_choice" 10) rfl
  have g_choice := He.glo_ok X G (c.fact 4 (f := .glo "_law_choice") rfl)
  obtain ⟨fd_mixed, F_mixed⟩ := c.def_ 5 (d := mkD "_law_mixed" 11) rfl
  have g_mixed := He.glo_ok X G (c.fact 5 (f := .glo "_law_mixed") rfl)
  obtain ⟨fd_names, F_names⟩ := c.def_ 6 (d := mkD "_law_names" 12) rfl
  have g_names := He.glo_ok X G (c.fact 6 (f := .glo "_law_names") rfl)
  obtain ⟨fd_project, F_project⟩ := c.def_ 7 (d := mkD "_law_project" 13) rfl
  have g_project := He.glo_ok X G (c.fact 7 (f := .glo "_law_project") rfl)
  obtain ⟨fd_line, F_line⟩ := c.def_ 8 (d := mkD "_law_line" 14) rfl
  have g_line := He.glo_ok X G (c.fact 8 (f := .glo "_law_line") rfl)
  obtain ⟨fd_k62law, F_k62law⟩ := c.def_ 9 (d := mkD "law" 15) rfl
  have g_k62law := He.glo_ok X G (c.fact 9 (f := .glo "law") rfl)
  have c_FEED := He.str_ok X G (c.fact 10 (f := .str "FEED" "\n") rfl)
  have c_BLANK := He.str_ok X G (c.fact 11 (f := .str "BLANK" " ") rfl)
  have c_COLON := He.str_ok X G (c.fact 12 (f := .str "COLON" ":") rfl)
  have c_COMMA := He.str_ok X G (c.fact 13 (f := .str "COMMA" ",") rfl)
  have B : Bl mg := ⟨He.free_ok X G (c.fact 14 (f := .free "len") rfl), He.free_ok X G (c.fact 15 (f := .free "abs") rfl), He.free_ok X G (c.fact 16 (f := .free "int") rfl), He.free_ok X G (c.fact 17 (f := .free "list") rfl), He.free_ok X G (c.fact 18 (f := .free "tuple") rfl), He.free_ok X G (c.fact 19 (f := .free "range") rfl), He.free_ok X G (c.fact 20 (f := .free "min") rfl), He.free_ok X G (c.fact 21 (f := .free "max") rfl), He.free_ok X G (c.fact 22 (f := .free "sorted") rfl), He.free_ok X G (c.fact 23 (f := .free "enumerate") rfl), He.free_ok X G (c.fact 24 (f := .free "zip") rfl), He.free_ok X G (c.fact 25 (f := .free "repr") rfl), He.free_ok X G (c.fact 26 (f := .free "all") rfl), He.free_ok X G (c.fact 27 (f := .free "any") rfl), He.free_ok X G (c.fact 28 (f := .free "set") rfl), He.free_ok X G (c.fact 29 (f := .free "str") rfl), He.free_ok X G (c.fact 30 (f := .free "bool") rfl), He.free_ok X G (c.fact 31 (f := .free "dict") rfl), He.free_ok X G (c.fact 32 (f := .free "sum") rfl), He.free_ok X G (c.fact 33 (f := .free "reversed") rfl), He.free_ok X G (c.fact 34 (f := .free "isinstance") rfl)⟩
  have e := hfa.symm.trans g_k62law
  cases e
  have b := FunD.bindsA (ps := ["_law_script"]) F_k62law fun _ _ _ _ _ _ us hl => match us, hl with | [_], _ => rfl
  refine ⟨fd_k62law, fun s v => b s [v] rfl, fun base _ _ => ?_⟩
  have d_fmtMod : Dn P w K mg base 1 "format_module" (spFmtMod K) := ok_fmtMod B F_fmtMod g_fmtMod  c_BLANK c_COLON c_COMMA
  have d_fmtProj : Dn P w K mg base 2 "format_project" (spFmtProj K) := ok_fmtProj B F_fmtProj g_fmtProj d_fmtMod c_FEED
  have d_start : Dn P w K mg base 1 "_law_start" (spStart K) := ok_start B F_start g_start  
  have d_draw : Dn P w K mg base 1 "_law_draw" spDraw := ok_draw B F_draw g_draw  
  have d_choice : Dn P w K mg base 2 "_law_choice" (spChoice K) := ok_choice B F_choice g_choice d_draw 
  have d_mixed : Dn P w K mg base 2 "_law_mixed" (spMixed K) := ok_mixed B F_mixed g_mixed d_draw 
  have d_names : Dn P w K mg base 3 "_law_names" (spNames K) := ok_names B F_names g_names d_draw d_choice 
  have d_project : Dn P w K mg base 4 "_law_project" (spProject K) := ok_project B F_project g_project d_draw d_choice d_mixed d_names 
  have d_line : Dn P w K mg base 1 "_law_line" (spLine K) := ok_line B F_line g_line  
  exact ok_law B F_k62law d_fmtProj d_start d_project d_line 
end GL.Ck62
open PySem PySem.W PySem.Calls PyProof.Rows
theorem PySem.Challenge.cw_importorder_k62_formatted_projects_holds : PySem.Challenge.rw_importorder_k62_formatted_projects.Holds := by
  w_on; o_law
  refine HandSHeadRun.head_any (r := OpenLaw.row PySem.Challenge.rw_importorder_k62_formatted_projects) (q := view (OpenLaw.row PySem.Challenge.rw_importorder_k62_formatted_projects).prog [15]) (H := GL.Ck62.hk) (ob := GL.Ck62.ob) (M := 20000) (loose := GL.Ck62.loose) (d := HandSHeadRun.topDef (OpenLaw.row PySem.Challenge.rw_importorder_k62_formatted_projects).prog 15) (kwd := []) GL.Ck62.obEq (by kernel_rfl) (fun s => by kernel_rfl) GL.Ck62.ran (by kernel_rfl) (by kernel_rfl) (by kernel_rfl) (by rfl)
    (by first | assumption | decide +kernel) (by decide +kernel) ⟨rfl, rfl, rfl, rfl, rfl, by decide +kernel⟩ ?hw ?hc
  case hw => w_witness2
  case hc =>
    refine GL.walk_ofG (l := PySem.Challenge.rw_importorder_k62_formatted_projects) (n := 63) (k := 9) (x := "_law_script") rfl (by decide) (by kernel_rfl) ⟨rfl, by decide, by decide⟩ ?_
    intro w mg fa h Y G hmg0
    obtain ⟨K, KX, c⟩ := Y
    have en : (HandSHeadRun.topDef (OpenLaw.row PySem.Challenge.rw_importorder_k62_formatted_projects).prog 15).name = ("law" : PySem.Str) := by kernel_rfl
    have hmg : mg ("law" : PySem.Str) = some (.ref fa) := en ▸ hmg0
    obtain ⟨fd, hb, hF⟩ := GL.Ck62.all (P := (PySem.Challenge.rw_importorder_k62_formatted_projects).prog) (w := w) KX G hmg c
    exact ⟨K, fd, GL.spLaw K, KX, hb, fun H a ns hl _ hS => ⟨a, ns, rfl, hS, hl, fun _ => rfl⟩, hF⟩
