import PyProof.Rows.All
import Wide.All
import OpenK.AllK
import Wide.FinOn
import KE.KStateDown
import Lean
import HandS.ForMost
import HandS.Wide
import HandS.Defaults
import HandS.FStr
import HandS.Flow
import HandS.Conv
import HandS.Zip
import HandS.Head0
import HandS.Head1
import HandS.Head2
import HandS.HeadEnd
import HandS.HeadHook1
import HandS.HeadHook2
import HandS.SortRule
import HandS.Walk
import HandS.Strs
import HandS.Star
import HandS.DictComp
import HandS.IsInst
import HandS.TupAny
import KE.DataMinMax
import HandS.More
import HandS.Dict
import HandS.Style
import HandS.Steps
import PySem.Challenge.RW_importorder_k05_whole_rings_by_construct
set_option Elab.async false
set_option linter.all false
set_option maxRecDepth 100000
set_option maxHeartbeats 4000000
/-! GL: own layer over the hand layer: defs that are run where no repr is under way (FnG), repr of data, great powers. -/
namespace GL
open PySem PySem.Spec PyProof.Rows L2

section
variable {X : Cx}
/-- a power of any base, the product of bits and exponent below 2 ^ 27 -/
def CPowW (i j : Int) : Prop := 0 ≤ j ∧ (Builtin.Int.intBits i : Int) * j ≤ 2 ^ 27
theorem op_powW : OpR X (binaryOp .Pow) (rI CPowW fun i j => .int (i ^ j.toNat)) :=
  opI fun _ _ _ _ _ _ _ hc q => pow_int hc.1 hc.2 q

/-- what repr asks of one datum -/
def rRepr (K : PySem.W.Frag) : List V → Hp → VK → Prop := fun xs H Q =>
  ∃ v d, xs = [v] ∧ Dp K H v d ∧ d.showable = true ∧ d.hasDict = false ∧ d.shown.length ≤ sizeLine ∧ d.depth ≤ 60 ∧ Q (.str d.shown) H

theorem call_repr (hg : X.A.guards = some []) (hu : X.A.units + 64 < cLine) : CallR X (.builtin "repr") (rRepr X.K) := by
  intro pins s σ H vs us Q I r h
  obtain ⟨v, d, rfl, hd, h1, h2, h3, h4, q⟩ := h
  cases r with
  | cons rv rn =>
    cases rn
    rename_i u
    obtain ⟨as, hr⟩ := Dp.reads I d v u hd rv
    have fin : ∀ (h' : Heap) (t : Tok) (tk : Nat), (∀ b o, s.heap.get? b = some o → h'.get? b = some o) → EP X pins σ Q (.str d.shown t) { s with heap := h', toks := tk } :=
      fun h' t tk k => ⟨.str d.shown, H, I.kept k, ⟨t, rfl⟩, q⟩
    cases hr with
    | none =>
      simp only [PyData.shown] at fin
      exact PySem.P.repr_of_none (fin s.heap _ _ fun _ _ e => e)
    | bool b =>
      simp only [PyData.shown] at fin
      exact PySem.P.repr_of_bool (fin s.heap _ _ fun _ _ e => e)
    | int i t =>
      simp only [PyData.shown] at fin
      exact PySem.P.repr_of_int (by simpa [PyData.showable] using h1) (fin s.heap _ _ fun _ _ e => e)
    | str x t =>
      simp only [PyData.shown] at fin h3
      exact PySem.P.repr_of_str (fin s.heap _ _ fun _ _ e => e) h3
    | list a1 a2 a3 a4 => exact repr_of_reads' (Reads.list a1 a2 a3 a4) h1 (PyData.noDict_hsm h2) hg (by omega) (fun _ _ e => e) (fun h' t tk k => fin h' t tk k) h3
    | tuple a1 a2 a3 a4 => exact repr_of_reads' (Reads.tuple a1 a2 a3 a4) h1 (PyData.noDict_hsm h2) hg (by omega) (fun _ _ e => e) (fun h' t tk k => fin h' t tk k) h3
    | dict a1 a2 a3 a4 a5 => simp [PyData.hasDict] at h2
end

/-- a def's promise where no guard of repr is under way -/
structure FnG (P : Program) (w : World) (K : PySem.W.Frag) (mg : Str → Option Value) (base : Heap) (CX : CXT) (k : Nat) (f : Addr) (fd : FuncData) (ps : List Str) (sp : Sp) : Prop where
  len : ∀ vs H Q E, sp vs H Q E → vs.length = ps.length
  run : ∀ (A : Around) (outer : List Env) (s : Shared) (H : Hp) (args : Args) (us : List Value) (vs : List V) (Q : VK) (E : XK), A.guards = some [] → Room k A →
    Env0 P w K mg base A outer s H → BindsTo s fd args (ps.zip us) → Vals vs us → sp vs H Q E →
    codeAny (model P w) A (.call (.ref f) args) (CR CX outer P w H s Q E) s

section
variable {P : Program} {w : World} {K : PySem.W.Frag} {mg : Str → Option Value} {base : Heap} {CX : CXT} {k j : Nat} {f : Addr} {fd : FuncData} {ps : List Str} {sp : Sp}
theorem FnG.of (F : FnOk P w K mg base CX k f fd ps sp) : FnG P w K mg base CX k f fd ps sp :=
  ⟨F.len, fun A outer s H args us vs Q E _ hr => F.run A outer s H args us vs Q E hr⟩
theorem FnG.mono (F : FnG P w K mg base CX j f fd ps sp) (h : j ≤ k) : FnG P w K mg base CX k f fd ps sp :=
  ⟨F.len, fun A outer s H args us vs Q E hg hr => F.run A outer s H args us vs Q E hg (hr.mono h)⟩

theorem fnG_of {name qual : Str} {params : Arguments} {body : List Stmt} {scope : Scope} {dV kV doc pm cdv ct oc : Value} {an od : Option Addr} {osl : Array (Option Value)} {N : List Str}
    (lk : K.lookup f = some ⟨oc, od, .func (PySem.W.fnOf name qual params body scope dV kV doc pm an cdv ct), osl⟩) (hcd : PySem.W.codeIn K cdv qual = true) (S : FnScope N ps scope)
    (len : ∀ vs H Q E, sp vs H Q E → vs.length = ps.length)
    (hb : ∀ (A : Around) (outer : List Env) (s : Shared) (H : Hp) (vs : List V) (Q : VK) (E : XK), A.guards = some [] → Room k (A.deeper (envOfC qual scope s.heap.objs.size f cdv)) → sp vs H Q E →
      ∃ t, PSs (cxOf CX P w K mg base N qual scope f cdv A outer s H E) body t ∧ t { nx := fun _ H' => Q .non H', rt := Q } (start N vs) H) :
    FnG P w K mg base CX (k + 1) f (PySem.W.fnOf name qual params body scope dV kV doc pm an cdv ct) ps sp := by
  constructor
  · exact len
  intro A outer s H args us vs Q E hg hr e0 hbd r hsp
  have old : ∀ b o, base.get? b = some o → s.heap.get? b = some o := fun b o e => (e0.bs b o e).1
  have KX : K.In s.heap := e0.mod.kin.keeps old
  refine codeAny_call_function hr.depth (KX _ _ lk) rfl S.co S.gen rfl (PySem.W.codeRec_of KX hcd) (hbd _ _ _ _ ?_)
  refine wpAny_newFunctionEnv_cells S.kind ?_ fun env he s1 x => ?_
  · rintro ⟨n, v⟩ hy
    have q := S.par n (List.of_mem_zip hy).1
    exact q.imp_right fun q => ⟨q, PySem.W.cellsFrom_some _ _ _ (.inl q)⟩
  subst he
  refine ⟨(e0.mod.nolimit.keeps old).keeps x.toInCall.keep, codeAny_func ?_⟩
  obtain ⟨t, ht, hq⟩ := hb A outer s H vs Q E hg (hr.deeper _) hsp
  have I := inv_start (CX := CX) (E := E) S hr.hd e0 (len _ _ _ _ hsp) r x
  refine wpAny_mono (ht.run [] s1 (start N vs) H _ I hq) (fun fl s' hs => ?_) fun _ _ z => z
  cases fl with
  | ret u =>
    obtain ⟨v, σ', H', J, rv, q⟩ := hs
    exact ⟨v, H', J.os, J.bare, J.base, J.hok, rv, q⟩
  | next =>
    obtain ⟨σ', H', J, q⟩ := hs
    exact ⟨.non, H', J.os, J.bare, J.base, J.hok, rfl, q⟩
  | brk => exact hs.elim fun _ z => z.elim fun _ z => z.2.elim
  | cont => exact hs.elim fun _ z => z.elim fun _ z => z.2.elim
end

section
variable {X : Cx} {CX : CXT} {k : Nat} {f : Addr} {fd : FuncData} {ps : List Str} {sp : Sp} {dvs : List V} {ds : List Value} {E : XK} {x : Str} {p pos : Pos} {e : Expr} {es : List Expr} {t : TA}
/-- f(e, ..) of a def that is run where no repr is under way -/
theorem pe_callG (F : FnG X.prog X.w X.K X.mg X.base CX k f fd ps sp) (hgd : X.A.guards = some []) (hr : Room k X.A) (hg : Gl X x) (hm : X.mg x = some (.ref f)) (hk : PySem.W.keepIn X.K (.ref f) = true) (hb : Binds X.K fd ps ds) (hd : Vals dvs ds)
    (hx : Passes CX X E) (ha : PA X (e :: es) t) (hdb : (x == ("__debug__" : Str)) = false := by decide) (he : starEach (e :: es) X.env = (false, eval e X.env) :: starEach es X.env := by rfl)
    (hpl : (backTo pos (starEach es X.env)).any (·.1) = false := by rfl) : PE X (.Call (.Name x p) (e :: es) [] pos) (tCall sp dvs E t) := by
  constructor
  intro pins s σ H Q I h
  refine wpAny_Call_Name_kw (ld_glob I hg hm ?_ hdb)
  refine PySem.W.callWith_K (h₀ := X.base) I.ok.mod.kin hk (thn (ha.run pos pins s σ H _ I h) ?_) he hpl
  rintro us s1 ⟨vs, H1, I1, r, q⟩
  refine ⟨I1.kIn, ?_⟩
  have r2 : Vals (vs ++ dvs) (us ++ ds) := r.append hd
  have hl : (us ++ ds).length = ps.length := r2.length ▸ F.len _ _ _ _ q
  refine wpAny_call (codeAny_mono (F.run X.A X.stack s1 H1 ⟨us, []⟩ (us ++ ds) (vs ++ dvs) Q E hgd hr I1.env0 (hb s1 us I1.kIn hl) r2 q) ?_)
  rintro (e | fl) s' hq
  · exact hx pins σ H1 s1 e s' I1 hq
  · cases fl with
    | ret u => exact I1.after hq
    | next => exact hq.elim
    | brk => exact hq.elim
    | cont => exact hq.elim
end
end GL

set_option Elab.async false
set_option linter.all false
set_option maxRecDepth 100000
set_option maxHeartbeats 4000000
/-! GE: the end of a law row over FnG. -/
namespace GL
open PySem PySem.Spec PyProof.Rows L2
section
variable {P : Program} {w : World} {K : PySem.W.Frag} {mg mb : Str → Option Value} {k : Nat} {fa a : Addr} {fd : FuncData} {x : Str} {sp : Sp} {s₁ : Shared} {vs : List Value} {ns : List Int}
/-- the call from an abstract heap in which at most the script is tracked -/
theorem lawG_core (KX : K.In s₁.heap) (hns : s₁.heap.Ns mainGlobals mg) (hb : s₁.heap.Ns builtinsNs mb) (hbb : ∀ x : Str, x ≠ "__name__" → mb x = bootBuiltins x) (hlim : s₁.heap.NoLimit) (hg : s₁.gens = #[])
    (ha : s₁.heap.get? a = some { cls := .type "list", data := .seq vs.toArray }) (hr : Room k callerA)
    (F : ∀ base : Heap, K.In base → base.Ns mainGlobals mg → FnG P w K mg base CX0 k fa fd [x] sp) (hbind : ∀ (s : Shared) (u : Value), BindsTo s fd ⟨[u], []⟩ [(x, u)])
    (H : Hp) (hO : Only H) (hok : HOk P w H s₁.heap) (hA : ∀ b, H b ≠ none → b = a) (hK : H a ≠ none → K.lookup a = none) (hsp : sp [.ref a] H (fun v _ => v = .bl true) fun _ _ _ => False) :
    codeAny (model P w) callerA (.call (.ref fa) ⟨[.ref a], []⟩) (fun r s' => r = .ok (.ret (.bool true)) ∧ OldK s₁.heap s'.heap ∧ s'.os = s₁.os ∧ AllBare s'.gens) s₁ := by
  have only : ∀ {b : Addr}, b ≠ a → H b = none := fun {b} ne => Classical.byContradiction fun z => ne (hA b z)
  have nsK : ∀ {b : Addr} {m : Str → Option Value}, s₁.heap.Ns b m → (hidT s₁.heap H).Ns b m := by
    rintro b m ⟨o, es, ep, e, d, r⟩
    refine ⟨o, es, ep, hidT_get e (only ?_), d, r⟩
    rintro rfl
    rw [ha] at e
    cases e
    cases (show Data.seq vs.toArray _ = Data.dict es ep from d)
  have hKb : K.In (hidT s₁.heap H) := by
    intro b o e
    refine hidT_get (KX b o e) (Classical.byContradiction fun z => ?_)
    have eb := hA b z
    subst eb
    rw [hK z] at e
    cases e
  have hM : Mod K mg (hidT s₁.heap H) := ⟨hKb, nsK hns, ⟨mb, nsK hb, hbb⟩, let ⟨mc, h1, h2⟩ := hlim; ⟨mc, nsK h1, h2⟩⟩
  have nil : ∀ b : Addr, b ∉ frs [] := fun b z => by cases z
  have e0 : Env0 P w K mg (hidT s₁.heap H) callerA [] s₁ H :=
    { frames := rfl, mod := hM, bs := fun b o e => of_hidT e, bsz := Nat.le_of_eq (hidT_size _ _), funs := trivial, frf := fun b hb => (nil b hb).elim, hok := hok, bare := .of_eq hg }
  have R := (F _ hKb (nsK hns)).run callerA [] s₁ H ⟨[.ref a], []⟩ [.ref a] [.ref a] _ _ rfl hr e0 (hbind s₁ (.ref a)) (.cons rfl .nil) hsp
  refine codeAny_mono R ?_
  rintro (e | fl) s' h
  · exact h.elim
  cases fl with
  | next => exact h.elim
  | brk => exact h.elim
  | cont => exact h.elim
  | ret u =>
    obtain ⟨v, H', os, bare, un, hok', r', rfl⟩ := h
    obtain rfl : u = Value.bool true := r'
    refine ⟨rfl, OldK.of_keep fun b o e => ?_, os, bare⟩
    rcases hO b with q | ⟨ob, xs, q⟩
    · exact un.keep b o e q (nil b) (by simp)
    · have e2 := (hok' b _ (un.frzs b ob _ q)).1
      have e1 := (hok b _ q).1
      rw [e] at e1
      cases e1
      exact e2
theorem lawG_call (KX : K.In s₁.heap) (hns : s₁.heap.Ns mainGlobals mg) (hb : s₁.heap.Ns builtinsNs mb) (hbb : ∀ x : Str, x ≠ "__name__" → mb x = bootBuiltins x) (hlim : s₁.heap.NoLimit) (hg : s₁.gens = #[])
    (ha : s₁.heap.get? a = some { cls := .type "list", data := .seq vs.toArray }) (hi : IntsAre vs ns) (hl : ns.length ≤ sizeLine) (hr : Room k callerA)
    (F : ∀ base : Heap, K.In base → base.Ns mainGlobals mg → FnG P w K mg base CX0 k fa fd [x] sp) (hbind : ∀ (s : Shared) (u : Value), BindsTo s fd ⟨[u], []⟩ [(x, u)])
    (hsp : ∀ H : Hp, Only H → SqL K H a (ns.map V.int) → sp [.ref a] H (fun v _ => v = .bl true) fun _ _ _ => False) :
    codeAny (model P w) callerA (.call (.ref fa) ⟨[.ref a], []⟩) (fun r s' => r = .ok (.ret (.bool true)) ∧ OldK s₁.heap s'.heap ∧ s'.os = s₁.os ∧ AllBare s'.gens) s₁ := by
  have rv := vals_ints hi
  have core := lawG_core KX hns hb hbb hlim hg ha hr F hbind
  cases hk : K.lookup a with
  | some o =>
    have e := KX a o hk
    rw [ha] at e
    cases e
    have sq : SqL K (fun _ => none) a (ns.map V.int) := .inr ⟨_, vs.toArray, _, hk, rfl, rfl, rfl, by rw [List.size_toArray, hi.length]; exact hl, by simpa using rv⟩
    exact core _ (fun _ => .inl rfl) (fun b u z => by cases (show (none : Option HO) = some u from z)) (fun b z => absurd rfl z) (fun z => absurd rfl z) (hsp _ (fun _ => .inl rfl) sq)
  | none =>
    generalize eH : (fun b => if b = a then some (HO.frz { cls := .type "list", data := .seq vs.toArray } (.lst (ns.map V.int))) else none : Hp) = H
    have h1 : H a = some (HO.frz { cls := .type "list", data := .seq vs.toArray } (.lst (ns.map V.int))) := by rw [← eH]; exact if_pos rfl
    have h2 : ∀ b, b ≠ a → H b = none := fun b n => by rw [← eH]; exact if_neg n
    have hO : Only H := fun b => (Classical.em (b = a)).elim (fun e => .inr ⟨_, _, e ▸ h1⟩) fun n => .inl (h2 b n)
    refine core H hO (fun b u z => ?_) (fun b z => Classical.byContradiction fun n => z (h2 b n)) (fun _ => hk) (hsp H hO (.inl (.inr ⟨_, h1⟩)))
    by_cases e : b = a
    · subst e
      rw [h1] at z
      cases z
      exact ⟨ha, by rw [List.length_map]; exact hl, vs, _, rv, ha⟩
    · rw [h2 b e] at z
      cases z
end
/-- a law, by the promise of its def where no repr is under way -/
theorem walk_ofG {l : PySem.W.OpenLaw} {n k : Nat} {q : Program} {loose : List Str} {XP : (Str → Option Value) → Heap → Prop} {YP : World → Heap → Prop} {d : DefRec} {x : Str}
    (hn : l.most = some n) (hn2 : n ≤ sizeLine) (hdf : d.params.defaults = []) (hr : Room k callerA)
    (F : ∀ (w : World) (mg : Str → Option Value) (fa : Addr) (h : Heap), YP w h → h.Ns mainGlobals mg → mg d.name = some (.ref fa) →
      ∃ (K : PySem.W.Frag) (fd : FuncData) (sp : Sp), K.In h ∧ (∀ (s : Shared) (u : Value), BindsTo s fd ⟨[u], []⟩ [(x, u)]) ∧
        (∀ (H : Hp) (a : Addr) (ns : List Int), ns.length ≤ n → Only H → SqL K H a (ns.map V.int) → sp [.ref a] H (fun v _ => v = .bl true) fun _ _ _ => False) ∧
        ∀ base : Heap, K.In base → base.Ns mainGlobals mg → FnG l.prog w K mg base CX0 k fa fd [x] sp) :
    PySem.W.WalkO q loose XP YP l.row.toRowW d [] (fun f vs => PySem.call f vs) := by
  refine Att.attach_call hn hdf ?_
  intro w s₀ s₁ mg mb fa o pm cd doc a vs ns G Y ho hd hcd hmg hobj hints hlen hg
  obtain ⟨K, fd, sp, KX, hb, hsp, hF⟩ := F w mg fa _ Y G.T.g hmg
  exact lawG_call KX G.T.g G.T.b G.T.builtins G.T.nolimit hg hobj hints (Nat.le_trans hlen hn2) hr hF hb fun H hO hS => hsp H a ns hlen hO hS
end GL

set_option Elab.async false
set_option linter.all false
set_option maxRecDepth 100000
set_option maxHeartbeats 4000000
/-! GB: heaps that keep what they hold but at some places; the source of draws. -/
namespace GL
open PySem PySem.Spec PyProof.Rows L2
/-- all that H tracks stands in H', but at the places of S -/
def Keep (S : List Addr) (H H' : Hp) : Prop := ∀ b o, b ∉ S → H b = some o → H' b = some o
theorem Keep.refl {S : List Addr} {H : Hp} : Keep S H H := fun _ _ _ e => e
theorem Keep.trans {S : List Addr} {H H1 H2 : Hp} (a : Keep S H H1) (b : Keep S H1 H2) : Keep S H H2 := fun x o n e => b x o n (a x o n e)
theorem Keep.mono {S T : List Addr} {H H' : Hp} (k : Keep S H H') (h : ∀ b ∈ S, b ∈ T) : Keep T H H' := fun b o n e => k b o (fun z => n (h b z)) e
theorem Keep.of0 {T : List Addr} {H H' : Hp} (k : Keep [] H H') : Keep T H H' := k.mono fun _ z => nomatch z
theorem Keep.new {S : List Addr} {H : Hp} {p : Addr} {o : HO} (h : H p = none) : Keep S H (upd H p o) := fun b u _ e => by
  rw [upd_ne (ne_of_none e h)]
  exact e
/-- a place of S, or one that H does not know, is written -/
theorem Keep.put {S : List Addr} {H H1 : Hp} {p : Addr} {o : HO} (k : Keep S H H1) (h : p ∈ S ∨ H p = none) : Keep S H (upd H1 p o) := fun b u n e => by
  rw [upd_ne ?_]
  · exact k b u n e
  · rintro rfl
    rcases h with h | h
    · exact n h
    · rw [h] at e
      cases e
/-- fresh behind is fresh ahead -/
theorem Keep.back {S : List Addr} {H H' : Hp} {p : Addr} (k : Keep S H H') (n : p ∉ S) (h : H' p = none) : H p = none := by
  cases e : H p with
  | none => rfl
  | some o =>
    rw [k p o n e] at h
    cases h
theorem Keep.rd {S : List Addr} {H H' : Hp} {a : Addr} {u : HO} (k : Keep S H H') (n : a ∉ S) (h : Rd H a u) : Rd H' a u :=
  h.elim (fun e => .inl (k a _ n e)) fun ⟨o, e⟩ => .inr ⟨o, k a _ n e⟩
theorem Keep.sql {S : List Addr} {K : PySem.W.Frag} {H H' : Hp} {a : Addr} {xs : List V} (k : Keep S H H') (n : a ∉ S) (h : SqL K H a xs) : SqL K H' a xs := h.imp (k.rd n) id
theorem Keep.sqt {S : List Addr} {K : PySem.W.Frag} {H H' : Hp} {a : Addr} {xs : List V} (k : Keep S H H') (n : a ∉ S) (h : SqT K H a xs) : SqT K H' a xs := h.imp (k.rd n) id
/-- tuples (and what is frozen) stay -/
def TKeep (H H' : Hp) : Prop := ∀ b, (∀ xs, H b = some (.tup xs) → H' b = some (.tup xs)) ∧ ∀ o u, H b = some (.frz o u) → H' b = some (.frz o u)
theorem TKeep.refl {H : Hp} : TKeep H H := fun _ => ⟨fun _ e => e, fun _ _ e => e⟩
theorem TKeep.trans {H H1 H2 : Hp} (a : TKeep H H1) (b : TKeep H1 H2) : TKeep H H2 := fun x => ⟨fun xs e => (b x).1 xs ((a x).1 xs e), fun o u e => (b x).2 o u ((a x).2 o u e)⟩
theorem Keep.tk {H H' : Hp} (k : Keep [] H H') : TKeep H H' := fun b => ⟨fun _ e => k b _ (fun z => nomatch z) e, fun _ _ e => k b _ (fun z => nomatch z) e⟩
theorem Keep.tk1 {H H' : Hp} {a : Addr} {xs : List V} (k : Keep [a] H H') (ha : H a = some (.lst xs)) : TKeep H H' := fun b => by
  have n : ∀ o, (o ≠ .lst xs) → H b = some o → b ∉ [a] := fun o z e m => by
    have : b = a := by simpa using m
    subst this
    rw [ha] at e
    exact z (Option.some.inj e).symm
  exact ⟨fun _ e => k b _ (n _ (by intro z; cases z) e) e, fun _ _ e => k b _ (n _ (by intro z; cases z) e) e⟩
theorem TKeep.rdT {H H' : Hp} {a : Addr} {xs : List V} (k : TKeep H H') (h : Rd H a (.tup xs)) : Rd H' a (.tup xs) :=
  h.elim (fun e => .inl ((k a).1 _ e)) fun ⟨o, e⟩ => .inr ⟨o, (k a).2 _ _ e⟩
theorem TKeep.sqt {K : PySem.W.Frag} {H H' : Hp} {a : Addr} {xs : List V} (k : TKeep H H') (h : SqT K H a xs) : SqT K H' a xs := h.imp k.rdT id
/-- a source of draws: the digits left, the seed, how many were drawn (at most N) -/
def Src (H : Hp) (a : Addr) (N : Nat) : Prop := ∃ g s n : Int, H a = some (.lst [.int g, .int s, .int n]) ∧ 0 ≤ g ∧ g < 10 ^ 300 ∧ 0 ≤ s ∧ s < 2305843009213693907 ∧ 0 ≤ n ∧ n ≤ N
theorem Src.mono {H : Hp} {a : Addr} {N M : Nat} (h : Src H a N) (l : N ≤ M) : Src H a M := by
  obtain ⟨g, s, n, e, h1, h2, h3, h4, h5, h6⟩ := h
  exact ⟨g, s, n, e, h1, h2, h3, h4, h5, by omega⟩
theorem Src.keep {S : List Addr} {H H' : Hp} {a : Addr} {N : Nat} (h : Src H a N) (k : Keep S H H') (n : a ∉ S) : Src H' a N := by
  obtain ⟨g, s, m, e, r⟩ := h
  exact ⟨g, s, m, k a _ n e, r⟩
theorem Src.tk {H H' : Hp} {a : Addr} {N : Nat} (h : Src H a N) (k : Keep [a] H H') : TKeep H H' := by
  obtain ⟨g, s, n, e, _⟩ := h
  exact k.tk1 e
/-! ### what the drawing helpers promise -/
def spStart (K : PySem.W.Frag) : Sp := fun vs H Q _ => ∃ (a : Addr) (ns : List Int) (k : Nat), vs = [.ref a, .int k] ∧ SqL K H a (ns.map V.int) ∧ k ≤ 63 ∧
  ∀ H' p, Keep [] H H' → H p = none → Src H' p 0 → Q (.ref p) H'
def spDraw : Sp := fun vs H Q _ => ∃ (a : Addr) (L : Int) (N : Nat), vs = [.ref a, .int L] ∧ Src H a N ∧ N ≤ 900000 ∧ 0 < L ∧ L ≤ 1000000 ∧
  ∀ H' r, Keep [a] H H' → Src H' a (N + 1) → 0 ≤ r → r < L → Q (.int r) H'
def spChoice (K : PySem.W.Frag) : Sp := fun vs H Q _ => ∃ (a b : Addr) (xs : List V) (N : Nat), vs = [.ref a, .ref b] ∧ Src H a N ∧ N ≤ 900000 ∧ SqL K H b xs ∧ b ≠ a ∧ xs ≠ [] ∧ xs.length ≤ 1000000 ∧
  ∀ (H' : Hp) (i : Nat) (v : V), Keep [a] H H' → Src H' a (N + 1) → xs[i]? = some v → Q v H'
def spMixed (K : PySem.W.Frag) : Sp := fun vs H Q _ => ∃ (a b : Addr) (xs : List V) (N : Nat), vs = [.ref a, .ref b] ∧ Src H a N ∧ N + xs.length ≤ 900000 ∧ (SqL K H b xs ∨ SqT K H b xs) ∧ b ≠ a ∧ xs.length ≤ 1000 ∧
  ∀ H' p ys, Keep [a] H H' → Src H' a (N + xs.length) → H p = none → H' p = some (.lst ys) → ys.Perm xs → Q (.ref p) H'
end GL

set_option Elab.async false
set_option linter.all false
set_option maxRecDepth 100000
set_option maxHeartbeats 4000000
/-! GP: readings that give one value and leave the heap as it is. -/
namespace GL
open PySem PySem.Spec PyProof.Rows L2
abbrev rAdd : R2 := rI0 fun i j => .int (i + j)
abbrev rSub : R2 := rI0 fun i j => .int (i - j)
abbrev rMul : R2 := rI CMul fun i j => .int (i * j)
abbrev rMulW : R2 := rI CMulW fun i j => .int (i * j)
abbrev rMod : R2 := rI (fun _ j => 0 < j) fun i j => .int (i % j)
abbrev rDiv : R2 := rI CDiv fun i j => .int (i / j)
abbrev rPow : R2 := rI CPow fun i j => .int (i ^ j.toNat)
abbrev rPowW : R2 := rI CPowW fun i j => .int (i ^ j.toNat)
abbrev rLt : R2 := rI0 fun i j => .bl (decide (i < j))
abbrev rLe : R2 := rI0 fun i j => .bl (decide (i ≤ j))
abbrev rGt : R2 := rI0 fun i j => .bl (decide (j < i))
abbrev rGe : R2 := rI0 fun i j => .bl (decide (j ≤ i))
abbrev rNeg : V → Hp → VK → Prop := rU fun i => .int (-i)
abbrev rAddS : R2 := fun x y H Q => ∃ i j, x = .str i ∧ y = .str j ∧ i.length + j.length ≤ sizeLine ∧ Q (.str (i ++ j)) H
abbrev rAbs : List V → Hp → VK → Prop := fun xs H Q => ∃ i, xs = [.int i] ∧ Q (.int (if i < 0 then -i else i)) H
abbrev rInt1 : List V → Hp → VK → Prop := fun xs H Q => (∃ i, xs = [.int i] ∧ Q (.int i) H) ∨ ∃ k, xs = [.bl k] ∧ Q (.int (if k then 1 else 0)) H
abbrev rMin2 : List V → Hp → VK → Prop := fun xs H Q => ∃ i j, xs = [.int i, .int j] ∧ Q (.int (if j < i then j else i)) H
abbrev rMax2 : List V → Hp → VK → Prop := fun xs H Q => ∃ i j, xs = [.int i, .int j] ∧ Q (.int (if j > i then j else i)) H
abbrev rListQ (K : PySem.W.Frag) : List V → Hp → VK → Prop := fun xs H Q => ∃ p ys, xs = [.ref p] ∧ (SqL K H p ys ∨ SqT K H p ys) ∧ ∀ l, H l = none → Q (.ref l) (upd H l (.lst ys))
abbrev rTupQ (K : PySem.W.Frag) : List V → Hp → VK → Prop := fun xs H Q => ∃ p ys, xs = [.ref p] ∧ ((SqL K H p ys ∧ ∀ l, H l = none → Q (.ref l) (upd H l (.tup ys))) ∨ (SqT K H p ys ∧ Q (.ref p) H))
abbrev rJoinQ (K : PySem.W.Frag) : V → List V → Hp → VK → Prop := fun x xs H Q => ∃ a p, ∃ ys : List Str, x = .str a ∧ xs = [.ref p] ∧ (SqL K H p (ys.map V.str) ∨ SqT K H p (ys.map V.str)) ∧ (ys.map (·.length)).sum + ys.length * a.length ≤ 16777216 ∧ Q (.str (Txt.join a ys)) H
abbrev tJn (ts : List TE) : TE := fun σ H Q => tJs ts Str.empty σ H fun out H1 => Q (.str out) H1
abbrev rLenQ (K : PySem.W.Frag) : List V → Hp → VK → Prop := fun xs H Q => ∃ p ys, xs = [.ref p] ∧ (SqL K H p ys ∨ SqT K H p ys) ∧ Q (.int ys.length) H
abbrev tLenQ (K : PySem.W.Frag) (t : TE) : TE := tCB (rLenQ K) (tCons t tNil)
def Pu (t : TE) (σ : L2.St) (H : Hp) (v : V) : Prop := ∀ Q : VK, Q v H → t σ H Q
def PuT (t : TT) (σ : L2.St) (H : Hp) (b : Bool) : Prop := ∀ Q : Bool → Hp → Prop, Q b H → t σ H Q
def PuA (t : TA) (σ : L2.St) (H : Hp) (vs : List V) : Prop := ∀ Q : List V → Hp → Prop, Q vs H → t σ H Q
def PuO (t : TO) (σ : L2.St) (H : Hp) (o : Option Int) : Prop := ∀ Q : Option Int → Hp → Prop, Q o H → t σ H Q
def PuR (r : R2) (x y : V) (H : Hp) (z : V) : Prop := ∀ Q : VK, Q z H → r x y H Q
def PuC (r : List V → Hp → VK → Prop) (vs : List V) (H : Hp) (z : V) : Prop := ∀ Q : VK, Q z H → r vs H Q
def PuM (r : V → List V → Hp → VK → Prop) (x : V) (vs : List V) (H : Hp) (z : V) : Prop := ∀ Q : VK, Q z H → r x vs H Q
section
variable {K : PySem.W.Frag} {σ : L2.St} {H : Hp} {ta tb te to : TE} {t u : TT} {x y z v : V} {r : R2} {tas : TA} {vs : List V} {D : Ends} {Q : VK}
theorem pu_var {i : Nat} (h : σ[i]? = some (some v)) : Pu (tVar i) σ H v := fun _ q => ⟨v, h, q⟩
theorem pu_c : Pu (tC v) σ H v := fun _ q => q
theorem pu_op (ha : Pu ta σ H x) (hb : Pu tb σ H y) (hr : PuR r x y H z) : Pu (tOp r ta tb) σ H z := fun Q q => ha _ (hb _ (hr Q q))
theorem pu_un {r : V → Hp → VK → Prop} (ha : Pu ta σ H x) (hr : ∀ Q : VK, Q z H → r x H Q) : Pu (tUn r ta) σ H z := fun Q q => ha _ (hr Q q)
theorem pur_i0 {g : Int → Int → V} {i j : Int} (e : g i j = z) : PuR (rI0 g) (.int i) (.int j) H z := fun _ q => ⟨i, j, rfl, rfl, e ▸ q⟩
theorem pur_i {C : Int → Int → Prop} {g : Int → Int → V} {i j : Int} (e : g i j = z) (hc : C i j) : PuR (rI C g) (.int i) (.int j) H z := fun _ q => ⟨i, j, rfl, rfl, hc, e ▸ q⟩
theorem puu_neg {i : Int} : ∀ Q : VK, Q (.int (-i)) H → rU (fun i => .int (-i)) (.int i) H Q := fun _ q => ⟨i, rfl, q⟩
theorem pur_eq (h : scal x y = true) : PuR rEq x y H (.bl (decide (x = y))) := fun _ q => ⟨h, q⟩
theorem pur_ne (h : scal x y = true) : PuR rNe x y H (.bl (!decide (x = y))) := fun _ q => ⟨h, q⟩
theorem pur_ixL {p : Addr} {xs : List V} {i : Int} (h : SqL K H p xs) (ha : atI xs i = some v) : PuR (rIxL K) (.ref p) (.int i) H v := fun _ q => ⟨p, xs, i, v, rfl, rfl, h, ha, q⟩
theorem pur_ixT {p : Addr} {xs : List V} {i : Int} (h : SqT K H p xs) (ha : atI xs i = some v) : PuR (rIxT K) (.ref p) (.int i) H v := fun _ q => ⟨p, xs, i, v, rfl, rfl, h, ha, q⟩
theorem pur_ixS {w : Str} {i : Int} {c : Nat} (h : w.length ≤ sizeLine) (ha : atI w.cps.toList i = some c) : PuR rIxS (.str w) (.int i) H (.str ⟨#[c]⟩) := fun _ q => ⟨w, i, c, rfl, rfl, h, ha, q⟩
theorem pur_str {a b : Str} (h : a.length + b.length ≤ sizeLine) : PuR rAddS (.str a) (.str b) H (.str (a ++ b)) := fun _ q => ⟨a, b, rfl, rfl, h, q⟩
theorem pu_cb {r : List V → Hp → VK → Prop} (ha : PuA tas σ H vs) (hr : PuC r vs H z) : Pu (tCB r tas) σ H z := fun Q q => ha _ (hr Q q)
theorem pua_nil : PuA tNil σ H [] := fun _ q => q
theorem pua_cons (ha : Pu ta σ H x) (hb : PuA tas σ H vs) : PuA (tCons ta tas) σ H (x :: vs) := fun _ q => ha _ (hb _ q)
theorem puc_lenL {p : Addr} {xs : List V} (h : SqL K H p xs) : PuC (rLenQ K) [.ref p] H (.int xs.length) := fun _ q => ⟨p, xs, rfl, .inl h, q⟩
theorem puc_lenT {p : Addr} {xs : List V} (h : SqT K H p xs) : PuC (rLenQ K) [.ref p] H (.int xs.length) := fun _ q => ⟨p, xs, rfl, .inr h, q⟩
theorem puc_abs {i : Int} : PuC rAbs [.int i] H (.int (if i < 0 then -i else i)) := fun _ q => ⟨i, rfl, q⟩
theorem puc_intB {k : Bool} : PuC rInt1 [.bl k] H (.int (if k then 1 else 0)) := fun _ q => .inr ⟨k, rfl, q⟩
theorem puc_min {i j : Int} : PuC rMin2 [.int i, .int j] H (.int (if j < i then j else i)) := fun _ q => ⟨i, j, rfl, q⟩
theorem puc_max {i j : Int} : PuC rMax2 [.int i, .int j] H (.int (if j > i then j else i)) := fun _ q => ⟨i, j, rfl, q⟩
theorem put_test {b : Bool} (h : Pu te σ H (.bl b)) : PuT (tTest te) σ H b := fun _ q => h _ ⟨b, rfl, q⟩
theorem put_B {b : Bool} (h : Pu te σ H (.bl b)) : PuT (tB te) σ H b := fun _ q => h _ ⟨b, rfl, q⟩
theorem put_not {b : Bool} (h : PuT t σ H b) : PuT (tNot t) σ H (!b) := fun _ q => h _ q
theorem put_and {a b : Bool} (h1 : PuT t σ H a) (h2 : a = true → PuT u σ H b) : PuT (tAnd t u) σ H (a && b) := fun Q q => h1 _ (by
  cases a with
  | true => exact h2 rfl Q q
  | false => exact q)
theorem put_or {a b : Bool} (h1 : PuT t σ H a) (h2 : a = false → PuT u σ H b) : PuT (tOr t u) σ H (a || b) := fun Q q => h1 _ (by
  cases a with
  | true => exact q
  | false => exact h2 rfl Q q)
theorem pu_andV {a b : Bool} (h1 : Pu ta σ H (.bl a)) (h2 : a = true → Pu tb σ H (.bl b)) : Pu (tAndV ta tb) σ H (.bl (a && b)) := fun Q q => h1 _ ⟨a, rfl, by
  cases a with
  | true => exact h2 rfl Q q
  | false => exact q⟩
theorem pu_orV {a b : Bool} (h1 : Pu ta σ H (.bl a)) (h2 : a = false → Pu tb σ H (.bl b)) : Pu (tOrV ta tb) σ H (.bl (a || b)) := fun Q q => h1 _ ⟨a, rfl, by
  cases a with
  | true => exact q
  | false => exact h2 rfl Q q⟩
theorem pu_notV {a : Bool} (h1 : Pu ta σ H (.bl a)) : Pu (tNotV ta) σ H (.bl (!a)) := fun Q q => h1 _ ⟨a, rfl, q⟩
theorem pu_if {b : Bool} (h : PuT t σ H b) (h1 : b = true → Pu ta σ H v) (h2 : b = false → Pu tb σ H v) : Pu (tIf t ta tb) σ H v := fun Q q => h _ (by
  cases b with
  | true => exact h1 rfl Q q
  | false => exact h2 rfl Q q)
theorem pu_is {w : V} (h : Pu te σ H v) (e : v = w) : Pu te σ H w := e ▸ h
theorem put_is {a b : Bool} (h : PuT t σ H a) (e : a = b) : PuT t σ H b := e ▸ h
theorem puo_none : PuO tNoPart σ H none := fun _ q => q
theorem puo_some {i : Int} (h : Pu te σ H (.int i)) : PuO (tPart te) σ H (some i) := fun _ q => h _ ⟨i, rfl, q⟩
/-! ### statements -/
theorem su_asg {i : Nat} (h : Pu te σ H v) (k : D.nx (σ.set i (some v)) H) : tAsg te (gName i) D σ H := h _ k
theorem su_ret (h : Pu te σ H v) (k : D.rt v H) : tRet te D σ H := h _ k
theorem su_if {b : Bool} {tu tw : TS} (h : PuT t σ H b) (h1 : b = true → tu D σ H) (h2 : b = false → tw D σ H) : tIfS t tu tw D σ H := h _ (by
  cases b with
  | true => exact h1 rfl
  | false => exact h2 rfl)
theorem su_seq {tu tw : TS} (h : tu { D with nx := tw D } σ H) : tSeq tu tw D σ H := h
theorem sq_asg {i : Nat} {tw : TS} (h : Pu te σ H v) (k : tw D (σ.set i (some v)) H) : tSeq (tAsg te (gName i)) tw D σ H := h _ k
theorem sq_do {g : TG} {tw : TS} (h : te σ H fun x H1 => g x σ H1 (tw D)) : tSeq (tAsg te g) tw D σ H := h
theorem sq_doN {i : Nat} {tw : TS} (h : te σ H fun x H1 => tw D (σ.set i (some x)) H1) : tSeq (tAsg te (gName i)) tw D σ H := h
theorem sq_ret {tw : TS} (h : Pu te σ H v) (k : D.rt v H) : tSeq (tRet te) tw D σ H := h _ k
theorem sq_nx {tw : TS} (k : tw D σ H) : tSeq tNext tw D σ H := k
theorem sq_seq {t1 t2 t3 : TS} (k : tSeq t1 (tSeq t2 t3) D σ H) : tSeq (tSeq t1 t2) t3 D σ H := k
theorem sq_drop {tw : TS} (h : te σ H fun _ H1 => tw D σ H1) : tSeq (tDrop te) tw D σ H := h
theorem sq_if {b : Bool} {tu tv tw : TS} (h : PuT t σ H b) (h1 : b = true → tSeq tu tw D σ H) (h2 : b = false → tSeq tv tw D σ H) : tSeq (tIfS t tu tv) tw D σ H := h _ (by
  cases b with
  | true => exact h1 rfl
  | false => exact h2 rfl)
theorem sq_set {i : Nat} {tw : TS} {ti : TE} {rs : TSet} (h : Pu te σ H v) (ho : Pu to σ H x) (hi : Pu ti σ H y) (k : rs x y v H fun H3 => tw D σ H3) : tSeq (tAsg te (gSub to ti rs)) tw D σ H := h _ (ho _ (hi _ k))
theorem al_lst (h : PuA tas σ H vs) (hl : vs.length ≤ sizeLine) (k : ∀ p, H p = none → Q (.ref p) (upd H p (.lst vs))) : tLst tas σ H Q := h _ ⟨hl, k⟩
theorem al_tup (h : PuA tas σ H vs) (hl : vs.length ≤ sizeLine) (k : ∀ p, H p = none → Q (.ref p) (upd H p (.tup vs))) : tTup tas σ H Q := h _ ⟨hl, k⟩
theorem al_op (h : ta σ H fun x H1 => tb σ H1 fun y H2 => r x y H2 Q) : tOp r ta tb σ H Q := h
theorem al_opL {y : Addr → V} (h : PuA tas σ H vs) (hl : vs.length ≤ sizeLine) (hb : ∀ p, H p = none → Pu tb σ (upd H p (.lst vs)) (y p)) (k : ∀ p, H p = none → r (.ref p) (y p) (upd H p (.lst vs)) Q) : tOp r (tLst tas) tb σ H Q :=
  h _ ⟨hl, fun p hp => hb p hp _ (k p hp)⟩
theorem al_opV {i : Nat} (h : σ[i]? = some (some x)) (k : tb σ H fun y H2 => r x y H2 Q) : tOp r (tVar i) tb σ H Q := ⟨x, h, k⟩
theorem al_opP (h : Pu ta σ H x) (k : tb σ H fun y H2 => r x y H2 Q) : tOp r ta tb σ H Q := h _ k
theorem su_retE (h : te σ H D.rt) : tRet te D σ H := h
theorem al_bm {T : String} {rm : V → List V → Hp → VK → Prop} (h : Pu to σ H x) (ht : tyV K T x H) (k : tas σ H fun xs H2 => rm x xs H2 Q) : tBM K T rm to tas σ H Q := h _ ⟨ht, k⟩
theorem al_args (h : PuA tas σ H vs) {QA : List V → Hp → Prop} (k : QA vs H) : tas σ H QA := h _ k
theorem al_cons {tr : TA} {QA : List V → Hp → Prop} (h : te σ H fun x H1 => tr σ H1 fun xs H2 => QA (x :: xs) H2) : tCons te tr σ H QA := h
theorem al_call {sp : Sp} {dvs : List V} {E : XK} (h : PuA tas σ H vs) (k : sp (vs ++ dvs) H Q E) : tCall sp dvs E tas σ H Q := h _ k
theorem al_list {p : Addr} {xs : List V} (h : PuA tas σ H [.ref p]) (hs : SqL K H p xs ∨ SqT K H p xs) (k : ∀ l, H l = none → Q (.ref l) (upd H l (.lst xs))) :
    tCB (rListQ K) tas σ H Q := h _ ⟨p, xs, rfl, hs, k⟩
theorem al_tupL {p : Addr} {xs : List V} (h : PuA tas σ H [.ref p]) (hs : SqL K H p xs) (k : ∀ l, H l = none → Q (.ref l) (upd H l (.tup xs))) :
    tCB (rTupQ K) tas σ H Q := h _ ⟨p, xs, rfl, .inl ⟨hs, k⟩⟩
theorem sz {n : Nat} (h : n ≤ 1000000) : n ≤ sizeLine := Nat.le_trans h (by decide)
theorem szl {n : Nat} (h : n < 1000000) : n < sizeLine := Nat.lt_of_lt_of_le h (by decide)
end
/-! ### defs of the module by their names -/
structure Dn (P : Program) (w : World) (K : PySem.W.Frag) (mg : Str → Option Value) (base : Heap) (k : Nat) (x : Str) (sp : Sp) : Prop where
  ex : ∃ f fd ps, FnOk P w K mg base CX0 k f fd ps sp ∧ mg x = some (.ref f) ∧ PySem.W.keepIn K (.ref f) = true ∧ Binds K fd ps []
structure DnG (P : Program) (w : World) (K : PySem.W.Frag) (mg : Str → Option Value) (base : Heap) (k : Nat) (x : Str) (sp : Sp) : Prop where
  ex : ∃ f fd ps, FnG P w K mg base CX0 k f fd ps sp ∧ mg x = some (.ref f) ∧ PySem.W.keepIn K (.ref f) = true ∧ Binds K fd ps []
abbrev FnP (K : PySem.W.Frag) (x : Str) (st : Stmt) (f : Addr) (fd : FuncData) : Prop := FunD K x x (defArgs st) (defBody st) (defScope st) [] [] f fd
/-- the built-in names that the texts use are the built-ins -/
structure Bl (mg : Str → Option Value) : Prop where
  len : mg "len" = none
  abs : mg "abs" = none
  int : mg "int" = none
  list : mg "list" = none
  tuple : mg "tuple" = none
  range : mg "range" = none
  min : mg "min" = none
  max : mg "max" = none
  sorted : mg "sorted" = none
  enumerate : mg "enumerate" = none
  zip : mg "zip" = none
  repr : mg "repr" = none
  all : mg "all" = none
  any : mg "any" = none
  set : mg "set" = none
  str : mg "str" = none
  bool : mg "bool" = none
  dict : mg "dict" = none
  sum : mg "sum" = none
  reversed : mg "reversed" = none
  isinstance : mg "isinstance" = none
section
variable {X : Cx} {j k : Nat} {sp : Sp} {x : Str} {p pos : Pos} {e : Expr} {es : List Expr} {t : TA}
theorem pe_d (d : Dn X.prog X.w X.K X.mg X.base j x sp) (hr : Room k X.A) (ha : PA X (e :: es) t) (hj : j ≤ k := by decide) (hg : Gl X x := by rfl) (hdb : (x == ("__debug__" : Str)) = false := by decide)
    (he : starEach (e :: es) X.env = (false, eval e X.env) :: starEach es X.env := by rfl) (hpl : (backTo pos (starEach es X.env)).any (·.1) = false := by rfl) : PE X (.Call (.Name x p) (e :: es) [] pos) (tCall sp [] E0 t) := by
  obtain ⟨f, fd, ps, F, hm, hk, hb⟩ := d.ex
  exact pe_call F (hr.mono hj) hg hm hk hb .nil pass0 ha hdb he hpl
theorem pe_dG (d : DnG X.prog X.w X.K X.mg X.base j x sp) (hG : X.A.guards = some []) (hr : Room k X.A) (ha : PA X (e :: es) t) (hj : j ≤ k := by decide) (hg : Gl X x := by rfl) (hdb : (x == ("__debug__" : Str)) = false := by decide)
    (he : starEach (e :: es) X.env = (false, eval e X.env) :: starEach es X.env := by rfl) (hpl : (backTo pos (starEach es X.env)).any (·.1) = false := by rfl) : PE X (.Call (.Name x p) (e :: es) [] pos) (tCall sp [] E0 t) := by
  obtain ⟨f, fd, ps, F, hm, hk, hb⟩ := d.ex
  exact pe_callG F hG (hr.mono hj) hg hm hk hb .nil pass0 ha hdb he hpl
/-- a text, an int of the module -/
theorem pe_gs {z : Str} (h : ∃ t, X.mg x = some (.str z t)) (hg : Gl X x := by rfl) (hdb : (x == ("__debug__" : Str)) = false := by decide) : PE X (.Name x pos) (tC (.str z)) := by
  obtain ⟨t, h⟩ := h
  exact pe_glob hg h ⟨t, rfl⟩ hdb
theorem pe_gi {z : Int} (h : ∃ t, X.mg x = some (.int z t)) (hg : Gl X x := by rfl) (hdb : (x == ("__debug__" : Str)) = false := by decide) : PE X (.Name x pos) (tC (.int z)) := by
  obtain ⟨t, h⟩ := h
  exact pe_glob hg h ⟨t, rfl⟩ hdb
end
section
variable {P : Program} {w : World} {K : PySem.W.Frag} {mg : Str → Option Value} {base : Heap} {k : Nat} {x : Str} {st : Stmt} {f : Addr} {fd : FuncData} {N ps : List Str} {sp : Sp}
/-- a def by its body -/
theorem dn_of (F : FnP K x st f fd) (hm : mg x = some (.ref f)) (S : FnScope N ps (defScope st)) (len : ∀ vs H Q E, sp vs H Q E → vs.length = ps.length)
    (hb : ∀ (kV doc pm : Value) (an : Option Addr) (cdv ct : Value) (us : List Value), us.length = ps.length → bindArgs (PySem.W.fnOf x x (defArgs st) (defBody st) (defScope st) .none kV doc pm an cdv ct) ⟨us, []⟩ = pure (ps.zip us))
    (t : TS) (hbody : ∀ (cdv : Value) (A : Around) (outer : List Env) (s : Shared) (H : Hp) (E : XK), Room k (A.deeper (envOfC x (defScope st) s.heap.objs.size f cdv)) →
      PSs (cxOf CX0 P w K mg base N x (defScope st) f cdv A outer s H E).nox (defBody st) t)
    (hpure : ∀ vs H Q E, sp vs H Q E → t { nx := fun _ H' => Q .non H', rt := Q } (start N vs) H) : Dn P w K mg base (k + 1) x sp :=
  ⟨f, fd, ps, F.ok S len fun cdv A outer s H vs Q E hr h => ⟨t, (hbody cdv A outer s H E hr).nox, hpure vs H Q E h⟩, hm, F.kp, F.bindsN hb⟩
theorem dnG_of (F : FnP K x st f fd) (hm : mg x = some (.ref f)) (S : FnScope N ps (defScope st)) (len : ∀ vs H Q E, sp vs H Q E → vs.length = ps.length)
    (hb : ∀ (kV doc pm : Value) (an : Option Addr) (cdv ct : Value) (us : List Value), us.length = ps.length → bindArgs (PySem.W.fnOf x x (defArgs st) (defBody st) (defScope st) .none kV doc pm an cdv ct) ⟨us, []⟩ = pure (ps.zip us))
    (t : TS) (hbody : ∀ (cdv : Value) (A : Around) (outer : List Env) (s : Shared) (H : Hp) (E : XK), A.guards = some [] → Room k (A.deeper (envOfC x (defScope st) s.heap.objs.size f cdv)) →
      PSs (cxOf CX0 P w K mg base N x (defScope st) f cdv A outer s H E).nox (defBody st) t)
    (hpure : ∀ vs H Q E, sp vs H Q E → t { nx := fun _ H' => Q .non H', rt := Q } (start N vs) H) : DnG P w K mg base (k + 1) x sp := by
  refine ⟨f, fd, ps, ?_, hm, F.kp, F.bindsN hb⟩
  obtain ⟨oc, od, dV, kV, doc, pm, an, cdv, ct, osl, rfl, lk, hcd, _⟩ := F.ex
  exact fnG_of lk hcd S len fun A outer s H vs Q E hg hr h => ⟨t, (hbody cdv A outer s H E hg hr).nox, hpure vs H Q E h⟩
end
end GL

set_option Elab.async false
set_option linter.all false
set_option maxRecDepth 100000
set_option maxHeartbeats 4000000
/-! GS: sorted of tuples whose first items are different texts. -/
namespace GL
open PySem PySem.Spec PyProof.Rows L2
def sLt (a b : Str) : Bool := decide (a.cps.toList < b.cps.toList)
theorem sLt_swo {α : Type} (k : α → Str) : SrtO.Swo fun x y => sLt (k x) (k y) := by
  refine ⟨fun x y h => ?_, fun x y z h1 h2 => ?_⟩
  · have a : (k x).cps.toList < (k y).cps.toList := of_decide_eq_true h
    exact decide_eq_false fun b => List.lt_asymm a b
  · have a : ¬ (k y).cps.toList < (k x).cps.toList := of_decide_eq_false h1
    have b : ¬ (k z).cps.toList < (k y).cps.toList := of_decide_eq_false h2
    exact decide_eq_false (List.le_trans (l₁ := (k x).cps.toList) (l₂ := (k y).cps.toList) (l₃ := (k z).cps.toList) a b)
/-- a tuple that begins with the text z -/
def IsHead (h : Heap) (v : Value) (z : Str) : Prop := ∃ a o xs n t r, v = .ref a ∧ h.get? a = some o ∧ o.cls = .type "tuple" ∧ o.data = .seq xs n ∧ xs.toList = .str z t :: r
section
variable {prog : Program} {w : World} {A : Around} {s : Shared}
theorem kat_same {b fin : Bool} {Q : Bool → Shared → Prop} (h : Q fin s) : ∀ (r : List Value) (i : Nat), PySem.W.KatLex prog w A b fin Q (r.zip r) i s
  | [], _ => PySem.W.kat_nil h
  | v :: r, i => PySem.W.kat_cons (SeqAt.EqAt.same v prog w _ _ (PySem.W.kat_yes (kat_same h r (i + 1))))
theorem head_cmp {vs : List Value} {k : Value → Str} (hp : ∀ v ∈ vs, IsHead s.heap v (k v)) (inj : ∀ v ∈ vs, ∀ u ∈ vs, k v = k u → v = u) :
    SrtO.Cmp prog w A s (tuples' true) (fun p => p.1 ∈ vs) (SrtO.lt2 fun v u => sLt (k v) (k u)) := by
  intro p q hm hm'
  obtain ⟨a, o, xs, n, t, r, e, ho, hc, hd, hx⟩ := hp _ hm
  obtain ⟨a', o', xs', n', t', r', e', ho', hc', hd', hx'⟩ := hp _ hm'
  have same := inj _ hm _ hm'
  show wpAny (model prog w) A (keyLt' (tuples' true) p.1 q.1) (fun r s' => s' = s ∧ r = sLt (k p.1) (k q.1)) (fun _ _ => False) s
  generalize k p.1 = x at *
  generalize k q.1 = y at *
  by_cases hxy : x = y
  · have sm := same hxy
    rw [e, e'] at sm
    cases sm
    rw [ho] at ho'
    cases ho'
    rw [hd] at hd'
    cases hd'
    rw [e, e']
    refine PySem.W.kat_lt ho hd ho hd ?_
    refine kat_same ⟨rfl, ?_⟩ _ _
    rw [hxy]
    rw [decide_eq_false (Nat.lt_irrefl _)]
    exact (decide_eq_false (List.lt_irrefl _)).symm
  · rw [e, e']
    refine PySem.W.kat_lt ho hd ho' hd' ?_
    rw [hx, hx']
    refine PySem.W.kat_cons (SeqAt.EqAt.str_str x t y t' prog w _ _ ?_)
    rw [show (x == y) = false from by simpa using hxy]
    exact PySem.W.kat_no (oneLt_str ⟨rfl, rfl⟩)
theorem heads_of {h : Heap} {k : Value → Str} : ∀ {vs : List Value}, (∀ v ∈ vs, IsHead h v (k v)) → ∃ fs : List Value, PySem.W.KatTups h vs fs ∧ fs.length = vs.length ∧ ∀ f ∈ fs, ∃ x t, f = Value.str x t
  | [], _ => ⟨[], PySem.W.KatTups.nil, rfl, fun _ hm => by simp at hm⟩
  | v :: vs, hp => by
    obtain ⟨fs, h1, h2, h3⟩ := heads_of (vs := vs) fun u hm => hp u (List.mem_cons_of_mem _ hm)
    obtain ⟨a, o, xs, n, t, r, e, ho, hc, hd, hx⟩ := hp v List.mem_cons_self
    subst e
    have e0 : xs[0]? = some (Value.str (k (.ref a)) t) := by
      rw [← Array.getElem?_toList, hx]
      rfl
    refine ⟨.str (k (.ref a)) t :: fs, PySem.W.KatTups.cons ho hc hd e0 h1, by simp [h2], ?_⟩
    intro f hm
    rcases List.mem_cons.mp hm with rfl | hm
    · exact ⟨_, t, rfl⟩
    · exact h3 f hm
theorem heads_sortable {a : Addr} {vs : List Value} {k : Value → Str} (h0 : 0 < vs.length) (hp : ∀ v ∈ vs, IsHead s.heap v (k v)) (inj : ∀ v ∈ vs, ∀ u ∈ vs, k v = k u → v = u) (ha : ∀ o, s.heap.get? a = some o → o.cls ≠ .type "tuple") :
    SrtO.SortableO prog w A s a vs fun v u => sLt (k v) (k u) := by
  intro h' keep
  have hp' : ∀ v ∈ vs, IsHead h' v (k v) := fun v hm => by
    obtain ⟨b, o, xs, n, t, r, e, ho, hc, hd, hx⟩ := hp v hm
    exact ⟨b, o, xs, n, t, r, e, keep b o (fun z => by subst z; exact ha o ho hc) ho, hc, hd, hx⟩
  obtain ⟨fs, h1, h2, h3⟩ := heads_of hp'
  refine ⟨tuples' true, fun Q E hq => ?_, head_cmp hp' inj⟩
  refine PySem.W.kat_kind (T := .type "str") h1 (by omega) (fun f hm => ?_) (by rfl) ?_
  · obtain ⟨x, t, rfl⟩ := h3 f hm
    exact PySem.W.Looks.now
  · rw [show (Value.type "str" != Value.type "tuple") = true by first | decide +kernel | rfl]
    exact hq
end
/-- sorted(xs), xs a list of tuples that begin with different texts (nm tells which) -/
def rSortM (K : PySem.W.Frag) : List V → Hp → VK → Prop := fun vs H Q => ∃ (a : Addr) (xs : List V) (nm : V → Str), vs = [V.ref a] ∧ SqL K H a xs ∧ (∀ x ∈ xs, ∃ t r, x = V.ref t ∧ SqT K H t (.str (nm x) :: r)) ∧
  (xs.map nm).Nodup ∧ ∀ ys p, ys.Perm xs → ys.Pairwise (fun x y => sLt (nm x) (nm y) = true) → H p = none → Q (.ref p) (upd H p (.lst ys))
theorem inj_of_nodup {α β : Type} {f : α → β} : ∀ {l : List α}, (l.map f).Nodup → ∀ x ∈ l, ∀ y ∈ l, f x = f y → x = y
  | [], _, _, hx, _, _, _ => nomatch hx
  | a :: l, h, x, hx, y, hy, e => by
    rw [List.map_cons, List.nodup_cons] at h
    rcases List.mem_cons.mp hx with rfl | _
    · rcases List.mem_cons.mp hy with rfl | hy
      · rfl
      · exact absurd (List.mem_map.mpr ⟨y, hy, e.symm⟩) h.1
    · rename_i hx'
      rcases List.mem_cons.mp hy with rfl | hy
      · exact absurd (List.mem_map.mpr ⟨x, hx', e⟩) h.1
      · exact inj_of_nodup h.2 x hx' y hy e
theorem str_tri {a b : Str} (h1 : sLt a b = false) (h2 : sLt b a = false) : a = b := by
  have e : a.cps.toList = b.cps.toList := List.le_antisymm (of_decide_eq_false h2) (of_decide_eq_false h1)
  cases a
  cases b
  simp only [Str.mk.injEq]
  exact Array.toList_inj.mp e
section
variable {X : Cx}
theorem cr_sortM : CallR X (.builtin "sorted") (rSortM X.K) := by
  intro pins s σ H vs us Q I r h
  obtain ⟨a, xs, nm, rfl, hs, hx, nd, q⟩ := h
  obtain ⟨its, rv, hl, hz⟩ := I.list hs
  obtain ⟨u, rfl, ru⟩ := vals1 r
  obtain rfl : u = Value.ref a := ru
  obtain ⟨e1, e2⟩ := refs_back rv fun x m => (hx x m).imp fun t z => z.elim fun _ z => z.1
  have hp : ∀ v ∈ its, IsHead s.heap v (nm (backV v)) := fun v hv => by
    obtain ⟨t, rfl⟩ := e2 v hv
    have hm : V.ref t ∈ xs := by rw [e1]; exact List.mem_map.mpr ⟨_, hv, rfl⟩
    obtain ⟨t', rest, e, ht⟩ := hx _ hm
    cases e
    obtain ⟨jts, r2, ⟨o, ho, hc, n, hd⟩, _⟩ := I.tuple ht
    cases r2 with
    | cons p r3 =>
      obtain ⟨tk, rfl⟩ := p
      exact ⟨t, o, _, n, tk, _, rfl, ho, hc, hd, rfl⟩
  have inj : ∀ v ∈ its, ∀ u ∈ its, nm (backV v) = nm (backV u) → v = u := fun v hv u hu e => by
    obtain ⟨t, rfl⟩ := e2 v hv
    obtain ⟨t', rfl⟩ := e2 u hu
    have m1 : V.ref t ∈ xs := by rw [e1]; exact List.mem_map.mpr ⟨_, hv, rfl⟩
    have m2 : V.ref t' ∈ xs := by rw [e1]; exact List.mem_map.mpr ⟨_, hu, rfl⟩
    have := inj_of_nodup nd _ m1 _ m2 e
    cases this
    rfl
  refine SrtO.sorted_ord (ltv := fun v u => sLt (nm (backV v)) (nm (backV u))) (sLt_swo fun v => nm (backV v)) hl.isList (by rw [← rv.length]; exact hz) (fun h2 h₁ b hb kk => ?_) fun out o1 o2 => ?_
  · refine heads_sortable (s := { s with heap := h₁ }) (by omega) (fun v hm => ?_) inj fun o e => ?_
    · obtain ⟨c, o, ys, n, t, r, e, ho, hc, hd, hx⟩ := hp v hm
      exact ⟨c, o, ys, n, t, r, e, (kk c o ho).2, hc, hd, hx⟩
    · rw [hb] at e
      cases e
      intro c
      exact absurd (Value.type.inj c) (by decide)
  · have h3 : ∀ u ∈ out, ∃ a, u = Value.ref a := fun u hu => e2 u (o2.perm.mem_iff.mp hu)
    obtain ⟨n, hn⟩ := sortedAll_at s.heap its out.toArray
    have hpm : (out.map backV).Perm xs := by
      rw [e1]
      exact o2.perm.map backV
    refine ⟨.ref _, upd H (s.heap.objs.size + 1) (.lst (out.map backV)), I.laid (t' := s.toks) (fun _ _ e => sortedAll_old e) (Nat.le_succ _) ⟨?_, out, n, vals_back h3, hn⟩, rfl, q _ _ hpm ?_ (I.hok.fresh (Nat.le_succ _))⟩
    · rw [hpm.length_eq]
      exact hz
    · have nd2 : ((out.map backV).map nm).Nodup := (hpm.map nm).nodup_iff.mpr nd
      have pw : (out.map backV).Pairwise fun x y => sLt (nm y) (nm x) = false := List.pairwise_map.mpr o1
      have pn : (out.map backV).Pairwise fun x y => nm x ≠ nm y := List.pairwise_map.mp nd2
      refine (pw.and pn).imp fun {x y} z => ?_
      cases e : sLt (nm x) (nm y) with
      | true => rfl
      | false => exact absurd (str_tri e z.1) z.2
end
end GL

set_option Elab.async false
set_option linter.all false
set_option maxRecDepth 100000
set_option maxHeartbeats 4000000
set_option exponentiation.threshold 100000
namespace GL
open PySem PySem.Spec PyProof.Rows L2
local macro_rules | `(tactic| walk_at "pu") => `(tactic| repeat' (first
  | ((with_reducible apply pu_var); rfl) | with_reducible exact pu_c | with_reducible exact pua_nil | ((with_reducible apply pur_i0); rfl) | with_reducible exact puu_neg | with_reducible exact puc_abs | with_reducible exact puc_intB
  | with_reducible exact puc_min | with_reducible exact puc_max | with_reducible exact puo_none
  | with_reducible apply pu_op | with_reducible apply pu_cb | with_reducible apply pua_cons | with_reducible refine put_test ?_ | with_reducible refine put_B ?_ | with_reducible refine put_not ?_ | with_reducible refine pu_notV ?_
  | with_reducible apply pu_un | with_reducible refine puo_some ?_ | ((with_reducible apply pur_i); rfl) | with_reducible exact pur_eq rfl | with_reducible exact pur_ne rfl | exact puc_lenL (by assumption) | exact puc_lenT (by assumption)
  | ((with_reducible apply pur_ixL); assumption) | ((with_reducible apply pur_ixT); assumption) | with_reducible apply pur_ixS | with_reducible apply pur_str))
local macro_rules | `(tactic| walk_at "side") => `(tactic| first
  | exact (show (0 : Int) < _ by decide) | exact Or.inl ⟨by decide, by decide⟩ | exact Or.inr ⟨by decide, by decide⟩ | exact Or.inl ⟨by omega, by omega⟩ | exact Or.inr ⟨by omega, by omega⟩
  | exact ⟨by decide, by decide, by decide⟩ | exact ⟨by decide, by decide⟩ | assumption | omega | exact ⟨by decide, by decide +kernel⟩)
def t_start (K : PySem.W.Frag) : TS :=
  (tSeq (tAsg (tIf (tTest (tOp rLt (tVar 1) (tCB (rLenQ K) (tCons (tVar 0) tNil)))) (tOp (rIxL K) (tVar 0) (tVar 1)) (tOp rAdd (tOp rMul (tC (.int 17)) (tVar 1)) (tC (.int 3)))) (gName 2))
    (tSeq (tAsg (tOp rMulW (tOp rMod (tCB rAbs (tCons (tVar 2) tNil)) (tOp rPowW (tOp rPow (tC (.int 10)) (tC (.int 60))) (tC (.int 5)))) (tCB rInt1 (tCons (tOp rGe (tCB rAbs (tCons (tVar 2) tNil)) (tOp rPow (tC (.int 10)) (tC (.int 18)))) tNil))) (gName 3))
    (tRet (tLst (tCons (tVar 3) (tCons (tOp rMod (tOp rMul (tOp rAdd (tOp rAdd (tOp rMod (tVar 2) (tC (.int 2305843009213693951))) (tOp rMul (tOp rMul (tC (.int 15485869)) (tVar 1)) (tVar 1))) (tC (.int 53))) (tC (.int 16807))) (tC (.int 2305843009213693907))) (tCons (tC (.int 0)) tNil)))))))

def t_draw (K : PySem.W.Frag) : TS :=
  (tSeq (tIfS (tTest (tOp rGt (tOp (rIxL K) (tVar 0) (tC (.int 0))) (tC (.int 0)))) (tSeq (tAsg (tOp rMod (tOp (rIxL K) (tVar 0) (tC (.int 0))) (tVar 1)) (gName 2))
    (tSeq (tAsg (tOp rDiv (tOp (rIxL K) (tVar 0) (tC (.int 0))) (tVar 1)) (gSub (tVar 0) (tC (.int 0)) rSetL))
    (tRet (tVar 2)))) tNext)
    (tSeq (tAsg (tOp rAdd (tOp (rIxL K) (tVar 0) (tC (.int 2))) (tC (.int 1))) (gSub (tVar 0) (tC (.int 2)) rSetL))
    (tSeq (tAsg (tOp (rIxL K) (tLst (tCons (tC (.int 2147483647)) (tCons (tC (.int 2147483629)) (tCons (tC (.int 2147483587)) (tCons (tC (.int 2147483579)) (tCons (tC (.int 2147483563)) (tCons (tC (.int 2147483549)) (tCons (tC (.int 2147483543)) tNil)))))))) (tOp rMod (tOp (rIxL K) (tVar 0) (tC (.int 2))) (tC (.int 7)))) (gName 3))
    (tSeq (tAsg (tOp rMod (tOp rPow (tOp rAdd (tOp rAdd (tOp (rIxL K) (tVar 0) (tC (.int 1))) (tOp rMul (tOp rMul (tC (.int 6700417)) (tOp (rIxL K) (tVar 0) (tC (.int 2)))) (tOp (rIxL K) (tVar 0) (tC (.int 2))))) (tC (.int 23))) (tC (.int 3))) (tVar 3)) (gName 4))
    (tRet (tOp rMod (tOp rDiv (tOp rMod (tOp rMul (tVar 4) (tOp rAdd (tOp rMod (tVar 4) (tC (.int 10007))) (tOp rMul (tC (.int 97)) (tOp (rIxL K) (tVar 0) (tC (.int 2)))))) (tC (.int 2305843009213693921))) (tC (.int 97))) (tVar 1)))))))

def t_choice (K : PySem.W.Frag) : TS :=
  (tRet (tOp (rIxL K) (tVar 1) (tCall spDraw [] E0 (tCons (tVar 0) (tCons (tCB (rLenQ K) (tCons (tVar 1) tNil)) tNil)))))

def t_mixed (K : PySem.W.Frag) : TS :=
  (tSeq (tAsg (tCB (rListQ K) (tCons (tVar 1) tNil)) (gName 2))
    (tRet (tLc (iRng1 (tCons (tCB (rLenQ K) (tCons (tVar 1) tNil)) tNil)) (gName 3) tYes (tBM K "list" rPopAt (tVar 2) (tCons (tCall spDraw [] E0 (tCons (tVar 0) (tCons (tCB (rLenQ K) (tCons (tVar 2) tNil)) tNil))) tNil)) [3])))

section
variable {K : PySem.W.Frag}
theorem atI_in {α : Type} {xs : List α} {i : Nat} {x : α} (h : xs[i]? = some x) : atI xs (i : Int) = some x := atI_nat h
theorem bits_le {i : Int} {a : Nat} (h : i.natAbs < 2 ^ a) (h0 : 0 < a) : Builtin.Int.intBits i ≤ a := by
  have x := PySem.Flt.log2_lt_of h0 h
  unfold Builtin.Int.intBits
  split <;> omega
theorem start_num (c : Int) (d : Int) (hd : d = (10 ^ 60) ^ 5) (k : Bool) : 0 ≤ (if c < 0 then -c else c) % d * (if k = true then 1 else 0) ∧ (if c < 0 then -c else c) % d * (if k = true then 1 else 0) < 10 ^ 300 := by
  have h1 : (0 : Int) < d := by rw [hd]; decide
  have h2 : d = 10 ^ 300 := by rw [hd]; decide
  generalize (if c < 0 then -c else c) = b
  have a1 := Int.emod_nonneg b (show d ≠ 0 by omega)
  have a2 := Int.emod_lt_of_pos b h1
  have a3 : (0 : Int) < 10 ^ 300 := by decide
  cases k
  · simp only [Bool.false_eq_true, if_false, Int.mul_zero]
    exact ⟨Int.le_refl _, a3⟩
  · simp only [if_true, Int.mul_one]
    exact ⟨a1, by rw [← h2]; exact a2⟩
theorem start_mul (c : Int) (d : Int) (hd : d = (10 ^ 60) ^ 5) (k : Bool) : CMulW ((if c < 0 then -c else c) % d) (if k = true then 1 else 0) := by
  have h1 : (0 : Int) < d := by rw [hd]; decide
  have h2 : d = 10 ^ 300 := by rw [hd]; decide
  generalize (if c < 0 then -c else c) = b
  have a1 := Int.emod_nonneg b (show d ≠ 0 by omega)
  have a2 := Int.emod_lt_of_pos b h1
  have a3 : (10 : Int) ^ 300 < 2 ^ 1000 := by decide
  refine wide_mul (a := 1000) (b := 1) ?_ (by cases k <;> decide) (by decide) (by decide) (by decide)
  have e : ((b % d).natAbs : Int) < ((2 ^ 1000 : Nat) : Int) := by
    rw [Int.natAbs_of_nonneg a1]
    have : ((2 ^ 1000 : Nat) : Int) = 2 ^ 1000 := by norm_cast
    rw [this]
    omega
  exact_mod_cast e
theorem pure_start (vs : List V) (H : Hp) (Q : VK) (E : XK) (h : spStart K vs H Q E) : t_start K { nx := fun _ H' => Q .non H', rt := Q } (vs.map some ++ [none, none]) H := by
  obtain ⟨a, ns, i, rfl, hS, hi, q⟩ := h
  unfold t_start
  obtain ⟨c, hc⟩ : ∃ c : Int, c = if h : i < ns.length then ns[i] else 17 * (i : Int) + 3 := ⟨_, rfl⟩
  refine sq_asg (v := .int c) (pu_if (b := decide ((i : Int) < (ns.map V.int).length)) (by walk_at "pu") (fun e => ?_) fun e => ?_) ?_
  · have e1 : i < ns.length := by simpa using e
    rw [dif_pos e1] at hc
    walk_at "pu"
    exact atI_in (by rw [hc, List.getElem?_map, List.getElem?_eq_getElem e1]; rfl)
  · have e1 : ¬ i < ns.length := by simpa using e
    rw [dif_neg e1] at hc
    refine pu_is (v := .int (17 * (i : Int) + 3)) ?_ (by rw [hc])
    walk_at "pu"
    exact .inl ⟨by decide, by decide⟩
  obtain ⟨hm1, hm2⟩ := start_num c _ rfl (decide ((10 : Int) ^ 18 ≤ (if c < 0 then -c else c)))
  refine sq_asg (v := .int ((if c < 0 then -c else c) % (10 ^ 60) ^ 5 * (if decide ((10 : Int) ^ 18 ≤ (if c < 0 then -c else c)) = true then 1 else 0))) ?_ ?_
  · walk_at "pu"
    all_goals first | walk_at "side" | exact start_mul c _ rfl _
  generalize (if c < 0 then -c else c) % (10 ^ 60) ^ 5 * (if decide ((10 : Int) ^ 18 ≤ (if c < 0 then -c else c)) = true then 1 else 0) = g at hm1 hm2
  show tLst _ _ _ _
  refine al_lst (by walk_at "pu" <;> walk_at "side") (by show 3 ≤ sizeLine; decide) fun p hp => ?_
  refine q _ p (.new hp) hp ⟨g, _, 0, upd_same, hm1, hm2, Int.emod_nonneg _ (by decide), Int.emod_lt_of_pos _ (by decide), by decide, by decide⟩
theorem primes_at (m : Int) : ∃ p : Int, atI ([V.int 2147483647, V.int 2147483629, V.int 2147483587, V.int 2147483579, V.int 2147483563, V.int 2147483549, V.int 2147483543]) (m % 7) = some (.int p) ∧ 0 < p ∧ p ≤ 2147483647 := by
  have h1 := Int.emod_nonneg m (show (7 : Int) ≠ 0 by decide)
  have h2 := Int.emod_lt_of_pos m (show (0 : Int) < 7 by decide)
  generalize m % 7 = r at h1 h2
  have : r = 0 ∨ r = 1 ∨ r = 2 ∨ r = 3 ∨ r = 4 ∨ r = 5 ∨ r = 6 := by omega
  rcases this with rfl | rfl | rfl | rfl | rfl | rfl | rfl <;> exact ⟨_, rfl, by decide, by decide⟩
theorem base_lt {s n : Int} (h1 : 0 ≤ s) (h2 : s < 2305843009213693907) (h3 : 0 ≤ n) (h4 : n ≤ 900001) : (s + 6700417 * n * n + 23).natAbs < 2 ^ 64 := by
  have a : n * n ≤ 900001 * 900001 := Int.mul_le_mul h4 h4 h3 (by decide)
  have b : 0 ≤ n * n := Int.mul_nonneg h3 h3
  have c : 6700417 * n * n = 6700417 * (n * n) := Int.mul_assoc _ _ _
  rw [c]
  generalize n * n = m at a b
  omega
theorem atI3 {x y z : V} : atI [x, y, z] 0 = some x ∧ atI [x, y, z] 1 = some y ∧ atI [x, y, z] 2 = some z := ⟨rfl, rfl, rfl⟩
theorem pure_draw (vs : List V) (H : Hp) (Q : VK) (E : XK) (h : spDraw vs H Q E) : t_draw K { nx := fun _ H' => Q .non H', rt := Q } (vs.map some ++ [none, none, none]) H := by
  obtain ⟨a, L, N, rfl, ⟨g, sd, n, ea, g0, g1, s0, s1, n0, n1⟩, hN, L0, L1, q⟩ := h
  unfold t_draw
  have sa : SqL K H a [.int g, .int sd, .int n] := .inl (.inl ea)
  refine sq_if (b := decide (0 < g)) (by walk_at "pu"; exact atI3.1) (fun c => ?_) fun c => ?_
  · -- a digit of the large cell
    have hg : 0 < g := of_decide_eq_true c
    refine sq_seq (sq_asg (by walk_at "pu"; exact atI3.1; walk_at "side") (sq_seq (sq_set (i := 0) (by walk_at "pu"; exact atI3.1; exact ⟨by omega, by omega⟩) (by walk_at "pu") (by walk_at "pu") ⟨a, _, 0, 0, rfl, rfl, ea, rfl, ?_⟩)))
    refine sq_ret (by walk_at "pu") (q _ _ (.put .refl (.inl (by simp))) ⟨_, _, _, upd_same, ?_, ?_, s0, s1, n0, by omega⟩ (Int.emod_nonneg _ (by omega)) (Int.emod_lt_of_pos _ L0))
    · exact Int.ediv_nonneg g0 (by omega)
    · exact Int.lt_of_le_of_lt (Int.ediv_le_self _ g0) g1
  · -- a mixed number
    refine sq_nx (sq_set (i := 0) (by walk_at "pu"; exact atI3.2.2) (by walk_at "pu") (by walk_at "pu") ⟨a, _, 2, 2, rfl, rfl, ea, rfl, ?_⟩)
    generalize eH : upd H a _ = H1
    have e1 : H1 a = some (.lst [.int g, .int sd, .int (n + 1)]) := by rw [← eH]; exact upd_same
    have k1 : Keep [a] H H1 := by rw [← eH]; exact .put .refl (.inl (by simp))
    obtain ⟨p, ep, p0, p1⟩ := primes_at (n + 1)
    refine sq_doN (al_opL (y := fun _ => .int ((n + 1) % 7)) (by walk_at "pu") (by decide) (fun l hl => ?_) fun l hl => ?_)
    · have sa1 : SqL K (upd H1 l (.lst [V.int 2147483647, V.int 2147483629, V.int 2147483587, V.int 2147483579, V.int 2147483563, V.int 2147483549, V.int 2147483543])) a [.int g, .int sd, .int (n + 1)] := .inl (.inl (by rw [upd_ne (ne_of_none e1 hl)]; exact e1))
      walk_at "pu"
      · exact atI3.2.2
      · walk_at "side"
    refine ⟨l, _, _, .int p, rfl, rfl, .inl (.inl upd_same), ep, ?_⟩
    generalize eH2 : upd H1 l _ = H2
    have e2 : H2 a = some (.lst [.int g, .int sd, .int (n + 1)]) := by rw [← eH2, upd_ne (ne_of_none e1 hl)]; exact e1
    have k2 : Keep [a] H H2 := by rw [← eH2]; exact k1.trans (.new hl)
    have sa2 : SqL K H2 a [.int g, .int sd, .int (n + 1)] := .inl (.inl e2)
    refine sq_asg (v := .int ((sd + 6700417 * (n + 1) * (n + 1) + 23) ^ 3 % p)) ?_ ?_
    · walk_at "pu"
      all_goals first | exact atI3.2.1 | exact atI3.2.2 | exact ⟨by decide, by decide, base_lt s0 s1 (by omega) (by omega)⟩ | walk_at "side"
    have m0 := Int.emod_nonneg ((sd + 6700417 * (n + 1) * (n + 1) + 23) ^ 3) (show p ≠ 0 by omega)
    have m1 := Int.emod_lt_of_pos ((sd + 6700417 * (n + 1) * (n + 1) + 23) ^ 3) p0
    generalize (sd + 6700417 * (n + 1) * (n + 1) + 23) ^ 3 % p = m at m0 m1
    refine su_ret (v := .int (m * (m % 10007 + 97 * (n + 1)) % 2305843009213693921 / 97 % L)) ?_ (q _ _ k2 ⟨_, _, _, e2, g0, g1, s0, s1, by omega, by omega⟩ (Int.emod_nonneg _ (by omega)) (Int.emod_lt_of_pos _ L0))
    walk_at "pu"
    all_goals first | exact atI3.2.2 | walk_at "side"
theorem at_of_lt {α : Type} {xs : List α} {r : Int} (h0 : 0 ≤ r) (h1 : r < xs.length) : ∃ (j : Nat) (v : α), r = j ∧ xs[j]? = some v ∧ atI xs r = some v := by
  obtain ⟨j, rfl⟩ := Int.eq_ofNat_of_zero_le h0
  have hj : j < xs.length := by omega
  exact ⟨j, xs[j], rfl, List.getElem?_eq_getElem hj, atI_nat (List.getElem?_eq_getElem hj)⟩
theorem pure_choice (vs : List V) (H : Hp) (Q : VK) (E : XK) (h : spChoice K vs H Q E) : t_choice K { nx := fun _ H' => Q .non H', rt := Q } (vs.map some ++ []) H := by
  obtain ⟨a, b, xs, N, rfl, hs, hN, hb, ne, nn, hl, q⟩ := h
  unfold t_choice
  refine su_retE (al_opV rfl ?_)
  have h0 : 0 < xs.length := List.length_pos_iff.mpr nn
  refine al_call (by walk_at "pu") ⟨a, _, N, rfl, hs, hN, by omega, by omega, fun H1 r k1 s1 r0 r1 => ?_⟩
  obtain ⟨j, v, rfl, e1, e2⟩ := at_of_lt r0 r1
  exact ⟨b, xs, _, v, rfl, rfl, k1.sql (by simpa using ne) hb, e2, q _ j v k1 s1 e1⟩
theorem cons_erase {α : Type} : ∀ {l : List α} {j : Nat} (h : j < l.length), (l[j] :: l.eraseIdx j).Perm l
  | [], _, h => absurd h (by simp)
  | x :: l, 0, _ => .refl _
  | x :: l, j + 1, h => (List.Perm.swap _ _ _).trans ((cons_erase (l := l) (j := j) (by simpa using h)).cons x)
theorem pop_perm {α : Type} {ys zs xs : List α} {j : Nat} {v : α} (h : (ys ++ zs).Perm xs) (e : zs[j]? = some v) : ((ys ++ [v]) ++ zs.eraseIdx j).Perm xs := by
  obtain ⟨hj, rfl⟩ := List.getElem?_eq_some_iff.mp e
  refine List.Perm.trans ?_ h
  rw [List.append_assoc]
  exact (cons_erase hj).append_left ys
theorem pure_mixed (vs : List V) (H : Hp) (Q : VK) (E : XK) (h : spMixed K vs H Q E) : t_mixed K { nx := fun _ H' => Q .non H', rt := Q } (vs.map some ++ [none, none]) H := by
  obtain ⟨a, b, xs, N, rfl, hs, hN, hb, ne, hl, q⟩ := h
  unfold t_mixed
  refine sq_doN (al_list (by walk_at "pu") hb fun l nl => ?_)
  have k1 : Keep [a] H (upd H l (.lst xs)) := .new nl
  have nla : l ≠ a := fun z => by
    obtain ⟨g, s', n, e, _⟩ := hs
    rw [z, e] at nl
    cases nl
  have hb1 : SqL K (upd H l (.lst xs)) b xs ∨ SqT K (upd H l (.lst xs)) b xs := hb.imp (k1.sql (by simpa using ne)) (k1.sqt (by simpa using ne))
  refine su_retE ?_
  refine al_args (vs := [.int xs.length]) ?_ ⟨_, rfl, by omega, by omega, ?_⟩
  · refine pua_cons (pu_cb (pua_cons (pu_var rfl) pua_nil) ?_) pua_nil
    exact fun _ q => ⟨b, xs, rfl, hb1, q⟩
  intro D hD
  have nDl : D ≠ l := fun z => by rw [z, upd_same] at hD; cases hD
  have nD : H D = none := by rw [upd_ne nDl] at hD; exact hD
  have nDa : D ≠ a := fun z => by
    obtain ⟨g, s', n, e, _⟩ := hs
    rw [z, e] at nD
    cases nD
  refine lc_range (lo := 0) (n := (xs.length : Int).toNat) (fun i H' => ∃ ys zs, Keep [a] H H' ∧ Src H' a (N + i) ∧ H' l = some (.lst zs) ∧ H' D = some (.lst ys) ∧ (ys ++ zs).Perm xs ∧ ys.length = i) ?_ ?_ ?_
  · refine ⟨[], xs, k1.trans (.new hD), ?_, ?_, upd_same, .refl _, rfl⟩
    · exact (hs.keep (S := []) (.trans (.new nl) (.new hD)) (by simp))
    · rw [upd_ne nDl.symm, upd_same]
  · rintro i H1 hi ⟨ys, zs, kk, ss, el, eD, pm, yl⟩
    have zl : ys.length + zs.length = xs.length := by rw [← List.length_append]; exact pm.length_eq
    refine ⟨rfl, ?_⟩
    have sl : SqL K H1 l zs := .inl (.inl el)
    refine al_bm (x := .ref l) (pu_var rfl) (.inl ⟨rfl, _, sl⟩) (al_cons ?_)
    refine al_call (by walk_at "pu") ⟨a, _, N + i, rfl, ss, by omega, by omega, by omega, fun H2 r k2 s2 r0 r1 => ?_⟩
    obtain ⟨j, v, rfl, e1, e2⟩ := at_of_lt r0 r1
    obtain ⟨j', g1, g2, g3, g4, g5⟩ := atI_get e2
    have el2 : H2 l = some (.lst zs) := k2 l _ (by simpa using nla) el
    have eD2 : H2 D = some (.lst ys) := k2 D _ (by simpa using nDa) eD
    refine ⟨l, zs, _, _, v, rfl, rfl, el2, by omega, by omega, g1, g2, ?_⟩
    refine ⟨ys, by rw [upd_ne nDl]; exact eD2, szl (by omega), ys ++ [v], zs.eraseIdx j', ?_, ?_, ?_, upd_same, pop_perm pm g2, by simp [yl]⟩
    · exact ((kk.trans k2).put (.inr nl)).put (.inr nD)
    · exact s2.keep (S := [l, D]) (.put (.put .refl (.inl (by simp))) (.inl (by simp))) (by simp [nla.symm, nDa.symm])
    · rw [upd_ne nDl.symm, upd_same]
  · rintro H1 ⟨ys, zs, kk, ss, el, eD, pm, yl⟩
    have yl' : ys.length = xs.length := by omega
    have zl : ys.length + zs.length = xs.length := by rw [← List.length_append]; exact pm.length_eq
    have z0 : zs = [] := List.length_eq_zero_iff.mp (by omega)
    subst z0
    rw [List.append_nil] at pm
    exact q H1 D ys kk (ss.mono (by omega)) nD eD pm
end
end GL

set_option Elab.async false
set_option linter.all false
set_option maxRecDepth 100000
set_option maxHeartbeats 4000000
set_option exponentiation.threshold 100000
namespace GL
open PySem PySem.Spec PyProof.Rows L2
local macro_rules | `(tactic| walk_at "pu") => `(tactic| repeat' (first
  | ((with_reducible apply pu_var); rfl) | with_reducible exact pu_c | with_reducible exact pua_nil | ((with_reducible apply pur_i0); rfl) | with_reducible exact puu_neg | with_reducible exact puc_abs | with_reducible exact puc_intB
  | with_reducible exact puc_min | with_reducible exact puc_max | with_reducible exact puo_none
  | with_reducible apply pu_op | with_reducible apply pu_cb | with_reducible apply pua_cons | with_reducible refine put_test ?_ | with_reducible refine put_B ?_ | with_reducible refine put_not ?_ | with_reducible refine pu_notV ?_
  | with_reducible apply pu_un | with_reducible refine puo_some ?_ | ((with_reducible apply pur_i); rfl) | with_reducible exact pur_eq rfl | with_reducible exact pur_ne rfl | exact puc_lenL (by assumption) | exact puc_lenT (by assumption)
  | ((with_reducible apply pur_ixL); assumption) | ((with_reducible apply pur_ixT); assumption) | with_reducible apply pur_ixS | with_reducible apply pur_str))
local macro_rules | `(tactic| walk_at "side") => `(tactic| first
  | exact (show (0 : Int) < _ by decide) | exact Or.inl ⟨by decide, by decide⟩ | exact Or.inr ⟨by decide, by decide⟩ | exact Or.inl ⟨by omega, by omega⟩ | exact Or.inr ⟨by omega, by omega⟩
  | exact ⟨by decide, by decide, by decide⟩ | exact ⟨by decide, by decide⟩ | assumption | omega | exact ⟨by decide, by decide +kernel⟩)
section
variable {K : PySem.W.Frag}
/-- a comprehension whose tests and items are pure -/
theorem lc_pure {J : It} {n j : Nat} {Gd : Hp → Prop} {it : Nat → V} (w : Walk J n Gd (YFn it)) {tt : TT} {te : TE} {vs : List Nat} {σ : L2.St} {H1 : Hp} {b : Nat → Bool} {f : Nat → V} {Q : VK} (hG : ∀ H, Keep [] H1 H → Gd H) (hn : n ≤ 1000000)
    (hw : ∀ v, wipe ((wipe σ vs).set j (some v)) vs = wipe σ vs) (ht : ∀ i H, i < n → Keep [] H1 H → PuT tt ((wipe σ vs).set j (some (it i))) H (b i)) (he : ∀ i H, i < n → Keep [] H1 H → b i = true → Pu te ((wipe σ vs).set j (some (it i))) H (f i))
    (k : ∀ D H, Keep [] H1 H → H1 D = none → H D = some (.lst (((List.range n).filter b).map f)) → Q (.ref D) H) :
    ∀ D, H1 D = none → ∃ W : Nat → Nat → Hp → Prop, (∃ m, W 0 m (upd H1 D (.lst []))) ∧ ∀ i m H, W i m H →
      (J.stop i H ∧ Q (.ref D) H) ∨ (J.go i H ∧ ∃ Nx : Hp → Prop, (∀ H', Nx H' → ∃ m', m' < m ∧ W (i + 1) m' H') ∧ ∀ x H', J.yld i H x H' → gName j x (wipe σ vs) H' fun σ2 H2 => wipe σ2 vs = wipe σ vs ∧ tt σ2 H2 fun b H3 =>
        if b = true then te σ2 H3 fun y H4 => ∃ acc, H4 D = some (.lst acc) ∧ acc.length < sizeLine ∧ Nx (upd H4 D (.lst (acc ++ [y]))) else Nx H3) := by
  intro D hD
  refine lc_it w (fun i H => Keep [] H1 H ∧ H D = some (.lst (((List.range i).filter b).map f))) ⟨.new hD, upd_same⟩ (fun i H _ h => hG H h.1) ?_ fun H h => k D H h.1 hD h.2
  rintro i x H H' hi ⟨kp, eD⟩ ⟨rfl, rfl⟩
  refine ⟨hw _, ht i H' hi kp _ ?_⟩
  cases eb : b i with
  | false =>
    refine (show Keep [] H1 H' ∧ _ from ⟨kp, ?_⟩)
    rw [eD, List.range_succ, List.filter_append, List.filter_cons_of_neg (by rw [eb]; decide)]
    simp
  | true =>
    refine he i H' hi kp eb _ ⟨_, eD, szl ?_, kp.put (.inr hD), ?_⟩
    · rw [List.length_map]
      exact Nat.lt_of_le_of_lt (List.length_filter_le _ _) (by rw [List.length_range]; omega)
    · rw [upd_same, List.range_succ, List.filter_append, List.filter_cons_of_pos eb]
      simp
theorem puT_yes {σ : L2.St} {H : Hp} : PuT tYes σ H true := fun _ q => q
theorem filter_all {n : Nat} : (List.range n).filter (fun _ => true) = List.range n := by simp
/-- .. without tests -/
theorem lc_pure1 {J : It} {n j : Nat} {Gd : Hp → Prop} {it : Nat → V} (w : Walk J n Gd (YFn it)) {te : TE} {vs : List Nat} {σ : L2.St} {H1 : Hp} {f : Nat → V} {Q : VK} (hG : ∀ H, Keep [] H1 H → Gd H) (hn : n ≤ 1000000)
    (hw : ∀ v, wipe ((wipe σ vs).set j (some v)) vs = wipe σ vs) (he : ∀ i H, i < n → Keep [] H1 H → Pu te ((wipe σ vs).set j (some (it i))) H (f i))
    (k : ∀ D H, Keep [] H1 H → H1 D = none → H D = some (.lst ((List.range n).map f)) → Q (.ref D) H) :
    ∀ D, H1 D = none → ∃ W : Nat → Nat → Hp → Prop, (∃ m, W 0 m (upd H1 D (.lst []))) ∧ ∀ i m H, W i m H →
      (J.stop i H ∧ Q (.ref D) H) ∨ (J.go i H ∧ ∃ Nx : Hp → Prop, (∀ H', Nx H' → ∃ m', m' < m ∧ W (i + 1) m' H') ∧ ∀ x H', J.yld i H x H' → gName j x (wipe σ vs) H' fun σ2 H2 => wipe σ2 vs = wipe σ vs ∧ tYes σ2 H2 fun b H3 =>
        if b = true then te σ2 H3 fun y H4 => ∃ acc, H4 D = some (.lst acc) ∧ acc.length < sizeLine ∧ Nx (upd H4 D (.lst (acc ++ [y]))) else Nx H3) :=
  lc_pure (b := fun _ => true) w hG hn hw (fun _ _ _ _ => puT_yes) (fun i H hi kp _ => he i H hi kp) fun D H kp nD e => k D H kp nD (by rw [filter_all] at e; exact e)
theorem walk_listF {a : Addr} {xs : List V} {it : Nat → V} (h : ∀ i x, xs[i]? = some x → it i = x) : Walk (Itl K a) xs.length (fun H => SqL K H a xs) (YFn it) :=
  walk_list.mono (fun _ h => h) fun i H x H' hi _ y => ⟨y.1, (h i x y.2).symm⟩
theorem walk_tupF {a : Addr} {xs : List V} {it : Nat → V} (h : ∀ i x, xs[i]? = some x → it i = x) : Walk (Itt K a) xs.length (fun H => SqT K H a xs) (YFn it) :=
  walk_tup.mono (fun _ h => h) fun i H x H' hi _ y => ⟨y.1, (h i x y.2).symm⟩
/-! ### names -/
def NameOk (z : Str) : Prop := 1 ≤ z.length ∧ z.length ≤ 10 ∧ ∀ c ∈ z.cps.toList, 97 ≤ c ∧ c ≤ 122
def Asc (ys : List Str) : Prop := ys.Pairwise fun x y => sLt x y = true
def spNames (K : PySem.W.Frag) : Sp := fun vs H Q _ => ∃ (a : Addr) (n : Nat) (N : Nat), vs = [.ref a, .int n] ∧ Src H a N ∧ N + 2 ≤ 900000 ∧ n ≤ 52 ∧
  ∀ H' p ys, Keep [a] H H' → Src H' a (N + 2) → H p = none → H' p = some (.lst (ys.map V.str)) → Asc ys → (∀ y ∈ ys, NameOk y) → ys.length = n → Q (.ref p) H'
def letter (f : Int) (i : Nat) : Nat := 97 + ((f + 7 * i) % 26).toNat
def nameAt (stem : Str) (f : Int) (i : Nat) : Str := stem ++ ⟨#[letter f i]⟩
theorem letter_inj {f : Int} {i j : Nat} (hi : i < 26) (hj : j < 26) (h : letter f i = letter f j) : i = j := by
  unfold letter at h
  omega
theorem alpha_at (r : Int) (h0 : 0 ≤ r) (h1 : r < 26) : atI (Str.cps "abcdefghijklmnopqrstuvwxyz").toList r = some (97 + r.toNat) := by
  obtain ⟨n, rfl⟩ := Int.eq_ofNat_of_zero_le h0
  have hn : n < 26 := by omega
  have all : ∀ m : Fin 26, atI (Str.cps "abcdefghijklmnopqrstuvwxyz").toList ((m : Nat) : Int) = some (97 + ((m : Nat) : Int).toNat) := by decide +kernel
  exact all ⟨n, hn⟩
theorem cps_add (a b : Str) : (a ++ b).cps.toList = a.cps.toList ++ b.cps.toList := by
  rw [Str.cps_append, Array.toList_append]
theorem nameAt_cps (stem : Str) (f : Int) (i : Nat) : (nameAt stem f i).cps.toList = stem.cps.toList ++ [letter f i] := by
  unfold nameAt
  rw [cps_add]
theorem nameAt_inj {stem : Str} {f : Int} {i j : Nat} (hi : i < 26) (hj : j < 26) (h : nameAt stem f i = nameAt stem f j) : i = j := by
  have e := congrArg (fun z : Str => z.cps.toList) h
  simp only [nameAt_cps] at e
  have := List.append_cancel_left e
  exact letter_inj hi hj (List.cons.inj this).1
theorem nameAt_len (stem : Str) (f : Int) (i : Nat) : (nameAt stem f i).length = stem.length + 1 := by
  unfold nameAt
  rw [Str.length_append]
  rfl
def allNames (stem : Str) (f : Int) (n m : Nat) : List Str := (List.range n).map (nameAt stem f) ++ (List.range m).map fun i => ("x" : Str) ++ nameAt stem f i
theorem x_cancel {a b : Str} (h : ("x" : Str) ++ a = ("x" : Str) ++ b) : a = b := by
  have e := congrArg (fun z : Str => z.cps.toList) h
  simp only [cps_add] at e
  have := List.append_cancel_left e
  cases a
  cases b
  simp only [Str.mk.injEq]
  exact Array.toList_inj.mp this
theorem nodup_map_range {α : Type} {f : Nat → α} : ∀ {n : Nat}, (∀ i j, i < n → j < n → f i = f j → i = j) → ((List.range n).map f).Nodup := fun {n} h => by
  refine List.pairwise_map.mpr ?_
  refine List.Pairwise.imp_of_mem ?_ (List.nodup_range (n := n))
  intro a b ha hb hab e
  exact hab (h a b (List.mem_range.mp ha) (List.mem_range.mp hb) e)
theorem allNames_nodup {stem : Str} {f : Int} {n m : Nat} (hn : n ≤ 26) (hm : m ≤ 26) : (allNames stem f n m).Nodup := by
  refine List.nodup_append.mpr ⟨nodup_map_range fun i j hi hj => nameAt_inj (by omega) (by omega), nodup_map_range fun i j hi hj e => nameAt_inj (by omega) (by omega) (x_cancel e), ?_⟩
  intro a ha b hb e
  obtain ⟨i, _, rfl⟩ := List.mem_map.mp ha
  obtain ⟨j, _, rfl⟩ := List.mem_map.mp hb
  have := congrArg Str.length e
  rw [Str.length_append, nameAt_len, nameAt_len] at this
  have h1 : (("x" : Str)).length = 1 := by decide +kernel
  omega
theorem asc_of_sorted : ∀ {ys : List Str}, sortedS ys = true → ys.Nodup → Asc ys := by
  have rise : ∀ (l : List Str) (p : Str), risingS p l = true → (p :: l).Pairwise fun x y => sLt y x = false := by
    intro l
    induction l with
    | nil => intro p _; exact List.pairwise_singleton _ _
    | cons x r ih =>
      intro p h
      have h' : (!ltCps x.cps.toList p.cps.toList && risingS x r) = true := h
      obtain ⟨h1, h2⟩ := Bool.and_eq_true_iff.mp h'
      have h3 : sLt x p = false := by
        unfold sLt
        rw [← ltCps_eq]
        simpa using h1
      have t := ih x h2
      refine List.pairwise_cons.mpr ⟨fun y hy => ?_, t⟩
      rcases List.mem_cons.mp hy with rfl | hy
      · exact h3
      · exact (sLt_swo (fun z : Str => z)).tr _ _ _ h3 ((List.pairwise_cons.mp t).1 y hy)
  intro ys h nd
  have pw : ys.Pairwise fun x y => sLt y x = false := by
    cases ys with
    | nil => exact .nil
    | cons x r => exact rise r x h
  refine (pw.and nd).imp fun {x y} z => ?_
  cases e : sLt x y with
  | true => rfl
  | false => exact absurd (str_tri e z.1) z.2
def stems : List Str := ["", "m", "mod", "zzzzzzzz", "a"]
theorem stem_ok {stem : Str} (h : stem ∈ stems) : stem.length ≤ 8 ∧ ∀ c ∈ stem.cps.toList, 97 ≤ c ∧ c ≤ 122 := by
  have all : ∀ z ∈ stems, z.length ≤ 8 ∧ ∀ c ∈ z.cps.toList, 97 ≤ c ∧ c ≤ 122 := by decide +kernel
  exact all stem h
theorem nameAt_ok {stem : Str} {f : Int} (h : stem ∈ stems) (i : Nat) : NameOk (nameAt stem f i) ∧ NameOk (("x" : Str) ++ nameAt stem f i) := by
  obtain ⟨h1, h2⟩ := stem_ok h
  have hl := nameAt_len stem f i
  have hx : (("x" : Str)).length = 1 := by decide +kernel
  have hc : ∀ c ∈ (nameAt stem f i).cps.toList, 97 ≤ c ∧ c ≤ 122 := by
    intro c hc
    rw [nameAt_cps] at hc
    rcases List.mem_append.mp hc with hc | hc
    · exact h2 c hc
    · have : c = letter f i := by simpa using hc
      rw [this]
      unfold letter
      omega
  refine ⟨⟨by omega, by omega, hc⟩, by rw [Str.length_append]; omega, by rw [Str.length_append]; omega, ?_⟩
  intro c hc'
  rw [cps_add] at hc'
  rcases List.mem_append.mp hc' with hc' | hc'
  · have all : ∀ c ∈ (Str.cps "x").toList, 97 ≤ c ∧ c ≤ 122 := by decide +kernel
    exact all c hc'
  · exact hc c hc'
def t_names (K : PySem.W.Frag) : TS :=
  (tSeq (tAsg (tTup (tCons (tCall (spChoice K) [] E0 (tCons (tVar 0) (tCons (tLst (tCons (tC (.str "")) (tCons (tC (.str "m")) (tCons (tC (.str "mod")) (tCons (tC (.str "zzzzzzzz")) (tCons (tC (.str "a")) tNil)))))) tNil))) (tCons (tCall spDraw [] E0 (tCons (tVar 0) (tCons (tC (.int 26)) tNil))) tNil))) (gTup K 2 (gCons (gName 2) (gCons (gName 3) gNil))))
    (tSeq (tAsg (tLc (iRng1 (tCons (tCB rMin2 (tCons (tVar 1) (tCons (tC (.int 26)) tNil))) tNil)) (gName 6) tYes (tOp rAddS (tVar 2) (tOp rIxS (tC (.str "abcdefghijklmnopqrstuvwxyz")) (tOp rMod (tOp rAdd (tVar 3) (tOp rMul (tC (.int 7)) (tVar 6))) (tC (.int 26))))) [6]) (gName 4))
    (tSeq (tAsg (tIf (tTest (tOp rLe (tVar 1) (tC (.int 52)))) (tLc (iRng2 (tCons (tC (.int 26)) (tCons (tVar 1) tNil))) (gName 6) tYes (tOp rAddS (tC (.str "x")) (tOp (rIxL K) (tVar 4) (tOp rMod (tVar 6) (tC (.int 26))))) [6]) (tLst tNil)) (gName 5))
    (tRet (tCB (rSortedS K) (tCons (tOp rCat (tVar 4) (tVar 5)) tNil))))))

end
end GL

set_option Elab.async false
set_option linter.all false
set_option maxRecDepth 100000
set_option maxHeartbeats 4000000
set_option exponentiation.threshold 100000
namespace GL
open PySem PySem.Spec PyProof.Rows L2
local macro_rules | `(tactic| walk_at "pu") => `(tactic| repeat' (first
  | ((with_reducible apply pu_var); rfl) | with_reducible exact pu_c | with_reducible exact pua_nil | ((with_reducible apply pur_i0); rfl) | with_reducible exact puu_neg | with_reducible exact puc_abs | with_reducible exact puc_intB
  | with_reducible exact puc_min | with_reducible exact puc_max | with_reducible exact puo_none
  | with_reducible apply pu_op | with_reducible apply pu_cb | with_reducible apply pua_cons | with_reducible refine put_test ?_ | with_reducible refine put_B ?_ | with_reducible refine put_not ?_ | with_reducible refine pu_notV ?_
  | with_reducible apply pu_un | with_reducible refine puo_some ?_ | ((with_reducible apply pur_i); rfl) | with_reducible exact pur_eq rfl | with_reducible exact pur_ne rfl | exact puc_lenL (by assumption) | exact puc_lenT (by assumption)
  | ((with_reducible apply pur_ixL); assumption) | ((with_reducible apply pur_ixT); assumption) | with_reducible apply pur_ixS | with_reducible apply pur_str))
local macro_rules | `(tactic| walk_at "side") => `(tactic| first
  | exact (show (0 : Int) < _ by decide) | exact Or.inl ⟨by decide, by decide⟩ | exact Or.inr ⟨by decide, by decide⟩ | exact Or.inl ⟨by omega, by omega⟩ | exact Or.inr ⟨by omega, by omega⟩
  | exact ⟨by decide, by decide, by decide⟩ | exact ⟨by decide, by decide⟩ | assumption | omega | exact ⟨by decide, by decide +kernel⟩)
section
variable {K : PySem.W.Frag} {σ : L2.St} {H : Hp} {te : TE} {tr tas : TA} {QA : List V → Hp → Prop} {Q : VK} {x : V} {vs : List V} {sp : Sp} {D : Ends} {tw : TS} {g : TG} {t : TT} {tu tv : TS} {E : XK}
theorem ac_nil (k : QA [] H) : tNil σ H QA := k
theorem ac_var {i : Nat} (h : σ[i]? = some (some x)) (k : tr σ H fun xs H2 => QA (x :: xs) H2) : tCons (tVar i) tr σ H QA := ⟨x, h, k⟩
theorem ac_pu (h : Pu te σ H x) (k : tr σ H fun xs H2 => QA (x :: xs) H2) : tCons te tr σ H QA := h _ k
theorem ac_lst (h : PuA tas σ H vs) (hl : vs.length ≤ sizeLine) (k : ∀ p, H p = none → tr σ (upd H p (.lst vs)) fun xs H2 => QA (.ref p :: xs) H2) : tCons (tLst tas) tr σ H QA := h _ ⟨hl, k⟩
theorem ac_call (k : tas σ H fun vs H1 => sp (vs ++ []) H1 (fun x H2 => tr σ H2 fun xs H3 => QA (x :: xs) H3) E) : tCons (tCall sp [] E tas) tr σ H QA := k
theorem ac_tup {tas : TA} (k : tas σ H fun xs H1 => xs.length ≤ sizeLine ∧ ∀ p, H1 p = none → tr σ (upd H1 p (.tup xs)) fun ys H2 => QA (.ref p :: ys) H2) : tCons (tTup tas) tr σ H QA := k
theorem ad_tup (k : tas σ H fun xs H1 => xs.length ≤ sizeLine ∧ ∀ p, H1 p = none → Q (.ref p) (upd H1 p (.tup xs))) : tTup tas σ H Q := k
theorem ad_call (k : tas σ H fun vs H1 => sp (vs ++ []) H1 Q E) : tCall sp [] E tas σ H Q := k
theorem g_tup2 {a : Addr} {x y : V} {i j : Nat} {R : L2.St → Hp → Prop} (h : SqT K H a [x, y]) (k : R ((σ.set i (some x)).set j (some y)) H) : gTup K 2 (gCons (gName i) (gCons (gName j) gNil)) (.ref a) σ H R := ⟨a, _, rfl, h, rfl, x, [y], rfl, y, [], rfl, rfl, k⟩
theorem g_tup3 {a : Addr} {x y z : V} {i j l : Nat} {R : L2.St → Hp → Prop} (h : SqT K H a [x, y, z]) (k : R (((σ.set i (some x)).set j (some y)).set l (some z)) H) : gTup K 3 (gCons (gName i) (gCons (gName j) (gCons (gName l) gNil))) (.ref a) σ H R := ⟨a, _, rfl, h, rfl, x, [y, z], rfl, y, [z], rfl, z, [], rfl, rfl, k⟩
theorem sq_ifE {b : Bool} (h : PuT t σ H b) (ta tb : TE) {i : Nat} (h1 : b = true → ta σ H fun x H1 => tw D (σ.set i (some x)) H1) (h2 : b = false → tb σ H fun x H1 => tw D (σ.set i (some x)) H1) : tSeq (tAsg (tIf t ta tb) (gName i)) tw D σ H := h _ (by
  cases b with
  | true => exact h1 rfl
  | false => exact h2 rfl)
/-- comprehensions whose tests and items are pure, by what they walk -/
theorem lcp_rng1 {n : Int} {ta : TA} {j : Nat} {te : TE} {vs : List Nat} {f : Nat → V} (h : PuA ta σ H [.int n]) (h0 : -1000000 ≤ n) (h1 : n ≤ 1000000) (hw : ∀ v, wipe ((wipe σ vs).set j (some v)) vs = wipe σ vs)
    (he : ∀ (i : Nat) H', (i : Int) < n → Keep [] H H' → Pu te ((wipe σ vs).set j (some (.int ((0 : Int) + (i : Int))))) H' (f i)) (k : ∀ D H', Keep [] H H' → H D = none → H' D = some (.lst ((List.range n.toNat).map f)) → Q (.ref D) H') : tLc (iRng1 ta) (gName j) tYes te vs σ H Q :=
  h _ ⟨n, rfl, by omega, by omega, lc_pure1 (walk_range (lo := 0) (n := n.toNat)) (fun _ _ => trivial) (by omega) hw (fun i H' hi kp => he i H' (by omega) kp) k⟩
theorem lcp_rng2 {lo n : Int} {ta : TA} {j : Nat} {te : TE} {vs : List Nat} {f : Nat → V} (h : PuA ta σ H [.int lo, .int n]) (h0 : -1000000 ≤ lo ∧ lo ≤ 1000000) (h1 : -1000000 ≤ n ∧ n ≤ 1000000) (hz : n - lo ≤ 1000000) (hw : ∀ v, wipe ((wipe σ vs).set j (some v)) vs = wipe σ vs)
    (he : ∀ (i : Nat) H', lo + (i : Int) < n → Keep [] H H' → Pu te ((wipe σ vs).set j (some (.int (lo + (i : Int))))) H' (f i)) (k : ∀ D H', Keep [] H H' → H D = none → H' D = some (.lst ((List.range (n - lo).toNat).map f)) → Q (.ref D) H') : tLc (iRng2 ta) (gName j) tYes te vs σ H Q :=
  h _ ⟨lo, n, rfl, ⟨by omega, by omega, by omega, by omega⟩, lc_pure1 (walk_range (lo := lo) (n := (n - lo).toNat)) (fun _ _ => trivial) (by omega) hw (fun i H' hi kp => he i H' (by omega) kp) k⟩
theorem lcp_list {a : Addr} {xs : List V} {tl : TE} {j : Nat} {tt : TT} {te : TE} {vs : List Nat} {it : Nat → V} {b : Nat → Bool} {f : Nat → V} (h : Pu tl σ H (.ref a)) (hx : SqL K H a xs) (hn : xs.length ≤ 1000000) (hit : ∀ i x, xs[i]? = some x → it i = x) (hw : ∀ v, wipe ((wipe σ vs).set j (some v)) vs = wipe σ vs)
    (ht : ∀ i H', i < xs.length → Keep [] H H' → PuT tt ((wipe σ vs).set j (some (it i))) H' (b i)) (he : ∀ i H', i < xs.length → Keep [] H H' → b i = true → Pu te ((wipe σ vs).set j (some (it i))) H' (f i))
    (k : ∀ D H', Keep [] H H' → H D = none → H' D = some (.lst (((List.range xs.length).filter b).map f)) → Q (.ref D) H') : tLc (iList K tl) (gName j) tt te vs σ H Q :=
  h _ ⟨a, rfl, ⟨xs, hx⟩, lc_pure (walk_listF hit) (fun H' kp => kp.sql (by simp) hx) hn hw ht he k⟩
theorem lcp_tup {a : Addr} {xs : List V} {tl : TE} {j : Nat} {tt : TT} {te : TE} {vs : List Nat} {it : Nat → V} {b : Nat → Bool} {f : Nat → V} (h : Pu tl σ H (.ref a)) (hx : SqT K H a xs) (hn : xs.length ≤ 1000000) (hit : ∀ i x, xs[i]? = some x → it i = x) (hw : ∀ v, wipe ((wipe σ vs).set j (some v)) vs = wipe σ vs)
    (ht : ∀ i H', i < xs.length → Keep [] H H' → PuT tt ((wipe σ vs).set j (some (it i))) H' (b i)) (he : ∀ i H', i < xs.length → Keep [] H H' → b i = true → Pu te ((wipe σ vs).set j (some (it i))) H' (f i))
    (k : ∀ D H', Keep [] H H' → H D = none → H' D = some (.lst (((List.range xs.length).filter b).map f)) → Q (.ref D) H') : tLc (iTup K tl) (gName j) tt te vs σ H Q :=
  h _ ⟨a, rfl, ⟨xs, hx⟩, lc_pure (walk_tupF hit) (fun H' kp => kp.sqt (by simp) hx) hn hw ht he k⟩
theorem Src.ne {a : Addr} {N : Nat} {p : Addr} (h : Src H a N) (n : H p = none) : p ≠ a := fun z => by
  obtain ⟨g, s, m, e, _⟩ := h
  rw [z, e] at n
  cases n
end
section
variable {K : PySem.W.Frag}
theorem pure_names (vs : List V) (H : Hp) (Q : VK) (E : XK) (h : spNames K vs H Q E) : t_names K { nx := fun _ H' => Q .non H', rt := Q } (vs.map some ++ [none, none, none, none, none]) H := by
  obtain ⟨a, n, N, rfl, hs, hN, hn, q⟩ := h
  unfold t_names
  refine sq_do (ad_tup (ac_call (ac_var rfl (ac_lst (by walk_at "pu") (by decide) fun l nl => ac_nil ?_))))
  have nla := hs.ne nl
  have hs1 : Src (upd H l (.lst [.str "", .str "m", .str "mod", .str "zzzzzzzz", .str "a"])) a N := hs.keep (S := []) (.new nl) (by simp)
  refine ⟨a, l, _, N, rfl, hs1, by omega, .inl (.inl upd_same), nla, by simp, by decide, fun H1 i v k1 s1 ei => ?_⟩
  obtain ⟨stem, rfl, hst⟩ : ∃ z, v = .str z ∧ z ∈ stems := by
    have hm : v ∈ stems.map V.str := List.mem_of_getElem? ei
    obtain ⟨z, hz, rfl⟩ := List.mem_map.mp hm
    exact ⟨z, rfl, hz⟩
  have kk1 : Keep [a] H H1 := Keep.trans (.new nl) k1
  refine ac_call (ac_var rfl (ac_pu pu_c (ac_nil ⟨a, 26, N + 1, rfl, s1, by omega, by decide, by decide, fun H2 f k2 s2 f0 f1 => ?_⟩)))
  have kk2 := kk1.trans k2
  refine ⟨by show 2 ≤ sizeLine; decide, fun p np => ?_⟩
  have kk3 : Keep [a] H (upd H2 p (.tup [.str stem, .int f])) := kk2.trans (.new np)
  have s3 : Src (upd H2 p (.tup [.str stem, .int f])) a (N + 2) := s2.keep (S := []) (.new np) (by simp)
  refine g_tup2 (.inl (.inl upd_same)) ?_
  generalize upd H2 p (.tup [.str stem, .int f]) = H3 at kk3 s3 ⊢
  -- found
  have sl := (stem_ok hst).1
  refine sq_doN (lcp_rng1 (n := min (n : Int) 26) (f := fun i => .str (nameAt stem f i)) ?_ (by omega) (by omega) (fun _ => rfl) (fun i Hh hi kp => ?_) fun D H4 k4 nD eD => ?_)
  · have e : (if (26 : Int) < (n : Int) then (26 : Int) else (n : Int)) = min (n : Int) 26 := by omega
    rw [← e]
    walk_at "pu"
  · refine pu_op (pu_var rfl) (pu_op pu_c (pu_op (pu_op (pu_var rfl) (pu_op pu_c (pu_var rfl) (pur_i rfl (.inl ⟨by decide, by decide⟩))) (pur_i0 rfl)) pu_c (pur_i rfl (show (0 : Int) < 26 by decide))) (pur_ixS (c := 97 + ((f + 7 * (0 + (i : Int))) % 26).toNat) (by decide) ?_)) ?_
    · exact alpha_at _ (Int.emod_nonneg _ (by decide)) (Int.emod_lt_of_pos _ (by decide))
    · have e : nameAt stem f i = stem ++ ⟨#[97 + ((f + 7 * (0 + (i : Int))) % 26).toNat]⟩ := by
        unfold nameAt letter
        rw [Int.zero_add]
      rw [e]
      refine pur_str (sz ?_)
      have : (⟨#[97 + ((f + 7 * (0 + (i : Int))) % 26).toNat]⟩ : Str).length = 1 := rfl
      omega
  have kk4 : Keep [a] H H4 := kk3.trans (k4.of0)
  have s4 : Src H4 a (N + 2) := s3.keep k4 (by simp)
  have en : (min (n : Int) 26).toNat = min n 26 := by omega
  rw [en] at eD
  have fin : ∀ (m : Nat) (M : Addr) (H5 : Hp), Keep [] H4 H5 → H5 M = some (.lst ((List.range m).map fun i => .str (("x" : Str) ++ nameAt stem f i))) → m = n - 26 → tRet (tCB (rSortedS K) (tCons (tOp rCat (tVar 4) (tVar 5)) tNil)) { nx := fun _ H' => Q .non H', rt := Q } [some (.ref a), some (.int n), some (.str stem), some (.int f), some (.ref D), some (.ref M), none] H5 := by
    intro m M H5 k5 eM em
    have eD5 := k5 D _ (by simp) eD
    refine su_retE ?_
    refine al_cons (al_op ⟨_, rfl, _, rfl, D, M, _, _, rfl, rfl, eD5, eM, ?_, fun r nr => ?_⟩)
    · refine sz ?_
      simp
      omega
    refine ac_nil ⟨r, allNames stem f (min n 26) m, rfl, .inl (.inl ?_), ?_, fun ys p pm so np' => ?_⟩
    · rw [upd_same]
      unfold allNames
      simp [List.map_map, Function.comp_def]
    · unfold allNames
      simp
      omega
    · have nd := allNames_nodup (stem := stem) (f := f) (n := min n 26) (m := m) (by omega) (by omega)
      have np5 : H5 p = none := Keep.back (S := []) (.new nr) (by simp) np'
      have kk5 : Keep [a] H H5 := kk4.trans k5.of0
      have k6 : Keep [] H5 (upd (upd H5 r (.lst ((List.range (min n 26)).map (fun i => .str (nameAt stem f i)) ++ (List.range m).map fun i => .str (("x" : Str) ++ nameAt stem f i)))) p (.lst (ys.map V.str))) := .trans (.new nr) (.new np')
      refine q _ p ys (kk5.trans k6.of0) ((s4.keep k5 (by simp)).keep k6 (by simp)) (kk5.back ?_ np5) upd_same (asc_of_sorted so (pm.nodup_iff.mpr nd)) (fun y hy => ?_) ?_
      · have := (s4.keep k5 (by simp)).ne np5
        simpa using this
      · have hy' := pm.mem_iff.mp hy
        unfold allNames at hy'
        rcases List.mem_append.mp hy' with hy' | hy'
        · obtain ⟨i, _, rfl⟩ := List.mem_map.mp hy'
          exact (nameAt_ok hst i).1
        · obtain ⟨i, _, rfl⟩ := List.mem_map.mp hy'
          exact (nameAt_ok hst i).2
      · rw [pm.length_eq]
        unfold allNames
        simp
        omega
  -- more
  refine sq_ifE (b := decide ((n : Int) ≤ 52)) (by walk_at "pu") _ _ (fun _ => ?_) fun e => absurd (of_decide_eq_false e) (by omega)
  refine lcp_rng2 (lo := 26) (n := (n : Int)) (f := fun i => .str (("x" : Str) ++ nameAt stem f i)) (by walk_at "pu") (by omega) (by omega) (by omega) (fun _ => rfl) (fun i Hh hi kp => ?_) fun M H5 k5 nM eM => ?_
  · have hD : SqL K Hh D ((List.range (min n 26)).map fun i => .str (nameAt stem f i)) := .inl (.inl (kp D _ (by simp) eD))
    have hi2 : i < n - 26 := by omega
    have im : (26 + (i : Int)) % 26 = (i : Int) := by omega
    refine pu_op pu_c (pu_op (pu_var rfl) (pu_op (pu_var rfl) pu_c (pur_i rfl (show (0 : Int) < 26 by decide))) (pur_ixL (v := .str (nameAt stem f i)) hD ?_)) (pur_str (sz ?_))
    · show atI _ ((26 + (i : Int)) % 26) = _
      rw [im]
      refine atI_in ?_
      rw [List.getElem?_map, List.getElem?_range (by omega)]
      rfl
    · rw [nameAt_len]
      have h1 : (("x" : Str)).length = 1 := by decide +kernel
      omega
  · refine fin ((n : Int) - 26).toNat M H5 k5 eM (by omega)
end
end GL

set_option Elab.async false
set_option linter.all false
set_option maxRecDepth 100000
set_option maxHeartbeats 4000000
set_option exponentiation.threshold 100000
namespace GL
open PySem PySem.Spec PyProof.Rows L2
local macro_rules | `(tactic| walk_at "pu") => `(tactic| repeat' (first
  | ((with_reducible apply pu_var); rfl) | with_reducible exact pu_c | with_reducible exact pua_nil | ((with_reducible apply pur_i0); rfl) | with_reducible exact puu_neg | with_reducible exact puc_abs | with_reducible exact puc_intB
  | with_reducible exact puc_min | with_reducible exact puc_max | with_reducible exact puo_none
  | with_reducible apply pu_op | with_reducible apply pu_cb | with_reducible apply pua_cons | with_reducible refine put_test ?_ | with_reducible refine put_B ?_ | with_reducible refine put_not ?_ | with_reducible refine pu_notV ?_
  | with_reducible apply pu_un | with_reducible refine puo_some ?_ | ((with_reducible apply pur_i); rfl) | with_reducible exact pur_eq rfl | with_reducible exact pur_ne rfl | exact puc_lenL (by assumption) | exact puc_lenT (by assumption)
  | ((with_reducible apply pur_ixL); assumption) | ((with_reducible apply pur_ixT); assumption) | with_reducible apply pur_ixS | with_reducible apply pur_str))
local macro_rules | `(tactic| walk_at "side") => `(tactic| first
  | exact (show (0 : Int) < _ by decide) | exact Or.inl ⟨by decide, by decide⟩ | exact Or.inr ⟨by decide, by decide⟩ | exact Or.inl ⟨by omega, by omega⟩ | exact Or.inr ⟨by omega, by omega⟩
  | exact ⟨by decide, by decide, by decide⟩ | exact ⟨by decide, by decide⟩ | assumption | omega | exact ⟨by decide, by decide +kernel⟩)
/-- a module of a project -/
structure Mod where
  name : Str
  imps : List Str
  eff : Bool
def kindS (b : Bool) : Str := if b then "effect" else "pure"
def modD (m : Mod) : PyData := .tuple [.str m.name, .tuple (m.imps.map .str), .str (kindS m.eff)]
def projD (p : List Mod) : PyData := .tuple (p.map modD)
structure ProjOk (p : List Mod) : Prop where
  asc : Asc (p.map (·.name))
  nm : ∀ m ∈ p, NameOk m.name
  nd : ∀ m ∈ p, m.imps.Nodup
  own : ∀ m ∈ p, m.name ∉ m.imps
  inn : ∀ m ∈ p, ∀ i ∈ m.imps, i ∈ p.map (·.name)
/-- the value v is a tuple that stands for the module m -/
def MV (H : Hp) (v : V) (m : Mod) : Prop := ∃ t u, v = .ref t ∧ H t = some (.tup [.str m.name, .ref u, .str (kindS m.eff)]) ∧ H u = some (.tup (m.imps.map V.str))
theorem MV.tk {H H' : Hp} {v : V} {m : Mod} (h : MV H v m) (k : TKeep H H') : MV H' v m := by
  obtain ⟨t, u, e, h1, h2⟩ := h
  exact ⟨t, u, e, (k t).1 _ h1, (k u).1 _ h2⟩
theorem paired_tk {H H' : Hp} (k : TKeep H H') : ∀ {vs : List V} {ms : List Mod}, Paired (MV H) vs ms → Paired (MV H') vs ms
  | _, _, .nil => .nil
  | _, _, .cons a r => .cons (a.tk k) (paired_tk k r)
theorem paired_app {H : Hp} {v : V} {m : Mod} (h : MV H v m) : ∀ {vs : List V} {ms : List Mod}, Paired (MV H) vs ms → Paired (MV H) (vs ++ [v]) (ms ++ [m])
  | _, _, .nil => .cons h .nil
  | _, _, .cons a r => .cons a (paired_app h r)
theorem dp_strs {K : PySem.W.Frag} {H : Hp} : ∀ (zs : List Str), DpAll K H (zs.map V.str) (zs.map .str)
  | [] => .nil
  | z :: zs => .cons (.str z) (dp_strs zs)
theorem MV.dp {K : PySem.W.Frag} {H : Hp} {v : V} {m : Mod} (h : MV H v m) : Dp K H v (modD m) := by
  obtain ⟨t, u, rfl, h1, h2⟩ := h
  exact .tup (.inl (.inl h1)) (.cons (.str _) (.cons (.tup (.inl (.inl h2)) (dp_strs _)) (.cons (.str _) .nil)))
theorem paired_dp {K : PySem.W.Frag} {H : Hp} : ∀ {vs : List V} {ms : List Mod}, Paired (MV H) vs ms → DpAll K H vs (ms.map modD)
  | _, _, .nil => .nil
  | _, _, .cons a r => .cons a.dp (paired_dp r)
def strsOf : List V → List Str
  | [] => []
  | .str z :: r => z :: strsOf r
  | _ :: r => strsOf r
theorem strsOf_map : ∀ zs : List Str, strsOf (zs.map V.str) = zs
  | [] => rfl
  | z :: zs => by
    show z :: strsOf (zs.map V.str) = z :: zs
    rw [strsOf_map zs]
/-- the module that a value stands for -/
def modOf (H : Hp) : V → Mod
  | .ref t => (match H t with
    | some (.tup [.str n, .ref u, .str k]) => (match H u with
      | some (.tup xs) => ⟨n, strsOf xs, decide (k = "effect")⟩
      | _ => ⟨n, [], true⟩)
    | _ => ⟨"", [], true⟩)
  | _ => ⟨"", [], true⟩
theorem kind_dec (b : Bool) : decide (kindS b = ("effect" : Str)) = b := by cases b <;> decide +kernel
theorem MV.of {H : Hp} {v : V} {m : Mod} (h : MV H v m) : modOf H v = m := by
  obtain ⟨t, u, rfl, h1, h2⟩ := h
  show (match H t with
    | some (.tup [.str n, .ref u, .str k]) => (match H u with
      | some (.tup xs) => (⟨n, strsOf xs, decide (k = "effect")⟩ : Mod)
      | _ => ⟨n, [], true⟩)
    | _ => ⟨"", [], true⟩) = m
  rw [h1]
  show (match H u with
      | some (.tup xs) => (⟨m.name, strsOf xs, decide (kindS m.eff = "effect")⟩ : Mod)
      | _ => ⟨m.name, [], true⟩) = m
  rw [h2]
  show (⟨m.name, strsOf (m.imps.map V.str), decide (kindS m.eff = "effect")⟩ : Mod) = m
  rw [strsOf_map, kind_dec]
theorem paired_of {H : Hp} : ∀ {vs : List V} {ms : List Mod}, Paired (MV H) vs ms → vs.map (modOf H) = ms ∧ ∀ v ∈ vs, MV H v (modOf H v)
  | _, _, .nil => ⟨rfl, fun _ h => nomatch h⟩
  | v :: vs, m :: ms, .cons a r => by
    obtain ⟨h1, h2⟩ := paired_of r
    refine ⟨by rw [List.map_cons, a.of, h1], fun x hx => ?_⟩
    rcases List.mem_cons.mp hx with rfl | hx
    · rw [a.of]
      exact a
    · exact h2 x hx
theorem paired_mk {H : Hp} : ∀ {vs : List V}, (∀ v ∈ vs, MV H v (modOf H v)) → Paired (MV H) vs (vs.map (modOf H))
  | [], _ => .nil
  | v :: vs, h => .cons (h v List.mem_cons_self) (paired_mk fun x hx => h x (List.mem_cons_of_mem _ hx))
theorem range_pick {α β : Type} (l : List α) (d : α) (p : α → Bool) (g : α → β) : ((List.range l.length).filter (fun i => p (l[i]?.getD d))).map (fun i => g (l[i]?.getD d)) = (l.filter p).map g := by
  have e : (List.range l.length).map (fun i => l[i]?.getD d) = l := by
    apply List.ext_getElem?
    intro i
    rw [List.getElem?_map]
    by_cases hi : i < l.length
    · rw [List.getElem?_range hi]
      simp [List.getElem?_eq_getElem hi]
    · rw [List.getElem?_eq_none (by simpa using hi), List.getElem?_eq_none (by simpa using hi)]
      rfl
  have h2 : (l.filter p) = ((List.range l.length).filter (fun i => p (l[i]?.getD d))).map (fun i => l[i]?.getD d) := by
    conv => lhs; rw [← e]
    rw [List.filter_map]
    rfl
  rw [h2, List.map_map]
  rfl
theorem cut_take {xs : List V} (r : Nat) : cutV xs none (some (r : Int)) = xs.take r := by
  unfold cutV
  rw [HT.sIx_none, HT.sIx_nat]
  simp only [List.drop_zero, Nat.sub_zero]
  by_cases h : r ≤ xs.length
  · rw [Nat.min_eq_left h]
  · rw [Nat.min_eq_right (by omega), List.take_of_length_le (Nat.le_refl _), List.take_of_length_le (by omega)]
def spProject (K : PySem.W.Frag) : Sp := fun vs H Q _ => ∃ (a : Addr) (mo wi N : Nat), vs = [.ref a, .int mo, .int wi] ∧ Src H a N ∧ N + 3000 ≤ 900000 ∧ 1 ≤ mo ∧ mo ≤ 52 ∧ wi ≤ 19 ∧
  ∀ H' v p, Keep [a] H H' → Src H' a (N + 3000) → Dp K H' v (projD p) → ProjOk p → 1 ≤ p.length → p.length ≤ mo → (∀ m ∈ p, m.imps.length ≤ max 3 wi) → Q v H'
def t_project (K : PySem.W.Frag) : TS :=
  (tSeq (tPar 3 4 (tCons (tCall (spMixed K) [] E0 (tCons (tVar 0) (tCons (tCall (spNames K) [] E0 (tCons (tVar 0) (tCons (tOp rAdd (tC (.int 1)) (tCall spDraw [] E0 (tCons (tVar 0) (tCons (tVar 1) tNil)))) tNil))) tNil))) (tCons (tLst tNil) tNil)))
    (tSeq (tAsg (tOp rEq (tCall spDraw [] E0 (tCons (tVar 0) (tCons (tC (.int 3)) tNil))) (tC (.int 0))) (gName 5))
    (tSeq (tFor (iEnum K (tCons (tVar 3) tNil)) (gTup K 2 (gCons (gName 6) (gCons (gName 7) gNil))) (tSeq (tAsg (tIf (tB (tVar 5)) (tLc (iList K (tVar 3)) (gName 11) (tTest (tOp rNe (tVar 11) (tVar 7))) (tVar 11) [11]) (tSl (rSlL K) (tVar 3) tNoPart (tPart (tVar 6)))) (gName 8))
    (tSeq (tAsg (tIf (tTest (tOp rLt (tVar 6) (tOp rSub (tCB (rLenQ K) (tCons (tVar 3) tNil)) (tC (.int 1))))) (tC (.int 4)) (tOp rAdd (tVar 2) (tC (.int 1)))) (gName 9))
    (tSeq (tAsg (tSl (rSlL K) (tCall (spMixed K) [] E0 (tCons (tVar 0) (tCons (tVar 8) tNil))) tNoPart (tPart (tCall spDraw [] E0 (tCons (tVar 0) (tCons (tCB rMin2 (tCons (tVar 9) (tCons (tOp rAdd (tCB (rLenQ K) (tCons (tVar 8) tNil)) (tC (.int 1))) tNil))) tNil))))) (gName 10))
    (tDrop (tBM K "list" rAppend (tVar 4) (tCons (tTup (tCons (tVar 7) (tCons (tCB (rTupQ K) (tCons (tVar 10) tNil)) (tCons (tCall (spChoice K) [] E0 (tCons (tVar 0) (tCons (tLst (tCons (tC (.str "effect")) (tCons (tC (.str "effect")) (tCons (tC (.str "pure")) tNil)))) tNil))) tNil)))) tNil)))))))
    (tRet (tCB (rTupQ K) (tCons (tCB (rSortM K) (tCons (tVar 4) tNil)) tNil))))))

end GL

set_option Elab.async false
set_option linter.all false
set_option maxRecDepth 100000
set_option maxHeartbeats 4000000
set_option exponentiation.threshold 100000
namespace GL
open PySem PySem.Spec PyProof.Rows L2
local macro_rules | `(tactic| walk_at "pu") => `(tactic| repeat' (first
  | ((with_reducible apply pu_var); rfl) | with_reducible exact pu_c | with_reducible exact pua_nil | ((with_reducible apply pur_i0); rfl) | with_reducible exact puu_neg | with_reducible exact puc_abs | with_reducible exact puc_intB
  | with_reducible exact puc_min | with_reducible exact puc_max | with_reducible exact puo_none
  | with_reducible apply pu_op | with_reducible apply pu_cb | with_reducible apply pua_cons | with_reducible refine put_test ?_ | with_reducible refine put_B ?_ | with_reducible refine put_not ?_ | with_reducible refine pu_notV ?_
  | with_reducible apply pu_un | with_reducible refine puo_some ?_ | ((with_reducible apply pur_i); rfl) | with_reducible exact pur_eq rfl | with_reducible exact pur_ne rfl | exact puc_lenL (by assumption) | exact puc_lenT (by assumption)
  | ((with_reducible apply pur_ixL); assumption) | ((with_reducible apply pur_ixT); assumption) | with_reducible apply pur_ixS | with_reducible apply pur_str))
local macro_rules | `(tactic| walk_at "side") => `(tactic| first
  | exact (show (0 : Int) < _ by decide) | exact Or.inl ⟨by decide, by decide⟩ | exact Or.inr ⟨by decide, by decide⟩ | exact Or.inl ⟨by omega, by omega⟩ | exact Or.inr ⟨by omega, by omega⟩
  | exact ⟨by decide, by decide, by decide⟩ | exact ⟨by decide, by decide⟩ | assumption | omega | exact ⟨by decide, by decide +kernel⟩)
theorem sq_par {σ : L2.St} {H : Hp} {D : Ends} {tw : TS} {ta : TA} {i j : Nat} (h : ta σ H fun vs H1 => ∃ v w, vs = [v, w] ∧ tw D ((σ.set i (some v)).set j (some w)) H1) : tSeq (tPar i j ta) tw D σ H := h
theorem strs_perm {xs : List V} {ns : List Str} (pm : xs.Perm (ns.map V.str)) : ∃ ms : List Str, xs = ms.map V.str ∧ ms.Perm ns := by
  refine ⟨strsOf xs, ?_, ?_⟩
  · have all : ∀ v ∈ xs, ∃ z, v = V.str z := fun v hv => by
      obtain ⟨z, _, e⟩ := List.mem_map.mp (pm.mem_iff.mp hv)
      exact ⟨z, e.symm⟩
    clear pm
    induction xs with
    | nil => rfl
    | cons x r ih =>
      obtain ⟨z, rfl⟩ := all x List.mem_cons_self
      show _ = V.str z :: (strsOf r).map V.str
      rw [← ih fun v hv => all v (List.mem_cons_of_mem _ hv)]
  · have := (show (xs.filterMap fun v => match v with | .str z => some z | _ => none).Perm ((ns.map V.str).filterMap fun v => match v with | .str z => some z | _ => none) from pm.filterMap _)
    have f1 : ∀ l : List V, (l.filterMap fun v => match v with | .str z => some z | _ => none) = strsOf l := by
      intro l
      induction l with
      | nil => rfl
      | cons x r ih => cases x <;> simp [strsOf, ih]
    rw [f1, f1, strsOf_map] at this
    exact this
theorem sq_enum {K : PySem.W.Frag} {σ : L2.St} {H : Hp} {D : Ends} {tw tb : TS} {ta : TA} {i1 i2 : Nat} {a : Addr} {xs : List V} (h : PuA ta σ H [.ref a]) (hx : SqL K H a xs) (Pv : Nat → L2.St → Hp → Prop) (h0 : Pv 0 σ H) (hG : ∀ i σ' H', i ≤ xs.length → Pv i σ' H' → SqL K H' a xs)
    (hs : ∀ (i : Nat) x σ' H' T, xs[i]? = some x → Pv i σ' H' → H' T = none → tb { D with nx := Pv (i + 1), ct := Pv (i + 1), bk := tw D } ((σ'.set i1 (some (.int (i : Int)))).set i2 (some x)) (upd H' T (.tup [.int (i : Int), x])))
    (hd : ∀ σ' H', Pv xs.length σ' H' → tw D σ' H') : tSeq (tFor (iEnum K ta) (gTup K 2 (gCons (gName i1) (gCons (gName i2) gNil))) tb) tw D σ H := by
  refine h _ ⟨a, xs, rfl, hx, ?_⟩
  refine for_it (walk_enum (xs := xs)) Pv h0 hG ?_ hd
  rintro i x σ' H' H'' hi p ⟨T, u, y, rfl, nT, rfl, eu, ey⟩
  cases eu
  exact g_tup2 (.inl (.inl upd_same)) (hs i y σ' H' T ey p nT)
theorem ad_part {σ : L2.St} {H : Hp} {te : TE} {QO : Option Int → Hp → Prop} (h : te σ H fun x H1 => ∃ i, x = .int i ∧ QO (some i) H1) : tPart te σ H QO := h
theorem ad_nop {σ : L2.St} {H : Hp} {QO : Option Int → Hp → Prop} (h : QO none H) : tNoPart σ H QO := h
theorem ad_drop {σ : L2.St} {H : Hp} {D : Ends} {te : TE} (h : te σ H fun _ H1 => D.nx σ H1) : tDrop te D σ H := h
theorem ad_sl {σ : L2.St} {H : Hp} {Q : VK} {r : V → Option Int → Option Int → Hp → VK → Prop} {te : TE} {tl th : TO} (h : te σ H fun x H1 => tl σ H1 fun l H2 => th σ H2 fun u H3 => r x l u H3 Q) : tSl r te tl th σ H Q := h
/-- what is known of a module that was drawn -/
structure ModIn (ms : List Str) (wi : Nat) (m : Mod) : Prop where
  nd : m.imps.Nodup
  own : m.name ∉ m.imps
  inn : ∀ i ∈ m.imps, i ∈ ms
  len : m.imps.length ≤ max 3 wi
theorem kinds_at {i : Nat} {v : V} (h : ([V.str "effect", V.str "effect", V.str "pure"] : List V)[i]? = some v) : ∃ b, v = .str (kindS b) := by
  match i, h with
  | 0, h => exact ⟨true, (Option.some.inj h).symm⟩
  | 1, h => exact ⟨true, (Option.some.inj h).symm⟩
  | 2, h => exact ⟨false, (Option.some.inj h).symm⟩
theorem sorted_proj {H : Hp} {rs ys : List V} {fs : List Mod} {ms : List Str} {wi : Nat} (pr : Paired (MV H) rs fs) (en : fs.map (·.name) = ms) (ok : ∀ m ∈ fs, ModIn ms wi m) (hnm : ∀ y ∈ ms, NameOk y)
    (pm : ys.Perm rs) (pw : ys.Pairwise fun x y => sLt (modOf H x).name (modOf H y).name = true) :
    Paired (MV H) ys (ys.map (modOf H)) ∧ ProjOk (ys.map (modOf H)) ∧ (ys.map (modOf H)).length = fs.length ∧ ∀ m ∈ ys.map (modOf H), m.imps.length ≤ max 3 wi := by
  obtain ⟨e1, h1⟩ := paired_of pr
  have pm2 : (ys.map (modOf H)).Perm fs := e1 ▸ pm.map (modOf H)
  have pmn : ((ys.map (modOf H)).map (·.name)).Perm ms := en ▸ pm2.map (·.name)
  refine ⟨paired_mk fun v hv => h1 v (pm.mem_iff.mp hv), ⟨?_, fun m hm => hnm _ (pmn.mem_iff.mp (List.mem_map.mpr ⟨m, hm, rfl⟩)), fun m hm => (ok m (pm2.mem_iff.mp hm)).nd, fun m hm => (ok m (pm2.mem_iff.mp hm)).own, fun m hm i hi => pmn.mem_iff.mpr ((ok m (pm2.mem_iff.mp hm)).inn i hi)⟩, pm2.length_eq, fun m hm => (ok m (pm2.mem_iff.mp hm)).len⟩
  unfold Asc
  rw [List.map_map]
  exact List.pairwise_map.mpr pw
set_option maxHeartbeats 8000000 in
theorem pure_project {K : PySem.W.Frag} (vs : List V) (H : Hp) (Q : VK) (E : XK) (h : spProject K vs H Q E) : t_project K { nx := fun _ H' => Q .non H', rt := Q } (vs.map some ++ [none, none, none, none, none, none, none, none, none]) H := by
  obtain ⟨a, mo, wi, N, rfl, hs, hN, hm1, hm2, hw, q⟩ := h
  unfold t_project
  refine sq_par (ac_call (ac_var rfl (ac_call (ac_var rfl (al_cons (al_opP pu_c (ad_call (ac_var rfl (ac_var rfl (ac_nil ⟨a, mo, N, rfl, hs, by omega, by omega, by omega, fun H1 r k1 s1 r0 r1 => ?_⟩))))))))))
  obtain ⟨r, rfl⟩ := Int.eq_ofNat_of_zero_le r0
  refine ⟨1, r, rfl, rfl, ac_nil ⟨a, 1 + r, N + 1, rfl, s1, by omega, by omega, fun H2 pn ns k2 s2 _ en asc nok nl => ?_⟩⟩
  have kk2 := k1.trans k2
  refine ac_nil ⟨a, pn, ns.map V.str, N + 1 + 2, rfl, s2, by simp; omega, .inl (.inl (.inl en)), ?_, by simp; omega, fun H3 M xs k3 s3 _ eM pm => ?_⟩
  · intro z
    obtain ⟨_, _, _, e, _⟩ := s2
    rw [z, e] at en
    have := congrArg List.length (HO.lst.inj (Option.some.inj en))
    cases ns with
    | nil => simp at this
    | cons x r =>
      have e0 := (List.cons.inj (HO.lst.inj (Option.some.inj en))).1
      cases e0
  have kk3 := kk2.trans k3
  obtain ⟨ms, rfl, pms⟩ := strs_perm pm
  have ml : ms.length = 1 + r := pms.length_eq.trans nl
  have mnd : ms.Nodup := pms.nodup_iff.mpr (asc.imp fun {x y} z e => by
    subst e
    rw [(sLt_swo (fun z : Str => z)).refl x] at z
    cases z)
  have mok : ∀ y ∈ ms, NameOk y := fun y hy => nok y (pms.mem_iff.mp hy)
  refine ac_lst pua_nil (by decide) fun F nF => ac_nil ⟨_, _, rfl, ?_⟩
  have nFa := s3.ne nF
  have nFM : F ≠ M := fun z => by rw [z, eM] at nF; cases nF
  have s4 : Src (upd H3 F (.lst [])) a (N + 3 + ms.length) := by
    refine (s3.keep (S := []) (.new nF) (by simp)).mono ?_
    rw [List.length_map, pms.length_eq]
    omega
  have kk4 : Keep [a] H (upd H3 F (.lst [])) := kk3.trans (.new nF)
  have eM4 : (upd H3 F (.lst [])) M = some (.lst (ms.map V.str)) := by rw [upd_ne nFM.symm]; exact eM
  have eF4 : (upd H3 F (.lst [])) F = some (.lst []) := upd_same
  have hF0 : H F = none := kk3.back (by simpa using nFa) nF
  generalize upd H3 F (.lst []) = H4 at s4 kk4 eM4 eF4 ⊢
  -- has_cycles
  refine sq_doN (al_op (ad_call (ac_var rfl (ac_pu pu_c (ac_nil ⟨a, 3, _, rfl, s4, by omega, by decide, by decide, fun H5 c k5 s5 c0 c1 => ?_⟩)))))
  refine (pu_c : Pu (tC (.int 0)) _ _ _) _ ⟨rfl, ?_⟩
  have nMa : M ≠ a := fun z => by
    obtain ⟨_, _, _, e, _⟩ := s4
    rw [z, e] at eM4
    cases ms with
    | nil => simp at ml; omega
    | cons x r => cases (List.cons.inj (HO.lst.inj (Option.some.inj eM4))).1
  have kk5 := kk4.trans k5
  have eM5 := k5 M _ (by simpa using nMa) eM4
  have eF5 := k5 F _ (by simpa using nFa) eF4
  generalize hcyc : decide (V.int c = V.int 0) = cy
  -- the loop
  refine sq_enum (a := M) (xs := ms.map V.str) (by walk_at "pu") (.inl (.inl eM5)) (fun i σ' H' => ∃ y6 y7 y8 y9 y10 y11 rs fs, σ' = [some (.ref a), some (.int mo), some (.int wi), some (.ref M), some (.ref F), some (.bl cy), y6, y7, y8, y9, y10, y11] ∧ Keep [a] H H' ∧ Src H' a (N + 4 + ms.length + i * 54) ∧
    H' M = some (.lst (ms.map V.str)) ∧ H' F = some (.lst rs) ∧ Paired (MV H') rs fs ∧ fs.map (·.name) = ms.take i ∧ ∀ m ∈ fs, ModIn ms wi m) ⟨none, none, none, none, none, none, [], [], by rw [← hcyc]; rfl, kk5, s5.mono (by omega), eM5, eF5, .nil, rfl, fun _ z => nomatch z⟩ ?_ ?_ ?_
  · rintro i σ' H' _ ⟨_, _, _, _, _, _, _, _, _, _, _, e, _⟩
    exact .inl (.inl e)
  · rintro i x σ' H' T ex ⟨y6, y7, y8, y9, y10, y11, rs, fs, rfl, kk, ss, eM', eF', pr, en', ok'⟩ nT
    obtain ⟨hi, ex2⟩ := List.getElem?_eq_some_iff.mp ex
    rw [List.length_map] at hi
    obtain rfl : x = V.str ms[i] := by rw [← ex2]; simp
    have k6 : Keep [] H' (upd H' T (.tup [.int (i : Int), .str ms[i]])) := .new nT
    have ss6 := ss.keep k6 (by simp)
    have eM6 := k6 M _ (by simp) eM'
    have eF6 := k6 F _ (by simp) eF'
    have pr6 := paired_tk k6.tk pr
    have kk6 : Keep [a] H _ := kk.trans k6.of0
    generalize upd H' T (.tup [.int (i : Int), .str ms[i]]) = H6 at k6 ss6 eM6 eF6 pr6 kk6 ⊢
    have rlen : rs.length = i := by
      have h1 : rs.length = fs.length := pr.length
      have h2 := congrArg List.length en'
      rw [List.length_map, List.length_take] at h2
      omega
    have rest : ∀ (rt0 : VK) (ct0 bk0 : L2.St → Hp → Prop) (os : List Str) (O : Addr) (H7 : Hp), Keep [] H6 H7 → H7 O = some (.lst (os.map V.str)) → O ≠ a → os.Nodup → ms[i] ∉ os → (∀ o ∈ os, o ∈ ms) → os.length ≤ 52 → tSeq
        (tAsg (tIf (tTest (tOp rLt (tVar 6) (tOp rSub (tCB (rLenQ K) (tCons (tVar 3) tNil)) (tC (.int 1))))) (tC (.int 4)) (tOp rAdd (tVar 2) (tC (.int 1)))) (gName 9))
        (tSeq (tAsg (tSl (rSlL K) (tCall (spMixed K) [] E0 (tCons (tVar 0) (tCons (tVar 8) tNil))) tNoPart (tPart (tCall spDraw [] E0 (tCons (tVar 0) (tCons (tCB rMin2 (tCons (tVar 9) (tCons (tOp rAdd (tCB (rLenQ K) (tCons (tVar 8) tNil)) (tC (.int 1))) tNil))) tNil))))) (gName 10))
        (tDrop (tBM K "list" rAppend (tVar 4) (tCons (tTup (tCons (tVar 7) (tCons (tCB (rTupQ K) (tCons (tVar 10) tNil)) (tCons (tCall (spChoice K) [] E0 (tCons (tVar 0) (tCons (tLst (tCons (tC (.str "effect")) (tCons (tC (.str "effect")) (tCons (tC (.str "pure")) tNil)))) tNil))) tNil)))) tNil))))
        { nx := fun σ' H' => ∃ y6 y7 y8 y9 y10 y11 rs fs, σ' = [some (.ref a), some (.int mo), some (.int wi), some (.ref M), some (.ref F), some (.bl cy), y6, y7, y8, y9, y10, y11] ∧ Keep [a] H H' ∧ Src H' a (N + 4 + ms.length + (i + 1) * 54) ∧
          H' M = some (.lst (ms.map V.str)) ∧ H' F = some (.lst rs) ∧ Paired (MV H') rs fs ∧ fs.map (·.name) = ms.take (i + 1) ∧ ∀ m ∈ fs, ModIn ms wi m,
          rt := rt0, ct := ct0, bk := bk0 } [some (.ref a), some (.int mo), some (.int wi), some (.ref M), some (.ref F), some (.bl cy), some (.int (i : Int)), some (.str ms[i]), some (.ref O), y9, y10, y11] H7 := by
      intro rt0 ct0 bk0 os O H7 k7 eO nOa ond onm oin ol
      have eM7 := k7 M _ (by simp) eM6
      have eF7 := k7 F _ (by simp) eF6
      have ss7 := ss6.keep k7 (by simp)
      have sM7 : SqL K H7 M (ms.map V.str) := .inl (.inl eM7)
      have sO7 : SqL K H7 O (os.map V.str) := .inl (.inl eO)
      obtain ⟨L, hL, L0, L1⟩ : ∃ L : Int, L = (if (i : Int) < (ms.length : Int) - 1 then 4 else (wi : Int) + 1) ∧ 1 ≤ L ∧ L ≤ max 3 (wi : Int) + 1 := ⟨_, rfl, by split <;> omega, by split <;> omega⟩
      refine sq_asg (v := .int L) (pu_if (b := decide ((i : Int) < (ms.length : Int) - 1)) ?_ (fun e => ?_) fun e => ?_) ?_
      · have e : ((ms.map V.str).length : Int) = (ms.length : Int) := by rw [List.length_map]
        rw [← e]
        walk_at "pu"
      · rw [hL, if_pos (of_decide_eq_true e)]
        exact pu_c
      · rw [hL, if_neg (of_decide_eq_false e)]
        walk_at "pu"
      have bound : (i + 1) * 54 = i * 54 + 54 := by omega
      have im : i * 54 ≤ 52 * 54 := Nat.mul_le_mul_right 54 (by omega)
      refine sq_doN (ad_sl (ad_call (ac_var rfl (ac_var rfl (ac_nil ⟨a, O, os.map V.str, _, rfl, ss7, by rw [List.length_map]; omega, .inl sO7, nOa, by rw [List.length_map]; omega, fun H8 Z zs k8 s8 _ eZ pz => ?_⟩)))))
      obtain ⟨zs, rfl, pzs⟩ := strs_perm pz
      rw [List.length_map] at s8
      have sO8 : SqL K H8 O (os.map V.str) := k8.sql (by simpa using nOa) sO7
      have nZa : Z ≠ a := fun z => by
        obtain ⟨_, _, _, e, _⟩ := s8
        rw [z, e] at eZ
        cases zs with
        | nil => cases eZ
        | cons x r => cases (List.cons.inj (HO.lst.inj (Option.some.inj eZ))).1
      refine ad_nop (ad_part (ad_call (ac_var rfl (ac_pu (x := .int (if (os.length : Int) + 1 < L then (os.length : Int) + 1 else L)) ?_ (ac_nil ⟨a, _, _, rfl, s8, by omega, ?_, ?_, fun H9 r k9 s9 r0 r1 => ?_⟩)))))
      · have e : ((os.map V.str).length : Int) = (os.length : Int) := by rw [List.length_map]
        rw [← e]
        walk_at "pu"
      · split <;> omega
      · split <;> omega
      obtain ⟨r, rfl⟩ := Int.eq_ofNat_of_zero_le r0
      have rL : (r : Int) < L := by
        split at r1 <;> omega
      refine ⟨_, rfl, Z, _, rfl, .inl (.inl (k9 Z _ (by simpa using nZa) eZ)), fun S nS => ?_⟩
      rw [cut_take, ← List.map_take]
      have kS : Keep [] H9 (upd H9 S (.lst ((zs.take r).map V.str))) := .new nS
      have eS : (upd H9 S (.lst ((zs.take r).map V.str))) S = some (.lst ((zs.take r).map V.str)) := upd_same
      have sS := s9.keep kS (by simp)
      have kkS : Keep [a] H6 _ := ((Keep.of0 k7).trans (k8.trans k9)).trans kS.of0
      generalize upd H9 S (.lst ((zs.take r).map V.str)) = H10 at kS eS sS kkS ⊢
      have eM10 := kkS M _ (by simpa using nMa) eM6
      have eF10 := kkS F _ (by simpa using nFa) eF6
      have pr10 := paired_tk (ss6.tk kkS) pr6
      refine ad_drop (al_bm (x := .ref F) (pu_var rfl) (.inl ⟨rfl, _, .inl (.inl eF10)⟩) (ac_tup (ac_var rfl (al_cons (al_tupL (xs := (zs.take r).map V.str) (by walk_at "pu") (.inl (.inl eS)) fun u nu => ?_)))))
      have ku : Keep [] H10 (upd H10 u (.tup ((zs.take r).map V.str))) := .new nu
      have eu : (upd H10 u (.tup ((zs.take r).map V.str))) u = some (.tup ((zs.take r).map V.str)) := upd_same
      have su := sS.keep ku (by simp)
      have kku := kkS.trans ku.of0
      generalize upd H10 u (.tup ((zs.take r).map V.str)) = H11 at ku eu su kku ⊢
      refine ac_call (ac_var rfl (ac_lst (by walk_at "pu") (by decide) fun l nl' => ac_nil ?_))
      have kl : Keep [] H11 (upd H11 l (.lst [.str "effect", .str "effect", .str "pure"])) := .new nl'
      refine ⟨a, l, _, _, rfl, su.keep kl (by simp), by omega, .inl (.inl upd_same), su.ne nl', by simp, by decide, fun H12 j v k12 s12 ej => ?_⟩
      obtain ⟨kb, rfl⟩ := kinds_at ej
      have kk12 : Keep [a] H6 H12 := (kku.trans kl.of0).trans k12
      have nua : u ≠ a := sS.ne nu
      have eu12 : H12 u = some (.tup ((zs.take r).map V.str)) := k12 u _ (by simpa using nua) (kl u _ (by simp) eu)
      refine ac_nil ⟨by show 3 ≤ sizeLine; decide, fun t nt => ac_nil ?_⟩
      have kt : Keep [] H12 (upd H12 t (.tup [.str ms[i], .ref u, .str (kindS kb)])) := .new nt
      have kk13 := kk12.trans kt.of0
      have mv : MV (upd H12 t (.tup [.str ms[i], .ref u, .str (kindS kb)])) (.ref t) ⟨ms[i], zs.take r, kb⟩ := ⟨t, u, rfl, upd_same, kt u _ (by simp) eu12⟩
      have s13 := s12.keep kt (by simp)
      generalize upd H12 t (.tup [.str ms[i], .ref u, .str (kindS kb)]) = H13 at kt kk13 mv s13 ⊢
      have eF13 := kk13 F _ (by simpa using nFa) eF6
      have eM13 := kk13 M _ (by simpa using nMa) eM6
      refine ⟨F, rs, .ref t, rfl, rfl, eF13, szl (by omega), ?_⟩
      have tkF : TKeep H13 (upd H13 F (.lst (rs ++ [.ref t]))) := Keep.tk1 (a := F) (.put .refl (.inl (by simp))) eF13
      refine ⟨_, _, _, _, _, _, rs ++ [.ref t], fs ++ [⟨ms[i], zs.take r, kb⟩], rfl, (kk6.trans kk13).put (.inr hF0), ?_, ?_, upd_same, paired_tk tkF (paired_app mv (paired_tk (ss6.tk kk13) pr6)), ?_, ?_⟩
      · refine (s13.keep (S := [F]) (.put .refl (.inl (by simp))) (by simpa using Ne.symm nFa)).mono ?_
        omega
      · rw [upd_ne nFM.symm]
        exact eM13
      · rw [List.map_append, en', List.take_add_one, List.getElem?_eq_getElem hi]
        rfl
      · intro m hm
        rcases List.mem_append.mp hm with hm | hm
        · exact ok' m hm
        · have : m = ⟨ms[i], zs.take r, kb⟩ := by simpa using hm
          subst this
          have sub : ∀ o ∈ zs.take r, o ∈ os := fun o ho => pzs.mem_iff.mp (List.mem_of_mem_take ho)
          refine ⟨?_, fun z => onm (sub _ z), fun o ho => oin o (sub o ho), ?_⟩
          · exact (pzs.nodup_iff.mpr ond).sublist (List.take_sublist _ _)
          · show (zs.take r).length ≤ max 3 wi
            rw [List.length_take]
            omega
    have sM6 : SqL K H6 M (ms.map V.str) := .inl (.inl eM6)
    refine sq_ifE (b := cy) (put_B (pu_var rfl)) _ _ (fun _ => ?_) fun _ => ?_
    · refine lcp_list (a := M) (xs := ms.map V.str) (it := fun j => .str (ms[j]?.getD "")) (b := fun j => !decide (V.str (ms[j]?.getD "") = V.str ms[i])) (f := fun j => .str (ms[j]?.getD "")) (pu_var rfl) sM6 (by rw [List.length_map]; omega) (fun j x e => ?_) (fun _ => rfl)
        (fun j H7 _ _ => put_test (pu_op (pu_var rfl) (pu_var rfl) (pur_ne rfl))) (fun j H7 _ _ _ => pu_var rfl) fun O H7 k7 nO eO => ?_
      · rw [List.getElem?_map] at e
        cases e2 : ms[j]? with
        | none => rw [e2] at e; cases e
        | some z => rw [e2] at e; cases e; rfl
      · rw [List.length_map, range_pick ms "" (fun z => !decide (V.str z = V.str ms[i])) V.str] at eO
        refine rest _ _ _ _ O H7 k7 eO (ss6.ne nO) (mnd.filter _) ?_ (fun o ho => (List.mem_filter.mp ho).1) ?_
        · intro z
          have := (List.mem_filter.mp z).2
          simp at this
        · exact Nat.le_trans (List.length_filter_le _ _) (by omega)
    · refine ad_sl ((pu_var rfl : Pu (tVar 3) _ _ _) _ (puo_none _ (puo_some (pu_var rfl) _ ⟨M, _, rfl, sM6, fun O nO => ?_⟩)))
      rw [cut_take, ← List.map_take]
      refine rest _ _ _ _ O _ (.new nO) upd_same (ss6.ne nO) (mnd.sublist (List.take_sublist _ _)) ?_ (fun o ho => List.mem_of_mem_take ho) ?_
      · intro z
        obtain ⟨j, hj, e⟩ := List.mem_take_iff_getElem.mp z
        have := (List.getElem_inj mnd).mp e
        omega
      · rw [List.length_take]
        omega
  · rintro σ' H' ⟨y6, y7, y8, y9, y10, y11, rs, fs, rfl, kk, ss, eM', eF', pr, en', ok'⟩
    rw [List.length_map, List.take_length] at en'
    rw [List.length_map] at ss
    refine su_retE (al_cons ?_)
    refine ac_var rfl (ac_nil ⟨F, rs, fun v => (modOf H' v).name, rfl, .inl (.inl eF'), fun v hv => ?_, ?_, fun ys p pmy pwy np => ?_⟩)
    · obtain ⟨t, u, e, h1, h2⟩ := (paired_of pr).2 v hv
      exact ⟨t, _, e, .inl (.inl h1)⟩
    · have e2 : rs.map (fun v => (modOf H' v).name) = ms := by
        rw [← en', ← (paired_of pr).1, List.map_map]
        rfl
      rw [e2]
      exact mnd
    · obtain ⟨g1, g2, g3, g4⟩ := sorted_proj pr en' ok' mok pmy pwy
      refine ac_nil ⟨p, ys, rfl, .inl ⟨.inl (.inl upd_same), fun l nl' => ?_⟩⟩
      have kA : Keep [] H' (upd (upd H' p (.lst ys)) l (.tup ys)) := .trans (.new np) (.new nl')
      have fl : fs.length = ms.length := by rw [← en', List.length_map]
      refine q _ _ (ys.map (modOf H')) (kk.trans kA.of0) ((ss.keep kA (by simp)).mono ?_) (.tup (.inl (.inl upd_same)) (paired_dp (paired_tk kA.tk g1))) g2 (by omega) (by omega) g4
      have : ms.length * 54 ≤ 52 * 54 := Nat.mul_le_mul_right 54 (by omega)
      omega
end GL

set_option Elab.async false
set_option linter.all false
set_option maxRecDepth 100000
set_option maxHeartbeats 4000000
set_option exponentiation.threshold 100000
namespace GL
open PySem PySem.Spec PyProof.Rows L2
local macro_rules | `(tactic| walk_at "pu") => `(tactic| repeat' (first
  | ((with_reducible apply pu_var); rfl) | with_reducible exact pu_c | with_reducible exact pua_nil | ((with_reducible apply pur_i0); rfl) | with_reducible exact puu_neg | with_reducible exact puc_abs | with_reducible exact puc_intB
  | with_reducible exact puc_min | with_reducible exact puc_max | with_reducible exact puo_none
  | with_reducible apply pu_op | with_reducible apply pu_cb | with_reducible apply pua_cons | with_reducible refine put_test ?_ | with_reducible refine put_B ?_ | with_reducible refine put_not ?_ | with_reducible refine pu_notV ?_
  | with_reducible apply pu_un | with_reducible refine puo_some ?_ | ((with_reducible apply pur_i); rfl) | with_reducible exact pur_eq rfl | with_reducible exact pur_ne rfl | exact puc_lenL (by assumption) | exact puc_lenT (by assumption)
  | ((with_reducible apply pur_ixL); assumption) | ((with_reducible apply pur_ixT); assumption) | with_reducible apply pur_ixS | with_reducible apply pur_str))
local macro_rules | `(tactic| walk_at "side") => `(tactic| first
  | exact (show (0 : Int) < _ by decide) | exact Or.inl ⟨by decide, by decide⟩ | exact Or.inr ⟨by decide, by decide⟩ | exact Or.inl ⟨by omega, by omega⟩ | exact Or.inr ⟨by omega, by omega⟩
  | exact ⟨by decide, by decide, by decide⟩ | exact ⟨by decide, by decide⟩ | assumption | omega | exact ⟨by decide, by decide +kernel⟩)
/-! ### data that can be shown, compared -/
mutual
def good : PyData → Bool
  | .none | .bool _ => true
  | .int i => decide (i.natAbs < 10 ^ 12)
  | .str x => x.cps.toList.all fun c => decide (c < 128)
  | .list xs | .tuple xs => goodAll xs
  | .dict _ => false
def goodAll : List PyData → Bool
  | [] => true
  | x :: xs => good x && goodAll xs
end
theorem str_lay {x : Str} (h : ∀ c ∈ x.cps.toList, c < 128) : PyData.strOk x = true := by
  unfold PyData.strOk
  rw [Array.all_eq_true_iff_forall_mem]
  intro c hc
  have := h c (by simpa using hc)
  simp
  omega
mutual
theorem good_ok : ∀ d : PyData, good d = true → d.showable = true ∧ d.hasDict = false ∧ d.leavesShort 13 = true ∧ d.canLay0 = true
  | .none, _ => ⟨rfl, rfl, rfl, rfl⟩
  | .bool _, _ => ⟨rfl, rfl, rfl, rfl⟩
  | .int i, h => by
    have h1 : i.natAbs < 10 ^ 12 := by simpa [good] using h
    refine ⟨?_, rfl, ?_, rfl⟩
    · simp only [PyData.showable, decide_eq_true_eq]
      exact log2_small (Nat.lt_trans h1 (by decide))
    · simp only [PyData.leavesShort, decide_eq_true_eq]
      exact PyData.shown_int_le h1
  | .str x, h => by
    have h1 : ∀ c ∈ x.cps.toList, c < 128 := by
      simp only [good, List.all_eq_true, decide_eq_true_eq] at h
      exact h
    refine ⟨rfl, rfl, ?_, ?_⟩
    · simp only [PyData.leavesShort, List.all_eq_true, decide_eq_true_eq]
      exact fun c hc => Nat.lt_trans (h1 c hc) (by decide)
    · simp only [PyData.canLay0]
      exact str_lay h1
  | .list xs, h => by
    obtain ⟨h1, h2, h3, h4⟩ := goodAll_ok xs (by simpa [good] using h)
    exact ⟨by simpa [PyData.showable] using h1, by simpa [PyData.hasDict] using h2, by simpa [PyData.leavesShort] using h3, by simpa [PyData.canLay0] using h4⟩
  | .tuple xs, h => by
    obtain ⟨h1, h2, h3, h4⟩ := goodAll_ok xs (by simpa [good] using h)
    exact ⟨by simpa [PyData.showable] using h1, by simpa [PyData.hasDict] using h2, by simpa [PyData.leavesShort] using h3, by simpa [PyData.canLay0] using h4⟩
  | .dict _, h => by simp [good] at h
theorem goodAll_ok : ∀ xs : List PyData, goodAll xs = true → PyData.showableAll xs = true ∧ PyData.hasDictAll xs = false ∧ PyData.leavesShortAll 13 xs = true ∧ PyData.canLayAll0 xs = true
  | [], _ => ⟨rfl, rfl, rfl, rfl⟩
  | x :: xs, h => by
    have h' : good x = true ∧ goodAll xs = true := by simpa [goodAll] using h
    obtain ⟨a1, a2, a3, a4⟩ := good_ok x h'.1
    obtain ⟨b1, b2, b3, b4⟩ := goodAll_ok xs h'.2
    simp [PyData.showableAll, PyData.hasDictAll, PyData.leavesShortAll, PyData.canLayAll0, a1, a2, a3, a4, b1, b2, b3, b4]
end
theorem good_shaped {d : PyData} (h : good d = true) (hd : d.depth ≤ 60) : SeqAt.shaped d = true := by
  unfold SeqAt.shaped
  rw [(good_ok d h).2.2.2]
  simp
  omega
theorem good_shown {d : PyData} (h : good d = true) (hw : d.weight ≤ 2 ^ 20) : d.shown.length ≤ sizeLine := PyData.shown_fits (by decide) (by decide) (good_ok d h).2.2.1 hw
theorem good_all_of {xs : List PyData} (h : ∀ x ∈ xs, good x = true) : goodAll xs = true := by
  induction xs with
  | nil => rfl
  | cons x r ih =>
    simp only [goodAll, Bool.and_eq_true]
    exact ⟨h x List.mem_cons_self, ih fun y hy => h y (List.mem_cons_of_mem _ hy)⟩
theorem weightAll_le {B : Nat} : ∀ {xs : List PyData}, (∀ x ∈ xs, x.weight ≤ B) → PyData.weightAll xs ≤ xs.length * (B + 1)
  | [], _ => by simp [PyData.weightAll]
  | x :: r, h => by
    have h1 := h x List.mem_cons_self
    have h2 := weightAll_le (xs := r) fun y hy => h y (List.mem_cons_of_mem _ hy)
    simp only [PyData.weightAll, List.length_cons, Nat.succ_mul]
    omega
theorem depthAll_le {B : Nat} : ∀ {xs : List PyData}, (∀ x ∈ xs, x.depth ≤ B) → PyData.depthAll xs ≤ B
  | [], _ => Nat.zero_le _
  | x :: r, h => by
    simp only [PyData.depthAll]
    exact Nat.max_le.mpr ⟨h x List.mem_cons_self, depthAll_le fun y hy => h y (List.mem_cons_of_mem _ hy)⟩
/-! ### of a project -/
theorem good_name {z : Str} (h : NameOk z) : good (.str z) = true := by
  simp only [good, List.all_eq_true, decide_eq_true_eq]
  exact fun c hc => by have := (h.2.2 c hc).2; omega
theorem good_strs {zs : List Str} (h : ∀ z ∈ zs, NameOk z) : goodAll (zs.map .str) = true := good_all_of fun x hx => by
  obtain ⟨z, hz, rfl⟩ := List.mem_map.mp hx
  exact good_name (h z hz)
/-- names are names, not too many imports, not too many modules -/
structure Small (p : List Mod) : Prop where
  nm : ∀ m ∈ p, NameOk m.name
  im : ∀ m ∈ p, ∀ i ∈ m.imps, NameOk i
  il : ∀ m ∈ p, m.imps.length ≤ 60
  pl : p.length ≤ 100
theorem ProjOk.small {p : List Mod} (h : ProjOk p) (il : ∀ m ∈ p, m.imps.length ≤ 60) (pl : p.length ≤ 100) : Small p := ⟨h.nm, fun m hm i hi => by
  obtain ⟨m', hm', e⟩ := List.mem_map.mp (h.inn m hm i hi)
  rw [← e]
  exact h.nm m' hm', il, pl⟩
theorem good_mod {m : Mod} (h1 : NameOk m.name) (h2 : ∀ i ∈ m.imps, NameOk i) : good (modD m) = true := by
  have hk : good (.str (kindS m.eff)) = true := by cases m.eff <;> decide +kernel
  have hi := good_strs h2
  simp only [modD, good, goodAll, Bool.and_eq_true, Bool.and_true]
  exact ⟨good_name h1, hi, hk⟩
theorem good_proj {p : List Mod} (h : Small p) : good (projD p) = true := by
  simp only [projD, good]
  refine good_all_of fun x hx => ?_
  obtain ⟨m, hm, rfl⟩ := List.mem_map.mp hx
  exact good_mod (h.nm m hm) (h.im m hm)
theorem depth_mod (m : Mod) : (modD m).depth ≤ 2 := by
  have : PyData.depthAll (m.imps.map .str) ≤ 0 := depthAll_le fun x hx => by
    obtain ⟨z, _, rfl⟩ := List.mem_map.mp hx
    exact Nat.le_refl _
  simp only [modD, PyData.depth, PyData.depthAll]
  omega
theorem depth_proj (p : List Mod) : (projD p).depth ≤ 3 := by
  have : PyData.depthAll (p.map modD) ≤ 2 := depthAll_le fun x hx => by
    obtain ⟨m, _, rfl⟩ := List.mem_map.mp hx
    exact depth_mod m
  simp only [projD, PyData.depth]
  omega
theorem weight_mod {m : Mod} (h1 : NameOk m.name) (h2 : ∀ i ∈ m.imps, NameOk i) (h3 : m.imps.length ≤ 60) : (modD m).weight ≤ 700 := by
  have a : PyData.weightAll (m.imps.map .str) ≤ (m.imps.map PyData.str).length * (10 + 1) := weightAll_le fun x hx => by
    obtain ⟨z, hz, rfl⟩ := List.mem_map.mp hx
    exact (h2 z hz).2.1
  rw [List.length_map] at a
  have b : m.name.cps.size ≤ 10 := h1.2.1
  have c : (kindS m.eff).cps.size ≤ 6 := by cases m.eff <;> decide +kernel
  simp only [modD, PyData.weight, PyData.weightAll]
  omega
theorem weight_proj {p : List Mod} (h : Small p) : (projD p).weight ≤ 70100 := by
  have a : PyData.weightAll (p.map modD) ≤ (p.map modD).length * (700 + 1) := weightAll_le fun x hx => by
    obtain ⟨m, hm, rfl⟩ := List.mem_map.mp hx
    exact weight_mod (h.nm m hm) (h.im m hm) (h.il m hm)
  rw [List.length_map] at a
  have b := h.pl
  have c : p.length * 701 ≤ 100 * 701 := Nat.mul_le_mul_right _ b
  simp only [projD, PyData.weight]
  omega
/-- Dp of data without lists is kept where tuples are -/
theorem dpAll_strs {K : PySem.W.Frag} {H : Hp} : ∀ {vs : List V} {zs : List Str}, DpAll K H vs (zs.map .str) → vs = zs.map V.str
  | _, [], .nil => rfl
  | _, z :: zs, .cons a r => by
    cases a
    rw [dpAll_strs r]
    rfl
theorem dp_mod {K : PySem.W.Frag} {H : Hp} {v : V} {m : Mod} (h : Dp K H v (modD m)) : ∃ t u, v = .ref t ∧ SqT K H t [.str m.name, .ref u, .str (kindS m.eff)] ∧ SqT K H u (m.imps.map V.str) := by
  cases h with
  | tup h1 h2 =>
    cases h2 with
    | cons a r =>
      cases a
      cases r with
      | cons b r =>
        cases b with
        | tup b1 b2 =>
          cases r with
          | cons c r =>
            cases c
            cases r
            rw [dpAll_strs b2] at b1
            exact ⟨_, _, rfl, h1, b1⟩
theorem mod_dp {K : PySem.W.Frag} {H : Hp} {m : Mod} {t u : Addr} (h1 : SqT K H t [.str m.name, .ref u, .str (kindS m.eff)]) (h2 : SqT K H u (m.imps.map V.str)) : Dp K H (.ref t) (modD m) :=
  .tup h1 (.cons (.str _) (.cons (.tup h2 (dp_strs _)) (.cons (.str _) .nil)))
theorem dp_mod_tk {K : PySem.W.Frag} {H H' : Hp} {v : V} {m : Mod} (h : Dp K H v (modD m)) (k : TKeep H H') : Dp K H' v (modD m) := by
  obtain ⟨t, u, rfl, h1, h2⟩ := dp_mod h
  exact mod_dp (k.sqt h1) (k.sqt h2)
theorem dpAll_tk {K : PySem.W.Frag} {H H' : Hp} (k : TKeep H H') : ∀ {vs : List V} {p : List Mod}, DpAll K H vs (p.map modD) → DpAll K H' vs (p.map modD)
  | _, [], .nil => .nil
  | _, _ :: _, .cons a r => .cons (dp_mod_tk a k) (dpAll_tk k r)
theorem dp_proj {K : PySem.W.Frag} {H : Hp} {v : V} {p : List Mod} (h : Dp K H v (projD p)) : ∃ t xs, v = .ref t ∧ SqT K H t xs ∧ DpAll K H xs (p.map modD) := by
  cases h with
  | tup h1 h2 => exact ⟨_, _, rfl, h1, h2⟩
theorem dp_proj_tk {K : PySem.W.Frag} {H H' : Hp} {v : V} {p : List Mod} (h : Dp K H v (projD p)) (k : TKeep H H') : Dp K H' v (projD p) := by
  obtain ⟨t, xs, rfl, h1, h2⟩ := dp_proj h
  exact .tup (k.sqt h1) (dpAll_tk k h2)
theorem dpAll_len {K : PySem.W.Frag} {H : Hp} : ∀ {vs : List V} {ds : List PyData}, DpAll K H vs ds → vs.length = ds.length
  | _, _, .nil => rfl
  | _, _, .cons _ r => by simp [dpAll_len r]
theorem dpAll_at {K : PySem.W.Frag} {H : Hp} : ∀ {vs : List V} {p : List Mod} {i : Nat} {v : V}, DpAll K H vs (p.map modD) → vs[i]? = some v → ∃ m, p[i]? = some m ∧ Dp K H v (modD m)
  | _, [], i, v, .nil, e => by simp at e
  | _, m :: p, 0, v, .cons a r, e => by
    cases e
    exact ⟨m, rfl, a⟩
  | _, m :: p, i + 1, v, .cons a r, e => dpAll_at (i := i) r (by simpa using e)
end GL

set_option Elab.async false
set_option linter.all false
set_option maxRecDepth 100000
set_option maxHeartbeats 4000000
set_option exponentiation.threshold 100000
namespace GL
open PySem PySem.Spec PyProof.Rows L2
local macro_rules | `(tactic| walk_at "pu") => `(tactic| repeat' (first
  | ((with_reducible apply pu_var); rfl) | with_reducible exact pu_c | with_reducible exact pua_nil | ((with_reducible apply pur_i0); rfl) | with_reducible exact puu_neg | with_reducible exact puc_abs | with_reducible exact puc_intB
  | with_reducible exact puc_min | with_reducible exact puc_max | with_reducible exact puo_none
  | with_reducible apply pu_op | with_reducible apply pu_cb | with_reducible apply pua_cons | with_reducible refine put_test ?_ | with_reducible refine put_B ?_ | with_reducible refine put_not ?_ | with_reducible refine pu_notV ?_
  | with_reducible apply pu_un | with_reducible refine puo_some ?_ | ((with_reducible apply pur_i); rfl) | with_reducible exact pur_eq rfl | with_reducible exact pur_ne rfl | exact puc_lenL (by assumption) | exact puc_lenT (by assumption)
  | ((with_reducible apply pur_ixL); assumption) | ((with_reducible apply pur_ixT); assumption) | with_reducible apply pur_ixS | with_reducible apply pur_str))
local macro_rules | `(tactic| walk_at "side") => `(tactic| first
  | exact (show (0 : Int) < _ by decide) | exact Or.inl ⟨by decide, by decide⟩ | exact Or.inr ⟨by decide, by decide⟩ | exact Or.inl ⟨by omega, by omega⟩ | exact Or.inr ⟨by omega, by omega⟩
  | exact ⟨by decide, by decide, by decide⟩ | exact ⟨by decide, by decide⟩ | assumption | omega | exact ⟨by decide, by decide +kernel⟩)
/-! ### readings that give one value and keep what the heap holds -/
def Ke (t : TE) (σ : L2.St) (H : Hp) (v : V) : Prop := ∀ Q : VK, (∀ H', Keep [] H H' → Q v H') → t σ H Q
def KeT (t : TT) (σ : L2.St) (H : Hp) (b : Bool) : Prop := ∀ Q : Bool → Hp → Prop, (∀ H', Keep [] H H' → Q b H') → t σ H Q
section
variable {K : PySem.W.Frag} {σ : L2.St} {H : Hp} {ta tb te to tl : TE} {t u : TT} {x y z v : V} {r : R2} {D : Ends} {Q : VK} {tw tu tv : TS} {ts : List TE}
theorem Pu.ke (h : Pu te σ H v) : Ke te σ H v := fun Q k => h Q (k H .refl)
theorem PuT.ke {b : Bool} (h : PuT t σ H b) : KeT t σ H b := fun Q k => h Q (k H .refl)
theorem su_retK (h : Ke te σ H v) (k : ∀ H', Keep [] H H' → D.rt v H') : tRet te D σ H := h _ k
theorem sq_asgK {i : Nat} (h : Ke te σ H v) (k : ∀ H', Keep [] H H' → tw D (σ.set i (some v)) H') : tSeq (tAsg te (gName i)) tw D σ H := h _ k
theorem sq_ifK {b : Bool} (h : KeT t σ H b) (h1 : b = true → ∀ H', Keep [] H H' → tSeq tu tw D σ H') (h2 : b = false → ∀ H', Keep [] H H' → tSeq tv tw D σ H') : tSeq (tIfS t tu tv) tw D σ H := h _ fun H' k => by
  cases b with
  | true => exact h1 rfl H' k
  | false => exact h2 rfl H' k
theorem ke_if {b : Bool} (h : KeT t σ H b) (h1 : b = true → ∀ H', Keep [] H H' → Ke ta σ H' v) (h2 : b = false → ∀ H', Keep [] H H' → Ke tb σ H' v) : Ke (tIf t ta tb) σ H v := fun Q k => h _ fun H' k' => by
  cases b with
  | true => exact h1 rfl H' k' Q fun H2 k2 => k H2 (k'.trans k2)
  | false => exact h2 rfl H' k' Q fun H2 k2 => k H2 (k'.trans k2)
theorem ket_or {a b : Bool} (h1 : KeT t σ H a) (h2 : a = false → ∀ H', Keep [] H H' → KeT u σ H' b) : KeT (tOr t u) σ H (a || b) := fun Q k => h1 _ fun H' k' => by
  cases a with
  | true => exact k H' k'
  | false => exact h2 rfl H' k' Q fun H2 k2 => k H2 (k'.trans k2)
theorem ket_and {a b : Bool} (h1 : KeT t σ H a) (h2 : a = true → ∀ H', Keep [] H H' → KeT u σ H' b) : KeT (tAnd t u) σ H (a && b) := fun Q k => h1 _ fun H' k' => by
  cases a with
  | false => exact k H' k'
  | true => exact h2 rfl H' k' Q fun H2 k2 => k H2 (k'.trans k2)
theorem ket_not {b : Bool} (h : KeT t σ H b) : KeT (tNot t) σ H (!b) := fun Q k => h _ k
theorem ket_test {b : Bool} (h : Ke te σ H (.bl b)) : KeT (tTest te) σ H b := fun Q k => h _ fun H' k' => ⟨b, rfl, k H' k'⟩
theorem ket_B {b : Bool} (h : Ke te σ H (.bl b)) : KeT (tB te) σ H b := fun Q k => h _ fun H' k' => ⟨b, rfl, k H' k'⟩
theorem ke_op (ha : Ke ta σ H x) (hb : ∀ H', Keep [] H H' → Ke tb σ H' y) (hr : ∀ H', Keep [] H H' → ∀ Q : VK, (∀ H2, Keep [] H' H2 → Q z H2) → r x y H' Q) : Ke (tOp r ta tb) σ H z := fun Q k =>
  ha _ fun H1 k1 => hb H1 k1 _ fun H2 k2 => hr H2 (k1.trans k2) Q fun H3 k3 => k H3 ((k1.trans k2).trans k3)
theorem ke_call {sp : Sp} {tas : TA} {vs : List V} {E : XK} (h : PuA tas σ H vs) (k : ∀ Q : VK, (∀ H', Keep [] H H' → Q v H') → sp (vs ++ []) H Q E) : Ke (tCall sp [] E tas) σ H v := fun Q q => h _ (k Q q)
/-- x != (), x == () -/
theorem ke_neT {d : PyData} (h : Pu ta σ H x) (hd : Dp K H x d) (hs : SeqAt.shaped d = true) (ht : ∀ H', TKeep H H' → Dp K H' x d) : Ke (tOp (rNeD K) ta (tTup tNil)) σ H (.bl (!PyData.eqv d (.tuple []))) := fun Q k =>
  h _ ⟨by decide, fun p np => ⟨d, .tuple [], ht _ (Keep.tk (.new np)), .tup (.inl (.inl upd_same)) .nil, hs, by decide, k _ (.new np)⟩⟩
theorem ke_strs {a : Addr} {zs : List Str} (h : Pu ta σ H (.ref a)) (hz : SqT K H a (zs.map V.str)) (hg : goodAll (zs.map .str) = true) : Ke (tOp (rNeD K) ta (tTup tNil)) σ H (.bl (!decide (zs = []))) := by
  have e : PyData.eqv (.tuple (zs.map .str)) (.tuple []) = decide (zs = []) := by
    cases zs with
    | nil => decide
    | cons z r => simp [PyData.eqv, PyData.eqvAll]
  rw [← e]
  refine ke_neT h (.tup hz (dp_strs zs)) (good_shaped (by simpa [good] using hg) ?_) fun H' k => .tup (k.sqt hz) (dp_strs zs)
  have : PyData.depthAll (zs.map .str) ≤ 0 := depthAll_le fun x hx => by
    obtain ⟨z, _, rfl⟩ := List.mem_map.mp hx
    exact Nat.le_refl _
  simp only [PyData.depth]
  omega
/-! ### f-strings, join -/
def PuJ (ts : List TE) (acc : Str) (σ : L2.St) (H : Hp) (out : Str) : Prop := ∀ Q : Str → Hp → Prop, Q out H → tJs ts acc σ H Q
theorem puj_nil {acc : Str} : PuJ [] acc σ H acc := fun _ q => q
theorem puj_cons {acc y out : Str} (h : Pu te σ H (.str y)) (hl : (acc ++ y).length ≤ sizeLine) (k : PuJ ts (acc ++ y) σ H out) : PuJ (te :: ts) acc σ H out := fun Q q => h _ ⟨y, rfl, hl, k Q q⟩
theorem pu_jn {out : Str} (h : PuJ ts Str.empty σ H out) : Pu (tJn ts) σ H (.str out) := fun _ q => h _ q
theorem pu_fmt {y : Str} (h : Pu te σ H (.str y)) (hl : y.length ≤ sizeLine) : Pu (tFmt te) σ H (.str y) := fun _ q => h _ (.inl ⟨y, rfl, hl, q⟩)
theorem pu_join {a : Str} {p : Addr} {ys : List Str} (h : Pu to σ H (.str a)) (h2 : Pu te σ H (.ref p)) (hs : SqL K H p (ys.map V.str) ∨ SqT K H p (ys.map V.str)) (hl : (ys.map (·.length)).sum + ys.length * a.length ≤ 16777216) : Pu (tM1 (rJoinQ K) to te) σ H (.str (Txt.join a ys)) :=
  fun _ q => h _ ⟨⟨a, rfl⟩, h2 _ ⟨a, p, ys, rfl, rfl, hs, hl, q⟩⟩
/-- a comprehension whose items keep the heap -/
theorem lc_ke {J : It} {n j : Nat} {Gd : Hp → Prop} {it : Nat → V} (w : Walk J n Gd (YFn it)) {tt : TT} {te : TE} {vs : List Nat} {H1 : Hp} {b : Nat → Bool} {f : Nat → V} (hG : ∀ H, Keep [] H1 H → Gd H) (hn : n ≤ 1000000)
    (hw : ∀ v, wipe ((wipe σ vs).set j (some v)) vs = wipe σ vs) (ht : ∀ i H, i < n → Keep [] H1 H → KeT tt ((wipe σ vs).set j (some (it i))) H (b i)) (he : ∀ i H, i < n → Keep [] H1 H → b i = true → Ke te ((wipe σ vs).set j (some (it i))) H (f i))
    (k : ∀ D H, Keep [] H1 H → H1 D = none → H D = some (.lst (((List.range n).filter b).map f)) → Q (.ref D) H) :
    ∀ D, H1 D = none → ∃ W : Nat → Nat → Hp → Prop, (∃ m, W 0 m (upd H1 D (.lst []))) ∧ ∀ i m H, W i m H →
      (J.stop i H ∧ Q (.ref D) H) ∨ (J.go i H ∧ ∃ Nx : Hp → Prop, (∀ H', Nx H' → ∃ m', m' < m ∧ W (i + 1) m' H') ∧ ∀ x H', J.yld i H x H' → gName j x (wipe σ vs) H' fun σ2 H2 => wipe σ2 vs = wipe σ vs ∧ tt σ2 H2 fun b H3 =>
        if b = true then te σ2 H3 fun y H4 => ∃ acc, H4 D = some (.lst acc) ∧ acc.length < sizeLine ∧ Nx (upd H4 D (.lst (acc ++ [y]))) else Nx H3) := by
  intro D hD
  refine lc_it w (fun i H => Keep [] H1 H ∧ H D = some (.lst (((List.range i).filter b).map f))) ⟨.new hD, upd_same⟩ (fun i H _ h => hG H h.1) ?_ fun H h => k D H h.1 hD h.2
  rintro i x H H' hi ⟨kp, eD⟩ ⟨rfl, rfl⟩
  refine ⟨hw _, ht i H' hi kp _ fun H2 k2 => ?_⟩
  have eD2 := k2 D _ (by simp) eD
  have kp2 := kp.trans k2
  cases eb : b i with
  | false =>
    refine (show Keep [] H1 H2 ∧ _ from ⟨kp2, ?_⟩)
    rw [eD2, List.range_succ, List.filter_append, List.filter_cons_of_neg (by rw [eb]; decide)]
    simp
  | true =>
    refine he i H2 hi kp2 eb _ fun H3 k3 => ⟨_, k3 D _ (by simp) eD2, szl ?_, (kp2.trans k3).put (.inr hD), ?_⟩
    · rw [List.length_map]
      exact Nat.lt_of_le_of_lt (List.length_filter_le _ _) (by rw [List.length_range]; omega)
    · rw [upd_same, List.range_succ, List.filter_append, List.filter_cons_of_pos eb]
      simp
theorem lce_tup {a : Addr} {xs : List V} {j : Nat} {tt : TT} {te : TE} {vs : List Nat} {it : Nat → V} {b : Nat → Bool} {f : Nat → V} (h : Pu tl σ H (.ref a)) (hx : SqT K H a xs) (hn : xs.length ≤ 1000000) (hit : ∀ i x, xs[i]? = some x → it i = x) (hw : ∀ v, wipe ((wipe σ vs).set j (some v)) vs = wipe σ vs)
    (ht : ∀ i H', i < xs.length → Keep [] H H' → KeT tt ((wipe σ vs).set j (some (it i))) H' (b i)) (he : ∀ i H', i < xs.length → Keep [] H H' → b i = true → Ke te ((wipe σ vs).set j (some (it i))) H' (f i))
    (k : ∀ D H', Keep [] H H' → H D = none → H' D = some (.lst (((List.range xs.length).filter b).map f)) → Q (.ref D) H') : tLc (iTup K tl) (gName j) tt te vs σ H Q :=
  h _ ⟨a, rfl, ⟨xs, hx⟩, lc_ke (walk_tupF hit) (fun H' kp => kp.sqt (by simp) hx) hn hw ht he k⟩
theorem lce_list {a : Addr} {xs : List V} {j : Nat} {tt : TT} {te : TE} {vs : List Nat} {it : Nat → V} {b : Nat → Bool} {f : Nat → V} (h : Pu tl σ H (.ref a)) (hx : SqL K H a xs) (hn : xs.length ≤ 1000000) (hit : ∀ i x, xs[i]? = some x → it i = x) (hw : ∀ v, wipe ((wipe σ vs).set j (some v)) vs = wipe σ vs)
    (ht : ∀ i H', i < xs.length → Keep [] H H' → KeT tt ((wipe σ vs).set j (some (it i))) H' (b i)) (he : ∀ i H', i < xs.length → Keep [] H H' → b i = true → Ke te ((wipe σ vs).set j (some (it i))) H' (f i))
    (k : ∀ D H', Keep [] H H' → H D = none → H' D = some (.lst (((List.range xs.length).filter b).map f)) → Q (.ref D) H') : tLc (iList K tl) (gName j) tt te vs σ H Q :=
  h _ ⟨a, rfl, ⟨xs, hx⟩, lc_ke (walk_listF hit) (fun H' kp => kp.sql (by simp) hx) hn hw ht he k⟩
theorem keT_yes : KeT tYes σ H true := fun _ k => k H .refl
end
end GL

set_option Elab.async false
set_option linter.all false
set_option maxRecDepth 100000
set_option maxHeartbeats 4000000
set_option exponentiation.threshold 100000
namespace GL
open PySem PySem.Spec PyProof.Rows L2
local macro_rules | `(tactic| walk_at "pu") => `(tactic| repeat' (first
  | ((with_reducible apply pu_var); rfl) | with_reducible exact pu_c | with_reducible exact pua_nil | ((with_reducible apply pur_i0); rfl) | with_reducible exact puu_neg | with_reducible exact puc_abs | with_reducible exact puc_intB
  | with_reducible exact puc_min | with_reducible exact puc_max | with_reducible exact puo_none
  | with_reducible apply pu_op | with_reducible apply pu_cb | with_reducible apply pua_cons | with_reducible refine put_test ?_ | with_reducible refine put_B ?_ | with_reducible refine put_not ?_ | with_reducible refine pu_notV ?_
  | with_reducible apply pu_un | with_reducible refine puo_some ?_ | ((with_reducible apply pur_i); rfl) | with_reducible exact pur_eq rfl | with_reducible exact pur_ne rfl | exact puc_lenL (by assumption) | exact puc_lenT (by assumption)
  | ((with_reducible apply pur_ixL); assumption) | ((with_reducible apply pur_ixT); assumption) | with_reducible apply pur_ixS | with_reducible apply pur_str))
local macro_rules | `(tactic| walk_at "side") => `(tactic| first
  | exact (show (0 : Int) < _ by decide) | exact Or.inl ⟨by decide, by decide⟩ | exact Or.inr ⟨by decide, by decide⟩ | exact Or.inl ⟨by omega, by omega⟩ | exact Or.inr ⟨by omega, by omega⟩
  | exact ⟨by decide, by decide, by decide⟩ | exact ⟨by decide, by decide⟩ | assumption | omega | exact ⟨by decide, by decide +kernel⟩)
/-! ### a module's line -/
def lineOf (m : Mod) : Str := m.name ++ " " ++ kindS m.eff ++ (if m.imps = [] then ("" : Str) else (": " : Str) ++ Txt.join ", " m.imps)
/-- a module whose names are names -/
structure ModSm (m : Mod) : Prop where
  nm : NameOk m.name
  im : ∀ i ∈ m.imps, NameOk i
  il : m.imps.length ≤ 60
theorem Small.mod {p : List Mod} (h : Small p) {m : Mod} (hm : m ∈ p) : ModSm m := ⟨h.nm m hm, h.im m hm, h.il m hm⟩
def spFmtMod (K : PySem.W.Frag) : Sp := fun vs H Q _ => ∃ v m, vs = [v] ∧ Dp K H v (modD m) ∧ ModSm m ∧ ∀ H', Keep [] H H' → Q (.str (lineOf m)) H'
def spLine : PySem.W.Frag → Sp := spFmtMod
def spFmtProj (K : PySem.W.Frag) : Sp := fun vs H Q _ => ∃ v p, vs = [v] ∧ Dp K H v (projD p) ∧ Small p ∧ ∀ H', Keep [] H H' → Q (.str (Txt.join "\n" (p.map lineOf))) H'
theorem len_join_le (a : Str) : ∀ ys : List Str, (Txt.join a ys).length ≤ (ys.map (·.length)).sum + ys.length * a.length := by
  intro ys
  rw [TL.join_eq]
  induction ys with
  | nil => exact Nat.zero_le _
  | cons y r ih =>
    cases r with
    | nil => simp [Str.join]
    | cons z r =>
      have e : Str.join a (y :: z :: r) = y ++ a ++ Str.join a (z :: r) := rfl
      rw [e, Str.length_append, Str.length_append]
      simp only [List.map_cons, List.sum_cons, List.length_cons, Nat.succ_mul] at ih ⊢
      omega
theorem sum_len_le {B : Nat} : ∀ {ys : List Str}, (∀ y ∈ ys, y.length ≤ B) → (ys.map (·.length)).sum ≤ ys.length * B
  | [], _ => by simp
  | y :: r, h => by
    have h1 := h y List.mem_cons_self
    have h2 := sum_len_le (ys := r) fun z hz => h z (List.mem_cons_of_mem _ hz)
    simp only [List.map_cons, List.sum_cons, List.length_cons, Nat.succ_mul]
    omega
theorem imps_sum {m : Mod} (h : ModSm m) : (m.imps.map (·.length)).sum ≤ 600 := by
  have a := sum_len_le fun y hy => (h.im y hy).2.1
  have b : m.imps.length * 10 ≤ 60 * 10 := Nat.mul_le_mul_right _ h.il
  omega
theorem kind_len (b : Bool) : (kindS b).length ≤ 6 := by cases b <;> decide +kernel
theorem line_len {m : Mod} (h : ModSm m) : (lineOf m).length ≤ 1000 := by
  have a := imps_sum h
  have b := len_join_le ", " m.imps
  have e2 : (", " : Str).length = 2 := by decide +kernel
  have e3 : (": " : Str).length = 2 := by decide +kernel
  have e1 : (" " : Str).length = 1 := by decide +kernel
  have e0 : ("" : Str).length = 0 := by decide +kernel
  have c := kind_len m.eff
  have d := h.nm.2.1
  have il := h.il
  rw [e2] at b
  unfold lineOf
  split
  · rw [Str.length_append, Str.length_append, Str.length_append]
    omega
  · rw [Str.length_append, Str.length_append, Str.length_append, Str.length_append]
    omega
def t_fmtMod (K : PySem.W.Frag) : TS :=
  (tSeq (tAsg (tVar 0) (gTup K 3 (gCons (gName 1) (gCons (gName 2) (gCons (gName 3) gNil)))))
    (tRet (tOp rAddS (tJn [(tFmt (tVar 1)), (tC (.str " ")), (tFmt (tVar 3))]) (tIf (tTest (tOp (rNeD K) (tVar 2) (tTup tNil))) (tJn [(tFmt (tC (.str ":"))), (tC (.str " ")), (tFmt (tM1 (rJoinQ K) (tOp rAddS (tC (.str ",")) (tC (.str " "))) (tVar 2)))]) (tC (.str ""))))))

def t_fmtProj (K : PySem.W.Frag) : TS :=
  (tRet (tM1 (rJoinQ K) (tC (.str "\n")) (tLc (iTup K (tVar 0)) (gName 1) tYes (tCall (spFmtMod K) [] E0 (tCons (tVar 1) tNil)) [1])))

def t_line (K : PySem.W.Frag) : TS :=
  (tSeq (tAsg (tOp rAddS (tOp rAddS (tOp (rIxT K) (tVar 0) (tC (.int 0))) (tC (.str " "))) (tOp (rIxT K) (tVar 0) (tC (.int 2)))) (gName 1))
    (tRet (tIf (tTest (tOp (rNeD K) (tOp (rIxT K) (tVar 0) (tC (.int 1))) (tTup tNil))) (tOp rAddS (tOp rAddS (tVar 1) (tC (.str ": "))) (tM1 (rJoinQ K) (tC (.str ", ")) (tOp (rIxT K) (tVar 0) (tC (.int 1))))) (tVar 1))))

section
variable {K : PySem.W.Frag}
theorem str_emp (a : Str) : Str.empty ++ a = a := Str.ext' (by simp [Str.cps_append, Str.empty])
theorem str_nil (a : Str) : a ++ ("" : Str) = a := Str.ext' (by
  rw [Str.cps_append, show (Str.cps "") = #[] by decide +kernel, Array.append_empty])
theorem pure_fmtMod (vs : List V) (H : Hp) (Q : VK) (E : XK) (h : spFmtMod K vs H Q E) : t_fmtMod K { nx := fun _ H' => Q .non H', rt := Q } (vs.map some ++ [none, none, none]) H := by
  obtain ⟨v, m, rfl, hd, hm, q⟩ := h
  unfold t_fmtMod
  obtain ⟨t, u, rfl, h1, h2⟩ := dp_mod hd
  refine sq_do ⟨_, rfl, g_tup3 h1 ?_⟩
  have a := imps_sum hm
  have b := len_join_le ", " m.imps
  have e2 : (", " : Str).length = 2 := by decide +kernel
  have e1 : (" " : Str).length = 1 := by decide +kernel
  have ec : (":" : Str).length = 1 := by decide +kernel
  have ecm : (("," : Str) ++ (" " : Str)) = (", " : Str) := by decide +kernel
  have c := kind_len m.eff
  have d := hm.nm.2.1
  have il := hm.il
  rw [e2] at b
  have lj : (Txt.join ", " m.imps).length ≤ 720 := by omega
  refine su_retE (al_opP (x := .str (m.name ++ " " ++ kindS m.eff)) (pu_jn ?_) ?_)
  · refine puj_cons (pu_fmt (pu_var rfl) (sz (by omega))) ?_ (puj_cons pu_c ?_ (puj_cons (pu_fmt (pu_var rfl) (sz (by omega))) ?_ ?_))
    · rw [str_emp]
      exact sz (by omega)
    · rw [str_emp, Str.length_append]
      exact sz (by omega)
    · rw [str_emp, Str.length_append, Str.length_append]
      exact sz (by omega)
    · rw [str_emp]
      exact puj_nil
  refine ke_if (v := .str (if m.imps = [] then ("" : Str) else (": " : Str) ++ Txt.join ", " m.imps)) (ket_test (ke_strs (pu_var rfl) h2 (good_strs hm.im))) (fun e H1 k1 => ?_) (fun e H1 k1 => ?_) _ fun H1 k1 => ?_
  · have ne : ¬ m.imps = [] := by simpa using e
    rw [if_neg ne]
    have h21 := k1.sqt (by simp) h2
    refine Pu.ke (pu_is (pu_jn (puj_cons (pu_fmt pu_c (by decide)) ?_ (puj_cons pu_c ?_ (puj_cons (pu_fmt (pu_join (ys := m.imps) (pu_op pu_c pu_c (pur_str (by decide))) (pu_var rfl) (.inr h21) ?_) ?_) ?_ puj_nil)))) ?_)
    · decide
    · rw [str_emp]
      decide
    · rw [ecm, e2]
      omega
    · rw [ecm]
      exact sz (by omega)
    · rw [str_emp, ecm, Str.length_append, Str.length_append]
      exact sz (by omega)
    · rw [str_emp, ecm, show ((":" : Str) ++ (" " : Str)) = (": " : Str) by decide +kernel]
  · have ne : m.imps = [] := by simpa using e
    rw [if_pos ne]
    exact pu_c.ke
  · refine ⟨_, _, rfl, rfl, ?_, q H1 k1⟩
    have := line_len hm
    unfold lineOf at this
    rw [Str.length_append] at this
    exact sz (by omega)
theorem pure_line (vs : List V) (H : Hp) (Q : VK) (E : XK) (h : spLine K vs H Q E) : t_line K { nx := fun _ H' => Q .non H', rt := Q } (vs.map some ++ [none]) H := by
  obtain ⟨v, m, rfl, hd, hm, q⟩ := h
  unfold t_line
  obtain ⟨t, u, rfl, h1, h2⟩ := dp_mod hd
  have a := imps_sum hm
  have b := len_join_le ", " m.imps
  have e2 : (", " : Str).length = 2 := by decide +kernel
  have e1 : (" " : Str).length = 1 := by decide +kernel
  have ec : (": " : Str).length = 2 := by decide +kernel
  have c := kind_len m.eff
  have d := hm.nm.2.1
  have il := hm.il
  rw [e2] at b
  refine sq_asg (v := .str (m.name ++ " " ++ kindS m.eff)) (pu_op (pu_op (pu_op (pu_var rfl) pu_c (pur_ixT h1 rfl)) pu_c (pur_str (sz (by omega)))) (pu_op (pu_var rfl) pu_c (pur_ixT h1 rfl)) (pur_str (sz (by rw [Str.length_append]; omega)))) ?_
  refine su_retK (v := .str (lineOf m)) (ke_if (ket_test (ke_strs (pu_op (pu_var rfl) pu_c (pur_ixT h1 rfl)) h2 (good_strs hm.im))) (fun e H1 k1 => ?_) (fun e H1 k1 => ?_)) fun H1 k1 => q H1 k1
  · have ne : ¬ m.imps = [] := by simpa using e
    have h11 := k1.sqt (by simp) h1
    have h21 := k1.sqt (by simp) h2
    refine Pu.ke (pu_is (pu_op (pu_op (pu_var rfl) pu_c (pur_str (sz ?_))) (pu_join (ys := m.imps) pu_c (pu_op (pu_var rfl) pu_c (pur_ixT h11 rfl)) (.inr h21) ?_) (pur_str (sz ?_))) ?_)
    · rw [Str.length_append, Str.length_append]
      omega
    · rw [e2]
      omega
    · rw [Str.length_append, Str.length_append, Str.length_append]
      omega
    · unfold lineOf
      rw [if_neg ne, Str.append_assoc (m.name ++ " " ++ kindS m.eff)]
  · have ne : m.imps = [] := by simpa using e
    refine Pu.ke (pu_is (pu_var rfl) ?_)
    unfold lineOf
    rw [if_pos ne, str_nil]
theorem lines_sum {p : List Mod} (h : Small p) : ((p.map lineOf).map (·.length)).sum ≤ 100000 := by
  have a := sum_len_le (B := 1000) (ys := p.map lineOf) fun y hy => by
    obtain ⟨m, hm, rfl⟩ := List.mem_map.mp hy
    exact line_len (h.mod hm)
  rw [List.length_map] at a
  have b : p.length * 1000 ≤ 100 * 1000 := Nat.mul_le_mul_right _ h.pl
  omega
/-- '\n'.join([f(m) for m in project]) -/
theorem ke_lines {j : Nat} {sp : Sp} {σ : L2.St} {H : Hp} {tl : TE} {v : V} {p : List Mod} {vs : List Nat} (hsp : ∀ vs H Q E, spFmtMod K vs H Q E → sp vs H Q E) (hv : Pu tl σ H v) (hd : Dp K H v (projD p)) (hp : Small p) (hw : ∀ v, wipe ((wipe σ vs).set j (some v)) vs = wipe σ vs) (hj : ∀ v, ((wipe σ vs).set j (some v))[j]? = some (some v)) :
    Ke (tM1 (rJoinQ K) (tC (.str "\n")) (tLc (iTup K tl) (gName j) tYes (tCall sp [] E0 (tCons (tVar j) tNil)) vs)) σ H (.str (Txt.join "\n" (p.map lineOf))) := by
  obtain ⟨t, xs, rfl, h1, h2⟩ := dp_proj hd
  have xl : xs.length = p.length := by rw [dpAll_len h2, List.length_map]
  intro Q q
  refine (show tM1 _ _ _ _ _ _ from ?_)
  refine ⟨⟨_, rfl⟩, ?_⟩
  refine lce_tup (xs := xs) (it := fun i => xs[i]?.getD .non) (b := fun _ => true) (f := fun i => .str (lineOf (p[i]?.getD ⟨"", [], true⟩))) hv h1 (by have := hp.pl; omega) (fun i x e => by rw [e]; rfl) hw (fun i H' _ _ => keT_yes) (fun i H' hi kp _ => ?_) fun D H' kp nD eD => ?_
  · have ex : xs[i]? = some xs[i] := List.getElem?_eq_getElem hi
    obtain ⟨m, em, dm⟩ := dpAll_at h2 ex
    rw [ex, em]
    exact ke_call (pua_cons (pu_var (hj _)) pua_nil) fun Q q => hsp _ _ _ _ ⟨_, m, rfl, dp_mod_tk dm kp.tk, hp.mod (List.mem_of_getElem? em), q⟩
  · rw [filter_all, xl] at eD
    have e := range_pick p ⟨"", [], true⟩ (fun _ => true) (fun m => V.str (lineOf m))
    rw [filter_all, List.filter_eq_self.mpr (fun _ _ => rfl)] at e
    rw [e] at eD
    have e1 : ("\n" : Str).length = 1 := by decide +kernel
    refine ⟨"\n", D, p.map lineOf, rfl, rfl, .inl (.inl (.inl ?_)), ?_, q H' kp⟩
    · rw [eD, List.map_map]
      rfl
    · have := lines_sum hp
      have pl := hp.pl
      rw [List.length_map, e1]
      omega
theorem pure_fmtProj (vs : List V) (H : Hp) (Q : VK) (E : XK) (h : spFmtProj K vs H Q E) : t_fmtProj K { nx := fun _ H' => Q .non H', rt := Q } (vs.map some ++ [none]) H := by
  obtain ⟨v, p, rfl, hd, hp, q⟩ := h
  unfold t_fmtProj
  exact su_retK (ke_lines (fun _ _ _ _ h => h) (pu_var rfl) hd hp (fun _ => rfl) (fun _ => rfl)) q
end
end GL

set_option Elab.async false
set_option linter.all false
set_option maxRecDepth 100000
set_option maxHeartbeats 4000000
set_option exponentiation.threshold 100000
namespace GL
open PySem PySem.Spec PyProof.Rows L2
local macro_rules | `(tactic| walk_at "pu") => `(tactic| repeat' (first
  | ((with_reducible apply pu_var); rfl) | with_reducible exact pu_c | with_reducible exact pua_nil | ((with_reducible apply pur_i0); rfl) | with_reducible exact puu_neg | with_reducible exact puc_abs | with_reducible exact puc_intB
  | with_reducible exact puc_min | with_reducible exact puc_max | with_reducible exact puo_none
  | with_reducible apply pu_op | with_reducible apply pu_cb | with_reducible apply pua_cons | with_reducible refine put_test ?_ | with_reducible refine put_B ?_ | with_reducible refine put_not ?_ | with_reducible refine pu_notV ?_
  | with_reducible apply pu_un | with_reducible refine puo_some ?_ | ((with_reducible apply pur_i); rfl) | with_reducible exact pur_eq rfl | with_reducible exact pur_ne rfl | exact puc_lenL (by assumption) | exact puc_lenT (by assumption)
  | ((with_reducible apply pur_ixL); assumption) | ((with_reducible apply pur_ixT); assumption) | with_reducible apply pur_ixS | with_reducible apply pur_str))
local macro_rules | `(tactic| walk_at "side") => `(tactic| first
  | exact (show (0 : Int) < _ by decide) | exact Or.inl ⟨by decide, by decide⟩ | exact Or.inr ⟨by decide, by decide⟩ | exact Or.inl ⟨by omega, by omega⟩ | exact Or.inr ⟨by omega, by omega⟩
  | exact ⟨by decide, by decide, by decide⟩ | exact ⟨by decide, by decide⟩ | assumption | omega | exact ⟨by decide, by decide +kernel⟩)
/-! ### the frame of all laws -/
def spLaw (K : PySem.W.Frag) : Sp := fun vs H Q _ => ∃ (a : Addr) (ns : List Int), vs = [.ref a] ∧ SqL K H a (ns.map V.int) ∧ ns.length ≤ 63 ∧ ∀ H', Q (.bl true) H'
section
variable {K : PySem.W.Frag} {σ : L2.St} {H : Hp} {D : Ends} {tw tb : TS} {ta : TA}
theorem sq_forR {n : Int} {j : Nat} (h : PuA ta σ H [.int n]) (h0 : -1000000 ≤ n) (h1 : n ≤ 1000000) (Pv : Nat → L2.St → Hp → Prop) (hp : Pv 0 σ H)
    (hs : ∀ (i : Nat) σ' H', (i : Int) < n → Pv i σ' H' → tb { D with nx := Pv (i + 1), ct := Pv (i + 1), bk := tw D } (σ'.set j (some (.int (i : Int)))) H') (hd : ∀ σ' H', Pv n.toNat σ' H' → tw D σ' H') : tSeq (tFor (iRng1 ta) (gName j) tb) tw D σ H :=
  h _ ⟨n, rfl, by omega, by omega, for_range (lo := 0) (n := n.toNat) Pv hp (fun i σ' H' hi p => by
    have e : (0 : Int) + (i : Int) = (i : Int) := Int.zero_add _
    show tb _ (σ'.set j (some (.int ((0 : Int) + (i : Int))))) H'
    rw [e]
    exact hs i σ' H' (by omega) p) hd⟩
/-- .. as the last statement -/
theorem su_forR {n : Int} {j : Nat} (h : PuA ta σ H [.int n]) (h0 : -1000000 ≤ n) (h1 : n ≤ 1000000) (Pv : Nat → L2.St → Hp → Prop) (hp : Pv 0 σ H)
    (hs : ∀ (i : Nat) σ' H', (i : Int) < n → Pv i σ' H' → tb { D with nx := Pv (i + 1), ct := Pv (i + 1), bk := D.nx } (σ'.set j (some (.int (i : Int)))) H') (hd : ∀ σ' H', Pv n.toNat σ' H' → D.nx σ' H') : tFor (iRng1 ta) (gName j) tb D σ H :=
  h _ ⟨n, rfl, by omega, by omega, for_range (lo := 0) (n := n.toNat) Pv hp (fun i σ' H' hi p => by
    have e : (0 : Int) + (i : Int) = (i : Int) := Int.zero_add _
    show tb _ (σ'.set j (some (.int ((0 : Int) + (i : Int))))) H'
    rw [e]
    exact hs i σ' H' (by omega) p) hd⟩
theorem Keep.drop {b : Addr} {H1 H2 : Hp} (k : Keep [] H H1) (k2 : Keep [b] H1 H2) (n : H b = none) : Keep [] H H2 := fun x o _ e => k2 x o (by
  have : x ≠ b := ne_of_none e n
  simpa using this) (k x o (by simp) e)
/-- range(max(1, min(c, len(script)))) -/
theorem pu_cells {a : Addr} {xs : List V} {c : Int} (h : σ[0]? = some (some (.ref a))) (hs : SqL K H a xs) : PuA (tCons (tCB rMax2 (tCons (tC (.int 1)) (tCons (tCB rMin2 (tCons (tC (.int c)) (tCons (tCB (rLenQ K) (tCons (tVar 0) tNil)) tNil))) tNil))) tNil) σ H
    [.int (if (if (xs.length : Int) < c then (xs.length : Int) else c) > 1 then (if (xs.length : Int) < c then (xs.length : Int) else c) else 1)] := by
  refine pua_cons (pu_cb (pua_cons pu_c (pua_cons (pu_cb (pua_cons pu_c (pua_cons (pu_cb (pua_cons (pu_var h) pua_nil) (puc_lenL hs)) pua_nil)) puc_min) pua_nil)) puc_max) pua_nil
/-- repr of a project -/
theorem pu_reprP {te : TE} {v : V} {p : List Mod} (h : Pu te σ H v) (hd : Dp K H v (projD p)) (hp : Small p) : Pu (tCB (rRepr K) (tCons te tNil)) σ H (.str (projD p).shown) := by
  have g := good_proj hp
  obtain ⟨a, b, _, _⟩ := good_ok _ g
  refine pu_cb (pua_cons h pua_nil) fun Q q => ⟨v, projD p, rfl, hd, a, b, good_shown g ?_, ?_, q⟩
  · exact Nat.le_trans (weight_proj hp) (by decide)
  · exact Nat.le_trans (depth_proj p) (by decide)
end
def t_k62law (K : PySem.W.Frag) : TS :=
  (tSeq (tFor (iRng1 (tCons (tCB rMax2 (tCons (tC (.int 1)) (tCons (tCB rMin2 (tCons (tC (.int 3)) (tCons (tCB (rLenQ K) (tCons (tVar 0) tNil)) tNil))) tNil))) tNil)) (gName 1) (tSeq (tAsg (tCall (spStart K) [] E0 (tCons (tVar 0) (tCons (tVar 1) tNil))) (gName 2))
    (tFor (iRng1 (tCons (tC (.int 4)) tNil)) (gName 3) (tSeq (tAsg (tCall (spProject K) [] E0 (tCons (tVar 2) (tCons (tC (.int 12)) (tCons (tC (.int 8)) tNil)))) (gName 4))
    (tSeq (tPar 5 6 (tCons (tCB (rRepr K) (tCons (tVar 4) tNil)) (tCons (tM1 (rJoinQ K) (tC (.str "\n")) (tLc (iTup K (tVar 4)) (gName 7) tYes (tCall (spLine K) [] E0 (tCons (tVar 7) tNil)) [7])) tNil)))
    (tIfS (tOr (tTest (tOp rNe (tCall (spFmtProj K) [] E0 (tCons (tVar 4) tNil)) (tVar 6))) (tOr (tTest (tOp rNe (tCB (rRepr K) (tCons (tVar 4) tNil)) (tVar 5))) (tTest (tOp rNe (tCall (spFmtProj K) [] E0 (tCons (tTup tNil) tNil)) (tC (.str "")))))) (tRet (tC (.bl false))) tNext))))))
    (tRet (tC (.bl true))))

theorem pure_k62law {K : PySem.W.Frag} (vs : List V) (H : Hp) (Q : VK) (E : XK) (h : spLaw K vs H Q E) : t_k62law K { nx := fun _ H' => Q .non H', rt := Q } (vs.map some ++ [none, none, none, none, none, none, none]) H := by
  obtain ⟨a, ns, rfl, hS, hn, q⟩ := h
  unfold t_k62law
  refine sq_forR (pu_cells rfl hS) (by split <;> split <;> omega) (by split <;> split <;> omega) (fun i σ' H' => ∃ y1 y2 y3 y4 y5 y6 y7, σ' = [some (.ref a), y1, y2, y3, y4, y5, y6, y7] ∧ Keep [] H H') ⟨_, _, _, _, _, _, _, rfl, .refl⟩ ?_ ?_
  · rintro i σ' H' hi ⟨y1, y2, y3, y4, y5, y6, y7, rfl, kk⟩
    refine sq_doN (ad_call (ac_var rfl (ac_var rfl (ac_nil ⟨a, ns, i, rfl, kk.sql (by simp) hS, ?_, fun H1 b k1 nb s1 => ?_⟩))))
    · split at hi <;> (try split at hi) <;> omega
    have nbH : H b = none := kk.back (by simp) nb
    have kk1 := kk.trans k1
    refine su_forR (by walk_at "pu") (by decide) (by decide) (fun j σ' H' => ∃ y3 y4 y5 y6 y7, σ' = [some (.ref a), some (.int i), some (.ref b), y3, y4, y5, y6, y7] ∧ Keep [] H H' ∧ Src H' b (j * 3000)) ⟨_, _, _, _, _, rfl, kk1, s1⟩ ?_ ?_
    · rintro j σ' H2 hj ⟨z3, z4, z5, z6, z7, rfl, kk2, s2⟩
      refine sq_doN (ad_call (ac_var rfl (ac_pu pu_c (ac_pu pu_c (ac_nil ⟨b, 12, 8, _, rfl, s2, by omega, by decide, by decide, by decide, fun H3 v p k3 s3 dp ok p1 p2 il => ?_⟩)))))
      have kk3 := kk2.drop k3 nbH
      have sm : Small p := ok.small (fun m hm => by have := il m hm; omega) (by omega)
      refine sq_par (ac_pu (pu_reprP (pu_var rfl) dp sm) (al_cons (ke_lines (fun _ _ _ _ h => h) (pu_var rfl) dp sm (fun _ => rfl) (fun _ => rfl) _ fun H4 k4 => ac_nil ⟨_, _, rfl, ?_⟩)))
      have dp4 := dp_proj_tk dp k4.tk
      have kk4 := kk3.trans k4
      have s4 := s3.keep k4 (by simp)
      refine ket_or (a := false) (b := false) (ket_test (ke_op (x := .str (Txt.join "\n" (p.map lineOf))) (ke_call (pua_cons (pu_var rfl) pua_nil) fun Q q => ⟨v, p, rfl, dp4, sm, q⟩) (fun _ _ => (pu_var rfl).ke) fun H' _ Q q => ⟨rfl, by rw [decide_eq_true rfl]; exact q _ .refl⟩)) (fun _ H5 k5 => ket_or (a := false) (b := false) (ket_test (ke_op (pu_reprP (pu_var rfl) (dp_proj_tk dp4 k5.tk) sm).ke (fun _ _ => (pu_var rfl).ke) fun H' _ Q q => ⟨rfl, by rw [decide_eq_true rfl]; exact q _ .refl⟩)) fun _ H6 k6 => ket_test fun Q q => ?_) _ fun H7 k7 => ?_
      · refine al_op (ad_call (ac_tup ⟨by decide, fun e ne => ac_nil ⟨.ref e, [], rfl, .tup (.inl (.inl upd_same)) .nil, ⟨(fun _ h => nomatch h), (fun _ h => nomatch h), (fun _ h => nomatch h), by decide⟩, fun H8 k8 => ?_⟩⟩))
        refine (pu_c : Pu (tC (.str "")) _ _ _) _ ⟨rfl, ?_⟩
        rw [show decide (V.str (Txt.join "\n" ([].map lineOf)) = V.str "") = true by decide +kernel]
        exact q H8 (Keep.trans (.new ne) k8)
      · exact ⟨_, _, _, _, _, rfl, kk4.trans k7, (s4.keep k7 (by simp)).mono (by omega)⟩
    · rintro σ' H2 ⟨z3, z4, z5, z6, z7, rfl, kk2, s2⟩
      exact ⟨_, _, _, _, _, _, _, rfl, kk2⟩
  · rintro σ' H' ⟨y1, y2, y3, y4, y5, y6, y7, rfl, kk⟩
    exact su_ret pu_c (q _)
end GL

set_option Elab.async false
set_option linter.all false
set_option maxRecDepth 100000
set_option maxHeartbeats 4000000
set_option exponentiation.threshold 100000
namespace GL
open PySem PySem.Spec PyProof.Rows L2
section
variable {P : Program} {w : World} {K : PySem.W.Frag} {mg : Str → Option Value} {base : Heap} {k : Nat} {x : Str} {st : Stmt} {f : Addr} {fd : FuncData} {N ps : List Str} {sp : Sp}
theorem start_of {N : List Str} {vs : List V} {n : Nat} (h : vs.length + n = N.length) : L2.start N vs = vs.map some ++ List.replicate n none := by
  unfold L2.start
  rw [show N.length - vs.length = n by omega]
/-- a def by its reading -/
theorem dnp (F : FnP K x st f fd) (hm : mg x = some (.ref f)) (S : FnScope N ps (defScope st)) (n : Nat) (hn : ps.length + n = N.length) (len : ∀ vs H Q E, sp vs H Q E → vs.length = ps.length)
    (hb : ∀ (kV doc pm : Value) (an : Option Addr) (cdv ct : Value) (us : List Value), us.length = ps.length → bindArgs (PySem.W.fnOf x x (defArgs st) (defBody st) (defScope st) .none kV doc pm an cdv ct) ⟨us, []⟩ = pure (ps.zip us))
    (t : TS) (hpure : ∀ vs H Q E, sp vs H Q E → t { nx := fun _ H' => Q .non H', rt := Q } (vs.map some ++ List.replicate n none) H)
    (hbody : ∀ (cdv : Value) (A : Around) (outer : List Env) (s : Shared) (H : Hp) (E : XK), Room k (A.deeper (envOfC x (defScope st) s.heap.objs.size f cdv)) →
      PSs (cxOf CX0 P w K mg base N x (defScope st) f cdv A outer s H E).nox (defBody st) t) : Dn P w K mg base (k + 1) x sp :=
  dn_of F hm S len hb t hbody fun vs H Q E h => by
    rw [start_of (n := n) (by rw [len vs H Q E h]; exact hn)]
    exact hpure vs H Q E h
theorem dnpG (F : FnP K x st f fd) (hm : mg x = some (.ref f)) (S : FnScope N ps (defScope st)) (n : Nat) (hn : ps.length + n = N.length) (len : ∀ vs H Q E, sp vs H Q E → vs.length = ps.length)
    (hb : ∀ (kV doc pm : Value) (an : Option Addr) (cdv ct : Value) (us : List Value), us.length = ps.length → bindArgs (PySem.W.fnOf x x (defArgs st) (defBody st) (defScope st) .none kV doc pm an cdv ct) ⟨us, []⟩ = pure (ps.zip us))
    (t : TS) (hpure : ∀ vs H Q E, sp vs H Q E → t { nx := fun _ H' => Q .non H', rt := Q } (vs.map some ++ List.replicate n none) H)
    (hbody : ∀ (cdv : Value) (A : Around) (outer : List Env) (s : Shared) (H : Hp) (E : XK), A.guards = some [] → Room k (A.deeper (envOfC x (defScope st) s.heap.objs.size f cdv)) →
      PSs (cxOf CX0 P w K mg base N x (defScope st) f cdv A outer s H E).nox (defBody st) t) : DnG P w K mg base (k + 1) x sp :=
  dnG_of F hm S len hb t hbody fun vs H Q E h => by
    rw [start_of (n := n) (by rw [len vs H Q E h]; exact hn)]
    exact hpure vs H Q E h
/-- the law itself -/
theorem lawFn (F : FnP K x st f fd) (S : FnScope N ps (defScope st)) (n : Nat) (hn : ps.length + n = N.length) (len : ∀ vs H Q E, sp vs H Q E → vs.length = ps.length)
    (t : TS) (hpure : ∀ vs H Q E, sp vs H Q E → t { nx := fun _ H' => Q .non H', rt := Q } (vs.map some ++ List.replicate n none) H)
    (hbody : ∀ (cdv : Value) (A : Around) (outer : List Env) (s : Shared) (H : Hp) (E : XK), A.guards = some [] → Room k (A.deeper (envOfC x (defScope st) s.heap.objs.size f cdv)) →
      PSs (cxOf CX0 P w K mg base N x (defScope st) f cdv A outer s H E).nox (defBody st) t) : FnG P w K mg base CX0 (k + 1) f fd ps sp := by
  obtain ⟨oc, od, dV, kV, doc, pm, an, cdv, ct, osl, rfl, lk, hcd, _⟩ := F.ex
  refine fnG_of lk hcd S len fun A outer s H vs Q E hg hr h => ⟨t, (hbody cdv A outer s H E hg hr).nox, ?_⟩
  rw [start_of (n := n) (by rw [len vs H Q E h]; exact hn)]
  exact hpure vs H Q E h
end
end GL

set_option linter.all false
/-! RM: visiting a graph in depth: plain mathematics. -/
namespace RM
section
variable {α : Type} [DecidableEq α] {g g' : α → List α} {S S' L L1 L2 E E' R : List α} {x F : α}
/-- visiting the names of L one after the other, where S counts as visited, runs E -/
inductive VL (g : α → List α) : List α → List α → List α → Prop
  | nil {S : List α} : VL g S [] []
  | skip {S : List α} {x : α} {L : List α} {E : List α} : x ∈ S → VL g S L E → VL g S (x :: L) E
  | go {S : List α} {x : α} {L : List α} {E1 : List α} {E2 : List α} : x ∉ S → VL g (x :: S) (g x) E1 → VL g (x :: (E1 ++ S)) L E2 → VL g S (x :: L) (E1 ++ x :: E2)
theorem VL.ext (h : VL g S L E) : ∀ {S'}, (∀ y, y ∈ S ↔ y ∈ S') → VL g S' L E := by
  induction h with
  | nil => intro S' _; exact .nil
  | skip hx _ ih => intro S' e; exact .skip ((e _).mp hx) (ih e)
  | @go S x L E1 E2 hx _ _ ih1 ih2 =>
    intro S' e
    refine .go (fun z => hx ((e _).mpr z)) (ih1 fun y => ?_) (ih2 fun y => ?_)
    · simp only [List.mem_cons, e]
    · simp only [List.mem_cons, List.mem_append, e]
theorem VL.det (h : VL g S L E) : ∀ {E'}, VL g S L E' → E = E' := by
  induction h with
  | nil => intro E' h'; cases h'; rfl
  | skip hx _ ih =>
    intro E' h'
    cases h' with
    | skip _ h2 => exact ih h2
    | go hn _ _ => exact absurd hx hn
  | go hx _ _ ih1 ih2 =>
    intro E' h'
    cases h' with
    | skip hn _ => exact absurd hn hx
    | go _ h1 h2 =>
      have e1 := ih1 h1
      subst e1
      rw [ih2 h2]
/-- what runs was not visited -/
theorem VL.fresh (h : VL g S L E) : ∀ y ∈ E, y ∉ S := by
  induction h with
  | nil => intro y hy; cases hy
  | skip _ _ ih => exact ih
  | @go S x L E1 E2 hx _ _ ih1 ih2 =>
    intro y hy hS
    rcases List.mem_append.mp hy with hy | hy
    · exact ih1 y hy (List.mem_cons_of_mem _ hS)
    · rcases List.mem_cons.mp hy with rfl | hy
      · exact hx hS
      · exact ih2 y hy (List.mem_cons_of_mem _ (List.mem_append_right _ hS))
theorem VL.nodup (h : VL g S L E) : E.Nodup := by
  induction h with
  | nil => exact .nil
  | skip _ _ ih => exact ih
  | @go S x L E1 E2 hx h1 h2 ih1 ih2 =>
    refine List.nodup_append.mpr ⟨ih1, List.nodup_cons.mpr ⟨fun z => h2.fresh x z List.mem_cons_self, ih2⟩, ?_⟩
    intro a ha b hb e
    subst e
    rcases List.mem_cons.mp hb with rfl | hb
    · exact h1.fresh _ ha List.mem_cons_self
    · exact h2.fresh _ hb (List.mem_cons_of_mem _ (List.mem_append_left _ ha))
/-- what was asked for is visited or runs -/
theorem VL.covers (h : VL g S L E) : ∀ y ∈ L, y ∈ S ∨ y ∈ E := by
  induction h with
  | nil => intro y hy; cases hy
  | skip hx _ ih =>
    intro y hy
    rcases List.mem_cons.mp hy with rfl | hy
    · exact .inl hx
    · exact ih y hy
  | @go S x L E1 E2 hx h1 h2 ih1 ih2 =>
    intro y hy
    rcases List.mem_cons.mp hy with rfl | hy
    · exact .inr (List.mem_append_right _ List.mem_cons_self)
    · rcases ih2 y hy with z | z
      · rcases List.mem_cons.mp z with rfl | z
        · exact .inr (List.mem_append_right _ List.mem_cons_self)
        · rcases List.mem_append.mp z with z | z
          · exact .inr (List.mem_append_left _ z)
          · exact .inl z
      · exact .inr (List.mem_append_right _ (List.mem_cons_of_mem _ z))
/-- what runs has its imports visited or run -/
theorem VL.closed (h : VL g S L E) : ∀ y ∈ E, ∀ z ∈ g y, z ∈ S ∨ z ∈ E := by
  induction h with
  | nil => intro y hy; cases hy
  | skip _ _ ih => exact ih
  | @go S x L E1 E2 hx h1 h2 ih1 ih2 =>
    intro y hy z hz
    have one : ∀ w, w ∈ x :: S ∨ w ∈ E1 → w ∈ S ∨ w ∈ E1 ++ x :: E2 := fun w hw => by
      rcases hw with hw | hw
      · rcases List.mem_cons.mp hw with rfl | hw
        · exact .inr (List.mem_append_right _ List.mem_cons_self)
        · exact .inl hw
      · exact .inr (List.mem_append_left _ hw)
    rcases List.mem_append.mp hy with hy | hy
    · exact one z (ih1 y hy z hz)
    · rcases List.mem_cons.mp hy with rfl | hy
      · exact one z (h1.covers z hz)
      · rcases ih2 y hy z hz with q | q
        · rcases List.mem_cons.mp q with rfl | q
          · exact one _ (.inl List.mem_cons_self)
          · rcases List.mem_append.mp q with q | q
            · exact one z (.inr q)
            · exact .inl q
        · exact .inr (List.mem_append_right _ (List.mem_cons_of_mem _ q))
/-- a set that is closed holds all that runs -/
theorem VL.within (h : VL g S L E) : ∀ {R : List α}, (∀ y ∈ R, ∀ z ∈ g y, z ∈ S ∨ z ∈ R) → (∀ y ∈ L, y ∈ S ∨ y ∈ R) → ∀ y ∈ E, y ∈ R := by
  induction h with
  | nil => intro R _ _ y hy; cases hy
  | skip _ _ ih => intro R cl hl; exact ih cl fun y hy => hl y (List.mem_cons_of_mem _ hy)
  | @go S x L E1 E2 hx h1 h2 ih1 ih2 =>
    intro R cl hl y hy
    have hxR : x ∈ R := (hl x List.mem_cons_self).resolve_left hx
    rcases List.mem_append.mp hy with hy | hy
    · exact ih1 (fun w hw z hz => (cl w hw z hz).imp_left (List.mem_cons_of_mem _)) (fun z hz => (cl x hxR z hz).imp_left (List.mem_cons_of_mem _)) y hy
    · rcases List.mem_cons.mp hy with rfl | hy
      · exact hxR
      · exact ih2 (fun w hw z hz => (cl w hw z hz).imp_left fun q => List.mem_cons_of_mem _ (List.mem_append_right _ q)) (fun z hz => (hl z (List.mem_cons_of_mem _ hz)).imp_left fun q => List.mem_cons_of_mem _ (List.mem_append_right _ q)) y hy
theorem VL.app (h1 : VL g S L1 E) (h2 : VL g (E ++ S) L2 E') : VL g S (L1 ++ L2) (E ++ E') := by
  induction h1 generalizing L2 E' with
  | nil => exact h2
  | skip hx _ ih => exact .skip hx (ih h2)
  | @go S x L E1 E2 hx a b ih1 ih2 =>
    have h3 : VL g (E2 ++ (x :: (E1 ++ S))) L2 E' := h2.ext fun y => by
      simp only [List.mem_append, List.mem_cons]
      constructor
      · rintro ((h | h | h) | h)
        · exact .inr (.inr (.inl h))
        · exact .inr (.inl h)
        · exact .inl h
        · exact .inr (.inr (.inr h))
      · rintro (h | h | h | h)
        · exact .inl (.inr (.inr h))
        · exact .inl (.inr (.inl h))
        · exact .inl (.inl h)
        · exact .inr h
    have := VL.go (L := L ++ L2) hx a (ih2 h3)
    rw [List.append_assoc]
    exact this
theorem VL.unapp : ∀ {L1 S E}, VL g S (L1 ++ L2) E → ∃ E1 E2, VL g S L1 E1 ∧ VL g (E1 ++ S) L2 E2 ∧ E = E1 ++ E2
  | [], S, E, h => ⟨[], E, .nil, h, rfl⟩
  | x :: L1, S, E, h => by
    cases h with
    | skip hx h =>
      obtain ⟨E1, E2, a, b, e⟩ := VL.unapp h
      exact ⟨E1, E2, .skip hx a, b, e⟩
    | @go _ _ _ Ex E0 hx h1 h2 =>
      obtain ⟨E1, E2, a, b, rfl⟩ := VL.unapp h2
      refine ⟨Ex ++ x :: E1, E2, .go hx h1 a, b.ext fun y => ?_, by simp⟩
      simp only [List.mem_append, List.mem_cons]
      constructor
      · rintro (h | h | h | h)
        · exact .inl (.inr (.inr h))
        · exact .inl (.inr (.inl h))
        · exact .inl (.inl h)
        · exact .inr h
      · rintro ((h | h | h) | h)
        · exact .inr (.inr (.inl h))
        · exact .inr (.inl h)
        · exact .inl h
        · exact .inr (.inr (.inr h))
/-- what is closed may be taken away -/
theorem VL.restrict (h : VL g S L E) : ∀ {R : List α}, (∀ y ∈ R, ∀ z ∈ g y, z ∈ S ∨ z ∈ R) → VL g (R ++ S) L (E.filter fun y => decide (y ∉ R)) := by
  induction h with
  | nil => intro R _; exact .nil
  | skip hx _ ih => intro R cl; exact .skip (List.mem_append_right _ hx) (ih cl)
  | @go S x L E1 E2 hx h1 h2 ih1 ih2 =>
    intro R cl
    have cl1 : ∀ y ∈ R, ∀ z ∈ g y, z ∈ x :: S ∨ z ∈ R := fun y hy z hz => (cl y hy z hz).imp_left (List.mem_cons_of_mem _)
    have cl2 : ∀ y ∈ R, ∀ z ∈ g y, z ∈ x :: (E1 ++ S) ∨ z ∈ R := fun y hy z hz => (cl y hy z hz).imp_left fun q => List.mem_cons_of_mem _ (List.mem_append_right _ q)
    rw [List.filter_append]
    by_cases hR : x ∈ R
    · have sub : ∀ y ∈ E1, y ∈ R := h1.within cl1 fun z hz => cl1 x hR z hz
      have e1 : (E1.filter fun y => decide (y ∉ R)) = [] := List.filter_eq_nil_iff.mpr fun y hy => by simpa using sub y hy
      rw [e1, List.nil_append, List.filter_cons_of_neg (by simpa using hR)]
      refine .skip (List.mem_append_left _ hR) ((ih2 cl2).ext fun y => ?_)
      simp only [List.mem_append, List.mem_cons]
      constructor
      · rintro (h | rfl | h | h)
        · exact .inl h
        · exact .inl hR
        · exact .inl (sub y h)
        · exact .inr h
      · rintro (h | h)
        · exact .inl h
        · exact .inr (.inr (.inr h))
    · rw [List.filter_cons_of_pos (by simpa using hR)]
      refine .go (fun z => (List.mem_append.mp z).elim hR hx) ((ih1 cl1).ext fun y => ?_) ((ih2 cl2).ext fun y => ?_)
      · simp only [List.mem_append, List.mem_cons]
        constructor
        · rintro (h | h | h)
          · exact .inr (.inl h)
          · exact .inl h
          · exact .inr (.inr h)
        · rintro (h | h | h)
          · exact .inr (.inl h)
          · exact .inl h
          · exact .inr (.inr h)
      · simp only [List.mem_append, List.mem_cons, List.mem_filter, decide_eq_true_eq]
        constructor
        · rintro (h | h | h | h)
          · exact .inr (.inr (.inl h))
          · exact .inl h
          · by_cases q : y ∈ R
            · exact .inr (.inr (.inl q))
            · exact .inr (.inl ⟨h, q⟩)
          · exact .inr (.inr (.inr h))
        · rintro (h | h | h | h)
          · exact .inr (.inl h)
          · exact .inr (.inr (.inl h.1))
          · exact .inl h
          · exact .inr (.inr (.inr h))
/-- the imports of what is visited do not matter -/
theorem VL.graph (h : VL g S L E) : (∀ y, y ∉ S → g y = g' y) → VL g' S L E := by
  induction h with
  | nil => intro _; exact .nil
  | skip hx _ ih => intro e; exact .skip hx (ih e)
  | go hx h1 h2 ih1 ih2 =>
    intro e
    have a := ih1 fun y hy => e y fun z => hy (List.mem_cons_of_mem _ z)
    rw [e _ hx] at a
    exact .go hx a (ih2 fun y hy => e y fun z => hy (List.mem_cons_of_mem _ (List.mem_append_right _ z)))
/-! ### with a bound of the depth; all of it exists -/
inductive VD (g : α → List α) : Nat → List α → List α → List α → Prop
  | nil {d : Nat} {S : List α} : VD g d S [] []
  | skip {d : Nat} {S : List α} {x : α} {L : List α} {E : List α} : x ∈ S → VD g d S L E → VD g d S (x :: L) E
  | go {d : Nat} {S : List α} {x : α} {L : List α} {E1 : List α} {E2 : List α} : x ∉ S → VD g d (x :: S) (g x) E1 → VD g (d + 1) (x :: (E1 ++ S)) L E2 → VD g (d + 1) S (x :: L) (E1 ++ x :: E2)
theorem VD.vl {d : Nat} (h : VD g d S L E) : VL g S L E := by
  induction h with
  | nil => exact .nil
  | skip hx _ ih => exact .skip hx ih
  | go hx _ _ ih1 ih2 => exact .go hx ih1 ih2
theorem VD.ext {d : Nat} (h : VD g d S L E) : ∀ {S'}, (∀ y, y ∈ S ↔ y ∈ S') → VD g d S' L E := by
  induction h with
  | nil => intro S' _; exact .nil
  | skip hx _ ih => intro S' e; exact .skip ((e _).mp hx) (ih e)
  | go hx _ _ ih1 ih2 =>
    intro S' e
    refine .go (fun z => hx ((e _).mpr z)) (ih1 fun y => ?_) (ih2 fun y => ?_)
    · simp only [List.mem_cons, e]
    · simp only [List.mem_cons, List.mem_append, e]
def cnt (N S : List α) : Nat := (N.filter fun y => decide (y ∉ S)).length
theorem cnt_lt {N S : List α} {x : α} (hx : x ∈ N) (hS : x ∉ S) : cnt N (x :: S) < cnt N S := by
  unfold cnt
  induction N with
  | nil => cases hx
  | cons a r ih =>
    have le : ∀ r : List α, (r.filter fun y => decide (y ∉ x :: S)).length ≤ (r.filter fun y => decide (y ∉ S)).length := fun r => by
      induction r with
      | nil => exact Nat.le_refl _
      | cons b t iht =>
        by_cases h1 : b ∈ S
        · rw [List.filter_cons_of_neg (by simp [h1]), List.filter_cons_of_neg (by simp [h1])]
          exact iht
        · rw [List.filter_cons_of_pos (p := fun y => decide (y ∉ S)) (by simpa using h1)]
          by_cases h2 : b = x
          · rw [List.filter_cons_of_neg (by simp [h2])]
            exact Nat.le_succ_of_le iht
          · rw [List.filter_cons_of_pos (by simp [h1, h2])]
            exact Nat.succ_le_succ iht
    by_cases hax : a = x
    · subst hax
      rw [List.filter_cons_of_neg (by simp), List.filter_cons_of_pos (p := fun y => decide (y ∉ S)) (by simpa using hS)]
      exact Nat.lt_succ_of_le (le r)
    · have hr : x ∈ r := (List.mem_cons.mp hx).resolve_left fun e => hax e.symm
      by_cases h1 : a ∈ S
      · rw [List.filter_cons_of_neg (by simp [h1]), List.filter_cons_of_neg (by simp [h1])]
        exact ih hr
      · rw [List.filter_cons_of_pos (by simp [h1, hax]), List.filter_cons_of_pos (p := fun y => decide (y ∉ S)) (by simpa using h1)]
        exact Nat.succ_lt_succ (ih hr)
theorem cnt_mono {N S S' : List α} (h : ∀ y ∈ S, y ∈ S') : cnt N S' ≤ cnt N S := by
  unfold cnt
  induction N with
  | nil => exact Nat.le_refl _
  | cons b t iht =>
    by_cases h1 : b ∈ S'
    · rw [List.filter_cons_of_neg (by simp [h1])]
      by_cases h2 : b ∈ S
      · rw [List.filter_cons_of_neg (by simp [h2])]
        exact iht
      · rw [List.filter_cons_of_pos (by simp [h2])]
        exact Nat.le_succ_of_le iht
    · have h2 : b ∉ S := fun z => h1 (h b z)
      rw [List.filter_cons_of_pos (by simp [h1]), List.filter_cons_of_pos (by simp [h2])]
      exact Nat.succ_le_succ iht
theorem VD.more {d d' : Nat} (h : VD g d S L E) : d ≤ d' → VD g d' S L E := by
  induction h generalizing d' with
  | nil => intro _; exact .nil
  | skip hx _ ih => intro e; exact .skip hx (ih e)
  | go hx _ _ ih1 ih2 =>
    intro e
    obtain ⟨k, rfl⟩ : ∃ k, d' = k + 1 := ⟨d' - 1, by omega⟩
    exact .go hx (ih1 (by omega)) (ih2 e)
theorem VD.total {N : List α} (cl : ∀ y ∈ N, ∀ z ∈ g y, z ∈ N) : ∀ (d : Nat) (S L : List α), cnt N S ≤ d → (∀ y ∈ L, y ∈ N) → ∃ E, VD g d S L E := by
  intro d
  induction d with
  | zero =>
    intro S L hd hl
    induction L with
    | nil => exact ⟨[], .nil⟩
    | cons x L ih =>
      obtain ⟨E, hE⟩ := ih fun y hy => hl y (List.mem_cons_of_mem _ hy)
      by_cases hx : x ∈ S
      · exact ⟨E, .skip hx hE⟩
      · have := cnt_lt (hl x List.mem_cons_self) hx
        omega
  | succ d ihd =>
    intro S L
    induction L generalizing S with
    | nil => intro _ _; exact ⟨[], .nil⟩
    | cons x L ih =>
      intro hd hl
      have hl' : ∀ y ∈ L, y ∈ N := fun y hy => hl y (List.mem_cons_of_mem _ hy)
      by_cases hx : x ∈ S
      · obtain ⟨E, hE⟩ := ih S hd hl'
        exact ⟨E, .skip hx hE⟩
      · have hlt := cnt_lt (hl x List.mem_cons_self) hx
        obtain ⟨E1, h1⟩ := ihd (x :: S) (g x) (by omega) (cl x (hl x List.mem_cons_self))
        obtain ⟨E2, h2⟩ := ih (x :: (E1 ++ S)) (Nat.le_trans (cnt_mono fun y hy => by simp [hy]) hd) hl'
        exact ⟨_, .go hx h1 h2⟩
theorem cnt_le (N S : List α) : cnt N S ≤ N.length := List.length_filter_le _ _
/-! ### a stack of what is left to do -/
inductive Op (α : Type)
  | come (n : α) | leave (n : α)
inductive VS (g : α → List α) : List α → List (Op α) → List α → Prop
  | nil {S : List α} : VS g S [] []
  | leave {S : List α} {n : α} {s : List (Op α)} {E : List α} : VS g S s E → VS g S (.leave n :: s) (n :: E)
  | skip {S : List α} {n : α} {s : List (Op α)} {E : List α} : n ∈ S → VS g S s E → VS g S (.come n :: s) E
  | come {S : List α} {n : α} {s : List (Op α)} {E : List α} : n ∉ S → VS g (n :: S) ((g n).map .come ++ .leave n :: s) E → VS g S (.come n :: s) E
theorem VS.ext {s : List (Op α)} (h : VS g S s E) : ∀ {S'}, (∀ y, y ∈ S ↔ y ∈ S') → VS g S' s E := by
  induction h with
  | nil => intro S' _; exact .nil
  | leave _ ih => intro S' e; exact .leave (ih e)
  | skip hx _ ih => intro S' e; exact .skip ((e _).mp hx) (ih e)
  | come hx _ ih => intro S' e; exact .come (fun z => hx ((e _).mpr z)) (ih fun y => by simp only [List.mem_cons, e])
theorem VS.det {s : List (Op α)} (h : VS g S s E) : ∀ {E'}, VS g S s E' → E = E' := by
  induction h with
  | nil => intro E' h'; cases h'; rfl
  | leave _ ih => intro E' h'; cases h' with | leave h2 => rw [ih h2]
  | skip hx _ ih =>
    intro E' h'
    cases h' with
    | skip _ h2 => exact ih h2
    | come hn _ => exact absurd hx hn
  | come hx _ ih =>
    intro E' h'
    cases h' with
    | skip hn _ => exact absurd hn hx
    | come _ h2 => exact ih h2
theorem VS.graph {s : List (Op α)} (h : VS g S s E) : (∀ y, y ∉ S → g y = g' y) → VS g' S s E := by
  induction h with
  | nil => intro _; exact .nil
  | leave _ ih => intro e; exact .leave (ih e)
  | skip hx _ ih => intro e; exact .skip hx (ih e)
  | come hx _ ih =>
    intro e
    have a := ih fun y hy => e y fun z => hy (List.mem_cons_of_mem _ z)
    rw [e _ hx] at a
    exact .come hx a
/-- names on the stack are visited one after the other -/
theorem VL.push {s : List (Op α)} {E2 : List α} (h : VL g S L E) : VS g (E ++ S) s E2 → VS g S (L.map .come ++ s) (E ++ E2) := by
  induction h generalizing s E2 with
  | nil => exact id
  | skip hx _ ih => intro h2; exact .skip hx (ih h2)
  | @go S x L E1 E3 hx h1 h2 ih1 ih2 =>
    intro h3
    have b := ih2 (s := s) (E2 := E2) (h3.ext fun y => by
      simp only [List.mem_append, List.mem_cons]
      constructor
      · rintro ((h | h | h) | h)
        · exact .inr (.inr (.inl h))
        · exact .inr (.inl h)
        · exact .inl h
        · exact .inr (.inr (.inr h))
      · rintro (h | h | h | h)
        · exact .inl (.inr (.inr h))
        · exact .inl (.inr (.inl h))
        · exact .inl (.inl h)
        · exact .inr h)
    have c := ih1 (s := .leave x :: (L.map .come ++ s)) (.leave (b.ext fun y => by
      simp only [List.mem_append, List.mem_cons]
      constructor
      · rintro (h | h | h)
        · exact .inr (.inl h)
        · exact .inl h
        · exact .inr (.inr h)
      · rintro (h | h | h)
        · exact .inr (.inl h)
        · exact .inl h
        · exact .inr (.inr h)))
    rw [List.append_assoc, List.cons_append]
    exact .come hx c
/-- where a file is met first: ahead of it nothing hangs on its imports -/
theorem VS.meet {s : List (Op α)} (h : VS g S s E) (hF : F ∉ S) : (F ∉ E → True) ∧ ((∀ g'', (∀ y, y ≠ F → g y = g'' y) → VS g'' S s E) ∨
    ∃ pre S1 s1 E1, F ∉ S1 ∧ E = pre ++ E1 ∧ VS g S1 (.come F :: s1) E1 ∧ ∀ g'' E'', (∀ y, y ≠ F → g y = g'' y) → VS g'' S1 (.come F :: s1) E'' → VS g'' S s (pre ++ E'')) := by
  refine ⟨fun _ => trivial, ?_⟩
  induction h with
  | nil => exact .inl fun _ _ => .nil
  | @leave S n s E h ih =>
    rcases ih hF with a | ⟨pre, S1, s1, E1, h1, rfl, h2, h3⟩
    · exact .inl fun g'' e => .leave (a g'' e)
    · exact .inr ⟨n :: pre, S1, s1, E1, h1, rfl, h2, fun g'' E'' e h4 => .leave (h3 g'' E'' e h4)⟩
  | @skip S n s E hx h ih =>
    rcases ih hF with a | ⟨pre, S1, s1, E1, h1, rfl, h2, h3⟩
    · exact .inl fun g'' e => .skip hx (a g'' e)
    · exact .inr ⟨pre, S1, s1, E1, h1, rfl, h2, fun g'' E'' e h4 => .skip hx (h3 g'' E'' e h4)⟩
  | @come S n s E hx h ih =>
    by_cases hn : n = F
    · subst hn
      exact .inr ⟨[], S, s, E, hF, rfl, .come hx h, fun _ _ _ h4 => h4⟩
    · have hF' : F ∉ n :: S := fun z => (List.mem_cons.mp z).elim (fun e => hn e.symm) hF
      rcases ih hF' with a | ⟨pre, S1, s1, E1, h1, rfl, h2, h3⟩
      · exact .inl fun g'' e => .come hx (by rw [← e n hn]; exact a g'' e)
      · exact .inr ⟨pre, S1, s1, E1, h1, rfl, h2, fun g'' E'' e h4 => .come hx (by rw [← e n hn]; exact h3 g'' E'' e h4)⟩
end
end RM
namespace RM
section
variable {α : Type} [DecidableEq α] {g g' : α → List α} {S S' L L1 L2 E E' R N : List α} {x F : α}
def Stk (N : List α) (s : List (Op α)) : Prop := ∀ n, Op.come n ∈ s → n ∈ N
/-- the graph in which F has the imports L -/
def giv (g : α → List α) (F : α) (L : List α) : α → List α := fun y => if y = F then L else g y
theorem giv_ne {y : α} (h : y ≠ F) : giv g F L y = g y := if_neg h
theorem giv_self : giv g F L F = L := if_pos rfl
theorem Stk.push {s : List (Op α)} (h : Stk N s) {n : α} (hl : ∀ y ∈ L, y ∈ N) : Stk N (L.map .come ++ .leave n :: s) := by
  intro m hm
  rcases List.mem_append.mp hm with hm | hm
  · obtain ⟨y, hy, e⟩ := List.mem_map.mp hm
    cases e
    exact hl m hy
  · rcases List.mem_cons.mp hm with hm | hm
    · cases hm
    · exact h m hm
theorem VL.total (cl : ∀ y ∈ N, ∀ z ∈ g y, z ∈ N) (S : List α) (hl : ∀ y ∈ L, y ∈ N) : ∃ E, VL g S L E := by
  obtain ⟨E, h⟩ := VD.total cl (cnt N S) S L (Nat.le_refl _) hl
  exact ⟨E, h.vl⟩
theorem VS.total (cl : ∀ y ∈ N, ∀ z ∈ g y, z ∈ N) : ∀ (s : List (Op α)) (S : List α), Stk N s → ∃ E, VS g S s E
  | [], S, _ => ⟨[], .nil⟩
  | .leave n :: s, S, h => by
    obtain ⟨E, hE⟩ := VS.total cl s S fun m hm => h m (List.mem_cons_of_mem _ hm)
    exact ⟨_, .leave hE⟩
  | .come n :: s, S, h => by
    obtain ⟨E1, h1⟩ := VL.total (L := [n]) cl S fun y hy => by
      have : y = n := by simpa using hy
      subst this
      exact h _ List.mem_cons_self
    obtain ⟨E, hE⟩ := VS.total cl s (E1 ++ S) fun m hm => h m (List.mem_cons_of_mem _ hm)
    exact ⟨_, h1.push hE⟩
theorem VS.meetN (cl : ∀ y ∈ N, y ≠ F → ∀ z ∈ g y, z ∈ N) {s : List (Op α)} (h : VS g S s E) : Stk N s → F ∉ S → (∀ g'', (∀ y, y ≠ F → g y = g'' y) → VS g'' S s E) ∨
    ∃ pre S1 s1, Stk N s1 ∧ F ∉ S1 ∧ ∀ g'' E'', (∀ y, y ≠ F → g y = g'' y) → VS g'' S1 (.come F :: s1) E'' → VS g'' S s (pre ++ E'') := by
  induction h with
  | nil => intro _ _; exact .inl fun _ _ => .nil
  | @leave S n s E h ih =>
    intro st hF
    rcases ih (fun m hm => st m (List.mem_cons_of_mem _ hm)) hF with a | ⟨pre, S1, s1, h0, h1, h3⟩
    · exact .inl fun g'' e => .leave (a g'' e)
    · exact .inr ⟨n :: pre, S1, s1, h0, h1, fun g'' E'' e h4 => .leave (h3 g'' E'' e h4)⟩
  | @skip S n s E hx h ih =>
    intro st hF
    rcases ih (fun m hm => st m (List.mem_cons_of_mem _ hm)) hF with a | ⟨pre, S1, s1, h0, h1, h3⟩
    · exact .inl fun g'' e => .skip hx (a g'' e)
    · exact .inr ⟨pre, S1, s1, h0, h1, fun g'' E'' e h4 => .skip hx (h3 g'' E'' e h4)⟩
  | @come S n s E hx h ih =>
    intro st hF
    have st' : Stk N s := fun m hm => st m (List.mem_cons_of_mem _ hm)
    by_cases hn : n = F
    · subst hn
      exact .inr ⟨[], S, s, st', hF, fun _ _ _ h4 => h4⟩
    · have hF' : F ∉ n :: S := fun z => (List.mem_cons.mp z).elim (fun e => hn e.symm) hF
      rcases ih (st'.push (cl n (st n List.mem_cons_self) hn)) hF' with a | ⟨pre, S1, s1, h0, h1, h3⟩
      · exact .inl fun g'' e => .come hx (by rw [← e n hn]; exact a g'' e)
      · exact .inr ⟨pre, S1, s1, h0, h1, fun g'' E'' e h4 => .come hx (by rw [← e n hn]; exact h3 g'' E'' e h4)⟩
/-- the runs of an entry for all imports of a file: the same, or alike ahead of the file and behind it -/
theorem runs_of (cl : ∀ y ∈ N, y ≠ F → ∀ z ∈ g y, z ∈ N) (hFN : F ∈ N) {e : α} (he : e ∈ N) : (∃ E, ∀ L, VS (giv g F L) [] [.come e] E) ∨
    ∃ pre S1 s1, F ∉ S1 ∧ Stk N s1 ∧ ∀ L, (∀ y ∈ L, y ∈ N) → ∃ EL r, VL g (F :: S1) L EL ∧ VS g (EL ++ F :: S1) s1 r ∧ VS (giv g F L) [] [.come e] (pre ++ (EL ++ F :: r)) := by
  have clL : ∀ L, (∀ y ∈ L, y ∈ N) → ∀ y ∈ N, ∀ z ∈ giv g F L y, z ∈ N := fun L hl y hy z hz => by
    by_cases hyF : y = F
    · subst hyF
      rw [giv_self] at hz
      exact hl z hz
    · rw [giv_ne hyF] at hz
      exact cl y hy hyF z hz
  have st : Stk N [Op.come e] := fun n hn => by
    have : n = e := by simpa using hn
    subst this
    exact he
  obtain ⟨E0, h0⟩ := VS.total (clL [] fun y hy => nomatch hy) [.come e] [] st
  have cl0 : ∀ y ∈ N, y ≠ F → ∀ z ∈ giv g F [] y, z ∈ N := fun y hy hyF z hz => clL [] (fun y hy => nomatch hy) y hy z hz
  have agree : ∀ L y, y ≠ F → giv g F [] y = giv g F L y := fun L y hy => by rw [giv_ne hy, giv_ne hy]
  rcases VS.meetN cl0 h0 st (fun z => nomatch z) with a | ⟨pre, S1, s1, hs, hF, hr⟩
  · exact .inl ⟨E0, fun L => a _ (agree L)⟩
  · refine .inr ⟨pre, S1, s1, hF, hs, fun L hl => ?_⟩
    have off : ∀ (V : List α) y, F ∈ V → y ∉ V → giv g F L y = g y := fun V y hV hy => giv_ne fun e => hy (by rw [e]; exact hV)
    obtain ⟨EL, h1⟩ := VL.total (clL L hl) (F :: S1) hl
    obtain ⟨r, h2⟩ := VS.total (clL L hl) s1 (EL ++ F :: S1) hs
    refine ⟨EL, r, h1.graph fun y hy => off _ y List.mem_cons_self hy, h2.graph fun y hy => off _ y (by simp) hy, hr _ _ (agree L) (.come hF ?_)⟩
    rw [giv_self]
    exact h1.push (.leave h2)
theorem VL.same_set (h1 : VL g S L1 E) (h2 : VL g S L2 E') (hl : ∀ y, y ∈ L1 ↔ y ∈ L2) : ∀ y, y ∈ E ↔ y ∈ E' := fun y =>
  ⟨fun hy => h1.within (fun a ha z hz => h2.closed a ha z hz) (fun z hz => h2.covers z ((hl z).mp hz)) y hy, fun hy => h2.within (fun a ha z hz => h1.closed a ha z hz) (fun z hz => h1.covers z ((hl z).mpr hz)) y hy⟩
theorem prefix_or {a b c d : List α} (h : a ++ c = b ++ d) : (∃ e, a = b ++ e) ∨ ∃ e, b = a ++ e := by
  rcases List.append_eq_append_iff.mp h with ⟨e, h1, _⟩ | ⟨e, h1, _⟩
  · exact .inr ⟨e, h1⟩
  · exact .inl ⟨e, h1⟩
theorem minus_pre {a e : List α} (nd : (a ++ e).Nodup) : ((a ++ e).filter fun y => decide (y ∉ a)) = e ∧ (a.filter fun y => decide (y ∉ a ++ e)) = [] := by
  obtain ⟨_, _, dj⟩ := List.nodup_append.mp nd
  refine ⟨?_, List.filter_eq_nil_iff.mpr fun y hy => by simp [hy]⟩
  rw [List.filter_append, List.filter_eq_nil_iff.mpr (fun y hy => by simp [hy]), List.nil_append]
  exact List.filter_eq_self.mpr fun y hy => by
    have : y ∉ a := fun z => dj y z y hy rfl
    simpa using this
/-- two lists that begin one list, one taken from the other on either side -/
theorem swap_pre {a b c d : List α} (na : a.Nodup) (nb : b.Nodup) (h : a ++ c = b ++ d) : a ++ (b.filter fun y => decide (y ∉ a)) = b ++ (a.filter fun y => decide (y ∉ b)) := by
  rcases prefix_or h with ⟨e, rfl⟩ | ⟨e, rfl⟩
  · obtain ⟨h1, h2⟩ := minus_pre na
    rw [h1, h2, List.append_nil]
  · obtain ⟨h1, h2⟩ := minus_pre nb
    rw [h1, h2, List.append_nil]
theorem filter_minus {p : α → Bool} {a b : List α} : (a.filter fun y => decide (y ∉ b)).filter p = (a.filter p).filter fun y => decide (y ∉ b.filter p) := by
  rw [List.filter_filter, List.filter_filter]
  refine List.filter_congr fun y hy => ?_
  by_cases h : p y = true
  · simp [h]
  · simp [h]
/-- G5 for one entry: behind a place where the new name changes nothing, one place further it changes nothing either -/
theorem insert_mono (cl : ∀ y ∈ N, y ≠ F → ∀ z ∈ g y, z ∈ N) (hFN : F ∈ N) {e : α} (he : e ∈ N) (p : α → Bool) {A C B : List α} {x : α} (hA : ∀ y ∈ A, y ∈ N) (hC : ∀ y ∈ C, y ∈ N) (hB : ∀ y ∈ B, y ∈ N) (hx : x ∈ N) {E0 E1 E2 : List α}
    (h0 : VS (giv g F (A ++ (C ++ B))) [] [.come e] E0) (h1 : VS (giv g F (A ++ x :: (C ++ B))) [] [.come e] E1) (h2 : VS (giv g F (A ++ (C ++ x :: B))) [] [.come e] E2) (hp : E1.filter p = E0.filter p) : E2.filter p = E0.filter p := by
  rcases runs_of cl hFN he with ⟨E, a⟩ | ⟨pre, S1, s1, hF, hs, all⟩
  · rw [h2.det (a _), h0.det (a _)]
  · have m0 : ∀ y ∈ A ++ (C ++ B), y ∈ N := fun y hy => by
      rcases List.mem_append.mp hy with z | z
      · exact hA y z
      · exact (List.mem_append.mp z).elim (hC y) (hB y)
    have m1 : ∀ y ∈ A ++ x :: (C ++ B), y ∈ N := fun y hy => by
      rcases List.mem_append.mp hy with z | z
      · exact hA y z
      · rcases List.mem_cons.mp z with rfl | z
        · exact hx
        · exact (List.mem_append.mp z).elim (hC y) (hB y)
    have m2 : ∀ y ∈ A ++ (C ++ x :: B), y ∈ N := fun y hy => by
      rcases List.mem_append.mp hy with z | z
      · exact hA y z
      · rcases List.mem_append.mp z with z | z
        · exact hC y z
        · rcases List.mem_cons.mp z with rfl | z
          · exact hx
          · exact hB y z
    obtain ⟨L0, r0, v0, s0, q0⟩ := all _ m0
    obtain ⟨L1, r1, v1, t1, q1⟩ := all _ m1
    obtain ⟨L2, r2, v2, t2, q2⟩ := all _ m2
    have e0 := h0.det q0
    have e1 := h1.det q1
    have e2 := h2.det q2
    have same := v1.same_set v2 fun y => by
      simp only [List.mem_append, List.mem_cons]
      constructor
      · rintro (h | h | h | h)
        · exact .inl h
        · exact .inr (.inr (.inl h))
        · exact .inr (.inl h)
        · exact .inr (.inr (.inr h))
      · rintro (h | h | h | h)
        · exact .inl h
        · exact .inr (.inr (.inl h))
        · exact .inr (.inl h)
        · exact .inr (.inr (.inr h))
    have er : r2 = r1 := t2.det (t1.ext fun y => by simp only [List.mem_append, same])
    subst er
    -- the parts
    obtain ⟨EA, Y0, a0, b0, rfl⟩ := v0.unapp
    obtain ⟨EC, EB, c0, d0, rfl⟩ := b0.unapp
    obtain ⟨EA1, Y1, a1, b1, rfl⟩ := v1.unapp
    have := a0.det a1
    subst this
    obtain ⟨X, Z1, x1, z1, rfl⟩ := VL.unapp (L1 := [x]) (L2 := C ++ B) b1
    obtain ⟨EC1, EB1, c1, d1, rfl⟩ := z1.unapp
    obtain ⟨EA2, Y2, a2, b2, rfl⟩ := v2.unapp
    have := a0.det a2
    subst this
    obtain ⟨EC2, Z2, c2, z2, rfl⟩ := b2.unapp
    have := c0.det c2
    subst this
    obtain ⟨X2, EB2, x2, d2, rfl⟩ := VL.unapp (L1 := [x]) (L2 := B) z2
    have clX : ∀ y ∈ X, ∀ z ∈ g y, z ∈ EA ++ F :: S1 ∨ z ∈ X := x1.closed
    have clC : ∀ y ∈ EC, ∀ z ∈ g y, z ∈ EA ++ F :: S1 ∨ z ∈ EC := c0.closed
    have eC1 : EC1 = EC.filter fun y => decide (y ∉ X) := c1.det (c0.restrict clX)
    have eX2 : X2 = X.filter fun y => decide (y ∉ EC) := x2.det (x1.restrict clC)
    have base1 := d0.restrict (R := X) fun y hy z hz => (clX y hy z hz).imp_left fun q => List.mem_append_right _ q
    have eB1 : EB1 = EB.filter fun y => decide (y ∉ X) := d1.det (base1.ext fun y => by
      rw [eC1]
      simp only [List.mem_append, List.mem_filter, decide_eq_true_eq]
      constructor
      · rintro (h | h | h)
        · exact .inr (.inl h)
        · by_cases q : y ∈ X
          · exact .inr (.inl q)
          · exact .inl ⟨h, q⟩
        · exact .inr (.inr h)
      · rintro (h | h | h)
        · exact .inr (.inl h.1)
        · exact .inl h
        · exact .inr (.inr h))
    have eB2 : EB2 = EB.filter fun y => decide (y ∉ X) := d2.det (base1.ext fun y => by
      rw [eX2]
      simp only [List.mem_append, List.mem_filter, decide_eq_true_eq]
      constructor
      · rintro (h | h | h)
        · by_cases q : y ∈ EC
          · exact .inr (.inl q)
          · exact .inl ⟨h, q⟩
        · exact .inr (.inl h)
        · exact .inr (.inr h)
      · rintro (h | h | h)
        · exact .inl h.1
        · exact .inr (.inl h)
        · exact .inr (.inr h))
    rw [e0, e1, eC1, eB1] at hp
    rw [e2, e0, eX2, eB2, ← hp]
    simp only [List.filter_append, filter_minus, List.append_assoc] at hp ⊢
    have hp' := List.append_cancel_left (List.append_cancel_left hp)
    have key := swap_pre (x1.nodup.filter p) (c0.nodup.filter p) hp'
    rw [← List.append_assoc (X.filter p), key]
    simp only [List.append_assoc]
end
end RM

set_option Elab.async false
set_option linter.all false
set_option maxRecDepth 100000
set_option maxHeartbeats 8000000
/-! GT: len(set(texts)). -/
namespace GL
open PySem PySem.Spec PyProof.Rows L2
/-- the different ones, each where it stands first -/
def firsts (xs : List Str) : List Str := xs.foldl (fun acc x => if x ∈ acc then acc else acc ++ [x]) []
theorem firsts_snoc (xs : List Str) (x : Str) : firsts (xs ++ [x]) = if x ∈ firsts xs then firsts xs else firsts xs ++ [x] := by
  unfold firsts
  rw [List.foldl_append]
  rfl
theorem ind_snoc {p : List Str → Prop} (h0 : p []) (h1 : ∀ xs x, p xs → p (xs ++ [x])) (xs : List Str) : p xs := by
  rw [← List.reverse_reverse xs]
  induction xs.reverse with
  | nil => exact h0
  | cons x r ih =>
    rw [List.reverse_cons]
    exact h1 _ _ ih
theorem mem_firsts (xs : List Str) : ∀ y, y ∈ firsts xs ↔ y ∈ xs := by
  refine ind_snoc (p := fun xs => ∀ y, y ∈ firsts xs ↔ y ∈ xs) (fun y => Iff.rfl) (fun xs x ih y => ?_) xs
  rw [firsts_snoc]
  by_cases h : x ∈ firsts xs
  · rw [if_pos h, ih, List.mem_append, List.mem_singleton]
    exact ⟨.inl, fun z => z.elim id fun e => e ▸ (ih x).mp h⟩
  · rw [if_neg h, List.mem_append, ih, List.mem_append]
theorem firsts_nodup (xs : List Str) : (firsts xs).Nodup := by
  refine ind_snoc (p := fun xs => (firsts xs).Nodup) .nil (fun xs x ih => ?_) xs
  rw [firsts_snoc]
  by_cases h : x ∈ firsts xs
  · rw [if_pos h]
    exact ih
  · rw [if_neg h]
    exact List.nodup_append.mpr ⟨ih, List.nodup_cons.mpr ⟨(fun z => nomatch z), .nil⟩, fun a ha b hb e => h (by
      have : b = x := by simpa using hb
      rw [← this, ← e]
      exact ha)⟩
theorem firsts_self {xs : List Str} : xs.Nodup → firsts xs = xs := by
  refine ind_snoc (p := fun xs => xs.Nodup → firsts xs = xs) (fun _ => rfl) (fun xs x ih nd => ?_) xs
  obtain ⟨a, _, c⟩ := List.nodup_append.mp nd
  rw [firsts_snoc, if_neg (fun z => c x ((mem_firsts xs x).mp z) x (by simp) rfl), ih a]
theorem firsts_le (xs : List Str) : (firsts xs).length ≤ xs.length := by
  refine ind_snoc (p := fun xs => (firsts xs).length ≤ xs.length) (Nat.le_refl _) (fun xs x ih => ?_) xs
  rw [firsts_snoc]
  split
  · simp
    omega
  · simp
    exact ih
/-- as many as there are: no one twice -/
theorem firsts_len {xs : List Str} : (firsts xs).length = xs.length → xs.Nodup := by
  refine ind_snoc (p := fun xs => (firsts xs).length = xs.length → xs.Nodup) (fun _ => .nil) (fun xs x ih e => ?_) xs
  rw [firsts_snoc] at e
  have le := firsts_le xs
  by_cases h : x ∈ firsts xs
  · rw [if_pos h] at e
    simp at e
    omega
  · rw [if_neg h] at e
    simp at e
    refine List.nodup_append.mpr ⟨ih e, List.nodup_cons.mpr ⟨(fun z => nomatch z), .nil⟩, fun a ha b hb q => h ?_⟩
    have : b = x := by simpa using hb
    rw [mem_firsts, ← this, ← q]
    exact ha
def memS (xs : List Str) : Str → Bool := fun k => decide (k ∈ xs)
abbrev setO (led : Bool) : Obj := { cls := .type "set", dict := none, data := .set #[] 0 (.fresh 0 0 led) }
section
variable {prog : Program} {w : World} {A : Around} {R : Result → Shared → Prop} {I : Addr} {fp wr : List Addr} {G : Array GenState → Array GenState → Prop} {n : Nat} {P : Nat → Value → Prop} {St : Nat → Shared → Prop}
theorem loopStrs (W : WalksS prog w A.in1 I fp wr G n P St) (S : Addr) (hSf : S ∉ fp) (xs : List Str) (hsz : xs.length = n) (hn : n ≤ 1000) (hval : ∀ i v, P i v → ∃ t, v = .str (xs.getD i Str.empty) t) :
    ∀ (k i : Nat) (s : Shared), n - i = k → i ≤ n → St i s → s.heap.SetOf (PySem.strKind prog w) S (memS (xs.take i)) (firsts (xs.take i)).length →
      (∀ s', Moved (S :: wr) G s s' → s'.heap.SetOf (PySem.strKind prog w) S (memS (xs.take n)) (firsts (xs.take n)).length → R (.ok (.ret .none)) s') →
      codeAny (model prog w) A (.builtin "set.update.loop" ⟨[.ref S, .ref I], []⟩) R s := by
  have hSw : S ∉ wr := fun z => hSf (W.sub _ z)
  have more : ∀ b ∈ wr, b ∈ S :: wr := fun b => List.mem_cons_of_mem _
  intro k
  induction k with
  | zero =>
    intro i s hk hi hst hS hR
    obtain rfl : i = n := by omega
    refine codeAny_builtin PyProof.Rows.F.entry_set_update_loop ?_
    rw [Around.under_plainId PyProof.Rows.F.plain_set_update_loop _]
    refine (show wpAny _ A.in1 (pyNext (.ref I) >>= _) _ _ s from wpAny_bind (W.done s _ _ hst fun s' hm => ?_))
    refine (show wpAny _ A.in1 (ret Value.none) _ _ s' from wpAny_pure (hR s' (hm.mono more) ?_))
    obtain ⟨o, es, ep, t, ho, r⟩ := hS
    exact ⟨o, es, ep, t, hm.heap S _ hSw ho, r⟩
  | succ k ih =>
    intro i s hk hi hst hS hR
    have hlt : i < n := by omega
    refine codeAny_builtin PyProof.Rows.F.entry_set_update_loop ?_
    rw [Around.under_plainId PyProof.Rows.F.plain_set_update_loop _]
    refine (show wpAny _ A.in1 (pyNext (.ref I) >>= _) _ _ s from wpAny_bind (W.item i s _ _ hlt hst fun v s' hP hst' hm => ?_))
    obtain ⟨t, rfl⟩ := hval i v hP
    have hi' : i < xs.length := by omega
    have ex : xs.getD i Str.empty = xs[i] := by rw [List.getD_eq_getElem?_getD, List.getElem?_eq_getElem hi']; rfl
    rw [ex]
    have hS' : s'.heap.SetOf (PySem.strKind prog w) S (memS (xs.take i)) (firsts (xs.take i)).length := by
      obtain ⟨o, es, ep, tb, ho, r⟩ := hS
      exact ⟨o, es, ep, tb, hm.heap S _ hSw ho, r⟩
    refine (show wpAny _ A.in1 (holding [Value.str xs[i] t] (setAdd S (.str xs[i] t)) >>= _) _ _ s' from wpAny_bind (wpAny_holding ?_))
    unfold setAdd
    refine wpAny_holding (wpAny_bind ((PySem.strKind prog w).pyHash (k := xs[i]) (strKind_is _ _ _ _) ?_))
    have le := firsts_le (xs.take i)
    rw [List.length_take] at le
    refine wpAny_setAddHashed_of (knd := PySem.strKind prog w) (s := { s' with toks := s'.toks + 1 }) (strKind_is _ _ _ _) rfl hS' (by unfold scanBound; omega) fun h' hsb hS2 => ?_
    have tk : xs.take (i + 1) = xs.take i ++ [xs[i]] := by rw [List.take_add_one, List.getElem?_eq_getElem hi']; rfl
    have hSi : h'.SetOf (PySem.strKind prog w) S (memS (xs.take (i + 1))) (firsts (xs.take (i + 1))).length := by
      rw [tk]
      refine SetOf_congr hS2 (fun k' => ?_) ?_
      · unfold memS
        simp only [List.mem_append, List.mem_singleton, Bool.decide_or]
      · rw [firsts_snoc]
        unfold memS
        by_cases h : xs[i] ∈ xs.take i
        · rw [if_pos ((mem_firsts _ _).mpr h), if_pos (by simpa using h)]
        · rw [if_neg (fun z => h ((mem_firsts _ _).mp z)), if_neg (by simpa using h)]
          simp
    refine wpAny_pure ⟨plainId_quiet PyProof.Rows.F.plain_set_update_loop _, ih (i + 1) _ (by omega) hlt (W.frame _ s' _ _ hst' (Nat.le_succ _) fun b hb o e => ?_) hSi fun s'' hm'' hS'' => ?_⟩
    · rw [hsb.2 b fun z => hSf (z ▸ hb)]
      exact e
    · refine hR s'' (Moved.trans W.gtrans ((hm.mono more).then_heap (Nat.le_succ _) fun b o hb e => ?_) hm'') hS''
      rw [hsb.2 b fun z => hb (by rw [z]; exact List.mem_cons_self)]
      exact e
end
section
variable {prog : Program} {w : World} {A : Around} {E : Value → Shared → Prop} {s : Shared}
set_option maxHeartbeats 8000000 in
theorem call_set_strsL {l : Addr} {its : Array Value} {xs : List Str} {Q : Value → Shared → Prop} (hh : A.handled = none) (hl : s.heap.IsList l its) (hi : StrsAre its.toList xs) (hb : xs.length ≤ 1000)
    (h : ∀ (h' : Heap) (tk : Nat), h'.SetOf (PySem.strKind prog w) s.heap.objs.size (memS xs) (firsts xs).length →
      (∀ b o, b < s.heap.objs.size → s.heap.get? b = some o → h'.get? b = some o) → Q (.ref s.heap.objs.size) { s with heap := h', toks := tk }) :
    wpAny (model prog w) A (call (.type "set") [.ref l]) Q E s := by
  have cs := PySem.F.called_set
  obtain ⟨c, tl, hmro⟩ := cs.mro
  have hmade := cs.made
  have hsub := cs.sub
  have h1 := cs.notType
  have h2 := cs.canCreate
  refine wpAny_call (codeAny_of_tree (show wpAny _ _ (callAny (.type "set") _) _ _ _ from ?_))
  refine wpAny_pure ⟨Code.quiet_builtin _ (by decide +kernel), codeAny_builtin PySem.F.entry_type_call ?_⟩
  have wt := weight_type_call_type "set" [.ref l] []
  rw [Around.under_plain wt rfl]
  have hct := PySem.F.typeCall_set_1 (.ref l)
  repeat (any_goals (first | assumption | wp_step))
  refine codeAny_mono (code_set_new_1 (.ref l) (E := E) (Q₁ := fun ob s₁ => ∃ led : Bool, ob = .ref s.heap.objs.size ∧ s₁ = { s with heap := s.heap.push (setO led) }) fun led => ⟨led, rfl, rfl⟩) fun r s₁ hr => ?_
  rcases r with e | fl
  · exact hr
  cases fl with
  | next => exact hr.elim
  | brk => exact hr.elim
  | cont => exact hr.elim
  | ret ob =>
    obtain ⟨led, rfl, rfl⟩ := hr
    have hS : (s.heap.push (setO led)).get? s.heap.objs.size = some (setO led) := Heap.get?_push_size _ rfl
    have hT : Shared.TypeIs { s with heap := s.heap.push (setO led) } (.ref s.heap.objs.size) "set" := ⟨_, hS, rfl⟩
    have hli := cs.init.lookup
    have hbi := cs.init.bind (.ref s.heap.objs.size)
    repeat (any_goals (first | assumption | wp_step))
    refine codeAny_mono (codeAny_call_builtin (R := wants (fun r s₂ => r = .none ∧ ∃ h' tk, s₂ = { s with heap := h', toks := tk } ∧ h'.SetOf (PySem.strKind prog w) s.heap.objs.size (memS xs) (firsts xs).length ∧
        (∀ b o, b < s.heap.objs.size → s.heap.get? b = some o → h'.get? b = some o)) E) cs.init.plain PySem.F.entry_set_init (check_set_init_1 hT ?_)) fun r₂ s₂ hr₂ => ?_
    · obtain ⟨ol, hol, hcl, nl, hdl⟩ := hl
      obtain ⟨ocls, odict, odata, oslots⟩ := ol
      simp only at hcl hdl
      subst hcl
      subst hdl
      have hol' : (s.heap.push (setO led)).get? l = some { cls := .type "list", dict := odict, data := .seq its nl, slots := oslots } := Heap.get?_push_of_some _ hol
      have hsls := PySem.F.sub_list_set
      have hslf := PySem.F.sub_list_frozenset
      have hne : (Value.type "list" == Value.type "dict") = false := by decide
      have hl1 : (s.heap.push (setO led)).IsList l its := ⟨_, hol', rfl, nl, rfl⟩
      unfold Builtin.«set.__init__» noKeywords Builtin.Frozenset.updateFrom
      unfold setO at *
      generalize hPI : pyIter = PI
      wp_walk
      subst hPI
      refine wpAny_pyIter_list hl1 (wpAny_bind (wpAny_runValue ?_))
      have hlS : l < s.heap.objs.size := Heap.lt_size hol
      have hh3 : A.in1.in1.in1.handled = none := by simp [hh]
      have sz1 : (s.heap.push (setO led)).objs.size = s.heap.objs.size + 1 := Heap.size_push _ _
      have hneI : l ≠ (s.heap.push (setO led)).objs.size := by rw [sz1]; exact Nat.ne_of_lt (Nat.lt_succ_of_lt hlS)
      have hSf : s.heap.objs.size ∉ [(s.heap.push (setO led)).objs.size, l] := by
        rw [sz1]
        intro z
        rcases List.mem_cons.mp z with z | z
        · exact Nat.ne_of_lt (Nat.lt_succ_self _) z
        · exact Nat.ne_of_gt hlS (by simpa using z)
      have hsz : xs.length = its.size := by rw [← StrsAre.len_eq hi, Array.length_toList]
      have hval : ∀ (i : Nat) (v : Value), its[i]? = some v → ∃ t, v = .str (xs.getD i Str.empty) t := fun i v hv => SS.strs_at hi i v (by rw [Array.getElem?_toList]; exact hv)
      refine loopStrs ((Walks.list hh3 _ l hneI its).toS) s.heap.objs.size hSf xs hsz (by omega) hval (its.size - 0) 0 _ (by omega) (Nat.zero_le _) ⟨⟨_, Heap.get?_push_size _ rfl, rfl, rfl⟩, (hl1.push _)⟩ ?h0 ?hR
      case h0 =>
        have hget := Heap.get?_push_of_some { cls := .type "list_iterator", data := .fields #[.ref l, .int 0 0] } hS
        exact SetOf_congr ((setObjOf_fresh (knd := PySem.strKind prog w) led).setOf hget (by unfold scanBound; omega)) (fun _ => rfl) rfl
      case hR =>
        intro s' hm hS'
        obtain ⟨h', g', d', tk', os'⟩ := s'
        obtain rfl : g' = s.gens := hm.gens
        obtain rfl : d' = s.drawn := hm.drawn
        obtain rfl : os' = s.os := hm.os
        refine wpAny_pure (show wpAny _ _ (ret Value.none) _ _ _ from wpAny_pure ⟨rfl, h', tk', rfl, ?_, fun b o hb e => ?_⟩)
        · rw [← hsz, List.take_length] at hS'
          exact hS'
        · have hb1 : b ≠ s.heap.objs.size := Nat.ne_of_lt hb
          have hb2 : b ≠ (s.heap.push (setO led)).objs.size := by rw [sz1]; exact Nat.ne_of_lt (Nat.lt_succ_of_lt hb)
          refine hm.heap b o ?_ (Heap.get?_push_of_some _ (Heap.get?_push_of_some _ e))
          intro z
          rcases List.mem_cons.mp z with z | z
          · exact hb1 z
          · exact hb2 (by simpa using z)
    · rcases r₂ with e | fl₂
      · exact hr₂
      cases fl₂ with
      | next => exact hr₂.elim
      | brk => exact hr₂.elim
      | cont => exact hr₂.elim
      | ret r =>
        obtain ⟨rfl, h', tk, rfl, hS', hk'⟩ := hr₂
        repeat (any_goals (first | assumption | wp_step))
        exact h _ _ hS' hk'
set_option maxHeartbeats 8000000 in
theorem call_set_strsT {l : Addr} {its : Array Value} {xs : List Str} {Q : Value → Shared → Prop} (hh : A.handled = none) (hl : s.heap.IsTuple l its) (hi : StrsAre its.toList xs) (hb : xs.length ≤ 1000)
    (h : ∀ (h' : Heap) (tk : Nat), h'.SetOf (PySem.strKind prog w) s.heap.objs.size (memS xs) (firsts xs).length →
      (∀ b o, b < s.heap.objs.size → s.heap.get? b = some o → h'.get? b = some o) → Q (.ref s.heap.objs.size) { s with heap := h', toks := tk }) :
    wpAny (model prog w) A (call (.type "set") [.ref l]) Q E s := by
  have cs := PySem.F.called_set
  obtain ⟨c, tl, hmro⟩ := cs.mro
  have hmade := cs.made
  have hsub := cs.sub
  have h1 := cs.notType
  have h2 := cs.canCreate
  refine wpAny_call (codeAny_of_tree (show wpAny _ _ (callAny (.type "set") _) _ _ _ from ?_))
  refine wpAny_pure ⟨Code.quiet_builtin _ (by decide +kernel), codeAny_builtin PySem.F.entry_type_call ?_⟩
  have wt := weight_type_call_type "set" [.ref l] []
  rw [Around.under_plain wt rfl]
  have hct := PySem.F.typeCall_set_1 (.ref l)
  repeat (any_goals (first | assumption | wp_step))
  refine codeAny_mono (code_set_new_1 (.ref l) (E := E) (Q₁ := fun ob s₁ => ∃ led : Bool, ob = .ref s.heap.objs.size ∧ s₁ = { s with heap := s.heap.push (setO led) }) fun led => ⟨led, rfl, rfl⟩) fun r s₁ hr => ?_
  rcases r with e | fl
  · exact hr
  cases fl with
  | next => exact hr.elim
  | brk => exact hr.elim
  | cont => exact hr.elim
  | ret ob =>
    obtain ⟨led, rfl, rfl⟩ := hr
    have hS : (s.heap.push (setO led)).get? s.heap.objs.size = some (setO led) := Heap.get?_push_size _ rfl
    have hT : Shared.TypeIs { s with heap := s.heap.push (setO led) } (.ref s.heap.objs.size) "set" := ⟨_, hS, rfl⟩
    have hli := cs.init.lookup
    have hbi := cs.init.bind (.ref s.heap.objs.size)
    repeat (any_goals (first | assumption | wp_step))
    refine codeAny_mono (codeAny_call_builtin (R := wants (fun r s₂ => r = .none ∧ ∃ h' tk, s₂ = { s with heap := h', toks := tk } ∧ h'.SetOf (PySem.strKind prog w) s.heap.objs.size (memS xs) (firsts xs).length ∧
        (∀ b o, b < s.heap.objs.size → s.heap.get? b = some o → h'.get? b = some o)) E) cs.init.plain PySem.F.entry_set_init (check_set_init_1 hT ?_)) fun r₂ s₂ hr₂ => ?_
    · obtain ⟨ol, hol, hcl, nl, hdl⟩ := hl
      obtain ⟨ocls, odict, odata, oslots⟩ := ol
      simp only at hcl hdl
      subst hcl
      subst hdl
      have hol' : (s.heap.push (setO led)).get? l = some { cls := .type "tuple", dict := odict, data := .seq its nl, slots := oslots } := Heap.get?_push_of_some _ hol
      have hsls := PySem.F.sub_tuple_set
      have hslf := PySem.F.sub_tuple_frozenset
      have hne : (Value.type "tuple" == Value.type "dict") = false := by decide
      have hl1 : (s.heap.push (setO led)).IsTuple l its := ⟨_, hol', rfl, nl, rfl⟩
      unfold Builtin.«set.__init__» noKeywords Builtin.Frozenset.updateFrom
      unfold setO at *
      generalize hPI : pyIter = PI
      wp_walk
      subst hPI
      refine wpAny_pyIter_tuple hl1 (wpAny_bind (wpAny_runValue ?_))
      have hlS : l < s.heap.objs.size := Heap.lt_size hol
      have hh3 : A.in1.in1.in1.handled = none := by simp [hh]
      have sz1 : (s.heap.push (setO led)).objs.size = s.heap.objs.size + 1 := Heap.size_push _ _
      have hneI : l ≠ (s.heap.push (setO led)).objs.size := by rw [sz1]; exact Nat.ne_of_lt (Nat.lt_succ_of_lt hlS)
      have hSf : s.heap.objs.size ∉ [(s.heap.push (setO led)).objs.size, l] := by
        rw [sz1]
        intro z
        rcases List.mem_cons.mp z with z | z
        · exact Nat.ne_of_lt (Nat.lt_succ_self _) z
        · exact Nat.ne_of_gt hlS (by simpa using z)
      have hsz : xs.length = its.size := by rw [← StrsAre.len_eq hi, Array.length_toList]
      have hval : ∀ (i : Nat) (v : Value), its[i]? = some v → ∃ t, v = .str (xs.getD i Str.empty) t := fun i v hv => SS.strs_at hi i v (by rw [Array.getElem?_toList]; exact hv)
      refine loopStrs ((Walks.tuple hh3 _ l hneI its).toS) s.heap.objs.size hSf xs hsz (by omega) hval (its.size - 0) 0 _ (by omega) (Nat.zero_le _) ⟨⟨_, Heap.get?_push_size _ rfl, rfl, rfl⟩, (hl1.push _)⟩ ?h0 ?hR
      case h0 =>
        have hget := Heap.get?_push_of_some { cls := .type "tuple_iterator", data := .fields #[.ref l, .int 0 0] } hS
        exact SetOf_congr ((setObjOf_fresh (knd := PySem.strKind prog w) led).setOf hget (by unfold scanBound; omega)) (fun _ => rfl) rfl
      case hR =>
        intro s' hm hS'
        obtain ⟨h', g', d', tk', os'⟩ := s'
        obtain rfl : g' = s.gens := hm.gens
        obtain rfl : d' = s.drawn := hm.drawn
        obtain rfl : os' = s.os := hm.os
        refine wpAny_pure (show wpAny _ _ (ret Value.none) _ _ _ from wpAny_pure ⟨rfl, h', tk', rfl, ?_, fun b o hb e => ?_⟩)
        · rw [← hsz, List.take_length] at hS'
          exact hS'
        · have hb1 : b ≠ s.heap.objs.size := Nat.ne_of_lt hb
          have hb2 : b ≠ (s.heap.push (setO led)).objs.size := by rw [sz1]; exact Nat.ne_of_lt (Nat.lt_succ_of_lt hb)
          refine hm.heap b o ?_ (Heap.get?_push_of_some _ (Heap.get?_push_of_some _ e))
          intro z
          rcases List.mem_cons.mp z with z | z
          · exact hb1 z
          · exact hb2 (by simpa using z)
    · rcases r₂ with e | fl₂
      · exact hr₂
      cases fl₂ with
      | next => exact hr₂.elim
      | brk => exact hr₂.elim
      | cont => exact hr₂.elim
      | ret r =>
        obtain ⟨rfl, h', tk, rfl, hS', hk'⟩ := hr₂
        repeat (any_goals (first | assumption | wp_step))
        exact h _ _ hS' hk'
end
/-- len(set(xs)), xs a list or tuple of texts -/
def tLenSetQ (K : PySem.W.Frag) (ta : TE) : TE := fun σ H Q => ta σ H fun x H1 => ∃ l, ∃ xs : List Str, x = .ref l ∧ (SqL K H1 l (xs.map V.str) ∨ SqT K H1 l (xs.map V.str)) ∧ xs.length ≤ 1000 ∧ Q (.int (firsts xs).length) H1
theorem pe_lenSetQ {X : Cx} {a : Expr} {ta : TE} {p p2 q pos : Pos} (hm : X.mg "len" = none) (hm2 : X.mg "set" = none) (ha : PE X a ta) (hc : X.calm = true := by rfl) (hg : Gl X "len" := by rfl) (hg2 : Gl X "set" := by rfl)
    (na : starEach [a] X.env = (false, eval a X.env) :: starEach [] X.env := by rfl) : PE X (.Call (.Name "len" p) [.Call (.Name "set" p2) [a] [] q] [] pos) (tLenSetQ X.K ta) := by
  constructor
  intro pins s σ H Q I h
  refine Call_ (ld_blt I hg hm boot_len (callWith_builtin1 (args_cons ?_ rfl) rfl rfl))
  refine Call_ (ld_blt I hg2 hm2 boot_set (callWith_type1 (args_cons (thn (ha.run pins s σ H _ I h) ?_) na) na rfl))
  rintro v s1 ⟨x, H1, I1, r1, l, xs, rfl, hq, h1, q1⟩
  refine args_nil ?_
  cases r1
  have fin : ∀ (h' : Heap) (tk : Nat), h'.SetOf (PySem.strKind X.prog X.w) s1.heap.objs.size (memS xs) (firsts xs).length → (∀ b o, b < s1.heap.objs.size → s1.heap.get? b = some o → h'.get? b = some o) →
      wpAny (model X.prog X.w) X.A (spliced (backTo pos (starEach [] X.env))) (fun vs s₂ => wpAny (model X.prog X.w) X.A (call (.builtin "len") (Value.ref s1.heap.objs.size :: vs)) (EP X pins σ Q) X.xe s₂) X.xe { s1 with heap := h', toks := tk } := by
    intro h' tk hS hk
    refine args_nil ?_
    have le := firsts_le xs
    obtain ⟨o, es, ep, t, ho, hex, hd, _, _, _, hf, hn⟩ := hS
    have I2 : Inv X pins σ H1 { s1 with heap := h', toks := tk } := I1.kept fun b o e => hk b o (Heap.lt_size e) e
    exact call_len_set ho hex hd hf (by rw [hn]; omega) ⟨.int (firsts xs).length, H1, I2.tok _, ⟨_, by rw [hn]⟩, q1⟩
  rcases hq with hq | hq
  · obtain ⟨its, r, pl, hz⟩ := I1.list hq
    exact call_set_strsL (I1.ok.hd hc) pl.isList (by simpa using strsAre_of r) h1 fin
  · obtain ⟨its, r, pl, hz⟩ := I1.tuple hq
    exact call_set_strsT (I1.ok.hd hc) pl (by simpa using strsAre_of r) h1 fin
end GL

set_option Elab.async false
set_option linter.all false
set_option maxRecDepth 100000
set_option maxHeartbeats 4000000
set_option exponentiation.threshold 100000
namespace GL
open PySem PySem.Spec PyProof.Rows L2
local macro_rules | `(tactic| walk_at "pu") => `(tactic| repeat' (first
  | ((with_reducible apply pu_var); rfl) | with_reducible exact pu_c | with_reducible exact pua_nil | ((with_reducible apply pur_i0); rfl) | with_reducible exact puu_neg | with_reducible exact puc_abs | with_reducible exact puc_intB
  | with_reducible exact puc_min | with_reducible exact puc_max | with_reducible exact puo_none
  | with_reducible apply pu_op | with_reducible apply pu_cb | with_reducible apply pua_cons | with_reducible refine put_test ?_ | with_reducible refine put_B ?_ | with_reducible refine put_not ?_ | with_reducible refine pu_notV ?_
  | with_reducible apply pu_un | with_reducible refine puo_some ?_ | ((with_reducible apply pur_i); rfl) | with_reducible exact pur_eq rfl | with_reducible exact pur_ne rfl | exact puc_lenL (by assumption) | exact puc_lenT (by assumption)
  | ((with_reducible apply pur_ixL); assumption) | ((with_reducible apply pur_ixT); assumption) | with_reducible apply pur_ixS | with_reducible apply pur_str))
local macro_rules | `(tactic| walk_at "side") => `(tactic| first
  | exact (show (0 : Int) < _ by decide) | exact Or.inl ⟨by decide, by decide⟩ | exact Or.inr ⟨by decide, by decide⟩ | exact Or.inl ⟨by omega, by omega⟩ | exact Or.inr ⟨by omega, by omega⟩
  | exact ⟨by decide, by decide, by decide⟩ | exact ⟨by decide, by decide⟩ | assumption | omega | exact ⟨by decide, by decide +kernel⟩)
/-! ### defs with a star -/
structure DnR (P : Program) (w : World) (K : PySem.W.Frag) (mg : Str → Option Value) (base : Heap) (k : Nat) (x : Str) (sp : Sp) : Prop where
  ex : ∃ f, FnR P w K mg base CX0 k f sp ∧ mg x = some (.ref f) ∧ PySem.W.keepIn K (.ref f) = true
section
variable {X : Cx} {j k : Nat} {sp : Sp} {x : Str} {p pos : Pos} {e : Expr} {es : List Expr} {t : TA}
theorem pe_dR (d : DnR X.prog X.w X.K X.mg X.base j x sp) (hr : Room k X.A) (ha : PA X (e :: es) t) (hj : j ≤ k := by decide) (hg : Gl X x := by rfl) (hdb : (x == ("__debug__" : Str)) = false := by decide)
    (he : starEach (e :: es) X.env = (false, eval e X.env) :: starEach es X.env := by rfl) (hpl : (backTo pos (starEach es X.env)).any (·.1) = false := by rfl) : PE X (.Call (.Name x p) (e :: es) [] pos) (tCall sp [] E0 t) := by
  obtain ⟨f, F, hm, hk⟩ := d.ex
  constructor
  intro pins s σ H Q I h
  refine wpAny_Call_Name_kw (ld_glob I hg hm ?_ hdb)
  refine PySem.W.callWith_K (h₀ := X.base) I.ok.mod.kin hk (thn (ha.run pos pins s σ H _ I h) ?_) he hpl
  rintro us s1 ⟨vs, H1, I1, r, q⟩
  rw [List.append_nil] at q
  exact ⟨I1.kIn, wpAny_call (run_fnR F (hr.mono hj) pass0 I1 r q)⟩
theorem pe_dRS (d : DnR X.prog X.w X.K X.mg X.base j x sp) (hr : Room k X.A) (ha : PA X (e :: es) t) (hj : j ≤ k := by decide) (hg : Gl X x := by rfl) (hdb : (x == ("__debug__" : Str)) = false := by decide)
    (he : starEach (e :: es) X.env = (false, eval e X.env) :: starEach es X.env := by rfl) (hst : (backTo pos (starEach es X.env)).any (·.1) = true := by rfl) : PE X (.Call (.Name x p) (e :: es) [] pos) (tCall sp [] E0 t) := by
  obtain ⟨f, F, hm, hk⟩ := d.ex
  have h := StX.pe_callS2 (X := X) (p := p) (E := E0) F (hr.mono hj) hk hg hm pass0 ha hdb he hst
  constructor
  intro pins s σ H Q I q
  refine h.run pins s σ H Q I ?_
  have e : (fun vs H1 => sp (vs ++ []) H1 Q E0) = fun vs H1 => sp vs H1 Q E0 := by
    funext vs H1
    rw [List.append_nil]
  have q' : t σ H (fun vs H1 => sp (vs ++ []) H1 Q E0) := q
  rw [e] at q'
  exact q'
end
section
variable {P : Program} {w : World} {K : PySem.W.Frag} {mg : Str → Option Value} {base : Heap} {k : Nat} {x : Str} {st : Stmt} {f : Addr} {fd : FuncData} {N ps : List Str} {pv : Str} {sp sp' : Sp}
/-- a def f(a, .., *v) by its reading: sp of the bound arguments, sp' of the given ones -/
theorem dnpR (F : FnP K x st f fd) (hm : mg x = some (.ref f)) (S : FnScope N (ps ++ [pv]) (defScope st)) (n : Nat) (hn : ps.length + 1 + n = N.length)
    (hb : ∀ (kV doc pm : Value) (an : Option Addr) (cdv ct : Value) (us rest : List Value), us.length = ps.length → bindArgs (PySem.W.fnOf x x (defArgs st) (defBody st) (defScope st) .none kV doc pm an cdv ct) ⟨us ++ rest, []⟩ = (newTuple rest >>= fun t => pure (ps.zip us ++ [(pv, t)])))
    (t : TS) (hsp : ∀ vs H Q E, sp' vs H Q E → ∃ ws rest, vs = ws ++ rest ∧ ws.length = ps.length ∧ rest.length ≤ sizeLine ∧ ∀ p, H p = none → sp (ws ++ [V.ref p]) (upd H p (.tup rest)) Q E)
    (len : ∀ vs H Q E, sp vs H Q E → vs.length = ps.length + 1) (hpure : ∀ vs H Q E, sp vs H Q E → t { nx := fun _ H' => Q .non H', rt := Q } (vs.map some ++ List.replicate n none) H)
    (hbody : ∀ (cdv : Value) (A : Around) (outer : List Env) (s : Shared) (H : Hp) (E : XK), Room k (A.deeper (envOfC x (defScope st) s.heap.objs.size f cdv)) →
      PSs (cxOf CX0 P w K mg base N x (defScope st) f cdv A outer s H E).nox (defBody st) t) : DnR P w K mg base (k + 1) x sp' := by
  refine ⟨f, ?_, hm, F.kp⟩
  obtain ⟨oc, od, dV, kV, doc, pm, an, cdv, ct, osl, rfl, lk, hcd, hdv, _⟩ := F.ex
  rcases hdv with ⟨_, rfl⟩ | ⟨h0, _⟩
  · intro A outer s H us vs Q E hr e0 r h
    refine StX.fn_star (sp := sp) lk hcd S StX.cxUp_none (hb kV doc pm an cdv ct) (fun A outer s H vs Q E hr hs => ⟨t, (hbody cdv A outer s H E hr).nox, ?_⟩) A outer s H us vs Q E hr e0 r (hsp vs H Q E h)
    rw [start_of (n := n) (by rw [len vs H Q E hs]; exact hn)]
    exact hpure vs H Q E hs
  · exact absurd rfl h0
end
end GL

set_option Elab.async false
set_option linter.all false
set_option maxRecDepth 100000
set_option maxHeartbeats 4000000
set_option exponentiation.threshold 100000
namespace GL
open PySem PySem.Spec PyProof.Rows L2
local macro_rules | `(tactic| walk_at "pu") => `(tactic| repeat' (first
  | ((with_reducible apply pu_var); rfl) | with_reducible exact pu_c | with_reducible exact pua_nil | ((with_reducible apply pur_i0); rfl) | with_reducible exact puu_neg | with_reducible exact puc_abs | with_reducible exact puc_intB
  | with_reducible exact puc_min | with_reducible exact puc_max | with_reducible exact puo_none
  | with_reducible apply pu_op | with_reducible apply pu_cb | with_reducible apply pua_cons | with_reducible refine put_test ?_ | with_reducible refine put_B ?_ | with_reducible refine put_not ?_ | with_reducible refine pu_notV ?_
  | with_reducible apply pu_un | with_reducible refine puo_some ?_ | ((with_reducible apply pur_i); rfl) | with_reducible exact pur_eq rfl | with_reducible exact pur_ne rfl | exact puc_lenL (by assumption) | exact puc_lenT (by assumption)
  | ((with_reducible apply pur_ixL); assumption) | ((with_reducible apply pur_ixT); assumption) | with_reducible apply pur_ixS | with_reducible apply pur_str))
local macro_rules | `(tactic| walk_at "side") => `(tactic| first
  | exact (show (0 : Int) < _ by decide) | exact Or.inl ⟨by decide, by decide⟩ | exact Or.inr ⟨by decide, by decide⟩ | exact Or.inl ⟨by omega, by omega⟩ | exact Or.inr ⟨by omega, by omega⟩
  | exact ⟨by decide, by decide, by decide⟩ | exact ⟨by decide, by decide⟩ | assumption | omega | exact ⟨by decide, by decide +kernel⟩)
open RM
/-! ### projects as graphs -/
def nms (p : List Mod) : List Str := p.map (·.name)
structure Wf (p : List Mod) : Prop where
  nd : (nms p).Nodup
  inn : ∀ m ∈ p, ∀ i ∈ m.imps, i ∈ nms p
  pl : p.length ≤ 60
  il : ∀ m ∈ p, m.imps.length ≤ 60
def modAt (p : List Mod) (n : Str) : Option Mod := p.find? fun m => decide (m.name = n)
def impOf (p : List Mod) (n : Str) : List Str := ((modAt p n).map (·.imps)).getD []
def effOf (p : List Mod) (n : Str) : Bool := ((modAt p n).map (·.eff)).getD false
theorem modAt_some {p : List Mod} {n : Str} (h : n ∈ nms p) : ∃ m, modAt p n = some m ∧ m ∈ p ∧ m.name = n := by
  obtain ⟨m, hm, e⟩ := List.mem_map.mp h
  cases e2 : modAt p n with
  | none =>
    have := List.find?_eq_none.mp e2 m hm
    exact absurd e (by simpa using this)
  | some m2 => exact ⟨m2, rfl, List.mem_of_find?_eq_some e2, by simpa using List.find?_some e2⟩
theorem Wf.cl {p : List Mod} (h : Wf p) : ∀ y ∈ nms p, ∀ z ∈ impOf p y, z ∈ nms p := fun y hy z hz => by
  obtain ⟨m, e, hm, rfl⟩ := modAt_some hy
  unfold impOf at hz
  rw [e] at hz
  exact h.inn m hm z hz
theorem impOf_len {p : List Mod} (h : Wf p) (n : Str) : (impOf p n).length ≤ 60 := by
  unfold impOf
  cases e : modAt p n with
  | none => exact Nat.zero_le _
  | some m => exact h.il m (List.mem_of_find?_eq_some e)
open Classical in
noncomputable def runs (p : List Mod) (e : Str) : List Str := if h : ∃ E, VL (impOf p) [] [e] E then choose h else []
theorem runs_vl {p : List Mod} (h : Wf p) {e : Str} (he : e ∈ nms p) : VL (impOf p) [] [e] (runs p e) := by
  have x : ∃ E, VL (impOf p) [] [e] E := VL.total h.cl [] (by simpa using he)
  unfold runs
  rw [dif_pos x]
  exact Classical.choose_spec x
theorem runs_in {p : List Mod} (h : Wf p) {e : Str} (he : e ∈ nms p) : ∀ y ∈ runs p e, y ∈ nms p :=
  (runs_vl h he).within (R := nms p) (fun y hy z hz => .inr (h.cl y hy z hz)) fun y hy => .inr (by simpa using (List.mem_singleton.mp hy) ▸ he)
theorem nodup_le {α : Type} [DecidableEq α] : ∀ {a b : List α}, a.Nodup → (∀ y ∈ a, y ∈ b) → a.length ≤ b.length
  | [], _, _, _ => Nat.zero_le _
  | x :: r, b, nd, h => by
    have hx := h x List.mem_cons_self
    have := nodup_le (a := r) (b := b.erase x) (List.nodup_cons.mp nd).2 fun y hy => by
      have ne : y ≠ x := fun e => (List.nodup_cons.mp nd).1 (e ▸ hy)
      exact (List.mem_erase_of_ne ne).mpr (h y (List.mem_cons_of_mem _ hy))
    rw [List.length_erase_of_mem hx] at this
    have : 0 < b.length := List.length_pos_of_mem hx
    simp only [List.length_cons]
    omega
theorem runs_len {p : List Mod} (h : Wf p) {e : Str} (he : e ∈ nms p) : (runs p e).length ≤ 60 := by
  have := nodup_le (runs_vl h he).nodup (runs_in h he)
  have l := h.pl
  unfold nms at this
  rw [List.length_map] at this
  omega
noncomputable def trc (p : List Mod) (e : Str) : List Str := (runs p e).filter (effOf p)
/-! ### dicts of texts -/
def vis (S : List Str) : List (Key × V) := S.map fun x => (.inr x, .bl true)
theorem vis_val (S : List Str) (n : Str) : valV (vis S) (.inr n) = if n ∈ S then some (.bl true) else none := by
  induction S with
  | nil => rfl
  | cons x r ih =>
    show valV ((.inr x, .bl true) :: vis r) (.inr n) = _
    by_cases e : x = n
    · rw [valV_pos (by rw [e]), if_pos (by rw [e]; exact List.mem_cons_self)]
    · rw [valV_neg (by simpa using e), ih]
      by_cases m : n ∈ r
      · rw [if_pos m, if_pos (List.mem_cons_of_mem _ m)]
      · rw [if_neg m, if_neg (by simpa [m] using fun z : n = x => e z.symm)]
theorem vis_put {S : List Str} {n : Str} (h : n ∉ S) : putK (vis S) (.inr n) (.bl true) = vis (S ++ [n]) := by
  unfold putK
  rw [valV_any, vis_val, if_neg h]
  simp [vis]
/-- the modules of p stand in the dict at d -/
def MDv (K : PySem.W.Frag) (H : Hp) (kvs : List (Key × V)) (p : List Mod) : Prop := Paired (fun (kv : Key × V) (m : Mod) => kv.1 = .inr m.name ∧ Dp K H kv.2 (modD m)) kvs p
def MD (K : PySem.W.Frag) (H : Hp) (d : Addr) (p : List Mod) : Prop := ∃ kvs, H d = some (.dK kvs) ∧ MDv K H kvs p
theorem MDv.tk {K : PySem.W.Frag} {H H' : Hp} {kvs : List (Key × V)} {p : List Mod} (h : MDv K H kvs p) (k : TKeep H H') : MDv K H' kvs p := L2.Paired.mapP h fun _ _ z => ⟨z.1, dp_mod_tk z.2 k⟩
theorem MD.keep {K : PySem.W.Frag} {H H' : Hp} {d : Addr} {p : List Mod} {S : List Addr} (h : MD K H d p) (k : Keep S H H') (n : d ∉ S) (t : TKeep H H') : MD K H' d p := by
  obtain ⟨kvs, e, r⟩ := h
  exact ⟨kvs, k d _ n e, r.tk t⟩
theorem MDv.len {K : PySem.W.Frag} {H : Hp} : ∀ {kvs : List (Key × V)} {p : List Mod}, MDv K H kvs p → kvs.length = p.length
  | _, _, .nil => rfl
  | _, _, .cons _ r => by simp [MDv.len r]
theorem MDv.get {K : PySem.W.Frag} {H : Hp} : ∀ {kvs : List (Key × V)} {p : List Mod} {n : Str}, MDv K H kvs p → (∃ m v, modAt p n = some m ∧ valV kvs (.inr n) = some v ∧ Dp K H v (modD m)) ∨ (n ∉ nms p ∧ valV kvs (.inr n) = none)
  | _, _, n, .nil => .inr ⟨by simp [nms], rfl⟩
  | kv :: kvs, m :: p, n, .cons ⟨a, b⟩ r => by
    by_cases e : m.name = n
    · exact .inl ⟨m, kv.2, by simp [modAt, List.find?_cons, e], valV_pos (by rw [a, e]), b⟩
    · have e2 : valV (kv :: kvs) (.inr n) = valV kvs (.inr n) := valV_neg (by rw [a]; simpa using e)
      have e3 : modAt (m :: p) n = modAt p n := by simp [modAt, List.find?_cons, e]
      rw [e2, e3]
      rcases MDv.get (n := n) r with h | ⟨h1, h2⟩
      · exact .inl h
      · refine .inr ⟨?_, h2⟩
        show n ∉ m.name :: nms p
        simpa [h1] using fun z : n = m.name => e z.symm
theorem MDv.snoc {K : PySem.W.Frag} {H : Hp} {v : V} {m : Mod} (hv : Dp K H v (modD m)) : ∀ {kvs : List (Key × V)} {p : List Mod}, MDv K H kvs p → MDv K H (kvs ++ [(.inr m.name, v)]) (p ++ [m])
  | _, _, .nil => .cons ⟨rfl, hv⟩ .nil
  | _, _, .cons a r => .cons a (MDv.snoc hv r)
section
variable {K : PySem.W.Frag} {σ : L2.St} {H : Hp} {ta tb te td ty to tl : TE} {t u : TT} {x y z v : V} {D : Ends} {Q : VK} {tw tu tv : TS} {kvs : List (Key × V)} {d : Addr} {n : Str}
theorem pu_din (hy : Pu ty σ H (.str n)) (hd : Pu td σ H (.ref d)) (e : H d = some (.dK kvs)) : Pu (tDIn ty td) σ H (.bl (valV kvs (.inr n)).isSome) := fun _ q => hy _ (hd _ ⟨d, _, rfl, DGet.k (k := .inr n) e, q⟩)
theorem pu_dnotin (hy : Pu ty σ H (.str n)) (hd : Pu td σ H (.ref d)) (e : H d = some (.dK kvs)) : Pu (tDNotIn ty td) σ H (.bl (!(valV kvs (.inr n)).isSome)) := fun _ q => hy _ (hd _ ⟨d, _, rfl, DGet.k (k := .inr n) e, q⟩)
theorem pu_dget (hd : Pu td σ H (.ref d)) (hy : Pu ty σ H (.str n)) (e : H d = some (.dK kvs)) (hv : valV kvs (.inr n) = some v) : Pu (tDGet td ty) σ H v := fun _ q => hd _ (hy _ ⟨d, v, rfl, hv ▸ DGet.k (k := .inr n) e, q⟩)
theorem sq_dput (hv : Pu te σ H v) (hd : Pu td σ H (.ref d)) (hy : Pu ty σ H (.str n)) (e : H d = some (.dK kvs)) (hl : kvs.length < 1000000) (k : tw D σ (upd H d (.dK (putK kvs (.inr n) v)))) : tSeq (sDPut td ty te) tw D σ H :=
  hv _ (hd _ (hy _ ⟨d, _, rfl, DPut.k (k := .inr n) e (szl hl), k⟩))
theorem pu_isStr (h : Pu te σ H (.str n)) : Pu (tCB (rIsi K) (tCons te (tCons (tC (.ty "str")) tNil))) σ H (.bl true) := fun _ q => h _ ⟨_, _, .type "str", .type "str", true, rfl, .ty _, .base (.str n), rfl, q⟩
theorem sqt_ty {a : Addr} {xs : List V} (h : SqT K H a xs) : TyX K H (.ref a) (.type "tuple") := by
  rcases h with (h | ⟨o, h⟩) | ⟨o, its, m, h1, h2, _⟩
  · exact .base (.tup h)
  · exact .fTuple h
  · exact .kTuple h1 h2
theorem pu_isTup {a : Addr} {xs : List V} (h : Pu te σ H (.ref a)) (hs : SqT K H a xs) : Pu (tCB (rIsi K) (tCons te (tCons (tC (.ty "tuple")) tNil))) σ H (.bl true) := fun _ q => h _ ⟨_, _, .type "tuple", .type "tuple", true, rfl, .ty _, sqt_ty hs, rfl, q⟩
theorem pu_isInt {i : Int} (h : Pu te σ H (.int i)) : Pu (tCB (rIsi K) (tCons te (tCons (tC (.ty "int")) tNil))) σ H (.bl true) := fun _ q => h _ ⟨_, _, .type "int", .type "int", true, rfl, .ty _, .base (.int i), rfl, q⟩
theorem pu_isBoolI {i : Int} (h : Pu te σ H (.int i)) : Pu (tCB (rIsi K) (tCons te (tCons (tC (.ty "bool")) tNil))) σ H (.bl false) := fun _ q => h _ ⟨_, _, .type "int", .type "bool", false, rfl, .ty _, .base (.int i), rfl, q⟩
theorem sq_forT {a : Addr} {xs : List V} {j : Nat} {tb : TS} (h : Pu te σ H (.ref a)) (hx : SqT K H a xs) (Pv : Nat → L2.St → Hp → Prop) (h0 : Pv 0 σ H) (hl : ∀ i σ' H', i ≤ xs.length → Pv i σ' H' → SqT K H' a xs)
    (hs : ∀ i x σ' H', xs[i]? = some x → Pv i σ' H' → tb { D with nx := Pv (i + 1), ct := Pv (i + 1), bk := tw D } (σ'.set j (some x)) H') (hd : ∀ σ' H', Pv xs.length σ' H' → tw D σ' H') : tSeq (tFor (iTup K te) (gName j) tb) tw D σ H :=
  h _ ⟨a, rfl, ⟨xs, hx⟩, for_tup Pv h0 hl hs hd⟩
theorem su_forT {a : Addr} {xs : List V} {j : Nat} {tb : TS} (h : Pu te σ H (.ref a)) (hx : SqT K H a xs) (Pv : Nat → L2.St → Hp → Prop) (h0 : Pv 0 σ H) (hl : ∀ i σ' H', i ≤ xs.length → Pv i σ' H' → SqT K H' a xs)
    (hs : ∀ i x σ' H', xs[i]? = some x → Pv i σ' H' → tb { D with nx := Pv (i + 1), ct := Pv (i + 1), bk := D.nx } (σ'.set j (some x)) H') (hd : ∀ σ' H', Pv xs.length σ' H' → D.nx σ' H') : tFor (iTup K te) (gName j) tb D σ H :=
  h _ ⟨a, rfl, ⟨xs, hx⟩, for_tup Pv h0 hl hs hd⟩
theorem sq_forL {a : Addr} {xs : List V} {j : Nat} {tb : TS} (h : Pu te σ H (.ref a)) (hx : SqL K H a xs) (Pv : Nat → L2.St → Hp → Prop) (h0 : Pv 0 σ H) (hl : ∀ i σ' H', i ≤ xs.length → Pv i σ' H' → SqL K H' a xs)
    (hs : ∀ i x σ' H', xs[i]? = some x → Pv i σ' H' → tb { D with nx := Pv (i + 1), ct := Pv (i + 1), bk := tw D } (σ'.set j (some x)) H') (hd : ∀ σ' H', Pv xs.length σ' H' → tw D σ' H') : tSeq (tFor (iList K te) (gName j) tb) tw D σ H :=
  h _ ⟨a, rfl, ⟨xs, hx⟩, for_list Pv h0 hl hs hd⟩
end
/-! ### by_name, check_names -/
def spByName (K : PySem.W.Frag) : Sp := fun vs H Q _ => ∃ v p, vs = [v] ∧ Dp K H v (projD p) ∧ (nms p).Nodup ∧ p.length ≤ 1000 ∧ ∀ H' d, Keep [] H H' → H d = none → MD K H' d p → Q (.ref d) H'
def t_byName (K : PySem.W.Frag) : TS :=
  (tRet (tDc (iTup K (tVar 0)) (gName 1) tYes (tOp (rIxT K) (tVar 1) (tC (.int 0))) (tVar 1) [1]))
theorem putK_new {kvs : List (Key × V)} {n : Str} {v : V} (h : valV kvs (.inr n) = none) : putK kvs (.inr n) v = kvs ++ [(.inr n, v)] := by
  unfold putK
  rw [valV_any, h]
  rfl
theorem take_snoc {α : Type} {l : List α} {i : Nat} {x : α} (h : l[i]? = some x) : l.take (i + 1) = l.take i ++ [x] := by
  rw [List.take_add_one, h]
  rfl
theorem nms_take {p : List Mod} (i : Nat) : nms (p.take i) = (nms p).take i := by unfold nms; rw [List.map_take]
theorem fresh_at {α : Type} {l : List α} {i : Nat} {x : α} (nd : l.Nodup) (h : l[i]? = some x) : x ∉ l.take i := fun m => by
  obtain ⟨j, hj⟩ := List.mem_iff_getElem?.mp m
  rw [List.getElem?_take] at hj
  split at hj
  · next hlt =>
    have := (List.getElem?_inj (by obtain ⟨k, _⟩ := List.getElem?_eq_some_iff.mp hj; exact k) nd).mp (hj.trans h.symm)
    omega
  · cases hj
section
variable {K : PySem.W.Frag}
theorem pure_byName (vs : List V) (H : Hp) (Q : VK) (E : XK) (h : spByName K vs H Q E) : t_byName K { nx := fun _ H' => Q .non H', rt := Q } (vs.map some ++ [none]) H := by
  obtain ⟨v, p, rfl, hd, nd, pl, q⟩ := h
  obtain ⟨t, xs, rfl, h1, h2⟩ := dp_proj hd
  have xl : xs.length = p.length := by rw [dpAll_len h2, List.length_map]
  refine su_retE ?_
  refine ⟨_, rfl, t, rfl, ⟨xs, h1⟩, fun D nD => ?_⟩
  refine dc_tup (xs := xs) (fun i H' => Keep [] H H' ∧ ∃ kvs, H' D = some (.dK kvs) ∧ MDv K H' kvs (p.take i)) ⟨.new nD, [], upd_same, by simpa [MDv] using Paired.nil⟩ (fun i H' _ p => p.1.sqt (by simp) h1) ?_ fun H' ⟨k, kvs, e, r⟩ => ?_
  · rintro i x H' ex ⟨k, kvs, e, r⟩
    obtain ⟨m, em, dm⟩ := dpAll_at h2 ex
    have dm' := dp_mod_tk dm k.tk
    obtain ⟨tm, um, rfl, m1, m2⟩ := dp_mod dm'
    refine ⟨rfl, ?_⟩
    have nv : valV kvs (.inr m.name) = none := by
      rcases r.get (n := m.name) with ⟨m2, v2, z, _⟩ | ⟨_, z⟩
      · have a : m2 ∈ p.take i := List.mem_of_find?_eq_some z
        have b : m2.name = m.name := by simpa using List.find?_some z
        have c : m.name ∈ nms (p.take i) := b ▸ List.mem_map_of_mem a
        rw [nms_take] at c
        have d : (nms p)[i]? = some m.name := by simp [nms, em]
        exact absurd c (fresh_at nd d)
      · exact z
    refine (pu_op (pu_var rfl) pu_c (pur_ixT m1 rfl) : Pu _ _ _ (.str m.name)) _ ((pu_var rfl : Pu _ _ _ (.ref tm)) _ ⟨kvs, .inr m.name, rfl, e, ?_, ?_⟩)
    · have : kvs.length ≤ 1000 := by
        rw [r.len, List.length_take]
        omega
      exact szl (by omega)
    · have k2 : Keep [] H (upd H' D (.dK (putK kvs (.inr m.name) (.ref tm)))) := k.put (.inr nD)
      refine ⟨k2, _, upd_same, ?_⟩
      rw [putK_new nv, take_snoc em]
      have ktt : TKeep H' (upd H' D (.dK (kvs ++ [(.inr m.name, .ref tm)]))) := fun b => by
        by_cases eb : b = D
        · subst eb
          rw [e]
          exact ⟨fun _ z => (by cases z), fun _ _ z => (by cases z)⟩
        · rw [upd_ne eb]
          exact ⟨fun _ z => z, fun _ _ z => z⟩
      exact MDv.snoc (dp_mod_tk dm' ktt) (r.tk ktt)
  · rw [xl, List.take_length] at r
    exact q H' D k nD ⟨kvs, e, r⟩
end
/-- check_names where all are names of modules -/
def spChk (K : PySem.W.Frag) : Sp := fun vs H Q _ => ∃ v p, ∃ ns : List Str, vs = v :: ns.map V.str ∧ Dp K H v (projD p) ∧ (nms p).Nodup ∧ p.length ≤ 1000 ∧ ns.length ≤ 1000 ∧ (∀ n ∈ ns, n ∈ nms p) ∧ ∀ H', Keep [] H H' → Q .non H'
def spChkB (K : PySem.W.Frag) : Sp := fun vs H Q _ => ∃ v p t, ∃ ns : List Str, vs = [v, .ref t] ∧ SqT K H t (ns.map V.str) ∧ Dp K H v (projD p) ∧ (nms p).Nodup ∧ p.length ≤ 1000 ∧ ns.length ≤ 1000 ∧ (∀ n ∈ ns, n ∈ nms p) ∧ ∀ H', Keep [] H H' → Q .non H'
def t_chk (K : PySem.W.Frag) : TS :=
  (tSeq (tAsg (tCall (spByName K) [] E0 (tCons (tVar 0) tNil)) (gName 2))
    (tFor (iTup K (tVar 1)) (gName 3) (tIfS (tOr (tNot (tB (tCB (rIsi K) (tCons (tVar 3) (tCons (tC (.ty "str")) tNil))))) (tB (tDNotIn (tVar 3) (tVar 2)))) tNever tNext)))
section
variable {K : PySem.W.Frag}
theorem MD.isSome {H : Hp} {d : Addr} {p : List Mod} {kvs : List (Key × V)} (h : MDv K H kvs p) (n : Str) : (valV kvs (.inr n)).isSome = decide (n ∈ nms p) := by
  rcases h.get (n := n) with ⟨m, v, a, b, _⟩ | ⟨a, b⟩
  · rw [b]
    have : n ∈ nms p := by
      have e : m.name = n := by simpa using List.find?_some a
      exact e ▸ List.mem_map_of_mem (List.mem_of_find?_eq_some a)
    simp [this]
  · rw [b]
    simp [a]
theorem pure_chk (vs : List V) (H : Hp) (Q : VK) (E : XK) (h : spChkB K vs H Q E) : t_chk K { nx := fun _ H' => Q .non H', rt := Q } (vs.map some ++ [none, none]) H := by
  obtain ⟨v, p, t, ns, rfl, ht, hd, nd, pl, nl, hn, q⟩ := h
  unfold t_chk
  refine sq_doN (ad_call (ac_var rfl (ac_nil ⟨v, p, rfl, hd, nd, pl, fun H1 d k1 nD md => ?_⟩)))
  obtain ⟨kvs, e, r⟩ := md
  refine su_forT (xs := ns.map V.str) (pu_var rfl) (k1.sqt (by simp) ht) (fun i σ' H' => ∃ y, σ' = [some v, some (.ref t), some (.ref d), y] ∧ H' = H1) ⟨_, rfl, rfl⟩ (fun i σ' H' _ ⟨_, _, z⟩ => z ▸ k1.sqt (by simp) ht) ?_ ?_
  · rintro i x σ' H' ex ⟨y, rfl, rfl⟩
    rw [List.getElem?_map] at ex
    cases en : ns[i]? with
    | none => rw [en] at ex; cases ex
    | some n =>
      rw [en] at ex
      cases ex
      have hm := hn n (List.mem_of_getElem? en)
      refine su_if (b := false) (put_is (put_or (put_not (put_B (pu_isStr (pu_var rfl)))) fun _ => put_B (pu_dnotin (pu_var rfl) (pu_var rfl) e)) ?_) (fun z => by cases z) fun _ => ⟨_, rfl, rfl⟩
      rw [MD.isSome (d := d) r n]
      simp [hm]
  · rintro σ' H' ⟨y, rfl, rfl⟩
    exact q _ k1
theorem chk_of (vs : List V) (H : Hp) (Q : VK) (E : XK) (h : spChk K vs H Q E) : ∃ ws rest, vs = ws ++ rest ∧ ws.length = 1 ∧ rest.length ≤ sizeLine ∧ ∀ p, H p = none → spChkB K (ws ++ [V.ref p]) (upd H p (.tup rest)) Q E := by
  obtain ⟨v, p, ns, rfl, hd, nd, pl, nl, hn, q⟩ := h
  refine ⟨[v], ns.map V.str, rfl, rfl, sz (by rw [List.length_map]; omega), fun a na => ⟨v, p, a, ns, rfl, .inl (.inl upd_same), dp_proj_tk hd (Keep.tk (.new na)), nd, pl, nl, hn, fun H' k => q H' (Keep.trans (.new na) k)⟩⟩
end
/-! ### visit -/
def spVisit (K : PySem.W.Frag) : Nat → Sp
  | 0 => fun _ _ _ _ => False
  | d + 1 => fun vs H Q _ => ∃ md n vd fl p, ∃ S F R : List Str, vs = [.ref md, .str n, .ref vd, .ref fl] ∧ MD K H md p ∧ Wf p ∧ n ∈ nms p ∧ VD (impOf p) d S [n] R ∧ H vd = some (.dK (vis S)) ∧ H fl = some (.lst (F.map V.str)) ∧ md ≠ vd ∧
    S.length + R.length ≤ 10000 ∧ F.length + R.length ≤ 10000 ∧
    ∀ H' S', Keep [vd, fl] H H' → TKeep H H' → (∀ y, y ∈ S' ↔ y ∈ S ∨ y ∈ R) → S'.length = S.length + R.length → H' vd = some (.dK (vis S')) → H' fl = some (.lst ((F ++ R).map V.str)) → Q .non H'
def t_visit (K : PySem.W.Frag) (d : Nat) : TS :=
  (tIfS (tB (tDNotIn (tVar 1) (tVar 2))) (tSeq (sDPut (tVar 2) (tVar 1) (tC (.bl true)))
    (tSeq (tFor (iTup K (tOp (rIxT K) (tDGet (tVar 0) (tVar 1)) (tC (.int 1)))) (gName 4) (tDrop (tCall (spVisit K d) [] E0 (tCons (tVar 0) (tCons (tVar 4) (tCons (tVar 2) (tCons (tVar 3) tNil)))))))
    (tDrop (tBM K "list" rAppend (tVar 3) (tCons (tVar 1) tNil))))) tNext)
theorem VD.cons_inv {α : Type} [DecidableEq α] {g : α → List α} {d : Nat} {S L E : List α} {x : α} (h : VD g d S (x :: L) E) : ∃ E1 E2, VD g d S [x] E1 ∧ (∀ S', (∀ y, y ∈ S' ↔ y ∈ S ∨ y ∈ E1) → VD g d S' L E2) ∧ E = E1 ++ E2 := by
  cases h with
  | skip hx h2 => exact ⟨[], E, .skip hx .nil, fun S' e => h2.ext fun y => by simp [e], rfl⟩
  | @go d' _ _ _ E1 E2 hx h1 h2 =>
    refine ⟨E1 ++ [x], E2, .go hx h1 .nil, fun S' e => h2.ext fun y => ?_, by simp⟩
    rw [e]
    simp only [List.mem_cons, List.mem_append, List.not_mem_nil, or_false]
    constructor
    · rintro (h | h | h)
      · exact .inr (.inr h)
      · exact .inr (.inl h)
      · exact .inl h
    · rintro (h | h | h)
      · exact .inr (.inr h)
      · exact .inr (.inl h)
      · exact .inl h
theorem VD.drop_inv {α : Type} [DecidableEq α] {g : α → List α} {d : Nat} : ∀ {L S E : List α} {i : Nat} {x : α}, VD g d S (L.drop i) E → L[i]? = some x → ∃ E1 E2, VD g d S [x] E1 ∧ (∀ S', (∀ y, y ∈ S' ↔ y ∈ S ∨ y ∈ E1) → VD g d S' (L.drop (i + 1)) E2) ∧ E = E1 ++ E2 := by
  intro L S E i x h e
  have hl : i < L.length := (List.getElem?_eq_some_iff.mp e).1
  have e2 : L[i] = x := (List.getElem?_eq_some_iff.mp e).2
  rw [List.drop_eq_getElem_cons hl, e2] at h
  exact VD.cons_inv h
section
variable {K : PySem.W.Frag}
theorem tk_two {H H' : Hp} {a b : Addr} {kvs : List (Key × V)} {xs : List V} (k : Keep [a, b] H H') (ha : H a = some (.dK kvs)) (hb : H b = some (.lst xs)) : TKeep H H' := fun c => by
  have n : ∀ o, (o ≠ .lst xs) → (o ≠ .dK kvs) → H c = some o → c ∉ [a, b] := fun o z1 z2 e m => by
    rcases List.mem_cons.mp m with m | m
    · subst m
      rw [ha] at e
      exact z2 (Option.some.inj e).symm
    · have m := List.mem_singleton.mp m
      subst m
      rw [hb] at e
      exact z1 (Option.some.inj e).symm
  exact ⟨fun _ e => k c _ (n _ (by intro z; cases z) (by intro z; cases z) e) e, fun _ _ e => k c _ (n _ (by intro z; cases z) (by intro z; cases z) e) e⟩
theorem pure_visit (d : Nat) (vs : List V) (H : Hp) (Q : VK) (E : XK) (h : spVisit K (d + 1) vs H Q E) : t_visit K d { nx := fun _ H' => Q .non H', rt := Q } (vs.map some ++ [none]) H := by
  obtain ⟨md, n, vd, fl, p, S, F, R, rfl, hm, wf, hn, hv, eS, eF, ne, l1, l2, q⟩ := h
  unfold t_visit
  have nf : md ≠ fl := fun z => by
    obtain ⟨kvs, e, _⟩ := hm
    rw [z, eF] at e
    cases e
  have nv : vd ≠ fl := fun z => by
    rw [z, eF] at eS
    cases eS
  refine su_if (put_B (pu_dnotin (pu_var rfl) (pu_var rfl) eS)) (fun z => ?_) fun z => ?_
  · have hnS : n ∉ S := fun m => by
      rw [vis_val, if_pos m] at z
      cases z
    cases hv with
    | skip hx _ => exact absurd hx hnS
    | @go d' _ _ _ E1 E2 hx h1 h2 =>
    cases h2
    obtain ⟨m, em, hmp, mn⟩ := modAt_some hn
    have ei : impOf p n = m.imps := by simp [impOf, em]
    rw [ei] at h1
    have lR : S.length + (E1.length + 1) ≤ 10000 ∧ F.length + (E1.length + 1) ≤ 10000 := by
      simp only [List.length_append, List.length_cons, List.length_nil] at l1 l2
      omega
    refine sq_dput pu_c (pu_var rfl) (pu_var rfl) eS (by unfold vis; rw [List.length_map]; omega) ?_
    rw [vis_put hnS]
    have k0 : Keep [vd, fl] H (upd H vd (.dK (vis (S ++ [n])))) := Keep.refl.put (.inl (by simp))
    have t0 := tk_two k0 eS eF
    have hm0 := hm.keep k0 (by simp [ne, nf]) t0
    have eF0 : (upd H vd (.dK (vis (S ++ [n])))) fl = some (.lst (F.map V.str)) := by
      rw [upd_ne (fun z => nv z.symm)]
      exact eF
    have eS0 : (upd H vd (.dK (vis (S ++ [n])))) vd = some (.dK (vis (S ++ [n]))) := upd_same
    generalize upd H vd (.dK (vis (S ++ [n]))) = H0 at k0 t0 hm0 eF0 eS0 ⊢
    obtain ⟨kvs, ek, mv⟩ := hm0
    obtain ⟨m', v, em', vv, dm⟩ : ∃ m v, modAt p n = some m ∧ valV kvs (.inr n) = some v ∧ Dp K H0 v (modD m) := by
      rcases mv.get (n := n) with w | ⟨w, _⟩
      · exact w
      · exact absurd hn w
    rw [em] at em'
    cases em'
    obtain ⟨tm, um, rfl, m1, m2⟩ := dp_mod dm
    refine sq_forT (xs := m.imps.map V.str) (pu_op (pu_dget (pu_var rfl) (pu_var rfl) ek vv) pu_c (pur_ixT m1 rfl)) m2
      (fun i σ' H' => ∃ y S' A B, σ' = [some (.ref md), some (.str n), some (.ref vd), some (.ref fl), y] ∧ Keep [vd, fl] H0 H' ∧ TKeep H0 H' ∧ E1 = A ++ B ∧ VD (impOf p) d' S' (m.imps.drop i) B ∧ (∀ y, y ∈ S' ↔ (y ∈ S ∨ y = n) ∨ y ∈ A) ∧ S'.length = S.length + 1 + A.length ∧ H' vd = some (.dK (vis S')) ∧ H' fl = some (.lst ((F ++ A).map V.str)))
      ⟨_, S ++ [n], [], E1, rfl, .refl, .refl, rfl, h1.ext fun y => by simp [or_comm], fun y => by simp, by simp, eS0, by simpa using eF0⟩ (fun i σ' H' _ ⟨_, _, _, _, _, _, tk, _⟩ => tk.sqt m2) ?_ ?_
    · rintro i x σ' H' ex ⟨y, S', A, B, rfl, kk, tk, eE, vd', mem, ln, eS', eF'⟩
      rw [List.getElem?_map] at ex
      cases en : m.imps[i]? with
      | none => rw [en] at ex; cases ex
      | some o =>
        rw [en] at ex
        cases ex
        obtain ⟨B1, B2, b1, b2, rfl⟩ := VD.drop_inv vd' en
        subst eE
        simp only [List.length_append] at lR
        have ho : o ∈ nms p := wf.inn m hmp o (List.mem_of_getElem? en)
        refine ad_drop (ad_call (ac_var rfl (ac_var rfl (ac_var rfl (ac_var rfl (ac_nil ?_))))))
        refine ⟨md, o, vd, fl, p, S', F ++ A, B1, rfl, MD.keep ⟨kvs, ek, mv⟩ kk (by simp [ne, nf]) tk, wf, ho, b1, eS', eF', ne, by omega, by rw [List.length_append]; omega, ?_⟩
        intro H2 S2 k2 t2 mem2 ln2 e2 f2
        refine ⟨_, S2, A ++ B1, B2, rfl, kk.trans k2, tk.trans t2, by simp, b2 S2 mem2, fun y => ?_, by rw [ln2, ln, List.length_append]; omega, e2, by rw [f2, List.append_assoc]⟩
        rw [mem2, mem, List.mem_append, or_assoc]
    · rintro σ' H' ⟨y, S', A, B, rfl, kk, tk, eE, vd', mem, ln, eS', eF'⟩
      rw [List.length_map, List.drop_length] at vd'
      cases vd'
      rw [List.append_nil] at eE
      subst eE
      refine ad_drop (al_bm (pu_var rfl) ?_ (ac_var rfl (ac_nil ⟨fl, _, _, rfl, rfl, eF', ?_, ?_⟩)))
      · exact .inl ⟨rfl, _, .inl (.inl eF')⟩
      · rw [List.length_map, List.length_append]
        exact szl (by omega)
      · refine q _ S' ((k0.trans kk).put (.inl (by simp))) ?_ (fun y => ?_) (by rw [ln, List.length_append, List.length_cons, List.length_nil]; omega) ?_ ?_
        · exact tk_two ((k0.trans kk).put (.inl (by simp))) eS eF
        · rw [mem]
          simp only [List.mem_append, List.mem_cons, List.not_mem_nil, or_false]
          constructor
          · rintro ((h | h) | h)
            · exact .inl h
            · exact .inr (.inr h)
            · exact .inr (.inl h)
          · rintro (h | h | h)
            · exact .inl (.inl h)
            · exact .inr h
            · exact .inl (.inr h)
        · rw [upd_ne nv]
          exact eS'
        · rw [upd_same]
          simp
  · have hnS : n ∈ S := by
      refine Classical.byContradiction fun m => ?_
      rw [vis_val, if_neg m] at z
      cases z
    cases hv with
    | skip hx h2 =>
      cases h2
      exact q H S .refl .refl (fun y => by simp) (by simp) eS (by simpa using eF)
    | go hx _ _ => exact absurd hnS hx
end
end GL

set_option Elab.async false
set_option linter.all false
set_option maxRecDepth 100000
set_option maxHeartbeats 4000000
set_option exponentiation.threshold 100000
namespace GL
open PySem PySem.Spec PyProof.Rows L2
local macro_rules | `(tactic| walk_at "pu") => `(tactic| repeat' (first
  | ((with_reducible apply pu_var); rfl) | with_reducible exact pu_c | with_reducible exact pua_nil | ((with_reducible apply pur_i0); rfl) | with_reducible exact puu_neg | with_reducible exact puc_abs | with_reducible exact puc_intB
  | with_reducible exact puc_min | with_reducible exact puc_max | with_reducible exact puo_none
  | with_reducible apply pu_op | with_reducible apply pu_cb | with_reducible apply pua_cons | with_reducible refine put_test ?_ | with_reducible refine put_B ?_ | with_reducible refine put_not ?_ | with_reducible refine pu_notV ?_
  | with_reducible apply pu_un | with_reducible refine puo_some ?_ | ((with_reducible apply pur_i); rfl) | with_reducible exact pur_eq rfl | with_reducible exact pur_ne rfl | exact puc_lenL (by assumption) | exact puc_lenT (by assumption)
  | ((with_reducible apply pur_ixL); assumption) | ((with_reducible apply pur_ixT); assumption) | with_reducible apply pur_ixS | with_reducible apply pur_str))
local macro_rules | `(tactic| walk_at "side") => `(tactic| first
  | exact (show (0 : Int) < _ by decide) | exact Or.inl ⟨by decide, by decide⟩ | exact Or.inr ⟨by decide, by decide⟩ | exact Or.inl ⟨by omega, by omega⟩ | exact Or.inr ⟨by omega, by omega⟩
  | exact ⟨by decide, by decide, by decide⟩ | exact ⟨by decide, by decide⟩ | assumption | omega | exact ⟨by decide, by decide +kernel⟩)
open RM
/-! ### data compared -/
def sTup (zs : List Str) : PyData := .tuple (zs.map .str)
theorem eqvAll_inj {α : Type} (f : α → PyData) (h : ∀ a b, PyData.eqv (f a) (f b) = true ↔ a = b) : ∀ as bs : List α, PyData.eqvAll (as.map f) (bs.map f) = true ↔ as = bs
  | [], [] => by simp [PyData.eqvAll]
  | [], _ :: _ => by simp [PyData.eqvAll]
  | _ :: _, [] => by simp [PyData.eqvAll]
  | a :: as, b :: bs => by
    rw [List.map_cons, List.map_cons, PyData.eqvAll, Bool.and_eq_true, h, eqvAll_inj f h as bs, List.cons.injEq]
theorem eqv_str (a b : Str) : PyData.eqv (.str a) (.str b) = true ↔ a = b := by
  rw [PyData.eqv]
  simp
theorem eqv_sTup (a b : List Str) : PyData.eqv (sTup a) (sTup b) = true ↔ a = b := by
  unfold sTup
  rw [PyData.eqv]
  exact eqvAll_inj .str eqv_str a b
theorem eqv_lTup (a b : List (List Str)) : PyData.eqv (.list (a.map sTup)) (.list (b.map sTup)) = true ↔ a = b := by
  rw [PyData.eqv]
  exact eqvAll_inj sTup eqv_sTup a b
theorem kind_inj {a b : Bool} : kindS a = kindS b ↔ a = b := by cases a <;> cases b <;> decide +kernel
theorem eqv_mod (a b : Mod) : PyData.eqv (modD a) (modD b) = true ↔ a = b := by
  unfold modD
  rw [PyData.eqv]
  simp only [PyData.eqvAll, Bool.and_eq_true]
  have e := eqv_sTup a.imps b.imps
  unfold sTup at e
  rw [eqv_str, e, eqv_str]
  obtain ⟨n1, i1, e1⟩ := a
  obtain ⟨n2, i2, e2⟩ := b
  simp only [Mod.mk.injEq, kind_inj, and_true]
theorem eqv_proj (a b : List Mod) : PyData.eqv (projD a) (projD b) = true ↔ a = b := by
  unfold projD
  rw [PyData.eqv]
  exact eqvAll_inj modD eqv_mod a b
theorem is_dec {b : Bool} {P : Prop} [Decidable P] (h : b = true ↔ P) : b = decide P := by
  by_cases p : P
  · rw [h.mpr p, decide_eq_true p]
  · rw [decide_eq_false p]
    cases b with
    | true => exact absurd (h.mp rfl) p
    | false => rfl
theorem good_sTup {zs : List Str} (h : ∀ z ∈ zs, NameOk z) : good (sTup zs) = true := by
  unfold sTup
  rw [good]
  exact good_strs h
theorem depth_sTup (zs : List Str) : (sTup zs).depth ≤ 1 := by
  have : PyData.depthAll (zs.map .str) ≤ 0 := depthAll_le fun x hx => by
    obtain ⟨z, _, rfl⟩ := List.mem_map.mp hx
    exact Nat.le_refl _
  simp only [sTup, PyData.depth]
  omega
theorem shaped_sTup {zs : List Str} (h : ∀ z ∈ zs, NameOk z) : SeqAt.shaped (sTup zs) = true := good_shaped (good_sTup h) (Nat.le_trans (depth_sTup zs) (by decide))
theorem shaped_lTup {zs : List (List Str)} (h : ∀ l ∈ zs, ∀ z ∈ l, NameOk z) : SeqAt.shaped (.list (zs.map sTup)) = true := by
  refine good_shaped ?_ ?_
  · rw [good]
    exact good_all_of fun x hx => by
      obtain ⟨l, hl, rfl⟩ := List.mem_map.mp hx
      exact good_sTup (h l hl)
  · have : PyData.depthAll (zs.map sTup) ≤ 1 := depthAll_le fun x hx => by
      obtain ⟨z, _, rfl⟩ := List.mem_map.mp hx
      exact depth_sTup z
    simp only [PyData.depth]
    omega
theorem shaped_proj {p : List Mod} (h : Small p) : SeqAt.shaped (projD p) = true := good_shaped (good_proj h) (Nat.le_trans (depth_proj p) (by decide))
/-! ### a module with other imports -/
def giveM (n : Str) (is : List Str) (m : Mod) : Mod := if m.name = n then ⟨m.name, is, m.eff⟩ else m
def giveI (p : List Mod) (n : Str) (is : List Str) : List Mod := p.map (giveM n is)
def insAt (is : List Str) (k : Nat) (x : Str) : List Str := is.take k ++ x :: is.drop k
structure Pj (p : List Mod) : Prop where
  wf : Wf p
  sm : Small p
theorem asc_nodup {ys : List Str} (h : Asc ys) : ys.Nodup := h.imp fun {a b} z e => by
  subst e
  exact List.lt_irrefl _ (of_decide_eq_true z)
theorem ProjOk.pj {p : List Mod} (h : ProjOk p) (il : ∀ m ∈ p, m.imps.length ≤ 60) (pl : p.length ≤ 60) : Pj p := ⟨⟨asc_nodup h.asc, h.inn, pl, il⟩, h.small il (by omega)⟩
theorem giveM_name (n : Str) (is : List Str) (m : Mod) : (giveM n is m).name = m.name := by
  unfold giveM
  split <;> rfl
theorem giveM_eff (n : Str) (is : List Str) (m : Mod) : (giveM n is m).eff = m.eff := by
  unfold giveM
  split <;> rfl
theorem nms_give (p : List Mod) (n : Str) (is : List Str) : nms (giveI p n is) = nms p := by
  unfold nms giveI
  rw [List.map_map]
  exact List.map_congr_left fun m _ => giveM_name n is m
theorem modAt_give (p : List Mod) (n : Str) (is : List Str) (y : Str) : modAt (giveI p n is) y = (modAt p y).map (giveM n is) := by
  induction p with
  | nil => rfl
  | cons m r ih =>
    have e1 : modAt (giveI (m :: r) n is) y = if m.name = y then some (giveM n is m) else modAt (giveI r n is) y := by
      show (giveM n is m :: giveI r n is).find? _ = _
      rw [List.find?_cons]
      by_cases e : m.name = y
      · rw [if_pos e]
        simp [giveM_name, e]
      · rw [if_neg e]
        simp [giveM_name, e, modAt]
    have e2 : modAt (m :: r) y = if m.name = y then some m else modAt r y := by
      show (m :: r).find? _ = _
      rw [List.find?_cons]
      by_cases e : m.name = y
      · rw [if_pos e]
        simp [e]
      · rw [if_neg e]
        simp [e, modAt]
    rw [e1, e2, ih]
    split <;> rfl
theorem effOf_give (p : List Mod) (n : Str) (is : List Str) : effOf (giveI p n is) = effOf p := by
  funext y
  unfold effOf
  rw [modAt_give]
  cases modAt p y with
  | none => rfl
  | some m => simp [giveM_eff]
theorem impOf_give {p : List Mod} {n : Str} (h : n ∈ nms p) (is : List Str) : impOf (giveI p n is) = giv (impOf p) n is := by
  funext y
  unfold impOf giv
  rw [modAt_give]
  by_cases e : y = n
  · subst e
    obtain ⟨m, em, _, mn⟩ := modAt_some h
    rw [em, if_pos rfl]
    simp [giveM, mn]
  · rw [if_neg e]
    show _ = ((modAt p y).map (·.imps)).getD []
    cases em : modAt p y with
    | none => rfl
    | some m =>
      have mn : m.name = y := by simpa using List.find?_some em
      simp [giveM, mn, e]
theorem Wf.give {p : List Mod} (h : Wf p) {n : Str} {is : List Str} (hi : ∀ i ∈ is, i ∈ nms p) (hl : is.length ≤ 60) : Wf (giveI p n is) := by
  refine ⟨by rw [nms_give]; exact h.nd, fun m hm i hi2 => ?_, by unfold giveI; rw [List.length_map]; exact h.pl, fun m hm => ?_⟩
  · rw [nms_give]
    obtain ⟨m0, h0, rfl⟩ := List.mem_map.mp hm
    unfold giveM at hi2
    split at hi2
    · exact hi i hi2
    · exact h.inn m0 h0 i hi2
  · obtain ⟨m0, h0, rfl⟩ := List.mem_map.mp hm
    unfold giveM
    split
    · exact hl
    · exact h.il m0 h0
theorem Pj.name {p : List Mod} (h : Pj p) {n : Str} (hn : n ∈ nms p) : NameOk n := by
  obtain ⟨m, hm, rfl⟩ := List.mem_map.mp hn
  exact h.sm.nm m hm
theorem Pj.give {p : List Mod} (h : Pj p) {n : Str} {is : List Str} (hi : ∀ i ∈ is, i ∈ nms p) (hl : is.length ≤ 60) : Pj (giveI p n is) := by
  refine ⟨h.wf.give hi hl, fun m hm => ?_, fun m hm i hi2 => ?_, (h.wf.give hi hl).il, ?_⟩
  · obtain ⟨m0, h0, rfl⟩ := List.mem_map.mp hm
    rw [giveM_name]
    exact h.sm.nm m0 h0
  · obtain ⟨m0, h0, rfl⟩ := List.mem_map.mp hm
    unfold giveM at hi2
    split at hi2
    · exact h.name (hi i hi2)
    · exact h.sm.im m0 h0 i hi2
  · unfold giveI
    rw [List.length_map]
    exact h.sm.pl
theorem trc_in {p : List Mod} (h : Wf p) {e : Str} (he : e ∈ nms p) : ∀ y ∈ trc p e, y ∈ nms p := fun y hy => runs_in h he y (List.mem_filter.mp hy).1
theorem trc_len {p : List Mod} (h : Wf p) {e : Str} (he : e ∈ nms p) : (trc p e).length ≤ 60 := Nat.le_trans (List.length_filter_le _ _) (runs_len h he)
/-! ### more readings -/
theorem Keep.dropL {S : List Addr} {H H1 H2 : Hp} (k : Keep [] H H1) (k2 : Keep S H1 H2) (n : ∀ b ∈ S, H b = none) : Keep [] H H2 := fun x o _ e => k2 x o (fun m => by
  rw [n x m] at e
  cases e) (k x o (by simp) e)
theorem tk_upd {H : Hp} {D : Addr} {xs ys : List V} (e : H D = some (.lst xs)) : TKeep H (upd H D (.lst ys)) := fun b => by
  by_cases eb : b = D
  · subst eb
    rw [e]
    exact ⟨fun _ z => (by cases z), fun _ _ z => (by cases z)⟩
  · rw [upd_ne eb]
    exact ⟨fun _ z => z, fun _ _ z => z⟩
theorem cut_drop {xs : List V} (r : Nat) (h : r ≤ xs.length) : cutV xs (some (r : Int)) none = xs.drop r := by
  unfold cutV
  rw [HT.sIx_nat, HT.sIx_none, Nat.min_eq_left h]
  refine List.take_of_length_le ?_
  rw [List.length_drop]
  exact Nat.le_refl _
section
variable {K : PySem.W.Frag} {σ : L2.St} {H : Hp} {ta tb te td ty to tl : TE} {t u : TT} {x y z v : V} {D : Ends} {Q : VK} {tw tu tv : TS} {tas : TA} {vs : List V}
theorem pu_call {sp : Sp} {E : XK} (h : PuA tas σ H vs) (k : ∀ Q : VK, Q v H → sp (vs ++ []) H Q E) : Pu (tCall sp [] E tas) σ H v := fun Q q => h _ (k Q q)
theorem in_strs (n : Str) (is : List Str) : inV (.str n) (is.map V.str) = decide (n ∈ is) := by
  induction is with
  | nil => simp [inV]
  | cons a r ih =>
    unfold inV at ih ⊢
    rw [List.map_cons, List.any_cons, ih]
    have e : eqV (.str a) (.str n) = decide (a = n) := by
      refine is_dec ?_
      simp [eqV]
    rw [e]
    by_cases e2 : a = n
    · simp [e2]
    · have : ¬ n = a := fun z => e2 z.symm
      simp [e2, this]
theorem flat_strs (is : List Str) : (is.map V.str).all flatV = true := by simp [List.all_eq_true, flatV]
theorem pur_in {a : Addr} {n : Str} {is : List Str} (h : SqT K H a (is.map V.str) ∨ SqL K H a (is.map V.str)) : PuR (rIn K false) (.str n) (.ref a) H (.bl (decide (n ∈ is))) := fun Q q => ⟨a, _, rfl, h.symm, rfl, flat_strs is, by
  rw [in_strs]
  exact q⟩
theorem pur_notin {a : Addr} {n : Str} {is : List Str} (h : SqT K H a (is.map V.str) ∨ SqL K H a (is.map V.str)) : PuR (rIn K true) (.str n) (.ref a) H (.bl (!decide (n ∈ is))) := fun Q q => ⟨a, _, rfl, h.symm, rfl, flat_strs is, by
  rw [in_strs]
  exact q⟩
theorem ad_slA {a : Addr} {xs : List V} {lo hi : Option Int} (h : SqT K H a xs) (k : ∀ H' r, Keep [] H H' → SqT K H' r (cutV xs lo hi) → Q (.ref r) H') : rSlA K (.ref a) lo hi H Q := by
  refine ⟨a, xs, rfl, h, fun e => k H a .refl ?_, fun _ p np => k _ p (.new np) (.inl (.inl upd_same))⟩
  unfold cutV
  rw [e.1, e.2]
  simpa using h
/-- (*a[:k], o, *a[k:]) -/
theorem al_ins {ia ik io : Nat} {a : Addr} {is : List Str} {o : Str} {k : Nat} (ha : σ[ia]? = some (some (.ref a))) (hk : σ[ik]? = some (some (.int (k : Int)))) (ho : σ[io]? = some (some (.str o))) (hs : SqT K H a (is.map V.str)) (hl : k ≤ is.length) (h6 : is.length ≤ 100000)
    (q : ∀ H' r, Keep [] H H' → SqT K H' r ((insAt is k o).map V.str) → Q (.ref r) H') :
    tTup (StX.tStar K (tSl (rSlA K) (tVar ia) tNoPart (tPart (tVar ik))) (tCons (tVar io) (StX.tStar K (tSl (rSlA K) (tVar ia) (tPart (tVar ik)) tNoPart) tNil))) σ H Q := by
  refine ⟨_, ha, ⟨_, hk, _, rfl, ad_slA hs fun H1 r1 k1 s1 => ⟨r1, _, rfl, .inl s1, ?_⟩⟩⟩
  refine ⟨_, ho, ?_⟩
  refine ⟨_, ha, ⟨_, hk, _, rfl, ad_nop (ad_slA (k1.sqt (by simp) hs) fun H2 r2 k2 s2 => ⟨r2, _, rfl, .inl s2, ?_⟩)⟩⟩
  refine ⟨?_, fun p np => ?_⟩
  · rw [cut_take, cut_drop _ (by rw [List.length_map]; exact hl)]
    simp only [List.append_nil, List.length_append, List.length_cons, List.length_take, List.length_drop, List.length_map]
    exact sz (by omega)
  · refine q _ p ((k1.trans k2).trans (.new np)) (.inl (.inl ?_))
    rw [upd_same, cut_take, cut_drop _ (by rw [List.length_map]; exact hl)]
    simp [insAt, List.map_take, List.map_drop]
/-- a comprehension whose items are new things: P tells what they are -/
theorem lcr {J : It} {n j : Nat} {Gd : Hp → Prop} {it : Nat → V} (w : Walk J n Gd (YFn it)) {te : TE} {vs : List Nat} {P : Nat → V → Hp → Prop} (hG : ∀ H', Keep [] H H' → Gd H') (hn : n ≤ 1000000)
    (hw : ∀ v, wipe ((wipe σ vs).set j (some v)) vs = wipe σ vs) (hP : ∀ i y H1 H2, TKeep H1 H2 → P i y H1 → P i y H2)
    (he : ∀ i H', i < n → Keep [] H H' → ∀ R : VK, (∀ y H'', Keep [] H' H'' → P i y H'' → R y H'') → te ((wipe σ vs).set j (some (it i))) H' R)
    (k : ∀ D H' ys, Keep [] H H' → H D = none → H' D = some (.lst ys) → ys.length = n → (∀ i y, ys[i]? = some y → P i y H') → Q (.ref D) H') :
    ∀ D, H D = none → ∃ W : Nat → Nat → Hp → Prop, (∃ m, W 0 m (upd H D (.lst []))) ∧ ∀ i m H, W i m H →
      (J.stop i H ∧ Q (.ref D) H) ∨ (J.go i H ∧ ∃ Nx : Hp → Prop, (∀ H', Nx H' → ∃ m', m' < m ∧ W (i + 1) m' H') ∧ ∀ x H', J.yld i H x H' → gName j x (wipe σ vs) H' fun σ2 H2 => wipe σ2 vs = wipe σ vs ∧ tYes σ2 H2 fun b H3 =>
        if b = true then te σ2 H3 fun y H4 => ∃ acc, H4 D = some (.lst acc) ∧ acc.length < sizeLine ∧ Nx (upd H4 D (.lst (acc ++ [y]))) else Nx H3) := by
  intro D hD
  refine lc_it w (fun i H' => Keep [] H H' ∧ ∃ ys, H' D = some (.lst ys) ∧ ys.length = i ∧ ∀ i y, ys[i]? = some y → P i y H') ⟨.new hD, [], upd_same, rfl, fun i y z => by simp at z⟩ (fun i H' _ h => hG H' h.1) ?_ fun H' ⟨h1, ys, h2, h3, h4⟩ => k D H' ys h1 hD h2 h3 h4
  rintro i x H1 H2 hi ⟨kp, ys, eD, ly, hy⟩ ⟨rfl, rfl⟩
  refine ⟨hw _, ?_⟩
  refine he i _ hi kp _ fun y H3 k3 py => ?_
  have e3 := k3 D _ (by simp) eD
  refine ⟨ys, e3, szl (by omega), (kp.trans k3).put (.inr hD), _, upd_same, by simp [ly], fun i' y' z => ?_⟩
  have tk := tk_upd (ys := ys ++ [y]) e3
  by_cases hlt : i' < ys.length
  · rw [List.getElem?_append_left hlt] at z
    exact hP _ _ _ _ tk (hP _ _ _ _ k3.tk (hy i' y' z))
  · rw [List.getElem?_append_right (by omega)] at z
    have e0 : i' - ys.length = 0 := by
      refine Nat.eq_zero_of_not_pos fun hp => ?_
      rw [List.getElem?_eq_none (by simp; omega)] at z
      cases z
    rw [e0] at z
    cases z
    have : i' = i := by omega
    subst this
    exact hP _ _ _ _ tk py
theorem lcr_tup {a : Addr} {xs : List V} {j : Nat} {vs : List Nat} {it : Nat → V} {P : Nat → V → Hp → Prop} (h : Pu tl σ H (.ref a)) (hx : SqT K H a xs) (hn : xs.length ≤ 1000000) (hit : ∀ i x, xs[i]? = some x → it i = x) (hw : ∀ v, wipe ((wipe σ vs).set j (some v)) vs = wipe σ vs)
    (hP : ∀ i y H1 H2, TKeep H1 H2 → P i y H1 → P i y H2) (he : ∀ i H', i < xs.length → Keep [] H H' → ∀ R : VK, (∀ y H'', Keep [] H' H'' → P i y H'' → R y H'') → te ((wipe σ vs).set j (some (it i))) H' R)
    (k : ∀ D H' ys, Keep [] H H' → H D = none → H' D = some (.lst ys) → ys.length = xs.length → (∀ i y, ys[i]? = some y → P i y H') → Q (.ref D) H') : tLc (iTup K tl) (gName j) tYes te vs σ H Q :=
  h _ ⟨a, rfl, ⟨xs, hx⟩, lcr (walk_tupF hit) (fun H' kp => kp.sqt (by simp) hx) hn hw hP he k⟩
/-- all([..]) -/
theorem ke_all {a : Addr} {xs : List V} {j : Nat} {vs : List Nat} {it : Nat → V} {f : Nat → Bool} (h : Pu tl σ H (.ref a)) (hx : SqT K H a xs) (hn : xs.length ≤ 1000000) (hit : ∀ i x, xs[i]? = some x → it i = x) (hw : ∀ v, wipe ((wipe σ vs).set j (some v)) vs = wipe σ vs)
    (he : ∀ i H', i < xs.length → Keep [] H H' → Ke te ((wipe σ vs).set j (some (it i))) H' (.bl (f i))) : Ke (tCB (rAll K) (tCons (tLc (iTup K tl) (gName j) tYes te vs) tNil)) σ H (.bl ((List.range xs.length).all f)) := fun Q q => by
  refine al_cons (lce_tup (b := fun _ => true) (f := fun i => .bl (f i)) h hx hn hit hw (fun _ _ _ _ => keT_yes) (fun i H' hi kp _ => he i H' hi kp) fun D H' kp nD eD => ac_nil ⟨D, (List.range xs.length).map f, rfl, .inl (.inl ?_), ?_⟩)
  · rw [eD, filter_all, List.map_map]
    rfl
  · rw [show ((List.range xs.length).map f).all id = (List.range xs.length).all f by rw [List.all_map]; rfl]
    exact q H' kp
end
theorem dpAll_mk {K : PySem.W.Frag} {H : Hp} {α : Type} {f : α → PyData} : ∀ {ys : List V} {l : List α}, ys.length = l.length → (∀ (i : Nat) y m, ys[i]? = some y → l[i]? = some m → Dp K H y (f m)) → DpAll K H ys (l.map f)
  | [], [], _, _ => .nil
  | [], _ :: _, h, _ => by cases h
  | _ :: _, [], h, _ => by cases h
  | y :: ys, m :: l, h, k => .cons (k 0 y m rfl rfl) (dpAll_mk (by simpa using h) fun i y' m' e1 e2 => k (i + 1) y' m' (by simpa using e1) (by simpa using e2))
/-! ### with_effects, run_order, trace -/
def spWithEff (K : PySem.W.Frag) : Sp := fun vs H Q _ => ∃ md t p, ∃ ns : List Str, vs = [.ref md, .ref t] ∧ MD K H md p ∧ SqT K H t (ns.map V.str) ∧ ns.length ≤ 1000 ∧ (∀ n ∈ ns, n ∈ nms p) ∧
  ∀ H' r, Keep [] H H' → H r = none → H' r = some (.tup ((ns.filter (effOf p)).map V.str)) → Q (.ref r) H'
def t_withEff (K : PySem.W.Frag) : TS :=
  (tRet (tCB (rTupQ K) (tCons (tLc (iTup K (tVar 1)) (gName 2) (tTest (tOp rEq (tOp (rIxT K) (tDGet (tVar 0) (tVar 2)) (tC (.int 2))) (tC (.str "effect")))) (tVar 2) [2]) tNil)))
def spRunOrder (K : PySem.W.Frag) : Sp := fun vs H Q _ => ∃ v p e, vs = [v, .str e] ∧ Dp K H v (projD p) ∧ Wf p ∧ e ∈ nms p ∧ ∀ H' r, Keep [] H H' → H r = none → H' r = some (.tup ((runs p e).map V.str)) → Q (.ref r) H'
def t_runOrder (K : PySem.W.Frag) : TS :=
  (tSeq (tDrop (tCall (spChk K) [] E0 (tCons (tVar 0) (tCons (tVar 1) tNil))))
    (tSeq (tAsg (tLst tNil) (gName 2))
    (tSeq (tDrop (tCall (spVisit K 64) [] E0 (tCons (tCall (spByName K) [] E0 (tCons (tVar 0) tNil)) (tCons (tVar 1) (tCons tDNewK (tCons (tVar 2) tNil))))))
    (tRet (tCB (rTupQ K) (tCons (tVar 2) tNil))))))
def spTrace (K : PySem.W.Frag) : Sp := fun vs H Q _ => ∃ v p e, vs = [v, .str e] ∧ Dp K H v (projD p) ∧ Wf p ∧ e ∈ nms p ∧ ∀ H' r, Keep [] H H' → H r = none → H' r = some (.tup ((trc p e).map V.str)) → Q (.ref r) H'
def t_trace (K : PySem.W.Frag) : TS :=
  (tRet (tCall (spWithEff K) [] E0 (tCons (tCall (spByName K) [] E0 (tCons (tVar 0) tNil)) (tCons (tCall (spRunOrder K) [] E0 (tCons (tVar 0) (tCons (tVar 1) tNil))) tNil))))
section
variable {K : PySem.W.Frag}
theorem MD.at {H : Hp} {d : Addr} {p : List Mod} {n : Str} (h : MD K H d p) (hn : n ∈ nms p) : ∃ kvs m tm um, H d = some (.dK kvs) ∧ modAt p n = some m ∧ m ∈ p ∧ m.name = n ∧ valV kvs (.inr n) = some (.ref tm) ∧ SqT K H tm [.str m.name, .ref um, .str (kindS m.eff)] ∧ SqT K H um (m.imps.map V.str) := by
  obtain ⟨kvs, e, r⟩ := h
  rcases r.get (n := n) with ⟨m, v, a, b, c⟩ | ⟨a, _⟩
  · obtain ⟨tm, um, rfl, m1, m2⟩ := dp_mod c
    exact ⟨kvs, m, tm, um, e, a, List.mem_of_find?_eq_some a, by simpa using List.find?_some a, b, m1, m2⟩
  · exact absurd hn a
theorem ex_map {α β : Type} {l : List α} {f : α → β} {i : Nat} {y : β} (h : (l.map f)[i]? = some y) : ∃ x, l[i]? = some x ∧ y = f x := by
  rw [List.getElem?_map] at h
  cases e : l[i]? with
  | none => rw [e] at h; cases h
  | some x =>
    rw [e] at h
    exact ⟨x, rfl, (Option.some.inj h).symm⟩
theorem pure_withEff (vs : List V) (H : Hp) (Q : VK) (E : XK) (h : spWithEff K vs H Q E) : t_withEff K { nx := fun _ H' => Q .non H', rt := Q } (vs.map some ++ [none]) H := by
  obtain ⟨md, t, p, ns, rfl, hm, ht, nl, hn, q⟩ := h
  refine su_retE (al_cons (lcp_tup (xs := ns.map V.str) (it := fun i => .str (ns[i]?.getD Str.empty)) (b := fun i => effOf p (ns[i]?.getD Str.empty)) (f := fun i => .str (ns[i]?.getD Str.empty)) (pu_var rfl) ht (by rw [List.length_map]; omega) (fun i x e => ?_) (fun _ => rfl) (fun i H' hi kp => ?_) (fun i H' hi kp _ => pu_var rfl) fun D H' kp nD eD => ac_nil ⟨D, _, rfl, .inl ⟨.inl (.inl eD), fun l nl => ?_⟩⟩))
  · obtain ⟨n, e1, rfl⟩ := ex_map e
    rw [e1]
    rfl
  · rw [List.length_map] at hi
    have e1 : ns[i]? = some ns[i] := List.getElem?_eq_getElem hi
    rw [e1]
    obtain ⟨kvs, m, tm, um, ek, em, _, _, ev, m1, m2⟩ := (hm.keep kp (by simp) kp.tk).at (hn _ (List.mem_of_getElem? e1))
    refine put_test (pu_is (pu_op (pu_op (pu_dget (pu_var rfl) (pu_var rfl) ek ev) pu_c (pur_ixT m1 rfl)) pu_c (pur_eq rfl)) ?_)
    have : effOf p (Option.getD (some ns[i]) Str.empty) = m.eff := by
      show effOf p ns[i] = _
      simp [effOf, em]
    rw [this]
    generalize m.eff = b
    cases b <;> decide +kernel
  · refine q _ l (kp.trans (.new nl)) (kp.back (by simp) nl) ?_
    rw [upd_same, List.length_map, range_pick ns Str.empty (effOf p) V.str]
theorem pure_runOrder (vs : List V) (H : Hp) (Q : VK) (E : XK) (h : spRunOrder K vs H Q E) : t_runOrder K { nx := fun _ H' => Q .non H', rt := Q } (vs.map some ++ [none]) H := by
  obtain ⟨v, p, e, rfl, hd, wf, he, q⟩ := h
  have pl := wf.pl
  unfold t_runOrder
  refine sq_drop (ad_call (ac_var rfl (ac_var rfl (ac_nil ⟨v, p, [e], rfl, hd, wf.nd, by omega, by simp, by simpa using he, fun H1 k1 => ?_⟩))))
  refine sq_doN (al_lst pua_nil (by decide) fun l nl => ?_)
  have k2 : Keep [] H (upd H1 l (.lst [])) := k1.trans (.new nl)
  have e2 : (upd H1 l (.lst [])) l = some (.lst []) := upd_same
  have nlH := k1.back (by simp) nl
  generalize upd H1 l (.lst []) = H2 at k2 e2 ⊢
  refine sq_drop (ad_call (ac_call (ac_var rfl (ac_nil ⟨v, p, rfl, dp_proj_tk hd k2.tk, wf.nd, by omega, fun H3 d k3 nd md => ?_⟩))))
  refine ac_var rfl (al_cons fun c nc => ac_var rfl (ac_nil ?_))
  obtain ⟨R, hR⟩ := VD.total wf.cl 63 [] [e] (Nat.le_trans (cnt_le _ _) (by unfold nms; rw [List.length_map]; omega)) (by simpa using he)
  have eR : R = runs p e := hR.vl.det (runs_vl wf he)
  have rl := runs_len wf he
  rw [← eR] at rl
  have k4 : Keep [] H3 (upd H3 c (.dK [])) := .new nc
  have cl : c ≠ l := fun z => by
    rw [z, k3 l _ (by simp) e2] at nc
    cases nc
  have ncH : H c = none := (k2.trans k3).back (by simp) nc
  refine ⟨d, e, c, l, p, [], [], R, rfl, md.keep k4 (by simp) k4.tk, wf, he, hR, upd_same, (k3.trans k4) l _ (by simp) e2, fun z => ?_, by simp; omega, by simp; omega, fun H5 S' k5 t5 _ _ _ f5 => ?_⟩
  · obtain ⟨kvs, ek, _⟩ := md
    rw [z, nc] at ek
    cases ek
  have k6 : Keep [] H H5 := Keep.dropL ((k2.trans k3).trans k4) k5 fun b hb => by
    rcases List.mem_cons.mp hb with rfl | hb
    · exact ncH
    · rw [List.mem_singleton.mp hb]
      exact nlH
  refine su_retE (al_tupL (pua_cons (pu_var rfl) pua_nil) (.inl (.inl f5)) fun r nr => q _ r (k6.trans (.new nr)) (k6.back (by simp) nr) ?_)
  rw [upd_same, ← eR]
  rfl
theorem pure_trace (vs : List V) (H : Hp) (Q : VK) (E : XK) (h : spTrace K vs H Q E) : t_trace K { nx := fun _ H' => Q .non H', rt := Q } (vs.map some ++ []) H := by
  obtain ⟨v, p, e, rfl, hd, wf, he, q⟩ := h
  have pl := wf.pl
  refine su_retE (ad_call (ac_call (ac_var rfl (ac_nil ⟨v, p, rfl, hd, wf.nd, by omega, fun H1 d k1 nd md => ?_⟩))))
  refine ac_call (ac_var rfl (ac_var rfl (ac_nil ⟨v, p, e, rfl, dp_proj_tk hd k1.tk, wf, he, fun H2 r k2 nr er => ?_⟩)))
  refine ac_nil ⟨d, r, p, runs p e, rfl, md.keep k2 (by simp) k2.tk, .inl (.inl er), by have := runs_len wf he; omega, runs_in wf he, fun H3 r3 k3 n3 e3 => q H3 r3 ((k1.trans k2).trans k3) ((k1.trans k2).back (by simp) n3) e3⟩
end
/-! ### are_different, is_integer, with_imports -/
def spAreDiff (K : PySem.W.Frag) : Sp := fun vs H Q _ => ∃ t, ∃ xs : List Str, vs = [.ref t] ∧ SqT K H t (xs.map V.str) ∧ xs.length ≤ 1000 ∧ Q (.bl (decide (xs.length ≤ 20) && decide xs.Nodup)) H
def t_areDiff (K : PySem.W.Frag) : TS :=
  (tRet (tAndV (tOp rLe (tCB (rLenQ K) (tCons (tVar 0) tNil)) (tC (.int 20))) (tOp rEq (tLenSetQ K (tVar 0)) (tCB (rLenQ K) (tCons (tVar 0) tNil)))))
def spIsInt (K : PySem.W.Frag) : Sp := fun vs H Q _ => ∃ i : Int, vs = [.int i] ∧ Q (.bl true) H
def t_isInt (K : PySem.W.Frag) : TS :=
  (tRet (tAndV (tCB (rIsi K) (tCons (tVar 0) (tCons (tC (.ty "int")) tNil))) (tNotV (tCB (rIsi K) (tCons (tVar 0) (tCons (tC (.ty "bool")) tNil))))))
def spWithImps (K : PySem.W.Frag) : Sp := fun vs H Q _ => ∃ v n t p, ∃ is : List Str, vs = [v, .str n, .ref t] ∧ Dp K H v (projD p) ∧ (nms p).Nodup ∧ p.length ≤ 1000 ∧ n ∈ nms p ∧ SqT K H t (is.map V.str) ∧ (∀ i ∈ is, i ∈ nms p) ∧ n ∉ is ∧ is.Nodup ∧ is.length ≤ 20 ∧
  ∀ H' r, Keep [] H H' → Dp K H' (.ref r) (projD (giveI p n is)) → Q (.ref r) H'
def t_withImps (K : PySem.W.Frag) : TS :=
  (tSeq (tDrop (tCall (spChk K) [] E0 (tCons (tVar 0) (tCons (tVar 1) tNil))))
    (tSeq (tAsg (tCall (spByName K) [] E0 (tCons (tVar 0) tNil)) (gName 3))
    (tSeq (tIfS (tOr (tNot (tB (tCB (rIsi K) (tCons (tVar 2) (tCons (tC (.ty "tuple")) tNil))))) (tNot (tB (tCB (rAll K) (tCons (tLc (iTup K (tVar 2)) (gName 4) tYes (tAndV (tCB (rIsi K) (tCons (tVar 4) (tCons (tC (.ty "str")) tNil))) (tDIn (tVar 4) (tVar 3))) [4]) tNil))))) tNever tNext)
    (tSeq (tIfS (tOr (tTest (tOp (rIn K false) (tVar 1) (tVar 2))) (tNot (tB (tCall (spAreDiff K) [] E0 (tCons (tVar 2) tNil))))) tNever tNext)
    (tRet (tCB (rTupQ K) (tCons (tLc (iTup K (tVar 0)) (gName 5) tYes (tIf (tTest (tOp rEq (tOp (rIxT K) (tVar 5) (tC (.int 0))) (tVar 1))) (tTup (tCons (tVar 1) (tCons (tVar 2) (tCons (tOp (rIxT K) (tVar 5) (tC (.int 2))) tNil)))) (tVar 5)) [5]) tNil)))))))
section
variable {K : PySem.W.Frag}
theorem pure_isInt (vs : List V) (H : Hp) (Q : VK) (E : XK) (h : spIsInt K vs H Q E) : t_isInt K { nx := fun _ H' => Q .non H', rt := Q } (vs.map some ++ []) H := by
  obtain ⟨i, rfl, q⟩ := h
  exact su_ret (pu_andV (a := true) (b := !false) (pu_isInt (pu_var rfl)) fun _ => pu_notV (pu_isBoolI (pu_var rfl))) q
theorem pure_areDiff (vs : List V) (H : Hp) (Q : VK) (E : XK) (h : spAreDiff K vs H Q E) : t_areDiff K { nx := fun _ H' => Q .non H', rt := Q } (vs.map some ++ []) H := by
  obtain ⟨t, xs, rfl, ht, xl, q⟩ := h
  refine su_ret (pu_is (pu_andV (pu_op (pu_cb (pua_cons (pu_var rfl) pua_nil) (puc_lenT ht)) pu_c (pur_i0 rfl)) fun _ => pu_op (x := .int (firsts xs).length) (fun Q q => ⟨_, rfl, t, xs, rfl, .inr ht, xl, q⟩) (pu_cb (pua_cons (pu_var rfl) pua_nil) (puc_lenT ht)) (pur_eq rfl)) ?_) q
  congr 1
  rw [List.length_map]
  have e1 : decide ((xs.length : Int) ≤ 20) = decide (xs.length ≤ 20) := by
    by_cases z : xs.length ≤ 20
    · rw [decide_eq_true z, decide_eq_true (by omega)]
    · rw [decide_eq_false z, decide_eq_false (by omega)]
  have e2 : decide (V.int ((firsts xs).length : Int) = V.int (xs.length : Int)) = decide xs.Nodup := by
    by_cases z : xs.Nodup
    · rw [decide_eq_true z, firsts_self z]
      simp
    · rw [decide_eq_false z, decide_eq_false fun w => z (firsts_len (by
        have := V.int.inj w
        omega))]
  rw [e1, e2]
theorem pure_withImps (vs : List V) (H : Hp) (Q : VK) (E : XK) (h : spWithImps K vs H Q E) : t_withImps K { nx := fun _ H' => Q .non H', rt := Q } (vs.map some ++ [none, none, none]) H := by
  obtain ⟨v, n, t, p, is, rfl, hd, nd, pl, hn, ht, hi, ho, hnd, il, q⟩ := h
  unfold t_withImps
  refine sq_drop (ad_call (ac_var rfl (ac_var rfl (ac_nil ⟨v, p, [n], rfl, hd, nd, pl, by simp, by simpa using hn, fun H1 k1 => ?_⟩))))
  refine sq_doN (ad_call (ac_var rfl (ac_nil ⟨v, p, rfl, dp_proj_tk hd k1.tk, nd, pl, fun H2 d k2 nD md => ?_⟩)))
  have kk2 := k1.trans k2
  have ht2 := kk2.sqt (by simp) ht
  obtain ⟨kvs, ek, mv⟩ := md
  refine sq_ifK (b := false) ?_ (fun z => by cases z) fun _ H3 k3 => sq_nx ?_
  · have e : false = (!true || !((List.range (is.map V.str).length).all fun i => decide ((is[i]?.getD Str.empty) ∈ nms p))) := by
      have : ((List.range (is.map V.str).length).all fun i => decide ((is[i]?.getD Str.empty) ∈ nms p)) = true := by
        rw [List.all_eq_true]
        intro i hi2
        rw [List.mem_range, List.length_map] at hi2
        have e1 : is[i]? = some is[i] := List.getElem?_eq_getElem hi2
        rw [e1]
        exact decide_eq_true (hi _ (List.mem_of_getElem? e1))
      rw [this]
      rfl
    rw [e]
    refine ket_or (ket_not (ket_B (pu_isTup (pu_var rfl) ht2).ke)) fun _ H3 k3 => ket_not (ket_B (ke_all (it := fun i => .str (is[i]?.getD Str.empty)) (f := fun i => decide ((is[i]?.getD Str.empty) ∈ nms p)) (pu_var rfl) (k3.sqt (by simp) ht2) (by rw [List.length_map]; omega) (fun i x e => ?_) (fun _ => rfl) fun i H4 hi4 k4 => Pu.ke (pu_is (pu_andV (a := true) (pu_isStr (pu_var rfl)) fun _ => pu_din (pu_var rfl) (pu_var rfl) (k4 d _ (by simp) (k3 d _ (by simp) ek))) ?_)))
    · obtain ⟨z, e1, rfl⟩ := ex_map e
      rw [e1]
      rfl
    · rw [MD.isSome (d := d) mv]
      rfl
  have kk3 := kk2.trans k3
  have ht3 := kk3.sqt (by simp) ht
  have hd3 := dp_proj_tk hd kk3.tk
  refine sq_if (b := false) (put_is (put_or (put_test (pu_op (pu_var rfl) (pu_var rfl) (pur_in (.inl ht3)))) fun _ => put_not (put_B (pu_call (pua_cons (pu_var rfl) pua_nil) fun Q q => ⟨t, is, rfl, ht3, by omega, q⟩))) ?_) (fun z => by cases z) fun _ => sq_nx ?_
  · simp [ho, hnd, il]
  obtain ⟨tp, xs, rfl, h1, h2⟩ := dp_proj hd3
  have xl : xs.length = p.length := by rw [dpAll_len h2, List.length_map]
  refine su_retE (al_cons (lcr_tup (xs := xs) (it := fun i => xs[i]?.getD .non) (P := fun i y H' => ∀ m, p[i]? = some m → Dp K H' y (modD (giveM n is m))) (pu_var rfl) h1 (by omega) (fun i x e => by rw [e]; rfl) (fun _ => rfl) (fun i y Ha Hb tk h m e => dp_mod_tk (h m e) tk) (fun i H4 hi4 k4 R r => ?_) fun D H4 ys k4 nD eD yl py => ac_nil ⟨D, ys, rfl, .inl ⟨.inl (.inl eD), fun r nr => ?_⟩⟩))
  · have ex : xs[i]? = some xs[i] := List.getElem?_eq_getElem hi4
    obtain ⟨m, em, dm⟩ := dpAll_at h2 ex
    rw [ex]
    have dm4 := dp_mod_tk dm k4.tk
    obtain ⟨tm, um, eq, m1, m2⟩ := dp_mod dm4
    rw [eq]
    refine (put_test (pu_op (pu_op (pu_var rfl) pu_c (pur_ixT m1 rfl)) (pu_var rfl) (pur_eq rfl))) _ ?_
    by_cases e : m.name = n
    · rw [decide_eq_true (by rw [e])]
      refine al_tup (pua_cons (pu_var rfl) (pua_cons (pu_var rfl) (pua_cons (pu_op (pu_var rfl) pu_c (pur_ixT m1 rfl)) pua_nil))) (by show 3 ≤ sizeLine; decide) fun a na => r _ _ (.new na) fun m' em' => ?_
      rw [em] at em'
      cases em'
      unfold giveM
      rw [if_pos e]
      refine mod_dp (u := t) (.inl (.inl ?_)) ((kk3.trans (k4.trans (.new na))).sqt (by simp) ht)
      rw [upd_same, e]
    · rw [decide_eq_false (by simpa using e)]
      refine (pu_var rfl : Pu _ _ _ (.ref tm)) _ (r _ _ .refl fun m' em' => ?_)
      rw [em] at em'
      cases em'
      unfold giveM
      rw [if_neg e, ← eq]
      exact dm4
  · have k5 : Keep [] H4 (upd H4 r (.tup ys)) := .new nr
    refine q _ r ((kk3.trans k4).trans k5) (.tup (.inl (.inl upd_same)) ?_)
    refine dpAll_mk (by unfold giveI; rw [List.length_map]; omega) fun i y m e1 e2 => ?_
    unfold giveI at e2
    obtain ⟨m0, e3, rfl⟩ := ex_map e2
    exact dp_mod_tk (py i y e1 m0 e3) k5.tk
end
end GL

set_option Elab.async false
set_option linter.all false
set_option maxRecDepth 100000
set_option maxHeartbeats 4000000
set_option exponentiation.threshold 100000
namespace GL
open PySem PySem.Spec PyProof.Rows L2
local macro_rules | `(tactic| walk_at "pu") => `(tactic| repeat' (first
  | ((with_reducible apply pu_var); rfl) | with_reducible exact pu_c | with_reducible exact pua_nil | ((with_reducible apply pur_i0); rfl) | with_reducible exact puu_neg | with_reducible exact puc_abs | with_reducible exact puc_intB
  | with_reducible exact puc_min | with_reducible exact puc_max | with_reducible exact puo_none
  | with_reducible apply pu_op | with_reducible apply pu_cb | with_reducible apply pua_cons | with_reducible refine put_test ?_ | with_reducible refine put_B ?_ | with_reducible refine put_not ?_ | with_reducible refine pu_notV ?_
  | with_reducible apply pu_un | with_reducible refine puo_some ?_ | ((with_reducible apply pur_i); rfl) | with_reducible exact pur_eq rfl | with_reducible exact pur_ne rfl | exact puc_lenL (by assumption) | exact puc_lenT (by assumption)
  | ((with_reducible apply pur_ixL); assumption) | ((with_reducible apply pur_ixT); assumption) | with_reducible apply pur_ixS | with_reducible apply pur_str))
local macro_rules | `(tactic| walk_at "side") => `(tactic| first
  | exact (show (0 : Int) < _ by decide) | exact Or.inl ⟨by decide, by decide⟩ | exact Or.inr ⟨by decide, by decide⟩ | exact Or.inl ⟨by omega, by omega⟩ | exact Or.inr ⟨by omega, by omega⟩
  | exact ⟨by decide, by decide, by decide⟩ | exact ⟨by decide, by decide⟩ | assumption | omega | exact ⟨by decide, by decide +kernel⟩)
open RM
/-! ### editing -/
def spNewImp (K : PySem.W.Frag) : Sp := fun vs H Q _ => ∃ v n o p, vs = [v, .str n, .str o] ∧ Dp K H v (projD p) ∧ (nms p).Nodup ∧ p.length ≤ 1000 ∧ n ∈ nms p ∧ o ≠ n ∧ o ∉ impOf p n ∧ (impOf p n).length < 20 ∧
  ∀ H' u, Keep [] H H' → SqT K H' u ((impOf p n).map V.str) → Q (.ref u) H'
def t_newImp (K : PySem.W.Frag) : TS :=
  (tSeq (tAsg (tOp (rIxT K) (tDGet (tCall (spByName K) [] E0 (tCons (tVar 0) tNil)) (tVar 1)) (tC (.int 1))) (gName 3))
    (tSeq (tIfS (tOr (tTest (tOp rEq (tVar 2) (tVar 1))) (tOr (tTest (tOp (rIn K false) (tVar 2) (tVar 3))) (tTest (tOp rGe (tCB (rLenQ K) (tCons (tVar 3) tNil)) (tC (.int 20)))))) tNever tNext)
    (tRet (tVar 3))))
def spInserted (K : PySem.W.Frag) : Sp := fun vs H Q _ => ∃ v n o p, ∃ k : Nat, vs = [v, .str n, .str o, .int k] ∧ Dp K H v (projD p) ∧ Wf p ∧ n ∈ nms p ∧ o ∈ nms p ∧ o ≠ n ∧ n ∉ impOf p n ∧ (impOf p n).Nodup ∧ o ∉ impOf p n ∧ (impOf p n).length < 20 ∧ k ≤ (impOf p n).length ∧
  ∀ H' r, Keep [] H H' → Dp K H' (.ref r) (projD (giveI p n (insAt (impOf p n) k o))) → Q (.ref r) H'
def t_inserted (K : PySem.W.Frag) : TS :=
  (tSeq (tDrop (tCall (spChk K) [] E0 (tCons (tVar 0) (tCons (tVar 1) (tCons (tVar 2) tNil)))))
    (tSeq (tAsg (tCall (spNewImp K) [] E0 (tCons (tVar 0) (tCons (tVar 1) (tCons (tVar 2) tNil)))) (gName 4))
    (tSeq (tIfS (tOr (tNot (tB (tCall (spIsInt K) [] E0 (tCons (tVar 3) tNil)))) (tNot (tTest (tChain rLe rLe (tC (.int 0)) (tVar 3) (tCB (rLenQ K) (tCons (tVar 4) tNil)))))) tNever tNext)
    (tRet (tCall (spWithImps K) [] E0 (tCons (tVar 0) (tCons (tVar 1) (tCons (tTup (StX.tStar K (tSl (rSlA K) (tVar 4) tNoPart (tPart (tVar 3))) (tCons (tVar 2) (StX.tStar K (tSl (rSlA K) (tVar 4) (tPart (tVar 3)) tNoPart) tNil)))) tNil))))))))
theorem insAt_mem {is : List Str} {k : Nat} {o y : Str} : y ∈ insAt is k o ↔ y ∈ is ∨ y = o := by
  unfold insAt
  rw [List.mem_append, List.mem_cons]
  constructor
  · rintro (h | h | h)
    · exact .inl (List.mem_of_mem_take h)
    · exact .inr h
    · exact .inl (List.mem_of_mem_drop h)
  · rintro (h | h)
    · rw [← List.take_append_drop k is] at h
      rcases List.mem_append.mp h with h | h
      · exact .inl h
      · exact .inr (.inr h)
    · exact .inr (.inl h)
theorem insAt_nodup {is : List Str} {k : Nat} {o : Str} (h : is.Nodup) (ho : o ∉ is) : (insAt is k o).Nodup := by
  unfold insAt
  have e : (is.take k ++ o :: is.drop k).Perm (o :: (is.take k ++ is.drop k)) := List.perm_middle
  rw [e.nodup_iff, List.take_append_drop]
  exact List.nodup_cons.mpr ⟨ho, h⟩
theorem insAt_len {is : List Str} {k : Nat} {o : Str} : (insAt is k o).length = is.length + 1 := by
  unfold insAt
  simp only [List.length_append, List.length_cons, List.length_take, List.length_drop]
  omega
section
variable {K : PySem.W.Frag}
theorem pure_newImp (vs : List V) (H : Hp) (Q : VK) (E : XK) (h : spNewImp K vs H Q E) : t_newImp K { nx := fun _ H' => Q .non H', rt := Q } (vs.map some ++ [none]) H := by
  obtain ⟨v, n, o, p, rfl, hd, nd, pl, hn, ne, hno, il, q⟩ := h
  unfold t_newImp
  refine sq_doN (al_op (ad_call (ac_var rfl (ac_nil ⟨v, p, rfl, hd, nd, pl, fun H1 d k1 nD md => ?_⟩))))
  obtain ⟨kvs, m, tm, um, ek, em, _, mn, ev, m1, m2⟩ := md.at hn
  have ei : impOf p n = m.imps := by simp [impOf, em]
  rw [ei] at hno il q
  refine ⟨_, rfl, d, _, rfl, ev ▸ DGet.k (k := .inr n) ek, ?_⟩
  refine (pu_c : Pu (tC (.int 1)) _ _ _) _ ⟨tm, _, 1, .ref um, rfl, rfl, m1, rfl, ?_⟩
  refine sq_if (b := false) (put_is (put_or (put_test (pu_op (pu_var rfl) (pu_var rfl) (pur_eq rfl))) fun _ => put_or (put_test (pu_op (pu_var rfl) (pu_var rfl) (pur_in (.inl m2)))) fun _ => put_test (pu_op (pu_cb (pua_cons (pu_var rfl) pua_nil) (puc_lenT m2)) pu_c (pur_i0 rfl))) ?_) (fun z => by cases z) fun _ => sq_nx (su_ret (pu_var rfl) (q H1 um k1 m2))
  simp only [List.length_map, Bool.or_eq_false_iff, decide_eq_false_iff_not]
  refine ⟨fun z => ne (V.str.inj z), hno, by omega⟩
theorem pure_inserted (vs : List V) (H : Hp) (Q : VK) (E : XK) (h : spInserted K vs H Q E) : t_inserted K { nx := fun _ H' => Q .non H', rt := Q } (vs.map some ++ [none]) H := by
  obtain ⟨v, n, o, p, k, rfl, hd, wf, hn, ho, ne, hin, hnd, hno, il, hk, q⟩ := h
  have pl := wf.pl
  unfold t_inserted
  refine sq_drop (ad_call (ac_var rfl (ac_var rfl (ac_var rfl (ac_nil ⟨v, p, [n, o], rfl, hd, wf.nd, by omega, by simp, by simp [hn, ho], fun H1 k1 => ?_⟩)))))
  refine sq_doN (ad_call (ac_var rfl (ac_var rfl (ac_var rfl (ac_nil ⟨v, n, o, p, rfl, dp_proj_tk hd k1.tk, wf.nd, by omega, hn, ne, hno, il, fun H2 u k2 su => ?_⟩)))))
  refine sq_if (b := false) (put_is (put_or (put_not (put_B (pu_call (v := .bl true) (pua_cons (pu_var rfl) pua_nil) fun Q q => ⟨k, rfl, q⟩))) fun _ => put_not (put_test (b := true) fun Q q => ?_)) rfl) (fun z => by cases z) fun _ => sq_nx ?_
  · refine (pu_c : Pu (tC (.int 0)) _ _ _) _ ((pu_var rfl : Pu _ _ _ (.int k)) _ ⟨0, k, rfl, rfl, ?_⟩)
    refine ⟨decide ((0 : Int) ≤ k), rfl, ?_⟩
    rw [decide_eq_true (by omega)]
    refine (pu_cb (pua_cons (pu_var rfl) pua_nil) (puc_lenT su) : Pu _ _ _ _) _ ⟨k, _, rfl, rfl, ?_⟩
    show Q (.bl (decide _)) H2
    rw [decide_eq_true (by rw [List.length_map]; omega)]
    exact q
  refine su_retE (ad_call (ac_var rfl (ac_var rfl (al_cons (al_ins (k := k) rfl rfl rfl su hk (by omega) fun H3 r k3 sr => ac_nil ?_)))))
  have kk3 := (k1.trans k2).trans k3
  refine ⟨v, n, r, p, _, rfl, dp_proj_tk hd kk3.tk, wf.nd, by omega, hn, sr, fun i hi => ?_, fun z => ?_, insAt_nodup hnd hno, by rw [insAt_len]; omega, fun H4 r4 k4 d4 => q H4 r4 (kk3.trans k4) d4⟩
  · rcases insAt_mem.mp hi with h | rfl
    · exact wf.cl n hn i h
    · exact ho
  · rcases insAt_mem.mp z with h | h
    · exact hin h
    · exact ne h.symm
end
/-- the imports of n with o behind k of them: the entries' traces stay -/
def GoodAt (p : List Mod) (n o : Str) (ws : List Str) (k : Nat) : Prop := ∀ e ∈ ws, trc (giveI p n (insAt (impOf p n) k o)) e = trc p e
def spInsPlace (K : PySem.W.Frag) : Sp := fun vs H Q _ => ∃ v n o a p, ∃ es : List Str, vs = [v, .str n, .str o, .ref a] ∧ Dp K H v (projD p) ∧ Pj p ∧ SqT K H a (es.map V.str) ∧ es.length ≤ 60 ∧ (∀ e ∈ es, e ∈ nms p) ∧ n ∈ nms p ∧ o ∈ nms p ∧ o ≠ n ∧ n ∉ impOf p n ∧ (impOf p n).Nodup ∧ o ∉ impOf p n ∧ (impOf p n).length < 20 ∧
  (∀ (H' : Hp) (k : Nat), Keep [] H H' → k ≤ (impOf p n).length → GoodAt p n o (if es = [] then [n] else es) k → (∀ j, j < k → ¬ GoodAt p n o (if es = [] then [n] else es) j) → Q (.int k) H') ∧
  ∀ H', Keep [] H H' → (∀ k, k ≤ (impOf p n).length → ¬ GoodAt p n o (if es = [] then [n] else es) k) → Q .non H'
def t_insTail (K : PySem.W.Frag) : TS :=
    (tSeq (tFor (iTup K (tTup (tCons (tVar 1) (tCons (tVar 2) (StX.tStar K (tVar 4) tNil))))) (gName 5) (tDrop (tCall (spChk K) [] E0 (tCons (tVar 0) (tCons (tVar 5) tNil)))))
    (tSeq (tPar 6 7 (tCons (tCall (spNewImp K) [] E0 (tCons (tVar 0) (tCons (tVar 1) (tCons (tVar 2) tNil)))) (tCons (tLc (iTup K (tVar 4)) (gName 10) tYes (tCall (spTrace K) [] E0 (tCons (tVar 0) (tCons (tVar 10) tNil))) [10]) tNil)))
    (tSeq (tFor (iRng1 (tCons (tOp rAdd (tCB (rLenQ K) (tCons (tVar 6) tNil)) (tC (.int 1))) tNil)) (gName 8) (tSeq (tAsg (tCall (spWithImps K) [] E0 (tCons (tVar 0) (tCons (tVar 1) (tCons (tTup (StX.tStar K (tSl (rSlA K) (tVar 6) tNoPart (tPart (tVar 8))) (tCons (tVar 2) (StX.tStar K (tSl (rSlA K) (tVar 6) (tPart (tVar 8)) tNoPart) tNil)))) tNil)))) (gName 9))
    (tIfS (tTest (tOp (rEqD K) (tLc (iTup K (tVar 4)) (gName 10) tYes (tCall (spTrace K) [] E0 (tCons (tVar 9) (tCons (tVar 10) tNil))) [10]) (tVar 7))) (tRet (tVar 8)) tNext)))
    (tRet (tC .non)))))
def t_insPlace (K : PySem.W.Frag) : TS :=
  (tSeq (tAsg (tIf (tTest (tOp (rNeD K) (tVar 3) (tTup tNil))) (tVar 3) (tTup (tCons (tVar 1) tNil))) (gName 4))
    (t_insTail K))
section
variable {K : PySem.W.Frag}
/-- [trace(p, e) for e in ws] -/
theorem lc_traces {σ : L2.St} {H : Hp} {Q : VK} {iw ip j : Nat} {vs : List Nat} {w : Addr} {v : V} {p : List Mod} {ws : List Str} {sp : Sp} (hsp : ∀ vs H Q E, spTrace K vs H Q E → sp vs H Q E) (hw : σ[iw]? = some (some (.ref w))) (hs : SqT K H w (ws.map V.str)) (wl : ws.length ≤ 1000) (hd : Dp K H v (projD p)) (wf : Wf p) (he : ∀ e ∈ ws, e ∈ nms p)
    (hwp : ∀ v, wipe ((wipe σ vs).set j (some v)) vs = wipe σ vs) (hj : ∀ x, ((wipe σ vs).set j (some x))[j]? = some (some x)) (hp : ∀ x, ((wipe σ vs).set j (some x))[ip]? = some (some v))
    (q : ∀ D H', Keep [] H H' → H D = none → Dp K H' (.ref D) (.list ((ws.map (trc p)).map sTup)) → Q (.ref D) H') : tLc (iTup K (tVar iw)) (gName j) tYes (tCall sp [] E0 (tCons (tVar ip) (tCons (tVar j) tNil))) vs σ H Q := by
  refine lcr_tup (xs := ws.map V.str) (it := fun i => .str (ws[i]?.getD Str.empty)) (P := fun i y H' => ∀ e, ws[i]? = some e → Dp K H' y (sTup (trc p e))) (pu_var hw) hs (by rw [List.length_map]; omega) (fun i x e => ?_) hwp (fun i y H1 H2 tk h e ee => ?_) (fun i H' hi kp R r => ?_) fun D H' ys kp nD eD yl py => q D H' kp nD (.lst (.inl (.inl eD)) ?_)
  · obtain ⟨z, e1, rfl⟩ := ex_map e
    rw [e1]
    rfl
  · have z := h e ee
    unfold sTup at z ⊢
    cases z with
    | tup a b =>
      rw [dpAll_strs b] at a
      exact .tup (tk.sqt a) (dp_strs _)
  · rw [List.length_map] at hi
    have e1 : ws[i]? = some ws[i] := List.getElem?_eq_getElem hi
    rw [e1]
    refine ad_call (ac_var (hp _) (ac_var (hj _) (ac_nil (hsp _ _ _ _ ⟨v, p, ws[i], rfl, dp_proj_tk hd kp.tk, wf, he _ (List.mem_of_getElem? e1), fun H2 a k2 na ea => r _ _ k2 fun e ee => ?_⟩))))
    rw [e1] at ee
    cases ee
    exact .tup (.inl (.inl ea)) (dp_strs _)
  · refine dpAll_mk (by rw [List.length_map, yl, List.length_map]) fun i y m e1 e2 => ?_
    obtain ⟨e, e3, rfl⟩ := ex_map e2
    exact py i y e1 e e3
theorem good_traces {p : List Mod} {ws : List Str} (pj : Pj p) (he : ∀ e ∈ ws, e ∈ nms p) : SeqAt.shaped (.list ((ws.map (trc p)).map sTup)) = true := shaped_lTup fun l hl z hz => by
  obtain ⟨e, h1, rfl⟩ := List.mem_map.mp hl
  exact pj.name (trc_in pj.wf (he e h1) z hz)
theorem dpAll_tups_tk {H H' : Hp} (k : TKeep H H') : ∀ {vs : List V} {l : List (List Str)}, DpAll K H vs (l.map sTup) → DpAll K H' vs (l.map sTup)
  | _, [], .nil => .nil
  | _, z :: l, .cons a r => by
    refine .cons ?_ (dpAll_tups_tk k r)
    unfold sTup at a ⊢
    cases a with
    | tup h b =>
      rw [dpAll_strs b] at h
      exact .tup (k.sqt h) (dp_strs _)
theorem dp_traces_tk {H H' : Hp} {D : Addr} {l : List (List Str)} (h : Dp K H (.ref D) (.list (l.map sTup))) (k : Keep [] H H') : Dp K H' (.ref D) (.list (l.map sTup)) := by
  cases h with
  | lst a b => exact .lst (k.sql (by simp) a) (dpAll_tups_tk k.tk b)
theorem traces_eq {p q : List Mod} {ws : List Str} : ws.map (trc q) = ws.map (trc p) ↔ ∀ e ∈ ws, trc q e = trc p e := List.map_inj_left
theorem pure_insTail {H H1 : Hp} {Q : VK} {v : V} {n o : Str} {a w : Addr} {p : List Mod} {ws : List Str} {y5 y6 y7 y8 y9 y10 : Option V} (hd : Dp K H v (projD p)) (pj : Pj p) (k1 : Keep [] H H1) (sw : SqT K H1 w (ws.map V.str)) (hws : ∀ e ∈ ws, e ∈ nms p) (wl : ws.length ≤ 60) (hn : n ∈ nms p) (ho : o ∈ nms p)
    (ne : o ≠ n) (hin : n ∉ impOf p n) (hnd : (impOf p n).Nodup) (hno : o ∉ impOf p n) (il : (impOf p n).length < 20)
    (q1 : ∀ (H' : Hp) (k : Nat), Keep [] H H' → k ≤ (impOf p n).length → GoodAt p n o ws k → (∀ j, j < k → ¬ GoodAt p n o ws j) → Q (.int k) H') (q2 : ∀ H', Keep [] H H' → (∀ k, k ≤ (impOf p n).length → ¬ GoodAt p n o ws k) → Q .non H') :
    t_insTail K { nx := fun _ H' => Q .non H', rt := Q } [some v, some (.str n), some (.str o), some (.ref a), some (.ref w), y5, y6, y7, y8, y9, y10] H1 := by
  have wf := pj.wf
  have pl := wf.pl
  unfold t_insTail
  refine ⟨_, rfl, _, rfl, _, rfl, w, _, rfl, .inl sw, ?_⟩
  refine ⟨by simp only [List.append_nil, List.length_cons, List.length_map]; exact sz (by omega), fun c nc => ?_⟩
  have k2 : Keep [] H (upd H1 c (.tup (V.str n :: V.str o :: (ws.map V.str ++ [])))) := k1.trans (.new nc)
  have k12 : Keep [] H1 (upd H1 c (.tup (V.str n :: V.str o :: (ws.map V.str ++ [])))) := .new nc
  have e2 : (upd H1 c (.tup (V.str n :: V.str o :: (ws.map V.str ++ [])))) c = some (.tup ((n :: o :: ws).map V.str)) := by
    rw [upd_same]
    simp
  generalize upd H1 c (.tup (V.str n :: V.str o :: (ws.map V.str ++ []))) = H2 at k2 e2 k12 ⊢
  have sc : SqT K H2 c ((n :: o :: ws).map V.str) := .inl (.inl e2)
  refine ⟨c, rfl, ⟨_, sc⟩, for_tup (fun i σ' H' => ∃ y, σ' = [some v, some (.str n), some (.str o), some (.ref a), some (.ref w), y, y6, y7, y8, y9, y10] ∧ Keep [] H2 H') ⟨_, rfl, .refl⟩ (fun i σ' H' _ ⟨_, _, kk⟩ => kk.sqt (by simp) sc) ?_ ?_⟩
  · rintro i x σ' H' ex ⟨y, rfl, kk⟩
    obtain ⟨z, ez, rfl⟩ := ex_map ex
    have hz : z ∈ nms p := by
      have := List.mem_of_getElem? ez
      simp only [List.mem_cons] at this
      rcases this with rfl | rfl | h
      · exact hn
      · exact ho
      · exact hws z h
    refine ad_drop (ad_call (ac_var rfl (ac_var rfl (ac_nil ⟨v, p, [z], rfl, dp_proj_tk hd (k2.trans kk).tk, wf.nd, by omega, by simp, by simpa using hz, fun H3 k3 => ⟨_, rfl, kk.trans k3⟩⟩))))
  rintro σ' H3 ⟨y, rfl, k23⟩
  have k3 := k2.trans k23
  refine sq_par (ac_call (ac_var rfl (ac_var rfl (ac_var rfl (ac_nil ⟨v, n, o, p, rfl, dp_proj_tk hd k3.tk, wf.nd, by omega, hn, ne, hno, il, fun H4 u k34 su => ?_⟩)))))
  have k4 := k3.trans k34
  have sw4 := ((k12.trans k23).trans k34).sqt (by simp) sw
  refine al_cons (lc_traces (fun _ _ _ _ h => h) rfl sw4 (by omega) (dp_proj_tk hd k4.tk) wf hws (fun _ => rfl) (fun _ => rfl) (fun _ => rfl) fun Du H5 k45 nD dD => ac_nil ⟨_, _, rfl, ?_⟩)
  have k5 := k4.trans k45
  have sw5 := k45.sqt (by simp) sw4
  have su5 := k45.sqt (by simp) su
  refine sq_forR (n := ((impOf p n).length : Int) + 1) ?_ (by omega) (by omega) (fun i σ' H' => ∃ z8 z9 z10, σ' = [some v, some (.str n), some (.str o), some (.ref a), some (.ref w), y, some (.ref u), some (.ref Du), z8, z9, z10] ∧ Keep [] H5 H' ∧ ∀ j, j < i → ¬ GoodAt p n o ws j) ⟨_, _, _, rfl, .refl, fun j h => absurd h (Nat.not_lt_zero j)⟩ ?_ ?_
  · refine pua_cons (pu_is (pu_op (pu_cb (pua_cons (pu_var rfl) pua_nil) (puc_lenT su5)) pu_c (pur_i0 rfl)) ?_) pua_nil
    rw [List.length_map]
  · rintro i σ' H6 hi ⟨z8, z9, z10, rfl, k56, hb⟩
    have hi2 : i ≤ (impOf p n).length := by omega
    have k6 := k5.trans k56
    have hins : ∀ j ∈ insAt (impOf p n) i o, j ∈ nms p := fun j hj => by
      rcases insAt_mem.mp hj with h | rfl
      · exact wf.cl n hn j h
      · exact ho
    refine sq_doN (ad_call (ac_var rfl (ac_var rfl (al_cons (al_ins (k := i) rfl rfl rfl (k56.sqt (by simp) su5) hi2 (by omega) fun H7 r k67 sr => ac_nil ?_)))))
    have k7 := k6.trans k67
    refine ⟨v, n, r, p, _, rfl, dp_proj_tk hd k7.tk, wf.nd, by omega, hn, sr, hins, fun z => ?_, insAt_nodup hnd hno, by rw [insAt_len]; omega, fun H8 r8 k78 d8 => ?_⟩
    · rcases insAt_mem.mp z with h | h
      · exact hin h
      · exact ne h.symm
    have k58 := (k56.trans k67).trans k78
    have pj8 : Pj (giveI p n (insAt (impOf p n) i o)) := pj.give hins (by rw [insAt_len]; omega)
    have hws8 : ∀ e ∈ ws, e ∈ nms (giveI p n (insAt (impOf p n) i o)) := fun e h => by
      rw [nms_give]
      exact hws e h
    refine (show tIfS _ _ _ _ _ _ from ?_)
    refine al_op (lc_traces (fun _ _ _ _ h => h) rfl (k58.sqt (by simp) sw5) (by omega) d8 pj8.wf hws8 (fun _ => rfl) (fun _ => rfl) (fun _ => rfl) fun D9 H9 k89 n9 dp9 => ?_)
    refine ⟨_, rfl, _, _, dp9, dp_traces_tk dD (k58.trans k89), good_traces pj8 hws8, good_traces pj hws, _, rfl, ?_⟩
    have k59 := k58.trans k89
    by_cases g : GoodAt p n o ws i
    · rw [(eqv_lTup _ _).mpr (traces_eq.mpr g)]
      exact su_ret (pu_var rfl) (q1 H9 i (k5.trans k59) hi2 g hb)
    · rw [Bool.eq_false_iff.mpr fun z => g (traces_eq.mp ((eqv_lTup _ _).mp z))]
      refine ⟨_, _, _, rfl, k59, fun j hj => ?_⟩
      by_cases e : j = i
      · rw [e]
        exact g
      · exact hb j (by omega)
  · rintro σ' H6 ⟨z8, z9, z10, rfl, k56, hb⟩
    exact su_ret pu_c (q2 H6 (k5.trans k56) fun k hk => hb k (by omega))
theorem pure_insPlace (vs : List V) (H : Hp) (Q : VK) (E : XK) (h : spInsPlace K vs H Q E) : t_insPlace K { nx := fun _ H' => Q .non H', rt := Q } (vs.map some ++ [none, none, none, none, none, none, none]) H := by
  obtain ⟨v, n, o, a, p, es, rfl, hd, pj, ha, el, he, hn, ho, ne, hin, hnd, hno, il, q1, q2⟩ := h
  have wf := pj.wf
  have pl := wf.pl
  unfold t_insPlace
  have hes : ∀ z ∈ es, NameOk z := fun z hz => pj.name (he z hz)
  obtain ⟨ws, ews⟩ : ∃ ws, ws = if es = [] then [n] else es := ⟨_, rfl⟩
  rw [← ews] at q1 q2
  have hws : ∀ e ∈ ws, e ∈ nms p := fun e h => by
    rw [ews] at h
    split at h
    · rw [List.mem_singleton.mp h]
      exact hn
    · exact he e h
  have wl : ws.length ≤ 60 := by
    rw [ews]
    split
    · simp
    · exact el
  refine sq_doN ((ket_test (ke_strs (pu_var rfl) ha (good_strs hes))) _ fun H1 k1 => ?_)
  by_cases e : es = []
  · rw [decide_eq_true e]
    rw [if_neg (by decide)]
    refine al_tup (pua_cons (pu_var rfl) pua_nil) (by show 1 ≤ sizeLine; decide) fun w nw => ?_
    refine pure_insTail hd pj (k1.trans (.new nw)) (.inl (.inl ?_)) hws wl hn ho ne hin hnd hno il q1 q2
    rw [upd_same, ews, if_pos e]
    rfl
  · rw [decide_eq_false e]
    rw [if_pos (by decide)]
    refine ⟨.ref a, rfl, ?_⟩
    refine pure_insTail hd pj k1 ?_ hws wl hn ho ne hin hnd hno il q1 q2
    rw [ews, if_neg e]
    exact k1.sqt (by simp) ha
end
end GL

set_option Elab.async false
set_option linter.all false
set_option maxRecDepth 100000
set_option maxHeartbeats 4000000
set_option exponentiation.threshold 100000
namespace GL
open PySem PySem.Spec PyProof.Rows L2
local macro_rules | `(tactic| walk_at "pu") => `(tactic| repeat' (first
  | ((with_reducible apply pu_var); rfl) | with_reducible exact pu_c | with_reducible exact pua_nil | ((with_reducible apply pur_i0); rfl) | with_reducible exact puu_neg | with_reducible exact puc_abs | with_reducible exact puc_intB
  | with_reducible exact puc_min | with_reducible exact puc_max | with_reducible exact puo_none
  | with_reducible apply pu_op | with_reducible apply pu_cb | with_reducible apply pua_cons | with_reducible refine put_test ?_ | with_reducible refine put_B ?_ | with_reducible refine put_not ?_ | with_reducible refine pu_notV ?_
  | with_reducible apply pu_un | with_reducible refine puo_some ?_ | ((with_reducible apply pur_i); rfl) | with_reducible exact pur_eq rfl | with_reducible exact pur_ne rfl | exact puc_lenL (by assumption) | exact puc_lenT (by assumption)
  | ((with_reducible apply pur_ixL); assumption) | ((with_reducible apply pur_ixT); assumption) | with_reducible apply pur_ixS | with_reducible apply pur_str))
local macro_rules | `(tactic| walk_at "side") => `(tactic| first
  | exact (show (0 : Int) < _ by decide) | exact Or.inl ⟨by decide, by decide⟩ | exact Or.inr ⟨by decide, by decide⟩ | exact Or.inl ⟨by omega, by omega⟩ | exact Or.inr ⟨by omega, by omega⟩
  | exact ⟨by decide, by decide, by decide⟩ | exact ⟨by decide, by decide⟩ | assumption | omega | exact ⟨by decide, by decide +kernel⟩)
/-! ### max of data; dict of pairs; defs with defaults, called with all arguments -/
def rMaxQ (K : PySem.W.Frag) : List V → Hp → VK → Prop := fun xs H Q => ∃ a ys d ds, xs = [.ref a] ∧ SqL K H a ys ∧ DpAll K H ys (d :: ds) ∧ PySem.W.AlikeAll (d :: ds) ∧ PyData.depthAll (d :: ds) ≤ 10 ∧ ∀ (i : Nat) v, ys[i]? = some v → Q v H
abbrev rDictQ (K : PySem.W.Frag) : List V → Hp → VK → Prop := fun xs H Q => ∃ (a : Addr) (ps : List Addr) (kvs : List (Key × V)), xs = [.ref a] ∧ SqL K H a (ps.map V.ref) ∧ Paired (fun p kv => SqT K H p [kV kv.1, kv.2]) ps kvs ∧
    ∀ p, H p = none → Q (.ref p) (upd H p (.dK (mergeK [] kvs)))
theorem vals_at : ∀ {xs : List V} {us : List Value} {i : Nat} {u : Value}, Vals xs us → us[i]? = some u → ∃ x, xs[i]? = some x ∧ RelV x u
  | _, _, i, u, .nil, e => by simp at e
  | x :: _, _ :: _, 0, u, .cons a r, e => by
    cases e
    exact ⟨x, rfl, a⟩
  | _ :: _, _ :: _, i + 1, u, .cons a r, e => vals_at (i := i) r (by simpa using e)
section
variable {X : Cx}
theorem cr_maxQ (hc : X.calm = true) (hu : X.A.units + 64 < cLine) : CallR X (.builtin "max") (rMaxQ X.K) := by
  intro pins s σ H vs us Q I r h
  obtain ⟨a, ys, d, ds, rfl, hs, hd, al, dp, q⟩ := h
  obtain ⟨its, rv, hl, _⟩ := I.list hs
  rw [Vals.ref1 r]
  obtain ⟨as, hr⟩ := Dp.readsAll I _ _ _ hd rv
  refine PySem.W.max_list_data (I.ok.hd hc) hl.isList (by simpa using hr) al (by omega) fun i v h' tk bs hv _ hk => ?_
  obtain ⟨x, ex, rx⟩ := vals_at rv (by simpa using hv)
  exact ⟨x, H, I.kept hk, rx, q i x ex⟩
end
section
variable {P : Program} {w : World} {K : PySem.W.Frag} {mg : Str → Option Value} {base : Heap} {k : Nat} {x : Str} {st : Stmt} {f : Addr} {fd : FuncData} {N ps : List Str} {sp : Sp} {dvs : List V}
theorem dnpD (F : FunD K x x (defArgs st) (defBody st) (defScope st) dvs [] f fd) (hdv : dvs ≠ []) (hm : mg x = some (.ref f)) (S : FnScope N ps (defScope st)) (n : Nat) (hn : ps.length + n = N.length) (len : ∀ vs H Q E, sp vs H Q E → vs.length = ps.length)
    (hb : ∀ (T : Addr) (kV doc pm : Value) (an : Option Addr) (cdv ct : Value) (us its : List Value), us.length = ps.length → its.length = dvs.length →
      ∃ k, bindArgs (PySem.W.fnOf x x (defArgs st) (defBody st) (defScope st) (.ref T) kV doc pm an cdv ct) ⟨us, []⟩ = seqItems? (.ref T) >>= k ∧ k (some its.toArray) = pure (ps.zip (us ++ its.drop dvs.length)))
    (t : TS) (hpure : ∀ vs H Q E, sp vs H Q E → t { nx := fun _ H' => Q .non H', rt := Q } (vs.map some ++ List.replicate n none) H)
    (hbody : ∀ (cdv : Value) (A : Around) (outer : List Env) (s : Shared) (H : Hp) (E : XK), Room k (A.deeper (envOfC x (defScope st) s.heap.objs.size f cdv)) →
      PSs (cxOf CX0 P w K mg base N x (defScope st) f cdv A outer s H E).nox (defBody st) t) : Dn P w K mg base (k + 1) x sp := by
  obtain ⟨ds, rv, bd⟩ := F.binds1 ps.length dvs.length hdv (by omega) hb
  rw [List.drop_length] at rv
  cases rv
  exact ⟨f, fd, ps, F.ok S len fun cdv A outer s H vs Q E hr h => ⟨t, (hbody cdv A outer s H E hr).nox, by
    rw [start_of (n := n) (by rw [len vs H Q E h]; exact hn)]
    exact hpure vs H Q E h⟩, hm, F.kp, bd⟩
end
section
variable {P : Program} {w : World} {K : PySem.W.Frag} {mg : Str → Option Value} {base : Heap} {k : Nat} {x : Str} {st : Stmt} {f : Addr} {fd : FuncData} {N ps : List Str} {sp : Sp}
/-- a promise that nobody can call -/
theorem dn0 (F : FnP K x st f fd) (hm : mg x = some (.ref f)) (hno : ∀ vs H Q E, ¬ sp vs H Q E)
    (hb : ∀ (kV doc pm : Value) (an : Option Addr) (cdv ct : Value) (us : List Value), us.length = ps.length → bindArgs (PySem.W.fnOf x x (defArgs st) (defBody st) (defScope st) .none kV doc pm an cdv ct) ⟨us, []⟩ = pure (ps.zip us)) : Dn P w K mg base k x sp :=
  ⟨f, fd, ps, ⟨fun vs H Q E h => absurd h (hno vs H Q E), fun A outer s H args us vs Q E _ _ _ _ h => absurd h (hno vs H Q E)⟩, hm, F.kp, F.bindsN hb⟩
end
end GL

set_option Elab.async false
set_option linter.all false
set_option maxRecDepth 100000
set_option maxHeartbeats 4000000
set_option exponentiation.threshold 100000
namespace GL
open PySem PySem.Spec PyProof.Rows L2
local macro_rules | `(tactic| walk_at "pu") => `(tactic| repeat' (first
  | ((with_reducible apply pu_var); rfl) | with_reducible exact pu_c | with_reducible exact pua_nil | ((with_reducible apply pur_i0); rfl) | with_reducible exact puu_neg | with_reducible exact puc_abs | with_reducible exact puc_intB
  | with_reducible exact puc_min | with_reducible exact puc_max | with_reducible exact puo_none
  | with_reducible apply pu_op | with_reducible apply pu_cb | with_reducible apply pua_cons | with_reducible refine put_test ?_ | with_reducible refine put_B ?_ | with_reducible refine put_not ?_ | with_reducible refine pu_notV ?_
  | with_reducible apply pu_un | with_reducible refine puo_some ?_ | ((with_reducible apply pur_i); rfl) | with_reducible exact pur_eq rfl | with_reducible exact pur_ne rfl | exact puc_lenL (by assumption) | exact puc_lenT (by assumption)
  | ((with_reducible apply pur_ixL); assumption) | ((with_reducible apply pur_ixT); assumption) | with_reducible apply pur_ixS | with_reducible apply pur_str))
local macro_rules | `(tactic| walk_at "side") => `(tactic| first
  | exact (show (0 : Int) < _ by decide) | exact Or.inl ⟨by decide, by decide⟩ | exact Or.inr ⟨by decide, by decide⟩ | exact Or.inl ⟨by omega, by omega⟩ | exact Or.inr ⟨by omega, by omega⟩
  | exact ⟨by decide, by decide, by decide⟩ | exact ⟨by decide, by decide⟩ | assumption | omega | exact ⟨by decide, by decide +kernel⟩)
open RM
/-! ### the helpers of the laws that walk over projects -/
theorem proj_fn {K : PySem.W.Frag} {H : Hp} {xs : List V} {p : List Mod} (h : DpAll K H xs (p.map modD)) : ∃ ts us : Nat → Addr, ∀ i m, p[i]? = some m → xs[i]? = some (.ref (ts i)) ∧ SqT K H (ts i) [.str m.name, .ref (us i), .str (kindS m.eff)] ∧ SqT K H (us i) (m.imps.map V.str) := by
  have key : ∀ i : Nat, ∃ tu : Addr × Addr, ∀ m, p[i]? = some m → xs[i]? = some (.ref tu.1) ∧ SqT K H tu.1 [.str m.name, .ref tu.2, .str (kindS m.eff)] ∧ SqT K H tu.2 (m.imps.map V.str) := by
    intro i
    cases e : p[i]? with
    | none => exact ⟨(0, 0), fun m z => by cases z⟩
    | some m =>
      have hl : i < xs.length := by
        rw [dpAll_len h, List.length_map]
        exact (List.getElem?_eq_some_iff.mp e).1
      obtain ⟨m', e', d⟩ := dpAll_at h (List.getElem?_eq_getElem hl)
      rw [e] at e'
      cases e'
      obtain ⟨t, u, ev, h1, h2⟩ := dp_mod d
      refine ⟨(t, u), fun m' z => ?_⟩
      cases z
      rw [List.getElem?_eq_getElem hl, ev]
      exact ⟨rfl, h1, h2⟩
  obtain ⟨f, hf⟩ := Classical.axiomOfChoice key
  exact ⟨fun i => (f i).1, fun i => (f i).2, hf⟩
theorem modAt_of {p : List Mod} (nd : (nms p).Nodup) {m : Mod} (hm : m ∈ p) : modAt p m.name = some m := by
  induction p with
  | nil => cases hm
  | cons x r ih =>
    have nd' : x.name ∉ nms r ∧ (nms r).Nodup := List.nodup_cons.mp nd
    unfold modAt
    rw [List.find?_cons]
    rcases List.mem_cons.mp hm with rfl | hm
    · simp
    · have : ¬ x.name = m.name := fun z => nd'.1 (by rw [z]; exact List.mem_map_of_mem hm)
      simp only [this, decide_false]
      exact ih nd'.2 hm
theorem impOf_of {p : List Mod} (nd : (nms p).Nodup) {m : Mod} (hm : m ∈ p) : impOf p m.name = m.imps := by simp [impOf, modAt_of nd hm]
theorem atI_zero {α : Type} {x : α} {r : List α} : atI (x :: r) 0 = some x := atI_in (i := 0) rfl
def d0 : Mod := ⟨Str.empty, [], true⟩
section
variable {K : PySem.W.Frag} {σ : L2.St} {H : Hp} {tl : TE} {Q : VK}
/-- a walk over a project in a comprehension: the items by their modules -/
theorem lcp_proj {j : Nat} {tt : TT} {te : TE} {vs : List Nat} {v : V} {p : List Mod} {b : Mod → Bool} {f : Mod → V} (h : Pu tl σ H v) (hd : Dp K H v (projD p)) (hn : p.length ≤ 100000) (hw : ∀ v, wipe ((wipe σ vs).set j (some v)) vs = wipe σ vs)
    (ht : ∀ m H' t u, m ∈ p → Keep [] H H' → SqT K H' t [.str m.name, .ref u, .str (kindS m.eff)] → SqT K H' u (m.imps.map V.str) → PuT tt ((wipe σ vs).set j (some (.ref t))) H' (b m))
    (he : ∀ m H' t u, m ∈ p → Keep [] H H' → SqT K H' t [.str m.name, .ref u, .str (kindS m.eff)] → SqT K H' u (m.imps.map V.str) → b m = true → Pu te ((wipe σ vs).set j (some (.ref t))) H' (f m))
    (k : ∀ D H', Keep [] H H' → H D = none → H' D = some (.lst ((p.filter b).map f)) → Q (.ref D) H') : tLc (iTup K tl) (gName j) tt te vs σ H Q := by
  obtain ⟨t, xs, rfl, h1, h2⟩ := dp_proj hd
  have xl : xs.length = p.length := by rw [dpAll_len h2, List.length_map]
  obtain ⟨ts, us, hp⟩ := proj_fn h2
  refine lcp_tup (xs := xs) (it := fun i => .ref (ts i)) (b := fun i => b (p[i]?.getD d0)) (f := fun i => f (p[i]?.getD d0)) h h1 (by omega) (fun i x e => ?_) hw (fun i H' hi kp => ?_) (fun i H' hi kp hb => ?_) fun D H' kp nD eD => k D H' kp nD ?_
  · have hi : i < p.length := by
      rw [← xl]
      exact (List.getElem?_eq_some_iff.mp e).1
    obtain ⟨a, _⟩ := hp i _ (List.getElem?_eq_getElem hi)
    rw [e] at a
    exact (Option.some.inj a).symm
  · have em : p[i]? = some p[i] := List.getElem?_eq_getElem (by omega)
    obtain ⟨_, a, c⟩ := hp i _ em
    rw [em]
    exact ht _ H' _ _ (List.mem_of_getElem? em) kp (kp.sqt (by simp) a) (kp.sqt (by simp) c)
  · have em : p[i]? = some p[i] := List.getElem?_eq_getElem (by omega)
    obtain ⟨_, a, c⟩ := hp i _ em
    rw [em] at hb ⊢
    exact he _ H' _ _ (List.mem_of_getElem? em) kp (kp.sqt (by simp) a) (kp.sqt (by simp) c) hb
  · rw [eD, xl, range_pick p d0 b f]
/-- .. whose items are new things -/
theorem lcr_proj {j : Nat} {te : TE} {vs : List Nat} {v : V} {p : List Mod} {P : Mod → V → Hp → Prop} (h : Pu tl σ H v) (hd : Dp K H v (projD p)) (hn : p.length ≤ 100000) (hw : ∀ v, wipe ((wipe σ vs).set j (some v)) vs = wipe σ vs) (hP : ∀ m y H1 H2, TKeep H1 H2 → P m y H1 → P m y H2)
    (he : ∀ m H' t u, m ∈ p → Keep [] H H' → SqT K H' t [.str m.name, .ref u, .str (kindS m.eff)] → SqT K H' u (m.imps.map V.str) → ∀ R : VK, (∀ y H'', Keep [] H' H'' → P m y H'' → R y H'') → te ((wipe σ vs).set j (some (.ref t))) H' R)
    (k : ∀ D H' ys, Keep [] H H' → H D = none → H' D = some (.lst ys) → ys.length = p.length → (∀ (i : Nat) y m, ys[i]? = some y → p[i]? = some m → P m y H') → Q (.ref D) H') : tLc (iTup K tl) (gName j) tYes te vs σ H Q := by
  obtain ⟨t, xs, rfl, h1, h2⟩ := dp_proj hd
  have xl : xs.length = p.length := by rw [dpAll_len h2, List.length_map]
  obtain ⟨ts, us, hp⟩ := proj_fn h2
  refine lcr_tup (xs := xs) (it := fun i => .ref (ts i)) (P := fun i y H' => ∀ m, p[i]? = some m → P m y H') h h1 (by omega) (fun i x e => ?_) hw (fun i y H1 H2 tk z m e => hP _ _ _ _ tk (z m e)) (fun i H' hi kp R r => ?_) fun D H' ys kp nD eD yl py => k D H' ys kp nD eD (by omega) fun i y m e1 e2 => py i y e1 m e2
  · have hi : i < p.length := by
      rw [← xl]
      exact (List.getElem?_eq_some_iff.mp e).1
    obtain ⟨a, _⟩ := hp i _ (List.getElem?_eq_getElem hi)
    rw [e] at a
    exact (Option.some.inj a).symm
  · have em : p[i]? = some p[i] := List.getElem?_eq_getElem (by omega)
    obtain ⟨_, a, c⟩ := hp i _ em
    refine he _ H' _ _ (List.mem_of_getElem? em) kp (kp.sqt (by simp) a) (kp.sqt (by simp) c) R fun y H'' k2 py => r y H'' k2 fun m e => ?_
    rw [em] at e
    cases e
    exact py
end
/-! ### _law_imports, _law_given, _law_widest -/
def spLImps (K : PySem.W.Frag) : Sp := fun vs H Q _ => ∃ v n p, vs = [v, .str n] ∧ Dp K H v (projD p) ∧ (nms p).Nodup ∧ p.length ≤ 1000 ∧ n ∈ nms p ∧ ∀ H' u, Keep [] H H' → SqT K H' u ((impOf p n).map V.str) → Q (.ref u) H'
def t_limps (K : PySem.W.Frag) : TS :=
  (tRet (tOp (rIxL K) (tLc (iTup K (tVar 0)) (gName 2) (tTest (tOp rEq (tOp (rIxT K) (tVar 2) (tC (.int 0))) (tVar 1))) (tOp (rIxT K) (tVar 2) (tC (.int 1))) [2]) (tC (.int 0))))
def spGiven (K : PySem.W.Frag) : Sp := fun vs H Q _ => ∃ v n t p, ∃ is : List Str, vs = [v, .str n, .ref t] ∧ Dp K H v (projD p) ∧ p.length ≤ 1000 ∧ SqT K H t (is.map V.str) ∧ ∀ H' r, Keep [] H H' → Dp K H' (.ref r) (projD (giveI p n is)) → Q (.ref r) H'
def t_given (K : PySem.W.Frag) : TS :=
  (tRet (tCB (rTupQ K) (tCons (tLc (iTup K (tVar 0)) (gName 3) tYes (tIf (tTest (tOp rEq (tOp (rIxT K) (tVar 3) (tC (.int 0))) (tVar 1))) (tTup (tCons (tOp (rIxT K) (tVar 3) (tC (.int 0))) (tCons (tCB (rTupQ K) (tCons (tVar 2) tNil)) (tCons (tOp (rIxT K) (tVar 3) (tC (.int 2))) tNil)))) (tVar 3)) [3]) tNil)))
def spWidest (K : PySem.W.Frag) : Sp := fun vs H Q _ => ∃ v p, vs = [v] ∧ Dp K H v (projD p) ∧ p.length ≤ 1000 ∧ p ≠ [] ∧ ∀ H' n, Keep [] H H' → n ∈ nms p → Q (.str n) H'
def t_widest (K : PySem.W.Frag) : TS :=
  (tRet (tOp (rIxT K) (tCB (rMaxQ K) (tCons (tLc (iTup K (tVar 0)) (gName 1) tYes (tTup (tCons (tCB (rLenQ K) (tCons (tOp (rIxT K) (tVar 1) (tC (.int 1))) tNil)) (tCons (tOp (rIxT K) (tVar 1) (tC (.int 0))) tNil))) [1]) tNil)) (tC (.int 1))))
section
variable {K : PySem.W.Frag}
theorem pure_limps (vs : List V) (H : Hp) (Q : VK) (E : XK) (h : spLImps K vs H Q E) : t_limps K { nx := fun _ H' => Q .non H', rt := Q } (vs.map some ++ [none]) H := by
  obtain ⟨v, n, p, rfl, hd, nd, pl, hn, q⟩ := h
  obtain ⟨m, em, hm, mn⟩ := modAt_some hn
  have ei : impOf p n = m.imps := by simp [impOf, em]
  obtain ⟨t, xs, rfl, h1, h2⟩ := dp_proj hd
  have xl : xs.length = p.length := by rw [dpAll_len h2, List.length_map]
  obtain ⟨ts, us, hp⟩ := proj_fn h2
  refine su_retE (al_op (lcp_tup (xs := xs) (it := fun i => .ref (ts i)) (b := fun i => decide ((p[i]?.getD d0).name = n)) (f := fun i => .ref (us i)) (pu_var rfl) h1 (by omega) (fun i x e => ?_) (fun _ => rfl) (fun i H' hi kp => ?_) (fun i H' hi kp hb => ?_) fun D H' kp nD eD => ?_))
  · have hi : i < p.length := by
      rw [← xl]
      exact (List.getElem?_eq_some_iff.mp e).1
    obtain ⟨a, _⟩ := hp i _ (List.getElem?_eq_getElem hi)
    rw [e] at a
    exact (Option.some.inj a).symm
  · have e2 : p[i]? = some p[i] := List.getElem?_eq_getElem (by omega)
    obtain ⟨_, a, c⟩ := hp i _ e2
    rw [e2]
    refine put_is (put_test (pu_op (pu_op (pu_var rfl) pu_c (pur_ixT (kp.sqt (by simp) a) rfl)) (pu_var rfl) (pur_eq rfl))) (is_dec ?_).symm
    simp
  · have e2 : p[i]? = some p[i] := List.getElem?_eq_getElem (by omega)
    obtain ⟨_, a, c⟩ := hp i _ e2
    exact pu_op (pu_var rfl) pu_c (pur_ixT (kp.sqt (by simp) a) rfl)
  · obtain ⟨j, hj⟩ := List.mem_iff_getElem?.mp hm
    have hjl : j < p.length := (List.getElem?_eq_some_iff.mp hj).1
    have hjm : j ∈ (List.range xs.length).filter fun i => decide ((p[i]?.getD d0).name = n) := by
      rw [List.mem_filter, List.mem_range, hj]
      exact ⟨by omega, by simpa using mn⟩
    cases el : (List.range xs.length).filter fun i => decide ((p[i]?.getD d0).name = n) with
    | nil => rw [el] at hjm; cases hjm
    | cons i0 r =>
      have h0 : i0 ∈ (List.range xs.length).filter fun i => decide ((p[i]?.getD d0).name = n) := by rw [el]; exact List.mem_cons_self
      rw [List.mem_filter, List.mem_range] at h0
      have e2 : p[i0]? = some p[i0] := List.getElem?_eq_getElem (by omega)
      have n0 : p[i0].name = n := by
        have := of_decide_eq_true h0.2
        rw [e2] at this
        exact this
      have m0 : p[i0] = m := by
        have := modAt_of nd (List.mem_of_getElem? e2)
        rw [n0, em] at this
        exact (Option.some.inj this).symm
      obtain ⟨_, a, c⟩ := hp i0 _ e2
      rw [el] at eD
      refine (pu_c : Pu (tC (.int 0)) _ _ _) _ ⟨D, _, 0, .ref (us i0), rfl, rfl, .inl (.inl eD), atI_zero, q H' _ kp ?_⟩
      rw [ei, ← m0]
      exact kp.sqt (by simp) c
theorem pure_given (vs : List V) (H : Hp) (Q : VK) (E : XK) (h : spGiven K vs H Q E) : t_given K { nx := fun _ H' => Q .non H', rt := Q } (vs.map some ++ [none]) H := by
  obtain ⟨v, n, t, p, is, rfl, hd, pl, ht, q⟩ := h
  refine su_retE (al_cons (lcr_proj (P := fun m y H' => Dp K H' y (modD (giveM n is m))) (pu_var rfl) hd (by omega) (fun _ => rfl) (fun m y H1 H2 tk z => dp_mod_tk z tk) (fun m H4 tm um hm k4 m1 m2 R r => ?_) fun D H4 ys k4 nD eD yl py => ac_nil ⟨D, ys, rfl, .inl ⟨.inl (.inl eD), fun r nr => ?_⟩⟩))
  · refine (put_test (pu_op (pu_op (pu_var rfl) pu_c (pur_ixT m1 rfl)) (pu_var rfl) (pur_eq rfl))) _ ?_
    by_cases e : m.name = n
    · rw [decide_eq_true (by rw [e])]
      refine al_tup (pua_cons (pu_op (pu_var rfl) pu_c (pur_ixT m1 rfl)) (pua_cons (x := .ref t) (pu_cb (pua_cons (pu_var rfl) pua_nil) fun Q q => ⟨t, _, rfl, .inr ⟨k4.sqt (by simp) ht, q⟩⟩) (pua_cons (pu_op (pu_var rfl) pu_c (pur_ixT m1 rfl)) pua_nil))) (by show 3 ≤ sizeLine; decide) fun a na => r _ _ (.new na) ?_
      unfold giveM
      rw [if_pos e]
      exact mod_dp (u := t) (.inl (.inl upd_same)) ((k4.trans (.new na)).sqt (by simp) ht)
    · rw [decide_eq_false (by simpa using e)]
      refine (pu_var rfl : Pu _ _ _ (.ref tm)) _ (r _ _ .refl ?_)
      unfold giveM
      rw [if_neg e]
      exact mod_dp m1 m2
  · have k5 : Keep [] H4 (upd H4 r (.tup ys)) := .new nr
    refine q _ r (k4.trans k5) (.tup (.inl (.inl upd_same)) ?_)
    refine dpAll_mk (by unfold giveI; rw [List.length_map]; omega) fun i y m e1 e2 => ?_
    unfold giveI at e2
    obtain ⟨m0, e3, rfl⟩ := ex_map e2
    exact dp_mod_tk (py i y m0 e1 e3) k5.tk
def wD (m : Mod) : PyData := .tuple [.int m.imps.length, .str m.name]
theorem pure_widest (vs : List V) (H : Hp) (Q : VK) (E : XK) (h : spWidest K vs H Q E) : t_widest K { nx := fun _ H' => Q .non H', rt := Q } (vs.map some ++ [none]) H := by
  obtain ⟨v, p, rfl, hd, pl, pn, q⟩ := h
  refine su_retE (al_op (al_cons (lcr_proj (P := fun m y H' => ∃ r, y = .ref r ∧ SqT K H' r [.int m.imps.length, .str m.name]) (pu_var rfl) hd (by omega) (fun _ => rfl) (fun m y H1 H2 tk ⟨r, e, z⟩ => ⟨r, e, tk.sqt z⟩) (fun m H4 tm um hm k4 m1 m2 R r => ?_) fun D H4 ys k4 nD eD yl py => ac_nil ?_)))
  · refine al_tup (pua_cons (pu_cb (pua_cons (pu_op (pu_var rfl) pu_c (pur_ixT m1 rfl)) pua_nil) (puc_lenT m2)) (pua_cons (pu_op (pu_var rfl) pu_c (pur_ixT m1 rfl)) pua_nil)) (by show 2 ≤ sizeLine; decide) fun a na => r _ _ (.new na) ⟨a, rfl, .inl (.inl ?_)⟩
    rw [upd_same, List.length_map]
  · have dp : DpAll K H4 ys (p.map wD) := dpAll_mk yl fun i y m e1 e2 => by
      obtain ⟨r, rfl, s⟩ := py i y m e1 e2
      exact .tup s (.cons (.int _) (.cons (.str _) .nil))
    cases p with
    | nil => exact absurd rfl pn
    | cons m0 pr =>
      refine ⟨D, ys, wD m0, pr.map wD, rfl, .inl (.inl eD), dp, ⟨fun x hx y hy => ?_, fun x hx => ?_⟩, ?_, fun i v e => ?_⟩
      · have gx : ∀ z, z ∈ wD m0 :: pr.map wD → ∃ m, z = wD m := fun z hz => by
          rcases List.mem_cons.mp hz with rfl | hz
          · exact ⟨m0, rfl⟩
          · obtain ⟨m, _, rfl⟩ := List.mem_map.mp hz
            exact ⟨m, rfl⟩
        obtain ⟨m1, rfl⟩ := gx x hx
        obtain ⟨m2, rfl⟩ := gx y hy
        rfl
      · rcases List.mem_cons.mp hx with rfl | hx
        · exact fun z => by cases z
        · obtain ⟨m, _, rfl⟩ := List.mem_map.mp hx
          exact fun z => by cases z
      · refine depthAll_le fun x hx => ?_
        rcases List.mem_cons.mp hx with rfl | hx
        · show PyData.depth (.tuple [.int _, .str _]) ≤ 10
          simp [PyData.depth, PyData.depthAll]
        · obtain ⟨m, _, rfl⟩ := List.mem_map.mp hx
          show PyData.depth (.tuple [.int _, .str _]) ≤ 10
          simp [PyData.depth, PyData.depthAll]
      · have hi : i < (m0 :: pr).length := by
          rw [← yl]
          exact (List.getElem?_eq_some_iff.mp e).1
        have e2 : (m0 :: pr)[i]? = some (m0 :: pr)[i] := List.getElem?_eq_getElem hi
        obtain ⟨r, rfl, s⟩ := py i v _ e e2
        refine (pu_c : Pu (tC (.int 1)) _ _ _) _ ⟨r, _, 1, _, rfl, rfl, s, rfl, q H4 _ k4 ?_⟩
        exact List.mem_map_of_mem (List.mem_of_getElem? e2)
end
/-! ### _law_visit, _law_ran, _law_trace -/
def t_lvisit (K : PySem.W.Frag) (d : Nat) : TS :=
  (tSeq (tIfS (tB (tDIn (tVar 1) (tVar 2))) tRetN tNext)
    (tSeq (sDPut (tVar 2) (tVar 1) (tC (.bl true)))
    (tSeq (tFor (iTup K (tOp (rIxT K) (tDGet (tVar 0) (tVar 1)) (tC (.int 1)))) (gName 4) (tDrop (tCall (spVisit K d) [] E0 (tCons (tVar 0) (tCons (tVar 4) (tCons (tVar 2) (tCons (tVar 3) tNil)))))))
    (tDrop (tBM K "list" rAppend (tVar 3) (tCons (tVar 1) tNil))))))
theorem pure_lvisit {K : PySem.W.Frag} (d : Nat) (vs : List V) (H : Hp) (Q : VK) (E : XK) (h : spVisit K (d + 1) vs H Q E) : t_lvisit K d { nx := fun _ H' => Q .non H', rt := Q } (vs.map some ++ [none]) H := by
  have z := pure_visit d vs H Q E h
  unfold t_visit at z
  obtain ⟨y, h1, x, h2, a, o, e, g, b, h3, h4⟩ := z
  unfold t_lvisit
  cases o with
  | none =>
    cases h3
    exact ⟨y, h1, x, h2, a, none, e, g, false, rfl, h4⟩
  | some w =>
    cases h3
    exact ⟨y, h1, x, h2, a, some w, e, g, true, rfl, h4⟩
theorem mk_pairs {K : PySem.W.Frag} {H : Hp} {R : V → Mod → Prop} : ∀ {p : List Mod} {ys : List V}, ys.length = p.length → (∀ (i : Nat) y m, ys[i]? = some y → p[i]? = some m → ∃ r x, y = .ref r ∧ SqT K H r [.str m.name, x] ∧ R x m) →
    ∃ (ps : List Addr) (kvs : List (Key × V)), ys = ps.map V.ref ∧ Paired (fun q kv => SqT K H q [kV kv.1, kv.2]) ps kvs ∧ Paired (fun (kv : Key × V) m => kv.1 = .inr m.name ∧ R kv.2 m) kvs p
  | [], [], _, _ => ⟨[], [], rfl, .nil, .nil⟩
  | [], _ :: _, h, _ => by cases h
  | _ :: _, [], h, _ => by cases h
  | m :: p, y :: ys, h, k => by
    obtain ⟨ps, kvs, e, r, r2⟩ := mk_pairs (p := p) (ys := ys) (R := R) (by simpa using h) fun i y' m' e1 e2 => k (i + 1) y' m' (by simpa using e1) (by simpa using e2)
    obtain ⟨a, x, ea, s, hx⟩ := k 0 y m rfl rfl
    exact ⟨a :: ps, (.inr m.name, x) :: kvs, by rw [e, ea]; rfl, .cons s r, .cons ⟨rfl, hx⟩ r2⟩
theorem merge_new {R : V → Mod → Prop} : ∀ {p : List Mod} {kvs acc : List (Key × V)}, Paired (fun (kv : Key × V) m => kv.1 = .inr m.name ∧ R kv.2 m) kvs p → (nms p).Nodup → (∀ m ∈ p, valV acc (.inr m.name) = none) → mergeK acc kvs = acc ++ kvs
  | _, _, acc, .nil, _, _ => by simp [mergeK]
  | m :: p, kv :: kvs, acc, .cons ⟨a, b⟩ r, nd, h => by
    have nd' : m.name ∉ nms p ∧ (nms p).Nodup := List.nodup_cons.mp nd
    obtain ⟨k1, v1⟩ := kv
    cases a
    show mergeK (putK acc (.inr m.name) v1) kvs = _
    rw [putK_new (h m List.mem_cons_self), merge_new r nd'.2 fun m' hm' => ?_]
    · simp
    · rw [valV_snoc _ _ _ _ (h m List.mem_cons_self), if_neg fun z => nd'.1 (by
        have : m'.name = m.name := Sum.inr.inj z
        rw [← this]
        exact List.mem_map_of_mem hm')]
      exact h m' (List.mem_cons_of_mem _ hm')
theorem tab_get {R : V → Mod → Prop} : ∀ {kvs : List (Key × V)} {p : List Mod} {n : Str}, Paired (fun (kv : Key × V) m => kv.1 = .inr m.name ∧ R kv.2 m) kvs p → n ∈ nms p → ∃ m v, modAt p n = some m ∧ valV kvs (.inr n) = some v ∧ R v m
  | _, _, n, .nil, h => by cases h
  | kv :: kvs, m :: p, n, .cons ⟨a, b⟩ r, h => by
    by_cases e : m.name = n
    · exact ⟨m, kv.2, by simp [modAt, List.find?_cons, e], valV_pos (by rw [a, e]), b⟩
    · have e2 : valV (kv :: kvs) (.inr n) = valV kvs (.inr n) := valV_neg (by rw [a]; simpa using e)
      have e3 : modAt (m :: p) n = modAt p n := by simp [modAt, List.find?_cons, e]
      rw [e2, e3]
      refine tab_get r ?_
      rcases List.mem_cons.mp (show n ∈ m.name :: nms p from h) with z | z
      · exact absurd z.symm e
      · exact z
def spLRan (K : PySem.W.Frag) : Sp := fun vs H Q _ => ∃ v p e, vs = [v, .str e] ∧ Dp K H v (projD p) ∧ Wf p ∧ e ∈ nms p ∧ ∀ H' r, Keep [] H H' → H r = none → H' r = some (.lst ((runs p e).map V.str)) → Q (.ref r) H'
def t_lran (K : PySem.W.Frag) : TS :=
  (tSeq (tAsg (tLst tNil) (gName 2))
    (tSeq (tDrop (tCall (spVisit K 64) [] E0 (tCons (tCB (rDictQ K) (tCons (tLc (iTup K (tVar 0)) (gName 3) tYes (tTup (tCons (tOp (rIxT K) (tVar 3) (tC (.int 0))) (tCons (tVar 3) tNil))) [3]) tNil)) (tCons (tVar 1) (tCons tDNewK (tCons (tVar 2) tNil))))))
    (tRet (tVar 2))))
def t_ltrace (K : PySem.W.Frag) : TS :=
  (tSeq (tAsg (tCB (rDictQ K) (tCons (tLc (iTup K (tVar 0)) (gName 3) tYes (tTup (tCons (tOp (rIxT K) (tVar 3) (tC (.int 0))) (tCons (tOp (rIxT K) (tVar 3) (tC (.int 2))) tNil))) [3]) tNil)) (gName 2))
    (tRet (tCB (rTupQ K) (tCons (tLc (iList K (tCall (spLRan K) [] E0 (tCons (tVar 0) (tCons (tVar 1) tNil)))) (gName 4) (tTest (tOp rEq (tDGet (tVar 2) (tVar 4)) (tC (.str "effect")))) (tVar 4) [4]) tNil))))
section
variable {K : PySem.W.Frag}
theorem pure_lran (vs : List V) (H : Hp) (Q : VK) (E : XK) (h : spLRan K vs H Q E) : t_lran K { nx := fun _ H' => Q .non H', rt := Q } (vs.map some ++ [none, none]) H := by
  obtain ⟨v, p, e, rfl, hd, wf, he, q⟩ := h
  have pl := wf.pl
  unfold t_lran
  refine sq_doN (al_lst pua_nil (by decide) fun l nl => ?_)
  have k2 : Keep [] H (upd H l (.lst [])) := .new nl
  have e2 : (upd H l (.lst [])) l = some (.lst []) := upd_same
  generalize upd H l (.lst []) = H2 at k2 e2 ⊢
  refine sq_drop (ad_call (al_cons (al_cons (lcr_proj (P := fun m y H' => ∃ r x, y = .ref r ∧ SqT K H' r [.str m.name, x] ∧ Dp K H' x (modD m)) (pu_var rfl) (dp_proj_tk hd k2.tk) (by omega) (fun _ => rfl) (fun m y H1 H2 tk ⟨r, x, e, z, w⟩ => ⟨r, x, e, tk.sqt z, dp_mod_tk w tk⟩) (fun m H4 tm um hm k4 m1 m2 R r => ?_) fun D H3 ys k3 nD eD yl py => ac_nil ?_))))
  · refine al_tup (pua_cons (pu_op (pu_var rfl) pu_c (pur_ixT m1 rfl)) (pua_cons (pu_var rfl) pua_nil)) (by show 2 ≤ sizeLine; decide) fun a na => r _ _ (.new na) ⟨a, _, rfl, .inl (.inl upd_same), ?_⟩
    exact dp_mod_tk (mod_dp m1 m2) (Keep.tk (.new na))
  obtain ⟨ps, kvs, rfl, r1, r2⟩ := mk_pairs (R := fun x m => Dp K H3 x (modD m)) yl py
  refine ⟨D, ps, kvs, rfl, .inl (.inl eD), r1, fun d nd => ?_⟩
  rw [merge_new (R := fun x m => Dp K H3 x (modD m)) r2 wf.nd (fun _ _ => rfl), List.nil_append]
  have k4 : Keep [] H3 (upd H3 d (.dK kvs)) := .new nd
  have md : MD K (upd H3 d (.dK kvs)) d p := ⟨kvs, upd_same, MDv.tk r2 k4.tk⟩
  generalize upd H3 d (.dK kvs) = H4 at k4 md ⊢
  refine ac_var rfl (al_cons fun c nc => ac_var rfl (ac_nil ?_))
  obtain ⟨R, hR⟩ := VD.total wf.cl 63 [] [e] (Nat.le_trans (cnt_le _ _) (by unfold nms; rw [List.length_map]; omega)) (by simpa using he)
  have eR : R = runs p e := hR.vl.det (runs_vl wf he)
  have rl := runs_len wf he
  rw [← eR] at rl
  have k5 : Keep [] H4 (upd H4 c (.dK [])) := .new nc
  have k24 := k3.trans k4
  have ncH : H c = none := (k2.trans k24).back (by simp) nc
  refine ⟨d, e, c, l, p, [], [], R, rfl, md.keep k5 (by simp) k5.tk, wf, he, hR, upd_same, (k24.trans k5) l _ (by simp) e2, fun z => ?_, by simp; omega, by simp; omega, fun H6 S' k6 t6 _ _ _ f6 => ?_⟩
  · obtain ⟨kvs', ek, _⟩ := md
    rw [z, nc] at ek
    cases ek
  have k7 : Keep [] H H6 := Keep.dropL ((k2.trans k24).trans k5) k6 fun b hb => by
    rcases List.mem_cons.mp hb with rfl | hb
    · exact ncH
    · rw [List.mem_singleton.mp hb]
      exact nl
  refine su_ret (pu_var rfl) (q _ l k7 nl ?_)
  rw [f6, ← eR]
  rfl
theorem pure_ltrace (vs : List V) (H : Hp) (Q : VK) (E : XK) (h : spTrace K vs H Q E) : t_ltrace K { nx := fun _ H' => Q .non H', rt := Q } (vs.map some ++ [none, none, none]) H := by
  obtain ⟨v, p, e, rfl, hd, wf, he, q⟩ := h
  have pl := wf.pl
  unfold t_ltrace
  refine sq_doN (al_cons (lcr_proj (P := fun m y H' => ∃ r x, y = .ref r ∧ SqT K H' r [.str m.name, x] ∧ x = .str (kindS m.eff)) (pu_var rfl) hd (by omega) (fun _ => rfl) (fun m y H1 H2 tk ⟨r, x, e, z, w⟩ => ⟨r, x, e, tk.sqt z, w⟩) (fun m H4 tm um hm k4 m1 m2 R r => ?_) fun D H3 ys k3 nD eD yl py => ac_nil ?_))
  · exact al_tup (pua_cons (pu_op (pu_var rfl) pu_c (pur_ixT m1 rfl)) (pua_cons (pu_op (pu_var rfl) pu_c (pur_ixT m1 rfl)) pua_nil)) (by show 2 ≤ sizeLine; decide) fun a na => r _ _ (.new na) ⟨a, _, rfl, .inl (.inl upd_same), rfl⟩
  obtain ⟨ps, kvs, rfl, r1, r2⟩ := mk_pairs (R := fun x m => x = .str (kindS m.eff)) yl py
  refine ⟨D, ps, kvs, rfl, .inl (.inl eD), r1, fun d nd => ?_⟩
  rw [merge_new (R := fun x m => x = .str (kindS m.eff)) r2 wf.nd (fun _ _ => rfl), List.nil_append]
  have k4 : Keep [] H (upd H3 d (.dK kvs)) := k3.trans (.new nd)
  have ed : (upd H3 d (.dK kvs)) d = some (.dK kvs) := upd_same
  generalize upd H3 d (.dK kvs) = H4 at k4 ed ⊢
  refine su_retE (al_cons (ad_call (ac_var rfl (ac_var rfl (ac_nil ⟨v, p, e, rfl, dp_proj_tk hd k4.tk, wf, he, fun H5 r k5 nr er => ?_⟩)))))
  have sr : SqL K H5 r ((runs p e).map V.str) := .inl (.inl er)
  have rl := runs_len wf he
  show tLc (iList K (tC (.ref r))) (gName 4) (tTest (tOp rEq (tDGet (tVar 2) (tVar 4)) (tC (.str "effect")))) (tVar 4) [4] [some v, some (.str e), some (.ref d), none, none] H5 (fun x H1 => rTupQ K [x] H1 Q)
  refine lcp_list (xs := (runs p e).map V.str) (it := fun i => .str ((runs p e)[i]?.getD Str.empty)) (b := fun i => effOf p ((runs p e)[i]?.getD Str.empty)) (f := fun i => .str ((runs p e)[i]?.getD Str.empty)) pu_c sr (by rw [List.length_map]; omega) (fun i x ee => ?_) (fun _ => rfl) (fun i H' hi kp => ?_) (fun i H' hi kp _ => pu_var rfl) fun D2 H' kp nD2 eD2 => ?_
  · obtain ⟨z, e1, rfl⟩ := ex_map ee
    rw [e1]
    rfl
  · rw [List.length_map] at hi
    have e1 : (runs p e)[i]? = some (runs p e)[i] := List.getElem?_eq_getElem hi
    rw [e1]
    obtain ⟨m, w, em, ev, rfl⟩ := tab_get (R := fun x m => x = .str (kindS m.eff)) r2 (runs_in wf he _ (List.mem_of_getElem? e1))
    refine put_test (pu_is (pu_op (pu_dget (pu_var rfl) (pu_var rfl) (kp d _ (by simp) (k5 d _ (by simp) ed)) ev) pu_c (pur_eq rfl)) ?_)
    have : effOf p (Option.getD (some (runs p e)[i]) Str.empty) = m.eff := by
      show effOf p (runs p e)[i] = _
      simp [effOf, em]
    rw [this]
    generalize m.eff = b
    cases b <;> decide +kernel
  · refine ⟨D2, _, rfl, .inl ⟨.inl (.inl eD2), fun l nl => ?_⟩⟩
    have kk := (k4.trans k5).trans kp
    refine q _ l (kk.trans (.new nl)) (kk.back (by simp) nl) ?_
    rw [upd_same, List.length_map, range_pick (runs p e) Str.empty (effOf p) V.str]
    rfl
end
/-! ### _law_roots, _law_file -/
def spLRoots (K : PySem.W.Frag) : Sp := fun vs H Q _ => ∃ (a : Addr) (v : V) (p : List Mod) (N : Nat), vs = [.ref a, v] ∧ Src H a N ∧ N + 5 ≤ 900000 ∧ Dp K H v (projD p) ∧ p.length ≤ 1000 ∧ p ≠ [] ∧
  ∀ H' r (es : List Str), Keep [a] H H' → Src H' a (N + 5) → H r = none → H' r = some (.tup (es.map V.str)) → es.length ≤ 3 → (∀ e ∈ es, e ∈ nms p) → Q (.ref r) H'
def t_lroots (K : PySem.W.Frag) : TS :=
  (tSeq (tAsg (tLc (iTup K (tVar 1)) (gName 3) tYes (tOp (rIxT K) (tVar 3) (tC (.int 0))) [3]) (gName 2))
    (tRet (tCB (rTupQ K) (tCons (tLc (iRng1 (tCons (tCall spDraw [] E0 (tCons (tVar 0) (tCons (tC (.int 4)) tNil))) tNil)) (gName 4) tYes (tCall (spChoice K) [] E0 (tCons (tVar 0) (tCons (tVar 2) tNil))) [4]) tNil))))
def spLFile (K : PySem.W.Frag) : Sp := fun vs H Q _ => ∃ (a : Addr) (v : V) (p : List Mod) (N : Nat), vs = [.ref a, v] ∧ Src H a N ∧ N + 2 ≤ 900000 ∧ Dp K H v (projD p) ∧ p.length ≤ 1000 ∧ p ≠ [] ∧
  ∀ H' n, Keep [a] H H' → Src H' a (N + 2) → n ∈ nms p → Q (.str n) H'
def t_lfile (K : PySem.W.Frag) : TS :=
  (tRet (tIf (tTest (tOp rGt (tCall spDraw [] E0 (tCons (tVar 0) (tCons (tC (.int 4)) tNil))) (tC (.int 0)))) (tCall (spWidest K) [] E0 (tCons (tVar 1) tNil)) (tCall (spChoice K) [] E0 (tCons (tVar 0) (tCons (tLc (iTup K (tVar 1)) (gName 2) tYes (tOp (rIxT K) (tVar 2) (tC (.int 0))) [2]) tNil)))))
section
variable {K : PySem.W.Frag}
/-- [m[0] for m in p] -/
theorem lc_names {σ : L2.St} {H : Hp} {Q : VK} {tl : TE} {j : Nat} {vs : List Nat} {v : V} {p : List Mod} (h : Pu tl σ H v) (hd : Dp K H v (projD p)) (hn : p.length ≤ 100000) (hw : ∀ v, wipe ((wipe σ vs).set j (some v)) vs = wipe σ vs) (hj : ∀ x, ((wipe σ vs).set j (some x))[j]? = some (some x))
    (k : ∀ D H', Keep [] H H' → H D = none → H' D = some (.lst ((nms p).map V.str)) → Q (.ref D) H') : tLc (iTup K tl) (gName j) tYes (tOp (rIxT K) (tVar j) (tC (.int 0))) vs σ H Q := by
  refine lcp_proj (b := fun _ => true) (f := fun m => .str m.name) h hd hn hw (fun _ _ _ _ _ _ _ _ => puT_yes) (fun m H' t u hm kp m1 m2 _ => pu_op (pu_var (hj _)) pu_c (pur_ixT m1 rfl)) fun D H' kp nD eD => k D H' kp nD ?_
  rw [eD, List.filter_eq_self.mpr fun _ _ => rfl]
  unfold nms
  rw [List.map_map]
  rfl
theorem pure_lfile (vs : List V) (H : Hp) (Q : VK) (E : XK) (h : spLFile K vs H Q E) : t_lfile K { nx := fun _ H' => Q .non H', rt := Q } (vs.map some ++ [none]) H := by
  obtain ⟨a, v, p, N, rfl, hs, hN, hd, pl, pn, q⟩ := h
  refine su_retE (al_op (ad_call (ac_var rfl (ac_pu pu_c (ac_nil ⟨a, 4, N, rfl, hs, by omega, by decide, by decide, fun H1 r k1 s1 r0 r1 => ?_⟩)))))
  refine (pu_c : Pu (tC (.int 0)) _ _ _) _ ⟨r, 0, rfl, rfl, _, rfl, ?_⟩
  have hd1 := dp_proj_tk hd (hs.tk k1)
  by_cases e : (0 : Int) < r
  · rw [decide_eq_true e]
    exact ad_call (ac_var rfl (ac_nil ⟨v, p, rfl, hd1, pl, pn, fun H2 n k2 hn => q H2 n (k1.trans k2.of0) ((s1.keep k2 (by simp)).mono (by omega)) hn⟩))
  · rw [decide_eq_false e]
    refine ad_call (ac_var rfl (al_cons (lc_names (pu_var rfl) hd1 (by omega) (fun _ => rfl) (fun _ => rfl) fun D H2 k2 nD eD => ac_nil ?_)))
    have s2 := s1.keep k2 (by simp)
    have nDa : D ≠ a := s1.ne nD
    refine ⟨a, D, _, N + 1, rfl, s2, by omega, .inl (.inl eD), nDa, ?_, ?_, fun H3 i x k3 s3 ex => ?_⟩
    · unfold nms
      simpa using pn
    · unfold nms
      rw [List.length_map, List.length_map]
      omega
    · obtain ⟨n, en, rfl⟩ := ex_map ex
      exact q H3 n ((k1.trans k2.of0).trans k3) s3 (List.mem_of_getElem? en)
theorem pure_lroots (vs : List V) (H : Hp) (Q : VK) (E : XK) (h : spLRoots K vs H Q E) : t_lroots K { nx := fun _ H' => Q .non H', rt := Q } (vs.map some ++ [none, none, none]) H := by
  obtain ⟨a, v, p, N, rfl, hs, hN, hd, pl, pn, q⟩ := h
  unfold t_lroots
  refine sq_doN (lc_names (pu_var rfl) hd (by omega) (fun _ => rfl) (fun _ => rfl) fun M H1 k1 nM eM => ?_)
  have s1 := hs.keep k1 (by simp)
  have nMa : M ≠ a := hs.ne nM
  refine su_retE (al_cons ?_)
  unfold tLc iRng1
  refine al_cons (ad_call (ac_var rfl (ac_pu pu_c (ac_nil ⟨a, 4, N, rfl, s1, by omega, by decide, by decide, fun H2 r k2 s2 r0 r1 => ac_nil ?_⟩))))
  have eM2 : H2 M = some (.lst ((nms p).map V.str)) := k2 M _ (by simpa using nMa) eM
  refine ⟨r, rfl, by omega, by omega, ?_⟩
  intro D hD
  have kk2 : Keep [a] H H2 := (k1.of0).trans k2
  have nDM : D ≠ M := fun z => by rw [z, eM2] at hD; cases hD
  have nDa : D ≠ a := s2.ne hD
  have nDH : H D = none := kk2.back (by simpa using nDa) hD
  refine lc_range (lo := 0) (n := r.toNat) (fun i H' => ∃ es : List Str, Keep [a] H H' ∧ Src H' a (N + 1 + i) ∧ H' M = some (.lst ((nms p).map V.str)) ∧ H' D = some (.lst (es.map V.str)) ∧ es.length = i ∧ ∀ e ∈ es, e ∈ nms p) ?_ ?_ ?_
  · refine ⟨[], kk2.trans (.new hD), s2.keep (S := []) (.new hD) (by simp), ?_, upd_same, rfl, fun _ h => by cases h⟩
    rw [upd_ne nDM.symm]
    exact eM2
  · rintro i H3 hi ⟨es, k3, s3, e3, eD, el, hes⟩
    refine ⟨rfl, ?_⟩
    refine ad_call (ac_var rfl (ac_var rfl (ac_nil ⟨a, M, _, N + 1 + i, rfl, s3, by omega, .inl (.inl e3), nMa, ?_, ?_, fun H4 k x k4 s4 ex => ?_⟩)))
    · unfold nms
      simpa using pn
    · unfold nms
      rw [List.length_map, List.length_map]
      omega
    · obtain ⟨n, en, rfl⟩ := ex_map ex
      have eD4 : H4 D = some (.lst (es.map V.str)) := k4 D _ (by simpa using nDa) eD
      refine ⟨es.map V.str, eD4, szl (by rw [List.length_map]; omega), es ++ [n], (k3.trans k4).put (.inr nDH), ?_, ?_, by rw [upd_same]; simp, by simp [el], fun e he => ?_⟩
      · exact s4.keep (S := [D]) (.put .refl (.inl (by simp))) (by simpa using nDa.symm)
      · rw [upd_ne nDM.symm]
        exact k4 M _ (by simpa using nMa) e3
      · rcases List.mem_append.mp he with h | h
        · exact hes e h
        · rw [List.mem_singleton.mp h]
          exact List.mem_of_getElem? en
  · rintro H3 ⟨es, k3, s3, e3, eD, el, hes⟩
    refine ac_nil ⟨D, _, rfl, .inl ⟨.inl (.inl eD), fun l nl => ?_⟩⟩
    refine q _ l es (k3.trans (.new nl)) ((s3.keep (S := []) (.new nl) (by simp)).mono (by omega)) (k3.back ?_ nl) upd_same (by omega) hes
    simpa using s3.ne nl
end
end GL

set_option Elab.async false
set_option linter.all false
set_option maxRecDepth 100000
set_option maxHeartbeats 4000000
set_option exponentiation.threshold 100000
namespace GL
open PySem PySem.Spec PyProof.Rows L2
local macro_rules | `(tactic| walk_at "pu") => `(tactic| repeat' (first
  | ((with_reducible apply pu_var); rfl) | with_reducible exact pu_c | with_reducible exact pua_nil | ((with_reducible apply pur_i0); rfl) | with_reducible exact puu_neg | with_reducible exact puc_abs | with_reducible exact puc_intB
  | with_reducible exact puc_min | with_reducible exact puc_max | with_reducible exact puo_none
  | with_reducible apply pu_op | with_reducible apply pu_cb | with_reducible apply pua_cons | with_reducible refine put_test ?_ | with_reducible refine put_B ?_ | with_reducible refine put_not ?_ | with_reducible refine pu_notV ?_
  | with_reducible apply pu_un | with_reducible refine puo_some ?_ | ((with_reducible apply pur_i); rfl) | with_reducible exact pur_eq rfl | with_reducible exact pur_ne rfl | exact puc_lenL (by assumption) | exact puc_lenT (by assumption)
  | ((with_reducible apply pur_ixL); assumption) | ((with_reducible apply pur_ixT); assumption) | with_reducible apply pur_ixS | with_reducible apply pur_str))
local macro_rules | `(tactic| walk_at "side") => `(tactic| first
  | exact (show (0 : Int) < _ by decide) | exact Or.inl ⟨by decide, by decide⟩ | exact Or.inr ⟨by decide, by decide⟩ | exact Or.inl ⟨by omega, by omega⟩ | exact Or.inr ⟨by omega, by omega⟩
  | exact ⟨by decide, by decide, by decide⟩ | exact ⟨by decide, by decide⟩ | assumption | omega | exact ⟨by decide, by decide +kernel⟩)
/-! ### d == {}, d != {}, sorted(d) -/
def rD0 (neg : Bool) : R2 := fun x y H Q => ∃ a b ks, x = .ref a ∧ y = .ref b ∧ H a = some (.dK ks) ∧ H b = some (.dK []) ∧ Q (.bl (if neg then !ks.isEmpty else ks.isEmpty)) H
abbrev rSortedDk : List V → Hp → VK → Prop := fun xs H Q => ∃ (a : Addr) (kvs : List (Key × V)) (ks : List Str), xs = [.ref a] ∧ Rd H a (.dK kvs) ∧ kvs.map (·.1) = ks.map Sum.inr ∧ ks.length < 64 ∧
    ∀ ys p, ys.Perm ks → sortedS ys = true → H p = none → Q (.ref p) (upd H p (.lst (ys.map V.str)))
section
variable {X : Cx}
theorem kv_nil {kvs : List (Key × Value)} (h : KV ([] : List (Key × V)) kvs) : kvs = [] := by
  cases h
  rfl
theorem op_eqD0 (hu : X.A.units < cLine) : OpR X (compareOp .Eq) (rD0 false) := by
  intro pins s σ H x y v u Q I rx ry h
  obtain ⟨a, b, ks, rfl, rfl, ea, eb, q⟩ := h
  cases rx
  cases ry
  obtain ⟨_, ya, va, ra, da⟩ := (show ObjOk X.prog X.w H s.heap a (.dK ks) from I.hok a _ ea)
  obtain ⟨_, yb, vb, rb, db⟩ := (show ObjOk X.prog X.w H s.heap b (.dK []) from I.hok b _ eb)
  have e0 := kv_nil rb
  subst e0
  have hl : va.length = ks.length := ra.length.symm
  refine PySem.W.keq_eq (knd := mixKind X.prog X.w) (r := true) ya yb da db hu (fun z => ?_) (fin_bl I q ?_)
  · have : va = [] := List.length_eq_zero_iff.mp z
    rw [this]
    exact .nil
  · rw [hl]
    cases ks <;> rfl
theorem op_neD0 (hu : X.A.units < cLine) : OpR X (compareOp .NotEq) (rD0 true) := by
  intro pins s σ H x y v u Q I rx ry h
  obtain ⟨a, b, ks, rfl, rfl, ea, eb, q⟩ := h
  cases rx
  cases ry
  obtain ⟨_, ya, va, ra, da⟩ := (show ObjOk X.prog X.w H s.heap a (.dK ks) from I.hok a _ ea)
  obtain ⟨_, yb, vb, rb, db⟩ := (show ObjOk X.prog X.w H s.heap b (.dK []) from I.hok b _ eb)
  have e0 := kv_nil rb
  subst e0
  have hl : va.length = ks.length := ra.length.symm
  refine PySem.W.keq_ne (knd := mixKind X.prog X.w) (r := true) ya yb da db hu (fun z => ?_) (fin_bl I q ?_)
  · have : va = [] := List.length_eq_zero_iff.mp z
    rw [this]
    exact .nil
  · rw [hl]
    cases ks <;> rfl
end
end GL

set_option Elab.async false
set_option linter.all false
set_option maxRecDepth 100000
set_option maxHeartbeats 4000000
set_option exponentiation.threshold 100000
namespace GL
open PySem PySem.Spec PyProof.Rows L2
local macro_rules | `(tactic| walk_at "pu") => `(tactic| repeat' (first
  | ((with_reducible apply pu_var); rfl) | with_reducible exact pu_c | with_reducible exact pua_nil | ((with_reducible apply pur_i0); rfl) | with_reducible exact puu_neg | with_reducible exact puc_abs | with_reducible exact puc_intB
  | with_reducible exact puc_min | with_reducible exact puc_max | with_reducible exact puo_none
  | with_reducible apply pu_op | with_reducible apply pu_cb | with_reducible apply pua_cons | with_reducible refine put_test ?_ | with_reducible refine put_B ?_ | with_reducible refine put_not ?_ | with_reducible refine pu_notV ?_
  | with_reducible apply pu_un | with_reducible refine puo_some ?_ | ((with_reducible apply pur_i); rfl) | with_reducible exact pur_eq rfl | with_reducible exact pur_ne rfl | exact puc_lenL (by assumption) | exact puc_lenT (by assumption)
  | ((with_reducible apply pur_ixL); assumption) | ((with_reducible apply pur_ixT); assumption) | with_reducible apply pur_ixS | with_reducible apply pur_str))
local macro_rules | `(tactic| walk_at "side") => `(tactic| first
  | exact (show (0 : Int) < _ by decide) | exact Or.inl ⟨by decide, by decide⟩ | exact Or.inr ⟨by decide, by decide⟩ | exact Or.inl ⟨by omega, by omega⟩ | exact Or.inr ⟨by omega, by omega⟩
  | exact ⟨by decide, by decide, by decide⟩ | exact ⟨by decide, by decide⟩ | assumption | omega | exact ⟨by decide, by decide +kernel⟩)
/-! ### tuples whose object is known: tuple(list), methods of such a tuple; t[::-1] of a tuple -/
/-- a tuple of the heap whose object has no dict -/
def Fz (H : Hp) (a : Addr) (xs : List V) : Prop := ∃ o : Obj, o.dict = none ∧ o.cls = .type "tuple" ∧ H a = some (.frz o (.tup xs))
theorem Fz.sqt {K : PySem.W.Frag} {H : Hp} {a : Addr} {xs : List V} (h : Fz H a xs) : SqT K H a xs := by
  obtain ⟨o, _, _, e⟩ := h
  exact .inl (.inr ⟨o, e⟩)
theorem Fz.keep {S : List Addr} {H H' : Hp} {a : Addr} {xs : List V} (h : Fz H a xs) (k : Keep S H H') (n : a ∉ S) : Fz H' a xs := by
  obtain ⟨o, h1, h2, e⟩ := h
  exact ⟨o, h1, h2, k a _ n e⟩
/-- tuple(l), l a list: the new object is known -/
def rTupZ (K : PySem.W.Frag) : List V → Hp → VK → Prop := fun xs H Q => ∃ p ys, xs = [.ref p] ∧ SqL K H p ys ∧ ∀ l o, o.dict = none → o.cls = .type "tuple" → H l = none → Q (.ref l) (upd H l (.frz o (.tup ys)))
/-- t.index(z), texts -/
def tTix (to te : TE) : TE := fun σ H Q => to σ H fun x H1 => ∃ a, ∃ ys : List Str, x = .ref a ∧ Fz H1 a (ys.map V.str) ∧ te σ H1 fun y H2 => ∃ z, ∃ j : Nat, y = .str z ∧ Fz H2 a (ys.map V.str) ∧ ys[j]? = some z ∧ (∀ m, m < j → ys[m]? ≠ some z) ∧ Q (.int j) H2
section
variable {X : Cx}
theorem cr_tupZ : CallR X (.type "tuple") (rTupZ X.K) := by
  intro pins s σ H xs us Q I r h
  obtain ⟨p, ys, rfl, hq, q⟩ := h
  rw [Vals.ref1 r]
  obtain ⟨its, r1, pl, hz⟩ := I.list hq
  have len := r1.length
  refine call_tuple_list pl.isList (fun h' kp => ?_) (by rw [List.size_toArray]; omega)
  have J := I.kept (h' := h') (t' := s.toks) kp
  have get : (h'.push { cls := .type "tuple", data := .seq its.toArray }).get? h'.objs.size = some { cls := .type "tuple", data := .seq its.toArray } := Heap.get?_push_size _ rfl
  have J2 := J.laid (a := h'.objs.size) (o := .frz { cls := .type "tuple", data := .seq its.toArray } (.tup ys)) (h' := h'.push { cls := .type "tuple", data := .seq its.toArray }) (t' := s.toks) (fun b o e => Heap.get?_push_of_some _ e) (Nat.le_refl _) ⟨get, hz, its, r1, IsTup.new _ _⟩
  exact ⟨.ref h'.objs.size, _, J2, rfl, q _ _ rfl rfl (J.hok.fresh (Nat.le_refl _))⟩
variable {o e : Expr} {to te : TE} {apos cpos : Pos}
theorem pe_tix (ho : PE X o to) (he : PE X e te) (m : M1 X o "index" apos e cpos) : PE X (.Call (.Attribute o "index" apos) [e] [] cpos) (tTix to te) := by
  refine ⟨fun pins s σ H Q I h => ?_⟩
  refine wpAny_Call_method m.base m.few m.line PySem.F.plainAttrs_tuple PySem.F.slot_tuple_index PySem.F.type_tuple_index (thn (ho.run pins s σ H _ I h) fun v s1 ⟨x, H1, I1, rx, a, ys, ex, fz, q1⟩ => ?_)
  subst ex
  cases rx
  obtain ⟨ob, d1, c1, e1⟩ := id fz
  have ok := I1.hok a _ e1
  refine ⟨⟨ob, ok.1, c1⟩, fun b eb => ?_, ?_⟩
  · cases eb
    exact ⟨ob, ok.1, d1⟩
  rw [m.trees]
  refine Calls.callWith_builtin rfl (Calls.evalArgs_plain (Calls.spliced_cons (thn (he.run pins s1 σ H1 _ I1 q1) fun u s2 ⟨y, H2, I2, ry, z, j, ez, fz2, hj, hno, q2⟩ => Calls.spliced_nil ?_)))
  subst ez
  exact mt_tup_index pins s2 σ H2 (.ref a) [.str z] (.ref a) [u] Q I2 rfl (.cons ry .nil) ⟨a, ys, z, j, rfl, rfl, fz2.sqt, hj, hno, q2⟩
end
end GL

set_option Elab.async false
set_option linter.all false
set_option maxRecDepth 100000
set_option maxHeartbeats 4000000
set_option exponentiation.threshold 100000
namespace GL
open PySem PySem.Spec PyProof.Rows L2
local macro_rules | `(tactic| walk_at "pu") => `(tactic| repeat' (first
  | ((with_reducible apply pu_var); rfl) | with_reducible exact pu_c | with_reducible exact pua_nil | ((with_reducible apply pur_i0); rfl) | with_reducible exact puu_neg | with_reducible exact puc_abs | with_reducible exact puc_intB
  | with_reducible exact puc_min | with_reducible exact puc_max | with_reducible exact puo_none
  | with_reducible apply pu_op | with_reducible apply pu_cb | with_reducible apply pua_cons | with_reducible refine put_test ?_ | with_reducible refine put_B ?_ | with_reducible refine put_not ?_ | with_reducible refine pu_notV ?_
  | with_reducible apply pu_un | with_reducible refine puo_some ?_ | ((with_reducible apply pur_i); rfl) | with_reducible exact pur_eq rfl | with_reducible exact pur_ne rfl | exact puc_lenL (by assumption) | exact puc_lenT (by assumption)
  | ((with_reducible apply pur_ixL); assumption) | ((with_reducible apply pur_ixT); assumption) | with_reducible apply pur_ixS | with_reducible apply pur_str))
local macro_rules | `(tactic| walk_at "side") => `(tactic| first
  | exact (show (0 : Int) < _ by decide) | exact Or.inl ⟨by decide, by decide⟩ | exact Or.inr ⟨by decide, by decide⟩ | exact Or.inl ⟨by omega, by omega⟩ | exact Or.inr ⟨by omega, by omega⟩
  | exact ⟨by decide, by decide, by decide⟩ | exact ⟨by decide, by decide⟩ | assumption | omega | exact ⟨by decide, by decide +kernel⟩)
/-! ### t[::-1] of a tuple -/
theorem adj_rev (n : Nat) : Builtin.Slice.sliceAdjust none none (-1) (n : Int) = ((n : Int) - 1, -1) := by
  unfold Builtin.Slice.sliceAdjust
  rfl
theorem pla_rev (n : Nat) : Builtin.Slice.slicePlaces ((n : Int) - 1) (-1) (-1) = n := by
  unfold Builtin.Slice.slicePlaces
  rw [if_neg (by decide)]
  by_cases h : n = 0
  · subst h
    rfl
  · rw [if_pos (by omega)]
    have e : ((n : Int) - 1 - -1 - 1) / -(-1) + 1 = n := by
      rw [show -(-1 : Int) = 1 by decide, Int.ediv_one]
      omega
    rw [e]
    rfl
theorem pick_rev (xs : Array Value) : ((List.range xs.size).filterMap fun (m : Nat) => xs[(((xs.size : Int) - 1) + (m : Int) * (-1)).toNat]?) = xs.toList.reverse := by
  refine List.ext_getElem? fun i => ?_
  have e : ((List.range xs.size).filterMap fun (m : Nat) => xs[(((xs.size : Int) - 1) + (m : Int) * (-1)).toNat]?) = (List.range xs.size).map fun m => xs.toList.getD (xs.size - 1 - m) .none := by
    have gen : ∀ L : List Nat, (∀ m ∈ L, m < xs.size) → (L.filterMap fun (m : Nat) => xs[(((xs.size : Int) - 1) + (m : Int) * (-1)).toNat]?) = L.map fun m => xs.toList.getD (xs.size - 1 - m) .none := by
      intro L
      induction L with
      | nil => intro _; rfl
      | cons m r ih =>
        intro hL
        have hm := hL m List.mem_cons_self
        have e1 : (((xs.size : Int) - 1) + (m : Int) * (-1)).toNat = xs.size - 1 - m := by omega
        have hl : xs.size - 1 - m < xs.size := by omega
        have e2 : xs[(((xs.size : Int) - 1) + (m : Int) * (-1)).toNat]? = some (xs.toList.getD (xs.size - 1 - m) .none) := by
          rw [e1, Array.getElem?_eq_getElem hl]
          simp [hl]
        rw [List.filterMap_cons, ih fun x hx => hL x (List.mem_cons_of_mem _ hx), e2]
        rfl
    exact gen _ fun m hm => List.mem_range.mp hm
  rw [e, List.getElem?_map]
  by_cases hi : i < xs.size
  · rw [List.getElem?_range hi, List.getElem?_reverse (by simpa using hi)]
    have hl : xs.size - 1 - i < xs.size := by omega
    simp [hl]
  · rw [List.getElem?_eq_none (by simpa using hi), List.getElem?_eq_none (by simpa using hi)]
    rfl
section
variable {prog : Program} {w : World} {A : Around} {E : Value → Shared → Prop} {s : Shared}
theorem applied_rev {sl : Addr} {vl vu vs : Value} {n : Nat} {Q : Int × Int × Nat → Shared → Prop} (hs : s.heap.IsSliceOf sl vl vu vs) (pl : IsPart vl none) (pu : IsPart vu none) (ps : IsPart vs (some (-1)))
    (h : Q ((n : Int) - 1, -1, n) s) : wpAny (model prog w) A (Builtin.Slice.sliceApplied (.ref sl) (pure (n : Int))) Q E s := by
  obtain ⟨os, hos, hcs, hds⟩ := id hs
  unfold Builtin.Slice.sliceApplied Builtin.Slice.sliceFields
  refine wpAny_bind (wpAny_bind (wpAny_field hos hds (x := vl) rfl (wpAny_bind (wpAny_field hos hds (x := vu) rfl (wpAny_bind (wpAny_field hos hds (x := vs) rfl (wpAny_pure ?_)))))))
  refine wpAny_bind (HT.slicePart_ ps ?_)
  show wpAny _ _ (if ((-1 : Int) == 0) = true then _ else _) _ _ s
  rw [if_neg (by decide)]
  refine wpAny_bind (HT.slicePart_ pl (wpAny_bind (HT.slicePart_ pu (wpAny_bind (wpAny_pure ?_)))))
  show wpAny _ _ (match Builtin.Slice.sliceAdjust none none (-1) (n : Int) with | (lo, hi) => pure (lo, (-1 : Int), Builtin.Slice.slicePlaces lo hi (-1))) _ _ s
  rw [adj_rev n]
  show wpAny _ _ (pure ((n : Int) - 1, (-1 : Int), Builtin.Slice.slicePlaces ((n : Int) - 1) (-1) (-1))) _ _ s
  rw [pla_rev]
  exact wpAny_pure h
theorem item_rev {t sl : Addr} {items : Array Value} {vl vu vs : Value} {Q : Value → Shared → Prop} (ht : IsTup s.heap t items) (hs : s.heap.IsSliceOf sl vl vu vs) (pl : IsPart vl none) (pu : IsPart vu none) (ps : IsPart vs (some (-1)))
    (h : Q (.ref s.heap.objs.size) { s with heap := s.heap.push { cls := .type "tuple", data := .seq items.toList.reverse.toArray } }) (hsz : items.size ≤ sizeLine) : wpAny (model prog w) A (getItem (.ref t) (.ref sl)) Q E s := by
  have fits : sizeOk (.seq items.toList.reverse.toArray) := by
    show items.toList.reverse.toArray.size ≤ sizeLine
    simpa using hsz
  obtain ⟨os, hos, hcs, hds⟩ := id hs
  have hTs : s.TypeIs (.ref sl) "slice" := ⟨os, hos, hcs⟩
  unfold getItem
  try with_reducible refine wpAny_holding ?_
  first | refine wpAny_bind (wpAny_pure ?_) | skip
  refine wpAny_bind (wpAny_sequenceKey ht.typeIs (by decide) ?_)
  refine wpAny_bind (wpAny_callSpecial?_slot (name := Str.ofString "__getitem__") ht.typeIs PyProof.Rows.slot_tuple_getitem (wpAny_call_entry PyProof.Rows.slot_tuple_getitem ht.typeIs entry_tuple_getitem ?_ (args_tuple_getitem _ _)))
  show wpAny _ _ (Builtin.Tuple.tupleItemsOf (.ref t) >>= _) _ _ s
  refine wpAny_bind (PyProof.Rows.tupleItemsOf_ ht ?_)
  refine wpAny_bind (wpAny_typeOf hTs ?_)
  rw [if_pos (by decide)]
  refine wpAny_bind (applied_rev (n := items.size) hs pl pu ps ?_)
  have hno : ¬ ((((items.size : Int) - 1) == 0 && (-1 : Int) == 1 && items.size == items.size) = true) := by
    rw [show ((-1 : Int) == 1) = false by decide]
    simp
  show wpAny _ _ (if ((((items.size : Int) - 1) == 0 && (-1 : Int) == 1 && items.size == items.size) = true) then _ else _) _ _ s
  rw [if_neg hno, pick_rev]
  first
    | exact wpAny_bind (m := Builtin.Tuple.tupleExact _) (wpAny_newObj_type (wpAny_pure ⟨_, rfl, wpAny_pure h⟩) fits)
    | exact wpAny_bind (m := Builtin.Tuple.tupleExact _) (wpAny_newObj_type (wpAny_bind (wpAny_pure (wpAny_pure ⟨_, rfl, wpAny_pure h⟩))) fits)
end
/-- t[::-1], t a tuple -/
def tRevT (K : PySem.W.Frag) (te : TE) : TE := fun σ H Q => te σ H fun x H1 => ∃ a xs, x = .ref a ∧ SqT K H1 a xs ∧ ∀ p, H1 p = none → Q (.ref p) (upd H1 p (.tup xs.reverse))
theorem pe_revT {X : Cx} {e : Expr} {te : TE} {k : Nat} {p1 p2 p3 pos : Pos} (he : PE X e te) : PE X (.Subscript e (.Slice none none (some (.UnaryOp .USub (.Constant (.int 1) k p1) p2)) p3) pos) (tRevT X.K te) := by
  constructor
  intro pins s σ H Q I h
  refine Subscript_ (thn (he.run pins s σ H _ I h) ?_)
  rintro v s1 ⟨x, H1, I1, r1, a, xs, rfl, hx, q⟩
  cases r1
  have step : PO X (some (.UnaryOp .USub (.Constant (.int 1) k p1) p2)) (tPart (tUn rNeg (tC (.int 1)))) := po_some (pe_un un_neg pe_int)
  refine wpAny_Slice (thn (po_none.run pins s1 σ H1 (fun o H2 => o = none ∧ H2 = H1) I1 ⟨rfl, rfl⟩) ?_)
  rintro vl s2 ⟨l, H2, I2, pl, rfl, rfl⟩
  refine thn (po_none.run pins s2 σ H2 (fun o H3 => o = none ∧ H3 = H2) I2 ⟨rfl, rfl⟩) ?_
  rintro vu s3 ⟨u, H3, I3, pu, rfl, rfl⟩
  refine thn (step.run pins s3 σ H3 (fun o H4 => o = some (-1) ∧ H4 = H3) I3 ⟨1, rfl, -1, rfl, rfl, rfl⟩) ?_
  rintro vs s4 ⟨o, H4, I4, ps, rfl, rfl⟩
  have J := I4.kept (h' := s4.heap.push { cls := .type "slice", data := .fields #[vl, vu, vs] }) (t' := s4.toks) fun b ob q => Heap.get?_push_of_some _ q
  obtain ⟨its, r, ht, hz⟩ := J.tuple hx
  have len := r.length
  show wpAny (model X.prog X.w) X.A (subscriptTail e (.Slice none none (some (.UnaryOp .USub (.Constant (.int 1) k p1) p2)) p3) (.ref a) (.ref s4.heap.objs.size)) _ _ _
  refine tail_any (ops := [.ref a, .ref s4.heap.objs.size]) ht.typeIs PyProof.Rows.slot_tuple_getitem.lookup ?_ (by with_unfolding_all rfl)
  refine item_rev ht (Heap.IsSliceOf.new _ vl vu vs) pl pu ps ?_ (by rw [List.size_toArray]; omega)
  refine ⟨.ref _, _, J.laid (t' := s4.toks) (o := .tup xs.reverse) (fun b ob q => Heap.get?_push_of_some _ q) (Nat.le_refl _) ?_, rfl, q _ (J.hok.fresh (Nat.le_refl _))⟩
  exact ⟨by rw [List.length_reverse]; exact hz, _, r.reverse, IsTup.new _ _⟩
end GL

set_option Elab.async false
set_option linter.all false
set_option maxRecDepth 100000
set_option maxHeartbeats 4000000
set_option exponentiation.threshold 100000
namespace GL
open PySem PySem.Spec PyProof.Rows L2
local macro_rules | `(tactic| walk_at "pu") => `(tactic| repeat' (first
  | ((with_reducible apply pu_var); rfl) | with_reducible exact pu_c | with_reducible exact pua_nil | ((with_reducible apply pur_i0); rfl) | with_reducible exact puu_neg | with_reducible exact puc_abs | with_reducible exact puc_intB
  | with_reducible exact puc_min | with_reducible exact puc_max | with_reducible exact puo_none
  | with_reducible apply pu_op | with_reducible apply pu_cb | with_reducible apply pua_cons | with_reducible refine put_test ?_ | with_reducible refine put_B ?_ | with_reducible refine put_not ?_ | with_reducible refine pu_notV ?_
  | with_reducible apply pu_un | with_reducible refine puo_some ?_ | ((with_reducible apply pur_i); rfl) | with_reducible exact pur_eq rfl | with_reducible exact pur_ne rfl | exact puc_lenL (by assumption) | exact puc_lenT (by assumption)
  | ((with_reducible apply pur_ixL); assumption) | ((with_reducible apply pur_ixT); assumption) | with_reducible apply pur_ixS | with_reducible apply pur_str))
local macro_rules | `(tactic| walk_at "side") => `(tactic| first
  | exact (show (0 : Int) < _ by decide) | exact Or.inl ⟨by decide, by decide⟩ | exact Or.inr ⟨by decide, by decide⟩ | exact Or.inl ⟨by omega, by omega⟩ | exact Or.inr ⟨by omega, by omega⟩
  | exact ⟨by decide, by decide, by decide⟩ | exact ⟨by decide, by decide⟩ | assumption | omega | exact ⟨by decide, by decide +kernel⟩)
open RM
/-! ### cycle -/
/-- no module imports one that is not lower -/
def Acyc (p : List Mod) : Prop := ∃ rk : Str → Nat, ∀ m ∈ p, ∀ i ∈ m.imps, rk i < rk m.name
/-- a row of different modules each of which imports the next one, the last one the first -/
structure CycRow (p : List Mod) (rs : List Str) : Prop where
  ne : rs ≠ []
  nd : rs.Nodup
  inn : ∀ x ∈ rs, x ∈ nms p
  nxt : ∀ (i : Nat) x y, rs[i]? = some x → rs[(i + 1) % rs.length]? = some y → y ∈ impOf p x
def spCycle (K : PySem.W.Frag) : Sp := fun vs H Q _ => ∃ v p, vs = [v] ∧ Dp K H v (projD p) ∧ Pj p ∧ (∀ H', Keep [] H H' → Acyc p → Q .non H') ∧ ∀ H' r rs, Keep [] H H' → H r = none → Fz H' r (rs.map V.str) → CycRow p rs → Q (.ref r) H'
/-- the dict of those that are left -/
def LDv (K : PySem.W.Frag) (H : Hp) (kvs : List (Key × V)) (q : List Mod) : Prop := Paired (fun (kv : Key × V) m => kv.1 = .inr m.name ∧ ∃ u, kv.2 = .ref u ∧ SqT K H u (m.imps.map V.str)) kvs q
theorem LDv.tk {K : PySem.W.Frag} {H H' : Hp} {kvs : List (Key × V)} {q : List Mod} (h : LDv K H kvs q) (k : TKeep H H') : LDv K H' kvs q := L2.Paired.mapP h fun _ _ ⟨a, u, b, c⟩ => ⟨a, u, b, k.sqt c⟩
theorem LDv.len {K : PySem.W.Frag} {H : Hp} {kvs : List (Key × V)} {q : List Mod} (h : LDv K H kvs q) : kvs.length = q.length := PySem.Paired.length h
theorem LDv.at {K : PySem.W.Frag} {H : Hp} : ∀ {kvs : List (Key × V)} {q : List Mod} {i : Nat} {m : Mod}, LDv K H kvs q → q[i]? = some m → ∃ u, kvs[i]? = some (.inr m.name, .ref u) ∧ SqT K H u (m.imps.map V.str)
  | _, [], i, m, .nil, e => by simp at e
  | kv :: _, m' :: _, 0, m, .cons ⟨a, u, b, c⟩ r, e => by
    cases e
    obtain ⟨k1, v1⟩ := kv
    cases a
    cases b
    exact ⟨u, rfl, c⟩
  | _ :: _, _ :: _, i + 1, m, .cons a r, e => LDv.at (i := i) r (by simpa using e)
theorem LDv.get {K : PySem.W.Frag} {H : Hp} {kvs : List (Key × V)} {q : List Mod} {n : Str} (h : LDv K H kvs q) (hn : n ∈ nms q) : ∃ m u, modAt q n = some m ∧ valV kvs (.inr n) = some (.ref u) ∧ SqT K H u (m.imps.map V.str) := by
  obtain ⟨m, v, a, b, u, c, d⟩ := tab_get (R := fun v m => ∃ u, v = .ref u ∧ SqT K H u (m.imps.map V.str)) h hn
  subst c
  exact ⟨m, u, a, b, d⟩
theorem LDv.keys {K : PySem.W.Frag} {H : Hp} : ∀ {kvs : List (Key × V)} {q : List Mod}, LDv K H kvs q → kvs.map (·.1) = (nms q).map Sum.inr
  | _, [], .nil => rfl
  | _ :: _, m :: q, .cons a r => by
    rw [List.map_cons, a.1, LDv.keys r]
    rfl
theorem LDv.has {K : PySem.W.Frag} {H : Hp} : ∀ {kvs : List (Key × V)} {q : List Mod}, LDv K H kvs q → ∀ n : Str, (valV kvs (.inr n)).isSome = decide (n ∈ nms q)
  | _, [], .nil, n => rfl
  | kv :: kvs, m :: q, .cons a r, n => by
    by_cases e : m.name = n
    · rw [valV_pos (by rw [a.1, e])]
      simp [nms, e]
    · rw [valV_neg (by rw [a.1]; simpa using e), LDv.has r n]
      have : ¬ n = m.name := fun z => e z.symm
      simp [nms, this]
theorem LDv.drop {K : PySem.W.Frag} {H : Hp} {n : Str} : ∀ {kvs : List (Key × V)} {q : List Mod}, LDv K H kvs q → LDv K H (dropK kvs (.inr n)) (q.filter fun m => decide (m.name ≠ n))
  | _, [], .nil => .nil
  | kv :: kvs, m :: q, .cons a r => by
    unfold dropK
    by_cases e : m.name = n
    · rw [List.filter_cons_of_neg (by rw [a.1]; simpa using e), List.filter_cons_of_neg (by simpa using e)]
      exact LDv.drop r
    · rw [List.filter_cons_of_pos (by rw [a.1]; simpa using e), List.filter_cons_of_pos (by simpa using e)]
      exact .cons a (LDv.drop r)
/-- those that need none that is left -/
def frees (q : List Mod) : List Mod := q.filter fun m => !(m.imps.any fun i => decide (i ∈ nms q))
/-- what was taken away: by rising ranks -/
def Taken (p q : List Mod) : Prop := ∃ rk : Str → Nat, ∀ m ∈ p, m ∉ q → ∀ i ∈ m.imps, i ∉ nms q ∧ rk i < rk m.name
theorem Taken.step {p q : List Mod} (nd : (nms p).Nodup) (sub : ∀ m ∈ q, m ∈ p) (inn : ∀ m ∈ p, ∀ i ∈ m.imps, i ∈ nms p) (h : Taken p q) : Taken p (q.filter fun m => decide (m.name ∉ nms (frees q))) := by
  obtain ⟨rk, h⟩ := h
  have bound : ∃ B, ∀ m ∈ p, rk m.name < B := by
    clear h nd inn sub
    induction p with
    | nil => exact ⟨0, fun _ h => by cases h⟩
    | cons m r ih =>
      obtain ⟨B, hB⟩ := ih
      refine ⟨max B (rk m.name + 1), fun x hx => ?_⟩
      rcases List.mem_cons.mp hx with rfl | hx
      · omega
      · have := hB x hx
        omega
  obtain ⟨B, hB⟩ := bound
  have keyeq : ∀ m ∈ p, ∀ m' ∈ p, m.name = m'.name → m = m' := fun m hm m' hm' e => by
    have h1 := modAt_of nd hm
    have h2 := modAt_of nd hm'
    rw [e, h2] at h1
    exact (Option.some.inj h1).symm
  have infr : ∀ m ∈ q, m.name ∈ nms (frees q) → m ∈ frees q := fun m hm hn => by
    obtain ⟨m', h1, h2⟩ := List.mem_map.mp hn
    have h3 : m' ∈ q := (List.mem_filter.mp h1).1
    rw [keyeq m (sub m hm) m' (sub m' h3) h2.symm]
    exact h1
  refine ⟨fun y => if y ∈ nms (frees q) then B else rk y, fun m hm hq i hi => ?_⟩
  have sub2 : ∀ y, y ∈ nms (q.filter fun m => decide (m.name ∉ nms (frees q))) → y ∈ nms q := fun y hy => by
    obtain ⟨x, hx, rfl⟩ := List.mem_map.mp hy
    exact List.mem_map_of_mem (List.mem_filter.mp hx).1
  by_cases hmq : m ∈ q
  · have hf : m.name ∈ nms (frees q) := Classical.byContradiction fun z => hq (List.mem_filter.mpr ⟨hmq, decide_eq_true z⟩)
    have hmf := infr m hmq hf
    have hno : i ∉ nms q := fun z => by
      have := (List.mem_filter.mp hmf).2
      simp only [Bool.not_eq_true', List.any_eq_false, decide_eq_true_eq] at this
      exact this i hi z
    refine ⟨fun z => hno (sub2 i z), ?_⟩
    have hif : i ∉ nms (frees q) := fun z => hno (by
      obtain ⟨x, hx, rfl⟩ := List.mem_map.mp z
      exact List.mem_map_of_mem (List.mem_filter.mp hx).1)
    show (if i ∈ nms (frees q) then B else rk i) < (if m.name ∈ nms (frees q) then B else rk m.name)
    rw [if_pos hf, if_neg hif]
    obtain ⟨mi, h1, rfl⟩ := List.mem_map.mp (inn m hm i hi)
    exact hB mi h1
  · obtain ⟨h1, h2⟩ := h m hm hmq i hi
    refine ⟨fun z => h1 (sub2 i z), ?_⟩
    have hif : i ∉ nms (frees q) := fun z => h1 (by
      obtain ⟨x, hx, rfl⟩ := List.mem_map.mp z
      exact List.mem_map_of_mem (List.mem_filter.mp hx).1)
    have hmf : m.name ∉ nms (frees q) := fun z => by
      obtain ⟨x, hx, e⟩ := List.mem_map.mp z
      have hxq := (List.mem_filter.mp hx).1
      exact hmq (keyeq x (sub x hxq) m hm e ▸ hxq)
    show (if i ∈ nms (frees q) then B else rk i) < (if m.name ∈ nms (frees q) then B else rk m.name)
    rw [if_neg hif, if_neg hmf]
    exact h2
theorem CycRow.noAcyc {p : List Mod} {rs : List Str} (nd : (nms p).Nodup) (h : CycRow p rs) : ¬ Acyc p := by
  rintro ⟨rk, hr⟩
  have lt : ∀ x ∈ rs, ∃ y ∈ rs, rk y < rk x := fun x hx => by
    obtain ⟨i, hi⟩ := List.mem_iff_getElem?.mp hx
    have hl : 0 < rs.length := List.length_pos_of_mem hx
    have hm : (i + 1) % rs.length < rs.length := Nat.mod_lt _ hl
    have ey : rs[(i + 1) % rs.length]? = some rs[(i + 1) % rs.length] := List.getElem?_eq_getElem hm
    refine ⟨_, List.mem_of_getElem? ey, ?_⟩
    have im := h.nxt i x _ hi ey
    obtain ⟨m, em, hmp, mn⟩ := modAt_some (h.inn x hx)
    have ei : impOf p x = m.imps := by simp [impOf, em]
    rw [ei] at im
    rw [← mn]
    exact hr m hmp _ im
  have all : ∀ (n : Nat) x, x ∈ rs → rk x = n → False := by
    intro n
    induction n using Nat.strongRecOn with
    | _ n ih =>
      intro x hx e
      obtain ⟨y, hy, hlt⟩ := lt x hx
      exact ih (rk y) (by omega) y hy rfl
  cases e : rs with
  | nil => exact h.ne e
  | cons x r => exact all _ x (by rw [e]; exact List.mem_cons_self) rfl
section
variable {K : PySem.W.Frag} {σ : L2.St} {H : Hp} {ta tb te td ty to tl : TE} {Q : VK} {D : Ends}
theorem walk_keysF {d : Addr} {o : Obj} {kvs : List (Key × V)} {it : Nat → V} (h : ∀ i k v, kvs[i]? = some (k, v) → it i = kV k) : Walk (Itk d o kvs) kvs.length (fun H => H d = some (.frz o (.dK kvs))) (YFn it) :=
  walk_keys.mono (fun _ h => h) fun i H x H' hi _ ⟨y, k, v, e, ex⟩ => ⟨y, by rw [ex, h i k v e]⟩
theorem lce_keys {d : Addr} {o : Obj} {kvs : List (Key × V)} {j : Nat} {tt : TT} {te : TE} {vs : List Nat} {it : Nat → V} {b : Nat → Bool} {f : Nat → V} (h : Pu tl σ H (.ref d)) (hx : H d = some (.frz o (.dK kvs))) (hn : kvs.length ≤ 1000000) (hit : ∀ i k v, kvs[i]? = some (k, v) → it i = kV k) (hw : ∀ v, wipe ((wipe σ vs).set j (some v)) vs = wipe σ vs)
    (ht : ∀ i H', i < kvs.length → Keep [] H H' → KeT tt ((wipe σ vs).set j (some (it i))) H' (b i)) (he : ∀ i H', i < kvs.length → Keep [] H H' → b i = true → Ke te ((wipe σ vs).set j (some (it i))) H' (f i))
    (k : ∀ D H', Keep [] H H' → H D = none → H' D = some (.lst (((List.range kvs.length).filter b).map f)) → Q (.ref D) H') : tLc (iKeys tl) (gName j) tt te vs σ H Q :=
  h _ ⟨d, o, rfl, .inl ⟨kvs, hx, lc_ke (walk_keysF hit) (fun H' kp => kp d _ (by simp) hx) hn hw ht he k⟩⟩
theorem ke_any {a : Addr} {xs : List V} {j : Nat} {vs : List Nat} {it : Nat → V} {f : Nat → Bool} (h : Pu tl σ H (.ref a)) (hx : SqT K H a xs) (hn : xs.length ≤ 1000000) (hit : ∀ i x, xs[i]? = some x → it i = x) (hw : ∀ v, wipe ((wipe σ vs).set j (some v)) vs = wipe σ vs)
    (he : ∀ i H', i < xs.length → Keep [] H H' → Ke te ((wipe σ vs).set j (some (it i))) H' (.bl (f i))) : Ke (tCB (rAny K) (tCons (tLc (iTup K tl) (gName j) tYes te vs) tNil)) σ H (.bl ((List.range xs.length).any f)) := fun Q q => by
  refine al_cons (lce_tup (b := fun _ => true) (f := fun i => .bl (f i)) h hx hn hit hw (fun _ _ _ _ => keT_yes) (fun i H' hi kp _ => he i H' hi kp) fun D H' kp nD eD => ac_nil ⟨D, (List.range xs.length).map f, rfl, .inl (.inl ?_), ?_⟩)
  · rw [eD, filter_all, List.map_map]
    rfl
  · rw [show ((List.range xs.length).map f).any id = (List.range xs.length).any f by rw [List.any_map]; rfl]
    exact q H' kp
theorem lock_tk {d : Addr} {od : Obj} {kvs : List (Key × V)} (e : H d = some (.dK kvs)) : TKeep H (upd H d (.frz od (.dK kvs))) := fun b => by
  by_cases eb : b = d
  · subst eb
    rw [e]
    exact ⟨fun _ z => (by cases z), fun _ _ z => (by cases z)⟩
  · rw [upd_ne eb]
    exact ⟨fun _ z => z, fun _ _ z => z⟩
theorem lock_back {d : Addr} {od : Obj} {u : HO} {H' : Hp} (e : H d = some u) (k : Keep [] (upd H d (.frz od u)) H') : H' d = some (.frz od u) ∧ Keep [] H (upd H' d u) := by
  refine ⟨k d _ (by simp) upd_same, fun b o _ eb => ?_⟩
  by_cases z : b = d
  · subst z
    rw [upd_same, ← e, eb]
  · rw [upd_ne z]
    exact k b o (by simp) (by rw [upd_ne z]; exact eb)
end

def t_cycLoop (K : PySem.W.Frag) : TS :=
  (tWhile (tTest (tOp (rNeD K) (tVar 2) (tLst tNil))) (tSeq (tLock (tAsg (tLc (iKeys (tVar 1)) (gName 3) (tNot (tB (tCB (rAny K) (tCons (tLc (iTup K (tDGet (tVar 1) (tVar 3))) (gName 6) tYes (tDIn (tVar 6) (tVar 1)) [6]) tNil)))) (tVar 3) [3]) (gName 2)))
    (tFor (iList K (tVar 2)) (gName 3) (tDrop (tDPop1 (tVar 1) (tVar 3))))))
def t_cycRow (K : PySem.W.Frag) : TS :=
    (tSeq (tWhile (tTest (tOp (rIn K true) (tOp (rIxL K) (tVar 4) (tUn rNeg (tC (.int 1)))) (tSl (rSlL K) (tVar 4) tNoPart (tPart (tUn rNeg (tC (.int 1))))))) (tDrop (tBM K "list" rAppend (tVar 4) (tCons (tOp (rIxL K) (tLc (iTup K (tDGet (tVar 1) (tOp (rIxL K) (tVar 4) (tUn rNeg (tC (.int 1)))))) (gName 6) (tB (tDIn (tVar 6) (tVar 1))) (tVar 6) [6]) (tC (.int 0))) tNil))))
    (tRet (tCB (rTupZ K) (tCons (tSl (rSlL K) (tVar 4) (tPart (tBM K "list" (rIndex K) (tVar 4) (tCons (tOp (rIxL K) (tVar 4) (tUn rNeg (tC (.int 1)))) tNil))) (tPart (tUn rNeg (tC (.int 1))))) tNil))))
def t_cycle (K : PySem.W.Frag) : TS :=
  (tSeq (tAsg (tTup (tCons (tDc (iTup K (tVar 0)) (gName 5) tYes (tOp (rIxT K) (tVar 5) (tC (.int 0))) (tOp (rIxT K) (tVar 5) (tC (.int 1))) [5]) (tCons (tLst (tCons (tC (.str "")) tNil)) tNil))) (gTup K 2 (gCons (gName 1) (gCons (gName 2) gNil))))
    (tSeq (t_cycLoop K)
    (tSeq (tIfS (tTest (tOp (rD0 false) (tVar 1) tDNewK)) (tRet (tC .non)) tNext)
    (tSeq (tAsg (tLst (tCons (tOp (rIxL K) (tCB rSortedDk (tCons (tVar 1) tNil)) (tC (.int 0))) tNil)) (gName 4))
    (t_cycRow K)))))
def lTxt (zs : List Str) : PyData := .list (zs.map .str)
theorem eqv_lTxt (a b : List Str) : PyData.eqv (lTxt a) (lTxt b) = true ↔ a = b := by
  unfold lTxt
  rw [PyData.eqv]
  exact eqvAll_inj .str eqv_str a b
theorem dp_lTxt {K : PySem.W.Frag} {H : Hp} {a : Addr} {zs : List Str} (h : SqL K H a (zs.map V.str)) : Dp K H (.ref a) (lTxt zs) := .lst h (dp_strs zs)
/-- texts of signs below 128 -/
def Asci (z : Str) : Prop := ∀ c ∈ z.cps.toList, c < 128
theorem NameOk.asci {z : Str} (h : NameOk z) : Asci z := fun c hc => by
  have := (h.2.2 c hc).2
  omega
theorem shaped_lTxt {zs : List Str} (h : ∀ z ∈ zs, Asci z) : SeqAt.shaped (lTxt zs) = true := by
  refine good_shaped ?_ ?_
  · unfold lTxt
    rw [good]
    refine good_all_of fun x hx => ?_
    obtain ⟨z, hz, rfl⟩ := List.mem_map.mp hx
    simp only [good, List.all_eq_true, decide_eq_true_eq]
    exact h z hz
  · have : PyData.depthAll (zs.map .str) ≤ 0 := depthAll_le fun x hx => by
      obtain ⟨z, _, rfl⟩ := List.mem_map.mp hx
      exact Nat.le_refl _
    simp only [lTxt, PyData.depth]
    omega
section
variable {K : PySem.W.Frag}
theorem filter_notin_all {q : List Mod} {F : List Str} {n : Str} : (q.filter fun m => decide (m.name ∉ F)).filter (fun m => decide (m.name ≠ n)) = q.filter fun m => decide (m.name ∉ F ++ [n]) := by
  rw [List.filter_filter]
  refine List.filter_congr fun m _ => ?_
  rw [Bool.eq_iff_iff]
  simp only [Bool.and_eq_true, decide_eq_true_eq, List.mem_append, List.mem_singleton, not_or]
  exact ⟨fun h => ⟨h.2, h.1⟩, fun h => ⟨h.2, h.1⟩⟩
/-- the loop that takes away: W is kept, at the end nothing is free any more -/
theorem pure_cycLoop {H H0 : Hp} {D : Ends} {v : V} {d f : Addr} {p : List Mod} {y3 y4 y5 y6 : Option V} (pj : Pj p) (kB : Keep [] H0 H) (nd : H0 d = none) (hd : ∃ kvs, H d = some (.dK kvs) ∧ LDv K H kvs p) (hf : SqL K H f ([("" : Str)].map V.str))
    (k : ∀ H' f' q z3 z4 z5 z6, Keep [] H0 H' → (∀ m ∈ q, m ∈ p) → (nms q).Nodup → Taken p q → frees q = [] → (∃ kvs, H' d = some (.dK kvs) ∧ LDv K H' kvs q) → q.length ≤ p.length → D.nx [some v, some (.ref d), some (.ref f'), z3, z4, z5, z6] H') :
    t_cycLoop K D [some v, some (.ref d), some (.ref f), y3, y4, y5, y6] H := by
  have ndp := pj.wf.nd
  have pl := pj.wf.pl
  refine ⟨fun mz σ' H' => ∃ f' F q z3 z4 z5 z6, σ' = [some v, some (.ref d), some (.ref f'), z3, z4, z5, z6] ∧ Keep [] H0 H' ∧ (∀ m ∈ q, m ∈ p) ∧ (nms q).Nodup ∧ Taken p q ∧ (F = [] → frees q = []) ∧ SqL K H' f' (F.map V.str) ∧ (∀ z ∈ F, Asci z) ∧ (∃ kvs, H' d = some (.dK kvs) ∧ LDv K H' kvs q) ∧ q.length ≤ p.length ∧ mz = q.length + (if F = [] then 0 else 1),
    ⟨_, f, [""], p, _, _, _, _, rfl, kB, fun _ h => h, ndp, ⟨fun _ => 0, fun m hm z => absurd hm z⟩, (fun z => by cases z), hf, (fun z hz => by rw [List.mem_singleton.mp hz]; intro c hc; exact absurd hc (by decide +revert +kernel)), hd, Nat.le_refl _, rfl⟩, ?_⟩
  rintro mz σ' H1 ⟨f', F, q, z3, z4, z5, z6, rfl, k1, sub, ndq, tk, fe, sf, asc, ⟨kvs, ed, ld⟩, ql, hmz⟩
  refine al_opV rfl (al_lst pua_nil (by decide) fun c nc => ?_)
  have kc : Keep [] H1 (upd H1 c (.lst [])) := .new nc
  have sc : SqL K (upd H1 c (.lst [])) c (([] : List Str).map V.str) := .inl (.inl upd_same)
  generalize upd H1 c (.lst []) = H2 at kc sc ⊢
  refine ⟨lTxt F, lTxt [], dp_lTxt (kc.sql (by simp) sf), dp_lTxt sc, shaped_lTxt asc, shaped_lTxt (fun _ h => by cases h), _, rfl, ?_⟩
  have ed2 := kc d _ (by simp) ed
  have ld2 := ld.tk kc.tk
  have k2 := k1.trans kc
  by_cases eF : F = []
  · rw [(eqv_lTxt _ _).mpr eF]
    exact k H2 f' q _ _ _ _ k2 sub ndq tk (fe eF) ⟨kvs, ed2, ld2⟩ ql
  · rw [Bool.eq_false_iff.mpr fun z => eF ((eqv_lTxt _ _).mp z)]
    rw [if_neg eF] at hmz
    refine (show ∃ N : L2.St → Hp → Prop, (∀ σ' H', N σ' H' → _) ∧ _ from ⟨fun σ' H' => ∃ mz', mz' < mz ∧ ∃ f' F q z3 z4 z5 z6, σ' = [some v, some (.ref d), some (.ref f'), z3, z4, z5, z6] ∧ Keep [] H0 H' ∧ (∀ m ∈ q, m ∈ p) ∧ (nms q).Nodup ∧ Taken p q ∧ (F = [] → frees q = []) ∧ SqL K H' f' (F.map V.str) ∧ (∀ z ∈ F, Asci z) ∧ (∃ kvs, H' d = some (.dK kvs) ∧ LDv K H' kvs q) ∧ q.length ≤ p.length ∧ mz' = q.length + (if F = [] then 0 else 1),
      fun σ' H' h => h, ?_⟩)
    -- the comprehension, under a lock
    refine ⟨d, .dK kvs, ed2, trivial, fun od => ?_⟩
    have tkL := lock_tk (od := od) ed2
    have ldL := ld2.tk tkL
    have eL : (upd H2 d (.frz od (.dK kvs))) d = some (.frz od (.dK kvs)) := upd_same
    have fnm : ∀ m ∈ q, NameOk m.name := fun m hm => pj.sm.nm m (sub m hm)
    refine lce_keys (it := fun i => .str (q[i]?.getD d0).name) (b := fun i => !((q[i]?.getD d0).imps.any fun o => decide (o ∈ nms q))) (f := fun i => .str (q[i]?.getD d0).name) (pu_var rfl) eL (by rw [ld2.len]; omega) (fun i kk vv e => ?_) (fun _ => rfl) (fun i H3 hi k3 => ?_) (fun i H3 hi k3 _ => (pu_var rfl).ke) fun f2 H3 k3 nf2 ef2 => ?_
    · have hi : i < q.length := by
        rw [← ld2.len]
        exact (List.getElem?_eq_some_iff.mp e).1
      have eq : q[i]? = some q[i] := List.getElem?_eq_getElem hi
      obtain ⟨u, eu, _⟩ := ld2.at eq
      rw [e] at eu
      cases eu
      rw [eq]
      rfl
    · have hi2 : i < q.length := by
        rw [← ld2.len]
        exact hi
      have eq : q[i]? = some q[i] := List.getElem?_eq_getElem hi2
      rw [eq]
      have hm : q[i] ∈ q := List.mem_of_getElem? eq
      obtain ⟨m', u, em', ev, su⟩ := ldL.get (n := q[i].name) (List.mem_map_of_mem hm)
      rw [modAt_of ndq hm] at em'
      cases em'
      have su3 := k3.sqt (by simp) su
      have e3 := k3 d _ (by simp) eL
      have dg : ∀ (n : Str) H4, H4 d = some (.frz od (.dK kvs)) → DGet H4 d (.str n) (valV kvs (.inr n)) := fun n H4 e => .inl ⟨kvs, .inr n, .inr ⟨od, e⟩, rfl, rfl⟩
      have pd : Pu (tDGet (tVar 1) (tVar 3)) ((wipe [some v, some (.ref d), some (.ref f'), z3, z4, z5, z6] [3]).set 3 (some (.str (Option.getD (some q[i]) d0).name))) H3 (.ref u) := fun Q qq => ⟨_, rfl, _, rfl, d, _, rfl, ev ▸ dg _ H3 e3, qq⟩
      have e0 : ((Option.getD (some q[i]) d0).imps.any fun o => decide (o ∈ nms q)) = (List.range (q[i].imps.map V.str).length).any fun j => decide ((q[i].imps[j]?.getD Str.empty) ∈ nms q) := by
        show (q[i].imps.any fun o => decide (o ∈ nms q)) = _
        rw [List.length_map, Bool.eq_iff_iff, List.any_eq_true, List.any_eq_true]
        constructor
        · rintro ⟨o, ho, hb⟩
          obtain ⟨j, hj⟩ := List.mem_iff_getElem?.mp ho
          exact ⟨j, List.mem_range.mpr (List.getElem?_eq_some_iff.mp hj).1, by rw [hj]; exact hb⟩
        · rintro ⟨j, hj, hb⟩
          have ej : q[i].imps[j]? = some (q[i].imps[j]'(List.mem_range.mp hj)) := List.getElem?_eq_getElem (List.mem_range.mp hj)
          rw [ej] at hb
          exact ⟨_, List.mem_of_getElem? ej, hb⟩
      rw [e0]
      refine ket_not (ket_B (ke_any (it := fun j => .str (q[i].imps[j]?.getD Str.empty)) pd su3 ?_ (fun j x ej => ?_) (fun _ => rfl) fun j H4 hj k4 => ?_))
      · rw [List.length_map]
        have := pj.wf.il _ (sub _ hm)
        omega
      · obtain ⟨o, eo, rfl⟩ := ex_map ej
        rw [eo]
        rfl
      · refine Pu.ke fun Q qq => ⟨_, rfl, _, rfl, d, _, rfl, dg _ H4 (k4 d _ (by simp) e3), ?_⟩
        rw [ld.has]
        exact qq
    · obtain ⟨eb, kb⟩ := lock_back ed2 k3
      refine ⟨eb, ?_⟩
      have el2 : (((List.range kvs.length).filter fun i => !((q[i]?.getD d0).imps.any fun o => decide (o ∈ nms q))).map fun i => V.str (q[i]?.getD d0).name) = (nms (frees q)).map V.str := by
        rw [ld2.len, range_pick q d0 (fun m => !(m.imps.any fun o => decide (o ∈ nms q))) (fun m => V.str m.name)]
        unfold nms frees
        rw [List.map_map]
        rfl
      rw [el2] at ef2
      have fd : f2 ≠ d := fun z => by
        rw [z, eL] at nf2
        cases nf2
      have sf2 : SqL K (upd H3 d (.dK kvs)) f2 ((nms (frees q)).map V.str) := .inl (.inl (by rw [upd_ne fd]; exact ef2))
      have k4 := k2.trans kb
      have ld4 := ld2.tk kb.tk
      have ed4 : (upd H3 d (.dK kvs)) d = some (.dK kvs) := upd_same
      have nf4 : H0 f2 = none := (k2.trans (Keep.refl (H := H2))).back (by simp) (by rw [upd_ne fd] at nf2; exact nf2)
      generalize upd H3 d (.dK kvs) = H4 at kb sf2 k4 ld4 ed4 ⊢
      have fsub : ∀ n ∈ nms (frees q), n ∈ nms q := fun n hn => by
        obtain ⟨m, hm, rfl⟩ := List.mem_map.mp hn
        exact List.mem_map_of_mem (List.mem_filter.mp hm).1
      have fnd : (nms (frees q)).Nodup := (List.filter_sublist.map _).nodup ndq
      show tFor (iList K (tVar 2)) (gName 3) (tDrop (tDPop1 (tVar 1) (tVar 3))) _ _ _
      refine ⟨.ref f2, rfl, f2, rfl, ⟨_, sf2⟩, for_list (xs := (nms (frees q)).map V.str) (fun i σ' H' => ∃ z3, σ' = [some v, some (.ref d), some (.ref f2), z3, z4, z5, z6] ∧ Keep [d] H4 H' ∧ ∃ kvs', H' d = some (.dK kvs') ∧ LDv K H' kvs' (q.filter fun m => decide (m.name ∉ (nms (frees q)).take i))) ⟨_, rfl, .refl, kvs, ed4, by rw [List.filter_eq_self.mpr (fun m _ => by simp)]; exact ld4⟩ (fun i σ' H' _ ⟨_, _, kp, _⟩ => kp.sql (by simpa using fd) sf2) ?_ ?_⟩
      · rintro i x σ' H5 ex ⟨z3', rfl, k5, kvs', ed5, ld5⟩
        obtain ⟨n, en, rfl⟩ := ex_map ex
        have hnq : n ∈ nms (q.filter fun m => decide (m.name ∉ (nms (frees q)).take i)) := by
          obtain ⟨m, hm, rfl⟩ := List.mem_map.mp (fsub n (List.mem_of_getElem? en))
          exact List.mem_map_of_mem (List.mem_filter.mpr ⟨hm, decide_eq_true (fresh_at fnd en)⟩)
        obtain ⟨m, u, em, ev, su⟩ := ld5.get hnq
        refine ad_drop ⟨_, rfl, d, rfl, .inl ⟨kvs', .inl ed5⟩, _, rfl, kvs', .inr n, _, ed5, rfl, ev, ?_⟩
        have kd : Keep [d] H5 (upd H5 d (.dK (dropK kvs' (.inr n)))) := Keep.refl.put (.inl (by simp))
        have td : TKeep H5 (upd H5 d (.dK (dropK kvs' (.inr n)))) := fun b => by
          by_cases z : b = d
          · subst z
            rw [ed5]
            exact ⟨fun _ z => (by cases z), fun _ _ z => (by cases z)⟩
          · rw [upd_ne z]
            exact ⟨fun _ z => z, fun _ _ z => z⟩
        refine ⟨_, rfl, k5.trans kd, _, upd_same, ?_⟩
        rw [take_snoc en, ← filter_notin_all]
        exact (ld5.drop).tk td
      · rintro σ' H5 ⟨z3', rfl, k5, kvs', ed5, ld5⟩
        rw [List.length_map, List.take_length] at ld5
        have k05 : Keep [] H0 H5 := k4.drop k5 nd
        refine ⟨_, ?_, f2, nms (frees q), (q.filter fun m => decide (m.name ∉ nms (frees q))), _, _, _, _, rfl, k05, fun m hm => sub m (List.mem_filter.mp hm).1, (List.filter_sublist.map _).nodup ndq, tk.step ndp sub pj.wf.inn, fun e0 => ?_, k5.sql (by simpa using fd) sf2, fun z hz => ?_, ⟨kvs', ed5, ld5⟩, Nat.le_trans (List.length_filter_le _ _) ql, rfl⟩
        · by_cases ee : nms (frees q) = []
          · rw [if_pos ee]
            have := List.length_filter_le (fun m : Mod => decide (m.name ∉ nms (frees q))) q
            omega
          · rw [if_neg ee]
            have lt : (q.filter fun m => decide (m.name ∉ nms (frees q))).length < q.length := by
              refine Nat.lt_of_le_of_ne (List.length_filter_le _ _) fun z => ?_
              have all := List.length_filter_eq_length_iff.mp z
              cases ef : frees q with
              | nil => exact ee (by rw [ef]; rfl)
              | cons m r =>
                have hm : m ∈ frees q := by rw [ef]; exact List.mem_cons_self
                have := of_decide_eq_true (all m (List.mem_filter.mp hm).1)
                exact this (List.mem_map_of_mem hm)
            omega
        · have ef : frees q = [] := List.map_eq_nil_iff.mp e0
          have : (q.filter fun m => decide (m.name ∉ nms (frees q))) = q := List.filter_eq_self.mpr fun m _ => by rw [e0]; rfl
          rw [this]
          exact ef
        · obtain ⟨m, hm, rfl⟩ := List.mem_map.mp hz
          exact (fnm m (List.mem_filter.mp hm).1).asci
end
end GL

set_option Elab.async false
set_option linter.all false
set_option maxRecDepth 100000
set_option maxHeartbeats 4000000
set_option exponentiation.threshold 100000
namespace GL
open PySem PySem.Spec PyProof.Rows L2
local macro_rules | `(tactic| walk_at "pu") => `(tactic| repeat' (first
  | ((with_reducible apply pu_var); rfl) | with_reducible exact pu_c | with_reducible exact pua_nil | ((with_reducible apply pur_i0); rfl) | with_reducible exact puu_neg | with_reducible exact puc_abs | with_reducible exact puc_intB
  | with_reducible exact puc_min | with_reducible exact puc_max | with_reducible exact puo_none
  | with_reducible apply pu_op | with_reducible apply pu_cb | with_reducible apply pua_cons | with_reducible refine put_test ?_ | with_reducible refine put_B ?_ | with_reducible refine put_not ?_ | with_reducible refine pu_notV ?_
  | with_reducible apply pu_un | with_reducible refine puo_some ?_ | ((with_reducible apply pur_i); rfl) | with_reducible exact pur_eq rfl | with_reducible exact pur_ne rfl | exact puc_lenL (by assumption) | exact puc_lenT (by assumption)
  | ((with_reducible apply pur_ixL); assumption) | ((with_reducible apply pur_ixT); assumption) | with_reducible apply pur_ixS | with_reducible apply pur_str))
local macro_rules | `(tactic| walk_at "side") => `(tactic| first
  | exact (show (0 : Int) < _ by decide) | exact Or.inl ⟨by decide, by decide⟩ | exact Or.inr ⟨by decide, by decide⟩ | exact Or.inl ⟨by omega, by omega⟩ | exact Or.inr ⟨by omega, by omega⟩
  | exact ⟨by decide, by decide, by decide⟩ | exact ⟨by decide, by decide⟩ | assumption | omega | exact ⟨by decide, by decide +kernel⟩)
open RM
theorem atI_last {α : Type} {ys : List α} {x : α} : atI (ys ++ [x]) (-1) = some x := by
  unfold atI ixN
  have hl : (ys ++ [x]).length = ys.length + 1 := by simp
  rw [if_neg (by decide), hl, if_pos (by omega)]
  show (ys ++ [x])[((-1 : Int) + ((ys.length + 1 : Nat) : Int)).toNat]? = some x
  rw [show ((-1 : Int) + ((ys.length + 1 : Nat) : Int)).toNat = ys.length by omega]
  simp
theorem sIx_m1 (n d : Nat) : HT.sIx n d (some (-1)) = n - 1 := by
  show (if (-1 : Int) < 0 then ((-1 : Int) + (n : Int)).toNat else min (-1 : Int).toNat n) = n - 1
  rw [if_pos (by decide)]
  omega
theorem cut_init {ys : List V} {x : V} : cutV (ys ++ [x]) none (some (-1)) = ys := by
  unfold cutV
  rw [sIx_m1, HT.sIx_none]
  simp
theorem cut_mid {ys : List V} {x : V} {j : Nat} (h : j ≤ ys.length) : cutV (ys ++ [x]) (some (j : Int)) (some (-1)) = ys.drop j := by
  unfold cutV
  rw [sIx_m1, HT.sIx_nat]
  have e : min j (ys ++ [x]).length = j := by simp; omega
  rw [e, List.drop_append_of_le_length h]
  refine List.take_left' ?_
  simp
/-- what is left of a project where nothing is free -/
structure Lft (p q : List Mod) : Prop where
  sub : ∀ m ∈ q, m ∈ p
  nd : (nms q).Nodup
  fr : frees q = []
theorem Lft.next {p q : List Mod} (h : Lft p q) {m : Mod} (hm : m ∈ q) : (m.imps.filter fun i => decide (i ∈ nms q)) ≠ [] := fun z => by
  have : m ∈ frees q := List.mem_filter.mpr ⟨hm, by
    simp only [Bool.not_eq_true', List.any_eq_false]
    intro i hi hb
    have : i ∈ m.imps.filter fun i => decide (i ∈ nms q) := List.mem_filter.mpr ⟨hi, hb⟩
    rw [z] at this
    cases this⟩
  rw [h.fr] at this
  cases this
section
variable {K : PySem.W.Frag}
theorem pu_m1 {σ : L2.St} {H : Hp} : Pu (tUn rNeg (tC (.int 1))) σ H (.int (-1)) := pu_un pu_c puu_neg
theorem pure_cycRow {H H0 : Hp} {Q : VK} {v y2 : V} {d w : Addr} {p q : List Mod} {x0 : Str} {y3 y5 y6 : Option V} (pj : Pj p) (kB : Keep [] H0 H) (nw : H0 w = none) (lf : Lft p q) (ql : q.length ≤ p.length) (hd : ∃ kvs, H d = some (.dK kvs) ∧ LDv K H kvs q) (hx : x0 ∈ nms q) (ew : H w = some (.lst [.str x0]))
    (k : ∀ H' r rs, Keep [] H0 H' → H0 r = none → Fz H' r (rs.map V.str) → CycRow p rs → Q (.ref r) H') :
    t_cycRow K { nx := fun _ H' => Q .non H', rt := Q } [some v, some (.ref d), some y2, y3, some (.ref w), y5, y6] H := by
  have ndp := pj.wf.nd
  have pl := pj.wf.pl
  obtain ⟨kvs, ed, ld⟩ := hd
  have dw : d ≠ w := fun z => by
    rw [z, ew] at ed
    cases ed
  unfold t_cycRow
  have last : ∀ {ys : List Str} {x : Str} {H' : Hp}, H' w = some (.lst ((ys ++ [x]).map V.str)) → ∀ {z5 z6 z3}, Pu (tOp (rIxL K) (tVar 4) (tUn rNeg (tC (.int 1)))) [some v, some (.ref d), some y2, z3, some (.ref w), z5, z6] H' (.str x) := fun {ys x H'} e {z5 z6 z3} => by
    refine pu_op (pu_var rfl) pu_m1 (pur_ixL (.inl (.inl e)) ?_)
    rw [List.map_append]
    exact atI_last
  refine su_seq ?_
  refine ⟨fun mz σ' H' => ∃ (ys : List Str) (x : Str) (z6 : Option V), σ' = [some v, some (.ref d), some y2, y3, some (.ref w), y5, z6] ∧ Keep [w] H H' ∧ H' w = some (.lst ((ys ++ [x]).map V.str)) ∧ ys.Nodup ∧ (∀ y ∈ ys ++ [x], y ∈ nms q) ∧ (∀ (i : Nat) a b, (ys ++ [x])[i]? = some a → (ys ++ [x])[i + 1]? = some b → b ∈ impOf p a) ∧ mz = q.length - ys.length,
    ⟨_, [], x0, _, rfl, .refl, ew, List.nodup_nil, by simpa using hx, (fun i a b e1 e2 => by simp at e2), rfl⟩, ?_⟩
  rintro mz σ' H1 ⟨ys, x, z6, rfl, k1, e1, ndy, inn, chain, hmz⟩
  have ysl : ys.length ≤ q.length := by
    have := nodup_le ndy (fun y hy => inn y (List.mem_append_left _ hy))
    unfold nms at this
    rwa [List.length_map] at this
  have hxq : x ∈ nms q := inn x (by simp)
  have ed1 : H1 d = some (.dK kvs) := k1 d _ (by simpa using dw) ed
  have tk1 : TKeep H H1 := k1.tk1 ew
  have ld1 := ld.tk tk1
  have k01 : Keep [] H0 H1 := kB.drop k1 nw
  refine (show (tOp _ _ _) _ _ _ from ?_)
  refine last e1 _ (ad_sl ?_)
  refine (pu_var rfl : Pu _ _ _ (.ref w)) _ (ad_nop ?_)
  refine pu_m1 _ ⟨_, rfl, w, _, rfl, .inl (.inl e1), fun c nc => ?_⟩
  rw [List.map_append, List.map_cons, List.map_nil, cut_init]
  have kc : Keep [] H1 (upd H1 c (.lst (ys.map V.str))) := .new nc
  have sc : SqL K (upd H1 c (.lst (ys.map V.str))) c (ys.map V.str) := .inl (.inl upd_same)
  generalize upd H1 c (.lst (ys.map V.str)) = H2 at kc sc ⊢
  refine pur_notin (.inr sc) _ ⟨_, rfl, ?_⟩
  have e2 := kc w _ (by simp) e1
  have ed2 := kc d _ (by simp) ed1
  have ld2 := ld1.tk kc.tk
  have k2 : Keep [w] H H2 := k1.trans kc.of0
  by_cases hm : x ∈ ys
  · rw [decide_eq_true hm]
    obtain ⟨j, hj⟩ := List.mem_iff_getElem?.mp hm
    have hjl : j < ys.length := (List.getElem?_eq_some_iff.mp hj).1
    show tRet (tCB (rTupZ K) (tCons (tSl (rSlL K) (tVar 4) (tPart (tBM K "list" (rIndex K) (tVar 4) (tCons (tOp (rIxL K) (tVar 4) (tUn rNeg (tC (.int 1)))) tNil))) (tPart (tUn rNeg (tC (.int 1))))) tNil)) { nx := fun _ H' => Q .non H', rt := Q } [some v, some (.ref d), some y2, y3, some (.ref w), y5, z6] H2
    refine su_retE (al_cons (ad_sl ?_))
    refine (pu_var rfl : Pu _ _ _ (.ref w)) _ (ad_part ?_)
    refine al_bm (x := .ref w) (pu_var rfl) (.inl ⟨rfl, _, .inl (.inl e2)⟩) (ac_pu (last e2) (ac_nil ?_))
    refine ⟨w, (ys ++ [x]).map V.str, .str x, j, .str x, rfl, rfl, .inl (.inl e2), rfl, flat_strs _, ?_, ?_, fun m z' hm' ez => ?_, ?_⟩
    · rw [List.getElem?_map, List.getElem?_append_left hjl, hj]
      rfl
    · simp [eqV]
    · obtain ⟨s, es, rfl⟩ := ex_map ez
      rw [List.getElem?_append_left (by omega)] at es
      have ne : ¬ s = x := fun z => by
        subst z
        have := (List.getElem?_inj (by omega) ndy).mp (es.trans hj.symm)
        omega
      simp [eqV, ne]
    · refine ⟨(j : Int), rfl, ad_part (pu_m1 _ ⟨_, rfl, w, _, rfl, .inl (.inl e2), fun c2 nc2 => ?_⟩)⟩
      rw [List.map_append, List.map_cons, List.map_nil, cut_mid (by rw [List.length_map]; omega)]
      refine ac_nil ⟨c2, _, rfl, .inl (.inl upd_same), fun r o d1 c1 nr => ?_⟩
      have k03 : Keep [] H0 (upd H2 c2 (.lst ((ys.map V.str).drop j))) := (kB.drop k2 nw).trans (.new nc2)
      refine k _ r (ys.drop j) (k03.trans (.new nr)) (k03.back (by simp) nr) ⟨o, d1, c1, by rw [upd_same, List.map_drop]⟩ ⟨?_, ndy.sublist (List.drop_sublist _ _), fun y hy => ?_, fun i a b ea eb => ?_⟩
      · intro z
        have := congrArg List.length z
        rw [List.length_drop, List.length_nil] at this
        omega
      · obtain ⟨mm, hmm, rfl⟩ := List.mem_map.mp (inn y (List.mem_append_left _ (List.mem_of_mem_drop hy)))
        exact List.mem_map_of_mem (lf.sub mm hmm)
      · rw [List.getElem?_drop] at ea eb
        have hal : j + i < ys.length := (List.getElem?_eq_some_iff.mp ea).1
        rw [List.length_drop] at eb
        by_cases hi : i + 1 < ys.length - j
        · rw [Nat.mod_eq_of_lt hi] at eb
          refine chain (j + i) a b ?_ ?_
          · rw [List.getElem?_append_left hal]
            exact ea
          · rw [List.getElem?_append_left (by omega)]
            exact eb
        · have hi2 : i + 1 = ys.length - j := by omega
          rw [hi2, Nat.mod_self, Nat.add_zero, hj] at eb
          cases eb
          refine chain (j + i) a x ?_ ?_
          · rw [List.getElem?_append_left hal]
            exact ea
          · rw [List.getElem?_append_right (by omega), show j + i + 1 - ys.length = 0 by omega]
            rfl
  · rw [decide_eq_false hm]
    refine (show ∃ N : L2.St → Hp → Prop, (∀ σ' H', N σ' H' → _) ∧ _ from ⟨fun σ' H' => ∃ mz', mz' < mz ∧ ∃ (ys : List Str) (x : Str) (z6 : Option V), σ' = [some v, some (.ref d), some y2, y3, some (.ref w), y5, z6] ∧ Keep [w] H H' ∧ H' w = some (.lst ((ys ++ [x]).map V.str)) ∧ ys.Nodup ∧ (∀ y ∈ ys ++ [x], y ∈ nms q) ∧ (∀ (i : Nat) a b, (ys ++ [x])[i]? = some a → (ys ++ [x])[i + 1]? = some b → b ∈ impOf p a) ∧ mz' = q.length - ys.length, fun σ' H' h => h, ?_⟩)
    obtain ⟨m, u, em, ev, su⟩ := ld2.get hxq
    have hmq : m ∈ q := List.mem_of_find?_eq_some em
    have mn : m.name = x := by simpa using List.find?_some em
    have ei : impOf p x = m.imps := by
      rw [← mn]
      exact impOf_of ndp (lf.sub m hmq)
    have il := pj.wf.il m (lf.sub m hmq)
    refine ad_drop (al_bm (x := .ref w) (pu_var rfl) (.inl ⟨rfl, _, .inl (.inl e2)⟩) (al_cons (al_op ?_)))
    refine lcp_tup (xs := m.imps.map V.str) (it := fun i => .str (m.imps[i]?.getD Str.empty)) (b := fun i => decide ((m.imps[i]?.getD Str.empty) ∈ nms q)) (f := fun i => .str (m.imps[i]?.getD Str.empty)) (pu_dget (pu_var rfl) (last e2) ed2 ev) su (by rw [List.length_map]; omega) (fun i x e => ?_) (fun _ => rfl) (fun i H3 hi k3 => ?_) (fun i H3 hi k3 _ => pu_var rfl) fun D2 H3 k3 nD2 eD2 => ?_
    · obtain ⟨z, ez, rfl⟩ := ex_map e
      rw [ez]
      rfl
    · refine put_is (put_B (pu_din (pu_var rfl) (pu_var rfl) (k3 d _ (by simp) ed2))) ?_
      exact ld.has _
    · rw [List.length_map, range_pick m.imps Str.empty (fun o => decide (o ∈ nms q)) V.str] at eD2
      cases eo : m.imps.filter fun o => decide (o ∈ nms q) with
      | nil => exact absurd eo (lf.next hmq)
      | cons o r =>
        rw [eo] at eD2
        have ho : o ∈ m.imps.filter fun o => decide (o ∈ nms q) := by rw [eo]; exact List.mem_cons_self
        have ho2 := List.mem_filter.mp ho
        refine (pu_c : Pu (tC (.int 0)) _ _ _) _ ⟨D2, _, 0, .str o, rfl, rfl, .inl (.inl eD2), atI_zero, ac_nil ?_⟩
        have e3 := k3 w _ (by simp) e2
        refine ⟨w, _, _, rfl, rfl, e3, ?_, ?_⟩
        · rw [List.length_map, List.length_append]
          exact szl (by simp; omega)
        have ysl2 : (ys ++ [x]).length ≤ q.length := by
          have nd2 : (ys ++ [x]).Nodup := by
            rw [List.nodup_append]
            exact ⟨ndy, by simp, fun a ha b hb => by rw [List.mem_singleton.mp hb]; exact fun z => hm (z ▸ ha)⟩
          have := nodup_le nd2 inn
          unfold nms at this
          rwa [List.length_map] at this
        refine ⟨q.length - (ys ++ [x]).length, ?_, ys ++ [x], o, _, rfl, (k2.trans k3.of0).put (.inl (by simp)), by rw [upd_same]; simp, ?_, fun y hy => ?_, fun i a b ea eb => ?_, rfl⟩
        · rw [hmz]
          simp at ysl2 ⊢
          omega
        · rw [List.nodup_append]
          exact ⟨ndy, by simp, fun a ha b hb => by rw [List.mem_singleton.mp hb]; exact fun z => hm (z ▸ ha)⟩
        · rcases List.mem_append.mp hy with h | h
          · exact inn y h
          · rw [List.mem_singleton.mp h]
            exact of_decide_eq_true ho2.2
        · by_cases hb : i + 1 < (ys ++ [x]).length
          · rw [List.getElem?_append_left (by omega)] at ea
            rw [List.getElem?_append_left hb] at eb
            exact chain i a b ea eb
          · rw [List.getElem?_append_right (by omega)] at eb
            have hz : i + 1 - (ys ++ [x]).length = 0 := by
              refine Nat.eq_zero_of_not_pos fun hp => ?_
              rw [List.getElem?_eq_none (by simp at hp ⊢; omega)] at eb
              cases eb
            rw [hz] at eb
            cases eb
            have hi : i = ys.length := by
              simp at hb hz
              omega
            rw [List.getElem?_append_left (by rw [hi]; simp), hi] at ea
            have : a = x := by
              simp at ea
              exact ea.symm
            rw [this, ei]
            exact ho2.1
theorem pure_cycle (vs : List V) (H : Hp) (Q : VK) (E : XK) (h : spCycle K vs H Q E) : t_cycle K { nx := fun _ H' => Q .non H', rt := Q } (vs.map some ++ [none, none, none, none, none, none]) H := by
  obtain ⟨v, p, rfl, hd, pj, q1, q2⟩ := h
  have wf := pj.wf
  have pl := wf.pl
  have nd := wf.nd
  obtain ⟨t, xs, rfl, h1, h2⟩ := dp_proj hd
  have xl : xs.length = p.length := by rw [dpAll_len h2, List.length_map]
  unfold t_cycle
  refine sq_do (ad_tup (al_cons ?_))
  refine ⟨_, rfl, t, rfl, ⟨xs, h1⟩, fun D nD => ?_⟩
  refine dc_tup (xs := xs) (fun i H' => Keep [] H H' ∧ ∃ kvs, H' D = some (.dK kvs) ∧ LDv K H' kvs (p.take i)) ⟨.new nD, [], upd_same, by simpa [LDv] using Paired.nil⟩ (fun i H' _ p => p.1.sqt (by simp) h1) ?_ fun H1 ⟨k1, kvs, e1, r1⟩ => ?_
  · rintro i x H' ex ⟨k, kvs, e, r⟩
    obtain ⟨m, em, dm⟩ := dpAll_at h2 ex
    have dm' := dp_mod_tk dm k.tk
    obtain ⟨tm, um, rfl, m1, m2⟩ := dp_mod dm'
    refine ⟨rfl, ?_⟩
    have nv : valV kvs (.inr m.name) = none := by
      have hh := LDv.has r m.name
      have c : m.name ∉ nms (p.take i) := by
        rw [nms_take]
        exact fresh_at nd (by simp [nms, em])
      rw [decide_eq_false c] at hh
      cases ev : valV kvs (.inr m.name) with
      | none => rfl
      | some w => rw [ev] at hh; cases hh
    refine (pu_op (pu_var rfl) pu_c (pur_ixT m1 rfl) : Pu _ _ _ (.str m.name)) _ ((pu_op (pu_var rfl) pu_c (pur_ixT m1 rfl) : Pu _ _ _ (.ref um)) _ ⟨kvs, .inr m.name, rfl, e, ?_, ?_⟩)
    · have : kvs.length ≤ 1000 := by
        rw [LDv.len r, List.length_take]
        omega
      exact szl (by omega)
    · refine ⟨k.put (.inr nD), _, upd_same, ?_⟩
      rw [putK_new nv, take_snoc em]
      have ktt : TKeep H' (upd H' D (.dK (kvs ++ [(.inr m.name, .ref um)]))) := fun b => by
        by_cases eb : b = D
        · subst eb
          rw [e]
          exact ⟨fun _ z => (by cases z), fun _ _ z => (by cases z)⟩
        · rw [upd_ne eb]
          exact ⟨fun _ z => z, fun _ _ z => z⟩
      exact Paired.snoc (LDv.tk r ktt) ⟨rfl, um, rfl, ktt.sqt m2⟩
  rw [xl, List.take_length] at r1
  refine ac_lst (vs := [.str ""]) (pua_cons pu_c pua_nil) (by show 1 ≤ sizeLine; decide) fun f nf => ac_nil ⟨by show 2 ≤ sizeLine; decide, fun c nc => g_tup2 (.inl (.inl upd_same)) ?_⟩
  have k2 : Keep [] H1 (upd (upd H1 f (.lst [.str ""])) c (.tup [.ref D, .ref f])) := Keep.trans (.new nf) (.new nc)
  have ef : (upd (upd H1 f (.lst [.str ""])) c (.tup [.ref D, .ref f])) f = some (.lst [.str ""]) := by
    have : f ≠ c := fun z => by
      rw [← z, upd_same] at nc
      cases nc
    rw [upd_ne this, upd_same]
  generalize upd (upd H1 f (.lst [.str ""])) c (.tup [.ref D, .ref f]) = H2 at k2 ef ⊢
  refine su_seq (pure_cycLoop pj (k1.trans k2) nD ⟨kvs, k2 D _ (by simp) e1, LDv.tk r1 k2.tk⟩ (.inl (.inl ef)) fun H3 f' q z3 z4 z5 z6 k3 sub ndq tk fr ⟨kvs3, e3, ld3⟩ ql => ?_)
  show tSeq (tIfS (tTest (tOp (rD0 false) (tVar 1) tDNewK)) (tRet (tC V.non)) tNext) (tSeq (tAsg (tLst (tCons (tOp (rIxL K) (tCB rSortedDk (tCons (tVar 1) tNil)) (tC (V.int 0))) tNil)) (gName 4)) (t_cycRow K)) { nx := fun x H' => Q V.non H', rt := Q } [some (V.ref t), some (V.ref D), some (V.ref f'), z3, z4, z5, z6] H3
  refine al_opV rfl fun c nc => ?_
  have kc : Keep [] H3 (upd H3 c (.dK [])) := .new nc
  have ec : (upd H3 c (.dK [])) c = some (.dK []) := upd_same
  generalize upd H3 c (.dK []) = H4 at kc ec ⊢
  have e4 := kc D _ (by simp) e3
  have ld4 := LDv.tk ld3 kc.tk
  have k4 := k3.trans kc
  refine ⟨D, c, kvs3, rfl, rfl, e4, ec, _, rfl, ?_⟩
  cases q with
  | nil =>
    cases ld3
    refine su_ret pu_c (q1 H4 k4 ?_)
    obtain ⟨rk, hr⟩ := tk
    exact ⟨rk, fun m hm i hi => (hr m hm (fun z => by cases z) i hi).2⟩
  | cons m0 qr =>
    have kne : kvs3.isEmpty = false := by
      cases ld3
      rfl
    rw [kne]
    show tSeq (tAsg (tLst (tCons (tOp (rIxL K) (tCB rSortedDk (tCons (tVar 1) tNil)) (tC (V.int 0))) tNil)) (gName 4)) (t_cycRow K) { nx := fun x H' => Q V.non H', rt := Q } [some (V.ref t), some (V.ref D), some (V.ref f'), z3, z4, z5, z6] H4
    have lf : Lft p (m0 :: qr) := ⟨sub, ndq, fr⟩
    refine sq_doN (al_cons (al_op (al_cons ?_)))
    refine ⟨_, rfl, ac_nil ⟨D, kvs3, nms (m0 :: qr), rfl, .inl e4, LDv.keys ld4, ?_, fun ys s pm so ns => ?_⟩⟩
    · unfold nms
      rw [List.length_map]
      simp at ql ⊢
      omega
    cases ys with
    | nil => exact absurd pm.length_eq (by simp [nms])
    | cons x0 yr =>
      have hx0 : x0 ∈ nms (m0 :: qr) := pm.mem_iff.mp List.mem_cons_self
      refine (pu_c : Pu (tC (.int 0)) _ _ _) _ ⟨s, _, 0, .str x0, rfl, rfl, .inl (.inl upd_same), atI_zero, ac_nil ⟨by show 1 ≤ sizeLine; decide, fun w nw => ?_⟩⟩
      have k5 : Keep [] H4 (upd (upd H4 s (.lst ((x0 :: yr).map V.str))) w (.lst [.str x0])) := Keep.trans (.new ns) (.new nw)
      have nwH : H w = none := (k4.trans (Keep.new ns)).back (by simp) nw
      exact pure_cycRow pj (k4.trans k5) nwH lf ql ⟨kvs3, k5 D _ (by simp) e4, LDv.tk ld4 k5.tk⟩ hx0 upd_same q2
end
end GL

set_option Elab.async false
set_option linter.all false
set_option maxRecDepth 100000
set_option maxHeartbeats 4000000
set_option exponentiation.threshold 100000
namespace GL
open PySem PySem.Spec PyProof.Rows L2
local macro_rules | `(tactic| walk_at "pu") => `(tactic| repeat' (first
  | ((with_reducible apply pu_var); rfl) | with_reducible exact pu_c | with_reducible exact pua_nil | ((with_reducible apply pur_i0); rfl) | with_reducible exact puu_neg | with_reducible exact puc_abs | with_reducible exact puc_intB
  | with_reducible exact puc_min | with_reducible exact puc_max | with_reducible exact puo_none
  | with_reducible apply pu_op | with_reducible apply pu_cb | with_reducible apply pua_cons | with_reducible refine put_test ?_ | with_reducible refine put_B ?_ | with_reducible refine put_not ?_ | with_reducible refine pu_notV ?_
  | with_reducible apply pu_un | with_reducible refine puo_some ?_ | ((with_reducible apply pur_i); rfl) | with_reducible exact pur_eq rfl | with_reducible exact pur_ne rfl | exact puc_lenL (by assumption) | exact puc_lenT (by assumption)
  | ((with_reducible apply pur_ixL); assumption) | ((with_reducible apply pur_ixT); assumption) | with_reducible apply pur_ixS | with_reducible apply pur_str))
local macro_rules | `(tactic| walk_at "side") => `(tactic| first
  | exact (show (0 : Int) < _ by decide) | exact Or.inl ⟨by decide, by decide⟩ | exact Or.inr ⟨by decide, by decide⟩ | exact Or.inl ⟨by omega, by omega⟩ | exact Or.inr ⟨by omega, by omega⟩
  | exact ⟨by decide, by decide, by decide⟩ | exact ⟨by decide, by decide⟩ | assumption | omega | exact ⟨by decide, by decide +kernel⟩)
open RM RZ
/-! ### shows_cycle of a tuple of names of modules -/
/-- each of rs imports the next one, the last one the first -/
def cw (p : List Mod) (rs : List Str) : Bool := (List.range rs.length).all fun i => decide ((rs[(i + 1) % rs.length]?.getD Str.empty) ∈ impOf p (rs[i]?.getD Str.empty))
def spShowsCyc (K : PySem.W.Frag) : Sp := fun vs H Q _ => ∃ v a p, ∃ rs : List Str, vs = [v, .ref a] ∧ Dp K H v (projD p) ∧ Pj p ∧ SqT K H a (rs.map V.str) ∧ rs ≠ [] ∧ rs.length ≤ 1000 ∧ (∀ x ∈ rs, x ∈ nms p) ∧ ∀ H', Keep [] H H' → Q (.bl (cw p rs)) H'
def t_showsCyc (K : PySem.W.Frag) : TS :=
  (tSeq (tAsg (tCall (spByName K) [] E0 (tCons (tVar 0) tNil)) (gName 2))
    (tSeq (tIfS (tOr (tNot (tB (tCB (rIsi K) (tCons (tVar 1) (tCons (tC (.ty "tuple")) tNil))))) (tTest (tOp (rEqD K) (tVar 1) (tTup tNil)))) (tRet (tC (.bl false))) tNext)
    (tSeq (tIfS (tNot (tB (tCB (rAll K) (tCons (tLc (iTup K (tVar 1)) (gName 3) tYes (tAndV (tCB (rIsi K) (tCons (tVar 3) (tCons (tC (.ty "str")) tNil))) (tDIn (tVar 3) (tVar 2))) [3]) tNil)))) (tRet (tC (.bl false))) tNext)
    (tRet (tCB (rAll K) (tCons (tLc (iZipA K (tCons (tVar 1) (tCons (tOp (rCatA K) (tSl (rSlA K) (tVar 1) (tPart (tC (.int 1))) tNoPart) (tSl (rSlA K) (tVar 1) tNoPart (tPart (tC (.int 1))))) tNil))) (gTup K 2 (gCons (gName 3) (gCons (gName 4) gNil))) tYes (tOp (rIn K false) (tVar 4) (tOp (rIxT K) (tDGet (tVar 2) (tVar 3)) (tC (.int 1)))) [3, 4]) tNil))))))
theorem walk_zipT {K : PySem.W.Frag} {a b : Addr} {xs ys : List V} (hn : xs.length = ys.length) : Walk (ItzT K a b) xs.length (fun H => SqT K H a xs ∧ SqT K H b ys) (YPair (fun i => xs[i]?) (fun i => ys[i]?)) := by
  constructor
  · intro i H hi q
    exact ⟨xs, ys, xs[i], ys[i]'(by omega), q.1, q.2, List.getElem?_eq_getElem hi, List.getElem?_eq_getElem (by omega)⟩
  · intro H q
    exact ⟨xs, ys, q.1, q.2, .inl (Nat.le_refl _)⟩
  · rintro i H v H' _ q ⟨T, x, z, h1, h2, h3, h4, h5⟩
    exact ⟨T, x, z, h1, h2, h3, h4 xs q.1, h5 ys q.2⟩
theorem ad_catB {K : PySem.W.Frag} {H : Hp} {Q : VK} {a b : Addr} {xs ys : List V} (ha : SqT K H a xs) (hb : SqT K H b ys) (hl : xs.length + ys.length ≤ sizeLine) (q : ∀ H' r, Keep [] H H' → SqT K H' r (xs ++ ys) → Q (.ref r) H') : rCatA K (.ref a) (.ref b) H Q :=
  ⟨a, b, xs, ys, rfl, rfl, ha, hb, hl, fun e => q H b .refl (by rw [e]; exact hb), fun _ e => q H a .refl (by rw [e, List.append_nil]; exact ha), fun _ _ p np => q _ p (.new np) (.inl (.inl upd_same))⟩
theorem rot_at {rs : List Str} {i : Nat} (h : i < rs.length) : (rs.drop 1 ++ rs.take 1)[i]? = rs[(i + 1) % rs.length]? := by
  by_cases hi : i + 1 < rs.length
  · rw [List.getElem?_append_left (by rw [List.length_drop]; omega), List.getElem?_drop, Nat.mod_eq_of_lt hi, Nat.add_comm]
  · have e : i + 1 = rs.length := by omega
    rw [e, Nat.mod_self, List.getElem?_append_right (by rw [List.length_drop]; omega), List.length_drop, show i - (rs.length - 1) = 0 by omega, List.getElem?_take, if_pos (by decide)]
section
variable {K : PySem.W.Frag}
theorem pure_showsCyc (vs : List V) (H : Hp) (Q : VK) (E : XK) (h : spShowsCyc K vs H Q E) : t_showsCyc K { nx := fun _ H' => Q .non H', rt := Q } (vs.map some ++ [none, none, none]) H := by
  obtain ⟨v, a, p, rs, rfl, hd, pj, ha, ne, rl, inn, q⟩ := h
  have wf := pj.wf
  have pl := wf.pl
  unfold t_showsCyc
  refine sq_doN (ad_call (ac_var rfl (ac_nil ⟨v, p, rfl, hd, wf.nd, by omega, fun H1 d k1 nD md => ?_⟩)))
  have ha1 := k1.sqt (by simp) ha
  have hnm : ∀ z ∈ rs, NameOk z := fun z hz => pj.name (inn z hz)
  refine sq_ifK (b := !true || false) (ket_or (ket_not (ket_B (pu_isTup (pu_var rfl) ha1).ke)) fun _ H2 k2 => ket_test fun Q q => ?_) (fun z => by cases z) fun _ H2 k2 => sq_nx ?_
  · refine al_opV rfl (al_tup pua_nil (by decide) fun c nc => ?_)
    have kc : Keep [] H2 (upd H2 c (.tup [])) := .new nc
    refine ⟨sTup rs, sTup [], .tup ((k2.trans kc).sqt (by simp) ha1) (dp_strs _), .tup (.inl (.inl upd_same)) .nil, shaped_sTup hnm, shaped_sTup (fun _ h => by cases h), ?_⟩
    rw [Bool.eq_false_iff.mpr fun z => ne ((eqv_sTup _ _).mp z)]
    exact q _ kc
  have ha2 := k2.sqt (by simp) ha1
  obtain ⟨kvs, ek, mv⟩ := md
  refine sq_ifK (b := false) ?_ (fun z => by cases z) fun _ H3 k3 => sq_nx ?_
  · have e : false = !((List.range (rs.map V.str).length).all fun i => decide ((rs[i]?.getD Str.empty) ∈ nms p)) := by
      have : ((List.range (rs.map V.str).length).all fun i => decide ((rs[i]?.getD Str.empty) ∈ nms p)) = true := by
        rw [List.all_eq_true]
        intro i hi2
        rw [List.mem_range, List.length_map] at hi2
        have e1 : rs[i]? = some rs[i] := List.getElem?_eq_getElem hi2
        rw [e1]
        exact decide_eq_true (inn _ (List.mem_of_getElem? e1))
      rw [this]
      rfl
    rw [e]
    refine ket_not (ket_B (ke_all (it := fun i => .str (rs[i]?.getD Str.empty)) (f := fun i => decide ((rs[i]?.getD Str.empty) ∈ nms p)) (pu_var rfl) ha2 (by rw [List.length_map]; omega) (fun i x e => ?_) (fun _ => rfl) fun i H4 hi4 k4 => Pu.ke (pu_is (pu_andV (a := true) (pu_isStr (pu_var rfl)) fun _ => pu_din (pu_var rfl) (pu_var rfl) (k4 d _ (by simp) (k2 d _ (by simp) ek))) ?_)))
    · obtain ⟨z, e1, rfl⟩ := ex_map e
      rw [e1]
      rfl
    · rw [MD.isSome (d := d) mv]
      rfl
  have ha3 := k3.sqt (by simp) ha2
  have k03 := (k1.trans k2).trans k3
  have md3 : MD K H3 d p := MD.keep ⟨kvs, ek, mv⟩ (k2.trans k3) (by simp) (k2.trans k3).tk
  refine su_retE (al_cons ?_)
  refine ⟨_, rfl, ?_⟩
  refine al_cons (al_op (ad_sl ?_))
  refine ⟨_, rfl, (pu_c : Pu (tC (.int 1)) _ _ _) _ ⟨1, rfl, ad_nop (ad_slA (lo := some 1) (hi := none) ha3 fun H4 r4 k4 s4 => ?_)⟩⟩
  rw [show (1 : Int) = ((1 : Nat) : Int) by rfl, cut_drop _ (by rw [List.length_map]; exact List.length_pos_iff.mpr ne)] at s4
  refine ad_sl ⟨_, rfl, ad_nop ((pu_c : Pu (tC (.int 1)) _ _ _) _ ⟨1, rfl, ad_slA (lo := none) (hi := some 1) (k4.sqt (by simp) ha3) fun H5 r5 k5 s5 => ?_⟩)⟩
  rw [show (1 : Int) = ((1 : Nat) : Int) by rfl, cut_take] at s5
  refine ad_catB (k5.sqt (by simp) s4) s5 ?_ fun H6 r6 k6 s6 => ac_nil ?_
  · simp only [List.length_drop, List.length_take, List.length_map]
    exact sz (by omega)
  have k36 := (k4.trans k5).trans k6
  have ha6 := k36.sqt (by simp) ha3
  have md6 := md3.keep k36 (by simp) k36.tk
  have s6' : SqT K H6 r6 ((rs.drop 1 ++ rs.take 1).map V.str) := by
    rw [List.map_append, List.map_drop, List.map_take]
    exact s6
  have len : (rs.map V.str).length = ((rs.drop 1 ++ rs.take 1).map V.str).length := by
    simp only [List.length_map, List.length_append, List.length_drop, List.length_take]
    omega
  refine ⟨a, r6, _, _, rfl, .inr ⟨ha6, s6', fun D nD => ?_⟩⟩
  refine lc_it (walk_zipT len) (fun i H' => Keep [] H6 H' ∧ H' D = some (.lst (((List.range i).map fun j => decide ((rs[(j + 1) % rs.length]?.getD Str.empty) ∈ impOf p (rs[j]?.getD Str.empty))).map V.bl))) ⟨.new nD, upd_same⟩ (fun i H' _ h => ⟨h.1.sqt (by simp) ha6, h.1.sqt (by simp) s6'⟩) ?_ fun H' h => ?_
  · rintro i x H7 H8 hi ⟨k7, e7⟩ ⟨T, y1, y2, rfl, nT, rfl, g1, g2⟩
    rw [List.length_map] at hi
    have e1 : rs[i]? = some rs[i] := List.getElem?_eq_getElem hi
    have hm : (i + 1) % rs.length < rs.length := Nat.mod_lt _ (by omega)
    have e2 : rs[(i + 1) % rs.length]? = some rs[(i + 1) % rs.length] := List.getElem?_eq_getElem hm
    have g1' : (rs.map V.str)[i]? = some y1 := g1
    have g2' : ((rs.drop 1 ++ rs.take 1).map V.str)[i]? = some y2 := g2
    rw [List.getElem?_map, e1] at g1'
    rw [List.getElem?_map, rot_at hi, e2] at g2'
    cases g1'
    cases g2'
    have kT : Keep [] H7 (upd H7 T (.tup [.str rs[i], .str rs[(i + 1) % rs.length]])) := .new nT
    have sT : SqT K (upd H7 T (.tup [.str rs[i], .str rs[(i + 1) % rs.length]])) T [.str rs[i], .str rs[(i + 1) % rs.length]] := .inl (.inl upd_same)
    generalize upd H7 T (.tup [.str rs[i], .str rs[(i + 1) % rs.length]]) = H8 at kT sT ⊢
    refine g_tup2 sT ⟨rfl, ?_⟩
    have k8 := k7.trans kT
    obtain ⟨kv, m, tm, um, ekv, em, _, mn, ev, m1, m2⟩ := (md6.keep k8 (by simp) k8.tk).at (inn _ (List.mem_of_getElem? e1))
    have ei : impOf p rs[i] = m.imps := by simp [impOf, em]
    refine (pu_op (pu_var rfl) (pu_op (pu_dget (pu_var rfl) (pu_var rfl) ekv ev) pu_c (pur_ixT m1 rfl)) (pur_in (.inl m2)) : Pu _ _ _ _) _ ?_
    refine ⟨_, kT D _ (by simp) e7, szl (by simp; omega), k8.put (.inr nD), ?_⟩
    rw [upd_same, List.range_succ, List.map_append, List.map_append, List.map_cons, List.map_nil, e1, e2]
    simp only [Option.getD_some, ei]
    rfl
  · refine ac_nil ⟨D, _, rfl, .inl (.inl h.2), ?_⟩
    have e : (((List.range (rs.map V.str).length).map fun j => decide ((rs[(j + 1) % rs.length]?.getD Str.empty) ∈ impOf p (rs[j]?.getD Str.empty))).all id) = cw p rs := by
      unfold cw
      rw [List.all_map, List.length_map]
      rfl
    rw [e]
    exact q _ ((k03.trans k36).trans h.1)
end
end GL

set_option Elab.async false
set_option linter.all false
set_option maxRecDepth 100000
set_option maxHeartbeats 4000000
set_option exponentiation.threshold 100000
namespace GL
open PySem PySem.Spec PyProof.Rows L2
local macro_rules | `(tactic| walk_at "pu") => `(tactic| repeat' (first
  | ((with_reducible apply pu_var); rfl) | with_reducible exact pu_c | with_reducible exact pua_nil | ((with_reducible apply pur_i0); rfl) | with_reducible exact puu_neg | with_reducible exact puc_abs | with_reducible exact puc_intB
  | with_reducible exact puc_min | with_reducible exact puc_max | with_reducible exact puo_none
  | with_reducible apply pu_op | with_reducible apply pu_cb | with_reducible apply pua_cons | with_reducible refine put_test ?_ | with_reducible refine put_B ?_ | with_reducible refine put_not ?_ | with_reducible refine pu_notV ?_
  | with_reducible apply pu_un | with_reducible refine puo_some ?_ | ((with_reducible apply pur_i); rfl) | with_reducible exact pur_eq rfl | with_reducible exact pur_ne rfl | exact puc_lenL (by assumption) | exact puc_lenT (by assumption)
  | ((with_reducible apply pur_ixL); assumption) | ((with_reducible apply pur_ixT); assumption) | with_reducible apply pur_ixS | with_reducible apply pur_str))
local macro_rules | `(tactic| walk_at "side") => `(tactic| first
  | exact (show (0 : Int) < _ by decide) | exact Or.inl ⟨by decide, by decide⟩ | exact Or.inr ⟨by decide, by decide⟩ | exact Or.inl ⟨by omega, by omega⟩ | exact Or.inr ⟨by omega, by omega⟩
  | exact ⟨by decide, by decide, by decide⟩ | exact ⟨by decide, by decide⟩ | assumption | omega | exact ⟨by decide, by decide +kernel⟩)
open RM RZ
/-! ### _law_many -/
def sgA : List Nat := [98, 100, 102, 104, 106, 108, 110, 112]
def sgB : List Nat := [97, 99, 101, 103, 105, 107, 109, 111]
def twoS (a b : Nat) : Str := (⟨#[a]⟩ : Str) ++ (⟨#[b]⟩ : Str)
def manyTo (n : Nat) : List Str := ((sgA.take n).map fun a => sgB.map fun b => twoS a b).flatten
def spMany (K : PySem.W.Frag) : Sp := fun vs H Q _ => ∃ c : Nat, vs = [.int c] ∧ c ≤ 64 ∧ ∀ H' r, Keep [] H H' → H r = none → H' r = some (.lst (((manyTo 8).take c).map V.str)) → Q (.ref r) H'
def t_many (K : PySem.W.Frag) : TS :=
  (tSeq (tAsg (tLst tNil) (gName 1))
    (tSeq (tFor (iStr (tC (.str "bdfhjlnp"))) (gName 2) (tDrop (tBM K "list" rExtend (tVar 1) (tCons (tLc (iStr (tC (.str "acegikmo"))) (gName 3) tYes (tOp rAddS (tVar 2) (tVar 3)) [3]) tNil))))
    (tRet (tSl (rSlL K) (tVar 1) tNoPart (tPart (tVar 0))))))
theorem many_nodup : (manyTo 8).Nodup := by decide +kernel
theorem many_len : (manyTo 8).length = 64 := by decide +kernel
theorem many_ok : ∀ z ∈ manyTo 8, NameOk z := by
  have h : (manyTo 8).all (fun z => decide (1 ≤ z.length) && decide (z.length ≤ 10) && z.cps.toList.all fun c => decide (97 ≤ c) && decide (c ≤ 122)) = true := by decide +kernel
  intro z hz
  have := List.all_eq_true.mp h z hz
  simp only [Bool.and_eq_true, decide_eq_true_eq, List.all_eq_true] at this
  exact ⟨this.1.1, this.1.2, fun c hc => this.2 c hc⟩
section
variable {K : PySem.W.Frag}
theorem cpsA : (Str.cps "bdfhjlnp").toList = sgA := by decide +kernel
theorem cpsB : (Str.cps "acegikmo").toList = sgB := by decide +kernel
theorem pure_many (vs : List V) (H : Hp) (Q : VK) (E : XK) (h : spMany K vs H Q E) : t_many K { nx := fun _ H' => Q .non H', rt := Q } (vs.map some ++ [none, none, none]) H := by
  obtain ⟨c, rfl, hc, q⟩ := h
  unfold t_many
  refine sq_doN (al_lst pua_nil (by decide) fun l nl => ?_)
  have k1 : Keep [] H (upd H l (.lst [])) := .new nl
  have e1 : (upd H l (.lst [])) l = some (.lst ((manyTo 0).map V.str)) := upd_same
  generalize upd H l (.lst []) = H1 at k1 e1 ⊢
  have szA : (Str.cps "bdfhjlnp").size = 8 := by decide +kernel
  refine su_seq ?_
  refine ⟨_, rfl, for_it (walk_str (z := "bdfhjlnp")) (fun i σ' H' => ∃ y2 y3, σ' = [some (.int c), some (.ref l), y2, y3] ∧ Keep [l] H1 H' ∧ H' l = some (.lst ((manyTo i).map V.str))) ⟨_, _, rfl, .refl, e1⟩ (fun _ _ _ _ _ => trivial) ?_ ?_⟩
  · rintro i x σ' H2 H2' hi ⟨y2, y3, rfl, k2, e2⟩ ⟨rfl, a, ea, rfl⟩
    have ea' : sgA[i]? = some a := by
      rw [← cpsA, Array.getElem?_toList]
      exact ea
    refine ad_drop (al_bm (x := .ref l) (pu_var rfl) (.inl ⟨rfl, _, .inl (.inl e2)⟩) (al_cons ?_))
    refine ⟨_, rfl, fun D nD => ?_⟩
    refine lc_it (walk_str (z := "acegikmo")) (fun j H' => Keep [] H2' H' ∧ H' D = some (.lst (((sgB.take j).map fun b => twoS a b).map V.str))) ⟨.new nD, upd_same⟩ (fun _ _ _ _ => trivial) ?_ fun H3 ⟨k3, e3⟩ => ?_
    · rintro j y H4 H4' hj ⟨k4, e4⟩ ⟨rfl, b, eb, rfl⟩
      have eb' : sgB[j]? = some b := by
        rw [← cpsB, Array.getElem?_toList]
        exact eb
      refine ⟨rfl, ?_⟩
      refine (pu_op (pu_var rfl) (pu_var rfl) (pur_str (by show 1 + 1 ≤ sizeLine; decide)) : Pu _ _ _ (.str (twoS a b))) _ ⟨_, e4, szl ?_, k4.put (.inr nD), ?_⟩
      · rw [List.length_map, List.length_map, List.length_take]
        have : sgB.length = 8 := rfl
        omega
      · rw [upd_same, take_snoc eb']
        simp
    · have szB : (Str.cps "acegikmo").size = 8 := by decide +kernel
      have eB : sgB.take (Str.cps "acegikmo").size = sgB := by
        rw [szB]
        rfl
      have e3' : H3 D = some (.lst ((sgB.map fun b => twoS a b).map V.str)) := by
        rw [← eB]
        exact e3
      refine ac_nil ⟨l, D, _, _, rfl, rfl, k3 l _ (by simp) e2, e3', ?_, _, _, rfl, (k2.trans k3.of0).put (.inl (by simp)), ?_⟩
      · rw [List.length_map, List.length_map, List.length_map]
        have h1 : (manyTo i).length = (sgA.take i).length * 8 := by
          unfold manyTo
          generalize sgA.take i = L
          induction L with
          | nil => rfl
          | cons x r ih =>
            rw [List.map_cons, List.flatten_cons, List.length_append, ih, List.length_map, List.length_cons]
            show 8 + _ = _
            omega
        have h2 : (sgA.take i).length ≤ 8 := by
          rw [List.length_take]
          exact Nat.min_le_right _ _
        have h3 : sgB.length = 8 := rfl
        rw [h1, h3]
        exact sz (by omega)
      · rw [upd_same]
        have : manyTo (i + 1) = manyTo i ++ sgB.map fun b => twoS a b := by
          unfold manyTo
          rw [take_snoc ea', List.map_append, List.flatten_append]
          simp
        rw [this, List.map_append]
  · rintro σ' H2 ⟨y2, y3, rfl, k2, e2⟩
    have e2' : H2 l = some (.lst ((manyTo 8).map V.str)) := by
      rw [szA] at e2
      exact e2
    show tRet (tSl (rSlL K) (tVar 1) tNoPart (tPart (tVar 0))) { nx := fun x H' => Q V.non H', rt := Q } [some (.int c), some (.ref l), y2, y3] H2
    refine su_retE (ad_sl ?_)
    refine ⟨_, rfl, ad_nop ((pu_var rfl : Pu (tVar 0) _ _ (.int c)) _ ⟨_, rfl, l, _, rfl, .inl (.inl e2'), fun r nr => ?_⟩)⟩
    have k02 := k1.drop k2 nl
    refine q _ r (k02.trans (.new nr)) (k02.back (by simp) nr) ?_
    rw [upd_same, cut_take, List.map_take]
end
end GL

set_option Elab.async false
set_option linter.all false
set_option maxRecDepth 100000
set_option maxHeartbeats 4000000
set_option exponentiation.threshold 100000
namespace GL
open PySem PySem.Spec PyProof.Rows L2
local macro_rules | `(tactic| walk_at "pu") => `(tactic| repeat' (first
  | ((with_reducible apply pu_var); rfl) | with_reducible exact pu_c | with_reducible exact pua_nil | ((with_reducible apply pur_i0); rfl) | with_reducible exact puu_neg | with_reducible exact puc_abs | with_reducible exact puc_intB
  | with_reducible exact puc_min | with_reducible exact puc_max | with_reducible exact puo_none
  | with_reducible apply pu_op | with_reducible apply pu_cb | with_reducible apply pua_cons | with_reducible refine put_test ?_ | with_reducible refine put_B ?_ | with_reducible refine put_not ?_ | with_reducible refine pu_notV ?_
  | with_reducible apply pu_un | with_reducible refine puo_some ?_ | ((with_reducible apply pur_i); rfl) | with_reducible exact pur_eq rfl | with_reducible exact pur_ne rfl | exact puc_lenL (by assumption) | exact puc_lenT (by assumption)
  | ((with_reducible apply pur_ixL); assumption) | ((with_reducible apply pur_ixT); assumption) | with_reducible apply pur_ixS | with_reducible apply pur_str))
local macro_rules | `(tactic| walk_at "side") => `(tactic| first
  | exact (show (0 : Int) < _ by decide) | exact Or.inl ⟨by decide, by decide⟩ | exact Or.inr ⟨by decide, by decide⟩ | exact Or.inl ⟨by omega, by omega⟩ | exact Or.inr ⟨by omega, by omega⟩
  | exact ⟨by decide, by decide, by decide⟩ | exact ⟨by decide, by decide⟩ | assumption | omega | exact ⟨by decide, by decide +kernel⟩)
open RM RZ
theorem cut_dropA {xs : List V} (r : Nat) : cutV xs (some (r : Int)) none = xs.drop r := by
  unfold cutV
  rw [HT.sIx_nat, HT.sIx_none]
  rcases Nat.le_total r xs.length with h | h
  · rw [Nat.min_eq_left h]
    refine List.take_of_length_le ?_
    rw [List.length_drop]
    exact Nat.le_refl _
  · rw [Nat.min_eq_right h, List.drop_of_length_le h, List.drop_length]
    exact List.take_nil
/-- a module of a ladder along ms -/
structure Lad (ms : List Str) (m : Mod) : Prop where
  at_ : ∃ i : Nat, ms[i]? = some m.name ∧ (∀ o ∈ m.imps, ∃ j : Nat, i < j ∧ ms[j]? = some o) ∧ ∀ o, ms[i + 1]? = some o → o ∈ m.imps
  nd : m.imps.Nodup
  len : m.imps.length ≤ 5
def spLadder05 (K : PySem.W.Frag) : Sp := fun vs H Q _ => ∃ (a M : Addr) (ms : List Str) (N : Nat), vs = [.ref a, .ref M] ∧ Src H a N ∧ N + 1000 ≤ 900000 ∧ H M = some (.lst (ms.map V.str)) ∧ M ≠ a ∧ ms.Nodup ∧ (∀ y ∈ ms, NameOk y) ∧ ms.length ≤ 60 ∧
  ∀ H' v p, Keep [a] H H' → Src H' a (N + 1000) → Dp K H' v (projD p) → ProjOk p → (nms p).Perm ms → (∀ m ∈ p, Lad ms m) → Q v H'
def t_ladder05 (K : PySem.W.Frag) : TS :=
  (tSeq (tAsg (tLst tNil) (gName 2))
    (tSeq (tFor (iEnum K (tCons (tVar 1) tNil)) (gTup K 2 (gCons (gName 3) (gCons (gName 4) gNil))) (tSeq (tAsg (tSl (rSlL K) (tSl (rSlL K) (tVar 1) (tPart (tOp rAdd (tVar 3) (tC (.int 2)))) tNoPart) tNoPart (tPart (tC (.int 4)))) (gName 5))
    (tSeq (tAsg (tIf (tTest (tOp rLt (tOp rAdd (tVar 3) (tC (.int 1))) (tCB (rLenQ K) (tCons (tVar 1) tNil)))) (tLst (tCons (tOp (rIxL K) (tVar 1) (tOp rAdd (tVar 3) (tC (.int 1)))) tNil)) (tLst tNil)) (gName 6))
    (tSeq (tFor (iList K (tVar 5)) (gName 7) (tDrop (tBM K "list" rExtend (tVar 6) (tCons (tOp rRep (tLst (tCons (tVar 7) tNil)) (tCB rInt1 (tCons (tOp rEq (tCall spDraw [] E0 (tCons (tVar 0) (tCons (tC (.int 3)) tNil))) (tC (.int 0))) tNil))) tNil))))
    (tDrop (tBM K "list" rAppend (tVar 2) (tCons (tTup (tCons (tVar 4) (tCons (tCB (rTupQ K) (tCons (tCall (spMixed K) [] E0 (tCons (tVar 0) (tCons (tVar 6) tNil))) tNil)) (tCons (tCall (spChoice K) [] E0 (tCons (tVar 0) (tCons (tLst (tCons (tC (.str "effect")) (tCons (tC (.str "pure")) tNil))) tNil))) tNil)))) tNil)))))))
    (tRet (tCB (rTupQ K) (tCons (tCB (rSortM K) (tCons (tVar 2) tNil)) tNil)))))
theorem kinds2 {i : Nat} {v : V} (h : ([V.str "effect", V.str "pure"] : List V)[i]? = some v) : ∃ b, v = .str (kindS b) := by
  match i, h with
  | 0, h => exact ⟨true, (Option.some.inj h).symm⟩
  | 1, h => exact ⟨false, (Option.some.inj h).symm⟩
end GL

set_option Elab.async false
set_option linter.all false
set_option maxRecDepth 100000
set_option maxHeartbeats 4000000
set_option exponentiation.threshold 100000
namespace GL
open PySem PySem.Spec PyProof.Rows L2
local macro_rules | `(tactic| walk_at "pu") => `(tactic| repeat' (first
  | ((with_reducible apply pu_var); rfl) | with_reducible exact pu_c | with_reducible exact pua_nil | ((with_reducible apply pur_i0); rfl) | with_reducible exact puu_neg | with_reducible exact puc_abs | with_reducible exact puc_intB
  | with_reducible exact puc_min | with_reducible exact puc_max | with_reducible exact puo_none
  | with_reducible apply pu_op | with_reducible apply pu_cb | with_reducible apply pua_cons | with_reducible refine put_test ?_ | with_reducible refine put_B ?_ | with_reducible refine put_not ?_ | with_reducible refine pu_notV ?_
  | with_reducible apply pu_un | with_reducible refine puo_some ?_ | ((with_reducible apply pur_i); rfl) | with_reducible exact pur_eq rfl | with_reducible exact pur_ne rfl | exact puc_lenL (by assumption) | exact puc_lenT (by assumption)
  | ((with_reducible apply pur_ixL); assumption) | ((with_reducible apply pur_ixT); assumption) | with_reducible apply pur_ixS | with_reducible apply pur_str))
local macro_rules | `(tactic| walk_at "side") => `(tactic| first
  | exact (show (0 : Int) < _ by decide) | exact Or.inl ⟨by decide, by decide⟩ | exact Or.inr ⟨by decide, by decide⟩ | exact Or.inl ⟨by omega, by omega⟩ | exact Or.inr ⟨by omega, by omega⟩
  | exact ⟨by decide, by decide, by decide⟩ | exact ⟨by decide, by decide⟩ | assumption | omega | exact ⟨by decide, by decide +kernel⟩)
open RM RZ
theorem drop_cut {ms : List Str} {i : Nat} : (ms.drop (i + 1)).take 1 ++ (ms.drop (i + 2)).take 4 = (ms.drop (i + 1)).take 5 := by
  have e : ms.drop (i + 2) = (ms.drop (i + 1)).drop 1 := by rw [List.drop_drop]
  rw [e]
  generalize ms.drop (i + 1) = l
  cases l with
  | nil => rfl
  | cons x r => rfl
theorem idx_inj {ms : List Str} (nd : ms.Nodup) {i j : Nat} {x : Str} (h1 : ms[i]? = some x) (h2 : ms[j]? = some x) : i = j := by
  obtain ⟨a1, b1⟩ := List.getElem?_eq_some_iff.mp h1
  obtain ⟨a2, b2⟩ := List.getElem?_eq_some_iff.mp h2
  exact (List.getElem_inj nd).mp (b1.trans b2.symm)
set_option maxHeartbeats 8000000 in
theorem pure_ladder05 {K : PySem.W.Frag} (vs : List V) (H : Hp) (Q : VK) (E : XK) (h : spLadder05 K vs H Q E) : t_ladder05 K { nx := fun _ H' => Q .non H', rt := Q } (vs.map some ++ [none, none, none, none, none, none]) H := by
  obtain ⟨a, M, ms, N, rfl, hs, hN, eM, nMa, mnd, mok, ml, q⟩ := h
  unfold t_ladder05
  refine sq_doN (al_lst pua_nil (by decide) fun F nF => ?_)
  have nFa : F ≠ a := hs.ne nF
  have nFM : F ≠ M := fun z => by rw [z, eM] at nF; cases nF
  have k4 : Keep [a] H (upd H F (.lst [])) := .new nF
  have s4 : Src (upd H F (.lst [])) a N := hs.keep (S := []) (.new nF) (by simp)
  have eM4 : (upd H F (.lst [])) M = some (.lst (ms.map V.str)) := by rw [upd_ne nFM.symm]; exact eM
  have eF4 : (upd H F (.lst [])) F = some (.lst []) := upd_same
  generalize upd H F (.lst []) = H4 at k4 s4 eM4 eF4 ⊢
  refine sq_enum (a := M) (xs := ms.map V.str) (by walk_at "pu") (.inl (.inl eM4)) (fun i σ' H' => ∃ y3 y4 y5 y6 y7 rs fs, σ' = [some (.ref a), some (.ref M), some (.ref F), y3, y4, y5, y6, y7] ∧ Keep [a] H H' ∧ Src H' a (N + i * 10) ∧
    H' M = some (.lst (ms.map V.str)) ∧ H' F = some (.lst rs) ∧ Paired (MV H') rs fs ∧ fs.map (·.name) = ms.take i ∧ ∀ m ∈ fs, Lad ms m) ⟨none, none, none, none, none, [], [], rfl, k4, s4, eM4, eF4, .nil, rfl, fun _ z => nomatch z⟩ ?_ ?_ ?_
  · rintro i σ' H' _ ⟨_, _, _, _, _, _, _, _, _, _, e, _⟩
    exact .inl (.inl e)
  · rintro i x σ' H' T ex ⟨y3, y4, y5, y6, y7, rs, fs, rfl, kk, ss, eM', eF', pr, en', ok'⟩ nT
    obtain ⟨hi, ex2⟩ := List.getElem?_eq_some_iff.mp ex
    rw [List.length_map] at hi
    obtain rfl : x = V.str ms[i] := by rw [← ex2]; simp
    have k6 : Keep [] H' (upd H' T (.tup [.int (i : Int), .str ms[i]])) := .new nT
    have ss6 := ss.keep k6 (by simp)
    have eM6 := k6 M _ (by simp) eM'
    have eF6 := k6 F _ (by simp) eF'
    have pr6 := paired_tk k6.tk pr
    have kk6 : Keep [a] H _ := kk.trans k6.of0
    generalize upd H' T (.tup [.int (i : Int), .str ms[i]]) = H6 at k6 ss6 eM6 eF6 pr6 kk6 ⊢
    have rlen : rs.length = i := by
      have h1 : rs.length = fs.length := pr.length
      have h2 := congrArg List.length en'
      rw [List.length_map, List.length_take] at h2
      omega
    have im : i * 10 ≤ 60 * 10 := Nat.mul_le_mul_right 10 (by omega)
    have sM6 : SqL K H6 M (ms.map V.str) := .inl (.inl eM6)
    -- later
    refine sq_doN (ad_sl (ad_sl ((pu_var rfl : Pu (tVar 1) _ _ _) _ ((puo_some (by walk_at "pu") : PuO _ _ _ (some ((i : Int) + 2))) _ (puo_none _ ⟨M, _, rfl, sM6, fun O nO => ?_⟩)))))
    rw [show (i : Int) + 2 = ((i + 2 : Nat) : Int) by omega, cut_dropA, ← List.map_drop]
    have kO : Keep [] H6 (upd H6 O (.lst ((ms.drop (i + 2)).map V.str))) := .new nO
    have eO : (upd H6 O (.lst ((ms.drop (i + 2)).map V.str))) O = some (.lst ((ms.drop (i + 2)).map V.str)) := upd_same
    generalize upd H6 O (.lst ((ms.drop (i + 2)).map V.str)) = H7 at kO eO ⊢
    refine puo_none _ ((puo_some pu_c : PuO _ _ _ (some ((4 : Nat) : Int))) _ ⟨O, _, rfl, .inl (.inl eO), fun P nP => ?_⟩)
    rw [cut_take, ← List.map_take]
    have kP : Keep [] H7 (upd H7 P (.lst (((ms.drop (i + 2)).take 4).map V.str))) := .new nP
    have eP : (upd H7 P (.lst (((ms.drop (i + 2)).take 4).map V.str))) P = some (.lst (((ms.drop (i + 2)).take 4).map V.str)) := upd_same
    generalize upd H7 P (.lst (((ms.drop (i + 2)).take 4).map V.str)) = H8 at kP eP ⊢
    have k68 : Keep [] H6 H8 := kO.trans kP
    have ss8 := ss6.keep k68 (by simp)
    have eM8 := k68 M _ (by simp) eM6
    have eF8 := k68 F _ (by simp) eF6
    have sM8 : SqL K H8 M (ms.map V.str) := .inl (.inl eM8)
    have hP6 : H6 P = none := kO.back (by simp) nP
    have nPa : P ≠ a := ss6.ne hP6
    have nPF : P ≠ F := fun z => by rw [z, eF6] at hP6; cases hP6
    have nPM : P ≠ M := fun z => by rw [z, eM6] at hP6; cases hP6
    generalize hlt : (ms.drop (i + 2)).take 4 = lt at eP
    have ltl : lt.length ≤ 4 := by rw [← hlt, List.length_take]; exact Nat.min_le_left _ _
    have rest : ∀ (rt0 : VK) (ct0 bk0 : L2.St → Hp → Prop) (S : Addr), H8 S = none → tSeq
        (tFor (iList K (tVar 5)) (gName 7) (tDrop (tBM K "list" rExtend (tVar 6) (tCons (tOp rRep (tLst (tCons (tVar 7) tNil)) (tCB rInt1 (tCons (tOp rEq (tCall spDraw [] E0 (tCons (tVar 0) (tCons (tC (.int 3)) tNil))) (tC (.int 0))) tNil))) tNil))))
        (tDrop (tBM K "list" rAppend (tVar 2) (tCons (tTup (tCons (tVar 4) (tCons (tCB (rTupQ K) (tCons (tCall (spMixed K) [] E0 (tCons (tVar 0) (tCons (tVar 6) tNil))) tNil)) (tCons (tCall (spChoice K) [] E0 (tCons (tVar 0) (tCons (tLst (tCons (tC (.str "effect")) (tCons (tC (.str "pure")) tNil))) tNil))) tNil)))) tNil)))
        { nx := fun σ' H' => ∃ y3 y4 y5 y6 y7 rs fs, σ' = [some (.ref a), some (.ref M), some (.ref F), y3, y4, y5, y6, y7] ∧ Keep [a] H H' ∧ Src H' a (N + (i + 1) * 10) ∧
          H' M = some (.lst (ms.map V.str)) ∧ H' F = some (.lst rs) ∧ Paired (MV H') rs fs ∧ fs.map (·.name) = ms.take (i + 1) ∧ ∀ m ∈ fs, Lad ms m,
          rt := rt0, ct := ct0, bk := bk0 } [some (.ref a), some (.ref M), some (.ref F), some (.int (i : Int)), some (.str ms[i]), some (.ref P), some (.ref S), y7] (upd H8 S (.lst (((ms.drop (i + 1)).take 1).map V.str))) := by
      intro rt0 ct0 bk0 S nS
      have kS : Keep [] H8 (upd H8 S (.lst (((ms.drop (i + 1)).take 1).map V.str))) := .new nS
      have eS : (upd H8 S (.lst (((ms.drop (i + 1)).take 1).map V.str))) S = some (.lst (((ms.drop (i + 1)).take 1).map V.str)) := upd_same
      have nSa : S ≠ a := ss8.ne nS
      have nSF : S ≠ F := fun z => by rw [z, eF8] at nS; cases nS
      have nSM : S ≠ M := fun z => by rw [z, eM8] at nS; cases nS
      have nSP : S ≠ P := fun z => by rw [z, eP] at nS; cases nS
      generalize upd H8 S (.lst (((ms.drop (i + 1)).take 1).map V.str)) = H9 at kS eS ⊢
      have ss9 := ss8.keep kS (by simp)
      have eP9 := kS P _ (by simp) eP
      refine sq_forL (a := P) (xs := lt.map V.str) (pu_var rfl) (.inl (.inl eP9)) (fun j σ' H' => ∃ y7 ls, σ' = [some (.ref a), some (.ref M), some (.ref F), some (.int (i : Int)), some (.str ms[i]), some (.ref P), some (.ref S), y7] ∧ Keep [a, S] H9 H' ∧ Src H' a (N + i * 10 + j) ∧ TKeep H9 H' ∧
        H' S = some (.lst (((ms.drop (i + 1)).take 1 ++ ls).map V.str)) ∧ ls.Sublist (lt.take j)) ⟨_, [], rfl, .refl, ss9, .refl, by rw [List.append_nil]; exact eS, List.nil_sublist _⟩ ?_ ?_ ?_
      · rintro j σ' H' _ ⟨_, _, _, kj, _⟩
        exact .inl (.inl (kj P _ (by simp [nPa, nSP.symm]) eP9))
      · rintro j x σ' H10 ej ⟨y7', ls, rfl, kj, sj, tj, eSj, sub⟩
        obtain ⟨z, ez, rfl⟩ := ex_map ej
        obtain ⟨hj, _⟩ := List.getElem?_eq_some_iff.mp ez
        refine ad_drop (al_bm (x := .ref S) (pu_var rfl) (.inl ⟨rfl, _, .inl (.inl eSj)⟩) (al_cons (al_op ?_)))
        refine al_lst (vs := [.str z]) (by walk_at "pu") (by show 1 ≤ sizeLine; decide) fun l nl => ?_
        have kl : Keep [] H10 (upd H10 l (.lst [.str z])) := .new nl
        have el : (upd H10 l (.lst [.str z])) l = some (.lst [.str z]) := upd_same
        have nla : l ≠ a := sj.ne nl
        have nlS : l ≠ S := fun z => by rw [z, eSj] at nl; cases nl
        generalize upd H10 l (.lst [.str z]) = H11 at kl el ⊢
        refine al_cons (al_op (ad_call (ac_var rfl (ac_pu pu_c (ac_nil ⟨a, 3, _, rfl, sj.keep kl (by simp), by omega, by decide, by decide, fun H12 c k12 s12 c0 c1 => ?_⟩)))))
        refine (pu_c : Pu (tC (.int 0)) _ _ _) _ ⟨rfl, ac_nil (.inr ⟨_, rfl, ?_⟩)⟩
        generalize hb : decide (V.int c = V.int 0) = b
        refine ⟨l, _, _, rfl, rfl, k12 l _ (by simpa using nla) el, ?_, ?_, ?_, fun u nu => ac_nil ?_⟩
        · cases b <;> decide
        · cases b <;> decide
        · show 1 * _ ≤ sizeLine
          cases b <;> decide
        have eS12 : H12 S = _ := k12 S _ (by simpa using nSa) (kl S _ (by simp) eSj)
        have ku : Keep [] H12 (upd H12 u (.lst (List.replicate (if b = true then (1 : Int) else 0).toNat [V.str z]).flatten)) := .new nu
        have lsl : ls.length ≤ 4 := Nat.le_trans sub.length_le (by rw [List.length_take]; omega)
        refine ⟨S, u, _, _, rfl, rfl, ku S _ (by simp) eS12, upd_same, ?_, ?_⟩
        · simp only [List.length_map, List.length_append, List.length_take]
          refine sz ?_
          cases b <;> simp <;> omega
        · have k13 : Keep [a, S] H9 (upd H12 u (.lst (List.replicate (if b = true then (1 : Int) else 0).toNat [V.str z]).flatten)) := (kj.trans kl.of0).trans ((k12.mono (by simp)).trans ku.of0)
          have t13 : TKeep H9 (upd H12 u (.lst (List.replicate (if b = true then (1 : Int) else 0).toNat [V.str z]).flatten)) := (tj.trans kl.tk).trans (((sj.keep kl (by simp)).tk k12).trans ku.tk)
          have s13 := s12.keep ku (by simp)
          have e13 := ku S _ (by simp) eS12
          generalize upd H12 u (.lst (List.replicate (if b = true then (1 : Int) else 0).toNat [V.str z]).flatten) = H13 at k13 t13 s13 e13 ⊢
          refine ⟨_, ls ++ (if b = true then [z] else []), rfl, k13.put (.inl (by simp)), (s13.keep (S := [S]) (.put .refl (.inl (by simp))) (by simpa using Ne.symm nSa)).mono (by omega), t13.trans (tk_upd e13), ?_, ?_⟩
          · rw [upd_same]
            cases b <;> simp
          · rw [take_snoc ez]
            cases b
            · simp only [Bool.false_eq_true, if_false, List.append_nil]
              exact sub.trans (List.sublist_append_left _ _)
            · simp only [if_true]
              exact sub.append (.refl _)
      · rintro σ' H10 ⟨y7', ls, rfl, kj, sj, tj, eSj, sub⟩
        rw [List.length_map] at sj sub
        rw [List.take_length] at sub
        generalize hos : (ms.drop (i + 1)).take 1 ++ ls = os at eSj
        have osub : os.Sublist ((ms.drop (i + 1)).take 5) := by
          rw [← hos, ← drop_cut, hlt]
          exact (List.Sublist.refl _).append sub
        have ol : os.length ≤ 5 := Nat.le_trans osub.length_le (by rw [List.length_take]; omega)
        have ond : os.Nodup := (mnd.sublist (List.drop_sublist (i + 1) ms)).sublist (osub.trans (List.take_sublist _ _))
        have oin : ∀ o ∈ os, ∃ j : Nat, i < j ∧ ms[j]? = some o := fun o ho => by
          obtain ⟨j, hj⟩ := List.mem_iff_getElem?.mp (List.mem_of_mem_take (osub.subset ho))
          rw [List.getElem?_drop] at hj
          exact ⟨_, by omega, hj⟩
        have onx : ∀ o, ms[i + 1]? = some o → o ∈ os := fun o ho => by
          rw [← hos]
          refine List.mem_append_left _ ?_
          have : (ms.drop (i + 1))[0]? = some o := by rw [List.getElem?_drop]; exact ho
          cases e : ms.drop (i + 1) with
          | nil => rw [e] at this; cases this
          | cons x r => rw [e] at this; cases this; simp
        have k610 : Keep [a, S] H6 H10 := (k68.of0.trans kS.of0).trans kj
        have eF10 := k610 F _ (by simp [nFa, nSF.symm]) eF6
        have eM10 := k610 M _ (by simp [nMa, nSM.symm]) eM6
        have hS6 : H6 S = none := k68.back (by simp) nS
        have tk10 : TKeep H6 H10 := (k68.trans kS).tk.trans tj
        refine ad_drop (al_bm (x := .ref F) (pu_var rfl) (.inl ⟨rfl, _, .inl (.inl eF10)⟩) (ac_tup (ac_var rfl (al_cons ?_))))
        refine ac_call (ac_var rfl (ac_var rfl (ac_nil ⟨a, S, os.map V.str, _, rfl, sj, by rw [List.length_map]; omega, .inl (.inl (.inl eSj)), nSa, by rw [List.length_map]; omega, fun H11 Z zs k11 s11 _ eZ pz => ac_nil ?_⟩)))
        obtain ⟨zs, rfl, pzs⟩ := strs_perm pz
        rw [List.length_map] at s11
        refine ⟨Z, _, rfl, .inl ⟨.inl (.inl eZ), fun u nu => ?_⟩⟩
        have ku : Keep [] H11 (upd H11 u (.tup (zs.map V.str))) := .new nu
        have eu : (upd H11 u (.tup (zs.map V.str))) u = some (.tup (zs.map V.str)) := upd_same
        have su := s11.keep ku (by simp)
        have nua : u ≠ a := s11.ne nu
        generalize upd H11 u (.tup (zs.map V.str)) = H12 at ku eu su ⊢
        refine ac_call (ac_var rfl (ac_lst (vs := [.str "effect", .str "pure"]) (by walk_at "pu") (by decide) fun l nl' => ac_nil ?_))
        have kl : Keep [] H12 (upd H12 l (.lst [.str "effect", .str "pure"])) := .new nl'
        refine ⟨a, l, _, _, rfl, su.keep kl (by simp), by omega, .inl (.inl upd_same), su.ne nl', by simp, by decide, fun H13 j v k13 s13 ej => ?_⟩
        obtain ⟨kb, rfl⟩ := kinds2 ej
        have k1013 : Keep [a] H10 H13 := ((k11.trans ku.of0).trans kl.of0).trans k13
        have eu13 : H13 u = some (.tup (zs.map V.str)) := k13 u _ (by simpa using nua) (kl u _ (by simp) eu)
        refine ac_nil ⟨by show 3 ≤ sizeLine; decide, fun t nt => ac_nil ?_⟩
        have kt : Keep [] H13 (upd H13 t (.tup [.str ms[i], .ref u, .str (kindS kb)])) := .new nt
        have mv : MV (upd H13 t (.tup [.str ms[i], .ref u, .str (kindS kb)])) (.ref t) ⟨ms[i], zs, kb⟩ := ⟨t, u, rfl, upd_same, kt u _ (by simp) eu13⟩
        have s14 := s13.keep kt (by simp)
        have k1014 : Keep [a] H10 _ := k1013.trans kt.of0
        generalize upd H13 t (.tup [.str ms[i], .ref u, .str (kindS kb)]) = H14 at kt k1014 mv s14 ⊢
        have eF14 := k1014 F _ (by simpa using nFa) eF10
        have eM14 := k1014 M _ (by simpa using nMa) eM10
        have tk14 : TKeep H6 H14 := tk10.trans (sj.tk k1014)
        refine ⟨F, rs, .ref t, rfl, rfl, eF14, szl (by omega), ?_⟩
        have hF0 : H F = none := nF
        have hS0 : H S = none := kk6.back (by simpa using nSa) hS6
        have kkS : Keep [a] H H14 := fun b o nb e => by
          have hb : b ≠ a := by simpa using nb
          have hbS : b ≠ S := ne_of_none e hS0
          exact k1014 b o nb (k610 b o (by simp [hb, hbS]) (kk6 b o nb e))
        refine ⟨_, _, _, _, _, rs ++ [.ref t], fs ++ [⟨ms[i], zs, kb⟩], rfl, kkS.put (.inr hF0), ?_, ?_, upd_same, paired_tk (tk_upd eF14) (paired_app mv (paired_tk tk14 pr6)), ?_, ?_⟩
        · refine (s14.keep (S := [F]) (.put .refl (.inl (by simp))) (by simpa using Ne.symm nFa)).mono ?_
          omega
        · rw [upd_ne nFM.symm]
          exact eM14
        · rw [List.map_append, en', List.take_add_one, List.getElem?_eq_getElem hi]
          rfl
        · intro m hm
          rcases List.mem_append.mp hm with hm | hm
          · exact ok' m hm
          · have : m = ⟨ms[i], zs, kb⟩ := by simpa using hm
            subst this
            refine ⟨⟨i, List.getElem?_eq_getElem hi, fun o ho => oin o (pzs.mem_iff.mp ho), fun o ho => pzs.mem_iff.mpr (onx o ho)⟩, pzs.nodup_iff.mpr ond, ?_⟩
            show zs.length ≤ 5
            rw [pzs.length_eq]
            exact ol
    refine sq_ifE (b := decide ((i : Int) + 1 < (ms.map V.str).length)) (put_test (by walk_at "pu")) _ _ (fun hb => ?_) fun hb => ?_
    · have hb' := of_decide_eq_true hb
      rw [List.length_map] at hb'
      have hi1 : i + 1 < ms.length := by omega
      have e1 : (ms.drop (i + 1)).take 1 = [ms[i + 1]] := by
        rw [List.drop_eq_getElem_cons hi1]
        rfl
      refine al_lst (vs := [.str ms[i + 1]]) (pua_cons (pu_op (pu_var rfl) (pu_op (pu_var rfl) pu_c (pur_i0 rfl)) (pur_ixL sM8 ?_)) pua_nil) (by show 1 ≤ sizeLine; decide) fun S nS => ?_
      · rw [show (i : Int) + 1 = ((i + 1 : Nat) : Int) by omega]
        refine atI_in ?_
        rw [List.getElem?_map, List.getElem?_eq_getElem hi1]
        rfl
      · have z := fun a b c => rest a b c S nS
        simp only [e1] at z
        exact z _ _ _
    · have hb' := of_decide_eq_false hb
      rw [List.length_map] at hb'
      have e1 : (ms.drop (i + 1)).take 1 = [] := by
        rw [List.drop_of_length_le (by omega)]
        rfl
      refine al_lst pua_nil (by decide) fun S nS => ?_
      have z := fun a b c => rest a b c S nS
      simp only [e1] at z
      exact z _ _ _
  · rintro σ' H' ⟨y3, y4, y5, y6, y7, rs, fs, rfl, kk, ss, eM', eF', pr, en', ok'⟩
    rw [List.length_map, List.take_length] at en'
    rw [List.length_map] at ss
    refine su_retE (al_cons ?_)
    refine ac_var rfl (ac_nil ⟨F, rs, fun v => (modOf H' v).name, rfl, .inl (.inl eF'), fun v hv => ?_, ?_, fun ys p pmy pwy np => ?_⟩)
    · obtain ⟨t, u, e, h1, h2⟩ := (paired_of pr).2 v hv
      exact ⟨t, _, e, .inl (.inl h1)⟩
    · have e2 : rs.map (fun v => (modOf H' v).name) = ms := by
        rw [← en', ← (paired_of pr).1, List.map_map]
        rfl
      rw [e2]
      exact mnd
    · have okm : ∀ m ∈ fs, ModIn ms 5 m := fun m hm => by
        obtain ⟨⟨j, h1, h2, h3⟩, h4, h5⟩ := ok' m hm
        refine ⟨h4, fun z => ?_, fun o ho => ?_, Nat.le_trans h5 (by omega)⟩
        · obtain ⟨j2, l2, e2⟩ := h2 _ z
          have := idx_inj mnd h1 e2
          omega
        · obtain ⟨j2, l2, e2⟩ := h2 o ho
          exact List.mem_of_getElem? e2
      obtain ⟨e1, h1⟩ := paired_of pr
      have pm2 : (ys.map (modOf H')).Perm fs := e1 ▸ pmy.map (modOf H')
      obtain ⟨g1, g2, g3, g4⟩ := sorted_proj pr en' okm mok pmy pwy
      refine ac_nil ⟨p, ys, rfl, .inl ⟨.inl (.inl upd_same), fun l nl' => ?_⟩⟩
      have kA : Keep [] H' (upd (upd H' p (.lst ys)) l (.tup ys)) := .trans (.new np) (.new nl')
      refine q _ _ (ys.map (modOf H')) (kk.trans kA.of0) ((ss.keep kA (by simp)).mono ?_) (.tup (.inl (.inl upd_same)) (paired_dp (paired_tk kA.tk g1))) g2 ?_ fun m hm => ok' m (pm2.mem_iff.mp hm)
      · have : ms.length * 10 ≤ 60 * 10 := Nat.mul_le_mul_right 10 (by omega)
        omega
      · have := pm2.map (·.name)
        rw [en'] at this
        exact this
end GL

set_option Elab.async false
set_option linter.all false
set_option maxRecDepth 100000
set_option maxHeartbeats 4000000
set_option exponentiation.threshold 100000
namespace GL
open PySem PySem.Spec PyProof.Rows L2
local macro_rules | `(tactic| walk_at "pu") => `(tactic| repeat' (first
  | ((with_reducible apply pu_var); rfl) | with_reducible exact pu_c | with_reducible exact pua_nil | ((with_reducible apply pur_i0); rfl) | with_reducible exact puu_neg | with_reducible exact puc_abs | with_reducible exact puc_intB
  | with_reducible exact puc_min | with_reducible exact puc_max | with_reducible exact puo_none
  | with_reducible apply pu_op | with_reducible apply pu_cb | with_reducible apply pua_cons | with_reducible refine put_test ?_ | with_reducible refine put_B ?_ | with_reducible refine put_not ?_ | with_reducible refine pu_notV ?_
  | with_reducible apply pu_un | with_reducible refine puo_some ?_ | ((with_reducible apply pur_i); rfl) | with_reducible exact pur_eq rfl | with_reducible exact pur_ne rfl | exact puc_lenL (by assumption) | exact puc_lenT (by assumption)
  | ((with_reducible apply pur_ixL); assumption) | ((with_reducible apply pur_ixT); assumption) | with_reducible apply pur_ixS | with_reducible apply pur_str))
local macro_rules | `(tactic| walk_at "side") => `(tactic| first
  | exact (show (0 : Int) < _ by decide) | exact Or.inl ⟨by decide, by decide⟩ | exact Or.inr ⟨by decide, by decide⟩ | exact Or.inl ⟨by omega, by omega⟩ | exact Or.inr ⟨by omega, by omega⟩
  | exact ⟨by decide, by decide, by decide⟩ | exact ⟨by decide, by decide⟩ | assumption | omega | exact ⟨by decide, by decide +kernel⟩)
open RM RZ
/-! ### rings: the plain part -/
theorem acyc_no {p : List Mod} {rs : List Str} (nd : (nms p).Nodup) (h : Acyc p) (c : CycRow p rs) : False := by
  obtain ⟨rk, hr⟩ := h
  have n0 : 0 < rs.length := List.length_pos_iff.mpr c.ne
  have step : ∀ k : Nat, ∃ x, rs[k % rs.length]? = some x ∧ rk x + k ≤ rk rs[0] := by
    intro k
    induction k with
    | zero =>
      refine ⟨rs[0], ?_, by omega⟩
      rw [Nat.zero_mod]
      exact List.getElem?_eq_getElem n0
    | succ k ih =>
      obtain ⟨x, ex, hx⟩ := ih
      have hm : (k + 1) % rs.length < rs.length := Nat.mod_lt _ n0
      have e2 : (k % rs.length + 1) % rs.length = (k + 1) % rs.length := by rw [Nat.mod_add_mod]
      have ey := List.getElem?_eq_getElem hm
      have hi := c.nxt (k % rs.length) x _ ex (by rw [e2]; exact ey)
      obtain ⟨m, hm1, hm2, hm3⟩ := modAt_some (c.inn x (List.mem_of_getElem? ex))
      have ei : impOf p x = m.imps := by simp [impOf, hm1]
      rw [ei] at hi
      have := hr m hm2 _ hi
      rw [hm3] at this
      exact ⟨_, ey, by omega⟩
  obtain ⟨x, ex, hx⟩ := step rs.length
  rw [Nat.mod_self, List.getElem?_eq_getElem n0] at ex
  cases ex
  omega
theorem cw_iff {p : List Mod} {rs : List Str} : cw p rs = true ↔ ∀ (i : Nat) x y, rs[i]? = some x → rs[(i + 1) % rs.length]? = some y → y ∈ impOf p x := by
  unfold cw
  rw [List.all_eq_true]
  constructor
  · intro h i x y ex ey
    have hi := (List.getElem?_eq_some_iff.mp ex).1
    have := h i (List.mem_range.mpr hi)
    rw [ex, ey] at this
    exact of_decide_eq_true this
  · intro h i hi
    rw [List.mem_range] at hi
    have hm : (i + 1) % rs.length < rs.length := Nat.mod_lt _ (by omega)
    rw [List.getElem?_eq_getElem hi, List.getElem?_eq_getElem hm]
    exact decide_eq_true (h i _ _ (List.getElem?_eq_getElem hi) (List.getElem?_eq_getElem hm))
/-- the project of a ladder -/
structure Ladr (p : List Mod) (ms : List Str) : Prop where
  ok : ProjOk p
  pm : (nms p).Perm ms
  nd : ms.Nodup
  lad : ∀ m ∈ p, Lad ms m
  len : ms.length ≤ 60
section
variable {p : List Mod} {ms : List Str}
theorem Ladr.at (L : Ladr p ms) {i : Nat} {x : Str} (h : ms[i]? = some x) : x ∈ nms p ∧ (∀ o ∈ impOf p x, ∃ j : Nat, i < j ∧ ms[j]? = some o) ∧ (∀ o, ms[i + 1]? = some o → o ∈ impOf p x) ∧ (impOf p x).Nodup ∧ (impOf p x).length ≤ 5 := by
  have hx : x ∈ nms p := L.pm.mem_iff.mpr (List.mem_of_getElem? h)
  obtain ⟨m, hm1, hm2, hm3⟩ := modAt_some hx
  have ei : impOf p x = m.imps := by simp [impOf, hm1]
  obtain ⟨⟨j, h1, h2, h3⟩, h4, h5⟩ := L.lad m hm2
  rw [hm3] at h1
  cases idx_inj L.nd h h1
  rw [ei]
  exact ⟨hx, h2, h3, h4, h5⟩
theorem Ladr.pos (L : Ladr p ms) {x : Str} (h : x ∈ nms p) : ∃ i : Nat, ms[i]? = some x := List.mem_iff_getElem?.mp (L.pm.mem_iff.mp h)
theorem Ladr.acyc (L : Ladr p ms) : Acyc p := by
  refine ⟨fun s => ms.length - ms.idxOf s, fun m hm o ho => ?_⟩
  obtain ⟨⟨i, h1, h2, h3⟩, _, _⟩ := L.lad m hm
  obtain ⟨j, lj, ej⟩ := h2 o ho
  have idx : ∀ {i : Nat} {x : Str}, ms[i]? = some x → ms.idxOf x = i := fun {i x} e => by
    obtain ⟨hi, e2⟩ := List.getElem?_eq_some_iff.mp e
    have := List.idxOf_lt_length_of_mem (List.mem_of_getElem? e)
    have g := List.getElem_idxOf this
    exact (List.getElem_inj L.nd).mp (g.trans e2.symm)
  have hj := (List.getElem?_eq_some_iff.mp ej).1
  show ms.length - ms.idxOf o < ms.length - ms.idxOf m.name
  rw [idx h1, idx ej]
  omega
theorem Ladr.pj (L : Ladr p ms) : Pj p := by
  refine L.ok.pj (fun m hm => Nat.le_trans (L.lad m hm).len (by omega)) ?_
  have := L.pm.length_eq
  unfold nms at this
  rw [List.length_map] at this
  have := L.len
  omega

variable {lo hi : Nat} {xl xh : Str}
def bk (p : List Mod) (xh xl : Str) : List Mod := giveI p xh (impOf p xh ++ [xl])
theorem Ladr.nlow (L : Ladr p ms) (el : ms[lo]? = some xl) (eh : ms[hi]? = some xh) (h : lo < hi) : xl ∉ impOf p xh := fun z => by
  obtain ⟨j, lj, ej⟩ := (L.at eh).2.1 _ z
  have := idx_inj L.nd el ej
  omega
theorem bk_imp (L : Ladr p ms) (eh : ms[hi]? = some xh) : impOf (bk p xh xl) xh = impOf p xh ++ [xl] := by
  unfold bk
  rw [impOf_give (L.at eh).1]
  simp [giv]
theorem bk_oth (L : Ladr p ms) (eh : ms[hi]? = some xh) {y : Str} (h : y ≠ xh) : impOf (bk p xh xl) y = impOf p y := by
  unfold bk
  rw [impOf_give (L.at eh).1]
  simp [giv, h]
theorem bk_nms : nms (bk p xh xl) = nms p := nms_give _ _ _
theorem bk_ok (L : Ladr p ms) (el : ms[lo]? = some xl) (eh : ms[hi]? = some xh) : (∀ i ∈ impOf p xh ++ [xl], i ∈ nms p) := fun i hi' => by
  rcases List.mem_append.mp hi' with z | z
  · obtain ⟨j, _, ej⟩ := (L.at eh).2.1 _ z
    exact (L.at ej).1
  · have : i = xl := by simpa using z
    exact this ▸ (L.at el).1
theorem bk_pj (L : Ladr p ms) (el : ms[lo]? = some xl) (eh : ms[hi]? = some xh) : Pj (bk p xh xl) := by
  refine L.pj.give (bk_ok L el eh) ?_
  rw [List.length_append]
  have := (L.at eh).2.2.2.2
  show _ + 1 ≤ 60
  omega
/-- an edge: up, or the one back -/
theorem bk_edge (L : Ladr p ms) (eh : ms[hi]? = some xh) {x y : Str} {i : Nat} (ex : ms[i]? = some x) (h : y ∈ impOf (bk p xh xl) x) : (∃ j : Nat, i < j ∧ ms[j]? = some y) ∨ (x = xh ∧ y = xl) := by
  by_cases hx : x = xh
  · subst hx
    rw [bk_imp L eh] at h
    rcases List.mem_append.mp h with z | z
    · exact .inl ((L.at ex).2.1 _ z)
    · exact .inr ⟨rfl, by simpa using z⟩
  · rw [bk_oth L eh hx] at h
    exact .inl ((L.at ex).2.1 _ h)
theorem bk_next (L : Ladr p ms) (eh : ms[hi]? = some xh) {x y : Str} {i : Nat} (ex : ms[i]? = some x) (ey : ms[i + 1]? = some y) : y ∈ impOf (bk p xh xl) x := by
  by_cases hx : x = xh
  · subst hx
    rw [bk_imp L eh]
    exact List.mem_append_left _ ((L.at ex).2.2.1 _ ey)
  · rw [bk_oth L eh hx]
    exact (L.at ex).2.2.1 _ ey
/-- the ring -/
def ring (ms : List Str) (lo hi : Nat) : List Str := (ms.take (hi + 1)).drop lo
theorem ring_len (h2 : hi < ms.length) : (ring ms lo hi).length = hi + 1 - lo := by
  unfold ring
  rw [List.length_drop, List.length_take]
  omega
theorem ring_at {i : Nat} (h2 : hi < ms.length) (h : i < hi + 1 - lo) : (ring ms lo hi)[i]? = ms[lo + i]? := by
  unfold ring
  rw [List.getElem?_drop, List.getElem?_take, if_pos (by omega)]
theorem ring_mem (h1 : lo ≤ hi) (h2 : hi < ms.length) {x : Str} {i : Nat} (e : ms[i]? = some x) (a : lo ≤ i) (b : i ≤ hi) : x ∈ ring ms lo hi := by
  refine List.mem_of_getElem? (i := i - lo) ?_
  rw [ring_at h2 (by omega), ← e]
  congr 1
  omega
theorem ring_cyc (L : Ladr p ms) (el : ms[lo]? = some xl) (eh : ms[hi]? = some xh) (h : lo < hi) : CycRow (bk p xh xl) (ring ms lo hi) := by
  have h2 : hi < ms.length := (List.getElem?_eq_some_iff.mp eh).1
  have len := ring_len (lo := lo) h2
  refine ⟨fun z => ?_, ?_, ?_, ?_⟩
  · rw [z] at len
    simp at len
    omega
  · exact (L.nd.sublist (List.take_sublist _ _)).sublist (List.drop_sublist _ _)
  · intro x hx
    rw [bk_nms]
    exact L.pm.mem_iff.mpr (List.mem_of_mem_take (List.mem_of_mem_drop hx))
  · intro i x y ex ey
    have hi' := (List.getElem?_eq_some_iff.mp ex).1
    rw [len] at hi' ey
    rw [ring_at h2 hi'] at ex
    by_cases hl : i + 1 < hi + 1 - lo
    · rw [Nat.mod_eq_of_lt hl, ring_at h2 hl] at ey
      exact bk_next L eh ex ey
    · have e : i + 1 = hi + 1 - lo := by omega
      rw [e, Nat.mod_self, ring_at h2 (by omega), Nat.add_zero, el] at ey
      cases ey
      have e3 : lo + i = hi := by omega
      rw [e3, eh] at ex
      cases ex
      rw [bk_imp L eh]
      simp
theorem bk_not (L : Ladr p ms) (el : ms[lo]? = some xl) (eh : ms[hi]? = some xh) (h : lo < hi) : ¬ Acyc (bk p xh xl) := fun z => acyc_no (by rw [bk_nms]; exact L.pj.wf.nd) z (ring_cyc L el eh h)
/-- the edge back stands in each ring -/
theorem bk_uses (L : Ladr p ms) (eh : ms[hi]? = some xh) {rs : List Str} (c : CycRow (bk p xh xl) rs) : ∃ i : Nat, rs[i]? = some xh ∧ rs[(i + 1) % rs.length]? = some xl := by
  apply Classical.byContradiction
  intro no
  refine acyc_no L.pj.wf.nd L.acyc ⟨c.ne, c.nd, fun x hx => ?_, fun i x y ex ey => ?_⟩
  · have := c.inn x hx
    rwa [bk_nms] at this
  · have hy := c.nxt i x y ex ey
    by_cases hx : x = xh
    · subst hx
      rw [bk_imp L eh] at hy
      rcases List.mem_append.mp hy with z | z
      · exact z
      · have : y = xl := by simpa using z
        subst this
        exact absurd ⟨i, ex, ey⟩ no
    · rw [bk_oth L eh hx] at hy
      exact hy
theorem bk_between (L : Ladr p ms) (el : ms[lo]? = some xl) (eh : ms[hi]? = some xh) (h : lo < hi) {rs : List Str} (c : CycRow (bk p xh xl) rs) : ∀ x ∈ rs, x ∈ ring ms lo hi := by
  obtain ⟨i, e1, e2⟩ := bk_uses L eh c
  have h2 : hi < ms.length := (List.getElem?_eq_some_iff.mp eh).1
  have hi' := (List.getElem?_eq_some_iff.mp e1).1
  have n0 : 0 < rs.length := by omega
  have inms : ∀ {k : Nat} {x : Str}, rs[k]? = some x → ∃ j : Nat, ms[j]? = some x := fun {k x} e => by
    have := c.inn x (List.mem_of_getElem? e)
    rw [bk_nms] at this
    exact L.pos this
  -- an edge whose place is not i goes up
  have up : ∀ {k a b : Nat} {x y : Str}, k ≠ i → rs[k]? = some x → rs[(k + 1) % rs.length]? = some y → ms[a]? = some x → ms[b]? = some y → a < b := fun {k a b x y} nk ex ey ea eb => by
    rcases bk_edge L eh ea (c.nxt k x y ex ey) with ⟨j, lj, ej⟩ | ⟨rfl, rfl⟩
    · have := idx_inj L.nd eb ej
      omega
    · exact absurd (idx_inj c.nd ex e1) nk
  have low : ∀ k : Nat, k < rs.length → ∀ x a, rs[(i + 1 + k) % rs.length]? = some x → ms[a]? = some x → lo ≤ a := by
    intro k
    induction k with
    | zero =>
      intro _ x a ex ea
      rw [Nat.add_zero, e2] at ex
      cases ex
      exact Nat.le_of_eq (idx_inj L.nd el ea)
    | succ k ih =>
      intro hk x a ex ea
      have hm : (i + 1 + k) % rs.length < rs.length := Nat.mod_lt _ n0
      have ez := List.getElem?_eq_getElem hm
      obtain ⟨b, eb⟩ := inms ez
      have ne : (i + 1 + k) % rs.length ≠ i := by
        by_cases q : i + 1 + k < rs.length
        · rw [Nat.mod_eq_of_lt q]; omega
        · rw [Nat.mod_eq_sub_mod (by omega), Nat.mod_eq_of_lt (by omega)]; omega
      have := up ne ez (by rw [Nat.mod_add_mod]; exact ex) eb ea
      have := ih (by omega) _ _ ez eb
      omega
  have hig : ∀ k : Nat, k < rs.length → ∀ x a, rs[(i + (rs.length - k)) % rs.length]? = some x → ms[a]? = some x → a ≤ hi := by
    intro k
    induction k with
    | zero =>
      intro _ x a ex ea
      rw [Nat.sub_zero, Nat.add_mod_right, Nat.mod_eq_of_lt hi', e1] at ex
      cases ex
      exact Nat.le_of_eq (idx_inj L.nd ea eh)
    | succ k ih =>
      intro hk x a ex ea
      have hm : (i + (rs.length - k)) % rs.length < rs.length := Nat.mod_lt _ n0
      have ez := List.getElem?_eq_getElem hm
      obtain ⟨b, eb⟩ := inms ez
      have ne : (i + (rs.length - (k + 1))) % rs.length ≠ i := by
        by_cases q : i + (rs.length - (k + 1)) < rs.length
        · rw [Nat.mod_eq_of_lt q]; omega
        · rw [Nat.mod_eq_sub_mod (by omega), Nat.mod_eq_of_lt (by omega)]; omega
      have := up ne ex (by rw [Nat.mod_add_mod, show i + (rs.length - (k + 1)) + 1 = i + (rs.length - k) by omega]; exact ez) ea eb
      have := ih (by omega) _ _ ez eb
      omega
  intro x hx
  obtain ⟨k, ek⟩ := List.mem_iff_getElem?.mp hx
  have hk := (List.getElem?_eq_some_iff.mp ek).1
  obtain ⟨a, ea⟩ := inms ek
  refine ring_mem (Nat.le_of_lt h) h2 ea ?_ ?_
  · -- k = (i + 1 + d) % n
    by_cases q : i < k
    · refine low (k - (i + 1)) (by omega) x a ?_ ea
      rw [show i + 1 + (k - (i + 1)) = k by omega, Nat.mod_eq_of_lt hk]
      exact ek
    · refine low (rs.length - (i + 1) + k) (by omega) x a ?_ ea
      rw [show i + 1 + (rs.length - (i + 1) + k) = rs.length + k by omega, Nat.add_mod_left, Nat.mod_eq_of_lt hk]
      exact ek
  · by_cases q : k ≤ i
    · refine hig (i - k) (by omega) x a ?_ ea
      rw [show i + (rs.length - (i - k)) = k + rs.length by omega, Nat.add_mod_right, Nat.mod_eq_of_lt hk]
      exact ek
    · refine hig (i + rs.length - k) (by omega) x a ?_ ea
      rw [show i + (rs.length - (i + rs.length - k)) = k by omega, Nat.mod_eq_of_lt hk]
      exact ek
theorem rot_get {l : List Str} {t i : Nat} (ht : t ≤ l.length) (h : i < l.length) : (l.drop t ++ l.take t)[i]? = l[(i + t) % l.length]? := by
  by_cases q : i + t < l.length
  · rw [List.getElem?_append_left (by rw [List.length_drop]; omega), List.getElem?_drop, Nat.mod_eq_of_lt q, Nat.add_comm]
  · rw [List.getElem?_append_right (by rw [List.length_drop]; omega), List.length_drop, Nat.mod_eq_sub_mod (by omega), Nat.mod_eq_of_lt (by omega), List.getElem?_take, if_pos (by omega)]
    congr 1
    omega
theorem rot_cw {q : List Mod} {l : List Str} {t : Nat} (ht : t ≤ l.length) (c : CycRow q l) : cw q (l.drop t ++ l.take t) = true := by
  rw [cw_iff]
  intro i x y ex ey
  have n : (l.drop t ++ l.take t).length = l.length := by simp; omega
  have hi' := (List.getElem?_eq_some_iff.mp ex).1
  rw [n] at hi' ey
  have n0 : 0 < l.length := by omega
  rw [rot_get ht hi'] at ex
  rw [rot_get ht (Nat.mod_lt _ n0)] at ey
  refine c.nxt _ x y ex ?_
  rw [← ey]
  congr 1
  rw [Nat.mod_add_mod, Nat.mod_add_mod]
  congr 1
  omega
theorem ring_not (L : Ladr p ms) (el : ms[lo]? = some xl) (eh : ms[hi]? = some xh) (h : lo < hi) : cw p (ring ms lo hi) = false := by
  have c := ring_cyc L el eh h
  rw [Bool.eq_false_iff]
  intro z
  exact acyc_no L.pj.wf.nd L.acyc ⟨c.ne, c.nd, fun x hx => by have := c.inn x hx; rwa [bk_nms] at this, cw_iff.mp z⟩
theorem ring_rev (L : Ladr p ms) (el : ms[lo]? = some xl) (eh : ms[hi]? = some xh) (h : lo + 1 < hi) : cw (bk p xh xl) (ring ms lo hi).reverse = false := by
  rw [Bool.eq_false_iff]
  intro z
  have h2 : hi < ms.length := (List.getElem?_eq_some_iff.mp eh).1
  have len := ring_len (lo := lo) h2
  have hm : hi - 1 < ms.length := by omega
  have e1 : (ring ms lo hi).reverse[0]? = some xh := by
    rw [List.getElem?_reverse (by omega), len, ring_at h2 (by omega), ← eh]
    congr 1
    omega
  have e2 : (ring ms lo hi).reverse[(0 + 1) % (ring ms lo hi).reverse.length]? = some ms[hi - 1] := by
    rw [List.length_reverse, len, Nat.mod_eq_of_lt (by omega), List.getElem?_reverse (by omega), len, ring_at h2 (by omega), ← List.getElem?_eq_getElem hm]
    congr 1
    omega
  rcases bk_edge L eh eh (cw_iff.mp z 0 _ _ e1 e2) with ⟨j, lj, ej⟩ | ⟨_, e⟩
  · have := idx_inj L.nd (List.getElem?_eq_getElem hm) ej
    omega
  · rw [← e] at el
    have := idx_inj L.nd (List.getElem?_eq_getElem hm) el
    omega
end
end GL

set_option Elab.async false
set_option linter.all false
set_option maxRecDepth 100000
set_option maxHeartbeats 4000000
set_option exponentiation.threshold 100000
namespace GL
open PySem PySem.Spec PyProof.Rows L2
local macro_rules | `(tactic| walk_at "pu") => `(tactic| repeat' (first
  | ((with_reducible apply pu_var); rfl) | with_reducible exact pu_c | with_reducible exact pua_nil | ((with_reducible apply pur_i0); rfl) | with_reducible exact puu_neg | with_reducible exact puc_abs | with_reducible exact puc_intB
  | with_reducible exact puc_min | with_reducible exact puc_max | with_reducible exact puo_none
  | with_reducible apply pu_op | with_reducible apply pu_cb | with_reducible apply pua_cons | with_reducible refine put_test ?_ | with_reducible refine put_B ?_ | with_reducible refine put_not ?_ | with_reducible refine pu_notV ?_
  | with_reducible apply pu_un | with_reducible refine puo_some ?_ | ((with_reducible apply pur_i); rfl) | with_reducible exact pur_eq rfl | with_reducible exact pur_ne rfl | exact puc_lenL (by assumption) | exact puc_lenT (by assumption)
  | ((with_reducible apply pur_ixL); assumption) | ((with_reducible apply pur_ixT); assumption) | with_reducible apply pur_ixS | with_reducible apply pur_str))
local macro_rules | `(tactic| walk_at "side") => `(tactic| first
  | exact (show (0 : Int) < _ by decide) | exact Or.inl ⟨by decide, by decide⟩ | exact Or.inr ⟨by decide, by decide⟩ | exact Or.inl ⟨by omega, by omega⟩ | exact Or.inr ⟨by omega, by omega⟩
  | exact ⟨by decide, by decide, by decide⟩ | exact ⟨by decide, by decide⟩ | assumption | omega | exact ⟨by decide, by decide +kernel⟩)
open RM RZ
def spRight05 (K : PySem.W.Frag) : Sp := fun vs H Q _ => ∃ (a M : Addr) (ms : List Str) (N : Nat), vs = [.ref a, .ref M] ∧ Src H a N ∧ N + 2000 ≤ 900000 ∧ H M = some (.lst (ms.map V.str)) ∧ M ≠ a ∧ ms.Nodup ∧ (∀ y ∈ ms, NameOk y) ∧ 2 ≤ ms.length ∧ ms.length ≤ 60 ∧
  ∀ H', Keep [a] H H' → Src H' a (N + 1003) → Q (.bl true) H'
def t_right05 (K : PySem.W.Frag) : TS :=
  (tSeq (tAsg (tCall (spLadder05 K) [] E0 (tCons (tVar 0) (tCons (tVar 1) tNil))) (gName 2))
    (tSeq (tIfS (tTest (tOp rNotN (tCall (spCycle K) [] E0 (tCons (tVar 2) tNil)) (tC .non))) (tRet (tC (.bl false))) tNext)
    (tSeq (tAsg (tCall spDraw [] E0 (tCons (tVar 0) (tCons (tOp rSub (tCB (rLenQ K) (tCons (tVar 1) tNil)) (tC (.int 1))) tNil))) (gName 3))
    (tSeq (tAsg (tOp rAdd (tOp rAdd (tVar 3) (tC (.int 1))) (tCall spDraw [] E0 (tCons (tVar 0) (tCons (tOp rSub (tOp rSub (tCB (rLenQ K) (tCons (tVar 1) tNil)) (tC (.int 1))) (tVar 3)) tNil)))) (gName 4))
    (tSeq (tAsg (tCall (spWithImps K) [] E0 (tCons (tVar 2) (tCons (tOp (rIxL K) (tVar 1) (tVar 4)) (tCons (tOp (rCatA K) (tCall (spLImps K) [] E0 (tCons (tVar 2) (tCons (tOp (rIxL K) (tVar 1) (tVar 4)) tNil))) (tTup (tCons (tOp (rIxL K) (tVar 1) (tVar 3)) tNil))) tNil)))) (gName 5))
    (tSeq (tAsg (tTup (tCons (tCall (spCycle K) [] E0 (tCons (tVar 5) tNil)) (tCons (tCB (rTupQ K) (tCons (tSl (rSlL K) (tVar 1) (tPart (tVar 3)) (tPart (tOp rAdd (tVar 4) (tC (.int 1))))) tNil)) tNil))) (gTup K 2 (gCons (gName 6) (gCons (gName 7) gNil))))
    (tSeq (tIfS (tOr (tTest (tOp rIsN (tVar 6) (tC .non))) (tNot (tB (tCB (rAll K) (tCons (tLc (iTup K (tVar 6)) (gName 9) tYes (tOp (rIn K false) (tVar 9) (tVar 7)) [9]) tNil))))) (tRet (tC (.bl false))) tNext)
    (tSeq (tIfS (tOr (tTest (tOp rNotB (tCall (spShowsCyc K) [] E0 (tCons (tVar 5) (tCons (tVar 6) tNil))) (tC (.bl true)))) (tOr (tTest (tOp (rIn K true) (tOp (rIxL K) (tVar 1) (tVar 3)) (tVar 6))) (tTest (tOp (rIn K true) (tOp (rIxL K) (tVar 1) (tVar 4)) (tVar 6))))) (tRet (tC (.bl false))) tNext)
    (tSeq (tIfS (tTest (tOp rNe (tOp (rIxT K) (tVar 6) (tOp rMod (tOp rAdd (tTix (tVar 6) (tOp (rIxL K) (tVar 1) (tVar 4))) (tC (.int 1))) (tCB (rLenQ K) (tCons (tVar 6) tNil)))) (tOp (rIxL K) (tVar 1) (tVar 3)))) (tRet (tC (.bl false))) tNext)
    (tSeq (tAsg (tCall spDraw [] E0 (tCons (tVar 0) (tCons (tCB (rLenQ K) (tCons (tVar 7) tNil)) tNil))) (gName 8))
    (tSeq (tIfS (tOr (tNot (tB (tCall (spShowsCyc K) [] E0 (tCons (tVar 5) (tCons (tOp (rCatA K) (tSl (rSlA K) (tVar 7) (tPart (tVar 8)) tNoPart) (tSl (rSlA K) (tVar 7) tNoPart (tPart (tVar 8)))) tNil))))) (tB (tCall (spShowsCyc K) [] E0 (tCons (tVar 2) (tCons (tVar 7) tNil))))) (tRet (tC (.bl false))) tNext)
    (tRet (tOrV (tOp rLt (tCB (rLenQ K) (tCons (tVar 7) tNil)) (tC (.int 3))) (tNotV (tCall (spShowsCyc K) [] E0 (tCons (tVar 5) (tCons (tRevT K (tVar 7)) tNil)))))))))))))))))

def t_k05law (K : PySem.W.Frag) : TS :=
  (tSeq (tFor (iRng1 (tCons (tCB rMax2 (tCons (tC (.int 1)) (tCons (tCB rMin2 (tCons (tC (.int 2)) (tCons (tCB (rLenQ K) (tCons (tVar 0) tNil)) tNil))) tNil))) tNil)) (gName 1) (tSeq (tAsg (tCall (spStart K) [] E0 (tCons (tVar 0) (tCons (tVar 1) tNil))) (gName 2))
    (tFor (iTup K (tTup (tCons (tOp rAdd (tC (.int 2)) (tCall spDraw [] E0 (tCons (tVar 2) (tCons (tC (.int 9)) tNil)))) (tCons (tOp rAdd (tC (.int 2)) (tCall spDraw [] E0 (tCons (tVar 2) (tCons (tC (.int 59)) tNil)))) tNil)))) (gName 3) (tIfS (tNot (tB (tCall (spRight05 K) [] E0 (tCons (tVar 2) (tCons (tCall (spMixed K) [] E0 (tCons (tVar 2) (tCons (tCall (spMany K) [] E0 (tCons (tVar 3) tNil)) tNil))) tNil))))) (tRet (tC (.bl false))) tNext))))
    (tRet (tC (.bl true))))

theorem cut_ring {ms : List Str} {lo hi : Nat} (h : lo ≤ hi) (h2 : hi < ms.length) : cutV (ms.map V.str) (some (lo : Int)) (some ((hi : Int) + 1)) = (ring ms lo hi).map V.str := by
  unfold cutV ring
  rw [show (hi : Int) + 1 = ((hi + 1 : Nat) : Int) by omega, HT.sIx_nat, HT.sIx_nat, List.length_map, Nat.min_eq_left (by omega), Nat.min_eq_left (by omega), List.map_drop, List.map_take, List.drop_take]
section
variable {K : PySem.W.Frag}
set_option maxHeartbeats 8000000 in
theorem pure_right05 (vs : List V) (H : Hp) (Q : VK) (E : XK) (h : spRight05 K vs H Q E) : t_right05 K { nx := fun _ H' => Q .non H', rt := Q } (vs.map some ++ [none, none, none, none, none, none, none, none]) H := by
  obtain ⟨a, M, ms, N, rfl, hs, hN, eM, nMa, mnd, mok, ml2, ml, q⟩ := h
  unfold t_right05
  refine sq_doN (ad_call (ac_var rfl (ac_var rfl (ac_nil ⟨a, M, ms, N, rfl, hs, by omega, eM, nMa, mnd, mok, ml, fun H1 v p k1 s1 d1 ok pm lad => ?_⟩))))
  have L : Ladr p ms := ⟨ok, pm, mnd, lad, ml⟩
  have pj := L.pj
  refine sq_ifK (b := false) (ket_test fun Q q => al_op (ad_call (ac_var rfl (ac_nil ⟨v, p, rfl, d1, pj, fun H' k _ => ⟨rfl, ?_⟩, fun H' r rs _ _ _ c => (acyc_no pj.wf.nd L.acyc c).elim⟩)))) (fun z => by cases z) fun _ H2 k2 => sq_nx ?_
  · rw [decide_eq_true rfl]
    exact q _ k
  have eM2 : H2 M = some (.lst (ms.map V.str)) := k2 M _ (by simp) (k1 M _ (by simpa using nMa) eM)
  have sM2 : SqL K H2 M (ms.map V.str) := .inl (.inl eM2)
  have d2 := dp_proj_tk d1 k2.tk
  have s2 := s1.keep k2 (by simp)
  have k02 := k1.trans k2.of0
  clear k1 k2 d1 s1
  -- low
  refine sq_doN (ad_call (ac_var rfl (ac_pu (x := .int ((ms.map V.str).length - 1)) (by walk_at "pu") (ac_nil ⟨a, _, _, rfl, s2, by omega, by rw [List.length_map]; omega, by rw [List.length_map]; omega, fun H3 lo k3 s3 lo0 lo1 => ?_⟩))))
  obtain ⟨lo, rfl⟩ := Int.eq_ofNat_of_zero_le lo0
  rw [List.length_map] at lo1
  have eM3 := k3 M _ (by simpa using nMa) eM2
  have sM3 : SqL K H3 M (ms.map V.str) := .inl (.inl eM3)
  -- high
  refine sq_doN (al_opP (x := .int ((lo : Int) + 1)) (by walk_at "pu") (ad_call (ac_var rfl (ac_pu (x := .int ((ms.map V.str).length - 1 - (lo : Int))) (by walk_at "pu") (ac_nil ⟨a, _, _, rfl, s3, by omega, by rw [List.length_map]; omega, by rw [List.length_map]; omega, fun H4 dh k4 s4 dh0 dh1 => ⟨_, _, rfl, rfl, ?_⟩⟩)))))
  obtain ⟨dh, rfl⟩ := Int.eq_ofNat_of_zero_le dh0
  rw [List.length_map] at dh1
  have hb : lo + 1 + dh < ms.length := by omega
  simp only []
  rw [show (lo : Int) + 1 + (dh : Int) = ((lo + 1 + dh : Nat) : Int) by omega]
  have hlt : lo < lo + 1 + dh := by omega
  generalize lo + 1 + dh = hi at hb hlt ⊢
  clear dh0 dh1 lo0 lo1
  have el : ms[lo]? = some ms[lo] := List.getElem?_eq_getElem (by omega)
  have eh : ms[hi]? = some ms[hi] := List.getElem?_eq_getElem hb
  generalize ms[lo] = xl at el
  generalize ms[hi] = xh at eh
  have el' : (ms.map V.str)[lo]? = some (.str xl) := by rw [List.getElem?_map, el]; rfl
  have eh' : (ms.map V.str)[hi]? = some (.str xh) := by rw [List.getElem?_map, eh]; rfl
  have k24 := k3.trans k4
  have k04 := k02.trans k24
  have eM4 := k24 M _ (by simpa using nMa) eM2
  have d4 := dp_proj_tk d2 (s2.tk k24)
  have sM4 : SqL K H4 M (ms.map V.str) := .inl (.inl eM4)
  clear k3 k4 k24 s3 s2 d2 eM2 eM3 sM2 sM3 k02
  have ixh : ∀ {σ : L2.St} {H' : Hp} {j : Nat}, SqL K H' M (ms.map V.str) → σ[1]? = some (some (.ref M)) → σ[4]? = some (some (.int (hi : Int))) → Pu (tOp (rIxL K) (tVar 1) (tVar 4)) σ H' (.str xh) := fun sm e1 e2 => pu_op (pu_var e1) (pu_var e2) (pur_ixL sm (atI_in eh'))
  have ixl : ∀ {σ : L2.St} {H' : Hp} {j : Nat}, SqL K H' M (ms.map V.str) → σ[1]? = some (some (.ref M)) → σ[3]? = some (some (.int (lo : Int))) → Pu (tOp (rIxL K) (tVar 1) (tVar 3)) σ H' (.str xl) := fun sm e1 e2 => pu_op (pu_var e1) (pu_var e2) (pur_ixL sm (atI_in el'))
  have pl : p.length ≤ 1000 := by have := pj.wf.pl; omega
  obtain ⟨hn, himp, _, hnd, hil⟩ := L.at eh
  -- back
  refine sq_doN (ad_call (ac_var rfl (ac_pu (ixh (j := 0) sM4 rfl rfl) (al_cons (al_op (ad_call (ac_var rfl (ac_pu (ixh (j := 0) sM4 rfl rfl) (ac_nil ⟨v, xh, p, rfl, d4, pj.wf.nd, pl, hn, fun H5 u k5 su => ?_⟩)))))))))
  have sM5 := k5.sql (by simp) sM4
  refine al_tup (vs := [.str xl]) (pua_cons (ixl (j := 0) sM5 rfl rfl) pua_nil) (by show 1 ≤ sizeLine; decide) fun t nt => ?_
  have kt : Keep [] H5 (upd H5 t (.tup [.str xl])) := .new nt
  have et : SqT K (upd H5 t (.tup [.str xl])) t [.str xl] := .inl (.inl upd_same)
  generalize upd H5 t (.tup [.str xl]) = H6 at kt et ⊢
  refine ad_catB (kt.sqt (by simp) su) et ?_ fun H7 r k7 sr => ac_nil ?_
  · rw [List.length_map]
    exact sz (by show _ + 1 ≤ _; omega)
  have sr' : SqT K H7 r ((impOf p xh ++ [xl]).map V.str) := by rw [List.map_append]; exact sr
  have k47 : Keep [] H4 H7 := (k5.trans kt).trans k7
  have d7 := dp_proj_tk d4 k47.tk
  refine ⟨v, xh, r, p, impOf p xh ++ [xl], rfl, d7, pj.wf.nd, pl, hn, sr', bk_ok L el eh, ?_, ?_, ?_, fun H8 w k8 dw => ?_⟩
  · intro z
    rcases List.mem_append.mp z with z | z
    · obtain ⟨j, lj, ej⟩ := himp _ z
      have := idx_inj mnd eh ej
      omega
    · have e : xh = xl := by simpa using z
      rw [e] at eh
      have := idx_inj mnd eh el
      omega
  · refine List.nodup_append.mpr ⟨hnd, by simp, fun x hx y hy => ?_⟩
    have : y = xl := by simpa using hy
    subst this
    rintro rfl
    exact L.nlow el eh hlt hx
  · rw [List.length_append]
    show _ + 1 ≤ 20
    omega
  have k48 := k47.trans k8
  have dw : Dp K H8 (.ref w) (projD (bk p xh xl)) := dw
  have pjb := bk_pj L el eh
  have d8 := dp_proj_tk d4 k48.tk
  have s8 := s4.keep k48 (by simp)
  have sM8 := k48.sql (by simp) sM4
  have k08 := k04.trans k48.of0
  clear k5 k7 k8 kt k47 d7 d4 s4 k48 k04 sr sr' su et sM5 sM4
  -- found, ring
  refine sq_do (ad_tup (ac_call (ac_var rfl (ac_nil ⟨.ref w, bk p xh xl, rfl, dw, pjb, fun H' _ z => (bk_not L el eh hlt z).elim, fun H9 f rs k9 nf fz c => ?_⟩))))
  have sM9 := k9.sql (by simp) sM8
  refine al_cons (al_cons (ad_sl ((pu_var rfl : Pu (tVar 1) _ _ _) _ ((puo_some (pu_var rfl) : PuO _ _ _ (some (lo : Int))) _ ((puo_some (by walk_at "pu") : PuO _ _ _ (some ((hi : Int) + 1))) _ ⟨M, _, rfl, sM9, fun O nO => ?_⟩)))))
  rw [cut_ring (Nat.le_of_lt hlt) hb]
  refine ac_nil ⟨O, _, rfl, .inl ⟨.inl (.inl upd_same), fun g ng => ac_nil ⟨by show 2 ≤ sizeLine; decide, fun W nW => ?_⟩⟩⟩
  have kO : Keep [] H9 (upd H9 O (.lst ((ring ms lo hi).map V.str))) := .new nO
  generalize upd H9 O (.lst ((ring ms lo hi).map V.str)) = H10 at kO ng nW ⊢
  have kg : Keep [] H10 (upd H10 g (.tup ((ring ms lo hi).map V.str))) := .new ng
  have sg : SqT K (upd H10 g (.tup ((ring ms lo hi).map V.str))) g ((ring ms lo hi).map V.str) := .inl (.inl upd_same)
  generalize upd H10 g (.tup ((ring ms lo hi).map V.str)) = H11 at kg sg nW ⊢
  have kW : Keep [] H11 (upd H11 W (.tup [.ref f, .ref g])) := .new nW
  have sW : SqT K (upd H11 W (.tup [.ref f, .ref g])) W [.ref f, .ref g] := .inl (.inl upd_same)
  generalize upd H11 W (.tup [.ref f, .ref g]) = H12 at kW sW ⊢
  refine g_tup2 sW ?_
  have k912 := (kO.trans kg).trans kW
  have k812 := k9.trans k912
  have fz12 := fz.keep k912 (by simp)
  have sg12 := kW.sqt (by simp) sg
  have sM12 := k812.sql (by simp) sM8
  have dw12 := dp_proj_tk dw k812.tk
  have d12 := dp_proj_tk d8 k812.tk
  have s12 := s8.keep k812 (by simp)
  have k012 := k08.trans k812.of0
  clear k9 kO kg kW k912 k812 fz sg sW sM9 sM8 dw d8 s8 k08 nW ng nO
  have cb := bk_between L el eh hlt c
  have rsl : rs.length ≤ 1000 := by
    have h1 : rs.Subset (ring ms lo hi) := fun x hx => cb x hx
    have h2 := List.Nodup.length_le_of_subset c.nd h1
    rw [ring_len hb] at h2
    omega
  have rin : ∀ x ∈ rs, x ∈ nms (bk p xh xl) := c.inn
  -- all in the ring
  refine sq_ifK (b := false || !true) (ket_or (a := false) (ket_test (Pu.ke (pu_op (pu_var rfl) pu_c fun Q q => ⟨rfl, ?_⟩))) fun _ H13 k13 => ket_not (ket_B ?_)) (fun z => by cases z) fun _ H13 k13 => sq_nx ?_
  · rw [decide_eq_false (by intro z; cases z)]
    exact q
  · have e : true = ((List.range (rs.map V.str).length).all fun i => decide ((rs[i]?.getD Str.empty) ∈ ring ms lo hi)) := by
      symm
      rw [List.all_eq_true]
      intro i hi2
      rw [List.mem_range, List.length_map] at hi2
      have e1 : rs[i]? = some rs[i] := List.getElem?_eq_getElem hi2
      rw [e1]
      exact decide_eq_true (cb _ (List.mem_of_getElem? e1))
    rw [e]
    refine ke_all (it := fun i => .str (rs[i]?.getD Str.empty)) (f := fun i => decide ((rs[i]?.getD Str.empty) ∈ ring ms lo hi)) (pu_var rfl) (k13.sqt (by simp) fz12.sqt) (by rw [List.length_map]; omega) (fun i x e => ?_) (fun _ => rfl) fun i H14 hi4 k14 => Pu.ke (pu_op (pu_var rfl) (pu_var rfl) (pur_in (.inl (k14.sqt (by simp) (k13.sqt (by simp) sg12)))))
    · obtain ⟨z, e1, rfl⟩ := ex_map e
      rw [e1]
      rfl
  have fz13 := fz12.keep k13 (by simp)
  have sg13 := k13.sqt (by simp) sg12
  have sM13 := k13.sql (by simp) sM12
  have dw13 := dp_proj_tk dw12 k13.tk
  have d13 := dp_proj_tk d12 k13.tk
  have s13 := s12.keep k13 (by simp)
  have k013 := k012.trans k13.of0
  clear k13 fz12 sg12 sM12 dw12 d12 s12 k012
  obtain ⟨i, ei1, ei2⟩ := bk_uses L eh c
  have hlow : xl ∈ rs := List.mem_of_getElem? ei2
  have hhigh : xh ∈ rs := List.mem_of_getElem? ei1
  have cwr : cw (bk p xh xl) rs = true := cw_iff.mpr c.nxt
  -- shows_cycle(back, found)
  refine sq_ifK (b := false || (!true || !true)) (ket_or (a := false) (ket_test fun Q q => al_op (ad_call (ac_var rfl (ac_var rfl (ac_nil ⟨_, f, _, rs, rfl, dw13, pjb, fz13.sqt, c.ne, rsl, rin, fun H' k => ⟨_, _, rfl, rfl, ?_⟩⟩))))) fun _ H14 k14 => ket_or (a := !true) (ket_test (Pu.ke (pu_op (ixl (j := 0) (k14.sql (by simp) sM13) rfl rfl) (pu_var rfl) fun Q q => pur_notin (.inl (k14.sqt (by simp) fz13.sqt)) Q ?_))) fun _ H15 k15 => ket_test (Pu.ke (pu_op (ixh (j := 0) ((k14.trans k15).sql (by simp) sM13) rfl rfl) (pu_var rfl) fun Q q => pur_notin (.inl ((k14.trans k15).sqt (by simp) fz13.sqt)) Q ?_))) (fun z => by cases z) fun _ H14 k14 => sq_nx ?_
  · rw [cwr, decide_eq_true rfl]
    exact q _ k
  · rw [decide_eq_true hlow]
    exact q
  · rw [decide_eq_true hhigh]
    exact q
  have fz14 := fz13.keep k14 (by simp)
  have sg14 := k14.sqt (by simp) sg13
  have sM14 := k14.sql (by simp) sM13
  have dw14 := dp_proj_tk dw13 k14.tk
  have d14 := dp_proj_tk d13 k14.tk
  have s14 := s13.keep k14 (by simp)
  have k014 := k013.trans k14.of0
  clear k14 fz13 sg13 sM13 dw13 d13 s13 k013
  have sf14 : SqT K H14 f (rs.map V.str) := fz14.sqt
  have ilt := (List.getElem?_eq_some_iff.mp ei1).1
  -- the edge back
  refine sq_if (b := !decide (V.str xl = V.str xl)) (put_test (pu_op (x := .str xl) (y := .str xl) (pu_op (x := .ref f) (y := .int (((i : Int) + 1) % ((rs.map V.str).length : Int))) (pu_var rfl) (pu_op (x := .int ((i : Int) + 1)) (y := .int ((rs.map V.str).length : Int)) (pu_op (x := .int (i : Int)) (y := .int 1) (fun Q q => (pu_var rfl : Pu (tVar 6) _ _ _) _ ⟨f, rs, rfl, fz14, (ixh (j := 0) sM14 rfl rfl) _ ⟨xh, i, rfl, fz14, ei1, fun m hm z => ?_, q⟩⟩) pu_c (pur_i0 rfl)) (pu_cb (pua_cons (pu_var rfl) pua_nil) (puc_lenT sf14)) ?_) (pur_ixT sf14 ?_)) (ixl (j := 0) sM14 rfl rfl) (pur_ne rfl))) (fun z => ?_) fun _ => sq_nx ?_
  · have := idx_inj c.nd z ei1
    omega
  · rw [List.length_map]
    refine pur_i rfl ?_
    walk_at "side"
  · rw [List.length_map, show ((i : Int) + 1) % (rs.length : Int) = (((i + 1) % rs.length : Nat) : Int) by rw [Int.natCast_emod, Int.natCast_add]; rfl]
    refine atI_in ?_
    rw [List.getElem?_map, ei2]
    rfl
  · rw [decide_eq_true rfl] at z
    cases z
  -- turn
  refine sq_doN (ad_call (ac_var rfl (ac_pu (x := .int (((ring ms lo hi).map V.str).length)) (pu_cb (pua_cons (pu_var rfl) pua_nil) (puc_lenT sg14)) (ac_nil ⟨a, _, _, rfl, s14, by omega, by rw [List.length_map, ring_len hb]; omega, by rw [List.length_map, ring_len hb]; omega, fun H15 t k15 s15 t0 t1 => ?_⟩))))
  obtain ⟨t, rfl⟩ := Int.eq_ofNat_of_zero_le t0
  rw [List.length_map] at t1
  have tk15 := s14.tk k15
  have sg15 : SqT K H15 g ((ring ms lo hi).map V.str) := tk15.sqt sg14
  have dw15 := dp_proj_tk dw14 tk15
  have d15 := dp_proj_tk d14 tk15
  have k015 := k014.trans k15
  clear fz14 sg14 sM14 dw14 d14 s14 k014 sf14 k15
  have rc := ring_cyc L el eh hlt
  have rl : (ring ms lo hi).length ≤ 1000 := by rw [ring_len hb]; omega
  have rinp : ∀ x ∈ ring ms lo hi, x ∈ nms p := fun x hx => L.pm.mem_iff.mpr (List.mem_of_mem_take (List.mem_of_mem_drop hx))
  have rot : ∀ x ∈ (ring ms lo hi).drop t ++ (ring ms lo hi).take t, x ∈ nms (bk p xh xl) := fun x hx => by
    rw [bk_nms]
    rcases List.mem_append.mp hx with z | z
    · exact rinp x (List.mem_of_mem_drop z)
    · exact rinp x (List.mem_of_mem_take z)
  refine sq_ifK (b := !true || false) (ket_or (a := !true) (ket_not (ket_B fun Q q => ad_call (ac_var rfl (al_cons (al_op (ad_sl ((pu_var rfl : Pu (tVar 7) _ _ _) _ ((puo_some (pu_var rfl) : PuO _ _ _ (some (t : Int))) _ (puo_none _ (ad_slA sg15 fun H16 r1 k16 s16 => ?_)))))))))) fun _ H17 k17 => ket_B fun Q q => ad_call (ac_var rfl (ac_var rfl (ac_nil ⟨_, g, p, _, rfl, dp_proj_tk d15 k17.tk, pj, k17.sqt (by simp) sg15, rc.ne, rl, rinp, fun H' k => ?_⟩)))) (fun z => by cases z) fun _ H16 k16 => sq_nx ?_
  · rw [cut_dropA, ← List.map_drop] at s16
    refine ad_sl ((pu_var rfl : Pu (tVar 7) _ _ _) _ (puo_none _ ((puo_some (pu_var rfl) : PuO _ _ _ (some (t : Int))) _ (ad_slA (k16.sqt (by simp) sg15) fun H17 r2 k17 s17 => ?_))))
    rw [cut_take, ← List.map_take] at s17
    refine ad_catB (k17.sqt (by simp) s16) s17 ?_ fun H18 r3 k18 s18 => ac_nil ?_
    · simp only [List.length_map, List.length_drop, List.length_take]
      exact sz (by omega)
    rw [← List.map_append] at s18
    have kk := (k16.trans k17).trans k18
    refine ⟨_, r3, _, _, rfl, dp_proj_tk dw15 kk.tk, pjb, s18, fun z => ?_, ?_, rot, fun H' k => ?_⟩
    · have := congrArg List.length z
      simp only [List.length_append, List.length_drop, List.length_take, List.length_nil] at this
      omega
    · simp only [List.length_append, List.length_drop, List.length_take]
      omega
    · rw [rot_cw (by omega) rc]
      exact q _ (kk.trans k)
  · rw [ring_not L el eh hlt]
    exact q _ k
  have sg16 := k16.sqt (by simp) sg15
  have dw16 := dp_proj_tk dw15 k16.tk
  have s16 := s15.keep k16 (by simp)
  have k016 := k015.trans k16.of0
  refine su_retE ?_
  have e3 : (((ring ms lo hi).map V.str).length : Int) = ((hi + 1 - lo : Nat) : Int) := by rw [List.length_map, ring_len hb]
  refine (pu_op (pu_cb (pua_cons (pu_var rfl) pua_nil) (puc_lenT sg16)) pu_c (pur_i0 rfl) : Pu _ _ _ (.bl (decide (((((ring ms lo hi).map V.str).length : Nat) : Int) < 3)))) _ ⟨_, rfl, ?_⟩
  rw [e3]
  by_cases h3 : ((hi + 1 - lo : Nat) : Int) < 3
  · rw [decide_eq_true h3]
    exact q _ k016 (s16.mono (by omega))
  · rw [decide_eq_false h3]
    rw [if_neg (by decide)]
    refine ad_call (ac_var rfl (al_cons ?_))
    refine (pu_var rfl : Pu (tVar 7) _ _ _) _ ⟨g, _, rfl, sg16, fun z nz => ac_nil ?_⟩
    have kz : Keep [] H16 (upd H16 z (.tup ((ring ms lo hi).map V.str).reverse)) := .new nz
    have sz' : SqT K (upd H16 z (.tup ((ring ms lo hi).map V.str).reverse)) z ((ring ms lo hi).reverse.map V.str) := by
      rw [List.map_reverse]
      exact .inl (.inl upd_same)
    generalize upd H16 z (.tup ((ring ms lo hi).map V.str).reverse) = H17 at kz sz' ⊢
    refine ⟨_, z, _, _, rfl, dp_proj_tk dw16 kz.tk, pjb, sz', fun e => rc.ne (by simpa using e), by rw [List.length_reverse]; exact rl, fun x hx => by rw [bk_nms]; exact rinp x (List.mem_reverse.mp hx), fun H' k => ⟨_, rfl, ?_⟩⟩
    rw [ring_rev L el eh (by omega)]
    have kk := kz.trans k
    exact q _ (k016.trans kk.of0) ((s16.keep kk (by simp)).mono (by omega))
end
end GL

set_option Elab.async false
set_option linter.all false
set_option maxRecDepth 100000
set_option maxHeartbeats 4000000
set_option exponentiation.threshold 100000
namespace GL
open PySem PySem.Spec PyProof.Rows L2
local macro_rules | `(tactic| walk_at "pu") => `(tactic| repeat' (first
  | ((with_reducible apply pu_var); rfl) | with_reducible exact pu_c | with_reducible exact pua_nil | ((with_reducible apply pur_i0); rfl) | with_reducible exact puu_neg | with_reducible exact puc_abs | with_reducible exact puc_intB
  | with_reducible exact puc_min | with_reducible exact puc_max | with_reducible exact puo_none
  | with_reducible apply pu_op | with_reducible apply pu_cb | with_reducible apply pua_cons | with_reducible refine put_test ?_ | with_reducible refine put_B ?_ | with_reducible refine put_not ?_ | with_reducible refine pu_notV ?_
  | with_reducible apply pu_un | with_reducible refine puo_some ?_ | ((with_reducible apply pur_i); rfl) | with_reducible exact pur_eq rfl | with_reducible exact pur_ne rfl | exact puc_lenL (by assumption) | exact puc_lenT (by assumption)
  | ((with_reducible apply pur_ixL); assumption) | ((with_reducible apply pur_ixT); assumption) | with_reducible apply pur_ixS | with_reducible apply pur_str))
local macro_rules | `(tactic| walk_at "side") => `(tactic| first
  | exact (show (0 : Int) < _ by decide) | exact Or.inl ⟨by decide, by decide⟩ | exact Or.inr ⟨by decide, by decide⟩ | exact Or.inl ⟨by omega, by omega⟩ | exact Or.inr ⟨by omega, by omega⟩
  | exact ⟨by decide, by decide, by decide⟩ | exact ⟨by decide, by decide⟩ | assumption | omega | exact ⟨by decide, by decide +kernel⟩)
open RM RZ
section
variable {K : PySem.W.Frag}
theorem pure_k05law (vs : List V) (H : Hp) (Q : VK) (E : XK) (h : spLaw K vs H Q E) : t_k05law K { nx := fun _ H' => Q .non H', rt := Q } (vs.map some ++ [none, none, none]) H := by
  obtain ⟨a, ns, rfl, hS, hn, q⟩ := h
  unfold t_k05law
  refine sq_forR (pu_cells rfl hS) (by split <;> split <;> omega) (by split <;> split <;> omega) (fun i σ' H' => ∃ y1 y2 y3, σ' = [some (.ref a), y1, y2, y3] ∧ Keep [] H H') ⟨_, _, _, rfl, .refl⟩ ?_ ?_
  · rintro i σ' H' hi ⟨y1, y2, y3, rfl, kk⟩
    refine sq_doN (ad_call (ac_var rfl (ac_var rfl (ac_nil ⟨a, ns, i, rfl, kk.sql (by simp) hS, ?_, fun H1 b k1 nb s1 => ?_⟩))))
    · split at hi <;> (try split at hi) <;> omega
    have nbH : H b = none := kk.back (by simp) nb
    have kk1 := kk.trans k1
    generalize hD : Ends.mk _ _ _ _ = D
    unfold tFor iTup
    refine ad_tup ?_
    refine (al_cons (al_opP pu_c (ad_call (ac_var rfl (ac_pu pu_c (ac_nil ⟨b, 9, _, rfl, s1, by omega, by decide, by decide, fun H2 r1 k2 s2 r10 r11 => ⟨_, _, rfl, rfl, al_cons (al_opP pu_c (ad_call (ac_var rfl (ac_pu pu_c (ac_nil ⟨b, 59, _, rfl, s2, by omega, by decide, by decide, fun H3 r2 k3 s3 r20 r21 => ⟨_, _, rfl, rfl, ac_nil ⟨by show 2 ≤ sizeLine; decide, fun T nT => ?_⟩⟩⟩)))))⟩⟩))))))
    have kk3 := (kk1.drop k2 nbH).drop k3 nbH
    simp only []
    obtain ⟨r1, rfl⟩ := Int.eq_ofNat_of_zero_le r10
    obtain ⟨r2, rfl⟩ := Int.eq_ofNat_of_zero_le r20
    rw [show (2 : Int) + (r1 : Int) = ((2 + r1 : Nat) : Int) by omega, show (2 : Int) + (r2 : Int) = ((2 + r2 : Nat) : Int) by omega]
    have h1 : 2 + r1 ≤ 60 := by omega
    have h2 : 2 + r2 ≤ 60 := by omega
    have kT : Keep [] H3 (upd H3 T (.tup [.int ((2 + r1 : Nat) : Int), .int ((2 + r2 : Nat) : Int)])) := .new nT
    have sT : SqT K (upd H3 T (.tup [.int ((2 + r1 : Nat) : Int), .int ((2 + r2 : Nat) : Int)])) T [.int ((2 + r1 : Nat) : Int), .int ((2 + r2 : Nat) : Int)] := .inl (.inl upd_same)
    generalize upd H3 T (.tup [.int ((2 + r1 : Nat) : Int), .int ((2 + r2 : Nat) : Int)]) = H4 at kT sT ⊢
    refine ⟨T, rfl, ⟨_, sT⟩, for_tup (fun j σ' H' => ∃ y3, σ' = [some (.ref a), some (.int i), some (.ref b), y3] ∧ Keep [] H H' ∧ Src H' b (2 + j * 1100) ∧ SqT K H' T [.int ((2 + r1 : Nat) : Int), .int ((2 + r2 : Nat) : Int)]) ⟨_, rfl, kk3.trans kT, s3.keep kT (by simp), sT⟩ (fun _ _ _ _ ⟨_, _, _, _, h⟩ => h) ?_ ?_⟩
    · rintro j x σ' H5 ej ⟨z3, rfl, kk5, s5, sT5⟩
      have hj : j < 2 := (List.getElem?_eq_some_iff.mp ej).1
      obtain ⟨c, rfl, c2, c60⟩ : ∃ c : Nat, x = .int (c : Int) ∧ 2 ≤ c ∧ c ≤ 60 := by
        match j, hj, ej with
        | 0, _, e => exact ⟨2 + r1, (Option.some.inj e).symm, by omega, h1⟩
        | 1, _, e => exact ⟨2 + r2, (Option.some.inj e).symm, by omega, h2⟩
      refine (show tIfS _ _ _ _ _ _ from ?_)
      refine ad_call (ac_var rfl (ac_call (ac_var rfl (ac_call (ac_var rfl (ac_nil ⟨c, rfl, by omega, fun H6 r k6 nr er => ac_nil ⟨b, r, _, _, rfl, s5.keep k6 (by simp), ?_, .inl (.inl (.inl er)), s5.ne nr, ?_, fun H7 M ys k7 s7 nM eM pm => ac_nil ?_⟩⟩))))))
      · rw [List.length_map, List.length_take]
        omega
      · rw [List.length_map, List.length_take]
        omega
      obtain ⟨ms, rfl, pms⟩ := strs_perm pm
      have ml : ms.length = c := by rw [pms.length_eq, List.length_take, many_len]; omega
      rw [List.length_map, ← pms.length_eq, ml] at s7
      have nMb : M ≠ b := (s5.keep k6 (by simp)).ne nM
      refine ⟨b, M, ms, _, rfl, s7, by omega, eM, nMb, pms.nodup_iff.mpr (many_nodup.sublist (List.take_sublist _ _)), fun y hy => many_ok y (List.mem_of_mem_take (pms.mem_iff.mp hy)), by omega, by omega, fun H8 k8 s8 => ⟨_, rfl, ?_⟩⟩
      exact ⟨_, rfl, ((kk5.trans k6).drop k7 nbH).drop k8 nbH, s8.mono (by omega), (s7.tk k8).sqt (((s5.keep k6 (by simp)).tk k7).sqt (k6.sqt (by simp) sT5))⟩
    · rintro σ' H5 ⟨z3, rfl, kk5, _⟩
      rw [← hD]
      exact ⟨_, _, _, rfl, kk5⟩
  · rintro σ' H' ⟨y1, y2, y3, rfl, kk⟩
    exact su_ret pu_c (q _)
end
end GL

set_option Elab.async false
set_option linter.all false
set_option maxRecDepth 100000
set_option maxHeartbeats 0
set_option exponentiation.threshold 100000
namespace GL.Ck05
open PySem PySem.Spec PyProof.Rows L2
def topS (i : Nat) : Stmt := PySem.Challenge.pw_importorder_k05_whole_rings_by_construct.main.body.getD i (.Pass ⟨0, 0, 0, 0⟩)
abbrev s_areDiff : Stmt := topS 6
abbrev nm_areDiff : List Str := ["values"]
theorem sc_areDiff : FnScope nm_areDiff ["values"] (defScope s_areDiff) := ⟨rfl, rfl, rfl, by decide +kernel, rfl, by decide +kernel, by decide +kernel⟩
abbrev s_byName : Stmt := topS 7
abbrev nm_byName : List Str := ["project", "module"]
theorem sc_byName : FnScope nm_byName ["project"] (defScope s_byName) := ⟨rfl, rfl, rfl, by decide +kernel, rfl, by decide +kernel, by decide +kernel⟩
abbrev s_chk : Stmt := topS 8
abbrev nm_chk : List Str := ["project", "names", "known", "name"]
theorem sc_chk : FnScope nm_chk ["project", "names"] (defScope s_chk) := ⟨rfl, rfl, rfl, by decide +kernel, rfl, by decide +kernel, by decide +kernel⟩
abbrev s_cycle : Stmt := topS 9
abbrev nm_cycle : List Str := ["project", "left", "free", "name", "row", "module", "other"]
theorem sc_cycle : FnScope nm_cycle ["project"] (defScope s_cycle) := ⟨rfl, rfl, rfl, by decide +kernel, rfl, by decide +kernel, by decide +kernel⟩
abbrev s_showsCyc : Stmt := topS 10
abbrev nm_showsCyc : List Str := ["project", "value", "known", "name", "other"]
theorem sc_showsCyc : FnScope nm_showsCyc ["project", "value"] (defScope s_showsCyc) := ⟨rfl, rfl, rfl, by decide +kernel, rfl, by decide +kernel, by decide +kernel⟩
abbrev s_withImps : Stmt := topS 11
abbrev nm_withImps : List Str := ["project", "name", "imports", "known", "other", "module"]
theorem sc_withImps : FnScope nm_withImps ["project", "name", "imports"] (defScope s_withImps) := ⟨rfl, rfl, rfl, by decide +kernel, rfl, by decide +kernel, by decide +kernel⟩
abbrev s_start : Stmt := topS 13
abbrev nm_start : List Str := ["_law_script", "_law_k", "_law_cell", "_law_large"]
theorem sc_start : FnScope nm_start ["_law_script", "_law_k"] (defScope s_start) := ⟨rfl, rfl, rfl, by decide +kernel, rfl, by decide +kernel, by decide +kernel⟩
abbrev s_draw : Stmt := topS 14
abbrev nm_draw : List Str := ["_law_source", "_law_limit", "_law_digit", "_law_prime", "_law_mixed_here"]
theorem sc_draw : FnScope nm_draw ["_law_source", "_law_limit"] (defScope s_draw) := ⟨rfl, rfl, rfl, by decide +kernel, rfl, by decide +kernel, by decide +kernel⟩
abbrev s_choice : Stmt := topS 15
abbrev nm_choice : List Str := ["_law_source", "_law_items"]
theorem sc_choice : FnScope nm_choice ["_law_source", "_law_items"] (defScope s_choice) := ⟨rfl, rfl, rfl, by decide +kernel, rfl, by decide +kernel, by decide +kernel⟩
abbrev s_mixed : Stmt := topS 16
abbrev nm_mixed : List Str := ["_law_source", "_law_items", "_law_left", "_law_turn"]
theorem sc_mixed : FnScope nm_mixed ["_law_source", "_law_items"] (defScope s_mixed) := ⟨rfl, rfl, rfl, by decide +kernel, rfl, by decide +kernel, by decide +kernel⟩
abbrev s_many : Stmt := topS 17
abbrev nm_many : List Str := ["_law_count", "_law_found", "_law_sign", "_law_other"]
theorem sc_many : FnScope nm_many ["_law_count"] (defScope s_many) := ⟨rfl, rfl, rfl, by decide +kernel, rfl, by decide +kernel, by decide +kernel⟩
abbrev s_limps : Stmt := topS 18
abbrev nm_limps : List Str := ["_law_project", "_law_name", "_law_item"]
theorem sc_limps : FnScope nm_limps ["_law_project", "_law_name"] (defScope s_limps) := ⟨rfl, rfl, rfl, by decide +kernel, rfl, by decide +kernel, by decide +kernel⟩
abbrev s_ladder05 : Stmt := topS 19
abbrev nm_ladder05 : List Str := ["_law_source", "_law_names", "_law_found", "_law_at", "_law_name", "_law_later", "_law_some", "_law_other"]
theorem sc_ladder05 : FnScope nm_ladder05 ["_law_source", "_law_names"] (defScope s_ladder05) := ⟨rfl, rfl, rfl, by decide +kernel, rfl, by decide +kernel, by decide +kernel⟩
abbrev s_right05 : Stmt := topS 20
abbrev nm_right05 : List Str := ["_law_source", "_law_names", "_law_project", "_law_low", "_law_high", "_law_back", "_law_found", "_law_ring", "_law_turn", "_law_name"]
theorem sc_right05 : FnScope nm_right05 ["_law_source", "_law_names"] (defScope s_right05) := ⟨rfl, rfl, rfl, by decide +kernel, rfl, by decide +kernel, by decide +kernel⟩
abbrev s_k05law : Stmt := topS 21
abbrev nm_k05law : List Str := ["_law_script", "_law_k", "_law_source", "_law_count"]
theorem sc_k05law : FnScope nm_k05law ["_law_script"] (defScope s_k05law) := ⟨rfl, rfl, rfl, by decide +kernel, rfl, by decide +kernel, by decide +kernel⟩
section
variable {P : Program} {w : World} {K : PySem.W.Frag} {mg : Str → Option Value} {base : Heap}
theorem ok_areDiff {f : Addr} {fd : FuncData} (B : Bl mg) (F : FnP K "are_different" s_areDiff f fd) (hm : mg "are_different" = some (.ref f))  (c_MOST_IMPORTS : ∃ t, mg "MOST_IMPORTS" = some (.int 20 t)) : Dn P w K mg base 1 "are_different" (spAreDiff K) :=
  dnp (k := 0) F hm sc_areDiff 0 rfl (fun vs H Q E h => by (repeat (obtain ⟨_, h⟩ := h)); subst_vars; rfl) (fun _ _ _ _ _ _ us hl => match us, hl with | [_], _ => rfl) (t_areDiff K) pure_areDiff (fun cdv A outer s H E hr => by exact (pss_one (ps_ret (pe_and (pe_cmpR op_le (pe_callB call_len_seq (by rfl) B.len PySem.boot_len (pa_cons (pv 0) pa_nil)) (pe_gi c_MOST_IMPORTS) (nomark _)) (pe_one (pe_cmpR op_eq (pe_lenSetQ B.len B.set (pv 0)) (pe_callB call_len_seq (by rfl) B.len PySem.boot_len (pa_cons (pv 0) pa_nil)) (nomark _)))))))
theorem ok_byName {f : Addr} {fd : FuncData} (B : Bl mg) (F : FnP K "by_name" s_byName f fd) (hm : mg "by_name" = some (.ref f))   : Dn P w K mg base 1 "by_name" (spByName K) :=
  dnp (k := 0) F hm sc_byName 1 rfl (fun vs H Q E h => by (repeat (obtain ⟨_, h⟩ := h)); subst_vars; rfl) (fun _ _ _ _ _ _ us hl => match us, hl with | [_], _ => rfl) (t_byName K) pure_byName (fun cdv A outer s H E hr => by exact (pss_one (ps_ret (pe_dc (own := [("module", 1)]) (g := (gName 1)) (tt := tYes) (tk := (tOp (rIxT K) (tVar 1) (tC (.int 0)))) (tv := (tVar 1)) rfl sc_byName.nd (pi_tup (pv 0)) (blkOk_by (N := nm_byName) (sc := defScope s_byName) (by decide +kernel)) (fun _ _ _ _ _ => by exact (pg_name (i := 1) sc_byName.nd rfl (.inl rfl))) (fun _ _ _ _ _ => by exact pts_nil) (fun _ _ _ _ _ => by exact (pe_ix ix_tup (pv 1) pe_int (fun _ _ => rfl))) (fun _ _ _ _ _ => by exact (pv 1))))))
theorem ok_chk {f : Addr} {fd : FuncData} (B : Bl mg) (F : FnP K "check_names" s_chk f fd) (hm : mg "check_names" = some (.ref f)) (d_byName : Dn P w K mg base 1 "by_name" (spByName K))  : DnR P w K mg base 2 "check_names" (spChk K) :=
  dnpR (k := 1) (ps := ["project"]) (pv := "names") F hm sc_chk 2 rfl (fun _ _ _ _ _ _ us rest hl => match us, rest, hl with | [_], [], _ => rfl | [_], _ :: _, _ => rfl) (t_chk K) chk_of (fun vs H Q E h => by (repeat (obtain ⟨_, h⟩ := h)); subst_vars; rfl) pure_chk (fun cdv A outer s H E hr => by exact (pss_cons (ps_set (i := 2) sc_chk.nd rfl (.inl rfl) (pe_d d_byName hr (pa_cons (pv 0) pa_nil)))
    (pss_one (ps_for PassesOwn.never rfl (pi_tup (pv 1)) (pg_name (i := 3) sc_chk.nd rfl (.inl rfl)) (pss_one (ps_if (PW.pt (pw_or (pt_not (pt_val (pe_callB call_isi (by rfl) B.isinstance (by decide +kernel) (pa_cons (pv 3) (pa_cons (pe_bltn (by rfl) B.str (by decide +kernel) rfl) pa_nil))))) (pw_or1 (pt_cmp (pc_dnotin (hu_of hr) (pv 3) (pv 2)))))) (pss_one ps_never) pss_nil))))))
theorem ok_cycle {f : Addr} {fd : FuncData} (B : Bl mg) (F : FnP K "cycle" s_cycle f fd) (hm : mg "cycle" = some (.ref f))   : Dn P w K mg base 2 "cycle" (spCycle K) :=
  dnp (k := 1) F hm sc_cycle 6 rfl (fun vs H Q E h => by (repeat (obtain ⟨_, h⟩ := h)); subst_vars; rfl) (fun _ _ _ _ _ _ us hl => match us, hl with | [_], _ => rfl) (t_cycle K) pure_cycle (fun cdv A outer s H E hr => by exact (pss_cons (ps_asg (pe_tup (pa_cons (pe_dc (own := [("module", 5)]) (g := (gName 5)) (tt := tYes) (tk := (tOp (rIxT K) (tVar 5) (tC (.int 0)))) (tv := (tOp (rIxT K) (tVar 5) (tC (.int 1)))) rfl sc_cycle.nd (pi_tup (pv 0)) (blkOk_by (N := nm_cycle) (sc := defScope s_cycle) (by decide +kernel)) (fun _ _ _ _ _ => by exact (pg_name (i := 5) sc_cycle.nd rfl (.inl rfl))) (fun _ _ _ _ _ => by exact pts_nil) (fun _ _ _ _ _ => by exact (pe_ix ix_tup (pv 5) pe_int (fun _ _ => rfl))) (fun _ _ _ _ _ => by exact (pe_ix ix_tup (pv 5) pe_int (fun _ _ => rfl)))) (pa_cons (pe_lst (pa_cons pe_str pa_nil)) pa_nil))) (pg_tup rfl (pgs_cons (pg_name (i := 1) sc_cycle.nd rfl (.inr rfl)) (pgs_cons (pg_name (i := 2) sc_cycle.nd rfl (.inl rfl)) pgs_nil))))
    (pss_cons (ps_while PassesOwn.never (pt_cmpR (op_neD hr.units) (pv 2) (pe_lst pa_nil) (nomark _)) (pss_cons (ps_lock (ps_setLc (i := 2) (own := [("name", 3)]) (g := (gName 3)) (tt := (tNot (tB (tCB (rAny K) (tCons (tLc (iTup K (tDGet (tVar 1) (tVar 3))) (gName 6) tYes (tDIn (tVar 6) (tVar 1)) [6]) tNil))))) (te := (tVar 3)) rfl sc_cycle.nd rfl rfl (sw_true rfl rfl rfl (by decide +kernel)) (pi_keys (pv 1)) (blkOk_by (N := nm_cycle) (sc := defScope s_cycle) (by decide +kernel)) (fun _ _ _ _ _ => by exact (pg_name (i := 3) sc_cycle.nd rfl (.inl rfl))) (fun _ _ _ _ _ => by exact (pts_one (pt_not (pt_val (pe_callB (cr_any rfl) (by rfl) B.any (by decide +kernel) (pa_cons (pe_lc (own := [("other", 6)]) (g := (gName 6)) (tt := tYes) (te := (tDIn (tVar 6) (tVar 1))) rfl sc_cycle.nd (pi_tup (pe_dget (hu_of hr) (pv 1) (pv 3) (fun _ _ => rfl))) (blkOk_by (N := nm_cycle) (by kernel_rfl)) (fun _ _ _ _ _ => by exact (pg_name (i := 6) sc_cycle.nd rfl (.inl rfl))) (fun _ _ _ _ _ => by exact pts_nil) (fun _ _ _ _ _ => by exact (pe_cmp (pc_din (hu_of hr) (pv 6) (pv 1)) rfl))) pa_nil)))))) (fun _ _ _ _ _ => by exact (pv 3))))
    (pss_one (ps_for PassesOwn.never rfl (pi_list (pv 2)) (pg_name (i := 3) sc_cycle.nd rfl (.inl rfl)) (pss_one (ps_expr (pe_dpop1 (pv 1) (pv 3) (by constructor <;> rfl))))))))
    (pss_cons (ps_if (pt_cmpR (op_eqD0 hr.units0) (pv 1) pe_dnewK (nomark _)) (pss_one (ps_ret pe_non)) pss_nil)
    (pss_cons (ps_set (i := 4) sc_cycle.nd rfl (.inl rfl) (pe_lst (pa_cons (pe_ix ix_list (pe_callB (call_sortedD rfl) (by rfl) B.sorted (by decide +kernel) (pa_cons (pv 1) pa_nil)) pe_int (fun _ _ => rfl)) pa_nil)))
    (pss_cons (ps_while PassesOwn.never (pt_cmpR op_notIn_seq (pe_ix ix_list (pv 4) (pe_un un_neg pe_int) (fun _ _ => rfl)) (pe_slice sl_list (pv 4) po_none (po_some (pe_un un_neg pe_int))) (by with_unfolding_all rfl)) (pss_one (ps_expr (pe_bm PySem.F.plainAttrs_list PySem.F.slot_list_append PySem.F.type_list_append mt_append (pv 4) (pa_cons (pe_ix ix_list (pe_lc (own := [("other", 6)]) (g := (gName 6)) (tt := (tB (tDIn (tVar 6) (tVar 1)))) (te := (tVar 6)) rfl sc_cycle.nd (pi_tup (pe_dget (hu_of hr) (pv 1) (pe_ix ix_list (pv 4) (pe_un un_neg pe_int) (fun _ _ => rfl)) (fun _ _ => rfl))) (blkOk_by (N := nm_cycle) (sc := defScope s_cycle) (by decide +kernel)) (fun _ _ _ _ _ => by exact (pg_name (i := 6) sc_cycle.nd rfl (.inl rfl))) (fun _ _ _ _ _ => by exact (pts_one (pt_cmp (pc_din (hu_of hr) (pv 6) (pv 1))))) (fun _ _ _ _ _ => by exact (pv 6))) pe_int (fun _ _ => rfl)) pa_nil)))))
    (pss_one (ps_ret (pe_callTy cr_tupZ (by rfl) B.tuple (by decide +kernel) (pa_cons (pe_slice sl_list (pv 4) (po_some (pe_bm PySem.F.plainAttrs_list PySem.F.slot_list_index PySem.F.type_list_index mt_index (pv 4) (pa_cons (pe_ix ix_list (pv 4) (pe_un un_neg pe_int) (fun _ _ => rfl)) pa_nil))) (po_some (pe_un un_neg pe_int))) pa_nil))))))))))
theorem ok_showsCyc {f : Addr} {fd : FuncData} (B : Bl mg) (F : FnP K "shows_cycle" s_showsCyc f fd) (hm : mg "shows_cycle" = some (.ref f)) (d_byName : Dn P w K mg base 1 "by_name" (spByName K))  : Dn P w K mg base 2 "shows_cycle" (spShowsCyc K) :=
  dnp (k := 1) F hm sc_showsCyc 3 rfl (fun vs H Q E h => by (repeat (obtain ⟨_, h⟩ := h)); subst_vars; rfl) (fun _ _ _ _ _ _ us hl => match us, hl with | [_, _], _ => rfl) (t_showsCyc K) pure_showsCyc (fun cdv A outer s H E hr => by exact (pss_cons (ps_set (i := 2) sc_showsCyc.nd rfl (.inr rfl) (pe_d d_byName hr (pa_cons (pv 0) pa_nil)))
    (pss_cons (ps_if (PW.pt (pw_or (pt_not (pt_val (pe_callB call_isi (by rfl) B.isinstance (by decide +kernel) (pa_cons (pv 1) (pa_cons (pe_bltn (by rfl) B.tuple (by decide +kernel) rfl) pa_nil))))) (pw_or1 (pt_cmpR (op_eqD hr.units) (pv 1) (pe_tup pa_nil) (nomark _))))) (pss_one (ps_ret pe_bl)) pss_nil)
    (pss_cons (ps_if (pt_not (pt_val (pe_callB (cr_all rfl) (by rfl) B.all (by decide +kernel) (pa_cons (pe_lc (own := [("name", 3)]) (g := (gName 3)) (tt := tYes) (te := (tAndV (tCB (rIsi K) (tCons (tVar 3) (tCons (tC (.ty "str")) tNil))) (tDIn (tVar 3) (tVar 2)))) rfl sc_showsCyc.nd (pi_tup (pv 1)) (blkOk_by (N := nm_showsCyc) (sc := defScope s_showsCyc) (by decide +kernel)) (fun _ _ _ _ _ => by exact (pg_name (i := 3) sc_showsCyc.nd rfl (.inl rfl))) (fun _ _ _ _ _ => by exact pts_nil) (fun _ _ _ _ _ => by exact (pe_and (pe_callB call_isi (by rfl) B.isinstance (by decide +kernel) (pa_cons (pv 3) (pa_cons (pe_bltn (by rfl) B.str (by decide +kernel) rfl) pa_nil))) (pe_one (pe_cmp (pc_din (hu_of hr) (pv 3) (pv 2)) rfl))))) pa_nil)))) (pss_one (ps_ret pe_bl)) pss_nil)
    (pss_one (ps_ret (pe_callB (cr_all rfl) (by rfl) B.all (by decide +kernel) (pa_cons (pe_lc (own := [("name", 3), ("other", 4)]) (g := (gTup K 2 (gCons (gName 3) (gCons (gName 4) gNil)))) (tt := tYes) (te := (tOp (rIn K false) (tVar 4) (tOp (rIxT K) (tDGet (tVar 2) (tVar 3)) (tC (.int 1))))) rfl sc_showsCyc.nd (RZ.pi_zipA (by rfl) B.zip (pa_cons (pv 1) (pa_cons (pe_op op_catA (pe_slice sl_tupA (pv 1) (po_some pe_int) po_none) (pe_slice sl_tupA (pv 1) po_none (po_some pe_int))) pa_nil))) (blkOk_by (N := nm_showsCyc) (sc := defScope s_showsCyc) (by decide +kernel)) (fun _ _ _ _ _ => by exact (pg_tup rfl (pgs_cons (pg_name (i := 3) sc_showsCyc.nd rfl (.inl rfl)) (pgs_cons (pg_name (i := 4) sc_showsCyc.nd rfl (.inl rfl)) pgs_nil)))) (fun _ _ _ _ _ => by exact pts_nil) (fun _ _ _ _ _ => by exact (pe_cmpR op_in_seq (pv 4) (pe_ix ix_tup (pe_dget (hu_of hr) (pv 2) (pv 3) (fun _ _ => rfl)) pe_int (fun _ _ => rfl)) (by with_unfolding_all rfl)))) pa_nil))))))))
theorem ok_withImps {f : Addr} {fd : FuncData} (B : Bl mg) (F : FnP K "with_imports" s_withImps f fd) (hm : mg "with_imports" = some (.ref f)) (d_areDiff : Dn P w K mg base 1 "are_different" (spAreDiff K)) (d_byName : Dn P w K mg base 1 "by_name" (spByName K)) (d_chk : DnR P w K mg base 2 "check_names" (spChk K))  : Dn P w K mg base 3 "with_imports" (spWithImps K) :=
  dnp (k := 2) F hm sc_withImps 3 rfl (fun vs H Q E h => by (repeat (obtain ⟨_, h⟩ := h)); subst_vars; rfl) (fun _ _ _ _ _ _ us hl => match us, hl with | [_, _, _], _ => rfl) (t_withImps K) pure_withImps (fun cdv A outer s H E hr => by exact (pss_cons (ps_expr (pe_dR d_chk hr (pa_cons (pv 0) (pa_cons (pv 1) pa_nil))))
    (pss_cons (ps_set (i := 3) sc_withImps.nd rfl (.inr rfl) (pe_d d_byName hr (pa_cons (pv 0) pa_nil)))
    (pss_cons (ps_if (PW.pt (pw_or (pt_not (pt_val (pe_callB call_isi (by rfl) B.isinstance (by decide +kernel) (pa_cons (pv 2) (pa_cons (pe_bltn (by rfl) B.tuple (by decide +kernel) rfl) pa_nil))))) (pw_or1 (pt_not (pt_val (pe_callB (cr_all rfl) (by rfl) B.all (by decide +kernel) (pa_cons (pe_lc (own := [("other", 4)]) (g := (gName 4)) (tt := tYes) (te := (tAndV (tCB (rIsi K) (tCons (tVar 4) (tCons (tC (.ty "str")) tNil))) (tDIn (tVar 4) (tVar 3)))) rfl sc_withImps.nd (pi_tup (pv 2)) (blkOk_by (N := nm_withImps) (sc := defScope s_withImps) (by decide +kernel)) (fun _ _ _ _ _ => by exact (pg_name (i := 4) sc_withImps.nd rfl (.inl rfl))) (fun _ _ _ _ _ => by exact pts_nil) (fun _ _ _ _ _ => by exact (pe_and (pe_callB call_isi (by rfl) B.isinstance (by decide +kernel) (pa_cons (pv 4) (pa_cons (pe_bltn (by rfl) B.str (by decide +kernel) rfl) pa_nil))) (pe_one (pe_cmp (pc_din (hu_of hr) (pv 4) (pv 3)) rfl))))) pa_nil))))))) (pss_one ps_never) pss_nil)
    (pss_cons (ps_if (PW.pt (pw_or (pt_cmpR op_in_seq (pv 1) (pv 2) (by with_unfolding_all rfl)) (pw_or1 (pt_not (pt_val (pe_d d_areDiff hr (pa_cons (pv 2) pa_nil))))))) (pss_one ps_never) pss_nil)
    (pss_one (ps_ret (pe_callTy call_tuple_of (by rfl) B.tuple (by decide +kernel) (pa_cons (pe_lc (own := [("module", 5)]) (g := (gName 5)) (tt := tYes) (te := (tIf (tTest (tOp rEq (tOp (rIxT K) (tVar 5) (tC (.int 0))) (tVar 1))) (tTup (tCons (tVar 1) (tCons (tVar 2) (tCons (tOp (rIxT K) (tVar 5) (tC (.int 2))) tNil)))) (tVar 5))) rfl sc_withImps.nd (pi_tup (pv 0)) (blkOk_by (N := nm_withImps) (sc := defScope s_withImps) (by decide +kernel)) (fun _ _ _ _ _ => by exact (pg_name (i := 5) sc_withImps.nd rfl (.inl rfl))) (fun _ _ _ _ _ => by exact pts_nil) (fun _ _ _ _ _ => by exact (pe_ifExp (pt_cmpR op_eq (pe_ix ix_tup (pv 5) pe_int (fun _ _ => rfl)) (pv 1) (nomark _)) (pe_tup (pa_cons (pv 1) (pa_cons (pv 2) (pa_cons (pe_ix ix_tup (pv 5) pe_int (fun _ _ => rfl)) pa_nil)))) (pv 5)))) pa_nil)))))))))
theorem ok_start {f : Addr} {fd : FuncData} (B : Bl mg) (F : FnP K "_law_start" s_start f fd) (hm : mg "_law_start" = some (.ref f))   : Dn P w K mg base 1 "_law_start" (spStart K) :=
  dnp (k := 0) F hm sc_start 2 rfl (fun vs H Q E h => by (repeat (obtain ⟨_, h⟩ := h)); subst_vars; rfl) (fun _ _ _ _ _ _ us hl => match us, hl with | [_, _], _ => rfl) (t_start K) pure_start (fun cdv A outer s H E hr => by exact (pss_cons (ps_set (i := 2) sc_start.nd rfl (.inl rfl) (pe_ifExp (pt_cmpR op_lt (pv 1) (pe_callB call_len_seq (by rfl) B.len PySem.boot_len (pa_cons (pv 0) pa_nil)) (nomark _)) (pe_ix ix_list (pv 0) (pv 1) (fun _ _ => rfl)) (pe_op op_add (pe_op op_mul pe_int (pv 1)) pe_int)))
    (pss_cons (ps_set (i := 3) sc_start.nd rfl (.inl rfl) (pe_op op_mulW (pe_op op_mod (pe_callB call_abs (by rfl) B.abs (by decide +kernel) (pa_cons (pv 2) pa_nil)) (pe_op op_powW (pe_op op_pow pe_int pe_int) pe_int)) (pe_callTy call_int1 (by rfl) B.int (by decide +kernel) (pa_cons (pe_cmpR op_ge (pe_callB call_abs (by rfl) B.abs (by decide +kernel) (pa_cons (pv 2) pa_nil)) (pe_op op_pow pe_int pe_int) (nomark _)) pa_nil))))
    (pss_one (ps_ret (pe_lst (pa_cons (pv 3) (pa_cons (pe_op op_mod (pe_op op_mul (pe_op op_add (pe_op op_add (pe_op op_mod (pv 2) pe_int) (pe_op op_mul (pe_op op_mul pe_int (pv 1)) (pv 1))) pe_int) pe_int) pe_int) (pa_cons pe_int pa_nil)))))))))
theorem ok_draw {f : Addr} {fd : FuncData} (B : Bl mg) (F : FnP K "_law_draw" s_draw f fd) (hm : mg "_law_draw" = some (.ref f))   : Dn P w K mg base 1 "_law_draw" spDraw :=
  dnp (k := 0) F hm sc_draw 3 rfl (fun vs H Q E h => by (repeat (obtain ⟨_, h⟩ := h)); subst_vars; rfl) (fun _ _ _ _ _ _ us hl => match us, hl with | [_, _], _ => rfl) (t_draw K) pure_draw (fun cdv A outer s H E hr => by exact (pss_cons (ps_if (pt_cmpR op_gt (pe_ix ix_list (pv 0) pe_int (fun _ _ => rfl)) pe_int (nomark _)) (pss_cons (ps_set (i := 2) sc_draw.nd rfl (.inl rfl) (pe_op op_mod (pe_ix ix_list (pv 0) pe_int (fun _ _ => rfl)) (pv 1)))
    (pss_cons (ps_asg (pe_op op_fdiv (pe_ix ix_list (pv 0) pe_int (fun _ _ => rfl)) (pv 1)) (pg_sub (pv 0) pe_int set_list))
    (pss_one (ps_ret (pv 2))))) pss_nil)
    (pss_cons (ps_asg (pe_op op_add (pe_ix ix_list (pv 0) pe_int (fun _ _ => rfl)) pe_int) (pg_sub (pv 0) pe_int set_list))
    (pss_cons (ps_set (i := 3) sc_draw.nd rfl (.inl rfl) (pe_ix ix_list (pe_lst (pa_cons pe_int (pa_cons pe_int (pa_cons pe_int (pa_cons pe_int (pa_cons pe_int (pa_cons pe_int (pa_cons pe_int pa_nil)))))))) (pe_op op_mod (pe_ix ix_list (pv 0) pe_int (fun _ _ => rfl)) pe_int) (fun _ _ => rfl)))
    (pss_cons (ps_set (i := 4) sc_draw.nd rfl (.inl rfl) (pe_op op_mod (pe_op op_pow (pe_op op_add (pe_op op_add (pe_ix ix_list (pv 0) pe_int (fun _ _ => rfl)) (pe_op op_mul (pe_op op_mul pe_int (pe_ix ix_list (pv 0) pe_int (fun _ _ => rfl))) (pe_ix ix_list (pv 0) pe_int (fun _ _ => rfl)))) pe_int) pe_int) (pv 3)))
    (pss_one (ps_ret (pe_op op_mod (pe_op op_fdiv (pe_op op_mod (pe_op op_mul (pv 4) (pe_op op_add (pe_op op_mod (pv 4) pe_int) (pe_op op_mul pe_int (pe_ix ix_list (pv 0) pe_int (fun _ _ => rfl))))) pe_int) pe_int) (pv 1)))))))))
theorem ok_choice {f : Addr} {fd : FuncData} (B : Bl mg) (F : FnP K "_law_choice" s_choice f fd) (hm : mg "_law_choice" = some (.ref f)) (d_draw : Dn P w K mg base 1 "_law_draw" spDraw)  : Dn P w K mg base 2 "_law_choice" (spChoice K) :=
  dnp (k := 1) F hm sc_choice 0 rfl (fun vs H Q E h => by (repeat (obtain ⟨_, h⟩ := h)); subst_vars; rfl) (fun _ _ _ _ _ _ us hl => match us, hl with | [_, _], _ => rfl) (t_choice K) pure_choice (fun cdv A outer s H E hr => by exact (pss_one (ps_ret (pe_ix ix_list (pv 1) (pe_d d_draw hr (pa_cons (pv 0) (pa_cons (pe_callB call_len_seq (by rfl) B.len PySem.boot_len (pa_cons (pv 1) pa_nil)) pa_nil))) (fun _ _ => rfl)))))
theorem ok_mixed {f : Addr} {fd : FuncData} (B : Bl mg) (F : FnP K "_law_mixed" s_mixed f fd) (hm : mg "_law_mixed" = some (.ref f)) (d_draw : Dn P w K mg base 1 "_law_draw" spDraw)  : Dn P w K mg base 2 "_law_mixed" (spMixed K) :=
  dnp (k := 1) F hm sc_mixed 2 rfl (fun vs H Q E h => by (repeat (obtain ⟨_, h⟩ := h)); subst_vars; rfl) (fun _ _ _ _ _ _ us hl => match us, hl with | [_, _], _ => rfl) (t_mixed K) pure_mixed (fun cdv A outer s H E hr => by exact (pss_cons (ps_set (i := 2) sc_mixed.nd rfl (.inr rfl) (pe_callTy call_list_of (by rfl) B.list (by decide +kernel) (pa_cons (pv 1) pa_nil)))
    (pss_one (ps_ret (pe_lc (own := [("_law_turn", 3)]) (g := (gName 3)) (tt := tYes) (te := (tBM K "list" rPopAt (tVar 2) (tCons (tCall spDraw [] E0 (tCons (tVar 0) (tCons (tCB (rLenQ K) (tCons (tVar 2) tNil)) tNil))) tNil))) rfl sc_mixed.nd (pi_range1 (by rfl) B.range (pa_cons (pe_callB call_len_seq (by rfl) B.len PySem.boot_len (pa_cons (pv 1) pa_nil)) pa_nil)) (blkOk_by (N := nm_mixed) (sc := defScope s_mixed) (by decide +kernel)) (fun _ _ _ _ _ => by exact (pg_name (i := 3) sc_mixed.nd rfl (.inl rfl))) (fun _ _ _ _ _ => by exact pts_nil) (fun _ _ _ _ _ => by exact (pe_bm PySem.F.plainAttrs_list PySem.F.slot_list_pop PySem.F.type_list_pop mt_popAt (pv 2) (pa_cons (pe_d d_draw hr (pa_cons (pv 0) (pa_cons (pe_callB call_len_seq (by rfl) B.len PySem.boot_len (pa_cons (pv 2) pa_nil)) pa_nil))) pa_nil))))))))
theorem ok_many {f : Addr} {fd : FuncData} (B : Bl mg) (F : FnP K "_law_many" s_many f fd) (hm : mg "_law_many" = some (.ref f))   : Dn P w K mg base 1 "_law_many" (spMany K) :=
  dnp (k := 0) F hm sc_many 3 rfl (fun vs H Q E h => by (repeat (obtain ⟨_, h⟩ := h)); subst_vars; rfl) (fun _ _ _ _ _ _ us hl => match us, hl with | [_], _ => rfl) (t_many K) pure_many (fun cdv A outer s H E hr => by exact (pss_cons (ps_set (i := 1) sc_many.nd rfl (.inl rfl) (pe_lst pa_nil))
    (pss_cons (ps_for PassesOwn.never rfl (pi_str pe_str) (pg_name (i := 2) sc_many.nd rfl (.inr rfl)) (pss_one (ps_expr (pe_bm PySem.F.plainAttrs_list PySem.F.slot_list_extend PySem.F.type_list_extend mt_extend (pv 1) (pa_cons (pe_lc (own := [("_law_other", 3)]) (g := (gName 3)) (tt := tYes) (te := (tOp rAddS (tVar 2) (tVar 3))) rfl sc_many.nd (pi_str pe_str) (blkOk_by (N := nm_many) (sc := defScope s_many) (by decide +kernel)) (fun _ _ _ _ _ => by exact (pg_name (i := 3) sc_many.nd rfl (.inl rfl))) (fun _ _ _ _ _ => by exact pts_nil) (fun _ _ _ _ _ => by exact (pe_op op_add_str (pv 2) (pv 3)))) pa_nil)))))
    (pss_one (ps_ret (pe_slice sl_list (pv 1) po_none (po_some (pv 0))))))))
theorem ok_limps {f : Addr} {fd : FuncData} (B : Bl mg) (F : FnP K "_law_imports" s_limps f fd) (hm : mg "_law_imports" = some (.ref f))   : Dn P w K mg base 1 "_law_imports" (spLImps K) :=
  dnp (k := 0) F hm sc_limps 1 rfl (fun vs H Q E h => by (repeat (obtain ⟨_, h⟩ := h)); subst_vars; rfl) (fun _ _ _ _ _ _ us hl => match us, hl with | [_, _], _ => rfl) (t_limps K) pure_limps (fun cdv A outer s H E hr => by exact (pss_one (ps_ret (pe_ix ix_list (pe_lc (own := [("_law_item", 2)]) (g := (gName 2)) (tt := (tTest (tOp rEq (tOp (rIxT K) (tVar 2) (tC (.int 0))) (tVar 1)))) (te := (tOp (rIxT K) (tVar 2) (tC (.int 1)))) rfl sc_limps.nd (pi_tup (pv 0)) (blkOk_by (N := nm_limps) (sc := defScope s_limps) (by decide +kernel)) (fun _ _ _ _ _ => by exact (pg_name (i := 2) sc_limps.nd rfl (.inl rfl))) (fun _ _ _ _ _ => by exact (pts_one (pt_cmpR op_eq (pe_ix ix_tup (pv 2) pe_int (fun _ _ => rfl)) (pv 1) (nomark _)))) (fun _ _ _ _ _ => by exact (pe_ix ix_tup (pv 2) pe_int (fun _ _ => rfl)))) pe_int (fun _ _ => rfl)))))
theorem ok_ladder05 {f : Addr} {fd : FuncData} (B : Bl mg) (F : FnP K "_law_ladder" s_ladder05 f fd) (hm : mg "_law_ladder" = some (.ref f)) (d_draw : Dn P w K mg base 1 "_law_draw" spDraw) (d_choice : Dn P w K mg base 2 "_law_choice" (spChoice K)) (d_mixed : Dn P w K mg base 2 "_law_mixed" (spMixed K))  : Dn P w K mg base 3 "_law_ladder" (spLadder05 K) :=
  dnp (k := 2) F hm sc_ladder05 6 rfl (fun vs H Q E h => by (repeat (obtain ⟨_, h⟩ := h)); subst_vars; rfl) (fun _ _ _ _ _ _ us hl => match us, hl with | [_, _], _ => rfl) (t_ladder05 K) pure_ladder05 (fun cdv A outer s H E hr => by exact (pss_cons (ps_set (i := 2) sc_ladder05.nd rfl (.inl rfl) (pe_lst pa_nil))
    (pss_cons (ps_for PassesOwn.never rfl (pi_enum (by rfl) B.enumerate (pa_cons (pv 1) pa_nil)) (pg_tup rfl (pgs_cons (pg_name (i := 3) sc_ladder05.nd rfl (.inl rfl)) (pgs_cons (pg_name (i := 4) sc_ladder05.nd rfl (.inl rfl)) pgs_nil))) (pss_cons (ps_set (i := 5) sc_ladder05.nd rfl (.inl rfl) (pe_slice sl_list (pe_slice sl_list (pv 1) (po_some (pe_op op_add (pv 3) pe_int)) po_none) po_none (po_some pe_int)))
    (pss_cons (ps_set (i := 6) sc_ladder05.nd rfl (.inl rfl) (pe_ifExp (pt_cmpR op_lt (pe_op op_add (pv 3) pe_int) (pe_callB call_len_seq (by rfl) B.len PySem.boot_len (pa_cons (pv 1) pa_nil)) (nomark _)) (pe_lst (pa_cons (pe_ix ix_list (pv 1) (pe_op op_add (pv 3) pe_int) (fun _ _ => rfl)) pa_nil)) (pe_lst pa_nil)))
    (pss_cons (ps_for PassesOwn.never rfl (pi_list (pv 5)) (pg_name (i := 7) sc_ladder05.nd rfl (.inl rfl)) (pss_one (ps_expr (pe_bm PySem.F.plainAttrs_list PySem.F.slot_list_extend PySem.F.type_list_extend mt_extend (pv 6) (pa_cons (pe_op op_rep (pe_lst (pa_cons (pv 7) pa_nil)) (pe_callTy call_int1 (by rfl) B.int (by decide +kernel) (pa_cons (pe_cmpR op_eq (pe_d d_draw hr (pa_cons (pv 0) (pa_cons pe_int pa_nil))) pe_int (nomark _)) pa_nil))) pa_nil)))))
    (pss_one (ps_expr (pe_bm PySem.F.plainAttrs_list PySem.F.slot_list_append PySem.F.type_list_append mt_append (pv 2) (pa_cons (pe_tup (pa_cons (pv 4) (pa_cons (pe_callTy call_tuple_of (by rfl) B.tuple (by decide +kernel) (pa_cons (pe_d d_mixed hr (pa_cons (pv 0) (pa_cons (pv 6) pa_nil))) pa_nil)) (pa_cons (pe_d d_choice hr (pa_cons (pv 0) (pa_cons (pe_lst (pa_cons pe_str (pa_cons pe_str pa_nil))) pa_nil))) pa_nil)))) pa_nil))))))))
    (pss_one (ps_ret (pe_callTy call_tuple_of (by rfl) B.tuple (by decide +kernel) (pa_cons (pe_callB cr_sortM (by rfl) B.sorted (by decide +kernel) (pa_cons (pv 2) pa_nil)) pa_nil)))))))
theorem ok_right05 {f : Addr} {fd : FuncData} (B : Bl mg) (F : FnP K "_law_right" s_right05 f fd) (hm : mg "_law_right" = some (.ref f)) (d_cycle : Dn P w K mg base 2 "cycle" (spCycle K)) (d_showsCyc : Dn P w K mg base 2 "shows_cycle" (spShowsCyc K)) (d_withImps : Dn P w K mg base 3 "with_imports" (spWithImps K)) (d_draw : Dn P w K mg base 1 "_law_draw" spDraw) (d_limps : Dn P w K mg base 1 "_law_imports" (spLImps K)) (d_ladder05 : Dn P w K mg base 3 "_law_ladder" (spLadder05 K))  : Dn P w K mg base 4 "_law_right" (spRight05 K) :=
  dnp (k := 3) F hm sc_right05 8 rfl (fun vs H Q E h => by (repeat (obtain ⟨_, h⟩ := h)); subst_vars; rfl) (fun _ _ _ _ _ _ us hl => match us, hl with | [_, _], _ => rfl) (t_right05 K) pure_right05 (fun cdv A outer s H E hr => by exact (pss_cons (ps_set (i := 2) sc_right05.nd rfl (.inl rfl) (pe_d d_ladder05 hr (pa_cons (pv 0) (pa_cons (pv 1) pa_nil))))
    (pss_cons (ps_if (pt_cmpR op_notN (pe_d d_cycle hr (pa_cons (pv 2) pa_nil)) pe_non (nomark _)) (pss_one (ps_ret pe_bl)) pss_nil)
    (pss_cons (ps_set (i := 3) sc_right05.nd rfl (.inl rfl) (pe_d d_draw hr (pa_cons (pv 0) (pa_cons (pe_op op_sub (pe_callB call_len_seq (by rfl) B.len PySem.boot_len (pa_cons (pv 1) pa_nil)) pe_int) pa_nil))))
    (pss_cons (ps_set (i := 4) sc_right05.nd rfl (.inl rfl) (pe_op op_add (pe_op op_add (pv 3) pe_int) (pe_d d_draw hr (pa_cons (pv 0) (pa_cons (pe_op op_sub (pe_op op_sub (pe_callB call_len_seq (by rfl) B.len PySem.boot_len (pa_cons (pv 1) pa_nil)) pe_int) (pv 3)) pa_nil)))))
    (pss_cons (ps_set (i := 5) sc_right05.nd rfl (.inl rfl) (pe_d d_withImps hr (pa_cons (pv 2) (pa_cons (pe_ix ix_list (pv 1) (pv 4) (fun _ _ => rfl)) (pa_cons (pe_op op_catA (pe_d d_limps hr (pa_cons (pv 2) (pa_cons (pe_ix ix_list (pv 1) (pv 4) (fun _ _ => rfl)) pa_nil))) (pe_tup (pa_cons (pe_ix ix_list (pv 1) (pv 3) (fun _ _ => rfl)) pa_nil))) pa_nil)))))
    (pss_cons (ps_asg (pe_tup (pa_cons (pe_d d_cycle hr (pa_cons (pv 5) pa_nil)) (pa_cons (pe_callTy call_tuple_of (by rfl) B.tuple (by decide +kernel) (pa_cons (pe_slice sl_list (pv 1) (po_some (pv 3)) (po_some (pe_op op_add (pv 4) pe_int))) pa_nil)) pa_nil))) (pg_tup rfl (pgs_cons (pg_name (i := 6) sc_right05.nd rfl (.inl rfl)) (pgs_cons (pg_name (i := 7) sc_right05.nd rfl (.inr rfl)) pgs_nil))))
    (pss_cons (ps_if (PW.pt (pw_or (pt_cmpR op_isN (pv 6) pe_non (nomark _)) (pw_or1 (pt_not (pt_val (pe_callB (cr_all rfl) (by rfl) B.all (by decide +kernel) (pa_cons (pe_lc (own := [("_law_name", 9)]) (g := (gName 9)) (tt := tYes) (te := (tOp (rIn K false) (tVar 9) (tVar 7))) rfl sc_right05.nd (pi_tup (pv 6)) (blkOk_by (N := nm_right05) (sc := defScope s_right05) (by decide +kernel)) (fun _ _ _ _ _ => by exact (pg_name (i := 9) sc_right05.nd rfl (.inl rfl))) (fun _ _ _ _ _ => by exact pts_nil) (fun _ _ _ _ _ => by exact (pe_cmpR op_in_seq (pv 9) (pv 7) (by with_unfolding_all rfl)))) pa_nil))))))) (pss_one (ps_ret pe_bl)) pss_nil)
    (pss_cons (ps_if (PW.pt (pw_or (pt_cmpR op_notBl (pe_d d_showsCyc hr (pa_cons (pv 5) (pa_cons (pv 6) pa_nil))) pe_bl (nomark _)) (pw_or (pt_cmpR op_notIn_seq (pe_ix ix_list (pv 1) (pv 3) (fun _ _ => rfl)) (pv 6) (by with_unfolding_all rfl)) (pw_or1 (pt_cmpR op_notIn_seq (pe_ix ix_list (pv 1) (pv 4) (fun _ _ => rfl)) (pv 6) (by with_unfolding_all rfl)))))) (pss_one (ps_ret pe_bl)) pss_nil)
    (pss_cons (ps_if (pt_cmpR op_ne (pe_ix ix_tup (pv 6) (pe_op op_mod (pe_op op_add (pe_tix (pv 6) (pe_ix ix_list (pv 1) (pv 4) (fun _ _ => rfl)) (by constructor <;> rfl)) pe_int) (pe_callB call_len_seq (by rfl) B.len PySem.boot_len (pa_cons (pv 6) pa_nil))) (fun _ _ => rfl)) (pe_ix ix_list (pv 1) (pv 3) (fun _ _ => rfl)) (nomark _)) (pss_one (ps_ret pe_bl)) pss_nil)
    (pss_cons (ps_set (i := 8) sc_right05.nd rfl (.inl rfl) (pe_d d_draw hr (pa_cons (pv 0) (pa_cons (pe_callB call_len_seq (by rfl) B.len PySem.boot_len (pa_cons (pv 7) pa_nil)) pa_nil))))
    (pss_cons (ps_if (PW.pt (pw_or (pt_not (pt_val (pe_d d_showsCyc hr (pa_cons (pv 5) (pa_cons (pe_op op_catA (pe_slice sl_tupA (pv 7) (po_some (pv 8)) po_none) (pe_slice sl_tupA (pv 7) po_none (po_some (pv 8)))) pa_nil))))) (pw_or1 (pt_val (pe_d d_showsCyc hr (pa_cons (pv 2) (pa_cons (pv 7) pa_nil))))))) (pss_one (ps_ret pe_bl)) pss_nil)
    (pss_one (ps_ret (pe_or (pe_cmpR op_lt (pe_callB call_len_seq (by rfl) B.len PySem.boot_len (pa_cons (pv 7) pa_nil)) pe_int (nomark _)) (pe_one (pe_not (pe_d d_showsCyc hr (pa_cons (pv 5) (pa_cons (pe_revT (pv 7)) pa_nil))))))))))))))))))))
theorem ok_law {f : Addr} {fd : FuncData} (B : Bl mg) (F : FnP K "law" s_k05law f fd) (d_start : Dn P w K mg base 1 "_law_start" (spStart K)) (d_draw : Dn P w K mg base 1 "_law_draw" spDraw) (d_mixed : Dn P w K mg base 2 "_law_mixed" (spMixed K)) (d_many : Dn P w K mg base 1 "_law_many" (spMany K)) (d_right05 : Dn P w K mg base 4 "_law_right" (spRight05 K))  : FnG P w K mg base CX0 6 f fd ["_law_script"] (spLaw K) :=
  lawFn (k := 5) F sc_k05law 3 rfl (fun vs H Q E h => by (repeat (obtain ⟨_, h⟩ := h)); subst_vars; rfl) (t_k05law K) pure_k05law (fun cdv A outer s H E hG hr => by exact (pss_cons (ps_for PassesOwn.never rfl (pi_range1 (by rfl) B.range (pa_cons (pe_callB (call_max2 rfl) (by rfl) B.max (by decide +kernel) (pa_cons pe_int (pa_cons (pe_callB (call_min2 rfl) (by rfl) B.min (by decide +kernel) (pa_cons pe_int (pa_cons (pe_callB call_len_seq (by rfl) B.len PySem.boot_len (pa_cons (pv 0) pa_nil)) pa_nil))) pa_nil))) pa_nil)) (pg_name (i := 1) sc_k05law.nd rfl (.inl rfl)) (pss_cons (ps_set (i := 2) sc_k05law.nd rfl (.inl rfl) (pe_d d_start hr (pa_cons (pv 0) (pa_cons (pv 1) pa_nil))))
    (pss_one (ps_for PassesOwn.never rfl (pi_tup (pe_tup (pa_cons (pe_op op_add pe_int (pe_d d_draw hr (pa_cons (pv 2) (pa_cons pe_int pa_nil)))) (pa_cons (pe_op op_add pe_int (pe_d d_draw hr (pa_cons (pv 2) (pa_cons pe_int pa_nil)))) pa_nil)))) (pg_name (i := 3) sc_k05law.nd rfl (.inl rfl)) (pss_one (ps_if (pt_not (pt_val (pe_d d_right05 hr (pa_cons (pv 2) (pa_cons (pe_d d_mixed hr (pa_cons (pv 2) (pa_cons (pe_d d_many hr (pa_cons (pv 3) pa_nil)) pa_nil))) pa_nil))))) (pss_one (ps_ret pe_bl)) pss_nil))))))
    (pss_one (ps_ret pe_bl))))
end
def mkD (x : Str) (i : Nat) : He.DefD := ⟨(x, none), x, x, defArgs (topS i), defBody (topS i), defScope (topS i), [], []⟩
def fn : List He.DefD := [(mkD "are_different" 6), (mkD "by_name" 7), (mkD "check_names" 8), (mkD "cycle" 9), (mkD "shows_cycle" 10), (mkD "with_imports" 11), (mkD "_law_start" 13), (mkD "_law_draw" 14), (mkD "_law_choice" 15), (mkD "_law_mixed" 16), (mkD "_law_many" 17), (mkD "_law_imports" 18), (mkD "_law_ladder" 19), (mkD "_law_right" 20), (mkD "law" 21)]
def fa : List He.Fa := [.glo "are_different", .glo "by_name", .glo "check_names", .glo "cycle", .glo "shows_cycle", .glo "with_imports", .glo "_law_start", .glo "_law_draw", .glo "_law_choice", .glo "_law_mixed", .glo "_law_many", .glo "_law_imports", .glo "_law_ladder", .glo "_law_right", .glo "law", .int "MOST_IMPORTS" (20), .free "len", .free "abs", .free "int", .free "list", .free "tuple", .free "range", .free "min", .free "max", .free "sorted", .free "enumerate", .free "zip", .free "repr", .free "all", .free "any", .free "set", .free "str", .free "bool", .free "dict", .free "sum", .free "reversed", .free "isinstance"]
abbrev R : PySem.W.OpenRow := PySem.W.OpenLaw.row PySem.Challenge.rw_importorder_k05_whole_rings_by_construct
abbrev hk : PySem.W.Hook := He.hookD 4 fa fn
def ob (s : PySem.W.SharedT) : He.AlD := He.obsDG 4 fa fn (HandSHeadRun.getT s)
theorem obEq (s : PySem.W.SharedT) : ob s = hk.obs s.abs := He.obsDG_eq (HandSHeadRun.getT_eq s)
def loose0 : List Str := ["OrderError", "NoModule", "BadImports", "MOST_IMPORTS", "are_different", "by_name", "check_names", "cycle", "shows_cycle", "with_imports", "_law_start", "_law_draw", "_law_choice", "_law_mixed", "_law_many", "_law_imports", "_law_ladder", "_law_right"]
def loose : List Str := loose0
theorem ran (w : World) : HandSHeadRun.RunEq R (PySem.W.view R.prog [21]) hk ob 20000 loose w := by
  intro os
  kernel_rfl
theorem all {P : Program} {w : World} {K : PySem.W.Frag} {h : Heap} {mg : Str → Option Value} {f : Addr} (X : K.In h) (G : h.Ns mainGlobals mg) (hfa : mg ("law" : Str) = some (.ref f)) (c : He.SaysD fa fn K) :
    ∃ fd : FuncData, (∀ (s : Shared) (v : Value), BindsTo s fd ⟨[v], []⟩ [("_law_script", v)]) ∧ ∀ base : Heap, K.In base → base.Ns mainGlobals mg → FnG P w K mg base CX0 6 f fd ["_law_script"] (spLaw K) := by
  obtain ⟨fd_areDiff, F_areDiff⟩ := c.def_ 0 (d := (mkD "are_different" 6)) rfl
  have g_areDiff := He.glo_ok X G (c.fact 0 (f := .glo "are_different") rfl)
  obtain ⟨fd_byName, F_byName⟩ := c.def_ 1 (d := (mkD "by_name" 7)) rfl
  have g_byName := He.glo_ok X G (c.fact 1 (f := .glo "by_name") rfl)
  obtain ⟨fd_chk, F_chk⟩ := c.def_ 2 (d := (mkD "check_names" 8)) rfl
  have g_chk := He.glo_ok X G (c.fact 2 (f := .glo "check_names") rfl)
  obtain ⟨fd_cycle, F_cycle⟩ := c.def_ 3 (d := (mkD "cycle" 9)) rfl
  have g_cycle := He.glo_ok X G (c.fact 3 (f := .glo "cycle") rfl)
  obtain ⟨fd_showsCyc, F_showsCyc⟩ := c.def_ 4 (d := (mkD "shows_cycle" 10)) rfl
  have g_showsCyc := He.glo_ok X G (c.fact 4 (f := .glo "shows_cycle") rfl)
  obtain ⟨fd_withImps, F_withImps⟩ := c.def_ 5 (d := (mkD "with_imports" 11)) rfl
  have g_withImps := He.glo_ok X G (c.fact 5 (f := .glo "with_imports") rfl)
  obtain ⟨fd_start, F_start⟩ := c.def_ 6 (d := (mkD "_law_start" 13)) rfl
  have g_start := He.glo_ok X G (c.fact 6 (f := .glo "_law_start") rfl)
  obtain ⟨fd_draw, F_draw⟩ := c.def_ 7 (d := (mkD "_law_draw" 14)) rfl
  have g_draw := He.glo_ok X G (c.fact 7 (f := .glo "_law_draw") rfl)
  obtain ⟨fd_choice, F_choice⟩ := c.def_ 8 (d := (mkD "_law_choice" 15)) rfl
  have g_choice := He.glo_ok X G (c.fact 8 (f := .glo "_law_choice") rfl)
  obtain ⟨fd_mixed, F_mixed⟩ := c.def_ 9 (d := (mkD "_law_mixed" 16)) rfl
  have g_mixed := He.glo_ok X G (c.fact 9 (f := .glo "_law_mixed") rfl)
  obtain ⟨fd_many, F_many⟩ := c.def_ 10 (d := (mkD "_law_many" 17)) rfl
  have g_many := He.glo_ok X G (c.fact 10 (f := .glo "_law_many") rfl)
  obtain ⟨fd_limps, F_limps⟩ := c.def_ 11 (d := (mkD "_law_imports" 18)) rfl
  have g_limps := He.glo_ok X G (c.fact 11 (f := .glo "_law_imports") rfl)
  obtain ⟨fd_ladder05, F_ladder05⟩ := c.def_ 12 (d := (mkD "_law_ladder" 19)) rfl
  have g_ladder05 := He.glo_ok X G (c.fact 12 (f := .glo "_law_ladder") rfl)
  obtain ⟨fd_right05, F_right05⟩ := c.def_ 13 (d := (mkD "_law_right" 20)) rfl
  have g_right05 := He.glo_ok X G (c.fact 13 (f := .glo "_law_right") rfl)
  obtain ⟨fd_k05law, F_k05law⟩ := c.def_ 14 (d := (mkD "law" 21)) rfl
  have g_k05law := He.glo_ok X G (c.fact 14 (f := .glo "law") rfl)
  have c_MOST_IMPORTS := He.int_ok X G (c.fact 15 (f := .int "MOST_IMPORTS" (20)) rfl)
  have B : Bl mg := ⟨He.free_ok X G (c.fact 16 (f := .free "len") rfl), He.free_ok X G (c.fact 17 (f := .free "abs") rfl), He.free_ok X G (c.fact 18 (f := .free "int") rfl), He.free_ok X G (c.fact 19 (f := .free "list") rfl), He.free_ok X G (c.fact 20 (f := .free "tuple") rfl), He.free_ok X G (c.fact 21 (f := .free "range") rfl), He.free_ok X G (c.fact 22 (f := .free "min") rfl), He.free_ok X G (c.fact 23 (f := .free "max") rfl), He.free_ok X G (c.fact 24 (f := .free "sorted") rfl), He.free_ok X G (c.fact 25 (f := .free "enumerate") rfl), He.free_ok X G (c.fact 26 (f := .free "zip") rfl), He.free_ok X G (c.fact 27 (f := .free "repr") rfl), He.free_ok X G (c.fact 28 (f := .free "all") rfl), He.free_ok X G (c.fact 29 (f := .free "any") rfl), He.free_ok X G (c.fact 30 (f := .free "set") rfl), He.free_ok X G (c.fact 31 (f := .free "str") rfl), He.free_ok X G (c.fact 32 (f := .free "bool") rfl), He.free_ok X G (c.fact 33 (f := .free "dict") rfl), He.free_ok X G (c.fact 34 (f := .free "sum") rfl), He.free_ok X G (c.fact 35 (f := .free "reversed") rfl), He.free_ok X G (c.fact 36 (f := .free "isinstance") rfl)⟩
  have e := hfa.symm.trans g_k05law
  cases e
  have b := FunD.bindsA (ps := ["_law_script"]) F_k05law fun _ _ _ _ _ _ us hl => match us, hl with | [_], _ => rfl
  refine ⟨fd_k05law, fun s v => b s [v] rfl, fun base _ _ => ?_⟩
  have d_areDiff : Dn P w K mg base 1 "are_different" (spAreDiff K) := ok_areDiff B F_areDiff g_areDiff  c_MOST_IMPORTS 
  have d_byName : Dn P w K mg base 1 "by_name" (spByName K) := ok_byName B F_byName g_byName   
  have d_chk : DnR P w K mg base 2 "check_names" (spChk K) := ok_chk B F_chk g_chk d_byName  
  have d_cycle : Dn P w K mg base 2 "cycle" (spCycle K) := ok_cycle B F_cycle g_cycle   
  have d_showsCyc : Dn P w K mg base 2 "shows_cycle" (spShowsCyc K) := ok_showsCyc B F_showsCyc g_showsCyc d_byName  
  have d_withImps : Dn P w K mg base 3 "with_imports" (spWithImps K) := ok_withImps B F_withImps g_withImps d_areDiff d_byName d_chk  
  have d_start : Dn P w K mg base 1 "_law_start" (spStart K) := ok_start B F_start g_start   
  have d_draw : Dn P w K mg base 1 "_law_draw" spDraw := ok_draw B F_draw g_draw   
  have d_choice : Dn P w K mg base 2 "_law_choice" (spChoice K) := ok_choice B F_choice g_choice d_draw  
  have d_mixed : Dn P w K mg base 2 "_law_mixed" (spMixed K) := ok_mixed B F_mixed g_mixed d_draw  
  have d_many : Dn P w K mg base 1 "_law_many" (spMany K) := ok_many B F_many g_many   
  have d_limps : Dn P w K mg base 1 "_law_imports" (spLImps K) := ok_limps B F_limps g_limps   
  have d_ladder05 : Dn P w K mg base 3 "_law_ladder" (spLadder05 K) := ok_ladder05 B F_ladder05 g_ladder05 d_draw d_choice d_mixed  
  have d_right05 : Dn P w K mg base 4 "_law_right" (spRight05 K) := ok_right05 B F_right05 g_right05 d_cycle d_showsCyc d_withImps d_draw d_limps d_ladder05  
  exact ok_law B F_k05law d_start d_draw d_mixed d_many d_right05 
end GL.Ck05
open PySem PySem.W PySem.Calls PyProof.Rows
theorem PySem.Challenge.cw_importorder_k05_whole_rings_by_construct_holds : PySem.Challenge.rw_importorder_k05_whole_rings_by_construct.Holds := by
  w_on; o_law
  refine HandSHeadRun.head_any (r := OpenLaw.row PySem.Challenge.rw_importorder_k05_whole_rings_by_construct) (q := view (OpenLaw.row PySem.Challenge.rw_importorder_k05_whole_rings_by_construct).prog [21]) (H := GL.Ck05.hk) (ob := GL.Ck05.ob) (M := 20000) (loose := GL.Ck05.loose) (d := HandSHeadRun.topDef (OpenLaw.row PySem.Challenge.rw_importorder_k05_whole_rings_by_construct).prog 21) (kwd := []) GL.Ck05.obEq (by kernel_rfl) (fun s => by kernel_rfl) GL.Ck05.ran (by kernel_rfl) (by kernel_rfl) (by kernel_rfl) (by rfl)
    (by first | assumption | decide +kernel) (by decide +kernel) ⟨rfl, rfl, rfl, rfl, rfl, by decide +kernel⟩ ?hw ?hc
  case hw => w_witness2
  case hc =>
    refine GL.walk_ofG (l := PySem.Challenge.rw_importorder_k05_whole_rings_by_construct) (n := 63) (k := 6) (x := "_law_script") rfl (by decide) (by kernel_rfl) ⟨rfl, by decide, by decide⟩ ?_
    intro w mg fa h Y G hmg0
    obtain ⟨K, KX, c⟩ := Y
    have en : (HandSHeadRun.topDef (OpenLaw.row PySem.Challenge.rw_importorder_k05_whole_rings_by_construct).prog 21).name = ("law" : PySem.Str) := by kernel_rfl
    have hmg : mg ("law" : PySem.Str) = some (.ref fa) := en ▸ hmg0
    obtain ⟨fd, hb, hF⟩ := GL.Ck05.all (P := (PySem.Challenge.rw_importorder_k05_whole_rings_by_construct).prog) (w := w) KX G hmg c
    exact ⟨K, fd, GL.spLaw K, KX, hb, fun H a ns hl _ hS => ⟨a, ns, rfl, hS, hl, fun _ => rfl⟩, hF⟩
