import PyProof.Rows.All
import Wide.All
import OpenK.AllK
import Wide.FinOn
import KE.KStateDown
import Lean
import HandS.ForMost
import HandS.Wide
import HandS.Defaults
import HandS.FStr
import HandS.Flow
import HandS.Conv
import HandS.Zip
import HandS.Head0
import HandS.Head1
import HandS.Head2
import HandS.HeadEnd
import HandS.HeadHook1
import HandS.HeadHook2
import HandS.SortRule
import HandS.Strs
import HandS.Star
import HandS.DictComp
import HandS.IsInst
import KE.DataMinMax
import HandS.More
import HandS.Dict
import HandS.Style
import HandS.Walk
import HandS.Exc
import HandS.SetFor
import HandS.TupAny
import HandS.TupMul
import HandS.Text
import HandS.Steps
import HandS.WordsDict
import HandS.Deep
import HandS.ForExc
import PySem.Challenge.RW_importorder_k04_cycles
set_option Elab.async false
set_option linter.all false
set_option maxRecDepth 100000
set_option maxHeartbeats 4000000
/-! GL: own layer over the hand layer: defs that are run where no repr is under way (FnG), repr of data, great powers. -/
namespace GL
open PySem PySem.Spec PyProof.Rows L2

section
variable {X : Cx}
/-- a power of any base, the product of bits and exponent below 2 ^ 27 -/
def CPowW (i j : Int) : Prop := 0 ≤ j ∧ (Builtin.Int.intBits i : Int) * j ≤ 2 ^ 27
theorem op_powW : OpR X (binaryOp .Pow) (rI CPowW fun i j => .int (i ^ j.toNat)) :=
  opI fun _ _ _ _ _ _ _ hc q => pow_int hc.1 hc.2 q

/-- what repr asks of one datum -/
def rRepr (K : PySem.W.Frag) : List V → Hp → VK → Prop := fun xs H Q =>
  ∃ v d, xs = [v] ∧ Dp K H v d ∧ d.showable = true ∧ d.hasDict = false ∧ d.shown.length ≤ sizeLine ∧ d.depth ≤ 60 ∧ Q (.str d.shown) H

theorem call_repr (hg : X.A.guards = some []) (hu : X.A.units + 64 < cLine) : CallR X (.builtin "repr") (rRepr X.K) := by
  intro pins s σ H vs us Q I r h
  obtain ⟨v, d, rfl, hd, h1, h2, h3, h4, q⟩ := h
  cases r with
  | cons rv rn =>
    cases rn
    rename_i u
    obtain ⟨as, hr⟩ := Dp.reads I d v u hd rv
    have fin : ∀ (h' : Heap) (t : Tok) (tk : Nat), (∀ b o, s.heap.get? b = some o → h'.get? b = some o) → EP X pins σ Q (.str d.shown t) { s with heap := h', toks := tk } :=
      fun h' t tk k => ⟨.str d.shown, H, I.kept k, ⟨t, rfl⟩, q⟩
    cases hr with
    | none =>
      simp only [PyData.shown] at fin
      exact PySem.P.repr_of_none (fin s.heap _ _ fun _ _ e => e)
    | bool b =>
      simp only [PyData.shown] at fin
      exact PySem.P.repr_of_bool (fin s.heap _ _ fun _ _ e => e)
    | int i t =>
      simp only [PyData.shown] at fin
      exact PySem.P.repr_of_int (by simpa [PyData.showable] using h1) (fin s.heap _ _ fun _ _ e => e)
    | str x t =>
      simp only [PyData.shown] at fin h3
      exact PySem.P.repr_of_str (fin s.heap _ _ fun _ _ e => e) h3
    | list a1 a2 a3 a4 => exact repr_of_reads' (Reads.list a1 a2 a3 a4) h1 (PyData.noDict_hsm h2) hg (by omega) (fun _ _ e => e) (fun h' t tk k => fin h' t tk k) h3
    | tuple a1 a2 a3 a4 => exact repr_of_reads' (Reads.tuple a1 a2 a3 a4) h1 (PyData.noDict_hsm h2) hg (by omega) (fun _ _ e => e) (fun h' t tk k => fin h' t tk k) h3
    | dict a1 a2 a3 a4 a5 => simp [PyData.hasDict] at h2
end

/-- a def's promise where no guard of repr is under way -/
structure FnG (P : Program) (w : World) (K : PySem.W.Frag) (mg : Str → Option Value) (base : Heap) (CX : CXT) (k : Nat) (f : Addr) (fd : FuncData) (ps : List Str) (sp : Sp) : Prop where
  len : ∀ vs H Q E, sp vs H Q E → vs.length = ps.length
  run : ∀ (A : Around) (outer : List Env) (s : Shared) (H : Hp) (args : Args) (us : List Value) (vs : List V) (Q : VK) (E : XK), A.guards = some [] → Room k A →
    Env0 P w K mg base A outer s H → BindsTo s fd args (ps.zip us) → Vals vs us → sp vs H Q E →
    codeAny (model P w) A (.call (.ref f) args) (CR CX outer P w H s Q E) s

section
variable {P : Program} {w : World} {K : PySem.W.Frag} {mg : Str → Option Value} {base : Heap} {CX : CXT} {k j : Nat} {f : Addr} {fd : FuncData} {ps : List Str} {sp : Sp}
theorem FnG.of (F : FnOk P w K mg base CX k f fd ps sp) : FnG P w K mg base CX k f fd ps sp :=
  ⟨F.len, fun A outer s H args us vs Q E _ hr => F.run A outer s H args us vs Q E hr⟩
theorem FnG.mono (F : FnG P w K mg base CX j f fd ps sp) (h : j ≤ k) : FnG P w K mg base CX k f fd ps sp :=
  ⟨F.len, fun A outer s H args us vs Q E hg hr => F.run A outer s H args us vs Q E hg (hr.mono h)⟩

theorem fnG_of {name qual : Str} {params : Arguments} {body : List Stmt} {scope : Scope} {dV kV doc pm cdv ct oc : Value} {an od : Option Addr} {osl : Array (Option Value)} {N : List Str}
    (lk : K.lookup f = some ⟨oc, od, .func (PySem.W.fnOf name qual params body scope dV kV doc pm an cdv ct), osl⟩) (hcd : PySem.W.codeIn K cdv qual = true) (S : FnScope N ps scope)
    (len : ∀ vs H Q E, sp vs H Q E → vs.length = ps.length)
    (hb : ∀ (A : Around) (outer : List Env) (s : Shared) (H : Hp) (vs : List V) (Q : VK) (E : XK), A.guards = some [] → Room k (A.deeper (envOfC qual scope s.heap.objs.size f cdv)) → sp vs H Q E →
      ∃ t, PSs (cxOf CX P w K mg base N qual scope f cdv A outer s H E) body t ∧ t { nx := fun _ H' => Q .non H', rt := Q } (start N vs) H) :
    FnG P w K mg base CX (k + 1) f (PySem.W.fnOf name qual params body scope dV kV doc pm an cdv ct) ps sp := by
  constructor
  · exact len
  intro A outer s H args us vs Q E hg hr e0 hbd r hsp
  have old : ∀ b o, base.get? b = some o → s.heap.get? b = some o := fun b o e => (e0.bs b o e).1
  have KX : K.In s.heap := e0.mod.kin.keeps old
  refine codeAny_call_function hr.depth (KX _ _ lk) rfl S.co S.gen rfl (PySem.W.codeRec_of KX hcd) (hbd _ _ _ _ ?_)
  refine wpAny_newFunctionEnv_cells S.kind ?_ fun env he s1 x => ?_
  · rintro ⟨n, v⟩ hy
    have q := S.par n (List.of_mem_zip hy).1
    exact q.imp_right fun q => ⟨q, PySem.W.cellsFrom_some _ _ _ (.inl q)⟩
  subst he
  refine ⟨(e0.mod.nolimit.keeps old).keeps x.toInCall.keep, codeAny_func ?_⟩
  obtain ⟨t, ht, hq⟩ := hb A outer s H vs Q E hg (hr.deeper _) hsp
  have I := inv_start (CX := CX) (E := E) S hr.hd e0 (len _ _ _ _ hsp) r x
  refine wpAny_mono (ht.run [] s1 (start N vs) H _ I hq) (fun fl s' hs => ?_) fun _ _ z => z
  cases fl with
  | ret u =>
    obtain ⟨v, σ', H', J, rv, q⟩ := hs
    exact ⟨v, H', J.os, J.bare, J.base, J.hok, rv, q⟩
  | next =>
    obtain ⟨σ', H', J, q⟩ := hs
    exact ⟨.non, H', J.os, J.bare, J.base, J.hok, rfl, q⟩
  | brk => exact hs.elim fun _ z => z.elim fun _ z => z.2.elim
  | cont => exact hs.elim fun _ z => z.elim fun _ z => z.2.elim
end

section
variable {X : Cx} {CX : CXT} {k : Nat} {f : Addr} {fd : FuncData} {ps : List Str} {sp : Sp} {dvs : List V} {ds : List Value} {E : XK} {x : Str} {p pos : Pos} {e : Expr} {es : List Expr} {t : TA}
/-- f(e, ..) of a def that is run where no repr is under way -/
theorem pe_callG (F : FnG X.prog X.w X.K X.mg X.base CX k f fd ps sp) (hgd : X.A.guards = some []) (hr : Room k X.A) (hg : Gl X x) (hm : X.mg x = some (.ref f)) (hk : PySem.W.keepIn X.K (.ref f) = true) (hb : Binds X.K fd ps ds) (hd : Vals dvs ds)
    (hx : Passes CX X E) (ha : PA X (e :: es) t) (hdb : (x == ("__debug__" : Str)) = false := by decide) (he : starEach (e :: es) X.env = (false, eval e X.env) :: starEach es X.env := by rfl)
    (hpl : (backTo pos (starEach es X.env)).any (·.1) = false := by rfl) : PE X (.Call (.Name x p) (e :: es) [] pos) (tCall sp dvs E t) := by
  constructor
  intro pins s σ H Q I h
  refine wpAny_Call_Name_kw (ld_glob I hg hm ?_ hdb)
  refine PySem.W.callWith_K (h₀ := X.base) I.ok.mod.kin hk (thn (ha.run pos pins s σ H _ I h) ?_) he hpl
  rintro us s1 ⟨vs, H1, I1, r, q⟩
  refine ⟨I1.kIn, ?_⟩
  have r2 : Vals (vs ++ dvs) (us ++ ds) := r.append hd
  have hl : (us ++ ds).length = ps.length := r2.length ▸ F.len _ _ _ _ q
  refine wpAny_call (codeAny_mono (F.run X.A X.stack s1 H1 ⟨us, []⟩ (us ++ ds) (vs ++ dvs) Q E hgd hr I1.env0 (hb s1 us I1.kIn hl) r2 q) ?_)
  rintro (e | fl) s' hq
  · exact hx pins σ H1 s1 e s' I1 hq
  · cases fl with
    | ret u => exact I1.after hq
    | next => exact hq.elim
    | brk => exact hq.elim
    | cont => exact hq.elim
end
end GL

set_option Elab.async false
set_option linter.all false
set_option maxRecDepth 100000
set_option maxHeartbeats 4000000
/-! GE: the end of a law row over FnG. -/
namespace GL
open PySem PySem.Spec PyProof.Rows L2
section
variable {P : Program} {w : World} {K : PySem.W.Frag} {mg mb : Str → Option Value} {k : Nat} {fa a : Addr} {fd : FuncData} {x : Str} {sp : Sp} {s₁ : Shared} {vs : List Value} {ns : List Int}
/-- the call from an abstract heap in which at most the script is tracked -/
theorem lawG_core (KX : K.In s₁.heap) (hns : s₁.heap.Ns mainGlobals mg) (hb : s₁.heap.Ns builtinsNs mb) (hbb : ∀ x : Str, x ≠ "__name__" → mb x = bootBuiltins x) (hlim : s₁.heap.NoLimit) (hg : s₁.gens = #[])
    (ha : s₁.heap.get? a = some { cls := .type "list", data := .seq vs.toArray }) (hr : Room k callerA)
    (F : ∀ base : Heap, K.In base → base.Ns mainGlobals mg → FnG P w K mg base CX0 k fa fd [x] sp) (hbind : ∀ (s : Shared) (u : Value), BindsTo s fd ⟨[u], []⟩ [(x, u)])
    (H : Hp) (hO : Only H) (hok : HOk P w H s₁.heap) (hA : ∀ b, H b ≠ none → b = a) (hK : H a ≠ none → K.lookup a = none) (hsp : sp [.ref a] H (fun v _ => v = .bl true) fun _ _ _ => False) :
    codeAny (model P w) callerA (.call (.ref fa) ⟨[.ref a], []⟩) (fun r s' => r = .ok (.ret (.bool true)) ∧ OldK s₁.heap s'.heap ∧ s'.os = s₁.os ∧ AllBare s'.gens) s₁ := by
  have only : ∀ {b : Addr}, b ≠ a → H b = none := fun {b} ne => Classical.byContradiction fun z => ne (hA b z)
  have nsK : ∀ {b : Addr} {m : Str → Option Value}, s₁.heap.Ns b m → (hidT s₁.heap H).Ns b m := by
    rintro b m ⟨o, es, ep, e, d, r⟩
    refine ⟨o, es, ep, hidT_get e (only ?_), d, r⟩
    rintro rfl
    rw [ha] at e
    cases e
    cases (show Data.seq vs.toArray _ = Data.dict es ep from d)
  have hKb : K.In (hidT s₁.heap H) := by
    intro b o e
    refine hidT_get (KX b o e) (Classical.byContradiction fun z => ?_)
    have eb := hA b z
    subst eb
    rw [hK z] at e
    cases e
  have hM : Mod K mg (hidT s₁.heap H) := ⟨hKb, nsK hns, ⟨mb, nsK hb, hbb⟩, let ⟨mc, h1, h2⟩ := hlim; ⟨mc, nsK h1, h2⟩⟩
  have nil : ∀ b : Addr, b ∉ frs [] := fun b z => by cases z
  have e0 : Env0 P w K mg (hidT s₁.heap H) callerA [] s₁ H :=
    { frames := rfl, mod := hM, bs := fun b o e => of_hidT e, bsz := Nat.le_of_eq (hidT_size _ _), funs := trivial, frf := fun b hb => (nil b hb).elim, hok := hok, bare := .of_eq hg }
  have R := (F _ hKb (nsK hns)).run callerA [] s₁ H ⟨[.ref a], []⟩ [.ref a] [.ref a] _ _ rfl hr e0 (hbind s₁ (.ref a)) (.cons rfl .nil) hsp
  refine codeAny_mono R ?_
  rintro (e | fl) s' h
  · exact h.elim
  cases fl with
  | next => exact h.elim
  | brk => exact h.elim
  | cont => exact h.elim
  | ret u =>
    obtain ⟨v, H', os, bare, un, hok', r', rfl⟩ := h
    obtain rfl : u = Value.bool true := r'
    refine ⟨rfl, OldK.of_keep fun b o e => ?_, os, bare⟩
    rcases hO b with q | ⟨ob, xs, q⟩
    · exact un.keep b o e q (nil b) (by simp)
    · have e2 := (hok' b _ (un.frzs b ob _ q)).1
      have e1 := (hok b _ q).1
      rw [e] at e1
      cases e1
      exact e2
theorem lawG_call (KX : K.In s₁.heap) (hns : s₁.heap.Ns mainGlobals mg) (hb : s₁.heap.Ns builtinsNs mb) (hbb : ∀ x : Str, x ≠ "__name__" → mb x = bootBuiltins x) (hlim : s₁.heap.NoLimit) (hg : s₁.gens = #[])
    (ha : s₁.heap.get? a = some { cls := .type "list", data := .seq vs.toArray }) (hi : IntsAre vs ns) (hl : ns.length ≤ sizeLine) (hr : Room k callerA)
    (F : ∀ base : Heap, K.In base → base.Ns mainGlobals mg → FnG P w K mg base CX0 k fa fd [x] sp) (hbind : ∀ (s : Shared) (u : Value), BindsTo s fd ⟨[u], []⟩ [(x, u)])
    (hsp : ∀ H : Hp, Only H → SqL K H a (ns.map V.int) → sp [.ref a] H (fun v _ => v = .bl true) fun _ _ _ => False) :
    codeAny (model P w) callerA (.call (.ref fa) ⟨[.ref a], []⟩) (fun r s' => r = .ok (.ret (.bool true)) ∧ OldK s₁.heap s'.heap ∧ s'.os = s₁.os ∧ AllBare s'.gens) s₁ := by
  have rv := vals_ints hi
  have core := lawG_core KX hns hb hbb hlim hg ha hr F hbind
  cases hk : K.lookup a with
  | some o =>
    have e := KX a o hk
    rw [ha] at e
    cases e
    have sq : SqL K (fun _ => none) a (ns.map V.int) := .inr ⟨_, vs.toArray, _, hk, rfl, rfl, rfl, by rw [List.size_toArray, hi.length]; exact hl, by simpa using rv⟩
    exact core _ (fun _ => .inl rfl) (fun b u z => by cases (show (none : Option HO) = some u from z)) (fun b z => absurd rfl z) (fun z => absurd rfl z) (hsp _ (fun _ => .inl rfl) sq)
  | none =>
    generalize eH : (fun b => if b = a then some (HO.frz { cls := .type "list", data := .seq vs.toArray } (.lst (ns.map V.int))) else none : Hp) = H
    have h1 : H a = some (HO.frz { cls := .type "list", data := .seq vs.toArray } (.lst (ns.map V.int))) := by rw [← eH]; exact if_pos rfl
    have h2 : ∀ b, b ≠ a → H b = none := fun b n => by rw [← eH]; exact if_neg n
    have hO : Only H := fun b => (Classical.em (b = a)).elim (fun e => .inr ⟨_, _, e ▸ h1⟩) fun n => .inl (h2 b n)
    refine core H hO (fun b u z => ?_) (fun b z => Classical.byContradiction fun n => z (h2 b n)) (fun _ => hk) (hsp H hO (.inl (.inr ⟨_, h1⟩)))
    by_cases e : b = a
    · subst e
      rw [h1] at z
      cases z
      exact ⟨ha, by rw [List.length_map]; exact hl, vs, _, rv, ha⟩
    · rw [h2 b e] at z
      cases z
end
/-- a law, by the promise of its def where no repr is under way -/
theorem walk_ofG {l : PySem.W.OpenLaw} {n k : Nat} {q : Program} {loose : List Str} {XP : (Str → Option Value) → Heap → Prop} {YP : World → Heap → Prop} {d : DefRec} {x : Str}
    (hn : l.most = some n) (hn2 : n ≤ sizeLine) (hdf : d.params.defaults = []) (hr : Room k callerA)
    (F : ∀ (w : World) (mg : Str → Option Value) (fa : Addr) (h : Heap), YP w h → h.Ns mainGlobals mg → mg d.name = some (.ref fa) →
      ∃ (K : PySem.W.Frag) (fd : FuncData) (sp : Sp), K.In h ∧ (∀ (s : Shared) (u : Value), BindsTo s fd ⟨[u], []⟩ [(x, u)]) ∧
        (∀ (H : Hp) (a : Addr) (ns : List Int), ns.length ≤ n → Only H → SqL K H a (ns.map V.int) → sp [.ref a] H (fun v _ => v = .bl true) fun _ _ _ => False) ∧
        ∀ base : Heap, K.In base → base.Ns mainGlobals mg → FnG l.prog w K mg base CX0 k fa fd [x] sp) :
    PySem.W.WalkO q loose XP YP l.row.toRowW d [] (fun f vs => PySem.call f vs) := by
  refine Att.attach_call hn hdf ?_
  intro w s₀ s₁ mg mb fa o pm cd doc a vs ns G Y ho hd hcd hmg hobj hints hlen hg
  obtain ⟨K, fd, sp, KX, hb, hsp, hF⟩ := F w mg fa _ Y G.T.g hmg
  exact lawG_call KX G.T.g G.T.b G.T.builtins G.T.nolimit hg hobj hints (Nat.le_trans hlen hn2) hr hF hb fun H hO hS => hsp H a ns hlen hO hS
end GL

set_option Elab.async false
set_option linter.all false
set_option maxRecDepth 100000
set_option maxHeartbeats 4000000
/-! GB: heaps that keep what they hold but at some places; the source of draws. -/
namespace GL
open PySem PySem.Spec PyProof.Rows L2
/-- all that H tracks stands in H', but at the places of S -/
def Keep (S : List Addr) (H H' : Hp) : Prop := ∀ b o, b ∉ S → H b = some o → H' b = some o
theorem Keep.refl {S : List Addr} {H : Hp} : Keep S H H := fun _ _ _ e => e
theorem Keep.trans {S : List Addr} {H H1 H2 : Hp} (a : Keep S H H1) (b : Keep S H1 H2) : Keep S H H2 := fun x o n e => b x o n (a x o n e)
theorem Keep.mono {S T : List Addr} {H H' : Hp} (k : Keep S H H') (h : ∀ b ∈ S, b ∈ T) : Keep T H H' := fun b o n e => k b o (fun z => n (h b z)) e
theorem Keep.of0 {T : List Addr} {H H' : Hp} (k : Keep [] H H') : Keep T H H' := k.mono fun _ z => nomatch z
theorem Keep.new {S : List Addr} {H : Hp} {p : Addr} {o : HO} (h : H p = none) : Keep S H (upd H p o) := fun b u _ e => by
  rw [upd_ne (ne_of_none e h)]
  exact e
/-- a place of S, or one that H does not know, is written -/
theorem Keep.put {S : List Addr} {H H1 : Hp} {p : Addr} {o : HO} (k : Keep S H H1) (h : p ∈ S ∨ H p = none) : Keep S H (upd H1 p o) := fun b u n e => by
  rw [upd_ne ?_]
  · exact k b u n e
  · rintro rfl
    rcases h with h | h
    · exact n h
    · rw [h] at e
      cases e
/-- fresh behind is fresh ahead -/
theorem Keep.back {S : List Addr} {H H' : Hp} {p : Addr} (k : Keep S H H') (n : p ∉ S) (h : H' p = none) : H p = none := by
  cases e : H p with
  | none => rfl
  | some o =>
    rw [k p o n e] at h
    cases h
theorem Keep.rd {S : List Addr} {H H' : Hp} {a : Addr} {u : HO} (k : Keep S H H') (n : a ∉ S) (h : Rd H a u) : Rd H' a u :=
  h.elim (fun e => .inl (k a _ n e)) fun ⟨o, e⟩ => .inr ⟨o, k a _ n e⟩
theorem Keep.sql {S : List Addr} {K : PySem.W.Frag} {H H' : Hp} {a : Addr} {xs : List V} (k : Keep S H H') (n : a ∉ S) (h : SqL K H a xs) : SqL K H' a xs := h.imp (k.rd n) id
theorem Keep.sqt {S : List Addr} {K : PySem.W.Frag} {H H' : Hp} {a : Addr} {xs : List V} (k : Keep S H H') (n : a ∉ S) (h : SqT K H a xs) : SqT K H' a xs := h.imp (k.rd n) id
/-- tuples (and what is frozen) stay -/
def TKeep (H H' : Hp) : Prop := ∀ b, (∀ xs, H b = some (.tup xs) → H' b = some (.tup xs)) ∧ ∀ o u, H b = some (.frz o u) → H' b = some (.frz o u)
theorem TKeep.refl {H : Hp} : TKeep H H := fun _ => ⟨fun _ e => e, fun _ _ e => e⟩
theorem TKeep.trans {H H1 H2 : Hp} (a : TKeep H H1) (b : TKeep H1 H2) : TKeep H H2 := fun x => ⟨fun xs e => (b x).1 xs ((a x).1 xs e), fun o u e => (b x).2 o u ((a x).2 o u e)⟩
theorem Keep.tk {H H' : Hp} (k : Keep [] H H') : TKeep H H' := fun b => ⟨fun _ e => k b _ (fun z => nomatch z) e, fun _ _ e => k b _ (fun z => nomatch z) e⟩
theorem Keep.tk1 {H H' : Hp} {a : Addr} {xs : List V} (k : Keep [a] H H') (ha : H a = some (.lst xs)) : TKeep H H' := fun b => by
  have n : ∀ o, (o ≠ .lst xs) → H b = some o → b ∉ [a] := fun o z e m => by
    have : b = a := by simpa using m
    subst this
    rw [ha] at e
    exact z (Option.some.inj e).symm
  exact ⟨fun _ e => k b _ (n _ (by intro z; cases z) e) e, fun _ _ e => k b _ (n _ (by intro z; cases z) e) e⟩
theorem TKeep.rdT {H H' : Hp} {a : Addr} {xs : List V} (k : TKeep H H') (h : Rd H a (.tup xs)) : Rd H' a (.tup xs) :=
  h.elim (fun e => .inl ((k a).1 _ e)) fun ⟨o, e⟩ => .inr ⟨o, (k a).2 _ _ e⟩
theorem TKeep.sqt {K : PySem.W.Frag} {H H' : Hp} {a : Addr} {xs : List V} (k : TKeep H H') (h : SqT K H a xs) : SqT K H' a xs := h.imp k.rdT id
/-- a source of draws: the digits left, the seed, how many were drawn (at most N) -/
def Src (H : Hp) (a : Addr) (N : Nat) : Prop := ∃ g s n : Int, H a = some (.lst [.int g, .int s, .int n]) ∧ 0 ≤ g ∧ g < 10 ^ 300 ∧ 0 ≤ s ∧ s < 2305843009213693907 ∧ 0 ≤ n ∧ n ≤ N
theorem Src.mono {H : Hp} {a : Addr} {N M : Nat} (h : Src H a N) (l : N ≤ M) : Src H a M := by
  obtain ⟨g, s, n, e, h1, h2, h3, h4, h5, h6⟩ := h
  exact ⟨g, s, n, e, h1, h2, h3, h4, h5, by omega⟩
theorem Src.keep {S : List Addr} {H H' : Hp} {a : Addr} {N : Nat} (h : Src H a N) (k : Keep S H H') (n : a ∉ S) : Src H' a N := by
  obtain ⟨g, s, m, e, r⟩ := h
  exact ⟨g, s, m, k a _ n e, r⟩
theorem Src.tk {H H' : Hp} {a : Addr} {N : Nat} (h : Src H a N) (k : Keep [a] H H') : TKeep H H' := by
  obtain ⟨g, s, n, e, _⟩ := h
  exact k.tk1 e
/-! ### what the drawing helpers promise -/
def spStart (K : PySem.W.Frag) : Sp := fun vs H Q _ => ∃ (a : Addr) (ns : List Int) (k : Nat), vs = [.ref a, .int k] ∧ SqL K H a (ns.map V.int) ∧ k ≤ 63 ∧
  ∀ H' p, Keep [] H H' → H p = none → Src H' p 0 → Q (.ref p) H'
def spDraw : Sp := fun vs H Q _ => ∃ (a : Addr) (L : Int) (N : Nat), vs = [.ref a, .int L] ∧ Src H a N ∧ N ≤ 900000 ∧ 0 < L ∧ L ≤ 1000000 ∧
  ∀ H' r, Keep [a] H H' → Src H' a (N + 1) → 0 ≤ r → r < L → Q (.int r) H'
def spChoice (K : PySem.W.Frag) : Sp := fun vs H Q _ => ∃ (a b : Addr) (xs : List V) (N : Nat), vs = [.ref a, .ref b] ∧ Src H a N ∧ N ≤ 900000 ∧ SqL K H b xs ∧ b ≠ a ∧ xs ≠ [] ∧ xs.length ≤ 1000000 ∧
  ∀ (H' : Hp) (i : Nat) (v : V), Keep [a] H H' → Src H' a (N + 1) → xs[i]? = some v → Q v H'
def spMixed (K : PySem.W.Frag) : Sp := fun vs H Q _ => ∃ (a b : Addr) (xs : List V) (N : Nat), vs = [.ref a, .ref b] ∧ Src H a N ∧ N + xs.length ≤ 900000 ∧ (SqL K H b xs ∨ SqT K H b xs) ∧ b ≠ a ∧ xs.length ≤ 1000 ∧
  ∀ H' p ys, Keep [a] H H' → Src H' a (N + xs.length) → H p = none → H' p = some (.lst ys) → ys.Perm xs → Q (.ref p) H'
end GL

set_option Elab.async false
set_option linter.all false
set_option maxRecDepth 100000
set_option maxHeartbeats 4000000
/-! GP: readings that give one value and leave the heap as it is. -/
namespace GL
open PySem PySem.Spec PyProof.Rows L2
abbrev rAdd : R2 := rI0 fun i j => .int (i + j)
abbrev rSub : R2 := rI0 fun i j => .int (i - j)
abbrev rMul : R2 := rI CMul fun i j => .int (i * j)
abbrev rMulW : R2 := rI CMulW fun i j => .int (i * j)
abbrev rMod : R2 := rI (fun _ j => 0 < j) fun i j => .int (i % j)
abbrev rDiv : R2 := rI CDiv fun i j => .int (i / j)
abbrev rPow : R2 := rI CPow fun i j => .int (i ^ j.toNat)
abbrev rPowW : R2 := rI CPowW fun i j => .int (i ^ j.toNat)
abbrev rLt : R2 := rI0 fun i j => .bl (decide (i < j))
abbrev rLe : R2 := rI0 fun i j => .bl (decide (i ≤ j))
abbrev rGt : R2 := rI0 fun i j => .bl (decide (j < i))
abbrev rGe : R2 := rI0 fun i j => .bl (decide (j ≤ i))
abbrev rNeg : V → Hp → VK → Prop := rU fun i => .int (-i)
abbrev rAddS : R2 := fun x y H Q => ∃ i j, x = .str i ∧ y = .str j ∧ i.length + j.length ≤ sizeLine ∧ Q (.str (i ++ j)) H
abbrev rAbs : List V → Hp → VK → Prop := fun xs H Q => ∃ i, xs = [.int i] ∧ Q (.int (if i < 0 then -i else i)) H
abbrev rInt1 : List V → Hp → VK → Prop := fun xs H Q => (∃ i, xs = [.int i] ∧ Q (.int i) H) ∨ ∃ k, xs = [.bl k] ∧ Q (.int (if k then 1 else 0)) H
abbrev rMin2 : List V → Hp → VK → Prop := fun xs H Q => ∃ i j, xs = [.int i, .int j] ∧ Q (.int (if j < i then j else i)) H
abbrev rMax2 : List V → Hp → VK → Prop := fun xs H Q => ∃ i j, xs = [.int i, .int j] ∧ Q (.int (if j > i then j else i)) H
abbrev rListQ (K : PySem.W.Frag) : List V → Hp → VK → Prop := fun xs H Q => ∃ p ys, xs = [.ref p] ∧ (SqL K H p ys ∨ SqT K H p ys) ∧ ∀ l, H l = none → Q (.ref l) (upd H l (.lst ys))
abbrev rTupQ (K : PySem.W.Frag) : List V → Hp → VK → Prop := fun xs H Q => ∃ p ys, xs = [.ref p] ∧ ((SqL K H p ys ∧ ∀ l, H l = none → Q (.ref l) (upd H l (.tup ys))) ∨ (SqT K H p ys ∧ Q (.ref p) H))
abbrev rJoinQ (K : PySem.W.Frag) : V → List V → Hp → VK → Prop := fun x xs H Q => ∃ a p, ∃ ys : List Str, x = .str a ∧ xs = [.ref p] ∧ (SqL K H p (ys.map V.str) ∨ SqT K H p (ys.map V.str)) ∧ (ys.map (·.length)).sum + ys.length * a.length ≤ 16777216 ∧ Q (.str (Txt.join a ys)) H
abbrev tJn (ts : List TE) : TE := fun σ H Q => tJs ts Str.empty σ H fun out H1 => Q (.str out) H1
abbrev rLenQ (K : PySem.W.Frag) : List V → Hp → VK → Prop := fun xs H Q => ∃ p ys, xs = [.ref p] ∧ (SqL K H p ys ∨ SqT K H p ys) ∧ Q (.int ys.length) H
abbrev tLenQ (K : PySem.W.Frag) (t : TE) : TE := tCB (rLenQ K) (tCons t tNil)
def Pu (t : TE) (σ : L2.St) (H : Hp) (v : V) : Prop := ∀ Q : VK, Q v H → t σ H Q
def PuT (t : TT) (σ : L2.St) (H : Hp) (b : Bool) : Prop := ∀ Q : Bool → Hp → Prop, Q b H → t σ H Q
def PuA (t : TA) (σ : L2.St) (H : Hp) (vs : List V) : Prop := ∀ Q : List V → Hp → Prop, Q vs H → t σ H Q
def PuO (t : TO) (σ : L2.St) (H : Hp) (o : Option Int) : Prop := ∀ Q : Option Int → Hp → Prop, Q o H → t σ H Q
def PuR (r : R2) (x y : V) (H : Hp) (z : V) : Prop := ∀ Q : VK, Q z H → r x y H Q
def PuC (r : List V → Hp → VK → Prop) (vs : List V) (H : Hp) (z : V) : Prop := ∀ Q : VK, Q z H → r vs H Q
def PuM (r : V → List V → Hp → VK → Prop) (x : V) (vs : List V) (H : Hp) (z : V) : Prop := ∀ Q : VK, Q z H → r x vs H Q
section
variable {K : PySem.W.Frag} {σ : L2.St} {H : Hp} {ta tb te to : TE} {t u : TT} {x y z v : V} {r : R2} {tas : TA} {vs : List V} {D : Ends} {Q : VK}
theorem pu_var {i : Nat} (h : σ[i]? = some (some v)) : Pu (tVar i) σ H v := fun _ q => ⟨v, h, q⟩
theorem pu_c : Pu (tC v) σ H v := fun _ q => q
theorem pu_op (ha : Pu ta σ H x) (hb : Pu tb σ H y) (hr : PuR r x y H z) : Pu (tOp r ta tb) σ H z := fun Q q => ha _ (hb _ (hr Q q))
theorem pu_un {r : V → Hp → VK → Prop} (ha : Pu ta σ H x) (hr : ∀ Q : VK, Q z H → r x H Q) : Pu (tUn r ta) σ H z := fun Q q => ha _ (hr Q q)
theorem pur_i0 {g : Int → Int → V} {i j : Int} (e : g i j = z) : PuR (rI0 g) (.int i) (.int j) H z := fun _ q => ⟨i, j, rfl, rfl, e ▸ q⟩
theorem pur_i {C : Int → Int → Prop} {g : Int → Int → V} {i j : Int} (e : g i j = z) (hc : C i j) : PuR (rI C g) (.int i) (.int j) H z := fun _ q => ⟨i, j, rfl, rfl, hc, e ▸ q⟩
theorem puu_neg {i : Int} : ∀ Q : VK, Q (.int (-i)) H → rU (fun i => .int (-i)) (.int i) H Q := fun _ q => ⟨i, rfl, q⟩
theorem pur_eq (h : scal x y = true) : PuR rEq x y H (.bl (decide (x = y))) := fun _ q => ⟨h, q⟩
theorem pur_ne (h : scal x y = true) : PuR rNe x y H (.bl (!decide (x = y))) := fun _ q => ⟨h, q⟩
theorem pur_ixL {p : Addr} {xs : List V} {i : Int} (h : SqL K H p xs) (ha : atI xs i = some v) : PuR (rIxL K) (.ref p) (.int i) H v := fun _ q => ⟨p, xs, i, v, rfl, rfl, h, ha, q⟩
theorem pur_ixT {p : Addr} {xs : List V} {i : Int} (h : SqT K H p xs) (ha : atI xs i = some v) : PuR (rIxT K) (.ref p) (.int i) H v := fun _ q => ⟨p, xs, i, v, rfl, rfl, h, ha, q⟩
theorem pur_ixS {w : Str} {i : Int} {c : Nat} (h : w.length ≤ sizeLine) (ha : atI w.cps.toList i = some c) : PuR rIxS (.str w) (.int i) H (.str ⟨#[c]⟩) := fun _ q => ⟨w, i, c, rfl, rfl, h, ha, q⟩
theorem pur_str {a b : Str} (h : a.length + b.length ≤ sizeLine) : PuR rAddS (.str a) (.str b) H (.str (a ++ b)) := fun _ q => ⟨a, b, rfl, rfl, h, q⟩
theorem pu_cb {r : List V → Hp → VK → Prop} (ha : PuA tas σ H vs) (hr : PuC r vs H z) : Pu (tCB r tas) σ H z := fun Q q => ha _ (hr Q q)
theorem pua_nil : PuA tNil σ H [] := fun _ q => q
theorem pua_cons (ha : Pu ta σ H x) (hb : PuA tas σ H vs) : PuA (tCons ta tas) σ H (x :: vs) := fun _ q => ha _ (hb _ q)
theorem puc_lenL {p : Addr} {xs : List V} (h : SqL K H p xs) : PuC (rLenQ K) [.ref p] H (.int xs.length) := fun _ q => ⟨p, xs, rfl, .inl h, q⟩
theorem puc_lenT {p : Addr} {xs : List V} (h : SqT K H p xs) : PuC (rLenQ K) [.ref p] H (.int xs.length) := fun _ q => ⟨p, xs, rfl, .inr h, q⟩
theorem puc_abs {i : Int} : PuC rAbs [.int i] H (.int (if i < 0 then -i else i)) := fun _ q => ⟨i, rfl, q⟩
theorem puc_intB {k : Bool} : PuC rInt1 [.bl k] H (.int (if k then 1 else 0)) := fun _ q => .inr ⟨k, rfl, q⟩
theorem puc_min {i j : Int} : PuC rMin2 [.int i, .int j] H (.int (if j < i then j else i)) := fun _ q => ⟨i, j, rfl, q⟩
theorem puc_max {i j : Int} : PuC rMax2 [.int i, .int j] H (.int (if j > i then j else i)) := fun _ q => ⟨i, j, rfl, q⟩
theorem put_test {b : Bool} (h : Pu te σ H (.bl b)) : PuT (tTest te) σ H b := fun _ q => h _ ⟨b, rfl, q⟩
theorem put_B {b : Bool} (h : Pu te σ H (.bl b)) : PuT (tB te) σ H b := fun _ q => h _ ⟨b, rfl, q⟩
theorem put_not {b : Bool} (h : PuT t σ H b) : PuT (tNot t) σ H (!b) := fun _ q => h _ q
theorem put_and {a b : Bool} (h1 : PuT t σ H a) (h2 : a = true → PuT u σ H b) : PuT (tAnd t u) σ H (a && b) := fun Q q => h1 _ (by
  cases a with
  | true => exact h2 rfl Q q
  | false => exact q)
theorem put_or {a b : Bool} (h1 : PuT t σ H a) (h2 : a = false → PuT u σ H b) : PuT (tOr t u) σ H (a || b) := fun Q q => h1 _ (by
  cases a with
  | true => exact q
  | false => exact h2 rfl Q q)
theorem pu_andV {a b : Bool} (h1 : Pu ta σ H (.bl a)) (h2 : a = true → Pu tb σ H (.bl b)) : Pu (tAndV ta tb) σ H (.bl (a && b)) := fun Q q => h1 _ ⟨a, rfl, by
  cases a with
  | true => exact h2 rfl Q q
  | false => exact q⟩
theorem pu_orV {a b : Bool} (h1 : Pu ta σ H (.bl a)) (h2 : a = false → Pu tb σ H (.bl b)) : Pu (tOrV ta tb) σ H (.bl (a || b)) := fun Q q => h1 _ ⟨a, rfl, by
  cases a with
  | true => exact q
  | false => exact h2 rfl Q q⟩
theorem pu_notV {a : Bool} (h1 : Pu ta σ H (.bl a)) : Pu (tNotV ta) σ H (.bl (!a)) := fun Q q => h1 _ ⟨a, rfl, q⟩
theorem pu_if {b : Bool} (h : PuT t σ H b) (h1 : b = true → Pu ta σ H v) (h2 : b = false → Pu tb σ H v) : Pu (tIf t ta tb) σ H v := fun Q q => h _ (by
  cases b with
  | true => exact h1 rfl Q q
  | false => exact h2 rfl Q q)
theorem pu_is {w : V} (h : Pu te σ H v) (e : v = w) : Pu te σ H w := e ▸ h
theorem put_is {a b : Bool} (h : PuT t σ H a) (e : a = b) : PuT t σ H b := e ▸ h
theorem puo_none : PuO tNoPart σ H none := fun _ q => q
theorem puo_some {i : Int} (h : Pu te σ H (.int i)) : PuO (tPart te) σ H (some i) := fun _ q => h _ ⟨i, rfl, q⟩
/-! ### statements -/
theorem su_asg {i : Nat} (h : Pu te σ H v) (k : D.nx (σ.set i (some v)) H) : tAsg te (gName i) D σ H := h _ k
theorem su_ret (h : Pu te σ H v) (k : D.rt v H) : tRet te D σ H := h _ k
theorem su_if {b : Bool} {tu tw : TS} (h : PuT t σ H b) (h1 : b = true → tu D σ H) (h2 : b = false → tw D σ H) : tIfS t tu tw D σ H := h _ (by
  cases b with
  | true => exact h1 rfl
  | false => exact h2 rfl)
theorem su_seq {tu tw : TS} (h : tu { D with nx := tw D } σ H) : tSeq tu tw D σ H := h
theorem sq_asg {i : Nat} {tw : TS} (h : Pu te σ H v) (k : tw D (σ.set i (some v)) H) : tSeq (tAsg te (gName i)) tw D σ H := h _ k
theorem sq_do {g : TG} {tw : TS} (h : te σ H fun x H1 => g x σ H1 (tw D)) : tSeq (tAsg te g) tw D σ H := h
theorem sq_doN {i : Nat} {tw : TS} (h : te σ H fun x H1 => tw D (σ.set i (some x)) H1) : tSeq (tAsg te (gName i)) tw D σ H := h
theorem sq_ret {tw : TS} (h : Pu te σ H v) (k : D.rt v H) : tSeq (tRet te) tw D σ H := h _ k
theorem sq_nx {tw : TS} (k : tw D σ H) : tSeq tNext tw D σ H := k
theorem sq_seq {t1 t2 t3 : TS} (k : tSeq t1 (tSeq t2 t3) D σ H) : tSeq (tSeq t1 t2) t3 D σ H := k
theorem sq_drop {tw : TS} (h : te σ H fun _ H1 => tw D σ H1) : tSeq (tDrop te) tw D σ H := h
theorem sq_if {b : Bool} {tu tv tw : TS} (h : PuT t σ H b) (h1 : b = true → tSeq tu tw D σ H) (h2 : b = false → tSeq tv tw D σ H) : tSeq (tIfS t tu tv) tw D σ H := h _ (by
  cases b with
  | true => exact h1 rfl
  | false => exact h2 rfl)
theorem sq_set {i : Nat} {tw : TS} {ti : TE} {rs : TSet} (h : Pu te σ H v) (ho : Pu to σ H x) (hi : Pu ti σ H y) (k : rs x y v H fun H3 => tw D σ H3) : tSeq (tAsg te (gSub to ti rs)) tw D σ H := h _ (ho _ (hi _ k))
theorem al_lst (h : PuA tas σ H vs) (hl : vs.length ≤ sizeLine) (k : ∀ p, H p = none → Q (.ref p) (upd H p (.lst vs))) : tLst tas σ H Q := h _ ⟨hl, k⟩
theorem al_tup (h : PuA tas σ H vs) (hl : vs.length ≤ sizeLine) (k : ∀ p, H p = none → Q (.ref p) (upd H p (.tup vs))) : tTup tas σ H Q := h _ ⟨hl, k⟩
theorem al_op (h : ta σ H fun x H1 => tb σ H1 fun y H2 => r x y H2 Q) : tOp r ta tb σ H Q := h
theorem al_opL {y : Addr → V} (h : PuA tas σ H vs) (hl : vs.length ≤ sizeLine) (hb : ∀ p, H p = none → Pu tb σ (upd H p (.lst vs)) (y p)) (k : ∀ p, H p = none → r (.ref p) (y p) (upd H p (.lst vs)) Q) : tOp r (tLst tas) tb σ H Q :=
  h _ ⟨hl, fun p hp => hb p hp _ (k p hp)⟩
theorem al_opV {i : Nat} (h : σ[i]? = some (some x)) (k : tb σ H fun y H2 => r x y H2 Q) : tOp r (tVar i) tb σ H Q := ⟨x, h, k⟩
theorem al_opP (h : Pu ta σ H x) (k : tb σ H fun y H2 => r x y H2 Q) : tOp r ta tb σ H Q := h _ k
theorem su_retE (h : te σ H D.rt) : tRet te D σ H := h
theorem al_bm {T : String} {rm : V → List V → Hp → VK → Prop} (h : Pu to σ H x) (ht : tyV K T x H) (k : tas σ H fun xs H2 => rm x xs H2 Q) : tBM K T rm to tas σ H Q := h _ ⟨ht, k⟩
theorem al_args (h : PuA tas σ H vs) {QA : List V → Hp → Prop} (k : QA vs H) : tas σ H QA := h _ k
theorem al_cons {tr : TA} {QA : List V → Hp → Prop} (h : te σ H fun x H1 => tr σ H1 fun xs H2 => QA (x :: xs) H2) : tCons te tr σ H QA := h
theorem al_call {sp : Sp} {dvs : List V} {E : XK} (h : PuA tas σ H vs) (k : sp (vs ++ dvs) H Q E) : tCall sp dvs E tas σ H Q := h _ k
theorem al_list {p : Addr} {xs : List V} (h : PuA tas σ H [.ref p]) (hs : SqL K H p xs ∨ SqT K H p xs) (k : ∀ l, H l = none → Q (.ref l) (upd H l (.lst xs))) :
    tCB (rListQ K) tas σ H Q := h _ ⟨p, xs, rfl, hs, k⟩
theorem al_tupL {p : Addr} {xs : List V} (h : PuA tas σ H [.ref p]) (hs : SqL K H p xs) (k : ∀ l, H l = none → Q (.ref l) (upd H l (.tup xs))) :
    tCB (rTupQ K) tas σ H Q := h _ ⟨p, xs, rfl, .inl ⟨hs, k⟩⟩
theorem sz {n : Nat} (h : n ≤ 1000000) : n ≤ sizeLine := Nat.le_trans h (by decide)
theorem szl {n : Nat} (h : n < 1000000) : n < sizeLine := Nat.lt_of_lt_of_le h (by decide)
end
/-! ### defs of the module by their names -/
structure Dn (P : Program) (w : World) (K : PySem.W.Frag) (mg : Str → Option Value) (base : Heap) (k : Nat) (x : Str) (sp : Sp) : Prop where
  ex : ∃ f fd ps, FnOk P w K mg base CX0 k f fd ps sp ∧ mg x = some (.ref f) ∧ PySem.W.keepIn K (.ref f) = true ∧ Binds K fd ps []
structure DnG (P : Program) (w : World) (K : PySem.W.Frag) (mg : Str → Option Value) (base : Heap) (k : Nat) (x : Str) (sp : Sp) : Prop where
  ex : ∃ f fd ps, FnG P w K mg base CX0 k f fd ps sp ∧ mg x = some (.ref f) ∧ PySem.W.keepIn K (.ref f) = true ∧ Binds K fd ps []
abbrev FnP (K : PySem.W.Frag) (x : Str) (st : Stmt) (f : Addr) (fd : FuncData) : Prop := FunD K x x (defArgs st) (defBody st) (defScope st) [] [] f fd
/-- the built-in names that the texts use are the built-ins -/
structure Bl (mg : Str → Option Value) : Prop where
  len : mg "len" = none
  abs : mg "abs" = none
  int : mg "int" = none
  list : mg "list" = none
  tuple : mg "tuple" = none
  range : mg "range" = none
  min : mg "min" = none
  max : mg "max" = none
  sorted : mg "sorted" = none
  enumerate : mg "enumerate" = none
  zip : mg "zip" = none
  repr : mg "repr" = none
  all : mg "all" = none
  any : mg "any" = none
  set : mg "set" = none
  str : mg "str" = none
  bool : mg "bool" = none
  dict : mg "dict" = none
  sum : mg "sum" = none
  reversed : mg "reversed" = none
  isinstance : mg "isinstance" = none
section
variable {X : Cx} {j k : Nat} {sp : Sp} {x : Str} {p pos : Pos} {e : Expr} {es : List Expr} {t : TA}
theorem pe_d (d : Dn X.prog X.w X.K X.mg X.base j x sp) (hr : Room k X.A) (ha : PA X (e :: es) t) (hj : j ≤ k := by decide) (hg : Gl X x := by rfl) (hdb : (x == ("__debug__" : Str)) = false := by decide)
    (he : starEach (e :: es) X.env = (false, eval e X.env) :: starEach es X.env := by rfl) (hpl : (backTo pos (starEach es X.env)).any (·.1) = false := by rfl) : PE X (.Call (.Name x p) (e :: es) [] pos) (tCall sp [] E0 t) := by
  obtain ⟨f, fd, ps, F, hm, hk, hb⟩ := d.ex
  exact pe_call F (hr.mono hj) hg hm hk hb .nil pass0 ha hdb he hpl
theorem pe_dG (d : DnG X.prog X.w X.K X.mg X.base j x sp) (hG : X.A.guards = some []) (hr : Room k X.A) (ha : PA X (e :: es) t) (hj : j ≤ k := by decide) (hg : Gl X x := by rfl) (hdb : (x == ("__debug__" : Str)) = false := by decide)
    (he : starEach (e :: es) X.env = (false, eval e X.env) :: starEach es X.env := by rfl) (hpl : (backTo pos (starEach es X.env)).any (·.1) = false := by rfl) : PE X (.Call (.Name x p) (e :: es) [] pos) (tCall sp [] E0 t) := by
  obtain ⟨f, fd, ps, F, hm, hk, hb⟩ := d.ex
  exact pe_callG F hG (hr.mono hj) hg hm hk hb .nil pass0 ha hdb he hpl
/-- a text, an int of the module -/
theorem pe_gs {z : Str} (h : ∃ t, X.mg x = some (.str z t)) (hg : Gl X x := by rfl) (hdb : (x == ("__debug__" : Str)) = false := by decide) : PE X (.Name x pos) (tC (.str z)) := by
  obtain ⟨t, h⟩ := h
  exact pe_glob hg h ⟨t, rfl⟩ hdb
theorem pe_gi {z : Int} (h : ∃ t, X.mg x = some (.int z t)) (hg : Gl X x := by rfl) (hdb : (x == ("__debug__" : Str)) = false := by decide) : PE X (.Name x pos) (tC (.int z)) := by
  obtain ⟨t, h⟩ := h
  exact pe_glob hg h ⟨t, rfl⟩ hdb
end
section
variable {P : Program} {w : World} {K : PySem.W.Frag} {mg : Str → Option Value} {base : Heap} {k : Nat} {x : Str} {st : Stmt} {f : Addr} {fd : FuncData} {N ps : List Str} {sp : Sp}
/-- a def by its body -/
theorem dn_of (F : FnP K x st f fd) (hm : mg x = some (.ref f)) (S : FnScope N ps (defScope st)) (len : ∀ vs H Q E, sp vs H Q E → vs.length = ps.length)
    (hb : ∀ (kV doc pm : Value) (an : Option Addr) (cdv ct : Value) (us : List Value), us.length = ps.length → bindArgs (PySem.W.fnOf x x (defArgs st) (defBody st) (defScope st) .none kV doc pm an cdv ct) ⟨us, []⟩ = pure (ps.zip us))
    (t : TS) (hbody : ∀ (cdv : Value) (A : Around) (outer : List Env) (s : Shared) (H : Hp) (E : XK), Room k (A.deeper (envOfC x (defScope st) s.heap.objs.size f cdv)) →
      PSs (cxOf CX0 P w K mg base N x (defScope st) f cdv A outer s H E).nox (defBody st) t)
    (hpure : ∀ vs H Q E, sp vs H Q E → t { nx := fun _ H' => Q .non H', rt := Q } (start N vs) H) : Dn P w K mg base (k + 1) x sp :=
  ⟨f, fd, ps, F.ok S len fun cdv A outer s H vs Q E hr h => ⟨t, (hbody cdv A outer s H E hr).nox, hpure vs H Q E h⟩, hm, F.kp, F.bindsN hb⟩
theorem dnG_of (F : FnP K x st f fd) (hm : mg x = some (.ref f)) (S : FnScope N ps (defScope st)) (len : ∀ vs H Q E, sp vs H Q E → vs.length = ps.length)
    (hb : ∀ (kV doc pm : Value) (an : Option Addr) (cdv ct : Value) (us : List Value), us.length = ps.length → bindArgs (PySem.W.fnOf x x (defArgs st) (defBody st) (defScope st) .none kV doc pm an cdv ct) ⟨us, []⟩ = pure (ps.zip us))
    (t : TS) (hbody : ∀ (cdv : Value) (A : Around) (outer : List Env) (s : Shared) (H : Hp) (E : XK), A.guards = some [] → Room k (A.deeper (envOfC x (defScope st) s.heap.objs.size f cdv)) →
      PSs (cxOf CX0 P w K mg base N x (defScope st) f cdv A outer s H E).nox (defBody st) t)
    (hpure : ∀ vs H Q E, sp vs H Q E → t { nx := fun _ H' => Q .non H', rt := Q } (start N vs) H) : DnG P w K mg base (k + 1) x sp := by
  refine ⟨f, fd, ps, ?_, hm, F.kp, F.bindsN hb⟩
  obtain ⟨oc, od, dV, kV, doc, pm, an, cdv, ct, osl, rfl, lk, hcd, _⟩ := F.ex
  exact fnG_of lk hcd S len fun A outer s H vs Q E hg hr h => ⟨t, (hbody cdv A outer s H E hg hr).nox, hpure vs H Q E h⟩
end
end GL

set_option Elab.async false
set_option linter.all false
set_option maxRecDepth 100000
set_option maxHeartbeats 4000000
/-! GS: sorted of tuples whose first items are different texts. -/
namespace GL
open PySem PySem.Spec PyProof.Rows L2
def sLt (a b : Str) : Bool := decide (a.cps.toList < b.cps.toList)
theorem sLt_swo {α : Type} (k : α → Str) : SrtO.Swo fun x y => sLt (k x) (k y) := by
  refine ⟨fun x y h => ?_, fun x y z h1 h2 => ?_⟩
  · have a : (k x).cps.toList < (k y).cps.toList := of_decide_eq_true h
    exact decide_eq_false fun b => List.lt_asymm a b
  · have a : ¬ (k y).cps.toList < (k x).cps.toList := of_decide_eq_false h1
    have b : ¬ (k z).cps.toList < (k y).cps.toList := of_decide_eq_false h2
    exact decide_eq_false (List.le_trans (l₁ := (k x).cps.toList) (l₂ := (k y).cps.toList) (l₃ := (k z).cps.toList) a b)
/-- a tuple that begins with the text z -/
def IsHead (h : Heap) (v : Value) (z : Str) : Prop := ∃ a o xs n t r, v = .ref a ∧ h.get? a = some o ∧ o.cls = .type "tuple" ∧ o.data = .seq xs n ∧ xs.toList = .str z t :: r
section
variable {prog : Program} {w : World} {A : Around} {s : Shared}
theorem kat_same {b fin : Bool} {Q : Bool → Shared → Prop} (h : Q fin s) : ∀ (r : List Value) (i : Nat), PySem.W.KatLex prog w A b fin Q (r.zip r) i s
  | [], _ => PySem.W.kat_nil h
  | v :: r, i => PySem.W.kat_cons (SeqAt.EqAt.same v prog w _ _ (PySem.W.kat_yes (kat_same h r (i + 1))))
theorem head_cmp {vs : List Value} {k : Value → Str} (hp : ∀ v ∈ vs, IsHead s.heap v (k v)) (inj : ∀ v ∈ vs, ∀ u ∈ vs, k v = k u → v = u) :
    SrtO.Cmp prog w A s (tuples' true) (fun p => p.1 ∈ vs) (SrtO.lt2 fun v u => sLt (k v) (k u)) := by
  intro p q hm hm'
  obtain ⟨a, o, xs, n, t, r, e, ho, hc, hd, hx⟩ := hp _ hm
  obtain ⟨a', o', xs', n', t', r', e', ho', hc', hd', hx'⟩ := hp _ hm'
  have same := inj _ hm _ hm'
  show wpAny (model prog w) A (keyLt' (tuples' true) p.1 q.1) (fun r s' => s' = s ∧ r = sLt (k p.1) (k q.1)) (fun _ _ => False) s
  generalize k p.1 = x at *
  generalize k q.1 = y at *
  by_cases hxy : x = y
  · have sm := same hxy
    rw [e, e'] at sm
    cases sm
    rw [ho] at ho'
    cases ho'
    rw [hd] at hd'
    cases hd'
    rw [e, e']
    refine PySem.W.kat_lt ho hd ho hd ?_
    refine kat_same ⟨rfl, ?_⟩ _ _
    rw [hxy]
    rw [decide_eq_false (Nat.lt_irrefl _)]
    exact (decide_eq_false (List.lt_irrefl _)).symm
  · rw [e, e']
    refine PySem.W.kat_lt ho hd ho' hd' ?_
    rw [hx, hx']
    refine PySem.W.kat_cons (SeqAt.EqAt.str_str x t y t' prog w _ _ ?_)
    rw [show (x == y) = false from by simpa using hxy]
    exact PySem.W.kat_no (oneLt_str ⟨rfl, rfl⟩)
theorem heads_of {h : Heap} {k : Value → Str} : ∀ {vs : List Value}, (∀ v ∈ vs, IsHead h v (k v)) → ∃ fs : List Value, PySem.W.KatTups h vs fs ∧ fs.length = vs.length ∧ ∀ f ∈ fs, ∃ x t, f = Value.str x t
  | [], _ => ⟨[], PySem.W.KatTups.nil, rfl, fun _ hm => by simp at hm⟩
  | v :: vs, hp => by
    obtain ⟨fs, h1, h2, h3⟩ := heads_of (vs := vs) fun u hm => hp u (List.mem_cons_of_mem _ hm)
    obtain ⟨a, o, xs, n, t, r, e, ho, hc, hd, hx⟩ := hp v List.mem_cons_self
    subst e
    have e0 : xs[0]? = some (Value.str (k (.ref a)) t) := by
      rw [← Array.getElem?_toList, hx]
      rfl
    refine ⟨.str (k (.ref a)) t :: fs, PySem.W.KatTups.cons ho hc hd e0 h1, by simp [h2], ?_⟩
    intro f hm
    rcases List.mem_cons.mp hm with rfl | hm
    · exact ⟨_, t, rfl⟩
    · exact h3 f hm
theorem heads_sortable {a : Addr} {vs : List Value} {k : Value → Str} (h0 : 0 < vs.length) (hp : ∀ v ∈ vs, IsHead s.heap v (k v)) (inj : ∀ v ∈ vs, ∀ u ∈ vs, k v = k u → v = u) (ha : ∀ o, s.heap.get? a = some o → o.cls ≠ .type "tuple") :
    SrtO.SortableO prog w A s a vs fun v u => sLt (k v) (k u) := by
  intro h' keep
  have hp' : ∀ v ∈ vs, IsHead h' v (k v) := fun v hm => by
    obtain ⟨b, o, xs, n, t, r, e, ho, hc, hd, hx⟩ := hp v hm
    exact ⟨b, o, xs, n, t, r, e, keep b o (fun z => by subst z; exact ha o ho hc) ho, hc, hd, hx⟩
  obtain ⟨fs, h1, h2, h3⟩ := heads_of hp'
  refine ⟨tuples' true, fun Q E hq => ?_, head_cmp hp' inj⟩
  refine PySem.W.kat_kind (T := .type "str") h1 (by omega) (fun f hm => ?_) (by rfl) ?_
  · obtain ⟨x, t, rfl⟩ := h3 f hm
    exact PySem.W.Looks.now
  · rw [show (Value.type "str" != Value.type "tuple") = true by first | decide +kernel | rfl]
    exact hq
end
/-- sorted(xs), xs a list of tuples that begin with different texts (nm tells which) -/
def rSortM (K : PySem.W.Frag) : List V → Hp → VK → Prop := fun vs H Q => ∃ (a : Addr) (xs : List V) (nm : V → Str), vs = [V.ref a] ∧ SqL K H a xs ∧ (∀ x ∈ xs, ∃ t r, x = V.ref t ∧ SqT K H t (.str (nm x) :: r)) ∧
  (xs.map nm).Nodup ∧ ∀ ys p, ys.Perm xs → ys.Pairwise (fun x y => sLt (nm x) (nm y) = true) → H p = none → Q (.ref p) (upd H p (.lst ys))
theorem inj_of_nodup {α β : Type} {f : α → β} : ∀ {l : List α}, (l.map f).Nodup → ∀ x ∈ l, ∀ y ∈ l, f x = f y → x = y
  | [], _, _, hx, _, _, _ => nomatch hx
  | a :: l, h, x, hx, y, hy, e => by
    rw [List.map_cons, List.nodup_cons] at h
    rcases List.mem_cons.mp hx with rfl | _
    · rcases List.mem_cons.mp hy with rfl | hy
      · rfl
      · exact absurd (List.mem_map.mpr ⟨y, hy, e.symm⟩) h.1
    · rename_i hx'
      rcases List.mem_cons.mp hy with rfl | hy
      · exact absurd (List.mem_map.mpr ⟨x, hx', e⟩) h.1
      · exact inj_of_nodup h.2 x hx' y hy e
theorem str_tri {a b : Str} (h1 : sLt a b = false) (h2 : sLt b a = false) : a = b := by
  have e : a.cps.toList = b.cps.toList := List.le_antisymm (of_decide_eq_false h2) (of_decide_eq_false h1)
  cases a
  cases b
  simp only [Str.mk.injEq]
  exact Array.toList_inj.mp e
section
variable {X : Cx}
theorem cr_sortM : CallR X (.builtin "sorted") (rSortM X.K) := by
  intro pins s σ H vs us Q I r h
  obtain ⟨a, xs, nm, rfl, hs, hx, nd, q⟩ := h
  obtain ⟨its, rv, hl, hz⟩ := I.list hs
  obtain ⟨u, rfl, ru⟩ := vals1 r
  obtain rfl : u = Value.ref a := ru
  obtain ⟨e1, e2⟩ := refs_back rv fun x m => (hx x m).imp fun t z => z.elim fun _ z => z.1
  have hp : ∀ v ∈ its, IsHead s.heap v (nm (backV v)) := fun v hv => by
    obtain ⟨t, rfl⟩ := e2 v hv
    have hm : V.ref t ∈ xs := by rw [e1]; exact List.mem_map.mpr ⟨_, hv, rfl⟩
    obtain ⟨t', rest, e, ht⟩ := hx _ hm
    cases e
    obtain ⟨jts, r2, ⟨o, ho, hc, n, hd⟩, _⟩ := I.tuple ht
    cases r2 with
    | cons p r3 =>
      obtain ⟨tk, rfl⟩ := p
      exact ⟨t, o, _, n, tk, _, rfl, ho, hc, hd, rfl⟩
  have inj : ∀ v ∈ its, ∀ u ∈ its, nm (backV v) = nm (backV u) → v = u := fun v hv u hu e => by
    obtain ⟨t, rfl⟩ := e2 v hv
    obtain ⟨t', rfl⟩ := e2 u hu
    have m1 : V.ref t ∈ xs := by rw [e1]; exact List.mem_map.mpr ⟨_, hv, rfl⟩
    have m2 : V.ref t' ∈ xs := by rw [e1]; exact List.mem_map.mpr ⟨_, hu, rfl⟩
    have := inj_of_nodup nd _ m1 _ m2 e
    cases this
    rfl
  refine SrtO.sorted_ord (ltv := fun v u => sLt (nm (backV v)) (nm (backV u))) (sLt_swo fun v => nm (backV v)) hl.isList (by rw [← rv.length]; exact hz) (fun h2 h₁ b hb kk => ?_) fun out o1 o2 => ?_
  · refine heads_sortable (s := { s with heap := h₁ }) (by omega) (fun v hm => ?_) inj fun o e => ?_
    · obtain ⟨c, o, ys, n, t, r, e, ho, hc, hd, hx⟩ := hp v hm
      exact ⟨c, o, ys, n, t, r, e, (kk c o ho).2, hc, hd, hx⟩
    · rw [hb] at e
      cases e
      intro c
      exact absurd (Value.type.inj c) (by decide)
  · have h3 : ∀ u ∈ out, ∃ a, u = Value.ref a := fun u hu => e2 u (o2.perm.mem_iff.mp hu)
    obtain ⟨n, hn⟩ := sortedAll_at s.heap its out.toArray
    have hpm : (out.map backV).Perm xs := by
      rw [e1]
      exact o2.perm.map backV
    refine ⟨.ref _, upd H (s.heap.objs.size + 1) (.lst (out.map backV)), I.laid (t' := s.toks) (fun _ _ e => sortedAll_old e) (Nat.le_succ _) ⟨?_, out, n, vals_back h3, hn⟩, rfl, q _ _ hpm ?_ (I.hok.fresh (Nat.le_succ _))⟩
    · rw [hpm.length_eq]
      exact hz
    · have nd2 : ((out.map backV).map nm).Nodup := (hpm.map nm).nodup_iff.mpr nd
      have pw : (out.map backV).Pairwise fun x y => sLt (nm y) (nm x) = false := List.pairwise_map.mpr o1
      have pn : (out.map backV).Pairwise fun x y => nm x ≠ nm y := List.pairwise_map.mp nd2
      refine (pw.and pn).imp fun {x y} z => ?_
      cases e : sLt (nm x) (nm y) with
      | true => rfl
      | false => exact absurd (str_tri e z.1) z.2
end
end GL

set_option Elab.async false
set_option linter.all false
set_option maxRecDepth 100000
set_option maxHeartbeats 4000000
set_option exponentiation.threshold 100000
namespace GL
open PySem PySem.Spec PyProof.Rows L2
/-! ### the frame of all laws -/
def spLaw (K : PySem.W.Frag) : Sp := fun vs H Q _ => ∃ (a : Addr) (ns : List Int), vs = [.ref a] ∧ SqL K H a (ns.map V.int) ∧ ns.length ≤ 63 ∧ ∀ H', Q (.bl true) H'
section
variable {P : Program} {w : World} {K : PySem.W.Frag} {mg : Str → Option Value} {base : Heap} {k : Nat} {x : Str} {st : Stmt} {f : Addr} {fd : FuncData} {N ps : List Str} {sp : Sp}
theorem start_of {N : List Str} {vs : List V} {n : Nat} (h : vs.length + n = N.length) : L2.start N vs = vs.map some ++ List.replicate n none := by
  unfold L2.start
  rw [show N.length - vs.length = n by omega]
/-- a def by its reading -/
theorem dnp (F : FnP K x st f fd) (hm : mg x = some (.ref f)) (S : FnScope N ps (defScope st)) (n : Nat) (hn : ps.length + n = N.length) (len : ∀ vs H Q E, sp vs H Q E → vs.length = ps.length)
    (hb : ∀ (kV doc pm : Value) (an : Option Addr) (cdv ct : Value) (us : List Value), us.length = ps.length → bindArgs (PySem.W.fnOf x x (defArgs st) (defBody st) (defScope st) .none kV doc pm an cdv ct) ⟨us, []⟩ = pure (ps.zip us))
    (t : TS) (hpure : ∀ vs H Q E, sp vs H Q E → t { nx := fun _ H' => Q .non H', rt := Q } (vs.map some ++ List.replicate n none) H)
    (hbody : ∀ (cdv : Value) (A : Around) (outer : List Env) (s : Shared) (H : Hp) (E : XK), Room k (A.deeper (envOfC x (defScope st) s.heap.objs.size f cdv)) →
      PSs (cxOf CX0 P w K mg base N x (defScope st) f cdv A outer s H E).nox (defBody st) t) : Dn P w K mg base (k + 1) x sp :=
  dn_of F hm S len hb t hbody fun vs H Q E h => by
    rw [start_of (n := n) (by rw [len vs H Q E h]; exact hn)]
    exact hpure vs H Q E h
theorem dnpG (F : FnP K x st f fd) (hm : mg x = some (.ref f)) (S : FnScope N ps (defScope st)) (n : Nat) (hn : ps.length + n = N.length) (len : ∀ vs H Q E, sp vs H Q E → vs.length = ps.length)
    (hb : ∀ (kV doc pm : Value) (an : Option Addr) (cdv ct : Value) (us : List Value), us.length = ps.length → bindArgs (PySem.W.fnOf x x (defArgs st) (defBody st) (defScope st) .none kV doc pm an cdv ct) ⟨us, []⟩ = pure (ps.zip us))
    (t : TS) (hpure : ∀ vs H Q E, sp vs H Q E → t { nx := fun _ H' => Q .non H', rt := Q } (vs.map some ++ List.replicate n none) H)
    (hbody : ∀ (cdv : Value) (A : Around) (outer : List Env) (s : Shared) (H : Hp) (E : XK), A.guards = some [] → Room k (A.deeper (envOfC x (defScope st) s.heap.objs.size f cdv)) →
      PSs (cxOf CX0 P w K mg base N x (defScope st) f cdv A outer s H E).nox (defBody st) t) : DnG P w K mg base (k + 1) x sp :=
  dnG_of F hm S len hb t hbody fun vs H Q E h => by
    rw [start_of (n := n) (by rw [len vs H Q E h]; exact hn)]
    exact hpure vs H Q E h
/-- the law itself -/
theorem lawFn (F : FnP K x st f fd) (S : FnScope N ps (defScope st)) (n : Nat) (hn : ps.length + n = N.length) (len : ∀ vs H Q E, sp vs H Q E → vs.length = ps.length)
    (t : TS) (hpure : ∀ vs H Q E, sp vs H Q E → t { nx := fun _ H' => Q .non H', rt := Q } (vs.map some ++ List.replicate n none) H)
    (hbody : ∀ (cdv : Value) (A : Around) (outer : List Env) (s : Shared) (H : Hp) (E : XK), A.guards = some [] → Room k (A.deeper (envOfC x (defScope st) s.heap.objs.size f cdv)) →
      PSs (cxOf CX0 P w K mg base N x (defScope st) f cdv A outer s H E).nox (defBody st) t) : FnG P w K mg base CX0 (k + 1) f fd ps sp := by
  obtain ⟨oc, od, dV, kV, doc, pm, an, cdv, ct, osl, rfl, lk, hcd, _⟩ := F.ex
  refine fnG_of lk hcd S len fun A outer s H vs Q E hg hr h => ⟨t, (hbody cdv A outer s H E hg hr).nox, ?_⟩
  rw [start_of (n := n) (by rw [len vs H Q E h]; exact hn)]
  exact hpure vs H Q E h
end
end GL

set_option Elab.async false
set_option linter.all false
set_option maxRecDepth 100000
set_option maxHeartbeats 8000000
/-! GT: len(set(texts)). -/
namespace GL
open PySem PySem.Spec PyProof.Rows L2
/-- the different ones, each where it stands first -/
def firsts (xs : List Str) : List Str := xs.foldl (fun acc x => if x ∈ acc then acc else acc ++ [x]) []
theorem firsts_snoc (xs : List Str) (x : Str) : firsts (xs ++ [x]) = if x ∈ firsts xs then firsts xs else firsts xs ++ [x] := by
  unfold firsts
  rw [List.foldl_append]
  rfl
theorem ind_snoc {p : List Str → Prop} (h0 : p []) (h1 : ∀ xs x, p xs → p (xs ++ [x])) (xs : List Str) : p xs := by
  rw [← List.reverse_reverse xs]
  induction xs.reverse with
  | nil => exact h0
  | cons x r ih =>
    rw [List.reverse_cons]
    exact h1 _ _ ih
theorem mem_firsts (xs : List Str) : ∀ y, y ∈ firsts xs ↔ y ∈ xs := by
  refine ind_snoc (p := fun xs => ∀ y, y ∈ firsts xs ↔ y ∈ xs) (fun y => Iff.rfl) (fun xs x ih y => ?_) xs
  rw [firsts_snoc]
  by_cases h : x ∈ firsts xs
  · rw [if_pos h, ih, List.mem_append, List.mem_singleton]
    exact ⟨.inl, fun z => z.elim id fun e => e ▸ (ih x).mp h⟩
  · rw [if_neg h, List.mem_append, ih, List.mem_append]
theorem firsts_nodup (xs : List Str) : (firsts xs).Nodup := by
  refine ind_snoc (p := fun xs => (firsts xs).Nodup) .nil (fun xs x ih => ?_) xs
  rw [firsts_snoc]
  by_cases h : x ∈ firsts xs
  · rw [if_pos h]
    exact ih
  · rw [if_neg h]
    exact List.nodup_append.mpr ⟨ih, List.nodup_cons.mpr ⟨(fun z => nomatch z), .nil⟩, fun a ha b hb e => h (by
      have : b = x := by simpa using hb
      rw [← this, ← e]
      exact ha)⟩
theorem firsts_self {xs : List Str} : xs.Nodup → firsts xs = xs := by
  refine ind_snoc (p := fun xs => xs.Nodup → firsts xs = xs) (fun _ => rfl) (fun xs x ih nd => ?_) xs
  obtain ⟨a, _, c⟩ := List.nodup_append.mp nd
  rw [firsts_snoc, if_neg (fun z => c x ((mem_firsts xs x).mp z) x (by simp) rfl), ih a]
theorem firsts_le (xs : List Str) : (firsts xs).length ≤ xs.length := by
  refine ind_snoc (p := fun xs => (firsts xs).length ≤ xs.length) (Nat.le_refl _) (fun xs x ih => ?_) xs
  rw [firsts_snoc]
  split
  · simp
    omega
  · simp
    exact ih
/-- as many as there are: no one twice -/
theorem firsts_len {xs : List Str} : (firsts xs).length = xs.length → xs.Nodup := by
  refine ind_snoc (p := fun xs => (firsts xs).length = xs.length → xs.Nodup) (fun _ => .nil) (fun xs x ih e => ?_) xs
  rw [firsts_snoc] at e
  have le := firsts_le xs
  by_cases h : x ∈ firsts xs
  · rw [if_pos h] at e
    simp at e
    omega
  · rw [if_neg h] at e
    simp at e
    refine List.nodup_append.mpr ⟨ih e, List.nodup_cons.mpr ⟨(fun z => nomatch z), .nil⟩, fun a ha b hb q => h ?_⟩
    have : b = x := by simpa using hb
    rw [mem_firsts, ← this, ← q]
    exact ha
def memS (xs : List Str) : Str → Bool := fun k => decide (k ∈ xs)
abbrev setO (led : Bool) : Obj := { cls := .type "set", dict := none, data := .set #[] 0 (.fresh 0 0 led) }
section
variable {prog : Program} {w : World} {A : Around} {R : Result → Shared → Prop} {I : Addr} {fp wr : List Addr} {G : Array GenState → Array GenState → Prop} {n : Nat} {P : Nat → Value → Prop} {St : Nat → Shared → Prop}
theorem loopStrs (W : WalksS prog w A.in1 I fp wr G n P St) (S : Addr) (hSf : S ∉ fp) (xs : List Str) (hsz : xs.length = n) (hn : n ≤ 1000) (hval : ∀ i v, P i v → ∃ t, v = .str (xs.getD i Str.empty) t) :
    ∀ (k i : Nat) (s : Shared), n - i = k → i ≤ n → St i s → s.heap.SetOf (PySem.strKind prog w) S (memS (xs.take i)) (firsts (xs.take i)).length →
      (∀ s', Moved (S :: wr) G s s' → s'.heap.SetOf (PySem.strKind prog w) S (memS (xs.take n)) (firsts (xs.take n)).length → R (.ok (.ret .none)) s') →
      codeAny (model prog w) A (.builtin "set.update.loop" ⟨[.ref S, .ref I], []⟩) R s := by
  have hSw : S ∉ wr := fun z => hSf (W.sub _ z)
  have more : ∀ b ∈ wr, b ∈ S :: wr := fun b => List.mem_cons_of_mem _
  intro k
  induction k with
  | zero =>
    intro i s hk hi hst hS hR
    obtain rfl : i = n := by omega
    refine codeAny_builtin PyProof.Rows.F.entry_set_update_loop ?_
    rw [Around.under_plainId PyProof.Rows.F.plain_set_update_loop _]
    refine (show wpAny _ A.in1 (pyNext (.ref I) >>= _) _ _ s from wpAny_bind (W.done s _ _ hst fun s' hm => ?_))
    refine (show wpAny _ A.in1 (ret Value.none) _ _ s' from wpAny_pure (hR s' (hm.mono more) ?_))
    obtain ⟨o, es, ep, t, ho, r⟩ := hS
    exact ⟨o, es, ep, t, hm.heap S _ hSw ho, r⟩
  | succ k ih =>
    intro i s hk hi hst hS hR
    have hlt : i < n := by omega
    refine codeAny_builtin PyProof.Rows.F.entry_set_update_loop ?_
    rw [Around.under_plainId PyProof.Rows.F.plain_set_update_loop _]
    refine (show wpAny _ A.in1 (pyNext (.ref I) >>= _) _ _ s from wpAny_bind (W.item i s _ _ hlt hst fun v s' hP hst' hm => ?_))
    obtain ⟨t, rfl⟩ := hval i v hP
    have hi' : i < xs.length := by omega
    have ex : xs.getD i Str.empty = xs[i] := by rw [List.getD_eq_getElem?_getD, List.getElem?_eq_getElem hi']; rfl
    rw [ex]
    have hS' : s'.heap.SetOf (PySem.strKind prog w) S (memS (xs.take i)) (firsts (xs.take i)).length := by
      obtain ⟨o, es, ep, tb, ho, r⟩ := hS
      exact ⟨o, es, ep, tb, hm.heap S _ hSw ho, r⟩
    refine (show wpAny _ A.in1 (holding [Value.str xs[i] t] (setAdd S (.str xs[i] t)) >>= _) _ _ s' from wpAny_bind (wpAny_holding ?_))
    unfold setAdd
    refine wpAny_holding (wpAny_bind ((PySem.strKind prog w).pyHash (k := xs[i]) (strKind_is _ _ _ _) ?_))
    have le := firsts_le (xs.take i)
    rw [List.length_take] at le
    refine wpAny_setAddHashed_of (knd := PySem.strKind prog w) (s := { s' with toks := s'.toks + 1 }) (strKind_is _ _ _ _) rfl hS' (by unfold scanBound; omega) fun h' hsb hS2 => ?_
    have tk : xs.take (i + 1) = xs.take i ++ [xs[i]] := by rw [List.take_add_one, List.getElem?_eq_getElem hi']; rfl
    have hSi : h'.SetOf (PySem.strKind prog w) S (memS (xs.take (i + 1))) (firsts (xs.take (i + 1))).length := by
      rw [tk]
      refine SetOf_congr hS2 (fun k' => ?_) ?_
      · unfold memS
        simp only [List.mem_append, List.mem_singleton, Bool.decide_or]
      · rw [firsts_snoc]
        unfold memS
        by_cases h : xs[i] ∈ xs.take i
        · rw [if_pos ((mem_firsts _ _).mpr h), if_pos (by simpa using h)]
        · rw [if_neg (fun z => h ((mem_firsts _ _).mp z)), if_neg (by simpa using h)]
          simp
    refine wpAny_pure ⟨plainId_quiet PyProof.Rows.F.plain_set_update_loop _, ih (i + 1) _ (by omega) hlt (W.frame _ s' _ _ hst' (Nat.le_succ _) fun b hb o e => ?_) hSi fun s'' hm'' hS'' => ?_⟩
    · rw [hsb.2 b fun z => hSf (z ▸ hb)]
      exact e
    · refine hR s'' (Moved.trans W.gtrans ((hm.mono more).then_heap (Nat.le_succ _) fun b o hb e => ?_) hm'') hS''
      rw [hsb.2 b fun z => hb (by rw [z]; exact List.mem_cons_self)]
      exact e
end
section
variable {prog : Program} {w : World} {A : Around} {E : Value → Shared → Prop} {s : Shared}
set_option maxHeartbeats 8000000 in
theorem call_set_strsL {l : Addr} {its : Array Value} {xs : List Str} {Q : Value → Shared → Prop} (hh : A.handled = none) (hl : s.heap.IsList l its) (hi : StrsAre its.toList xs) (hb : xs.length ≤ 1000)
    (h : ∀ (h' : Heap) (tk : Nat), h'.SetOf (PySem.strKind prog w) s.heap.objs.size (memS xs) (firsts xs).length →
      (∀ b o, b < s.heap.objs.size → s.heap.get? b = some o → h'.get? b = some o) → Q (.ref s.heap.objs.size) { s with heap := h', toks := tk }) :
    wpAny (model prog w) A (call (.type "set") [.ref l]) Q E s := by
  have cs := PySem.F.called_set
  obtain ⟨c, tl, hmro⟩ := cs.mro
  have hmade := cs.made
  have hsub := cs.sub
  have h1 := cs.notType
  have h2 := cs.canCreate
  refine wpAny_call (codeAny_of_tree (show wpAny _ _ (callAny (.type "set") _) _ _ _ from ?_))
  refine wpAny_pure ⟨Code.quiet_builtin _ (by decide +kernel), codeAny_builtin PySem.F.entry_type_call ?_⟩
  have wt := weight_type_call_type "set" [.ref l] []
  rw [Around.under_plain wt rfl]
  have hct := PySem.F.typeCall_set_1 (.ref l)
  repeat (any_goals (first | assumption | wp_step))
  refine codeAny_mono (code_set_new_1 (.ref l) (E := E) (Q₁ := fun ob s₁ => ∃ led : Bool, ob = .ref s.heap.objs.size ∧ s₁ = { s with heap := s.heap.push (setO led) }) fun led => ⟨led, rfl, rfl⟩) fun r s₁ hr => ?_
  rcases r with e | fl
  · exact hr
  cases fl with
  | next => exact hr.elim
  | brk => exact hr.elim
  | cont => exact hr.elim
  | ret ob =>
    obtain ⟨led, rfl, rfl⟩ := hr
    have hS : (s.heap.push (setO led)).get? s.heap.objs.size = some (setO led) := Heap.get?_push_size _ rfl
    have hT : Shared.TypeIs { s with heap := s.heap.push (setO led) } (.ref s.heap.objs.size) "set" := ⟨_, hS, rfl⟩
    have hli := cs.init.lookup
    have hbi := cs.init.bind (.ref s.heap.objs.size)
    repeat (any_goals (first | assumption | wp_step))
    refine codeAny_mono (codeAny_call_builtin (R := wants (fun r s₂ => r = .none ∧ ∃ h' tk, s₂ = { s with heap := h', toks := tk } ∧ h'.SetOf (PySem.strKind prog w) s.heap.objs.size (memS xs) (firsts xs).length ∧
        (∀ b o, b < s.heap.objs.size → s.heap.get? b = some o → h'.get? b = some o)) E) cs.init.plain PySem.F.entry_set_init (check_set_init_1 hT ?_)) fun r₂ s₂ hr₂ => ?_
    · obtain ⟨ol, hol, hcl, nl, hdl⟩ := hl
      obtain ⟨ocls, odict, odata, oslots⟩ := ol
      simp only at hcl hdl
      subst hcl
      subst hdl
      have hol' : (s.heap.push (setO led)).get? l = some { cls := .type "list", dict := odict, data := .seq its nl, slots := oslots } := Heap.get?_push_of_some _ hol
      have hsls := PySem.F.sub_list_set
      have hslf := PySem.F.sub_list_frozenset
      have hne : (Value.type "list" == Value.type "dict") = false := by decide
      have hl1 : (s.heap.push (setO led)).IsList l its := ⟨_, hol', rfl, nl, rfl⟩
      unfold Builtin.«set.__init__» noKeywords Builtin.Frozenset.updateFrom
      unfold setO at *
      generalize hPI : pyIter = PI
      wp_walk
      subst hPI
      refine wpAny_pyIter_list hl1 (wpAny_bind (wpAny_runValue ?_))
      have hlS : l < s.heap.objs.size := Heap.lt_size hol
      have hh3 : A.in1.in1.in1.handled = none := by simp [hh]
      have sz1 : (s.heap.push (setO led)).objs.size = s.heap.objs.size + 1 := Heap.size_push _ _
      have hneI : l ≠ (s.heap.push (setO led)).objs.size := by rw [sz1]; exact Nat.ne_of_lt (Nat.lt_succ_of_lt hlS)
      have hSf : s.heap.objs.size ∉ [(s.heap.push (setO led)).objs.size, l] := by
        rw [sz1]
        intro z
        rcases List.mem_cons.mp z with z | z
        · exact Nat.ne_of_lt (Nat.lt_succ_self _) z
        · exact Nat.ne_of_gt hlS (by simpa using z)
      have hsz : xs.length = its.size := by rw [← StrsAre.len_eq hi, Array.length_toList]
      have hval : ∀ (i : Nat) (v : Value), its[i]? = some v → ∃ t, v = .str (xs.getD i Str.empty) t := fun i v hv => SS.strs_at hi i v (by rw [Array.getElem?_toList]; exact hv)
      refine loopStrs ((Walks.list hh3 _ l hneI its).toS) s.heap.objs.size hSf xs hsz (by omega) hval (its.size - 0) 0 _ (by omega) (Nat.zero_le _) ⟨⟨_, Heap.get?_push_size _ rfl, rfl, rfl⟩, (hl1.push _)⟩ ?h0 ?hR
      case h0 =>
        have hget := Heap.get?_push_of_some { cls := .type "list_iterator", data := .fields #[.ref l, .int 0 0] } hS
        exact SetOf_congr ((setObjOf_fresh (knd := PySem.strKind prog w) led).setOf hget (by unfold scanBound; omega)) (fun _ => rfl) rfl
      case hR =>
        intro s' hm hS'
        obtain ⟨h', g', d', tk', os'⟩ := s'
        obtain rfl : g' = s.gens := hm.gens
        obtain rfl : d' = s.drawn := hm.drawn
        obtain rfl : os' = s.os := hm.os
        refine wpAny_pure (show wpAny _ _ (ret Value.none) _ _ _ from wpAny_pure ⟨rfl, h', tk', rfl, ?_, fun b o hb e => ?_⟩)
        · rw [← hsz, List.take_length] at hS'
          exact hS'
        · have hb1 : b ≠ s.heap.objs.size := Nat.ne_of_lt hb
          have hb2 : b ≠ (s.heap.push (setO led)).objs.size := by rw [sz1]; exact Nat.ne_of_lt (Nat.lt_succ_of_lt hb)
          refine hm.heap b o ?_ (Heap.get?_push_of_some _ (Heap.get?_push_of_some _ e))
          intro z
          rcases List.mem_cons.mp z with z | z
          · exact hb1 z
          · exact hb2 (by simpa using z)
    · rcases r₂ with e | fl₂
      · exact hr₂
      cases fl₂ with
      | next => exact hr₂.elim
      | brk => exact hr₂.elim
      | cont => exact hr₂.elim
      | ret r =>
        obtain ⟨rfl, h', tk, rfl, hS', hk'⟩ := hr₂
        repeat (any_goals (first | assumption | wp_step))
        exact h _ _ hS' hk'
set_option maxHeartbeats 8000000 in
theorem call_set_strsT {l : Addr} {its : Array Value} {xs : List Str} {Q : Value → Shared → Prop} (hh : A.handled = none) (hl : s.heap.IsTuple l its) (hi : StrsAre its.toList xs) (hb : xs.length ≤ 1000)
    (h : ∀ (h' : Heap) (tk : Nat), h'.SetOf (PySem.strKind prog w) s.heap.objs.size (memS xs) (firsts xs).length →
      (∀ b o, b < s.heap.objs.size → s.heap.get? b = some o → h'.get? b = some o) → Q (.ref s.heap.objs.size) { s with heap := h', toks := tk }) :
    wpAny (model prog w) A (call (.type "set") [.ref l]) Q E s := by
  have cs := PySem.F.called_set
  obtain ⟨c, tl, hmro⟩ := cs.mro
  have hmade := cs.made
  have hsub := cs.sub
  have h1 := cs.notType
  have h2 := cs.canCreate
  refine wpAny_call (codeAny_of_tree (show wpAny _ _ (callAny (.type "set") _) _ _ _ from ?_))
  refine wpAny_pure ⟨Code.quiet_builtin _ (by decide +kernel), codeAny_builtin PySem.F.entry_type_call ?_⟩
  have wt := weight_type_call_type "set" [.ref l] []
  rw [Around.under_plain wt rfl]
  have hct := PySem.F.typeCall_set_1 (.ref l)
  repeat (any_goals (first | assumption | wp_step))
  refine codeAny_mono (code_set_new_1 (.ref l) (E := E) (Q₁ := fun ob s₁ => ∃ led : Bool, ob = .ref s.heap.objs.size ∧ s₁ = { s with heap := s.heap.push (setO led) }) fun led => ⟨led, rfl, rfl⟩) fun r s₁ hr => ?_
  rcases r with e | fl
  · exact hr
  cases fl with
  | next => exact hr.elim
  | brk => exact hr.elim
  | cont => exact hr.elim
  | ret ob =>
    obtain ⟨led, rfl, rfl⟩ := hr
    have hS : (s.heap.push (setO led)).get? s.heap.objs.size = some (setO led) := Heap.get?_push_size _ rfl
    have hT : Shared.TypeIs { s with heap := s.heap.push (setO led) } (.ref s.heap.objs.size) "set" := ⟨_, hS, rfl⟩
    have hli := cs.init.lookup
    have hbi := cs.init.bind (.ref s.heap.objs.size)
    repeat (any_goals (first | assumption | wp_step))
    refine codeAny_mono (codeAny_call_builtin (R := wants (fun r s₂ => r = .none ∧ ∃ h' tk, s₂ = { s with heap := h', toks := tk } ∧ h'.SetOf (PySem.strKind prog w) s.heap.objs.size (memS xs) (firsts xs).length ∧
        (∀ b o, b < s.heap.objs.size → s.heap.get? b = some o → h'.get? b = some o)) E) cs.init.plain PySem.F.entry_set_init (check_set_init_1 hT ?_)) fun r₂ s₂ hr₂ => ?_
    · obtain ⟨ol, hol, hcl, nl, hdl⟩ := hl
      obtain ⟨ocls, odict, odata, oslots⟩ := ol
      simp only at hcl hdl
      subst hcl
      subst hdl
      have hol' : (s.heap.push (setO led)).get? l = some { cls := .type "tuple", dict := odict, data := .seq its nl, slots := oslots } := Heap.get?_push_of_some _ hol
      have hsls := PySem.F.sub_tuple_set
      have hslf := PySem.F.sub_tuple_frozenset
      have hne : (Value.type "tuple" == Value.type "dict") = false := by decide
      have hl1 : (s.heap.push (setO led)).IsTuple l its := ⟨_, hol', rfl, nl, rfl⟩
      unfold Builtin.«set.__init__» noKeywords Builtin.Frozenset.updateFrom
      unfold setO at *
      generalize hPI : pyIter = PI
      wp_walk
      subst hPI
      refine wpAny_pyIter_tuple hl1 (wpAny_bind (wpAny_runValue ?_))
      have hlS : l < s.heap.objs.size := Heap.lt_size hol
      have hh3 : A.in1.in1.in1.handled = none := by simp [hh]
      have sz1 : (s.heap.push (setO led)).objs.size = s.heap.objs.size + 1 := Heap.size_push _ _
      have hneI : l ≠ (s.heap.push (setO led)).objs.size := by rw [sz1]; exact Nat.ne_of_lt (Nat.lt_succ_of_lt hlS)
      have hSf : s.heap.objs.size ∉ [(s.heap.push (setO led)).objs.size, l] := by
        rw [sz1]
        intro z
        rcases List.mem_cons.mp z with z | z
        · exact Nat.ne_of_lt (Nat.lt_succ_self _) z
        · exact Nat.ne_of_gt hlS (by simpa using z)
      have hsz : xs.length = its.size := by rw [← StrsAre.len_eq hi, Array.length_toList]
      have hval : ∀ (i : Nat) (v : Value), its[i]? = some v → ∃ t, v = .str (xs.getD i Str.empty) t := fun i v hv => SS.strs_at hi i v (by rw [Array.getElem?_toList]; exact hv)
      refine loopStrs ((Walks.tuple hh3 _ l hneI its).toS) s.heap.objs.size hSf xs hsz (by omega) hval (its.size - 0) 0 _ (by omega) (Nat.zero_le _) ⟨⟨_, Heap.get?_push_size _ rfl, rfl, rfl⟩, (hl1.push _)⟩ ?h0 ?hR
      case h0 =>
        have hget := Heap.get?_push_of_some { cls := .type "tuple_iterator", data := .fields #[.ref l, .int 0 0] } hS
        exact SetOf_congr ((setObjOf_fresh (knd := PySem.strKind prog w) led).setOf hget (by unfold scanBound; omega)) (fun _ => rfl) rfl
      case hR =>
        intro s' hm hS'
        obtain ⟨h', g', d', tk', os'⟩ := s'
        obtain rfl : g' = s.gens := hm.gens
        obtain rfl : d' = s.drawn := hm.drawn
        obtain rfl : os' = s.os := hm.os
        refine wpAny_pure (show wpAny _ _ (ret Value.none) _ _ _ from wpAny_pure ⟨rfl, h', tk', rfl, ?_, fun b o hb e => ?_⟩)
        · rw [← hsz, List.take_length] at hS'
          exact hS'
        · have hb1 : b ≠ s.heap.objs.size := Nat.ne_of_lt hb
          have hb2 : b ≠ (s.heap.push (setO led)).objs.size := by rw [sz1]; exact Nat.ne_of_lt (Nat.lt_succ_of_lt hb)
          refine hm.heap b o ?_ (Heap.get?_push_of_some _ (Heap.get?_push_of_some _ e))
          intro z
          rcases List.mem_cons.mp z with z | z
          · exact hb1 z
          · exact hb2 (by simpa using z)
    · rcases r₂ with e | fl₂
      · exact hr₂
      cases fl₂ with
      | next => exact hr₂.elim
      | brk => exact hr₂.elim
      | cont => exact hr₂.elim
      | ret r =>
        obtain ⟨rfl, h', tk, rfl, hS', hk'⟩ := hr₂
        repeat (any_goals (first | assumption | wp_step))
        exact h _ _ hS' hk'
end
/-- len(set(xs)), xs a list or tuple of texts -/
def tLenSetQ (K : PySem.W.Frag) (ta : TE) : TE := fun σ H Q => ta σ H fun x H1 => ∃ l, ∃ xs : List Str, x = .ref l ∧ (SqL K H1 l (xs.map V.str) ∨ SqT K H1 l (xs.map V.str)) ∧ xs.length ≤ 1000 ∧ Q (.int (firsts xs).length) H1
theorem pe_lenSetQ {X : Cx} {a : Expr} {ta : TE} {p p2 q pos : Pos} (hm : X.mg "len" = none) (hm2 : X.mg "set" = none) (ha : PE X a ta) (hc : X.calm = true := by rfl) (hg : Gl X "len" := by rfl) (hg2 : Gl X "set" := by rfl)
    (na : starEach [a] X.env = (false, eval a X.env) :: starEach [] X.env := by rfl) : PE X (.Call (.Name "len" p) [.Call (.Name "set" p2) [a] [] q] [] pos) (tLenSetQ X.K ta) := by
  constructor
  intro pins s σ H Q I h
  refine Call_ (ld_blt I hg hm boot_len (callWith_builtin1 (args_cons ?_ rfl) rfl rfl))
  refine Call_ (ld_blt I hg2 hm2 boot_set (callWith_type1 (args_cons (thn (ha.run pins s σ H _ I h) ?_) na) na rfl))
  rintro v s1 ⟨x, H1, I1, r1, l, xs, rfl, hq, h1, q1⟩
  refine args_nil ?_
  cases r1
  have fin : ∀ (h' : Heap) (tk : Nat), h'.SetOf (PySem.strKind X.prog X.w) s1.heap.objs.size (memS xs) (firsts xs).length → (∀ b o, b < s1.heap.objs.size → s1.heap.get? b = some o → h'.get? b = some o) →
      wpAny (model X.prog X.w) X.A (spliced (backTo pos (starEach [] X.env))) (fun vs s₂ => wpAny (model X.prog X.w) X.A (call (.builtin "len") (Value.ref s1.heap.objs.size :: vs)) (EP X pins σ Q) X.xe s₂) X.xe { s1 with heap := h', toks := tk } := by
    intro h' tk hS hk
    refine args_nil ?_
    have le := firsts_le xs
    obtain ⟨o, es, ep, t, ho, hex, hd, _, _, _, hf, hn⟩ := hS
    have I2 : Inv X pins σ H1 { s1 with heap := h', toks := tk } := I1.kept fun b o e => hk b o (Heap.lt_size e) e
    exact call_len_set ho hex hd hf (by rw [hn]; omega) ⟨.int (firsts xs).length, H1, I2.tok _, ⟨_, by rw [hn]⟩, q1⟩
  rcases hq with hq | hq
  · obtain ⟨its, r, pl, hz⟩ := I1.list hq
    exact call_set_strsL (I1.ok.hd hc) pl.isList (by simpa using strsAre_of r) h1 fin
  · obtain ⟨its, r, pl, hz⟩ := I1.tuple hq
    exact call_set_strsT (I1.ok.hd hc) pl (by simpa using strsAre_of r) h1 fin
end GL

set_option Elab.async false
set_option linter.all false
set_option maxRecDepth 100000
set_option maxHeartbeats 4000000
set_option exponentiation.threshold 100000
namespace GL
open PySem PySem.Spec PyProof.Rows L2
local macro_rules | `(tactic| walk_at "pu") => `(tactic| repeat' (first
  | ((with_reducible apply pu_var); rfl) | with_reducible exact pu_c | with_reducible exact pua_nil | ((with_reducible apply pur_i0); rfl) | with_reducible exact puu_neg | with_reducible exact puc_abs | with_reducible exact puc_intB
  | with_reducible exact puc_min | with_reducible exact puc_max | with_reducible exact puo_none
  | with_reducible apply pu_op | with_reducible apply pu_cb | with_reducible apply pua_cons | with_reducible refine put_test ?_ | with_reducible refine put_B ?_ | with_reducible refine put_not ?_ | with_reducible refine pu_notV ?_
  | with_reducible apply pu_un | with_reducible refine puo_some ?_ | ((with_reducible apply pur_i); rfl) | with_reducible exact pur_eq rfl | with_reducible exact pur_ne rfl | exact puc_lenL (by assumption) | exact puc_lenT (by assumption)
  | ((with_reducible apply pur_ixL); assumption) | ((with_reducible apply pur_ixT); assumption) | with_reducible apply pur_ixS | with_reducible apply pur_str))
local macro_rules | `(tactic| walk_at "side") => `(tactic| first
  | exact (show (0 : Int) < _ by decide) | exact Or.inl ⟨by decide, by decide⟩ | exact Or.inr ⟨by decide, by decide⟩ | exact Or.inl ⟨by omega, by omega⟩ | exact Or.inr ⟨by omega, by omega⟩
  | exact ⟨by decide, by decide, by decide⟩ | exact ⟨by decide, by decide⟩ | assumption | omega | exact ⟨by decide, by decide +kernel⟩)
/-! ### defs with a star -/
structure DnR (P : Program) (w : World) (K : PySem.W.Frag) (mg : Str → Option Value) (base : Heap) (k : Nat) (x : Str) (sp : Sp) : Prop where
  ex : ∃ f, FnR P w K mg base CX0 k f sp ∧ mg x = some (.ref f) ∧ PySem.W.keepIn K (.ref f) = true
section
variable {X : Cx} {j k : Nat} {sp : Sp} {x : Str} {p pos : Pos} {e : Expr} {es : List Expr} {t : TA}
theorem pe_dR (d : DnR X.prog X.w X.K X.mg X.base j x sp) (hr : Room k X.A) (ha : PA X (e :: es) t) (hj : j ≤ k := by decide) (hg : Gl X x := by rfl) (hdb : (x == ("__debug__" : Str)) = false := by decide)
    (he : starEach (e :: es) X.env = (false, eval e X.env) :: starEach es X.env := by rfl) (hpl : (backTo pos (starEach es X.env)).any (·.1) = false := by rfl) : PE X (.Call (.Name x p) (e :: es) [] pos) (tCall sp [] E0 t) := by
  obtain ⟨f, F, hm, hk⟩ := d.ex
  constructor
  intro pins s σ H Q I h
  refine wpAny_Call_Name_kw (ld_glob I hg hm ?_ hdb)
  refine PySem.W.callWith_K (h₀ := X.base) I.ok.mod.kin hk (thn (ha.run pos pins s σ H _ I h) ?_) he hpl
  rintro us s1 ⟨vs, H1, I1, r, q⟩
  rw [List.append_nil] at q
  exact ⟨I1.kIn, wpAny_call (run_fnR F (hr.mono hj) pass0 I1 r q)⟩
theorem pe_dRS (d : DnR X.prog X.w X.K X.mg X.base j x sp) (hr : Room k X.A) (ha : PA X (e :: es) t) (hj : j ≤ k := by decide) (hg : Gl X x := by rfl) (hdb : (x == ("__debug__" : Str)) = false := by decide)
    (he : starEach (e :: es) X.env = (false, eval e X.env) :: starEach es X.env := by rfl) (hst : (backTo pos (starEach es X.env)).any (·.1) = true := by rfl) : PE X (.Call (.Name x p) (e :: es) [] pos) (tCall sp [] E0 t) := by
  obtain ⟨f, F, hm, hk⟩ := d.ex
  have h := StX.pe_callS2 (X := X) (p := p) (E := E0) F (hr.mono hj) hk hg hm pass0 ha hdb he hst
  constructor
  intro pins s σ H Q I q
  refine h.run pins s σ H Q I ?_
  have e : (fun vs H1 => sp (vs ++ []) H1 Q E0) = fun vs H1 => sp vs H1 Q E0 := by
    funext vs H1
    rw [List.append_nil]
  have q' : t σ H (fun vs H1 => sp (vs ++ []) H1 Q E0) := q
  rw [e] at q'
  exact q'
end
section
variable {P : Program} {w : World} {K : PySem.W.Frag} {mg : Str → Option Value} {base : Heap} {k : Nat} {x : Str} {st : Stmt} {f : Addr} {fd : FuncData} {N ps : List Str} {pv : Str} {sp sp' : Sp}
/-- a def f(a, .., *v) by its reading: sp of the bound arguments, sp' of the given ones -/
theorem dnpR (F : FnP K x st f fd) (hm : mg x = some (.ref f)) (S : FnScope N (ps ++ [pv]) (defScope st)) (n : Nat) (hn : ps.length + 1 + n = N.length)
    (hb : ∀ (kV doc pm : Value) (an : Option Addr) (cdv ct : Value) (us rest : List Value), us.length = ps.length → bindArgs (PySem.W.fnOf x x (defArgs st) (defBody st) (defScope st) .none kV doc pm an cdv ct) ⟨us ++ rest, []⟩ = (newTuple rest >>= fun t => pure (ps.zip us ++ [(pv, t)])))
    (t : TS) (hsp : ∀ vs H Q E, sp' vs H Q E → ∃ ws rest, vs = ws ++ rest ∧ ws.length = ps.length ∧ rest.length ≤ sizeLine ∧ ∀ p, H p = none → sp (ws ++ [V.ref p]) (upd H p (.tup rest)) Q E)
    (len : ∀ vs H Q E, sp vs H Q E → vs.length = ps.length + 1) (hpure : ∀ vs H Q E, sp vs H Q E → t { nx := fun _ H' => Q .non H', rt := Q } (vs.map some ++ List.replicate n none) H)
    (hbody : ∀ (cdv : Value) (A : Around) (outer : List Env) (s : Shared) (H : Hp) (E : XK), Room k (A.deeper (envOfC x (defScope st) s.heap.objs.size f cdv)) →
      PSs (cxOf CX0 P w K mg base N x (defScope st) f cdv A outer s H E).nox (defBody st) t) : DnR P w K mg base (k + 1) x sp' := by
  refine ⟨f, ?_, hm, F.kp⟩
  obtain ⟨oc, od, dV, kV, doc, pm, an, cdv, ct, osl, rfl, lk, hcd, hdv, _⟩ := F.ex
  rcases hdv with ⟨_, rfl⟩ | ⟨h0, _⟩
  · intro A outer s H us vs Q E hr e0 r h
    refine StX.fn_star (sp := sp) lk hcd S StX.cxUp_none (hb kV doc pm an cdv ct) (fun A outer s H vs Q E hr hs => ⟨t, (hbody cdv A outer s H E hr).nox, ?_⟩) A outer s H us vs Q E hr e0 r (hsp vs H Q E h)
    rw [start_of (n := n) (by rw [len vs H Q E hs]; exact hn)]
    exact hpure vs H Q E hs
  · exact absurd rfl h0
end
end GL

set_option Elab.async false
set_option linter.all false
set_option maxRecDepth 100000
set_option maxHeartbeats 4000000
set_option exponentiation.threshold 100000
namespace GL
open PySem PySem.Spec PyProof.Rows L2
local macro_rules | `(tactic| walk_at "pu") => `(tactic| repeat' (first
  | ((with_reducible apply pu_var); rfl) | with_reducible exact pu_c | with_reducible exact pua_nil | ((with_reducible apply pur_i0); rfl) | with_reducible exact puu_neg | with_reducible exact puc_abs | with_reducible exact puc_intB
  | with_reducible exact puc_min | with_reducible exact puc_max | with_reducible exact puo_none
  | with_reducible apply pu_op | with_reducible apply pu_cb | with_reducible apply pua_cons | with_reducible refine put_test ?_ | with_reducible refine put_B ?_ | with_reducible refine put_not ?_ | with_reducible refine pu_notV ?_
  | with_reducible apply pu_un | with_reducible refine puo_some ?_ | ((with_reducible apply pur_i); rfl) | with_reducible exact pur_eq rfl | with_reducible exact pur_ne rfl | exact puc_lenL (by assumption) | exact puc_lenT (by assumption)
  | ((with_reducible apply pur_ixL); assumption) | ((with_reducible apply pur_ixT); assumption) | with_reducible apply pur_ixS | with_reducible apply pur_str))
local macro_rules | `(tactic| walk_at "side") => `(tactic| first
  | exact (show (0 : Int) < _ by decide) | exact Or.inl ⟨by decide, by decide⟩ | exact Or.inr ⟨by decide, by decide⟩ | exact Or.inl ⟨by omega, by omega⟩ | exact Or.inr ⟨by omega, by omega⟩
  | exact ⟨by decide, by decide, by decide⟩ | exact ⟨by decide, by decide⟩ | assumption | omega | exact ⟨by decide, by decide +kernel⟩)
/-! ### max of data; dict of pairs; defs with defaults, called with all arguments -/
def rMaxQ (K : PySem.W.Frag) : List V → Hp → VK → Prop := fun xs H Q => ∃ a ys d ds, xs = [.ref a] ∧ SqL K H a ys ∧ DpAll K H ys (d :: ds) ∧ PySem.W.AlikeAll (d :: ds) ∧ PyData.depthAll (d :: ds) ≤ 10 ∧ ∀ (i : Nat) v, ys[i]? = some v → Q v H
abbrev rDictQ (K : PySem.W.Frag) : List V → Hp → VK → Prop := fun xs H Q => ∃ (a : Addr) (ps : List Addr) (kvs : List (Key × V)), xs = [.ref a] ∧ SqL K H a (ps.map V.ref) ∧ Paired (fun p kv => SqT K H p [kV kv.1, kv.2]) ps kvs ∧
    ∀ p, H p = none → Q (.ref p) (upd H p (.dK (mergeK [] kvs)))
theorem vals_at : ∀ {xs : List V} {us : List Value} {i : Nat} {u : Value}, Vals xs us → us[i]? = some u → ∃ x, xs[i]? = some x ∧ RelV x u
  | _, _, i, u, .nil, e => by simp at e
  | x :: _, _ :: _, 0, u, .cons a r, e => by
    cases e
    exact ⟨x, rfl, a⟩
  | _ :: _, _ :: _, i + 1, u, .cons a r, e => vals_at (i := i) r (by simpa using e)
section
variable {X : Cx}
theorem cr_maxQ (hc : X.calm = true) (hu : X.A.units + 64 < cLine) : CallR X (.builtin "max") (rMaxQ X.K) := by
  intro pins s σ H vs us Q I r h
  obtain ⟨a, ys, d, ds, rfl, hs, hd, al, dp, q⟩ := h
  obtain ⟨its, rv, hl, _⟩ := I.list hs
  rw [Vals.ref1 r]
  obtain ⟨as, hr⟩ := Dp.readsAll I _ _ _ hd rv
  refine PySem.W.max_list_data (I.ok.hd hc) hl.isList (by simpa using hr) al (by omega) fun i v h' tk bs hv _ hk => ?_
  obtain ⟨x, ex, rx⟩ := vals_at rv (by simpa using hv)
  exact ⟨x, H, I.kept hk, rx, q i x ex⟩
end
section
variable {P : Program} {w : World} {K : PySem.W.Frag} {mg : Str → Option Value} {base : Heap} {k : Nat} {x : Str} {st : Stmt} {f : Addr} {fd : FuncData} {N ps : List Str} {sp : Sp} {dvs : List V}
theorem dnpD (F : FunD K x x (defArgs st) (defBody st) (defScope st) dvs [] f fd) (hdv : dvs ≠ []) (hm : mg x = some (.ref f)) (S : FnScope N ps (defScope st)) (n : Nat) (hn : ps.length + n = N.length) (len : ∀ vs H Q E, sp vs H Q E → vs.length = ps.length)
    (hb : ∀ (T : Addr) (kV doc pm : Value) (an : Option Addr) (cdv ct : Value) (us its : List Value), us.length = ps.length → its.length = dvs.length →
      ∃ k, bindArgs (PySem.W.fnOf x x (defArgs st) (defBody st) (defScope st) (.ref T) kV doc pm an cdv ct) ⟨us, []⟩ = seqItems? (.ref T) >>= k ∧ k (some its.toArray) = pure (ps.zip (us ++ its.drop dvs.length)))
    (t : TS) (hpure : ∀ vs H Q E, sp vs H Q E → t { nx := fun _ H' => Q .non H', rt := Q } (vs.map some ++ List.replicate n none) H)
    (hbody : ∀ (cdv : Value) (A : Around) (outer : List Env) (s : Shared) (H : Hp) (E : XK), Room k (A.deeper (envOfC x (defScope st) s.heap.objs.size f cdv)) →
      PSs (cxOf CX0 P w K mg base N x (defScope st) f cdv A outer s H E).nox (defBody st) t) : Dn P w K mg base (k + 1) x sp := by
  obtain ⟨ds, rv, bd⟩ := F.binds1 ps.length dvs.length hdv (by omega) hb
  rw [List.drop_length] at rv
  cases rv
  exact ⟨f, fd, ps, F.ok S len fun cdv A outer s H vs Q E hr h => ⟨t, (hbody cdv A outer s H E hr).nox, by
    rw [start_of (n := n) (by rw [len vs H Q E h]; exact hn)]
    exact hpure vs H Q E h⟩, hm, F.kp, bd⟩
end
section
variable {P : Program} {w : World} {K : PySem.W.Frag} {mg : Str → Option Value} {base : Heap} {k : Nat} {x : Str} {st : Stmt} {f : Addr} {fd : FuncData} {N ps : List Str} {sp : Sp}
/-- a promise that nobody can call -/
theorem dn0 (F : FnP K x st f fd) (hm : mg x = some (.ref f)) (hno : ∀ vs H Q E, ¬ sp vs H Q E)
    (hb : ∀ (kV doc pm : Value) (an : Option Addr) (cdv ct : Value) (us : List Value), us.length = ps.length → bindArgs (PySem.W.fnOf x x (defArgs st) (defBody st) (defScope st) .none kV doc pm an cdv ct) ⟨us, []⟩ = pure (ps.zip us)) : Dn P w K mg base k x sp :=
  ⟨f, fd, ps, ⟨fun vs H Q E h => absurd h (hno vs H Q E), fun A outer s H args us vs Q E _ _ _ _ h => absurd h (hno vs H Q E)⟩, hm, F.kp, F.bindsN hb⟩
end
end GL

set_option Elab.async false
set_option linter.all false
set_option maxRecDepth 100000
set_option maxHeartbeats 4000000
set_option exponentiation.threshold 100000
namespace GL
open PySem PySem.Spec PyProof.Rows L2
local macro_rules | `(tactic| walk_at "pu") => `(tactic| repeat' (first
  | ((with_reducible apply pu_var); rfl) | with_reducible exact pu_c | with_reducible exact pua_nil | ((with_reducible apply pur_i0); rfl) | with_reducible exact puu_neg | with_reducible exact puc_abs | with_reducible exact puc_intB
  | with_reducible exact puc_min | with_reducible exact puc_max | with_reducible exact puo_none
  | with_reducible apply pu_op | with_reducible apply pu_cb | with_reducible apply pua_cons | with_reducible refine put_test ?_ | with_reducible refine put_B ?_ | with_reducible refine put_not ?_ | with_reducible refine pu_notV ?_
  | with_reducible apply pu_un | with_reducible refine puo_some ?_ | ((with_reducible apply pur_i); rfl) | with_reducible exact pur_eq rfl | with_reducible exact pur_ne rfl | exact puc_lenL (by assumption) | exact puc_lenT (by assumption)
  | ((with_reducible apply pur_ixL); assumption) | ((with_reducible apply pur_ixT); assumption) | with_reducible apply pur_ixS | with_reducible apply pur_str))
local macro_rules | `(tactic| walk_at "side") => `(tactic| first
  | exact (show (0 : Int) < _ by decide) | exact Or.inl ⟨by decide, by decide⟩ | exact Or.inr ⟨by decide, by decide⟩ | exact Or.inl ⟨by omega, by omega⟩ | exact Or.inr ⟨by omega, by omega⟩
  | exact ⟨by decide, by decide, by decide⟩ | exact ⟨by decide, by decide⟩ | assumption | omega | exact ⟨by decide, by decide +kernel⟩)
/-! ### d == {}, d != {}, sorted(d) -/
def rD0 (neg : Bool) : R2 := fun x y H Q => ∃ a b ks, x = .ref a ∧ y = .ref b ∧ H a = some (.dK ks) ∧ H b = some (.dK []) ∧ Q (.bl (if neg then !ks.isEmpty else ks.isEmpty)) H
abbrev rSortedDk : List V → Hp → VK → Prop := fun xs H Q => ∃ (a : Addr) (kvs : List (Key × V)) (ks : List Str), xs = [.ref a] ∧ Rd H a (.dK kvs) ∧ kvs.map (·.1) = ks.map Sum.inr ∧ ks.length < 64 ∧
    ∀ ys p, ys.Perm ks → sortedS ys = true → H p = none → Q (.ref p) (upd H p (.lst (ys.map V.str)))
section
variable {X : Cx}
theorem kv_nil {kvs : List (Key × Value)} (h : KV ([] : List (Key × V)) kvs) : kvs = [] := by
  cases h
  rfl
theorem op_eqD0 (hu : X.A.units < cLine) : OpR X (compareOp .Eq) (rD0 false) := by
  intro pins s σ H x y v u Q I rx ry h
  obtain ⟨a, b, ks, rfl, rfl, ea, eb, q⟩ := h
  cases rx
  cases ry
  obtain ⟨_, ya, va, ra, da⟩ := (show ObjOk X.prog X.w H s.heap a (.dK ks) from I.hok a _ ea)
  obtain ⟨_, yb, vb, rb, db⟩ := (show ObjOk X.prog X.w H s.heap b (.dK []) from I.hok b _ eb)
  have e0 := kv_nil rb
  subst e0
  have hl : va.length = ks.length := ra.length.symm
  refine PySem.W.keq_eq (knd := mixKind X.prog X.w) (r := true) ya yb da db hu (fun z => ?_) (fin_bl I q ?_)
  · have : va = [] := List.length_eq_zero_iff.mp z
    rw [this]
    exact .nil
  · rw [hl]
    cases ks <;> rfl
theorem op_neD0 (hu : X.A.units < cLine) : OpR X (compareOp .NotEq) (rD0 true) := by
  intro pins s σ H x y v u Q I rx ry h
  obtain ⟨a, b, ks, rfl, rfl, ea, eb, q⟩ := h
  cases rx
  cases ry
  obtain ⟨_, ya, va, ra, da⟩ := (show ObjOk X.prog X.w H s.heap a (.dK ks) from I.hok a _ ea)
  obtain ⟨_, yb, vb, rb, db⟩ := (show ObjOk X.prog X.w H s.heap b (.dK []) from I.hok b _ eb)
  have e0 := kv_nil rb
  subst e0
  have hl : va.length = ks.length := ra.length.symm
  refine PySem.W.keq_ne (knd := mixKind X.prog X.w) (r := true) ya yb da db hu (fun z => ?_) (fin_bl I q ?_)
  · have : va = [] := List.length_eq_zero_iff.mp z
    rw [this]
    exact .nil
  · rw [hl]
    cases ks <;> rfl
end
end GL

set_option Elab.async false
set_option linter.all false
set_option maxRecDepth 100000
set_option maxHeartbeats 4000000
set_option exponentiation.threshold 100000
namespace GL
open PySem PySem.Spec PyProof.Rows L2
local macro_rules | `(tactic| walk_at "pu") => `(tactic| repeat' (first
  | ((with_reducible apply pu_var); rfl) | with_reducible exact pu_c | with_reducible exact pua_nil | ((with_reducible apply pur_i0); rfl) | with_reducible exact puu_neg | with_reducible exact puc_abs | with_reducible exact puc_intB
  | with_reducible exact puc_min | with_reducible exact puc_max | with_reducible exact puo_none
  | with_reducible apply pu_op | with_reducible apply pu_cb | with_reducible apply pua_cons | with_reducible refine put_test ?_ | with_reducible refine put_B ?_ | with_reducible refine put_not ?_ | with_reducible refine pu_notV ?_
  | with_reducible apply pu_un | with_reducible refine puo_some ?_ | ((with_reducible apply pur_i); rfl) | with_reducible exact pur_eq rfl | with_reducible exact pur_ne rfl | exact puc_lenL (by assumption) | exact puc_lenT (by assumption)
  | ((with_reducible apply pur_ixL); assumption) | ((with_reducible apply pur_ixT); assumption) | with_reducible apply pur_ixS | with_reducible apply pur_str))
local macro_rules | `(tactic| walk_at "side") => `(tactic| first
  | exact (show (0 : Int) < _ by decide) | exact Or.inl ⟨by decide, by decide⟩ | exact Or.inr ⟨by decide, by decide⟩ | exact Or.inl ⟨by omega, by omega⟩ | exact Or.inr ⟨by omega, by omega⟩
  | exact ⟨by decide, by decide, by decide⟩ | exact ⟨by decide, by decide⟩ | assumption | omega | exact ⟨by decide, by decide +kernel⟩)
/-! ### tuples whose object is known: tuple(list), methods of such a tuple; t[::-1] of a tuple -/
/-- a tuple of the heap whose object has no dict -/
def Fz (H : Hp) (a : Addr) (xs : List V) : Prop := ∃ o : Obj, o.dict = none ∧ o.cls = .type "tuple" ∧ H a = some (.frz o (.tup xs))
theorem Fz.sqt {K : PySem.W.Frag} {H : Hp} {a : Addr} {xs : List V} (h : Fz H a xs) : SqT K H a xs := by
  obtain ⟨o, _, _, e⟩ := h
  exact .inl (.inr ⟨o, e⟩)
theorem Fz.keep {S : List Addr} {H H' : Hp} {a : Addr} {xs : List V} (h : Fz H a xs) (k : Keep S H H') (n : a ∉ S) : Fz H' a xs := by
  obtain ⟨o, h1, h2, e⟩ := h
  exact ⟨o, h1, h2, k a _ n e⟩
/-- tuple(l), l a list: the new object is known -/
def rTupZ (K : PySem.W.Frag) : List V → Hp → VK → Prop := fun xs H Q => ∃ p ys, xs = [.ref p] ∧ SqL K H p ys ∧ ∀ l o, o.dict = none → o.cls = .type "tuple" → H l = none → Q (.ref l) (upd H l (.frz o (.tup ys)))
/-- t.index(z), texts -/
def tTix (to te : TE) : TE := fun σ H Q => to σ H fun x H1 => ∃ a, ∃ ys : List Str, x = .ref a ∧ Fz H1 a (ys.map V.str) ∧ te σ H1 fun y H2 => ∃ z, ∃ j : Nat, y = .str z ∧ Fz H2 a (ys.map V.str) ∧ ys[j]? = some z ∧ (∀ m, m < j → ys[m]? ≠ some z) ∧ Q (.int j) H2
section
variable {X : Cx}
theorem cr_tupZ : CallR X (.type "tuple") (rTupZ X.K) := by
  intro pins s σ H xs us Q I r h
  obtain ⟨p, ys, rfl, hq, q⟩ := h
  rw [Vals.ref1 r]
  obtain ⟨its, r1, pl, hz⟩ := I.list hq
  have len := r1.length
  refine call_tuple_list pl.isList (fun h' kp => ?_) (by rw [List.size_toArray]; omega)
  have J := I.kept (h' := h') (t' := s.toks) kp
  have get : (h'.push { cls := .type "tuple", data := .seq its.toArray }).get? h'.objs.size = some { cls := .type "tuple", data := .seq its.toArray } := Heap.get?_push_size _ rfl
  have J2 := J.laid (a := h'.objs.size) (o := .frz { cls := .type "tuple", data := .seq its.toArray } (.tup ys)) (h' := h'.push { cls := .type "tuple", data := .seq its.toArray }) (t' := s.toks) (fun b o e => Heap.get?_push_of_some _ e) (Nat.le_refl _) ⟨get, hz, its, r1, IsTup.new _ _⟩
  exact ⟨.ref h'.objs.size, _, J2, rfl, q _ _ rfl rfl (J.hok.fresh (Nat.le_refl _))⟩
variable {o e : Expr} {to te : TE} {apos cpos : Pos}
theorem pe_tix (ho : PE X o to) (he : PE X e te) (m : M1 X o "index" apos e cpos) : PE X (.Call (.Attribute o "index" apos) [e] [] cpos) (tTix to te) := by
  refine ⟨fun pins s σ H Q I h => ?_⟩
  refine wpAny_Call_method m.base m.few m.line PySem.F.plainAttrs_tuple PySem.F.slot_tuple_index PySem.F.type_tuple_index (thn (ho.run pins s σ H _ I h) fun v s1 ⟨x, H1, I1, rx, a, ys, ex, fz, q1⟩ => ?_)
  subst ex
  cases rx
  obtain ⟨ob, d1, c1, e1⟩ := id fz
  have ok := I1.hok a _ e1
  refine ⟨⟨ob, ok.1, c1⟩, fun b eb => ?_, ?_⟩
  · cases eb
    exact ⟨ob, ok.1, d1⟩
  rw [m.trees]
  refine Calls.callWith_builtin rfl (Calls.evalArgs_plain (Calls.spliced_cons (thn (he.run pins s1 σ H1 _ I1 q1) fun u s2 ⟨y, H2, I2, ry, z, j, ez, fz2, hj, hno, q2⟩ => Calls.spliced_nil ?_)))
  subst ez
  exact mt_tup_index pins s2 σ H2 (.ref a) [.str z] (.ref a) [u] Q I2 rfl (.cons ry .nil) ⟨a, ys, z, j, rfl, rfl, fz2.sqt, hj, hno, q2⟩
end
end GL

set_option Elab.async false
set_option linter.all false
set_option maxRecDepth 100000
set_option maxHeartbeats 4000000
set_option exponentiation.threshold 100000
namespace GL
open PySem PySem.Spec PyProof.Rows L2
local macro_rules | `(tactic| walk_at "pu") => `(tactic| repeat' (first
  | ((with_reducible apply pu_var); rfl) | with_reducible exact pu_c | with_reducible exact pua_nil | ((with_reducible apply pur_i0); rfl) | with_reducible exact puu_neg | with_reducible exact puc_abs | with_reducible exact puc_intB
  | with_reducible exact puc_min | with_reducible exact puc_max | with_reducible exact puo_none
  | with_reducible apply pu_op | with_reducible apply pu_cb | with_reducible apply pua_cons | with_reducible refine put_test ?_ | with_reducible refine put_B ?_ | with_reducible refine put_not ?_ | with_reducible refine pu_notV ?_
  | with_reducible apply pu_un | with_reducible refine puo_some ?_ | ((with_reducible apply pur_i); rfl) | with_reducible exact pur_eq rfl | with_reducible exact pur_ne rfl | exact puc_lenL (by assumption) | exact puc_lenT (by assumption)
  | ((with_reducible apply pur_ixL); assumption) | ((with_reducible apply pur_ixT); assumption) | with_reducible apply pur_ixS | with_reducible apply pur_str))
local macro_rules | `(tactic| walk_at "side") => `(tactic| first
  | exact (show (0 : Int) < _ by decide) | exact Or.inl ⟨by decide, by decide⟩ | exact Or.inr ⟨by decide, by decide⟩ | exact Or.inl ⟨by omega, by omega⟩ | exact Or.inr ⟨by omega, by omega⟩
  | exact ⟨by decide, by decide, by decide⟩ | exact ⟨by decide, by decide⟩ | assumption | omega | exact ⟨by decide, by decide +kernel⟩)
/-! ### t[::-1] of a tuple -/
theorem adj_rev (n : Nat) : Builtin.Slice.sliceAdjust none none (-1) (n : Int) = ((n : Int) - 1, -1) := by
  unfold Builtin.Slice.sliceAdjust
  rfl
theorem pla_rev (n : Nat) : Builtin.Slice.slicePlaces ((n : Int) - 1) (-1) (-1) = n := by
  unfold Builtin.Slice.slicePlaces
  rw [if_neg (by decide)]
  by_cases h : n = 0
  · subst h
    rfl
  · rw [if_pos (by omega)]
    have e : ((n : Int) - 1 - -1 - 1) / -(-1) + 1 = n := by
      rw [show -(-1 : Int) = 1 by decide, Int.ediv_one]
      omega
    rw [e]
    rfl
theorem pick_rev (xs : Array Value) : ((List.range xs.size).filterMap fun (m : Nat) => xs[(((xs.size : Int) - 1) + (m : Int) * (-1)).toNat]?) = xs.toList.reverse := by
  refine List.ext_getElem? fun i => ?_
  have e : ((List.range xs.size).filterMap fun (m : Nat) => xs[(((xs.size : Int) - 1) + (m : Int) * (-1)).toNat]?) = (List.range xs.size).map fun m => xs.toList.getD (xs.size - 1 - m) .none := by
    have gen : ∀ L : List Nat, (∀ m ∈ L, m < xs.size) → (L.filterMap fun (m : Nat) => xs[(((xs.size : Int) - 1) + (m : Int) * (-1)).toNat]?) = L.map fun m => xs.toList.getD (xs.size - 1 - m) .none := by
      intro L
      induction L with
      | nil => intro _; rfl
      | cons m r ih =>
        intro hL
        have hm := hL m List.mem_cons_self
        have e1 : (((xs.size : Int) - 1) + (m : Int) * (-1)).toNat = xs.size - 1 - m := by omega
        have hl : xs.size - 1 - m < xs.size := by omega
        have e2 : xs[(((xs.size : Int) - 1) + (m : Int) * (-1)).toNat]? = some (xs.toList.getD (xs.size - 1 - m) .none) := by
          rw [e1, Array.getElem?_eq_getElem hl]
          simp [hl]
        rw [List.filterMap_cons, ih fun x hx => hL x (List.mem_cons_of_mem _ hx), e2]
        rfl
    exact gen _ fun m hm => List.mem_range.mp hm
  rw [e, List.getElem?_map]
  by_cases hi : i < xs.size
  · rw [List.getElem?_range hi, List.getElem?_reverse (by simpa using hi)]
    have hl : xs.size - 1 - i < xs.size := by omega
    simp [hl]
  · rw [List.getElem?_eq_none (by simpa using hi), List.getElem?_eq_none (by simpa using hi)]
    rfl
section
variable {prog : Program} {w : World} {A : Around} {E : Value → Shared → Prop} {s : Shared}
theorem applied_rev {sl : Addr} {vl vu vs : Value} {n : Nat} {Q : Int × Int × Nat → Shared → Prop} (hs : s.heap.IsSliceOf sl vl vu vs) (pl : IsPart vl none) (pu : IsPart vu none) (ps : IsPart vs (some (-1)))
    (h : Q ((n : Int) - 1, -1, n) s) : wpAny (model prog w) A (Builtin.Slice.sliceApplied (.ref sl) (pure (n : Int))) Q E s := by
  obtain ⟨os, hos, hcs, hds⟩ := id hs
  unfold Builtin.Slice.sliceApplied Builtin.Slice.sliceFields
  refine wpAny_bind (wpAny_bind (wpAny_field hos hds (x := vl) rfl (wpAny_bind (wpAny_field hos hds (x := vu) rfl (wpAny_bind (wpAny_field hos hds (x := vs) rfl (wpAny_pure ?_)))))))
  refine wpAny_bind (HT.slicePart_ ps ?_)
  show wpAny _ _ (if ((-1 : Int) == 0) = true then _ else _) _ _ s
  rw [if_neg (by decide)]
  refine wpAny_bind (HT.slicePart_ pl (wpAny_bind (HT.slicePart_ pu (wpAny_bind (wpAny_pure ?_)))))
  show wpAny _ _ (match Builtin.Slice.sliceAdjust none none (-1) (n : Int) with | (lo, hi) => pure (lo, (-1 : Int), Builtin.Slice.slicePlaces lo hi (-1))) _ _ s
  rw [adj_rev n]
  show wpAny _ _ (pure ((n : Int) - 1, (-1 : Int), Builtin.Slice.slicePlaces ((n : Int) - 1) (-1) (-1))) _ _ s
  rw [pla_rev]
  exact wpAny_pure h
theorem item_rev {t sl : Addr} {items : Array Value} {vl vu vs : Value} {Q : Value → Shared → Prop} (ht : IsTup s.heap t items) (hs : s.heap.IsSliceOf sl vl vu vs) (pl : IsPart vl none) (pu : IsPart vu none) (ps : IsPart vs (some (-1)))
    (h : Q (.ref s.heap.objs.size) { s with heap := s.heap.push { cls := .type "tuple", data := .seq items.toList.reverse.toArray } }) (hsz : items.size ≤ sizeLine) : wpAny (model prog w) A (getItem (.ref t) (.ref sl)) Q E s := by
  have fits : sizeOk (.seq items.toList.reverse.toArray) := by
    show items.toList.reverse.toArray.size ≤ sizeLine
    simpa using hsz
  obtain ⟨os, hos, hcs, hds⟩ := id hs
  have hTs : s.TypeIs (.ref sl) "slice" := ⟨os, hos, hcs⟩
  unfold getItem
  try with_reducible refine wpAny_holding ?_
  first | refine wpAny_bind (wpAny_pure ?_) | skip
  refine wpAny_bind (wpAny_sequenceKey ht.typeIs (by decide) ?_)
  refine wpAny_bind (wpAny_callSpecial?_slot (name := Str.ofString "__getitem__") ht.typeIs PyProof.Rows.slot_tuple_getitem (wpAny_call_entry PyProof.Rows.slot_tuple_getitem ht.typeIs entry_tuple_getitem ?_ (args_tuple_getitem _ _)))
  show wpAny _ _ (Builtin.Tuple.tupleItemsOf (.ref t) >>= _) _ _ s
  refine wpAny_bind (PyProof.Rows.tupleItemsOf_ ht ?_)
  refine wpAny_bind (wpAny_typeOf hTs ?_)
  rw [if_pos (by decide)]
  refine wpAny_bind (applied_rev (n := items.size) hs pl pu ps ?_)
  have hno : ¬ ((((items.size : Int) - 1) == 0 && (-1 : Int) == 1 && items.size == items.size) = true) := by
    rw [show ((-1 : Int) == 1) = false by decide]
    simp
  show wpAny _ _ (if ((((items.size : Int) - 1) == 0 && (-1 : Int) == 1 && items.size == items.size) = true) then _ else _) _ _ s
  rw [if_neg hno, pick_rev]
  first
    | exact wpAny_bind (m := Builtin.Tuple.tupleExact _) (wpAny_newObj_type (wpAny_pure ⟨_, rfl, wpAny_pure h⟩) fits)
    | exact wpAny_bind (m := Builtin.Tuple.tupleExact _) (wpAny_newObj_type (wpAny_bind (wpAny_pure (wpAny_pure ⟨_, rfl, wpAny_pure h⟩))) fits)
end
/-- t[::-1], t a tuple -/
def tRevT (K : PySem.W.Frag) (te : TE) : TE := fun σ H Q => te σ H fun x H1 => ∃ a xs, x = .ref a ∧ SqT K H1 a xs ∧ ∀ p, H1 p = none → Q (.ref p) (upd H1 p (.tup xs.reverse))
theorem pe_revT {X : Cx} {e : Expr} {te : TE} {k : Nat} {p1 p2 p3 pos : Pos} (he : PE X e te) : PE X (.Subscript e (.Slice none none (some (.UnaryOp .USub (.Constant (.int 1) k p1) p2)) p3) pos) (tRevT X.K te) := by
  constructor
  intro pins s σ H Q I h
  refine Subscript_ (thn (he.run pins s σ H _ I h) ?_)
  rintro v s1 ⟨x, H1, I1, r1, a, xs, rfl, hx, q⟩
  cases r1
  have step : PO X (some (.UnaryOp .USub (.Constant (.int 1) k p1) p2)) (tPart (tUn rNeg (tC (.int 1)))) := po_some (pe_un un_neg pe_int)
  refine wpAny_Slice (thn (po_none.run pins s1 σ H1 (fun o H2 => o = none ∧ H2 = H1) I1 ⟨rfl, rfl⟩) ?_)
  rintro vl s2 ⟨l, H2, I2, pl, rfl, rfl⟩
  refine thn (po_none.run pins s2 σ H2 (fun o H3 => o = none ∧ H3 = H2) I2 ⟨rfl, rfl⟩) ?_
  rintro vu s3 ⟨u, H3, I3, pu, rfl, rfl⟩
  refine thn (step.run pins s3 σ H3 (fun o H4 => o = some (-1) ∧ H4 = H3) I3 ⟨1, rfl, -1, rfl, rfl, rfl⟩) ?_
  rintro vs s4 ⟨o, H4, I4, ps, rfl, rfl⟩
  have J := I4.kept (h' := s4.heap.push { cls := .type "slice", data := .fields #[vl, vu, vs] }) (t' := s4.toks) fun b ob q => Heap.get?_push_of_some _ q
  obtain ⟨its, r, ht, hz⟩ := J.tuple hx
  have len := r.length
  show wpAny (model X.prog X.w) X.A (subscriptTail e (.Slice none none (some (.UnaryOp .USub (.Constant (.int 1) k p1) p2)) p3) (.ref a) (.ref s4.heap.objs.size)) _ _ _
  refine tail_any (ops := [.ref a, .ref s4.heap.objs.size]) ht.typeIs PyProof.Rows.slot_tuple_getitem.lookup ?_ (by with_unfolding_all rfl)
  refine item_rev ht (Heap.IsSliceOf.new _ vl vu vs) pl pu ps ?_ (by rw [List.size_toArray]; omega)
  refine ⟨.ref _, _, J.laid (t' := s4.toks) (o := .tup xs.reverse) (fun b ob q => Heap.get?_push_of_some _ q) (Nat.le_refl _) ?_, rfl, q _ (J.hok.fresh (Nat.le_refl _))⟩
  exact ⟨by rw [List.length_reverse]; exact hz, _, r.reverse, IsTup.new _ _⟩
end GL

set_option Elab.async false
set_option linter.all false
set_option maxRecDepth 100000
set_option maxHeartbeats 1000000
/-! GZ: zip of a tuple with a list. -/
namespace GZ
open PySem PySem.Spec PyProof.Rows L2
section
variable {P : Program} {wd : World} {Ar : Around} {X0 : Value → Shared → Prop} {s : Shared} {q qi qo ia ib la lb : Addr} {na nb : Nat} {us vs : Array Value} {u v c d : Value}
/-- the iterator's parts: over a tuple, over a list -/
structure St2 (h : Heap) (q qi qo ia ib la lb : Addr) (f : Value) (c d : Value) (na nb : Nat) (us vs : Array Value) : Prop where
  z : IsZip h q qi qo f
  pi : IsPair h qi (.ref ia) (.ref ib)
  po : IsPair h qo c d
  ti : h.IsTupleIter ia la na
  li : h.IsListIter ib lb nb
  at_ : h.IsTuple la us
  al : h.IsList lb vs
theorem next_both {R : Value → Shared → Prop} (D : ZipApart q qi qo ia ib la lb) (k : St2 s.heap q qi qo ia ib la lb .none c d na nb us vs) (hu : us[na]? = some u) (hv : vs[nb]? = some v)
    (hR : ∀ h', IsZip h' q qi qo (rawInt s.heap.objs.size) → IsPair h' qo u v → h'.IsTupleIter ia la (na + 1) → h'.IsListIter ib lb (nb + 1) → IsPair h' s.heap.objs.size u v →
      (∀ x o, x ≠ q → x ≠ qo → x ≠ ia → x ≠ ib → s.heap.get? x = some o → h'.get? x = some o) → R (.ref s.heap.objs.size) { s with heap := h' }) :
    wpAny (model P wd) Ar (Builtin.«zip.__next__» ⟨[.ref q], []⟩) (fun fin s' => ∃ y, fin = .done (.ret y) ∧ R y s') X0 s := by
  obtain ⟨kz, kpi, kpo, kta, klb, kat, kal⟩ := k
  show wpAny _ _ (field (.ref q) 2 >>= _) _ _ _
  refine wpAny_bind (wpAny_field kz rfl (x := .bool false) rfl ?_)
  show wpAny _ _ (field (.ref q) 3 >>= _) _ _ _
  refine wpAny_bind (wpAny_field kz rfl (x := .ref qi) rfl ?_)
  refine wpAny_bind (wpAny_seqItems kpi rfl ?_)
  show wpAny _ _ (Builtin.SmallTypes.ownedTupleIsFree (.ref q) >>= _) _ _ _
  refine wpAny_bind (by
    unfold Builtin.SmallTypes.ownedTupleIsFree
    refine wpAny_bind (wpAny_field kz rfl (x := .none) rfl (wpAny_pure ?_))
    simp only [if_true]
    refine wpAny_bind (wpAny_rule ?_)
    refine wpAny_bind (wpAny_field kz rfl (x := .ref qo) rfl ?_)
    refine wpAny_bind (wpAny_setField_rec kz (by simp) fun g1 z1 b1 => ?_)
    replace z1 : IsZip g1 q qi qo .ellipsis := z1
    refine wpAny_bind ?_
    simp only [List.zipIdx_cons, List.zipIdx_nil, List.forIn_cons, List.forIn_nil]
    -- the tuple's item
    refine wpAny_bind (wpAny_bind (wpAny_onRaise ?_))
    show wpAny _ _ (Builtin.SmallTypes.nextOf (.ref ia) >>= _) _ _ _
    refine wpAny_bind (RZ.nextOf_tuple_item (kta.extBut b1.extBut D.i1z) (kat.extBut b1.extBut D.l1z) hu fun g2 ta2 b2 => wpAny_pure ?_)
    have po2 : IsPair g2 qo c d := b2.extBut _ _ D.TOi1 (b1.extBut _ _ D.TOz kpo)
    refine wpAny_bind (wpAny_seqItems po2 rfl ?_)
    refine wpAny_bind (wpAny_updateSeq_pair po2 fun g3 po3 b3 => ?_)
    replace po3 : IsPair g3 qo u d := po3
    refine wpAny_bind (wpAny_letGo (wpAny_pure ?_))
    -- the list's item
    refine wpAny_bind (wpAny_bind (wpAny_onRaise ?_))
    show wpAny _ _ (Builtin.SmallTypes.nextOf (.ref ib) >>= _) _ _ _
    refine wpAny_bind (wpAny_nextOf_list_item (((klb.extBut b1.extBut D.i2z).extBut b2.extBut D.i12.symm).extBut b3.extBut D.TOi2.symm) (((kal.extBut b1.extBut D.l2z).extBut b2.extBut D.l2i1).extBut b3.extBut D.l2TO) hv fun g4 lb4 b4 => wpAny_pure ?_)
    have po4 : IsPair g4 qo u d := b4.extBut _ _ D.TOi2 po3
    refine wpAny_bind (wpAny_seqItems po4 rfl ?_)
    refine wpAny_bind (wpAny_updateSeq_pair po4 fun g5 po5 b5 => ?_)
    replace po5 : IsPair g5 qo u v := po5
    refine wpAny_bind (wpAny_letGo (wpAny_pure (wpAny_pure ?_)))
    refine wpAny_bind (wpAny_seqItems po5 rfl ?_)
    refine wpAny_bind (wpAny_newTuple ?_)
    have len : g5.objs.size = s.heap.objs.size := by rw [b5.1, b4.1, b3.1, b2.1, b1.1]
    have z5 : IsZip g5 q qi qo .ellipsis := b5.extBut _ _ D.TOz.symm (b4.extBut _ _ D.i2z.symm (b3.extBut _ _ D.TOz.symm (b2.extBut _ _ D.i1z.symm z1)))
    have rest5 : ∀ x o, x ≠ q → x ≠ qo → x ≠ ia → x ≠ ib → s.heap.get? x = some o → g5.get? x = some o := fun x o n1 n2 n3 n4 e => b5.extBut _ _ n2 (b4.extBut _ _ n4 (b3.extBut _ _ n2 (b2.extBut _ _ n3 (b1.extBut _ _ n1 e))))
    have ta5 : g5.IsTupleIter ia la (na + 1) := ((ta2.extBut b3.extBut D.TOi1.symm).extBut b4.extBut D.i12).extBut b5.extBut D.TOi1.symm
    have lb5 : g5.IsListIter ib lb (nb + 1) := lb4.extBut b5.extBut D.TOi2.symm
    have qlt : q < g5.objs.size := Heap.lt_size z5
    show wpAny _ _ (Builtin.SmallTypes.ownedTupleHandOut (.ref q) (.ref g5.objs.size) >>= _) _ _ _
    refine wpAny_bind (by
      unfold Builtin.SmallTypes.ownedTupleHandOut
      have z6 : IsZip (g5.push { cls := .type "tuple", data := .seq #[u, v] }) q qi qo .ellipsis := Heap.get?_push_of_some _ z5
      refine wpAny_bind (wpAny_setField_rec z6 (by simp) fun g7 z7 b7 => ?_)
      replace z7 : IsZip g7 q qi qo (rawInt g5.objs.size) := z7
      refine wpAny_setField_rec z7 (by simp) fun g8 z8 b8 => ?_
      replace z8 : IsZip g8 q qi qo (rawInt g5.objs.size) := z8
      have up : ∀ x o, x ≠ q → g5.get? x = some o → g8.get? x = some o := fun x o n1 e => b8.extBut _ _ n1 (b7.extBut _ _ n1 (Heap.get?_push_of_some _ e))
      have new8 : IsPair g8 g5.objs.size u v := b8.extBut _ _ (Nat.ne_of_gt qlt) (b7.extBut _ _ (Nat.ne_of_gt qlt) (Heap.get?_push_size _ rfl))
      rw [len] at z8 new8
      refine wpAny_pure ⟨_, rfl, ?_⟩
      show R (.ref g5.objs.size) _
      rw [len]
      exact hR g8 z8 (up _ _ D.TOz po5) (ta5.at fun o e => up _ o D.i1z e) (lb5.at fun o e => up _ o D.i2z e) new8 fun x o n1 n2 n3 n4 e => up x o n1 (rest5 x o n1 n2 n3 n4 e)))
theorem next_none {R : Fin → Shared → Prop} (nh : Ar.handled = none) (D : ZipApart q qi qo ia ib la lb) (k : St2 s.heap q qi qo ia ib la lb .none c d na nb us vs) (stop : us[na]? = none ∨ vs[nb]? = none)
    (hX : ∀ h' e, (∀ x o, x ≠ q → x ≠ qo → x ≠ ia → x ≠ ib → s.heap.get? x = some o → h'.get? x = some o) → (∃ o, h'.get? e = some o ∧ o.cls = .type "StopIteration") → X0 (.ref e) { s with heap := h' }) :
    wpAny (model P wd) Ar (Builtin.«zip.__next__» ⟨[.ref q], []⟩) R X0 s := by
  obtain ⟨kz, kpi, kpo, kta, klb, kat, kal⟩ := k
  show wpAny _ _ (field (.ref q) 2 >>= _) _ _ _
  refine wpAny_bind (wpAny_field kz rfl (x := .bool false) rfl ?_)
  show wpAny _ _ (field (.ref q) 3 >>= _) _ _ _
  refine wpAny_bind (wpAny_field kz rfl (x := .ref qi) rfl ?_)
  refine wpAny_bind (wpAny_seqItems kpi rfl ?_)
  show wpAny _ _ (Builtin.SmallTypes.ownedTupleIsFree (.ref q) >>= _) _ _ _
  refine wpAny_bind (by
    unfold Builtin.SmallTypes.ownedTupleIsFree
    refine wpAny_bind (wpAny_field kz rfl (x := .none) rfl (wpAny_pure ?_))
    simp only [if_true]
    refine wpAny_bind (wpAny_rule ?_)
    refine wpAny_bind (wpAny_field kz rfl (x := .ref qo) rfl ?_)
    refine wpAny_bind (wpAny_setField_rec kz (by simp) fun g1 z1 b1 => ?_)
    replace z1 : IsZip g1 q qi qo .ellipsis := z1
    refine wpAny_bind ?_
    simp only [List.zipIdx_cons, List.zipIdx_nil, List.forIn_cons, List.forIn_nil]
    refine wpAny_bind (wpAny_bind (wpAny_onRaise ?_))
    show wpAny _ _ (Builtin.SmallTypes.nextOf (.ref ia) >>= _) _ _ _
    cases eu : us[na]? with
    | none =>
      refine wpAny_bind (RZ.nextOf_tuple_end nh (kta.extBut b1.extBut D.i1z) (kat.extBut b1.extBut D.l1z) eu fun g2 e b2 ⟨oe, he, ce⟩ => ?_)
      have z2 : IsZip g2 q qi qo .ellipsis := b2 _ _ D.i1z.symm z1
      have ne : e ≠ q := fun x => by subst x; rw [z2] at he; cases he; simp at ce
      exact wpAny_setField_rec z2 (by simp) fun g3 _ b3 => hX g3 e (fun x o n1 _ n3 _ y => b3.extBut _ _ n1 (b2 _ _ n3 (b1.extBut _ _ n1 y))) ⟨oe, b3.extBut _ _ ne he, ce⟩
    | some u0 =>
      have ev : vs[nb]? = none := stop.resolve_left fun z => by rw [eu] at z; cases z
      refine wpAny_bind (RZ.nextOf_tuple_item (kta.extBut b1.extBut D.i1z) (kat.extBut b1.extBut D.l1z) eu fun g2 ta2 b2 => wpAny_pure ?_)
      have po2 : IsPair g2 qo c d := b2.extBut _ _ D.TOi1 (b1.extBut _ _ D.TOz kpo)
      refine wpAny_bind (wpAny_seqItems po2 rfl ?_)
      refine wpAny_bind (wpAny_updateSeq_pair po2 fun g3 po3 b3 => ?_)
      refine wpAny_bind (wpAny_letGo (wpAny_pure ?_))
      refine wpAny_bind (wpAny_bind (wpAny_onRaise ?_))
      show wpAny _ _ (Builtin.SmallTypes.nextOf (.ref ib) >>= _) _ _ _
      refine wpAny_bind (wpAny_nextOf_list_end nh (((klb.extBut b1.extBut D.i2z).extBut b2.extBut D.i12.symm).extBut b3.extBut D.TOi2.symm) (((kal.extBut b1.extBut D.l2z).extBut b2.extBut D.l2i1).extBut b3.extBut D.l2TO) ev fun g4 e b4 ⟨oe, he, ce⟩ => ?_)
      have z4 : IsZip g4 q qi qo .ellipsis := b4 _ _ D.i2z.symm (b3.extBut _ _ D.TOz.symm (b2.extBut _ _ D.i1z.symm z1))
      have ne : e ≠ q := fun x => by subst x; rw [z4] at he; cases he; simp at ce
      exact wpAny_setField_rec z4 (by simp) fun g5 _ b5 => hX g5 e (fun x o n1 n2 n3 n4 y => b5.extBut _ _ n1 (b4 _ _ n4 (b3.extBut _ _ n2 (b2.extBut _ _ n3 (b1.extBut _ _ n1 y))))) ⟨oe, b5.extBut _ _ ne he, ce⟩)
theorem py_both {R : Option Value → Shared → Prop} (D : ZipApart q qi qo ia ib la lb) (k : St2 s.heap q qi qo ia ib la lb .none c d na nb us vs) (hu : us[na]? = some u) (hv : vs[nb]? = some v)
    (hR : ∀ h', IsZip h' q qi qo (rawInt s.heap.objs.size) → IsPair h' qo u v → h'.IsTupleIter ia la (na + 1) → h'.IsListIter ib lb (nb + 1) → IsPair h' s.heap.objs.size u v →
      (∀ x o, x ≠ q → x ≠ qo → x ≠ ia → x ≠ ib → s.heap.get? x = some o → h'.get? x = some o) → R (some (.ref s.heap.objs.size)) { s with heap := h' }) : wpAny (model P wd) Ar (pyNext (.ref q)) R X0 s := by
  have ty : s.TypeIs (.ref q) "zip" := ⟨_, k.z, rfl⟩
  unfold pyNext
  exact wpAny_bind (wpAny_attempt (wpAny_callSpecial?_slot (name := Str.ofString "__next__") ty F.slot_zip_next (wpAny_call_entry F.slot_zip_next ty F.entry_zip_next (next_both D k hu hv fun h' a1 a2 a3 a4 a5 a6 => wpAny_pure (hR h' a1 a2 a3 a4 a5 a6)) (F.args_zip_next_1 _))))
theorem py_none {R : Option Value → Shared → Prop} (nh : Ar.handled = none) (D : ZipApart q qi qo ia ib la lb) (k : St2 s.heap q qi qo ia ib la lb .none c d na nb us vs) (stop : us[na]? = none ∨ vs[nb]? = none)
    (hR : ∀ h', (∀ x o, x ≠ q → x ≠ qo → x ≠ ia → x ≠ ib → s.heap.get? x = some o → h'.get? x = some o) → R none { s with heap := h' }) : wpAny (model P wd) Ar (pyNext (.ref q)) R X0 s := by
  have ty : s.TypeIs (.ref q) "zip" := ⟨_, k.z, rfl⟩
  unfold pyNext
  refine wpAny_bind (wpAny_attempt (wpAny_callSpecial?_slot (name := Str.ofString "__next__") ty F.slot_zip_next (wpAny_call_entry F.slot_zip_next ty F.entry_zip_next (next_none nh D k stop fun h' e kept ⟨o, ho, hc⟩ => ?_) (F.args_zip_next_1 _))))
  exact wpAny_bind (wpAny_isInstance (T := "StopIteration") (b := true) ⟨o, ho, hc⟩ isSubtype_stop (wpAny_pure (hR _ kept)))
end
/-! ### making it -/
abbrev gh1 (h : Heap) (la : Addr) : Heap := h.push { cls := .type "tuple_iterator", data := .fields #[.ref la, .int 0 0] }
abbrev gh2 (h : Heap) (la lb : Addr) : Heap := (gh1 h la).push { cls := .type "list_iterator", data := .fields #[.ref lb, .int 0 0] }
abbrev gh3 (h : Heap) (la lb : Addr) : Heap := (gh2 h la lb).push { cls := .type "tuple", data := .seq #[.ref h.objs.size, .ref (gh1 h la).objs.size] }
abbrev gh4 (h : Heap) (la lb : Addr) : Heap := (gh3 h la lb).push { cls := .type "tuple", data := .seq #[.none, .none] }
abbrev gh5 (h : Heap) (la lb : Addr) : Heap := (gh4 h la lb).push { cls := .type "zip", data := .fields #[.none, .bool false, .bool false, .ref (gh2 h la lb).objs.size, .ref (gh3 h la lb).objs.size] }
theorem made (la lb : Addr) (us vs : Array Value) : Meets (Builtin.«zip.__new__» ⟨[.type "zip", .ref la, .ref lb], []⟩) (fun _ R s => s.heap.IsTuple la us ∧ s.heap.IsList lb vs ∧ R (.ok (.ret (.ref (gh4 s.heap la lb).objs.size))) { s with heap := gh5 s.heap la lb }) :=
  .of_wp fun prog w A R s h => by
    obtain ⟨hp, g, d, tk, os⟩ := s
    obtain ⟨ka, kb, h⟩ := h
    have hsub := sub_zip
    have kA : Heap.IsTuple (Shared.heap ⟨hp, g, d, tk, os⟩) la us := ka
    have kB : Heap.IsList (Shared.heap ⟨hp.push { cls := .type "tuple_iterator", data := .fields #[.ref la, .int 0 0] }, g, d, tk, os⟩) lb vs := Heap.IsList.push kb _
    wp_walk using wpAny_pyIter_tuple kA, wpAny_pyIter_list kB
    exact ⟨_, rfl, h⟩
theorem call_new {P : Program} {wd : World} {Ar : Around} {X0 : Value → Shared → Prop} {s : Shared} {la lb : Addr} {us vs : Array Value} {R : Value → Shared → Prop} (ka : s.heap.IsTuple la us) (kb : s.heap.IsList lb vs)
    (k : ∀ h', St2 h' (s.heap.objs.size + 4) (s.heap.objs.size + 2) (s.heap.objs.size + 3) s.heap.objs.size (s.heap.objs.size + 1) la lb .none .none .none 0 0 us vs → (∀ x o, s.heap.get? x = some o → h'.get? x = some o) → R (.ref (s.heap.objs.size + 4)) { s with heap := h' }) :
    wpAny (model P wd) Ar (call (.type "zip") [.ref la, .ref lb]) R X0 s := by
  refine callType_new F.called_zip (by decide) (F.typeCall_zip_2 _ _) (F.newCall_zip_2 _ _) (fun obj => F.args_object_init_3 obj _ _) F.entry_zip_new (made la lb us vs) ⟨ka, kb, ?_⟩
  have n1 : (gh1 s.heap la).objs.size = s.heap.objs.size + 1 := Heap.size_push ..
  have n2 : (gh2 s.heap la lb).objs.size = s.heap.objs.size + 2 := by rw [Heap.size_push, n1]
  have n3 : (gh3 s.heap la lb).objs.size = s.heap.objs.size + 3 := by rw [Heap.size_push, n2]
  have n4 : (gh4 s.heap la lb).objs.size = s.heap.objs.size + 4 := by rw [Heap.size_push, n3]
  have all : ∀ x o, s.heap.get? x = some o → (gh5 s.heap la lb).get? x = some o := fun x o y => Heap.get?_push_of_some _ (Heap.get?_push_of_some _ (Heap.get?_push_of_some _ (Heap.get?_push_of_some _ (Heap.get?_push_of_some _ y))))
  have o5 : (gh5 s.heap la lb).get? (gh4 s.heap la lb).objs.size = some _ := Heap.get?_push_size _ rfl
  have o4 : (gh5 s.heap la lb).get? (gh3 s.heap la lb).objs.size = some _ := Heap.get?_push_of_some _ (Heap.get?_push_size _ rfl)
  have o3 : (gh5 s.heap la lb).get? (gh2 s.heap la lb).objs.size = some _ := Heap.get?_push_of_some _ (Heap.get?_push_of_some _ (Heap.get?_push_size _ rfl))
  have o2 : (gh5 s.heap la lb).get? (gh1 s.heap la).objs.size = some _ := Heap.get?_push_of_some _ (Heap.get?_push_of_some _ (Heap.get?_push_of_some _ (Heap.get?_push_size _ rfl)))
  have o1 : (gh5 s.heap la lb).get? s.heap.objs.size = some _ := Heap.get?_push_of_some _ (Heap.get?_push_of_some _ (Heap.get?_push_of_some _ (Heap.get?_push_of_some _ (Heap.get?_push_size _ rfl))))
  rw [n2, n3, n4] at o5
  rw [n1, n2] at o3
  rw [n3] at o4
  rw [n1] at o2
  show _ ∧ _
  rw [n4]
  exact ⟨⟨_, o5, rfl⟩, k _ ⟨o5, o3, o4, ⟨_, o1, rfl, rfl⟩, ⟨_, o2, rfl, rfl⟩, ka.at fun o y => all _ o y, kb.at fun o y => all _ o y⟩ all⟩
/-! ### in a loop -/
def ItM (K : PySem.W.Frag) (a b : Addr) : It :=
  ⟨fun i H => ∃ (xs ys : List V) (x y : V), SqT K H a xs ∧ SqL K H b ys ∧ xs[i]? = some x ∧ ys[i]? = some y,
    fun i H v H' => ∃ T x y, v = .ref T ∧ H T = none ∧ H' = upd H T (.tup [x, y]) ∧ (∀ xs, SqT K H a xs → xs[i]? = some x) ∧ ∀ ys, SqL K H b ys → ys[i]? = some y,
    fun i H => ∃ xs ys : List V, SqT K H a xs ∧ SqL K H b ys ∧ (xs.length ≤ i ∨ ys.length ≤ i)⟩
theorem turnM {P : Program} {w : World} {K : PySem.W.Frag} {elts : List Expr} {kk : Nat} {tpos : Pos} {a b q qi qo ia ib : Addr} (D : ZipApart q qi qo ia ib a b) :
    Turn P w K (.Tuple elts kk tpos) (ItM K a b) [q, qi, qo, ia, ib] q (fun i h => IsZip h q qi qo .none ∧ IsPair h qi (.ref ia) (.ref ib) ∧ (∃ x y, IsPair h qo x y) ∧ h.IsTupleIter ia a i ∧ h.IsListIter ib b i) where
  mem := by simp
  obj := fun i h ⟨k1, k2, ⟨x, y, k3⟩, ⟨o1, e1, _, d1⟩, ⟨o2, e2, _, d2⟩⟩ c hc => by
    simp only [List.mem_cons, List.not_mem_nil, or_false] at hc
    rcases hc with rfl | rfl | rfl | rfl | rfl
    · exact ⟨_, k1, fun v z => nomatch z⟩
    · exact ⟨_, k2, fun v z => nomatch z⟩
    · exact ⟨_, k3, fun v z => nomatch z⟩
    · exact ⟨o1, e1, fun v z => by rw [d1] at z; cases z⟩
    · exact ⟨o2, e2, fun v z => by rw [d2] at z; cases z⟩
  keep := fun i h h' ⟨k1, k2, ⟨x, y, k3⟩, k4, k5⟩ k => ⟨k q (by simp) _ k1, k qi (by simp) _ k2, ⟨x, y, k qo (by simp) _ k3⟩, k4.at fun o z => k ia (by simp) o z, k5.at fun o z => k ib (by simp) o z⟩
  item := by
    intro X hP hw hK hc i pins s σ H E I hf ⟨k1, k2, ⟨x0, y0, k3⟩, k4, k5⟩ ⟨xs, ys, x, y, sx, sy, ex, ey⟩
    subst hP hw hK
    obtain ⟨as, ra, pa, _⟩ := I.tuple sx
    obtain ⟨bs, rb, pb, _⟩ := I.list sy
    obtain ⟨u1, hu1, ru1⟩ := ra.get ex
    obtain ⟨u2, hu2, ru2⟩ := rb.get ey
    have low : q < s.heap.objs.size := Heap.lt_size k1
    refine py_both D ⟨k1, k2, k3, k4, k5, pa, pb.isList⟩ (u := u1) (v := u2) (by simpa using hu1) (by simpa using hu2) fun h' z' o' a' b' n' kept => ?_
    refine ⟨_, rfl, wpAny_letOwnedTupleGo_zip (s := { s with heap := h' }) z' fun h2 z2 sb => ?_⟩
    have n2 : h2.get? s.heap.objs.size = some { cls := .type "tuple", data := .seq #[u1, u2] } := (sb.2 _ (Nat.ne_of_gt low)).trans n'
    have fresh : ObjOk X.prog X.w (upd H s.heap.objs.size (.tup [x, y])) h2 s.heap.objs.size (.tup [x, y]) := ⟨by show 2 ≤ sizeLine; decide, [u1, u2], .cons ru1 (.cons ru2 .nil), ⟨_, n2, rfl, _, rfl⟩⟩
    have J : Inv X pins σ (upd H s.heap.objs.size (.tup [x, y])) { s with heap := h2 } :=
      I.turnedNew (t' := s.toks) (ch := [q, qi, qo, ia, ib]) (fun c o nc e => (sb.2 c (fun z => nc (by simp [z]))).trans (kept c o (fun z => nc (by simp [z])) (fun z => nc (by simp [z])) (fun z => nc (by simp [z])) (fun z => nc (by simp [z])) e)) hf (Nat.le_refl _) fresh
    refine ⟨.ref s.heap.objs.size, _, J, rfl, ⟨_, x, y, rfl, I.hok.fresh (Nat.le_refl _), rfl, fun l hl => by rw [I.tuple_inj hl sx]; exact ex, fun l hl => by rw [I.list_inj hl sy]; exact ey⟩, ⟨z2, ?_, ⟨u1, u2, ?_⟩, ?_, ?_⟩, fun c hcm => ?_⟩
    · exact (sb.2 _ D.TIz).trans (kept _ _ D.TIz D.TITO D.TIi1 D.TIi2 k2)
    · exact (sb.2 _ D.TOz).trans o'
    · exact a'.at fun o z => (sb.2 _ D.i1z).trans z
    · exact b'.at fun o z => (sb.2 _ D.i2z).trans z
    · have lt : c < s.heap.objs.size := by
        simp only [List.mem_cons, List.not_mem_nil, or_false] at hcm
        rcases hcm with rfl | rfl | rfl | rfl | rfl
        · exact low
        · exact Heap.lt_size k2
        · exact Heap.lt_size k3
        · exact Heap.lt_size k4.choose_spec.1
        · exact Heap.lt_size k5.choose_spec.1
      rw [upd_ne (Nat.ne_of_lt lt)]
      exact (hf c hcm).1
  done := by
    intro X hP hw hK hc i pins s σ H E I hf ⟨k1, k2, ⟨x0, y0, k3⟩, k4, k5⟩ ⟨xs, ys, sx, sy, stop⟩
    subst hP hw hK
    obtain ⟨as, ra, pa, _⟩ := I.tuple sx
    obtain ⟨bs, rb, pb, _⟩ := I.list sy
    have n1 := ra.length
    have n2 := rb.length
    exact py_none (I.ok.hd hc) D ⟨k1, k2, k3, k4, k5, pa, pb.isList⟩ (stop.imp (fun z => by simp; omega) fun z => by simp; omega) fun h' kept => ⟨rfl, I.turnedL (t' := s.toks) (ch := [q, qi, qo, ia, ib]) (fun c o nc e => kept c o (fun z => nc (by simp [z])) (fun z => nc (by simp [z])) (fun z => nc (by simp [z])) (fun z => nc (by simp [z])) e) hf⟩
  self := fun A i s Q E st h => wpAny_pyIter_zip st.1 h
def iZipM (K : PySem.W.Frag) (ta : TA) : TI := fun σ H R => ta σ H fun vs H1 => ∃ a b xs ys, vs = [.ref a, .ref b] ∧ SqT K H1 a xs ∧ SqL K H1 b ys ∧ R (ItM K a b) H1
theorem pi_zipM {X : Cx} {e e2 : Expr} {ta : TA} {p pos tpos : Pos} {elts : List Expr} {kk : Nat} (hg : Gl X "zip") (hm : X.mg "zip" = none) (ha : PA X [e, e2] ta)
    (hs : starEach [e, e2] X.env = (false, eval e X.env) :: starEach [e2] X.env := by rfl) (hpl : (backTo pos (starEach [e2] X.env)).any (·.1) = false := by rfl) : PI X (.Tuple elts kk tpos) (.Call (.Name "zip" p) [e, e2] [] pos) (iZipM X.K ta) := by
  refine ⟨fun pins s σ H R I h => Call_ (ld_blt I hg hm PyProof.Rows.boot_zip (PyProof.Rows.callWith_type1 (thn (ha.run pos pins s σ H _ I h) fun us s1 ⟨vs, H1, J, r1, a, b, xs, ys, ex, sx, sy, k⟩ => ?_) hs hpl))⟩
  subst ex
  cases r1 with
  | cons ra rr =>
    cases rr with
    | cons rb rr =>
      cases rr
      cases ra
      cases rb
      have new : ∀ c, c ∈ [s1.heap.objs.size + 4, s1.heap.objs.size + 2, s1.heap.objs.size + 3, s1.heap.objs.size, s1.heap.objs.size + 1] → FpOk X pins H1 c := fun c hc => by
        have le : s1.heap.objs.size ≤ c := by
          simp only [List.mem_cons, List.not_mem_nil, or_false] at hc
          omega
        exact J.fpOk le (J.hok.fresh le)
      obtain ⟨as, va, pa, _⟩ := J.tuple sx
      obtain ⟨bs, vb, pb, _⟩ := J.list sy
      obtain ⟨oa, hoa, _⟩ := id pa
      refine call_new pa pb.isList fun h' st kept => wpAny_pyIter_zip st.z ?_
      have J2 : Inv X pins σ H1 { s1 with heap := h' } := J.kept (t' := s1.toks) kept
      exact ⟨s1.heap.objs.size + 4, [s1.heap.objs.size + 4, s1.heap.objs.size + 2, s1.heap.objs.size + 3, s1.heap.objs.size, s1.heap.objs.size + 1], _, _, H1, rfl, J2, turnM (PySem.W.ktu_apart s1.heap.objs.size a b (Heap.lt_size hoa) pb.lt), ⟨st.z, st.pi, ⟨_, _, st.po⟩, st.ti, st.li⟩, new, k⟩
end GZ

set_option Elab.async false
set_option linter.all false
set_option maxRecDepth 100000
set_option maxHeartbeats 4000000
set_option exponentiation.threshold 100000
/-! F1: pure values; frozen, owned; environments; steps. -/
namespace FL
open PySem PySem.Spec PyProof.Rows L2 GL
/-- at a: an exception of the class cls, its dict d -/
def cxo (a : Addr) (cls : Value) (d : Option Addr) : HO := .ext fun h => ∃ oe vs, h.get? a = some oe ∧ Zc cls d oe ∧ oe.data = .fields vs
/-- pure values -/
inductive D where
  | non
  | bl (b : Bool)
  | int (i : Int)
  | str (x : Str)
  | ty (n : String)
  | tup (xs : List D)
  | lst (xs : List D)
  | scr (xs : List Int)
  | dct (kvs : List (Key × D))
  | obj (c : Str) (fs : List (Str × D))
  | exc (c : Str) (fs : List (Str × D))
instance : Inhabited D := ⟨.non⟩
abbrev AS := Addr → Prop
structure Kx where
  K : PySem.W.Frag
  ca : Str → Addr
def plus (U : AS) (p : Addr) : AS := fun b => U b ∨ b = p
def less (U : AS) (p : Addr) : AS := fun b => U b ∧ b ≠ p
section
variable (κ : Kx) (S : AS) (H : Hp)
inductive TupAt (a : Addr) (xs : List V) : Prop
  | heap : Rd H a (.tup xs) → ¬ S a → TupAt a xs
  | wr : (∀ H' : Hp, SqT κ.K H' a xs) → TupAt a xs
/-- the law's script -/
inductive ScrAt (a : Addr) (xs : List V) : Prop
  | heap : Rd H a (.lst xs) → ¬ S a → ScrAt a xs
  | wr : (∀ H' : Hp, SqL κ.K H' a xs) → ScrAt a xs
mutual
/-- v stands for d, and no object of it lies in S -/
inductive Rp : V → D → Prop
  | non : Rp .non .non
  | bl (b : Bool) : Rp (.bl b) (.bl b)
  | int (i : Int) : Rp (.int i) (.int i)
  | str (x : Str) : Rp (.str x) (.str x)
  | ty (x : String) : Rp (.ty x) (.ty x)
  | tup {a : Addr} {xs : List V} {ds : List D} : TupAt κ S H a xs → RpA xs ds → Rp (.ref a) (.tup ds)
  | lst {a : Addr} {xs : List V} {ds : List D} : H a = some (.lst xs) → ¬ S a → RpA xs ds → Rp (.ref a) (.lst ds)
  | scr {a : Addr} {xs : List Int} : ScrAt κ S H a (xs.map V.int) → Rp (.ref a) (.scr xs)
  | dct {a : Addr} {kvs : List (Key × V)} {ds : List (Key × D)} : Rd H a (.dK kvs) → ¬ S a → RpK kvs ds → Rp (.ref a) (.dct ds)
  | obj {a dx : Addr} {c : Str} {fs : List (Str × V)} {ds : List (Str × D)} : H a = some (.ins (κ.ca c) dx fs) → ¬ S a → H dx = some (.own a) → ¬ S dx → RpF fs ds → Rp (.ref a) (.obj c ds)
  | exc {a dx : Addr} {c : Str} {fs : List (Str × V)} {ds : List (Str × D)} : H a = some (cxo a (.ref (κ.ca c)) (some dx)) → ¬ S a → H dx = some (.xd fs) → ¬ S dx → RpF fs ds → Rp (.ref a) (.exc c ds)
inductive RpA : List V → List D → Prop
  | nil : RpA [] []
  | cons {v : V} {vs : List V} {d : D} {ds : List D} : Rp v d → RpA vs ds → RpA (v :: vs) (d :: ds)
inductive RpK : List (Key × V) → List (Key × D) → Prop
  | nil : RpK [] []
  | cons {k : Key} {v : V} {vs : List (Key × V)} {d : D} {ds : List (Key × D)} : Rp v d → RpK vs ds → RpK ((k, v) :: vs) ((k, d) :: ds)
inductive RpF : List (Str × V) → List (Str × D) → Prop
  | nil : RpF [] []
  | cons {k : Str} {v : V} {vs : List (Str × V)} {d : D} {ds : List (Str × D)} : Rp v d → RpF vs ds → RpF ((k, v) :: vs) ((k, d) :: ds)
end
/-- v can be read as d now: its own object may lie anywhere, what it holds not in S -/
inductive Rb : V → D → Prop
  | non : Rb .non .non
  | bl (b : Bool) : Rb (.bl b) (.bl b)
  | int (i : Int) : Rb (.int i) (.int i)
  | str (x : Str) : Rb (.str x) (.str x)
  | ty (x : String) : Rb (.ty x) (.ty x)
  | tup {a : Addr} {xs : List V} {ds : List D} : TupAt κ S H a xs → RpA κ S H xs ds → Rb (.ref a) (.tup ds)
  | lst {a : Addr} {xs : List V} {ds : List D} : H a = some (.lst xs) → RpA κ S H xs ds → Rb (.ref a) (.lst ds)
  | scr {a : Addr} {xs : List Int} : SqL κ.K H a (xs.map V.int) → Rb (.ref a) (.scr xs)
  | dct {a : Addr} {kvs : List (Key × V)} {ds : List (Key × D)} : Rd H a (.dK kvs) → RpK κ S H kvs ds → Rb (.ref a) (.dct ds)
  | obj {a dx : Addr} {c : Str} {fs : List (Str × V)} {ds : List (Str × D)} : H a = some (.ins (κ.ca c) dx fs) → H dx = some (.own a) → ¬ S dx → RpF κ S H fs ds → Rb (.ref a) (.obj c ds)
  | exc {a dx : Addr} {c : Str} {fs : List (Str × V)} {ds : List (Str × D)} : H a = some (cxo a (.ref (κ.ca c)) (some dx)) → ¬ S a → H dx = some (.xd fs) → ¬ S dx → RpF κ S H fs ds → Rb (.ref a) (.exc c ds)
/-- the object at p, as it may be changed -/
inductive Mo (p : Addr) : D → Prop
  | lst {xs : List V} {ds : List D} : H p = some (.lst xs) → RpA κ (plus S p) H xs ds → Mo p (.lst ds)
  | dct {kvs : List (Key × V)} {ds : List (Key × D)} : H p = some (.dK kvs) → RpK κ (plus S p) H kvs ds → Mo p (.dct ds)
  | obj {dx : Addr} {c : Str} {fs : List (Str × V)} {ds : List (Str × D)} : H p = some (.ins (κ.ca c) dx fs) → H dx = some (.own p) → ¬ plus S p dx → RpF κ (plus S p) H fs ds → Mo p (.obj c ds)
end
section
variable {κ : Kx} {S T : AS} {H H' : Hp}
theorem TupAt.sq {a : Addr} {xs : List V} (h : TupAt κ S H a xs) : SqT κ.K H a xs := by
  cases h with
  | heap h _ => exact .inl h
  | wr h => exact h H
theorem ScrAt.sq {a : Addr} {xs : List V} (h : ScrAt κ S H a xs) : SqL κ.K H a xs := by
  cases h with
  | heap h _ => exact .inl h
  | wr h => exact h H
/-- what is kept of the frozen -/
def Kp (S T : AS) (H H' : Hp) : Prop := ∀ b o, ¬ S b → H b = some o → ¬ T b ∧ H' b = some o
theorem Kp.rd (k : Kp S T H H') {b : Addr} {u : HO} (n : ¬ S b) (h : Rd H b u) : ¬ T b ∧ Rd H' b u := by
  rcases h with h | ⟨o, h⟩
  · exact ⟨(k _ _ n h).1, .inl (k _ _ n h).2⟩
  · exact ⟨(k _ _ n h).1, .inr ⟨o, (k _ _ n h).2⟩⟩
theorem TupAt.imp (hk : Kp S T H H') {a : Addr} {xs : List V} (h : TupAt κ S H a xs) : TupAt κ T H' a xs := by
  cases h with
  | heap h n => exact .heap (hk.rd n h).2 (hk.rd n h).1
  | wr h => exact .wr h
theorem ScrAt.imp (hk : Kp S T H H') {a : Addr} {xs : List V} (h : ScrAt κ S H a xs) : ScrAt κ T H' a xs := by
  cases h with
  | heap h n => exact .heap (hk.rd n h).2 (hk.rd n h).1
  | wr h => exact .wr h
mutual
theorem Rp.imp (hk : Kp S T H H') : ∀ {v d}, Rp κ S H v d → Rp κ T H' v d
  | _, _, .non => .non
  | _, _, .bl b => .bl b
  | _, _, .int b => .int b
  | _, _, .str b => .str b
  | _, _, .ty b => .ty b
  | _, _, .tup h r => .tup (h.imp hk) (r.imp hk)
  | _, _, .lst h n r => .lst (hk _ _ n h).2 (hk _ _ n h).1 (r.imp hk)
  | _, _, .scr h => .scr (h.imp hk)
  | _, _, .dct h n r => .dct (hk.rd n h).2 (hk.rd n h).1 (r.imp hk)
  | _, _, .obj h n h2 n2 r => .obj (hk _ _ n h).2 (hk _ _ n h).1 (hk _ _ n2 h2).2 (hk _ _ n2 h2).1 (r.imp hk)
  | _, _, .exc h n h2 n2 r => .exc (hk _ _ n h).2 (hk _ _ n h).1 (hk _ _ n2 h2).2 (hk _ _ n2 h2).1 (r.imp hk)
theorem RpA.imp (hk : Kp S T H H') : ∀ {v d}, RpA κ S H v d → RpA κ T H' v d
  | _, _, .nil => .nil
  | _, _, .cons h r => .cons (h.imp hk) (r.imp hk)
theorem RpK.imp (hk : Kp S T H H') : ∀ {v d}, RpK κ S H v d → RpK κ T H' v d
  | _, _, .nil => .nil
  | _, _, .cons h r => .cons (h.imp hk) (r.imp hk)
theorem RpF.imp (hk : Kp S T H H') : ∀ {v d}, RpF κ S H v d → RpF κ T H' v d
  | _, _, .nil => .nil
  | _, _, .cons h r => .cons (h.imp hk) (r.imp hk)
end
theorem kp_sub (h : ∀ a, T a → S a) : Kp S T H H := fun b o n e => ⟨fun z => n (h b z), e⟩
theorem Rp.sub {v : V} {d : D} (h : Rp κ S H v d) (k : ∀ a, T a → S a) : Rp κ T H v d := h.imp (kp_sub k)
theorem RpA.sub {v : List V} {d : List D} (h : RpA κ S H v d) (k : ∀ a, T a → S a) : RpA κ T H v d := h.imp (kp_sub k)
theorem RpK.sub {v : List (Key × V)} {d : List (Key × D)} (h : RpK κ S H v d) (k : ∀ a, T a → S a) : RpK κ T H v d := h.imp (kp_sub k)
theorem RpF.sub {v : List (Str × V)} {d : List (Str × D)} (h : RpF κ S H v d) (k : ∀ a, T a → S a) : RpF κ T H v d := h.imp (kp_sub k)
theorem Rp.rb {v : V} {d : D} (h : Rp κ S H v d) : Rb κ S H v d := by
  cases h with
  | non => exact .non
  | bl => exact .bl _
  | int => exact .int _
  | str => exact .str _
  | ty => exact .ty _
  | tup h r => exact .tup h r
  | lst h _ r => exact .lst h r
  | scr h => exact .scr h.sq
  | dct h _ r => exact .dct h r
  | obj h _ h2 n r => exact .obj h h2 n r
  | exc h n1 h2 n r => exact .exc h n1 h2 n r
theorem plus_sub {p : Addr} : ∀ a, S a → plus S p a := fun _ h => .inl h
theorem Mo.rb {p : Addr} {d : D} (h : Mo κ S H p d) : Rb κ S H (.ref p) d := by
  cases h with
  | lst h r => exact .lst h (r.sub plus_sub)
  | dct h r => exact .dct (.inl h) (r.sub plus_sub)
  | obj h h2 n r => exact .obj h h2 (fun z => n (.inl z)) (r.sub plus_sub)
theorem Mo.rp {p : Addr} {d : D} (h : Mo κ S H p d) (n : ¬ S p) : Rp κ S H (.ref p) d := by
  cases h with
  | lst h r => exact .lst h n (r.sub plus_sub)
  | dct h r => exact .dct (.inl h) n (r.sub plus_sub)
  | obj h h2 n2 r => exact .obj h n h2 (fun z => n2 (.inl z)) (r.sub plus_sub)
theorem Mo.there {p : Addr} {d : D} (h : Mo κ S H p d) : H p ≠ none := by
  cases h with
  | lst h r => rw [h]; simp
  | dct h r => rw [h]; simp
  | obj h _ r => rw [h]; simp
theorem Mo.imp {p : Addr} {d : D} (h : Mo κ S H p d) (hp : ∀ u, H p = some u → H' p = some u) (hk : Kp (plus S p) (plus T p) H H') : Mo κ T H' p d := by
  cases h with
  | lst h r => exact .lst (hp _ h) (r.imp hk)
  | dct h r => exact .dct (hp _ h) (r.imp hk)
  | obj h h2 n r => exact .obj (hp _ h) (hk _ _ n h2).2 (hk _ _ n h2).1 (r.imp hk)
theorem Mo.sub {p : Addr} {d : D} (h : Mo κ S H p d) (k : ∀ a, T a → plus S p a) : Mo κ T H p d := h.imp (fun _ e => e) (kp_sub fun a z => z.elim (k a) .inr)
theorem RpA.len {vs : List V} {ds : List D} (h : RpA κ S H vs ds) : vs.length = ds.length := by
  induction ds generalizing vs with
  | nil => cases h; rfl
  | cons d ds ih => cases h with | cons a b => simp [ih b]
theorem RpA.at {vs : List V} {ds : List D} {i : Nat} {v : V} (h : RpA κ S H vs ds) (e : vs[i]? = some v) : ∃ d, ds[i]? = some d ∧ Rp κ S H v d := by
  induction ds generalizing vs i with
  | nil => cases h; simp at e
  | cons d ds ih =>
    cases h with
    | cons a b =>
      cases i with
      | zero => simp at e; subst e; exact ⟨d, rfl, a⟩
      | succ i => exact ih b (by simpa using e)
theorem RpA.at' {vs : List V} {ds : List D} {i : Nat} {d : D} (h : RpA κ S H vs ds) (e : ds[i]? = some d) : ∃ v, vs[i]? = some v ∧ Rp κ S H v d := by
  have hi : i < vs.length := by
    rw [h.len]
    exact (List.getElem?_eq_some_iff.mp e).1
  obtain ⟨x, e2, r⟩ := h.at (List.getElem?_eq_getElem hi)
  rw [e] at e2
  cases e2
  exact ⟨_, List.getElem?_eq_getElem hi, r⟩
theorem RpA.append {vs ws : List V} {ds es : List D} (h : RpA κ S H vs ds) (g : RpA κ S H ws es) : RpA κ S H (vs ++ ws) (ds ++ es) := by
  induction ds generalizing vs with
  | nil => cases h; exact g
  | cons d ds ih => cases h with | cons a b => exact .cons a (ih b)
theorem RpA.snoc {vs : List V} {v : V} {ds : List D} {d : D} (h : RpA κ S H vs ds) (g : Rp κ S H v d) : RpA κ S H (vs ++ [v]) (ds ++ [d]) := h.append (.cons g .nil)
theorem RpA.of_at {vs : List V} {ds : List D} (hl : vs.length = ds.length) (h : ∀ (i : Nat) v d, vs[i]? = some v → ds[i]? = some d → Rp κ S H v d) : RpA κ S H vs ds := by
  induction ds generalizing vs with
  | nil => cases vs with | nil => exact .nil | cons => simp at hl
  | cons d ds ih =>
    cases vs with
    | nil => simp at hl
    | cons v vs => exact .cons (h 0 v d rfl rfl) (ih (by simpa using hl) fun i v d e1 e2 => h (i + 1) v d (by simpa using e1) (by simpa using e2))
end
/-! ### environments -/
inductive Ent where
  | frz (d : D)
  | own (d : D)
  | par (d : D)
  | lok (p : Bool) (d : D)
def Ent.val : Ent → D
  | .frz d => d
  | .own d => d
  | .par d => d
  | .lok _ d => d
def Ent.isOwn : Ent → Bool
  | .frz _ => false
  | _ => true
def Ent.mut : Ent → Bool
  | .own _ => true
  | .par _ => true
  | _ => false
@[simp] theorem Ent.val_frz {d : D} : (Ent.frz d).val = d := rfl
@[simp] theorem Ent.val_own {d : D} : (Ent.own d).val = d := rfl
@[simp] theorem Ent.val_par {d : D} : (Ent.par d).val = d := rfl
@[simp] theorem Ent.val_lok {p : Bool} {d : D} : (Ent.lok p d).val = d := rfl
theorem Ent.own_of_mut {e : Ent} (h : e.mut = true) : e.isOwn = true := by cases e <;> first | rfl | cases h
abbrev Env := List (Option Ent)
/-- what an expression gives: a value, a new object, or the object of a slot -/
inductive Tok where
  | val (d : D)
  | new (d : D)
  | slot (j : Nat)
/-- an exception: its class, its fields -/
abbrev Exn := Str × List (Str × D)
inductive Res (α : Type) where
  | ok (a : α) (e : Env)
  | err (x : Exn) (e : Env)
  | bad
def Res.bind {α β : Type} : Res α → (α → Env → Res β) → Res β
  | .ok a e, f => f a e
  | .err x e, _ => .err x e
  | .bad, _ => .bad
@[simp] theorem Res.bind_ok {α β : Type} {a : α} {e : Env} {f : α → Env → Res β} : (Res.ok a e).bind f = f a e := rfl
@[simp] theorem Res.bind_err {α β : Type} {x : Exn} {e : Env} {f : α → Env → Res β} : (Res.err x e).bind f = .err x e := rfl
@[simp] theorem Res.bind_bad {α β : Type} {f : α → Env → Res β} : (Res.bad).bind f = .bad := rfl
def res (t : Tok) (env : Env) : Option D := match t with
  | .val d => some d
  | .new d => some d
  | .slot j => match env[j]? with
    | some (some e) => some e.val
    | _ => none
@[simp] theorem res_val {d : D} {env : Env} : res (.val d) env = some d := rfl
@[simp] theorem res_new {d : D} {env : Env} : res (.new d) env = some d := rfl
theorem res_slot {j : Nat} {env : Env} : res (.slot j) env = match env[j]? with | some (some e) => some e.val | _ => none := rfl
def EntOk (κ : Kx) (U : AS) (H : Hp) (v : V) (e : Ent) : Prop := match e with
  | .frz d => Rp κ U H v d
  | .own d => ∃ a, v = .ref a ∧ U a ∧ Mo κ U H a d
  | .par d => ∃ a, v = .ref a ∧ U a ∧ Mo κ U H a d
  | .lok _ d => ∃ a, v = .ref a ∧ U a ∧ Rb κ U H v d
theorem EntOk.rb {κ : Kx} {U : AS} {H : Hp} {v : V} {e : Ent} (h : EntOk κ U H v e) : Rb κ U H v e.val := by
  cases e with
  | frz d => exact Rp.rb h
  | own d => obtain ⟨a, rfl, _, m⟩ := h; exact m.rb
  | par d => obtain ⟨a, rfl, _, m⟩ := h; exact m.rb
  | lok p d => obtain ⟨a, rfl, _, m⟩ := h; exact m
theorem EntOk.addr {κ : Kx} {U : AS} {H : Hp} {v : V} {e : Ent} (h : EntOk κ U H v e) (o : e.isOwn = true) : ∃ a, v = .ref a ∧ U a := by
  cases e with
  | frz d => cases o
  | own d => obtain ⟨a, rfl, u, m⟩ := h; exact ⟨a, rfl, u⟩
  | par d => obtain ⟨a, rfl, u, m⟩ := h; exact ⟨a, rfl, u⟩
  | lok p d => obtain ⟨a, rfl, u, m⟩ := h; exact ⟨a, rfl, u⟩
theorem EntOk.mo {κ : Kx} {U : AS} {H : Hp} {v : V} {e : Ent} (h : EntOk κ U H v e) (o : e.mut = true) : ∃ a, v = .ref a ∧ U a ∧ Mo κ U H a e.val := by
  cases e with
  | frz d => cases o
  | own d => exact h
  | par d => exact h
  | lok p d => cases o
structure Inv (κ : Kx) (U : AS) (env : Env) (σ : L2.St) (H : Hp) : Prop where
  len : env.length = σ.length
  al : ∀ a, U a → H a ≠ none
  at' : ∀ (i : Nat) (e : Ent), env[i]? = some (some e) → ∃ v, σ[i]? = some (some v) ∧ EntOk κ U H v e
  sep : ∀ (i j : Nat) (e f : Ent) (a : Addr), env[i]? = some (some e) → env[j]? = some (some f) → i ≠ j → e.isOwn = true → f.isOwn = true → σ[i]? = some (some (.ref a)) → σ[j]? ≠ some (some (.ref a))
/-- the address of a slot that may be changed -/
def MutOf (env : Env) (σ : L2.St) (a : Addr) : Prop := ∃ (i : Nat) (e : Ent), env[i]? = some (some e) ∧ e.mut = true ∧ σ[i]? = some (some (.ref a))
/-- the address of a slot that is owned -/
def OwnOf (env : Env) (σ : L2.St) (a : Addr) : Prop := ∃ (i : Nat) (e : Ent), env[i]? = some (some e) ∧ e.isOwn = true ∧ σ[i]? = some (some (.ref a))
theorem MutOf.own {env : Env} {σ : L2.St} {a : Addr} (h : MutOf env σ a) : OwnOf env σ a := let ⟨i, e, h1, h2, h3⟩ := h; ⟨i, e, h1, Ent.own_of_mut h2, h3⟩
structure Step (U : AS) (env : Env) (σ : L2.St) (H : Hp) (U' : AS) (env' : Env) (σ' : L2.St) (H' : Hp) : Prop where
  keep : ∀ b o, ¬ MutOf env σ b → H b = some o → H' b = some o
  th : ∀ b, H b ≠ none → H' b ≠ none
  grow : ∀ a, MutOf env' σ' a → MutOf env σ a ∨ H a = none
  growO : ∀ a, OwnOf env' σ' a → OwnOf env σ a ∨ H a = none
  ug : ∀ a, U' a → U a ∨ H a = none
  un : ∀ a, U a → U' a ∨ ∃ (i : Nat) (d : D), env[i]? = some (some (.own d)) ∧ σ[i]? = some (some (.ref a))
  par : ∀ (i : Nat) (d : D), env[i]? = some (some (.par d)) → σ'[i]? = σ[i]? ∧ ∃ d', env'[i]? = some (some (.par d'))
  lok : ∀ (i : Nat) (p : Bool) (d : D), env[i]? = some (some (.lok p d)) → σ'[i]? = σ[i]? ∧ env'[i]? = some (some (.lok p d))
section
variable {κ : Kx} {U U1 U2 : AS} {env env1 env2 : Env} {σ σ1 σ2 : L2.St} {H H1 H2 : Hp}
theorem Inv.ownU (I : Inv κ U env σ H) {a : Addr} (h : OwnOf env σ a) : U a := by
  obtain ⟨i, e, e1, m, e2⟩ := h
  obtain ⟨v, e3, r⟩ := I.at' i e e1
  rw [e2] at e3
  cases e3
  obtain ⟨b, z, u⟩ := r.addr m
  cases z
  exact u
theorem Inv.mutU (I : Inv κ U env σ H) {a : Addr} (h : MutOf env σ a) : U a := by
  obtain ⟨i, e, e1, m, e2⟩ := h
  obtain ⟨v, e3, r⟩ := I.at' i e e1
  rw [e2] at e3
  cases e3
  obtain ⟨b, z, u⟩ := r.addr (Ent.own_of_mut m)
  cases z
  exact u
theorem Step.refl : Step U env σ H U env σ H := ⟨fun _ _ _ e => e, fun _ h => h, fun _ h => .inl h, fun _ h => .inl h, fun _ h => .inl h, fun _ h => .inl h, fun _ d h => ⟨rfl, d, h⟩, fun _ _ _ h => ⟨rfl, h⟩⟩
theorem Step.trans (I : Inv κ U env σ H) (I1 : Inv κ U1 env1 σ1 H1) (s : Step U env σ H U1 env1 σ1 H1) (t : Step U1 env1 σ1 H1 U2 env2 σ2 H2) : Step U env σ H U2 env2 σ2 H2 where
  keep := fun b o n e => t.keep b o (fun z => (s.grow b z).elim n fun w => by rw [w] at e; cases e) (s.keep b o n e)
  th := fun b h => t.th b (s.th b h)
  grow := fun a h => (t.grow a h).elim (s.grow a) fun z => .inr (Classical.byContradiction fun w => s.th a w z)
  growO := fun a h => (t.growO a h).elim (s.growO a) fun z => .inr (Classical.byContradiction fun w => s.th a w z)
  ug := fun a h => (t.ug a h).elim (s.ug a) fun z => .inr (Classical.byContradiction fun w => s.th a w z)
  un := fun a h => by
    rcases s.un a h with h1 | h1
    · rcases t.un a h1 with h2 | ⟨i, d, h2, h3⟩
      · exact .inl h2
      · right
        rcases s.grow a ⟨i, _, h2, rfl, h3⟩ with ⟨j, e, q1, q2, q3⟩ | z
        · cases e with
          | own d' => exact ⟨j, d', q1, q3⟩
          | par d' =>
            obtain ⟨w1, d2, w2⟩ := s.par j d' q1
            by_cases hij : i = j
            · subst hij; rw [h2] at w2; cases w2
            · exact absurd (w1.trans q3) (I1.sep i j _ _ a h2 w2 hij rfl rfl h3)
          | frz d' => cases q2
          | lok p' d' => cases q2
        · exact absurd z (I.al a h)
    · exact .inr h1
  par := fun i d h => by
    obtain ⟨a1, d1, b1⟩ := s.par i d h
    obtain ⟨a2, d2, b2⟩ := t.par i d1 b1
    exact ⟨a2.trans a1, d2, b2⟩
  lok := fun i p d h => by
    obtain ⟨a1, b1⟩ := s.lok i p d h
    obtain ⟨a2, b2⟩ := t.lok i p d b1
    exact ⟨a2.trans a1, b2⟩
/-- what is frozen stays -/
theorem Step.kp (I : Inv κ U env σ H) (s : Step U env σ H U1 env1 σ1 H1) : Kp U U1 H H1 := fun b o n e =>
  ⟨fun z => (s.ug b z).elim n fun w => (by rw [w] at e; cases e), s.keep b o (fun z => n (I.mutU z)) e⟩
theorem Step.rp (I : Inv κ U env σ H) (s : Step U env σ H U1 env1 σ1 H1) {v : V} {d : D} (h : Rp κ U H v d) : Rp κ U1 H1 v d := h.imp (s.kp I)
/-- an object in no slot -/
theorem Step.mo (I : Inv κ U env σ H) (s : Step U env σ H U1 env1 σ1 H1) {p : Addr} {d : D} (u : U p) (n : ¬ OwnOf env σ p) (h : Mo κ U H p d) : U1 p ∧ ¬ OwnOf env1 σ1 p ∧ Mo κ U1 H1 p d := by
  refine ⟨?_, fun z => (s.growO p z).elim n h.there, h.imp (fun u e => s.keep p u (fun z => n z.own) e) fun b o n2 e => ?_⟩
  · rcases s.un p u with z | ⟨i, d2, h1, h2⟩
    · exact z
    · exact absurd ⟨i, _, h1, rfl, h2⟩ n
  · have := s.kp I b o (fun z => n2 (.inl z)) e
    exact ⟨fun z => z.elim this.1 fun w => n2 (.inr w), this.2⟩
end
end FL

set_option Elab.async false
set_option linter.all false
set_option maxRecDepth 100000
set_option maxHeartbeats 4000000
set_option exponentiation.threshold 100000
/-! F2: expressions. -/
namespace FL
open PySem PySem.Spec PyProof.Rows L2 GL
def TokOk (κ : Kx) (U : AS) (Hs : Hp) (env : Env) (σ : L2.St) (H : Hp) (v : V) : Tok → Prop
  | .val d => Rp κ U H v d
  | .new d => ∃ p, v = .ref p ∧ Hs p = none ∧ U p ∧ ¬ OwnOf env σ p ∧ Mo κ U H p d
  | .slot j => σ[j]? = some (some v)
def ExOk (κ : Kx) (U : AS) (H : Hp) (c : Value) (d : Option Addr) (x : Exn) : Prop :=
  c = .ref (κ.ca x.1) ∧ ∃ a fs, d = some a ∧ H a = some (.xd fs) ∧ ¬ U a ∧ RpF κ U H fs x.2
/-- what is asked, by what a function gives -/
def Ask {α : Type} (κ : Kx) (EW : WX) (U : AS) (env : Env) (σ : L2.St) (H : Hp) (r : Res α) (q : α → Env → AS → Hp → Prop) : Prop := match r with
  | .ok a env' => ∀ U' H', Step U env σ H U' env' σ H' → Inv κ U' env' σ H' → q a env' U' H'
  | .err x env' => ∀ c d U' H', Step U env σ H U' env' σ H' → Inv κ U' env' σ H' → ExOk κ U' H' c d x → EW c d σ H'
  | .bad => False
abbrev Ev := Env → Res Tok
abbrev Et := Env → Res Bool
abbrev Ea := Env → Res (List Tok)
/-- an expression's reading is answered by a function -/
def SE (κ : Kx) (EW : WX) (t : TE) (f : Ev) : Prop := ∀ (U : AS) (env : Env) (σ : L2.St) (H : Hp) (Q : VK), Inv κ U env σ H →
  Ask κ EW U env σ H (f env) (fun tok env' U' H' => ∀ v, TokOk κ U' H env' σ H' v tok → Q v H') → t σ H Q
def ST (κ : Kx) (EW : WX) (t : TT) (f : Et) : Prop := ∀ (U : AS) (env : Env) (σ : L2.St) (H : Hp) (Q : Bool → Hp → Prop), Inv κ U env σ H →
  Ask κ EW U env σ H (f env) (fun b _ _ H' => Q b H') → t σ H Q
section
variable {κ : Kx} {EW : WX} {U U1 U2 : AS} {env env1 env2 : Env} {σ : L2.St} {H H1 H2 Hs : Hp} {v : V}
theorem Inv.slot {j : Nat} {e : Ent} (I : Inv κ U env σ H) (hs : σ[j]? = some (some v)) (h : env[j]? = some (some e)) : EntOk κ U H v e := by
  obtain ⟨w, e1, r⟩ := I.at' j e h
  rw [hs] at e1
  cases e1
  exact r
theorem res_of {j : Nat} {d : D} (e : res (.slot j) env = some d) : ∃ en, env[j]? = some (some en) ∧ en.val = d := by
  rw [res_slot] at e
  split at e
  · rename_i en h
    cases e
    exact ⟨en, h, rfl⟩
  · cases e
theorem res_rb {t : Tok} {d : D} (I : Inv κ U env σ H) (h : TokOk κ U Hs env σ H v t) (e : res t env = some d) : Rb κ U H v d := by
  cases t with
  | val x => cases e; exact Rp.rb h
  | new x =>
    cases e
    obtain ⟨p, rfl, _, _, _, m⟩ := h
    exact m.rb
  | slot j =>
    obtain ⟨en, h1, rfl⟩ := res_of e
    exact (I.slot h h1).rb
theorem TokOk.step {t : Tok} (I1 : Inv κ U1 env1 σ H1) (s : Step U1 env1 σ H1 U2 env2 σ H2) (h : TokOk κ U1 Hs env1 σ H1 v t) : TokOk κ U2 Hs env2 σ H2 v t := by
  cases t with
  | val x => exact s.rp I1 h
  | new x =>
    obtain ⟨p, rfl, n, u, no, m⟩ := h
    obtain ⟨a, b, c⟩ := s.mo I1 u no m
    exact ⟨p, rfl, n, a, b, c⟩
  | slot j => exact h
theorem TokOk.from {t : Tok} (th : ∀ b, H b ≠ none → H1 b ≠ none) (h : TokOk κ U2 H1 env2 σ H2 v t) : TokOk κ U2 H env2 σ H2 v t := by
  cases t with
  | val x => exact h
  | new x =>
    obtain ⟨p, rfl, n, m⟩ := h
    exact ⟨p, rfl, Classical.byContradiction fun z => th p z n, m⟩
  | slot j => exact h
/-- on, behind an answer -/
theorem Ask.then {α β : Type} {r : Res α} {k : α → Env → Res β} {q : β → Env → AS → Hp → Prop} (h : Ask κ EW U env σ H (r.bind k) q) :
    Ask κ EW U env σ H r fun a env1 _ _ => Ask κ EW U env σ H (k a env1) q := by
  cases r with
  | ok a e1 => exact fun _ _ _ _ => h
  | err x e1 => exact h
  | bad => exact h
/-- from a later place -/
theorem Ask.later {α : Type} {r : Res α} {q : α → Env → AS → Hp → Prop} (h : Ask κ EW U env σ H r q) (I : Inv κ U env σ H) (s1 : Step U env σ H U1 env1 σ H1) (I1 : Inv κ U1 env1 σ H1) : Ask κ EW U1 env1 σ H1 r q := by
  cases r with
  | ok b e2 => exact fun U2 H2 s2 I2 => h U2 H2 (s1.trans I I1 s2) I2
  | err x e2 => exact fun c d U2 H2 s2 I2 z => h c d U2 H2 (s1.trans I I1 s2) I2 z
  | bad => exact h
theorem Ask.mono {α : Type} {r : Res α} {q q' : α → Env → AS → Hp → Prop} (h : Ask κ EW U env σ H r q) (hq : ∀ a e1 U1 H1, Step U env σ H U1 e1 σ H1 → Inv κ U1 e1 σ H1 → q a e1 U1 H1 → q' a e1 U1 H1) : Ask κ EW U env σ H r q' := by
  cases r with
  | ok a e1 => exact fun U1 H1 s1 I1 => hq a e1 U1 H1 s1 I1 (h U1 H1 s1 I1)
  | err x e1 => exact h
  | bad => exact h
theorem Ask.ok {α : Type} {a : α} {q : α → Env → AS → Hp → Prop} (h : Ask κ EW U env σ H (.ok a env) q) (I : Inv κ U env σ H) : q a env U H := h U H .refl I
/-- the heap grows -/
def Grow (H H' : Hp) : Prop := ∀ b o, H b = some o → H' b = some o
theorem Grow.refl : Grow H H := fun _ _ e => e
theorem Grow.trans (a : Grow H H1) (b : Grow H1 H2) : Grow H H2 := fun x o e => b x o (a x o e)
theorem Grow.new {p : Addr} {o : HO} (h : H p = none) : Grow H (upd H p o) := fun b u e => by rw [upd_ne (ne_of_none e h)]; exact e
theorem Grow.th (g : Grow H H1) : ∀ b, H b ≠ none → H1 b ≠ none := fun b h z => by
  cases e : H b with
  | none => exact h e
  | some o => rw [g b o e] at z; cases z
theorem Grow.kp {S : AS} (g : Grow H H1) : Kp S S H H1 := fun b o n e => ⟨n, g b o e⟩
theorem Grow.rd {a : Addr} {u : HO} (g : Grow H H1) (h : Rd H a u) : Rd H1 a u := h.elim (fun e => .inl (g _ _ e)) fun ⟨o, e⟩ => .inr ⟨o, g _ _ e⟩
theorem Grow.rb {d : D} (g : Grow H H1) (h : Rb κ U H v d) : Rb κ U H1 v d := by
  cases h with
  | non => exact .non
  | bl => exact .bl _
  | int => exact .int _
  | str => exact .str _
  | ty => exact .ty _
  | tup h r => exact .tup (h.imp g.kp) (r.imp g.kp)
  | lst h r => exact .lst (g _ _ h) (r.imp g.kp)
  | scr h => exact .scr (h.imp g.rd id)
  | dct h r => exact .dct (g.rd h) (r.imp g.kp)
  | obj h h2 n r => exact .obj (g _ _ h) (g _ _ h2) n (r.imp g.kp)
  | exc h n1 h2 n r => exact .exc (g _ _ h) n1 (g _ _ h2) n (r.imp g.kp)
theorem Grow.ent {e : Ent} (g : Grow H H1) (h : EntOk κ U H v e) : EntOk κ U H1 v e := by
  cases e with
  | frz d => exact Rp.imp g.kp h
  | own d => obtain ⟨a, rfl, u, m⟩ := h; exact ⟨a, rfl, u, m.imp (fun _ e => g _ _ e) g.kp⟩
  | par d => obtain ⟨a, rfl, u, m⟩ := h; exact ⟨a, rfl, u, m.imp (fun _ e => g _ _ e) g.kp⟩
  | lok p d => obtain ⟨a, rfl, u, m⟩ := h; exact ⟨a, rfl, u, g.rb m⟩
theorem Inv.grow (I : Inv κ U env σ H) (g : Grow H H1) : Inv κ U env σ H1 :=
  ⟨I.len, fun a h => g.th a (I.al a h), fun i e h => by
    obtain ⟨v, e1, r⟩ := I.at' i e h
    exact ⟨v, e1, g.ent r⟩, I.sep⟩
theorem Step.grown (g : Grow H H1) : Step U env σ H U env σ H1 := ⟨fun b o _ e => g b o e, g.th, fun _ h => .inl h, fun _ h => .inl h, fun _ h => .inl h, fun _ h => .inl h, fun _ d h => ⟨rfl, d, h⟩, fun _ _ _ h => ⟨rfl, h⟩⟩
/-- a new object is laid, in no slot -/
theorem Rb.plus {d : D} {p : Addr} (h : Rb κ U H v d) (n : H p = none) (g : Grow H H1) : Rb κ (plus U p) H1 v d := by
  have k : Kp U (FL.plus U p) H H1 := fun b u nb e => ⟨fun z => z.elim nb fun w => (by rw [w, n] at e; cases e), g b u e⟩
  cases h with
  | non => exact .non
  | bl => exact .bl _
  | int => exact .int _
  | str => exact .str _
  | ty => exact .ty _
  | tup h r => exact .tup (h.imp k) (r.imp k)
  | lst h r => exact .lst (g _ _ h) (r.imp k)
  | scr h => exact .scr (h.imp g.rd id)
  | dct h r => exact .dct (g.rd h) (r.imp k)
  | obj h h2 n2 r => exact .obj (g _ _ h) (k _ _ n2 h2).2 (k _ _ n2 h2).1 (r.imp k)
  | exc h n1 h2 n2 r => exact .exc (k _ _ n1 h).2 (k _ _ n1 h).1 (k _ _ n2 h2).2 (k _ _ n2 h2).1 (r.imp k)
theorem Inv.plus {p : Addr} (I : Inv κ U env σ H) (n : H p = none) (g : Grow H H1) (n1 : H1 p ≠ none) : Inv κ (plus U p) env σ H1 := by
  have k : Kp U (FL.plus U p) H H1 := fun b u nb e => ⟨fun z => z.elim nb fun w => (by rw [w, n] at e; cases e), g b u e⟩
  have k2 : ∀ a, Kp (FL.plus U a) (FL.plus (FL.plus U p) a) H H1 := fun a b u nb e => ⟨fun z => z.elim (k b u (fun z => nb (.inl z)) e).1 fun w => nb (.inr w), g b u e⟩
  refine ⟨I.len, fun a h => ?_, fun i e h => ?_, I.sep⟩
  · rcases h with h | rfl
    · exact g.th a (I.al a h)
    · exact n1
  · obtain ⟨v, e1, r⟩ := I.at' i e h
    refine ⟨v, e1, ?_⟩
    cases e with
    | frz d => exact Rp.imp k r
    | own d => obtain ⟨a, rfl, u, m⟩ := r; exact ⟨a, rfl, .inl u, m.imp (fun _ e => g _ _ e) (k2 a)⟩
    | par d => obtain ⟨a, rfl, u, m⟩ := r; exact ⟨a, rfl, .inl u, m.imp (fun _ e => g _ _ e) (k2 a)⟩
    | lok p' d => obtain ⟨a, rfl, u, m⟩ := r; exact ⟨a, rfl, .inl u, m.plus n g⟩
theorem Step.plus {p : Addr} (n : H p = none) (g : Grow H H1) : Step U env σ H (plus U p) env σ H1 :=
  ⟨fun b o _ e => g b o e, g.th, fun _ h => .inl h, fun _ h => .inl h, fun a h => (show U a ∨ a = p from h).imp id fun w => (by rw [w]; exact n), fun _ h => .inl (.inl h), fun _ d h => ⟨rfl, d, h⟩, fun _ _ _ h => ⟨rfl, h⟩⟩
theorem Inv.fresh {p : Addr} (I : Inv κ U env σ H) (n : H p = none) : ¬ OwnOf env σ p := fun z => I.al p (I.ownU z) n
/-! ### a slot is frozen -/
theorem getset {α : Type} {l : List α} {i j : Nat} {x y : α} (h : (l.set i x)[j]? = some y) : (j = i ∧ i < l.length ∧ y = x) ∨ (j ≠ i ∧ l[j]? = some y) := by
  by_cases e : i = j
  · subst e
    rw [List.getElem?_set_self'] at h
    by_cases hl : i < l.length
    · rw [List.getElem?_eq_getElem hl] at h
      simp at h
      exact .inl ⟨rfl, hl, h.symm⟩
    · rw [List.getElem?_eq_none (by omega)] at h
      simp at h
  · rw [List.getElem?_set_ne e] at h
    exact .inr ⟨fun z => e z.symm, h⟩
theorem less_sub {p : Addr} : ∀ a, less U p a → U a := fun _ h => h.1
theorem less_plus {p q : Addr} : ∀ a, plus (less U p) q a → plus U q a := fun _ h => h.imp And.left id
theorem EntOk.less {e : Ent} {p : Addr} (h : EntOk κ U H v e) (hp : e.isOwn = true → v ≠ .ref p) : EntOk κ (less U p) H v e := by
  cases e with
  | frz d => exact Rp.sub h less_sub
  | own d => obtain ⟨a, rfl, u, m⟩ := h; exact ⟨a, rfl, ⟨u, fun z => hp rfl (by rw [z])⟩, m.sub fun b z => .inl z.1⟩
  | par d => obtain ⟨a, rfl, u, m⟩ := h; exact ⟨a, rfl, ⟨u, fun z => hp rfl (by rw [z])⟩, m.sub fun b z => .inl z.1⟩
  | lok p' d =>
    obtain ⟨a, rfl, u, m⟩ := h
    refine ⟨a, rfl, ⟨u, fun z => hp rfl (by rw [z])⟩, ?_⟩
    cases m with
    | tup h r => exact .tup (h.imp (kp_sub less_sub)) (r.sub less_sub)
    | lst h r => exact .lst h (r.sub less_sub)
    | scr h => exact .scr h
    | dct h r => exact .dct h (r.sub less_sub)
    | obj h h2 n r => exact .obj h h2 (fun z => n z.1) (r.sub less_sub)
    | exc h n1 h2 n r => exact .exc h (fun z => n1 z.1) h2 (fun z => n z.1) (r.sub less_sub)
theorem freeze {j : Nat} {d : D} (I : Inv κ U env σ H) (h : env[j]? = some (some (.own d))) (hs : σ[j]? = some (some v)) :
    ∃ a, v = .ref a ∧ Step U env σ H (less U a) (env.set j (some (.frz d))) σ H ∧ Inv κ (less U a) (env.set j (some (.frz d))) σ H ∧ Rp κ (less U a) H v d := by
  obtain ⟨a, rfl, u, m⟩ := I.slot hs h
  have rp : Rp κ (less U a) H (.ref a) d := (m.sub (T := less U a) fun b z => .inl z.1).rp fun z => z.2 rfl
  have at2 : ∀ i e, (env.set j (some (.frz d)))[i]? = some (some e) → (i = j ∧ e = .frz d) ∨ (i ≠ j ∧ env[i]? = some (some e)) := fun i e q => by
    rcases getset q with ⟨e1, _, e2⟩ | q
    · cases e2; exact .inl ⟨e1, rfl⟩
    · exact .inr q
  refine ⟨a, rfl, ⟨fun b o _ e => e, fun b h => h, ?_, ?_, fun b h => .inl h.1, fun b hu => ?_, fun i d2 q => ⟨rfl, ?_⟩, fun i p2 d2 q => ⟨rfl, ?_⟩⟩, ⟨by rw [List.length_set]; exact I.len, fun b h => I.al b h.1, fun i e q => ?_, fun i k e f b q1 q2 n o1 o2 => ?_⟩, rp⟩
  · rintro b ⟨i, e, q1, q2, q3⟩
    rcases at2 i e q1 with ⟨_, rfl⟩ | ⟨_, q⟩
    · cases q2
    · exact .inl ⟨i, e, q, q2, q3⟩
  · rintro b ⟨i, e, q1, q2, q3⟩
    rcases at2 i e q1 with ⟨_, rfl⟩ | ⟨_, q⟩
    · cases q2
    · exact .inl ⟨i, e, q, q2, q3⟩
  · by_cases hb : b = a
    · subst hb; exact .inr ⟨j, d, h, hs⟩
    · exact .inl ⟨hu, hb⟩
  · refine ⟨d2, ?_⟩
    rw [List.getElem?_set_ne]
    · exact q
    · rintro rfl; rw [h] at q; cases q
  · rw [List.getElem?_set_ne]
    · exact q
    · rintro rfl; rw [h] at q; cases q
  · rcases at2 i e q with ⟨rfl, rfl⟩ | ⟨n, q⟩
    · exact ⟨_, hs, rp⟩
    · obtain ⟨w, e1, r⟩ := I.at' i e q
      refine ⟨w, e1, r.less fun o z => ?_⟩
      subst z
      exact I.sep i j _ _ a q h n o rfl e1 hs
  · rcases at2 i e q1 with ⟨rfl, rfl⟩ | ⟨n1, q1⟩
    · cases o1
    · rcases at2 k f q2 with ⟨rfl, rfl⟩ | ⟨n2, q2⟩
      · cases o2
      · exact I.sep i k e f b q1 q2 n o1 o2
/-- an object in no slot is frozen -/
theorem Inv.less {p : Addr} (I : Inv κ U env σ H) (n : ¬ OwnOf env σ p) : Inv κ (less U p) env σ H :=
  ⟨I.len, fun b h => I.al b h.1, fun i e q => by
    obtain ⟨w, e1, r⟩ := I.at' i e q
    refine ⟨w, e1, r.less fun o z => ?_⟩
    subst z
    exact n ⟨i, e, q, o, e1⟩, I.sep⟩
theorem Step.less {σ0 : L2.St} {U0 : AS} {env0 : Env} {p : Addr} (I0 : Inv κ U0 env0 σ0 Hs) (s : Step U0 env0 σ0 Hs U env σ H) (n : Hs p = none) : Step U0 env0 σ0 Hs (less U p) env σ H :=
  ⟨s.keep, s.th, s.grow, s.growO, fun a h => s.ug a h.1, fun a h => (s.un a h).imp (fun z => ⟨z, fun w => I0.al a h (w ▸ n)⟩) id, s.par, s.lok⟩
theorem TokOk.less {t : Tok} {p : Addr} (h : TokOk κ U Hs env σ H v t) (hp : (∃ d, t = .new d) → v ≠ .ref p) : TokOk κ (less U p) Hs env σ H v t := by
  cases t with
  | val d => exact Rp.sub h less_sub
  | new d =>
    obtain ⟨q, rfl, n, u, no, m⟩ := h
    exact ⟨q, rfl, n, ⟨u, fun z => hp ⟨d, rfl⟩ (by rw [z])⟩, no, m.sub fun b z => .inl z.1⟩
  | slot j => exact h
/-- the token as a kept value -/
def keepT (t : Tok) (env : Env) : Option (D × Env) := match t with
  | .val d => some (d, env)
  | .new d => some (d, env)
  | .slot j => match env[j]? with
    | some (some (.own d)) => some (d, env.set j (some (.frz d)))
    | some (some (.frz d)) => some (d, env)
    | _ => none
@[simp] theorem keepT_val {d : D} : keepT (.val d) env = some (d, env) := rfl
@[simp] theorem keepT_new {d : D} : keepT (.new d) env = some (d, env) := rfl
/-- a frozen slot is read anew by tokens -/
theorem TokOk.frozen {t : Tok} {j : Nat} {a : Addr} {e : Ent} {d : D} (I : Inv κ U env σ H) (hj : env[j]? = some (some (.own d))) (hs : σ[j]? = some (some (.ref a))) (h : TokOk κ U Hs env σ H v t) : TokOk κ (FL.less U a) Hs (env.set j (some (.frz d))) σ H v t := by
  obtain ⟨a', z, s, I', r⟩ := freeze I hj hs
  cases z
  exact h.step I s
theorem keep_ok {U0 : AS} {env0 : Env} {σ0 : L2.St} {t : Tok} {d : D} (I0 : Inv κ U0 env0 σ0 Hs) (s : Step U0 env0 σ0 Hs U env σ H) (I : Inv κ U env σ H) (ht : TokOk κ U Hs env σ H v t) (h : keepT t env = some (d, env1)) :
    ∃ U', Step U0 env0 σ0 Hs U' env1 σ H ∧ Inv κ U' env1 σ H ∧ Rp κ U' H v d ∧ (∀ b, U' b → U b) ∧ ∀ w u, TokOk κ U Hs env σ H w u → ((∃ d, u = .new d) → (∃ d, t = .new d) → w ≠ v) → TokOk κ U' Hs env1 σ H w u := by
  cases t with
  | val x => cases h; exact ⟨U, s, I, ht, fun _ z => z, fun w u hu _ => hu⟩
  | new x =>
    cases h
    obtain ⟨p, rfl, n, u, no, m⟩ := ht
    refine ⟨less U p, s.less I0 n, I.less no, (m.sub (T := FL.less U p) fun b z => .inl z.1).rp fun z => z.2 rfl, less_sub, fun w u hu hn => hu.less fun q => hn q ⟨d, rfl⟩⟩
  | slot j =>
    have ht : σ[j]? = some (some v) := ht
    have e : keepT (.slot j) env = match env[j]? with
      | some (some (.own d)) => some (d, env.set j (some (.frz d)))
      | some (some (.frz d)) => some (d, env)
      | _ => none := rfl
    rw [e] at h
    split at h
    · rename_i d' h1
      cases h
      obtain ⟨a, rfl, s', I', r⟩ := freeze I h1 ht
      exact ⟨_, s.trans I0 I s', I', r, less_sub, fun w u hu _ => hu.step I s'⟩
    · rename_i d' h1
      cases h
      exact ⟨U, s, I, I.slot ht h1, fun _ z => z, fun w u hu _ => hu⟩
    · cases h
end
end FL

set_option Elab.async false
set_option linter.all false
set_option maxRecDepth 100000
set_option maxHeartbeats 4000000
set_option exponentiation.threshold 100000
/-! F3: expressions with their functions. -/
namespace FL
open PySem PySem.Spec PyProof.Rows L2 GL
/-! ### functions -/
def lift (o : Option Tok) (env : Env) : Res Tok := match o with
  | some t => .ok t env
  | none => .bad
@[simp] theorem lift_some {t : Tok} {env : Env} : lift (some t) env = .ok t env := rfl
@[simp] theorem lift_none {env : Env} : lift none env = .bad := rfl
def fVar (i : Nat) : Ev := fun env => match env[i]? with
  | some (some (.frz d)) => .ok (.val d) env
  | some (some _) => .ok (.slot i) env
  | _ => .bad
def fC (d : D) : Ev := fun env => .ok (.val d) env
def ap1 (f : D → Option Tok) (t : Tok) (env : Env) : Res Tok := match res t env with
  | some d => lift (f d) env
  | none => .bad
def ap2 (f : D → D → Option Tok) (t u : Tok) (env : Env) : Res Tok := match res t env, res u env with
  | some d, some e => lift (f d e) env
  | _, _ => .bad
def resAll : List Tok → Env → Option (List D)
  | [], _ => some []
  | t :: ts, env => match res t env, resAll ts env with
    | some d, some ds => some (d :: ds)
    | _, _ => none
def apN (f : List D → Option Tok) (ts : List Tok) (env : Env) : Res Tok := match resAll ts env with
  | some ds => lift (f ds) env
  | none => .bad
def keepAll : List Tok → Env → Option (List D × Env)
  | [], env => some ([], env)
  | t :: ts, env => match keepT t env with
    | some (d, e1) => match keepAll ts e1 with
      | some (ds, e2) => some (d :: ds, e2)
      | none => none
    | none => none
def fOp (f : D → D → Option Tok) (a b : Ev) : Ev := fun env => (a env).bind fun t e1 => (b e1).bind fun u e2 => ap2 f t u e2
def fUn (f : D → Option Tok) (a : Ev) : Ev := fun env => (a env).bind fun t e1 => ap1 f t e1
def fCB (f : List D → Option Tok) (a : Ea) : Ev := fun env => (a env).bind fun ts e1 => apN f ts e1
def fNil : Ea := fun env => .ok [] env
def fCons (a : Ev) (b : Ea) : Ea := fun env => (a env).bind fun t e1 => (b e1).bind fun ts e2 => .ok (t :: ts) e2
def mkTup (o : Option (List D × Env)) : Res Tok := match o with
  | some (ds, env) => if ds.length ≤ 1000000 then .ok (.val (.tup ds)) env else .bad
  | none => .bad
def mkLst (o : Option (List D × Env)) : Res Tok := match o with
  | some (ds, env) => if ds.length ≤ 1000000 then .ok (.new (.lst ds)) env else .bad
  | none => .bad
def fTup (a : Ea) : Ev := fun env => (a env).bind fun ts e1 => mkTup (keepAll ts e1)
def fLst (a : Ea) : Ev := fun env => (a env).bind fun ts e1 => mkLst (keepAll ts e1)
/-- a truth -/
def asB (t : Tok) (env : Env) : Res Bool := match res t env with
  | some (.bl b) => .ok b env
  | _ => .bad
def fB (a : Ev) : Et := fun env => (a env).bind fun t e1 => asB t e1
def fNot (a : Et) : Et := fun env => (a env).bind fun b e1 => .ok (!b) e1
def fAnd (a b : Et) : Et := fun env => (a env).bind fun x e1 => if x = true then b e1 else .ok false e1
def fOr (a b : Et) : Et := fun env => (a env).bind fun x e1 => if x = true then .ok true e1 else b e1
def fYes : Et := fun env => .ok true env
def fAndV (a b : Ev) : Ev := fun env => (a env).bind fun t e1 => (asB t e1).bind fun x e2 => if x = true then b e2 else .ok (.val (.bl false)) e2
def fOrV (a b : Ev) : Ev := fun env => (a env).bind fun t e1 => (asB t e1).bind fun x e2 => if x = true then .ok (.val (.bl true)) e2 else b e2
def fNotV (a : Ev) : Ev := fun env => (a env).bind fun t e1 => (asB t e1).bind fun x e2 => .ok (.val (.bl (!x))) e2
def fIf (c : Et) (a b : Ev) : Ev := fun env => (c env).bind fun x e1 => if x = true then a e1 else b e1
def fOpt (a : Option Ev) : Env → Res (Option Int) := fun env => match a with
  | none => .ok none env
  | some f => (f env).bind fun t e1 => match res t e1 with
    | some (.int i) => .ok (some i) e1
    | _ => .bad
def ap3 (f : D → Option Int → Option Int → Option Tok) (t : Tok) (l h : Option Int) (env : Env) : Res Tok := match res t env with
  | some d => lift (f d l h) env
  | none => .bad
def fSl (f : D → Option Int → Option Int → Option Tok) (a : Ev) (l h : Option Ev) : Ev := fun env => (a env).bind fun t e1 => (fOpt l e1).bind fun x e2 => (fOpt h e2).bind fun y e3 => ap3 f t x y e3
/-! ### operators by values -/
def VOk (κ : Kx) (U : AS) (Hs H : Hp) (v : V) : Tok → Prop
  | .val d => Rp κ U H v d
  | .new d => ∃ p, v = .ref p ∧ Hs p = none ∧ Mo κ U H p d
  | .slot _ => False
abbrev Al (U : AS) (H : Hp) : Prop := ∀ a, U a → H a ≠ none
def OpS (κ : Kx) (r : R2) (f : D → D → Option Tok) : Prop := ∀ (U : AS) (H : Hp) (x y : V) (d e : D) (tk : Tok) (Q : VK), Rb κ U H x d → Rb κ U H y e → Al U H → f d e = some tk →
  (∀ v H', Grow H H' → VOk κ U H H' v tk → Q v H') → r x y H Q
def UnS (κ : Kx) (r : V → Hp → VK → Prop) (f : D → Option Tok) : Prop := ∀ (U : AS) (H : Hp) (x : V) (d : D) (tk : Tok) (Q : VK), Rb κ U H x d → Al U H → f d = some tk →
  (∀ v H', Grow H H' → VOk κ U H H' v tk → Q v H') → r x H Q
inductive RbA (κ : Kx) (U : AS) (H : Hp) : List V → List D → Prop
  | nil : RbA κ U H [] []
  | cons {v : V} {vs : List V} {d : D} {ds : List D} : Rb κ U H v d → RbA κ U H vs ds → RbA κ U H (v :: vs) (d :: ds)
def CbS (κ : Kx) (r : List V → Hp → VK → Prop) (f : List D → Option Tok) : Prop := ∀ (U : AS) (H : Hp) (xs : List V) (ds : List D) (tk : Tok) (Q : VK), RbA κ U H xs ds → Al U H → f ds = some tk →
  (∀ v H', Grow H H' → VOk κ U H H' v tk → Q v H') → r xs H Q
def MtS (κ : Kx) (r : V → List V → Hp → VK → Prop) (f : D → List D → Option Tok) : Prop := ∀ (U : AS) (H : Hp) (x : V) (d : D) (xs : List V) (ds : List D) (tk : Tok) (Q : VK), Rb κ U H x d → RbA κ U H xs ds → Al U H → f d ds = some tk →
  (∀ v H', Grow H H' → VOk κ U H H' v tk → Q v H') → r x xs H Q
def SlS (κ : Kx) (r : V → Option Int → Option Int → Hp → VK → Prop) (f : D → Option Int → Option Int → Option Tok) : Prop := ∀ (U : AS) (H : Hp) (x : V) (d : D) (l h : Option Int) (tk : Tok) (Q : VK), Rb κ U H x d → Al U H → f d l h = some tk →
  (∀ v H', Grow H H' → VOk κ U H H' v tk → Q v H') → r x l h H Q
inductive AllTok (κ : Kx) (U : AS) (Hs : Hp) (env : Env) (σ : L2.St) (H : Hp) : List V → List Tok → Prop
  | nil : AllTok κ U Hs env σ H [] []
  | cons {v : V} {vs : List V} {t : Tok} {ts : List Tok} : TokOk κ U Hs env σ H v t → AllTok κ U Hs env σ H vs ts → AllTok κ U Hs env σ H (v :: vs) (t :: ts)
def newRefs : List V → List Tok → List V
  | v :: vs, .new _ :: ts => v :: newRefs vs ts
  | _ :: vs, _ :: ts => newRefs vs ts
  | _, _ => []
def SA (κ : Kx) (EW : WX) (t : TA) (f : Ea) : Prop := ∀ (U : AS) (env : Env) (σ : L2.St) (H : Hp) (Q : List V → Hp → Prop), Inv κ U env σ H →
  Ask κ EW U env σ H (f env) (fun toks env' U' H' => ∀ vs, AllTok κ U' H env' σ H' vs toks → (newRefs vs toks).Nodup → Q vs H') → t σ H Q
def SO (κ : Kx) (EW : WX) (t : TO) (f : Env → Res (Option Int)) : Prop := ∀ (U : AS) (env : Env) (σ : L2.St) (H : Hp) (Q : Option Int → Hp → Prop), Inv κ U env σ H →
  Ask κ EW U env σ H (f env) (fun o _ _ H' => Q o H') → t σ H Q
section
variable {κ : Kx} {EW : WX} {U U1 U2 : AS} {env env1 env2 : Env} {σ : L2.St} {H H1 H2 Hs : Hp} {v : V} {ta tb te : TE} {fa fb fe : Ev} {tt tu : TT} {ft fu : Et} {tas : TA} {fas : Ea}
/-- the value of an operator, taken on -/
theorem VOk.take {U0 : AS} {env0 : Env} {t : Tok} {q : Tok → Env → AS → Hp → Prop} (I : Inv κ U env σ H) (g : Grow H H1) (h : VOk κ U H H1 v t) (I0 : Inv κ U0 env0 σ Hs) (s : Step U0 env0 σ Hs U env σ H) :
    ∃ U', Step U env σ H U' env σ H1 ∧ Inv κ U' env σ H1 ∧ TokOk κ U' Hs env σ H1 v t := by
  cases t with
  | val d => exact ⟨U, .grown g, I.grow g, h⟩
  | new d =>
    obtain ⟨p, rfl, n, m⟩ := h
    exact ⟨plus U p, .plus n g, I.plus n g m.there, p, rfl, Classical.byContradiction fun z => s.th p z n, .inr rfl, I.fresh n, m.sub fun b z => z⟩
  | slot j => exact h.elim
theorem Ask.lift {U0 : AS} {env0 : Env} {o : Option Tok} {q : Tok → Env → AS → Hp → Prop} (h : Ask κ EW U0 env0 σ Hs (FL.lift o env) q) (I0 : Inv κ U0 env0 σ Hs) (s : Step U0 env0 σ Hs U env σ H) (I : Inv κ U env σ H) :
    ∃ t, o = some t ∧ ∀ v H', Grow H H' → VOk κ U H H' v t → ∃ U', TokOk κ U' Hs env σ H' v t ∧ q t env U' H' := by
  cases o with
  | none => exact h.elim
  | some t =>
    refine ⟨t, rfl, fun v H' g w => ?_⟩
    obtain ⟨U', s', I', tk⟩ := VOk.take (q := q) I g w I0 s
    exact ⟨U', tk, h U' H' (s.trans I0 I s') I'⟩
theorem se_var {i : Nat} : SE κ EW (tVar i) (fVar i) := by
  intro U env σ H Q I q
  unfold fVar at q
  split at q
  · rename_i d h
    obtain ⟨v, e1, s⟩ := I.at' i _ h
    exact ⟨v, e1, q.ok I v s⟩
  · rename_i e _ h
    obtain ⟨v, e1, s⟩ := I.at' i _ h
    exact ⟨v, e1, q.ok I v e1⟩
  · exact q.elim
theorem se_c {d : D} (h : ∀ U H, Rp κ U H v d) : SE κ EW (tC v) (fC d) := fun U env σ H Q I q => q.ok I v (h _ _)
theorem se_op {r : R2} {f : D → D → Option Tok} (h : OpS κ r f) (ha : SE κ EW ta fa) (hb : SE κ EW tb fb) : SE κ EW (tOp r ta tb) (fOp f fa fb) := by
  intro U env σ H Q I q
  refine ha U env σ H _ I (q.then.mono fun t e1 U1 H1 s1 I1 q1 x hx => ?_)
  refine hb U1 e1 σ H1 _ I1 ((q1.then.later I s1 I1).mono fun u e2 U2 H2 s2 I2 q2 z hz => ?_)
  unfold ap2 at q2
  split at q2
  · rename_i d e e1 e2
    obtain ⟨tk, et, q3⟩ := Ask.lift q2 I (s1.trans I I1 s2) I2
    refine h U2 H2 x z d e tk Q (res_rb I2 (hx.step I1 s2) e1) (res_rb I2 hz e2) I2.al et fun v H3 g w => ?_
    obtain ⟨U3, w1, w2⟩ := q3 v H3 g w
    exact w2 v w1
  · exact q2.elim
theorem se_un {r : V → Hp → VK → Prop} {f : D → Option Tok} (h : UnS κ r f) (ha : SE κ EW ta fa) : SE κ EW (tUn r ta) (fUn f fa) := by
  intro U env σ H Q I q
  refine ha U env σ H _ I (q.then.mono fun t e1 U1 H1 s1 I1 q1 x hx => ?_)
  unfold ap1 at q1
  split at q1
  · rename_i d eu
    obtain ⟨tk, et, q3⟩ := Ask.lift q1 I s1 I1
    refine h U1 H1 x d tk Q (res_rb I1 hx eu) I1.al et fun v H3 g w => ?_
    obtain ⟨U3, w1, w2⟩ := q3 v H3 g w
    exact w2 v w1
  · exact q1.elim
theorem AllTok.step {vs : List V} {ts : List Tok} (I1 : Inv κ U1 env1 σ H1) (s : Step U1 env1 σ H1 U2 env2 σ H2) (h : AllTok κ U1 Hs env1 σ H1 vs ts) : AllTok κ U2 Hs env2 σ H2 vs ts := by
  induction h with
  | nil => exact .nil
  | cons a _ ih => exact .cons (a.step I1 s) ih
theorem AllTok.from {vs : List V} {ts : List Tok} (th : ∀ b, H b ≠ none → H1 b ≠ none) (h : AllTok κ U2 H1 env2 σ H2 vs ts) : AllTok κ U2 H env2 σ H2 vs ts := by
  induction h with
  | nil => exact .nil
  | cons a _ ih => exact .cons (a.from th) ih
theorem resAll_rb {vs : List V} {ts : List Tok} {ds : List D} (I : Inv κ U env σ H) (h : AllTok κ U Hs env σ H vs ts) (e : resAll ts env = some ds) : RbA κ U H vs ds := by
  induction h generalizing ds with
  | nil => cases e; exact .nil
  | cons a _ ih =>
    rename_i t ts _
    unfold resAll at e
    split at e
    · rename_i d r e1 e2
      cases e
      exact .cons (res_rb I a e1) (ih e2)
    · cases e
theorem mem_newRefs {vs : List V} {ts : List Tok} {w : V} {d : D} {i : Nat} (h1 : vs[i]? = some w) (h2 : ts[i]? = some (.new d)) : w ∈ newRefs vs ts := by
  induction ts generalizing vs i with
  | nil => simp at h2
  | cons t ts ih =>
    cases vs with
    | nil => simp at h1
    | cons v vs =>
      cases i with
      | zero =>
        simp at h1 h2
        subst h1 h2
        exact List.mem_cons_self
      | succ i =>
        have := ih (by simpa using h1) (by simpa using h2)
        cases t with
        | new _ => exact List.mem_cons_of_mem _ this
        | val _ => exact this
        | slot _ => exact this
theorem AllTok.map {vs : List V} {ts : List Tok} {P : V → Tok → Prop} (h : AllTok κ U Hs env σ H vs ts) (hf : ∀ (i : Nat) w u, vs[i]? = some w → ts[i]? = some u → TokOk κ U Hs env σ H w u → TokOk κ U1 Hs env1 σ H w u) : AllTok κ U1 Hs env1 σ H vs ts := by
  induction h with
  | nil => exact .nil
  | cons a _ ih => exact .cons (hf 0 _ _ rfl rfl a) (ih fun i w u h1 h2 h3 => hf (i + 1) w u (by simpa using h1) (by simpa using h2) h3)
theorem keepAll_ok {U0 : AS} {env0 : Env} {σ0 : L2.St} {vs : List V} {ts : List Tok} {ds : List D} (I0 : Inv κ U0 env0 σ0 Hs) (s : Step U0 env0 σ0 Hs U env σ H) (I : Inv κ U env σ H) (ht : AllTok κ U Hs env σ H vs ts) (nd : (newRefs vs ts).Nodup) (h : keepAll ts env = some (ds, env2)) :
    ∃ U', Step U0 env0 σ0 Hs U' env2 σ H ∧ Inv κ U' env2 σ H ∧ RpA κ U' H vs ds ∧ ∀ b, U' b → U b := by
  induction ts generalizing vs env U ds with
  | nil => cases ht; cases h; exact ⟨U, s, I, .nil, fun _ z => z⟩
  | cons t ts ih =>
    cases ht with
    | cons a b =>
      rename_i v vs
      unfold keepAll at h
      split at h
      · rename_i d e1 h1
        split at h
        · rename_i ds' e2 h2
          cases h
          obtain ⟨U1, s1, I1, r1, sub, oth⟩ := keep_ok I0 s I a h1
          have b1 : AllTok κ U1 Hs e1 σ H vs ts := b.map (P := fun _ _ => True) fun i w u q1 q2 q3 => oth w u q3 fun ⟨d1, z1⟩ ⟨d2, z2⟩ z => by
            subst z1 z2 z
            exact (List.nodup_cons.mp nd).1 (mem_newRefs q1 q2)
          have nd1 : (newRefs vs ts).Nodup := by
            cases t with
            | new _ => exact (List.nodup_cons.mp nd).2
            | val _ => exact nd
            | slot _ => exact nd
          obtain ⟨U2, s2, I2, r2, sub2⟩ := ih s1 I1 b1 nd1 h2
          exact ⟨U2, s2, I2, .cons (r1.sub sub2) r2, fun b z => sub b (sub2 b z)⟩
        · cases h
      · cases h
theorem sa_nil : SA κ EW tNil fNil := fun U env σ H Q I q => q.ok I [] .nil (by simp [newRefs])
theorem newRefs_fresh {vs : List V} {ts : List Tok} {p : Addr} (h : AllTok κ U Hs env σ H vs ts) (m : V.ref p ∈ newRefs vs ts) : Hs p = none := by
  induction h with
  | nil => cases m
  | cons a _ ih =>
    rename_i t ts _
    cases t with
    | new d =>
      rcases List.mem_cons.mp m with e | m
      · obtain ⟨p', rfl, n, _⟩ := a
        cases e
        exact n
      · exact ih m
    | val d => exact ih m
    | slot j => exact ih m
theorem sa_cons (ha : SE κ EW ta fa) (hb : SA κ EW tas fas) : SA κ EW (tCons ta tas) (fCons fa fas) := by
  intro U env σ H Q I q
  refine ha U env σ H _ I (q.then.mono fun t e1 U1 H1 s1 I1 q1 x hx => ?_)
  refine hb U1 e1 σ H1 _ I1 ((q1.then.later I s1 I1).mono fun ts e2 U2 H2 s2 I2 q2 xs hxs nd => ?_)
  refine q2 U2 H2 (s1.trans I I1 s2) I2 (x :: xs) (.cons (hx.step I1 s2) (hxs.from s1.th)) ?_
  cases t with
  | new d =>
    refine List.nodup_cons.mpr ⟨fun z => ?_, nd⟩
    obtain ⟨p, rfl, _, _, _, m⟩ := hx
    exact m.there (newRefs_fresh hxs z)
  | val d => exact nd
  | slot j => exact nd
theorem se_cb {r : List V → Hp → VK → Prop} {f : List D → Option Tok} (h : CbS κ r f) (ha : SA κ EW tas fas) : SE κ EW (tCB r tas) (fCB f fas) := by
  intro U env σ H Q I q
  refine ha U env σ H _ I (q.then.mono fun ts e1 U1 H1 s1 I1 q1 xs hxs _ => ?_)
  unfold apN at q1
  split at q1
  · rename_i ds eu
    obtain ⟨tk, et, q3⟩ := Ask.lift q1 I s1 I1
    refine h U1 H1 xs ds tk Q (resAll_rb I1 hxs eu) I1.al et fun v H3 g w => ?_
    obtain ⟨U3, w1, w2⟩ := q3 v H3 g w
    exact w2 v w1
  · exact q1.elim
theorem RpA.plus {p : Addr} {o : HO} {xs : List V} {ds : List D} (h : RpA κ U H xs ds) (n : H p = none) : RpA κ (FL.plus U p) (upd H p o) xs ds :=
  h.imp fun b u nb e => ⟨fun z => z.elim nb fun w => (by rw [w, n] at e; cases e), by rw [upd_ne (ne_of_none e n)]; exact e⟩
theorem RpK.plus {p : Addr} {o : HO} {xs : List (Key × V)} {ds : List (Key × D)} (h : RpK κ U H xs ds) (n : H p = none) : RpK κ (FL.plus U p) (upd H p o) xs ds :=
  h.imp fun b u nb e => ⟨fun z => z.elim nb fun w => (by rw [w, n] at e; cases e), by rw [upd_ne (ne_of_none e n)]; exact e⟩
theorem Mo.newL {p : Addr} {xs : List V} {ds : List D} (h : RpA κ U H xs ds) (n : H p = none) : Mo κ U (upd H p (.lst xs)) p (.lst ds) := .lst upd_same (h.plus n)
theorem Mo.newK {p : Addr} {xs : List (Key × V)} {ds : List (Key × D)} (h : RpK κ U H xs ds) (n : H p = none) : Mo κ U (upd H p (.dK xs)) p (.dct ds) := .dct upd_same (h.plus n)
theorem Rp.newT {p : Addr} {xs : List V} {ds : List D} (al : Al U H) (h : RpA κ U H xs ds) (n : H p = none) : Rp κ U (upd H p (.tup xs)) (.ref p) (.tup ds) :=
  .tup (.heap (.inl upd_same) fun z => al p z n) ((h.plus n).sub plus_sub)
theorem se_tup (ha : SA κ EW tas fas) : SE κ EW (tTup tas) (fTup fas) := by
  intro U env σ H Q I q
  refine ha U env σ H _ I (q.then.mono fun ts e1 U1 H1 s1 I1 q1 xs hxs nd => ?_)
  unfold mkTup at q1
  split at q1
  · rename_i ds e2 ek
    obtain ⟨U2, s2, I2, r, _⟩ := keepAll_ok I s1 I1 hxs nd ek
    by_cases hl : ds.length ≤ 1000000
    · rw [if_pos hl] at q1
      refine ⟨by rw [r.len]; exact sz hl, fun p np => ?_⟩
      have g : Grow H1 (upd H1 p (.tup xs)) := .new np
      exact q1 U2 _ (s2.trans I I2 (.grown g)) (I2.grow g) _ (Rp.newT I2.al r np)
    · rw [if_neg hl] at q1; exact q1.elim
  · exact q1.elim
theorem se_lst (ha : SA κ EW tas fas) : SE κ EW (tLst tas) (fLst fas) := by
  intro U env σ H Q I q
  refine ha U env σ H _ I (q.then.mono fun ts e1 U1 H1 s1 I1 q1 xs hxs nd => ?_)
  unfold mkLst at q1
  split at q1
  · rename_i ds e2 ek
    obtain ⟨U2, s2, I2, r, _⟩ := keepAll_ok I s1 I1 hxs nd ek
    by_cases hl : ds.length ≤ 1000000
    · rw [if_pos hl] at q1
      refine ⟨by rw [r.len]; exact sz hl, fun p np => ?_⟩
      have g : Grow H1 (upd H1 p (.lst xs)) := .new np
      have m := Mo.newL r np
      exact q1 (plus U2 p) _ (s2.trans I I2 (.plus np g)) (I2.plus np g m.there) _ ⟨p, rfl, Classical.byContradiction fun z => s1.th p z np, .inr rfl, I2.fresh np, m.sub fun b z => z⟩
    · rw [if_neg hl] at q1; exact q1.elim
  · exact q1.elim
/-! ### truths -/
theorem asB_ask {U0 : AS} {env0 : Env} {t : Tok} {q : Bool → Env → AS → Hp → Prop} (h : Ask κ EW U0 env0 σ Hs (asB t env) q) (I : Inv κ U env σ H) (ht : TokOk κ U Hs env σ H v t) : ∃ b, v = .bl b ∧ Ask κ EW U0 env0 σ Hs (.ok b env) q := by
  unfold asB at h
  split at h
  · rename_i b e
    have := res_rb I ht e
    cases this
    exact ⟨b, rfl, h⟩
  · exact h.elim
theorem st_B (ha : SE κ EW ta fa) : ST κ EW (tB ta) (fB fa) := by
  intro U env σ H Q I q
  refine ha U env σ H _ I (q.then.mono fun t e1 U1 H1 s1 I1 q1 x hx => ?_)
  obtain ⟨b, rfl, w⟩ := asB_ask q1 I1 hx
  exact ⟨b, rfl, w U1 H1 s1 I1⟩
theorem st_test (ha : SE κ EW ta fa) : ST κ EW (tTest ta) (fB fa) := st_B ha
theorem st_not (h : ST κ EW tt ft) : ST κ EW (tNot tt) (fNot ft) := by
  intro U env σ H Q I q
  exact h U env σ H _ I (q.then.mono fun b e1 U1 H1 s1 I1 q1 => q1 U1 H1 s1 I1)
theorem st_and (h : ST κ EW tt ft) (h2 : ST κ EW tu fu) : ST κ EW (tAnd tt tu) (fAnd ft fu) := by
  intro U env σ H Q I q
  refine h U env σ H _ I (q.then.mono fun b e1 U1 H1 s1 I1 q1 => ?_)
  cases b with
  | true => exact h2 U1 e1 σ H1 Q I1 (q1.later I s1 I1)
  | false => exact q1 U1 H1 s1 I1
theorem st_or (h : ST κ EW tt ft) (h2 : ST κ EW tu fu) : ST κ EW (tOr tt tu) (fOr ft fu) := by
  intro U env σ H Q I q
  refine h U env σ H _ I (q.then.mono fun b e1 U1 H1 s1 I1 q1 => ?_)
  cases b with
  | true => exact q1 U1 H1 s1 I1
  | false => exact h2 U1 e1 σ H1 Q I1 (q1.later I s1 I1)
theorem st_yes : ST κ EW tYes fYes := fun U env σ H Q I q => q.ok I
theorem se_notV (h : SE κ EW ta fa) : SE κ EW (tNotV ta) (fNotV fa) := by
  intro U env σ H Q I q
  refine h U env σ H _ I (q.then.mono fun t e1 U1 H1 s1 I1 q1 x hx => ?_)
  obtain ⟨b, rfl, w⟩ := asB_ask q1.then I1 hx
  exact ⟨b, rfl, (w U1 H1 s1 I1) U1 H1 s1 I1 _ (.bl _)⟩
/-- the value of a later part -/
theorem Ask.tok {r : Res Tok} {Q : VK} (h : Ask κ EW U env σ H r (fun tok env' U' H' => ∀ v, TokOk κ U' H env' σ H' v tok → Q v H')) (I : Inv κ U env σ H) (s1 : Step U env σ H U1 env1 σ H1) (I1 : Inv κ U1 env1 σ H1) :
    Ask κ EW U1 env1 σ H1 r (fun tok env' U' H' => ∀ v, TokOk κ U' H1 env' σ H' v tok → Q v H') :=
  (h.later I s1 I1).mono fun _ _ _ _ _ _ w v hv => w v (hv.from s1.th)
theorem se_andV (h : SE κ EW ta fa) (h2 : SE κ EW tb fb) : SE κ EW (tAndV ta tb) (fAndV fa fb) := by
  intro U env σ H Q I q
  refine h U env σ H _ I (q.then.mono fun t e1 U1 H1 s1 I1 q1 x hx => ?_)
  obtain ⟨b, rfl, w⟩ := asB_ask q1.then I1 hx
  refine ⟨b, rfl, ?_⟩
  have w := w U1 H1 s1 I1
  cases b with
  | true => exact h2 U1 e1 σ H1 Q I1 (w.tok I s1 I1)
  | false => exact w U1 H1 s1 I1 _ (.bl _)
theorem se_orV (h : SE κ EW ta fa) (h2 : SE κ EW tb fb) : SE κ EW (tOrV ta tb) (fOrV fa fb) := by
  intro U env σ H Q I q
  refine h U env σ H _ I (q.then.mono fun t e1 U1 H1 s1 I1 q1 x hx => ?_)
  obtain ⟨b, rfl, w⟩ := asB_ask q1.then I1 hx
  refine ⟨b, rfl, ?_⟩
  have w := w U1 H1 s1 I1
  cases b with
  | false => exact h2 U1 e1 σ H1 Q I1 (w.tok I s1 I1)
  | true => exact w U1 H1 s1 I1 _ (.bl _)
theorem se_if (hc : ST κ EW tt ft) (h : SE κ EW ta fa) (h2 : SE κ EW tb fb) : SE κ EW (tIf tt ta tb) (fIf ft fa fb) := by
  intro U env σ H Q I q
  refine hc U env σ H _ I (q.then.mono fun b e1 U1 H1 s1 I1 q1 => ?_)
  cases b with
  | true => exact h U1 e1 σ H1 Q I1 (q1.tok I s1 I1)
  | false => exact h2 U1 e1 σ H1 Q I1 (q1.tok I s1 I1)
theorem so_none : SO κ EW tNoPart (fOpt none) := fun U env σ H Q I q => q.ok I
theorem so_some (h : SE κ EW te fe) : SO κ EW (tPart te) (fOpt (some fe)) := by
  intro U env σ H Q I q
  have q : Ask κ EW U env σ H ((fe env).bind fun t e1 => match res t e1 with | some (.int i) => .ok (some i) e1 | _ => .bad) _ := q
  refine h U env σ H _ I (q.then.mono fun t e1 U1 H1 s1 I1 q1 x hx => ?_)
  split at q1
  · rename_i i e
    have := res_rb I1 hx e
    cases this
    exact ⟨i, rfl, q1 U1 H1 s1 I1⟩
  · exact q1.elim
theorem se_sl {r : V → Option Int → Option Int → Hp → VK → Prop} {f : D → Option Int → Option Int → Option Tok} {tl th : TO} {fl fh : Option Ev} (h : SlS κ r f) (ha : SE κ EW ta fa) (hl : SO κ EW tl (fOpt fl)) (hh : SO κ EW th (fOpt fh)) : SE κ EW (tSl r ta tl th) (fSl f fa fl fh) := by
  intro U env σ H Q I q
  refine ha U env σ H _ I (q.then.mono fun t e1 U1 H1 s1 I1 q1 x hx => ?_)
  refine hl U1 e1 σ H1 _ I1 ((q1.then.later I s1 I1).mono fun lo e2 U2 H2 s2 I2 q2 => ?_)
  have s12 := s1.trans I I1 s2
  refine hh U2 e2 σ H2 _ I2 ((q2.then.later I s12 I2).mono fun hi e3 U3 H3 s3 I3 q3 => ?_)
  have s23 := s2.trans I1 I2 s3
  unfold ap3 at q3
  split at q3
  · rename_i d eu
    obtain ⟨tk, et, q4⟩ := Ask.lift q3 I (s12.trans I I2 s3) I3
    refine h U3 H3 x d lo hi tk Q (res_rb I3 (hx.step I1 s23) eu) I3.al et fun v H4 g w => ?_
    obtain ⟨U4, w1, w2⟩ := q4 v H4 g w
    exact w2 v w1
  · exact q3.elim
end
end FL

set_option Elab.async false
set_option linter.all false
set_option maxRecDepth 100000
set_option maxHeartbeats 4000000
set_option exponentiation.threshold 100000
/-! F4: statements, targets, loops. -/
namespace FL
open PySem PySem.Spec PyProof.Rows L2 GL
inductive Sr where
  | nx (e : Env)
  | bk (e : Env)
  | ct (e : Env)
  | rt (t : Tok) (e : Env)
  | err (x : Exn) (e : Env)
  | bad
abbrev Sf := Env → Sr
def Res.toS {α : Type} (r : Res α) (k : α → Env → Sr) : Sr := match r with
  | .ok a e => k a e
  | .err x e => .err x e
  | .bad => .bad
@[simp] theorem Res.toS_ok {α : Type} {a : α} {e : Env} {k : α → Env → Sr} : (Res.ok a e).toS k = k a e := rfl
@[simp] theorem Res.toS_err {α : Type} {x : Exn} {e : Env} {k : α → Env → Sr} : (Res.err x e).toS k = .err x e := rfl
@[simp] theorem Res.toS_bad {α : Type} {k : α → Env → Sr} : (Res.bad).toS k = .bad := rfl
def AskS (κ : Kx) (EW : WX) (U : AS) (env : Env) (σ : L2.St) (H : Hp) (r : Sr) (D : Ends) : Prop := match r with
  | .nx env' => ∀ U' σ' H', Step U env σ H U' env' σ' H' → Inv κ U' env' σ' H' → D.nx σ' H'
  | .bk env' => ∀ U' σ' H', Step U env σ H U' env' σ' H' → Inv κ U' env' σ' H' → D.bk σ' H'
  | .ct env' => ∀ U' σ' H', Step U env σ H U' env' σ' H' → Inv κ U' env' σ' H' → D.ct σ' H'
  | .rt t env' => ∀ U' σ' H' v, Step U env σ H U' env' σ' H' → Inv κ U' env' σ' H' → TokOk κ U' H env' σ' H' v t → D.rt v H'
  | .err x env' => ∀ c d U' σ' H', Step U env σ H U' env' σ' H' → Inv κ U' env' σ' H' → ExOk κ U' H' c d x → EW c d σ' H'
  | .bad => False
def SS (κ : Kx) (EW : WX) (t : TS) (f : Sf) : Prop := ∀ (U : AS) (env : Env) (σ : L2.St) (H : Hp) (D : Ends), Inv κ U env σ H → AskS κ EW U env σ H (f env) D → t D σ H
/-- the slots are the same but at vs -/
structure Agr (vs : List Nat) (σ σ' : L2.St) : Prop where
  at' : ∀ k, k ∉ vs → σ'[k]? = σ[k]?
  len : σ'.length = σ.length
theorem Agr.refl {vs : List Nat} {σ : L2.St} : Agr vs σ σ := ⟨fun _ _ => rfl, rfl⟩
theorem Agr.trans {vs : List Nat} {σ σ1 σ2 : L2.St} (a : Agr vs σ σ1) (b : Agr vs σ1 σ2) : Agr vs σ σ2 := ⟨fun k n => (b.at' k n).trans (a.at' k n), b.len.trans a.len⟩
/-- what a store asks -/
def AskG (κ : Kx) (U0 : AS) (env0 : Env) (σ0 : L2.St) (Hs : Hp) (vs : List Nat) (σ : L2.St) (o : Option Env) (Q : L2.St → Hp → Prop) : Prop := match o with
  | some env' => ∀ U' σ' H', Step U0 env0 σ0 Hs U' env' σ' H' → Inv κ U' env' σ' H' → Agr vs σ σ' → Q σ' H'
  | none => False
abbrev Gf := Tok → Env → Option Env
def SG (κ : Kx) (g : TG) (G : Gf) (vs : List Nat) : Prop := ∀ (U0 : AS) (env0 : Env) (σ0 : L2.St) (Hs : Hp) (U : AS) (env : Env) (σ : L2.St) (H : Hp) (v : V) (t : Tok) (Q : L2.St → Hp → Prop),
  Inv κ U0 env0 σ0 Hs → Step U0 env0 σ0 Hs U env σ H → Inv κ U env σ H → TokOk κ U Hs env σ H v t → AskG κ U0 env0 σ0 Hs vs σ (G t env) Q → g v σ H Q
/-! ### functions -/
def fNext : Sf := fun env => .nx env
def fSeq (f g : Sf) : Sf := fun env => match f env with
  | .nx e => g e
  | r => r
def fBreak : Sf := fun env => .bk env
def fCont : Sf := fun env => .ct env
def fDrop (fe : Ev) : Sf := fun env => (fe env).toS fun _ e => .nx e
def fRet (fe : Ev) : Sf := fun env => (fe env).toS fun t e => .rt t e
def fRetN : Sf := fun env => .rt (.val .non) env
def fIfS (c : Et) (f g : Sf) : Sf := fun env => (c env).toS fun b e => if b = true then f e else g e
def fNever : Sf := fun _ => .bad
def optS (o : Option Env) : Sr := match o with
  | some e => .nx e
  | none => .bad
@[simp] theorem optS_some {e : Env} : optS (some e) = .nx e := rfl
@[simp] theorem optS_none : optS none = .bad := rfl
def fAsg (fe : Ev) (G : Gf) : Sf := fun env => (fe env).toS fun t e => optS (G t e)
/-- a slot that may be stored to -/
def free? (i : Nat) (env : Env) : Bool := match env[i]? with
  | some none => true
  | some (some (.frz _)) => true
  | some (some (.own _)) => true
  | _ => false
def Gname (i : Nat) : Gf := fun t env => if free? i env = true then (match t with
  | .new d => some (env.set i (some (.own d)))
  | t => match keepT t env with
    | some (d, e1) => some (e1.set i (some (.frz d)))
    | none => none) else none
def Gall : List Gf → List D → Env → Option Env
  | [], [], env => some env
  | g :: gs, d :: ds, env => match g (.val d) env with
    | some e1 => Gall gs ds e1
    | none => none
  | _, _, _ => none
def Gtup (gs : List Gf) : Gf := fun t env => match res t env with
  | some (.tup ds) => Gall gs ds env
  | _ => none
/-- the object of a slot is frozen first -/
def normT (t : Tok) (env : Env) : Option (Tok × Env) := match t with
  | .slot j => match keepT (.slot j) env with
    | some (d, e1) => some (.val d, e1)
    | none => none
  | t => some (t, env)
@[simp] theorem normT_val {d : D} {env : Env} : normT (.val d) env = some (.val d, env) := rfl
@[simp] theorem normT_new {d : D} {env : Env} : normT (.new d) env = some (.new d, env) := rfl
def normAll : List Tok → Env → Option (List Tok × Env)
  | [], env => some ([], env)
  | t :: ts, env => match normT t env with
    | some (t', e1) => match normAll ts e1 with
      | some (ts', e2) => some (t' :: ts', e2)
      | none => none
    | none => none
def stores : List Nat → List Tok → Env → Option Env
  | [], [], env => some env
  | i :: is, t :: ts, env => match Gname i t env with
    | some e1 => stores is ts e1
    | none => none
  | _, _, _ => none
def parS (is : List Nat) (o : Option (List Tok × Env)) : Sr := match o with
  | some (ts, e) => optS (stores is ts e)
  | none => .bad
def fPar (is : List Nat) (fa : Ea) : Sf := fun env => (fa env).toS fun ts e => parS is (normAll ts e)
section
variable {κ : Kx} {EW : WX} {U U0 U1 U2 : AS} {env env0 env1 env2 : Env} {σ σ0 σ1 σ2 : L2.St} {H H1 H2 Hs : Hp} {v : V} {ta tb te : TE} {fa fb fe : Ev} {tt tu : TT} {ft fu : Et} {tas : TA} {fas : Ea} {ts us : TS} {fs gs : Sf} {D : Ends}
theorem TokOk.fromS {t : Tok} (th : ∀ b, H b ≠ none → H1 b ≠ none) (h : TokOk κ U2 H1 env2 σ H2 v t) : TokOk κ U2 H env2 σ H2 v t := h.from th
theorem AskS.later {r : Sr} (h : AskS κ EW U env σ H r D) (I : Inv κ U env σ H) (s1 : Step U env σ H U1 env1 σ1 H1) (I1 : Inv κ U1 env1 σ1 H1) : AskS κ EW U1 env1 σ1 H1 r D := by
  cases r with
  | nx e => exact fun U2 σ2 H2 s2 I2 => h U2 σ2 H2 (s1.trans I I1 s2) I2
  | bk e => exact fun U2 σ2 H2 s2 I2 => h U2 σ2 H2 (s1.trans I I1 s2) I2
  | ct e => exact fun U2 σ2 H2 s2 I2 => h U2 σ2 H2 (s1.trans I I1 s2) I2
  | rt t e => exact fun U2 σ2 H2 v s2 I2 w => h U2 σ2 H2 v (s1.trans I I1 s2) I2 (w.from s1.th)
  | err x e => exact fun c d U2 σ2 H2 s2 I2 w => h c d U2 σ2 H2 (s1.trans I I1 s2) I2 w
  | bad => exact h
/-- from a statement to its expression -/
theorem AskS.expr {α : Type} {r : Res α} {k : α → Env → Sr} (h : AskS κ EW U env σ H (r.toS k) D) : Ask κ EW U env σ H r fun a env1 _ _ => AskS κ EW U env σ H (k a env1) D := by
  cases r with
  | ok a e => exact fun _ _ _ _ => h
  | err x e => exact fun c d U' H' s I w => h c d U' σ H' s I w
  | bad => exact h
/-- .. from a later place -/
theorem AskS.exprL {α : Type} {r : Res α} {k : α → Env → Sr} (h : AskS κ EW U env σ H (r.toS k) D) (I : Inv κ U env σ H) (s1 : Step U env σ H U1 env1 σ1 H1) (I1 : Inv κ U1 env1 σ1 H1) : Ask κ EW U1 env1 σ1 H1 r fun a env2 _ _ => AskS κ EW U env σ H (k a env2) D := by
  cases r with
  | ok a e => exact fun _ _ _ _ => h
  | err x e => exact fun c d U' H' s I' w => h c d U' σ1 H' (s1.trans I I1 s) I' w
  | bad => exact h
theorem AskG.of_optS {vs : List Nat} {o : Option Env} (h : AskS κ EW U env σ H (optS o) D) : AskG κ U env σ H vs σ1 o D.nx := by
  cases o with
  | none => exact h
  | some e => exact fun U' σ' H' s I _ => h U' σ' H' s I
theorem ss_next : SS κ EW tNext fNext := fun U env σ H D I q => q U σ H .refl I
theorem ss_break : SS κ EW tBreak fBreak := fun U env σ H D I q => q U σ H .refl I
theorem ss_cont : SS κ EW tCont fCont := fun U env σ H D I q => q U σ H .refl I
theorem ss_never : SS κ EW tNever fNever := fun U env σ H D I q => q
theorem ss_seq (h : SS κ EW ts fs) (h2 : SS κ EW us gs) : SS κ EW (tSeq ts us) (fSeq fs gs) := by
  intro U env σ H D I q
  refine h U env σ H _ I ?_
  unfold fSeq at q
  cases e : fs env with
  | nx e1 =>
    rw [e] at q
    intro U1 σ1 H1 s1 I1
    exact h2 U1 e1 σ1 H1 D I1 (AskS.later q I s1 I1)
  | bk e1 => rw [e] at q; exact q
  | ct e1 => rw [e] at q; exact q
  | rt t e1 => rw [e] at q; exact q
  | err x e1 => rw [e] at q; exact q
  | bad => rw [e] at q; exact q
theorem ss_drop (h : SE κ EW te fe) : SS κ EW (tDrop te) (fDrop fe) := fun U env σ H D I q =>
  h U env σ H _ I (q.expr.mono fun t e1 U1 H1 s1 I1 q1 x _ => q1 U1 σ H1 s1 I1)
theorem ss_ret (h : SE κ EW te fe) : SS κ EW (tRet te) (fRet fe) := fun U env σ H D I q =>
  h U env σ H _ I (q.expr.mono fun t e1 U1 H1 s1 I1 q1 x hx => q1 U1 σ H1 x s1 I1 hx)
theorem ss_retN : SS κ EW tRetN fRetN := fun U env σ H D I q => q U σ H .non .refl I .non
theorem ss_if (hc : ST κ EW tt ft) (h : SS κ EW ts fs) (h2 : SS κ EW us gs) : SS κ EW (tIfS tt ts us) (fIfS ft fs gs) := by
  intro U env σ H D I q
  refine hc U env σ H _ I (q.expr.mono fun b e1 U1 H1 s1 I1 q1 => ?_)
  cases b with
  | true => exact h U1 e1 σ H1 D I1 (q1.later I s1 I1)
  | false => exact h2 U1 e1 σ H1 D I1 (q1.later I s1 I1)
theorem ss_asg {g : TG} {G : Gf} {vs : List Nat} (h : SE κ EW te fe) (hg : SG κ g G vs) : SS κ EW (tAsg te g) (fAsg fe G) := fun U env σ H D I q =>
  h U env σ H _ I (q.expr.mono fun t e1 U1 H1 s1 I1 q1 x hx => hg U env σ H U1 e1 σ H1 x t _ I s1 I1 hx (AskG.of_optS q1))
/-! ### stores -/
theorem getset2 {l : List (Option Ent)} {i j : Nat} {e e' : Ent} (h : (l.set i (some e))[j]? = some (some e')) : (j = i ∧ e' = e) ∨ (j ≠ i ∧ l[j]? = some (some e')) := by
  rcases getset h with ⟨h1, _, h2⟩ | h
  · cases h2; exact .inl ⟨h1, rfl⟩
  · exact .inr h
theorem free_not {i : Nat} (h : free? i env = true) : (∀ d, env[i]? ≠ some (some (.par d))) ∧ (∀ p d, env[i]? ≠ some (some (.lok p d))) ∧ i < env.length := by
  unfold free? at h
  refine ⟨fun d z => ?_, fun p d z => ?_, ?_⟩
  · rw [z] at h; cases h
  · rw [z] at h; cases h
  · by_cases hl : i < env.length
    · exact hl
    · rw [List.getElem?_eq_none (by omega)] at h; cases h
theorem set_self {σ : L2.St} {i : Nat} (h : i < σ.length) (x : Option V) : (σ.set i x)[i]? = some x := by
  rw [List.getElem?_set_self h]
/-- a frozen value is stored -/
theorem store_frz {i : Nat} {d : FL.D} (I : Inv κ U env σ H) (hf : free? i env = true) (r : Rp κ U H v d) :
    Step U env σ H U (env.set i (some (.frz d))) (σ.set i (some v)) H ∧ Inv κ U (env.set i (some (.frz d))) (σ.set i (some v)) H := by
  obtain ⟨np, nl, hl⟩ := free_not hf
  have hls : i < σ.length := I.len ▸ hl
  have ow : ∀ b, OwnOf (env.set i (some (.frz d))) (σ.set i (some v)) b → OwnOf env σ b := by
    rintro b ⟨k, e, q1, q2, q3⟩
    rcases getset2 q1 with ⟨_, rfl⟩ | ⟨n, q⟩
    · cases q2
    · rw [List.getElem?_set_ne (fun z => n z.symm)] at q3
      exact ⟨k, e, q, q2, q3⟩
  have mu : ∀ b, MutOf (env.set i (some (.frz d))) (σ.set i (some v)) b → MutOf env σ b := by
    rintro b ⟨k, e, q1, q2, q3⟩
    rcases getset2 q1 with ⟨_, rfl⟩ | ⟨n, q⟩
    · cases q2
    · rw [List.getElem?_set_ne (fun z => n z.symm)] at q3
      exact ⟨k, e, q, q2, q3⟩
  refine ⟨⟨fun _ _ _ e => e, fun _ h => h, fun b h => .inl (mu b h), fun b h => .inl (ow b h), fun _ h => .inl h, fun _ h => .inl h, fun k d2 q => ?_, fun k p d2 q => ?_⟩, ⟨by simp [I.len], I.al, fun k e q => ?_, fun k m e f a q1 q2 n o1 o2 => ?_⟩⟩
  · have hk : i ≠ k := by rintro rfl; exact np _ q
    exact ⟨by rw [List.getElem?_set_ne hk], d2, by rw [List.getElem?_set_ne hk]; exact q⟩
  · have hk : i ≠ k := by rintro rfl; exact nl _ _ q
    exact ⟨by rw [List.getElem?_set_ne hk], by rw [List.getElem?_set_ne hk]; exact q⟩
  · rcases getset2 q with ⟨rfl, rfl⟩ | ⟨n, q⟩
    · exact ⟨v, set_self hls _, r⟩
    · rw [List.getElem?_set_ne (fun z => n z.symm)]
      exact I.at' k e q
  · rcases getset2 q1 with ⟨rfl, rfl⟩ | ⟨n1, q1⟩
    · cases o1
    · rcases getset2 q2 with ⟨rfl, rfl⟩ | ⟨n2, q2⟩
      · cases o2
      · rw [List.getElem?_set_ne (fun z => n1 z.symm), List.getElem?_set_ne (fun z => n2 z.symm)]
        exact I.sep k m e f a q1 q2 n o1 o2
/-- a new object is stored -/
theorem store_own {i : Nat} {d : FL.D} {p : Addr} (I0 : Inv κ U0 env0 σ0 Hs) (s : Step U0 env0 σ0 Hs U env σ H) (I : Inv κ U env σ H) (hf : free? i env = true) (n : Hs p = none) (u : U p) (no : ¬ OwnOf env σ p) (m : Mo κ U H p d) :
    Step U0 env0 σ0 Hs U (env.set i (some (.own d))) (σ.set i (some (.ref p))) H ∧ Inv κ U (env.set i (some (.own d))) (σ.set i (some (.ref p))) H := by
  obtain ⟨np, nl, hl⟩ := free_not hf
  have hls : i < σ.length := I.len ▸ hl
  have ow : ∀ b, OwnOf (env.set i (some (.own d))) (σ.set i (some (.ref p))) b → OwnOf env σ b ∨ b = p := by
    rintro b ⟨k, e, q1, q2, q3⟩
    rcases getset2 q1 with ⟨rfl, rfl⟩ | ⟨n, q⟩
    · rw [set_self hls] at q3; cases q3; exact .inr rfl
    · rw [List.getElem?_set_ne (fun z => n z.symm)] at q3
      exact .inl ⟨k, e, q, q2, q3⟩
  have mu : ∀ b, MutOf (env.set i (some (.own d))) (σ.set i (some (.ref p))) b → MutOf env σ b ∨ b = p := by
    rintro b ⟨k, e, q1, q2, q3⟩
    rcases getset2 q1 with ⟨rfl, rfl⟩ | ⟨n, q⟩
    · rw [set_self hls] at q3; cases q3; exact .inr rfl
    · rw [List.getElem?_set_ne (fun z => n z.symm)] at q3
      exact .inl ⟨k, e, q, q2, q3⟩
  refine ⟨⟨s.keep, s.th, fun b h => ?_, fun b h => ?_, s.ug, s.un, fun k d2 q => ?_, fun k p2 d2 q => ?_⟩, ⟨by simp [I.len], I.al, fun k e q => ?_, fun k l e f a q1 q2 n o1 o2 q3 => ?_⟩⟩
  · rcases mu b h with h | rfl
    · exact s.grow b h
    · exact .inr n
  · rcases ow b h with h | rfl
    · exact s.growO b h
    · exact .inr n
  · obtain ⟨e1, d3, e2⟩ := s.par k d2 q
    have hk : i ≠ k := by rintro rfl; exact np _ e2
    exact ⟨by rw [List.getElem?_set_ne hk]; exact e1, d3, by rw [List.getElem?_set_ne hk]; exact e2⟩
  · obtain ⟨e1, e2⟩ := s.lok k p2 d2 q
    have hk : i ≠ k := by rintro rfl; exact nl _ _ e2
    exact ⟨by rw [List.getElem?_set_ne hk]; exact e1, by rw [List.getElem?_set_ne hk]; exact e2⟩
  · rcases getset2 q with ⟨rfl, rfl⟩ | ⟨n, q⟩
    · exact ⟨.ref p, set_self hls _, p, rfl, u, m⟩
    · rw [List.getElem?_set_ne (fun z => n z.symm)]
      exact I.at' k e q
  · rcases getset2 q1 with ⟨rfl, rfl⟩ | ⟨n1, q1'⟩
    · rw [set_self hls] at q3
      cases q3
      rcases getset2 q2 with ⟨rfl, rfl⟩ | ⟨n2, q2⟩
      · exact absurd rfl n
      · rw [List.getElem?_set_ne (fun z => n2 z.symm)]
        exact fun z => no ⟨l, f, q2, o2, z⟩
    · rw [List.getElem?_set_ne (fun z => n1 z.symm)] at q3
      rcases getset2 q2 with ⟨rfl, rfl⟩ | ⟨n2, q2⟩
      · rw [set_self hls]
        intro z
        cases z
        exact no ⟨k, e, q1', o1, q3⟩
      · rw [List.getElem?_set_ne (fun z => n2 z.symm)]
        exact I.sep k l e f a q1' q2 n o1 o2 q3
theorem free_keep {t : Tok} {i : Nat} {d : FL.D} (h : keepT t env = some (d, env1)) (hf : free? i env = true) : free? i env1 = true := by
  cases t with
  | val x => cases h; exact hf
  | new x => cases h; exact hf
  | slot j =>
    have e : keepT (.slot j) env = match env[j]? with
      | some (some (.own d)) => some (d, env.set j (some (.frz d)))
      | some (some (.frz d)) => some (d, env)
      | _ => none := rfl
    rw [e] at h
    split at h
    · rename_i d' h1
      cases h
      by_cases hij : j = i
      · subst hij
        unfold free?
        rw [List.getElem?_set_self (List.getElem?_eq_some_iff.mp h1).1]
      · unfold free? at hf ⊢
        rw [List.getElem?_set_ne hij]
        exact hf
    · cases h; exact hf
    · cases h
theorem agr_set {i : Nat} {x : Option V} : Agr [i] σ (σ.set i x) := ⟨fun k n => by rw [List.getElem?_set_ne]; rintro rfl; exact n List.mem_cons_self, by simp⟩
theorem sg_name {i : Nat} : SG κ (gName i) (Gname i) [i] := by
  intro U0 env0 σ0 Hs U env σ H v t Q I0 s I ht q
  unfold Gname at q
  by_cases hf : free? i env = true
  · rw [if_pos hf] at q
    cases t with
    | new d =>
      obtain ⟨p, rfl, n, u, no, m⟩ := ht
      obtain ⟨s1, I1⟩ := store_own I0 s I hf n u no m
      exact q U _ H s1 I1 agr_set
    | val d =>
      obtain ⟨s1, I1⟩ := store_frz I hf ht
      exact q U _ H (s.trans I0 I s1) I1 agr_set
    | slot j =>
      have q : AskG κ U0 env0 σ0 Hs [i] σ (match keepT (.slot j) env with | some (d, e1) => some (e1.set i (some (.frz d))) | none => none) Q := q
      cases hk : keepT (.slot j) env with
      | none => rw [hk] at q; exact q.elim
      | some de =>
        obtain ⟨d, e1⟩ := de
        rw [hk] at q
        obtain ⟨U', s1, I1, r, _, _⟩ := keep_ok I0 s I ht hk
        obtain ⟨s2, I2⟩ := store_frz I1 (free_keep hk hf) r
        exact q U' _ H (s1.trans I0 I1 s2) I2 agr_set
  · rw [if_neg hf] at q; exact q.elim
def SGs (κ : Kx) (g : TGs) (G : List Gf) (ws : List Nat) : Prop := ∀ (U0 : AS) (env0 : Env) (σ0 : L2.St) (Hs : Hp) (U : AS) (env : Env) (σ : L2.St) (H : Hp) (vs : List V) (ds : List FL.D) (Q : L2.St → Hp → Prop),
  Inv κ U0 env0 σ0 Hs → Step U0 env0 σ0 Hs U env σ H → Inv κ U env σ H → RpA κ U H vs ds → AskG κ U0 env0 σ0 Hs ws σ (Gall G ds env) Q → g vs σ H Q
theorem sgs_nil : SGs κ gNil [] [] := by
  intro U0 env0 σ0 Hs U env σ H vs ds Q I0 s I r q
  cases r with
  | nil => exact ⟨rfl, q U σ H s I .refl⟩
  | cons a b => exact q.elim
theorem Agr.mono {vs ws : List Nat} (a : Agr vs σ σ1) (h : ∀ k ∈ vs, k ∈ ws) : Agr ws σ σ1 := ⟨fun k n => a.at' k fun z => n (h k z), a.len⟩
theorem sgs_cons {t : TG} {u : TGs} {G : Gf} {Gs : List Gf} {us ws : List Nat} (h : SG κ t G us) (h2 : SGs κ u Gs ws) : SGs κ (gCons t u) (G :: Gs) (us ++ ws) := by
  intro U0 env0 σ0 Hs U env σ H vs ds Q I0 s I r q
  cases r with
  | nil => exact q.elim
  | cons a b =>
    rename_i w ws' d ds
    refine ⟨w, ws', rfl, ?_⟩
    unfold Gall at q
    refine h U env σ H U env σ H w (.val d) _ I .refl I a ?_
    cases e : G (.val d) env with
    | none => rw [e] at q; exact q.elim
    | some e1 =>
      rw [e] at q
      intro U1 σ1 H1 s1 I1 a1
      refine h2 U0 env0 σ0 Hs U1 e1 σ1 H1 _ ds Q I0 (s.trans I0 I s1) I1 (b.imp (s1.kp I)) ?_
      have q : AskG κ U0 env0 σ0 Hs (us ++ ws) σ (Gall Gs ds e1) Q := q
      cases e2 : Gall Gs ds e1 with
      | none => rw [e2] at q; exact q
      | some e3 => rw [e2] at q; exact fun U' σ' H' s' I' a' => q U' σ' H' s' I' ((a1.mono fun k z => List.mem_append_left _ z).trans (a'.mono fun k z => List.mem_append_right _ z))
theorem Gall_len {Gs : List Gf} {ds : List FL.D} (h : Gall Gs ds env = some env1) : ds.length = Gs.length := by
  induction Gs generalizing ds env with
  | nil => cases ds with | nil => rfl | cons => cases h
  | cons g gs ih =>
    cases ds with
    | nil => cases h
    | cons d ds =>
      unfold Gall at h
      split at h
      · simp [ih h]
      · cases h
theorem sg_tup {t : TGs} {Gs : List Gf} {ws : List Nat} (h : SGs κ t Gs ws) : SG κ (gTup κ.K Gs.length t) (Gtup Gs) ws := by
  intro U0 env0 σ0 Hs U env σ H v tk Q I0 s I ht q
  unfold Gtup at q
  split at q
  · rename_i ds e
    have r := res_rb I ht e
    cases r with
    | tup hs r =>
      rename_i a xs
      refine ⟨a, xs, rfl, hs.sq, ?_, h U0 env0 σ0 Hs U env σ H xs ds Q I0 s I r q⟩
      rw [r.len]
      cases e2 : Gall Gs ds env with
      | none => rw [e2] at q; exact q.elim
      | some e3 => exact Gall_len e2
  · exact q.elim
def noSlot : Tok → Bool
  | .slot _ => false
  | _ => true
theorem norm_ok {t t' : Tok} (I0 : Inv κ U0 env0 σ0 Hs) (s : Step U0 env0 σ0 Hs U env σ H) (I : Inv κ U env σ H) (ht : TokOk κ U Hs env σ H v t) (h : normT t env = some (t', env1)) :
    ∃ U', Step U0 env0 σ0 Hs U' env1 σ H ∧ Inv κ U' env1 σ H ∧ TokOk κ U' Hs env1 σ H v t' ∧ noSlot t' = true ∧ (∀ d, t' = .new d ↔ t = .new d) ∧ (∀ w u, TokOk κ U Hs env σ H w u → TokOk κ U' Hs env1 σ H w u) := by
  cases t with
  | val x => cases h; exact ⟨U, s, I, ht, rfl, fun d => Iff.rfl, fun w u hu => hu⟩
  | new x => cases h; exact ⟨U, s, I, ht, rfl, fun d => Iff.rfl, fun w u hu => hu⟩
  | slot j =>
    have h : (match keepT (.slot j) env with | some (d, e1) => some (Tok.val d, e1) | none => none) = some (t', env1) := h
    split at h
    · rename_i d e1 hk
      cases h
      obtain ⟨U', s1, I1, r, _, oth⟩ := keep_ok I0 s I ht hk
      exact ⟨U', s1, I1, r, rfl, fun d => ⟨(fun z => nomatch z), (fun z => nomatch z)⟩, fun w u hu => oth w u hu fun _ ⟨_, z⟩ => (nomatch z)⟩
    · cases h
theorem normAll_ok {vs : List V} {ts ts' : List Tok} (I0 : Inv κ U0 env0 σ0 Hs) (s : Step U0 env0 σ0 Hs U env σ H) (I : Inv κ U env σ H) (ht : AllTok κ U Hs env σ H vs ts) (nd : (newRefs vs ts).Nodup) (h : normAll ts env = some (ts', env2)) :
    ∃ U', Step U0 env0 σ0 Hs U' env2 σ H ∧ Inv κ U' env2 σ H ∧ AllTok κ U' Hs env2 σ H vs ts' ∧ newRefs vs ts' = newRefs vs ts ∧ (∀ t ∈ ts', noSlot t = true) ∧ ∀ w u, TokOk κ U Hs env σ H w u → TokOk κ U' Hs env2 σ H w u := by
  induction ts generalizing vs env U ts' with
  | nil => cases ht; cases h; exact ⟨U, s, I, .nil, rfl, (fun _ z => nomatch z), fun _ _ z => z⟩
  | cons t ts ih =>
    cases ht with
    | cons a b =>
      rename_i v vs
      unfold normAll at h
      split at h
      · rename_i t1 e1 h1
        split at h
        · rename_i ts2 e2 h2
          cases h
          obtain ⟨U1, s1, I1, r1, ns, nw, oth⟩ := norm_ok I0 s I a h1
          have nd1 : (newRefs vs ts).Nodup := by
            cases t with
            | new _ => exact (List.nodup_cons.mp nd).2
            | val _ => exact nd
            | slot _ => exact nd
          obtain ⟨U2, s2, I2, r2, e, ns2, oth2⟩ := ih s1 I1 (b.map (P := fun _ _ => True) fun i w u _ _ q => oth w u q) nd1 h2
          refine ⟨U2, s2, I2, .cons (oth2 _ _ r1) r2, ?_, fun t z => ?_, fun w u q => oth2 w u (oth w u q)⟩
          · cases t with
            | new d => rw [(nw d).mpr rfl]; show _ :: _ = _ :: _; rw [e]
            | val d =>
              cases t1 with
              | new d' => exact nomatch (nw d').mp rfl
              | val _ => exact e
              | slot _ => exact e
            | slot j =>
              cases t1 with
              | new d' => exact nomatch (nw d').mp rfl
              | val _ => exact e
              | slot _ => exact e
          · rcases List.mem_cons.mp z with rfl | z
            · exact ns
            · exact ns2 t z
        · cases h
      · cases h
def setAll : List Nat → List V → L2.St → L2.St
  | i :: is, v :: vs, σ => setAll is vs (σ.set i (some v))
  | _, _, σ => σ
theorem store_ok {i : Nat} {t : Tok} (I0 : Inv κ U0 env0 σ0 Hs) (s : Step U0 env0 σ0 Hs U env σ H) (I : Inv κ U env σ H) (ht : TokOk κ U Hs env σ H v t) (ns : noSlot t = true) (h : Gname i t env = some env1) :
    Step U0 env0 σ0 Hs U env1 (σ.set i (some v)) H ∧ Inv κ U env1 (σ.set i (some v)) H ∧ ∀ w u, noSlot u = true → TokOk κ U Hs env σ H w u → ((∃ d, u = .new d) → (∃ d, t = .new d) → w ≠ v) → TokOk κ U Hs env1 (σ.set i (some v)) H w u := by
  unfold Gname at h
  by_cases hf : free? i env = true
  · rw [if_pos hf] at h
    cases t with
    | new d =>
      cases h
      obtain ⟨p, rfl, n, u, no, m⟩ := ht
      obtain ⟨s1, I1⟩ := store_own I0 s I hf n u no m
      refine ⟨s1, I1, fun w u2 ns2 hu hn => ?_⟩
      cases u2 with
      | val x => exact hu
      | slot j => cases ns2
      | new x =>
        obtain ⟨q, rfl, n2, u2, no2, m2⟩ := hu
        refine ⟨q, rfl, n2, u2, ?_, m2⟩
        rintro ⟨k, e, q1, q2, q3⟩
        rcases getset2 q1 with ⟨rfl, rfl⟩ | ⟨n, q'⟩
        · rw [set_self (I.len ▸ (free_not hf).2.2)] at q3
          cases q3
          exact hn ⟨x, rfl⟩ ⟨d, rfl⟩ rfl
        · rw [List.getElem?_set_ne (fun z => n z.symm)] at q3
          exact no2 ⟨k, e, q', q2, q3⟩
    | val d =>
      cases h
      obtain ⟨s1, I1⟩ := store_frz I hf ht
      refine ⟨s.trans I0 I s1, I1, fun w u2 ns2 hu hn => ?_⟩
      cases u2 with
      | val x => exact hu
      | slot j => cases ns2
      | new x =>
        obtain ⟨q, rfl, n2, u2, no2, m2⟩ := hu
        obtain ⟨a1, a2, a3⟩ := s1.mo I u2 no2 m2
        exact ⟨q, rfl, n2, a1, a2, a3⟩
    | slot j => cases ns
  · rw [if_neg hf] at h; cases h
theorem stores_ok {is : List Nat} {vs : List V} {ts : List Tok} (I0 : Inv κ U0 env0 σ0 Hs) (s : Step U0 env0 σ0 Hs U env σ H) (I : Inv κ U env σ H) (ht : AllTok κ U Hs env σ H vs ts) (nd : (newRefs vs ts).Nodup) (ns : ∀ t ∈ ts, noSlot t = true) (h : stores is ts env = some env1) :
    Step U0 env0 σ0 Hs U env1 (setAll is vs σ) H ∧ Inv κ U env1 (setAll is vs σ) H ∧ is.length = vs.length := by
  induction ts generalizing is vs env σ with
  | nil =>
    cases ht
    cases is with
    | nil => cases h; exact ⟨s, I, rfl⟩
    | cons => cases h
  | cons t ts ih =>
    cases ht with
    | cons a b =>
      rename_i v vs
      cases is with
      | nil => cases h
      | cons i is =>
        unfold stores at h
        split at h
        · rename_i e1 h1
          obtain ⟨s1, I1, oth⟩ := store_ok I0 s I a (ns t List.mem_cons_self) h1
          have nd1 : (newRefs vs ts).Nodup := by
            cases t with
            | new _ => exact (List.nodup_cons.mp nd).2
            | val _ => exact nd
            | slot _ => exact nd
          have b1 : AllTok κ U Hs e1 (σ.set i (some v)) H vs ts := by
            have nd' := nd
            clear ih
            have key : ∀ (vs : List V) (us : List Tok), AllTok κ U Hs env σ H vs us → (∀ (k : Nat) w u, vs[k]? = some w → us[k]? = some u → noSlot u = true ∧ ((∃ d, u = .new d) → (∃ d, t = .new d) → w ≠ v)) → AllTok κ U Hs e1 (σ.set i (some v)) H vs us := by
              intro vs us hh
              induction hh with
              | nil => exact fun _ => .nil
              | cons a _ ih => exact fun hk => .cons (oth _ _ (hk 0 _ _ rfl rfl).1 a (hk 0 _ _ rfl rfl).2) (ih fun k w u h1 h2 => hk (k + 1) w u (by simpa using h1) (by simpa using h2))
            refine key vs ts b fun k w u q1 q2 => ⟨ns u (List.mem_cons_of_mem _ (List.mem_of_getElem? q2)), fun ⟨d1, z1⟩ ⟨d2, z2⟩ z => ?_⟩
            subst z1 z2 z
            exact (List.nodup_cons.mp nd).1 (mem_newRefs q1 q2)
          obtain ⟨s2, I2, e⟩ := ih s1 I1 b1 nd1 (fun u z => ns u (List.mem_cons_of_mem _ z)) h
          exact ⟨s2, I2, by simp [e]⟩
        · cases h
theorem par_ok {is : List Nat} {vs : List V} {ts : List Tok} (I : Inv κ U env σ H) (s : Step U env σ H U1 env1 σ H1) (I1 : Inv κ U1 env1 σ H1) (ht : AllTok κ U1 H env1 σ H1 vs ts) (nd : (newRefs vs ts).Nodup) (q : AskS κ EW U env σ H (parS is (normAll ts env1)) D) :
    is.length = vs.length ∧ D.nx (setAll is vs σ) H1 := by
  unfold parS at q
  split at q
  · rename_i ts' e2 h2
    obtain ⟨U2, s2, I2, r2, e, ns, _⟩ := normAll_ok I s I1 ht nd h2
    cases h3 : stores is ts' e2 with
    | none => rw [h3] at q; exact q.elim
    | some e3 =>
      rw [h3] at q
      obtain ⟨s3, I3, el⟩ := stores_ok I s2 I2 r2 (by rw [e]; exact nd) ns h3
      exact ⟨el, q U2 _ H1 s3 I3⟩
  · exact q.elim
theorem ss_par {i j : Nat} (h : SA κ EW tas fas) : SS κ EW (tPar i j tas) (fPar [i, j] fas) := by
  intro U env σ H D I q
  refine h U env σ H _ I (q.expr.mono fun ts e1 U1 H1 s1 I1 q1 xs hxs nd => ?_)
  obtain ⟨el, w⟩ := par_ok I s1 I1 hxs nd q1
  match xs, el, w with
  | [x, y], _, w => exact ⟨x, y, rfl, w⟩
theorem ss_par3 {i j l : Nat} (h : SA κ EW tas fas) : SS κ EW (tPar3 i j l tas) (fPar [i, j, l] fas) := by
  intro U env σ H D I q
  refine h U env σ H _ I (q.expr.mono fun ts e1 U1 H1 s1 I1 q1 xs hxs nd => ?_)
  obtain ⟨el, w⟩ := par_ok I s1 I1 hxs nd q1
  match xs, el, w with
  | [x, y, z], _, w => exact ⟨x, y, z, rfl, w⟩
end
end FL

set_option Elab.async false
set_option linter.all false
set_option maxRecDepth 100000
set_option maxHeartbeats 4000000
set_option exponentiation.threshold 100000
/-! F5: objects of slots that are changed; loops; comprehensions. -/
namespace FL
open PySem PySem.Spec PyProof.Rows L2 GL
/-- the same kind of entry with another value -/
def Ent.put (e : Ent) (d : D) : Ent := match e with
  | .frz _ => .frz d
  | .own _ => .own d
  | .par _ => .par d
  | .lok p _ => .lok p d
theorem Ent.put_own {e : Ent} {d : D} : (e.put d).isOwn = e.isOwn := by cases e <;> rfl
theorem Ent.put_mut {e : Ent} {d : D} : (e.put d).mut = e.mut := by cases e <;> rfl
section
variable {κ : Kx} {EW : WX} {U U0 U1 U2 : AS} {env env0 env1 env2 : Env} {σ σ0 σ1 σ2 : L2.St} {H H1 H2 Hs : Hp} {v : V} {ta tb te to : TE} {fa fb fe fo : Ev} {tt tu : TT} {ft fu : Et} {tas : TA} {fas : Ea} {ts us : TS} {fs gs : Sf} {D : Ends}
/-- the object of a slot is changed -/
theorem mutate {j : Nat} {e : Ent} {a : Addr} {o : HO} {d : FL.D} (I : Inv κ U env σ H) (h : env[j]? = some (some e)) (m : e.mut = true) (hs : σ[j]? = some (some (.ref a))) (mo : Mo κ U (upd H a o) a d) :
    Step U env σ H U (env.set j (some (e.put d))) σ (upd H a o) ∧ Inv κ U (env.set j (some (e.put d))) σ (upd H a o) := by
  have ua : U a := I.mutU ⟨j, e, h, m, hs⟩
  have hl := (List.getElem?_eq_some_iff.mp h).1
  have k : ∀ S : AS, (∀ b, U b → S b) → Kp S S H (upd H a o) := fun S hS b u n z => ⟨n, by rw [upd_ne]; exact z; rintro rfl; exact n (hS _ ua)⟩
  have kU := k U fun _ z => z
  have ow : ∀ b, OwnOf (env.set j (some (e.put d))) σ b → OwnOf env σ b := by
    rintro b ⟨i, e', q1, q2, q3⟩
    rcases getset2 q1 with ⟨rfl, rfl⟩ | ⟨n, q⟩
    · exact ⟨i, e, h, Ent.own_of_mut m, q3⟩
    · exact ⟨i, e', q, q2, q3⟩
  have mu : ∀ b, MutOf (env.set j (some (e.put d))) σ b → MutOf env σ b := by
    rintro b ⟨i, e', q1, q2, q3⟩
    rcases getset2 q1 with ⟨rfl, rfl⟩ | ⟨n, q⟩
    · exact ⟨i, e, h, m, q3⟩
    · exact ⟨i, e', q, q2, q3⟩
  refine ⟨⟨fun b u n z => ?_, fun b z => ?_, fun b z => .inl (mu b z), fun b z => .inl (ow b z), fun b z => .inl z, fun b z => .inl z, fun i d2 q => ⟨rfl, ?_⟩, fun i p d2 q => ⟨rfl, ?_⟩⟩, ⟨by simp [I.len], fun b z => ?_, fun i e' q => ?_, fun i l e' f b q1 q2 n o1 o2 => ?_⟩⟩
  · rw [upd_ne]
    · exact z
    · rintro rfl; exact n ⟨j, e, h, m, hs⟩
  · by_cases hb : b = a
    · rw [hb, upd_same]; simp
    · rw [upd_ne hb]; exact z
  · by_cases hij : j = i
    · subst hij
      rw [h] at q; cases q
      exact ⟨d, by rw [List.getElem?_set_self hl]; rfl⟩
    · exact ⟨d2, by rw [List.getElem?_set_ne hij]; exact q⟩
  · have hij : j ≠ i := by rintro rfl; rw [h] at q; cases q; cases m
    rw [List.getElem?_set_ne hij]; exact q
  · by_cases hb : b = a
    · rw [hb, upd_same]; simp
    · rw [upd_ne hb]; exact I.al b z
  · rcases getset2 q with ⟨rfl, rfl⟩ | ⟨n, q⟩
    · refine ⟨.ref a, hs, ?_⟩
      cases e with
      | frz _ => cases m
      | own _ => exact ⟨a, rfl, ua, mo⟩
      | par _ => exact ⟨a, rfl, ua, mo⟩
      | lok _ _ => cases m
    · obtain ⟨w, e1, r⟩ := I.at' i e' q
      refine ⟨w, e1, ?_⟩
      have na : ∀ b, w = .ref b → e'.isOwn = true → b ≠ a := fun b z o1 z2 => by
        subst z z2
        exact I.sep i j _ _ b q h n o1 (Ent.own_of_mut m) e1 hs
      cases e' with
      | frz _ => exact Rp.imp kU r
      | own _ => obtain ⟨b, rfl, u, mm⟩ := r; exact ⟨b, rfl, u, mm.imp (fun u z => by rw [upd_ne (na b rfl rfl)]; exact z) (k _ fun _ z => .inl z)⟩
      | par _ => obtain ⟨b, rfl, u, mm⟩ := r; exact ⟨b, rfl, u, mm.imp (fun u z => by rw [upd_ne (na b rfl rfl)]; exact z) (k _ fun _ z => .inl z)⟩
      | lok p x =>
        obtain ⟨b, rfl, u, mm⟩ := r
        refine ⟨b, rfl, u, ?_⟩
        have hb := na b rfl rfl
        have rd : ∀ u, Rd H b u → Rd (upd H a o) b u := fun u z => z.imp (fun z => by rw [upd_ne hb]; exact z) fun ⟨oo, z⟩ => ⟨oo, by rw [upd_ne hb]; exact z⟩
        cases mm with
        | tup h r => exact .tup (h.imp kU) (r.imp kU)
        | lst h r => exact .lst (by rw [upd_ne hb]; exact h) (r.imp kU)
        | scr h => exact .scr (h.imp (rd _) id)
        | dct h r => exact .dct (rd _ h) (r.imp kU)
        | obj h h2 n2 r => exact .obj (by rw [upd_ne hb]; exact h) (kU _ _ n2 h2).2 n2 (r.imp kU)
        | exc h n1 h2 n2 r => exact .exc (kU _ _ n1 h).2 n1 (kU _ _ n2 h2).2 n2 (r.imp kU)
  · rcases getset2 q1 with ⟨rfl, rfl⟩ | ⟨n1, q1'⟩
    · rcases getset2 q2 with ⟨rfl, rfl⟩ | ⟨n2, q2'⟩
      · exact absurd rfl n
      · exact I.sep i l e f b h q2' n (Ent.own_of_mut m) o2
    · rcases getset2 q2 with ⟨rfl, rfl⟩ | ⟨n2, q2'⟩
      · exact I.sep i l e' e b q1' h n o1 (Ent.own_of_mut m)
      · exact I.sep i l e' f b q1' q2' n o1 o2
theorem Mo.put {p : Addr} {o : HO} {d : FL.D} (u : U p) (h : ∀ S : AS, (∀ b, S b ↔ plus U p b) → Mo κ S (upd H p o) p d) : Mo κ U (upd H p o) p d :=
  (h (plus U p) fun _ => Iff.rfl).sub fun b z => .inl (.inl z)
/-- contents that avoid U stand when an object of U is changed -/
theorem RpA.upd {p : Addr} {o : HO} {xs : List V} {ds : List FL.D} (u : U p) (h : RpA κ U H xs ds) : RpA κ (FL.plus U p) (L2.upd H p o) xs ds :=
  h.imp fun b w n e => ⟨fun z => z.elim n fun z => n (z ▸ u), by rw [upd_ne]; exact e; rintro rfl; exact n u⟩
theorem RpK.upd {p : Addr} {o : HO} {xs : List (Key × V)} {ds : List (Key × FL.D)} (u : U p) (h : RpK κ U H xs ds) : RpK κ (FL.plus U p) (L2.upd H p o) xs ds :=
  h.imp fun b w n e => ⟨fun z => z.elim n fun z => n (z ▸ u), by rw [upd_ne]; exact e; rintro rfl; exact n u⟩
/-! ### locks -/
def lockT (t : Tok) (env : Env) : Env × List Nat := match t with
  | .slot j => match env[j]? with
    | some (some (.own d)) => (env.set j (some (.lok false d)), [j])
    | some (some (.par d)) => (env.set j (some (.lok true d)), [j])
    | _ => (env, [])
  | _ => (env, [])
def unlock (j : Nat) (env : Env) : Env := match env[j]? with
  | some (some (.lok false d)) => env.set j (some (.own d))
  | some (some (.lok true d)) => env.set j (some (.par d))
  | _ => env
def lockAll : List Tok → Env → Env × List Nat
  | [], env => (env, [])
  | t :: ts, env => ((lockAll ts (lockT t env).1).1, (lockT t env).2 ++ (lockAll ts (lockT t env).1).2)
def unlockAll (js : List Nat) (env : Env) : Env := js.foldr unlock env
def Sr.map (f : Env → Env) : Sr → Sr
  | .nx e => .nx (f e)
  | .bk e => .bk (f e)
  | .ct e => .ct (f e)
  | .rt t e => .rt t (f e)
  | .err x e => .err x (f e)
  | .bad => .bad
def Res.map (f : Env → Env) {α : Type} : Res α → Res α
  | .ok a e => .ok a (f e)
  | .err x e => .err x (f e)
  | .bad => .bad
/-- a source that stays while a loop runs -/
def Per (κ : Kx) (U : AS) (env : Env) (σ : L2.St) (H : Hp) (v : V) (d : FL.D) : Prop :=
  Rp κ U H v d ∨ (∃ p, v = .ref p ∧ U p ∧ ¬ OwnOf env σ p ∧ Mo κ U H p d) ∨ ∃ (j : Nat) (b : Bool), env[j]? = some (some (.lok b d)) ∧ σ[j]? = some (some v)
theorem Per.step {d : FL.D} (I : Inv κ U env σ H) (s : Step U env σ H U1 env1 σ1 H1) (h : Per κ U env σ H v d) : Per κ U1 env1 σ1 H1 v d := by
  rcases h with h | ⟨p, rfl, u, no, m⟩ | ⟨j, b, h1, h2⟩
  · exact .inl (s.rp I h)
  · obtain ⟨a1, a2, a3⟩ := s.mo I u no m
    exact .inr (.inl ⟨p, rfl, a1, a2, a3⟩)
  · obtain ⟨e1, e2⟩ := s.lok j b d h1
    exact .inr (.inr ⟨j, b, e2, e1.trans h2⟩)
theorem Per.rb {d : FL.D} (I : Inv κ U env σ H) (h : Per κ U env σ H v d) : Rb κ U H v d := by
  rcases h with h | ⟨p, rfl, u, no, m⟩ | ⟨j, b, h1, h2⟩
  · exact h.rb
  · exact m.rb
  · exact (I.slot h2 h1).rb
inductive PerA (κ : Kx) (U : AS) (env : Env) (σ : L2.St) (H : Hp) : List V → List FL.D → Prop
  | nil : PerA κ U env σ H [] []
  | cons {v : V} {vs : List V} {d : FL.D} {ds : List FL.D} : Per κ U env σ H v d → PerA κ U env σ H vs ds → PerA κ U env σ H (v :: vs) (d :: ds)
theorem PerA.step {vs : List V} {ds : List FL.D} (I : Inv κ U env σ H) (s : Step U env σ H U1 env1 σ1 H1) (h : PerA κ U env σ H vs ds) : PerA κ U1 env1 σ1 H1 vs ds := by
  induction h with
  | nil => exact .nil
  | cons a _ ih => exact .cons (a.step I s) ih
theorem PerA.rb {vs : List V} {ds : List FL.D} (I : Inv κ U env σ H) (h : PerA κ U env σ H vs ds) : RbA κ U H vs ds := by
  induction h with
  | nil => exact .nil
  | cons a _ ih => exact .cons (a.rb I) ih
/-- what a lock is -/
structure Locked (κ : Kx) (U : AS) (env : Env) (σ : L2.St) (H : Hp) (j : Nat) (p : Bool) (a : Addr) (d : FL.D) (envL : Env) : Prop where
  was : env[j]? = some (some (if p = true then .par d else .own d))
  sl : σ[j]? = some (some (.ref a))
  is : envL = env.set j (some (.lok p d))
  inv : Inv κ U envL σ H
theorem lock_inv {j : Nat} {p : Bool} {d : FL.D} (I : Inv κ U env σ H) (h : env[j]? = some (some (if p = true then .par d else .own d))) : ∃ a, Locked κ U env σ H j p a d (env.set j (some (.lok p d))) := by
  obtain ⟨w, e1, r⟩ := I.at' j _ h
  have mu : (if p = true then Ent.par d else Ent.own d).mut = true := by cases p <;> rfl
  have vl : (if p = true then Ent.par d else Ent.own d).val = d := by cases p <;> rfl
  obtain ⟨a, rfl, u, m⟩ := r.mo mu
  rw [vl] at m
  refine ⟨a, h, e1, rfl, ⟨by simp [I.len], I.al, fun i e q => ?_, fun i l e f b q1 q2 n o1 o2 => ?_⟩⟩
  · rcases getset2 q with ⟨rfl, rfl⟩ | ⟨n, q⟩
    · exact ⟨_, e1, a, rfl, u, m.rb⟩
    · exact I.at' i e q
  · rcases getset2 q1 with ⟨rfl, rfl⟩ | ⟨n1, q1'⟩
    · rcases getset2 q2 with ⟨rfl, rfl⟩ | ⟨n2, q2'⟩
      · exact absurd rfl n
      · exact I.sep i l _ f b h q2' n (Ent.own_of_mut mu) o2
    · rcases getset2 q2 with ⟨rfl, rfl⟩ | ⟨n2, q2'⟩
      · exact I.sep i l e _ b q1' h n o1 (Ent.own_of_mut mu)
      · exact I.sep i l e f b q1' q2' n o1 o2
theorem unlock_of {j : Nat} {p : Bool} {d : FL.D} (h : env[j]? = some (some (.lok p d))) : unlock j env = env.set j (some (if p = true then .par d else .own d)) := by
  unfold unlock
  rw [h]
  cases p <;> rfl
theorem unlock_ok {j : Nat} {p : Bool} {a : Addr} {d : FL.D} {envL : Env} (I : Inv κ U env σ H) (L : Locked κ U env σ H j p a d envL) (s : Step U envL σ H U1 env1 σ1 H1) (I1 : Inv κ U1 env1 σ1 H1) :
    Step U env σ H U1 (unlock j env1) σ1 H1 ∧ Inv κ U1 (unlock j env1) σ1 H1 ∧ ∀ b, OwnOf (unlock j env1) σ1 b → OwnOf env1 σ1 b := by
  have hj := (List.getElem?_eq_some_iff.mp L.was).1
  have lk : envL[j]? = some (some (.lok p d)) := by rw [L.is, List.getElem?_set_self hj]
  obtain ⟨e1, e2⟩ := s.lok j p d lk
  have hj1 := (List.getElem?_eq_some_iff.mp e2).1
  have sl1 : σ1[j]? = some (some (.ref a)) := e1.trans L.sl
  have mu : (if p = true then Ent.par d else Ent.own d).mut = true := by cases p <;> rfl
  have vl : (if p = true then Ent.par d else Ent.own d).val = d := by cases p <;> rfl
  have o0 := L.was
  rw [unlock_of e2]
  generalize hE : (if p = true then Ent.par d else Ent.own d) = E at *
  have oth : ∀ i, i ≠ j → envL[i]? = env[i]? := fun i n => by rw [L.is, List.getElem?_set_ne (fun z => n z.symm)]
  have muL : ∀ b, MutOf envL σ b → MutOf env σ b := by
    rintro b ⟨i, e, q1, q2, q3⟩
    by_cases hi : i = j
    · subst hi; rw [lk] at q1; cases q1; cases q2
    · exact ⟨i, e, (oth i hi) ▸ q1, q2, q3⟩
  have owL : ∀ b, OwnOf envL σ b → OwnOf env σ b := by
    rintro b ⟨i, e, q1, q2, q3⟩
    by_cases hi : i = j
    · subst hi; exact ⟨i, E, o0, Ent.own_of_mut mu, q3⟩
    · exact ⟨i, e, (oth i hi) ▸ q1, q2, q3⟩
  have mu1 : ∀ b, MutOf (env1.set j (some E)) σ1 b → MutOf env1 σ1 b ∨ b = a := by
    rintro b ⟨i, e, q1, q2, q3⟩
    rcases getset2 q1 with ⟨rfl, rfl⟩ | ⟨n, q⟩
    · rw [sl1] at q3; cases q3; exact .inr rfl
    · exact .inl ⟨i, e, q, q2, q3⟩
  have ow1 : ∀ b, OwnOf (env1.set j (some E)) σ1 b → OwnOf env1 σ1 b := by
    rintro b ⟨i, e, q1, q2, q3⟩
    rcases getset2 q1 with ⟨rfl, rfl⟩ | ⟨n, q⟩
    · exact ⟨i, _, e2, rfl, q3⟩
    · exact ⟨i, e, q, q2, q3⟩
  have ma : MutOf env σ a := ⟨j, E, o0, mu, L.sl⟩
  obtain ⟨w0, z0, r0⟩ := I.at' j _ o0
  rw [L.sl] at z0
  cases z0
  obtain ⟨a', z, ua, m0⟩ := r0.mo mu
  cases z
  rw [vl] at m0
  have nm : ¬ MutOf envL σ a := by
    rintro ⟨i, e, q1, q2, q3⟩
    by_cases hi : i = j
    · subst hi; rw [lk] at q1; cases q1; cases q2
    · exact I.sep i j e E a (oth i hi ▸ q1) o0 hi (Ent.own_of_mut q2) (Ent.own_of_mut mu) q3 L.sl
  obtain ⟨b1, z1, u1, _⟩ := I1.slot sl1 e2
  cases z1
  have m1 : Mo κ U1 H1 a d := m0.imp (fun u z => s.keep a u nm z) fun b o n z => by
    have := s.kp L.inv b o (fun q => n (.inl q)) z
    exact ⟨fun q => q.elim this.1 fun w => n (.inr w), this.2⟩
  refine ⟨⟨fun b o n z => s.keep b o (fun q => n (muL b q)) z, s.th, fun b z => ?_, fun b z => (s.growO b (ow1 b z)).imp (owL b) id, s.ug, fun b z => ?_, fun i d2 q => ?_, fun i p2 d2 q => ?_⟩, ⟨by simp [I1.len], I1.al, fun i e q => ?_, fun i l e f b q1 q2 n o1 o2 => ?_⟩, ow1⟩
  · rcases mu1 b z with z | rfl
    · exact (s.grow b z).imp (muL b) id
    · exact .inl ma
  · rcases s.un b z with z | ⟨i, d2, q1, q2⟩
    · exact .inl z
    · right
      by_cases hi : i = j
      · subst hi; rw [lk] at q1; cases q1
      · exact ⟨i, d2, oth i hi ▸ q1, q2⟩
  · by_cases hi : i = j
    · subst hi
      rw [o0] at q
      cases q
      exact ⟨e1, d2, by rw [List.getElem?_set_self hj1]⟩
    · obtain ⟨z1, d3, z2⟩ := s.par i d2 ((oth i hi).trans q)
      exact ⟨z1, d3, by rw [List.getElem?_set_ne (fun z => hi z.symm)]; exact z2⟩
  · have hi : i ≠ j := by rintro rfl; rw [o0] at q; cases q; cases mu
    obtain ⟨z1, z2⟩ := s.lok i p2 d2 ((oth i hi).trans q)
    exact ⟨z1, by rw [List.getElem?_set_ne (fun z => hi z.symm)]; exact z2⟩
  · rcases getset2 q with ⟨rfl, rfl⟩ | ⟨n, q⟩
    · refine ⟨.ref a, sl1, ?_⟩
      cases e with
      | frz _ => cases mu
      | own x => cases vl; exact ⟨a, rfl, u1, m1⟩
      | par x => cases vl; exact ⟨a, rfl, u1, m1⟩
      | lok _ _ => cases mu
    · exact I1.at' i e q
  · rcases getset2 q1 with ⟨rfl, rfl⟩ | ⟨n1, q1'⟩
    · rcases getset2 q2 with ⟨rfl, rfl⟩ | ⟨n2, q2'⟩
      · exact absurd rfl n
      · exact I1.sep i l _ f b e2 q2' n rfl o2
    · rcases getset2 q2 with ⟨rfl, rfl⟩ | ⟨n2, q2'⟩
      · exact I1.sep i l e _ b q1' e2 n o1 rfl
      · exact I1.sep i l e f b q1' q2' n o1 o2
theorem TokOk.owns {t : Tok} (h : TokOk κ U Hs env σ H v t) (o : ∀ b, OwnOf env1 σ b → OwnOf env σ b) : TokOk κ U Hs env1 σ H v t := by
  cases t with
  | val d => exact h
  | new d => obtain ⟨p, e, n, u, no, m⟩ := h; exact ⟨p, e, n, u, fun z => no (o p z), m⟩
  | slot j => exact h
/-- within a lock -/
theorem AskS.locked {r : Sr} {j : Nat} {p : Bool} {a : Addr} {d : FL.D} {envL : Env} (I : Inv κ U env σ H) (L : Locked κ U env σ H j p a d envL) (h : AskS κ EW U env σ H (r.map (unlock j)) D) : AskS κ EW U envL σ H r D := by
  cases r with
  | nx e => exact fun U' σ' H' s' I' => let ⟨s2, I2, _⟩ := unlock_ok I L s' I'; h U' σ' H' s2 I2
  | bk e => exact fun U' σ' H' s' I' => let ⟨s2, I2, _⟩ := unlock_ok I L s' I'; h U' σ' H' s2 I2
  | ct e => exact fun U' σ' H' s' I' => let ⟨s2, I2, _⟩ := unlock_ok I L s' I'; h U' σ' H' s2 I2
  | rt t e => exact fun U' σ' H' v s' I' w => let ⟨s2, I2, o⟩ := unlock_ok I L s' I'; h U' σ' H' v s2 I2 (w.owns o)
  | err x e => exact fun c d U' σ' H' s' I' w => let ⟨s2, I2, _⟩ := unlock_ok I L s' I'; h c d U' σ' H' s2 I2 w
  | bad => exact h
theorem Ask.locked {α : Type} {r : Res α} {j : Nat} {p : Bool} {a : Addr} {d : FL.D} {envL : Env} {q : α → Env → AS → Hp → Prop} (I : Inv κ U env σ H) (L : Locked κ U env σ H j p a d envL) (h : Ask κ EW U env σ H (r.map (unlock j)) q) :
    Ask κ EW U envL σ H r fun x e U' H' => q x (unlock j e) U' H' ∧ Inv κ U' (unlock j e) σ H' ∧ Step U env σ H U' (unlock j e) σ H' ∧ ∀ b, OwnOf (unlock j e) σ b → OwnOf e σ b := by
  cases r with
  | ok x e => exact fun U' H' s' I' => let ⟨s2, I2, o⟩ := unlock_ok I L s' I'; ⟨h U' H' s2 I2, I2, s2, o⟩
  | err x e => exact fun c d U' H' s' I' w => let ⟨s2, I2, _⟩ := unlock_ok I L s' I'; h c d U' H' s2 I2 w
  | bad => exact h
theorem Sr.map_map {f g : Env → Env} {r : Sr} : (r.map f).map g = r.map (fun e => g (f e)) := by cases r <;> rfl
theorem Res.map_map {f g : Env → Env} {α : Type} {r : Res α} : (r.map f).map g = r.map (fun e => g (f e)) := by cases r <;> rfl
theorem Sr.map_id {r : Sr} : r.map (fun e => e) = r := by cases r <;> rfl
theorem Res.map_id {α : Type} {r : Res α} : r.map (fun e => e) = r := by cases r <;> rfl
theorem lockT_cases {t : Tok} : lockT t env = (env, []) ∨ ∃ j p d, t = .slot j ∧ env[j]? = some (some (if p = true then .par d else .own d)) ∧ lockT t env = (env.set j (some (.lok p d)), [j]) := by
  cases t with
  | val d => exact .inl rfl
  | new d => exact .inl rfl
  | slot j =>
    have e : lockT (.slot j) env = match env[j]? with
      | some (some (.own d)) => (env.set j (some (.lok false d)), [j])
      | some (some (.par d)) => (env.set j (some (.lok true d)), [j])
      | _ => (env, []) := rfl
    rw [e]
    split
    · rename_i d h; exact .inr ⟨j, false, d, rfl, h, rfl⟩
    · rename_i d h; exact .inr ⟨j, true, d, rfl, h, rfl⟩
    · exact .inl rfl
theorem ownL {j : Nat} {p : Bool} {a : Addr} {d : FL.D} {envL : Env} (L : Locked κ U env σ H j p a d envL) (b : Addr) (h : OwnOf envL σ b) : OwnOf env σ b := by
  obtain ⟨i, e, q1, q2, q3⟩ := h
  rw [L.is] at q1
  rcases getset2 q1 with ⟨rfl, rfl⟩ | ⟨n, q⟩
  · exact ⟨i, _, L.was, by cases p <;> rfl, q3⟩
  · exact ⟨i, e, q, q2, q3⟩
theorem res_lock {j : Nat} {p : Bool} {a : Addr} {d : FL.D} {envL : Env} (L : Locked κ U env σ H j p a d envL) (t : Tok) : res t envL = res t env := by
  cases t with
  | val d => rfl
  | new d => rfl
  | slot k =>
    rw [res_slot, res_slot, L.is]
    by_cases hk : k = j
    · subst hk
      rw [L.was, List.getElem?_set_self (List.getElem?_eq_some_iff.mp L.was).1]
      cases p <;> rfl
    · rw [List.getElem?_set_ne (fun z => hk z.symm)]
theorem resAll_lock {j : Nat} {p : Bool} {a : Addr} {d : FL.D} {envL : Env} (L : Locked κ U env σ H j p a d envL) : ∀ ts : List Tok, resAll ts envL = resAll ts env
  | [] => rfl
  | t :: ts => by unfold resAll; rw [res_lock L t, resAll_lock L ts]
/-- all sources are locked -/
theorem lock_all {vs : List V} {toks : List Tok} {ds : List FL.D} (I : Inv κ U env σ H) (h : AllTok κ U Hs env σ H vs toks) (hr : resAll toks env = some ds) :
    Inv κ U (lockAll toks env).1 σ H ∧ PerA κ U (lockAll toks env).1 σ H vs ds ∧
    (∀ (r : Sr), AskS κ EW U env σ H (r.map (unlockAll (lockAll toks env).2)) D → AskS κ EW U (lockAll toks env).1 σ H r D) ∧
    (∀ (α : Type) (r : Res α) (q : α → Env → AS → Hp → Prop), Ask κ EW U env σ H (r.map (unlockAll (lockAll toks env).2)) q → Ask κ EW U (lockAll toks env).1 σ H r fun x e U' H' => q x (unlockAll (lockAll toks env).2 e) U' H' ∧ Inv κ U' (unlockAll (lockAll toks env).2 e) σ H' ∧ Step U env σ H U' (unlockAll (lockAll toks env).2 e) σ H' ∧ ∀ b, OwnOf (unlockAll (lockAll toks env).2 e) σ b → OwnOf e σ b) ∧
    (∀ b, OwnOf (lockAll toks env).1 σ b → OwnOf env σ b) ∧ (∀ w d, Per κ U env σ H w d → Per κ U (lockAll toks env).1 σ H w d) := by
  induction toks generalizing vs env ds with
  | nil =>
    cases h
    cases hr
    refine ⟨I, .nil, fun r z => ?_, fun α r q z => ?_, fun _ z => z, fun _ _ z => z⟩
    · have e : r.map (unlockAll (lockAll [] env).2) = r := Sr.map_id
      rw [e] at z; exact z
    · have e : r.map (unlockAll (lockAll [] env).2) = r := Res.map_id
      rw [e] at z; exact z.mono fun x e U' H' s' I' w => ⟨w, I', s', fun _ z => z⟩
  | cons t ts ih =>
    cases h with
    | cons a b =>
      rename_i v vs
      unfold resAll at hr
      split at hr
      · rename_i d dr h1 h2
        cases hr
        unfold lockAll
        rcases lockT_cases (env := env) (t := t) with hl | ⟨j, p, d', rfl, hj, hl⟩
        · rw [hl]
          obtain ⟨I1, P1, A1, A2, O1, W1⟩ := ih I b h2
          refine ⟨I1, .cons (W1 _ _ ?_) P1, A1, A2, O1, W1⟩
          cases t with
          | val x => cases h1; exact .inl a
          | new x =>
            cases h1
            obtain ⟨p, e, n, u, no, m⟩ := a
            exact .inr (.inl ⟨p, e, u, no, m⟩)
          | slot j =>
            obtain ⟨en, q1, rfl⟩ := res_of h1
            have a : σ[j]? = some (some v) := a
            cases en with
            | frz x => exact .inl (I.slot a q1)
            | lok p x => exact .inr (.inr ⟨j, p, q1, a⟩)
            | own x =>
              have e : lockT (.slot j) env = (env.set j (some (.lok false x)), [j]) := by simp only [lockT]; rw [q1]
              rw [hl] at e; exact nomatch (Prod.mk.inj e).2
            | par x =>
              have e : lockT (.slot j) env = (env.set j (some (.lok true x)), [j]) := by simp only [lockT]; rw [q1]
              rw [hl] at e; exact nomatch (Prod.mk.inj e).2
        · rw [hl]
          obtain ⟨ad, L⟩ := lock_inv I hj
          have hv : d = d' := by
            obtain ⟨en, q1, q2⟩ := res_of h1
            rw [hj] at q1
            cases q1
            rw [← q2]
            cases p <;> rfl
          subst hv
          have b' : AllTok κ U Hs (env.set j (some (.lok p d))) σ H vs ts := b.map (P := fun _ _ => True) fun i w u _ _ q => q.owns (ownL L)
          obtain ⟨I1, P1, A1, A2, O1, W1⟩ := ih L.inv b' ((resAll_lock L ts).trans h2)
          have pr : Per κ U (env.set j (some (.lok p d))) σ H v d := .inr (.inr ⟨j, p, by rw [List.getElem?_set_self (List.getElem?_eq_some_iff.mp hj).1], a⟩)
          refine ⟨I1, .cons (W1 _ _ pr) P1, fun r z => A1 r (AskS.locked I L ?_), fun α r q z => ?_, fun b z => ownL L b (O1 b z), fun w x hw => W1 w x ?_⟩
          · rw [Sr.map_map]; exact z
          · have := A2 α r _ (Ask.locked I L (by rw [Res.map_map]; exact z))
            exact this.mono fun x e U' H' s' I' w => ⟨w.1.1, w.1.2.1, w.1.2.2.1, fun b z => w.2.2.2 b (w.1.2.2.2 b z)⟩
          · rcases hw with hw | ⟨q, e, u, no, m⟩ | ⟨k, b2, q1, q2⟩
            · exact .inl hw
            · exact .inr (.inl ⟨q, e, u, fun z => no (ownL L q z), m⟩)
            · have hk : j ≠ k := by rintro rfl; rw [hj] at q1; cases p <;> cases q1
              exact .inr (.inr ⟨k, b2, by rw [List.getElem?_set_ne hk]; exact q1, q2⟩)
      · cases hr
end
end FL

set_option Elab.async false
set_option linter.all false
set_option maxRecDepth 100000
set_option maxHeartbeats 4000000
set_option exponentiation.threshold 100000
/-! F6: loops, comprehensions. -/
namespace FL
open PySem PySem.Spec PyProof.Rows L2 GL
abbrev ItF := List D → Option (List D)
def JOk (κ : Kx) (J : It) (vs : List V) (ds items : List D) : Prop := ∀ (U : AS) (H : Hp) (i : Nat), RbA κ U H vs ds → Al U H →
  (∀ d, items[i]? = some d → J.go i H ∧ ∀ x H', J.yld i H x H' → Grow H H' ∧ Rp κ U H' x d) ∧ (items.length ≤ i → J.stop i H)
def AskI (κ : Kx) (toks : List Tok) (it : ItF) (env : Env) (vs : List V) (R : It → Hp → Prop) (H : Hp) : Prop := ∀ ds items, resAll toks env = some ds → it ds = some items → ∀ J, JOk κ J vs ds items → R J H
def srcOf (it : ItF) (toks : List Tok) (env : Env) : Option (List D) := match resAll toks env with
  | some ds => it ds
  | none => none
def SI (κ : Kx) (EW : WX) (wi : TI) (fa : Ea) (it : ItF) : Prop := ∀ (U : AS) (env : Env) (σ : L2.St) (H : Hp) (R : It → Hp → Prop), Inv κ U env σ H →
  Ask κ EW U env σ H (fa env) (fun toks env' U' H' => (srcOf it toks env').isSome = true ∧ ∀ vs, AllTok κ U' H env' σ H' vs toks → ∀ ds items, resAll toks env' = some ds → it ds = some items → ∀ J, JOk κ J vs ds items → R J H') → wi σ H R
def loopF (G : Gf) (b : Sf) : List D → Env → Sr
  | [], env => .nx env
  | d :: ds, env => match G (.val d) env with
    | none => .bad
    | some e1 => match b e1 with
      | .nx e2 => loopF G b ds e2
      | .ct e2 => loopF G b ds e2
      | .bk e2 => .nx e2
      | r => r
def fFor (fa : Ea) (it : ItF) (G : Gf) (b : Sf) : Sf := fun env => (fa env).toS fun toks e1 => match srcOf it toks e1 with
  | some items => (loopF G b items (lockAll toks e1).1).map (unlockAll (lockAll toks e1).2)
  | none => .bad
def BIG : Nat := 1000000000
def whileF (c : Et) (b : Sf) : Nat → Env → Sr
  | 0, _ => .bad
  | n + 1, env => (c env).toS fun x e1 => if x = true then (match b e1 with
    | .nx e2 => whileF c b n e2
    | .ct e2 => whileF c b n e2
    | .bk e2 => .nx e2
    | r => r) else .nx e1
def fWhile (c : Et) (b : Sf) : Sf := fun env => whileF c b BIG env
section
variable {κ : Kx} {EW : WX} {U U0 U1 U2 : AS} {env env0 env1 env2 : Env} {σ σ0 σ1 σ2 : L2.St} {H H1 H2 Hs : Hp} {v : V} {ta tb te to : TE} {fa fb fe fo : Ev} {tt tu : TT} {ft fu : Et} {tas : TA} {fas : Ea} {ts us : TS} {fs gs : Sf} {D : Ends}
theorem ss_while (hc : ST κ EW tt ft) (hb : SS κ EW ts fs) : SS κ EW (tWhile tt ts) (fWhile ft fs) := by
  intro U env σ H D I q
  refine ⟨fun m σ' H' => ∃ U' env', Inv κ U' env' σ' H' ∧ Step U env σ H U' env' σ' H' ∧ AskS κ EW U env σ H (whileF ft fs m env') D, ⟨BIG, U, env, I, .refl, q⟩, ?_⟩
  rintro m σ1 H1 ⟨U1, e1, I1, s1, q1⟩
  cases m with
  | zero => exact q1.elim
  | succ m =>
    unfold whileF at q1
    refine hc U1 e1 σ1 H1 _ I1 ((q1.exprL I s1 I1).mono fun b e2 U2 H2 s2 I2 q2 => ?_)
    have s12 := s1.trans I I1 s2
    cases b with
    | false => exact q2 U2 σ1 H2 s12 I2
    | true =>
      have q2 : AskS κ EW U env σ H (match fs e2 with
        | .nx e3 => whileF ft fs m e3
        | .ct e3 => whileF ft fs m e3
        | .bk e3 => .nx e3
        | r => r) D := q2
      refine ⟨fun σ3 H3 => ∃ U3 e3, Inv κ U3 e3 σ3 H3 ∧ Step U env σ H U3 e3 σ3 H3 ∧ AskS κ EW U env σ H (whileF ft fs m e3) D, fun σ3 H3 h => ⟨m, Nat.lt_succ_self m, h⟩, ?_⟩
      refine hb U2 e2 σ1 H2 _ I2 ?_
      cases e : fs e2 with
      | nx e3 => rw [e] at q2; exact fun U3 σ3 H3 s3 I3 => ⟨U3, e3, I3, s12.trans I I2 s3, q2⟩
      | ct e3 => rw [e] at q2; exact fun U3 σ3 H3 s3 I3 => ⟨U3, e3, I3, s12.trans I I2 s3, q2⟩
      | bk e3 => rw [e] at q2; exact fun U3 σ3 H3 s3 I3 => q2 U3 σ3 H3 (s12.trans I I2 s3) I3
      | rt t e3 => rw [e] at q2; exact q2.later I s12 I2
      | err x e3 => rw [e] at q2; exact q2.later I s12 I2
      | bad => rw [e] at q2; exact q2
theorem ss_for {wi : TI} {g : TG} {it : ItF} {G : Gf} {ws : List Nat} (hi : SI κ EW wi fas it) (hg : SG κ g G ws) (hb : SS κ EW ts fs) : SS κ EW (tFor wi g ts) (fFor fas it G fs) := by
  intro U0 env0 σ0 H0 D I0 q0
  refine hi U0 env0 σ0 H0 _ I0 (q0.expr.mono fun toks e1 U1 H1 s1 I1 q1 => ?_)
  split at q1
  · rename_i items hsrc
    refine ⟨by rw [hsrc]; rfl, fun vs hvs ds its hr hit J hJ => ?_⟩
    have hh : its = items := by
      unfold srcOf at hsrc
      rw [hr] at hsrc
      have hsrc : it ds = some items := hsrc
      rw [hit] at hsrc
      exact Option.some.inj hsrc
    subst hh
    obtain ⟨IL, PL, AL, _⟩ := lock_all (EW := EW) (D := D) I1 hvs hr
    have q2 := AL _ (q1.later I0 s1 I1)
    generalize (lockAll toks e1).1 = eL at IL PL q2
    refine ⟨fun i m σ' H' => m = its.length - i ∧ i ≤ its.length ∧ ∃ U' env', Inv κ U' env' σ' H' ∧ Step U1 eL σ0 H1 U' env' σ' H' ∧ AskS κ EW U1 eL σ0 H1 (loopF G fs (its.drop i) env') D, ⟨_, rfl, Nat.zero_le _, U1, eL, IL, .refl, q2⟩, ?_⟩
    rintro i m σ2 H2 ⟨rfl, hle, U2, e2, I2, s2, q3⟩
    have P2 := PL.step IL s2
    obtain ⟨jg, js⟩ := hJ U2 H2 i (P2.rb I2) I2.al
    by_cases hlt : i < its.length
    · right
      obtain ⟨go, yl⟩ := jg its[i] (List.getElem?_eq_getElem hlt)
      rw [List.drop_eq_getElem_cons hlt] at q3
      unfold loopF at q3
      refine ⟨go, fun σ3 H3 => ∃ U3 e3, Inv κ U3 e3 σ3 H3 ∧ Step U1 eL σ0 H1 U3 e3 σ3 H3 ∧ AskS κ EW U1 eL σ0 H1 (loopF G fs (its.drop (i + 1)) e3) D, fun σ3 H3 h => ⟨its.length - (i + 1), by omega, rfl, hlt, h⟩, fun x H3 hy => ?_⟩
      obtain ⟨gr, rx⟩ := yl x H3 hy
      have I2g := I2.grow gr
      have s2g := s2.trans IL I2 (.grown gr)
      refine hg U1 eL σ0 H1 U2 e2 σ2 H3 x (.val its[i]) _ IL s2g I2g rx ?_
      cases eg : G (.val its[i]) e2 with
      | none => rw [eg] at q3; exact q3.elim
      | some e3 =>
        rw [eg] at q3
        intro U4 σ4 H4 s4 I4 _
        refine hb U4 e3 σ4 H4 _ I4 ?_
        have q4 : AskS κ EW U1 eL σ0 H1 (match fs e3 with
          | .nx e2 => loopF G fs (its.drop (i + 1)) e2
          | .ct e2 => loopF G fs (its.drop (i + 1)) e2
          | .bk e2 => .nx e2
          | r => r) D := q3
        cases e : fs e3 with
        | nx e5 => rw [e] at q4; exact fun U5 σ5 H5 s5 I5 => ⟨U5, e5, I5, s4.trans IL I4 s5, q4⟩
        | ct e5 => rw [e] at q4; exact fun U5 σ5 H5 s5 I5 => ⟨U5, e5, I5, s4.trans IL I4 s5, q4⟩
        | bk e5 => rw [e] at q4; exact fun U5 σ5 H5 s5 I5 => q4 U5 σ5 H5 (s4.trans IL I4 s5) I5
        | rt t e5 => rw [e] at q4; exact q4.later IL s4 I4
        | err x e5 => rw [e] at q4; exact q4.later IL s4 I4
        | bad => rw [e] at q4; exact q4
    · left
      have hi : i = its.length := by omega
      subst hi
      rw [List.drop_length] at q3
      exact ⟨js (Nat.le_refl _), q3 U2 σ2 H2 s2 I2⟩
  · exact q1.elim
end
end FL

set_option Elab.async false
set_option linter.all false
set_option maxRecDepth 100000
set_option maxHeartbeats 4000000
set_option exponentiation.threshold 100000
/-! F7: comprehensions. -/
namespace FL
open PySem PySem.Spec PyProof.Rows L2 GL
def wipeE (env : Env) : List Nat → Env
  | [] => env
  | v :: vs => (wipeE env vs).set v none
/-- the hidden entries stand again -/
def rest (vs : List Nat) (env0 env : Env) : Env := match vs with
  | [] => env
  | v :: vs => (rest vs env0 env).set v (env0[v]?.join)
/-- nothing that is owned is hidden -/
def clear (vs : List Nat) (env : Env) : Bool := vs.all fun i => match env[i]? with
  | some none => true
  | some (some (.frz _)) => true
  | _ => false
def Res.noErr {α : Type} : Res α → Res α
  | .ok a e => .ok a e
  | _ => .bad
@[simp] theorem Res.noErr_ok {α : Type} {a : α} {e : Env} : (Res.ok a e).noErr = .ok a e := rfl
@[simp] theorem Res.noErr_err {α : Type} {x : Exn} {e : Env} : (Res.err x e : Res α).noErr = .bad := rfl
@[simp] theorem Res.noErr_bad {α : Type} : (Res.bad : Res α).noErr = .bad := rfl
/-- the turns of a comprehension; fb: what a turn does to what is made so far -/
def turnsF {α : Type} (G : Gf) (ft : Et) (fb : α → Env → Res α) (vs : List Nat) : List D → α → Env → Res α
  | [], acc, env => .ok acc env
  | d :: ds, acc, env => match G (.val d) env with
    | none => .bad
    | some e1 => (ft e1).noErr.bind fun x e2 => if x = true then (fb acc e2).bind fun acc' e4 => turnsF G ft fb vs ds acc' (wipeE e4 vs) else turnsF G ft fb vs ds acc (wipeE e2 vs)
def blockF {α : Type} (toks : List Tok) (it : ItF) (G : Gf) (ft : Et) (fb : α → Env → Res α) (vs : List Nat) (acc : α) (e1 : Env) : Res α := match srcOf it toks e1 with
  | some items => if clear vs (lockAll toks e1).1 = true then (((turnsF G ft fb vs items acc (wipeE (lockAll toks e1).1 vs)).noErr.map (rest vs (lockAll toks e1).1)).map (unlockAll (lockAll toks e1).2)) else .bad
  | none => .bad
def lcPut (acc : List D) (o : Option (D × Env)) : Res (List D) := match o with
  | some (y, e) => if acc.length < 1000000 then .ok (acc ++ [y]) e else .bad
  | none => .bad
def lcB (fe : Ev) (acc : List D) : Env → Res (List D) := fun e2 => (fe e2).noErr.bind fun t e3 => lcPut acc (keepT t e3)
def fLc (fa : Ea) (it : ItF) (G : Gf) (ft : Et) (fe : Ev) (vs : List Nat) : Ev := fun env => (fa env).bind fun toks e1 => (blockF toks it G ft (lcB fe) vs [] e1).bind fun acc e => .ok (.new (.lst acc)) e
def lc2B (fa1 : Ea) (it1 : ItF) (G1 : Gf) (ft1 : Et) (fe : Ev) (vs1 : List Nat) (acc : List D) : Env → Res (List D) := fun e2 => (fa1 e2).noErr.bind fun toks e3 => blockF toks it1 G1 ft1 (lcB fe) vs1 acc e3
def fLc2 (fa : Ea) (it : ItF) (G : Gf) (ft : Et) (fa1 : Ea) (it1 : ItF) (G1 : Gf) (ft1 : Et) (fe : Ev) (vs vs1 : List Nat) : Ev := fun env => (fa env).bind fun toks e1 => (blockF toks it G ft (lc2B fa1 it1 G1 ft1 fe vs1) vs [] e1).bind fun acc e => .ok (.new (.lst acc)) e
def keyOf : D → Option Key
  | .int i => some (.inl i)
  | .str x => some (.inr x)
  | _ => none
def putD (kvs : List (Key × D)) (k : Key) (v : D) : List (Key × D) :=
  if (kvs.any fun kv => decide (kv.1 = k)) = true then kvs.map (fun kv => if kv.1 = k then (kv.1, v) else kv) else kvs ++ [(k, v)]
def dcPut (acc : List (Key × D)) (k : Option D) (o : Option (D × Env)) : Res (List (Key × D)) := match k, o with
  | some kd, some (y, e) => match keyOf kd with
    | some k => if acc.length < 1000000 then .ok (putD acc k y) e else .bad
    | none => .bad
  | _, _ => .bad
def dcB (fk fv : Ev) (acc : List (Key × D)) : Env → Res (List (Key × D)) := fun e2 => (fk e2).noErr.bind fun t e3 => (fv e3).noErr.bind fun u e4 => dcPut acc (res t e4) (keepT u e4)
def fDc (fa : Ea) (it : ItF) (G : Gf) (ft : Et) (fk fv : Ev) (vs : List Nat) : Ev := fun env => (fa env).bind fun toks e1 => (blockF toks it G ft (dcB fk fv) vs [] e1).bind fun acc e => .ok (.new (.dct acc)) e
abbrev W0 : WX := fun _ _ _ _ => False
theorem ok_bind {α β : Type} {r : Res α} {k : α → Env → Res β} {b : β} {e : Env} (h : r.bind k = .ok b e) : ∃ a e1, r = .ok a e1 ∧ k a e1 = .ok b e := by
  cases r with
  | ok a e1 => exact ⟨a, e1, rfl, h⟩
  | err x e1 => cases h
  | bad => cases h
theorem ok_noErr {α : Type} {r : Res α} {a : α} {e : Env} (h : r.noErr = .ok a e) : r = .ok a e := by
  cases r with
  | ok a e1 => exact h
  | err x e1 => cases h
  | bad => cases h
section
variable {κ : Kx} {EW : WX} {U U0 U1 U2 : AS} {env env0 env1 env2 : Env} {σ σ0 σ1 σ2 : L2.St} {H H1 H2 Hs : Hp} {v : V} {ta tb te to : TE} {fa fb fe fo : Ev} {tt tu : TT} {ft fu : Et} {tas : TA} {fas : Ea} {ts us : TS} {fs gs : Sf}
theorem wipeE_some {i : Nat} {e : Ent} : ∀ {vs : List Nat}, (wipeE env vs)[i]? = some (some e) → env[i]? = some (some e) ∧ i ∉ vs
  | [], h => ⟨h, by simp⟩
  | v :: vs, h => by
    unfold wipeE at h
    rcases getset h with ⟨_, _, z⟩ | ⟨n, h⟩
    · cases z
    · obtain ⟨a, b⟩ := wipeE_some h
      exact ⟨a, fun z => (List.mem_cons.mp z).elim n b⟩
theorem wipeE_out {i : Nat} : ∀ {vs : List Nat}, i ∉ vs → (wipeE env vs)[i]? = env[i]?
  | [], _ => rfl
  | v :: vs, h => by
    unfold wipeE
    rw [List.getElem?_set_ne (by rintro rfl; exact h List.mem_cons_self), wipeE_out fun z => h (List.mem_cons_of_mem _ z)]
theorem wipeE_len : ∀ vs : List Nat, (wipeE env vs).length = env.length
  | [] => rfl
  | v :: vs => by unfold wipeE; rw [List.length_set, wipeE_len vs]
theorem wipe_out' {i : Nat} : ∀ {vs : List Nat}, i ∉ vs → (wipe σ vs)[i]? = σ[i]?
  | [], _ => rfl
  | v :: vs, h => by
    unfold wipe
    rw [List.getElem?_set_ne (by rintro rfl; exact h List.mem_cons_self), wipe_out' fun z => h (List.mem_cons_of_mem _ z)]
theorem wipe_in {i : Nat} (hl : i < σ.length) : ∀ {vs : List Nat}, i ∈ vs → (wipe σ vs)[i]? = some none
  | v :: vs, h => by
    unfold wipe
    by_cases e : v = i
    · subst e; rw [List.getElem?_set_self (by rw [wipe_length]; exact hl)]
    · rw [List.getElem?_set_ne e]
      exact wipe_in hl ((List.mem_cons.mp h).elim (fun z => absurd z.symm e) id)
theorem rest_len {vs : List Nat} : (rest vs env0 env).length = env.length := by
  induction vs with
  | nil => rfl
  | cons v vs ih => unfold rest; rw [List.length_set, ih]
theorem rest_out {i : Nat} : ∀ {vs : List Nat}, i ∉ vs → (rest vs env0 env)[i]? = env[i]?
  | [], _ => rfl
  | v :: vs, h => by
    unfold rest
    rw [List.getElem?_set_ne (by rintro rfl; exact h List.mem_cons_self), rest_out fun z => h (List.mem_cons_of_mem _ z)]
theorem rest_in {i : Nat} {e : Ent} : ∀ {vs : List Nat}, i ∈ vs → (rest vs env0 env)[i]? = some (some e) → env0[i]? = some (some e)
  | v :: vs, hm, h => by
    unfold rest at h
    rcases getset h with ⟨rfl, _, z⟩ | ⟨n, h⟩
    · cases e2 : env0[i]? with
      | none => rw [e2] at z; cases z
      | some o => rw [e2] at z; cases o with | none => cases z | some o => cases z; rfl
    · exact rest_in ((List.mem_cons.mp hm).elim (fun z => absurd z n) id) h
theorem clear_at {i : Nat} {e : Ent} {vs : List Nat} (h : clear vs env = true) (hm : i ∈ vs) (he : env[i]? = some (some e)) : ∃ d, e = .frz d := by
  have := List.all_eq_true.mp h i hm
  rw [he] at this
  cases e with
  | frz d => exact ⟨d, rfl⟩
  | own d => cases this
  | par d => cases this
  | lok p d => cases this
theorem Inv.wipe {vs : List Nat} (I : Inv κ U env σ H) : Inv κ U (wipeE env vs) (L2.wipe σ vs) H := by
  refine ⟨by rw [wipeE_len, wipe_length, I.len], I.al, fun i e h => ?_, fun i j e f a h1 h2 n o1 o2 => ?_⟩
  · obtain ⟨h1, h2⟩ := wipeE_some h
    rw [wipe_out' h2]
    exact I.at' i e h1
  · obtain ⟨a1, a2⟩ := wipeE_some h1
    obtain ⟨b1, b2⟩ := wipeE_some h2
    rw [wipe_out' a2, wipe_out' b2]
    exact I.sep i j e f a a1 b1 n o1 o2
/-- back from a block: the hidden entries stand again -/
theorem unwipe {vs : List Nat} (I : Inv κ U env σ H) (c : clear vs env = true) (s : Step U (wipeE env vs) (wipe σ vs) H U1 env1 (wipe σ vs) H1) (I1 : Inv κ U1 env1 (wipe σ vs) H1) :
    Step U env σ H U1 (rest vs env env1) σ H1 ∧ Inv κ U1 (rest vs env env1) σ H1 ∧ ∀ b, OwnOf (rest vs env env1) σ b → OwnOf env1 (wipe σ vs) b := by
  have kp : Kp U U1 H H1 := s.kp I.wipe
  have ent : ∀ i e, (rest vs env env1)[i]? = some (some e) → (i ∈ vs ∧ ∃ d, e = .frz d ∧ env[i]? = some (some (.frz d))) ∨ (i ∉ vs ∧ env1[i]? = some (some e)) := fun i e h => by
    by_cases hm : i ∈ vs
    · have h0 := rest_in hm h
      obtain ⟨d, rfl⟩ := clear_at c hm h0
      exact .inl ⟨hm, d, rfl, h0⟩
    · rw [rest_out hm] at h
      exact .inr ⟨hm, h⟩
  have mu : ∀ b, MutOf (wipeE env vs) (wipe σ vs) b → MutOf env σ b := by
    rintro b ⟨i, e, q1, q2, q3⟩
    obtain ⟨h1, h2⟩ := wipeE_some q1
    rw [wipe_out' h2] at q3
    exact ⟨i, e, h1, q2, q3⟩
  have ow : ∀ b, OwnOf (wipeE env vs) (wipe σ vs) b → OwnOf env σ b := by
    rintro b ⟨i, e, q1, q2, q3⟩
    obtain ⟨h1, h2⟩ := wipeE_some q1
    rw [wipe_out' h2] at q3
    exact ⟨i, e, h1, q2, q3⟩
  have ow1 : ∀ b, OwnOf (rest vs env env1) σ b → OwnOf env1 (wipe σ vs) b := by
    rintro b ⟨i, e, q1, q2, q3⟩
    rcases ent i e q1 with ⟨_, d, rfl, _⟩ | ⟨n, q⟩
    · cases q2
    · exact ⟨i, e, q, q2, by rw [wipe_out' n]; exact q3⟩
  refine ⟨⟨fun b o n e => s.keep b o (fun z => n (mu b z)) e, s.th, ?_, fun b h => (s.growO b (ow1 b h)).imp (ow b) id, s.ug, fun a h => ?_, fun i d h => ⟨rfl, ?_⟩, fun i p d h => ⟨rfl, ?_⟩⟩, ⟨by rw [rest_len, I1.len, wipe_length], I1.al, fun i e h => ?_, fun i j e f a h1 h2 n o1 o2 => ?_⟩, ow1⟩
  · rintro b ⟨i, e, q1, q2, q3⟩
    rcases ent i e q1 with ⟨_, d, rfl, _⟩ | ⟨n, q⟩
    · cases q2
    · exact (s.grow b ⟨i, e, q, q2, by rw [wipe_out' n]; exact q3⟩).imp (mu b) id
  · rcases s.un a h with h | ⟨i, d, q1, q2⟩
    · exact .inl h
    · obtain ⟨h1, h2⟩ := wipeE_some q1
      rw [wipe_out' h2] at q2
      exact .inr ⟨i, d, h1, q2⟩
  · have hm : i ∉ vs := fun z => let ⟨_, e⟩ := clear_at c z h; nomatch e
    obtain ⟨_, d', e⟩ := s.par i d (by rw [wipeE_out hm]; exact h)
    exact ⟨d', by rw [rest_out hm]; exact e⟩
  · have hm : i ∉ vs := fun z => let ⟨_, e⟩ := clear_at c z h; nomatch e
    obtain ⟨_, e⟩ := s.lok i p d (by rw [wipeE_out hm]; exact h)
    rw [rest_out hm]; exact e
  · rcases ent i e h with ⟨_, d, rfl, h0⟩ | ⟨n, h0⟩
    · obtain ⟨w, e1, r⟩ := I.at' i _ h0
      exact ⟨w, e1, Rp.imp kp r⟩
    · obtain ⟨w, e1, r⟩ := I1.at' i e h0
      rw [wipe_out' n] at e1
      exact ⟨w, e1, r⟩
  · rcases ent i e h1 with ⟨_, d, rfl, _⟩ | ⟨n1, h1⟩
    · cases o1
    · rcases ent j f h2 with ⟨_, d, rfl, _⟩ | ⟨n2, h2⟩
      · cases o2
      · have := I1.sep i j e f a h1 h2 n o1 o2
        rw [wipe_out' n1, wipe_out' n2] at this
        exact this
/-- an object in no slot is changed -/
theorem Inv.float {p : Addr} {o : HO} (I : Inv κ U env σ H) (u : U p) (n : ¬ OwnOf env σ p) : Inv κ U env σ (upd H p o) := by
  have k : ∀ S : AS, (∀ b, U b → S b) → Kp S S H (L2.upd H p o) := fun S hS b w nb z => ⟨nb, by rw [upd_ne]; exact z; rintro rfl; exact nb (hS _ u)⟩
  refine ⟨I.len, fun a h => ?_, fun i e h => ?_, I.sep⟩
  · by_cases e : a = p
    · rw [e, upd_same]; simp
    · rw [upd_ne e]; exact I.al a h
  · obtain ⟨w, e1, r⟩ := I.at' i e h
    refine ⟨w, e1, ?_⟩
    have na : ∀ b, w = .ref b → e.isOwn = true → b ≠ p := fun b z o1 z2 => by subst z z2; exact n ⟨i, e, h, o1, e1⟩
    cases e with
    | frz _ => exact Rp.imp (k U fun _ z => z) r
    | own _ => obtain ⟨b, rfl, u2, mm⟩ := r; exact ⟨b, rfl, u2, mm.imp (fun u z => by rw [upd_ne (na b rfl rfl)]; exact z) (k _ fun _ z => .inl z)⟩
    | par _ => obtain ⟨b, rfl, u2, mm⟩ := r; exact ⟨b, rfl, u2, mm.imp (fun u z => by rw [upd_ne (na b rfl rfl)]; exact z) (k _ fun _ z => .inl z)⟩
    | lok q x =>
      obtain ⟨b, rfl, u2, mm⟩ := r
      refine ⟨b, rfl, u2, ?_⟩
      have hb := na b rfl rfl
      have kU := k U fun _ z => z
      have rd : ∀ u, Rd H b u → Rd (L2.upd H p o) b u := fun u z => z.imp (fun z => by rw [upd_ne hb]; exact z) fun ⟨oo, z⟩ => ⟨oo, by rw [upd_ne hb]; exact z⟩
      cases mm with
      | tup hh r => exact .tup (hh.imp kU) (r.imp kU)
      | lst hh r => exact .lst (by rw [upd_ne hb]; exact hh) (r.imp kU)
      | scr hh => exact .scr (hh.imp (rd _) id)
      | dct hh r => exact .dct (rd _ hh) (r.imp kU)
      | obj hh h2 n2 r => exact .obj (by rw [upd_ne hb]; exact hh) (kU _ _ n2 h2).2 n2 (r.imp kU)
      | exc hh n1 h2 n2 r => exact .exc (kU _ _ n1 hh).2 n1 (kU _ _ n2 h2).2 n2 (r.imp kU)
theorem agr_wipe {vs : List Nat} (a : Agr vs (wipe σ vs) σ2) : wipe σ2 vs = wipe σ vs := by
  have hl : σ2.length = σ.length := a.len.trans (wipe_length _ _)
  apply List.ext_getElem?
  intro i
  by_cases hm : i ∈ vs
  · by_cases hi : i < σ.length
    · rw [wipe_in hi hm, wipe_in (by omega) hm]
    · rw [List.getElem?_eq_none (by rw [wipe_length]; omega), List.getElem?_eq_none (by rw [wipe_length]; omega)]
  · rw [wipe_out' hm, a.at' i hm]
theorem upd_id {p : Addr} {o : HO} (h : H p = some o) : upd H p o = H := by
  funext b
  by_cases e : b = p
  · rw [e, upd_same, h]
  · rw [upd_ne e]
theorem Per.wipe {d : D} {vs : List Nat} (h : Per κ U env σ H v d) (c : clear vs env = true) : Per κ U (wipeE env vs) (L2.wipe σ vs) H v d := by
  rcases h with h | ⟨p, e, u, no, m⟩ | ⟨j, b, h1, h2⟩
  · exact .inl h
  · refine .inr (.inl ⟨p, e, u, ?_, m⟩)
    rintro ⟨i, e, q1, q2, q3⟩
    obtain ⟨h1, h2⟩ := wipeE_some q1
    rw [wipe_out' h2] at q3
    exact no ⟨i, e, h1, q2, q3⟩
  · have hm : j ∉ vs := fun z => let ⟨_, e⟩ := clear_at c z h1; nomatch e
    exact .inr (.inr ⟨j, b, by rw [wipeE_out hm]; exact h1, by rw [wipe_out' hm]; exact h2⟩)
theorem PerA.wipe {xs : List V} {ds : List D} {vs : List Nat} (h : PerA κ U env σ H xs ds) (c : clear vs env = true) : PerA κ U (wipeE env vs) (L2.wipe σ vs) H xs ds := by
  induction h with
  | nil => exact .nil
  | cons a _ ih => exact .cons (a.wipe c) ih
/-- the heap without one object -/
def hide (H : Hp) (p : Addr) : Hp := fun b => if b = p then none else H b
theorem hide_same {p : Addr} : hide H p p = none := by unfold hide; rw [if_pos rfl]
theorem hide_ne {p b : Addr} (h : b ≠ p) : hide H p b = H b := by unfold hide; rw [if_neg h]
theorem hide_some {p b : Addr} {o : HO} (h : hide H p b = some o) : b ≠ p ∧ H b = some o := by
  by_cases e : b = p
  · rw [e, hide_same] at h; cases h
  · rw [hide_ne e] at h; exact ⟨e, h⟩
theorem hide_kp {p : Addr} (u : U p) : Kp U (FL.less U p) H (hide H p) := fun b o n e => ⟨fun z => n z.1, by rw [hide_ne]; exact e; rintro rfl; exact n u⟩
theorem Inv.hide {p : Addr} (I : Inv κ U env σ H) (u : U p) (n : ¬ OwnOf env σ p) : Inv κ (FL.less U p) env σ (FL.hide H p) := by
  have k := hide_kp (H := H) u
  have k2 : ∀ a, Kp (FL.plus U a) (FL.plus (FL.less U p) a) H (FL.hide H p) := fun a b o nb e => ⟨fun z => z.elim (fun z => nb (.inl z.1)) fun z => nb (.inr z), by rw [hide_ne]; exact e; rintro rfl; exact nb (.inl u)⟩
  refine ⟨I.len, fun a h => ?_, fun i e h => ?_, I.sep⟩
  · rw [hide_ne h.2]; exact I.al a h.1
  · obtain ⟨w, e1, r⟩ := I.at' i e h
    refine ⟨w, e1, ?_⟩
    have na : ∀ b, w = .ref b → e.isOwn = true → b ≠ p := fun b z o1 z2 => by subst z z2; exact n ⟨i, e, h, o1, e1⟩
    cases e with
    | frz _ => exact Rp.imp k r
    | own _ => obtain ⟨b, rfl, u2, mm⟩ := r; exact ⟨b, rfl, ⟨u2, na b rfl rfl⟩, mm.imp (fun u z => by rw [hide_ne (na b rfl rfl)]; exact z) (k2 b)⟩
    | par _ => obtain ⟨b, rfl, u2, mm⟩ := r; exact ⟨b, rfl, ⟨u2, na b rfl rfl⟩, mm.imp (fun u z => by rw [hide_ne (na b rfl rfl)]; exact z) (k2 b)⟩
    | lok q x =>
      obtain ⟨b, rfl, u2, mm⟩ := r
      have hb := na b rfl rfl
      refine ⟨b, rfl, ⟨u2, hb⟩, ?_⟩
      have rd : ∀ u, Rd H b u → Rd (FL.hide H p) b u := fun u z => z.imp (fun z => by rw [hide_ne hb]; exact z) fun ⟨oo, z⟩ => ⟨oo, by rw [hide_ne hb]; exact z⟩
      cases mm with
      | tup hh r => exact .tup (hh.imp k) (r.imp k)
      | lst hh r => exact .lst (by rw [hide_ne hb]; exact hh) (r.imp k)
      | scr hh => exact .scr (hh.imp (rd _) id)
      | dct hh r => exact .dct (rd _ hh) (r.imp k)
      | obj hh h2 n2 r => exact .obj (by rw [hide_ne hb]; exact hh) (k _ _ n2 h2).2 (k _ _ n2 h2).1 (r.imp k)
      | exc hh n1 h2 n2 r => exact .exc (k _ _ n1 hh).2 (k _ _ n1 hh).1 (k _ _ n2 h2).2 (k _ _ n2 h2).1 (r.imp k)
/-- steps that may change the object at p, which is in no slot -/
abbrev StepD (p : Addr) (U : AS) (env : Env) (σ : L2.St) (H : Hp) (U' : AS) (env' : Env) (σ' : L2.St) (H' : Hp) : Prop := Step (less U p) env σ (hide H p) U' env' σ' H'
theorem Step.hide {p : Addr} (I0 : Inv κ U0 env0 σ0 Hs) (s : Step U0 env0 σ0 Hs U env σ H) (n : Hs p = none) : Step U0 env0 σ0 Hs (FL.less U p) env σ (FL.hide H p) where
  keep := fun b o nb e => by
    have hb : b ≠ p := by rintro rfl; rw [n] at e; cases e
    rw [hide_ne hb]; exact s.keep b o nb e
  th := fun b h => by
    have hb : b ≠ p := by rintro rfl; exact h n
    rw [hide_ne hb]; exact s.th b h
  grow := s.grow
  growO := s.growO
  ug := fun a h => s.ug a h.1
  un := fun a h => (s.un a h).imp (fun z => ⟨z, by rintro rfl; exact I0.al _ h n⟩) id
  par := s.par
  lok := s.lok
theorem StepD.refl {p : Addr} : StepD p U env σ H U env σ H where
  keep := fun b o _ e => (hide_some e).2
  th := fun b h => by
    have hb : b ≠ p := by rintro rfl; exact h hide_same
    rw [hide_ne hb] at h; exact h
  grow := fun _ h => .inl h
  growO := fun _ h => .inl h
  ug := fun a h => by
    by_cases e : a = p
    · right; rw [e]; exact hide_same
    · exact .inl ⟨h, e⟩
  un := fun a h => .inl h.1
  par := fun _ d h => ⟨rfl, d, h⟩
  lok := fun _ _ _ h => ⟨rfl, h⟩
theorem StepD.of {p : Addr} (I : Inv κ U env σ H) (u : U p) (n : ¬ OwnOf env σ p) (s : Step U env σ H U1 env1 σ1 H1) : StepD p U env σ H U1 env1 σ1 H1 := StepD.refl.trans (I.hide u n) I s
theorem StepD.trans {p : Addr} (I : Inv κ U env σ H) (u : U p) (n : ¬ OwnOf env σ p) (I1 : Inv κ U1 env1 σ1 H1) (u1 : U1 p) (n1 : ¬ OwnOf env1 σ1 p) (s : StepD p U env σ H U1 env1 σ1 H1) (t : StepD p U1 env1 σ1 H1 U2 env2 σ2 H2) : StepD p U env σ H U2 env2 σ2 H2 :=
  (Step.hide (I.hide u n) s hide_same).trans (I.hide u n) (I1.hide u1 n1) t
/-- the object at p is changed -/
theorem StepD.put {p : Addr} {o : HO} (s : StepD p U env σ H U1 env1 σ1 H1) : StepD p U env σ H U1 env1 σ1 (upd H1 p o) where
  keep := fun b w nb e => by rw [upd_ne (hide_some e).1]; exact s.keep b w nb e
  th := fun b h => by
    by_cases e : b = p
    · rw [e, upd_same]; simp
    · rw [upd_ne e]; exact s.th b h
  grow := s.grow
  growO := s.growO
  ug := s.ug
  un := s.un
  par := s.par
  lok := s.lok
/-- the block's slots are wiped -/
theorem wipe_turn {vs : List Nat} {p : Addr} (s : StepD p U0 env0 (wipe σ vs) Hs U env σ2 H) (I : Inv κ U env σ2 H) (e0 : ∀ i e, env0[i]? = some (some e) → i ∉ vs) (hw : wipe σ2 vs = wipe σ vs) (no : ¬ OwnOf env σ2 p) :
    StepD p U0 env0 (wipe σ vs) Hs U (wipeE env vs) (wipe σ vs) H ∧ Inv κ U (wipeE env vs) (wipe σ vs) H ∧ ¬ OwnOf (wipeE env vs) (wipe σ vs) p := by
  have sl : ∀ i, i ∉ vs → (wipe σ vs)[i]? = σ2[i]? := fun i h => by rw [← hw, wipe_out' h]
  have ow : ∀ b, OwnOf (wipeE env vs) (wipe σ vs) b → OwnOf env σ2 b := by
    rintro b ⟨i, e, q1, q2, q3⟩
    obtain ⟨h1, h2⟩ := wipeE_some q1
    rw [sl i h2] at q3
    exact ⟨i, e, h1, q2, q3⟩
  have mu : ∀ b, MutOf (wipeE env vs) (wipe σ vs) b → MutOf env σ2 b := by
    rintro b ⟨i, e, q1, q2, q3⟩
    obtain ⟨h1, h2⟩ := wipeE_some q1
    rw [sl i h2] at q3
    exact ⟨i, e, h1, q2, q3⟩
  have I' : Inv κ U (wipeE env vs) (wipe σ vs) H := hw ▸ I.wipe
  refine ⟨⟨s.keep, s.th, fun b h => s.grow b (mu b h), fun b h => s.growO b (ow b h), s.ug, s.un, fun i d h => ⟨rfl, ?_⟩, fun i q d h => ⟨rfl, ?_⟩⟩, I', fun z => no (ow p z)⟩
  · obtain ⟨_, d', z⟩ := s.par i d h
    exact ⟨d', by rw [wipeE_out (e0 i _ h)]; exact z⟩
  · obtain ⟨_, z⟩ := s.lok i q d h
    rw [wipeE_out (e0 i _ h)]; exact z
abbrev TB := L2.St → Hp → (Hp → Prop) → Prop
def SB (κ : Kx) (p : Addr) {α : Type} (mk : α → D) (tb : TB) (fb : α → Env → Res α) : Prop := ∀ (U : AS) (env : Env) (σ : L2.St) (H : Hp) (acc acc' : α) (env' : Env) (Nx : Hp → Prop), Inv κ U env σ H → U p → ¬ OwnOf env σ p → Mo κ U H p (mk acc) → fb acc env = .ok acc' env' →
  (∀ U' H', Inv κ U' env' σ H' → StepD p U env σ H U' env' σ H' → U' p → ¬ OwnOf env' σ p → Mo κ U' H' p (mk acc') → Nx H') → tb σ H Nx
theorem turns {α : Type} {mk : α → D} {fb : α → Env → Res α} {tb : TB} {J : It} {p : Addr} {g : TG} {G : Gf} {ws vs : List Nat} {xs : List V} {ds its : List D} {acc0 accF : α} {envF : Env} {Fin : Hp → Prop}
    (Iw : Inv κ U env (wipe σ vs) H) (ee : ∀ i e, env[i]? = some (some e) → i ∉ vs) (P : PerA κ (less U p) env (wipe σ vs) (hide H p) xs ds) (u : U p) (no : ¬ OwnOf env (wipe σ vs) p) (m : Mo κ U H p (mk acc0)) (hJ : JOk κ J xs ds its)
    (hg : SG κ g G ws) (hv : ∀ k ∈ ws, k ∈ vs) (ht : ST κ W0 tt ft) (hb : SB κ p mk tb fb) (hf : turnsF G ft fb vs its acc0 env = .ok accF envF)
    (hfin : ∀ U' H', Inv κ U' envF (wipe σ vs) H' → StepD p U env (wipe σ vs) H U' envF (wipe σ vs) H' → U' p → ¬ OwnOf envF (wipe σ vs) p → Mo κ U' H' p (mk accF) → Fin H') :
    ∃ W : Nat → Nat → Hp → Prop, (∃ m, W 0 m H) ∧ ∀ i m H, W i m H → (J.stop i H ∧ Fin H) ∨ (J.go i H ∧ ∃ Nx : Hp → Prop, (∀ H', Nx H' → ∃ m', m' < m ∧ W (i + 1) m' H') ∧ ∀ x H', J.yld i H x H' →
      g x (wipe σ vs) H' fun σ2 H2 => wipe σ2 vs = wipe σ vs ∧ tt σ2 H2 fun b H3 => if b = true then tb σ2 H3 Nx else Nx H3) := by
  refine ⟨fun i m H' => m = its.length - i ∧ i ≤ its.length ∧ ∃ U' env' acc, Inv κ U' env' (wipe σ vs) H' ∧ StepD p U env (wipe σ vs) H U' env' (wipe σ vs) H' ∧ U' p ∧ ¬ OwnOf env' (wipe σ vs) p ∧ Mo κ U' H' p (mk acc) ∧ turnsF G ft fb vs (its.drop i) acc env' = .ok accF envF,
    ⟨_, rfl, Nat.zero_le _, U, env, acc0, Iw, .refl, u, no, m, hf⟩, ?_⟩
  rintro i m H2 ⟨rfl, hle, U2, e2, acc, I2, s2, u2, no2, m2, hf⟩
  have P2 := P.step (Iw.hide u no) s2
  obtain ⟨jg, js⟩ := hJ U2 H2 i (P2.rb I2) I2.al
  by_cases hlt : i < its.length
  · right
    obtain ⟨go, yl⟩ := jg its[i] (List.getElem?_eq_getElem hlt)
    rw [List.drop_eq_getElem_cons hlt] at hf
    unfold turnsF at hf
    split at hf
    · cases hf
    · rename_i e3 hG
      obtain ⟨x, e4, hft, hf⟩ := ok_bind hf
      have hft := ok_noErr hft
      refine ⟨go, fun H' => ∃ U' env' acc, Inv κ U' env' (wipe σ vs) H' ∧ StepD p U env (wipe σ vs) H U' env' (wipe σ vs) H' ∧ U' p ∧ ¬ OwnOf env' (wipe σ vs) p ∧ Mo κ U' H' p (mk acc) ∧ turnsF G ft fb vs (its.drop (i + 1)) acc env' = .ok accF envF, fun H' h => ⟨its.length - (i + 1), by omega, rfl, hlt, h⟩, fun y H3 hy => ?_⟩
      obtain ⟨gr, ry⟩ := yl y H3 hy
      have I3 := I2.grow gr
      have sg := Step.grown (U := U2) (env := e2) (σ := wipe σ vs) gr
      refine hg U2 e2 (wipe σ vs) H3 U2 e2 (wipe σ vs) H3 y (.val its[i]) _ I3 .refl I3 ry ?_
      rw [hG]
      intro U4 σ4 H4 s4 I4 a4
      have hw : wipe σ4 vs = wipe σ vs := agr_wipe (a4.mono hv)
      refine ⟨hw, ht U4 e3 σ4 H4 _ I4 ?_⟩
      rw [hft]
      intro U5 H5 s5 I5
      have c45 := sg.trans I2 I3 (s4.trans I3 I4 s5)
      obtain ⟨a1, a2, a3⟩ := c45.mo I2 u2 no2 m2
      have d5 : StepD p U env (wipe σ vs) H U5 e4 σ4 H5 := StepD.trans Iw u no I2 u2 no2 s2 (.of I2 u2 no2 c45)
      cases x with
      | false =>
        obtain ⟨t1, t2, t3⟩ := wipe_turn d5 I5 ee hw a2
        exact ⟨U5, _, acc, t2, t1, a1, t3, a3, hf⟩
      | true =>
        have hf : ((fb acc e4).bind fun acc' e5 => turnsF G ft fb vs (its.drop (i + 1)) acc' (wipeE e5 vs)) = .ok accF envF := hf
        obtain ⟨acc', e6, hf1, hf2⟩ := ok_bind hf
        refine hb U5 e4 σ4 H5 acc acc' e6 _ I5 a1 a2 a3 hf1 fun U6 H6 I6 s6 u6 no6 m6 => ?_
        obtain ⟨t1, t2, t3⟩ := wipe_turn (StepD.trans Iw u no I5 a1 a2 d5 s6) I6 ee hw no6
        exact ⟨U6, _, acc', t2, t1, u6, t3, m6, hf2⟩
  · left
    have hi : i = its.length := by omega
    subst hi
    rw [List.drop_length] at hf
    cases hf
    exact ⟨js (Nat.le_refl _), hfin U2 H2 I2 s2 u2 no2 m2⟩
/-- a list's next item -/
theorem sb_lc {p : Addr} (he : SE κ W0 te fe) : SB κ p D.lst (fun σ2 H3 Nx => te σ2 H3 fun y H4 => ∃ acc, H4 p = some (.lst acc) ∧ acc.length < sizeLine ∧ Nx (upd H4 p (.lst (acc ++ [y])))) (lcB fe) := by
  intro U env σ H acc acc' env' Nx I u no m hf hn
  obtain ⟨t, e3, h1, h2⟩ := ok_bind hf
  have h1 := ok_noErr h1
  refine he U env σ H _ I ?_
  rw [h1]
  intro U1 H1 s1 I1 w hw
  unfold lcPut at h2
  split at h2
  · rename_i y e4 hk
    split at h2
    · rename_i hlen
      cases h2
      obtain ⟨U2, s2, I2, r2, _, _⟩ := keep_ok I s1 I1 hw hk
      obtain ⟨b1, b2, b3⟩ := s2.mo I u no m
      cases b3 with
      | lst hx rx =>
        rename_i accV
        refine ⟨accV, hx, by rw [rx.len]; exact szl hlen, ?_⟩
        exact hn U2 _ (I2.float b1 b2) (StepD.of I u no s2).put b1 b2 (.lst upd_same (((rx.sub plus_sub).snoc r2).upd b1))
    · cases h2
  · cases h2
/-- the block of a comprehension: from the source's value on -/
theorem block {α : Type} {mk : α → D} {fb : α → Env → Res α} {tb : TB} {p : Addr} {g : TG} {it : ItF} {G : Gf} {ws vs : List Nat} {toks : List Tok} {xs : List V} {acc0 accF : α} {envF : Env} {Fin : Hp → Prop} {ds items : List D} {J : It}
    (I : Inv κ U env σ H) (u : U p) (no : ¬ OwnOf env σ p) (m : Mo κ U H p (mk acc0)) (htF : AllTok κ U Hs env σ H xs toks) (ht0 : AllTok κ (less U p) Hs env σ (hide H p) xs toks) (hr : resAll toks env = some ds) (hit : it ds = some items) (hJ : JOk κ J xs ds items)
    (hg : SG κ g G ws) (hv : ∀ k ∈ ws, k ∈ vs) (ht : ST κ W0 tt ft) (hb : SB κ p mk tb fb) (hf : blockF toks it G ft fb vs acc0 env = .ok accF envF)
    (hfin : ∀ U' H', Inv κ U' envF σ H' → StepD p U env σ H U' envF σ H' → U' p → ¬ OwnOf envF σ p → Mo κ U' H' p (mk accF) → Fin H') :
    ∃ W : Nat → Nat → Hp → Prop, (∃ m, W 0 m H) ∧ ∀ i m H, W i m H → (J.stop i H ∧ Fin H) ∨ (J.go i H ∧ ∃ Nx : Hp → Prop, (∀ H', Nx H' → ∃ m', m' < m ∧ W (i + 1) m' H') ∧ ∀ x H', J.yld i H x H' →
      g x (wipe σ vs) H' fun σ2 H2 => wipe σ2 vs = wipe σ vs ∧ tt σ2 H2 fun b H3 => if b = true then tb σ2 H3 Nx else Nx H3) := by
  have Ih := I.hide u no
  obtain ⟨ILh, PL, _, AL, OL, _⟩ := lock_all (EW := W0) (D := ⟨fun _ _ => True, fun _ _ => True, fun _ _ => True, fun _ _ => True⟩) Ih ht0 hr
  have IL := (lock_all (EW := W0) (D := ⟨fun _ _ => True, fun _ _ => True, fun _ _ => True, fun _ _ => True⟩) I htF hr).1
  have hsrc : srcOf it toks env = some items := by unfold srcOf; rw [hr]; exact hit
  unfold blockF at hf
  rw [hsrc] at hf
  have hf : (if clear vs (lockAll toks env).1 = true then (((turnsF G ft fb vs items acc0 (wipeE (lockAll toks env).1 vs)).noErr.map (rest vs (lockAll toks env).1)).map (unlockAll (lockAll toks env).2)) else .bad) = .ok accF envF := hf
  split at hf
  · rename_i hcl
    generalize hE : (lockAll toks env).1 = eL at *
    generalize (lockAll toks env).2 = jl at *
    cases hres : turnsF G ft fb vs items acc0 (wipeE eL vs) with
    | err x e => rw [hres] at hf; cases hf
    | bad => rw [hres] at hf; cases hf
    | ok accG envG =>
      rw [hres] at hf
      have hf : Res.ok accG (unlockAll jl (rest vs eL envG)) = .ok accF envF := hf
      cases hf
      -- the lock, with the object at p
      have noL : ¬ OwnOf eL σ p := fun z => no (OL p z)
      have Iw : Inv κ U (wipeE eL vs) (wipe σ vs) H := IL.wipe
      have ee : ∀ i e, (wipeE eL vs)[i]? = some (some e) → i ∉ vs := fun i e h => (wipeE_some h).2
      have ow : ∀ b, OwnOf (wipeE eL vs) (wipe σ vs) b → OwnOf eL σ b := by
        rintro b ⟨i, e, q1, q2, q3⟩
        obtain ⟨h1, h2⟩ := wipeE_some q1
        rw [wipe_out' h2] at q3
        exact ⟨i, e, h1, q2, q3⟩
      refine turns Iw ee (PL.wipe hcl) u (fun z => noL (ow p z)) m hJ hg hv ht hb hres fun U' H' I' s' u' no' m' => ?_
      obtain ⟨z1, z2, z3⟩ := unwipe ILh hcl s' I'
      obtain ⟨w1, w2, w3, w4⟩ := AL _ (.ok accF (rest vs eL envG)) (fun _ _ _ _ => True) (fun _ _ _ _ => trivial) U' H' z1 z2
      exact hfin U' H' w2 w3 u' (fun z => no' (z3 _ (w4 _ z))) m'
  · cases hf
theorem TokOk.hide {t : Tok} {p : Addr} (u : U p) (h : TokOk κ U Hs env σ H v t) (hp : Hs p ≠ none) : TokOk κ (FL.less U p) Hs env σ (FL.hide H p) v t := by
  cases t with
  | val d => exact Rp.imp (hide_kp u) h
  | new d =>
    obtain ⟨q, rfl, n, uq, no, m⟩ := h
    have hq : q ≠ p := by rintro rfl; exact hp n
    refine ⟨q, rfl, n, ⟨uq, hq⟩, no, m.imp (fun _ z => by rw [hide_ne hq]; exact z) fun b o nb e => ⟨fun z => z.elim (fun z => nb (.inl z.1)) fun z => nb (.inr z), by rw [hide_ne]; exact e; rintro rfl; exact nb (.inl u)⟩⟩
  | slot j => exact h
theorem AllTok.hide {ts : List Tok} {vs : List V} {p : Addr} (u : U p) (h : AllTok κ U Hs env σ H vs ts) (hp : Hs p ≠ none) : AllTok κ (FL.less U p) Hs env σ (FL.hide H p) vs ts := by
  induction h with
  | nil => exact .nil
  | cons a _ ih => exact .cons (a.hide u hp) ih
theorem hide_upd {p : Addr} {o : HO} (n : H p = none) : hide (upd H p o) p = H := by
  funext b
  by_cases e : b = p
  · rw [e, hide_same, n]
  · rw [hide_ne e, upd_ne e]
theorem less_plus' {p : Addr} (n : ¬ U p) : less (plus U p) p = U := by
  funext b
  apply propext
  constructor
  · rintro ⟨h | h, h2⟩
    · exact h
    · exact absurd h h2
  · exact fun h => ⟨.inl h, fun z => n (z ▸ h)⟩
theorem srcOf_some {it : ItF} {toks : List Tok} (h : (srcOf it toks env).isSome = true) : ∃ ds items, resAll toks env = some ds ∧ it ds = some items := by
  unfold srcOf at h
  cases e : resAll toks env with
  | none => rw [e] at h; cases h
  | some ds =>
    rw [e] at h
    have h : (it ds).isSome = true := h
    cases e2 : it ds with
    | none => rw [e2] at h; cases h
    | some items => exact ⟨ds, items, rfl, e2⟩
theorem block_src {α : Type} {fb : α → Env → Res α} {it : ItF} {G : Gf} {vs : List Nat} {toks : List Tok} {acc accF : α} {envF : Env} (h : blockF toks it G ft fb vs acc env = .ok accF envF) : (srcOf it toks env).isSome = true := by
  unfold blockF at h
  split at h
  · rename_i e; rw [e]; rfl
  · cases h
/-- a comprehension that makes a new object -/
theorem comp_new {α : Type} {mk : α → D} {fb : α → Env → Res α} {tb : Addr → TB} {g : TG} {it : ItF} {G : Gf} {ws vs : List Nat} {wi : TI} {nil : α} {ho : HO} {Q : VK} (hi : SI κ EW wi fas it) (hg : SG κ g G ws) (hv : ∀ k ∈ ws, k ∈ vs) (ht : ST κ W0 tt ft) (hb : ∀ p, SB κ p mk (tb p) fb)
    (hm : ∀ (U : AS) (H : Hp) (p : Addr), H p = none → Mo κ U (upd H p ho) p (mk nil)) (I : Inv κ U env σ H)
    (q : Ask κ EW U env σ H ((fas env).bind fun toks e1 => (blockF toks it G ft fb vs nil e1).bind fun acc e => .ok (.new (mk acc)) e) (fun tok env' U' H' => ∀ v, TokOk κ U' H env' σ H' v tok → Q v H')) :
    wi σ H fun J H1 => ∀ D, H1 D = none → ∃ W : Nat → Nat → Hp → Prop, (∃ m, W 0 m (upd H1 D ho)) ∧ ∀ i m H, W i m H →
      (J.stop i H ∧ Q (.ref D) H) ∨ (J.go i H ∧ ∃ Nx : Hp → Prop, (∀ H', Nx H' → ∃ m', m' < m ∧ W (i + 1) m' H') ∧ ∀ x H', J.yld i H x H' → g x (wipe σ vs) H' fun σ2 H2 => wipe σ2 vs = wipe σ vs ∧ tt σ2 H2 fun b H3 => if b = true then tb D σ2 H3 Nx else Nx H3) := by
  refine hi U env σ H _ I (q.then.mono fun toks e1 U1 H1 s1 I1 q1 => ?_)
  cases hres : blockF toks it G ft fb vs nil e1 with
  | err x e =>
    exfalso
    unfold blockF at hres
    split at hres
    · split at hres
      · rename_i e0 _ _
        cases h : turnsF G ft fb vs e0 nil (wipeE (lockAll toks e1).1 vs) <;> rw [h] at hres <;> cases hres
      · cases hres
    · cases hres
  | bad => rw [hres] at q1; exact q1.elim
  | ok accF envF =>
    rw [hres] at q1
    refine ⟨block_src hres, fun xs hxs ds items hr hit J hJ Dd hD => ?_⟩
    have m0 := hm U1 H1 Dd hD
    have gr : Grow H1 (upd H1 Dd ho) := .new hD
    have I2 := I1.plus hD gr m0.there
    have nu : ¬ U1 Dd := fun z => I1.al _ z hD
    refine block (p := Dd) (U := plus U1 Dd) (H := upd H1 Dd ho) I2 (.inr rfl) (I1.fresh hD) (m0.sub fun b z => z) (hxs.step I1 (.plus hD gr)) (by rw [less_plus' nu, hide_upd hD]; exact hxs) hr hit hJ hg hv ht (hb Dd) hres fun U' H' I' s' u' no' m' => ?_
    have s' : Step (less (plus U1 Dd) Dd) e1 σ (hide (upd H1 Dd ho) Dd) U' envF σ H' := s'
    rw [less_plus' nu, hide_upd hD] at s'
    exact q1 U' H' (s1.trans I I1 s') I' _ ⟨Dd, rfl, Classical.byContradiction fun z => s1.th Dd z hD, u', no', m'⟩
theorem se_lc {wi : TI} {g : TG} {it : ItF} {G : Gf} {ws vs : List Nat} (hi : SI κ EW wi fas it) (hg : SG κ g G ws) (hv : ∀ k ∈ ws, k ∈ vs) (ht : ST κ W0 tt ft) (he : SE κ W0 te fe) : SE κ EW (tLc wi g tt te vs) (fLc fas it G ft fe vs) := fun U env σ H Q I q =>
  comp_new (mk := D.lst) hi hg hv ht (fun p => sb_lc he) (fun U H p n => Mo.newL .nil n) I q
/-! ### dicts -/
theorem RpK.any {S : AS} {kvs : List (Key × V)} {ds : List (Key × D)} (h : RpK κ S H kvs ds) (k : Key) : (kvs.any fun kv => decide (kv.1 = k)) = ds.any fun kv => decide (kv.1 = k) := by
  induction ds generalizing kvs with
  | nil => cases h; rfl
  | cons d ds ih => cases h with | cons a b => simp [ih b]
theorem RpK.append {S : AS} {vs ws : List (Key × V)} {ds es : List (Key × D)} (h : RpK κ S H vs ds) (g : RpK κ S H ws es) : RpK κ S H (vs ++ ws) (ds ++ es) := by
  induction ds generalizing vs with
  | nil => cases h; exact g
  | cons d ds ih => cases h with | cons a b => exact .cons a (ih b)
theorem RpK.put {S : AS} {kvs : List (Key × V)} {ds : List (Key × D)} {k : Key} {d : D} (h : RpK κ S H kvs ds) (r : Rp κ S H v d) : RpK κ S H (putK kvs k v) (putD ds k d) := by
  unfold putK putD
  rw [h.any k]
  split
  · rename_i hh
    clear hh
    induction ds generalizing kvs with
    | nil => cases h; exact .nil
    | cons x ds ih =>
      cases h with
      | cons a b =>
        simp only [List.map_cons]
        split
        · exact .cons r (ih b)
        · exact .cons a (ih b)
  · exact h.append (.cons r .nil)
theorem RpK.len {S : AS} {kvs : List (Key × V)} {ds : List (Key × D)} (h : RpK κ S H kvs ds) : kvs.length = ds.length := by
  induction ds generalizing kvs with
  | nil => cases h; rfl
  | cons d ds ih => cases h with | cons a b => simp [ih b]
theorem keyOf_rb {k : Key} {d : D} (h : Rb κ U H v d) (e : keyOf d = some k) : v = kV k := by
  cases h <;> first | (cases e; rfl) | cases e
theorem sb_dc {tk tv : TE} {fk fv : Ev} {p : Addr} (hk : SE κ W0 tk fk) (hv : SE κ W0 tv fv) : SB κ p D.dct (fun σ2 H3 Nx => tk σ2 H3 fun y H4 => tv σ2 H4 fun z H5 => ∃ kvs k, y = kV k ∧ H5 p = some (.dK kvs) ∧ kvs.length < sizeLine ∧ Nx (upd H5 p (.dK (putK kvs k z)))) (dcB fk fv) := by
  intro U env σ H acc acc' env' Nx I u no m hf hn
  obtain ⟨t, e3, h1, h2⟩ := ok_bind hf
  have h1 := ok_noErr h1
  obtain ⟨w, e4, h3, h4⟩ := ok_bind h2
  have h3 := ok_noErr h3
  refine hk U env σ H _ I ?_
  rw [h1]
  intro U1 H1 s1 I1 y hy
  refine hv U1 e3 σ H1 _ I1 ?_
  rw [h3]
  intro U2 H2 s2 I2 z hz
  unfold dcPut at h4
  split at h4
  · rename_i kd yd e5 hr hkp
    split at h4
    · rename_i k hkey
      split at h4
      · rename_i hlen
        cases h4
        have ey := keyOf_rb (res_rb I2 (hy.step I1 s2) hr) hkey
        obtain ⟨U3, s3, I3, r3, _, _⟩ := keep_ok I1 s2 I2 hz hkp
        have c := s1.trans I I1 s3
        obtain ⟨b1, b2, b3⟩ := c.mo I u no m
        cases b3 with
        | dct hx rx =>
          rename_i accV
          refine ⟨accV, k, ey, hx, by rw [rx.len]; exact szl hlen, ?_⟩
          exact hn U3 _ (I3.float b1 b2) (StepD.of I u no c).put b1 b2 (.dct upd_same (((rx.sub plus_sub).put r3).upd b1))
      · cases h4
    · cases h4
  · cases h4
theorem se_dc {wi : TI} {g : TG} {it : ItF} {G : Gf} {ws vs : List Nat} {tk tv : TE} {fk fv : Ev} (hi : SI κ EW wi fas it) (hg : SG κ g G ws) (hv : ∀ k ∈ ws, k ∈ vs) (ht : ST κ W0 tt ft) (hk : SE κ W0 tk fk) (he : SE κ W0 tv fv) : SE κ EW (tDc wi g tt tk tv vs) (fDc fas it G ft fk fv vs) := fun U env σ H Q I q =>
  comp_new (mk := D.dct) hi hg hv ht (fun p => sb_dc hk he) (fun U H p n => Mo.newK .nil n) I q
/-! ### two fors -/
theorem sb_lc2 {p : Addr} {wi1 : TI} {fas1 : Ea} {g1 : TG} {it1 : ItF} {G1 : Gf} {ws1 vs1 : List Nat} {tt1 : TT} {ft1 : Et} (hi : SI κ W0 wi1 fas1 it1) (hg : SG κ g1 G1 ws1) (hv : ∀ k ∈ ws1, k ∈ vs1) (ht : ST κ W0 tt1 ft1) (he : SE κ W0 te fe) :
    SB κ p D.lst (fun σ2 H3 Nx => wi1 σ2 H3 fun J1 H4 => ∃ W1 : Nat → Nat → Hp → Prop, (∃ m, W1 0 m H4) ∧ ∀ j k H, W1 j k H →
      (J1.stop j H ∧ Nx H) ∨ (J1.go j H ∧ ∃ Nx1 : Hp → Prop, (∀ H', Nx1 H' → ∃ k', k' < k ∧ W1 (j + 1) k' H') ∧ ∀ x H', J1.yld j H x H' → g1 x (wipe σ2 vs1) H' fun σ3 H5 => wipe σ3 vs1 = wipe σ2 vs1 ∧ tt1 σ3 H5 fun b H6 =>
        if b = true then te σ3 H6 fun y H7 => ∃ acc, H7 p = some (.lst acc) ∧ acc.length < sizeLine ∧ Nx1 (upd H7 p (.lst (acc ++ [y]))) else Nx1 H6)) (lc2B fas1 it1 G1 ft1 fe vs1) := by
  intro U env σ H acc acc' env' Nx I u no m hf hn
  obtain ⟨toks, e3, h1, h2⟩ := ok_bind hf
  have h1 := ok_noErr h1
  refine hi U env σ H _ I ?_
  rw [h1]
  intro U1 H1 s1 I1
  refine ⟨block_src h2, fun xs hxs ds items hr hit J hJ => ?_⟩
  obtain ⟨a1, a2, a3⟩ := s1.mo I u no m
  exact block (p := p) I1 a1 a2 a3 hxs (hxs.hide a1 m.there) hr hit hJ hg hv ht (sb_lc he) h2 fun U' H' I' s' u' no' m' => hn U' H' I' (StepD.trans I u no I1 a1 a2 (.of I u no s1) s') u' no' m'
theorem se_lc2 {wi : TI} {g : TG} {it : ItF} {G : Gf} {ws vs : List Nat} {wi1 : TI} {fas1 : Ea} {g1 : TG} {it1 : ItF} {G1 : Gf} {ws1 vs1 : List Nat} {tt1 : TT} {ft1 : Et} (hi : SI κ EW wi fas it) (hg : SG κ g G ws) (hv : ∀ k ∈ ws, k ∈ vs) (ht : ST κ W0 tt ft)
    (hi1 : SI κ W0 wi1 fas1 it1) (hg1 : SG κ g1 G1 ws1) (hv1 : ∀ k ∈ ws1, k ∈ vs1) (ht1 : ST κ W0 tt1 ft1) (he : SE κ W0 te fe) : SE κ EW (tLc2 wi g tt wi1 g1 tt1 te vs vs1) (fLc2 fas it G ft fas1 it1 G1 ft1 fe vs vs1) := fun U env σ H Q I q =>
  comp_new (mk := D.lst) hi hg hv ht (fun p => sb_lc2 hi1 hg1 hv1 ht1 he) (fun U H p n => Mo.newL .nil n) I q
end
end FL

set_option Elab.async false
set_option linter.all false
set_option maxRecDepth 100000
set_option maxHeartbeats 4000000
set_option exponentiation.threshold 100000
/-! F8: operators by values. -/
namespace FL
open PySem PySem.Spec PyProof.Rows L2 GL
abbrev kx (X : Cx) (ca : Str → Addr) : Kx := ⟨X.K, ca⟩
structure FOp (X : Cx) (ca : Str → Addr) (g : Value → Value → Sem Value) (r : R2) (f : D → D → Option Tok) : Prop where
  op : OpR X g r
  s : OpS (kx X ca) r f
structure FIx (X : Cx) (ca : Str → Addr) (r : R2) (f : D → D → Option Tok) : Prop where
  op : IxR X r
  s : OpS (kx X ca) r f
structure FUn (X : Cx) (ca : Str → Addr) (g : Value → Sem Value) (r : V → Hp → VK → Prop) (f : D → Option Tok) : Prop where
  op : UnR X g r
  s : UnS (kx X ca) r f
structure FCa (X : Cx) (ca : Str → Addr) (g : Value) (r : List V → Hp → VK → Prop) (f : List D → Option Tok) : Prop where
  op : CallR X g r
  s : CbS (kx X ca) r f
structure FSl (X : Cx) (ca : Str → Addr) (r : V → Option Int → Option Int → Hp → VK → Prop) (f : D → Option Int → Option Int → Option Tok) : Prop where
  op : SlR X r
  s : SlS (kx X ca) r f
abbrev orR (r s : R2) : R2 := fun x y H Q => r x y H Q ∨ s x y H Q
abbrev orRC (r s : List V → Hp → VK → Prop) : List V → Hp → VK → Prop := fun xs H Q => r xs H Q ∨ s xs H Q
abbrev orRS (r s : V → Option Int → Option Int → Hp → VK → Prop) : V → Option Int → Option Int → Hp → VK → Prop := fun x l u H Q => r x l u H Q ∨ s x l u H Q
section
variable {X : Cx} {ca : Str → Addr}
/-! ### ints -/
def i2 (C : Int → Int → Bool) (g : Int → Int → D) : D → D → Option Tok
  | .int i, .int j => if C i j = true then some (.val (g i j)) else none
  | _, _ => none
theorem ops_i {κ : Kx} {C : Int → Int → Prop} {fv : Int → Int → V} {C' : Int → Int → Bool} {g : Int → Int → D} (hv : ∀ i j U H, Rp κ U H (fv i j) (g i j)) (hc : ∀ i j, C' i j = true → C i j) : OpS κ (rI C fv) (i2 C' g) := by
  intro U H x y d e tk Q hx hy al hf q
  unfold i2 at hf
  split at hf
  · split at hf
    · rename_i i j hC
      cases hf
      cases hx
      cases hy
      exact ⟨i, j, rfl, rfl, hc i j hC, q _ H .refl (hv i j U H)⟩
    · cases hf
  · cases hf
theorem ops_i0 {κ : Kx} {fv : Int → Int → V} {g : Int → Int → D} (hv : ∀ i j U H, Rp κ U H (fv i j) (g i j)) : OpS κ (rI0 fv) (i2 (fun _ _ => true) g) := by
  intro U H x y d e tk Q hx hy al hf q
  unfold i2 at hf
  split at hf
  · split at hf
    · rename_i i j hC
      cases hf
      cases hx
      cases hy
      exact ⟨i, j, rfl, rfl, q _ H .refl (hv i j U H)⟩
    · cases hf
  · cases hf
abbrev addI := i2 (fun _ _ => true) fun i j => .int (i + j)
theorem fop_addI : FOp X ca (binaryOp .Add) GL.rAdd addI := ⟨op_add, ops_i0 fun _ _ _ _ => .int _⟩
def addS : D → D → Option Tok
  | .str a, .str b => if a.length + b.length ≤ 1000000 then some (.val (.str (a ++ b))) else none
  | _, _ => none
theorem fop_addS : FOp X ca (binaryOp .Add) GL.rAddS addS := by
  refine ⟨op_add_str, fun U H x y d e tk Q hx hy al hf q => ?_⟩
  unfold addS at hf
  split at hf
  · split at hf
    · cases hf; cases hx; cases hy
      exact ⟨_, _, rfl, rfl, sz (by assumption), q _ H .refl (.str _)⟩
    · cases hf
  · cases hf
def addL : D → D → Option Tok
  | .lst a, .lst b => if a.length + b.length ≤ 1000000 then some (.new (.lst (a ++ b))) else none
  | _, _ => none
theorem fop_addL : FOp X ca (binaryOp .Add) rCat addL := by
  refine ⟨op_cat, fun U H x y d e tk Q hx hy al hf q => ?_⟩
  unfold addL at hf
  split at hf
  · split at hf
    · rename_i hl
      cases hf
      cases hx with
      | lst h1 r1 =>
        cases hy with
        | lst h2 r2 => exact ⟨_, _, _, _, rfl, rfl, h1, h2, by rw [r1.len, r2.len]; exact sz hl, fun p np => q _ _ (.new np) ⟨p, rfl, np, Mo.newL (r1.append r2) np⟩⟩
    · cases hf
  · cases hf
def addT : D → D → Option Tok
  | .tup a, .tup b => if a.length + b.length ≤ 1000000 then some (.val (.tup (a ++ b))) else none
  | _, _ => none
theorem RpA.nil_iff {κ : Kx} {U : AS} {H : Hp} {xs : List V} {ds : List D} (r : RpA κ U H xs ds) : xs = [] ↔ ds = [] := by
  cases r with
  | nil => simp
  | cons a b => simp
theorem fop_addT : FOp X ca (binaryOp .Add) (rCatA X.K) addT := by
  refine ⟨op_catA, fun U H x y d e tk Q hx hy al hf q => ?_⟩
  unfold addT at hf
  split at hf
  · split at hf
    · rename_i da db hl
      cases hf
      cases hx with
      | tup h1 r1 =>
        cases hy with
        | tup h2 r2 =>
          refine ⟨_, _, _, _, rfl, rfl, h1.sq, h2.sq, by rw [r1.len, r2.len]; exact sz hl, fun e => ?_, fun n e => ?_, fun n1 n2 p np => q _ _ (.new np) (Rp.newT al (r1.append r2) np)⟩
          · have e := r1.nil_iff.mp e
            subst e
            exact q _ H .refl (.tup h2 r2)
          · have e := r2.nil_iff.mp e
            subst e
            rw [List.append_nil] at q
            exact q _ H .refl (.tup h1 r1)
    · cases hf
  · cases hf
def orD (f g : D → D → Option Tok) (d e : D) : Option Tok := match f d e with
  | some t => some t
  | none => g d e
theorem FOp.or {g : Value → Value → Sem Value} {r1 r2 : R2} {f1 f2 : D → D → Option Tok} (h1 : FOp X ca g r1 f1) (h2 : FOp X ca g r2 f2) : FOp X ca g (orR r1 r2) (orD f1 f2) :=
  ⟨fun pins s σ H x y v u Q I rx ry q => q.elim (h1.op pins s σ H x y v u Q I rx ry) (h2.op pins s σ H x y v u Q I rx ry), fun U H x y d e tk Q hx hy al hf q => by
    unfold orD at hf
    split at hf
    · rename_i t ht; cases hf; exact .inl (h1.s U H x y d e _ Q hx hy al ht q)
    · exact .inr (h2.s U H x y d e tk Q hx hy al hf q)⟩
theorem FIx.or {r1 r2 : R2} {f1 f2 : D → D → Option Tok} (h1 : FIx X ca r1 f1) (h2 : FIx X ca r2 f2) : FIx X ca (orR r1 r2) (orD f1 f2) :=
  ⟨h1.op.or h2.op, fun U H x y d e tk Q hx hy al hf q => by
    unfold orD at hf
    split at hf
    · rename_i t ht; cases hf; exact .inl (h1.s U H x y d e _ Q hx hy al ht q)
    · exact .inr (h2.s U H x y d e tk Q hx hy al hf q)⟩
def orC (f g : List D → Option Tok) (d : List D) : Option Tok := match f d with
  | some t => some t
  | none => g d
theorem FCa.or {g : Value} {r1 r2 : List V → Hp → VK → Prop} {f1 f2 : List D → Option Tok} (h1 : FCa X ca g r1 f1) (h2 : FCa X ca g r2 f2) : FCa X ca g (orRC r1 r2) (orC f1 f2) :=
  ⟨fun pins s σ H xs us Q I rs q => q.elim (h1.op pins s σ H xs us Q I rs) (h2.op pins s σ H xs us Q I rs), fun U H xs ds tk Q hs al hf q => by
    unfold orC at hf
    split at hf
    · rename_i t ht; cases hf; exact .inl (h1.s U H xs ds _ Q hs al ht q)
    · exact .inr (h2.s U H xs ds tk Q hs al hf q)⟩
def orSl (f g : D → Option Int → Option Int → Option Tok) (d : D) (l u : Option Int) : Option Tok := match f d l u with
  | some t => some t
  | none => g d l u
theorem FSl.or {r1 r2 : V → Option Int → Option Int → Hp → VK → Prop} {f1 f2 : D → Option Int → Option Int → Option Tok} (h1 : FSl X ca r1 f1) (h2 : FSl X ca r2 f2) : FSl X ca (orRS r1 r2) (orSl f1 f2) :=
  ⟨fun pins s σ H x v vl vu lo hi sl Q I rx hs pl pu q => q.elim (h1.op pins s σ H x v vl vu lo hi sl Q I rx hs pl pu) (h2.op pins s σ H x v vl vu lo hi sl Q I rx hs pl pu), fun U H x d l u tk Q hx al hf q => by
    unfold orSl at hf
    split at hf
    · rename_i t ht; cases hf; exact .inl (h1.s U H x d l u _ Q hx al ht q)
    · exact .inr (h2.s U H x d l u tk Q hx al hf q)⟩
def addD := orD addI (orD addS (orD addL addT))
abbrev rAddD (K : PySem.W.Frag) : R2 := orR GL.rAdd (orR GL.rAddS (orR rCat (rCatA K)))
theorem fop_add : FOp X ca (binaryOp .Add) (rAddD X.K) addD := fop_addI.or (fop_addS.or (fop_addL.or fop_addT))
abbrev subD := i2 (fun _ _ => true) fun i j => .int (i - j)
theorem fop_sub : FOp X ca (binaryOp .Sub) GL.rSub subD := ⟨op_sub, ops_i0 fun _ _ _ _ => .int _⟩
abbrev mulI := i2 (fun i j => decide (i.natAbs.log2 + j.natAbs.log2 < 1000000)) fun i j => .int (i * j)
theorem fop_mulI : FOp X ca (binaryOp .Mult) GL.rMulW mulI := ⟨op_mulW, ops_i (fun _ _ _ _ => .int _) fun i j h => by have h := of_decide_eq_true h; exact h⟩
abbrev modD := i2 (fun _ j => decide (0 < j)) fun i j => .int (i % j)
theorem fop_mod : FOp X ca (binaryOp .Mod) GL.rMod modD := ⟨op_mod, ops_i (fun _ _ _ _ => .int _) fun i j h => by have h := of_decide_eq_true h; exact h⟩
abbrev divD := i2 (fun _ j => decide (0 < j ∧ j.natAbs.log2 < 9000)) fun i j => .int (i / j)
theorem fop_div : FOp X ca (binaryOp .FloorDiv) (rI CDivW fun i j => .int (i / j)) divD := ⟨op_fdivW, ops_i (fun _ _ _ _ => .int _) fun i j h => by have h := of_decide_eq_true h; exact h⟩
abbrev powD := i2 (fun i j => decide (0 ≤ j ∧ (Builtin.Int.intBits i : Int) * j ≤ 2 ^ 27)) fun i j => .int (i ^ j.toNat)
theorem fop_pow : FOp X ca (binaryOp .Pow) GL.rPowW powD := ⟨op_powW, ops_i (fun _ _ _ _ => .int _) fun i j h => by have h := of_decide_eq_true h; exact h⟩
def mulL : D → D → Option Tok
  | .lst a, .int k => if k ≤ 1000000 ∧ -1000000 ≤ k ∧ a.length * k.toNat ≤ 1000000 then some (.new (.lst (List.replicate k.toNat a).flatten)) else none
  | _, _ => none
theorem RpA.rep {κ : Kx} {U : AS} {H : Hp} {xs : List V} {ds : List D} (r : RpA κ U H xs ds) : ∀ n : Nat, RpA κ U H (List.replicate n xs).flatten (List.replicate n ds).flatten
  | 0 => .nil
  | n + 1 => by rw [List.replicate_succ, List.replicate_succ, List.flatten_cons, List.flatten_cons]; exact r.append (RpA.rep r n)
theorem fop_mulL : FOp X ca (binaryOp .Mult) rRep mulL := by
  refine ⟨op_rep, fun U H x y d e tk Q hx hy al hf q => ?_⟩
  unfold mulL at hf
  split at hf
  · split at hf
    · rename_i hl
      obtain ⟨h1, h2, h3⟩ := hl
      cases hf
      cases hy
      cases hx with
      | lst h r => exact ⟨_, _, _, rfl, rfl, h, by omega, by omega, by rw [r.len]; exact sz h3, fun p np => q _ _ (.new np) ⟨p, rfl, np, Mo.newL (r.rep _) np⟩⟩
    · cases hf
  · cases hf
def mulT : D → D → Option Tok
  | .tup a, .int k => if a ≠ [] ∧ 2 ≤ k ∧ k ≤ 1000 ∧ a.length ≤ 1000 then some (.val (.tup (List.replicate k.toNat a).flatten)) else none
  | _, _ => none
theorem fop_mulT : FOp X ca (binaryOp .Mult) (rRepT X.K) mulT := by
  refine ⟨op_repT, fun U H x y d e tk Q hx hy al hf q => ?_⟩
  unfold mulT at hf
  split at hf
  · split at hf
    · rename_i hl
      obtain ⟨h0, h1, h2, h3⟩ := hl
      cases hf
      cases hy
      cases hx with
      | tup h r => exact ⟨_, _, _, rfl, rfl, h.sq, fun z => h0 (r.nil_iff.mp z), h1, h2, by rw [r.len]; exact h3, fun p np => q _ _ (.new np) (Rp.newT al (r.rep _) np)⟩
    · cases hf
  · cases hf
def mulD := orD mulI (orD mulL mulT)
abbrev rMulD (K : PySem.W.Frag) : R2 := orR GL.rMulW (orR rRep (rRepT K))
theorem fop_mul : FOp X ca (binaryOp .Mult) (rMulD X.K) mulD := fop_mulI.or (fop_mulL.or fop_mulT)
/-! ### comparisons -/
abbrev ltI := i2 (fun _ _ => true) fun i j => .bl (decide (i < j))
abbrev leI := i2 (fun _ _ => true) fun i j => .bl (decide (i ≤ j))
abbrev gtI := i2 (fun _ _ => true) fun i j => .bl (decide (j < i))
abbrev geI := i2 (fun _ _ => true) fun i j => .bl (decide (j ≤ i))
def ltS : D → D → Option Tok
  | .str a, .str b => some (.val (.bl (sLt a b)))
  | _, _ => none
def leS : D → D → Option Tok
  | .str a, .str b => some (.val (.bl (!sLt b a)))
  | _, _ => none
abbrev rLtSD : R2 := fun x y H Q => ∃ i j, x = .str i ∧ y = .str j ∧ Q (.bl (decide (i.cps.toList < j.cps.toList))) H
abbrev rLeSD : R2 := fun x y H Q => ∃ i j, x = .str i ∧ y = .str j ∧ Q (.bl (!decide (j.cps.toList < i.cps.toList))) H
theorem fop_ltS : FOp X ca (compareOp .Lt) rLtSD ltS := by
  refine ⟨op_lt_str, fun U H x y d e tk Q hx hy al hf q => ?_⟩
  unfold ltS at hf
  split at hf
  · cases hf; cases hx; cases hy; exact ⟨_, _, rfl, rfl, q _ H .refl (.bl _)⟩
  · cases hf
theorem fop_leS : FOp X ca (compareOp .LtE) rLeSD leS := by
  refine ⟨op_le_str, fun U H x y d e tk Q hx hy al hf q => ?_⟩
  unfold leS at hf
  split at hf
  · cases hf; cases hx; cases hy; exact ⟨_, _, rfl, rfl, q _ H .refl (.bl _)⟩
  · cases hf
def ltD := orD ltI ltS
def leD := orD leI leS
abbrev gtD := gtI
abbrev geD := geI
theorem fop_lt : FOp X ca (compareOp .Lt) (orR GL.rLt rLtSD) ltD := (show FOp X ca (compareOp .Lt) GL.rLt ltI from ⟨op_lt, ops_i0 fun _ _ _ _ => .bl _⟩).or fop_ltS
theorem fop_le : FOp X ca (compareOp .LtE) (orR GL.rLe rLeSD) leD := (show FOp X ca (compareOp .LtE) GL.rLe leI from ⟨op_le, ops_i0 fun _ _ _ _ => .bl _⟩).or fop_leS
theorem fop_gt : FOp X ca (compareOp .Gt) GL.rGt gtD := ⟨op_gt, ops_i0 fun _ _ _ _ => .bl _⟩
theorem fop_ge : FOp X ca (compareOp .GtE) GL.rGe geD := ⟨op_ge, ops_i0 fun _ _ _ _ => .bl _⟩
end
/-! ### data -/
mutual
def toP : D → Option PyData
  | .non => some .none
  | .bl b => some (.bool b)
  | .int i => some (.int i)
  | .str x => some (.str x)
  | .tup xs => match toPs xs with
    | some ps => some (.tuple ps)
    | none => none
  | .lst xs => match toPs xs with
    | some ps => some (.list ps)
    | none => none
  | .ty _ => none
  | .scr _ => none
  | .dct _ => none
  | .obj _ _ => none
  | .exc _ _ => none
def toPs : List D → Option (List PyData)
  | [] => some []
  | x :: xs => match toP x, toPs xs with
    | some p, some ps => some (p :: ps)
    | _, _ => none
end
mutual
theorem Rp.dp {κ : Kx} {U : AS} {H : Hp} : ∀ (d : D) (v : V) (p : PyData), Rp κ U H v d → toP d = some p → Dp κ.K H v p
  | .non, _, _, h, e => by cases h; cases e; exact .non
  | .bl b, _, _, h, e => by cases h; cases e; exact .bl b
  | .int b, _, _, h, e => by cases h; cases e; exact .int b
  | .str b, _, _, h, e => by cases h; cases e; exact .str b
  | .tup xs, _, p, h, e => by
    cases h with
    | tup h r =>
      unfold toP at e
      split at e
      · rename_i ps hp; cases e; exact .tup h.sq (RpA.dp xs _ ps r hp)
      · cases e
  | .lst xs, _, p, h, e => by
    cases h with
    | lst h n r =>
      unfold toP at e
      split at e
      · rename_i ps hp; cases e; exact .lst (.inl (.inl h)) (RpA.dp xs _ ps r hp)
      · cases e
  | .ty _, _, _, _, e => by cases e
  | .scr _, _, _, _, e => by cases e
  | .dct _, _, _, _, e => by cases e
  | .obj _ _, _, _, _, e => by cases e
  | .exc _ _, _, _, _, e => by cases e
theorem RpA.dp {κ : Kx} {U : AS} {H : Hp} : ∀ (ds : List D) (vs : List V) (ps : List PyData), RpA κ U H vs ds → toPs ds = some ps → DpAll κ.K H vs ps
  | [], _, _, h, e => by cases h; cases e; exact .nil
  | d :: ds, _, _, h, e => by
    cases h with
    | cons a b =>
      unfold toPs at e
      split at e
      · rename_i p ps h1 h2; cases e; exact .cons (Rp.dp d _ p a h1) (RpA.dp ds _ ps b h2)
      · cases e
end
theorem Rb.dp {κ : Kx} {U : AS} {H : Hp} {v : V} {d : D} {p : PyData} (h : Rb κ U H v d) (e : toP d = some p) : Dp κ.K H v p := by
  cases h with
  | non => cases e; exact .non
  | bl => cases e; exact .bl _
  | int => cases e; exact .int _
  | str => cases e; exact .str _
  | ty => cases e
  | tup h r =>
    unfold toP at e
    split at e
    · rename_i ps hp; cases e; exact .tup h.sq (RpA.dp _ _ ps r hp)
    · cases e
  | lst h r =>
    unfold toP at e
    split at e
    · rename_i ps hp; cases e; exact .lst (.inl (.inl h)) (RpA.dp _ _ ps r hp)
    · cases e
  | scr h => cases e
  | dct h r => cases e
  | obj h h2 n r => cases e
  | exc h n1 h2 n r => cases e
def eqP (d e : D) : Option Bool := match toP d, toP e with
  | some p, some q => if SeqAt.shaped p = true ∧ SeqAt.shaped q = true then some (PyData.eqv p q) else none
  | _, _ => none
def eqA (d e : D) : Option Tok := match eqP d e with
  | some b => some (.val (.bl b))
  | none => none
def neA (d e : D) : Option Tok := match eqP d e with
  | some b => some (.val (.bl (!b)))
  | none => none
/-- a dict and the empty one -/
def eq0 : D → D → Option Tok
  | .dct ks, .dct [] => some (.val (.bl ks.isEmpty))
  | _, _ => none
def ne0 : D → D → Option Tok
  | .dct ks, .dct [] => some (.val (.bl (!ks.isEmpty)))
  | _, _ => none
section
variable {X : Cx} {ca : Str → Addr}
theorem fop_eqA (hu : X.A.units + 64 < cLine) : FOp X ca (compareOp .Eq) (rEqD X.K) eqA := by
  refine ⟨op_eqD hu, fun U H x y d e tk Q hx hy al hf q => ?_⟩
  unfold eqA eqP at hf
  split at hf
  · rename_i b hb
    cases hf
    split at hb
    · rename_i p p2 h1 h2
      split at hb
      · rename_i hs
        cases hb
        exact ⟨_, _, hx.dp h1, hy.dp h2, hs.1, hs.2, q _ H .refl (.bl _)⟩
      · cases hb
    · cases hb
  · cases hf
theorem fop_neA (hu : X.A.units + 64 < cLine) : FOp X ca (compareOp .NotEq) (rNeD X.K) neA := by
  refine ⟨op_neD hu, fun U H x y d e tk Q hx hy al hf q => ?_⟩
  unfold neA eqP at hf
  split at hf
  · rename_i b hb
    cases hf
    split at hb
    · rename_i p p2 h1 h2
      split at hb
      · rename_i hs
        cases hb
        exact ⟨_, _, hx.dp h1, hy.dp h2, hs.1, hs.2, q _ H .refl (.bl _)⟩
      · cases hb
    · cases hb
  · cases hf
end
end FL

set_option Elab.async false
set_option linter.all false
set_option maxRecDepth 100000
set_option maxHeartbeats 4000000
set_option exponentiation.threshold 100000
/-! F9: more operators by values. -/
namespace FL
open PySem PySem.Spec PyProof.Rows L2 GL
section
variable {X : Cx} {ca : Str → Addr}
def rE0 (neg : Bool) : R2 := fun x y H Q => ∃ a b ks, x = .ref a ∧ y = .ref b ∧ Rd H a (.dK ks) ∧ Rd H b (.dK []) ∧ Q (.bl (if neg then !ks.isEmpty else ks.isEmpty)) H
theorem op_e0 (hu : X.A.units < cLine) : OpR X (compareOp .Eq) (rE0 false) := by
  intro pins s σ H x y v u Q I rx ry h
  obtain ⟨a, b, ks, rfl, rfl, ea, eb, q⟩ := h
  cases rx
  cases ry
  obtain ⟨_, ya, va, ra, da⟩ := (show ObjOk X.prog X.w H s.heap a (.dK ks) from ea.ok I.hok)
  obtain ⟨_, yb, vb, rb, db⟩ := (show ObjOk X.prog X.w H s.heap b (.dK []) from eb.ok I.hok)
  have e0 := kv_nil rb
  subst e0
  have hl : va.length = ks.length := ra.length.symm
  refine PySem.W.keq_eq (knd := mixKind X.prog X.w) (r := true) ya yb da db hu (fun z => ?_) (fin_bl I q ?_)
  · have : va = [] := List.length_eq_zero_iff.mp z
    rw [this]
    exact .nil
  · rw [hl]
    cases ks <;> rfl
theorem op_n0 (hu : X.A.units < cLine) : OpR X (compareOp .NotEq) (rE0 true) := by
  intro pins s σ H x y v u Q I rx ry h
  obtain ⟨a, b, ks, rfl, rfl, ea, eb, q⟩ := h
  cases rx
  cases ry
  obtain ⟨_, ya, va, ra, da⟩ := (show ObjOk X.prog X.w H s.heap a (.dK ks) from ea.ok I.hok)
  obtain ⟨_, yb, vb, rb, db⟩ := (show ObjOk X.prog X.w H s.heap b (.dK []) from eb.ok I.hok)
  have e0 := kv_nil rb
  subst e0
  have hl : va.length = ks.length := ra.length.symm
  refine PySem.W.keq_ne (knd := mixKind X.prog X.w) (r := true) ya yb da db hu (fun z => ?_) (fin_bl I q ?_)
  · have : va = [] := List.length_eq_zero_iff.mp z
    rw [this]
    exact .nil
  · rw [hl]
    cases ks <;> rfl
theorem RpK.isEmpty {κ : Kx} {U : AS} {H : Hp} {kvs : List (Key × V)} {ds : List (Key × D)} (r : RpK κ U H kvs ds) : kvs.isEmpty = ds.isEmpty := by cases r <;> rfl
theorem fop_eq0 (hu : X.A.units < cLine) : FOp X ca (compareOp .Eq) (rE0 false) eq0 := by
  refine ⟨op_e0 hu, fun U H x y d e tk Q hx hy al hf q => ?_⟩
  unfold eq0 at hf
  split at hf
  · cases hf
    cases hx with
    | dct h1 r1 =>
      cases hy with
      | dct h2 r2 =>
        cases r2
        refine ⟨_, _, _, rfl, rfl, h1, h2, ?_⟩
        rw [r1.isEmpty]
        exact q _ H .refl (.bl _)
  · cases hf
theorem fop_ne0 (hu : X.A.units < cLine) : FOp X ca (compareOp .NotEq) (rE0 true) ne0 := by
  refine ⟨op_n0 hu, fun U H x y d e tk Q hx hy al hf q => ?_⟩
  unfold ne0 at hf
  split at hf
  · cases hf
    cases hx with
    | dct h1 r1 =>
      cases hy with
      | dct h2 r2 =>
        cases r2
        refine ⟨_, _, _, rfl, rfl, h1, h2, ?_⟩
        rw [r1.isEmpty]
        exact q _ H .refl (.bl _)
  · cases hf
def eqD := orD eqA eq0
def neD := orD neA ne0
abbrev rEqDD (K : PySem.W.Frag) : R2 := orR (rEqD K) (rE0 false)
abbrev rNeDD (K : PySem.W.Frag) : R2 := orR (rNeD K) (rE0 true)
theorem fop_eq (hu : X.A.units + 64 < cLine) : FOp X ca (compareOp .Eq) (rEqDD X.K) eqD := (fop_eqA hu).or (fop_eq0 (by omega))
theorem fop_ne (hu : X.A.units + 64 < cLine) : FOp X ca (compareOp .NotEq) (rNeDD X.K) neD := (fop_neA hu).or (fop_ne0 (by omega))
/-! ### in -/
def flatD : D → Bool
  | .non => true
  | .bl _ => true
  | .int _ => true
  | .str _ => true
  | _ => false
def eqF : D → D → Bool
  | .non, .non => true
  | .bl a, .bl b => a == b
  | .bl a, .int b => (if a then 1 else 0) == b
  | .int a, .bl b => a == (if b then 1 else 0)
  | .int a, .int b => a == b
  | .str a, .str b => a == b
  | _, _ => false
theorem flat_rp {κ : Kx} {U : AS} {H : Hp} {v : V} {d : D} (h : Rp κ U H v d) : flatV v = flatD d := by cases h <;> rfl
theorem flat_rb {κ : Kx} {U : AS} {H : Hp} {v : V} {d : D} (h : Rb κ U H v d) : flatV v = flatD d := by cases h <;> rfl
theorem flat_eq {κ : Kx} {U : AS} {H : Hp} {v w : V} {d e : D} (h : Rp κ U H v d) (g : Rb κ U H w e) (f : flatD d = true) (f2 : flatD e = true) : eqV v w = eqF d e := by
  cases h <;> first | (cases f; done) | (cases g <;> first | rfl | (cases f2; done))
theorem flat_all {κ : Kx} {U : AS} {H : Hp} {xs : List V} {ds : List D} (r : RpA κ U H xs ds) : xs.all flatV = ds.all flatD := by
  induction ds generalizing xs with
  | nil => cases r; rfl
  | cons d ds ih => cases r with | cons a b => simp only [List.all_cons, flat_rp a, ih b]
theorem flat_in {κ : Kx} {U : AS} {H : Hp} {xs : List V} {ds : List D} {w : V} {e : D} (r : RpA κ U H xs ds) (g : Rb κ U H w e) (f : ds.all flatD = true) (f2 : flatD e = true) : inV w xs = ds.any fun d => eqF d e := by
  unfold inV
  induction ds generalizing xs with
  | nil => cases r; rfl
  | cons d ds ih =>
    cases r with
    | cons a b =>
      simp only [List.all_cons, Bool.and_eq_true] at f
      simp only [List.any_cons, flat_eq a g f.1 f2, ih b f.2]
def inQ (neg : Bool) (x y : D) : Option Tok := match y with
  | .lst ds => if flatD x = true ∧ ds.all flatD = true then some (.val (.bl (if neg then !(ds.any fun d => eqF d x) else ds.any fun d => eqF d x))) else none
  | .tup ds => if flatD x = true ∧ ds.all flatD = true then some (.val (.bl (if neg then !(ds.any fun d => eqF d x) else ds.any fun d => eqF d x))) else none
  | _ => none
theorem ops_in {neg : Bool} : OpS (kx X ca) (rIn X.K neg) (inQ neg) := by
  intro U H x y d e tk Q hx hy al hf q
  unfold inQ at hf
  split at hf
  · split at hf
    · rename_i ds hc
      cases hf
      cases hy with
      | lst h r => exact ⟨_, _, rfl, .inl (.inl (.inl h)), by rw [flat_rb hx]; exact hc.1, by rw [flat_all r]; exact hc.2, by rw [flat_in r hx hc.2 hc.1]; exact q _ H .refl (.bl _)⟩
    · cases hf
  · split at hf
    · rename_i ds hc
      cases hf
      cases hy with
      | tup h r => exact ⟨_, _, rfl, .inr h.sq, by rw [flat_rb hx]; exact hc.1, by rw [flat_all r]; exact hc.2, by rw [flat_in r hx hc.2 hc.1]; exact q _ H .refl (.bl _)⟩
    · cases hf
  · cases hf
/-- one sign in a text -/
def inS (neg : Bool) (x y : D) : Option Tok := match x, y with
  | .str a, .str z => match a.cps.toList with
    | [c] => some (.val (.bl (if neg then !decide (c ∈ z.cps.toList) else decide (c ∈ z.cps.toList))))
    | _ => none
  | _, _ => none
theorem str1 {a : Str} {c : Nat} (h : a.cps.toList = [c]) : a = ⟨#[c]⟩ := by
  obtain ⟨⟨l⟩⟩ := a
  simp at h
  subst h
  rfl
theorem ops_inS : OpS (kx X ca) rInS (inS false) := by
  intro U H x y d e tk Q hx hy al hf q
  unfold inS at hf
  split at hf
  · split at hf
    · rename_i h
      cases hf; cases hx; cases hy
      exact ⟨_, _, by rw [str1 h], rfl, q _ H .refl (.bl _)⟩
    · cases hf
  · cases hf
theorem ops_notInS : OpS (kx X ca) rNotInS (inS true) := by
  intro U H x y d e tk Q hx hy al hf q
  unfold inS at hf
  split at hf
  · split at hf
    · rename_i h
      cases hf; cases hx; cases hy
      exact ⟨_, _, by rw [str1 h], rfl, q _ H .refl (.bl _)⟩
    · cases hf
  · cases hf
/-- a key of a dict -/
def getD' (kvs : List (Key × D)) (k : Key) : Option D := (kvs.find? fun kv => decide (kv.1 = k)).map (·.2)
theorem RpK.get {κ : Kx} {U : AS} {H : Hp} {kvs : List (Key × V)} {ds : List (Key × D)} (r : RpK κ U H kvs ds) (k : Key) : (∃ v d, valV kvs k = some v ∧ getD' ds k = some d ∧ Rp κ U H v d) ∨ (valV kvs k = none ∧ getD' ds k = none) := by
  induction ds generalizing kvs with
  | nil => cases r; exact .inr ⟨rfl, rfl⟩
  | cons d ds ih =>
    cases r with
    | cons a b =>
      rename_i k0 v vs d
      by_cases e : k0 = k
      · left
        exact ⟨v, d, by rw [valV_pos e], by simp [getD', List.find?_cons, e], a⟩
      · have e1 : valV ((k0, v) :: vs) k = valV vs k := valV_neg e
        have e2 : getD' ((k0, d) :: ds) k = getD' ds k := by simp [getD', List.find?_cons, e]
        rw [e1, e2]
        exact ih b
def inK (neg : Bool) (x y : D) : Option Tok := match y with
  | .dct ds => match keyOf x with
    | some k => some (.val (.bl (if neg then !(getD' ds k).isSome else (getD' ds k).isSome)))
    | none => none
  | _ => none
abbrev rDInD : R2 := fun y x H Q => ∃ a o, x = .ref a ∧ DGet H a y o ∧ Q (.bl o.isSome) H
abbrev rDNotInD : R2 := fun y x H Q => ∃ a o, x = .ref a ∧ DGet H a y o ∧ Q (.bl (!o.isSome)) H
theorem fop_inK (hu : X.A.units + 1 < cLine) : FOp X ca (compareOp .In) rDInD (inK false) := by
  refine ⟨fun pins s σ H y x u v Q I ry rx h => ?_, fun U H x y d e tk Q hx hy al hf q => ?_⟩
  · obtain ⟨a, o, rfl, g, q⟩ := h
    cases rx
    exact d_in hu I g ry fun s3 I3 => ⟨.bl o.isSome, H, I3, rfl, q⟩
  · unfold inK at hf
    split at hf
    · split at hf
      · rename_i ds k hk
        cases hf
        cases hy with
        | dct h r =>
          refine ⟨_, _, rfl, .inl ⟨_, k, h, keyOf_rb hx hk, rfl⟩, ?_⟩
          rcases r.get k with ⟨v, d', e1, e2, _⟩ | ⟨e1, e2⟩
          · rw [e1]; rw [e2] at q; exact q _ H .refl (.bl _)
          · rw [e1]; rw [e2] at q; exact q _ H .refl (.bl _)
      · cases hf
    · cases hf
theorem fop_notInK (hu : X.A.units + 1 < cLine) : FOp X ca (compareOp .NotIn) rDNotInD (inK true) := by
  refine ⟨fun pins s σ H y x u v Q I ry rx h => ?_, fun U H x y d e tk Q hx hy al hf q => ?_⟩
  · obtain ⟨a, o, rfl, g, q⟩ := h
    cases rx
    exact d_notIn hu I g ry fun s3 I3 => ⟨.bl (!o.isSome), H, I3, rfl, q⟩
  · unfold inK at hf
    split at hf
    · split at hf
      · rename_i ds k hk
        cases hf
        cases hy with
        | dct h r =>
          refine ⟨_, _, rfl, .inl ⟨_, k, h, keyOf_rb hx hk, rfl⟩, ?_⟩
          rcases r.get k with ⟨v, d', e1, e2, _⟩ | ⟨e1, e2⟩
          · rw [e1]; rw [e2] at q; exact q _ H .refl (.bl _)
          · rw [e1]; rw [e2] at q; exact q _ H .refl (.bl _)
      · cases hf
    · cases hf
def inD := orD (inQ false) (orD (inS false) (inK false))
def notInD := orD (inQ true) (orD (inS true) (inK true))
abbrev rInDD (K : PySem.W.Frag) : R2 := orR (rIn K false) (orR rInS rDInD)
abbrev rNotInDD (K : PySem.W.Frag) : R2 := orR (rIn K true) (orR rNotInS rDNotInD)
theorem fop_in (hu : X.A.units + 1 < cLine) : FOp X ca (compareOp .In) (rInDD X.K) inD := FOp.or ⟨op_in_seq, ops_in⟩ (FOp.or ⟨op_inS, ops_inS⟩ (fop_inK hu))
theorem fop_notIn (hu : X.A.units + 1 < cLine) : FOp X ca (compareOp .NotIn) (rNotInDD X.K) notInD := FOp.or ⟨op_notIn_seq, ops_in⟩ (FOp.or ⟨op_notInS, ops_notInS⟩ (fop_notInK hu))
/-! ### is -/
def isN0 (neg : Bool) : D → D → Option Tok
  | .non, .non => some (.val (.bl (!neg)))
  | _, .non => some (.val (.bl neg))
  | _, _ => none
def isB (neg : Bool) : D → D → Option Tok
  | .bl a, .bl b => some (.val (.bl (if neg then !decide (a = b) else decide (a = b))))
  | _, _ => none
theorem ops_isN : OpS (kx X ca) rIsN (isN0 false) := by
  intro U H x y d e tk Q hx hy al hf q
  unfold isN0 at hf
  split at hf
  · cases hf; cases hx; cases hy; exact ⟨rfl, q _ H .refl (.bl _)⟩
  · rename_i hd
    cases hf; cases hy
    refine ⟨rfl, ?_⟩
    have : x ≠ .non := by rintro rfl; cases hx; exact hd rfl
    rw [decide_eq_false this]
    exact q _ H .refl (.bl _)
  · cases hf
theorem ops_notN : OpS (kx X ca) rNotN (isN0 true) := by
  intro U H x y d e tk Q hx hy al hf q
  unfold isN0 at hf
  split at hf
  · cases hf; cases hx; cases hy; exact ⟨rfl, q _ H .refl (.bl _)⟩
  · rename_i hd
    cases hf; cases hy
    refine ⟨rfl, ?_⟩
    have : x ≠ .non := by rintro rfl; cases hx; exact hd rfl
    rw [decide_eq_false this]
    exact q _ H .refl (.bl _)
  · cases hf
theorem ops_isB : OpS (kx X ca) rIsB (isB false) := by
  intro U H x y d e tk Q hx hy al hf q
  unfold isB at hf
  split at hf
  · cases hf; cases hx; cases hy; exact ⟨_, _, rfl, rfl, q _ H .refl (.bl _)⟩
  · cases hf
theorem ops_notB : OpS (kx X ca) rNotB (isB true) := by
  intro U H x y d e tk Q hx hy al hf q
  unfold isB at hf
  split at hf
  · cases hf; cases hx; cases hy; exact ⟨_, _, rfl, rfl, q _ H .refl (.bl _)⟩
  · cases hf
def isD := orD (isN0 false) (isB false)
def isNotD := orD (isN0 true) (isB true)
theorem fop_is : FOp X ca (compareOp .Is) (orR rIsN rIsB) isD := FOp.or ⟨op_isN1, ops_isN⟩ ⟨op_isBl, ops_isB⟩
theorem fop_isNot : FOp X ca (compareOp .IsNot) (orR rNotN rNotB) isNotD := FOp.or ⟨op_notN1, ops_notN⟩ ⟨op_notBl, ops_notB⟩
/-! ### unary -/
def negD : D → Option Tok
  | .int i => some (.val (.int (-i)))
  | _ => none
theorem fun_neg : FUn X ca (unaryOp .USub) GL.rNeg negD := by
  refine ⟨un_neg, fun U H x d tk Q hx al hf q => ?_⟩
  unfold negD at hf
  split at hf
  · cases hf; cases hx; exact ⟨_, rfl, q _ H .refl (.int _)⟩
  · cases hf
/-! ### items -/
def vOpt (o : Option D) : Option Tok := match o with
  | some d => some (.val d)
  | none => none
def ixL : D → D → Option Tok
  | .lst ds, .int i => vOpt (atI ds i)
  | _, _ => none
def ixT : D → D → Option Tok
  | .tup ds, .int i => vOpt (atI ds i)
  | _, _ => none
def ixS : D → D → Option Tok
  | .str z, .int i => if z.length ≤ 1000000 then (match atI z.cps.toList i with
    | some c => some (.val (.str ⟨#[c]⟩))
    | none => none) else none
  | _, _ => none
def ixScr : D → D → Option Tok
  | .scr ns, .int i => match atI ns i with
    | some n => some (.val (.int n))
    | none => none
  | _, _ => none
def ixK : D → D → Option Tok
  | .dct ds, k => match keyOf k with
    | some k => vOpt (getD' ds k)
    | none => none
  | _, _ => none
theorem RpA.ix {κ : Kx} {U : AS} {H : Hp} {xs : List V} {ds : List D} {i : Int} {d : D} (r : RpA κ U H xs ds) (h : atI ds i = some d) : ∃ v, atI xs i = some v ∧ Rp κ U H v d := by
  unfold atI at h ⊢
  rw [r.len]
  cases e : ixN ds.length i with
  | none => rw [e] at h; cases h
  | some j =>
    rw [e] at h
    exact r.at' h
theorem ops_ixL : OpS (kx X ca) (rIxL X.K) ixL := by
  intro U H x y d e tk Q hx hy al hf q
  unfold ixL vOpt at hf
  split at hf
  · split at hf
    · rename_i hi
      cases hf; cases hy
      cases hx with
      | lst h r =>
        obtain ⟨v, e1, r1⟩ := r.ix hi
        exact ⟨_, _, _, v, rfl, rfl, .inl (.inl h), e1, q _ H .refl r1⟩
    · cases hf
  · cases hf
theorem ops_ixT : OpS (kx X ca) (rIxT X.K) ixT := by
  intro U H x y d e tk Q hx hy al hf q
  unfold ixT vOpt at hf
  split at hf
  · split at hf
    · rename_i hi
      cases hf; cases hy
      cases hx with
      | tup h r =>
        obtain ⟨v, e1, r1⟩ := r.ix hi
        exact ⟨_, _, _, v, rfl, rfl, h.sq, e1, q _ H .refl r1⟩
    · cases hf
  · cases hf
theorem ops_ixS : OpS (kx X ca) rIxS ixS := by
  intro U H x y d e tk Q hx hy al hf q
  unfold ixS at hf
  split at hf
  · split at hf
    · split at hf
      · cases hf; cases hx; cases hy
        exact ⟨_, _, _, rfl, rfl, sz (by assumption), by assumption, q _ H .refl (.str _)⟩
      · cases hf
    · cases hf
  · cases hf
theorem ops_ixScr : OpS (kx X ca) (rIxL X.K) ixScr := by
  intro U H x y d e tk Q hx hy al hf q
  unfold ixScr at hf
  split at hf
  · split at hf
    · rename_i n hi
      cases hf; cases hy
      cases hx with
      | scr h =>
        refine ⟨_, _, _, .int n, rfl, rfl, h, ?_, q _ H .refl (.int _)⟩
        unfold atI at hi ⊢
        rw [List.length_map]
        cases e : ixN _ _ with
        | none => rw [e] at hi; cases hi
        | some j =>
          rw [e] at hi
          show (List.map V.int _)[j]? = some _
          rw [List.getElem?_map]
          simp only [Option.bind_some] at hi
          rw [hi]; rfl
    · cases hf
  · cases hf
abbrev rIxDk : R2 := fun x y H Q => ∃ a v, x = .ref a ∧ DGet H a y (some v) ∧ Q v H
theorem ix_dk (hu : X.A.units + 1 < cLine) : IxR X rIxDk := by
  intro value slice pins s σ H x y v u Q I rx ry h hs
  obtain ⟨a, w, rfl, g, q⟩ := h
  cases rx
  unfold subscriptTail
  refine wpAny_bind ?_
  rw [getitemInPython_of_ne (dict_typeIs I g).not_modules]
  refine wpAny_bind (wpAny_specialOf (dict_typeIs I g) PySem.F.slot_dict_getitem.lookup ?_)
  have fin : wpAny (model X.prog X.w) X.A (subscripted slice false (.ref a) u) (fun r s₃ => wpAny (model X.prog X.w) X.A (letTemporaryGo value (.ref a) r >>= fun _ => pure r) (EP X pins σ Q) X.xe s₃) X.xe s := by
    rw [hs]
    exact wpAny_operating (wpAny_mono (d_getItem hu I g ry fun w' s3 I3 rw' => (⟨w, H, I3, rw', q⟩ : EP X pins σ Q w' s3)) (fun r s₃ h₃ => wpAny_bind (wpAny_letTemporaryGo (wpAny_pure h₃))) fun _ _ x => x)
  first
    | exact wpAny_pure (wpAny_bind fin)
    | exact wpAny_bind fin
    | exact fin
theorem fix_K (hu : X.A.units + 1 < cLine) : FIx X ca rIxDk ixK := by
  refine ⟨ix_dk hu, fun U H x y d e tk Q hx hy al hf q => ?_⟩
  unfold ixK vOpt at hf
  split at hf
  · split at hf
    · rename_i ds k hk
      split at hf
      · rename_i dd hd
        cases hf
        cases hx with
        | dct h r =>
          rcases r.get k with ⟨v, d', e1, e2, r1⟩ | ⟨e1, e2⟩
          · rw [hd] at e2; cases e2
            exact ⟨_, v, rfl, .inl ⟨_, k, h, keyOf_rb hy hk, e1.symm⟩, q _ H .refl r1⟩
          · rw [hd] at e2; cases e2
      · cases hf
    · cases hf
  · cases hf
def ixD := orD ixL (orD ixT (orD ixS (orD ixScr ixK)))
abbrev rIxDD (K : PySem.W.Frag) : R2 := orR (rIxL K) (orR (rIxT K) (orR rIxS (orR (rIxL K) rIxDk)))
theorem fix_D (hu : X.A.units + 1 < cLine) : FIx X ca (rIxDD X.K) ixD := FIx.or ⟨ix_list, ops_ixL⟩ (FIx.or ⟨ix_tup, ops_ixT⟩ (FIx.or ⟨ix_str, ops_ixS⟩ (FIx.or ⟨ix_list, ops_ixScr⟩ (fix_K hu))))
/-! ### slices -/
def cutD (xs : List D) (lo hi : Option Int) : List D := (xs.drop (HT.sIx xs.length 0 lo)).take (HT.sIx xs.length xs.length hi - HT.sIx xs.length 0 lo)
theorem RpA.drop {κ : Kx} {U : AS} {H : Hp} {xs : List V} {ds : List D} (r : RpA κ U H xs ds) (n : Nat) : RpA κ U H (xs.drop n) (ds.drop n) := by
  induction n generalizing xs ds with
  | zero => exact r
  | succ n ih => cases r with | nil => exact .nil | cons a b => exact ih b
theorem RpA.take {κ : Kx} {U : AS} {H : Hp} {xs : List V} {ds : List D} (r : RpA κ U H xs ds) (n : Nat) : RpA κ U H (xs.take n) (ds.take n) := by
  induction n generalizing xs ds with
  | zero => exact .nil
  | succ n ih => cases r with | nil => exact .nil | cons a b => exact .cons a (ih b)
theorem RpA.cut {κ : Kx} {U : AS} {H : Hp} {xs : List V} {ds : List D} (r : RpA κ U H xs ds) (lo hi : Option Int) : RpA κ U H (cutV xs lo hi) (cutD ds lo hi) := by
  unfold cutV cutD
  rw [r.len]
  exact (r.drop _).take _
def slL : D → Option Int → Option Int → Option Tok
  | .lst ds, lo, hi => some (.new (.lst (cutD ds lo hi)))
  | _, _, _ => none
def slT : D → Option Int → Option Int → Option Tok
  | .tup ds, lo, hi => some (.val (.tup (cutD ds lo hi)))
  | _, _, _ => none
def slS : D → Option Int → Option Int → Option Tok
  | .str z, lo, hi => if z.length ≤ 1000000 then some (.val (.str (cutS z lo hi))) else none
  | _, _, _ => none
theorem sls_L : SlS (kx X ca) (rSlL X.K) slL := by
  intro U H x d lo hi tk Q hx al hf q
  unfold slL at hf
  split at hf
  · cases hf
    cases hx with
    | lst h r => exact ⟨_, _, rfl, .inl (.inl h), fun p np => q _ _ (.new np) ⟨p, rfl, np, Mo.newL (r.cut lo hi) np⟩⟩
  · cases hf
theorem cut_all {α : Type} {xs : List α} {lo hi : Option Int} (h : HT.sIx xs.length 0 lo = 0 ∧ HT.sIx xs.length xs.length hi = xs.length) : (xs.drop (HT.sIx xs.length 0 lo)).take (HT.sIx xs.length xs.length hi - HT.sIx xs.length 0 lo) = xs := by
  rw [h.1, h.2]; simp
theorem sls_T : SlS (kx X ca) (rSlA X.K) slT := by
  intro U H x d lo hi tk Q hx al hf q
  unfold slT at hf
  split at hf
  · rename_i ds
    cases hf
    cases hx with
    | tup h r =>
      refine ⟨_, _, rfl, h.sq, fun hw => ?_, fun hw p np => q _ _ (.new np) (Rp.newT al (r.cut lo hi) np)⟩
      rw [r.len] at hw
      have e : cutD ds lo hi = ds := cut_all hw
      rw [e] at q
      exact q _ H .refl (.tup h r)
  · cases hf
theorem sls_S : SlS (kx X ca) rSlS slS := by
  intro U H x d lo hi tk Q hx al hf q
  unfold slS at hf
  split at hf
  · split at hf
    · cases hf; cases hx
      exact ⟨_, rfl, sz (by assumption), q _ H .refl (.str _)⟩
    · cases hf
  · cases hf
def slD := orSl slL (orSl slT slS)
abbrev rSlD (K : PySem.W.Frag) : V → Option Int → Option Int → Hp → VK → Prop := orRS (rSlL K) (orRS (rSlA K) rSlS)
theorem fsl_D : FSl X ca (rSlD X.K) slD := FSl.or ⟨sl_list, sls_L⟩ (FSl.or ⟨sl_tupA, sls_T⟩ ⟨sl_str, sls_S⟩)
/-! ### built-ins -/
def c1 (f : D → Option Tok) : List D → Option Tok
  | [d] => f d
  | _ => none
def c2 (f : D → D → Option Tok) : List D → Option Tok
  | [d, e] => f d e
  | _ => none
theorem c1_some {f : D → Option Tok} {ds : List D} {tk : Tok} (h : c1 f ds = some tk) : ∃ d, ds = [d] ∧ f d = some tk := by
  unfold c1 at h
  split at h
  · exact ⟨_, rfl, h⟩
  · cases h
theorem c2_some {f : D → D → Option Tok} {ds : List D} {tk : Tok} (h : c2 f ds = some tk) : ∃ d e, ds = [d, e] ∧ f d e = some tk := by
  unfold c2 at h
  split at h
  · exact ⟨_, _, rfl, h⟩
  · cases h
def len1 : D → Option Tok
  | .lst ds => some (.val (.int ds.length))
  | .tup ds => some (.val (.int ds.length))
  | .scr ns => some (.val (.int ns.length))
  | _ => none
theorem fca_len1 : FCa X ca (.builtin "len") (GL.rLenQ X.K) (c1 len1) := by
  refine ⟨call_len_seq, fun U H xs ds tk Q hs al hf q => ?_⟩
  replace hf := c1_some hf
  obtain ⟨d, rfl, hf⟩ := hf
  cases hs with
  | cons a b =>
    cases b
    unfold len1 at hf
    split at hf
    · cases hf
      cases a with
      | lst h r => exact ⟨_, _, rfl, .inl (.inl (.inl h)), by rw [r.len]; exact q _ H .refl (.int _)⟩
    · cases hf
      cases a with
      | tup h r => exact ⟨_, _, rfl, .inr h.sq, by rw [r.len]; exact q _ H .refl (.int _)⟩
    · cases hf
      cases a with
      | scr h => exact ⟨_, _, rfl, .inl h, by rw [List.length_map]; exact q _ H .refl (.int _)⟩
    · cases hf
def len2 : D → Option Tok
  | .str z => if z.length ≤ 1000000 then some (.val (.int z.length)) else none
  | _ => none
abbrev rLenStr : List V → Hp → VK → Prop := fun xs H Q => ∃ z, xs = [.str z] ∧ z.length ≤ sizeLine ∧ Q (.int z.length) H
theorem fca_len2 : FCa X ca (.builtin "len") rLenStr (c1 len2) := by
  refine ⟨call_len_str, fun U H xs ds tk Q hs al hf q => ?_⟩
  replace hf := c1_some hf
  obtain ⟨d, rfl, hf⟩ := hf
  cases hs with
  | cons a b =>
    cases b
    unfold len2 at hf
    split at hf
    · split at hf
      · cases hf; cases a
        exact ⟨_, rfl, sz (by assumption), q _ H .refl (.int _)⟩
      · cases hf
    · cases hf
def lenD := orC (c1 len1) (c1 len2)
theorem fca_len : FCa X ca (.builtin "len") (orRC (GL.rLenQ X.K) rLenStr) lenD := fca_len1.or fca_len2
def absD : D → Option Tok
  | .int i => some (.val (.int (if i < 0 then -i else i)))
  | _ => none
theorem fca_abs : FCa X ca (.builtin "abs") GL.rAbs (c1 absD) := by
  refine ⟨call_abs, fun U H xs ds tk Q hs al hf q => ?_⟩
  replace hf := c1_some hf
  obtain ⟨d, rfl, hf⟩ := hf
  cases hs with
  | cons a b =>
    cases b
    unfold absD at hf
    split at hf
    · cases hf; cases a; exact ⟨_, rfl, q _ H .refl (.int _)⟩
    · cases hf
def intD : D → Option Tok
  | .int i => some (.val (.int i))
  | .bl k => some (.val (.int (if k then 1 else 0)))
  | _ => none
theorem fca_int : FCa X ca (.type "int") GL.rInt1 (c1 intD) := by
  refine ⟨call_int1, fun U H xs ds tk Q hs al hf q => ?_⟩
  replace hf := c1_some hf
  obtain ⟨d, rfl, hf⟩ := hf
  cases hs with
  | cons a b =>
    cases b
    unfold intD at hf
    split at hf
    · cases hf; cases a; exact .inl ⟨_, rfl, q _ H .refl (.int _)⟩
    · cases hf; cases a; exact .inr ⟨_, rfl, q _ H .refl (.int _)⟩
    · cases hf
def min2 : D → D → Option Tok
  | .int i, .int j => some (.val (.int (if j < i then j else i)))
  | _, _ => none
def max2 : D → D → Option Tok
  | .int i, .int j => some (.val (.int (if j > i then j else i)))
  | _, _ => none
theorem fca_min2 (hc : X.calm = true) : FCa X ca (.builtin "min") GL.rMin2 (c2 min2) := by
  refine ⟨call_min2 hc, fun U H xs ds tk Q hs al hf q => ?_⟩
  replace hf := c2_some hf
  obtain ⟨d, e, rfl, hf⟩ := hf
  cases hs with
  | cons a b =>
    cases b with
    | cons b c =>
      cases c
      unfold min2 at hf
      split at hf
      · cases hf; cases a; cases b; exact ⟨_, _, rfl, q _ H .refl (.int _)⟩
      · cases hf
theorem fca_max2 (hc : X.calm = true) : FCa X ca (.builtin "max") GL.rMax2 (c2 max2) := by
  refine ⟨call_max2 hc, fun U H xs ds tk Q hs al hf q => ?_⟩
  replace hf := c2_some hf
  obtain ⟨d, e, rfl, hf⟩ := hf
  cases hs with
  | cons a b =>
    cases b with
    | cons b c =>
      cases c
      unfold max2 at hf
      split at hf
      · cases hf; cases a; cases b; exact ⟨_, _, rfl, q _ H .refl (.int _)⟩
      · cases hf
def listD : D → Option Tok
  | .lst ds => some (.new (.lst ds))
  | .tup ds => some (.new (.lst ds))
  | _ => none
theorem fca_list : FCa X ca (.type "list") (GL.rListQ X.K) (c1 listD) := by
  refine ⟨call_list_of, fun U H xs ds tk Q hs al hf q => ?_⟩
  replace hf := c1_some hf
  obtain ⟨d, rfl, hf⟩ := hf
  cases hs with
  | cons a b =>
    cases b
    unfold listD at hf
    split at hf
    · cases hf
      cases a with
      | lst h r => exact ⟨_, _, rfl, .inl (.inl (.inl h)), fun p np => q _ _ (.new np) ⟨p, rfl, np, Mo.newL r np⟩⟩
    · cases hf
      cases a with
      | tup h r => exact ⟨_, _, rfl, .inr h.sq, fun p np => q _ _ (.new np) ⟨p, rfl, np, Mo.newL r np⟩⟩
    · cases hf
def tupleD : D → Option Tok
  | .lst ds => some (.val (.tup ds))
  | .tup ds => some (.val (.tup ds))
  | _ => none
theorem fca_tuple : FCa X ca (.type "tuple") (GL.rTupQ X.K) (c1 tupleD) := by
  refine ⟨call_tuple_of, fun U H xs ds tk Q hs al hf q => ?_⟩
  replace hf := c1_some hf
  obtain ⟨d, rfl, hf⟩ := hf
  cases hs with
  | cons a b =>
    cases b
    unfold tupleD at hf
    split at hf
    · cases hf
      cases a with
      | lst h r => exact ⟨_, _, rfl, .inl ⟨.inl (.inl h), fun p np => q _ _ (.new np) (Rp.newT al r np)⟩⟩
    · cases hf
      cases a with
      | tup h r => exact ⟨_, _, rfl, .inr ⟨h.sq, q _ H .refl (.tup h r)⟩⟩
    · cases hf
def boolsD : List D → Option (List Bool)
  | [] => some []
  | .bl b :: ds => match boolsD ds with
    | some bs => some (b :: bs)
    | none => none
  | _ => none
theorem bools_rp {κ : Kx} {U : AS} {H : Hp} {xs : List V} {ds : List D} {bs : List Bool} (r : RpA κ U H xs ds) (h : boolsD ds = some bs) : xs = bs.map V.bl := by
  induction ds generalizing xs bs with
  | nil => cases r; cases h; rfl
  | cons d ds ih =>
    cases r with
    | cons a b =>
      cases d with
      | bl k =>
        unfold boolsD at h
        split at h
        · rename_i bs' hb; cases h; cases a; rw [ih b hb]; rfl
        · cases h
      | _ => cases h
def allD : D → Option Tok
  | .lst ds => match boolsD ds with
    | some bs => some (.val (.bl (bs.all id)))
    | none => none
  | _ => none
def anyD : D → Option Tok
  | .lst ds => match boolsD ds with
    | some bs => some (.val (.bl (bs.any id)))
    | none => none
  | _ => none
theorem fca_all (hc : X.calm = true) : FCa X ca (.builtin "all") (rAll X.K) (c1 allD) := by
  refine ⟨cr_all hc, fun U H xs ds tk Q hs al hf q => ?_⟩
  replace hf := c1_some hf
  obtain ⟨d, rfl, hf⟩ := hf
  cases hs with
  | cons a b =>
    cases b
    unfold allD at hf
    split at hf
    · split at hf
      · rename_i bs hb
        cases hf
        cases a with
        | lst h r => exact ⟨_, bs, rfl, .inl (.inl (bools_rp r hb ▸ h)), q _ H .refl (.bl _)⟩
      · cases hf
    · cases hf
theorem fca_any (hc : X.calm = true) : FCa X ca (.builtin "any") (rAny X.K) (c1 anyD) := by
  refine ⟨cr_any hc, fun U H xs ds tk Q hs al hf q => ?_⟩
  replace hf := c1_some hf
  obtain ⟨d, rfl, hf⟩ := hf
  cases hs with
  | cons a b =>
    cases b
    unfold anyD at hf
    split at hf
    · split at hf
      · rename_i bs hb
        cases hf
        cases a with
        | lst h r => exact ⟨_, bs, rfl, .inl (.inl (bools_rp r hb ▸ h)), q _ H .refl (.bl _)⟩
      · cases hf
    · cases hf
def reprD (d : D) : Option Tok := match toP d with
  | some p => if p.showable = true ∧ p.hasDict = false ∧ p.shown.length ≤ 1000000 ∧ p.depth ≤ 60 then some (.val (.str p.shown)) else none
  | none => none
theorem fca_repr (hg : X.A.guards = some []) (hu : X.A.units + 64 < cLine) : FCa X ca (.builtin "repr") (rRepr X.K) (c1 reprD) := by
  refine ⟨call_repr hg hu, fun U H xs ds tk Q hs al hf q => ?_⟩
  replace hf := c1_some hf
  obtain ⟨d, rfl, hf⟩ := hf
  cases hs with
  | cons a b =>
    cases b
    unfold reprD at hf
    split at hf
    · rename_i p hp
      split at hf
      · rename_i hc
        cases hf
        exact ⟨_, p, rfl, a.dp hp, hc.1, hc.2.1, sz hc.2.2.1, hc.2.2.2, q _ H .refl (.str _)⟩
      · cases hf
    · cases hf
end
end FL

set_option Elab.async false
set_option linter.all false
set_option maxRecDepth 100000
set_option maxHeartbeats 4000000
set_option exponentiation.threshold 100000
/-! F10: defs and their calls. -/
namespace FL
open PySem PySem.Spec PyProof.Rows L2 GL
inductive FRes where
  | ok (t : Tok) (ps : List D)
  | err (x : Exn) (ps : List D)
  | bad
abbrev Fn := List D → FRes
/-- arguments: by value (false), or an object that is lent (true) -/
inductive ArgsOk (κ : Kx) (U : AS) (H : Hp) : List Bool → List V → List D → Prop
  | nil : ArgsOk κ U H [] [] []
  | frz {m : List Bool} {v : V} {vs : List V} {d : D} {ds : List D} : Rp κ U H v d → ArgsOk κ U H m vs ds → ArgsOk κ U H (false :: m) (v :: vs) (d :: ds)
  | par {m : List Bool} {a : Addr} {vs : List V} {d : D} {ds : List D} : U a → Mo κ U H a d → ArgsOk κ U H m vs ds → ArgsOk κ U H (true :: m) (.ref a :: vs) (d :: ds)
def parRefs : List Bool → List V → List V
  | true :: m, v :: vs => v :: parRefs m vs
  | false :: m, _ :: vs => parRefs m vs
  | _, _ => []
inductive PsOk (κ : Kx) (U : AS) (H : Hp) : List V → List D → Prop
  | nil : PsOk κ U H [] []
  | cons {a : Addr} {vs : List V} {d : D} {ds : List D} : Mo κ U H a d → PsOk κ U H vs ds → PsOk κ U H (.ref a :: vs) (d :: ds)
structure KeepN (rs : List V) (H H' : Hp) : Prop where
  keep : ∀ b o, V.ref b ∉ rs → H b = some o → H' b = some o
  th : ∀ b, H b ≠ none → H' b ≠ none
/-- a new object is in no other one -/
def resU (U : AS) (v : V) (t : Tok) : AS := match t, v with
  | .new _, .ref p => plus U p
  | _, _ => U
def AskF (κ : Kx) (U : AS) (H : Hp) (rs : List V) (r : FRes) (Q : VK) (E : XK) : Prop := match r with
  | .ok t ps => ∀ v H', KeepN rs H H' → PsOk κ (resU U v t) H' rs ps → VOk κ U H H' v t → Q v H'
  | .err x ps => ∀ c d H', KeepN rs H H' → PsOk κ U H' rs ps → ExOk κ U H' c d x → E c d H'
  | .bad => False
def spF (κ : Kx) (modes : List Bool) (fn : Fn) : Sp := fun vs H Q E => ∃ (U : AS) (ds : List D), Al U H ∧ ArgsOk κ U H modes vs ds ∧ (parRefs modes vs).Nodup ∧ AskF κ U H (parRefs modes vs) (fn ds) Q E
/-! ### a def's function, by its body -/
def startE : List Bool → List D → Env
  | true :: m, d :: ds => some (.par d) :: startE m ds
  | false :: m, d :: ds => some (.frz d) :: startE m ds
  | _, _ => []
def parsOf : List Bool → Env → List D
  | true :: m, some e :: es => e.val :: parsOf m es
  | false :: m, _ :: es => parsOf m es
  | _, _ => []
def retT (t : Tok) (env : Env) : Option Tok := match t with
  | .slot j => match env[j]? with
    | some (some (.own d)) => some (.new d)
    | some (some (.frz d)) => some (.val d)
    | _ => none
  | t => some t
def finish (m : List Bool) (r : Sr) : FRes := match r with
  | .nx e => .ok (.val .non) (parsOf m e)
  | .rt t e => match retT t e with
    | some t' => .ok t' (parsOf m e)
    | none => .bad
  | .err x e => .err x (parsOf m e)
  | _ => .bad
/-- a def: how its parameters come, how many other names it has, its body -/
def mkFn (m : List Bool) (n : Nat) (f : Sf) : Fn := fun ds => finish m (f (startE m ds ++ List.replicate n none))
section
variable {κ : Kx} {U : AS} {H H' : Hp}
theorem ArgsOk.len {m : List Bool} {vs : List V} {ds : List D} (h : ArgsOk κ U H m vs ds) : vs.length = m.length ∧ ds.length = m.length := by
  induction h with
  | nil => exact ⟨rfl, rfl⟩
  | frz _ _ ih => exact ⟨by simp [ih.1], by simp [ih.2]⟩
  | par _ _ _ ih => exact ⟨by simp [ih.1], by simp [ih.2]⟩
theorem ArgsOk.at {m : List Bool} {vs : List V} {ds : List D} (h : ArgsOk κ U H m vs ds) : ∀ (i : Nat) (e : Ent), (startE m ds)[i]? = some (some e) → ∃ v, vs[i]? = some v ∧ EntOk κ U H v e ∧ (e.isOwn = true → V.ref 0 = V.ref 0 ∧ m[i]? = some true) := by
  induction h with
  | nil => intro i e h; simp [startE] at h
  | frz r _ ih =>
    intro i e h
    cases i with
    | zero => simp [startE] at h; subst h; exact ⟨_, rfl, r, fun z => nomatch z⟩
    | succ i => exact ih i e (by simpa [startE] using h)
  | par u mo _ ih =>
    intro i e h
    cases i with
    | zero => simp [startE] at h; subst h; exact ⟨_, rfl, ⟨_, rfl, u, mo⟩, fun _ => ⟨rfl, rfl⟩⟩
    | succ i => exact ih i e (by simpa [startE] using h)
theorem mem_parRefs {m : List Bool} {vs : List V} {i : Nat} {v : V} (h1 : m[i]? = some true) (h2 : vs[i]? = some v) : v ∈ parRefs m vs := by
  induction m generalizing vs i with
  | nil => simp at h1
  | cons b m ih =>
    cases vs with
    | nil => simp at h2
    | cons w vs =>
      cases i with
      | zero =>
        simp at h1 h2
        subst h1 h2
        exact List.mem_cons_self
      | succ i =>
        have := ih (by simpa using h1) (by simpa using h2)
        cases b with
        | true => exact List.mem_cons_of_mem _ this
        | false => exact this
theorem parRefs_inj {m : List Bool} {vs : List V} {i j : Nat} {v : V} (nd : (parRefs m vs).Nodup) (h1 : m[i]? = some true) (h2 : m[j]? = some true) (h3 : vs[i]? = some v) (h4 : vs[j]? = some v) : i = j := by
  induction m generalizing vs i j with
  | nil => simp at h1
  | cons b m ih =>
    cases vs with
    | nil => simp at h3
    | cons w vs =>
      cases b with
      | false =>
        cases i with
        | zero => simp at h1
        | succ i =>
          cases j with
          | zero => simp at h2
          | succ j => exact congrArg (· + 1) (ih (vs := vs) (i := i) (j := j) nd (by simpa using h1) (by simpa using h2) (by simpa using h3) (by simpa using h4))
      | true =>
        have nd' := List.nodup_cons.mp nd
        cases i with
        | zero =>
          cases j with
          | zero => rfl
          | succ j =>
            simp at h3
            subst h3
            exact absurd (mem_parRefs (by simpa using h2) (by simpa using h4)) nd'.1
        | succ i =>
          cases j with
          | zero =>
            simp at h4
            subst h4
            exact absurd (mem_parRefs (by simpa using h1) (by simpa using h3)) nd'.1
          | succ j => exact congrArg (· + 1) (ih (vs := vs) (i := i) (j := j) nd'.2 (by simpa using h1) (by simpa using h2) (by simpa using h3) (by simpa using h4))
theorem startE_len {m : List Bool} {vs : List V} {ds : List D} (h : ArgsOk κ U H m vs ds) : (startE m ds).length = vs.length := by
  induction h with
  | nil => rfl
  | frz _ _ ih => simp [startE, ih]
  | par _ _ _ ih => simp [startE, ih]
theorem startE_noOwn : ∀ (m : List Bool) (ds : List D) (i : Nat) (d : D), (startE m ds)[i]? ≠ some (some (Ent.own d))
  | [], _, i, d => by simp [startE]
  | true :: m, [], i, d => by simp [startE]
  | false :: m, [], i, d => by simp [startE]
  | true :: m, x :: ds, 0, d => by simp [startE]
  | false :: m, x :: ds, 0, d => by simp [startE]
  | true :: m, x :: ds, i + 1, d => by simpa [startE] using startE_noOwn m ds i d
  | false :: m, x :: ds, i + 1, d => by simpa [startE] using startE_noOwn m ds i d
theorem start_at {l : Env} {n i : Nat} {e : Ent} (h : (l ++ List.replicate n none)[i]? = some (some e)) : l[i]? = some (some e) ∧ i < l.length := by
  by_cases hi : i < l.length
  · rw [List.getElem?_append_left hi] at h; exact ⟨h, hi⟩
  · rw [List.getElem?_append_right (by omega)] at h
    have := List.mem_of_getElem? h
    rw [List.mem_replicate] at this
    cases this.2
theorem start_inv {m : List Bool} {vs : List V} {ds : List D} {n : Nat} (al : Al U H) (h : ArgsOk κ U H m vs ds) (nd : (parRefs m vs).Nodup) : Inv κ U (startE m ds ++ List.replicate n none) (vs.map some ++ List.replicate n none) H := by
  have hl := startE_len h
  have sl : ∀ i, i < vs.length → (vs.map some ++ List.replicate n none)[i]? = (vs[i]?).map some := fun i hi => by
    rw [List.getElem?_append_left (by simpa using hi), List.getElem?_map]
  refine ⟨by simp [hl], al, fun i e q => ?_, fun i j e f a q1 q2 nij o1 o2 q3 => ?_⟩
  · obtain ⟨q, hi⟩ := start_at q
    obtain ⟨v, e1, r, _⟩ := h.at i e q
    exact ⟨v, by rw [sl i (by omega), e1]; rfl, r⟩
  · obtain ⟨q1, h1⟩ := start_at q1
    obtain ⟨q2, h2⟩ := start_at q2
    obtain ⟨v, e1, _, w1⟩ := h.at i e q1
    obtain ⟨u, e2, _, w2⟩ := h.at j f q2
    rw [sl i (by omega), e1] at q3
    rw [sl j (by omega), e2]
    intro z
    cases q3
    cases z
    exact nij (parRefs_inj nd (w1 o1).2 (w2 o2).2 e1 e2)
theorem parsOf_nil : ∀ m : List Bool, parsOf m [] = []
  | [] => rfl
  | true :: _ => rfl
  | false :: _ => rfl
/-- the lent objects at the end -/
theorem pars_ok {m : List Bool} {vs : List V} {ds : List D} {env : Env} {U1 : AS} (h : ArgsOk κ U H m vs ds)
    (hp : ∀ (i : Nat) (d : D), (startE m ds)[i]? = some (some (.par d)) → ∃ v d', vs[i]? = some v ∧ env[i]? = some (some (.par d')) ∧ EntOk κ U1 H' v (.par d')) (U2 : AS) (hu : ∀ a, U2 a → U1 a) : PsOk κ U2 H' (parRefs m vs) (parsOf m env) := by
  induction h generalizing env with
  | nil => exact .nil
  | frz r _ ih =>
    cases env with
    | nil =>
      have := ih (env := []) fun i d q => by obtain ⟨v, d', a, b, c⟩ := hp (i + 1) d (by simpa [startE] using q); simp at b
      rw [parsOf_nil] at this ⊢
      exact this
    | cons e env => exact ih (fun i d q => by obtain ⟨v, d', a, b, c⟩ := hp (i + 1) d (by simpa [startE] using q); exact ⟨v, d', by simpa using a, by simpa using b, c⟩)
  | par u mo _ ih =>
    obtain ⟨v, d', h1, h2, h3⟩ := hp 0 _ (by simp [startE]; rfl)
    cases env with
    | nil => simp at h2
    | cons e env =>
      simp at h1 h2
      subst h1 h2
      obtain ⟨b, z, _, mo'⟩ := h3
      cases z
      exact .cons (mo'.sub fun x y => .inl (hu x y)) (ih (fun i d q => by obtain ⟨v, d', a, b, c⟩ := hp (i + 1) d (by simpa [startE] using q); exact ⟨v, d', by simpa using a, by simpa using b, c⟩))
/-- a def keeps its promise -/
theorem mkFn_ok {m : List Bool} {n : Nat} {t : TS} {f : Sf} {EW : WX} {vs : List V} {Q : VK} {E : XK} (hE : EW = fun c d _ H => E c d H) (hb : SS κ EW t f) (h : spF κ m (mkFn m n f) vs H Q E) : t { nx := fun _ H' => Q .non H', rt := Q } (vs.map some ++ List.replicate n none) H := by
  subst hE
  obtain ⟨U, ds, al, ha, nd, q⟩ := h
  have I := start_inv (n := n) al ha nd
  have hl := startE_len ha
  refine hb U _ _ H _ I ?_
  have hlen := ha.len
  have sl : ∀ i, i < vs.length → (vs.map some ++ List.replicate n none)[i]? = (vs[i]?).map some := fun i hi => by
    rw [List.getElem?_append_left (by simpa using hi), List.getElem?_map]
  have noOwn : ∀ (i : Nat) (d : D), (startE m ds ++ List.replicate n none)[i]? ≠ some (some (Ent.own d)) := fun i d z => by
    obtain ⟨z, _⟩ := start_at z
    obtain ⟨v, e1, _, w⟩ := ha.at i _ z
    exact startE_noOwn m ds i d z
  have common : ∀ {U' env' σ' H'}, Step U (startE m ds ++ List.replicate n none) (vs.map some ++ List.replicate n none) H U' env' σ' H' → Inv κ U' env' σ' H' → KeepN (parRefs m vs) H H' ∧ (∀ U2 : AS, (∀ a, U2 a → U' a) → PsOk κ U2 H' (parRefs m vs) (parsOf m env')) ∧ (∀ a, U a → U' a) := fun {U' env' σ' H'} s I' => by
    have hu : ∀ a, U a → U' a := fun a z => (s.un a z).elim id fun ⟨i, d, z, _⟩ => absurd z (noOwn i d)
    refine ⟨⟨fun b o nb e => s.keep b o (fun z => ?_) e, s.th⟩, fun U2 hu2 => pars_ok ha (fun i d q => ?_) U2 hu2, hu⟩
    · obtain ⟨i, e, q1, q2, q3⟩ := z
      obtain ⟨q1, hi⟩ := start_at q1
      obtain ⟨v, e1, _, w⟩ := ha.at i e q1
      rw [sl i (by omega), e1] at q3
      cases q3
      exact nb (mem_parRefs (w (Ent.own_of_mut q2)).2 e1)
    · have hi : i < vs.length := by rw [← hl]; exact (List.getElem?_eq_some_iff.mp q).1
      have q' : (startE m ds ++ List.replicate n none)[i]? = some (some (.par d)) := by rw [List.getElem?_append_left (by omega)]; exact q
      obtain ⟨e1, d', e2⟩ := s.par i d q'
      rw [sl i hi, List.getElem?_eq_getElem hi] at e1
      exact ⟨_, d', List.getElem?_eq_getElem hi, e2, I'.slot e1 e2⟩
  have q : AskF κ U H (parRefs m vs) (finish m (f (startE m ds ++ List.replicate n none))) Q E := q
  cases e : f (startE m ds ++ List.replicate n none) with
  | nx e1 =>
    rw [e] at q
    intro U' σ' H' s I'
    obtain ⟨k, p, hu⟩ := common s I'
    exact q .non H' k (p U hu) .non
  | bk e1 => rw [e] at q; exact q.elim
  | ct e1 => rw [e] at q; exact q.elim
  | bad => rw [e] at q; exact q.elim
  | err x e1 =>
    rw [e] at q
    intro c d U' σ' H' s I' w
    obtain ⟨k, p, hu⟩ := common s I'
    obtain ⟨w1, a, fs, w2, w3, w4, w5⟩ := w
    exact q c d H' k (p U hu) ⟨w1, a, fs, w2, w3, fun z => w4 (hu a z), w5.sub hu⟩
  | rt t e1 =>
    rw [e] at q
    intro U' σ' H' v s I' w
    obtain ⟨k, p, hu⟩ := common s I'
    cases t with
    | val d => exact q v H' k (p U hu) (Rp.sub w hu)
    | new d =>
      obtain ⟨pp, rfl, nn, uu, no, mo⟩ := w
      exact q _ H' k (p (plus U pp) fun a z => z.elim (hu a) fun z => z ▸ uu) ⟨pp, rfl, nn, mo.sub fun a z => .inl (hu a z)⟩
    | slot j =>
      have w : σ'[j]? = some (some v) := w
      have q : AskF κ U H (parRefs m vs) (match retT (.slot j) e1 with | some t' => .ok t' (parsOf m e1) | none => .bad) Q E := q
      have er : retT (.slot j) e1 = match e1[j]? with
        | some (some (.own d)) => some (.new d)
        | some (some (.frz d)) => some (.val d)
        | _ => none := rfl
      rw [er] at q
      split at q
      · rename_i t' hr
        split at hr
        · rename_i d hj
          cases hr
          obtain ⟨a, rfl, ua, mo⟩ := I'.slot w hj
          refine q _ H' k (p (plus U a) fun b z => z.elim (hu b) fun z => z ▸ ua) ⟨a, rfl, ?_, mo.sub fun x z => .inl (hu x z)⟩
          rcases s.grow a ⟨j, _, hj, rfl, w⟩ with ⟨i, en, q1, q2, q3⟩ | z
          · cases en with
            | own x => exact absurd q1 (noOwn i x)
            | par x =>
              obtain ⟨z1, d', z2⟩ := s.par i x q1
              by_cases hij : j = i
              · subst hij; rw [hj] at z2; cases z2
              · exact absurd (z1.trans q3) (I'.sep j i _ _ a hj z2 hij rfl rfl w)
            | frz x => cases q2
            | lok _ _ => cases q2
          · exact z
        · rename_i d hj
          cases hr
          exact q v H' k (p U hu) (Rp.sub (I'.slot w hj) hu)
        · cases hr
      · exact q.elim
end
end FL

set_option Elab.async false
set_option linter.all false
set_option maxRecDepth 100000
set_option maxHeartbeats 4000000
set_option exponentiation.threshold 100000
/-! F11: calls of defs. -/
namespace FL
open PySem PySem.Spec PyProof.Rows L2 GL
/-- the arguments by value are kept -/
def keepM : List Bool → List Tok → Env → Option (List Tok × Env)
  | [], [], env => some ([], env)
  | false :: m, t :: ts, env => match keepT t env with
    | some (d, e1) => match keepM m ts e1 with
      | some (us, e2) => some (.val d :: us, e2)
      | none => none
    | none => none
  | true :: m, t :: ts, env => match keepM m ts env with
    | some (us, e2) => some (t :: us, e2)
    | none => none
  | _, _, _ => none
/-- the values of all arguments, the slots that are lent -/
def lend : List Bool → List Tok → Env → Option (List D × List (Option Nat))
  | [], [], _ => some ([], [])
  | false :: m, t :: ts, env => match t, lend m ts env with
    | .val d, some (ds, js) => some (d :: ds, js)
    | _, _ => none
  | true :: m, t :: ts, env => match lend m ts env with
    | some (ds, js) => match t with
      | .new d => some (d :: ds, none :: js)
      | .slot j => match env[j]? with
        | some (some e) => if e.mut = true ∧ some j ∉ js then some (e.val :: ds, some j :: js) else none
        | _ => none
      | .val _ => none
    | none => none
  | _, _, _ => none
/-- the lent objects come back -/
def backs : List (Option Nat) → List D → Env → Env
  | none :: js, _ :: ps, env => backs js ps env
  | some j :: js, p :: ps, env => backs js ps (match env[j]? with
    | some (some e) => env.set j (some (e.put p))
    | _ => env)
  | _, _, env => env
def callR (js : List (Option Nat)) (env : Env) (r : FRes) : Res Tok := match r with
  | .ok t ps => .ok t (backs js ps env)
  | .err x ps => .err x (backs js ps env)
  | .bad => .bad
def callF (m : List Bool) (fn : Fn) (ts : List Tok) (env : Env) : Res Tok := match keepM m ts env with
  | some (us, e1) => match lend m us e1 with
    | some (ds, js) => callR js e1 (fn ds)
    | none => .bad
  | none => .bad
def fCall (m : List Bool) (fn : Fn) (fas : Ea) : Ev := fun env => (fas env).bind fun ts e1 => callF m fn ts e1
section
variable {κ : Kx} {EW : WX} {U U0 U1 U2 : AS} {env env0 env1 env2 : Env} {σ σ0 σ1 σ2 : L2.St} {H H1 H2 Hs : Hp} {v : V} {tas : TA} {fas : Ea}
theorem keepM_ok {m : List Bool} {vs : List V} {ts us : List Tok} (I0 : Inv κ U0 env0 σ0 Hs) (s : Step U0 env0 σ0 Hs U env σ H) (I : Inv κ U env σ H) (ht : AllTok κ U Hs env σ H vs ts) (nd : (newRefs vs ts).Nodup) (h : keepM m ts env = some (us, env2)) :
    ∃ U', Step U0 env0 σ0 Hs U' env2 σ H ∧ Inv κ U' env2 σ H ∧ AllTok κ U' Hs env2 σ H vs us ∧ (newRefs vs us).Nodup ∧ (∀ b, U' b → U b) ∧ (∀ w, w ∈ newRefs vs us → w ∈ newRefs vs ts) ∧ ∀ w u, TokOk κ U Hs env σ H w u → ((∃ d, u = .new d) → w ∉ newRefs vs ts) → TokOk κ U' Hs env2 σ H w u := by
  induction ts generalizing m vs us env U with
  | nil =>
    cases ht
    cases m with
    | nil => cases h; exact ⟨U, s, I, .nil, nd, fun _ z => z, fun _ z => z, fun _ _ z _ => z⟩
    | cons b m => cases b <;> cases h
  | cons t ts ih =>
    cases ht with
    | cons a b =>
      rename_i v vs
      have nd1 : (newRefs vs ts).Nodup := by
        cases t with
        | new _ => exact (List.nodup_cons.mp nd).2
        | val _ => exact nd
        | slot _ => exact nd
      have sub1 : ∀ w, w ∈ newRefs vs ts → w ∈ newRefs (v :: vs) (t :: ts) := fun w z => by
        cases t with
        | new _ => exact List.mem_cons_of_mem _ z
        | val _ => exact z
        | slot _ => exact z
      cases m with
      | nil => cases h
      | cons md m =>
        cases md with
        | false =>
          unfold keepM at h
          split at h
          · rename_i d e1 h1
            split at h
            · rename_i us' e2 h2
              cases h
              obtain ⟨U1, s1, I1, r1, su1, oth1⟩ := keep_ok I0 s I a h1
              have b1 : AllTok κ U1 Hs e1 σ H vs ts := b.map (P := fun _ _ => True) fun i w u q1 q2 q3 => oth1 w u q3 fun ⟨d1, z1⟩ ⟨d2, z2⟩ z => by
                subst z1 z2 z
                exact (List.nodup_cons.mp nd).1 (mem_newRefs q1 q2)
              obtain ⟨U2, s2, I2, r2, n2, su2, ss2, oth2⟩ := ih s1 I1 b1 nd1 h2
              refine ⟨U2, s2, I2, .cons (r1.sub su2) r2, n2, fun b z => su1 b (su2 b z), fun w z => sub1 w (ss2 w z), fun w u hu hn => oth2 w u (oth1 w u hu fun z1 ⟨d2, z2⟩ z => ?_) fun z1 z => hn z1 (sub1 w z)⟩
              subst z2 z
              exact hn z1 List.mem_cons_self
            · cases h
          · cases h
        | true =>
          unfold keepM at h
          split at h
          · rename_i us' e2 h2
            cases h
            obtain ⟨U2, s2, I2, r2, n2, su2, ss2, oth2⟩ := ih s I b nd1 h2
            refine ⟨U2, s2, I2, .cons (oth2 _ _ a fun ⟨d, z⟩ z2 => ?_) r2, ?_, su2, fun w z => ?_, fun w u hu hn => oth2 w u hu fun z1 z => hn z1 (sub1 w z)⟩
            · subst z; exact (List.nodup_cons.mp nd).1 z2
            · cases t with
              | new _ => exact List.nodup_cons.mpr ⟨fun z => (List.nodup_cons.mp nd).1 (ss2 _ z), n2⟩
              | val _ => exact n2
              | slot _ => exact n2
            · cases t with
              | new _ => exact (List.mem_cons.mp z).elim (fun e => e ▸ List.mem_cons_self) fun z => List.mem_cons_of_mem _ (ss2 w z)
              | val _ => exact ss2 w z
              | slot _ => exact ss2 w z
          · cases h
/-- what a lent object is -/
inductive Lent (κ : Kx) (U : AS) (Hs : Hp) (env : Env) (σ : L2.St) (H : Hp) : List V → List (Option Nat) → Prop
  | nil : Lent κ U Hs env σ H [] []
  | new {a : Addr} {vs : List V} {js : List (Option Nat)} : Hs a = none → U a → ¬ OwnOf env σ a → Lent κ U Hs env σ H vs js → Lent κ U Hs env σ H (.ref a :: vs) (none :: js)
  | slot {j : Nat} {a : Addr} {e : Ent} {vs : List V} {js : List (Option Nat)} : env[j]? = some (some e) → e.mut = true → σ[j]? = some (some (.ref a)) → some j ∉ js → Lent κ U Hs env σ H vs js → Lent κ U Hs env σ H (.ref a :: vs) (some j :: js)
theorem newRefs_tok {vs : List V} {ts : List Tok} {w : V} (h : AllTok κ U Hs env σ H vs ts) (z : w ∈ newRefs vs ts) : ∃ d, TokOk κ U Hs env σ H w (.new d) := by
  induction h with
  | nil => cases z
  | cons x _ ih =>
    rename_i t _ _
    cases t with
    | new d =>
      rcases List.mem_cons.mp z with rfl | z
      · exact ⟨d, x⟩
      · exact ih z
    | val _ => exact ih z
    | slot _ => exact ih z
theorem lend_ok {m : List Bool} {vs : List V} {us : List Tok} {ds : List D} {js : List (Option Nat)} (I : Inv κ U env σ H) (ht : AllTok κ U Hs env σ H vs us) (nd : (newRefs vs us).Nodup) (h : lend m us env = some (ds, js)) :
    ArgsOk κ U H m vs ds ∧ Lent κ U Hs env σ H (parRefs m vs) js ∧ (parRefs m vs).Nodup ∧ ∀ w ∈ parRefs m vs, (w ∈ newRefs vs us) ∨ ∃ j e, some j ∈ js ∧ env[j]? = some (some e) ∧ e.mut = true ∧ σ[j]? = some (some w) := by
  induction us generalizing m vs ds js with
  | nil =>
    cases ht
    cases m with
    | nil => cases h; exact ⟨.nil, .nil, by simp [parRefs], fun w z => by simp [parRefs] at z⟩
    | cons b m => cases b <;> cases h
  | cons t ts ih =>
    cases ht with
    | cons a b =>
      rename_i v vs
      have nd1 : (newRefs vs ts).Nodup := by
        cases t with
        | new _ => exact (List.nodup_cons.mp nd).2
        | val _ => exact nd
        | slot _ => exact nd
      have sub1 : ∀ w, w ∈ newRefs vs ts → w ∈ newRefs (v :: vs) (t :: ts) := fun w z => by
        cases t with
        | new _ => exact List.mem_cons_of_mem _ z
        | val _ => exact z
        | slot _ => exact z
      cases m with
      | nil => cases h
      | cons md m =>
        cases md with
        | false =>
          unfold lend at h
          split at h
          · rename_i d ds' js' h2
            cases h
            obtain ⟨a1, a2, a3, a4⟩ := ih b nd1 h2
            exact ⟨.frz a a1, a2, a3, fun w z => (a4 w z).imp (sub1 w) id⟩
          · cases h
        | true =>
          unfold lend at h
          split at h
          · rename_i ds' js' h2
            obtain ⟨a1, a2, a3, a4⟩ := ih b nd1 h2
            cases t with
            | val d => cases h
            | new d =>
              cases h
              obtain ⟨p, rfl, n, u, no, mo⟩ := a
              refine ⟨.par u mo a1, .new n u no a2, List.nodup_cons.mpr ⟨fun z => ?_, a3⟩, fun w z => ?_⟩
              · rcases a4 _ z with z | ⟨j, e, _, q1, q2, q3⟩
                · exact (List.nodup_cons.mp nd).1 z
                · exact no ⟨j, e, q1, Ent.own_of_mut q2, q3⟩
              · rcases List.mem_cons.mp z with rfl | z
                · exact .inl List.mem_cons_self
                · exact (a4 w z).imp (fun z => List.mem_cons_of_mem _ z) fun ⟨j, e, q0, q⟩ => ⟨j, e, List.mem_cons_of_mem _ q0, q⟩
            | slot j =>
              have a : σ[j]? = some (some v) := a
              have h : (match env[j]? with
                | some (some e) => if e.mut = true ∧ some j ∉ js' then some (e.val :: ds', some j :: js') else none
                | _ => none) = some (ds, js) := h
              split at h
              · rename_i e he
                split at h
                · rename_i hc
                  cases h
                  obtain ⟨ad, rfl, u, mo⟩ := (I.slot a he).mo hc.1
                  refine ⟨.par u mo a1, .slot he hc.1 a hc.2 a2, List.nodup_cons.mpr ⟨fun z => ?_, a3⟩, fun w z => ?_⟩
                  · rcases a4 _ z with z | ⟨i, e2, q0, q1, q2, q3⟩
                    · obtain ⟨d, tk⟩ := newRefs_tok b z
                      obtain ⟨p, z2, _, _, no, _⟩ := tk
                      cases z2
                      exact no ⟨j, e, he, Ent.own_of_mut hc.1, a⟩
                    · by_cases hij : i = j
                      · subst hij; exact hc.2 q0
                      · exact I.sep i j e2 e ad q1 he hij (Ent.own_of_mut q2) (Ent.own_of_mut hc.1) q3 a
                  · rcases List.mem_cons.mp z with rfl | z
                    · exact .inr ⟨j, e, List.mem_cons_self, he, hc.1, a⟩
                    · exact (a4 w z).imp (sub1 w) fun ⟨i, e2, q0, q⟩ => ⟨i, e2, List.mem_cons_of_mem _ q0, q⟩
                · cases h
              · cases h
          · cases h
theorem backs_spec {rs : List V} {js : List (Option Nat)} {ps : List D} (hl : Lent κ U Hs env σ H rs js) (hp : PsOk κ U H1 rs ps) : ∀ env' : Env, (∀ i, some i ∈ js → env'[i]? = env[i]?) →
    (backs js ps env').length = env'.length ∧ ∀ i, (some i ∉ js → (backs js ps env')[i]? = env'[i]?) ∧ (some i ∈ js → ∃ e p a, env[i]? = some (some e) ∧ e.mut = true ∧ σ[i]? = some (some (.ref a)) ∧ V.ref a ∈ rs ∧ Mo κ U H1 a p ∧ (backs js ps env')[i]? = some (some (e.put p))) := by
  induction hl generalizing ps with
  | nil => intro env' _; cases hp; exact ⟨rfl, fun i => ⟨fun _ => rfl, fun z => nomatch z⟩⟩
  | new n u no _ ih =>
    cases hp with
    | cons mo hp =>
      intro env' he
      obtain ⟨h1, h2⟩ := ih hp env' fun i z => he i (List.mem_cons_of_mem _ z)
      refine ⟨h1, fun i => ⟨fun z => (h2 i).1 fun w => z (List.mem_cons_of_mem _ w), fun z => ?_⟩⟩
      rcases List.mem_cons.mp z with e | z
      · cases e
      · obtain ⟨e, p, a, q1, q2, q3, q4, q5⟩ := (h2 i).2 z
        exact ⟨e, p, a, q1, q2, q3, List.mem_cons_of_mem _ q4, q5⟩
  | slot he hm hs nj _ ih =>
    rename_i j a e rs' js hl'
    cases hp with
    | cons mo hp =>
      rename_i p ps
      intro env' hee
      have ej : env'[j]? = some (some e) := (hee j List.mem_cons_self).trans he
      have hj := (List.getElem?_eq_some_iff.mp ej).1
      have hb : backs (some j :: js) (p :: ps) env' = backs js ps (env'.set j (some (e.put p))) := by
        show backs js ps (match env'[j]? with | some (some e) => env'.set j (some (e.put p)) | _ => env') = _
        rw [ej]
      rw [hb]
      obtain ⟨h1, h2⟩ := ih hp (env'.set j (some (e.put p))) fun i z => by
        have : j ≠ i := by rintro rfl; exact nj z
        rw [List.getElem?_set_ne this]
        exact hee i (List.mem_cons_of_mem _ z)
      refine ⟨by rw [h1, List.length_set], fun i => ⟨fun z => ?_, fun z => ?_⟩⟩
      · have hij : j ≠ i := by rintro rfl; exact z List.mem_cons_self
        rw [(h2 i).1 fun w => z (List.mem_cons_of_mem _ w), List.getElem?_set_ne hij]
      · rcases List.mem_cons.mp z with e1 | z
        · cases e1
          exact ⟨e, p, a, he, hm, hs, List.mem_cons_self, mo, by rw [(h2 j).1 nj, List.getElem?_set_self hj]⟩
        · obtain ⟨e', p', a', q1, q2, q3, q4, q5⟩ := (h2 i).2 z
          exact ⟨e', p', a', q1, q2, q3, List.mem_cons_of_mem _ q4, q5⟩
theorem Lent.all {rs : List V} {js : List (Option Nat)} (I : Inv κ U env σ H) (hl : Lent κ U Hs env σ H rs js) : ∀ a, V.ref a ∈ rs → U a ∧ ((Hs a = none ∧ ¬ OwnOf env σ a) ∨ ∃ j e, some j ∈ js ∧ env[j]? = some (some e) ∧ e.mut = true ∧ σ[j]? = some (some (.ref a))) := by
  induction hl with
  | nil => intro a h; cases h
  | new n u no _ ih =>
    intro a h
    rcases List.mem_cons.mp h with e | h
    · cases e; exact ⟨u, .inl ⟨n, no⟩⟩
    · obtain ⟨x, y⟩ := ih a h
      exact ⟨x, y.imp id fun ⟨j, e, q, r⟩ => ⟨j, e, List.mem_cons_of_mem _ q, r⟩⟩
  | slot he hm hs nj _ ih =>
    intro a h
    rcases List.mem_cons.mp h with e | h
    · cases e; exact ⟨I.mutU ⟨_, _, he, hm, hs⟩, .inr ⟨_, _, List.mem_cons_self, he, hm, hs⟩⟩
    · obtain ⟨x, y⟩ := ih a h
      exact ⟨x, y.imp id fun ⟨j, e, q, r⟩ => ⟨j, e, List.mem_cons_of_mem _ q, r⟩⟩
theorem Lent.mono {rs : List V} {js : List (Option Nat)} (hl : Lent κ U Hs env σ H rs js) (h : ∀ a, U a → U1 a) : Lent κ U1 Hs env σ H1 rs js := by
  induction hl with
  | nil => exact .nil
  | new n u no _ ih => exact .new n (h _ u) no ih
  | slot he hm hs nj _ ih => exact .slot he hm hs nj ih
/-- behind a call: the lent objects have changed -/
theorem backs_ok {rs : List V} {js : List (Option Nat)} {ps : List D} (I0 : Inv κ U0 env0 σ0 Hs) (s : Step U0 env0 σ0 Hs U env σ H) (I : Inv κ U env σ H) (hl : Lent κ U Hs env σ H rs js) (k : KeepN rs H H1) (hp : PsOk κ U H1 rs ps) :
    Step U0 env0 σ0 Hs U (backs js ps env) σ H1 ∧ Inv κ U (backs js ps env) σ H1 ∧ ∀ b, OwnOf (backs js ps env) σ b → OwnOf env σ b := by
  obtain ⟨bl, bs⟩ := backs_spec hl hp env fun _ _ => rfl
  have la := hl.all I
  have kp : ∀ S : AS, (∀ b, U b → S b) → Kp S S H H1 := fun S hS b o n e => ⟨n, k.keep b o (fun z => n (hS b (la b z).1)) e⟩
  have ent : ∀ i e, (backs js ps env)[i]? = some (some e) → (some i ∉ js ∧ env[i]? = some (some e)) ∨ (some i ∈ js ∧ ∃ e0 p a, env[i]? = some (some e0) ∧ e0.mut = true ∧ σ[i]? = some (some (.ref a)) ∧ V.ref a ∈ rs ∧ Mo κ U H1 a p ∧ e = e0.put p) := fun i e h => by
    by_cases hi : some i ∈ js
    · obtain ⟨e0, p, a, q1, q2, q3, q4, q5, q6⟩ := (bs i).2 hi
      rw [q6] at h; cases h
      exact .inr ⟨hi, e0, p, a, q1, q2, q3, q4, q5, rfl⟩
    · rw [(bs i).1 hi] at h
      exact .inl ⟨hi, h⟩
  have ow : ∀ b, OwnOf (backs js ps env) σ b → OwnOf env σ b := by
    rintro b ⟨i, e, q1, q2, q3⟩
    rcases ent i e q1 with ⟨_, q⟩ | ⟨_, e0, p, a, q, m, _, _, _, rfl⟩
    · exact ⟨i, e, q, q2, q3⟩
    · exact ⟨i, e0, q, Ent.own_of_mut m, q3⟩
  have mu : ∀ b, MutOf (backs js ps env) σ b → MutOf env σ b := by
    rintro b ⟨i, e, q1, q2, q3⟩
    rcases ent i e q1 with ⟨_, q⟩ | ⟨_, e0, p, a, q, m, _, _, _, rfl⟩
    · exact ⟨i, e, q, q2, q3⟩
    · exact ⟨i, e0, q, m, q3⟩
  refine ⟨⟨fun b o n e => ?_, fun b h => k.th b (s.th b h), fun b h => s.grow b (mu b h), fun b h => s.growO b (ow b h), s.ug, s.un, fun i d h => ?_, fun i q d h => ?_⟩, ⟨by rw [bl, I.len], fun a h => k.th a (I.al a h), fun i e h => ?_, fun i j e f a h1 h2 n o1 o2 => ?_⟩, ow⟩
  · refine k.keep b o (fun z => ?_) (s.keep b o n e)
    rcases (la b z).2 with ⟨z, _⟩ | ⟨j, e2, _, q1, q2, q3⟩
    · rw [z] at e; cases e
    · rcases s.grow b ⟨j, e2, q1, q2, q3⟩ with z | z
      · exact n z
      · rw [z] at e; cases e
  · obtain ⟨e1, d', e2⟩ := s.par i d h
    refine ⟨e1, ?_⟩
    by_cases hi : some i ∈ js
    · obtain ⟨e0, p, a, q1, q2, q3, q4, q5, q6⟩ := (bs i).2 hi
      rw [e2] at q1; cases q1
      exact ⟨p, q6⟩
    · exact ⟨d', by rw [(bs i).1 hi]; exact e2⟩
  · obtain ⟨e1, e2⟩ := s.lok i q d h
    refine ⟨e1, ?_⟩
    by_cases hi : some i ∈ js
    · obtain ⟨e0, p, a, q1, q2, q3, q4, q5, q6⟩ := (bs i).2 hi
      rw [e2] at q1; cases q1; cases q2
    · rw [(bs i).1 hi]; exact e2
  · rcases ent i e h with ⟨hi, q⟩ | ⟨_, e0, p, a, q, m, q3, q4, q5, rfl⟩
    · obtain ⟨w, e1, r⟩ := I.at' i e q
      refine ⟨w, e1, ?_⟩
      have na : ∀ b, w = .ref b → e.isOwn = true → V.ref b ∉ rs := fun b z o1 z2 => by
        subst z
        rcases (la b z2).2 with ⟨_, z⟩ | ⟨j, e2, hj, q1, q2, q3⟩
        · exact z ⟨i, e, q, o1, e1⟩
        · have hij : i ≠ j := by rintro rfl; exact hi hj
          exact I.sep i j e e2 b q q1 hij o1 (Ent.own_of_mut q2) e1 q3
      cases e with
      | frz _ => exact Rp.imp (kp U fun _ z => z) r
      | own _ => obtain ⟨b, rfl, u, mm⟩ := r; exact ⟨b, rfl, u, mm.imp (fun o z => k.keep b o (na b rfl rfl) z) (kp _ fun _ z => .inl z)⟩
      | par _ => obtain ⟨b, rfl, u, mm⟩ := r; exact ⟨b, rfl, u, mm.imp (fun o z => k.keep b o (na b rfl rfl) z) (kp _ fun _ z => .inl z)⟩
      | lok p x =>
        obtain ⟨b, rfl, u, mm⟩ := r
        refine ⟨b, rfl, u, ?_⟩
        have hb := na b rfl rfl
        have kU := kp U fun _ z => z
        have rd : ∀ o, Rd H b o → Rd H1 b o := fun o z => z.imp (fun z => k.keep b _ hb z) fun ⟨oo, z⟩ => ⟨oo, k.keep b _ hb z⟩
        cases mm with
        | tup hh r => exact .tup (hh.imp kU) (r.imp kU)
        | lst hh r => exact .lst (k.keep b _ hb hh) (r.imp kU)
        | scr hh => exact .scr (hh.imp (rd _) id)
        | dct hh r => exact .dct (rd _ hh) (r.imp kU)
        | obj hh h2 n2 r => exact .obj (k.keep b _ hb hh) (kU _ _ n2 h2).2 n2 (r.imp kU)
        | exc hh n1 h2 n2 r => exact .exc (kU _ _ n1 hh).2 n1 (kU _ _ n2 h2).2 n2 (r.imp kU)
    · refine ⟨.ref a, q3, ?_⟩
      have u := (la a q4).1
      cases e0 with
      | frz _ => cases m
      | own _ => exact ⟨a, rfl, u, q5⟩
      | par _ => exact ⟨a, rfl, u, q5⟩
      | lok _ _ => cases m
  · have g : ∀ (i : Nat) (e : Ent), (backs js ps env)[i]? = some (some e) → e.isOwn = true → ∃ e0 : Ent, env[i]? = some (some e0) ∧ e0.isOwn = true := fun i e h o => by
      rcases ent i e h with ⟨_, q⟩ | ⟨_, e0, p, a, q, m, _, _, _, rfl⟩
      · exact ⟨e, q, o⟩
      · exact ⟨e0, q, Ent.own_of_mut m⟩
    obtain ⟨e0, g1, g2⟩ := g i e h1 o1
    obtain ⟨f0, g3, g4⟩ := g j f h2 o2
    exact I.sep i j e0 f0 a g1 g3 n g2 g4
theorem VOk.owns {t : Tok} (h : VOk κ U H H1 v t) : VOk κ U H H1 v t := h
/-- f(..) -/
theorem call_core {m : List Bool} {fn : Fn} {ts : List Tok} {e1 : Env} {U1 : AS} {H1 : Hp} {xs : List V} {Q : VK} (I : Inv κ U env σ H) (s1 : Step U env σ H U1 e1 σ H1) (I1 : Inv κ U1 e1 σ H1) (hxs : AllTok κ U1 H e1 σ H1 xs ts) (nd : (newRefs xs ts).Nodup)
    (q1 : Ask κ EW U env σ H (callF m fn ts e1) fun t e' U' H' => ∀ v, TokOk κ U' H e' σ H' v t → Q v H') : spF κ m fn xs H1 Q (WE EW σ) := by
  unfold callF at q1
  split at q1
  · rename_i us e2 hk
    split at q1
    · rename_i ds js hl
      obtain ⟨U2, s2, I2, r2, nd2, _, _, _⟩ := keepM_ok I s1 I1 hxs nd hk
      obtain ⟨a1, a2, a3, _⟩ := lend_ok I2 r2 nd2 hl
      refine ⟨U2, ds, I2.al, a1, a3, ?_⟩
      cases hf : fn ds with
      | ok t ps =>
        rw [hf] at q1
        intro v H' k p w
        cases t with
        | val d =>
          obtain ⟨s3, I3, o3⟩ := backs_ok I s2 I2 a2 k p
          exact q1 U2 H' s3 I3 v w
        | new d =>
          obtain ⟨pp, rfl, n, mo⟩ := w
          have p : PsOk κ (plus U2 pp) H' _ ps := p
          obtain ⟨o, ho⟩ : ∃ o, H' pp = some o := by
            cases e : H' pp with
            | none => exact absurd e mo.there
            | some o => exact ⟨o, rfl⟩
          have gr : Grow H1 (upd H1 pp o) := .new n
          have I2' := I2.plus n gr (by rw [upd_same]; simp)
          have s2' := s2.trans I I2 (Step.plus (U := U2) (env := e2) (σ := σ) n gr)
          have k' : KeepN (parRefs m xs) (upd H1 pp o) H' := ⟨fun b w nb e => by
            by_cases hb : b = pp
            · subst hb; rw [upd_same] at e; cases e; exact ho
            · rw [upd_ne hb] at e; exact k.keep b w nb e, fun b h => by
            by_cases hb : b = pp
            · subst hb; rw [ho]; simp
            · rw [upd_ne hb] at h; exact k.th b h⟩
          obtain ⟨s3, I3, o3⟩ := backs_ok I s2' I2' (a2.mono fun a z => .inl z) k' p
          exact q1 _ H' s3 I3 _ ⟨pp, rfl, Classical.byContradiction fun z => s1.th pp z n, .inr rfl, fun z => I2.fresh n (o3 _ z), mo.sub fun b z => z⟩
        | slot j => exact w.elim
      | err x ps =>
        rw [hf] at q1
        intro c d H' k p w
        obtain ⟨s3, I3, o3⟩ := backs_ok I s2 I2 a2 k p
        exact q1 c d U2 H' s3 I3 w
      | bad => rw [hf] at q1; exact q1.elim
    · exact q1.elim
  · exact q1.elim
theorem se_call {m : List Bool} {fn : Fn} (ha : SA κ EW tas fas) : SE κ EW (tCallS (spF κ m fn) (WE EW) tas) (fCall m fn fas) := by
  intro U env σ H Q I q
  exact ha U env σ H _ I (q.then.mono fun ts e1 U1 H1 s1 I1 q1 xs hxs nd => call_core I s1 I1 hxs nd q1)
theorem AllTok.len {vs : List V} {ts : List Tok} (h : AllTok κ U Hs env σ H vs ts) : vs.length = ts.length := by
  induction h with
  | nil => rfl
  | cons _ _ ih => rw [List.length_cons, List.length_cons, ih]
/-- a call all of whose arguments come by value, as many as there are -/
def fCallV (fn : Fn) (fas : Ea) : Ev := fun env => (fas env).bind fun ts e1 => callF (List.replicate ts.length false) fn ts e1
abbrev spV (κ : Kx) (fn : Fn) : Sp := fun vs H Q E => spF κ (List.replicate vs.length false) fn vs H Q E
theorem se_callV {fn : Fn} (ha : SA κ EW tas fas) : SE κ EW (tCallS (spV κ fn) (WE EW) tas) (fCallV fn fas) := by
  intro U env σ H Q I q
  refine ha U env σ H _ I (q.then.mono fun ts e1 U1 H1 s1 I1 q1 xs hxs nd => ?_)
  show spF κ (List.replicate xs.length false) fn xs H1 Q (WE EW σ)
  rw [hxs.len]
  exact call_core I s1 I1 hxs nd q1
end
end FL

set_option Elab.async false
set_option linter.all false
set_option maxRecDepth 100000
set_option maxHeartbeats 4000000
set_option exponentiation.threshold 100000
/-! F12: the rules: syntax with its function. -/
namespace FL
open PySem PySem.Spec PyProof.Rows L2 GL
section
variable (X : Cx) (ca : Str → Addr) (EW : WX)
structure FE (e : Expr) (t : TE) (f : Ev) : Prop where
  p : PE X e t
  s : SE (kx X ca) EW t f
structure FT (e : Expr) (t : TT) (f : Et) : Prop where
  p : PT X e t
  s : ST (kx X ca) EW t f
structure FW (e : Expr) (t : TT) (f : Et) : Prop where
  p : PW X e t
  s : ST (kx X ca) EW t f
structure FTs (es : List Expr) (t : TT) (f : Et) : Prop where
  p : PTs X es t
  s : ST (kx X ca) EW t f
structure FA (es : List Expr) (t : TA) (f : Ea) : Prop where
  p : PA X es t
  s : SA (kx X ca) EW t f
structure FO (e : Option Expr) (t : TO) (f : Option Ev) : Prop where
  p : PO X e t
  s : SO (kx X ca) EW t (fOpt f)
structure FS (st : Stmt) (t : TS) (f : Sf) : Prop where
  p : PS X st t
  s : SS (kx X ca) EW t f
structure FSs (st : List Stmt) (t : TS) (f : Sf) : Prop where
  p : PSs X st t
  s : SS (kx X ca) EW t f
structure FG (e : Expr) (t : TG) (G : Gf) (vs : List Nat) : Prop where
  p : PG X e t
  s : SG (kx X ca) t G vs
structure FGs (es : List Expr) (t : TGs) (G : List Gf) (vs : List Nat) : Prop where
  p : PGs X es t
  s : SGs (kx X ca) t G vs
structure FI (tg e : Expr) (t : TI) (fa : Ea) (it : ItF) : Prop where
  p : PI X tg e t
  s : SI (kx X ca) EW t fa it
end
section
variable {X : Cx} {ca : Str → Addr} {EW : WX} {a b c e o tg iter : Expr} {es : List Expr} {ta tb tc te to : TE} {tt tu : TT} {tas : TA} {fa fb fc fe fo : Ev} {ft fu : Et} {fas : Ea} {pos : Pos} {f g : Sf} {G : Gf} {vs ws : List Nat} {st : Stmt} {sts : List Stmt} {ts us : TS} {wi : TI} {it : ItF} {gt : TG}
theorem fe_var {i : Nat} (h : PE X e (tVar i)) : FE X ca EW e (tVar i) (fVar i) := ⟨h, se_var⟩
theorem fe_c {v : V} {d : D} (h : PE X e (tC v)) (hr : ∀ U H, Rp (kx X ca) U H v d) : FE X ca EW e (tC v) (fC d) := ⟨h, se_c hr⟩
theorem fe_i {i : Int} (h : PE X e (tC (.int i))) : FE X ca EW e (tC (.int i)) (fC (.int i)) := fe_c h fun _ _ => .int _
theorem fe_s {i : Str} (h : PE X e (tC (.str i))) : FE X ca EW e (tC (.str i)) (fC (.str i)) := fe_c h fun _ _ => .str _
theorem fe_b {i : Bool} (h : PE X e (tC (.bl i))) : FE X ca EW e (tC (.bl i)) (fC (.bl i)) := fe_c h fun _ _ => .bl _
theorem fe_n (h : PE X e (tC .non)) : FE X ca EW e (tC .non) (fC .non) := fe_c h fun _ _ => .non
theorem fe_ty {n : String} (h : PE X e (tC (.ty n))) : FE X ca EW e (tC (.ty n)) (fC (.ty n)) := fe_c h fun _ _ => .ty _
theorem fe_op {op : Operator} {r : R2} {f : D → D → Option Tok} (h : FOp X ca (binaryOp op) r f) (ha : FE X ca EW a ta fa) (hb : FE X ca EW b tb fb) : FE X ca EW (.BinOp a op b pos) (tOp r ta tb) (fOp f fa fb) := ⟨pe_op h.op ha.p hb.p, se_op h.s ha.s hb.s⟩
theorem fe_un {op : UnaryOp} {r : V → Hp → VK → Prop} {f : D → Option Tok} (h : FUn X ca (unaryOp op) r f) (ha : FE X ca EW a ta fa) : FE X ca EW (.UnaryOp op a pos) (tUn r ta) (fUn f fa) := ⟨pe_un h.op ha.p, se_un h.s ha.s⟩
theorem fe_cmp {op : CmpOp} {r : R2} {f : D → D → Option Tok} (h : FOp X ca (compareOp op) r f) (ha : FE X ca EW a ta fa) (hb : FE X ca EW b tb fb) (hm : behindInMarks op b = false) : FE X ca EW (.Compare a [op] [b] pos) (tOp r ta tb) (fOp f fa fb) := ⟨pe_cmpR h.op ha.p hb.p hm, se_op h.s ha.s hb.s⟩
theorem ft_cmp {op : CmpOp} {r : R2} {f : D → D → Option Tok} (h : FOp X ca (compareOp op) r f) (ha : FE X ca EW a ta fa) (hb : FE X ca EW b tb fb) (hm : behindInMarks op b = false) : FT X ca EW (.Compare a [op] [b] pos) (tTest (tOp r ta tb)) (fB (fOp f fa fb)) := ⟨pt_cmpR h.op ha.p hb.p hm, st_test (se_op h.s ha.s hb.s)⟩
theorem ft_val (h : FE X ca EW e te fe) (k : PE X e te → PT X e (tB te)) : FT X ca EW e (tB te) (fB fe) := ⟨k h.p, st_B h.s⟩
theorem ft_not (h : FT X ca EW a tt ft) : FT X ca EW (.UnaryOp .Not a pos) (tNot tt) (fNot ft) := ⟨pt_not h.p, st_not h.s⟩
theorem ft_w (h : FW X ca EW a tt ft) : FT X ca EW a tt ft := ⟨h.p.pt, h.s⟩
theorem fw_and1 (h : FT X ca EW a tt ft) : FW X ca EW (.BoolOp .And [a] pos) tt ft := ⟨pw_and1 h.p, h.s⟩
theorem fw_or1 (h : FT X ca EW a tt ft) : FW X ca EW (.BoolOp .Or [a] pos) tt ft := ⟨pw_or1 h.p, h.s⟩
theorem fw_and (h : FT X ca EW a tt ft) (g : FW X ca EW (.BoolOp .And (b :: es) pos) tu fu) : FW X ca EW (.BoolOp .And (a :: b :: es) pos) (tAnd tt tu) (fAnd ft fu) := ⟨pw_and h.p g.p, st_and h.s g.s⟩
theorem fw_or (h : FT X ca EW a tt ft) (g : FW X ca EW (.BoolOp .Or (b :: es) pos) tu fu) : FW X ca EW (.BoolOp .Or (a :: b :: es) pos) (tOr tt tu) (fOr ft fu) := ⟨pw_or h.p g.p, st_or h.s g.s⟩
theorem fe_one {op} (h : FE X ca EW a ta fa) : FE X ca EW (.BoolOp op [a] pos) ta fa := ⟨pe_one h.p, h.s⟩
theorem fe_and (h : FE X ca EW a ta fa) (g : FE X ca EW (.BoolOp .And (b :: es) pos) tb fb) : FE X ca EW (.BoolOp .And (a :: b :: es) pos) (tAndV ta tb) (fAndV fa fb) := ⟨pe_and h.p g.p, se_andV h.s g.s⟩
theorem fe_or (h : FE X ca EW a ta fa) (g : FE X ca EW (.BoolOp .Or (b :: es) pos) tb fb) : FE X ca EW (.BoolOp .Or (a :: b :: es) pos) (tOrV ta tb) (fOrV fa fb) := ⟨pe_or h.p g.p, se_orV h.s g.s⟩
theorem fe_not (h : FE X ca EW a ta fa) : FE X ca EW (.UnaryOp .Not a pos) (tNotV ta) (fNotV fa) := ⟨pe_not h.p, se_notV h.s⟩
theorem fe_if (hc : FT X ca EW c tt ft) (h : FE X ca EW a ta fa) (g : FE X ca EW b tb fb) : FE X ca EW (.IfExp c a b pos) (tIf tt ta tb) (fIf ft fa fb) := ⟨pe_ifExp hc.p h.p g.p, se_if hc.s h.s g.s⟩
theorem fa_nil : FA X ca EW [] tNil fNil := ⟨pa_nil, sa_nil⟩
theorem fa_cons (h : FE X ca EW e te fe) (g : FA X ca EW es tas fas) (hs : starEach (e :: es) X.env = (false, eval e X.env) :: starEach es X.env := by rfl) : FA X ca EW (e :: es) (tCons te tas) (fCons fe fas) := ⟨pa_cons h.p g.p hs, sa_cons h.s g.s⟩
theorem fe_tup {x1} (h : FA X ca EW es tas fas) : FE X ca EW (.Tuple es x1 pos) (tTup tas) (fTup fas) := ⟨pe_tup h.p, se_tup h.s⟩
theorem fe_lst (h : FA X ca EW es tas fas) : FE X ca EW (.List es pos) (tLst tas) (fLst fas) := ⟨pe_lst h.p, se_lst h.s⟩
theorem fe_ix {r : R2} {f : D → D → Option Tok} (h : FIx X ca r f) (ha : FE X ca EW a ta fa) (hb : FE X ca EW b tb fb) (hs : PlainIx b) : FE X ca EW (.Subscript a b pos) (tOp r ta tb) (fOp f fa fb) := ⟨pe_ix h.op ha.p hb.p hs, se_op h.s ha.s hb.s⟩
theorem fo_none : FO X ca EW none tNoPart none := ⟨po_none, so_none⟩
theorem fo_some (h : FE X ca EW e te fe) : FO X ca EW (some e) (tPart te) (some fe) := ⟨po_some h.p, so_some h.s⟩
theorem fe_sl {r : V → Option Int → Option Int → Hp → VK → Prop} {f : D → Option Int → Option Int → Option Tok} {lo hi : Option Expr} {tl th : TO} {fl fh : Option Ev} {p2 : Pos} (h : FSl X ca r f) (ha : FE X ca EW a ta fa) (hl : FO X ca EW lo tl fl) (hh : FO X ca EW hi th fh) : FE X ca EW (.Subscript a (.Slice lo hi none p2) pos) (tSl r ta tl th) (fSl f fa fl fh) := ⟨pe_slice h.op ha.p hl.p hh.p, se_sl h.s ha.s hl.s hh.s⟩
/-- a call of a built-in -/
theorem fe_cb {g : Value} {r : List V → Hp → VK → Prop} {f : List D → Option Tok} (h : FCa X ca g r f) (ha : FA X ca EW es tas fas) (k : CallR X g r → PA X es tas → PE X e (tCB r tas)) : FE X ca EW e (tCB r tas) (fCB f fas) := ⟨k h.op ha.p, se_cb h.s ha.s⟩
/-! ### targets -/
theorem fg_name {i : Nat} (h : PG X e (gName i)) : FG X ca e (gName i) (Gname i) [i] := ⟨h, sg_name⟩
theorem fgs_nil : FGs X ca [] gNil [] [] := ⟨pgs_nil, sgs_nil⟩
theorem fgs_cons {gs : TGs} {Gs : List Gf} (h : FG X ca e gt G vs) (k : FGs X ca es gs Gs ws) (kk : PG X e gt → PGs X es gs → PGs X (e :: es) (gCons gt gs)) : FGs X ca (e :: es) (gCons gt gs) (G :: Gs) (vs ++ ws) := ⟨kk h.p k.p, sgs_cons h.s k.s⟩
theorem fg_tup {gs : TGs} {Gs : List Gf} {n : Nat} (h : FGs X ca es gs Gs ws) (hn : n = Gs.length) (k : PGs X es gs → PG X e (gTup X.K n gs)) : FG X ca e (gTup X.K n gs) (Gtup Gs) ws := ⟨k h.p, by subst hn; exact sg_tup h.s⟩
/-! ### comprehensions -/
theorem fts_nil : FTs X ca EW [] tYes fYes := ⟨pts_nil, st_yes⟩
theorem fts_one (h : FT X ca EW c tt ft) : FTs X ca EW [c] tt ft := ⟨pts_one h.p, h.s⟩
theorem fe_lc {elt : Expr} {ifs : List Expr} {scope : Scope} {own : List (Str × Nat)} (hc : X.calm = true) (hN : X.N.Nodup) (hi : FI X ca EW tg iter wi fas it) (ok : BlkOk X.N X.env.scope scope own)
    (hg : ∀ (s : Shared) (H : Hp) (C : Addr) (cl : List (Str × Addr)) (fp : List Addr), FG (X.blk s H scope (compEnvC scope cl C X.env) fp) ca tg gt G ws) (ht : ∀ (s : Shared) (H : Hp) (C : Addr) (cl : List (Str × Addr)) (fp : List Addr), FTs (X.blk s H scope (compEnvC scope cl C X.env) fp) ca W0 ifs tt ft)
    (he : ∀ (s : Shared) (H : Hp) (C : Addr) (cl : List (Str × Addr)) (fp : List Addr), FE (X.blk s H scope (compEnvC scope cl C X.env) fp) ca W0 elt te fe) (hv : ∀ k ∈ ws, k ∈ own.map (·.2)) (hs : ∀ x, foldedSetIterable iter X.env x = pure x := by intro _; rfl) :
    FE X ca EW (.ListComp elt [⟨tg, iter, ifs, 0⟩] scope pos) (tLc wi gt tt te (own.map (·.2))) (fLc fas it G ft fe (own.map (·.2))) :=
  ⟨pe_lc hc hN hi.p ok (fun s H C cl fp => (hg s H C cl fp).p) (fun s H C cl fp => (ht s H C cl fp).p) (fun s H C cl fp => (he s H C cl fp).p) hs, se_lc hi.s (hg X.s_0 (fun _ => none) 0 [] []).s hv (ht X.s_0 (fun _ => none) 0 [] []).s (he X.s_0 (fun _ => none) 0 [] []).s⟩
theorem fe_dc {kx' vx : Expr} {tk tv : TE} {fk fv : Ev} {ifs : List Expr} {scope : Scope} {own : List (Str × Nat)} (hc : X.calm = true) (hN : X.N.Nodup) (hi : FI X ca EW tg iter wi fas it) (ok : BlkOk X.N X.env.scope scope own)
    (hg : ∀ (s : Shared) (H : Hp) (C : Addr) (cl : List (Str × Addr)) (fp : List Addr), FG (X.blk s H scope (compEnvC scope cl C X.env) fp) ca tg gt G ws) (ht : ∀ (s : Shared) (H : Hp) (C : Addr) (cl : List (Str × Addr)) (fp : List Addr), FTs (X.blk s H scope (compEnvC scope cl C X.env) fp) ca W0 ifs tt ft)
    (hk : ∀ (s : Shared) (H : Hp) (C : Addr) (cl : List (Str × Addr)) (fp : List Addr), FE (X.blk s H scope (compEnvC scope cl C X.env) fp) ca W0 kx' tk fk) (he : ∀ (s : Shared) (H : Hp) (C : Addr) (cl : List (Str × Addr)) (fp : List Addr), FE (X.blk s H scope (compEnvC scope cl C X.env) fp) ca W0 vx tv fv)
    (hv : ∀ k ∈ ws, k ∈ own.map (·.2)) (hs : ∀ x, foldedSetIterable iter X.env x = pure x := by intro _; rfl) :
    FE X ca EW (.DictComp kx' vx [⟨tg, iter, ifs, 0⟩] scope pos) (tDc wi gt tt tk tv (own.map (·.2))) (fDc fas it G ft fk fv (own.map (·.2))) :=
  ⟨pe_dc hc hN hi.p ok (fun s H C cl fp => (hg s H C cl fp).p) (fun s H C cl fp => (ht s H C cl fp).p) (fun s H C cl fp => (hk s H C cl fp).p) (fun s H C cl fp => (he s H C cl fp).p) hs, se_dc hi.s (hg X.s_0 (fun _ => none) 0 [] []).s hv (ht X.s_0 (fun _ => none) 0 [] []).s (hk X.s_0 (fun _ => none) 0 [] []).s (he X.s_0 (fun _ => none) 0 [] []).s⟩
/-! ### statements -/
theorem fss_nil : FSs X ca EW [] tNext fNext := ⟨pss_nil, ss_next⟩
theorem fss_one (h : FS X ca EW st ts f) : FSs X ca EW [st] ts f := ⟨pss_one h.p, h.s⟩
theorem fss_cons (h : FS X ca EW st ts f) (k : FSs X ca EW sts us g) : FSs X ca EW (st :: sts) (tSeq ts us) (fSeq f g) := ⟨pss_cons h.p k.p, ss_seq h.s k.s⟩
theorem fs_ret (h : FE X ca EW e te fe) (k : PE X e te → PS X st (tRet te)) : FS X ca EW st (tRet te) (fRet fe) := ⟨k h.p, ss_ret h.s⟩
theorem fs_retN (k : PS X st tRetN) : FS X ca EW st tRetN fRetN := ⟨k, ss_retN⟩
theorem fs_expr (h : FE X ca EW e te fe) (k : PE X e te → PS X st (tDrop te)) : FS X ca EW st (tDrop te) (fDrop fe) := ⟨k h.p, ss_drop h.s⟩
theorem fs_set {i : Nat} (h : FE X ca EW e te fe) (k : PE X e te → PS X st (tAsg te (gName i))) : FS X ca EW st (tAsg te (gName i)) (fAsg fe (Gname i)) := ⟨k h.p, ss_asg h.s sg_name⟩
theorem fs_asg (h : FE X ca EW e te fe) (hg : FG X ca tg gt G vs) (k : PE X e te → PG X tg gt → PS X st (tAsg te gt)) : FS X ca EW st (tAsg te gt) (fAsg fe G) := ⟨k h.p hg.p, ss_asg h.s hg.s⟩
theorem fs_par {i j : Nat} (h : FA X ca EW es tas fas) (k : PA X es tas → PS X st (tPar i j tas)) : FS X ca EW st (tPar i j tas) (fPar [i, j] fas) := ⟨k h.p, ss_par h.s⟩
theorem fs_par3 {i j l : Nat} (h : FA X ca EW es tas fas) (k : PA X es tas → PS X st (tPar3 i j l tas)) : FS X ca EW st (tPar3 i j l tas) (fPar [i, j, l] fas) := ⟨k h.p, ss_par3 h.s⟩
theorem fs_if {ss ls : List Stmt} (hc : FT X ca EW c tt ft) (h : FSs X ca EW ss ts f) (k : FSs X ca EW ls us g) : FS X ca EW (.If c ss ls pos) (tIfS tt ts us) (fIfS ft f g) := ⟨ps_if hc.p h.p k.p, ss_if hc.s h.s k.s⟩
theorem fs_for {body : List Stmt} (hp : PassesOwn (model X.prog X.w) X.A X.env X.xe) (hc : X.calm = true) (hi : FI X ca EW tg iter wi fas it) (hg : FG X ca tg gt G vs) (hb : FSs X ca EW body ts f) (hs : ∀ x, foldedSetIterable iter X.env x = pure x := by intro _; rfl) :
    FS X ca EW (.For tg iter body [] pos) (tFor wi gt ts) (fFor fas it G f) := ⟨ps_for hp hc hi.p hg.p hb.p hs, ss_for hi.s hg.s hb.s⟩
theorem fs_while {body : List Stmt} (hp : PassesOwn (model X.prog X.w) X.A X.env X.xe) (hc : FT X ca EW c tt ft) (hb : FSs X ca EW body ts f) : FS X ca EW (.While c body [] pos) (tWhile tt ts) (fWhile ft f) := ⟨ps_while hp hc.p hb.p, ss_while hc.s hb.s⟩
theorem fs_never : FS X ca EW st tNever fNever := ⟨ps_never, ss_never⟩
theorem fs_next (k : PS X st tNext) : FS X ca EW st tNext fNext := ⟨k, ss_next⟩
theorem fs_break (k : PS X st tBreak) : FS X ca EW st tBreak fBreak := ⟨k, ss_break⟩
theorem fs_cont (k : PS X st tCont) : FS X ca EW st tCont fCont := ⟨k, ss_cont⟩
/-! ### calls of defs -/
structure DnF (P : Program) (w : World) (K : PySem.W.Frag) (mg : Str → Option Value) (base : Heap) (ca : Str → Addr) (k : Nat) (x : Str) (m : List Bool) (fn : Fn) : Prop where
  ex : ∃ f fd ps, FnG P w K mg base (L2.CX P w) k f fd ps (spF ⟨K, ca⟩ m fn) ∧ mg x = some (.ref f) ∧ PySem.W.keepIn K (.ref f) = true ∧ Binds K fd ps []
theorem pe_callSG {CX : CXT} {k : Nat} {f : Addr} {fd : FuncData} {ps : List Str} {sp : Sp} {E : L2.St → XK} {x : Str} {p : Pos} (F : FnG X.prog X.w X.K X.mg X.base CX k f fd ps sp) (hgd : X.A.guards = some []) (hr : Room k X.A) (hg : Gl X x) (hm : X.mg x = some (.ref f)) (hk : PySem.W.keepIn X.K (.ref f) = true) (hb : Binds X.K fd ps []) (hx : ∀ σ, PassesAt CX X σ (E σ))
    (ha : PA X (e :: es) tas) (hdb : (x == ("__debug__" : Str)) = false := by decide) (he : starEach (e :: es) X.env = (false, eval e X.env) :: starEach es X.env := by rfl) (hpl : (backTo pos (starEach es X.env)).any (·.1) = false := by rfl) :
    PE X (.Call (.Name x p) (e :: es) [] pos) (tCallS sp E tas) := by
  refine ⟨fun pins s σ H Q I h => ?_⟩
  refine wpAny_Call_Name_kw (ld_glob I hg hm ?_ hdb)
  refine PySem.W.callWith_K (h₀ := X.base) I.ok.mod.kin hk (thn (ha.run pos pins s σ H _ I h) fun us s1 ⟨vs, H1, I1, r, q⟩ => ⟨I1.kIn, ?_⟩) he hpl
  have hl : us.length = ps.length := by rw [← r.length]; exact F.len _ _ _ _ q
  have b := hb s1 us I1.kIn (by rw [List.append_nil]; exact hl)
  rw [List.append_nil] at b
  refine wpAny_call (codeAny_mono (F.run X.A X.stack s1 H1 ⟨us, []⟩ us vs Q (E σ) hgd hr I1.env0 b r q) fun r s' hq => ?_)
  cases r with
  | error e => exact hx σ pins H1 s1 e s' I1 hq
  | ok fl =>
    cases fl with
    | ret u => exact I1.after hq
    | next => exact False.elim hq
    | brk => exact False.elim hq
    | cont => exact False.elim hq
theorem fe_d {j k : Nat} {x : Str} {m : List Bool} {fn : Fn} {p : Pos} (d : DnF X.prog X.w X.K X.mg X.base ca j x m fn) (tk : Takes X EW) (hG : X.A.guards = some []) (hr : Room k X.A) (ha : FA X ca EW (e :: es) tas fas) (hj : j ≤ k := by decide) (hg : Gl X x := by rfl) (hdb : (x == ("__debug__" : Str)) = false := by decide)
    (he : starEach (e :: es) X.env = (false, eval e X.env) :: starEach es X.env := by rfl) (hpl : (backTo pos (starEach es X.env)).any (·.1) = false := by rfl) : FE X ca EW (.Call (.Name x p) (e :: es) [] pos) (tCallS (spF (kx X ca) m fn) (WE EW) tas) (fCall m fn fas) := by
  obtain ⟨f, fd, ps, F, hm, hk, hb⟩ := d.ex
  exact ⟨pe_callSG F hG (hr.mono hj) hg hm hk hb (fun σ => passAt tk σ) ha.p hdb he hpl, se_call ha.s⟩
end
section
variable {P : Program} {w : World} {K : PySem.W.Frag} {mg : Str → Option Value} {base : Heap} {ca : Str → Addr} {k : Nat} {x : Str} {st : Stmt} {f : Addr} {fd : FuncData} {N ps : List Str} {m : List Bool} {fb : Sf} {t : TS}
theorem spF_len {κ : Kx} {fn : Fn} {vs : List V} {H : Hp} {Q : VK} {E : XK} (h : spF κ m fn vs H Q E) : vs.length = m.length := by
  obtain ⟨U, ds, _, ha, _⟩ := h
  exact ha.len.1
/-- a def by its body -/
theorem fnFD_of {dvs : List V} (F : FunD K x x (defArgs st) (defBody st) (defScope st) dvs [] f fd) (S : FnScope N ps (defScope st)) (n : Nat) (hn : ps.length + n = N.length) (hml : m.length = ps.length)
    (hbody : ∀ (cdv : Value) (A : Around) (outer : List PySem.Env) (s : Shared) (H : Hp) (E : XK), A.guards = some [] → Room k (A.deeper (envOfC x (defScope st) s.heap.objs.size f cdv)) →
      ∃ t, FSs (cxOf (L2.CX P w) P w K mg base N x (defScope st) f cdv A outer s H E) ca (fun c d _ H' => E c d H') (defBody st) t fb) : FnG P w K mg base (L2.CX P w) (k + 1) f fd ps (spF ⟨K, ca⟩ m (mkFn m n fb)) := by
  obtain ⟨oc, od, dV, kV, doc, pm, an, cdv, ct, osl, rfl, lk, hcd, _⟩ := F.ex
  refine fnG_of lk hcd S (fun vs H Q E h => (spF_len h).trans hml) fun A outer s H vs Q E hg hr h => ?_
  obtain ⟨t, hB⟩ := hbody cdv A outer s H E hg hr
  refine ⟨t, hB.p, ?_⟩
  rw [start_of (n := n) (by rw [spF_len h, hml]; exact hn)]
  exact mkFn_ok rfl hB.s h
theorem fnF_of (F : FnP K x st f fd) (hm : mg x = some (.ref f)) (S : FnScope N ps (defScope st)) (n : Nat) (hn : ps.length + n = N.length) (hml : m.length = ps.length)
    (hb : ∀ (kV doc pm : Value) (an : Option Addr) (cdv ct : Value) (us : List Value), us.length = ps.length → bindArgs (PySem.W.fnOf x x (defArgs st) (defBody st) (defScope st) .none kV doc pm an cdv ct) ⟨us, []⟩ = pure (ps.zip us))
    (hbody : ∀ (cdv : Value) (A : Around) (outer : List PySem.Env) (s : Shared) (H : Hp) (E : XK), A.guards = some [] → Room k (A.deeper (envOfC x (defScope st) s.heap.objs.size f cdv)) →
      ∃ t, FSs (cxOf (L2.CX P w) P w K mg base N x (defScope st) f cdv A outer s H E) ca (fun c d _ H' => E c d H') (defBody st) t fb) : FnG P w K mg base (L2.CX P w) (k + 1) f fd ps (spF ⟨K, ca⟩ m (mkFn m n fb)) := fnFD_of F S n hn hml hbody
/-- a def with defaults that is called with all its arguments -/
theorem dnFD_of {dvs : List V} (F : FunD K x x (defArgs st) (defBody st) (defScope st) dvs [] f fd) (hdv : dvs ≠ []) (hm : mg x = some (.ref f)) (S : FnScope N ps (defScope st)) (n : Nat) (hn : ps.length + n = N.length) (hml : m.length = ps.length)
    (hb : ∀ (T : Addr) (kV doc pm : Value) (an : Option Addr) (cdv ct : Value) (us its : List Value), us.length = ps.length → its.length = dvs.length →
      ∃ k, bindArgs (PySem.W.fnOf x x (defArgs st) (defBody st) (defScope st) (.ref T) kV doc pm an cdv ct) ⟨us, []⟩ = seqItems? (.ref T) >>= k ∧ k (some its.toArray) = pure (ps.zip (us ++ its.drop dvs.length)))
    (hbody : ∀ (cdv : Value) (A : Around) (outer : List PySem.Env) (s : Shared) (H : Hp) (E : XK), A.guards = some [] → Room k (A.deeper (envOfC x (defScope st) s.heap.objs.size f cdv)) →
      ∃ t, FSs (cxOf (L2.CX P w) P w K mg base N x (defScope st) f cdv A outer s H E) ca (fun c d _ H' => E c d H') (defBody st) t fb) : DnF P w K mg base ca (k + 1) x m (mkFn m n fb) := by
  obtain ⟨ds, rv, bd⟩ := F.binds1 ps.length dvs.length hdv (by omega) hb
  rw [List.drop_length] at rv
  cases rv
  exact ⟨f, fd, ps, fnFD_of F S n hn hml hbody, hm, F.kp, bd⟩
/-- a def that nobody may call -/
theorem dnF_bad (F : FnP K x st f fd) (hm : mg x = some (.ref f)) (hml : m.length = ps.length)
    (hb : ∀ (kV doc pm : Value) (an : Option Addr) (cdv ct : Value) (us : List Value), us.length = ps.length → bindArgs (PySem.W.fnOf x x (defArgs st) (defBody st) (defScope st) .none kV doc pm an cdv ct) ⟨us, []⟩ = pure (ps.zip us)) : DnF P w K mg base ca k x m (fun _ => .bad) := by
  have no : ∀ vs H Q E, ¬ spF ⟨K, ca⟩ m (fun _ => .bad) vs H Q E := fun vs H Q E ⟨_, _, _, _, _, q⟩ => q
  exact ⟨f, fd, ps, ⟨fun vs H Q E h => absurd h (no vs H Q E), fun A outer s H args us vs Q E _ _ _ _ _ h => absurd h (no vs H Q E)⟩, hm, F.kp, F.bindsN hb⟩
/-- a def by its body -/
theorem dnF_of (F : FnP K x st f fd) (hm : mg x = some (.ref f)) (S : FnScope N ps (defScope st)) (n : Nat) (hn : ps.length + n = N.length) (hml : m.length = ps.length)
    (hb : ∀ (kV doc pm : Value) (an : Option Addr) (cdv ct : Value) (us : List Value), us.length = ps.length → bindArgs (PySem.W.fnOf x x (defArgs st) (defBody st) (defScope st) .none kV doc pm an cdv ct) ⟨us, []⟩ = pure (ps.zip us))
    (hbody : ∀ (cdv : Value) (A : Around) (outer : List PySem.Env) (s : Shared) (H : Hp) (E : XK), A.guards = some [] → Room k (A.deeper (envOfC x (defScope st) s.heap.objs.size f cdv)) →
      ∃ t, FSs (cxOf (L2.CX P w) P w K mg base N x (defScope st) f cdv A outer s H E) ca (fun c d _ H' => E c d H') (defBody st) t fb) : DnF P w K mg base ca (k + 1) x m (mkFn m n fb) := ⟨f, fd, ps, fnF_of F hm S n hn hml hb hbody, hm, F.kp, F.bindsN hb⟩
end
end FL

set_option Elab.async false
set_option linter.all false
set_option maxRecDepth 100000
set_option maxHeartbeats 4000000
set_option exponentiation.threshold 100000
/-! F13: what loops walk; objects that are changed. -/
namespace FL
open PySem PySem.Spec PyProof.Rows L2 GL RZ
def charsD (z : Str) : List D := z.cps.toList.map fun c => .str ⟨#[c]⟩
def seqIt : ItF
  | [.lst ds] => some ds
  | [.tup ds] => some ds
  | [.str z] => some (charsD z)
  | _ => none
abbrev iSeq (K : PySem.W.Frag) (te : TE) : TI := fun σ H R => iList K te σ H R ∨ iTup K te σ H R ∨ iStr te σ H R
section
variable {κ : Kx} {EW : WX} {U : AS} {env : Env} {σ : L2.St} {H : Hp} {te : TE} {fe : Ev} {tas : TA} {fas : Ea}
theorem jok_list {a : Addr} {ds : List D} : JOk κ (Itl κ.K a) [.ref a] [.lst ds] ds := by
  intro U H i hb al
  cases hb with
  | cons h b =>
    cases b
    cases h with
    | lst h r =>
      refine ⟨fun d hd => ?_, fun hl => ⟨_, .inl (.inl h), by rw [r.len]; exact hl⟩⟩
      obtain ⟨v, e, rv⟩ := r.at' hd
      refine ⟨⟨_, v, .inl (.inl h), e⟩, fun x H' y => ?_⟩
      obtain ⟨rfl, y⟩ := y
      have := y _ (.inl (.inl h))
      rw [e] at this; cases this
      exact ⟨.refl, rv⟩
theorem jok_tup {a : Addr} {ds : List D} : JOk κ (Itt κ.K a) [.ref a] [.tup ds] ds := by
  intro U H i hb al
  cases hb with
  | cons h b =>
    cases b
    cases h with
    | tup h r =>
      refine ⟨fun d hd => ?_, fun hl => ⟨_, h.sq, by rw [r.len]; exact hl⟩⟩
      obtain ⟨v, e, rv⟩ := r.at' hd
      refine ⟨⟨_, v, h.sq, e⟩, fun x H' y => ?_⟩
      obtain ⟨rfl, y⟩ := y
      have := y _ h.sq
      rw [e] at this; cases this
      exact ⟨.refl, rv⟩
theorem jok_str {z : Str} : JOk κ (Its z) [.str z] [.str z] (charsD z) := by
  intro U H i hb al
  have hl : (charsD z).length = z.cps.size := by simp [charsD]
  refine ⟨fun d hd => ?_, fun h => by rw [hl] at h; exact h⟩
  have hi : i < (charsD z).length := (List.getElem?_eq_some_iff.mp hd).1
  refine ⟨by rw [hl] at hi; exact hi, fun x H' y => ?_⟩
  obtain ⟨rfl, c, e, rfl⟩ := y
  refine ⟨.refl, ?_⟩
  have : d = .str ⟨#[c]⟩ := by
    unfold charsD at hd
    rw [List.getElem?_map, Array.getElem?_toList, e] at hd
    cases hd; rfl
  rw [this]
  exact .str _
/-- one source -/
theorem si_one {wi : TI} {it : ItF} (he : SE κ EW te fe) (hw : ∀ (d : D) (items : List D), it [d] = some items → ∃ Pst : (It → Hp → Prop) → VK, (∀ (σ : L2.St) (H : Hp) (R : It → Hp → Prop), te σ H (Pst R) → wi σ H R) ∧ ∀ (U : AS) (H1 : Hp) (v : V) (R : It → Hp → Prop), Rb κ U H1 v d → (∀ J, JOk κ J [v] [d] items → R J H1) → Pst R v H1)
    (hn : ∃ Pst : (It → Hp → Prop) → VK, ∀ (σ : L2.St) (H : Hp) (R : It → Hp → Prop), te σ H (Pst R) → wi σ H R) : SI κ EW wi (fCons fe fNil) it := by
  intro U env σ H R I q
  obtain ⟨Pn, hn⟩ := hn
  have q : Ask κ EW U env σ H ((fe env).bind fun t e1 => .ok [t] e1) _ := q
  cases hf : fe env with
  | err x e1 =>
    rw [hf] at q
    refine hn σ H R (he U env σ H _ I ?_)
    rw [hf]
    exact q
  | bad => rw [hf] at q; exact q.elim
  | ok t e1 =>
    rw [hf] at q
    have q : ∀ U' H', Step U env σ H U' e1 σ H' → Inv κ U' e1 σ H' → _ := q
    cases hr : res t e1 with
    | none =>
      refine hn σ H R (he U env σ H _ I ?_)
      rw [hf]
      intro U' H' s I'
      exfalso
      have := (q U' H' s I').1
      unfold srcOf resAll at this
      rw [hr] at this
      cases this
    | some d =>
      have hra : resAll [t] e1 = some [d] := by unfold resAll; rw [hr]; rfl
      cases hit : it [d] with
      | none =>
        refine hn σ H R (he U env σ H _ I ?_)
        rw [hf]
        intro U' H' s I'
        exfalso
        have := (q U' H' s I').1
        unfold srcOf at this
        rw [hra] at this
        have this : (it [d]).isSome = true := this
        rw [hit] at this
        cases this
      | some items =>
        obtain ⟨Pst, h1, h2⟩ := hw d items hit
        refine h1 σ H R (he U env σ H _ I ?_)
        rw [hf]
        intro U' H' s I' v hv
        exact h2 U' H' v R (res_rb I' hv hr) fun J hJ => (q U' H' s I').2 [v] (.cons hv .nil) [d] items hra hit J hJ
theorem si_seq (he : SE κ EW te fe) : SI κ EW (iSeq κ.K te) (fCons fe fNil) seqIt := by
  refine si_one he (fun d items hit => ?_) ⟨_, fun σ H R h => .inl h⟩
  unfold seqIt at hit
  split at hit
  · cases hit
    rename_i ds heq
    cases heq
    refine ⟨_, fun σ H R h => .inl h, fun U H1 v R rb k => ?_⟩
    cases rb with
    | lst h r => exact ⟨_, rfl, ⟨_, .inl (.inl h)⟩, k _ jok_list⟩
  · cases hit
    rename_i ds heq
    cases heq
    refine ⟨_, fun σ H R h => .inr (.inl h), fun U H1 v R rb k => ?_⟩
    cases rb with
    | tup h r => exact ⟨_, rfl, ⟨_, h.sq⟩, k _ jok_tup⟩
  · cases hit
    rename_i ds heq
    cases heq
    refine ⟨_, fun σ H R h => .inr (.inr h), fun U H1 v R rb k => ?_⟩
    cases rb
    exact ⟨_, rfl, k _ jok_str⟩
  · cases hit
/-- several sources, one form -/
theorem si_many {wi : TI} {it : ItF} (ha : SA κ EW tas fas) (Pst : (It → Hp → Prop) → List V → Hp → Prop) (h1 : ∀ (σ : L2.St) (H : Hp) (R : It → Hp → Prop), tas σ H (Pst R) → wi σ H R)
    (h2 : ∀ (ds items : List D), it ds = some items → ∀ (U : AS) (H1 : Hp) (vs : List V) (R : It → Hp → Prop), RbA κ U H1 vs ds → (∀ J, JOk κ J vs ds items → R J H1) → Pst R vs H1) : SI κ EW wi fas it := by
  intro U env σ H R I q
  refine h1 σ H R (ha U env σ H _ I (q.mono fun toks e1 U1 H1 s1 I1 q1 vs hvs _ => ?_))
  obtain ⟨hs, q1⟩ := q1
  obtain ⟨ds, items, hr, hit⟩ := srcOf_some hs
  exact h2 ds items hit U1 H1 vs R (resAll_rb I1 hvs hr) fun J hJ => q1 vs hvs ds items hr hit J hJ
def rangeL (lo : Int) (n : Nat) : List D := (List.range n).map fun (i : Nat) => .int (lo + i)
theorem rangeL_at {lo : Int} {n i : Nat} {d : D} (h : (rangeL lo n)[i]? = some d) : i < n ∧ d = .int (lo + i) := by
  unfold rangeL at h
  rw [List.getElem?_map] at h
  by_cases hi : i < n
  · rw [List.getElem?_range hi] at h; cases h; exact ⟨hi, rfl⟩
  · rw [List.getElem?_eq_none (by simpa using hi)] at h; cases h
theorem jok_rng {vs : List V} {ds : List D} {lo : Int} {n : Nat} : JOk κ (Itr lo n) vs ds (rangeL lo n) := by
  intro U H i hb al
  refine ⟨fun d hd => ?_, fun h => (by simpa [rangeL] using h : n ≤ i)⟩
  obtain ⟨hi, rfl⟩ := rangeL_at hd
  refine ⟨hi, fun x H' y => ?_⟩
  obtain ⟨rfl, rfl⟩ := y
  exact ⟨.refl, .int _⟩
def rng1 : ItF
  | [.int j] => if -1000000000 ≤ j ∧ j < 1000000000 then some (rangeL 0 j.toNat) else none
  | _ => none
def rng2 : ItF
  | [.int i, .int j] => if -1000000000 ≤ i ∧ i < 1000000000 ∧ -1000000000 ≤ j ∧ j < 1000000000 then some (rangeL i (j - i).toNat) else none
  | _ => none
theorem si_rng1 (ha : SA κ EW tas fas) : SI κ EW (iRng1 tas) fas rng1 := by
  refine si_many ha _ (fun σ H R h => h) fun ds items hit U H1 vs R rb k => ?_
  unfold rng1 at hit
  split at hit
  · split at hit
    · rename_i hc
      cases hit
      cases rb with
      | cons a b => cases b; cases a; exact ⟨_, rfl, by omega, by omega, k _ jok_rng⟩
    · cases hit
  · cases hit
theorem si_rng2 (ha : SA κ EW tas fas) : SI κ EW (iRng2 tas) fas rng2 := by
  refine si_many ha _ (fun σ H R h => h) fun ds items hit U H1 vs R rb k => ?_
  unfold rng2 at hit
  split at hit
  · split at hit
    · rename_i hc
      cases hit
      cases rb with
      | cons a b =>
        cases b with
        | cons b c => cases c; cases a; cases b; exact ⟨_, _, rfl, ⟨by omega, by omega, by omega, by omega⟩, k _ jok_rng⟩
    · cases hit
  · cases hit
def enumL (ds : List D) : List D := ds.zipIdx.map fun p => .tup [.int (p.2 : Nat), p.1]
theorem enumL_at {ds : List D} {i : Nat} {d : D} (h : (enumL ds)[i]? = some d) : ∃ x, ds[i]? = some x ∧ d = .tup [.int (i : Nat), x] := by
  unfold enumL at h
  rw [List.getElem?_map, List.getElem?_zipIdx] at h
  cases e : ds[i]? with
  | none => rw [e] at h; cases h
  | some x => rw [e] at h; cases h; exact ⟨x, rfl, by simp⟩
def enumIt : ItF
  | [.lst ds] => some (enumL ds)
  | _ => none
theorem jok_enum {a : Addr} {ds : List D} : JOk κ (Ite κ.K a) [.ref a] [.lst ds] (enumL ds) := by
  intro U H i hb al
  cases hb with
  | cons h b =>
    cases b
    cases h with
    | lst h r =>
      refine ⟨fun d hd => ?_, fun hl => ⟨_, .inl (.inl h), by rw [r.len]; simpa [enumL] using hl⟩⟩
      obtain ⟨x, hx, rfl⟩ := enumL_at hd
      obtain ⟨v, e, rv⟩ := r.at' hx
      refine ⟨⟨_, v, .inl (.inl h), e⟩, fun y H' hy => ?_⟩
      obtain ⟨T, z, rfl, nT, rfl, hz⟩ := hy
      have := hz _ (.inl (.inl h))
      rw [e] at this; cases this
      exact ⟨.new nT, Rp.newT al (.cons (.int _) (.cons rv .nil)) nT⟩
theorem si_enum (ha : SA κ EW tas fas) : SI κ EW (iEnum κ.K tas) fas enumIt := by
  refine si_many ha _ (fun σ H R h => h) fun ds items hit U H1 vs R rb k => ?_
  unfold enumIt at hit
  split at hit
  · cases hit
    cases rb with
    | cons a b =>
      cases b
      cases a with
      | lst h r => exact ⟨_, _, rfl, .inl (.inl h), k _ jok_enum⟩
  · cases hit
def zipL : List D → List D → List D
  | x :: xs, y :: ys => .tup [x, y] :: zipL xs ys
  | _, _ => []
theorem zipL_at : ∀ {xs ys : List D} {i : Nat} {d : D}, (zipL xs ys)[i]? = some d → ∃ x y, xs[i]? = some x ∧ ys[i]? = some y ∧ d = .tup [x, y]
  | [], _, i, d, h => by simp [zipL] at h
  | _ :: _, [], i, d, h => by simp [zipL] at h
  | x :: xs, y :: ys, 0, d, h => by simp [zipL] at h; exact ⟨x, y, rfl, rfl, h.symm⟩
  | x :: xs, y :: ys, i + 1, d, h => by
    obtain ⟨a, b, h1, h2, h3⟩ := zipL_at (xs := xs) (ys := ys) (i := i) (d := d) (by simpa [zipL] using h)
    exact ⟨a, b, by simpa using h1, by simpa using h2, h3⟩
theorem zipL_len : ∀ (xs ys : List D), (zipL xs ys).length = min xs.length ys.length
  | [], _ => by simp [zipL]
  | _ :: _, [] => by simp [zipL]
  | x :: xs, y :: ys => by simp [zipL, zipL_len xs ys]
def zipIt : ItF
  | [.lst xs, .lst ys] => some (zipL xs ys)
  | [.tup xs, .tup ys] => some (zipL xs ys)
  | _ => none
theorem jok_zip {a b : Addr} {ds es : List D} : JOk κ (Itz κ.K a b) [.ref a, .ref b] [.lst ds, .lst es] (zipL ds es) := by
  intro U H i hb al
  cases hb with
  | cons h1 hb =>
    cases hb with
    | cons h2 hb =>
      cases hb
      cases h1 with
      | lst h1 r1 =>
        cases h2 with
        | lst h2 r2 =>
          refine ⟨fun d hd => ?_, fun hl => ⟨_, _, .inl (.inl h1), .inl (.inl h2), by rw [zipL_len] at hl; rw [r1.len, r2.len]; omega⟩⟩
          obtain ⟨x, y, hx, hy, rfl⟩ := zipL_at hd
          obtain ⟨v, e1, rv⟩ := r1.at' hx
          obtain ⟨w, e2, rw'⟩ := r2.at' hy
          refine ⟨⟨_, _, v, w, .inl (.inl h1), .inl (.inl h2), e1, e2⟩, fun z H' hz => ?_⟩
          obtain ⟨T, x', y', rfl, nT, rfl, k1, k2⟩ := hz
          have q1 := k1 _ (.inl (.inl h1))
          have q2 := k2 _ (.inl (.inl h2))
          rw [e1] at q1; rw [e2] at q2; cases q1; cases q2
          exact ⟨.new nT, Rp.newT al (.cons rv (.cons rw' .nil)) nT⟩
theorem jok_zipT {a b : Addr} {ds es : List D} : JOk κ (ItzT κ.K a b) [.ref a, .ref b] [.tup ds, .tup es] (zipL ds es) := by
  intro U H i hb al
  cases hb with
  | cons h1 hb =>
    cases hb with
    | cons h2 hb =>
      cases hb
      cases h1 with
      | tup h1 r1 =>
        cases h2 with
        | tup h2 r2 =>
          refine ⟨fun d hd => ?_, fun hl => ⟨_, _, h1.sq, h2.sq, by rw [zipL_len] at hl; rw [r1.len, r2.len]; omega⟩⟩
          obtain ⟨x, y, hx, hy, rfl⟩ := zipL_at hd
          obtain ⟨v, e1, rv⟩ := r1.at' hx
          obtain ⟨w, e2, rw'⟩ := r2.at' hy
          refine ⟨⟨_, _, v, w, h1.sq, h2.sq, e1, e2⟩, fun z H' hz => ?_⟩
          obtain ⟨T, x', y', rfl, nT, rfl, k1, k2⟩ := hz
          have q1 := k1 _ h1.sq
          have q2 := k2 _ h2.sq
          rw [e1] at q1; rw [e2] at q2; cases q1; cases q2
          exact ⟨.new nT, Rp.newT al (.cons rv (.cons rw' .nil)) nT⟩
theorem si_zip (ha : SA κ EW tas fas) : SI κ EW (iZipA κ.K tas) fas zipIt := by
  refine si_many ha _ (fun σ H R h => h) fun ds items hit U H1 vs R rb k => ?_
  unfold zipIt at hit
  split at hit
  · cases hit
    cases rb with
    | cons a b =>
      cases b with
      | cons b c =>
        cases c
        cases a with
        | lst h1 r1 =>
          cases b with
          | lst h2 r2 => exact ⟨_, _, _, _, rfl, .inl ⟨.inl (.inl h1), .inl (.inl h2), k _ jok_zip⟩⟩
  · cases hit
    cases rb with
    | cons a b =>
      cases b with
      | cons b c =>
        cases c
        cases a with
        | tup h1 r1 =>
          cases b with
          | tup h2 r2 => exact ⟨_, _, _, _, rfl, .inr ⟨h1.sq, h2.sq, k _ jok_zipT⟩⟩
  · cases hit
end
section
variable {X : Cx} {ca : Str → Addr} {EW : WX} {tg e : Expr} {es : List Expr} {te : TE} {fe : Ev} {tas : TA} {fas : Ea}
theorem pi_or {w1 w2 : TI} (h1 : PI X tg e w1) (h2 : PI X tg e w2) : PI X tg e (fun σ H R => w1 σ H R ∨ w2 σ H R) := ⟨fun pins s σ H R I h => h.elim (h1.run pins s σ H R I) (h2.run pins s σ H R I)⟩
theorem fi_seq (h : FE X ca EW e te fe) : FI X ca EW tg e (iSeq X.K te) (fCons fe fNil) seqIt := ⟨pi_or (pi_list h.p) (pi_or (pi_tup h.p) (pi_str h.p)), si_seq h.s⟩
theorem fi_rng1 (h : FA X ca EW es tas fas) (k : PA X es tas → PI X tg e (iRng1 tas)) : FI X ca EW tg e (iRng1 tas) fas rng1 := ⟨k h.p, si_rng1 h.s⟩
theorem fi_rng2 (h : FA X ca EW es tas fas) (k : PA X es tas → PI X tg e (iRng2 tas)) : FI X ca EW tg e (iRng2 tas) fas rng2 := ⟨k h.p, si_rng2 h.s⟩
theorem fi_enum (h : FA X ca EW es tas fas) (k : PA X es tas → PI X tg e (iEnum X.K tas)) : FI X ca EW tg e (iEnum X.K tas) fas enumIt := ⟨k h.p, si_enum h.s⟩
theorem fi_zip (h : FA X ca EW es tas fas) (k : PA X es tas → PI X tg e (iZipA X.K tas)) : FI X ca EW tg e (iZipA X.K tas) fas zipIt := ⟨k h.p, si_zip h.s⟩
end
end FL

set_option Elab.async false
set_option linter.all false
set_option maxRecDepth 100000
set_option maxHeartbeats 4000000
set_option exponentiation.threshold 100000
/-! F14: objects that are changed. -/
namespace FL
open PySem PySem.Spec PyProof.Rows L2 GL
/-- a method that changes its object: (the object, the kept arguments) to (the object behind it, the value) -/
abbrev Mf := D → List D → Option (D × D)
def MtM' (κ : Kx) (r : V → List V → Hp → VK → Prop) (m : Mf) : Prop := ∀ (U : AS) (H : Hp) (a : Addr) (d d' y : D) (xs : List V) (ds : List D) (Q : VK), U a → Mo κ U H a d → RpA κ U H xs ds → m d ds = some (d', y) →
  (∀ v o, Mo κ U (upd H a o) a d' → Rp κ U (upd H a o) v y → Q v (upd H a o)) → r (.ref a) xs H Q
def mutS (m : Mf) (t : Tok) (o : Option (List D × Env)) : Res Tok := match t, o with
  | .slot j, some (ds, env) => match env[j]? with
    | some (some e) => if e.mut = true then (match m e.val ds with
      | some (d', y) => .ok (.val y) (env.set j (some (e.put d')))
      | none => .bad) else .bad
    | _ => .bad
  | _, _ => .bad
def isLst (o : Option D) : Bool := match o with
  | some (.lst _) => true
  | _ => false
def isDct (o : Option D) : Bool := match o with
  | some (.dct _) => true
  | _ => false
def fMutL (m : Mf) (fo : Ev) (fas : Ea) : Ev := fun env => (fo env).bind fun t e1 => if isLst (res t e1) = true then (fas e1).bind fun ts e2 => mutS m t (keepAll ts e2) else .bad
def fMutD (m : Mf) (fo : Ev) (fas : Ea) : Ev := fun env => (fo env).bind fun t e1 => if isDct (res t e1) = true then (fas e1).bind fun ts e2 => mutS m t (keepAll ts e2) else .bad
section
variable {κ : Kx} {EW : WX} {U U0 U1 : AS} {env env0 : Env} {σ σ0 : L2.St} {H H1 Hs : Hp} {v : V} {to ti te : TE} {fo fi fe : Ev} {tas : TA} {fas : Ea} {r : V → List V → Hp → VK → Prop} {m : Mf}
/-- the core: what is asked of the method -/
theorem mut_core {j : Nat} {xs : List V} {ts : List Tok} {Q : VK} (hm : MtM' κ r m) (I0 : Inv κ U0 env0 σ Hs) (s : Step U0 env0 σ Hs U env σ H) (I : Inv κ U env σ H) (ht : σ[j]? = some (some v)) (hts : AllTok κ U Hs env σ H xs ts) (nd : (newRefs xs ts).Nodup)
    (h : Ask κ EW U0 env0 σ Hs (mutS m (.slot j) (keepAll ts env)) (fun tok env' U' H' => ∀ v, TokOk κ U' Hs env' σ H' v tok → Q v H')) : r v xs H Q := by
  unfold mutS at h
  split at h
  · rename_i j' ds e2 hj hk
    cases hj
    obtain ⟨U1, s1, I1, rp, _⟩ := keepAll_ok I0 s I hts nd hk
    split at h
    · rename_i e he
      split at h
      · rename_i hmut
        split at h
        · rename_i d' y hmm
          obtain ⟨a, rfl, u, mo⟩ := (I1.slot ht he).mo hmut
          refine hm U1 H a e.val d' y xs ds Q u mo rp hmm fun w o mo' rw' => ?_
          obtain ⟨s2, I2⟩ := mutate I1 he hmut ht mo'
          exact h U1 _ (s1.trans I0 I1 s2) I2 w rw'
        · exact h.elim
      · exact h.elim
    · exact h.elim
  · exact h.elim
theorem tok_slot {t : Tok} {o : Option (List D × Env)} {q : Tok → Env → AS → Hp → Prop} (h : Ask κ EW U0 env0 σ Hs (mutS m t o) q) : ∃ j, t = .slot j := by
  cases t with
  | slot j => exact ⟨j, rfl⟩
  | val d => unfold mutS at h; exact h.elim
  | new d => unfold mutS at h; exact h.elim
theorem isLst_ty {t : Tok} (I : Inv κ U env σ H) (hx : TokOk κ U Hs env σ H v t) (h : isLst (res t env) = true) : tyV κ.K "list" v H := by
  unfold isLst at h
  split at h
  · rename_i xs e
    have := res_rb I hx e
    cases this with
    | lst h r => exact .inl ⟨rfl, _, .inl (.inl h)⟩
  · cases h
theorem no_slot_mut {t : Tok} {o : Option (List D × Env)} {q : Tok → Env → AS → Hp → Prop} (hn : ∀ j, t ≠ .slot j) : ¬ Ask κ EW U0 env0 σ Hs (mutS m t o) q := fun h => let ⟨j, e⟩ := tok_slot h; hn j e
/-- o.m(..) of a list -/
theorem se_mutL (hm : MtM' κ r m) (ho : SE κ EW to fo) (ha : SA κ EW tas fas) : SE κ EW (tBM κ.K "list" r to tas) (fMutL m fo fas) := by
  intro U env σ H Q I q
  refine ho U env σ H _ I (q.then.mono fun t e1 U1 H1 s1 I1 q1 x hx => ?_)
  by_cases hl : isLst (res t e1) = true
  · rw [if_pos hl] at q1
    refine ⟨isLst_ty I1 hx hl, ha U1 e1 σ H1 _ I1 ((q1.then.later I s1 I1).mono fun ts e2 U2 H2 s2 I2 q2 xs hxs nd => ?_)⟩
    obtain ⟨j, rfl⟩ := tok_slot q2
    exact mut_core hm I (s1.trans I I1 s2) I2 hx (hxs.from s1.th) nd q2
  · rw [if_neg hl] at q1; exact q1.elim
theorem se_mutL0 (hm : MtM' κ r m) (ho : SE κ EW to fo) : SE κ EW (tBM0 κ.K "list" r to) (fMutL m fo fNil) := by
  intro U env σ H Q I q
  refine ho U env σ H _ I (q.then.mono fun t e1 U1 H1 s1 I1 q1 x hx => ?_)
  by_cases hl : isLst (res t e1) = true
  · rw [if_pos hl] at q1
    refine ⟨isLst_ty I1 hx hl, ?_⟩
    have q2 : Ask κ EW U env σ H (mutS m t (keepAll [] e1)) _ := q1
    obtain ⟨j, rfl⟩ := tok_slot q2
    exact mut_core (xs := []) hm I s1 I1 hx .nil (by simp [newRefs]) q2
  · rw [if_neg hl] at q1; exact q1.elim
/-! ### the methods of lists -/
def mAppend : Mf
  | .lst xs, [y] => if xs.length < 1000000 then some (.lst (xs ++ [y]), .non) else none
  | _, _ => none
theorem mt_app : MtM' κ rAppend mAppend := by
  intro U H a d d' y xs ds Q u mo rp h q
  unfold mAppend at h
  split at h
  · split at h
    · rename_i hl
      cases h
      cases mo with
      | lst hx r =>
        cases rp with
        | cons p1 p2 =>
          cases p2
          exact ⟨a, _, _, rfl, rfl, hx, by rw [r.len]; exact szl hl, q _ _ (.lst upd_same (((r.sub plus_sub).snoc p1).upd u)) .non⟩
    · cases h
  · cases h
theorem RpA.erase {S : AS} {xs : List V} {ds : List D} (r : RpA κ S H xs ds) (k : Nat) : RpA κ S H (xs.eraseIdx k) (ds.eraseIdx k) := by
  induction k generalizing xs ds with
  | zero => cases r with | nil => exact .nil | cons a b => exact b
  | succ k ih => cases r with | nil => exact .nil | cons a b => exact .cons a (ih b)
theorem RpA.dropLast {S : AS} {xs : List V} {ds : List D} (r : RpA κ S H xs ds) : RpA κ S H xs.dropLast ds.dropLast := by
  rw [List.dropLast_eq_take, List.dropLast_eq_take, r.len]
  exact r.take _
def mPop : Mf
  | .lst xs, [] => match xs[xs.length - 1]? with
    | some y => some (.lst xs.dropLast, y)
    | none => none
  | .lst xs, [.int i] => if -1000000 ≤ i ∧ i < 1000000 then (match seqIndex? i xs.length with
    | some k => match xs[k]? with
      | some y => some (.lst (xs.eraseIdx k), y)
      | none => none
    | none => none) else none
  | _, _ => none
def mPop0 : Mf := fun d ds => if ds.isEmpty = true then mPop d ds else none
def mPopAt : Mf := fun d ds => if ds.isEmpty = true then none else mPop d ds
theorem Rp.upd {d : D} {p : Addr} {o : HO} (u : U p) (h : Rp κ U H v d) : Rp κ U (L2.upd H p o) v d := h.imp fun b w n e => ⟨n, by rw [upd_ne]; exact e; rintro rfl; exact n u⟩
theorem mt_popM : MtM' κ rPop mPop0 := by
  intro U H a d d' y xs ds Q u mo rp h q
  unfold mPop0 at h
  split at h
  · rename_i he
    have : ds = [] := by simpa using he
    subst this
    cases rp
    unfold mPop at h
    split at h
    · split at h
      · rename_i hy
        cases h
        cases mo with
        | lst hx r =>
          obtain ⟨v, e, rv⟩ := r.at' hy
          exact ⟨a, _, v, rfl, rfl, hx, by rw [r.len]; exact e, q _ _ (.lst upd_same ((r.sub plus_sub).dropLast.upd u)) ((rv.sub plus_sub).upd u)⟩
      · cases h
    · rename_i heq; cases heq
    · cases h
  · cases h
theorem mt_popAtM : MtM' κ rPopAt mPopAt := by
  intro U H a d d' y xs ds Q u mo rp h q
  unfold mPopAt at h
  split at h
  · cases h
  · rename_i he
    unfold mPop at h
    split at h
    · exact absurd rfl he
    · split at h
      · rename_i hc
        split at h
        · rename_i k hk
          split at h
          · rename_i hy
            cases h
            cases rp with
            | cons p1 p2 =>
              cases p2; cases p1
              cases mo with
              | lst hx r =>
                obtain ⟨v, e, rv⟩ := r.at' hy
                exact ⟨a, _, _, k, v, rfl, rfl, hx, by omega, by omega, by rw [r.len]; exact hk, e, q _ _ (.lst upd_same (((r.sub plus_sub).erase k).upd u)) ((rv.sub plus_sub).upd u)⟩
          · cases h
        · cases h
      · cases h
    · cases h
/-! ### extend: the other list is read -/
def extR (t : Tok) (u : Option D) (env : Env) : Res Tok := match t, u with
  | .slot j, some (.lst ys) => match env[j]? with
    | some (some e) => if e.mut = true then (match e.val with
      | .lst xs => if xs.length + ys.length ≤ 1000000 then .ok (.val .non) (env.set j (some (e.put (.lst (xs ++ ys))))) else .bad
      | _ => .bad) else .bad
    | _ => .bad
  | _, _ => .bad
def fExtend (fo fe : Ev) : Ev := fun env => (fo env).bind fun t e1 => if isLst (res t e1) = true then (fe e1).bind fun u e2 => extR t (res u e2) e2 else .bad
theorem se_extend (ho : SE κ EW to fo) (he : SE κ EW te fe) : SE κ EW (tBM κ.K "list" rExtend to (tCons te tNil)) (fExtend fo fe) := by
  intro U env σ H Q I q
  refine ho U env σ H _ I (q.then.mono fun t e1 U1 H1 s1 I1 q1 x hx => ?_)
  by_cases hl : isLst (res t e1) = true
  · rw [if_pos hl] at q1
    refine ⟨isLst_ty I1 hx hl, he U1 e1 σ H1 _ I1 ((q1.then.later I s1 I1).mono fun u e2 U2 H2 s2 I2 q2 y hy => ?_)⟩
    show rExtend x [y] H2 Q
    have s12 := s1.trans I I1 s2
    unfold extR at q2
    split at q2
    · rename_i j ys hr
      have hx : σ[j]? = some (some x) := hx
      split at q2
      · rename_i e hej
        split at q2
        · rename_i hm
          split at q2
          · rename_i xs hv
            split at q2
            · rename_i hlen
              obtain ⟨a, rfl, ua, mo⟩ := (I2.slot hx hej).mo hm
              rw [hv] at mo
              have rb := res_rb I2 hy hr
              cases mo with
              | lst hxs r =>
                cases rb with
                | lst hys r2 =>
                  refine ⟨a, _, _, _, rfl, rfl, hxs, hys, by rw [r.len, r2.len]; exact sz hlen, ?_⟩
                  obtain ⟨s3, I3⟩ := mutate (o := .lst _) I2 hej hm hx (.lst upd_same (((r.sub plus_sub).append r2).upd ua))
                  exact q2 U2 _ (s12.trans I I2 s3) I3 _ .non
            · exact q2.elim
          · exact q2.elim
        · exact q2.elim
      · exact q2.elim
    · exact q2.elim
  · rw [if_neg hl] at q1; exact q1.elim
/-! ### xs[i] = v -/
def setR (t : Tok) (i : Option D) (d : D) (env : Env) : Option Env := match t, i with
  | .slot j, some (.int k) => match env[j]? with
    | some (some e) => if e.mut = true then (match e.val with
      | .lst xs => match ixN xs.length k with
        | some n => some (env.set j (some (e.put (.lst (xs.set n d)))))
        | none => none
      | _ => none) else none
    | _ => none
  | _, _ => none
theorem setR_some {o : Tok} {i : Option D} {d : D} {env e' : Env} (h : setR o i d env = some e') : ∃ (j : Nat) (k : Int) (e : Ent) (xs : List D) (n : Nat), o = .slot j ∧ i = some (.int k) ∧ env[j]? = some (some e) ∧ e.mut = true ∧ e.val = .lst xs ∧ ixN xs.length k = some n ∧ e' = env.set j (some (e.put (.lst (xs.set n d)))) := by
  cases o with
  | val x => unfold setR at h; cases h
  | new x => unfold setR at h; cases h
  | slot j =>
    cases i with
    | none => unfold setR at h; cases h
    | some x =>
      cases x with
      | int k =>
        unfold setR at h
        simp only at h
        split at h
        · rename_i e hej
          split at h
          · rename_i hm
            split at h
            · rename_i xs hv
              split at h
              · rename_i n hn
                cases h
                exact ⟨j, k, e, xs, n, rfl, rfl, hej, hm, hv, hn, rfl⟩
              · cases h
            · cases h
          · cases h
        · cases h
      | _ => unfold setR at h; cases h
def GsubX (fo fi : Ev) : Gf := fun t env => match keepT t env with
  | some (d, e0) => match (fo e0).noErr with
    | .ok o e1 => match (fi e1).noErr with
      | .ok i e2 => setR o (res i e2) d e2
      | _ => none
    | _ => none
  | none => none
theorem RpA.set {S : AS} {xs : List V} {ds : List D} {d : D} (r : RpA κ S H xs ds) (h : Rp κ S H v d) (n : Nat) : RpA κ S H (xs.set n v) (ds.set n d) := by
  induction n generalizing xs ds with
  | zero => cases r with | nil => exact .nil | cons a b => exact .cons h b
  | succ n ih => cases r with | nil => exact .nil | cons a b => exact .cons a (ih b)
theorem sg_sub (ho : SE κ W0 to fo) (hi : SE κ W0 ti fi) : SG κ (gSub to ti rSetL) (GsubX fo fi) [] := by
  intro U0 env0 σ0 Hs U env σ H v t Q I0 s I ht q
  unfold GsubX at q
  split at q
  · rename_i d e0 hk
    obtain ⟨U1, s1, I1, rp, _, _⟩ := keep_ok I0 s I ht hk
    split at q
    · rename_i o e1 hfo
      have hfo := ok_noErr hfo
      split at q
      · rename_i i e2 hfi
        have hfi := ok_noErr hfi
        refine ho U1 e0 σ H _ I1 ?_
        rw [hfo]
        intro U2 H2 s2 I2 x hx
        refine hi U2 e1 σ H2 _ I2 ?_
        rw [hfi]
        intro U3 H3 s3 I3 y hy
        have s23 := s2.trans I1 I2 s3
        have s03 := s1.trans I0 I1 s23
        have rv := s23.rp I1 rp
        cases hq : setR o (res i e2) d e2 with
        | none => rw [hq] at q; exact q.elim
        | some e4 =>
          rw [hq] at q
          obtain ⟨j, k, e, xs, n, rfl, hr, hej, hm, hv, hn, rfl⟩ := setR_some hq
          have hx : σ[j]? = some (some x) := hx
          obtain ⟨a, rfl, ua, mo⟩ := (I3.slot hx hej).mo hm
          rw [hv] at mo
          have rb := res_rb I3 hy hr
          cases rb
          cases mo with
          | lst hxs r =>
            refine ⟨a, _, _, n, rfl, rfl, hxs, by rw [r.len]; exact hn, ?_⟩
            obtain ⟨s4, I4⟩ := mutate (o := .lst _) I3 hej hm hx (.lst upd_same (((r.sub plus_sub).set rv n).upd ua))
            exact q U3 σ _ (s03.trans I0 I3 s4) I4 .refl
      · exact q.elim
    · exact q.elim
  · exact q.elim
/-! ### dicts -/
def fDNew : Ev := fun env => .ok (.new (.dct [])) env
theorem se_dnew : SE κ EW tDNewK fDNew := fun U env σ H Q I q p np => by
  have gr : Grow H (upd H p (.dK [])) := .new np
  have mo : Mo κ U (upd H p (.dK [])) p (.dct []) := Mo.newK .nil np
  exact q (plus U p) _ (.plus np gr) (I.plus np gr mo.there) _ ⟨p, rfl, np, .inr rfl, I.fresh np, mo.sub fun b z => z⟩
/-- d[k] = v -/
def dputR (o : Tok) (k : Option D) (d : D) (env : Env) : Option Env := match o, k with
  | .slot j, some kd => match keyOf kd, env[j]? with
    | some k, some (some e) => if e.mut = true then (match e.val with
      | .dct kvs => if kvs.length < 1000000 then some (env.set j (some (e.put (.dct (putD kvs k d))))) else none
      | _ => none) else none
    | _, _ => none
  | _, _ => none
theorem dputR_some {o : Tok} {i : Option D} {d : D} {env e' : Env} (h : dputR o i d env = some e') : ∃ (j : Nat) (kd : D) (k : Key) (e : Ent) (kvs : List (Key × D)), o = .slot j ∧ i = some kd ∧ keyOf kd = some k ∧ env[j]? = some (some e) ∧ e.mut = true ∧ e.val = .dct kvs ∧ kvs.length < 1000000 ∧ e' = env.set j (some (e.put (.dct (putD kvs k d)))) := by
  cases o with
  | val x => unfold dputR at h; cases h
  | new x => unfold dputR at h; cases h
  | slot j =>
    cases i with
    | none => unfold dputR at h; cases h
    | some kd =>
      unfold dputR at h
      simp only at h
      split at h
      · rename_i k e hkey hej
        split at h
        · rename_i hm
          split at h
          · rename_i kvs hvv
            split at h
            · rename_i hlen
              cases h
              exact ⟨j, kd, k, e, kvs, rfl, rfl, hkey, hej, hm, hvv, hlen, rfl⟩
            · cases h
          · cases h
        · cases h
      · cases h
def fDPut (fo fk fv : Ev) : Sf := fun env => (fv env).toS fun t e0 => match keepT t e0 with
  | some (d, e1) => (fo e1).noErr.toS fun o e2 => (fk e2).noErr.toS fun i e3 => optS (dputR o (res i e3) d e3)
  | none => .bad
theorem ss_dput {tk tv : TE} {fk fv : Ev} (hv : SE κ EW tv fv) (ho : SE κ W0 to fo) (hk : SE κ W0 tk fk) : SS κ EW (sDPut to tk tv) (fDPut fo fk fv) := by
  intro U env σ H D I q
  refine hv U env σ H _ I (q.expr.mono fun t e0 U0 H0 s0 I0 q0 v hv0 => ?_)
  split at q0
  · rename_i d e1 hkp
    obtain ⟨U1, s1, I1, rp, _, _⟩ := keep_ok I s0 I0 hv0 hkp
    cases hfo : fo e1 with
    | err x e => rw [hfo] at q0; exact q0.elim
    | bad => rw [hfo] at q0; exact q0.elim
    | ok o e2 =>
      rw [hfo] at q0
      have q0 : AskS κ EW U env σ H ((fk e2).noErr.toS fun i e3 => optS (dputR o (res i e3) d e3)) D := q0
      cases hfk : fk e2 with
      | err x e => rw [hfk] at q0; exact q0.elim
      | bad => rw [hfk] at q0; exact q0.elim
      | ok i e3 =>
        rw [hfk] at q0
        have q0 : AskS κ EW U env σ H (optS (dputR o (res i e3) d e3)) D := q0
        refine ho U1 e1 σ H0 _ I1 ?_
        rw [hfo]
        intro U2 H2 s2 I2 x hx
        refine hk U2 e2 σ H2 _ I2 ?_
        rw [hfk]
        intro U3 H3 s3 I3 y hy
        have s23 := s2.trans I1 I2 s3
        have s03 := s1.trans I I1 s23
        have rv := s23.rp I1 rp
        cases hd : dputR o (res i e3) d e3 with
        | none => rw [hd] at q0; exact q0.elim
        | some e4 =>
          rw [hd] at q0
          obtain ⟨j, kd, k, e, kvs, rfl, hr, hkey, hej, hm, hvv, hlen, rfl⟩ := dputR_some hd
          have hx : σ[j]? = some (some x) := hx
          obtain ⟨a, rfl, ua, mo⟩ := (I3.slot hx hej).mo hm
          rw [hvv] at mo
          cases mo with
          | dct hxs r =>
            have ey := keyOf_rb (res_rb I3 hy hr) hkey
            refine ⟨a, _, rfl, .inl ⟨_, k, hxs, ey, by rw [r.len]; exact szl hlen, rfl⟩, ?_⟩
            obtain ⟨s4, I4⟩ := mutate (o := .dK _) I3 hej hm hx (.dct upd_same (((r.sub plus_sub).put rv).upd ua))
            exact q0 U3 σ _ (s03.trans I I3 s4) I4
  · exact q0.elim
end
end FL

set_option Elab.async false
set_option linter.all false
set_option maxRecDepth 100000
set_option maxHeartbeats 4000000
set_option exponentiation.threshold 100000
/-! F15: sorted, join, texts, chains. -/
namespace FL
open PySem PySem.Spec PyProof.Rows L2 GL
/-! ### sorted -/
def sLe (a b : Str) : Bool := !sLt b a
theorem sLe_trans (a b c : Str) (h1 : sLe a b = true) (h2 : sLe b c = true) : sLe a c = true := by
  simp only [sLe, sLt, Bool.not_eq_true', decide_eq_false_iff_not] at *
  exact List.le_trans (l₁ := a.cps.toList) (l₂ := b.cps.toList) (l₃ := c.cps.toList) h1 h2
theorem sLe_total (a b : Str) : (sLe a b || sLe b a) = true := by
  simp only [sLe, sLt, Bool.or_eq_true, Bool.not_eq_true', decide_eq_false_iff_not]
  by_cases h : b.cps.toList < a.cps.toList
  · exact .inr (List.lt_asymm h)
  · exact .inl h
theorem str_ext {a b : Str} (h : a.cps.toList = b.cps.toList) : a = b := by
  obtain ⟨⟨x⟩⟩ := a
  obtain ⟨⟨y⟩⟩ := b
  simp at h
  subst h
  rfl
theorem sLe_antisymm {a b : Str} (h1 : sLe a b = true) (h2 : sLe b a = true) : a = b := by
  simp only [sLe, sLt, Bool.not_eq_true', decide_eq_false_iff_not] at *
  exact str_ext (List.le_antisymm (as := a.cps.toList) (bs := b.cps.toList) h1 h2)
theorem sLt_irrefl (a : Str) : sLt a a = false := decide_eq_false (List.lt_irrefl _)
theorem sLt_asymm {a b : Str} (h : sLt a b = true) : sLt b a = false := decide_eq_false (List.lt_asymm (of_decide_eq_true h))
theorem sLt_trans {a b c : Str} (h1 : sLt a b = true) (h2 : sLt b c = true) : sLt a c = true := decide_eq_true (List.lt_trans (of_decide_eq_true h1) (of_decide_eq_true h2))
theorem sLt_or {a b : Str} (h : a ≠ b) : sLt a b = true ∨ sLt b a = true := by
  cases h1 : sLt a b with
  | true => exact .inl rfl
  | false =>
    cases h2 : sLt b a with
    | true => exact .inr rfl
    | false => exact absurd (sLe_antisymm (by simp [sLe, h2]) (by simp [sLe, h1])) h
def sortS (xs : List Str) : List Str := xs.mergeSort sLe
theorem sortS_perm (xs : List Str) : (sortS xs).Perm xs := List.mergeSort_perm xs _
theorem sortS_sorted (xs : List Str) : (sortS xs).Pairwise fun a b => sLe a b = true := List.pairwise_mergeSort sLe_trans sLe_total xs
theorem sortS_unique {xs ys : List Str} (hp : ys.Perm xs) (hs : ys.Pairwise fun a b => sLe a b = true) : ys = sortS xs :=
  List.Perm.eq_of_pairwise (fun a b _ _ h1 h2 => sLe_antisymm h1 h2) hs (sortS_sorted xs) (hp.trans (sortS_perm xs).symm)
theorem rising_pairwise : ∀ (p : Str) (l : List Str), risingS p l = true → (p :: l).Pairwise fun a b => sLe a b = true
  | p, [], _ => by simp
  | p, x :: r, h => by
    have h : (!ltCps x.cps.toList p.cps.toList && risingS x r) = true := h
    simp only [Bool.and_eq_true] at h
    have ih := rising_pairwise x r h.2
    have hx : sLe p x = true := by
      have e : ltCps x.cps.toList p.cps.toList = sLt x p := ltCps_eq _ _
      rw [e] at h
      exact h.1
    refine List.pairwise_cons.mpr ⟨fun y hy => ?_, ih⟩
    rcases List.mem_cons.mp hy with rfl | hy
    · exact hx
    · exact sLe_trans _ _ _ hx ((List.pairwise_cons.mp ih).1 y hy)
theorem sorted_pairwise {l : List Str} (h : sortedS l = true) : l.Pairwise fun a b => sLe a b = true := by
  cases l with
  | nil => simp
  | cons x r => exact rising_pairwise x r h
def strsD : List D → Option (List Str)
  | [] => some []
  | .str x :: ds => match strsD ds with
    | some xs => some (x :: xs)
    | none => none
  | _ => none
theorem strsD_map (xs : List Str) : strsD (xs.map D.str) = some xs := by
  induction xs with
  | nil => rfl
  | cons x xs ih => simp [strsD, ih]
theorem strsD_eq {ds : List D} {xs : List Str} (h : strsD ds = some xs) : ds = xs.map D.str := by
  induction ds generalizing xs with
  | nil => cases h; rfl
  | cons d ds ih =>
    cases d with
    | str x =>
      unfold strsD at h
      split at h
      · rename_i ys hy; cases h; rw [ih hy]; rfl
      · cases h
    | _ => cases h
theorem strs_rp {κ : Kx} {U : AS} {H : Hp} {vs : List V} {ds : List D} {xs : List Str} (r : RpA κ U H vs ds) (h : strsD ds = some xs) : vs = xs.map V.str := by
  have := strsD_eq h
  subst this
  clear h
  induction xs generalizing vs with
  | nil => cases r; rfl
  | cons x xs ih => cases r with | cons a b => cases a; rw [ih b]; rfl
theorem rp_strs {κ : Kx} {U : AS} {H : Hp} (xs : List Str) : RpA κ U H (xs.map V.str) (xs.map D.str) := by
  induction xs with
  | nil => exact .nil
  | cons x xs ih => exact .cons (.str x) ih
def sortedA : D → Option Tok
  | .lst ds => match strsD ds with
    | some xs => if xs.length < 64 then some (.new (.lst ((sortS xs).map D.str))) else none
    | none => none
  | _ => none
/-- tuples that begin with a text -/
def headS : D → Option Str
  | .tup (.str x :: _) => some x
  | _ => none
def headsS : List D → Option (List Str)
  | [] => some []
  | d :: ds => match headS d, headsS ds with
    | some x, some xs => some (x :: xs)
    | _, _ => none
def hd (d : D) : Str := (headS d).getD Str.empty
def sortM (ds : List D) : List D := ds.mergeSort fun a b => sLe (hd a) (hd b)
theorem sortM_perm (ds : List D) : (sortM ds).Perm ds := List.mergeSort_perm ds _
theorem sortM_sorted (ds : List D) : (sortM ds).Pairwise fun a b => sLe (hd a) (hd b) = true := List.pairwise_mergeSort (le := fun a b => sLe (hd a) (hd b)) (fun a b c => sLe_trans (hd a) (hd b) (hd c)) (fun a b => sLe_total (hd a) (hd b)) ds
theorem headsS_map {ds : List D} {xs : List Str} (h : headsS ds = some xs) : xs = ds.map hd ∧ ∀ d ∈ ds, headS d = some (hd d) := by
  induction ds generalizing xs with
  | nil => cases h; exact ⟨rfl, fun _ z => nomatch z⟩
  | cons d ds ih =>
    unfold headsS at h
    split at h
    · rename_i x ys h1 h2
      cases h
      obtain ⟨a, b⟩ := ih h2
      have e : hd d = x := by simp [hd, h1]
      refine ⟨by rw [a, List.map_cons, e], fun z hz => ?_⟩
      rcases List.mem_cons.mp hz with rfl | hz
      · rw [h1, e]
      · exact b z hz
    · cases h
def sortedM : D → Option Tok
  | .lst ds => match headsS ds with
    | some xs => if xs.Nodup then some (.new (.lst (sortM ds))) else none
    | none => none
  | _ => none
section
variable {X : Cx} {ca : Str → Addr} {EW : WX}
theorem fca_sortedA : FCa X ca (.builtin "sorted") (rSortedS X.K) (c1 sortedA) := by
  refine ⟨cr_sortedS, fun U H xs ds tk Q hs al hf q => ?_⟩
  replace hf := c1_some hf
  obtain ⟨d, rfl, hf⟩ := hf
  cases hs with
  | cons a b =>
    cases b
    unfold sortedA at hf
    split at hf
    · split at hf
      · rename_i zs hz
        split at hf
        · rename_i hl
          cases hf
          cases a with
          | lst h r =>
            refine ⟨_, zs, rfl, .inl (.inl (strs_rp r hz ▸ h)), hl, fun ys p hp hs np => ?_⟩
            rw [sortS_unique hp (sorted_pairwise hs)]
            exact q _ _ (.new np) ⟨p, rfl, np, Mo.newL (rp_strs _) np⟩
        · cases hf
      · cases hf
    · cases hf
theorem perm_map {α β : Type} {f : α → β} {l m : List β} (h : l.Perm m) : ∀ l2 : List α, m = l2.map f → ∃ l3 : List α, l3.Perm l2 ∧ l3.map f = l := by
  induction h with
  | nil => intro l2 e; cases l2 with | nil => exact ⟨[], .refl _, rfl⟩ | cons => cases e
  | cons x _ ih =>
    intro l2 e
    cases l2 with
    | nil => cases e
    | cons a l2 =>
      simp only [List.map_cons, List.cons.injEq] at e
      obtain ⟨l3, h1, h2⟩ := ih l2 e.2
      exact ⟨a :: l3, h1.cons a, by rw [List.map_cons, h2, e.1]⟩
  | swap x y l =>
    intro l2 e
    cases l2 with
    | nil => cases e
    | cons a l2 =>
      cases l2 with
      | nil => simp at e
      | cons b l2 =>
        simp only [List.map_cons, List.cons.injEq] at e
        exact ⟨b :: a :: l2, List.Perm.swap _ _ _, by simp [e.1, e.2.1, e.2.2]⟩
  | trans _ _ ih1 ih2 =>
    intro l2 e
    obtain ⟨l3, h1, h2⟩ := ih2 l2 e
    obtain ⟨l4, h3, h4⟩ := ih1 l3 h2.symm
    exact ⟨l4, h3.trans h1, h4⟩
theorem RpA.pairs {κ : Kx} {U : AS} {H : Hp} {vs : List V} {ds : List D} (r : RpA κ U H vs ds) : ∀ p ∈ vs.zip ds, Rp κ U H p.1 p.2 := by
  induction ds generalizing vs with
  | nil => cases r; intro p h; simp at h
  | cons d ds ih =>
    cases r with
    | cons a b =>
      intro p h
      rcases List.mem_cons.mp h with rfl | h
      · exact a
      · exact ih b p h
theorem RpA.of_pairs {κ : Kx} {U : AS} {H : Hp} : ∀ {l : List (V × D)}, (∀ p ∈ l, Rp κ U H p.1 p.2) → RpA κ U H (l.map (·.1)) (l.map (·.2))
  | [], _ => .nil
  | p :: l, h => .cons (h p List.mem_cons_self) (RpA.of_pairs fun q hq => h q (List.mem_cons_of_mem _ hq))
/-- sorted() of tuples with different first texts -/
def rSortZ (K : PySem.W.Frag) : List V → Hp → VK → Prop := fun vs H Q => ∃ (a : Addr) (xs : List V) (zs : List Str), vs = [V.ref a] ∧ SqL K H a xs ∧ xs.length = zs.length ∧ (∀ p ∈ xs.zip zs, ∃ t r, p.1 = V.ref t ∧ SqT K H t (.str p.2 :: r)) ∧
  zs.Nodup ∧ ∀ (l : List (V × Str)) p, l.Perm (xs.zip zs) → (l.map (·.2)).Pairwise (fun x y => sLt x y = true) → H p = none → Q (.ref p) (upd H p (.lst (l.map (·.1))))
theorem zip_fst {α β : Type} : ∀ (l : List (α × β)) (x : α), x ∈ l.map (·.1) → ∃ y, (x, y) ∈ l
  | p :: l, x, h => by
    rcases List.mem_cons.mp h with rfl | h
    · exact ⟨p.2, List.mem_cons_self⟩
    · obtain ⟨y, h⟩ := zip_fst l x h
      exact ⟨y, List.mem_cons_of_mem _ h⟩
theorem cr_sortZ : CallR X (.builtin "sorted") (rSortZ X.K) := by
  intro pins s σ H vs us Q I r h
  obtain ⟨a, xs, zs, rfl, hs, hl, hh, nd, q⟩ := h
  have e1 : (xs.zip zs).map (·.1) = xs := by rw [List.map_fst_zip (by omega)]
  have e2 : (xs.zip zs).map (·.2) = zs := by rw [List.map_snd_zip (by omega)]
  have uniq : ∀ x z z', (x, z) ∈ xs.zip zs → (x, z') ∈ xs.zip zs → z = z' := fun x z z' h1 h2 => by
    obtain ⟨t, r1, e1, q1⟩ := hh _ h1
    obtain ⟨t', r2, e2, q2⟩ := hh _ h2
    dsimp only at e1 e2 q1 q2
    rw [e1] at e2
    cases e2
    have := I.tuple_inj q1 q2
    simp only [List.cons.injEq, V.str.injEq] at this
    exact this.1
  obtain ⟨nm, hnm⟩ : ∃ nm : V → Str, ∀ p ∈ xs.zip zs, nm p.1 = p.2 := by
    classical
    refine ⟨fun x => if h : ∃ z, (x, z) ∈ xs.zip zs then h.choose else Str.empty, fun p hp => ?_⟩
    have h : ∃ z, (p.1, z) ∈ xs.zip zs := ⟨p.2, hp⟩
    dsimp only
    rw [dif_pos h]
    exact uniq _ _ _ h.choose_spec hp
  have em : xs.zip zs = xs.map fun x => (x, nm x) := by
    conv => rhs; rw [← e1]
    rw [List.map_map]
    conv => lhs; rw [← List.map_id (xs.zip zs)]
    exact List.map_congr_left fun p hp => by simp [hnm p hp]
  refine cr_sortM pins s σ H [.ref a] us Q I r ⟨a, xs, nm, rfl, hs, fun x hx => ?_, ?_, fun ys p hp hw np => ?_⟩
  · rw [← e1] at hx
    obtain ⟨z, hz⟩ := zip_fst _ x hx
    obtain ⟨t, rr, e, q2⟩ := hh _ hz
    exact ⟨t, rr, e, by rw [hnm _ hz]; exact q2⟩
  · have : xs.map nm = zs := by
      have h2 := e2
      rw [em, List.map_map] at h2
      exact h2
    rw [this]; exact nd
  · have := q (ys.map fun x => (x, nm x)) p (by rw [em]; exact hp.map _) (by rw [List.map_map]; exact List.pairwise_map.mpr hw) np
    rw [List.map_map] at this
    have e3 : ys.map ((fun p : V × Str => p.1) ∘ fun x => (x, nm x)) = ys := by
      conv => rhs; rw [← List.map_id ys]
      exact List.map_congr_left fun _ _ => rfl
    rw [e3] at this
    exact this
theorem sortM_unique {ds es : List D} (nd : (ds.map hd).Nodup) (hp : es.Perm ds) (hs : (es.map hd).Pairwise (fun x y => sLt x y = true)) : es = sortM ds := by
  refine List.Perm.eq_of_pairwise (le := fun a b => sLe (hd a) (hd b) = true) (fun a b ha hb h1 h2 => ?_) ?_ (sortM_sorted ds) (hp.trans (sortM_perm ds).symm)
  · have e := sLe_antisymm h1 h2
    have ha' : a ∈ ds := hp.mem_iff.mp ha
    have hb' : b ∈ ds := (sortM_perm ds).mem_iff.mp hb
    exact inj_of_nodup nd a ha' b hb' e
  · exact (List.pairwise_map.mp hs).imp fun h => by simp [sLe, sLt_asymm h]
theorem fca_sortedM : FCa X ca (.builtin "sorted") (rSortZ X.K) (c1 sortedM) := by
  refine ⟨cr_sortZ, fun U H xs ds tk Q hs al hf q => ?_⟩
  replace hf := c1_some hf
  obtain ⟨d, rfl, hf⟩ := hf
  cases hs with
  | cons a b =>
    cases b
    unfold sortedM at hf
    split at hf
    · rename_i ds
      split at hf
      · rename_i zs hz
        split at hf
        · rename_i hn
          cases hf
          obtain ⟨e, hh⟩ := headsS_map hz
          subst e
          cases a with
          | lst h r =>
            rename_i vs
            refine ⟨_, vs, ds.map hd, rfl, .inl (.inl h), by rw [r.len, List.length_map], fun p hp => ?_, hn, fun l p hp hw np => ?_⟩
            · have e : vs.zip (ds.map hd) = (vs.zip ds).map fun p => (p.1, hd p.2) := by rw [List.zip_map_right]; rfl
              rw [e] at hp
              obtain ⟨pr, hpr, rfl⟩ := List.mem_map.mp hp
              have rp := r.pairs pr hpr
              have hm : pr.2 ∈ ds := (List.of_mem_zip hpr).2
              have h1 := hh _ hm
              unfold headS at h1
              split at h1
              · rename_i x rest heq
                rw [heq] at rp
                simp only
                generalize hw1 : pr.1 = w at rp
                cases rp with
                | tup ht ra =>
                  cases ra with
                  | cons a1 a2 =>
                    cases a1
                    simp only [Option.some.injEq] at h1
                    exact ⟨_, _, rfl, by rw [← h1]; exact ht.sq⟩
              · cases h1
            · have e : vs.zip (ds.map hd) = (vs.zip ds).map fun p => (p.1, hd p.2) := by rw [List.zip_map_right]; rfl
              rw [e] at hp
              obtain ⟨l3, p3, e3⟩ := perm_map hp _ rfl
              have r3 : RpA (kx X ca) U H (l3.map (·.1)) (l3.map (·.2)) := RpA.of_pairs fun pr hpr => r.pairs pr (p3.mem_iff.mp hpr)
              have d3 : (l3.map (·.2)).Perm ds := by
                have := p3.map (·.2)
                rw [List.map_snd_zip (by rw [r.len]; exact Nat.le_refl _)] at this
                exact this
              have e1 : l.map (·.1) = l3.map (·.1) := by rw [← e3, List.map_map]; rfl
              have e2 : l.map (·.2) = (l3.map (·.2)).map hd := by rw [← e3, List.map_map, List.map_map]; rfl
              rw [e2] at hw
              have := sortM_unique hn d3 hw
              rw [e1]
              rw [← this] at q
              exact q _ _ (.new np) ⟨p, rfl, np, Mo.newL r3 np⟩
        · cases hf
      · cases hf
    · cases hf
def sortedD := orC (c1 sortedA) (c1 sortedM)
theorem fca_sorted : FCa X ca (.builtin "sorted") (orRC (rSortedS X.K) (rSortZ X.K)) sortedD := fca_sortedA.or fca_sortedM
end
section
variable {κ : Kx} {EW : WX} {to te ta tb tc : TE} {fo fe fa fb fc : Ev}
/-! ### join -/
def joinR (o : Option D) (d : Option D) : Option Tok := match o, d with
  | some (.str a), some (.lst ds) => match strsD ds with
    | some ys => if (ys.map (·.length)).sum + ys.length * a.length ≤ 1000000 then some (.val (.str (Txt.join a ys))) else none
    | none => none
  | some (.str a), some (.tup ds) => match strsD ds with
    | some ys => if (ys.map (·.length)).sum + ys.length * a.length ≤ 1000000 then some (.val (.str (Txt.join a ys))) else none
    | none => none
  | _, _ => none
def isStrB (o : Option D) : Bool := match o with
  | some (.str _) => true
  | _ => false
def fJoin (fo fe : Ev) : Ev := fun env => (fo env).bind fun t e1 => if isStrB (res t e1) = true then (fe e1).bind fun u e2 => lift (joinR (res t e2) (res u e2)) e2 else .bad
theorem se_join (ho : SE κ EW to fo) (he : SE κ EW te fe) : SE κ EW (tM1 (GL.rJoinQ κ.K) to te) (fJoin fo fe) := by
  intro U env σ H Q I q
  refine ho U env σ H _ I (q.then.mono fun t e1 U1 H1 s1 I1 q1 x hx => ?_)
  by_cases hs : isStrB (res t e1) = true
  · rw [if_pos hs] at q1
    unfold isStrB at hs
    split at hs
    · rename_i a ha
      have rb := res_rb I1 hx ha
      cases rb
      refine ⟨⟨a, rfl⟩, he U1 e1 σ H1 _ I1 ((q1.then.later I s1 I1).mono fun u e2 U2 H2 s2 I2 q2 y hy => ?_)⟩
      have s12 := s1.trans I I1 s2
      obtain ⟨tk, et, q3⟩ := Ask.lift q2 I s12 I2
      unfold joinR at et
      split at et
      · rename_i a' ds e1' e2'
        split at et
        · rename_i ys hy2
          split at et
          · rename_i hl
            cases et
            have r1 := res_rb I2 (hx.step I1 s2) e1'
            cases r1
            have r2 := res_rb I2 hy e2'
            cases r2 with
            | lst h r =>
              refine ⟨a, _, ys, rfl, rfl, .inl (.inl (.inl (strs_rp r hy2 ▸ h))), by omega, ?_⟩
              obtain ⟨U3, w1, w2⟩ := q3 (.str (Txt.join a ys)) H2 .refl (.str _)
              exact w2 _ w1
          · cases et
        · cases et
      · rename_i a' ds e1' e2'
        split at et
        · rename_i ys hy2
          split at et
          · rename_i hl
            cases et
            have r1 := res_rb I2 (hx.step I1 s2) e1'
            cases r1
            have r2 := res_rb I2 hy e2'
            cases r2 with
            | tup h r =>
              refine ⟨a, _, ys, rfl, rfl, .inr (strs_rp r hy2 ▸ h.sq), by omega, ?_⟩
              obtain ⟨U3, w1, w2⟩ := q3 (.str (Txt.join a ys)) H2 .refl (.str _)
              exact w2 _ w1
          · cases et
        · cases et
      · cases et
    · cases hs
  · rw [if_neg hs] at q1; exact q1.elim
/-! ### f-strings -/
def fmtD : D → Option Tok
  | .str y => if y.length ≤ 1000000 then some (.val (.str y)) else none
  | .int i => if i.natAbs.log2 < 1920 then some (.val (.str (toString i))) else none
  | _ => none
def fFmt (fe : Ev) : Ev := fUn fmtD fe
theorem se_fmt (he : SE κ EW te fe) : SE κ EW (tFmt te) (fFmt fe) := by
  have : tFmt te = tUn (fun x H1 Q => (∃ y : Str, x = .str y ∧ y.length ≤ sizeLine ∧ Q (.str y) H1) ∨ ∃ i : Int, x = .int i ∧ i.natAbs.log2 < 1920 ∧ Q (.str (toString i)) H1) te := rfl
  rw [this]
  refine se_un (fun U H x d tk Q hx al hf q => ?_) he
  unfold fmtD at hf
  split at hf
  · split at hf
    · rename_i hl; cases hf; cases hx; exact .inl ⟨_, rfl, sz hl, q _ H .refl (.str _)⟩
    · cases hf
  · split at hf
    · rename_i hl; cases hf; cases hx; exact .inr ⟨_, rfl, hl, q _ H .refl (.str _)⟩
    · cases hf
  · cases hf
def fJs : List Ev → Str → Ev
  | [], acc => fun env => .ok (.val (.str acc)) env
  | f :: fs, acc => fun env => (f env).bind fun t e1 => match res t e1 with
    | some (.str y) => if (acc ++ y).length ≤ 1000000 then fJs fs (acc ++ y) e1 else .bad
    | _ => .bad
inductive SJ (κ : Kx) (EW : WX) : List TE → List Ev → Prop
  | nil : SJ κ EW [] []
  | cons {t : TE} {f : Ev} {ts : List TE} {fs : List Ev} : SE κ EW t f → SJ κ EW ts fs → SJ κ EW (t :: ts) (f :: fs)
theorem se_js {ts : List TE} {fs : List Ev} (h : SJ κ EW ts fs) : ∀ acc : Str, SE κ EW (fun σ H Q => tJs ts acc σ H fun out H1 => Q (.str out) H1) (fJs fs acc) := by
  induction h with
  | nil => exact fun acc U env σ H Q I q => q.ok I _ (.str _)
  | cons h _ ih =>
    intro acc U env σ H Q I q
    refine h U env σ H _ I (q.then.mono fun t e1 U1 H1 s1 I1 q1 x hx => ?_)
    split at q1
    · rename_i y hy
      split at q1
      · rename_i hl
        have rb := res_rb I1 hx hy
        cases rb
        exact ⟨y, rfl, sz hl, ih (acc ++ y) U1 e1 σ H1 Q I1 (q1.tok I s1 I1)⟩
      · exact q1.elim
    · exact q1.elim
/-! ### a < b < c -/
def fChain (f g : D → D → Option Tok) (fa fb fc : Ev) : Ev := fun env => (fa env).bind fun t e1 => (fb e1).bind fun u e2 => (ap2 f t u e2).bind fun z e3 => (asB z e3).bind fun k e4 => if k = true then (fc e4).bind fun w e5 => ap2 g u w e5 else .ok (.val (.bl false)) e4
theorem se_chain {r r' : R2} {f g : D → D → Option Tok} (h : OpS κ r f) (h' : OpS κ r' g) (ha : SE κ EW ta fa) (hb : SE κ EW tb fb) (hc : SE κ EW tc fc) : SE κ EW (tChain r r' ta tb tc) (fChain f g fa fb fc) := by
  intro U env σ H Q I q
  refine ha U env σ H _ I (q.then.mono fun t e1 U1 H1 s1 I1 q1 x hx => ?_)
  refine hb U1 e1 σ H1 _ I1 ((q1.then.later I s1 I1).mono fun u e2 U2 H2 s2 I2 q2 y hy => ?_)
  have s12 := s1.trans I I1 s2
  have q2 := q2.then
  unfold ap2 at q2
  split at q2
  · rename_i d e hd he
    obtain ⟨tk, et, q3⟩ := Ask.lift q2 I s12 I2
    refine h U2 H2 x y d e tk _ (res_rb I2 (hx.step I1 s2) hd) (res_rb I2 hy he) I2.al et fun v H3 gr w => ?_
    have I3 := I2.grow gr
    have s3 : Step U env σ H U2 e2 σ H3 := s12.trans I I2 (.grown gr)
    cases tk with
    | slot j => exact w.elim
    | new dd =>
      obtain ⟨U3, w1, w2⟩ := q3 v H3 gr w
      have w3 := w2.then
      obtain ⟨p, _, _, mo⟩ := w
      cases mo <;> exact w3.elim
    | val dd =>
      obtain ⟨U3, w1, w2⟩ := q3 v H3 gr w
      have w3 := w2.then
      cases dd with
      | bl k =>
        cases w
        refine ⟨k, rfl, ?_⟩
        have w3 : Ask κ EW U env σ H (if k = true then (fc e2).bind fun w e5 => ap2 g u w e5 else .ok (.val (.bl false)) e2) _ := w3 U2 H3 s3 I3
        cases k with
        | false => exact w3 U2 H3 s3 I3 _ (.bl _)
        | true =>
          refine hc U2 e2 σ H3 _ I3 ((w3.then.later I s3 I3).mono fun w5 e5 U5 H5 s5 I5 q5 z hz => ?_)
          unfold ap2 at q5
          split at q5
          · rename_i d5 e5' hd5 he5
            have s35 := (Step.grown (U := U2) (env := e2) (σ := σ) gr).trans I2 I3 s5
            obtain ⟨tk, et, q6⟩ := Ask.lift q5 I (s3.trans I I3 s5) I5
            refine h' U5 H5 y z d5 e5' tk Q (res_rb I5 (hy.step I2 s35) hd5) (res_rb I5 hz he5) I5.al et fun v H6 g6 w6 => ?_
            obtain ⟨U6, a1, a2⟩ := q6 v H6 g6 w6
            exact a2 v a1
          · exact q5.elim
      | _ => exact w3.elim
  · exact q2.elim
/-! ### x += e of ints -/
def augR (f : Int → Int → Int) (i : Nat) (a : Int) (y : Option D) (env : Env) : Sr := match y with
  | some (.int b) => optS (Gname i (.val (.int (f a b))) env)
  | _ => .bad
def fAug (i : Nat) (fe : Ev) (f : Int → Int → Int) : Sf := fun env => match env[i]? with
  | some (some (.frz (.int a))) => (fe env).toS fun t e1 => augR f i a (res t e1) e1
  | _ => .bad
theorem ss_aug {i : Nat} {f : Int → Int → Int} (he : SE κ EW te fe) : SS κ EW (tAug i te (ipI f)) (fAug i fe f) := by
  intro U env σ H D I q
  unfold fAug at q
  split at q
  · rename_i a ha
    obtain ⟨v, e1, r⟩ := I.at' i _ ha
    have r : Rp κ U H v (.int a) := r
    cases r
    refine ⟨_, e1, he U env σ H _ I (q.expr.mono fun t e2 U2 H2 s2 I2 q2 y hy => ?_)⟩
    unfold augR at q2
    split at q2
    · rename_i b hb
      have rb := res_rb I2 hy hb
      cases rb
      refine ⟨a, b, rfl, rfl, ?_⟩
      have := sg_name (κ := κ) (i := i) U env σ H U2 e2 σ H2 (.int (f a b)) (.val (.int (f a b))) D.nx I s2 I2 (.int _) (AskG.of_optS q2)
      exact this
    · exact q2.elim
  · exact q.elim
end
section
variable {X : Cx} {ca : Str → Addr} {EW : WX} {a b c e o : Expr} {es : List Expr} {ta tb tc te to : TE} {fa fb fc fe fo : Ev} {tas : TA} {fas : Ea} {pos : Pos} {st : Stmt}
theorem fe_join (ho : FE X ca EW o to fo) (he : FE X ca EW b te fe) (k : PE X o to → PE X b te → PE X e (tM1 (GL.rJoinQ X.K) to te)) : FE X ca EW e (tM1 (GL.rJoinQ X.K) to te) (fJoin fo fe) := ⟨k ho.p he.p, se_join ho.s he.s⟩
theorem fe_fmt (h : FE X ca EW b te fe) (k : PE X b te → PE X e (tFmt te)) : FE X ca EW e (tFmt te) (fFmt fe) := ⟨k h.p, se_fmt h.s⟩
inductive FJ (X : Cx) (ca : Str → Addr) (EW : WX) : List Expr → List TE → List Ev → Prop
  | nil : FJ X ca EW [] [] []
  | cons {e : Expr} {t : TE} {f : Ev} {es : List Expr} {ts : List TE} {fs : List Ev} : FE X ca EW e t f → FJ X ca EW es ts fs → FJ X ca EW (e :: es) (t :: ts) (f :: fs)
theorem FJ.pj {es : List Expr} {ts : List TE} {fs : List Ev} (h : FJ X ca EW es ts fs) : PJ X es ts := by
  induction h with
  | nil => exact .nil
  | cons h _ ih => exact .cons h.p ih
theorem FJ.sj {es : List Expr} {ts : List TE} {fs : List Ev} (h : FJ X ca EW es ts fs) : SJ (kx X ca) EW ts fs := by
  induction h with
  | nil => exact .nil
  | cons h _ ih => exact .cons h.s ih
theorem fe_joined {v1 v2 : Expr} {ts : List TE} {fs : List Ev} (h : FJ X ca EW (v1 :: v2 :: es) ts fs) : FE X ca EW (.JoinedStr (v1 :: v2 :: es) pos) (fun σ H Q => tJs ts Str.empty σ H fun out H1 => Q (.str out) H1) (fJs fs Str.empty) := ⟨pe_joined h.pj, se_js h.sj _⟩
theorem fe_chain {op op' : CmpOp} {r r' : R2} {f g : D → D → Option Tok} (h : FOp X ca (compareOp op) r f) (h' : FOp X ca (compareOp op') r' g) (ha : FE X ca EW a ta fa) (hb : FE X ca EW b tb fb) (hc : FE X ca EW c tc fc) (hm : lastMarks [op, op'] [b, c] = false := by with_unfolding_all rfl) :
    FE X ca EW (.Compare a [op, op'] [b, c] pos) (tChain r r' ta tb tc) (fChain f g fa fb fc) := ⟨pe_chain h.op h'.op ha.p hb.p hc.p hm, se_chain h.s h'.s ha.s hb.s hc.s⟩
theorem ft_chain {op op' : CmpOp} {r r' : R2} {f g : D → D → Option Tok} (h : FOp X ca (compareOp op) r f) (h' : FOp X ca (compareOp op') r' g) (ha : FE X ca EW a ta fa) (hb : FE X ca EW b tb fb) (hc : FE X ca EW c tc fc) (hm : lastMarks [op, op'] [b, c] = false := by with_unfolding_all rfl) :
    FT X ca EW (.Compare a [op, op'] [b, c] pos) (tTest (tChain r r' ta tb tc)) (fB (fChain f g fa fb fc)) := ⟨pt_chain h.op h'.op ha.p hb.p hc.p hm, st_test (se_chain h.s h'.s ha.s hb.s hc.s)⟩
theorem fs_aug {i : Nat} {f : Int → Int → Int} (h : FE X ca EW b te fe) (k : PE X b te → PS X st (tAug i te (ipI f))) : FS X ca EW st (tAug i te (ipI f)) (fAug i fe f) := ⟨k h.p, ss_aug h.s⟩
theorem fe_mutL {r : V → List V → Hp → VK → Prop} {m : Mf} (hm : MtM' (kx X ca) r m) (ho : FE X ca EW o to fo) (ha : FA X ca EW es tas fas) (k : PE X o to → PA X es tas → PE X e (tBM X.K "list" r to tas)) : FE X ca EW e (tBM X.K "list" r to tas) (fMutL m fo fas) := ⟨k ho.p ha.p, se_mutL hm ho.s ha.s⟩
theorem fe_mutL0 {r : V → List V → Hp → VK → Prop} {m : Mf} (hm : MtM' (kx X ca) r m) (ho : FE X ca EW o to fo) (k : PE X o to → PE X e (tBM0 X.K "list" r to)) : FE X ca EW e (tBM0 X.K "list" r to) (fMutL m fo fNil) := ⟨k ho.p, se_mutL0 hm ho.s⟩
theorem fe_extend (ho : FE X ca EW o to fo) (he : FE X ca EW b te fe) (k : PE X o to → PE X b te → PE X e (tBM X.K "list" rExtend to (tCons te tNil))) : FE X ca EW e (tBM X.K "list" rExtend to (tCons te tNil)) (fExtend fo fe) := ⟨k ho.p he.p, se_extend ho.s he.s⟩
theorem fg_sub {tg : Expr} (ho : FE X ca W0 o to fo) (hi : FE X ca W0 b tb fb) (k : PE X o to → PE X b tb → PG X tg (gSub to tb rSetL)) : FG X ca tg (gSub to tb rSetL) (GsubX fo fb) [] := ⟨k ho.p hi.p, sg_sub ho.s hi.s⟩
theorem fe_dnew (k : PE X e tDNewK) : FE X ca EW e tDNewK fDNew := ⟨k, se_dnew⟩
theorem fs_dput (ho : FE X ca W0 o to fo) (hk : FE X ca W0 b tb fb) (hv : FE X ca EW c tc fc) (k : PE X o to → PE X b tb → PE X c tc → PS X st (sDPut to tb tc)) : FS X ca EW st (sDPut to tb tc) (fDPut fo fb fc) := ⟨k ho.p hk.p hv.p, ss_dput hv.s ho.s hk.s⟩
end
end FL

set_option Elab.async false
set_option linter.all false
set_option maxRecDepth 100000
set_option maxHeartbeats 4000000
set_option exponentiation.threshold 100000
/-! F16: assembling. -/
namespace FL
open PySem PySem.Spec PyProof.Rows L2 GL
section
variable {X : Cx} {ca : Str → Addr} {EW : WX} {tg iter : Expr} {te : TE} {tt : TT} {fe : Ev} {ft : Et} {fas : Ea} {G : Gf} {ws : List Nat} {wi : TI} {it : ItF} {gt : TG}
theorem fs_setLc {i : Nat} {y : Str} {py : Pos} {elt : Expr} {ifs : List Expr} {scope : Scope} {own : List (Str × Nat)} {pos spos : Pos} (hc : X.calm = true) (hN : X.N.Nodup) (hy : X.N[i]? = some y) (hyl : X.env.scope.names.lookup y = some .local)
    (hsw : swapsWith (.ListComp elt [⟨tg, iter, ifs, 0⟩] scope pos) (some (.Name y py)) spos.line X.env = pure true) (hi : FI X ca EW tg iter wi fas it) (ok : BlkOk X.N X.env.scope scope own)
    (hg : ∀ (s : Shared) (H : Hp) (C : Addr) (cl : List (Str × Addr)) (fp : List Addr), FG (X.blk s H scope (compEnvC scope cl C X.env) fp) ca tg gt G ws) (ht : ∀ (s : Shared) (H : Hp) (C : Addr) (cl : List (Str × Addr)) (fp : List Addr), FTs (X.blk s H scope (compEnvC scope cl C X.env) fp) ca W0 ifs tt ft)
    (he : ∀ (s : Shared) (H : Hp) (C : Addr) (cl : List (Str × Addr)) (fp : List Addr), FE (X.blk s H scope (compEnvC scope cl C X.env) fp) ca W0 elt te fe) (hv : ∀ k ∈ ws, k ∈ own.map (·.2)) (hs : ∀ x, foldedSetIterable iter X.env x = pure x := by intro _; rfl) :
    FS X ca EW (.Assign [.Name y py] (.ListComp elt [⟨tg, iter, ifs, 0⟩] scope pos) spos) (tAsg (tLc wi gt tt te (own.map (·.2))) (gName i)) (fAsg (fLc fas it G ft fe (own.map (·.2))) (Gname i)) :=
  ⟨ps_setLc hc hN hy hyl hsw hi.p ok (fun s H C cl fp => (hg s H C cl fp).p) (fun s H C cl fp => (ht s H C cl fp).p) (fun s H C cl fp => (he s H C cl fp).p) hs, ss_asg (se_lc hi.s (hg X.s_0 (fun _ => none) 0 [] []).s hv (ht X.s_0 (fun _ => none) 0 [] []).s (he X.s_0 (fun _ => none) 0 [] []).s) sg_name⟩
end
section
variable {P : Program} {w : World} {K : PySem.W.Frag} {mg : Str → Option Value} {base : Heap} {ca : Str → Addr} {k : Nat} {x : Str} {st : Stmt} {f : Addr} {fd : FuncData} {N ps : List Str} {m : List Bool} {fb : Sf} {t : TS} {sc : Scope} {cdv : Value} {A : Around} {outer : List PySem.Env} {s : Shared} {H : Hp} {E : XK}
theorem cx_takes : Takes (cxOf (L2.CX P w) P w K mg base N x sc f cdv A outer s H E) (fun c d _ H' => E c d H') := takes_of rfl rfl rfl rfl
theorem cx_passes : PassesOwn (model P w) (cxOf (L2.CX P w) P w K mg base N x sc f cdv A outer s H E).A (cxOf (L2.CX P w) P w K mg base N x sc f cdv A outer s H E).env (cxOf (L2.CX P w) P w K mg base N x sc f cdv A outer s H E).xe := passes_of rfl
/-- the law's own def -/
theorem law_of {fn : Fn} (F : FnG P w K mg base (L2.CX P w) k f fd ps (spF ⟨K, ca⟩ [false] fn)) (hfn : ∀ ns : List Int, ns.length ≤ 63 → ∃ qs, fn [.scr ns] = .ok (.val (.bl true)) qs) : FnG P w K mg base CX0 k f fd ps (spLaw K) := by
  have key : ∀ vs H Q E, spLaw K vs H Q E → spF ⟨K, ca⟩ [false] fn vs H Q fun _ _ _ => False := fun vs H Q E h => by
    obtain ⟨a, ns, rfl, hs, hl, q⟩ := h
    obtain ⟨qs, e⟩ := hfn ns hl
    refine ⟨fun _ => False, [.scr ns], fun _ z => z.elim, .frz (.scr ?_) .nil, by simp [parRefs], ?_⟩
    · rcases hs with hs | hs
      · exact .heap hs id
      · exact .wr fun H' => .inr hs
    · rw [e]
      intro v H' _ _ w
      have w : Rp _ _ H' v (.bl true) := w
      cases w
      exact q H'
  refine ⟨fun vs H Q E h => F.len _ _ _ _ (key vs H Q E h), fun A outer s H args us vs Q E hg hr e0 hb hv hs => ?_⟩
  refine codeAny_mono (F.run A outer s H args us vs Q (fun _ _ _ => False) hg hr e0 hb hv (key vs H Q E hs)) fun r s' hq => ?_
  cases r with
  | error e => obtain ⟨_, _, _, _, _, _, _, _, _, _, _, _, z⟩ := hq; exact z.elim
  | ok fl => cases fl <;> exact hq
end
end FL

set_option Elab.async false
set_option linter.all false
set_option maxRecDepth 100000
set_option maxHeartbeats 4000000
set_option exponentiation.threshold 100000
/-! F17: the rules whose reading names the fragment, with the fragment as a parameter. -/
namespace FL
open PySem PySem.Spec PyProof.Rows L2 GL
section
variable {X : Cx} {ca : Str → Addr} {EW : WX} {a b c e o tg iter : Expr} {es : List Expr} {ta tb tc te to : TE} {tas : TA} {fa fb fc fe fo : Ev} {fas : Ea} {pos : Pos} {ws : List Nat} (K : PySem.W.Frag)
theorem kop_add (hK : X.K = K := by rfl) : FOp X ca (binaryOp .Add) (rAddD K) addD := by subst hK; exact fop_add
theorem kop_mul (hK : X.K = K := by rfl) : FOp X ca (binaryOp .Mult) (rMulD K) mulD := by subst hK; exact fop_mul
theorem kop_eq (hu : X.A.units + 64 < cLine) (hK : X.K = K := by rfl) : FOp X ca (compareOp .Eq) (rEqDD K) eqD := by subst hK; exact fop_eq hu
theorem kop_ne (hu : X.A.units + 64 < cLine) (hK : X.K = K := by rfl) : FOp X ca (compareOp .NotEq) (rNeDD K) neD := by subst hK; exact fop_ne hu
theorem kop_in (hu : X.A.units + 1 < cLine) (hK : X.K = K := by rfl) : FOp X ca (compareOp .In) (rInDD K) inD := by subst hK; exact fop_in hu
theorem kop_notIn (hu : X.A.units + 1 < cLine) (hK : X.K = K := by rfl) : FOp X ca (compareOp .NotIn) (rNotInDD K) notInD := by subst hK; exact fop_notIn hu
theorem kix_D (hu : X.A.units + 1 < cLine) (hK : X.K = K := by rfl) : FIx X ca (rIxDD K) ixD := by subst hK; exact fix_D hu
theorem ksl_D (hK : X.K = K := by rfl) : FSl X ca (rSlD K) slD := by subst hK; exact fsl_D
theorem kca_len (hK : X.K = K := by rfl) : FCa X ca (.builtin "len") (orRC (GL.rLenQ K) rLenStr) lenD := by subst hK; exact fca_len
theorem kca_list (hK : X.K = K := by rfl) : FCa X ca (.type "list") (GL.rListQ K) (c1 listD) := by subst hK; exact fca_list
theorem kca_tuple (hK : X.K = K := by rfl) : FCa X ca (.type "tuple") (GL.rTupQ K) (c1 tupleD) := by subst hK; exact fca_tuple
theorem kca_all (hc : X.calm = true) (hK : X.K = K := by rfl) : FCa X ca (.builtin "all") (rAll K) (c1 allD) := by subst hK; exact fca_all hc
theorem kca_any (hc : X.calm = true) (hK : X.K = K := by rfl) : FCa X ca (.builtin "any") (rAny K) (c1 anyD) := by subst hK; exact fca_any hc
theorem kca_repr (hg : X.A.guards = some []) (hu : X.A.units + 64 < cLine) (hK : X.K = K := by rfl) : FCa X ca (.builtin "repr") (rRepr K) (c1 reprD) := by subst hK; exact fca_repr hg hu
theorem kca_sorted (hK : X.K = K := by rfl) : FCa X ca (.builtin "sorted") (orRC (rSortedS K) (rSortZ K)) sortedD := by subst hK; exact fca_sorted
theorem ki_seq (h : FE X ca EW e te fe) (hK : X.K = K := by rfl) : FI X ca EW tg e (iSeq K te) (fCons fe fNil) seqIt := by subst hK; exact fi_seq h
theorem ki_enum (h : FA X ca EW es tas fas) (k : PA X es tas → PI X tg e (iEnum K tas)) (hK : X.K = K := by rfl) : FI X ca EW tg e (iEnum K tas) fas enumIt := by subst hK; exact fi_enum h k
theorem ki_zip (h : FA X ca EW es tas fas) (k : PA X es tas → PI X tg e (RZ.iZipA K tas)) (hK : X.K = K := by rfl) : FI X ca EW tg e (RZ.iZipA K tas) fas zipIt := by subst hK; exact fi_zip h k
theorem ke_join (ho : FE X ca EW o to fo) (he : FE X ca EW b te fe) (k : PE X o to → PE X b te → PE X e (tM1 (GL.rJoinQ K) to te)) (hK : X.K = K := by rfl) : FE X ca EW e (tM1 (GL.rJoinQ K) to te) (fJoin fo fe) := by subst hK; exact fe_join ho he k
theorem ke_mutL {r : V → List V → Hp → VK → Prop} {m : Mf} (hm : MtM' (kx X ca) r m) (ho : FE X ca EW o to fo) (ha : FA X ca EW es tas fas) (k : PE X o to → PA X es tas → PE X e (tBM K "list" r to tas)) (hK : X.K = K := by rfl) : FE X ca EW e (tBM K "list" r to tas) (fMutL m fo fas) := by subst hK; exact fe_mutL hm ho ha k
theorem ke_mutL0 {r : V → List V → Hp → VK → Prop} {m : Mf} (hm : MtM' (kx X ca) r m) (ho : FE X ca EW o to fo) (k : PE X o to → PE X e (tBM0 K "list" r to)) (hK : X.K = K := by rfl) : FE X ca EW e (tBM0 K "list" r to) (fMutL m fo fNil) := by subst hK; exact fe_mutL0 hm ho k
theorem ke_extend (ho : FE X ca EW o to fo) (he : FE X ca EW b te fe) (k : PE X o to → PE X b te → PE X e (tBM K "list" rExtend to (tCons te tNil))) (hK : X.K = K := by rfl) : FE X ca EW e (tBM K "list" rExtend to (tCons te tNil)) (fExtend fo fe) := by subst hK; exact fe_extend ho he k
theorem kg_tup {gs : TGs} {Gs : List Gf} {n : Nat} (h : FGs X ca es gs Gs ws) (hn : n = Gs.length) (k : PGs X es gs → PG X e (gTup K n gs)) (hK : X.K = K := by rfl) : FG X ca e (gTup K n gs) (Gtup Gs) ws := by subst hK; exact fg_tup h hn k
theorem ke_d {P : Program} {w : World} {mg : Str → Option Value} {base : Heap} {j k : Nat} {x : Str} {m : List Bool} {fn : Fn} {p : Pos} (d : DnF P w K mg base ca j x m fn) (tk : Takes X EW) (hG : X.A.guards = some []) (hr : Room k X.A) (ha : FA X ca EW (e :: es) tas fas) (hj : j ≤ k := by decide) (hg : Gl X x := by rfl) (hdb : (x == ("__debug__" : Str)) = false := by decide)
    (he : starEach (e :: es) X.env = (false, eval e X.env) :: starEach es X.env := by rfl) (hpl : (backTo pos (starEach es X.env)).any (·.1) = false := by rfl) (hK : X.K = K := by rfl) (hP : X.prog = P := by rfl) (hw : X.w = w := by rfl) (hmg : X.mg = mg := by rfl) (hb : X.base = base := by rfl) :
    FE X ca EW (.Call (.Name x p) (e :: es) [] pos) (tCallS (spF ⟨K, ca⟩ m fn) (WE EW) tas) (fCall m fn fas) := by
  subst hK hP hw hmg hb
  exact fe_d d tk hG hr ha hj hg hdb he hpl
end
end FL

set_option Elab.async false
set_option linter.all false
set_option maxRecDepth 100000
set_option maxHeartbeats 4000000
set_option exponentiation.threshold 100000
/-! F18: isinstance, starred arguments, sets' sizes, tuples turned round. -/
namespace FL
open PySem PySem.Spec PyProof.Rows L2 GL
/-! ### isinstance -/
def tyD : D → Option String
  | .non => some "NoneType"
  | .bl _ => some "bool"
  | .int _ => some "int"
  | .str _ => some "str"
  | .tup _ => some "tuple"
  | .lst _ => some "list"
  | .scr _ => some "list"
  | .dct _ => some "dict"
  | _ => none
theorem sqt_ty {K : PySem.W.Frag} {H : Hp} {a : Addr} {xs : List V} (h : SqT K H a xs) : TyX K H (.ref a) (.type "tuple") := by
  rcases h with (h | ⟨o, h⟩) | ⟨o, its, m, h1, h2, _⟩
  · exact .base (.tup h)
  · exact .fTuple h
  · exact .kTuple h1 h2
theorem sql_ty {K : PySem.W.Frag} {H : Hp} {a : Addr} {xs : List V} (h : SqL K H a xs) : TyX K H (.ref a) (.type "list") := by
  rcases h with (h | ⟨o, h⟩) | ⟨o, its, m, h1, h2, _⟩
  · exact .base (.lst h)
  · exact .base (.frz h)
  · exact .kList h1 h2
theorem Rb.ty' {κ : Kx} {U : AS} {H : Hp} {v : V} {d : D} {t : String} (h : Rb κ U H v d) (e : tyD d = some t) : TyX κ.K H v (.type t) := by
  cases h with
  | non => cases e; exact .base .non
  | bl => cases e; exact .base (.bl _)
  | int => cases e; exact .base (.int _)
  | str => cases e; exact .base (.str _)
  | ty => cases e
  | tup h r => cases e; exact sqt_ty h.sq
  | lst h r => cases e; exact .base (.lst h)
  | scr h => cases e; exact sql_ty h
  | dct h r =>
    cases e
    rcases h with h | ⟨o, h⟩
    · exact .base (.dK h)
    · exact .fDict h
  | obj => cases e
  | exc => cases e
def isiD (d c : D) : Option Tok := match tyD d, c with
  | some t, .ty n => match kitB t n with
    | some b => some (.val (.bl b))
    | none => none
  | _, _ => none
section
variable {X : Cx} {ca : Str → Addr} {EW : WX} {a b e o : Expr} {es : List Expr} {ta te to : TE} {tas : TA} {fa fe fo : Ev} {fas : Ea} {pos p : Pos} {κ : Kx}
theorem fca_isi : FCa X ca (.builtin "isinstance") (rIsi X.K) (c2 isiD) := by
  refine ⟨call_isi, fun U H xs ds tk Q hs al hf q => ?_⟩
  replace hf := c2_some hf
  obtain ⟨d, c, rfl, hf⟩ := hf
  cases hs with
  | cons h1 hs =>
    cases hs with
    | cons h2 hs =>
      cases hs
      unfold isiD at hf
      split at hf
      · rename_i t n ht
        split at hf
        · rename_i b hb
          cases hf
          cases h2
          exact ⟨_, _, .type t, .type n, b, rfl, .ty n, h1.ty' ht, kit_ty hb, q _ H .refl (.bl _)⟩
        · cases hf
      · cases hf
/-! ### starred arguments -/
def seqOf : Option D → Option (List D)
  | some (.tup ds) => some ds
  | some (.lst ds) => some ds
  | _ => none
def fStar (a : Ev) (b : Ea) : Ea := fun env => (a env).bind fun t e1 => match seqOf (res t e1) with
  | some ds => (b e1).bind fun ts e2 => .ok (ds.map Tok.val ++ ts) e2
  | none => .bad
theorem AllTok.vals {U : AS} {Hs H : Hp} {env : Env} {σ : L2.St} {xs : List V} {ds : List D} (h : RpA κ U H xs ds) : ∀ {vs : List V} {ts : List Tok}, AllTok κ U Hs env σ H vs ts → AllTok κ U Hs env σ H (xs ++ vs) (ds.map Tok.val ++ ts) := by
  intro vs ts k
  induction ds generalizing xs with
  | nil => cases h; exact k
  | cons d ds ih => cases h with | cons r r' => exact .cons r (ih r')
theorem newRefs_vals {xs vs : List V} {ds : List D} {ts : List Tok} (h : xs.length = ds.length) : newRefs (xs ++ vs) (ds.map Tok.val ++ ts) = newRefs vs ts := by
  induction ds generalizing xs with
  | nil => cases xs with | nil => rfl | cons x xs => cases h
  | cons d ds ih =>
    cases xs with
    | nil => cases h
    | cons x xs => exact ih (by simpa using h)
theorem sa_star (ha : SE κ EW ta fa) (hb : SA κ EW tas fas) : SA κ EW (StX.tStar κ.K ta tas) (fStar fa fas) := by
  intro U env σ H Q I q
  refine ha U env σ H _ I (q.then.mono fun t e1 U1 H1 s1 I1 q1 x hx => ?_)
  split at q1
  · rename_i ds hd
    unfold seqOf at hd
    have key : ∃ p xs, x = V.ref p ∧ (SqT κ.K H1 p xs ∨ SqL κ.K H1 p xs) ∧ RpA κ U1 H1 xs ds := by
      split at hd
      · rename_i e
        cases hd
        cases res_rb I1 hx e with
        | tup h r => exact ⟨_, _, rfl, .inl h.sq, r⟩
      · rename_i e
        cases hd
        cases res_rb I1 hx e with
        | lst h r => exact ⟨_, _, rfl, .inr (.inl (.inl h)), r⟩
      · cases hd
    obtain ⟨p, xs, rfl, hs, r⟩ := key
    refine ⟨p, xs, rfl, hs, ?_⟩
    refine hb U1 e1 σ H1 _ I1 ((q1.then.later I s1 I1).mono fun ts e2 U2 H2 s2 I2 q2 vs hvs nd => ?_)
    exact q2 U2 H2 (s1.trans I I1 s2) I2 (xs ++ vs) (AllTok.vals (r.imp (s2.kp I1)) (hvs.from s1.th)) (by rw [newRefs_vals r.len]; exact nd)
  · exact q1.elim
theorem fa_star (K : PySem.W.Frag) (h : FE X ca EW e te fe) (g : FA X ca EW es tas fas) (hs : starEach (.Starred e p :: es) X.env = (true, eval e X.env) :: starEach es X.env := by rfl) (hK : X.K = K := by rfl) : FA X ca EW (.Starred e p :: es) (StX.tStar K te tas) (fStar fe fas) := by
  subst hK
  exact ⟨StX.pa_star h.p g.p hs, sa_star h.s g.s⟩
theorem kca_isi (K : PySem.W.Frag) (hK : X.K = K := by rfl) : FCa X ca (.builtin "isinstance") (rIsi K) (c2 isiD) := by subst hK; exact fca_isi
/-! ### len(set(texts)) -/
def lenSetD (o : Option D) : Option Tok := match seqOf o with
  | some ds => match strsD ds with
    | some xs => if xs.length ≤ 1000 then some (.val (.int (firsts xs).length)) else none
    | none => none
  | none => none
def fLenSet (a : Ev) : Ev := fun env => (a env).bind fun t e1 => lift (lenSetD (res t e1)) e1
theorem se_lenSet (ha : SE κ EW ta fa) : SE κ EW (tLenSetQ κ.K ta) (fLenSet fa) := by
  intro U env σ H Q I q
  refine ha U env σ H _ I (q.then.mono fun t e1 U1 H1 s1 I1 q1 x hx => ?_)
  obtain ⟨tk, et, q3⟩ := Ask.lift q1 I s1 I1
  unfold lenSetD at et
  split at et
  · rename_i ds hd
    split at et
    · rename_i zs hz
      split at et
      · rename_i hl
        cases et
        unfold seqOf at hd
        have key : ∃ p, x = V.ref p ∧ (SqL κ.K H1 p (zs.map V.str) ∨ SqT κ.K H1 p (zs.map V.str)) := by
          split at hd
          · rename_i e
            cases hd
            cases res_rb I1 hx e with
            | tup h r => exact ⟨_, rfl, .inr (strs_rp r hz ▸ h.sq)⟩
          · rename_i e
            cases hd
            cases res_rb I1 hx e with
            | lst h r => exact ⟨_, rfl, .inl (strs_rp r hz ▸ .inl (.inl h))⟩
          · cases hd
        obtain ⟨p, rfl, hs⟩ := key
        refine ⟨p, zs, rfl, hs, hl, ?_⟩
        obtain ⟨U3, w1, w2⟩ := q3 _ H1 .refl (.int _)
        exact w2 _ w1
      · cases et
    · cases et
  · cases et
theorem ke_lenSet (K : PySem.W.Frag) (h : FE X ca EW b te fe) (k : PE X b te → PE X e (tLenSetQ K te)) (hK : X.K = K := by rfl) : FE X ca EW e (tLenSetQ K te) (fLenSet fe) := by
  subst hK
  exact ⟨k h.p, se_lenSet h.s⟩
/-! ### t[::-1] -/
def revD (o : Option D) : Option Tok := match o with
  | some (.tup ds) => some (.val (.tup ds.reverse))
  | _ => none
def fRevT (a : Ev) : Ev := fun env => (a env).bind fun t e1 => lift (revD (res t e1)) e1
theorem RpA.reverse {U : AS} {H : Hp} {xs : List V} {ds : List D} (r : RpA κ U H xs ds) : RpA κ U H xs.reverse ds.reverse := by
  induction ds generalizing xs with
  | nil => cases r; exact .nil
  | cons d ds ih =>
    cases r with
    | cons a b =>
      rw [List.reverse_cons, List.reverse_cons]
      exact (ih b).append (.cons a .nil)
theorem se_revT (ha : SE κ EW ta fa) : SE κ EW (tRevT κ.K ta) (fRevT fa) := by
  intro U env σ H Q I q
  refine ha U env σ H _ I (q.then.mono fun t e1 U1 H1 s1 I1 q1 x hx => ?_)
  obtain ⟨tk, et, q3⟩ := Ask.lift q1 I s1 I1
  unfold revD at et
  split at et
  · rename_i ds e
    cases et
    cases res_rb I1 hx e with
    | tup h r =>
      refine ⟨_, _, rfl, h.sq, fun p np => ?_⟩
      obtain ⟨U3, w1, w2⟩ := q3 _ _ (.new np) (Rp.newT I1.al r.reverse np)
      exact w2 _ w1
  · cases et
theorem ke_revT (K : PySem.W.Frag) (h : FE X ca EW b te fe) (k : PE X b te → PE X e (tRevT K te)) (hK : X.K = K := by rfl) : FE X ca EW e (tRevT K te) (fRevT fe) := by
  subst hK
  exact ⟨k h.p, se_revT h.s⟩
end
end FL

set_option Elab.async false
set_option linter.all false
set_option maxRecDepth 100000
set_option maxHeartbeats 4000000
set_option exponentiation.threshold 100000
/-! F19: defs with a starred parameter. -/
namespace FL
open PySem PySem.Spec PyProof.Rows L2 GL
/-- a promise over all given arguments, where no repr is under way -/
def FnV (P : Program) (w : World) (K : PySem.W.Frag) (mg : Str → Option Value) (base : Heap) (k : Nat) (f : Addr) (sp : Sp) : Prop :=
  ∀ (A : Around) (outer : List PySem.Env) (s : Shared) (H : Hp) (us : List Value) (vs : List V) (Q : VK) (E : XK), A.guards = some [] → Room k A → Env0 P w K mg base A outer s H → Vals vs us → sp vs H Q E →
    codeAny (model P w) A (.call (.ref f) ⟨us, []⟩) (CR (L2.CX P w) outer P w H s Q E) s
structure DnV (P : Program) (w : World) (K : PySem.W.Frag) (mg : Str → Option Value) (base : Heap) (ca : Str → Addr) (k : Nat) (x : Str) (fn : Fn) : Prop where
  ex : ∃ f, FnV P w K mg base k f (spV ⟨K, ca⟩ fn) ∧ mg x = some (.ref f) ∧ PySem.W.keepIn K (.ref f) = true
/-- what a def with p parameters and a starred one does with all its arguments -/
def starFn (p : Nat) (fn : Fn) : Fn := fun ds => if p ≤ ds.length ∧ ds.length ≤ 1000 then fn (ds.take p ++ [.tup (ds.drop p)]) else .bad
theorem argsV {κ : Kx} {U : AS} {H : Hp} {n : Nat} {vs : List V} {ds : List D} (h : ArgsOk κ U H (List.replicate n false) vs ds) : RpA κ U H vs ds := by
  induction n generalizing vs ds with
  | zero => cases h; exact .nil
  | succ n ih => cases h with | frz r h => exact .cons r (ih h)
theorem argsV' {κ : Kx} {U : AS} {H : Hp} {vs : List V} {ds : List D} (h : RpA κ U H vs ds) : ArgsOk κ U H (List.replicate vs.length false) vs ds := by
  induction vs generalizing ds with
  | nil => cases h; exact .nil
  | cons v vs ih => cases h with | cons r h => exact .frz r (ih h)
theorem parRefsV {n : Nat} {vs : List V} : parRefs (List.replicate n false) vs = [] := by
  induction n generalizing vs with
  | zero => cases vs <;> rfl
  | succ n ih => cases vs with | nil => rfl | cons v vs => exact ih
theorem star_sp {κ : Kx} {p : Nat} {fn : Fn} {vs : List V} {H : Hp} {Q : VK} {E : XK} (h : spV κ (starFn p fn) vs H Q E) :
    ∃ ws rest, vs = ws ++ rest ∧ ws.length = p ∧ rest.length ≤ sizeLine ∧ ∀ q, H q = none → spF κ (List.replicate (p + 1) false) fn (ws ++ [V.ref q]) (upd H q (.tup rest)) Q E := by
  obtain ⟨U, ds, al, ha, nd, q⟩ := h
  have r := argsV ha
  unfold starFn at q
  split at q
  · rename_i hl
    have len := r.len
    refine ⟨vs.take p, vs.drop p, (List.take_append_drop _ _).symm, by simp; omega, sz (by simp; omega), fun x nx => ?_⟩
    have g : Grow H (upd H x (.tup (vs.drop p))) := .new nx
    have r1 : RpA κ U (upd H x (.tup (vs.drop p))) (vs.take p ++ [V.ref x]) (ds.take p ++ [.tup (ds.drop p)]) := by
      refine RpA.append ?_ (.cons (Rp.newT al (r.drop p) nx) .nil)
      exact (r.take p).imp fun b o nb e => ⟨nb, g b o e⟩
    have e1 : (vs.take p ++ [V.ref x]).length = p + 1 := by simp; omega
    refine ⟨U, _, fun a z => ?_, e1 ▸ argsV' r1, by rw [parRefsV]; exact List.nodup_nil, ?_⟩
    · have := al a z
      cases e : H a with
      | none => exact absurd e this
      | some o => rw [g a o e]; simp
    rw [parRefsV] at q ⊢
    cases e : fn (ds.take p ++ [.tup (ds.drop p)]) with
    | bad => rw [e] at q; exact q.elim
    | ok t ps =>
      rw [e] at q
      intro v H' k ps' w
      refine q v H' ⟨fun b o nb e => k.keep b o nb (g b o e), fun b hb => k.th b ?_⟩ ps' ?_
      · cases e : H b with
        | none => exact absurd e hb
        | some o => rw [g b o e]; simp
      · cases t with
        | val d => exact w
        | slot j => exact w
        | new d =>
          obtain ⟨pp, e1, e2, e3⟩ := w
          refine ⟨pp, e1, ?_, e3⟩
          cases e : H pp with
          | none => rfl
          | some o => rw [g pp o e] at e2; cases e2
    | err x ps =>
      rw [e] at q
      intro c d H' k ps' w
      refine q c d H' ⟨fun b o nb e => k.keep b o nb (g b o e), fun b hb => k.th b ?_⟩ ps' w
      cases e : H b with
      | none => exact absurd e hb
      | some o => rw [g b o e]; simp
  · exact q.elim
section
variable {P : Program} {w : World} {K : PySem.W.Frag} {mg : Str → Option Value} {base : Heap} {ca : Str → Addr} {k : Nat} {x : Str} {st : Stmt} {f : Addr} {fd : FuncData} {N ps : List Str} {pv : Str} {fb : Sf}
/-- def f(a, .., *v) by its body -/
theorem dnV_of (F : FnP K x st f fd) (hm : mg x = some (.ref f)) (S : FnScope N (ps ++ [pv]) (defScope st)) (n : Nat) (hn : ps.length + 1 + n = N.length)
    (hb : ∀ (kV doc pm : Value) (an : Option Addr) (cdv ct : Value) (us rest : List Value), us.length = ps.length → bindArgs (PySem.W.fnOf x x (defArgs st) (defBody st) (defScope st) .none kV doc pm an cdv ct) ⟨us ++ rest, []⟩ = (newTuple rest >>= fun t => pure (ps.zip us ++ [(pv, t)])))
    (hbody : ∀ (cdv : Value) (A : Around) (outer : List PySem.Env) (s : Shared) (H : Hp) (E : XK), A.guards = some [] → Room k (A.deeper (envOfC x (defScope st) s.heap.objs.size f cdv)) →
      ∃ t, FSs (cxOf (L2.CX P w) P w K mg base N x (defScope st) f cdv A outer s H E) ca (fun c d _ H' => E c d H') (defBody st) t fb) : DnV P w K mg base ca (k + 1) x (starFn ps.length (mkFn (List.replicate (ps.length + 1) false) n fb)) := by
  refine ⟨f, ?_, hm, F.kp⟩
  obtain ⟨oc, od, dV, kV, doc, pm, an, cdv, ct, osl, rfl, lk, hcd, hdv, _⟩ := F.ex
  rcases hdv with ⟨_, rfl⟩ | ⟨h0, _⟩
  · intro A outer s H us vs Q E hg hr e0 r hsp
    obtain ⟨ws, rest, rfl, hl, hz, hq⟩ := star_sp hsp
    obtain ⟨u1, u2, rfl, r1, r2⟩ := StX.vals_split r
    have hn0 : H s.heap.objs.size = none := e0.hok.fresh (Nat.le_refl _)
    have hl1 : u1.length = ps.length := by rw [← r1.length]; exact hl
    have hl2 : u2.length ≤ sizeLine := by rw [← r2.length]; exact hz
    refine StX.run_bnd lk hcd S hr e0 (G := fun xs H2 => ∃ p, H p = none ∧ xs = ws ++ [V.ref p] ∧ H2 = upd H p (.tup rest)) (fun A' Ex Q' h => ?_) fun s2 H2 xs ⟨p, hp, ex, eH⟩ hr' => ?_
    · rw [hb kV doc pm an cdv ct u1 u2 hl1]
      refine wpAny_bind (wpAny_newTuple (wpAny_pure ?_) hl2)
      have new : ObjOk P w (upd H s.heap.objs.size (.tup rest)) (s.heap.push ({ cls := .type "tuple", data := .seq u2.toArray } : Obj)) s.heap.objs.size (.tup rest) := ⟨hz, u2, r2, ⟨_, Heap.get?_push_size _ rfl, rfl, _, rfl⟩⟩
      have un := StX.un_laid (fs := frs outer) (s := s) (o := ({ cls := .type "tuple", data := .seq u2.toArray } : Obj)) (u := .tup rest) hn0
      have z := h _ _ (ws ++ [V.ref s.heap.objs.size]) (u1 ++ [Value.ref s.heap.objs.size]) (StX.env0_laid e0 new) un rfl (fun e s' => StX.cxUp outer s H _ _ E e s' un (fun b o q => Heap.get?_push_of_some _ q) rfl) (r1.append (.cons rfl .nil)) (by rw [List.length_append, List.length_append, hl] <;> rfl) ⟨_, hn0, rfl, rfl⟩
      rw [List.zip_append hl1.symm] at z
      exact z
    · subst ex eH
      obtain ⟨t, hB⟩ := hbody cdv A outer s2 _ E hg hr'
      refine ⟨t, hB.p, ?_⟩
      rw [start_of (n := n) (by rw [List.length_append, hl]; exact hn)]
      exact mkFn_ok rfl hB.s (hq p hp)
  · exact absurd rfl h0
end
section
variable {X : Cx} {ca : Str → Addr} {EW : WX} {e : Expr} {es : List Expr} {tas : TA} {fas : Ea} {pos p : Pos}
theorem pe_callV {k : Nat} {f : Addr} {sp : Sp} {E : L2.St → XK} {x : Str} (F : FnV X.prog X.w X.K X.mg X.base k f sp) (hgd : X.A.guards = some []) (hr : Room k X.A) (hg : Gl X x) (hm : X.mg x = some (.ref f)) (hk : PySem.W.keepIn X.K (.ref f) = true) (hx : ∀ σ, PassesAt (L2.CX X.prog X.w) X σ (E σ))
    (ha : PA X (e :: es) tas) (hdb : (x == ("__debug__" : Str)) = false := by decide) (he : starEach (e :: es) X.env = (false, eval e X.env) :: starEach es X.env := by rfl) : PE X (.Call (.Name x p) (e :: es) [] pos) (tCallS sp E tas) := by
  have key : ∀ pins s σ H Q, L2.Inv X pins σ H s → (tCallS sp E tas) σ H Q → wpAny (model X.prog X.w) X.A (spliced (backTo pos (starEach (e :: es) X.env))) (fun us s1 => X.K.In s1.heap ∧ wpAny (model X.prog X.w) X.A (call (.ref f) ([] ++ us)) (EP X pins σ Q) X.xe s1) X.xe s := fun pins s σ H Q I h => by
    refine thn (ha.run pos pins s σ H _ I h) fun us s1 ⟨vs, H1, I1, r, q⟩ => ⟨I1.kIn, ?_⟩
    refine wpAny_call (codeAny_mono (F X.A X.stack s1 H1 us vs Q (E σ) hgd hr I1.env0 r q) fun r s' hq => ?_)
    cases r with
    | error e => exact hx σ pins H1 s1 e s' I1 hq
    | ok fl =>
      cases fl with
      | ret u => exact I1.after hq
      | next => exact False.elim hq
      | brk => exact False.elim hq
      | cont => exact False.elim hq
  refine ⟨fun pins s σ H Q I h => ?_⟩
  refine wpAny_Call_Name_kw (ld_glob I hg hm ?_ hdb)
  by_cases hst : (backTo pos (starEach es X.env)).any (·.1) = true
  · exact PySem.W.callWith_S2 (h₀ := X.base) I.ok.mod.kin hk (key pins s σ H Q I h) he hst
  · exact PySem.W.callWith_K (h₀ := X.base) I.ok.mod.kin hk (key pins s σ H Q I h) he (by simpa using hst)
theorem ke_dV (K : PySem.W.Frag) {P : Program} {w : World} {mg : Str → Option Value} {base : Heap} {j k : Nat} {x : Str} {fn : Fn} (d : DnV P w K mg base ca j x fn) (tk : Takes X EW) (hG : X.A.guards = some []) (hr : Room k X.A) (ha : FA X ca EW (e :: es) tas fas) (hj : j ≤ k := by decide) (hg : Gl X x := by rfl) (hdb : (x == ("__debug__" : Str)) = false := by decide)
    (he : starEach (e :: es) X.env = (false, eval e X.env) :: starEach es X.env := by rfl) (hK : X.K = K := by rfl) (hP : X.prog = P := by rfl) (hw : X.w = w := by rfl) (hmg : X.mg = mg := by rfl) (hb : X.base = base := by rfl) :
    FE X ca EW (.Call (.Name x p) (e :: es) [] pos) (tCallS (spV ⟨K, ca⟩ fn) (WE EW) tas) (fCallV fn fas) := by
  subst hK hP hw hmg hb
  obtain ⟨f, F, hm, hk⟩ := d.ex
  exact ⟨pe_callV F hG (hr.mono hj) hg hm hk (fun σ => passAt tk σ) ha.p hdb he, se_callV ha.s⟩
end
end FL

set_option Elab.async false
set_option linter.all false
set_option maxRecDepth 100000
set_option maxHeartbeats 4000000
set_option exponentiation.threshold 100000
/-! F20: max, min, sum of lists; sorted(dict). -/
namespace FL
open PySem PySem.Spec PyProof.Rows L2 GL
def intsD : List D → Option (List Int)
  | [] => some []
  | .int x :: ds => match intsD ds with
    | some xs => some (x :: xs)
    | none => none
  | _ => none
theorem intsD_map (xs : List Int) : intsD (xs.map D.int) = some xs := by
  induction xs with
  | nil => rfl
  | cons x xs ih => simp [intsD, ih]
theorem intsD_eq {ds : List D} {xs : List Int} (h : intsD ds = some xs) : ds = xs.map D.int := by
  induction ds generalizing xs with
  | nil => cases h; rfl
  | cons d ds ih =>
    cases d with
    | int x =>
      unfold intsD at h
      split at h
      · rename_i ys hy; cases h; rw [ih hy]; rfl
      · cases h
    | _ => cases h
theorem ints_rp {κ : Kx} {U : AS} {H : Hp} {vs : List V} {ds : List D} {xs : List Int} (r : RpA κ U H vs ds) (h : intsD ds = some xs) : vs = xs.map V.int := by
  have := intsD_eq h
  subst this
  clear h
  induction xs generalizing vs with
  | nil => cases r; rfl
  | cons x xs ih => cases r with | cons a b => cases a; rw [ih b]; rfl
def maxOf : List Int → Int
  | [] => 0
  | x :: xs => xs.foldl max x
theorem foldl_max (xs : List Int) (x : Int) : (xs.foldl max x ∈ x :: xs) ∧ ∀ y ∈ x :: xs, y ≤ xs.foldl max x := by
  induction xs generalizing x with
  | nil => simp
  | cons y ys ih =>
    obtain ⟨h1, h2⟩ := ih (max x y)
    simp only [List.foldl_cons]
    refine ⟨?_, fun z hz => ?_⟩
    · rcases List.mem_cons.mp h1 with h | h
      · rw [h]
        by_cases hxy : x ≤ y
        · rw [Int.max_eq_right hxy]; simp
        · rw [Int.max_eq_left (by omega)]; simp
      · simp [h]
    · have hm := h2 (max x y) (by simp)
      rcases List.mem_cons.mp hz with rfl | hz
      · omega
      · rcases List.mem_cons.mp hz with rfl | hz
        · omega
        · exact h2 z (by simp [hz])
def minOf : List Int → Int
  | [] => 0
  | x :: xs => xs.foldl min x
theorem foldl_min (xs : List Int) (x : Int) : (xs.foldl min x ∈ x :: xs) ∧ ∀ y ∈ x :: xs, xs.foldl min x ≤ y := by
  induction xs generalizing x with
  | nil => simp
  | cons y ys ih =>
    obtain ⟨h1, h2⟩ := ih (min x y)
    simp only [List.foldl_cons]
    refine ⟨?_, fun z hz => ?_⟩
    · rcases List.mem_cons.mp h1 with h | h
      · rw [h]
        by_cases hxy : x ≤ y
        · rw [Int.min_eq_left hxy]; simp
        · rw [Int.min_eq_right (by omega)]; simp
      · simp [h]
    · have hm := h2 (min x y) (by simp)
      rcases List.mem_cons.mp hz with rfl | hz
      · omega
      · rcases List.mem_cons.mp hz with rfl | hz
        · omega
        · exact h2 z (by simp [hz])
theorem maxOf_unique {ns : List Int} (h : 0 < ns.length) {m : Int} (h1 : m ∈ ns) (h2 : ∀ y, y ∈ ns → y ≤ m) : m = maxOf ns := by
  cases ns with
  | nil => cases h
  | cons x xs =>
    obtain ⟨a, b⟩ := foldl_max xs x
    have := h2 _ a
    have := b _ h1
    show m = xs.foldl max x
    omega
theorem minOf_unique {ns : List Int} (h : 0 < ns.length) {m : Int} (h1 : m ∈ ns) (h2 : ∀ y, y ∈ ns → m ≤ y) : m = minOf ns := by
  cases ns with
  | nil => cases h
  | cons x xs =>
    obtain ⟨a, b⟩ := foldl_min xs x
    have := h2 _ a
    have := b _ h1
    show m = xs.foldl min x
    omega
def numL (f : List Int → Option Int) : D → Option Tok
  | .lst ds => match intsD ds with
    | some ns => match f ns with
      | some m => some (.val (.int m))
      | none => none
    | none => none
  | _ => none
def some0 (g : List Int → Int) (ns : List Int) : Option Int := if ns.isEmpty = true then none else some (g ns)
abbrev maxL := numL (some0 maxOf)
abbrev minL := numL (some0 minOf)
abbrev sumL := numL fun ns => some ns.sum
section
variable {X : Cx} {ca : Str → Addr}
theorem numL_some {κ : Kx} {U : AS} {H : Hp} {f : List Int → Option Int} {x : V} {d : D} {tk : Tok} (h : Rb κ U H x d) (e : numL f d = some tk) : ∃ a ns m, x = .ref a ∧ SqL κ.K H a (ns.map V.int) ∧ f ns = some m ∧ tk = .val (.int m) := by
  unfold numL at e
  split at e
  · rename_i ds
    split at e
    · rename_i ns hn
      split at e
      · rename_i m hm
        cases e
        cases h with
        | lst h r => exact ⟨_, ns, m, rfl, ints_rp r hn ▸ .inl (.inl h), hm, rfl⟩
      · cases e
    · cases e
  · cases e
theorem some0_some {g : List Int → Int} {ns : List Int} {m : Int} (h : some0 g ns = some m) : 0 < ns.length ∧ m = g ns := by
  unfold some0 at h
  split at h
  · cases h
  · rename_i hn
    cases h
    exact ⟨by cases ns with | nil => simp at hn | cons => simp, rfl⟩
theorem fca_maxL (hc : X.calm = true) : FCa X ca (.builtin "max") (rMax X.K) (c1 maxL) := by
  refine ⟨cr_max hc, fun U H xs ds tk Q hs al hf q => ?_⟩
  replace hf := c1_some hf
  obtain ⟨d, rfl, hf⟩ := hf
  cases hs with
  | cons a b =>
    cases b
    obtain ⟨p, ns, m, rfl, h1, h2, rfl⟩ := numL_some a hf
    obtain ⟨h3, rfl⟩ := some0_some h2
    exact ⟨p, ns, rfl, h1, h3, fun m hm hy => maxOf_unique h3 hm hy ▸ q _ H .refl (.int _)⟩
theorem fca_minL (hc : X.calm = true) : FCa X ca (.builtin "min") (rMin X.K) (c1 minL) := by
  refine ⟨cr_min hc, fun U H xs ds tk Q hs al hf q => ?_⟩
  replace hf := c1_some hf
  obtain ⟨d, rfl, hf⟩ := hf
  cases hs with
  | cons a b =>
    cases b
    obtain ⟨p, ns, m, rfl, h1, h2, rfl⟩ := numL_some a hf
    obtain ⟨h3, rfl⟩ := some0_some h2
    exact ⟨p, ns, rfl, h1, h3, fun m hm hy => minOf_unique h3 hm hy ▸ q _ H .refl (.int _)⟩
theorem fca_sumL (hc : X.calm = true) : FCa X ca (.builtin "sum") (rSum X.K) (c1 sumL) := by
  refine ⟨cr_sum hc, fun U H xs ds tk Q hs al hf q => ?_⟩
  replace hf := c1_some hf
  obtain ⟨d, rfl, hf⟩ := hf
  cases hs with
  | cons a b =>
    cases b
    obtain ⟨p, ns, m, rfl, h1, h2, rfl⟩ := numL_some a hf
    cases h2
    exact ⟨p, ns, rfl, h1, q _ H .refl (.int _)⟩
theorem kca_maxL (K : PySem.W.Frag) (hc : X.calm = true) (hK : X.K = K := by rfl) : FCa X ca (.builtin "max") (rMax K) (c1 maxL) := by subst hK; exact fca_maxL hc
theorem kca_minL (K : PySem.W.Frag) (hc : X.calm = true) (hK : X.K = K := by rfl) : FCa X ca (.builtin "min") (rMin K) (c1 minL) := by subst hK; exact fca_minL hc
theorem kca_sumL (K : PySem.W.Frag) (hc : X.calm = true) (hK : X.K = K := by rfl) : FCa X ca (.builtin "sum") (rSum K) (c1 sumL) := by subst hK; exact fca_sumL hc
/-! ### sorted(dict) -/
def keysS : List (Key × D) → Option (List Str)
  | [] => some []
  | (.inr x, _) :: ds => match keysS ds with
    | some xs => some (x :: xs)
    | none => none
  | _ => none
def sortedK : D → Option Tok
  | .dct kvs => match keysS kvs with
    | some xs => if xs.length < 64 then some (.new (.lst ((sortS xs).map D.str))) else none
    | none => none
  | _ => none
theorem keysS_rp {κ : Kx} {U : AS} {H : Hp} {kvs : List (Key × V)} {ds : List (Key × D)} {xs : List Str} (r : RpK κ U H kvs ds) (h : keysS ds = some xs) : kvs.map (·.1) = xs.map Sum.inr := by
  induction ds generalizing kvs xs with
  | nil => cases r; cases h; rfl
  | cons d ds ih =>
    cases r with
    | @cons k v vs d ds a b =>
      cases k with
      | inl i => cases h
      | inr z =>
        unfold keysS at h
        split at h
        · rename_i ys hy
          cases h
          rw [List.map_cons, ih b hy]; rfl
        · cases h
theorem fca_sortedK (hc : X.calm = true) : FCa X ca (.builtin "sorted") rSortedDk (c1 sortedK) := by
  refine ⟨call_sortedD hc, fun U H xs ds tk Q hs al hf q => ?_⟩
  replace hf := c1_some hf
  obtain ⟨d, rfl, hf⟩ := hf
  cases hs with
  | cons a b =>
    cases b
    unfold sortedK at hf
    split at hf
    · split at hf
      · rename_i kvs zs hz
        split at hf
        · rename_i hl
          cases hf
          cases a with
          | dct h r =>
            refine ⟨_, _, zs, rfl, h, keysS_rp r hz, hl, fun ys p hp hs np => ?_⟩
            have e := sortS_unique hp (sorted_pairwise hs)
            subst e
            exact q _ _ (.new np) ⟨p, rfl, np, Mo.newL (rp_strs _) np⟩
        · cases hf
      · cases hf
    · cases hf
def sortedX := orC sortedD (c1 sortedK)
theorem kca_sortedX (K : PySem.W.Frag) (hc : X.calm = true) (hK : X.K = K := by rfl) : FCa X ca (.builtin "sorted") (orRC (orRC (rSortedS K) (rSortZ K)) rSortedDk) sortedX := (kca_sorted K hK).or (fca_sortedK hc)
end
end FL

set_option Elab.async false
set_option linter.all false
set_option maxRecDepth 100000
set_option maxHeartbeats 4000000
set_option exponentiation.threshold 100000
/-! F25: zip of a tuple with a list. -/
namespace FL
open PySem PySem.Spec PyProof.Rows L2 GL
def orIt (f g : ItF) : ItF := fun ds => match f ds with
  | some x => some x
  | none => g ds
section
variable {κ : Kx} {EW : WX} {tas : TA} {fas : Ea}
theorem si_or {w1 w2 : TI} {i1 i2 : ItF} (h1 : SI κ EW w1 fas i1) (h2 : SI κ EW w2 fas i2) : SI κ EW (fun σ H R => w1 σ H R ∨ w2 σ H R) fas (orIt i1 i2) := by
  intro U env σ H R I q
  cases e : fas env with
  | ok toks e1 =>
    cases e2 : srcOf i1 toks e1 with
    | some its =>
      refine .inl (h1 U env σ H R I ?_)
      rw [e] at q ⊢
      intro U' H' s I'
      obtain ⟨a, b⟩ := q U' H' s I'
      exact ⟨by rw [e2]; rfl, fun vs hv ds items hr hi J hJ => b vs hv ds items hr (by unfold orIt; rw [hi]) J hJ⟩
    | none =>
      refine .inr (h2 U env σ H R I ?_)
      rw [e] at q ⊢
      intro U' H' s I'
      obtain ⟨a, b⟩ := q U' H' s I'
      have no : ∀ ds, resAll toks e1 = some ds → i1 ds = none := fun ds hr => by
        unfold srcOf at e2
        rw [hr] at e2
        exact e2
      refine ⟨?_, fun vs hv ds items hr hi J hJ => b vs hv ds items hr (by unfold orIt; rw [no ds hr]; exact hi) J hJ⟩
      unfold srcOf at a ⊢
      cases hr : resAll toks e1 with
      | none => rw [hr] at a; exact a
      | some ds =>
        rw [hr] at a
        unfold orIt at a
        simp only [no ds hr] at a
        exact a
  | _ =>
    refine .inl (h1 U env σ H R I ?_)
    rw [e] at q ⊢
    exact q
def zipItM : ItF
  | [.tup xs, .lst ys] => some (zipL xs ys)
  | _ => none
def zipItB : ItF := orIt zipIt zipItM
theorem jok_zipM {a b : Addr} {ds es : List D} : JOk κ (GZ.ItM κ.K a b) [.ref a, .ref b] [.tup ds, .lst es] (zipL ds es) := by
  intro U H i hb al
  cases hb with
  | cons h1 hb =>
    cases hb with
    | cons h2 hb =>
      cases hb
      cases h1 with
      | tup h1 r1 =>
        cases h2 with
        | lst h2 r2 =>
          refine ⟨fun d hd => ?_, fun hl => ⟨_, _, h1.sq, .inl (.inl h2), by rw [zipL_len] at hl; rw [r1.len, r2.len]; omega⟩⟩
          obtain ⟨x, y, hx, hy, rfl⟩ := zipL_at hd
          obtain ⟨v, e1, rv⟩ := r1.at' hx
          obtain ⟨w, e2, rw'⟩ := r2.at' hy
          refine ⟨⟨_, _, v, w, h1.sq, .inl (.inl h2), e1, e2⟩, fun z H' hz => ?_⟩
          obtain ⟨T, x', y', rfl, nT, rfl, k1, k2⟩ := hz
          have q1 := k1 _ h1.sq
          have q2 := k2 _ (.inl (.inl h2))
          rw [e1] at q1; rw [e2] at q2; cases q1; cases q2
          exact ⟨.new nT, Rp.newT al (.cons rv (.cons rw' .nil)) nT⟩
theorem si_zipM (ha : SA κ EW tas fas) : SI κ EW (GZ.iZipM κ.K tas) fas zipItM := by
  refine si_many ha _ (fun σ H R h => h) fun ds items hit U H1 vs R rb k => ?_
  unfold zipItM at hit
  split at hit
  · cases hit
    cases rb with
    | cons a b =>
      cases b with
      | cons b c =>
        cases c
        cases a with
        | tup h1 r1 =>
          cases b with
          | lst h2 r2 => exact ⟨_, _, _, _, rfl, h1.sq, .inl (.inl h2), k _ jok_zipM⟩
  · cases hit
end
section
variable {X : Cx} {ca : Str → Addr} {EW : WX} {tg e : Expr} {es : List Expr} {tas : TA} {fas : Ea}
theorem ki_zipB (K : PySem.W.Frag) (h : FA X ca EW es tas fas) (k : PA X es tas → PI X tg e (RZ.iZipA X.K tas)) (k2 : PA X es tas → PI X tg e (GZ.iZipM X.K tas)) (hK : X.K = K := by rfl) :
    FI X ca EW tg e (fun σ H R => RZ.iZipA K tas σ H R ∨ GZ.iZipM K tas σ H R) fas zipItB := by
  subst hK
  exact ⟨pi_or (k h.p) (k2 h.p), si_or (si_zip h.s) (si_zipM h.s)⟩
end
end FL

set_option Elab.async false
set_option linter.all false
set_option maxRecDepth 100000
set_option maxHeartbeats 4000000
set_option exponentiation.threshold 100000
/-! F26: sorted() of a tuple of tuples with different first texts. -/
namespace FL
open PySem PySem.Spec PyProof.Rows L2 GL
section
variable {prog : Program} {w : World} {A : Around} {E : Value → Shared → Prop} {s : Shared}
theorem sorted_tupT {l : Addr} {vs : List Value} {ltv : Value → Value → Bool} {Q : Value → Shared → Prop} (O : SrtO.Swo ltv) (hl : s.heap.IsTuple l vs.toArray) (hz : vs.length ≤ sizeLine)
    (hS : 2 ≤ vs.length → ∀ (g : Heap) (a : Addr), g.get? a = some (seqObj "list" vs.toArray 0) → (∀ b o, s.heap.get? b = some o → b ≠ a ∧ g.get? b = some o) → SrtO.SortableO prog w A.in1.in1 { s with heap := g } a vs ltv)
    (h : ∀ (h1 h2 : Heap) (out : List Value) (n : Nat), (∀ b o, s.heap.get? b = some o → h1.get? b = some o) → (∀ b o, h1.get? b = some o → h2.get? b = some o) → h2.get? h1.objs.size = some (seqObj "list" out.toArray n) → SrtO.Srtd ltv out → SrtO.Stb ltv out vs → Q (.ref h1.objs.size) { s with heap := h2 }) :
    wpAny (model prog w) A (call (.builtin "sorted") [.ref l]) Q E s := by
  obtain ⟨ob, hob, cob, nb, dob⟩ := id hl
  refine Calls.call_function_entry kind_sorted plain_sorted entry_sorted (args_sorted1 _) ?_
  unfold Builtin.«sorted»
  refine wpAny_bind (m := checkCount "sorted" 1 1 _) (wpAny_pure (wpAny_bind (wpAny_collect_seq l (T := "tuple") (.inr rfl) hob cob dob (fun h1 k1 => ?_) (by rw [List.size_toArray]; exact hz))))
  have up : ∀ b o, h1.get? b = some o → b ≠ h1.objs.size ∧ (h1.push (seqObj "list" vs.toArray 0)).get? b = some o := fun b o q => ⟨Nat.ne_of_lt (Heap.lt_size q), Heap.get?_push_of_some _ q⟩
  have new : (h1.push (seqObj "list" vs.toArray 0)).get? h1.objs.size = some (seqObj "list" vs.toArray 0) := Heap.get?_push_size _ rfl
  refine wpAny_bind (wpAny_newList (items := vs.toArray.toList) ?_ (by simpa using hz))
  show wpAny _ _ _ _ _ { s with heap := h1.push (seqObj "list" vs.toArray 0) }
  refine wpAny_bind (wpAny_holding (wpAny_call_entry slot_list_sort ⟨_, new, rfl⟩ entry_list_sort (SrtO.list_sort_ord O new hz (fun h2 => hS h2 _ _ new fun b o q => up b o (k1 b o q)) fun out srt stb => ⟨_, rfl, ?_⟩) (args_list_sort _)))
  obtain ⟨e, at2⟩ := sortedHeap_at (out := out.toArray) new
  refine wpAny_pure ⟨_, rfl, h h1 _ out e k1 (fun b o q => ?_) at2 srt stb⟩
  rw [sortedHeap_old (up b o q).1 (by rw [size_push']; exact Nat.lt_succ_of_lt (Heap.lt_size q))]
  exact (up b o q).2
end
/-- sorted(xs), xs a tuple of tuples that begin with different texts -/
def rSortMT (K : PySem.W.Frag) : List V → Hp → VK → Prop := fun vs H Q => ∃ (a : Addr) (xs : List V) (nm : V → Str), vs = [V.ref a] ∧ SqT K H a xs ∧ (∀ x ∈ xs, ∃ t r, x = V.ref t ∧ SqT K H t (.str (nm x) :: r)) ∧
  (xs.map nm).Nodup ∧ ∀ ys p, ys.Perm xs → ys.Pairwise (fun x y => sLt (nm x) (nm y) = true) → H p = none → Q (.ref p) (upd H p (.lst ys))
section
variable {X : Cx} {ca : Str → Addr} {EW : WX}
theorem cr_sortMT : CallR X (.builtin "sorted") (rSortMT X.K) := by
  intro pins s σ H vs us Q I r h
  obtain ⟨a, xs, nm, rfl, hs, hx, nd, q⟩ := h
  obtain ⟨its, rv, hl, hz⟩ := I.tuple hs
  obtain ⟨u, rfl, ru⟩ := vals1 r
  obtain rfl : u = Value.ref a := ru
  obtain ⟨e1, e2⟩ := refs_back rv fun x m => (hx x m).imp fun t z => z.elim fun _ z => z.1
  have hp : ∀ v ∈ its, IsHead s.heap v (nm (backV v)) := fun v hv => by
    obtain ⟨t, rfl⟩ := e2 v hv
    have hm : V.ref t ∈ xs := by rw [e1]; exact List.mem_map.mpr ⟨_, hv, rfl⟩
    obtain ⟨t', rest, e, ht⟩ := hx _ hm
    cases e
    obtain ⟨jts, r2, ⟨o, ho, hc, n, hd⟩, _⟩ := I.tuple ht
    cases r2 with
    | cons p r3 =>
      obtain ⟨tk, rfl⟩ := p
      exact ⟨t, o, _, n, tk, _, rfl, ho, hc, hd, rfl⟩
  have inj : ∀ v ∈ its, ∀ u ∈ its, nm (backV v) = nm (backV u) → v = u := fun v hv u hu e => by
    obtain ⟨t, rfl⟩ := e2 v hv
    obtain ⟨t', rfl⟩ := e2 u hu
    have m1 : V.ref t ∈ xs := by rw [e1]; exact List.mem_map.mpr ⟨_, hv, rfl⟩
    have m2 : V.ref t' ∈ xs := by rw [e1]; exact List.mem_map.mpr ⟨_, hu, rfl⟩
    have := inj_of_nodup nd _ m1 _ m2 e
    cases this
    rfl
  refine sorted_tupT (ltv := fun v u => sLt (nm (backV v)) (nm (backV u))) (sLt_swo fun v => nm (backV v)) hl (by rw [← rv.length]; exact hz) (fun h2 h₁ b hb kk => ?_) fun h1 h2 out n k1 k2 a2 o1 o2 => ?_
  · refine heads_sortable (s := { s with heap := h₁ }) (by omega) (fun v hm => ?_) inj fun o e => ?_
    · obtain ⟨c, o, ys, n, t, r, e, ho, hc, hd, hx⟩ := hp v hm
      exact ⟨c, o, ys, n, t, r, e, (kk c o ho).2, hc, hd, hx⟩
    · rw [hb] at e
      cases e
      intro c
      exact absurd (Value.type.inj c) (by decide)
  · have h3 : ∀ u ∈ out, ∃ a, u = Value.ref a := fun u hu => e2 u (o2.perm.mem_iff.mp hu)
    have hpm : (out.map backV).Perm xs := by
      rw [e1]
      exact o2.perm.map backV
    have J := I.kept (h' := h1) (t' := s.toks) k1
    refine ⟨.ref h1.objs.size, upd H h1.objs.size (.lst (out.map backV)), J.laid (t' := s.toks) k2 (Nat.le_refl _) ⟨?_, out, n, vals_back h3, a2⟩, rfl, q _ _ hpm ?_ (J.hok.fresh (Nat.le_refl _))⟩
    · rw [hpm.length_eq]
      exact hz
    · have nd2 : ((out.map backV).map nm).Nodup := (hpm.map nm).nodup_iff.mpr nd
      have pw : (out.map backV).Pairwise fun x y => sLt (nm y) (nm x) = false := List.pairwise_map.mpr o1
      have pn : (out.map backV).Pairwise fun x y => nm x ≠ nm y := List.pairwise_map.mp nd2
      refine (pw.and pn).imp fun {x y} z => ?_
      cases e : sLt (nm x) (nm y) with
      | true => rfl
      | false => exact absurd (str_tri e z.1) z.2
def rSortZT (K : PySem.W.Frag) : List V → Hp → VK → Prop := fun vs H Q => ∃ (a : Addr) (xs : List V) (zs : List Str), vs = [V.ref a] ∧ SqT K H a xs ∧ xs.length = zs.length ∧ (∀ p ∈ xs.zip zs, ∃ t r, p.1 = V.ref t ∧ SqT K H t (.str p.2 :: r)) ∧
  zs.Nodup ∧ ∀ (l : List (V × Str)) p, l.Perm (xs.zip zs) → (l.map (·.2)).Pairwise (fun x y => sLt x y = true) → H p = none → Q (.ref p) (upd H p (.lst (l.map (·.1))))
theorem cr_sortZT : CallR X (.builtin "sorted") (rSortZT X.K) := by
  intro pins s σ H vs us Q I r h
  obtain ⟨a, xs, zs, rfl, hs, hl, hh, nd, q⟩ := h
  have e1 : (xs.zip zs).map (·.1) = xs := by rw [List.map_fst_zip (by omega)]
  have e2 : (xs.zip zs).map (·.2) = zs := by rw [List.map_snd_zip (by omega)]
  have uniq : ∀ x z z', (x, z) ∈ xs.zip zs → (x, z') ∈ xs.zip zs → z = z' := fun x z z' h1 h2 => by
    obtain ⟨t, r1, e1, q1⟩ := hh _ h1
    obtain ⟨t', r2, e2, q2⟩ := hh _ h2
    dsimp only at e1 e2 q1 q2
    rw [e1] at e2
    cases e2
    have := I.tuple_inj q1 q2
    simp only [List.cons.injEq, V.str.injEq] at this
    exact this.1
  obtain ⟨nm, hnm⟩ : ∃ nm : V → Str, ∀ p ∈ xs.zip zs, nm p.1 = p.2 := by
    classical
    refine ⟨fun x => if h : ∃ z, (x, z) ∈ xs.zip zs then h.choose else Str.empty, fun p hp => ?_⟩
    have h : ∃ z, (p.1, z) ∈ xs.zip zs := ⟨p.2, hp⟩
    dsimp only
    rw [dif_pos h]
    exact uniq _ _ _ h.choose_spec hp
  have em : xs.zip zs = xs.map fun x => (x, nm x) := by
    conv => rhs; rw [← e1]
    rw [List.map_map]
    conv => lhs; rw [← List.map_id (xs.zip zs)]
    exact List.map_congr_left fun p hp => by simp [hnm p hp]
  refine cr_sortMT pins s σ H [.ref a] us Q I r ⟨a, xs, nm, rfl, hs, fun x hx => ?_, ?_, fun ys p hp hw np => ?_⟩
  · rw [← e1] at hx
    obtain ⟨z, hz⟩ := zip_fst _ x hx
    obtain ⟨t, rr, e, q2⟩ := hh _ hz
    exact ⟨t, rr, e, by rw [hnm _ hz]; exact q2⟩
  · have : xs.map nm = zs := by
      have h2 := e2
      rw [em, List.map_map] at h2
      exact h2
    rw [this]; exact nd
  · have := q (ys.map fun x => (x, nm x)) p (by rw [em]; exact hp.map _) (by rw [List.map_map]; exact List.pairwise_map.mpr hw) np
    rw [List.map_map] at this
    have e3 : ys.map ((fun p : V × Str => p.1) ∘ fun x => (x, nm x)) = ys := by
      conv => rhs; rw [← List.map_id ys]
      exact List.map_congr_left fun _ _ => rfl
    rw [e3] at this
    exact this
def sortedMT : D → Option Tok
  | .tup ds => match headsS ds with
    | some xs => if xs.Nodup then some (.new (.lst (sortM ds))) else none
    | none => none
  | _ => none
theorem fca_sortedMT : FCa X ca (.builtin "sorted") (rSortZT X.K) (c1 sortedMT) := by
  refine ⟨cr_sortZT, fun U H xs ds tk Q hs al hf q => ?_⟩
  replace hf := c1_some hf
  obtain ⟨d, rfl, hf⟩ := hf
  cases hs with
  | cons a b =>
    cases b
    unfold sortedMT at hf
    split at hf
    · rename_i ds
      split at hf
      · rename_i zs hz
        split at hf
        · rename_i hn
          cases hf
          obtain ⟨e, hh⟩ := headsS_map hz
          subst e
          cases a with
          | tup h r =>
            rename_i vs
            refine ⟨_, vs, ds.map hd, rfl, h.sq, by rw [r.len, List.length_map], fun p hp => ?_, hn, fun l p hp hw np => ?_⟩
            · have e : vs.zip (ds.map hd) = (vs.zip ds).map fun p => (p.1, hd p.2) := by rw [List.zip_map_right]; rfl
              rw [e] at hp
              obtain ⟨pr, hpr, rfl⟩ := List.mem_map.mp hp
              have rp := r.pairs pr hpr
              have hm : pr.2 ∈ ds := (List.of_mem_zip hpr).2
              have h1 := hh _ hm
              unfold headS at h1
              split at h1
              · rename_i x rest heq
                rw [heq] at rp
                simp only
                generalize hw1 : pr.1 = w at rp
                cases rp with
                | tup ht ra =>
                  cases ra with
                  | cons a1 a2 =>
                    cases a1
                    simp only [Option.some.injEq] at h1
                    exact ⟨_, _, rfl, by rw [← h1]; exact ht.sq⟩
              · cases h1
            · have e : vs.zip (ds.map hd) = (vs.zip ds).map fun p => (p.1, hd p.2) := by rw [List.zip_map_right]; rfl
              rw [e] at hp
              obtain ⟨l3, p3, e3⟩ := perm_map hp _ rfl
              have r3 : RpA (kx X ca) U H (l3.map (·.1)) (l3.map (·.2)) := RpA.of_pairs fun pr hpr => r.pairs pr (p3.mem_iff.mp hpr)
              have d3 : (l3.map (·.2)).Perm ds := by
                have := p3.map (·.2)
                rw [List.map_snd_zip (by rw [r.len]; exact Nat.le_refl _)] at this
                exact this
              have e1 : l.map (·.1) = l3.map (·.1) := by rw [← e3, List.map_map]; rfl
              have e2 : l.map (·.2) = (l3.map (·.2)).map hd := by rw [← e3, List.map_map, List.map_map]; rfl
              rw [e2] at hw
              have := sortM_unique hn d3 hw
              rw [e1]
              rw [← this] at q
              exact q _ _ (.new np) ⟨p, rfl, np, Mo.newL r3 np⟩
        · cases hf
      · cases hf
    · cases hf
def sortedY := orC sortedX (c1 sortedMT)
theorem kca_sortedY (K : PySem.W.Frag) (hc : X.calm = true) (hK : X.K = K := by rfl) : FCa X ca (.builtin "sorted") (orRC (orRC (orRC (rSortedS K) (rSortZ K)) rSortedDk) (rSortZT K)) sortedY := (kca_sortedX K hc hK).or (by subst hK; exact fca_sortedMT)
end
end FL

set_option Elab.async false
set_option linter.all false
set_option maxRecDepth 100000
set_option maxHeartbeats 4000000
set_option exponentiation.threshold 100000
/-! F27: text.upper(), list.index, dict.pop, dict(pairs). -/
namespace FL
open PySem PySem.Spec PyProof.Rows L2 GL
/-! ### upper -/
def upperD : D → Option Tok
  | .str a => if a.length ≤ 1000000 then some (.val (.str (Txt.upper a))) else none
  | _ => none
abbrev rUpper : V → List V → Hp → VK → Prop := fun x xs H Q => ∃ a, x = .str a ∧ xs = [] ∧ a.length ≤ 5592405 ∧ Q (.str (Txt.upper a)) H
section
variable {κ : Kx} {EW : WX} {to te : TE} {fo fe : Ev} {tas : TA} {fas : Ea}
theorem se_upper (ho : SE κ EW to fo) : SE κ EW (tM0 rUpper to) (fUn upperD fo) := by
  refine se_un (r := fun x H Q => (∃ a, x = V.str a) ∧ rUpper x [] H Q) (fun U H x d tk Q hx al hf q => ?_) ho
  unfold upperD at hf
  split at hf
  · split at hf
    · rename_i a hl
      cases hf
      cases hx
      exact ⟨⟨a, rfl⟩, a, rfl, rfl, by omega, q _ H .refl (.str _)⟩
    · cases hf
  · cases hf
/-! ### index -/
def firstAt (ds : List D) (x : D) : Nat → Option Nat
  | 0 => none
  | n + 1 => match firstAt ds x n with
    | some j => some j
    | none => match ds[n]? with
      | some d => if eqF d x = true then some n else none
      | none => none
theorem firstAt_ok {ds : List D} {x : D} : ∀ {n j : Nat}, firstAt ds x n = some j → (∃ d, ds[j]? = some d ∧ eqF d x = true) ∧ ∀ m d, m < j → ds[m]? = some d → eqF d x = false
  | 0, j, h => by cases h
  | n + 1, j, h => by
    unfold firstAt at h
    cases e : firstAt ds x n with
    | some k =>
      rw [e] at h
      cases h
      exact firstAt_ok e
    | none =>
      rw [e] at h
      simp only at h
      split at h
      · rename_i d hd
        split at h
        · rename_i hq
          cases h
          refine ⟨⟨d, hd, hq⟩, fun m d' hm hd' => ?_⟩
          have no : ∀ {n m : Nat} {d' : D}, firstAt ds x n = none → m < n → ds[m]? = some d' → eqF d' x = false := by
            intro n
            induction n with
            | zero => intro m d' _ hm; omega
            | succ n ih =>
              intro m d' e hm hd'
              unfold firstAt at e
              cases e2 : firstAt ds x n with
              | some k => rw [e2] at e; cases e
              | none =>
                rw [e2] at e
                simp only at e
                by_cases hmn : m = n
                · subst hmn
                  rw [hd'] at e
                  simp only at e
                  split at e
                  · cases e
                  · rename_i hq2; exact Bool.eq_false_iff.mpr hq2
                · exact ih e2 (by omega) hd'
          exact no e hm hd'
        · cases h
      · cases h
def idxR (t : Option D) (ts : Option (List D)) : Option Tok := match t, ts with
  | some (.lst ds), some [x] => if flatD x = true ∧ ds.all flatD = true then (match firstAt ds x ds.length with
    | some j => some (.val (.int (j : Nat)))
    | none => none) else none
  | _, _ => none
def fIdx (fo : Ev) (fas : Ea) : Ev := fun env => (fo env).bind fun t e1 => if isLst (res t e1) = true then (fas e1).bind fun ts e2 => lift (idxR (res t e2) (resAll ts e2)) e2 else .bad
theorem se_idx (ho : SE κ EW to fo) (ha : SA κ EW tas fas) : SE κ EW (tBM κ.K "list" (rIndex κ.K) to tas) (fIdx fo fas) := by
  intro U env σ H Q I q
  refine ho U env σ H _ I (q.then.mono fun t e1 U1 H1 s1 I1 q1 x hx => ?_)
  by_cases hl : isLst (res t e1) = true
  · rw [if_pos hl] at q1
    refine ⟨isLst_ty I1 hx hl, ha U1 e1 σ H1 _ I1 ((q1.then.later I s1 I1).mono fun ts e2 U2 H2 s2 I2 q2 xs hxs nd => ?_)⟩
    have s12 := s1.trans I I1 s2
    obtain ⟨tk, et, q3⟩ := Ask.lift q2 I s12 I2
    unfold idxR at et
    split at et
    · rename_i ds x' e1' e2'
      split at et
      · rename_i hc
        split at et
        · rename_i j hj
          cases et
          have r1 := res_rb I2 (hx.step I1 s2) e1'
          have rA := resAll_rb I2 hxs e2'
          cases rA with
          | cons w1 w2 =>
            cases w2
            cases r1 with
            | lst h r =>
              obtain ⟨⟨d, hd, hq⟩, no⟩ := firstAt_ok hj
              obtain ⟨z, hz, rz⟩ := r.at' hd
              have fl : ∀ {i : Nat} {d : D}, ds[i]? = some d → flatD d = true := fun e => List.all_eq_true.mp hc.2 _ (List.mem_of_getElem? e)
              refine ⟨_, _, _, j, z, rfl, rfl, .inl (.inl h), by rw [flat_rb w1]; exact hc.1, by rw [flat_all r]; exact hc.2, hz, by rw [flat_eq rz w1 (fl hd) hc.1]; exact hq, fun m z' hm hz' => ?_, ?_⟩
              · have hl := (List.getElem?_eq_some_iff.mp hz').1
                rw [r.len] at hl
                have hd' := List.getElem?_eq_getElem hl
                obtain ⟨z2, hz2, rz2⟩ := r.at' hd'
                rw [hz'] at hz2
                cases hz2
                rw [flat_eq rz2 w1 (fl hd') hc.1]
                exact no m _ hm hd'
              · obtain ⟨U3, y1, y2⟩ := q3 (.int (j : Nat)) H2 .refl (.int _)
                exact y2 _ y1
        · cases et
      · cases et
    · cases et
  · rw [if_neg hl] at q1; exact q1.elim
/-! ### d.pop(k) -/
def dropD (kvs : List (Key × D)) (k : Key) : List (Key × D) := kvs.filter fun kv => decide (kv.1 ≠ k)
theorem RpK.drop {S : AS} {H : Hp} {kvs : List (Key × V)} {ds : List (Key × D)} {k : Key} (h : RpK κ S H kvs ds) : RpK κ S H (dropK kvs k) (dropD ds k) := by
  induction ds generalizing kvs with
  | nil => cases h; exact .nil
  | cons d ds ih =>
    cases h with
    | @cons k' v vs d' _ a b =>
      unfold dropK dropD
      by_cases e : k' = k
      · rw [List.filter_cons_of_neg (by simp [e]), List.filter_cons_of_neg (by simp [e])]
        exact ih b
      · rw [List.filter_cons_of_pos (by simp [e]), List.filter_cons_of_pos (by simp [e])]
        exact .cons a (ih b)
def mDPop : Mf
  | .dct kvs, [x] => match keyOf x with
    | some k => match getD' kvs k with
      | some y => some (.dct (dropD kvs k), y)
      | none => none
    | none => none
  | _, _ => none
abbrev rDPop : V → List V → Hp → VK → Prop := fun x xs H Q => ∃ a y kvs k v, x = V.ref a ∧ xs = [y] ∧ H a = some (.dK kvs) ∧ y = kV k ∧ valV kvs k = some v ∧ Q v (upd H a (.dK (dropK kvs k)))
theorem key_rp {U : AS} {H : Hp} {v : V} {d : D} {k : Key} (h : Rp κ U H v d) (e : keyOf d = some k) : v = kV k := by
  unfold keyOf at e
  split at e
  · cases e; cases h; rfl
  · cases e; cases h; rfl
  · cases e
theorem mt_dpop : MtM' κ rDPop mDPop := by
  intro U H a d d' y xs ds Q u mo rp h q
  unfold mDPop at h
  split at h
  · split at h
    · rename_i kvs x k hk
      split at h
      · rename_i z hz
        cases h
        cases mo with
        | dct hx r =>
          cases rp with
          | cons p1 p2 =>
            cases p2
            rcases r.get k with ⟨w, z', g1, g2, g3⟩ | ⟨g1, g2⟩
            · rw [hz] at g2
              cases g2
              refine ⟨a, _, _, k, w, rfl, rfl, hx, key_rp p1 hk, g1, q _ _ (.dct upd_same (((r.sub plus_sub).drop).upd u)) ?_⟩
              exact (g3.sub plus_sub).upd u
            · rw [hz] at g2; cases g2
      · cases h
    · cases h
  · cases h
def fDPop (fo fe : Ev) : Ev := fun env => (fo env).bind fun t e1 => if isDct (res t e1) = true then (fe e1).bind fun u e2 => mutS mDPop t (keepAll [u] e2) else .bad
theorem se_dpop (ho : SE κ EW to fo) (he : SE κ EW te fe) : SE κ EW (tDPop1 to te) (fDPop fo fe) := by
  intro U env σ H Q I q
  refine ho U env σ H _ I (q.then.mono fun t e1 U1 H1 s1 I1 q1 x hx => ?_)
  by_cases hl : isDct (res t e1) = true
  · rw [if_pos hl] at q1
    have rb : ∃ a kvs, x = V.ref a ∧ Rd H1 a (.dK kvs) := by
      unfold isDct at hl
      split at hl
      · rename_i kvs e
        have := res_rb I1 hx e
        cases this with
        | dct h r => exact ⟨_, _, rfl, h⟩
      · cases hl
    obtain ⟨a, kvs, rfl, hd⟩ := rb
    refine ⟨a, rfl, .inl ⟨kvs, hd⟩, he U1 e1 σ H1 _ I1 ((q1.then.later I s1 I1).mono fun u e2 U2 H2 s2 I2 q2 y hy => ?_)⟩
    obtain ⟨j, rfl⟩ := tok_slot q2
    have nd : (newRefs [y] [u]).Nodup := by cases u <;> simp [newRefs]
    obtain ⟨a', y', kvs', k, v, z1, z2, z3, z4, z5, z6⟩ := mut_core (xs := [y]) mt_dpop I (s1.trans I I1 s2) I2 hx (.cons (hy.from s1.th) .nil) nd q2
    cases z1
    cases z2
    exact ⟨kvs', k, v, z3, z4, z5, z6⟩
  · rw [if_neg hl] at q1; exact q1.elim
/-! ### dict(pairs) -/
def pairsD : List D → Option (List (Key × D))
  | [] => some []
  | .tup [x, y] :: ds => match keyOf x, pairsD ds with
    | some k, some kvs => some ((k, y) :: kvs)
    | _, _ => none
  | _ => none
def mergeD (acc more : List (Key × D)) : List (Key × D) := more.foldl (fun acc kv => putD acc kv.1 kv.2) acc
theorem RpK.merge {S : AS} {H : Hp} {more : List (Key × V)} {ms : List (Key × D)} (h : RpK κ S H more ms) : ∀ {kvs : List (Key × V)} {ds : List (Key × D)}, RpK κ S H kvs ds → RpK κ S H (mergeK kvs more) (mergeD ds ms) := by
  induction ms generalizing more with
  | nil => intro kvs ds r; cases h; exact r
  | cons m ms ih =>
    intro kvs ds r
    cases h with
    | cons a b => exact ih b (r.put a)
theorem pairs_rp {U : AS} {H : Hp} : ∀ {vs : List V} {ds : List D} {kvs : List (Key × D)}, RpA κ U H vs ds → pairsD ds = some kvs → ∃ (ps : List Addr) (ws : List (Key × V)), vs = ps.map V.ref ∧ PySem.Paired (fun p (kv : Key × V) => SqT κ.K H p [kV kv.1, kv.2]) ps ws ∧ RpK κ U H ws kvs
  | _, [], _, h, e => by
    cases h
    cases e
    exact ⟨[], [], rfl, .nil, .nil⟩
  | _, d :: ds, kvs, h, e => by
    unfold pairsD at e
    split at e
    · rename_i heq; cases heq
    · rename_i x y ds' heq
      cases heq
      split at e
      · rename_i k kvs' hk hp
        cases e
        cases h with
        | cons a b =>
          obtain ⟨ps, ws, e1, e2, e3⟩ := pairs_rp b hp
          subst e1
          cases a with
          | tup ht r =>
            cases r with
            | cons r1 r2 =>
              cases r2 with
              | cons r2 r3 =>
                cases r3
                have ek := key_rp r1 hk
                subst ek
                exact ⟨_ :: ps, (k, _) :: ws, rfl, .cons ht.sq e2, .cons r2 e3⟩
      · cases e
    · cases e
def dictP : D → Option Tok
  | .lst ds => match pairsD ds with
    | some kvs => some (.new (.dct (mergeD [] kvs)))
    | none => none
  | _ => none
abbrev rDictPs (K : PySem.W.Frag) : List V → Hp → VK → Prop := fun xs H Q => ∃ (a : Addr) (ps : List Addr) (kvs : List (Key × V)), xs = [.ref a] ∧ SqL K H a (ps.map V.ref) ∧ Paired (fun p kv => SqT K H p [kV kv.1, kv.2]) ps kvs ∧ ∀ p, H p = none → Q (.ref p) (upd H p (.dK (mergeK [] kvs)))
end
section
variable {X : Cx} {ca : Str → Addr} {EW : WX} {e o b : Expr} {es : List Expr} {to te : TE} {fo fe : Ev} {tas : TA} {fas : Ea}
theorem fca_dictP (hc : X.calm = true) : FCa X ca (.type "dict") (rDictPs X.K) (c1 dictP) := by
  refine ⟨call_dictP hc, fun U H xs ds tk Q hs al hf q => ?_⟩
  replace hf := c1_some hf
  obtain ⟨d, rfl, hf⟩ := hf
  cases hs with
  | cons a b =>
    cases b
    unfold dictP at hf
    split at hf
    · split at hf
      · rename_i ds kvs hk
        cases hf
        cases a with
        | lst h r =>
          obtain ⟨ps, ws, e1, e2, e3⟩ := pairs_rp r hk
          subst e1
          exact ⟨_, ps, ws, rfl, .inl (.inl h), e2, fun p np => q _ _ (.new np) ⟨p, rfl, np, Mo.newK (e3.merge .nil) np⟩⟩
      · cases hf
    · cases hf
theorem kca_dictP (K : PySem.W.Frag) (hc : X.calm = true) (hK : X.K = K := by rfl) : FCa X ca (.type "dict") (rDictPs K) (c1 dictP) := by subst hK; exact fca_dictP hc
theorem fe_upper (ho : FE X ca EW o to fo) (k : PE X o to → PE X e (tM0 rUpper to)) : FE X ca EW e (tM0 rUpper to) (fUn upperD fo) := ⟨k ho.p, se_upper ho.s⟩
theorem ke_idx (K : PySem.W.Frag) (ho : FE X ca EW o to fo) (ha : FA X ca EW es tas fas) (k : PE X o to → PA X es tas → PE X e (tBM X.K "list" (rIndex X.K) to tas)) (hK : X.K = K := by rfl) : FE X ca EW e (tBM K "list" (rIndex K) to tas) (fIdx fo fas) := by subst hK; exact ⟨k ho.p ha.p, se_idx ho.s ha.s⟩
theorem fe_dpop (ho : FE X ca EW o to fo) (hb : FE X ca EW b te fe) (k : PE X o to → PE X b te → PE X e (tDPop1 to te)) : FE X ca EW e (tDPop1 to te) (fDPop fo fe) := ⟨k ho.p hb.p, se_dpop ho.s hb.s⟩
end
end FL

set_option Elab.async false
set_option linter.all false
set_option maxRecDepth 100000
set_option maxHeartbeats 4000000
set_option exponentiation.threshold 100000
/-! F28: comprehensions over the keys of a dict; displays of dicts. -/
namespace FL
open PySem PySem.Spec PyProof.Rows L2 GL
section
variable {κ : Kx} {EW : WX} {U U0 U1 U2 : AS} {env env0 env1 env2 : Env} {σ σ0 σ1 σ2 : L2.St} {H H1 H2 Hs : Hp} {tt : TT} {ft : Et} {te tv : TE} {fe fv : Ev}
/-! ### {"a": v} -/
def fDisp1 (x : Str) (fv : Ev) : Ev := fun env => (fv env).noErr.bind fun u e1 => match keepT u e1 with
  | some (d, e2) => .ok (.new (.dct [(.inr x, d)])) e2
  | none => .bad
theorem se_disp1 {x : Str} (hv : SE κ W0 tv fv) : SE κ EW (tDisp [(tC (.str x), tv)]) (fDisp1 x fv) := by
  intro U env σ H Q I q p np
  show tv σ (upd H p (.dK [])) fun y H2 => H2 p = some (.dK []) ∧ ∃ kvs : List (Key × V), [(V.str x, y)] = kvs.map (fun kv => (kV kv.1, kv.2)) ∧ kvs.length ≤ 15 ∧ Q (.ref p) (upd H2 p (.dK (mergeK [] kvs)))
  unfold fDisp1 at q
  cases hres : fv env with
  | err e e1 => rw [hres] at q; exact q.elim
  | bad => rw [hres] at q; exact q.elim
  | ok t e1 =>
    rw [hres, Res.noErr_ok, Res.bind_ok] at q
    cases hk : keepT t e1 with
    | none => rw [hk] at q; exact q.elim
    | some de =>
      obtain ⟨d, e2⟩ := de
      rw [hk] at q
      have m0 : Mo κ U (upd H p (.dK [])) p (.dct []) := Mo.newK .nil np
      have gr : Grow H (upd H p (.dK [])) := .new np
      have I2 := I.plus np gr m0.there
      have nu : ¬ U p := fun z => I.al _ z np
      refine hv (plus U p) env σ _ _ I2 ?_
      rw [hres]
      intro U1 H1 s1 I1 y hy
      obtain ⟨U3, s3, I3, r3, _, _⟩ := keep_ok I2 s1 I1 hy hk
      obtain ⟨b1, b2, b3⟩ := s3.mo I2 (.inr rfl) (I.fresh np) (m0.sub fun b z => z)
      cases b3 with
      | dct hx rx =>
        cases rx
        refine ⟨hx, [(.inr x, y)], rfl, (by show 1 ≤ 15; decide), ?_⟩
        have st := (StepD.of I2 (.inr rfl) (I.fresh np) s3).put (o := .dK [(.inr x, y)])
        have st : Step (less (plus U p) p) env σ (hide (upd H p (.dK [])) p) U3 e2 σ (upd H1 p (.dK [(.inr x, y)])) := st
        rw [less_plus' nu, hide_upd np] at st
        exact q U3 _ st (I3.float b1 b2) _ ⟨p, rfl, np, b1, b2, .dct upd_same ((RpK.cons r3 .nil).upd b1)⟩
/-! ### a locked dict -/
/-- the object of a locked slot is laid otherwise -/
theorem relock {j : Nat} {p : Bool} {a : Addr} {o : HO} {kvs : List (Key × V)} {ds : List (Key × D)} (I : Inv κ U env σ H) (hj : env[j]? = some (some (.lok p (.dct ds)))) (sl : σ[j]? = some (some (.ref a))) (r : RpK κ U H kvs ds) (ho : Rd (upd H a o) a (.dK kvs)) : Inv κ U env σ (upd H a o) := by
  obtain ⟨w, e1, b, rfl, u, _⟩ := I.at' j _ hj
  rw [sl] at e1
  cases e1
  have kU : Kp U U H (L2.upd H a o) := fun b w nb z => ⟨nb, by rw [upd_ne]; exact z; rintro rfl; exact nb u⟩
  have hl := (List.getElem?_eq_some_iff.mp hj).1
  have I0 : Inv κ U (env.set j none) σ H := by
    refine ⟨by simp [I.len], I.al, fun i e h => ?_, fun i l e f b h1 h2 => ?_⟩
    · rcases getset h with ⟨_, _, z⟩ | ⟨_, z⟩
      · cases z
      · exact I.at' i e z
    · rcases getset h1 with ⟨_, _, z⟩ | ⟨_, z1⟩
      · cases z
      · rcases getset h2 with ⟨_, _, z⟩ | ⟨_, z2⟩
        · cases z
        · exact I.sep i l e f b z1 z2
  have n0 : ¬ OwnOf (env.set j none) σ a := by
    rintro ⟨i, e, h1, h2, h3⟩
    rcases getset h1 with ⟨_, _, z⟩ | ⟨ne, z⟩
    · cases z
    · exact I.sep i j e _ a z hj ne h2 rfl h3 sl
  have I1 := I0.float (o := o) u n0
  refine ⟨I.len, I1.al, fun i e h => ?_, I.sep⟩
  by_cases ij : i = j
  · subst ij
    rw [hj] at h
    cases h
    exact ⟨_, sl, a, rfl, u, .dct ho (r.imp kU)⟩
  · exact I1.at' i e (by rw [List.getElem?_set_ne (Ne.symm ij)]; exact h)
/-- the same steps, with the object of a locked slot as it was -/
theorem restep {j : Nat} {p : Bool} {a : Addr} {o : HO} {u : HO} {ds : List (Key × D)} (ha : H a = some u) (hj : env[j]? = some (some (.lok p (.dct ds)))) (s : Step U env σ (upd H a o) U1 env1 σ H1) : Step U env σ H U1 env1 σ (upd H1 a u) where
  keep := fun b w n e => by
    by_cases z : b = a
    · subst z
      rw [ha] at e
      cases e
      exact upd_same
    · rw [upd_ne z]
      exact s.keep b w n (by rw [upd_ne z]; exact e)
  th := fun b h => by
    by_cases z : b = a
    · subst z; rw [upd_same]; simp
    · rw [upd_ne z]; exact s.th b (by rw [upd_ne z]; exact h)
  grow := fun b h => (s.grow b h).imp id fun z => by
    by_cases e : b = a
    · subst e; rw [upd_same] at z; cases z
    · rw [upd_ne e] at z; exact z
  growO := fun b h => (s.growO b h).imp id fun z => by
    by_cases e : b = a
    · subst e; rw [upd_same] at z; cases z
    · rw [upd_ne e] at z; exact z
  ug := fun b h => (s.ug b h).imp id fun z => by
    by_cases e : b = a
    · subst e; rw [upd_same] at z; cases z
    · rw [upd_ne e] at z; exact z
  un := s.un
  par := s.par
  lok := s.lok
theorem turnsK {α : Type} {mk : α → D} {fb : α → Env → Res α} {tb : TB} {J : It} {p : Addr} {g : TG} {G : Gf} {ws vs : List Nat} {its : List D} {a : Addr} {o : HO} {acc0 accF : α} {envF : Env} {Fin : Hp → Prop}
    (Iw : Inv κ U env (wipe σ vs) H) (ee : ∀ i e, env[i]? = some (some e) → i ∉ vs) (ha : H a = some o) (na : a ≠ p) (nm : ¬ MutOf env (wipe σ vs) a) (u : U p) (no : ¬ OwnOf env (wipe σ vs) p) (m : Mo κ U H p (mk acc0)) (hJ : ∀ (U : AS) (H : Hp) (i : Nat), H a = some o → (∀ d, its[i]? = some d → J.go i H ∧ ∀ x H', J.yld i H x H' → Grow H H' ∧ Rp κ U H' x d) ∧ (its.length ≤ i → J.stop i H))
    (hg : SG κ g G ws) (hv : ∀ k ∈ ws, k ∈ vs) (ht : ST κ W0 tt ft) (hb : SB κ p mk tb fb) (hf : turnsF G ft fb vs its acc0 env = .ok accF envF)
    (hfin : ∀ U' H', Inv κ U' envF (wipe σ vs) H' → StepD p U env (wipe σ vs) H U' envF (wipe σ vs) H' → U' p → ¬ OwnOf envF (wipe σ vs) p → Mo κ U' H' p (mk accF) → Fin H') :
    ∃ W : Nat → Nat → Hp → Prop, (∃ m, W 0 m H) ∧ ∀ i m H, W i m H → (J.stop i H ∧ Fin H) ∨ (J.go i H ∧ ∃ Nx : Hp → Prop, (∀ H', Nx H' → ∃ m', m' < m ∧ W (i + 1) m' H') ∧ ∀ x H', J.yld i H x H' →
      g x (wipe σ vs) H' fun σ2 H2 => wipe σ2 vs = wipe σ vs ∧ tt σ2 H2 fun b H3 => if b = true then tb σ2 H3 Nx else Nx H3) := by
  refine ⟨fun i m H' => m = its.length - i ∧ i ≤ its.length ∧ ∃ U' env' acc, Inv κ U' env' (wipe σ vs) H' ∧ StepD p U env (wipe σ vs) H U' env' (wipe σ vs) H' ∧ U' p ∧ ¬ OwnOf env' (wipe σ vs) p ∧ Mo κ U' H' p (mk acc) ∧ turnsF G ft fb vs (its.drop i) acc env' = .ok accF envF,
    ⟨_, rfl, Nat.zero_le _, U, env, acc0, Iw, .refl, u, no, m, hf⟩, ?_⟩
  rintro i m H2 ⟨rfl, hle, U2, e2, acc, I2, s2, u2, no2, m2, hf⟩
  have s2' : Step (less U p) env (wipe σ vs) (hide H p) U2 e2 (wipe σ vs) H2 := s2
  obtain ⟨jg, js⟩ := hJ U2 H2 i (s2'.keep a o nm (by rw [hide_ne na]; exact ha))
  by_cases hlt : i < its.length
  · right
    obtain ⟨go, yl⟩ := jg its[i] (List.getElem?_eq_getElem hlt)
    rw [List.drop_eq_getElem_cons hlt] at hf
    unfold turnsF at hf
    split at hf
    · cases hf
    · rename_i e3 hG
      obtain ⟨x, e4, hft, hf⟩ := ok_bind hf
      have hft := ok_noErr hft
      refine ⟨go, fun H' => ∃ U' env' acc, Inv κ U' env' (wipe σ vs) H' ∧ StepD p U env (wipe σ vs) H U' env' (wipe σ vs) H' ∧ U' p ∧ ¬ OwnOf env' (wipe σ vs) p ∧ Mo κ U' H' p (mk acc) ∧ turnsF G ft fb vs (its.drop (i + 1)) acc env' = .ok accF envF, fun H' h => ⟨its.length - (i + 1), by omega, rfl, hlt, h⟩, fun y H3 hy => ?_⟩
      obtain ⟨gr, ry⟩ := yl y H3 hy
      have I3 := I2.grow gr
      have sg := Step.grown (U := U2) (env := e2) (σ := wipe σ vs) gr
      refine hg U2 e2 (wipe σ vs) H3 U2 e2 (wipe σ vs) H3 y (.val its[i]) _ I3 .refl I3 ry ?_
      rw [hG]
      intro U4 σ4 H4 s4 I4 a4
      have hw : wipe σ4 vs = wipe σ vs := agr_wipe (a4.mono hv)
      refine ⟨hw, ht U4 e3 σ4 H4 _ I4 ?_⟩
      rw [hft]
      intro U5 H5 s5 I5
      have c45 := sg.trans I2 I3 (s4.trans I3 I4 s5)
      obtain ⟨a1, a2, a3⟩ := c45.mo I2 u2 no2 m2
      have d5 : StepD p U env (wipe σ vs) H U5 e4 σ4 H5 := StepD.trans Iw u no I2 u2 no2 s2 (.of I2 u2 no2 c45)
      cases x with
      | false =>
        obtain ⟨t1, t2, t3⟩ := wipe_turn d5 I5 ee hw a2
        exact ⟨U5, _, acc, t2, t1, a1, t3, a3, hf⟩
      | true =>
        have hf : ((fb acc e4).bind fun acc' e5 => turnsF G ft fb vs (its.drop (i + 1)) acc' (wipeE e5 vs)) = .ok accF envF := hf
        obtain ⟨acc', e6, hf1, hf2⟩ := ok_bind hf
        refine hb U5 e4 σ4 H5 acc acc' e6 _ I5 a1 a2 a3 hf1 fun U6 H6 I6 s6 u6 no6 m6 => ?_
        obtain ⟨t1, t2, t3⟩ := wipe_turn (StepD.trans Iw u no I5 a1 a2 d5 s6) I6 ee hw no6
        exact ⟨U6, _, acc', t2, t1, u6, t3, m6, hf2⟩
  · left
    have hi : i = its.length := by omega
    subst hi
    rw [List.drop_length] at hf
    cases hf
    exact ⟨js (Nat.le_refl _), hfin U2 H2 I2 s2 u2 no2 m2⟩
def keyD : Key → D
  | .inl i => .int i
  | .inr x => .str x
def Ent.isPar : Ent → Bool
  | .par _ => true
  | _ => false
/-- [.. for x in d if ..], d a slot -/
def fLcK (j : Nat) (G : Gf) (ft : Et) (fe : Ev) (vs : List Nat) : Ev := fun env => match env[j]? with
  | some (some e) => match e.val with
    | .dct ds => if e.mut = true ∧ clear vs (env.set j (some (.lok e.isPar (.dct ds)))) = true then
        (((turnsF G ft (lcB fe) vs (ds.map fun kv => keyD kv.1) [] (wipeE (env.set j (some (.lok e.isPar (.dct ds)))) vs)).noErr.map (rest vs (env.set j (some (.lok e.isPar (.dct ds)))))).map (unlock j)).bind fun acc e => .ok (.new (.lst acc)) e else .bad
    | _ => .bad
  | _ => .bad
theorem key_rpD {U : AS} {H : Hp} (k : Key) : Rp κ U H (kV k) (keyD k) := by
  cases k with
  | inl i => exact .int i
  | inr x => exact .str x
theorem rpK_at {U : AS} {H : Hp} {kvs : List (Key × V)} {ds : List (Key × D)} (h : RpK κ U H kvs ds) : kvs.map (·.1) = ds.map (·.1) := by
  induction ds generalizing kvs with
  | nil => cases h; rfl
  | cons d ds ih => cases h with | cons a b => simp [ih b]
theorem se_lcK {j : Nat} {g : TG} {G : Gf} {ws vs : List Nat} (hg : SG κ g G ws) (hv : ∀ k ∈ ws, k ∈ vs) (ht : ST κ W0 tt ft) (he : SE κ W0 te fe) : SE κ EW (tLockE (tLc (iKeys (tVar j)) g tt te vs)) (fLcK j G ft fe vs) := by
  intro U env σ H Q I q
  unfold fLcK at q
  split at q
  · rename_i e hj
    split at q
    · rename_i ds hval
      split at q
      · rename_i hc
        obtain ⟨hmut, hcl⟩ := hc
        generalize hL : env.set j (some (.lok e.isPar (.dct ds))) = eL at q hcl
        have hjw : env[j]? = some (some (if e.isPar = true then .par (.dct ds) else .own (.dct ds))) := by
          rw [hj]
          cases e with
          | frz d => cases hmut
          | own d => cases hval; rfl
          | par d => cases hval; rfl
          | lok b d => cases hmut
        obtain ⟨a, L⟩ := lock_inv I hjw
        rw [hL] at L
        obtain ⟨w, sl, r⟩ := I.at' j e hj
        obtain ⟨a', rfl, u, mo⟩ := r.mo hmut
        have ea : a' = a := by
          have := L.sl
          rw [sl] at this
          cases this
          rfl
        subst ea
        rw [hval] at mo
        cases mo with
        | dct hx rx =>
          rename_i kvs
          cases hres : turnsF G ft (lcB fe) vs (ds.map fun kv => keyD kv.1) [] (wipeE eL vs) with
          | err x e1 => rw [hres] at q; exact q.elim
          | bad => rw [hres] at q; exact q.elim
          | ok accG envG =>
            rw [hres] at q
            have hlen := (List.getElem?_eq_some_iff.mp hj).1
            have lk : eL[j]? = some (some (.lok e.isPar (.dct ds))) := by rw [← hL, List.getElem?_set_self hlen]
            have rU : RpK κ U H kvs ds := rx.sub plus_sub
            refine ⟨a', .dK kvs, hx, trivial, fun od => ?_⟩
            have IL : Inv κ U eL σ (upd H a' (.frz od (.dK kvs))) := relock L.inv lk sl rU (.inr ⟨od, upd_same⟩)
            have nmL : ¬ MutOf eL σ a' := by
              rintro ⟨i, f, h1, h2, h3⟩
              by_cases ij : i = j
              · subst ij; rw [lk] at h1; cases h1; cases h2
              · exact IL.sep i j f _ a' h1 lk ij (Ent.own_of_mut h2) rfl h3 sl
            refine ⟨_, sl, a', od, rfl, .inl ⟨kvs, upd_same, fun Dd hD => ?_⟩⟩
            have nD : a' ≠ Dd := fun z => by rw [← z, upd_same] at hD; cases hD
            have m0 : Mo κ U (upd (upd H a' (.frz od (.dK kvs))) Dd (.lst [])) Dd (.lst []) := Mo.newL .nil hD
            have gr : Grow (upd H a' (.frz od (.dK kvs))) (upd (upd H a' (.frz od (.dK kvs))) Dd (.lst [])) := .new hD
            have I2 := IL.plus hD gr m0.there
            have nu : ¬ U Dd := fun z => IL.al _ z hD
            have ow : ∀ b, OwnOf (wipeE eL vs) (wipe σ vs) b → OwnOf eL σ b := by
              rintro b ⟨i, e, q1, q2, q3⟩
              obtain ⟨h1, h2⟩ := wipeE_some q1
              rw [wipe_out' h2] at q3
              exact ⟨i, e, h1, q2, q3⟩
            have mw : ∀ b, MutOf (wipeE eL vs) (wipe σ vs) b → MutOf eL σ b := by
              rintro b ⟨i, e, q1, q2, q3⟩
              obtain ⟨h1, h2⟩ := wipeE_some q1
              rw [wipe_out' h2] at q3
              exact ⟨i, e, h1, q2, q3⟩
            refine turnsK (p := Dd) (mk := D.lst) (a := a') (o := .frz od (.dK kvs)) I2.wipe (fun i e h => (wipeE_some h).2) (by rw [upd_ne nD]; exact upd_same) nD (fun z => nmL (mw _ z)) (.inr rfl) (fun z => IL.fresh hD (ow _ z)) (m0.sub fun b z => z) (fun U H i hh => ?_) hg hv ht (sb_lc he) hres fun U' H' I' s' u' no' m' => ?_
            · have el : kvs.length = ds.length := by
                have := congrArg List.length (rpK_at rU)
                simpa using this
              refine ⟨fun d hd => ?_, fun hi => ⟨hh, by rw [List.length_map] at hi; omega⟩⟩
              rw [List.getElem?_map] at hd
              obtain ⟨kv, hkv, rfl⟩ := Option.map_eq_some_iff.mp hd
              have hil := (List.getElem?_eq_some_iff.mp hkv).1
              refine ⟨⟨hh, by omega⟩, fun x H' hy => ?_⟩
              obtain ⟨rfl, k, v, e1, rfl⟩ := hy
              have e2 : (kvs.map (·.1))[i]? = (ds.map (·.1))[i]? := by rw [rpK_at rU]
              rw [List.getElem?_map, List.getElem?_map, e1, hkv] at e2
              have e3 : k = kv.1 := by simpa using e2
              rw [e3]
              exact ⟨.refl, key_rpD kv.1⟩
            · have s' : Step (less (plus U Dd) Dd) (wipeE eL vs) (wipe σ vs) (hide (upd (upd H a' (.frz od (.dK kvs))) Dd (.lst [])) Dd) U' envG (wipe σ vs) H' := s'
              rw [less_plus' nu, hide_upd hD] at s'
              obtain ⟨z1, z2, z3⟩ := unwipe IL hcl s' I'
              have ka : H' a' = some (.frz od (.dK kvs)) := z1.keep a' _ nmL upd_same
              refine ⟨ka, ?_⟩
              have lR := (z1.lok j _ _ lk).2
              have rU' : RpK κ U' H' kvs ds := (rU.imp fun b w nb z => ⟨nb, by rw [upd_ne]; exact z; rintro rfl; exact nb u⟩ : RpK κ U (upd H a' (.frz od (.dK kvs))) kvs ds).imp (z1.kp IL)
              have s0 : Step U eL σ H U' (rest vs eL envG) σ (upd H' a' (.dK kvs)) := restep hx lk z1
              have I0 : Inv κ U' (rest vs eL envG) σ (upd H' a' (.dK kvs)) := relock z2 lR sl rU' (.inl upd_same)
              obtain ⟨y1, y2, y3⟩ := unlock_ok I L s0 I0
              have ua : U' a' := by
                obtain ⟨w, e1, b, e2, e3, _⟩ := z2.at' j _ lR
                rw [sl] at e1
                cases e1
                cases e2
                exact e3
              refine q U' _ y1 y2 _ ⟨Dd, rfl, ?_, u', fun z => no' (z3 _ (y3 _ z)), m'.imp (fun w z => by rw [upd_ne nD.symm]; exact z) fun b w nb z => ⟨nb, by rw [upd_ne]; exact z; rintro rfl; exact nb (.inl ua)⟩⟩
              rw [upd_ne nD.symm] at hD
              exact hD
      · exact q.elim
    · exact q.elim
  · exact q.elim
end
section
variable {κ : Kx} {EW : WX} {tas : TA} {fas : Ea}
/-- x, y = a, b where a tuple is made and taken apart -/
theorem ss_parT {i j : Nat} (h : SA κ EW tas fas) : SS κ EW (tAsg (tTup tas) (gTup κ.K 2 (gCons (gName i) (gCons (gName j) gNil)))) (fPar [i, j] fas) := by
  intro U env σ H D I q
  refine h U env σ H _ I (q.expr.mono fun ts e1 U1 H1 s1 I1 q1 xs hxs nd => ?_)
  obtain ⟨el, _⟩ := par_ok I s1 I1 hxs nd q1
  refine ⟨by rw [← el]; exact (by decide : 2 ≤ sizeLine), fun p np => ?_⟩
  have gr : Grow H1 (upd H1 p (.tup xs)) := .new np
  have I2 := I1.grow gr
  have s2 := s1.trans I I1 (.grown gr)
  have hxs2 := hxs.step I1 (.grown gr)
  obtain ⟨_, w⟩ := par_ok I s2 I2 hxs2 nd q1
  match xs, el, w with
  | [x, y], _, w => exact ⟨p, [x, y], rfl, .inl (.inl upd_same), rfl, x, [y], rfl, y, [], rfl, rfl, w⟩
end
section
variable {X : Cx} {ca : Str → Addr} {EW : WX} {e v tg iter elt : Expr} {tv te : TE} {fv fe : Ev} {gt : TG} {G : Gf} {ws : List Nat} {tt : TT} {ft : Et} {pos : Pos}
theorem fe_disp1 {x : Str} (hv : FE X ca W0 v tv fv) (k : PE X v tv → PE X e (tDisp [(tC (.str x), tv)])) : FE X ca EW e (tDisp [(tC (.str x), tv)]) (fDisp1 x fv) := ⟨k hv.p, se_disp1 hv.s⟩
theorem fe_lcK {j : Nat} {ifs : List Expr} {scope : Scope} {own : List (Str × Nat)} (hc : X.calm = true) (hN : X.N.Nodup) (hp : PE X iter (tVar j)) (ok : BlkOk X.N X.env.scope scope own)
    (hg : ∀ (s : Shared) (H : Hp) (C : Addr) (cl : List (Str × Addr)) (fp : List Addr), FG (X.blk s H scope (compEnvC scope cl C X.env) fp) ca tg gt G ws) (ht : ∀ (s : Shared) (H : Hp) (C : Addr) (cl : List (Str × Addr)) (fp : List Addr), FTs (X.blk s H scope (compEnvC scope cl C X.env) fp) ca W0 ifs tt ft)
    (he : ∀ (s : Shared) (H : Hp) (C : Addr) (cl : List (Str × Addr)) (fp : List Addr), FE (X.blk s H scope (compEnvC scope cl C X.env) fp) ca W0 elt te fe) (hv : ∀ k ∈ ws, k ∈ own.map (·.2)) (hs : ∀ x, foldedSetIterable iter X.env x = pure x := by intro _; rfl) :
    FE X ca EW (.ListComp elt [⟨tg, iter, ifs, 0⟩] scope pos) (tLockE (tLc (iKeys (tVar j)) gt tt te (own.map (·.2)))) (fLcK j G ft fe (own.map (·.2))) :=
  ⟨pe_lock (pe_lc hc hN (pi_keys hp) ok (fun s H C cl fp => (hg s H C cl fp).p) (fun s H C cl fp => (ht s H C cl fp).p) (fun s H C cl fp => (he s H C cl fp).p) hs), se_lcK (hg X.s_0 (fun _ => none) 0 [] []).s hv (ht X.s_0 (fun _ => none) 0 [] []).s (he X.s_0 (fun _ => none) 0 [] []).s⟩
theorem fs_setLcK {i j : Nat} {y : Str} {py : Pos} {elt : Expr} {ifs : List Expr} {scope : Scope} {own : List (Str × Nat)} {pos spos : Pos} (hc : X.calm = true) (hN : X.N.Nodup) (hy : X.N[i]? = some y) (hyl : X.env.scope.names.lookup y = some .local)
    (hsw : swapsWith (.ListComp elt [⟨tg, iter, ifs, 0⟩] scope pos) (some (.Name y py)) spos.line X.env = pure true) (hp : PE X iter (tVar j)) (ok : BlkOk X.N X.env.scope scope own)
    (hg : ∀ (s : Shared) (H : Hp) (C : Addr) (cl : List (Str × Addr)) (fp : List Addr), FG (X.blk s H scope (compEnvC scope cl C X.env) fp) ca tg gt G ws) (ht : ∀ (s : Shared) (H : Hp) (C : Addr) (cl : List (Str × Addr)) (fp : List Addr), FTs (X.blk s H scope (compEnvC scope cl C X.env) fp) ca W0 ifs tt ft)
    (he : ∀ (s : Shared) (H : Hp) (C : Addr) (cl : List (Str × Addr)) (fp : List Addr), FE (X.blk s H scope (compEnvC scope cl C X.env) fp) ca W0 elt te fe) (hv : ∀ k ∈ ws, k ∈ own.map (·.2)) (hs : ∀ x, foldedSetIterable iter X.env x = pure x := by intro _; rfl) :
    FS X ca EW (.Assign [.Name y py] (.ListComp elt [⟨tg, iter, ifs, 0⟩] scope pos) spos) (tAsg (tLockE (tLc (iKeys (tVar j)) gt tt te (own.map (·.2)))) (gName i)) (fAsg (fLcK j G ft fe (own.map (·.2))) (Gname i)) :=
  ⟨(ps_lock (ps_setLc hc hN hy hyl hsw (pi_keys hp) ok (fun s H C cl fp => (hg s H C cl fp).p) (fun s H C cl fp => (ht s H C cl fp).p) (fun s H C cl fp => (he s H C cl fp).p) hs) : PS X _ (tLock (tAsg (tLc (iKeys (tVar j)) gt tt te (own.map (·.2))) (gName i)))), ss_asg (se_lcK (hg X.s_0 (fun _ => none) 0 [] []).s hv (ht X.s_0 (fun _ => none) 0 [] []).s (he X.s_0 (fun _ => none) 0 [] []).s) sg_name⟩
theorem fs_parT {i j : Nat} {es : List Expr} {tas : TA} {fas : Ea} {spos : Pos} (K : PySem.W.Frag) (ha : FA X ca EW es tas fas) (hg : FG X ca tg (gTup K 2 (gCons (gName i) (gCons (gName j) gNil))) G ws) (k : PA X es tas → PE X e (tTup tas)) (k2 : PE X e (tTup tas) → PG X tg (gTup K 2 (gCons (gName i) (gCons (gName j) gNil))) → PS X (.Assign [tg] e spos) (tAsg (tTup tas) (gTup K 2 (gCons (gName i) (gCons (gName j) gNil))))) (hK : X.K = K := by rfl) :
    FS X ca EW (.Assign [tg] e spos) (tAsg (tTup tas) (gTup K 2 (gCons (gName i) (gCons (gName j) gNil)))) (fPar [i, j] fas) := by
  subst hK
  exact ⟨k2 (k ha.p) hg.p, ss_parT ha.s⟩
end
end FL

set_option Elab.async false
set_option linter.all false
set_option maxRecDepth 100000
set_option maxHeartbeats 4000000
set_option exponentiation.threshold 100000
/-! F29: a tuple of any items, and the empty one. -/
namespace FL
open PySem PySem.Spec PyProof.Rows L2 GL
def eqT0 : D → D → Option Tok
  | .tup xs, .tup [] => some (.val (.bl xs.isEmpty))
  | _, _ => none
def rT0 (K : PySem.W.Frag) : R2 := fun x y H Q => ∃ a b xs, x = .ref a ∧ y = .ref b ∧ SqT K H a xs ∧ SqT K H b [] ∧ Q (.bl xs.isEmpty) H
section
variable {X : Cx} {ca : Str → Addr}
theorem op_eqT0 (hu : X.A.units < cLine) : OpR X (compareOp .Eq) (rT0 X.K) := by
  intro pins s σ H x y v u Q I rx ry h
  obtain ⟨a, b, xs, rfl, rfl, ha, hb, q⟩ := h
  cases rx
  cases ry
  obtain ⟨its, r1, t1, _⟩ := I.tuple ha
  obtain ⟨jts, r2, t2, _⟩ := I.tuple hb
  cases r2
  refine SeqAt.eq_tupleAt (e := fun _ => true) t1 t2 hu (fun j h1 h2 => by simp at h2) (fin_bl I q ?_)
  have hl := r1.length
  cases xs with
  | nil => cases r1; rfl
  | cons x r =>
    cases r1
    simp
theorem fop_eqT0 (hu : X.A.units < cLine) : FOp X ca (compareOp .Eq) (rT0 X.K) eqT0 := by
  refine ⟨op_eqT0 hu, fun U H x y d e tk Q hx hy al hf q => ?_⟩
  unfold eqT0 at hf
  split at hf
  · cases hf
    cases hx with
    | tup h1 r1 =>
      cases hy with
      | tup h2 r2 =>
        cases r2
        refine ⟨_, _, _, rfl, rfl, h1.sq, h2.sq, ?_⟩
        have e : ∀ {ds : List D} {vs : List V}, RpA (kx X ca) U H vs ds → vs.isEmpty = ds.isEmpty := fun r => by cases r <;> rfl
        rw [e r1]
        exact q _ H .refl (.bl _)
  · cases hf
def eqZ := orD eqT0 eqD
theorem kop_eqZ (K : PySem.W.Frag) (hu : X.A.units + 64 < cLine) (hK : X.K = K := by rfl) : FOp X ca (compareOp .Eq) (orR (rT0 K) (rEqDD K)) eqZ := by
  subst hK
  exact (fop_eqT0 (by omega)).or (fop_eq hu)
/-! ### texts -/
def eqS2 : D → D → Option Tok
  | .str a, .str b => some (.val (.bl (decide (a = b))))
  | _, _ => none
def neS2 : D → D → Option Tok
  | .str a, .str b => some (.val (.bl (!decide (a = b))))
  | _, _ => none
theorem dec_str' {a b : Str} : decide (V.str a = V.str b) = decide (a = b) := by
  rw [Bool.eq_iff_iff, decide_eq_true_eq, decide_eq_true_eq]
  exact ⟨fun h => by cases h; rfl, fun h => by rw [h]⟩
theorem fop_eqS2 : FOp X ca (compareOp .Eq) rEq eqS2 := by
  refine ⟨op_eq, fun U H x y d e tk Q hx hy al hf q => ?_⟩
  unfold eqS2 at hf
  split at hf
  · cases hf
    cases hx
    cases hy
    refine ⟨rfl, ?_⟩
    rw [dec_str']
    exact q _ H .refl (.bl _)
  · cases hf
theorem fop_neS2 : FOp X ca (compareOp .NotEq) rNe neS2 := by
  refine ⟨op_ne, fun U H x y d e tk Q hx hy al hf q => ?_⟩
  unfold neS2 at hf
  split at hf
  · cases hf
    cases hx
    cases hy
    refine ⟨rfl, ?_⟩
    rw [dec_str']
    exact q _ H .refl (.bl _)
  · cases hf
def eqR := orD eqS2 eqD
def neR := orD neS2 neD
theorem kop_eqR (K : PySem.W.Frag) (hu : X.A.units + 64 < cLine) (hK : X.K = K := by rfl) : FOp X ca (compareOp .Eq) (orR rEq (rEqDD K)) eqR := by
  subst hK
  exact fop_eqS2.or (fop_eq hu)
theorem kop_neR (K : PySem.W.Frag) (hu : X.A.units + 64 < cLine) (hK : X.K = K := by rfl) : FOp X ca (compareOp .NotEq) (orR rNe (rNeDD K)) neR := by
  subst hK
  exact fop_neS2.or (fop_ne hu)
theorem eqR_s {a b : Str} : eqR (.str a) (.str b) = some (.val (.bl (decide (a = b)))) := rfl
theorem neR_s {a b : Str} : neR (.str a) (.str b) = some (.val (.bl (!decide (a = b)))) := rfl
end
end FL

set_option Elab.async false
set_option linter.all false
set_option maxRecDepth 100000
set_option maxHeartbeats 4000000
set_option exponentiation.threshold 100000
/-! P0: values of the operators; the evaluator. -/
namespace FL
open PySem PySem.Spec PyProof.Rows L2 GL
section
variable {i j : Int} {x y : Str} {xs ys : List D}
theorem addD_i : addD (.int i) (.int j) = some (.val (.int (i + j))) := rfl
theorem addD_l (h : xs.length + ys.length ≤ 1000000) : addD (.lst xs) (.lst ys) = some (.new (.lst (xs ++ ys))) := by simp [addD, orD, i2, addS, addL, h]
theorem addD_t (h : xs.length + ys.length ≤ 1000000) : addD (.tup xs) (.tup ys) = some (.val (.tup (xs ++ ys))) := by simp [addD, orD, i2, addS, addL, addT, h]
theorem addD_s (h : x.length + y.length ≤ 1000000) : addD (.str x) (.str y) = some (.val (.str (x ++ y))) := by simp [addD, orD, i2, addS, h]
theorem subD_i : subD (.int i) (.int j) = some (.val (.int (i - j))) := rfl
theorem mulD_i (h : i.natAbs.log2 + j.natAbs.log2 < 1000000) : mulD (.int i) (.int j) = some (.val (.int (i * j))) := by simp [mulD, orD, i2, h]
theorem log2_lt {i : Int} {n : Nat} (h : i.natAbs < 2 ^ (n + 1)) : i.natAbs.log2 ≤ n := by
  by_cases h0 : i.natAbs = 0
  · rw [h0]; simp
  · have := (Nat.log2_lt h0).2 h
    omega
theorem mulD_b (h : i.natAbs < 2 ^ 99000) (h' : j.natAbs < 2 ^ 99000) : mulD (.int i) (.int j) = some (.val (.int (i * j))) := mulD_i (by have := log2_lt (n := 98999) h; have := log2_lt (n := 98999) h'; omega)
theorem lg {i : Int} (n : Nat) (h0 : 0 ≤ i) (h : i < 2 ^ (n + 1)) : i.natAbs.log2 ≤ n := log2_lt (by
  have : ((i.natAbs : Nat) : Int) < ((2 ^ (n + 1) : Nat) : Int) := by rw [Int.natAbs_of_nonneg h0]; push_cast; exact h
  exact_mod_cast this)
theorem mulD_p (h : 0 ≤ i) (h1 : i < 2 ^ 2000) (h' : 0 ≤ j) (h2 : j < 2 ^ 2000) : mulD (.int i) (.int j) = some (.val (.int (i * j))) := mulD_i (by have := lg 1999 h h1; have := lg 1999 h' h2; omega)
theorem modD_i (h : 0 < j) : modD (.int i) (.int j) = some (.val (.int (i % j))) := by simp [i2, h]
theorem divD_i (h : 0 < j) (h' : j.natAbs < 2 ^ 9000) : divD (.int i) (.int j) = some (.val (.int (i / j))) := by
  have := log2_lt (n := 8999) h'
  simp [i2, h, show j.natAbs.log2 < 9000 by omega]
theorem ltD_i : ltD (.int i) (.int j) = some (.val (.bl (decide (i < j)))) := rfl
theorem leD_i : leD (.int i) (.int j) = some (.val (.bl (decide (i ≤ j)))) := rfl
theorem gtD_i : gtD (.int i) (.int j) = some (.val (.bl (decide (i > j)))) := rfl
theorem geD_i : geD (.int i) (.int j) = some (.val (.bl (decide (i ≥ j)))) := rfl
theorem ixD_l : ixD (.lst xs) (.int i) = vOpt (atI xs i) := by simp [ixD, orD, ixL]; cases vOpt (atI xs i) <;> simp [ixT, ixS, ixScr, ixK]
theorem ixD_t : ixD (.tup xs) (.int i) = vOpt (atI xs i) := by simp [ixD, orD, ixL, ixT]; cases vOpt (atI xs i) <;> simp [ixS, ixScr, ixK]
theorem atI_nat {α : Type} {xs : List α} {n : Nat} {a : α} (h : xs[n]? = some a) : atI xs (n : Int) = some a := by
  have := (List.getElem?_eq_some_iff.mp h).1
  have e : ixN xs.length (n : Int) = some n := by
    unfold ixN
    rw [if_pos (by omega), if_pos (by omega)]
    simp
  simp [atI, e, h]
theorem lenD_l : lenD [.lst xs] = some (.val (.int xs.length)) := rfl
theorem lenD_t : lenD [.tup xs] = some (.val (.int xs.length)) := rfl
theorem lenD_scr {ns : List Int} : lenD [.scr ns] = some (.val (.int ns.length)) := rfl
end

/-! ### evaluation by rules -/
def Ent.tok (e : Ent) (i : Nat) : Tok := match e with
  | .frz d => .val d
  | _ => .slot i
section
variable {α : Type} {env e1 e2 e3 e4 : Env} {a b c fo fi fk fv : Ev} {t u v : Tok} {d d1 d2 d3 : D} {f : D → D → Option Tok} {fa : Ea} {ts us : List Tok} {ds es : List D} {ct cu : Et} {p q : Bool} {g k : Sf} {r : Sr} {G : Gf} {i j : Nat}
theorem ev_var {e : Ent} (h : env[i]? = some (some e)) : fVar i env = .ok (e.tok i) env := by
  unfold fVar
  rw [h]
  cases e <;> rfl
theorem ev_c : fC d env = .ok (.val d) env := rfl
theorem ev_op (ha : a env = .ok t e1) (hb : b e1 = .ok u e2) (h1 : res t e2 = some d1) (h2 : res u e2 = some d2) (hf : f d1 d2 = some v) : fOp f a b env = .ok v e2 := by
  unfold fOp
  rw [ha, Res.bind_ok, hb, Res.bind_ok]
  unfold ap2
  rw [h1, h2]
  simp only
  rw [hf]; rfl
theorem ev_un {f : D → Option Tok} (ha : a env = .ok t e1) (h1 : res t e1 = some d1) (hf : f d1 = some v) : fUn f a env = .ok v e1 := by
  unfold fUn
  rw [ha, Res.bind_ok]
  unfold ap1
  rw [h1]
  simp only
  rw [hf]; rfl
theorem ev_cb {f : List D → Option Tok} (ha : fa env = .ok ts e1) (h1 : resAll ts e1 = some ds) (hf : f ds = some v) : fCB f fa env = .ok v e1 := by
  unfold fCB
  rw [ha, Res.bind_ok]
  unfold apN
  rw [h1]
  simp only
  rw [hf]; rfl
theorem ev_nil : fNil env = .ok [] env := rfl
theorem ev_cons (ha : a env = .ok t e1) (hb : fa e1 = .ok ts e2) : fCons a fa env = .ok (t :: ts) e2 := by
  unfold fCons
  rw [ha, Res.bind_ok, hb, Res.bind_ok]
theorem ev_tup (ha : fa env = .ok ts e1) (hk : keepAll ts e1 = some (ds, e2)) (hl : ds.length ≤ 1000000) : fTup fa env = .ok (.val (.tup ds)) e2 := by
  unfold fTup
  rw [ha, Res.bind_ok, hk]
  exact if_pos hl
theorem ev_lst (ha : fa env = .ok ts e1) (hk : keepAll ts e1 = some (ds, e2)) (hl : ds.length ≤ 1000000) : fLst fa env = .ok (.new (.lst ds)) e2 := by
  unfold fLst
  rw [ha, Res.bind_ok, hk]
  exact if_pos hl
theorem ev_B (ha : a env = .ok t e1) (h : res t e1 = some (.bl p)) : fB a env = .ok p e1 := by
  unfold fB
  rw [ha, Res.bind_ok]
  unfold asB
  rw [h]
theorem ev_not (ha : ct env = .ok p e1) : fNot ct env = .ok (!p) e1 := by
  unfold fNot
  rw [ha, Res.bind_ok]
theorem ev_and (ha : ct env = .ok p e1) (hb : (bif p then cu e1 else .ok false e1) = .ok q e2) : fAnd ct cu env = .ok q e2 := by
  unfold fAnd
  rw [ha, Res.bind_ok]
  cases p <;> exact hb
theorem ev_or (ha : ct env = .ok p e1) (hb : (bif p then .ok true e1 else cu e1) = .ok q e2) : fOr ct cu env = .ok q e2 := by
  unfold fOr
  rw [ha, Res.bind_ok]
  cases p <;> exact hb
theorem ev_yes : fYes env = .ok true env := rfl
theorem asB_of (h : res t env = some (.bl p)) : asB t env = .ok p env := by
  unfold asB
  rw [h]
theorem ev_andV (ha : a env = .ok t e1) (h : res t e1 = some (.bl p)) (hb : (bif p then b e1 else .ok (.val (.bl false)) e1) = .ok v e2) : fAndV a b env = .ok v e2 := by
  unfold fAndV
  rw [ha, Res.bind_ok, asB_of h, Res.bind_ok]
  cases p <;> exact hb
theorem ev_orV (ha : a env = .ok t e1) (h : res t e1 = some (.bl p)) (hb : (bif p then .ok (.val (.bl true)) e1 else b e1) = .ok v e2) : fOrV a b env = .ok v e2 := by
  unfold fOrV
  rw [ha, Res.bind_ok, asB_of h, Res.bind_ok]
  cases p <;> exact hb
theorem ev_notV (ha : a env = .ok t e1) (h : res t e1 = some (.bl p)) : fNotV a env = .ok (.val (.bl (!p))) e1 := by
  unfold fNotV
  rw [ha, Res.bind_ok, asB_of h, Res.bind_ok]
theorem ev_if (ha : ct env = .ok p e1) (hb : (bif p then a e1 else b e1) = .ok v e2) : fIf ct a b env = .ok v e2 := by
  unfold fIf
  rw [ha, Res.bind_ok]
  cases p <;> exact hb
theorem ev_T {β : Sort _} {x y z : β} (h : p = true) (k : x = z) : (bif p then x else y) = z := by rw [h]; exact k
theorem ev_F {β : Sort _} {x y z : β} (h : p = false) (k : y = z) : (bif p then x else y) = z := by rw [h]; exact k
theorem ev_dT {β : Sort _} {x y z : β} {P : Prop} [Decidable P] (h : P) (k : x = z) : (bif decide P then x else y) = z := by rw [decide_eq_true h]; exact k
theorem ev_dF {β : Sort _} {x y z : β} {P : Prop} [Decidable P] (h : ¬ P) (k : y = z) : (bif decide P then x else y) = z := by rw [decide_eq_false h]; exact k
theorem ev_opt0 : fOpt none env = .ok none env := rfl
theorem ev_opt1 {n : Int} (ha : a env = .ok t e1) (h : res t e1 = some (.int n)) : fOpt (some a) env = .ok (some n) e1 := by
  unfold fOpt
  simp only
  rw [ha, Res.bind_ok, h]
theorem ev_sl {f : D → Option Int → Option Int → Option Tok} {l h : Option Ev} {x y : Option Int} (ha : a env = .ok t e1) (hl : fOpt l e1 = .ok x e2) (hh : fOpt h e2 = .ok y e3) (h1 : res t e3 = some d) (hf : f d x y = some v) : fSl f a l h env = .ok v e3 := by
  unfold fSl
  rw [ha, Res.bind_ok, hl, Res.bind_ok, hh, Res.bind_ok]
  unfold ap3
  rw [h1]
  simp only
  rw [hf]; rfl
theorem ev_call {m : List Bool} {fn : Fn} {js : List (Option Nat)} {ps : List D} (ha : fa env = .ok ts e1) (hk : keepM m ts e1 = some (us, e2)) (hl : lend m us e2 = some (ds, js)) (hf : fn ds = .ok v ps) (he : backs js ps e2 = e3) : fCall m fn fa env = .ok v e3 := by
  unfold fCall
  rw [ha, Res.bind_ok]
  unfold callF
  rw [hk]
  simp only
  rw [hl]
  simp only
  rw [hf, ← he]; rfl
theorem ev_mut {m : Mf} {e : Ent} {y : D} (ha : fo env = .ok (.slot j) e1) (h1 : isLst (res (.slot j) e1) = true) (hb : fa e1 = .ok ts e2) (hk : keepAll ts e2 = some (ds, e3)) (he : e3[j]? = some (some e)) (hm : e.mut = true) (hf : m e.val ds = some (d, y)) (hr : e3.set j (some (e.put d)) = e4) : fMutL m fo fa env = .ok (.val y) e4 := by
  unfold fMutL
  rw [ha, Res.bind_ok, if_pos h1, hb, Res.bind_ok, hk]
  unfold mutS
  simp only
  rw [he]
  simp only
  rw [if_pos hm, hf, ← hr]
/-! statements -/
theorem ev_next : fNext env = .nx env := rfl
theorem ev_break : fBreak env = .bk env := rfl
theorem ev_cont : fCont env = .ct env := rfl
theorem ev_seq (h : g env = .nx e1) (hn : e1 = e2) (h' : k e2 = r) : fSeq g k env = r := by
  unfold fSeq
  rw [h, hn]; exact h'
theorem ev_seqR (h : g env = .rt t e1) : fSeq g k env = .rt t e1 := by
  unfold fSeq
  rw [h]
theorem ev_ret (ha : a env = .ok t e1) : fRet a env = .rt t e1 := by
  unfold fRet
  rw [ha]; rfl
theorem ev_retN : fRetN env = .rt (.val .non) env := rfl
theorem ev_drop (ha : a env = .ok t e1) : fDrop a env = .nx e1 := by
  unfold fDrop
  rw [ha]; rfl
theorem ev_ifS (ha : ct env = .ok p e1) (hb : (bif p then g e1 else k e1) = r) : fIfS ct g k env = r := by
  unfold fIfS
  rw [ha]
  cases p <;> exact hb
theorem ev_asg (ha : a env = .ok t e1) (hg : G t e1 = some e2) : fAsg a G env = .nx e2 := by
  unfold fAsg
  rw [ha]
  show optS (G t e1) = _
  rw [hg]; rfl
theorem ev_par {is : List Nat} (ha : fa env = .ok ts e1) (hn : normAll ts e1 = some (us, e2)) (hs : stores is us e2 = some e3) : fPar is fa env = .nx e3 := by
  unfold fPar
  rw [ha]
  show parS is (normAll ts e1) = _
  rw [hn]
  show optS (stores is us e2) = _
  rw [hs]; rfl
theorem ev_aug {x y : Int} {f : Int → Int → Int} (he : env[i]? = some (some (.frz (.int x)))) (ha : a env = .ok t e1) (h : res t e1 = some (.int y)) (hr : Gname i (.val (.int (f x y))) e1 = some e2) : fAug i a f env = .nx e2 := by
  unfold fAug
  rw [he]
  simp only
  rw [ha]
  show augR f i x (res t e1) e1 = _
  rw [h]
  show optS (Gname i (.val (.int (f x y))) e1) = _
  rw [hr]; rfl
theorem ev_sub {n : Nat} {x : Int} {xs : List D} {e : Ent} (hk : keepT t env = some (d, e1)) (ho : fo e1 = .ok (.slot j) e2) (hi : fi e2 = .ok u e3) (h1 : res u e3 = some (.int x)) (he : e3[j]? = some (some e)) (hm : e.mut = true) (hv : e.val = .lst xs) (hn : ixN xs.length x = some n) (hr : e3.set j (some (e.put (.lst (xs.set n d)))) = e4) : GsubX fo fi t env = some e4 := by
  unfold GsubX
  rw [hk]
  simp only
  rw [ho, Res.noErr_ok]
  simp only
  rw [hi, Res.noErr_ok]
  simp only
  rw [h1]
  unfold setR
  simp only
  rw [he]
  simp only
  rw [if_pos hm, hv]
  simp only
  rw [hn, ← hr]
/-- a def's function -/
theorem ev_fnR {m : List Bool} {n : Nat} {env' : Env} (hs : startE m ds ++ List.replicate n none = env') (hb : g env' = .rt t e1) (hr : retT t e1 = some v) (hp : parsOf m e1 = es) : mkFn m n g ds = .ok v es := by
  unfold mkFn
  rw [hs, hb]
  unfold finish
  simp only
  rw [hr, ← hp]
theorem ev_fnN {m : List Bool} {n : Nat} {env' : Env} (hs : startE m ds ++ List.replicate n none = env') (hb : g env' = .nx e1) (hp : parsOf m e1 = es) : mkFn m n g ds = .ok (.val .non) es := by
  unfold mkFn
  rw [hs, hb, ← hp]; rfl
end
theorem atI_0 {α : Type} {x : α} {xs : List α} : atI (x :: xs) 0 = some x := atI_nat (n := 0) rfl
theorem atI_1 {α : Type} {x y : α} {xs : List α} : atI (x :: y :: xs) 1 = some y := atI_nat (n := 1) rfl
theorem atI_2 {α : Type} {x y z : α} {xs : List α} : atI (x :: y :: z :: xs) 2 = some z := atI_nat (n := 2) rfl
theorem ixD_l0 {x : D} {xs : List D} : ixD (.lst (x :: xs)) (.int 0) = some (.val x) := by rw [ixD_l, atI_0]; rfl
theorem ixD_l1 {x y : D} {xs : List D} : ixD (.lst (x :: y :: xs)) (.int 1) = some (.val y) := by rw [ixD_l, atI_1]; rfl
theorem ixD_l2 {x y z : D} {xs : List D} : ixD (.lst (x :: y :: z :: xs)) (.int 2) = some (.val z) := by rw [ixD_l, atI_2]; rfl
theorem ixD_t0 {x : D} {xs : List D} : ixD (.tup (x :: xs)) (.int 0) = some (.val x) := by rw [ixD_t, atI_0]; rfl
theorem ixD_t1 {x y : D} {xs : List D} : ixD (.tup (x :: y :: xs)) (.int 1) = some (.val y) := by rw [ixD_t, atI_1]; rfl
theorem ixD_t2 {x y z : D} {xs : List D} : ixD (.tup (x :: y :: z :: xs)) (.int 2) = some (.val z) := by rw [ixD_t, atI_2]; rfl
theorem ixN_0 {n : Nat} : ixN (n + 1) 0 = some 0 := by simp [ixN]
theorem ixN_1 {n : Nat} : ixN (n + 2) 1 = some 1 := by simp [ixN]; omega
theorem ixN_2 {n : Nat} : ixN (n + 3) 2 = some 2 := by simp [ixN]; omega
/-! ### names as targets -/
inductive FreeE : Option Ent → Prop
  | none : FreeE none
  | frz {d : D} : FreeE (some (.frz d))
  | own {d : D} : FreeE (some (.own d))
theorem free_at {i : Nat} {env : Env} {e : Option Ent} (h : env[i]? = some e) (f : FreeE e) : free? i env = true := by
  unfold free?
  rw [h]
  cases f <;> rfl
theorem gn_val {i : Nat} {env : Env} {e : Option Ent} {d : D} (h : env[i]? = some e) (f : FreeE e) : Gname i (.val d) env = some (env.set i (some (.frz d))) := by
  unfold Gname
  rw [if_pos (free_at h f)]; rfl
theorem gn_new {i : Nat} {env : Env} {e : Option Ent} {d : D} (h : env[i]? = some e) (f : FreeE e) : Gname i (.new d) env = some (env.set i (some (.own d))) := by
  unfold Gname
  rw [if_pos (free_at h f)]
theorem gall_cons {g : Gf} {gs : List Gf} {d : D} {ds : List D} {env e1 : Env} {r : Option Env} (h : g (.val d) env = some e1) (k : Gall gs ds e1 = r) : Gall (g :: gs) (d :: ds) env = r := by
  unfold Gall
  rw [h]; exact k
theorem gall_nil {env : Env} : Gall [] [] env = some env := rfl
theorem g_tup {gs : List Gf} {t : Tok} {ds : List D} {env : Env} {r : Option Env} (h : res t env = some (.tup ds)) (k : Gall gs ds env = r) : Gtup gs t env = r := by
  unfold Gtup
  rw [h]; exact k
theorem clear_nil {env : Env} : clear [] env = true := rfl
theorem clear_cons {i : Nat} {vs : List Nat} {env : Env} (h : env[i]? = some none ∨ ∃ d, env[i]? = some (some (.frz d))) (k : clear vs env = true) : clear (i :: vs) env = true := by
  unfold clear at *
  rw [List.all_cons, k, Bool.and_true]
  rcases h with h | ⟨d, h⟩ <;> rw [h]
theorem stores_nil {env : Env} : stores [] [] env = some env := rfl
theorem stores_cons {i : Nat} {is : List Nat} {t : Tok} {ts : List Tok} {env e1 : Env} {r : Option Env} (h : Gname i t env = some e1) (k : stores is ts e1 = r) : stores (i :: is) (t :: ts) env = r := by
  unfold stores
  rw [h]; exact k
/-! ### turns and loops -/
section
variable {α : Type} {env e1 e2 e3 eL eW : Env} {G : Gf} {ft : Et} {fb : α → Env → Res α} {vs js : List Nat} {d y : D} {ds items : List D} {acc acc' : α} {r : Res α} {fe fk fv : Ev} {t u : Tok} {fa : Ea} {toks : List Tok} {it : ItF} {b : Sf} {w : Sr}
theorem ev_turn (hG : G (.val d) env = some e1) (ht : ft e1 = .ok true e2) (hb : fb acc e2 = .ok acc' e3) (hw : wipeE e3 vs = eL) (hr : turnsF G ft fb vs ds acc' eL = r) : turnsF G ft fb vs (d :: ds) acc env = r := by
  subst hw
  rw [turnsF, hG]
  simp only
  rw [ht, Res.noErr_ok, Res.bind_ok, if_pos rfl, hb, Res.bind_ok]
  exact hr
theorem ev_turnN (hG : G (.val d) env = some e1) (ht : ft e1 = .ok false e2) (hw : wipeE e2 vs = eL) (hr : turnsF G ft fb vs ds acc eL = r) : turnsF G ft fb vs (d :: ds) acc env = r := by
  subst hw
  rw [turnsF, hG]
  simp only
  rw [ht, Res.noErr_ok, Res.bind_ok, if_neg (by decide)]
  exact hr
theorem ev_turn0 : turnsF G ft fb vs [] acc env = .ok acc env := rfl
theorem ev_lcB {acc : List D} (he : fe env = .ok t e1) (hk : keepT t e1 = some (y, e2)) (hl : acc.length < 1000000) : lcB fe acc env = .ok (acc ++ [y]) e2 := by
  unfold lcB
  rw [he, Res.noErr_ok, Res.bind_ok, hk]
  exact if_pos hl
theorem ev_dcB {acc : List (Key × D)} {k : D} {kk : Key} (he : fk env = .ok t e1) (hv : fv e1 = .ok u e2) (h1 : res t e2 = some k) (hkk : keyOf k = some kk) (hk : keepT u e2 = some (y, e3)) (hl : acc.length < 1000000) : dcB fk fv acc env = .ok (putD acc kk y) e3 := by
  unfold dcB
  rw [he, Res.noErr_ok, Res.bind_ok, hv, Res.noErr_ok, Res.bind_ok, h1, hk]
  unfold dcPut
  simp only
  rw [hkk]
  exact if_pos hl
theorem ev_block (hs : srcOf it toks e1 = some items) (hl : (lockAll toks e1).1 = eL) (hj : (lockAll toks e1).2 = js) (hc : clear vs eL = true) (hw : wipeE eL vs = eW) (ht : turnsF G ft fb vs items acc eW = .ok acc' e2) (hr : unlockAll js (rest vs eL e2) = e3) : blockF toks it G ft fb vs acc e1 = .ok acc' e3 := by
  unfold blockF
  subst hl hj hw
  rw [hs]
  simp only
  rw [if_pos hc, ht, ← hr]; rfl
theorem ev_lc {acc : List D} (ha : fa env = .ok toks e1) (hs : srcOf it toks e1 = some items) (hl : (lockAll toks e1).1 = eL) (hj : (lockAll toks e1).2 = js) (hc : clear vs eL = true) (hw : wipeE eL vs = eW) (ht : turnsF G ft (lcB fe) vs items [] eW = .ok acc e2) (hr : unlockAll js (rest vs eL e2) = e3) : fLc fa it G ft fe vs env = .ok (.new (.lst acc)) e3 := by
  unfold fLc
  rw [ha, Res.bind_ok, ev_block hs hl hj hc hw ht hr, Res.bind_ok]
theorem ev_dc {acc : List (Key × D)} (ha : fa env = .ok toks e1) (hs : srcOf it toks e1 = some items) (hl : (lockAll toks e1).1 = eL) (hj : (lockAll toks e1).2 = js) (hc : clear vs eL = true) (hw : wipeE eL vs = eW) (ht : turnsF G ft (dcB fk fv) vs items [] eW = .ok acc e2) (hr : unlockAll js (rest vs eL e2) = e3) : fDc fa it G ft fk fv vs env = .ok (.new (.dct acc)) e3 := by
  unfold fDc
  rw [ha, Res.bind_ok, ev_block hs hl hj hc hw ht hr, Res.bind_ok]
/-- turns that leave all as it was -/
theorem turns_map {acc : List D} (p : D → Bool) (g : D → D) (items : List D) (env : Env) (hl : acc.length + items.length ≤ 1000000)
    (h : ∀ d ∈ items, ∃ e1, G (.val d) env = some e1 ∧ ft e1 = .ok (p d) e1 ∧ wipeE e1 vs = env ∧ (p d = true → ∃ t, fe e1 = .ok t e1 ∧ keepT t e1 = some (g d, e1))) : turnsF G ft (lcB fe) vs items acc env = .ok (acc ++ (items.filter p).map g) env := by
  induction items generalizing acc with
  | nil => simp [turnsF]
  | cons d ds ih =>
    obtain ⟨e1, hG, ht, hw, he⟩ := h d (by simp)
    simp only [List.length_cons] at hl
    cases hp : p d with
    | true =>
      obtain ⟨t, h1, h2⟩ := he hp
      refine ev_turn hG (hp ▸ ht) (ev_lcB h1 h2 (by omega)) rfl ?_
      rw [hw, ih (by simp; omega) (fun x hx => h x (by simp [hx]))]
      simp [hp]
    | false =>
      refine ev_turnN hG (hp ▸ ht) rfl ?_
      rw [hw, ih (by omega) (fun x hx => h x (by simp [hx]))]
      simp [hp]
theorem ev_for (ha : fa env = .ok toks e1) (hs : srcOf it toks e1 = some items) (hl : (lockAll toks e1).1 = eL) (hj : (lockAll toks e1).2 = js) (hb : loopF G b items eL = w) : fFor fa it G b env = w.map (unlockAll js) := by
  unfold fFor
  rw [ha]
  show (match srcOf it toks e1 with
    | some items => (loopF G b items (lockAll toks e1).1).map (unlockAll (lockAll toks e1).2)
    | none => .bad) = _
  subst hl hj
  rw [hs]
  simp only
  rw [hb]
theorem ev_for' {w' : Sr} (ha : fa env = .ok toks e1) (hs : srcOf it toks e1 = some items) (hl : (lockAll toks e1).1 = eL) (hj : (lockAll toks e1).2 = js) (hb : loopF G b items eL = w) (hr : w.map (unlockAll js) = w') : fFor fa it G b env = w' := by rw [← hr]; exact ev_for ha hs hl hj hb
theorem ev_loop0 : loopF G b [] env = .nx env := rfl
theorem ev_loop (hG : G (.val d) env = some e1) (hb : b e1 = .nx e2) (hr : loopF G b ds e2 = w) : loopF G b (d :: ds) env = w := by
  rw [loopF, hG]
  simp only
  rw [hb]
  exact hr
theorem ev_loopR (hG : G (.val d) env = some e1) (hb : b e1 = .rt t e2) : loopF G b (d :: ds) env = .rt t e2 := by
  rw [loopF, hG]
  simp only
  rw [hb]
/-- a loop by what stands before each of its turns -/
theorem loop_inv (I : Nat → Env → Prop) (items : List D) (h : ∀ k d e, items[k]? = some d → I k e → ∃ e1 e2, G (.val d) e = some e1 ∧ b e1 = .nx e2 ∧ I (k + 1) e2) {env : Env} (h0 : I 0 env) : ∃ e, loopF G b items env = .nx e ∧ I items.length e := by
  suffices ∀ (xs : List D) (k : Nat) (env : Env), items.drop k = xs → I k env → ∃ e, loopF G b xs env = .nx e ∧ I (k + xs.length) e by
    have := this items 0 env (by simp) h0
    simpa using this
  intro xs
  induction xs with
  | nil => intro k env _ hi; exact ⟨env, rfl, by simpa using hi⟩
  | cons d ds ih =>
    intro k env hx hi
    have hd : items[k]? = some d := by
      have : (items.drop k)[0]? = some d := by rw [hx]; rfl
      simpa using this
    obtain ⟨e1, e2, g1, g2, g3⟩ := h k d env hd hi
    obtain ⟨e, he, hI⟩ := ih (k + 1) e2 (by
      have : items.drop (k + 1) = (items.drop k).drop 1 := by rw [List.drop_drop]
      rw [this, hx]; rfl) g3
    exact ⟨e, ev_loop g1 g2 he, by rw [show k + (d :: ds).length = k + 1 + ds.length by simp; omega]; exact hI⟩
end
/-! ### sources -/
section
variable {env : Env} {toks : List Tok} {i j : Int} {xs ys : List D}
theorem src_of {it : ItF} {ds items : List D} (h : resAll toks env = some ds) (hi : it ds = some items) : srcOf it toks env = some items := by
  unfold srcOf
  rw [h]; exact hi
theorem rng1_i (h1 : -1000000000 ≤ j) (h2 : j < 1000000000) : rng1 [.int j] = some (rangeL 0 j.toNat) := by
  unfold rng1
  exact if_pos ⟨h1, h2⟩
theorem rng2_i (h0 : -1000000000 ≤ i) (h3 : i < 1000000000) (h1 : -1000000000 ≤ j) (h2 : j < 1000000000) : rng2 [.int i, .int j] = some (rangeL i (j - i).toNat) := by
  unfold rng2
  exact if_pos ⟨h0, h3, h1, h2⟩
theorem ev_rng1 (h : resAll toks env = some [.int j]) (h1 : -1000000000 ≤ j) (h2 : j < 1000000000) : srcOf rng1 toks env = some (rangeL 0 j.toNat) := src_of h (rng1_i h1 h2)
theorem ev_rng2 (h : resAll toks env = some [.int i, .int j]) (h0 : -1000000000 ≤ i) (h3 : i < 1000000000) (h1 : -1000000000 ≤ j) (h2 : j < 1000000000) : srcOf rng2 toks env = some (rangeL i (j - i).toNat) := src_of h (rng2_i h0 h3 h1 h2)
end
end FL

set_option Elab.async false
set_option linter.all false
set_option maxRecDepth 100000
set_option maxHeartbeats 4000000
set_option exponentiation.threshold 100000
/-! P1: the law's source. -/
namespace FL
open PySem PySem.Spec PyProof.Rows L2 GL
local macro_rules | `(tactic| walk_at "ev") => `(tactic| repeat' (first
  | (show _ = _; with_reducible assumption)
  | with_reducible exact ev_c | with_reducible exact ev_nil | with_reducible exact ev_yes | with_reducible exact ev_next | with_reducible exact ev_break | with_reducible exact ev_cont | with_reducible exact ev_retN | with_reducible exact ev_opt0
  | with_reducible apply ev_var | with_reducible apply ev_op | with_reducible apply ev_un | with_reducible apply ev_cb | with_reducible apply ev_cons | with_reducible apply ev_tup | with_reducible apply ev_lst
  | with_reducible apply ev_B | with_reducible apply ev_not | with_reducible apply ev_and | with_reducible apply ev_or | with_reducible apply ev_andV | with_reducible apply ev_orV | with_reducible apply ev_notV | with_reducible apply ev_if
  | with_reducible apply ev_opt1 | with_reducible apply ev_sl | with_reducible apply ev_call | with_reducible apply ev_mut
  | with_reducible apply ev_seq | with_reducible apply ev_ret | with_reducible apply ev_drop | with_reducible apply ev_ifS | with_reducible apply ev_asg | with_reducible apply ev_par | with_reducible apply ev_aug | with_reducible apply ev_sub
  | with_reducible refine ev_dT (by first | assumption | omega) ?_ | with_reducible refine ev_dF (by first | assumption | omega) ?_ | with_reducible refine ev_T (by first | rfl | assumption) ?_ | with_reducible refine ev_F (by first | rfl | assumption) ?_
  | with_reducible exact addD_i | with_reducible exact subD_i | with_reducible exact ltD_i | with_reducible exact leD_i | with_reducible exact ixD_l0 | with_reducible exact ixD_l1 | with_reducible exact ixD_l2 | with_reducible exact ixD_t0 | with_reducible exact ixD_t1 | with_reducible exact ixD_t2
  | with_reducible apply modD_i | with_reducible apply divD_i | with_reducible apply mulD_p
  | with_reducible apply ev_rng1 | with_reducible apply ev_rng2 | with_reducible apply ev_for' | with_reducible apply ev_lc | with_reducible apply ev_dc | with_reducible apply ev_turn | with_reducible exact ev_turn0 | with_reducible apply ev_lcB | with_reducible apply ev_dcB
  | with_reducible apply gn_val | with_reducible apply gn_new | with_reducible apply g_tup | with_reducible apply gall_cons | with_reducible exact gall_nil | with_reducible apply stores_cons | with_reducible exact stores_nil
  | with_reducible exact FreeE.none | with_reducible exact FreeE.frz | with_reducible exact FreeE.own | (show FreeE _; assumption)
  | with_reducible exact ixN_0 | with_reducible exact ixN_1 | with_reducible exact ixN_2
  | (show _ = _; dsimp only [Ent.val, Ent.put, Ent.tok]; with_reducible assumption)
  | (show turnsF _ _ _ _ _ _ _ = _; assumption) | (show loopF _ _ _ _ = _; assumption)
  | (show (_ : Env) = _; first | (dsimp only [startE, List.replicate, List.append_eq, List.cons_append, List.nil_append, List.set_cons_zero, List.set_cons_succ, List.getElem?_cons_zero, List.getElem?_cons_succ, Ent.put, Ent.val, Ent.tok, backs, lockAll, lockT, unlockAll, unlock, List.foldr, rest, wipeE, Option.join] <;> rfl) | rfl)
  | (show List.length _ ≤ _; exact Nat.le_of_ble_eq_true rfl) | (show _ < _; omega) | (show _ ≤ _; omega)
  | rfl))
def F_start : Sf :=
  (fSeq (fAsg (fIf (fB (fOp ltD (fVar 1) (fCB lenD (fCons (fVar 0) fNil)))) (fOp ixD (fVar 0) (fVar 1)) (fOp addD (fOp mulD (fC (.int 17)) (fVar 1)) (fC (.int 3)))) (Gname 2))
    (fSeq (fAsg (fOp mulD (fOp modD (fCB (c1 absD) (fCons (fVar 2) fNil)) (fOp powD (fOp powD (fC (.int 10)) (fC (.int 60))) (fC (.int 5)))) (fCB (c1 intD) (fCons (fOp geD (fCB (c1 absD) (fCons (fVar 2) fNil)) (fOp powD (fC (.int 10)) (fC (.int 18)))) fNil))) (Gname 3))
    (fRet (fLst (fCons (fVar 3) (fCons (fOp modD (fOp mulD (fOp addD (fOp addD (fOp modD (fVar 2) (fC (.int 2305843009213693951))) (fOp mulD (fOp mulD (fC (.int 15485869)) (fVar 1)) (fVar 1))) (fC (.int 53))) (fC (.int 16807))) (fC (.int 2305843009213693907))) (fCons (fC (.int 0)) fNil)))))))
def fn_start : Fn := mkFn [false, false] 2 F_start
def F_draw : Sf :=
  (fSeq (fIfS (fB (fOp gtD (fOp ixD (fVar 0) (fC (.int 0))) (fC (.int 0)))) (fSeq (fAsg (fOp modD (fOp ixD (fVar 0) (fC (.int 0))) (fVar 1)) (Gname 2))
    (fSeq (fAsg (fOp divD (fOp ixD (fVar 0) (fC (.int 0))) (fVar 1)) (GsubX (fVar 0) (fC (.int 0))))
    (fRet (fVar 2)))) fNext)
    (fSeq (fAsg (fOp addD (fOp ixD (fVar 0) (fC (.int 2))) (fC (.int 1))) (GsubX (fVar 0) (fC (.int 2))))
    (fSeq (fAsg (fOp ixD (fLst (fCons (fC (.int 2147483647)) (fCons (fC (.int 2147483629)) (fCons (fC (.int 2147483587)) (fCons (fC (.int 2147483579)) (fCons (fC (.int 2147483563)) (fCons (fC (.int 2147483549)) (fCons (fC (.int 2147483543)) fNil)))))))) (fOp modD (fOp ixD (fVar 0) (fC (.int 2))) (fC (.int 7)))) (Gname 3))
    (fSeq (fAsg (fOp modD (fOp powD (fOp addD (fOp addD (fOp ixD (fVar 0) (fC (.int 1))) (fOp mulD (fOp mulD (fC (.int 6700417)) (fOp ixD (fVar 0) (fC (.int 2)))) (fOp ixD (fVar 0) (fC (.int 2))))) (fC (.int 23))) (fC (.int 3))) (fVar 3)) (Gname 4))
    (fRet (fOp modD (fOp divD (fOp modD (fOp mulD (fVar 4) (fOp addD (fOp modD (fVar 4) (fC (.int 10007))) (fOp mulD (fC (.int 97)) (fOp ixD (fVar 0) (fC (.int 2)))))) (fC (.int 2305843009213693921))) (fC (.int 97))) (fVar 1)))))))
def fn_draw : Fn := mkFn [true, false] 3 F_draw
def F_choice : Sf :=
  (fRet (fOp ixD (fVar 1) (fCall [true, false] fn_draw (fCons (fVar 0) (fCons (fCB lenD (fCons (fVar 1) fNil)) fNil)))))
def fn_choice : Fn := mkFn [true, false] 0 F_choice
def F_mixed : Sf :=
  (fSeq (fAsg (fCB (c1 listD) (fCons (fVar 1) fNil)) (Gname 2))
    (fRet (fLc (fCons (fCB lenD (fCons (fVar 1) fNil)) fNil) rng1 (Gname 3) fYes (fMutL mPopAt (fVar 2) (fCons (fCall [true, false] fn_draw (fCons (fVar 0) (fCons (fCB lenD (fCons (fVar 2) fNil)) fNil))) fNil)) [3])))
def fn_mixed : Fn := mkFn [true, false] 2 F_mixed
def F_names : Sf :=
  (fSeq (fAsg (fTup (fCons (fCall [true, false] fn_choice (fCons (fVar 0) (fCons (fLst (fCons (fC (.str "")) (fCons (fC (.str "m")) (fCons (fC (.str "mod")) (fCons (fC (.str "zzzzzzzz")) (fCons (fC (.str "a")) fNil)))))) fNil))) (fCons (fCall [true, false] fn_draw (fCons (fVar 0) (fCons (fC (.int 26)) fNil))) fNil))) (Gtup [(Gname 2), (Gname 3)]))
    (fSeq (fAsg (fLc (fCons (fCB (c2 min2) (fCons (fVar 1) (fCons (fC (.int 26)) fNil))) fNil) rng1 (Gname 6) fYes (fOp addD (fVar 2) (fOp ixD (fC (.str "abcdefghijklmnopqrstuvwxyz")) (fOp modD (fOp addD (fVar 3) (fOp mulD (fC (.int 7)) (fVar 6))) (fC (.int 26))))) [6]) (Gname 4))
    (fSeq (fAsg (fIf (fB (fOp leD (fVar 1) (fC (.int 52)))) (fLc (fCons (fC (.int 26)) (fCons (fVar 1) fNil)) rng2 (Gname 6) fYes (fOp addD (fC (.str "x")) (fOp ixD (fVar 4) (fOp modD (fVar 6) (fC (.int 26))))) [6]) (fLst fNil)) (Gname 5))
    (fRet (fCB sortedY (fCons (fOp addD (fVar 4) (fVar 5)) fNil))))))
def fn_names : Fn := mkFn [true, false] 5 F_names
def B_project_1 : Sf :=
  (fSeq (fAsg (fIf (fB (fVar 5)) (fLc (fCons (fVar 3) fNil) seqIt (Gname 11) (fB (fOp neD (fVar 11) (fVar 7))) (fVar 11) [11]) (fSl slD (fVar 3) none (some (fVar 6)))) (Gname 8))
    (fSeq (fAsg (fIf (fB (fOp ltD (fVar 6) (fOp subD (fCB lenD (fCons (fVar 3) fNil)) (fC (.int 1))))) (fC (.int 4)) (fOp addD (fVar 2) (fC (.int 1)))) (Gname 9))
    (fSeq (fAsg (fSl slD (fCall [true, false] fn_mixed (fCons (fVar 0) (fCons (fVar 8) fNil))) none (some (fCall [true, false] fn_draw (fCons (fVar 0) (fCons (fCB (c2 min2) (fCons (fVar 9) (fCons (fOp addD (fCB lenD (fCons (fVar 8) fNil)) (fC (.int 1))) fNil))) fNil))))) (Gname 10))
    (fDrop (fMutL mAppend (fVar 4) (fCons (fTup (fCons (fVar 7) (fCons (fCB (c1 tupleD) (fCons (fVar 10) fNil)) (fCons (fCall [true, false] fn_choice (fCons (fVar 0) (fCons (fLst (fCons (fC (.str "effect")) (fCons (fC (.str "effect")) (fCons (fC (.str "pure")) fNil)))) fNil))) fNil)))) fNil))))))
def F_project : Sf :=
  (fSeq (fPar [3, 4] (fCons (fCall [true, false] fn_mixed (fCons (fVar 0) (fCons (fCall [true, false] fn_names (fCons (fVar 0) (fCons (fOp addD (fC (.int 1)) (fCall [true, false] fn_draw (fCons (fVar 0) (fCons (fVar 1) fNil)))) fNil))) fNil))) (fCons (fLst fNil) fNil)))
    (fSeq (fAsg (fOp eqD (fCall [true, false] fn_draw (fCons (fVar 0) (fCons (fC (.int 3)) fNil))) (fC (.int 0))) (Gname 5))
    (fSeq (fFor (fCons (fVar 3) fNil) enumIt (Gtup [(Gname 6), (Gname 7)]) B_project_1)
    (fRet (fCB (c1 tupleD) (fCons (fCB sortedY (fCons (fVar 4) fNil)) fNil))))))
def fn_project : Fn := mkFn [true, false, false] 9 F_project
/-- the source after n draws -/
structure Src (n : Nat) (d : D) : Prop where
  ex : ∃ a b c : Int, d = .lst [.int a, .int b, .int c] ∧ 0 ≤ a ∧ a < 10 ^ 300 ∧ 0 ≤ b ∧ b < 2 ^ 61 ∧ 0 ≤ c ∧ c ≤ n
theorem primeAt (c : Int) : ∃ p : Int, ixD (.lst [.int 2147483647, .int 2147483629, .int 2147483587, .int 2147483579, .int 2147483563, .int 2147483549, .int 2147483543]) (.int (c % 7)) = some (.val (.int p)) ∧ 0 < p ∧ p < 2 ^ 31 := by
  have h0 := Int.emod_nonneg c (show (7 : Int) ≠ 0 by decide)
  have h1 := Int.emod_lt_of_pos c (show (0 : Int) < 7 by decide)
  obtain ⟨k, hk⟩ := Int.eq_ofNat_of_zero_le h0
  rw [hk] at h1 ⊢
  have h2 : k < 7 := by omega
  match k, h2 with
  | 0, _ => exact ⟨_, rfl, by decide, by decide⟩
  | 1, _ => exact ⟨_, rfl, by decide, by decide⟩
  | 2, _ => exact ⟨_, rfl, by decide, by decide⟩
  | 3, _ => exact ⟨_, rfl, by decide, by decide⟩
  | 4, _ => exact ⟨_, rfl, by decide, by decide⟩
  | 5, _ => exact ⟨_, rfl, by decide, by decide⟩
  | 6, _ => exact ⟨_, rfl, by decide, by decide⟩
theorem bits_le {i : Int} {a : Nat} (h : i.natAbs < 2 ^ a) (h0 : 0 < a) : Builtin.Int.intBits i ≤ a := by
  have x := PySem.Flt.log2_lt_of h0 h
  unfold Builtin.Int.intBits
  split <;> omega
theorem powD_3 {i : Int} (h0 : 0 ≤ i) (h : i < 2 ^ 1000) : powD (.int i) (.int 3) = some (.val (.int (i ^ 3))) := by
  have e : i.natAbs < 2 ^ 1000 := by
    have : ((i.natAbs : Nat) : Int) < ((2 ^ 1000 : Nat) : Int) := by rw [Int.natAbs_of_nonneg h0]; exact_mod_cast h
    exact_mod_cast this
  have := bits_le e (by decide)
  have c : (0 : Int) ≤ 3 ∧ (Builtin.Int.intBits i : Int) * 3 ≤ 2 ^ 27 := ⟨by decide, by omega⟩
  simp only [i2, c, and_self, decide_true, if_true]
  rfl
theorem powD_i {i j : Int} {b : Nat} (h : Builtin.Int.intBits i = b) (h0 : 0 ≤ j) (h1 : (b : Int) * j ≤ 2 ^ 27) : powD (.int i) (.int j) = some (.val (.int (i ^ j.toNat))) := by
  have c : 0 ≤ j ∧ (Builtin.Int.intBits i : Int) * j ≤ 2 ^ 27 := ⟨h0, by rw [h]; exact h1⟩
  simp only [i2, c, and_self, decide_true, if_true]
theorem draw_ok {n : Nat} {d : D} {l : Int} (h : Src n d) (hn : n ≤ 2 ^ 60) (hl : 0 < l) (hl2 : l ≤ 2 ^ 100) : ∃ i d', fn_draw [d, .int l] = .ok (.val (.int i)) [d'] ∧ Src (n + 1) d' ∧ 0 ≤ i ∧ i < l := by
  obtain ⟨a, b, c, rfl, ha, ha2, hb, hb2, hc, hc2⟩ := h.ex
  by_cases h0 : 0 < a
  · refine ⟨a % l, .lst [.int (a / l), .int b, .int c], ?_, ⟨_, _, _, rfl, Int.ediv_nonneg ha (by omega), ?_, hb, hb2, hc, by push_cast; omega⟩, Int.emod_nonneg _ (by omega), Int.emod_lt_of_pos _ hl⟩
    · unfold fn_draw F_draw
      apply ev_fnR rfl
      · apply ev_seqR
        walk_at "ev"
        all_goals omega
      all_goals rfl
    · exact Int.lt_of_le_of_lt (Int.ediv_le_self _ ha) ha2
  · obtain ⟨p, hp, hp0, hp1⟩ := primeAt (c + 1)
    have hc3 : c + 1 ≤ 2 ^ 60 + 1 := by
      have : (n : Int) ≤ 2 ^ 60 := by exact_mod_cast hn
      omega
    have m0 := Int.emod_nonneg ((b + 6700417 * (c + 1) * (c + 1) + 23) ^ 3) (show p ≠ 0 by omega)
    have m1 := Int.emod_lt_of_pos ((b + 6700417 * (c + 1) * (c + 1) + 23) ^ 3) hp0
    have q1 : (c + 1) * (c + 1) ≤ (2 ^ 60 + 1) * (2 ^ 60 + 1) := Int.mul_le_mul hc3 hc3 (by omega) (by omega)
    have q0 : 0 ≤ (c + 1) * (c + 1) := Int.mul_nonneg (by omega) (by omega)
    have qe : 6700417 * (c + 1) * (c + 1) = 6700417 * ((c + 1) * (c + 1)) := Int.mul_assoc _ _ _
    have pw := powD_3 (i := b + 6700417 * (c + 1) * (c + 1) + 23) (by omega) (by rw [qe]; omega)
    refine ⟨((((b + 6700417 * (c + 1) * (c + 1) + 23) ^ 3 % p) * ((b + 6700417 * (c + 1) * (c + 1) + 23) ^ 3 % p % 10007 + 97 * (c + 1))) % 2305843009213693921 / 97) % l, .lst [.int a, .int b, .int (c + 1)], ?_, ⟨_, _, _, rfl, ha, ha2, hb, hb2, by omega, by push_cast; omega⟩, Int.emod_nonneg _ (by omega), Int.emod_lt_of_pos _ hl⟩
    unfold fn_draw F_draw
    apply ev_fnR rfl
    · walk_at "ev"
      all_goals first | omega | decide
      all_goals trace_state
    all_goals rfl
theorem choice_ok {n : Nat} {d : D} {xs : List D} (h : Src n d) (hn : n ≤ 2 ^ 60) (hx : xs ≠ []) (hl : xs.length ≤ 1000000) : ∃ x d', fn_choice [d, .lst xs] = .ok (.val x) [d'] ∧ Src (n + 1) d' ∧ x ∈ xs := by
  have hp : 0 < xs.length := List.length_pos_iff.mpr hx
  obtain ⟨i, d', e, s, h0, h1⟩ := draw_ok (l := xs.length) h hn (by omega) (by omega)
  obtain ⟨k, rfl⟩ := Int.eq_ofNat_of_zero_le h0
  have hk : k < xs.length := by omega
  have q : ixD (.lst xs) (.int k) = some (.val xs[k]) := by rw [ixD_l, atI_nat (List.getElem?_eq_getElem hk)]; rfl
  refine ⟨xs[k], d', ?_, s, List.getElem_mem hk⟩
  unfold fn_choice F_choice
  apply ev_fnR rfl
  · walk_at "ev"
  all_goals rfl
theorem seqIndex_nat {k n : Nat} (h : k < n) : seqIndex? (k : Int) n = some k := by
  unfold seqIndex?
  simp
  omega
theorem pick_perm {α : Type} : ∀ {xs : List α} {k : Nat} (h : k < xs.length), (xs[k] :: xs.eraseIdx k).Perm xs
  | x :: xs, 0, _ => .refl _
  | x :: xs, k + 1, h => by
    simp only [List.getElem_cons_succ, List.eraseIdx_cons_succ]
    exact (List.Perm.swap _ _ _).trans ((pick_perm (xs := xs) (k := k) (by simpa using h)).cons x)
theorem mixed_turns (xs : List D) : ∀ (items left : List D) (acc : List D) (n : Nat) (d : D), items.length = left.length → acc.length + left.length ≤ 100000 → Src n d → n + left.length ≤ 2 ^ 60 →
    ∃ ys d', ys.Perm left ∧ Src (n + left.length) d' ∧ turnsF (Gname 3) fYes (lcB (fMutL mPopAt (fVar 2) (fCons (fCall [true, false] fn_draw (fCons (fVar 0) (fCons (fCB lenD (fCons (fVar 2) fNil)) fNil))) fNil))) [3] items acc [some (.par d), some (.frz (.lst xs)), some (.own (.lst left)), none]
      = .ok (acc ++ ys) [some (.par d'), some (.frz (.lst xs)), some (.own (.lst [])), none] := by
  intro items
  induction items with
  | nil =>
    intro left acc n d hl ha hs hn
    have : left = [] := List.length_eq_zero_iff.mp hl.symm
    subst this
    exact ⟨[], d, .refl _, hs, by rw [List.append_nil]; rfl⟩
  | cons it items ih =>
    intro left acc n d hl ha hs hn
    simp only [List.length_cons] at hl
    obtain ⟨i, d1, e, s1, h0, h1⟩ := draw_ok (l := left.length) hs (by omega) (by omega) (by omega)
    obtain ⟨k, rfl⟩ := Int.eq_ofNat_of_zero_le h0
    have hk : k < left.length := by omega
    have hle : (left.eraseIdx k).length = left.length - 1 := List.length_eraseIdx_of_lt hk
    obtain ⟨ys, d', hp, s2, et⟩ := ih (left.eraseIdx k) (acc ++ [left[k]]) (n + 1) d1 (by rw [hle]; omega) (by rw [hle]; simp; omega) s1 (by rw [hle]; omega)
    have hm : mPopAt (.lst left) [.int k] = some (.lst (left.eraseIdx k), left[k]) := by
      unfold mPopAt mPop
      simp only [List.isEmpty_cons, Bool.false_eq_true, if_false]
      rw [if_pos (by omega), seqIndex_nat hk]
      simp only
      rw [List.getElem?_eq_getElem hk]
    refine ⟨left[k] :: ys, d', ?_, by rw [show n + left.length = n + 1 + (left.eraseIdx k).length by rw [hle]; omega]; exact s2, ?_⟩
    · exact (List.Perm.cons _ hp).trans (pick_perm hk)
    · have et' : _ = Res.ok (acc ++ left[k] :: ys) [some (Ent.par d'), some (Ent.frz (.lst xs)), some (Ent.own (.lst [])), none] := et.trans (by rw [List.append_assoc]; rfl)
      walk_at "ev"
theorem mixed_ok {n : Nat} {d : D} {xs : List D} (h : Src n d) (hn : n + xs.length ≤ 2 ^ 60) (hl : xs.length ≤ 100000) : ∃ ys d', fn_mixed [d, .lst xs] = .ok (.new (.lst ys)) [d'] ∧ Src (n + xs.length) d' ∧ ys.Perm xs := by
  obtain ⟨ys, d', hp, s, e⟩ := mixed_turns xs (rangeL 0 xs.length) xs [] n d (by simp [rangeL]) (by simpa using hl) h hn
  rw [List.nil_append] at e
  refine ⟨ys, d', ?_, s, hp⟩
  unfold fn_mixed F_mixed
  apply ev_fnR rfl
  · walk_at "ev"
  all_goals rfl
theorem start_ok {ns : List Int} {k : Nat} (hk : k ≤ 1000) : ∃ d, fn_start [.scr ns, .int k] = .ok (.new d) [] ∧ Src 0 d := by
  obtain ⟨c, hc⟩ : ∃ c : Int, fIf (fB (fOp ltD (fVar 1) (fCB lenD (fCons (fVar 0) fNil)))) (fOp ixD (fVar 0) (fVar 1)) (fOp addD (fOp mulD (fC (.int 17)) (fVar 1)) (fC (.int 3))) [some (.frz (.scr ns)), some (.frz (.int k)), none, none] = .ok (.val (.int c)) [some (.frz (.scr ns)), some (.frz (.int k)), none, none] := by
    by_cases h : k < ns.length
    · refine ⟨ns[k], ?_⟩
      have q : ixD (.scr ns) (.int k) = some (.val (.int ns[k])) := by
        simp only [ixD, orD, ixL, ixT, ixS, ixScr]
        rw [atI_nat (List.getElem?_eq_getElem h)]
      have h' : (k : Int) < ns.length := by omega
      walk_at "ev"
    · refine ⟨17 * k + 3, ?_⟩
      have h' : ¬ (k : Int) < ns.length := by omega
      walk_at "ev"
  obtain ⟨a, ha⟩ : ∃ a : Int, a = if c < 0 then -c else c := ⟨_, rfl⟩
  have a0 : 0 ≤ a := by rw [ha]; split <;> omega
  have p1 : powD (.int 10) (.int 60) = some (.val (.int (10 ^ 60))) := by exact powD_i (b := 4) (by decide +kernel) (by decide) (by decide)
  have p2 : powD (.int (10 ^ 60)) (.int 5) = some (.val (.int (10 ^ 300))) := by exact powD_i (b := 200) (by decide +kernel) (by decide) (by decide)
  have p3 : powD (.int 10) (.int 18) = some (.val (.int (10 ^ 18))) := by exact powD_i (b := 4) (by decide +kernel) (by decide) (by decide)
  have ab : c1 absD [.int c] = some (.val (.int a)) := by rw [ha]; rfl
  have m0 := Int.emod_nonneg a (show (10 ^ 300 : Int) ≠ 0 by decide)
  have m1 := Int.emod_lt_of_pos a (show (0 : Int) < 10 ^ 300 by decide)
  have n0 := Int.emod_nonneg c (show (2305843009213693951 : Int) ≠ 0 by decide)
  have n1 := Int.emod_lt_of_pos c (show (0 : Int) < 2305843009213693951 by decide)
  have kk : (k : Int) * k ≤ 1000 * 1000 := Int.mul_le_mul (by omega) (by omega) (by omega) (by omega)
  have k0 : 0 ≤ (k : Int) * k := Int.mul_nonneg (by omega) (by omega)
  have ke : 15485869 * (k : Int) * k = 15485869 * (k * k) := Int.mul_assoc _ _ _
  refine ⟨.lst [.int (a % 10 ^ 300 * if decide (a ≥ 10 ^ 18) then 1 else 0), .int ((c % 2305843009213693951 + 15485869 * k * k + 53) * 16807 % 2305843009213693907), .int 0], ?_, ⟨_, _, _, rfl, ?_, ?_, Int.emod_nonneg _ (by decide), ?_, by omega, by omega⟩⟩
  · unfold fn_start F_start
    apply ev_fnR rfl
    · apply ev_seq (ev_asg hc rfl) rfl
      walk_at "ev"
    all_goals rfl
  · split <;> omega
  · split <;> omega
  · exact Int.lt_of_lt_of_le (Int.emod_lt_of_pos _ (by decide)) (by decide)
end FL

set_option Elab.async false
set_option linter.all false
set_option maxRecDepth 100000
set_option maxHeartbeats 4000000
set_option exponentiation.threshold 100000
/-! P2: names. -/
namespace FL
open PySem PySem.Spec PyProof.Rows L2 GL
local macro_rules | `(tactic| walk_at "ev") => `(tactic| repeat' (first
  | (show _ = _; with_reducible assumption)
  | with_reducible exact ev_c | with_reducible exact ev_nil | with_reducible exact ev_yes | with_reducible exact ev_next | with_reducible exact ev_break | with_reducible exact ev_cont | with_reducible exact ev_retN | with_reducible exact ev_opt0
  | with_reducible apply ev_var | with_reducible apply ev_op | with_reducible apply ev_un | with_reducible apply ev_cb | with_reducible apply ev_cons | with_reducible apply ev_tup | with_reducible apply ev_lst
  | with_reducible apply ev_B | with_reducible apply ev_not | with_reducible apply ev_and | with_reducible apply ev_or | with_reducible apply ev_andV | with_reducible apply ev_orV | with_reducible apply ev_notV | with_reducible apply ev_if
  | with_reducible apply ev_opt1 | with_reducible apply ev_sl | with_reducible apply ev_call | with_reducible apply ev_mut
  | with_reducible apply ev_seq | with_reducible apply ev_ret | with_reducible apply ev_drop | with_reducible apply ev_ifS | with_reducible apply ev_asg | with_reducible apply ev_par | with_reducible apply ev_aug | with_reducible apply ev_sub
  | with_reducible refine ev_dT (by first | assumption | omega) ?_ | with_reducible refine ev_dF (by first | assumption | omega) ?_ | with_reducible refine ev_T (by first | rfl | assumption) ?_ | with_reducible refine ev_F (by first | rfl | assumption) ?_
  | with_reducible exact addD_i | with_reducible exact subD_i | with_reducible exact ltD_i | with_reducible exact leD_i | with_reducible exact ixD_l0 | with_reducible exact ixD_l1 | with_reducible exact ixD_l2 | with_reducible exact ixD_t0 | with_reducible exact ixD_t1 | with_reducible exact ixD_t2
  | with_reducible apply modD_i | with_reducible apply divD_i | with_reducible apply mulD_p
  | with_reducible apply ev_rng1 | with_reducible apply ev_rng2 | with_reducible apply ev_for' | with_reducible apply ev_lc | with_reducible apply ev_dc | with_reducible apply ev_turn | with_reducible exact ev_turn0 | with_reducible apply ev_lcB | with_reducible apply ev_dcB
  | with_reducible apply gn_val | with_reducible apply gn_new | with_reducible apply g_tup | with_reducible apply gall_cons | with_reducible exact gall_nil | with_reducible apply stores_cons | with_reducible exact stores_nil
  | with_reducible exact FreeE.none | with_reducible exact FreeE.frz | with_reducible exact FreeE.own | (show FreeE _; assumption)
  | with_reducible exact ixN_0 | with_reducible exact ixN_1 | with_reducible exact ixN_2
  | (show _ = _; dsimp only [Ent.val, Ent.put, Ent.tok]; with_reducible assumption)
  | (show turnsF _ _ _ _ _ _ _ = _; assumption) | (show loopF _ _ _ _ = _; assumption)
  | (show (_ : Env) = _; first | (dsimp only [startE, List.replicate, List.append_eq, List.cons_append, List.nil_append, List.set_cons_zero, List.set_cons_succ, List.getElem?_cons_zero, List.getElem?_cons_succ, Ent.put, Ent.val, Ent.tok, backs, lockAll, lockT, unlockAll, unlock, List.foldr, rest, wipeE, Option.join] <;> rfl) | rfl)
  | (show List.length _ ≤ _; exact Nat.le_of_ble_eq_true rfl) | (show _ < _; omega) | (show _ ≤ _; omega)
  | rfl))
def NameOk (z : Str) : Prop := 1 ≤ z.length ∧ z.length ≤ 10 ∧ ∀ c ∈ z.cps.toList, 97 ≤ c ∧ c ≤ 122
def Asc (ys : List Str) : Prop := ys.Pairwise fun x y => sLt x y = true
def letter (f : Int) (i : Nat) : Nat := 97 + ((f + 7 * i) % 26).toNat
def nameAt (stem : Str) (f : Int) (i : Nat) : Str := stem ++ ⟨#[letter f i]⟩
theorem letter_inj {f : Int} {i j : Nat} (hi : i < 26) (hj : j < 26) (h : letter f i = letter f j) : i = j := by
  unfold letter at h
  omega
theorem alpha_at (r : Int) (h0 : 0 ≤ r) (h1 : r < 26) : atI (Str.cps "abcdefghijklmnopqrstuvwxyz").toList r = some (97 + r.toNat) := by
  obtain ⟨n, rfl⟩ := Int.eq_ofNat_of_zero_le h0
  have hn : n < 26 := by omega
  have all : ∀ m : Fin 26, atI (Str.cps "abcdefghijklmnopqrstuvwxyz").toList ((m : Nat) : Int) = some (97 + ((m : Nat) : Int).toNat) := by decide +kernel
  exact all ⟨n, hn⟩
theorem cps_add (a b : Str) : (a ++ b).cps.toList = a.cps.toList ++ b.cps.toList := by
  rw [Str.cps_append, Array.toList_append]
theorem nameAt_cps (stem : Str) (f : Int) (i : Nat) : (nameAt stem f i).cps.toList = stem.cps.toList ++ [letter f i] := by
  unfold nameAt
  rw [cps_add]
theorem nameAt_inj {stem : Str} {f : Int} {i j : Nat} (hi : i < 26) (hj : j < 26) (h : nameAt stem f i = nameAt stem f j) : i = j := by
  have e := congrArg (fun z : Str => z.cps.toList) h
  simp only [nameAt_cps] at e
  have := List.append_cancel_left e
  exact letter_inj hi hj (List.cons.inj this).1
theorem nameAt_len (stem : Str) (f : Int) (i : Nat) : (nameAt stem f i).length = stem.length + 1 := by
  unfold nameAt
  rw [Str.length_append]
  rfl
def allNames (stem : Str) (f : Int) (n m : Nat) : List Str := (List.range n).map (nameAt stem f) ++ (List.range m).map fun i => ("x" : Str) ++ nameAt stem f i
theorem x_cancel {a b : Str} (h : ("x" : Str) ++ a = ("x" : Str) ++ b) : a = b := by
  have e := congrArg (fun z : Str => z.cps.toList) h
  simp only [cps_add] at e
  have := List.append_cancel_left e
  cases a
  cases b
  simp only [Str.mk.injEq]
  exact Array.toList_inj.mp this
theorem nodup_map_range {α : Type} {f : Nat → α} : ∀ {n : Nat}, (∀ i j, i < n → j < n → f i = f j → i = j) → ((List.range n).map f).Nodup := fun {n} h => by
  refine List.pairwise_map.mpr ?_
  refine List.Pairwise.imp_of_mem ?_ (List.nodup_range (n := n))
  intro a b ha hb hab e
  exact hab (h a b (List.mem_range.mp ha) (List.mem_range.mp hb) e)
theorem allNames_nodup {stem : Str} {f : Int} {n m : Nat} (hn : n ≤ 26) (hm : m ≤ 26) : (allNames stem f n m).Nodup := by
  refine List.nodup_append.mpr ⟨nodup_map_range fun i j hi hj => nameAt_inj (by omega) (by omega), nodup_map_range fun i j hi hj e => nameAt_inj (by omega) (by omega) (x_cancel e), ?_⟩
  intro a ha b hb e
  obtain ⟨i, _, rfl⟩ := List.mem_map.mp ha
  obtain ⟨j, _, rfl⟩ := List.mem_map.mp hb
  have := congrArg Str.length e
  rw [Str.length_append, nameAt_len, nameAt_len] at this
  have h1 : (("x" : Str)).length = 1 := by decide +kernel
  omega
def stems : List Str := ["", "m", "mod", "zzzzzzzz", "a"]
theorem stem_ok {stem : Str} (h : stem ∈ stems) : stem.length ≤ 8 ∧ ∀ c ∈ stem.cps.toList, 97 ≤ c ∧ c ≤ 122 := by
  have all : ∀ z ∈ stems, z.length ≤ 8 ∧ ∀ c ∈ z.cps.toList, 97 ≤ c ∧ c ≤ 122 := by decide +kernel
  exact all stem h
theorem nameAt_ok {stem : Str} {f : Int} (h : stem ∈ stems) (i : Nat) : NameOk (nameAt stem f i) ∧ NameOk (("x" : Str) ++ nameAt stem f i) := by
  obtain ⟨h1, h2⟩ := stem_ok h
  have hl := nameAt_len stem f i
  have hx : (("x" : Str)).length = 1 := by decide +kernel
  have hc : ∀ c ∈ (nameAt stem f i).cps.toList, 97 ≤ c ∧ c ≤ 122 := by
    intro c hc
    rw [nameAt_cps] at hc
    rcases List.mem_append.mp hc with hc | hc
    · exact h2 c hc
    · have : c = letter f i := by simpa using hc
      rw [this]
      unfold letter
      omega
  refine ⟨⟨by omega, by omega, hc⟩, by rw [Str.length_append]; omega, by rw [Str.length_append]; omega, ?_⟩
  intro c hc'
  rw [cps_add] at hc'
  rcases List.mem_append.mp hc' with hc' | hc'
  · have all : ∀ c ∈ (Str.cps "x").toList, 97 ≤ c ∧ c ≤ 122 := by decide +kernel
    exact all c hc'
  · exact hc c hc'
theorem rangeL_mem {lo : Int} {n : Nat} {d : D} (h : d ∈ rangeL lo n) : ∃ i : Nat, i < n ∧ d = .int (lo + i) := by
  unfold rangeL at h
  obtain ⟨i, hi, rfl⟩ := List.mem_map.mp h
  exact ⟨i, List.mem_range.mp hi, rfl⟩
theorem rangeL_map (lo : Int) (n : Nat) (g : D → D) : (rangeL lo n).map g = (List.range n).map fun i => g (.int (lo + (i : Nat))) := by
  unfold rangeL
  rw [List.map_map]; rfl
theorem sort_asc {xs : List Str} (h : xs.Nodup) : Asc (sortS xs) := by
  have h2 : (sortS xs).Nodup := (sortS_perm xs).nodup_iff.mpr h
  exact ((sortS_sorted xs).and h2).imp fun {a b} z => by
    rcases sLt_or z.2 with h | h
    · exact h
    · have := z.1
      simp [sLe, h] at this
theorem sortedD_s {xs : List Str} (h : xs.length < 64) : sortedY [.lst (xs.map D.str)] = some (.new (.lst ((sortS xs).map D.str))) := by
  simp only [sortedY, sortedX, sortedD, orC, c1, sortedA, strsD_map, h, if_true]
theorem ixD_s {z : Str} {i : Int} {c : Nat} (hl : z.length ≤ 1000000) (h : atI z.cps.toList i = some c) : ixD (.str z) (.int i) = some (.val (.str ⟨#[c]⟩)) := by
  simp only [ixD, orD, ixL, ixT, ixS, hl, if_true, h]
theorem names_okL {N : Nat} {d : D} {c : Nat} (h : Src N d) (hN : N + 2 ≤ 2 ^ 60) (hc : c ≤ 52) : ∃ ys d', fn_names [d, .int c] = .ok (.new (.lst (ys.map D.str))) [d'] ∧ Src (N + 2) d' ∧ Asc ys ∧ (∀ y ∈ ys, NameOk y) ∧ ys.length = c ∧ (c ≤ 26 → ∃ L, L ≤ 9 ∧ ∀ y ∈ ys, y.length = L) := by
  obtain ⟨x, d1, e1, s1, hx⟩ := choice_ok (xs := stems.map D.str) h (by omega) (by simp [stems]) (by simp [stems])
  obtain ⟨f, d2, e2, s2, f0, f1⟩ := draw_ok (l := 26) s1 (by omega) (by decide) (by decide)
  obtain ⟨stem, hst, rfl⟩ := List.mem_map.mp hx
  simp only [stems, List.map_cons, List.map_nil] at e1
  have sl := (stem_ok hst).1
  obtain ⟨m, hm⟩ : ∃ m : Nat, m = min c 26 := ⟨_, rfl⟩
  have hmin : c2 min2 [.int c, .int 26] = some (.val (.int m)) := by
    show some (Tok.val (.int (if (26 : Int) < c then 26 else c))) = _
    congr 3
    split <;> omega
  -- the first names
  let A : List Str := (List.range m).map (nameAt stem f)
  have hA : A.length = m := by simp [A]
  have t1 := turns_map (G := Gname 6) (ft := fYes) (vs := [6]) (acc := []) (fe := fOp addD (fVar 2) (fOp ixD (fC (.str "abcdefghijklmnopqrstuvwxyz")) (fOp modD (fOp addD (fVar 3) (fOp mulD (fC (.int 7)) (fVar 6))) (fC (.int 26)))))
    (fun _ => true) (fun d => match d with | .int i => .str (nameAt stem f i.toNat) | d => d) (rangeL 0 m) [some (.par d2), some (.frz (.int c)), some (.frz (.str stem)), some (.frz (.int f)), none, none, none] (by simp [rangeL]; omega) (by
      intro x hx
      obtain ⟨i, hi, rfl⟩ := rangeL_mem hx
      rw [Int.zero_add]
      refine ⟨_, rfl, rfl, rfl, fun _ => ?_⟩
      have r0 := Int.emod_nonneg (f + 7 * i) (show (26 : Int) ≠ 0 by decide)
      have r1 := Int.emod_lt_of_pos (f + 7 * i) (show (0 : Int) < 26 by decide)
      have q := ixD_s (z := "abcdefghijklmnopqrstuvwxyz") (by decide +kernel) (alpha_at _ r0 r1)
      have q2 : addD (.str stem) (.str ⟨#[97 + ((f + 7 * i) % 26).toNat]⟩) = some (.val (.str (nameAt stem f i))) := by
        rw [addD_s (by show stem.length + 1 ≤ _; omega)]; rfl
      refine ⟨.val (.str (nameAt stem f i)), ?_, rfl⟩
      walk_at "ev")
  have f1e : (List.filter (fun _ => true) (rangeL 0 m)).map (fun d => match d with | .int i => .str (nameAt stem f i.toNat) | d => d) = A.map D.str := by
    rw [List.filter_eq_self.mpr (fun _ _ => rfl), rangeL_map, List.map_map]
    refine List.map_congr_left fun i _ => ?_
    simp
  rw [f1e, List.nil_append] at t1
  -- the others
  have hB : ∃ B : List Str, B = (List.range (c - 26)).map (fun i => ("x" : Str) ++ nameAt stem f i) := ⟨_, rfl⟩
  obtain ⟨B, hB⟩ := hB
  have t2 := turns_map (G := Gname 6) (ft := fYes) (vs := [6]) (acc := []) (fe := fOp addD (fC (.str "x")) (fOp ixD (fVar 4) (fOp modD (fVar 6) (fC (.int 26)))))
    (fun _ => true) (fun d => match d with | .int i => .str (("x" : Str) ++ nameAt stem f (i - 26).toNat) | d => d) (rangeL 26 (c - 26)) [some (.par d2), some (.frz (.int c)), some (.frz (.str stem)), some (.frz (.int f)), some (.own (.lst (A.map D.str))), none, none] (by simp [rangeL]; omega) (by
      intro x hx
      obtain ⟨i, hi, rfl⟩ := rangeL_mem hx
      refine ⟨_, rfl, rfl, rfl, fun _ => ?_⟩
      have im : (26 + (i : Int)) % 26 = (i : Nat) := by omega
      have hiA : i < A.length := by omega
      have q : ixD (.lst (A.map D.str)) (.int ((26 + (i : Int)) % 26)) = some (.val (.str (nameAt stem f i))) := by
        rw [im, ixD_l, atI_nat (a := .str (nameAt stem f i))]
        · rfl
        · rw [List.getElem?_map]
          have : A[i]? = some (nameAt stem f i) := by simp only [A, List.getElem?_map, List.getElem?_range (show i < m by omega)]; rfl
          rw [this]; rfl
      have q2 : addD (.str "x") (.str (nameAt stem f i)) = some (.val (.str (("x" : Str) ++ nameAt stem f i))) := by
        rw [addD_s]
        have : (("x" : Str)).length = 1 := by decide +kernel
        rw [this, nameAt_len]; omega
      refine ⟨.val (.str (("x" : Str) ++ nameAt stem f i)), ?_, by rw [keepT_val]; show _ = some (D.str (("x" : Str) ++ nameAt stem f (26 + (i : Int) - 26).toNat), _); rw [show (26 + (i : Int) - 26).toNat = i by omega]⟩
      walk_at "ev")
  have f2e : (List.filter (fun _ => true) (rangeL 26 (c - 26))).map (fun d => match d with | .int i => .str (("x" : Str) ++ nameAt stem f (i - 26).toNat) | d => d) = B.map D.str := by
    rw [List.filter_eq_self.mpr (fun _ _ => rfl), rangeL_map, hB, List.map_map]
    refine List.map_congr_left fun i _ => ?_
    simp
    congr 3
    omega
  rw [f2e, List.nil_append, ← show ((c : Int) - 26).toNat = c - 26 by omega] at t2
  have hBl : B.length = c - 26 := by rw [hB]; simp
  have all : A ++ B = allNames stem f m (c - 26) := by rw [hB]; rfl
  have nd : (A ++ B).Nodup := by rw [all]; exact allNames_nodup (by omega) (by omega)
  have nok : ∀ y ∈ A ++ B, NameOk y := by
    intro y hy
    rw [hB] at hy
    rcases List.mem_append.mp hy with hy | hy
    · obtain ⟨i, _, rfl⟩ := List.mem_map.mp hy
      exact (nameAt_ok hst i).1
    · obtain ⟨i, _, rfl⟩ := List.mem_map.mp hy
      exact (nameAt_ok hst i).2
  have len : (A ++ B).length = c := by rw [List.length_append, hA, hBl]; omega
  refine ⟨sortS (A ++ B), d2, ?_, s2, sort_asc nd, fun y hy => nok y ((sortS_perm _).mem_iff.mp hy), by rw [(sortS_perm _).length_eq, len], fun hc2 => ⟨stem.length + 1, by omega, fun y hy => ?_⟩⟩
  rotate_left
  · have hy2 := (sortS_perm _).mem_iff.mp hy
    rcases List.mem_append.mp hy2 with z | z
    · obtain ⟨i, _, rfl⟩ := List.mem_map.mp z
      exact nameAt_len stem f i
    · rw [hB, show c - 26 = 0 by omega] at z
      simp at z
  have cat : addD (.lst (A.map D.str)) (.lst (B.map D.str)) = some (.new (.lst ((A ++ B).map D.str))) := by
    rw [addD_l (by simp at len ⊢; omega), List.map_append]
  have srt := sortedD_s (xs := A ++ B) (by omega)
  unfold fn_names F_names
  apply ev_fnR rfl
  · walk_at "ev"
  all_goals rfl
theorem names_ok {N : Nat} {d : D} {c : Nat} (h : Src N d) (hN : N + 2 ≤ 2 ^ 60) (hc : c ≤ 52) : ∃ ys d', fn_names [d, .int c] = .ok (.new (.lst (ys.map D.str))) [d'] ∧ Src (N + 2) d' ∧ Asc ys ∧ (∀ y ∈ ys, NameOk y) ∧ ys.length = c := by
  obtain ⟨ys, d', h1, h2, h3, h4, h5, _⟩ := names_okL h hN hc
  exact ⟨ys, d', h1, h2, h3, h4, h5⟩
end FL

set_option Elab.async false
set_option linter.all false
set_option maxRecDepth 100000
set_option maxHeartbeats 4000000
set_option exponentiation.threshold 100000
/-! P3: projects. -/
namespace FL
open PySem PySem.Spec PyProof.Rows L2 GL
local macro_rules | `(tactic| walk_at "ev") => `(tactic| repeat' (first
  | (show _ = _; with_reducible assumption)
  | with_reducible exact ev_c | with_reducible exact ev_nil | with_reducible exact ev_yes | with_reducible exact ev_next | with_reducible exact ev_break | with_reducible exact ev_cont | with_reducible exact ev_retN | with_reducible exact ev_opt0
  | with_reducible apply ev_var | with_reducible apply ev_op | with_reducible apply ev_un | with_reducible apply ev_cb | with_reducible apply ev_cons | with_reducible apply ev_tup | with_reducible apply ev_lst
  | with_reducible apply ev_B | with_reducible apply ev_not | with_reducible apply ev_and | with_reducible apply ev_or | with_reducible apply ev_andV | with_reducible apply ev_orV | with_reducible apply ev_notV | with_reducible apply ev_if
  | with_reducible apply ev_opt1 | with_reducible apply ev_sl | with_reducible apply ev_call | with_reducible apply ev_mut
  | with_reducible apply ev_seq | with_reducible apply ev_ret | with_reducible apply ev_drop | with_reducible apply ev_ifS | with_reducible apply ev_asg | with_reducible apply ev_par | with_reducible apply ev_aug | with_reducible apply ev_sub
  | with_reducible refine ev_dT (by first | assumption | omega) ?_ | with_reducible refine ev_dF (by first | assumption | omega) ?_ | with_reducible refine ev_T (by first | rfl | assumption) ?_ | with_reducible refine ev_F (by first | rfl | assumption) ?_
  | with_reducible exact addD_i | with_reducible exact subD_i | with_reducible exact ltD_i | with_reducible exact leD_i | with_reducible exact ixD_l0 | with_reducible exact ixD_l1 | with_reducible exact ixD_l2 | with_reducible exact ixD_t0 | with_reducible exact ixD_t1 | with_reducible exact ixD_t2
  | with_reducible apply modD_i | with_reducible apply divD_i | with_reducible apply mulD_p
  | with_reducible apply ev_rng1 | with_reducible apply ev_rng2 | with_reducible apply ev_for' | with_reducible apply ev_lc | with_reducible apply ev_dc | with_reducible apply ev_turn | with_reducible exact ev_turn0 | with_reducible apply ev_lcB | with_reducible apply ev_dcB
  | with_reducible apply gn_val | with_reducible apply gn_new | with_reducible apply g_tup | with_reducible apply gall_cons | with_reducible exact gall_nil | with_reducible apply stores_cons | with_reducible exact stores_nil
  | with_reducible exact FreeE.none | with_reducible exact FreeE.frz | with_reducible exact FreeE.own | (show FreeE _; assumption)
  | with_reducible exact ixN_0 | with_reducible exact ixN_1 | with_reducible exact ixN_2
  | (show _ = _; dsimp only [Ent.val, Ent.put, Ent.tok]; with_reducible assumption)
  | (show turnsF _ _ _ _ _ _ _ = _; assumption) | (show loopF _ _ _ _ = _; assumption)
  | (show (_ : Env) = _; first | (dsimp only [startE, List.replicate, List.append_eq, List.cons_append, List.nil_append, List.set_cons_zero, List.set_cons_succ, List.getElem?_cons_zero, List.getElem?_cons_succ, Ent.put, Ent.val, Ent.tok, backs, lockAll, lockT, unlockAll, unlock, List.foldr, rest, wipeE, Option.join] <;> rfl) | rfl)
  | (show List.length _ ≤ _; exact Nat.le_of_ble_eq_true rfl) | (show _ < _; omega) | (show _ ≤ _; omega)
  | rfl))
/-! ### equality of texts and numbers -/
theorem str_lay {x : Str} (h : ∀ c ∈ x.cps.toList, c < 128) : PyData.strOk x = true := by
  unfold PyData.strOk
  rw [Array.all_eq_true_iff_forall_mem]
  intro c hc
  have := h c (by simpa using hc)
  simp
  omega
theorem NameOk.lay {x : Str} (h : NameOk x) : PyData.strOk x = true := str_lay fun c hc => by have := (h.2.2 c hc).2; omega
theorem eqD_of {a b : D} {p q : PyData} (ha : toP a = some p) (hb : toP b = some q) (sa : SeqAt.shaped p = true) (sb : SeqAt.shaped q = true) : eqD a b = some (.val (.bl (PyData.eqv p q))) := by
  simp only [eqD, orD, eqA, eqP, ha, hb, sa, sb, and_self, if_true]
theorem neD_of {a b : D} {p q : PyData} (ha : toP a = some p) (hb : toP b = some q) (sa : SeqAt.shaped p = true) (sb : SeqAt.shaped q = true) : neD a b = some (.val (.bl (!PyData.eqv p q))) := by
  simp only [neD, orD, neA, eqP, ha, hb, sa, sb, and_self, if_true]
theorem shaped_str {x : Str} (h : PyData.strOk x = true) : SeqAt.shaped (.str x) = true := by
  unfold SeqAt.shaped
  simp only [PyData.canLay0, h, PyData.depth]
  rfl
theorem shaped_int {i : Int} : SeqAt.shaped (.int i) = true := by
  unfold SeqAt.shaped
  simp only [PyData.canLay0, PyData.depth]
  rfl
theorem beq_dec {α : Type} [DecidableEq α] (a b : α) : (a == b) = decide (a = b) := by
  by_cases h : a = b <;> simp [h]
theorem eqD_s {a b : Str} (ha : PyData.strOk a = true) (hb : PyData.strOk b = true) : eqD (.str a) (.str b) = some (.val (.bl (decide (a = b)))) := by
  rw [eqD_of rfl rfl (shaped_str ha) (shaped_str hb)]
  simp [PyData.eqv, beq_dec]
theorem neD_s {a b : Str} (ha : PyData.strOk a = true) (hb : PyData.strOk b = true) : neD (.str a) (.str b) = some (.val (.bl (!decide (a = b)))) := by
  rw [neD_of rfl rfl (shaped_str ha) (shaped_str hb)]
  simp [PyData.eqv, beq_dec]
theorem eqD_i {a b : Int} : eqD (.int a) (.int b) = some (.val (.bl (decide (a = b)))) := by
  rw [eqD_of rfl rfl shaped_int shaped_int]
  simp [PyData.eqv, beq_dec]
theorem neD_i {a b : Int} : neD (.int a) (.int b) = some (.val (.bl (!decide (a = b)))) := by
  rw [neD_of rfl rfl shaped_int shaped_int]
  simp [PyData.eqv, beq_dec]
/-! ### projects -/
structure Mod where
  name : Str
  imps : List Str
  eff : Bool
def kindS (b : Bool) : Str := if b then "effect" else "pure"
def modV (m : Mod) : D := .tup [.str m.name, .tup (m.imps.map D.str), .str (kindS m.eff)]
def projV (p : List Mod) : D := .tup (p.map modV)
structure ProjOk (p : List Mod) : Prop where
  asc : Asc (p.map (·.name))
  nm : ∀ m ∈ p, NameOk m.name
  nd : ∀ m ∈ p, m.imps.Nodup
  own : ∀ m ∈ p, m.name ∉ m.imps
  inn : ∀ m ∈ p, ∀ i ∈ m.imps, i ∈ p.map (·.name)
def sortP (ms : List Mod) : List Mod := ms.mergeSort fun a b => sLe a.name b.name
theorem sortP_perm (ms : List Mod) : (sortP ms).Perm ms := List.mergeSort_perm ms _
theorem sortP_map (ms : List Mod) : (sortP ms).map modV = sortM (ms.map modV) := List.map_mergeSort fun a _ b _ => rfl
theorem sortP_names (ms : List Mod) : (sortP ms).map (·.name) = sortS (ms.map (·.name)) := List.map_mergeSort fun a _ b _ => rfl
theorem headsS_mod (ms : List Mod) : headsS (ms.map modV) = some (ms.map (·.name)) := by
  induction ms with
  | nil => rfl
  | cons m ms ih => rw [List.map_cons, headsS, ih]; rfl
theorem sortedD_m {ms : List Mod} (h : (ms.map (·.name)).Nodup) : sortedY [.lst (ms.map modV)] = some (.new (.lst ((sortP ms).map modV))) := by
  cases ms with
  | nil => simp [sortedY, sortedX, sortedD, orC, c1, sortedA, strsD, sortP, sortS]
  | cons m ms =>
    have : c1 sortedA [.lst ((m :: ms).map modV)] = none := rfl
    simp only [sortedY, sortedX, sortedD, orC, this]
    simp only [c1, sortedM, headsS_mod, h, if_true]
    rw [sortP_map]
theorem cutD_take {xs : List D} (r : Nat) : cutD xs none (some (r : Int)) = xs.take r := by
  unfold cutD
  rw [HT.sIx_none, HT.sIx_nat]
  simp only [List.drop_zero, Nat.sub_zero]
  by_cases h : r ≤ xs.length
  · rw [Nat.min_eq_left h]
  · rw [Nat.min_eq_right (by omega), List.take_of_length_le (Nat.le_refl _), List.take_of_length_le (by omega)]
theorem slD_l {xs : List D} {lo hi : Option Int} : slD (.lst xs) lo hi = some (.new (.lst (cutD xs lo hi))) := rfl
theorem slD_t {xs : List D} {lo hi : Option Int} : slD (.tup xs) lo hi = some (.val (.tup (cutD xs lo hi))) := rfl
theorem Src.mono {n m : Nat} {d : D} (h : Src n d) (k : n ≤ m) : Src m d := by
  obtain ⟨a, b, c, e, h1, h2, h3, h4, h5, h6⟩ := h.ex
  exact ⟨a, b, c, e, h1, h2, h3, h4, h5, by omega⟩
def unS : D → Str
  | .str x => x
  | _ => Str.empty
theorem unS_map (xs : List Str) : (xs.map D.str).map unS = xs := by
  rw [List.map_map]
  exact (List.map_congr_left fun _ _ => rfl).trans (List.map_id xs)
theorem strs_perm {ys : List D} {xs : List Str} (h : ys.Perm (xs.map D.str)) : ∃ zs : List Str, ys = zs.map D.str ∧ zs.Perm xs := by
  refine ⟨ys.map unS, ?_, ?_⟩
  · rw [List.map_map]
    refine (List.map_id ys).symm.trans (List.map_congr_left fun y hy => ?_)
    obtain ⟨x, _, rfl⟩ := List.mem_map.mp (h.mem_iff.mp hy)
    rfl
  · have := h.map unS
    rwa [unS_map] at this
structure ModIn (ms : List Str) (wi : Nat) (m : Mod) : Prop where
  nd : m.imps.Nodup
  own : m.name ∉ m.imps
  inn : ∀ i ∈ m.imps, i ∈ ms
  len : m.imps.length ≤ max 3 wi
abbrev envP (d : D) (mo wi : Nat) (ms : List Str) (fs : List Mod) (hc : Bool) (e6 e7 e8 e9 e10 : Option Ent) : Env :=
  [some (.par d), some (.frz (.int mo)), some (.frz (.int wi)), some (.lok false (.lst (ms.map D.str))), some (.own (.lst (fs.map modV))), some (.frz (.bl hc)), e6, e7, e8, e9, e10, none]
theorem others_ok {d : D} {mo wi : Nat} {ms : List Str} {fs : List Mod} {hc : Bool} {i : Nat} {nm : Str} {e8 e9 e10 : Option Ent} (hnd : ms.Nodup) (hok : ∀ y ∈ ms, NameOk y) (hl : ms.length ≤ 52) (hi : ms[i]? = some nm) :
    ∃ os : List Str, fIf (fB (fVar 5)) (fLc (fCons (fVar 3) fNil) seqIt (Gname 11) (fB (fOp neD (fVar 11) (fVar 7))) (fVar 11) [11]) (fSl slD (fVar 3) none (some (fVar 6))) (envP d mo wi ms fs hc (some (.frz (.int i))) (some (.frz (.str nm))) e8 e9 e10)
      = .ok (.new (.lst (os.map D.str))) (envP d mo wi ms fs hc (some (.frz (.int i))) (some (.frz (.str nm))) e8 e9 e10) ∧ os.Nodup ∧ nm ∉ os ∧ (∀ o ∈ os, o ∈ ms) ∧ os.length ≤ ms.length := by
  obtain ⟨hi1, hi2⟩ := List.getElem?_eq_some_iff.mp hi
  cases hc with
  | true =>
    refine ⟨ms.filter fun o => !decide (o = nm), ?_, hnd.filter _, by simp, fun o ho => (List.mem_filter.mp ho).1, List.length_filter_le _ _⟩
    have t := turns_map (G := Gname 11) (ft := fB (fOp neD (fVar 11) (fVar 7))) (vs := [11]) (acc := []) (fe := fVar 11) (fun d => !decide (unS d = nm)) id (ms.map D.str) (envP d mo wi ms fs true (some (.frz (.int i))) (some (.frz (.str nm))) e8 e9 e10) (by simp; omega) (by
      intro x hx
      obtain ⟨o, ho, rfl⟩ := List.mem_map.mp hx
      have q := neD_s (hok o ho).lay (hok nm (hi2 ▸ List.getElem_mem hi1)).lay
      refine ⟨envP d mo wi ms fs true (some (.frz (.int i))) (some (.frz (.str nm))) e8 e9 e10 |>.set 11 (some (.frz (.str o))), rfl, ?_, rfl, fun _ => ⟨.val (.str o), rfl, rfl⟩⟩
      walk_at "ev")
    have e : ((ms.map D.str).filter fun d => !decide (unS d = nm)).map id = (ms.filter fun o => !decide (o = nm)).map D.str := by
      rw [List.map_id, List.filter_map]; rfl
    rw [e, List.nil_append] at t
    walk_at "ev"
  | false =>
    refine ⟨ms.take i, ?_, hnd.sublist (List.take_sublist _ _), ?_, fun o ho => List.mem_of_mem_take ho, by simp; omega⟩
    · have q : slD (.lst (ms.map D.str)) none (some (i : Int)) = some (.new (.lst ((ms.take i).map D.str))) := by rw [slD_l, cutD_take, List.map_take]
      walk_at "ev"
    · intro z
      obtain ⟨j, hj, e⟩ := List.getElem_of_mem z
      rw [List.getElem_take] at e
      have hj' : j < i := by simp at hj; omega
      have := (List.getElem_inj (h₀ := by omega) (h₁ := hi1) hnd).mp (e.trans hi2.symm)
      omega
theorem kinds_of {x : D} (h : x ∈ [D.str "effect", D.str "effect", D.str "pure"]) : ∃ b, x = .str (kindS b) := by
  simp only [List.mem_cons, List.not_mem_nil, or_false] at h
  rcases h with rfl | rfl | rfl
  · exact ⟨true, rfl⟩
  · exact ⟨true, rfl⟩
  · exact ⟨false, rfl⟩
theorem mAppend_ok {xs : List D} {y : D} (h : xs.length < 1000000) : mAppend (.lst xs) [y] = some (.lst (xs ++ [y]), .non) := by
  unfold mAppend
  exact if_pos h
theorem body_ok {N : Nat} {d : D} {mo wi : Nat} {ms : List Str} {fs : List Mod} {hc : Bool} {i : Nat} {nm : Str} {e8 e9 e10 : Option Ent} (h : Src N d) (hN : N + 54 ≤ 2 ^ 60) (hw : wi ≤ 19) (hnd : ms.Nodup) (hok : ∀ y ∈ ms, NameOk y) (hl : ms.length ≤ 52) (hi : ms[i]? = some nm) (hfs : fs.length ≤ 52) (h8 : FreeE e8) (h9 : FreeE e9) (h10 : FreeE e10) :
    ∃ m d' e8' e9' e10', B_project_1 (envP d mo wi ms fs hc (some (.frz (.int i))) (some (.frz (.str nm))) e8 e9 e10) = .nx (envP d' mo wi ms (fs ++ [m]) hc (some (.frz (.int i))) (some (.frz (.str nm))) e8' e9' e10')
      ∧ m.name = nm ∧ ModIn ms wi m ∧ Src (N + 54) d' ∧ FreeE e8' ∧ FreeE e9' ∧ FreeE e10' := by
  obtain ⟨os, eo, ond, onm, oin, ol⟩ := others_ok (d := d) (mo := mo) (wi := wi) (fs := fs) (hc := hc) (e8 := e8) (e9 := e9) (e10 := e10) hnd hok hl hi
  obtain ⟨ys, d1, e1, s1, p1⟩ := mixed_ok (xs := os.map D.str) h (by simp; omega) (by simp; omega)
  obtain ⟨zs, rfl, pz⟩ := strs_perm p1
  rw [List.length_map] at s1
  obtain ⟨v, ev, l0, l1⟩ : ∃ v : Int, fIf (fB (fOp ltD (fVar 6) (fOp subD (fCB lenD (fCons (fVar 3) fNil)) (fC (.int 1))))) (fC (.int 4)) (fOp addD (fVar 2) (fC (.int 1))) (envP d mo wi ms fs hc (some (.frz (.int i))) (some (.frz (.str nm))) (some (.own (.lst (os.map D.str)))) e9 e10)
      = .ok (.val (.int v)) (envP d mo wi ms fs hc (some (.frz (.int i))) (some (.frz (.str nm))) (some (.own (.lst (os.map D.str)))) e9 e10) ∧ 1 ≤ v ∧ v ≤ max 3 (wi : Int) + 1 := by
    by_cases hlt : (i : Int) < ((ms.map D.str).length : Int) - 1
    · refine ⟨4, ?_, by omega, by omega⟩
      walk_at "ev"
    · refine ⟨wi + 1, ?_, by omega, by omega⟩
      walk_at "ev"
  obtain ⟨r, d2, e2, s2, r0, r1⟩ := draw_ok (l := if ((os.map D.str).length : Int) + 1 < v then ((os.map D.str).length : Int) + 1 else v) s1 (by omega) (by split <;> omega) (by rw [List.length_map]; split <;> omega)
  obtain ⟨r, rfl⟩ := Int.eq_ofNat_of_zero_le r0
  obtain ⟨k, d3, e3, s3, hk⟩ := choice_ok (xs := [D.str "effect", D.str "effect", D.str "pure"]) s2 (by omega) (by simp) (by simp)
  obtain ⟨b, rfl⟩ := kinds_of hk
  have hr : r ≤ max 3 wi := by
    split at r1 <;> omega
  refine ⟨⟨nm, zs.take r, b⟩, d3, some (.frz (.lst (os.map D.str))), some (.frz (.int v)), some (.own (.lst ((zs.take r).map D.str))), ?_, rfl, ⟨((pz.nodup_iff.mpr ond)).sublist (List.take_sublist _ _), fun z => onm (pz.mem_iff.mp (List.mem_of_mem_take z)), fun z hz => oin z (pz.mem_iff.mp (List.mem_of_mem_take hz)), by simp; omega⟩, s3.mono (by omega), .frz, .frz, .own⟩
  have q1 : slD (.lst (zs.map D.str)) none (some (r : Int)) = some (.new (.lst ((zs.take r).map D.str))) := by rw [slD_l, cutD_take, List.map_take]
  have q2 : mAppend (.lst (fs.map modV)) [.tup [.str nm, .tup ((zs.take r).map D.str), .str (kindS b)]] = some (.lst ((fs ++ [(⟨nm, zs.take r, b⟩ : Mod)]).map modV), .non) := by
    rw [mAppend_ok (by simp; omega), List.map_append]; rfl
  unfold B_project_1
  apply ev_seq (ev_asg eo (gn_new rfl h8)) rfl
  apply ev_seq (ev_asg ev (gn_val rfl h9)) rfl
  walk_at "ev"
theorem asc_nodup {ys : List Str} (h : Asc ys) : ys.Nodup := h.imp fun {x y} z e => by
  subst e
  rw [sLt_irrefl] at z
  cases z
theorem project_ok {N : Nat} {d : D} {mo wi : Nat} (h : Src N d) (hN : N + 3000 ≤ 2 ^ 60) (h1 : 1 ≤ mo) (h2 : mo ≤ 52) (hw : wi ≤ 19) :
    ∃ p d', fn_project [d, .int mo, .int wi] = .ok (.val (projV p)) [d'] ∧ Src (N + 3000) d' ∧ ProjOk p ∧ 1 ≤ p.length ∧ p.length ≤ mo ∧ ∀ m ∈ p, m.imps.length ≤ max 3 wi := by
  obtain ⟨r, d1, e1, s1, r0, r1⟩ := draw_ok (l := mo) h (by omega) (by omega) (by omega)
  obtain ⟨r, rfl⟩ := Int.eq_ofNat_of_zero_le r0
  obtain ⟨ns, d2, e2, s2, asc, nok, nl⟩ := names_ok (c := 1 + r) s1 (by omega) (by omega)
  rw [show ((1 + r : Nat) : Int) = 1 + (r : Int) by omega] at e2
  obtain ⟨ys, d3, e3, s3, p3⟩ := mixed_ok (xs := ns.map D.str) s2 (by simp; omega) (by simp; omega)
  obtain ⟨ms, rfl, pm⟩ := strs_perm p3
  rw [List.length_map] at s3
  have ml : ms.length = 1 + r := pm.length_eq.trans nl
  have mnd : ms.Nodup := pm.nodup_iff.mpr (asc_nodup asc)
  have mok : ∀ y ∈ ms, NameOk y := fun y hy => nok y (pm.mem_iff.mp hy)
  obtain ⟨c, d4, e4, s4, c0, c1⟩ := draw_ok (l := 3) s3 (by omega) (by decide) (by decide)
  have q0 : eqD (.int c) (.int 0) = some (.val (.bl (decide (c = 0)))) := eqD_i
  obtain ⟨e, eL, fs, d5, e6, e7, e8, e9, e10, rfl, s5, hn, hin, _⟩ := loop_inv (G := Gtup [Gname 6, Gname 7]) (b := B_project_1) (fun k e => ∃ fs d' e6 e7 e8 e9 e10, e = envP d' mo wi ms fs (decide (c = 0)) e6 e7 e8 e9 e10 ∧ Src (N + 60 + k * 54) d' ∧ fs.map (·.name) = ms.take k ∧ (∀ m ∈ fs, ModIn ms wi m) ∧ FreeE e6 ∧ FreeE e7 ∧ FreeE e8 ∧ FreeE e9 ∧ FreeE e10)
    (enumL (ms.map D.str)) (by
      rintro k x e hx ⟨fs, d', e6, e7, e8, e9, e10, rfl, s, hn, hin, f6, f7, f8, f9, f10⟩
      obtain ⟨y, hy, rfl⟩ := enumL_at hx
      rw [List.getElem?_map] at hy
      obtain ⟨nm, hnm, rfl⟩ := Option.map_eq_some_iff.mp hy
      have hk := (List.getElem?_eq_some_iff.mp hnm).1
      have fl : fs.length ≤ 52 := by
        have := congrArg List.length hn
        simp at this
        omega
      obtain ⟨m, d2, e8', e9', e10', eb, en, mi, s2, g8, g9, g10⟩ := body_ok (mo := mo) (hc := decide (c = 0)) s (by omega) hw mnd mok (by omega) hnm fl f8 f9 f10
      refine ⟨_, _, ?_, eb, fs ++ [m], d2, _, _, e8', e9', e10', rfl, s2.mono (by omega), ?_, ?_, .frz, .frz, g8, g9, g10⟩
      · walk_at "ev"
      · rw [List.map_append, hn, List.take_add_one, hnm]
        simp [en]
      · intro z hz
        rcases List.mem_append.mp hz with hz | hz
        · exact hin z hz
        · rw [List.mem_singleton.mp hz]; exact mi)
    (env := envP d4 mo wi ms [] (decide (c = 0)) none none none none none) (by exact ⟨[], d4, none, none, none, none, none, rfl, s4.mono (by omega), rfl, fun _ z => (by simp at z), .none, .none, .none, .none, .none⟩)
  have el : (enumL (ms.map D.str)).length = ms.length := by simp [enumL]
  rw [el, List.take_length] at hn
  rw [el] at s5
  have fnd : (fs.map (·.name)).Nodup := by rw [hn]; exact mnd
  have srt := sortedD_m fnd
  have pmn : ((sortP fs).map (·.name)).Perm ms := hn ▸ (sortP_perm fs).map (·.name)
  refine ⟨sortP fs, d5, ?_, s5.mono (by omega), ⟨?_, fun m hm => mok _ (pmn.mem_iff.mp (List.mem_map.mpr ⟨m, hm, rfl⟩)), fun m hm => (hin m ((sortP_perm fs).mem_iff.mp hm)).nd, fun m hm => (hin m ((sortP_perm fs).mem_iff.mp hm)).own, fun m hm i hi => pmn.mem_iff.mpr ((hin m ((sortP_perm fs).mem_iff.mp hm)).inn i hi)⟩, ?_, ?_, fun m hm => (hin m ((sortP_perm fs).mem_iff.mp hm)).len⟩
  · unfold fn_project F_project
    apply ev_fnR rfl
    · walk_at "ev"
    all_goals rfl
  · rw [sortP_names]; exact sort_asc fnd
  · have := pmn.length_eq; simp at this; omega
  · have := pmn.length_eq; simp at this; omega
end FL

set_option Elab.async false
set_option linter.all false
set_option maxRecDepth 100000
set_option maxHeartbeats 4000000
set_option exponentiation.threshold 100000
/-! P4: more evaluation rules. -/
namespace FL
open PySem PySem.Spec PyProof.Rows L2 GL
section
variable {env e1 e2 e3 e4 : Env} {a b c fo fk fv fe : Ev} {t u v : Tok} {d d1 d2 d3 kd : D} {fa : Ea} {ts us : List Tok} {ds es xs ys : List D} {j : Nat} {e : Ent} {k : Key} {kvs : List (Key × D)} {ps : List D}
theorem ev_dput (hv : fv env = .ok t e1) (hk : keepT t e1 = some (d, e2)) (ho : fo e2 = .ok (.slot j) e3) (hi : fk e3 = .ok u e4) (h1 : res u e4 = some kd) (hkk : keyOf kd = some k) (he : e4[j]? = some (some e)) (hm : e.mut = true) (hv' : e.val = .dct kvs) (hl : kvs.length < 1000000) {w : Env} (hr : e4.set j (some (e.put (.dct (putD kvs k d)))) = w) : fDPut fo fk fv env = .nx w := by
  unfold fDPut
  rw [hv, Res.toS_ok, hk]
  simp only
  rw [ho, Res.noErr_ok, Res.toS_ok, hi, Res.noErr_ok, Res.toS_ok, h1]
  unfold dputR
  simp only
  rw [hkk, he]
  simp only
  rw [if_pos hm, hv']
  simp only
  rw [if_pos hl, ← hr]
  rfl
theorem ev_star (ha : a env = .ok t e1) (h1 : res t e1 = some d) (hs : seqOf (some d) = some ds) (hb : fa e1 = .ok ts e2) {us : List Tok} (hr : ds.map Tok.val ++ ts = us) : fStar a fa env = .ok us e2 := by
  unfold fStar
  rw [ha, Res.bind_ok, h1, hs]
  simp only
  rw [hb, Res.bind_ok, hr]
theorem ev_lenSet (ha : a env = .ok t e1) (h1 : res t e1 = some d) (hs : lenSetD (some d) = some v) : fLenSet a env = .ok v e1 := by
  unfold fLenSet
  rw [ha, Res.bind_ok, h1, hs]; rfl
theorem ev_callV {fn : Fn} {js : List (Option Nat)} (ha : fa env = .ok ts e1) (hk : keepM (List.replicate ts.length false) ts e1 = some (us, e2)) (hl : lend (List.replicate ts.length false) us e2 = some (ds, js)) (hf : fn ds = .ok v ps) (he : backs js ps e2 = e3) : fCallV fn fa env = .ok v e3 := by
  unfold fCallV
  rw [ha, Res.bind_ok]
  unfold callF
  rw [hk]
  simp only
  rw [hl]
  simp only
  rw [hf, ← he]; rfl
theorem ev_chainT {f g : D → D → Option Tok} {d1 d2 d3 : D} {t1 t2 t3 w : Tok} (ha : a env = .ok t1 e1) (hb : b e1 = .ok t2 e2) (h1 : res t1 e2 = some d1) (h2 : res t2 e2 = some d2) (hf : f d1 d2 = some (.val (.bl true))) (hc : c e2 = .ok t3 e3) (h3 : res t2 e3 = some d2) (h4 : res t3 e3 = some d3) (hg : g d2 d3 = some w) : fChain f g a b c env = .ok w e3 := by
  unfold fChain
  rw [ha, Res.bind_ok, hb, Res.bind_ok]
  unfold ap2
  rw [h1, h2]
  simp only
  rw [hf]
  simp only [lift_some, Res.bind_ok, asB, res_val, if_true]
  rw [hc, Res.bind_ok, h3, h4]
  simp only
  rw [hg]; rfl
theorem ev_extend (ha : fo env = .ok (.slot j) e1) (h1 : isLst (res (.slot j) e1) = true) (hb : fe e1 = .ok u e2) (h2 : res u e2 = some (.lst ys)) (he : e2[j]? = some (some e)) (hm : e.mut = true) (hv : e.val = .lst xs) (hl : xs.length + ys.length ≤ 1000000) {w : Env} (hr : e2.set j (some (e.put (.lst (xs ++ ys)))) = w) : fExtend fo fe env = .ok (.val .non) w := by
  unfold fExtend
  rw [ha, Res.bind_ok, if_pos h1, hb, Res.bind_ok, h2]
  unfold extR
  simp only
  rw [he]
  simp only
  rw [if_pos hm, hv]
  simp only
  rw [if_pos hl, hr]
end
theorem gn_to {i : Nat} {env e' : Env} {e : Option Ent} {d : D} (h : env[i]? = some e) (f : FreeE e) (hr : env.set i (some (.frz d)) = e') : Gname i (.val d) env = some e' := by
  rw [gn_val h f, hr]
theorem ev_nT {β : Sort _} {x y z : β} (k : y = z) : (bif !true then x else y) = z := k
theorem ev_nF {β : Sort _} {x y z : β} (k : x = z) : (bif !false then x else y) = z := k
theorem turns_dict {G : Gf} {ft : Et} {fk fv : Ev} {vs : List Nat} {acc : List (Key × D)} (kf : D → Key) (vf : D → D) (items : List D) (env : Env) (hl : acc.length + items.length ≤ 1000000)
    (h : ∀ d ∈ items, ∃ e1, G (.val d) env = some e1 ∧ ft e1 = .ok true e1 ∧ wipeE e1 vs = env ∧ ∃ t u k, fk e1 = .ok t e1 ∧ fv e1 = .ok u e1 ∧ res t e1 = some k ∧ keyOf k = some (kf d) ∧ keepT u e1 = some (vf d, e1)) (nd : (acc.map (·.1) ++ items.map kf).Nodup) :
    turnsF G ft (dcB fk fv) vs items acc env = .ok (acc ++ items.map fun d => (kf d, vf d)) env := by
  induction items generalizing acc with
  | nil => simp [turnsF]
  | cons d ds ih =>
    obtain ⟨e1, hG, ht, hw, t, u, k, h1, h2, h3, h4, h5⟩ := h d (by simp)
    simp only [List.length_cons] at hl
    have no : kf d ∉ acc.map (·.1) := fun z => by
      have := (List.nodup_append.mp nd).2.2 _ z (kf d) (by simp)
      exact this rfl
    have pe : putD acc (kf d) (vf d) = acc ++ [(kf d, vf d)] := by
      unfold putD
      rw [if_neg]
      intro z
      obtain ⟨kv, m, e⟩ := List.any_eq_true.mp z
      exact no (List.mem_map.mpr ⟨kv, m, of_decide_eq_true e⟩)
    have hb := ev_dcB (acc := acc) h1 h2 h3 h4 h5 (by omega)
    rw [pe] at hb
    refine ev_turn hG ht hb rfl ?_
    rw [hw, ih (by simp; omega) (fun x hx => h x (by simp [hx])) (by simpa using nd)]
    simp
/-- all(..) of a comprehension of tests -/
theorem boolsD_map {α : Type} (xs : List α) (f : α → Bool) : boolsD (xs.map fun x => D.bl (f x)) = some (xs.map f) := by
  induction xs with
  | nil => rfl
  | cons x r ih => simp [boolsD, ih]
theorem allD_map {α : Type} {xs : List α} {f : α → Bool} : c1 allD [.lst (xs.map fun x => D.bl (f x))] = some (.val (.bl (xs.all f))) := by
  simp only [c1, allD, boolsD_map, List.all_map]
  rfl
/-- a comprehension over mapped items that leaves all as it was -/
theorem turns_mapA {α : Type} {G : Gf} {ft : Et} {fe : Ev} {vs : List Nat} (c : α → D) (p : α → Bool) (g : α → D) (xs : List α) (env : Env) (hl : xs.length ≤ 1000000)
    (h : ∀ x ∈ xs, ∃ e1, G (.val (c x)) env = some e1 ∧ ft e1 = .ok (p x) e1 ∧ wipeE e1 vs = env ∧ (p x = true → ∃ t, fe e1 = .ok t e1 ∧ keepT t e1 = some (g x, e1))) : turnsF G ft (lcB fe) vs (xs.map c) [] env = .ok ((xs.filter p).map g) env := by
  suffices ∀ acc : List D, acc.length + xs.length ≤ 1000000 → turnsF G ft (lcB fe) vs (xs.map c) acc env = .ok (acc ++ (xs.filter p).map g) env by
    have := this [] (by simpa using hl)
    simpa using this
  induction xs with
  | nil => intro acc _; simp [turnsF]
  | cons d ds ih =>
    intro acc hl2
    obtain ⟨e1, hG, ht, hw, he⟩ := h d (by simp)
    simp only [List.length_cons] at hl hl2
    cases hp : p d with
    | true =>
      obtain ⟨t, h1, h2⟩ := he hp
      refine ev_turn hG (hp ▸ ht) (ev_lcB h1 h2 (by omega)) rfl ?_
      rw [hw, ih (by omega) (fun x hx => h x (by simp [hx])) _ (by simp; omega)]
      simp [hp]
    | false =>
      refine ev_turnN hG (hp ▸ ht) rfl ?_
      rw [hw, ih (by omega) (fun x hx => h x (by simp [hx])) _ (by omega)]
      simp [hp]
end FL

set_option Elab.async false
set_option linter.all false
set_option maxRecDepth 100000
set_option maxHeartbeats 4000000
set_option exponentiation.threshold 100000
/-! P5: data compared and shown. -/
namespace FL
open PySem PySem.Spec PyProof.Rows L2 GL
mutual
def good : PyData → Bool
  | .none | .bool _ => true
  | .int i => decide (i.natAbs < 10 ^ 12)
  | .str x => x.cps.toList.all fun c => decide (c < 128)
  | .list xs | .tuple xs => goodAll xs
  | .dict _ => false
def goodAll : List PyData → Bool
  | [] => true
  | x :: xs => good x && goodAll xs
end
mutual
theorem good_ok : ∀ d : PyData, good d = true → d.showable = true ∧ d.hasDict = false ∧ d.leavesShort 13 = true ∧ d.canLay0 = true
  | .none, _ => ⟨rfl, rfl, rfl, rfl⟩
  | .bool _, _ => ⟨rfl, rfl, rfl, rfl⟩
  | .int i, h => by
    have h1 : i.natAbs < 10 ^ 12 := by simpa [good] using h
    refine ⟨?_, rfl, ?_, rfl⟩
    · simp only [PyData.showable, decide_eq_true_eq]
      exact log2_small (Nat.lt_trans h1 (by decide))
    · simp only [PyData.leavesShort, decide_eq_true_eq]
      exact PyData.shown_int_le h1
  | .str x, h => by
    have h1 : ∀ c ∈ x.cps.toList, c < 128 := by
      simp only [good, List.all_eq_true, decide_eq_true_eq] at h
      exact h
    refine ⟨rfl, rfl, ?_, ?_⟩
    · simp only [PyData.leavesShort, List.all_eq_true, decide_eq_true_eq]
      exact fun c hc => Nat.lt_trans (h1 c hc) (by decide)
    · simp only [PyData.canLay0]
      exact str_lay h1
  | .list xs, h => by
    obtain ⟨h1, h2, h3, h4⟩ := goodAll_ok xs (by simpa [good] using h)
    exact ⟨by simpa [PyData.showable] using h1, by simpa [PyData.hasDict] using h2, by simpa [PyData.leavesShort] using h3, by simpa [PyData.canLay0] using h4⟩
  | .tuple xs, h => by
    obtain ⟨h1, h2, h3, h4⟩ := goodAll_ok xs (by simpa [good] using h)
    exact ⟨by simpa [PyData.showable] using h1, by simpa [PyData.hasDict] using h2, by simpa [PyData.leavesShort] using h3, by simpa [PyData.canLay0] using h4⟩
  | .dict _, h => by simp [good] at h
theorem goodAll_ok : ∀ xs : List PyData, goodAll xs = true → PyData.showableAll xs = true ∧ PyData.hasDictAll xs = false ∧ PyData.leavesShortAll 13 xs = true ∧ PyData.canLayAll0 xs = true
  | [], _ => ⟨rfl, rfl, rfl, rfl⟩
  | x :: xs, h => by
    have h' : good x = true ∧ goodAll xs = true := by simpa [goodAll] using h
    obtain ⟨a1, a2, a3, a4⟩ := good_ok x h'.1
    obtain ⟨b1, b2, b3, b4⟩ := goodAll_ok xs h'.2
    simp [PyData.showableAll, PyData.hasDictAll, PyData.leavesShortAll, PyData.canLayAll0, a1, a2, a3, a4, b1, b2, b3, b4]
end
theorem good_shaped {d : PyData} (h : good d = true) (hd : d.depth ≤ 60) : SeqAt.shaped d = true := by
  unfold SeqAt.shaped
  rw [(good_ok d h).2.2.2]
  simp
  omega
theorem good_shown {d : PyData} (h : good d = true) (hw : d.weight ≤ 2 ^ 20) : d.shown.length ≤ sizeLine := PyData.shown_fits (by decide) (by decide) (good_ok d h).2.2.1 hw
theorem good_all_of {xs : List PyData} (h : ∀ x ∈ xs, good x = true) : goodAll xs = true := by
  induction xs with
  | nil => rfl
  | cons x r ih =>
    simp only [goodAll, Bool.and_eq_true]
    exact ⟨h x List.mem_cons_self, ih fun y hy => h y (List.mem_cons_of_mem _ hy)⟩
theorem weightAll_le {B : Nat} : ∀ {xs : List PyData}, (∀ x ∈ xs, x.weight ≤ B) → PyData.weightAll xs ≤ xs.length * (B + 1)
  | [], _ => by simp [PyData.weightAll]
  | x :: r, h => by
    have h1 := h x List.mem_cons_self
    have h2 := weightAll_le (xs := r) fun y hy => h y (List.mem_cons_of_mem _ hy)
    simp only [PyData.weightAll, List.length_cons, Nat.succ_mul]
    omega
theorem depthAll_le {B : Nat} : ∀ {xs : List PyData}, (∀ x ∈ xs, x.depth ≤ B) → PyData.depthAll xs ≤ B
  | [], _ => Nat.zero_le _
  | x :: r, h => by
    simp only [PyData.depthAll]
    exact Nat.max_le.mpr ⟨h x List.mem_cons_self, depthAll_le fun y hy => h y (List.mem_cons_of_mem _ hy)⟩
theorem good_name {z : Str} (h : NameOk z) : good (.str z) = true := by
  simp only [good, List.all_eq_true, decide_eq_true_eq]
  exact fun c hc => by have := (h.2.2 c hc).2; omega
theorem good_strs {zs : List Str} (h : ∀ z ∈ zs, NameOk z) : goodAll (zs.map .str) = true := good_all_of fun x hx => by
  obtain ⟨z, hz, rfl⟩ := List.mem_map.mp hx
  exact good_name (h z hz)
def sTup (zs : List Str) : PyData := .tuple (zs.map .str)
theorem eqvAll_inj {α : Type} (f : α → PyData) (h : ∀ a b, PyData.eqv (f a) (f b) = true ↔ a = b) : ∀ as bs : List α, PyData.eqvAll (as.map f) (bs.map f) = true ↔ as = bs
  | [], [] => by simp [PyData.eqvAll]
  | [], _ :: _ => by simp [PyData.eqvAll]
  | _ :: _, [] => by simp [PyData.eqvAll]
  | a :: as, b :: bs => by
    rw [List.map_cons, List.map_cons, PyData.eqvAll, Bool.and_eq_true, h, eqvAll_inj f h as bs, List.cons.injEq]
theorem eqv_str (a b : Str) : PyData.eqv (.str a) (.str b) = true ↔ a = b := by
  rw [PyData.eqv]
  simp
theorem eqv_sTup (a b : List Str) : PyData.eqv (sTup a) (sTup b) = true ↔ a = b := by
  unfold sTup
  rw [PyData.eqv]
  exact eqvAll_inj .str eqv_str a b
theorem eqv_lTup (a b : List (List Str)) : PyData.eqv (.list (a.map sTup)) (.list (b.map sTup)) = true ↔ a = b := by
  rw [PyData.eqv]
  exact eqvAll_inj sTup eqv_sTup a b
theorem kind_inj {a b : Bool} : kindS a = kindS b ↔ a = b := by cases a <;> cases b <;> decide +kernel
theorem is_dec {b : Bool} {P : Prop} [Decidable P] (h : b = true ↔ P) : b = decide P := by
  by_cases p : P
  · rw [h.mpr p, decide_eq_true p]
  · rw [decide_eq_false p]
    cases b with
    | true => exact absurd (h.mp rfl) p
    | false => rfl
theorem good_sTup {zs : List Str} (h : ∀ z ∈ zs, NameOk z) : good (sTup zs) = true := by
  unfold sTup
  rw [good]
  exact good_strs h
theorem depth_sTup (zs : List Str) : (sTup zs).depth ≤ 1 := by
  have : PyData.depthAll (zs.map .str) ≤ 0 := depthAll_le fun x hx => by
    obtain ⟨z, _, rfl⟩ := List.mem_map.mp hx
    exact Nat.le_refl _
  simp only [sTup, PyData.depth]
  omega
theorem shaped_sTup {zs : List Str} (h : ∀ z ∈ zs, NameOk z) : SeqAt.shaped (sTup zs) = true := good_shaped (good_sTup h) (Nat.le_trans (depth_sTup zs) (by decide))
theorem shaped_lTup {zs : List (List Str)} (h : ∀ l ∈ zs, ∀ z ∈ l, NameOk z) : SeqAt.shaped (.list (zs.map sTup)) = true := by
  refine good_shaped ?_ ?_
  · rw [good]
    exact good_all_of fun x hx => by
      obtain ⟨l, hl, rfl⟩ := List.mem_map.mp hx
      exact good_sTup (h l hl)
  · have : PyData.depthAll (zs.map sTup) ≤ 1 := depthAll_le fun x hx => by
      obtain ⟨z, _, rfl⟩ := List.mem_map.mp hx
      exact depth_sTup z
    simp only [PyData.depth]
    omega

theorem toPs_strs (zs : List Str) : toPs (zs.map D.str) = some (zs.map .str) := by
  induction zs with
  | nil => rfl
  | cons z r ih => simp [toPs, toP, ih]
theorem toP_tup (zs : List Str) : toP (.tup (zs.map D.str)) = some (sTup zs) := by simp [toP, toPs_strs, sTup]
theorem toPs_tups (zs : List (List Str)) : toPs (zs.map fun l => D.tup (l.map D.str)) = some (zs.map sTup) := by
  induction zs with
  | nil => rfl
  | cons z r ih => simp [toPs, toP_tup, ih]
theorem eqD_tt {a b : List Str} (ha : ∀ z ∈ a, NameOk z) (hb : ∀ z ∈ b, NameOk z) : eqD (.tup (a.map D.str)) (.tup (b.map D.str)) = some (.val (.bl (decide (a = b)))) := by
  rw [eqD_of (toP_tup a) (toP_tup b) (shaped_sTup ha) (shaped_sTup hb), is_dec (eqv_sTup a b)]
theorem neD_tt {a b : List Str} (ha : ∀ z ∈ a, NameOk z) (hb : ∀ z ∈ b, NameOk z) : neD (.tup (a.map D.str)) (.tup (b.map D.str)) = some (.val (.bl (!decide (a = b)))) := by
  rw [neD_of (toP_tup a) (toP_tup b) (shaped_sTup ha) (shaped_sTup hb), is_dec (eqv_sTup a b)]
theorem eqD_lt {a b : List (List Str)} (ha : ∀ l ∈ a, ∀ z ∈ l, NameOk z) (hb : ∀ l ∈ b, ∀ z ∈ l, NameOk z) : eqD (.lst (a.map fun l => D.tup (l.map D.str))) (.lst (b.map fun l => D.tup (l.map D.str))) = some (.val (.bl (decide (a = b)))) := by
  have t : ∀ zs : List (List Str), toP (.lst (zs.map fun l => D.tup (l.map D.str))) = some (.list (zs.map sTup)) := fun zs => by simp [toP, toPs_tups]
  rw [eqD_of (t a) (t b) (shaped_lTup ha) (shaped_lTup hb), is_dec (eqv_lTup a b)]
/-! texts in tuples, dicts -/
theorem flat_strs (is : List Str) : (is.map D.str).all flatD = true := by simp [List.all_eq_true, flatD]
theorem any_strs (n : Str) (is : List Str) : ((is.map D.str).any fun d => eqF d (.str n)) = decide (n ∈ is) := by
  induction is with
  | nil => rfl
  | cons x r ih =>
    rw [List.map_cons, List.any_cons, ih]
    by_cases e : x = n
    · simp [eqF, e]
    · have e2 : ¬ n = x := fun z => e z.symm
      simp [eqF, e, e2]
theorem inD_t {n : Str} {is : List Str} : inD (.str n) (.tup (is.map D.str)) = some (.val (.bl (decide (n ∈ is)))) := by
  have := flat_strs is
  simp only [inD, orD, inQ, flatD, this, and_self, if_true, any_strs]
  rfl
theorem inD_l {n : Str} {is : List Str} : inD (.str n) (.lst (is.map D.str)) = some (.val (.bl (decide (n ∈ is)))) := by
  have := flat_strs is
  simp only [inD, orD, inQ, flatD, this, and_self, if_true, any_strs]
  rfl
theorem notInD_t {n : Str} {is : List Str} : notInD (.str n) (.tup (is.map D.str)) = some (.val (.bl (!decide (n ∈ is)))) := by
  have := flat_strs is
  simp only [notInD, orD, inQ, flatD, this, and_self, if_true, any_strs]
/-! loops with a way out -/
theorem loop_ret {G : Gf} {b : Sf} (I : Nat → Env → Prop) (R : Nat → Tok → Env → Prop) (items : List D) (h : ∀ k d e, items[k]? = some d → I k e → ∃ e1, G (.val d) e = some e1 ∧ ((∃ e2, b e1 = .nx e2 ∧ I (k + 1) e2) ∨ ∃ t e2, b e1 = .rt t e2 ∧ R k t e2)) {env : Env} (h0 : I 0 env) :
    (∃ e, loopF G b items env = .nx e ∧ I items.length e) ∨ ∃ k t e, k < items.length ∧ loopF G b items env = .rt t e ∧ R k t e := by
  suffices ∀ (xs : List D) (k : Nat) (env : Env), items.drop k = xs → k ≤ items.length → I k env → (∃ e, loopF G b xs env = .nx e ∧ I items.length e) ∨ ∃ k t e, k < items.length ∧ loopF G b xs env = .rt t e ∧ R k t e by
    exact this items 0 env (by simp) (Nat.zero_le _) h0
  intro xs
  induction xs with
  | nil =>
    intro k env hx hk hi
    have : k = items.length := by
      have := congrArg List.length hx
      simp at this
      omega
    exact .inl ⟨env, rfl, this ▸ hi⟩
  | cons d ds ih =>
    intro k env hx hk hi
    have hd : items[k]? = some d := by
      have : (items.drop k)[0]? = some d := by rw [hx]; rfl
      simpa using this
    have hk2 := (List.getElem?_eq_some_iff.mp hd).1
    obtain ⟨e1, g1, ⟨e2, g2, g3⟩ | ⟨t, e2, g2, g3⟩⟩ := h k d env hd hi
    · rcases ih (k + 1) e2 (by
        have : items.drop (k + 1) = (items.drop k).drop 1 := by rw [List.drop_drop]
        rw [this, hx]; rfl) hk2 g3 with ⟨e, he, hI⟩ | ⟨k', t, e, hk', he, hR⟩
      · exact .inl ⟨e, ev_loop g1 g2 he, hI⟩
      · exact .inr ⟨k', t, e, hk', ev_loop g1 g2 he, hR⟩
    · exact .inr ⟨k, t, e2, hk2, ev_loopR g1 g2, g3⟩
theorem ev_seqI {g k : Sf} {env e1 : Env} {t : Tok} (h : g env = .rt t e1) : fSeq g k env = .rt t e1 := ev_seqR h
end FL

set_option linter.all false
/-! RM: visiting a graph in depth: plain mathematics. -/
namespace RM
section
variable {α : Type} [DecidableEq α] {g g' : α → List α} {S S' L L1 L2 E E' R : List α} {x F : α}
/-- visiting the names of L one after the other, where S counts as visited, runs E -/
inductive VL (g : α → List α) : List α → List α → List α → Prop
  | nil {S : List α} : VL g S [] []
  | skip {S : List α} {x : α} {L : List α} {E : List α} : x ∈ S → VL g S L E → VL g S (x :: L) E
  | go {S : List α} {x : α} {L : List α} {E1 : List α} {E2 : List α} : x ∉ S → VL g (x :: S) (g x) E1 → VL g (x :: (E1 ++ S)) L E2 → VL g S (x :: L) (E1 ++ x :: E2)
theorem VL.ext (h : VL g S L E) : ∀ {S'}, (∀ y, y ∈ S ↔ y ∈ S') → VL g S' L E := by
  induction h with
  | nil => intro S' _; exact .nil
  | skip hx _ ih => intro S' e; exact .skip ((e _).mp hx) (ih e)
  | @go S x L E1 E2 hx _ _ ih1 ih2 =>
    intro S' e
    refine .go (fun z => hx ((e _).mpr z)) (ih1 fun y => ?_) (ih2 fun y => ?_)
    · simp only [List.mem_cons, e]
    · simp only [List.mem_cons, List.mem_append, e]
theorem VL.det (h : VL g S L E) : ∀ {E'}, VL g S L E' → E = E' := by
  induction h with
  | nil => intro E' h'; cases h'; rfl
  | skip hx _ ih =>
    intro E' h'
    cases h' with
    | skip _ h2 => exact ih h2
    | go hn _ _ => exact absurd hx hn
  | go hx _ _ ih1 ih2 =>
    intro E' h'
    cases h' with
    | skip hn _ => exact absurd hn hx
    | go _ h1 h2 =>
      have e1 := ih1 h1
      subst e1
      rw [ih2 h2]
/-- what runs was not visited -/
theorem VL.fresh (h : VL g S L E) : ∀ y ∈ E, y ∉ S := by
  induction h with
  | nil => intro y hy; cases hy
  | skip _ _ ih => exact ih
  | @go S x L E1 E2 hx _ _ ih1 ih2 =>
    intro y hy hS
    rcases List.mem_append.mp hy with hy | hy
    · exact ih1 y hy (List.mem_cons_of_mem _ hS)
    · rcases List.mem_cons.mp hy with rfl | hy
      · exact hx hS
      · exact ih2 y hy (List.mem_cons_of_mem _ (List.mem_append_right _ hS))
theorem VL.nodup (h : VL g S L E) : E.Nodup := by
  induction h with
  | nil => exact .nil
  | skip _ _ ih => exact ih
  | @go S x L E1 E2 hx h1 h2 ih1 ih2 =>
    refine List.nodup_append.mpr ⟨ih1, List.nodup_cons.mpr ⟨fun z => h2.fresh x z List.mem_cons_self, ih2⟩, ?_⟩
    intro a ha b hb e
    subst e
    rcases List.mem_cons.mp hb with rfl | hb
    · exact h1.fresh _ ha List.mem_cons_self
    · exact h2.fresh _ hb (List.mem_cons_of_mem _ (List.mem_append_left _ ha))
/-- what was asked for is visited or runs -/
theorem VL.covers (h : VL g S L E) : ∀ y ∈ L, y ∈ S ∨ y ∈ E := by
  induction h with
  | nil => intro y hy; cases hy
  | skip hx _ ih =>
    intro y hy
    rcases List.mem_cons.mp hy with rfl | hy
    · exact .inl hx
    · exact ih y hy
  | @go S x L E1 E2 hx h1 h2 ih1 ih2 =>
    intro y hy
    rcases List.mem_cons.mp hy with rfl | hy
    · exact .inr (List.mem_append_right _ List.mem_cons_self)
    · rcases ih2 y hy with z | z
      · rcases List.mem_cons.mp z with rfl | z
        · exact .inr (List.mem_append_right _ List.mem_cons_self)
        · rcases List.mem_append.mp z with z | z
          · exact .inr (List.mem_append_left _ z)
          · exact .inl z
      · exact .inr (List.mem_append_right _ (List.mem_cons_of_mem _ z))
/-- what runs has its imports visited or run -/
theorem VL.closed (h : VL g S L E) : ∀ y ∈ E, ∀ z ∈ g y, z ∈ S ∨ z ∈ E := by
  induction h with
  | nil => intro y hy; cases hy
  | skip _ _ ih => exact ih
  | @go S x L E1 E2 hx h1 h2 ih1 ih2 =>
    intro y hy z hz
    have one : ∀ w, w ∈ x :: S ∨ w ∈ E1 → w ∈ S ∨ w ∈ E1 ++ x :: E2 := fun w hw => by
      rcases hw with hw | hw
      · rcases List.mem_cons.mp hw with rfl | hw
        · exact .inr (List.mem_append_right _ List.mem_cons_self)
        · exact .inl hw
      · exact .inr (List.mem_append_left _ hw)
    rcases List.mem_append.mp hy with hy | hy
    · exact one z (ih1 y hy z hz)
    · rcases List.mem_cons.mp hy with rfl | hy
      · exact one z (h1.covers z hz)
      · rcases ih2 y hy z hz with q | q
        · rcases List.mem_cons.mp q with rfl | q
          · exact one _ (.inl List.mem_cons_self)
          · rcases List.mem_append.mp q with q | q
            · exact one z (.inr q)
            · exact .inl q
        · exact .inr (List.mem_append_right _ (List.mem_cons_of_mem _ q))
/-- a set that is closed holds all that runs -/
theorem VL.within (h : VL g S L E) : ∀ {R : List α}, (∀ y ∈ R, ∀ z ∈ g y, z ∈ S ∨ z ∈ R) → (∀ y ∈ L, y ∈ S ∨ y ∈ R) → ∀ y ∈ E, y ∈ R := by
  induction h with
  | nil => intro R _ _ y hy; cases hy
  | skip _ _ ih => intro R cl hl; exact ih cl fun y hy => hl y (List.mem_cons_of_mem _ hy)
  | @go S x L E1 E2 hx h1 h2 ih1 ih2 =>
    intro R cl hl y hy
    have hxR : x ∈ R := (hl x List.mem_cons_self).resolve_left hx
    rcases List.mem_append.mp hy with hy | hy
    · exact ih1 (fun w hw z hz => (cl w hw z hz).imp_left (List.mem_cons_of_mem _)) (fun z hz => (cl x hxR z hz).imp_left (List.mem_cons_of_mem _)) y hy
    · rcases List.mem_cons.mp hy with rfl | hy
      · exact hxR
      · exact ih2 (fun w hw z hz => (cl w hw z hz).imp_left fun q => List.mem_cons_of_mem _ (List.mem_append_right _ q)) (fun z hz => (hl z (List.mem_cons_of_mem _ hz)).imp_left fun q => List.mem_cons_of_mem _ (List.mem_append_right _ q)) y hy
theorem VL.app (h1 : VL g S L1 E) (h2 : VL g (E ++ S) L2 E') : VL g S (L1 ++ L2) (E ++ E') := by
  induction h1 generalizing L2 E' with
  | nil => exact h2
  | skip hx _ ih => exact .skip hx (ih h2)
  | @go S x L E1 E2 hx a b ih1 ih2 =>
    have h3 : VL g (E2 ++ (x :: (E1 ++ S))) L2 E' := h2.ext fun y => by
      simp only [List.mem_append, List.mem_cons]
      constructor
      · rintro ((h | h | h) | h)
        · exact .inr (.inr (.inl h))
        · exact .inr (.inl h)
        · exact .inl h
        · exact .inr (.inr (.inr h))
      · rintro (h | h | h | h)
        · exact .inl (.inr (.inr h))
        · exact .inl (.inr (.inl h))
        · exact .inl (.inl h)
        · exact .inr h
    have := VL.go (L := L ++ L2) hx a (ih2 h3)
    rw [List.append_assoc]
    exact this
theorem VL.unapp : ∀ {L1 S E}, VL g S (L1 ++ L2) E → ∃ E1 E2, VL g S L1 E1 ∧ VL g (E1 ++ S) L2 E2 ∧ E = E1 ++ E2
  | [], S, E, h => ⟨[], E, .nil, h, rfl⟩
  | x :: L1, S, E, h => by
    cases h with
    | skip hx h =>
      obtain ⟨E1, E2, a, b, e⟩ := VL.unapp h
      exact ⟨E1, E2, .skip hx a, b, e⟩
    | @go _ _ _ Ex E0 hx h1 h2 =>
      obtain ⟨E1, E2, a, b, rfl⟩ := VL.unapp h2
      refine ⟨Ex ++ x :: E1, E2, .go hx h1 a, b.ext fun y => ?_, by simp⟩
      simp only [List.mem_append, List.mem_cons]
      constructor
      · rintro (h | h | h | h)
        · exact .inl (.inr (.inr h))
        · exact .inl (.inr (.inl h))
        · exact .inl (.inl h)
        · exact .inr h
      · rintro ((h | h | h) | h)
        · exact .inr (.inr (.inl h))
        · exact .inr (.inl h)
        · exact .inl h
        · exact .inr (.inr (.inr h))
/-- what is closed may be taken away -/
theorem VL.restrict (h : VL g S L E) : ∀ {R : List α}, (∀ y ∈ R, ∀ z ∈ g y, z ∈ S ∨ z ∈ R) → VL g (R ++ S) L (E.filter fun y => decide (y ∉ R)) := by
  induction h with
  | nil => intro R _; exact .nil
  | skip hx _ ih => intro R cl; exact .skip (List.mem_append_right _ hx) (ih cl)
  | @go S x L E1 E2 hx h1 h2 ih1 ih2 =>
    intro R cl
    have cl1 : ∀ y ∈ R, ∀ z ∈ g y, z ∈ x :: S ∨ z ∈ R := fun y hy z hz => (cl y hy z hz).imp_left (List.mem_cons_of_mem _)
    have cl2 : ∀ y ∈ R, ∀ z ∈ g y, z ∈ x :: (E1 ++ S) ∨ z ∈ R := fun y hy z hz => (cl y hy z hz).imp_left fun q => List.mem_cons_of_mem _ (List.mem_append_right _ q)
    rw [List.filter_append]
    by_cases hR : x ∈ R
    · have sub : ∀ y ∈ E1, y ∈ R := h1.within cl1 fun z hz => cl1 x hR z hz
      have e1 : (E1.filter fun y => decide (y ∉ R)) = [] := List.filter_eq_nil_iff.mpr fun y hy => by simpa using sub y hy
      rw [e1, List.nil_append, List.filter_cons_of_neg (by simpa using hR)]
      refine .skip (List.mem_append_left _ hR) ((ih2 cl2).ext fun y => ?_)
      simp only [List.mem_append, List.mem_cons]
      constructor
      · rintro (h | rfl | h | h)
        · exact .inl h
        · exact .inl hR
        · exact .inl (sub y h)
        · exact .inr h
      · rintro (h | h)
        · exact .inl h
        · exact .inr (.inr (.inr h))
    · rw [List.filter_cons_of_pos (by simpa using hR)]
      refine .go (fun z => (List.mem_append.mp z).elim hR hx) ((ih1 cl1).ext fun y => ?_) ((ih2 cl2).ext fun y => ?_)
      · simp only [List.mem_append, List.mem_cons]
        constructor
        · rintro (h | h | h)
          · exact .inr (.inl h)
          · exact .inl h
          · exact .inr (.inr h)
        · rintro (h | h | h)
          · exact .inr (.inl h)
          · exact .inl h
          · exact .inr (.inr h)
      · simp only [List.mem_append, List.mem_cons, List.mem_filter, decide_eq_true_eq]
        constructor
        · rintro (h | h | h | h)
          · exact .inr (.inr (.inl h))
          · exact .inl h
          · by_cases q : y ∈ R
            · exact .inr (.inr (.inl q))
            · exact .inr (.inl ⟨h, q⟩)
          · exact .inr (.inr (.inr h))
        · rintro (h | h | h | h)
          · exact .inr (.inl h)
          · exact .inr (.inr (.inl h.1))
          · exact .inl h
          · exact .inr (.inr (.inr h))
/-- the imports of what is visited do not matter -/
theorem VL.graph (h : VL g S L E) : (∀ y, y ∉ S → g y = g' y) → VL g' S L E := by
  induction h with
  | nil => intro _; exact .nil
  | skip hx _ ih => intro e; exact .skip hx (ih e)
  | go hx h1 h2 ih1 ih2 =>
    intro e
    have a := ih1 fun y hy => e y fun z => hy (List.mem_cons_of_mem _ z)
    rw [e _ hx] at a
    exact .go hx a (ih2 fun y hy => e y fun z => hy (List.mem_cons_of_mem _ (List.mem_append_right _ z)))
/-! ### with a bound of the depth; all of it exists -/
inductive VD (g : α → List α) : Nat → List α → List α → List α → Prop
  | nil {d : Nat} {S : List α} : VD g d S [] []
  | skip {d : Nat} {S : List α} {x : α} {L : List α} {E : List α} : x ∈ S → VD g d S L E → VD g d S (x :: L) E
  | go {d : Nat} {S : List α} {x : α} {L : List α} {E1 : List α} {E2 : List α} : x ∉ S → VD g d (x :: S) (g x) E1 → VD g (d + 1) (x :: (E1 ++ S)) L E2 → VD g (d + 1) S (x :: L) (E1 ++ x :: E2)
theorem VD.vl {d : Nat} (h : VD g d S L E) : VL g S L E := by
  induction h with
  | nil => exact .nil
  | skip hx _ ih => exact .skip hx ih
  | go hx _ _ ih1 ih2 => exact .go hx ih1 ih2
theorem VD.ext {d : Nat} (h : VD g d S L E) : ∀ {S'}, (∀ y, y ∈ S ↔ y ∈ S') → VD g d S' L E := by
  induction h with
  | nil => intro S' _; exact .nil
  | skip hx _ ih => intro S' e; exact .skip ((e _).mp hx) (ih e)
  | go hx _ _ ih1 ih2 =>
    intro S' e
    refine .go (fun z => hx ((e _).mpr z)) (ih1 fun y => ?_) (ih2 fun y => ?_)
    · simp only [List.mem_cons, e]
    · simp only [List.mem_cons, List.mem_append, e]
def cnt (N S : List α) : Nat := (N.filter fun y => decide (y ∉ S)).length
theorem cnt_lt {N S : List α} {x : α} (hx : x ∈ N) (hS : x ∉ S) : cnt N (x :: S) < cnt N S := by
  unfold cnt
  induction N with
  | nil => cases hx
  | cons a r ih =>
    have le : ∀ r : List α, (r.filter fun y => decide (y ∉ x :: S)).length ≤ (r.filter fun y => decide (y ∉ S)).length := fun r => by
      induction r with
      | nil => exact Nat.le_refl _
      | cons b t iht =>
        by_cases h1 : b ∈ S
        · rw [List.filter_cons_of_neg (by simp [h1]), List.filter_cons_of_neg (by simp [h1])]
          exact iht
        · rw [List.filter_cons_of_pos (p := fun y => decide (y ∉ S)) (by simpa using h1)]
          by_cases h2 : b = x
          · rw [List.filter_cons_of_neg (by simp [h2])]
            exact Nat.le_succ_of_le iht
          · rw [List.filter_cons_of_pos (by simp [h1, h2])]
            exact Nat.succ_le_succ iht
    by_cases hax : a = x
    · subst hax
      rw [List.filter_cons_of_neg (by simp), List.filter_cons_of_pos (p := fun y => decide (y ∉ S)) (by simpa using hS)]
      exact Nat.lt_succ_of_le (le r)
    · have hr : x ∈ r := (List.mem_cons.mp hx).resolve_left fun e => hax e.symm
      by_cases h1 : a ∈ S
      · rw [List.filter_cons_of_neg (by simp [h1]), List.filter_cons_of_neg (by simp [h1])]
        exact ih hr
      · rw [List.filter_cons_of_pos (by simp [h1, hax]), List.filter_cons_of_pos (p := fun y => decide (y ∉ S)) (by simpa using h1)]
        exact Nat.succ_lt_succ (ih hr)
theorem cnt_mono {N S S' : List α} (h : ∀ y ∈ S, y ∈ S') : cnt N S' ≤ cnt N S := by
  unfold cnt
  induction N with
  | nil => exact Nat.le_refl _
  | cons b t iht =>
    by_cases h1 : b ∈ S'
    · rw [List.filter_cons_of_neg (by simp [h1])]
      by_cases h2 : b ∈ S
      · rw [List.filter_cons_of_neg (by simp [h2])]
        exact iht
      · rw [List.filter_cons_of_pos (by simp [h2])]
        exact Nat.le_succ_of_le iht
    · have h2 : b ∉ S := fun z => h1 (h b z)
      rw [List.filter_cons_of_pos (by simp [h1]), List.filter_cons_of_pos (by simp [h2])]
      exact Nat.succ_le_succ iht
theorem VD.more {d d' : Nat} (h : VD g d S L E) : d ≤ d' → VD g d' S L E := by
  induction h generalizing d' with
  | nil => intro _; exact .nil
  | skip hx _ ih => intro e; exact .skip hx (ih e)
  | go hx _ _ ih1 ih2 =>
    intro e
    obtain ⟨k, rfl⟩ : ∃ k, d' = k + 1 := ⟨d' - 1, by omega⟩
    exact .go hx (ih1 (by omega)) (ih2 e)
theorem VD.total {N : List α} (cl : ∀ y ∈ N, ∀ z ∈ g y, z ∈ N) : ∀ (d : Nat) (S L : List α), cnt N S ≤ d → (∀ y ∈ L, y ∈ N) → ∃ E, VD g d S L E := by
  intro d
  induction d with
  | zero =>
    intro S L hd hl
    induction L with
    | nil => exact ⟨[], .nil⟩
    | cons x L ih =>
      obtain ⟨E, hE⟩ := ih fun y hy => hl y (List.mem_cons_of_mem _ hy)
      by_cases hx : x ∈ S
      · exact ⟨E, .skip hx hE⟩
      · have := cnt_lt (hl x List.mem_cons_self) hx
        omega
  | succ d ihd =>
    intro S L
    induction L generalizing S with
    | nil => intro _ _; exact ⟨[], .nil⟩
    | cons x L ih =>
      intro hd hl
      have hl' : ∀ y ∈ L, y ∈ N := fun y hy => hl y (List.mem_cons_of_mem _ hy)
      by_cases hx : x ∈ S
      · obtain ⟨E, hE⟩ := ih S hd hl'
        exact ⟨E, .skip hx hE⟩
      · have hlt := cnt_lt (hl x List.mem_cons_self) hx
        obtain ⟨E1, h1⟩ := ihd (x :: S) (g x) (by omega) (cl x (hl x List.mem_cons_self))
        obtain ⟨E2, h2⟩ := ih (x :: (E1 ++ S)) (Nat.le_trans (cnt_mono fun y hy => by simp [hy]) hd) hl'
        exact ⟨_, .go hx h1 h2⟩
theorem cnt_le (N S : List α) : cnt N S ≤ N.length := List.length_filter_le _ _
/-! ### a stack of what is left to do -/
inductive Op (α : Type)
  | come (n : α) | leave (n : α)
inductive VS (g : α → List α) : List α → List (Op α) → List α → Prop
  | nil {S : List α} : VS g S [] []
  | leave {S : List α} {n : α} {s : List (Op α)} {E : List α} : VS g S s E → VS g S (.leave n :: s) (n :: E)
  | skip {S : List α} {n : α} {s : List (Op α)} {E : List α} : n ∈ S → VS g S s E → VS g S (.come n :: s) E
  | come {S : List α} {n : α} {s : List (Op α)} {E : List α} : n ∉ S → VS g (n :: S) ((g n).map .come ++ .leave n :: s) E → VS g S (.come n :: s) E
theorem VS.ext {s : List (Op α)} (h : VS g S s E) : ∀ {S'}, (∀ y, y ∈ S ↔ y ∈ S') → VS g S' s E := by
  induction h with
  | nil => intro S' _; exact .nil
  | leave _ ih => intro S' e; exact .leave (ih e)
  | skip hx _ ih => intro S' e; exact .skip ((e _).mp hx) (ih e)
  | come hx _ ih => intro S' e; exact .come (fun z => hx ((e _).mpr z)) (ih fun y => by simp only [List.mem_cons, e])
theorem VS.det {s : List (Op α)} (h : VS g S s E) : ∀ {E'}, VS g S s E' → E = E' := by
  induction h with
  | nil => intro E' h'; cases h'; rfl
  | leave _ ih => intro E' h'; cases h' with | leave h2 => rw [ih h2]
  | skip hx _ ih =>
    intro E' h'
    cases h' with
    | skip _ h2 => exact ih h2
    | come hn _ => exact absurd hx hn
  | come hx _ ih =>
    intro E' h'
    cases h' with
    | skip hn _ => exact absurd hn hx
    | come _ h2 => exact ih h2
theorem VS.graph {s : List (Op α)} (h : VS g S s E) : (∀ y, y ∉ S → g y = g' y) → VS g' S s E := by
  induction h with
  | nil => intro _; exact .nil
  | leave _ ih => intro e; exact .leave (ih e)
  | skip hx _ ih => intro e; exact .skip hx (ih e)
  | come hx _ ih =>
    intro e
    have a := ih fun y hy => e y fun z => hy (List.mem_cons_of_mem _ z)
    rw [e _ hx] at a
    exact .come hx a
/-- names on the stack are visited one after the other -/
theorem VL.push {s : List (Op α)} {E2 : List α} (h : VL g S L E) : VS g (E ++ S) s E2 → VS g S (L.map .come ++ s) (E ++ E2) := by
  induction h generalizing s E2 with
  | nil => exact id
  | skip hx _ ih => intro h2; exact .skip hx (ih h2)
  | @go S x L E1 E3 hx h1 h2 ih1 ih2 =>
    intro h3
    have b := ih2 (s := s) (E2 := E2) (h3.ext fun y => by
      simp only [List.mem_append, List.mem_cons]
      constructor
      · rintro ((h | h | h) | h)
        · exact .inr (.inr (.inl h))
        · exact .inr (.inl h)
        · exact .inl h
        · exact .inr (.inr (.inr h))
      · rintro (h | h | h | h)
        · exact .inl (.inr (.inr h))
        · exact .inl (.inr (.inl h))
        · exact .inl (.inl h)
        · exact .inr h)
    have c := ih1 (s := .leave x :: (L.map .come ++ s)) (.leave (b.ext fun y => by
      simp only [List.mem_append, List.mem_cons]
      constructor
      · rintro (h | h | h)
        · exact .inr (.inl h)
        · exact .inl h
        · exact .inr (.inr h)
      · rintro (h | h | h)
        · exact .inr (.inl h)
        · exact .inl h
        · exact .inr (.inr h)))
    rw [List.append_assoc, List.cons_append]
    exact .come hx c
/-- where a file is met first: ahead of it nothing hangs on its imports -/
theorem VS.meet {s : List (Op α)} (h : VS g S s E) (hF : F ∉ S) : (F ∉ E → True) ∧ ((∀ g'', (∀ y, y ≠ F → g y = g'' y) → VS g'' S s E) ∨
    ∃ pre S1 s1 E1, F ∉ S1 ∧ E = pre ++ E1 ∧ VS g S1 (.come F :: s1) E1 ∧ ∀ g'' E'', (∀ y, y ≠ F → g y = g'' y) → VS g'' S1 (.come F :: s1) E'' → VS g'' S s (pre ++ E'')) := by
  refine ⟨fun _ => trivial, ?_⟩
  induction h with
  | nil => exact .inl fun _ _ => .nil
  | @leave S n s E h ih =>
    rcases ih hF with a | ⟨pre, S1, s1, E1, h1, rfl, h2, h3⟩
    · exact .inl fun g'' e => .leave (a g'' e)
    · exact .inr ⟨n :: pre, S1, s1, E1, h1, rfl, h2, fun g'' E'' e h4 => .leave (h3 g'' E'' e h4)⟩
  | @skip S n s E hx h ih =>
    rcases ih hF with a | ⟨pre, S1, s1, E1, h1, rfl, h2, h3⟩
    · exact .inl fun g'' e => .skip hx (a g'' e)
    · exact .inr ⟨pre, S1, s1, E1, h1, rfl, h2, fun g'' E'' e h4 => .skip hx (h3 g'' E'' e h4)⟩
  | @come S n s E hx h ih =>
    by_cases hn : n = F
    · subst hn
      exact .inr ⟨[], S, s, E, hF, rfl, .come hx h, fun _ _ _ h4 => h4⟩
    · have hF' : F ∉ n :: S := fun z => (List.mem_cons.mp z).elim (fun e => hn e.symm) hF
      rcases ih hF' with a | ⟨pre, S1, s1, E1, h1, rfl, h2, h3⟩
      · exact .inl fun g'' e => .come hx (by rw [← e n hn]; exact a g'' e)
      · exact .inr ⟨pre, S1, s1, E1, h1, rfl, h2, fun g'' E'' e h4 => .come hx (by rw [← e n hn]; exact h3 g'' E'' e h4)⟩
end
end RM
namespace RM
section
variable {α : Type} [DecidableEq α] {g g' : α → List α} {S S' L L1 L2 E E' R N : List α} {x F : α}
def Stk (N : List α) (s : List (Op α)) : Prop := ∀ n, Op.come n ∈ s → n ∈ N
/-- the graph in which F has the imports L -/
def giv (g : α → List α) (F : α) (L : List α) : α → List α := fun y => if y = F then L else g y
theorem giv_ne {y : α} (h : y ≠ F) : giv g F L y = g y := if_neg h
theorem giv_self : giv g F L F = L := if_pos rfl
theorem Stk.push {s : List (Op α)} (h : Stk N s) {n : α} (hl : ∀ y ∈ L, y ∈ N) : Stk N (L.map .come ++ .leave n :: s) := by
  intro m hm
  rcases List.mem_append.mp hm with hm | hm
  · obtain ⟨y, hy, e⟩ := List.mem_map.mp hm
    cases e
    exact hl m hy
  · rcases List.mem_cons.mp hm with hm | hm
    · cases hm
    · exact h m hm
theorem VL.total (cl : ∀ y ∈ N, ∀ z ∈ g y, z ∈ N) (S : List α) (hl : ∀ y ∈ L, y ∈ N) : ∃ E, VL g S L E := by
  obtain ⟨E, h⟩ := VD.total cl (cnt N S) S L (Nat.le_refl _) hl
  exact ⟨E, h.vl⟩
theorem VS.total (cl : ∀ y ∈ N, ∀ z ∈ g y, z ∈ N) : ∀ (s : List (Op α)) (S : List α), Stk N s → ∃ E, VS g S s E
  | [], S, _ => ⟨[], .nil⟩
  | .leave n :: s, S, h => by
    obtain ⟨E, hE⟩ := VS.total cl s S fun m hm => h m (List.mem_cons_of_mem _ hm)
    exact ⟨_, .leave hE⟩
  | .come n :: s, S, h => by
    obtain ⟨E1, h1⟩ := VL.total (L := [n]) cl S fun y hy => by
      have : y = n := by simpa using hy
      subst this
      exact h _ List.mem_cons_self
    obtain ⟨E, hE⟩ := VS.total cl s (E1 ++ S) fun m hm => h m (List.mem_cons_of_mem _ hm)
    exact ⟨_, h1.push hE⟩
theorem VS.meetN (cl : ∀ y ∈ N, y ≠ F → ∀ z ∈ g y, z ∈ N) {s : List (Op α)} (h : VS g S s E) : Stk N s → F ∉ S → (∀ g'', (∀ y, y ≠ F → g y = g'' y) → VS g'' S s E) ∨
    ∃ pre S1 s1, Stk N s1 ∧ F ∉ S1 ∧ ∀ g'' E'', (∀ y, y ≠ F → g y = g'' y) → VS g'' S1 (.come F :: s1) E'' → VS g'' S s (pre ++ E'') := by
  induction h with
  | nil => intro _ _; exact .inl fun _ _ => .nil
  | @leave S n s E h ih =>
    intro st hF
    rcases ih (fun m hm => st m (List.mem_cons_of_mem _ hm)) hF with a | ⟨pre, S1, s1, h0, h1, h3⟩
    · exact .inl fun g'' e => .leave (a g'' e)
    · exact .inr ⟨n :: pre, S1, s1, h0, h1, fun g'' E'' e h4 => .leave (h3 g'' E'' e h4)⟩
  | @skip S n s E hx h ih =>
    intro st hF
    rcases ih (fun m hm => st m (List.mem_cons_of_mem _ hm)) hF with a | ⟨pre, S1, s1, h0, h1, h3⟩
    · exact .inl fun g'' e => .skip hx (a g'' e)
    · exact .inr ⟨pre, S1, s1, h0, h1, fun g'' E'' e h4 => .skip hx (h3 g'' E'' e h4)⟩
  | @come S n s E hx h ih =>
    intro st hF
    have st' : Stk N s := fun m hm => st m (List.mem_cons_of_mem _ hm)
    by_cases hn : n = F
    · subst hn
      exact .inr ⟨[], S, s, st', hF, fun _ _ _ h4 => h4⟩
    · have hF' : F ∉ n :: S := fun z => (List.mem_cons.mp z).elim (fun e => hn e.symm) hF
      rcases ih (st'.push (cl n (st n List.mem_cons_self) hn)) hF' with a | ⟨pre, S1, s1, h0, h1, h3⟩
      · exact .inl fun g'' e => .come hx (by rw [← e n hn]; exact a g'' e)
      · exact .inr ⟨pre, S1, s1, h0, h1, fun g'' E'' e h4 => .come hx (by rw [← e n hn]; exact h3 g'' E'' e h4)⟩
/-- the runs of an entry for all imports of a file: the same, or alike ahead of the file and behind it -/
theorem runs_of (cl : ∀ y ∈ N, y ≠ F → ∀ z ∈ g y, z ∈ N) (hFN : F ∈ N) {e : α} (he : e ∈ N) : (∃ E, ∀ L, VS (giv g F L) [] [.come e] E) ∨
    ∃ pre S1 s1, F ∉ S1 ∧ Stk N s1 ∧ ∀ L, (∀ y ∈ L, y ∈ N) → ∃ EL r, VL g (F :: S1) L EL ∧ VS g (EL ++ F :: S1) s1 r ∧ VS (giv g F L) [] [.come e] (pre ++ (EL ++ F :: r)) := by
  have clL : ∀ L, (∀ y ∈ L, y ∈ N) → ∀ y ∈ N, ∀ z ∈ giv g F L y, z ∈ N := fun L hl y hy z hz => by
    by_cases hyF : y = F
    · subst hyF
      rw [giv_self] at hz
      exact hl z hz
    · rw [giv_ne hyF] at hz
      exact cl y hy hyF z hz
  have st : Stk N [Op.come e] := fun n hn => by
    have : n = e := by simpa using hn
    subst this
    exact he
  obtain ⟨E0, h0⟩ := VS.total (clL [] fun y hy => nomatch hy) [.come e] [] st
  have cl0 : ∀ y ∈ N, y ≠ F → ∀ z ∈ giv g F [] y, z ∈ N := fun y hy hyF z hz => clL [] (fun y hy => nomatch hy) y hy z hz
  have agree : ∀ L y, y ≠ F → giv g F [] y = giv g F L y := fun L y hy => by rw [giv_ne hy, giv_ne hy]
  rcases VS.meetN cl0 h0 st (fun z => nomatch z) with a | ⟨pre, S1, s1, hs, hF, hr⟩
  · exact .inl ⟨E0, fun L => a _ (agree L)⟩
  · refine .inr ⟨pre, S1, s1, hF, hs, fun L hl => ?_⟩
    have off : ∀ (V : List α) y, F ∈ V → y ∉ V → giv g F L y = g y := fun V y hV hy => giv_ne fun e => hy (by rw [e]; exact hV)
    obtain ⟨EL, h1⟩ := VL.total (clL L hl) (F :: S1) hl
    obtain ⟨r, h2⟩ := VS.total (clL L hl) s1 (EL ++ F :: S1) hs
    refine ⟨EL, r, h1.graph fun y hy => off _ y List.mem_cons_self hy, h2.graph fun y hy => off _ y (by simp) hy, hr _ _ (agree L) (.come hF ?_)⟩
    rw [giv_self]
    exact h1.push (.leave h2)
theorem VL.same_set (h1 : VL g S L1 E) (h2 : VL g S L2 E') (hl : ∀ y, y ∈ L1 ↔ y ∈ L2) : ∀ y, y ∈ E ↔ y ∈ E' := fun y =>
  ⟨fun hy => h1.within (fun a ha z hz => h2.closed a ha z hz) (fun z hz => h2.covers z ((hl z).mp hz)) y hy, fun hy => h2.within (fun a ha z hz => h1.closed a ha z hz) (fun z hz => h1.covers z ((hl z).mpr hz)) y hy⟩
theorem prefix_or {a b c d : List α} (h : a ++ c = b ++ d) : (∃ e, a = b ++ e) ∨ ∃ e, b = a ++ e := by
  rcases List.append_eq_append_iff.mp h with ⟨e, h1, _⟩ | ⟨e, h1, _⟩
  · exact .inr ⟨e, h1⟩
  · exact .inl ⟨e, h1⟩
theorem minus_pre {a e : List α} (nd : (a ++ e).Nodup) : ((a ++ e).filter fun y => decide (y ∉ a)) = e ∧ (a.filter fun y => decide (y ∉ a ++ e)) = [] := by
  obtain ⟨_, _, dj⟩ := List.nodup_append.mp nd
  refine ⟨?_, List.filter_eq_nil_iff.mpr fun y hy => by simp [hy]⟩
  rw [List.filter_append, List.filter_eq_nil_iff.mpr (fun y hy => by simp [hy]), List.nil_append]
  exact List.filter_eq_self.mpr fun y hy => by
    have : y ∉ a := fun z => dj y z y hy rfl
    simpa using this
/-- two lists that begin one list, one taken from the other on either side -/
theorem swap_pre {a b c d : List α} (na : a.Nodup) (nb : b.Nodup) (h : a ++ c = b ++ d) : a ++ (b.filter fun y => decide (y ∉ a)) = b ++ (a.filter fun y => decide (y ∉ b)) := by
  rcases prefix_or h with ⟨e, rfl⟩ | ⟨e, rfl⟩
  · obtain ⟨h1, h2⟩ := minus_pre na
    rw [h1, h2, List.append_nil]
  · obtain ⟨h1, h2⟩ := minus_pre nb
    rw [h1, h2, List.append_nil]
theorem filter_minus {p : α → Bool} {a b : List α} : (a.filter fun y => decide (y ∉ b)).filter p = (a.filter p).filter fun y => decide (y ∉ b.filter p) := by
  rw [List.filter_filter, List.filter_filter]
  refine List.filter_congr fun y hy => ?_
  by_cases h : p y = true
  · simp [h]
  · simp [h]
/-- G5 for one entry: behind a place where the new name changes nothing, one place further it changes nothing either -/
theorem insert_mono (cl : ∀ y ∈ N, y ≠ F → ∀ z ∈ g y, z ∈ N) (hFN : F ∈ N) {e : α} (he : e ∈ N) (p : α → Bool) {A C B : List α} {x : α} (hA : ∀ y ∈ A, y ∈ N) (hC : ∀ y ∈ C, y ∈ N) (hB : ∀ y ∈ B, y ∈ N) (hx : x ∈ N) {E0 E1 E2 : List α}
    (h0 : VS (giv g F (A ++ (C ++ B))) [] [.come e] E0) (h1 : VS (giv g F (A ++ x :: (C ++ B))) [] [.come e] E1) (h2 : VS (giv g F (A ++ (C ++ x :: B))) [] [.come e] E2) (hp : E1.filter p = E0.filter p) : E2.filter p = E0.filter p := by
  rcases runs_of cl hFN he with ⟨E, a⟩ | ⟨pre, S1, s1, hF, hs, all⟩
  · rw [h2.det (a _), h0.det (a _)]
  · have m0 : ∀ y ∈ A ++ (C ++ B), y ∈ N := fun y hy => by
      rcases List.mem_append.mp hy with z | z
      · exact hA y z
      · exact (List.mem_append.mp z).elim (hC y) (hB y)
    have m1 : ∀ y ∈ A ++ x :: (C ++ B), y ∈ N := fun y hy => by
      rcases List.mem_append.mp hy with z | z
      · exact hA y z
      · rcases List.mem_cons.mp z with rfl | z
        · exact hx
        · exact (List.mem_append.mp z).elim (hC y) (hB y)
    have m2 : ∀ y ∈ A ++ (C ++ x :: B), y ∈ N := fun y hy => by
      rcases List.mem_append.mp hy with z | z
      · exact hA y z
      · rcases List.mem_append.mp z with z | z
        · exact hC y z
        · rcases List.mem_cons.mp z with rfl | z
          · exact hx
          · exact hB y z
    obtain ⟨L0, r0, v0, s0, q0⟩ := all _ m0
    obtain ⟨L1, r1, v1, t1, q1⟩ := all _ m1
    obtain ⟨L2, r2, v2, t2, q2⟩ := all _ m2
    have e0 := h0.det q0
    have e1 := h1.det q1
    have e2 := h2.det q2
    have same := v1.same_set v2 fun y => by
      simp only [List.mem_append, List.mem_cons]
      constructor
      · rintro (h | h | h | h)
        · exact .inl h
        · exact .inr (.inr (.inl h))
        · exact .inr (.inl h)
        · exact .inr (.inr (.inr h))
      · rintro (h | h | h | h)
        · exact .inl h
        · exact .inr (.inr (.inl h))
        · exact .inr (.inl h)
        · exact .inr (.inr (.inr h))
    have er : r2 = r1 := t2.det (t1.ext fun y => by simp only [List.mem_append, same])
    subst er
    -- the parts
    obtain ⟨EA, Y0, a0, b0, rfl⟩ := v0.unapp
    obtain ⟨EC, EB, c0, d0, rfl⟩ := b0.unapp
    obtain ⟨EA1, Y1, a1, b1, rfl⟩ := v1.unapp
    have := a0.det a1
    subst this
    obtain ⟨X, Z1, x1, z1, rfl⟩ := VL.unapp (L1 := [x]) (L2 := C ++ B) b1
    obtain ⟨EC1, EB1, c1, d1, rfl⟩ := z1.unapp
    obtain ⟨EA2, Y2, a2, b2, rfl⟩ := v2.unapp
    have := a0.det a2
    subst this
    obtain ⟨EC2, Z2, c2, z2, rfl⟩ := b2.unapp
    have := c0.det c2
    subst this
    obtain ⟨X2, EB2, x2, d2, rfl⟩ := VL.unapp (L1 := [x]) (L2 := B) z2
    have clX : ∀ y ∈ X, ∀ z ∈ g y, z ∈ EA ++ F :: S1 ∨ z ∈ X := x1.closed
    have clC : ∀ y ∈ EC, ∀ z ∈ g y, z ∈ EA ++ F :: S1 ∨ z ∈ EC := c0.closed
    have eC1 : EC1 = EC.filter fun y => decide (y ∉ X) := c1.det (c0.restrict clX)
    have eX2 : X2 = X.filter fun y => decide (y ∉ EC) := x2.det (x1.restrict clC)
    have base1 := d0.restrict (R := X) fun y hy z hz => (clX y hy z hz).imp_left fun q => List.mem_append_right _ q
    have eB1 : EB1 = EB.filter fun y => decide (y ∉ X) := d1.det (base1.ext fun y => by
      rw [eC1]
      simp only [List.mem_append, List.mem_filter, decide_eq_true_eq]
      constructor
      · rintro (h | h | h)
        · exact .inr (.inl h)
        · by_cases q : y ∈ X
          · exact .inr (.inl q)
          · exact .inl ⟨h, q⟩
        · exact .inr (.inr h)
      · rintro (h | h | h)
        · exact .inr (.inl h.1)
        · exact .inl h
        · exact .inr (.inr h))
    have eB2 : EB2 = EB.filter fun y => decide (y ∉ X) := d2.det (base1.ext fun y => by
      rw [eX2]
      simp only [List.mem_append, List.mem_filter, decide_eq_true_eq]
      constructor
      · rintro (h | h | h)
        · by_cases q : y ∈ EC
          · exact .inr (.inl q)
          · exact .inl ⟨h, q⟩
        · exact .inr (.inl h)
        · exact .inr (.inr h)
      · rintro (h | h | h)
        · exact .inl h.1
        · exact .inr (.inl h)
        · exact .inr (.inr h))
    rw [e0, e1, eC1, eB1] at hp
    rw [e2, e0, eX2, eB2, ← hp]
    simp only [List.filter_append, filter_minus, List.append_assoc] at hp ⊢
    have hp' := List.append_cancel_left (List.append_cancel_left hp)
    have key := swap_pre (x1.nodup.filter p) (c0.nodup.filter p) hp'
    rw [← List.append_assoc (X.filter p), key]
    simp only [List.append_assoc]
end
end RM

set_option Elab.async false
set_option linter.all false
set_option maxRecDepth 100000
set_option maxHeartbeats 4000000
set_option exponentiation.threshold 100000
/-! PG: projects as graphs: plain. -/
namespace FL
open PySem PySem.Spec PyProof.Rows L2 GL RM
def nms (p : List Mod) : List Str := p.map (·.name)
structure Wf (p : List Mod) : Prop where
  nd : (nms p).Nodup
  inn : ∀ m ∈ p, ∀ i ∈ m.imps, i ∈ nms p
  pl : p.length ≤ 60
  il : ∀ m ∈ p, m.imps.length ≤ 60
def modAt (p : List Mod) (n : Str) : Option Mod := p.find? fun m => decide (m.name = n)
def impOf (p : List Mod) (n : Str) : List Str := ((modAt p n).map (·.imps)).getD []
def effOf (p : List Mod) (n : Str) : Bool := ((modAt p n).map (·.eff)).getD false
theorem modAt_some {p : List Mod} {n : Str} (h : n ∈ nms p) : ∃ m, modAt p n = some m ∧ m ∈ p ∧ m.name = n := by
  obtain ⟨m, hm, e⟩ := List.mem_map.mp h
  cases e2 : modAt p n with
  | none =>
    have := List.find?_eq_none.mp e2 m hm
    exact absurd e (by simpa using this)
  | some m2 => exact ⟨m2, rfl, List.mem_of_find?_eq_some e2, by simpa using List.find?_some e2⟩
theorem Wf.cl {p : List Mod} (h : Wf p) : ∀ y ∈ nms p, ∀ z ∈ impOf p y, z ∈ nms p := fun y hy z hz => by
  obtain ⟨m, e, hm, rfl⟩ := modAt_some hy
  unfold impOf at hz
  rw [e] at hz
  exact h.inn m hm z hz
theorem impOf_len {p : List Mod} (h : Wf p) (n : Str) : (impOf p n).length ≤ 60 := by
  unfold impOf
  cases e : modAt p n with
  | none => exact Nat.zero_le _
  | some m => exact h.il m (List.mem_of_find?_eq_some e)
open Classical in
noncomputable def runs (p : List Mod) (e : Str) : List Str := if h : ∃ E, VL (impOf p) [] [e] E then choose h else []
theorem runs_vl {p : List Mod} (h : Wf p) {e : Str} (he : e ∈ nms p) : VL (impOf p) [] [e] (runs p e) := by
  have x : ∃ E, VL (impOf p) [] [e] E := VL.total h.cl [] (by simpa using he)
  unfold runs
  rw [dif_pos x]
  exact Classical.choose_spec x
theorem runs_in {p : List Mod} (h : Wf p) {e : Str} (he : e ∈ nms p) : ∀ y ∈ runs p e, y ∈ nms p :=
  (runs_vl h he).within (R := nms p) (fun y hy z hz => .inr (h.cl y hy z hz)) fun y hy => .inr (by simpa using (List.mem_singleton.mp hy) ▸ he)
theorem nodup_le {α : Type} [DecidableEq α] : ∀ {a b : List α}, a.Nodup → (∀ y ∈ a, y ∈ b) → a.length ≤ b.length
  | [], _, _, _ => Nat.zero_le _
  | x :: r, b, nd, h => by
    have hx := h x List.mem_cons_self
    have := nodup_le (a := r) (b := b.erase x) (List.nodup_cons.mp nd).2 fun y hy => by
      have ne : y ≠ x := fun e => (List.nodup_cons.mp nd).1 (e ▸ hy)
      exact (List.mem_erase_of_ne ne).mpr (h y (List.mem_cons_of_mem _ hy))
    rw [List.length_erase_of_mem hx] at this
    have : 0 < b.length := List.length_pos_of_mem hx
    simp only [List.length_cons]
    omega
theorem runs_len {p : List Mod} (h : Wf p) {e : Str} (he : e ∈ nms p) : (runs p e).length ≤ 60 := by
  have := nodup_le (runs_vl h he).nodup (runs_in h he)
  have l := h.pl
  unfold nms at this
  rw [List.length_map] at this
  omega
noncomputable def trc (p : List Mod) (e : Str) : List Str := (runs p e).filter (effOf p)
def giveM (n : Str) (is : List Str) (m : Mod) : Mod := if m.name = n then ⟨m.name, is, m.eff⟩ else m
def giveI (p : List Mod) (n : Str) (is : List Str) : List Mod := p.map (giveM n is)
def insAt (is : List Str) (k : Nat) (x : Str) : List Str := is.take k ++ x :: is.drop k
theorem giveM_name (n : Str) (is : List Str) (m : Mod) : (giveM n is m).name = m.name := by
  unfold giveM
  split <;> rfl
theorem giveM_eff (n : Str) (is : List Str) (m : Mod) : (giveM n is m).eff = m.eff := by
  unfold giveM
  split <;> rfl
theorem nms_give (p : List Mod) (n : Str) (is : List Str) : nms (giveI p n is) = nms p := by
  unfold nms giveI
  rw [List.map_map]
  exact List.map_congr_left fun m _ => giveM_name n is m
theorem modAt_give (p : List Mod) (n : Str) (is : List Str) (y : Str) : modAt (giveI p n is) y = (modAt p y).map (giveM n is) := by
  induction p with
  | nil => rfl
  | cons m r ih =>
    have e1 : modAt (giveI (m :: r) n is) y = if m.name = y then some (giveM n is m) else modAt (giveI r n is) y := by
      show (giveM n is m :: giveI r n is).find? _ = _
      rw [List.find?_cons]
      by_cases e : m.name = y
      · rw [if_pos e]
        simp [giveM_name, e]
      · rw [if_neg e]
        simp [giveM_name, e, modAt]
    have e2 : modAt (m :: r) y = if m.name = y then some m else modAt r y := by
      show (m :: r).find? _ = _
      rw [List.find?_cons]
      by_cases e : m.name = y
      · rw [if_pos e]
        simp [e]
      · rw [if_neg e]
        simp [e, modAt]
    rw [e1, e2, ih]
    split <;> rfl
theorem effOf_give (p : List Mod) (n : Str) (is : List Str) : effOf (giveI p n is) = effOf p := by
  funext y
  unfold effOf
  rw [modAt_give]
  cases modAt p y with
  | none => rfl
  | some m => simp [giveM_eff]
theorem impOf_give {p : List Mod} {n : Str} (h : n ∈ nms p) (is : List Str) : impOf (giveI p n is) = giv (impOf p) n is := by
  funext y
  unfold impOf giv
  rw [modAt_give]
  by_cases e : y = n
  · subst e
    obtain ⟨m, em, _, mn⟩ := modAt_some h
    rw [em, if_pos rfl]
    simp [giveM, mn]
  · rw [if_neg e]
    show _ = ((modAt p y).map (·.imps)).getD []
    cases em : modAt p y with
    | none => rfl
    | some m =>
      have mn : m.name = y := by simpa using List.find?_some em
      simp [giveM, mn, e]
theorem Wf.give {p : List Mod} (h : Wf p) {n : Str} {is : List Str} (hi : ∀ i ∈ is, i ∈ nms p) (hl : is.length ≤ 60) : Wf (giveI p n is) := by
  refine ⟨by rw [nms_give]; exact h.nd, fun m hm i hi2 => ?_, by unfold giveI; rw [List.length_map]; exact h.pl, fun m hm => ?_⟩
  · rw [nms_give]
    obtain ⟨m0, h0, rfl⟩ := List.mem_map.mp hm
    unfold giveM at hi2
    split at hi2
    · exact hi i hi2
    · exact h.inn m0 h0 i hi2
  · obtain ⟨m0, h0, rfl⟩ := List.mem_map.mp hm
    unfold giveM
    split
    · exact hl
    · exact h.il m0 h0
theorem trc_in {p : List Mod} (h : Wf p) {e : Str} (he : e ∈ nms p) : ∀ y ∈ trc p e, y ∈ nms p := fun y hy => runs_in h he y (List.mem_filter.mp hy).1
theorem trc_len {p : List Mod} (h : Wf p) {e : Str} (he : e ∈ nms p) : (trc p e).length ≤ 60 := Nat.le_trans (List.length_filter_le _ _) (runs_len h he)
theorem VD.cons_inv {α : Type} [DecidableEq α] {g : α → List α} {d : Nat} {S L E : List α} {x : α} (h : VD g d S (x :: L) E) : ∃ E1 E2, VD g d S [x] E1 ∧ (∀ S', (∀ y, y ∈ S' ↔ y ∈ S ∨ y ∈ E1) → VD g d S' L E2) ∧ E = E1 ++ E2 := by
  cases h with
  | skip hx h2 => exact ⟨[], E, .skip hx .nil, fun S' e => h2.ext fun y => by simp [e], rfl⟩
  | @go d' _ _ _ E1 E2 hx h1 h2 =>
    refine ⟨E1 ++ [x], E2, .go hx h1 .nil, fun S' e => h2.ext fun y => ?_, by simp⟩
    rw [e]
    simp only [List.mem_cons, List.mem_append, List.not_mem_nil, or_false]
    constructor
    · rintro (h | h | h)
      · exact .inr (.inr h)
      · exact .inr (.inl h)
      · exact .inl h
    · rintro (h | h | h)
      · exact .inr (.inr h)
      · exact .inr (.inl h)
      · exact .inl h
theorem VD.drop_inv {α : Type} [DecidableEq α] {g : α → List α} {d : Nat} : ∀ {L S E : List α} {i : Nat} {x : α}, VD g d S (L.drop i) E → L[i]? = some x → ∃ E1 E2, VD g d S [x] E1 ∧ (∀ S', (∀ y, y ∈ S' ↔ y ∈ S ∨ y ∈ E1) → VD g d S' (L.drop (i + 1)) E2) ∧ E = E1 ++ E2 := by
  intro L S E i x h e
  have hl : i < L.length := (List.getElem?_eq_some_iff.mp e).1
  have e2 : L[i] = x := (List.getElem?_eq_some_iff.mp e).2
  rw [List.drop_eq_getElem_cons hl, e2] at h
  exact VD.cons_inv h
theorem insAt_mem {is : List Str} {k : Nat} {o y : Str} : y ∈ insAt is k o ↔ y ∈ is ∨ y = o := by
  unfold insAt
  rw [List.mem_append, List.mem_cons]
  constructor
  · rintro (h | h | h)
    · exact .inl (List.mem_of_mem_take h)
    · exact .inr h
    · exact .inl (List.mem_of_mem_drop h)
  · rintro (h | h)
    · rw [← List.take_append_drop k is] at h
      rcases List.mem_append.mp h with h | h
      · exact .inl h
      · exact .inr (.inr h)
    · exact .inr (.inl h)
theorem insAt_nodup {is : List Str} {k : Nat} {o : Str} (h : is.Nodup) (ho : o ∉ is) : (insAt is k o).Nodup := by
  unfold insAt
  have e : (is.take k ++ o :: is.drop k).Perm (o :: (is.take k ++ is.drop k)) := List.perm_middle
  rw [e.nodup_iff, List.take_append_drop]
  exact List.nodup_cons.mpr ⟨ho, h⟩
theorem insAt_len {is : List Str} {k : Nat} {o : Str} : (insAt is k o).length = is.length + 1 := by
  unfold insAt
  simp only [List.length_append, List.length_cons, List.length_take, List.length_drop]
  omega
def GoodAt (p : List Mod) (n o : Str) (ws : List Str) (k : Nat) : Prop := ∀ e ∈ ws, trc (giveI p n (insAt (impOf p n) k o)) e = trc p e
theorem VS.ofVL {g : Str → List Str} {e : Str} {E : List Str} (h : VL g [] [e] E) : VS g [] [.come e] E := by
  have := VL.push (s := []) (E2 := []) h .nil
  simpa using this
theorem trc_give {p : List Mod} {n e : Str} {is : List Str} (wf : Wf p) (hn : n ∈ nms p) (he : e ∈ nms p) (hi : ∀ i ∈ is, i ∈ nms p) (hl : is.length ≤ 60) : ∃ E, VS (giv (impOf p) n is) [] [.come e] E ∧ trc (giveI p n is) e = E.filter (effOf p) := by
  have w2 := wf.give (n := n) hi hl
  have r := runs_vl w2 (e := e) (by rw [nms_give]; exact he)
  rw [impOf_give hn] at r
  refine ⟨_, VS.ofVL r, ?_⟩
  unfold trc
  rw [effOf_give]
theorem giv_self_eq (p : List Mod) (n : Str) : giv (impOf p) n (impOf p n) = impOf p := by
  funext y
  unfold giv
  split
  · next h => rw [h]
  · rfl
theorem trc_own {p : List Mod} {n e : Str} (wf : Wf p) (he : e ∈ nms p) : ∃ E, VS (giv (impOf p) n (impOf p n)) [] [.come e] E ∧ trc p e = E.filter (effOf p) := by
  rw [giv_self_eq]
  exact ⟨_, VS.ofVL (runs_vl wf he), rfl⟩
theorem good_up {p : List Mod} {n o : Str} {ws : List Str} {j k : Nat} (wf : Wf p) (hn : n ∈ nms p) (ho : o ∈ nms p) (hw : ∀ e ∈ ws, e ∈ nms p) (il : (impOf p n).length ≤ 50) (hjk : j ≤ k) (hk : k ≤ (impOf p n).length) (h : GoodAt p n o ws j) : GoodAt p n o ws k := by
  intro e he
  have hg := h e he
  have hm : ∀ {q : Nat}, ∀ i ∈ insAt (impOf p n) q o, i ∈ nms p := fun {q} i hi => by
    rcases insAt_mem.mp hi with z | rfl
    · exact wf.cl n hn i z
    · exact ho
  obtain ⟨E1, v1, e1⟩ := trc_give wf hn (hw e he) (hm (q := j)) (by rw [insAt_len]; omega)
  obtain ⟨E2, v2, e2⟩ := trc_give wf hn (hw e he) (hm (q := k)) (by rw [insAt_len]; omega)
  obtain ⟨E0, v0, e0⟩ := trc_own (n := n) wf (hw e he)
  have sp : impOf p n = (impOf p n).take j ++ (((impOf p n).drop j).take (k - j) ++ (impOf p n).drop k) := by
    have a : (impOf p n).drop k = ((impOf p n).drop j).drop (k - j) := by rw [List.drop_drop]; congr 1; omega
    rw [a, List.take_append_drop, List.take_append_drop]
  have s1 : insAt (impOf p n) j o = (impOf p n).take j ++ o :: (((impOf p n).drop j).take (k - j) ++ (impOf p n).drop k) := by
    have a : (impOf p n).drop k = ((impOf p n).drop j).drop (k - j) := by rw [List.drop_drop]; congr 1; omega
    rw [a, List.take_append_drop]
    rfl
  have s2 : insAt (impOf p n) k o = (impOf p n).take j ++ (((impOf p n).drop j).take (k - j) ++ o :: (impOf p n).drop k) := by
    unfold insAt
    rw [← List.append_assoc]
    congr 1
    have : k = j + (k - j) := by omega
    conv => lhs; rw [this, List.take_add]
  rw [s1] at v1
  rw [s2] at v2
  have v0' : VS (giv (impOf p) n ((impOf p n).take j ++ (((impOf p n).drop j).take (k - j) ++ (impOf p n).drop k))) [] [.come e] E0 := by rw [← sp]; exact v0
  rw [e2, e0]
  refine insert_mono (N := nms p) (fun y hy _ => wf.cl y hy) hn (hw e he) (effOf p) (fun y hy => ?_) (fun y hy => ?_) (fun y hy => ?_) ho v0' v1 v2 (by rw [← e1, ← e0]; exact hg)
  · exact wf.cl n hn y (List.mem_of_mem_take hy)
  · exact wf.cl n hn y (List.mem_of_mem_drop (List.mem_of_mem_take hy))
  · exact wf.cl n hn y (List.mem_of_mem_drop hy)
end FL

set_option Elab.async false
set_option linter.all false
set_option maxRecDepth 100000
set_option maxHeartbeats 4000000
set_option exponentiation.threshold 100000
/-! PR: the program's functions over pure values: names, visits, traces. -/
namespace FL
open PySem PySem.Spec PyProof.Rows L2 GL RM
local macro_rules | `(tactic| walk_at "ev") => `(tactic| repeat' (first
  | (show _ = _; with_reducible assumption)
  | with_reducible exact ev_c | with_reducible exact ev_nil | with_reducible exact ev_yes | with_reducible exact ev_next | with_reducible exact ev_break | with_reducible exact ev_cont | with_reducible exact ev_retN | with_reducible exact ev_opt0
  | with_reducible apply ev_var | with_reducible apply ev_op | with_reducible apply ev_un | with_reducible apply ev_cb | with_reducible apply ev_cons | with_reducible apply ev_tup | with_reducible apply ev_lst
  | with_reducible apply ev_B | with_reducible apply ev_not | with_reducible apply ev_and | with_reducible apply ev_or | with_reducible apply ev_andV | with_reducible apply ev_orV | with_reducible apply ev_notV | with_reducible apply ev_if
  | with_reducible apply ev_opt1 | with_reducible apply ev_sl | with_reducible apply ev_call | with_reducible apply ev_mut
  | with_reducible apply ev_dput | with_reducible apply ev_star | with_reducible apply ev_lenSet | with_reducible apply ev_callV | with_reducible apply ev_chainT | with_reducible apply ev_extend
  | with_reducible apply ev_seq | with_reducible apply ev_ret | with_reducible apply ev_drop | with_reducible apply ev_ifS | with_reducible apply ev_asg | with_reducible apply ev_par | with_reducible apply ev_aug | with_reducible apply ev_sub
  | with_reducible refine ev_nT ?_ | with_reducible refine ev_nF ?_
  | with_reducible refine ev_dT (by first | assumption | omega) ?_ | with_reducible refine ev_dF (by first | assumption | omega) ?_ | with_reducible refine ev_T (by first | rfl | assumption) ?_ | with_reducible refine ev_F (by first | rfl | assumption) ?_
  | with_reducible exact addD_i | with_reducible exact subD_i | with_reducible exact ltD_i | with_reducible exact leD_i | with_reducible exact ixD_l0 | with_reducible exact ixD_l1 | with_reducible exact ixD_l2 | with_reducible exact ixD_t0 | with_reducible exact ixD_t1 | with_reducible exact ixD_t2
  | with_reducible apply modD_i | with_reducible apply divD_i | with_reducible apply mulD_p
  | with_reducible apply ev_rng1 | with_reducible apply ev_rng2 | with_reducible apply ev_for' | with_reducible apply ev_lc | with_reducible apply ev_dc | with_reducible apply ev_turn | with_reducible exact ev_turn0 | with_reducible apply ev_lcB | with_reducible apply ev_dcB
  | with_reducible apply gn_val | with_reducible apply gn_new | with_reducible apply g_tup | with_reducible apply gall_cons | with_reducible exact gall_nil | with_reducible apply stores_cons | with_reducible exact stores_nil
  | with_reducible exact FreeE.none | with_reducible exact FreeE.frz | with_reducible exact FreeE.own | (show FreeE _; assumption)
  | with_reducible exact ixN_0 | with_reducible exact ixN_1 | with_reducible exact ixN_2
  | (show _ = _; dsimp only [Ent.val, Ent.put, Ent.tok]; with_reducible assumption)
  | (show turnsF _ _ _ _ _ _ _ = _; assumption) | (show loopF _ _ _ _ = _; assumption)
  | (show (_ : Env) = _; first | (dsimp only [startE, List.replicate, List.append_eq, List.cons_append, List.nil_append, List.set_cons_zero, List.set_cons_succ, List.getElem?_cons_zero, List.getElem?_cons_succ, Ent.put, Ent.val, Ent.tok, backs, lockAll, lockT, unlockAll, unlock, List.foldr, rest, wipeE, Option.join] <;> rfl) | rfl)
  | (show List.length _ ≤ _; exact Nat.le_of_ble_eq_true rfl) | (show _ < _; omega) | (show _ ≤ _; omega)
  | rfl))
def F_is_integer : Sf :=
  (fRet (fAndV (fCB (c2 isiD) (fCons (fVar 0) (fCons (fC (.ty "int")) fNil))) (fNotV (fCB (c2 isiD) (fCons (fVar 0) (fCons (fC (.ty "bool")) fNil))))))
def fn_is_integer : Fn := mkFn [false] 0 F_is_integer
def F_are_different : Sf :=
  (fRet (fAndV (fOp leD (fCB lenD (fCons (fVar 0) fNil)) (fC (.int 20))) (fOp eqD (fLenSet (fVar 0)) (fCB lenD (fCons (fVar 0) fNil)))))
def fn_are_different : Fn := mkFn [false] 0 F_are_different
def F_by_name : Sf :=
  (fRet (fDc (fCons (fVar 0) fNil) seqIt (Gname 1) fYes (fOp ixD (fVar 1) (fC (.int 0))) (fVar 1) [1]))
def fn_by_name : Fn := mkFn [false] 1 F_by_name
def B_check_names_1 : Sf :=
  (fIfS (fOr (fNot (fB (fCB (c2 isiD) (fCons (fVar 3) (fCons (fC (.ty "str")) fNil))))) (fB (fOp notInD (fVar 3) (fVar 2)))) fNever fNext)
def F_check_names : Sf :=
  (fSeq (fAsg (fCall [false] fn_by_name (fCons (fVar 0) fNil)) (Gname 2))
    (fFor (fCons (fVar 1) fNil) seqIt (Gname 3) B_check_names_1))
def fn_check_names : Fn := starFn 1 (mkFn (List.replicate 2 false) 2 F_check_names)
def F_with_imports : Sf :=
  (fSeq (fDrop (fCallV fn_check_names (fCons (fVar 0) (fCons (fVar 1) fNil))))
    (fSeq (fAsg (fCall [false] fn_by_name (fCons (fVar 0) fNil)) (Gname 3))
    (fSeq (fIfS (fOr (fNot (fB (fCB (c2 isiD) (fCons (fVar 2) (fCons (fC (.ty "tuple")) fNil))))) (fNot (fB (fCB (c1 allD) (fCons (fLc (fCons (fVar 2) fNil) seqIt (Gname 4) fYes (fAndV (fCB (c2 isiD) (fCons (fVar 4) (fCons (fC (.ty "str")) fNil))) (fOp inD (fVar 4) (fVar 3))) [4]) fNil))))) fNever fNext)
    (fSeq (fIfS (fOr (fB (fOp inD (fVar 1) (fVar 2))) (fNot (fB (fCall [false] fn_are_different (fCons (fVar 2) fNil))))) fNever fNext)
    (fRet (fCB (c1 tupleD) (fCons (fLc (fCons (fVar 0) fNil) seqIt (Gname 5) fYes (fIf (fB (fOp eqD (fOp ixD (fVar 5) (fC (.int 0))) (fVar 1))) (fTup (fCons (fVar 1) (fCons (fVar 2) (fCons (fOp ixD (fVar 5) (fC (.int 2))) fNil)))) (fVar 5)) [5]) fNil)))))))
def fn_with_imports : Fn := mkFn [false, false, false] 3 F_with_imports
def B_visit_1 (self : Fn) : Sf :=
  (fDrop (fCall [false, false, true, true] self (fCons (fVar 0) (fCons (fVar 4) (fCons (fVar 2) (fCons (fVar 3) fNil))))))
def F_visit (self : Fn) : Sf :=
  (fIfS (fB (fOp notInD (fVar 1) (fVar 2))) (fSeq (fDPut (fVar 2) (fVar 1) (fC (.bl true)))
    (fSeq (fFor (fCons (fOp ixD (fOp ixD (fVar 0) (fVar 1)) (fC (.int 1))) fNil) seqIt (Gname 4) (B_visit_1 self))
    (fDrop (fMutL mAppend (fVar 3) (fCons (fVar 1) fNil))))) fNext)
def fn_visit : Nat → Fn
  | 0 => fun _ => .bad
  | j + 1 => mkFn [false, false, true, true] 1 (F_visit (fn_visit j))
def F_with_effects : Sf :=
  (fRet (fCB (c1 tupleD) (fCons (fLc (fCons (fVar 1) fNil) seqIt (Gname 2) (fB (fOp eqD (fOp ixD (fOp ixD (fVar 0) (fVar 2)) (fC (.int 2))) (fC (.str "effect")))) (fVar 2) [2]) fNil)))
def fn_with_effects : Fn := mkFn [false, false] 1 F_with_effects
def F_run_order : Sf :=
  (fSeq (fDrop (fCallV fn_check_names (fCons (fVar 0) (fCons (fVar 1) fNil))))
    (fSeq (fAsg (fLst fNil) (Gname 2))
    (fSeq (fDrop (fCall [false, false, true, true] (fn_visit 64) (fCons (fCall [false] fn_by_name (fCons (fVar 0) fNil)) (fCons (fVar 1) (fCons fDNew (fCons (fVar 2) fNil))))))
    (fRet (fCB (c1 tupleD) (fCons (fVar 2) fNil))))))
def fn_run_order : Fn := mkFn [false, false] 1 F_run_order
def F_trace : Sf :=
  (fRet (fCall [false, false] fn_with_effects (fCons (fCall [false] fn_by_name (fCons (fVar 0) fNil)) (fCons (fCall [false, false] fn_run_order (fCons (fVar 0) (fCons (fVar 1) fNil))) fNil))))
def fn_trace : Fn := mkFn [false, false] 0 F_trace
def F_new_import_of : Sf :=
  (fSeq (fAsg (fOp ixD (fOp ixD (fCall [false] fn_by_name (fCons (fVar 0) fNil)) (fVar 1)) (fC (.int 1))) (Gname 3))
    (fSeq (fIfS (fOr (fB (fOp eqD (fVar 2) (fVar 1))) (fOr (fB (fOp inD (fVar 2) (fVar 3))) (fB (fOp geD (fCB lenD (fCons (fVar 3) fNil)) (fC (.int 20)))))) fNever fNext)
    (fRet (fVar 3))))
def fn_new_import_of : Fn := mkFn [false, false, false] 1 F_new_import_of
def B_insert_place_1 : Sf :=
  (fDrop (fCallV fn_check_names (fCons (fVar 0) (fCons (fVar 5) fNil))))
def B_insert_place_2 : Sf :=
  (fSeq (fAsg (fCall [false, false, false] fn_with_imports (fCons (fVar 0) (fCons (fVar 1) (fCons (fTup (fStar (fSl slD (fVar 6) none (some (fVar 8))) (fCons (fVar 2) (fStar (fSl slD (fVar 6) (some (fVar 8)) none) fNil)))) fNil)))) (Gname 9))
    (fIfS (fB (fOp eqD (fLc (fCons (fVar 4) fNil) seqIt (Gname 10) fYes (fCall [false, false] fn_trace (fCons (fVar 9) (fCons (fVar 10) fNil))) [10]) (fVar 7))) (fRet (fVar 8)) fNext))
def F_insert_place : Sf :=
  (fSeq (fAsg (fIf (fB (fOp neD (fVar 3) (fTup fNil))) (fVar 3) (fTup (fCons (fVar 1) fNil))) (Gname 4))
    (fSeq (fFor (fCons (fTup (fCons (fVar 1) (fCons (fVar 2) (fStar (fVar 4) fNil)))) fNil) seqIt (Gname 5) B_insert_place_1)
    (fSeq (fPar [6, 7] (fCons (fCall [false, false, false] fn_new_import_of (fCons (fVar 0) (fCons (fVar 1) (fCons (fVar 2) fNil)))) (fCons (fLc (fCons (fVar 4) fNil) seqIt (Gname 10) fYes (fCall [false, false] fn_trace (fCons (fVar 0) (fCons (fVar 10) fNil))) [10]) fNil)))
    (fSeq (fFor (fCons (fOp addD (fCB lenD (fCons (fVar 6) fNil)) (fC (.int 1))) fNil) rng1 (Gname 8) B_insert_place_2)
    (fRet (fC .non))))))
def fn_insert_place : Fn := mkFn [false, false, false, false] 7 F_insert_place
def F_inserted : Sf :=
  (fSeq (fDrop (fCallV fn_check_names (fCons (fVar 0) (fCons (fVar 1) (fCons (fVar 2) fNil)))))
    (fSeq (fAsg (fCall [false, false, false] fn_new_import_of (fCons (fVar 0) (fCons (fVar 1) (fCons (fVar 2) fNil)))) (Gname 4))
    (fSeq (fIfS (fOr (fNot (fB (fCall [false] fn_is_integer (fCons (fVar 3) fNil)))) (fNot (fB (fChain leD leD (fC (.int 0)) (fVar 3) (fCB lenD (fCons (fVar 4) fNil)))))) fNever fNext)
    (fRet (fCall [false, false, false] fn_with_imports (fCons (fVar 0) (fCons (fVar 1) (fCons (fTup (fStar (fSl slD (fVar 4) none (some (fVar 3))) (fCons (fVar 2) (fStar (fSl slD (fVar 4) (some (fVar 3)) none) fNil)))) fNil))))))))
def fn_inserted : Fn := mkFn [false, false, false, false] 1 F_inserted
/-! ### dicts of modules -/
def mdV (p : List Mod) : D := .dct (p.map fun m => (.inr m.name, modV m))
theorem mdV_get {p : List Mod} {n : Str} : getD' (p.map fun m => ((.inr m.name : Key), modV m)) (.inr n) = (modAt p n).map modV := by
  induction p with
  | nil => rfl
  | cons m r ih =>
    by_cases e : m.name = n
    · simp [getD', modAt, e]
    · have e2 : modAt (m :: r) n = modAt r n := by simp [modAt, e]
      rw [e2, ← ih]
      simp [getD', e]
theorem modAt_none {p : List Mod} {n : Str} (h : n ∉ nms p) : modAt p n = none := by
  unfold modAt
  rw [List.find?_eq_none]
  intro m hm z
  exact h (List.mem_map.mpr ⟨m, hm, of_decide_eq_true z⟩)
theorem modAt_dec (p : List Mod) (n : Str) : (modAt p n).isSome = decide (n ∈ nms p) := by
  by_cases h : n ∈ nms p
  · obtain ⟨m, e, _⟩ := modAt_some h
    rw [e, decide_eq_true h]; rfl
  · rw [modAt_none h, decide_eq_false h]; rfl
theorem notInD_md {p : List Mod} {n : Str} : notInD (.str n) (mdV p) = some (.val (.bl (!decide (n ∈ nms p)))) := by
  simp only [notInD, mdV, orD, inQ, inS, inK, keyOf, mdV_get, Option.isSome_map, modAt_dec, if_true]
theorem inD_md {p : List Mod} {n : Str} : inD (.str n) (mdV p) = some (.val (.bl (decide (n ∈ nms p)))) := by
  simp only [inD, mdV, orD, inQ, inS, inK, keyOf, mdV_get, Option.isSome_map, modAt_dec]
  rfl
theorem ixD_md {p : List Mod} {n : Str} {m : Mod} (h : modAt p n = some m) : ixD (mdV p) (.str n) = some (.val (modV m)) := by
  simp only [ixD, mdV, orD, ixL, ixT, ixS, ixScr, ixK, keyOf, mdV_get, h]
  rfl
theorem ixD_m1 {m : Mod} : ixD (modV m) (.int 1) = some (.val (.tup (m.imps.map D.str))) := ixD_t1
theorem ixD_m0 {m : Mod} : ixD (modV m) (.int 0) = some (.val (.str m.name)) := ixD_t0
theorem ixD_m2 {m : Mod} : ixD (modV m) (.int 2) = some (.val (.str (kindS m.eff))) := ixD_t2
theorem by_name_ok {p : List Mod} (nd : (nms p).Nodup) (hl : p.length ≤ 1000) : fn_by_name [projV p] = .ok (.new (mdV p)) [] := by
  have t := turns_dict (G := Gname 1) (ft := fYes) (fk := fOp ixD (fVar 1) (fC (.int 0))) (fv := fVar 1) (vs := [1]) (acc := []) (fun d => match d with | .tup (.str n :: _) => .inr n | _ => .inl 0) id (p.map modV) [some (.frz (projV p)), none] (by simp; omega) (by
    intro d hd
    obtain ⟨m, hm, rfl⟩ := List.mem_map.mp hd
    have q := ixD_m0 (m := m)
    refine ⟨[some (.frz (projV p)), some (.frz (modV m))], rfl, rfl, rfl, .val (.str m.name), .val (modV m), .str m.name, ?_, rfl, rfl, rfl, rfl⟩
    walk_at "ev") (by
    rw [List.map_map]
    simp only [List.map_nil, List.nil_append]
    refine List.pairwise_map.mpr ((List.pairwise_map.mp nd).imp fun {a b} z e => z ?_)
    exact Sum.inr.inj e)
  rw [List.nil_append, List.map_map] at t
  unfold fn_by_name F_by_name
  apply ev_fnR rfl
  · unfold projV at t ⊢
    walk_at "ev"
  all_goals rfl
theorem check_names_ok {p : List Mod} {ns : List Str} (nd : (nms p).Nodup) (hl : p.length ≤ 1000) (hn : ns.length ≤ 900) (hi : ∀ n ∈ ns, n ∈ nms p) : fn_check_names (projV p :: ns.map D.str) = .ok (.val .non) [] := by
  have b := by_name_ok nd hl
  obtain ⟨e, eL, e3, rfl, f3⟩ := loop_inv (G := Gname 3) (b := B_check_names_1) (fun k e => ∃ e3, e = [some (.frz (projV p)), some (.frz (.tup (ns.map D.str))), some (.own (mdV p)), e3] ∧ FreeE e3) (ns.map D.str) (by
    rintro k x e hx ⟨e3, rfl, f3⟩
    rw [List.getElem?_map] at hx
    obtain ⟨n, hn, rfl⟩ := Option.map_eq_some_iff.mp hx
    have q : notInD (.str n) (mdV p) = some (.val (.bl false)) := by rw [notInD_md, decide_eq_true (hi n (List.mem_of_getElem? hn))]; rfl
    refine ⟨[some (.frz (projV p)), some (.frz (.tup (ns.map D.str))), some (.own (mdV p)), some (.frz (.str n))], [some (.frz (projV p)), some (.frz (.tup (ns.map D.str))), some (.own (mdV p)), some (.frz (.str n))], ?_, ?_, some (.frz (.str n)), rfl, .frz⟩
    · exact gn_to rfl f3 rfl
    · unfold B_check_names_1
      walk_at "ev") (env := [some (.frz (projV p)), some (.frz (.tup (ns.map D.str))), some (.own (mdV p)), none]) ⟨_, rfl, .none⟩
  unfold fn_check_names starFn
  rw [if_pos (by simp; omega)]
  show mkFn _ _ _ [projV p, .tup (ns.map D.str)] = _
  unfold F_check_names
  apply ev_fnN rfl
  · walk_at "ev"
  all_goals rfl
/-! ### visits -/
def visV (S : List Str) : D := .dct (S.map fun x => ((.inr x : Key), D.bl true))
theorem vis_get (S : List Str) (n : Str) : (getD' (S.map fun x => ((.inr x : Key), D.bl true)) (.inr n)).isSome = decide (n ∈ S) := by
  induction S with
  | nil => rfl
  | cons x r ih =>
    by_cases e : x = n
    · simp [getD', e]
    · have e2 : ¬ n = x := fun z => e z.symm
      simp only [List.mem_cons, e2, false_or]
      rw [← ih]
      simp [getD', e]
theorem notInD_vis {S : List Str} {n : Str} : notInD (.str n) (visV S) = some (.val (.bl (!decide (n ∈ S)))) := by
  simp only [notInD, visV, orD, inQ, inS, inK, keyOf, vis_get, if_true]
theorem vis_put {S : List Str} {n : Str} (h : n ∉ S) : D.dct (putD (S.map fun x => ((.inr x : Key), D.bl true)) (.inr n) (.bl true)) = visV (S ++ [n]) := by
  unfold putD visV
  rw [if_neg, List.map_append]
  · rfl
  · intro z
    obtain ⟨kv, m, e⟩ := List.any_eq_true.mp z
    obtain ⟨x, hx, rfl⟩ := List.mem_map.mp m
    exact h (Sum.inr.inj (of_decide_eq_true e) ▸ hx)
theorem visit_ok {p : List Mod} (wf : Wf p) : ∀ (d : Nat) (n : Str) (S F R : List Str), n ∈ nms p → VD (impOf p) d S [n] R → S.length + R.length ≤ 10000 → F.length + R.length ≤ 10000 →
    ∃ S', fn_visit (d + 1) [mdV p, .str n, visV S, .lst (F.map D.str)] = .ok (.val .non) [visV S', .lst ((F ++ R).map D.str)] ∧ (∀ y, y ∈ S' ↔ y ∈ S ∨ y ∈ R) ∧ S'.length = S.length + R.length := by
  intro d
  induction d with
  | zero =>
    intro n S F R hn hv l1 l2
    cases hv with
    | skip hx h2 =>
      cases h2
      have q : notInD (.str n) (visV S) = some (.val (.bl false)) := by rw [notInD_vis, decide_eq_true hx]; rfl
      refine ⟨S, ?_, by simp, by simp⟩
      rw [List.append_nil]
      unfold fn_visit F_visit
      apply ev_fnN rfl
      · walk_at "ev"
      all_goals rfl
  | succ d ih =>
    intro n S F R hn hv l1 l2
    cases hv with
    | skip hx h2 =>
      cases h2
      have q : notInD (.str n) (visV S) = some (.val (.bl false)) := by rw [notInD_vis, decide_eq_true hx]; rfl
      refine ⟨S, ?_, by simp, by simp⟩
      rw [List.append_nil]
      unfold fn_visit F_visit
      apply ev_fnN rfl
      · walk_at "ev"
      all_goals rfl
    | @go _ _ _ _ E1 E2 hx h1 h2 =>
      cases h2
      simp only [List.length_append, List.length_cons, List.length_nil] at l1 l2
      obtain ⟨m, em, hmp, mn⟩ := modAt_some hn
      have ei : impOf p n = m.imps := by simp [impOf, em]
      rw [ei] at h1
      have q : notInD (.str n) (visV S) = some (.val (.bl true)) := by rw [notInD_vis, decide_eq_false hx]; rfl
      have q1 := ixD_md em
      have q2 := ixD_m1 (m := m)
      have q3 := vis_put hx
      obtain ⟨e, eL, e4, S', A, B, rfl, f4, eE, hB, hS, hl⟩ := loop_inv (G := Gname 4) (b := B_visit_1 (fn_visit (d + 1))) (fun k e => ∃ e4 S' A B, e = [some (.frz (mdV p)), some (.frz (.str n)), some (.par (visV S')), some (.par (.lst ((F ++ A).map D.str))), e4] ∧ FreeE e4 ∧ E1 = A ++ B ∧ VD (impOf p) d S' (m.imps.drop k) B ∧ (∀ y, y ∈ S' ↔ (y ∈ S ∨ y = n) ∨ y ∈ A) ∧ S'.length = S.length + 1 + A.length)
        (m.imps.map D.str) (by
          rintro k x e hx ⟨e4, S', A, B, rfl, f4, eE, hB, hS, hl⟩
          rw [List.getElem?_map] at hx
          obtain ⟨o, ho, rfl⟩ := Option.map_eq_some_iff.mp hx
          obtain ⟨hk, ho2⟩ := List.getElem?_eq_some_iff.mp ho
          rw [List.drop_eq_getElem_cons hk, ho2] at hB
          obtain ⟨B1, B2, b1, b2, eB⟩ := VD.cons_inv hB
          have on : o ∈ nms p := wf.inn m hmp o (List.mem_of_getElem? ho)
          have len : E1.length = A.length + (B1.length + B2.length) := by rw [eE, eB]; simp
          obtain ⟨S2, ev, hS2, hl2⟩ := ih o S' (F ++ A) B1 on b1 (by omega) (by rw [List.length_append]; omega)
          rw [List.append_assoc] at ev
          refine ⟨[some (.frz (mdV p)), some (.frz (.str n)), some (.par (visV S')), some (.par (.lst ((F ++ A).map D.str))), some (.frz (.str o))], [some (.frz (mdV p)), some (.frz (.str n)), some (.par (visV S2)), some (.par (.lst ((F ++ (A ++ B1)).map D.str))), some (.frz (.str o))], ?_, ?_, _, S2, A ++ B1, B2, rfl, .frz, ?_, b2 _ hS2, ?_, ?_⟩
          · exact gn_to rfl f4 rfl
          · unfold B_visit_1
            walk_at "ev"
          · rw [eE, eB, List.append_assoc]
          · intro y
            rw [hS2, hS, List.mem_append, or_assoc]
          · rw [hl2, hl, List.length_append]
            omega)
        (env := [some (.frz (mdV p)), some (.frz (.str n)), some (.par (visV (S ++ [n]))), some (.par (.lst (F.map D.str))), none]) ⟨none, S ++ [n], [], E1, by simp, .none, rfl, h1.ext (fun y => by simp [or_comm]), fun y => by simp, by simp⟩
      rw [List.length_map, List.drop_length] at hB
      cases hB
      rw [List.append_nil] at eE
      subst eE
      have q4 := mAppend_ok (xs := (F ++ E1).map D.str) (y := .str n) (by simp; omega)
      have q5 : (F ++ E1).map D.str ++ [D.str n] = (F ++ (E1 ++ [n])).map D.str := by simp
      rw [q5] at q4
      have hput : fDPut (fVar 2) (fVar 1) (fC (.bl true)) [some (.frz (mdV p)), some (.frz (.str n)), some (.par (visV S)), some (.par (.lst (F.map D.str))), none] = .nx [some (.frz (mdV p)), some (.frz (.str n)), some (.par (visV (S ++ [n]))), some (.par (.lst (F.map D.str))), none] :=
        by
        refine ev_dput (t := .val (.bl true)) (u := .val (.str n)) (kd := .str n) (k := .inr n) (j := 2) (e := .par (visV S)) (kvs := S.map fun x => (.inr x, .bl true)) (d := .bl true) rfl rfl rfl rfl rfl rfl rfl rfl rfl (by rw [List.length_map]; omega) ?_
        rw [q3]
        rfl
      refine ⟨S', ?_, fun y => ?_, ?_⟩
      · unfold fn_visit F_visit
        apply ev_fnN (env' := [some (.frz (mdV p)), some (.frz (.str n)), some (.par (visV S)), some (.par (.lst (F.map D.str))), none]) rfl
        · walk_at "ev"
        all_goals rfl
      · rw [hS, List.mem_append, List.mem_singleton]
        constructor
        · rintro ((h | h) | h)
          · exact .inl h
          · exact .inr (.inr h)
          · exact .inr (.inl h)
        · rintro (h | h | h)
          · exact .inl (.inl h)
          · exact .inr h
          · exact .inl (.inr h)
      · rw [hl, List.length_append]
        show _ = _ + (_ + 1)
        omega
end FL

set_option Elab.async false
set_option linter.all false
set_option maxRecDepth 100000
set_option maxHeartbeats 4000000
set_option exponentiation.threshold 100000
/-! PS: traces, insertions. -/
namespace FL
open PySem PySem.Spec PyProof.Rows L2 GL RM
local macro_rules | `(tactic| walk_at "ev") => `(tactic| repeat' (first
  | (show _ = _; with_reducible assumption)
  | with_reducible exact ev_c | with_reducible exact ev_nil | with_reducible exact ev_yes | with_reducible exact ev_next | with_reducible exact ev_break | with_reducible exact ev_cont | with_reducible exact ev_retN | with_reducible exact ev_opt0
  | with_reducible apply ev_var | with_reducible apply ev_op | with_reducible apply ev_un | with_reducible apply ev_cb | with_reducible apply ev_cons | with_reducible apply ev_tup | with_reducible apply ev_lst
  | with_reducible apply ev_B | with_reducible apply ev_not | with_reducible apply ev_and | with_reducible apply ev_or | with_reducible apply ev_andV | with_reducible apply ev_orV | with_reducible apply ev_notV | with_reducible apply ev_if
  | with_reducible apply ev_opt1 | with_reducible apply ev_sl | with_reducible apply ev_call | with_reducible apply ev_mut
  | with_reducible apply ev_dput | with_reducible apply ev_star | with_reducible apply ev_lenSet | with_reducible apply ev_callV | with_reducible apply ev_chainT | with_reducible apply ev_extend
  | with_reducible apply ev_seq | with_reducible apply ev_ret | with_reducible apply ev_drop | with_reducible apply ev_ifS | with_reducible apply ev_asg | with_reducible apply ev_par | with_reducible apply ev_aug | with_reducible apply ev_sub
  | with_reducible refine ev_nT ?_ | with_reducible refine ev_nF ?_
  | with_reducible refine ev_dT (by first | assumption | omega) ?_ | with_reducible refine ev_dF (by first | assumption | omega) ?_ | with_reducible refine ev_T (by first | rfl | assumption) ?_ | with_reducible refine ev_F (by first | rfl | assumption) ?_
  | with_reducible exact addD_i | with_reducible exact subD_i | with_reducible exact ltD_i | with_reducible exact leD_i | with_reducible exact ixD_l0 | with_reducible exact ixD_l1 | with_reducible exact ixD_l2 | with_reducible exact ixD_t0 | with_reducible exact ixD_t1 | with_reducible exact ixD_t2
  | with_reducible apply modD_i | with_reducible apply divD_i | with_reducible apply mulD_p
  | with_reducible apply ev_rng1 | with_reducible apply ev_rng2 | with_reducible apply ev_for' | with_reducible apply ev_lc | with_reducible apply ev_dc | with_reducible apply ev_turn | with_reducible exact ev_turn0 | with_reducible apply ev_lcB | with_reducible apply ev_dcB
  | with_reducible apply gn_val | with_reducible apply gn_new | with_reducible apply g_tup | with_reducible apply gall_cons | with_reducible exact gall_nil | with_reducible apply stores_cons | with_reducible exact stores_nil
  | with_reducible exact FreeE.none | with_reducible exact FreeE.frz | with_reducible exact FreeE.own | (show FreeE _; assumption)
  | with_reducible exact ixN_0 | with_reducible exact ixN_1 | with_reducible exact ixN_2
  | (show _ = _; dsimp only [Ent.val, Ent.put, Ent.tok]; with_reducible assumption)
  | (show turnsF _ _ _ _ _ _ _ = _; assumption) | (show loopF _ _ _ _ = _; assumption)
  | (show (_ : Env) = _; first | (dsimp only [startE, List.replicate, List.append_eq, List.cons_append, List.nil_append, List.set_cons_zero, List.set_cons_succ, List.getElem?_cons_zero, List.getElem?_cons_succ, Ent.put, Ent.val, Ent.tok, backs, lockAll, lockT, unlockAll, unlock, List.foldr, rest, wipeE, Option.join] <;> rfl) | rfl)
  | (show List.length _ ≤ _; exact Nat.le_of_ble_eq_true rfl) | (show _ < _; omega) | (show _ ≤ _; omega)
  | rfl))
/-- names are names -/
def Nm (p : List Mod) : Prop := ∀ n ∈ nms p, NameOk n
theorem kind_eff (b : Bool) : eqD (.str (kindS b)) (.str "effect") = some (.val (.bl b)) := by
  cases b
  · rw [eqD_s (by decide +kernel) (by decide +kernel), decide_eq_false (by decide +kernel)]
  · rw [eqD_s (by decide +kernel) (by decide +kernel), decide_eq_true (by decide +kernel)]
theorem effOf_of {p : List Mod} {n : Str} {m : Mod} (h : modAt p n = some m) : effOf p n = m.eff := by simp [effOf, h]
theorem impOf_at {p : List Mod} {n : Str} {m : Mod} (h : modAt p n = some m) : impOf p n = m.imps := by simp [impOf, h]
theorem with_effects_ok {p : List Mod} {ns : List Str} (hn : ns.length ≤ 1000) (hi : ∀ n ∈ ns, n ∈ nms p) : fn_with_effects [mdV p, .tup (ns.map D.str)] = .ok (.val (.tup ((ns.filter (effOf p)).map D.str))) [] := by
  have t := turns_mapA (G := Gname 2) (ft := fB (fOp eqD (fOp ixD (fOp ixD (fVar 0) (fVar 2)) (fC (.int 2))) (fC (.str "effect")))) (fe := fVar 2) (vs := [2]) D.str (effOf p) D.str ns [some (.frz (mdV p)), some (.frz (.tup (ns.map D.str))), none] (by omega) (by
    intro n hx
    obtain ⟨m, em, _, _⟩ := modAt_some (hi n hx)
    have q1 := ixD_md em
    have q2 := ixD_m2 (m := m)
    have q3 := kind_eff m.eff
    rw [effOf_of em]
    refine ⟨[some (.frz (mdV p)), some (.frz (.tup (ns.map D.str))), some (.frz (.str n))], rfl, ?_, rfl, fun _ => ⟨.val (.str n), rfl, rfl⟩⟩
    walk_at "ev")
  unfold fn_with_effects F_with_effects
  apply ev_fnR (env' := [some (.frz (mdV p)), some (.frz (.tup (ns.map D.str))), none]) rfl
  · walk_at "ev"
  all_goals rfl
theorem run_order_ok {p : List Mod} {e : Str} (wf : Wf p) (he : e ∈ nms p) : fn_run_order [projV p, .str e] = .ok (.val (.tup ((runs p e).map D.str))) [] := by
  have pl := wf.pl
  have c : fn_check_names [projV p, .str e] = .ok (.val .non) [] := check_names_ok (p := p) (ns := [e]) wf.nd (by omega) (by simp) (by simpa using he)
  have b := by_name_ok wf.nd (show p.length ≤ 1000 by omega)
  have cl : ∀ y ∈ nms p, ∀ z ∈ impOf p y, z ∈ nms p := wf.cl
  obtain ⟨E, hE⟩ := VD.total cl 63 [] [e] (Nat.le_trans (cnt_le _ _) (by unfold nms; rw [List.length_map]; omega)) (by simpa using he)
  have eE : E = runs p e := (hE.vl).det (runs_vl wf he)
  subst eE
  have rl := runs_len wf he
  obtain ⟨S', v, _, _⟩ := visit_ok wf 63 e [] [] (runs p e) he hE (by simp; omega) (by simp; omega)
  have v2 : fn_visit 64 [mdV p, .str e, .dct [], .lst []] = .ok (.val .non) [visV S', .lst ((runs p e).map D.str)] := v
  unfold fn_run_order F_run_order
  apply ev_fnR (env' := [some (.frz (projV p)), some (.frz (.str e)), none]) rfl
  · walk_at "ev"
  all_goals rfl
theorem trace_ok {p : List Mod} {e : Str} (wf : Wf p) (he : e ∈ nms p) : fn_trace [projV p, .str e] = .ok (.val (.tup ((trc p e).map D.str))) [] := by
  have pl := wf.pl
  have b := by_name_ok wf.nd (show p.length ≤ 1000 by omega)
  have r := run_order_ok wf he
  have w := with_effects_ok (p := p) (ns := runs p e) (Nat.le_trans (runs_len wf he) (by decide)) (runs_in wf he)
  unfold fn_trace F_trace
  apply ev_fnR (env' := [some (.frz (projV p)), some (.frz (.str e))]) rfl
  · walk_at "ev"
  all_goals rfl
theorem are_different_ok {is : List Str} (nd : is.Nodup) (hl : is.length ≤ 20) : fn_are_different [.tup (is.map D.str)] = .ok (.val (.bl true)) [] := by
  have q : lenSetD (some (.tup (is.map D.str))) = some (.val (.int (is.map D.str).length)) := by
    unfold lenSetD seqOf
    simp only [strsD_map]
    rw [if_pos (by omega), GL.firsts_self nd, List.length_map]
  have q2 : eqD (.int (is.map D.str).length) (.int (is.map D.str).length) = some (.val (.bl true)) := by rw [eqD_i, decide_eq_true rfl]
  have q3 : leD (.int (is.map D.str).length) (.int 20) = some (.val (.bl true)) := by rw [leD_i, decide_eq_true (by simp; omega)]
  unfold fn_are_different F_are_different
  apply ev_fnR (env' := [some (.frz (.tup (is.map D.str)))]) rfl
  · walk_at "ev"
  all_goals rfl
theorem giveM_v {n : Str} {is : List Str} {m : Mod} (h : m.name = n) : modV (giveM n is m) = .tup [.str n, .tup (is.map D.str), .str (kindS m.eff)] := by
  unfold giveM modV
  rw [if_pos h, h]
theorem giveM_o {n : Str} {is : List Str} {m : Mod} (h : m.name ≠ n) : modV (giveM n is m) = modV m := by
  unfold giveM
  rw [if_neg h]
theorem with_imports_ok {p : List Mod} {n : Str} {is : List Str} (wf : Wf p) (nm : Nm p) (hn : n ∈ nms p) (hi : ∀ i ∈ is, i ∈ nms p) (hno : n ∉ is) (nd : is.Nodup) (hl : is.length ≤ 20) : fn_with_imports [projV p, .str n, .tup (is.map D.str)] = .ok (.val (projV (giveI p n is))) [] := by
  have pl := wf.pl
  have c : fn_check_names [projV p, .str n] = .ok (.val .non) [] := check_names_ok (p := p) (ns := [n]) wf.nd (by omega) (by simp) (by simpa using hn)
  have b := by_name_ok wf.nd (show p.length ≤ 1000 by omega)
  have a := are_different_ok nd hl
  have t1 := turns_mapA (G := Gname 4) (ft := fYes) (fe := fAndV (fCB (c2 isiD) (fCons (fVar 4) (fCons (fC (.ty "str")) fNil))) (fOp inD (fVar 4) (fVar 3))) (vs := [4]) D.str (fun _ => true) (fun _ => D.bl true) is [some (.frz (projV p)), some (.frz (.str n)), some (.frz (.tup (is.map D.str))), some (.own (mdV p)), none, none] (by omega) (by
    intro i hx
    have q : inD (.str i) (mdV p) = some (.val (.bl true)) := by rw [inD_md, decide_eq_true (hi i hx)]
    refine ⟨[some (.frz (projV p)), some (.frz (.str n)), some (.frz (.tup (is.map D.str))), some (.own (mdV p)), some (.frz (.str i)), none], rfl, rfl, rfl, fun _ => ⟨.val (.bl true), ?_, rfl⟩⟩
    walk_at "ev")
  have al : c1 allD [.lst ((is.filter fun _ => true).map fun _ => D.bl true)] = some (.val (.bl true)) := by
    have := allD_map (xs := is.filter fun _ => true) (f := fun _ => true)
    rw [show ((is.filter fun _ => true).all fun _ => true) = true by simp] at this
    exact this
  have q2 : inD (.str n) (.tup (is.map D.str)) = some (.val (.bl false)) := by rw [inD_t, decide_eq_false hno]
  have t2 := turns_mapA (G := Gname 5) (ft := fYes) (fe := fIf (fB (fOp eqD (fOp ixD (fVar 5) (fC (.int 0))) (fVar 1))) (fTup (fCons (fVar 1) (fCons (fVar 2) (fCons (fOp ixD (fVar 5) (fC (.int 2))) fNil)))) (fVar 5)) (vs := [5]) modV (fun _ => true) (fun m => modV (giveM n is m)) p [some (.frz (projV p)), some (.frz (.str n)), some (.frz (.tup (is.map D.str))), some (.own (mdV p)), none, none] (by omega) (by
    intro m hm
    have hmn : m.name ∈ nms p := List.mem_map.mpr ⟨m, hm, rfl⟩
    have q0 := ixD_m0 (m := m)
    have q2 := ixD_m2 (m := m)
    refine ⟨[some (.frz (projV p)), some (.frz (.str n)), some (.frz (.tup (is.map D.str))), some (.own (mdV p)), none, some (.frz (modV m))], rfl, rfl, rfl, fun _ => ?_⟩
    by_cases e : m.name = n
    · have q : eqD (.str m.name) (.str n) = some (.val (.bl true)) := by rw [eqD_s (nm _ hmn).lay (nm _ hn).lay, decide_eq_true e]
      rw [giveM_v e]
      refine ⟨.val (.tup [.str n, .tup (is.map D.str), .str (kindS m.eff)]), ?_, rfl⟩
      walk_at "ev"
    · have q : eqD (.str m.name) (.str n) = some (.val (.bl false)) := by rw [eqD_s (nm _ hmn).lay (nm _ hn).lay, decide_eq_false e]
      rw [giveM_o e]
      refine ⟨.val (modV m), ?_, rfl⟩
      walk_at "ev")
  have e2 : (p.filter fun _ => true).map (fun m => modV (giveM n is m)) = (giveI p n is).map modV := by
    rw [List.filter_eq_self.mpr fun _ _ => rfl]
    unfold giveI
    rw [List.map_map]
    rfl
  rw [e2] at t2
  unfold fn_with_imports F_with_imports
  apply ev_fnR (env' := [some (.frz (projV p)), some (.frz (.str n)), some (.frz (.tup (is.map D.str))), none, none, none]) rfl
  · unfold projV at *
    walk_at "ev"
  all_goals rfl
theorem new_import_of_ok {p : List Mod} {n o : Str} (wf : Wf p) (nm : Nm p) (hn : n ∈ nms p) (ho : o ∈ nms p) (ne : o ≠ n) (hno : o ∉ impOf p n) (hl : (impOf p n).length < 20) : fn_new_import_of [projV p, .str n, .str o] = .ok (.val (.tup ((impOf p n).map D.str))) [] := by
  have pl := wf.pl
  have b := by_name_ok wf.nd (show p.length ≤ 1000 by omega)
  obtain ⟨m, em, _, _⟩ := modAt_some hn
  rw [impOf_at em] at hno hl ⊢
  have q1 := ixD_md em
  have q2 := ixD_m1 (m := m)
  have q3 : eqD (.str o) (.str n) = some (.val (.bl false)) := by rw [eqD_s (nm _ ho).lay (nm _ hn).lay, decide_eq_false ne]
  have q4 : inD (.str o) (.tup (m.imps.map D.str)) = some (.val (.bl false)) := by rw [inD_t, decide_eq_false hno]
  have q5 : geD (.int (m.imps.map D.str).length) (.int 20) = some (.val (.bl false)) := by rw [geD_i, decide_eq_false (by simp; omega)]
  unfold fn_new_import_of F_new_import_of
  apply ev_fnR (env' := [some (.frz (projV p)), some (.frz (.str n)), some (.frz (.str o)), none]) rfl
  · walk_at "ev"
  all_goals rfl
end FL

set_option Elab.async false
set_option linter.all false
set_option maxRecDepth 100000
set_option maxHeartbeats 4000000
set_option exponentiation.threshold 100000
/-! PT: insert_place, inserted. -/
namespace FL
open PySem PySem.Spec PyProof.Rows L2 GL RM
local macro_rules | `(tactic| walk_at "ev") => `(tactic| repeat' (first
  | (show _ = _; with_reducible assumption)
  | with_reducible exact ev_c | with_reducible exact ev_nil | with_reducible exact ev_yes | with_reducible exact ev_next | with_reducible exact ev_break | with_reducible exact ev_cont | with_reducible exact ev_retN | with_reducible exact ev_opt0
  | with_reducible apply ev_var | with_reducible apply ev_op | with_reducible apply ev_un | with_reducible apply ev_cb | with_reducible apply ev_cons | with_reducible apply ev_tup | with_reducible apply ev_lst
  | with_reducible apply ev_B | with_reducible apply ev_not | with_reducible apply ev_and | with_reducible apply ev_or | with_reducible apply ev_andV | with_reducible apply ev_orV | with_reducible apply ev_notV | with_reducible apply ev_if
  | with_reducible apply ev_opt1 | with_reducible apply ev_sl | with_reducible apply ev_call | with_reducible apply ev_mut
  | with_reducible apply ev_dput | with_reducible apply ev_star | with_reducible apply ev_lenSet | with_reducible apply ev_callV | with_reducible apply ev_chainT | with_reducible apply ev_extend
  | with_reducible apply ev_seq | with_reducible apply ev_ret | with_reducible apply ev_drop | with_reducible apply ev_ifS | with_reducible apply ev_asg | with_reducible apply ev_par | with_reducible apply ev_aug | with_reducible apply ev_sub
  | with_reducible refine ev_nT ?_ | with_reducible refine ev_nF ?_
  | with_reducible refine ev_dT (by first | assumption | omega) ?_ | with_reducible refine ev_dF (by first | assumption | omega) ?_ | with_reducible refine ev_T (by first | rfl | assumption) ?_ | with_reducible refine ev_F (by first | rfl | assumption) ?_
  | with_reducible exact addD_i | with_reducible exact subD_i | with_reducible exact ltD_i | with_reducible exact leD_i | with_reducible exact ixD_l0 | with_reducible exact ixD_l1 | with_reducible exact ixD_l2 | with_reducible exact ixD_t0 | with_reducible exact ixD_t1 | with_reducible exact ixD_t2
  | with_reducible apply modD_i | with_reducible apply divD_i | with_reducible apply mulD_p
  | with_reducible apply ev_rng1 | with_reducible apply ev_rng2 | with_reducible apply ev_for' | with_reducible apply ev_lc | with_reducible apply ev_dc | with_reducible apply ev_turn | with_reducible exact ev_turn0 | with_reducible apply ev_lcB | with_reducible apply ev_dcB
  | with_reducible apply gn_val | with_reducible apply gn_new | with_reducible apply g_tup | with_reducible apply gall_cons | with_reducible exact gall_nil | with_reducible apply stores_cons | with_reducible exact stores_nil
  | with_reducible exact FreeE.none | with_reducible exact FreeE.frz | with_reducible exact FreeE.own | (show FreeE _; assumption)
  | with_reducible exact ixN_0 | with_reducible exact ixN_1 | with_reducible exact ixN_2
  | (show _ = _; dsimp only [Ent.val, Ent.put, Ent.tok]; with_reducible assumption)
  | (show turnsF _ _ _ _ _ _ _ = _; assumption) | (show loopF _ _ _ _ = _; assumption)
  | (show (_ : Env) = _; first | (dsimp only [startE, List.replicate, List.append_eq, List.cons_append, List.nil_append, List.set_cons_zero, List.set_cons_succ, List.getElem?_cons_zero, List.getElem?_cons_succ, Ent.put, Ent.val, Ent.tok, backs, lockAll, lockT, unlockAll, unlock, List.foldr, rest, wipeE, Option.join] <;> rfl) | rfl)
  | (show List.length _ ≤ _; exact Nat.le_of_ble_eq_true rfl) | (show _ < _; omega) | (show _ ≤ _; omega)
  | rfl))
theorem cutD_drop {xs : List D} (r : Nat) : cutD xs (some (r : Int)) none = xs.drop r := by
  unfold cutD
  rw [HT.sIx_nat, HT.sIx_none]
  rcases Nat.le_total r xs.length with h | h
  · rw [Nat.min_eq_left h]
    refine List.take_of_length_le ?_
    rw [List.length_drop]
    exact Nat.le_refl _
  · rw [Nat.min_eq_right h, List.drop_of_length_le h, List.drop_length]
    exact List.take_nil
theorem slD_tk {is : List Str} {k : Nat} : slD (.tup (is.map D.str)) none (some (k : Int)) = some (.val (.tup ((is.take k).map D.str))) := by rw [slD_t, cutD_take, List.map_take]
theorem slD_dr {is : List Str} {k : Nat} : slD (.tup (is.map D.str)) (some (k : Int)) none = some (.val (.tup ((is.drop k).map D.str))) := by rw [slD_t, cutD_drop, List.map_drop]
theorem keepAll_vals : ∀ (ds : List D) (env : Env), keepAll (ds.map Tok.val) env = some (ds, env)
  | [], _ => rfl
  | d :: ds, env => by rw [List.map_cons, keepAll]; simp only [keepT_val, keepAll_vals ds env]
theorem ins_tup {env : Env} {is : List Str} {o : Str} {k ii io ik : Nat} (hi : env[ii]? = some (some (.frz (.tup (is.map D.str))))) (ho : env[io]? = some (some (.frz (.str o)))) (hk : env[ik]? = some (some (.frz (.int k)))) (hl : is.length ≤ 1000) :
    fTup (fStar (fSl slD (fVar ii) none (some (fVar ik))) (fCons (fVar io) (fStar (fSl slD (fVar ii) (some (fVar ik)) none) fNil))) env = .ok (.val (.tup ((insAt is k o).map D.str))) env := by
  refine ev_tup (ev_star (ev_sl (ev_var hi) ev_opt0 (ev_opt1 (ev_var hk) rfl) rfl slD_tk) rfl rfl (ev_cons (ev_var ho) (ev_star (ev_sl (ev_var hi) (ev_opt1 (ev_var hk) rfl) ev_opt0 rfl slD_dr) rfl rfl ev_nil rfl)) rfl) ?_ ?_
  · have e : List.map Tok.val (List.map D.str (List.take k is)) ++ (Tok.val (.str o) :: (List.map Tok.val (List.map D.str (List.drop k is)) ++ [])) = ((insAt is k o).map D.str).map Tok.val := by
      unfold insAt
      simp
    show keepAll (List.map Tok.val (List.map D.str (List.take k is)) ++ (Tok.val (.str o) :: (List.map Tok.val (List.map D.str (List.drop k is)) ++ []))) env = _
    rw [e, keepAll_vals]
  · rw [List.length_map, insAt_len]
    omega
/-- what is asked of a file and a new module -/
structure InsOk (p : List Mod) (n o : Str) : Prop where
  wf : Wf p
  nm : Nm p
  hn : n ∈ nms p
  ho : o ∈ nms p
  ne : o ≠ n
  own : n ∉ impOf p n
  nd : (impOf p n).Nodup
  no : o ∉ impOf p n
  len : (impOf p n).length < 20
theorem InsOk.all {p : List Mod} {n o : Str} (h : InsOk p n o) {k : Nat} : ∀ i ∈ insAt (impOf p n) k o, i ∈ nms p := fun i hi => by
  rcases insAt_mem.mp hi with z | rfl
  · exact h.wf.cl n h.hn i z
  · exact h.ho
theorem InsOk.with {p : List Mod} {n o : Str} (h : InsOk p n o) (k : Nat) : fn_with_imports [projV p, .str n, .tup ((insAt (impOf p n) k o).map D.str)] = .ok (.val (projV (giveI p n (insAt (impOf p n) k o)))) [] := by
  refine with_imports_ok h.wf h.nm h.hn h.all (fun z => ?_) (insAt_nodup h.nd h.no) (by rw [insAt_len]; have := h.len; omega)
  rcases insAt_mem.mp z with z | z
  · exact h.own z
  · exact h.ne z.symm
theorem InsOk.wf2 {p : List Mod} {n o : Str} (h : InsOk p n o) (k : Nat) : Wf (giveI p n (insAt (impOf p n) k o)) := h.wf.give h.all (by rw [insAt_len]; have := h.len; omega)
theorem trcs_ok {p : List Mod} {es : List Str} {env : Env} {ip ie : Nat} (wf : Wf p) (he : ∀ e ∈ es, e ∈ nms p) (hl : es.length ≤ 1000) (hp : env[ip]? = some (some (.frz (projV p)))) (hne : ip ≠ ie) (hn : env[ie]? = some none) :
    turnsF (Gname ie) fYes (lcB (fCall [false, false] fn_trace (fCons (fVar ip) (fCons (fVar ie) fNil)))) [ie] (es.map D.str) [] env = .ok ((es.map (trc p)).map fun l => D.tup (l.map D.str)) env := by
  have t := turns_mapA (G := Gname ie) (ft := fYes) (fe := fCall [false, false] fn_trace (fCons (fVar ip) (fCons (fVar ie) fNil))) (vs := [ie]) D.str (fun _ => true) (fun e => D.tup ((trc p e).map D.str)) es env (by omega) (by
    intro e hx
    have q := trace_ok wf (he e hx)
    have h1 : (env.set ie (some (.frz (.str e))))[ip]? = some (some (.frz (projV p))) := by rw [List.getElem?_set_ne (Ne.symm hne)]; exact hp
    have h2 : (env.set ie (some (.frz (.str e))))[ie]? = some (some (.frz (.str e))) := by
      rw [List.getElem?_set_self]
      exact (List.getElem?_eq_some_iff.mp hn).1
    refine ⟨env.set ie (some (.frz (.str e))), gn_to hn .none rfl, rfl, ?_, fun _ => ⟨.val (.tup ((trc p e).map D.str)), ?_, rfl⟩⟩
    · show (env.set ie (some (.frz (.str e)))).set ie none = env
      rw [List.set_set]
      refine List.ext_getElem? fun i => ?_
      by_cases hi : i = ie
      · subst hi
        rw [List.getElem?_set_self (List.getElem?_eq_some_iff.mp hn).1, hn]
      · rw [List.getElem?_set_ne (Ne.symm hi)]
    · exact ev_call (ev_cons (ev_var h1) (ev_cons (ev_var h2) ev_nil)) rfl rfl q rfl)
  rw [t, List.filter_eq_self.mpr fun _ _ => rfl, List.map_map]
  rfl
theorem goodAt_iff {p : List Mod} {n o : Str} {ws : List Str} {k : Nat} : GoodAt p n o ws k ↔ ws.map (trc (giveI p n (insAt (impOf p n) k o))) = ws.map (trc p) := by
  unfold GoodAt
  rw [List.map_inj_left]
theorem insert_place_ok {p : List Mod} {n o : Str} {es : List Str} (h : InsOk p n o) (hne : es ≠ []) (hl : es.length ≤ 60) (he : ∀ e ∈ es, e ∈ nms p) :
    (∃ k : Nat, fn_insert_place [projV p, .str n, .str o, .tup (es.map D.str)] = .ok (.val (.int k)) [] ∧ k ≤ (impOf p n).length ∧ GoodAt p n o es k ∧ ∀ j, j < k → ¬ GoodAt p n o es j) ∨
    (fn_insert_place [projV p, .str n, .str o, .tup (es.map D.str)] = .ok (.val .non) [] ∧ ∀ k, k ≤ (impOf p n).length → ¬ GoodAt p n o es k) := by
  have wf := h.wf
  have pl := wf.pl
  have il := h.len
  have hok : ∀ e ∈ es, NameOk e := fun e hx => h.nm e (he e hx)
  have q1 : neD (.tup (es.map D.str)) (.tup []) = some (.val (.bl true)) := by
    rw [show (D.tup []) = D.tup (([] : List Str).map D.str) from rfl, neD_tt hok (fun _ z => by cases z), decide_eq_false hne]; rfl
  have ni := new_import_of_ok wf h.nm h.hn h.ho h.ne h.no h.len
  -- the names are checked
  obtain ⟨e1, eL1, e5, rfl, f5⟩ := loop_inv (G := Gname 5) (b := B_insert_place_1) (fun k e => ∃ e5, e = [some (.frz (projV p)), some (.frz (.str n)), some (.frz (.str o)), some (.frz (.tup (es.map D.str))), some (.frz (.tup (es.map D.str))), e5, none, none, none, none, none] ∧ FreeE e5) ((n :: o :: es).map D.str) (by
    rintro k x e hx ⟨e5, rfl, f5⟩
    rw [List.getElem?_map] at hx
    obtain ⟨z, hz, rfl⟩ := Option.map_eq_some_iff.mp hx
    have zi : z ∈ nms p := by
      rcases List.mem_cons.mp (List.mem_of_getElem? hz) with rfl | z2
      · exact h.hn
      · rcases List.mem_cons.mp z2 with rfl | z2
        · exact h.ho
        · exact he z z2
    have c : fn_check_names [projV p, .str z] = .ok (.val .non) [] := check_names_ok (p := p) (ns := [z]) wf.nd (by omega) (by simp) (by simpa using zi)
    refine ⟨[some (.frz (projV p)), some (.frz (.str n)), some (.frz (.str o)), some (.frz (.tup (es.map D.str))), some (.frz (.tup (es.map D.str))), some (.frz (.str z)), none, none, none, none, none], [some (.frz (projV p)), some (.frz (.str n)), some (.frz (.str o)), some (.frz (.tup (es.map D.str))), some (.frz (.tup (es.map D.str))), some (.frz (.str z)), none, none, none, none, none], gn_to rfl f5 rfl, ?_, _, rfl, .frz⟩
    unfold B_insert_place_1
    walk_at "ev")
    (env := [some (.frz (projV p)), some (.frz (.str n)), some (.frz (.str o)), some (.frz (.tup (es.map D.str))), some (.frz (.tup (es.map D.str))), none, none, none, none, none, none]) ⟨_, rfl, .none⟩
  have tup1 : fTup (fCons (fVar 1) (fCons (fVar 2) (fStar (fVar 4) fNil))) [some (.frz (projV p)), some (.frz (.str n)), some (.frz (.str o)), some (.frz (.tup (es.map D.str))), some (.frz (.tup (es.map D.str))), none, none, none, none, none, none] = .ok (.val (.tup ((n :: o :: es).map D.str))) [some (.frz (projV p)), some (.frz (.str n)), some (.frz (.str o)), some (.frz (.tup (es.map D.str))), some (.frz (.tup (es.map D.str))), none, none, none, none, none, none] := by
    refine ev_tup (ev_cons (ev_var rfl) (ev_cons (ev_var rfl) (ev_star (ev_var rfl) rfl rfl ev_nil rfl))) ?_ (by simp; omega)
    show keepAll (Tok.val (.str n) :: Tok.val (.str o) :: (List.map Tok.val (List.map D.str es) ++ [])) _ = _
    rw [show (Tok.val (.str n) :: Tok.val (.str o) :: (List.map Tok.val (List.map D.str es) ++ [])) = (((n :: o :: es).map D.str).map Tok.val) by simp, keepAll_vals]
  have tr := trcs_ok (p := p) (es := es) (env := [some (.frz (projV p)), some (.frz (.str n)), some (.frz (.str o)), some (.frz (.tup (es.map D.str))), some (.frz (.tup (es.map D.str))), e5, none, none, none, none, none]) (ip := 0) (ie := 10) wf he (by omega) rfl (by decide) rfl
  have lp := loop_ret (G := Gname 8) (b := B_insert_place_2) (fun k e => ∃ e8 e9, e = [some (.frz (projV p)), some (.frz (.str n)), some (.frz (.str o)), some (.frz (.tup (es.map D.str))), some (.frz (.tup (es.map D.str))), e5, some (.frz (.tup ((impOf p n).map D.str))), some (.own (.lst ((es.map (trc p)).map fun l => D.tup (l.map D.str)))), e8, e9, none] ∧ FreeE e8 ∧ FreeE e9 ∧ ∀ j, j < k → ¬ GoodAt p n o es j)
    (fun k t e => (t = .val (.int k) ∧ parsOf [false, false, false, false] e = []) ∧ GoodAt p n o es k ∧ ∀ j, j < k → ¬ GoodAt p n o es j) (rangeL 0 ((((impOf p n).map D.str).length : Int) + 1).toNat) (by
    rintro k x e hx ⟨e8, e9, rfl, f8, f9, nog⟩
    obtain ⟨hk, rfl⟩ := rangeL_at hx
    rw [Int.zero_add]
    refine ⟨[some (.frz (projV p)), some (.frz (.str n)), some (.frz (.str o)), some (.frz (.tup (es.map D.str))), some (.frz (.tup (es.map D.str))), e5, some (.frz (.tup ((impOf p n).map D.str))), some (.own (.lst ((es.map (trc p)).map fun l => D.tup (l.map D.str)))), some (.frz (.int k)), e9, none], gn_to rfl f8 rfl, ?_⟩
    have w := h.with k
    have wf2 := h.wf2 k
    have en : ∀ e ∈ es, e ∈ nms (giveI p n (insAt (impOf p n) k o)) := fun e hx => by rw [nms_give]; exact he e hx
    have nm2 : ∀ e ∈ es, ∀ z ∈ trc (giveI p n (insAt (impOf p n) k o)) e, NameOk z := fun e hx z hz => by
      have := trc_in wf2 (en e hx) z hz
      rw [nms_give] at this
      exact h.nm z this
    have eq := eqD_lt (a := es.map (trc (giveI p n (insAt (impOf p n) k o)))) (b := es.map (trc p)) (fun l hl z hz => by
      obtain ⟨e, hx, rfl⟩ := List.mem_map.mp hl
      exact nm2 e hx z hz) (fun l hl z hz => by
      obtain ⟨e, hx, rfl⟩ := List.mem_map.mp hl
      exact h.nm z (trc_in wf (he e hx) z hz))
    have tu := ins_tup (env := [some (.frz (projV p)), some (.frz (.str n)), some (.frz (.str o)), some (.frz (.tup (es.map D.str))), some (.frz (.tup (es.map D.str))), e5, some (.frz (.tup ((impOf p n).map D.str))), some (.own (.lst ((es.map (trc p)).map fun l => D.tup (l.map D.str)))), some (.frz (.int k)), e9, none]) (is := impOf p n) (o := o) (k := k) (ii := 6) (io := 2) (ik := 8) rfl rfl rfl (by omega)
    have tr2 := trcs_ok (p := giveI p n (insAt (impOf p n) k o)) (es := es) (env := [some (.frz (projV p)), some (.frz (.str n)), some (.frz (.str o)), some (.frz (.tup (es.map D.str))), some (.frz (.tup (es.map D.str))), e5, some (.frz (.tup ((impOf p n).map D.str))), some (.own (.lst ((es.map (trc p)).map fun l => D.tup (l.map D.str)))), some (.frz (.int k)), some (.frz (projV (giveI p n (insAt (impOf p n) k o)))), none]) (ip := 9) (ie := 10) wf2 en (by omega) rfl (by decide) rfl
    by_cases g : GoodAt p n o es k
    · rw [decide_eq_true (goodAt_iff.mp g)] at eq
      refine .inr ⟨.val (.int k), [some (.frz (projV p)), some (.frz (.str n)), some (.frz (.str o)), some (.frz (.tup (es.map D.str))), some (.frz (.tup (es.map D.str))), e5, some (.frz (.tup ((impOf p n).map D.str))), some (.own (.lst ((es.map (trc p)).map fun l => D.tup (l.map D.str)))), some (.frz (.int k)), some (.frz (projV (giveI p n (insAt (impOf p n) k o)))), none], ?_, ⟨rfl, rfl⟩, g, nog⟩
      unfold B_insert_place_2
      walk_at "ev"
    · rw [decide_eq_false fun z => g (goodAt_iff.mpr z)] at eq
      refine .inl ⟨[some (.frz (projV p)), some (.frz (.str n)), some (.frz (.str o)), some (.frz (.tup (es.map D.str))), some (.frz (.tup (es.map D.str))), e5, some (.frz (.tup ((impOf p n).map D.str))), some (.own (.lst ((es.map (trc p)).map fun l => D.tup (l.map D.str)))), some (.frz (.int k)), some (.frz (projV (giveI p n (insAt (impOf p n) k o)))), none], ?_, _, _, rfl, .frz, .frz, fun j hj => ?_⟩
      · unfold B_insert_place_2
        walk_at "ev"
      · rcases Nat.lt_succ_iff_lt_or_eq.mp hj with z | rfl
        · exact nog j z
        · exact g)
    (env := [some (.frz (projV p)), some (.frz (.str n)), some (.frz (.str o)), some (.frz (.tup (es.map D.str))), some (.frz (.tup (es.map D.str))), e5, some (.frz (.tup ((impOf p n).map D.str))), some (.own (.lst ((es.map (trc p)).map fun l => D.tup (l.map D.str)))), none, none, none]) ⟨none, none, rfl, .none, .none, fun _ z => by omega⟩
  have rl : (rangeL 0 ((((impOf p n).map D.str).length : Int) + 1).toNat).length = (impOf p n).length + 1 := by
    unfold rangeL
    rw [List.length_map, List.length_range, List.length_map]
    omega
  rw [rl] at lp
  have hl2 : ((impOf p n).map D.str).length ≤ 20 := by rw [List.length_map]; omega
  rcases lp with ⟨e, eL2, e8, e9, rfl, f8, f9, nog⟩ | ⟨k, t, e, hk, eL2, ⟨rfl, hpp⟩, g, nog⟩
  · refine .inr ⟨?_, fun k hk => nog k (by omega)⟩
    unfold fn_insert_place F_insert_place
    apply ev_fnR (env' := [some (.frz (projV p)), some (.frz (.str n)), some (.frz (.str o)), some (.frz (.tup (es.map D.str))), none, none, none, none, none, none, none]) rfl
    · walk_at "ev"
    all_goals rfl
  · refine .inl ⟨k, ?_, by omega, g, nog⟩
    unfold fn_insert_place F_insert_place
    apply ev_fnR (env' := [some (.frz (projV p)), some (.frz (.str n)), some (.frz (.str o)), some (.frz (.tup (es.map D.str))), none, none, none, none, none, none, none]) rfl
    · apply ev_seq
      · walk_at "ev"
      · walk_at "ev"
      apply ev_seq
      · walk_at "ev"
      · walk_at "ev"
      apply ev_seq
      · walk_at "ev"
      · walk_at "ev"
      apply ev_seqR
      walk_at "ev"
    · rfl
    · exact hpp
theorem is_integer_ok {k : Int} : fn_is_integer [.int k] = .ok (.val (.bl true)) [] := by
  unfold fn_is_integer F_is_integer
  apply ev_fnR (env' := [some (.frz (.int k))]) rfl
  · walk_at "ev"
  all_goals rfl
theorem inserted_ok {p : List Mod} {n o : Str} {k : Nat} (h : InsOk p n o) (hk : k ≤ (impOf p n).length) : fn_inserted [projV p, .str n, .str o, .int k] = .ok (.val (projV (giveI p n (insAt (impOf p n) k o)))) [] := by
  have wf := h.wf
  have pl := wf.pl
  have c : fn_check_names [projV p, .str n, .str o] = .ok (.val .non) [] := check_names_ok (p := p) (ns := [n, o]) wf.nd (by omega) (by simp) (by
    intro z hz
    rcases List.mem_cons.mp hz with rfl | z2
    · exact h.hn
    · exact (List.mem_singleton.mp z2) ▸ h.ho)
  have ni := new_import_of_ok wf h.nm h.hn h.ho h.ne h.no h.len
  have ii := is_integer_ok (k := (k : Int))
  have q1 : leD (.int 0) (.int (k : Int)) = some (.val (.bl true)) := by rw [leD_i, decide_eq_true (by omega)]
  have q2 : leD (.int (k : Int)) (.int (((impOf p n).map D.str).length : Int)) = some (.val (.bl true)) := by rw [leD_i, decide_eq_true (by rw [List.length_map]; omega)]
  have w := h.with k
  have tu := ins_tup (env := [some (.frz (projV p)), some (.frz (.str n)), some (.frz (.str o)), some (.frz (.int k)), some (.frz (.tup ((impOf p n).map D.str)))]) (is := impOf p n) (o := o) (k := k) (ii := 4) (io := 2) (ik := 3) rfl rfl rfl (by have := h.len; omega)
  unfold fn_inserted F_inserted
  apply ev_fnR (env' := [some (.frz (projV p)), some (.frz (.str n)), some (.frz (.str o)), some (.frz (.int k)), none]) rfl
  · walk_at "ev"
  all_goals rfl
end FL

set_option Elab.async false
set_option linter.all false
set_option maxRecDepth 100000
set_option maxHeartbeats 4000000
set_option exponentiation.threshold 100000
/-! PC: cycle over pure values. -/
namespace FL
open PySem PySem.Spec PyProof.Rows L2 GL RM
local macro_rules | `(tactic| walk_at "ev") => `(tactic| repeat' (first
  | (show _ = _; with_reducible assumption)
  | with_reducible exact ev_c | with_reducible exact ev_nil | with_reducible exact ev_yes | with_reducible exact ev_next | with_reducible exact ev_break | with_reducible exact ev_cont | with_reducible exact ev_retN | with_reducible exact ev_opt0
  | with_reducible apply ev_var | with_reducible apply ev_op | with_reducible apply ev_un | with_reducible apply ev_cb | with_reducible apply ev_cons | with_reducible apply ev_tup | with_reducible apply ev_lst
  | with_reducible apply ev_B | with_reducible apply ev_not | with_reducible apply ev_and | with_reducible apply ev_or | with_reducible apply ev_andV | with_reducible apply ev_orV | with_reducible apply ev_notV | with_reducible apply ev_if
  | with_reducible apply ev_opt1 | with_reducible apply ev_sl | with_reducible apply ev_call | with_reducible apply ev_mut
  | with_reducible apply ev_dput | with_reducible apply ev_star | with_reducible apply ev_lenSet | with_reducible apply ev_callV | with_reducible apply ev_chainT | with_reducible apply ev_extend
  | with_reducible apply ev_seq | with_reducible apply ev_ret | with_reducible apply ev_drop | with_reducible apply ev_ifS | with_reducible apply ev_asg | with_reducible apply ev_par | with_reducible apply ev_aug | with_reducible apply ev_sub
  | with_reducible refine ev_nT ?_ | with_reducible refine ev_nF ?_
  | with_reducible refine ev_dT (by first | assumption | omega) ?_ | with_reducible refine ev_dF (by first | assumption | omega) ?_ | with_reducible refine ev_T (by first | rfl | assumption) ?_ | with_reducible refine ev_F (by first | rfl | assumption) ?_
  | with_reducible exact addD_i | with_reducible exact subD_i | with_reducible exact ltD_i | with_reducible exact leD_i | with_reducible exact ixD_l0 | with_reducible exact ixD_l1 | with_reducible exact ixD_l2 | with_reducible exact ixD_t0 | with_reducible exact ixD_t1 | with_reducible exact ixD_t2
  | with_reducible apply modD_i | with_reducible apply divD_i | with_reducible apply mulD_p
  | with_reducible apply ev_rng1 | with_reducible apply ev_rng2 | with_reducible apply ev_for' | with_reducible apply ev_lc | with_reducible apply ev_dc | with_reducible apply ev_turn | with_reducible exact ev_turn0 | with_reducible apply ev_lcB | with_reducible apply ev_dcB
  | with_reducible apply gn_val | with_reducible apply gn_new | with_reducible apply g_tup | with_reducible apply gall_cons | with_reducible exact gall_nil | with_reducible apply stores_cons | with_reducible exact stores_nil
  | with_reducible exact FreeE.none | with_reducible exact FreeE.frz | with_reducible exact FreeE.own | (show FreeE _; assumption)
  | with_reducible exact ixN_0 | with_reducible exact ixN_1 | with_reducible exact ixN_2
  | (show _ = _; dsimp only [Ent.val, Ent.put, Ent.tok]; with_reducible assumption)
  | (show turnsF _ _ _ _ _ _ _ = _; assumption) | (show loopF _ _ _ _ = _; assumption)
  | (show (_ : Env) = _; first | (dsimp only [startE, List.replicate, List.append_eq, List.cons_append, List.nil_append, List.set_cons_zero, List.set_cons_succ, List.getElem?_cons_zero, List.getElem?_cons_succ, Ent.put, Ent.val, Ent.tok, backs, lockAll, lockT, unlockAll, unlock, List.foldr, rest, wipeE, Option.join] <;> rfl) | rfl)
  | (show List.length _ ≤ _; exact Nat.le_of_ble_eq_true rfl) | (show _ < _; omega) | (show _ ≤ _; omega)
  | rfl))
def B_cycle_1 : Sf :=
  (fDrop (fDPop (fVar 1) (fVar 3)))
def B_cycle_2 : Sf :=
  (fSeq (fAsg (fLcK 1  (Gname 3) (fNot (fB (fCB (c1 anyD) (fCons (fLc (fCons (fOp ixD (fVar 1) (fVar 3)) fNil) seqIt (Gname 6) fYes (fOp inD (fVar 6) (fVar 1)) [6]) fNil)))) (fVar 3) [3]) (Gname 2))
    (fFor (fCons (fVar 2) fNil) seqIt (Gname 3) B_cycle_1))
def B_cycle_3 : Sf :=
  (fDrop (fMutL mAppend (fVar 4) (fCons (fOp ixD (fLc (fCons (fOp ixD (fVar 1) (fOp ixD (fVar 4) (fUn negD (fC (.int 1))))) fNil) seqIt (Gname 6) (fB (fOp inD (fVar 6) (fVar 1))) (fVar 6) [6]) (fC (.int 0))) fNil)))
def F_cycle : Sf :=
  (fSeq (fPar [1, 2] (fCons (fDc (fCons (fVar 0) fNil) seqIt (Gname 5) fYes (fOp ixD (fVar 5) (fC (.int 0))) (fOp ixD (fVar 5) (fC (.int 1))) [5]) (fCons (fLst (fCons (fC (.str "")) fNil)) fNil)))
    (fSeq (fWhile (fB (fOp neD (fVar 2) (fLst fNil))) B_cycle_2)
    (fSeq (fIfS (fB (fOp eqD (fVar 1) fDNew)) (fRet (fC .non)) fNext)
    (fSeq (fAsg (fLst (fCons (fOp ixD (fCB sortedY (fCons (fVar 1) fNil)) (fC (.int 0))) fNil)) (Gname 4))
    (fSeq (fWhile (fB (fOp notInD (fOp ixD (fVar 4) (fUn negD (fC (.int 1)))) (fSl slD (fVar 4) none (some (fUn negD (fC (.int 1))))))) B_cycle_3)
    (fRet (fCB (c1 tupleD) (fCons (fSl slD (fVar 4) (some (fIdx (fVar 4) (fCons (fOp ixD (fVar 4) (fUn negD (fC (.int 1)))) fNil))) (some (fUn negD (fC (.int 1))))) fNil))))))))
def fn_cycle : Fn := mkFn [false] 6 F_cycle
theorem modAt_of {p : List Mod} (nd : (nms p).Nodup) {m : Mod} (hm : m ∈ p) : modAt p m.name = some m := by
  induction p with
  | nil => cases hm
  | cons x r ih =>
    have nd' := List.nodup_cons.mp (show (x.name :: nms r).Nodup from nd)
    rcases List.mem_cons.mp hm with rfl | hm
    · simp [modAt]
    · have ne : x.name ≠ m.name := fun z => nd'.1 (z ▸ List.mem_map.mpr ⟨m, hm, rfl⟩)
      have := ih nd'.2 hm
      unfold modAt at this ⊢
      rw [List.find?_cons_of_neg (by simpa using ne)]
      exact this
def Acyc (p : List Mod) : Prop := ∃ rk : Str → Nat, ∀ m ∈ p, ∀ i ∈ m.imps, rk i < rk m.name
/-- a row of different modules each of which imports the next one, the last one the first -/
structure CycRow (p : List Mod) (rs : List Str) : Prop where
  ne : rs ≠ []
  nd : rs.Nodup
  inn : ∀ x ∈ rs, x ∈ nms p
  nxt : ∀ (i : Nat) x y, rs[i]? = some x → rs[(i + 1) % rs.length]? = some y → y ∈ impOf p x
def frees (q : List Mod) : List Mod := q.filter fun m => !(m.imps.any fun i => decide (i ∈ nms q))
/-- what was taken away: by rising ranks -/
def Taken (p q : List Mod) : Prop := ∃ rk : Str → Nat, ∀ m ∈ p, m ∉ q → ∀ i ∈ m.imps, i ∉ nms q ∧ rk i < rk m.name
theorem Taken.step {p q : List Mod} (nd : (nms p).Nodup) (sub : ∀ m ∈ q, m ∈ p) (inn : ∀ m ∈ p, ∀ i ∈ m.imps, i ∈ nms p) (h : Taken p q) : Taken p (q.filter fun m => decide (m.name ∉ nms (frees q))) := by
  obtain ⟨rk, h⟩ := h
  have bound : ∃ B, ∀ m ∈ p, rk m.name < B := by
    clear h nd inn sub
    induction p with
    | nil => exact ⟨0, fun _ h => by cases h⟩
    | cons m r ih =>
      obtain ⟨B, hB⟩ := ih
      refine ⟨max B (rk m.name + 1), fun x hx => ?_⟩
      rcases List.mem_cons.mp hx with rfl | hx
      · omega
      · have := hB x hx
        omega
  obtain ⟨B, hB⟩ := bound
  have keyeq : ∀ m ∈ p, ∀ m' ∈ p, m.name = m'.name → m = m' := fun m hm m' hm' e => by
    have h1 := modAt_of nd hm
    have h2 := modAt_of nd hm'
    rw [e, h2] at h1
    exact (Option.some.inj h1).symm
  have infr : ∀ m ∈ q, m.name ∈ nms (frees q) → m ∈ frees q := fun m hm hn => by
    obtain ⟨m', h1, h2⟩ := List.mem_map.mp hn
    have h3 : m' ∈ q := (List.mem_filter.mp h1).1
    rw [keyeq m (sub m hm) m' (sub m' h3) h2.symm]
    exact h1
  refine ⟨fun y => if y ∈ nms (frees q) then B else rk y, fun m hm hq i hi => ?_⟩
  have sub2 : ∀ y, y ∈ nms (q.filter fun m => decide (m.name ∉ nms (frees q))) → y ∈ nms q := fun y hy => by
    obtain ⟨x, hx, rfl⟩ := List.mem_map.mp hy
    exact List.mem_map_of_mem (List.mem_filter.mp hx).1
  by_cases hmq : m ∈ q
  · have hf : m.name ∈ nms (frees q) := Classical.byContradiction fun z => hq (List.mem_filter.mpr ⟨hmq, decide_eq_true z⟩)
    have hmf := infr m hmq hf
    have hno : i ∉ nms q := fun z => by
      have := (List.mem_filter.mp hmf).2
      simp only [Bool.not_eq_true', List.any_eq_false, decide_eq_true_eq] at this
      exact this i hi z
    refine ⟨fun z => hno (sub2 i z), ?_⟩
    have hif : i ∉ nms (frees q) := fun z => hno (by
      obtain ⟨x, hx, rfl⟩ := List.mem_map.mp z
      exact List.mem_map_of_mem (List.mem_filter.mp hx).1)
    show (if i ∈ nms (frees q) then B else rk i) < (if m.name ∈ nms (frees q) then B else rk m.name)
    rw [if_pos hf, if_neg hif]
    obtain ⟨mi, h1, rfl⟩ := List.mem_map.mp (inn m hm i hi)
    exact hB mi h1
  · obtain ⟨h1, h2⟩ := h m hm hmq i hi
    refine ⟨fun z => h1 (sub2 i z), ?_⟩
    have hif : i ∉ nms (frees q) := fun z => h1 (by
      obtain ⟨x, hx, rfl⟩ := List.mem_map.mp z
      exact List.mem_map_of_mem (List.mem_filter.mp hx).1)
    have hmf : m.name ∉ nms (frees q) := fun z => by
      obtain ⟨x, hx, e⟩ := List.mem_map.mp z
      have hxq := (List.mem_filter.mp hx).1
      exact hmq (keyeq x (sub x hxq) m hm e ▸ hxq)
    show (if i ∈ nms (frees q) then B else rk i) < (if m.name ∈ nms (frees q) then B else rk m.name)
    rw [if_neg hif, if_neg hmf]
    exact h2
theorem CycRow.noAcyc {p : List Mod} {rs : List Str} (nd : (nms p).Nodup) (h : CycRow p rs) : ¬ Acyc p := by
  rintro ⟨rk, hr⟩
  have lt : ∀ x ∈ rs, ∃ y ∈ rs, rk y < rk x := fun x hx => by
    obtain ⟨i, hi⟩ := List.mem_iff_getElem?.mp hx
    have hl : 0 < rs.length := List.length_pos_of_mem hx
    have hm : (i + 1) % rs.length < rs.length := Nat.mod_lt _ hl
    have ey : rs[(i + 1) % rs.length]? = some rs[(i + 1) % rs.length] := List.getElem?_eq_getElem hm
    refine ⟨_, List.mem_of_getElem? ey, ?_⟩
    have im := h.nxt i x _ hi ey
    obtain ⟨m, em, hmp, mn⟩ := modAt_some (h.inn x hx)
    have ei : impOf p x = m.imps := by simp [impOf, em]
    rw [ei] at im
    rw [← mn]
    exact hr m hmp _ im
  have all : ∀ (n : Nat) x, x ∈ rs → rk x = n → False := by
    intro n
    induction n using Nat.strongRecOn with
    | _ n ih =>
      intro x hx e
      obtain ⟨y, hy, hlt⟩ := lt x hx
      exact ih (rk y) (by omega) y hy rfl
  cases e : rs with
  | nil => exact h.ne e
  | cons x r => exact all _ x (by rw [e]; exact List.mem_cons_self) rfl
theorem filter_notin_all {q : List Mod} {F : List Str} {n : Str} : (q.filter fun m => decide (m.name ∉ F)).filter (fun m => decide (m.name ≠ n)) = q.filter fun m => decide (m.name ∉ F ++ [n]) := by
  rw [List.filter_filter]
  refine List.filter_congr fun m _ => ?_
  rw [Bool.eq_iff_iff]
  simp only [Bool.and_eq_true, decide_eq_true_eq, List.mem_append, List.mem_singleton, not_or]
  exact ⟨fun h => ⟨h.2, h.1⟩, fun h => ⟨h.2, h.1⟩⟩
structure Lft (p q : List Mod) : Prop where
  sub : ∀ m ∈ q, m ∈ p
  nd : (nms q).Nodup
  fr : frees q = []
theorem Lft.next {p q : List Mod} (h : Lft p q) {m : Mod} (hm : m ∈ q) : (m.imps.filter fun i => decide (i ∈ nms q)) ≠ [] := fun z => by
  have : m ∈ frees q := List.mem_filter.mpr ⟨hm, by
    simp only [Bool.not_eq_true', List.any_eq_false]
    intro i hi hb
    have : i ∈ m.imps.filter fun i => decide (i ∈ nms q) := List.mem_filter.mpr ⟨hi, hb⟩
    rw [z] at this
    cases this⟩
  rw [h.fr] at this
  cases this
/-! ### rules -/
section
variable {env e1 e2 e3 e4 eL eW : Env} {fo fk fe : Ev} {fa : Ea} {t u v : Tok} {ds : List D} {x y d' : D} {j : Nat} {e : Ent} {G : Gf} {ft : Et} {vs : List Nat} {acc : List D} {ts : List Tok}
theorem ev_lcK {kvs : List (Key × D)} (hj : env[j]? = some (some e)) (hv : e.val = .dct kvs) (hm : e.mut = true) (hL : env.set j (some (.lok e.isPar (.dct kvs))) = eL) (hc : clear vs eL = true) (hw : wipeE eL vs = eW) (ht : turnsF G ft (lcB fe) vs (kvs.map fun kv => keyD kv.1) [] eW = .ok acc e2) (hr : unlock j (rest vs eL e2) = e3) : fLcK j G ft fe vs env = .ok (.new (.lst acc)) e3 := by
  unfold fLcK
  rw [hj]
  simp only
  rw [hv]
  simp only
  rw [hL, if_pos ⟨hm, hc⟩, hw, ht, ← hr]
  rfl
theorem ev_dpop (ha : fo env = .ok (.slot j) e1) (h1 : isDct (res (.slot j) e1) = true) (hb : fk e1 = .ok u e2) (hk : keepAll [u] e2 = some (ds, e3)) (he : e3[j]? = some (some e)) (hm : e.mut = true) (hf : mDPop e.val ds = some (d', y)) (hr : e3.set j (some (e.put d')) = e4) : fDPop fo fk env = .ok (.val y) e4 := by
  unfold fDPop
  rw [ha, Res.bind_ok, if_pos h1, hb, Res.bind_ok, hk]
  unfold mutS
  simp only
  rw [he]
  simp only
  rw [if_pos hm, hf, ← hr]
theorem ev_idx (ha : fo env = .ok t e1) (h1 : isLst (res t e1) = true) (hb : fa e1 = .ok ts e2) (h2 : res t e2 = some (.lst ds)) (h3 : resAll ts e2 = some [x]) (hf : idxR (some (.lst ds)) (some [x]) = some v) : fIdx fo fa env = .ok v e2 := by
  unfold fIdx
  rw [ha, Res.bind_ok, if_pos h1, hb, Res.bind_ok, h2, h3, hf]
  rfl
end
theorem while_ok {c : Et} {b : Sf} (I : Nat → Env → Prop) (Fin : Env → Prop) (h : ∀ n e, I n e → (∃ e1, c e = .ok false e1 ∧ Fin e1) ∨ ∃ e1 e2 m, c e = .ok true e1 ∧ b e1 = .nx e2 ∧ I m e2 ∧ m < n) : ∀ (fuel n : Nat) (env : Env), I n env → n < fuel → ∃ e, whileF c b fuel env = .nx e ∧ Fin e
  | 0, n, env, _, hn => by omega
  | fuel + 1, n, env, hI, hn => by
    rcases h n env hI with ⟨e1, h1, h2⟩ | ⟨e1, e2, m, h1, h2, h3, h4⟩
    · exact ⟨e1, by unfold whileF; rw [h1]; rfl, h2⟩
    · obtain ⟨e, k1, k2⟩ := while_ok I Fin h fuel m e2 h3 (by omega)
      refine ⟨e, ?_, k2⟩
      unfold whileF
      rw [h1]
      show (if true = true then (match b e1 with | .nx e2 => whileF c b fuel e2 | .ct e2 => whileF c b fuel e2 | .bk e2 => .nx e2 | r => r) else .nx e1) = _
      rw [if_pos rfl, h2]
      exact k1
/-! ### the dict of those that are left -/
def ldK (q : List Mod) : List (Key × D) := q.map fun m => (.inr m.name, .tup (m.imps.map D.str))
def ldV (q : List Mod) : D := .dct (ldK q)
theorem ldK_get {q : List Mod} {n : Str} : getD' (ldK q) (.inr n) = (modAt q n).map fun m => .tup (m.imps.map D.str) := by
  unfold ldK
  induction q with
  | nil => rfl
  | cons m r ih =>
    by_cases e : m.name = n
    · simp [getD', modAt, e]
    · have e2 : modAt (m :: r) n = modAt r n := by simp [modAt, e]
      rw [e2, ← ih]
      simp [getD', e]
theorem inD_ld {q : List Mod} {n : Str} : inD (.str n) (ldV q) = some (.val (.bl (decide (n ∈ nms q)))) := by
  simp only [inD, ldV, orD, inQ, inS, inK, keyOf, ldK_get, Option.isSome_map, modAt_dec]
  rfl
theorem ixD_ld {q : List Mod} {n : Str} {m : Mod} (h : modAt q n = some m) : ixD (ldV q) (.str n) = some (.val (.tup (m.imps.map D.str))) := by
  simp only [ixD, ldV, orD, ixL, ixT, ixS, ixScr, ixK, keyOf, ldK_get, h]
  rfl
theorem ld_drop {q : List Mod} {n : Str} : dropD (ldK q) (.inr n) = ldK (q.filter fun m => decide (m.name ≠ n)) := by
  unfold dropD ldK
  rw [List.filter_map]
  congr 1
  refine List.filter_congr fun m _ => ?_
  rw [Bool.eq_iff_iff]
  simp
theorem pop_ld {q : List Mod} {n : Str} {m : Mod} (h : modAt q n = some m) : mDPop (ldV q) [.str n] = some (ldV (q.filter fun m => decide (m.name ≠ n)), .tup (m.imps.map D.str)) := by
  unfold mDPop ldV
  simp only [keyOf, ldK_get, h, Option.map_some, ld_drop]
theorem anyD_map {α : Type} {xs : List α} {f : α → Bool} : c1 anyD [.lst (xs.map fun x => D.bl (f x))] = some (.val (.bl (xs.any f))) := by
  simp only [c1, anyD, boolsD_map, List.any_map]
  rfl
def Asci (z : Str) : Prop := ∀ c ∈ z.cps.toList, c < 128
theorem NameOk.asci {z : Str} (h : NameOk z) : Asci z := fun c hc => by have := (h.2.2 c hc).2; omega
theorem neD_l0 {F : List Str} (h : ∀ z ∈ F, Asci z) : neD (.lst (F.map D.str)) (.lst []) = some (.val (.bl (!decide (F = [])))) := by
  have sh : SeqAt.shaped (.list (F.map .str)) = true := by
    refine good_shaped ?_ ?_
    · rw [good]
      exact good_all_of fun x hx => by
        obtain ⟨z, hz, rfl⟩ := List.mem_map.mp hx
        simp only [good, List.all_eq_true, decide_eq_true_eq]
        exact h z hz
    · have : PyData.depthAll (F.map .str) ≤ 0 := depthAll_le fun x hx => by
        obtain ⟨z, _, rfl⟩ := List.mem_map.mp hx
        exact Nat.le_refl _
      simp only [PyData.depth]
      omega
  rw [neD_of (p := .list (F.map .str)) (q := .list []) (by simp [toP, toPs_strs]) rfl sh (by decide +kernel)]
  cases F with
  | nil => rfl
  | cons k r => rfl
/-! ### the loop that takes away -/
inductive ClrE : Option Ent → Prop
  | none : ClrE none
  | frz {d : D} : ClrE (some (.frz d))
theorem ClrE.free {e : Option Ent} (h : ClrE e) : FreeE e := by cases h <;> constructor
abbrev eC (p q : List Mod) (e2 e3 e4 : Option Ent) : Env := [some (.frz (projV p)), some (.own (ldV q)), e2, e3, e4, none, none]
theorem take_ok {p q : List Mod} {F : List Str} {e3 : Option Ent} (wf : Wf p) (nm : Nm p) (sub : ∀ m ∈ q, m ∈ p) (ndq : (nms q).Nodup) (ql : q.length ≤ 60) (f3 : ClrE e3) :
    ∃ e3', ClrE e3' ∧ B_cycle_2 (eC p q (some (.own (.lst (F.map D.str)))) e3 none) = .nx (eC p (q.filter fun m => decide (m.name ∉ nms (frees q))) (some (.own (.lst ((nms (frees q)).map D.str)))) e3' none) := by
  have t := turns_mapA (G := Gname 3) (ft := fNot (fB (fCB (c1 anyD) (fCons (fLc (fCons (fOp ixD (fVar 1) (fVar 3)) fNil) seqIt (Gname 6) fYes (fOp inD (fVar 6) (fVar 1)) [6]) fNil)))) (fe := fVar 3) (vs := [3]) (fun m : Mod => D.str m.name) (fun m => !(m.imps.any fun i => decide (i ∈ nms q))) (fun m => D.str m.name) q [some (.frz (projV p)), some (.lok false (ldV q)), some (.own (.lst (F.map D.str))), none, none, none, none] (by omega) (by
    intro m hm
    have em := modAt_of ndq hm
    have q1 := ixD_ld em
    have t2 := turns_mapA (G := Gname 6) (ft := fYes) (fe := fOp inD (fVar 6) (fVar 1)) (vs := [6]) D.str (fun _ => true) (fun i => D.bl (decide (i ∈ nms q))) m.imps [some (.frz (projV p)), some (.lok false (ldV q)), some (.own (.lst (F.map D.str))), some (.frz (.str m.name)), none, none, none] (by have := wf.il m (sub m hm); omega) (by
      intro i hi
      have q2 := inD_ld (q := q) (n := i)
      refine ⟨[some (.frz (projV p)), some (.lok false (ldV q)), some (.own (.lst (F.map D.str))), some (.frz (.str m.name)), none, none, some (.frz (.str i))], gn_to rfl .none rfl, rfl, rfl, fun _ => ⟨.val (.bl (decide (i ∈ nms q))), ?_, rfl⟩⟩
      walk_at "ev")
    rw [List.filter_eq_self.mpr fun _ _ => rfl] at t2
    have an := anyD_map (xs := m.imps) (f := fun i => decide (i ∈ nms q))
    refine ⟨[some (.frz (projV p)), some (.lok false (ldV q)), some (.own (.lst (F.map D.str))), some (.frz (.str m.name)), none, none, none], gn_to rfl .none rfl, ?_, rfl, fun _ => ⟨.val (.str m.name), rfl, rfl⟩⟩
    walk_at "ev")
  have items : (ldK q).map (fun kv => keyD kv.1) = q.map fun m : Mod => D.str m.name := by
    unfold ldK
    rw [List.map_map]
    rfl
  have out : ((q.filter fun m => !(m.imps.any fun i => decide (i ∈ nms q))).map fun m => D.str m.name) = (nms (frees q)).map D.str := by
    unfold nms frees
    rw [List.map_map]
    rfl
  rw [out, ← items] at t
  have lc : fLcK 1 (Gname 3) (fNot (fB (fCB (c1 anyD) (fCons (fLc (fCons (fOp ixD (fVar 1) (fVar 3)) fNil) seqIt (Gname 6) fYes (fOp inD (fVar 6) (fVar 1)) [6]) fNil)))) (fVar 3) [3] (eC p q (some (.own (.lst (F.map D.str)))) e3 none) = .ok (.new (.lst ((nms (frees q)).map D.str))) (eC p q (some (.own (.lst (F.map D.str)))) e3 none) := by
    refine ev_lcK (e := .own (ldV q)) rfl rfl rfl rfl ?_ rfl t ?_
    · cases f3 <;> rfl
    · cases f3 <;> rfl
  have fsub : ∀ n ∈ nms (frees q), n ∈ nms q := fun n hn => by
    obtain ⟨m, hm, rfl⟩ := List.mem_map.mp hn
    exact List.mem_map_of_mem (List.mem_filter.mp hm).1
  have fnd : (nms (frees q)).Nodup := (List.filter_sublist.map _).nodup ndq
  obtain ⟨e, eL, e3', rfl, f3'⟩ := loop_inv (G := Gname 3) (b := B_cycle_1) (fun k e => ∃ e3', e = eC p (q.filter fun m => decide (m.name ∉ (nms (frees q)).take k)) (some (.lok false (.lst ((nms (frees q)).map D.str)))) e3' none ∧ ClrE e3') ((nms (frees q)).map D.str) (by
    rintro k x e hx ⟨e3', rfl, f3'⟩
    rw [List.getElem?_map] at hx
    obtain ⟨n, hn, rfl⟩ := Option.map_eq_some_iff.mp hx
    have hnq : n ∈ nms (q.filter fun m => decide (m.name ∉ (nms (frees q)).take k)) := by
      obtain ⟨m, hm, rfl⟩ := List.mem_map.mp (fsub n (List.mem_of_getElem? hn))
      refine List.mem_map_of_mem (List.mem_filter.mpr ⟨hm, decide_eq_true fun z => ?_⟩)
      obtain ⟨i, hi, e⟩ := List.mem_take_iff_getElem.mp z
      obtain ⟨hk, e2⟩ := List.getElem?_eq_some_iff.mp hn
      have := (List.getElem_inj fnd).mp (e.trans e2.symm)
      omega
    obtain ⟨m, em, _, _⟩ := modAt_some hnq
    have pp := pop_ld em
    rw [filter_notin_all] at pp
    have sp : (nms (frees q)).take (k + 1) = (nms (frees q)).take k ++ [n] := by rw [List.take_add_one, hn]; rfl
    rw [← sp] at pp
    refine ⟨eC p (q.filter fun m => decide (m.name ∉ (nms (frees q)).take k)) (some (.lok false (.lst ((nms (frees q)).map D.str)))) (some (.frz (.str n))) none, eC p (q.filter fun m => decide (m.name ∉ (nms (frees q)).take (k + 1))) (some (.lok false (.lst ((nms (frees q)).map D.str)))) (some (.frz (.str n))) none, gn_to rfl f3'.free rfl, ?_, _, rfl, .frz⟩
    unfold B_cycle_1
    exact ev_drop (ev_dpop (j := 1) rfl rfl rfl rfl rfl rfl pp rfl))
    (env := eC p q (some (.lok false (.lst ((nms (frees q)).map D.str)))) e3 none) ⟨e3, by rw [List.take_zero, show (q.filter fun m => decide (m.name ∉ ([] : List Str))) = q from List.filter_eq_self.mpr fun _ _ => by simp], f3⟩
  rw [List.length_map, List.take_length] at eL
  refine ⟨e3', f3', ?_⟩
  unfold B_cycle_2
  refine ev_seq (e2 := eC p q (some (.own (.lst ((nms (frees q)).map D.str)))) e3 none) (ev_asg lc (gn_new rfl .own)) rfl ?_
  exact ev_for' (ev_cons (ev_var rfl) ev_nil) rfl rfl rfl eL rfl
theorem frees_lt {q : List Mod} (h : nms (frees q) ≠ []) : (q.filter fun m => decide (m.name ∉ nms (frees q))).length < q.length := by
  refine Nat.lt_of_le_of_ne (List.length_filter_le _ _) fun z => ?_
  have all := List.length_filter_eq_length_iff.mp z
  cases ef : frees q with
  | nil => exact h (by rw [ef]; rfl)
  | cons m r =>
    have hm : m ∈ frees q := by rw [ef]; exact List.mem_cons_self
    have := of_decide_eq_true (all m (List.mem_filter.mp hm).1)
    exact this (List.mem_map_of_mem hm)
theorem loop1_ok {p : List Mod} (wf : Wf p) (nm : Nm p) : ∃ (q : List Mod) (F : List Str) (e3 : Option Ent), fWhile (fB (fOp neD (fVar 2) (fLst fNil))) B_cycle_2 (eC p p (some (.own (.lst [.str ""]))) none none) = .nx (eC p q (some (.own (.lst (F.map D.str)))) e3 none) ∧ ClrE e3 ∧ (∀ m ∈ q, m ∈ p) ∧ (nms q).Nodup ∧ Taken p q ∧ frees q = [] ∧ q.length ≤ p.length := by
  have pl := wf.pl
  obtain ⟨e, h1, q, F, e3, rfl, h2⟩ := while_ok (c := fB (fOp neD (fVar 2) (fLst fNil))) (b := B_cycle_2)
    (fun n e => ∃ (q : List Mod) (F : List Str) (e3 : Option Ent), e = eC p q (some (.own (.lst (F.map D.str)))) e3 none ∧ ClrE e3 ∧ (∀ m ∈ q, m ∈ p) ∧ (nms q).Nodup ∧ Taken p q ∧ (F = [] → frees q = []) ∧ q.length ≤ p.length ∧ (∀ z ∈ F, Asci z) ∧ n = 2 * q.length + (if F = [] then 0 else 1))
    (fun e => ∃ (q : List Mod) (F : List Str) (e3 : Option Ent), e = eC p q (some (.own (.lst (F.map D.str)))) e3 none ∧ ClrE e3 ∧ (∀ m ∈ q, m ∈ p) ∧ (nms q).Nodup ∧ Taken p q ∧ frees q = [] ∧ q.length ≤ p.length) (by
    rintro n e ⟨q, F, e3, rfl, f3, sub, ndq, tk, fe, ql, asc, hn⟩
    have ne := neD_l0 asc
    by_cases eF : F = []
    · subst eF
      have ne' : neD (.lst (([] : List Str).map D.str)) (.lst []) = some (.val (.bl false)) := ne
      refine .inl ⟨eC p q (some (.own (.lst (([] : List Str).map D.str)))) e3 none, ?_, q, [], e3, rfl, f3, sub, ndq, tk, fe rfl, ql⟩
      walk_at "ev"
    · rw [decide_eq_false eF] at ne
      have ne' : neD (.lst (F.map D.str)) (.lst []) = some (.val (.bl true)) := ne
      obtain ⟨e3', f3', h⟩ := take_ok (F := F) wf nm sub ndq (by omega) f3
      refine .inr ⟨eC p q (some (.own (.lst (F.map D.str)))) e3 none, _, 2 * (q.filter fun m => decide (m.name ∉ nms (frees q))).length + (if nms (frees q) = [] then 0 else 1), ?_, h, ⟨q.filter fun m => decide (m.name ∉ nms (frees q)), nms (frees q), e3', rfl, f3', fun m hm => sub m (List.mem_filter.mp hm).1, (List.filter_sublist.map _).nodup ndq, tk.step wf.nd sub wf.inn, fun e0 => ?_, Nat.le_trans (List.length_filter_le _ _) ql, fun z hz => ?_, rfl⟩, ?_⟩
      · walk_at "ev"
      · have ef : frees q = [] := List.map_eq_nil_iff.mp e0
        have : (q.filter fun m => decide (m.name ∉ nms (frees q))) = q := List.filter_eq_self.mpr fun m _ => by rw [e0]; rfl
        rw [this]
        exact ef
      · obtain ⟨m, hm, rfl⟩ := List.mem_map.mp hz
        exact (nm m.name (List.mem_map_of_mem (sub m (List.mem_filter.mp hm).1))).asci
      · rw [if_neg eF] at hn
        by_cases ee : nms (frees q) = []
        · rw [if_pos ee]
          have := List.length_filter_le (fun m : Mod => decide (m.name ∉ nms (frees q))) q
          omega
        · rw [if_neg ee]
          have := frees_lt ee
          omega) BIG (2 * p.length + 1) (eC p p (some (.own (.lst [.str ""]))) none none) ⟨p, [""], none, rfl, .none, fun _ h => h, wf.nd, ⟨fun _ => 0, fun m hm z => absurd hm z⟩, (fun z => by cases z), Nat.le_refl _, (fun z hz => by
      rw [List.mem_singleton.mp hz]
      intro c hc
      exact absurd hc (by decide +revert +kernel)), rfl⟩ (by unfold BIG; omega)
  exact ⟨q, F, e3, h1, h2⟩
/-! ### the row -/
theorem atI_last {α : Type} {ys : List α} {x : α} : atI (ys ++ [x]) (-1) = some x := by
  unfold atI ixN
  have hl : (ys ++ [x]).length = ys.length + 1 := by simp
  rw [if_neg (by decide), hl, if_pos (by omega)]
  show (ys ++ [x])[((-1 : Int) + ((ys.length + 1 : Nat) : Int)).toNat]? = some x
  rw [show ((-1 : Int) + ((ys.length + 1 : Nat) : Int)).toNat = ys.length by omega]
  simp
theorem sIx_m1 (n d : Nat) : HT.sIx n d (some (-1)) = n - 1 := by
  show (if (-1 : Int) < 0 then ((-1 : Int) + (n : Int)).toNat else min (-1 : Int).toNat n) = n - 1
  rw [if_pos (by decide)]
  omega
theorem ixD_last {ys : List Str} {x : Str} : ixD (.lst ((ys ++ [x]).map D.str)) (.int (-1)) = some (.val (.str x)) := by
  rw [ixD_l, List.map_append]
  show vOpt (atI (ys.map D.str ++ [D.str x]) (-1)) = _
  rw [atI_last]
  rfl
theorem cutD_init {ys : List D} {x : D} : cutD (ys ++ [x]) none (some (-1)) = ys := by
  unfold cutD
  rw [sIx_m1, HT.sIx_none]
  simp
theorem cutD_mid {ys : List D} {x : D} {j : Nat} (h : j ≤ ys.length) : cutD (ys ++ [x]) (some (j : Int)) (some (-1)) = ys.drop j := by
  unfold cutD
  rw [sIx_m1, HT.sIx_nat]
  have e : min j (ys ++ [x]).length = j := by simp; omega
  rw [e, List.drop_append_of_le_length h]
  refine List.take_left' ?_
  simp
theorem slD_init {ys : List Str} {x : Str} : slD (.lst ((ys ++ [x]).map D.str)) none (some (-1)) = some (.new (.lst (ys.map D.str))) := by
  rw [slD_l, List.map_append]
  show some (Tok.new (.lst (cutD (ys.map D.str ++ [D.str x]) none (some (-1))))) = _
  rw [cutD_init]
theorem slD_mid {ys : List Str} {x : Str} {j : Nat} (h : j ≤ ys.length) : slD (.lst ((ys ++ [x]).map D.str)) (some (j : Int)) (some (-1)) = some (.new (.lst ((ys.drop j).map D.str))) := by
  rw [slD_l, List.map_append]
  show some (Tok.new (.lst (cutD (ys.map D.str ++ [D.str x]) (some (j : Int)) (some (-1))))) = _
  rw [cutD_mid (by rw [List.length_map]; exact h), List.map_drop]
theorem notInD_l {n : Str} {is : List Str} : notInD (.str n) (.lst (is.map D.str)) = some (.val (.bl (!decide (n ∈ is)))) := by
  have h : inQ true (.str n) (.lst (is.map D.str)) = some (.val (.bl (!decide (n ∈ is)))) := by
    unfold inQ
    simp only [flatD, flat_strs, any_strs]
    rfl
  unfold notInD orD
  rw [h]
theorem firstAt_ex {ds : List D} {x d : D} {j : Nat} : ∀ {n : Nat}, j < n → ds[j]? = some d → eqF d x = true → ∃ k, firstAt ds x n = some k ∧ k ≤ j
  | 0, h, _, _ => by omega
  | n + 1, h, hd, hq => by
    cases e : firstAt ds x n with
    | some k =>
      refine ⟨k, by unfold firstAt; rw [e], ?_⟩
      refine Nat.le_of_not_lt fun z => ?_
      have := (firstAt_ok e).2 j d z hd
      rw [hq] at this
      cases this
    | none =>
      by_cases hj : j < n
      · obtain ⟨k, h1, _⟩ := firstAt_ex hj hd hq
        rw [e] at h1
        cases h1
      · obtain rfl : j = n := by omega
        refine ⟨j, ?_, Nat.le_refl _⟩
        unfold firstAt
        rw [e]
        simp only [hd]
        rw [if_pos hq]
theorem idx_row {ys : List Str} {x : Str} (h : x ∈ ys) : ∃ j, idxR (some (.lst ((ys ++ [x]).map D.str))) (some [.str x]) = some (.val (.int (j : Nat))) ∧ ys[j]? = some x := by
  obtain ⟨i, hi⟩ := List.mem_iff_getElem?.mp h
  have il : i < ys.length := (List.getElem?_eq_some_iff.mp hi).1
  have hi' : ((ys ++ [x]).map D.str)[i]? = some (.str x) := by
    rw [List.getElem?_map, List.getElem?_append_left il, hi]
    rfl
  obtain ⟨k, hk, kl⟩ := firstAt_ex (ds := (ys ++ [x]).map D.str) (x := .str x) (n := ((ys ++ [x]).map D.str).length) (by simp; omega) hi' (by simp [eqF])
  refine ⟨k, ?_, ?_⟩
  · unfold idxR
    simp only
    rw [if_pos ⟨rfl, flat_strs _⟩, hk]
  · obtain ⟨d, h1, h2⟩ := (firstAt_ok hk).1
    rw [List.getElem?_map, List.getElem?_append_left (by omega)] at h1
    obtain ⟨z, hz, rfl⟩ := Option.map_eq_some_iff.mp h1
    rw [hz]
    congr 1
    simpa [eqF] using h2
/-- a walk along imports that is not yet closed -/
structure Row (p q : List Mod) (ys : List Str) (x : Str) : Prop where
  nd : ys.Nodup
  inn : ∀ y ∈ ys ++ [x], y ∈ nms q
  chain : ∀ (i : Nat) a b, (ys ++ [x])[i]? = some a → (ys ++ [x])[i + 1]? = some b → b ∈ impOf p a
theorem Row.len {p q : List Mod} {ys : List Str} {x : Str} (h : Row p q ys x) : ys.length ≤ q.length := by
  have := nodup_le h.nd (fun y hy => h.inn y (List.mem_append_left _ hy))
  unfold nms at this
  rwa [List.length_map] at this
theorem Row.nd2 {p q : List Mod} {ys : List Str} {x : Str} (h : Row p q ys x) (hm : x ∉ ys) : (ys ++ [x]).Nodup := by
  rw [List.nodup_append]
  exact ⟨h.nd, by simp, fun a ha b hb => by rw [List.mem_singleton.mp hb]; exact fun z => hm (z ▸ ha)⟩
theorem Row.len2 {p q : List Mod} {ys : List Str} {x : Str} (h : Row p q ys x) (hm : x ∉ ys) : ys.length + 1 ≤ q.length := by
  have := nodup_le (h.nd2 hm) h.inn
  unfold nms at this
  rw [List.length_map, List.length_append] at this
  exact this
theorem Row.step {p q : List Mod} {ys : List Str} {x o : Str} (h : Row p q ys x) (hm : x ∉ ys) (ho : o ∈ nms q) (hi : o ∈ impOf p x) : Row p q (ys ++ [x]) o := by
  refine ⟨h.nd2 hm, fun y hy => ?_, fun i a b ea eb => ?_⟩
  · rcases List.mem_append.mp hy with h' | h'
    · exact h.inn y h'
    · rw [List.mem_singleton.mp h']
      exact ho
  · by_cases hb : i + 1 < (ys ++ [x]).length
    · rw [List.getElem?_append_left (by omega)] at ea
      rw [List.getElem?_append_left hb] at eb
      exact h.chain i a b ea eb
    · rw [List.getElem?_append_right (by omega)] at eb
      have hz : i + 1 - (ys ++ [x]).length = 0 := by
        refine Nat.eq_zero_of_not_pos fun hp => ?_
        rw [List.getElem?_eq_none (by simp at hp ⊢; omega)] at eb
        cases eb
      rw [hz] at eb
      cases eb
      have hi : i = ys.length := by
        simp at hb hz
        omega
      rw [List.getElem?_append_left (by rw [hi]; simp), hi] at ea
      have : a = x := by
        simp at ea
        exact ea.symm
      rw [this]
      assumption
theorem Row.closed {p q : List Mod} {ys : List Str} {x : Str} {j : Nat} (h : Row p q ys x) (sub : ∀ m ∈ q, m ∈ p) (hj : ys[j]? = some x) : CycRow p (ys.drop j) := by
  have hjl : j < ys.length := (List.getElem?_eq_some_iff.mp hj).1
  refine ⟨?_, h.nd.sublist (List.drop_sublist _ _), fun y hy => ?_, fun i a b ea eb => ?_⟩
  · intro z
    have := congrArg List.length z
    rw [List.length_drop, List.length_nil] at this
    omega
  · obtain ⟨mm, hmm, rfl⟩ := List.mem_map.mp (h.inn y (List.mem_append_left _ (List.mem_of_mem_drop hy)))
    exact List.mem_map_of_mem (sub mm hmm)
  · rw [List.getElem?_drop] at ea eb
    have hal : j + i < ys.length := (List.getElem?_eq_some_iff.mp ea).1
    rw [List.length_drop] at eb
    by_cases hi : i + 1 < ys.length - j
    · rw [Nat.mod_eq_of_lt hi] at eb
      refine h.chain (j + i) a b ?_ ?_
      · rw [List.getElem?_append_left hal]
        exact ea
      · rw [List.getElem?_append_left (by omega)]
        exact eb
    · have hi2 : i + 1 = ys.length - j := by omega
      rw [hi2, Nat.mod_self, Nat.add_zero, hj] at eb
      cases eb
      refine h.chain (j + i) a x ?_ ?_
      · rw [List.getElem?_append_left hal]
        exact ea
      · rw [List.getElem?_append_right (by omega), show j + i + 1 - ys.length = 0 by omega]
        rfl
abbrev eR (p q : List Mod) (e2 e3 : Option Ent) (ys : List Str) (x : Str) : Env := [some (.frz (projV p)), some (.own (ldV q)), e2, e3, some (.own (.lst ((ys ++ [x]).map D.str))), none, none]
theorem next_ok {p q : List Mod} {ys : List Str} {x : Str} {e2 e3 : Option Ent} (wf : Wf p) (lf : Lft p q) (ql : q.length ≤ p.length) (r : Row p q ys x) (hm : x ∉ ys) :
    ∃ o, B_cycle_3 (eR p q e2 e3 ys x) = .nx (eR p q e2 e3 (ys ++ [x]) o) ∧ Row p q (ys ++ [x]) o := by
  have pl := wf.pl
  have yl := r.len
  obtain ⟨m, em, hmq, mn⟩ := modAt_some (r.inn x (by simp))
  have ei : impOf p x = m.imps := by
    have := modAt_of wf.nd (lf.sub m hmq)
    rw [mn] at this
    simp [impOf, this]
  have il := wf.il m (lf.sub m hmq)
  cases eo : m.imps.filter fun o => decide (o ∈ nms q) with
  | nil => exact absurd eo (lf.next hmq)
  | cons o rr =>
    have ho : o ∈ m.imps.filter fun o => decide (o ∈ nms q) := by rw [eo]; exact List.mem_cons_self
    have ho2 := List.mem_filter.mp ho
    have q1 := ixD_last (ys := ys) (x := x)
    have q2 := ixD_ld em
    have t := turns_mapA (G := Gname 6) (ft := fB (fOp inD (fVar 6) (fVar 1))) (fe := fVar 6) (vs := [6]) D.str (fun i => decide (i ∈ nms q)) D.str m.imps (eR p q e2 e3 ys x) (by omega) (by
      intro i hi
      have q3 := inD_ld (q := q) (n := i)
      refine ⟨[some (.frz (projV p)), some (.own (ldV q)), e2, e3, some (.own (.lst ((ys ++ [x]).map D.str))), none, some (.frz (.str i))], gn_to rfl .none rfl, ?_, rfl, fun _ => ⟨.val (.str i), rfl, rfl⟩⟩
      walk_at "ev")
    rw [eo] at t
    have lc : fLc (fCons (fOp ixD (fVar 1) (fOp ixD (fVar 4) (fUn negD (fC (.int 1))))) fNil) seqIt (Gname 6) (fB (fOp inD (fVar 6) (fVar 1))) (fVar 6) [6] (eR p q e2 e3 ys x) = .ok (.new (.lst ((o :: rr).map D.str))) (eR p q e2 e3 ys x) := by
      refine ev_lc (toks := [.val (.tup (m.imps.map D.str))]) (e1 := eR p q e2 e3 ys x) (js := []) (ev_cons (ev_op (ev_var rfl) (ev_op (ev_var rfl) (ev_un ev_c rfl rfl) rfl rfl q1) rfl rfl q2) ev_nil) rfl rfl rfl rfl rfl t rfl
    have ap : mAppend (.lst ((ys ++ [x]).map D.str)) [.str o] = some (.lst ((ys ++ [x] ++ [o]).map D.str), .non) := by
      rw [List.map_append (l₁ := ys ++ [x])]
      exact mAppend_ok (by simp; omega)
    refine ⟨o, ?_, r.step hm (of_decide_eq_true ho2.2) (ei ▸ ho2.1)⟩
    unfold B_cycle_3
    exact ev_drop (ev_mut (j := 4) (e := .own (.lst ((ys ++ [x]).map D.str))) rfl rfl (ev_cons (ev_op lc ev_c rfl rfl ixD_l0) ev_nil) rfl rfl rfl ap rfl)
theorem loop2_ok {p q : List Mod} {x0 : Str} {e2 e3 : Option Ent} (wf : Wf p) (lf : Lft p q) (ql : q.length ≤ p.length) (hx : x0 ∈ nms q) :
    ∃ ys x, fWhile (fB (fOp notInD (fOp ixD (fVar 4) (fUn negD (fC (.int 1)))) (fSl slD (fVar 4) none (some (fUn negD (fC (.int 1))))))) B_cycle_3 (eR p q e2 e3 [] x0) = .nx (eR p q e2 e3 ys x) ∧ Row p q ys x ∧ x ∈ ys := by
  have pl := wf.pl
  obtain ⟨e, h1, ys, x, rfl, h2⟩ := while_ok (c := fB (fOp notInD (fOp ixD (fVar 4) (fUn negD (fC (.int 1)))) (fSl slD (fVar 4) none (some (fUn negD (fC (.int 1))))))) (b := B_cycle_3)
    (fun n e => ∃ ys x, e = eR p q e2 e3 ys x ∧ Row p q ys x ∧ n = q.length - ys.length) (fun e => ∃ ys x, e = eR p q e2 e3 ys x ∧ Row p q ys x ∧ x ∈ ys) (by
    rintro n e ⟨ys, x, rfl, r, hn⟩
    have q1 := ixD_last (ys := ys) (x := x)
    have q2 := slD_init (ys := ys) (x := x)
    have q3 := notInD_l (n := x) (is := ys)
    have c : fB (fOp notInD (fOp ixD (fVar 4) (fUn negD (fC (.int 1)))) (fSl slD (fVar 4) none (some (fUn negD (fC (.int 1)))))) (eR p q e2 e3 ys x) = .ok (!decide (x ∈ ys)) (eR p q e2 e3 ys x) :=
      ev_B (ev_op (ev_op (ev_var rfl) (ev_un ev_c rfl rfl) rfl rfl q1) (ev_sl (ev_var rfl) ev_opt0 (ev_opt1 (ev_un ev_c rfl rfl) rfl) rfl q2) rfl rfl q3) rfl
    by_cases hm : x ∈ ys
    · rw [decide_eq_true hm] at c
      exact .inl ⟨_, c, ys, x, rfl, r, hm⟩
    · rw [decide_eq_false hm] at c
      obtain ⟨o, h1, h2⟩ := next_ok (e2 := e2) (e3 := e3) wf lf ql r hm
      have := r.len2 hm
      refine .inr ⟨_, _, q.length - (ys ++ [x]).length, c, h1, ⟨_, _, rfl, h2, rfl⟩, ?_⟩
      rw [List.length_append, List.length_singleton]
      omega) BIG (q.length - 0) (eR p q e2 e3 [] x0) ⟨[], x0, rfl, ⟨List.nodup_nil, by simpa using hx, fun i a b e1 e2 => by simp at e2⟩, rfl⟩ (by unfold BIG; omega)
  exact ⟨ys, x, h1, h2⟩
theorem keysS_ld (q : List Mod) : keysS (ldK q) = some (nms q) := by
  unfold ldK nms
  induction q with
  | nil => rfl
  | cons m r ih => simp only [List.map_cons, keysS, ih]
theorem sortedY_ld {q : List Mod} (h : q.length ≤ 60) : sortedY [ldV q] = some (.new (.lst ((sortS (nms q)).map D.str))) := by
  have : (nms q).length < 64 := by unfold nms; rw [List.length_map]; omega
  simp only [sortedY, sortedX, sortedD, orC, c1, ldV, sortedA, sortedM, sortedK, keysS_ld, if_pos this]
theorem cycle_ok {p : List Mod} (wf : Wf p) (nm : Nm p) : (fn_cycle [projV p] = .ok (.val .non) [] ∧ Acyc p) ∨ ∃ rs, fn_cycle [projV p] = .ok (.val (.tup (rs.map D.str))) [] ∧ CycRow p rs := by
  have pl := wf.pl
  have t := turns_dict (G := Gname 5) (ft := fYes) (fk := fOp ixD (fVar 5) (fC (.int 0))) (fv := fOp ixD (fVar 5) (fC (.int 1))) (vs := [5]) (acc := []) (fun d => match d with | .tup (.str n :: _) => .inr n | _ => .inr "") (fun d => match d with | .tup (_ :: i :: _) => i | _ => .non) (p.map modV) [some (.frz (projV p)), none, none, none, none, none, none] (by simp; omega) (by
    intro d hd
    obtain ⟨m, hm, rfl⟩ := List.mem_map.mp hd
    refine ⟨[some (.frz (projV p)), none, none, none, none, some (.frz (modV m)), none], rfl, rfl, rfl, .val (.str m.name), .val (.tup (m.imps.map D.str)), .str m.name, ?_, ?_, rfl, rfl, rfl⟩
    · exact ev_op (ev_var rfl) ev_c rfl rfl ixD_m0
    · exact ev_op (ev_var rfl) ev_c rfl rfl ixD_m1) (by
    rw [List.map_map]
    have e : (p.map ((fun d => match d with | .tup (.str n :: _) => .inr n | _ => .inr "") ∘ modV) : List Key) = (nms p).map Sum.inr := by
      unfold nms
      rw [List.map_map]
      rfl
    rw [e]
    show ((nms p).map Sum.inr).Nodup
    exact List.Pairwise.map _ (fun a b h z => h (Sum.inr.inj z)) wf.nd)
  have e0 : ([] ++ (p.map modV).map fun d => ((match d with | .tup (.str n :: _) => .inr n | _ => .inr "" : Key), (match d with | .tup (_ :: i :: _) => i | _ => .non : D))) = ldK p := by
    rw [List.nil_append, List.map_map]
    rfl
  rw [e0] at t
  have par : fPar [1, 2] (fCons (fDc (fCons (fVar 0) fNil) seqIt (Gname 5) fYes (fOp ixD (fVar 5) (fC (.int 0))) (fOp ixD (fVar 5) (fC (.int 1))) [5]) (fCons (fLst (fCons (fC (.str "")) fNil)) fNil)) [some (.frz (projV p)), none, none, none, none, none, none] = .nx (eC p p (some (.own (.lst [.str ""]))) none none) := by
    refine ev_par (ev_cons (ev_dc (toks := [.val (projV p)]) (e1 := [some (.frz (projV p)), none, none, none, none, none, none]) (js := []) (ev_cons rfl ev_nil) rfl rfl rfl rfl rfl t rfl) (ev_cons (ev_lst (ev_cons ev_c ev_nil) rfl (by decide)) ev_nil)) rfl rfl
  obtain ⟨q, F, e3, w1, f3, sub, ndq, tk, fr, ql⟩ := loop1_ok wf nm
  cases q with
  | nil =>
    refine .inl ⟨?_, ?_⟩
    · unfold fn_cycle F_cycle
      apply ev_fnR (env' := [some (.frz (projV p)), none, none, none, none, none, none]) (t := .val .non) (e1 := eC p [] (some (.own (.lst (F.map D.str)))) e3 none) rfl
      · refine ev_seq par rfl (ev_seq w1 rfl (ev_seqR ?_))
        refine ev_ifS (p := true) (ev_B (ev_op (ev_var rfl) rfl rfl rfl (show eqD (ldV []) (.dct []) = some (.val (.bl true)) from rfl)) rfl) ?_
        exact ev_ret ev_c
      all_goals rfl
    · obtain ⟨rk, hr⟩ := tk
      exact ⟨rk, fun m hm i hi => (hr m hm (fun z => by cases z) i hi).2⟩
  | cons m0 qr =>
    have lf : Lft p (m0 :: qr) := ⟨sub, ndq, fr⟩
    have sy := sortedY_ld (q := m0 :: qr) (by omega)
    have pm : (sortS (nms (m0 :: qr))).Perm (nms (m0 :: qr)) := sortS_perm _
    cases es : sortS (nms (m0 :: qr)) with
    | nil =>
      rw [es] at pm
      exact absurd pm.length_eq (by simp [nms])
    | cons x0 yr =>
      rw [es] at sy pm
      have hx0 : x0 ∈ nms (m0 :: qr) := pm.mem_iff.mp List.mem_cons_self
      obtain ⟨ys, x, w2, row, hx⟩ := loop2_ok (e2 := some (.own (.lst (F.map D.str)))) (e3 := e3) wf lf ql hx0
      obtain ⟨j, ij, hj⟩ := idx_row hx
      have jl : j ≤ ys.length := Nat.le_of_lt (List.getElem?_eq_some_iff.mp hj).1
      refine .inr ⟨ys.drop j, ?_, row.closed sub hj⟩
      have q1 := ixD_last (ys := ys) (x := x)
      have q2 := slD_mid (ys := ys) (x := x) jl
      unfold fn_cycle F_cycle
      apply ev_fnR (env' := [some (.frz (projV p)), none, none, none, none, none, none]) (t := .val (.tup ((ys.drop j).map D.str))) (e1 := eR p (m0 :: qr) (some (.own (.lst (F.map D.str)))) e3 ys x) rfl
      · refine ev_seq par rfl (ev_seq w1 rfl (ev_seq (e1 := eC p (m0 :: qr) (some (.own (.lst (F.map D.str)))) e3 none) ?_ rfl (ev_seq (e1 := eR p (m0 :: qr) (some (.own (.lst (F.map D.str)))) e3 [] x0) ?_ rfl (ev_seq w2 rfl ?_))))
        · exact ev_ifS (p := false) (ev_B (ev_op (ev_var rfl) rfl rfl rfl (show eqD (ldV (m0 :: qr)) (.dct []) = some (.val (.bl false)) from rfl)) rfl) ev_next
        · exact ev_asg (ev_lst (ev_cons (ev_op (ev_cb (ev_cons (ev_var rfl) ev_nil) rfl sy) ev_c rfl rfl ixD_l0) ev_nil) rfl (Nat.le_of_ble_eq_true rfl)) (gn_new rfl .none)
        · exact ev_ret (ev_cb (ev_cons (ev_sl (ev_var rfl) (ev_opt1 (ev_idx (ev_var rfl) rfl (ev_cons (ev_op (ev_var rfl) (ev_un ev_c rfl rfl) rfl rfl q1) ev_nil) rfl rfl ij) rfl) (ev_opt1 (ev_un ev_c rfl rfl) rfl) rfl q2) ev_nil) rfl rfl)
      all_goals rfl
end FL

set_option Elab.async false
set_option linter.all false
set_option maxRecDepth 100000
set_option maxHeartbeats 4000000
set_option exponentiation.threshold 100000
/-! PD: values of any kind; shows_cycle over pure values. -/
namespace FL
open PySem PySem.Spec PyProof.Rows L2 GL RM
local macro_rules | `(tactic| walk_at "ev") => `(tactic| repeat' (first
  | (show _ = _; with_reducible assumption)
  | with_reducible exact ev_c | with_reducible exact ev_nil | with_reducible exact ev_yes | with_reducible exact ev_next | with_reducible exact ev_break | with_reducible exact ev_cont | with_reducible exact ev_retN | with_reducible exact ev_opt0
  | with_reducible apply ev_var | with_reducible apply ev_op | with_reducible apply ev_un | with_reducible apply ev_cb | with_reducible apply ev_cons | with_reducible apply ev_tup | with_reducible apply ev_lst
  | with_reducible apply ev_B | with_reducible apply ev_not | with_reducible apply ev_and | with_reducible apply ev_or | with_reducible apply ev_andV | with_reducible apply ev_orV | with_reducible apply ev_notV | with_reducible apply ev_if
  | with_reducible apply ev_opt1 | with_reducible apply ev_sl | with_reducible apply ev_call | with_reducible apply ev_mut
  | with_reducible apply ev_dput | with_reducible apply ev_star | with_reducible apply ev_lenSet | with_reducible apply ev_callV | with_reducible apply ev_chainT | with_reducible apply ev_extend
  | with_reducible apply ev_seq | with_reducible apply ev_ret | with_reducible apply ev_drop | with_reducible apply ev_ifS | with_reducible apply ev_asg | with_reducible apply ev_par | with_reducible apply ev_aug | with_reducible apply ev_sub
  | with_reducible refine ev_nT ?_ | with_reducible refine ev_nF ?_
  | with_reducible refine ev_dT (by first | assumption | omega) ?_ | with_reducible refine ev_dF (by first | assumption | omega) ?_ | with_reducible refine ev_T (by first | rfl | assumption) ?_ | with_reducible refine ev_F (by first | rfl | assumption) ?_
  | with_reducible exact addD_i | with_reducible exact subD_i | with_reducible exact ltD_i | with_reducible exact leD_i | with_reducible exact ixD_l0 | with_reducible exact ixD_l1 | with_reducible exact ixD_l2 | with_reducible exact ixD_t0 | with_reducible exact ixD_t1 | with_reducible exact ixD_t2
  | with_reducible apply modD_i | with_reducible apply divD_i | with_reducible apply mulD_p
  | with_reducible apply ev_rng1 | with_reducible apply ev_rng2 | with_reducible apply ev_for' | with_reducible apply ev_lc | with_reducible apply ev_dc | with_reducible apply ev_turn | with_reducible exact ev_turn0 | with_reducible apply ev_lcB | with_reducible apply ev_dcB
  | with_reducible apply gn_val | with_reducible apply gn_new | with_reducible apply g_tup | with_reducible apply gall_cons | with_reducible exact gall_nil | with_reducible apply stores_cons | with_reducible exact stores_nil
  | with_reducible exact FreeE.none | with_reducible exact FreeE.frz | with_reducible exact FreeE.own | (show FreeE _; assumption)
  | with_reducible exact ixN_0 | with_reducible exact ixN_1 | with_reducible exact ixN_2
  | (show _ = _; dsimp only [Ent.val, Ent.put, Ent.tok]; with_reducible assumption)
  | (show turnsF _ _ _ _ _ _ _ = _; assumption) | (show loopF _ _ _ _ = _; assumption)
  | (show (_ : Env) = _; first | (dsimp only [startE, List.replicate, List.append_eq, List.cons_append, List.nil_append, List.set_cons_zero, List.set_cons_succ, List.getElem?_cons_zero, List.getElem?_cons_succ, Ent.put, Ent.val, Ent.tok, backs, lockAll, lockT, unlockAll, unlock, List.foldr, rest, wipeE, Option.join] <;> rfl) | rfl)
  | (show List.length _ ≤ _; exact Nat.le_of_ble_eq_true rfl) | (show _ < _; omega) | (show _ ≤ _; omega)
  | rfl))
def F_shows_cycle : Sf :=
  (fSeq (fAsg (fCall [false] fn_by_name (fCons (fVar 0) fNil)) (Gname 2))
    (fSeq (fIfS (fOr (fNot (fB (fCB (c2 isiD) (fCons (fVar 1) (fCons (fC (.ty "tuple")) fNil))))) (fB (fOp eqZ (fVar 1) (fTup fNil)))) (fRet (fC (.bl false))) fNext)
    (fSeq (fIfS (fNot (fB (fCB (c1 allD) (fCons (fLc (fCons (fVar 1) fNil) seqIt (Gname 3) fYes (fAndV (fCB (c2 isiD) (fCons (fVar 3) (fCons (fC (.ty "str")) fNil))) (fOp inD (fVar 3) (fVar 2))) [3]) fNil)))) (fRet (fC (.bl false))) fNext)
    (fRet (fCB (c1 allD) (fCons (fLc (fCons (fVar 1) (fCons (fOp addD (fSl slD (fVar 1) (some (fC (.int 1))) none) (fSl slD (fVar 1) none (some (fC (.int 1))))) fNil)) zipItB (Gtup [(Gname 3), (Gname 4)]) fYes (fOp inD (fVar 4) (fOp ixD (fOp ixD (fVar 2) (fVar 3)) (fC (.int 1)))) [3, 4]) fNil))))))
def fn_shows_cycle : Fn := mkFn [false, false] 3 F_shows_cycle
/-! ### values of any kind -/
def K1 : D → Bool
  | .non => true
  | .bl _ => true
  | .int _ => true
  | .str _ => true
  | .tup _ => true
  | .lst _ => true
  | .dct _ => true
  | _ => false
structure Kd (d : D) : Prop where
  k1 : K1 d = true
  it : ∀ xs, d = .tup xs → xs.length ≤ 1000 ∧ ∀ x ∈ xs, K1 x = true
theorem Kd.of {d : D} (h : K1 d = true) (n : ∀ xs, d ≠ .tup xs) : Kd d := ⟨h, fun xs e => absurd e (n xs)⟩
theorem Kd.tup {xs : List D} (h : xs.length ≤ 1000) (k : ∀ x ∈ xs, K1 x = true) : Kd (.tup xs) := ⟨rfl, fun ys e => by cases e; exact ⟨h, k⟩⟩
theorem Kd.strs {ss : List Str} (h : ss.length ≤ 1000) : Kd (.tup (ss.map D.str)) := .tup (by simpa using h) fun x hx => by
  obtain ⟨z, _, rfl⟩ := List.mem_map.mp hx
  rfl
def isS : D → Bool
  | .str _ => true
  | _ => false
def isT : D → Bool
  | .tup _ => true
  | _ => false
theorem isi_str {d : D} (h : K1 d = true) : c2 isiD [d, .ty "str"] = some (.val (.bl (isS d))) := by
  cases d <;> first | rfl | cases h
theorem isi_tup {d : D} (h : K1 d = true) : c2 isiD [d, .ty "tuple"] = some (.val (.bl (isT d))) := by
  cases d <;> first | rfl | cases h
theorem eqZ_t {xs : List D} : eqZ (.tup xs) (.tup []) = some (.val (.bl xs.isEmpty)) := rfl
theorem strs_of {xs : List D} (h : xs.all isS = true) : xs = (xs.map unS).map D.str := by
  induction xs with
  | nil => rfl
  | cons x r ih =>
    simp only [List.all_cons, Bool.and_eq_true] at h
    rw [List.map_cons, List.map_cons, ← ih h.2]
    congr 1
    cases x <;> first | rfl | exact absurd h.1 (by simp [isS])
theorem all_dec {α : Type} {xs : List α} {f : α → Bool} (h : ∀ x ∈ xs, f x = true) : xs.all f = true := List.all_eq_true.mpr h
def rowB (p : List Mod) (ss : List Str) : Bool := (ss.zip (ss.drop 1 ++ ss.take 1)).all fun ab => decide (ab.2 ∈ impOf p ab.1)
def isRow (p : List Mod) : D → Bool
  | .tup xs => !xs.isEmpty && ((xs.all fun d => isS d && decide (unS d ∈ nms p)) && rowB p (xs.map unS))
  | _ => false
theorem zipL_strs : ∀ (a b : List Str), zipL (a.map D.str) (b.map D.str) = (a.zip b).map fun ab => .tup [.str ab.1, .str ab.2]
  | [], _ => rfl
  | _ :: _, [] => rfl
  | x :: a, y :: b => by
    rw [List.map_cons, List.map_cons, List.zip_cons_cons, List.map_cons, zipL, zipL_strs a b]
theorem turn_add {ss : List Str} (h : ss.length ≤ 1000) {env : Env} {i : Nat} (hi : env[i]? = some (some (.frz (.tup (ss.map D.str))))) :
    fOp addD (fSl slD (fVar i) (some (fC (.int 1))) none) (fSl slD (fVar i) none (some (fC (.int 1)))) env = .ok (.val (.tup ((ss.drop 1 ++ ss.take 1).map D.str))) env := by
  have q1 : slD (.tup (ss.map D.str)) (some 1) none = some (.val (.tup ((ss.drop 1).map D.str))) := slD_dr (k := 1)
  have q2 : slD (.tup (ss.map D.str)) none (some 1) = some (.val (.tup ((ss.take 1).map D.str))) := slD_tk (k := 1)
  have q3 : addD (.tup ((ss.drop 1).map D.str)) (.tup ((ss.take 1).map D.str)) = some (.val (.tup ((ss.drop 1 ++ ss.take 1).map D.str))) := by
    rw [addD_t (by simp; omega), List.map_append]
  exact ev_op (ev_sl (ev_var hi) (ev_opt1 ev_c rfl) ev_opt0 rfl q1) (ev_sl (ev_var hi) ev_opt0 (ev_opt1 ev_c rfl) rfl q2) rfl rfl q3
theorem shows_ok {p : List Mod} {v : D} (wf : Wf p) (hv : Kd v) : fn_shows_cycle [projV p, v] = .ok (.val (.bl (isRow p v))) [] := by
  have pl := wf.pl
  have b := by_name_ok wf.nd (show p.length ≤ 1000 by omega)
  have it := isi_tup hv.k1
  have s1 : fAsg (fCall [false] fn_by_name (fCons (fVar 0) fNil)) (Gname 2) [some (.frz (projV p)), some (.frz v), none, none, none] = .nx [some (.frz (projV p)), some (.frz v), some (.own (mdV p)), none, none] := by walk_at "ev"
  by_cases ht : isT v = true
  · cases v with
    | tup xs =>
      obtain ⟨xl, k1⟩ := hv.it xs rfl
      have it2 : c2 isiD [.tup xs, .ty "tuple"] = some (.val (.bl true)) := it
      have ez := eqZ_t (xs := xs)
      cases xs with
      | nil =>
        unfold fn_shows_cycle F_shows_cycle
        apply ev_fnR (env' := [some (.frz (projV p)), some (.frz (.tup [])), none, none, none]) (t := .val (.bl false)) (e1 := [some (.frz (projV p)), some (.frz (.tup [])), some (.own (mdV p)), none, none]) rfl
        · refine ev_seq s1 rfl (ev_seqR (ev_ifS (p := true) (ev_or (ev_not (ev_B (ev_cb (ev_cons (ev_var rfl) (ev_cons ev_c ev_nil)) rfl it2) rfl)) ?_) (ev_ret ev_c)))
          exact ev_B (ev_op (ev_var rfl) (ev_tup ev_nil rfl (by decide)) rfl rfl ez) rfl
        all_goals rfl
      | cons x0 xr =>
        have c1' : fOr (fNot (fB (fCB (c2 isiD) (fCons (fVar 1) (fCons (fC (.ty "tuple")) fNil))))) (fB (fOp eqZ (fVar 1) (fTup fNil))) [some (.frz (projV p)), some (.frz (.tup (x0 :: xr))), some (.own (mdV p)), none, none] = .ok false [some (.frz (projV p)), some (.frz (.tup (x0 :: xr))), some (.own (mdV p)), none, none] := by
          refine ev_or (ev_not (ev_B (ev_cb (ev_cons (ev_var rfl) (ev_cons ev_c ev_nil)) rfl it2) rfl)) ?_
          exact ev_B (ev_op (ev_var rfl) (ev_tup ev_nil rfl (by decide)) rfl rfl ez) rfl
        generalize hxs : x0 :: xr = xs at *
        have t1 := turns_mapA (G := Gname 3) (ft := fYes) (fe := fAndV (fCB (c2 isiD) (fCons (fVar 3) (fCons (fC (.ty "str")) fNil))) (fOp inD (fVar 3) (fVar 2))) (vs := [3]) id (fun _ => true) (fun d => D.bl (isS d && decide (unS d ∈ nms p))) xs [some (.frz (projV p)), some (.frz (.tup xs)), some (.own (mdV p)), none, none] (by omega) (by
          intro d hd
          have ks := isi_str (k1 d hd)
          refine ⟨[some (.frz (projV p)), some (.frz (.tup xs)), some (.own (mdV p)), some (.frz d), none], gn_to rfl .none rfl, rfl, rfl, fun _ => ⟨.val (.bl (isS d && decide (unS d ∈ nms p))), ?_, rfl⟩⟩
          cases es : isS d with
          | false =>
            rw [es] at ks
            exact ev_andV (ev_cb (ev_cons (ev_var rfl) (ev_cons ev_c ev_nil)) rfl ks) rfl rfl
          | true =>
            rw [es] at ks
            cases d with
            | str z => exact ev_andV (ev_cb (ev_cons (ev_var rfl) (ev_cons ev_c ev_nil)) rfl ks) rfl (ev_op (ev_var rfl) (ev_var rfl) rfl rfl inD_md)
            | _ => cases es)
        rw [List.map_id, List.filter_eq_self.mpr fun _ _ => rfl] at t1
        have al := allD_map (xs := xs) (f := fun d => isS d && decide (unS d ∈ nms p))
        have c2' : fNot (fB (fCB (c1 allD) (fCons (fLc (fCons (fVar 1) fNil) seqIt (Gname 3) fYes (fAndV (fCB (c2 isiD) (fCons (fVar 3) (fCons (fC (.ty "str")) fNil))) (fOp inD (fVar 3) (fVar 2))) [3]) fNil))) [some (.frz (projV p)), some (.frz (.tup xs)), some (.own (mdV p)), none, none] = .ok (!(xs.all fun d => isS d && decide (unS d ∈ nms p))) [some (.frz (projV p)), some (.frz (.tup xs)), some (.own (mdV p)), none, none] :=
          ev_not (ev_B (ev_cb (ev_cons (ev_lc (toks := [.val (.tup xs)]) (e1 := [some (.frz (projV p)), some (.frz (.tup xs)), some (.own (mdV p)), none, none]) (js := []) (ev_cons rfl ev_nil) rfl rfl rfl rfl rfl t1 rfl) ev_nil) rfl al) rfl)
        have em : xs.isEmpty = false := by rw [← hxs]; rfl
        cases ea : xs.all fun d => isS d && decide (unS d ∈ nms p) with
        | false =>
          rw [ea] at c2'
          have er : isRow p (.tup xs) = false := by simp [isRow, ea]
          rw [er]
          unfold fn_shows_cycle F_shows_cycle
          apply ev_fnR (env' := [some (.frz (projV p)), some (.frz (.tup xs)), none, none, none]) (t := .val (.bl false)) (e1 := [some (.frz (projV p)), some (.frz (.tup xs)), some (.own (mdV p)), none, none]) rfl
          · refine ev_seq s1 rfl (ev_seq (ev_ifS c1' ev_next) rfl (ev_seqR (ev_ifS c2' (ev_ret ev_c))))
          all_goals rfl
        | true =>
          rw [ea] at c2'
          have all1 : ∀ d ∈ xs, isS d = true ∧ unS d ∈ nms p := fun d hd => by
            have := List.all_eq_true.mp ea d hd
            simp only [Bool.and_eq_true, decide_eq_true_eq] at this
            exact this
          have er : isRow p (.tup xs) = rowB p (xs.map unS) := by simp [isRow, ea, em]
          rw [er]
          have hss := strs_of (xs := xs) (all_dec fun d hd => (all1 d hd).1)
          have inn : ∀ s ∈ xs.map unS, s ∈ nms p := fun s hs => by
            obtain ⟨d, hd, rfl⟩ := List.mem_map.mp hs
            exact (all1 d hd).2
          have sl : (xs.map unS).length ≤ 1000 := by simpa using xl
          generalize xs.map unS = ss at hss inn sl ⊢
          rw [hss] at c1' c2' s1 ⊢
          have ta := turn_add sl (env := [some (.frz (projV p)), some (.frz (.tup (ss.map D.str))), some (.own (mdV p)), none, none]) (i := 1) rfl
          have t2 := turns_mapA (G := Gtup [Gname 3, Gname 4]) (ft := fYes) (fe := fOp inD (fVar 4) (fOp ixD (fOp ixD (fVar 2) (fVar 3)) (fC (.int 1)))) (vs := [3, 4]) (fun ab : Str × Str => D.tup [.str ab.1, .str ab.2]) (fun _ => true) (fun ab => D.bl (decide (ab.2 ∈ impOf p ab.1))) (ss.zip (ss.drop 1 ++ ss.take 1)) [some (.frz (projV p)), some (.frz (.tup (ss.map D.str))), some (.own (mdV p)), none, none] (by rw [List.length_zip]; omega) (by
            rintro ⟨a, b⟩ hab
            obtain ⟨m, em, hm, mn⟩ := modAt_some (inn a (List.of_mem_zip hab).1)
            have ei : impOf p a = m.imps := by simp [impOf, em]
            refine ⟨[some (.frz (projV p)), some (.frz (.tup (ss.map D.str))), some (.own (mdV p)), some (.frz (.str a)), some (.frz (.str b))], rfl, rfl, rfl, fun _ => ⟨.val (.bl (decide (b ∈ impOf p a))), ?_, rfl⟩⟩
            rw [ei]
            exact ev_op (ev_var rfl) (ev_op (ev_op (ev_var rfl) (ev_var rfl) rfl rfl (ixD_md em)) ev_c rfl rfl ixD_m1) rfl rfl inD_t)
          rw [List.filter_eq_self.mpr fun _ _ => rfl] at t2
          have al2 := allD_map (xs := ss.zip (ss.drop 1 ++ ss.take 1)) (f := fun ab => decide (ab.2 ∈ impOf p ab.1))
          rw [← zipL_strs] at t2
          unfold fn_shows_cycle F_shows_cycle
          apply ev_fnR (env' := [some (.frz (projV p)), some (.frz (.tup (ss.map D.str))), none, none, none]) (t := .val (.bl (rowB p ss))) (e1 := [some (.frz (projV p)), some (.frz (.tup (ss.map D.str))), some (.own (mdV p)), none, none]) rfl
          · refine ev_seq s1 rfl (ev_seq (ev_ifS c1' ev_next) rfl (ev_seq (ev_ifS c2' ev_next) rfl (ev_ret ?_)))
            exact ev_cb (ev_cons (ev_lc (toks := [.val (.tup (ss.map D.str)), .val (.tup ((ss.drop 1 ++ ss.take 1).map D.str))]) (e1 := [some (.frz (projV p)), some (.frz (.tup (ss.map D.str))), some (.own (mdV p)), none, none]) (js := []) (ev_cons rfl (ev_cons ta ev_nil)) rfl rfl rfl rfl rfl t2 rfl) ev_nil) rfl al2
          all_goals rfl
    | _ => cases ht
  · have hf : isT v = false := by simpa using ht
    rw [hf] at it
    have er : isRow p v = false := by cases v <;> first | rfl | cases hf
    rw [er]
    unfold fn_shows_cycle F_shows_cycle
    apply ev_fnR (env' := [some (.frz (projV p)), some (.frz v), none, none, none]) (t := .val (.bl false)) (e1 := [some (.frz (projV p)), some (.frz v), some (.own (mdV p)), none, none]) rfl
    · refine ev_seq s1 rfl (ev_seqR (ev_ifS (p := true) (ev_or (ev_not (ev_B (ev_cb (ev_cons (ev_var rfl) (ev_cons ev_c ev_nil)) rfl it) rfl)) rfl) (ev_ret ev_c)))
    all_goals rfl
end FL

set_option Elab.async false
set_option linter.all false
set_option maxRecDepth 100000
set_option maxHeartbeats 4000000
set_option exponentiation.threshold 100000
/-! PE: odd values, bent values. -/
namespace FL
open PySem PySem.Spec PyProof.Rows L2 GL RM
local macro_rules | `(tactic| walk_at "ev") => `(tactic| repeat' (first
  | (show _ = _; with_reducible assumption)
  | with_reducible exact ev_c | with_reducible exact ev_nil | with_reducible exact ev_yes | with_reducible exact ev_next | with_reducible exact ev_break | with_reducible exact ev_cont | with_reducible exact ev_retN | with_reducible exact ev_opt0
  | with_reducible apply ev_var | with_reducible apply ev_op | with_reducible apply ev_un | with_reducible apply ev_cb | with_reducible apply ev_cons | with_reducible apply ev_tup | with_reducible apply ev_lst
  | with_reducible apply ev_B | with_reducible apply ev_not | with_reducible apply ev_and | with_reducible apply ev_or | with_reducible apply ev_andV | with_reducible apply ev_orV | with_reducible apply ev_notV | with_reducible apply ev_if
  | with_reducible apply ev_opt1 | with_reducible apply ev_sl | with_reducible apply ev_call | with_reducible apply ev_mut
  | with_reducible apply ev_dput | with_reducible apply ev_star | with_reducible apply ev_lenSet | with_reducible apply ev_callV | with_reducible apply ev_chainT | with_reducible apply ev_extend
  | with_reducible apply ev_seq | with_reducible apply ev_ret | with_reducible apply ev_drop | with_reducible apply ev_ifS | with_reducible apply ev_asg | with_reducible apply ev_par | with_reducible apply ev_aug | with_reducible apply ev_sub
  | with_reducible refine ev_nT ?_ | with_reducible refine ev_nF ?_
  | with_reducible refine ev_dT (by first | assumption | omega) ?_ | with_reducible refine ev_dF (by first | assumption | omega) ?_ | with_reducible refine ev_T (by first | rfl | assumption) ?_ | with_reducible refine ev_F (by first | rfl | assumption) ?_
  | with_reducible exact addD_i | with_reducible exact subD_i | with_reducible exact ltD_i | with_reducible exact leD_i | with_reducible exact ixD_l0 | with_reducible exact ixD_l1 | with_reducible exact ixD_l2 | with_reducible exact ixD_t0 | with_reducible exact ixD_t1 | with_reducible exact ixD_t2
  | with_reducible apply modD_i | with_reducible apply divD_i | with_reducible apply mulD_p
  | with_reducible apply ev_rng1 | with_reducible apply ev_rng2 | with_reducible apply ev_for' | with_reducible apply ev_lc | with_reducible apply ev_dc | with_reducible apply ev_turn | with_reducible exact ev_turn0 | with_reducible apply ev_lcB | with_reducible apply ev_dcB
  | with_reducible apply gn_val | with_reducible apply gn_new | with_reducible apply g_tup | with_reducible apply gall_cons | with_reducible exact gall_nil | with_reducible apply stores_cons | with_reducible exact stores_nil
  | with_reducible exact FreeE.none | with_reducible exact FreeE.frz | with_reducible exact FreeE.own | (show FreeE _; assumption)
  | with_reducible exact ixN_0 | with_reducible exact ixN_1 | with_reducible exact ixN_2
  | (show _ = _; dsimp only [Ent.val, Ent.put, Ent.tok]; with_reducible assumption)
  | (show turnsF _ _ _ _ _ _ _ = _; assumption) | (show loopF _ _ _ _ = _; assumption)
  | (show (_ : Env) = _; first | (dsimp only [startE, List.replicate, List.append_eq, List.cons_append, List.nil_append, List.set_cons_zero, List.set_cons_succ, List.getElem?_cons_zero, List.getElem?_cons_succ, Ent.put, Ent.val, Ent.tok, backs, lockAll, lockT, unlockAll, unlock, List.foldr, rest, wipeE, Option.join] <;> rfl) | rfl)
  | (show List.length _ ≤ _; exact Nat.le_of_ble_eq_true rfl) | (show _ < _; omega) | (show _ ≤ _; omega)
  | rfl))
def F_imports : Sf :=
  (fRet (fOp ixD (fLc (fCons (fVar 0) fNil) seqIt (Gname 2) (fB (fOp eqD (fOp ixD (fVar 2) (fC (.int 0))) (fVar 1))) (fOp ixD (fVar 2) (fC (.int 1))) [2]) (fC (.int 0))))
def fn_imports : Fn := mkFn [false, false] 1 F_imports
def B_odd_1 : Sf :=
  (fAsg (fOp ixD (fLst (fCons (fTup (fCons (fVar 1) fNil)) (fCons (fLst (fCons (fVar 1) fNil)) (fCons (fDisp1 "a" (fVar 1)) fNil)))) (fCall [true, false] fn_draw (fCons (fVar 0) (fCons (fC (.int 3)) fNil)))) (Gname 1))
def F_odd : Sf :=
  (fSeq (fAsg (fCall [true, false] fn_choice (fCons (fVar 0) (fCons (fLst (fCons (fC .non) (fCons (fC (.bl true)) (fCons (fC (.bl false)) (fCons (fC (.int 0)) (fCons (fC (.int 1)) (fCons (fUn negD (fC (.int 1))) (fCons (fOp powD (fC (.int 10)) (fC (.int 20))) (fCons (fC (.str "")) (fCons (fC (.str "a")) (fCons (fC (.str "A")) (fCons (fC (.str "a b")) (fCons (fTup fNil) (fCons (fLst fNil) (fCons fDNew (fCons (fTup (fCons (fC (.str "a")) fNil)) (fCons (fLst (fCons (fC (.str "a")) fNil)) fNil))))))))))))))))) fNil))) (Gname 1))
    (fSeq (fFor (fCons (fCall [true, false] fn_choice (fCons (fVar 0) (fCons (fLst (fCons (fC (.int 0)) (fCons (fC (.int 0)) (fCons (fC (.int 0)) (fCons (fC (.int 1)) (fCons (fC (.int 2)) (fCons (fC (.int 16)) fNil))))))) fNil))) fNil) rng1 (Gname 2) B_odd_1)
    (fRet (fVar 1))))
def fn_odd : Fn := mkFn [true] 2 F_odd
def F_bent (self : Fn) : Sf :=
  (fSeq (fIfS (fAnd (fB (fCB (c2 isiD) (fCons (fVar 1) (fCons (fC (.ty "tuple")) fNil)))) (fAnd (fB (fOp neD (fVar 1) (fTup fNil))) (fB (fOp gtD (fCall [true, false] fn_draw (fCons (fVar 0) (fCons (fC (.int 4)) fNil))) (fC (.int 0)))))) (fSeq (fPar [2, 3] (fCons (fCall [true, false] fn_draw (fCons (fVar 0) (fCons (fCB lenD (fCons (fVar 1) fNil)) fNil))) (fCons (fCall [true, false] fn_draw (fCons (fVar 0) (fCons (fC (.int 9)) fNil))) fNil)))
    (fSeq (fIfS (fB (fOp eqD (fVar 3) (fC (.int 0)))) (fRet (fOp addD (fSl slD (fVar 1) none (some (fVar 2))) (fSl slD (fVar 1) (some (fOp addD (fVar 2) (fC (.int 1)))) none))) fNext)
    (fSeq (fIfS (fB (fOp eqD (fVar 3) (fC (.int 1)))) (fRet (fOp addD (fSl slD (fVar 1) none (some (fOp addD (fVar 2) (fC (.int 1))))) (fSl slD (fVar 1) (some (fVar 2)) none))) fNext)
    (fRet (fOp addD (fOp addD (fSl slD (fVar 1) none (some (fVar 2))) (fTup (fCons (fCall [true, false] self (fCons (fVar 0) (fCons (fOp ixD (fVar 1) (fVar 2)) fNil))) fNil))) (fSl slD (fVar 1) (some (fOp addD (fVar 2) (fC (.int 1)))) none)))))) fNext)
    (fSeq (fIfS (fAnd (fB (fCB (c2 isiD) (fCons (fVar 1) (fCons (fC (.ty "str")) fNil)))) (fB (fOp gtD (fCall [true, false] fn_draw (fCons (fVar 0) (fCons (fC (.int 3)) fNil))) (fC (.int 0))))) (fRet (fCall [true, false] fn_choice (fCons (fVar 0) (fCons (fLst (fCons (fOp addD (fVar 1) (fC (.str "a"))) (fCons (fSl slD (fVar 1) (some (fC (.int 1))) none) (fCons (fUn upperD (fVar 1)) (fCons (fOp addD (fVar 1) (fC (.str " "))) (fCons (fOp addD (fC (.str "ab")) (fVar 1)) (fCons (fC (.str "pure")) fNil))))))) fNil)))) fNext)
    (fSeq (fIfS (fAnd (fB (fCB (c2 isiD) (fCons (fVar 1) (fCons (fC (.ty "tuple")) fNil)))) (fB (fOp gtD (fCall [true, false] fn_draw (fCons (fVar 0) (fCons (fC (.int 3)) fNil))) (fC (.int 0))))) (fRet (fCall [true, false] fn_choice (fCons (fVar 0) (fCons (fLst (fCons (fCB (c1 listD) (fCons (fVar 1) fNil)) (fCons (fRevT (fVar 1)) (fCons (fOp addD (fVar 1) (fVar 1)) (fCons (fSl slD (fVar 1) none (some (fC (.int 1)))) (fCons (fTup (fCons (fVar 1) fNil)) fNil)))))) fNil)))) fNext)
    (fRet (fCall [true] fn_odd (fCons (fVar 0) fNil))))))
def fn_bent : Nat → Fn
  | 0 => fun _ => .bad
  | j + 1 => mkFn [true, false] 2 (F_bent (fn_bent j))
theorem choice_t {n : Nat} {d : D} {xs : List D} (h : Src n d) (hn : n ≤ 2 ^ 60) (hx : xs ≠ []) (hl : xs.length ≤ 1000000) : ∃ x d', fn_choice [d, .tup xs] = .ok (.val x) [d'] ∧ Src (n + 1) d' ∧ x ∈ xs := by
  have hp : 0 < xs.length := List.length_pos_iff.mpr hx
  obtain ⟨i, d', e, s, h0, h1⟩ := draw_ok (l := xs.length) h hn (by omega) (by omega)
  obtain ⟨k, rfl⟩ := Int.eq_ofNat_of_zero_le h0
  have hk : k < xs.length := by omega
  have q : ixD (.tup xs) (.int k) = some (.val xs[k]) := by rw [ixD_t, atI_nat (List.getElem?_eq_getElem hk)]; rfl
  refine ⟨xs[k], d', ?_, s, List.getElem_mem hk⟩
  unfold fn_choice F_choice
  apply ev_fnR rfl
  · walk_at "ev"
  all_goals rfl
/-! ### draws where the source is lent from slot 0 -/
theorem drawE {N : Nat} {d : D} {l : Int} (env : Env) (h : Src N d) (hn : N ≤ 2 ^ 60) (hl : 0 < l) (hl2 : l ≤ 2 ^ 100) : ∃ i d', fCall [true, false] fn_draw (fCons (fVar 0) (fCons (fC (.int l)) fNil)) (some (.par d) :: env) = .ok (.val (.int i)) (some (.par d') :: env) ∧ Src (N + 1) d' ∧ 0 ≤ i ∧ i < l := by
  obtain ⟨i, d', e, s, h0, h1⟩ := draw_ok h hn hl hl2
  exact ⟨i, d', ev_call (ev_cons rfl (ev_cons ev_c ev_nil)) rfl rfl e rfl, s, h0, h1⟩
theorem choiceE {N : Nat} {d : D} {a : Ev} {xs : List D} {env : Env} (h : Src N d) (hn : N ≤ 2 ^ 60) (hx : xs ≠ []) (hl : xs.length ≤ 1000000) (ha : a (some (.par d) :: env) = .ok (.new (.lst xs)) (some (.par d) :: env)) : ∃ x d', fCall [true, false] fn_choice (fCons (fVar 0) (fCons a fNil)) (some (.par d) :: env) = .ok (.val x) (some (.par d') :: env) ∧ Src (N + 1) d' ∧ x ∈ xs := by
  obtain ⟨x, d', e, s, hm⟩ := choice_ok h hn hx hl
  exact ⟨x, d', ev_call (ev_cons rfl (ev_cons ha ev_nil)) rfl rfl e rfl, s, hm⟩
theorem choiceT {N : Nat} {d : D} {a : Ev} {xs : List D} {env : Env} (h : Src N d) (hn : N ≤ 2 ^ 60) (hx : xs ≠ []) (hl : xs.length ≤ 1000000) (ha : a (some (.par d) :: env) = .ok (.val (.tup xs)) (some (.par d) :: env)) : ∃ x d', fCall [true, false] fn_choice (fCons (fVar 0) (fCons a fNil)) (some (.par d) :: env) = .ok (.val x) (some (.par d') :: env) ∧ Src (N + 1) d' ∧ x ∈ xs := by
  obtain ⟨x, d', e, s, hm⟩ := choice_t h hn hx hl
  exact ⟨x, d', ev_call (ev_cons rfl (ev_cons ha ev_nil)) rfl rfl e rfl, s, hm⟩
theorem imports_ok {p : List Mod} {n : Str} (wf : Wf p) (nm : Nm p) (hn : n ∈ nms p) : fn_imports [projV p, .str n] = .ok (.val (.tup ((impOf p n).map D.str))) [] := by
  have pl := wf.pl
  obtain ⟨m, em, hm, mn⟩ := modAt_some hn
  have ei : impOf p n = m.imps := by simp [impOf, em]
  rw [ei]
  have t := turns_mapA (G := Gname 2) (ft := fB (fOp eqD (fOp ixD (fVar 2) (fC (.int 0))) (fVar 1))) (fe := fOp ixD (fVar 2) (fC (.int 1))) (vs := [2]) modV (fun m => decide (m.name = n)) (fun m => .tup (m.imps.map D.str)) p [some (.frz (projV p)), some (.frz (.str n)), none] (by omega) (by
    intro m hm
    have q := eqD_s (nm m.name (List.mem_map_of_mem hm)).lay (nm n hn).lay
    refine ⟨[some (.frz (projV p)), some (.frz (.str n)), some (.frz (modV m))], rfl, ?_, rfl, fun _ => ⟨.val (.tup (m.imps.map D.str)), ev_op (ev_var rfl) ev_c rfl rfl ixD_m1, rfl⟩⟩
    exact ev_B (ev_op (ev_op (ev_var rfl) ev_c rfl rfl ixD_m0) (ev_var rfl) rfl rfl q) rfl)
  have hd : (p.filter fun m => decide (m.name = n)).head? = some m := by rw [List.head?_filter]; exact em
  cases ef : p.filter fun m => decide (m.name = n) with
  | nil => rw [ef] at hd; cases hd
  | cons m' r =>
    rw [ef] at hd t
    cases hd
    unfold fn_imports F_imports
    apply ev_fnR (env' := [some (.frz (projV p)), some (.frz (.str n)), none]) (t := .val (.tup (m.imps.map D.str))) (e1 := [some (.frz (projV p)), some (.frz (.str n)), none]) rfl
    · exact ev_ret (ev_op (ev_lc (toks := [.val (projV p)]) (e1 := [some (.frz (projV p)), some (.frz (.str n)), none]) (js := []) (ev_cons rfl ev_nil) rfl rfl rfl rfl rfl t rfl) ev_c rfl rfl ixD_l0)
    all_goals rfl
/-! ### odd -/
def oddL : List D := [.non, .bl true, .bl false, .int 0, .int 1, .int (-1), .int (10 ^ 20), .str "", .str "a", .str "A", .str "a b", .tup [], .lst [], .dct [], .tup [.str "a"], .lst [.str "a"]]
theorem oddL_ok {x : D} (h : x ∈ oddL) : Kd x := by
  unfold oddL at h
  simp only [List.mem_cons, List.not_mem_nil, or_false] at h
  rcases h with rfl | rfl | rfl | rfl | rfl | rfl | rfl | rfl | rfl | rfl | rfl | rfl | rfl | rfl | rfl | rfl
  all_goals first
    | (refine .of rfl ?_; intro _ z; cases z; done)
    | exact .tup (Nat.zero_le _) fun x hx => by cases hx
    | exact .tup (Nat.le_of_ble_eq_true rfl) fun x hx => by rw [List.mem_singleton.mp hx]; rfl
theorem oddS_ok {N : Nat} {d v : D} {e2 : Option Ent} (h : Src N d) (hN : N + 1 ≤ 2 ^ 60) (hv : Kd v) : ∃ w d', B_odd_1 [some (.par d), some (.frz v), e2] = .nx [some (.par d'), some (.frz w), e2] ∧ Src (N + 1) d' ∧ Kd w := by
  obtain ⟨i, d', e, s, h0, h1⟩ := drawE (l := 3) [some (.frz v), e2] h (by omega) (by decide) (by decide)
  have ls : fLst (fCons (fTup (fCons (fVar 1) fNil)) (fCons (fLst (fCons (fVar 1) fNil)) (fCons (fDisp1 "a" (fVar 1)) fNil))) [some (.par d), some (.frz v), e2] = .ok (.new (.lst [.tup [v], .lst [v], .dct [(.inr "a", v)]])) [some (.par d), some (.frz v), e2] := rfl
  have out : ∃ w, ixD (.lst [.tup [v], .lst [v], .dct [(.inr "a", v)]]) (.int i) = some (.val w) ∧ Kd w := by
    obtain ⟨k, rfl⟩ := Int.eq_ofNat_of_zero_le h0
    have hk : k = 0 ∨ k = 1 ∨ k = 2 := by omega
    rcases hk with rfl | rfl | rfl
    · exact ⟨_, ixD_l0, .tup (Nat.le_of_ble_eq_true rfl) fun x hx => by rw [List.mem_singleton.mp hx]; exact hv.k1⟩
    · exact ⟨_, ixD_l1, .of rfl fun _ z => by cases z⟩
    · exact ⟨_, ixD_l2, .of rfl fun _ z => by cases z⟩
  obtain ⟨w, hw, kw⟩ := out
  refine ⟨w, d', ?_, s, kw⟩
  unfold B_odd_1
  exact ev_asg (ev_op ls e rfl rfl hw) (gn_to (e := some (.frz v)) rfl .frz rfl)
theorem odd_ok {N : Nat} {d : D} (h : Src N d) (hN : N + 20 ≤ 2 ^ 60) : ∃ v d', fn_odd [d] = .ok (.val v) [d'] ∧ Src (N + 20) d' ∧ Kd v := by
  obtain ⟨v, d1, e1, s1, hv⟩ := choiceE (env := [none, none]) (a := fLst (fCons (fC .non) (fCons (fC (.bl true)) (fCons (fC (.bl false)) (fCons (fC (.int 0)) (fCons (fC (.int 1)) (fCons (fUn negD (fC (.int 1))) (fCons (fOp powD (fC (.int 10)) (fC (.int 20))) (fCons (fC (.str "")) (fCons (fC (.str "a")) (fCons (fC (.str "A")) (fCons (fC (.str "a b")) (fCons (fTup fNil) (fCons (fLst fNil) (fCons fDNew (fCons (fTup (fCons (fC (.str "a")) fNil)) (fCons (fLst (fCons (fC (.str "a")) fNil)) fNil))))))))))))))))) (xs := oddL) h (by omega) (by simp [oddL]) (by decide) rfl
  obtain ⟨k, d2, e2, s2, hk⟩ := choiceE (env := [some (.frz v), none]) (a := fLst (fCons (fC (.int 0)) (fCons (fC (.int 0)) (fCons (fC (.int 0)) (fCons (fC (.int 1)) (fCons (fC (.int 2)) (fCons (fC (.int 16)) fNil))))))) (xs := [.int 0, .int 0, .int 0, .int 1, .int 2, .int 16]) s1 (by omega) (by simp) (by decide) rfl
  have hk2 : ∃ j : Nat, k = .int j ∧ j ≤ 16 := by
    simp only [List.mem_cons, List.not_mem_nil, or_false] at hk
    rcases hk with rfl | rfl | rfl | rfl | rfl | rfl
    · exact ⟨0, rfl, by decide⟩
    · exact ⟨0, rfl, by decide⟩
    · exact ⟨0, rfl, by decide⟩
    · exact ⟨1, rfl, by decide⟩
    · exact ⟨2, rfl, by decide⟩
    · exact ⟨16, rfl, by decide⟩
  obtain ⟨j, rfl, hj⟩ := hk2
  obtain ⟨e, eL, w, d3, e2', rfl, s3, kw, f2⟩ := loop_inv (G := Gname 2) (b := B_odd_1) (fun i e => ∃ w d' e2, e = [some (.par d'), some (.frz w), e2] ∧ Src (N + 2 + i) d' ∧ Kd w ∧ FreeE e2) (rangeL 0 j) (by
    rintro i x e hx ⟨w, d', e2, rfl, s, kw, f2⟩
    obtain ⟨hi, rfl⟩ := rangeL_at hx
    obtain ⟨w', d'', h1, s', kw'⟩ := oddS_ok (e2 := some (.frz (.int (0 + i)))) s (by omega) kw
    exact ⟨_, _, gn_to (e := e2) rfl f2 rfl, h1, w', d'', _, rfl, s', kw', .frz⟩) (env := [some (.par d2), some (.frz v), none]) ⟨v, d2, none, rfl, s2, oddL_ok hv, .none⟩
  have hl : (rangeL 0 j).length = j := by simp [rangeL]
  rw [hl] at s3
  refine ⟨w, d3, ?_, s3.mono (by omega), kw⟩
  unfold fn_odd F_odd
  apply ev_fnR (env' := [some (.par d), none, none]) (t := .val w) (e1 := [some (.par d3), some (.frz w), e2']) rfl
  · refine ev_seq (ev_asg e1 (gn_to (e := none) rfl .none rfl)) rfl (ev_seq (ev_for' (ev_cons e2 ev_nil) (ev_rng1 rfl (by omega) (by omega)) rfl rfl eL rfl) rfl (ev_ret rfl))
  all_goals rfl
/-! ### bent -/
theorem oddE {N : Nat} {d : D} (env : Env) (h : Src N d) (hN : N + 20 ≤ 2 ^ 60) : ∃ v d', fCall [true] fn_odd (fCons (fVar 0) fNil) (some (.par d) :: env) = .ok (.val v) (some (.par d') :: env) ∧ Src (N + 20) d' ∧ Kd v := by
  obtain ⟨v, d', e, s, k⟩ := odd_ok h hN
  exact ⟨v, d', ev_call (ev_cons rfl ev_nil) rfl rfl e rfl, s, k⟩
theorem gtE {N : Nat} {d : D} {l : Int} (env : Env) (h : Src N d) (hn : N ≤ 2 ^ 60) (hl : 0 < l) (hl2 : l ≤ 2 ^ 100) : ∃ b d', fB (fOp gtD (fCall [true, false] fn_draw (fCons (fVar 0) (fCons (fC (.int l)) fNil))) (fC (.int 0))) (some (.par d) :: env) = .ok b (some (.par d') :: env) ∧ Src (N + 1) d' := by
  obtain ⟨i, d', e, s, h0, h1⟩ := drawE env h hn hl hl2
  exact ⟨decide (i > 0), d', ev_B (ev_op e ev_c rfl rfl gtD_i) rfl, s⟩
theorem bentS {j N : Nat} {d : D} {z : Str} (h : Src N d) (hN : N + 40 ≤ 2 ^ 60) (hz : z.length ≤ 1000) : ∃ w d', fn_bent (j + 1) [d, .str z] = .ok (.val w) [d'] ∧ Src (N + 40) d' ∧ Kd w := by
  have i1 : c2 isiD [.str z, .ty "tuple"] = some (.val (.bl false)) := rfl
  have i2 : c2 isiD [.str z, .ty "str"] = some (.val (.bl true)) := rfl
  have cT : ∀ {d' : D} {g : Et}, fAnd (fB (fCB (c2 isiD) (fCons (fVar 1) (fCons (fC (.ty "tuple")) fNil)))) g [some (.par d'), some (.frz (.str z)), none, none] = .ok false [some (.par d'), some (.frz (.str z)), none, none] := fun {d' g} =>
    ev_and (ev_B (ev_cb (ev_cons rfl (ev_cons ev_c ev_nil)) rfl i1) rfl) rfl
  obtain ⟨b, d1, e1, s1⟩ := gtE (l := 3) [some (.frz (.str z)), none, none] h (by omega) (by decide) (by decide)
  have cS : fAnd (fB (fCB (c2 isiD) (fCons (fVar 1) (fCons (fC (.ty "str")) fNil)))) (fB (fOp gtD (fCall [true, false] fn_draw (fCons (fVar 0) (fCons (fC (.int 3)) fNil))) (fC (.int 0)))) [some (.par d), some (.frz (.str z)), none, none] = .ok b [some (.par d1), some (.frz (.str z)), none, none] :=
    ev_and (ev_B (ev_cb (ev_cons rfl (ev_cons ev_c ev_nil)) rfl i2) rfl) e1
  cases b with
  | true =>
    have q1 : addD (.str z) (.str "a") = some (.val (.str (z ++ "a"))) := addD_s (by show z.length + 1 ≤ _; omega)
    have q2 : slD (.str z) (some 1) none = some (.val (.str (cutS z (some 1) none))) := by
      show (if z.length ≤ 1000000 then some (Tok.val (.str (cutS z (some 1) none))) else none) = _
      rw [if_pos (by omega)]
    have q3 : upperD (.str z) = some (.val (.str (Txt.upper z))) := by
      show (if z.length ≤ 1000000 then some (Tok.val (.str (Txt.upper z))) else none) = _
      rw [if_pos (by omega)]
    have q4 : addD (.str z) (.str " ") = some (.val (.str (z ++ " "))) := addD_s (by show z.length + 1 ≤ _; omega)
    have q5 : addD (.str "ab") (.str z) = some (.val (.str ("ab" ++ z))) := addD_s (by show 2 + z.length ≤ _; omega)
    obtain ⟨w, d2, e2, s2, hw⟩ := choiceE (env := [some (.frz (.str z)), none, none]) (a := fLst (fCons (fOp addD (fVar 1) (fC (.str "a"))) (fCons (fSl slD (fVar 1) (some (fC (.int 1))) none) (fCons (fUn upperD (fVar 1)) (fCons (fOp addD (fVar 1) (fC (.str " "))) (fCons (fOp addD (fC (.str "ab")) (fVar 1)) (fCons (fC (.str "pure")) fNil))))))) (xs := [.str (z ++ "a"), .str (cutS z (some 1) none), .str (Txt.upper z), .str (z ++ " "), .str ("ab" ++ z), .str "pure"]) s1 (by omega) (by simp) (Nat.le_of_ble_eq_true rfl) (by
      refine ev_lst (ev_cons (ev_op rfl ev_c rfl rfl q1) (ev_cons (ev_sl rfl (ev_opt1 ev_c rfl) ev_opt0 rfl q2) (ev_cons (ev_un rfl rfl q3) (ev_cons (ev_op rfl ev_c rfl rfl q4) (ev_cons (ev_op ev_c rfl rfl rfl q5) (ev_cons ev_c ev_nil)))))) rfl (Nat.le_of_ble_eq_true rfl))
    refine ⟨w, d2, ?_, s2.mono (by omega), ?_⟩
    · show mkFn [true, false] 2 (F_bent (fn_bent j)) [d, .str z] = _
      unfold F_bent
      apply ev_fnR (env' := [some (.par d), some (.frz (.str z)), none, none]) (t := .val w) (e1 := [some (.par d2), some (.frz (.str z)), none, none]) rfl
      · exact ev_seq (ev_ifS cT ev_next) rfl (ev_seqR (ev_ifS cS (ev_ret e2)))
      all_goals rfl
    · simp only [List.mem_cons, List.not_mem_nil, or_false] at hw
      rcases hw with rfl | rfl | rfl | rfl | rfl | rfl <;> (refine .of rfl ?_; intro _ z; cases z)
  | false =>
    obtain ⟨w, d2, e2, s2, hw⟩ := oddE [some (.frz (.str z)), none, none] s1 (by omega)
    refine ⟨w, d2, ?_, s2.mono (by omega), hw⟩
    show mkFn [true, false] 2 (F_bent (fn_bent j)) [d, .str z] = _
    unfold F_bent
    apply ev_fnR (env' := [some (.par d), some (.frz (.str z)), none, none]) (t := .val w) (e1 := [some (.par d2), some (.frz (.str z)), none, none]) rfl
    · exact ev_seq (ev_ifS cT ev_next) rfl (ev_seq (ev_ifS cS ev_next) rfl (ev_seq (ev_ifS cT ev_next) rfl (ev_ret e2)))
    all_goals rfl
theorem bentT {j N : Nat} {d : D} {ss : List Str} (h : Src N d) (hN : N + 100 ≤ 2 ^ 60) (h0 : ss ≠ []) (hl : ss.length ≤ 60) (hn : ∀ z ∈ ss, NameOk z) : ∃ w d', fn_bent (j + 2) [d, .tup (ss.map D.str)] = .ok (.val w) [d'] ∧ Src (N + 100) d' ∧ Kd w := by
  have i1 : c2 isiD [.tup (ss.map D.str), .ty "tuple"] = some (.val (.bl true)) := rfl
  have i2 : c2 isiD [.tup (ss.map D.str), .ty "str"] = some (.val (.bl false)) := rfl
  have ne : neD (.tup (ss.map D.str)) (.tup []) = some (.val (.bl true)) := by
    have := neD_tt (b := []) hn (fun _ z => by cases z)
    rw [decide_eq_false h0] at this
    exact this
  obtain ⟨b, d1, e1, s1⟩ := gtE (l := 4) [some (.frz (.tup (ss.map D.str))), none, none] h (by omega) (by decide) (by decide)
  have cA : fAnd (fB (fCB (c2 isiD) (fCons (fVar 1) (fCons (fC (.ty "tuple")) fNil)))) (fAnd (fB (fOp neD (fVar 1) (fTup fNil))) (fB (fOp gtD (fCall [true, false] fn_draw (fCons (fVar 0) (fCons (fC (.int 4)) fNil))) (fC (.int 0))))) [some (.par d), some (.frz (.tup (ss.map D.str))), none, none] = .ok b [some (.par d1), some (.frz (.tup (ss.map D.str))), none, none] :=
    ev_and (ev_B (ev_cb (ev_cons rfl (ev_cons ev_c ev_nil)) rfl i1) rfl) (ev_and (ev_B (ev_op rfl rfl rfl rfl ne) rfl) e1)
  have sl : 0 < ss.length := List.length_pos_iff.mpr h0
  cases b with
  | true =>
    obtain ⟨a, d2, e2, s2, a0, a1⟩ := draw_ok (l := ((ss.map D.str).length : Nat)) s1 (by omega) (by simp; omega) (by simp; omega)
    obtain ⟨a, rfl⟩ := Int.eq_ofNat_of_zero_le a0
    have al : a < ss.length := by simp at a1; omega
    obtain ⟨y, d3, e3, s3, y0, y1⟩ := draw_ok (l := 9) s2 (by omega) (by decide) (by decide)
    have par : fPar [2, 3] (fCons (fCall [true, false] fn_draw (fCons (fVar 0) (fCons (fCB lenD (fCons (fVar 1) fNil)) fNil))) (fCons (fCall [true, false] fn_draw (fCons (fVar 0) (fCons (fC (.int 9)) fNil))) fNil)) [some (.par d1), some (.frz (.tup (ss.map D.str))), none, none] = .nx [some (.par d3), some (.frz (.tup (ss.map D.str))), some (.frz (.int a)), some (.frz (.int y))] :=
      ev_par (ev_cons (ev_call (ev_cons rfl (ev_cons (ev_cb (ev_cons rfl ev_nil) rfl lenD_t) ev_nil)) rfl rfl e2 rfl) (ev_cons (ev_call (ev_cons rfl (ev_cons ev_c ev_nil)) rfl rfl e3 rfl) ev_nil)) rfl rfl
    have t1 : slD (.tup (ss.map D.str)) none (some (a : Int)) = some (.val (.tup ((ss.take a).map D.str))) := slD_tk
    have t2 : slD (.tup (ss.map D.str)) none (some ((a : Int) + 1)) = some (.val (.tup ((ss.take (a + 1)).map D.str))) := slD_tk (k := a + 1)
    have t3 : slD (.tup (ss.map D.str)) (some (a : Int)) none = some (.val (.tup ((ss.drop a).map D.str))) := slD_dr
    have t4 : slD (.tup (ss.map D.str)) (some ((a : Int) + 1)) none = some (.val (.tup ((ss.drop (a + 1)).map D.str))) := slD_dr (k := a + 1)
    by_cases y_0 : y = 0
    · subst y_0
      have c : eqD (.int 0) (.int 0) = some (.val (.bl true)) := eqD_i
      have q : addD (.tup ((ss.take a).map D.str)) (.tup ((ss.drop (a + 1)).map D.str)) = some (.val (.tup ((ss.take a ++ ss.drop (a + 1)).map D.str))) := by
        rw [addD_t (by simp; omega), List.map_append]
      refine ⟨.tup ((ss.take a ++ ss.drop (a + 1)).map D.str), d3, ?_, s3.mono (by omega), .strs (by simp; omega)⟩
      show mkFn [true, false] 2 (F_bent (fn_bent (j + 1))) [d, .tup (ss.map D.str)] = _
      unfold F_bent
      apply ev_fnR (env' := [some (.par d), some (.frz (.tup (ss.map D.str))), none, none]) (t := .val (.tup ((ss.take a ++ ss.drop (a + 1)).map D.str))) (e1 := [some (.par d3), some (.frz (.tup (ss.map D.str))), some (.frz (.int a)), some (.frz (.int 0))]) rfl
      · refine ev_seqR (ev_ifS cA (ev_seq par rfl (ev_seqR (ev_ifS (p := true) (ev_B (ev_op rfl ev_c rfl rfl c) rfl) (ev_ret ?_)))))
        exact ev_op (ev_sl rfl ev_opt0 (ev_opt1 rfl rfl) rfl t1) (ev_sl rfl (ev_opt1 (ev_op rfl ev_c rfl rfl addD_i) rfl) ev_opt0 rfl t4) rfl rfl q
      all_goals rfl
    by_cases y_1 : y = 1
    · subst y_1
      have c : eqD (.int 1) (.int 0) = some (.val (.bl false)) := eqD_i
      have c' : eqD (.int 1) (.int 1) = some (.val (.bl true)) := eqD_i
      have q : addD (.tup ((ss.take (a + 1)).map D.str)) (.tup ((ss.drop a).map D.str)) = some (.val (.tup ((ss.take (a + 1) ++ ss.drop a).map D.str))) := by
        rw [addD_t (by simp; omega), List.map_append]
      refine ⟨.tup ((ss.take (a + 1) ++ ss.drop a).map D.str), d3, ?_, s3.mono (by omega), .strs (by simp; omega)⟩
      show mkFn [true, false] 2 (F_bent (fn_bent (j + 1))) [d, .tup (ss.map D.str)] = _
      unfold F_bent
      apply ev_fnR (env' := [some (.par d), some (.frz (.tup (ss.map D.str))), none, none]) (t := .val (.tup ((ss.take (a + 1) ++ ss.drop a).map D.str))) (e1 := [some (.par d3), some (.frz (.tup (ss.map D.str))), some (.frz (.int a)), some (.frz (.int 1))]) rfl
      · refine ev_seqR (ev_ifS cA (ev_seq par rfl (ev_seq (ev_ifS (p := false) (ev_B (ev_op rfl ev_c rfl rfl c) rfl) ev_next) rfl (ev_seqR (ev_ifS (p := true) (ev_B (ev_op rfl ev_c rfl rfl c') rfl) (ev_ret ?_))))))
        exact ev_op (ev_sl rfl ev_opt0 (ev_opt1 (ev_op rfl ev_c rfl rfl addD_i) rfl) rfl t2) (ev_sl rfl (ev_opt1 rfl rfl) ev_opt0 rfl t3) rfl rfl q
      all_goals rfl
    · have c : eqD (.int y) (.int 0) = some (.val (.bl false)) := by rw [eqD_i, decide_eq_false y_0]
      have c' : eqD (.int y) (.int 1) = some (.val (.bl false)) := by rw [eqD_i, decide_eq_false y_1]
      have ix : ixD (.tup (ss.map D.str)) (.int a) = some (.val (.str ss[a])) := by
        rw [ixD_t, atI_nat (a := .str ss[a]) (by rw [List.getElem?_map, List.getElem?_eq_getElem al]; rfl)]
        rfl
      obtain ⟨w, d4, e4, s4, kw⟩ := bentS (j := j) (z := ss[a]) s3 (by omega) (by have := (hn _ (List.getElem_mem al)).2.1; omega)
      have q : addD (.tup ((ss.take a).map D.str)) (.tup [w]) = some (.val (.tup ((ss.take a).map D.str ++ [w]))) := addD_t (by simp; omega)
      have q' : addD (.tup ((ss.take a).map D.str ++ [w])) (.tup ((ss.drop (a + 1)).map D.str)) = some (.val (.tup ((ss.take a).map D.str ++ [w] ++ (ss.drop (a + 1)).map D.str))) := addD_t (by simp; omega)
      have ks : ∀ zs : List Str, ∀ x ∈ zs.map D.str, K1 x = true := fun zs x hx => by
        obtain ⟨z, _, rfl⟩ := List.mem_map.mp hx
        rfl
      refine ⟨.tup ((ss.take a).map D.str ++ [w] ++ (ss.drop (a + 1)).map D.str), d4, ?_, s4.mono (by omega), .tup (by simp; omega) fun x hx => ?_⟩
      · show mkFn [true, false] 2 (F_bent (fn_bent (j + 1))) [d, .tup (ss.map D.str)] = _
        unfold F_bent
        apply ev_fnR (env' := [some (.par d), some (.frz (.tup (ss.map D.str))), none, none]) (t := .val (.tup ((ss.take a).map D.str ++ [w] ++ (ss.drop (a + 1)).map D.str))) (e1 := [some (.par d4), some (.frz (.tup (ss.map D.str))), some (.frz (.int a)), some (.frz (.int y))]) rfl
        · refine ev_seqR (ev_ifS cA (ev_seq par rfl (ev_seq (ev_ifS (p := false) (ev_B (ev_op rfl ev_c rfl rfl c) rfl) ev_next) rfl (ev_seq (ev_ifS (p := false) (ev_B (ev_op rfl ev_c rfl rfl c') rfl) ev_next) rfl (ev_ret ?_)))))
          exact ev_op (ev_op (ev_sl rfl ev_opt0 (ev_opt1 rfl rfl) rfl t1) (ev_tup (ev_cons (ev_call (ev_cons rfl (ev_cons (ev_op rfl rfl rfl rfl ix) ev_nil)) rfl rfl e4 rfl) ev_nil) rfl (Nat.le_of_ble_eq_true rfl)) rfl rfl q) (ev_sl rfl (ev_opt1 (ev_op rfl ev_c rfl rfl addD_i) rfl) ev_opt0 rfl t4) rfl rfl q'
        all_goals rfl
      · rcases List.mem_append.mp hx with hx | hx
        · rcases List.mem_append.mp hx with hx | hx
          · exact ks _ x hx
          · rw [List.mem_singleton.mp hx]
            exact kw.k1
        · exact ks _ x hx
  | false =>
    have cS : ∀ {d' : D} {g : Et}, fAnd (fB (fCB (c2 isiD) (fCons (fVar 1) (fCons (fC (.ty "str")) fNil)))) g [some (.par d'), some (.frz (.tup (ss.map D.str))), none, none] = .ok false [some (.par d'), some (.frz (.tup (ss.map D.str))), none, none] := fun {d' g} =>
      ev_and (ev_B (ev_cb (ev_cons rfl (ev_cons ev_c ev_nil)) rfl i2) rfl) rfl
    obtain ⟨b, d2, e2, s2⟩ := gtE (l := 3) [some (.frz (.tup (ss.map D.str))), none, none] s1 (by omega) (by decide) (by decide)
    have cT : fAnd (fB (fCB (c2 isiD) (fCons (fVar 1) (fCons (fC (.ty "tuple")) fNil)))) (fB (fOp gtD (fCall [true, false] fn_draw (fCons (fVar 0) (fCons (fC (.int 3)) fNil))) (fC (.int 0)))) [some (.par d1), some (.frz (.tup (ss.map D.str))), none, none] = .ok b [some (.par d2), some (.frz (.tup (ss.map D.str))), none, none] :=
      ev_and (ev_B (ev_cb (ev_cons rfl (ev_cons ev_c ev_nil)) rfl i1) rfl) e2
    cases b with
    | true =>
      have q1 : addD (.tup (ss.map D.str)) (.tup (ss.map D.str)) = some (.val (.tup ((ss ++ ss).map D.str))) := by
        rw [addD_t (by simp; omega), List.map_append]
      have q2 : slD (.tup (ss.map D.str)) none (some 1) = some (.val (.tup ((ss.take 1).map D.str))) := slD_tk (k := 1)
      obtain ⟨w, d3, e3, s3, hw⟩ := choiceE (env := [some (.frz (.tup (ss.map D.str))), none, none]) (a := fLst (fCons (fCB (c1 listD) (fCons (fVar 1) fNil)) (fCons (fRevT (fVar 1)) (fCons (fOp addD (fVar 1) (fVar 1)) (fCons (fSl slD (fVar 1) none (some (fC (.int 1)))) (fCons (fTup (fCons (fVar 1) fNil)) fNil)))))) (xs := [.lst (ss.map D.str), .tup (ss.map D.str).reverse, .tup ((ss ++ ss).map D.str), .tup ((ss.take 1).map D.str), .tup [.tup (ss.map D.str)]]) s2 (by omega) (by simp) (Nat.le_of_ble_eq_true rfl) (by
        refine ev_lst (ev_cons rfl (ev_cons rfl (ev_cons (ev_op rfl rfl rfl rfl q1) (ev_cons (ev_sl rfl ev_opt0 (ev_opt1 ev_c rfl) rfl q2) (ev_cons (ev_tup (ev_cons rfl ev_nil) rfl (Nat.le_of_ble_eq_true rfl)) ev_nil))))) rfl (Nat.le_of_ble_eq_true rfl))
      refine ⟨w, d3, ?_, s3.mono (by omega), ?_⟩
      · show mkFn [true, false] 2 (F_bent (fn_bent (j + 1))) [d, .tup (ss.map D.str)] = _
        unfold F_bent
        apply ev_fnR (env' := [some (.par d), some (.frz (.tup (ss.map D.str))), none, none]) (t := .val w) (e1 := [some (.par d3), some (.frz (.tup (ss.map D.str))), none, none]) rfl
        · exact ev_seq (ev_ifS cA ev_next) rfl (ev_seq (ev_ifS cS ev_next) rfl (ev_seqR (ev_ifS cT (ev_ret e3))))
        all_goals rfl
      · simp only [List.mem_cons, List.not_mem_nil, or_false] at hw
        rcases hw with rfl | rfl | rfl | rfl | rfl
        · refine .of rfl ?_
          intro _ z
          cases z
        · rw [← List.map_reverse]
          exact .strs (by simp; omega)
        · exact .strs (by simp; omega)
        · exact .strs (by simp; omega)
        · exact .tup (Nat.le_of_ble_eq_true rfl) fun x hx => by rw [List.mem_singleton.mp hx]; rfl
    | false =>
      obtain ⟨w, d3, e3, s3, hw⟩ := oddE [some (.frz (.tup (ss.map D.str))), none, none] s2 (by omega)
      refine ⟨w, d3, ?_, s3.mono (by omega), hw⟩
      show mkFn [true, false] 2 (F_bent (fn_bent (j + 1))) [d, .tup (ss.map D.str)] = _
      unfold F_bent
      apply ev_fnR (env' := [some (.par d), some (.frz (.tup (ss.map D.str))), none, none]) (t := .val w) (e1 := [some (.par d3), some (.frz (.tup (ss.map D.str))), none, none]) rfl
      · exact ev_seq (ev_ifS cA ev_next) rfl (ev_seq (ev_ifS cS ev_next) rfl (ev_seq (ev_ifS cT ev_next) rfl (ev_ret e3)))
      all_goals rfl
end FL

set_option Elab.async false
set_option linter.all false
set_option maxRecDepth 100000
set_option maxHeartbeats 4000000
set_option exponentiation.threshold 100000
/-! PF: repr of projects; projects as drawn. -/
namespace FL
open PySem PySem.Spec PyProof.Rows L2 GL RM
local macro_rules | `(tactic| walk_at "ev") => `(tactic| repeat' (first
  | (show _ = _; with_reducible assumption)
  | with_reducible exact ev_c | with_reducible exact ev_nil | with_reducible exact ev_yes | with_reducible exact ev_next | with_reducible exact ev_break | with_reducible exact ev_cont | with_reducible exact ev_retN | with_reducible exact ev_opt0
  | with_reducible apply ev_var | with_reducible apply ev_op | with_reducible apply ev_un | with_reducible apply ev_cb | with_reducible apply ev_cons | with_reducible apply ev_tup | with_reducible apply ev_lst
  | with_reducible apply ev_B | with_reducible apply ev_not | with_reducible apply ev_and | with_reducible apply ev_or | with_reducible apply ev_andV | with_reducible apply ev_orV | with_reducible apply ev_notV | with_reducible apply ev_if
  | with_reducible apply ev_opt1 | with_reducible apply ev_sl | with_reducible apply ev_call | with_reducible apply ev_mut
  | with_reducible apply ev_dput | with_reducible apply ev_star | with_reducible apply ev_lenSet | with_reducible apply ev_callV | with_reducible apply ev_chainT | with_reducible apply ev_extend
  | with_reducible apply ev_seq | with_reducible apply ev_ret | with_reducible apply ev_drop | with_reducible apply ev_ifS | with_reducible apply ev_asg | with_reducible apply ev_par | with_reducible apply ev_aug | with_reducible apply ev_sub
  | with_reducible refine ev_nT ?_ | with_reducible refine ev_nF ?_
  | with_reducible refine ev_dT (by first | assumption | omega) ?_ | with_reducible refine ev_dF (by first | assumption | omega) ?_ | with_reducible refine ev_T (by first | rfl | assumption) ?_ | with_reducible refine ev_F (by first | rfl | assumption) ?_
  | with_reducible exact addD_i | with_reducible exact subD_i | with_reducible exact ltD_i | with_reducible exact leD_i | with_reducible exact ixD_l0 | with_reducible exact ixD_l1 | with_reducible exact ixD_l2 | with_reducible exact ixD_t0 | with_reducible exact ixD_t1 | with_reducible exact ixD_t2
  | with_reducible apply modD_i | with_reducible apply divD_i | with_reducible apply mulD_p
  | with_reducible apply ev_rng1 | with_reducible apply ev_rng2 | with_reducible apply ev_for' | with_reducible apply ev_lc | with_reducible apply ev_dc | with_reducible apply ev_turn | with_reducible exact ev_turn0 | with_reducible apply ev_lcB | with_reducible apply ev_dcB
  | with_reducible apply gn_val | with_reducible apply gn_new | with_reducible apply g_tup | with_reducible apply gall_cons | with_reducible exact gall_nil | with_reducible apply stores_cons | with_reducible exact stores_nil
  | with_reducible exact FreeE.none | with_reducible exact FreeE.frz | with_reducible exact FreeE.own | (show FreeE _; assumption)
  | with_reducible exact ixN_0 | with_reducible exact ixN_1 | with_reducible exact ixN_2
  | (show _ = _; dsimp only [Ent.val, Ent.put, Ent.tok]; with_reducible assumption)
  | (show turnsF _ _ _ _ _ _ _ = _; assumption) | (show loopF _ _ _ _ = _; assumption)
  | (show (_ : Env) = _; first | (dsimp only [startE, List.replicate, List.append_eq, List.cons_append, List.nil_append, List.set_cons_zero, List.set_cons_succ, List.getElem?_cons_zero, List.getElem?_cons_succ, Ent.put, Ent.val, Ent.tok, backs, lockAll, lockT, unlockAll, unlock, List.foldr, rest, wipeE, Option.join] <;> rfl) | rfl)
  | (show List.length _ ≤ _; exact Nat.le_of_ble_eq_true rfl) | (show _ < _; omega) | (show _ ≤ _; omega)
  | rfl))
def modP (m : Mod) : PyData := .tuple [.str m.name, sTup m.imps, .str (kindS m.eff)]
def projP (p : List Mod) : PyData := .tuple (p.map modP)
theorem toP_mod (m : Mod) : toP (modV m) = some (modP m) := by simp [modV, toP, toPs, toPs_strs, modP, sTup]
theorem toPs_mods (p : List Mod) : toPs (p.map modV) = some (p.map modP) := by
  induction p with
  | nil => rfl
  | cons m r ih => simp only [List.map_cons, toPs, toP_mod, ih]
theorem toP_proj (p : List Mod) : toP (projV p) = some (projP p) := by simp only [projV, toP, toPs_mods, projP]
theorem good_modP {m : Mod} (h1 : NameOk m.name) (h2 : ∀ i ∈ m.imps, NameOk i) : good (modP m) = true := by
  have hk : good (.str (kindS m.eff)) = true := by cases m.eff <;> decide +kernel
  have hi := good_sTup h2
  simp only [modP, good, goodAll, Bool.and_eq_true, Bool.and_true]
  exact ⟨good_name h1, hi, hk⟩
theorem depth_modP (m : Mod) : (modP m).depth ≤ 2 := by
  have := depth_sTup m.imps
  simp only [modP, PyData.depth, PyData.depthAll]
  omega
theorem depth_projP (p : List Mod) : (projP p).depth ≤ 3 := by
  have : PyData.depthAll (p.map modP) ≤ 2 := depthAll_le fun x hx => by
    obtain ⟨m, _, rfl⟩ := List.mem_map.mp hx
    exact depth_modP m
  simp only [projP, PyData.depth]
  omega
theorem weight_modP {m : Mod} (h1 : NameOk m.name) (h2 : ∀ i ∈ m.imps, NameOk i) (h3 : m.imps.length ≤ 60) : (modP m).weight ≤ 700 := by
  have a : PyData.weightAll (m.imps.map .str) ≤ (m.imps.map PyData.str).length * (10 + 1) := weightAll_le fun x hx => by
    obtain ⟨z, hz, rfl⟩ := List.mem_map.mp hx
    exact (h2 z hz).2.1
  rw [List.length_map] at a
  have b : m.name.cps.size ≤ 10 := h1.2.1
  have c : (kindS m.eff).cps.size ≤ 6 := by cases m.eff <;> decide +kernel
  simp only [modP, sTup, PyData.weight, PyData.weightAll]
  omega
theorem repr_proj {p : List Mod} (wf : Wf p) (nm : Nm p) : c1 reprD [projV p] = some (.val (.str (projP p).shown)) := by
  have ni : ∀ m ∈ p, ∀ i ∈ m.imps, NameOk i := fun m hm i hi => nm i (wf.inn m hm i hi)
  have g : good (projP p) = true := by
    simp only [projP, good]
    refine good_all_of fun x hx => ?_
    obtain ⟨m, hm, rfl⟩ := List.mem_map.mp hx
    exact good_modP (nm _ (List.mem_map_of_mem hm)) (ni m hm)
  have w : (projP p).weight ≤ 42060 := by
    have a : PyData.weightAll (p.map modP) ≤ (p.map modP).length * (700 + 1) := weightAll_le fun x hx => by
      obtain ⟨m, hm, rfl⟩ := List.mem_map.mp hx
      exact weight_modP (nm _ (List.mem_map_of_mem hm)) (ni m hm) (wf.il m hm)
    rw [List.length_map] at a
    have b := wf.pl
    have c : p.length * 701 ≤ 60 * 701 := Nat.mul_le_mul_right _ b
    simp only [projP, PyData.weight]
    omega
  obtain ⟨a, b, c, _⟩ := good_ok _ g
  have l := PyData.shown_le 13 (by decide) (projP p) c
  have dp := depth_projP p
  simp only [c1, reprD, toP_proj]
  rw [if_pos ⟨a, b, by omega, by omega⟩]
theorem Asc.nodup {ys : List Str} (h : Asc ys) : ys.Nodup := h.imp fun {a b} hl e => by
  subst e
  have : ¬ a.cps.toList < a.cps.toList := List.lt_irrefl _
  unfold sLt at hl
  simp [this] at hl
theorem ProjOk.wf {p : List Mod} (h : ProjOk p) (pl : p.length ≤ 60) (il : ∀ m ∈ p, m.imps.length ≤ 60) : Wf p := ⟨h.asc.nodup, h.inn, pl, il⟩
theorem ProjOk.nms {p : List Mod} (h : ProjOk p) : Nm p := fun n hn => by
  obtain ⟨m, hm, rfl⟩ := List.mem_map.mp hn
  exact h.nm m hm
end FL

set_option Elab.async false
set_option linter.all false
set_option maxRecDepth 100000
set_option maxHeartbeats 4000000
set_option exponentiation.threshold 100000
/-! Q04a: the law's defs over pure values. -/
namespace FL.Ck04
open PySem PySem.Spec PyProof.Rows L2 GL RM FL
local macro_rules | `(tactic| walk_at "ev") => `(tactic| repeat' (first
  | (show _ = _; with_reducible assumption)
  | with_reducible exact ev_c | with_reducible exact ev_nil | with_reducible exact ev_yes | with_reducible exact ev_next | with_reducible exact ev_break | with_reducible exact ev_cont | with_reducible exact ev_retN | with_reducible exact ev_opt0
  | with_reducible apply ev_var | with_reducible apply ev_op | with_reducible apply ev_un | with_reducible apply ev_cb | with_reducible apply ev_cons | with_reducible apply ev_tup | with_reducible apply ev_lst
  | with_reducible apply ev_B | with_reducible apply ev_not | with_reducible apply ev_and | with_reducible apply ev_or | with_reducible apply ev_andV | with_reducible apply ev_orV | with_reducible apply ev_notV | with_reducible apply ev_if
  | with_reducible apply ev_opt1 | with_reducible apply ev_sl | with_reducible apply ev_call | with_reducible apply ev_mut
  | with_reducible apply ev_dput | with_reducible apply ev_star | with_reducible apply ev_lenSet | with_reducible apply ev_callV | with_reducible apply ev_chainT | with_reducible apply ev_extend
  | with_reducible apply ev_seq | with_reducible apply ev_ret | with_reducible apply ev_drop | with_reducible apply ev_ifS | with_reducible apply ev_asg | with_reducible apply ev_par | with_reducible apply ev_aug | with_reducible apply ev_sub
  | with_reducible refine ev_nT ?_ | with_reducible refine ev_nF ?_
  | with_reducible refine ev_dT (by first | assumption | omega) ?_ | with_reducible refine ev_dF (by first | assumption | omega) ?_ | with_reducible refine ev_T (by first | rfl | assumption) ?_ | with_reducible refine ev_F (by first | rfl | assumption) ?_
  | with_reducible exact addD_i | with_reducible exact subD_i | with_reducible exact ltD_i | with_reducible exact leD_i | with_reducible exact ixD_l0 | with_reducible exact ixD_l1 | with_reducible exact ixD_l2 | with_reducible exact ixD_t0 | with_reducible exact ixD_t1 | with_reducible exact ixD_t2
  | with_reducible apply modD_i | with_reducible apply divD_i | with_reducible apply mulD_p
  | with_reducible apply ev_rng1 | with_reducible apply ev_rng2 | with_reducible apply ev_for' | with_reducible apply ev_lc | with_reducible apply ev_dc | with_reducible apply ev_turn | with_reducible exact ev_turn0 | with_reducible apply ev_lcB | with_reducible apply ev_dcB
  | with_reducible apply gn_val | with_reducible apply gn_new | with_reducible apply g_tup | with_reducible apply gall_cons | with_reducible exact gall_nil | with_reducible apply stores_cons | with_reducible exact stores_nil
  | with_reducible exact FreeE.none | with_reducible exact FreeE.frz | with_reducible exact FreeE.own | (show FreeE _; assumption)
  | with_reducible exact ixN_0 | with_reducible exact ixN_1 | with_reducible exact ixN_2
  | (show _ = _; dsimp only [Ent.val, Ent.put, Ent.tok]; with_reducible assumption)
  | (show turnsF _ _ _ _ _ _ _ = _; assumption) | (show loopF _ _ _ _ = _; assumption)
  | (show (_ : Env) = _; first | (dsimp only [startE, List.replicate, List.append_eq, List.cons_append, List.nil_append, List.set_cons_zero, List.set_cons_succ, List.getElem?_cons_zero, List.getElem?_cons_succ, Ent.put, Ent.val, Ent.tok, backs, lockAll, lockT, unlockAll, unlock, List.foldr, rest, wipeE, Option.join] <;> rfl) | rfl)
  | (show List.length _ ≤ _; exact Nat.le_of_ble_eq_true rfl) | (show _ < _; omega) | (show _ ≤ _; omega)
  | rfl))
def B_has_cycle_1 : Sf :=
  (fSeq (fAsg (fLcK 1  (Gname 4) (fNot (fB (fCB (c1 anyD) (fCons (fLc (fCons (fOp ixD (fVar 1) (fVar 4)) fNil) seqIt (Gname 5) fYes (fOp inD (fVar 5) (fVar 1)) [5]) fNil)))) (fVar 4) [4]) (Gname 2))
    (fSeq (fIfS (fB (fOp eqD (fVar 2) (fLst fNil))) (fRet (fC (.bl true))) fNext)
    (fAsg (fCB (c1 dictP) (fCons (fLcK 1  (Gname 4) (fB (fOp notInD (fVar 4) (fVar 2))) (fTup (fCons (fVar 4) (fCons (fOp ixD (fVar 1) (fVar 4)) fNil))) [4]) fNil)) (Gname 1))))
def F_has_cycle : Sf :=
  (fSeq (fAsg (fCB (c1 dictP) (fCons (fLc (fCons (fVar 0) fNil) seqIt (Gname 3) fYes (fTup (fCons (fOp ixD (fVar 3) (fC (.int 0))) (fCons (fOp ixD (fVar 3) (fC (.int 1))) fNil))) [3]) fNil)) (Gname 1))
    (fSeq (fWhile (fB (fOp neD (fVar 1) fDNew)) B_has_cycle_1)
    (fRet (fC (.bl false)))))
def fn_has_cycle : Fn := mkFn [false] 5 F_has_cycle
def F_is_row : Sf :=
  (fSeq (fAsg (fLc (fCons (fVar 0) fNil) seqIt (Gname 3) fYes (fOp ixD (fVar 3) (fC (.int 0))) [3]) (Gname 2))
    (fSeq (fIfS (fOr (fNot (fB (fCB (c2 isiD) (fCons (fVar 1) (fCons (fC (.ty "tuple")) fNil))))) (fOr (fB (fOp eqZ (fVar 1) (fTup fNil))) (fNot (fB (fCB (c1 allD) (fCons (fLc (fCons (fVar 1) fNil) seqIt (Gname 4) fYes (fCB (c2 isiD) (fCons (fVar 4) (fCons (fC (.ty "str")) fNil))) [4]) fNil)))))) (fRet (fC (.bl false))) fNext)
    (fSeq (fIfS (fNot (fB (fCB (c1 allD) (fCons (fLc (fCons (fVar 1) fNil) seqIt (Gname 4) fYes (fOp inD (fVar 4) (fVar 2)) [4]) fNil)))) (fRet (fC (.bl false))) fNext)
    (fRet (fCB (c1 allD) (fCons (fLc (fCons (fVar 1) (fCons (fOp addD (fSl slD (fVar 1) (some (fC (.int 1))) none) (fSl slD (fVar 1) none (some (fC (.int 1))))) fNil)) zipItB (Gtup [(Gname 4), (Gname 5)]) fYes (fOp inD (fVar 5) (fCall [false, false] fn_imports (fCons (fVar 0) (fCons (fVar 4) fNil)))) [4, 5]) fNil))))))
def fn_is_row : Fn := mkFn [false, false] 4 F_is_row
def B_walk_1 : Sf :=
  (fSeq (fAsg (fCall [false, false] fn_imports (fCons (fVar 1) (fCons (fOp ixD (fVar 2) (fUn negD (fC (.int 1)))) fNil))) (Gname 4))
    (fIfS (fB (fOp neD (fVar 4) (fTup fNil))) (fDrop (fMutL mAppend (fVar 2) (fCons (fCall [true, false] fn_choice (fCons (fVar 0) (fCons (fVar 4) fNil))) fNil))) fNext))
def F_walk : Sf :=
  (fSeq (fAsg (fLst (fCons (fOp ixD (fCall [true, false] fn_choice (fCons (fVar 0) (fCons (fVar 1) fNil))) (fC (.int 0))) fNil)) (Gname 2))
    (fSeq (fFor (fCons (fCall [true, false] fn_draw (fCons (fVar 0) (fCons (fC (.int 9)) fNil))) fNil) rng1 (Gname 3) B_walk_1)
    (fRet (fCB (c1 tupleD) (fCons (fVar 2) fNil)))))
def fn_walk : Fn := mkFn [true, false] 3 F_walk
def F_right : Sf :=
  (fSeq (fAsg (fTup (fCons (fCB (c1 reprD) (fCons (fVar 1) fNil)) (fCons (fCall [false] fn_cycle (fCons (fVar 1) fNil)) fNil))) (Gtup [(Gname 2), (Gname 3)]))
    (fSeq (fIfS (fB (fOp eqD (fOp isD (fVar 3) (fC .non)) (fCall [false] fn_has_cycle (fCons (fVar 1) fNil)))) (fRet (fC (.bl false))) fNext)
    (fSeq (fAsg (fOp addD (fLc (fCons (fC (.int 6)) fNil) rng1 (Gname 5) fYes (fCall [true, false] fn_walk (fCons (fVar 0) (fCons (fVar 1) fNil))) [5]) (fLst (fCons (fTup fNil) (fCons (fC .non) (fCons (fC (.bl true)) (fCons (fC (.str "")) (fCons (fLst fNil) (fCons fDNew (fCons (fCall [true] fn_odd (fCons (fVar 0) fNil)) (fCons (fTup (fCons (fTup fNil) fNil)) fNil)))))))))) (Gname 4))
    (fSeq (fIfS (fB (fOp isNotD (fVar 3) (fC .non))) (fSeq (fIfS (fOr (fNot (fB (fCall [false, false] fn_is_row (fCons (fVar 1) (fCons (fVar 3) fNil))))) (fB (fOp isNotD (fCall [false, false] fn_shows_cycle (fCons (fVar 1) (fCons (fVar 3) fNil))) (fC (.bl true))))) (fRet (fC (.bl false))) fNext)
    (fSeq (fAsg (fOp addD (fVar 4) (fLst (fCons (fVar 3) (fCons (fOp mulD (fVar 3) (fC (.int 2))) (fCons (fOp addD (fSl slD (fVar 3) (some (fC (.int 1))) none) (fSl slD (fVar 3) none (some (fC (.int 1))))) (fCons (fRevT (fVar 3)) (fCons (fSl slD (fVar 3) none (some (fUn negD (fC (.int 1))))) (fCons (fCB (c1 listD) (fCons (fVar 3) fNil)) (fCons (fOp addD (fVar 3) (fSl slD (fVar 3) none (some (fC (.int 1))))) fNil))))))))) (Gname 4))
    (fAsg (fOp addD (fVar 4) (fLc (fCons (fC (.int 6)) fNil) rng1 (Gname 5) fYes (fCall [true, false] (fn_bent 8) (fCons (fVar 0) (fCons (fVar 3) fNil))) [5])) (Gname 4)))) fNext)
    (fSeq (fIfS (fNot (fB (fCB (c1 allD) (fCons (fLc (fCons (fVar 4) fNil) seqIt (Gname 6) fYes (fOp eqR (fCB (c1 reprD) (fCons (fCall [false, false] fn_shows_cycle (fCons (fVar 1) (fCons (fVar 6) fNil))) fNil)) (fCB (c1 reprD) (fCons (fCall [false, false] fn_is_row (fCons (fVar 1) (fCons (fVar 6) fNil))) fNil))) [6]) fNil)))) (fRet (fC (.bl false))) fNext)
    (fRet (fOp eqR (fCB (c1 reprD) (fCons (fVar 1) fNil)) (fVar 2))))))))
def fn_right : Fn := mkFn [true, false] 5 F_right
def B_law_1 : Sf :=
  (fIfS (fNot (fB (fCall [true, false] fn_right (fCons (fVar 2) (fCons (fCall [true, false, false] fn_project (fCons (fVar 2) (fCons (fC (.int 10)) (fCons (fC (.int 6)) fNil)))) fNil))))) (fRet (fC (.bl false))) fNext)
def B_law_2 : Sf :=
  (fSeq (fAsg (fCall [false, false] fn_start (fCons (fVar 0) (fCons (fVar 1) fNil))) (Gname 2))
    (fSeq (fFor (fCons (fC (.int 6)) fNil) rng1 (Gname 3) B_law_1)
    (fIfS (fOr (fB (fOp isNotD (fCall [false] fn_cycle (fCons (fTup fNil) fNil)) (fC .non))) (fB (fOp isNotD (fCall [false, false] fn_shows_cycle (fCons (fTup fNil) (fCons (fTup fNil) fNil))) (fC (.bl false))))) (fRet (fC (.bl false))) fNext)))
def F_law : Sf :=
  (fSeq (fFor (fCons (fCB (c2 max2) (fCons (fC (.int 1)) (fCons (fCB (c2 min2) (fCons (fC (.int 3)) (fCons (fCB lenD (fCons (fVar 0) fNil)) fNil))) fNil))) fNil) rng1 (Gname 1) B_law_2)
    (fRet (fC (.bl true))))
def fn_law : Fn := mkFn [false] 3 F_law
/-! ### is_row -/
theorem is_row_ok {p : List Mod} {v : D} (wf : Wf p) (nm : Nm p) (hv : Kd v) : fn_is_row [projV p, v] = .ok (.val (.bl (isRow p v))) [] := by
  have pl := wf.pl
  have it := isi_tup hv.k1
  have t0 := turns_mapA (G := Gname 3) (ft := fYes) (fe := fOp ixD (fVar 3) (fC (.int 0))) (vs := [3]) modV (fun _ => true) (fun m => D.str m.name) p [some (.frz (projV p)), some (.frz v), none, none, none, none] (by omega) (by
    intro m hm
    exact ⟨[some (.frz (projV p)), some (.frz v), none, some (.frz (modV m)), none, none], rfl, rfl, rfl, fun _ => ⟨.val (.str m.name), ev_op rfl ev_c rfl rfl ixD_m0, rfl⟩⟩)
  rw [List.filter_eq_self.mpr fun _ _ => rfl] at t0
  have enm : p.map (fun m => D.str m.name) = (nms p).map D.str := by
    unfold nms
    rw [List.map_map]
    rfl
  rw [enm] at t0
  have s1 : fAsg (fLc (fCons (fVar 0) fNil) seqIt (Gname 3) fYes (fOp ixD (fVar 3) (fC (.int 0))) [3]) (Gname 2) [some (.frz (projV p)), some (.frz v), none, none, none, none] = .nx [some (.frz (projV p)), some (.frz v), some (.own (.lst ((nms p).map D.str))), none, none, none] :=
    ev_asg (ev_lc (toks := [.val (projV p)]) (e1 := [some (.frz (projV p)), some (.frz v), none, none, none, none]) (js := []) (ev_cons rfl ev_nil) rfl rfl rfl rfl rfl t0 rfl) (gn_new rfl .none)
  by_cases ht : isT v = true
  · cases v with
    | tup xs =>
      obtain ⟨xl, k1⟩ := hv.it xs rfl
      have it2 : c2 isiD [.tup xs, .ty "tuple"] = some (.val (.bl true)) := it
      have ez := eqZ_t (xs := xs)
      have nt : fNot (fB (fCB (c2 isiD) (fCons (fVar 1) (fCons (fC (.ty "tuple")) fNil)))) [some (.frz (projV p)), some (.frz (.tup xs)), some (.own (.lst ((nms p).map D.str))), none, none, none] = .ok false [some (.frz (projV p)), some (.frz (.tup xs)), some (.own (.lst ((nms p).map D.str))), none, none, none] :=
        ev_not (p := true) (ev_B (ev_cb (ev_cons rfl (ev_cons ev_c ev_nil)) rfl it2) rfl)
      have ez2 : fB (fOp eqZ (fVar 1) (fTup fNil)) [some (.frz (projV p)), some (.frz (.tup xs)), some (.own (.lst ((nms p).map D.str))), none, none, none] = .ok xs.isEmpty [some (.frz (projV p)), some (.frz (.tup xs)), some (.own (.lst ((nms p).map D.str))), none, none, none] :=
        ev_B (ev_op rfl rfl rfl rfl ez) rfl
      cases em : xs.isEmpty with
      | true =>
        rw [em] at ez2
        have er : isRow p (.tup xs) = false := by simp [isRow, em]
        rw [er]
        unfold fn_is_row F_is_row
        apply ev_fnR (env' := [some (.frz (projV p)), some (.frz (.tup xs)), none, none, none, none]) (t := .val (.bl false)) (e1 := [some (.frz (projV p)), some (.frz (.tup xs)), some (.own (.lst ((nms p).map D.str))), none, none, none]) rfl
        · exact ev_seq s1 rfl (ev_seqR (ev_ifS (p := true) (ev_or nt (ev_or ez2 rfl)) (ev_ret ev_c)))
        all_goals rfl
      | false =>
        rw [em] at ez2
        have t1 := turns_mapA (G := Gname 4) (ft := fYes) (fe := fCB (c2 isiD) (fCons (fVar 4) (fCons (fC (.ty "str")) fNil))) (vs := [4]) id (fun _ => true) (fun d => D.bl (isS d)) xs [some (.frz (projV p)), some (.frz (.tup xs)), some (.own (.lst ((nms p).map D.str))), none, none, none] (by omega) (by
          intro d hd
          exact ⟨[some (.frz (projV p)), some (.frz (.tup xs)), some (.own (.lst ((nms p).map D.str))), none, some (.frz d), none], gn_to rfl .none rfl, rfl, rfl, fun _ => ⟨.val (.bl (isS d)), ev_cb (ev_cons rfl (ev_cons ev_c ev_nil)) rfl (isi_str (k1 d hd)), rfl⟩⟩)
        rw [List.map_id, List.filter_eq_self.mpr fun _ _ => rfl] at t1
        have al := allD_map (xs := xs) (f := isS)
        have c1' : fNot (fB (fCB (c1 allD) (fCons (fLc (fCons (fVar 1) fNil) seqIt (Gname 4) fYes (fCB (c2 isiD) (fCons (fVar 4) (fCons (fC (.ty "str")) fNil))) [4]) fNil))) [some (.frz (projV p)), some (.frz (.tup xs)), some (.own (.lst ((nms p).map D.str))), none, none, none] = .ok (!xs.all isS) [some (.frz (projV p)), some (.frz (.tup xs)), some (.own (.lst ((nms p).map D.str))), none, none, none] :=
          ev_not (ev_B (ev_cb (ev_cons (ev_lc (toks := [.val (.tup xs)]) (e1 := [some (.frz (projV p)), some (.frz (.tup xs)), some (.own (.lst ((nms p).map D.str))), none, none, none]) (js := []) (ev_cons rfl ev_nil) rfl rfl rfl rfl rfl t1 rfl) ev_nil) rfl al) rfl)
        cases ea : xs.all isS with
        | false =>
          rw [ea] at c1'
          have er : isRow p (.tup xs) = false := by
            have : (xs.all fun d => isS d && decide (unS d ∈ nms p)) = false := by
              rw [Bool.eq_false_iff]
              intro z
              rw [List.all_eq_true] at z
              rw [Bool.eq_false_iff] at ea
              refine ea (List.all_eq_true.mpr fun d hd => ?_)
              have := z d hd
              simp only [Bool.and_eq_true] at this
              exact this.1
            simp [isRow, this]
          rw [er]
          unfold fn_is_row F_is_row
          apply ev_fnR (env' := [some (.frz (projV p)), some (.frz (.tup xs)), none, none, none, none]) (t := .val (.bl false)) (e1 := [some (.frz (projV p)), some (.frz (.tup xs)), some (.own (.lst ((nms p).map D.str))), none, none, none]) rfl
          · exact ev_seq s1 rfl (ev_seqR (ev_ifS (p := true) (ev_or nt (ev_or ez2 c1')) (ev_ret ev_c)))
          all_goals rfl
        | true =>
          rw [ea] at c1'
          have er : isRow p (.tup xs) = ((xs.map unS).all (fun z => decide (z ∈ nms p)) && rowB p (xs.map unS)) := by
            have : (xs.all fun d => isS d && decide (unS d ∈ nms p)) = (xs.map unS).all (fun z => decide (z ∈ nms p)) := by
              rw [List.all_map, Bool.eq_iff_iff, List.all_eq_true, List.all_eq_true]
              rw [List.all_eq_true] at ea
              constructor
              · intro h d hd
                have := h d hd
                simp only [Bool.and_eq_true] at this
                exact this.2
              · intro h d hd
                rw [ea d hd]
                exact h d hd
            simp only [isRow, em, this]
            rfl
          rw [er]
          have hss := strs_of ea
          have sl : (xs.map unS).length ≤ 1000 := by simpa using xl
          generalize xs.map unS = ss at hss sl ⊢
          subst hss
          have t2 := turns_mapA (G := Gname 4) (ft := fYes) (fe := fOp inD (fVar 4) (fVar 2)) (vs := [4]) D.str (fun _ => true) (fun z => D.bl (decide (z ∈ nms p))) ss [some (.frz (projV p)), some (.frz (.tup (ss.map D.str))), some (.own (.lst ((nms p).map D.str))), none, none, none] (by omega) (by
            intro z hz
            exact ⟨[some (.frz (projV p)), some (.frz (.tup (ss.map D.str))), some (.own (.lst ((nms p).map D.str))), none, some (.frz (.str z)), none], gn_to rfl .none rfl, rfl, rfl, fun _ => ⟨.val (.bl (decide (z ∈ nms p))), ev_op rfl rfl rfl rfl inD_l, rfl⟩⟩)
          rw [List.filter_eq_self.mpr fun _ _ => rfl] at t2
          have al2 := allD_map (xs := ss) (f := fun z => decide (z ∈ nms p))
          have c2' : fNot (fB (fCB (c1 allD) (fCons (fLc (fCons (fVar 1) fNil) seqIt (Gname 4) fYes (fOp inD (fVar 4) (fVar 2)) [4]) fNil))) [some (.frz (projV p)), some (.frz (.tup (ss.map D.str))), some (.own (.lst ((nms p).map D.str))), none, none, none] = .ok (!ss.all fun z => decide (z ∈ nms p)) [some (.frz (projV p)), some (.frz (.tup (ss.map D.str))), some (.own (.lst ((nms p).map D.str))), none, none, none] :=
            ev_not (ev_B (ev_cb (ev_cons (ev_lc (toks := [.val (.tup (ss.map D.str))]) (e1 := [some (.frz (projV p)), some (.frz (.tup (ss.map D.str))), some (.own (.lst ((nms p).map D.str))), none, none, none]) (js := []) (ev_cons rfl ev_nil) rfl rfl rfl rfl rfl t2 rfl) ev_nil) rfl al2) rfl)
          cases eb : ss.all fun z => decide (z ∈ nms p) with
          | false =>
            rw [eb] at c2'
            unfold fn_is_row F_is_row
            apply ev_fnR (env' := [some (.frz (projV p)), some (.frz (.tup (ss.map D.str))), none, none, none, none]) (t := .val (.bl false)) (e1 := [some (.frz (projV p)), some (.frz (.tup (ss.map D.str))), some (.own (.lst ((nms p).map D.str))), none, none, none]) rfl
            · exact ev_seq s1 rfl (ev_seq (ev_ifS (p := false) (ev_or nt (ev_or ez2 c1')) ev_next) rfl (ev_seqR (ev_ifS c2' (ev_ret ev_c))))
            all_goals rfl
          | true =>
            rw [eb] at c2'
            have inn : ∀ z ∈ ss, z ∈ nms p := fun z hz => of_decide_eq_true (List.all_eq_true.mp eb z hz)
            have ta := turn_add sl (env := [some (.frz (projV p)), some (.frz (.tup (ss.map D.str))), some (.own (.lst ((nms p).map D.str))), none, none, none]) (i := 1) rfl
            have t3 := turns_mapA (G := Gtup [Gname 4, Gname 5]) (ft := fYes) (fe := fOp inD (fVar 5) (fCall [false, false] fn_imports (fCons (fVar 0) (fCons (fVar 4) fNil)))) (vs := [4, 5]) (fun ab : Str × Str => D.tup [.str ab.1, .str ab.2]) (fun _ => true) (fun ab => D.bl (decide (ab.2 ∈ impOf p ab.1))) (ss.zip (ss.drop 1 ++ ss.take 1)) [some (.frz (projV p)), some (.frz (.tup (ss.map D.str))), some (.own (.lst ((nms p).map D.str))), none, none, none] (by rw [List.length_zip]; omega) (by
              rintro ⟨a, b⟩ hab
              have im := imports_ok wf nm (inn a (List.of_mem_zip hab).1)
              exact ⟨[some (.frz (projV p)), some (.frz (.tup (ss.map D.str))), some (.own (.lst ((nms p).map D.str))), none, some (.frz (.str a)), some (.frz (.str b))], rfl, rfl, rfl, fun _ => ⟨.val (.bl (decide (b ∈ impOf p a))), ev_op rfl (ev_call (ev_cons rfl (ev_cons rfl ev_nil)) rfl rfl im rfl) rfl rfl inD_t, rfl⟩⟩)
            rw [List.filter_eq_self.mpr fun _ _ => rfl] at t3
            have al3 := allD_map (xs := ss.zip (ss.drop 1 ++ ss.take 1)) (f := fun ab => decide (ab.2 ∈ impOf p ab.1))
            rw [← zipL_strs] at t3
            unfold fn_is_row F_is_row
            apply ev_fnR (env' := [some (.frz (projV p)), some (.frz (.tup (ss.map D.str))), none, none, none, none]) (t := .val (.bl (rowB p ss))) (e1 := [some (.frz (projV p)), some (.frz (.tup (ss.map D.str))), some (.own (.lst ((nms p).map D.str))), none, none, none]) rfl
            · refine ev_seq s1 rfl (ev_seq (ev_ifS (p := false) (ev_or nt (ev_or ez2 c1')) ev_next) rfl (ev_seq (ev_ifS c2' ev_next) rfl (ev_ret ?_)))
              exact ev_cb (ev_cons (ev_lc (toks := [.val (.tup (ss.map D.str)), .val (.tup ((ss.drop 1 ++ ss.take 1).map D.str))]) (e1 := [some (.frz (projV p)), some (.frz (.tup (ss.map D.str))), some (.own (.lst ((nms p).map D.str))), none, none, none]) (js := []) (ev_cons rfl (ev_cons ta ev_nil)) rfl rfl rfl rfl rfl t3 rfl) ev_nil) rfl al3
            all_goals rfl
    | _ => cases ht
  · have hf : isT v = false := by simpa using ht
    rw [hf] at it
    have er : isRow p v = false := by cases v <;> first | rfl | cases hf
    rw [er]
    unfold fn_is_row F_is_row
    apply ev_fnR (env' := [some (.frz (projV p)), some (.frz v), none, none, none, none]) (t := .val (.bl false)) (e1 := [some (.frz (projV p)), some (.frz v), some (.own (.lst ((nms p).map D.str))), none, none, none]) rfl
    · exact ev_seq s1 rfl (ev_seqR (ev_ifS (p := true) (ev_or (ev_not (p := false) (ev_B (ev_cb (ev_cons rfl (ev_cons ev_c ev_nil)) rfl it) rfl)) rfl) (ev_ret ev_c)))
    all_goals rfl
/-! ### walk -/
theorem walkS_ok {N : Nat} {d : D} {p : List Mod} {ys : List Str} {x : Str} {e3 e4 : Option Ent} (wf : Wf p) (nm : Nm p) (h : Src N d) (hN : N + 1 ≤ 2 ^ 60) (hx : x ∈ nms p) (yl : ys.length ≤ 1000) (f4 : FreeE e4) :
    ∃ (zs : List Str) (z : Str) (d' : D) (e4' : Option Ent), B_walk_1 [some (.par d), some (.frz (projV p)), some (.own (.lst ((ys ++ [x]).map D.str))), e3, e4] = .nx [some (.par d'), some (.frz (projV p)), some (.own (.lst ((zs ++ [z]).map D.str))), e3, e4'] ∧ Src (N + 1) d' ∧ z ∈ nms p ∧ zs.length ≤ ys.length + 1 ∧ FreeE e4' := by
  have im := imports_ok wf nm hx
  have q1 := ixD_last (ys := ys) (x := x)
  have inn : ∀ i ∈ impOf p x, i ∈ nms p := wf.cl x hx
  have s1 : fAsg (fCall [false, false] fn_imports (fCons (fVar 1) (fCons (fOp ixD (fVar 2) (fUn negD (fC (.int 1)))) fNil))) (Gname 4) [some (.par d), some (.frz (projV p)), some (.own (.lst ((ys ++ [x]).map D.str))), e3, e4] = .nx [some (.par d), some (.frz (projV p)), some (.own (.lst ((ys ++ [x]).map D.str))), e3, some (.frz (.tup ((impOf p x).map D.str)))] :=
    ev_asg (ev_call (ev_cons rfl (ev_cons (ev_op rfl (ev_un ev_c rfl rfl) rfl rfl q1) ev_nil)) rfl rfl im rfl) (gn_to rfl f4 rfl)
  have ne := neD_tt (a := impOf p x) (b := []) (fun z hz => nm z (inn z hz)) (fun _ z => by cases z)
  by_cases e0 : impOf p x = []
  · rw [decide_eq_true e0] at ne
    have ne' : neD (.tup ((impOf p x).map D.str)) (.tup []) = some (.val (.bl false)) := ne
    refine ⟨ys, x, d, some (.frz (.tup ((impOf p x).map D.str))), ?_, h.mono (by omega), hx, by omega, .frz⟩
    unfold B_walk_1
    exact ev_seq s1 rfl (ev_ifS (p := false) (ev_B (ev_op rfl rfl rfl rfl ne') rfl) ev_next)
  · rw [decide_eq_false e0] at ne
    have ne' : neD (.tup ((impOf p x).map D.str)) (.tup []) = some (.val (.bl true)) := ne
    obtain ⟨w, d', e, s, hw⟩ := choiceT (env := [some (.frz (projV p)), some (.own (.lst ((ys ++ [x]).map D.str))), e3, some (.frz (.tup ((impOf p x).map D.str)))]) (a := fVar 4) (xs := (impOf p x).map D.str) h (by omega) (by simpa using e0) (by
      have : (impOf p x).length ≤ 60 := by
        obtain ⟨m, em, hm, mn⟩ := modAt_some hx
        have ei : impOf p x = m.imps := by simp [impOf, em]
        rw [ei]
        exact wf.il m hm
      rw [List.length_map]
      omega) rfl
    obtain ⟨o, ho, rfl⟩ := List.mem_map.mp hw
    have ap : mAppend (.lst ((ys ++ [x]).map D.str)) [.str o] = some (.lst ((ys ++ [x] ++ [o]).map D.str), .non) := by
      rw [List.map_append (l₁ := ys ++ [x])]
      exact mAppend_ok (by simp; omega)
    refine ⟨ys ++ [x], o, d', some (.frz (.tup ((impOf p x).map D.str))), ?_, s, inn o ho, by simp, .frz⟩
    unfold B_walk_1
    refine ev_seq s1 rfl (ev_ifS (p := true) (ev_B (ev_op rfl rfl rfl rfl ne') rfl) ?_)
    exact ev_drop (ev_mut (j := 2) (e := .own (.lst ((ys ++ [x]).map D.str))) rfl rfl (ev_cons e ev_nil) rfl rfl rfl ap rfl)
theorem walk_ok {N : Nat} {d : D} {p : List Mod} (wf : Wf p) (nm : Nm p) (h : Src N d) (hN : N + 20 ≤ 2 ^ 60) (hp : 1 ≤ p.length) : ∃ (ss : List Str) (d' : D), fn_walk [d, projV p] = .ok (.val (.tup (ss.map D.str))) [d'] ∧ Src (N + 20) d' ∧ ss.length ≤ 20 := by
  have pl := wf.pl
  obtain ⟨w, d1, e1, s1, hw⟩ := choiceT (env := [some (.frz (projV p)), none, none, none]) (a := fVar 1) (xs := p.map modV) h (by omega) (by
    intro z
    rw [List.map_eq_nil_iff] at z
    rw [z] at hp
    exact absurd hp (by decide)) (by simp; omega) rfl
  obtain ⟨m, hm, rfl⟩ := List.mem_map.mp hw
  obtain ⟨j, d2, e2, s2, j0, j1⟩ := drawE (l := 9) [some (.frz (projV p)), some (.own (.lst (([] ++ [m.name]).map D.str))), none, none] s1 (by omega) (by decide) (by decide)
  obtain ⟨j, rfl⟩ := Int.eq_ofNat_of_zero_le j0
  obtain ⟨e, eL, zs, z, d3, e3, e4, rfl, s3, hz, zl, f3, f4⟩ := loop_inv (G := Gname 3) (b := B_walk_1) (fun i e => ∃ zs z d' e3 e4, e = [some (.par d'), some (.frz (projV p)), some (.own (.lst ((zs ++ [z]).map D.str))), e3, e4] ∧ Src (N + 2 + i) d' ∧ z ∈ nms p ∧ zs.length ≤ i ∧ FreeE e3 ∧ FreeE e4) (rangeL 0 j) (by
    rintro i x e hx ⟨zs, z, d', e3, e4, rfl, s, hz, zl, f3, f4⟩
    obtain ⟨hi, rfl⟩ := rangeL_at hx
    obtain ⟨zs', z', d'', e4', h1, s', hz', zl', f4'⟩ := walkS_ok (e3 := some (.frz (.int (0 + i)))) (ys := zs) wf nm s (by omega) hz (by omega) f4
    exact ⟨_, _, gn_to (e := e3) rfl f3 rfl, h1, zs', z', d'', _, e4', rfl, s', hz', by omega, .frz, f4'⟩) (env := [some (.par d2), some (.frz (projV p)), some (.own (.lst (([] ++ [m.name]).map D.str))), none, none]) ⟨[], m.name, d2, none, none, rfl, s2, List.mem_map_of_mem hm, Nat.le_refl _, .none, .none⟩
  have hl : (rangeL 0 j).length = j := by simp [rangeL]
  rw [hl] at s3 zl
  have st1 : fAsg (fLst (fCons (fOp ixD (fCall [true, false] fn_choice (fCons (fVar 0) (fCons (fVar 1) fNil))) (fC (.int 0))) fNil)) (Gname 2) [some (.par d), some (.frz (projV p)), none, none, none] = .nx [some (.par d1), some (.frz (projV p)), some (.own (.lst (([] ++ [m.name]).map D.str))), none, none] :=
    ev_asg (ev_lst (ev_cons (ev_op e1 ev_c rfl rfl ixD_m0) ev_nil) rfl (Nat.le_of_ble_eq_true rfl)) (gn_new rfl .none)
  have st2 : fFor (fCons (fCall [true, false] fn_draw (fCons (fVar 0) (fCons (fC (.int 9)) fNil))) fNil) rng1 (Gname 3) B_walk_1 [some (.par d1), some (.frz (projV p)), some (.own (.lst (([] ++ [m.name]).map D.str))), none, none] = .nx [some (.par d3), some (.frz (projV p)), some (.own (.lst ((zs ++ [z]).map D.str))), e3, e4] :=
    ev_for' (ev_cons e2 ev_nil) (ev_rng1 rfl (by omega) (by omega)) rfl rfl eL rfl
  refine ⟨zs ++ [z], d3, ?_, s3.mono (by omega), by simp; omega⟩
  unfold fn_walk F_walk
  apply ev_fnR (env' := [some (.par d), some (.frz (projV p)), none, none, none]) (t := .val (.tup ((zs ++ [z]).map D.str))) (e1 := [some (.par d3), some (.frz (projV p)), some (.own (.lst ((zs ++ [z]).map D.str))), e3, e4]) rfl
  · exact ev_seq st1 rfl (ev_seq st2 rfl (ev_ret (ev_cb (ts := [.slot 2]) (ds := [.lst ((zs ++ [z]).map D.str)]) (ev_cons rfl ev_nil) rfl rfl)))
  all_goals rfl
/-! ### has_cycle -/
theorem while_ret {c : Et} {b : Sf} (I : Nat → Env → Prop) (Fin : Env → Prop) (R : Tok → Env → Prop) (h : ∀ n e, I n e → (∃ e1, c e = .ok false e1 ∧ Fin e1) ∨ (∃ e1 t e2, c e = .ok true e1 ∧ b e1 = .rt t e2 ∧ R t e2) ∨ ∃ e1 e2 m, c e = .ok true e1 ∧ b e1 = .nx e2 ∧ I m e2 ∧ m < n) : ∀ (fuel n : Nat) (env : Env), I n env → n < fuel → (∃ e, whileF c b fuel env = .nx e ∧ Fin e) ∨ ∃ t e, whileF c b fuel env = .rt t e ∧ R t e
  | 0, n, env, _, hn => by omega
  | fuel + 1, n, env, hI, hn => by
    rcases h n env hI with ⟨e1, h1, h2⟩ | ⟨e1, t, e2, h1, h2, h3⟩ | ⟨e1, e2, m, h1, h2, h3, h4⟩
    · exact .inl ⟨e1, by unfold whileF; rw [h1]; rfl, h2⟩
    · refine .inr ⟨t, e2, ?_, h3⟩
      unfold whileF
      rw [h1]
      show (if true = true then (match b e1 with | .nx e2 => whileF c b fuel e2 | .ct e2 => whileF c b fuel e2 | .bk e2 => .nx e2 | r => r) else .nx e1) = _
      rw [if_pos rfl, h2]
    · have key : whileF c b (fuel + 1) env = whileF c b fuel e2 := by
        conv => lhs; unfold whileF
        rw [h1]
        show (if true = true then (match b e1 with | .nx e2 => whileF c b fuel e2 | .ct e2 => whileF c b fuel e2 | .bk e2 => .nx e2 | r => r) else .nx e1) = _
        rw [if_pos rfl, h2]
      rw [key]
      exact while_ret I Fin R h fuel m e2 h3 (by omega)
theorem mergeD_new : ∀ (more acc : List (Key × D)), (acc.map (·.1) ++ more.map (·.1)).Nodup → mergeD acc more = acc ++ more
  | [], acc, _ => by simp [mergeD]
  | kv :: more, acc, h => by
    have no : kv.1 ∉ acc.map (·.1) := fun z => (List.nodup_append.mp h).2.2 _ z kv.1 (by simp) rfl
    have np : (acc.any fun x => decide (x.1 = kv.1)) = false := by
      rw [List.any_eq_false]
      intro x hx z
      exact no (by rw [← of_decide_eq_true z]; exact List.mem_map_of_mem hx)
    have e : putD acc kv.1 kv.2 = acc ++ [kv] := by
      unfold putD
      rw [np]
      rfl
    show mergeD (putD acc kv.1 kv.2) more = _
    rw [e, mergeD_new more (acc ++ [kv]) (by simpa using h)]
    simp
theorem pairsD_ld (q : List Mod) : pairsD (q.map fun m => D.tup [.str m.name, .tup (m.imps.map D.str)]) = some (ldK q) := by
  unfold ldK
  induction q with
  | nil => rfl
  | cons m r ih => simp only [List.map_cons, pairsD, keyOf, ih]
theorem dictP_ld {q : List Mod} (nd : (nms q).Nodup) : c1 dictP [.lst (q.map fun m => D.tup [.str m.name, .tup (m.imps.map D.str)])] = some (.new (ldV q)) := by
  have e : mergeD [] (ldK q) = ldK q := by
    rw [mergeD_new (ldK q) [] ?_]
    · rfl
    · have : (ldK q).map (·.1) = (nms q).map Sum.inr := by
        unfold ldK nms
        rw [List.map_map, List.map_map]
        rfl
      rw [this]
      show ((nms q).map Sum.inr).Nodup
      exact List.Pairwise.map _ (fun a b h z => h (Sum.inr.inj z)) nd
  simp only [c1, dictP, pairsD_ld, e]
  rfl
abbrev eH (p q : List Mod) (e2 : Option Ent) : Env := [some (.frz (projV p)), some (.own (ldV q)), e2, none, none, none]
theorem eqD_l0 {F : List Str} (h : ∀ z ∈ F, Asci z) : eqD (.lst (F.map D.str)) (.lst []) = some (.val (.bl (decide (F = [])))) := by
  have n := neD_l0 h
  have e : ∀ {b}, neD (.lst (F.map D.str)) (.lst []) = some (.val (.bl (!b))) → eqD (.lst (F.map D.str)) (.lst []) = some (.val (.bl b)) := fun {b} hb => by
    unfold neD orD neA at hb
    unfold eqD orD eqA
    cases hq : eqP (.lst (F.map D.str)) (.lst []) with
    | none => rw [hq] at hb; cases hb
    | some c =>
      rw [hq] at hb
      simp only at hb ⊢
      cases b <;> cases c <;> first | rfl | (exact absurd hb (by simp))
  exact e n
theorem freeL_ok {p q : List Mod} {e2 : Option Ent} (wf : Wf p) (sub : ∀ m ∈ q, m ∈ p) (ndq : (nms q).Nodup) (ql : q.length ≤ 60) :
    fLcK 1 (Gname 4) (fNot (fB (fCB (c1 anyD) (fCons (fLc (fCons (fOp ixD (fVar 1) (fVar 4)) fNil) seqIt (Gname 5) fYes (fOp inD (fVar 5) (fVar 1)) [5]) fNil)))) (fVar 4) [4] (eH p q e2) = .ok (.new (.lst ((nms (frees q)).map D.str))) (eH p q e2) := by
  have t := turns_mapA (G := Gname 4) (ft := fNot (fB (fCB (c1 anyD) (fCons (fLc (fCons (fOp ixD (fVar 1) (fVar 4)) fNil) seqIt (Gname 5) fYes (fOp inD (fVar 5) (fVar 1)) [5]) fNil)))) (fe := fVar 4) (vs := [4]) (fun m : Mod => D.str m.name) (fun m => !(m.imps.any fun i => decide (i ∈ nms q))) (fun m => D.str m.name) q [some (.frz (projV p)), some (.lok false (ldV q)), e2, none, none, none] (by omega) (by
    intro m hm
    have em := modAt_of ndq hm
    have q1 := ixD_ld em
    have t2 := turns_mapA (G := Gname 5) (ft := fYes) (fe := fOp inD (fVar 5) (fVar 1)) (vs := [5]) D.str (fun _ => true) (fun i => D.bl (decide (i ∈ nms q))) m.imps [some (.frz (projV p)), some (.lok false (ldV q)), e2, none, some (.frz (.str m.name)), none] (by have := wf.il m (sub m hm); omega) (by
      intro i hi
      exact ⟨[some (.frz (projV p)), some (.lok false (ldV q)), e2, none, some (.frz (.str m.name)), some (.frz (.str i))], gn_to rfl .none rfl, rfl, rfl, fun _ => ⟨.val (.bl (decide (i ∈ nms q))), ev_op rfl rfl rfl rfl (inD_ld (q := q) (n := i)), rfl⟩⟩)
    rw [List.filter_eq_self.mpr fun _ _ => rfl] at t2
    have an := anyD_map (xs := m.imps) (f := fun i => decide (i ∈ nms q))
    refine ⟨[some (.frz (projV p)), some (.lok false (ldV q)), e2, none, some (.frz (.str m.name)), none], gn_to rfl .none rfl, ?_, rfl, fun _ => ⟨.val (.str m.name), rfl, rfl⟩⟩
    exact ev_not (ev_B (ev_cb (ev_cons (ev_lc (toks := [.val (.tup (m.imps.map D.str))]) (e1 := [some (.frz (projV p)), some (.lok false (ldV q)), e2, none, some (.frz (.str m.name)), none]) (js := []) (ev_cons (ev_op rfl rfl rfl rfl q1) ev_nil) rfl rfl rfl rfl rfl t2 rfl) ev_nil) rfl an) rfl))
  have items : (ldK q).map (fun kv => keyD kv.1) = q.map fun m : Mod => D.str m.name := by
    unfold ldK
    rw [List.map_map]
    rfl
  have out : ((q.filter fun m => !(m.imps.any fun i => decide (i ∈ nms q))).map fun m => D.str m.name) = (nms (frees q)).map D.str := by
    unfold nms frees
    rw [List.map_map]
    rfl
  rw [out, ← items] at t
  exact ev_lcK (e := .own (ldV q)) rfl rfl rfl rfl rfl rfl t rfl
theorem keepL_ok {p q : List Mod} {F : List Str} (ndq : (nms q).Nodup) (ql : q.length ≤ 60) :
    fLcK 1 (Gname 4) (fB (fOp notInD (fVar 4) (fVar 2))) (fTup (fCons (fVar 4) (fCons (fOp ixD (fVar 1) (fVar 4)) fNil))) [4] (eH p q (some (.own (.lst (F.map D.str))))) = .ok (.new (.lst ((q.filter fun m => decide (m.name ∉ F)).map fun m => D.tup [.str m.name, .tup (m.imps.map D.str)]))) (eH p q (some (.own (.lst (F.map D.str))))) := by
  have t := turns_mapA (G := Gname 4) (ft := fB (fOp notInD (fVar 4) (fVar 2))) (fe := fTup (fCons (fVar 4) (fCons (fOp ixD (fVar 1) (fVar 4)) fNil))) (vs := [4]) (fun m : Mod => D.str m.name) (fun m => decide (m.name ∉ F)) (fun m => D.tup [.str m.name, .tup (m.imps.map D.str)]) q [some (.frz (projV p)), some (.lok false (ldV q)), some (.own (.lst (F.map D.str))), none, none, none] (by omega) (by
    intro m hm
    have q1 := ixD_ld (modAt_of ndq hm)
    have q2 := notInD_l (n := m.name) (is := F)
    have ed : (!decide (m.name ∈ F)) = decide (m.name ∉ F) := by simp
    rw [ed] at q2
    exact ⟨[some (.frz (projV p)), some (.lok false (ldV q)), some (.own (.lst (F.map D.str))), none, some (.frz (.str m.name)), none], gn_to rfl .none rfl, ev_B (ev_op rfl rfl rfl rfl q2) rfl, rfl, fun _ => ⟨.val (.tup [.str m.name, .tup (m.imps.map D.str)]), ev_tup (ev_cons rfl (ev_cons (ev_op rfl rfl rfl rfl q1) ev_nil)) rfl (Nat.le_of_ble_eq_true rfl), rfl⟩⟩)
  have items : (ldK q).map (fun kv => keyD kv.1) = q.map fun m : Mod => D.str m.name := by
    unfold ldK
    rw [List.map_map]
    rfl
  rw [← items] at t
  exact ev_lcK (e := .own (ldV q)) rfl rfl rfl rfl rfl rfl t rfl
theorem has_cycle_ok {p : List Mod} (wf : Wf p) (nm : Nm p) : (fn_has_cycle [projV p] = .ok (.val (.bl false)) [] ∧ Acyc p) ∨ (fn_has_cycle [projV p] = .ok (.val (.bl true)) [] ∧ ∃ q, Lft p q ∧ q ≠ []) := by
  have pl := wf.pl
  have t0 := turns_mapA (G := Gname 3) (ft := fYes) (fe := fTup (fCons (fOp ixD (fVar 3) (fC (.int 0))) (fCons (fOp ixD (fVar 3) (fC (.int 1))) fNil))) (vs := [3]) modV (fun _ => true) (fun m => D.tup [.str m.name, .tup (m.imps.map D.str)]) p [some (.frz (projV p)), none, none, none, none, none] (by omega) (by
    intro m hm
    exact ⟨[some (.frz (projV p)), none, none, some (.frz (modV m)), none, none], rfl, rfl, rfl, fun _ => ⟨.val (.tup [.str m.name, .tup (m.imps.map D.str)]), ev_tup (ev_cons (ev_op rfl ev_c rfl rfl ixD_m0) (ev_cons (ev_op rfl ev_c rfl rfl ixD_m1) ev_nil)) rfl (Nat.le_of_ble_eq_true rfl), rfl⟩⟩)
  rw [List.filter_eq_self.mpr fun _ _ => rfl] at t0
  have s1 : fAsg (fCB (c1 dictP) (fCons (fLc (fCons (fVar 0) fNil) seqIt (Gname 3) fYes (fTup (fCons (fOp ixD (fVar 3) (fC (.int 0))) (fCons (fOp ixD (fVar 3) (fC (.int 1))) fNil))) [3]) fNil)) (Gname 1) [some (.frz (projV p)), none, none, none, none, none] = .nx (eH p p none) :=
    ev_asg (ev_cb (ev_cons (ev_lc (toks := [.val (projV p)]) (e1 := [some (.frz (projV p)), none, none, none, none, none]) (js := []) (ev_cons rfl ev_nil) rfl rfl rfl rfl rfl t0 rfl) ev_nil) rfl (dictP_ld wf.nd)) (gn_new rfl .none)
  have w := while_ret (c := fB (fOp neD (fVar 1) fDNew)) (b := B_has_cycle_1)
    (fun n e => ∃ (q : List Mod) (e2 : Option Ent), e = eH p q e2 ∧ FreeE e2 ∧ (∀ m ∈ q, m ∈ p) ∧ (nms q).Nodup ∧ Taken p q ∧ q.length ≤ p.length ∧ n = q.length)
    (fun e => ∃ e2, e = eH p [] e2 ∧ Taken p [])
    (fun t e => ∃ (q : List Mod) (e2 : Option Ent), t = .val (.bl true) ∧ e = eH p q e2 ∧ Lft p q ∧ q ≠ []) (by
    rintro n e ⟨q, e2, rfl, f2, sub, ndq, tk, ql, hn⟩
    cases q with
    | nil => exact .inl ⟨eH p [] e2, ev_B (ev_op rfl rfl rfl rfl (show neD (ldV []) (.dct []) = some (.val (.bl false)) from rfl)) rfl, e2, rfl, tk⟩
    | cons m0 qr =>
      have c : fB (fOp neD (fVar 1) fDNew) (eH p (m0 :: qr) e2) = .ok true (eH p (m0 :: qr) e2) := ev_B (ev_op rfl rfl rfl rfl (show neD (ldV (m0 :: qr)) (.dct []) = some (.val (.bl true)) from rfl)) rfl
      generalize hq : m0 :: qr = q at *
      have qne : q ≠ [] := by rw [← hq]; simp
      have asc : ∀ z ∈ nms (frees q), Asci z := fun z hz => by
        obtain ⟨m, hm, rfl⟩ := List.mem_map.mp hz
        exact (nm m.name (List.mem_map_of_mem (sub m (List.mem_filter.mp hm).1))).asci
      have a1 : fAsg (fLcK 1 (Gname 4) (fNot (fB (fCB (c1 anyD) (fCons (fLc (fCons (fOp ixD (fVar 1) (fVar 4)) fNil) seqIt (Gname 5) fYes (fOp inD (fVar 5) (fVar 1)) [5]) fNil)))) (fVar 4) [4]) (Gname 2) (eH p q e2) = .nx (eH p q (some (.own (.lst ((nms (frees q)).map D.str))))) :=
        ev_asg (freeL_ok wf sub ndq (by omega)) (gn_new rfl f2)
      have eq0' := eqD_l0 asc
      by_cases ef : nms (frees q) = []
      · rw [decide_eq_true ef] at eq0'
        refine .inr (.inl ⟨_, .val (.bl true), eH p q (some (.own (.lst ((nms (frees q)).map D.str)))), c, ?_, q, _, rfl, rfl, ⟨sub, ndq, List.map_eq_nil_iff.mp ef⟩, qne⟩)
        unfold B_has_cycle_1
        exact ev_seq a1 rfl (ev_seqR (ev_ifS (p := true) (ev_B (ev_op rfl (ev_lst ev_nil rfl (Nat.zero_le _)) rfl rfl eq0') rfl) (ev_ret ev_c)))
      · rw [decide_eq_false ef] at eq0'
        have nd2 : (nms (q.filter fun m => decide (m.name ∉ nms (frees q)))).Nodup := (List.filter_sublist.map _).nodup ndq
        refine .inr (.inr ⟨_, eH p (q.filter fun m => decide (m.name ∉ nms (frees q))) (some (.own (.lst ((nms (frees q)).map D.str)))), (q.filter fun m => decide (m.name ∉ nms (frees q))).length, c, ?_, ⟨_, _, rfl, .own, fun m hm => sub m (List.mem_filter.mp hm).1, nd2, tk.step wf.nd sub wf.inn, Nat.le_trans (List.length_filter_le _ _) ql, rfl⟩, ?_⟩)
        · unfold B_has_cycle_1
          refine ev_seq a1 rfl (ev_seq (ev_ifS (p := false) (ev_B (ev_op rfl (ev_lst ev_nil rfl (Nat.zero_le _)) rfl rfl eq0') rfl) ev_next) rfl ?_)
          exact ev_asg (ev_cb (ev_cons (keepL_ok ndq (by omega)) ev_nil) rfl (dictP_ld nd2)) (gn_new rfl .own)
        · rw [hn]
          exact frees_lt ef) BIG p.length (eH p p none) ⟨p, none, rfl, .none, fun _ h => h, wf.nd, ⟨fun _ => 0, fun m hm z => absurd hm z⟩, Nat.le_refl _, rfl⟩ (by unfold BIG; omega)
  rcases w with ⟨e, w1, e2, rfl, tk⟩ | ⟨t, e, w1, q, e2, rfl, rfl, lf, qne⟩
  · refine .inl ⟨?_, ?_⟩
    · unfold fn_has_cycle F_has_cycle
      apply ev_fnR (env' := [some (.frz (projV p)), none, none, none, none, none]) (t := .val (.bl false)) (e1 := eH p [] e2) rfl
      · exact ev_seq s1 rfl (ev_seq w1 rfl (ev_ret ev_c))
      all_goals rfl
    · obtain ⟨rk, hr⟩ := tk
      exact ⟨rk, fun m hm i hi => (hr m hm (fun z => by cases z) i hi).2⟩
  · refine .inr ⟨?_, q, lf, qne⟩
    unfold fn_has_cycle F_has_cycle
    apply ev_fnR (env' := [some (.frz (projV p)), none, none, none, none, none]) (t := .val (.bl true)) (e1 := eH p q e2) rfl
    · exact ev_seq s1 rfl (ev_seqR w1)
    all_goals rfl
theorem lft_noAcyc {p q : List Mod} (lf : Lft p q) (h : q ≠ []) : ¬ Acyc p := by
  rintro ⟨rk, hr⟩
  have all : ∀ (n : Nat) m, m ∈ q → rk m.name = n → False := by
    intro n
    induction n using Nat.strongRecOn with
    | _ n ih =>
      intro m hm e
      cases ef : m.imps.filter fun i => decide (i ∈ nms q) with
      | nil => exact lf.next hm ef
      | cons i r =>
        have hi : i ∈ m.imps.filter fun i => decide (i ∈ nms q) := by rw [ef]; exact List.mem_cons_self
        obtain ⟨h1, h2⟩ := List.mem_filter.mp hi
        obtain ⟨m', hm', e'⟩ := List.mem_map.mp (of_decide_eq_true h2)
        have lt := hr m (lf.sub m hm) i h1
        exact ih (rk i) (by omega) m' hm' (by rw [e'])
  cases q with
  | nil => exact h rfl
  | cons m r => exact all _ m List.mem_cons_self rfl
end FL.Ck04

set_option Elab.async false
set_option linter.all false
set_option maxRecDepth 100000
set_option maxHeartbeats 4000000
set_option exponentiation.threshold 100000
/-! Q04b: the law's end. -/
namespace FL.Ck04
open PySem PySem.Spec PyProof.Rows L2 GL RM FL
local macro_rules | `(tactic| walk_at "ev") => `(tactic| repeat' (first
  | (show _ = _; with_reducible assumption)
  | with_reducible exact ev_c | with_reducible exact ev_nil | with_reducible exact ev_yes | with_reducible exact ev_next | with_reducible exact ev_break | with_reducible exact ev_cont | with_reducible exact ev_retN | with_reducible exact ev_opt0
  | with_reducible apply ev_var | with_reducible apply ev_op | with_reducible apply ev_un | with_reducible apply ev_cb | with_reducible apply ev_cons | with_reducible apply ev_tup | with_reducible apply ev_lst
  | with_reducible apply ev_B | with_reducible apply ev_not | with_reducible apply ev_and | with_reducible apply ev_or | with_reducible apply ev_andV | with_reducible apply ev_orV | with_reducible apply ev_notV | with_reducible apply ev_if
  | with_reducible apply ev_opt1 | with_reducible apply ev_sl | with_reducible apply ev_call | with_reducible apply ev_mut
  | with_reducible apply ev_dput | with_reducible apply ev_star | with_reducible apply ev_lenSet | with_reducible apply ev_callV | with_reducible apply ev_chainT | with_reducible apply ev_extend
  | with_reducible apply ev_seq | with_reducible apply ev_ret | with_reducible apply ev_drop | with_reducible apply ev_ifS | with_reducible apply ev_asg | with_reducible apply ev_par | with_reducible apply ev_aug | with_reducible apply ev_sub
  | with_reducible refine ev_nT ?_ | with_reducible refine ev_nF ?_
  | with_reducible refine ev_dT (by first | assumption | omega) ?_ | with_reducible refine ev_dF (by first | assumption | omega) ?_ | with_reducible refine ev_T (by first | rfl | assumption) ?_ | with_reducible refine ev_F (by first | rfl | assumption) ?_
  | with_reducible exact addD_i | with_reducible exact subD_i | with_reducible exact ltD_i | with_reducible exact leD_i | with_reducible exact ixD_l0 | with_reducible exact ixD_l1 | with_reducible exact ixD_l2 | with_reducible exact ixD_t0 | with_reducible exact ixD_t1 | with_reducible exact ixD_t2
  | with_reducible apply modD_i | with_reducible apply divD_i | with_reducible apply mulD_p
  | with_reducible apply ev_rng1 | with_reducible apply ev_rng2 | with_reducible apply ev_for' | with_reducible apply ev_lc | with_reducible apply ev_dc | with_reducible apply ev_turn | with_reducible exact ev_turn0 | with_reducible apply ev_lcB | with_reducible apply ev_dcB
  | with_reducible apply gn_val | with_reducible apply gn_new | with_reducible apply g_tup | with_reducible apply gall_cons | with_reducible exact gall_nil | with_reducible apply stores_cons | with_reducible exact stores_nil
  | with_reducible exact FreeE.none | with_reducible exact FreeE.frz | with_reducible exact FreeE.own | (show FreeE _; assumption)
  | with_reducible exact ixN_0 | with_reducible exact ixN_1 | with_reducible exact ixN_2
  | (show _ = _; dsimp only [Ent.val, Ent.put, Ent.tok]; with_reducible assumption)
  | (show turnsF _ _ _ _ _ _ _ = _; assumption) | (show loopF _ _ _ _ = _; assumption)
  | (show (_ : Env) = _; first | (dsimp only [startE, List.replicate, List.append_eq, List.cons_append, List.nil_append, List.set_cons_zero, List.set_cons_succ, List.getElem?_cons_zero, List.getElem?_cons_succ, Ent.put, Ent.val, Ent.tok, backs, lockAll, lockT, unlockAll, unlock, List.foldr, rest, wipeE, Option.join] <;> rfl) | rfl)
  | (show List.length _ ≤ _; exact Nat.le_of_ble_eq_true rfl) | (show _ < _; omega) | (show _ ≤ _; omega)
  | rfl))
theorem turns_st {G : Gf} {ft : Et} {fe : Ev} {vs : List Nat} (I : Nat → Env → List D → Prop) (items : List D) (hl : items.length ≤ 1000000)
    (h : ∀ k d e acc, items[k]? = some d → acc.length = k → I k e acc → ∃ e1 e2 t e3 y e4, G (.val d) e = some e1 ∧ ft e1 = .ok true e2 ∧ fe e2 = .ok t e3 ∧ keepT t e3 = some (y, e4) ∧ I (k + 1) (wipeE e4 vs) (acc ++ [y])) {env : Env} (h0 : I 0 env []) :
    ∃ acc e, turnsF G ft (lcB fe) vs items [] env = .ok acc e ∧ I items.length e acc ∧ acc.length = items.length := by
  suffices ∀ (rest : List D) (k : Nat) (acc : List D) (env : Env), items.drop k = rest → k + rest.length = items.length → acc.length = k → I k env acc → ∃ acc' e, turnsF G ft (lcB fe) vs rest acc env = .ok acc' e ∧ I items.length e acc' ∧ acc'.length = items.length from this items 0 [] env rfl (by simp) rfl h0
  intro rest
  induction rest with
  | nil =>
    intro k acc env hd hk ha hI
    have hk' : k = items.length := by simpa using hk
    subst hk'
    exact ⟨acc, env, ev_turn0, hI, ha⟩
  | cons d ds ih =>
    intro k acc env hd hk ha hI
    have hx : items[k]? = some d := by rw [← List.head?_drop, hd]; rfl
    obtain ⟨e1, e2, t, e3, y, e4, h1, h2, h3, h4, h5⟩ := h k d env acc hx ha hI
    have hk' : k + (ds.length + 1) = items.length := hk
    obtain ⟨acc', e, q1, q2, q3⟩ := ih (k + 1) (acc ++ [y]) (wipeE e4 vs) (by rw [← List.tail_drop, hd]; rfl) (by omega) (by simp [ha]) h5
    exact ⟨acc', e, ev_turn h1 h2 (ev_lcB h3 h4 (by omega)) rfl q1, q2, q3⟩
theorem Kd_cut {xs : List D} {lo hi : Option Int} (h : xs.length ≤ 1000) (k : ∀ x ∈ xs, K1 x = true) : Kd (.tup (cutD xs lo hi)) := by
  refine .tup ?_ fun x hx => k x (List.mem_of_mem_drop (List.mem_of_mem_take hx))
  unfold cutD
  rw [List.length_take, List.length_drop]
  omega
theorem ks1 (zs : List Str) : ∀ x ∈ zs.map D.str, K1 x = true := fun x hx => by
  obtain ⟨z, _, rfl⟩ := List.mem_map.mp hx
  rfl
theorem row_of_cyc {p : List Mod} {rs : List Str} (h : CycRow p rs) : isRow p (.tup (rs.map D.str)) = true := by
  have ne : (rs.map D.str).isEmpty = false := by
    cases e : rs with
    | nil => exact absurd e h.ne
    | cons a b => rfl
  have al : ((rs.map D.str).all fun d => isS d && decide (unS d ∈ nms p)) = true := by
    rw [List.all_eq_true]
    intro x hx
    obtain ⟨z, hz, rfl⟩ := List.mem_map.mp hx
    exact decide_eq_true (h.inn z hz)
  have rb : rowB p rs = true := by
    unfold rowB
    rw [List.all_eq_true]
    rintro ⟨a, b⟩ hab
    obtain ⟨i, hi⟩ := List.mem_iff_getElem?.mp hab
    obtain ⟨h1, h2⟩ := List.getElem?_zip_eq_some.mp hi
    refine decide_eq_true (h.nxt i a b h1 ?_)
    have il : i < rs.length := (List.getElem?_eq_some_iff.mp h1).1
    by_cases hl : i + 1 < rs.length
    · rw [Nat.mod_eq_of_lt hl]
      rw [List.getElem?_append_left (by simp; omega), List.getElem?_drop] at h2
      rw [Nat.add_comm]
      exact h2
    · have e : i + 1 = rs.length := by omega
      rw [e, Nat.mod_self]
      rw [List.getElem?_append_right (by simp; omega)] at h2
      have z : i - (rs.drop 1).length = 0 := by simp; omega
      rw [z] at h2
      rw [List.getElem?_take_of_lt (by decide)] at h2
      exact h2
  simp only [isRow, ne, al, unS_map, rb]
  rfl
abbrev eQ (d : D) (p : List Mod) (S : Str) (f : D) (r : Option Ent) : Env := [some (.par d), some (.frz (projV p)), some (.frz (.str S)), some (.frz f), r, none, none]
theorem walks_ok {N : Nat} {d f : D} {p : List Mod} {S : Str} {r : Option Ent} (wf : Wf p) (nm : Nm p) (h : Src N d) (hN : N + 200 ≤ 2 ^ 60) (hp : 1 ≤ p.length) :
    ∃ vs d', fLc (fCons (fC (.int 6)) fNil) rng1 (Gname 5) fYes (fCall [true, false] fn_walk (fCons (fVar 0) (fCons (fVar 1) fNil))) [5] (eQ d p S f r) = .ok (.new (.lst vs)) (eQ d' p S f r) ∧ Src (N + 120) d' ∧ (∀ v ∈ vs, Kd v) ∧ vs.length = 6 := by
  obtain ⟨acc, e, t, ⟨d', rfl, s, ka⟩, hl⟩ := turns_st (G := Gname 5) (ft := fYes) (fe := fCall [true, false] fn_walk (fCons (fVar 0) (fCons (fVar 1) fNil))) (vs := [5]) (fun k e acc => ∃ d', e = eQ d' p S f r ∧ Src (N + 20 * k) d' ∧ ∀ v ∈ acc, Kd v) (rangeL 0 6) (by decide) (by
    rintro k x e acc hx _ ⟨d', rfl, s, ka⟩
    obtain ⟨hk, rfl⟩ := rangeL_at hx
    obtain ⟨ss, d'', w, s', sl⟩ := walk_ok wf nm s (by omega) hp
    refine ⟨[some (.par d'), some (.frz (projV p)), some (.frz (.str S)), some (.frz f), r, some (.frz (.int (0 + k))), none], _, .val (.tup (ss.map D.str)), [some (.par d''), some (.frz (projV p)), some (.frz (.str S)), some (.frz f), r, some (.frz (.int (0 + k))), none], .tup (ss.map D.str), _, gn_to rfl .none rfl, rfl, ev_call (ev_cons rfl (ev_cons rfl ev_nil)) rfl rfl w rfl, rfl, d'', rfl, ?_, fun v hv => ?_⟩
    · exact s'.mono (by omega)
    · rcases List.mem_append.mp hv with hv | hv
      · exact ka v hv
      · rw [List.mem_singleton.mp hv]
        exact .strs (by omega)) (env := eQ d p S f r) ⟨d, rfl, h, fun _ z => by cases z⟩
  refine ⟨acc, d', ?_, s.mono (by show N + 20 * 6 ≤ _; omega), ka, hl⟩
  exact ev_lc (toks := [.val (.int 6)]) (e1 := eQ d p S f r) (js := []) (ev_cons rfl ev_nil) rfl rfl rfl rfl rfl t rfl
theorem bents_ok {N : Nat} {d : D} {p : List Mod} {S : Str} {r : Option Ent} {rs : List Str} (h : Src N d) (hN : N + 700 ≤ 2 ^ 60) (h0 : rs ≠ []) (hl : rs.length ≤ 60) (hn : ∀ z ∈ rs, NameOk z) :
    ∃ vs d', fLc (fCons (fC (.int 6)) fNil) rng1 (Gname 5) fYes (fCall [true, false] (fn_bent 8) (fCons (fVar 0) (fCons (fVar 3) fNil))) [5] (eQ d p S (.tup (rs.map D.str)) r) = .ok (.new (.lst vs)) (eQ d' p S (.tup (rs.map D.str)) r) ∧ Src (N + 600) d' ∧ (∀ v ∈ vs, Kd v) ∧ vs.length = 6 := by
  obtain ⟨acc, e, t, ⟨d', rfl, s, ka⟩, hl⟩ := turns_st (G := Gname 5) (ft := fYes) (fe := fCall [true, false] (fn_bent 8) (fCons (fVar 0) (fCons (fVar 3) fNil))) (vs := [5]) (fun k e acc => ∃ d', e = eQ d' p S (.tup (rs.map D.str)) r ∧ Src (N + 100 * k) d' ∧ ∀ v ∈ acc, Kd v) (rangeL 0 6) (by decide) (by
    rintro k x e acc hx _ ⟨d', rfl, s, ka⟩
    obtain ⟨hk, rfl⟩ := rangeL_at hx
    obtain ⟨w, d'', e1, s', kw⟩ := bentT (j := 6) s (by omega) h0 hl hn
    refine ⟨[some (.par d'), some (.frz (projV p)), some (.frz (.str S)), some (.frz (.tup (rs.map D.str))), r, some (.frz (.int (0 + k))), none], _, .val w, [some (.par d''), some (.frz (projV p)), some (.frz (.str S)), some (.frz (.tup (rs.map D.str))), r, some (.frz (.int (0 + k))), none], w, _, gn_to rfl .none rfl, rfl, ev_call (ev_cons rfl (ev_cons rfl ev_nil)) rfl rfl e1 rfl, rfl, d'', rfl, ?_, fun v hv => ?_⟩
    · exact s'.mono (by omega)
    · rcases List.mem_append.mp hv with hv | hv
      · exact ka v hv
      · rw [List.mem_singleton.mp hv]
        exact kw) (env := eQ d p S (.tup (rs.map D.str)) r) ⟨d, rfl, h, fun _ z => by cases z⟩
  refine ⟨acc, d', ?_, s.mono (by show N + 100 * 6 ≤ _; omega), ka, hl⟩
  exact ev_lc (toks := [.val (.int 6)]) (e1 := eQ d p S (.tup (rs.map D.str)) r) (js := []) (ev_cons rfl ev_nil) rfl rfl rfl rfl rfl t rfl
theorem repr_bl (b : Bool) : ∃ z, c1 reprD [.bl b] = some (.val (.str z)) := by
  cases b <;> exact ⟨_, rfl⟩
/-- the last look at all rows -/
theorem look_ok {d f : D} {p : List Mod} {S : Str} {vs : List D} (wf : Wf p) (nm : Nm p) (hv : ∀ v ∈ vs, Kd v) (vl : vs.length ≤ 1000) (hS : S = (projP p).shown) :
    fSeq (fIfS (fNot (fB (fCB (c1 allD) (fCons (fLc (fCons (fVar 4) fNil) seqIt (Gname 6) fYes (fOp eqR (fCB (c1 reprD) (fCons (fCall [false, false] fn_shows_cycle (fCons (fVar 1) (fCons (fVar 6) fNil))) fNil)) (fCB (c1 reprD) (fCons (fCall [false, false] fn_is_row (fCons (fVar 1) (fCons (fVar 6) fNil))) fNil))) [6]) fNil)))) (fRet (fC (.bl false))) fNext)
      (fRet (fOp eqR (fCB (c1 reprD) (fCons (fVar 1) fNil)) (fVar 2))) (eQ d p S f (some (.own (.lst vs)))) = .rt (.val (.bl true)) (eQ d p S f (some (.own (.lst vs)))) := by
  have t := turns_mapA (G := Gname 6) (ft := fYes) (fe := fOp eqR (fCB (c1 reprD) (fCons (fCall [false, false] fn_shows_cycle (fCons (fVar 1) (fCons (fVar 6) fNil))) fNil)) (fCB (c1 reprD) (fCons (fCall [false, false] fn_is_row (fCons (fVar 1) (fCons (fVar 6) fNil))) fNil))) (vs := [6]) id (fun _ => true) (fun _ => D.bl true) vs (eQ d p S f (some (.lok false (.lst vs)))) (by omega) (by
    intro v hm
    have a := shows_ok wf (hv v hm)
    have b := is_row_ok wf nm (hv v hm)
    obtain ⟨z, hz⟩ := repr_bl (isRow p v)
    have q : eqR (.str z) (.str z) = some (.val (.bl true)) := by rw [eqR_s, decide_eq_true rfl]
    refine ⟨[some (.par d), some (.frz (projV p)), some (.frz (.str S)), some (.frz f), some (.lok false (.lst vs)), none, some (.frz v)], gn_to rfl .none rfl, rfl, rfl, fun _ => ⟨.val (.bl true), ?_, rfl⟩⟩
    exact ev_op (ev_cb (ev_cons (ev_call (ev_cons rfl (ev_cons rfl ev_nil)) rfl rfl a rfl) ev_nil) rfl hz) (ev_cb (ev_cons (ev_call (ev_cons rfl (ev_cons rfl ev_nil)) rfl rfl b rfl) ev_nil) rfl hz) rfl rfl q)
  rw [List.map_id, List.filter_eq_self.mpr fun _ _ => rfl] at t
  have al := allD_map (xs := vs) (f := fun _ => true)
  rw [show (vs.all fun _ => true) = true from all_dec fun _ _ => rfl] at al
  have rp := repr_proj wf nm
  rw [← hS] at rp
  have q : eqR (.str S) (.str S) = some (.val (.bl true)) := by rw [eqR_s, decide_eq_true rfl]
  refine ev_seq (ev_ifS (p := false) (ev_not (p := true) (ev_B (ev_cb (ev_cons (ev_lc (toks := [.slot 4]) (e1 := eQ d p S f (some (.own (.lst vs)))) (ev_cons rfl ev_nil) rfl rfl rfl rfl rfl t rfl) ev_nil) rfl al) rfl)) ev_next) rfl ?_
  exact ev_ret (ev_op (ev_cb (ev_cons rfl ev_nil) rfl rp) rfl rfl rfl q)
theorem right_ok {N : Nat} {d : D} {p : List Mod} (wf : Wf p) (nm : Nm p) (h : Src N d) (hN : N + 1000 ≤ 2 ^ 60) (hp : 1 ≤ p.length) : ∃ d', fn_right [d, projV p] = .ok (.val (.bl true)) [d'] ∧ Src (N + 1000) d' := by
  have rp := repr_proj wf nm
  obtain ⟨S, hS⟩ : ∃ S, S = (projP p).shown := ⟨_, rfl⟩
  rw [← hS] at rp
  have hc := has_cycle_ok wf nm
  rcases cycle_ok wf nm with ⟨cy, ac⟩ | ⟨rs, cy, cr⟩
  · have hc' : fn_has_cycle [projV p] = .ok (.val (.bl false)) [] := by
      rcases hc with ⟨h1, _⟩ | ⟨_, q, lf, qne⟩
      · exact h1
      · exact absurd ac (lft_noAcyc lf qne)
    obtain ⟨vs, d1, e1, s1, kv, vl⟩ := walks_ok (f := .non) (S := S) (r := none) wf nm h (by omega) hp
    obtain ⟨o, d2, e2, s2, ko⟩ := oddE [some (.frz (projV p)), some (.frz (.str S)), some (.frz .non), none, none, none] s1 (by omega)
    have q1 : eqD (.bl true) (.bl false) = some (.val (.bl false)) := rfl
    have q2 : addD (.lst vs) (.lst [.tup [], .non, .bl true, .str "", .lst [], .dct [], o, .tup [.tup []]]) = some (.new (.lst (vs ++ [.tup [], .non, .bl true, .str "", .lst [], .dct [], o, .tup [.tup []]]))) := addD_l (by rw [vl]; exact Nat.le_of_ble_eq_true rfl)
    have st1 : fAsg (fTup (fCons (fCB (c1 reprD) (fCons (fVar 1) fNil)) (fCons (fCall [false] fn_cycle (fCons (fVar 1) fNil)) fNil))) (Gtup [Gname 2, Gname 3]) [some (.par d), some (.frz (projV p)), none, none, none, none, none] = .nx (eQ d p S .non none) :=
      ev_asg (ev_tup (ev_cons (ev_cb (ev_cons rfl ev_nil) rfl rp) (ev_cons (ev_call (ev_cons rfl ev_nil) rfl rfl cy rfl) ev_nil)) rfl (Nat.le_of_ble_eq_true rfl)) rfl
    have st2 : fIfS (fB (fOp eqD (fOp isD (fVar 3) (fC .non)) (fCall [false] fn_has_cycle (fCons (fVar 1) fNil)))) (fRet (fC (.bl false))) fNext (eQ d p S .non none) = .nx (eQ d p S .non none) :=
      ev_ifS (p := false) (ev_B (ev_op (ev_op rfl ev_c rfl rfl rfl) (ev_call (ev_cons rfl ev_nil) rfl rfl hc' rfl) rfl rfl q1) rfl) ev_next
    have kr : ∀ v ∈ vs ++ [.tup [], .non, .bl true, .str "", .lst [], .dct [], o, .tup [.tup []]], Kd v := fun v hv => by
      rcases List.mem_append.mp hv with hv | hv
      · exact kv v hv
      · simp only [List.mem_cons, List.not_mem_nil, or_false] at hv
        rcases hv with rfl | rfl | rfl | rfl | rfl | rfl | rfl | rfl
        all_goals first
          | exact ko
          | (refine .of rfl ?_; intro _ z; cases z; done)
          | exact .tup (Nat.zero_le _) fun x hx => by cases hx
          | exact .tup (Nat.le_of_ble_eq_true rfl) fun x hx => by rw [List.mem_singleton.mp hx]; rfl
    have st3 : fAsg (fOp addD (fLc (fCons (fC (.int 6)) fNil) rng1 (Gname 5) fYes (fCall [true, false] fn_walk (fCons (fVar 0) (fCons (fVar 1) fNil))) [5]) (fLst (fCons (fTup fNil) (fCons (fC .non) (fCons (fC (.bl true)) (fCons (fC (.str "")) (fCons (fLst fNil) (fCons fDNew (fCons (fCall [true] fn_odd (fCons (fVar 0) fNil)) (fCons (fTup (fCons (fTup fNil) fNil)) fNil)))))))))) (Gname 4) (eQ d p S .non none) = .nx (eQ d2 p S .non (some (.own (.lst (vs ++ [.tup [], .non, .bl true, .str "", .lst [], .dct [], o, .tup [.tup []]]))))) :=
      ev_asg (ev_op e1 (ev_lst (ev_cons rfl (ev_cons rfl (ev_cons rfl (ev_cons rfl (ev_cons rfl (ev_cons rfl (ev_cons e2 (ev_cons rfl ev_nil)))))))) rfl (Nat.le_of_ble_eq_true rfl)) rfl rfl q2) (gn_new rfl .none)
    have lk := look_ok (d := d2) (f := .non) wf nm kr (by rw [List.length_append, vl]; exact Nat.le_of_ble_eq_true rfl) hS
    refine ⟨d2, ?_, s2.mono (by omega)⟩
    unfold fn_right F_right
    apply ev_fnR (env' := [some (.par d), some (.frz (projV p)), none, none, none, none, none]) (t := .val (.bl true)) (e1 := eQ d2 p S .non (some (.own (.lst (vs ++ [.tup [], .non, .bl true, .str "", .lst [], .dct [], o, .tup [.tup []]]))))) rfl
    · exact ev_seq st1 rfl (ev_seq st2 rfl (ev_seq st3 rfl (ev_seq (ev_ifS (p := false) (ev_B (ev_op rfl ev_c rfl rfl rfl) rfl) ev_next) rfl lk)))
    all_goals rfl
  · have na := cr.noAcyc wf.nd
    have hc' : fn_has_cycle [projV p] = .ok (.val (.bl true)) [] := by
      rcases hc with ⟨_, ac⟩ | ⟨h1, _⟩
      · exact absurd ac na
      · exact h1
    have rl : rs.length ≤ 60 := by
      have := nodup_le cr.nd cr.inn
      unfold nms at this
      rw [List.length_map] at this
      have := wf.pl
      omega
    have rn : ∀ z ∈ rs, NameOk z := fun z hz => nm z (cr.inn z hz)
    have kf : Kd (.tup (rs.map D.str)) := .strs (by omega)
    have ir := is_row_ok wf nm kf
    have sh := shows_ok wf kf
    rw [row_of_cyc cr] at ir sh
    have rml : (rs.map D.str).length ≤ 60 := by rw [List.length_map]; exact rl
    obtain ⟨vs, d1, e1, s1, kv, vl⟩ := walks_ok (f := .tup (rs.map D.str)) (S := S) (r := none) wf nm h (by omega) hp
    obtain ⟨o, d2, e2, s2, ko⟩ := oddE [some (.frz (projV p)), some (.frz (.str S)), some (.frz (.tup (rs.map D.str))), none, none, none] s1 (by omega)
    have q1 : eqD (.bl false) (.bl true) = some (.val (.bl false)) := rfl
    have q2 : addD (.lst vs) (.lst [.tup [], .non, .bl true, .str "", .lst [], .dct [], o, .tup [.tup []]]) = some (.new (.lst (vs ++ [.tup [], .non, .bl true, .str "", .lst [], .dct [], o, .tup [.tup []]]))) := addD_l (by rw [vl]; exact Nat.le_of_ble_eq_true rfl)
    have st1 : fAsg (fTup (fCons (fCB (c1 reprD) (fCons (fVar 1) fNil)) (fCons (fCall [false] fn_cycle (fCons (fVar 1) fNil)) fNil))) (Gtup [Gname 2, Gname 3]) [some (.par d), some (.frz (projV p)), none, none, none, none, none] = .nx (eQ d p S (.tup (rs.map D.str)) none) :=
      ev_asg (ev_tup (ev_cons (ev_cb (ev_cons rfl ev_nil) rfl rp) (ev_cons (ev_call (ev_cons rfl ev_nil) rfl rfl cy rfl) ev_nil)) rfl (Nat.le_of_ble_eq_true rfl)) rfl
    have st2 : fIfS (fB (fOp eqD (fOp isD (fVar 3) (fC .non)) (fCall [false] fn_has_cycle (fCons (fVar 1) fNil)))) (fRet (fC (.bl false))) fNext (eQ d p S (.tup (rs.map D.str)) none) = .nx (eQ d p S (.tup (rs.map D.str)) none) :=
      ev_ifS (p := false) (ev_B (ev_op (ev_op rfl ev_c rfl rfl rfl) (ev_call (ev_cons rfl ev_nil) rfl rfl hc' rfl) rfl rfl q1) rfl) ev_next
    have kr : ∀ v ∈ vs ++ [.tup [], .non, .bl true, .str "", .lst [], .dct [], o, .tup [.tup []]], Kd v := fun v hv => by
      rcases List.mem_append.mp hv with hv | hv
      · exact kv v hv
      · simp only [List.mem_cons, List.not_mem_nil, or_false] at hv
        rcases hv with rfl | rfl | rfl | rfl | rfl | rfl | rfl | rfl
        all_goals first
          | exact ko
          | (refine .of rfl ?_; intro _ z; cases z; done)
          | exact .tup (Nat.zero_le _) fun x hx => by cases hx
          | exact .tup (Nat.le_of_ble_eq_true rfl) fun x hx => by rw [List.mem_singleton.mp hx]; rfl
    have st3 : fAsg (fOp addD (fLc (fCons (fC (.int 6)) fNil) rng1 (Gname 5) fYes (fCall [true, false] fn_walk (fCons (fVar 0) (fCons (fVar 1) fNil))) [5]) (fLst (fCons (fTup fNil) (fCons (fC .non) (fCons (fC (.bl true)) (fCons (fC (.str "")) (fCons (fLst fNil) (fCons fDNew (fCons (fCall [true] fn_odd (fCons (fVar 0) fNil)) (fCons (fTup (fCons (fTup fNil) fNil)) fNil)))))))))) (Gname 4) (eQ d p S (.tup (rs.map D.str)) none) = .nx (eQ d2 p S (.tup (rs.map D.str)) (some (.own (.lst (vs ++ [.tup [], .non, .bl true, .str "", .lst [], .dct [], o, .tup [.tup []]]))))) :=
      ev_asg (ev_op e1 (ev_lst (ev_cons rfl (ev_cons rfl (ev_cons rfl (ev_cons rfl (ev_cons rfl (ev_cons rfl (ev_cons e2 (ev_cons rfl ev_nil)))))))) rfl (Nat.le_of_ble_eq_true rfl)) rfl rfl q2) (gn_new rfl .none)
    have ul : (vs ++ [.tup [], .non, .bl true, .str "", .lst [], .dct [], o, .tup [.tup []]]).length ≤ 20 := by rw [List.length_append, vl]; exact Nat.le_of_ble_eq_true rfl
    generalize vs ++ [.tup [], .non, .bl true, .str "", .lst [], .dct [], o, .tup [.tup []]] = us at kr st3 ul
    have m1 : mulD (.tup (rs.map D.str)) (.int 2) = some (.val (.tup (List.replicate 2 (rs.map D.str)).flatten)) := by
      have : mulT (.tup (rs.map D.str)) (.int 2) = some (.val (.tup (List.replicate 2 (rs.map D.str)).flatten)) := by
        unfold mulT
        simp only
        rw [if_pos ⟨by simpa using cr.ne, by decide, by decide, by omega⟩]
        rfl
      exact this
    have m2 := turn_add (ss := rs) (by omega) (env := eQ d2 p S (.tup (rs.map D.str)) (some (.own (.lst us)))) (i := 3) rfl
    have m3 : slD (.tup (rs.map D.str)) none (some (-1)) = some (.val (.tup (cutD (rs.map D.str) none (some (-1))))) := slD_t
    have m4 : slD (.tup (rs.map D.str)) none (some 1) = some (.val (.tup ((rs.take 1).map D.str))) := slD_tk (k := 1)
    have m5 : addD (.tup (rs.map D.str)) (.tup ((rs.take 1).map D.str)) = some (.val (.tup ((rs ++ rs.take 1).map D.str))) := by
      rw [addD_t (by simp; omega), List.map_append]
    obtain ⟨ws, hws⟩ : ∃ ws : List D, ws = [.tup (rs.map D.str), .tup (List.replicate 2 (rs.map D.str)).flatten, .tup ((rs.drop 1 ++ rs.take 1).map D.str), .tup (rs.map D.str).reverse, .tup (cutD (rs.map D.str) none (some (-1))), .lst (rs.map D.str), .tup ((rs ++ rs.take 1).map D.str)] := ⟨_, rfl⟩
    have kw : ∀ v ∈ ws, Kd v := fun v hv => by
      rw [hws] at hv
      simp only [List.mem_cons, List.not_mem_nil, or_false] at hv
      rcases hv with rfl | rfl | rfl | rfl | rfl | rfl | rfl
      · exact kf
      · refine .tup ?_ fun x hx => ?_
        · simp
          omega
        · rw [List.mem_flatten] at hx
          obtain ⟨l, hl, hx⟩ := hx
          rw [(List.mem_replicate.mp hl).2] at hx
          exact ks1 _ x hx
      · exact .strs (by simp; omega)
      · rw [← List.map_reverse]
        exact .strs (by simp; omega)
      · exact Kd_cut (by omega) (ks1 _)
      · refine .of rfl ?_
        intro _ z
        cases z
      · exact .strs (by simp; omega)
    have wl : ws.length = 7 := by rw [hws]; rfl
    have a1 : addD (.lst us) (.lst ws) = some (.new (.lst (us ++ ws))) := addD_l (by omega)
    have st5 : fAsg (fOp addD (fVar 4) (fLst (fCons (fVar 3) (fCons (fOp mulD (fVar 3) (fC (.int 2))) (fCons (fOp addD (fSl slD (fVar 3) (some (fC (.int 1))) none) (fSl slD (fVar 3) none (some (fC (.int 1))))) (fCons (fRevT (fVar 3)) (fCons (fSl slD (fVar 3) none (some (fUn negD (fC (.int 1))))) (fCons (fCB (c1 listD) (fCons (fVar 3) fNil)) (fCons (fOp addD (fVar 3) (fSl slD (fVar 3) none (some (fC (.int 1))))) fNil))))))))) (Gname 4) (eQ d2 p S (.tup (rs.map D.str)) (some (.own (.lst us)))) = .nx (eQ d2 p S (.tup (rs.map D.str)) (some (.own (.lst (us ++ ws))))) := by
      rw [hws] at a1 ⊢
      exact ev_asg (ev_op rfl (ev_lst (ev_cons rfl (ev_cons (ev_op rfl ev_c rfl rfl m1) (ev_cons m2 (ev_cons rfl (ev_cons (ev_sl rfl ev_opt0 (ev_opt1 (ev_un ev_c rfl rfl) rfl) rfl m3) (ev_cons rfl (ev_cons (ev_op rfl (ev_sl rfl ev_opt0 (ev_opt1 ev_c rfl) rfl m4) rfl rfl m5) ev_nil))))))) rfl (Nat.le_of_ble_eq_true rfl)) rfl rfl a1) (gn_new rfl .own)
    obtain ⟨bs, d3, e3, s3, kb, bl⟩ := bents_ok (p := p) (S := S) (r := some (.own (.lst (us ++ ws)))) s2 (by omega) cr.ne rl rn
    have a2 : addD (.lst (us ++ ws)) (.lst bs) = some (.new (.lst (us ++ ws ++ bs))) := addD_l (by simp; omega)
    have st6 : fAsg (fOp addD (fVar 4) (fLc (fCons (fC (.int 6)) fNil) rng1 (Gname 5) fYes (fCall [true, false] (fn_bent 8) (fCons (fVar 0) (fCons (fVar 3) fNil))) [5])) (Gname 4) (eQ d2 p S (.tup (rs.map D.str)) (some (.own (.lst (us ++ ws))))) = .nx (eQ d3 p S (.tup (rs.map D.str)) (some (.own (.lst (us ++ ws ++ bs))))) :=
      ev_asg (ev_op rfl e3 rfl rfl a2) (gn_new rfl .own)
    have lk := look_ok (d := d3) (f := .tup (rs.map D.str)) (vs := us ++ ws ++ bs) wf nm (fun v hv => by
      rcases List.mem_append.mp hv with hv | hv
      · rcases List.mem_append.mp hv with hv | hv
        · exact kr v hv
        · exact kw v hv
      · exact kb v hv) (by simp; omega) hS
    have c4 : fOr (fNot (fB (fCall [false, false] fn_is_row (fCons (fVar 1) (fCons (fVar 3) fNil))))) (fB (fOp isNotD (fCall [false, false] fn_shows_cycle (fCons (fVar 1) (fCons (fVar 3) fNil))) (fC (.bl true)))) (eQ d2 p S (.tup (rs.map D.str)) (some (.own (.lst us)))) = .ok false (eQ d2 p S (.tup (rs.map D.str)) (some (.own (.lst us)))) :=
      ev_or (ev_not (p := true) (ev_B (ev_call (ev_cons rfl (ev_cons rfl ev_nil)) rfl rfl ir rfl) rfl)) (ev_B (ev_op (ev_call (ev_cons rfl (ev_cons rfl ev_nil)) rfl rfl sh rfl) ev_c rfl rfl rfl) rfl)
    refine ⟨d3, ?_, s3.mono (by omega)⟩
    unfold fn_right F_right
    apply ev_fnR (env' := [some (.par d), some (.frz (projV p)), none, none, none, none, none]) (t := .val (.bl true)) (e1 := eQ d3 p S (.tup (rs.map D.str)) (some (.own (.lst (us ++ ws ++ bs))))) rfl
    · refine ev_seq st1 rfl (ev_seq st2 rfl (ev_seq st3 rfl (ev_seq (ev_ifS (p := true) (ev_B (ev_op rfl ev_c rfl rfl rfl) rfl) ?_) rfl lk)))
      exact ev_seq (ev_ifS c4 ev_next) rfl (ev_seq st5 rfl st6)
    all_goals rfl
theorem min2_k {i j : Nat} : c2 min2 [.int i, .int j] = some (.val (.int ((min i j : Nat) : Int))) := by
  show some (Tok.val (.int (if (j : Int) < (i : Int) then (j : Int) else (i : Int)))) = _
  congr 3
  split <;> omega
theorem max2_k {i j : Nat} : c2 max2 [.int i, .int j] = some (.val (.int ((max i j : Nat) : Int))) := by
  show some (Tok.val (.int (if (j : Int) > (i : Int) then (j : Int) else (i : Int)))) = _
  congr 3
  split <;> omega
theorem law_ok (ns : List Int) (h : ns.length ≤ 63) : ∃ qs, fn_law [.scr ns] = .ok (.val (.bl true)) qs := by
  obtain ⟨m, hm⟩ : ∃ m : Nat, m = max 1 (min 3 ns.length) := ⟨_, rfl⟩
  have q1 : c2 min2 [.int 3, .int (ns.length : Int)] = some (.val (.int ((min 3 ns.length : Nat) : Int))) := min2_k (i := 3)
  have q2 : c2 max2 [.int 1, .int ((min 3 ns.length : Nat) : Int)] = some (.val (.int (m : Int))) := by rw [hm]; exact max2_k (i := 1)
  have w0 : Wf [] := ⟨List.nodup_nil, (fun _ h => by cases h), Nat.zero_le _, (fun _ h => by cases h)⟩
  have n0 : Nm [] := fun _ h => by cases h
  have c0 : fn_cycle [.tup []] = .ok (.val .non) [] := by
    rcases cycle_ok w0 n0 with ⟨h1, _⟩ | ⟨rs, _, cr⟩
    · exact h1
    · cases e : rs with
      | nil => exact absurd e cr.ne
      | cons a b => exact absurd (cr.inn a (by rw [e]; exact List.mem_cons_self)) (by simp [nms])
  have sc0 : fn_shows_cycle [.tup [], .tup []] = .ok (.val (.bl false)) [] := shows_ok (v := .tup []) w0 (.tup (Nat.zero_le _) fun _ h => by cases h)
  obtain ⟨e, eL, e1, e2, e3, rfl, f1, f2, f3⟩ := loop_inv (G := Gname 1) (b := B_law_2) (fun k e => ∃ e1 e2 e3, e = [some (.frz (.scr ns)), e1, e2, e3] ∧ FreeE e1 ∧ FreeE e2 ∧ FreeE e3) (rangeL 0 (m : Int).toNat) (by
    rintro k x e hx ⟨e1, e2, e3, rfl, f1, f2, f3⟩
    obtain ⟨hk, rfl⟩ := rangeL_at hx
    rw [Int.zero_add]
    obtain ⟨d0, w0, s0⟩ := start_ok (ns := ns) (k := k) (by omega)
    obtain ⟨e, eL, d1, e3', rfl, s1, f3'⟩ := loop_inv (G := Gname 3) (b := B_law_1) (fun i e => ∃ d' e3, e = [some (.frz (.scr ns)), some (.frz (.int k)), some (.own d'), e3] ∧ Src (4000 * i) d' ∧ FreeE e3) (rangeL 0 6) (by
      rintro i x e hx ⟨d', e3, rfl, s, f3⟩
      obtain ⟨hi, rfl⟩ := rangeL_at hx
      obtain ⟨p, d2, e1, s1, po, p1, p2, il⟩ := project_ok (mo := 10) (wi := 6) s (by omega) (by decide) (by decide) (by decide)
      have wf : Wf p := po.wf (by omega) fun m hm => Nat.le_trans (il m hm) (by decide)
      obtain ⟨d3, e2, s2⟩ := right_ok wf po.nms s1 (by omega) p1
      refine ⟨[some (.frz (.scr ns)), some (.frz (.int k)), some (.own d'), some (.frz (.int (0 + i)))], [some (.frz (.scr ns)), some (.frz (.int k)), some (.own d3), some (.frz (.int (0 + i)))], gn_to rfl f3 rfl, ?_, d3, _, rfl, s2.mono (by omega), .frz⟩
      unfold B_law_1
      exact ev_ifS (p := false) (ev_not (p := true) (ev_B (ev_call (ev_cons rfl (ev_cons (ev_call (ev_cons rfl (ev_cons ev_c (ev_cons ev_c ev_nil))) rfl rfl e1 rfl) ev_nil)) rfl rfl e2 rfl) rfl)) ev_next)
      (env := [some (.frz (.scr ns)), some (.frz (.int k)), some (.own d0), e3]) ⟨d0, e3, rfl, s0, f3⟩
    refine ⟨[some (.frz (.scr ns)), some (.frz (.int k)), e2, e3], [some (.frz (.scr ns)), some (.frz (.int k)), some (.own d1), e3'], gn_to rfl f1 rfl, ?_, _, _, _, rfl, .frz, .own, f3'⟩
    unfold B_law_2
    refine ev_seq (e2 := [some (.frz (.scr ns)), some (.frz (.int k)), some (.own d0), e3]) (ev_asg (ev_call (ev_cons rfl (ev_cons rfl ev_nil)) rfl rfl w0 rfl) (gn_new rfl f2)) rfl (ev_seq (e2 := [some (.frz (.scr ns)), some (.frz (.int k)), some (.own d1), e3']) (ev_for' (toks := [.val (.int 6)]) (e1 := [some (.frz (.scr ns)), some (.frz (.int k)), some (.own d0), e3]) (js := []) (ev_cons ev_c ev_nil) rfl rfl rfl eL rfl) rfl ?_)
    exact ev_ifS (p := false) (ev_or (ev_B (ev_op (ev_call (ev_cons rfl ev_nil) rfl rfl c0 rfl) ev_c rfl rfl rfl) rfl) (ev_B (ev_op (ev_call (ev_cons rfl (ev_cons rfl ev_nil)) rfl rfl sc0 rfl) ev_c rfl rfl rfl) rfl)) ev_next)
    (env := [some (.frz (.scr ns)), none, none, none]) ⟨_, _, _, rfl, .none, .none, .none⟩
  refine ⟨[], ?_⟩
  unfold fn_law F_law
  apply ev_fnR (env' := [some (.frz (.scr ns)), none, none, none]) rfl
  · walk_at "ev"
  all_goals rfl
end FL.Ck04

set_option Elab.async false
set_option linter.all false
set_option maxRecDepth 100000
set_option maxHeartbeats 0
set_option exponentiation.threshold 100000
namespace FL.Ck04
open PySem PySem.Spec PyProof.Rows L2 GL FL
def topS (i : Nat) : Stmt := PySem.Challenge.pw_importorder_k04_cycles.main.body.getD i (.Pass ⟨0, 0, 0, 0⟩)
abbrev s_by_name : Stmt := topS 1
abbrev nm_by_name : List Str := ["project", "module"]
theorem sc_by_name : FnScope nm_by_name ["project"] (defScope s_by_name) := ⟨rfl, rfl, rfl, by decide +kernel, rfl, by decide +kernel, by decide +kernel⟩
abbrev s_cycle : Stmt := topS 2
abbrev nm_cycle : List Str := ["project", "left", "free", "name", "row", "module", "other"]
theorem sc_cycle : FnScope nm_cycle ["project"] (defScope s_cycle) := ⟨rfl, rfl, rfl, by decide +kernel, rfl, by decide +kernel, by decide +kernel⟩
abbrev s_shows_cycle : Stmt := topS 3
abbrev nm_shows_cycle : List Str := ["project", "value", "known", "name", "other"]
theorem sc_shows_cycle : FnScope nm_shows_cycle ["project", "value"] (defScope s_shows_cycle) := ⟨rfl, rfl, rfl, by decide +kernel, rfl, by decide +kernel, by decide +kernel⟩
abbrev s_start : Stmt := topS 5
abbrev nm_start : List Str := ["_law_script", "_law_k", "_law_cell", "_law_large"]
theorem sc_start : FnScope nm_start ["_law_script", "_law_k"] (defScope s_start) := ⟨rfl, rfl, rfl, by decide +kernel, rfl, by decide +kernel, by decide +kernel⟩
abbrev s_draw : Stmt := topS 6
abbrev nm_draw : List Str := ["_law_source", "_law_limit", "_law_digit", "_law_prime", "_law_mixed_here"]
theorem sc_draw : FnScope nm_draw ["_law_source", "_law_limit"] (defScope s_draw) := ⟨rfl, rfl, rfl, by decide +kernel, rfl, by decide +kernel, by decide +kernel⟩
abbrev s_choice : Stmt := topS 7
abbrev nm_choice : List Str := ["_law_source", "_law_items"]
theorem sc_choice : FnScope nm_choice ["_law_source", "_law_items"] (defScope s_choice) := ⟨rfl, rfl, rfl, by decide +kernel, rfl, by decide +kernel, by decide +kernel⟩
abbrev s_mixed : Stmt := topS 8
abbrev nm_mixed : List Str := ["_law_source", "_law_items", "_law_left", "_law_turn"]
theorem sc_mixed : FnScope nm_mixed ["_law_source", "_law_items"] (defScope s_mixed) := ⟨rfl, rfl, rfl, by decide +kernel, rfl, by decide +kernel, by decide +kernel⟩
abbrev s_names : Stmt := topS 9
abbrev nm_names : List Str := ["_law_source", "_law_count", "_law_stem", "_law_first", "_law_found", "_law_more", "_law_at"]
theorem sc_names : FnScope nm_names ["_law_source", "_law_count"] (defScope s_names) := ⟨rfl, rfl, rfl, by decide +kernel, rfl, by decide +kernel, by decide +kernel⟩
abbrev s_project : Stmt := topS 10
abbrev nm_project : List Str := ["_law_source", "_law_most", "_law_wide", "_law_mixed_here", "_law_found", "_law_has_cycles", "_law_at", "_law_name", "_law_others", "_law_limit", "_law_some", "_law_other"]
theorem sc_project : FnScope nm_project ["_law_source", "_law_most", "_law_wide"] (defScope s_project) := ⟨rfl, rfl, rfl, by decide +kernel, rfl, by decide +kernel, by decide +kernel⟩
abbrev s_imports : Stmt := topS 11
abbrev nm_imports : List Str := ["_law_project_here", "_law_name", "_law_item"]
theorem sc_imports : FnScope nm_imports ["_law_project_here", "_law_name"] (defScope s_imports) := ⟨rfl, rfl, rfl, by decide +kernel, rfl, by decide +kernel, by decide +kernel⟩
abbrev s_has_cycle : Stmt := topS 12
abbrev nm_has_cycle : List Str := ["_law_project_here", "_law_left", "_law_free", "_law_item", "_law_name", "_law_other"]
theorem sc_has_cycle : FnScope nm_has_cycle ["_law_project_here"] (defScope s_has_cycle) := ⟨rfl, rfl, rfl, by decide +kernel, rfl, by decide +kernel, by decide +kernel⟩
abbrev s_odd : Stmt := topS 13
abbrev nm_odd : List Str := ["_law_source", "_law_odd_here", "_law_turn"]
theorem sc_odd : FnScope nm_odd ["_law_source"] (defScope s_odd) := ⟨rfl, rfl, rfl, by decide +kernel, rfl, by decide +kernel, by decide +kernel⟩
abbrev s_bent : Stmt := topS 14
abbrev nm_bent : List Str := ["_law_source", "_law_value", "_law_at", "_law_way"]
theorem sc_bent : FnScope nm_bent ["_law_source", "_law_value"] (defScope s_bent) := ⟨rfl, rfl, rfl, by decide +kernel, rfl, by decide +kernel, by decide +kernel⟩
abbrev s_is_row : Stmt := topS 15
abbrev nm_is_row : List Str := ["_law_project_here", "_law_value", "_law_names_here", "_law_item", "_law_one", "_law_other"]
theorem sc_is_row : FnScope nm_is_row ["_law_project_here", "_law_value"] (defScope s_is_row) := ⟨rfl, rfl, rfl, by decide +kernel, rfl, by decide +kernel, by decide +kernel⟩
abbrev s_walk : Stmt := topS 16
abbrev nm_walk : List Str := ["_law_source", "_law_project_here", "_law_row", "_law_turn", "_law_some"]
theorem sc_walk : FnScope nm_walk ["_law_source", "_law_project_here"] (defScope s_walk) := ⟨rfl, rfl, rfl, by decide +kernel, rfl, by decide +kernel, by decide +kernel⟩
abbrev s_right : Stmt := topS 17
abbrev nm_right : List Str := ["_law_source", "_law_project_here", "_law_before", "_law_found", "_law_rows", "_law_turn", "_law_value"]
theorem sc_right : FnScope nm_right ["_law_source", "_law_project_here"] (defScope s_right) := ⟨rfl, rfl, rfl, by decide +kernel, rfl, by decide +kernel, by decide +kernel⟩
abbrev s_law : Stmt := topS 18
abbrev nm_law : List Str := ["_law_script", "_law_k", "_law_source", "_law_turn"]
theorem sc_law : FnScope nm_law ["_law_script"] (defScope s_law) := ⟨rfl, rfl, rfl, by decide +kernel, rfl, by decide +kernel, by decide +kernel⟩
section
variable {P : Program} {w : World} {K : PySem.W.Frag} {mg : Str → Option Value} {base : Heap} {ca : Str → Addr}
theorem ok_by_name {f : Addr} {fd : FuncData} (B : Bl mg) (F : FnP K "by_name" s_by_name f fd) (hm : mg "by_name" = some (.ref f))   : DnF P w K mg base ca 1 "by_name" [false] fn_by_name :=
  dnF_of (k := 0) (m := [false]) (fb := F_by_name) F hm sc_by_name 1 rfl rfl (fun _ _ _ _ _ _ us hl => match us, hl with | [_], _ => rfl) (fun cdv A outer s H E hG hr => ⟨_, by exact (fss_one (fs_ret (fe_dc (own := [("module", 1)]) rfl sc_by_name.nd (ki_seq K (fe_var (pv 0))) (blkOk_by (N := nm_by_name) (sc := defScope s_by_name) (by decide +kernel)) (fun _ _ _ _ _ => (fg_name (pg_name (i := 1) sc_by_name.nd rfl (.inl rfl)))) (fun _ _ _ _ _ => fts_nil) (fun _ _ _ _ _ => (fe_ix (kix_D K (hu_of hr)) (fe_var (pv 1)) (fe_i pe_int) (fun _ _ => rfl))) (fun _ _ _ _ _ => (fe_var (pv 1))) (by decide)) (fun p => ps_ret p)))⟩)
theorem ok_cycle {f : Addr} {fd : FuncData} (B : Bl mg) (F : FnP K "cycle" s_cycle f fd) (hm : mg "cycle" = some (.ref f))   : DnF P w K mg base ca 1 "cycle" [false] fn_cycle :=
  dnF_of (k := 0) (m := [false]) (fb := F_cycle) F hm sc_cycle 6 rfl rfl (fun _ _ _ _ _ _ us hl => match us, hl with | [_], _ => rfl) (fun cdv A outer s H E hG hr => ⟨_, by exact (fss_cons (fs_parT K (fa_cons (fe_dc (own := [("module", 5)]) rfl sc_cycle.nd (ki_seq K (fe_var (pv 0))) (blkOk_by (N := nm_cycle) (sc := defScope s_cycle) (by decide +kernel)) (fun _ _ _ _ _ => (fg_name (pg_name (i := 5) sc_cycle.nd rfl (.inl rfl)))) (fun _ _ _ _ _ => fts_nil) (fun _ _ _ _ _ => (fe_ix (kix_D K (hu_of hr)) (fe_var (pv 5)) (fe_i pe_int) (fun _ _ => rfl))) (fun _ _ _ _ _ => (fe_ix (kix_D K (hu_of hr)) (fe_var (pv 5)) (fe_i pe_int) (fun _ _ => rfl))) (by decide)) (fa_cons (fe_lst (fa_cons (fe_s pe_str) fa_nil)) fa_nil)) (kg_tup K (n := 2) (fgs_cons (fg_name (pg_name (i := 1) sc_cycle.nd rfl (.inr rfl))) (fgs_cons (fg_name (pg_name (i := 2) sc_cycle.nd rfl (.inl rfl))) fgs_nil (fun p q => pgs_cons p q)) (fun p q => pgs_cons p q)) rfl (fun p => pg_tup rfl p)) (fun p => pe_tup p) (fun p q => ps_asg p q))
    (fss_cons (fs_while cx_passes (ft_cmp (kop_ne K hr.units) (fe_var (pv 2)) (fe_lst fa_nil) (nomark _)) (fss_cons (fs_setLcK (i := 2) (own := [("name", 3)]) rfl sc_cycle.nd rfl rfl (sw_true rfl rfl rfl (by decide +kernel)) (pv 1) (blkOk_by (N := nm_cycle) (sc := defScope s_cycle) (by decide +kernel)) (fun _ _ _ _ _ => (fg_name (pg_name (i := 3) sc_cycle.nd rfl (.inl rfl)))) (fun _ _ _ _ _ => (fts_one (ft_not (ft_val (fe_cb (kca_any K rfl) (fa_cons (fe_lc (own := [("other", 6)]) rfl sc_cycle.nd (ki_seq K (fe_ix (kix_D K (hu_of hr)) (fe_var (pv 1)) (fe_var (pv 3)) (fun _ _ => rfl))) (blkOk_by (N := nm_cycle) (by kernel_rfl)) (fun _ _ _ _ _ => (fg_name (pg_name (i := 6) sc_cycle.nd rfl (.inl rfl)))) (fun _ _ _ _ _ => fts_nil) (fun _ _ _ _ _ => (fe_cmp (kop_in K (hu_of hr)) (fe_var (pv 6)) (fe_var (pv 1)) (by with_unfolding_all rfl))) (by decide)) fa_nil) (fun h p => pe_callB h (by rfl) B.any (by decide +kernel) p)) (fun p => pt_val p))))) (fun _ _ _ _ _ => (fe_var (pv 3))) (by decide))
    (fss_one (fs_for cx_passes rfl (ki_seq K (fe_var (pv 2))) (fg_name (pg_name (i := 3) sc_cycle.nd rfl (.inl rfl))) (fss_one (fs_expr (fe_dpop (fe_var (pv 1)) (fe_var (pv 3)) (fun h p => pe_dpop1 h p ⟨rfl, rfl, rfl, rfl⟩)) (fun p => ps_expr p)))))))
    (fss_cons (fs_if (ft_cmp (kop_eq K hr.units) (fe_var (pv 1)) (fe_dnew pe_dnewK) (nomark _)) (fss_one (fs_ret (fe_n pe_non) (fun p => ps_ret p))) fss_nil)
    (fss_cons (fs_set (fe_lst (fa_cons (fe_ix (kix_D K (hu_of hr)) (fe_cb (kca_sortedY K rfl) (fa_cons (fe_var (pv 1)) fa_nil) (fun h p => pe_callB h (by rfl) B.sorted (by decide +kernel) p)) (fe_i pe_int) (fun _ _ => rfl)) fa_nil)) (fun p => ps_set (i := 4) sc_cycle.nd rfl (.inl rfl) p))
    (fss_cons (fs_while cx_passes (ft_cmp (kop_notIn K (hu_of hr)) (fe_ix (kix_D K (hu_of hr)) (fe_var (pv 4)) (fe_un fun_neg (fe_i pe_int)) (fun _ _ => rfl)) (fe_sl (ksl_D K) (fe_var (pv 4)) fo_none (fo_some (fe_un fun_neg (fe_i pe_int)))) (by with_unfolding_all rfl)) (fss_one (fs_expr (ke_mutL K mt_app (fe_var (pv 4)) (fa_cons (fe_ix (kix_D K (hu_of hr)) (fe_lc (own := [("other", 6)]) rfl sc_cycle.nd (ki_seq K (fe_ix (kix_D K (hu_of hr)) (fe_var (pv 1)) (fe_ix (kix_D K (hu_of hr)) (fe_var (pv 4)) (fe_un fun_neg (fe_i pe_int)) (fun _ _ => rfl)) (fun _ _ => rfl))) (blkOk_by (N := nm_cycle) (sc := defScope s_cycle) (by decide +kernel)) (fun _ _ _ _ _ => (fg_name (pg_name (i := 6) sc_cycle.nd rfl (.inl rfl)))) (fun _ _ _ _ _ => (fts_one (ft_cmp (kop_in K (hu_of hr)) (fe_var (pv 6)) (fe_var (pv 1)) (by with_unfolding_all rfl)))) (fun _ _ _ _ _ => (fe_var (pv 6))) (by decide)) (fe_i pe_int) (fun _ _ => rfl)) fa_nil) (fun h p => pe_bm PySem.F.plainAttrs_list PySem.F.slot_list_append PySem.F.type_list_append mt_append h p)) (fun p => ps_expr p))))
    (fss_one (fs_ret (fe_cb (kca_tuple K) (fa_cons (fe_sl (ksl_D K) (fe_var (pv 4)) (fo_some (ke_idx K (fe_var (pv 4)) (fa_cons (fe_ix (kix_D K (hu_of hr)) (fe_var (pv 4)) (fe_un fun_neg (fe_i pe_int)) (fun _ _ => rfl)) fa_nil) (fun h p => pe_bm PySem.F.plainAttrs_list PySem.F.slot_list_index PySem.F.type_list_index mt_index h p))) (fo_some (fe_un fun_neg (fe_i pe_int)))) fa_nil) (fun h p => pe_callTy h (by rfl) B.tuple (by decide +kernel) p)) (fun p => ps_ret p))))))))⟩)
theorem ok_shows_cycle {f : Addr} {fd : FuncData} (B : Bl mg) (F : FnP K "shows_cycle" s_shows_cycle f fd) (hm : mg "shows_cycle" = some (.ref f)) (d_by_name : DnF P w K mg base ca 1 "by_name" [false] fn_by_name)  : DnF P w K mg base ca 2 "shows_cycle" [false, false] fn_shows_cycle :=
  dnF_of (k := 1) (m := [false, false]) (fb := F_shows_cycle) F hm sc_shows_cycle 3 rfl rfl (fun _ _ _ _ _ _ us hl => match us, hl with | [_, _], _ => rfl) (fun cdv A outer s H E hG hr => ⟨_, by exact (fss_cons (fs_set (ke_d K d_by_name cx_takes hG hr (fa_cons (fe_var (pv 0)) fa_nil)) (fun p => ps_set (i := 2) sc_shows_cycle.nd rfl (.inr rfl) p))
    (fss_cons (fs_if (ft_w (fw_or (ft_not (ft_val (fe_cb (kca_isi K) (fa_cons (fe_var (pv 1)) (fa_cons (fe_ty (pe_bltn (by rfl) B.tuple (by decide +kernel) rfl)) fa_nil)) (fun h p => pe_callB h (by rfl) B.isinstance (by decide +kernel) p)) (fun p => pt_val p))) (fw_or1 (ft_cmp (kop_eqZ K hr.units) (fe_var (pv 1)) (fe_tup fa_nil) (nomark _))))) (fss_one (fs_ret (fe_b pe_bl) (fun p => ps_ret p))) fss_nil)
    (fss_cons (fs_if (ft_not (ft_val (fe_cb (kca_all K rfl) (fa_cons (fe_lc (own := [("name", 3)]) rfl sc_shows_cycle.nd (ki_seq K (fe_var (pv 1))) (blkOk_by (N := nm_shows_cycle) (sc := defScope s_shows_cycle) (by decide +kernel)) (fun _ _ _ _ _ => (fg_name (pg_name (i := 3) sc_shows_cycle.nd rfl (.inl rfl)))) (fun _ _ _ _ _ => fts_nil) (fun _ _ _ _ _ => (fe_and (fe_cb (kca_isi K) (fa_cons (fe_var (pv 3)) (fa_cons (fe_ty (pe_bltn (by rfl) B.str (by decide +kernel) rfl)) fa_nil)) (fun h p => pe_callB h (by rfl) B.isinstance (by decide +kernel) p)) (fe_one (fe_cmp (kop_in K (hu_of hr)) (fe_var (pv 3)) (fe_var (pv 2)) (by with_unfolding_all rfl))))) (by decide)) fa_nil) (fun h p => pe_callB h (by rfl) B.all (by decide +kernel) p)) (fun p => pt_val p))) (fss_one (fs_ret (fe_b pe_bl) (fun p => ps_ret p))) fss_nil)
    (fss_one (fs_ret (fe_cb (kca_all K rfl) (fa_cons (fe_lc (own := [("name", 3), ("other", 4)]) rfl sc_shows_cycle.nd (ki_zipB K (fa_cons (fe_var (pv 1)) (fa_cons (fe_op (kop_add K) (fe_sl (ksl_D K) (fe_var (pv 1)) (fo_some (fe_i pe_int)) fo_none) (fe_sl (ksl_D K) (fe_var (pv 1)) fo_none (fo_some (fe_i pe_int)))) fa_nil)) (fun p => RZ.pi_zipA (by rfl) B.zip p) (fun p => GZ.pi_zipM (by rfl) B.zip p)) (blkOk_by (N := nm_shows_cycle) (sc := defScope s_shows_cycle) (by decide +kernel)) (fun _ _ _ _ _ => (kg_tup K (n := 2) (fgs_cons (fg_name (pg_name (i := 3) sc_shows_cycle.nd rfl (.inl rfl))) (fgs_cons (fg_name (pg_name (i := 4) sc_shows_cycle.nd rfl (.inl rfl))) fgs_nil (fun p q => pgs_cons p q)) (fun p q => pgs_cons p q)) rfl (fun p => pg_tup rfl p))) (fun _ _ _ _ _ => fts_nil) (fun _ _ _ _ _ => (fe_cmp (kop_in K (hu_of hr)) (fe_var (pv 4)) (fe_ix (kix_D K (hu_of hr)) (fe_ix (kix_D K (hu_of hr)) (fe_var (pv 2)) (fe_var (pv 3)) (fun _ _ => rfl)) (fe_i pe_int) (fun _ _ => rfl)) (by with_unfolding_all rfl))) (by decide)) fa_nil) (fun h p => pe_callB h (by rfl) B.all (by decide +kernel) p)) (fun p => ps_ret p))))))⟩)
theorem ok_start {f : Addr} {fd : FuncData} (B : Bl mg) (F : FnP K "_law_start" s_start f fd) (hm : mg "_law_start" = some (.ref f))   : DnF P w K mg base ca 1 "_law_start" [false, false] fn_start :=
  dnF_of (k := 0) (m := [false, false]) (fb := F_start) F hm sc_start 2 rfl rfl (fun _ _ _ _ _ _ us hl => match us, hl with | [_, _], _ => rfl) (fun cdv A outer s H E hG hr => ⟨_, by exact (fss_cons (fs_set (fe_if (ft_cmp fop_lt (fe_var (pv 1)) (fe_cb (kca_len K) (fa_cons (fe_var (pv 0)) fa_nil) (fun h p => pe_callB h (by rfl) B.len PySem.boot_len p)) (nomark _)) (fe_ix (kix_D K (hu_of hr)) (fe_var (pv 0)) (fe_var (pv 1)) (fun _ _ => rfl)) (fe_op (kop_add K) (fe_op (kop_mul K) (fe_i pe_int) (fe_var (pv 1))) (fe_i pe_int))) (fun p => ps_set (i := 2) sc_start.nd rfl (.inl rfl) p))
    (fss_cons (fs_set (fe_op (kop_mul K) (fe_op fop_mod (fe_cb fca_abs (fa_cons (fe_var (pv 2)) fa_nil) (fun h p => pe_callB h (by rfl) B.abs (by decide +kernel) p)) (fe_op fop_pow (fe_op fop_pow (fe_i pe_int) (fe_i pe_int)) (fe_i pe_int))) (fe_cb fca_int (fa_cons (fe_cmp fop_ge (fe_cb fca_abs (fa_cons (fe_var (pv 2)) fa_nil) (fun h p => pe_callB h (by rfl) B.abs (by decide +kernel) p)) (fe_op fop_pow (fe_i pe_int) (fe_i pe_int)) (nomark _)) fa_nil) (fun h p => pe_callTy h (by rfl) B.int (by decide +kernel) p))) (fun p => ps_set (i := 3) sc_start.nd rfl (.inl rfl) p))
    (fss_one (fs_ret (fe_lst (fa_cons (fe_var (pv 3)) (fa_cons (fe_op fop_mod (fe_op (kop_mul K) (fe_op (kop_add K) (fe_op (kop_add K) (fe_op fop_mod (fe_var (pv 2)) (fe_i pe_int)) (fe_op (kop_mul K) (fe_op (kop_mul K) (fe_i pe_int) (fe_var (pv 1))) (fe_var (pv 1)))) (fe_i pe_int)) (fe_i pe_int)) (fe_i pe_int)) (fa_cons (fe_i pe_int) fa_nil)))) (fun p => ps_ret p)))))⟩)
theorem ok_draw {f : Addr} {fd : FuncData} (B : Bl mg) (F : FnP K "_law_draw" s_draw f fd) (hm : mg "_law_draw" = some (.ref f))   : DnF P w K mg base ca 1 "_law_draw" [true, false] fn_draw :=
  dnF_of (k := 0) (m := [true, false]) (fb := F_draw) F hm sc_draw 3 rfl rfl (fun _ _ _ _ _ _ us hl => match us, hl with | [_, _], _ => rfl) (fun cdv A outer s H E hG hr => ⟨_, by exact (fss_cons (fs_if (ft_cmp fop_gt (fe_ix (kix_D K (hu_of hr)) (fe_var (pv 0)) (fe_i pe_int) (fun _ _ => rfl)) (fe_i pe_int) (nomark _)) (fss_cons (fs_set (fe_op fop_mod (fe_ix (kix_D K (hu_of hr)) (fe_var (pv 0)) (fe_i pe_int) (fun _ _ => rfl)) (fe_var (pv 1))) (fun p => ps_set (i := 2) sc_draw.nd rfl (.inl rfl) p))
    (fss_cons (fs_asg (fe_op fop_div (fe_ix (kix_D K (hu_of hr)) (fe_var (pv 0)) (fe_i pe_int) (fun _ _ => rfl)) (fe_var (pv 1))) (fg_sub (fe_var (pv 0)) (fe_i pe_int) (fun p q => pg_sub p q set_list)) (fun p q => ps_asg p q))
    (fss_one (fs_ret (fe_var (pv 2)) (fun p => ps_ret p))))) fss_nil)
    (fss_cons (fs_asg (fe_op (kop_add K) (fe_ix (kix_D K (hu_of hr)) (fe_var (pv 0)) (fe_i pe_int) (fun _ _ => rfl)) (fe_i pe_int)) (fg_sub (fe_var (pv 0)) (fe_i pe_int) (fun p q => pg_sub p q set_list)) (fun p q => ps_asg p q))
    (fss_cons (fs_set (fe_ix (kix_D K (hu_of hr)) (fe_lst (fa_cons (fe_i pe_int) (fa_cons (fe_i pe_int) (fa_cons (fe_i pe_int) (fa_cons (fe_i pe_int) (fa_cons (fe_i pe_int) (fa_cons (fe_i pe_int) (fa_cons (fe_i pe_int) fa_nil)))))))) (fe_op fop_mod (fe_ix (kix_D K (hu_of hr)) (fe_var (pv 0)) (fe_i pe_int) (fun _ _ => rfl)) (fe_i pe_int)) (fun _ _ => rfl)) (fun p => ps_set (i := 3) sc_draw.nd rfl (.inl rfl) p))
    (fss_cons (fs_set (fe_op fop_mod (fe_op fop_pow (fe_op (kop_add K) (fe_op (kop_add K) (fe_ix (kix_D K (hu_of hr)) (fe_var (pv 0)) (fe_i pe_int) (fun _ _ => rfl)) (fe_op (kop_mul K) (fe_op (kop_mul K) (fe_i pe_int) (fe_ix (kix_D K (hu_of hr)) (fe_var (pv 0)) (fe_i pe_int) (fun _ _ => rfl))) (fe_ix (kix_D K (hu_of hr)) (fe_var (pv 0)) (fe_i pe_int) (fun _ _ => rfl)))) (fe_i pe_int)) (fe_i pe_int)) (fe_var (pv 3))) (fun p => ps_set (i := 4) sc_draw.nd rfl (.inl rfl) p))
    (fss_one (fs_ret (fe_op fop_mod (fe_op fop_div (fe_op fop_mod (fe_op (kop_mul K) (fe_var (pv 4)) (fe_op (kop_add K) (fe_op fop_mod (fe_var (pv 4)) (fe_i pe_int)) (fe_op (kop_mul K) (fe_i pe_int) (fe_ix (kix_D K (hu_of hr)) (fe_var (pv 0)) (fe_i pe_int) (fun _ _ => rfl))))) (fe_i pe_int)) (fe_i pe_int)) (fe_var (pv 1))) (fun p => ps_ret p)))))))⟩)
theorem ok_choice {f : Addr} {fd : FuncData} (B : Bl mg) (F : FnP K "_law_choice" s_choice f fd) (hm : mg "_law_choice" = some (.ref f)) (d_draw : DnF P w K mg base ca 1 "_law_draw" [true, false] fn_draw)  : DnF P w K mg base ca 2 "_law_choice" [true, false] fn_choice :=
  dnF_of (k := 1) (m := [true, false]) (fb := F_choice) F hm sc_choice 0 rfl rfl (fun _ _ _ _ _ _ us hl => match us, hl with | [_, _], _ => rfl) (fun cdv A outer s H E hG hr => ⟨_, by exact (fss_one (fs_ret (fe_ix (kix_D K (hu_of hr)) (fe_var (pv 1)) (ke_d K d_draw cx_takes hG hr (fa_cons (fe_var (pv 0)) (fa_cons (fe_cb (kca_len K) (fa_cons (fe_var (pv 1)) fa_nil) (fun h p => pe_callB h (by rfl) B.len PySem.boot_len p)) fa_nil))) (fun _ _ => rfl)) (fun p => ps_ret p)))⟩)
theorem ok_mixed {f : Addr} {fd : FuncData} (B : Bl mg) (F : FnP K "_law_mixed" s_mixed f fd) (hm : mg "_law_mixed" = some (.ref f)) (d_draw : DnF P w K mg base ca 1 "_law_draw" [true, false] fn_draw)  : DnF P w K mg base ca 2 "_law_mixed" [true, false] fn_mixed :=
  dnF_of (k := 1) (m := [true, false]) (fb := F_mixed) F hm sc_mixed 2 rfl rfl (fun _ _ _ _ _ _ us hl => match us, hl with | [_, _], _ => rfl) (fun cdv A outer s H E hG hr => ⟨_, by exact (fss_cons (fs_set (fe_cb (kca_list K) (fa_cons (fe_var (pv 1)) fa_nil) (fun h p => pe_callTy h (by rfl) B.list (by decide +kernel) p)) (fun p => ps_set (i := 2) sc_mixed.nd rfl (.inr rfl) p))
    (fss_one (fs_ret (fe_lc (own := [("_law_turn", 3)]) rfl sc_mixed.nd (fi_rng1 (fa_cons (fe_cb (kca_len K) (fa_cons (fe_var (pv 1)) fa_nil) (fun h p => pe_callB h (by rfl) B.len PySem.boot_len p)) fa_nil) (fun p => pi_range1 (by rfl) B.range p)) (blkOk_by (N := nm_mixed) (sc := defScope s_mixed) (by decide +kernel)) (fun _ _ _ _ _ => (fg_name (pg_name (i := 3) sc_mixed.nd rfl (.inl rfl)))) (fun _ _ _ _ _ => fts_nil) (fun _ _ _ _ _ => (ke_mutL K mt_popAtM (fe_var (pv 2)) (fa_cons (ke_d K d_draw takes0 hG hr (fa_cons (fe_var (pv 0)) (fa_cons (fe_cb (kca_len K) (fa_cons (fe_var (pv 2)) fa_nil) (fun h p => pe_callB h (by rfl) B.len PySem.boot_len p)) fa_nil))) fa_nil) (fun h p => pe_bm PySem.F.plainAttrs_list PySem.F.slot_list_pop PySem.F.type_list_pop mt_popAt h p))) (by decide)) (fun p => ps_ret p))))⟩)
theorem ok_names {f : Addr} {fd : FuncData} (B : Bl mg) (F : FnP K "_law_names" s_names f fd) (hm : mg "_law_names" = some (.ref f)) (d_draw : DnF P w K mg base ca 1 "_law_draw" [true, false] fn_draw) (d_choice : DnF P w K mg base ca 2 "_law_choice" [true, false] fn_choice)  : DnF P w K mg base ca 3 "_law_names" [true, false] fn_names :=
  dnF_of (k := 2) (m := [true, false]) (fb := F_names) F hm sc_names 5 rfl rfl (fun _ _ _ _ _ _ us hl => match us, hl with | [_, _], _ => rfl) (fun cdv A outer s H E hG hr => ⟨_, by exact (fss_cons (fs_asg (fe_tup (fa_cons (ke_d K d_choice cx_takes hG hr (fa_cons (fe_var (pv 0)) (fa_cons (fe_lst (fa_cons (fe_s pe_str) (fa_cons (fe_s pe_str) (fa_cons (fe_s pe_str) (fa_cons (fe_s pe_str) (fa_cons (fe_s pe_str) fa_nil)))))) fa_nil))) (fa_cons (ke_d K d_draw cx_takes hG hr (fa_cons (fe_var (pv 0)) (fa_cons (fe_i pe_int) fa_nil))) fa_nil))) (kg_tup K (n := 2) (fgs_cons (fg_name (pg_name (i := 2) sc_names.nd rfl (.inr rfl))) (fgs_cons (fg_name (pg_name (i := 3) sc_names.nd rfl (.inr rfl))) fgs_nil (fun p q => pgs_cons p q)) (fun p q => pgs_cons p q)) rfl (fun p => pg_tup rfl p)) (fun p q => ps_asg p q))
    (fss_cons (fs_set (fe_lc (own := [("_law_at", 6)]) rfl sc_names.nd (fi_rng1 (fa_cons (fe_cb (fca_min2 rfl) (fa_cons (fe_var (pv 1)) (fa_cons (fe_i pe_int) fa_nil)) (fun h p => pe_callB h (by rfl) B.min (by decide +kernel) p)) fa_nil) (fun p => pi_range1 (by rfl) B.range p)) (blkOk_by (N := nm_names) (sc := defScope s_names) (by decide +kernel)) (fun _ _ _ _ _ => (fg_name (pg_name (i := 6) sc_names.nd rfl (.inl rfl)))) (fun _ _ _ _ _ => fts_nil) (fun _ _ _ _ _ => (fe_op (kop_add K) (fe_var (pv 2)) (fe_ix (kix_D K (hu_of hr)) (fe_s pe_str) (fe_op fop_mod (fe_op (kop_add K) (fe_var (pv 3)) (fe_op (kop_mul K) (fe_i pe_int) (fe_var (pv 6)))) (fe_i pe_int)) (fun _ _ => rfl)))) (by decide)) (fun p => ps_set (i := 4) sc_names.nd rfl (.inr rfl) p))
    (fss_cons (fs_set (fe_if (ft_cmp fop_le (fe_var (pv 1)) (fe_i pe_int) (nomark _)) (fe_lc (own := [("_law_at", 6)]) rfl sc_names.nd (fi_rng2 (fa_cons (fe_i pe_int) (fa_cons (fe_var (pv 1)) fa_nil)) (fun p => pi_range2 (by rfl) B.range p)) (blkOk_by (N := nm_names) (sc := defScope s_names) (by decide +kernel)) (fun _ _ _ _ _ => (fg_name (pg_name (i := 6) sc_names.nd rfl (.inl rfl)))) (fun _ _ _ _ _ => fts_nil) (fun _ _ _ _ _ => (fe_op (kop_add K) (fe_s pe_str) (fe_ix (kix_D K (hu_of hr)) (fe_var (pv 4)) (fe_op fop_mod (fe_var (pv 6)) (fe_i pe_int)) (fun _ _ => rfl)))) (by decide)) (fe_lst fa_nil)) (fun p => ps_set (i := 5) sc_names.nd rfl (.inl rfl) p))
    (fss_one (fs_ret (fe_cb (kca_sortedY K rfl) (fa_cons (fe_op (kop_add K) (fe_var (pv 4)) (fe_var (pv 5))) fa_nil) (fun h p => pe_callB h (by rfl) B.sorted (by decide +kernel) p)) (fun p => ps_ret p))))))⟩)
theorem ok_project {f : Addr} {fd : FuncData} (B : Bl mg) (F : FnP K "_law_project" s_project f fd) (hm : mg "_law_project" = some (.ref f)) (d_draw : DnF P w K mg base ca 1 "_law_draw" [true, false] fn_draw) (d_names : DnF P w K mg base ca 3 "_law_names" [true, false] fn_names) (d_mixed : DnF P w K mg base ca 2 "_law_mixed" [true, false] fn_mixed) (d_choice : DnF P w K mg base ca 2 "_law_choice" [true, false] fn_choice)  : DnF P w K mg base ca 4 "_law_project" [true, false, false] fn_project :=
  dnF_of (k := 3) (m := [true, false, false]) (fb := F_project) F hm sc_project 9 rfl rfl (fun _ _ _ _ _ _ us hl => match us, hl with | [_, _, _], _ => rfl) (fun cdv A outer s H E hG hr => ⟨_, by exact (fss_cons (fs_par (fa_cons (ke_d K d_mixed cx_takes hG hr (fa_cons (fe_var (pv 0)) (fa_cons (ke_d K d_names cx_takes hG hr (fa_cons (fe_var (pv 0)) (fa_cons (fe_op (kop_add K) (fe_i pe_int) (ke_d K d_draw cx_takes hG hr (fa_cons (fe_var (pv 0)) (fa_cons (fe_var (pv 1)) fa_nil)))) fa_nil))) fa_nil))) (fa_cons (fe_lst fa_nil) fa_nil)) (fun p => ps_par (i := 3) (j := 4) rfl sc_project.nd rfl rfl (by decide) rfl rfl p (by rfl)))
    (fss_cons (fs_set (fe_cmp (kop_eq K hr.units) (ke_d K d_draw cx_takes hG hr (fa_cons (fe_var (pv 0)) (fa_cons (fe_i pe_int) fa_nil))) (fe_i pe_int) (nomark _)) (fun p => ps_set (i := 5) sc_project.nd rfl (.inl rfl) p))
    (fss_cons (fs_for cx_passes rfl (ki_enum K (fa_cons (fe_var (pv 3)) fa_nil) (fun p => pi_enum (by rfl) B.enumerate p)) (kg_tup K (n := 2) (fgs_cons (fg_name (pg_name (i := 6) sc_project.nd rfl (.inl rfl))) (fgs_cons (fg_name (pg_name (i := 7) sc_project.nd rfl (.inr rfl))) fgs_nil (fun p q => pgs_cons p q)) (fun p q => pgs_cons p q)) rfl (fun p => pg_tup rfl p)) (fss_cons (fs_set (fe_if (ft_val (fe_var (pv 5)) (fun p => pt_val p)) (fe_lc (own := [("_law_other", 11)]) rfl sc_project.nd (ki_seq K (fe_var (pv 3))) (blkOk_by (N := nm_project) (sc := defScope s_project) (by decide +kernel)) (fun _ _ _ _ _ => (fg_name (pg_name (i := 11) sc_project.nd rfl (.inl rfl)))) (fun _ _ _ _ _ => (fts_one (ft_cmp (kop_ne K hr.units) (fe_var (pv 11)) (fe_var (pv 7)) (nomark _)))) (fun _ _ _ _ _ => (fe_var (pv 11))) (by decide)) (fe_sl (ksl_D K) (fe_var (pv 3)) fo_none (fo_some (fe_var (pv 6))))) (fun p => ps_set (i := 8) sc_project.nd rfl (.inl rfl) p))
    (fss_cons (fs_set (fe_if (ft_cmp fop_lt (fe_var (pv 6)) (fe_op fop_sub (fe_cb (kca_len K) (fa_cons (fe_var (pv 3)) fa_nil) (fun h p => pe_callB h (by rfl) B.len PySem.boot_len p)) (fe_i pe_int)) (nomark _)) (fe_i pe_int) (fe_op (kop_add K) (fe_var (pv 2)) (fe_i pe_int))) (fun p => ps_set (i := 9) sc_project.nd rfl (.inl rfl) p))
    (fss_cons (fs_set (fe_sl (ksl_D K) (ke_d K d_mixed cx_takes hG hr (fa_cons (fe_var (pv 0)) (fa_cons (fe_var (pv 8)) fa_nil))) fo_none (fo_some (ke_d K d_draw cx_takes hG hr (fa_cons (fe_var (pv 0)) (fa_cons (fe_cb (fca_min2 rfl) (fa_cons (fe_var (pv 9)) (fa_cons (fe_op (kop_add K) (fe_cb (kca_len K) (fa_cons (fe_var (pv 8)) fa_nil) (fun h p => pe_callB h (by rfl) B.len PySem.boot_len p)) (fe_i pe_int)) fa_nil)) (fun h p => pe_callB h (by rfl) B.min (by decide +kernel) p)) fa_nil))))) (fun p => ps_set (i := 10) sc_project.nd rfl (.inl rfl) p))
    (fss_one (fs_expr (ke_mutL K mt_app (fe_var (pv 4)) (fa_cons (fe_tup (fa_cons (fe_var (pv 7)) (fa_cons (fe_cb (kca_tuple K) (fa_cons (fe_var (pv 10)) fa_nil) (fun h p => pe_callTy h (by rfl) B.tuple (by decide +kernel) p)) (fa_cons (ke_d K d_choice cx_takes hG hr (fa_cons (fe_var (pv 0)) (fa_cons (fe_lst (fa_cons (fe_s pe_str) (fa_cons (fe_s pe_str) (fa_cons (fe_s pe_str) fa_nil)))) fa_nil))) fa_nil)))) fa_nil) (fun h p => pe_bm PySem.F.plainAttrs_list PySem.F.slot_list_append PySem.F.type_list_append mt_append h p)) (fun p => ps_expr p)))))))
    (fss_one (fs_ret (fe_cb (kca_tuple K) (fa_cons (fe_cb (kca_sortedY K rfl) (fa_cons (fe_var (pv 4)) fa_nil) (fun h p => pe_callB h (by rfl) B.sorted (by decide +kernel) p)) fa_nil) (fun h p => pe_callTy h (by rfl) B.tuple (by decide +kernel) p)) (fun p => ps_ret p))))))⟩)
theorem ok_imports {f : Addr} {fd : FuncData} (B : Bl mg) (F : FnP K "_law_imports" s_imports f fd) (hm : mg "_law_imports" = some (.ref f))   : DnF P w K mg base ca 1 "_law_imports" [false, false] fn_imports :=
  dnF_of (k := 0) (m := [false, false]) (fb := F_imports) F hm sc_imports 1 rfl rfl (fun _ _ _ _ _ _ us hl => match us, hl with | [_, _], _ => rfl) (fun cdv A outer s H E hG hr => ⟨_, by exact (fss_one (fs_ret (fe_ix (kix_D K (hu_of hr)) (fe_lc (own := [("_law_item", 2)]) rfl sc_imports.nd (ki_seq K (fe_var (pv 0))) (blkOk_by (N := nm_imports) (sc := defScope s_imports) (by decide +kernel)) (fun _ _ _ _ _ => (fg_name (pg_name (i := 2) sc_imports.nd rfl (.inl rfl)))) (fun _ _ _ _ _ => (fts_one (ft_cmp (kop_eq K hr.units) (fe_ix (kix_D K (hu_of hr)) (fe_var (pv 2)) (fe_i pe_int) (fun _ _ => rfl)) (fe_var (pv 1)) (nomark _)))) (fun _ _ _ _ _ => (fe_ix (kix_D K (hu_of hr)) (fe_var (pv 2)) (fe_i pe_int) (fun _ _ => rfl))) (by decide)) (fe_i pe_int) (fun _ _ => rfl)) (fun p => ps_ret p)))⟩)
theorem ok_has_cycle {f : Addr} {fd : FuncData} (B : Bl mg) (F : FnP K "_law_has_cycle" s_has_cycle f fd) (hm : mg "_law_has_cycle" = some (.ref f))   : DnF P w K mg base ca 1 "_law_has_cycle" [false] fn_has_cycle :=
  dnF_of (k := 0) (m := [false]) (fb := F_has_cycle) F hm sc_has_cycle 5 rfl rfl (fun _ _ _ _ _ _ us hl => match us, hl with | [_], _ => rfl) (fun cdv A outer s H E hG hr => ⟨_, by exact (fss_cons (fs_set (fe_cb (kca_dictP K rfl) (fa_cons (fe_lc (own := [("_law_item", 3)]) rfl sc_has_cycle.nd (ki_seq K (fe_var (pv 0))) (blkOk_by (N := nm_has_cycle) (sc := defScope s_has_cycle) (by decide +kernel)) (fun _ _ _ _ _ => (fg_name (pg_name (i := 3) sc_has_cycle.nd rfl (.inl rfl)))) (fun _ _ _ _ _ => fts_nil) (fun _ _ _ _ _ => (fe_tup (fa_cons (fe_ix (kix_D K (hu_of hr)) (fe_var (pv 3)) (fe_i pe_int) (fun _ _ => rfl)) (fa_cons (fe_ix (kix_D K (hu_of hr)) (fe_var (pv 3)) (fe_i pe_int) (fun _ _ => rfl)) fa_nil)))) (by decide)) fa_nil) (fun h p => pe_callTy h (by rfl) B.dict (by decide +kernel) p)) (fun p => ps_set (i := 1) sc_has_cycle.nd rfl (.inr rfl) p))
    (fss_cons (fs_while cx_passes (ft_cmp (kop_ne K hr.units) (fe_var (pv 1)) (fe_dnew pe_dnewK) (nomark _)) (fss_cons (fs_set (fe_lcK (own := [("_law_name", 4)]) rfl sc_has_cycle.nd (pv 1) (blkOk_by (N := nm_has_cycle) (sc := defScope s_has_cycle) (by decide +kernel)) (fun _ _ _ _ _ => (fg_name (pg_name (i := 4) sc_has_cycle.nd rfl (.inl rfl)))) (fun _ _ _ _ _ => (fts_one (ft_not (ft_val (fe_cb (kca_any K rfl) (fa_cons (fe_lc (own := [("_law_other", 5)]) rfl sc_has_cycle.nd (ki_seq K (fe_ix (kix_D K (hu_of hr)) (fe_var (pv 1)) (fe_var (pv 4)) (fun _ _ => rfl))) (blkOk_by (N := nm_has_cycle) (by kernel_rfl)) (fun _ _ _ _ _ => (fg_name (pg_name (i := 5) sc_has_cycle.nd rfl (.inl rfl)))) (fun _ _ _ _ _ => fts_nil) (fun _ _ _ _ _ => (fe_cmp (kop_in K (hu_of hr)) (fe_var (pv 5)) (fe_var (pv 1)) (by with_unfolding_all rfl))) (by decide)) fa_nil) (fun h p => pe_callB h (by rfl) B.any (by decide +kernel) p)) (fun p => pt_val p))))) (fun _ _ _ _ _ => (fe_var (pv 4))) (by decide)) (fun p => ps_set (i := 2) sc_has_cycle.nd rfl (.inr rfl) p))
    (fss_cons (fs_if (ft_cmp (kop_eq K hr.units) (fe_var (pv 2)) (fe_lst fa_nil) (nomark _)) (fss_one (fs_ret (fe_b pe_bl) (fun p => ps_ret p))) fss_nil)
    (fss_one (fs_set (fe_cb (kca_dictP K rfl) (fa_cons (fe_lcK (own := [("_law_name", 4)]) rfl sc_has_cycle.nd (pv 1) (blkOk_by (N := nm_has_cycle) (sc := defScope s_has_cycle) (by decide +kernel)) (fun _ _ _ _ _ => (fg_name (pg_name (i := 4) sc_has_cycle.nd rfl (.inl rfl)))) (fun _ _ _ _ _ => (fts_one (ft_cmp (kop_notIn K (hu_of hr)) (fe_var (pv 4)) (fe_var (pv 2)) (by with_unfolding_all rfl)))) (fun _ _ _ _ _ => (fe_tup (fa_cons (fe_var (pv 4)) (fa_cons (fe_ix (kix_D K (hu_of hr)) (fe_var (pv 1)) (fe_var (pv 4)) (fun _ _ => rfl)) fa_nil)))) (by decide)) fa_nil) (fun h p => pe_callTy h (by rfl) B.dict (by decide +kernel) p)) (fun p => ps_set (i := 1) sc_has_cycle.nd rfl (.inr rfl) p))))))
    (fss_one (fs_ret (fe_b pe_bl) (fun p => ps_ret p)))))⟩)
theorem ok_odd {f : Addr} {fd : FuncData} (B : Bl mg) (F : FnP K "_law_odd" s_odd f fd) (hm : mg "_law_odd" = some (.ref f)) (d_choice : DnF P w K mg base ca 2 "_law_choice" [true, false] fn_choice) (d_draw : DnF P w K mg base ca 1 "_law_draw" [true, false] fn_draw)  : DnF P w K mg base ca 3 "_law_odd" [true] fn_odd :=
  dnF_of (k := 2) (m := [true]) (fb := F_odd) F hm sc_odd 2 rfl rfl (fun _ _ _ _ _ _ us hl => match us, hl with | [_], _ => rfl) (fun cdv A outer s H E hG hr => ⟨_, by exact (fss_cons (fs_set (ke_d K d_choice cx_takes hG hr (fa_cons (fe_var (pv 0)) (fa_cons (fe_lst (fa_cons (fe_n pe_non) (fa_cons (fe_b pe_bl) (fa_cons (fe_b pe_bl) (fa_cons (fe_i pe_int) (fa_cons (fe_i pe_int) (fa_cons (fe_un fun_neg (fe_i pe_int)) (fa_cons (fe_op fop_pow (fe_i pe_int) (fe_i pe_int)) (fa_cons (fe_s pe_str) (fa_cons (fe_s pe_str) (fa_cons (fe_s pe_str) (fa_cons (fe_s pe_str) (fa_cons (fe_tup fa_nil) (fa_cons (fe_lst fa_nil) (fa_cons (fe_dnew pe_dnewK) (fa_cons (fe_tup (fa_cons (fe_s pe_str) fa_nil)) (fa_cons (fe_lst (fa_cons (fe_s pe_str) fa_nil)) fa_nil))))))))))))))))) fa_nil))) (fun p => ps_set (i := 1) sc_odd.nd rfl (.inl rfl) p))
    (fss_cons (fs_for cx_passes rfl (fi_rng1 (fa_cons (ke_d K d_choice cx_takes hG hr (fa_cons (fe_var (pv 0)) (fa_cons (fe_lst (fa_cons (fe_i pe_int) (fa_cons (fe_i pe_int) (fa_cons (fe_i pe_int) (fa_cons (fe_i pe_int) (fa_cons (fe_i pe_int) (fa_cons (fe_i pe_int) fa_nil))))))) fa_nil))) fa_nil) (fun p => pi_range1 (by rfl) B.range p)) (fg_name (pg_name (i := 2) sc_odd.nd rfl (.inl rfl))) (fss_one (fs_set (fe_ix (kix_D K (hu_of hr)) (fe_lst (fa_cons (fe_tup (fa_cons (fe_var (pv 1)) fa_nil)) (fa_cons (fe_lst (fa_cons (fe_var (pv 1)) fa_nil)) (fa_cons (fe_disp1 (fe_var (pv 1)) (fun p => pe_disp (pps_cons pe_str p pps_nil) rfl rfl (by simp) (by decide))) fa_nil)))) (ke_d K d_draw cx_takes hG hr (fa_cons (fe_var (pv 0)) (fa_cons (fe_i pe_int) fa_nil))) (fun _ _ => rfl)) (fun p => ps_set (i := 1) sc_odd.nd rfl (.inl rfl) p))))
    (fss_one (fs_ret (fe_var (pv 1)) (fun p => ps_ret p)))))⟩)
theorem ok_bent {f : Addr} {fd : FuncData} (B : Bl mg) (F : FnP K "_law_bent" s_bent f fd) (hm : mg "_law_bent" = some (.ref f)) (d_draw : DnF P w K mg base ca 1 "_law_draw" [true, false] fn_draw) (d_choice : DnF P w K mg base ca 2 "_law_choice" [true, false] fn_choice) (d_odd : DnF P w K mg base ca 3 "_law_odd" [true] fn_odd)  (j : Nat) : DnF P w K mg base ca (4 + j) "_law_bent" [true, false] (fn_bent j) := by
  induction j with
  | zero => exact dnF_bad (ps := ["_law_source", "_law_value"]) F hm rfl (fun _ _ _ _ _ _ us hl => match us, hl with | [_, _], _ => rfl)
  | succ j d_bent => exact dnF_of (k := 4 + j) (m := [true, false]) (fb := F_bent (fn_bent j)) F hm sc_bent 2 rfl rfl (fun _ _ _ _ _ _ us hl => match us, hl with | [_, _], _ => rfl) (fun cdv A outer s H E hG hr => ⟨_, by exact (fss_cons (fs_if (ft_w (fw_and (ft_val (fe_cb (kca_isi K) (fa_cons (fe_var (pv 1)) (fa_cons (fe_ty (pe_bltn (by rfl) B.tuple (by decide +kernel) rfl)) fa_nil)) (fun h p => pe_callB h (by rfl) B.isinstance (by decide +kernel) p)) (fun p => pt_val p)) (fw_and (ft_cmp (kop_ne K hr.units) (fe_var (pv 1)) (fe_tup fa_nil) (nomark _)) (fw_and1 (ft_cmp fop_gt (ke_d K d_draw cx_takes hG hr (fa_cons (fe_var (pv 0)) (fa_cons (fe_i pe_int) fa_nil)) (hj := by omega)) (fe_i pe_int) (nomark _)))))) (fss_cons (fs_par (fa_cons (ke_d K d_draw cx_takes hG hr (fa_cons (fe_var (pv 0)) (fa_cons (fe_cb (kca_len K) (fa_cons (fe_var (pv 1)) fa_nil) (fun h p => pe_callB h (by rfl) B.len PySem.boot_len p)) fa_nil)) (hj := by omega)) (fa_cons (ke_d K d_draw cx_takes hG hr (fa_cons (fe_var (pv 0)) (fa_cons (fe_i pe_int) fa_nil)) (hj := by omega)) fa_nil)) (fun p => ps_par (i := 2) (j := 3) rfl sc_bent.nd rfl rfl (by decide) rfl rfl p (by rfl)))
    (fss_cons (fs_if (ft_cmp (kop_eq K hr.units) (fe_var (pv 3)) (fe_i pe_int) (nomark _)) (fss_one (fs_ret (fe_op (kop_add K) (fe_sl (ksl_D K) (fe_var (pv 1)) fo_none (fo_some (fe_var (pv 2)))) (fe_sl (ksl_D K) (fe_var (pv 1)) (fo_some (fe_op (kop_add K) (fe_var (pv 2)) (fe_i pe_int))) fo_none)) (fun p => ps_ret p))) fss_nil)
    (fss_cons (fs_if (ft_cmp (kop_eq K hr.units) (fe_var (pv 3)) (fe_i pe_int) (nomark _)) (fss_one (fs_ret (fe_op (kop_add K) (fe_sl (ksl_D K) (fe_var (pv 1)) fo_none (fo_some (fe_op (kop_add K) (fe_var (pv 2)) (fe_i pe_int)))) (fe_sl (ksl_D K) (fe_var (pv 1)) (fo_some (fe_var (pv 2))) fo_none)) (fun p => ps_ret p))) fss_nil)
    (fss_one (fs_ret (fe_op (kop_add K) (fe_op (kop_add K) (fe_sl (ksl_D K) (fe_var (pv 1)) fo_none (fo_some (fe_var (pv 2)))) (fe_tup (fa_cons (ke_d K d_bent cx_takes hG hr (fa_cons (fe_var (pv 0)) (fa_cons (fe_ix (kix_D K (hu_of hr)) (fe_var (pv 1)) (fe_var (pv 2)) (fun _ _ => rfl)) fa_nil)) (hj := Nat.le_refl _)) fa_nil))) (fe_sl (ksl_D K) (fe_var (pv 1)) (fo_some (fe_op (kop_add K) (fe_var (pv 2)) (fe_i pe_int))) fo_none)) (fun p => ps_ret p)))))) fss_nil)
    (fss_cons (fs_if (ft_w (fw_and (ft_val (fe_cb (kca_isi K) (fa_cons (fe_var (pv 1)) (fa_cons (fe_ty (pe_bltn (by rfl) B.str (by decide +kernel) rfl)) fa_nil)) (fun h p => pe_callB h (by rfl) B.isinstance (by decide +kernel) p)) (fun p => pt_val p)) (fw_and1 (ft_cmp fop_gt (ke_d K d_draw cx_takes hG hr (fa_cons (fe_var (pv 0)) (fa_cons (fe_i pe_int) fa_nil)) (hj := by omega)) (fe_i pe_int) (nomark _))))) (fss_one (fs_ret (ke_d K d_choice cx_takes hG hr (fa_cons (fe_var (pv 0)) (fa_cons (fe_lst (fa_cons (fe_op (kop_add K) (fe_var (pv 1)) (fe_s pe_str)) (fa_cons (fe_sl (ksl_D K) (fe_var (pv 1)) (fo_some (fe_i pe_int)) fo_none) (fa_cons (fe_upper (fe_var (pv 1)) (fun h => pe_upper h)) (fa_cons (fe_op (kop_add K) (fe_var (pv 1)) (fe_s pe_str)) (fa_cons (fe_op (kop_add K) (fe_s pe_str) (fe_var (pv 1))) (fa_cons (fe_s pe_str) fa_nil))))))) fa_nil)) (hj := by omega)) (fun p => ps_ret p))) fss_nil)
    (fss_cons (fs_if (ft_w (fw_and (ft_val (fe_cb (kca_isi K) (fa_cons (fe_var (pv 1)) (fa_cons (fe_ty (pe_bltn (by rfl) B.tuple (by decide +kernel) rfl)) fa_nil)) (fun h p => pe_callB h (by rfl) B.isinstance (by decide +kernel) p)) (fun p => pt_val p)) (fw_and1 (ft_cmp fop_gt (ke_d K d_draw cx_takes hG hr (fa_cons (fe_var (pv 0)) (fa_cons (fe_i pe_int) fa_nil)) (hj := by omega)) (fe_i pe_int) (nomark _))))) (fss_one (fs_ret (ke_d K d_choice cx_takes hG hr (fa_cons (fe_var (pv 0)) (fa_cons (fe_lst (fa_cons (fe_cb (kca_list K) (fa_cons (fe_var (pv 1)) fa_nil) (fun h p => pe_callTy h (by rfl) B.list (by decide +kernel) p)) (fa_cons (ke_revT K (fe_var (pv 1)) (fun p => pe_revT p)) (fa_cons (fe_op (kop_add K) (fe_var (pv 1)) (fe_var (pv 1))) (fa_cons (fe_sl (ksl_D K) (fe_var (pv 1)) fo_none (fo_some (fe_i pe_int))) (fa_cons (fe_tup (fa_cons (fe_var (pv 1)) fa_nil)) fa_nil)))))) fa_nil)) (hj := by omega)) (fun p => ps_ret p))) fss_nil)
    (fss_one (fs_ret (ke_d K d_odd cx_takes hG hr (fa_cons (fe_var (pv 0)) fa_nil) (hj := by omega)) (fun p => ps_ret p))))))⟩)
theorem ok_is_row {f : Addr} {fd : FuncData} (B : Bl mg) (F : FnP K "_law_is_row" s_is_row f fd) (hm : mg "_law_is_row" = some (.ref f)) (d_imports : DnF P w K mg base ca 1 "_law_imports" [false, false] fn_imports)  : DnF P w K mg base ca 2 "_law_is_row" [false, false] fn_is_row :=
  dnF_of (k := 1) (m := [false, false]) (fb := F_is_row) F hm sc_is_row 4 rfl rfl (fun _ _ _ _ _ _ us hl => match us, hl with | [_, _], _ => rfl) (fun cdv A outer s H E hG hr => ⟨_, by exact (fss_cons (fs_set (fe_lc (own := [("_law_item", 3)]) rfl sc_is_row.nd (ki_seq K (fe_var (pv 0))) (blkOk_by (N := nm_is_row) (sc := defScope s_is_row) (by decide +kernel)) (fun _ _ _ _ _ => (fg_name (pg_name (i := 3) sc_is_row.nd rfl (.inl rfl)))) (fun _ _ _ _ _ => fts_nil) (fun _ _ _ _ _ => (fe_ix (kix_D K (hu_of hr)) (fe_var (pv 3)) (fe_i pe_int) (fun _ _ => rfl))) (by decide)) (fun p => ps_set (i := 2) sc_is_row.nd rfl (.inr rfl) p))
    (fss_cons (fs_if (ft_w (fw_or (ft_not (ft_val (fe_cb (kca_isi K) (fa_cons (fe_var (pv 1)) (fa_cons (fe_ty (pe_bltn (by rfl) B.tuple (by decide +kernel) rfl)) fa_nil)) (fun h p => pe_callB h (by rfl) B.isinstance (by decide +kernel) p)) (fun p => pt_val p))) (fw_or (ft_cmp (kop_eqZ K hr.units) (fe_var (pv 1)) (fe_tup fa_nil) (nomark _)) (fw_or1 (ft_not (ft_val (fe_cb (kca_all K rfl) (fa_cons (fe_lc (own := [("_law_one", 4)]) rfl sc_is_row.nd (ki_seq K (fe_var (pv 1))) (blkOk_by (N := nm_is_row) (sc := defScope s_is_row) (by decide +kernel)) (fun _ _ _ _ _ => (fg_name (pg_name (i := 4) sc_is_row.nd rfl (.inl rfl)))) (fun _ _ _ _ _ => fts_nil) (fun _ _ _ _ _ => (fe_cb (kca_isi K) (fa_cons (fe_var (pv 4)) (fa_cons (fe_ty (pe_bltn (by rfl) B.str (by decide +kernel) rfl)) fa_nil)) (fun h p => pe_callB h (by rfl) B.isinstance (by decide +kernel) p))) (by decide)) fa_nil) (fun h p => pe_callB h (by rfl) B.all (by decide +kernel) p)) (fun p => pt_val p))))))) (fss_one (fs_ret (fe_b pe_bl) (fun p => ps_ret p))) fss_nil)
    (fss_cons (fs_if (ft_not (ft_val (fe_cb (kca_all K rfl) (fa_cons (fe_lc (own := [("_law_one", 4)]) rfl sc_is_row.nd (ki_seq K (fe_var (pv 1))) (blkOk_by (N := nm_is_row) (sc := defScope s_is_row) (by decide +kernel)) (fun _ _ _ _ _ => (fg_name (pg_name (i := 4) sc_is_row.nd rfl (.inl rfl)))) (fun _ _ _ _ _ => fts_nil) (fun _ _ _ _ _ => (fe_cmp (kop_in K (hu_of hr)) (fe_var (pv 4)) (fe_var (pv 2)) (by with_unfolding_all rfl))) (by decide)) fa_nil) (fun h p => pe_callB h (by rfl) B.all (by decide +kernel) p)) (fun p => pt_val p))) (fss_one (fs_ret (fe_b pe_bl) (fun p => ps_ret p))) fss_nil)
    (fss_one (fs_ret (fe_cb (kca_all K rfl) (fa_cons (fe_lc (own := [("_law_one", 4), ("_law_other", 5)]) rfl sc_is_row.nd (ki_zipB K (fa_cons (fe_var (pv 1)) (fa_cons (fe_op (kop_add K) (fe_sl (ksl_D K) (fe_var (pv 1)) (fo_some (fe_i pe_int)) fo_none) (fe_sl (ksl_D K) (fe_var (pv 1)) fo_none (fo_some (fe_i pe_int)))) fa_nil)) (fun p => RZ.pi_zipA (by rfl) B.zip p) (fun p => GZ.pi_zipM (by rfl) B.zip p)) (blkOk_by (N := nm_is_row) (sc := defScope s_is_row) (by decide +kernel)) (fun _ _ _ _ _ => (kg_tup K (n := 2) (fgs_cons (fg_name (pg_name (i := 4) sc_is_row.nd rfl (.inl rfl))) (fgs_cons (fg_name (pg_name (i := 5) sc_is_row.nd rfl (.inl rfl))) fgs_nil (fun p q => pgs_cons p q)) (fun p q => pgs_cons p q)) rfl (fun p => pg_tup rfl p))) (fun _ _ _ _ _ => fts_nil) (fun _ _ _ _ _ => (fe_cmp (kop_in K (hu_of hr)) (fe_var (pv 5)) (ke_d K d_imports takes0 hG hr (fa_cons (fe_var (pv 0)) (fa_cons (fe_var (pv 4)) fa_nil))) (by with_unfolding_all rfl))) (by decide)) fa_nil) (fun h p => pe_callB h (by rfl) B.all (by decide +kernel) p)) (fun p => ps_ret p))))))⟩)
theorem ok_walk {f : Addr} {fd : FuncData} (B : Bl mg) (F : FnP K "_law_walk" s_walk f fd) (hm : mg "_law_walk" = some (.ref f)) (d_choice : DnF P w K mg base ca 2 "_law_choice" [true, false] fn_choice) (d_draw : DnF P w K mg base ca 1 "_law_draw" [true, false] fn_draw) (d_imports : DnF P w K mg base ca 1 "_law_imports" [false, false] fn_imports)  : DnF P w K mg base ca 3 "_law_walk" [true, false] fn_walk :=
  dnF_of (k := 2) (m := [true, false]) (fb := F_walk) F hm sc_walk 3 rfl rfl (fun _ _ _ _ _ _ us hl => match us, hl with | [_, _], _ => rfl) (fun cdv A outer s H E hG hr => ⟨_, by exact (fss_cons (fs_set (fe_lst (fa_cons (fe_ix (kix_D K (hu_of hr)) (ke_d K d_choice cx_takes hG hr (fa_cons (fe_var (pv 0)) (fa_cons (fe_var (pv 1)) fa_nil))) (fe_i pe_int) (fun _ _ => rfl)) fa_nil)) (fun p => ps_set (i := 2) sc_walk.nd rfl (.inl rfl) p))
    (fss_cons (fs_for cx_passes rfl (fi_rng1 (fa_cons (ke_d K d_draw cx_takes hG hr (fa_cons (fe_var (pv 0)) (fa_cons (fe_i pe_int) fa_nil))) fa_nil) (fun p => pi_range1 (by rfl) B.range p)) (fg_name (pg_name (i := 3) sc_walk.nd rfl (.inl rfl))) (fss_cons (fs_set (ke_d K d_imports cx_takes hG hr (fa_cons (fe_var (pv 1)) (fa_cons (fe_ix (kix_D K (hu_of hr)) (fe_var (pv 2)) (fe_un fun_neg (fe_i pe_int)) (fun _ _ => rfl)) fa_nil))) (fun p => ps_set (i := 4) sc_walk.nd rfl (.inl rfl) p))
    (fss_one (fs_if (ft_cmp (kop_ne K hr.units) (fe_var (pv 4)) (fe_tup fa_nil) (nomark _)) (fss_one (fs_expr (ke_mutL K mt_app (fe_var (pv 2)) (fa_cons (ke_d K d_choice cx_takes hG hr (fa_cons (fe_var (pv 0)) (fa_cons (fe_var (pv 4)) fa_nil))) fa_nil) (fun h p => pe_bm PySem.F.plainAttrs_list PySem.F.slot_list_append PySem.F.type_list_append mt_append h p)) (fun p => ps_expr p))) fss_nil))))
    (fss_one (fs_ret (fe_cb (kca_tuple K) (fa_cons (fe_var (pv 2)) fa_nil) (fun h p => pe_callTy h (by rfl) B.tuple (by decide +kernel) p)) (fun p => ps_ret p)))))⟩)
theorem ok_right {f : Addr} {fd : FuncData} (B : Bl mg) (F : FnP K "_law_right" s_right f fd) (hm : mg "_law_right" = some (.ref f)) (d_cycle : DnF P w K mg base ca 1 "cycle" [false] fn_cycle) (d_has_cycle : DnF P w K mg base ca 1 "_law_has_cycle" [false] fn_has_cycle) (d_walk : DnF P w K mg base ca 3 "_law_walk" [true, false] fn_walk) (d_odd : DnF P w K mg base ca 3 "_law_odd" [true] fn_odd) (d_is_row : DnF P w K mg base ca 2 "_law_is_row" [false, false] fn_is_row) (d_shows_cycle : DnF P w K mg base ca 2 "shows_cycle" [false, false] fn_shows_cycle) (d_bent : DnF P w K mg base ca 12 "_law_bent" [true, false] (fn_bent 8))  : DnF P w K mg base ca 13 "_law_right" [true, false] fn_right :=
  dnF_of (k := 12) (m := [true, false]) (fb := F_right) F hm sc_right 5 rfl rfl (fun _ _ _ _ _ _ us hl => match us, hl with | [_, _], _ => rfl) (fun cdv A outer s H E hG hr => ⟨_, by exact (fss_cons (fs_asg (fe_tup (fa_cons (fe_cb (kca_repr K hG hr.units) (fa_cons (fe_var (pv 1)) fa_nil) (fun h p => pe_callB h (by rfl) B.repr (by decide +kernel) p)) (fa_cons (ke_d K d_cycle cx_takes hG hr (fa_cons (fe_var (pv 1)) fa_nil)) fa_nil))) (kg_tup K (n := 2) (fgs_cons (fg_name (pg_name (i := 2) sc_right.nd rfl (.inl rfl))) (fgs_cons (fg_name (pg_name (i := 3) sc_right.nd rfl (.inr rfl))) fgs_nil (fun p q => pgs_cons p q)) (fun p q => pgs_cons p q)) rfl (fun p => pg_tup rfl p)) (fun p q => ps_asg p q))
    (fss_cons (fs_if (ft_cmp (kop_eq K hr.units) (fe_cmp fop_is (fe_var (pv 3)) (fe_n pe_non) (nomark _)) (ke_d K d_has_cycle cx_takes hG hr (fa_cons (fe_var (pv 1)) fa_nil)) (nomark _)) (fss_one (fs_ret (fe_b pe_bl) (fun p => ps_ret p))) fss_nil)
    (fss_cons (fs_set (fe_op (kop_add K) (fe_lc (own := [("_law_turn", 5)]) rfl sc_right.nd (fi_rng1 (fa_cons (fe_i pe_int) fa_nil) (fun p => pi_range1 (by rfl) B.range p)) (blkOk_by (N := nm_right) (sc := defScope s_right) (by decide +kernel)) (fun _ _ _ _ _ => (fg_name (pg_name (i := 5) sc_right.nd rfl (.inl rfl)))) (fun _ _ _ _ _ => fts_nil) (fun _ _ _ _ _ => (ke_d K d_walk takes0 hG hr (fa_cons (fe_var (pv 0)) (fa_cons (fe_var (pv 1)) fa_nil)))) (by decide)) (fe_lst (fa_cons (fe_tup fa_nil) (fa_cons (fe_n pe_non) (fa_cons (fe_b pe_bl) (fa_cons (fe_s pe_str) (fa_cons (fe_lst fa_nil) (fa_cons (fe_dnew pe_dnewK) (fa_cons (ke_d K d_odd cx_takes hG hr (fa_cons (fe_var (pv 0)) fa_nil)) (fa_cons (fe_tup (fa_cons (fe_tup fa_nil) fa_nil)) fa_nil)))))))))) (fun p => ps_set (i := 4) sc_right.nd rfl (.inl rfl) p))
    (fss_cons (fs_if (ft_cmp fop_isNot (fe_var (pv 3)) (fe_n pe_non) (nomark _)) (fss_cons (fs_if (ft_w (fw_or (ft_not (ft_val (ke_d K d_is_row cx_takes hG hr (fa_cons (fe_var (pv 1)) (fa_cons (fe_var (pv 3)) fa_nil))) (fun p => pt_val p))) (fw_or1 (ft_cmp fop_isNot (ke_d K d_shows_cycle cx_takes hG hr (fa_cons (fe_var (pv 1)) (fa_cons (fe_var (pv 3)) fa_nil))) (fe_b pe_bl) (nomark _))))) (fss_one (fs_ret (fe_b pe_bl) (fun p => ps_ret p))) fss_nil)
    (fss_cons (fs_set (fe_op (kop_add K) (fe_var (pv 4)) (fe_lst (fa_cons (fe_var (pv 3)) (fa_cons (fe_op (kop_mul K) (fe_var (pv 3)) (fe_i pe_int)) (fa_cons (fe_op (kop_add K) (fe_sl (ksl_D K) (fe_var (pv 3)) (fo_some (fe_i pe_int)) fo_none) (fe_sl (ksl_D K) (fe_var (pv 3)) fo_none (fo_some (fe_i pe_int)))) (fa_cons (ke_revT K (fe_var (pv 3)) (fun p => pe_revT p)) (fa_cons (fe_sl (ksl_D K) (fe_var (pv 3)) fo_none (fo_some (fe_un fun_neg (fe_i pe_int)))) (fa_cons (fe_cb (kca_list K) (fa_cons (fe_var (pv 3)) fa_nil) (fun h p => pe_callTy h (by rfl) B.list (by decide +kernel) p)) (fa_cons (fe_op (kop_add K) (fe_var (pv 3)) (fe_sl (ksl_D K) (fe_var (pv 3)) fo_none (fo_some (fe_i pe_int)))) fa_nil))))))))) (fun p => ps_set (i := 4) sc_right.nd rfl (.inl rfl) p))
    (fss_one (fs_set (fe_op (kop_add K) (fe_var (pv 4)) (fe_lc (own := [("_law_turn", 5)]) rfl sc_right.nd (fi_rng1 (fa_cons (fe_i pe_int) fa_nil) (fun p => pi_range1 (by rfl) B.range p)) (blkOk_by (N := nm_right) (sc := defScope s_right) (by decide +kernel)) (fun _ _ _ _ _ => (fg_name (pg_name (i := 5) sc_right.nd rfl (.inl rfl)))) (fun _ _ _ _ _ => fts_nil) (fun _ _ _ _ _ => (ke_d K d_bent takes0 hG hr (fa_cons (fe_var (pv 0)) (fa_cons (fe_var (pv 3)) fa_nil)))) (by decide))) (fun p => ps_set (i := 4) sc_right.nd rfl (.inl rfl) p))))) fss_nil)
    (fss_cons (fs_if (ft_not (ft_val (fe_cb (kca_all K rfl) (fa_cons (fe_lc (own := [("_law_value", 6)]) rfl sc_right.nd (ki_seq K (fe_var (pv 4))) (blkOk_by (N := nm_right) (sc := defScope s_right) (by decide +kernel)) (fun _ _ _ _ _ => (fg_name (pg_name (i := 6) sc_right.nd rfl (.inl rfl)))) (fun _ _ _ _ _ => fts_nil) (fun _ _ _ _ _ => (fe_cmp (kop_eqR K hr.units) (fe_cb (kca_repr K hG hr.units) (fa_cons (ke_d K d_shows_cycle takes0 hG hr (fa_cons (fe_var (pv 1)) (fa_cons (fe_var (pv 6)) fa_nil))) fa_nil) (fun h p => pe_callB h (by rfl) B.repr (by decide +kernel) p)) (fe_cb (kca_repr K hG hr.units) (fa_cons (ke_d K d_is_row takes0 hG hr (fa_cons (fe_var (pv 1)) (fa_cons (fe_var (pv 6)) fa_nil))) fa_nil) (fun h p => pe_callB h (by rfl) B.repr (by decide +kernel) p)) (nomark _))) (by decide)) fa_nil) (fun h p => pe_callB h (by rfl) B.all (by decide +kernel) p)) (fun p => pt_val p))) (fss_one (fs_ret (fe_b pe_bl) (fun p => ps_ret p))) fss_nil)
    (fss_one (fs_ret (fe_cmp (kop_eqR K hr.units) (fe_cb (kca_repr K hG hr.units) (fa_cons (fe_var (pv 1)) fa_nil) (fun h p => pe_callB h (by rfl) B.repr (by decide +kernel) p)) (fe_var (pv 2)) (nomark _)) (fun p => ps_ret p))))))))⟩)
theorem ok_law {f : Addr} {fd : FuncData} (B : Bl mg) (F : FnP K "law" s_law f fd) (hm : mg "law" = some (.ref f)) (d_start : DnF P w K mg base ca 1 "_law_start" [false, false] fn_start) (d_project : DnF P w K mg base ca 4 "_law_project" [true, false, false] fn_project) (d_right : DnF P w K mg base ca 13 "_law_right" [true, false] fn_right) (d_cycle : DnF P w K mg base ca 1 "cycle" [false] fn_cycle) (d_shows_cycle : DnF P w K mg base ca 2 "shows_cycle" [false, false] fn_shows_cycle)  : FnG P w K mg base (L2.CX P w) 14 f fd ["_law_script"] (spF ⟨K, ca⟩ [false] fn_law) :=
  fnF_of (k := 13) (m := [false]) (fb := F_law) F hm sc_law 3 rfl rfl (fun _ _ _ _ _ _ us hl => match us, hl with | [_], _ => rfl) (fun cdv A outer s H E hG hr => ⟨_, by exact (fss_cons (fs_for cx_passes rfl (fi_rng1 (fa_cons (fe_cb (fca_max2 rfl) (fa_cons (fe_i pe_int) (fa_cons (fe_cb (fca_min2 rfl) (fa_cons (fe_i pe_int) (fa_cons (fe_cb (kca_len K) (fa_cons (fe_var (pv 0)) fa_nil) (fun h p => pe_callB h (by rfl) B.len PySem.boot_len p)) fa_nil)) (fun h p => pe_callB h (by rfl) B.min (by decide +kernel) p)) fa_nil)) (fun h p => pe_callB h (by rfl) B.max (by decide +kernel) p)) fa_nil) (fun p => pi_range1 (by rfl) B.range p)) (fg_name (pg_name (i := 1) sc_law.nd rfl (.inl rfl))) (fss_cons (fs_set (ke_d K d_start cx_takes hG hr (fa_cons (fe_var (pv 0)) (fa_cons (fe_var (pv 1)) fa_nil))) (fun p => ps_set (i := 2) sc_law.nd rfl (.inl rfl) p))
    (fss_cons (fs_for cx_passes rfl (fi_rng1 (fa_cons (fe_i pe_int) fa_nil) (fun p => pi_range1 (by rfl) B.range p)) (fg_name (pg_name (i := 3) sc_law.nd rfl (.inl rfl))) (fss_one (fs_if (ft_not (ft_val (ke_d K d_right cx_takes hG hr (fa_cons (fe_var (pv 2)) (fa_cons (ke_d K d_project cx_takes hG hr (fa_cons (fe_var (pv 2)) (fa_cons (fe_i pe_int) (fa_cons (fe_i pe_int) fa_nil)))) fa_nil))) (fun p => pt_val p))) (fss_one (fs_ret (fe_b pe_bl) (fun p => ps_ret p))) fss_nil)))
    (fss_one (fs_if (ft_w (fw_or (ft_cmp fop_isNot (ke_d K d_cycle cx_takes hG hr (fa_cons (fe_tup fa_nil) fa_nil)) (fe_n pe_non) (nomark _)) (fw_or1 (ft_cmp fop_isNot (ke_d K d_shows_cycle cx_takes hG hr (fa_cons (fe_tup fa_nil) (fa_cons (fe_tup fa_nil) fa_nil))) (fe_b pe_bl) (nomark _))))) (fss_one (fs_ret (fe_b pe_bl) (fun p => ps_ret p))) fss_nil)))))
    (fss_one (fs_ret (fe_b pe_bl) (fun p => ps_ret p))))⟩)
end
def mkD (x : Str) (i : Nat) : He.DefD := ⟨(x, none), x, x, defArgs (topS i), defBody (topS i), defScope (topS i), [], []⟩
def fn : List He.DefD := [(mkD "by_name" 1), (mkD "cycle" 2), (mkD "shows_cycle" 3), (mkD "_law_start" 5), (mkD "_law_draw" 6), (mkD "_law_choice" 7), (mkD "_law_mixed" 8), (mkD "_law_names" 9), (mkD "_law_project" 10), (mkD "_law_imports" 11), (mkD "_law_has_cycle" 12), (mkD "_law_odd" 13), (mkD "_law_bent" 14), (mkD "_law_is_row" 15), (mkD "_law_walk" 16), (mkD "_law_right" 17), (mkD "law" 18)]
def fa : List He.Fa := [.glo "by_name", .glo "cycle", .glo "shows_cycle", .glo "_law_start", .glo "_law_draw", .glo "_law_choice", .glo "_law_mixed", .glo "_law_names", .glo "_law_project", .glo "_law_imports", .glo "_law_has_cycle", .glo "_law_odd", .glo "_law_bent", .glo "_law_is_row", .glo "_law_walk", .glo "_law_right", .glo "law", .free "len", .free "abs", .free "int", .free "list", .free "tuple", .free "range", .free "min", .free "max", .free "sorted", .free "enumerate", .free "zip", .free "repr", .free "all", .free "any", .free "set", .free "str", .free "bool", .free "dict", .free "sum", .free "reversed", .free "isinstance"]
abbrev R : PySem.W.OpenRow := PySem.W.OpenLaw.row PySem.Challenge.rw_importorder_k04_cycles
abbrev hk : PySem.W.Hook := He.hookD 4 fa fn
def ob (s : PySem.W.SharedT) : He.AlD := He.obsDG 4 fa fn (HandSHeadRun.getT s)
theorem obEq (s : PySem.W.SharedT) : ob s = hk.obs s.abs := He.obsDG_eq (HandSHeadRun.getT_eq s)
def loose0 : List Str := ["by_name", "cycle", "shows_cycle", "_law_start", "_law_draw", "_law_choice", "_law_mixed", "_law_names", "_law_project", "_law_imports", "_law_has_cycle", "_law_odd", "_law_bent", "_law_is_row", "_law_walk", "_law_right"]
def loose : List Str := loose0
theorem ran (w : World) : HandSHeadRun.RunEq R (PySem.W.view R.prog [18]) hk ob 20000 loose w := by
  intro os
  kernel_rfl
theorem all {P : Program} {w : World} {K : PySem.W.Frag} {h : Heap} {mg : Str → Option Value} {f : Addr} (X : K.In h) (G : h.Ns mainGlobals mg) (hfa : mg ("law" : Str) = some (.ref f)) (c : He.SaysD fa fn K) :
    ∃ fd : FuncData, (∀ (s : Shared) (v : Value), BindsTo s fd ⟨[v], []⟩ [("_law_script", v)]) ∧ ∀ base : Heap, K.In base → base.Ns mainGlobals mg → FnG P w K mg base CX0 14 f fd ["_law_script"] (spLaw K) := by
  obtain ⟨fd_by_name, F_by_name⟩ := c.def_ 0 (d := (mkD "by_name" 1)) rfl
  have g_by_name := He.glo_ok X G (c.fact 0 (f := .glo "by_name") rfl)
  obtain ⟨fd_cycle, F_cycle⟩ := c.def_ 1 (d := (mkD "cycle" 2)) rfl
  have g_cycle := He.glo_ok X G (c.fact 1 (f := .glo "cycle") rfl)
  obtain ⟨fd_shows_cycle, F_shows_cycle⟩ := c.def_ 2 (d := (mkD "shows_cycle" 3)) rfl
  have g_shows_cycle := He.glo_ok X G (c.fact 2 (f := .glo "shows_cycle") rfl)
  obtain ⟨fd_start, F_start⟩ := c.def_ 3 (d := (mkD "_law_start" 5)) rfl
  have g_start := He.glo_ok X G (c.fact 3 (f := .glo "_law_start") rfl)
  obtain ⟨fd_draw, F_draw⟩ := c.def_ 4 (d := (mkD "_law_draw" 6)) rfl
  have g_draw := He.glo_ok X G (c.fact 4 (f := .glo "_law_draw") rfl)
  obtain ⟨fd_choice, F_choice⟩ := c.def_ 5 (d := (mkD "_law_choice" 7)) rfl
  have g_choice := He.glo_ok X G (c.fact 5 (f := .glo "_law_choice") rfl)
  obtain ⟨fd_mixed, F_mixed⟩ := c.def_ 6 (d := (mkD "_law_mixed" 8)) rfl
  have g_mixed := He.glo_ok X G (c.fact 6 (f := .glo "_law_mixed") rfl)
  obtain ⟨fd_names, F_names⟩ := c.def_ 7 (d := (mkD "_law_names" 9)) rfl
  have g_names := He.glo_ok X G (c.fact 7 (f := .glo "_law_names") rfl)
  obtain ⟨fd_project, F_project⟩ := c.def_ 8 (d := (mkD "_law_project" 10)) rfl
  have g_project := He.glo_ok X G (c.fact 8 (f := .glo "_law_project") rfl)
  obtain ⟨fd_imports, F_imports⟩ := c.def_ 9 (d := (mkD "_law_imports" 11)) rfl
  have g_imports := He.glo_ok X G (c.fact 9 (f := .glo "_law_imports") rfl)
  obtain ⟨fd_has_cycle, F_has_cycle⟩ := c.def_ 10 (d := (mkD "_law_has_cycle" 12)) rfl
  have g_has_cycle := He.glo_ok X G (c.fact 10 (f := .glo "_law_has_cycle") rfl)
  obtain ⟨fd_odd, F_odd⟩ := c.def_ 11 (d := (mkD "_law_odd" 13)) rfl
  have g_odd := He.glo_ok X G (c.fact 11 (f := .glo "_law_odd") rfl)
  obtain ⟨fd_bent, F_bent⟩ := c.def_ 12 (d := (mkD "_law_bent" 14)) rfl
  have g_bent := He.glo_ok X G (c.fact 12 (f := .glo "_law_bent") rfl)
  obtain ⟨fd_is_row, F_is_row⟩ := c.def_ 13 (d := (mkD "_law_is_row" 15)) rfl
  have g_is_row := He.glo_ok X G (c.fact 13 (f := .glo "_law_is_row") rfl)
  obtain ⟨fd_walk, F_walk⟩ := c.def_ 14 (d := (mkD "_law_walk" 16)) rfl
  have g_walk := He.glo_ok X G (c.fact 14 (f := .glo "_law_walk") rfl)
  obtain ⟨fd_right, F_right⟩ := c.def_ 15 (d := (mkD "_law_right" 17)) rfl
  have g_right := He.glo_ok X G (c.fact 15 (f := .glo "_law_right") rfl)
  obtain ⟨fd_law, F_law⟩ := c.def_ 16 (d := (mkD "law" 18)) rfl
  have g_law := He.glo_ok X G (c.fact 16 (f := .glo "law") rfl)
  have B : Bl mg := ⟨He.free_ok X G (c.fact 17 (f := .free "len") rfl), He.free_ok X G (c.fact 18 (f := .free "abs") rfl), He.free_ok X G (c.fact 19 (f := .free "int") rfl), He.free_ok X G (c.fact 20 (f := .free "list") rfl), He.free_ok X G (c.fact 21 (f := .free "tuple") rfl), He.free_ok X G (c.fact 22 (f := .free "range") rfl), He.free_ok X G (c.fact 23 (f := .free "min") rfl), He.free_ok X G (c.fact 24 (f := .free "max") rfl), He.free_ok X G (c.fact 25 (f := .free "sorted") rfl), He.free_ok X G (c.fact 26 (f := .free "enumerate") rfl), He.free_ok X G (c.fact 27 (f := .free "zip") rfl), He.free_ok X G (c.fact 28 (f := .free "repr") rfl), He.free_ok X G (c.fact 29 (f := .free "all") rfl), He.free_ok X G (c.fact 30 (f := .free "any") rfl), He.free_ok X G (c.fact 31 (f := .free "set") rfl), He.free_ok X G (c.fact 32 (f := .free "str") rfl), He.free_ok X G (c.fact 33 (f := .free "bool") rfl), He.free_ok X G (c.fact 34 (f := .free "dict") rfl), He.free_ok X G (c.fact 35 (f := .free "sum") rfl), He.free_ok X G (c.fact 36 (f := .free "reversed") rfl), He.free_ok X G (c.fact 37 (f := .free "isinstance") rfl)⟩
  have e := hfa.symm.trans g_law
  cases e
  have b := FunD.bindsA (ps := ["_law_script"]) F_law fun _ _ _ _ _ _ us hl => match us, hl with | [_], _ => rfl
  refine ⟨fd_law, fun s v => b s [v] rfl, fun base _ _ => ?_⟩
  have d_by_name : DnF P w K mg base (fun _ => 0) 1 "by_name" [false] fn_by_name := ok_by_name B F_by_name g_by_name   
  have d_cycle : DnF P w K mg base (fun _ => 0) 1 "cycle" [false] fn_cycle := ok_cycle B F_cycle g_cycle   
  have d_shows_cycle : DnF P w K mg base (fun _ => 0) 2 "shows_cycle" [false, false] fn_shows_cycle := ok_shows_cycle B F_shows_cycle g_shows_cycle d_by_name  
  have d_start : DnF P w K mg base (fun _ => 0) 1 "_law_start" [false, false] fn_start := ok_start B F_start g_start   
  have d_draw : DnF P w K mg base (fun _ => 0) 1 "_law_draw" [true, false] fn_draw := ok_draw B F_draw g_draw   
  have d_choice : DnF P w K mg base (fun _ => 0) 2 "_law_choice" [true, false] fn_choice := ok_choice B F_choice g_choice d_draw  
  have d_mixed : DnF P w K mg base (fun _ => 0) 2 "_law_mixed" [true, false] fn_mixed := ok_mixed B F_mixed g_mixed d_draw  
  have d_names : DnF P w K mg base (fun _ => 0) 3 "_law_names" [true, false] fn_names := ok_names B F_names g_names d_draw d_choice  
  have d_project : DnF P w K mg base (fun _ => 0) 4 "_law_project" [true, false, false] fn_project := ok_project B F_project g_project d_draw d_names d_mixed d_choice  
  have d_imports : DnF P w K mg base (fun _ => 0) 1 "_law_imports" [false, false] fn_imports := ok_imports B F_imports g_imports   
  have d_has_cycle : DnF P w K mg base (fun _ => 0) 1 "_law_has_cycle" [false] fn_has_cycle := ok_has_cycle B F_has_cycle g_has_cycle   
  have d_odd : DnF P w K mg base (fun _ => 0) 3 "_law_odd" [true] fn_odd := ok_odd B F_odd g_odd d_choice d_draw  
  have d_bent : DnF P w K mg base (fun _ => 0) 12 "_law_bent" [true, false] (fn_bent 8) := ok_bent B F_bent g_bent d_draw d_choice d_odd  8
  have d_is_row : DnF P w K mg base (fun _ => 0) 2 "_law_is_row" [false, false] fn_is_row := ok_is_row B F_is_row g_is_row d_imports  
  have d_walk : DnF P w K mg base (fun _ => 0) 3 "_law_walk" [true, false] fn_walk := ok_walk B F_walk g_walk d_choice d_draw d_imports  
  have d_right : DnF P w K mg base (fun _ => 0) 13 "_law_right" [true, false] fn_right := ok_right B F_right g_right d_cycle d_has_cycle d_walk d_odd d_is_row d_shows_cycle d_bent  
  exact law_of (ok_law (ca := fun _ => 0) B F_law g_law d_start d_project d_right d_cycle d_shows_cycle ) law_ok
end FL.Ck04
open PySem PySem.W PySem.Calls PyProof.Rows
theorem PySem.Challenge.cw_importorder_k04_cycles_holds : PySem.Challenge.rw_importorder_k04_cycles.Holds := by
  w_on; o_law
  refine HandSHeadRun.head_any (r := OpenLaw.row PySem.Challenge.rw_importorder_k04_cycles) (q := view (OpenLaw.row PySem.Challenge.rw_importorder_k04_cycles).prog [18]) (H := FL.Ck04.hk) (ob := FL.Ck04.ob) (M := 20000) (loose := FL.Ck04.loose) (d := HandSHeadRun.topDef (OpenLaw.row PySem.Challenge.rw_importorder_k04_cycles).prog 18) (kwd := []) FL.Ck04.obEq (by kernel_rfl) (fun s => by kernel_rfl) FL.Ck04.ran (by kernel_rfl) (by kernel_rfl) (by kernel_rfl) (by rfl)
    (by first | assumption | decide +kernel) (by decide +kernel) ⟨rfl, rfl, rfl, rfl, rfl, by decide +kernel⟩ ?hw ?hc
  case hw => w_witness2
  case hc =>
    refine GL.walk_ofG (l := PySem.Challenge.rw_importorder_k04_cycles) (n := 63) (k := 14) (x := "_law_script") rfl (by decide) (by kernel_rfl) ⟨rfl, by decide, by decide⟩ ?_
    intro w mg fa h Y G hmg0
    obtain ⟨K, KX, c⟩ := Y
    have en : (HandSHeadRun.topDef (OpenLaw.row PySem.Challenge.rw_importorder_k04_cycles).prog 18).name = ("law" : PySem.Str) := by kernel_rfl
    have hmg : mg ("law" : PySem.Str) = some (.ref fa) := en ▸ hmg0
    obtain ⟨fd, hb, hF⟩ := FL.Ck04.all (P := (PySem.Challenge.rw_importorder_k04_cycles).prog) (w := w) KX G hmg c
    exact ⟨K, fd, GL.spLaw K, KX, hb, fun H a ns hl _ hS => ⟨a, ns, rfl, hS, hl, fun _ => rfl⟩, hF⟩
