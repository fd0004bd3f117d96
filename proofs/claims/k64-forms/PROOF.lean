import PyProof.Rows.All
import Wide.All
import OpenK.AllK
import Wide.FinOn
import KE.KStateDown
import HandS.ForMost
import HandS.More
import HandS.WordsExc
import HandS.Defaults
import HandS.HeadHook2
import HandS.Wide
import HandS.Gcd
import HandS.Deep
import HandS.TupAny
import HandS.TupMul
import HandS.Zip
import HandS.DictComp
import HandS.TupLen
import HandS.HeadHook1
import PySem.Challenge.RW_planecuts_k64_forms
import HandS.Head0
import HandS.Head1
import HandS.Head2
import HandS.Head3
import HandS.HeadEnd
set_option Elab.async false
set_option linter.all false
set_option maxRecDepth 100000
set_option maxHeartbeats 0

/-! Contracts of defs that know that no repr is under way around them. -/
namespace Pk
open PySem PySem.Spec PyProof.Rows L2

def Calm (A : Around) : Prop := A.guards = some []

structure FnG (P : Program) (w : World) (K : PySem.W.Frag) (mg : Str → Option Value) (base : Heap) (CX : CXT) (k : Nat) (f : Addr) (fd : FuncData) (ps : List Str) (sp : Sp) : Prop where
  len : ∀ vs H Q E, sp vs H Q E → vs.length = ps.length
  go : ∀ (A : Around) (outer : List Env) (s : Shared) (H : Hp) (args : Args) (us : List Value) (vs : List V) (Q : VK) (E : XK), Calm A → Room k A →
    Env0 P w K mg base A outer s H → BindsTo s fd args (ps.zip us) → Vals vs us → sp vs H Q E → codeAny (model P w) A (.call (.ref f) args) (CR CX outer P w H s Q E) s

section
variable {P : Program} {w : World} {K : PySem.W.Frag} {mg : Str → Option Value} {base : Heap} {CX : CXT} {j k : Nat} {f : Addr} {fd : FuncData} {ps : List Str} {sp sp' : Sp}
theorem FnG.of (F : FnOk P w K mg base CX k f fd ps sp) : FnG P w K mg base CX k f fd ps sp :=
  ⟨F.len, fun A outer s H args us vs Q E _ => F.run A outer s H args us vs Q E⟩
theorem FnG.mono (F : FnG P w K mg base CX j f fd ps sp) (h : j ≤ k) : FnG P w K mg base CX k f fd ps sp :=
  ⟨F.len, fun A outer s H args us vs Q E c r => F.go A outer s H args us vs Q E c (r.mono h)⟩
theorem FnG.imp (F : FnG P w K mg base CX k f fd ps sp) (h : ∀ vs H Q E, sp' vs H Q E → sp vs H Q E) : FnG P w K mg base CX k f fd ps sp' :=
  ⟨fun vs H Q E q => F.len vs H Q E (h _ _ _ _ q), fun A outer s H args us vs Q E c r e b v q => F.go A outer s H args us vs Q E c r e b v (h _ _ _ _ q)⟩
end

/-- a def's body, for callers among whom no repr runs -/
theorem fnG_of {CX : CXT} {P : Program} {w : World} {K : PySem.W.Frag} {mg : Str → Option Value} {base : Heap} {k : Nat} {f : Addr} {name qual : Str} {params : Arguments} {body : List Stmt} {scope : Scope}
    {dV kV doc pm cdv ct oc : Value} {an od : Option Addr} {osl : Array (Option Value)} {N ps : List Str} {sp : Sp}
    (lk : K.lookup f = some ⟨oc, od, .func (PySem.W.fnOf name qual params body scope dV kV doc pm an cdv ct), osl⟩)
    (hcd : PySem.W.codeIn K cdv qual = true) (S : FnScope N ps scope) (len : ∀ vs H Q E, sp vs H Q E → vs.length = ps.length)
    (hb : ∀ (A : Around) (outer : List Env) (s : Shared) (H : Hp) (vs : List V) (Q : VK) (E : XK), Calm A →
      Room k (A.deeper (envOfC qual scope s.heap.objs.size f cdv)) → sp vs H Q E →
      ∃ t, PSs (cxOf CX P w K mg base N qual scope f cdv A outer s H E) body t ∧ t { nx := fun _ H' => Q .non H', rt := Q } (start N vs) H) :
    FnG P w K mg base CX (k + 1) f (PySem.W.fnOf name qual params body scope dV kV doc pm an cdv ct) ps sp := by
  refine ⟨len, ?_⟩
  intro A outer s H args us vs Q E cl hr e0 hbd rv hsp
  have hn := len vs H Q E hsp
  have up : ∀ b o, base.get? b = some o → s.heap.get? b = some o := fun b o e => (e0.bs b o e).1
  have KX := e0.mod.kin.keeps up
  refine codeAny_call_function hr.depth (KX _ _ lk) rfl S.co S.gen rfl (PySem.W.codeRec_of KX hcd) (hbd _ _ _ _ ?_)
  refine wpAny_newFunctionEnv_cells S.kind ?_ ?_
  · rintro ⟨n, v⟩ hm
    have hp := S.par n (List.of_mem_zip hm).1
    exact hp.imp (fun q => q) fun q => ⟨q, PySem.W.cellsFrom_some _ _ _ (Or.inl q)⟩
  · intro env he s1 x
    subst he
    refine ⟨(e0.mod.nolimit.keeps up).keeps x.toInCall.keep, codeAny_func ?_⟩
    obtain ⟨t, ht, hq⟩ := hb A outer s H vs Q E cl (hr.deeper _) hsp
    have I := inv_start (CX := CX) (E := E) S hr.hd e0 hn rv x
    have done : ∀ {σ' : L2.St} {H' : Hp} {v : V} {u : Value} {s' : Shared}, Inv (cxOf CX P w K mg base N qual scope f cdv A outer s H E) [] σ' H' s' → RelV v u → Q v H' → CE outer P w H s Q u s' := by
      intro σ' H' v u s' J r q
      exact ⟨v, H', J.os, J.bare, J.base, J.hok, r, q⟩
    refine wpAny_mono (ht.run [] s1 (start N vs) H _ I hq) ?_ fun e s' z => z
    intro fl s' z
    cases fl with
    | ret u =>
      obtain ⟨v, σ', H', J, r, q⟩ := z
      exact done J r q
    | next =>
      obtain ⟨σ', H', J, q⟩ := z
      exact done (v := V.non) (u := Value.none) J rfl q
    | brk =>
      obtain ⟨_, _, _, q⟩ := z
      exact q.elim
    | cont =>
      obtain ⟨_, _, _, q⟩ := z
      exact q.elim

section
variable {P : Program} {w : World} {K : PySem.W.Frag} {mg : Str → Option Value} {base : Heap} {x qual : Str} {params : Arguments} {body : List Stmt} {scope : Scope} {dvs : List V} {kws : List (Str × V)} {f : Addr} {fd : FuncData}
theorem okG {CX : CXT} {N ps : List Str} {k : Nat} {sp : Sp} (F : FunD K x qual params body scope dvs kws f fd) (S : FnScope N ps scope) (len : ∀ vs H Q E, sp vs H Q E → vs.length = ps.length)
    (hb : ∀ (cdv : Value) (A : Around) (outer : List Env) (s : Shared) (H : Hp) (vs : List V) (Q : VK) (E : XK), Calm A →
      Room k (A.deeper (envOfC qual scope s.heap.objs.size f cdv)) → sp vs H Q E →
      ∃ t, PSs (cxOf CX P w K mg base N qual scope f cdv A outer s H E) body t ∧ t { nx := fun _ H' => Q .non H', rt := Q } (start N vs) H) : FnG P w K mg base CX (k + 1) f fd ps sp := by
  obtain ⟨oc, od, dV, kV, doc, pm, an, cdv, ct, osl, rfl, lk, hcd, _, _⟩ := F.ex
  exact fnG_of lk hcd S len fun A outer s H vs Q E c hr hsp => hb cdv A outer s H vs Q E c hr hsp
end

section
variable {X : Cx} {CX : CXT} {k : Nat} {f : Addr} {fd : FuncData} {ps : List Str} {sp : Sp} {dvs : List V} {ds : List Value} {E : XK} {x : Str} {p pos : Pos} {e : Expr} {es : List Expr} {t : TA}
theorem goG {pins : List (Addr × Obj)} {σ : L2.St} {H : Hp} {s : Shared} {Q : VK} {us : List Value} {vs : List V} (F : FnG X.prog X.w X.K X.mg X.base CX k f fd ps sp) (cl : Calm X.A) (hr : Room k X.A)
    (hb : Binds X.K fd ps ds) (hd : Vals dvs ds) (hx : Passes CX X E) (I : Inv X pins σ H s) (r : Vals vs us) (h : sp (vs ++ dvs) H Q E) :
    wpAny (model X.prog X.w) X.A (call (.ref f) us) (EP X pins σ Q) X.xe s := by
  have r2 := r.append hd
  have hl : (us ++ ds).length = ps.length := by rw [← r2.length]; exact F.len _ _ _ _ h
  refine wpAny_call (codeAny_mono (F.go X.A X.stack s H ⟨us, []⟩ (us ++ ds) (vs ++ dvs) Q E cl hr I.env0 (hb s us I.kIn hl) r2 h) ?_)
  intro res s' z
  cases res with
  | error err => exact hx pins σ H s err s' I z
  | ok fl =>
    cases fl with
    | ret u => exact I.after z
    | next => exact z.elim
    | brk => exact z.elim
    | cont => exact z.elim
theorem pe_callG (F : FnG X.prog X.w X.K X.mg X.base CX k f fd ps sp) (cl : Calm X.A) (hr : Room k X.A) (hg : Gl X x) (hm : X.mg x = some (.ref f)) (hk : PySem.W.keepIn X.K (.ref f) = true)
    (hb : Binds X.K fd ps ds) (hd : Vals dvs ds) (hx : Passes CX X E) (ha : PA X (e :: es) t) (hdb : (x == ("__debug__" : Str)) = false := by decide)
    (he : starEach (e :: es) X.env = (false, eval e X.env) :: starEach es X.env := by rfl) (hpl : (backTo pos (starEach es X.env)).any (·.1) = false := by rfl) :
    PE X (.Call (.Name x p) (e :: es) [] pos) (tCall sp dvs E t) := by
  constructor
  intro pins s σ H Q I h
  refine wpAny_Call_Name_kw (ld_glob I hg hm ?_ hdb)
  refine PySem.W.callWith_K (h₀ := X.base) I.ok.mod.kin hk (thn (ha.run pos pins s σ H _ I h) ?_) he hpl
  rintro us s1 ⟨vs, H1, I1, r, q⟩
  exact ⟨I1.kIn, goG F cl hr hb hd hx I1 r q⟩
theorem pe_callG0 (F : FnG X.prog X.w X.K X.mg X.base CX k f fd ps sp) (cl : Calm X.A) (hr : Room k X.A) (hg : Gl X x) (hm : X.mg x = some (.ref f)) (hk : PySem.W.keepIn X.K (.ref f) = true)
    (hb : Binds X.K fd ps ds) (hd : Vals dvs ds) (hx : Passes CX X E) (hdb : (x == ("__debug__" : Str)) = false := by decide) : PE X (.Call (.Name x p) [] [] pos) (tCall sp dvs E tNil) := by
  constructor
  intro pins s σ H Q I h
  refine wpAny_Call_Name_kw (ld_glob I hg hm ?_ hdb)
  exact PySem.W.callWith_K0 I.kIn hk (goG (us := []) F cl hr hb hd hx I .nil h)
end

/-! ### the law's own end -/
theorem mod_hid {K : PySem.W.Frag} {mg mb : Str → Option Value} {h : Heap} {H : Hp} {a : Addr} {vs : List Value} {n : Nat} {dd : Option Addr} {sl : Array (Option Value)} (KX : K.In h) (hns : h.Ns mainGlobals mg) (hb : h.Ns builtinsNs mb)
    (hbb : ∀ x : Str, x ≠ "__name__" → mb x = bootBuiltins x) (hlim : h.NoLimit) (ha : h.get? a = some { cls := .type "list", dict := dd, data := .seq vs.toArray n, slots := sl })
    (only : ∀ b, H b ≠ none → b = a ∧ K.lookup b = none) : Mod K mg (hidT h H) := by
  have keep : ∀ {b : Addr} {o : Obj}, h.get? b = some o → (b = a → False) → (hidT h H).get? b = some o := by
    intro b o e hne
    refine hidT_get e ?_
    cases q : H b with
    | none => rfl
    | some u => exact (hne (only b (by rw [q]; exact fun z => nomatch z)).1).elim
  have ns : ∀ {b : Addr} {m : Str → Option Value}, h.Ns b m → (hidT h H).Ns b m := by
    rintro b m ⟨o, es, ep, e, d, r⟩
    refine ⟨o, es, ep, keep e ?_, d, r⟩
    rintro rfl
    rw [ha] at e
    cases e
    exact nomatch d
  obtain ⟨mc, h1, h2⟩ := hlim
  refine ⟨?_, ns hns, ⟨mb, ns hb, hbb⟩, ⟨mc, ns h1, h2⟩⟩
  intro b o e
  refine hidT_get (KX b o e) ?_
  cases q : H b with
  | none => rfl
  | some u =>
    have := (only b (by rw [q]; exact fun z => nomatch z)).2
    rw [e] at this
    cases this

theorem lawG {P : Program} {w : World} {K : PySem.W.Frag} {mg mb : Str → Option Value} {CX : CXT} {k : Nat} {fa a : Addr} {fd : FuncData} {x : Str} {sp : Sp} {s₁ : Shared} {vs : List Value} {ns : List Int}
    (KX : K.In s₁.heap) (hns : s₁.heap.Ns mainGlobals mg) (hb : s₁.heap.Ns builtinsNs mb) (hbb : ∀ x : Str, x ≠ "__name__" → mb x = bootBuiltins x) (hlim : s₁.heap.NoLimit) (hg : s₁.gens = #[])
    (ha : s₁.heap.get? a = some { cls := .type "list", data := .seq vs.toArray }) (hi : IntsAre vs ns) (hl : ns.length ≤ sizeLine) (hr : Room k callerA)
    (F : ∀ base : Heap, K.In base → base.Ns mainGlobals mg → FnG P w K mg base CX k fa fd [x] sp) (hbind : ∀ (s : Shared) (u : Value), BindsTo s fd ⟨[u], []⟩ [(x, u)])
    (hsp : ∀ H : Hp, SqL K H a (ns.map V.int) → sp [.ref a] H (fun v _ => v = .bl true) fun _ _ _ => False) (hCX : ∀ H e s', CX [] H s₁ (fun _ _ _ => False) e s' → False) :
    codeAny (model P w) callerA (.call (.ref fa) ⟨[.ref a], []⟩) (fun r s' => r = .ok (.ret (.bool true)) ∧ OldK s₁.heap s'.heap ∧ s'.os = s₁.os ∧ AllBare s'.gens) s₁ := by
  have rv := vals_ints hi
  have lenV := hi.length
  have nof : ∀ b, b ∉ frs [] := fun b z => nomatch z
  -- once the abstract heap is chosen
  have main : ∀ H : Hp, (∀ b u, H b = some u → ∃ o xs, u = .frz o (.lst xs)) → SqL K H a (ns.map V.int) → HOk P w H s₁.heap → (∀ b, H b ≠ none → b = a ∧ K.lookup b = none) →
      codeAny (model P w) callerA (.call (.ref fa) ⟨[.ref a], []⟩) (fun r s' => r = .ok (.ret (.bool true)) ∧ OldK s₁.heap s'.heap ∧ s'.os = s₁.os ∧ AllBare s'.gens) s₁ := by
    intro H fz hS hok only
    have M := mod_hid (n := 0) (dd := none) (sl := #[]) KX hns hb hbb hlim ha only
    have e0 : Env0 P w K mg (hidT s₁.heap H) callerA [] s₁ H :=
      ⟨rfl, M, fun b o e => of_hidT e, Nat.le_of_eq (hidT_size _ _), trivial, fun b hb => (nof b hb).elim, hok, .of_eq hg⟩
    refine codeAny_mono ((F _ M.kin M.glob).go callerA [] s₁ H ⟨[.ref a], []⟩ [.ref a] [.ref a] _ _ rfl hr e0 (hbind s₁ (.ref a)) (.cons rfl .nil) (hsp H hS)) ?_
    intro r s' z
    match r, z with
    | .error e, z => exact (hCX H e s' z).elim
    | .ok .next, z => exact z.elim
    | .ok .brk, z => exact z.elim
    | .ok .cont, z => exact z.elim
    | .ok (.ret u), ⟨v, H', os, bare, un, hok', r', q⟩ =>
      have q' : v = .bl true := q
      subst q'
      have ru : u = Value.bool true := r'
      subst ru
      refine ⟨rfl, OldK.of_keep ?_, os, bare⟩
      intro b o e
      cases q : H b with
      | none => exact un.keep b o e q (nof b) (nof b)
      | some y =>
        obtain ⟨ob, xs, rfl⟩ := fz b y q
        have e1 := (hok b _ q).1
        have e2 := (hok' b _ (un.frzs b ob _ q)).1
        rw [e] at e1
        cases e1
        exact e2
  cases hk : K.lookup a with
  | some o =>
    have e := KX a o hk
    rw [ha] at e
    cases e
    refine main (fun _ => none) (fun b u z => nomatch z) (.inr ⟨_, vs.toArray, _, hk, rfl, rfl, rfl, ?_, by simpa using rv⟩) (fun b u z => nomatch z) fun b z => absurd rfl z
    rw [List.size_toArray, lenV]
    exact hl
  | none =>
    let ob : Obj := { cls := .type "list", data := .seq vs.toArray }
    have at_ : ∀ b u, (fun b => if b = a then some (HO.frz ob (.lst (ns.map V.int))) else none : Hp) b = some u → b = a ∧ u = HO.frz ob (.lst (ns.map V.int)) := by
      intro b u z
      have z2 : (if b = a then some (HO.frz ob (.lst (ns.map V.int))) else none) = some u := z
      split at z2
      · exact ⟨‹_›, (Option.some.inj z2).symm⟩
      · cases z2
    refine main (fun b => if b = a then some (HO.frz ob (.lst (ns.map V.int))) else none) ?_ (.inl (.inr ⟨ob, if_pos rfl⟩)) ?_ ?_
    · intro b u z
      exact ⟨_, _, (at_ b u z).2⟩
    · intro b u z
      obtain ⟨rfl, rfl⟩ := at_ b u z
      exact ⟨ha, by rw [List.length_map]; exact hl, vs, _, rv, ha⟩
    · intro b z
      cases q : (fun b => if b = a then some (HO.frz ob (.lst (ns.map V.int))) else none : Hp) b with
      | none => exact absurd q z
      | some u =>
        obtain ⟨rfl, _⟩ := at_ b u q
        exact ⟨rfl, hk⟩

theorem walkG {l : PySem.W.OpenLaw} {n k : Nat} {q : Program} {loose : List Str} {XP : (Str → Option Value) → Heap → Prop} {YP : World → Heap → Prop} {d : DefRec} {CX : CXT} {x : Str}
    (hn : l.most = some n) (hn2 : n ≤ sizeLine) (hdf : d.params.defaults = []) (hr : Room k callerA)
    (F : ∀ (w : World) (mg : Str → Option Value) (fa : Addr) (h : Heap), YP w h → h.Ns mainGlobals mg → mg d.name = some (.ref fa) →
      ∃ (K : PySem.W.Frag) (fd : FuncData) (sp : Sp), K.In h ∧ (∀ (s : Shared) (u : Value), BindsTo s fd ⟨[u], []⟩ [(x, u)]) ∧
        (∀ (H : Hp) (a : Addr) (ns : List Int), ns.length ≤ n → SqL K H a (ns.map V.int) → sp [.ref a] H (fun v _ => v = .bl true) fun _ _ _ => False) ∧
        ∀ base : Heap, K.In base → base.Ns mainGlobals mg → FnG l.prog w K mg base CX k fa fd [x] sp)
    (hCX : ∀ (H : Hp) (s : Shared) (e : Value) (s' : Shared), CX [] H s (fun _ _ _ => False) e s' → False) :
    PySem.W.WalkO q loose XP YP l.row.toRowW d [] (fun f vs => PySem.call f vs) := by
  refine Att.attach_call hn hdf ?_
  intro w s₀ s₁ mg mb fa o pm cd doc a vs ns G Y ho hd hcd hmg hobj hints hlen hg
  obtain ⟨K, fd, sp, KX, hb, hsp, hF⟩ := F w mg fa _ Y G.T.g hmg
  exact lawG KX G.T.g G.T.b G.T.builtins G.T.nolimit hg hobj hints (Nat.le_trans hlen hn2) hr hF hb (fun H hS => hsp H a ns hlen hS) fun H e s' z => hCX H s₁ e s' z
end Pk

/-! repr of data at any place, ints up to 2^12000. -/
namespace Pk
open PySem PySem.Spec PyProof.Rows L2
abbrev PD := PyData

mutual
def fine (B : Nat) : PD → Bool
  | .none => true
  | .bool _ => true
  | .int i => decide (i.natAbs < 2 ^ B)
  | .str x => PyData.strOk x
  | .list xs => fineAll B xs
  | .tuple xs => fineAll B xs
  | .dict _ => false
def fineAll (B : Nat) : List PD → Bool
  | [] => true
  | x :: xs => fine B x && fineAll B xs
end
mutual
def cost (B : Nat) : PD → Nat
  | .none => 5
  | .bool _ => 5
  | .int _ => B + 2
  | .str x => (reprText x).length
  | .list xs => 3 + costAll B xs
  | .tuple xs => 3 + costAll B xs
  | .dict _ => 0
def costAll (B : Nat) : List PD → Nat
  | [] => 0
  | x :: xs => cost B x + 2 + costAll B xs
end

theorem join_le (ts : List Str) : (Str.join ", " ts).length ≤ piled ts := by
  by_cases h : ts = []
  · subst h; exact Nat.le_of_eq rfl
  · have := join_length_add ts h
    omega
theorem tupText_le (ts : List Str) : (tupleText ts).length ≤ 3 + piled ts := by
  have h := join_le ts
  have e3 : (((if ts.length == 1 then ",)" else ")" : String) : Str)).length ≤ 2 := by split <;> decide
  have e1 : ((("(" : String) : Str)).length = 1 := rfl
  unfold tupleText
  rw [strLen_append, strLen_append, e1]
  omega
theorem lstText_le : ∀ ts : List Str, (listText ts).length ≤ 3 + piled ts
  | [] => by decide
  | t :: r => by
    have h := textFrom_length_pos r 1 (("[" : Str) ++ (if (0 : Nat) > 0 then ", " else "" : String) ++ t) (Nat.succ_pos 0)
    have e : ((("[" : Str) ++ (if (0 : Nat) > 0 then ", " else "" : String) ++ t)).length = 1 + t.length := by
      rw [strLen_append, strLen_append]; rfl
    show (textFrom 1 (("[" : Str) ++ (if (0 : Nat) > 0 then ", " else "" : String) ++ t) r ++ "]").length ≤ _
    rw [strLen_append, h, e, piled_cons]
    show 1 + t.length + piled r + 1 ≤ _
    omega
theorem log2_of_lt {n B : Nat} (hB : 0 < B) (h : n < 2 ^ B) : n.log2 < B := PySem.Flt.log2_lt_of hB h
mutual
theorem shown_le {B : Nat} (hB : 0 < B) : ∀ d : PD, fine B d = true → d.shown.length ≤ cost B d
  | .none, _ => by simp only [PyData.shown, cost]; decide
  | .bool b, _ => by simp only [PyData.shown, cost]; cases b <;> decide
  | .int i, h => by
    simp only [PyData.shown, cost]
    have h1 : i.natAbs < 2 ^ B := of_decide_eq_true (by simpa only [fine] using h)
    have h2 := int_text_length_le hB (log2_of_lt hB h1)
    have h3 : ((toString i : String) : Str).length = (toString i).length := PySem.ofString_length _
    omega
  | .str x, _ => by simp only [PyData.shown, cost]; exact Nat.le_refl _
  | .list xs, h => by
    simp only [PyData.shown, cost]
    have := lstText_le (PyData.shownAll xs)
    have := shownAll_le hB xs (by simpa only [fine] using h)
    omega
  | .tuple xs, h => by
    simp only [PyData.shown, cost]
    have := tupText_le (PyData.shownAll xs)
    have := shownAll_le hB xs (by simpa only [fine] using h)
    omega
  | .dict _, h => by simp [fine] at h
theorem shownAll_le {B : Nat} (hB : 0 < B) : ∀ ds : List PD, fineAll B ds = true → piled (PyData.shownAll ds) ≤ costAll B ds
  | [], _ => by simp only [PyData.shownAll, costAll]; exact Nat.le_refl _
  | d :: ds, h => by
    have h2 : fine B d = true ∧ fineAll B ds = true := by simpa only [fineAll, Bool.and_eq_true] using h
    simp only [PyData.shownAll, costAll]
    rw [piled_cons]
    have := shown_le hB d h2.1
    have := shownAll_le hB ds h2.2
    omega
end
mutual
theorem fine_lay {B : Nat} : ∀ d : PD, fine B d = true → d.canLay0 = true
  | .none, _ => by simp only [PyData.canLay0]
  | .bool _, _ => by simp only [PyData.canLay0]
  | .int _, _ => by simp only [PyData.canLay0]
  | .str x, h => by simpa only [PyData.canLay0, fine] using h
  | .list xs, h => by
    simp only [PyData.canLay0]
    exact fineAll_lay xs (by simpa only [fine] using h)
  | .tuple xs, h => by
    simp only [PyData.canLay0]
    exact fineAll_lay xs (by simpa only [fine] using h)
  | .dict _, h => by simp [fine] at h
theorem fineAll_lay {B : Nat} : ∀ ds : List PD, fineAll B ds = true → PyData.canLayAll0 ds = true
  | [], _ => by simp only [PyData.canLayAll0]
  | d :: ds, h => by
    have h2 : fine B d = true ∧ fineAll B ds = true := by simpa only [fineAll, Bool.and_eq_true] using h
    simp only [PyData.canLayAll0, fine_lay d h2.1, fineAll_lay ds h2.2, Bool.and_self]
end
theorem pow_fit {B n : Nat} (hB : B ≤ 12000) (h : n < 2 ^ B) : n < 10 ^ 4300 := by
  have h1 : 2 ^ B ≤ 2 ^ 12900 := Nat.pow_le_pow_right (by decide) (by omega)
  exact Nat.lt_of_lt_of_le h (Nat.le_trans h1 PyProof.Rows.pow_lo)

section
variable {prog : Program} {w : World} {h₀ : Heap}
theorem reprBig {i : Int} {t : Tok} {d : Nat} (hn : h₀.NoDigits) (hi : i.natAbs < 10 ^ 4300) : ReprK prog w [] h₀ d (.int i t) (toString i) := by
  intro b hb A g E s Q hg hc hu hk hQ
  have hb2 : b ≤ sizeLine := by omega
  rw [pyReprUnder_leaf (v := .int i t) hb2 (fun _ e => nomatch e)]
  unfold pyRepr
  refine wpAny_bind (wpAny_pyReprObj_slot (by omega) (typeIs_int s i t) PySem.F.slot_int_repr.toG ?_)
  refine wpAny_call_entry PySem.F.slot_int_repr (typeIs_int s i t) PySem.F.entry_int_repr ?_ (PySem.F.args_int_repr_1 _)
  unfold Builtin.«int.__repr__»
  show wpAny _ _ (do let r ← Builtin.overDigitLimit? i; _) _ _ s
  refine wpAny_bind (overDigitLimit_any (hn.keeps hk) (fun _ => ?_) (fun h2 => absurd hi (Nat.not_lt.mpr h2)))
  exact wpAny_bind (wpAny_mkStr (wpAny_pure ⟨_, rfl, _, _, rfl, wpAny_pure (hQ s.heap _ fun _ _ e => e)⟩) (int_text_fits10 hi))
mutual
theorem reprFine {B : Nat} (hB : 0 < B) (hB2 : B ≤ 12000) (hn : h₀.NoDigits) : ∀ {v : Value} {d : PD} {as : List Addr}, Reads h₀ v d as → fine B d = true → cost B d ≤ sizeLine →
    ∃ bs, ReadAtMost h₀ d.depth bs ∧ ReprK prog w bs h₀ d.depth v d.shown
  | _, _, _, .none, _, _ => ⟨[], (fun _ h => nomatch h), by simp only [PyData.shown]; exact .of_is ReprIs.none _ _ _⟩
  | _, _, _, .bool b, _, _ => ⟨[], (fun _ h => nomatch h), by simp only [PyData.shown]; exact .of_is (ReprIs.bool b) _ _ _⟩
  | _, _, _, .int i t, h, _ => ⟨[], (fun _ h => nomatch h), by
      simp only [PyData.shown]
      exact reprBig hn (pow_fit hB2 (of_decide_eq_true (by simpa only [fine] using h)))⟩
  | _, _, _, .str x t, _, hz => ⟨[], (fun _ h => nomatch h), by
      simp only [PyData.shown]
      exact .of_is (ReprIs.str x t (by simpa only [cost] using hz)) _ _ _⟩
  | _, _, _, .list (a := a) (vs := vs) (xs := xs) h1 h2 h3 h4, h, hz => by
    have hz2 : 3 + costAll B xs ≤ sizeLine := by simpa only [cost] using hz
    obtain ⟨bs, hb, hk⟩ := reprFines hB hB2 hn h4 (by simpa only [fine] using h) (by omega)
    have r : Reads h₀ (.ref a) (.list xs) _ := .list h1 h2 h3 h4
    have hna : a ∉ bs := not_mem_of_deeper r (by simp only [PyData.depth]; omega) hb
    refine ⟨a :: bs, ReadAtMost.cons r (by simp only [PyData.depth]; omega) hb, ?_⟩
    simp only [PyData.depth, PyData.shown]
    obtain ⟨l⟩ := vs
    cases l with
    | nil =>
      have h5 : ReadsAll h₀ [] xs _ := h4
      cases h5
      simp only [PyData.shownAll, listText_nil]
      exact ReprK.listEmpty h1 h2 h3
    | cons x l => exact ReprK.list h1 h2 h3 hna (by simpa using hk.length_eq) (fun i y e => hk.item i y (by simpa using e))
  | _, _, _, .tuple (a := a) (xs := xs) h1 h2 h3 h4, h, hz => by
    have hz2 : 3 + costAll B xs ≤ sizeLine := by simpa only [cost] using hz
    obtain ⟨bs, hb, hk⟩ := reprFines hB hB2 hn h4 (by simpa only [fine] using h) (by omega)
    have r : Reads h₀ (.ref a) (.tuple xs) _ := .tuple h1 h2 h3 h4
    have hna : a ∉ bs := not_mem_of_deeper r (by simp only [PyData.depth]; omega) hb
    refine ⟨a :: bs, ReadAtMost.cons r (by simp only [PyData.depth]; omega) hb, ?_⟩
    simp only [PyData.depth, PyData.shown]
    exact ReprK.tuple h1 h2 h3 hna hk
  | _, _, _, .dict _ _ _ _ _, h, _ => by simp [fine] at h
theorem reprFines {B : Nat} (hB : 0 < B) (hB2 : B ≤ 12000) (hn : h₀.NoDigits) : ∀ {vs : List Value} {ds : List PD} {as : List Addr}, ReadsAll h₀ vs ds as → fineAll B ds = true → costAll B ds ≤ sizeLine →
    ∃ bs, ReadAtMost h₀ (PyData.depthAll ds) bs ∧ ReprAllK prog w bs h₀ (PyData.depthAll ds) vs (PyData.shownAll ds)
  | _, _, _, .nil, _, _ => ⟨[], (fun _ h => nomatch h), by simp only [PyData.shownAll]; exact .nil⟩
  | _, _, _, .cons (d := d) (ds := ds) r rs, h, hz => by
    have h2 : fine B d = true ∧ fineAll B ds = true := by simpa only [fineAll, Bool.and_eq_true] using h
    have hz2 : cost B d + 2 + costAll B ds ≤ sizeLine := by simpa only [costAll] using hz
    obtain ⟨b1, hb1, k1⟩ := reprFine hB hB2 hn r h2.1 (by omega)
    obtain ⟨b2, hb2, k2⟩ := reprFines hB hB2 hn rs h2.2 (by omega)
    refine ⟨b1 ++ b2, ?_, ?_⟩
    · simp only [PyData.depthAll]
      exact (hb1.mono (Nat.le_max_left _ _)).append (hb2.mono (Nat.le_max_right _ _))
    · simp only [PyData.depthAll, PyData.shownAll]
      exact .cons ((k1.more fun b hb => List.mem_append_left _ hb).level_le (Nat.le_max_left _ _)) (k2.more_le (fun b hb => List.mem_append_right _ hb) (Nat.le_max_right _ _))
end
/-- repr(v) at a place where no repr is under way -/
theorem reprD {B : Nat} {A : Around} {E : Value → Shared → Prop} {s : Shared} {Q : Value → Shared → Prop} {v : Value} {d : PD} {as : List Addr} (hB : 0 < B) (hB2 : B ≤ 12000) (hn : s.heap.NoDigits) (r : Reads s.heap v d as) (h : fine B d = true) (hz : cost B d ≤ sizeLine)
    (isRef : ∃ a, v = .ref a) (hg : A.guards = some []) (hu : A.units + (d.depth + 1) < cLine)
    (hQ : ∀ h' u tk, (∀ b o, s.heap.get? b = some o → h'.get? b = some o) → Q (.str d.shown u) { s with heap := h', toks := tk }) : wpAny (model prog w) A (call (.builtin "repr") [v]) Q E s := by
  obtain ⟨a, rfl⟩ := isRef
  have hl := shown_le hB d h
  have e0 : ∀ b o, s.heap.get? b = some o → s.heap.get? b = some o := fun _ _ e => e
  cases r with
  | list h1 h2 h3 h4 =>
    rename_i o vs n xs bs0
    have hz2 : 3 + costAll B xs ≤ sizeLine := by simpa only [cost] using hz
    have r0 : Reads s.heap (.ref a) (.list xs) _ := .list h1 h2 h3 h4
    obtain ⟨bs, hb, hk⟩ := reprFines (prog := prog) (w := w) hB hB2 hn h4 (by simpa only [fine] using h) (by omega)
    have hna : a ∉ bs := not_mem_of_deeper r0 (by simp only [PyData.depth]; omega) hb
    simp only [PyData.depth] at hu
    simp only [PyData.shown] at hQ hl
    refine call_repr_slot (by omega) ⟨o, h1, h2⟩ PySem.F.slot_list_repr.toG ?_
    obtain ⟨l⟩ := vs
    cases l with
    | nil =>
      have h5 : ReadsAll s.heap [] xs _ := h4
      cases h5
      simp only [PyData.shownAll, listText_nil] at hQ
      exact call_list_repr_empty ⟨o, h1, h2⟩ h1 h3 ⟨_, _, rfl, hQ s.heap _ _ e0⟩
    | cons x l =>
      exact call_list_reprK h1 h2 h3 hna (by simpa using hk.length_eq) (fun i y e => hk.item i y (by simpa using e)) hg (fun b _ => Clear.nil b) (by show A.units + 1 + _ < _; omega) e0
        (fun h' u tk hk' => ⟨_, _, rfl, hQ h' u tk hk'⟩) (by omega)
  | tuple h1 h2 h3 h4 =>
    rename_i o vs n xs
    have hz2 : 3 + costAll B xs ≤ sizeLine := by simpa only [cost] using hz
    have r0 : Reads s.heap (.ref a) (.tuple xs) _ := .tuple h1 h2 h3 h4
    obtain ⟨bs, hb, hk⟩ := reprFines (prog := prog) (w := w) hB hB2 hn h4 (by simpa only [fine] using h) (by omega)
    have hna : a ∉ bs := not_mem_of_deeper r0 (by simp only [PyData.depth]; omega) hb
    simp only [PyData.depth] at hu
    simp only [PyData.shown] at hQ hl
    refine call_repr_slot (by omega) ⟨o, h1, h2⟩ PySem.F.slot_tuple_repr ?_
    exact call_tuple_reprK h1 h2 h3 hna hk hg (fun b _ => Clear.nil b) (by show A.units + 1 + _ < _; omega) e0 (fun h' u tk hk' => ⟨_, _, rfl, hQ h' u tk hk'⟩) (by omega)
  | dict => simp [fine] at h
/-- repr of an int -/
theorem reprI {B : Nat} {A : Around} {E : Value → Shared → Prop} {s : Shared} {Q : Value → Shared → Prop} {i : Int} {t : Tok} (hB2 : B ≤ 12000) (hn : s.heap.NoDigits) (hi : i.natAbs < 2 ^ B) (hu : A.units + 1 < cLine)
    (hQ : ∀ u tk, Q (.str (toString i) u) { s with toks := tk }) : wpAny (model prog w) A (call (.builtin "repr") [.int i t]) Q E s := by
  have hi2 := pow_fit hB2 hi
  refine call_repr_slot (by omega) (typeIs_int s i t) PySem.F.slot_int_repr.toG ?_
  refine wpAny_call_entry PySem.F.slot_int_repr (typeIs_int s i t) PySem.F.entry_int_repr ?_ (PySem.F.args_int_repr_1 _)
  unfold Builtin.«int.__repr__»
  show wpAny _ _ (do let r ← Builtin.overDigitLimit? i; _) _ _ s
  refine wpAny_bind (overDigitLimit_any hn (fun _ => ?_) (fun h2 => absurd hi2 (Nat.not_lt.mpr h2)))
  exact wpAny_bind (wpAny_mkStr (wpAny_pure ⟨_, rfl, _, _, rfl, hQ _ _⟩) (int_text_fits10 hi2))
end
end Pk

/-! What a reading comes to, over data alone. -/
namespace Pk
open PySem PySem.Spec PyProof.Rows L2

/-! ### heaps -/
def Hid (S : List Addr) (H : Hp) : Hp := fun a => if a ∈ S then none else H a
theorem hid_in {S : List Addr} {H : Hp} {a : Addr} (h : a ∈ S) : Hid S H a = none := if_pos h
theorem hid_out {S : List Addr} {H : Hp} {a : Addr} (h : a ∉ S) : Hid S H a = H a := if_neg h
theorem hid_some {S : List Addr} {H : Hp} {a : Addr} {o : HO} (h : Hid S H a = some o) : a ∉ S ∧ H a = some o := by
  unfold Hid at h
  split at h
  · cases h
  · exact ⟨‹_›, h⟩
theorem hid_le (S : List Addr) (H : Hp) : Same (Hid S H) H := fun _ _ h => (hid_some h).2
theorem hid_same {S : List Addr} {H H' : Hp} (e : Same H H') : Same (Hid S H) (Hid S H') := fun a o h => by
  obtain ⟨h1, h2⟩ := hid_some h
  rw [hid_out h1]
  exact e a o h2
theorem same_new {H : Hp} {p : Addr} {o : HO} (h : H p = none) : Same H (upd H p o) := fun a u e => by
  rw [upd_ne (ne_of_none e h)]
  exact e
theorem seqT {K : PySem.W.Frag} {H H' : Hp} {a : Addr} {xs : List V} (e : Same H H') (h : SqT K H a xs) : SqT K H' a xs := by
  rcases h with (h | ⟨o, h⟩) | h
  · exact .inl (.inl (e _ _ h))
  · exact .inl (.inr ⟨o, e _ _ h⟩)
  · exact .inr h
section
variable {K : PySem.W.Frag} {H H' : Hp}
mutual
theorem dp_up (e : Same H H') : ∀ {v : V} {d : PD}, Dp K H v d → Dp K H' v d
  | _, _, .non => .non
  | _, _, .bl b => .bl b
  | _, _, .int i => .int i
  | _, _, .str x => .str x
  | _, _, .lst h a => .lst (e.seq h) (dpa_up e a)
  | _, _, .tup h a => .tup (seqT e h) (dpa_up e a)
theorem dpa_up (e : Same H H') : ∀ {vs : List V} {ds : List PD}, DpAll K H vs ds → DpAll K H' vs ds
  | _, _, .nil => .nil
  | _, _, .cons h t => .cons (dp_up e h) (dpa_up e t)
end
theorem dpa_len : ∀ {vs : List V} {ds : List PD}, DpAll K H vs ds → vs.length = ds.length
  | _, _, .nil => rfl
  | _, _, .cons _ t => congrArg Nat.succ (dpa_len t)
theorem dpa_get : ∀ {vs : List V} {ds : List PD} {i : Nat} {d : PD}, DpAll K H vs ds → ds[i]? = some d → ∃ v, vs[i]? = some v ∧ Dp K H v d
  | _, _, _, _, .nil, e => by simp at e
  | _, _, 0, _, .cons h _, e => by simp at e; subst e; exact ⟨_, rfl, h⟩
  | _, _, i + 1, d, .cons _ t, e => by
    obtain ⟨v, h1, h2⟩ := dpa_get (i := i) (d := d) t (by simpa using e)
    exact ⟨v, by simpa using h1, h2⟩
theorem dpa_getV : ∀ {vs : List V} {ds : List PD} {i : Nat} {v : V}, DpAll K H vs ds → vs[i]? = some v → ∃ d, ds[i]? = some d ∧ Dp K H v d
  | _, _, _, _, .nil, e => by simp at e
  | _, _, 0, _, .cons h _, e => by simp at e; subst e; exact ⟨_, rfl, h⟩
  | _, _, i + 1, d, .cons _ t, e => by
    obtain ⟨v, h1, h2⟩ := dpa_getV (i := i) (v := d) t (by simpa using e)
    exact ⟨v, by simpa using h1, h2⟩
theorem dpa_app : ∀ {vs us : List V} {ds es : List PD}, DpAll K H vs ds → DpAll K H us es → DpAll K H (vs ++ us) (ds ++ es)
  | _, _, _, _, .nil, s => s
  | _, _, _, _, .cons h t, s => .cons h (dpa_app t s)
theorem dpa_set {v : V} {d : PD} (r : Dp K H v d) : ∀ {vs : List V} {ds : List PD} (i : Nat), DpAll K H vs ds → DpAll K H (vs.set i v) (ds.set i d)
  | _, _, _, .nil => .nil
  | _, _, 0, .cons _ t => .cons r t
  | _, _, i + 1, .cons q t => .cons q (dpa_set r i t)
theorem dpa_take : ∀ {vs : List V} {ds : List PD} (n : Nat), DpAll K H vs ds → DpAll K H (vs.take n) (ds.take n)
  | _, _, 0, _ => .nil
  | _, _, _ + 1, .nil => .nil
  | _, _, n + 1, .cons r t => .cons r (dpa_take n t)
theorem dpa_drop : ∀ {vs : List V} {ds : List PD} (n : Nat), DpAll K H vs ds → DpAll K H (vs.drop n) (ds.drop n)
  | _, _, 0, r => r
  | _, _, _ + 1, .nil => .nil
  | _, _, n + 1, .cons _ t => dpa_drop n t
theorem dpa_reps : ∀ {vs : List V} {ds : List PD} (n : Nat), DpAll K H vs ds → DpAll K H (List.replicate n vs).flatten (List.replicate n ds).flatten
  | _, _, 0, _ => .nil
  | vs, ds, n + 1, r => by
    rw [List.replicate_succ, List.flatten_cons, List.replicate_succ, List.flatten_cons]
    exact dpa_app r (dpa_reps n r)
theorem dpa_ints {vs : List V} : ∀ {is : List Int}, DpAll K H vs (is.map PyData.int) → vs = is.map V.int
  | [], h => by cases h; rfl
  | i :: is, h => by
    cases h with
    | cons a b => cases a; rw [List.map_cons, dpa_ints b]
theorem dpa_ofInts : ∀ (is : List Int), DpAll K H (is.map V.int) (is.map PyData.int)
  | [] => .nil
  | i :: is => .cons (.int i) (dpa_ofInts is)
theorem dp_toInt {v : V} {i : Int} (h : Dp K H v (.int i)) : v = .int i := by cases h; rfl
theorem dp_toBl {v : V} {b : Bool} (h : Dp K H v (.bool b)) : v = .bl b := by cases h; rfl
theorem dp_toLst {v : V} {ds : List PD} (h : Dp K H v (.list ds)) : ∃ a xs, v = .ref a ∧ SqL K H a xs ∧ DpAll K H xs ds := by
  cases h with
  | lst h a => exact ⟨_, _, rfl, h, a⟩
theorem dp_toTup {v : V} {ds : List PD} (h : Dp K H v (.tuple ds)) : ∃ a xs, v = .ref a ∧ SqT K H a xs ∧ DpAll K H xs ds := by
  cases h with
  | tup h a => exact ⟨_, _, rfl, h, a⟩
end

/-! ### the deck of draws -/
structure DeckAt (K : PySem.W.Frag) (S : List Addr) (H : Hp) (dk : Addr) : Prop where
  ex : ∃ (d0 d1 sd : Int) (l : Addr) (d4 : Int) (ns : List Int), H dk = some (.lst [.int d0, .int d1, .int sd, .ref l, .int d4]) ∧ SqL K (Hid S H) l (ns.map V.int) ∧ 0 ≤ d0 ∧ 0 ≤ d1 ∧ 0 ≤ sd ∧ sd < 2147483647 ∧ 0 ≤ d4

/-! ### environments -/
inductive Ent where
  | dat (d : PD)
  | own (ds : List PD)
  | deck
  | mon (R : V → Hp → Prop)
abbrev Rho := List (Option Ent)

structure EnvD (K : PySem.W.Frag) (dk : Option Addr) (S0 : List Addr) (H0 : Hp) (S : List Addr) (H : Hp) (σ : L2.St) (ρ : Rho) : Prop where
  keep : ∀ (a : Addr) (o : HO), H0 a = some o → a ∉ S0 → H a = some o
  own0 : ∀ a ∈ S0, H0 a ≠ none
  kept0 : ∀ a ∈ S0, dk ≠ some a → H a = H0 a
  sub : ∀ a ∈ S0, a ∈ S
  new : ∀ a ∈ S, a ∈ S0 ∨ H0 a = none
  own : ∀ a ∈ S, H a ≠ none
  deck : ∀ a, dk = some a → a ∈ S0 ∧ DeckAt K S H a
  len : σ.length = ρ.length
  dat : ∀ (i : Nat) (d : PD), ρ[i]? = some (some (Ent.dat d)) → ∃ v, σ[i]? = some (some v) ∧ Dp K (Hid S H) v d
  lst : ∀ (i : Nat) (ds : List PD), ρ[i]? = some (some (Ent.own ds)) → ∃ p vs, σ[i]? = some (some (V.ref p)) ∧ p ∈ S ∧ H0 p = none ∧ H p = some (.lst vs) ∧ DpAll K (Hid S H) vs ds
  dck : ∀ (i : Nat), ρ[i]? = some (some Ent.deck) → ∃ a, dk = some a ∧ σ[i]? = some (some (V.ref a))
  sep : ∀ (i j : Nat) (ds es : List PD) (p : Addr), ρ[i]? = some (some (Ent.own ds)) → ρ[j]? = some (some (Ent.own es)) → σ[i]? = some (some (V.ref p)) → σ[j]? = some (some (V.ref p)) → i = j
  mon : ∀ (i : Nat) (R : V → Hp → Prop), ρ[i]? = some (some (Ent.mon R)) → (∀ v H1 H2, Same H1 H2 → R v H1 → R v H2) ∧ ∃ v, σ[i]? = some (some v) ∧ R v (Hid S H)

/-- from S, H to S', H': what is not hidden stands -/
structure Step (S : List Addr) (H : Hp) (S' : List Addr) (H' : Hp) : Prop where
  sub : ∀ a ∈ S, a ∈ S'
  new : ∀ a ∈ S', a ∈ S ∨ H a = none
  keep : ∀ a o, a ∉ S → H a = some o → H' a = some o
theorem Step.refl (S : List Addr) (H : Hp) : Step S H S H := ⟨fun _ h => h, fun _ h => .inl h, fun _ _ _ h => h⟩
theorem Step.hid {S S' : List Addr} {H H' : Hp} (s : Step S H S' H') : Same (Hid S H) (Hid S' H') := fun a o h => by
  obtain ⟨h1, h2⟩ := hid_some h
  rw [hid_out]
  · exact s.keep a o h1 h2
  · intro q
    rcases s.new a q with q | q
    · exact h1 q
    · rw [q] at h2; cases h2
theorem Step.trans {S S1 S2 : List Addr} {H H1 H2 : Hp} (a : Step S H S1 H1) (b : Step S1 H1 S2 H2) : Step S H S2 H2 where
  sub := fun x h => b.sub x (a.sub x h)
  new := fun x h => by
    rcases b.new x h with q | q
    · exact a.new x q
    · cases e : H x with
      | none => exact .inr rfl
      | some o =>
        by_cases hx : x ∈ S
        · exact .inl hx
        · have := a.keep x o hx e
          rw [q] at this
          cases this
  keep := fun x o hx e => by
    have h1 := a.keep x o hx e
    refine b.keep x o ?_ h1
    intro q
    rcases a.new x q with z | z
    · exact hx z
    · rw [z] at e; cases e
theorem Step.of_same {S : List Addr} {H H' : Hp} (e : Same H H') : Step S H S H' := ⟨fun _ h => h, fun _ h => .inl h, fun a o _ h => e a o h⟩

theorem DeckAt.step {K : PySem.W.Frag} {S S' : List Addr} {H H' : Hp} {dk : Addr} (d : DeckAt K S H dk) (s : Step S H S' H') (e : H' dk = H dk) : DeckAt K S' H' dk := by
  obtain ⟨d0, d1, sd, l, d4, ns, h1, h2, h3⟩ := d.ex
  exact ⟨d0, d1, sd, l, d4, ns, e.trans h1, s.hid.seq h2, h3⟩

section
variable {K : PySem.W.Frag} {dk : Option Addr} {S0 : List Addr} {H0 : Hp} {S S' : List Addr} {H H' : Hp} {σ σ' : L2.St} {ρ : Rho}
/-- only new objects, or the hidden ones that are no slot's -/
theorem EnvD.grow (I : EnvD K dk S0 H0 S H σ ρ) (e : Same H H') : EnvD K dk S0 H0 S H' σ ρ where
  keep := fun a o h n => e _ _ (I.keep a o h n)
  own0 := I.own0
  kept0 := fun a h n => by
    have h1 := I.kept0 a h n
    cases q : H a with
    | none => exact absurd q (I.own a (I.sub a h))
    | some o =>
      rw [e a o q, ← h1, q]
  sub := I.sub
  new := I.new
  own := fun a h z => by
    cases q : H a with
    | none => exact I.own a h q
    | some o =>
      rw [e a o q] at z
      cases z
  deck := fun a h => by
    obtain ⟨h1, h2⟩ := I.deck a h
    refine ⟨h1, h2.step (.of_same e) ?_⟩
    obtain ⟨d0, d1, sd, l, d4, ns, z, _⟩ := h2.ex
    rw [z, e a _ z]
  len := I.len
  dat := fun i d h => by
    obtain ⟨v, h1, h2⟩ := I.dat i d h
    exact ⟨v, h1, dp_up (hid_same e) h2⟩
  lst := fun i ds h => by
    obtain ⟨p, vs, h1, h2, h3, h4, h5⟩ := I.lst i ds h
    exact ⟨p, vs, h1, h2, h3, e _ _ h4, dpa_up (hid_same e) h5⟩
  dck := I.dck
  sep := I.sep
  mon := fun i R h => by
    obtain ⟨m, v, h1, h2⟩ := I.mon i R h
    exact ⟨m, v, h1, m _ _ _ (hid_same e) h2⟩
/-- the deck alone has turned, and new objects -/
theorem EnvD.turned {a : Addr} (I : EnvD K dk S0 H0 S H σ ρ) (hd : dk = some a) (e : ∀ b o, b ≠ a → H b = some o → H' b = some o) (hD : DeckAt K S H' a) : EnvD K dk S0 H0 S H' σ ρ := by
  obtain ⟨ha, _⟩ := I.deck a hd
  have haS := I.sub a ha
  have st : Same (Hid S H) (Hid S H') := fun b o h => by
    obtain ⟨h1, h2⟩ := hid_some h
    rw [hid_out h1]
    exact e b o (fun z => h1 (z ▸ haS)) h2
  refine ⟨fun b o h n => e _ _ (fun z => n (z ▸ ha)) (I.keep b o h n), I.own0, fun b h n => ?_, I.sub, I.new, fun b h z => ?_, fun b h => ?_, I.len, fun i d h => ?_, fun i ds h => ?_, I.dck, I.sep, fun i R h => let ⟨m, v, h1, h2⟩ := I.mon i R h; ⟨m, v, h1, m _ _ _ st h2⟩⟩
  · have h1 := I.kept0 b h n
    have hb : b ≠ a := fun z => n (by rw [z]; exact hd)
    cases q : H b with
    | none => exact absurd q (I.own b (I.sub b h))
    | some o => rw [e b o hb q, ← h1, q]
  · by_cases hb : b = a
    · subst hb
      obtain ⟨d0, d1, sd, l, d4, ns, z2, _⟩ := hD.ex
      rw [z2] at z
      cases z
    · cases q : H b with
      | none => exact I.own b h q
      | some o =>
        rw [e b o hb q] at z
        cases z
  · rw [hd] at h
    cases h
    exact ⟨ha, hD⟩
  · obtain ⟨v, h1, h2⟩ := I.dat i d h
    exact ⟨v, h1, dp_up st h2⟩
  · obtain ⟨p, vs, h1, h2, h3, h4, h5⟩ := I.lst i ds h
    have hp : p ≠ a := fun z => by
      subst z
      exact I.own0 p ha h3
    exact ⟨p, vs, h1, h2, h3, e _ _ hp h4, dpa_up st h5⟩
end

/-- all that stood stands, but for the deck -/
def SameB (dk : Option Addr) (H H' : Hp) : Prop := ∀ a o, dk ≠ some a → H a = some o → H' a = some o
theorem SameB.refl (dk : Option Addr) (H : Hp) : SameB dk H H := fun _ _ _ h => h
theorem SameB.trans {dk : Option Addr} {H H1 H2 : Hp} (a : SameB dk H H1) (b : SameB dk H1 H2) : SameB dk H H2 := fun x o n h => b x o n (a x o n h)
theorem SameB.of_same {dk : Option Addr} {H H' : Hp} (e : Same H H') : SameB dk H H' := fun a o _ h => e a o h
section
variable {K : PySem.W.Frag} {dk : Option Addr} {S0 : List Addr} {H0 : Hp} {S S' : List Addr} {H H' : Hp} {σ σ' : L2.St} {ρ : Rho}
theorem EnvD.dkS (I : EnvD K dk S0 H0 S H σ ρ) {a : Addr} (h : a ∉ S) : dk ≠ some a := fun z => h (I.sub a (I.deck a z).1)
theorem EnvD.hid (I : EnvD K dk S0 H0 S H σ ρ) (s : SameB dk H H') : Same (Hid S H) (Hid S H') := fun a o h => by
  obtain ⟨h1, h2⟩ := hid_some h
  rw [hid_out h1]
  exact s a o (I.dkS h1) h2
theorem EnvD.step (I : EnvD K dk S0 H0 S H σ ρ) (s : SameB dk H H') : Step S H S H' := ⟨fun _ h => h, fun _ h => .inl h, fun a o n h => s a o (I.dkS n) h⟩
theorem EnvD.free (I : EnvD K dk S0 H0 S H' σ ρ) (s : SameB dk H H') {p : Addr} (h : H' p = none) : H p = none := by
  cases q : H p with
  | none => rfl
  | some o =>
    have := s p o (I.dkS (fun z => I.own p z h)) q
    rw [h] at this; cases this
end

theorem hid_new {S : List Addr} {H H1 : Hp} {p : Addr} (e : Same H H1) (h : H p = none) : Same (Hid S H) (Hid (p :: S) H1) := fun a o q => by
  obtain ⟨h1, h2⟩ := hid_some q
  rw [hid_out]
  · exact e a o h2
  · intro z
    rcases List.mem_cons.mp z with z | z
    · rw [z, h] at h2; cases h2
    · exact h1 z
theorem hid_cons_le (p : Addr) (S : List Addr) (H : Hp) : Same (Hid (p :: S) H) (Hid S H) := fun a o h => by
  obtain ⟨h1, h2⟩ := hid_some h
  rw [hid_out (fun z => h1 (List.mem_cons_of_mem _ z))]
  exact h2
section
variable {K : PySem.W.Frag} {dk : Option Addr} {S0 : List Addr} {H0 : Hp} {S S' : List Addr} {H H' : Hp} {σ σ' : L2.St} {ρ : Rho}
theorem EnvD.free0 (I : EnvD K dk S0 H0 S H σ ρ) {p : Addr} (h : H p = none) : H0 p = none := by
  cases q : H0 p with
  | none => rfl
  | some o =>
    by_cases hS : p ∈ S0
    · exact absurd h (I.own p (I.sub p hS))
    · have := I.keep p o q hS
      rw [h] at this; cases this
/-- new objects, one of them hidden from here on -/
theorem EnvD.hideS (I : EnvD K dk S0 H0 S H σ ρ) (e : Same H H') {p : Addr} (hp : H p = none) (hl : H' p ≠ none) : EnvD K dk S0 H0 (p :: S) H' σ ρ := by
  have st : Same (Hid S H) (Hid (p :: S) H') := hid_new e hp
  have J := I.grow e
  refine ⟨J.keep, I.own0, J.kept0, fun a h => List.mem_cons_of_mem _ (I.sub a h), fun a h => ?_, fun a h => ?_, fun a h => ?_, I.len, fun i d h => ?_, fun i ds h => ?_, I.dck, I.sep, fun i R h => let ⟨m, v, h1, h2⟩ := I.mon i R h; ⟨m, v, h1, m _ _ _ st h2⟩⟩
  · rcases List.mem_cons.mp h with rfl | h
    · exact .inr (I.free0 hp)
    · exact I.new a h
  · rcases List.mem_cons.mp h with rfl | h
    · exact hl
    · exact J.own a h
  · obtain ⟨h1, h2⟩ := I.deck a h
    refine ⟨h1, ?_⟩
    obtain ⟨d0, d1, sd, l, d4, ns, z, z2, z3⟩ := h2.ex
    exact ⟨d0, d1, sd, l, d4, ns, e a _ z, st.seq z2, z3⟩
  · obtain ⟨v, h1, h2⟩ := I.dat i d h
    exact ⟨v, h1, dp_up st h2⟩
  · obtain ⟨q, vs, h1, h2, h3, h4, h5⟩ := I.lst i ds h
    exact ⟨q, vs, h1, List.mem_cons_of_mem _ h2, h3, e _ _ h4, dpa_up st h5⟩
theorem EnvD.show_ (I : EnvD K dk S0 H0 (p :: S) H σ ρ) (hs : ∀ a ∈ S0, a ∈ S) (hq : ∀ (i : Nat) (ds : List PD), ρ[i]? = some (some (Ent.own ds)) → ∃ q, σ[i]? = some (some (V.ref q)) ∧ q ∈ S) : EnvD K dk S0 H0 S H σ ρ := by
  have st := hid_cons_le p S H
  refine ⟨I.keep, I.own0, I.kept0, hs, fun a h => I.new a (List.mem_cons_of_mem _ h), fun a h => I.own a (List.mem_cons_of_mem _ h), fun a h => ?_, I.len, fun i d h => ?_, fun i ds h => ?_, I.dck, I.sep, fun i R h => let ⟨m, v, h1, h2⟩ := I.mon i R h; ⟨m, v, h1, m _ _ _ st h2⟩⟩
  · obtain ⟨h1, h2⟩ := I.deck a h
    refine ⟨h1, ?_⟩
    obtain ⟨d0, d1, sd, l, d4, ns, z, z2, z3⟩ := h2.ex
    exact ⟨d0, d1, sd, l, d4, ns, z, st.seq z2, z3⟩
  · obtain ⟨v, h1, h2⟩ := I.dat i d h
    exact ⟨v, h1, dp_up st h2⟩
  · obtain ⟨q, vs, h1, h2, h3, h4, h5⟩ := I.lst i ds h
    obtain ⟨q2, h6, h7⟩ := hq i ds h
    rw [h1] at h6
    cases h6
    exact ⟨q, vs, h1, h7, h3, h4, dpa_up st h5⟩
/-- what was so at S, p a new address -/
theorem EnvD.unhide {H1 : Hp} {p : Addr} (I : EnvD K dk S0 H0 (p :: S) H1 σ ρ) (I0 : EnvD K dk S0 H0 S H σ ρ) : EnvD K dk S0 H0 S H1 σ ρ :=
  I.show_ I0.sub fun i ds h => by
    obtain ⟨q, vs, h1, h2, _⟩ := I0.lst i ds h
    exact ⟨q, h1, h2⟩
end

/-! ### evaluation -/
/-- an expression: every value that may come satisfies P -/
def EvE (K : PySem.W.Frag) (te : TE) (ρ : Rho) (P : PD → Prop) : Prop :=
  ∀ (dk : Option Addr) (S0 : List Addr) (H0 : Hp) (S : List Addr) (H : Hp) (σ : L2.St) (Q : VK), EnvD K dk S0 H0 S H σ ρ →
    (∀ d v H', P d → EnvD K dk S0 H0 S H' σ ρ → SameB dk H H' → Dp K (Hid S H') v d → Q v H') → te σ H Q
/-- a new list -/
def EvL (K : PySem.W.Frag) (te : TE) (ρ : Rho) (P : List PD → Prop) : Prop :=
  ∀ (dk : Option Addr) (S0 : List Addr) (H0 : Hp) (S : List Addr) (H : Hp) (σ : L2.St) (Q : VK), EnvD K dk S0 H0 S H σ ρ →
    (∀ ds p vs H', P ds → EnvD K dk S0 H0 (p :: S) H' σ ρ → SameB dk H H' → H p = none → H' p = some (.lst vs) → DpAll K (Hid (p :: S) H') vs ds → Q (.ref p) H') → te σ H Q
def EvT (K : PySem.W.Frag) (tt : TT) (ρ : Rho) (P : Bool → Prop) : Prop :=
  ∀ (dk : Option Addr) (S0 : List Addr) (H0 : Hp) (S : List Addr) (H : Hp) (σ : L2.St) (Q : Bool → Hp → Prop), EnvD K dk S0 H0 S H σ ρ →
    (∀ b H', P b → EnvD K dk S0 H0 S H' σ ρ → SameB dk H H' → Q b H') → tt σ H Q
def EvA (K : PySem.W.Frag) (ta : TA) (ρ : Rho) (P : List PD → Prop) : Prop :=
  ∀ (dk : Option Addr) (S0 : List Addr) (H0 : Hp) (S : List Addr) (H : Hp) (σ : L2.St) (Q : List V → Hp → Prop), EnvD K dk S0 H0 S H σ ρ →
    (∀ ds vs H', P ds → EnvD K dk S0 H0 S H' σ ρ → SameB dk H H' → DpAll K (Hid S H') vs ds → Q vs H') → ta σ H Q

section
variable {K : PySem.W.Frag} {ρ : Rho} {ta tb te : TE} {tt tu : TT} {tr : TA} {P P' Pa Pb : PD → Prop}
theorem EvE.imp (h : EvE K te ρ P) (f : ∀ d, P d → P' d) : EvE K te ρ P' := fun dk S0 H0 S H σ Q I k => h dk S0 H0 S H σ Q I fun d v H' p => k d v H' (f d p)
theorem EvL.imp {P P' : List PD → Prop} (h : EvL K te ρ P) (f : ∀ d, P d → P' d) : EvL K te ρ P' := fun dk S0 H0 S H σ Q I k => h dk S0 H0 S H σ Q I fun d p v H' q => k d p v H' (f d q)
theorem EvT.imp {P P' : Bool → Prop} (h : EvT K tt ρ P) (f : ∀ d, P d → P' d) : EvT K tt ρ P' := fun dk S0 H0 S H σ Q I k => h dk S0 H0 S H σ Q I fun d H' p => k d H' (f d p)
theorem EvA.imp {P P' : List PD → Prop} (h : EvA K tr ρ P) (f : ∀ d, P d → P' d) : EvA K tr ρ P' := fun dk S0 H0 S H σ Q I k => h dk S0 H0 S H σ Q I fun d v H' p => k d v H' (f d p)
theorem fresh_out {S : List Addr} {H : Hp} {p : Addr} (own : ∀ a ∈ S, H a ≠ none) (h : H p = none) : p ∉ S := fun z => own p z h
/-- a new list as data -/
theorem EvL.dat {P : List PD → Prop} (h : EvL K te ρ P) : EvE K te ρ fun d => ∃ ds, d = .list ds ∧ P ds := fun dk S0 H0 S H σ Q I k => by
  refine h dk S0 H0 S H σ Q I fun ds p vs H' hP I' st hp hl hd => ?_
  refine k (.list ds) (.ref p) H' ⟨ds, rfl, hP⟩ (I'.unhide I) st (.lst (.inl (.inl ?_)) (dpa_up (hid_cons_le p S H') hd))
  rw [hid_out (fresh_out I.own hp)]
  exact hl
theorem EvL.datE {ds : List PD} (h : EvL K te ρ (· = ds)) : EvE K te ρ (· = .list ds) := h.dat.imp fun _ ⟨_, h1, h2⟩ => by rw [h1, h2]

/-! ### names, constants -/
theorem ev_var {i : Nat} {d : PD} (h : ρ[i]? = some (some (Ent.dat d))) : EvE K (tVar i) ρ (· = d) := fun dk S0 H0 S H σ Q I k => by
  obtain ⟨v, h1, h2⟩ := I.dat i d h
  exact ⟨v, h1, k d v H rfl I (.refl _ _) h2⟩
theorem ev_int {i : Int} : EvE K (tC (.int i)) ρ (· = .int i) := fun dk S0 H0 S H σ Q I k => k _ _ H rfl I (.refl _ _) (.int i)
theorem ev_bl {b : Bool} : EvE K (tC (.bl b)) ρ (· = .bool b) := fun dk S0 H0 S H σ Q I k => k _ _ H rfl I (.refl _ _) (.bl b)
theorem ev_non : EvE K (tC .non) ρ (· = .none) := fun dk S0 H0 S H σ Q I k => k _ _ H rfl I (.refl _ _) .non
theorem ev_str {x : Str} : EvE K (tC (.str x)) ρ (· = .str x) := fun dk S0 H0 S H σ Q I k => k _ _ H rfl I (.refl _ _) (.str x)
/-- a constant of the module that is a tuple of ints -/
theorem ev_conT {a : Addr} {is : List Int} (h : ∀ H, SqT K H a (is.map V.int)) : EvE K (tC (.ref a)) ρ (· = .tuple (is.map PyData.int)) := fun dk S0 H0 S H σ Q I k =>
  k _ _ H rfl I (.refl _ _) (.tup (h _) (dpa_ofInts is))

/-! ### operators: by what they do to data -/
/-- r of two data: only new objects are laid -/
def RV (K : PySem.W.Frag) (r : R2) (x y : PD) (P : PD → Prop) : Prop :=
  ∀ (S : List Addr) (H : Hp) (v u : V) (Q : VK), (∀ a ∈ S, H a ≠ none) → Dp K (Hid S H) v x → Dp K (Hid S H) u y → (∀ d z H', P d → Same H H' → Dp K (Hid S H') z d → Q z H') → r v u H Q
def RU (K : PySem.W.Frag) (r : V → Hp → VK → Prop) (x : PD) (P : PD → Prop) : Prop :=
  ∀ (S : List Addr) (H : Hp) (v : V) (Q : VK), (∀ a ∈ S, H a ≠ none) → Dp K (Hid S H) v x → (∀ d z H', P d → Same H H' → Dp K (Hid S H') z d → Q z H') → r v H Q
def RC (K : PySem.W.Frag) (r : List V → Hp → VK → Prop) (xs : List PD) (P : PD → Prop) : Prop :=
  ∀ (S : List Addr) (H : Hp) (vs : List V) (Q : VK), (∀ a ∈ S, H a ≠ none) → DpAll K (Hid S H) vs xs → (∀ d z H', P d → Same H H' → Dp K (Hid S H') z d → Q z H') → r vs H Q
def RCL (K : PySem.W.Frag) (r : List V → Hp → VK → Prop) (xs : List PD) (P : List PD → Prop) : Prop :=
  ∀ (S : List Addr) (H : Hp) (vs : List V) (Q : VK), (∀ a ∈ S, H a ≠ none) → DpAll K (Hid S H) vs xs → (∀ ds p zs H', P ds → Same H H' → H p = none → H' p = some (.lst zs) → DpAll K (Hid (p :: S) H') zs ds → Q (.ref p) H') → r vs H Q

theorem ev_op {r : R2} (ha : EvE K ta ρ Pa) (hb : ∀ x, Pa x → EvE K tb ρ Pb) (hr : ∀ x y, Pa x → Pb y → RV K r x y P) : EvE K (tOp r ta tb) ρ P := fun dk S0 H0 S H σ Q I k =>
  ha dk S0 H0 S H σ _ I fun x v H1 px I1 s1 d1 => hb x px dk S0 H0 S H1 σ _ I1 fun y u H2 py I2 s2 d2 =>
    hr x y px py S H2 v u Q I2.own (dp_up (I1.hid s2) d1) d2 fun d z H3 pd e3 d3 => k d z H3 pd (I2.grow e3) ((s1.trans s2).trans (.of_same e3)) d3
theorem ev_op1 {r : R2} {x y : PD} (ha : EvE K ta ρ (· = x)) (hb : EvE K tb ρ (· = y)) (hr : RV K r x y P) : EvE K (tOp r ta tb) ρ P :=
  ev_op ha (fun _ _ => hb) fun x' y' h1 h2 => by rw [h1, h2]; exact hr
theorem ev_un {r : V → Hp → VK → Prop} (ha : EvE K ta ρ Pa) (hr : ∀ x, Pa x → RU K r x P) : EvE K (tUn r ta) ρ P := fun dk S0 H0 S H σ Q I k =>
  ha dk S0 H0 S H σ _ I fun x v H1 px I1 s1 d1 => hr x px S H1 v Q I1.own d1 fun d z H3 pd e3 d3 => k d z H3 pd (I1.grow e3) (s1.trans (.of_same e3)) d3
theorem ev_cb {r : List V → Hp → VK → Prop} {PA : List PD → Prop} (ha : EvA K tr ρ PA) (hr : ∀ xs, PA xs → RC K r xs P) : EvE K (tCB r tr) ρ P := fun dk S0 H0 S H σ Q I k =>
  ha dk S0 H0 S H σ _ I fun xs vs H1 px I1 s1 d1 => hr xs px S H1 vs Q I1.own d1 fun d z H3 pd e3 d3 => k d z H3 pd (I1.grow e3) (s1.trans (.of_same e3)) d3
theorem el_cb {r : List V → Hp → VK → Prop} {PA P : List PD → Prop} (ha : EvA K tr ρ PA) (hr : ∀ xs, PA xs → RCL K r xs P) : EvL K (tCB r tr) ρ P := fun dk S0 H0 S H σ Q I k =>
  ha dk S0 H0 S H σ _ I fun xs vs H1 px I1 s1 d1 => hr xs px S H1 vs Q I1.own d1 fun ds p zs H3 pd e3 hp hl d3 => k ds p zs H3 pd (I1.hideS e3 hp (by rw [hl]; exact fun z => nomatch z)) (s1.trans (.of_same e3)) (I1.free s1 hp) hl d3
theorem ea_nil : EvA K tNil ρ (· = []) := fun dk S0 H0 S H σ Q I k => k _ _ H rfl I (.refl _ _) .nil
theorem ea_cons {PA : List PD → Prop} (ha : EvE K ta ρ Pa) (hr : ∀ x, Pa x → EvA K tr ρ PA) : EvA K (tCons ta tr) ρ fun ds => ∃ x xs, ds = x :: xs ∧ Pa x ∧ PA xs := fun dk S0 H0 S H σ Q I k =>
  ha dk S0 H0 S H σ _ I fun x v H1 px I1 s1 d1 => hr x px dk S0 H0 S H1 σ _ I1 fun xs vs H2 pxs I2 s2 d2 => k _ _ H2 ⟨x, xs, rfl, px, pxs⟩ I2 (s1.trans s2) (.cons (dp_up (I1.hid s2) d1) d2)
theorem ea_one {x : PD} {xs : List PD} (ha : EvE K ta ρ (· = x)) (hr : EvA K tr ρ (· = xs)) : EvA K (tCons ta tr) ρ (· = x :: xs) :=
  (ea_cons ha fun _ _ => hr).imp fun ds ⟨a, b, h1, h2, h3⟩ => by rw [h1, h2, h3]
/-! ### displays -/
theorem ev_tup {PA : List PD → Prop} (ha : EvA K tr ρ PA) (hl : ∀ xs, PA xs → xs.length ≤ 100000) : EvE K (tTup tr) ρ fun d => ∃ xs, d = .tuple xs ∧ PA xs := fun dk S0 H0 S H σ Q I k =>
  ha dk S0 H0 S H σ _ I fun xs vs H1 px I1 s1 d1 => ⟨by rw [dpa_len d1]; exact Nat.le_trans (hl xs px) (by decide), fun p hp => by
    have e := same_new (o := .tup vs) hp
    refine k (.tuple xs) (.ref p) _ ⟨xs, rfl, px⟩ (I1.grow e) (s1.trans (.of_same e)) (.tup (.inl (.inl ?_)) (dpa_up (hid_same e) d1))
    rw [hid_out (fresh_out I1.own hp), upd_same]⟩
theorem ev_tup1 {xs : List PD} (ha : EvA K tr ρ (· = xs)) (hl : xs.length ≤ 100000 := by first | decide | (simp; done) | (simp; omega)) : EvE K (tTup tr) ρ (· = .tuple xs) := (ev_tup ha fun ys e => by rw [e]; exact hl).imp fun d ⟨ys, h1, h2⟩ => by rw [h1, h2]
theorem el_lst {PA : List PD → Prop} (ha : EvA K tr ρ PA) (hl : ∀ xs, PA xs → xs.length ≤ 100000) : EvL K (tLst tr) ρ PA := fun dk S0 H0 S H σ Q I k =>
  ha dk S0 H0 S H σ _ I fun xs vs H1 px I1 s1 d1 => ⟨by rw [dpa_len d1]; exact Nat.le_trans (hl xs px) (by decide), fun p hp => by
    have e := same_new (o := .lst vs) hp
    have hp0 : H p = none := I1.free s1 hp
    exact k xs p vs _ px (I1.hideS e hp (by rw [upd_same]; exact fun z => nomatch z)) (s1.trans (.of_same e)) hp0 upd_same (dpa_up (hid_new e hp) d1)⟩
theorem el_lst1 {xs : List PD} (ha : EvA K tr ρ (· = xs)) (hl : xs.length ≤ 100000 := by first | decide | (simp; done) | (simp; omega)) : EvL K (tLst tr) ρ (· = xs) := el_lst ha fun ys e => by rw [e]; exact hl

/-! ### tests -/
theorem et_test {P : Bool → Prop} (h : EvE K te ρ fun d => ∃ b, d = .bool b ∧ P b) : EvT K (tTest te) ρ P := fun dk S0 H0 S H σ Q I k =>
  h dk S0 H0 S H σ _ I fun d v H1 ⟨b, e, p⟩ I1 s1 d1 => by subst e; exact ⟨b, dp_toBl d1, k b H1 p I1 s1⟩
theorem et_test1 {b : Bool} (h : EvE K te ρ (· = .bool b)) : EvT K (tTest te) ρ (· = b) := et_test (h.imp fun _ e => ⟨b, e, rfl⟩)
theorem et_B1 {b : Bool} (h : EvE K te ρ (· = .bool b)) : EvT K (tB te) ρ (· = b) := fun dk S0 H0 S H σ Q I k =>
  h dk S0 H0 S H σ _ I fun d v H1 e I1 s1 d1 => by subst e; exact ⟨b, dp_toBl d1, k b H1 rfl I1 s1⟩
theorem et_not {P : Bool → Prop} (h : EvT K tt ρ P) : EvT K (tNot tt) ρ fun b => P (!b) := fun dk S0 H0 S H σ Q I k =>
  h dk S0 H0 S H σ _ I fun b H1 p I1 s1 => k _ H1 (show P (!!b) from (Bool.not_not b).symm ▸ p) I1 s1
theorem et_not1 {b : Bool} (h : EvT K tt ρ (· = b)) : EvT K (tNot tt) ρ (· = !b) := (et_not h).imp fun c e => by rw [← e, Bool.not_not]
theorem et_and {P Q : Bool → Prop} (h1 : EvT K tt ρ P) (h2 : P true → EvT K tu ρ Q) : EvT K (tAnd tt tu) ρ fun b => (P true ∧ Q b) ∨ (P false ∧ b = false) := fun dk S0 H0 S H σ R I k =>
  h1 dk S0 H0 S H σ _ I fun b H1 p I1 s1 => by
    cases b with
    | true => exact iteT (h2 p dk S0 H0 S H1 σ R I1 fun c H2 q I2 s2 => k c H2 (.inl ⟨p, q⟩) I2 (s1.trans s2))
    | false => exact iteF (k false H1 (.inr ⟨p, rfl⟩) I1 s1)
theorem et_or {P Q : Bool → Prop} (h1 : EvT K tt ρ P) (h2 : P false → EvT K tu ρ Q) : EvT K (tOr tt tu) ρ fun b => (P false ∧ Q b) ∨ (P true ∧ b = true) := fun dk S0 H0 S H σ R I k =>
  h1 dk S0 H0 S H σ _ I fun b H1 p I1 s1 => by
    cases b with
    | true => exact iteT (k true H1 (.inr ⟨p, rfl⟩) I1 s1)
    | false => exact iteF (h2 p dk S0 H0 S H1 σ R I1 fun c H2 q I2 s2 => k c H2 (.inl ⟨p, q⟩) I2 (s1.trans s2))
theorem et_and1 {a b : Bool} (h1 : EvT K tt ρ (· = a)) (h2 : a = true → EvT K tu ρ (· = b)) : EvT K (tAnd tt tu) ρ (· = (a && b)) := (et_and h1 fun e => h2 e.symm).imp fun c q => by
  rcases q with ⟨e, q⟩ | ⟨e, q⟩ <;> (subst e; subst q; rfl)
theorem et_or1 {a b : Bool} (h1 : EvT K tt ρ (· = a)) (h2 : a = false → EvT K tu ρ (· = b)) : EvT K (tOr tt tu) ρ (· = (a || b)) := (et_or h1 fun e => h2 e.symm).imp fun c q => by
  rcases q with ⟨e, q⟩ | ⟨e, q⟩ <;> (subst e; subst q; rfl)
/-- an int's truth -/
theorem et_truI {i : Int} (h : EvE K te ρ (· = .int i)) : EvT K (fun σ H Q => te σ H fun x H1 => ∃ k, TruV K x H1 k ∧ Q k H1) ρ (· = (i != 0)) := fun dk S0 H0 S H σ Q I k =>
  h dk S0 H0 S H σ _ I fun d v H1 e I1 s1 d1 => by subst e; rw [dp_toInt d1]; exact ⟨_, rfl, k _ H1 rfl I1 s1⟩
/-- and, or, not as values of bools -/
theorem ev_andV {a b : Bool} (h1 : EvE K ta ρ (· = .bool a)) (h2 : a = true → EvE K tb ρ (· = .bool b)) : EvE K (tAndV ta tb) ρ (· = .bool (a && b)) := fun dk S0 H0 S H σ Q I k =>
  h1 dk S0 H0 S H σ _ I fun d v H1 e I1 s1 d1 => by
    subst e
    refine ⟨a, dp_toBl d1, ?_⟩
    cases a with
    | true => exact iteT (h2 rfl dk S0 H0 S H1 σ Q I1 fun d v H2 q I2 s2 d2 => k d v H2 q I2 (s1.trans s2) d2)
    | false => exact iteF (k _ _ H1 rfl I1 s1 (.bl false))
theorem ev_orV {a b : Bool} (h1 : EvE K ta ρ (· = .bool a)) (h2 : a = false → EvE K tb ρ (· = .bool b)) : EvE K (tOrV ta tb) ρ (· = .bool (a || b)) := fun dk S0 H0 S H σ Q I k =>
  h1 dk S0 H0 S H σ _ I fun d v H1 e I1 s1 d1 => by
    subst e
    refine ⟨a, dp_toBl d1, ?_⟩
    cases a with
    | true => exact iteT (k _ _ H1 rfl I1 s1 (.bl true))
    | false => exact iteF (h2 rfl dk S0 H0 S H1 σ Q I1 fun d v H2 q I2 s2 d2 => k d v H2 q I2 (s1.trans s2) d2)
theorem ev_notV {a : Bool} (h1 : EvE K ta ρ (· = .bool a)) : EvE K (tNotV ta) ρ (· = .bool (!a)) := fun dk S0 H0 S H σ Q I k =>
  h1 dk S0 H0 S H σ _ I fun d v H1 e I1 s1 d1 => by subst e; exact ⟨a, dp_toBl d1, k _ _ H1 rfl I1 s1 (.bl _)⟩
theorem ev_if {P : PD → Prop} {C : Bool → Prop} (h : EvT K tt ρ C) (h1 : C true → EvE K ta ρ P) (h2 : C false → EvE K tb ρ P) : EvE K (tIf tt ta tb) ρ P := fun dk S0 H0 S H σ Q I k =>
  h dk S0 H0 S H σ _ I fun b H1 p I1 s1 => by
    cases b with
    | true => exact iteT (h1 p dk S0 H0 S H1 σ Q I1 fun d v H2 q I2 s2 d2 => k d v H2 q I2 (s1.trans s2) d2)
    | false => exact iteF (h2 p dk S0 H0 S H1 σ Q I1 fun d v H2 q I2 s2 d2 => k d v H2 q I2 (s1.trans s2) d2)
end
end Pk

/-! Statements, loops, comprehensions, calls over data. -/
namespace Pk
open PySem PySem.Spec PyProof.Rows L2

theorem getset {α : Type} {l : List α} {i j : Nat} {x : α} : (l.set i x)[j]? = if i = j then (if i < l.length then some x else none) else l[j]? := by
  rw [List.getElem?_set]
/-! ### slots -/
section
variable {K : PySem.W.Frag} {dk : Option Addr} {S0 : List Addr} {H0 : Hp} {S S' : List Addr} {H H' : Hp} {σ σ' : L2.St} {ρ : Rho}
/-- a data value is stored -/
theorem EnvD.put (I : EnvD K dk S0 H0 S H σ ρ) (i : Nat) {v : V} {d : PD} (hd : Dp K (Hid S H) v d) : EnvD K dk S0 H0 S H (σ.set i (some v)) (ρ.set i (some (.dat d))) := by
  have hl : i < σ.length ↔ i < ρ.length := by rw [I.len]
  refine ⟨I.keep, I.own0, I.kept0, I.sub, I.new, I.own, I.deck, by rw [List.length_set, List.length_set, I.len], fun j e h => ?_, fun j e h => ?_, fun j h => ?_, fun j j2 e e2 p h h2 q q2 => ?_, fun j R h => ?_⟩
  · rw [getset] at h ⊢
    by_cases hj : i = j
    · rw [if_pos hj] at h ⊢
      split at h
      · rw [if_pos (hl.mpr ‹_›)]
        cases h
        exact ⟨v, rfl, hd⟩
      · cases h
    · rw [if_neg hj] at h ⊢
      exact I.dat j e h
  · rw [getset] at h ⊢
    by_cases hj : i = j
    · rw [if_pos hj] at h
      split at h <;> cases h
    · rw [if_neg hj] at h ⊢
      exact I.lst j e h
  · rw [getset] at h ⊢
    by_cases hj : i = j
    · rw [if_pos hj] at h
      split at h <;> cases h
    · rw [if_neg hj] at h ⊢
      exact I.dck j h
  · rw [getset] at h h2 q q2
    by_cases hj : i = j
    · rw [if_pos hj] at h
      split at h <;> cases h
    · by_cases hj2 : i = j2
      · rw [if_pos hj2] at h2
        split at h2 <;> cases h2
      · rw [if_neg hj] at h q
        rw [if_neg hj2] at h2 q2
        exact I.sep j j2 e e2 p h h2 q q2
  · rw [getset] at h ⊢
    by_cases hj : i = j
    · rw [if_pos hj] at h
      split at h <;> cases h
    · rw [if_neg hj] at h ⊢
      exact I.mon j R h
/-- a slot that holds a new list: p is hidden, and no slot's -/
theorem EnvD.putOwn (I : EnvD K dk S0 H0 S H σ ρ) (i : Nat) {p : Addr} {vs : List V} {ds : List PD} (hp : p ∈ S) (hp0 : H0 p = none) (hl : H p = some (.lst vs)) (hd : DpAll K (Hid S H) vs ds)
    (hσ : ∀ (j : Nat) (es : List PD), ρ[j]? = some (some (Ent.own es)) → σ[j]? ≠ some (some (V.ref p))) : EnvD K dk S0 H0 S H (σ.set i (some (.ref p))) (ρ.set i (some (.own ds))) := by
  have hl2 : i < σ.length ↔ i < ρ.length := by rw [I.len]
  refine ⟨I.keep, I.own0, I.kept0, I.sub, I.new, I.own, I.deck, by rw [List.length_set, List.length_set, I.len], fun j e h => ?_, fun j e h => ?_, fun j h => ?_, fun j j2 e e2 q h h2 z z2 => ?_, fun j R h => ?_⟩
  · rw [getset] at h ⊢
    by_cases hj : i = j
    · rw [if_pos hj] at h
      split at h <;> cases h
    · rw [if_neg hj] at h ⊢
      exact I.dat j e h
  · rw [getset] at h ⊢
    by_cases hj : i = j
    · rw [if_pos hj] at h ⊢
      split at h
      · rw [if_pos (hl2.mpr ‹_›)]
        cases h
        exact ⟨p, vs, rfl, hp, hp0, hl, hd⟩
      · cases h
    · rw [if_neg hj] at h ⊢
      exact I.lst j e h
  · rw [getset] at h ⊢
    by_cases hj : i = j
    · rw [if_pos hj] at h
      split at h <;> cases h
    · rw [if_neg hj] at h ⊢
      exact I.dck j h
  · rw [getset] at h h2 z z2
    by_cases hj : i = j
    · by_cases hj2 : i = j2
      · omega
      · rw [if_pos hj] at z
        rw [if_neg hj2] at h2 z2
        split at z
        · cases z
          exact absurd z2 (hσ j2 e2 h2)
        · cases z
    · by_cases hj2 : i = j2
      · rw [if_neg hj] at h z
        rw [if_pos hj2] at z2
        split at z2
        · cases z2
          exact absurd z (hσ j e h)
        · cases z2
      · rw [if_neg hj] at h z
        rw [if_neg hj2] at h2 z2
        exact I.sep j j2 e e2 q h h2 z z2
  · rw [getset] at h ⊢
    by_cases hj : i = j
    · rw [if_pos hj] at h
      split at h <;> cases h
    · rw [if_neg hj] at h ⊢
      exact I.mon j R h
/-- an owned list is written -/
theorem EnvD.write (I : EnvD K dk S0 H0 S H σ ρ) (i : Nat) {p : Addr} {ds es : List PD} {us : List V} (hr : ρ[i]? = some (some (.own ds))) (hs : σ[i]? = some (some (V.ref p))) (hp : p ∈ S) (hp0 : H0 p = none)
    (hd : DpAll K (Hid S H) us es) : EnvD K dk S0 H0 S (upd H p (.lst us)) σ (ρ.set i (some (.own es))) ∧ Step S H S (upd H p (.lst us)) := by
  have e : ∀ a o, a ∉ S → H a = some o → upd H p (.lst us) a = some o := fun a o n h => by
    rw [upd_ne (fun z => n (by rw [z]; exact hp))]; exact h
  have st : Same (Hid S H) (Hid S (upd H p (.lst us))) := fun a o h => by
    obtain ⟨h1, h2⟩ := hid_some h
    rw [hid_out h1]; exact e a o h1 h2
  have hil : i < ρ.length := (List.getElem?_eq_some_iff.mp hr).1
  refine ⟨⟨fun a o h n => ?_, I.own0, fun a h n => ?_, I.sub, I.new, fun a h => ?_, fun a h => ?_, by rw [List.length_set, I.len], fun j d h => ?_, fun j d h => ?_, fun j h => ?_, fun j j2 d d2 q h h2 z z2 => ?_, fun j R h => ?_⟩, ⟨fun _ h => h, fun _ h => .inl h, e⟩⟩
  · rw [upd_ne (fun z => by rw [z, hp0] at h; cases h)]
    exact I.keep a o h n
  · rw [upd_ne (fun z => by rw [z] at h; exact I.own0 p h hp0)]
    exact I.kept0 a h n
  · by_cases ha : a = p
    · rw [ha, upd_same]; exact fun z => nomatch z
    · rw [upd_ne ha]; exact I.own a h
  · obtain ⟨h1, h2⟩ := I.deck a h
    refine ⟨h1, ?_⟩
    obtain ⟨d0, d1, sd, l, d4, ns, z, z2, z3⟩ := h2.ex
    exact ⟨d0, d1, sd, l, d4, ns, by rw [upd_ne (fun q => by rw [q] at h1; exact I.own0 p h1 hp0)]; exact z, st.seq z2, z3⟩
  · rw [getset] at h
    by_cases hj : i = j
    · rw [if_pos hj, if_pos hil] at h; cases h
    · rw [if_neg hj] at h
      obtain ⟨v, h1, h2⟩ := I.dat j d h
      exact ⟨v, h1, dp_up st h2⟩
  · rw [getset] at h
    by_cases hj : i = j
    · rw [if_pos hj, if_pos hil] at h
      cases h
      subst hj
      exact ⟨p, us, hs, hp, hp0, upd_same, dpa_up st hd⟩
    · rw [if_neg hj] at h
      obtain ⟨q, vs, h1, h2, h3, h4, h5⟩ := I.lst j d h
      have hq : q ≠ p := fun z => by
        subst z
        exact hj (I.sep i j ds d q hr h hs h1)
      exact ⟨q, vs, h1, h2, h3, by rw [upd_ne hq]; exact h4, dpa_up st h5⟩
  · rw [getset] at h
    by_cases hj : i = j
    · rw [if_pos hj, if_pos hil] at h; cases h
    · rw [if_neg hj] at h
      exact I.dck j h
  · rw [getset] at h h2
    have o1 : ∃ d, ρ[j]? = some (some (Ent.own d)) := by
      by_cases hj : i = j
      · subst hj; exact ⟨ds, hr⟩
      · rw [if_neg hj] at h; exact ⟨d, h⟩
    have o2 : ∃ d, ρ[j2]? = some (some (Ent.own d)) := by
      by_cases hj : i = j2
      · subst hj; exact ⟨ds, hr⟩
      · rw [if_neg hj] at h2; exact ⟨d2, h2⟩
    obtain ⟨a, o1⟩ := o1
    obtain ⟨b, o2⟩ := o2
    exact I.sep j j2 a b q o1 o2 z z2
  · rw [getset] at h
    by_cases hj : i = j
    · rw [if_pos hj, if_pos hil] at h; cases h
    · rw [if_neg hj] at h
      obtain ⟨m, v, h1, h2⟩ := I.mon j R h
      exact ⟨m, v, h1, m _ _ _ st h2⟩
/-- slots are forgotten -/
def wipeR (ρ : Rho) : List Nat → Rho
  | [] => ρ
  | v :: vs => (wipeR ρ vs).set v none
theorem EnvD.drop1 (I : EnvD K dk S0 H0 S H σ ρ) (i : Nat) : EnvD K dk S0 H0 S H (σ.set i none) (ρ.set i none) := by
  have no : ∀ {j : Nat} {x : Ent}, (ρ.set i none)[j]? = some (some x) → i ≠ j ∧ ρ[j]? = some (some x) := by
    intro j x h
    rw [getset] at h
    by_cases hj : i = j
    · rw [if_pos hj] at h
      split at h <;> cases h
    · rw [if_neg hj] at h
      exact ⟨hj, h⟩
  have get : ∀ {j : Nat}, i ≠ j → (σ.set i none)[j]? = σ[j]? := fun {j} h => by rw [getset, if_neg h]
  refine ⟨I.keep, I.own0, I.kept0, I.sub, I.new, I.own, I.deck, by rw [List.length_set, List.length_set, I.len], fun j d h => ?_, fun j d h => ?_, fun j h => ?_, fun j j2 d d2 q h h2 z z2 => ?_, fun j R h => ?_⟩
  · obtain ⟨h1, h2⟩ := no h
    rw [get h1]; exact I.dat j d h2
  · obtain ⟨h1, h2⟩ := no h
    rw [get h1]; exact I.lst j d h2
  · obtain ⟨h1, h2⟩ := no h
    rw [get h1]; exact I.dck j h2
  · obtain ⟨a1, a2⟩ := no h
    obtain ⟨b1, b2⟩ := no h2
    rw [get a1] at z
    rw [get b1] at z2
    exact I.sep j j2 d d2 q a2 b2 z z2
  · obtain ⟨h1, h2⟩ := no h
    rw [get h1]; exact I.mon j R h2
theorem EnvD.wipes (I : EnvD K dk S0 H0 S H σ ρ) : ∀ vs : List Nat, EnvD K dk S0 H0 S H (wipe σ vs) (wipeR ρ vs)
  | [] => I
  | v :: vs => (I.wipes vs).drop1 v
end
theorem wipe_set {σ : L2.St} {i : Nat} {x : Option V} : ∀ {vs : List Nat}, i ∈ vs → wipe (σ.set i x) vs = wipe σ vs
  | v :: vs, h => by
    show (wipe (σ.set i x) vs).set v none = (wipe σ vs).set v none
    by_cases hm : i ∈ vs
    · rw [wipe_set hm]
    · have e : i = v := by
        rcases List.mem_cons.mp h with z | z
        · exact z
        · exact absurd z hm
      subst e
      have : ∀ us : List Nat, i ∉ us → wipe (σ.set i x) us = (wipe σ us).set i x := by
        intro us
        induction us with
        | nil => intro _; rfl
        | cons u us ih =>
          intro hn
          show (wipe (σ.set i x) us).set u none = ((wipe σ us).set u none).set i x
          rw [ih (fun z => hn (List.mem_cons_of_mem _ z)), List.set_comm]
          exact fun z => hn (by rw [z]; exact List.mem_cons_self)
      rw [this vs hm, List.set_set]
theorem wipe_wipe (σ : L2.St) (vs : List Nat) : wipe (wipe σ vs) vs = wipe σ vs := by
  have : ∀ us : List Nat, (∀ u ∈ us, u ∈ vs) → wipe (wipe σ us) vs = wipe σ vs := by
    intro us
    induction us with
    | nil => intro _; rfl
    | cons u us ih =>
      intro h
      show wipe ((wipe σ us).set u none) vs = wipe σ vs
      rw [wipe_set (h u List.mem_cons_self)]
      exact ih fun z hz => h z (List.mem_cons_of_mem _ hz)
  exact this vs fun _ h => h

/-! ### the outcome of statements -/
structure Outs where
  nx : Rho → Prop := fun _ => False
  rt : PD → Prop := fun _ => False
  rl : List PD → Prop := fun _ => False
  bk : Rho → Prop := fun _ => False
  ct : Rho → Prop := fun _ => False
structure Fin (K : PySem.W.Frag) (dk : Option Addr) (S0 : List Addr) (H0 H : Hp) : Prop where
  keep : ∀ a o, H0 a = some o → a ∉ S0 → H a = some o
  kept : ∀ a ∈ S0, dk ≠ some a → H a = H0 a
  deck : ∀ a, dk = some a → DeckAt K S0 H a
theorem EnvD.fin {K : PySem.W.Frag} {dk : Option Addr} {S0 : List Addr} {H0 : Hp} {S : List Addr} {H : Hp} {σ : L2.St} {ρ : Rho} (I : EnvD K dk S0 H0 S H σ ρ) : Fin K dk S0 H0 H ∧ Same (Hid S H) (Hid S0 H) := by
  have st : Same (Hid S H) (Hid S0 H) := fun a o h => by
    obtain ⟨h1, h2⟩ := hid_some h
    rw [hid_out (fun z => h1 (I.sub a z))]; exact h2
  refine ⟨⟨I.keep, I.kept0, fun a h => ?_⟩, st⟩
  obtain ⟨d0, d1, sd, l, d4, ns, z, z2, z3⟩ := (I.deck a h).2.ex
  exact ⟨d0, d1, sd, l, d4, ns, z, st.seq z2, z3⟩
structure Cont (K : PySem.W.Frag) (dk : Option Addr) (S0 : List Addr) (H0 : Hp) (S : List Addr) (H : Hp) (O : Outs) (D : Ends) : Prop where
  nx : ∀ ρ' S' H' σ', O.nx ρ' → EnvD K dk S0 H0 S' H' σ' ρ' → Step S H S' H' → D.nx σ' H'
  bk : ∀ ρ' S' H' σ', O.bk ρ' → EnvD K dk S0 H0 S' H' σ' ρ' → Step S H S' H' → D.bk σ' H'
  ct : ∀ ρ' S' H' σ', O.ct ρ' → EnvD K dk S0 H0 S' H' σ' ρ' → Step S H S' H' → D.ct σ' H'
  rt : ∀ d v H', O.rt d → Fin K dk S0 H0 H' → Dp K (Hid S0 H') v d → D.rt v H'
  rl : ∀ ds p vs H', O.rl ds → Fin K dk S0 H0 H' → H0 p = none → H' p = some (.lst vs) → DpAll K (Hid (p :: S0) H') vs ds → D.rt (.ref p) H'
def RunS (K : PySem.W.Frag) (ts : TS) (ρ : Rho) (O : Outs) : Prop :=
  ∀ (dk : Option Addr) (S0 : List Addr) (H0 : Hp) (S : List Addr) (H : Hp) (σ : L2.St) (D : Ends), EnvD K dk S0 H0 S H σ ρ → Cont K dk S0 H0 S H O D → ts D σ H

section
variable {K : PySem.W.Frag} {dk : Option Addr} {S0 : List Addr} {H0 : Hp} {S S1 : List Addr} {H H1 : Hp} {O : Outs} {D : Ends}
theorem Cont.step (C : Cont K dk S0 H0 S H O D) (s : Step S H S1 H1) : Cont K dk S0 H0 S1 H1 O D :=
  ⟨fun ρ S' H' σ' o I t => C.nx ρ S' H' σ' o I (s.trans t), fun ρ S' H' σ' o I t => C.bk ρ S' H' σ' o I (s.trans t), fun ρ S' H' σ' o I t => C.ct ρ S' H' σ' o I (s.trans t), C.rt, C.rl⟩
end
section
variable {K : PySem.W.Frag} {ρ : Rho} {O O' : Outs} {t u : TS} {te ta tb : TE} {tt : TT} {tr : TA} {P : PD → Prop}
theorem RunS.imp (h : RunS K t ρ O) (f1 : ∀ r, O.nx r → O'.nx r) (f2 : ∀ r, O.rt r → O'.rt r) (f3 : ∀ r, O.rl r → O'.rl r) (f4 : ∀ r, O.bk r → O'.bk r) (f5 : ∀ r, O.ct r → O'.ct r) : RunS K t ρ O' :=
  fun dk S0 H0 S H σ D I C => h dk S0 H0 S H σ D I ⟨fun r S' H' σ' o => C.nx r S' H' σ' (f1 r o), fun r S' H' σ' o => C.bk r S' H' σ' (f4 r o), fun r S' H' σ' o => C.ct r S' H' σ' (f5 r o), fun d v H' o => C.rt d v H' (f2 d o), fun d p v H' o => C.rl d p v H' (f3 d o)⟩
theorem rs_seq (M : Rho → Prop) (h1 : RunS K t ρ { O with nx := M }) (h2 : ∀ ρ', M ρ' → RunS K u ρ' O) : RunS K (tSeq t u) ρ O := fun dk S0 H0 S H σ D I C =>
  h1 dk S0 H0 S H σ { D with nx := u D } I ⟨fun ρ' S' H' σ' o J st => h2 ρ' o dk S0 H0 S' H' σ' D J (C.step st), C.bk, C.ct, C.rt, C.rl⟩
theorem rs_next (h : O.nx ρ) : RunS K tNext ρ O := fun dk S0 H0 S H σ D I C => C.nx ρ S H σ h I (.refl _ _)
theorem rs_asg {i : Nat} (h : EvE K te ρ P) (k : ∀ d, P d → O.nx (ρ.set i (some (.dat d)))) : RunS K (tAsg te (gName i)) ρ O := fun dk S0 H0 S H σ D I C =>
  h dk S0 H0 S H σ _ I fun d v H1 p I1 s1 d1 => C.nx _ S H1 _ (k d p) (I1.put i d1) (I.step s1)
/-- name = value, then the rest -/
theorem rs_set {i : Nat} (h : EvE K te ρ P) (k : ∀ d, P d → RunS K u (ρ.set i (some (.dat d))) O) : RunS K (tSeq (tAsg te (gName i)) u) ρ O :=
  rs_seq (fun ρ' => ∃ d, P d ∧ ρ' = ρ.set i (some (.dat d))) (rs_asg h fun d p => ⟨d, p, rfl⟩) fun ρ' ⟨d, p, e⟩ => by rw [e]; exact k d p
theorem rs_set1 {i : Nat} {d : PD} (h : EvE K te ρ (· = d)) (k : RunS K u (ρ.set i (some (.dat d))) O) : RunS K (tSeq (tAsg te (gName i)) u) ρ O := rs_set h fun d' e => by rw [e]; exact k
theorem rs_asgL {i : Nat} {P : List PD → Prop} (h : EvL K te ρ P) (k : ∀ ds, P ds → O.nx (ρ.set i (some (.own ds)))) : RunS K (tAsg te (gName i)) ρ O := fun dk S0 H0 S H σ D I C =>
  h dk S0 H0 S H σ _ I fun ds p vs H1 pd I1 s1 hp hl hd => by
    have hpS : p ∉ S := fun z => I.own p z hp
    refine C.nx _ (p :: S) H1 _ (k ds pd) (I1.putOwn i List.mem_cons_self (I.free0 hp) hl hd fun j es h z => ?_) ⟨fun a h => List.mem_cons_of_mem _ h, fun a h => ?_, fun a o n h => s1 a o (I.dkS n) h⟩
    · obtain ⟨q, us, h1, h2, _⟩ := I.lst j es h
      rw [h1] at z
      cases z
      exact hpS h2
    · rcases List.mem_cons.mp h with rfl | h
      · exact .inr hp
      · exact .inl h
end
end Pk

/-! Loops, comprehensions, calls over data. -/
namespace Pk
open PySem PySem.Spec PyProof.Rows L2

section
variable {K : PySem.W.Frag} {ρ : Rho} {O O' : Outs} {t u : TS} {te ta tb : TE} {tt : TT} {tr : TA} {P : PD → Prop}
theorem rs_setL {i : Nat} {P : List PD → Prop} (h : EvL K te ρ P) (k : ∀ ds, P ds → RunS K u (ρ.set i (some (.own ds))) O) : RunS K (tSeq (tAsg te (gName i)) u) ρ O :=
  rs_seq (fun ρ' => ∃ ds, P ds ∧ ρ' = ρ.set i (some (.own ds))) (rs_asgL h fun d p => ⟨d, p, rfl⟩) fun ρ' ⟨d, p, e⟩ => by rw [e]; exact k d p
theorem rs_setL1 {i : Nat} {ds : List PD} (h : EvL K te ρ (· = ds)) (k : RunS K u (ρ.set i (some (.own ds))) O) : RunS K (tSeq (tAsg te (gName i)) u) ρ O := rs_setL h fun d' e => by rw [e]; exact k
/-- a, b = e1, e2 -/
theorem rs_par {i j : Nat} {PA : List PD → Prop} (h : EvA K tr ρ PA) (k : ∀ ds, PA ds → ∃ a b, ds = [a, b] ∧ RunS K u ((ρ.set i (some (.dat a))).set j (some (.dat b))) O) : RunS K (tSeq (tPar i j tr) u) ρ O := fun dk S0 H0 S H σ D I C =>
  h dk S0 H0 S H σ _ I fun ds vs H1 p I1 s1 hd => by
    obtain ⟨a, b, rfl, hk⟩ := k ds p
    cases hd with
    | cons h1 hd => cases hd with
      | cons h2 hd => cases hd; exact ⟨_, _, rfl, hk dk S0 H0 S H1 _ D ((I1.put i h1).put j h2) (C.step (I.step s1))⟩
theorem rs_par1 {i j : Nat} {a b : PD} (h : EvA K tr ρ (· = [a, b])) (k : RunS K u ((ρ.set i (some (.dat a))).set j (some (.dat b))) O) : RunS K (tSeq (tPar i j tr) u) ρ O := rs_par h fun ds e => ⟨a, b, e, k⟩
theorem rs_ret (h : EvE K te ρ P) (k : ∀ d, P d → O.rt d) : RunS K (tRet te) ρ O := fun dk S0 H0 S H σ D I C =>
  h dk S0 H0 S H σ _ I fun d v H1 p I1 s1 d1 => by
    obtain ⟨f, st⟩ := I1.fin
    exact C.rt d v H1 (k d p) f (dp_up st d1)
theorem rs_retL {P : List PD → Prop} (h : EvL K te ρ P) (k : ∀ d, P d → O.rl d) : RunS K (tRet te) ρ O := fun dk S0 H0 S H σ D I C =>
  h dk S0 H0 S H σ _ I fun ds p vs H1 pd I1 s1 hp hl hd => by
    obtain ⟨f, st⟩ := I1.fin
    refine C.rl ds p vs H1 (k ds pd) f (I.free0 hp) hl (dpa_up (fun a o q => ?_) hd)
    obtain ⟨h1, h2⟩ := hid_some q
    rw [hid_out]
    · exact h2
    · intro z
      rcases List.mem_cons.mp z with z | z
      · exact h1 (by rw [z]; exact List.mem_cons_self)
      · exact h1 (I1.sub a z)
/-- return of a list of one's own -/
theorem rs_retO {i : Nat} {ds : List PD} (h : ρ[i]? = some (some (.own ds))) (k : O.rl ds) : RunS K (tRet (tVar i)) ρ O := fun dk S0 H0 S H σ D I C => by
  obtain ⟨p, vs, h1, h2, h3, h4, h5⟩ := I.lst i ds h
  obtain ⟨f, st⟩ := I.fin
  refine ⟨_, h1, C.rl ds p vs H k f h3 h4 (dpa_up (fun a o q => ?_) h5)⟩
  obtain ⟨w1, w2⟩ := hid_some q
  rw [hid_out]
  · exact w2
  · intro z
    rcases List.mem_cons.mp z with z | z
    · exact w1 (by rw [z]; exact h2)
    · exact w1 (I.sub a z)
theorem rs_if {C : Bool → Prop} (h : EvT K tt ρ C) (h1 : C true → RunS K t ρ O) (h2 : C false → RunS K u ρ O) : RunS K (tIfS tt t u) ρ O := fun dk S0 H0 S H σ D I c =>
  h dk S0 H0 S H σ _ I fun b H1 p I1 s1 => by
    cases b with
    | true => exact iteT (h1 p dk S0 H0 S H1 σ D I1 (c.step (I.step s1)))
    | false => exact iteF (h2 p dk S0 H0 S H1 σ D I1 (c.step (I.step s1)))
theorem rs_drop (h : EvE K te ρ P) (k : O.nx ρ) : RunS K (tDrop te) ρ O := fun dk S0 H0 S H σ D I C =>
  h dk S0 H0 S H σ _ I fun d v H1 p I1 s1 d1 => C.nx ρ S H1 σ k I1 (I.step s1)
theorem rs_brk (k : O.bk ρ) : RunS K tBreak ρ O := fun dk S0 H0 S H σ D I C => C.bk ρ S H σ k I (.refl _ _)
theorem rs_cont (k : O.ct ρ) : RunS K tCont ρ O := fun dk S0 H0 S H σ D I C => C.ct ρ S H σ k I (.refl _ _)
/-- name += e, ints -/
theorem rs_augI {i : Nat} {f : Int → Int → Int} {a b : Int} (hx : ρ[i]? = some (some (.dat (.int a)))) (h : EvE K te ρ (· = .int b)) (k : O.nx (ρ.set i (some (.dat (.int (f a b)))))) : RunS K (tAug i te (ipI f)) ρ O := fun dk S0 H0 S H σ D I C => by
  obtain ⟨v, h1, h2⟩ := I.dat i _ hx
  refine ⟨v, h1, h dk S0 H0 S H σ _ I fun d w H1 p I1 s1 d1 => ?_⟩
  subst p
  exact ⟨a, b, dp_toInt h2, dp_toInt d1, C.nx _ S H1 _ k (I1.put i (.int _)) (I.step s1)⟩

/-! ### lists of one's own -/
theorem ev_ownIx {i : Nat} {ds : List PD} {n : Int} {d : PD} (h : ρ[i]? = some (some (.own ds))) (hi : EvE K ta ρ (· = .int n)) (hd : atI ds n = some d) : EvE K (tOp (rIxL K) (tVar i) ta) ρ (· = d) := fun dk S0 H0 S H σ Q I k => by
  obtain ⟨p, vs, h1, h2, h3, h4, h5⟩ := I.lst i ds h
  refine ⟨_, h1, hi dk S0 H0 S H σ _ I fun e w H1 q I1 s1 d1 => ?_⟩
  subst q
  obtain ⟨p', vs', g1, g2, g3, g4, g5⟩ := I1.lst i ds h
  rw [h1] at g1
  cases g1
  obtain ⟨j, e1, e2, _, _, _⟩ := atI_get hd
  obtain ⟨z, f1, f2⟩ := dpa_get g5 e2
  refine ⟨p, vs', n, z, rfl, dp_toInt d1, SqL.of g4, ?_, k d z H1 rfl I1 s1 f2⟩
  unfold atI at hd ⊢
  rw [dpa_len g5]
  obtain ⟨j', e3, e4⟩ := Option.bind_eq_some_iff.mp hd
  rw [e3]
  have e5 : ds[j']? = some d := e4
  have : j' = j := by
    have := (ixN_seq e3).1
    rw [e1] at this
    exact (Option.some.inj this).symm
  rw [this]
  exact f1
theorem ev_ownLen {i : Nat} {ds : List PD} (h : ρ[i]? = some (some (.own ds))) :
    EvE K (tCB (fun xs H Q => ∃ p ys, xs = [.ref p] ∧ (SqL K H p ys ∨ SqT K H p ys) ∧ Q (.int ys.length) H) (tCons (tVar i) tNil)) ρ (· = .int ds.length) := fun dk S0 H0 S H σ Q I k => by
  obtain ⟨p, vs, h1, h2, h3, h4, h5⟩ := I.lst i ds h
  exact ⟨_, h1, p, vs, rfl, .inl (SqL.of h4), by rw [dpa_len h5]; exact k _ _ H rfl I (.refl _ _) (.int _)⟩
theorem small_line {n : Nat} (h : n < 100000) : n < sizeLine := Nat.lt_of_lt_of_le h (by decide)
/-- xs.append(e) -/
theorem rs_app {i : Nat} {ds : List PD} (h : ρ[i]? = some (some (.own ds))) (hl : ds.length < 100000) (he : EvE K ta ρ P) (k : ∀ d, P d → O.nx (ρ.set i (some (.own (ds ++ [d]))))) :
    RunS K (tDrop (tBM K "list" rAppend (tVar i) (tCons ta tNil))) ρ O := fun dk S0 H0 S H σ D I C => by
  obtain ⟨p, vs, h1, h2, h3, h4, h5⟩ := I.lst i ds h
  refine ⟨_, h1, .inl ⟨rfl, _, SqL.of h4⟩, he dk S0 H0 S H σ _ I fun d w H1 q I1 s1 d1 => ?_⟩
  obtain ⟨p', vs', g1, g2, g3, g4, g5⟩ := I1.lst i ds h
  rw [h1] at g1
  cases g1
  obtain ⟨J, st⟩ := I1.write i h h1 g2 g3 (dpa_app g5 (.cons d1 .nil))
  exact ⟨p, vs', w, rfl, rfl, g4, small_line (by rw [dpa_len g5]; exact hl), C.nx _ S _ σ (k d q) J ((I.step s1).trans st)⟩
/-- xs[n] = e -/
theorem rs_setIx {i : Nat} {ds : List PD} {n : Int} {j : Nat} (h : ρ[i]? = some (some (.own ds))) (he : EvE K te ρ P) (hi : EvE K ta ρ (· = .int n)) (hj : ixN ds.length n = some j) (k : ∀ d, P d → O.nx (ρ.set i (some (.own (ds.set j d))))) :
    RunS K (tAsg te (gSub (tVar i) ta rSetL)) ρ O := fun dk S0 H0 S H σ D I C =>
  he dk S0 H0 S H σ _ I fun d w H1 q I1 s1 d1 => by
    obtain ⟨p, vs, h1, h2, h3, h4, h5⟩ := I1.lst i ds h
    refine ⟨_, h1, hi dk S0 H0 S H1 σ _ I1 fun e z H2 q2 I2 s2 d2 => ?_⟩
    subst q2
    obtain ⟨p', vs', g1, g2, g3, g4, g5⟩ := I2.lst i ds h
    rw [h1] at g1
    cases g1
    obtain ⟨J, st⟩ := I2.write i h h1 g2 g3 (dpa_set (dp_up (I1.hid s2) d1) j g5)
    exact ⟨p, vs', n, j, rfl, dp_toInt d2, g4, by rw [dpa_len g5]; exact hj, C.nx _ S _ σ (k d q) J (((I.step s1).trans (I1.step s2)).trans st)⟩

/-! ### what is walked -/
structure IterOk (K : PySem.W.Frag) (S : List Addr) (H : Hp) (J : It) (xs : List PD) : Prop where
  stop : ∀ S' H' i, Step S H S' H' → xs.length ≤ i → J.stop i H'
  go : ∀ S' H' i, Step S H S' H' → i < xs.length → J.go i H'
  yld : ∀ S' H' i x H'' d, Step S H S' H' → (∀ a ∈ S', H' a ≠ none) → J.yld i H' x H'' → xs[i]? = some d → Same H' H'' ∧ Dp K (Hid S' H'') x d
def EvI (K : PySem.W.Frag) (wi : TI) (ρ : Rho) (P : List PD → Prop) : Prop :=
  ∀ (dk : Option Addr) (S0 : List Addr) (H0 : Hp) (S : List Addr) (H : Hp) (σ : L2.St) (R : It → Hp → Prop), EnvD K dk S0 H0 S H σ ρ →
    (∀ xs J H', P xs → EnvD K dk S0 H0 S H' σ ρ → SameB dk H H' → IterOk K S H' J xs → R J H') → wi σ H R
theorem lst_at {K : PySem.W.Frag} {S S' : List Addr} {H H' : Hp} {a : Addr} {vs : List V} (h : SqL K (Hid S H) a vs) (st : Step S H S' H') : SqL K H' a vs := (hid_le S' H').seq (st.hid.seq h)
theorem tup_at {K : PySem.W.Frag} {S S' : List Addr} {H H' : Hp} {a : Addr} {vs : List V} (h : SqT K (Hid S H) a vs) (st : Step S H S' H') : SqT K H' a vs := seqT (hid_le S' H') (seqT st.hid h)
theorem get_some {α : Type} {l : List α} {i : Nat} (h : i < l.length) : ∃ x, l[i]? = some x := ⟨l[i], List.getElem?_eq_getElem h⟩
theorem ei_list {P : List PD → Prop} (h : EvE K te ρ fun d => ∃ xs, d = .list xs ∧ P xs) : EvI K (iList K te) ρ P := fun dk S0 H0 S H σ R I k =>
  h dk S0 H0 S H σ _ I fun d v H1 ⟨xs, e, p⟩ I1 s1 d1 => by
    subst e
    obtain ⟨a, vs, rfl, hs, hd⟩ := dp_toLst d1
    refine ⟨a, rfl, ⟨vs, (hid_le S H1).seq hs⟩, k xs _ H1 p I1 s1 ⟨fun S' H' i st hi => ⟨vs, lst_at hs st, by rw [dpa_len hd]; exact hi⟩, fun S' H' i st hi => ?_, fun S' H' i x H'' d st _ y e => ?_⟩⟩
    · obtain ⟨x, hx⟩ := get_some (l := vs) (by rw [dpa_len hd]; exact hi)
      exact ⟨vs, x, lst_at hs st, hx⟩
    · obtain ⟨rfl, y⟩ := y
      have hx := y vs (lst_at hs st)
      obtain ⟨w, f1, f2⟩ := dpa_get hd e
      rw [hx] at f1
      cases f1
      exact ⟨fun _ _ z => z, dp_up st.hid f2⟩
theorem ei_list1 {xs : List PD} (h : EvE K te ρ (· = .list xs)) : EvI K (iList K te) ρ (· = xs) := ei_list (h.imp fun d e => ⟨xs, e, rfl⟩)
theorem ei_tup {P : List PD → Prop} (h : EvE K te ρ fun d => ∃ xs, d = .tuple xs ∧ P xs) : EvI K (iTup K te) ρ P := fun dk S0 H0 S H σ R I k =>
  h dk S0 H0 S H σ _ I fun d v H1 ⟨xs, e, p⟩ I1 s1 d1 => by
    subst e
    obtain ⟨a, vs, rfl, hs, hd⟩ := dp_toTup d1
    refine ⟨a, rfl, ⟨vs, seqT (hid_le S H1) hs⟩, k xs _ H1 p I1 s1 ⟨fun S' H' i st hi => ⟨vs, tup_at hs st, by rw [dpa_len hd]; exact hi⟩, fun S' H' i st hi => ?_, fun S' H' i x H'' d st _ y e => ?_⟩⟩
    · obtain ⟨x, hx⟩ := get_some (l := vs) (by rw [dpa_len hd]; exact hi)
      exact ⟨vs, x, tup_at hs st, hx⟩
    · obtain ⟨rfl, y⟩ := y
      have hx := y vs (tup_at hs st)
      obtain ⟨w, f1, f2⟩ := dpa_get hd e
      rw [hx] at f1
      cases f1
      exact ⟨fun _ _ z => z, dp_up st.hid f2⟩
theorem ei_tup1 {xs : List PD} (h : EvE K te ρ (· = .tuple xs)) : EvI K (iTup K te) ρ (· = xs) := ei_tup (h.imp fun d e => ⟨xs, e, rfl⟩)
/-- lo, lo + c, .. -/
def rangeD (lo c : Int) (n : Nat) : List PD := (List.range n).map fun (i : Nat) => PyData.int (lo + (i : Int) * c)
theorem rangeD_len (lo c : Int) (n : Nat) : (rangeD lo c n).length = n := by rw [rangeD, List.length_map, List.length_range]
theorem rangeD_get {lo c : Int} {n i : Nat} {d : PD} (h : (rangeD lo c n)[i]? = some d) : i < n ∧ d = .int (lo + (i : Int) * c) := by
  unfold rangeD at h
  rw [List.getElem?_map] at h
  by_cases hi : i < n
  · rw [List.getElem?_range hi] at h
    exact ⟨hi, (Option.some.inj h).symm⟩
  · rw [List.getElem?_eq_none (by rw [List.length_range]; omega)] at h
    cases h
theorem it_range {S : List Addr} {H : Hp} (lo : Int) (n : Nat) : IterOk K S H (Itr lo n) (rangeD lo 1 n) where
  stop := fun S' H' i _ hi => by rw [rangeD_len] at hi; exact hi
  go := fun S' H' i _ hi => by rw [rangeD_len] at hi; exact hi
  yld := fun S' H' i x H'' d _ _ y e => by
    obtain ⟨rfl, rfl⟩ := y
    obtain ⟨_, rfl⟩ := rangeD_get e
    rw [Int.mul_one]
    exact ⟨fun _ _ z => z, .int _⟩
theorem it_rangeC {S : List Addr} {H : Hp} (lo c : Int) (n : Nat) : IterOk K S H (Itc lo c n) (rangeD lo c n) where
  stop := fun S' H' i _ hi => by rw [rangeD_len] at hi; exact hi
  go := fun S' H' i _ hi => by rw [rangeD_len] at hi; exact hi
  yld := fun S' H' i x H'' d _ _ y e => by
    obtain ⟨rfl, rfl⟩ := y
    obtain ⟨_, rfl⟩ := rangeD_get e
    exact ⟨fun _ _ z => z, .int _⟩
theorem ei_range1 {P : Int → Prop} (h : EvA K tr ρ fun ds => ∃ j : Int, ds = [.int j] ∧ P j) (hb : ∀ j, P j → -1000000 ≤ j ∧ j ≤ 1000000) : EvI K (iRng1 tr) ρ fun xs => ∃ j, P j ∧ xs = rangeD 0 1 j.toNat := fun dk S0 H0 S H σ R I k =>
  h dk S0 H0 S H σ _ I fun ds vs H1 ⟨j, e, p⟩ I1 s1 d1 => by
    subst e
    cases d1 with
    | cons a b =>
      cases b
      have := hb j p
      exact ⟨j, by rw [dp_toInt a], by omega, by omega, k _ _ H1 ⟨j, p, rfl⟩ I1 s1 (it_range 0 j.toNat)⟩
theorem ei_range {j : Int} (h : EvE K te ρ (· = .int j)) (h1 : -1000000 ≤ j := by omega) (h2 : j ≤ 1000000 := by omega) : EvI K (iRng1 (tCons te tNil)) ρ (· = rangeD 0 1 j.toNat) := fun dk S0 H0 S H σ R I k =>
  ei_range1 (P := (· = j)) ((ea_one h ea_nil).imp fun ds e => ⟨j, e, rfl⟩) (fun i e => by subst e; omega) dk S0 H0 S H σ R I fun xs J H' ⟨i, e, e2⟩ => k xs J H' (by rw [e2, e])
theorem ei_range2 {i j : Int} (h : EvE K ta ρ (· = .int i)) (h' : EvE K tb ρ (· = .int j)) (h1 : -1000000 ≤ i ∧ i ≤ 1000000) (h2 : -1000000 ≤ j ∧ j ≤ 1000000) : EvI K (iRng2 (tCons ta (tCons tb tNil))) ρ (· = rangeD i 1 (j - i).toNat) := fun dk S0 H0 S H σ R I k =>
  ea_one h (ea_one h' ea_nil) dk S0 H0 S H σ _ I fun ds vs H1 e I1 s1 d1 => by
    subst e
    cases d1 with
    | cons a b => cases b with
      | cons b c =>
        cases c
        exact ⟨i, j, by rw [dp_toInt a, dp_toInt b], by omega, k _ _ H1 rfl I1 s1 (it_range i (j - i).toNat)⟩
theorem ei_range3 {tc : TE} {i j c : Int} {n : Nat} (h : EvE K ta ρ (· = .int i)) (h' : EvE K tb ρ (· = .int j)) (h'' : EvE K tc ρ (· = .int c)) (hc : RgC i j c n) : EvI K (iRng3 (tCons ta (tCons tb (tCons tc tNil)))) ρ (· = rangeD i c n) := fun dk S0 H0 S H σ R I k =>
  ea_one h (ea_one h' (ea_one h'' ea_nil)) dk S0 H0 S H σ _ I fun ds vs H1 e I1 s1 d1 => by
    subst e
    cases d1 with
    | cons a b => cases b with
      | cons b d => cases d with
        | cons d e2 =>
          cases e2
          exact ⟨i, j, c, n, by rw [dp_toInt a, dp_toInt b, dp_toInt d], hc, k _ _ H1 rfl I1 s1 (it_rangeC i c n)⟩
theorem zip_get {xs ys : List PD} {i : Nat} {d : PD} (h : (List.zipWith (fun x y => PyData.tuple [x, y]) xs ys)[i]? = some d) : ∃ x y, xs[i]? = some x ∧ ys[i]? = some y ∧ d = .tuple [x, y] := by
  rw [List.getElem?_zipWith] at h
  cases hx : xs[i]? with
  | none => rw [hx] at h; cases h
  | some x =>
    cases hy : ys[i]? with
    | none => rw [hx, hy] at h; cases h
    | some y =>
      rw [hx, hy] at h
      exact ⟨x, y, rfl, rfl, (Option.some.inj h).symm⟩
theorem pair_new {S' : List Addr} {H' : Hp} {T : Addr} {x y : V} {a b : PD} (own : ∀ a ∈ S', H' a ≠ none) (hT : H' T = none) (h1 : Dp K (Hid S' H') x a) (h2 : Dp K (Hid S' H') y b) :
    Same H' (upd H' T (.tup [x, y])) ∧ Dp K (Hid S' (upd H' T (.tup [x, y]))) (.ref T) (.tuple [a, b]) := by
  have e := same_new (o := .tup [x, y]) hT
  refine ⟨e, .tup (.inl (.inl ?_)) (.cons (dp_up (hid_same e) h1) (.cons (dp_up (hid_same e) h2) .nil))⟩
  rw [hid_out (fresh_out own hT), upd_same]
def zipD (xs ys : List PD) : List PD := List.zipWith (fun x y => PyData.tuple [x, y]) xs ys
theorem zipD_len (xs ys : List PD) : (zipD xs ys).length = min xs.length ys.length := List.length_zipWith
/-- zip of two lists -/
theorem ei_zip {xs ys : List PD} (h : EvE K ta ρ (· = .list xs)) (h' : EvE K tb ρ (· = .list ys)) : EvI K (iZip K (tCons ta (tCons tb tNil))) ρ (· = zipD xs ys) := fun dk S0 H0 S H σ R I k =>
  ea_one h (ea_one h' ea_nil) dk S0 H0 S H σ _ I fun ds vs H1 e I1 s1 d1 => by
    subst e
    cases d1 with
    | cons a b => cases b with
      | cons b c =>
        cases c
        obtain ⟨p, us, rfl, hs, hd⟩ := dp_toLst a
        obtain ⟨q, ws, rfl, hs', hd'⟩ := dp_toLst b
        have l1 := dpa_len hd
        have l2 := dpa_len hd'
        refine ⟨p, q, us, ws, rfl, (hid_le S H1).seq hs, (hid_le S H1).seq hs', k _ _ H1 rfl I1 s1 ⟨fun S' H' i st hi => ⟨us, ws, lst_at hs st, lst_at hs' st, ?_⟩, fun S' H' i st hi => ?_, fun S' H' i x H'' d st own y e => ?_⟩⟩
        · rw [zipD_len] at hi
          omega
        · rw [zipD_len] at hi
          obtain ⟨x, hx⟩ := get_some (l := us) (i := i) (by omega)
          obtain ⟨y, hy⟩ := get_some (l := ws) (i := i) (by omega)
          exact ⟨us, ws, x, y, lst_at hs st, lst_at hs' st, hx, hy⟩
        · obtain ⟨T, x1, y1, rfl, hT, rfl, f1, f2⟩ := y
          obtain ⟨a1, b1, e1, e2, rfl⟩ := zip_get e
          obtain ⟨w1, g1, g2⟩ := dpa_get hd e1
          obtain ⟨w2, g3, g4⟩ := dpa_get hd' e2
          have q1 := f1 us (lst_at hs st)
          have q2 := f2 ws (lst_at hs' st)
          rw [g1] at q1
          rw [g3] at q2
          cases q1
          cases q2
          exact pair_new own hT (dp_up st.hid g2) (dp_up st.hid g4)
/-- zip of two tuples -/
theorem ei_zipT {xs ys : List PD} (h : EvE K ta ρ (· = .tuple xs)) (h' : EvE K tb ρ (· = .tuple ys)) : EvI K (RZ.iZipA K (tCons ta (tCons tb tNil))) ρ (· = zipD xs ys) := fun dk S0 H0 S H σ R I k =>
  ea_one h (ea_one h' ea_nil) dk S0 H0 S H σ _ I fun ds vs H1 e I1 s1 d1 => by
    subst e
    cases d1 with
    | cons a b => cases b with
      | cons b c =>
        cases c
        obtain ⟨p, us, rfl, hs, hd⟩ := dp_toTup a
        obtain ⟨q, ws, rfl, hs', hd'⟩ := dp_toTup b
        have l1 := dpa_len hd
        have l2 := dpa_len hd'
        refine ⟨p, q, us, ws, rfl, .inr ⟨seqT (hid_le S H1) hs, seqT (hid_le S H1) hs', k _ _ H1 rfl I1 s1 ⟨fun S' H' i st hi => ⟨us, ws, tup_at hs st, tup_at hs' st, ?_⟩, fun S' H' i st hi => ?_, fun S' H' i x H'' d st own y e => ?_⟩⟩⟩
        · rw [zipD_len] at hi
          omega
        · rw [zipD_len] at hi
          obtain ⟨x, hx⟩ := get_some (l := us) (i := i) (by omega)
          obtain ⟨y, hy⟩ := get_some (l := ws) (i := i) (by omega)
          exact ⟨us, ws, x, y, tup_at hs st, tup_at hs' st, hx, hy⟩
        · obtain ⟨T, x1, y1, rfl, hT, rfl, f1, f2⟩ := y
          obtain ⟨a1, b1, e1, e2, rfl⟩ := zip_get e
          obtain ⟨w1, g1, g2⟩ := dpa_get hd e1
          obtain ⟨w2, g3, g4⟩ := dpa_get hd' e2
          have q1 := f1 us (tup_at hs st)
          have q2 := f2 ws (tup_at hs' st)
          rw [g1] at q1
          rw [g3] at q2
          cases q1
          cases q2
          exact pair_new own hT (dp_up st.hid g2) (dp_up st.hid g4)
def enumD (xs : List PD) : List PD := xs.mapIdx fun i x => PyData.tuple [.int i, x]
theorem ei_enum {xs : List PD} (h : EvE K ta ρ (· = .list xs)) : EvI K (iEnum K (tCons ta tNil)) ρ (· = enumD xs) := fun dk S0 H0 S H σ R I k =>
  ea_one h ea_nil dk S0 H0 S H σ _ I fun ds vs H1 e I1 s1 d1 => by
    subst e
    cases d1 with
    | cons a b =>
      cases b
      obtain ⟨p, us, rfl, hs, hd⟩ := dp_toLst a
      have l1 := dpa_len hd
      have ln : (enumD xs).length = xs.length := List.length_mapIdx
      refine ⟨p, us, rfl, (hid_le S H1).seq hs, k _ _ H1 rfl I1 s1 ⟨fun S' H' i st hi => ⟨us, lst_at hs st, by omega⟩, fun S' H' i st hi => ?_, fun S' H' i x H'' d st own y e => ?_⟩⟩
      · obtain ⟨x, hx⟩ := get_some (l := us) (i := i) (by omega)
        exact ⟨us, x, lst_at hs st, hx⟩
      · obtain ⟨T, x1, rfl, hT, rfl, f1⟩ := y
        unfold enumD at e
        rw [List.getElem?_mapIdx] at e
        cases e1 : xs[i]? with
        | none => rw [e1] at e; cases e
        | some a1 =>
          rw [e1] at e
          cases e
          obtain ⟨w1, g1, g2⟩ := dpa_get hd e1
          have q1 := f1 us (lst_at hs st)
          rw [g1] at q1
          cases q1
          exact pair_new own hT (.int _) (dp_up st.hid g2)

/-! ### targets -/
/-- no slot's own list stands at D -/
def NoSlot (ρ : Rho) (σ : L2.St) (D : Addr) : Prop := ∀ (j : Nat) (es : List PD), ρ[j]? = some (some (Ent.own es)) → σ[j]? ≠ some (some (V.ref D))
theorem NoSlot.put {σ : L2.St} {D : Addr} {i : Nat} {x : Option V} {d : Option Ent} (hd : ∀ es, d ≠ some (.own es)) (h : NoSlot ρ σ D) : NoSlot (ρ.set i d) (σ.set i x) D := fun j es h1 h2 => by
  rw [getset] at h1 h2
  by_cases hj : i = j
  · rw [if_pos hj] at h1
    split at h1
    · exact hd es (Option.some.inj h1)
    · cases h1
  · rw [if_neg hj] at h1 h2
    exact h j es h1 h2
theorem NoSlot.wipes {σ : L2.St} {D : Addr} (h : NoSlot ρ σ D) : ∀ vs : List Nat, NoSlot (wipeR ρ vs) (wipe σ vs) D
  | [] => h
  | v :: vs => (NoSlot.wipes h vs).put fun es z => nomatch z
def BindG (K : PySem.W.Frag) (g : TG) (d : PD) (ρ ρ' : Rho) (ts : List Nat) : Prop :=
  ∀ (dk : Option Addr) (S0 : List Addr) (H0 : Hp) (S : List Addr) (H : Hp) (σ : L2.St) (v : V) (Q : L2.St → Hp → Prop), EnvD K dk S0 H0 S H σ ρ → Dp K (Hid S H) v d →
    (∀ σ', EnvD K dk S0 H0 S H σ' ρ' → (∀ vs : List Nat, (∀ t ∈ ts, t ∈ vs) → wipe σ' vs = wipe σ vs) → (∀ D, NoSlot ρ σ D → NoSlot ρ' σ' D) → Q σ' H) → g v σ H Q
theorem bg_name {i : Nat} {d : PD} : BindG K (gName i) d ρ (ρ.set i (some (.dat d))) [i] := fun dk S0 H0 S H σ v Q I hd k =>
  k _ (I.put i hd) (fun vs h => wipe_set (h i List.mem_cons_self)) fun D h => h.put fun es z => nomatch z
theorem bg_tup2 {g1 g2 : TG} {x y : PD} {ρ1 ρ2 : Rho} {t1 t2 : List Nat} (h1 : BindG K g1 x ρ ρ1 t1) (h2 : BindG K g2 y ρ1 ρ2 t2) : BindG K (gTup K 2 (gCons g1 (gCons g2 gNil))) (.tuple [x, y]) ρ ρ2 (t1 ++ t2) := fun dk S0 H0 S H σ v Q I hd k => by
  obtain ⟨a, vs, rfl, hs, hd⟩ := dp_toTup hd
  cases hd with
  | cons d1 hd => cases hd with
    | cons d2 hd =>
      cases hd
      refine ⟨a, _, rfl, seqT (hid_le S H) hs, rfl, _, _, rfl, h1 dk S0 H0 S H σ _ _ I d1 fun σ1 I1 w1 n1 => ⟨_, _, rfl, h2 dk S0 H0 S H σ1 _ _ I1 d2 fun σ2 I2 w2 n2 => ⟨rfl, k σ2 I2 (fun us hu => ?_) fun D h => n2 D (n1 D h)⟩⟩⟩
      rw [w2 us (fun t ht => hu t (List.mem_append_right _ ht)), w1 us (fun t ht => hu t (List.mem_append_left _ ht))]
theorem bg_tup3 {g1 g2 g3 : TG} {x y z : PD} {ρ1 ρ2 ρ3 : Rho} {t1 t2 t3 : List Nat} (h1 : BindG K g1 x ρ ρ1 t1) (h2 : BindG K g2 y ρ1 ρ2 t2) (h3 : BindG K g3 z ρ2 ρ3 t3) :
    BindG K (gTup K 3 (gCons g1 (gCons g2 (gCons g3 gNil)))) (.tuple [x, y, z]) ρ ρ3 (t1 ++ (t2 ++ t3)) := fun dk S0 H0 S H σ v Q I hd k => by
  obtain ⟨a, vs, rfl, hs, hd⟩ := dp_toTup hd
  cases hd with
  | cons d1 hd => cases hd with
    | cons d2 hd => cases hd with
      | cons d3 hd =>
        cases hd
        refine ⟨a, _, rfl, seqT (hid_le S H) hs, rfl, _, _, rfl, h1 dk S0 H0 S H σ _ _ I d1 fun σ1 I1 w1 n1 => ⟨_, _, rfl, h2 dk S0 H0 S H σ1 _ _ I1 d2 fun σ2 I2 w2 n2 => ⟨_, _, rfl, h3 dk S0 H0 S H σ2 _ _ I2 d3 fun σ3 I3 w3 n3 => ⟨rfl, k σ3 I3 (fun us hu => ?_) fun D h => n3 D (n2 D (n1 D h))⟩⟩⟩⟩
        rw [w3 us (fun t ht => hu t (List.mem_append_right _ (List.mem_append_right _ ht))), w2 us (fun t ht => hu t (List.mem_append_right _ (List.mem_append_left _ ht))), w1 us (fun t ht => hu t (List.mem_append_left _ ht))]
/-- a, b = e, e a tuple -/
theorem rs_asgG {g : TG} {ts : List Nat} {d : PD} {ρ' : Rho} (h : EvE K te ρ (· = d)) (hg : BindG K g d ρ ρ' ts) (k : O.nx ρ') : RunS K (tAsg te g) ρ O := fun dk S0 H0 S H σ D I C =>
  h dk S0 H0 S H σ _ I fun d' v H1 e I1 s1 d1 => by
    subst e
    exact hg dk S0 H0 S H1 σ v _ I1 d1 fun σ' J _ _ => C.nx _ S H1 σ' k J (I.step s1)
theorem rs_setG {g : TG} {ts : List Nat} {d : PD} {ρ' : Rho} (h : EvE K te ρ (· = d)) (hg : BindG K g d ρ ρ' ts) (k : RunS K u ρ' O) : RunS K (tSeq (tAsg te g) u) ρ O :=
  rs_seq (· = ρ') (rs_asgG h hg rfl) fun _ e => by rw [e]; exact k

/-! ### for -/
theorem rs_for {wi : TI} {g : TG} {PX : List PD → Prop} (h : EvI K wi ρ PX) (W : List PD → Nat → Rho → Prop) (h0 : ∀ xs, PX xs → W xs 0 ρ)
    (hs : ∀ xs i d ρ', PX xs → xs[i]? = some d → W xs i ρ' → ∃ ρ2 ts, BindG K g d ρ' ρ2 ts ∧ RunS K t ρ2 { O with nx := W xs (i + 1), ct := W xs (i + 1), bk := O.nx }) (hd : ∀ xs ρ', PX xs → W xs xs.length ρ' → O.nx ρ') : RunS K (tFor wi g t) ρ O := fun dk S0 H0 S H σ D I C =>
  h dk S0 H0 S H σ _ I fun xs J H1 px I1 s1 it => by
    have st0 := I.step s1
    refine ⟨fun i m σ' H' => ∃ ρ' S', m = xs.length - i ∧ i ≤ xs.length ∧ W xs i ρ' ∧ EnvD K dk S0 H0 S' H' σ' ρ' ∧ Step S H1 S' H', ⟨_, ρ, S, rfl, Nat.zero_le _, h0 xs px, I1, .refl _ _⟩, ?_⟩
    rintro i m σ' H' ⟨ρ', S', rfl, hi, w, I', st⟩
    by_cases hlt : i < xs.length
    · obtain ⟨d, hx⟩ := get_some hlt
      refine .inr ⟨it.go S' H' i st hlt, fun σ2 H2 => ∃ ρ2 S2, W xs (i + 1) ρ2 ∧ EnvD K dk S0 H0 S2 H2 σ2 ρ2 ∧ Step S H1 S2 H2, fun σ2 H2 ⟨ρ2, S2, w2, I2, st2⟩ => ⟨xs.length - (i + 1), by omega, ρ2, S2, rfl, hlt, w2, I2, st2⟩, fun x H'' y => ?_⟩
      obtain ⟨e, hd'⟩ := it.yld S' H' i x H'' d st I'.own y hx
      obtain ⟨ρ2, ts, hb, hr⟩ := hs xs i d ρ' px hx w
      have I'' := I'.grow e
      have st'' : Step S H1 S' H'' := st.trans (.of_same e)
      refine hb dk S0 H0 S' H'' σ' x _ I'' hd' fun σ2 I2 _ _ => ?_
      refine hr dk S0 H0 S' H'' σ2 _ I2 ⟨fun ρ3 S3 H3 σ3 o I3 t3 => ⟨ρ3, S3, o, I3, st''.trans t3⟩, fun ρ3 S3 H3 σ3 o I3 t3 => C.nx ρ3 S3 H3 σ3 o I3 ((st0.trans st'').trans t3), fun ρ3 S3 H3 σ3 o I3 t3 => ⟨ρ3, S3, o, I3, st''.trans t3⟩, C.rt, C.rl⟩
    · have e : i = xs.length := by omega
      subst e
      exact .inl ⟨it.stop S' H' _ st (Nat.le_refl _), C.nx ρ' S' H' σ' (hd xs ρ' px w) I' (st0.trans st)⟩
/-- over known items -/
theorem rs_for1 {wi : TI} {g : TG} {xs : List PD} (h : EvI K wi ρ (· = xs)) (W : Nat → Rho → Prop) (h0 : W 0 ρ)
    (hs : ∀ (i : Nat) (d : PD) (ρ' : Rho), xs[i]? = some d → W i ρ' → ∃ ρ2 ts, BindG K g d ρ' ρ2 ts ∧ RunS K t ρ2 { O with nx := W (i + 1), ct := W (i + 1), bk := O.nx }) (hd : ∀ ρ', W xs.length ρ' → O.nx ρ') : RunS K (tFor wi g t) ρ O :=
  rs_for h (fun ys i r => W i r) (fun _ _ => h0) (fun ys i d r e => by subst e; exact hs i d r) fun ys r e => by subst e; exact hd r
/-- while -/
theorem rs_while (W : Nat → Rho → Prop) (n : Nat) (h0 : W n ρ) {C : Nat → Rho → Bool → Prop} (hc : ∀ m ρ', W m ρ' → EvT K tt ρ' (C m ρ')) (hs : ∀ m ρ', W m ρ' → C m ρ' true → RunS K t ρ' { O with nx := fun r => ∃ j, j < m ∧ W j r, ct := fun r => ∃ j, j < m ∧ W j r, bk := O.nx })
    (hd : ∀ m ρ', W m ρ' → C m ρ' false → O.nx ρ') : RunS K (tWhile tt t) ρ O := fun dk S0 H0 S H σ D I c => by
  refine ⟨fun m σ' H' => ∃ ρ' S', W m ρ' ∧ EnvD K dk S0 H0 S' H' σ' ρ' ∧ Step S H S' H', ⟨n, ρ, S, h0, I, .refl _ _⟩, ?_⟩
  rintro m σ' H' ⟨ρ', S', w, I', st⟩
  refine hc m ρ' w dk S0 H0 S' H' σ' _ I' fun b H1 p I1 s1 => ?_
  have st1 := st.trans (I'.step s1)
  cases b with
  | false => exact iteF (c.nx ρ' S' H1 σ' (hd m ρ' w p) I1 st1)
  | true =>
    refine iteT ⟨fun σ2 H2 => ∃ j ρ2 S2, j < m ∧ W j ρ2 ∧ EnvD K dk S0 H0 S2 H2 σ2 ρ2 ∧ Step S H S2 H2, fun σ2 H2 ⟨j, ρ2, S2, hj, w2, I2, st2⟩ => ⟨j, hj, ρ2, S2, w2, I2, st2⟩, ?_⟩
    exact hs m ρ' w p dk S0 H0 S' H1 σ' _ I1 ⟨fun ρ3 S3 H3 σ3 ⟨j, hj, w3⟩ I3 t3 => ⟨j, ρ3, S3, hj, w3, I3, st1.trans t3⟩, fun ρ3 S3 H3 σ3 o I3 t3 => c.nx ρ3 S3 H3 σ3 o I3 (st1.trans t3), fun ρ3 S3 H3 σ3 ⟨j, hj, w3⟩ I3 t3 => ⟨j, ρ3, S3, hj, w3, I3, st1.trans t3⟩, c.rt, c.rl⟩
end
end Pk

/-! Comprehensions, calls, defs over data. -/
namespace Pk
open PySem PySem.Spec PyProof.Rows L2

section
variable {K : PySem.W.Frag} {dk : Option Addr} {S0 : List Addr} {H0 : Hp} {S S' : List Addr} {H H' : Hp} {σ σ' : L2.St} {ρ ρ' : Rho}
/-- the same slots at a later heap -/
theorem EnvD.move (I : EnvD K dk S0 H0 S H σ ρ) (J : EnvD K dk S0 H0 S H' σ' ρ') (s : SameB dk H H') : EnvD K dk S0 H0 S H' σ ρ := by
  have st := I.hid s
  refine ⟨J.keep, J.own0, J.kept0, J.sub, J.new, J.own, J.deck, I.len, fun i d h => ?_, fun i ds h => ?_, I.dck, I.sep, fun i R h => let ⟨m, v, h1, h2⟩ := I.mon i R h; ⟨m, v, h1, m _ _ _ st h2⟩⟩
  · obtain ⟨v, h1, h2⟩ := I.dat i d h
    exact ⟨v, h1, dp_up st h2⟩
  · obtain ⟨p, vs, h1, h2, h3, h4, h5⟩ := I.lst i ds h
    exact ⟨p, vs, h1, h2, h3, s p _ (fun z => I.own0 p (I.deck p z).1 h3) h4, dpa_up st h5⟩
/-- a hidden object that is no slot's changes -/
theorem EnvD.scratch (I : EnvD K dk S0 H0 S H σ ρ) {D : Addr} (o : HO) (hD : D ∈ S) (h0 : H0 D = none) (hσ : NoSlot ρ σ D) : EnvD K dk S0 H0 S (upd H D o) σ ρ := by
  have st : Same (Hid S H) (Hid S (upd H D o)) := fun a u h => by
    obtain ⟨h1, h2⟩ := hid_some h
    rw [hid_out h1, upd_ne (fun z => h1 (by rw [z]; exact hD))]; exact h2
  refine ⟨fun a u h n => ?_, I.own0, fun a h n => ?_, I.sub, I.new, fun a h => ?_, fun a h => ?_, I.len, fun i d h => ?_, fun i ds h => ?_, I.dck, I.sep, fun i R h => let ⟨m, v, h1, h2⟩ := I.mon i R h; ⟨m, v, h1, m _ _ _ st h2⟩⟩
  · rw [upd_ne (fun z => by rw [z, h0] at h; cases h)]
    exact I.keep a u h n
  · rw [upd_ne (fun z => by rw [z] at h; exact I.own0 D h h0)]
    exact I.kept0 a h n
  · by_cases ha : a = D
    · rw [ha, upd_same]; exact fun z => nomatch z
    · rw [upd_ne ha]; exact I.own a h
  · obtain ⟨h1, h2⟩ := I.deck a h
    refine ⟨h1, ?_⟩
    obtain ⟨d0, d1, sd, l, d4, ns, z, z2, z3⟩ := h2.ex
    exact ⟨d0, d1, sd, l, d4, ns, by rw [upd_ne (fun q => by rw [q] at h1; exact I.own0 D h1 h0)]; exact z, st.seq z2, z3⟩
  · obtain ⟨v, h1, h2⟩ := I.dat i d h
    exact ⟨v, h1, dp_up st h2⟩
  · obtain ⟨p, vs, h1, h2, h3, h4, h5⟩ := I.lst i ds h
    have hp : p ≠ D := fun z => by subst z; exact hσ i ds h h1
    exact ⟨p, vs, h1, h2, h3, by rw [upd_ne hp]; exact h4, dpa_up st h5⟩

/-- a list that grows at D, hidden -/
structure Coll (K : PySem.W.Frag) (dk : Option Addr) (S0 : List Addr) (H0 : Hp) (S : List Addr) (σ : L2.St) (ρ : Rho) (D : Addr) (H1 : Hp) (H : Hp) (ds : List PD) : Prop where
  I : EnvD K dk S0 H0 (D :: S) H σ ρ
  same : ∀ a o, dk ≠ some a → a ≠ D → H1 a = some o → H a = some o
  ex : ∃ acc, H D = some (.lst acc) ∧ DpAll K (Hid (D :: S) H) acc ds
  n0 : H0 D = none
  n1 : H1 D = none
  ns : NoSlot ρ σ D
theorem Coll.dkD {D : Addr} {H1 : Hp} {ds : List PD} (C : Coll K dk S0 H0 S σ ρ D H1 H ds) : dk ≠ some D := fun z => C.I.own0 D (C.I.deck D z).1 C.n0
theorem Coll.step {D : Addr} {H1 : Hp} {ds : List PD} (C : Coll K dk S0 H0 S σ ρ D H1 H ds) (dkS : ∀ a, dk = some a → a ∈ S) : Step S H1 (D :: S) H :=
  ⟨fun _ h => List.mem_cons_of_mem _ h, fun a h => by
    rcases List.mem_cons.mp h with rfl | h
    · exact .inr C.n1
    · exact .inl h, fun a o n h => C.same a o (fun z => n (dkS a z)) (fun z => by rw [z, C.n1] at h; cases h) h⟩
/-- something was evaluated in a block -/
theorem Coll.move {D : Addr} {H1 : Hp} {ds : List PD} (C : Coll K dk S0 H0 S σ ρ D H1 H ds) (J : EnvD K dk S0 H0 (D :: S) H' σ' ρ') (s : SameB dk H H') : Coll K dk S0 H0 S σ ρ D H1 H' ds := by
  obtain ⟨acc, h1, h2⟩ := C.ex
  exact ⟨C.I.move J s, fun a o n n2 h => s a o n (C.same a o n n2 h), ⟨acc, s D _ C.dkD h1, dpa_up (C.I.hid s) h2⟩, C.n0, C.n1, C.ns⟩
theorem Coll.push {D : Addr} {H1 : Hp} {ds : List PD} {y : V} {d : PD} (C : Coll K dk S0 H0 S σ ρ D H1 H ds) (hy : Dp K (Hid (D :: S) H) y d) :
    ∃ acc, H D = some (.lst acc) ∧ acc.length = ds.length ∧ Coll K dk S0 H0 S σ ρ D H1 (upd H D (.lst (acc ++ [y]))) (ds ++ [d]) := by
  obtain ⟨acc, h1, h2⟩ := C.ex
  refine ⟨acc, h1, dpa_len h2, C.I.scratch _ List.mem_cons_self C.n0 C.ns, fun a o n n2 h => by rw [upd_ne n2]; exact C.same a o n n2 h, ⟨_, upd_same, ?_⟩, C.n0, C.n1, C.ns⟩
  refine dpa_up (fun a u h => ?_) (dpa_app h2 (.cons hy .nil))
  obtain ⟨h3, h4⟩ := hid_some h
  rw [hid_out h3, upd_ne (fun z => h3 (by rw [z]; exact List.mem_cons_self))]
  exact h4
theorem Coll.start {D : Addr} {H1 : Hp} (I : EnvD K dk S0 H0 S H1 σ ρ) (hD : H1 D = none) : Coll K dk S0 H0 S σ ρ D H1 (upd H1 D (.lst [])) [] := by
  refine ⟨I.hideS (same_new hD) hD (by rw [upd_same]; exact fun z => nomatch z), fun a o _ n2 h => by rw [upd_ne n2]; exact h, ⟨[], upd_same, .nil⟩, I.free0 hD, hD, fun j es h z => ?_⟩
  obtain ⟨q, us, h1, h2, _⟩ := I.lst j es h
  rw [h1] at z
  cases z
  exact I.own _ h2 hD
end

section
variable {K : PySem.W.Frag} {ρ : Rho} {te ta tb : TE} {tt : TT} {tr : TA} {P : PD → Prop}
/-- [e for g in .. if ..] -/
theorem el_lc {wi : TI} {g : TG} {vs : List Nat} {PX R : List PD → Prop} (h : EvI K wi ρ PX) (W : List PD → Nat → List PD → Prop) (h0 : ∀ xs, PX xs → xs.length ≤ 100000 ∧ W xs 0 [])
    (hs : ∀ (xs : List PD) (i : Nat) (d : PD) (acc : List PD), PX xs → xs[i]? = some d → W xs i acc → ∃ (ρ2 : Rho) (ts : List Nat) (C : Bool → Prop) (P : PD → Prop), (∀ t ∈ ts, t ∈ vs) ∧ BindG K g d (wipeR ρ vs) ρ2 ts ∧ EvT K tt ρ2 C ∧
      (C true → EvE K te ρ2 P ∧ ∀ e, P e → W xs (i + 1) (acc ++ [e])) ∧ (C false → W xs (i + 1) acc)) (hd : ∀ xs acc, PX xs → W xs xs.length acc → R acc) : EvL K (tLc wi g tt te vs) ρ R := fun dk S0 H0 S H σ Q I k =>
  h dk S0 H0 S H σ _ I fun xs J H1 px I1 s1 it D hD => by
    have dkS : ∀ a, dk = some a → a ∈ S := fun a z => I.sub a (I.deck a z).1
    obtain ⟨hlen, w0⟩ := h0 xs px
    refine ⟨fun i m H' => ∃ ds, m = xs.length - i ∧ i ≤ xs.length ∧ W xs i ds ∧ ds.length ≤ i ∧ Coll K dk S0 H0 S σ ρ D H1 H' ds, ⟨_, [], rfl, Nat.zero_le _, w0, Nat.le_refl _, Coll.start I1 hD⟩, ?_⟩
    rintro i m H' ⟨ds, rfl, hi, w, hl, C⟩
    have st := C.step dkS
    by_cases hlt : i < xs.length
    · obtain ⟨d, hx⟩ := get_some hlt
      refine .inr ⟨it.go _ H' i st hlt, fun H2 => ∃ ds2, W xs (i + 1) ds2 ∧ ds2.length ≤ i + 1 ∧ Coll K dk S0 H0 S σ ρ D H1 H2 ds2, fun H2 ⟨ds2, w2, l2, C2⟩ => ⟨xs.length - (i + 1), by omega, ds2, rfl, hlt, w2, l2, C2⟩, fun x H'' y => ?_⟩
      obtain ⟨e, hd'⟩ := it.yld _ H' i x H'' d st C.I.own y hx
      have C2 := C.move (C.I.grow e) (.of_same e)
      obtain ⟨ρ2, ts, Cn, P, hts, hb, ht, hy, hn⟩ := hs xs i d ds px hx w
      refine hb dk S0 H0 (D :: S) H'' (wipe σ vs) x _ (C2.I.wipes vs) hd' fun σ2 J2 w2 n2 => ⟨(w2 vs hts).trans (wipe_wipe σ vs), ?_⟩
      refine ht dk S0 H0 (D :: S) H'' σ2 _ J2 fun b H3 cb J3 s3 => ?_
      have C3 := C2.move J3 s3
      cases b with
      | false => exact iteF ⟨ds, hn cb, by omega, C3⟩
      | true =>
        obtain ⟨he, hw⟩ := hy cb
        refine iteT (he dk S0 H0 (D :: S) H3 σ2 _ J3 fun e y H4 pe J4 s4 d4 => ?_)
        have C4 := C3.move J4 s4
        obtain ⟨acc, a1, a2, C5⟩ := C4.push d4
        exact ⟨acc, a1, small_line (by omega), ds ++ [e], hw e pe, by rw [List.length_append]; simp only [List.length_cons, List.length_nil]; omega, C5⟩
    · have e : i = xs.length := by omega
      subst e
      obtain ⟨acc, a1, a2⟩ := C.ex
      refine .inl ⟨it.stop _ H' _ st (Nat.le_refl _), k ds D acc H' (hd xs ds px w) C.I (fun a o n h => ?_) (I1.free s1 hD) a1 a2⟩
      have h2 := s1 a o n h
      exact C.same a o n (fun z => by rw [z, hD] at h2; cases h2) h2
/-- [e for a in .. if .. for b in .. if ..] -/
theorem el_lc2 {wi wi1 : TI} {g g1 : TG} {tt1 : TT} {vs vs1 : List Nat} {PX R : List PD → Prop} (h : EvI K wi ρ PX) (W : List PD → Nat → List PD → Prop) (B : Nat) (hB : B < 100000) (hW : ∀ xs i acc, W xs i acc → acc.length ≤ B) (h0 : ∀ xs, PX xs → W xs 0 [])
    (hs : ∀ (xs : List PD) (i : Nat) (d : PD) (acc : List PD), PX xs → xs[i]? = some d → W xs i acc → ∃ (ρ2 : Rho) (ts : List Nat) (C : Bool → Prop), (∀ t ∈ ts, t ∈ vs) ∧ BindG K g d (wipeR ρ vs) ρ2 ts ∧ EvT K tt ρ2 C ∧ (C false → W xs (i + 1) acc) ∧
      (C true → ∃ (PY : List PD → Prop) (V : List PD → Nat → List PD → Prop), EvI K wi1 ρ2 PY ∧ (∀ ys, PY ys → V ys 0 acc) ∧ (∀ ys acc', PY ys → V ys ys.length acc' → W xs (i + 1) acc') ∧
        ∀ (ys : List PD) (j : Nat) (e : PD) (acc' : List PD), PY ys → ys[j]? = some e → V ys j acc' → acc'.length ≤ B ∧ ∃ (ρ3 : Rho) (ts1 : List Nat) (C1 : Bool → Prop) (P : PD → Prop), (∀ t ∈ ts1, t ∈ vs1) ∧ BindG K g1 e (wipeR ρ2 vs1) ρ3 ts1 ∧ EvT K tt1 ρ3 C1 ∧
          (C1 true → EvE K te ρ3 P ∧ ∀ z, P z → V ys (j + 1) (acc' ++ [z])) ∧ (C1 false → V ys (j + 1) acc'))) (hd : ∀ xs acc, PX xs → W xs xs.length acc → R acc) : EvL K (tLc2 wi g tt wi1 g1 tt1 te vs vs1) ρ R := fun dk S0 H0 S H σ Q I k =>
  h dk S0 H0 S H σ _ I fun xs J H1 px I1 s1 it D hD => by
    have dkS : ∀ a, dk = some a → a ∈ S := fun a z => I.sub a (I.deck a z).1
    have w0 := h0 xs px
    refine ⟨fun i m H' => ∃ ds, m = xs.length - i ∧ i ≤ xs.length ∧ W xs i ds ∧ Coll K dk S0 H0 S σ ρ D H1 H' ds, ⟨_, [], rfl, Nat.zero_le _, w0, Coll.start I1 hD⟩, ?_⟩
    rintro i m H' ⟨ds, rfl, hi, w, C⟩
    have st := C.step dkS
    by_cases hlt : i < xs.length
    · obtain ⟨d, hx⟩ := get_some hlt
      refine .inr ⟨it.go _ H' i st hlt, fun H2 => ∃ ds2, W xs (i + 1) ds2 ∧ Coll K dk S0 H0 S σ ρ D H1 H2 ds2, fun H2 ⟨ds2, w2, C2⟩ => ⟨xs.length - (i + 1), by omega, ds2, rfl, hlt, w2, C2⟩, fun x H'' y => ?_⟩
      obtain ⟨e, hd'⟩ := it.yld _ H' i x H'' d st C.I.own y hx
      have C2 := C.move (C.I.grow e) (.of_same e)
      obtain ⟨ρ2, ts, Cn, hts, hb, ht, hn, hy⟩ := hs xs i d ds px hx w
      refine hb dk S0 H0 (D :: S) H'' (wipe σ vs) x _ (C2.I.wipes vs) hd' fun σ2 J2 w2 n2 => ⟨(w2 vs hts).trans (wipe_wipe σ vs), ?_⟩
      refine ht dk S0 H0 (D :: S) H'' σ2 _ J2 fun b H3 cb J3 s3 => ?_
      have C3 := C2.move J3 s3
      cases b with
      | false => exact iteF ⟨ds, hn cb, C3⟩
      | true =>
        obtain ⟨PY, V, hiy, v0, vend, vs_⟩ := hy cb
        refine iteT (hiy dk S0 H0 (D :: S) H3 σ2 _ J3 fun ys J1 H4 py J4 s4 it1 => ?_)
        have C4 := C3.move J4 s4
        -- the inner loop, over the same growing list
        have inner : ∀ {H5 : Hp} {ds5 : List PD}, Coll K dk S0 H0 S σ ρ D H1 H5 ds5 → EnvD K dk S0 H0 (D :: S) H5 σ2 ρ2 → (∀ a o, dk ≠ some a → a ≠ D → H4 a = some o → H5 a = some o) → Step (D :: S) H4 (D :: S) H5 := fun {H5 ds5} C5 J5 sm =>
          ⟨fun _ h => h, fun _ h => .inl h, fun a o n h => sm a o (fun z => n (List.mem_cons_of_mem _ (dkS a z))) (fun z => n (by rw [z]; exact List.mem_cons_self)) h⟩
        refine ⟨fun j m5 H5 => ∃ ds5, m5 = ys.length - j ∧ j ≤ ys.length ∧ V ys j ds5 ∧ Coll K dk S0 H0 S σ ρ D H1 H5 ds5 ∧ EnvD K dk S0 H0 (D :: S) H5 σ2 ρ2 ∧ (∀ a o, dk ≠ some a → a ≠ D → H4 a = some o → H5 a = some o), ⟨_, ds, rfl, Nat.zero_le _, v0 ys py, C4, J4, fun _ _ _ _ h => h⟩, ?_⟩
        rintro j m5 H5 ⟨ds5, rfl, hj, v, C5, J5, sm⟩
        have st5 := inner C5 J5 sm
        by_cases hlt2 : j < ys.length
        · obtain ⟨e2, hy2⟩ := get_some hlt2
          refine .inr ⟨it1.go _ H5 j st5 hlt2, fun H6 => ∃ ds6, V ys (j + 1) ds6 ∧ Coll K dk S0 H0 S σ ρ D H1 H6 ds6 ∧ EnvD K dk S0 H0 (D :: S) H6 σ2 ρ2 ∧ (∀ a o, dk ≠ some a → a ≠ D → H4 a = some o → H6 a = some o), fun H6 ⟨ds6, v6, C6, J6, sm6⟩ => ⟨ys.length - (j + 1), by omega, ds6, rfl, hlt2, v6, C6, J6, sm6⟩, fun x2 H6 y2 => ?_⟩
          obtain ⟨e6, hd6⟩ := it1.yld _ H5 j x2 H6 e2 st5 C5.I.own y2 hy2
          have C6 := C5.move (C5.I.grow e6) (.of_same e6)
          have J6 := J5.grow e6
          have sm6 : ∀ a o, dk ≠ some a → a ≠ D → H4 a = some o → H6 a = some o := fun a o n n2 h => e6 a o (sm a o n n2 h)
          obtain ⟨hB5, ρ3, ts1, C1, P, hts1, hb1, ht1, hy1, hn1⟩ := vs_ ys j e2 ds5 py hy2 v
          refine hb1 dk S0 H0 (D :: S) H6 (wipe σ2 vs1) x2 _ (J6.wipes vs1) hd6 fun σ3 J7 w7 n7 => ⟨(w7 vs1 hts1).trans (wipe_wipe σ2 vs1), ?_⟩
          refine ht1 dk S0 H0 (D :: S) H6 σ3 _ J7 fun b7 H7 cb7 J8 s8 => ?_
          have C8 := C6.move J8 s8
          have J8' := J6.move J8 s8
          have sm8 : ∀ a o, dk ≠ some a → a ≠ D → H4 a = some o → H7 a = some o := fun a o n n2 h => s8 a o n (sm6 a o n n2 h)
          cases b7 with
          | false => exact iteF ⟨ds5, hn1 cb7, C8, J8', sm8⟩
          | true =>
            obtain ⟨he, hw⟩ := hy1 cb7
            refine iteT (he dk S0 H0 (D :: S) H7 σ3 _ J8 fun ev yv H9 pe J9 s9 d9 => ?_)
            have C9 := C8.move J9 s9
            have J9' := J8'.move J9 s9
            obtain ⟨acc, a1, a2, C10⟩ := C9.push d9
            refine ⟨acc, a1, small_line (by omega), ds5 ++ [ev], hw ev pe, C10, ?_, fun a o n n2 h => by rw [upd_ne n2]; exact s9 a o n (sm8 a o n n2 h)⟩
            exact J9'.scratch _ List.mem_cons_self C9.n0 (n2 D (C2.ns.wipes vs))
        · have e : j = ys.length := by omega
          subst e
          exact .inl ⟨it1.stop _ H5 _ st5 (Nat.le_refl _), ds5, vend ys ds5 py v, C5⟩
    · have e : i = xs.length := by omega
      subst e
      obtain ⟨acc, a1, a2⟩ := C.ex
      refine .inl ⟨it.stop _ H' _ st (Nat.le_refl _), k ds D acc H' (hd xs ds px w) C.I (fun a o n h => ?_) (I1.free s1 hD) a1 a2⟩
      have h2 := s1 a o n h
      exact C.same a o n (fun z => by rw [z, hD] at h2; cases h2) h2
end
end Pk

/-! Calls, defs, operators over data. -/
namespace Pk
open PySem PySem.Spec PyProof.Rows L2

/-! ### promises over data -/
abbrev FD := List PD → (PD → Prop) → Prop
abbrev FL := List PD → (List PD → Prop) → Prop
/-- a def that reads data and gives data -/
def SpP (K : PySem.W.Frag) (F : FD) : Sp := fun vs H Q _ => ∃ (S : List Addr) (ds : List PD) (P : PD → Prop), (∀ a ∈ S, H a ≠ none) ∧ DpAll K (Hid S H) vs ds ∧ F ds P ∧
  ∀ d v H', P d → Same H H' → Dp K (Hid S H') v d → Q v H'
/-- .. and gives a new list -/
def SpL (K : PySem.W.Frag) (F : FL) : Sp := fun vs H Q _ => ∃ (S : List Addr) (ds : List PD) (P : List PD → Prop), (∀ a ∈ S, H a ≠ none) ∧ DpAll K (Hid S H) vs ds ∧ F ds P ∧
  ∀ es p us H', P es → Same H H' → H p = none → H' p = some (.lst us) → DpAll K (Hid (p :: S) H') us es → Q (.ref p) H'
/-- a def whose first argument is the deck -/
def SpK (K : PySem.W.Frag) (F : FD) : Sp := fun vs H Q _ => ∃ (dk : Addr) (us : List V) (S : List Addr) (ds : List PD) (P : PD → Prop), vs = .ref dk :: us ∧ (∀ a ∈ S, H a ≠ none) ∧ dk ∈ S ∧ DeckAt K S H dk ∧ DpAll K (Hid S H) us ds ∧ F ds P ∧
  ∀ d v H', P d → SameB (some dk) H H' → DeckAt K S H' dk → Dp K (Hid S H') v d → Q v H'
def SpKL (K : PySem.W.Frag) (F : FL) : Sp := fun vs H Q _ => ∃ (dk : Addr) (us : List V) (S : List Addr) (ds : List PD) (P : List PD → Prop), vs = .ref dk :: us ∧ (∀ a ∈ S, H a ≠ none) ∧ dk ∈ S ∧ DeckAt K S H dk ∧ DpAll K (Hid S H) us ds ∧ F ds P ∧
  ∀ es p ws H', P es → SameB (some dk) H H' → DeckAt K (p :: S) H' dk → H p = none → H' p = some (.lst ws) → DpAll K (Hid (p :: S) H') ws es → Q (.ref p) H'

section
variable {K : PySem.W.Frag} {ρ : Rho} {te ta tb : TE} {tt : TT} {tr : TA} {P : PD → Prop} {E : XK}
theorem ev_call {F : FD} {PA : List PD → Prop} (ha : EvA K tr ρ PA) (hf : ∀ ds, PA ds → F ds P) : EvE K (tCall (SpP K F) [] E tr) ρ P := fun dk S0 H0 S H σ Q I k =>
  ha dk S0 H0 S H σ _ I fun ds vs H1 p I1 s1 d1 => ⟨S, ds, P, I1.own, by rw [List.append_nil]; exact d1, hf ds p, fun d v H2 q e d2 => k d v H2 q (I1.grow e) (s1.trans (.of_same e)) d2⟩
theorem ev_call1 {F : FD} {ds : List PD} (ha : EvA K tr ρ (· = ds)) (hf : F ds P) : EvE K (tCall (SpP K F) [] E tr) ρ P := ev_call ha fun es e => by rw [e]; exact hf
theorem el_call {F : FL} {PA P : List PD → Prop} (ha : EvA K tr ρ PA) (hf : ∀ ds, PA ds → F ds P) : EvL K (tCall (SpL K F) [] E tr) ρ P := fun dk S0 H0 S H σ Q I k =>
  ha dk S0 H0 S H σ _ I fun ds vs H1 p I1 s1 d1 => ⟨S, ds, P, I1.own, by rw [List.append_nil]; exact d1, hf ds p, fun es p us H2 q e hp hl d2 =>
    k es p us H2 q (I1.hideS e hp (by rw [hl]; exact fun z => nomatch z)) (s1.trans (.of_same e)) (I1.free s1 hp) hl d2⟩
theorem el_call1 {F : FL} {ds : List PD} {P : List PD → Prop} (ha : EvA K tr ρ (· = ds)) (hf : F ds P) : EvL K (tCall (SpL K F) [] E tr) ρ P := el_call ha fun es e => by rw [e]; exact hf
theorem evk_call {F : FD} {i : Nat} {PA : List PD → Prop} (h : ρ[i]? = some (some .deck)) (ha : EvA K tr ρ PA) (hf : ∀ ds, PA ds → F ds P) : EvE K (tCall (SpK K F) [] E (tCons (tVar i) tr)) ρ P := fun dk S0 H0 S H σ Q I k => by
  obtain ⟨a, rfl, h2⟩ := I.dck i h
  refine ⟨_, h2, ha _ S0 H0 S H σ _ I fun ds vs H1 p I1 s1 d1 => ?_⟩
  obtain ⟨h3, h4⟩ := I1.deck a rfl
  exact ⟨a, vs, S, ds, P, by rw [List.append_nil], I1.own, I1.sub a h3, h4, d1, hf ds p, fun d v H2 q e D2 d2 => k d v H2 q (I1.turned rfl (fun b o n hb => e b o (fun z => n (Option.some.inj z).symm) hb) D2) (s1.trans e) d2⟩
theorem evk_call1 {F : FD} {i : Nat} {ds : List PD} (h : ρ[i]? = some (some .deck)) (ha : EvA K tr ρ (· = ds)) (hf : F ds P) : EvE K (tCall (SpK K F) [] E (tCons (tVar i) tr)) ρ P := evk_call h ha fun es e => by rw [e]; exact hf
theorem elk_call {F : FL} {i : Nat} {PA P : List PD → Prop} (h : ρ[i]? = some (some .deck)) (ha : EvA K tr ρ PA) (hf : ∀ ds, PA ds → F ds P) : EvL K (tCall (SpKL K F) [] E (tCons (tVar i) tr)) ρ P := fun dk S0 H0 S H σ Q I k => by
  obtain ⟨a, rfl, h2⟩ := I.dck i h
  refine ⟨_, h2, ha _ S0 H0 S H σ _ I fun ds vs H1 p I1 s1 d1 => ?_⟩
  obtain ⟨h3, h4⟩ := I1.deck a rfl
  refine ⟨a, vs, S, ds, P, by rw [List.append_nil], I1.own, I1.sub a h3, h4, d1, hf ds p, fun es p ws H2 q e D2 hp hl d2 => k es p ws H2 q ?_ (s1.trans e) (I1.free s1 hp) hl d2⟩
  -- the deck has turned and a list is new
  have haS := I1.sub a h3
  have st : Same (Hid S H1) (Hid (p :: S) H2) := fun b o h => by
    obtain ⟨w1, w2⟩ := hid_some h
    rw [hid_out]
    · exact e b o (fun z => w1 (by rw [← Option.some.inj z]; exact haS)) w2
    · intro z
      rcases List.mem_cons.mp z with z | z
      · rw [z, hp] at w2; cases w2
      · exact w1 z
  have hpa : ∀ b, b ∈ S → b ≠ p := fun b hb z => by rw [z] at hb; exact I1.own p hb hp
  refine ⟨fun b o h n => e b o (fun z => n (by rw [← Option.some.inj z]; exact h3)) (I1.keep b o h n), I1.own0, fun b h n => ?_, fun b h => List.mem_cons_of_mem _ (I1.sub b h), fun b h => ?_, fun b h => ?_, fun b h => ?_, I1.len, fun j d h => ?_, fun j es h => ?_, I1.dck, I1.sep, fun i R h => let ⟨m, v, h1, h2⟩ := I1.mon i R h; ⟨m, v, h1, m _ _ _ st h2⟩⟩
  · have w1 := I1.kept0 b h n
    cases w : H1 b with
    | none => exact absurd w (I1.own b (I1.sub b h))
    | some o => rw [e b o n w, ← w1, w]
  · rcases List.mem_cons.mp h with rfl | h
    · exact .inr (I1.free0 hp)
    · exact I1.new b h
  · rcases List.mem_cons.mp h with rfl | h
    · rw [hl]; exact fun z => nomatch z
    · intro z
      cases w : H1 b with
      | none => exact I1.own b h w
      | some o =>
        by_cases hb : b = a
        · subst hb
          obtain ⟨d0, d1, sd, l, d4, ns, y, _⟩ := D2.ex
          rw [y] at z; cases z
        · rw [e b o (fun y => hb (Option.some.inj y).symm) w] at z
          cases z
  · cases h
    exact ⟨h3, D2⟩
  · obtain ⟨v, w1, w2⟩ := I1.dat j d h
    exact ⟨v, w1, dp_up st w2⟩
  · obtain ⟨r, us, w1, w2, w3, w4, w5⟩ := I1.lst j es h
    exact ⟨r, us, w1, List.mem_cons_of_mem _ w2, w3, e r _ (fun z => by rw [← Option.some.inj z] at w3; exact I1.own0 a h3 w3) w4, dpa_up st w5⟩
theorem elk_call1 {F : FL} {i : Nat} {ds : List PD} {P : List PD → Prop} (h : ρ[i]? = some (some .deck)) (ha : EvA K tr ρ (· = ds)) (hf : F ds P) : EvL K (tCall (SpKL K F) [] E (tCons (tVar i) tr)) ρ P := elk_call h ha fun es e => by rw [e]; exact hf
/-- a promise of a new list is one of data -/
theorem spP_of_L {F : FL} {G : FD} (h : ∀ ds P, G ds P → F ds fun es => P (.list es)) : ∀ vs H Q E, SpP K G vs H Q E → SpL K F vs H Q E := fun vs H Q E ⟨S, ds, P, own, hd, hf, k⟩ =>
  ⟨S, ds, _, own, hd, h ds P hf, fun es p us H' q e hp hl d2 => k _ _ H' q e (.lst (.inl (.inl (by rw [hid_out (fresh_out own hp)]; exact hl))) (dpa_up (hid_cons_le p S H') d2))⟩
end

/-! ### a def by its body -/
def startR (n : Nat) (es : List Ent) : Rho := es.map some ++ List.replicate (n - es.length) none
theorem start_len (N : List Str) (vs : List V) : (L2.start N vs).length = vs.length + (N.length - vs.length) := by unfold L2.start; rw [List.length_append, List.length_map, List.length_replicate]
theorem startR_get {n : Nat} {es : List Ent} {i : Nat} {x : Ent} (h : (startR n es)[i]? = some (some x)) : es[i]? = some x := by
  unfold startR at h
  by_cases hi : i < es.length
  · rw [List.getElem?_append_left (by rw [List.length_map]; exact hi), List.getElem?_map] at h
    cases e : es[i]? with
    | none => rw [e] at h; cases h
    | some y => rw [e] at h; cases h; rfl
  · rw [List.getElem?_append_right (by rw [List.length_map]; omega), List.getElem?_replicate] at h
    split at h <;> cases h
theorem start_get {N : List Str} {vs : List V} {i : Nat} {v : V} (h : vs[i]? = some v) : (L2.start N vs)[i]? = some (some v) := by
  have hi := (List.getElem?_eq_some_iff.mp h).1
  unfold L2.start
  rw [List.getElem?_append_left (by rw [List.length_map]; exact hi), List.getElem?_map, h]
  rfl
section
variable {K : PySem.W.Frag} {N : List Str} {H : Hp} {S : List Addr} {vs : List V} {ds : List PD}
theorem env_start (own : ∀ a ∈ S, H a ≠ none) (hd : DpAll K (Hid S H) vs ds) : EnvD K none S H S H (L2.start N vs) (startR N.length (ds.map .dat)) := by
  have l := dpa_len hd
  refine ⟨fun _ _ h _ => h, own, fun _ _ _ => rfl, fun _ h => h, fun _ h => .inl h, own, (fun a h => nomatch h), ?_, fun i d h => ?_, fun i es h => ?_, fun i h => ?_, fun i j es es' p h => ?_, fun i R h => ?_⟩
  · rw [start_len]
    unfold startR
    rw [List.length_append, List.length_map, List.length_map, List.length_replicate, l]
  · have h2 := startR_get h
    rw [List.getElem?_map] at h2
    cases e : ds[i]? with
    | none => rw [e] at h2; cases h2
    | some d' =>
      rw [e] at h2
      cases h2
      obtain ⟨v, h3, h4⟩ := dpa_get hd e
      exact ⟨v, start_get h3, h4⟩
  all_goals
    have h2 := startR_get h
    rw [List.getElem?_map] at h2
    cases e : ds[i]? with
    | none => rw [e] at h2; cases h2
    | some d' => rw [e] at h2; cases h2
theorem env_startK {dk : Addr} (own : ∀ a ∈ S, H a ≠ none) (hk : dk ∈ S) (hD : DeckAt K S H dk) (hd : DpAll K (Hid S H) vs ds) : EnvD K (some dk) S H S H (L2.start N (.ref dk :: vs)) (startR N.length (.deck :: ds.map .dat)) := by
  have l := dpa_len hd
  have cs : ∀ (i : Nat) (x : Ent), (startR N.length (.deck :: ds.map .dat))[i]? = some (some x) → (i = 0 ∧ x = .deck) ∨ ∃ j d, i = j + 1 ∧ ds[j]? = some d ∧ x = .dat d := by
    intro i x h
    have h2 := startR_get h
    cases i with
    | zero => exact .inl ⟨rfl, (Option.some.inj h2).symm⟩
    | succ j =>
      have h3 : (ds.map Ent.dat)[j]? = some x := h2
      rw [List.getElem?_map] at h3
      cases e : ds[j]? with
      | none => rw [e] at h3; cases h3
      | some d => rw [e] at h3; exact .inr ⟨j, d, rfl, e, (Option.some.inj h3).symm⟩
  refine ⟨fun _ _ h _ => h, own, fun _ _ _ => rfl, fun _ h => h, fun _ h => .inl h, own, fun a h => ?_, ?_, fun i d h => ?_, fun i es h => ?_, fun i h => ?_, fun i j es es' p h => ?_, fun i R h => ?_⟩
  · cases h; exact ⟨hk, hD⟩
  · rw [start_len]
    unfold startR
    rw [List.length_append, List.length_map, List.length_replicate]
    simp only [List.length_cons, List.length_map, l]
  · rcases cs i _ h with ⟨_, e⟩ | ⟨j, d', rfl, h1, e⟩
    · cases e
    · cases e
      obtain ⟨v, h3, h4⟩ := dpa_get hd h1
      exact ⟨v, start_get (by exact h3), h4⟩
  · rcases cs i _ h with ⟨_, e⟩ | ⟨j, d', rfl, h1, e⟩ <;> cases e
  · rcases cs i _ h with ⟨rfl, e⟩ | ⟨j, d', rfl, h1, e⟩
    · exact ⟨dk, rfl, start_get (by rfl)⟩
    · cases e
  · rcases cs i _ h with ⟨_, e⟩ | ⟨j, d', rfl, h1, e⟩ <;> cases e
  · rcases cs i _ h with ⟨_, e⟩ | ⟨j, d', rfl, h1, e⟩ <;> cases e
end
section
variable {K : PySem.W.Frag} {N : List Str} {ts : TS} {n : Nat}
theorem fin_same {S0 : List Addr} {H0 H : Hp} (own : ∀ a ∈ S0, H0 a ≠ none) (f : Fin K none S0 H0 H) : Same H0 H := fun a o h => by
  by_cases ha : a ∈ S0
  · rw [f.kept a ha (fun z => nomatch z)]; exact h
  · exact f.keep a o h ha
theorem fin_sameB {S0 : List Addr} {H0 H : Hp} {dk : Addr} (f : Fin K (some dk) S0 H0 H) : SameB (some dk) H0 H := fun a o n h => by
  by_cases ha : a ∈ S0
  · rw [f.kept a ha n]; exact h
  · exact f.keep a o h ha
theorem bodyP {F : FD} (h : ∀ ds P, F ds P → RunS K ts (startR N.length (ds.map .dat)) { nx := fun _ => P .none, rt := P, rl := fun es => P (.list es) }) (vs : List V) (H : Hp) (Q : VK) (E : XK) (hsp : SpP K F vs H Q E) :
    ts { nx := fun _ H' => Q .non H', rt := Q } (L2.start N vs) H := by
  obtain ⟨S, ds, P, own, hd, hf, k⟩ := hsp
  refine h ds P hf none S H S H (L2.start N vs) _ (env_start own hd) ⟨fun ρ' S' H' σ' o I st => ?_, fun _ _ _ _ z => z.elim, fun _ _ _ _ z => z.elim, fun d v H' o f d2 => k d v H' o (fin_same own f) d2, fun es p us H' o f hp hl d2 => ?_⟩
  · obtain ⟨f, _⟩ := I.fin
    exact k _ _ H' o (fin_same own f) .non
  · exact k _ _ H' o (fin_same own f) (.lst (.inl (.inl (by rw [hid_out (fresh_out own hp)]; exact hl))) (dpa_up (hid_cons_le p S H') d2))
theorem bodyL {F : FL} (h : ∀ ds P, F ds P → RunS K ts (startR N.length (ds.map .dat)) { rl := P }) (vs : List V) (H : Hp) (Q : VK) (E : XK) (hsp : SpL K F vs H Q E) :
    ts { nx := fun _ H' => Q .non H', rt := Q } (L2.start N vs) H := by
  obtain ⟨S, ds, P, own, hd, hf, k⟩ := hsp
  exact h ds P hf none S H S H (L2.start N vs) _ (env_start own hd) ⟨fun _ _ _ _ z => z.elim, fun _ _ _ _ z => z.elim, fun _ _ _ _ z => z.elim, fun _ _ _ z => z.elim, fun es p us H' o f hp hl d2 => k es p us H' o (fin_same own f) hp hl d2⟩
theorem bodyK {F : FD} (h : ∀ ds P, F ds P → RunS K ts (startR N.length (.deck :: ds.map .dat)) { nx := fun _ => P .none, rt := P, rl := fun es => P (.list es) }) (vs : List V) (H : Hp) (Q : VK) (E : XK) (hsp : SpK K F vs H Q E) :
    ts { nx := fun _ H' => Q .non H', rt := Q } (L2.start N vs) H := by
  obtain ⟨dk, us, S, ds, P, rfl, own, hdk, hD, hd, hf, k⟩ := hsp
  refine h ds P hf (some dk) S H S H (L2.start N _) _ (env_startK own hdk hD hd) ⟨fun ρ' S' H' σ' o I st => ?_, fun _ _ _ _ z => z.elim, fun _ _ _ _ z => z.elim, fun d v H' o f d2 => k d v H' o (fin_sameB f) (f.deck dk rfl) d2, fun es p us H' o f hp hl d2 => ?_⟩
  · obtain ⟨f, _⟩ := I.fin
    exact k _ _ H' o (fin_sameB f) (f.deck dk rfl) .non
  · exact k _ _ H' o (fin_sameB f) (f.deck dk rfl) (.lst (.inl (.inl (by rw [hid_out (fresh_out own hp)]; exact hl))) (dpa_up (hid_cons_le p S H') d2))
theorem lenP {F : FD} {ps : List Str} (h : ∀ ds P, F ds P → ds.length = ps.length) (vs : List V) (H : Hp) (Q : VK) (E : XK) (hsp : SpP K F vs H Q E) : vs.length = ps.length := by
  obtain ⟨S, ds, P, own, hd, hf, k⟩ := hsp
  rw [dpa_len hd]; exact h ds P hf
theorem lenL {F : FL} {ps : List Str} (h : ∀ ds P, F ds P → ds.length = ps.length) (vs : List V) (H : Hp) (Q : VK) (E : XK) (hsp : SpL K F vs H Q E) : vs.length = ps.length := by
  obtain ⟨S, ds, P, own, hd, hf, k⟩ := hsp
  rw [dpa_len hd]; exact h ds P hf
theorem lenK {F : FD} {ps : List Str} (h : ∀ ds P, F ds P → ds.length + 1 = ps.length) (vs : List V) (H : Hp) (Q : VK) (E : XK) (hsp : SpK K F vs H Q E) : vs.length = ps.length := by
  obtain ⟨dk, us, S, ds, P, rfl, own, hdk, hD, hd, hf, k⟩ := hsp
  rw [List.length_cons, dpa_len hd]; exact h ds P hf
end

/-! ### a callee -/
structure Callee (P : Program) (w : World) (K : PySem.W.Frag) (mg : Str → Option Value) (base : Heap) (k : Nat) (x : Str) (ps : List Str) (sp : Sp) : Prop where
  ex : ∃ (f : Addr) (fd : FuncData), FnG P w K mg base CX0 k f fd ps sp ∧ mg x = some (.ref f) ∧ PySem.W.keepIn K (.ref f) = true ∧ Binds K fd ps []
section
variable {P : Program} {w : World} {K : PySem.W.Frag} {mg : Str → Option Value} {base : Heap} {j k : Nat} {x : Str} {ps : List Str} {sp sp' : Sp}
theorem Callee.up (C : Callee P w K mg base j x ps sp) (h : j ≤ k) : Callee P w K mg base k x ps sp := by
  obtain ⟨f, fd, F, r⟩ := C.ex
  exact ⟨f, fd, F.mono h, r⟩
theorem Callee.imp (C : Callee P w K mg base k x ps sp) (h : ∀ vs H Q E, sp' vs H Q E → sp vs H Q E) : Callee P w K mg base k x ps sp' := by
  obtain ⟨f, fd, F, r⟩ := C.ex
  exact ⟨f, fd, F.imp h, r⟩
/-- from the def's own text -/
theorem callee {qual : Str} {params : Arguments} {body : List Stmt} {scope : Scope} {f : Addr} {fd : FuncData} {N : List Str} (F : FunD K x qual params body scope [] [] f fd) (hm : mg x = some (.ref f)) (S : FnScope N ps scope)
    (hbd : ∀ (kV doc pm : Value) (an : Option Addr) (cdv ct : Value) (us : List Value), us.length = ps.length → bindArgs (PySem.W.fnOf x qual params body scope .none kV doc pm an cdv ct) ⟨us, []⟩ = pure (ps.zip us))
    (len : ∀ vs H Q E, sp vs H Q E → vs.length = ps.length)
    (hb : ∀ (cdv : Value) (A : Around) (outer : List Env) (s : Shared) (H : Hp) (E : XK), Calm A → Room k (A.deeper (envOfC qual scope s.heap.objs.size f cdv)) →
      ∃ t, PSs (cxOf CX0 P w K mg base N qual scope f cdv A outer s H E).nox body t ∧ ∀ vs H Q E, sp vs H Q E → t { nx := fun _ H' => Q .non H', rt := Q } (L2.start N vs) H) :
    Callee P w K mg base (k + 1) x ps sp := by
  refine ⟨f, fd, okG F S len (fun cdv A outer s H vs Q E cl hr hsp => ?_), hm, F.kp, F.bindsN hbd⟩
  obtain ⟨t, ht, hq⟩ := hb cdv A outer s H E cl hr
  exact ⟨t, ht.nox, hq vs H Q E hsp⟩
end
section
variable {X : Cx} {k j : Nat} {ps : List Str} {sp : Sp} {x : Str} {p pos : Pos} {e : Expr} {es : List Expr} {t : TA}
theorem pe_fn (C : Callee X.prog X.w X.K X.mg X.base j x ps sp) (cl : Calm X.A) (hr : Room k X.A) (hg : Gl X x) (ha : PA X (e :: es) t) (hj : j ≤ k := by decide) (hdb : (x == ("__debug__" : Str)) = false := by decide)
    (he : starEach (e :: es) X.env = (false, eval e X.env) :: starEach es X.env := by rfl) (hpl : (backTo pos (starEach es X.env)).any (·.1) = false := by rfl) :
    PE X (.Call (.Name x p) (e :: es) [] pos) (tCall sp [] E0 t) := by
  obtain ⟨f, fd, F, hm, hk, hb⟩ := C.ex
  exact pe_callG (F.mono hj) cl hr hg hm hk hb .nil pass0 ha hdb he hpl
end
end Pk

/-! Operators and built-ins over data. -/
namespace Pk
open PySem PySem.Spec PyProof.Rows L2

section
variable {K : PySem.W.Frag} {ρ : Rho} {te ta tb : TE} {tt : TT} {tr : TA} {P : PD → Prop} {i j : Int}
theorem rv_I0 {g : Int → Int → V} {d : PD} (h : ∀ H, Dp K H (g i j) d) : RV K (rI0 g) (.int i) (.int j) (· = d) := fun S H v u Q own h1 h2 k => ⟨i, j, dp_toInt h1, dp_toInt h2, k d _ H rfl (fun _ _ z => z) (h _)⟩
theorem rv_I {C : Int → Int → Prop} {g : Int → Int → V} {d : PD} (hc : C i j) (h : ∀ H, Dp K H (g i j) d) : RV K (rI C g) (.int i) (.int j) (· = d) := fun S H v u Q own h1 h2 k => ⟨i, j, dp_toInt h1, dp_toInt h2, hc, k d _ H rfl (fun _ _ z => z) (h _)⟩
/-! ints, by expressions -/
theorem ev_add (ha : EvE K ta ρ (· = .int i)) (hb : EvE K tb ρ (· = .int j)) : EvE K (tOp (rI0 fun i j => .int (i + j)) ta tb) ρ (· = .int (i + j)) := ev_op1 ha hb (rv_I0 fun _ => .int _)
theorem ev_sub (ha : EvE K ta ρ (· = .int i)) (hb : EvE K tb ρ (· = .int j)) : EvE K (tOp (rI0 fun i j => .int (i - j)) ta tb) ρ (· = .int (i - j)) := ev_op1 ha hb (rv_I0 fun _ => .int _)
theorem ev_mul (ha : EvE K ta ρ (· = .int i)) (hb : EvE K tb ρ (· = .int j)) (hc : CMulW i j) : EvE K (tOp (rI CMulW fun i j => .int (i * j)) ta tb) ρ (· = .int (i * j)) := ev_op1 ha hb (rv_I hc fun _ => .int _)
theorem ev_mulS (ha : EvE K ta ρ (· = .int i)) (hb : EvE K tb ρ (· = .int j)) (hc : CMul i j) : EvE K (tOp (rI CMul fun i j => .int (i * j)) ta tb) ρ (· = .int (i * j)) := ev_op1 ha hb (rv_I hc fun _ => .int _)
theorem ev_fdiv (ha : EvE K ta ρ (· = .int i)) (hb : EvE K tb ρ (· = .int j)) (hc : CDivW i j) : EvE K (tOp (rI CDivW fun i j => .int (i / j)) ta tb) ρ (· = .int (i / j)) := ev_op1 ha hb (rv_I hc fun _ => .int _)
theorem ev_mod (ha : EvE K ta ρ (· = .int i)) (hb : EvE K tb ρ (· = .int j)) (hc : 0 < j) : EvE K (tOp (rI (fun _ j => 0 < j) fun i j => .int (i % j)) ta tb) ρ (· = .int (i % j)) := ev_op1 ha hb (rv_I hc fun _ => .int _)
theorem ev_lt (ha : EvE K ta ρ (· = .int i)) (hb : EvE K tb ρ (· = .int j)) : EvE K (tOp (rI0 fun i j => .bl (decide (i < j))) ta tb) ρ (· = .bool (decide (i < j))) := ev_op1 ha hb (rv_I0 fun _ => .bl _)
theorem ev_le (ha : EvE K ta ρ (· = .int i)) (hb : EvE K tb ρ (· = .int j)) : EvE K (tOp (rI0 fun i j => .bl (decide (i ≤ j))) ta tb) ρ (· = .bool (decide (i ≤ j))) := ev_op1 ha hb (rv_I0 fun _ => .bl _)
theorem ev_gt (ha : EvE K ta ρ (· = .int i)) (hb : EvE K tb ρ (· = .int j)) : EvE K (tOp (rI0 fun i j => .bl (decide (j < i))) ta tb) ρ (· = .bool (decide (j < i))) := ev_op1 ha hb (rv_I0 fun _ => .bl _)
theorem ev_ge (ha : EvE K ta ρ (· = .int i)) (hb : EvE K tb ρ (· = .int j)) : EvE K (tOp (rI0 fun i j => .bl (decide (j ≤ i))) ta tb) ρ (· = .bool (decide (j ≤ i))) := ev_op1 ha hb (rv_I0 fun _ => .bl _)
theorem dec_vi : decide (V.int i = V.int j) = decide (i = j) := by
  by_cases h : i = j
  · subst h; simp
  · rw [decide_eq_false h, decide_eq_false (fun z => h (V.int.inj z))]
theorem ev_eqI (ha : EvE K ta ρ (· = .int i)) (hb : EvE K tb ρ (· = .int j)) : EvE K (tOp rEq ta tb) ρ (· = .bool (decide (i = j))) := ev_op1 ha hb fun S H v u Q own h1 h2 k => by
  rw [dp_toInt h1, dp_toInt h2]
  exact ⟨rfl, k _ _ H rfl (fun _ _ z => z) (by rw [dec_vi]; exact .bl _)⟩
theorem ev_neI (ha : EvE K ta ρ (· = .int i)) (hb : EvE K tb ρ (· = .int j)) : EvE K (tOp rNe ta tb) ρ (· = .bool (!decide (i = j))) := ev_op1 ha hb fun S H v u Q own h1 h2 k => by
  rw [dp_toInt h1, dp_toInt h2]
  exact ⟨rfl, k _ _ H rfl (fun _ _ z => z) (by rw [dec_vi]; exact .bl _)⟩
theorem ev_neg (ha : EvE K ta ρ (· = .int i)) : EvE K (tUn (rU fun i => .int (-i)) ta) ρ (· = .int (-i)) := ev_un ha fun x e S H v Q own h1 k => by
  subst e
  exact ⟨i, dp_toInt h1, k _ _ H rfl (fun _ _ z => z) (.int _)⟩
/-! items -/
theorem atI_dp {H : Hp} {vs : List V} {ds : List PD} {n : Int} {d : PD} (h : DpAll K H vs ds) (hd : atI ds n = some d) : ∃ v, atI vs n = some v ∧ Dp K H v d := by
  unfold atI at hd ⊢
  obtain ⟨j, e1, e2⟩ := Option.bind_eq_some_iff.mp hd
  obtain ⟨v, f1, f2⟩ := dpa_get h e2
  exact ⟨v, by rw [dpa_len h, e1]; exact f1, f2⟩
theorem ev_ixT {ds : List PD} {d : PD} (ha : EvE K ta ρ (· = .tuple ds)) (hb : EvE K tb ρ (· = .int i)) (hd : atI ds i = some d) : EvE K (tOp (rIxT K) ta tb) ρ (· = d) := ev_op1 ha hb fun S H v u Q own h1 h2 k => by
  obtain ⟨a, xs, rfl, hs, hx⟩ := dp_toTup h1
  obtain ⟨z, e1, e2⟩ := atI_dp hx hd
  exact ⟨a, xs, i, z, rfl, dp_toInt h2, seqT (hid_le S H) hs, e1, k d z H rfl (fun _ _ z => z) e2⟩
theorem ev_ixL {ds : List PD} {d : PD} (ha : EvE K ta ρ (· = .list ds)) (hb : EvE K tb ρ (· = .int i)) (hd : atI ds i = some d) : EvE K (tOp (rIxL K) ta tb) ρ (· = d) := ev_op1 ha hb fun S H v u Q own h1 h2 k => by
  obtain ⟨a, xs, rfl, hs, hx⟩ := dp_toLst h1
  obtain ⟨z, e1, e2⟩ := atI_dp hx hd
  exact ⟨a, xs, i, z, rfl, dp_toInt h2, (hid_le S H).seq hs, e1, k d z H rfl (fun _ _ z => z) e2⟩
/-! tuples -/
theorem ev_catT {xs ys : List PD} (ha : EvE K ta ρ (· = .tuple xs)) (hb : EvE K tb ρ (· = .tuple ys)) (hl : xs.length + ys.length ≤ 100000) : EvE K (tOp (rCatA K) ta tb) ρ (· = .tuple (xs ++ ys)) := ev_op1 ha hb fun S H v u Q own h1 h2 k => by
  obtain ⟨a, vs, rfl, hs, hx⟩ := dp_toTup h1
  obtain ⟨b, us, rfl, hs', hy⟩ := dp_toTup h2
  have l1 := dpa_len hx
  have l2 := dpa_len hy
  refine ⟨a, b, vs, us, rfl, rfl, seqT (hid_le S H) hs, seqT (hid_le S H) hs', Nat.le_trans (by omega) (show 100000 ≤ sizeLine by decide), fun e => ?_, fun e1 e2 => ?_, fun e1 e2 p hp => ?_⟩
  · subst e
    cases hx
    exact k _ _ H rfl (fun _ _ z => z) h2
  · subst e2
    cases hy
    rw [List.append_nil] at k
    exact k _ _ H rfl (fun _ _ z => z) h1
  · have e := same_new (o := .tup (vs ++ us)) hp
    exact k _ _ _ rfl e (.tup (.inl (.inl (by rw [hid_out (fresh_out own hp), upd_same]))) (dpa_up (hid_same e) (dpa_app hx hy)))
theorem ev_repT {xs : List PD} (ha : EvE K ta ρ (· = .tuple xs)) (hb : EvE K tb ρ (· = .int i)) (hx : xs ≠ []) (h2 : 2 ≤ i) (h3 : i ≤ 1000) (hl : xs.length ≤ 1000) : EvE K (tOp (rRepT K) ta tb) ρ (· = .tuple (List.replicate i.toNat xs).flatten) := ev_op1 ha hb fun S H v u Q own h1 h2' k => by
  obtain ⟨a, vs, rfl, hs, hd⟩ := dp_toTup h1
  have l1 := dpa_len hd
  refine ⟨a, i, vs, rfl, dp_toInt h2', seqT (hid_le S H) hs, fun e => ?_, h2, h3, by omega, fun p hp => ?_⟩
  · subst e
    cases hd
    exact hx rfl
  · have e := same_new (o := .tup (List.replicate i.toNat vs).flatten) hp
    exact k _ _ _ rfl e (.tup (.inl (.inl (by rw [hid_out (fresh_out own hp), upd_same]))) (dpa_up (hid_same e) (dpa_reps _ hd)))
/-! == of data -/
theorem ev_eqD {d e : PD} (ha : EvE K ta ρ (· = d)) (hb : EvE K tb ρ (· = e)) (s1 : SeqAt.shaped d = true) (s2 : SeqAt.shaped e = true) : EvE K (tOp (rEqD K) ta tb) ρ (· = .bool (PyData.eqv d e)) := ev_op1 ha hb fun S H v u Q own h1 h2 k =>
  ⟨d, e, dp_up (hid_le S H) h1, dp_up (hid_le S H) h2, s1, s2, k _ _ H rfl (fun _ _ z => z) (.bl _)⟩
/-! built-ins -/
theorem ev_abs (ha : EvE K ta ρ (· = .int i)) : EvE K (tCB (fun xs H Q => ∃ i, xs = [.int i] ∧ Q (.int (if i < 0 then -i else i)) H) (tCons ta tNil)) ρ (· = .int (if i < 0 then -i else i)) := ev_cb (ea_one ha ea_nil) fun xs e S H vs Q own h1 k => by
  subst e
  cases h1 with
  | cons a b => cases b; exact ⟨i, by rw [dp_toInt a], k _ _ H rfl (fun _ _ z => z) (.int _)⟩
theorem ev_intI (ha : EvE K ta ρ (· = .int i)) : EvE K (tCB (fun xs H Q => (∃ i, xs = [.int i] ∧ Q (.int i) H) ∨ ∃ k, xs = [.bl k] ∧ Q (.int (if k then 1 else 0)) H) (tCons ta tNil)) ρ (· = .int i) := ev_cb (ea_one ha ea_nil) fun xs e S H vs Q own h1 k => by
  subst e
  cases h1 with
  | cons a b => cases b; exact .inl ⟨i, by rw [dp_toInt a], k _ _ H rfl (fun _ _ z => z) (.int _)⟩
theorem ev_intB {b : Bool} (ha : EvE K ta ρ (· = .bool b)) : EvE K (tCB (fun xs H Q => (∃ i, xs = [.int i] ∧ Q (.int i) H) ∨ ∃ k, xs = [.bl k] ∧ Q (.int (if k then 1 else 0)) H) (tCons ta tNil)) ρ (· = .int (if b then 1 else 0)) := ev_cb (ea_one ha ea_nil) fun xs e S H vs Q own h1 k => by
  subst e
  cases h1 with
  | cons a c => cases c; exact .inr ⟨b, by rw [dp_toBl a], k _ _ H rfl (fun _ _ z => z) (.int _)⟩
theorem ev_gcd (ha : EvE K ta ρ (· = .int i)) (hb : EvE K tb ρ (· = .int j)) : EvE K (tCB rGcd (tCons ta (tCons tb tNil))) ρ (· = .int ((Nat.gcd i.natAbs j.natAbs : Nat) : Int)) := ev_cb (ea_one ha (ea_one hb ea_nil)) fun xs e S H vs Q own h1 k => by
  subst e
  cases h1 with
  | cons a c => cases c with
    | cons b c => cases c; exact ⟨i, j, by rw [dp_toInt a, dp_toInt b], k _ _ H rfl (fun _ _ z => z) (.int _)⟩
abbrev rLenQ (K : PySem.W.Frag) : List V → Hp → VK → Prop := fun xs H Q => ∃ p ys, xs = [.ref p] ∧ (SqL K H p ys ∨ SqT K H p ys) ∧ Q (.int ys.length) H
theorem ev_lenL {ds : List PD} (ha : EvE K ta ρ (· = .list ds)) : EvE K (tCB (rLenQ K) (tCons ta tNil)) ρ (· = .int ds.length) := ev_cb (ea_one ha ea_nil) fun xs e S H vs Q own h1 k => by
  subst e
  cases h1 with
  | cons a c =>
    cases c
    obtain ⟨p, ys, rfl, hs, hd⟩ := dp_toLst a
    exact ⟨p, ys, rfl, .inl ((hid_le S H).seq hs), by rw [dpa_len hd]; exact k _ _ H rfl (fun _ _ z => z) (.int _)⟩
theorem ev_lenT {ds : List PD} (ha : EvE K ta ρ (· = .tuple ds)) : EvE K (tCB (rLenQ K) (tCons ta tNil)) ρ (· = .int ds.length) := ev_cb (ea_one ha ea_nil) fun xs e S H vs Q own h1 k => by
  subst e
  cases h1 with
  | cons a c =>
    cases c
    obtain ⟨p, ys, rfl, hs, hd⟩ := dp_toTup a
    exact ⟨p, ys, rfl, .inr (seqT (hid_le S H) hs), by rw [dpa_len hd]; exact k _ _ H rfl (fun _ _ z => z) (.int _)⟩
abbrev rListQ (K : PySem.W.Frag) : List V → Hp → VK → Prop := fun xs H Q => ∃ p ys, xs = [.ref p] ∧ (SqL K H p ys ∨ SqT K H p ys) ∧ ∀ l, H l = none → Q (.ref l) (upd H l (.lst ys))
theorem el_listL {ds : List PD} (ha : EvE K ta ρ (· = .list ds)) : EvL K (tCB (rListQ K) (tCons ta tNil)) ρ (· = ds) := el_cb (ea_one ha ea_nil) fun xs e S H vs Q own h1 k => by
  subst e
  cases h1 with
  | cons a c =>
    cases c
    obtain ⟨p, ys, rfl, hs, hd⟩ := dp_toLst a
    exact ⟨p, ys, rfl, .inl ((hid_le S H).seq hs), fun l hl => k ds l ys _ rfl (same_new hl) hl upd_same (dpa_up (hid_new (same_new hl) hl) hd)⟩
theorem el_listT {ds : List PD} (ha : EvE K ta ρ (· = .tuple ds)) : EvL K (tCB (rListQ K) (tCons ta tNil)) ρ (· = ds) := el_cb (ea_one ha ea_nil) fun xs e S H vs Q own h1 k => by
  subst e
  cases h1 with
  | cons a c =>
    cases c
    obtain ⟨p, ys, rfl, hs, hd⟩ := dp_toTup a
    exact ⟨p, ys, rfl, .inr (seqT (hid_le S H) hs), fun l hl => k ds l ys _ rfl (same_new hl) hl upd_same (dpa_up (hid_new (same_new hl) hl) hd)⟩
abbrev rTupQ (K : PySem.W.Frag) : List V → Hp → VK → Prop := fun xs H Q => ∃ p ys, xs = [.ref p] ∧ ((SqL K H p ys ∧ ∀ l, H l = none → Q (.ref l) (upd H l (.tup ys))) ∨ (SqT K H p ys ∧ Q (.ref p) H))
theorem ev_tupN {P : List PD → Prop} (ha : EvE K ta ρ fun d => ∃ ds, d = .list ds ∧ P ds) : EvE K (tCB (rTupQ K) (tCons ta tNil)) ρ fun d => ∃ ds, d = .tuple ds ∧ P ds := ev_cb (ea_cons ha fun _ _ => ea_nil) fun xs ⟨x, rs, e, ⟨ds, e2, p⟩, e3⟩ S H vs Q own h1 k => by
  subst e3 e2 e
  cases h1 with
  | cons a c =>
    cases c
    obtain ⟨q, ys, rfl, hs, hd⟩ := dp_toLst a
    exact ⟨q, ys, rfl, .inl ⟨(hid_le S H).seq hs, fun l hl => k (.tuple ds) _ _ ⟨ds, rfl, p⟩ (same_new hl) (.tup (.inl (.inl (by rw [hid_out (fresh_out own hl), upd_same]))) (dpa_up (hid_same (same_new hl)) hd))⟩⟩
theorem ev_tup_ {ds : List PD} (ha : EvE K ta ρ (· = .list ds)) : EvE K (tCB (rTupQ K) (tCons ta tNil)) ρ (· = .tuple ds) := (ev_tupN (P := (· = ds)) (ha.imp fun d e => ⟨ds, e, rfl⟩)).imp fun d ⟨es, h1, h2⟩ => by rw [h1, h2]
/-! lists joined, repeated -/
/-- a list of one's own and a new one -/
theorem el_catO {n : Nat} {ds es : List PD} (h : ρ[n]? = some (some (.own ds))) (hb : EvL K tb ρ (· = es)) (hl : ds.length + es.length ≤ 100000) : EvL K (tOp rCat (tVar n) tb) ρ (· = ds ++ es) := fun dk S0 H0 S H σ Q I k => by
  obtain ⟨q, vs, h1, h2, h3, h4, h5⟩ := I.lst n ds h
  refine ⟨_, h1, hb dk S0 H0 S H σ _ I fun es' p us H1 e I1 s1 hp hl1 hd => ?_⟩
  subst e
  obtain ⟨q', vs', g1, g2, g3, g4, g5⟩ := I1.lst n ds h
  rw [h1] at g1
  cases g1
  have l1 := dpa_len g5
  have l2 := dpa_len hd
  refine ⟨q, p, vs', us, rfl, rfl, g4, hl1, Nat.le_trans (by omega) (show 100000 ≤ sizeLine by decide), fun r hr => ?_⟩
  have e := same_new (o := .lst (vs' ++ us)) hr
  have I0 := I1.unhide I
  refine k _ r (vs' ++ us) _ rfl (I0.hideS e hr (by rw [upd_same]; exact fun z => nomatch z)) (s1.trans (.of_same e)) (I0.free s1 hr) upd_same (dpa_up (hid_new e hr) (dpa_app (dpa_up (hid_cons_le p S H1) g5) (dpa_up (hid_cons_le p S H1) hd)))
/-- a new list, repeated -/
theorem el_rep {ds : List PD} (ha : EvL K ta ρ (· = ds)) (hb : EvE K tb ρ (· = .int i)) (h1 : 0 ≤ i) (h2 : i ≤ 1000000) (hl : ds.length * i.toNat ≤ 100000) : EvL K (tOp rRep ta tb) ρ (· = (List.replicate i.toNat ds).flatten) := fun dk S0 H0 S H σ Q I k =>
  ha dk S0 H0 S H σ _ I fun es p us H1 e I1 s1 hp hl1 hd => by
    subst e
    refine hb dk S0 H0 (p :: S) H1 σ _ I1 fun x v H2 e2 I2 s2 d2 => ?_
    subst e2
    have l2 := dpa_len hd
    have hpk : dk ≠ some p := fun z => I1.own0 p (I1.deck p z).1 (I.free0 hp)
    refine ⟨p, i, us, rfl, dp_toInt d2, s2 p _ hpk hl1, by omega, by omega, Nat.le_trans (by rw [l2]; exact hl) (show 100000 ≤ sizeLine by decide), fun r hr => ?_⟩
    have e := same_new (o := .lst (List.replicate i.toNat us).flatten) hr
    have I0 := I2.unhide I
    have hd2 := dpa_up (hid_cons_le p S H2) (dpa_up (I1.hid s2) hd)
    exact k _ r _ _ rfl (I0.hideS e hr (by rw [upd_same]; exact fun z => nomatch z)) ((s1.trans s2).trans (.of_same e)) (I0.free (s1.trans s2) hr) upd_same (dpa_up (hid_new e hr) (dpa_reps _ hd2))
/-! the place of an item -/
theorem ev_index {ds : List PD} {d z : PD} {n : Nat} (ha : EvE K ta ρ (· = .list ds)) (hb : EvE K tb ρ (· = d)) (s1 : SeqAt.shaped (.list ds) = true) (s2 : SeqAt.shaped d = true) (hz : ds[n]? = some z) (he : PyData.eqv z d = true)
    (hn : ∀ (m : Nat) (z' : PD), m < n → ds[m]? = some z' → PyData.eqv z' d = false) : EvE K (tBM K "list" (rIndexD K) ta (tCons tb tNil)) ρ (· = .int (n : Nat)) := fun dk S0 H0 S H σ Q I k =>
  ha dk S0 H0 S H σ _ I fun x v H1 e I1 t1 d1 => by
    subst e
    obtain ⟨a, xs, rfl, hs, hx⟩ := dp_toLst d1
    refine ⟨.inl ⟨rfl, xs, (hid_le S H1).seq hs⟩, hb dk S0 H0 S H1 σ _ I1 fun y u H2 e I2 t2 d2 => ?_⟩
    subst e
    exact ⟨a, u, _, ds, n, z, rfl, rfl, dp_up (hid_le S H2) (dp_up (I1.hid t2) d1), dp_up (hid_le S H2) d2, s1, s2, hz, he, hn, k _ _ H2 rfl I2 (t1.trans t2) (.int _)⟩
/-! repr -/
/-- a name that a written namespace does not hold -/
theorem ns_none {K : PySem.W.Frag} {h : Heap} {a : Addr} {m : Str → Option Value} {n : Str} (X : K.In h) (G : h.Ns a m) (e : PySem.W.nsIn K a n = some none) : m n = none := by
  obtain ⟨o, es, ep, ho, hd, _, hf⟩ := G
  unfold PySem.W.nsIn at e
  cases q : K.lookup a with
  | none => rw [q] at e; cases e
  | some ob =>
    rw [q] at e
    have z := X _ _ q
    rw [ho] at z
    cases z
    obtain ⟨c, dd, dt, sl⟩ := o
    have hd' : dt = .dict es ep := hd
    subst hd'
    have e2 : (match es.toList.find? (·.key.isStr n) with
      | some e => some (some e.val)
      | none => if es.toList.any (·.refKey) then none else some none) = some none := e
    have hf2 := hf n
    cases w : es.toList.find? (·.key.isStr n) with
    | some en => rw [w] at e2; cases e2
    | none =>
      have e3 : (es.toList.find? (·.key.isStr n)) = es.find? (·.key.isStr n) := Array.find?_toList
      have e4 : nsFind es n = none := by
        unfold nsFind findBy
        rw [← e3, w]
        rfl
      exact hf2.symm.trans e4
def rRepr (K : PySem.W.Frag) : List V → Hp → VK → Prop := fun xs H Q => ∃ (v : V) (d : PD) (B : Nat), xs = [v] ∧ Dp K H v d ∧ 0 < B ∧ B ≤ 12000 ∧ fine B d = true ∧ cost B d ≤ sizeLine ∧ d.depth ≤ 50 ∧ ((∃ a, v = .ref a) ∨ ∃ i, v = .int i) ∧ Q (.str d.shown) H
theorem call_reprD {X : Cx} (cl : Calm X.A) (hu : X.A.units + 60 < cLine) (hd : PySem.W.nsIn X.K cStatics "sys.int_max_str_digits" = some none) : CallR X (.builtin "repr") (rRepr X.K) := by
  intro pins s σ H vs us Q I r h
  obtain ⟨v, d, B, rfl, hD, hB, hB2, hf, hz, hdp, hv, q⟩ := h
  have nd : s.heap.NoDigits := by
    obtain ⟨m, hm, _⟩ := I.mod.nolimit
    have hm2 := hm.keeps I.bk
    exact ⟨m, hm2, ns_none I.kIn hm2 hd⟩
  obtain ⟨u, rfl, ru⟩ := vals1 r
  obtain ⟨as, rd⟩ := Dp.reads I d v u hD ru
  rcases hv with ⟨a, rfl⟩ | ⟨i, rfl⟩
  · cases ru
    refine reprD hB hB2 nd rd hf hz ⟨a, rfl⟩ cl (by omega) fun h' t tk hk => ?_
    exact ⟨.str _, H, I.kept hk, ⟨_, rfl⟩, q⟩
  · cases hD
    obtain ⟨t, rfl⟩ := ru
    refine reprI hB2 nd (of_decide_eq_true (by simpa only [fine] using hf)) (by omega) fun t tk => ?_
    have e : (toString i : String) = (toString i : String) := rfl
    exact ⟨.str _, H, I.tok _, ⟨_, rfl⟩, by simpa only [PyData.shown] using q⟩
theorem ev_repr {d : PD} {B : Nat} (ha : EvE K ta ρ (· = d)) (hB : 0 < B) (hB2 : B ≤ 12000) (hf : fine B d = true) (hz : cost B d ≤ sizeLine) (hdp : d.depth ≤ 50) (hk : (∃ xs, d = .list xs) ∨ (∃ xs, d = .tuple xs) ∨ ∃ i, d = .int i) :
    EvE K (tCB (rRepr K) (tCons ta tNil)) ρ (· = .str d.shown) := ev_cb (ea_one ha ea_nil) fun xs e S H vs Q own h1 k => by
  subst e
  cases h1 with
  | cons a c =>
    cases c
    refine ⟨_, d, B, rfl, dp_up (hid_le S H) a, hB, hB2, hf, hz, hdp, ?_, k _ _ H rfl (fun _ _ z => z) (.str _)⟩
    rcases hk with ⟨xs, rfl⟩ | ⟨xs, rfl⟩ | ⟨i, rfl⟩
    · obtain ⟨a, _, e, _⟩ := dp_toLst a; exact .inl ⟨a, e⟩
    · obtain ⟨a, _, e, _⟩ := dp_toTup a; exact .inl ⟨a, e⟩
    · exact .inr ⟨i, dp_toInt a⟩
theorem ev_eqS {x y : Str} (ha : EvE K ta ρ (· = .str x)) (hb : EvE K tb ρ (· = .str y)) : EvE K (tOp rEq ta tb) ρ (· = .bool (decide (x = y))) := ev_op1 ha hb fun S H v u Q own h1 h2 k => by
  cases h1
  cases h2
  refine ⟨rfl, k _ _ H rfl (fun _ _ z => z) ?_⟩
  have : decide (V.str x = V.str y) = decide (x = y) := by
    by_cases h : x = y
    · subst h; simp
    · rw [decide_eq_false h, decide_eq_false (fun z => h (V.str.inj z))]
  rw [this]
  exact .bl _
end
/-! short names for readings -/
abbrev rAddI : R2 := rI0 fun i j => .int (i + j)
abbrev rSubI : R2 := rI0 fun i j => .int (i - j)
abbrev rMulS : R2 := rI CMul fun i j => .int (i * j)
abbrev rMulW : R2 := rI CMulW fun i j => .int (i * j)
abbrev rDivW : R2 := rI CDivW fun i j => .int (i / j)
abbrev rModI : R2 := rI (fun _ j => 0 < j) fun i j => .int (i % j)
abbrev rLtI : R2 := rI0 fun i j => .bl (decide (i < j))
abbrev rLeI : R2 := rI0 fun i j => .bl (decide (i ≤ j))
abbrev rGtI : R2 := rI0 fun i j => .bl (decide (j < i))
abbrev rGeI : R2 := rI0 fun i j => .bl (decide (j ≤ i))
abbrev rNegI : V → Hp → VK → Prop := rU fun i => .int (-i)
abbrev rAbsQ : List V → Hp → VK → Prop := fun xs H Q => ∃ i, xs = [.int i] ∧ Q (.int (if i < 0 then -i else i)) H
abbrev rIntQ : List V → Hp → VK → Prop := fun xs H Q => (∃ i, xs = [.int i] ∧ Q (.int i) H) ∨ ∃ k, xs = [.bl k] ∧ Q (.int (if k then 1 else 0)) H
abbrev tTruK (K : PySem.W.Frag) (te : TE) : TT := fun σ H Q => te σ H fun x H1 => ∃ k, TruV K x H1 k ∧ Q k H1
end Pk

/-! xs[i] += e for lists; dict comprehensions with tuple keys; the hook. -/
namespace Pk
open PySem PySem.Spec PyProof.Rows L2
theorem hu60 {k : Nat} {A : Around} (hr : Room k A) : A.units + 60 < cLine := by have := hr.units; omega
theorem hu65 {k : Nat} {A : Around} (hr : Room k A) : A.units + 65 < cLine := by have := hr.un; omega
/-- xs[i] as the read of xs[i] += e -/
theorem get_list {X : Cx} : PGet X (rIxL X.K) := by
  rintro pins s σ H _ _ v u Q I rx ry ⟨p, xs, i, z, rfl, rfl, hq, he, q⟩
  cases rx
  obtain ⟨tk, rfl⟩ := ry
  obtain ⟨its, r, pl, hz⟩ := I.list hq
  obtain ⟨j, a1, a2, a3, a4, a5⟩ := atI_get he
  obtain ⟨w, ew, rw'⟩ := r.get a2
  have len := r.length
  have big := line63
  have done : EP X pins σ Q w s := ⟨z, H, I, rw', q⟩
  by_cases pos : 0 ≤ i
  · have hj : i.toNat = j := Option.some.inj ((seqIndex_of pos a5).symm.trans a1)
    exact wpAny_getItem_list pl.isList pos (by omega) (by rw [hj, List.getElem?_toArray]; exact ew) done
  · have hj : (i + (its.toArray.size : Int)).toNat = j := by
      rw [List.size_toArray, ← len]
      exact Option.some.inj ((seqIndex_neg (by omega) a4).symm.trans a1)
    exact wpAny_getItem_list_neg pl.isList (by omega) (by rw [List.size_toArray]; omega) (by omega) (by rw [hj, List.getElem?_toArray]; exact ew) done

/-! ### {k: v for ..}, keys tuples -/
/-- what a comprehension's turn lays into its dict -/
def LayT (H : Hp) (D : Addr) (y z : V) (H' : Hp) : Prop := ∃ kvs k b, H D = some (.dT kvs) ∧ y = .ref b ∧ H b = some (.tup (k.map kV)) ∧ kvs.length < sizeLine ∧ H' = upd H D (.dT (putK kvs k z))
theorem lay_dict {X : Cx} {pins : List (Addr × Obj)} {σ : L2.St} {H H' : Hp} {s : Shared} {E : Value → Shared → Prop} {D : Addr} {y z : V} {u r : Value} {Q : Unit → Shared → Prop} (hu : X.A.units + 1 < cLine) (I : Inv X pins σ H s) (g : LayT H D y z H')
    (ry : RelV y u) (rv : RelV z r) (h : ∀ s', Inv X pins σ H' s' → Q () s') : wpAny (model X.prog X.w) X.A (dictSet D u r) Q E s := by
  obtain ⟨kvs, k, b, hD, rfl, hb, hl, rfl⟩ := g
  cases ry
  obtain ⟨z1, z2, xs, rel, dd⟩ := dt_of I.hok hD
  have n1 : xs.length ≤ sizeLine := (Paired.length rel) ▸ z1
  have n2 := length_putK kvs k z
  refine wpAny_dictSet_heap (hsz := n1) (Nat.lt_of_succ_lt hu) (key_of I.hok hb) dd fun h' d2 same => h _ ?_
  obtain ⟨o, es, ep, e1, e2, e3, e4, _, e5⟩ := d2
  refine d_write I (by rw [hD]; trivial) same ⟨o, e1⟩ ⟨by omega, z2, _, (rel.put k hb rv).keeps fun c ys ec => ?_, o, es, ep, e1, e2, e3, e4, e5⟩
  rw [upd_ne (ne_of ec hD (fun z => nomatch z)), ec]
def tDcT (wi : TI) (g : TG) (tt : TT) (tk tv : TE) (vs : List Nat) : TE := fun σ H Q => wi σ H fun J H1 => ∀ D, H1 D = none → ∃ W : Nat → Nat → Hp → Prop, (∃ m, W 0 m (upd H1 D (.dT []))) ∧
  ∀ i m H, W i m H → (J.stop i H ∧ Q (.ref D) H) ∨ (J.go i H ∧ ∃ Nx : Hp → Prop, (∀ H', Nx H' → ∃ m', m' < m ∧ W (i + 1) m' H') ∧
    ∀ x H', J.yld i H x H' → g x (wipe σ vs) H' fun σ2 H2 => wipe σ2 vs = wipe σ vs ∧ tt σ2 H2 fun b H3 => if b = true then tk σ2 H3 fun y H4 => tv σ2 H4 fun z H5 => ∃ H6, LayT H5 D y z H6 ∧ Nx H6 else Nx H3)
section
variable {X : Cx}
theorem pe_dcT {kx vx tg iter : Expr} {ifs : List Expr} {scope : Scope} {own : List (Str × Nat)} {pos : Pos} {wi : TI} {g : TG} {tt : TT} {tk tv : TE} (hu : X.A.units + 1 < cLine) (calm : X.calm = true) (nd : X.N.Nodup) (pi : PI X tg iter wi) (ok : BlkOk X.N X.env.scope scope own)
    (bg : ∀ (s : Shared) (H : Hp) (C : Addr) (cl : List (Str × Addr)) (ch : List Addr), PG (X.blk s H scope (compEnvC scope cl C X.env) ch) tg g) (bt : ∀ (s : Shared) (H : Hp) (C : Addr) (cl : List (Str × Addr)) (ch : List Addr), PTs (X.blk s H scope (compEnvC scope cl C X.env) ch) ifs tt)
    (bk : ∀ (s : Shared) (H : Hp) (C : Addr) (cl : List (Str × Addr)) (ch : List Addr), PE (X.blk s H scope (compEnvC scope cl C X.env) ch) kx tk) (bv : ∀ (s : Shared) (H : Hp) (C : Addr) (cl : List (Str × Addr)) (ch : List Addr), PE (X.blk s H scope (compEnvC scope cl C X.env) ch) vx tv)
    (folded : ∀ x, foldedSetIterable iter X.env x = pure x := by intro _; rfl) : PE X (.DictComp kx vx [⟨tg, iter, ifs, 0⟩] scope pos) (tDcT wi g tt tk tv (own.map (·.2))) := by
  constructor
  intro pins s σ H Q I h
  rw [arm_eval_DictComp]
  have cells : ∀ y ∈ scope.names, y.2 = .free → ∃ c, X.env.cells.lookup y.1 = some c := fun y hy e => I.ok.has _ (ok.free y hy e)
  refine wpAny_comprehension_free (use := none) rfl folded (closure_ok cells) ok.kind (fun y hy e => by rw [ok.uniq y hy, e]) (thn (pi.run pins s σ H _ I h) fun xv s1 hx => thn hx fun itv s2 h2 => ?_)
  obtain ⟨it, ch, tn, J, H2, rfl, I2, T, st2, f2, turnW⟩ := h2
  refine wpAny_newObj_type (newEnv_comp ?_)
  have fresh : H2 s2.heap.objs.size = none := I2.hok.fresh (Nat.le_refl _)
  obtain ⟨W, ⟨m0, w0⟩, turn⟩ := turnW s2.heap.objs.size fresh
  have I3 : Inv X pins σ (upd H2 s2.heap.objs.size (.dT [])) { s2 with heap := s2.heap.push { cls := .type "dict", data := .dict #[] } } :=
    I2.laid (t' := s2.toks) (fun _ _ e => Heap.get?_push_of_some _ e) (Nat.le_refl _) (dt_empty s2.heap I2.big)
  have old : ∀ b ∈ ch, b < s2.heap.objs.size := fun b hb => by
    obtain ⟨_, e, _⟩ := T.obj _ _ st2 b hb
    exact Heap.lt_size e
  generalize hD : s2.heap.objs.size = D at *
  generalize eS : ({ s2 with heap := s2.heap.push { cls := .type "dict", data := .dict #[] } } : Shared) = s3 at *
  have hp : s3.heap = s2.heap.push { cls := .type "dict", data := .dict #[] } := by rw [← eS]
  have f3 : ∀ b ∈ ch, FpOk X pins (upd H2 D (.dT [])) b ∧ b < s3.heap.objs.size := fun b hb => by
    have lt := old b hb
    refine ⟨⟨?_, (f2 b hb).2⟩, by rw [hp, Heap.size_push]; exact Nat.lt_succ_of_lt (by first | exact lt | (rw [hD]; exact lt))⟩
    rw [upd_ne (Nat.ne_of_lt lt), (f2 b hb).1]
  have st3 : tn 0 s3.heap := T.keep _ _ _ st2 fun b _ o e => hp ▸ Heap.get?_push_of_some _ e
  have I4 := block_start I3 ok nd f3
  generalize eC : s3.heap.objs.size = C at *
  generalize eL : cellsFrom (C + 1) scope.names (cloFrom X.env.cells scope.names []) = cl at *
  have kg := bg s3 (upd H2 D (.dT [])) C cl ch
  have kt := bt s3 (upd H2 D (.dT [])) C cl ch
  have kk := bk s3 (upd H2 D (.dT [])) C cl ch
  have kv := bv s3 (upd H2 D (.dT [])) C cl ch
  show codeAny _ _ (.compStart (.DictComp kx vx [⟨tg, iter, ifs, 0⟩] scope pos) 0 (.ref it) (.ref D) (compEnvC scope cl C X.env)) (compPost (model X.prog X.w) X.A X.xe none (EP X pins σ Q) (.ref D) C) { s3 with heap := pushCells (s3.heap.push { cls := .type "dict", data := .dict #[] }) scope.names }
  have none3 : ∀ b ∈ ch, (upd H2 D (.dT [])) b = none := fun b hb => (f3 b hb).1.1
  generalize eE : compEnvC scope cl C X.env = ce at *
  have loc : ce.locals = C := by rw [← eE]; rfl
  generalize eH : upd H2 D (.dT []) = H3 at *
  generalize eP : ({ s3 with heap := pushCells (s3.heap.push { cls := .type "dict", data := .dict #[] }) scope.names } : Shared) = s4 at *
  have st4 : tn 0 s4.heap := T.keep _ _ _ st3 fun b _ o e => by rw [← eP]; exact pushCells_keeps _ _ _ _ (Heap.get?_push_of_some _ e)
  have fixd : ∀ {τ : L2.St} {G : Hp} {t : Shared}, Inv (X.blk s3 H3 scope ce ch) [] τ G t → (∀ b ∈ ch, G b = none) → ∀ b ∈ ch, FpOk (X.blk s3 H3 scope ce ch) [] G b := fun {τ G t} J n b hb =>
    ⟨n b hb, (J.ok.exf b hb).1, J.ok.exfs b hb, .inl hb, fun x c e => (J.ok.exf b hb).2 x c e, fun p hp => absurd (show p ∈ ([] : List (Addr × Obj)) ++ [] from hp) (by simp)⟩
  have all : codeAny (model X.prog X.w) X.A (.compLoop (.DictComp kx vx [⟨tg, iter, ifs, 0⟩] scope pos) 0 (.ref it) (.ref D) ce) (compPost (model X.prog X.w) X.A X.xe none (EP X pins σ Q) (.ref D) C) s4 := by
    refine compLoop_anyD (fun n t => ∃ i G, Inv (X.blk s3 H3 scope ce ch) [] (wipe σ (own.map (·.2))) G t ∧ tn i t.heap ∧ (∀ b ∈ ch, G b = none) ∧ W i n G) ?_ m0 ⟨0, H3, I4, st4, none3, w0⟩
    rintro n s5 ⟨i, H5, I5, st5, n5, w5⟩
    rcases turn i n H5 w5 with ⟨stop, done⟩ | ⟨go, Nx, more, step⟩
    · refine thnF (T.done (X.blk s3 H3 scope ce ch) rfl rfl rfl calm i [] s5 _ H5 (fun _ _ => False) I5 (fixd I5 n5) st5 stop) fun r s6 ⟨hr, I6⟩ => ?_
      subst hr
      have I7 : Inv X pins σ H5 s6 := I3.call' (ch := ch) I6.os I6.base I6.hok I6.bare fun b hb => ⟨(f3 b hb).1.2.2.2.1, (f3 b hb).1.2.1, (f3 b hb).1.2.2.2.2.1, (f3 b hb).1.2.2.2.2.2⟩
      have nC : H5 C = none := loc ▸ (show H5 ce.locals = none from I6.free)
      obtain ⟨m, hn, _⟩ := I6.loc
      have hn2 : s6.heap.Ns C m := loc ▸ (show s6.heap.Ns ce.locals m from hn)
      obtain ⟨f0, f1, f2', f3', f4, f5⟩ := I3.fpOk (Nat.le_of_eq eC) nC
      exact ⟨m, hn2, fun h'' sb => ⟨.ref D, H5, I7.turned (t' := s6.toks) (fun b o hb e => (sb.2 b hb).trans e) f0 f1 f3' f4 f5, rfl, done⟩⟩
    · refine thnF (T.item (X.blk s3 H3 scope ce ch) rfl rfl rfl calm i [] s5 _ H5 (fun _ _ => False) I5 (fixd I5 n5) st5 go) fun r s6 ⟨u, hr, h6⟩ => ?_
      subst hr
      refine thnF h6 fun _ s7 ⟨x, H7, I7, r7, y7, st7, n7⟩ => ?_
      have P7 := I7.pinned (fixd I7 n7) (T.obj _ _ st7)
      refine thnF (kg.run _ s7 _ H7 x u _ P7 r7 (step x H7 y7)) fun _ s8 ⟨σ8, H8, I8, same8, q8⟩ => ?_
      refine thnF (kt.run _ s8 σ8 H8 _ I8 q8) fun b s9 ⟨H9, I9, q9⟩ => ?_
      have fin : ∀ {t : Shared} {G : Hp}, Inv (X.blk s3 H3 scope ce ch) ([] ++ pinsAt ch s7.heap) σ8 G t → Nx G → ∃ m, m < n ∧ ∃ i G, Inv (X.blk s3 H3 scope ce ch) [] (wipe σ (own.map (·.2))) G t ∧ tn i t.heap ∧ (∀ b ∈ ch, G b = none) ∧ W i m G := fun {t G} J nx => by
        obtain ⟨m', lt, w'⟩ := more G nx
        have pin : ∀ b ∈ ch, ∀ o, s7.heap.get? b = some o → t.heap.get? b = some o ∧ G b = none := fun b hb o e =>
          ⟨(J.pin (b, o) (List.mem_append_right _ (List.mem_append_right _ (mem_pinsAt hb e)))).1, (J.pin (b, o) (List.mem_append_right _ (List.mem_append_right _ (mem_pinsAt hb e)))).2.1⟩
        have ln : (wipe σ (own.map (·.2))).length = σ8.length := by rw [← same8, wipe_length]
        refine ⟨m', lt, i + 1, G, (J.unpinned (pins := [])).weak ln (fun j v e => (wipe_some (same8 ▸ e)).1), T.keep _ _ _ st7 fun b hb o e => (pin b hb o e).1, fun b hb => ?_, w'⟩
        obtain ⟨o, e, _⟩ := T.obj _ _ st7 b hb
        exact (pin b hb o e).2
      cases b with
      | false => exact fin I9 q9
      | true =>
        refine thnF (kk.run _ s9 σ8 H9 _ I9 q9) fun z s10 ⟨yk, H10, I10, r10, q10⟩ => ?_
        refine thnF (kv.run _ s10 σ8 H10 _ I10 q10) fun z2 s11 ⟨yv, H11, I11, r11, H12, lay, nx⟩ => ?_
        exact lay_dict (X := X.blk s3 H3 scope ce ch) hu I11 lay r10 r11 fun s12 I12 => fin I12 nx
  exact codeAny_compStart_dict all (T.self X.A 0 _ _ _ st4 all)
end
end Pk

/-! Things that only grow (dicts that stay, key tuples); xs[i] += e. -/
namespace Pk
open PySem PySem.Spec PyProof.Rows L2

abbrev MR := V → Hp → Prop
def Mono (R : MR) : Prop := ∀ v H1 H2, Same H1 H2 → R v H1 → R v H2
/-- a tuple of ints as a key of dicts -/
def KeyR (is : List Int) : MR := fun v H => ∃ b, v = .ref b ∧ H b = some (.tup (is.map V.int))
theorem keyR_mono (is : List Int) : Mono (KeyR is) := fun v H1 H2 e ⟨b, h1, h2⟩ => ⟨b, h1, e _ _ h2⟩
theorem keyR_dp {K : PySem.W.Frag} {is : List Int} {v : V} {H : Hp} (h : KeyR is v H) : Dp K H v (.tuple (is.map PyData.int)) := by
  obtain ⟨b, rfl, h2⟩ := h
  exact .tup (.inl (.inl h2)) (dpa_ofInts is)
abbrev kI (is : List Int) : List Key := is.map Sum.inl
theorem kI_kV (is : List Int) : (kI is).map kV = is.map V.int := by rw [List.map_map]; rfl
/-- a dict with such keys, its values ints -/
def dicV (kvs : List (List Int × Int)) : List (List Key × V) := kvs.map fun p => (kI p.1, V.int p.2)
def DicR (kvs : List (List Int × Int)) : MR := fun v H => ∃ a, v = .ref a ∧ H a = some (.dT (dicV kvs))
theorem dicR_mono (kvs : List (List Int × Int)) : Mono (DicR kvs) := fun v H1 H2 e ⟨b, h1, h2⟩ => ⟨b, h1, e _ _ h2⟩
def EvM (K : PySem.W.Frag) (te : TE) (ρ : Rho) (R : MR) : Prop :=
  ∀ (dk : Option Addr) (S0 : List Addr) (H0 : Hp) (S : List Addr) (H : Hp) (σ : L2.St) (Q : VK), EnvD K dk S0 H0 S H σ ρ →
    (∀ v H', EnvD K dk S0 H0 S H' σ ρ → SameB dk H H' → R v (Hid S H') → Q v H') → te σ H Q
section
variable {K : PySem.W.Frag} {dk : Option Addr} {S0 : List Addr} {H0 : Hp} {S S' : List Addr} {H H' : Hp} {σ σ' : L2.St} {ρ : Rho}
theorem EnvD.putMon (I : EnvD K dk S0 H0 S H σ ρ) (i : Nat) {v : V} {R : MR} (m : Mono R) (hd : R v (Hid S H)) : EnvD K dk S0 H0 S H (σ.set i (some v)) (ρ.set i (some (.mon R))) := by
  have hl : i < σ.length ↔ i < ρ.length := by rw [I.len]
  have no : ∀ {j : Nat} {x : Ent}, (∀ R', x ≠ .mon R') → (ρ.set i (some (.mon R)))[j]? = some (some x) → i ≠ j ∧ ρ[j]? = some (some x) := by
    intro j x hx h
    rw [getset] at h
    by_cases hj : i = j
    · rw [if_pos hj] at h
      split at h
      · exact absurd (Option.some.inj (Option.some.inj h)).symm (hx R)
      · cases h
    · rw [if_neg hj] at h
      exact ⟨hj, h⟩
  have get : ∀ {j : Nat} {x : Option V}, i ≠ j → (σ.set i x)[j]? = σ[j]? := fun {j x} h => by rw [getset, if_neg h]
  refine ⟨I.keep, I.own0, I.kept0, I.sub, I.new, I.own, I.deck, by rw [List.length_set, List.length_set, I.len], fun j d h => ?_, fun j d h => ?_, fun j h => ?_, fun j j2 d d2 q h h2 z z2 => ?_, fun j R' h => ?_⟩
  · obtain ⟨h1, h2⟩ := no (fun _ z => by cases z) h
    rw [get h1]; exact I.dat j d h2
  · obtain ⟨h1, h2⟩ := no (fun _ z => by cases z) h
    rw [get h1]; exact I.lst j d h2
  · obtain ⟨h1, h2⟩ := no (fun _ z => by cases z) h
    rw [get h1]; exact I.dck j h2
  · obtain ⟨a1, a2⟩ := no (fun _ z => by cases z) h
    obtain ⟨b1, b2⟩ := no (fun _ z => by cases z) h2
    rw [get a1] at z
    rw [get b1] at z2
    exact I.sep j j2 d d2 q a2 b2 z z2
  · rw [getset] at h ⊢
    by_cases hj : i = j
    · rw [if_pos hj] at h ⊢
      split at h
      · rw [if_pos (hl.mpr ‹_›)]
        cases h
        exact ⟨m, v, rfl, hd⟩
      · cases h
    · rw [if_neg hj] at h ⊢
      exact I.mon j R' h
end
section
variable {K : PySem.W.Frag} {ρ : Rho} {O O' : Outs} {t u : TS} {te ta tb : TE} {tt : TT} {tr : TA} {P : PD → Prop} {R : MR} {E : XK}
theorem em_var {i : Nat} (h : ρ[i]? = some (some (Ent.mon R))) : EvM K (tVar i) ρ R := fun dk S0 H0 S H σ Q I k => by
  obtain ⟨_, v, h1, h2⟩ := I.mon i R h
  exact ⟨v, h1, k v H I (.refl _ _) h2⟩
theorem rs_setM {i : Nat} (m : Mono R) (h : EvM K te ρ R) (k : RunS K u (ρ.set i (some (.mon R))) O) : RunS K (tSeq (tAsg te (gName i)) u) ρ O :=
  rs_seq (fun ρ' => ρ' = ρ.set i (some (.mon R))) (fun dk S0 H0 S H σ D I C => h dk S0 H0 S H σ _ I fun v H1 I1 s1 r => C.nx _ S H1 _ rfl (I1.putMon i m r) (I.step s1)) fun ρ' e => by rw [e]; exact k
/-- tuple(..) of a list of ints: a key -/
theorem em_tupOf {is : List Int} (ha : EvE K ta ρ (· = .list (is.map PyData.int))) : EvM K (tCB (rTupQ K) (tCons ta tNil)) ρ (KeyR is) := fun dk S0 H0 S H σ Q I k =>
  ea_one ha ea_nil dk S0 H0 S H σ _ I fun ds vs H1 e I1 s1 d1 => by
    subst e
    cases d1 with
    | cons a c =>
      cases c
      obtain ⟨q, ys, rfl, hs, hd⟩ := dp_toLst a
      have e := dpa_ints hd
      subst e
      refine ⟨q, _, rfl, .inl ⟨(hid_le S H1).seq hs, fun l hl => ?_⟩⟩
      have e := same_new (o := .tup (is.map V.int)) hl
      exact k _ _ (I1.grow e) (s1.trans (.of_same e)) ⟨l, rfl, by rw [hid_out (fresh_out I1.own hl), upd_same]⟩
/-- a key tuple joined -/
theorem em_catT {xs ys : List Int} (ha : EvE K ta ρ (· = .tuple (xs.map PyData.int))) (hb : EvE K tb ρ (· = .tuple (ys.map PyData.int))) (hx : xs ≠ []) (hy : ys ≠ []) (hl : xs.length + ys.length ≤ 100000) : EvM K (tOp (rCatA K) ta tb) ρ (KeyR (xs ++ ys)) := fun dk S0 H0 S H σ Q I k =>
  ha dk S0 H0 S H σ _ I fun x v H1 e1 I1 s1 d1 => by
    subst e1
    refine hb dk S0 H0 S H1 σ _ I1 fun y u H2 e2 I2 s2 d2 => ?_
    subst e2
    obtain ⟨a, vs, rfl, hs, hx'⟩ := dp_toTup (dp_up (I1.hid s2) d1)
    obtain ⟨b, us, rfl, hs', hy'⟩ := dp_toTup d2
    have e3 := dpa_ints hx'
    have e4 := dpa_ints hy'
    subst e3 e4
    refine ⟨a, b, _, _, rfl, rfl, seqT (hid_le S H2) hs, seqT (hid_le S H2) hs', Nat.le_trans (by rw [List.length_map, List.length_map]; omega) (show 100000 ≤ sizeLine by decide), fun e => absurd (List.map_eq_nil_iff.mp e) hx, fun _ e => absurd (List.map_eq_nil_iff.mp e) hy, fun _ _ p hp => ?_⟩
    have e := same_new (o := .tup (xs.map V.int ++ ys.map V.int)) hp
    exact k _ _ (I2.grow e) ((s1.trans s2).trans (.of_same e)) ⟨p, rfl, by rw [hid_out (fresh_out I2.own hp), upd_same, List.map_append]⟩
/-- d[k], k a tuple of ints -/
theorem ev_dgetT {kvs : List (List Int × Int)} {is : List Int} {n : Int} (ha : EvM K ta ρ (DicR kvs)) (hb : EvM K tb ρ (KeyR is)) (hv : valV (dicV kvs) (kI is) = some (.int n)) : EvE K (tDGet ta tb) ρ (· = .int n) := fun dk S0 H0 S H σ Q I k =>
  ha dk S0 H0 S H σ _ I fun v H1 I1 s1 r1 => hb dk S0 H0 S H1 σ _ I1 fun u H2 I2 s2 r2 => by
    obtain ⟨a, rfl, h1⟩ := dicR_mono kvs _ _ _ (I1.hid s2) r1
    obtain ⟨b, rfl, h2⟩ := r2
    refine ⟨a, .int n, rfl, ?_, k _ _ H2 rfl I2 (s1.trans s2) (.int _)⟩
    rw [← hv]
    exact DGet.t (hid_le S H2 _ _ h1) (by rw [kI_kV]; exact hid_le S H2 _ _ h2)
/-- xs[n] += e, ints -/
theorem rs_augIx {i : Nat} {ds : List PD} {n a b : Int} {j : Nat} (h : ρ[i]? = some (some (.own ds))) (hi : EvE K ta ρ (· = .int n)) (hj : ixN ds.length n = some j) (hd : ds[j]? = some (.int a)) (he : EvE K te ρ (· = .int b)) (k : O.nx (ρ.set i (some (.own (ds.set j (.int (a + b))))))) :
    RunS K (tAugS (tVar i) ta te (rIxL K) (ipI fun i j => i + j) rSetL) ρ O := fun dk S0 H0 S H σ D I C => by
  obtain ⟨p, vs, h1, h2, h3, h4, h5⟩ := I.lst i ds h
  refine ⟨_, h1, hi dk S0 H0 S H σ _ I fun e w H1 q I1 s1 d1 => ?_⟩
  subst q
  obtain ⟨p', vs', g1, g2, g3, g4, g5⟩ := I1.lst i ds h
  rw [h1] at g1
  cases g1
  obtain ⟨z, f1, f2⟩ := dpa_get g5 hd
  have f3 := dp_toInt f2
  subst f3
  refine ⟨p, vs', n, .int a, rfl, dp_toInt d1, SqL.of g4, ?_, ?_⟩
  · unfold atI
    rw [dpa_len g5, hj]
    exact f1
  refine he dk S0 H0 S H1 σ _ I1 fun e2 w2 H2 q2 I2 s2 d2 => ?_
  subst q2
  obtain ⟨p2, vs2, k1, k2, k3, k4, k5⟩ := I2.lst i ds h
  rw [h1] at k1
  cases k1
  obtain ⟨J, st⟩ := I2.write i h h1 k2 k3 (dpa_set (.int (a + b)) j k5)
  exact ⟨a, b, rfl, dp_toInt d2, p, vs2, n, j, rfl, dp_toInt d1, k4, by rw [dpa_len k5]; exact hj, C.nx _ S _ σ k J (((I.step s1).trans (I1.step s2)).trans st)⟩

/-! ### promises -/
/-- a def that gives a thing that stays -/
def SpM (K : PySem.W.Frag) (F : List PD → MR → Prop) : Sp := fun vs H Q _ => ∃ (S : List Addr) (ds : List PD) (R : MR), (∀ a ∈ S, H a ≠ none) ∧ DpAll K (Hid S H) vs ds ∧ F ds R ∧ ∀ v H', Same H H' → R v (Hid S H') → Q v H'
theorem em_call {F : List PD → MR → Prop} {ds : List PD} (ha : EvA K tr ρ (· = ds)) (hf : F ds R) : EvM K (tCall (SpM K F) [] E tr) ρ R := fun dk S0 H0 S H σ Q I k =>
  ha dk S0 H0 S H σ _ I fun ds' vs H1 p I1 s1 d1 => by
    subst p
    exact ⟨S, ds', R, I1.own, by rw [List.append_nil]; exact d1, hf, fun v H2 e r => k v H2 (I1.grow e) (s1.trans (.of_same e)) r⟩
/-- tuples of ints -/
inductive Keys (H : Hp) : List V → List (List Int) → Prop
  | nil : Keys H [] []
  | cons {v vs k ks} : KeyR k v H → Keys H vs ks → Keys H (v :: vs) (k :: ks)
theorem Keys.up {H H' : Hp} (e : Same H H') : ∀ {vs : List V} {ks : List (List Int)}, Keys H vs ks → Keys H' vs ks
  | _, _, .nil => .nil
  | _, _, .cons h t => .cons (keyR_mono _ _ _ _ e h) (t.up e)
theorem Keys.app {H : Hp} : ∀ {vs us : List V} {ks ls : List (List Int)}, Keys H vs ks → Keys H us ls → Keys H (vs ++ us) (ks ++ ls)
  | _, _, _, _, .nil, s => s
  | _, _, _, _, .cons h t, s => .cons h (t.app s)
theorem Keys.len {H : Hp} : ∀ {vs : List V} {ks : List (List Int)}, Keys H vs ks → vs.length = ks.length
  | _, _, .nil => rfl
  | _, _, .cons _ t => congrArg Nat.succ t.len
theorem Keys.get {H : Hp} : ∀ {vs : List V} {ks : List (List Int)} {i : Nat} {v : V}, Keys H vs ks → vs[i]? = some v → ∃ k, ks[i]? = some k ∧ KeyR k v H
  | _, _, _, _, .nil, e => by simp at e
  | _, _, 0, _, .cons h _, e => by simp at e; subst e; exact ⟨_, rfl, h⟩
  | _, _, i + 1, v, .cons _ t, e => by
    obtain ⟨d, h1, h2⟩ := t.get (i := i) (v := v) (by simpa using e)
    exact ⟨d, by simpa using h1, h2⟩
abbrev tupI (is : List Int) : PD := .tuple (is.map PyData.int)
theorem Keys.dp {H : Hp} : ∀ {vs : List V} {ks : List (List Int)}, Keys H vs ks → DpAll K H vs (ks.map tupI)
  | _, _, .nil => .nil
  | _, _, .cons h t => .cons (keyR_dp h) t.dp
/-- a def that gives a new list of key tuples -/
def SpT (K : PySem.W.Frag) (F : List PD → List (List Int) → Prop) : Sp := fun vs H Q _ => ∃ (S : List Addr) (ds : List PD) (ks : List (List Int)), (∀ a ∈ S, H a ≠ none) ∧ DpAll K (Hid S H) vs ds ∧ F ds ks ∧
  ∀ p us H', Same H H' → H p = none → H' p = some (.lst us) → Keys (Hid (p :: S) H') us ks → Q (.ref p) H'
theorem spT_L {F : List PD → List (List Int) → Prop} {G : FL} (h : ∀ ds P, G ds P → ∃ ks, F ds ks ∧ P (ks.map tupI)) : ∀ vs H Q E, SpL K G vs H Q E → SpT K F vs H Q E := fun vs H Q E ⟨S, ds, P, own, hd, hg, k⟩ => by
  obtain ⟨ks, f, p⟩ := h ds P hg
  exact ⟨S, ds, ks, own, hd, f, fun q us H' e hp hl z => k _ q us H' p e hp hl z.dp⟩
/-- [key for g in ..]: a new list of key tuples -/
def EvK (K : PySem.W.Frag) (te : TE) (ρ : Rho) (ks : List (List Int)) : Prop :=
  ∀ (dk : Option Addr) (S0 : List Addr) (H0 : Hp) (S : List Addr) (H : Hp) (σ : L2.St) (Q : VK), EnvD K dk S0 H0 S H σ ρ →
    (∀ p vs H', EnvD K dk S0 H0 (p :: S) H' σ ρ → SameB dk H H' → H p = none → H' p = some (.lst vs) → Keys (Hid (p :: S) H') vs ks → Q (.ref p) H') → te σ H Q
theorem bodyT {N : List Str} {F : List PD → List (List Int) → Prop} {ts : TS} (h : ∀ ds ks, F ds ks → RunS K ts (startR N.length (ds.map .dat)) { nx := fun ρ' => EvK K te ρ' ks }) (vs : List V) (H : Hp) (Q : VK) (E : XK) (hsp : SpT K F vs H Q E) :
    tSeq ts (tRet te) { nx := fun _ H' => Q .non H', rt := Q } (L2.start N vs) H := by
  obtain ⟨S, ds, ks, own, hd, hf, k⟩ := hsp
  refine h ds ks hf none S H S H (L2.start N vs) _ (env_start own hd) ⟨fun ρ' S' H' σ' o I st => ?_, fun _ _ _ _ z => z.elim, fun _ _ _ _ z => z.elim, fun d v H' z => z.elim, fun es p us H' z => z.elim⟩
  refine o none S H S' H' σ' _ I fun p us H2 I2 s2 hp hl kk => ?_
  obtain ⟨f, st2⟩ := I2.fin
  refine k p us H2 (fin_same own f) (I.free0 hp) hl (kk.up fun a o q => ?_)
  obtain ⟨w1, w2⟩ := hid_some q
  rw [hid_out]
  · exact w2
  · intro z
    rcases List.mem_cons.mp z with z | z
    · exact w1 (by rw [z]; exact List.mem_cons_self)
    · exact w1 (I2.sub a z)
end
end Pk

/-! More rules: ints that are not known, lists picked, stored at places that are not known. -/
namespace Pk
open PySem PySem.Spec PyProof.Rows L2
section
variable {K : PySem.W.Frag} {ρ : Rho} {O O' : Outs} {t u : TS} {te ta tb : TE} {tt : TT} {tr : TA} {P : PD → Prop} {i j : Int}
theorem rs_parN {i j : Nat} {a b : PD} (h : EvA K tr ρ (· = [a, b])) (k : O.nx ((ρ.set i (some (.dat a))).set j (some (.dat b)))) : RunS K (tPar i j tr) ρ O := fun dk S0 H0 S H σ D I C =>
  h dk S0 H0 S H σ _ I fun ds vs H1 p I1 s1 hd => by
    subst p
    cases hd with
    | cons h1 hd => cases hd with
      | cons h2 hd => cases hd; exact ⟨_, _, rfl, C.nx _ S H1 _ k ((I1.put i h1).put j h2) (I.step s1)⟩
/-- an int of a kind -/
def IntP (P : Int → Prop) (d : PD) : Prop := ∃ i, d = .int i ∧ P i
theorem ev_addP {A B : Int → Prop} (ha : EvE K ta ρ (IntP A)) (hb : EvE K tb ρ (IntP B)) : EvE K (tOp (rI0 fun i j => .int (i + j)) ta tb) ρ (IntP fun z => ∃ i j, A i ∧ B j ∧ z = i + j) :=
  ev_op ha (fun _ _ => hb) fun x y ⟨i, e1, p⟩ ⟨j, e2, q⟩ => by subst e1 e2; exact fun S H v u Q own h1 h2 k => rv_I0 (d := .int (i + j)) (fun _ => .int _) S H v u Q own h1 h2 fun d z H' e => k d z H' ⟨i + j, e, i, j, p, q, rfl⟩
theorem ev_subP {A B : Int → Prop} (ha : EvE K ta ρ (IntP A)) (hb : EvE K tb ρ (IntP B)) : EvE K (tOp (rI0 fun i j => .int (i - j)) ta tb) ρ (IntP fun z => ∃ i j, A i ∧ B j ∧ z = i - j) :=
  ev_op ha (fun _ _ => hb) fun x y ⟨i, e1, p⟩ ⟨j, e2, q⟩ => by subst e1 e2; exact fun S H v u Q own h1 h2 k => rv_I0 (d := .int (i - j)) (fun _ => .int _) S H v u Q own h1 h2 fun d z H' e => k d z H' ⟨i - j, e, i, j, p, q, rfl⟩
theorem ev_eqP {A B : Int → Prop} (ha : EvE K ta ρ (IntP A)) (hb : EvE K tb ρ (IntP B)) : EvE K (tOp rEq ta tb) ρ (fun d => ∃ i j, A i ∧ B j ∧ d = .bool (decide (i = j))) :=
  ev_op ha (fun _ _ => hb) fun x y ⟨i, e1, p⟩ ⟨j, e2, q⟩ => by
    subst e1 e2
    exact fun S H v u Q own h1 h2 k => by
      rw [dp_toInt h1, dp_toInt h2]
      exact ⟨rfl, k _ _ H ⟨i, j, p, q, rfl⟩ (fun _ _ z => z) (by rw [dec_vi]; exact .bl _)⟩
theorem ev_ltP {A B : Int → Prop} (ha : EvE K ta ρ (IntP A)) (hb : EvE K tb ρ (IntP B)) : EvE K (tOp (rI0 fun i j => .bl (decide (i < j))) ta tb) ρ (fun d => ∃ i j, A i ∧ B j ∧ d = .bool (decide (i < j))) :=
  ev_op ha (fun _ _ => hb) fun x y ⟨i, e1, p⟩ ⟨j, e2, q⟩ => by subst e1 e2; exact fun S H v u Q own h1 h2 k => rv_I0 (d := .bool (decide (i < j))) (fun _ => .bl _) S H v u Q own h1 h2 fun d z H' e => k d z H' ⟨i, j, p, q, e⟩
theorem ev_toP (h : EvE K ta ρ (· = .int i)) : EvE K ta ρ (IntP (· = i)) := h.imp fun d e => ⟨i, e, rfl⟩
theorem et_anyB {P : PD → Prop} (h : EvE K te ρ P) (hb : ∀ d, P d → ∃ b, d = .bool b) : EvT K (tTest te) ρ fun _ => True := et_test (h.imp fun d p => let ⟨b, e⟩ := hb d p; ⟨b, e, trivial⟩)
theorem ev_intP {A : Int → Prop} (ha : EvE K ta ρ (IntP A)) : EvE K (tCB rIntQ (tCons ta tNil)) ρ (IntP A) := ev_cb (ea_cons ha fun _ _ => ea_nil) fun xs ⟨x, rs, e, ⟨i, e2, p⟩, e3⟩ S H vs Q own h1 k => by
  subst e3 e2 e
  cases h1 with
  | cons a b => cases b; exact .inl ⟨i, by rw [dp_toInt a], k _ _ H ⟨i, rfl, p⟩ (fun _ _ z => z) (.int _)⟩
theorem ev_intBP {P : PD → Prop} (ha : EvE K ta ρ P) (hb : ∀ d, P d → ∃ b, d = .bool b) : EvE K (tCB rIntQ (tCons ta tNil)) ρ (IntP fun i => i = 0 ∨ i = 1) := ev_cb (ea_cons ha fun _ _ => ea_nil) fun xs ⟨x, rs, e, p, e3⟩ S H vs Q own h1 k => by
  subst e3 e
  obtain ⟨b, rfl⟩ := hb x p
  cases h1 with
  | cons a c =>
    cases c
    exact .inr ⟨b, by rw [dp_toBl a], k _ _ H ⟨if b then 1 else 0, rfl, by cases b <;> simp⟩ (fun _ _ z => z) (.int _)⟩
/-- fewer are hidden -/
theorem EnvD.showTo {dk : Option Addr} {S0 : List Addr} {H0 : Hp} {S S2 : List Addr} {H : Hp} {σ : L2.St} (I : EnvD K dk S0 H0 S H σ ρ) (hsub : ∀ a ∈ S2, a ∈ S) (hs : ∀ a ∈ S0, a ∈ S2)
    (hq : ∀ (i : Nat) (ds : List PD), ρ[i]? = some (some (Ent.own ds)) → ∃ q, σ[i]? = some (some (V.ref q)) ∧ q ∈ S2) : EnvD K dk S0 H0 S2 H σ ρ := by
  have st : Same (Hid S H) (Hid S2 H) := fun a o h => by
    obtain ⟨h1, h2⟩ := hid_some h
    rw [hid_out (fun z => h1 (hsub a z))]; exact h2
  refine ⟨I.keep, I.own0, I.kept0, hs, fun a h => I.new a (hsub a h), fun a h => I.own a (hsub a h), fun a h => ?_, I.len, fun i d h => ?_, fun i ds h => ?_, I.dck, I.sep, fun i R h => let ⟨m, v, h1, h2⟩ := I.mon i R h; ⟨m, v, h1, m _ _ _ st h2⟩⟩
  · obtain ⟨h1, h2⟩ := I.deck a h
    refine ⟨h1, ?_⟩
    obtain ⟨d0, d1, sd, l, d4, ns, z, z2, z3⟩ := h2.ex
    exact ⟨d0, d1, sd, l, d4, ns, z, st.seq z2, z3⟩
  · obtain ⟨v, h1, h2⟩ := I.dat i d h
    exact ⟨v, h1, dp_up st h2⟩
  · obtain ⟨q, vs, h1, h2, h3, h4, h5⟩ := I.lst i ds h
    obtain ⟨q2, h6, h7⟩ := hq i ds h
    rw [h1] at h6
    cases h6
    exact ⟨q, vs, h1, h7, h3, h4, dpa_up st h5⟩
/-- [e, f][n] -/
theorem el_pick {P Q : List PD → Prop} {A : Int → Prop} {ti : TE} (ha : EvL K ta ρ P) (hb : EvL K tb ρ Q) (hi : EvE K ti ρ (IntP A)) (hA : ∀ i, A i → i = 0 ∨ i = 1) : EvL K (tOp (rIxL K) (tLst (tCons ta (tCons tb tNil))) ti) ρ fun ds => (A 0 ∧ P ds) ∨ (A 1 ∧ Q ds) := fun dk S0 H0 S H σ R I k =>
  ha dk S0 H0 S H σ _ I fun ds p vs H1 pd I1 s1 hp hl hd => hb dk S0 H0 (p :: S) H1 σ _ I1 fun es q us H2 qd I2 s2 hq hl2 he => by
    refine ⟨Nat.le_trans (show 2 ≤ 100000 by decide) (show 100000 ≤ sizeLine by decide), fun r hr => ?_⟩
    have e := same_new (o := .lst [.ref p, .ref q]) hr
    have I3 : EnvD K dk S0 H0 (q :: p :: S) (upd H2 r (.lst [.ref p, .ref q])) σ ρ := I2.grow e
    refine hi dk S0 H0 (q :: p :: S) _ σ _ I3 fun x w H4 ⟨i, e4, a4⟩ I4 s4 d4 => ?_
    subst e4
    have pk : dk ≠ some p := fun z => I1.own0 p (I1.deck p z).1 (I.free0 hp)
    have qk : dk ≠ some q := fun z => I2.own0 q (I2.deck q z).1 (I1.free0 hq)
    have rk : dk ≠ some r := fun z => I2.own0 r (I2.deck r z).1 (I2.free0 hr)
    have h4 : H4 r = some (.lst [.ref p, .ref q]) := s4 r _ rk upd_same
    have p2 : H2 p = some (.lst vs) := s2 p _ pk hl
    have p4 : H4 p = some (.lst vs) := s4 p _ pk (e _ _ p2)
    have q4 : H4 q = some (.lst us) := s4 q _ qk (e _ _ hl2)
    have sall : SameB dk H H4 := ((s1.trans s2).trans (.of_same e)).trans s4
    have sub : ∀ (j : Nat) (ds : List PD), ρ[j]? = some (some (Ent.own ds)) → ∃ q, σ[j]? = some (some (V.ref q)) ∧ q ∈ S := fun j ds h => by
      obtain ⟨z, vs, h1, h2, _⟩ := I.lst j ds h
      exact ⟨z, h1, h2⟩
    have hq0 : H q = none := I1.free s1 hq
    have st4 : ∀ {T : List Addr}, (∀ a ∈ T, a ∈ q :: p :: S) → Same (Hid (q :: p :: S) H2) (Hid T H4) := fun {T} hT a o z => by
      obtain ⟨w1, w2⟩ := hid_some z
      rw [hid_out (fun y => w1 (hT a y))]
      exact s4 a o (I2.dkS w1) (e a o w2)
    refine ⟨r, [.ref p, .ref q], i, (if i = 0 then .ref p else .ref q), rfl, dp_toInt d4, SqL.of h4, ?_, ?_⟩
    · rcases hA i a4 with rfl | rfl
      · rfl
      · rfl
    · rcases hA i a4 with rfl | rfl
      · rw [if_pos rfl]
        refine k ds p vs H4 (.inl ⟨a4, pd⟩) (I4.showTo (fun a h => List.mem_cons_of_mem _ h) I1.sub fun j ds h => let ⟨z, h1, h2⟩ := sub j ds h; ⟨z, h1, List.mem_cons_of_mem _ h2⟩) sall hp p4 (dpa_up ?_ hd)
        exact I1.hid ((s2.trans (.of_same e)).trans s4)
      · rw [if_neg (by omega)]
        have hT : ∀ a ∈ q :: S, a ∈ q :: p :: S := fun a h => by
          rcases List.mem_cons.mp h with y | y
          · rw [y]; exact List.mem_cons_self
          · exact List.mem_cons_of_mem _ (List.mem_cons_of_mem _ y)
        exact k es q us H4 (.inr ⟨a4, qd⟩) (I4.showTo hT (fun a h => List.mem_cons_of_mem _ (I.sub a h)) fun j ds h => let ⟨z, h1, h2⟩ := sub j ds h; ⟨z, h1, List.mem_cons_of_mem _ h2⟩) sall hq0 q4 (dpa_up (st4 hT) he)
/-- xs[n] = e, n any of the places -/
theorem rs_setIxP {i : Nat} {ds : List PD} {A : Int → Prop} (h : ρ[i]? = some (some (.own ds))) (he : EvE K te ρ P) (hi : EvE K ta ρ (IntP A)) (hj : ∀ n, A n → 0 ≤ n ∧ n < ds.length) (k : ∀ d j, P d → j < ds.length → O.nx (ρ.set i (some (.own (ds.set j d))))) :
    RunS K (tAsg te (gSub (tVar i) ta rSetL)) ρ O := fun dk S0 H0 S H σ D I C =>
  he dk S0 H0 S H σ _ I fun d w H1 q I1 s1 d1 => by
    obtain ⟨p, vs, h1, h2, h3, h4, h5⟩ := I1.lst i ds h
    refine ⟨_, h1, hi dk S0 H0 S H1 σ _ I1 fun e z H2 ⟨n, q2, an⟩ I2 s2 d2 => ?_⟩
    subst q2
    obtain ⟨b1, b2⟩ := hj n an
    obtain ⟨p', vs', g1, g2, g3, g4, g5⟩ := I2.lst i ds h
    rw [h1] at g1
    cases g1
    obtain ⟨J, st⟩ := I2.write i h h1 g2 g3 (dpa_set (dp_up (I1.hid s2) d1) n.toNat g5)
    refine ⟨p, vs', n, n.toNat, rfl, dp_toInt d2, g4, ?_, C.nx _ S _ σ (k d _ q (by omega)) J (((I.step s1).trans (I1.step s2)).trans st)⟩
    rw [dpa_len g5]
    unfold ixN
    rw [if_pos b1, if_pos b2]
end
end Pk

/-! Comprehensions that map. -/
namespace Pk
open PySem PySem.Spec PyProof.Rows L2
section
variable {K : PySem.W.Frag} {ρ : Rho} {te ta tb : TE} {tt : TT} {tr : TA}
theorem et_yes : EvT K tYes ρ (· = true) := fun dk S0 H0 S H σ Q I k => k true H rfl I (.refl _ _)
theorem el_map {wi : TI} {g : TG} {vs : List Nat} {xs : List PD} (ys : List PD) (h : EvI K wi ρ (· = xs)) (hl : xs.length = ys.length) (hb : ys.length ≤ 100000)
    (hs : ∀ (i : Nat) (d y : PD), xs[i]? = some d → ys[i]? = some y → ∃ (ρ2 : Rho) (ts : List Nat), (∀ t ∈ ts, t ∈ vs) ∧ BindG K g d (wipeR ρ vs) ρ2 ts ∧ EvE K te ρ2 (· = y)) : EvL K (tLc wi g tYes te vs) ρ (· = ys) :=
  el_lc h (fun _ i acc => acc = ys.take i) (fun z e => ⟨by rw [e, hl]; exact hb, by rw [List.take_zero]⟩) (fun z i d acc e hx w => by
    subst e
    have hi := (List.getElem?_eq_some_iff.mp hx).1
    obtain ⟨y, hy⟩ := get_some (l := ys) (i := i) (by omega)
    obtain ⟨ρ2, ts, h1, h2, h3⟩ := hs i d y hx hy
    refine ⟨ρ2, ts, _, _, h1, h2, et_yes, fun _ => ⟨h3, fun e' e2 => ?_⟩, fun z => by cases z⟩
    subst w e2
    obtain ⟨q1, q2⟩ := List.getElem?_eq_some_iff.mp hy
    rw [← q2, List.take_append_getElem]) fun z acc e w => by subst e; rw [w, hl, List.take_length]
theorem el_mapP {wi : TI} {g : TG} {vs : List Nat} {xs : List PD} (Pe : PD → Prop) (h : EvI K wi ρ (· = xs)) (hb : xs.length ≤ 100000)
    (hs : ∀ (i : Nat) (d : PD), xs[i]? = some d → ∃ (ρ2 : Rho) (ts : List Nat), (∀ t ∈ ts, t ∈ vs) ∧ BindG K g d (wipeR ρ vs) ρ2 ts ∧ EvE K te ρ2 Pe) : EvL K (tLc wi g tYes te vs) ρ fun ys => ys.length = xs.length ∧ ∀ y ∈ ys, Pe y :=
  el_lc h (fun _ i acc => acc.length = i ∧ ∀ y ∈ acc, Pe y) (fun z e => ⟨by rw [e]; exact hb, rfl, fun y hy => nomatch hy⟩) (fun z i d acc e hx ⟨w1, w2⟩ => by
    subst e
    obtain ⟨ρ2, ts, h1, h2, h3⟩ := hs i d hx
    refine ⟨ρ2, ts, _, _, h1, h2, et_yes, fun _ => ⟨h3, fun e' e2 => ⟨by rw [List.length_append, w1]; rfl, fun y hy => ?_⟩⟩, fun z => by cases z⟩
    rcases List.mem_append.mp hy with q | q
    · exact w2 y q
    · rw [List.mem_singleton.mp q]; exact e2) fun z acc e w => by subst e; exact w
end
end Pk

/-! Comprehensions that make key tuples. -/
namespace Pk
open PySem PySem.Spec PyProof.Rows L2
section
variable {K : PySem.W.Frag} {dk : Option Addr} {S0 : List Addr} {H0 : Hp} {S S' : List Addr} {H H' : Hp} {σ σ' : L2.St} {ρ ρ' : Rho}
/-- a list of key tuples that grows at D, hidden -/
structure CollK (K : PySem.W.Frag) (dk : Option Addr) (S0 : List Addr) (H0 : Hp) (S : List Addr) (σ : L2.St) (ρ : Rho) (D : Addr) (H1 : Hp) (H : Hp) (ks : List (List Int)) : Prop where
  I : EnvD K dk S0 H0 (D :: S) H σ ρ
  same : ∀ a o, dk ≠ some a → a ≠ D → H1 a = some o → H a = some o
  ex : ∃ acc, H D = some (.lst acc) ∧ Keys (Hid (D :: S) H) acc ks
  n0 : H0 D = none
  n1 : H1 D = none
  ns : NoSlot ρ σ D
theorem CollK.dkD {D : Addr} {H1 : Hp} {ks : List (List Int)} (C : CollK K dk S0 H0 S σ ρ D H1 H ks) : dk ≠ some D := fun z => C.I.own0 D (C.I.deck D z).1 C.n0
theorem CollK.step {D : Addr} {H1 : Hp} {ks : List (List Int)} (C : CollK K dk S0 H0 S σ ρ D H1 H ks) (dkS : ∀ a, dk = some a → a ∈ S) : Step S H1 (D :: S) H :=
  ⟨fun _ h => List.mem_cons_of_mem _ h, fun a h => by
    rcases List.mem_cons.mp h with rfl | h
    · exact .inr C.n1
    · exact .inl h, fun a o n h => C.same a o (fun z => n (dkS a z)) (fun z => by rw [z, C.n1] at h; cases h) h⟩
theorem CollK.move {D : Addr} {H1 : Hp} {ks : List (List Int)} (C : CollK K dk S0 H0 S σ ρ D H1 H ks) (J : EnvD K dk S0 H0 (D :: S) H' σ' ρ') (s : SameB dk H H') : CollK K dk S0 H0 S σ ρ D H1 H' ks := by
  obtain ⟨acc, h1, h2⟩ := C.ex
  exact ⟨C.I.move J s, fun a o n n2 h => s a o n (C.same a o n n2 h), ⟨acc, s D _ C.dkD h1, h2.up (C.I.hid s)⟩, C.n0, C.n1, C.ns⟩
theorem CollK.push {D : Addr} {H1 : Hp} {ks : List (List Int)} {y : V} {k : List Int} (C : CollK K dk S0 H0 S σ ρ D H1 H ks) (hy : KeyR k y (Hid (D :: S) H)) :
    ∃ acc, H D = some (.lst acc) ∧ acc.length = ks.length ∧ CollK K dk S0 H0 S σ ρ D H1 (upd H D (.lst (acc ++ [y]))) (ks ++ [k]) := by
  obtain ⟨acc, h1, h2⟩ := C.ex
  refine ⟨acc, h1, h2.len, C.I.scratch _ List.mem_cons_self C.n0 C.ns, fun a o n n2 h => by rw [upd_ne n2]; exact C.same a o n n2 h, ⟨_, upd_same, ?_⟩, C.n0, C.n1, C.ns⟩
  refine (h2.app (.cons hy .nil)).up fun a u h => ?_
  obtain ⟨h3, h4⟩ := hid_some h
  rw [hid_out h3, upd_ne (fun z => h3 (by rw [z]; exact List.mem_cons_self))]
  exact h4
theorem CollK.start {D : Addr} {H1 : Hp} (I : EnvD K dk S0 H0 S H1 σ ρ) (hD : H1 D = none) : CollK K dk S0 H0 S σ ρ D H1 (upd H1 D (.lst [])) [] := by
  refine ⟨I.hideS (same_new hD) hD (by rw [upd_same]; exact fun z => nomatch z), fun a o _ n2 h => by rw [upd_ne n2]; exact h, ⟨[], upd_same, .nil⟩, I.free0 hD, hD, fun j es h z => ?_⟩
  obtain ⟨q, us, h1, h2, _⟩ := I.lst j es h
  rw [h1] at z
  cases z
  exact I.own _ h2 hD
/-- [key for g in ..] -/
theorem ek_map {te : TE} {wi : TI} {g : TG} {vs : List Nat} {xs : List PD} (ks : List (List Int)) (h : EvI K wi ρ (· = xs)) (hl : xs.length = ks.length) (hb : ks.length ≤ 100000)
    (hs : ∀ (i : Nat) (d : PD) (k : List Int), xs[i]? = some d → ks[i]? = some k → ∃ (ρ2 : Rho) (ts : List Nat), (∀ t ∈ ts, t ∈ vs) ∧ BindG K g d (wipeR ρ vs) ρ2 ts ∧ EvM K te ρ2 (KeyR k)) : EvK K (tLc wi g tYes te vs) ρ ks := fun dk S0 H0 S H σ Q I k =>
  h dk S0 H0 S H σ _ I fun xs' J H1 px I1 s1 it D hD => by
    subst px
    have dkS : ∀ a, dk = some a → a ∈ S := fun a z => I.sub a (I.deck a z).1
    refine ⟨fun i m H' => m = xs'.length - i ∧ i ≤ xs'.length ∧ CollK K dk S0 H0 S σ ρ D H1 H' (ks.take i), ⟨_, rfl, Nat.zero_le _, by rw [List.take_zero]; exact CollK.start I1 hD⟩, ?_⟩
    rintro i m H' ⟨rfl, hi, C⟩
    have st := C.step dkS
    by_cases hlt : i < xs'.length
    · obtain ⟨d, hx⟩ := get_some hlt
      obtain ⟨key, hk⟩ := get_some (l := ks) (i := i) (by omega)
      refine .inr ⟨it.go _ H' i st hlt, fun H2 => CollK K dk S0 H0 S σ ρ D H1 H2 (ks.take (i + 1)), fun H2 C2 => ⟨xs'.length - (i + 1), by omega, rfl, hlt, C2⟩, fun x H'' y => ?_⟩
      obtain ⟨e, hd'⟩ := it.yld _ H' i x H'' d st C.I.own y hx
      have C2 := C.move (C.I.grow e) (.of_same e)
      obtain ⟨ρ2, ts, hts, hb2, he⟩ := hs i d key hx hk
      refine hb2 dk S0 H0 (D :: S) H'' (wipe σ vs) x _ (C2.I.wipes vs) hd' fun σ2 J2 w2 n2 => ⟨(w2 vs hts).trans (wipe_wipe σ vs), ?_⟩
      refine et_yes dk S0 H0 (D :: S) H'' σ2 _ J2 fun b H3 eb J3 s3 => ?_
      subst eb
      refine iteT (he dk S0 H0 (D :: S) H3 σ2 _ J3 fun y H4 J4 s4 d4 => ?_)
      obtain ⟨acc, a1, a2, C5⟩ := ((C2.move J3 s3).move J4 s4).push d4
      rw [List.length_take] at a2
      refine ⟨acc, a1, small_line (by omega), ?_⟩
      obtain ⟨q1, q2⟩ := List.getElem?_eq_some_iff.mp hk
      rw [← q2, List.take_append_getElem] at C5
      exact C5
    · have e : i = xs'.length := by omega
      subst e
      obtain ⟨acc, a1, a2⟩ := C.ex
      rw [hl, List.take_length] at a2
      refine .inl ⟨it.stop _ H' _ st (Nat.le_refl _), k D acc H' C.I (fun a o n h => ?_) (I1.free s1 hD) a1 a2⟩
      have h2 := s1 a o n h
      exact C.same a o n (fun z => by rw [z, hD] at h2; cases h2) h2
end
end Pk

/-! Tests in which own lists are read as data. -/
namespace Pk
open PySem PySem.Spec PyProof.Rows L2
/-- the slots, own lists as data, some forgotten -/
def Frz (ρ ρ' : Rho) : Prop := ρ.length = ρ'.length ∧ ∀ (i : Nat) (e : Ent), ρ'[i]? = some (some e) → (∃ d, e = .dat d ∧ ρ[i]? = some (some (.dat d))) ∨ (∃ R, e = .mon R ∧ ρ[i]? = some (some (.mon R))) ∨ ∃ ds, e = .dat (.list ds) ∧ ρ[i]? = some (some (.own ds))
theorem Frz.nil : Frz [] [] := ⟨rfl, fun i e h => by simp at h⟩
theorem frz_cons {x y : Option Ent} {ρ ρ' : Rho} (h : Frz ρ ρ') (h0 : ∀ e, y = some e → (∃ d, e = .dat d ∧ x = some (.dat d)) ∨ (∃ R, e = .mon R ∧ x = some (.mon R)) ∨ ∃ ds, e = .dat (.list ds) ∧ x = some (.own ds)) : Frz (x :: ρ) (y :: ρ') := by
  refine ⟨by rw [List.length_cons, List.length_cons, h.1], fun i e hi => ?_⟩
  cases i with
  | zero =>
    have hy : y = some e := Option.some.inj hi
    rcases h0 e hy with ⟨d, a, b⟩ | ⟨R, a, b⟩ | ⟨ds, a, b⟩
    · exact .inl ⟨d, a, congrArg some b⟩
    · exact .inr (.inl ⟨R, a, congrArg some b⟩)
    · exact .inr (.inr ⟨ds, a, congrArg some b⟩)
  | succ i => exact h.2 i e hi
theorem Frz.none {x : Option Ent} {ρ ρ' : Rho} (h : Frz ρ ρ') : Frz (x :: ρ) (none :: ρ') := frz_cons h fun e z => by cases z
theorem Frz.dat {d : PD} {ρ ρ' : Rho} (h : Frz ρ ρ') : Frz (some (.dat d) :: ρ) (some (.dat d) :: ρ') := frz_cons h fun e z => by cases z; exact .inl ⟨d, rfl, rfl⟩
theorem Frz.own {ds : List PD} {ρ ρ' : Rho} (h : Frz ρ ρ') : Frz (some (.own ds) :: ρ) (some (.dat (.list ds)) :: ρ') := frz_cons h fun e z => by cases z; exact .inr (.inr ⟨ds, rfl, rfl⟩)
section
variable {K : PySem.W.Frag} {ρ ρ' : Rho} {tt : TT} {te : TE}
open Classical in
theorem EnvD.freeze {dk : Option Addr} {S0 : List Addr} {H0 : Hp} {S : List Addr} {H : Hp} {σ : L2.St} (I : EnvD K dk S0 H0 S H σ ρ) (hr : Frz ρ ρ') :
    ∃ S1 : List Addr, (∀ a ∈ S1, a ∈ S) ∧ (∀ a ∈ S, a ∉ S1 → ∃ xs, H a = some (.lst xs)) ∧ EnvD K none S1 H S1 H σ ρ' := by
  let S1 := S.filter fun a => decide (∀ (i : Nat) (ds : List PD), ρ[i]? = some (some (.own ds)) → σ[i]? ≠ some (some (V.ref a)))
  have sub : ∀ a ∈ S1, a ∈ S := fun a h => (List.mem_filter.mp h).1
  have st : Same (Hid S H) (Hid S1 H) := fun a o h => by
    obtain ⟨h1, h2⟩ := hid_some h
    rw [hid_out (fun z => h1 (sub a z))]; exact h2
  refine ⟨S1, sub, fun a ha hn => ?_, ⟨fun _ _ h _ => h, fun a h => I.own a (sub a h), fun _ _ _ => rfl, fun _ h => h, fun _ h => .inl h, fun a h => I.own a (sub a h), (fun a z => nomatch z), I.len.trans hr.1, fun i d h => ?_, fun i ds h => ?_, fun i h => ?_, fun i j ds es p h h2 z z2 => ?_, fun i R h => ?_⟩⟩
  · apply Classical.byContradiction
    intro w
    refine hn (List.mem_filter.mpr ⟨ha, decide_eq_true fun i ds h1 h2 => ?_⟩)
    obtain ⟨p, vs, e1, e2, e3, e4, e5⟩ := I.lst i ds h1
    rw [h2] at e1
    cases e1
    exact w ⟨vs, e4⟩
  · rcases hr.2 i _ h with ⟨d', e, h2⟩ | ⟨R, e, h2⟩ | ⟨ds, e, h2⟩
    · cases e
      obtain ⟨v, a, b⟩ := I.dat i d h2
      exact ⟨v, a, dp_up st b⟩
    · cases e
    · cases e
      obtain ⟨p, vs, e1, e2, e3, e4, e5⟩ := I.lst i ds h2
      refine ⟨_, e1, .lst (.inl (.inl ?_)) (dpa_up st e5)⟩
      rw [hid_out]
      · exact e4
      · intro z
        exact of_decide_eq_true (List.mem_filter.mp z).2 i ds h2 e1
  · rcases hr.2 i _ h with ⟨d', e, h2⟩ | ⟨R, e, h2⟩ | ⟨ds, e, h2⟩ <;> cases e
  · rcases hr.2 i _ h with ⟨d', e, h2⟩ | ⟨R, e, h2⟩ | ⟨ds, e, h2⟩ <;> cases e
  · rcases hr.2 i _ h with ⟨d', e, h2⟩ | ⟨R, e, h2⟩ | ⟨ds, e, h2⟩ <;> cases e
  · rcases hr.2 i _ h with ⟨d', e, h2⟩ | ⟨R', e, h2⟩ | ⟨ds, e, h2⟩
    · cases e
    · cases e
      obtain ⟨m, v, a, b⟩ := I.mon i R h2
      exact ⟨m, v, a, m _ _ _ st b⟩
    · cases e
theorem et_froz {P : Bool → Prop} (hr : Frz ρ ρ') (h : EvT K tt ρ' P) : EvT K tt ρ P := fun dk S0 H0 S H σ Q I k => by
  obtain ⟨S1, sub, lst, J⟩ := I.freeze hr
  refine h none S1 H S1 H σ Q J fun b H1 p J1 s1 => ?_
  have same : Same H H1 := fun a o e => s1 a o (fun z => nomatch z) e
  exact k b H1 p (I.grow same) (.of_same same)
end
end Pk

namespace Pk
open PySem PySem.Spec PyProof.Rows L2
def top (i : Nat) : Stmt := PySem.Challenge.pw_planecuts_k64_forms.main.body.getD i (.Pass ⟨0, 0, 0, 0⟩)
abbrev s_common : Stmt := top 4
abbrev s_fraction : Stmt := top 5
abbrev s_plus : Stmt := top 6
abbrev s_times : Stmt := top 7
abbrev s_places_of : Stmt := top 9
abbrev s_spots_of : Stmt := top 10
abbrev s_form_sum : Stmt := top 11
abbrev s_form_times : Stmt := top 12
abbrev s_cleared : Stmt := top 13
abbrev s_integer_product : Stmt := top 14
abbrev s_form_product : Stmt := top 15
abbrev s_powers_at : Stmt := top 16
abbrev s_form_at : Stmt := top 17
abbrev s_law_deck : Stmt := top 19
abbrev s_law_draw : Stmt := top 20
abbrev s_law_is : Stmt := top 21
abbrev s_law_gcd : Stmt := top 22
abbrev s_law_frac : Stmt := top 23
abbrev s_law_plus : Stmt := top 24
abbrev s_law_times : Stmt := top 25
abbrev s_law_places : Stmt := top 26
abbrev s_law_item : Stmt := top 27
abbrev s_law_degree : Stmt := top 28
abbrev s_law_product : Stmt := top 29
abbrev s_law_at : Stmt := top 30
abbrev s_law_is_placed : Stmt := top 31
abbrev s_law_is_summed : Stmt := top 32
abbrev s_law_is_multiplied : Stmt := top 33
abbrev s_law : Stmt := top 34
def fn : List He.DefD := [
  ⟨("common", none), "common", "common", defArgs s_common, defBody s_common, defScope s_common, [], []⟩,
  ⟨("fraction", none), "fraction", "fraction", defArgs s_fraction, defBody s_fraction, defScope s_fraction, [], []⟩,
  ⟨("plus", none), "plus", "plus", defArgs s_plus, defBody s_plus, defScope s_plus, [], []⟩,
  ⟨("times", none), "times", "times", defArgs s_times, defBody s_times, defScope s_times, [], []⟩,
  ⟨("places_of", none), "places_of", "places_of", defArgs s_places_of, defBody s_places_of, defScope s_places_of, [], []⟩,
  ⟨("spots_of", none), "spots_of", "spots_of", defArgs s_spots_of, defBody s_spots_of, defScope s_spots_of, [], []⟩,
  ⟨("form_sum", none), "form_sum", "form_sum", defArgs s_form_sum, defBody s_form_sum, defScope s_form_sum, [], []⟩,
  ⟨("form_times", none), "form_times", "form_times", defArgs s_form_times, defBody s_form_times, defScope s_form_times, [], []⟩,
  ⟨("cleared", none), "cleared", "cleared", defArgs s_cleared, defBody s_cleared, defScope s_cleared, [], []⟩,
  ⟨("integer_product", none), "integer_product", "integer_product", defArgs s_integer_product, defBody s_integer_product, defScope s_integer_product, [], []⟩,
  ⟨("form_product", none), "form_product", "form_product", defArgs s_form_product, defBody s_form_product, defScope s_form_product, [], []⟩,
  ⟨("powers_at", none), "powers_at", "powers_at", defArgs s_powers_at, defBody s_powers_at, defScope s_powers_at, [], []⟩,
  ⟨("form_at", none), "form_at", "form_at", defArgs s_form_at, defBody s_form_at, defScope s_form_at, [], []⟩,
  ⟨("_law_deck", none), "_law_deck", "_law_deck", defArgs s_law_deck, defBody s_law_deck, defScope s_law_deck, [], []⟩,
  ⟨("_law_draw", none), "_law_draw", "_law_draw", defArgs s_law_draw, defBody s_law_draw, defScope s_law_draw, [], []⟩,
  ⟨("_law_is", none), "_law_is", "_law_is", defArgs s_law_is, defBody s_law_is, defScope s_law_is, [], []⟩,
  ⟨("_law_gcd", none), "_law_gcd", "_law_gcd", defArgs s_law_gcd, defBody s_law_gcd, defScope s_law_gcd, [], []⟩,
  ⟨("_law_frac", none), "_law_frac", "_law_frac", defArgs s_law_frac, defBody s_law_frac, defScope s_law_frac, [], []⟩,
  ⟨("_law_plus", none), "_law_plus", "_law_plus", defArgs s_law_plus, defBody s_law_plus, defScope s_law_plus, [], []⟩,
  ⟨("_law_times", none), "_law_times", "_law_times", defArgs s_law_times, defBody s_law_times, defScope s_law_times, [], []⟩,
  ⟨("_law_places", none), "_law_places", "_law_places", defArgs s_law_places, defBody s_law_places, defScope s_law_places, [], []⟩,
  ⟨("_law_item", none), "_law_item", "_law_item", defArgs s_law_item, defBody s_law_item, defScope s_law_item, [], []⟩,
  ⟨("_law_degree", none), "_law_degree", "_law_degree", defArgs s_law_degree, defBody s_law_degree, defScope s_law_degree, [], []⟩,
  ⟨("_law_product", none), "_law_product", "_law_product", defArgs s_law_product, defBody s_law_product, defScope s_law_product, [], []⟩,
  ⟨("_law_at", none), "_law_at", "_law_at", defArgs s_law_at, defBody s_law_at, defScope s_law_at, [], []⟩,
  ⟨("_law_is_placed", none), "_law_is_placed", "_law_is_placed", defArgs s_law_is_placed, defBody s_law_is_placed, defScope s_law_is_placed, [], []⟩,
  ⟨("_law_is_summed", none), "_law_is_summed", "_law_is_summed", defArgs s_law_is_summed, defBody s_law_is_summed, defScope s_law_is_summed, [], []⟩,
  ⟨("_law_is_multiplied", none), "_law_is_multiplied", "_law_is_multiplied", defArgs s_law_is_multiplied, defBody s_law_is_multiplied, defScope s_law_is_multiplied, [], []⟩,
  ⟨("law", none), "law", "law", defArgs s_law, defBody s_law, defScope s_law, [], []⟩]
def fa : List He.Fa := [.glo "common", .glo "fraction", .glo "plus", .glo "times", .glo "places_of", .glo "spots_of", .glo "form_sum", .glo "form_times", .glo "cleared", .glo "integer_product", .glo "form_product", .glo "powers_at", .glo "form_at", .glo "_law_deck", .glo "_law_draw", .glo "_law_is", .glo "_law_gcd", .glo "_law_frac", .glo "_law_plus", .glo "_law_times", .glo "_law_places", .glo "_law_item", .glo "_law_degree", .glo "_law_product", .glo "_law_at", .glo "_law_is_placed", .glo "_law_is_summed", .glo "_law_is_multiplied", .glo "law", .free "abs", .free "enumerate", .free "int", .free "len", .free "list", .free "range", .free "repr", .free "tuple", .free "zip"]

structure Txt (K : PySem.W.Frag) (mg : Str → Option Value) : Prop where
  con_ZERO : mg "ZERO" = some (.ref (He.ga K "ZERO"))
  con_ONE : mg "ONE" = some (.ref (He.ga K "ONE"))
  val_ZERO : ∀ H, SqT K H (He.ga K "ZERO") [.int 0, .int 1]
  val_ONE : ∀ H, SqT K H (He.ga K "ONE") [.int 1, .int 1]
  gcd : mg "gcd" = some (.builtin "math.gcd")
  digits : PySem.W.nsIn K cStatics "sys.int_max_str_digits" = some none
  free_abs : mg "abs" = none
  free_enumerate : mg "enumerate" = none
  free_int : mg "int" = none
  free_len : mg "len" = none
  free_list : mg "list" = none
  free_range : mg "range" = none
  free_repr : mg "repr" = none
  free_tuple : mg "tuple" = none
  free_zip : mg "zip" = none

/-! ### common -/
abbrev N_common : List Str := ["a", "b"]
def t_common (K : PySem.W.Frag) : TS :=
  (tSeq (tPar 0 1 (tCons (tCB rAbsQ (tCons (tVar 0) tNil)) (tCons (tCB rAbsQ (tCons (tVar 1) tNil)) tNil)))
    (tSeq (tWhile (tTruK K (tVar 1))
      (tPar 0 1 (tCons (tVar 1) (tCons (tOp rModI (tVar 0) (tVar 1)) tNil))))
    (tRet (tVar 0))))
theorem sc_common : FnScope N_common ["a", "b"] (defScope s_common) := ⟨rfl, rfl, rfl, by decide +kernel, rfl, by decide +kernel, by decide +kernel⟩
theorem d_common {P : Program} {w : World} {K : PySem.W.Frag} {mg : Str → Option Value} {base : Heap} {f : Addr} {cdv : Value} {A : Around} {outer : List Env} {s : Shared} {H : Hp} {E : XK}  (T : Txt K mg)
    (cl : Calm A) (hr : Room 0 (A.deeper (envOfC "common" (defScope s_common) s.heap.objs.size f cdv))) :
    PSs (cxOf CX0 P w K mg base N_common "common" (defScope s_common) f cdv A outer s H E).nox (defBody s_common) (t_common K) := by
  have hu := hu_of hr
  have hu60 := Pk.hu60 hr
  have hu64 := hr.units
  have hu65 := Pk.hu65 hr
  exact (pss_cons (ps_par (i := 0) (j := 1) (by rfl) sc_common.nd rfl rfl (by decide) rfl rfl (pa_cons (pe_callB call_abs (by rfl) T.free_abs (by decide +kernel) (pa_cons (pv 0) pa_nil)) (pa_cons (pe_callB call_abs (by rfl) T.free_abs (by decide +kernel) (pa_cons (pv 1) pa_nil)) pa_nil)) (by rfl))
    (pss_cons (ps_while PassesOwn.never (pt_truth (pv 1) (by intro _; rfl))
      (pss_one (ps_par (i := 0) (j := 1) (by rfl) sc_common.nd rfl rfl (by decide) rfl rfl (pa_cons (pv 1) (pa_cons (pe_op op_mod (pv 0) (pv 1)) pa_nil)) (by rfl))))
    (pss_one (ps_ret (pv 0)))))

/-! ### fraction -/
abbrev N_fraction : List Str := ["a", "b", "shared"]
def t_fraction (K : PySem.W.Frag) (q_common : Sp) : TS :=
  (tSeq (tAsg (tCall q_common [] E0 (tCons (tVar 0) (tCons (tVar 1) tNil))) (gName 2))
    (tSeq (tIfS (tTest (tOp rLtI (tVar 1) (tC (.int 0))))
      (tAsg (tUn rNegI (tVar 2)) (gName 2)) tNext)
    (tRet (tTup (tCons (tOp rDivW (tVar 0) (tVar 2)) (tCons (tOp rDivW (tVar 1) (tVar 2)) tNil))))))
theorem sc_fraction : FnScope N_fraction ["a", "b"] (defScope s_fraction) := ⟨rfl, rfl, rfl, by decide +kernel, rfl, by decide +kernel, by decide +kernel⟩
theorem d_fraction {P : Program} {w : World} {K : PySem.W.Frag} {mg : Str → Option Value} {base : Heap} {f : Addr} {cdv : Value} {A : Around} {outer : List Env} {s : Shared} {H : Hp} {E : XK}  (q_common : Sp) (T : Txt K mg) (c_common : Callee P w K mg base 1 "common" ["a", "b"] q_common)
    (cl : Calm A) (hr : Room 1 (A.deeper (envOfC "fraction" (defScope s_fraction) s.heap.objs.size f cdv))) :
    PSs (cxOf CX0 P w K mg base N_fraction "fraction" (defScope s_fraction) f cdv A outer s H E).nox (defBody s_fraction) (t_fraction K q_common) := by
  have hu := hu_of hr
  have hu60 := Pk.hu60 hr
  have hu64 := hr.units
  have hu65 := Pk.hu65 hr
  exact (pss_cons (ps_set (i := 2) sc_fraction.nd rfl (by first | exact Or.inl rfl | exact Or.inr rfl) (pe_fn c_common cl hr (by rfl) (pa_cons (pv 0) (pa_cons (pv 1) pa_nil))))
    (pss_cons (ps_if (pt_cmpR op_lt (pv 1) pe_int (nomark _))
      (pss_one (ps_set (i := 2) sc_fraction.nd rfl (by first | exact Or.inl rfl | exact Or.inr rfl) (pe_un un_neg (pv 2)))) pss_nil)
    (pss_one (ps_ret (pe_tup (pa_cons (pe_op op_fdivW (pv 0) (pv 2)) (pa_cons (pe_op op_fdivW (pv 1) (pv 2)) pa_nil)))))))

/-! ### plus -/
abbrev N_plus : List Str := ["x", "y"]
def t_plus (K : PySem.W.Frag) (q_fraction : Sp) : TS :=
  (tRet (tCall q_fraction [] E0 (tCons (tOp rAddI (tOp rMulW (tOp (rIxT K) (tVar 0) (tC (.int 0))) (tOp (rIxT K) (tVar 1) (tC (.int 1)))) (tOp rMulW (tOp (rIxT K) (tVar 1) (tC (.int 0))) (tOp (rIxT K) (tVar 0) (tC (.int 1))))) (tCons (tOp rMulW (tOp (rIxT K) (tVar 0) (tC (.int 1))) (tOp (rIxT K) (tVar 1) (tC (.int 1)))) tNil))))
theorem sc_plus : FnScope N_plus ["x", "y"] (defScope s_plus) := ⟨rfl, rfl, rfl, by decide +kernel, rfl, by decide +kernel, by decide +kernel⟩
theorem d_plus {P : Program} {w : World} {K : PySem.W.Frag} {mg : Str → Option Value} {base : Heap} {f : Addr} {cdv : Value} {A : Around} {outer : List Env} {s : Shared} {H : Hp} {E : XK}  (q_fraction : Sp) (T : Txt K mg) (c_fraction : Callee P w K mg base 2 "fraction" ["a", "b"] q_fraction)
    (cl : Calm A) (hr : Room 2 (A.deeper (envOfC "plus" (defScope s_plus) s.heap.objs.size f cdv))) :
    PSs (cxOf CX0 P w K mg base N_plus "plus" (defScope s_plus) f cdv A outer s H E).nox (defBody s_plus) (t_plus K q_fraction) := by
  have hu := hu_of hr
  have hu60 := Pk.hu60 hr
  have hu64 := hr.units
  have hu65 := Pk.hu65 hr
  exact (pss_one (ps_ret (pe_fn c_fraction cl hr (by rfl) (pa_cons (pe_op op_add (pe_op op_mulW (pe_ix ix_tup (pv 0) pe_int (fun _ _ => rfl)) (pe_ix ix_tup (pv 1) pe_int (fun _ _ => rfl))) (pe_op op_mulW (pe_ix ix_tup (pv 1) pe_int (fun _ _ => rfl)) (pe_ix ix_tup (pv 0) pe_int (fun _ _ => rfl)))) (pa_cons (pe_op op_mulW (pe_ix ix_tup (pv 0) pe_int (fun _ _ => rfl)) (pe_ix ix_tup (pv 1) pe_int (fun _ _ => rfl))) pa_nil)))))

/-! ### times -/
abbrev N_times : List Str := ["x", "y"]
def t_times (K : PySem.W.Frag) (q_fraction : Sp) : TS :=
  (tRet (tCall q_fraction [] E0 (tCons (tOp rMulW (tOp (rIxT K) (tVar 0) (tC (.int 0))) (tOp (rIxT K) (tVar 1) (tC (.int 0)))) (tCons (tOp rMulW (tOp (rIxT K) (tVar 0) (tC (.int 1))) (tOp (rIxT K) (tVar 1) (tC (.int 1)))) tNil))))
theorem sc_times : FnScope N_times ["x", "y"] (defScope s_times) := ⟨rfl, rfl, rfl, by decide +kernel, rfl, by decide +kernel, by decide +kernel⟩
theorem d_times {P : Program} {w : World} {K : PySem.W.Frag} {mg : Str → Option Value} {base : Heap} {f : Addr} {cdv : Value} {A : Around} {outer : List Env} {s : Shared} {H : Hp} {E : XK}  (q_fraction : Sp) (T : Txt K mg) (c_fraction : Callee P w K mg base 2 "fraction" ["a", "b"] q_fraction)
    (cl : Calm A) (hr : Room 2 (A.deeper (envOfC "times" (defScope s_times) s.heap.objs.size f cdv))) :
    PSs (cxOf CX0 P w K mg base N_times "times" (defScope s_times) f cdv A outer s H E).nox (defBody s_times) (t_times K q_fraction) := by
  have hu := hu_of hr
  have hu60 := Pk.hu60 hr
  have hu64 := hr.units
  have hu65 := Pk.hu65 hr
  exact (pss_one (ps_ret (pe_fn c_fraction cl hr (by rfl) (pa_cons (pe_op op_mulW (pe_ix ix_tup (pv 0) pe_int (fun _ _ => rfl)) (pe_ix ix_tup (pv 1) pe_int (fun _ _ => rfl))) (pa_cons (pe_op op_mulW (pe_ix ix_tup (pv 0) pe_int (fun _ _ => rfl)) (pe_ix ix_tup (pv 1) pe_int (fun _ _ => rfl))) pa_nil)))))

/-! ### places_of -/
abbrev N_places_of : List Str := ["n", "d", "found", "turn", "row", "left", "item"]
def t_places_of (K : PySem.W.Frag) : TS :=
  (tSeq (tAsg (tLst (tCons (tTup (tCons (tTup tNil) (tCons (tVar 1) tNil))) tNil)) (gName 2))
    (tSeq (tFor (iRng1 (tCons (tOp rSubI (tVar 0) (tC (.int 1))) tNil)) (gName 3)
      (tAsg (tLc2 (iList K (tVar 2)) (gTup K 2 (gCons (gName 4) (gCons (gName 5) gNil))) tYes (iRng3 (tCons (tVar 5) (tCons (tUn rNegI (tC (.int 1))) (tCons (tUn rNegI (tC (.int 1))) tNil)))) (gName 6) tYes (tTup (tCons (tOp (rCatA K) (tVar 4) (tTup (tCons (tVar 6) tNil))) (tCons (tOp rSubI (tVar 5) (tVar 6)) tNil))) [4, 5, 6] [6]) (gName 2)))
    (tRet (tLc (iList K (tVar 2)) (gTup K 2 (gCons (gName 4) (gCons (gName 5) gNil))) tYes (tOp (rCatA K) (tVar 4) (tTup (tCons (tVar 5) tNil))) [4, 5]))))
theorem sc_places_of : FnScope N_places_of ["n", "d"] (defScope s_places_of) := ⟨rfl, rfl, rfl, by decide +kernel, rfl, by decide +kernel, by decide +kernel⟩
theorem d_places_of {P : Program} {w : World} {K : PySem.W.Frag} {mg : Str → Option Value} {base : Heap} {f : Addr} {cdv : Value} {A : Around} {outer : List Env} {s : Shared} {H : Hp} {E : XK}  (T : Txt K mg)
    (cl : Calm A) (hr : Room 0 (A.deeper (envOfC "places_of" (defScope s_places_of) s.heap.objs.size f cdv))) :
    PSs (cxOf CX0 P w K mg base N_places_of "places_of" (defScope s_places_of) f cdv A outer s H E).nox (defBody s_places_of) (t_places_of K) := by
  have hu := hu_of hr
  have hu60 := Pk.hu60 hr
  have hu64 := hr.units
  have hu65 := Pk.hu65 hr
  exact (pss_cons (ps_set (i := 2) sc_places_of.nd rfl (by first | exact Or.inl rfl | exact Or.inr rfl) (pe_lst (pa_cons (pe_tup (pa_cons (pe_tup pa_nil) (pa_cons (pv 1) pa_nil))) pa_nil)))
    (pss_cons (ps_for PassesOwn.never rfl (pi_range1 (by rfl) T.free_range (pa_cons (pe_op op_sub (pv 0) pe_int) pa_nil)) (pg_name (i := 3) sc_places_of.nd rfl (by first | exact Or.inl rfl | exact Or.inr rfl))
      (pss_one (ps_setLc2 (i := 2) (own := [("row", 4), ("left", 5), ("item", 6)]) (vs1 := [6]) (g := (gTup K 2 (gCons (gName 4) (gCons (gName 5) gNil)))) (tt := tYes) (wi1 := (iRng3 (tCons (tVar 5) (tCons (tUn rNegI (tC (.int 1))) (tCons (tUn rNegI (tC (.int 1))) tNil))))) (g1 := (gName 6)) (tt1 := tYes) (te := (tTup (tCons (tOp (rCatA K) (tVar 4) (tTup (tCons (tVar 6) tNil))) (tCons (tOp rSubI (tVar 5) (tVar 6)) tNil)))) (by rfl) sc_places_of.nd rfl rfl (sw_true rfl rfl rfl (by decide +kernel)) (pi_list (pv 2)) (blkOk_by (own := [("row", 4), ("left", 5), ("item", 6)]) (N := N_places_of) (sc := defScope s_places_of) (by decide +kernel)) (by decide) (fun _ _ _ _ _ => (pg_tup (by rfl) (pgs_cons (pg_name (i := 4) sc_places_of.nd rfl (by first | exact Or.inl rfl | exact Or.inr rfl)) (pgs_cons (pg_name (i := 5) sc_places_of.nd rfl (by first | exact Or.inl rfl | exact Or.inr rfl)) pgs_nil)))) (fun _ _ _ _ _ => pts_nil) (fun _ _ _ _ _ => (pi_range3 (by rfl) T.free_range (pa_cons (pv 5) (pa_cons (pe_un un_neg pe_int) (pa_cons (pe_un un_neg pe_int) pa_nil))))) (fun _ _ _ _ _ => (pg_name (i := 6) sc_places_of.nd rfl (by first | exact Or.inl rfl | exact Or.inr rfl))) (fun _ _ _ _ _ => pts_nil) (fun _ _ _ _ _ => (pe_tup (pa_cons (pe_op op_catA (pv 4) (pe_tup (pa_cons (pv 6) pa_nil))) (pa_cons (pe_op op_sub (pv 5) (pv 6)) pa_nil)))))))
    (pss_one (ps_ret (pe_lc (own := [("row", 4), ("left", 5)]) (g := (gTup K 2 (gCons (gName 4) (gCons (gName 5) gNil)))) (tt := tYes) (te := (tOp (rCatA K) (tVar 4) (tTup (tCons (tVar 5) tNil)))) (by rfl) sc_places_of.nd (pi_list (pv 2)) (blkOk_by (own := [("row", 4), ("left", 5)]) (N := N_places_of) (sc := defScope s_places_of) (by decide +kernel)) (fun _ _ _ _ _ => (pg_tup (by rfl) (pgs_cons (pg_name (i := 4) sc_places_of.nd rfl (by first | exact Or.inl rfl | exact Or.inr rfl)) (pgs_cons (pg_name (i := 5) sc_places_of.nd rfl (by first | exact Or.inl rfl | exact Or.inr rfl)) pgs_nil)))) (fun _ _ _ _ _ => pts_nil) (fun _ _ _ _ _ => (pe_op op_catA (pv 4) (pe_tup (pa_cons (pv 5) pa_nil)))))))))

/-! ### spots_of -/
abbrev N_spots_of : List Str := ["n", "d", "spot", "place"]
def t_spots_of (K : PySem.W.Frag) (q_places_of : Sp) : TS :=
  (tRet (tDcT (iEnum K (tCons (tCall q_places_of [] E0 (tCons (tVar 0) (tCons (tVar 1) tNil))) tNil)) (gTup K 2 (gCons (gName 2) (gCons (gName 3) gNil))) tYes (tVar 3) (tVar 2) [2, 3]))
theorem sc_spots_of : FnScope N_spots_of ["n", "d"] (defScope s_spots_of) := ⟨rfl, rfl, rfl, by decide +kernel, rfl, by decide +kernel, by decide +kernel⟩
theorem d_spots_of {P : Program} {w : World} {K : PySem.W.Frag} {mg : Str → Option Value} {base : Heap} {f : Addr} {cdv : Value} {A : Around} {outer : List Env} {s : Shared} {H : Hp} {E : XK}  (q_places_of : Sp) (T : Txt K mg) (c_places_of : Callee P w K mg base 1 "places_of" ["n", "d"] q_places_of)
    (cl : Calm A) (hr : Room 1 (A.deeper (envOfC "spots_of" (defScope s_spots_of) s.heap.objs.size f cdv))) :
    PSs (cxOf CX0 P w K mg base N_spots_of "spots_of" (defScope s_spots_of) f cdv A outer s H E).nox (defBody s_spots_of) (t_spots_of K q_places_of) := by
  have hu := hu_of hr
  have hu60 := Pk.hu60 hr
  have hu64 := hr.units
  have hu65 := Pk.hu65 hr
  exact (pss_one (ps_ret (pe_dcT hu (own := [("spot", 2), ("place", 3)]) (g := (gTup K 2 (gCons (gName 2) (gCons (gName 3) gNil)))) (tt := tYes) (tk := (tVar 3)) (tv := (tVar 2)) (by rfl) sc_spots_of.nd (pi_enum (by rfl) T.free_enumerate (pa_cons (pe_fn c_places_of cl hr (by rfl) (pa_cons (pv 0) (pa_cons (pv 1) pa_nil))) pa_nil)) (blkOk_by (own := [("spot", 2), ("place", 3)]) (N := N_spots_of) (sc := defScope s_spots_of) (by decide +kernel)) (fun _ _ _ _ _ => (pg_tup (by rfl) (pgs_cons (pg_name (i := 2) sc_spots_of.nd rfl (by first | exact Or.inl rfl | exact Or.inr rfl)) (pgs_cons (pg_name (i := 3) sc_spots_of.nd rfl (by first | exact Or.inl rfl | exact Or.inr rfl)) pgs_nil)))) (fun _ _ _ _ _ => pts_nil) (fun _ _ _ _ _ => (pv 3)) (fun _ _ _ _ _ => (pv 2)))))

/-! ### form_sum -/
abbrev N_form_sum : List Str := ["first", "second", "x", "y"]
def t_form_sum (K : PySem.W.Frag) (q_plus : Sp) : TS :=
  (tRet (tLc (iZip K (tCons (tVar 0) (tCons (tVar 1) tNil))) (gTup K 2 (gCons (gName 2) (gCons (gName 3) gNil))) tYes (tCall q_plus [] E0 (tCons (tVar 2) (tCons (tVar 3) tNil))) [2, 3]))
theorem sc_form_sum : FnScope N_form_sum ["first", "second"] (defScope s_form_sum) := ⟨rfl, rfl, rfl, by decide +kernel, rfl, by decide +kernel, by decide +kernel⟩
theorem d_form_sum {P : Program} {w : World} {K : PySem.W.Frag} {mg : Str → Option Value} {base : Heap} {f : Addr} {cdv : Value} {A : Around} {outer : List Env} {s : Shared} {H : Hp} {E : XK}  (q_plus : Sp) (T : Txt K mg) (c_plus : Callee P w K mg base 3 "plus" ["x", "y"] q_plus)
    (cl : Calm A) (hr : Room 3 (A.deeper (envOfC "form_sum" (defScope s_form_sum) s.heap.objs.size f cdv))) :
    PSs (cxOf CX0 P w K mg base N_form_sum "form_sum" (defScope s_form_sum) f cdv A outer s H E).nox (defBody s_form_sum) (t_form_sum K q_plus) := by
  have hu := hu_of hr
  have hu60 := Pk.hu60 hr
  have hu64 := hr.units
  have hu65 := Pk.hu65 hr
  exact (pss_one (ps_ret (pe_lc (own := [("x", 2), ("y", 3)]) (g := (gTup K 2 (gCons (gName 2) (gCons (gName 3) gNil)))) (tt := tYes) (te := (tCall q_plus [] E0 (tCons (tVar 2) (tCons (tVar 3) tNil)))) (by rfl) sc_form_sum.nd (pi_zip (by rfl) T.free_zip (pa_cons (pv 0) (pa_cons (pv 1) pa_nil))) (blkOk_by (own := [("x", 2), ("y", 3)]) (N := N_form_sum) (sc := defScope s_form_sum) (by decide +kernel)) (fun _ _ _ _ _ => (pg_tup (by rfl) (pgs_cons (pg_name (i := 2) sc_form_sum.nd rfl (by first | exact Or.inl rfl | exact Or.inr rfl)) (pgs_cons (pg_name (i := 3) sc_form_sum.nd rfl (by first | exact Or.inl rfl | exact Or.inr rfl)) pgs_nil)))) (fun _ _ _ _ _ => pts_nil) (fun _ _ _ _ _ => (pe_fn c_plus cl hr (by rfl) (pa_cons (pv 2) (pa_cons (pv 3) pa_nil)))))))

/-! ### form_times -/
abbrev N_form_times : List Str := ["x", "form", "item"]
def t_form_times (K : PySem.W.Frag) (q_times : Sp) : TS :=
  (tRet (tLc (iList K (tVar 1)) (gName 2) tYes (tCall q_times [] E0 (tCons (tVar 0) (tCons (tVar 2) tNil))) [2]))
theorem sc_form_times : FnScope N_form_times ["x", "form"] (defScope s_form_times) := ⟨rfl, rfl, rfl, by decide +kernel, rfl, by decide +kernel, by decide +kernel⟩
theorem d_form_times {P : Program} {w : World} {K : PySem.W.Frag} {mg : Str → Option Value} {base : Heap} {f : Addr} {cdv : Value} {A : Around} {outer : List Env} {s : Shared} {H : Hp} {E : XK}  (q_times : Sp) (T : Txt K mg) (c_times : Callee P w K mg base 3 "times" ["x", "y"] q_times)
    (cl : Calm A) (hr : Room 3 (A.deeper (envOfC "form_times" (defScope s_form_times) s.heap.objs.size f cdv))) :
    PSs (cxOf CX0 P w K mg base N_form_times "form_times" (defScope s_form_times) f cdv A outer s H E).nox (defBody s_form_times) (t_form_times K q_times) := by
  have hu := hu_of hr
  have hu60 := Pk.hu60 hr
  have hu64 := hr.units
  have hu65 := Pk.hu65 hr
  exact (pss_one (ps_ret (pe_lc (own := [("item", 2)]) (g := (gName 2)) (tt := tYes) (te := (tCall q_times [] E0 (tCons (tVar 0) (tCons (tVar 2) tNil)))) (by rfl) sc_form_times.nd (pi_list (pv 1)) (blkOk_by (own := [("item", 2)]) (N := N_form_times) (sc := defScope s_form_times) (by decide +kernel)) (fun _ _ _ _ _ => (pg_name (i := 2) sc_form_times.nd rfl (by first | exact Or.inl rfl | exact Or.inr rfl))) (fun _ _ _ _ _ => pts_nil) (fun _ _ _ _ _ => (pe_fn c_times cl hr (by rfl) (pa_cons (pv 0) (pa_cons (pv 2) pa_nil)))))))

/-! ### cleared -/
abbrev N_cleared : List Str := ["form", "shared", "item"]
def t_cleared (K : PySem.W.Frag) : TS :=
  (tSeq (tAsg (tC (.int 1)) (gName 1))
    (tSeq (tFor (iList K (tVar 0)) (gName 2)
      (tAsg (tOp rMulW (tOp rDivW (tVar 1) (tCB rGcd (tCons (tVar 1) (tCons (tOp (rIxT K) (tVar 2) (tC (.int 1))) tNil)))) (tOp (rIxT K) (tVar 2) (tC (.int 1)))) (gName 1)))
    (tRet (tTup (tCons (tLc (iList K (tVar 0)) (gName 2) tYes (tOp rMulW (tOp (rIxT K) (tVar 2) (tC (.int 0))) (tOp rDivW (tVar 1) (tOp (rIxT K) (tVar 2) (tC (.int 1))))) [2]) (tCons (tVar 1) tNil))))))
theorem sc_cleared : FnScope N_cleared ["form"] (defScope s_cleared) := ⟨rfl, rfl, rfl, by decide +kernel, rfl, by decide +kernel, by decide +kernel⟩
theorem d_cleared {P : Program} {w : World} {K : PySem.W.Frag} {mg : Str → Option Value} {base : Heap} {f : Addr} {cdv : Value} {A : Around} {outer : List Env} {s : Shared} {H : Hp} {E : XK}  (T : Txt K mg)
    (cl : Calm A) (hr : Room 0 (A.deeper (envOfC "cleared" (defScope s_cleared) s.heap.objs.size f cdv))) :
    PSs (cxOf CX0 P w K mg base N_cleared "cleared" (defScope s_cleared) f cdv A outer s H E).nox (defBody s_cleared) (t_cleared K) := by
  have hu := hu_of hr
  have hu60 := Pk.hu60 hr
  have hu64 := hr.units
  have hu65 := Pk.hu65 hr
  exact (pss_cons (ps_set (i := 1) sc_cleared.nd rfl (by first | exact Or.inl rfl | exact Or.inr rfl) pe_int)
    (pss_cons (ps_for PassesOwn.never rfl (pi_list (pv 0)) (pg_name (i := 2) sc_cleared.nd rfl (by first | exact Or.inl rfl | exact Or.inr rfl))
      (pss_one (ps_set (i := 1) sc_cleared.nd rfl (by first | exact Or.inl rfl | exact Or.inr rfl) (pe_op op_mulW (pe_op op_fdivW (pv 1) (pe_callBfun cr_gcd (by rfl) T.gcd (pa_cons (pv 1) (pa_cons (pe_ix ix_tup (pv 2) pe_int (fun _ _ => rfl)) pa_nil)))) (pe_ix ix_tup (pv 2) pe_int (fun _ _ => rfl))))))
    (pss_one (ps_ret (pe_tup (pa_cons (pe_lc (own := [("item", 2)]) (g := (gName 2)) (tt := tYes) (te := (tOp rMulW (tOp (rIxT K) (tVar 2) (tC (.int 0))) (tOp rDivW (tVar 1) (tOp (rIxT K) (tVar 2) (tC (.int 1)))))) (by rfl) sc_cleared.nd (pi_list (pv 0)) (blkOk_by (own := [("item", 2)]) (N := N_cleared) (sc := defScope s_cleared) (by decide +kernel)) (fun _ _ _ _ _ => (pg_name (i := 2) sc_cleared.nd rfl (by first | exact Or.inl rfl | exact Or.inr rfl))) (fun _ _ _ _ _ => pts_nil) (fun _ _ _ _ _ => (pe_op op_mulW (pe_ix ix_tup (pv 2) pe_int (fun _ _ => rfl)) (pe_op op_fdivW (pv 1) (pe_ix ix_tup (pv 2) pe_int (fun _ _ => rfl)))))) (pa_cons (pv 1) pa_nil)))))))

/-! ### integer_product -/
abbrev N_integer_product : List Str := ["n", "first", "d", "second", "e", "spots", "found", "others", "other", "y", "place", "x", "spot", "item", "more"]
def t_integer_product (K : PySem.W.Frag) (q_places_of : Sp) (q_spots_of : Sp) : TS :=
  (tSeq (tAsg (tCall q_spots_of [] E0 (tCons (tVar 0) (tCons (tOp rAddI (tVar 2) (tVar 4)) tNil))) (gName 5))
    (tSeq (tAsg (tOp rRep (tLst (tCons (tC (.int 0)) tNil)) (tCB rLenT (tCons (tVar 5) tNil))) (gName 6))
    (tSeq (tAsg (tLc (iZip K (tCons (tCall q_places_of [] E0 (tCons (tVar 0) (tCons (tVar 4) tNil))) (tCons (tVar 3) tNil))) (gTup K 2 (gCons (gName 8) (gCons (gName 9) gNil))) (tTruK K (tVar 9)) (tTup (tCons (tVar 8) (tCons (tVar 9) tNil))) [8, 9]) (gName 7))
    (tSeq (tFor (iZip K (tCons (tCall q_places_of [] E0 (tCons (tVar 0) (tCons (tVar 2) tNil))) (tCons (tVar 1) tNil))) (gTup K 2 (gCons (gName 10) (gCons (gName 11) gNil)))
      (tIfS (tTruK K (tVar 11))
      (tFor (iList K (tVar 7)) (gTup K 2 (gCons (gName 8) (gCons (gName 9) gNil)))
      (tSeq (tAsg (tDGet (tVar 5) (tCB (rTupQ K) (tCons (tLc (RZ.iZipA K (tCons (tVar 10) (tCons (tVar 8) tNil))) (gTup K 2 (gCons (gName 13) (gCons (gName 14) gNil))) tYes (tOp rAddI (tVar 13) (tVar 14)) [13, 14]) tNil))) (gName 12))
    (tAugS (tVar 6) (tVar 12) (tOp rMulW (tVar 11) (tVar 9)) (rIxL K) (ipI fun i j => i + j) rSetL))) tNext))
    (tRet (tVar 6))))))
theorem sc_integer_product : FnScope N_integer_product ["n", "first", "d", "second", "e"] (defScope s_integer_product) := ⟨rfl, rfl, rfl, by decide +kernel, rfl, by decide +kernel, by decide +kernel⟩
theorem d_integer_product {P : Program} {w : World} {K : PySem.W.Frag} {mg : Str → Option Value} {base : Heap} {f : Addr} {cdv : Value} {A : Around} {outer : List Env} {s : Shared} {H : Hp} {E : XK}  (q_places_of : Sp) (q_spots_of : Sp) (T : Txt K mg) (c_places_of : Callee P w K mg base 1 "places_of" ["n", "d"] q_places_of) (c_spots_of : Callee P w K mg base 2 "spots_of" ["n", "d"] q_spots_of)
    (cl : Calm A) (hr : Room 2 (A.deeper (envOfC "integer_product" (defScope s_integer_product) s.heap.objs.size f cdv))) :
    PSs (cxOf CX0 P w K mg base N_integer_product "integer_product" (defScope s_integer_product) f cdv A outer s H E).nox (defBody s_integer_product) (t_integer_product K q_places_of q_spots_of) := by
  have hu := hu_of hr
  have hu60 := Pk.hu60 hr
  have hu64 := hr.units
  have hu65 := Pk.hu65 hr
  exact (pss_cons (ps_set (i := 5) sc_integer_product.nd rfl (by first | exact Or.inl rfl | exact Or.inr rfl) (pe_fn c_spots_of cl hr (by rfl) (pa_cons (pv 0) (pa_cons (pe_op op_add (pv 2) (pv 4)) pa_nil))))
    (pss_cons (ps_set (i := 6) sc_integer_product.nd rfl (by first | exact Or.inl rfl | exact Or.inr rfl) (pe_op op_rep (pe_lst (pa_cons pe_int pa_nil)) (pe_callB call_len_dT (by rfl) T.free_len (by decide +kernel) (pa_cons (pv 5) pa_nil))))
    (pss_cons (ps_setLc (i := 7) (own := [("other", 8), ("y", 9)]) (g := (gTup K 2 (gCons (gName 8) (gCons (gName 9) gNil)))) (tt := (tTruK K (tVar 9))) (te := (tTup (tCons (tVar 8) (tCons (tVar 9) tNil)))) (by rfl) sc_integer_product.nd rfl rfl (sw_true rfl rfl rfl (by decide +kernel)) (pi_zip (by rfl) T.free_zip (pa_cons (pe_fn c_places_of cl hr (by rfl) (pa_cons (pv 0) (pa_cons (pv 4) pa_nil))) (pa_cons (pv 3) pa_nil))) (blkOk_by (own := [("other", 8), ("y", 9)]) (N := N_integer_product) (sc := defScope s_integer_product) (by decide +kernel)) (fun _ _ _ _ _ => (pg_tup (by rfl) (pgs_cons (pg_name (i := 8) sc_integer_product.nd rfl (by first | exact Or.inl rfl | exact Or.inr rfl)) (pgs_cons (pg_name (i := 9) sc_integer_product.nd rfl (by first | exact Or.inl rfl | exact Or.inr rfl)) pgs_nil)))) (fun _ _ _ _ _ => (pts_one (pt_truth (pv 9) (by intro _; rfl)))) (fun _ _ _ _ _ => (pe_tup (pa_cons (pv 8) (pa_cons (pv 9) pa_nil)))))
    (pss_cons (ps_for PassesOwn.never rfl (pi_zip (by rfl) T.free_zip (pa_cons (pe_fn c_places_of cl hr (by rfl) (pa_cons (pv 0) (pa_cons (pv 2) pa_nil))) (pa_cons (pv 1) pa_nil))) (pg_tup (by rfl) (pgs_cons (pg_name (i := 10) sc_integer_product.nd rfl (by first | exact Or.inl rfl | exact Or.inr rfl)) (pgs_cons (pg_name (i := 11) sc_integer_product.nd rfl (by first | exact Or.inl rfl | exact Or.inr rfl)) pgs_nil)))
      (pss_one (ps_if (pt_truth (pv 11) (by intro _; rfl))
      (pss_one (ps_for PassesOwn.never rfl (pi_list (pv 7)) (pg_tup (by rfl) (pgs_cons (pg_name (i := 8) sc_integer_product.nd rfl (by first | exact Or.inl rfl | exact Or.inr rfl)) (pgs_cons (pg_name (i := 9) sc_integer_product.nd rfl (by first | exact Or.inl rfl | exact Or.inr rfl)) pgs_nil)))
      (pss_cons (ps_set (i := 12) sc_integer_product.nd rfl (by first | exact Or.inl rfl | exact Or.inr rfl) (pe_dget hu (pv 5) (pe_callTy call_tuple_of (by rfl) T.free_tuple (by decide +kernel) (pa_cons (pe_lc (own := [("item", 13), ("more", 14)]) (g := (gTup K 2 (gCons (gName 13) (gCons (gName 14) gNil)))) (tt := tYes) (te := (tOp rAddI (tVar 13) (tVar 14))) (by rfl) sc_integer_product.nd (RZ.pi_zipA (by rfl) T.free_zip (pa_cons (pv 10) (pa_cons (pv 8) pa_nil))) (blkOk_by (own := [("item", 13), ("more", 14)]) (N := N_integer_product) (sc := defScope s_integer_product) (by decide +kernel)) (fun _ _ _ _ _ => (pg_tup (by rfl) (pgs_cons (pg_name (i := 13) sc_integer_product.nd rfl (by first | exact Or.inl rfl | exact Or.inr rfl)) (pgs_cons (pg_name (i := 14) sc_integer_product.nd rfl (by first | exact Or.inl rfl | exact Or.inr rfl)) pgs_nil)))) (fun _ _ _ _ _ => pts_nil) (fun _ _ _ _ _ => (pe_op op_add (pv 13) (pv 14)))) pa_nil)) (fun _ _ => rfl)))
    (pss_one (ps_augS (pv 6) (pv 12) get_list (pe_op op_mulW (pv 11) (pv 9)) ip_add set_list))))) pss_nil)))
    (pss_one (ps_ret (pv 6)))))))

/-! ### form_product -/
abbrev N_form_product : List Str := ["n", "first", "d", "second", "e", "one", "shared", "other", "more", "item"]
def t_form_product (K : PySem.W.Frag) (q_fraction : Sp) (q_cleared : Sp) (q_integer_product : Sp) : TS :=
  (tSeq (tAsg (tCall q_cleared [] E0 (tCons (tVar 1) tNil)) (gTup K 2 (gCons (gName 5) (gCons (gName 6) gNil))))
    (tSeq (tAsg (tCall q_cleared [] E0 (tCons (tVar 3) tNil)) (gTup K 2 (gCons (gName 7) (gCons (gName 8) gNil))))
    (tRet (tLc (iList K (tCall q_integer_product [] E0 (tCons (tVar 0) (tCons (tVar 5) (tCons (tVar 2) (tCons (tVar 7) (tCons (tVar 4) tNil))))))) (gName 9) tYes (tCall q_fraction [] E0 (tCons (tVar 9) (tCons (tOp rMulW (tVar 6) (tVar 8)) tNil))) [9]))))
theorem sc_form_product : FnScope N_form_product ["n", "first", "d", "second", "e"] (defScope s_form_product) := ⟨rfl, rfl, rfl, by decide +kernel, rfl, by decide +kernel, by decide +kernel⟩
theorem d_form_product {P : Program} {w : World} {K : PySem.W.Frag} {mg : Str → Option Value} {base : Heap} {f : Addr} {cdv : Value} {A : Around} {outer : List Env} {s : Shared} {H : Hp} {E : XK}  (q_fraction : Sp) (q_cleared : Sp) (q_integer_product : Sp) (T : Txt K mg) (c_fraction : Callee P w K mg base 2 "fraction" ["a", "b"] q_fraction) (c_cleared : Callee P w K mg base 1 "cleared" ["form"] q_cleared) (c_integer_product : Callee P w K mg base 3 "integer_product" ["n", "first", "d", "second", "e"] q_integer_product)
    (cl : Calm A) (hr : Room 3 (A.deeper (envOfC "form_product" (defScope s_form_product) s.heap.objs.size f cdv))) :
    PSs (cxOf CX0 P w K mg base N_form_product "form_product" (defScope s_form_product) f cdv A outer s H E).nox (defBody s_form_product) (t_form_product K q_fraction q_cleared q_integer_product) := by
  have hu := hu_of hr
  have hu60 := Pk.hu60 hr
  have hu64 := hr.units
  have hu65 := Pk.hu65 hr
  exact (pss_cons (ps_asg (pe_fn c_cleared cl hr (by rfl) (pa_cons (pv 1) pa_nil)) (pg_tup (by rfl) (pgs_cons (pg_name (i := 5) sc_form_product.nd rfl (by first | exact Or.inl rfl | exact Or.inr rfl)) (pgs_cons (pg_name (i := 6) sc_form_product.nd rfl (by first | exact Or.inl rfl | exact Or.inr rfl)) pgs_nil))))
    (pss_cons (ps_asg (pe_fn c_cleared cl hr (by rfl) (pa_cons (pv 3) pa_nil)) (pg_tup (by rfl) (pgs_cons (pg_name (i := 7) sc_form_product.nd rfl (by first | exact Or.inl rfl | exact Or.inr rfl)) (pgs_cons (pg_name (i := 8) sc_form_product.nd rfl (by first | exact Or.inl rfl | exact Or.inr rfl)) pgs_nil))))
    (pss_one (ps_ret (pe_lc (own := [("item", 9)]) (g := (gName 9)) (tt := tYes) (te := (tCall q_fraction [] E0 (tCons (tVar 9) (tCons (tOp rMulW (tVar 6) (tVar 8)) tNil)))) (by rfl) sc_form_product.nd (pi_list (pe_fn c_integer_product cl hr (by rfl) (pa_cons (pv 0) (pa_cons (pv 5) (pa_cons (pv 2) (pa_cons (pv 7) (pa_cons (pv 4) pa_nil))))))) (blkOk_by (own := [("item", 9)]) (N := N_form_product) (sc := defScope s_form_product) (by decide +kernel)) (fun _ _ _ _ _ => (pg_name (i := 9) sc_form_product.nd rfl (by first | exact Or.inl rfl | exact Or.inr rfl))) (fun _ _ _ _ _ => pts_nil) (fun _ _ _ _ _ => (pe_fn c_fraction cl hr (by rfl) (pa_cons (pv 9) (pa_cons (pe_op op_mulW (pv 6) (pv 8)) pa_nil)))))))))

/-! ### powers_at -/
abbrev N_powers_at : List Str := ["item", "most", "found", "turn"]
def t_powers_at (K : PySem.W.Frag) (q_times : Sp) : TS :=
  (tSeq (tAsg (tLst (tCons (tC (.ref (He.ga K "ONE"))) tNil)) (gName 2))
    (tSeq (tFor (iRng1 (tCons (tVar 1) tNil)) (gName 3)
      (tDrop (tBM K "list" rAppend (tVar 2) (tCons (tCall q_times [] E0 (tCons (tOp (rIxL K) (tVar 2) (tUn rNegI (tC (.int 1)))) (tCons (tVar 0) tNil))) tNil))))
    (tRet (tVar 2))))
theorem sc_powers_at : FnScope N_powers_at ["item", "most"] (defScope s_powers_at) := ⟨rfl, rfl, rfl, by decide +kernel, rfl, by decide +kernel, by decide +kernel⟩
theorem d_powers_at {P : Program} {w : World} {K : PySem.W.Frag} {mg : Str → Option Value} {base : Heap} {f : Addr} {cdv : Value} {A : Around} {outer : List Env} {s : Shared} {H : Hp} {E : XK}  (q_times : Sp) (T : Txt K mg) (c_times : Callee P w K mg base 3 "times" ["x", "y"] q_times)
    (cl : Calm A) (hr : Room 3 (A.deeper (envOfC "powers_at" (defScope s_powers_at) s.heap.objs.size f cdv))) :
    PSs (cxOf CX0 P w K mg base N_powers_at "powers_at" (defScope s_powers_at) f cdv A outer s H E).nox (defBody s_powers_at) (t_powers_at K q_times) := by
  have hu := hu_of hr
  have hu60 := Pk.hu60 hr
  have hu64 := hr.units
  have hu65 := Pk.hu65 hr
  exact (pss_cons (ps_set (i := 2) sc_powers_at.nd rfl (by first | exact Or.inl rfl | exact Or.inr rfl) (pe_lst (pa_cons (pe_glob (v := .ref (He.ga K "ONE")) rfl (T.con_ONE) rfl) pa_nil)))
    (pss_cons (ps_for PassesOwn.never rfl (pi_range1 (by rfl) T.free_range (pa_cons (pv 1) pa_nil)) (pg_name (i := 3) sc_powers_at.nd rfl (by first | exact Or.inl rfl | exact Or.inr rfl))
      (pss_one (ps_expr (pe_bm PySem.F.plainAttrs_list PySem.F.slot_list_append PySem.F.type_list_append mt_append (pv 2) (pa_cons (pe_fn c_times cl hr (by rfl) (pa_cons (pe_ix ix_list (pv 2) (pe_un un_neg pe_int) (fun _ _ => rfl)) (pa_cons (pv 0) pa_nil))) pa_nil)))))
    (pss_one (ps_ret (pv 2)))))

/-! ### form_at -/
abbrev N_form_at : List Str := ["n", "form", "d", "x", "powers", "item", "total", "place", "part", "k"]
def t_form_at (K : PySem.W.Frag) (q_plus : Sp) (q_times : Sp) (q_places_of : Sp) (q_powers_at : Sp) : TS :=
  (tSeq (tAsg (tLc (iTup K (tVar 3)) (gName 5) tYes (tCall q_powers_at [] E0 (tCons (tVar 5) (tCons (tVar 2) tNil))) [5]) (gName 4))
    (tSeq (tAsg (tC (.ref (He.ga K "ZERO"))) (gName 6))
    (tSeq (tFor (iZip K (tCons (tCall q_places_of [] E0 (tCons (tVar 0) (tCons (tVar 2) tNil))) (tCons (tVar 1) tNil))) (gTup K 2 (gCons (gName 7) (gCons (gName 5) gNil)))
      (tIfS (tTruK K (tOp (rIxT K) (tVar 5) (tC (.int 0))))
      (tSeq (tAsg (tVar 5) (gName 8))
    (tSeq (tFor (iRng1 (tCons (tVar 0) tNil)) (gName 9)
      (tAsg (tCall q_times [] E0 (tCons (tVar 8) (tCons (tOp (rIxL K) (tOp (rIxL K) (tVar 4) (tVar 9)) (tOp (rIxT K) (tVar 7) (tVar 9))) tNil))) (gName 8)))
    (tAsg (tCall q_plus [] E0 (tCons (tVar 6) (tCons (tVar 8) tNil))) (gName 6)))) tNext))
    (tRet (tVar 6)))))
theorem sc_form_at : FnScope N_form_at ["n", "form", "d", "x"] (defScope s_form_at) := ⟨rfl, rfl, rfl, by decide +kernel, rfl, by decide +kernel, by decide +kernel⟩
theorem d_form_at {P : Program} {w : World} {K : PySem.W.Frag} {mg : Str → Option Value} {base : Heap} {f : Addr} {cdv : Value} {A : Around} {outer : List Env} {s : Shared} {H : Hp} {E : XK}  (q_plus : Sp) (q_times : Sp) (q_places_of : Sp) (q_powers_at : Sp) (T : Txt K mg) (c_plus : Callee P w K mg base 3 "plus" ["x", "y"] q_plus) (c_times : Callee P w K mg base 3 "times" ["x", "y"] q_times) (c_places_of : Callee P w K mg base 1 "places_of" ["n", "d"] q_places_of) (c_powers_at : Callee P w K mg base 4 "powers_at" ["item", "most"] q_powers_at)
    (cl : Calm A) (hr : Room 4 (A.deeper (envOfC "form_at" (defScope s_form_at) s.heap.objs.size f cdv))) :
    PSs (cxOf CX0 P w K mg base N_form_at "form_at" (defScope s_form_at) f cdv A outer s H E).nox (defBody s_form_at) (t_form_at K q_plus q_times q_places_of q_powers_at) := by
  have hu := hu_of hr
  have hu60 := Pk.hu60 hr
  have hu64 := hr.units
  have hu65 := Pk.hu65 hr
  exact (pss_cons (ps_setLc (i := 4) (own := [("item", 5)]) (g := (gName 5)) (tt := tYes) (te := (tCall q_powers_at [] E0 (tCons (tVar 5) (tCons (tVar 2) tNil)))) (by rfl) sc_form_at.nd rfl rfl (sw_true rfl rfl rfl (by decide +kernel)) (pi_tup (pv 3)) (blkOk_by (own := [("item", 5)]) (N := N_form_at) (sc := defScope s_form_at) (by decide +kernel)) (fun _ _ _ _ _ => (pg_name (i := 5) sc_form_at.nd rfl (by first | exact Or.inl rfl | exact Or.inr rfl))) (fun _ _ _ _ _ => pts_nil) (fun _ _ _ _ _ => (pe_fn c_powers_at cl hr (by rfl) (pa_cons (pv 5) (pa_cons (pv 2) pa_nil)))))
    (pss_cons (ps_set (i := 6) sc_form_at.nd rfl (by first | exact Or.inl rfl | exact Or.inr rfl) (pe_glob (v := .ref (He.ga K "ZERO")) rfl (T.con_ZERO) rfl))
    (pss_cons (ps_for PassesOwn.never rfl (pi_zip (by rfl) T.free_zip (pa_cons (pe_fn c_places_of cl hr (by rfl) (pa_cons (pv 0) (pa_cons (pv 2) pa_nil))) (pa_cons (pv 1) pa_nil))) (pg_tup (by rfl) (pgs_cons (pg_name (i := 7) sc_form_at.nd rfl (by first | exact Or.inl rfl | exact Or.inr rfl)) (pgs_cons (pg_name (i := 5) sc_form_at.nd rfl (by first | exact Or.inl rfl | exact Or.inr rfl)) pgs_nil)))
      (pss_one (ps_if (pt_truth (pe_ix ix_tup (pv 5) pe_int (fun _ _ => rfl)) (by intro _; rfl))
      (pss_cons (ps_set (i := 8) sc_form_at.nd rfl (by first | exact Or.inl rfl | exact Or.inr rfl) (pv 5))
    (pss_cons (ps_for PassesOwn.never rfl (pi_range1 (by rfl) T.free_range (pa_cons (pv 0) pa_nil)) (pg_name (i := 9) sc_form_at.nd rfl (by first | exact Or.inl rfl | exact Or.inr rfl))
      (pss_one (ps_set (i := 8) sc_form_at.nd rfl (by first | exact Or.inl rfl | exact Or.inr rfl) (pe_fn c_times cl hr (by rfl) (pa_cons (pv 8) (pa_cons (pe_ix ix_list (pe_ix ix_list (pv 4) (pv 9) (fun _ _ => rfl)) (pe_ix ix_tup (pv 7) (pv 9) (fun _ _ => rfl)) (fun _ _ => rfl)) pa_nil))))))
    (pss_one (ps_set (i := 6) sc_form_at.nd rfl (by first | exact Or.inl rfl | exact Or.inr rfl) (pe_fn c_plus cl hr (by rfl) (pa_cons (pv 6) (pa_cons (pv 8) pa_nil))))))) pss_nil)))
    (pss_one (ps_ret (pv 6))))))

/-! ### _law_deck -/
abbrev N_law_deck : List Str := ["script", "seed", "cell"]
def t_law_deck (K : PySem.W.Frag) : TS :=
  (tSeq (tAsg (tC (.int 7)) (gName 1))
    (tSeq (tFor (iList K (tVar 0)) (gName 2)
      (tAsg (tOp rModI (tCB rIntQ (tCons (tOp rAddI (tOp rMulW (tVar 1) (tC (.int 48271))) (tVar 2)) tNil)) (tC (.int 2147483647))) (gName 1)))
    (tRet (tLst (tCons (tC (.int 0)) (tCons (tC (.int 0)) (tCons (tVar 1) (tCons (tCB (rListQ K) (tCons (tVar 0) tNil)) (tCons (tC (.int 0)) tNil)))))))))
theorem sc_law_deck : FnScope N_law_deck ["script"] (defScope s_law_deck) := ⟨rfl, rfl, rfl, by decide +kernel, rfl, by decide +kernel, by decide +kernel⟩
theorem d_law_deck {P : Program} {w : World} {K : PySem.W.Frag} {mg : Str → Option Value} {base : Heap} {f : Addr} {cdv : Value} {A : Around} {outer : List Env} {s : Shared} {H : Hp} {E : XK}  (T : Txt K mg)
    (cl : Calm A) (hr : Room 0 (A.deeper (envOfC "_law_deck" (defScope s_law_deck) s.heap.objs.size f cdv))) :
    PSs (cxOf CX0 P w K mg base N_law_deck "_law_deck" (defScope s_law_deck) f cdv A outer s H E).nox (defBody s_law_deck) (t_law_deck K) := by
  have hu := hu_of hr
  have hu60 := Pk.hu60 hr
  have hu64 := hr.units
  have hu65 := Pk.hu65 hr
  exact (pss_cons (ps_set (i := 1) sc_law_deck.nd rfl (by first | exact Or.inl rfl | exact Or.inr rfl) pe_int)
    (pss_cons (ps_for PassesOwn.never rfl (pi_list (pv 0)) (pg_name (i := 2) sc_law_deck.nd rfl (by first | exact Or.inl rfl | exact Or.inr rfl))
      (pss_one (ps_set (i := 1) sc_law_deck.nd rfl (by first | exact Or.inl rfl | exact Or.inr rfl) (pe_op op_mod (pe_callTy call_int1 (by rfl) T.free_int (by decide +kernel) (pa_cons (pe_op op_add (pe_op op_mulW (pv 1) pe_int) (pv 2)) pa_nil)) pe_int))))
    (pss_one (ps_ret (pe_lst (pa_cons pe_int (pa_cons pe_int (pa_cons (pv 1) (pa_cons (pe_callTy call_list_of (by rfl) T.free_list (by decide +kernel) (pa_cons (pv 0) pa_nil)) (pa_cons pe_int pa_nil))))))))))

/-! ### _law_draw -/
abbrev N_law_draw : List Str := ["deck", "bound", "number", "value"]
def t_law_draw (K : PySem.W.Frag) : TS :=
  (tSeq (tIfS (tAnd (tTest (tOp rEq (tOp (rIxL K) (tVar 0) (tC (.int 0))) (tC (.int 0)))) (tTest (tOp rLtI (tOp (rIxL K) (tVar 0) (tC (.int 1))) (tCB (rLenQ K) (tCons (tOp (rIxL K) (tVar 0) (tC (.int 3))) tNil)))))
      (tSeq (tAsg (tCB rAbsQ (tCons (tOp (rIxL K) (tOp (rIxL K) (tVar 0) (tC (.int 3))) (tOp (rIxL K) (tVar 0) (tC (.int 1)))) tNil)) (gSub (tVar 0) (tC (.int 0)) rSetL))
    (tAsg (tOp rAddI (tOp (rIxL K) (tVar 0) (tC (.int 1))) (tC (.int 1))) (gSub (tVar 0) (tC (.int 1)) rSetL))) (tIfS (tTest (tOp rEq (tOp (rIxL K) (tVar 0) (tC (.int 0))) (tC (.int 0))))
      (tSeq (tAsg (tOp rAddI (tOp (rIxL K) (tVar 0) (tC (.int 4))) (tC (.int 1))) (gSub (tVar 0) (tC (.int 4)) rSetL))
    (tSeq (tAsg (tOp rModI (tCB rIntQ (tCons (tOp rAddI (tOp rAddI (tOp rMulS (tOp (rIxL K) (tVar 0) (tC (.int 2))) (tC (.int 48271))) (tOp rMulS (tOp (rIxL K) (tVar 0) (tC (.int 4))) (tC (.int 69621)))) (tC (.int 12345))) tNil)) (tC (.int 2147483647))) (gName 2))
    (tSeq (tAsg (tOp rModI (tCB rIntQ (tCons (tOp rAddI (tOp rAddI (tOp rMulS (tVar 2) (tVar 2)) (tOp rMulS (tC (.int 16807)) (tOp (rIxL K) (tVar 0) (tC (.int 4))))) (tC (.int 7))) tNil)) (tC (.int 998244353))) (gName 2))
    (tSeq (tAsg (tOp rModI (tCB rIntQ (tCons (tOp rAddI (tOp rAddI (tOp rMulS (tVar 2) (tVar 2)) (tOp rMulS (tC (.int 48271)) (tOp (rIxL K) (tVar 0) (tC (.int 4))))) (tOp (rIxL K) (tVar 0) (tC (.int 2)))) tNil)) (tC (.int 2147483629))) (gName 2))
    (tAsg (tOp rDivW (tVar 2) (tC (.int 13))) (gSub (tVar 0) (tC (.int 0)) rSetL)))))) tNext))
    (tSeq (tAsg (tOp rModI (tCB rIntQ (tCons (tOp (rIxL K) (tVar 0) (tC (.int 0))) tNil)) (tVar 1)) (gName 3))
    (tSeq (tAsg (tOp rDivW (tOp (rIxL K) (tVar 0) (tC (.int 0))) (tVar 1)) (gSub (tVar 0) (tC (.int 0)) rSetL))
    (tRet (tVar 3)))))
theorem sc_law_draw : FnScope N_law_draw ["deck", "bound"] (defScope s_law_draw) := ⟨rfl, rfl, rfl, by decide +kernel, rfl, by decide +kernel, by decide +kernel⟩
theorem d_law_draw {P : Program} {w : World} {K : PySem.W.Frag} {mg : Str → Option Value} {base : Heap} {f : Addr} {cdv : Value} {A : Around} {outer : List Env} {s : Shared} {H : Hp} {E : XK}  (T : Txt K mg)
    (cl : Calm A) (hr : Room 0 (A.deeper (envOfC "_law_draw" (defScope s_law_draw) s.heap.objs.size f cdv))) :
    PSs (cxOf CX0 P w K mg base N_law_draw "_law_draw" (defScope s_law_draw) f cdv A outer s H E).nox (defBody s_law_draw) (t_law_draw K) := by
  have hu := hu_of hr
  have hu60 := Pk.hu60 hr
  have hu64 := hr.units
  have hu65 := Pk.hu65 hr
  exact (pss_cons (ps_if (PW.pt (pw_and (pt_cmpR op_eq (pe_ix ix_list (pv 0) pe_int (fun _ _ => rfl)) pe_int (nomark _)) (pw_and1 (pt_cmpR op_lt (pe_ix ix_list (pv 0) pe_int (fun _ _ => rfl)) (pe_callB call_len_seq (by rfl) T.free_len (by decide +kernel) (pa_cons (pe_ix ix_list (pv 0) pe_int (fun _ _ => rfl)) pa_nil)) (nomark _)))))
      (pss_cons (ps_asg (pe_callB call_abs (by rfl) T.free_abs (by decide +kernel) (pa_cons (pe_ix ix_list (pe_ix ix_list (pv 0) pe_int (fun _ _ => rfl)) (pe_ix ix_list (pv 0) pe_int (fun _ _ => rfl)) (fun _ _ => rfl)) pa_nil)) (pg_sub (pv 0) pe_int set_list))
    (pss_one (ps_asg (pe_op op_add (pe_ix ix_list (pv 0) pe_int (fun _ _ => rfl)) pe_int) (pg_sub (pv 0) pe_int set_list)))) (pss_one (ps_if (pt_cmpR op_eq (pe_ix ix_list (pv 0) pe_int (fun _ _ => rfl)) pe_int (nomark _))
      (pss_cons (ps_asg (pe_op op_add (pe_ix ix_list (pv 0) pe_int (fun _ _ => rfl)) pe_int) (pg_sub (pv 0) pe_int set_list))
    (pss_cons (ps_set (i := 2) sc_law_draw.nd rfl (by first | exact Or.inl rfl | exact Or.inr rfl) (pe_op op_mod (pe_callTy call_int1 (by rfl) T.free_int (by decide +kernel) (pa_cons (pe_op op_add (pe_op op_add (pe_op op_mul (pe_ix ix_list (pv 0) pe_int (fun _ _ => rfl)) pe_int) (pe_op op_mul (pe_ix ix_list (pv 0) pe_int (fun _ _ => rfl)) pe_int)) pe_int) pa_nil)) pe_int))
    (pss_cons (ps_set (i := 2) sc_law_draw.nd rfl (by first | exact Or.inl rfl | exact Or.inr rfl) (pe_op op_mod (pe_callTy call_int1 (by rfl) T.free_int (by decide +kernel) (pa_cons (pe_op op_add (pe_op op_add (pe_op op_mul (pv 2) (pv 2)) (pe_op op_mul pe_int (pe_ix ix_list (pv 0) pe_int (fun _ _ => rfl)))) pe_int) pa_nil)) pe_int))
    (pss_cons (ps_set (i := 2) sc_law_draw.nd rfl (by first | exact Or.inl rfl | exact Or.inr rfl) (pe_op op_mod (pe_callTy call_int1 (by rfl) T.free_int (by decide +kernel) (pa_cons (pe_op op_add (pe_op op_add (pe_op op_mul (pv 2) (pv 2)) (pe_op op_mul pe_int (pe_ix ix_list (pv 0) pe_int (fun _ _ => rfl)))) (pe_ix ix_list (pv 0) pe_int (fun _ _ => rfl))) pa_nil)) pe_int))
    (pss_one (ps_asg (pe_op op_fdivW (pv 2) pe_int) (pg_sub (pv 0) pe_int set_list))))))) pss_nil)))
    (pss_cons (ps_set (i := 3) sc_law_draw.nd rfl (by first | exact Or.inl rfl | exact Or.inr rfl) (pe_op op_mod (pe_callTy call_int1 (by rfl) T.free_int (by decide +kernel) (pa_cons (pe_ix ix_list (pv 0) pe_int (fun _ _ => rfl)) pa_nil)) (pv 1)))
    (pss_cons (ps_asg (pe_op op_fdivW (pe_ix ix_list (pv 0) pe_int (fun _ _ => rfl)) (pv 1)) (pg_sub (pv 0) pe_int set_list))
    (pss_one (ps_ret (pv 3))))))

/-! ### _law_is -/
abbrev N_law_is : List Str := ["value", "due"]
def t_law_is (K : PySem.W.Frag) : TS :=
  (tRet (tAndV (tOp (rEqD K) (tVar 0) (tVar 1)) (tOp rEq (tCB (rRepr K) (tCons (tVar 0) tNil)) (tCB (rRepr K) (tCons (tVar 1) tNil)))))
theorem sc_law_is : FnScope N_law_is ["value", "due"] (defScope s_law_is) := ⟨rfl, rfl, rfl, by decide +kernel, rfl, by decide +kernel, by decide +kernel⟩
theorem d_law_is {P : Program} {w : World} {K : PySem.W.Frag} {mg : Str → Option Value} {base : Heap} {f : Addr} {cdv : Value} {A : Around} {outer : List Env} {s : Shared} {H : Hp} {E : XK}  (T : Txt K mg)
    (cl : Calm A) (hr : Room 0 (A.deeper (envOfC "_law_is" (defScope s_law_is) s.heap.objs.size f cdv))) :
    PSs (cxOf CX0 P w K mg base N_law_is "_law_is" (defScope s_law_is) f cdv A outer s H E).nox (defBody s_law_is) (t_law_is K) := by
  have hu := hu_of hr
  have hu60 := Pk.hu60 hr
  have hu64 := hr.units
  have hu65 := Pk.hu65 hr
  exact (pss_one (ps_ret (pe_and (pe_cmpR (op_eqD hu64) (pv 0) (pv 1) (nomark _)) (pe_one (pe_cmpR op_eq (pe_callB (call_reprD cl hu60 T.digits) (by rfl) T.free_repr (by decide +kernel) (pa_cons (pv 0) pa_nil)) (pe_callB (call_reprD cl hu60 T.digits) (by rfl) T.free_repr (by decide +kernel) (pa_cons (pv 1) pa_nil)) (nomark _))))))

/-! ### _law_gcd -/
abbrev N_law_gcd : List Str := ["a", "b", "first", "second"]
def t_law_gcd (K : PySem.W.Frag) : TS :=
  (tSeq (tPar 2 3 (tCons (tCB rAbsQ (tCons (tVar 0) tNil)) (tCons (tCB rAbsQ (tCons (tVar 1) tNil)) tNil)))
    (tSeq (tWhile (tTest (tOp rGtI (tVar 3) (tC (.int 0))))
      (tPar 2 3 (tCons (tVar 3) (tCons (tOp rModI (tCB rIntQ (tCons (tVar 2) tNil)) (tVar 3)) tNil))))
    (tRet (tVar 2))))
theorem sc_law_gcd : FnScope N_law_gcd ["a", "b"] (defScope s_law_gcd) := ⟨rfl, rfl, rfl, by decide +kernel, rfl, by decide +kernel, by decide +kernel⟩
theorem d_law_gcd {P : Program} {w : World} {K : PySem.W.Frag} {mg : Str → Option Value} {base : Heap} {f : Addr} {cdv : Value} {A : Around} {outer : List Env} {s : Shared} {H : Hp} {E : XK}  (T : Txt K mg)
    (cl : Calm A) (hr : Room 0 (A.deeper (envOfC "_law_gcd" (defScope s_law_gcd) s.heap.objs.size f cdv))) :
    PSs (cxOf CX0 P w K mg base N_law_gcd "_law_gcd" (defScope s_law_gcd) f cdv A outer s H E).nox (defBody s_law_gcd) (t_law_gcd K) := by
  have hu := hu_of hr
  have hu60 := Pk.hu60 hr
  have hu64 := hr.units
  have hu65 := Pk.hu65 hr
  exact (pss_cons (ps_par (i := 2) (j := 3) (by rfl) sc_law_gcd.nd rfl rfl (by decide) rfl rfl (pa_cons (pe_callB call_abs (by rfl) T.free_abs (by decide +kernel) (pa_cons (pv 0) pa_nil)) (pa_cons (pe_callB call_abs (by rfl) T.free_abs (by decide +kernel) (pa_cons (pv 1) pa_nil)) pa_nil)) (by rfl))
    (pss_cons (ps_while PassesOwn.never (pt_cmpR op_gt (pv 3) pe_int (nomark _))
      (pss_one (ps_par (i := 2) (j := 3) (by rfl) sc_law_gcd.nd rfl rfl (by decide) rfl rfl (pa_cons (pv 3) (pa_cons (pe_op op_mod (pe_callTy call_int1 (by rfl) T.free_int (by decide +kernel) (pa_cons (pv 2) pa_nil)) (pv 3)) pa_nil)) (by rfl))))
    (pss_one (ps_ret (pv 2)))))

/-! ### _law_frac -/
abbrev N_law_frac : List Str := ["a", "b", "shared"]
def t_law_frac (K : PySem.W.Frag) (q_law_gcd : Sp) : TS :=
  (tSeq (tAsg (tCall q_law_gcd [] E0 (tCons (tVar 0) (tCons (tVar 1) tNil))) (gName 2))
    (tSeq (tIfS (tTest (tOp rLtI (tVar 1) (tC (.int 0))))
      (tAsg (tUn rNegI (tVar 2)) (gName 2)) tNext)
    (tRet (tTup (tCons (tOp rDivW (tVar 0) (tVar 2)) (tCons (tOp rDivW (tVar 1) (tVar 2)) tNil))))))
theorem sc_law_frac : FnScope N_law_frac ["a", "b"] (defScope s_law_frac) := ⟨rfl, rfl, rfl, by decide +kernel, rfl, by decide +kernel, by decide +kernel⟩
theorem d_law_frac {P : Program} {w : World} {K : PySem.W.Frag} {mg : Str → Option Value} {base : Heap} {f : Addr} {cdv : Value} {A : Around} {outer : List Env} {s : Shared} {H : Hp} {E : XK}  (q_law_gcd : Sp) (T : Txt K mg) (c_law_gcd : Callee P w K mg base 1 "_law_gcd" ["a", "b"] q_law_gcd)
    (cl : Calm A) (hr : Room 1 (A.deeper (envOfC "_law_frac" (defScope s_law_frac) s.heap.objs.size f cdv))) :
    PSs (cxOf CX0 P w K mg base N_law_frac "_law_frac" (defScope s_law_frac) f cdv A outer s H E).nox (defBody s_law_frac) (t_law_frac K q_law_gcd) := by
  have hu := hu_of hr
  have hu60 := Pk.hu60 hr
  have hu64 := hr.units
  have hu65 := Pk.hu65 hr
  exact (pss_cons (ps_set (i := 2) sc_law_frac.nd rfl (by first | exact Or.inl rfl | exact Or.inr rfl) (pe_fn c_law_gcd cl hr (by rfl) (pa_cons (pv 0) (pa_cons (pv 1) pa_nil))))
    (pss_cons (ps_if (pt_cmpR op_lt (pv 1) pe_int (nomark _))
      (pss_one (ps_set (i := 2) sc_law_frac.nd rfl (by first | exact Or.inl rfl | exact Or.inr rfl) (pe_un un_neg (pv 2)))) pss_nil)
    (pss_one (ps_ret (pe_tup (pa_cons (pe_op op_fdivW (pv 0) (pv 2)) (pa_cons (pe_op op_fdivW (pv 1) (pv 2)) pa_nil)))))))

/-! ### _law_plus -/
abbrev N_law_plus : List Str := ["x", "y"]
def t_law_plus (K : PySem.W.Frag) (q_law_frac : Sp) : TS :=
  (tRet (tCall q_law_frac [] E0 (tCons (tOp rAddI (tOp rMulW (tOp (rIxT K) (tVar 0) (tC (.int 0))) (tOp (rIxT K) (tVar 1) (tC (.int 1)))) (tOp rMulW (tOp (rIxT K) (tVar 1) (tC (.int 0))) (tOp (rIxT K) (tVar 0) (tC (.int 1))))) (tCons (tOp rMulW (tOp (rIxT K) (tVar 0) (tC (.int 1))) (tOp (rIxT K) (tVar 1) (tC (.int 1)))) tNil))))
theorem sc_law_plus : FnScope N_law_plus ["x", "y"] (defScope s_law_plus) := ⟨rfl, rfl, rfl, by decide +kernel, rfl, by decide +kernel, by decide +kernel⟩
theorem d_law_plus {P : Program} {w : World} {K : PySem.W.Frag} {mg : Str → Option Value} {base : Heap} {f : Addr} {cdv : Value} {A : Around} {outer : List Env} {s : Shared} {H : Hp} {E : XK}  (q_law_frac : Sp) (T : Txt K mg) (c_law_frac : Callee P w K mg base 2 "_law_frac" ["a", "b"] q_law_frac)
    (cl : Calm A) (hr : Room 2 (A.deeper (envOfC "_law_plus" (defScope s_law_plus) s.heap.objs.size f cdv))) :
    PSs (cxOf CX0 P w K mg base N_law_plus "_law_plus" (defScope s_law_plus) f cdv A outer s H E).nox (defBody s_law_plus) (t_law_plus K q_law_frac) := by
  have hu := hu_of hr
  have hu60 := Pk.hu60 hr
  have hu64 := hr.units
  have hu65 := Pk.hu65 hr
  exact (pss_one (ps_ret (pe_fn c_law_frac cl hr (by rfl) (pa_cons (pe_op op_add (pe_op op_mulW (pe_ix ix_tup (pv 0) pe_int (fun _ _ => rfl)) (pe_ix ix_tup (pv 1) pe_int (fun _ _ => rfl))) (pe_op op_mulW (pe_ix ix_tup (pv 1) pe_int (fun _ _ => rfl)) (pe_ix ix_tup (pv 0) pe_int (fun _ _ => rfl)))) (pa_cons (pe_op op_mulW (pe_ix ix_tup (pv 0) pe_int (fun _ _ => rfl)) (pe_ix ix_tup (pv 1) pe_int (fun _ _ => rfl))) pa_nil)))))

/-! ### _law_times -/
abbrev N_law_times : List Str := ["x", "y"]
def t_law_times (K : PySem.W.Frag) (q_law_frac : Sp) : TS :=
  (tRet (tCall q_law_frac [] E0 (tCons (tOp rMulW (tOp (rIxT K) (tVar 0) (tC (.int 0))) (tOp (rIxT K) (tVar 1) (tC (.int 0)))) (tCons (tOp rMulW (tOp (rIxT K) (tVar 0) (tC (.int 1))) (tOp (rIxT K) (tVar 1) (tC (.int 1)))) tNil))))
theorem sc_law_times : FnScope N_law_times ["x", "y"] (defScope s_law_times) := ⟨rfl, rfl, rfl, by decide +kernel, rfl, by decide +kernel, by decide +kernel⟩
theorem d_law_times {P : Program} {w : World} {K : PySem.W.Frag} {mg : Str → Option Value} {base : Heap} {f : Addr} {cdv : Value} {A : Around} {outer : List Env} {s : Shared} {H : Hp} {E : XK}  (q_law_frac : Sp) (T : Txt K mg) (c_law_frac : Callee P w K mg base 2 "_law_frac" ["a", "b"] q_law_frac)
    (cl : Calm A) (hr : Room 2 (A.deeper (envOfC "_law_times" (defScope s_law_times) s.heap.objs.size f cdv))) :
    PSs (cxOf CX0 P w K mg base N_law_times "_law_times" (defScope s_law_times) f cdv A outer s H E).nox (defBody s_law_times) (t_law_times K q_law_frac) := by
  have hu := hu_of hr
  have hu60 := Pk.hu60 hr
  have hu64 := hr.units
  have hu65 := Pk.hu65 hr
  exact (pss_one (ps_ret (pe_fn c_law_frac cl hr (by rfl) (pa_cons (pe_op op_mulW (pe_ix ix_tup (pv 0) pe_int (fun _ _ => rfl)) (pe_ix ix_tup (pv 1) pe_int (fun _ _ => rfl))) (pa_cons (pe_op op_mulW (pe_ix ix_tup (pv 0) pe_int (fun _ _ => rfl)) (pe_ix ix_tup (pv 1) pe_int (fun _ _ => rfl))) pa_nil)))))

/-! ### _law_places -/
abbrev N_law_places : List Str := ["n", "d", "b", "found", "a"]
def t_law_places (K : PySem.W.Frag) : TS :=
  (tSeq (tIfS (tTest (tOp rEq (tVar 0) (tC (.int 2))))
      (tRet (tLc (iRng1 (tCons (tOp rAddI (tVar 1) (tC (.int 1))) tNil)) (gName 2) tYes (tTup (tCons (tOp rSubI (tVar 1) (tVar 2)) (tCons (tVar 2) tNil))) [2])) tNext)
    (tSeq (tAsg (tLst tNil) (gName 3))
    (tSeq (tFor (iRng1 (tCons (tOp rAddI (tVar 1) (tC (.int 1))) tNil)) (gName 4)
      (tAsg (tOp rCat (tVar 3) (tLc (iRng1 (tCons (tOp rAddI (tVar 4) (tC (.int 1))) tNil)) (gName 2) tYes (tTup (tCons (tOp rSubI (tVar 1) (tVar 4)) (tCons (tOp rSubI (tVar 4) (tVar 2)) (tCons (tVar 2) tNil)))) [2])) (gName 3)))
    (tRet (tVar 3)))))
theorem sc_law_places : FnScope N_law_places ["n", "d"] (defScope s_law_places) := ⟨rfl, rfl, rfl, by decide +kernel, rfl, by decide +kernel, by decide +kernel⟩
theorem d_law_places {P : Program} {w : World} {K : PySem.W.Frag} {mg : Str → Option Value} {base : Heap} {f : Addr} {cdv : Value} {A : Around} {outer : List Env} {s : Shared} {H : Hp} {E : XK}  (T : Txt K mg)
    (cl : Calm A) (hr : Room 0 (A.deeper (envOfC "_law_places" (defScope s_law_places) s.heap.objs.size f cdv))) :
    PSs (cxOf CX0 P w K mg base N_law_places "_law_places" (defScope s_law_places) f cdv A outer s H E).nox (defBody s_law_places) (t_law_places K) := by
  have hu := hu_of hr
  have hu60 := Pk.hu60 hr
  have hu64 := hr.units
  have hu65 := Pk.hu65 hr
  exact (pss_cons (ps_if (pt_cmpR op_eq (pv 0) pe_int (nomark _))
      (pss_one (ps_ret (pe_lc (own := [("b", 2)]) (g := (gName 2)) (tt := tYes) (te := (tTup (tCons (tOp rSubI (tVar 1) (tVar 2)) (tCons (tVar 2) tNil)))) (by rfl) sc_law_places.nd (pi_range1 (by rfl) T.free_range (pa_cons (pe_op op_add (pv 1) pe_int) pa_nil)) (blkOk_by (own := [("b", 2)]) (N := N_law_places) (sc := defScope s_law_places) (by decide +kernel)) (fun _ _ _ _ _ => (pg_name (i := 2) sc_law_places.nd rfl (by first | exact Or.inl rfl | exact Or.inr rfl))) (fun _ _ _ _ _ => pts_nil) (fun _ _ _ _ _ => (pe_tup (pa_cons (pe_op op_sub (pv 1) (pv 2)) (pa_cons (pv 2) pa_nil))))))) pss_nil)
    (pss_cons (ps_set (i := 3) sc_law_places.nd rfl (by first | exact Or.inl rfl | exact Or.inr rfl) (pe_lst pa_nil))
    (pss_cons (ps_for PassesOwn.never rfl (pi_range1 (by rfl) T.free_range (pa_cons (pe_op op_add (pv 1) pe_int) pa_nil)) (pg_name (i := 4) sc_law_places.nd rfl (by first | exact Or.inl rfl | exact Or.inr rfl))
      (pss_one (ps_set (i := 3) sc_law_places.nd rfl (by first | exact Or.inl rfl | exact Or.inr rfl) (pe_op op_cat (pv 3) (pe_lc (own := [("b", 2)]) (g := (gName 2)) (tt := tYes) (te := (tTup (tCons (tOp rSubI (tVar 1) (tVar 4)) (tCons (tOp rSubI (tVar 4) (tVar 2)) (tCons (tVar 2) tNil))))) (by rfl) sc_law_places.nd (pi_range1 (by rfl) T.free_range (pa_cons (pe_op op_add (pv 4) pe_int) pa_nil)) (blkOk_by (own := [("b", 2)]) (N := N_law_places) (sc := defScope s_law_places) (by decide +kernel)) (fun _ _ _ _ _ => (pg_name (i := 2) sc_law_places.nd rfl (by first | exact Or.inl rfl | exact Or.inr rfl))) (fun _ _ _ _ _ => pts_nil) (fun _ _ _ _ _ => (pe_tup (pa_cons (pe_op op_sub (pv 1) (pv 4)) (pa_cons (pe_op op_sub (pv 4) (pv 2)) (pa_cons (pv 2) pa_nil))))))))))
    (pss_one (ps_ret (pv 3))))))

/-! ### _law_item -/
abbrev N_law_item : List Str := ["deck", "kind"]
def t_law_item (K : PySem.W.Frag) (q_law_draw : Sp) (q_law_frac : Sp) : TS :=
  (tSeq (tAsg (tCall q_law_draw [] E0 (tCons (tVar 0) (tCons (tC (.int 8)) tNil))) (gName 1))
    (tSeq (tIfS (tTest (tOp rLtI (tVar 1) (tC (.int 3))))
      (tRet (tTup (tCons (tC (.int 0)) (tCons (tC (.int 1)) tNil)))) tNext)
    (tSeq (tIfS (tTest (tOp rEq (tVar 1) (tC (.int 3))))
      (tRet (tCall q_law_frac [] E0 (tCons (tOp rSubI (tCall q_law_draw [] E0 (tCons (tVar 0) (tCons (tC (.int 1999999)) tNil))) (tC (.int 999999))) (tCons (tOp rAddI (tC (.int 1)) (tCall q_law_draw [] E0 (tCons (tVar 0) (tCons (tC (.int 999999)) tNil)))) tNil)))) tNext)
    (tRet (tCall q_law_frac [] E0 (tCons (tOp rSubI (tCall q_law_draw [] E0 (tCons (tVar 0) (tCons (tC (.int 13)) tNil))) (tC (.int 6))) (tCons (tOp rAddI (tC (.int 1)) (tCall q_law_draw [] E0 (tCons (tVar 0) (tCons (tC (.int 4)) tNil)))) tNil)))))))
theorem sc_law_item : FnScope N_law_item ["deck"] (defScope s_law_item) := ⟨rfl, rfl, rfl, by decide +kernel, rfl, by decide +kernel, by decide +kernel⟩
theorem d_law_item {P : Program} {w : World} {K : PySem.W.Frag} {mg : Str → Option Value} {base : Heap} {f : Addr} {cdv : Value} {A : Around} {outer : List Env} {s : Shared} {H : Hp} {E : XK}  (q_law_draw : Sp) (q_law_frac : Sp) (T : Txt K mg) (c_law_draw : Callee P w K mg base 1 "_law_draw" ["deck", "bound"] q_law_draw) (c_law_frac : Callee P w K mg base 2 "_law_frac" ["a", "b"] q_law_frac)
    (cl : Calm A) (hr : Room 2 (A.deeper (envOfC "_law_item" (defScope s_law_item) s.heap.objs.size f cdv))) :
    PSs (cxOf CX0 P w K mg base N_law_item "_law_item" (defScope s_law_item) f cdv A outer s H E).nox (defBody s_law_item) (t_law_item K q_law_draw q_law_frac) := by
  have hu := hu_of hr
  have hu60 := Pk.hu60 hr
  have hu64 := hr.units
  have hu65 := Pk.hu65 hr
  exact (pss_cons (ps_set (i := 1) sc_law_item.nd rfl (by first | exact Or.inl rfl | exact Or.inr rfl) (pe_fn c_law_draw cl hr (by rfl) (pa_cons (pv 0) (pa_cons pe_int pa_nil))))
    (pss_cons (ps_if (pt_cmpR op_lt (pv 1) pe_int (nomark _))
      (pss_one (ps_ret (pe_tup (pa_cons pe_int (pa_cons pe_int pa_nil))))) pss_nil)
    (pss_cons (ps_if (pt_cmpR op_eq (pv 1) pe_int (nomark _))
      (pss_one (ps_ret (pe_fn c_law_frac cl hr (by rfl) (pa_cons (pe_op op_sub (pe_fn c_law_draw cl hr (by rfl) (pa_cons (pv 0) (pa_cons pe_int pa_nil))) pe_int) (pa_cons (pe_op op_add pe_int (pe_fn c_law_draw cl hr (by rfl) (pa_cons (pv 0) (pa_cons pe_int pa_nil)))) pa_nil))))) pss_nil)
    (pss_one (ps_ret (pe_fn c_law_frac cl hr (by rfl) (pa_cons (pe_op op_sub (pe_fn c_law_draw cl hr (by rfl) (pa_cons (pv 0) (pa_cons pe_int pa_nil))) pe_int) (pa_cons (pe_op op_add pe_int (pe_fn c_law_draw cl hr (by rfl) (pa_cons (pv 0) (pa_cons pe_int pa_nil)))) pa_nil))))))))

/-! ### _law_degree -/
abbrev N_law_degree : List Str := ["deck"]
def t_law_degree (K : PySem.W.Frag) (q_law_draw : Sp) : TS :=
  (tSeq (tIfS (tTest (tOp rEq (tCall q_law_draw [] E0 (tCons (tVar 0) (tCons (tC (.int 10)) tNil))) (tC (.int 0))))
      (tRet (tOp rAddI (tC (.int 5)) (tCall q_law_draw [] E0 (tCons (tVar 0) (tCons (tC (.int 6)) tNil))))) tNext)
    (tRet (tCall q_law_draw [] E0 (tCons (tVar 0) (tCons (tC (.int 5)) tNil)))))
theorem sc_law_degree : FnScope N_law_degree ["deck"] (defScope s_law_degree) := ⟨rfl, rfl, rfl, by decide +kernel, rfl, by decide +kernel, by decide +kernel⟩
theorem d_law_degree {P : Program} {w : World} {K : PySem.W.Frag} {mg : Str → Option Value} {base : Heap} {f : Addr} {cdv : Value} {A : Around} {outer : List Env} {s : Shared} {H : Hp} {E : XK}  (q_law_draw : Sp) (T : Txt K mg) (c_law_draw : Callee P w K mg base 1 "_law_draw" ["deck", "bound"] q_law_draw)
    (cl : Calm A) (hr : Room 1 (A.deeper (envOfC "_law_degree" (defScope s_law_degree) s.heap.objs.size f cdv))) :
    PSs (cxOf CX0 P w K mg base N_law_degree "_law_degree" (defScope s_law_degree) f cdv A outer s H E).nox (defBody s_law_degree) (t_law_degree K q_law_draw) := by
  have hu := hu_of hr
  have hu60 := Pk.hu60 hr
  have hu64 := hr.units
  have hu65 := Pk.hu65 hr
  exact (pss_cons (ps_if (pt_cmpR op_eq (pe_fn c_law_draw cl hr (by rfl) (pa_cons (pv 0) (pa_cons pe_int pa_nil))) pe_int (nomark _))
      (pss_one (ps_ret (pe_op op_add pe_int (pe_fn c_law_draw cl hr (by rfl) (pa_cons (pv 0) (pa_cons pe_int pa_nil)))))) pss_nil)
    (pss_one (ps_ret (pe_fn c_law_draw cl hr (by rfl) (pa_cons (pv 0) (pa_cons pe_int pa_nil))))))

/-! ### _law_product -/
abbrev N_law_product : List Str := ["n", "first", "d", "second", "e", "places", "ones", "others", "found", "place", "i", "j", "at", "k"]
def t_law_product (K : PySem.W.Frag) (q_law_plus : Sp) (q_law_times : Sp) (q_law_places : Sp) : TS :=
  (tSeq (tAsg (tTup (tCons (tCall q_law_places [] E0 (tCons (tVar 0) (tCons (tOp rAddI (tVar 2) (tVar 4)) tNil))) (tCons (tCall q_law_places [] E0 (tCons (tVar 0) (tCons (tVar 2) tNil))) (tCons (tCall q_law_places [] E0 (tCons (tVar 0) (tCons (tVar 4) tNil))) tNil)))) (gTup K 3 (gCons (gName 5) (gCons (gName 6) (gCons (gName 7) gNil)))))
    (tSeq (tAsg (tLc (iList K (tVar 5)) (gName 9) tYes (tTup (tCons (tC (.int 0)) (tCons (tC (.int 1)) tNil))) [9]) (gName 8))
    (tSeq (tFor (iRng1 (tCons (tCB (rLenQ K) (tCons (tVar 6) tNil)) tNil)) (gName 10)
      (tFor (iRng1 (tCons (tCB (rLenQ K) (tCons (tVar 7) tNil)) tNil)) (gName 11)
      (tIfS (tAnd (tTest (tOp rNe (tOp (rIxT K) (tOp (rIxL K) (tVar 1) (tVar 10)) (tC (.int 0))) (tC (.int 0)))) (tTest (tOp rNe (tOp (rIxT K) (tOp (rIxL K) (tVar 3) (tVar 11)) (tC (.int 0))) (tC (.int 0)))))
      (tSeq (tAsg (tBM K "list" (rIndexD K) (tVar 5) (tCons (tCB (rTupQ K) (tCons (tLc (iRng1 (tCons (tVar 0) tNil)) (gName 13) tYes (tOp rAddI (tOp (rIxT K) (tOp (rIxL K) (tVar 6) (tVar 10)) (tVar 13)) (tOp (rIxT K) (tOp (rIxL K) (tVar 7) (tVar 11)) (tVar 13))) [13]) tNil)) tNil)) (gName 12))
    (tAsg (tCall q_law_plus [] E0 (tCons (tOp (rIxL K) (tVar 8) (tVar 12)) (tCons (tCall q_law_times [] E0 (tCons (tOp (rIxL K) (tVar 1) (tVar 10)) (tCons (tOp (rIxL K) (tVar 3) (tVar 11)) tNil))) tNil))) (gSub (tVar 8) (tVar 12) rSetL))) tNext)))
    (tRet (tVar 8)))))
theorem sc_law_product : FnScope N_law_product ["n", "first", "d", "second", "e"] (defScope s_law_product) := ⟨rfl, rfl, rfl, by decide +kernel, rfl, by decide +kernel, by decide +kernel⟩
theorem d_law_product {P : Program} {w : World} {K : PySem.W.Frag} {mg : Str → Option Value} {base : Heap} {f : Addr} {cdv : Value} {A : Around} {outer : List Env} {s : Shared} {H : Hp} {E : XK}  (q_law_plus : Sp) (q_law_times : Sp) (q_law_places : Sp) (T : Txt K mg) (c_law_plus : Callee P w K mg base 3 "_law_plus" ["x", "y"] q_law_plus) (c_law_times : Callee P w K mg base 3 "_law_times" ["x", "y"] q_law_times) (c_law_places : Callee P w K mg base 1 "_law_places" ["n", "d"] q_law_places)
    (cl : Calm A) (hr : Room 3 (A.deeper (envOfC "_law_product" (defScope s_law_product) s.heap.objs.size f cdv))) :
    PSs (cxOf CX0 P w K mg base N_law_product "_law_product" (defScope s_law_product) f cdv A outer s H E).nox (defBody s_law_product) (t_law_product K q_law_plus q_law_times q_law_places) := by
  have hu := hu_of hr
  have hu60 := Pk.hu60 hr
  have hu64 := hr.units
  have hu65 := Pk.hu65 hr
  exact (pss_cons (ps_asg (pe_tup (pa_cons (pe_fn c_law_places cl hr (by rfl) (pa_cons (pv 0) (pa_cons (pe_op op_add (pv 2) (pv 4)) pa_nil))) (pa_cons (pe_fn c_law_places cl hr (by rfl) (pa_cons (pv 0) (pa_cons (pv 2) pa_nil))) (pa_cons (pe_fn c_law_places cl hr (by rfl) (pa_cons (pv 0) (pa_cons (pv 4) pa_nil))) pa_nil)))) (pg_tup (by rfl) (pgs_cons (pg_name (i := 5) sc_law_product.nd rfl (by first | exact Or.inl rfl | exact Or.inr rfl)) (pgs_cons (pg_name (i := 6) sc_law_product.nd rfl (by first | exact Or.inl rfl | exact Or.inr rfl)) (pgs_cons (pg_name (i := 7) sc_law_product.nd rfl (by first | exact Or.inl rfl | exact Or.inr rfl)) pgs_nil)))))
    (pss_cons (ps_setLc (i := 8) (own := [("place", 9)]) (g := (gName 9)) (tt := tYes) (te := (tTup (tCons (tC (.int 0)) (tCons (tC (.int 1)) tNil)))) (by rfl) sc_law_product.nd rfl rfl (sw_true rfl rfl rfl (by decide +kernel)) (pi_list (pv 5)) (blkOk_by (own := [("place", 9)]) (N := N_law_product) (sc := defScope s_law_product) (by decide +kernel)) (fun _ _ _ _ _ => (pg_name (i := 9) sc_law_product.nd rfl (by first | exact Or.inl rfl | exact Or.inr rfl))) (fun _ _ _ _ _ => pts_nil) (fun _ _ _ _ _ => (pe_tup (pa_cons pe_int (pa_cons pe_int pa_nil)))))
    (pss_cons (ps_for PassesOwn.never rfl (pi_range1 (by rfl) T.free_range (pa_cons (pe_callB call_len_seq (by rfl) T.free_len (by decide +kernel) (pa_cons (pv 6) pa_nil)) pa_nil)) (pg_name (i := 10) sc_law_product.nd rfl (by first | exact Or.inl rfl | exact Or.inr rfl))
      (pss_one (ps_for PassesOwn.never rfl (pi_range1 (by rfl) T.free_range (pa_cons (pe_callB call_len_seq (by rfl) T.free_len (by decide +kernel) (pa_cons (pv 7) pa_nil)) pa_nil)) (pg_name (i := 11) sc_law_product.nd rfl (by first | exact Or.inl rfl | exact Or.inr rfl))
      (pss_one (ps_if (PW.pt (pw_and (pt_cmpR op_ne (pe_ix ix_tup (pe_ix ix_list (pv 1) (pv 10) (fun _ _ => rfl)) pe_int (fun _ _ => rfl)) pe_int (nomark _)) (pw_and1 (pt_cmpR op_ne (pe_ix ix_tup (pe_ix ix_list (pv 3) (pv 11) (fun _ _ => rfl)) pe_int (fun _ _ => rfl)) pe_int (nomark _)))))
      (pss_cons (ps_set (i := 12) sc_law_product.nd rfl (by first | exact Or.inl rfl | exact Or.inr rfl) (pe_bm PySem.F.plainAttrs_list PySem.F.slot_list_index PySem.F.type_list_index (mt_indexD hu65) (pv 5) (pa_cons (pe_callTy call_tuple_of (by rfl) T.free_tuple (by decide +kernel) (pa_cons (pe_lc (own := [("k", 13)]) (g := (gName 13)) (tt := tYes) (te := (tOp rAddI (tOp (rIxT K) (tOp (rIxL K) (tVar 6) (tVar 10)) (tVar 13)) (tOp (rIxT K) (tOp (rIxL K) (tVar 7) (tVar 11)) (tVar 13)))) (by rfl) sc_law_product.nd (pi_range1 (by rfl) T.free_range (pa_cons (pv 0) pa_nil)) (blkOk_by (own := [("k", 13)]) (N := N_law_product) (sc := defScope s_law_product) (by decide +kernel)) (fun _ _ _ _ _ => (pg_name (i := 13) sc_law_product.nd rfl (by first | exact Or.inl rfl | exact Or.inr rfl))) (fun _ _ _ _ _ => pts_nil) (fun _ _ _ _ _ => (pe_op op_add (pe_ix ix_tup (pe_ix ix_list (pv 6) (pv 10) (fun _ _ => rfl)) (pv 13) (fun _ _ => rfl)) (pe_ix ix_tup (pe_ix ix_list (pv 7) (pv 11) (fun _ _ => rfl)) (pv 13) (fun _ _ => rfl))))) pa_nil)) pa_nil)))
    (pss_one (ps_asg (pe_fn c_law_plus cl hr (by rfl) (pa_cons (pe_ix ix_list (pv 8) (pv 12) (fun _ _ => rfl)) (pa_cons (pe_fn c_law_times cl hr (by rfl) (pa_cons (pe_ix ix_list (pv 1) (pv 10) (fun _ _ => rfl)) (pa_cons (pe_ix ix_list (pv 3) (pv 11) (fun _ _ => rfl)) pa_nil))) pa_nil))) (pg_sub (pv 8) (pv 12) set_list)))) pss_nil)))))
    (pss_one (ps_ret (pv 8))))))

/-! ### _law_at -/
abbrev N_law_at : List Str := ["n", "form", "d", "x", "places", "total", "i", "part", "k", "turn"]
def t_law_at (K : PySem.W.Frag) (q_law_plus : Sp) (q_law_times : Sp) (q_law_places : Sp) : TS :=
  (tSeq (tPar 4 5 (tCons (tCall q_law_places [] E0 (tCons (tVar 0) (tCons (tVar 2) tNil))) (tCons (tTup (tCons (tC (.int 0)) (tCons (tC (.int 1)) tNil))) tNil)))
    (tSeq (tFor (iRng1 (tCons (tCB (rLenQ K) (tCons (tVar 4) tNil)) tNil)) (gName 6)
      (tSeq (tAsg (tOp (rIxL K) (tVar 1) (tVar 6)) (gName 7))
    (tSeq (tFor (iRng1 (tCons (tVar 0) tNil)) (gName 8)
      (tFor (iRng1 (tCons (tOp (rIxT K) (tOp (rIxL K) (tVar 4) (tVar 6)) (tVar 8)) tNil)) (gName 9)
      (tAsg (tCall q_law_times [] E0 (tCons (tVar 7) (tCons (tOp (rIxT K) (tVar 3) (tVar 8)) tNil))) (gName 7))))
    (tAsg (tCall q_law_plus [] E0 (tCons (tVar 5) (tCons (tVar 7) tNil))) (gName 5)))))
    (tRet (tVar 5))))
theorem sc_law_at : FnScope N_law_at ["n", "form", "d", "x"] (defScope s_law_at) := ⟨rfl, rfl, rfl, by decide +kernel, rfl, by decide +kernel, by decide +kernel⟩
theorem d_law_at {P : Program} {w : World} {K : PySem.W.Frag} {mg : Str → Option Value} {base : Heap} {f : Addr} {cdv : Value} {A : Around} {outer : List Env} {s : Shared} {H : Hp} {E : XK}  (q_law_plus : Sp) (q_law_times : Sp) (q_law_places : Sp) (T : Txt K mg) (c_law_plus : Callee P w K mg base 3 "_law_plus" ["x", "y"] q_law_plus) (c_law_times : Callee P w K mg base 3 "_law_times" ["x", "y"] q_law_times) (c_law_places : Callee P w K mg base 1 "_law_places" ["n", "d"] q_law_places)
    (cl : Calm A) (hr : Room 3 (A.deeper (envOfC "_law_at" (defScope s_law_at) s.heap.objs.size f cdv))) :
    PSs (cxOf CX0 P w K mg base N_law_at "_law_at" (defScope s_law_at) f cdv A outer s H E).nox (defBody s_law_at) (t_law_at K q_law_plus q_law_times q_law_places) := by
  have hu := hu_of hr
  have hu60 := Pk.hu60 hr
  have hu64 := hr.units
  have hu65 := Pk.hu65 hr
  exact (pss_cons (ps_par (i := 4) (j := 5) (by rfl) sc_law_at.nd rfl rfl (by decide) rfl rfl (pa_cons (pe_fn c_law_places cl hr (by rfl) (pa_cons (pv 0) (pa_cons (pv 2) pa_nil))) (pa_cons (pe_tup (pa_cons pe_int (pa_cons pe_int pa_nil))) pa_nil)) (by rfl))
    (pss_cons (ps_for PassesOwn.never rfl (pi_range1 (by rfl) T.free_range (pa_cons (pe_callB call_len_seq (by rfl) T.free_len (by decide +kernel) (pa_cons (pv 4) pa_nil)) pa_nil)) (pg_name (i := 6) sc_law_at.nd rfl (by first | exact Or.inl rfl | exact Or.inr rfl))
      (pss_cons (ps_set (i := 7) sc_law_at.nd rfl (by first | exact Or.inl rfl | exact Or.inr rfl) (pe_ix ix_list (pv 1) (pv 6) (fun _ _ => rfl)))
    (pss_cons (ps_for PassesOwn.never rfl (pi_range1 (by rfl) T.free_range (pa_cons (pv 0) pa_nil)) (pg_name (i := 8) sc_law_at.nd rfl (by first | exact Or.inl rfl | exact Or.inr rfl))
      (pss_one (ps_for PassesOwn.never rfl (pi_range1 (by rfl) T.free_range (pa_cons (pe_ix ix_tup (pe_ix ix_list (pv 4) (pv 6) (fun _ _ => rfl)) (pv 8) (fun _ _ => rfl)) pa_nil)) (pg_name (i := 9) sc_law_at.nd rfl (by first | exact Or.inl rfl | exact Or.inr rfl))
      (pss_one (ps_set (i := 7) sc_law_at.nd rfl (by first | exact Or.inl rfl | exact Or.inr rfl) (pe_fn c_law_times cl hr (by rfl) (pa_cons (pv 7) (pa_cons (pe_ix ix_tup (pv 3) (pv 8) (fun _ _ => rfl)) pa_nil))))))))
    (pss_one (ps_set (i := 5) sc_law_at.nd rfl (by first | exact Or.inl rfl | exact Or.inr rfl) (pe_fn c_law_plus cl hr (by rfl) (pa_cons (pv 5) (pa_cons (pv 7) pa_nil))))))))
    (pss_one (ps_ret (pv 5)))))

/-! ### _law_is_placed -/
abbrev N_law_is_placed : List Str := ["deck", "n", "d", "due", "told"]
def t_law_is_placed (K : PySem.W.Frag) (q_places_of : Sp) (q_law_draw : Sp) (q_law_is : Sp) (q_law_places : Sp) : TS :=
  (tSeq (tAsg (tCall q_law_places [] E0 (tCons (tVar 1) (tCons (tVar 2) tNil))) (gName 3))
    (tSeq (tAsg (tCall q_places_of [] E0 (tCons (tVar 1) (tCons (tVar 2) tNil))) (gName 4))
    (tSeq (tIfS (tNot (tB (tCall q_law_is [] E0 (tCons (tVar 4) (tCons (tVar 3) tNil)))))
      (tRet (tC (.bl false))) tNext)
    (tSeq (tAsg (tOp (rRepT K) (tTup (tCons (tC (.int 0)) tNil)) (tVar 1)) (gSub (tVar 4) (tCall q_law_draw [] E0 (tCons (tVar 0) (tCons (tCB (rLenQ K) (tCons (tVar 4) tNil)) tNil))) rSetL))
    (tSeq (tDrop (tBM K "list" rAppend (tVar 4) (tCons (tOp (rRepT K) (tTup (tCons (tC (.int 1)) tNil)) (tVar 1)) tNil)))
    (tRet (tCall q_law_is [] E0 (tCons (tCall q_places_of [] E0 (tCons (tVar 1) (tCons (tVar 2) tNil))) (tCons (tVar 3) tNil)))))))))
theorem sc_law_is_placed : FnScope N_law_is_placed ["deck", "n", "d"] (defScope s_law_is_placed) := ⟨rfl, rfl, rfl, by decide +kernel, rfl, by decide +kernel, by decide +kernel⟩
theorem d_law_is_placed {P : Program} {w : World} {K : PySem.W.Frag} {mg : Str → Option Value} {base : Heap} {f : Addr} {cdv : Value} {A : Around} {outer : List Env} {s : Shared} {H : Hp} {E : XK}  (q_places_of : Sp) (q_law_draw : Sp) (q_law_is : Sp) (q_law_places : Sp) (T : Txt K mg) (c_places_of : Callee P w K mg base 1 "places_of" ["n", "d"] q_places_of) (c_law_draw : Callee P w K mg base 1 "_law_draw" ["deck", "bound"] q_law_draw) (c_law_is : Callee P w K mg base 1 "_law_is" ["value", "due"] q_law_is) (c_law_places : Callee P w K mg base 1 "_law_places" ["n", "d"] q_law_places)
    (cl : Calm A) (hr : Room 1 (A.deeper (envOfC "_law_is_placed" (defScope s_law_is_placed) s.heap.objs.size f cdv))) :
    PSs (cxOf CX0 P w K mg base N_law_is_placed "_law_is_placed" (defScope s_law_is_placed) f cdv A outer s H E).nox (defBody s_law_is_placed) (t_law_is_placed K q_places_of q_law_draw q_law_is q_law_places) := by
  have hu := hu_of hr
  have hu60 := Pk.hu60 hr
  have hu64 := hr.units
  have hu65 := Pk.hu65 hr
  exact (pss_cons (ps_set (i := 3) sc_law_is_placed.nd rfl (by first | exact Or.inl rfl | exact Or.inr rfl) (pe_fn c_law_places cl hr (by rfl) (pa_cons (pv 1) (pa_cons (pv 2) pa_nil))))
    (pss_cons (ps_set (i := 4) sc_law_is_placed.nd rfl (by first | exact Or.inl rfl | exact Or.inr rfl) (pe_fn c_places_of cl hr (by rfl) (pa_cons (pv 1) (pa_cons (pv 2) pa_nil))))
    (pss_cons (ps_if (pt_not (pt_val (pe_fn c_law_is cl hr (by rfl) (pa_cons (pv 4) (pa_cons (pv 3) pa_nil))) (by intro _; rfl)))
      (pss_one (ps_ret pe_bl)) pss_nil)
    (pss_cons (ps_asg (pe_op op_repT (pe_tup (pa_cons pe_int pa_nil)) (pv 1)) (pg_sub (pv 4) (pe_fn c_law_draw cl hr (by rfl) (pa_cons (pv 0) (pa_cons (pe_callB call_len_seq (by rfl) T.free_len (by decide +kernel) (pa_cons (pv 4) pa_nil)) pa_nil))) set_list))
    (pss_cons (ps_expr (pe_bm PySem.F.plainAttrs_list PySem.F.slot_list_append PySem.F.type_list_append mt_append (pv 4) (pa_cons (pe_op op_repT (pe_tup (pa_cons pe_int pa_nil)) (pv 1)) pa_nil)))
    (pss_one (ps_ret (pe_fn c_law_is cl hr (by rfl) (pa_cons (pe_fn c_places_of cl hr (by rfl) (pa_cons (pv 1) (pa_cons (pv 2) pa_nil))) (pa_cons (pv 3) pa_nil))))))))))

/-! ### _law_is_summed -/
abbrev N_law_is_summed : List Str := ["deck", "n", "d", "first", "place", "second", "x", "item", "due", "k", "one", "other", "turn", "told", "back"]
def t_law_is_summed (K : PySem.W.Frag) (q_form_sum : Sp) (q_form_times : Sp) (q_law_draw : Sp) (q_law_is : Sp) (q_law_plus : Sp) (q_law_times : Sp) (q_law_places : Sp) (q_law_item : Sp) : TS :=
  (tSeq (tAsg (tLc (iList K (tCall q_law_places [] E0 (tCons (tVar 1) (tCons (tVar 2) tNil)))) (gName 4) tYes (tCall q_law_item [] E0 (tCons (tVar 0) tNil)) [4]) (gName 3))
    (tSeq (tAsg (tLc (iList K (tVar 3)) (gName 4) tYes (tCall q_law_item [] E0 (tCons (tVar 0) tNil)) [4]) (gName 5))
    (tSeq (tAsg (tOp (rIxL K) (tLst (tCons (tCall q_law_item [] E0 (tCons (tVar 0) tNil)) (tCons (tTup (tCons (tC (.int 1)) (tCons (tC (.int 1)) tNil))) tNil))) (tCB rIntQ (tCons (tOp rEq (tCall q_law_draw [] E0 (tCons (tVar 0) (tCons (tC (.int 3)) tNil))) (tC (.int 0))) tNil))) (gName 6))
    (tSeq (tIfS (tTest (tOp rEq (tCall q_law_draw [] E0 (tCons (tVar 0) (tCons (tC (.int 5)) tNil))) (tC (.int 0))))
      (tAsg (tLc (iList K (tVar 3)) (gName 7) tYes (tTup (tCons (tC (.int 0)) (tCons (tC (.int 1)) tNil))) [7]) (gName 5)) tNext)
    (tSeq (tAsg (tLc (iRng1 (tCons (tCB (rLenQ K) (tCons (tVar 3) tNil)) tNil)) (gName 9) tYes (tCall q_law_plus [] E0 (tCons (tOp (rIxL K) (tVar 3) (tVar 9)) (tCons (tOp (rIxL K) (tVar 5) (tVar 9)) tNil))) [9]) (gName 8))
    (tSeq (tPar 10 11 (tCons (tCB (rListQ K) (tCons (tVar 3) tNil)) (tCons (tCB (rListQ K) (tCons (tVar 5) tNil)) tNil)))
    (tSeq (tFor (iRng1 (tCons (tC (.int 2)) tNil)) (gName 12)
      (tSeq (tAsg (tOp (rIxL K) (tLst (tCons (tCall q_form_sum [] E0 (tCons (tVar 10) (tCons (tVar 11) tNil))) (tCons (tCall q_form_sum [] E0 (tCons (tVar 11) (tCons (tVar 10) tNil))) tNil))) (tVar 12)) (gName 13))
    (tSeq (tIfS (tNot (tB (tCall q_law_is [] E0 (tCons (tVar 13) (tCons (tVar 8) tNil)))))
      (tRet (tC (.bl false))) tNext)
    (tSeq (tAsg (tTup (tCons (tC (.int 77)) (tCons (tC (.int 1)) tNil))) (gSub (tVar 13) (tCall q_law_draw [] E0 (tCons (tVar 0) (tCons (tCB (rLenQ K) (tCons (tVar 13) tNil)) tNil))) rSetL))
    (tIfS (tNot (tB (tCall q_law_is [] E0 (tCons (tLst (tCons (tVar 10) (tCons (tVar 11) tNil))) (tCons (tLst (tCons (tVar 3) (tCons (tVar 5) tNil))) tNil)))))
      (tRet (tC (.bl false))) tNext)))))
    (tSeq (tAsg (tLc (iList K (tVar 3)) (gName 7) tYes (tCall q_law_times [] E0 (tCons (tVar 6) (tCons (tVar 7) tNil))) [7]) (gName 8))
    (tSeq (tAsg (tCall q_form_times [] E0 (tCons (tVar 6) (tCons (tVar 10) tNil))) (gName 13))
    (tSeq (tIfS (tNot (tB (tCall q_law_is [] E0 (tCons (tLst (tCons (tVar 13) (tCons (tCall q_form_times [] E0 (tCons (tTup (tCons (tC (.int 0)) (tCons (tC (.int 1)) tNil))) (tCons (tVar 10) tNil))) tNil))) (tCons (tLst (tCons (tVar 8) (tCons (tLc (iList K (tVar 3)) (gName 7) tYes (tTup (tCons (tC (.int 0)) (tCons (tC (.int 1)) tNil))) [7]) tNil))) tNil)))))
      (tRet (tC (.bl false))) tNext)
    (tSeq (tAsg (tTup (tCons (tC (.int 77)) (tCons (tC (.int 1)) tNil))) (gSub (tVar 13) (tCall q_law_draw [] E0 (tCons (tVar 0) (tCons (tCB (rLenQ K) (tCons (tVar 13) tNil)) tNil))) rSetL))
    (tSeq (tIfS (tNot (tB (tCall q_law_is [] E0 (tCons (tLst (tCons (tVar 10) (tCons (tVar 11) tNil))) (tCons (tLst (tCons (tVar 3) (tCons (tVar 5) tNil))) tNil)))))
      (tRet (tC (.bl false))) tNext)
    (tSeq (tAsg (tLc (iList K (tVar 3)) (gName 7) tYes (tTup (tCons (tUn rNegI (tOp (rIxT K) (tVar 7) (tC (.int 0)))) (tCons (tOp (rIxT K) (tVar 7) (tC (.int 1))) tNil))) [7]) (gName 14))
    (tRet (tAndV (tCall q_law_is [] E0 (tCons (tCall q_form_sum [] E0 (tCons (tVar 10) (tCons (tVar 14) tNil))) (tCons (tLc (iList K (tVar 3)) (gName 7) tYes (tTup (tCons (tC (.int 0)) (tCons (tC (.int 1)) tNil))) [7]) tNil))) (tCall q_law_is [] E0 (tCons (tVar 10) (tCons (tVar 3) tNil))))))))))))))))))
theorem sc_law_is_summed : FnScope N_law_is_summed ["deck", "n", "d"] (defScope s_law_is_summed) := ⟨rfl, rfl, rfl, by decide +kernel, rfl, by decide +kernel, by decide +kernel⟩
theorem d_law_is_summed {P : Program} {w : World} {K : PySem.W.Frag} {mg : Str → Option Value} {base : Heap} {f : Addr} {cdv : Value} {A : Around} {outer : List Env} {s : Shared} {H : Hp} {E : XK}  (q_form_sum : Sp) (q_form_times : Sp) (q_law_draw : Sp) (q_law_is : Sp) (q_law_plus : Sp) (q_law_times : Sp) (q_law_places : Sp) (q_law_item : Sp) (T : Txt K mg) (c_form_sum : Callee P w K mg base 4 "form_sum" ["first", "second"] q_form_sum) (c_form_times : Callee P w K mg base 4 "form_times" ["x", "form"] q_form_times) (c_law_draw : Callee P w K mg base 1 "_law_draw" ["deck", "bound"] q_law_draw) (c_law_is : Callee P w K mg base 1 "_law_is" ["value", "due"] q_law_is) (c_law_plus : Callee P w K mg base 3 "_law_plus" ["x", "y"] q_law_plus) (c_law_times : Callee P w K mg base 3 "_law_times" ["x", "y"] q_law_times) (c_law_places : Callee P w K mg base 1 "_law_places" ["n", "d"] q_law_places) (c_law_item : Callee P w K mg base 3 "_law_item" ["deck"] q_law_item)
    (cl : Calm A) (hr : Room 4 (A.deeper (envOfC "_law_is_summed" (defScope s_law_is_summed) s.heap.objs.size f cdv))) :
    PSs (cxOf CX0 P w K mg base N_law_is_summed "_law_is_summed" (defScope s_law_is_summed) f cdv A outer s H E).nox (defBody s_law_is_summed) (t_law_is_summed K q_form_sum q_form_times q_law_draw q_law_is q_law_plus q_law_times q_law_places q_law_item) := by
  have hu := hu_of hr
  have hu60 := Pk.hu60 hr
  have hu64 := hr.units
  have hu65 := Pk.hu65 hr
  exact (pss_cons (ps_set (i := 3) sc_law_is_summed.nd rfl (by first | exact Or.inl rfl | exact Or.inr rfl) (pe_lc (own := [("place", 4)]) (g := (gName 4)) (tt := tYes) (te := (tCall q_law_item [] E0 (tCons (tVar 0) tNil))) (by rfl) sc_law_is_summed.nd (pi_list (pe_fn c_law_places cl hr (by rfl) (pa_cons (pv 1) (pa_cons (pv 2) pa_nil)))) (blkOk_by (own := [("place", 4)]) (N := N_law_is_summed) (sc := defScope s_law_is_summed) (by decide +kernel)) (fun _ _ _ _ _ => (pg_name (i := 4) sc_law_is_summed.nd rfl (by first | exact Or.inl rfl | exact Or.inr rfl))) (fun _ _ _ _ _ => pts_nil) (fun _ _ _ _ _ => (pe_fn c_law_item cl hr (by rfl) (pa_cons (pv 0) pa_nil)))))
    (pss_cons (ps_set (i := 5) sc_law_is_summed.nd rfl (by first | exact Or.inl rfl | exact Or.inr rfl) (pe_lc (own := [("place", 4)]) (g := (gName 4)) (tt := tYes) (te := (tCall q_law_item [] E0 (tCons (tVar 0) tNil))) (by rfl) sc_law_is_summed.nd (pi_list (pv 3)) (blkOk_by (own := [("place", 4)]) (N := N_law_is_summed) (sc := defScope s_law_is_summed) (by decide +kernel)) (fun _ _ _ _ _ => (pg_name (i := 4) sc_law_is_summed.nd rfl (by first | exact Or.inl rfl | exact Or.inr rfl))) (fun _ _ _ _ _ => pts_nil) (fun _ _ _ _ _ => (pe_fn c_law_item cl hr (by rfl) (pa_cons (pv 0) pa_nil)))))
    (pss_cons (ps_set (i := 6) sc_law_is_summed.nd rfl (by first | exact Or.inl rfl | exact Or.inr rfl) (pe_ix ix_list (pe_lst (pa_cons (pe_fn c_law_item cl hr (by rfl) (pa_cons (pv 0) pa_nil)) (pa_cons (pe_tup (pa_cons pe_int (pa_cons pe_int pa_nil))) pa_nil))) (pe_callTy call_int1 (by rfl) T.free_int (by decide +kernel) (pa_cons (pe_cmpR op_eq (pe_fn c_law_draw cl hr (by rfl) (pa_cons (pv 0) (pa_cons pe_int pa_nil))) pe_int (nomark _)) pa_nil)) (fun _ _ => rfl)))
    (pss_cons (ps_if (pt_cmpR op_eq (pe_fn c_law_draw cl hr (by rfl) (pa_cons (pv 0) (pa_cons pe_int pa_nil))) pe_int (nomark _))
      (pss_one (ps_set (i := 5) sc_law_is_summed.nd rfl (by first | exact Or.inl rfl | exact Or.inr rfl) (pe_lc (own := [("item", 7)]) (g := (gName 7)) (tt := tYes) (te := (tTup (tCons (tC (.int 0)) (tCons (tC (.int 1)) tNil)))) (by rfl) sc_law_is_summed.nd (pi_list (pv 3)) (blkOk_by (own := [("item", 7)]) (N := N_law_is_summed) (sc := defScope s_law_is_summed) (by decide +kernel)) (fun _ _ _ _ _ => (pg_name (i := 7) sc_law_is_summed.nd rfl (by first | exact Or.inl rfl | exact Or.inr rfl))) (fun _ _ _ _ _ => pts_nil) (fun _ _ _ _ _ => (pe_tup (pa_cons pe_int (pa_cons pe_int pa_nil))))))) pss_nil)
    (pss_cons (ps_setLc (i := 8) (own := [("k", 9)]) (g := (gName 9)) (tt := tYes) (te := (tCall q_law_plus [] E0 (tCons (tOp (rIxL K) (tVar 3) (tVar 9)) (tCons (tOp (rIxL K) (tVar 5) (tVar 9)) tNil)))) (by rfl) sc_law_is_summed.nd rfl rfl (sw_true rfl rfl rfl (by decide +kernel)) (pi_range1 (by rfl) T.free_range (pa_cons (pe_callB call_len_seq (by rfl) T.free_len (by decide +kernel) (pa_cons (pv 3) pa_nil)) pa_nil)) (blkOk_by (own := [("k", 9)]) (N := N_law_is_summed) (sc := defScope s_law_is_summed) (by decide +kernel)) (fun _ _ _ _ _ => (pg_name (i := 9) sc_law_is_summed.nd rfl (by first | exact Or.inl rfl | exact Or.inr rfl))) (fun _ _ _ _ _ => pts_nil) (fun _ _ _ _ _ => (pe_fn c_law_plus cl hr (by rfl) (pa_cons (pe_ix ix_list (pv 3) (pv 9) (fun _ _ => rfl)) (pa_cons (pe_ix ix_list (pv 5) (pv 9) (fun _ _ => rfl)) pa_nil)))))
    (pss_cons (ps_par (i := 10) (j := 11) (by rfl) sc_law_is_summed.nd rfl rfl (by decide) rfl rfl (pa_cons (pe_callTy call_list_of (by rfl) T.free_list (by decide +kernel) (pa_cons (pv 3) pa_nil)) (pa_cons (pe_callTy call_list_of (by rfl) T.free_list (by decide +kernel) (pa_cons (pv 5) pa_nil)) pa_nil)) (by rfl))
    (pss_cons (ps_for PassesOwn.never rfl (pi_range1 (by rfl) T.free_range (pa_cons pe_int pa_nil)) (pg_name (i := 12) sc_law_is_summed.nd rfl (by first | exact Or.inl rfl | exact Or.inr rfl))
      (pss_cons (ps_set (i := 13) sc_law_is_summed.nd rfl (by first | exact Or.inl rfl | exact Or.inr rfl) (pe_ix ix_list (pe_lst (pa_cons (pe_fn c_form_sum cl hr (by rfl) (pa_cons (pv 10) (pa_cons (pv 11) pa_nil))) (pa_cons (pe_fn c_form_sum cl hr (by rfl) (pa_cons (pv 11) (pa_cons (pv 10) pa_nil))) pa_nil))) (pv 12) (fun _ _ => rfl)))
    (pss_cons (ps_if (pt_not (pt_val (pe_fn c_law_is cl hr (by rfl) (pa_cons (pv 13) (pa_cons (pv 8) pa_nil))) (by intro _; rfl)))
      (pss_one (ps_ret pe_bl)) pss_nil)
    (pss_cons (ps_asg (pe_tup (pa_cons pe_int (pa_cons pe_int pa_nil))) (pg_sub (pv 13) (pe_fn c_law_draw cl hr (by rfl) (pa_cons (pv 0) (pa_cons (pe_callB call_len_seq (by rfl) T.free_len (by decide +kernel) (pa_cons (pv 13) pa_nil)) pa_nil))) set_list))
    (pss_one (ps_if (pt_not (pt_val (pe_fn c_law_is cl hr (by rfl) (pa_cons (pe_lst (pa_cons (pv 10) (pa_cons (pv 11) pa_nil))) (pa_cons (pe_lst (pa_cons (pv 3) (pa_cons (pv 5) pa_nil))) pa_nil))) (by intro _; rfl)))
      (pss_one (ps_ret pe_bl)) pss_nil))))))
    (pss_cons (ps_setLc (i := 8) (own := [("item", 7)]) (g := (gName 7)) (tt := tYes) (te := (tCall q_law_times [] E0 (tCons (tVar 6) (tCons (tVar 7) tNil)))) (by rfl) sc_law_is_summed.nd rfl rfl (sw_true rfl rfl rfl (by decide +kernel)) (pi_list (pv 3)) (blkOk_by (own := [("item", 7)]) (N := N_law_is_summed) (sc := defScope s_law_is_summed) (by decide +kernel)) (fun _ _ _ _ _ => (pg_name (i := 7) sc_law_is_summed.nd rfl (by first | exact Or.inl rfl | exact Or.inr rfl))) (fun _ _ _ _ _ => pts_nil) (fun _ _ _ _ _ => (pe_fn c_law_times cl hr (by rfl) (pa_cons (pv 6) (pa_cons (pv 7) pa_nil)))))
    (pss_cons (ps_set (i := 13) sc_law_is_summed.nd rfl (by first | exact Or.inl rfl | exact Or.inr rfl) (pe_fn c_form_times cl hr (by rfl) (pa_cons (pv 6) (pa_cons (pv 10) pa_nil))))
    (pss_cons (ps_if (pt_not (pt_val (pe_fn c_law_is cl hr (by rfl) (pa_cons (pe_lst (pa_cons (pv 13) (pa_cons (pe_fn c_form_times cl hr (by rfl) (pa_cons (pe_tup (pa_cons pe_int (pa_cons pe_int pa_nil))) (pa_cons (pv 10) pa_nil))) pa_nil))) (pa_cons (pe_lst (pa_cons (pv 8) (pa_cons (pe_lc (own := [("item", 7)]) (g := (gName 7)) (tt := tYes) (te := (tTup (tCons (tC (.int 0)) (tCons (tC (.int 1)) tNil)))) (by rfl) sc_law_is_summed.nd (pi_list (pv 3)) (blkOk_by (own := [("item", 7)]) (N := N_law_is_summed) (sc := defScope s_law_is_summed) (by decide +kernel)) (fun _ _ _ _ _ => (pg_name (i := 7) sc_law_is_summed.nd rfl (by first | exact Or.inl rfl | exact Or.inr rfl))) (fun _ _ _ _ _ => pts_nil) (fun _ _ _ _ _ => (pe_tup (pa_cons pe_int (pa_cons pe_int pa_nil))))) pa_nil))) pa_nil))) (by intro _; rfl)))
      (pss_one (ps_ret pe_bl)) pss_nil)
    (pss_cons (ps_asg (pe_tup (pa_cons pe_int (pa_cons pe_int pa_nil))) (pg_sub (pv 13) (pe_fn c_law_draw cl hr (by rfl) (pa_cons (pv 0) (pa_cons (pe_callB call_len_seq (by rfl) T.free_len (by decide +kernel) (pa_cons (pv 13) pa_nil)) pa_nil))) set_list))
    (pss_cons (ps_if (pt_not (pt_val (pe_fn c_law_is cl hr (by rfl) (pa_cons (pe_lst (pa_cons (pv 10) (pa_cons (pv 11) pa_nil))) (pa_cons (pe_lst (pa_cons (pv 3) (pa_cons (pv 5) pa_nil))) pa_nil))) (by intro _; rfl)))
      (pss_one (ps_ret pe_bl)) pss_nil)
    (pss_cons (ps_setLc (i := 14) (own := [("item", 7)]) (g := (gName 7)) (tt := tYes) (te := (tTup (tCons (tUn rNegI (tOp (rIxT K) (tVar 7) (tC (.int 0)))) (tCons (tOp (rIxT K) (tVar 7) (tC (.int 1))) tNil)))) (by rfl) sc_law_is_summed.nd rfl rfl (sw_true rfl rfl rfl (by decide +kernel)) (pi_list (pv 3)) (blkOk_by (own := [("item", 7)]) (N := N_law_is_summed) (sc := defScope s_law_is_summed) (by decide +kernel)) (fun _ _ _ _ _ => (pg_name (i := 7) sc_law_is_summed.nd rfl (by first | exact Or.inl rfl | exact Or.inr rfl))) (fun _ _ _ _ _ => pts_nil) (fun _ _ _ _ _ => (pe_tup (pa_cons (pe_un un_neg (pe_ix ix_tup (pv 7) pe_int (fun _ _ => rfl))) (pa_cons (pe_ix ix_tup (pv 7) pe_int (fun _ _ => rfl)) pa_nil)))))
    (pss_one (ps_ret (pe_and (pe_fn c_law_is cl hr (by rfl) (pa_cons (pe_fn c_form_sum cl hr (by rfl) (pa_cons (pv 10) (pa_cons (pv 14) pa_nil))) (pa_cons (pe_lc (own := [("item", 7)]) (g := (gName 7)) (tt := tYes) (te := (tTup (tCons (tC (.int 0)) (tCons (tC (.int 1)) tNil)))) (by rfl) sc_law_is_summed.nd (pi_list (pv 3)) (blkOk_by (own := [("item", 7)]) (N := N_law_is_summed) (sc := defScope s_law_is_summed) (by decide +kernel)) (fun _ _ _ _ _ => (pg_name (i := 7) sc_law_is_summed.nd rfl (by first | exact Or.inl rfl | exact Or.inr rfl))) (fun _ _ _ _ _ => pts_nil) (fun _ _ _ _ _ => (pe_tup (pa_cons pe_int (pa_cons pe_int pa_nil))))) pa_nil))) (pe_one (pe_fn c_law_is cl hr (by rfl) (pa_cons (pv 10) (pa_cons (pv 3) pa_nil))))))))))))))))))))

/-! ### _law_is_multiplied -/
abbrev N_law_is_multiplied : List Str := ["deck", "n", "d", "e", "first", "place", "second", "x", "k", "due", "one", "other", "told", "worths"]
def t_law_is_multiplied (K : PySem.W.Frag) (q_form_product : Sp) (q_form_at : Sp) (q_law_draw : Sp) (q_law_is : Sp) (q_law_times : Sp) (q_law_places : Sp) (q_law_item : Sp) (q_law_product : Sp) (q_law_at : Sp) : TS :=
  (tSeq (tAsg (tLc (iList K (tCall q_law_places [] E0 (tCons (tVar 1) (tCons (tVar 2) tNil)))) (gName 5) tYes (tCall q_law_item [] E0 (tCons (tVar 0) tNil)) [5]) (gName 4))
    (tSeq (tAsg (tLc (iList K (tCall q_law_places [] E0 (tCons (tVar 1) (tCons (tVar 3) tNil)))) (gName 5) tYes (tCall q_law_item [] E0 (tCons (tVar 0) tNil)) [5]) (gName 6))
    (tSeq (tAsg (tCB (rTupQ K) (tCons (tLc (iRng1 (tCons (tVar 1) tNil)) (gName 8) tYes (tCall q_law_item [] E0 (tCons (tVar 0) tNil)) [8]) tNil)) (gName 7))
    (tSeq (tIfS (tAnd (tTest (tOp rEq (tVar 3) (tC (.int 0)))) (tTest (tOp rEq (tCall q_law_draw [] E0 (tCons (tVar 0) (tCons (tC (.int 2)) tNil))) (tC (.int 0)))))
      (tAsg (tLst (tCons (tTup (tCons (tC (.int 1)) (tCons (tC (.int 1)) tNil))) tNil)) (gName 6)) tNext)
    (tSeq (tAsg (tCall q_law_product [] E0 (tCons (tVar 1) (tCons (tVar 4) (tCons (tVar 2) (tCons (tVar 6) (tCons (tVar 3) tNil)))))) (gName 9))
    (tSeq (tPar 10 11 (tCons (tCB (rListQ K) (tCons (tVar 4) tNil)) (tCons (tCB (rListQ K) (tCons (tVar 6) tNil)) tNil)))
    (tSeq (tAsg (tCall q_form_product [] E0 (tCons (tVar 1) (tCons (tVar 10) (tCons (tVar 2) (tCons (tVar 11) (tCons (tVar 3) tNil)))))) (gName 12))
    (tSeq (tIfS (tOr (tNot (tB (tCall q_law_is [] E0 (tCons (tVar 12) (tCons (tVar 9) tNil))))) (tNot (tB (tCall q_law_is [] E0 (tCons (tCall q_form_product [] E0 (tCons (tVar 1) (tCons (tVar 11) (tCons (tVar 3) (tCons (tVar 10) (tCons (tVar 2) tNil)))))) (tCons (tVar 9) tNil))))))
      (tRet (tC (.bl false))) tNext)
    (tSeq (tAsg (tLst (tCons (tCall q_law_at [] E0 (tCons (tVar 1) (tCons (tVar 4) (tCons (tVar 2) (tCons (tVar 7) tNil))))) (tCons (tCall q_law_at [] E0 (tCons (tVar 1) (tCons (tVar 6) (tCons (tVar 3) (tCons (tVar 7) tNil))))) tNil))) (gName 13))
    (tSeq (tIfS (tNot (tB (tCall q_law_is [] E0 (tCons (tLst (tCons (tCall q_form_at [] E0 (tCons (tVar 1) (tCons (tVar 10) (tCons (tVar 2) (tCons (tVar 7) tNil))))) (tCons (tCall q_form_at [] E0 (tCons (tVar 1) (tCons (tVar 11) (tCons (tVar 3) (tCons (tVar 7) tNil))))) tNil))) (tCons (tVar 13) tNil)))))
      (tRet (tC (.bl false))) tNext)
    (tSeq (tIfS (tAnd (tTest (tOp rLtI (tOp rAddI (tVar 2) (tVar 3)) (tC (.int 11)))) (tNot (tB (tCall q_law_is [] E0 (tCons (tCall q_form_at [] E0 (tCons (tVar 1) (tCons (tVar 12) (tCons (tOp rAddI (tVar 2) (tVar 3)) (tCons (tVar 7) tNil))))) (tCons (tCall q_law_times [] E0 (tCons (tOp (rIxL K) (tVar 13) (tC (.int 0))) (tCons (tOp (rIxL K) (tVar 13) (tC (.int 1))) tNil))) tNil))))))
      (tRet (tC (.bl false))) tNext)
    (tSeq (tAsg (tTup (tCons (tC (.int 77)) (tCons (tC (.int 1)) tNil))) (gSub (tVar 12) (tCall q_law_draw [] E0 (tCons (tVar 0) (tCons (tCB (rLenQ K) (tCons (tVar 12) tNil)) tNil))) rSetL))
    (tSeq (tAsg (tCall q_form_product [] E0 (tCons (tVar 1) (tCons (tVar 11) (tCons (tVar 3) (tCons (tVar 10) (tCons (tVar 2) tNil)))))) (gName 12))
    (tSeq (tIfS (tNot (tB (tCall q_law_is [] E0 (tCons (tLst (tCons (tVar 12) (tCons (tVar 10) (tCons (tVar 11) tNil)))) (tCons (tLst (tCons (tVar 9) (tCons (tVar 4) (tCons (tVar 6) tNil)))) tNil)))))
      (tRet (tC (.bl false))) tNext)
    (tSeq (tAsg (tTup (tCons (tC (.int 77)) (tCons (tC (.int 1)) tNil))) (gSub (tVar 12) (tCall q_law_draw [] E0 (tCons (tVar 0) (tCons (tCB (rLenQ K) (tCons (tVar 12) tNil)) tNil))) rSetL))
    (tRet (tAndV (tCall q_law_is [] E0 (tCons (tCall q_form_product [] E0 (tCons (tVar 1) (tCons (tVar 10) (tCons (tVar 2) (tCons (tVar 11) (tCons (tVar 3) tNil)))))) (tCons (tVar 9) tNil))) (tCall q_law_is [] E0 (tCons (tLst (tCons (tVar 10) (tCons (tVar 11) tNil))) (tCons (tLst (tCons (tVar 4) (tCons (tVar 6) tNil))) tNil))))))))))))))))))))
theorem sc_law_is_multiplied : FnScope N_law_is_multiplied ["deck", "n", "d", "e"] (defScope s_law_is_multiplied) := ⟨rfl, rfl, rfl, by decide +kernel, rfl, by decide +kernel, by decide +kernel⟩
theorem d_law_is_multiplied {P : Program} {w : World} {K : PySem.W.Frag} {mg : Str → Option Value} {base : Heap} {f : Addr} {cdv : Value} {A : Around} {outer : List Env} {s : Shared} {H : Hp} {E : XK}  (q_form_product : Sp) (q_form_at : Sp) (q_law_draw : Sp) (q_law_is : Sp) (q_law_times : Sp) (q_law_places : Sp) (q_law_item : Sp) (q_law_product : Sp) (q_law_at : Sp) (T : Txt K mg) (c_form_product : Callee P w K mg base 4 "form_product" ["n", "first", "d", "second", "e"] q_form_product) (c_form_at : Callee P w K mg base 5 "form_at" ["n", "form", "d", "x"] q_form_at) (c_law_draw : Callee P w K mg base 1 "_law_draw" ["deck", "bound"] q_law_draw) (c_law_is : Callee P w K mg base 1 "_law_is" ["value", "due"] q_law_is) (c_law_times : Callee P w K mg base 3 "_law_times" ["x", "y"] q_law_times) (c_law_places : Callee P w K mg base 1 "_law_places" ["n", "d"] q_law_places) (c_law_item : Callee P w K mg base 3 "_law_item" ["deck"] q_law_item) (c_law_product : Callee P w K mg base 4 "_law_product" ["n", "first", "d", "second", "e"] q_law_product) (c_law_at : Callee P w K mg base 4 "_law_at" ["n", "form", "d", "x"] q_law_at)
    (cl : Calm A) (hr : Room 5 (A.deeper (envOfC "_law_is_multiplied" (defScope s_law_is_multiplied) s.heap.objs.size f cdv))) :
    PSs (cxOf CX0 P w K mg base N_law_is_multiplied "_law_is_multiplied" (defScope s_law_is_multiplied) f cdv A outer s H E).nox (defBody s_law_is_multiplied) (t_law_is_multiplied K q_form_product q_form_at q_law_draw q_law_is q_law_times q_law_places q_law_item q_law_product q_law_at) := by
  have hu := hu_of hr
  have hu60 := Pk.hu60 hr
  have hu64 := hr.units
  have hu65 := Pk.hu65 hr
  exact (pss_cons (ps_setLc (i := 4) (own := [("place", 5)]) (g := (gName 5)) (tt := tYes) (te := (tCall q_law_item [] E0 (tCons (tVar 0) tNil))) (by rfl) sc_law_is_multiplied.nd rfl rfl (sw_true rfl rfl rfl (by decide +kernel)) (pi_list (pe_fn c_law_places cl hr (by rfl) (pa_cons (pv 1) (pa_cons (pv 2) pa_nil)))) (blkOk_by (own := [("place", 5)]) (N := N_law_is_multiplied) (sc := defScope s_law_is_multiplied) (by decide +kernel)) (fun _ _ _ _ _ => (pg_name (i := 5) sc_law_is_multiplied.nd rfl (by first | exact Or.inl rfl | exact Or.inr rfl))) (fun _ _ _ _ _ => pts_nil) (fun _ _ _ _ _ => (pe_fn c_law_item cl hr (by rfl) (pa_cons (pv 0) pa_nil))))
    (pss_cons (ps_setLc (i := 6) (own := [("place", 5)]) (g := (gName 5)) (tt := tYes) (te := (tCall q_law_item [] E0 (tCons (tVar 0) tNil))) (by rfl) sc_law_is_multiplied.nd rfl rfl (sw_true rfl rfl rfl (by decide +kernel)) (pi_list (pe_fn c_law_places cl hr (by rfl) (pa_cons (pv 1) (pa_cons (pv 3) pa_nil)))) (blkOk_by (own := [("place", 5)]) (N := N_law_is_multiplied) (sc := defScope s_law_is_multiplied) (by decide +kernel)) (fun _ _ _ _ _ => (pg_name (i := 5) sc_law_is_multiplied.nd rfl (by first | exact Or.inl rfl | exact Or.inr rfl))) (fun _ _ _ _ _ => pts_nil) (fun _ _ _ _ _ => (pe_fn c_law_item cl hr (by rfl) (pa_cons (pv 0) pa_nil))))
    (pss_cons (ps_set (i := 7) sc_law_is_multiplied.nd rfl (by first | exact Or.inl rfl | exact Or.inr rfl) (pe_callTy call_tuple_of (by rfl) T.free_tuple (by decide +kernel) (pa_cons (pe_lc (own := [("k", 8)]) (g := (gName 8)) (tt := tYes) (te := (tCall q_law_item [] E0 (tCons (tVar 0) tNil))) (by rfl) sc_law_is_multiplied.nd (pi_range1 (by rfl) T.free_range (pa_cons (pv 1) pa_nil)) (blkOk_by (own := [("k", 8)]) (N := N_law_is_multiplied) (sc := defScope s_law_is_multiplied) (by decide +kernel)) (fun _ _ _ _ _ => (pg_name (i := 8) sc_law_is_multiplied.nd rfl (by first | exact Or.inl rfl | exact Or.inr rfl))) (fun _ _ _ _ _ => pts_nil) (fun _ _ _ _ _ => (pe_fn c_law_item cl hr (by rfl) (pa_cons (pv 0) pa_nil)))) pa_nil)))
    (pss_cons (ps_if (PW.pt (pw_and (pt_cmpR op_eq (pv 3) pe_int (nomark _)) (pw_and1 (pt_cmpR op_eq (pe_fn c_law_draw cl hr (by rfl) (pa_cons (pv 0) (pa_cons pe_int pa_nil))) pe_int (nomark _)))))
      (pss_one (ps_set (i := 6) sc_law_is_multiplied.nd rfl (by first | exact Or.inl rfl | exact Or.inr rfl) (pe_lst (pa_cons (pe_tup (pa_cons pe_int (pa_cons pe_int pa_nil))) pa_nil)))) pss_nil)
    (pss_cons (ps_set (i := 9) sc_law_is_multiplied.nd rfl (by first | exact Or.inl rfl | exact Or.inr rfl) (pe_fn c_law_product cl hr (by rfl) (pa_cons (pv 1) (pa_cons (pv 4) (pa_cons (pv 2) (pa_cons (pv 6) (pa_cons (pv 3) pa_nil)))))))
    (pss_cons (ps_par (i := 10) (j := 11) (by rfl) sc_law_is_multiplied.nd rfl rfl (by decide) rfl rfl (pa_cons (pe_callTy call_list_of (by rfl) T.free_list (by decide +kernel) (pa_cons (pv 4) pa_nil)) (pa_cons (pe_callTy call_list_of (by rfl) T.free_list (by decide +kernel) (pa_cons (pv 6) pa_nil)) pa_nil)) (by rfl))
    (pss_cons (ps_set (i := 12) sc_law_is_multiplied.nd rfl (by first | exact Or.inl rfl | exact Or.inr rfl) (pe_fn c_form_product cl hr (by rfl) (pa_cons (pv 1) (pa_cons (pv 10) (pa_cons (pv 2) (pa_cons (pv 11) (pa_cons (pv 3) pa_nil)))))))
    (pss_cons (ps_if (PW.pt (pw_or (pt_not (pt_val (pe_fn c_law_is cl hr (by rfl) (pa_cons (pv 12) (pa_cons (pv 9) pa_nil))) (by intro _; rfl))) (pw_or1 (pt_not (pt_val (pe_fn c_law_is cl hr (by rfl) (pa_cons (pe_fn c_form_product cl hr (by rfl) (pa_cons (pv 1) (pa_cons (pv 11) (pa_cons (pv 3) (pa_cons (pv 10) (pa_cons (pv 2) pa_nil)))))) (pa_cons (pv 9) pa_nil))) (by intro _; rfl))))))
      (pss_one (ps_ret pe_bl)) pss_nil)
    (pss_cons (ps_set (i := 13) sc_law_is_multiplied.nd rfl (by first | exact Or.inl rfl | exact Or.inr rfl) (pe_lst (pa_cons (pe_fn c_law_at cl hr (by rfl) (pa_cons (pv 1) (pa_cons (pv 4) (pa_cons (pv 2) (pa_cons (pv 7) pa_nil))))) (pa_cons (pe_fn c_law_at cl hr (by rfl) (pa_cons (pv 1) (pa_cons (pv 6) (pa_cons (pv 3) (pa_cons (pv 7) pa_nil))))) pa_nil))))
    (pss_cons (ps_if (pt_not (pt_val (pe_fn c_law_is cl hr (by rfl) (pa_cons (pe_lst (pa_cons (pe_fn c_form_at cl hr (by rfl) (pa_cons (pv 1) (pa_cons (pv 10) (pa_cons (pv 2) (pa_cons (pv 7) pa_nil))))) (pa_cons (pe_fn c_form_at cl hr (by rfl) (pa_cons (pv 1) (pa_cons (pv 11) (pa_cons (pv 3) (pa_cons (pv 7) pa_nil))))) pa_nil))) (pa_cons (pv 13) pa_nil))) (by intro _; rfl)))
      (pss_one (ps_ret pe_bl)) pss_nil)
    (pss_cons (ps_if (PW.pt (pw_and (pt_cmpR op_lt (pe_op op_add (pv 2) (pv 3)) pe_int (nomark _)) (pw_and1 (pt_not (pt_val (pe_fn c_law_is cl hr (by rfl) (pa_cons (pe_fn c_form_at cl hr (by rfl) (pa_cons (pv 1) (pa_cons (pv 12) (pa_cons (pe_op op_add (pv 2) (pv 3)) (pa_cons (pv 7) pa_nil))))) (pa_cons (pe_fn c_law_times cl hr (by rfl) (pa_cons (pe_ix ix_list (pv 13) pe_int (fun _ _ => rfl)) (pa_cons (pe_ix ix_list (pv 13) pe_int (fun _ _ => rfl)) pa_nil))) pa_nil))) (by intro _; rfl))))))
      (pss_one (ps_ret pe_bl)) pss_nil)
    (pss_cons (ps_asg (pe_tup (pa_cons pe_int (pa_cons pe_int pa_nil))) (pg_sub (pv 12) (pe_fn c_law_draw cl hr (by rfl) (pa_cons (pv 0) (pa_cons (pe_callB call_len_seq (by rfl) T.free_len (by decide +kernel) (pa_cons (pv 12) pa_nil)) pa_nil))) set_list))
    (pss_cons (ps_set (i := 12) sc_law_is_multiplied.nd rfl (by first | exact Or.inl rfl | exact Or.inr rfl) (pe_fn c_form_product cl hr (by rfl) (pa_cons (pv 1) (pa_cons (pv 11) (pa_cons (pv 3) (pa_cons (pv 10) (pa_cons (pv 2) pa_nil)))))))
    (pss_cons (ps_if (pt_not (pt_val (pe_fn c_law_is cl hr (by rfl) (pa_cons (pe_lst (pa_cons (pv 12) (pa_cons (pv 10) (pa_cons (pv 11) pa_nil)))) (pa_cons (pe_lst (pa_cons (pv 9) (pa_cons (pv 4) (pa_cons (pv 6) pa_nil)))) pa_nil))) (by intro _; rfl)))
      (pss_one (ps_ret pe_bl)) pss_nil)
    (pss_cons (ps_asg (pe_tup (pa_cons pe_int (pa_cons pe_int pa_nil))) (pg_sub (pv 12) (pe_fn c_law_draw cl hr (by rfl) (pa_cons (pv 0) (pa_cons (pe_callB call_len_seq (by rfl) T.free_len (by decide +kernel) (pa_cons (pv 12) pa_nil)) pa_nil))) set_list))
    (pss_one (ps_ret (pe_and (pe_fn c_law_is cl hr (by rfl) (pa_cons (pe_fn c_form_product cl hr (by rfl) (pa_cons (pv 1) (pa_cons (pv 10) (pa_cons (pv 2) (pa_cons (pv 11) (pa_cons (pv 3) pa_nil)))))) (pa_cons (pv 9) pa_nil))) (pe_one (pe_fn c_law_is cl hr (by rfl) (pa_cons (pe_lst (pa_cons (pv 10) (pa_cons (pv 11) pa_nil))) (pa_cons (pe_lst (pa_cons (pv 4) (pa_cons (pv 6) pa_nil))) pa_nil))))))))))))))))))))))

/-! ### law -/
abbrev N_law : List Str := ["script", "deck", "start", "n", "d", "e"]
def t_law (K : PySem.W.Frag) (q_law_deck : Sp) (q_law_draw : Sp) (q_law_degree : Sp) (q_law_is_placed : Sp) (q_law_is_summed : Sp) (q_law_is_multiplied : Sp) : TS :=
  (tSeq (tAsg (tCall q_law_deck [] E0 (tCons (tVar 0) tNil)) (gName 1))
    (tSeq (tAsg (tCall q_law_draw [] E0 (tCons (tVar 1) (tCons (tC (.int 2)) tNil))) (gName 2))
    (tSeq (tFor (iList K (tLst (tCons (tOp rAddI (tC (.int 2)) (tVar 2)) (tCons (tOp rSubI (tC (.int 3)) (tVar 2)) tNil)))) (gName 3)
      (tSeq (tPar 4 5 (tCons (tCall q_law_degree [] E0 (tCons (tVar 1) tNil)) (tCons (tCall q_law_degree [] E0 (tCons (tVar 1) tNil)) tNil)))
    (tSeq (tIfS (tOr (tNot (tB (tCall q_law_is_placed [] E0 (tCons (tVar 1) (tCons (tVar 3) (tCons (tVar 4) tNil)))))) (tNot (tB (tCall q_law_is_summed [] E0 (tCons (tVar 1) (tCons (tVar 3) (tCons (tVar 5) tNil)))))))
      (tRet (tC (.bl false))) tNext)
    (tIfS (tNot (tB (tCall q_law_is_multiplied [] E0 (tCons (tVar 1) (tCons (tVar 3) (tCons (tVar 4) (tCons (tVar 5) tNil)))))))
      (tRet (tC (.bl false))) tNext))))
    (tRet (tC (.bl true))))))
theorem sc_law : FnScope N_law ["script"] (defScope s_law) := ⟨rfl, rfl, rfl, by decide +kernel, rfl, by decide +kernel, by decide +kernel⟩
theorem d_law {P : Program} {w : World} {K : PySem.W.Frag} {mg : Str → Option Value} {base : Heap} {f : Addr} {cdv : Value} {A : Around} {outer : List Env} {s : Shared} {H : Hp} {E : XK}  (q_law_deck : Sp) (q_law_draw : Sp) (q_law_degree : Sp) (q_law_is_placed : Sp) (q_law_is_summed : Sp) (q_law_is_multiplied : Sp) (T : Txt K mg) (c_law_deck : Callee P w K mg base 1 "_law_deck" ["script"] q_law_deck) (c_law_draw : Callee P w K mg base 1 "_law_draw" ["deck", "bound"] q_law_draw) (c_law_degree : Callee P w K mg base 2 "_law_degree" ["deck"] q_law_degree) (c_law_is_placed : Callee P w K mg base 2 "_law_is_placed" ["deck", "n", "d"] q_law_is_placed) (c_law_is_summed : Callee P w K mg base 5 "_law_is_summed" ["deck", "n", "d"] q_law_is_summed) (c_law_is_multiplied : Callee P w K mg base 6 "_law_is_multiplied" ["deck", "n", "d", "e"] q_law_is_multiplied)
    (cl : Calm A) (hr : Room 6 (A.deeper (envOfC "law" (defScope s_law) s.heap.objs.size f cdv))) :
    PSs (cxOf CX0 P w K mg base N_law "law" (defScope s_law) f cdv A outer s H E).nox (defBody s_law) (t_law K q_law_deck q_law_draw q_law_degree q_law_is_placed q_law_is_summed q_law_is_multiplied) := by
  have hu := hu_of hr
  have hu60 := Pk.hu60 hr
  have hu64 := hr.units
  have hu65 := Pk.hu65 hr
  exact (pss_cons (ps_set (i := 1) sc_law.nd rfl (by first | exact Or.inl rfl | exact Or.inr rfl) (pe_fn c_law_deck cl hr (by rfl) (pa_cons (pv 0) pa_nil)))
    (pss_cons (ps_set (i := 2) sc_law.nd rfl (by first | exact Or.inl rfl | exact Or.inr rfl) (pe_fn c_law_draw cl hr (by rfl) (pa_cons (pv 1) (pa_cons pe_int pa_nil))))
    (pss_cons (ps_for PassesOwn.never rfl (pi_list (pe_lst (pa_cons (pe_op op_add pe_int (pv 2)) (pa_cons (pe_op op_sub pe_int (pv 2)) pa_nil)))) (pg_name (i := 3) sc_law.nd rfl (by first | exact Or.inl rfl | exact Or.inr rfl))
      (pss_cons (ps_par (i := 4) (j := 5) (by rfl) sc_law.nd rfl rfl (by decide) rfl rfl (pa_cons (pe_fn c_law_degree cl hr (by rfl) (pa_cons (pv 1) pa_nil)) (pa_cons (pe_fn c_law_degree cl hr (by rfl) (pa_cons (pv 1) pa_nil)) pa_nil)) (by rfl))
    (pss_cons (ps_if (PW.pt (pw_or (pt_not (pt_val (pe_fn c_law_is_placed cl hr (by rfl) (pa_cons (pv 1) (pa_cons (pv 3) (pa_cons (pv 4) pa_nil)))) (by intro _; rfl))) (pw_or1 (pt_not (pt_val (pe_fn c_law_is_summed cl hr (by rfl) (pa_cons (pv 1) (pa_cons (pv 3) (pa_cons (pv 5) pa_nil)))) (by intro _; rfl))))))
      (pss_one (ps_ret pe_bl)) pss_nil)
    (pss_one (ps_if (pt_not (pt_val (pe_fn c_law_is_multiplied cl hr (by rfl) (pa_cons (pv 1) (pa_cons (pv 3) (pa_cons (pv 4) (pa_cons (pv 5) pa_nil))))) (by intro _; rfl)))
      (pss_one (ps_ret pe_bl)) pss_nil)))))
    (pss_one (ps_ret pe_bl)))))


end Pk

namespace Pk
open PySem PySem.Spec PyProof.Rows L2
/-! ### fractions -/
def fr (q : Rat) : PD := .tuple [.int q.num, .int (q.den : Int)]
def Sm (q : Rat) : Prop := q.num.natAbs < 2 ^ 4000 ∧ q.den < 2 ^ 4000
theorem ati0 {α : Type} {x : α} {xs : List α} : atI (x :: xs) 0 = some x := by
  unfold atI ixN
  rw [if_pos (by omega), if_pos (by simp only [List.length_cons]; omega)]
  rfl
theorem ati1 {α : Type} {x y : α} {xs : List α} : atI (x :: y :: xs) 1 = some y := by
  unfold atI ixN
  rw [if_pos (by omega), if_pos (by simp only [List.length_cons]; omega)]
  rfl
theorem atiN {α : Type} {xs : List α} {n : Nat} {x : α} (h : xs[n]? = some x) : atI xs (n : Int) = some x := by
  have hl := (List.getElem?_eq_some_iff.mp h).1
  unfold atI ixN
  rw [if_pos (by omega), if_pos (by omega)]
  exact h
theorem log2_le_of {n k : Nat} (hk : 0 < k) (h : n < 2 ^ k) : n.log2 < k := PySem.Flt.log2_lt_of hk h
theorem mulW {i j : Int} {a b : Nat} (ha : 0 < a) (hb : 0 < b) (h1 : i.natAbs < 2 ^ a) (h2 : j.natAbs < 2 ^ b) (h : a + b ≤ 1000000) : CMulW i j := by
  have := log2_le_of ha h1
  have := log2_le_of hb h2
  unfold CMulW
  omega
theorem divW {i j : Int} (h0 : 0 < j) (h : j.natAbs < 2 ^ 9000) : CDivW i j := ⟨h0, log2_le_of (by omega) h⟩

section
variable {K : PySem.W.Frag} {ρ : Rho} {te ta tb : TE} {tt : TT} {tr : TA} {P : PD → Prop} {i j : Int}
theorem ev_frN {x : Rat} (h : EvE K ta ρ (· = fr x)) : EvE K (tOp (rIxT K) ta (tC (.int 0))) ρ (· = .int x.num) := ev_ixT h ev_int ati0
theorem ev_frD {x : Rat} (h : EvE K ta ρ (· = fr x)) : EvE K (tOp (rIxT K) ta (tC (.int 1))) ρ (· = .int (x.den : Int)) := ev_ixT h ev_int ati1
end

/-! ### common, gcd -/
def F_common : FD := fun ds P => ∃ a b : Int, ds = [.int a, .int b] ∧ P (.int ((Int.gcd a b : Nat) : Int))
theorem abs_if (i : Int) : (if i < 0 then -i else i) = (i.natAbs : Int) := by split <;> omega
theorem b_common {K : PySem.W.Frag} (ds : List PD) (P : PD → Prop) (h : F_common ds P) : RunS K (t_common K) (startR 2 (ds.map .dat)) { nx := fun _ => P .none, rt := P, rl := fun es => P (.list es) } := by
  obtain ⟨a, b, rfl, p⟩ := h
  unfold t_common
  refine rs_par1 (ea_one (ev_abs (ev_var rfl)) (ea_one (ev_abs (ev_var rfl)) ea_nil)) ?_
  refine rs_seq (fun ρ' => ρ' = [some (.dat (.int (Int.gcd a b : Nat))), some (.dat (.int 0))]) ?_ fun ρ' e => ?_
  · refine rs_while (fun m ρ' => ∃ x : Nat, ρ' = [some (.dat (.int (x : Nat))), some (.dat (.int (m : Nat)))] ∧ Nat.gcd x m = Int.gcd a b) b.natAbs ⟨a.natAbs, ?_, rfl⟩ (C := fun m ρ' k => k = ((m : Int) != 0)) ?_ ?_ ?_
    · rw [abs_if, abs_if]; rfl
    · rintro m ρ' ⟨x, rfl, hg⟩
      exact et_truI (ev_var rfl)
    · rintro m ρ' ⟨x, rfl, hg⟩ hm
      have hm0 : 0 < m := by
        rcases Nat.eq_zero_or_pos m with e | e
        · subst e; simp at hm
        · exact e
      refine rs_parN (ea_one (ev_var rfl) (ea_one (ev_mod (i := (x : Int)) (j := (m : Int)) (ev_var rfl) (ev_var rfl) (by omega)) ea_nil)) ⟨x % m, Nat.mod_lt _ hm0, m, rfl, ?_⟩
      rw [← hg, Nat.gcd_comm x m, Nat.gcd_rec m x, Nat.gcd_comm]
    · rintro m ρ' ⟨x, rfl, hg⟩ hm
      have hm0 : m = 0 := by
        rcases Nat.eq_zero_or_pos m with e | e
        · exact e
        · exact absurd hm (by simp; omega)
      subst hm0
      rw [← hg, Nat.gcd_zero_right]
      rfl
  · subst e
    exact rs_ret (ev_var rfl) fun d e => by rw [e]; exact p
def F_law_gcd : FD := F_common
theorem b_law_gcd {K : PySem.W.Frag} (ds : List PD) (P : PD → Prop) (h : F_law_gcd ds P) : RunS K (t_law_gcd K) (startR 4 (ds.map .dat)) { nx := fun _ => P .none, rt := P, rl := fun es => P (.list es) } := by
  obtain ⟨a, b, rfl, p⟩ := h
  unfold t_law_gcd
  refine rs_par1 (ea_one (ev_abs (ev_var rfl)) (ea_one (ev_abs (ev_var rfl)) ea_nil)) ?_
  refine rs_seq (fun ρ' => ρ' = [some (.dat (.int a)), some (.dat (.int b)), some (.dat (.int (Int.gcd a b : Nat))), some (.dat (.int 0))]) ?_ fun ρ' e => ?_
  · refine rs_while (fun m ρ' => ∃ x : Nat, ρ' = [some (.dat (.int a)), some (.dat (.int b)), some (.dat (.int (x : Nat))), some (.dat (.int (m : Nat)))] ∧ Nat.gcd x m = Int.gcd a b) b.natAbs ⟨a.natAbs, ?_, rfl⟩ (C := fun m ρ' k => k = decide ((0 : Int) < (m : Int))) ?_ ?_ ?_
    · rw [abs_if, abs_if]; rfl
    · rintro m ρ' ⟨x, rfl, hg⟩
      exact et_test1 (ev_gt (i := (m : Int)) (j := 0) (ev_var rfl) ev_int)
    · rintro m ρ' ⟨x, rfl, hg⟩ hm
      have hm0 : 0 < m := by
        have := of_decide_eq_true hm.symm
        omega
      refine rs_parN (ea_one (ev_var rfl) (ea_one (ev_mod (i := (x : Int)) (j := (m : Int)) (ev_intI (ev_var rfl)) (ev_var rfl) (by omega)) ea_nil)) ⟨x % m, Nat.mod_lt _ hm0, m, rfl, ?_⟩
      rw [← hg, Nat.gcd_comm x m, Nat.gcd_rec m x, Nat.gcd_comm]
    · rintro m ρ' ⟨x, rfl, hg⟩ hm
      have hm0 : m = 0 := by
        have := of_decide_eq_false hm.symm
        omega
      subst hm0
      rw [← hg, Nat.gcd_zero_right]
      rfl
  · subst e
    exact rs_ret (ev_var rfl) fun d e => by rw [e]; exact p
/-! ### fraction -/
def F_fraction : FD := fun ds P => ∃ a b : Int, ds = [.int a, .int b] ∧ 0 < b ∧ b.natAbs < 2 ^ 9000 ∧ P (fr (Rat.divInt a b))
def F_law_frac : FD := F_fraction
theorem fr_div {a b : Int} (h : 0 < b) : fr (Rat.divInt a b) = .tuple [.int (a / (Int.gcd a b : Nat)), .int (b / (Int.gcd a b : Nat))] := by
  unfold fr
  rw [Rat.num_divInt, Rat.den_divInt, if_neg (by omega), Int.sign_eq_one_of_pos h, Int.one_mul, Int.gcd_comm]
  have e : ((b.natAbs / Int.gcd a b : Nat) : Int) = b / (Int.gcd a b : Nat) := by
    rw [Int.natCast_ediv, Int.natAbs_of_nonneg (by omega)]
  rw [e]
theorem gcd_pos {a b : Int} (h : 0 < b) : 0 < Int.gcd a b := Int.gcd_pos_of_ne_zero_right _ (by omega)
theorem gcd_le {a b : Int} (h : 0 < b) : Int.gcd a b ≤ b.natAbs := Nat.gcd_le_right _ (by omega)
theorem b_fraction {K : PySem.W.Frag} (ds : List PD) (P : PD → Prop) (h : F_fraction ds P) : RunS K (t_fraction K (SpP K F_common)) (startR 3 (ds.map .dat)) { nx := fun _ => P .none, rt := P, rl := fun es => P (.list es) } := by
  obtain ⟨a, b, rfl, hb, hs, p⟩ := h
  have g0 := gcd_pos (a := a) hb
  have g1 := gcd_le (a := a) hb
  have gd : CDivW a ((Int.gcd a b : Nat) : Int) ∧ CDivW b ((Int.gcd a b : Nat) : Int) := ⟨divW (by omega) (Nat.lt_of_le_of_lt (by rw [Int.natAbs_natCast]; exact g1) hs), divW (by omega) (Nat.lt_of_le_of_lt (by rw [Int.natAbs_natCast]; exact g1) hs)⟩
  unfold t_fraction
  refine rs_set1 (d := .int ((Int.gcd a b : Nat) : Int)) (ev_call1 (ea_one (ev_var rfl) (ea_one (ev_var rfl) ea_nil)) ⟨a, b, rfl, rfl⟩) ?_
  refine rs_seq (fun ρ' => ρ' = [some (.dat (.int a)), some (.dat (.int b)), some (.dat (.int ((Int.gcd a b : Nat) : Int)))]) (rs_if (C := (· = decide (b < 0))) (et_test1 (ev_lt (ev_var rfl) ev_int)) (fun e => absurd (of_decide_eq_true e.symm) (by omega)) fun _ => rs_next rfl) fun ρ' e => ?_
  subst e
  refine rs_ret (ev_tup1 (ea_one (ev_fdiv (i := a) (j := ((Int.gcd a b : Nat) : Int)) (ev_var rfl) (ev_var rfl) gd.1) (ea_one (ev_fdiv (i := b) (j := ((Int.gcd a b : Nat) : Int)) (ev_var rfl) (ev_var rfl) gd.2) ea_nil))) fun d e => ?_
  rw [e, ← fr_div hb]
  exact p
theorem b_law_frac {K : PySem.W.Frag} (ds : List PD) (P : PD → Prop) (h : F_law_frac ds P) : RunS K (t_law_frac K (SpP K F_law_gcd)) (startR 3 (ds.map .dat)) { nx := fun _ => P .none, rt := P, rl := fun es => P (.list es) } := b_fraction ds P h
/-! ### plus, times -/
def F_plus : FD := fun ds P => ∃ x y : Rat, ds = [fr x, fr y] ∧ Sm x ∧ Sm y ∧ P (fr (x + y))
def F_times : FD := fun ds P => ∃ x y : Rat, ds = [fr x, fr y] ∧ Sm x ∧ Sm y ∧ P (fr (x * y))
theorem rat_add (x y : Rat) : Rat.divInt (x.num * y.den + y.num * x.den) ((x.den : Int) * y.den) = x + y := by
  have h := Rat.divInt_add_divInt x.num y.num (d₁ := x.den) (d₂ := y.den) (by have := x.den_nz; omega) (by have := y.den_nz; omega)
  rw [Rat.num_divInt_den, Rat.num_divInt_den] at h
  exact h.symm
theorem rat_mul (x y : Rat) : Rat.divInt (x.num * y.num) ((x.den : Int) * y.den) = x * y := by
  have h := Rat.divInt_mul_divInt x.num y.num (d₁ := x.den) (d₂ := y.den)
  rw [Rat.num_divInt_den, Rat.num_divInt_den] at h
  exact h.symm
theorem Sm.mulW {i j : Int} (h1 : i.natAbs < 2 ^ 4000) (h2 : j.natAbs < 2 ^ 4000) : CMulW i j := Pk.mulW (a := 4000) (b := 4000) (by omega) (by omega) h1 h2 (by omega)
theorem Sm.den {x y : Rat} (h1 : Sm x) (h2 : Sm y) : 0 < (x.den : Int) * y.den ∧ ((x.den : Int) * y.den).natAbs < 2 ^ 9000 := by
  have a := x.den_pos
  have b := y.den_pos
  refine ⟨Int.mul_pos (by omega) (by omega), ?_⟩
  rw [Int.natAbs_mul, Int.natAbs_natCast, Int.natAbs_natCast]
  calc x.den * y.den < 2 ^ 4000 * 2 ^ 4000 := Nat.mul_lt_mul'' h1.2 h2.2
    _ ≤ 2 ^ 9000 := by rw [← Nat.pow_add]; exact Nat.pow_le_pow_right (by omega) (by omega)
theorem b_plus {K : PySem.W.Frag} (ds : List PD) (P : PD → Prop) (h : F_plus ds P) : RunS K (t_plus K (SpP K F_fraction)) (startR 2 (ds.map .dat)) { nx := fun _ => P .none, rt := P, rl := fun es => P (.list es) } := by
  obtain ⟨x, y, rfl, hx, hy, p⟩ := h
  have dn := hx.den hy
  unfold t_plus
  refine rs_ret (ev_call1 (P := (· = fr (x + y))) (ea_one (ev_add (ev_mul (ev_frN (ev_var rfl)) (ev_frD (ev_var rfl)) ?_) (ev_mul (ev_frN (ev_var rfl)) (ev_frD (ev_var rfl)) ?_)) (ea_one (ev_mul (ev_frD (ev_var rfl)) (ev_frD (ev_var rfl)) ?_) ea_nil)) ⟨_, _, rfl, dn.1, dn.2, congrArg fr (rat_add x y)⟩) fun d e => by rw [e]; exact p
  · exact Sm.mulW hx.1 (by rw [Int.natAbs_natCast]; exact hy.2)
  · exact Sm.mulW hy.1 (by rw [Int.natAbs_natCast]; exact hx.2)
  · exact Sm.mulW (by rw [Int.natAbs_natCast]; exact hx.2) (by rw [Int.natAbs_natCast]; exact hy.2)
theorem b_times {K : PySem.W.Frag} (ds : List PD) (P : PD → Prop) (h : F_times ds P) : RunS K (t_times K (SpP K F_fraction)) (startR 2 (ds.map .dat)) { nx := fun _ => P .none, rt := P, rl := fun es => P (.list es) } := by
  obtain ⟨x, y, rfl, hx, hy, p⟩ := h
  have dn := hx.den hy
  unfold t_times
  refine rs_ret (ev_call1 (P := (· = fr (x * y))) (ea_one (ev_mul (ev_frN (ev_var rfl)) (ev_frN (ev_var rfl)) ?_) (ea_one (ev_mul (ev_frD (ev_var rfl)) (ev_frD (ev_var rfl)) ?_) ea_nil)) ⟨_, _, rfl, dn.1, dn.2, congrArg fr (rat_mul x y)⟩) fun d e => by rw [e]; exact p
  · exact Sm.mulW hx.1 hy.1
  · exact Sm.mulW (by rw [Int.natAbs_natCast]; exact hx.2) (by rw [Int.natAbs_natCast]; exact hy.2)
theorem b_law_plus {K : PySem.W.Frag} (ds : List PD) (P : PD → Prop) (h : F_plus ds P) : RunS K (t_law_plus K (SpP K F_law_frac)) (startR 2 (ds.map .dat)) { nx := fun _ => P .none, rt := P, rl := fun es => P (.list es) } := b_plus ds P h
theorem b_law_times {K : PySem.W.Frag} (ds : List PD) (P : PD → Prop) (h : F_times ds P) : RunS K (t_law_times K (SpP K F_law_frac)) (startR 2 (ds.map .dat)) { nx := fun _ => P .none, rt := P, rl := fun es => P (.list es) } := b_times ds P h
end Pk

namespace Pk
open PySem PySem.Spec PyProof.Rows L2
/-! ### places -/
/-- rows with what is left, each row one longer -/
def nextP (l : List (List Int × Nat)) : List (List Int × Nat) := l.flatMap fun p => (List.range (p.2 + 1)).map fun (b : Nat) => (p.1 ++ [(p.2 : Int) - (b : Int)], b)
def prP (p : List Int × Nat) : PD := .tuple [tupI p.1, .int (p.2 : Int)]
def stP : Nat → Nat → List (List Int × Nat)
  | 0, d => [([], d)]
  | k + 1, d => nextP (stP k d)
def pl (n d : Nat) : List (List Int) := (stP (n - 1) d).map fun p => p.1 ++ [(p.2 : Int)]
theorem nextP_take {l : List (List Int × Nat)} {i : Nat} {p : List Int × Nat} (h : l[i]? = some p) : nextP (l.take (i + 1)) = nextP (l.take i) ++ (List.range (p.2 + 1)).map fun (b : Nat) => (p.1 ++ [(p.2 : Int) - (b : Int)], b) := by
  obtain ⟨q1, q2⟩ := List.getElem?_eq_some_iff.mp h
  rw [← List.take_append_getElem q1, q2]
  unfold nextP
  rw [List.flatMap_append, List.flatMap_cons, List.flatMap_nil, List.append_nil]
theorem nextP_left {l : List (List Int × Nat)} {m : Nat} (h : ∀ p ∈ l, p.2 ≤ m) : ∀ p ∈ nextP l, p.2 ≤ m := fun p hp => by
  obtain ⟨q, hq, hb⟩ := List.mem_flatMap.mp hp
  obtain ⟨b, hb1, rfl⟩ := List.mem_map.mp hb
  have := List.mem_range.mp hb1
  have := h q hq
  show b ≤ m
  omega
theorem nextP_len {m : Nat} : ∀ {l : List (List Int × Nat)}, (∀ p ∈ l, p.2 ≤ m) → (nextP l).length ≤ (m + 1) * l.length
  | [], _ => by simp [nextP]
  | p :: l, h => by
    have h1 := h p List.mem_cons_self
    have h2 := nextP_len (l := l) fun q hq => h q (List.mem_cons_of_mem _ hq)
    have e : (nextP (p :: l)).length = p.2 + 1 + (nextP l).length := by
      unfold nextP
      rw [List.flatMap_cons, List.length_append, List.length_map, List.length_range]
    rw [e, List.length_cons, Nat.mul_add, Nat.mul_one]
    omega
theorem stP_left (k d : Nat) : ∀ p ∈ stP k d, p.2 ≤ d := by
  induction k with
  | zero => intro p hp; rw [stP, List.mem_singleton] at hp; rw [hp]; exact Nat.le_refl _
  | succ k ih => exact nextP_left ih
theorem stP_len {d : Nat} (h : d ≤ 20) : (stP 0 d).length = 1 ∧ (stP 1 d).length ≤ 21 ∧ (stP 2 d).length ≤ 441 := by
  have h0 : (stP 0 d).length = 1 := rfl
  have h1 := nextP_len (stP_left 0 d)
  have h2 := nextP_len (stP_left 1 d)
  have h3 : (stP 1 d).length = (nextP (stP 0 d)).length := rfl
  have h4 : (stP 2 d).length = (nextP (stP 1 d)).length := rfl
  rw [h0, Nat.mul_one] at h1
  have h5 : (d + 1) * (stP 1 d).length ≤ 21 * 21 := Nat.mul_le_mul (by omega) (by omega)
  omega
theorem stP_small {n d k : Nat} (hn : n = 2 ∨ n = 3) (hd : d ≤ 20) (hk : k ≤ n - 1) : (stP k d).length ≤ 441 := by
  obtain ⟨a, b, c⟩ := stP_len hd
  have : k = 0 ∨ k = 1 ∨ k = 2 := by omega
  rcases this with rfl | rfl | rfl <;> omega
theorem stP_row {k d : Nat} : ∀ p ∈ stP k d, p.1.length = k := by
  induction k with
  | zero => intro p hp; rw [stP, List.mem_singleton] at hp; rw [hp]; rfl
  | succ k ih =>
    intro p hp
    obtain ⟨q, hq, hb⟩ := List.mem_flatMap.mp hp
    obtain ⟨b, hb1, rfl⟩ := List.mem_map.mp hb
    show (q.1 ++ _).length = k + 1
    rw [List.length_append, ih q hq]
    rfl
theorem map_get {α β : Type} {l : List α} {f : α → β} {i : Nat} {y : β} (h : (l.map f)[i]? = some y) : ∃ x, l[i]? = some x ∧ y = f x := by
  rw [List.getElem?_map] at h
  cases e : l[i]? with
  | none => rw [e] at h; cases h
  | some x => rw [e] at h; exact ⟨x, rfl, (Option.some.inj h).symm⟩
abbrev tP : TE := fun _ _ _ => True
theorem ev_tupI1 {K : PySem.W.Frag} {ρ : Rho} {ta : TE} {i : Int} (h : EvE K ta ρ (· = .int i)) : EvE K (tTup (tCons ta tNil)) ρ (· = tupI [i]) := ev_tup1 (ea_one h ea_nil)
theorem ev_catI {K : PySem.W.Frag} {ρ : Rho} {ta tb : TE} {xs ys : List Int} (ha : EvE K ta ρ (· = tupI xs)) (hb : EvE K tb ρ (· = tupI ys)) (hl : xs.length + ys.length ≤ 100000) : EvE K (tOp (rCatA K) ta tb) ρ (· = tupI (xs ++ ys)) :=
  (ev_catT ha hb (by rw [List.length_map, List.length_map]; exact hl)).imp fun d e => by rw [e, ← List.map_append]
theorem ev_pstep {K : PySem.W.Frag} {n d : PD} {l : List (List Int × Nat)} {x3 x4 x5 x6 : Option Ent} (hl : l.length ≤ 441) (hm : ∀ p ∈ l, p.2 ≤ 20) (hr : ∀ p ∈ l, p.1.length ≤ 100) :
    EvL K (tLc2 (iList K (tVar 2)) (gTup K 2 (gCons (gName 4) (gCons (gName 5) gNil))) tYes (iRng3 (tCons (tVar 5) (tCons (tUn rNegI (tC (.int 1))) (tCons (tUn rNegI (tC (.int 1))) tNil)))) (gName 6) tYes (tTup (tCons (tOp (rCatA K) (tVar 4) (tTup (tCons (tVar 6) tNil))) (tCons (tOp rSubI (tVar 5) (tVar 6)) tNil))) [4, 5, 6] [6])
      [some (.dat n), some (.dat d), some (.dat (.list (l.map prP))), x3, x4, x5, x6] (· = (nextP l).map prP) := by
  have small : ∀ i, (nextP (l.take i)).length ≤ 9261 := fun i => by
    have h1 := nextP_len (l := l.take i) (m := 20) fun p hp => hm p (List.mem_of_mem_take hp)
    have h2 : (l.take i).length ≤ 441 := by rw [List.length_take]; omega
    omega
  refine el_lc2 (ei_list1 (ev_var rfl)) (fun _ i acc => acc = (nextP (l.take i)).map prP) 20000 (by decide) (fun _ i acc e => by rw [e, List.length_map]; exact Nat.le_trans (small i) (by decide)) (fun _ _ => by rw [List.take_zero]; rfl) ?_ fun xs acc e w => by rw [w, e, List.length_map, List.take_length]
  rintro xs i x acc rfl hx rfl
  obtain ⟨p, hp, rfl⟩ := map_get hx
  refine ⟨_, _, (· = true), ?_, bg_tup2 bg_name bg_name, et_yes, (fun z => by cases z), fun _ => ?_⟩
  · decide
  have hp20 := hm p (List.mem_of_getElem? hp)
  have rc : RgC (p.2 : Int) (-1) (-1) (p.2 + 1) := by
    have h := RgC.neg (i := (p.2 : Int)) (j := -1) (by omega) (by omega) (by decide) (by decide)
    have e : ((p.2 : Int) - -1).toNat = p.2 + 1 := by omega
    rw [e] at h
    exact h
  have e6 : (6 : Nat) = 6 := rfl
  refine ⟨(· = rangeD (p.2 : Int) (-1) (p.2 + 1)), fun _ j acc' => acc' = ((nextP (l.take i)) ++ (List.range j).map fun (b : Nat) => (p.1 ++ [(p.2 : Int) - (b : Int)], b)).map prP, ei_range3 (ev_var rfl) (ev_neg ev_int) (ev_neg ev_int) rc, fun ys _ => by simp, fun ys acc' e w => ?_, ?_⟩
  · rw [w, nextP_take hp, e, rangeD_len]
  rintro ys j e acc' rfl he rfl
  obtain ⟨hj, rfl⟩ := rangeD_get he
  refine ⟨by rw [List.length_map, List.length_append, List.length_map, List.length_range]; have := small i; omega, _, _, (· = true), (· = prP (p.1 ++ [(p.2 : Int) - (j : Int)], j)), ?_, bg_name, et_yes, fun _ => ⟨?_, fun z e => ?_⟩, fun z => by cases z⟩
  · decide
  · refine (ev_tup1 (ea_one (ev_catI (xs := p.1) (ys := [(p.2 : Int) + (j : Int) * -1]) (ev_var rfl) (ev_tupI1 (ev_var rfl)) (by have := hr p (List.mem_of_getElem? hp); simp only [List.length_cons, List.length_nil]; omega)) (ea_one (ev_sub (ev_var rfl) (ev_var rfl)) ea_nil))).imp fun d e => ?_
    rw [e]
    unfold prP
    have e1 : (p.2 : Int) + (j : Int) * -1 = (p.2 : Int) - (j : Int) := by omega
    have e2 : (p.2 : Int) - ((p.2 : Int) + (j : Int) * -1) = (j : Int) := by omega
    rw [e2, e1]
  · show _ = List.map prP (nextP (List.take i l) ++ List.map _ (List.range (j + 1)))
    rw [e, List.range_succ]
    simp only [List.map_append, List.append_assoc, List.map_cons, List.map_nil]
def F_places_of (ds : List PD) (ks : List (List Int)) : Prop := ∃ n d : Nat, ds = [.int (n : Int), .int (d : Int)] ∧ (n = 2 ∨ n = 3) ∧ d ≤ 20 ∧ ks = pl n d
theorem b_places_of {K : PySem.W.Frag} (vs : List V) (H : Hp) (Q : VK) (E : XK) (hsp : SpT K F_places_of vs H Q E) : t_places_of K { nx := fun _ H' => Q .non H', rt := Q } (L2.start N_places_of vs) H := by
  refine bodyT (N := N_places_of) (te := tLc (iList K (tVar 2)) (gTup K 2 (gCons (gName 4) (gCons (gName 5) gNil))) tYes (tOp (rCatA K) (tVar 4) (tTup (tCons (tVar 5) tNil))) [4, 5]) (F := F_places_of) (ts := tSeq (tAsg (tLst (tCons (tTup (tCons (tTup tNil) (tCons (tVar 1) tNil))) tNil)) (gName 2))
    (tFor (iRng1 (tCons (tOp rSubI (tVar 0) (tC (.int 1))) tNil)) (gName 3)
      (tAsg (tLc2 (iList K (tVar 2)) (gTup K 2 (gCons (gName 4) (gCons (gName 5) gNil))) tYes (iRng3 (tCons (tVar 5) (tCons (tUn rNegI (tC (.int 1))) (tCons (tUn rNegI (tC (.int 1))) tNil)))) (gName 6) tYes (tTup (tCons (tOp (rCatA K) (tVar 4) (tTup (tCons (tVar 6) tNil))) (tCons (tOp rSubI (tVar 5) (tVar 6)) tNil))) [4, 5, 6] [6]) (gName 2)))) ?_ vs H Q E hsp
  rintro ds ks ⟨n, d, rfl, hn, hd, rfl⟩
  refine rs_set1 (d := .list ((stP 0 d).map prP)) ((el_lst1 (ea_one (ev_tup1 (ea_one (ev_tup1 ea_nil) (ea_one (ev_var rfl) ea_nil))) ea_nil)).datE) ?_
  refine rs_for1 (xs := rangeD 0 1 (n - 1)) ?_ (fun i ρ' => ∃ x3 x4 x5 x6, ρ' = [some (.dat (.int (n : Int))), some (.dat (.int (d : Int))), some (.dat (.list ((stP i d).map prP))), x3, x4, x5, x6]) ⟨none, none, none, none, rfl⟩ ?_ ?_
  · have h := ei_range (K := K) (ρ := (startR N_places_of.length (List.map Ent.dat [PyData.int (n : Int), PyData.int (d : Int)])).set 2 (some (.dat (.list ((stP 0 d).map prP))))) (te := tOp rSubI (tVar 0) (tC (.int 1))) (ev_sub (i := (n : Int)) (j := 1) (ev_var rfl) ev_int) (by omega) (by omega)
    have e : ((n : Int) - 1).toNat = n - 1 := by omega
    rw [e] at h
    exact h
  · rintro i x ρ' hx ⟨x3, x4, x5, x6, rfl⟩
    have hi := (rangeD_get hx).1
    refine ⟨_, _, bg_name, rs_asg (P := (· = .list ((nextP (stP i d)).map prP))) ?_ fun z e => ⟨some (.dat x), x4, x5, x6, ?_⟩⟩
    · exact EvL.datE (ev_pstep (x3 := _) (stP_small hn hd (by omega)) (fun p hp => Nat.le_trans (stP_left i d p hp) hd) fun p hp => by rw [stP_row p hp]; omega)
    · rw [e]; rfl
  · rintro ρ' ⟨x3, x4, x5, x6, rfl⟩
    rw [rangeD_len]
    refine ek_map (pl n d) (ei_list1 (ev_var rfl)) (by unfold pl; rw [List.length_map, List.length_map]) (by unfold pl; rw [List.length_map]; exact Nat.le_trans (stP_small hn hd (Nat.le_refl _)) (by decide)) ?_
    intro i z k hz hk
    obtain ⟨p, hp, rfl⟩ := map_get hz
    obtain ⟨p', hp', rfl⟩ := map_get hk
    rw [hp] at hp'
    cases hp'
    have hrow := stP_row p (List.mem_of_getElem? hp)
    refine ⟨_, _, ?_, bg_tup2 bg_name bg_name, em_catT (xs := p.1) (ys := [(p.2 : Int)]) (ev_var rfl) (ev_tupI1 (ev_var rfl)) (fun z => by rw [z] at hrow; simp only [List.length_nil] at hrow; omega) (by simp) (by simp only [List.length_cons, List.length_nil]; omega)⟩
    decide
theorem pl2 (d : Nat) : pl 2 d = (List.range (d + 1)).map fun (b : Nat) => [(d : Int) - (b : Int), (b : Int)] := by
  show ((stP 1 d).map fun p => p.1 ++ [(p.2 : Int)]) = _
  unfold stP nextP stP
  rw [List.flatMap_cons, List.flatMap_nil, List.append_nil, List.map_map]
  rfl
def row3 (d a : Nat) : List (List Int) := (List.range (a + 1)).map fun (b : Nat) => [(d : Int) - (a : Int), (a : Int) - (b : Int), (b : Int)]
theorem pl3 (d : Nat) : pl 3 d = (List.range (d + 1)).flatMap (row3 d) := by
  show ((stP 2 d).map fun p => p.1 ++ [(p.2 : Int)]) = _
  have e1 : stP 1 d = (List.range (d + 1)).map fun (a : Nat) => ([(d : Int) - (a : Int)], a) := by
    unfold stP nextP stP
    rw [List.flatMap_cons, List.flatMap_nil, List.append_nil]
    rfl
  show ((nextP (stP 1 d)).map fun p => p.1 ++ [(p.2 : Int)]) = _
  rw [e1]
  unfold nextP
  rw [List.flatMap_map, List.map_flatMap]
  congr 1
  funext a
  rw [List.map_map]
  rfl
theorem pl_len {n d : Nat} (hn : n = 2 ∨ n = 3) (hd : d ≤ 20) : (pl n d).length ≤ 441 := by
  unfold pl
  rw [List.length_map]
  exact stP_small hn hd (Nat.le_refl _)
def F_law_places : FL := fun ds P => ∃ n d : Nat, ds = [.int (n : Int), .int (d : Int)] ∧ (n = 2 ∨ n = 3) ∧ d ≤ 20 ∧ P ((pl n d).map tupI)
theorem r_range {K : PySem.W.Frag} {ρ : Rho} {te : TE} {n : Nat} {j : Int} (h : EvE K te ρ (· = .int j)) (e : j = (n : Int)) (hn : n ≤ 1000000) : EvI K (iRng1 (tCons te tNil)) ρ (· = rangeD 0 1 n) := by
  have h2 := ei_range h (by omega) (by omega)
  have e2 : j.toNat = n := by omega
  rw [e2] at h2
  exact h2
theorem range_get {n i : Nat} {x : Nat} (h : (List.range n)[i]? = some x) : i < n ∧ x = i := by
  by_cases hi : i < n
  · rw [List.getElem?_range hi] at h
    exact ⟨hi, (Option.some.inj h).symm⟩
  · rw [List.getElem?_eq_none (by rw [List.length_range]; omega)] at h
    cases h
theorem row3_take (d a : Nat) : (List.range (a + 1)).flatMap (row3 d) = (List.range a).flatMap (row3 d) ++ row3 d a := by
  rw [List.range_succ, List.flatMap_append, List.flatMap_cons, List.flatMap_nil, List.append_nil]
theorem row3_len (d : Nat) : ∀ {a m : Nat}, a ≤ m → m ≤ 21 → ((List.range a).flatMap (row3 d)).length ≤ 441
  | a, m, h, h2 => by
    have : ∀ a, a ≤ 21 → ((List.range a).flatMap (row3 d)).length ≤ 21 * a := by
      intro a
      induction a with
      | zero => intro _; simp
      | succ a ih =>
        intro h
        rw [row3_take, List.length_append]
        have h1 := ih (by omega)
        have h2 : (row3 d a).length = a + 1 := by unfold row3; rw [List.length_map, List.length_range]
        omega
    have := this a (by omega)
    omega
theorem b_law_places {K : PySem.W.Frag} (ds : List PD) (P : List PD → Prop) (h : F_law_places ds P) : RunS K (t_law_places K) (startR 5 (ds.map .dat)) { rl := P } := by
  obtain ⟨n, d, rfl, hn, hd, p⟩ := h
  unfold t_law_places
  refine rs_seq (fun ρ' => n = 3 ∧ ρ' = [some (.dat (.int (n : Int))), some (.dat (.int (d : Int))), none, none, none]) (rs_if (C := (· = decide ((n : Int) = 2))) (et_test1 (ev_eqI (ev_var rfl) ev_int)) (fun e => ?_) fun e => rs_next ⟨by have := of_decide_eq_false e.symm; omega, rfl⟩) ?_
  · have e2 : n = 2 := by have := of_decide_eq_true e.symm; omega
    subst e2
    refine rs_retL (P := (· = (pl 2 d).map tupI)) (el_map _ (r_range (n := d + 1) (ev_add (ev_var rfl) ev_int) (by omega) (by omega)) (by rw [rangeD_len, List.length_map, pl2, List.length_map, List.length_range]) (by rw [List.length_map]; have := pl_len (.inl rfl) hd; omega) ?_) fun z e => by rw [e]; exact p
    intro i x y hx hy
    obtain ⟨hi, rfl⟩ := rangeD_get hx
    obtain ⟨k, hk, rfl⟩ := map_get hy
    rw [pl2] at hk
    obtain ⟨b, hb, rfl⟩ := map_get hk
    obtain ⟨_, rfl⟩ := range_get hb
    refine ⟨_, _, ?_, bg_name, (ev_tup1 (ea_one (ev_sub (ev_var rfl) (ev_var rfl)) (ea_one (ev_var rfl) ea_nil))).imp fun z e => ?_⟩
    · decide
    · rw [e, Int.mul_one, Int.zero_add]
      rfl
  rintro ρ' ⟨rfl, rfl⟩
  refine rs_setL1 (ds := []) (el_lst1 ea_nil) ?_
  refine rs_seq (fun ρ' => ∃ x2 x4, ρ' = [some (.dat (.int ((3 : Nat) : Int))), some (.dat (.int (d : Int))), x2, some (.own (((List.range (d + 1)).flatMap (row3 d)).map tupI)), x4]) ?_ ?_
  · refine rs_for1 (r_range (n := d + 1) (ev_add (ev_var rfl) ev_int) (by omega) (by omega)) (fun i ρ' => ∃ x2 x4, ρ' = [some (.dat (.int ((3 : Nat) : Int))), some (.dat (.int (d : Int))), x2, some (.own (((List.range i).flatMap (row3 d)).map tupI)), x4]) ⟨none, none, rfl⟩ ?_ ?_
    · rintro a x ρ' hx ⟨x2, x4, rfl⟩
      obtain ⟨ha, rfl⟩ := rangeD_get hx
      refine ⟨_, _, bg_name, rs_asgL (P := (· = (((List.range a).flatMap (row3 d)).map tupI) ++ (row3 d a).map tupI)) (el_catO (n := 3) rfl (el_map ((row3 d a).map tupI) (r_range (n := a + 1) (ev_add (ev_var rfl) ev_int) (by omega) (by omega)) (by rw [rangeD_len, List.length_map, row3, List.length_map, List.length_range]) (by rw [List.length_map, row3, List.length_map, List.length_range]; omega) ?_) ?_) ?_⟩
      · intro i x y hx hy
        obtain ⟨hi, rfl⟩ := rangeD_get hx
        obtain ⟨k, hk, rfl⟩ := map_get hy
        obtain ⟨b, hb, rfl⟩ := map_get hk
        obtain ⟨_, rfl⟩ := range_get hb
        refine ⟨_, _, ?_, bg_name, (ev_tup1 (ea_one (ev_sub (ev_var rfl) (ev_var rfl)) (ea_one (ev_sub (ev_var rfl) (ev_var rfl)) (ea_one (ev_var rfl) ea_nil)))).imp fun z e => ?_⟩
        · decide
        · rw [e, Int.mul_one, Int.mul_one, Int.zero_add, Int.zero_add]
          rfl
      · rw [List.length_map, List.length_map]
        have h1 := row3_len d (a := a) (m := 21) (by omega) (by omega)
        have h2 : (row3 d a).length = a + 1 := by unfold row3; rw [List.length_map, List.length_range]
        omega
      · rintro z rfl
        refine ⟨x2, some (.dat (.int (0 + (a : Int) * 1))), ?_⟩
        rw [row3_take, List.map_append]
        rfl
    · rintro ρ' ⟨x2, x4, rfl⟩
      rw [rangeD_len]
      exact ⟨x2, x4, rfl⟩
  · rintro ρ' ⟨x2, x4, rfl⟩
    refine rs_retO (i := 3) rfl ?_
    rw [← pl3]
    exact p
end Pk

namespace Pk
open PySem PySem.Spec PyProof.Rows L2
theorem pl_nodup {n d : Nat} (hn : n = 2 ∨ n = 3) : (pl n d).Nodup := by
  rcases hn with rfl | rfl
  · rw [pl2]
    refine List.pairwise_map.mpr (List.Pairwise.imp ?_ (List.nodup_range (n := d + 1)))
    intro a b h e
    simp only [List.cons.injEq, and_true] at e
    exact h (by omega)
  · rw [pl3]
    refine List.pairwise_flatMap.mpr ⟨fun a _ => ?_, ?_⟩
    · unfold row3
      refine List.pairwise_map.mpr (List.Pairwise.imp ?_ (List.nodup_range (n := a + 1)))
      intro b c h e
      simp only [List.cons.injEq, and_true] at e
      exact h (by omega)
    · refine List.Pairwise.imp ?_ (List.nodup_range (n := d + 1))
      intro a b h x hx y hy e
      obtain ⟨i, _, rfl⟩ := List.mem_map.mp hx
      obtain ⟨j, _, rfl⟩ := List.mem_map.mp hy
      simp only [List.cons.injEq, and_true] at e
      exact h (by omega)
def spotsL (ks : List (List Int)) : List (List Int × Int) := ks.mapIdx fun i k => (k, (i : Int))
theorem spotsL_len (ks : List (List Int)) : (spotsL ks).length = ks.length := List.length_mapIdx
theorem spotsL_get {ks : List (List Int)} {i : Nat} {k : List Int} (h : ks[i]? = some k) : (spotsL ks)[i]? = some (k, (i : Int)) := by
  unfold spotsL
  rw [List.getElem?_mapIdx, h]
  rfl
theorem kI_inj {a b : List Int} (h : kI a = kI b) : a = b := by
  induction a generalizing b with
  | nil => cases b with
    | nil => rfl
    | cons y ys => cases h
  | cons x xs ih => cases b with
    | nil => cases h
    | cons y ys =>
      have h : (Sum.inl x : Key) :: kI xs = Sum.inl y :: kI ys := h
      injection h with h1 h2
      injection h1 with h1
      rw [h1, ih h2]
theorem nd_inj {α : Type} {l : List α} (nd : l.Nodup) {i j : Nat} {x : α} (hi : l[i]? = some x) (hj : l[j]? = some x) : i = j := by
  obtain ⟨a1, a2⟩ := List.getElem?_eq_some_iff.mp hi
  obtain ⟨b1, b2⟩ := List.getElem?_eq_some_iff.mp hj
  have p := List.pairwise_iff_getElem.mp nd
  rcases Nat.lt_trichotomy i j with h | h | h
  · exact absurd (a2.trans b2.symm) (p i j a1 b1 h)
  · exact h
  · exact absurd (b2.trans a2.symm) (p j i b1 a1 h)
theorem dicV_put {ks : List (List Int)} (nd : ks.Nodup) {i : Nat} {k : List Int} (h : ks[i]? = some k) : putK (dicV ((spotsL ks).take i)) (kI k) (.int (i : Int)) = dicV ((spotsL ks).take (i + 1)) := by
  have hs := spotsL_get h
  obtain ⟨q1, q2⟩ := List.getElem?_eq_some_iff.mp hs
  rw [← List.take_append_getElem q1, q2]
  unfold putK
  rw [if_neg]
  · unfold dicV
    rw [List.map_append]
    rfl
  · intro z
    obtain ⟨kv, h1, h2⟩ := List.any_eq_true.mp z
    obtain ⟨p, hp, rfl⟩ := List.mem_map.mp h1
    have e := kI_inj (of_decide_eq_true h2)
    obtain ⟨j, hj, e2⟩ := List.mem_take_iff_getElem.mp hp
    have hj2 : j < i := by omega
    have hjl : j < ks.length := by have := spotsL_len ks; omega
    have hx : ks[j]? = some ks[j] := List.getElem?_eq_getElem hjl
    have e4 : (spotsL ks)[j]? = some p := by
      rw [← e2]
      exact List.getElem?_eq_getElem _
    rw [spotsL_get hx] at e4
    have e5 : p = (ks[j], (j : Int)) := (Option.some.inj e4).symm
    have e6 : ks[j] = k := by rw [← e, e5]
    rw [e6] at hx
    exact absurd (nd_inj nd hx h) (by omega)
theorem dicV_get {ks : List (List Int)} (nd : ks.Nodup) {i : Nat} {k : List Int} (h : ks[i]? = some k) : valV (dicV (spotsL ks)) (kI k) = some (.int (i : Int)) := by
  obtain ⟨r1, r2⟩ := List.getElem?_eq_some_iff.mp h
  have e : (dicV (spotsL ks)).find? (fun kv => decide (kv.1 = kI k)) = some (kI k, .int (i : Int)) := by
    rw [List.find?_eq_some_iff_getElem]
    refine ⟨by simp, i, ?_, ?_, fun j hj => ?_⟩
    · unfold dicV
      rw [List.length_map, spotsL_len]; exact r1
    · unfold dicV
      rw [List.getElem_map]
      have := (List.getElem?_eq_some_iff.mp (spotsL_get h)).2
      rw [this]
    · have hjl : j < ks.length := by omega
      have hx : ks[j]? = some ks[j] := List.getElem?_eq_getElem hjl
      have e4 : (dicV (spotsL ks))[j]? = some (kI ks[j], V.int (j : Int)) := by
        unfold dicV
        rw [List.getElem?_map, spotsL_get hx]
        rfl
      obtain ⟨w1, w2⟩ := List.getElem?_eq_some_iff.mp e4
      rw [w2]
      simp only [Bool.not_eq_true', decide_eq_false_iff_not]
      intro z
      have z2 := kI_inj z
      rw [z2] at hx
      exact absurd (nd_inj nd hx h) (by omega)
  unfold valV
  rw [e]
  rfl
def F_spots_of (ds : List PD) (R : MR) : Prop := ∃ n d : Nat, ds = [.int (n : Int), .int (d : Int)] ∧ (n = 2 ∨ n = 3) ∧ d ≤ 20 ∧ R = DicR (spotsL (pl n d))
theorem yes_go {σ : L2.St} {H : Hp} {R : Bool → Hp → Prop} (h : R true H) : tYes σ H R := h
theorem b_spots_of {K : PySem.W.Frag} (vs : List V) (H : Hp) (Q : VK) (E : XK) (hsp : SpM K F_spots_of vs H Q E) : t_spots_of K (SpT K F_places_of) { nx := fun _ H' => Q .non H', rt := Q } (L2.start N_spots_of vs) H := by
  obtain ⟨S, ds, R, own, hd, ⟨n, d, rfl, hn, hd20, rfl⟩, k⟩ := hsp
  have e := dpa_ints (is := [(n : Int), (d : Int)]) hd
  subst e
  refine ⟨_, rfl, _, rfl, S, _, pl n d, own, by rw [List.append_nil]; exact hd, ⟨n, d, rfl, hn, hd20, rfl⟩, fun p us H' same hp hl hk => ⟨p, us, rfl, SqL.of hl, fun D hD => ?_⟩⟩
  have hlen := hk.len
  have hle := pl_len hn hd20
  refine ⟨fun i m G => m = us.length - i ∧ i ≤ us.length ∧ G D = some (.dT (dicV ((spotsL (pl n d)).take i))) ∧ Same H' G, ⟨_, rfl, Nat.zero_le _, upd_same, same_new hD⟩, ?_⟩
  rintro i m G ⟨rfl, hi, gD, gS⟩
  have gp : G p = some (.lst us) := gS _ _ hl
  by_cases hlt : i < us.length
  · obtain ⟨u, hu⟩ := get_some hlt
    obtain ⟨key, hkey, kr⟩ := hk.get hu
    refine .inr ⟨⟨us, u, SqL.of gp, hu⟩, fun G' => G' D = some (.dT (dicV ((spotsL (pl n d)).take (i + 1)))) ∧ Same H' G', fun G' ⟨z1, z2⟩ => ⟨us.length - (i + 1), by omega, rfl, hlt, z1, z2⟩, ?_⟩
    rintro x G' ⟨T, u', rfl, hT, rfl, hu'⟩
    have e : u' = u := by
      have := hu' us (SqL.of gp)
      rw [hu] at this
      exact (Option.some.inj this).symm
    subst e
    have sT := same_new (o := .tup [.int (i : Int), u']) hT
    refine ⟨T, _, rfl, .inl (.inl upd_same), rfl, _, _, rfl, _, _, rfl, rfl, rfl, ?_⟩
    refine yes_go ?_
    refine iteT ?_
    refine ⟨_, rfl, _, rfl, ?_⟩
    obtain ⟨b, rfl, hb⟩ := kr
    refine ⟨_, ⟨_, kI key, b, sT _ _ gD, rfl, ?_, ?_, rfl⟩, ?_, ?_⟩
    · rw [kI_kV]
      exact sT _ _ (gS _ _ (hid_le _ _ _ _ hb))
    · unfold dicV
      rw [List.length_map, List.length_take]
      exact Nat.lt_of_le_of_lt (Nat.min_le_left _ _) (Nat.lt_of_lt_of_le (show i < 100000 by omega) (by decide))
    · rw [upd_same, dicV_put (pl_nodup hn) hkey]
    · intro a o h
      rw [upd_ne (ne_of_none h hD)]
      exact sT _ _ (gS _ _ h)
  · have e : i = us.length := by omega
    subst e
    refine .inl ⟨⟨us, SqL.of gp, Nat.le_refl _⟩, k _ G (fun a o h => gS _ _ (same _ _ h)) ⟨D, rfl, ?_⟩⟩
    rw [hid_out]
    · rw [gD, hlen, ← spotsL_len, List.take_length]
    · intro z
      cases q : H D with
      | none => exact own D z q
      | some o => rw [same _ _ q] at hD; cases hD
end Pk

namespace Pk
open PySem PySem.Spec PyProof.Rows L2
/-! ### sums and multiples of forms -/
abbrev frs (xs : List Rat) : PD := .list (xs.map fr)
theorem mem_get {α : Type} {l : List α} {i : Nat} {x : α} (h : l[i]? = some x) : x ∈ l := List.mem_of_getElem? h
theorem ev_call_plus {K : PySem.W.Frag} {ρ : Rho} {ta tb : TE} {x y : Rat} (ha : EvE K ta ρ (· = fr x)) (hb : EvE K tb ρ (· = fr y)) (hx : Sm x) (hy : Sm y) : EvE K (tCall (SpP K F_plus) [] E0 (tCons ta (tCons tb tNil))) ρ (· = fr (x + y)) :=
  ev_call1 (ea_one ha (ea_one hb ea_nil)) ⟨x, y, rfl, hx, hy, rfl⟩
theorem ev_call_times {K : PySem.W.Frag} {ρ : Rho} {ta tb : TE} {x y : Rat} (ha : EvE K ta ρ (· = fr x)) (hb : EvE K tb ρ (· = fr y)) (hx : Sm x) (hy : Sm y) : EvE K (tCall (SpP K F_times) [] E0 (tCons ta (tCons tb tNil))) ρ (· = fr (x * y)) :=
  ev_call1 (ea_one ha (ea_one hb ea_nil)) ⟨x, y, rfl, hx, hy, rfl⟩
def sumF (xs ys : List Rat) : List Rat := List.zipWith (· + ·) xs ys
def F_form_sum : FL := fun ds P => ∃ xs ys : List Rat, ds = [frs xs, frs ys] ∧ xs.length = ys.length ∧ xs.length ≤ 1000 ∧ (∀ x ∈ xs, Sm x) ∧ (∀ y ∈ ys, Sm y) ∧ P ((sumF xs ys).map fr)
theorem b_form_sum {K : PySem.W.Frag} (ds : List PD) (P : List PD → Prop) (h : F_form_sum ds P) : RunS K (t_form_sum K (SpP K F_plus)) (startR 4 (ds.map .dat)) { rl := P } := by
  obtain ⟨xs, ys, rfl, hl, hb, hx, hy, p⟩ := h
  unfold t_form_sum
  refine rs_retL (P := (· = (sumF xs ys).map fr)) (el_map _ (ei_zip (ev_var rfl) (ev_var rfl)) ?_ ?_ ?_) fun z e => by rw [e]; exact p
  · rw [zipD_len, List.length_map, List.length_map, List.length_map, sumF, List.length_zipWith]
  · rw [List.length_map, sumF, List.length_zipWith]; omega
  · intro i d y hd hy2
    obtain ⟨u, v, h1, h2, rfl⟩ := zip_get hd
    obtain ⟨x1, g1, rfl⟩ := map_get h1
    obtain ⟨y1, g2, rfl⟩ := map_get h2
    obtain ⟨z, g3, rfl⟩ := map_get hy2
    unfold sumF at g3
    rw [List.getElem?_zipWith, g1, g2] at g3
    cases g3
    exact ⟨_, _, (by decide), bg_tup2 bg_name bg_name, ev_call_plus (ev_var rfl) (ev_var rfl) (hx _ (mem_get g1)) (hy _ (mem_get g2))⟩
def F_form_times : FL := fun ds P => ∃ (x : Rat) (xs : List Rat), ds = [fr x, frs xs] ∧ xs.length ≤ 1000 ∧ Sm x ∧ (∀ y ∈ xs, Sm y) ∧ P ((xs.map (x * ·)).map fr)
theorem b_form_times {K : PySem.W.Frag} (ds : List PD) (P : List PD → Prop) (h : F_form_times ds P) : RunS K (t_form_times K (SpP K F_times)) (startR 3 (ds.map .dat)) { rl := P } := by
  obtain ⟨x, xs, rfl, hb, hx, hy, p⟩ := h
  unfold t_form_times
  refine rs_retL (P := (· = (xs.map (x * ·)).map fr)) (el_map _ (ei_list1 (ev_var rfl)) (by rw [List.length_map, List.length_map, List.length_map]) (by rw [List.length_map, List.length_map]; omega) ?_) fun z e => by rw [e]; exact p
  intro i d y hd hy2
  obtain ⟨u, g1, rfl⟩ := map_get hd
  obtain ⟨z, g2, rfl⟩ := map_get hy2
  obtain ⟨u', g3, rfl⟩ := map_get g2
  rw [g1] at g3
  cases g3
  exact ⟨_, _, (by decide), bg_name, ev_call_times (ev_var rfl) (ev_var rfl) hx (hy _ (mem_get g1))⟩
/-! ### powers, worths -/
theorem fr_one : fr 1 = .tuple [.int 1, .int 1] := rfl
theorem fr_zero : fr 0 = .tuple [.int 0, .int 1] := rfl
theorem Sm.one : Sm 1 := ⟨Nat.one_lt_two_pow (by omega), Nat.one_lt_two_pow (by omega)⟩
theorem Sm.zero : Sm 0 := ⟨Nat.two_pow_pos _, Nat.one_lt_two_pow (by omega)⟩
def F_powers_at : FL := fun ds P => ∃ (x : Rat) (m : Nat), ds = [fr x, .int (m : Int)] ∧ m ≤ 100 ∧ Sm x ∧ (∀ i, i ≤ m → Sm (x ^ i)) ∧ P ((List.range (m + 1)).map fun i => fr (x ^ i))
theorem b_powers_at {K : PySem.W.Frag} (one : ∀ H, SqT K H (He.ga K "ONE") [.int 1, .int 1]) (ds : List PD) (P : List PD → Prop) (h : F_powers_at ds P) : RunS K (t_powers_at K (SpP K F_times)) (startR 4 (ds.map .dat)) { rl := P } := by
  obtain ⟨x, m, rfl, hm, hx, hp, p⟩ := h
  unfold t_powers_at
  refine rs_setL1 (ds := [fr 1]) (el_lst1 (ea_one (ev_conT (is := [1, 1]) one) ea_nil)) ?_
  refine rs_seq (fun ρ' => ∃ x3, ρ' = [some (.dat (fr x)), some (.dat (.int (m : Int))), some (.own ((List.range (m + 1)).map fun i => fr (x ^ i))), x3]) ?_ ?_
  · refine rs_for1 (r_range (n := m) (ev_var rfl) rfl (by omega)) (fun i ρ' => ∃ x3, ρ' = [some (.dat (fr x)), some (.dat (.int (m : Int))), some (.own ((List.range (i + 1)).map fun i => fr (x ^ i))), x3]) ⟨none, ?_⟩ ?_ ?_
    · show (_ : Rho) = ([some (.dat (fr x)), some (.dat (.int (m : Int))), some (.own [fr (x ^ 0)]), none] : Rho)
      rw [Rat.pow_zero]
      rfl
    · rintro i d ρ' hd ⟨x3, rfl⟩
      obtain ⟨hi, rfl⟩ := rangeD_get hd
      refine ⟨_, _, bg_name, rs_app (i := 2) (ds := (List.range (i + 1)).map fun i => fr (x ^ i)) rfl (by rw [List.length_map, List.length_range]; omega) (ev_call_times (x := x ^ i) (y := x) (ev_ownIx (i := 2) (n := -1) rfl (ev_neg ev_int) ?_) (ev_var rfl) (hp i (by omega)) hx) fun z e => ⟨some (.dat (.int (0 + (i : Int) * 1))), ?_⟩⟩
      · unfold atI ixN
        rw [List.length_map, List.length_range, if_neg (by omega), if_pos (by omega)]
        have e : (-1 + ((i + 1 : Nat) : Int)).toNat = i := by omega
        show ((List.range (i + 1)).map fun i => fr (x ^ i))[(-1 + ((i + 1 : Nat) : Int)).toNat]? = _
        rw [e, List.getElem?_map, List.getElem?_range (by omega)]
        rfl
      · rw [e, ← Rat.pow_succ]
        show (_ : Rho) = ([some (.dat (fr x)), some (.dat (.int (m : Int))), some (.own ((List.range (i + 1 + 1)).map fun i => fr (x ^ i))), some (.dat (.int (0 + (i : Int) * 1)))] : Rho)
        rw [List.range_succ (n := i + 1), List.map_append]
        rfl
    · rintro ρ' ⟨x3, rfl⟩
      rw [rangeD_len]
      exact ⟨x3, rfl⟩
  · rintro ρ' ⟨x3, rfl⟩
    exact rs_retO (i := 2) rfl p
def mono : List Rat → List Nat → Rat
  | x :: xs, j :: js => x ^ j * mono xs js
  | _, _ => 1
theorem mono_snoc : ∀ {xs : List Rat} {e : List Nat} {x : Rat} {j : Nat}, xs[e.length]? = some x → mono xs (e ++ [j]) = mono xs e * x ^ j
  | [], e, x, j, h => by simp at h
  | y :: ys, [], x, j, h => by
    simp only [List.length_nil, List.getElem?_cons_zero, Option.some.injEq] at h
    subst h
    show y ^ j * mono ys [] = 1 * y ^ j
    have : mono ys [] = 1 := by cases ys <;> rfl
    rw [this]
    grind
  | y :: ys, k :: e, x, j, h => by
    have h2 : ys[e.length]? = some x := by simpa using h
    show y ^ k * mono ys (e ++ [j]) = y ^ k * mono ys e * x ^ j
    rw [mono_snoc h2]
    grind
abbrev toN (p : List Int) : List Nat := p.map Int.toNat
def terms (n d : Nat) (cs xs : List Rat) : List Rat := List.zipWith (fun p c => c * mono xs (toN p)) (pl n d) cs
structure AtB (n d : Nat) (cs xs : List Rat) : Prop where
  n23 : n = 2 ∨ n = 3
  d20 : d ≤ 10
  len : cs.length = (pl n d).length
  xlen : xs.length = n
  part : ∀ c ∈ cs, ∀ e : List Nat, (∀ j ∈ e, j ≤ d) → Sm (c * mono xs e)
  tot : ∀ i, Sm ((terms n d cs xs).take i).sum
  pow : ∀ x ∈ xs, ∀ j, j ≤ d → Sm (x ^ j)
  unk : ∀ x ∈ xs, Sm x
theorem pl_entry {n d : Nat} (hn : n = 2 ∨ n = 3) {p : List Int} (h : p ∈ pl n d) : p.length = n ∧ ∀ z ∈ p, 0 ≤ z ∧ z ≤ d := by
  rcases hn with rfl | rfl
  · rw [pl2] at h
    obtain ⟨b, hb, rfl⟩ := List.mem_map.mp h
    have := List.mem_range.mp hb
    refine ⟨rfl, fun z hz => ?_⟩
    simp only [List.mem_cons, List.not_mem_nil, or_false] at hz
    omega
  · rw [pl3] at h
    obtain ⟨a, ha, h⟩ := List.mem_flatMap.mp h
    obtain ⟨b, hb, rfl⟩ := List.mem_map.mp h
    have := List.mem_range.mp ha
    have := List.mem_range.mp hb
    refine ⟨rfl, fun z hz => ?_⟩
    simp only [List.mem_cons, List.not_mem_nil, or_false] at hz
    omega
def F_form_at : FD := fun ds P => ∃ (n d : Nat) (cs xs : List Rat), ds = [.int (n : Int), frs cs, .int (d : Int), .tuple (xs.map fr)] ∧ AtB n d cs xs ∧ P (fr (terms n d cs xs).sum)
theorem sum_take {l : List Rat} {i : Nat} {x : Rat} (h : l[i]? = some x) : (l.take (i + 1)).sum = (l.take i).sum + x := by
  obtain ⟨q1, q2⟩ := List.getElem?_eq_some_iff.mp h
  have ap : ∀ (a : List Rat) (b : Rat), (a ++ [b]).sum = a.sum + b := by
    intro a b
    induction a with
    | nil => simp [List.sum_cons, List.sum_nil]; grind
    | cons y ys ih => rw [List.cons_append, List.sum_cons, List.sum_cons, ih]; grind
  rw [← List.take_append_getElem q1, ap, q2]
theorem range01_get {n i : Nat} {d : PD} (h : (rangeD 0 1 n)[i]? = some d) : i < n ∧ d = .int (i : Int) := by
  obtain ⟨h1, h2⟩ := rangeD_get h
  refine ⟨h1, h2.trans ?_⟩
  have e : (0 : Int) + (i : Int) * 1 = i := by omega
  rw [e]
theorem el_places {K : PySem.W.Frag} {ρ : Rho} {ta tb : TE} {n d : Nat} (ha : EvE K ta ρ (· = .int (n : Int))) (hb : EvE K tb ρ (· = .int (d : Int))) (hn : n = 2 ∨ n = 3) (hd : d ≤ 20) : EvL K (tCall (SpL K F_law_places) [] E0 (tCons ta (tCons tb tNil))) ρ (· = (pl n d).map tupI) :=
  el_call1 (ea_one ha (ea_one hb ea_nil)) ⟨n, d, rfl, hn, hd, rfl⟩
theorem atB_term {n d : Nat} {cs xs : List Rat} {i : Nat} {c : Rat} {p : List Int} (hc : cs[i]? = some c) (hp : (pl n d)[i]? = some p) : (terms n d cs xs)[i]? = some (c * mono xs (toN p)) := by
  unfold terms
  rw [List.getElem?_zipWith, hp, hc]
theorem take_snoc {α : Type} {l : List α} {k : Nat} {x : α} (h : l[k]? = some x) : l.take (k + 1) = l.take k ++ [x] := by
  obtain ⟨q1, q2⟩ := List.getElem?_eq_some_iff.mp h
  rw [← List.take_append_getElem q1, q2]
theorem toN_get {p : List Int} {k : Nat} {z : Int} (h : p[k]? = some z) : (toN p)[k]? = some z.toNat := by
  rw [List.getElem?_map, h]
  rfl
theorem mono_take {xs : List Rat} {p : List Int} {k : Nat} {z : Int} {x : Rat} (hz : p[k]? = some z) (hx : xs[k]? = some x) : mono xs ((toN p).take (k + 1)) = mono xs ((toN p).take k) * x ^ z.toNat := by
  have hk := (List.getElem?_eq_some_iff.mp hz).1
  rw [take_snoc (toN_get hz)]
  refine mono_snoc ?_
  rw [List.length_take, List.length_map, Nat.min_eq_left (by omega)]
  exact hx
theorem toN_le {n d : Nat} (hn : n = 2 ∨ n = 3) {p : List Int} (h : p ∈ pl n d) : ∀ j ∈ toN p, j ≤ d := fun j hj => by
  obtain ⟨z, hz, rfl⟩ := List.mem_map.mp hj
  have := (pl_entry hn h).2 z hz
  omega
theorem ev_places {K : PySem.W.Frag} {ρ : Rho} {te : TE} {n d : Nat} (h : EvL K te ρ (· = (pl n d).map tupI)) : EvE K te ρ (· = .list ((pl n d).map tupI)) := h.datE
theorem b_form_at {K : PySem.W.Frag} (zero : ∀ H, SqT K H (He.ga K "ZERO") [.int 0, .int 1]) (ds : List PD) (P : PD → Prop) (h : F_form_at ds P) : RunS K (t_form_at K (SpP K F_plus) (SpP K F_times) (SpL K F_law_places) (SpL K F_powers_at)) (startR 10 (ds.map .dat)) { nx := fun _ => P .none, rt := P, rl := fun es => P (.list es) } := by
  obtain ⟨n, d, cs, xs, rfl, B, p⟩ := h
  have hd10 := B.d20
  have hn3 : n ≤ 3 := by rcases B.n23 with h | h <;> omega
  have hle := pl_len B.n23 (d := d) (by omega)
  let pw : List PD := xs.map fun x => .list ((List.range (d + 1)).map fun i => fr (x ^ i))
  unfold t_form_at
  refine rs_set1 (d := .list pw) (EvL.datE (el_map pw (ei_tup1 (ev_var rfl)) (by rw [List.length_map, List.length_map]) (by rw [List.length_map, B.xlen]; omega) ?_)) ?_
  · intro i z y hz hy
    obtain ⟨x, g1, rfl⟩ := map_get hz
    obtain ⟨x', g2, rfl⟩ := map_get hy
    rw [g1] at g2
    cases g2
    exact ⟨_, _, (by decide), bg_name, EvL.datE (el_call1 (ea_one (ev_var rfl) (ea_one (ev_var rfl) ea_nil)) ⟨x, d, rfl, by omega, B.unk x (mem_get g1), B.pow x (mem_get g1), rfl⟩)⟩
  refine rs_set1 (d := fr 0) (ev_conT (is := [0, 1]) zero) ?_
  refine rs_seq (fun ρ' => ∃ x5 x7 x8 x9, ρ' = [some (.dat (.int (n : Int))), some (.dat (frs cs)), some (.dat (.int (d : Int))), some (.dat (.tuple (xs.map fr))), some (.dat (.list pw)), x5, some (.dat (fr (terms n d cs xs).sum)), x7, x8, x9]) ?_ ?_
  · refine rs_for1 (ei_zip (ev_places (el_places (ev_var rfl) (ev_var rfl) B.n23 (by omega))) (ev_var (d := frs cs) rfl)) (fun i ρ' => ∃ x5 x7 x8 x9, ρ' = [some (.dat (.int (n : Int))), some (.dat (frs cs)), some (.dat (.int (d : Int))), some (.dat (.tuple (xs.map fr))), some (.dat (.list pw)), x5, some (.dat (fr ((terms n d cs xs).take i).sum)), x7, x8, x9]) ⟨none, none, none, none, rfl⟩ ?_ ?_
    · rintro i z ρ' hz ⟨x5, x7, x8, x9, rfl⟩
      obtain ⟨u, v, h1, h2, rfl⟩ := zip_get hz
      obtain ⟨pp, g1, rfl⟩ := map_get h1
      obtain ⟨c, g2, rfl⟩ := map_get h2
      have pe := pl_entry B.n23 (mem_get g1)
      have tN := toN_le B.n23 (mem_get g1)
      have tm := sum_take (atB_term (xs := xs) g2 g1)
      refine ⟨_, _, bg_tup2 bg_name bg_name, rs_if (C := (· = (c.num != 0))) (et_truI (ev_frN (ev_var rfl))) (fun _ => ?_) fun e => ?_⟩
      · refine rs_set1 (d := fr c) (ev_var rfl) ?_
        refine rs_seq (fun ρ' => ∃ x9, ρ' = [some (.dat (.int (n : Int))), some (.dat (frs cs)), some (.dat (.int (d : Int))), some (.dat (.tuple (xs.map fr))), some (.dat (.list pw)), some (.dat (fr c)), some (.dat (fr ((terms n d cs xs).take i).sum)), some (.dat (tupI pp)), some (.dat (fr (c * mono xs (toN pp)))), x9]) ?_ ?_
        · refine rs_for1 (r_range (n := n) (ev_var rfl) rfl (by omega)) (fun k ρ' => ∃ x9, ρ' = [some (.dat (.int (n : Int))), some (.dat (frs cs)), some (.dat (.int (d : Int))), some (.dat (.tuple (xs.map fr))), some (.dat (.list pw)), some (.dat (fr c)), some (.dat (fr ((terms n d cs xs).take i).sum)), some (.dat (tupI pp)), some (.dat (fr (c * mono xs ((toN pp).take k)))), x9]) ⟨x9, ?_⟩ ?_ ?_
          · have e1 : c * mono xs ((toN pp).take 0) = c := by
              rw [List.take_zero]
              have : mono xs [] = 1 := by cases xs <;> rfl
              rw [this, Rat.mul_one]
            rw [e1]
            rfl
          · rintro k y ρ' hy ⟨x9, rfl⟩
            obtain ⟨hk, rfl⟩ := range01_get hy
            obtain ⟨zk, gz⟩ := get_some (l := pp) (i := k) (by rw [pe.1]; exact hk)
            obtain ⟨xk, gx⟩ := get_some (l := xs) (i := k) (by rw [B.xlen]; exact hk)
            have zb := pe.2 zk (mem_get gz)
            refine ⟨_, _, bg_name, rs_asg (P := (· = fr (c * mono xs ((toN pp).take k) * xk ^ zk.toNat))) (ev_call_times (ev_var rfl) (ev_ixL (ds := (List.range (d + 1)).map fun i => fr (xk ^ i)) (ev_ixL (ds := pw) (ev_var rfl) (ev_var rfl) (atiN ?_)) (ev_ixT (ds := pp.map .int) (i := (k : Int)) (d := .int ((zk.toNat : Nat) : Int)) (ev_var rfl) (ev_var rfl) (atiN ?_)) (atiN ?_)) ?_ ?_) fun w e => ⟨some (.dat (.int (k : Int))), ?_⟩⟩
            · rw [List.getElem?_map, gx]; rfl
            · rw [List.getElem?_map, gz, Int.toNat_of_nonneg zb.1]; rfl
            · rw [List.getElem?_map, List.getElem?_range (by omega)]; rfl
            · exact B.part c (mem_get g2) _ fun j hj => tN j (List.mem_of_mem_take hj)
            · exact B.pow xk (mem_get gx) _ (by omega)
            · rw [e, mono_take gz gx, Rat.mul_assoc]
              rfl
          · rintro ρ' ⟨x9, rfl⟩
            rw [rangeD_len]
            have e1 : (toN pp).take n = toN pp := List.take_of_length_le (by rw [List.length_map, pe.1]; exact Nat.le_refl _)
            rw [e1]
            exact ⟨x9, rfl⟩
        · rintro ρ' ⟨x9, rfl⟩
          refine rs_asg (P := (· = fr (((terms n d cs xs).take i).sum + c * mono xs (toN pp)))) (ev_call_plus (ev_var rfl) (ev_var rfl) (B.tot i) (B.part c (mem_get g2) _ tN)) fun w e => ⟨some (.dat (fr c)), some (.dat (tupI pp)), some (.dat (fr (c * mono xs (toN pp)))), x9, ?_⟩
          rw [e, tm]
          rfl
      · have c0 : c = 0 := by
          have : c.num = 0 := by simpa using e.symm
          exact Rat.num_eq_zero.mp this
        refine rs_next ⟨some (.dat (fr c)), some (.dat (tupI pp)), x8, x9, ?_⟩
        have e1 : ((terms n d cs xs).take (i + 1)).sum = ((terms n d cs xs).take i).sum := by
          rw [tm, c0, Rat.zero_mul, Rat.add_zero]
        rw [e1]
        rfl
    · rintro ρ' ⟨x5, x7, x8, x9, rfl⟩
      refine ⟨x5, x7, x8, x9, ?_⟩
      have e1 : (terms n d cs xs).take (zipD ((pl n d).map tupI) (cs.map fr)).length = terms n d cs xs := List.take_of_length_le (by rw [zipD_len, List.length_map, List.length_map]; unfold terms; rw [List.length_zipWith]; exact Nat.le_refl _)
      rw [e1]
  · rintro ρ' ⟨x5, x7, x8, x9, rfl⟩
    exact rs_ret (ev_var rfl) fun w e => by rw [e]; exact p
theorem b_law_at {K : PySem.W.Frag} (ds : List PD) (P : PD → Prop) (h : F_form_at ds P) : RunS K (t_law_at K (SpP K F_plus) (SpP K F_times) (SpL K F_law_places)) (startR 10 (ds.map .dat)) { nx := fun _ => P .none, rt := P, rl := fun es => P (.list es) } := by
  obtain ⟨n, d, cs, xs, rfl, B, p⟩ := h
  have hd10 := B.d20
  have hn3 : n ≤ 3 := by rcases B.n23 with h | h <;> omega
  have hle := pl_len B.n23 (d := d) (by omega)
  unfold t_law_at
  refine rs_par1 (a := .list ((pl n d).map tupI)) (b := fr 0) (ea_one (ev_places (el_places (ev_var rfl) (ev_var rfl) B.n23 (by omega))) (ea_one (ev_tup1 (ea_one ev_int (ea_one ev_int ea_nil))) ea_nil)) ?_
  refine rs_seq (fun ρ' => ∃ x6 x7 x8 x9, ρ' = [some (.dat (.int (n : Int))), some (.dat (frs cs)), some (.dat (.int (d : Int))), some (.dat (.tuple (xs.map fr))), some (.dat (.list ((pl n d).map tupI))), some (.dat (fr (terms n d cs xs).sum)), x6, x7, x8, x9]) ?_ ?_
  · refine rs_for1 (r_range (n := (pl n d).length) (ev_lenL (ev_var rfl)) (by rw [List.length_map]) (by omega)) (fun i ρ' => ∃ x6 x7 x8 x9, ρ' = [some (.dat (.int (n : Int))), some (.dat (frs cs)), some (.dat (.int (d : Int))), some (.dat (.tuple (xs.map fr))), some (.dat (.list ((pl n d).map tupI))), some (.dat (fr ((terms n d cs xs).take i).sum)), x6, x7, x8, x9]) ⟨none, none, none, none, rfl⟩ ?_ ?_
    · rintro i z ρ' hz ⟨x6, x7, x8, x9, rfl⟩
      obtain ⟨hi, rfl⟩ := range01_get hz
      obtain ⟨pp, g1⟩ := get_some (l := pl n d) hi
      obtain ⟨c, g2⟩ := get_some (l := cs) (i := i) (by rw [B.len]; exact hi)
      have pe := pl_entry B.n23 (mem_get g1)
      have tN := toN_le B.n23 (mem_get g1)
      have tm := sum_take (atB_term (xs := xs) g2 g1)
      refine ⟨_, _, bg_name, rs_set1 (d := fr c) (ev_ixL (ds := cs.map fr) (ev_var rfl) (ev_var rfl) (atiN (by rw [List.getElem?_map, g2]; rfl))) ?_⟩
      refine rs_seq (fun ρ' => ∃ x8 x9, ρ' = [some (.dat (.int (n : Int))), some (.dat (frs cs)), some (.dat (.int (d : Int))), some (.dat (.tuple (xs.map fr))), some (.dat (.list ((pl n d).map tupI))), some (.dat (fr ((terms n d cs xs).take i).sum)), some (.dat (.int (i : Int))), some (.dat (fr (c * mono xs (toN pp)))), x8, x9]) ?_ ?_
      · refine rs_for1 (r_range (n := n) (ev_var rfl) rfl (by omega)) (fun k ρ' => ∃ x8 x9, ρ' = [some (.dat (.int (n : Int))), some (.dat (frs cs)), some (.dat (.int (d : Int))), some (.dat (.tuple (xs.map fr))), some (.dat (.list ((pl n d).map tupI))), some (.dat (fr ((terms n d cs xs).take i).sum)), some (.dat (.int (i : Int))), some (.dat (fr (c * mono xs ((toN pp).take k)))), x8, x9]) ⟨x8, x9, ?_⟩ ?_ ?_
        · have e1 : c * mono xs ((toN pp).take 0) = c := by
            rw [List.take_zero]
            have : mono xs [] = 1 := by cases xs <;> rfl
            rw [this, Rat.mul_one]
          rw [e1]
          rfl
        · rintro k y ρ' hy ⟨x8, x9, rfl⟩
          obtain ⟨hk, rfl⟩ := range01_get hy
          obtain ⟨zk, gz⟩ := get_some (l := pp) (i := k) (by rw [pe.1]; exact hk)
          obtain ⟨xk, gx⟩ := get_some (l := xs) (i := k) (by rw [B.xlen]; exact hk)
          have zb := pe.2 zk (mem_get gz)
          have kl : ((toN pp).take k).length = k := by rw [List.length_take, List.length_map, pe.1]; omega
          have gx2 : xs[((toN pp).take k).length]? = some xk := by rw [kl]; exact gx
          refine ⟨_, _, bg_name, rs_for1 (r_range (n := zk.toNat) (ev_ixT (ds := pp.map .int) (i := (k : Int)) (d := .int zk) (ev_ixL (ds := (pl n d).map tupI) (i := (i : Int)) (ev_var rfl) (ev_var rfl) (atiN (by rw [List.getElem?_map, g1]; rfl))) (ev_var rfl) (atiN (by rw [List.getElem?_map, gz]; rfl))) (by omega) (by omega)) (fun j ρ' => ∃ x9, ρ' = [some (.dat (.int (n : Int))), some (.dat (frs cs)), some (.dat (.int (d : Int))), some (.dat (.tuple (xs.map fr))), some (.dat (.list ((pl n d).map tupI))), some (.dat (fr ((terms n d cs xs).take i).sum)), some (.dat (.int (i : Int))), some (.dat (fr (c * mono xs ((toN pp).take k ++ [j])))), some (.dat (.int (k : Int))), x9]) ⟨x9, ?_⟩ ?_ ?_⟩
          · rw [mono_snoc gx2, Rat.pow_zero, Rat.mul_one]
            rfl
          · rintro j w ρ' hw ⟨x9, rfl⟩
            obtain ⟨hj, rfl⟩ := range01_get hw
            refine ⟨_, _, bg_name, rs_asg (P := (· = fr (c * mono xs ((toN pp).take k ++ [j]) * xk))) (ev_call_times (ev_var rfl) (ev_ixT (ds := xs.map fr) (i := (k : Int)) (ev_var rfl) (ev_var rfl) (atiN (by rw [List.getElem?_map, gx]; rfl))) ?_ (B.unk xk (mem_get gx))) fun w e => ⟨some (.dat (.int (j : Int))), ?_⟩⟩
            · refine B.part c (mem_get g2) _ fun q hq => ?_
              rcases List.mem_append.mp hq with hq | hq
              · exact tN q (List.mem_of_mem_take hq)
              · have := List.mem_singleton.mp hq
                omega
            · rw [e, mono_snoc gx2, mono_snoc gx2, Rat.pow_succ, Rat.mul_assoc, Rat.mul_assoc]
              rfl
          · rintro ρ' ⟨x9, rfl⟩
            rw [rangeD_len]
            refine ⟨some (.dat (.int (k : Int))), x9, ?_⟩
            rw [mono_take gz gx, mono_snoc gx2]
        · rintro ρ' ⟨x8, x9, rfl⟩
          rw [rangeD_len]
          have e1 : (toN pp).take n = toN pp := List.take_of_length_le (by rw [List.length_map, pe.1]; exact Nat.le_refl _)
          rw [e1]
          exact ⟨x8, x9, rfl⟩
      · rintro ρ' ⟨x8, x9, rfl⟩
        refine rs_asg (P := (· = fr (((terms n d cs xs).take i).sum + c * mono xs (toN pp)))) (ev_call_plus (ev_var rfl) (ev_var rfl) (B.tot i) (B.part c (mem_get g2) _ tN)) fun w e => ⟨some (.dat (.int (i : Int))), some (.dat (fr (c * mono xs (toN pp)))), x8, x9, ?_⟩
        rw [e, tm]
        rfl
    · rintro ρ' ⟨x6, x7, x8, x9, rfl⟩
      refine ⟨x6, x7, x8, x9, ?_⟩
      have e1 : (terms n d cs xs).take (rangeD 0 1 (pl n d).length).length = terms n d cs xs := List.take_of_length_le (by rw [rangeD_len]; unfold terms; rw [List.length_zipWith]; omega)
      rw [e1]
  · rintro ρ' ⟨x6, x7, x8, x9, rfl⟩
    exact rs_ret (ev_var rfl) fun w e => by rw [e]; exact p
end Pk

namespace Pk
open PySem PySem.Spec PyProof.Rows L2
/-! ### data that may be compared and shown -/
structure Gd (h c : Nat) (d : PD) : Prop where
  lay : d.canLay0 = true
  dep : d.depth ≤ h
  fin : fine 4000 d = true
  cst : cost 4000 d ≤ c
theorem Gd.mono {h c h' c' : Nat} {d : PD} (g : Gd h c d) (h1 : h ≤ h') (h2 : c ≤ c') : Gd h' c' d := ⟨g.lay, Nat.le_trans g.dep h1, g.fin, Nat.le_trans g.cst h2⟩
theorem Gd.int {i : Int} (h : i.natAbs < 2 ^ 4000) : Gd 0 4002 (.int i) := ⟨by simp [PyData.canLay0], by simp [PyData.depth], by simpa only [fine, decide_eq_true_eq] using h, by simp [cost]⟩
theorem gd_all {h c : Nat} : ∀ {xs : List PD}, (∀ x ∈ xs, Gd h c x) → PyData.canLayAll0 xs = true ∧ PyData.depthAll xs ≤ h ∧ fineAll 4000 xs = true ∧ costAll 4000 xs ≤ (c + 2) * xs.length
  | [], _ => ⟨by simp [PyData.canLayAll0], by simp [PyData.depthAll], by simp [fineAll], by simp [costAll]⟩
  | x :: xs, hx => by
    have g := hx x List.mem_cons_self
    obtain ⟨a, b, d, e⟩ := gd_all fun y hy => hx y (List.mem_cons_of_mem _ hy)
    refine ⟨?_, ?_, ?_, ?_⟩
    · rw [PyData.canLayAll0, g.lay, a]; rfl
    · rw [PyData.depthAll]; exact Nat.max_le.mpr ⟨g.dep, b⟩
    · rw [fineAll, g.fin, d]; rfl
    · rw [costAll, List.length_cons, Nat.mul_add, Nat.mul_one]
      have := g.cst
      omega
theorem Gd.list {h c : Nat} {xs : List PD} (hx : ∀ x ∈ xs, Gd h c x) : Gd (h + 1) (3 + (c + 2) * xs.length) (.list xs) := by
  obtain ⟨a, b, d, e⟩ := gd_all hx
  exact ⟨by rw [PyData.canLay0]; exact a, by rw [PyData.depth]; omega, by rw [fine]; exact d, by rw [cost]; omega⟩
theorem Gd.tuple {h c : Nat} {xs : List PD} (hx : ∀ x ∈ xs, Gd h c x) : Gd (h + 1) (3 + (c + 2) * xs.length) (.tuple xs) := by
  obtain ⟨a, b, d, e⟩ := gd_all hx
  exact ⟨by rw [PyData.canLay0]; exact a, by rw [PyData.depth]; omega, by rw [fine]; exact d, by rw [cost]; omega⟩
theorem Gd.fr {q : Rat} (h : Sm q) : Gd 1 8011 (fr q) := (Gd.tuple (h := 0) (c := 4002) fun x hx => by
  simp only [List.mem_cons, List.not_mem_nil, or_false] at hx
  rcases hx with rfl | rfl
  · exact Gd.int h.1
  · exact Gd.int (by rw [Int.natAbs_natCast]; exact h.2)).mono (Nat.le_refl _) (by simp only [List.length_cons, List.length_nil]; omega)
theorem Gd.frs {xs : List Rat} (h : ∀ x ∈ xs, Sm x) : Gd 2 (3 + 8013 * xs.length) (frs xs) := (Gd.list (h := 1) (c := 8011) fun x hx => by
  obtain ⟨q, hq, rfl⟩ := List.mem_map.mp hx
  exact Gd.fr (h q hq)).mono (Nat.le_refl _) (by rw [List.length_map]; omega)
theorem small_2 {z : Int} (h : z.natAbs ≤ 100) : z.natAbs < 2 ^ 4000 := Nat.lt_of_le_of_lt h (Nat.lt_of_lt_of_le (show 100 < 2 ^ 7 by decide) (Nat.pow_le_pow_right (by omega) (by omega)))
theorem Gd.tupI {p : List Int} (h : ∀ z ∈ p, z.natAbs ≤ 100) (hl : p.length ≤ 4) : Gd 1 17000 (tupI p) := (Gd.tuple (h := 0) (c := 4002) fun x hx => by
  obtain ⟨z, hz, rfl⟩ := List.mem_map.mp hx
  exact Gd.int (small_2 (h z hz))).mono (Nat.le_refl _) (by rw [List.length_map]; omega)
theorem Gd.shaped {h c : Nat} {d : PD} (g : Gd h c d) (hh : h ≤ 60 := by decide) : SeqAt.shaped d = true := by
  have := g.dep
  unfold SeqAt.shaped
  rw [g.lay, decide_eq_true (by omega)]
  rfl
theorem pl_gd {n d : Nat} (hn : n = 2 ∨ n = 3) (hd : d ≤ 20) : Gd 2 8000000 (.list ((pl n d).map Pk.tupI)) := (Gd.list (h := 1) (c := 17000) fun x hx => by
  obtain ⟨p, hp, rfl⟩ := List.mem_map.mp hx
  have pe := pl_entry hn hp
  exact Gd.tupI (fun z hz => by have := pe.2 z hz; omega) (by rw [pe.1]; omega)).mono (Nat.le_refl _) (by rw [List.length_map]; have := pl_len hn hd; omega)
theorem eqv_tupI : ∀ (a b : List Int), PyData.eqv (tupI a) (tupI b) = decide (a = b) := by
  have all : ∀ (a b : List Int), PyData.eqvAll (a.map PyData.int) (b.map PyData.int) = decide (a = b) := by
    intro a
    induction a with
    | nil => intro b; cases b <;> simp [PyData.eqvAll]
    | cons x xs ih =>
      intro b
      cases b with
      | nil => simp [PyData.eqvAll]
      | cons y ys =>
        rw [List.map_cons, List.map_cons, PyData.eqvAll, ih, PyData.eqv]
        by_cases h : x = y <;> by_cases h2 : xs = ys <;> simp [h, h2]
  intro a b
  rw [PyData.eqv]
  exact all a b
/-! ### the law's own comparison -/
mutual
theorem eqv_self : ∀ d : PD, d.canLay0 = true → PyData.eqv d d = true
  | .none, _ => by simp [PyData.eqv]
  | .bool b, _ => by simp [PyData.eqv]
  | .int i, _ => by simp [PyData.eqv]
  | .str x, _ => by simp [PyData.eqv]
  | .list xs, h => by rw [PyData.canLay0] at h; rw [PyData.eqv]; exact eqvAll_self xs h
  | .tuple xs, h => by rw [PyData.canLay0] at h; rw [PyData.eqv]; exact eqvAll_self xs h
  | .dict _, h => by simp [PyData.canLay0] at h
theorem eqvAll_self : ∀ xs : List PD, PyData.canLayAll0 xs = true → PyData.eqvAll xs xs = true
  | [], _ => by simp [PyData.eqvAll]
  | x :: xs, h => by
    rw [PyData.canLayAll0, Bool.and_eq_true] at h
    rw [PyData.eqvAll, eqv_self x h.1, eqvAll_self xs h.2]
    rfl
end
def F_law_is : FD := fun ds P => ∃ d : PD, ds = [d, d] ∧ Gd 10 16000000 d ∧ ((∃ xs, d = .list xs) ∨ ∃ xs, d = .tuple xs) ∧ P (.bool true)
theorem b_law_is {K : PySem.W.Frag} (ds : List PD) (P : PD → Prop) (h : F_law_is ds P) : RunS K (t_law_is K) (startR 2 (ds.map .dat)) { nx := fun _ => P .none, rt := P, rl := fun es => P (.list es) } := by
  obtain ⟨d, rfl, g, k, p⟩ := h
  have rp : ∀ i, i = 0 ∨ i = 1 → EvE K (tCB (rRepr K) (tCons (tVar i) tNil)) (startR 2 (List.map Ent.dat [d, d])) (· = .str d.shown) := fun i hi =>
    ev_repr (B := 4000) (ev_var (by rcases hi with rfl | rfl <;> rfl)) (by omega) (by omega) g.fin (Nat.le_trans g.cst (by decide)) (Nat.le_trans g.dep (by omega)) (k.imp id .inl)
  unfold t_law_is
  refine rs_ret (ev_andV (a := true) (b := true) ?_ fun _ => ?_) fun z e => by rw [e]; exact p
  · exact (ev_eqD (ev_var rfl) (ev_var rfl) g.shaped g.shaped).imp fun z e => by rw [e, eqv_self d g.lay]
  · exact (ev_eqS (rp 0 (.inl rfl)) (rp 1 (.inr rfl))).imp fun z e => by rw [e]; simp
/-! ### cleared -/
def Sm0 (q : Rat) : Prop := q.num.natAbs < 2 ^ 20 ∧ q.den < 2 ^ 20
theorem Sm0.sm {q : Rat} (h : Sm0 q) : Sm q := ⟨Nat.lt_of_lt_of_le h.1 (Nat.pow_le_pow_right (by omega) (by omega)), Nat.lt_of_lt_of_le h.2 (Nat.pow_le_pow_right (by omega) (by omega))⟩
def lcmD (xs : List Rat) : Nat := xs.foldl (fun s q => Nat.lcm s q.den) 1
theorem lcmD_take {xs : List Rat} {i : Nat} {q : Rat} (h : xs[i]? = some q) : lcmD (xs.take (i + 1)) = Nat.lcm (lcmD (xs.take i)) q.den := by
  rw [take_snoc h]
  unfold lcmD
  rw [List.foldl_append]
  rfl
theorem lcmD_pos (xs : List Rat) : 0 < lcmD xs := by
  unfold lcmD
  have : ∀ (s : Nat), 0 < s → 0 < xs.foldl (fun s q => Nat.lcm s q.den) s := by
    induction xs with
    | nil => intro s h; exact h
    | cons x xs ih => intro s h; exact ih _ (Nat.lcm_pos h x.den_pos)
  exact this 1 (by omega)
theorem lcmD_dvd {xs : List Rat} : ∀ x ∈ xs, x.den ∣ lcmD xs := by
  have base : ∀ (xs : List Rat) (s : Nat), s ∣ xs.foldl (fun s q => Nat.lcm s q.den) s := by
    intro xs
    induction xs with
    | nil => intro s; exact Nat.dvd_refl _
    | cons x xs ih => intro s; exact Nat.dvd_trans (Nat.dvd_lcm_left _ _) (ih _)
  have : ∀ (xs : List Rat) (s : Nat), ∀ x ∈ xs, x.den ∣ xs.foldl (fun s q => Nat.lcm s q.den) s := by
    intro xs
    induction xs with
    | nil => intro s x hx; cases hx
    | cons y ys ih =>
      intro s x hx
      rcases List.mem_cons.mp hx with rfl | hx
      · exact Nat.dvd_trans (Nat.dvd_lcm_right _ _) (base ys _)
      · exact ih _ x hx
  exact this xs 1
theorem lcmD_le {xs : List Rat} (h : ∀ x ∈ xs, Sm0 x) : lcmD xs ≤ 2 ^ (20 * xs.length) := by
  have : ∀ (xs : List Rat) (s : Nat), (∀ x ∈ xs, Sm0 x) → xs.foldl (fun s q => Nat.lcm s q.den) s ≤ s * 2 ^ (20 * xs.length) := by
    intro xs
    induction xs with
    | nil => intro s _; simp
    | cons x xs ih =>
      intro s h
      refine Nat.le_trans (ih _ fun y hy => h y (List.mem_cons_of_mem _ hy)) ?_
      have h1 : Nat.lcm s x.den ≤ s * 2 ^ 20 := Nat.le_trans (Nat.div_le_self _ _) (Nat.mul_le_mul_left s (Nat.le_of_lt (h x List.mem_cons_self).2))
      rw [List.length_cons, Nat.mul_add, Nat.mul_one, Nat.add_comm (20 * xs.length), Nat.pow_add, ← Nat.mul_assoc]
      exact Nat.mul_le_mul_right _ h1
  have := this xs 1 h
  rwa [Nat.one_mul] at this
theorem lcmD_small {xs : List Rat} (h : ∀ x ∈ xs, Sm0 x) (hl : xs.length ≤ 66) : lcmD xs ≤ 2 ^ 1320 := Nat.le_trans (lcmD_le h) (Nat.pow_le_pow_right (by omega) (by omega))
/-- the numerators over a common denominator -/
def numO (xs : List Rat) (q : Rat) : Int := q.num * ((lcmD xs : Int) / (q.den : Int))
def F_cleared : FD := fun ds P => ∃ xs : List Rat, ds = [frs xs] ∧ xs.length ≤ 66 ∧ (∀ x ∈ xs, Sm0 x) ∧ P (.tuple [.list ((xs.map (numO xs)).map .int), .int (lcmD xs : Int)])
theorem natAbs_lt {n k : Nat} (h : n < 2 ^ k) : ((n : Nat) : Int).natAbs < 2 ^ k := by rw [Int.natAbs_natCast]; exact h
theorem pow_lt {a b : Nat} (h : a < b) : 2 ^ a < 2 ^ b := Nat.pow_lt_pow_right (by omega) h
theorem b_cleared {K : PySem.W.Frag} (ds : List PD) (P : PD → Prop) (h : F_cleared ds P) : RunS K (t_cleared K) (startR 3 (ds.map .dat)) { nx := fun _ => P .none, rt := P, rl := fun es => P (.list es) } := by
  obtain ⟨xs, rfl, hl, hs, p⟩ := h
  have small : ∀ i, lcmD (xs.take i) ≤ 2 ^ 1320 := fun i => lcmD_small (fun x hx => hs x (List.mem_of_mem_take hx)) (by rw [List.length_take]; omega)
  unfold t_cleared
  refine rs_set1 (d := .int 1) ev_int ?_
  refine rs_seq (fun ρ' => ∃ x2, ρ' = [some (.dat (frs xs)), some (.dat (.int (lcmD xs : Int))), x2]) ?_ ?_
  · refine rs_for1 (ei_list1 (ev_var rfl)) (fun i ρ' => ∃ x2, ρ' = [some (.dat (frs xs)), some (.dat (.int (lcmD (xs.take i) : Int))), x2]) ⟨none, rfl⟩ ?_ ?_
    · rintro i z ρ' hz ⟨x2, rfl⟩
      obtain ⟨q, hq, rfl⟩ := map_get hz
      have q0 := q.den_pos
      have qs := hs q (mem_get hq)
      have l0 := lcmD_pos (xs.take i)
      have ls := small i
      have g0 : 0 < Nat.gcd (lcmD (xs.take i)) q.den := Nat.gcd_pos_of_pos_left _ l0
      have e0 : (Int.natAbs ((lcmD (xs.take i) : Nat) : Int)).gcd (Int.natAbs ((q.den : Nat) : Int)) = Nat.gcd (lcmD (xs.take i)) q.den := by rw [Int.natAbs_natCast, Int.natAbs_natCast]
      refine ⟨_, _, bg_name, rs_asg (P := (· = .int ((lcmD (xs.take (i + 1)) : Nat) : Int))) ?_ fun w e => ⟨some (.dat (fr q)), ?_⟩⟩
      · have gle : Nat.gcd (lcmD (xs.take i)) q.den < 2 ^ 9000 := Nat.lt_of_le_of_lt (Nat.le_trans (Nat.gcd_le_left _ l0) ls) (pow_lt (by omega))
        refine (ev_mul (ev_fdiv (i := ((lcmD (xs.take i) : Nat) : Int)) (ev_var rfl) (ev_gcd (ev_var rfl) (ev_frD (ev_var rfl))) ?_) (ev_frD (ev_var rfl)) ?_).imp fun w e => ?_
        · rw [e0]
          exact divW (by omega) (natAbs_lt gle)
        · rw [e0, ← Int.natCast_ediv]
          exact mulW (a := 1321) (b := 20) (by omega) (by omega) (natAbs_lt (Nat.lt_of_le_of_lt (Nat.le_trans (Nat.div_le_self _ _) ls) (pow_lt (by omega)))) (natAbs_lt qs.2) (by omega)
        · rw [e, e0, lcmD_take hq, ← Int.natCast_ediv, ← Int.natCast_mul]
          congr 2
          unfold Nat.lcm
          rw [Nat.mul_comm (lcmD (xs.take i)) q.den, Nat.mul_div_assoc _ (Nat.gcd_dvd_left _ _), Nat.mul_comm]
      · rw [e]; rfl
    · rintro ρ' ⟨x2, rfl⟩
      rw [List.length_map, List.take_length]
      exact ⟨x2, rfl⟩
  · rintro ρ' ⟨x2, rfl⟩
    refine rs_ret (ev_tup1 (ea_one (EvL.datE (el_map ((xs.map (numO xs)).map .int) (ei_list1 (ev_var rfl)) (by rw [List.length_map, List.length_map, List.length_map]) (by rw [List.length_map, List.length_map]; omega) ?_)) (ea_one (ev_var rfl) ea_nil))) fun w e => by rw [e]; exact p
    intro i z y hz hy
    obtain ⟨q, g1, rfl⟩ := map_get hz
    obtain ⟨w, g2, rfl⟩ := map_get hy
    obtain ⟨q', g3, rfl⟩ := map_get g2
    rw [g1] at g3
    cases g3
    have qs := hs q (mem_get g1)
    have q0 := q.den_pos
    have ls := small xs.length
    rw [List.take_length] at ls
    refine ⟨_, _, (by decide), bg_name, ev_mul (ev_frN (ev_var rfl)) (ev_fdiv (i := ((lcmD xs : Nat) : Int)) (ev_var rfl) (ev_frD (ev_var rfl)) ?_) ?_⟩
    · exact divW (by omega) (natAbs_lt (Nat.lt_trans qs.2 (pow_lt (by omega))))
    · rw [← Int.natCast_ediv]
      exact mulW (a := 20) (b := 1321) (by omega) (by omega) qs.1 (natAbs_lt (Nat.lt_of_le_of_lt (Nat.le_trans (Nat.div_le_self _ _) ls) (pow_lt (by omega)))) (by omega)
end Pk

namespace Pk
open PySem PySem.Spec PyProof.Rows L2
/-! ### the items of a product -/
def addP (p q : List Int) : List Int := List.zipWith (· + ·) p q
abbrev Tm := List Int × Rat
def inner (t p : List Int) (a : Rat) : List Tm → Rat
  | [] => 0
  | q :: qs => (if addP p q.1 = t then a * q.2 else 0) + inner t p a qs
def coefP (t : List Int) (js : List Tm) : List Tm → Rat
  | [] => 0
  | p :: ps => inner t p.1 p.2 js + coefP t js ps
theorem inner_snoc (t p : List Int) (a : Rat) (q : Tm) : ∀ qs : List Tm, inner t p a (qs ++ [q]) = inner t p a qs + (if addP p q.1 = t then a * q.2 else 0)
  | [] => by simp only [List.nil_append, inner]; grind
  | x :: xs => by simp only [List.cons_append, inner]; rw [inner_snoc t p a q xs]; grind
theorem coefP_snoc (t : List Int) (js : List Tm) (p : Tm) : ∀ ps : List Tm, coefP t js (ps ++ [p]) = coefP t js ps + inner t p.1 p.2 js
  | [] => by simp only [List.nil_append, coefP]; grind
  | x :: xs => by simp only [List.cons_append, coefP]; rw [coefP_snoc t js p xs]; grind
theorem inner_zero (t p : List Int) : ∀ js : List Tm, inner t p 0 js = 0
  | [] => rfl
  | x :: xs => by simp only [inner]; rw [inner_zero t p xs]; grind
theorem inner_filter (t p : List Int) (a : Rat) : ∀ js : List Tm, inner t p a (js.filter fun q => decide (q.2 ≠ 0)) = inner t p a js
  | [] => rfl
  | x :: xs => by
    by_cases h : x.2 = 0
    · rw [List.filter_cons_of_neg (by simpa using h), inner_filter t p a xs]
      simp only [inner]
      rw [h]
      grind
    · rw [List.filter_cons_of_pos (by simpa using h)]
      simp only [inner]
      rw [inner_filter t p a xs]
theorem inner_scale (t p : List Int) (a c e : Rat) : ∀ js : List Tm, inner t p (c * a) (js.map fun q => (q.1, e * q.2)) = c * e * inner t p a js
  | [] => by simp only [List.map_nil, inner]; grind
  | x :: xs => by
    simp only [List.map_cons, inner]
    rw [inner_scale t p a c e xs]
    split <;> grind
theorem coefP_scale (t : List Int) (c e : Rat) (js : List Tm) : ∀ is : List Tm, coefP t (js.map fun q => (q.1, e * q.2)) (is.map fun q => (q.1, c * q.2)) = c * e * coefP t js is
  | [] => by simp only [List.map_nil, coefP]; grind
  | x :: xs => by
    simp only [List.map_cons, coefP]
    rw [coefP_scale t c e js xs, inner_scale]
    grind
theorem addP_comm : ∀ p q : List Int, addP p q = addP q p
  | [], q => by cases q <;> rfl
  | x :: xs, [] => rfl
  | x :: xs, y :: ys => by
    show (x + y) :: addP xs ys = (y + x) :: addP ys xs
    rw [addP_comm xs ys, Int.add_comm]
theorem coefP_nil (t : List Int) : ∀ is : List Tm, coefP t [] is = 0
  | [] => rfl
  | x :: xs => by simp only [coefP, inner]; rw [coefP_nil t xs]; grind
theorem coefP_cons (t : List Int) (q : Tm) (js : List Tm) : ∀ is : List Tm, coefP t (q :: js) is = inner t q.1 q.2 is + coefP t js is
  | [] => by simp only [coefP, inner]; grind
  | x :: xs => by
    simp only [coefP, inner]
    rw [coefP_cons t q js xs, addP_comm q.1 x.1]
    split <;> grind
theorem coefP_comm (t : List Int) (js : List Tm) : ∀ is : List Tm, coefP t js is = coefP t is js
  | [] => by rw [coefP_nil]; rfl
  | x :: xs => by
    rw [coefP_cons, ← coefP_comm t js xs]
    rfl
/-- one item grows -/
theorem upd_map {β : Type} {L : List (List Int)} (nd : L.Nodup) {s0 : Nat} {u : List Int} (hs : L[s0]? = some u) (g g' : List Int → β) (h1 : ∀ t, u ≠ t → g' t = g t) : (L.map g).set s0 (g' u) = L.map g' := by
  apply List.ext_getElem?
  intro i
  rw [List.getElem?_set]
  by_cases hi : s0 = i
  · subst hi
    have hl := (List.getElem?_eq_some_iff.mp hs).1
    rw [if_pos rfl, List.length_map, if_pos hl, List.getElem?_map, hs]
    rfl
  · rw [if_neg hi, List.getElem?_map, List.getElem?_map]
    cases e : L[i]? with
    | none => rfl
    | some t =>
      have ne : u ≠ t := fun z => by
        subst z
        exact hi (nd_inj nd hs e)
      show some (g t) = some (g' t)
      rw [h1 t ne]
theorem addP_mem {n d e : Nat} (hn : n = 2 ∨ n = 3) {p q : List Int} (hp : p ∈ pl n d) (hq : q ∈ pl n e) : addP p q ∈ pl n (d + e) := by
  rcases hn with rfl | rfl
  · rw [pl2] at hp hq ⊢
    obtain ⟨a, ha, rfl⟩ := List.mem_map.mp hp
    obtain ⟨b, hb, rfl⟩ := List.mem_map.mp hq
    have := List.mem_range.mp ha
    have := List.mem_range.mp hb
    refine List.mem_map.mpr ⟨a + b, List.mem_range.mpr (by omega), ?_⟩
    show [_, _] = [_, _]
    simp only [List.cons.injEq, and_true]
    omega
  · rw [pl3] at hp hq ⊢
    obtain ⟨a, ha, hp⟩ := List.mem_flatMap.mp hp
    obtain ⟨a', ha', hq⟩ := List.mem_flatMap.mp hq
    obtain ⟨b, hb, rfl⟩ := List.mem_map.mp hp
    obtain ⟨b', hb', rfl⟩ := List.mem_map.mp hq
    have := List.mem_range.mp ha
    have := List.mem_range.mp ha'
    have := List.mem_range.mp hb
    have := List.mem_range.mp hb'
    refine List.mem_flatMap.mpr ⟨a + a', List.mem_range.mpr (by omega), List.mem_map.mpr ⟨b + b', List.mem_range.mpr (by omega), ?_⟩⟩
    show [_, _, _] = [_, _, _]
    simp only [List.cons.injEq, and_true]
    omega
theorem addP_ints {K : PySem.W.Frag} {p q : List Int} : zipD (p.map PyData.int) (q.map PyData.int) = List.zipWith (fun x y => PyData.tuple [.int x, .int y]) p q := by
  unfold zipD
  rw [List.zipWith_map]
def tmz (ps : List (List Int)) (as : List Rat) : List Tm := ps.zip as
theorem tmz_get {ps : List (List Int)} {as : List Rat} {i : Nat} {p : List Int} {a : Rat} (h1 : ps[i]? = some p) (h2 : as[i]? = some a) : (tmz ps as)[i]? = some (p, a) := by
  unfold tmz
  rw [List.getElem?_zip_eq_some]
  exact ⟨h1, h2⟩
theorem tmz_len {ps : List (List Int)} {as : List Rat} (h : as.length = ps.length) : (tmz ps as).length = ps.length := by
  unfold tmz
  rw [List.length_zip]
  omega
abbrev ratI (a : Int) : Rat := (a : Rat)
/-! ### a product of integers -/
structure IpB (n d e : Nat) (as bs : List Int) : Prop where
  n23 : n = 2 ∨ n = 3
  d10 : d ≤ 10
  e10 : e ≤ 10
  alen : as.length = (pl n d).length
  blen : bs.length = (pl n e).length
  asm : ∀ a ∈ as, a.natAbs < 2 ^ 5000
  bsm : ∀ b ∈ bs, b.natAbs < 2 ^ 5000
/-- the item at t, an integer -/
def coefI (n d e : Nat) (as bs : List Int) (t : List Int) : Rat := coefP t (tmz (pl n e) (bs.map ratI)) (tmz (pl n d) (as.map ratI))
def F_integer_product : FL := fun ds P => ∃ (n d e : Nat) (as bs : List Int), ds = [.int (n : Int), .list (as.map .int), .int (d : Int), .list (bs.map .int), .int (e : Int)] ∧ IpB n d e as bs ∧
  ∀ z : List Int → Int, (∀ t, (z t : Rat) = coefI n d e as bs t) → P ((pl n (d + e)).map fun t => .int (z t))
theorem ev_lenDic {K : PySem.W.Frag} {ρ : Rho} {i : Nat} {kvs : List (List Int × Int)} (h : ρ[i]? = some (some (Ent.mon (DicR kvs)))) : EvE K (tCB rLenT (tCons (tVar i) tNil)) ρ (· = .int (kvs.length : Nat)) := fun dk S0 H0 S H σ Q I k =>
  em_var h dk S0 H0 S H σ _ I fun v H1 I1 s1 ⟨a, e, r⟩ => by
    subst e
    refine ⟨a, dicV kvs, rfl, hid_le S H1 _ _ r, ?_⟩
    unfold dicV
    rw [List.length_map]
    exact k _ _ H1 rfl I1 s1 (.int _)
theorem flat_rep (n : Nat) (d : PD) : (List.replicate n [d]).flatten = List.replicate n d := by
  induction n with
  | zero => rfl
  | succ n ih => rw [List.replicate_succ, List.flatten_cons, ih]; rfl
theorem map_const {α : Type} (l : List α) (d : PD) : l.map (fun _ => d) = List.replicate l.length d := by
  induction l with
  | nil => rfl
  | cons x xs ih => rw [List.map_cons, ih]; rfl
theorem ev_zipadd {K : PySem.W.Frag} {ρ : Rho} {ta tb : TE} {p q : List Int} {i j : Nat} (hp : EvE K ta ρ (· = tupI p)) (hq : EvE K tb ρ (· = tupI q)) (hij : i ≠ j) (hi : i < ρ.length) (hj : j < ρ.length) (hpl : p.length ≤ 1000) :
    EvM K (tCB (rTupQ K) (tCons (tLc (RZ.iZipA K (tCons ta (tCons tb tNil))) (gTup K 2 (gCons (gName i) (gCons (gName j) gNil))) tYes (tOp rAddI (tVar i) (tVar j)) [i, j]) tNil)) ρ (KeyR (addP p q)) := by
  have wl : ∀ vs : List Nat, (wipeR ρ vs).length = ρ.length := by
    intro vs
    induction vs with
    | nil => rfl
    | cons v vs ih => show ((wipeR ρ vs).set v none).length = _; rw [List.length_set, ih]
  refine em_tupOf (EvL.datE (el_map ((addP p q).map .int) (ei_zipT (xs := p.map .int) (ys := q.map .int) hp hq) ?_ ?_ ?_))
  · rw [zipD_len, List.length_map, List.length_map, List.length_map, addP, List.length_zipWith]
  · rw [List.length_map, addP, List.length_zipWith]; omega
  · intro k z y hz hy
    obtain ⟨u, v, h1, h2, rfl⟩ := zip_get hz
    obtain ⟨a, g1, rfl⟩ := map_get h1
    obtain ⟨b, g2, rfl⟩ := map_get h2
    obtain ⟨w, g3, rfl⟩ := map_get hy
    unfold addP at g3
    rw [List.getElem?_zipWith, g1, g2] at g3
    cases g3
    refine ⟨_, _, ?_, bg_tup2 bg_name bg_name, ev_add (ev_var ?_) (ev_var ?_)⟩
    · intro t ht
      simpa using ht
    · rw [getset, if_neg (Ne.symm hij), getset, if_pos rfl, if_pos (by rw [wl]; exact hi)]
    · rw [getset, if_pos rfl, if_pos (by rw [List.length_set, wl]; exact hj)]
end Pk

namespace Pk
open PySem PySem.Spec PyProof.Rows L2
abbrev prT (q : List Int × Int) : PD := .tuple [tupI q.1, .int q.2]
abbrev qT (q : List Int × Int) : Tm := (q.1, ratI q.2)
theorem zip_map_r {ps : List (List Int)} {bs : List Int} : tmz ps (bs.map ratI) = (ps.zip bs).map qT := by
  unfold tmz
  rw [List.zip_map_right]
  rfl
theorem ratI_zero {b : Int} : ratI b = 0 ↔ b = 0 := ⟨fun h => by
  have : ((b : Int) : Rat) = ((0 : Int) : Rat) := h
  exact Rat.intCast_inj.mp this, fun h => by rw [h]; rfl⟩
theorem filter_qT (l : List (List Int × Int)) : (l.map qT).filter (fun q => decide (q.2 ≠ 0)) = (l.filter fun q => decide (q.2 ≠ 0)).map qT := by
  rw [List.filter_map]
  congr 1
  apply List.filter_congr
  intro x _
  show decide (ratI x.2 ≠ 0) = decide (x.2 ≠ 0)
  exact decide_eq_decide.mpr (not_congr ratI_zero)
theorem b_integer_product {K : PySem.W.Frag} (ds : List PD) (P : List PD → Prop) (h : F_integer_product ds P) : RunS K (t_integer_product K (SpL K F_law_places) (SpM K F_spots_of)) (startR 15 (ds.map .dat)) { rl := P } := by
  obtain ⟨n, d, e, as, bs, rfl, B, p⟩ := h
  have hd := B.d10
  have he := B.e10
  have hn3 : n ≤ 3 := by rcases B.n23 with h | h <;> omega
  have le1 := pl_len B.n23 (d := d) (by omega)
  have le2 := pl_len B.n23 (d := e) (by omega)
  have le3 := pl_len B.n23 (d := d + e) (by omega)
  have nd := pl_nodup (n := n) (d := d + e) B.n23
  let oth := ((pl n e).zip bs).filter fun q => decide (q.2 ≠ 0)
  let js : List Tm := tmz (pl n e) (bs.map ratI)
  let is : List Tm := tmz (pl n d) (as.map ratI)
  have oj : js.filter (fun q => decide (q.2 ≠ 0)) = oth.map qT := by
    show (tmz (pl n e) (bs.map ratI)).filter _ = _
    rw [zip_map_r, filter_qT]
  unfold t_integer_product
  refine rs_setM (dicR_mono _) (em_call (ea_one (ev_var rfl) (ea_one (ev_add (i := (d : Int)) (j := (e : Int)) (ev_var rfl) (ev_var rfl)) ea_nil)) ⟨n, d + e, by rw [Int.natCast_add], B.n23, by omega, rfl⟩) ?_
  refine rs_setL1 (ds := (pl n (d + e)).map fun _ => PyData.int 0) ((el_rep (ds := [.int 0]) (i := ((spotsL (pl n (d + e))).length : Nat)) (el_lst1 (ea_one ev_int ea_nil)) (ev_lenDic rfl) (by omega) (by rw [spotsL_len]; omega) ?_).imp fun z e => ?_) ?_
  · rw [spotsL_len, Int.toNat_natCast]
    simp only [List.length_cons, List.length_nil]
    omega
  · rw [e, flat_rep, spotsL_len, Int.toNat_natCast, map_const]
  refine rs_set1 (d := .list (oth.map prT)) (EvL.datE (el_lc (ei_zip (ev_places (el_places (ev_var rfl) (ev_var rfl) B.n23 (by omega))) (ev_var (d := .list (bs.map .int)) rfl)) (fun _ i acc => acc = ((((pl n e).zip bs).take i).filter fun q => decide (q.2 ≠ 0)).map prT) (fun z w => ⟨by rw [w, zipD_len, List.length_map, List.length_map]; omega, rfl⟩) ?_ fun z acc w1 w2 => ?_)) ?_
  · rintro z i y acc rfl hy rfl
    obtain ⟨u, v, h1, h2, rfl⟩ := zip_get hy
    obtain ⟨q, g1, rfl⟩ := map_get h1
    obtain ⟨b, g2, rfl⟩ := map_get h2
    have zg : ((pl n e).zip bs)[i]? = some (q, b) := by rw [List.getElem?_zip_eq_some]; exact ⟨g1, g2⟩
    refine ⟨_, _, _, _, (by decide), bg_tup2 bg_name bg_name, et_truI (i := b) (ev_var rfl), fun c => ⟨ev_tup1 (xs := [tupI q, .int b]) (ea_one (ev_var rfl) (ea_one (ev_var rfl) ea_nil)), fun w ew => ?_⟩, fun c => ?_⟩
    · have hb : b ≠ 0 := by simpa using c.symm
      rw [ew, take_snoc zg, List.filter_append, List.map_append]
      congr 1
      rw [List.filter_cons_of_pos (by simpa using hb)]
      rfl
    · have hb : b = 0 := by simpa using c.symm
      rw [take_snoc zg, List.filter_append, List.map_append, List.filter_cons_of_neg (by simpa using hb)]
      simp
  · rw [w2, w1]
    congr 2
    exact List.take_of_length_le (by rw [zipD_len, List.length_map, List.length_map, List.length_zip]; exact Nat.le_refl _)
  have ol : oth.length ≤ 441 := Nat.le_trans (List.length_filter_le _ _) (by rw [List.length_zip]; omega)
  refine rs_seq (fun ρ' => ∃ (z : List Int → Int) (x8 x9 x10 x11 x12 x13 x14 : Option Ent), (∀ t, (z t : Rat) = coefP t js is) ∧ ρ' = [some (.dat (.int (n : Int))), some (.dat (.list (as.map .int))), some (.dat (.int (d : Int))), some (.dat (.list (bs.map .int))), some (.dat (.int (e : Int))), some (.mon (DicR (spotsL (pl n (d + e))))), some (.own ((pl n (d + e)).map fun t => .int (z t))), some (.dat (.list (oth.map prT))), x8, x9, x10, x11, x12, x13, x14]) ?_ ?_
  · refine rs_for1 (ei_zip (ev_places (el_places (ev_var rfl) (ev_var rfl) B.n23 (by omega))) (ev_var (d := .list (as.map .int)) rfl)) (fun i ρ' => ∃ (z : List Int → Int) (x8 x9 x10 x11 x12 x13 x14 : Option Ent), (∀ t, (z t : Rat) = coefP t js (is.take i)) ∧ ρ' = [some (.dat (.int (n : Int))), some (.dat (.list (as.map .int))), some (.dat (.int (d : Int))), some (.dat (.list (bs.map .int))), some (.dat (.int (e : Int))), some (.mon (DicR (spotsL (pl n (d + e))))), some (.own ((pl n (d + e)).map fun t => .int (z t))), some (.dat (.list (oth.map prT))), x8, x9, x10, x11, x12, x13, x14]) ⟨fun _ => 0, none, none, none, none, none, none, none, fun _ => rfl, rfl⟩ ?_ ?_
    · rintro i y ρ' hy ⟨z, x8, x9, x10, x11, x12, x13, x14, hz, rfl⟩
      obtain ⟨u, v, h1, h2, rfl⟩ := zip_get hy
      obtain ⟨pp, g1, rfl⟩ := map_get h1
      obtain ⟨a, g2, rfl⟩ := map_get h2
      have pe := pl_entry B.n23 (mem_get g1)
      have ig : is[i]? = some (pp, ratI a) := tmz_get g1 (by rw [List.getElem?_map, g2]; rfl)
      refine ⟨_, _, bg_tup2 bg_name bg_name, rs_if (C := (· = (a != 0))) (et_truI (i := a) (ev_var rfl)) (fun c => ?_) fun c => ?_⟩
      · refine rs_for1 (xs := oth.map prT) (ei_list1 (ev_var rfl)) (fun j ρ' => ∃ (z : List Int → Int) (x8 x9 x12 x13 x14 : Option Ent), (∀ t, (z t : Rat) = coefP t js (is.take i) + inner t pp (ratI a) ((oth.take j).map qT)) ∧ ρ' = [some (.dat (.int (n : Int))), some (.dat (.list (as.map .int))), some (.dat (.int (d : Int))), some (.dat (.list (bs.map .int))), some (.dat (.int (e : Int))), some (.mon (DicR (spotsL (pl n (d + e))))), some (.own ((pl n (d + e)).map fun t => .int (z t))), some (.dat (.list (oth.map prT))), x8, x9, some (.dat (tupI pp)), some (.dat (.int a)), x12, x13, x14]) ⟨z, x8, x9, x12, x13, x14, fun t => by rw [hz t, List.take_zero]; exact (Rat.add_zero _).symm, rfl⟩ ?_ ?_
        · rintro j y2 ρ' hy2 ⟨z, x8, x9, x12, x13, x14, hz, rfl⟩
          obtain ⟨⟨q, b⟩, g3, rfl⟩ := map_get hy2
          have qb := List.mem_filter.mp (mem_get g3)
          obtain ⟨hq, hb⟩ := List.of_mem_zip qb.1
          have qe := pl_entry B.n23 hq
          obtain ⟨s, hs⟩ := List.mem_iff_getElem?.mp (addP_mem B.n23 (mem_get g1) hq)
          have sl := (List.getElem?_eq_some_iff.mp hs).1
          let z' : List Int → Int := fun t => z t + (if addP pp q = t then a * b else 0)
          refine ⟨_, _, bg_tup2 bg_name bg_name, ?_⟩
          refine rs_set1 (d := .int ((s : Nat) : Int)) (ev_dgetT (em_var rfl) (ev_zipadd (p := pp) (q := q) (ev_var rfl) (ev_var rfl) (by omega) (by show (13 : Nat) < 15; omega) (by show (14 : Nat) < 15; omega) (by rw [pe.1]; omega)) (dicV_get nd hs)) ?_
          refine rs_augIx (i := 6) (ds := (pl n (d + e)).map fun t => PyData.int (z t)) (a := z (addP pp q)) (b := a * b) (n := (s : Int)) (j := s) rfl (ev_var rfl) ?_ ?_ (ev_mul (i := a) (j := b) (ev_var rfl) (ev_var rfl) ?_) ⟨z', some (.dat (tupI q)), some (.dat (.int b)), some (.dat (.int (s : Int))), x13, x14, ?_, ?_⟩
          · unfold ixN
            rw [List.length_map, if_pos (by omega), if_pos (by omega), Int.toNat_natCast]
          · rw [List.getElem?_map, hs]; rfl
          · exact mulW (a := 5000) (b := 5000) (by omega) (by omega) (B.asm a (mem_get g2)) (B.bsm b hb) (by omega)
          · intro t
            rw [take_snoc g3, List.map_append]
            show ((z t + (if addP pp q = t then a * b else 0) : Int) : Rat) = _ + inner t pp (ratI a) (_ ++ [qT (q, b)])
            rw [inner_snoc, Rat.intCast_add, hz t]
            show _ + ((if addP pp q = t then a * b else 0 : Int) : Rat) = _ + (_ + (if addP pp q = t then ratI a * ratI b else 0))
            split
            · rw [Rat.intCast_mul, Rat.add_assoc]
            · show _ + (0 : Rat) = _
              rw [Rat.add_assoc]
          · have e1 : ((pl n (d + e)).map fun t => PyData.int (z t)).set s (.int (z (addP pp q) + a * b)) = (pl n (d + e)).map fun t => PyData.int (z' t) := by
              have e2 : PyData.int (z (addP pp q) + a * b) = PyData.int (z' (addP pp q)) := by
                show _ = PyData.int (z _ + (if _ then _ else _))
                rw [if_pos rfl]
              rw [e2]
              refine upd_map nd hs (fun t => PyData.int (z t)) (fun t => PyData.int (z' t)) fun t ht => ?_
              show PyData.int (z t + (if addP pp q = t then a * b else 0)) = _
              rw [if_neg ht, Int.add_zero]
            rw [e1]
            rfl
        · rintro ρ' ⟨z, x8, x9, x12, x13, x14, hz, rfl⟩
          refine ⟨z, x8, x9, some (.dat (tupI pp)), some (.dat (.int a)), x12, x13, x14, fun t => ?_, rfl⟩
          rw [hz t, List.length_map, List.take_length, take_snoc ig, coefP_snoc, ← oj, inner_filter]
      · have a0 : a = 0 := by simpa using c.symm
        refine rs_next ⟨z, x8, x9, some (.dat (tupI pp)), some (.dat (.int a)), x12, x13, x14, fun t => ?_, rfl⟩
        rw [hz t, take_snoc ig, coefP_snoc, a0]
        show _ = _ + inner t pp 0 js
        rw [inner_zero, Rat.add_zero]
    · rintro ρ' ⟨z, x8, x9, x10, x11, x12, x13, x14, hz, rfl⟩
      refine ⟨z, x8, x9, x10, x11, x12, x13, x14, fun t => ?_, rfl⟩
      rw [hz t]
      congr 1
      refine List.take_of_length_le ?_
      show (tmz (pl n d) (as.map ratI)).length ≤ _
      unfold tmz
      rw [zipD_len, List.length_zip, List.length_map, List.length_map, List.length_map]
      exact Nat.le_refl _
  · rintro ρ' ⟨z, x8, x9, x10, x11, x12, x13, x14, hz, rfl⟩
    exact rs_retO (i := 6) rfl (p z hz)
end Pk

namespace Pk
open PySem PySem.Spec PyProof.Rows L2
/-! ### a fraction by a common denominator -/
/-- q = z / D, z not above B -/
def In (D B : Nat) (q : Rat) : Prop := 0 < D ∧ ∃ z : Int, q = Rat.divInt z D ∧ z.natAbs ≤ B
theorem In.sm {D B k : Nat} {q : Rat} (h : In D B q) (hD : D < 2 ^ k) (hB : B < 2 ^ k) : q.num.natAbs < 2 ^ k ∧ q.den < 2 ^ k := by
  obtain ⟨h0, z, rfl, hz⟩ := h
  have g0 := gcd_pos (a := z) (b := (D : Int)) (by omega)
  rw [Rat.num_divInt, Rat.den_divInt, if_neg (by omega), Int.sign_eq_one_of_pos (by omega), Int.one_mul]
  refine ⟨Nat.lt_of_le_of_lt (Nat.le_trans ?_ hz) hB, Nat.lt_of_le_of_lt (Nat.le_trans (Nat.div_le_self _ _) (by rw [Int.natAbs_natCast]; exact Nat.le_refl _)) hD⟩
  exact Int.natAbs_ediv_le_natAbs _ _
theorem In.zero {D B : Nat} (h : 0 < D) : In D B 0 := ⟨h, 0, by rw [Rat.zero_divInt], by simp⟩
theorem In.mono {D B B' : Nat} {q : Rat} (h : In D B q) (hb : B ≤ B') : In D B' q := let ⟨a, z, e, l⟩ := h; ⟨a, z, e, Nat.le_trans l hb⟩
theorem divInt_add_same {a b : Int} {D : Nat} (h : 0 < D) : Rat.divInt a D + Rat.divInt b D = Rat.divInt (a + b) D := by
  rw [Rat.divInt_add_divInt _ _ (by omega) (by omega)]
  exact (Rat.divInt_eq_divInt_iff (Int.mul_ne_zero (by omega) (by omega)) (by omega)).mpr (by grind)
theorem In.add {D B B' : Nat} {x y : Rat} (h : In D B x) (h' : In D B' y) : In D (B + B') (x + y) := by
  obtain ⟨h0, z, rfl, hz⟩ := h
  obtain ⟨_, w, rfl, hw⟩ := h'
  exact ⟨h0, z + w, divInt_add_same h0, Nat.le_trans (Int.natAbs_add_le _ _) (Nat.add_le_add hz hw)⟩
theorem In.mul {D D' B B' : Nat} {x y : Rat} (h : In D B x) (h' : In D' B' y) : In (D * D') (B * B') (x * y) := by
  obtain ⟨h0, z, rfl, hz⟩ := h
  obtain ⟨h1, w, rfl, hw⟩ := h'
  exact ⟨Nat.mul_pos h0 h1, z * w, by rw [Rat.divInt_mul_divInt, Int.natCast_mul], by rw [Int.natAbs_mul]; exact Nat.mul_le_mul hz hw⟩
theorem In.lift {D B E : Nat} {x : Rat} (h : In D B x) (hE : 0 < E) : In (D * E) (B * E) x := by
  obtain ⟨h0, z, rfl, hz⟩ := h
  refine ⟨Nat.mul_pos h0 hE, z * E, ?_, by rw [Int.natAbs_mul, Int.natAbs_natCast]; exact Nat.mul_le_mul_right _ hz⟩
  exact (Rat.divInt_eq_divInt_iff (by omega) (by rw [Int.natCast_mul]; exact Int.mul_ne_zero (by omega) (by omega))).mpr (by rw [Int.natCast_mul]; grind)
theorem In.self {q : Rat} {k : Nat} (h : q.num.natAbs ≤ k) : In q.den k q := ⟨q.den_pos, q.num, (Rat.num_divInt_den q).symm, h⟩
/-- an item over the common denominator -/
theorem in_lcm {xs : List Rat} (hs : ∀ x ∈ xs, Sm0 x) {x : Rat} (hx : x ∈ xs) : x = Rat.divInt (numO xs x) (lcmD xs) ∧ (numO xs x).natAbs ≤ 2 ^ 20 * lcmD xs := by
  obtain ⟨c, hc⟩ := lcmD_dvd x hx
  have d0 := x.den_pos
  have l0 := lcmD_pos xs
  have e1 : (lcmD xs : Int) / (x.den : Int) = (c : Int) := by
    rw [hc, Int.natCast_mul]
    exact Int.mul_ediv_cancel_left _ (by omega)
  have c1 : c ≤ lcmD xs := by rw [hc]; exact Nat.le_mul_of_pos_left _ d0
  unfold numO
  rw [e1]
  refine ⟨?_, ?_⟩
  · have h := Rat.num_divInt_den x
    have : Rat.divInt x.num x.den = Rat.divInt (x.num * c) (lcmD xs) := (Rat.divInt_eq_divInt_iff (by omega) (by omega)).mpr (by rw [hc, Int.natCast_mul]; grind)
    exact h.symm.trans this
  · rw [Int.natAbs_mul, Int.natAbs_natCast]
    exact Nat.mul_le_mul (Nat.le_of_lt (hs x hx).1) c1
theorem divInt_scale {z : Int} {D : Nat} (h : 0 < D) : (ratI z) = (ratI (D : Int)) * Rat.divInt z D := by
  have e : ∀ w : Int, ratI w = Rat.divInt w 1 := fun w => (Rat.num_divInt_den (ratI w)).symm
  rw [e z, e (D : Int), Rat.divInt_mul_divInt]
  exact (Rat.divInt_eq_divInt_iff (by omega) (by omega)).mpr (by grind)
/-! ### sums of products, bounded -/
theorem inner_in {t p : List Int} {a : Rat} {D B : Nat} (hD : 0 < D) : ∀ {js : List Tm}, (∀ q ∈ js, In D B (a * q.2)) → In D (js.length * B) (inner t p a js)
  | [], _ => by rw [inner]; exact In.zero hD
  | q :: qs, h => by
    have h1 := inner_in (t := t) (p := p) hD fun r hr => h r (List.mem_cons_of_mem _ hr)
    have h2 := h q List.mem_cons_self
    rw [inner, List.length_cons, Nat.add_mul, Nat.one_mul, Nat.add_comm]
    refine In.add ?_ h1
    split
    · exact h2
    · exact In.zero hD
theorem coefP_in {t : List Int} {D B : Nat} (hD : 0 < D) {js : List Tm} : ∀ {is : List Tm}, (∀ p ∈ is, ∀ q ∈ js, In D B (p.2 * q.2)) → In D (is.length * (js.length * B)) (coefP t js is)
  | [], _ => by rw [coefP]; exact In.zero hD
  | p :: ps, h => by
    have h1 := coefP_in (t := t) hD fun r hr => h r (List.mem_cons_of_mem _ hr)
    have h2 := inner_in (t := t) (p := p.1) hD (h p List.mem_cons_self)
    rw [coefP, List.length_cons, Nat.add_mul, Nat.one_mul, Nat.add_comm]
    exact In.add h2 h1
end Pk

namespace Pk
open PySem PySem.Spec PyProof.Rows L2
theorem pl_len66 {n d : Nat} (hn : n = 2 ∨ n = 3) (hd : d ≤ 10) : (pl n d).length ≤ 66 := by
  have h : ∀ n ∈ [2, 3], ∀ d ∈ List.range 11, (pl n d).length ≤ 66 := by decide +kernel
  exact h n (by rcases hn with rfl | rfl <;> decide) d (List.mem_range.mpr (by omega))
structure FpB (n d e : Nat) (xs ys : List Rat) : Prop where
  n23 : n = 2 ∨ n = 3
  d10 : d ≤ 10
  e10 : e ≤ 10
  xlen : xs.length = (pl n d).length
  ylen : ys.length = (pl n e).length
  xsm : ∀ x ∈ xs, Sm0 x
  ysm : ∀ y ∈ ys, Sm0 y
theorem FpB.swap {n d e : Nat} {xs ys : List Rat} (B : FpB n d e xs ys) : FpB n e d ys xs := ⟨B.n23, B.e10, B.d10, B.ylen, B.xlen, B.ysm, B.xsm⟩
def coefQ (n d e : Nat) (xs ys : List Rat) (t : List Int) : Rat := coefP t (tmz (pl n e) ys) (tmz (pl n d) xs)
theorem coefQ_comm (n d e : Nat) (xs ys : List Rat) (t : List Int) : coefQ n d e xs ys t = coefQ n e d ys xs t := coefP_comm t _ _
def F_form_product : FL := fun ds P => ∃ (n d e : Nat) (xs ys : List Rat), ds = [.int (n : Int), frs xs, .int (d : Int), frs ys, .int (e : Int)] ∧ FpB n d e xs ys ∧ P ((pl n (d + e)).map fun t => fr (coefQ n d e xs ys t))
theorem isInt_add {x y : Rat} (h : ∃ z : Int, x = ratI z) (h' : ∃ z : Int, y = ratI z) : ∃ z : Int, x + y = ratI z := by
  obtain ⟨a, rfl⟩ := h
  obtain ⟨b, rfl⟩ := h'
  exact ⟨a + b, (Rat.intCast_add a b).symm⟩
theorem isInt_mul {x y : Rat} (h : ∃ z : Int, x = ratI z) (h' : ∃ z : Int, y = ratI z) : ∃ z : Int, x * y = ratI z := by
  obtain ⟨a, rfl⟩ := h
  obtain ⟨b, rfl⟩ := h'
  exact ⟨a * b, (Rat.intCast_mul a b).symm⟩
theorem inner_int {t p : List Int} {a : Rat} (ha : ∃ z : Int, a = ratI z) : ∀ {js : List Tm}, (∀ q ∈ js, ∃ z : Int, q.2 = ratI z) → ∃ z : Int, inner t p a js = ratI z
  | [], _ => ⟨0, rfl⟩
  | q :: qs, h => by
    rw [inner]
    refine isInt_add ?_ (inner_int ha fun r hr => h r (List.mem_cons_of_mem _ hr))
    split
    · exact isInt_mul ha (h q List.mem_cons_self)
    · exact ⟨0, rfl⟩
theorem coefP_int {t : List Int} {js : List Tm} (hj : ∀ q ∈ js, ∃ z : Int, q.2 = ratI z) : ∀ {is : List Tm}, (∀ q ∈ is, ∃ z : Int, q.2 = ratI z) → ∃ z : Int, coefP t js is = ratI z
  | [], _ => ⟨0, rfl⟩
  | p :: ps, h => by
    rw [coefP]
    exact isInt_add (inner_int (h p List.mem_cons_self) hj) (coefP_int hj fun r hr => h r (List.mem_cons_of_mem _ hr))
theorem tmz_snd {ps : List (List Int)} {as : List Rat} {q : Tm} (h : q ∈ tmz ps as) : q.2 ∈ as := (List.of_mem_zip (show (q.1, q.2) ∈ ps.zip as from h)).2
theorem tmz_scale {ps : List (List Int)} {xs : List Rat} (hs : ∀ x ∈ xs, Sm0 x) : tmz ps ((xs.map (numO xs)).map ratI) = (tmz ps xs).map fun q => (q.1, ratI (lcmD xs : Int) * q.2) := by
  have e : (xs.map (numO xs)).map ratI = xs.map fun x => ratI (lcmD xs : Int) * x := by
    rw [List.map_map]
    refine List.map_congr_left fun x hx => ?_
    show ratI (numO xs x) = _
    rw [divInt_scale (z := numO xs x) (lcmD_pos xs), ← (in_lcm hs hx).1]
  rw [e]
  unfold tmz
  rw [List.zip_map_right]
  rfl
theorem coefI_eq {n d e : Nat} {xs ys : List Rat} (B : FpB n d e xs ys) (t : List Int) : coefI n d e (xs.map (numO xs)) (ys.map (numO ys)) t = ratI (lcmD xs : Int) * ratI (lcmD ys : Int) * coefQ n d e xs ys t := by
  unfold coefI coefQ
  rw [tmz_scale B.xsm, tmz_scale B.ysm, coefP_scale]
theorem coefI_num {n d e : Nat} {xs ys : List Rat} (B : FpB n d e xs ys) (t : List Int) : ratI (coefI n d e (xs.map (numO xs)) (ys.map (numO ys)) t).num = coefI n d e (xs.map (numO xs)) (ys.map (numO ys)) t := by
  have : ∃ z : Int, coefI n d e (xs.map (numO xs)) (ys.map (numO ys)) t = ratI z := coefP_int (fun q hq => by
    obtain ⟨z, _, e⟩ := List.mem_map.mp (tmz_snd hq)
    exact ⟨z, e.symm⟩) (fun q hq => by
    obtain ⟨z, _, e⟩ := List.mem_map.mp (tmz_snd hq)
    exact ⟨z, e.symm⟩)
  obtain ⟨z, e⟩ := this
  rw [e]
  rfl
theorem coef_div {n d e : Nat} {xs ys : List Rat} (B : FpB n d e xs ys) (t : List Int) : Rat.divInt (coefI n d e (xs.map (numO xs)) (ys.map (numO ys)) t).num ((lcmD xs : Int) * (lcmD ys : Int)) = coefQ n d e xs ys t := by
  have l1 := lcmD_pos xs
  have l2 := lcmD_pos ys
  have h := divInt_scale (z := (coefI n d e (xs.map (numO xs)) (ys.map (numO ys)) t).num) (D := lcmD xs * lcmD ys) (Nat.mul_pos l1 l2)
  rw [coefI_num B, coefI_eq B, Int.natCast_mul] at h
  have e1 : ratI ((lcmD xs : Int) * (lcmD ys : Int)) = ratI (lcmD xs : Int) * ratI (lcmD ys : Int) := Rat.intCast_mul _ _
  rw [e1, ← coefI_eq B] at h
  have n1 : ratI (lcmD xs : Int) ≠ 0 := fun z => by have := ratI_zero.mp z; omega
  have n2 : ratI (lcmD ys : Int) ≠ 0 := fun z => by have := ratI_zero.mp z; omega
  have n3 : ratI (lcmD xs : Int) * ratI (lcmD ys : Int) ≠ 0 := fun z => by
    rw [← e1] at z
    exact Int.mul_ne_zero (a := (lcmD xs : Int)) (b := (lcmD ys : Int)) (by omega) (by omega) (ratI_zero.mp z)
  have h2 := (coefI_eq B t).symm.trans h
  have e2 : ∀ (c u v : Rat), c ≠ 0 → c * u = c * v → u = v := fun c u v hc he => by grind
  exact (e2 _ _ _ n3 h2).symm
theorem FpB.lens {n d e : Nat} {xs ys : List Rat} (B : FpB n d e xs ys) : xs.length ≤ 66 ∧ ys.length ≤ 66 := by
  have h1 := pl_len66 B.n23 B.d10
  have h2 := pl_len66 B.n23 B.e10
  rw [B.xlen, B.ylen]
  exact ⟨h1, h2⟩
theorem numO_lt {xs : List Rat} (hs : ∀ x ∈ xs, Sm0 x) (hl : xs.length ≤ 66) : ∀ a ∈ xs.map (numO xs), a.natAbs < 2 ^ 5000 := fun a ha => by
  obtain ⟨x, hx, rfl⟩ := List.mem_map.mp ha
  refine Nat.lt_of_le_of_lt (in_lcm hs hx).2 (Nat.lt_of_le_of_lt (Nat.mul_le_mul_left _ (lcmD_small hs hl)) ?_)
  rw [← Nat.pow_add]
  exact pow_lt (by omega)
theorem b_form_product {K : PySem.W.Frag} (ds : List PD) (P : List PD → Prop) (h : F_form_product ds P) : RunS K (t_form_product K (SpP K F_fraction) (SpP K F_cleared) (SpL K F_integer_product)) (startR 10 (ds.map .dat)) { rl := P } := by
  obtain ⟨n, d, e, xs, ys, rfl, B, p⟩ := h
  obtain ⟨lx, ly⟩ := B.lens
  have l1 := lcmD_pos xs
  have l2 := lcmD_pos ys
  have s1 := lcmD_small B.xsm lx
  have s2 := lcmD_small B.ysm ly
  have le3 := pl_len B.n23 (d := d + e) (by have := B.d10; have := B.e10; omega)
  unfold t_form_product
  refine rs_setG (d := .tuple [.list ((xs.map (numO xs)).map .int), .int (lcmD xs : Int)]) (ev_call1 (ea_one (ev_var rfl) ea_nil) ⟨xs, rfl, lx, B.xsm, rfl⟩) (bg_tup2 bg_name bg_name) ?_
  refine rs_setG (d := .tuple [.list ((ys.map (numO ys)).map .int), .int (lcmD ys : Int)]) (ev_call1 (ea_one (ev_var rfl) ea_nil) ⟨ys, rfl, ly, B.ysm, rfl⟩) (bg_tup2 bg_name bg_name) ?_
  refine rs_retL (P := (· = (pl n (d + e)).map fun t => fr (coefQ n d e xs ys t))) (el_map _ (ei_list1 (xs := (pl n (d + e)).map fun t => .int (coefI n d e (xs.map (numO xs)) (ys.map (numO ys)) t).num) (EvL.datE (el_call1 (ea_one (ev_var rfl) (ea_one (ev_var rfl) (ea_one (ev_var rfl) (ea_one (ev_var rfl) (ea_one (ev_var rfl) ea_nil)))))
    ⟨n, d, e, _, _, rfl, ⟨B.n23, B.d10, B.e10, by rw [List.length_map]; exact B.xlen, by rw [List.length_map]; exact B.ylen, numO_lt B.xsm lx, numO_lt B.ysm ly⟩, fun z hz => ?_⟩))) (by rw [List.length_map, List.length_map]) (by rw [List.length_map]; omega) ?_) fun w ew => by rw [ew]; exact p
  · refine List.map_congr_left fun t _ => ?_
    rw [← hz t]
    rfl
  · intro i z y hz hy
    obtain ⟨t, g1, rfl⟩ := map_get hz
    obtain ⟨t', g2, rfl⟩ := map_get hy
    rw [g1] at g2
    cases g2
    refine ⟨_, _, (by decide), bg_name, ev_call1 (ea_one (ev_var rfl) (ea_one (ev_mul (i := (lcmD xs : Int)) (j := (lcmD ys : Int)) (ev_var rfl) (ev_var rfl) ?_) ea_nil)) ⟨_, _, rfl, Int.mul_pos (by omega) (by omega), ?_, by rw [coef_div B]⟩⟩
    · exact mulW (a := 1321) (b := 1321) (by omega) (by omega) (natAbs_lt (Nat.lt_of_le_of_lt s1 (pow_lt (by omega)))) (natAbs_lt (Nat.lt_of_le_of_lt s2 (pow_lt (by omega)))) (by omega)
    · rw [Int.natAbs_mul, Int.natAbs_natCast, Int.natAbs_natCast]
      refine Nat.lt_of_le_of_lt (Nat.mul_le_mul s1 s2) ?_
      rw [← Nat.pow_add]
      exact pow_lt (by omega)
/-! ### bounds of a product's sums -/
theorem prod_in {n d e : Nat} {xs ys : List Rat} (B : FpB n d e xs ys) : ∀ p ∈ tmz (pl n d) xs, ∀ q ∈ tmz (pl n e) ys, In (lcmD xs * lcmD ys) (2 ^ 2680) (p.2 * q.2) := fun p hp q hq => by
  obtain ⟨lx, ly⟩ := B.lens
  obtain ⟨e1, b1⟩ := in_lcm B.xsm (tmz_snd hp)
  obtain ⟨e2, b2⟩ := in_lcm B.ysm (tmz_snd hq)
  have s1 := lcmD_small B.xsm lx
  have s2 := lcmD_small B.ysm ly
  have i1 : In (lcmD xs) (2 ^ 1340) p.2 := ⟨lcmD_pos xs, _, e1, Nat.le_trans b1 (Nat.le_trans (Nat.mul_le_mul_left _ s1) (by rw [← Nat.pow_add]; exact Nat.pow_le_pow_right (by omega) (by omega)))⟩
  have i2 : In (lcmD ys) (2 ^ 1340) q.2 := ⟨lcmD_pos ys, _, e2, Nat.le_trans b2 (Nat.le_trans (Nat.mul_le_mul_left _ s2) (by rw [← Nat.pow_add]; exact Nat.pow_le_pow_right (by omega) (by omega)))⟩
  exact (i1.mul i2).mono (by rw [← Nat.pow_add]; exact Nat.le_refl _)
theorem lcm2_lt {n d e : Nat} {xs ys : List Rat} (B : FpB n d e xs ys) : 0 < lcmD xs * lcmD ys ∧ lcmD xs * lcmD ys ≤ 2 ^ 2640 := by
  obtain ⟨lx, ly⟩ := B.lens
  refine ⟨Nat.mul_pos (lcmD_pos xs) (lcmD_pos ys), Nat.le_trans (Nat.mul_le_mul (lcmD_small B.xsm lx) (lcmD_small B.ysm ly)) ?_⟩
  rw [← Nat.pow_add]
  exact Nat.le_refl _
theorem part_in {n d e : Nat} {xs ys : List Rat} (B : FpB n d e xs ys) {t : List Int} {i j : Nat} {p : Tm} (hp : p ∈ tmz (pl n d) xs) : In (lcmD xs * lcmD ys) (2 ^ 2693) (coefP t (tmz (pl n e) ys) ((tmz (pl n d) xs).take i) + inner t p.1 p.2 ((tmz (pl n e) ys).take j)) := by
  obtain ⟨lx, ly⟩ := B.lens
  have D0 := (lcm2_lt B).1
  have pin := prod_in B
  have h1 := coefP_in (t := t) D0 (js := tmz (pl n e) ys) (is := (tmz (pl n d) xs).take i) fun r hr q hq => pin r (List.mem_of_mem_take hr) q hq
  have h2 := inner_in (t := t) (p := p.1) (a := p.2) D0 (js := (tmz (pl n e) ys).take j) fun q hq => pin p hp q (List.mem_of_mem_take hq)
  refine (h1.add h2).mono ?_
  have e1 := tmz_len B.xlen
  have e2 := tmz_len B.ylen
  rw [← B.xlen] at e1
  rw [← B.ylen] at e2
  have a1 : ((tmz (pl n d) xs).take i).length ≤ 66 := by rw [List.length_take]; omega
  have a2 : (tmz (pl n e) ys).length ≤ 66 := by omega
  have a3 : ((tmz (pl n e) ys).take j).length ≤ 66 := by rw [List.length_take]; omega
  have b1 := Nat.mul_le_mul a1 (Nat.mul_le_mul_right (2 ^ 2680) a2)
  have b2 := Nat.mul_le_mul_right (2 ^ 2680) a3
  refine Nat.le_trans (Nat.add_le_add b1 b2) ?_
  rw [← Nat.mul_assoc, ← Nat.add_mul, show (2693 : Nat) = 13 + 2680 from rfl, Nat.pow_add]
  exact Nat.mul_le_mul_right _ (by decide)
theorem part_sm {n d e : Nat} {xs ys : List Rat} (B : FpB n d e xs ys) {t : List Int} {i j : Nat} {p : Tm} (hp : p ∈ tmz (pl n d) xs) : Sm (coefP t (tmz (pl n e) ys) ((tmz (pl n d) xs).take i) + inner t p.1 p.2 ((tmz (pl n e) ys).take j)) :=
  (part_in B hp).sm (Nat.lt_of_le_of_lt (lcm2_lt B).2 (pow_lt (by omega))) (pow_lt (by omega))
theorem coefQ_in {n d e : Nat} {xs ys : List Rat} (B : FpB n d e xs ys) (t : List Int) : In (lcmD xs * lcmD ys) (2 ^ 2693) (coefQ n d e xs ys t) := by
  have h1 := coefP_in (t := t) (lcm2_lt B).1 (js := tmz (pl n e) ys) (is := tmz (pl n d) xs) (prod_in B)
  refine h1.mono ?_
  obtain ⟨lx, ly⟩ := B.lens
  have e1 := tmz_len B.xlen
  have e2 := tmz_len B.ylen
  rw [← B.xlen] at e1
  rw [← B.ylen] at e2
  refine Nat.le_trans (Nat.mul_le_mul (show _ ≤ 66 by omega) (Nat.mul_le_mul_right (2 ^ 2680) (show _ ≤ 66 by omega))) ?_
  rw [← Nat.mul_assoc, show (2693 : Nat) = 13 + 2680 from rfl, Nat.pow_add]
  exact Nat.mul_le_mul_right _ (by decide)
theorem coefQ_sm {n d e : Nat} {xs ys : List Rat} (B : FpB n d e xs ys) (t : List Int) : Sm (coefQ n d e xs ys t) := (coefQ_in B t).sm (Nat.lt_of_le_of_lt (lcm2_lt B).2 (pow_lt (by omega))) (pow_lt (by omega))
end Pk

namespace Pk
open PySem PySem.Spec PyProof.Rows L2
theorem num_ne {q : Rat} : (!decide (q.num = 0)) = decide (q ≠ 0) := by
  by_cases h : q = 0
  · subst h; rfl
  · rw [decide_eq_true h, decide_eq_false (fun z => h (Rat.num_eq_zero.mp z))]
    rfl
theorem b_law_product {K : PySem.W.Frag} (ds : List PD) (P : List PD → Prop) (h : F_form_product ds P) : RunS K (t_law_product K (SpP K F_plus) (SpP K F_times) (SpL K F_law_places)) (startR 14 (ds.map .dat)) { rl := P } := by
  obtain ⟨n, d, e, xs, ys, rfl, B, p⟩ := h
  have hd := B.d10
  have he := B.e10
  have hn3 : n ≤ 3 := by rcases B.n23 with h | h <;> omega
  have le1 := pl_len B.n23 (d := d) (by omega)
  have le2 := pl_len B.n23 (d := e) (by omega)
  have le3 := pl_len B.n23 (d := d + e) (by omega)
  have nd := pl_nodup (n := n) (d := d + e) B.n23
  let js : List Tm := tmz (pl n e) ys
  let is : List Tm := tmz (pl n d) xs
  unfold t_law_product
  refine rs_setG (d := .tuple [.list ((pl n (d + e)).map tupI), .list ((pl n d).map tupI), .list ((pl n e).map tupI)]) (ev_tup1 (ea_one (ev_places (el_places (n := n) (d := d + e) (ev_var rfl) ((ev_add (i := (d : Int)) (j := (e : Int)) (ev_var rfl) (ev_var rfl)).imp fun z w => by rw [w, Int.natCast_add]) B.n23 (by omega))) (ea_one (ev_places (el_places (ev_var rfl) (ev_var rfl) B.n23 (by omega))) (ea_one (ev_places (el_places (ev_var rfl) (ev_var rfl) B.n23 (by omega))) ea_nil)))) (bg_tup3 bg_name bg_name bg_name) ?_
  refine rs_setL1 (ds := (pl n (d + e)).map fun _ => fr 0) (el_map _ (ei_list1 (xs := (pl n (d + e)).map tupI) (ev_var rfl)) (by rw [List.length_map, List.length_map]) (by rw [List.length_map]; omega) ?_) ?_
  · intro i z y hz hy
    obtain ⟨w, _, rfl⟩ := map_get hy
    exact ⟨_, _, (by decide), bg_name, ev_tup1 (ea_one ev_int (ea_one ev_int ea_nil))⟩
  refine rs_seq (fun ρ' => ∃ x9 x10 x11 x12 x13 : Option Ent, ρ' = [some (.dat (.int (n : Int))), some (.dat (frs xs)), some (.dat (.int (d : Int))), some (.dat (frs ys)), some (.dat (.int (e : Int))), some (.dat (.list ((pl n (d + e)).map tupI))), some (.dat (.list ((pl n d).map tupI))), some (.dat (.list ((pl n e).map tupI))), some (.own ((pl n (d + e)).map fun t => fr (coefQ n d e xs ys t))), x9, x10, x11, x12, x13]) ?_ ?_
  · refine rs_for1 (r_range (n := (pl n d).length) (ev_lenL (ds := (pl n d).map tupI) (ev_var rfl)) (by rw [List.length_map]) (by omega)) (fun i ρ' => ∃ x9 x10 x11 x12 x13 : Option Ent, ρ' = [some (.dat (.int (n : Int))), some (.dat (frs xs)), some (.dat (.int (d : Int))), some (.dat (frs ys)), some (.dat (.int (e : Int))), some (.dat (.list ((pl n (d + e)).map tupI))), some (.dat (.list ((pl n d).map tupI))), some (.dat (.list ((pl n e).map tupI))), some (.own ((pl n (d + e)).map fun t => fr (coefP t js (is.take i)))), x9, x10, x11, x12, x13]) ⟨none, none, none, none, none, rfl⟩ ?_ ?_
    · rintro i z ρ' hz ⟨x9, x10, x11, x12, x13, rfl⟩
      obtain ⟨hi, rfl⟩ := range01_get hz
      obtain ⟨pp, g1⟩ := get_some (l := pl n d) hi
      obtain ⟨a, g2⟩ := get_some (l := xs) (i := i) (by rw [B.xlen]; exact hi)
      have pe := pl_entry B.n23 (mem_get g1)
      have ig : is[i]? = some (pp, a) := tmz_get g1 g2
      have im : (pp, a) ∈ tmz (pl n d) xs := mem_get ig
      refine ⟨_, _, bg_name, rs_for1 (r_range (n := (pl n e).length) (ev_lenL (ds := (pl n e).map tupI) (ev_var rfl)) (by rw [List.length_map]) (by omega)) (fun j ρ' => ∃ x9 x11 x12 x13 : Option Ent, ρ' = [some (.dat (.int (n : Int))), some (.dat (frs xs)), some (.dat (.int (d : Int))), some (.dat (frs ys)), some (.dat (.int (e : Int))), some (.dat (.list ((pl n (d + e)).map tupI))), some (.dat (.list ((pl n d).map tupI))), some (.dat (.list ((pl n e).map tupI))), some (.own ((pl n (d + e)).map fun t => fr (coefP t js (is.take i) + inner t pp a (js.take j)))), x9, some (.dat (.int (i : Int))), x11, x12, x13]) ⟨x9, x11, x12, x13, ?_⟩ ?_ ?_⟩
      · have e1 : ((pl n (d + e)).map fun t => fr (coefP t js (is.take i) + inner t pp a (js.take 0))) = (pl n (d + e)).map fun t => fr (coefP t js (is.take i)) := List.map_congr_left fun t _ => by
          rw [List.take_zero]
          show fr (_ + 0) = _
          rw [Rat.add_zero]
        rw [e1]
        rfl
      · rintro j w ρ' hw ⟨x9, x11, x12, x13, rfl⟩
        obtain ⟨hj, rfl⟩ := range01_get hw
        obtain ⟨q, g3⟩ := get_some (l := pl n e) hj
        obtain ⟨b, g4⟩ := get_some (l := ys) (i := j) (by rw [B.ylen]; exact hj)
        have qe := pl_entry B.n23 (mem_get g3)
        have jg : js[j]? = some (q, b) := tmz_get g3 g4
        obtain ⟨s, hs⟩ := List.mem_iff_getElem?.mp (addP_mem B.n23 (mem_get g1) (mem_get g3))
        have sl := (List.getElem?_eq_some_iff.mp hs).1
        have st : ∀ t, inner t pp a (js.take (j + 1)) = inner t pp a (js.take j) + (if addP pp q = t then a * b else 0) := fun t => by
          rw [take_snoc jg, inner_snoc]
        refine ⟨_, _, bg_name, rs_if (et_and1 (a := !decide (a.num = 0)) (b := !decide (b.num = 0)) (et_test1 (ev_neI (ev_frN (ev_ixL (ds := xs.map fr) (i := (i : Int)) (ev_var rfl) (ev_var rfl) (atiN (by rw [List.getElem?_map, g2]; rfl)))) ev_int)) fun _ => et_test1 (ev_neI (ev_frN (ev_ixL (ds := ys.map fr) (i := (j : Int)) (ev_var rfl) (ev_var rfl) (atiN (by rw [List.getElem?_map, g4]; rfl)))) ev_int)) (fun c => ?_) fun c => ?_⟩
        · -- both there
          refine rs_set1 (d := .int ((s : Nat) : Int)) (ev_index (ds := (pl n (d + e)).map tupI) (d := tupI (addP pp q)) (z := tupI (addP pp q)) (n := s) (ev_var rfl) (ev_tup_ (EvL.datE (el_map ((addP pp q).map .int) (r_range (n := n) (ev_var rfl) rfl (by omega)) ?_ ?_ ?_))) (pl_gd B.n23 (by omega)).shaped ?_ ?_ ?_ ?_) ?_
          · rw [rangeD_len, List.length_map, addP, List.length_zipWith, pe.1, qe.1]; omega
          · rw [List.length_map, addP, List.length_zipWith, pe.1, qe.1]; omega
          · intro k u y hu hy
            obtain ⟨hk, rfl⟩ := range01_get hu
            obtain ⟨pk, gp⟩ := get_some (l := pp) (i := k) (by rw [pe.1]; exact hk)
            obtain ⟨qk, gq⟩ := get_some (l := q) (i := k) (by rw [qe.1]; exact hk)
            obtain ⟨v, g5, rfl⟩ := map_get hy
            unfold addP at g5
            rw [List.getElem?_zipWith, gp, gq] at g5
            cases g5
            refine ⟨_, _, (by decide), bg_name, ev_add (ev_ixT (ds := pp.map .int) (i := (k : Int)) (d := .int pk) (ev_ixL (ds := (pl n d).map tupI) (i := (i : Int)) (ev_var rfl) (ev_var rfl) (atiN (by rw [List.getElem?_map, g1]; rfl))) (ev_var rfl) (atiN (by rw [List.getElem?_map, gp]; rfl)))
              (ev_ixT (ds := q.map .int) (i := (k : Int)) (d := .int qk) (ev_ixL (ds := (pl n e).map tupI) (i := (j : Int)) (ev_var rfl) (ev_var rfl) (atiN (by rw [List.getElem?_map, g3]; rfl))) (ev_var rfl) (atiN (by rw [List.getElem?_map, gq]; rfl)))⟩
          · have ae := pl_entry B.n23 (mem_get hs)
            exact (Gd.tupI (fun z hz => by have := ae.2 z hz; omega) (by rw [ae.1]; omega)).shaped
          · rw [List.getElem?_map, hs]; rfl
          · rw [eqv_tupI]; simp
          · intro m z' hm hz'
            obtain ⟨u, gu, rfl⟩ := map_get hz'
            rw [eqv_tupI, decide_eq_false]
            intro w
            rw [w] at gu
            have := nd_inj nd gu hs
            omega
          refine rs_setIx (i := 8) (ds := (pl n (d + e)).map fun t => fr (coefP t js (is.take i) + inner t pp a (js.take j))) (n := (s : Int)) (j := s) (P := (· = fr ((coefP (addP pp q) js (is.take i) + inner (addP pp q) pp a (js.take j)) + a * b))) rfl (ev_call_plus (ev_ownIx (i := 8) (n := (s : Int)) rfl (ev_var rfl) (atiN (by rw [List.getElem?_map, hs]; rfl))) (ev_call_times (ev_ixL (ds := xs.map fr) (i := (i : Int)) (ev_var rfl) (ev_var rfl) (atiN (by rw [List.getElem?_map, g2]; rfl))) (ev_ixL (ds := ys.map fr) (i := (j : Int)) (ev_var rfl) (ev_var rfl) (atiN (by rw [List.getElem?_map, g4]; rfl))) (B.xsm a (mem_get g2)).sm (B.ysm b (mem_get g4)).sm) (part_sm B im) ?_) (ev_var rfl) ?_ fun w ew => ⟨x9, some (.dat (.int (j : Int))), some (.dat (.int (s : Int))), x13, ?_⟩
          · exact (prod_in B _ im _ (mem_get jg)).sm (Nat.lt_of_le_of_lt (lcm2_lt B).2 (pow_lt (by omega))) (pow_lt (by omega))
          · unfold ixN
            rw [List.length_map, if_pos (by omega), if_pos (by omega), Int.toNat_natCast]
          · have e1 : ((pl n (d + e)).map fun t => fr (coefP t js (is.take i) + inner t pp a (js.take j))).set s w = (pl n (d + e)).map fun t => fr (coefP t js (is.take i) + inner t pp a (js.take (j + 1))) := by
              have e2 : w = (fun t => fr (coefP t js (is.take i) + inner t pp a (js.take (j + 1)))) (addP pp q) := by
                rw [ew]
                show _ = fr (_ + inner (addP pp q) pp a (js.take (j + 1)))
                rw [st, if_pos rfl, Rat.add_assoc]
              rw [e2]
              refine upd_map nd hs _ (fun t => fr (coefP t js (is.take i) + inner t pp a (js.take (j + 1)))) fun t ht => ?_
              show fr (_ + inner t pp a (js.take (j + 1))) = _
              rw [st, if_neg ht, Rat.add_zero]
            rw [e1]
            rfl
        · -- one of them is 0
          refine rs_next ⟨x9, some (.dat (.int (j : Int))), x12, x13, ?_⟩
          have z0 : a * b = 0 := by
            rw [num_ne, num_ne] at c
            by_cases h1 : a = 0
            · rw [h1, Rat.zero_mul]
            · by_cases h2 : b = 0
              · rw [h2, Rat.mul_zero]
              · rw [decide_eq_true h1, decide_eq_true h2] at c
                cases c
          have e1 : ((pl n (d + e)).map fun t => fr (coefP t js (is.take i) + inner t pp a (js.take (j + 1)))) = (pl n (d + e)).map fun t => fr (coefP t js (is.take i) + inner t pp a (js.take j)) := List.map_congr_left fun t _ => by
            rw [st, z0]
            congr 2
            split <;> rw [Rat.add_zero]
          rw [e1]
          rfl
      · rintro ρ' ⟨x9, x11, x12, x13, rfl⟩
        refine ⟨x9, some (.dat (.int (i : Int))), x11, x12, x13, ?_⟩
        have e1 : ((pl n (d + e)).map fun t => fr (coefP t js (is.take i) + inner t pp a (js.take (rangeD 0 1 (pl n e).length).length))) = (pl n (d + e)).map fun t => fr (coefP t js (is.take (i + 1))) := List.map_congr_left fun t _ => by
          rw [take_snoc ig, coefP_snoc]
          have : js.take (rangeD 0 1 (pl n e).length).length = js := List.take_of_length_le (by rw [rangeD_len]; exact Nat.le_of_eq (tmz_len B.ylen))
          rw [this]
        rw [e1]
    · rintro ρ' ⟨x9, x10, x11, x12, x13, rfl⟩
      refine ⟨x9, x10, x11, x12, x13, ?_⟩
      have : is.take (rangeD 0 1 (pl n d).length).length = is := List.take_of_length_le (by rw [rangeD_len]; exact Nat.le_of_eq (tmz_len B.xlen))
      rw [this]
      rfl
  · rintro ρ' ⟨x9, x10, x11, x12, x13, rfl⟩
    exact rs_retO (i := 8) rfl p
end Pk

namespace Pk
open PySem PySem.Spec PyProof.Rows L2
/-! ### draws -/
def F_law_draw : FD := fun ds P => ∃ b : Int, ds = [.int b] ∧ 0 < b ∧ b < 2 ^ 30 ∧ ∀ r : Int, 0 ≤ r → r < b → P (.int r)
/-- a value known ahead, nothing laid -/
abbrev Ev1 (te : TE) (σ : L2.St) (H : Hp) (v : V) : Prop := ∀ Q : VK, Q v H → te σ H Q
section
variable {K : PySem.W.Frag} {σ : L2.St} {H : Hp} {ta tb te : TE} {i j : Int} {xs : List V} {dk : Addr} {u : TS} {D : Ends} {v : V}
theorem mulS_r {i j : Int} (h0 : 0 ≤ j) (h : j < 2 ^ 32) : CMul i j := .inr ⟨by omega, by omega⟩
theorem mulS_l {i j : Int} (h0 : 0 ≤ i) (h : i < 2 ^ 32) : CMul i j := .inl ⟨by omega, by omega⟩
theorem e1_var {n : Nat} (h : σ[n]? = some (some v)) : Ev1 (tVar n) σ H v := fun Q k => ⟨v, h, k⟩
theorem e1_int : Ev1 (tC (.int i)) σ H (.int i) := fun Q k => k
theorem e1_add (ha : Ev1 ta σ H (.int i)) (hb : Ev1 tb σ H (.int j)) : Ev1 (tOp rAddI ta tb) σ H (.int (i + j)) := fun Q k => ha _ (hb _ ⟨i, j, rfl, rfl, k⟩)
theorem e1_mul (ha : Ev1 ta σ H (.int i)) (hb : Ev1 tb σ H (.int j)) (h : CMul i j) : Ev1 (tOp rMulS ta tb) σ H (.int (i * j)) := fun Q k => ha _ (hb _ ⟨i, j, rfl, rfl, h, k⟩)
theorem e1_mod (ha : Ev1 ta σ H (.int i)) (hb : Ev1 tb σ H (.int j)) (h : 0 < j) : Ev1 (tOp rModI ta tb) σ H (.int (i % j)) := fun Q k => ha _ (hb _ ⟨i, j, rfl, rfl, h, k⟩)
theorem e1_div (ha : Ev1 ta σ H (.int i)) (hb : Ev1 tb σ H (.int j)) (h : CDivW i j) : Ev1 (tOp rDivW ta tb) σ H (.int (i / j)) := fun Q k => ha _ (hb _ ⟨i, j, rfl, rfl, h, k⟩)
theorem e1_lt (ha : Ev1 ta σ H (.int i)) (hb : Ev1 tb σ H (.int j)) : Ev1 (tOp rLtI ta tb) σ H (.bl (decide (i < j))) := fun Q k => ha _ (hb _ ⟨i, j, rfl, rfl, k⟩)
theorem e1_eq (ha : Ev1 ta σ H (.int i)) (hb : Ev1 tb σ H (.int j)) : Ev1 (tOp rEq ta tb) σ H (.bl (decide (i = j))) := fun Q k => ha _ (hb _ ⟨rfl, by rw [dec_vi]; exact k⟩)
theorem e1_intF (ha : Ev1 ta σ H (.int i)) : Ev1 (tCB rIntQ (tCons ta tNil)) σ H (.int i) := fun Q k => ha _ (.inl ⟨i, rfl, k⟩)
theorem e1_abs (ha : Ev1 ta σ H (.int i)) : Ev1 (tCB rAbsQ (tCons ta tNil)) σ H (.int (if i < 0 then -i else i)) := fun Q k => ha _ ⟨i, rfl, k⟩
theorem e1_ix {l : Addr} {z : V} (ha : Ev1 ta σ H (.ref l)) (hb : Ev1 tb σ H (.int i)) (hl : SqL K H l xs) (hz : atI xs i = some z) : Ev1 (tOp (rIxL K) ta tb) σ H z := fun Q k => ha _ (hb _ ⟨l, xs, i, z, rfl, rfl, hl, hz, k⟩)
theorem e1_len {l : Addr} (ha : Ev1 ta σ H (.ref l)) (hl : SqL K H l xs) : Ev1 (tCB (rLenQ K) (tCons ta tNil)) σ H (.int xs.length) := fun Q k => ha _ ⟨l, xs, rfl, .inl hl, k⟩
theorem s1_var {n : Nat} (h : Ev1 te σ H v) (k : u D (σ.set n (some v)) H) : tSeq (tAsg te (gName n)) u D σ H := h _ k
theorem s1_ix {c : Int} {j : Nat} (h : Ev1 te σ H v) (hσ : σ[0]? = some (some (.ref dk))) (hH : H dk = some (.lst xs)) (hj : ixN xs.length c = some j) (k : D.nx σ (upd H dk (.lst (xs.set j v)))) : tAsg te (gSub (tVar 0) (tC (.int c)) rSetL) D σ H := h _ ⟨_, hσ, dk, xs, c, j, rfl, rfl, hH, hj, k⟩
theorem s1_ixS {c : Int} {j : Nat} (h : Ev1 te σ H v) (hσ : σ[0]? = some (some (.ref dk))) (hH : H dk = some (.lst xs)) (hj : ixN xs.length c = some j) (k : u D σ (upd H dk (.lst (xs.set j v)))) : tSeq (tAsg te (gSub (tVar 0) (tC (.int c)) rSetL)) u D σ H := s1_ix (D := { D with nx := u D }) h hσ hH hj k
theorem s1_if {t : TS} {te : TE} {b : Bool} (h : Ev1 te σ H (.bl b)) (h1 : b = true → t D σ H) (h2 : b = false → u D σ H) : tIfS (tTest te) t u D σ H := h _ ⟨b, rfl, by
  cases b with
  | true => exact iteT (h1 rfl)
  | false => exact iteF (h2 rfl)⟩
theorem s1_ifA {t : TS} {te te' : TE} {b c : Bool} (h : Ev1 te σ H (.bl b)) (h' : Ev1 te' σ H (.bl c)) (h1 : b = true → c = true → t D σ H) (h2 : (b && c) = false → u D σ H) : tIfS (tAnd (tTest te) (tTest te')) t u D σ H := h _ ⟨b, rfl, by
  cases b with
  | true =>
    refine iteT (h' _ ⟨c, rfl, ?_⟩)
    cases c with
    | true => exact iteT (h1 rfl rfl)
    | false => exact iteF (h2 rfl)
  | false => exact iteF (iteF (h2 rfl))⟩
end
abbrev dkV (d0 d1 sd : Int) (l : Addr) (d4 : Int) : List V := [.int d0, .int d1, .int sd, .ref l, .int d4]
theorem b_law_draw {K : PySem.W.Frag} (vs : List V) (H0 : Hp) (Q : VK) (E : XK) (hsp : SpK K F_law_draw vs H0 Q E) : t_law_draw K { nx := fun _ H' => Q .non H', rt := Q } (L2.start N_law_draw vs) H0 := by
  obtain ⟨dk, us, S, ds, P, rfl, own, hdk, hD, hd, ⟨b, rfl, hb, hb2, p⟩, k⟩ := hsp
  obtain ⟨d0, d1, sd, l, d4, ns, hl, hs, o0, o1, o2, o3, o4⟩ := hD.ex
  have e := dpa_ints (is := [b]) hd
  subst e
  have at5 : ∀ {d0 d1 sd d4 : Int} {H : Hp}, H dk = some (.lst (dkV d0 d1 sd l d4)) → SqL K H dk (dkV d0 d1 sd l d4) := fun h => SqL.of h
  have lis : ∀ {H : Hp}, SameB (some dk) H0 H → Same (Hid S H0) (Hid S H) := fun {H} s a o h => by
    obtain ⟨w1, w2⟩ := hid_some h
    rw [hid_out w1]
    exact s a o (fun z => w1 (by rw [← Option.some.inj z]; exact hdk)) w2
  have sq : ∀ {H : Hp}, SameB (some dk) H0 H → SqL K H l (ns.map V.int) := fun {H} s => (hid_le S H).seq ((lis s).seq hs)
  have up : ∀ {H : Hp} {o : HO}, SameB (some dk) H0 H → SameB (some dk) H0 (upd H dk o) := fun {H o} s a u n h => by
    rw [upd_ne (fun z => n (by rw [z]))]
    exact s a u n h
  -- the end: value and rest of the draw
  have fin : ∀ {d0 d1 sd d4 : Int} {x2 : Option V} {H : Hp}, 0 ≤ d0 → 0 ≤ d1 → 0 ≤ sd → sd < 2147483647 → 0 ≤ d4 → H dk = some (.lst (dkV d0 d1 sd l d4)) → SameB (some dk) H0 H →
      (tSeq (tAsg (tOp rModI (tCB rIntQ (tCons (tOp (rIxL K) (tVar 0) (tC (.int 0))) tNil)) (tVar 1)) (gName 3))
        (tSeq (tAsg (tOp rDivW (tOp (rIxL K) (tVar 0) (tC (.int 0))) (tVar 1)) (gSub (tVar 0) (tC (.int 0)) rSetL)) (tRet (tVar 3)))) { nx := fun _ H' => Q .non H', rt := Q } [some (.ref dk), some (.int b), x2, none] H := fun {d0 d1 sd d4 x2 H} o0 o1 o2 o3 o4 h s => by
    refine s1_var (e1_mod (j := b) (e1_intF (e1_ix (e1_var rfl) e1_int (at5 h) rfl)) (e1_var rfl) hb) ?_
    refine s1_ixS (j := 0) (e1_div (j := b) (e1_ix (e1_var rfl) e1_int (at5 h) rfl) (e1_var rfl) (divW hb (Nat.lt_of_lt_of_le (show b.natAbs < 2 ^ 30 by omega) (Nat.pow_le_pow_right (by omega) (by omega))))) rfl h rfl ?_
    refine ⟨_, rfl, k _ _ _ (p (d0 % b) (Int.emod_nonneg _ (by omega)) (Int.emod_lt_of_pos _ hb)) (up s) ⟨d0 / b, d1, sd, l, d4, ns, upd_same, ?_, Int.ediv_nonneg o0 (by omega), o1, o2, o3, o4⟩ (.int _)⟩
    exact (lis (up s)).seq hs
  have s0 : SameB (some dk) H0 H0 := .refl _ _
  unfold t_law_draw
  show tIfS _ _ _ { nx := _, rt := Q } [some (.ref dk), some (.int b), none, none] H0
  refine s1_ifA (b := decide (d0 = 0)) (c := decide (d1 < ((ns.map V.int).length : Int))) (e1_eq (e1_ix (e1_var rfl) e1_int (at5 hl) rfl) e1_int) (e1_lt (e1_ix (e1_var rfl) e1_int (at5 hl) rfl) (e1_len (e1_ix (e1_var rfl) e1_int (at5 hl) rfl) (sq s0))) (fun _ c => ?_) fun _ => ?_
  · have lt := of_decide_eq_true c
    rw [List.length_map] at lt
    obtain ⟨v, hv⟩ := get_some (l := ns) (i := d1.toNat) (by omega)
    have e1 : atI (ns.map V.int) d1 = some (.int v) := by
      have := atiN (xs := ns.map V.int) (n := d1.toNat) (x := .int v) (by rw [List.getElem?_map, hv]; rfl)
      rwa [Int.toNat_of_nonneg o1] at this
    refine s1_ixS (j := 0) (e1_abs (e1_ix (e1_ix (e1_var rfl) e1_int (at5 hl) rfl) (e1_ix (e1_var rfl) e1_int (at5 hl) rfl) (sq s0) e1)) rfl hl rfl ?_
    rw [abs_if]
    refine s1_ix (j := 1) (xs := dkV (v.natAbs : Int) d1 sd l d4) (e1_add (e1_ix (e1_var rfl) e1_int (SqL.of (by exact upd_same)) rfl) e1_int) rfl upd_same rfl ?_
    exact fin (by omega) (by omega) o2 o3 o4 upd_same (up (up s0))
  · refine s1_if (b := decide (d0 = 0)) (e1_eq (e1_ix (e1_var rfl) e1_int (at5 hl) rfl) e1_int) (fun _ => ?_) fun _ => fin o0 o1 o2 o3 o4 hl s0
    refine s1_ixS (j := 4) (e1_add (e1_ix (e1_var rfl) e1_int (at5 hl) rfl) e1_int) rfl hl rfl ?_
    have h1 : (upd H0 dk (.lst ((dkV d0 d1 sd l d4).set 4 (.int (d4 + 1))))) dk = some (.lst (dkV d0 d1 sd l (d4 + 1))) := upd_same
    have s1 := up (o := .lst ((dkV d0 d1 sd l d4).set 4 (.int (d4 + 1)))) s0
    generalize upd H0 dk (.lst ((dkV d0 d1 sd l d4).set 4 (.int (d4 + 1)))) = H1 at h1 s1 ⊢
    refine s1_var (e1_mod (e1_intF (e1_add (e1_add (e1_mul (e1_ix (e1_var rfl) e1_int (at5 h1) rfl) e1_int (mulS_r (by omega) (by omega))) (e1_mul (e1_ix (e1_var rfl) e1_int (at5 h1) rfl) e1_int (mulS_r (by omega) (by omega)))) e1_int)) e1_int (by omega)) ?_
    generalize hx : (sd * 48271 + (d4 + 1) * 69621 + 12345) % 2147483647 = x
    have x0 : 0 ≤ x := by omega
    have x1 : x < 2147483647 := by omega
    refine s1_var (e1_mod (e1_intF (e1_add (e1_add (e1_mul (i := x) (j := x) (e1_var rfl) (e1_var rfl) (mulS_r (by omega) (by omega))) (e1_mul e1_int (e1_ix (e1_var rfl) e1_int (at5 h1) rfl) (mulS_l (by omega) (by omega)))) e1_int)) e1_int (by omega)) ?_
    generalize hy : (x * x + 16807 * (d4 + 1) + 7) % 998244353 = y
    have y0 : 0 ≤ y := by omega
    have y1 : y < 998244353 := by omega
    refine s1_var (e1_mod (e1_intF (e1_add (e1_add (e1_mul (i := y) (j := y) (e1_var rfl) (e1_var rfl) (mulS_r (by omega) (by omega))) (e1_mul e1_int (e1_ix (e1_var rfl) e1_int (at5 h1) rfl) (mulS_l (by omega) (by omega)))) (e1_ix (e1_var rfl) e1_int (at5 h1) rfl))) e1_int (by omega)) ?_
    generalize hz : (y * y + 48271 * (d4 + 1) + sd) % 2147483629 = z
    have z0 : 0 ≤ z := by omega
    refine s1_ix (j := 0) (e1_div (i := z) (j := 13) (e1_var rfl) e1_int (divW (by omega) (Nat.lt_trans (show 13 < 2 ^ 4 by decide) (pow_lt (by omega))))) rfl h1 rfl ?_
    exact fin (Int.ediv_nonneg z0 (by omega)) o1 o2 o3 (by omega) upd_same (up s1)
end Pk

namespace Pk
open PySem PySem.Spec PyProof.Rows L2
abbrev oK (P : PD → Prop) : Outs := { nx := fun _ => P .none, rt := P, rl := fun es => P (.list es) }
section
variable {K : PySem.W.Frag} {ρ : Rho} {ta tb te : TE} {i : Nat}
theorem ev_draw {b : Int} (h : ρ[i]? = some (some .deck)) (hb : EvE K tb ρ (· = .int b)) (h0 : 0 < b) (h1 : b < 2 ^ 30) : EvE K (tCall (SpK K F_law_draw) [] E0 (tCons (tVar i) (tCons tb tNil))) ρ (IntP fun r => 0 ≤ r ∧ r < b) :=
  evk_call1 h (ea_one hb ea_nil) ⟨b, rfl, h0, h1, fun r a c => ⟨r, rfl, a, c⟩⟩
/-- drawn fractions -/
def DrP (d : PD) : Prop := ∃ q, d = fr q ∧ Sm0 q
theorem sm0_div {a b : Int} (ha : a.natAbs < 2 ^ 20) (h0 : 0 < b) (hb : b < 2 ^ 20) : Sm0 (Rat.divInt a b) := by
  have g0 := gcd_pos (a := a) h0
  refine ⟨?_, ?_⟩
  · rw [Rat.num_divInt, Int.sign_eq_one_of_pos h0, Int.one_mul]
    exact Nat.lt_of_le_of_lt (Int.natAbs_ediv_le_natAbs _ _) ha
  · rw [Rat.den_divInt, if_neg (by omega)]
    exact Nat.lt_of_le_of_lt (Nat.div_le_self _ _) (by omega)
theorem ev_frac {A B : Int → Prop} (ha : EvE K ta ρ (IntP A)) (hb : EvE K tb ρ (IntP B)) (hA : ∀ a, A a → a.natAbs < 2 ^ 20) (hB : ∀ b, B b → 0 < b ∧ b < 2 ^ 20) : EvE K (tCall (SpP K F_law_frac) [] E0 (tCons ta (tCons tb tNil))) ρ DrP :=
  ev_call (ea_cons ha fun _ _ => ea_cons hb fun _ _ => ea_nil) fun ds ⟨x, xs, e, ⟨a, e1, pa⟩, y, ys, e2, ⟨b, e3, pb⟩, e4⟩ => by
    subst e4 e3 e2 e1 e
    obtain ⟨b0, b1⟩ := hB b pb
    exact ⟨a, b, rfl, b0, Nat.lt_of_lt_of_le (show b.natAbs < 2 ^ 20 by omega) (Nat.pow_le_pow_right (by omega) (by omega)), _, rfl, sm0_div (hA a pa) b0 b1⟩
theorem ev_one_z : EvE K (tTup (tCons (tC (.int 0)) (tCons (tC (.int 1)) tNil))) ρ (· = fr 0) := ev_tup1 (ea_one ev_int (ea_one ev_int ea_nil))
theorem sm0_zero : Sm0 0 := ⟨by decide, by decide⟩
theorem sm0_one : Sm0 1 := ⟨by decide, by decide⟩
end
def F_law_item : FD := fun ds P => ds = [] ∧ ∀ q, Sm0 q → P (fr q)
theorem b_law_item {K : PySem.W.Frag} (ds : List PD) (P : PD → Prop) (h : F_law_item ds P) : RunS K (t_law_item K (SpK K F_law_draw) (SpP K F_law_frac)) (startR 2 (.deck :: ds.map .dat)) (oK P) := by
  obtain ⟨rfl, p⟩ := h
  have pd : ∀ d, DrP d → P d := fun d ⟨q, e, hq⟩ => by rw [e]; exact p q hq
  unfold t_law_item
  refine rs_set (ev_draw (b := 8) rfl ev_int (by omega) (by omega)) ?_
  rintro d ⟨r, rfl, r0, r1⟩
  refine rs_seq (fun ρ' => ρ' = [some .deck, some (.dat (.int r))]) (rs_if (et_anyB (ev_ltP (ev_toP (i := r) (ev_var rfl)) (ev_toP ev_int)) fun d ⟨i, j, _, _, e⟩ => ⟨_, e⟩) (fun _ => rs_ret ev_one_z fun d e => by rw [e]; exact p 0 sm0_zero) fun _ => rs_next rfl) ?_
  rintro ρ' rfl
  refine rs_seq (fun ρ' => ρ' = [some .deck, some (.dat (.int r))]) (rs_if (et_anyB (ev_eqP (ev_toP (i := r) (ev_var rfl)) (ev_toP ev_int)) fun d ⟨i, j, _, _, e⟩ => ⟨_, e⟩) (fun _ => ?_) fun _ => rs_next rfl) ?_
  · refine rs_ret (ev_frac (ev_subP (ev_draw (b := 1999999) rfl ev_int (by omega) (by omega)) (ev_toP ev_int)) (ev_addP (ev_toP ev_int) (ev_draw (b := 999999) rfl ev_int (by omega) (by omega))) ?_ ?_) pd
    · rintro a ⟨i, j, ⟨i0, i1⟩, rfl, rfl⟩; omega
    · rintro a ⟨i, j, rfl, ⟨i0, i1⟩, rfl⟩; omega
  rintro ρ' rfl
  refine rs_ret (ev_frac (ev_subP (ev_draw (b := 13) rfl ev_int (by omega) (by omega)) (ev_toP ev_int)) (ev_addP (ev_toP ev_int) (ev_draw (b := 4) rfl ev_int (by omega) (by omega))) ?_ ?_) pd
  · rintro a ⟨i, j, ⟨i0, i1⟩, rfl, rfl⟩; omega
  · rintro a ⟨i, j, rfl, ⟨i0, i1⟩, rfl⟩; omega
def F_law_degree : FD := fun ds P => ds = [] ∧ ∀ k : Nat, k ≤ 10 → P (.int (k : Int))
theorem b_law_degree {K : PySem.W.Frag} (ds : List PD) (P : PD → Prop) (h : F_law_degree ds P) : RunS K (t_law_degree K (SpK K F_law_draw)) (startR 1 (.deck :: ds.map .dat)) (oK P) := by
  obtain ⟨rfl, p⟩ := h
  have pi : ∀ r : Int, 0 ≤ r → r ≤ 10 → P (.int r) := fun r a b => by
    have := p r.toNat (by omega)
    rwa [Int.toNat_of_nonneg a] at this
  unfold t_law_degree
  refine rs_seq (fun ρ' => ρ' = [some .deck]) (rs_if (et_anyB (ev_eqP (ev_draw (b := 10) rfl ev_int (by omega) (by omega)) (ev_toP ev_int)) fun d ⟨i, j, _, _, e⟩ => ⟨_, e⟩) (fun _ => ?_) fun _ => rs_next rfl) ?_
  · refine rs_ret (ev_addP (ev_toP ev_int) (ev_draw (b := 6) rfl ev_int (by omega) (by omega))) ?_
    rintro d ⟨r, rfl, i, j, rfl, ⟨j0, j1⟩, rfl⟩
    exact pi _ (by omega) (by omega)
  · rintro ρ' rfl
    refine rs_ret (ev_draw (b := 5) rfl ev_int (by omega) (by omega)) ?_
    rintro d ⟨r, rfl, r0, r1⟩
    exact pi _ (by omega) (by omega)
/-! ### the places are told -/
theorem ev_is {K : PySem.W.Frag} {ρ : Rho} {ta tb : TE} {d : PD} (ha : EvE K ta ρ (· = d)) (hb : EvE K tb ρ (· = d)) (g : Gd 10 16000000 d) (k : (∃ xs, d = .list xs) ∨ ∃ xs, d = .tuple xs) : EvE K (tCall (SpP K F_law_is) [] E0 (tCons ta (tCons tb tNil))) ρ (· = .bool true) :=
  ev_call1 (ea_one ha (ea_one hb ea_nil)) ⟨d, rfl, g, k, rfl⟩
theorem et_is {K : PySem.W.Frag} {ρ : Rho} {ta tb : TE} {d : PD} (ha : EvE K ta ρ (· = d)) (hb : EvE K tb ρ (· = d)) (g : Gd 10 16000000 d) (k : (∃ xs, d = .list xs) ∨ ∃ xs, d = .tuple xs) : EvT K (tNot (tB (tCall (SpP K F_law_is) [] E0 (tCons ta (tCons tb tNil))))) ρ (· = false) :=
  (et_not1 (et_B1 (ev_is ha hb g k))).imp fun b e => e
/-- if not ..: return False, which does not come -/
theorem rs_check {K : PySem.W.Frag} {ρ : Rho} {tt : TT} {O : Outs} {t u : TS} (h : EvT K tt ρ (· = false)) (k : RunS K u ρ O) : RunS K (tSeq (tIfS tt t tNext) u) ρ O :=
  rs_seq (· = ρ) (rs_if h (fun z => by cases z) fun _ => rs_next rfl) fun ρ' e => by rw [e]; exact k
theorem rs_check_ {K : PySem.W.Frag} {ρ : Rho} {tt : TT} {O : Outs} {t : TS} (h : EvT K tt ρ (· = false)) (k : O.nx ρ) : RunS K (tIfS tt t tNext) ρ O :=
  rs_if h (fun z => by cases z) fun _ => rs_next k
def F_law_is_placed : FD := fun ds P => ∃ n d : Nat, ds = [.int (n : Int), .int (d : Int)] ∧ (n = 2 ∨ n = 3) ∧ d ≤ 10 ∧ P (.bool true)
theorem pl_pos {n d : Nat} (hn : n = 2 ∨ n = 3) : 0 < (pl n d).length := by
  rcases hn with rfl | rfl
  · rw [pl2, List.length_map, List.length_range]; omega
  · rw [pl3]
    refine List.length_pos_iff.mpr fun z => ?_
    have h : [(d : Int) - (0 : Nat), ((0 : Nat) : Int) - (0 : Nat), ((0 : Nat) : Int)] ∈ (List.range (d + 1)).flatMap (row3 d) := List.mem_flatMap.mpr ⟨0, List.mem_range.mpr (by omega), List.mem_map.mpr ⟨0, List.mem_range.mpr (by omega), rfl⟩⟩
    rw [z] at h
    cases h
theorem b_law_is_placed {K : PySem.W.Frag} (ds : List PD) (P : PD → Prop) (h : F_law_is_placed ds P) : RunS K (t_law_is_placed K (SpL K F_law_places) (SpK K F_law_draw) (SpP K F_law_is) (SpL K F_law_places)) (startR 5 (.deck :: ds.map .dat)) (oK P) := by
  obtain ⟨n, d, rfl, hn, hd, p⟩ := h
  have hn3 : 2 ≤ n ∧ n ≤ 3 := by rcases hn with h | h <;> omega
  have g := (pl_gd hn (d := d) (by omega)).mono (h' := 10) (c' := 16000000) (by omega) (by omega)
  have le := pl_len hn (d := d) (by omega)
  have ps := pl_pos hn (d := d)
  unfold t_law_is_placed
  refine rs_set1 (d := .list ((pl n d).map tupI)) (ev_places (el_places (ev_var rfl) (ev_var rfl) hn (by omega))) ?_
  refine rs_setL1 (ds := (pl n d).map tupI) (el_places (ev_var rfl) (ev_var rfl) hn (by omega)) ?_
  refine rs_check (et_froz (ρ' := [none, some (.dat (.int (n : Int))), some (.dat (.int (d : Int))), some (.dat (.list ((pl n d).map tupI))), some (.dat (.list ((pl n d).map tupI)))]) (Frz.none (.dat (.dat (.dat (.own .nil))))) (et_is (ev_var rfl) (ev_var rfl) g (.inl ⟨_, rfl⟩))) ?_
  have z2 : ∀ x : Int, EvE K (tOp (rRepT K) (tTup (tCons (tC (.int x)) tNil)) (tVar 1)) ([some .deck, some (.dat (.int (n : Int))), some (.dat (.int (d : Int))), some (.dat (.list ((pl n d).map tupI))), some (.own ((pl n d).map tupI))] : Rho) fun _ => True := fun x =>
    (ev_repT (i := (n : Int)) (ev_tup1 (ea_one ev_int ea_nil)) (ev_var rfl) (by simp) (by omega) (by omega) (by simp only [List.length_cons, List.length_nil]; omega)).imp fun _ _ => trivial
  refine rs_seq (fun ρ' => ∃ es : List PD, es.length ≤ 500 ∧ ρ' = [some .deck, some (.dat (.int (n : Int))), some (.dat (.int (d : Int))), some (.dat (.list ((pl n d).map tupI))), some (.own es)]) (rs_setIxP (i := 4) rfl (z2 0) (ev_draw (b := ((pl n d).map tupI).length) rfl (ev_ownLen rfl) (by rw [List.length_map]; omega) (by rw [List.length_map]; omega)) (fun r h => h) fun w j _ hj => ⟨_, by rw [List.length_set, List.length_map]; omega, rfl⟩) ?_
  rintro ρ' ⟨es, hes, rfl⟩
  refine rs_seq (fun ρ' => ∃ es : List PD, ρ' = [some .deck, some (.dat (.int (n : Int))), some (.dat (.int (d : Int))), some (.dat (.list ((pl n d).map tupI))), some (.own es)]) (rs_app (i := 4) rfl (by omega) ((ev_repT (i := (n : Int)) (ev_tup1 (ea_one ev_int ea_nil)) (ev_var rfl) (by simp) (by omega) (by omega) (by simp only [List.length_cons, List.length_nil]; omega)).imp fun _ _ => trivial) fun w _ => ⟨_, rfl⟩) ?_
  rintro ρ' ⟨es2, rfl⟩
  exact rs_ret (ev_is (d := .list ((pl n d).map tupI)) (ev_places (el_places (ev_var rfl) (ev_var rfl) hn (by omega))) (ev_var rfl) g (.inl ⟨_, rfl⟩)) fun w e => by rw [e]; exact p
end Pk

namespace Pk
open PySem PySem.Spec PyProof.Rows L2
/-- a drawn form -/
def DrL (L : Nat) (d : PD) : Prop := ∃ qs : List Rat, d = frs qs ∧ qs.length = L ∧ ∀ q ∈ qs, Sm0 q
theorem dr_list : ∀ {ys : List PD}, (∀ y ∈ ys, DrP y) → ∃ qs : List Rat, ys = qs.map fr ∧ ∀ q ∈ qs, Sm0 q
  | [], _ => ⟨[], rfl, fun _ h => nomatch h⟩
  | y :: ys, h => by
    obtain ⟨q, e, hq⟩ := h y List.mem_cons_self
    obtain ⟨qs, e2, h2⟩ := dr_list fun z hz => h z (List.mem_cons_of_mem _ hz)
    exact ⟨q :: qs, by rw [e, e2]; rfl, fun z hz => by
      rcases List.mem_cons.mp hz with rfl | hz
      · exact hq
      · exact h2 z hz⟩
section
variable {K : PySem.W.Frag} {ρ : Rho} {ta tb te : TE} {i : Nat}
theorem ev_item (h : ρ[i]? = some (some .deck)) : EvE K (tCall (SpK K F_law_item) [] E0 (tCons (tVar i) tNil)) ρ DrP := evk_call1 h ea_nil ⟨rfl, fun q hq => ⟨q, rfl, hq⟩⟩
/-- [item(deck) for g in ..] -/
theorem ev_items {wi : TI} {j : Nat} {xs : List PD} (h : EvI K wi ρ (· = xs)) (hd : ((wipeR ρ [j]).set j none)[i]? = some (some .deck)) (hij : j ≠ i) (hl : xs.length ≤ 441) : EvE K (tLc wi (gName j) tYes (tCall (SpK K F_law_item) [] E0 (tCons (tVar i) tNil)) [j]) ρ (DrL xs.length) := by
  refine (EvL.dat (el_mapP DrP h (by omega) fun k d _ => ⟨_, _, by simp, bg_name, ev_item ?_⟩)).imp fun d ⟨ys, e, hl2, hy⟩ => ?_
  · rw [getset, if_neg hij] at hd ⊢
    exact hd
  · obtain ⟨qs, e2, hq⟩ := dr_list hy
    exact ⟨qs, by rw [e, e2], by rw [← hl2, e2, List.length_map], hq⟩
theorem gd_frs {qs : List Rat} (h : ∀ q ∈ qs, Sm q) (hl : qs.length ≤ 441) : Gd 2 3600000 (frs qs) := (Gd.frs h).mono (Nat.le_refl _) (by omega)
theorem gd_lst {xs : List PD} (h : ∀ x ∈ xs, Gd 2 3600000 x) (hl : xs.length ≤ 3) : Gd 10 16000000 (.list xs) := (Gd.list h).mono (by omega) (by
  have : (3600000 + 2) * xs.length ≤ (3600000 + 2) * 3 := Nat.mul_le_mul_left _ hl
  omega)
theorem sm0_all {qs : List Rat} (h : ∀ q ∈ qs, Sm0 q) : ∀ q ∈ qs, Sm q := fun q hq => (h q hq).sm
theorem sm_add {x y : Rat} (h : Sm0 x) (h' : Sm0 y) : Sm (x + y) := by
  have i1 : In (x.den * y.den) (2 ^ 20 * y.den) x := (In.self (Nat.le_of_lt h.1)).lift y.den_pos
  have i2 : In (x.den * y.den) (2 ^ 20 * x.den) y := by
    have := (In.self (Nat.le_of_lt h'.1)).lift x.den_pos
    rwa [Nat.mul_comm y.den] at this
  have b : ∀ z : Nat, z < 2 ^ 20 → 2 ^ 20 * z ≤ 2 ^ 40 := fun z hz => Nat.le_trans (Nat.mul_le_mul_left _ (Nat.le_of_lt hz)) (by decide)
  refine (i1.add i2).sm ?_ ?_
  · refine Nat.lt_of_le_of_lt (Nat.mul_le_mul (Nat.le_of_lt h.2) (Nat.le_of_lt h'.2)) ?_
    rw [← Nat.pow_add]
    exact pow_lt (by omega)
  · refine Nat.lt_of_le_of_lt (Nat.add_le_add (b _ h'.2) (b _ h.2)) (Nat.lt_of_lt_of_le (show 2 ^ 40 + 2 ^ 40 < 2 ^ 42 by decide) (Nat.pow_le_pow_right (by omega) (by omega)))
theorem sm_mul {x y : Rat} (h : Sm0 x) (h' : Sm0 y) : Sm (x * y) := by
  refine ((In.self (Nat.le_of_lt h.1)).mul (In.self (Nat.le_of_lt h'.1))).sm ?_ ?_
  · refine Nat.lt_of_le_of_lt (Nat.mul_le_mul (Nat.le_of_lt h.2) (Nat.le_of_lt h'.2)) ?_
    rw [← Nat.pow_add]
    exact pow_lt (by omega)
  · rw [← Nat.pow_add]
    exact pow_lt (by omega)
theorem sumF_comm : ∀ xs ys : List Rat, sumF xs ys = sumF ys xs
  | [], ys => by cases ys <;> rfl
  | x :: xs, [] => rfl
  | x :: xs, y :: ys => by
    show (x + y) :: sumF xs ys = (y + x) :: sumF ys xs
    rw [sumF_comm xs ys, Rat.add_comm]
theorem sumF_mem : ∀ {xs ys : List Rat} {z : Rat}, z ∈ sumF xs ys → ∃ x ∈ xs, ∃ y ∈ ys, z = x + y
  | [], _, _, h => by cases h
  | x :: xs, [], _, h => by cases h
  | x :: xs, y :: ys, z, h => by
    have h : z ∈ (x + y) :: sumF xs ys := h
    rcases List.mem_cons.mp h with rfl | h
    · exact ⟨x, List.mem_cons_self, y, List.mem_cons_self, rfl⟩
    · obtain ⟨a, ha, b, hb, e⟩ := sumF_mem h
      exact ⟨a, List.mem_cons_of_mem _ ha, b, List.mem_cons_of_mem _ hb, e⟩
theorem sumF_sm {xs ys : List Rat} (hx : ∀ x ∈ xs, Sm0 x) (hy : ∀ y ∈ ys, Sm0 y) : ∀ z ∈ sumF xs ys, Sm z := fun z hz => by
  obtain ⟨x, a, y, b, rfl⟩ := sumF_mem hz
  exact sm_add (hx x a) (hy y b)
theorem sumF_neg : ∀ xs : List Rat, sumF xs (xs.map fun q => -q) = xs.map fun _ => 0
  | [] => rfl
  | x :: xs => by
    show (x + -x) :: sumF xs _ = 0 :: xs.map fun _ => 0
    rw [sumF_neg xs, Rat.add_neg_cancel]
theorem zero_times (xs : List Rat) : xs.map (fun q => (0 : Rat) * q) = xs.map fun _ => 0 := List.map_congr_left fun q _ => Rat.zero_mul q
theorem fr_neg (q : Rat) : fr (-q) = .tuple [.int (-q.num), .int (q.den : Int)] := rfl
theorem sm0_neg {q : Rat} (h : Sm0 q) : Sm0 (-q) := ⟨by show (-q.num).natAbs < _; rw [Int.natAbs_neg]; exact h.1, h.2⟩
/-- [e, f][n], data -/
theorem ev_ixLP {Pa P : PD → Prop} {A : Int → Prop} (ha : EvE K ta ρ Pa) (hb : EvE K tb ρ (IntP A)) (h : ∀ x i, Pa x → A i → ∃ ds d, x = .list ds ∧ atI ds i = some d ∧ P d) : EvE K (tOp (rIxL K) ta tb) ρ P :=
  ev_op ha (fun _ _ => hb) fun x y px ⟨i, e, ai⟩ S H v u Q own h1 h2 k => by
    subst e
    obtain ⟨ds, d, rfl, hd, pd⟩ := h x i px ai
    obtain ⟨a, xs, rfl, hs, hx⟩ := dp_toLst h1
    obtain ⟨z, e1, e2⟩ := atI_dp hx hd
    exact ⟨a, xs, i, z, rfl, dp_toInt h2, (hid_le S H).seq hs, e1, k d z H pd (fun _ _ z => z) e2⟩
theorem ev_callL {F : FL} {tr : TA} {ds es : List PD} (ha : EvA K tr ρ (· = ds)) (hf : F ds (· = es)) : EvL K (tCall (SpL K F) [] E0 tr) ρ (· = es) := el_call1 ha hf
theorem el_sumF {xs ys : List Rat} (ha : EvE K ta ρ (· = frs xs)) (hb : EvE K tb ρ (· = frs ys)) (hl : xs.length = ys.length) (hb2 : xs.length ≤ 441) (hx : ∀ x ∈ xs, Sm x) (hy : ∀ y ∈ ys, Sm y) : EvL K (tCall (SpL K F_form_sum) [] E0 (tCons ta (tCons tb tNil))) ρ (· = (sumF xs ys).map fr) :=
  el_call1 (ea_one ha (ea_one hb ea_nil)) ⟨xs, ys, rfl, hl, by omega, hx, hy, rfl⟩
theorem el_timesF {x : Rat} {xs : List Rat} (ha : EvE K ta ρ (· = fr x)) (hb : EvE K tb ρ (· = frs xs)) (hl : xs.length ≤ 441) (h0 : Sm x) (hx : ∀ x ∈ xs, Sm x) : EvL K (tCall (SpL K F_form_times) [] E0 (tCons ta (tCons tb tNil))) ρ (· = (xs.map (x * ·)).map fr) :=
  el_call1 (ea_one ha (ea_one hb ea_nil)) ⟨x, xs, rfl, by omega, h0, hx, rfl⟩
/-- [(0, 1) for g in xs] -/
theorem el_zeros {j : Nat} {xs : List Rat} (h : EvE K ta ρ (· = frs xs)) (hl : xs.length ≤ 441) : EvL K (tLc (iList K ta) (gName j) tYes (tTup (tCons (tC (.int 0)) (tCons (tC (.int 1)) tNil))) [j]) ρ (· = (xs.map fun _ => (0 : Rat)).map fr) :=
  el_map _ (ei_list1 h) (by rw [List.length_map, List.length_map, List.length_map]) (by rw [List.length_map, List.length_map]; omega) fun k z y hz hy => by
    obtain ⟨w, g, rfl⟩ := map_get hy
    obtain ⟨v, _, rfl⟩ := map_get g
    exact ⟨_, _, by simp, bg_name, ev_one_z⟩
theorem ev_77 : EvE K (tTup (tCons (tC (.int 77)) (tCons (tC (.int 1)) tNil))) ρ fun _ => True := (ev_tup1 (ea_one ev_int (ea_one ev_int ea_nil))).imp fun _ _ => trivial
theorem ev_lst2 {x y : PD} (ha : EvE K ta ρ (· = x)) (hb : EvE K tb ρ (· = y)) : EvE K (tLst (tCons ta (tCons tb tNil))) ρ (· = .list [x, y]) := EvL.datE (el_lst1 (ea_one ha (ea_one hb ea_nil)))
theorem ev_lst3 {tc : TE} {x y z : PD} (ha : EvE K ta ρ (· = x)) (hb : EvE K tb ρ (· = y)) (hc : EvE K tc ρ (· = z)) : EvE K (tLst (tCons ta (tCons tb (tCons tc tNil)))) ρ (· = .list [x, y, z]) := EvL.datE (el_lst1 (ea_one ha (ea_one hb (ea_one hc ea_nil))))
theorem gd_two {x y : PD} (h1 : Gd 2 3600000 x) (h2 : Gd 2 3600000 y) : Gd 10 16000000 (.list [x, y]) := gd_lst (fun z hz => by
  simp only [List.mem_cons, List.not_mem_nil, or_false] at hz
  rcases hz with rfl | rfl <;> assumption) (by simp)
theorem gd_three {x y z : PD} (h1 : Gd 2 3600000 x) (h2 : Gd 2 3600000 y) (h3 : Gd 2 3600000 z) : Gd 10 16000000 (.list [x, y, z]) := gd_lst (fun w hw => by
  simp only [List.mem_cons, List.not_mem_nil, or_false] at hw
  rcases hw with rfl | rfl | rfl <;> assumption) (by simp)
theorem zeros_sm (xs : List Rat) : ∀ q ∈ xs.map (fun _ => (0 : Rat)), Sm q := fun q hq => by
  obtain ⟨_, _, rfl⟩ := List.mem_map.mp hq
  exact Sm.zero
end
def F_law_is_summed : FD := F_law_is_placed
theorem b_law_is_summed {K : PySem.W.Frag} (ds : List PD) (P : PD → Prop) (h : F_law_is_summed ds P) : RunS K (t_law_is_summed K (SpL K F_form_sum) (SpL K F_form_times) (SpK K F_law_draw) (SpP K F_law_is) (SpP K F_plus) (SpP K F_times) (SpL K F_law_places) (SpK K F_law_item)) (startR 15 (.deck :: ds.map .dat)) (oK P) := by
  obtain ⟨n, d, rfl, hn, hd, p⟩ := h
  have le := pl_len hn (d := d) (by omega)
  have ps := pl_pos hn (d := d)
  have gp := ps
  generalize hL : (pl n d).length = L at le ps
  unfold t_law_is_summed
  -- first, second, x
  refine rs_set (P := DrL L) ((ev_items (i := 0) (j := 4) (ei_list1 (xs := (pl n d).map tupI) (ev_places (el_places (ev_var rfl) (ev_var rfl) hn (by omega)))) rfl (by omega) (by rw [List.length_map]; omega)).imp fun w h => by rw [List.length_map, hL] at h; exact h) ?_
  rintro _ ⟨fs, rfl, fl, hf⟩
  refine rs_set (P := DrL L) ((ev_items (i := 0) (j := 4) (ei_list1 (xs := fs.map fr) (ev_var rfl)) rfl (by omega) (by rw [List.length_map]; omega)).imp fun w h => by rw [List.length_map, fl] at h; exact h) ?_
  rintro _ ⟨ss, rfl, sl, hs⟩
  refine rs_set (P := DrP) (ev_ixLP (EvL.dat (el_lst (ea_cons (ev_item rfl) fun _ _ => ea_one (ev_tup1 (xs := [.int 1, .int 1]) (ea_one ev_int (ea_one ev_int ea_nil))) ea_nil) fun xs ⟨a, b, e, _, e2⟩ => by rw [e, e2]; simp)) (ev_intBP (ev_eqP (ev_draw (b := 3) rfl ev_int (by omega) (by omega)) (ev_toP ev_int)) fun d ⟨_, _, _, _, e⟩ => ⟨_, e⟩) ?_) ?_
  · rintro x i ⟨ds, rfl, a, b, rfl, pa, rfl⟩ hi
    rcases hi with rfl | rfl
    · exact ⟨_, a, rfl, ati0, pa⟩
    · exact ⟨_, fr 1, rfl, ati1, 1, rfl, sm0_one⟩
  rintro _ ⟨x, rfl, hx⟩
  refine rs_seq (fun ρ' => ∃ ss : List Rat, ∃ x7 : Option Ent, ss.length = L ∧ (∀ q ∈ ss, Sm0 q) ∧ ρ' = [some .deck, some (.dat (.int (n : Int))), some (.dat (.int (d : Int))), some (.dat (frs fs)), none, some (.dat (frs ss)), some (.dat (fr x)), x7, none, none, none, none, none, none, none]) (rs_if (et_anyB (ev_eqP (ev_draw (b := 5) rfl ev_int (by omega) (by omega)) (ev_toP ev_int)) fun d ⟨_, _, _, _, e⟩ => ⟨_, e⟩) (fun _ => rs_asg (EvL.datE (el_zeros (xs := fs) (ev_var rfl) (by omega))) fun w e => ⟨fs.map fun _ => 0, none, by rw [List.length_map]; exact fl, fun q hq => by obtain ⟨_, _, rfl⟩ := List.mem_map.mp hq; exact sm0_zero, by rw [e]; rfl⟩) fun _ => rs_next ⟨ss, none, sl, hs, rfl⟩) ?_
  clear sl hs ss
  rintro ρ' ⟨ss, x7, sl, hs, rfl⟩
  have lfs : fs.length = ss.length := by omega
  have hfS := sm0_all hf
  have hsS := sm0_all hs
  have sumS := sumF_sm hf hs
  have suml : (sumF fs ss).length ≤ 441 := by unfold sumF; rw [List.length_zipWith]; omega
  have suml2 : (sumF fs ss).length = L := by unfold sumF; rw [List.length_zipWith]; omega
  have gf := gd_frs hfS (by omega)
  have gs := gd_frs hsS (by omega)
  refine rs_set1 (d := frs (sumF fs ss)) (EvL.datE (el_map _ (r_range (n := L) (ev_lenL (ds := fs.map fr) (ev_var rfl)) (by rw [List.length_map, fl]) (by omega)) (by rw [rangeD_len, List.length_map, suml2]) (by rw [List.length_map]; omega) ?_)) ?_
  · intro i z y hz hy
    obtain ⟨hi, rfl⟩ := range01_get hz
    obtain ⟨w, g3, rfl⟩ := map_get hy
    obtain ⟨a, ga⟩ := get_some (l := fs) (i := i) (by omega)
    obtain ⟨b, gb⟩ := get_some (l := ss) (i := i) (by omega)
    unfold sumF at g3
    rw [List.getElem?_zipWith, ga, gb] at g3
    cases g3
    exact ⟨_, _, (by decide), bg_name, ev_call_plus (ev_ixL (ds := fs.map fr) (i := (i : Int)) (ev_var rfl) (ev_var rfl) (atiN (by rw [List.getElem?_map, ga]; rfl))) (ev_ixL (ds := ss.map fr) (i := (i : Int)) (ev_var rfl) (ev_var rfl) (atiN (by rw [List.getElem?_map, gb]; rfl))) (hfS a (mem_get ga)) (hsS b (mem_get gb))⟩
  refine rs_par1 (a := frs fs) (b := frs ss) (ea_one (EvL.datE (el_listL (ev_var rfl))) (ea_one (EvL.datE (el_listL (ev_var rfl))) ea_nil)) ?_
  refine rs_seq (fun ρ' => ∃ x7 x12 x13, ρ' = [some .deck, some (.dat (.int (n : Int))), some (.dat (.int (d : Int))), some (.dat (frs fs)), none, some (.dat (frs ss)), some (.dat (fr x)), x7, some (.dat (frs (sumF fs ss))), none, some (.dat (frs fs)), some (.dat (frs ss)), x12, x13, none]) (rs_for1 (ei_range (j := 2) ev_int) (fun i ρ' => ∃ x12 x13, ρ' = [some .deck, some (.dat (.int (n : Int))), some (.dat (.int (d : Int))), some (.dat (frs fs)), none, some (.dat (frs ss)), some (.dat (fr x)), x7, some (.dat (frs (sumF fs ss))), none, some (.dat (frs fs)), some (.dat (frs ss)), x12, x13, none]) ⟨none, none, rfl⟩ ?_ fun ρ' ⟨x12, x13, e⟩ => ⟨x7, x12, x13, e⟩) ?_
  · rintro i z ρ' hz ⟨x12, x13, rfl⟩
    obtain ⟨hi, rfl⟩ := range01_get hz
    have hi : i < 2 := hi
    refine ⟨_, _, bg_name, rs_setL (P := (· = (sumF fs ss).map fr)) ((el_pick (A := (· = (i : Int))) (el_sumF (xs := fs) (ys := ss) (ev_var rfl) (ev_var rfl) lfs (by omega) hfS hsS) (el_sumF (xs := ss) (ys := fs) (ev_var rfl) (ev_var rfl) lfs.symm (by omega) hsS hfS) (ev_toP (ev_var rfl)) (fun j e => by omega)).imp fun w h => ?_) ?_⟩
    · rcases h with ⟨_, e⟩ | ⟨_, e⟩
      · exact e
      · rw [e, sumF_comm]
    rintro _ rfl
    refine rs_check (et_froz (ρ' := [none, none, none, none, none, none, none, none, some (.dat (frs (sumF fs ss))), none, none, none, none, some (.dat (frs (sumF fs ss))), none]) (.none (.none (.none (.none (.none (.none (.none (.none (.dat (.none (.none (.none (.none (.own (.none .nil))))))))))))))) (et_is (ev_var rfl) (ev_var rfl) ((gd_frs sumS suml).mono (by omega) (by omega)) (.inl ⟨_, rfl⟩))) ?_
    refine rs_seq (fun ρ' => ∃ x12 x13, ρ' = [some .deck, some (.dat (.int (n : Int))), some (.dat (.int (d : Int))), some (.dat (frs fs)), none, some (.dat (frs ss)), some (.dat (fr x)), x7, some (.dat (frs (sumF fs ss))), none, some (.dat (frs fs)), some (.dat (frs ss)), x12, x13, none]) (rs_setIxP (i := 13) rfl ev_77 (ev_draw (b := ((sumF fs ss).map fr).length) rfl (ev_ownLen rfl) (by rw [List.length_map]; omega) (by rw [List.length_map]; omega)) (fun r h => h) fun w j _ hj => ⟨_, _, rfl⟩) ?_
    rintro ρ' ⟨x12, x13, rfl⟩
    exact rs_check_ (et_is (ev_lst2 (ev_var rfl) (ev_var rfl)) (ev_lst2 (ev_var rfl) (ev_var rfl)) (gd_two gf gs) (.inl ⟨_, rfl⟩)) ⟨x12, x13, rfl⟩
  clear x7
  rintro ρ' ⟨x7, x12, x13, rfl⟩
  have tmS : ∀ z ∈ fs.map (x * ·), Sm z := fun z hz => by
    obtain ⟨q, hq, rfl⟩ := List.mem_map.mp hz
    exact sm_mul hx (hf q hq)
  refine rs_set1 (d := frs (fs.map (x * ·))) (EvL.datE (el_map _ (ei_list1 (xs := fs.map fr) (ev_var rfl)) (by rw [List.length_map, List.length_map, List.length_map]) (by rw [List.length_map, List.length_map]; omega) ?_)) ?_
  · intro i z y hz hy
    obtain ⟨q, g1, rfl⟩ := map_get hz
    obtain ⟨w, g2, rfl⟩ := map_get hy
    obtain ⟨q', g3, rfl⟩ := map_get g2
    rw [g1] at g3
    cases g3
    exact ⟨_, _, (by decide), bg_name, ev_call_times (ev_var rfl) (ev_var rfl) hx.sm (hfS _ (mem_get g1))⟩
  refine rs_setL1 (ds := (fs.map (x * ·)).map fr) (el_timesF (ev_var rfl) (ev_var rfl) (by omega) hx.sm hfS) ?_
  refine rs_check (et_froz (ρ' := [none, none, none, some (.dat (frs fs)), none, none, none, none, some (.dat (frs (fs.map (x * ·)))), none, some (.dat (frs fs)), none, none, some (.dat (frs (fs.map (x * ·)))), none]) (.none (.none (.none (.dat (.none (.none (.none (.none (.dat (.none (.dat (.none (.none (.own (.none .nil)))))))))))))))
    (et_is (d := .list [frs (fs.map (x * ·)), frs (fs.map fun _ => 0)]) (ev_lst2 (ev_var rfl) (EvL.datE ((el_timesF (x := 0) (xs := fs) ev_one_z (ev_var rfl) (by omega) Sm.zero hfS).imp fun w e => by rw [e, zero_times]))) (ev_lst2 (ev_var rfl) (EvL.datE (el_zeros (xs := fs) (ev_var rfl) (by omega)))) (gd_two (gd_frs tmS (by rw [List.length_map]; omega)) (gd_frs (zeros_sm fs) (by rw [List.length_map]; omega))) (.inl ⟨_, rfl⟩))) ?_
  refine rs_seq (fun ρ' => ∃ x13, ρ' = [some .deck, some (.dat (.int (n : Int))), some (.dat (.int (d : Int))), some (.dat (frs fs)), none, some (.dat (frs ss)), some (.dat (fr x)), x7, some (.dat (frs (fs.map (x * ·)))), none, some (.dat (frs fs)), some (.dat (frs ss)), x12, x13, none]) (rs_setIxP (i := 13) rfl ev_77 (ev_draw (b := ((fs.map (x * ·)).map fr).length) rfl (ev_ownLen rfl) (by rw [List.length_map, List.length_map]; omega) (by rw [List.length_map, List.length_map]; omega)) (fun r h => h) fun w j _ hj => ⟨_, rfl⟩) ?_
  rintro ρ' ⟨x13', rfl⟩
  refine rs_check (et_is (ev_lst2 (ev_var rfl) (ev_var rfl)) (ev_lst2 (ev_var rfl) (ev_var rfl)) (gd_two gf gs) (.inl ⟨_, rfl⟩)) ?_
  refine rs_set1 (d := frs (fs.map fun q => -q)) (EvL.datE (el_map _ (ei_list1 (xs := fs.map fr) (ev_var rfl)) (by rw [List.length_map, List.length_map, List.length_map]) (by rw [List.length_map, List.length_map]; omega) ?_)) ?_
  · intro i z y hz hy
    obtain ⟨q, g1, rfl⟩ := map_get hz
    obtain ⟨w, g2, rfl⟩ := map_get hy
    obtain ⟨q', g3, rfl⟩ := map_get g2
    rw [g1] at g3
    cases g3
    refine ⟨_, _, (by decide), bg_name, ?_⟩
    rw [fr_neg]
    exact ev_tup1 (ea_one (ev_neg (ev_frN (x := q) (ev_var rfl))) (ea_one (ev_frD (x := q) (ev_var rfl)) ea_nil))
  refine rs_ret (ev_andV (a := true) (b := true) (ev_is (d := frs (fs.map fun _ => 0)) (EvL.datE ((el_sumF (xs := fs) (ys := fs.map fun q => -q) (ev_var rfl) (ev_var rfl) (by rw [List.length_map]) (by omega) hfS fun y hy => ?_).imp fun w e => by rw [e, sumF_neg])) (EvL.datE (el_zeros (xs := fs) (ev_var rfl) (by omega))) ((gd_frs (zeros_sm fs) (by rw [List.length_map]; omega)).mono (by omega) (by omega)) (.inl ⟨_, rfl⟩)) fun _ => ev_is (ev_var rfl) (ev_var rfl) (gf.mono (by omega) (by omega)) (.inl ⟨_, rfl⟩)) fun w e => by rw [e]; exact p
  obtain ⟨q, hq, rfl⟩ := List.mem_map.mp hy
  exact (sm0_neg (hf q hq)).sm
end Pk

namespace Pk
open PySem PySem.Spec PyProof.Rows L2
/-! ### worths of products -/
theorem mono_nil (xs : List Rat) : mono xs [] = 1 := by cases xs <;> rfl
theorem pow_add' (x : Rat) (a b : Nat) : x ^ (a + b) = x ^ a * x ^ b := by
  induction b with
  | zero => rw [Nat.add_zero, Rat.pow_zero, Rat.mul_one]
  | succ b ih => rw [← Nat.add_assoc, Rat.pow_succ, Rat.pow_succ, ih, Rat.mul_assoc]
theorem mono_add : ∀ {xs : List Rat} {p q : List Int}, p.length = q.length → (∀ z ∈ p, 0 ≤ z) → (∀ z ∈ q, 0 ≤ z) → mono xs (toN (addP p q)) = mono xs (toN p) * mono xs (toN q)
  | xs, [], [], _, _, _ => by
    show mono xs [] = mono xs [] * mono xs []
    rw [mono_nil, Rat.one_mul]
  | [], x :: p, y :: q, _, _, _ => by
    show (1 : Rat) = 1 * 1
    rw [Rat.one_mul]
  | w :: ws, x :: p, y :: q, hl, hp, hq => by
    have ih := mono_add (xs := ws) (p := p) (q := q) (by simpa using hl) (fun z hz => hp z (List.mem_cons_of_mem _ hz)) fun z hz => hq z (List.mem_cons_of_mem _ hz)
    have x0 := hp x List.mem_cons_self
    have y0 := hq y List.mem_cons_self
    show w ^ (x + y).toNat * mono ws (toN (addP p q)) = (w ^ x.toNat * mono ws (toN p)) * (w ^ y.toNat * mono ws (toN q))
    have e : (x + y).toNat = x.toNat + y.toNat := by omega
    rw [ih, e, pow_add']
    grind
def sumQ : List Rat → Rat
  | [] => 0
  | x :: xs => x + sumQ xs
theorem sumQ_eq : ∀ xs : List Rat, xs.sum = sumQ xs
  | [] => rfl
  | x :: xs => by rw [List.sum_cons, sumQ_eq xs]; rfl
theorem sumQ_add {α : Type} (f g : α → Rat) : ∀ L : List α, sumQ (L.map fun t => f t + g t) = sumQ (L.map f) + sumQ (L.map g)
  | [] => by simp only [List.map_nil, sumQ]; grind
  | x :: xs => by simp only [List.map_cons, sumQ]; rw [sumQ_add f g xs]; grind
theorem sumQ_zero {α : Type} (f : α → Rat) : ∀ L : List α, (∀ t ∈ L, f t = 0) → sumQ (L.map f) = 0
  | [], _ => rfl
  | x :: xs, h => by
    simp only [List.map_cons, sumQ]
    rw [h x List.mem_cons_self, sumQ_zero f xs fun t ht => h t (List.mem_cons_of_mem _ ht)]
    grind
theorem sumQ_one {u : List Int} (v : Rat) (m : List Int → Rat) : ∀ {L : List (List Int)}, L.Nodup → u ∈ L → sumQ (L.map fun t => (if u = t then v else 0) * m t) = v * m u
  | [], _, h => by cases h
  | x :: xs, nd, h => by
    obtain ⟨n1, n2⟩ := List.nodup_cons.mp nd
    simp only [List.map_cons, sumQ]
    by_cases e : u = x
    · subst e
      rw [if_pos rfl, sumQ_zero]
      · grind
      · intro t ht
        rw [if_neg (fun z => n1 (by rw [z]; exact ht))]
        exact Rat.zero_mul _
    · rw [if_neg e, sumQ_one v m n2 (by
        rcases List.mem_cons.mp h with z | z
        · exact absurd z e
        · exact z)]
      grind
def wor (xs : List Rat) (is : List Tm) : Rat := sumQ (is.map fun p => p.2 * mono xs (toN p.1))
section
variable {xs : List Rat} {L : List (List Int)} {N : Nat}
theorem wor_inner (nd : L.Nodup) {p : List Int} {a : Rat} (hp : p.length = N ∧ ∀ z ∈ p, 0 ≤ z) : ∀ {js : List Tm}, (∀ q ∈ js, q.1.length = N ∧ (∀ z ∈ q.1, 0 ≤ z) ∧ addP p q.1 ∈ L) →
    sumQ (L.map fun t => inner t p a js * mono xs (toN t)) = a * mono xs (toN p) * wor xs js
  | [], _ => by
    rw [sumQ_zero _ L fun t _ => by rw [inner]; exact Rat.zero_mul _]
    simp only [wor, List.map_nil, sumQ]
    grind
  | q :: qs, h => by
    obtain ⟨h1, h2, h3⟩ := h q List.mem_cons_self
    have ih := wor_inner (p := p) (a := a) nd hp (js := qs) fun r hr => h r (List.mem_cons_of_mem _ hr)
    have e : (L.map fun t => inner t p a (q :: qs) * mono xs (toN t)) = L.map fun t => (if addP p q.1 = t then a * q.2 else 0) * mono xs (toN t) + inner t p a qs * mono xs (toN t) := List.map_congr_left fun t _ => by
      rw [inner]
      grind
    rw [e, sumQ_add (fun t => (if addP p q.1 = t then a * q.2 else 0) * mono xs (toN t)) (fun t => inner t p a qs * mono xs (toN t)), sumQ_one (a * q.2) (fun t => mono xs (toN t)) nd h3, ih, mono_add (hp.1.trans h1.symm) hp.2 h2]
    simp only [wor, List.map_cons, sumQ]
    grind
theorem wor_coef (nd : L.Nodup) {js : List Tm} : ∀ {is : List Tm}, (∀ p ∈ is, (p.1.length = N ∧ ∀ z ∈ p.1, 0 ≤ z) ∧ ∀ q ∈ js, q.1.length = N ∧ (∀ z ∈ q.1, 0 ≤ z) ∧ addP p.1 q.1 ∈ L) →
    sumQ (L.map fun t => coefP t js is * mono xs (toN t)) = wor xs is * wor xs js
  | [], _ => by
    rw [sumQ_zero _ L fun t _ => by rw [coefP]; exact Rat.zero_mul _]
    simp only [wor, List.map_nil, sumQ]
    grind
  | p :: ps, h => by
    obtain ⟨h1, h2⟩ := h p List.mem_cons_self
    have ih := wor_coef nd (js := js) (is := ps) fun r hr => h r (List.mem_cons_of_mem _ hr)
    have e : (L.map fun t => coefP t js (p :: ps) * mono xs (toN t)) = L.map fun t => inner t p.1 p.2 js * mono xs (toN t) + coefP t js ps * mono xs (toN t) := List.map_congr_left fun t _ => by
      rw [coefP]
      grind
    rw [e, sumQ_add (fun t => inner t p.1 p.2 js * mono xs (toN t)) (fun t => coefP t js ps * mono xs (toN t)), wor_inner nd h1 h2, ih]
    simp only [wor, List.map_cons, sumQ]
    grind
end
theorem terms_wor {n d : Nat} {cs xs : List Rat} : (terms n d cs xs).sum = wor xs (tmz (pl n d) cs) := by
  rw [sumQ_eq]
  unfold terms wor tmz
  have : ∀ (L : List (List Int)) (cs : List Rat), List.zipWith (fun p c => c * mono xs (toN p)) L cs = (L.zip cs).map fun p => p.2 * mono xs (toN p.1) := by
    intro L
    induction L with
    | nil => intro cs; rfl
    | cons x l ih =>
      intro cs
      cases cs with
      | nil => rfl
      | cons c cs => rw [List.zipWith_cons_cons, List.zip_cons_cons, List.map_cons, ih]
  rw [this]
def pq (n d e : Nat) (fs ss : List Rat) : List Rat := (pl n (d + e)).map (coefQ n d e fs ss)
theorem pq_fr {n d e : Nat} {fs ss : List Rat} : ((pl n (d + e)).map fun t => fr (coefQ n d e fs ss t)) = (pq n d e fs ss).map fr := by
  unfold pq
  rw [List.map_map]
  rfl
theorem pq_swap {n d e : Nat} {fs ss : List Rat} : pq n e d ss fs = pq n d e fs ss := by
  unfold pq
  rw [Nat.add_comm e d]
  exact List.map_congr_left fun t _ => (coefQ_comm n d e fs ss t).symm
theorem at_product {n d e : Nat} {fs ss xs : List Rat} (B : FpB n d e fs ss) : (terms n (d + e) (pq n d e fs ss) xs).sum = (terms n d fs xs).sum * (terms n e ss xs).sum := by
  have lhs : (terms n (d + e) (pq n d e fs ss) xs).sum = sumQ ((pl n (d + e)).map fun t => coefQ n d e fs ss t * mono xs (toN t)) := by
    rw [sumQ_eq]
    unfold terms pq
    congr 1
    have : ∀ L : List (List Int), List.zipWith (fun p c => c * mono xs (toN p)) L (L.map (coefQ n d e fs ss)) = L.map fun t => coefQ n d e fs ss t * mono xs (toN t) := by
      intro L
      induction L with
      | nil => rfl
      | cons x l ih => rw [List.map_cons, List.zipWith_cons_cons, List.map_cons, ih]
    rw [this]
  rw [lhs, terms_wor, terms_wor]
  refine wor_coef (N := n) (pl_nodup B.n23) fun p hp => ?_
  have p1 := (List.of_mem_zip (show (p.1, p.2) ∈ (pl n d).zip fs from hp)).1
  have pe := pl_entry B.n23 p1
  refine ⟨⟨pe.1, fun z hz => (pe.2 z hz).1⟩, fun q hq => ?_⟩
  have q1 := (List.of_mem_zip (show (q.1, q.2) ∈ (pl n e).zip ss from hq)).1
  have qe := pl_entry B.n23 q1
  exact ⟨qe.1, fun z hz => (qe.2 z hz).1, addP_mem B.n23 p1 q1⟩
/-! ### bounds of worths -/
def DX (xs : List Rat) : Nat := xs.foldr (fun x s => x.den ^ 10 * s) 1
theorem DX_pos : ∀ xs : List Rat, 0 < DX xs
  | [] => by decide
  | x :: xs => Nat.mul_pos (Nat.pow_pos x.den_pos) (DX_pos xs)
theorem DX_le : ∀ {xs : List Rat}, (∀ x ∈ xs, Sm0 x) → DX xs ≤ 2 ^ (200 * xs.length)
  | [], _ => by decide
  | x :: xs, h => by
    have h1 := DX_le fun y hy => h y (List.mem_cons_of_mem _ hy)
    have h2 : x.den ^ 10 ≤ 2 ^ 200 := by
      have := Nat.pow_le_pow_left (Nat.le_of_lt (h x List.mem_cons_self).2) 10
      rwa [← Nat.pow_mul] at this
    show x.den ^ 10 * DX xs ≤ _
    rw [List.length_cons, Nat.mul_add, Nat.mul_one, Nat.add_comm, Nat.pow_add]
    exact Nat.mul_le_mul h2 h1
theorem In.one {D B : Nat} (h : 0 < D) (hb : D ≤ B) : In D B 1 := ⟨h, D, by
  have : (1 : Rat) = Rat.divInt 1 1 := (Rat.num_divInt_den 1).symm
  rw [this]
  exact (Rat.divInt_eq_divInt_iff (by omega) (by omega)).mpr (by omega), by rw [Int.natAbs_natCast]; exact hb⟩
theorem in_pow {x : Rat} (h : Sm0 x) : ∀ j : Nat, In (x.den ^ j) (2 ^ (20 * j)) (x ^ j)
  | 0 => by rw [Rat.pow_zero, Nat.pow_zero]; exact In.one (by decide) (by decide)
  | j + 1 => by
    rw [Rat.pow_succ, Nat.pow_succ, Nat.mul_add, Nat.mul_one, Nat.pow_add]
    exact (in_pow h j).mul (In.self (Nat.le_of_lt h.1))
theorem in_pow10 {x : Rat} (h : Sm0 x) {j : Nat} (hj : j ≤ 10) : In (x.den ^ 10) (2 ^ 200) (x ^ j) := by
  have h1 := (in_pow h j).lift (E := x.den ^ (10 - j)) (Nat.pow_pos x.den_pos)
  rw [← Nat.pow_add, show j + (10 - j) = 10 by omega] at h1
  refine h1.mono ?_
  have h2 : x.den ^ (10 - j) ≤ 2 ^ (20 * (10 - j)) := by
    have := Nat.pow_le_pow_left (Nat.le_of_lt h.2) (10 - j)
    rwa [← Nat.pow_mul] at this
  refine Nat.le_trans (Nat.mul_le_mul_left _ h2) ?_
  rw [← Nat.pow_add]
  exact Nat.pow_le_pow_right (by omega) (by omega)
theorem in_mono : ∀ {xs : List Rat} {e : List Nat}, (∀ x ∈ xs, Sm0 x) → (∀ j ∈ e, j ≤ 10) → In (DX xs) (2 ^ (200 * xs.length)) (mono xs e)
  | xs, [], hx, _ => by rw [mono_nil]; exact In.one (DX_pos xs) (DX_le hx)
  | [], j :: e, _, _ => In.one (by decide) (by decide)
  | x :: xs, j :: e, hx, he => by
    have h1 := in_pow10 (hx x List.mem_cons_self) (he j List.mem_cons_self)
    have h2 := in_mono (xs := xs) (e := e) (fun y hy => hx y (List.mem_cons_of_mem _ hy)) fun k hk => he k (List.mem_cons_of_mem _ hk)
    have h3 := h1.mul h2
    rw [← Nat.pow_add, show 200 + 200 * xs.length = 200 * (x :: xs).length by rw [List.length_cons]; omega] at h3
    exact h3
theorem sum_in {D B : Nat} (hD : 0 < D) : ∀ {l : List Rat}, (∀ x ∈ l, In D B x) → In D (l.length * B) (sumQ l)
  | [], _ => by rw [sumQ]; exact In.zero hD
  | x :: xs, h => by
    rw [sumQ, List.length_cons, Nat.add_mul, Nat.one_mul, Nat.add_comm]
    exact In.add (h x List.mem_cons_self) (sum_in hD fun y hy => h y (List.mem_cons_of_mem _ hy))
theorem atB_of {n d : Nat} {cs xs : List Rat} {D : Nat} (hn : n = 2 ∨ n = 3) (hd : d ≤ 10) (hl : cs.length = (pl n d).length) (hx : xs.length = n) (hs : ∀ x ∈ xs, Sm0 x) (hD : 0 < D) (hD2 : D ≤ 2 ^ 2640) (hc : ∀ c ∈ cs, In D (2 ^ 2693) c) :
    AtB n d cs xs ∧ Sm (terms n d cs xs).sum := by
  have x3 : xs.length ≤ 3 := by omega
  have D0 : 0 < D * DX xs := Nat.mul_pos hD (DX_pos xs)
  have DX6 : DX xs ≤ 2 ^ 600 := Nat.le_trans (DX_le hs) (Nat.pow_le_pow_right (by omega) (by omega))
  have Dlt : D * DX xs < 2 ^ 4000 := by
    refine Nat.lt_of_le_of_lt (Nat.mul_le_mul hD2 DX6) ?_
    rw [← Nat.pow_add]
    exact pow_lt (by omega)
  have term : ∀ c ∈ cs, ∀ e : List Nat, (∀ j ∈ e, j ≤ 10) → In (D * DX xs) (2 ^ 3293) (c * mono xs e) := fun c hc1 e he => by
    refine ((hc c hc1).mul (in_mono hs he)).mono ?_
    rw [← Nat.pow_add]
    exact Nat.pow_le_pow_right (by omega) (by omega)
  have tin : ∀ y ∈ terms n d cs xs, In (D * DX xs) (2 ^ 3293) y := fun y hy => by
    obtain ⟨i, hi⟩ := List.mem_iff_getElem?.mp hy
    unfold terms at hi
    rw [List.getElem?_zipWith] at hi
    cases h1 : (pl n d)[i]? with
    | none => rw [h1] at hi; cases hi
    | some p =>
      cases h2 : cs[i]? with
      | none => rw [h1, h2] at hi; cases hi
      | some c =>
        rw [h1, h2] at hi
        cases hi
        exact term c (mem_get h2) _ fun j hj => by have := toN_le hn (mem_get h1) j hj; omega
  have tl : (terms n d cs xs).length ≤ 66 := by
    unfold terms
    rw [List.length_zipWith]
    have := pl_len66 hn hd
    omega
  have part : ∀ i, Sm ((terms n d cs xs).take i).sum := fun i => by
    rw [sumQ_eq]
    refine (sum_in D0 fun y hy => tin y (List.mem_of_mem_take hy)).sm Dlt ?_
    have : ((terms n d cs xs).take i).length ≤ 66 := by rw [List.length_take]; omega
    refine Nat.lt_of_le_of_lt (Nat.mul_le_mul_right _ (Nat.le_trans this (show 66 ≤ 2 ^ 7 by decide))) ?_
    rw [← Nat.pow_add]
    exact pow_lt (by omega)
  refine ⟨⟨hn, hd, hl, hx, fun c hc1 e he => (term c hc1 e fun j hj => Nat.le_trans (he j hj) hd).sm Dlt (pow_lt (by omega)), part, fun x hx1 j hj => (in_pow10 (hs x hx1) (Nat.le_trans hj hd)).sm ?_ (pow_lt (by omega)), fun x hx1 => (hs x hx1).sm⟩, ?_⟩
  · have := Nat.pow_le_pow_left (Nat.le_of_lt (hs x hx1).2) 10
    rw [← Nat.pow_mul] at this
    exact Nat.lt_of_le_of_lt this (pow_lt (by omega))
  · have := part (terms n d cs xs).length
    rwa [List.take_length] at this
theorem atB_drawn {n d : Nat} {cs xs : List Rat} (hn : n = 2 ∨ n = 3) (hd : d ≤ 10) (hl : cs.length = (pl n d).length) (hc : ∀ c ∈ cs, Sm0 c) (hx : xs.length = n) (hs : ∀ x ∈ xs, Sm0 x) : AtB n d cs xs ∧ Sm (terms n d cs xs).sum := by
  have l66 : cs.length ≤ 66 := by rw [hl]; exact pl_len66 hn hd
  have ls := lcmD_small hc l66
  refine atB_of hn hd hl hx hs (lcmD_pos cs) (Nat.le_trans ls (Nat.pow_le_pow_right (by omega) (by omega))) fun c h => ?_
  obtain ⟨e1, b1⟩ := in_lcm hc h
  exact ⟨lcmD_pos cs, _, e1, Nat.le_trans b1 (Nat.le_trans (Nat.mul_le_mul_left _ ls) (by rw [← Nat.pow_add]; exact Nat.pow_le_pow_right (by omega) (by omega)))⟩
theorem atB_product {n d e : Nat} {fs ss xs : List Rat} (B : FpB n d e fs ss) (hde : d + e ≤ 10) (hx : xs.length = n) (hs : ∀ x ∈ xs, Sm0 x) : AtB n (d + e) (pq n d e fs ss) xs ∧ Sm (terms n (d + e) (pq n d e fs ss) xs).sum := by
  refine atB_of B.n23 hde (by unfold pq; rw [List.length_map]) hx hs (lcm2_lt B).1 (lcm2_lt B).2 fun c h => ?_
  unfold pq at h
  obtain ⟨t, _, rfl⟩ := List.mem_map.mp h
  exact coefQ_in B t
end Pk

namespace Pk
open PySem PySem.Spec PyProof.Rows L2
def F_law_is_multiplied : FD := fun ds P => ∃ n d e : Nat, ds = [.int (n : Int), .int (d : Int), .int (e : Int)] ∧ (n = 2 ∨ n = 3) ∧ d ≤ 10 ∧ e ≤ 10 ∧ P (.bool true)
section
variable {K : PySem.W.Frag} {ρ : Rho} {t1 t2 t3 t4 t5 : TE}
theorem ea_five {a b c d e : PD} (h1 : EvE K t1 ρ (· = a)) (h2 : EvE K t2 ρ (· = b)) (h3 : EvE K t3 ρ (· = c)) (h4 : EvE K t4 ρ (· = d)) (h5 : EvE K t5 ρ (· = e)) : EvA K (tCons t1 (tCons t2 (tCons t3 (tCons t4 (tCons t5 tNil))))) ρ (· = [a, b, c, d, e]) :=
  ea_one h1 (ea_one h2 (ea_one h3 (ea_one h4 (ea_one h5 ea_nil))))
theorem el_product {n d e : Nat} {fs ss : List Rat} (B : FpB n d e fs ss) (h1 : EvE K t1 ρ (· = .int (n : Int))) (h2 : EvE K t2 ρ (· = frs fs)) (h3 : EvE K t3 ρ (· = .int (d : Int))) (h4 : EvE K t4 ρ (· = frs ss)) (h5 : EvE K t5 ρ (· = .int (e : Int))) :
    EvL K (tCall (SpL K F_form_product) [] E0 (tCons t1 (tCons t2 (tCons t3 (tCons t4 (tCons t5 tNil)))))) ρ (· = (pq n d e fs ss).map fr) := el_call1 (ea_five h1 h2 h3 h4 h5) ⟨n, d, e, fs, ss, rfl, B, pq_fr⟩
theorem ev_at {n d : Nat} {cs xs : List Rat} (B : AtB n d cs xs) (h1 : EvE K t1 ρ (· = .int (n : Int))) (h2 : EvE K t2 ρ (· = frs cs)) (h3 : EvE K t3 ρ (· = .int (d : Int))) (h4 : EvE K t4 ρ (· = .tuple (xs.map fr))) :
    EvE K (tCall (SpP K F_form_at) [] E0 (tCons t1 (tCons t2 (tCons t3 (tCons t4 tNil))))) ρ (· = fr (terms n d cs xs).sum) := ev_call1 (ea_one h1 (ea_one h2 (ea_one h3 (ea_one h4 ea_nil)))) ⟨n, d, cs, xs, rfl, B, rfl⟩
end
theorem b_law_is_multiplied {K : PySem.W.Frag} (ds : List PD) (P : PD → Prop) (h : F_law_is_multiplied ds P) : RunS K (t_law_is_multiplied K (SpL K F_form_product) (SpP K F_form_at) (SpK K F_law_draw) (SpP K F_law_is) (SpP K F_times) (SpL K F_law_places) (SpK K F_law_item) (SpL K F_form_product) (SpP K F_form_at)) (startR 14 (.deck :: ds.map .dat)) (oK P) := by
  obtain ⟨n, d, e, rfl, hn, hd, he, p⟩ := h
  have hn3 : n ≤ 3 := by rcases hn with h | h <;> omega
  have le1 := pl_len hn (d := d) (by omega)
  have le2 := pl_len hn (d := e) (by omega)
  have le3 := pl_len hn (d := d + e) (by omega)
  have ps3 := pl_pos hn (d := d + e)
  unfold t_law_is_multiplied
  refine rs_set (P := DrL (pl n d).length) ((ev_items (i := 0) (j := 5) (ei_list1 (xs := (pl n d).map tupI) (ev_places (el_places (ev_var rfl) (ev_var rfl) hn (by omega)))) rfl (by omega) (by rw [List.length_map]; omega)).imp fun w h => by rw [List.length_map] at h; exact h) ?_
  rintro _ ⟨fs, rfl, fl, hf⟩
  refine rs_set (P := DrL (pl n e).length) ((ev_items (i := 0) (j := 5) (ei_list1 (xs := (pl n e).map tupI) (ev_places (el_places (ev_var rfl) (ev_var rfl) hn (by omega)))) rfl (by omega) (by rw [List.length_map]; omega)).imp fun w h => by rw [List.length_map] at h; exact h) ?_
  rintro _ ⟨ss, rfl, sl, hs⟩
  refine rs_set (P := fun w => ∃ ws, w = .tuple ws ∧ ∃ xs : List Rat, ws = xs.map fr ∧ xs.length = n ∧ ∀ q ∈ xs, Sm0 q) (ev_tupN ((ev_items (i := 0) (j := 8) (r_range (n := n) (ev_var rfl) rfl (by omega)) rfl (by omega) (by rw [rangeD_len]; omega)).imp fun w ⟨qs, a, b, c⟩ => ⟨_, a, qs, rfl, by rw [b, rangeD_len], c⟩)) ?_
  rintro _ ⟨_, rfl, xs, rfl, xl, hx⟩
  refine rs_seq (fun ρ' => ∃ ss : List Rat, ss.length = (pl n e).length ∧ (∀ q ∈ ss, Sm0 q) ∧ ρ' = [some .deck, some (.dat (.int (n : Int))), some (.dat (.int (d : Int))), some (.dat (.int (e : Int))), some (.dat (frs fs)), none, some (.dat (frs ss)), some (.dat (.tuple (xs.map fr))), none, none, none, none, none, none]) (rs_if (et_and (et_test1 (ev_eqI (i := (e : Int)) (ev_var rfl) ev_int)) fun _ => et_anyB (ev_eqP (ev_draw (b := 2) rfl ev_int (by omega) (by omega)) (ev_toP ev_int)) fun d ⟨_, _, _, _, e⟩ => ⟨_, e⟩) (fun c => ?_) fun _ => rs_next ⟨ss, sl, hs, rfl⟩) ?_
  · have e0 : e = 0 := by
      rcases c with ⟨c, _⟩ | ⟨_, c⟩
      · have := of_decide_eq_true c.symm
        omega
      · cases c
    refine rs_asg (EvL.datE (el_lst1 (ea_one (ev_tup1 (xs := [.int 1, .int 1]) (ea_one ev_int (ea_one ev_int ea_nil))) ea_nil))) fun w ew => ⟨[1], ?_, fun q hq => by rw [List.mem_singleton.mp hq]; exact sm0_one, by rw [ew]; rfl⟩
    subst e0
    rcases hn with rfl | rfl <;> rfl
  clear sl hs ss
  rintro ρ' ⟨ss, sl, hs, rfl⟩
  have B : FpB n d e fs ss := ⟨hn, hd, he, fl, sl, hf, hs⟩
  have hfS := sm0_all hf
  have hsS := sm0_all hs
  have gf := gd_frs hfS (by omega)
  have gs := gd_frs hsS (by omega)
  have pl3' : (pq n d e fs ss).length = (pl n (d + e)).length := by unfold pq; rw [List.length_map]
  have pqS : ∀ q ∈ pq n d e fs ss, Sm q := fun q hq => by
    unfold pq at hq
    obtain ⟨t, _, rfl⟩ := List.mem_map.mp hq
    exact coefQ_sm B t
  have gq := gd_frs pqS (by omega)
  obtain ⟨A1, w1⟩ := atB_drawn hn hd fl hf xl hx
  obtain ⟨A2, w2⟩ := atB_drawn hn he sl hs xl hx
  refine rs_set1 (d := frs (pq n d e fs ss)) (EvL.datE (el_product B (ev_var rfl) (ev_var rfl) (ev_var rfl) (ev_var rfl) (ev_var rfl))) ?_
  refine rs_par1 (a := frs fs) (b := frs ss) (ea_one (EvL.datE (el_listL (ev_var rfl))) (ea_one (EvL.datE (el_listL (ev_var rfl))) ea_nil)) ?_
  refine rs_setL1 (ds := (pq n d e fs ss).map fr) (el_product B (ev_var rfl) (ev_var rfl) (ev_var rfl) (ev_var rfl) (ev_var rfl)) ?_
  refine rs_check (et_froz (ρ' := [none, some (.dat (.int (n : Int))), some (.dat (.int (d : Int))), some (.dat (.int (e : Int))), none, none, none, none, none, some (.dat (frs (pq n d e fs ss))), some (.dat (frs fs)), some (.dat (frs ss)), some (.dat (frs (pq n d e fs ss))), none]) (.none (.dat (.dat (.dat (.none (.none (.none (.none (.none (.dat (.dat (.dat (.own (.none .nil))))))))))))))
    (et_or1 (a := false) (b := false) (et_is (ev_var rfl) (ev_var rfl) (gq.mono (by omega) (by omega)) (.inl ⟨_, rfl⟩)) fun _ => et_is (d := frs (pq n d e fs ss)) (EvL.datE ((el_product B.swap (ev_var rfl) (ev_var rfl) (ev_var rfl) (ev_var rfl) (ev_var rfl)).imp fun w ew => by rw [ew, pq_swap])) (ev_var rfl) (gq.mono (by omega) (by omega)) (.inl ⟨_, rfl⟩))) ?_
  refine rs_set1 (d := .list [fr (terms n d fs xs).sum, fr (terms n e ss xs).sum]) (ev_lst2 (ev_at A1 (ev_var rfl) (ev_var rfl) (ev_var rfl) (ev_var rfl)) (ev_at A2 (ev_var rfl) (ev_var rfl) (ev_var rfl) (ev_var rfl))) ?_
  refine rs_check (et_is (d := .list [fr (terms n d fs xs).sum, fr (terms n e ss xs).sum]) (ev_lst2 (ev_at A1 (ev_var rfl) (ev_var rfl) (ev_var rfl) (ev_var rfl)) (ev_at A2 (ev_var rfl) (ev_var rfl) (ev_var rfl) (ev_var rfl))) (ev_var rfl) (gd_two ((Gd.fr w1).mono (by omega) (by omega)) ((Gd.fr w2).mono (by omega) (by omega))) (.inl ⟨_, rfl⟩)) ?_
  refine rs_check (et_froz (ρ' := [none, some (.dat (.int (n : Int))), some (.dat (.int (d : Int))), some (.dat (.int (e : Int))), none, none, none, some (.dat (.tuple (xs.map fr))), none, none, none, none, some (.dat (frs (pq n d e fs ss))), some (.dat (.list [fr (terms n d fs xs).sum, fr (terms n e ss xs).sum]))]) (.none (.dat (.dat (.dat (.none (.none (.none (.dat (.none (.none (.none (.none (.own (.dat .nil))))))))))))))
    ((et_and1 (a := decide ((d : Int) + (e : Int) < 11)) (b := false) (et_test1 (ev_lt (ev_add (ev_var rfl) (ev_var rfl)) ev_int)) fun c => ?_).imp fun b eb => by rw [eb, Bool.and_false])) ?_
  · have hde : d + e ≤ 10 := by
      have := of_decide_eq_true c
      omega
    obtain ⟨A3, w3⟩ := atB_product B hde xl hx
    refine et_is (d := fr ((terms n d fs xs).sum * (terms n e ss xs).sum)) ((ev_at A3 (ev_var rfl) (ev_var rfl) ((ev_add (i := (d : Int)) (j := (e : Int)) (ev_var rfl) (ev_var rfl)).imp fun w ew => by rw [ew, Int.natCast_add]) (ev_var rfl)).imp fun w ew => by rw [ew, at_product B]) (ev_call_times (ev_ixL (ds := [fr (terms n d fs xs).sum, fr (terms n e ss xs).sum]) (ev_var rfl) ev_int ati0) (ev_ixL (ds := [fr (terms n d fs xs).sum, fr (terms n e ss xs).sum]) (ev_var rfl) ev_int ati1) w1 w2) ?_ (.inr ⟨_, rfl⟩)
    rw [← at_product B]
    exact (Gd.fr w3).mono (by omega) (by omega)
  have drw : ∀ {z : Rho} {ds : List PD}, z[0]? = some (some .deck) → z[12]? = some (some (.own ds)) → 0 < ds.length → ds.length ≤ 441 → EvE K (tCall (SpK K F_law_draw) [] E0 (tCons (tVar 0) (tCons (tCB (rLenQ K) (tCons (tVar 12) tNil)) tNil))) z (IntP fun r => 0 ≤ r ∧ r < ds.length) := fun {z ds} h0 h1 h2 h3 => ev_draw (b := ds.length) h0 (ev_ownLen h1) (by omega) (by omega)
  refine rs_seq (fun ρ' => ∃ x12, ρ' = [some .deck, some (.dat (.int (n : Int))), some (.dat (.int (d : Int))), some (.dat (.int (e : Int))), some (.dat (frs fs)), none, some (.dat (frs ss)), some (.dat (.tuple (xs.map fr))), none, some (.dat (frs (pq n d e fs ss))), some (.dat (frs fs)), some (.dat (frs ss)), x12, some (.dat (.list [fr (terms n d fs xs).sum, fr (terms n e ss xs).sum]))]) (rs_setIxP (i := 12) rfl ev_77 (drw rfl rfl (by rw [List.length_map]; omega) (by rw [List.length_map]; omega)) (fun r h => h) fun w j _ hj => ⟨_, rfl⟩) ?_
  rintro ρ' ⟨x12, rfl⟩
  refine rs_setL1 (ds := (pq n d e fs ss).map fr) ((el_product B.swap (ev_var rfl) (ev_var rfl) (ev_var rfl) (ev_var rfl) (ev_var rfl)).imp fun w ew => by rw [ew, pq_swap]) ?_
  refine rs_check (et_froz (ρ' := [none, none, none, none, some (.dat (frs fs)), none, some (.dat (frs ss)), none, none, some (.dat (frs (pq n d e fs ss))), some (.dat (frs fs)), some (.dat (frs ss)), some (.dat (frs (pq n d e fs ss))), none]) (.none (.none (.none (.none (.dat (.none (.dat (.none (.none (.dat (.dat (.dat (.own (.none .nil))))))))))))))
    (et_is (ev_lst3 (ev_var rfl) (ev_var rfl) (ev_var rfl)) (ev_lst3 (ev_var rfl) (ev_var rfl) (ev_var rfl)) (gd_three gq gf gs) (.inl ⟨_, rfl⟩))) ?_
  refine rs_seq (fun ρ' => ∃ x12, ρ' = [some .deck, some (.dat (.int (n : Int))), some (.dat (.int (d : Int))), some (.dat (.int (e : Int))), some (.dat (frs fs)), none, some (.dat (frs ss)), some (.dat (.tuple (xs.map fr))), none, some (.dat (frs (pq n d e fs ss))), some (.dat (frs fs)), some (.dat (frs ss)), x12, some (.dat (.list [fr (terms n d fs xs).sum, fr (terms n e ss xs).sum]))]) (rs_setIxP (i := 12) rfl ev_77 (drw rfl rfl (by rw [List.length_map]; omega) (by rw [List.length_map]; omega)) (fun r h => h) fun w j _ hj => ⟨_, rfl⟩) ?_
  clear x12
  rintro ρ' ⟨x12, rfl⟩
  exact rs_ret (ev_andV (a := true) (b := true) (ev_is (d := frs (pq n d e fs ss)) (EvL.datE (el_product B (ev_var rfl) (ev_var rfl) (ev_var rfl) (ev_var rfl) (ev_var rfl))) (ev_var rfl) (gq.mono (by omega) (by omega)) (.inl ⟨_, rfl⟩)) fun _ => ev_is (ev_lst2 (ev_var rfl) (ev_var rfl)) (ev_lst2 (ev_var rfl) (ev_var rfl)) (gd_two gf gs) (.inl ⟨_, rfl⟩)) fun w ew => by rw [ew]; exact p
end Pk

namespace Pk
open PySem PySem.Spec PyProof.Rows L2
def F_law_deck : FL := fun ds P => ∃ ns : List Int, ds = [.list (ns.map .int)] ∧ ∀ sd : Int, 0 ≤ sd → sd < 2147483647 → P [.int 0, .int 0, .int sd, .list (ns.map .int), .int 0]
theorem b_law_deck {K : PySem.W.Frag} (ds : List PD) (P : List PD → Prop) (h : F_law_deck ds P) : RunS K (t_law_deck K) (startR 3 (ds.map .dat)) { rl := P } := by
  obtain ⟨ns, rfl, p⟩ := h
  unfold t_law_deck
  refine rs_set1 (d := .int 7) ev_int ?_
  refine rs_seq (fun ρ' => ∃ (sd : Int) (x2 : Option Ent), 0 ≤ sd ∧ sd < 2147483647 ∧ ρ' = [some (.dat (.list (ns.map .int))), some (.dat (.int sd)), x2]) ?_ ?_
  · refine rs_for1 (ei_list1 (xs := ns.map .int) (ev_var rfl)) (fun i ρ' => ∃ (sd : Int) (x2 : Option Ent), 0 ≤ sd ∧ sd < 2147483647 ∧ ρ' = [some (.dat (.list (ns.map .int))), some (.dat (.int sd)), x2]) ⟨7, none, by omega, by omega, rfl⟩ ?_ fun ρ' h => h
    rintro i z ρ' hz ⟨sd, x2, s0, s1, rfl⟩
    obtain ⟨c, _, rfl⟩ := map_get hz
    refine ⟨_, _, bg_name, rs_asg (P := (· = .int ((sd * 48271 + c) % 2147483647))) (ev_mod (ev_intI (ev_add (ev_mul (i := sd) (ev_var rfl) ev_int ?_) (ev_var rfl))) ev_int (by omega)) fun w e => ⟨(sd * 48271 + c) % 2147483647, some (.dat (.int c)), Int.emod_nonneg _ (by omega), Int.emod_lt_of_pos _ (by omega), by rw [e]; rfl⟩⟩
    exact mulW (a := 31) (b := 31) (by omega) (by omega) (by omega) (by decide) (by omega)
  · rintro ρ' ⟨sd, x2, s0, s1, rfl⟩
    exact rs_retL (el_lst1 (ea_one ev_int (ea_one ev_int (ea_one (ev_var rfl) (ea_one (EvL.datE (el_listL (ev_var rfl))) (ea_one ev_int ea_nil)))))) fun w e => by rw [e]; exact p sd s0 s1
/-- the law answers True -/
def SpLaw (K : PySem.W.Frag) : Sp := fun vs H Q _ => ∃ (a : Addr) (ns : List Int), vs = [.ref a] ∧ SqL K H a (ns.map V.int) ∧ ∀ H', Q (.bl true) H'
def t_rest (K : PySem.W.Frag) : TS := (tSeq (tAsg (tCall (SpK K F_law_draw) [] E0 (tCons (tVar 1) (tCons (tC (.int 2)) tNil))) (gName 2))
    (tSeq (tFor (iList K (tLst (tCons (tOp rAddI (tC (.int 2)) (tVar 2)) (tCons (tOp rSubI (tC (.int 3)) (tVar 2)) tNil)))) (gName 3)
      (tSeq (tPar 4 5 (tCons (tCall (SpK K F_law_degree) [] E0 (tCons (tVar 1) tNil)) (tCons (tCall (SpK K F_law_degree) [] E0 (tCons (tVar 1) tNil)) tNil)))
    (tSeq (tIfS (tOr (tNot (tB (tCall (SpK K F_law_is_placed) [] E0 (tCons (tVar 1) (tCons (tVar 3) (tCons (tVar 4) tNil)))))) (tNot (tB (tCall (SpK K F_law_is_summed) [] E0 (tCons (tVar 1) (tCons (tVar 3) (tCons (tVar 5) tNil)))))))
      (tRet (tC (.bl false))) tNext)
    (tIfS (tNot (tB (tCall (SpK K F_law_is_multiplied) [] E0 (tCons (tVar 1) (tCons (tVar 3) (tCons (tVar 4) (tCons (tVar 5) tNil)))))))
      (tRet (tC (.bl false))) tNext))))
    (tRet (tC (.bl true)))))
theorem ev_degree {K : PySem.W.Frag} {ρ : Rho} {i : Nat} (h : ρ[i]? = some (some .deck)) : EvE K (tCall (SpK K F_law_degree) [] E0 (tCons (tVar i) tNil)) ρ fun d => ∃ k : Nat, k ≤ 10 ∧ d = .int (k : Int) := evk_call1 h ea_nil ⟨rfl, fun k hk => ⟨k, hk, rfl⟩⟩
theorem r_rest {K : PySem.W.Frag} : RunS K (t_rest K) [none, some .deck, none, none, none, none] { rt := (· = .bool true) } := by
  unfold t_rest
  refine rs_set (ev_draw (b := 2) rfl ev_int (by omega) (by omega)) ?_
  rintro _ ⟨s, rfl, s0, s1⟩
  refine rs_seq (fun ρ' => ∃ x3 x4 x5, ρ' = [none, some .deck, some (.dat (.int s)), x3, x4, x5]) ?_ ?_
  · refine rs_for1 (ei_list1 (xs := [.int (2 + s), .int (3 - s)]) (EvL.datE (el_lst1 (ea_one (ev_add ev_int (ev_var rfl)) (ea_one (ev_sub ev_int (ev_var rfl)) ea_nil))))) (fun i ρ' => ∃ x3 x4 x5, ρ' = [none, some .deck, some (.dat (.int s)), x3, x4, x5]) ⟨none, none, none, rfl⟩ ?_ fun ρ' h => h
    rintro i z ρ' hz ⟨x3, x4, x5, rfl⟩
    have hn : ∃ n : Nat, (n = 2 ∨ n = 3) ∧ z = .int (n : Int) := by
      match i, hz with
      | 0, hz =>
        cases hz
        exact ⟨(2 + s).toNat, by omega, by rw [Int.toNat_of_nonneg (by omega)]⟩
      | 1, hz =>
        cases hz
        exact ⟨(3 - s).toNat, by omega, by rw [Int.toNat_of_nonneg (by omega)]⟩
    obtain ⟨n, hn, rfl⟩ := hn
    refine ⟨_, _, bg_name, rs_par (ea_cons (ev_degree rfl) fun _ _ => ea_cons (ev_degree rfl) fun _ _ => ea_nil) ?_⟩
    rintro _ ⟨_, _, rfl, ⟨d, hd, rfl⟩, _, _, rfl, ⟨e, he, rfl⟩, rfl⟩
    refine ⟨_, _, rfl, ?_⟩
    refine rs_check (et_or1 (a := false) (b := false) ((et_not1 (et_B1 (b := true) (evk_call1 (P := (· = .bool true)) rfl (ea_one (ev_var rfl) (ea_one (ev_var rfl) ea_nil)) ⟨n, d, rfl, hn, hd, rfl⟩))).imp fun b e => e) fun _ => (et_not1 (et_B1 (b := true) (evk_call1 (P := (· = .bool true)) rfl (ea_one (ev_var rfl) (ea_one (ev_var rfl) ea_nil)) ⟨n, e, rfl, hn, he, rfl⟩))).imp fun b e => e) ?_
    exact rs_check_ ((et_not1 (et_B1 (b := true) (evk_call1 (P := (· = .bool true)) rfl (ea_one (ev_var rfl) (ea_one (ev_var rfl) (ea_one (ev_var rfl) ea_nil))) ⟨n, d, e, rfl, hn, hd, he, rfl⟩))).imp fun b e => e) ⟨some (.dat (.int (n : Int))), some (.dat (.int (d : Int))), some (.dat (.int (e : Int))), rfl⟩
  · rintro ρ' ⟨x3, x4, x5, rfl⟩
    exact rs_ret ev_bl fun w e => e
theorem b_law {K : PySem.W.Frag} (vs : List V) (H : Hp) (Q : VK) (E : XK) (hsp : SpLaw K vs H Q E) : t_law K (SpL K F_law_deck) (SpK K F_law_draw) (SpK K F_law_degree) (SpK K F_law_is_placed) (SpK K F_law_is_summed) (SpK K F_law_is_multiplied) { nx := fun _ H' => Q .non H', rt := Q } (L2.start N_law vs) H := by
  obtain ⟨a, ns, rfl, hs, k⟩ := hsp
  have up : Same H (Hid [] H) := fun b o h => by rw [hid_out (by simp)]; exact h
  refine ⟨_, rfl, [], [.list (ns.map .int)], fun es => ∃ sd : Int, 0 ≤ sd ∧ sd < 2147483647 ∧ es = [.int 0, .int 0, .int sd, .list (ns.map .int), .int 0], (fun b hb => by cases hb), .cons (.lst (up.seq hs) (dpa_ofInts ns)) .nil, ⟨ns, rfl, fun sd s0 s1 => ⟨sd, s0, s1, rfl⟩⟩, ?_⟩
  rintro es p us H' ⟨sd, s0, s1, rfl⟩ same hp hl hd
  cases hd with
  | cons a0 hd => cases hd with
    | cons a1 hd => cases hd with
      | cons a2 hd => cases hd with
        | cons a3 hd => cases hd with
          | cons a4 hd =>
            cases hd
            have e0 := dp_toInt a0
            have e1 := dp_toInt a1
            have e2 := dp_toInt a2
            have e4 := dp_toInt a4
            subst e0 e1 e2 e4
            obtain ⟨l, xs, rfl, hq, hx⟩ := dp_toLst a3
            have ex := dpa_ints hx
            subst ex
            show t_rest K { nx := _, rt := Q } [some (.ref a), some (.ref p), none, none, none, none] H'
            refine r_rest (some p) [p] H' [p] H' _ _ ?_ ⟨fun _ _ _ _ z => z.elim, fun _ _ _ _ z => z.elim, fun _ _ _ _ z => z.elim, fun d v H2 e _ r => ?_, fun _ _ _ _ z => z.elim⟩
            · have none_ : ∀ {i : Nat} {x : Ent}, ([none, some .deck, none, none, none, none] : Rho)[i]? = some (some x) → i = 1 ∧ x = .deck := by
                intro i x h
                match i, h with
                | 0, h => cases h
                | 1, h => cases h; exact ⟨rfl, rfl⟩
                | 2, h => cases h
                | 3, h => cases h
                | 4, h => cases h
                | 5, h => cases h
                | n + 6, h => cases h
              refine ⟨fun _ _ h _ => h, fun b hb => ?_, fun _ _ _ => rfl, fun _ h => h, fun _ h => .inl h, fun b hb => ?_, fun b hb => ?_, rfl, fun i d h => ?_, fun i ds h => ?_, fun i h => ?_, fun i j d1 d2 q h => ?_, fun i R h => ?_⟩
              · rw [List.mem_singleton.mp hb, hl]; exact fun z => nomatch z
              · rw [List.mem_singleton.mp hb, hl]; exact fun z => nomatch z
              · cases hb
                exact ⟨List.mem_cons_self, 0, 0, sd, l, 0, ns, hl, hq, by omega, by omega, s0, s1, by omega⟩
              · cases (none_ h).2
              · cases (none_ h).2
              · obtain ⟨rfl, _⟩ := none_ h
                exact ⟨p, rfl, rfl⟩
              · cases (none_ h).2
              · cases (none_ h).2
            · have e' : d = .bool true := e
              subst e'
              rw [dp_toBl r]
              exact k H2
end Pk

namespace Pk
open PySem PySem.Spec PyProof.Rows L2
theorem lenM {K : PySem.W.Frag} {F : List PD → MR → Prop} {ps : List Str} (h : ∀ ds R, F ds R → ds.length = ps.length) (vs : List V) (H : Hp) (Q : VK) (E : XK) (hsp : SpM K F vs H Q E) : vs.length = ps.length := by
  obtain ⟨S, ds, R, own, hd, hf, k⟩ := hsp
  rw [dpa_len hd]; exact h ds R hf
theorem lenT {K : PySem.W.Frag} {F : List PD → List (List Int) → Prop} {ps : List Str} (h : ∀ ds ks, F ds ks → ds.length = ps.length) (vs : List V) (H : Hp) (Q : VK) (E : XK) (hsp : SpT K F vs H Q E) : vs.length = ps.length := by
  obtain ⟨S, ds, ks, own, hd, hf, k⟩ := hsp
  rw [dpa_len hd]; exact h ds ks hf
def names : List Str := ["common", "fraction", "plus", "times", "places_of", "spots_of", "form_sum", "form_times", "cleared", "integer_product", "form_product", "powers_at", "form_at", "_law_deck", "_law_draw", "_law_is", "_law_gcd", "_law_frac", "_law_plus", "_law_times", "_law_places", "_law_item", "_law_degree", "_law_product", "_law_at", "_law_is_placed", "_law_is_summed", "_law_is_multiplied", "law"]
theorem chain {P : Program} {w : World} {K : PySem.W.Frag} {mg : Str → Option Value} {base : Heap} (T : Txt K mg) (c : He.SaysD fa fn K) (M : ∀ x ∈ names, mg x = some (.ref (He.ga K x))) {fd : FuncData} (D_law : FunD K "law" "law" (defArgs s_law) (defBody s_law) (defScope s_law) [] [] (He.ga K "law") fd) : FnG P w K mg base CX0 7 (He.ga K "law") fd ["script"] (SpLaw K) := by
  obtain ⟨fd_common, D_common⟩ := c.def_ 0 (d := _) rfl
  have c_common : Callee P w K mg base 1 "common" ["a", "b"] (SpP K F_common) := callee (N := N_common) D_common (M "common" (by decide)) sc_common (fun _ _ _ _ _ _ us hl => match us, hl with | [_, _], _ => rfl) (lenP fun ds P h => by obtain ⟨_, _, e, _⟩ := h; rw [e]; rfl) fun cdv A outer s H E cl hr => ⟨t_common K , d_common  T  cl hr, bodyP (N := N_common) fun ds P h => b_common ds P h⟩
  obtain ⟨fd_fraction, D_fraction⟩ := c.def_ 1 (d := _) rfl
  have c_fraction : Callee P w K mg base 2 "fraction" ["a", "b"] (SpP K F_fraction) := callee (N := N_fraction) D_fraction (M "fraction" (by decide)) sc_fraction (fun _ _ _ _ _ _ us hl => match us, hl with | [_, _], _ => rfl) (lenP fun ds P h => by obtain ⟨_, _, e, _⟩ := h; rw [e]; rfl) fun cdv A outer s H E cl hr => ⟨t_fraction K (SpP K F_common), d_fraction (SpP K F_common) T c_common cl hr, bodyP (N := N_fraction) fun ds P h => b_fraction ds P h⟩
  obtain ⟨fd_plus, D_plus⟩ := c.def_ 2 (d := _) rfl
  have c_plus : Callee P w K mg base 3 "plus" ["x", "y"] (SpP K F_plus) := callee (N := N_plus) D_plus (M "plus" (by decide)) sc_plus (fun _ _ _ _ _ _ us hl => match us, hl with | [_, _], _ => rfl) (lenP fun ds P h => by obtain ⟨_, _, e, _⟩ := h; rw [e]; rfl) fun cdv A outer s H E cl hr => ⟨t_plus K (SpP K F_fraction), d_plus (SpP K F_fraction) T c_fraction cl hr, bodyP (N := N_plus) fun ds P h => b_plus ds P h⟩
  obtain ⟨fd_times, D_times⟩ := c.def_ 3 (d := _) rfl
  have c_times : Callee P w K mg base 3 "times" ["x", "y"] (SpP K F_times) := callee (N := N_times) D_times (M "times" (by decide)) sc_times (fun _ _ _ _ _ _ us hl => match us, hl with | [_, _], _ => rfl) (lenP fun ds P h => by obtain ⟨_, _, e, _⟩ := h; rw [e]; rfl) fun cdv A outer s H E cl hr => ⟨t_times K (SpP K F_fraction), d_times (SpP K F_fraction) T c_fraction cl hr, bodyP (N := N_times) fun ds P h => b_times ds P h⟩
  obtain ⟨fd_places_of, D_places_of⟩ := c.def_ 4 (d := _) rfl
  have c_places_of : Callee P w K mg base 1 "places_of" ["n", "d"] (SpT K F_places_of) := callee (N := N_places_of) D_places_of (M "places_of" (by decide)) sc_places_of (fun _ _ _ _ _ _ us hl => match us, hl with | [_, _], _ => rfl) (lenT fun ds P h => by obtain ⟨_, _, e, _⟩ := h; rw [e]; rfl) fun cdv A outer s H E cl hr => ⟨t_places_of K , d_places_of  T  cl hr, fun vs H Q E h => b_places_of vs H Q E h⟩
  have cL_places_of : Callee P w K mg base 1 "places_of" ["n", "d"] (SpL K F_law_places) := c_places_of.imp (spT_L fun ds P ⟨n, d, e, hn, hd, p⟩ => ⟨pl n d, ⟨n, d, e, hn, hd, rfl⟩, p⟩)
  obtain ⟨fd_spots_of, D_spots_of⟩ := c.def_ 5 (d := _) rfl
  have c_spots_of : Callee P w K mg base 2 "spots_of" ["n", "d"] (SpM K F_spots_of) := callee (N := N_spots_of) D_spots_of (M "spots_of" (by decide)) sc_spots_of (fun _ _ _ _ _ _ us hl => match us, hl with | [_, _], _ => rfl) (lenM fun ds P h => by obtain ⟨_, _, e, _⟩ := h; rw [e]; rfl) fun cdv A outer s H E cl hr => ⟨t_spots_of K (SpT K F_places_of), d_spots_of (SpT K F_places_of) T c_places_of cl hr, fun vs H Q E h => b_spots_of vs H Q E h⟩
  obtain ⟨fd_form_sum, D_form_sum⟩ := c.def_ 6 (d := _) rfl
  have c_form_sum : Callee P w K mg base 4 "form_sum" ["first", "second"] (SpL K F_form_sum) := callee (N := N_form_sum) D_form_sum (M "form_sum" (by decide)) sc_form_sum (fun _ _ _ _ _ _ us hl => match us, hl with | [_, _], _ => rfl) (lenL fun ds P h => by obtain ⟨_, _, e, _⟩ := h; rw [e]; rfl) fun cdv A outer s H E cl hr => ⟨t_form_sum K (SpP K F_plus), d_form_sum (SpP K F_plus) T c_plus cl hr, bodyL (N := N_form_sum) fun ds P h => b_form_sum ds P h⟩
  obtain ⟨fd_form_times, D_form_times⟩ := c.def_ 7 (d := _) rfl
  have c_form_times : Callee P w K mg base 4 "form_times" ["x", "form"] (SpL K F_form_times) := callee (N := N_form_times) D_form_times (M "form_times" (by decide)) sc_form_times (fun _ _ _ _ _ _ us hl => match us, hl with | [_, _], _ => rfl) (lenL fun ds P h => by obtain ⟨_, _, e, _⟩ := h; rw [e]; rfl) fun cdv A outer s H E cl hr => ⟨t_form_times K (SpP K F_times), d_form_times (SpP K F_times) T c_times cl hr, bodyL (N := N_form_times) fun ds P h => b_form_times ds P h⟩
  obtain ⟨fd_cleared, D_cleared⟩ := c.def_ 8 (d := _) rfl
  have c_cleared : Callee P w K mg base 1 "cleared" ["form"] (SpP K F_cleared) := callee (N := N_cleared) D_cleared (M "cleared" (by decide)) sc_cleared (fun _ _ _ _ _ _ us hl => match us, hl with | [_], _ => rfl) (lenP fun ds P h => by obtain ⟨_, e, _⟩ := h; rw [e]; rfl) fun cdv A outer s H E cl hr => ⟨t_cleared K , d_cleared  T  cl hr, bodyP (N := N_cleared) fun ds P h => b_cleared ds P h⟩
  obtain ⟨fd_integer_product, D_integer_product⟩ := c.def_ 9 (d := _) rfl
  have c_integer_product : Callee P w K mg base 3 "integer_product" ["n", "first", "d", "second", "e"] (SpL K F_integer_product) := callee (N := N_integer_product) D_integer_product (M "integer_product" (by decide)) sc_integer_product (fun _ _ _ _ _ _ us hl => match us, hl with | [_, _, _, _, _], _ => rfl) (lenL fun ds P h => by obtain ⟨_, _, _, _, _, e, _⟩ := h; rw [e]; rfl) fun cdv A outer s H E cl hr => ⟨t_integer_product K (SpL K F_law_places) (SpM K F_spots_of), d_integer_product (SpL K F_law_places) (SpM K F_spots_of) T cL_places_of c_spots_of cl hr, bodyL (N := N_integer_product) fun ds P h => b_integer_product ds P h⟩
  obtain ⟨fd_form_product, D_form_product⟩ := c.def_ 10 (d := _) rfl
  have c_form_product : Callee P w K mg base 4 "form_product" ["n", "first", "d", "second", "e"] (SpL K F_form_product) := callee (N := N_form_product) D_form_product (M "form_product" (by decide)) sc_form_product (fun _ _ _ _ _ _ us hl => match us, hl with | [_, _, _, _, _], _ => rfl) (lenL fun ds P h => by obtain ⟨_, _, _, _, _, e, _⟩ := h; rw [e]; rfl) fun cdv A outer s H E cl hr => ⟨t_form_product K (SpP K F_fraction) (SpP K F_cleared) (SpL K F_integer_product), d_form_product (SpP K F_fraction) (SpP K F_cleared) (SpL K F_integer_product) T c_fraction c_cleared c_integer_product cl hr, bodyL (N := N_form_product) fun ds P h => b_form_product ds P h⟩
  obtain ⟨fd_powers_at, D_powers_at⟩ := c.def_ 11 (d := _) rfl
  have c_powers_at : Callee P w K mg base 4 "powers_at" ["item", "most"] (SpL K F_powers_at) := callee (N := N_powers_at) D_powers_at (M "powers_at" (by decide)) sc_powers_at (fun _ _ _ _ _ _ us hl => match us, hl with | [_, _], _ => rfl) (lenL fun ds P h => by obtain ⟨_, _, e, _⟩ := h; rw [e]; rfl) fun cdv A outer s H E cl hr => ⟨t_powers_at K (SpP K F_times), d_powers_at (SpP K F_times) T c_times cl hr, bodyL (N := N_powers_at) fun ds P h => b_powers_at T.val_ONE ds P h⟩
  obtain ⟨fd_form_at, D_form_at⟩ := c.def_ 12 (d := _) rfl
  have c_form_at : Callee P w K mg base 5 "form_at" ["n", "form", "d", "x"] (SpP K F_form_at) := callee (N := N_form_at) D_form_at (M "form_at" (by decide)) sc_form_at (fun _ _ _ _ _ _ us hl => match us, hl with | [_, _, _, _], _ => rfl) (lenP fun ds P h => by obtain ⟨_, _, _, _, e, _⟩ := h; rw [e]; rfl) fun cdv A outer s H E cl hr => ⟨t_form_at K (SpP K F_plus) (SpP K F_times) (SpL K F_law_places) (SpL K F_powers_at), d_form_at (SpP K F_plus) (SpP K F_times) (SpL K F_law_places) (SpL K F_powers_at) T c_plus c_times cL_places_of c_powers_at cl hr, bodyP (N := N_form_at) fun ds P h => b_form_at T.val_ZERO ds P h⟩
  obtain ⟨fd_law_deck, D_law_deck⟩ := c.def_ 13 (d := _) rfl
  have c_law_deck : Callee P w K mg base 1 "_law_deck" ["script"] (SpL K F_law_deck) := callee (N := N_law_deck) D_law_deck (M "_law_deck" (by decide)) sc_law_deck (fun _ _ _ _ _ _ us hl => match us, hl with | [_], _ => rfl) (lenL fun ds P h => by obtain ⟨_, e, _⟩ := h; rw [e]; rfl) fun cdv A outer s H E cl hr => ⟨t_law_deck K , d_law_deck  T  cl hr, bodyL (N := N_law_deck) fun ds P h => b_law_deck ds P h⟩
  obtain ⟨fd_law_draw, D_law_draw⟩ := c.def_ 14 (d := _) rfl
  have c_law_draw : Callee P w K mg base 1 "_law_draw" ["deck", "bound"] (SpK K F_law_draw) := callee (N := N_law_draw) D_law_draw (M "_law_draw" (by decide)) sc_law_draw (fun _ _ _ _ _ _ us hl => match us, hl with | [_, _], _ => rfl) (lenK fun ds P h => by obtain ⟨_, e, _⟩ := h; rw [e]; rfl) fun cdv A outer s H E cl hr => ⟨t_law_draw K , d_law_draw  T  cl hr, fun vs H Q E h => b_law_draw vs H Q E h⟩
  obtain ⟨fd_law_is, D_law_is⟩ := c.def_ 15 (d := _) rfl
  have c_law_is : Callee P w K mg base 1 "_law_is" ["value", "due"] (SpP K F_law_is) := callee (N := N_law_is) D_law_is (M "_law_is" (by decide)) sc_law_is (fun _ _ _ _ _ _ us hl => match us, hl with | [_, _], _ => rfl) (lenP fun ds P h => by obtain ⟨_, e, _⟩ := h; rw [e]; rfl) fun cdv A outer s H E cl hr => ⟨t_law_is K , d_law_is  T  cl hr, bodyP (N := N_law_is) fun ds P h => b_law_is ds P h⟩
  obtain ⟨fd_law_gcd, D_law_gcd⟩ := c.def_ 16 (d := _) rfl
  have c_law_gcd : Callee P w K mg base 1 "_law_gcd" ["a", "b"] (SpP K F_law_gcd) := callee (N := N_law_gcd) D_law_gcd (M "_law_gcd" (by decide)) sc_law_gcd (fun _ _ _ _ _ _ us hl => match us, hl with | [_, _], _ => rfl) (lenP fun ds P h => by obtain ⟨_, _, e, _⟩ := h; rw [e]; rfl) fun cdv A outer s H E cl hr => ⟨t_law_gcd K , d_law_gcd  T  cl hr, bodyP (N := N_law_gcd) fun ds P h => b_law_gcd ds P h⟩
  obtain ⟨fd_law_frac, D_law_frac⟩ := c.def_ 17 (d := _) rfl
  have c_law_frac : Callee P w K mg base 2 "_law_frac" ["a", "b"] (SpP K F_law_frac) := callee (N := N_law_frac) D_law_frac (M "_law_frac" (by decide)) sc_law_frac (fun _ _ _ _ _ _ us hl => match us, hl with | [_, _], _ => rfl) (lenP fun ds P h => by obtain ⟨_, _, e, _⟩ := h; rw [e]; rfl) fun cdv A outer s H E cl hr => ⟨t_law_frac K (SpP K F_law_gcd), d_law_frac (SpP K F_law_gcd) T c_law_gcd cl hr, bodyP (N := N_law_frac) fun ds P h => b_law_frac ds P h⟩
  obtain ⟨fd_law_plus, D_law_plus⟩ := c.def_ 18 (d := _) rfl
  have c_law_plus : Callee P w K mg base 3 "_law_plus" ["x", "y"] (SpP K F_plus) := callee (N := N_law_plus) D_law_plus (M "_law_plus" (by decide)) sc_law_plus (fun _ _ _ _ _ _ us hl => match us, hl with | [_, _], _ => rfl) (lenP fun ds P h => by obtain ⟨_, _, e, _⟩ := h; rw [e]; rfl) fun cdv A outer s H E cl hr => ⟨t_law_plus K (SpP K F_law_frac), d_law_plus (SpP K F_law_frac) T c_law_frac cl hr, bodyP (N := N_law_plus) fun ds P h => b_law_plus ds P h⟩
  obtain ⟨fd_law_times, D_law_times⟩ := c.def_ 19 (d := _) rfl
  have c_law_times : Callee P w K mg base 3 "_law_times" ["x", "y"] (SpP K F_times) := callee (N := N_law_times) D_law_times (M "_law_times" (by decide)) sc_law_times (fun _ _ _ _ _ _ us hl => match us, hl with | [_, _], _ => rfl) (lenP fun ds P h => by obtain ⟨_, _, e, _⟩ := h; rw [e]; rfl) fun cdv A outer s H E cl hr => ⟨t_law_times K (SpP K F_law_frac), d_law_times (SpP K F_law_frac) T c_law_frac cl hr, bodyP (N := N_law_times) fun ds P h => b_law_times ds P h⟩
  obtain ⟨fd_law_places, D_law_places⟩ := c.def_ 20 (d := _) rfl
  have c_law_places : Callee P w K mg base 1 "_law_places" ["n", "d"] (SpL K F_law_places) := callee (N := N_law_places) D_law_places (M "_law_places" (by decide)) sc_law_places (fun _ _ _ _ _ _ us hl => match us, hl with | [_, _], _ => rfl) (lenL fun ds P h => by obtain ⟨_, _, e, _⟩ := h; rw [e]; rfl) fun cdv A outer s H E cl hr => ⟨t_law_places K , d_law_places  T  cl hr, bodyL (N := N_law_places) fun ds P h => b_law_places ds P h⟩
  obtain ⟨fd_law_item, D_law_item⟩ := c.def_ 21 (d := _) rfl
  have c_law_item : Callee P w K mg base 3 "_law_item" ["deck"] (SpK K F_law_item) := callee (N := N_law_item) D_law_item (M "_law_item" (by decide)) sc_law_item (fun _ _ _ _ _ _ us hl => match us, hl with | [_], _ => rfl) (lenK fun ds P h => by obtain ⟨e, _⟩ := h; rw [e]; rfl) fun cdv A outer s H E cl hr => ⟨t_law_item K (SpK K F_law_draw) (SpP K F_law_frac), d_law_item (SpK K F_law_draw) (SpP K F_law_frac) T c_law_draw c_law_frac cl hr, bodyK (N := N_law_item) fun ds P h => b_law_item ds P h⟩
  obtain ⟨fd_law_degree, D_law_degree⟩ := c.def_ 22 (d := _) rfl
  have c_law_degree : Callee P w K mg base 2 "_law_degree" ["deck"] (SpK K F_law_degree) := callee (N := N_law_degree) D_law_degree (M "_law_degree" (by decide)) sc_law_degree (fun _ _ _ _ _ _ us hl => match us, hl with | [_], _ => rfl) (lenK fun ds P h => by obtain ⟨e, _⟩ := h; rw [e]; rfl) fun cdv A outer s H E cl hr => ⟨t_law_degree K (SpK K F_law_draw), d_law_degree (SpK K F_law_draw) T c_law_draw cl hr, bodyK (N := N_law_degree) fun ds P h => b_law_degree ds P h⟩
  obtain ⟨fd_law_product, D_law_product⟩ := c.def_ 23 (d := _) rfl
  have c_law_product : Callee P w K mg base 4 "_law_product" ["n", "first", "d", "second", "e"] (SpL K F_form_product) := callee (N := N_law_product) D_law_product (M "_law_product" (by decide)) sc_law_product (fun _ _ _ _ _ _ us hl => match us, hl with | [_, _, _, _, _], _ => rfl) (lenL fun ds P h => by obtain ⟨_, _, _, _, _, e, _⟩ := h; rw [e]; rfl) fun cdv A outer s H E cl hr => ⟨t_law_product K (SpP K F_plus) (SpP K F_times) (SpL K F_law_places), d_law_product (SpP K F_plus) (SpP K F_times) (SpL K F_law_places) T c_law_plus c_law_times c_law_places cl hr, bodyL (N := N_law_product) fun ds P h => b_law_product ds P h⟩
  obtain ⟨fd_law_at, D_law_at⟩ := c.def_ 24 (d := _) rfl
  have c_law_at : Callee P w K mg base 4 "_law_at" ["n", "form", "d", "x"] (SpP K F_form_at) := callee (N := N_law_at) D_law_at (M "_law_at" (by decide)) sc_law_at (fun _ _ _ _ _ _ us hl => match us, hl with | [_, _, _, _], _ => rfl) (lenP fun ds P h => by obtain ⟨_, _, _, _, e, _⟩ := h; rw [e]; rfl) fun cdv A outer s H E cl hr => ⟨t_law_at K (SpP K F_plus) (SpP K F_times) (SpL K F_law_places), d_law_at (SpP K F_plus) (SpP K F_times) (SpL K F_law_places) T c_law_plus c_law_times c_law_places cl hr, bodyP (N := N_law_at) fun ds P h => b_law_at ds P h⟩
  obtain ⟨fd_law_is_placed, D_law_is_placed⟩ := c.def_ 25 (d := _) rfl
  have c_law_is_placed : Callee P w K mg base 2 "_law_is_placed" ["deck", "n", "d"] (SpK K F_law_is_placed) := callee (N := N_law_is_placed) D_law_is_placed (M "_law_is_placed" (by decide)) sc_law_is_placed (fun _ _ _ _ _ _ us hl => match us, hl with | [_, _, _], _ => rfl) (lenK fun ds P h => by obtain ⟨_, _, e, _⟩ := h; rw [e]; rfl) fun cdv A outer s H E cl hr => ⟨t_law_is_placed K (SpL K F_law_places) (SpK K F_law_draw) (SpP K F_law_is) (SpL K F_law_places), d_law_is_placed (SpL K F_law_places) (SpK K F_law_draw) (SpP K F_law_is) (SpL K F_law_places) T cL_places_of c_law_draw c_law_is c_law_places cl hr, bodyK (N := N_law_is_placed) fun ds P h => b_law_is_placed ds P h⟩
  obtain ⟨fd_law_is_summed, D_law_is_summed⟩ := c.def_ 26 (d := _) rfl
  have c_law_is_summed : Callee P w K mg base 5 "_law_is_summed" ["deck", "n", "d"] (SpK K F_law_is_summed) := callee (N := N_law_is_summed) D_law_is_summed (M "_law_is_summed" (by decide)) sc_law_is_summed (fun _ _ _ _ _ _ us hl => match us, hl with | [_, _, _], _ => rfl) (lenK fun ds P h => by obtain ⟨_, _, e, _⟩ := h; rw [e]; rfl) fun cdv A outer s H E cl hr => ⟨t_law_is_summed K (SpL K F_form_sum) (SpL K F_form_times) (SpK K F_law_draw) (SpP K F_law_is) (SpP K F_plus) (SpP K F_times) (SpL K F_law_places) (SpK K F_law_item), d_law_is_summed (SpL K F_form_sum) (SpL K F_form_times) (SpK K F_law_draw) (SpP K F_law_is) (SpP K F_plus) (SpP K F_times) (SpL K F_law_places) (SpK K F_law_item) T c_form_sum c_form_times c_law_draw c_law_is c_law_plus c_law_times c_law_places c_law_item cl hr, bodyK (N := N_law_is_summed) fun ds P h => b_law_is_summed ds P h⟩
  obtain ⟨fd_law_is_multiplied, D_law_is_multiplied⟩ := c.def_ 27 (d := _) rfl
  have c_law_is_multiplied : Callee P w K mg base 6 "_law_is_multiplied" ["deck", "n", "d", "e"] (SpK K F_law_is_multiplied) := callee (N := N_law_is_multiplied) D_law_is_multiplied (M "_law_is_multiplied" (by decide)) sc_law_is_multiplied (fun _ _ _ _ _ _ us hl => match us, hl with | [_, _, _, _], _ => rfl) (lenK fun ds P h => by obtain ⟨_, _, _, e, _⟩ := h; rw [e]; rfl) fun cdv A outer s H E cl hr => ⟨t_law_is_multiplied K (SpL K F_form_product) (SpP K F_form_at) (SpK K F_law_draw) (SpP K F_law_is) (SpP K F_times) (SpL K F_law_places) (SpK K F_law_item) (SpL K F_form_product) (SpP K F_form_at), d_law_is_multiplied (SpL K F_form_product) (SpP K F_form_at) (SpK K F_law_draw) (SpP K F_law_is) (SpP K F_times) (SpL K F_law_places) (SpK K F_law_item) (SpL K F_form_product) (SpP K F_form_at) T c_form_product c_form_at c_law_draw c_law_is c_law_times c_law_places c_law_item c_law_product c_law_at cl hr, bodyK (N := N_law_is_multiplied) fun ds P h => b_law_is_multiplied ds P h⟩
  exact okG D_law sc_law (fun vs H Q E ⟨a, ns, e, _⟩ => by rw [e]; rfl) (fun cdv A outer s H vs Q E cl hr hsp => ⟨t_law K (SpL K F_law_deck) (SpK K F_law_draw) (SpK K F_law_degree) (SpK K F_law_is_placed) (SpK K F_law_is_summed) (SpK K F_law_is_multiplied), PSs.nox (d_law (SpL K F_law_deck) (SpK K F_law_draw) (SpK K F_law_degree) (SpK K F_law_is_placed) (SpK K F_law_is_summed) (SpK K F_law_is_multiplied) T c_law_deck c_law_draw c_law_degree c_law_is_placed c_law_is_summed c_law_is_multiplied cl hr), b_law vs H Q E hsp⟩)
end Pk

namespace Pk
open PySem PySem.Spec PyProof.Rows L2
abbrev AlX : Type := He.AlD × Bool
def obsX (fa : List He.Fa) (fn : List He.DefD) (ex : PySem.W.Frag → Bool) (K : PySem.W.Frag) : AlX := (He.obsD fa fn K, ex K)
def obsXG (n : Nat) (fa : List He.Fa) (fn : List He.DefD) (ex : PySem.W.Frag → Bool) (g : Addr → Option Obj) : AlX := obsX fa fn ex (He.frG g (cStatics :: He.asD g n))
def hookX (n : Nat) (fa : List He.Fa) (fn : List He.DefD) (ex : PySem.W.Frag → Bool) : PySem.W.Hook where
  α := AlX
  obs := fun s => obsXG n fa fn ex s.heap.get?
  val := fun _ => (He.valD fn, true)
  says := fun _ h => ∃ K : PySem.W.Frag, K.In h ∧ He.SaysD fa fn K ∧ ex K = true
  of := fun _ _ e => ⟨_, He.frG_in, congrArg (fun z : AlX => z.1) e, congrArg (fun z : AlX => z.2) e⟩
  keeps := fun _ _ _ ⟨K, hK, c⟩ k => ⟨K, PySem.W.Frag.In.keeps hK k, c⟩
theorem obsXG_eq {n : Nat} {fa : List He.Fa} {fn : List He.DefD} {ex : PySem.W.Frag → Bool} {g : Addr → Option Obj} {s : Shared} (h : ∀ a, g a = s.heap.get? a) : obsXG n fa fn ex g = (hookX n fa fn ex).obs s := by
  have e : g = s.heap.get? := funext h
  rw [e] <;> rfl
def ex (K : PySem.W.Frag) : Bool := (He.tupB K "ZERO" [.int 0, .int 1] && He.tupB K "ONE" [.int 1, .int 1]) && ((decide (PySem.W.nsIn K mainGlobals "ZERO" = some (some (.ref (He.ga K "ZERO")))) && decide (PySem.W.nsIn K mainGlobals "ONE" = some (some (.ref (He.ga K "ONE"))))) && (decide (PySem.W.nsIn K mainGlobals "gcd" = some (some (.builtin "math.gcd"))) && decide (PySem.W.nsIn K cStatics "sys.int_max_str_digits" = some none)))
abbrev R : PySem.W.OpenRow := PySem.W.OpenLaw.row PySem.Challenge.rw_planecuts_k64_forms
abbrev hk : PySem.W.Hook := hookX 4 fa fn ex
def ob (s : PySem.W.SharedT) : AlX := obsXG 4 fa fn ex (HandSHeadRun.getT s)
theorem ob_eq (s : PySem.W.SharedT) : ob s = hk.obs s.abs := obsXG_eq (HandSHeadRun.getT_eq s)
def loose : List PySem.Str := (["ZERO", "ONE"] : List PySem.Str) ++ (fn.map (fun d => d.name)).filter (fun x => decide (x ≠ ("law" : PySem.Str)))
theorem run (w : World) : HandSHeadRun.RunEqI R (PySem.W.view R.prog [0, 34]) hk ob 6000 loose w := by
  unfold HandSHeadRun.RunEqI
  kernel_rfl
theorem ba2 {a b : Bool} (h : (a && b) = true) : a = true ∧ b = true := Bool.and_eq_true_iff.mp h
theorem facts {P : Program} {w : World} {K : PySem.W.Frag} {h : Heap} {mg : Str → Option Value} {f : Addr} (X : K.In h) (G : h.Ns mainGlobals mg) (hfa : mg ("law" : Str) = some (.ref f)) (c : He.SaysD fa fn K) (ce : ex K = true) :
    ∃ fd : FuncData, (∀ (s : Shared) (v : Value), BindsTo s fd ⟨[v], []⟩ [("script", v)]) ∧ ∀ base : Heap, K.In base → base.Ns mainGlobals mg → FnG P w K mg base CX0 7 f fd ["script"] (SpLaw K) := by
  obtain ⟨c12, c3456⟩ := ba2 ce
  obtain ⟨c1, c2⟩ := ba2 c12
  obtain ⟨c34, c56⟩ := ba2 c3456
  obtain ⟨c3, c4⟩ := ba2 c34
  obtain ⟨c5, c6⟩ := ba2 c56
  have T : Txt K mg := by
    refine ⟨PySem.W.mg_of X G (of_decide_eq_true c3), PySem.W.mg_of X G (of_decide_eq_true c4), fun H => He.tupB_ok c1 H, fun H => He.tupB_ok c2 H, PySem.W.mg_of X G (of_decide_eq_true c5), of_decide_eq_true c6, He.free_ok X G (c.fact 29 (f := .free "abs") rfl), He.free_ok X G (c.fact 30 (f := .free "enumerate") rfl), He.free_ok X G (c.fact 31 (f := .free "int") rfl), He.free_ok X G (c.fact 32 (f := .free "len") rfl), He.free_ok X G (c.fact 33 (f := .free "list") rfl), He.free_ok X G (c.fact 34 (f := .free "range") rfl), He.free_ok X G (c.fact 35 (f := .free "repr") rfl), He.free_ok X G (c.fact 36 (f := .free "tuple") rfl), He.free_ok X G (c.fact 37 (f := .free "zip") rfl)⟩
  have M : ∀ x ∈ names, mg x = some (.ref (He.ga K x)) := by
    intro x hx
    simp only [names, List.mem_cons, List.not_mem_nil, or_false] at hx
    rcases hx with rfl | rfl | rfl | rfl | rfl | rfl | rfl | rfl | rfl | rfl | rfl | rfl | rfl | rfl | rfl | rfl | rfl | rfl | rfl | rfl | rfl | rfl | rfl | rfl | rfl | rfl | rfl | rfl | rfl
    · exact He.glo_ok X G (c.fact 0 (f := .glo "common") rfl)
    · exact He.glo_ok X G (c.fact 1 (f := .glo "fraction") rfl)
    · exact He.glo_ok X G (c.fact 2 (f := .glo "plus") rfl)
    · exact He.glo_ok X G (c.fact 3 (f := .glo "times") rfl)
    · exact He.glo_ok X G (c.fact 4 (f := .glo "places_of") rfl)
    · exact He.glo_ok X G (c.fact 5 (f := .glo "spots_of") rfl)
    · exact He.glo_ok X G (c.fact 6 (f := .glo "form_sum") rfl)
    · exact He.glo_ok X G (c.fact 7 (f := .glo "form_times") rfl)
    · exact He.glo_ok X G (c.fact 8 (f := .glo "cleared") rfl)
    · exact He.glo_ok X G (c.fact 9 (f := .glo "integer_product") rfl)
    · exact He.glo_ok X G (c.fact 10 (f := .glo "form_product") rfl)
    · exact He.glo_ok X G (c.fact 11 (f := .glo "powers_at") rfl)
    · exact He.glo_ok X G (c.fact 12 (f := .glo "form_at") rfl)
    · exact He.glo_ok X G (c.fact 13 (f := .glo "_law_deck") rfl)
    · exact He.glo_ok X G (c.fact 14 (f := .glo "_law_draw") rfl)
    · exact He.glo_ok X G (c.fact 15 (f := .glo "_law_is") rfl)
    · exact He.glo_ok X G (c.fact 16 (f := .glo "_law_gcd") rfl)
    · exact He.glo_ok X G (c.fact 17 (f := .glo "_law_frac") rfl)
    · exact He.glo_ok X G (c.fact 18 (f := .glo "_law_plus") rfl)
    · exact He.glo_ok X G (c.fact 19 (f := .glo "_law_times") rfl)
    · exact He.glo_ok X G (c.fact 20 (f := .glo "_law_places") rfl)
    · exact He.glo_ok X G (c.fact 21 (f := .glo "_law_item") rfl)
    · exact He.glo_ok X G (c.fact 22 (f := .glo "_law_degree") rfl)
    · exact He.glo_ok X G (c.fact 23 (f := .glo "_law_product") rfl)
    · exact He.glo_ok X G (c.fact 24 (f := .glo "_law_at") rfl)
    · exact He.glo_ok X G (c.fact 25 (f := .glo "_law_is_placed") rfl)
    · exact He.glo_ok X G (c.fact 26 (f := .glo "_law_is_summed") rfl)
    · exact He.glo_ok X G (c.fact 27 (f := .glo "_law_is_multiplied") rfl)
    · exact He.glo_ok X G (c.fact 28 (f := .glo "law") rfl)
  obtain ⟨fd, D⟩ := c.def_ 28 (d := _) rfl
  have b := FunD.bindsA (ps := ["script"]) D fun _ _ _ _ _ _ us hl => match us, hl with | [_], _ => rfl
  have e0 : mg ("law" : Str) = some (.ref (He.ga K "law")) := M _ (by decide)
  have e := hfa.symm.trans e0
  cases e
  refine ⟨fd, fun s v => b s [v] rfl, fun base hB hG => ?_⟩
  exact chain T c M D
end Pk

open PySem PySem.W PySem.Calls PyProof.Rows
theorem PySem.Challenge.cw_planecuts_k64_forms_holds : PySem.Challenge.rw_planecuts_k64_forms.Holds := by
  w_on; o_law
  refine HandSHeadRun.head_imp (r := OpenLaw.row PySem.Challenge.rw_planecuts_k64_forms) (q := view (OpenLaw.row PySem.Challenge.rw_planecuts_k64_forms).prog [0, 34]) (H := Pk.hk) (ob := Pk.ob) (M := 6000) (loose := Pk.loose) (d := HandSHeadRun.topDef (OpenLaw.row PySem.Challenge.rw_planecuts_k64_forms).prog 34) (kwd := []) Pk.ob_eq
    Pk.run (by kernel_rfl) (by kernel_rfl) (by kernel_rfl) (by rfl) (by first | assumption | decide +kernel) (by decide +kernel) ⟨rfl, rfl, rfl, rfl, rfl, by decide +kernel⟩ ?hw ?hc
  case hw => w_witness2
  case hc =>
    refine Pk.walkG (l := PySem.Challenge.rw_planecuts_k64_forms) (n := 63) (k := 7) (x := "script") (CX := L2.CX0) rfl (by decide) (by kernel_rfl) ⟨rfl, by decide, by decide⟩ ?F (fun _ _ _ _ z => z)
    intro w mg fa h Y G hmg0
    obtain ⟨K, KX, c, ce⟩ := Y
    have hmg : mg ("law" : PySem.Str) = some (.ref fa) := by
      have e : (HandSHeadRun.topDef (OpenLaw.row PySem.Challenge.rw_planecuts_k64_forms).prog 34).name = ("law" : PySem.Str) := by kernel_rfl
      rw [← e]
      exact hmg0
    obtain ⟨fd, hb, hF⟩ := Pk.facts (P := (PySem.Challenge.rw_planecuts_k64_forms).prog) (w := w) KX G hmg c ce
    exact ⟨K, fd, Pk.SpLaw K, KX, hb, fun H a ns hl hS => ⟨a, ns, rfl, hS, fun _ => rfl⟩, hF⟩
